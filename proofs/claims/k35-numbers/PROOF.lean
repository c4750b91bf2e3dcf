import PyProof.Rows.All
import Wide.All
import OpenK.AllK
import Wide.FinOn
import HandS.ForMost
import HandS.ForExc
import HandS.Walk
import HandS.Wide
import HandS.Flow
import HandS.Style
import HandS.Zip
import HandS.Conv
import HandS.IsInst
import HandS.Deep
import HandS.More
import HandS.Codes
import HandS.TupAny
import HandS.TupMul
import HandS.Gcd
import HandS.DictComp
import KE.GoesEnum
import HandS.CallLocal
import KE.KDictZip
import HandS.SetFor
import HandS.SortOrd
import HandS.TupSets
import HandS.Ends
import HandS.Words
import HandS.Defaults
import HandS.Head0
import HandS.Head1
import HandS.Head2
import HandS.Head3
import HandS.HeadEnd
import HandS.HeadHook1
import HandS.HeadHook2
import PySem.Challenge.RW_choiceshown_k35_numbers_and_bundles
set_option Elab.async false
set_option linter.all false
set_option maxRecDepth 100000
set_option maxHeartbeats 0
namespace Dv
open PySem PySem.Spec
open PyProof.Rows L2

/-- data: what a value is, without addresses -/
inductive D where
  | non | bl (b : Bool) | int (i : Int) | str (x : Str)
  | tup (ds : List D) | kt (ds : List D) | lst (ds : List D)
  | dK (kvs : List (Key × D)) | dT (kvs : List (List Key × D))
  | rng (a : Addr) | fn (a : Addr) | scr (ns : List Int)

/-- at v, in the frozen part F of the heap, lies d -/
inductive Rep (K : PySem.W.Frag) (F : Hp) : V → D → Prop
  | non : Rep K F .non .non
  | bl (b : Bool) : Rep K F (.bl b) (.bl b)
  | int (i : Int) : Rep K F (.int i) (.int i)
  | str (x : Str) : Rep K F (.str x) (.str x)
  | tup {a : Addr} {vs : List V} {ds : List D} (h : F a = some (.tup vs)) (hz : ds.length ≤ sizeLine) (hl : vs.length = ds.length) (r : ∀ (i : Nat) v d, vs[i]? = some v → ds[i]? = some d → Rep K F v d) : Rep K F (.ref a) (.tup ds)
  | kt {a : Addr} {vs : List V} {ds : List D} (h : SqT K (fun _ => none) a vs) (hl : vs.length = ds.length) (r : ∀ (i : Nat) v d, vs[i]? = some v → ds[i]? = some d → Rep K F v d) : Rep K F (.ref a) (.kt ds)
  | lst {a : Addr} {vs : List V} {ds : List D} (h : F a = some (.lst vs)) (hz : ds.length ≤ sizeLine) (hl : vs.length = ds.length) (r : ∀ (i : Nat) v d, vs[i]? = some v → ds[i]? = some d → Rep K F v d) : Rep K F (.ref a) (.lst ds)
  | dK {a : Addr} {kvs : List (Key × V)} {ds : List (Key × D)} (h : Rd F a (.dK kvs)) (hk : kvs.map (·.1) = ds.map (·.1)) (r : ∀ (i : Nat) v d, kvs[i]? = some v → ds[i]? = some d → Rep K F v.2 d.2) : Rep K F (.ref a) (.dK ds)
  | dT {a : Addr} {kvs : List (List Key × V)} {ds : List (List Key × D)} (h : F a = some (.dT kvs)) (hk : kvs.map (·.1) = ds.map (·.1)) (r : ∀ (i : Nat) v d, kvs[i]? = some v → ds[i]? = some d → Rep K F v.2 d.2) : Rep K F (.ref a) (.dT ds)
  | rng (a : Addr) : Rep K F (.ref a) (.rng a)
  | fn (a : Addr) : Rep K F (.ref a) (.fn a)
  | scr {a : Addr} {ns : List Int} (h : SqL K F a (ns.map V.int)) : Rep K F (.ref a) (.scr ns)

abbrev RepL (K : PySem.W.Frag) (F : Hp) : List V → List D → Prop := Paired (Rep K F)
abbrev RepP {κ : Type} (K : PySem.W.Frag) (F : Hp) : List (κ × V) → List (κ × D) → Prop := Paired fun p q => p.1 = q.1 ∧ Rep K F p.2 q.2

abbrev Le (F F' : Hp) : Prop := Same F F'

section paired
variable {α β : Type} {R : α → β → Prop}
theorem paired_of : ∀ {xs : List α} {ys : List β}, xs.length = ys.length → (∀ (i : Nat) x y, xs[i]? = some x → ys[i]? = some y → R x y) → Paired R xs ys
  | [], [], _, _ => .nil
  | [], _ :: _, hlen, _ => by simp at hlen
  | _ :: _, [], hlen, _ => by simp at hlen
  | x :: xs, y :: ys, h, r => .cons (r 0 x y rfl rfl) (paired_of (by simpa using h) fun i a b e1 e2 => r (i + 1) a b (by simpa using e1) (by simpa using e2))
theorem paired_get : ∀ {xs : List α} {ys : List β}, Paired R xs ys → ∀ (i : Nat) x y, xs[i]? = some x → ys[i]? = some y → R x y
  | _, _, .nil, _, _, _, h, _ => by simp at h
  | _, _, .cons r _, 0, _, _, h1, h2 => by simp at h1 h2; subst h1; subst h2; exact r
  | _, _, .cons _ t, i + 1, _, _, h1, h2 => paired_get t i _ _ (by simpa using h1) (by simpa using h2)
theorem paired_get' {xs : List α} {ys : List β} (h : Paired R xs ys) {i : Nat} {y : β} (e : ys[i]? = some y) : ∃ x, xs[i]? = some x ∧ R x y := by
  have hl : xs.length = ys.length := Paired.length h
  have hi : i < ys.length := (List.getElem?_eq_some_iff.mp e).1
  refine ⟨xs[i]'(by omega), List.getElem?_eq_getElem _, paired_get h i _ _ (List.getElem?_eq_getElem _) e⟩
theorem paired_get'' {xs : List α} {ys : List β} (h : Paired R xs ys) {i : Nat} {x : α} (e : xs[i]? = some x) : ∃ y, ys[i]? = some y ∧ R x y := by
  have hl : xs.length = ys.length := Paired.length h
  have hi : i < xs.length := (List.getElem?_eq_some_iff.mp e).1
  refine ⟨ys[i]'(by omega), List.getElem?_eq_getElem _, paired_get h i _ _ e (List.getElem?_eq_getElem _)⟩
theorem paired_app {xs xs' : List α} {ys ys' : List β} (h : Paired R xs ys) (h' : Paired R xs' ys') : Paired R (xs ++ xs') (ys ++ ys') := by
  induction h with
  | nil => exact h'
  | cons r _ ih => exact .cons r ih
theorem paired_set {x : α} {y : β} (r : R x y) : ∀ {xs : List α} {ys : List β} (i : Nat), Paired R xs ys → Paired R (xs.set i x) (ys.set i y)
  | _, _, _, .nil => .nil
  | _, _, 0, .cons _ tt => .cons r tt
  | _, _, i + 1, .cons q t => .cons q (paired_set r i t)
theorem paired_take : ∀ {xs : List α} {ys : List β} (n : Nat), Paired R xs ys → Paired R (xs.take n) (ys.take n)
  | _, _, 0, _ => by simp; exact .nil
  | _, _, _ + 1, .nil => .nil
  | _, _, n + 1, .cons r t => .cons r (paired_take n t)
theorem paired_drop : ∀ {xs : List α} {ys : List β} (n : Nat), Paired R xs ys → Paired R (xs.drop n) (ys.drop n)
  | _, _, 0, h => h
  | _, _, _ + 1, .nil => .nil
  | _, _, n + 1, .cons _ t => paired_drop n t
theorem paired_rev {xs : List α} {ys : List β} (h : Paired R xs ys) : Paired R xs.reverse ys.reverse := by
  induction h with
  | nil => exact .nil
  | cons r _ ih => simp only [List.reverse_cons]; exact paired_app ih (.cons r .nil)
theorem paired_eraseIdx : ∀ {xs : List α} {ys : List β} (n : Nat), Paired R xs ys → Paired R (xs.eraseIdx n) (ys.eraseIdx n)
  | _, _, _, .nil => .nil
  | _, _, 0, .cons _ t => t
  | _, _, n + 1, .cons r t => .cons r (paired_eraseIdx n t)
theorem paired_dropLast {xs : List α} {ys : List β} (h : Paired R xs ys) : Paired R xs.dropLast ys.dropLast := by
  rw [List.dropLast_eq_take, List.dropLast_eq_take, Paired.length h]; exact paired_take _ h
theorem paired_mono {R' : α → β → Prop} {xs : List α} {ys : List β} (h : Paired R xs ys) (f : ∀ a b, R a b → R' a b) : Paired R' xs ys := Paired.mapP h f
theorem paired_repl {x : α} {y : β} (r : R x y) : ∀ n, Paired R (List.replicate n x) (List.replicate n y)
  | 0 => .nil
  | n + 1 => .cons r (paired_repl r n)
theorem paired_map2 {α' β' : Type} {R' : α' → β' → Prop} {f : α → α'} {g : β → β'} {xs : List α} {ys : List β} (h : Paired R xs ys) (k : ∀ a b, R a b → R' (f a) (g b)) : Paired R' (xs.map f) (ys.map g) := by
  induction h with
  | nil => exact .nil
  | cons r _ ih => exact .cons (k _ _ r) ih
theorem paired_unmap {α' β' : Type} {R' : α' → β' → Prop} {f : α → α'} {g : β → β'} : ∀ {xs : List α} {ys : List β}, Paired R' (xs.map f) (ys.map g) → Paired (fun a b => R' (f a) (g b)) xs ys
  | [], [], _ => .nil
  | [], _ :: _, h => by cases h
  | _ :: _, [], h => by cases h
  | _ :: _, _ :: _, .cons r t => .cons r (paired_unmap t)
theorem paired_flat {xss : List (List α)} {yss : List (List β)} (h : Paired (Paired R) xss yss) : Paired R xss.flatten yss.flatten := by
  induction h with
  | nil => exact .nil
  | cons r _ ih => simp only [List.flatten_cons]; exact paired_app r ih
end paired

section rep
variable {K : PySem.W.Frag} {F F' : Hp} {v : V} {d : D} {a : Addr}
theorem SqT_mono {xs : List V} (e : Le F F') (h : SqT K F a xs) : SqT K F' a xs := by
  (rcases h with (h | ⟨o, h⟩) | h)
  · exact .inl (.inl (e _ _ h))
  · (exact .inl (.inr ⟨o, e _ _ h⟩))
  · exact .inr h
theorem Rep.mono (e : Le F F') (r : Rep K F v d) : Rep K F' v d := by
  induction r with
  | non => exact .non
  | bl b => exact .bl b
  | int i => exact .int i
  | str x => exact .str x
  | tup h hz hl _ ih => exact .tup (e _ _ h) hz hl ih
  | kt h hl _ ih => exact .kt h hl ih
  | lst h hz hl _ ih => exact .lst (e _ _ h) hz hl ih
  | dK h hk _ ih => exact .dK (h.imp (e _ _) fun ⟨o, z⟩ => ⟨o, e _ _ z⟩) hk ih
  | dT h hk _ ih => exact .dT (e _ _ h) hk ih
  | rng a => exact .rng a
  | fn a => exact .fn a
  | scr h => exact .scr (Same.seq e h)
theorem RepL.mono {vs : List V} {ds : List D} (e : Le F F') (r : RepL K F vs ds) : RepL K F' vs ds := paired_mono r fun _ _ => Rep.mono e
theorem RepP.mono {κ : Type} {vs : List (κ × V)} {ds : List (κ × D)} (e : Le F F') (r : RepP K F vs ds) : RepP K F' vs ds := paired_mono r fun _ _ h => ⟨h.1, h.2.mono e⟩
theorem Rep.mkTup {vs : List V} {ds : List D} (h : F a = some (.tup vs)) (hz : ds.length ≤ sizeLine) (r : RepL K F vs ds) : Rep K F (.ref a) (.tup ds) := .tup h hz (Paired.length r) (paired_get r)
theorem Rep.mkLst {vs : List V} {ds : List D} (h : F a = some (.lst vs)) (hz : ds.length ≤ sizeLine) (r : RepL K F vs ds) : Rep K F (.ref a) (.lst ds) := .lst h hz (Paired.length r) (paired_get r)
theorem RepP.keys {κ : Type} {vs : List (κ × V)} {ds : List (κ × D)} (r : RepP K F vs ds) : vs.map (·.1) = ds.map (·.1) := by
  induction r with
  | nil => rfl
  | cons h _ ih => simp only [List.map_cons, ih, h.1]
theorem repP_of {κ : Type} {vs : List (κ × V)} {ds : List (κ × D)} (hk : vs.map (·.1) = ds.map (·.1)) (r : ∀ (i : Nat) v d, vs[i]? = some v → ds[i]? = some d → Rep K F v.2 d.2) : RepP K F vs ds := by
  have hl : vs.length = ds.length := by have := congrArg List.length hk; simpa using this
  refine paired_of hl fun i x y h1 h2 => ⟨?_, r i x y h1 h2⟩
  have e : (vs.map (·.1))[i]? = (ds.map (·.1))[i]? := by rw [hk]
  rw [List.getElem?_map, List.getElem?_map, h1, h2] at e
  exact Option.some.inj e
theorem Rep.mkK {vs : List (Key × V)} {ds : List (Key × D)} (h : F a = some (.dK vs)) (r : RepP K F vs ds) : Rep K F (.ref a) (.dK ds) := .dK (.inl h) (RepP.keys r) fun i v d e1 e2 => (paired_get r i v d e1 e2).2
theorem Rep.mkT {vs : List (List Key × V)} {ds : List (List Key × D)} (h : F a = some (.dT vs)) (r : RepP K F vs ds) : Rep K F (.ref a) (.dT ds) := .dT h (RepP.keys r) fun i v d e1 e2 => (paired_get r i v d e1 e2).2
theorem Rep.mkKt {vs : List V} {ds : List D} (h : SqT K (fun _ => none) a vs) (r : RepL K F vs ds) : Rep K F (.ref a) (.kt ds) := .kt h (Paired.length r) (paired_get r)
theorem Rep.untup' {ds : List D} (r : Rep K F v (.tup ds)) : ∃ a vs, v = .ref a ∧ F a = some (.tup vs) ∧ RepL K F vs ds := by
  cases r with | tup h _ hl r => exact ⟨_, _, rfl, h, paired_of hl r⟩
theorem Rep.unkt {ds : List D} (r : Rep K F v (.kt ds)) : ∃ a vs, v = .ref a ∧ SqT K (fun _ => none) a vs ∧ RepL K F vs ds := by
  cases r with | kt h hl r => exact ⟨_, _, rfl, h, paired_of hl r⟩
/-- the items of a tuple -/
def D.asT : D → Option (List D)
  | .tup ds => some ds
  | .kt ds => some ds
  | _ => none
theorem Rep.untup {d : D} {ds : List D} (h : d.asT = some ds) (r : Rep K F v d) : ∃ a vs, v = .ref a ∧ SqT K F a vs ∧ RepL K F vs ds := by
  unfold D.asT at h
  split at h
  · cases h
    obtain ⟨a, vs, e, q, r⟩ := r.untup'
    exact ⟨a, vs, e, .of q, r⟩
  · cases h
    obtain ⟨a, vs, e, q, r⟩ := r.unkt
    exact ⟨a, vs, e, SqT_mono (fun _ _ z => by cases z) q, r⟩
  · cases h
theorem Rep.unlst {ds : List D} (r : Rep K F v (.lst ds)) : ∃ a vs, v = .ref a ∧ F a = some (.lst vs) ∧ RepL K F vs ds := by
  cases r with | lst h _ hl r => exact ⟨_, _, rfl, h, paired_of hl r⟩
theorem Rep.undK {ds : List (Key × D)} (r : Rep K F v (.dK ds)) : ∃ a vs, v = .ref a ∧ Rd F a (.dK vs) ∧ RepP K F vs ds := by
  cases r with | dK h hk r => exact ⟨_, _, rfl, h, repP_of hk r⟩
theorem Rep.undT {ds : List (List Key × D)} (r : Rep K F v (.dT ds)) : ∃ a vs, v = .ref a ∧ F a = some (.dT vs) ∧ RepP K F vs ds := by
  cases r with | dT h hk r => exact ⟨_, _, rfl, h, repP_of hk r⟩
end rep

/-- what an owned object holds -/
inductive OwnHO (K : PySem.W.Frag) (F : Hp) : HO → D → Prop
  | lst {vs : List V} {ds : List D} (hz : ds.length ≤ sizeLine) (r : RepL K F vs ds) : OwnHO K F (.lst vs) (.lst ds)
  | dK {vs : List (Key × V)} {ds : List (Key × D)} (r : RepP K F vs ds) : OwnHO K F (.dK vs) (.dK ds)
  | dT {vs : List (List Key × V)} {ds : List (List Key × D)} (r : RepP K F vs ds) : OwnHO K F (.dT vs) (.dT ds)
theorem OwnHO.mono {K : PySem.W.Frag} {F F' : Hp} {o : HO} {d : D} (e : Le F F') (h : OwnHO K F o d) : OwnHO K F' o d := by
  cases h with
  | lst hz r => exact .lst hz (RepL.mono e r)
  | dK r => exact .dK (RepP.mono e r)
  | dT r => exact .dT (RepP.mono e r)
theorem OwnHO.rep {K : PySem.W.Frag} {F : Hp} {o : HO} {d : D} {a : Addr} (h : OwnHO K F o d) (e : F a = some o) : Rep K F (.ref a) d := by
  cases h with
  | lst hz r => exact .mkLst e hz r
  | dK r => exact .mkK e r
  | dT r => exact .mkT e r

/-- the law's draws -/
structure Rng where
  at_ : Addr
  gA : Addr
  cA : Addr
  great : List Int
  cells : List Int
  rest : Int
  turn : Int
abbrev Sg := Option Rng
def rngDict (r : Rng) : List (Key × V) := [(Sum.inr "great", .ref r.gA), (Sum.inr "cells", .ref r.cA), (Sum.inr "rest", .int r.rest), (Sum.inr "turn", .int r.turn)]

abbrev OMap := Addr → Option (Option Nat × D)
def updO (M : OMap) (a : Addr) (x : Option Nat × D) : OMap := fun b => if b = a then some x else M b
theorem updO_same {M : OMap} {a : Addr} {x} : updO M a x a = some x := if_pos rfl
theorem updO_ne {M : OMap} {a b : Addr} {x} (h : b ≠ a) : updO M a x b = M b := if_neg h

/-- what a def's activation starts from: the heap at its entry, its frozen part, the draws' own objects -/
structure Gh where
  K : PySem.W.Frag
  H0 : Hp
  F0 : Hp
  R : Addr → Prop

structure RngAt (K : PySem.W.Frag) (H F : Hp) (r : Rng) : Prop where
  hat : H r.at_ = some (.dK (rngDict r))
  hg : H r.gA = some (.lst (r.great.map V.int))
  hc : F r.cA = some (.lst (r.cells.map V.int))
  hz : r.cells.length ≤ 1000
  fa : F r.at_ = none
  fg : F r.gA = none

/-- what is frozen: from before, or new since, or a tuple -/
def NewOk (F H : Hp) (a : Addr) (o : HO) : Prop := F a = some o ∨ H a = none ∨ ∃ vs, o = .tup vs

structure HeapOk (G : Gh) (H F : Hp) (M : OMap) (S : Sg) : Prop where
  sub : ∀ a o, F a = some o → H a = some o
  own : ∀ a w d, M a = some (w, d) → F a = none ∧ G.H0 a = none ∧ ∃ o, H a = some o ∧ OwnHO G.K F o d
  ent : ∀ a o, G.H0 a = some o → ¬ G.R a → H a = some o
  trk : ∀ a, H a = none → G.H0 a = none
  f0 : ∀ a o, G.F0 a = some o → F a = some o
  new : ∀ a o, F a = some o → NewOk G.F0 G.H0 a o
  rng : ∀ r, S = some r → RngAt G.K H F r ∧ M r.at_ = none ∧ M r.gA = none ∧ (G.R r.at_ ∨ G.H0 r.at_ = none) ∧ (G.R r.gA ∨ G.H0 r.gA = none)

inductive LV where
  | imm (d : D)
  | own (d : D)
abbrev Lo := List (Option LV)

def LRep (K : PySem.W.Frag) (F : Hp) (M : OMap) (i : Nat) (v : V) : LV → Prop
  | .imm d => Rep K F v d
  | .own d => ∃ a, v = .ref a ∧ M a = some (some i, d)
theorem LRep.mono {K : PySem.W.Frag} {F F' : Hp} {M : OMap} {i : Nat} {v : V} {l : LV} (e : Le F F') (h : LRep K F M i v l) : LRep K F' M i v l := by
  cases l with
  | imm d => exact Rep.mono e h
  | own d => exact h

structure Slots (K : PySem.W.Frag) (σ : L2.St) (ρ : Lo) (F : Hp) (M : OMap) : Prop where
  len : σ.length = ρ.length
  at_ : ∀ (i : Nat) l, ρ[i]? = some (some l) → ∃ v, σ[i]? = some (some v) ∧ LRep K F M i v l
theorem Slots.mono {K : PySem.W.Frag} {σ : L2.St} {ρ : Lo} {F F' : Hp} {M : OMap} (s : Slots K σ ρ F M) (e : Le F F') : Slots K σ ρ F' M :=
  ⟨s.len, fun i l h => let ⟨v, a, b⟩ := s.at_ i l h; ⟨v, a, b.mono e⟩⟩

/-- a value that may be read now: frozen, or an owned object's -/
def BRep (K : PySem.W.Frag) (F : Hp) (M : OMap) (v : V) (d : D) : Prop := Rep K F v d ∨ ∃ a w, v = .ref a ∧ M a = some (w, d)
theorem BRep.mono {K : PySem.W.Frag} {F F' : Hp} {M : OMap} {v : V} {d : D} (e : Le F F') (h : BRep K F M v d) : BRep K F' M v d := h.imp (Rep.mono e) id

/-! ### heaps -/
section
variable {G : Gh} {H H' F F' : Hp} {M : OMap} {S S' : Sg} {a : Addr} {o : HO}
theorem HeapOk.fnone (h : HeapOk G H F M S) (n : H a = none) : F a = none := by
  cases e : F a with
  | none => rfl
  | some o => rw [h.sub _ _ e] at n; cases n
theorem HeapOk.mnone (h : HeapOk G H F M S) (n : H a = none) : M a = none := by
  cases e : M a with
  | none => rfl
  | some x => obtain ⟨w, d⟩ := x; obtain ⟨_, _, o, e', _⟩ := h.own _ _ _ e; rw [e'] at n; cases n
theorem le_upd (n : F a = none) : Le F (upd F a o) := fun b u e => by rw [upd_ne (ne_of_none e n)]; exact e
theorem RngAt.mono {K : PySem.W.Frag} {r : Rng} (h : RngAt K H F r) (e1 : Same H H') (le : Le F F') (f1 : F' r.at_ = none) (f2 : F' r.gA = none) : RngAt K H' F' r :=
  ⟨e1 _ _ h.hat, e1 _ _ h.hg, le _ _ h.hc, h.hz, f1, f2⟩
/-- a new frozen object -/
theorem HeapOk.laid (h : HeapOk G H F M S) (n : H a = none) : HeapOk G (upd H a o) (upd F a o) M S := by
  have nf := h.fnone n
  refine ⟨fun b u e => ?_, fun b w d e => ?_, fun b u e r => ?_, fun b e => ?_, fun b u e => ?_, fun b u e => ?_, fun r e => ?_⟩
  · by_cases hb : b = a
    · subst hb; rw [upd_same] at e ⊢; exact e
    · rw [upd_ne hb] at e ⊢; exact h.sub _ _ e
  · obtain ⟨f1, f2, o', e', r⟩ := h.own _ _ _ e
    have hb : b ≠ a := ne_of_none e' n
    exact ⟨by rw [upd_ne hb]; exact f1, f2, o', by rw [upd_ne hb]; exact e', r.mono (le_upd nf)⟩
  · have e' := h.ent _ _ e r
    rw [upd_ne (ne_of_none e' n)]; exact e'
  · by_cases hb : b = a
    · subst hb; rw [upd_same] at e; cases e
    · rw [upd_ne hb] at e; exact h.trk _ e
  · have e' := h.f0 _ _ e
    rw [upd_ne (ne_of_none e' nf)]; exact e'
  · by_cases hb : b = a
    · subst hb; exact .inr (.inl (h.trk _ n))
    · rw [upd_ne hb] at e; exact h.new _ _ e
  · obtain ⟨x, m1, m2, q⟩ := h.rng r e
    have n1 : r.at_ ≠ a := ne_of_none x.hat n
    have n2 : r.gA ≠ a := ne_of_none x.hg n
    exact ⟨x.mono (le_upd n) (le_upd nf) (by rw [upd_ne n1]; exact x.fa) (by rw [upd_ne n2]; exact x.fg), m1, m2, q⟩
/-- a new owned object -/
theorem HeapOk.laidO {d : D} {w : Option Nat} (h : HeapOk G H F M S) (n : H a = none) (r : OwnHO G.K F o d) : HeapOk G (upd H a o) F (updO M a (w, d)) S := by
  have nf := h.fnone n
  refine ⟨fun b u e => ?_, fun b w' d' e => ?_, fun b u e r => ?_, fun b e => ?_, h.f0, h.new, fun r e => ?_⟩
  · have e' := h.sub _ _ e
    rw [upd_ne (ne_of_none e' n)]; exact e'
  · by_cases hb : b = a
    · subst hb; rw [updO_same] at e; cases e; exact ⟨nf, h.trk _ n, o, upd_same, r⟩
    · rw [updO_ne hb] at e
      obtain ⟨f1, f2, o', e', r⟩ := h.own _ _ _ e
      exact ⟨f1, f2, o', by rw [upd_ne hb]; exact e', r⟩
  · have e' := h.ent _ _ e r
    rw [upd_ne (ne_of_none e' n)]; exact e'
  · by_cases hb : b = a
    · subst hb; rw [upd_same] at e; cases e
    · rw [upd_ne hb] at e; exact h.trk _ e
  · obtain ⟨x, m1, m2, q⟩ := h.rng r e
    have n1 : r.at_ ≠ a := ne_of_none x.hat n
    have n2 : r.gA ≠ a := ne_of_none x.hg n
    exact ⟨x.mono (le_upd n) (fun _ _ e => e) x.fa x.fg, by rw [updO_ne n1]; exact m1, by rw [updO_ne n2]; exact m2, q⟩
/-- an owned object is written -/
theorem HeapOk.write {d d' : D} {w w' : Option Nat} (h : HeapOk G H F M S) (m : M a = some (w, d)) (r : OwnHO G.K F o d') : HeapOk G (upd H a o) F (updO M a (w', d')) S := by
  obtain ⟨nf, n0, oo, eo, _⟩ := h.own _ _ _ m
  refine ⟨fun b u e => ?_, fun b w' d' e => ?_, fun b u e r => ?_, fun b e => ?_, h.f0, h.new, fun r e => ?_⟩
  · rw [upd_ne (ne_of_none e nf)]; exact h.sub _ _ e
  · by_cases hb : b = a
    · subst hb; rw [updO_same] at e; cases e; exact ⟨nf, n0, o, upd_same, r⟩
    · rw [updO_ne hb] at e
      obtain ⟨f1, f2, o', e', r⟩ := h.own _ _ _ e
      exact ⟨f1, f2, o', by rw [upd_ne hb]; exact e', r⟩
  · rw [upd_ne (ne_of_none e n0)]; exact h.ent _ _ e r
  · by_cases hb : b = a
    · subst hb; rw [upd_same] at e; cases e
    · rw [upd_ne hb] at e; exact h.trk _ e
  · obtain ⟨x, m1, m2, q⟩ := h.rng r e
    have n1 : r.at_ ≠ a := fun z => by rw [z, m] at m1; cases m1
    have n2 : r.gA ≠ a := fun z => by rw [z, m] at m2; cases m2
    exact ⟨⟨by rw [upd_ne n1]; exact x.hat, by rw [upd_ne n2]; exact x.hg, x.hc, x.hz, x.fa, x.fg⟩, by rw [updO_ne n1]; exact m1, by rw [updO_ne n2]; exact m2, q⟩
/-- an owned object's owner is told otherwise -/
theorem HeapOk.give {d : D} {w : Option Nat} (w' : Option Nat) (h : HeapOk G H F M S) (m : M a = some (w, d)) : HeapOk G H F (updO M a (w', d)) S := by
  obtain ⟨nf, n0, oo, eo, ro⟩ := h.own _ _ _ m
  refine ⟨h.sub, fun b w' d' e => ?_, h.ent, h.trk, h.f0, h.new, fun r e => ?_⟩
  · by_cases hb : b = a
    · subst hb; rw [updO_same] at e; cases e; exact ⟨nf, n0, oo, eo, ro⟩
    · rw [updO_ne hb] at e; exact h.own _ _ _ e
  · obtain ⟨x, m1, m2, q⟩ := h.rng r e
    have n1 : r.at_ ≠ a := fun z => by rw [z, m] at m1; cases m1
    have n2 : r.gA ≠ a := fun z => by rw [z, m] at m2; cases m2
    exact ⟨x, by rw [updO_ne n1]; exact m1, by rw [updO_ne n2]; exact m2, q⟩
/-- fewer are told owned -/
theorem HeapOk.less {M' : OMap} (h : HeapOk G H F M S) (m : ∀ a x, M' a = some x → M a = some x) : HeapOk G H F M' S := by
  refine ⟨h.sub, fun b w' d' e => h.own _ _ _ (m _ _ e), h.ent, h.trk, h.f0, h.new, fun r e => ?_⟩
  obtain ⟨x, m1, m2, q⟩ := h.rng r e
  refine ⟨x, ?_, ?_, q⟩
  · cases z : M' r.at_ with
    | none => rfl
    | some y => rw [m _ _ z] at m1; cases m1
  · cases z : M' r.gA with
    | none => rfl
    | some y => rw [m _ _ z] at m2; cases m2
/-- an owned object is frozen -/
def dropO (M : OMap) (a : Addr) : OMap := fun b => if b = a then none else M b
theorem HeapOk.freeze {d : D} {w : Option Nat} (h : HeapOk G H F M S) (m : M a = some (w, d)) : ∃ o, H a = some o ∧ F a = none ∧ OwnHO G.K F o d ∧ HeapOk G H (upd F a o) (dropO M a) S := by
  obtain ⟨nf, n0, oo, eo, ro⟩ := h.own _ _ _ m
  refine ⟨oo, eo, nf, ro, ⟨fun b u e => ?_, fun b w' d' e => ?_, h.ent, h.trk, fun b u e => ?_, fun b u e => ?_, fun r e => ?_⟩⟩
  · by_cases hb : b = a
    · subst hb; rw [upd_same] at e; cases e; exact eo
    · rw [upd_ne hb] at e; exact h.sub _ _ e
  · by_cases hb : b = a
    · subst hb; unfold dropO at e; rw [if_pos rfl] at e; cases e
    · unfold dropO at e; rw [if_neg hb] at e
      obtain ⟨f1, f2, o', e', r⟩ := h.own _ _ _ e
      exact ⟨by rw [upd_ne hb]; exact f1, f2, o', e', r.mono (le_upd nf)⟩
  · have e' := h.f0 _ _ e
    rw [upd_ne (ne_of_none e' nf)]; exact e'
  · by_cases hb : b = a
    · subst hb; exact .inr (.inl n0)
    · rw [upd_ne hb] at e; exact h.new _ _ e
  · obtain ⟨x, m1, m2, q⟩ := h.rng r e
    have n1 : r.at_ ≠ a := fun z => by rw [z, m] at m1; cases m1
    have n2 : r.gA ≠ a := fun z => by rw [z, m] at m2; cases m2
    exact ⟨x.mono (fun _ _ e => e) (le_upd nf) (by rw [upd_ne n1]; exact x.fa) (by rw [upd_ne n2]; exact x.fg), by unfold dropO; rw [if_neg n1]; exact m1, by unfold dropO; rw [if_neg n2]; exact m2, q⟩
theorem dropO_le {x} {b : Addr} (e : dropO M a b = some x) : M b = some x := by
  unfold dropO at e
  split at e
  · cases e
  · exact e
theorem dropO_ne {b : Addr} (h : b ≠ a) : dropO M a b = M b := if_neg h
/-- a tuple that is there may be told frozen -/
theorem HeapOk.adopt {vs : List V} (h : HeapOk G H F M S) (e : H a = some (.tup vs)) : HeapOk G H (upd F a (.tup vs)) M S ∧ Le F (upd F a (.tup vs)) := by
  have hF : ∀ o, F a = some o → o = .tup vs := fun o q => by
    have := h.sub _ _ q
    rw [e] at this; exact (Option.some.inj this).symm
  have le : Le F (upd F a (.tup vs)) := fun b o q => by
    by_cases hb : b = a
    · subst hb; rw [upd_same, hF _ q]
    · rw [upd_ne hb]; exact q
  refine ⟨⟨fun b u q => ?_, fun b w' d' q => ?_, h.ent, h.trk, fun b u q => le _ _ (h.f0 b u q), fun b u q => ?_, fun r q => ?_⟩, le⟩
  · by_cases hb : b = a
    · subst hb; rw [upd_same] at q; cases q; exact e
    · rw [upd_ne hb] at q; exact h.sub _ _ q
  · obtain ⟨f1, f2, o', e', r⟩ := h.own _ _ _ q
    have hb : b ≠ a := fun z => by rw [z, e] at e'; cases e'; cases r
    exact ⟨by rw [upd_ne hb]; exact f1, f2, o', e', r.mono le⟩
  · by_cases hb : b = a
    · subst hb; rw [upd_same] at q; cases q; exact .inr (.inr ⟨_, rfl⟩)
    · rw [upd_ne hb] at q; exact h.new _ _ q
  · obtain ⟨x, m1, m2, y⟩ := h.rng r q
    have n1 : r.at_ ≠ a := fun z => by have := x.hat; rw [z, e] at this; cases this
    have n2 : r.gA ≠ a := fun z => by have := x.hg; rw [z, e] at this; cases this
    exact ⟨x.mono (fun _ _ e => e) le (by rw [upd_ne n1]; exact x.fa) (by rw [upd_ne n2]; exact x.fg), m1, m2, y⟩
/-- what a borrowed value is, in the heap -/
theorem BRep.unlst {v : V} {ds : List D} (h : HeapOk G H F M S) (r : BRep G.K F M v (.lst ds)) : ∃ a vs, v = .ref a ∧ H a = some (.lst vs) ∧ RepL G.K F vs ds := by
  rcases r with r | ⟨a, w, rfl, m⟩
  · obtain ⟨a, vs, e, q, r⟩ := r.unlst
    exact ⟨a, vs, e, h.sub _ _ q, r⟩
  · obtain ⟨_, _, o, e, ro⟩ := h.own _ _ _ m
    cases ro with
    | lst _ r => exact ⟨a, _, rfl, e, r⟩
theorem BRep.rep {v : V} {d : D} (h : HeapOk G H F M S) (r : BRep G.K F M v d) (n : d.asT ≠ none) : Rep G.K F v d := by
  rcases r with r | ⟨a, w, rfl, m⟩
  · exact r
  · obtain ⟨_, _, o, e, ro⟩ := h.own _ _ _ m
    cases ro <;> exact absurd rfl n
theorem BRep.untup {v : V} {d : D} {ds : List D} (h : HeapOk G H F M S) (e : d.asT = some ds) (r : BRep G.K F M v d) : ∃ a vs, v = .ref a ∧ SqT G.K H a vs ∧ RepL G.K F vs ds := by
  obtain ⟨a, vs, e', q, r⟩ := (r.rep h (by rw [e]; exact fun z => nomatch z)).untup e
  exact ⟨a, vs, e', SqT_mono h.sub q, r⟩
/-- a sequence's length -/
theorem Rep.size {K : PySem.W.Frag} {F : Hp} {v : V} {d : D} {ds : List D} (h : d.asT = some ds ∨ d = .lst ds) (r : Rep K F v d) : ds.length ≤ sizeLine := by
  rcases h with h | rfl
  · unfold D.asT at h
    split at h
    · cases h; cases r with | tup _ hz => exact hz
    · cases h
      cases r with
      | kt q hl _ =>
        rcases q with (q | ⟨_, q⟩) | ⟨o, its, n, _, _, _, hz, rv⟩
        · cases q
        · cases q
        · have e := rv.length
          (simp only [Array.length_toList] at e); omega
    · cases h
  · cases r with | lst _ hz => exact hz
theorem BRep.size {v : V} {d : D} {ds : List D} (hk : HeapOk G H F M S) (h : d.asT = some ds ∨ d = .lst ds) (r : BRep G.K F M v d) : ds.length ≤ sizeLine := by
  rcases r with r | ⟨a, w, rfl, m⟩
  · exact r.size h
  · obtain ⟨_, _, o, e, ro⟩ := hk.own _ _ _ m
    cases ro with
    | lst hz r =>
      rcases h with h | h
      · cases h
      · cases h; exact hz
    | dK r => rcases h with h | h <;> cases h
    | dT r => rcases h with h | h <;> cases h
theorem BRep.undK {v : V} {ds : List (Key × D)} (h : HeapOk G H F M S) (r : BRep G.K F M v (.dK ds)) : ∃ a vs, v = .ref a ∧ Rd H a (.dK vs) ∧ RepP G.K F vs ds := by
  rcases r with r | ⟨a, w, rfl, m⟩
  · obtain ⟨a, vs, e, q, r⟩ := r.undK
    exact ⟨a, vs, e, q.imp (h.sub _ _) fun ⟨o, z⟩ => ⟨o, h.sub _ _ z⟩, r⟩
  · obtain ⟨_, _, o, e, ro⟩ := h.own _ _ _ m
    cases ro with
    | dK r => exact ⟨a, _, rfl, .inl e, r⟩
theorem BRep.undT {v : V} {ds : List (List Key × D)} (h : HeapOk G H F M S) (r : BRep G.K F M v (.dT ds)) : ∃ a vs, v = .ref a ∧ H a = some (.dT vs) ∧ RepP G.K F vs ds := by
  rcases r with r | ⟨a, w, rfl, m⟩
  · obtain ⟨a, vs, e, q, r⟩ := r.undT
    exact ⟨a, vs, e, h.sub _ _ q, r⟩
  · obtain ⟨_, _, o, e, ro⟩ := h.own _ _ _ m
    cases ro with
    | dT r => exact ⟨a, _, rfl, e, r⟩
theorem BRep.unbl {K : PySem.W.Frag} {v : V} {b : Bool} {F : Hp} (h : HeapOk G H F M S) (r : BRep G.K F M v (.bl b)) : v = .bl b := by
  rcases r with r | ⟨a, w, rfl, m⟩
  · cases r; rfl
  · obtain ⟨_, _, o, e, ro⟩ := h.own _ _ _ m; cases ro
end
end Dv
namespace Dv
open PySem PySem.Spec
open PyProof.Rows L2

abbrev MX (α : Type) := Lo → Sg → Option (α × Sg)
abbrev ME := MX D
abbrev MA := MX (List D)
abbrev MT := MX Bool

def mBind {α β : Type} (m : MX α) (k : α → MX β) : MX β := fun ρ S => (m ρ S).bind fun p => k p.1 ρ p.2
def mPure {α : Type} (a : α) : MX α := fun _ S => some (a, S)
def mOpt {α : Type} (o : Option α) : MX α := fun _ S => o.map fun a => (a, S)
def mNever {α : Type} : MX α := fun _ _ => none

/-- what a reading in data says: it comes out, and what follows is wanted of any such value -/
def eE (G : Gh) (m : ME) : TE := fun σ H Q => ∃ F M ρ S, HeapOk G H F M S ∧ Slots G.K σ ρ F M ∧ ∃ d S', m ρ S = some (d, S') ∧
  ∀ v H' F', HeapOk G H' F' M S' → Le F F' → Rep G.K F' v d → Q v H'
/-- .. a value that is only looked at -/
def eB (G : Gh) (m : ME) : TE := fun σ H Q => ∃ F M ρ S, HeapOk G H F M S ∧ Slots G.K σ ρ F M ∧ ∃ d S', m ρ S = some (d, S') ∧
  ∀ v H' F', HeapOk G H' F' M S' → Le F F' → BRep G.K F' M v d → Q v H'
/-- .. a new object of one's own -/
def eF (G : Gh) (m : ME) : TE := fun σ H Q => ∃ F M ρ S, HeapOk G H F M S ∧ Slots G.K σ ρ F M ∧ ∃ d S', m ρ S = some (d, S') ∧
  ∀ a H' F', HeapOk G H' F' (updO M a (none, d)) S' → M a = none → Le F F' → Q (.ref a) H'
def eT (G : Gh) (m : MT) : TT := fun σ H Q => ∃ F M ρ S, HeapOk G H F M S ∧ Slots G.K σ ρ F M ∧ ∃ b S', m ρ S = some (b, S') ∧
  ∀ H' F', HeapOk G H' F' M S' → Le F F' → Q b H'
def eA (G : Gh) (m : MA) : TA := fun σ H Q => ∃ F M ρ S, HeapOk G H F M S ∧ Slots G.K σ ρ F M ∧ ∃ ds S', m ρ S = some (ds, S') ∧
  ∀ vs H' F', HeapOk G H' F' M S' → Le F F' → RepL G.K F' vs ds → Q vs H'
abbrev BRepL (K : PySem.W.Frag) (F : Hp) (M : OMap) : List V → List D → Prop := Paired (BRep K F M)
def eAB (G : Gh) (m : MA) : TA := fun σ H Q => ∃ F M ρ S, HeapOk G H F M S ∧ Slots G.K σ ρ F M ∧ ∃ ds S', m ρ S = some (ds, S') ∧
  ∀ vs H' F', HeapOk G H' F' M S' → Le F F' → BRepL G.K F' M vs ds → Q vs H'

section
variable {G : Gh} {X : Cx} {e a b : Expr} {es : List Expr} {pos : Pos}
theorem pe_imp {t t' : TE} (h : PE X e t) (i : ∀ σ H Q, t' σ H Q → t σ H Q) : PE X e t' := ⟨fun pins s σ H Q I q => h.run pins s σ H Q I (i _ _ _ q)⟩
theorem pt_imp {t t' : TT} (h : PT X e t) (i : ∀ σ H Q, t' σ H Q → t σ H Q) : PT X e t' := ⟨fun pins s σ H Q I q => h.run pins s σ H Q I (i _ _ _ q)⟩
theorem pw_imp {t t' : TT} (h : PW X e t) (i : ∀ σ H Q, t' σ H Q → t σ H Q) : PW X e t' := ⟨fun whole pins s σ H Q I q => h.run whole pins s σ H Q I (i _ _ _ q)⟩
theorem pa_imp {t t' : TA} (h : PA X es t) (i : ∀ σ H Q, t' σ H Q → t σ H Q) : PA X es t' := ⟨fun pos pins s σ H Q I q => h.run pos pins s σ H Q I (i _ _ _ q)⟩
theorem ps_imp {st : Stmt} {t t' : TS} (h : PS X st t) (i : ∀ D σ H, t' D σ H → t D σ H) : PS X st t' := ⟨fun pins s σ H D I q => h.run pins s σ H D I (i _ _ _ q)⟩
theorem pss_imp {st : List Stmt} {t t' : TS} (h : PSs X st t) (i : ∀ D σ H, t' D σ H → t D σ H) : PSs X st t' := ⟨fun pins s σ H D I q => h.run pins s σ H D I (i _ _ _ q)⟩

/-- a frozen value may be looked at -/
theorem eb_of {m : ME} (h : PE X e (eE G m)) : PE X e (eB G m) := pe_imp h fun σ H Q ⟨F, M, ρ, S, hk, sl, d, S', e, q⟩ => ⟨F, M, ρ, S, hk, sl, d, S', e, fun v H' F' hk' le r => q v H' F' hk' le (.inl r)⟩
theorem heap_unown {H F : Hp} {M : OMap} {S : Sg} {a : Addr} {x} {o : HO} (hk : HeapOk G H (upd F a o) (dropO (updO M a x) a) S) (n : M a = none) : HeapOk G H (upd F a o) M S :=
  hk.less fun b y e => by
    have hb : b ≠ a := fun z => by rw [z, n] at e; cases e
    rw [dropO_ne hb, updO_ne hb]; exact e
/-- a new object may be frozen -/
theorem ee_of {m : ME} (h : PE X e (eF G m)) : PE X e (eE G m) := pe_imp h fun σ H Q ⟨F, M, ρ, S, hk, sl, d, S', e, q⟩ => ⟨F, M, ρ, S, hk, sl, d, S', e, fun a H' F' hk' n le => by
  obtain ⟨o, eo, nf, ro, hk2⟩ := hk'.freeze updO_same
  exact q _ H' _ (heap_unown hk2 n) (le.trans (le_upd nf)) ((ro.mono (le_upd nf)).rep upd_same)⟩

/-! ### names, constants -/
def mVar (i : Nat) : ME := fun ρ S => match ρ[i]? with
  | some (some (.imm d)) => some (d, S)
  | _ => none
def mVarB (i : Nat) : ME := fun ρ S => match ρ[i]? with
  | some (some (.imm d)) => some (d, S)
  | some (some (.own d)) => some (d, S)
  | _ => none
theorem se_var (i : Nat) {x : Str} (hN : X.N[i]? = some x := by rfl) (hv : Vis X.env.scope x := by first | exact Or.inl rfl | exact Or.inr (Or.inl rfl) | exact Or.inr (Or.inr rfl)) (hd : (x == ("__debug__" : Str)) = false := by decide)
    (hcd : (x == ("__classdict__" : Str)) = false := by decide) : PE X (.Name x pos) (eE G (mVar i)) := by
  refine pe_imp (pe_var hN hv hd hcd) fun σ H Q ⟨F, M, ρ, S, hk, sl, d, S', e, q⟩ => ?_
  unfold mVar at e
  split at e
  · rename_i d' h
    cases e
    obtain ⟨v, hv, r⟩ := sl.at_ _ _ h
    exact ⟨v, hv, q v H F hk (Same.refl F) r⟩
  · cases e
theorem se_varB (i : Nat) {x : Str} (hN : X.N[i]? = some x := by rfl) (hv : Vis X.env.scope x := by first | exact Or.inl rfl | exact Or.inr (Or.inl rfl) | exact Or.inr (Or.inr rfl)) (hd : (x == ("__debug__" : Str)) = false := by decide)
    (hcd : (x == ("__classdict__" : Str)) = false := by decide) : PE X (.Name x pos) (eB G (mVarB i)) := by
  refine pe_imp (pe_var hN hv hd hcd) fun σ H Q ⟨F, M, ρ, S, hk, sl, d, S', e, q⟩ => ?_
  unfold mVarB at e
  split at e
  · rename_i d' h
    cases e
    obtain ⟨v, hv, r⟩ := sl.at_ _ _ h
    exact ⟨v, hv, q v H F hk (Same.refl F) (.inl r)⟩
  · rename_i d' h
    cases e
    obtain ⟨v, hv, a, ev, em⟩ := sl.at_ _ _ h
    exact ⟨v, hv, q v H F hk (Same.refl F) (.inr ⟨a, _, ev, em⟩)⟩
  · cases e
theorem se_const {v : V} {d : D} (h : PE X e (tC v)) (r : ∀ F, Rep G.K F v d) : PE X e (eE G (mPure d)) := pe_imp h fun σ H Q ⟨F, M, ρ, S, hk, sl, d', S', e, q⟩ => by
  cases e
  exact q v H F hk (Same.refl F) (r F)
theorem se_int {i : Int} {j} : PE X (.Constant (.int i) j pos) (eE G (mPure (.int i))) := se_const pe_int fun _ => .int i
theorem se_bl {i : Bool} {j} : PE X (.Constant (.bool i) j pos) (eE G (mPure (.bl i))) := se_const pe_bl fun _ => .bl i
theorem se_non {j} : PE X (.Constant .none j pos) (eE G (mPure .non)) := se_const pe_non fun _ => .non
theorem se_str {x : Str} {j} : PE X (.Constant (.str x) j pos) (eE G (mPure (.str x))) := se_const pe_str fun _ => .str x
/-- a global's value: v as data d -/
theorem se_glob {x : Str} {v : V} {u : Value} {d : D} (hg : Gl X x) (hm : X.mg x = some u) (r : RelV v u) (rd : ∀ F, Rep G.K F v d) (hd : (x == ("__debug__" : Str)) = false := by decide) : PE X (.Name x pos) (eE G (mPure d)) := se_const (pe_glob hg hm r hd) rd

/-! ### two values in a row -/
theorem two_bb {ma mb : ME} {σ : L2.St} {H : Hp} {R : V → V → Hp → Prop} {F : Hp} {M : OMap} {ρ : Lo} {S : Sg} (hk : HeapOk G H F M S) (sl : Slots G.K σ ρ F M) {d1 d2 : D} {S1 S2 : Sg} (e1 : ma ρ S = some (d1, S1)) (e2 : mb ρ S1 = some (d2, S2))
    (h : ∀ x y H' F', HeapOk G H' F' M S2 → Le F F' → BRep G.K F' M x d1 → BRep G.K F' M y d2 → R x y H') : eB G ma σ H fun x H1 => eB G mb σ H1 fun y H2 => R x y H2 :=
  ⟨F, M, ρ, S, hk, sl, d1, S1, e1, fun x H1 F1 hk1 le1 r1 => ⟨F1, M, ρ, S1, hk1, sl.mono le1, d2, S2, e2, fun y H2 F2 hk2 le2 r2 => h x y H2 F2 hk2 (le1.trans le2) (r1.mono le2) r2⟩⟩
def mOp2 (f : D → D → Option D) (ma mb : ME) : ME := fun ρ S => (ma ρ S).bind fun p => (mb ρ p.2).bind fun q => (f p.1 q.1).map fun d => (d, q.2)
theorem mOp2_some {f : D → D → Option D} {ma mb : ME} {ρ : Lo} {S S' : Sg} {d : D} (h : mOp2 f ma mb ρ S = some (d, S')) : ∃ d1 S1 d2, ma ρ S = some (d1, S1) ∧ mb ρ S1 = some (d2, S') ∧ f d1 d2 = some d := by
  unfold mOp2 at h
  obtain ⟨⟨d1, S1⟩, e1, h⟩ := Option.bind_eq_some_iff.mp h
  obtain ⟨⟨d2, S2⟩, e2, h⟩ := Option.bind_eq_some_iff.mp h
  obtain ⟨d3, e3, h⟩ := Option.map_eq_some_iff.mp h
  cases h
  exact ⟨d1, S1, d2, e1, e2, e3⟩
/-- how an operator's reading serves f -/
def R2E (G : Gh) (r : R2) (f : D → D → Option D) : Prop := ∀ (x y : V) (d1 d2 d : D) (H F : Hp) (M : OMap) (S : Sg) (Q : VK), HeapOk G H F M S → BRep G.K F M x d1 → BRep G.K F M y d2 → f d1 d2 = some d →
  (∀ v H' F', HeapOk G H' F' M S → Le F F' → Rep G.K F' v d → Q v H') → r x y H Q
def R2F (G : Gh) (r : R2) (f : D → D → Option D) : Prop := ∀ (x y : V) (d1 d2 d : D) (H F : Hp) (M : OMap) (S : Sg) (Q : VK), HeapOk G H F M S → BRep G.K F M x d1 → BRep G.K F M y d2 → f d1 d2 = some d →
  (∀ a H' F', HeapOk G H' F' (updO M a (none, d)) S → M a = none → Le F F' → Q (.ref a) H') → r x y H Q
theorem op2_imp {r : R2} {f : D → D → Option D} {ma mb : ME} (hr : R2E G r f) : ∀ σ H Q, eE G (mOp2 f ma mb) σ H Q → tOp r (eB G ma) (eB G mb) σ H Q := fun σ H Q ⟨F, M, ρ, S, hk, sl, d, S', e, q⟩ => by
  obtain ⟨d1, S1, d2, e1, e2, e3⟩ := mOp2_some e
  exact two_bb hk sl e1 e2 fun x y H' F' hk' le r1 r2 => hr x y d1 d2 d H' F' M S' Q hk' r1 r2 e3 fun v H2 F2 hk2 le2 r => q v H2 F2 hk2 (le.trans le2) r
theorem op2_impF {r : R2} {f : D → D → Option D} {ma mb : ME} (hr : R2F G r f) : ∀ σ H Q, eF G (mOp2 f ma mb) σ H Q → tOp r (eB G ma) (eB G mb) σ H Q := fun σ H Q ⟨F, M, ρ, S, hk, sl, d, S', e, q⟩ => by
  obtain ⟨d1, S1, d2, e1, e2, e3⟩ := mOp2_some e
  exact two_bb hk sl e1 e2 fun x y H' F' hk' le r1 r2 => hr x y d1 d2 d H' F' M S' Q hk' r1 r2 e3 fun v H2 F2 hk2 n le2 => q v H2 F2 hk2 n (le.trans le2)
theorem se_bin {op : Operator} {r : R2} {f : D → D → Option D} {ma mb : ME} (ho : OpR X (binaryOp op) r) (hr : R2E G r f) (ha : PE X a (eB G ma)) (hb : PE X b (eB G mb)) : PE X (.BinOp a op b pos) (eE G (mOp2 f ma mb)) := pe_imp (pe_op ho ha hb) (op2_imp hr)
theorem se_binF {op : Operator} {r : R2} {f : D → D → Option D} {ma mb : ME} (ho : OpR X (binaryOp op) r) (hr : R2F G r f) (ha : PE X a (eB G ma)) (hb : PE X b (eB G mb)) : PE X (.BinOp a op b pos) (eF G (mOp2 f ma mb)) := pe_imp (pe_op ho ha hb) (op2_impF hr)
theorem se_cmp {op : CmpOp} {r : R2} {f : D → D → Option D} {ma mb : ME} (ho : OpR X (compareOp op) r) (hr : R2E G r f) (hm : behindInMarks op b = false) (ha : PE X a (eB G ma)) (hb : PE X b (eB G mb)) : PE X (.Compare a [op] [b] pos) (eE G (mOp2 f ma mb)) := pe_imp (pe_cmpR ho ha hb hm) (op2_imp hr)
theorem R2E.or1 {r r' : R2} {f g : D → D → Option D} (h : R2E G r f) (h' : R2E G r' g) : R2E G (fun x y H Q => r x y H Q ∨ r' x y H Q) (fun x y => (f x y).or (g x y)) := fun x y d1 d2 d H F M S Q hk r1 r2 e q => by
  have e : (f d1 d2).or (g d1 d2) = some d := e
  cases e1 : f d1 d2 with
  | some z => rw [e1] at e; cases e; exact .inl (h x y d1 d2 d H F M S Q hk r1 r2 e1 q)
  | none => rw [e1] at e; exact .inr (h' x y d1 d2 d H F M S Q hk r1 r2 (by simpa using e) q)

/-- one value -/
def mOp1 (f : D → Option D) (ma : ME) : ME := fun ρ S => (ma ρ S).bind fun p => (f p.1).map fun d => (d, p.2)
theorem mOp1_some {f : D → Option D} {ma : ME} {ρ : Lo} {S S' : Sg} {d : D} (h : mOp1 f ma ρ S = some (d, S')) : ∃ d1, ma ρ S = some (d1, S') ∧ f d1 = some d := by
  unfold mOp1 at h
  obtain ⟨⟨d1, S1⟩, e1, h⟩ := Option.bind_eq_some_iff.mp h
  obtain ⟨d3, e3, h⟩ := Option.map_eq_some_iff.mp h
  cases h
  exact ⟨d1, e1, e3⟩

/-! ### what a looked-at value is -/
theorem BRep.unint {H F : Hp} {M : OMap} {S : Sg} {v : V} {i : Int} (h : HeapOk G H F M S) (r : BRep G.K F M v (.int i)) : v = .int i := by
  rcases r with r | ⟨a, w, rfl, m⟩
  · cases r; rfl
  · obtain ⟨_, _, o, e, ro⟩ := h.own _ _ _ m; cases ro
theorem BRep.unbl' {H F : Hp} {M : OMap} {S : Sg} {v : V} {i : Bool} (h : HeapOk G H F M S) (r : BRep G.K F M v (.bl i)) : v = .bl i := by
  rcases r with r | ⟨a, w, rfl, m⟩
  · cases r; rfl
  · obtain ⟨_, _, o, e, ro⟩ := h.own _ _ _ m; cases ro
theorem BRep.unstr {H F : Hp} {M : OMap} {S : Sg} {v : V} {i : Str} (h : HeapOk G H F M S) (r : BRep G.K F M v (.str i)) : v = .str i := by
  rcases r with r | ⟨a, w, rfl, m⟩
  · cases r; rfl
  · obtain ⟨_, _, o, e, ro⟩ := h.own _ _ _ m; cases ro
theorem BRep.unnon {H F : Hp} {M : OMap} {S : Sg} {v : V} (h : HeapOk G H F M S) (r : BRep G.K F M v .non) : v = .non := by
  rcases r with r | ⟨a, w, rfl, m⟩
  · cases r; rfl
  · obtain ⟨_, _, o, e, ro⟩ := h.own _ _ _ m; cases ro

/-! ### ints -/
def liftI2 (c : Int → Int → Bool) (g : Int → Int → D) : D → D → Option D
  | .int i, .int j => if c i j then some (g i j) else none
  | _, _ => none
theorem liftI2_some {c : Int → Int → Bool} {g : Int → Int → D} {x y d : D} (h : liftI2 c g x y = some d) : ∃ i j, x = .int i ∧ y = .int j ∧ c i j = true ∧ g i j = d := by
  unfold liftI2 at h
  split at h
  · split at h
    · cases h; exact ⟨_, _, rfl, rfl, by assumption, rfl⟩
    · cases h
  · cases h
theorem r2e_I {C : Int → Int → Prop} {c : Int → Int → Bool} {g : Int → Int → V} {g' : Int → Int → D} (hc : ∀ i j, c i j = true → C i j) (hg : ∀ i j F, Rep G.K F (g i j) (g' i j)) : R2E G (rI C g) (liftI2 c g') := fun x y d1 d2 d H F M S Q hk r1 r2 e q => by
  obtain ⟨i, j, rfl, rfl, e1, rfl⟩ := liftI2_some e
  cases r1.unint hk
  cases r2.unint hk
  exact ⟨i, j, rfl, rfl, hc _ _ e1, q _ H F hk (Same.refl F) (hg i j F)⟩
theorem r2e_I0 {g : Int → Int → V} {g' : Int → Int → D} (hg : ∀ i j F, Rep G.K F (g i j) (g' i j)) : R2E G (rI0 g) (liftI2 (fun _ _ => true) g') := fun x y d1 d2 d H F M S Q hk r1 r2 e q => by
  obtain ⟨i, j, rfl, rfl, e1, rfl⟩ := liftI2_some e
  cases r1.unint hk
  cases r2.unint hk
  exact ⟨i, j, rfl, rfl, q _ H F hk (Same.refl F) (hg i j F)⟩
def subD : D → D → Option D := liftI2 (fun _ _ => true) fun i j => .int (i - j)
theorem se_sub {ma mb : ME} (ha : PE X a (eB G ma)) (hb : PE X b (eB G mb)) : PE X (.BinOp a .Sub b pos) (eE G (mOp2 subD ma mb)) := se_bin op_sub (r2e_I0 fun i j F => .int _) ha hb
def modD : D → D → Option D := liftI2 (fun _ j => decide (0 < j)) fun i j => .int (i % j)
theorem se_mod {ma mb : ME} (ha : PE X a (eB G ma)) (hb : PE X b (eB G mb)) : PE X (.BinOp a .Mod b pos) (eE G (mOp2 modD ma mb)) := se_bin op_mod (r2e_I (fun i j h => of_decide_eq_true h) fun i j F => .int _) ha hb
def fdivD : D → D → Option D := liftI2 (fun _ j => decide (0 < j) && decide (j.natAbs.log2 < 9000)) fun i j => .int (i / j)
theorem se_fdiv {ma mb : ME} (ha : PE X a (eB G ma)) (hb : PE X b (eB G mb)) : PE X (.BinOp a .FloorDiv b pos) (eE G (mOp2 fdivD ma mb)) := se_bin op_fdivW (r2e_I (fun i j h => by
  simp only [Bool.and_eq_true, decide_eq_true_eq] at h; exact h) fun i j F => .int _) ha hb
/-- a negative divisor -/
def fdivN : D → D → Option D := liftI2 (fun _ j => decide (j ≠ 0) && decide (j.natAbs < 1073741824)) fun i j => .int (i.fdiv j)
theorem se_fdivN {ma mb : ME} (ha : PE X a (eB G ma)) (hb : PE X b (eB G mb)) : PE X (.BinOp a .FloorDiv b pos) (eE G (mOp2 fdivN ma mb)) := se_bin op_fdivN (r2e_I (fun i j h => by
  simp only [Bool.and_eq_true, decide_eq_true_eq] at h; exact h) fun i j F => .int _) ha hb
def powD : D → D → Option D := liftI2 (fun i j => decide (0 ≤ j) && decide (j ≤ 1000000) && decide (i.natAbs < 2 ^ 64)) fun i j => .int (i ^ j.toNat)
theorem se_pow {ma mb : ME} (ha : PE X a (eB G ma)) (hb : PE X b (eB G mb)) : PE X (.BinOp a .Pow b pos) (eE G (mOp2 powD ma mb)) := se_bin op_pow (r2e_I (fun i j h => by
  simp only [Bool.and_eq_true, decide_eq_true_eq] at h; exact ⟨h.1.1, h.1.2, h.2⟩) fun i j F => .int _) ha hb
def ltD : D → D → Option D := liftI2 (fun _ _ => true) fun i j => .bl (decide (i < j))
def leD : D → D → Option D := liftI2 (fun _ _ => true) fun i j => .bl (decide (i ≤ j))
def gtD : D → D → Option D := liftI2 (fun _ _ => true) fun i j => .bl (decide (j < i))
def geD : D → D → Option D := liftI2 (fun _ _ => true) fun i j => .bl (decide (j ≤ i))
theorem r_lt : R2E G (rI0 fun i j => .bl (decide (i < j))) ltD := r2e_I0 fun i j F => .bl _
theorem r_le : R2E G (rI0 fun i j => .bl (decide (i ≤ j))) leD := r2e_I0 fun i j F => .bl _
theorem r_gt : R2E G (rI0 fun i j => .bl (decide (j < i))) gtD := r2e_I0 fun i j F => .bl _
theorem r_ge : R2E G (rI0 fun i j => .bl (decide (j ≤ i))) geD := r2e_I0 fun i j F => .bl _
theorem se_lt {ma mb : ME} (ha : PE X a (eB G ma)) (hb : PE X b (eB G mb)) : PE X (.Compare a [.Lt] [b] pos) (eE G (mOp2 ltD ma mb)) := se_cmp op_lt r_lt (nomark _) ha hb
theorem se_le {ma mb : ME} (ha : PE X a (eB G ma)) (hb : PE X b (eB G mb)) : PE X (.Compare a [.LtE] [b] pos) (eE G (mOp2 leD ma mb)) := se_cmp op_le r_le (nomark _) ha hb
theorem se_gt {ma mb : ME} (ha : PE X a (eB G ma)) (hb : PE X b (eB G mb)) : PE X (.Compare a [.Gt] [b] pos) (eE G (mOp2 gtD ma mb)) := se_cmp op_gt r_gt (nomark _) ha hb
theorem se_ge {ma mb : ME} (ha : PE X a (eB G ma)) (hb : PE X b (eB G mb)) : PE X (.Compare a [.GtE] [b] pos) (eE G (mOp2 geD ma mb)) := se_cmp op_ge r_ge (nomark _) ha hb
def negD : D → Option D
  | .int i => some (.int (-i))
  | _ => none
theorem se_neg {ma : ME} (ha : PE X a (eB G ma)) : PE X (.UnaryOp .USub a pos) (eE G (mOp1 negD ma)) := pe_imp (pe_un un_neg ha) fun σ H Q ⟨F, M, ρ, S, hk, sl, d, S', e, q⟩ => by
  obtain ⟨d1, e1, e2⟩ := mOp1_some e
  refine ⟨F, M, ρ, S, hk, sl, d1, S', e1, fun v H' F' hk' le r => ?_⟩
  unfold negD at e2
  split at e2
  · cases e2; cases r.unint hk'; exact ⟨_, rfl, q _ H' F' hk' le (.int _)⟩
  · cases e2

/-! ### sums, products of all kinds -/
def addI : D → D → Option D := liftI2 (fun _ _ => true) fun i j => .int (i + j)
def addS : D → D → Option D
  | .str x, .str y => if x.length + y.length ≤ sizeLine then some (.str (x ++ y)) else none
  | _, _ => none
def addT : D → D → Option D := fun x y => match x.asT, y.asT with
  | some xs, some ys => if xs.length + ys.length ≤ sizeLine then (if xs.isEmpty then some y else if ys.isEmpty then some x else some (.tup (xs ++ ys))) else none
  | _, _ => none
def addL : D → D → Option D
  | .lst xs, .lst ys => if xs.length + ys.length ≤ sizeLine then some (.lst (xs ++ ys)) else none
  | _, _ => none
theorem r_addI : R2E G (rI0 fun i j => .int (i + j)) addI := r2e_I0 fun i j F => .int _
theorem r_addS : R2E G (fun x y H Q => ∃ i j, x = .str i ∧ y = .str j ∧ i.length + j.length ≤ sizeLine ∧ Q (.str (i ++ j)) H) addS := fun x y d1 d2 d H F M S Q hk r1 r2 e q => by
  unfold addS at e
  split at e
  · split at e
    · cases e; cases r1.unstr hk; cases r2.unstr hk
      exact ⟨_, _, rfl, rfl, by assumption, q _ H F hk (Same.refl F) (.str _)⟩
    · cases e
  · cases e
theorem r_addT : R2E G (rCatA G.K) addT := fun x y d1 d2 d H F M S Q hk r1 r2 e q => by
  unfold addT at e
  split at e
  · rename_i xs ys ex ey
    split at e
    · rename_i hz
      obtain ⟨l, us, rfl, q1, p1⟩ := BRep.untup hk ex r1
      obtain ⟨l', us', rfl, q2, p2⟩ := BRep.untup hk ey r2
      have l1 : us.length = xs.length := Paired.length p1
      have l2 : us'.length = ys.length := Paired.length p2
      refine ⟨l, l', us, us', rfl, rfl, q1, q2, by omega, fun z => ?_, fun z z' => ?_, fun z z' p hp => ?_⟩
      · subst z
        have : xs = [] := List.eq_nil_of_length_eq_zero (by simpa using l1.symm)
        subst this
        simp only [List.isEmpty_nil, if_true] at e
        cases e
        exact q _ H F hk (Same.refl F) (r2.rep hk (by rw [ey]; exact fun z => nomatch z))
      · subst z'
        have : ys = [] := List.eq_nil_of_length_eq_zero (by simpa using l2.symm)
        subst this
        have hx : xs.isEmpty = false := by
          cases xs with
          | nil => exact absurd (List.eq_nil_of_length_eq_zero (by simpa using l1)) z
          | cons _ _ => rfl
        rw [hx] at e
        simp only [List.isEmpty_nil, if_true, Bool.false_eq_true, if_false] at e
        cases e
        exact q _ H F hk (Same.refl F) (r1.rep hk (by rw [ex]; exact fun z => nomatch z))
      · have hx : xs.isEmpty = false := by
          cases xs with
          | nil => exact absurd (List.eq_nil_of_length_eq_zero (by simpa using l1)) z
          | cons _ _ => rfl
        have hy : ys.isEmpty = false := by
          cases ys with
          | nil => exact absurd (List.eq_nil_of_length_eq_zero (by simpa using l2)) z'
          | cons _ _ => rfl
        rw [hx, hy] at e
        simp only [Bool.false_eq_true, if_false] at e
        cases e
        refine q _ _ _ (hk.laid hp) (le_upd (hk.fnone hp)) (.mkTup upd_same (by rw [List.length_append]; exact hz) (RepL.mono (le_upd (hk.fnone hp)) (paired_app p1 p2)))
    · cases e
  · cases e
theorem r_addL : R2F G rCat addL := fun x y d1 d2 d H F M S Q hk r1 r2 e q => by
  unfold addL at e
  split at e
  · split at e
    · rename_i hz
      cases e
      obtain ⟨l, us, rfl, q1, p1⟩ := r1.unlst hk
      obtain ⟨l', us', rfl, q2, p2⟩ := r2.unlst hk
      have l1 := Paired.length p1
      have l2 := Paired.length p2
      exact ⟨l, l', us, us', rfl, rfl, q1, q2, by omega, fun p hp => q p _ F (hk.laidO hp (.lst (by rw [List.length_append]; exact hz) (paired_app p1 p2))) (hk.mnone hp) (Same.refl F)⟩
    · cases e
  · cases e
/-- a + b of ints, texts, tuples -/
def addD : D → D → Option D := fun x y => (addI x y).or ((addS x y).or (addT x y))
theorem se_add {ma mb : ME} (hK : G.K = X.K) (ha : PE X a (eB G ma)) (hb : PE X b (eB G mb)) : PE X (.BinOp a .Add b pos) (eE G (mOp2 addD ma mb)) :=
  se_bin (OpR.or op_add (OpR.or op_add_str (hK ▸ op_catA))) (r_addI.or1 (r_addS.or1 r_addT)) ha hb
theorem sf_addL {ma mb : ME} (ha : PE X a (eB G ma)) (hb : PE X b (eB G mb)) : PE X (.BinOp a .Add b pos) (eF G (mOp2 addL ma mb)) := se_binF op_cat r_addL ha hb
def mulI : D → D → Option D := liftI2 (fun i j => decide (i.natAbs.log2 + j.natAbs.log2 < 1000000)) fun i j => .int (i * j)
theorem se_mulI {ma mb : ME} (ha : PE X a (eB G ma)) (hb : PE X b (eB G mb)) : PE X (.BinOp a .Mult b pos) (eE G (mOp2 mulI ma mb)) := se_bin op_mulW (r2e_I (fun i j h => (of_decide_eq_true h : i.natAbs.log2 + j.natAbs.log2 < 1000000)) fun i j F => .int _) ha hb
/-- a * b, one of them below 2 ^ 64 -/
def mulS : D → D → Option D := liftI2 (fun i j => decide (i.natAbs < 2 ^ 64) || decide (j.natAbs < 2 ^ 64)) fun i j => .int (i * j)
theorem se_mulS {ma mb : ME} (ha : PE X a (eB G ma)) (hb : PE X b (eB G mb)) : PE X (.BinOp a .Mult b pos) (eE G (mOp2 mulS ma mb)) := se_bin op_mul (r2e_I (fun i j h => by
  simp only [Bool.or_eq_true, decide_eq_true_eq] at h
  rcases h with h | h
  · exact .inl ⟨by omega, by omega⟩
  · exact .inr ⟨by omega, by omega⟩) fun i j F => .int _) ha hb
theorem flat_len {α : Type} (xs : List α) : ∀ n, (List.replicate n xs).flatten.length = n * xs.length
  | 0 => by simp
  | n + 1 => by rw [List.replicate_succ, List.flatten_cons, List.length_append, flat_len xs n, Nat.succ_mul, Nat.add_comm]
def mulL : D → D → Option D
  | .lst xs, .int k => if -(2 ^ 63) ≤ k ∧ k < 2 ^ 63 ∧ xs.length * k.toNat ≤ sizeLine then some (.lst (List.replicate k.toNat xs).flatten) else none
  | _, _ => none
theorem r_mulL : R2F G rRep mulL := fun x y d1 d2 d H F M S Q hk r1 r2 e q => by
  unfold mulL at e
  split at e
  · split at e
    · rename_i hz
      cases e
      obtain ⟨l, us, rfl, q1, p1⟩ := r1.unlst hk
      cases r2.unint hk
      have l1 := Paired.length p1
      exact ⟨l, _, us, rfl, rfl, q1, hz.1, hz.2.1, by rw [l1]; exact hz.2.2, fun p hp => q p _ F (hk.laidO hp (.lst (by rw [flat_len, Nat.mul_comm]; exact hz.2.2) (paired_flat (paired_repl p1 _)))) (hk.mnone hp) (Same.refl F)⟩
    · cases e
  · cases e
theorem sf_mulL {ma mb : ME} (ha : PE X a (eB G ma)) (hb : PE X b (eB G mb)) : PE X (.BinOp a .Mult b pos) (eF G (mOp2 mulL ma mb)) := se_binF op_rep r_mulL ha hb
def mulT : D → D → Option D := fun x y => match x.asT, y with
  | some xs, .int k => if xs.isEmpty = false ∧ 2 ≤ k ∧ k ≤ 1000 ∧ xs.length ≤ 1000 then some (.tup (List.replicate k.toNat xs).flatten) else none
  | _, _ => none
theorem r_mulT : R2E G (rRepT G.K) mulT := fun x y d1 d2 d H F M S Q hk r1 r2 e q => by
  unfold mulT at e
  split at e
  · rename_i xs k ex
    split at e
    · rename_i hz
      cases e
      obtain ⟨l, us, rfl, q1, p1⟩ := r1.untup hk ex
      cases r2.unint hk
      have l1 := Paired.length p1
      refine ⟨l, _, us, rfl, rfl, q1, fun z => ?_, hz.2.1, hz.2.2.1, by omega, fun p hp => ?_⟩
      · subst z
        have : xs = [] := List.eq_nil_of_length_eq_zero (by simpa using l1.symm)
        rw [this] at hz; exact absurd hz.1 (by decide)
      · exact q _ _ _ (hk.laid hp) (le_upd (hk.fnone hp)) (.mkTup upd_same (by rw [flat_len]; exact Nat.le_trans (Nat.mul_le_mul (by omega : _ ≤ 1000) hz.2.2.2) (by decide)) (RepL.mono (le_upd (hk.fnone hp)) (paired_flat (paired_repl p1 _))))
    · cases e
  · cases e
theorem se_mulT {ma mb : ME} (hK : G.K = X.K) (ha : PE X a (eB G ma)) (hb : PE X b (eB G mb)) : PE X (.BinOp a .Mult b pos) (eE G (mOp2 mulT ma mb)) := se_bin (hK ▸ op_repT) r_mulT ha hb
end
end Dv
namespace Dv
open PySem PySem.Spec
open PyProof.Rows L2
section
variable {G : Gh} {X : Cx} {e a b c o : Expr} {es : List Expr} {pos : Pos}

/-! ### tests -/
def asB {α : Type} (k : Bool → Sg → Option α) : D × Sg → Option α
  | (.bl b, S) => k b S
  | _ => none
def mTst (m : ME) : MT := fun ρ S => (m ρ S).bind (asB fun b S => some (b, S))
theorem mTst_some {m : ME} {ρ : Lo} {S S' : Sg} {b : Bool} (h : mTst m ρ S = some (b, S')) : m ρ S = some (.bl b, S') := by
  unfold mTst at h
  obtain ⟨⟨d, S1⟩, e1, h⟩ := Option.bind_eq_some_iff.mp h
  cases d <;> first | (cases h; exact e1) | cases h
theorem tst_imp {m : ME} : ∀ σ H Q, eT G (mTst m) σ H Q → (eE G m) σ H fun x H1 => ∃ c, x = .bl c ∧ Q c H1 := fun σ H Q ⟨F, M, ρ, S, hk, sl, b, S', e, q⟩ =>
  ⟨F, M, ρ, S, hk, sl, .bl b, S', mTst_some e, fun v H' F' hk' le r => by cases r; exact ⟨b, rfl, q H' F' hk' le⟩⟩
theorem st_val {m : ME} (h : PE X e (eE G m)) (he : ∀ whole, isTrue e X.env whole = (do let v ← whole; standAt e.pos; holding [v] (truthy v)) := by intro _; rfl) : PT X e (eT G (mTst m)) := pt_imp (pt_val h he) tst_imp
theorem st_cmp {op : CmpOp} {r : R2} {f : D → D → Option D} {ma mb : ME} (ho : OpR X (compareOp op) r) (hr : R2E G r f) (hm : behindInMarks op b = false) (ha : PE X a (eB G ma)) (hb : PE X b (eB G mb)) : PT X (.Compare a [op] [b] pos) (eT G (mTst (mOp2 f ma mb))) :=
  pt_imp (pt_cmpR ho ha hb hm) fun σ H Q ⟨F, M, ρ, S, hk, sl, b, S', e, q⟩ => op2_imp hr σ H _ ⟨F, M, ρ, S, hk, sl, .bl b, S', mTst_some e, fun v H' F' hk' le r => by cases r; exact ⟨b, rfl, q H' F' hk' le⟩⟩
theorem st_lt {ma mb : ME} (ha : PE X a (eB G ma)) (hb : PE X b (eB G mb)) : PT X (.Compare a [.Lt] [b] pos) (eT G (mTst (mOp2 ltD ma mb))) := st_cmp op_lt r_lt (nomark _) ha hb
theorem st_le {ma mb : ME} (ha : PE X a (eB G ma)) (hb : PE X b (eB G mb)) : PT X (.Compare a [.LtE] [b] pos) (eT G (mTst (mOp2 leD ma mb))) := st_cmp op_le r_le (nomark _) ha hb
theorem st_gt {ma mb : ME} (ha : PE X a (eB G ma)) (hb : PE X b (eB G mb)) : PT X (.Compare a [.Gt] [b] pos) (eT G (mTst (mOp2 gtD ma mb))) := st_cmp op_gt r_gt (nomark _) ha hb
theorem st_ge {ma mb : ME} (ha : PE X a (eB G ma)) (hb : PE X b (eB G mb)) : PT X (.Compare a [.GtE] [b] pos) (eT G (mTst (mOp2 geD ma mb))) := st_cmp op_ge r_ge (nomark _) ha hb
/-- a op b op' c -/
def mChn (f g : D → D → Option D) (ma mb mc : ME) : ME := fun ρ S => (ma ρ S).bind fun p => (mb ρ p.2).bind fun q => (f p.1 q.1).bind fun d => asB (fun k S2 => if k then (mc ρ S2).bind fun r => (g q.1 r.1).map fun d => (d, r.2) else some (.bl false, S2)) (d, q.2)
theorem chn_imp {r r' : R2} {f g : D → D → Option D} {ma mb mc : ME} (hr : R2E G r f) (hr' : R2E G r' g) : ∀ σ H Q, eE G (mChn f g ma mb mc) σ H Q → tChain r r' (eB G ma) (eB G mb) (eB G mc) σ H Q := fun σ H Q ⟨F, M, ρ, S, hk, sl, d, S', e, q⟩ => by
  unfold mChn at e
  obtain ⟨⟨d1, S1⟩, e1, e⟩ := Option.bind_eq_some_iff.mp e
  obtain ⟨⟨d2, S2⟩, e2, e⟩ := Option.bind_eq_some_iff.mp e
  obtain ⟨d3, e3, e⟩ := Option.bind_eq_some_iff.mp e
  refine two_bb hk sl e1 e2 fun x y H' F' hk' le r1 r2 => hr x y d1 d2 d3 H' F' M S2 _ hk' r1 r2 e3 fun v H3 F3 hk3 le3 rv => ?_
  cases d3 with
  | bl k =>
    cases rv
    refine ⟨k, rfl, ?_⟩
    cases k with
    | false => cases e; exact q _ H3 F3 hk3 (le.trans le3) (.bl _)
    | true =>
      obtain ⟨⟨d4, S4⟩, e4, e⟩ := Option.bind_eq_some_iff.mp e
      obtain ⟨d5, e5, e⟩ := Option.map_eq_some_iff.mp e
      cases e
      exact ⟨F3, M, ρ, S2, hk3, (sl.mono le).mono le3, d4, S4, e4, fun w H4 F4 hk4 le4 r4 => hr' y w d2 d4 _ H4 F4 M S4 Q hk4 ((r2.mono le3).mono le4) r4 e5 fun z H5 F5 hk5 le5 r5 => q z H5 F5 hk5 (((le.trans le3).trans le4).trans le5) r5⟩
  | _ => cases e
theorem se_chn {op op' : CmpOp} {r r' : R2} {f g : D → D → Option D} {ma mb mc : ME} (ho : OpR X (compareOp op) r) (ho' : OpR X (compareOp op') r') (hr : R2E G r f) (hr' : R2E G r' g) (ha : PE X a (eB G ma)) (hb : PE X b (eB G mb)) (hc : PE X c (eB G mc))
    (hm : lastMarks [op, op'] [b, c] = false := by with_unfolding_all rfl) : PE X (.Compare a [op, op'] [b, c] pos) (eE G (mChn f g ma mb mc)) := pe_imp (pe_chain ho ho' ha hb hc hm) (chn_imp hr hr')
theorem st_chn {op op' : CmpOp} {r r' : R2} {f g : D → D → Option D} {ma mb mc : ME} (ho : OpR X (compareOp op) r) (ho' : OpR X (compareOp op') r') (hr : R2E G r f) (hr' : R2E G r' g) (ha : PE X a (eB G ma)) (hb : PE X b (eB G mb)) (hc : PE X c (eB G mc))
    (hm : lastMarks [op, op'] [b, c] = false := by with_unfolding_all rfl) : PT X (.Compare a [op, op'] [b, c] pos) (eT G (mTst (mChn f g ma mb mc))) :=
  pt_imp (pt_chain ho ho' ha hb hc hm) fun σ H Q ⟨F, M, ρ, S, hk, sl, b, S', e, q⟩ => chn_imp hr hr' σ H _ ⟨F, M, ρ, S, hk, sl, .bl b, S', mTst_some e, fun v H' F' hk' le r => by cases r; exact ⟨b, rfl, q H' F' hk' le⟩⟩
/-- not, and, or -/
def mNot (m : MT) : MT := fun ρ S => (m ρ S).map fun p => (!p.1, p.2)
def mAnd (m n : MT) : MT := fun ρ S => (m ρ S).bind fun p => if p.1 then n ρ p.2 else some (false, p.2)
def mOr (m n : MT) : MT := fun ρ S => (m ρ S).bind fun p => if p.1 then some (true, p.2) else n ρ p.2
theorem st_not {m : MT} (h : PT X a (eT G m)) : PT X (.UnaryOp .Not a pos) (eT G (mNot m)) := pt_imp (L2.pt_not h) fun σ H Q ⟨F, M, ρ, S, hk, sl, b, S', e, q⟩ => by
  obtain ⟨⟨b1, S1⟩, e1, e⟩ := Option.map_eq_some_iff.mp e
  cases e
  exact ⟨F, M, ρ, S, hk, sl, b1, S1, e1, fun H' F' hk' le => q H' F' hk' le⟩
theorem sw_and1 {m : MT} (h : PT X a (eT G m)) : PW X (.BoolOp .And [a] pos) (eT G m) := pw_and1 h
theorem sw_or1 {m : MT} (h : PT X a (eT G m)) : PW X (.BoolOp .Or [a] pos) (eT G m) := pw_or1 h
theorem sw_and {m n : MT} {rest : List Expr} (ha : PT X a (eT G m)) (hb : PW X (.BoolOp .And (b :: rest) pos) (eT G n)) : PW X (.BoolOp .And (a :: b :: rest) pos) (eT G (mAnd m n)) := pw_imp (pw_and ha hb) fun σ H Q ⟨F, M, ρ, S, hk, sl, b, S', e, q⟩ => by
  obtain ⟨⟨b1, S1⟩, e1, e⟩ := Option.bind_eq_some_iff.mp e
  refine ⟨F, M, ρ, S, hk, sl, b1, S1, e1, fun H' F' hk' le => ?_⟩
  cases b1 with
  | false => cases e; exact q H' F' hk' le
  | true => exact ⟨F', M, ρ, S1, hk', sl.mono le, b, S', e, fun H2 F2 hk2 le2 => q H2 F2 hk2 (le.trans le2)⟩
theorem sw_or {m n : MT} {rest : List Expr} (ha : PT X a (eT G m)) (hb : PW X (.BoolOp .Or (b :: rest) pos) (eT G n)) : PW X (.BoolOp .Or (a :: b :: rest) pos) (eT G (mOr m n)) := pw_imp (pw_or ha hb) fun σ H Q ⟨F, M, ρ, S, hk, sl, b, S', e, q⟩ => by
  obtain ⟨⟨b1, S1⟩, e1, e⟩ := Option.bind_eq_some_iff.mp e
  refine ⟨F, M, ρ, S, hk, sl, b1, S1, e1, fun H' F' hk' le => ?_⟩
  cases b1 with
  | true => cases e; exact q H' F' hk' le
  | false => exact ⟨F', M, ρ, S1, hk', sl.mono le, b, S', e, fun H2 F2 hk2 le2 => q H2 F2 hk2 (le.trans le2)⟩
/-- .. as values: all but the last are truths -/
def mAndV (m n : ME) : ME := fun ρ S => (m ρ S).bind (asB fun k S1 => if k then n ρ S1 else some (.bl false, S1))
def mOrV (m n : ME) : ME := fun ρ S => (m ρ S).bind (asB fun k S1 => if k then some (.bl true, S1) else n ρ S1)
def mNotV (m : ME) : ME := mOp1 (fun d => match d with | .bl b => some (.bl (!b)) | _ => none) m
theorem se_andV {m n : ME} {rest : List Expr} (ha : PE X a (eE G m)) (hb : PE X (.BoolOp .And (b :: rest) pos) (eE G n)) : PE X (.BoolOp .And (a :: b :: rest) pos) (eE G (mAndV m n)) := pe_imp (pe_and ha hb) fun σ H Q ⟨F, M, ρ, S, hk, sl, d, S', e, q⟩ => by
  obtain ⟨⟨d1, S1⟩, e1, e⟩ := Option.bind_eq_some_iff.mp e
  cases d1 with
  | bl k =>
    refine ⟨F, M, ρ, S, hk, sl, _, S1, e1, fun v H' F' hk' le r => ?_⟩
    cases r
    cases k with
    | false => cases e; exact ⟨false, rfl, q _ H' F' hk' le (.bl _)⟩
    | true => exact ⟨true, rfl, F', M, ρ, S1, hk', sl.mono le, d, S', e, fun w H2 F2 hk2 le2 r2 => q w H2 F2 hk2 (le.trans le2) r2⟩
  | _ => cases e
theorem se_orV {m n : ME} {rest : List Expr} (ha : PE X a (eE G m)) (hb : PE X (.BoolOp .Or (b :: rest) pos) (eE G n)) : PE X (.BoolOp .Or (a :: b :: rest) pos) (eE G (mOrV m n)) := pe_imp (pe_or ha hb) fun σ H Q ⟨F, M, ρ, S, hk, sl, d, S', e, q⟩ => by
  obtain ⟨⟨d1, S1⟩, e1, e⟩ := Option.bind_eq_some_iff.mp e
  cases d1 with
  | bl k =>
    refine ⟨F, M, ρ, S, hk, sl, _, S1, e1, fun v H' F' hk' le r => ?_⟩
    cases r
    cases k with
    | true => cases e; exact ⟨true, rfl, q _ H' F' hk' le (.bl _)⟩
    | false => exact ⟨false, rfl, F', M, ρ, S1, hk', sl.mono le, d, S', e, fun w H2 F2 hk2 le2 r2 => q w H2 F2 hk2 (le.trans le2) r2⟩
  | _ => cases e
theorem se_one {op} {m : ME} (h : PE X a (eE G m)) : PE X (.BoolOp op [a] pos) (eE G m) := pe_one h
theorem se_notV {m : ME} (ha : PE X a (eE G m)) : PE X (.UnaryOp .Not a pos) (eE G (mNotV m)) := pe_imp (pe_not ha) fun σ H Q ⟨F, M, ρ, S, hk, sl, d, S', e, q⟩ => by
  obtain ⟨d1, e1, e2⟩ := mOp1_some e
  refine ⟨F, M, ρ, S, hk, sl, d1, S', e1, fun v H' F' hk' le r => ?_⟩
  cases d1 <;> first | (cases e2; cases r; exact ⟨_, rfl, q _ H' F' hk' le (.bl _)⟩) | cases e2
/-- a if t else b -/
def mIte {α : Type} (t : MT) (m n : MX α) : MX α := fun ρ S => (t ρ S).bind fun p => if p.1 then m ρ p.2 else n ρ p.2
theorem se_ite {t : MT} {m n : ME} (hc : PT X c (eT G t)) (ha : PE X a (eE G m)) (hb : PE X b (eE G n)) : PE X (.IfExp c a b pos) (eE G (mIte t m n)) := pe_imp (pe_ifExp hc ha hb) fun σ H Q ⟨F, M, ρ, S, hk, sl, d, S', e, q⟩ => by
  obtain ⟨⟨k, S1⟩, e1, e⟩ := Option.bind_eq_some_iff.mp e
  refine ⟨F, M, ρ, S, hk, sl, k, S1, e1, fun H' F' hk' le => ?_⟩
  cases k with
  | true => exact ⟨F', M, ρ, S1, hk', sl.mono le, d, S', e, fun w H2 F2 hk2 le2 r2 => q w H2 F2 hk2 (le.trans le2) r2⟩
  | false => exact ⟨F', M, ρ, S1, hk', sl.mono le, d, S', e, fun w H2 F2 hk2 le2 r2 => q w H2 F2 hk2 (le.trans le2) r2⟩
theorem sf_ite {t : MT} {m n : ME} (hc : PT X c (eT G t)) (ha : PE X a (eF G m)) (hb : PE X b (eF G n)) : PE X (.IfExp c a b pos) (eF G (mIte t m n)) := pe_imp (pe_ifExp hc ha hb) fun σ H Q ⟨F, M, ρ, S, hk, sl, d, S', e, q⟩ => by
  obtain ⟨⟨k, S1⟩, e1, e⟩ := Option.bind_eq_some_iff.mp e
  refine ⟨F, M, ρ, S, hk, sl, k, S1, e1, fun H' F' hk' le => ?_⟩
  cases k with
  | true => exact ⟨F', M, ρ, S1, hk', sl.mono le, d, S', e, fun w H2 F2 hk2 le2 r2 => q w H2 F2 hk2 le2 (le.trans r2)⟩
  | false => exact ⟨F', M, ρ, S1, hk', sl.mono le, d, S', e, fun w H2 F2 hk2 le2 r2 => q w H2 F2 hk2 le2 (le.trans r2)⟩

/-! ### == of data -/
mutual
def toP : D → Option PyData
  | .non => some .none
  | .bl b => some (.bool b)
  | .int i => some (.int i)
  | .str x => some (.str x)
  | .tup ds => (toPs ds).map .tuple
  | .kt ds => (toPs ds).map .tuple
  | .lst ds => (toPs ds).map .list
  | .dK _ => none
  | .dT _ => none
  | .rng _ => none
  | .fn _ => none
  | .scr _ => none
def toPs : List D → Option (List PyData)
  | [] => some []
  | d :: ds => (toP d).bind fun p => (toPs ds).map fun ps => p :: ps
end
mutual
theorem rep_dp {K : PySem.W.Frag} {F H : Hp} (le : Le F H) : ∀ (d : D) (v : V) (p : PyData), Rep K F v d → toP d = some p → Dp K H v p
  | .non, v, p, r, e => by cases r; simp only [toP] at e; cases e; exact .non
  | .bl b, v, p, r, e => by cases r; simp only [toP] at e; cases e; exact .bl b
  | .int i, v, p, r, e => by cases r; simp only [toP] at e; cases e; exact .int i
  | .str x, v, p, r, e => by cases r; simp only [toP] at e; cases e; exact .str x
  | .tup ds, v, p, r, e => by
    simp only [toP] at e
    obtain ⟨ps, e1, rfl⟩ := Option.map_eq_some_iff.mp e
    obtain ⟨a, vs, rfl, q, r⟩ := r.untup'
    exact .tup (SqT_mono le (.of q)) (reps_dp le ds vs ps r e1)
  | .kt ds, v, p, r, e => by
    simp only [toP] at e
    obtain ⟨ps, e1, rfl⟩ := Option.map_eq_some_iff.mp e
    obtain ⟨a, vs, rfl, q, r⟩ := r.unkt
    exact .tup (SqT_mono (fun _ _ z => by cases z) q) (reps_dp le ds vs ps r e1)
  | .lst ds, v, p, r, e => by
    simp only [toP] at e
    obtain ⟨ps, e1, rfl⟩ := Option.map_eq_some_iff.mp e
    obtain ⟨a, vs, rfl, q, r⟩ := r.unlst
    exact .lst (.of (le _ _ q)) (reps_dp le ds vs ps r e1)
  | .dK _, v, p, r, e => by simp only [toP] at e; cases e
  | .dT _, v, p, r, e => by simp only [toP] at e; cases e
  | .rng _, v, p, r, e => by simp only [toP] at e; cases e
  | .fn _, v, p, r, e => by simp only [toP] at e; cases e
  | .scr _, v, p, r, e => by simp only [toP] at e; cases e
theorem reps_dp {K : PySem.W.Frag} {F H : Hp} (le : Le F H) : ∀ (ds : List D) (vs : List V) (ps : List PyData), RepL K F vs ds → toPs ds = some ps → DpAll K H vs ps
  | [], vs, ps, r, e => by cases r; simp only [toPs] at e; cases e; exact .nil
  | d :: ds, vs, ps, r, e => by
    simp only [toPs] at e
    obtain ⟨p, e1, e⟩ := Option.bind_eq_some_iff.mp e
    obtain ⟨ps', e2, rfl⟩ := Option.map_eq_some_iff.mp e
    cases r with
    | cons r rs => exact .cons (rep_dp le d _ p r e1) (reps_dp le ds _ ps' rs e2)
end
theorem BRep.dp {H F : Hp} {M : OMap} {S : Sg} {v : V} {d : D} {p : PyData} (h : HeapOk G H F M S) (r : BRep G.K F M v d) (e : toP d = some p) : Dp G.K H v p := by
  rcases r with r | ⟨a, w, rfl, m⟩
  · exact rep_dp h.sub d v p r e
  · obtain ⟨_, _, o, eo, ro⟩ := h.own _ _ _ m
    cases ro with
    | @lst vs ds hz r =>
      simp only [toP] at e
      obtain ⟨ps, e1, rfl⟩ := Option.map_eq_some_iff.mp e
      exact .lst (.of eo) (reps_dp h.sub ds vs ps r e1)
    | dK r => simp only [toP] at e; cases e
    | dT r => simp only [toP] at e; cases e
def eqD (x y : D) : Option D := match toP x, toP y with
  | some p, some q => if SeqAt.shaped p && SeqAt.shaped q then some (.bl (PyData.eqv p q)) else none
  | _, _ => none
def neD (x y : D) : Option D := match toP x, toP y with
  | some p, some q => if SeqAt.shaped p && SeqAt.shaped q then some (.bl (!PyData.eqv p q)) else none
  | _, _ => none
theorem r_eqD : R2E G (rEqD G.K) eqD := fun x y d1 d2 d H F M S Q hk r1 r2 e q => by
  unfold eqD at e
  split at e
  · rename_i p p' e1 e2
    split at e
    · rename_i hs
      cases e
      simp only [Bool.and_eq_true] at hs
      exact ⟨p, p', r1.dp hk e1, r2.dp hk e2, hs.1, hs.2, q _ H F hk (Same.refl F) (.bl _)⟩
    · cases e
  · cases e
theorem r_neD : R2E G (rNeD G.K) neD := fun x y d1 d2 d H F M S Q hk r1 r2 e q => by
  unfold neD at e
  split at e
  · rename_i p p' e1 e2
    split at e
    · rename_i hs
      cases e
      simp only [Bool.and_eq_true] at hs
      exact ⟨p, p', r1.dp hk e1, r2.dp hk e2, hs.1, hs.2, q _ H F hk (Same.refl F) (.bl _)⟩
    · cases e
  · cases e
theorem se_eq {ma mb : ME} (hK : G.K = X.K) (hu : X.A.units + 64 < cLine) (ha : PE X a (eB G ma)) (hb : PE X b (eB G mb)) : PE X (.Compare a [.Eq] [b] pos) (eE G (mOp2 eqD ma mb)) := se_cmp (hK ▸ op_eqD hu) r_eqD (nomark _) ha hb
theorem se_ne {ma mb : ME} (hK : G.K = X.K) (hu : X.A.units + 64 < cLine) (ha : PE X a (eB G ma)) (hb : PE X b (eB G mb)) : PE X (.Compare a [.NotEq] [b] pos) (eE G (mOp2 neD ma mb)) := se_cmp (hK ▸ op_neD hu) r_neD (nomark _) ha hb
theorem st_eq {ma mb : ME} (hK : G.K = X.K) (hu : X.A.units + 64 < cLine) (ha : PE X a (eB G ma)) (hb : PE X b (eB G mb)) : PT X (.Compare a [.Eq] [b] pos) (eT G (mTst (mOp2 eqD ma mb))) := st_cmp (hK ▸ op_eqD hu) r_eqD (nomark _) ha hb
theorem st_ne {ma mb : ME} (hK : G.K = X.K) (hu : X.A.units + 64 < cLine) (ha : PE X a (eB G ma)) (hb : PE X b (eB G mb)) : PT X (.Compare a [.NotEq] [b] pos) (eT G (mTst (mOp2 neD ma mb))) := st_cmp (hK ▸ op_neD hu) r_neD (nomark _) ha hb

/-! ### is -/
/-- x is None, x is a truth -/
def isD : D → D → Option D
  | .bl a, .bl b => some (.bl (decide (a = b)))
  | .non, .non => some (.bl true)
  | .bl _, .non => some (.bl false)
  | .int _, .non => some (.bl false)
  | .str _, .non => some (.bl false)
  | .tup _, .non => some (.bl false)
  | .kt _, .non => some (.bl false)
  | .lst _, .non => some (.bl false)
  | _, _ => none
theorem is_ne {H F : Hp} {M : OMap} {S : Sg} {v : V} {d : D} (hk : HeapOk G H F M S) (r : BRep G.K F M v d) (h : d ≠ .non) : decide (v = .non) = false := by
  apply decide_eq_false
  rintro rfl
  rcases r with r | ⟨a, w, z, m⟩
  · cases r; exact h rfl
  · cases z
theorem r_is : R2E G (fun x y H Q => (y = V.non ∧ Q (.bl (decide (x = .non))) H) ∨ rIsB x y H Q) isD := fun x y d1 d2 d H F M S Q hk r1 r2 e q => by
  have k := q
  cases d2 <;> first
    | (cases r2.unnon hk
       refine .inl ⟨rfl, ?_⟩
       cases d1 <;> first
         | (cases e; cases r1.unnon hk; exact q _ H F hk (Same.refl F) (.bl _))
         | (cases e; rw [is_ne hk r1 (fun z => nomatch z)]; exact q _ H F hk (Same.refl F) (.bl _))
         | cases e)
    | (cases r2.unbl' hk
       cases d1 <;> first
         | (cases e; cases r1.unbl' hk; exact .inr ⟨_, _, rfl, rfl, q _ H F hk (Same.refl F) (.bl _)⟩)
         | cases e)
    | (cases d1 <;> cases e)
def notOf (f : D → D → Option D) : D → D → Option D := fun x y => (f x y).bind fun d => match d with | .bl b => some (.bl (!b)) | _ => none
def isnotD : D → D → Option D := fun x y => match y with | .non => notOf isD x y | .bl _ => notOf isD x y | _ => none
theorem r_isnot : R2E G (fun x y H Q => (y = V.non ∧ Q (.bl (!decide (x = .non))) H) ∨ rNotB x y H Q) isnotD := fun x y d1 d2 d H F M S Q hk r1 r2 e q => by
  cases d2 <;> first
    | (cases r2.unnon hk
       refine .inl ⟨rfl, ?_⟩
       cases d1 <;> first
         | (cases e; cases r1.unnon hk; exact q _ H F hk (Same.refl F) (.bl _))
         | (cases e; rw [is_ne hk r1 (fun z => nomatch z)]; exact q _ H F hk (Same.refl F) (.bl _))
         | cases e)
    | (cases r2.unbl' hk
       cases d1 <;> first
         | (cases e; cases r1.unbl' hk; exact .inr ⟨_, _, rfl, rfl, q _ H F hk (Same.refl F) (.bl _)⟩)
         | cases e)
    | cases e
theorem se_is {ma mb : ME} (ha : PE X a (eB G ma)) (hb : PE X b (eB G mb)) : PE X (.Compare a [.Is] [b] pos) (eE G (mOp2 isD ma mb)) := se_cmp (OpR.or op_isN op_isBl) r_is (nomark _) ha hb
theorem st_is {ma mb : ME} (ha : PE X a (eB G ma)) (hb : PE X b (eB G mb)) : PT X (.Compare a [.Is] [b] pos) (eT G (mTst (mOp2 isD ma mb))) := st_cmp (OpR.or op_isN op_isBl) r_is (nomark _) ha hb
theorem se_isnot {ma mb : ME} (ha : PE X a (eB G ma)) (hb : PE X b (eB G mb)) : PE X (.Compare a [.IsNot] [b] pos) (eE G (mOp2 isnotD ma mb)) := se_cmp (OpR.or op_notN op_notBl) r_isnot (nomark _) ha hb
theorem st_isnot {ma mb : ME} (ha : PE X a (eB G ma)) (hb : PE X b (eB G mb)) : PT X (.Compare a [.IsNot] [b] pos) (eT G (mTst (mOp2 isnotD ma mb))) := st_cmp (OpR.or op_notN op_notBl) r_isnot (nomark _) ha hb

/-! ### in -/
def flatD : D → Bool
  | .non | .bl _ | .int _ | .str _ => true
  | _ => false
def eqFl : D → D → Bool
  | .non, .non => true
  | .bl a, .bl b => a == b
  | .bl k, .int b => (if k then 1 else 0) == b
  | .int a, .bl k => a == (if k then 1 else 0)
  | .int a, .int b => a == b
  | .str a, .str b => a == b
  | _, _ => false
def itemsD : D → Option (List D)
  | .tup ds => some ds
  | .kt ds => some ds
  | .lst ds => some ds
  | _ => none
theorem BRep.items {H F : Hp} {M : OMap} {S : Sg} {v : V} {d : D} {ds : List D} (h : HeapOk G H F M S) (e : itemsD d = some ds) (r : BRep G.K F M v d) : ∃ a vs, v = .ref a ∧ (SqL G.K H a vs ∨ SqT G.K H a vs) ∧ RepL G.K F vs ds := by
  unfold itemsD at e
  split at e
  · cases e
    obtain ⟨a, vs, e, q, r⟩ := r.untup h (d := .tup _) rfl
    exact ⟨a, vs, e, .inr q, r⟩
  · cases e
    obtain ⟨a, vs, e, q, r⟩ := r.untup h (d := .kt _) rfl
    exact ⟨a, vs, e, .inr q, r⟩
  · cases e
    obtain ⟨a, vs, e, q, r⟩ := r.unlst h
    exact ⟨a, vs, e, .inl (.of q), r⟩
  · cases e
def inFl (x y : D) : Option D := match itemsD y with
  | some ds => if flatD x && ds.all flatD then some (.bl (ds.any fun z => eqFl z x)) else none
  | none => none
theorem rep_flat {K : PySem.W.Frag} {F : Hp} {v : V} {d : D} (r : Rep K F v d) (h : flatD d = true) : flatV v = true := by
  cases r <;> first | rfl | cases h
theorem rep_eqFl {K : PySem.W.Frag} {F : Hp} {v w : V} {d e : D} (r : Rep K F v d) (r' : Rep K F w e) (h : flatD d = true) (h' : flatD e = true) : eqV v w = eqFl d e := by
  cases r <;> first | (cases r' <;> first | rfl | cases h') | cases h
theorem repL_flat {K : PySem.W.Frag} {F : Hp} {vs : List V} {ds : List D} (r : RepL K F vs ds) (h : ds.all flatD = true) : vs.all flatV = true := by
  induction r with
  | nil => rfl
  | cons r _ ih => simp only [List.all_cons, Bool.and_eq_true] at h ⊢; exact ⟨rep_flat r h.1, ih h.2⟩
theorem repL_in {K : PySem.W.Frag} {F : Hp} {vs : List V} {ds : List D} {v : V} {d : D} (r : RepL K F vs ds) (h : ds.all flatD = true) (rv : Rep K F v d) (hd : flatD d = true) : inV v vs = ds.any fun z => eqFl z d := by
  unfold inV
  induction r with
  | nil => rfl
  | cons r _ ih => simp only [List.all_cons, Bool.and_eq_true] at h; simp only [List.any_cons, ih h.2, rep_eqFl r rv h.1 hd]
theorem BRep.flat {H F : Hp} {M : OMap} {S : Sg} {v : V} {d : D} (h : HeapOk G H F M S) (r : BRep G.K F M v d) (f : flatD d = true) : Rep G.K F v d := by
  rcases r with r | ⟨a, w, rfl, m⟩
  · exact r
  · obtain ⟨_, _, o, eo, ro⟩ := h.own _ _ _ m
    cases ro <;> cases f
theorem r_inFl (neg : Bool) : R2E G (rIn G.K neg) (fun x y => (inFl x y).bind fun d => match d with | .bl b => some (.bl (if neg then !b else b)) | _ => none) := fun x y d1 d2 d H F M S Q hk r1 r2 e q => by
  obtain ⟨d3, e3, e⟩ := Option.bind_eq_some_iff.mp e
  unfold inFl at e3
  split at e3
  · rename_i ds ei
    split at e3
    · rename_i hf
      cases e3
      simp only [Bool.and_eq_true] at hf
      obtain ⟨p, vs, rfl, hq, rl⟩ := r2.items hk ei
      have rv := r1.flat hk hf.1
      refine ⟨p, vs, rfl, hq, rep_flat rv hf.1, repL_flat rl hf.2, ?_⟩
      rw [repL_in rl hf.2 rv hf.1]
      cases e
      exact q _ H F hk (Same.refl F) (.bl _)
    · cases e3
  · cases e3
def inSq : D → D → Option D := fun x y => (inFl x y).bind fun d => match d with | .bl b => some (.bl (if false then !b else b)) | _ => none
def ninSq : D → D → Option D := fun x y => (inFl x y).bind fun d => match d with | .bl b => some (.bl (if true then !b else b)) | _ => none
/-- x in a list of data -/
def inDp (x y : D) : Option D := match toP x, toP y with
  | some p, some (.list ds) => if SeqAt.shaped p && SeqAt.shaped (.list ds) then some (.bl (ds.any fun z => PyData.eqv z p)) else none
  | _, _ => none
theorem r_inDp : R2E G (rInD G.K) inDp := fun x y d1 d2 d H F M S Q hk r1 r2 e q => by
  unfold inDp at e
  split at e
  · rename_i p ds e1 e2
    split at e
    · rename_i hs
      cases e
      simp only [Bool.and_eq_true] at hs
      exact ⟨p, ds, r1.dp hk e1, r2.dp hk e2, hs.1, hs.2, q _ H F hk (Same.refl F) (.bl _)⟩
    · cases e
  · cases e
def ninDp (x y : D) : Option D := notOf inDp x y
theorem r_ninDp : R2E G (rNotInD G.K) ninDp := fun x y d1 d2 d H F M S Q hk r1 r2 e q => by
  obtain ⟨d3, e3, e⟩ := Option.bind_eq_some_iff.mp e
  unfold inDp at e3
  split at e3
  · rename_i p ds e1 e2
    split at e3
    · rename_i hs
      cases e3; cases e
      simp only [Bool.and_eq_true] at hs
      exact ⟨p, ds, r1.dp hk e1, r2.dp hk e2, hs.1, hs.2, q _ H F hk (Same.refl F) (.bl _)⟩
    · cases e3
  · cases e3
/-- a sign in a text -/
def inSg : D → D → Option D
  | .str x, .str z => if x.cps.size = 1 then some (.bl (decide (x.cps.getD 0 0 ∈ z.cps.toList))) else none
  | _, _ => none
theorem one_sign {x : Str} (h : x.cps.size = 1) : x = ⟨#[x.cps.getD 0 0]⟩ := by
  obtain ⟨⟨l⟩⟩ := x
  match l, h with
  | [c], _ => rfl
theorem r_inSg : R2E G (fun x y H Q => ∃ (c : Nat) (z : Str), x = .str ⟨#[c]⟩ ∧ y = .str z ∧ Q (.bl (decide (c ∈ z.cps.toList))) H) inSg := fun x y d1 d2 d H F M S Q hk r1 r2 e q => by
  unfold inSg at e
  split at e
  · rename_i s z
    split at e
    · rename_i hs
      cases e
      cases r1.unstr hk; cases r2.unstr hk
      exact ⟨s.cps.getD 0 0, z, congrArg V.str (one_sign hs), rfl, q _ H F hk (Same.refl F) (.bl _)⟩
    · cases e
  · cases e
def ninSg : D → D → Option D := notOf inSg
theorem r_ninSg : R2E G (fun x y H Q => ∃ (c : Nat) (z : Str), x = .str ⟨#[c]⟩ ∧ y = .str z ∧ Q (.bl (!decide (c ∈ z.cps.toList))) H) ninSg := fun x y d1 d2 d H F M S Q hk r1 r2 e q => by
  obtain ⟨d3, e3, e⟩ := Option.bind_eq_some_iff.mp e
  unfold inSg at e3
  split at e3
  · rename_i s z
    split at e3
    · rename_i hs
      cases e3; cases e
      cases r1.unstr hk; cases r2.unstr hk
      exact ⟨s.cps.getD 0 0, z, congrArg V.str (one_sign hs), rfl, q _ H F hk (Same.refl F) (.bl _)⟩
    · cases e3
  · cases e3
/-- in: flat items, a list of data, a sign of a text -/
def inD : D → D → Option D := fun x y => (inSq x y).or ((inDp x y).or (inSg x y))
def ninD : D → D → Option D := fun x y => (ninSq x y).or ((ninDp x y).or (ninSg x y))
theorem se_in {ma mb : ME} (hK : G.K = X.K) (hu : X.A.units + 65 < cLine) (hm : behindInMarks .In b = false) (ha : PE X a (eB G ma)) (hb : PE X b (eB G mb)) : PE X (.Compare a [.In] [b] pos) (eE G (mOp2 inD ma mb)) :=
  se_cmp (OpR.or (hK ▸ op_in_seq) (OpR.or (hK ▸ op_inD hu) op_in_sign)) ((r_inFl false).or1 (r_inDp.or1 r_inSg)) hm ha hb
theorem st_in {ma mb : ME} (hK : G.K = X.K) (hu : X.A.units + 65 < cLine) (hm : behindInMarks .In b = false) (ha : PE X a (eB G ma)) (hb : PE X b (eB G mb)) : PT X (.Compare a [.In] [b] pos) (eT G (mTst (mOp2 inD ma mb))) :=
  st_cmp (OpR.or (hK ▸ op_in_seq) (OpR.or (hK ▸ op_inD hu) op_in_sign)) ((r_inFl false).or1 (r_inDp.or1 r_inSg)) hm ha hb
theorem se_nin {ma mb : ME} (hK : G.K = X.K) (hu : X.A.units + 65 < cLine) (hm : behindInMarks .NotIn b = false) (ha : PE X a (eB G ma)) (hb : PE X b (eB G mb)) : PE X (.Compare a [.NotIn] [b] pos) (eE G (mOp2 ninD ma mb)) :=
  se_cmp (OpR.or (hK ▸ op_notIn_seq) (OpR.or (hK ▸ op_notInD hu) op_notIn_sign)) ((r_inFl true).or1 (r_ninDp.or1 r_ninSg)) hm ha hb
theorem st_nin {ma mb : ME} (hK : G.K = X.K) (hu : X.A.units + 65 < cLine) (hm : behindInMarks .NotIn b = false) (ha : PE X a (eB G ma)) (hb : PE X b (eB G mb)) : PT X (.Compare a [.NotIn] [b] pos) (eT G (mTst (mOp2 ninD ma mb))) :=
  st_cmp (OpR.or (hK ▸ op_notIn_seq) (OpR.or (hK ▸ op_notInD hu) op_notIn_sign)) ((r_inFl true).or1 (r_ninDp.or1 r_ninSg)) hm ha hb
end
end Dv
namespace Dv
open PySem PySem.Spec
open PyProof.Rows L2
section
variable {G : Gh} {X : Cx} {e a b c o : Expr} {es : List Expr} {pos p2 : Pos}

/-! ### argument lists, displays -/
def mCons (m : ME) (n : MA) : MA := fun ρ S => (m ρ S).bind fun p => (n ρ p.2).map fun q => (p.1 :: q.1, q.2)
theorem mCons_some {m : ME} {n : MA} {ρ : Lo} {S S' : Sg} {ds : List D} (h : mCons m n ρ S = some (ds, S')) : ∃ d S1 r, m ρ S = some (d, S1) ∧ n ρ S1 = some (r, S') ∧ ds = d :: r := by
  obtain ⟨⟨d1, S1⟩, e1, h⟩ := Option.bind_eq_some_iff.mp h
  obtain ⟨⟨d2, S2⟩, e2, h⟩ := Option.map_eq_some_iff.mp h
  cases h
  exact ⟨_, _, _, e1, e2, rfl⟩
theorem sa_nil : PA X [] (eA G (mPure [])) := pa_imp pa_nil fun σ H Q ⟨F, M, ρ, S, hk, sl, d, S', e, q⟩ => by cases e; exact q [] H F hk (Same.refl F) .nil
theorem sa_cons {m : ME} {n : MA} (ha : PE X e (eE G m)) (hr : PA X es (eA G n)) (hs : starEach (e :: es) X.env = (false, eval e X.env) :: starEach es X.env := by rfl) : PA X (e :: es) (eA G (mCons m n)) := pa_imp (pa_cons ha hr hs) fun σ H Q ⟨F, M, ρ, S, hk, sl, ds, S', e, q⟩ => by
  obtain ⟨d, S1, r, e1, e2, rfl⟩ := mCons_some e
  exact ⟨F, M, ρ, S, hk, sl, d, S1, e1, fun v H1 F1 hk1 le1 r1 => ⟨F1, M, ρ, S1, hk1, sl.mono le1, r, S', e2, fun vs H2 F2 hk2 le2 r2 => q _ H2 F2 hk2 (le1.trans le2) (.cons (r1.mono le2) r2)⟩⟩
theorem sb_nil : PA X [] (eAB G (mPure [])) := pa_imp pa_nil fun σ H Q ⟨F, M, ρ, S, hk, sl, d, S', e, q⟩ => by cases e; exact q [] H F hk (Same.refl F) .nil
theorem sb_cons {m : ME} {n : MA} (ha : PE X e (eB G m)) (hr : PA X es (eAB G n)) (hs : starEach (e :: es) X.env = (false, eval e X.env) :: starEach es X.env := by rfl) : PA X (e :: es) (eAB G (mCons m n)) := pa_imp (pa_cons ha hr hs) fun σ H Q ⟨F, M, ρ, S, hk, sl, ds, S', e, q⟩ => by
  obtain ⟨d, S1, r, e1, e2, rfl⟩ := mCons_some e
  exact ⟨F, M, ρ, S, hk, sl, d, S1, e1, fun v H1 F1 hk1 le1 r1 => ⟨F1, M, ρ, S1, hk1, sl.mono le1, r, S', e2, fun vs H2 F2 hk2 le2 r2 => q _ H2 F2 hk2 (le1.trans le2) (.cons (r1.mono le2) r2)⟩⟩
def mTup (m : MA) : ME := fun ρ S => (m ρ S).bind fun p => if p.1.length ≤ 4096 then some (.tup p.1, p.2) else none
def mLst (m : MA) : ME := fun ρ S => (m ρ S).bind fun p => if p.1.length ≤ 4096 then some (.lst p.1, p.2) else none
theorem line4096 {n : Nat} (h : n ≤ 4096) : n ≤ sizeLine := Nat.le_trans h (by decide)
theorem se_tup {m : MA} {x1} (h : PA X es (eA G m)) : PE X (.Tuple es x1 pos) (eE G (mTup m)) := pe_imp (pe_tup h) fun σ H Q ⟨F, M, ρ, S, hk, sl, d, S', e, q⟩ => by
  obtain ⟨⟨ds, S1⟩, e1, e⟩ := Option.bind_eq_some_iff.mp e
  split at e
  · rename_i hz
    cases e
    exact ⟨F, M, ρ, S, hk, sl, ds, S1, e1, fun vs H1 F1 hk1 le1 r1 => ⟨by rw [Paired.length r1]; exact line4096 hz, fun p hp => q _ _ _ (hk1.laid hp) (le1.trans (le_upd (hk1.fnone hp))) (.mkTup upd_same (line4096 hz) (RepL.mono (le_upd (hk1.fnone hp)) r1))⟩⟩
  · cases e
theorem sf_lst {m : MA} (h : PA X es (eA G m)) : PE X (.List es pos) (eF G (mLst m)) := pe_imp (pe_lst h) fun σ H Q ⟨F, M, ρ, S, hk, sl, d, S', e, q⟩ => by
  obtain ⟨⟨ds, S1⟩, e1, e⟩ := Option.bind_eq_some_iff.mp e
  split at e
  · rename_i hz
    cases e
    exact ⟨F, M, ρ, S, hk, sl, ds, S1, e1, fun vs H1 F1 hk1 le1 r1 => ⟨by rw [Paired.length r1]; exact line4096 hz, fun p hp => q p _ F1 (hk1.laidO hp (.lst (line4096 hz) r1)) (hk1.mnone hp) le1⟩⟩
  · cases e

/-! ### items, slices -/
theorem paired_atI {α β : Type} {R : α → β → Prop} {xs : List α} {ys : List β} (h : Paired R xs ys) {i : Int} {y : β} (e : atI ys i = some y) : ∃ x, atI xs i = some x ∧ R x y := by
  unfold atI at e ⊢
  rw [Paired.length h]
  obtain ⟨j, e1, e2⟩ := Option.bind_eq_some_iff.mp e
  obtain ⟨x, e3, r⟩ := paired_get' h e2
  exact ⟨x, by rw [e1]; exact e3, r⟩
def ixS (x : D) (i : Int) : Option D := match x with
  | .str z => if z.length ≤ sizeLine then (atI z.cps.toList i).map fun c => .str ⟨#[c]⟩ else none
  | _ => none
def ixD (x y : D) : Option D := match y with
  | .int i => match itemsD x with
    | some ds => atI ds i
    | none => ixS x i
  | _ => none
theorem r_ix : R2E G (rIx G.K) ixD := fun x y d1 d2 d H F M S Q hk r1 r2 e q => by
  unfold ixD at e
  split at e
  · rename_i i
    cases r2.unint hk
    split at e
    · rename_i ds ei
      obtain ⟨p, vs, rfl, hq, rl⟩ := r1.items hk ei
      obtain ⟨v, ev, rv⟩ := paired_atI rl e
      rcases hq with hq | hq
      · exact .inl ⟨p, vs, i, v, rfl, rfl, hq, ev, q v H F hk (Same.refl F) rv⟩
      · exact .inr (.inl ⟨p, vs, i, v, rfl, rfl, hq, ev, q v H F hk (Same.refl F) rv⟩)
    · unfold ixS at e
      split at e
      · split at e
        · obtain ⟨c, e1, e⟩ := Option.map_eq_some_iff.mp e
          cases e
          cases r1.unstr hk
          exact .inr (.inr ⟨_, i, c, rfl, rfl, by assumption, e1, q _ H F hk (Same.refl F) (.str _)⟩)
        · cases e
      · cases e
  · cases e
theorem se_ix {ma mb : ME} (hK : G.K = X.K) (ha : PE X a (eB G ma)) (hb : PE X b (eB G mb)) (hs : PlainIx b := by exact fun _ _ => rfl) : PE X (.Subscript a b pos) (eE G (mOp2 ixD ma mb)) := pe_imp (pe_ix (hK ▸ ix_seq) ha hb hs) (op2_imp r_ix)
abbrev MO := MX (Option Int)
def eO (G : Gh) (m : MO) : TO := fun σ H Q => ∃ F M ρ S, HeapOk G H F M S ∧ Slots G.K σ ρ F M ∧ ∃ d S', m ρ S = some (d, S') ∧ ∀ H' F', HeapOk G H' F' M S' → Le F F' → Q d H'
def mPart (m : ME) : MO := fun ρ S => (m ρ S).bind fun p => match p.1 with | .int i => some (some i, p.2) | _ => none
theorem so_none : PO X none (eO G (mPure none)) := ⟨fun pins s σ H Q I ⟨F, M, ρ, S, hk, sl, d, S', e, q⟩ => by
  cases e
  exact (po_none (X := X)).run pins s σ H Q I (q H F hk (Same.refl F))⟩
theorem so_some {m : ME} (h : PE X e (eE G m)) : PO X (some e) (eO G (mPart m)) := ⟨fun pins s σ H Q I ⟨F, M, ρ, S, hk, sl, d, S', e, q⟩ => by
  obtain ⟨⟨d1, S1⟩, e1, e⟩ := Option.bind_eq_some_iff.mp e
  cases d1 with
  | int i =>
    cases e
    exact (po_some h).run pins s σ H Q I ⟨F, M, ρ, S, hk, sl, _, S1, e1, fun v H' F' hk' le r => by cases r; exact ⟨i, rfl, q H' F' hk' le⟩⟩
  | _ => cases e⟩
def cutG {α : Type} (xs : List α) (lo hi : Option Int) : List α := (xs.drop (HT.sIx xs.length 0 lo)).take (HT.sIx xs.length xs.length hi - HT.sIx xs.length 0 lo)
theorem paired_cut {K : PySem.W.Frag} {F : Hp} {xs : List V} {ys : List D} (h : RepL K F xs ys) (lo hi : Option Int) : RepL K F (cutV xs lo hi) (cutG ys lo hi) := by
  unfold cutV cutG
  rw [Paired.length h]
  exact paired_take _ (paired_drop _ h)
def slT (d : D) (lo hi : Option Int) : Option D := match d.asT with
  | some ds => if HT.sIx ds.length 0 lo = 0 ∧ HT.sIx ds.length ds.length hi = ds.length then some d else some (.tup (cutG ds lo hi))
  | none => none
def slL (d : D) (lo hi : Option Int) : Option D := match d with
  | .lst ds => some (.lst (cutG ds lo hi))
  | _ => none
def slS (d : D) (lo hi : Option Int) : Option D := match d with
  | .str z => if z.length ≤ sizeLine then some (.str (cutS z lo hi)) else none
  | _ => none
/-- a slice of a tuple, a text, a list (new, frozen) -/
def slD (d : D) (lo hi : Option Int) : Option D := (slT d lo hi).or ((slS d lo hi).or (slL d lo hi))
def mSl (f : D → Option Int → Option Int → Option D) (m : ME) (l u : MO) : ME := fun ρ S => (m ρ S).bind fun p => (l ρ p.2).bind fun q => (u ρ q.2).bind fun r => (f p.1 q.1 r.1).map fun d => (d, r.2)
theorem mSl_some {f : D → Option Int → Option Int → Option D} {m : ME} {l u : MO} {ρ : Lo} {S S' : Sg} {d : D} (h : mSl f m l u ρ S = some (d, S')) : ∃ d1 S1 lo S2 hi, m ρ S = some (d1, S1) ∧ l ρ S1 = some (lo, S2) ∧ u ρ S2 = some (hi, S') ∧ f d1 lo hi = some d := by
  obtain ⟨⟨d1, S1⟩, e1, h⟩ := Option.bind_eq_some_iff.mp h
  obtain ⟨⟨d2, S2⟩, e2, h⟩ := Option.bind_eq_some_iff.mp h
  obtain ⟨⟨d3, S3⟩, e3, h⟩ := Option.bind_eq_some_iff.mp h
  obtain ⟨d4, e4, h⟩ := Option.map_eq_some_iff.mp h
  cases h
  exact ⟨_, _, _, _, _, e1, e2, e3, e4⟩
theorem sl_run {m : ME} {l u : MO} {σ : L2.St} {H : Hp} {R : V → Option Int → Option Int → Hp → Prop} {F : Hp} {M : OMap} {ρ : Lo} {S : Sg} (hk : HeapOk G H F M S) (sl : Slots G.K σ ρ F M) {d1 : D} {lo hi : Option Int} {S1 S2 S3 : Sg}
    (e1 : m ρ S = some (d1, S1)) (e2 : l ρ S1 = some (lo, S2)) (e3 : u ρ S2 = some (hi, S3)) (h : ∀ x H' F', HeapOk G H' F' M S3 → Le F F' → BRep G.K F' M x d1 → R x lo hi H') :
    eB G m σ H fun x H1 => eO G l σ H1 fun lo H2 => eO G u σ H2 fun hi H3 => R x lo hi H3 :=
  ⟨F, M, ρ, S, hk, sl, d1, S1, e1, fun x H1 F1 hk1 le1 r1 => ⟨F1, M, ρ, S1, hk1, sl.mono le1, lo, S2, e2, fun H2 F2 hk2 le2 => ⟨F2, M, ρ, S2, hk2, (sl.mono le1).mono le2, hi, S3, e3, fun H3 F3 hk3 le3 => h x H3 F3 hk3 ((le1.trans le2).trans le3) ((r1.mono le2).mono le3)⟩⟩⟩
theorem cut_len {α : Type} (xs : List α) (lo hi : Option Int) : (cutG xs lo hi).length ≤ xs.length := by
  unfold cutG; rw [List.length_take, List.length_drop]; omega
variable {lo hi : Option Expr} {m : ME} {l u : MO}
theorem sf_slL (hK : G.K = X.K) (he : PE X e (eB G m)) (hl : PO X lo (eO G l)) (hu : PO X hi (eO G u)) : PE X (.Subscript e (.Slice lo hi none p2) pos) (eF G (mSl slL m l u)) := pe_imp (pe_slice (hK ▸ sl_list) he hl hu) fun σ H Q ⟨F, M, ρ, S, hk, sl, d, S', e, q⟩ => by
  obtain ⟨d1, S1, lo', S2, hi', e1, e2, e3, e4⟩ := mSl_some e
  refine sl_run hk sl e1 e2 e3 fun x H' F' hk' le r => ?_
  unfold slL at e4
  split at e4
  · cases e4
    have r0 := r
    obtain ⟨a, vs, rfl, q1, rl⟩ := r.unlst hk'
    exact ⟨a, vs, rfl, .of q1, fun p hp => q p _ F' (hk'.laidO hp (.lst (Nat.le_trans (cut_len _ _ _) (r0.size hk' (.inr rfl))) (paired_cut rl _ _))) (hk'.mnone hp) le⟩
  · cases e4
theorem se_sl (hK : G.K = X.K) (he : PE X e (eB G m)) (hl : PO X lo (eO G l)) (hu : PO X hi (eO G u)) : PE X (.Subscript e (.Slice lo hi none p2) pos) (eE G (mSl slD m l u)) := pe_imp (pe_slice (SlR.or (hK ▸ sl_tupA) (SlR.or sl_str (hK ▸ sl_list))) he hl hu) fun σ H Q ⟨F, M, ρ, S, hk, sl, d, S', e, q⟩ => by
  obtain ⟨d1, S1, lo', S2, hi', e1, e2, e3, e4⟩ := mSl_some e
  refine sl_run hk sl e1 e2 e3 fun x H' F' hk' le r => ?_
  unfold slD at e4
  cases h1 : slT d1 lo' hi' with
  | some z =>
    rw [h1] at e4
    cases e4
    unfold slT at h1
    split at h1
    · rename_i ds ed
      obtain ⟨a, vs, rfl, q1, rl⟩ := r.untup hk' ed
      have hl := Paired.length rl
      have rr := r.rep hk' (by rw [ed]; exact fun z => nomatch z)
      refine .inl ⟨a, vs, rfl, q1, fun w => ?_, fun w p hp => ?_⟩
      · rw [hl] at w
        rw [if_pos w] at h1; cases h1
        exact q _ H' F' hk' le rr
      · rw [hl] at w
        rw [if_neg w] at h1; cases h1
        exact q _ _ _ (hk'.laid hp) (le.trans (le_upd (hk'.fnone hp))) (.mkTup upd_same (Nat.le_trans (cut_len _ _ _) (rr.size (.inl ed))) (RepL.mono (le_upd (hk'.fnone hp)) (paired_cut rl _ _)))
    · cases h1
  | none =>
    rw [h1] at e4
    cases h2 : slS d1 lo' hi' with
    | some z =>
      rw [h2] at e4
      cases e4
      unfold slS at h2
      split at h2
      · split at h2
        · cases h2
          cases r.unstr hk'
          exact .inr (.inl ⟨_, rfl, by assumption, q _ H' F' hk' le (.str _)⟩)
        · cases h2
      · cases h2
    | none =>
      rw [h2] at e4
      have e4 : slL d1 lo' hi' = some d := e4
      unfold slL at e4
      split at e4
      · cases e4
        have r0 := r
        obtain ⟨a, vs, rfl, q1, rl⟩ := r.unlst hk'
        exact .inr (.inr ⟨a, vs, rfl, .of q1, fun p hp => q _ _ _ (hk'.laid hp) (le.trans (le_upd (hk'.fnone hp))) (.mkLst upd_same (Nat.le_trans (cut_len _ _ _) (r0.size hk' (.inr rfl))) (RepL.mono (le_upd (hk'.fnone hp)) (paired_cut rl _ _)))⟩)
      · cases e4

/-! ### built-in functions -/
def CBE (G : Gh) (r : List V → Hp → VK → Prop) (f : List D → Option D) : Prop := ∀ (vs : List V) (ds : List D) (d : D) (H F : Hp) (M : OMap) (S : Sg) (Q : VK), HeapOk G H F M S → BRepL G.K F M vs ds → f ds = some d →
  (∀ v H' F', HeapOk G H' F' M S → Le F F' → Rep G.K F' v d → Q v H') → r vs H Q
def CBF (G : Gh) (r : List V → Hp → VK → Prop) (f : List D → Option D) : Prop := ∀ (vs : List V) (ds : List D) (d : D) (H F : Hp) (M : OMap) (S : Sg) (Q : VK), HeapOk G H F M S → BRepL G.K F M vs ds → f ds = some d →
  (∀ a H' F', HeapOk G H' F' (updO M a (none, d)) S → M a = none → Le F F' → Q (.ref a) H') → r vs H Q
def mCall (f : List D → Option D) (m : MA) : ME := fun ρ S => (m ρ S).bind fun p => (f p.1).map fun d => (d, p.2)
theorem mCall_some {f : List D → Option D} {m : MA} {ρ : Lo} {S S' : Sg} {d : D} (h : mCall f m ρ S = some (d, S')) : ∃ ds, m ρ S = some (ds, S') ∧ f ds = some d := by
  obtain ⟨⟨d1, S1⟩, e1, h⟩ := Option.bind_eq_some_iff.mp h
  obtain ⟨d4, e4, h⟩ := Option.map_eq_some_iff.mp h
  cases h
  exact ⟨_, e1, e4⟩
theorem cb_imp {r : List V → Hp → VK → Prop} {f : List D → Option D} {n : MA} (hr : CBE G r f) : ∀ σ H Q, eE G (mCall f n) σ H Q → tCB r (eAB G n) σ H Q := fun σ H Q ⟨F, M, ρ, S, hk, sl, d, S', e, q⟩ => by
  obtain ⟨ds, e1, e2⟩ := mCall_some e
  exact ⟨F, M, ρ, S, hk, sl, ds, S', e1, fun vs H' F' hk' le rl => hr vs ds d H' F' M S' Q hk' rl e2 fun v H2 F2 hk2 le2 r2 => q v H2 F2 hk2 (le.trans le2) r2⟩
theorem cb_impF {r : List V → Hp → VK → Prop} {f : List D → Option D} {n : MA} (hr : CBF G r f) : ∀ σ H Q, eF G (mCall f n) σ H Q → tCB r (eAB G n) σ H Q := fun σ H Q ⟨F, M, ρ, S, hk, sl, d, S', e, q⟩ => by
  obtain ⟨ds, e1, e2⟩ := mCall_some e
  exact ⟨F, M, ρ, S, hk, sl, ds, S', e1, fun vs H' F' hk' le rl => hr vs ds d H' F' M S' Q hk' rl e2 fun v H2 F2 hk2 le2 r2 => q v H2 F2 hk2 le2 (le.trans r2)⟩
theorem se_cb {r : List V → Hp → VK → Prop} {f : List D → Option D} {n : MA} (hr : CBE G r f) (h : PE X o (tCB r (eAB G n))) : PE X o (eE G (mCall f n)) := pe_imp h (cb_imp hr)
theorem sf_cb {r : List V → Hp → VK → Prop} {f : List D → Option D} {n : MA} (hr : CBF G r f) (h : PE X o (tCB r (eAB G n))) : PE X o (eF G (mCall f n)) := pe_imp h (cb_impF hr)
theorem CBE.or {r r' : List V → Hp → VK → Prop} {f g : List D → Option D} (h : CBE G r f) (h' : CBE G r' g) : CBE G (fun xs H Q => r xs H Q ∨ r' xs H Q) (fun x => (f x).or (g x)) := fun vs ds d H F M S Q hk rl e q => by
  have e : (f ds).or (g ds) = some d := e
  cases e1 : f ds with
  | some z => rw [e1] at e; cases e; exact .inl (h vs ds d H F M S Q hk rl e1 q)
  | none => rw [e1] at e; exact .inr (h' vs ds d H F M S Q hk rl (by simpa using e) q)
theorem brl1 {K : PySem.W.Frag} {F : Hp} {M : OMap} {vs : List V} {d : D} (r : BRepL K F M vs [d]) : ∃ v, vs = [v] ∧ BRep K F M v d := by
  cases r with | cons r t => cases t; exact ⟨_, rfl, r⟩
theorem brl2 {K : PySem.W.Frag} {F : Hp} {M : OMap} {vs : List V} {d d' : D} (r : BRepL K F M vs [d, d']) : ∃ v v', vs = [v, v'] ∧ BRep K F M v d ∧ BRep K F M v' d' := by
  cases r with | cons r t => cases t with | cons r' t' => cases t'; exact ⟨_, _, rfl, r, r'⟩
/-- len -/
def lenA : List D → Option D
  | [d] => match itemsD d with
    | some ds => some (.int ds.length)
    | none => match d with
      | .str z => if z.length ≤ sizeLine then some (.int z.length) else none
      | _ => none
  | _ => none
def lenK : List D → Option D
  | [.dK kvs] => some (.int kvs.length)
  | _ => none
theorem c_lenA : CBE G (fun xs H Q => ∃ x n, xs = [x] ∧ LenV G.K x H n ∧ Q (.int n) H) lenA := fun vs ds d H F M S Q hk rl e q => by
  unfold lenA at e
  split at e
  · obtain ⟨v, rfl, r⟩ := brl1 rl
    split at e
    · rename_i xs ei
      cases e
      obtain ⟨a, us, rfl, hq, rl⟩ := r.items hk ei
      refine ⟨_, xs.length, rfl, ?_, q _ H F hk (Same.refl F) (.int _)⟩
      rw [← Paired.length rl]
      exact hq.imp (fun h => ⟨_, h, rfl⟩) fun h => ⟨_, h, rfl⟩
    · split at e
      · split at e
        · cases e
          cases r.unstr hk
          exact ⟨_, _, rfl, ⟨by assumption, rfl⟩, q _ H F hk (Same.refl F) (.int _)⟩
        · cases e
      · cases e
  · cases e
theorem c_lenK : CBE G (fun xs H Q => ∃ a kvs, xs = [V.ref a] ∧ Rd H a (.dK kvs) ∧ Q (.int kvs.length) H) lenK := fun vs ds d H F M S Q hk rl e q => by
  unfold lenK at e
  split at e
  · obtain ⟨v, rfl, r⟩ := brl1 rl
    cases e
    obtain ⟨a, us, rfl, hq, rl⟩ := r.undK hk
    refine ⟨a, us, rfl, hq, ?_⟩
    rw [Paired.length rl]
    exact q _ H F hk (Same.refl F) (.int _)
  · cases e
def lenS : List D → Option D
  | [.scr ns] => some (.int ns.length)
  | _ => none
theorem c_lenS : CBE G (fun xs H Q => ∃ x n, xs = [x] ∧ LenV G.K x H n ∧ Q (.int n) H) lenS := fun vs ds d H F M S Q hk rl e q => by
  unfold lenS at e
  split at e
  · rename_i ns
    obtain ⟨v, rfl, r⟩ := brl1 rl
    cases e
    rcases r with r | ⟨a, w, rfl, m⟩
    · cases r with
      | scr h => exact ⟨_, ns.length, rfl, .inl ⟨_, Same.seq hk.sub h, by simp⟩, q _ H F hk (Same.refl F) (.int _)⟩
    · obtain ⟨_, _, o, eo, ro⟩ := hk.own _ _ _ m; cases ro
  · cases e
/-- len of a dict, also while it is walked -/
theorem call_lenRd : CallR X (.builtin "len") (fun xs H Q => ∃ a kvs, xs = [V.ref a] ∧ Rd H a (.dK kvs) ∧ Q (.int kvs.length) H) := fun pins s σ H xs us Q I r ⟨a, kvs, ex, ha, q⟩ => by
  subst ex
  obtain ⟨u, eu, ru⟩ := vals1 r
  subst eu
  (obtain rfl : u = Value.ref a := ru); refine d_len I ha fun t s' I' => ⟨.int kvs.length, H, I', ⟨t, rfl⟩, q⟩
def lenD : List D → Option D := fun ds => (lenA ds).or ((lenK ds).or (lenS ds))
theorem c_len (hK : G.K = X.K) : CallR X (.builtin "len") (fun xs H Q => (∃ x n, xs = [x] ∧ LenV G.K x H n ∧ Q (.int n) H) ∨ ((∃ a kvs, xs = [V.ref a] ∧ Rd H a (.dK kvs) ∧ Q (.int kvs.length) H) ∨ ∃ x n, xs = [x] ∧ LenV G.K x H n ∧ Q (.int n) H)) :=
  CallR.or (hK ▸ call_len) (CallR.or call_lenRd (hK ▸ call_len))
/-- all, any -/
def blsD : List D → Option (List Bool)
  | [] => some []
  | .bl b :: r => (blsD r).map (b :: ·)
  | _ => none
theorem repL_bls {K : PySem.W.Frag} {F : Hp} : ∀ {vs : List V} {ds : List D} {bs : List Bool}, RepL K F vs ds → blsD ds = some bs → vs = bs.map V.bl
  | _, _, _, .nil, e => by cases e; rfl
  | _, d :: _, _, .cons r t, e => by
    cases d with
    | bl b =>
      obtain ⟨bs, e1, rfl⟩ := Option.map_eq_some_iff.mp e
      cases r
      rw [repL_bls t e1]; rfl
    | _ => cases e
def allD : List D → Option D
  | [.lst ds] => (blsD ds).map fun bs => .bl (bs.all id)
  | _ => none
def anyD : List D → Option D
  | [.lst ds] => (blsD ds).map fun bs => .bl (bs.any id)
  | _ => none
theorem c_all : CBE G (rAll G.K) allD := fun vs ds d H F M S Q hk rl e q => by
  unfold allD at e
  split at e
  · obtain ⟨bs, e1, e⟩ := Option.map_eq_some_iff.mp e
    cases e
    obtain ⟨v, rfl, r⟩ := brl1 rl
    obtain ⟨a, us, rfl, hq, rl⟩ := r.unlst hk
    have h := repL_bls rl e1
    subst h
    exact ⟨a, bs, rfl, .of hq, q _ H F hk (Same.refl F) (.bl _)⟩
  · cases e
theorem c_any : CBE G (rAny G.K) anyD := fun vs ds d H F M S Q hk rl e q => by
  unfold anyD at e
  split at e
  · obtain ⟨bs, e1, e⟩ := Option.map_eq_some_iff.mp e
    cases e
    obtain ⟨v, rfl, r⟩ := brl1 rl
    obtain ⟨a, us, rfl, hq, rl⟩ := r.unlst hk
    have h := repL_bls rl e1
    subst h
    exact ⟨a, bs, rfl, .of hq, q _ H F hk (Same.refl F) (.bl _)⟩
  · cases e
/-- sum, abs, min, int, gcd -/
def intsD : List D → Option (List Int)
  | [] => some []
  | .int b :: r => (intsD r).map (b :: ·)
  | _ => none
theorem repL_ints {K : PySem.W.Frag} {F : Hp} : ∀ {vs : List V} {ds : List D} {bs : List Int}, RepL K F vs ds → intsD ds = some bs → vs = bs.map V.int
  | _, _, _, .nil, e => by cases e; rfl
  | _, d :: _, _, .cons r t, e => by
    cases d with
    | int b =>
      obtain ⟨bs, e1, rfl⟩ := Option.map_eq_some_iff.mp e
      cases r
      rw [repL_ints t e1]; rfl
    | _ => cases e
def sumD : List D → Option D
  | [.lst ds] => (intsD ds).map fun bs => .int bs.sum
  | _ => none
theorem c_sum : CBE G (rSum G.K) sumD := fun vs ds d H F M S Q hk rl e q => by
  unfold sumD at e
  split at e
  · obtain ⟨bs, e1, e⟩ := Option.map_eq_some_iff.mp e
    cases e
    obtain ⟨v, rfl, r⟩ := brl1 rl
    obtain ⟨a, us, rfl, hq, rl⟩ := r.unlst hk
    have h := repL_ints rl e1
    subst h
    exact ⟨a, bs, rfl, .of hq, q _ H F hk (Same.refl F) (.int _)⟩
  · cases e
def absD : List D → Option D
  | [.int i] => some (.int (if i < 0 then -i else i))
  | _ => none
theorem c_abs : CBE G (fun xs H Q => ∃ i, xs = [.int i] ∧ Q (.int (if i < 0 then -i else i)) H) absD := fun vs ds d H F M S Q hk rl e q => by
  unfold absD at e
  split at e
  · cases e
    obtain ⟨v, rfl, r⟩ := brl1 rl
    cases r.unint hk
    exact ⟨_, rfl, q _ H F hk (Same.refl F) (.int _)⟩
  · cases e
def minD : List D → Option D
  | [.int i, .int j] => some (.int (if j < i then j else i))
  | _ => none
theorem c_min : CBE G (fun xs H Q => ∃ i j, xs = [.int i, .int j] ∧ Q (.int (if j < i then j else i)) H) minD := fun vs ds d H F M S Q hk rl e q => by
  unfold minD at e
  split at e
  · cases e
    obtain ⟨v, w, rfl, r, r'⟩ := brl2 rl
    cases r.unint hk
    cases r'.unint hk
    exact ⟨_, _, rfl, q _ H F hk (Same.refl F) (.int _)⟩
  · cases e
def intD : List D → Option D
  | [.int i] => some (.int i)
  | _ => none
theorem c_int : CBE G (fun xs H Q => (∃ i, xs = [V.int i] ∧ Q (.int i) H) ∨ ∃ k, xs = [V.bl k] ∧ Q (.int (if k then 1 else 0)) H) intD := fun vs ds d H F M S Q hk rl e q => by
  unfold intD at e
  split at e
  · cases e
    obtain ⟨v, rfl, r⟩ := brl1 rl
    cases r.unint hk
    exact .inl ⟨_, rfl, q _ H F hk (Same.refl F) (.int _)⟩
  · cases e
def gcdD : List D → Option D
  | [.int i, .int j] => some (.int ((Nat.gcd i.natAbs j.natAbs : Nat) : Int))
  | _ => none
theorem c_gcd : CBE G rGcd gcdD := fun vs ds d H F M S Q hk rl e q => by
  unfold gcdD at e
  split at e
  · cases e
    obtain ⟨v, w, rfl, r, r'⟩ := brl2 rl
    cases r.unint hk
    cases r'.unint hk
    exact ⟨_, _, rfl, q _ H F hk (Same.refl F) (.int _)⟩
  · cases e
/-- tuple(..), list(..) of lists and tuples -/
def tupleD : List D → Option D
  | [.lst ds] => some (.tup ds)
  | [.tup ds] => some (.tup ds)
  | [.kt ds] => some (.kt ds)
  | _ => none
theorem c_tuple : CBE G (fun xs H Q => ∃ p ys, xs = [V.ref p] ∧ ((SqL G.K H p ys ∧ ∀ l, H l = none → Q (.ref l) (upd H l (.tup ys))) ∨ (SqT G.K H p ys ∧ Q (.ref p) H))) tupleD := fun vs ds d H F M S Q hk rl e q => by
  unfold tupleD at e
  split at e
  · cases e
    obtain ⟨v, rfl, r⟩ := brl1 rl
    have r0 := r
    obtain ⟨a, us, rfl, hq, rl⟩ := r.unlst hk
    exact ⟨a, us, rfl, .inl ⟨.of hq, fun p hp => q _ _ _ (hk.laid hp) (le_upd (hk.fnone hp)) (.mkTup upd_same (r0.size hk (.inr rfl)) (RepL.mono (le_upd (hk.fnone hp)) rl))⟩⟩
  · cases e
    obtain ⟨v, rfl, r⟩ := brl1 rl
    obtain ⟨a, us, rfl, hq, rl⟩ := r.untup hk (d := .tup _) rfl
    exact ⟨a, us, rfl, .inr ⟨hq, q _ H F hk (Same.refl F) (r.rep hk (fun z => nomatch z))⟩⟩
  · cases e
    obtain ⟨v, rfl, r⟩ := brl1 rl
    obtain ⟨a, us, rfl, hq, rl⟩ := r.untup hk (d := .kt _) rfl
    exact ⟨a, us, rfl, .inr ⟨hq, q _ H F hk (Same.refl F) (r.rep hk (fun z => nomatch z))⟩⟩
  · cases e
theorem items_cases {d : D} {xs : List D} (h : itemsD d = some xs) : d.asT = some xs ∨ d = .lst xs := by
  unfold itemsD at h
  split at h <;> first | (cases h; first | exact .inl rfl | exact .inr rfl) | cases h
def listD : List D → Option D
  | [d] => (itemsD d).map .lst
  | _ => none
theorem c_list : CBF G (fun xs H Q => ∃ p ys, xs = [V.ref p] ∧ (SqL G.K H p ys ∨ SqT G.K H p ys) ∧ ∀ l, H l = none → Q (.ref l) (upd H l (.lst ys))) listD := fun vs ds d H F M S Q hk rl e q => by
  unfold listD at e
  split at e
  · obtain ⟨xs, e1, e⟩ := Option.map_eq_some_iff.mp e
    cases e
    obtain ⟨v, rfl, r⟩ := brl1 rl
    have r0 := r
    obtain ⟨a, us, rfl, hq, rl⟩ := r.items hk e1
    exact ⟨a, us, rfl, hq, fun p hp => q p _ F (hk.laidO hp (.lst (r0.size hk (items_cases e1)) rl)) (hk.mnone hp) (Same.refl F)⟩
  · cases e
/-- isinstance(x, T) -/
def tyD : D → Option String
  | .non => some "NoneType"
  | .bl _ => some "bool"
  | .int _ => some "int"
  | .str _ => some "str"
  | .tup _ => some "tuple"
  | .kt _ => some "tuple"
  | .lst _ => some "list"
  | .dK _ => some "dict"
  | .dT _ => some "dict"
  | _ => none
theorem rep_tyx {H F : Hp} {M : OMap} {S : Sg} {v : V} {d : D} {t : String} (h : HeapOk G H F M S) (r : BRep G.K F M v d) (e : tyD d = some t) : TyX G.K H v (.type t) := by
  rcases r with r | ⟨a, w, rfl, m⟩
  · cases r with
    | non => cases e; exact .base .non
    | bl b => cases e; exact .base (.bl b)
    | int i => cases e; exact .base (.int i)
    | str x => cases e; exact .base (.str x)
    | tup q _ _ _ => cases e; exact .base (.tup (h.sub _ _ q))
    | kt q _ _ =>
      cases e
      rcases q with (q | ⟨_, q⟩) | ⟨o, its, n, k, c, _⟩
      · cases q
      · cases q
      · exact .kTuple k c
    | lst q _ _ _ => cases e; exact .base (.lst (h.sub _ _ q))
    | dK q _ _ =>
      cases e
      rcases q with q | ⟨o, q⟩
      · exact .base (.dK (h.sub _ _ q))
      · exact .fDict (h.sub _ _ q)
    | dT q _ _ => cases e; exact .base (.dT (h.sub _ _ q))
    | rng a => cases e
    | fn a => cases e
    | scr q => cases e
  · obtain ⟨_, _, o, eo, ro⟩ := h.own _ _ _ m
    cases ro with
    | lst _ r => cases e; exact .base (.lst eo)
    | dK r => cases e; exact .base (.dK eo)
    | dT r => cases e; exact .base (.dT eo)
def isiD (T : String) (d : D) : Option D := (tyD d).bind fun t => (kitB t T).map .bl
theorem se_isi {t : String} (h : PE X o (tCB (rIsi G.K) (tCons (eB G m) (tCons (tC (.ty t)) tNil)))) : PE X o (eE G (mOp1 (isiD t) m)) :=
  pe_imp h fun σ H Q ⟨F, M, ρ, S, hk, sl, d, S', e, q⟩ => by
    obtain ⟨d1, e1, e2⟩ := mOp1_some e
    refine ⟨F, M, ρ, S, hk, sl, d1, S', e1, fun v H' F' hk' le r => ?_⟩
    obtain ⟨ty, e3, e4⟩ := Option.bind_eq_some_iff.mp e2
    obtain ⟨k, e5, e6⟩ := Option.map_eq_some_iff.mp e4
    cases e6
    exact ⟨v, .ty t, .type ty, .type t, k, rfl, .ty t, rep_tyx hk' r e3, kit_ty e5, q _ H' F' hk' le (.bl _)⟩
/-- isinstance(x, (T, U)) -/
def isi2D (T U : String) (d : D) : Option D := (tyD d).bind fun t => (kitB t T).bind fun k => if k then some (.bl true) else (kitB t U).map .bl
theorem se_isi2 {t u : String} (h : PE X o (tCB (rIsiT G.K) (tCons (eB G m) (tCons (tTup (tCons (tC (.ty t)) (tCons (tC (.ty u)) tNil))) tNil)))) : PE X o (eE G (mOp1 (isi2D t u) m)) :=
  pe_imp h fun σ H Q ⟨F, M, ρ, S, hk, sl, d, S', e, q⟩ => by
    obtain ⟨d1, e1, e2⟩ := mOp1_some e
    refine ⟨F, M, ρ, S, hk, sl, d1, S', e1, fun v H' F' hk' le r => ?_⟩
    obtain ⟨ty, e3, e4⟩ := Option.bind_eq_some_iff.mp e2
    obtain ⟨k, e5, e6⟩ := Option.bind_eq_some_iff.mp e4
    (refine ⟨by show 2 ≤ sizeLine; decide, fun p hp => ?_⟩); have hk2 := hk'.laid (o := .tup [.ty t, .ty u]) hp
    have le2 := le_upd (o := .tup [.ty t, .ty u]) (hk'.fnone hp)
    have r2 := BRep.mono le2 r
    cases k with
    | true =>
      cases e6
      exact ⟨v, p, _, .type ty, _, true, rfl, upd_same, .cons (.ty t) (.cons (.ty u) .nil), rep_tyx hk2 r2 e3, kitAny_cons (kit_ty e5) (fun z => nomatch z) (fun _ => rfl), q _ _ _ hk2 (le.trans le2) (.bl _)⟩
    | false =>
      obtain ⟨k2, e7, e8⟩ := Option.map_eq_some_iff.mp e6
      cases e8
      exact ⟨v, p, _, .type ty, _, k2, rfl, upd_same, .cons (.ty t) (.cons (.ty u) .nil), rep_tyx hk2 r2 e3, kitAny_cons (kit_ty e5) (fun _ => kitAny_cons (kit_ty e7) (fun z => by rw [z]; exact kitAny_nil) (fun z => z)) (fun z => nomatch z), q _ _ _ hk2 (le.trans le2) (.bl _)⟩
end
end Dv
namespace Dv
open PySem PySem.Spec
open PyProof.Rows L2

/-! ### targets -/
abbrev MG := D → Lo → Option Lo
abbrev MGs := List D → Lo → Option Lo
def gNm (i : Nat) : MG := fun d ρ => some (ρ.set i (some (.imm d)))
def gNl : MGs := fun ds ρ => match ds with | [] => some ρ | _ => none
def gCns (g : MG) (gs : MGs) : MGs := fun ds ρ => match ds with | d :: r => (g d ρ).bind (gs r) | [] => none
def gTp (n : Nat) (gs : MGs) : MG := fun d ρ => match d.asT with | some ds => if ds.length = n then gs ds ρ else none | none => none
def eG (G : Gh) (is : List Nat) (g : MG) : TG := fun v σ H Q => ∃ F M ρ S d, HeapOk G H F M S ∧ Slots G.K σ ρ F M ∧ Rep G.K F v d ∧ ∃ ρ', g d ρ = some ρ' ∧
  ∀ σ', Slots G.K σ' ρ' F M → σ'.length = σ.length → (∀ i, i ∉ is → σ'[i]? = σ[i]? ∧ ρ'[i]? = ρ[i]?) → Q σ' H
def eGs (G : Gh) (is : List Nat) (g : MGs) : TGs := fun vs σ H Q => ∃ F M ρ S ds, HeapOk G H F M S ∧ Slots G.K σ ρ F M ∧ RepL G.K F vs ds ∧ ∃ ρ', g ds ρ = some ρ' ∧
  ∀ σ', Slots G.K σ' ρ' F M → σ'.length = σ.length → (∀ i, i ∉ is → σ'[i]? = σ[i]? ∧ ρ'[i]? = ρ[i]?) → Q σ' H
theorem Slots.set {K : PySem.W.Frag} {σ : L2.St} {ρ : Lo} {F : Hp} {M : OMap} {i : Nat} {v : V} {l : LV} (s : Slots K σ ρ F M) (r : LRep K F M i v l) : Slots K (σ.set i (some v)) (ρ.set i (some l)) F M := by
  refine ⟨by rw [List.length_set, List.length_set]; exact s.len, fun j l' h => ?_⟩
  by_cases hj : i = j
  · subst hj
    have hi : i < ρ.length := by
      have := (List.getElem?_eq_some_iff.mp h).1
      rwa [List.length_set] at this
    rw [List.getElem?_set_self hi] at h
    cases h
    exact ⟨v, List.getElem?_set_self (by rw [s.len]; exact hi), r⟩
  · rw [List.getElem?_set_ne hj] at h
    obtain ⟨w, e, r⟩ := s.at_ _ _ h
    exact ⟨w, by rw [List.getElem?_set_ne hj]; exact e, r⟩
section
variable {G : Gh} {X : Cx} {e a b c o : Expr} {es : List Expr} {pos p2 : Pos}
theorem pg_imp {t t' : TG} (h : PG X e t) (i : ∀ v σ H Q, t' v σ H Q → t v σ H Q) : PG X e t' := ⟨fun pins s σ H v u Q I r q => h.run pins s σ H v u Q I r (i _ _ _ _ q)⟩
theorem pgs_imp {t t' : TGs} (h : PGs X es t) (i : ∀ v σ H Q, t' v σ H Q → t v σ H Q) : PGs X es t' := ⟨fun pins s σ H v u Q I r q => h.run pins s σ H v u Q I r (i _ _ _ _ q)⟩
theorem sg_name (i : Nat) {x : Str} (hN : X.N.Nodup) (hi : X.N[i]? = some x := by rfl) (hx : L2.Loc X.env.scope x := by first | exact .inl rfl | exact .inr rfl) (hf : X.fn x = true ∨ X.env.scope.names.lookup x = some .local := by first | exact .inl rfl | exact .inr rfl | assumption) : PG X (.Name x pos) (eG G [i] (gNm i)) :=
  pg_imp (pg_name hN hi hx hf) fun v σ H Q ⟨F, M, ρ, S, d, hk, sl, r, ρ', e, q⟩ => by
    cases e
    refine q _ (sl.set (l := .imm d) r) (by rw [List.length_set]) fun j hj => ?_
    have : i ≠ j := fun z => hj (by simp [z])
    exact ⟨List.getElem?_set_ne this, List.getElem?_set_ne this⟩
theorem sgs_nil : PGs X [] (eGs G [] gNl) := pgs_imp pgs_nil fun v σ H Q ⟨F, M, ρ, S, ds, hk, sl, r, ρ', e, q⟩ => by
  cases r with
  | nil => cases e; exact ⟨rfl, q σ sl rfl fun j _ => ⟨rfl, rfl⟩⟩
  | cons _ _ => cases e
theorem sgs_cons {is js : List Nat} {g : MG} {gs : MGs} (h1 : PG X e (eG G is g)) (h2 : PGs X es (eGs G js gs)) (hs : (assignEach (e :: es) X.env).map (·.2) = assign e X.env :: (assignEach es X.env).map (·.2) := by rfl) : PGs X (e :: es) (eGs G (is ++ js) (gCns g gs)) :=
  pgs_imp (pgs_cons h1 h2 hs) fun v σ H Q ⟨F, M, ρ, S, ds, hk, sl, r, ρ', e, q⟩ => by
    cases r with
    | nil => cases e
    | cons r rs =>
      obtain ⟨ρ1, e1, e2⟩ := Option.bind_eq_some_iff.mp e
      refine ⟨_, _, rfl, F, M, ρ, S, _, hk, sl, r, ρ1, e1, fun σ1 sl1 l1 k1 => ⟨F, M, ρ1, S, _, hk, sl1, rs, ρ', e2, fun σ2 sl2 l2 k2 => q σ2 sl2 (l2.trans l1) fun i hi => ?_⟩⟩
      have h1 := k1 i fun z => hi (List.mem_append_left _ z)
      have h2 := k2 i fun z => hi (List.mem_append_right _ z)
      exact ⟨h2.1.trans h1.1, h2.2.trans h1.2⟩
theorem sg_tup {is : List Nat} {gs : MGs} {k n : Nat} (hK : G.K = X.K) (hc : X.calm = true) (h : PGs X es (eGs G is gs)) (hn : (assignEach es X.env).length = n := by rfl) (hst : (assignEach es X.env).findIdx? (·.1) = none := by rfl) : PG X (.Tuple es k pos) (eG G is (gTp n gs)) :=
  pg_imp (hK ▸ pg_tup hc h hn hst : PG X (.Tuple es k pos) (gTup G.K n (eGs G is gs))) fun v σ H Q ⟨F, M, ρ, S, d, hk, sl, r, ρ', e, q⟩ => by
    unfold gTp at e
    split at e
    · rename_i ds ed
      split at e
      · rename_i hz
        obtain ⟨a, vs, rfl, hq, rl⟩ := r.untup ed
        exact ⟨a, vs, rfl, SqT_mono hk.sub hq, by rw [Paired.length rl]; exact hz, F, M, ρ, S, ds, hk, sl, rl, ρ', e, q⟩
      · cases e
    · cases e

/-! ### what is walked -/
structure WalkD (G : Gh) (J : It) (ds : List D) (F0 : Hp) : Prop where
  size : ds.length ≤ sizeLine
  goes : ∀ i H, i < ds.length → Le F0 H → J.go i H
  stops : ∀ H, Le F0 H → J.stop ds.length H
  yields : ∀ i H x H' F M S, i < ds.length → HeapOk G H F M S → Le F0 F → J.yld i H x H' → ∃ F' d, HeapOk G H' F' M S ∧ Le F F' ∧ ds[i]? = some d ∧ Rep G.K F' x d
def iI (G : Gh) (m : MA) : TI := fun σ H R => ∃ F M ρ S, HeapOk G H F M S ∧ Slots G.K σ ρ F M ∧ ∃ ds S', m ρ S = some (ds, S') ∧
  ∀ J H' F', HeapOk G H' F' M S' → Le F F' → WalkD G J ds F' → R J H'
theorem pi_imp {tg : Expr} {t t' : TI} (h : PI X tg e t) (i : ∀ σ H Q, t' σ H Q → t σ H Q) : PI X tg e t' := ⟨fun pins s σ H R I q => h.run pins s σ H R I (i _ _ _ q)⟩
theorem pi_or {tg : Expr} {t t' : TI} (h : PI X tg e t) (h' : PI X tg e t') : PI X tg e (fun σ H R => t σ H R ∨ t' σ H R) := ⟨fun pins s σ H R I q => q.elim (h.run pins s σ H R I) (h'.run pins s σ H R I)⟩
theorem walkD_of {J : It} {n : Nat} {Gd : Hp → Prop} {Y : Nat → Hp → V → Hp → Prop} {ds : List D} {F0 : Hp} (w : Walk J n Gd Y) (hz : ds.length ≤ sizeLine) (hn : n = ds.length) (hg : ∀ H, Le F0 H → Gd H)
    (hy : ∀ i H x H' F M S, i < n → HeapOk G H F M S → Le F0 F → Y i H x H' → ∃ F' d, HeapOk G H' F' M S ∧ Le F F' ∧ ds[i]? = some d ∧ Rep G.K F' x d) : WalkD G J ds F0 := by
  subst hn
  exact ⟨hz, fun i H hi le => w.goes i H hi (hg H le), fun H le => w.stops H (hg H le), fun i H x H' F M S hi hk le y => hy i H x H' F M S hi hk le (w.yields i H x H' hi (hg H (le.trans hk.sub)) y)⟩
theorem yat {F0 : Hp} {xs : List V} {ds : List D} (rl : RepL G.K F0 xs ds) : ∀ i H x H' F M S, i < xs.length → HeapOk G H F M S → Le F0 F → YAt xs i H x H' → ∃ F' d, HeapOk G H' F' M S ∧ Le F F' ∧ ds[i]? = some d ∧ Rep G.K F' x d := by
  rintro i H x H' F M S hi hk le ⟨rfl, e⟩
  obtain ⟨d, e2, r⟩ := paired_get'' rl e
  exact ⟨F, d, hk, Same.refl F, e2, r.mono le⟩
def mSeq (m : ME) : MA := fun ρ S => (m ρ S).bind fun p => (itemsD p.1).map fun ds => (ds, p.2)
theorem mSeq_some {m : ME} {ρ : Lo} {S S' : Sg} {ds : List D} (h : mSeq m ρ S = some (ds, S')) : ∃ d, m ρ S = some (d, S') ∧ itemsD d = some ds := by
  obtain ⟨⟨d1, S1⟩, e1, h⟩ := Option.bind_eq_some_iff.mp h
  obtain ⟨d4, e4, h⟩ := Option.map_eq_some_iff.mp h
  cases h
  exact ⟨_, e1, e4⟩
/-- over a list or a tuple -/
theorem si_seq {tg : Expr} {m : ME} (hK : G.K = X.K) (h : PE X e (eE G m)) : PI X tg e (iI G (mSeq m)) :=
  pi_imp (pi_or (hK ▸ pi_list h : PI X tg e (iList G.K (eE G m))) (hK ▸ pi_tup h : PI X tg e (iTup G.K (eE G m)))) fun σ H R ⟨F, M, ρ, S, hk, sl, ds, S', e, q⟩ => by
    obtain ⟨d, e1, e2⟩ := mSeq_some e
    unfold itemsD at e2
    split at e2
    · cases e2
      refine .inr ⟨F, M, ρ, S, hk, sl, _, S', e1, fun v H' F' hk' le r => ?_⟩
      obtain ⟨a, vs, rfl, hq, rl⟩ := r.untup (d := .tup _) rfl
      exact ⟨a, rfl, ⟨vs, SqT_mono hk'.sub hq⟩, q _ _ _ hk' le (walkD_of walk_tup (r.size (.inl rfl)) (Paired.length rl) (fun H l => SqT_mono l hq) (yat rl))⟩
    · cases e2
      refine .inr ⟨F, M, ρ, S, hk, sl, _, S', e1, fun v H' F' hk' le r => ?_⟩
      obtain ⟨a, vs, rfl, hq, rl⟩ := r.untup (d := .kt _) rfl
      exact ⟨a, rfl, ⟨vs, SqT_mono hk'.sub hq⟩, q _ _ _ hk' le (walkD_of walk_tup (r.size (.inl rfl)) (Paired.length rl) (fun H l => SqT_mono l hq) (yat rl))⟩
    · cases e2
      refine .inl ⟨F, M, ρ, S, hk, sl, _, S', e1, fun v H' F' hk' le r => ?_⟩
      obtain ⟨a, vs, rfl, hq, rl⟩ := r.unlst
      exact ⟨a, rfl, ⟨vs, .of (hk'.sub _ _ hq)⟩, q _ _ _ hk' le (walkD_of walk_list (r.size (.inr rfl)) (Paired.length rl) (fun H l => .of (l _ _ hq)) (yat rl))⟩
    · cases e2
/-- over the script -/
theorem si_scr {tg : Expr} {i : Nat} (hK : G.K = X.K) (h : PE X e (eE G (mVar i))) : PI X tg e (iI G (fun ρ S => (mVar i ρ S).bind fun p => match p.1 with | .scr ns => if ns.length ≤ sizeLine then some (ns.map D.int, p.2) else none | _ => none)) :=
  pi_imp (hK ▸ pi_list h : PI X tg e (iList G.K (eE G (mVar i)))) fun σ H R ⟨F, M, ρ, S, hk, sl, ds, S', e, q⟩ => by
    obtain ⟨⟨d1, S1⟩, e1, e2⟩ := Option.bind_eq_some_iff.mp e
    cases d1 with
    | scr ns =>
      simp only at e2
      split at e2
      · rename_i hz
        cases e2
        refine ⟨F, M, ρ, S, hk, sl, _, _, e1, fun v H' F' hk' le r => ?_⟩
        cases r with
        | @scr a _ hq =>
          refine ⟨_, rfl, ⟨_, Same.seq hk'.sub hq⟩, q _ _ _ hk' le (walkD_of walk_list (by rw [List.length_map]; exact hz) (by simp) (fun H l => Same.seq l hq) ?_)⟩
          rintro i H x H' F M S hi hk le ⟨rfl, e⟩
          rw [List.getElem?_map] at e
          obtain ⟨k, e1, e⟩ := Option.map_eq_some_iff.mp e
          cases e
          exact ⟨F, .int k, hk, Same.refl F, by rw [List.getElem?_map, e1]; rfl, .int k⟩
      · cases e2
    | _ => cases e2
def rangeL (lo hi : Int) : List D := (List.range (hi - lo).toNat).map fun i => .int (lo + (i : Nat))
def mRg1 (m : MA) : MA := fun ρ S => (m ρ S).bind fun p => match p.1 with
  | [.int n] => if n ≤ 1000000 ∧ -1000000 ≤ n then some (rangeL 0 n, p.2) else none
  | _ => none
def mRg2 (m : MA) : MA := fun ρ S => (m ρ S).bind fun p => match p.1 with
  | [.int a, .int n] => if n ≤ 1000000 ∧ -1000000 ≤ n ∧ -1000000 ≤ a ∧ a ≤ 1000000 then some (rangeL a n, p.2) else none
  | _ => none
theorem walk_rg {lo hi : Int} {F0 : Hp} (h : -1000000 ≤ lo ∧ hi ≤ 1000000) : WalkD G (Itr lo (hi - lo).toNat) (rangeL lo hi) F0 := by
  have hl : (rangeL lo hi).length = (hi - lo).toNat := by unfold rangeL; rw [List.length_map, List.length_range]
  refine walkD_of walk_range ?_ hl.symm (fun _ _ => trivial) ?_
  · rw [hl, sizeLine_eq]; omega
  · rintro i H x H' F M S hi hk le ⟨rfl, rfl⟩
    refine ⟨F, .int (lo + i), hk, Same.refl F, ?_, .int _⟩
    unfold rangeL
    rw [List.getElem?_map, List.getElem?_range hi]; rfl
theorem si_rg1 {tg : Expr} {m : MA} (h : PI X tg e (iRng1 (eAB G m))) : PI X tg e (iI G (mRg1 m)) := pi_imp h fun σ H R ⟨F, M, ρ, S, hk, sl, ds, S', e, q⟩ => by
  obtain ⟨⟨d1, S1⟩, e1, e2⟩ := Option.bind_eq_some_iff.mp e
  split at e2
  · rename_i n ed
    split at e2
    · rename_i hz
      cases e2
      have ed : d1 = [.int n] := ed
      subst ed
      refine ⟨F, M, ρ, S, hk, sl, _, _, e1, fun vs H' F' hk' le r => ?_⟩
      obtain ⟨v, rfl, r1⟩ := brl1 r
      cases r1.unint hk'
      have e : n.toNat = (n - 0).toNat := by omega
      exact ⟨n, rfl, by omega, by omega, by rw [e]; exact q _ _ _ hk' le (walk_rg ⟨by decide, hz.1⟩)⟩
    · cases e2
  · cases e2
theorem si_rg2 {tg : Expr} {m : MA} (h : PI X tg e (iRng2 (eAB G m))) : PI X tg e (iI G (mRg2 m)) := pi_imp h fun σ H R ⟨F, M, ρ, S, hk, sl, ds, S', e, q⟩ => by
  obtain ⟨⟨d1, S1⟩, e1, e2⟩ := Option.bind_eq_some_iff.mp e
  split at e2
  · rename_i a n ed
    split at e2
    · rename_i hz
      cases e2
      have ed : d1 = [.int a, .int n] := ed
      subst ed
      refine ⟨F, M, ρ, S, hk, sl, _, _, e1, fun vs H' F' hk' le r => ?_⟩
      obtain ⟨v, w, rfl, r1, r2⟩ := brl2 r
      cases r1.unint hk'
      cases r2.unint hk'
      exact ⟨a, n, rfl, ⟨by omega, by omega, by omega, by omega⟩, q _ _ _ hk' le (walk_rg ⟨by omega, hz.1⟩)⟩
    · cases e2
  · cases e2

/-! ### walked under the owner's eyes: what holds of the owned things too -/
structure WalkC (G : Gh) (J : It) (ds : List D) (C : OMap → Prop) (F0 : Hp) : Prop where
  size : ds.length ≤ sizeLine
  goes : ∀ i H F M S, i < ds.length → HeapOk G H F M S → Le F0 F → C M → J.go i H
  stops : ∀ H F M S, HeapOk G H F M S → Le F0 F → C M → J.stop ds.length H
  yields : ∀ i H x H' F M S, i < ds.length → HeapOk G H F M S → Le F0 F → C M → J.yld i H x H' → ∃ F' d, HeapOk G H' F' M S ∧ Le F F' ∧ ds[i]? = some d ∧ Rep G.K F' x d
def iC (G : Gh) (m : MA) : TI := fun σ H R => ∃ F M ρ S, HeapOk G H F M S ∧ Slots G.K σ ρ F M ∧ ∃ ds S', m ρ S = some (ds, S') ∧
  ∀ J H' F' C, HeapOk G H' F' M S' → Le F F' → C M → (∀ A x, M A = none → C (updO M A x)) → WalkC G J ds C F' → R J H'
theorem sc_of {tg : Expr} {m : MA} (h : PI X tg e (iI G m)) : PI X tg e (iC G m) := pi_imp h fun σ H R ⟨F, M, ρ, S, hk, sl, ds, S', e, q⟩ =>
  ⟨F, M, ρ, S, hk, sl, ds, S', e, fun J H' F' hk' le w => q J H' F' (fun _ => True) hk' le trivial (fun _ _ _ => trivial)
    ⟨w.size, fun i H F M S hi hk le _ => w.goes i H hi (le.trans hk.sub), fun H F M S hk le _ => w.stops H (le.trans hk.sub), fun i H x H' F M S hi hk le _ y => w.yields i H x H' F M S hi hk le y⟩⟩
def mOwn (i : Nat) : MA := fun ρ S => match ρ[i]? with
  | some (some (.own (.lst ds))) => some (ds, S)
  | _ => none
/-- over an owned list, as it stands -/
theorem sc_own {tg : Expr} {i : Nat} (hK : G.K = X.K) (h : PE X e (tVar i)) : PI X tg e (iC G (mOwn i)) :=
  pi_imp (hK ▸ pi_list h : PI X tg e (iList G.K (tVar i))) fun σ H R ⟨F, M, ρ, S, hk, sl, ds, S', e, q⟩ => by
    unfold mOwn at e
    split at e
    · rename_i ds' hi
      cases e
      obtain ⟨u, ev, a, rfl, em⟩ := sl.at_ _ _ hi
      obtain ⟨f1, f2, o, eo, ro⟩ := hk.own _ _ _ em
      cases ro with
      | @lst us _ hz rl =>
        have hn := Paired.length rl
        refine ⟨_, ev, a, rfl, ⟨us, .of eo⟩, q _ H F (fun M' => ∃ w, M' a = some (w, .lst ds)) hk (Same.refl F) ⟨_, em⟩ (fun A x hA => ⟨_, by rw [updO_ne (fun z => by rw [z, hA] at em; cases em)]; exact em⟩) ?_⟩
        have key : ∀ {H F M S}, HeapOk G H F M S → (∃ w, M a = some (w, .lst ds)) → ∃ vs, SqL G.K H a vs ∧ RepL G.K F vs ds := fun hk hm => by
          obtain ⟨w, hm⟩ := hm
          obtain ⟨_, _, o, eo, ro⟩ := hk.own _ _ _ hm
          cases ro with
          | @lst us _ hz rl => exact ⟨us, .of eo, rl⟩
        refine ⟨hz, fun i H F M S hi hk le c => ?_, fun H F M S hk le c => ?_, fun i H x H' F M S hi hk le c y => ?_⟩
        · obtain ⟨vs, q1, r1⟩ := key hk c
          exact (walk_list (xs := vs)).goes i H (by rw [Paired.length r1]; exact hi) q1
        · obtain ⟨vs, q1, r1⟩ := key hk c
          have := (walk_list (xs := vs)).stops H q1
          rw [Paired.length r1] at this
          exact this
        · obtain ⟨vs, q1, r1⟩ := key hk c
          obtain ⟨rfl, e⟩ := (walk_list (xs := vs)).yields i H x H' (by rw [Paired.length r1]; exact hi) q1 y
          obtain ⟨d, e2, r⟩ := paired_get'' r1 e
          exact ⟨F, d, hk, Same.refl F, e2, r⟩
    · cases e

theorem updO_updO {M : OMap} {a : Addr} {x y} : updO (updO M a x) a y = updO M a y := by
  funext b; unfold updO; split <;> rfl
/-! ### list comprehensions -/
def wipeL (ρ : Lo) : List Nat → Lo
  | [] => ρ
  | v :: vs => (wipeL ρ vs).set v none
theorem wipeL_length (ρ : Lo) : ∀ vs, (wipeL ρ vs).length = ρ.length
  | [] => rfl
  | v :: vs => by unfold wipeL; rw [List.length_set, wipeL_length ρ vs]
theorem wipeL_some {ρ : Lo} {i : Nat} {l : LV} : ∀ {vs : List Nat}, (wipeL ρ vs)[i]? = some (some l) → ρ[i]? = some (some l) ∧ i ∉ vs
  | [], h => ⟨h, by simp⟩
  | v :: vs, h => by
    unfold wipeL at h
    by_cases hi : v = i
    · subst hi
      by_cases hv : v < (wipeL ρ vs).length
      · (rw [List.getElem?_set_self hv] at h; cases h)
      · (rw [List.getElem?_eq_none (by simpa using hv)] at h; cases h)
    · (rw [List.getElem?_set_ne hi] at h); obtain ⟨h1, h2⟩ := wipeL_some h
      exact ⟨h1, by simp [h2, Ne.symm hi]⟩
theorem wipe_out' {σ : L2.St} {i : Nat} : ∀ {vs : List Nat}, i ∉ vs → (wipe σ vs)[i]? = σ[i]?
  | [], _ => rfl
  | v :: vs, h => by
    unfold wipe
    rw [List.getElem?_set_ne (fun z => h (by simp [z]))]
    exact wipe_out' fun z => h (List.mem_cons_of_mem _ z)
theorem Slots.wipe {K : PySem.W.Frag} {σ : L2.St} {ρ : Lo} {F : Hp} {M : OMap} (s : Slots K σ ρ F M) (vs : List Nat) : Slots K (L2.wipe σ vs) (wipeL ρ vs) F M := by
  refine ⟨by rw [wipe_length, wipeL_length]; exact s.len, fun i l h => ?_⟩
  obtain ⟨h1, h2⟩ := wipeL_some h
  obtain ⟨v, e, r⟩ := s.at_ _ _ h1
  exact ⟨v, by rw [wipe_out' h2]; exact e, r⟩
theorem wipe_in {σ : L2.St} {i : Nat} : ∀ {vs : List Nat}, i ∈ vs → i < σ.length → (wipe σ vs)[i]? = some none
  | v :: vs, h, hl => by
    unfold wipe
    by_cases hv : v = i
    · subst hv
      exact List.getElem?_set_self (by rw [wipe_length]; exact hl)
    · (rw [List.getElem?_set_ne hv]); rcases List.mem_cons.mp h with z | z
      · exact absurd z.symm hv
      · exact wipe_in z hl
theorem wipe_eq {σ σ2 : L2.St} {vs is : List Nat} (hs : ∀ i ∈ is, i ∈ vs) (hl : σ2.length = (wipe σ vs).length) (h : ∀ i, i ∉ is → σ2[i]? = (wipe σ vs)[i]?) : wipe σ2 vs = wipe σ vs := by
  have hl' : σ2.length = σ.length := by rw [hl, wipe_length]
  refine List.ext_getElem? fun i => ?_
  by_cases hi : i ∈ vs
  · by_cases hb : i < σ.length
    · rw [wipe_in hi hb, wipe_in hi (by rw [hl']; exact hb)]
    · rw [List.getElem?_eq_none (by rw [wipe_length, hl']; omega), List.getElem?_eq_none (by rw [wipe_length]; omega)]
  · rw [wipe_out' hi, h i fun z => hi (hs i z)]
def lcGo (ρ : Lo) (g : MG) (t : MT) (m : ME) : List D → Sg → Option (List D × Sg)
  | [], S => some ([], S)
  | d :: r, S => (g d ρ).bind fun ρ1 => (t ρ1 S).bind fun b => if b.1 then (m ρ1 b.2).bind fun y => (lcGo ρ g t m r y.2).map fun q => (y.1 :: q.1, q.2) else lcGo ρ g t m r b.2
def mLc (mi : MA) (vs : List Nat) (g : MG) (t : MT) (m : ME) : ME := fun ρ S => (mi ρ S).bind fun p => (lcGo (wipeL ρ vs) g t m p.1 p.2).map fun q => (.lst q.1, q.2)
theorem sts_nil : PTs X [] (eT G (mPure true)) := ⟨fun pins s σ H Q I ⟨F, M, ρ, S, hk, sl, d, S', e, q⟩ => by cases e; exact pts_nil.run pins s σ H Q I (q H F hk (Same.refl F))⟩
theorem sts_one {t : MT} (h : PT X c (eT G t)) : PTs X [c] (eT G t) := pts_one h
theorem lc_imp {mi : MA} {vs is : List Nat} {g : MG} {t : MT} {m : ME} (hs : ∀ i ∈ is, i ∈ vs) : ∀ σ H Q, eF G (mLc mi vs g t m) σ H Q → tLc (iC G mi) (eG G is g) (eT G t) (eE G m) vs σ H Q := fun σ H Q ⟨F, M, ρ, S, hk, sl, d, S', e, q⟩ => by
  obtain ⟨⟨ds, S1⟩, e1, e⟩ := Option.bind_eq_some_iff.mp e
  obtain ⟨⟨out, S2⟩, e2, e⟩ := Option.map_eq_some_iff.mp e
  cases e
  refine ⟨F, M, ρ, S, hk, sl, ds, S1, e1, fun J H1 F1 C hk1 le1 cM cU w D hD => ?_⟩
  have mD := hk1.mnone hD
  have cD : ∀ x, C (updO M D x) := fun x => cU D x mD
  refine ⟨fun i n H => n = ds.length - i ∧ i ≤ ds.length ∧ ∃ F' acc Si, acc.length ≤ i ∧ HeapOk G H F' (updO M D (none, .lst acc)) Si ∧ Le F1 F' ∧ ∃ rest, lcGo (wipeL ρ vs) g t m (ds.drop i) Si = some (rest, S2) ∧ out = acc ++ rest,
    ⟨ds.length, by omega, by omega, F1, [], S1, by simp, hk1.laidO hD (.lst (Nat.zero_le _) .nil), Same.refl F1, out, by simpa using e2, by simp⟩, ?_⟩
  rintro i n H ⟨rfl, hi, F', acc, Si, ha, hk', le', rest, er, eo⟩
  by_cases hlt : i < ds.length
  · refine .inr ⟨w.goes i H F' _ _ hlt hk' le' (cD _), fun H => i + 1 ≤ ds.length ∧ ∃ F' acc Si, acc.length ≤ i + 1 ∧ HeapOk G H F' (updO M D (none, .lst acc)) Si ∧ Le F1 F' ∧ ∃ rest, lcGo (wipeL ρ vs) g t m (ds.drop (i + 1)) Si = some (rest, S2) ∧ out = acc ++ rest,
      fun H' hN => ⟨ds.length - (i + 1), by omega, rfl, hN⟩, fun x H' y => ?_⟩
    obtain ⟨F2, dd, hk2, le2, ed, rx⟩ := w.yields i H x H' F' _ Si hlt hk' le' (cD _) y
    have sl2 : Slots G.K (wipe σ vs) (wipeL ρ vs) F2 (updO M D (none, .lst acc)) := by
      have h0 := ((sl.wipe vs).mono (le1.trans le')).mono le2
      refine ⟨h0.len, fun j l hj => ?_⟩
      obtain ⟨v, ev, r⟩ := h0.at_ _ _ hj
      refine ⟨v, ev, ?_⟩
      cases l with
      | imm d => exact r
      | own d =>
        obtain ⟨a, ea, em⟩ := r
        refine ⟨a, ea, ?_⟩
        rw [updO_ne (fun z => by rw [z, mD] at em; cases em)]
        exact em
    have edr : ds.drop i = dd :: ds.drop (i + 1) := by
      (rw [List.drop_eq_getElem_cons hlt]); congr
      exact Option.some.inj ((List.getElem?_eq_getElem hlt).symm.trans ed)
    rw [edr] at er
    obtain ⟨ρ1, eg, er⟩ := Option.bind_eq_some_iff.mp er
    obtain ⟨⟨b, Sb⟩, et, er⟩ := Option.bind_eq_some_iff.mp er
    refine ⟨F2, _, _, Si, dd, hk2, sl2, rx, ρ1, eg, fun σ2 sl3 l3 k3 => ⟨wipe_eq hs l3 fun i hi => (k3 i hi).1, F2, _, ρ1, Si, hk2, sl3, b, Sb, et, fun H3 F3 hk3 le3 => ?_⟩⟩
    cases b with
    | true =>
      obtain ⟨⟨y, Sy⟩, em, er⟩ := Option.bind_eq_some_iff.mp er
      obtain ⟨⟨out', So⟩, er2, er⟩ := Option.map_eq_some_iff.mp er
      cases er
      refine ⟨F3, _, ρ1, Sb, hk3, sl3.mono le3, y, Sy, em, fun v H4 F4 hk4 le4 rv => ?_⟩
      obtain ⟨_, _, oo, eo4, ro⟩ := hk4.own D _ _ updO_same
      cases ro with
      | @lst us _ hz r =>
        have hlen := Paired.length r
        have hsz := w.size
        refine ⟨us, eo4, by omega, by omega, F4, acc ++ [y], Sy, by simp; omega, ?_, ((le'.trans le2).trans le3).trans le4, out', er2, by rw [eo]; simp⟩
        have h5 := hk4.write (w' := none) (o := .lst (us ++ [v])) (d' := .lst (acc ++ [y])) updO_same (.lst (by simp; omega) (paired_app r (.cons rv .nil)))
        rw [updO_updO] at h5
        exact h5
    | false => exact ⟨by omega, F3, acc, Sb, by omega, hk3, (le'.trans le2).trans le3, rest, er, eo⟩
  · have e : i = ds.length := by omega
    subst e
    rw [List.drop_length] at er
    cases er
    refine .inl ⟨w.stops H F' _ _ hk' le' (cD _), ?_⟩
    rw [List.append_nil] at eo
    subst eo
    exact q D H F' hk' mD (le1.trans le')
theorem sf_lcC {tg elt iter : Expr} {ifs : List Expr} {scope : Scope} {own : List (Str × Nat)} {mi : MA} {is : List Nat} {g : MG} {t : MT} {m : ME} (hc : X.calm = true) (hN : X.N.Nodup) (hi : PI X tg iter (iC G mi)) (ok : BlkOk X.N X.env.scope scope own)
    (hg : ∀ (s : Shared) (H : Hp) (C : Addr) (cl : List (Str × Addr)) (fp : List Addr), PG (X.blk s H scope (compEnvC scope cl C X.env) fp) tg (eG G is g)) (ht : ∀ (s : Shared) (H : Hp) (C : Addr) (cl : List (Str × Addr)) (fp : List Addr), PTs (X.blk s H scope (compEnvC scope cl C X.env) fp) ifs (eT G t))
    (he : ∀ (s : Shared) (H : Hp) (C : Addr) (cl : List (Str × Addr)) (fp : List Addr), PE (X.blk s H scope (compEnvC scope cl C X.env) fp) elt (eE G m)) (hs : ∀ i ∈ is, i ∈ own.map (·.2)) (hf : ∀ x, foldedSetIterable iter X.env x = pure x := by intro _; rfl) :
    PE X (.ListComp elt [⟨tg, iter, ifs, 0⟩] scope pos) (eF G (mLc mi (own.map (·.2)) g t m)) := pe_imp (pe_lc hc hN hi ok hg ht he hf) (lc_imp hs)
theorem sf_lc {tg elt iter : Expr} {ifs : List Expr} {scope : Scope} {own : List (Str × Nat)} {mi : MA} {is : List Nat} {g : MG} {t : MT} {m : ME} (hc : X.calm = true) (hN : X.N.Nodup) (hi : PI X tg iter (iI G mi)) (ok : BlkOk X.N X.env.scope scope own)
    (hg : ∀ (s : Shared) (H : Hp) (C : Addr) (cl : List (Str × Addr)) (fp : List Addr), PG (X.blk s H scope (compEnvC scope cl C X.env) fp) tg (eG G is g)) (ht : ∀ (s : Shared) (H : Hp) (C : Addr) (cl : List (Str × Addr)) (fp : List Addr), PTs (X.blk s H scope (compEnvC scope cl C X.env) fp) ifs (eT G t))
    (he : ∀ (s : Shared) (H : Hp) (C : Addr) (cl : List (Str × Addr)) (fp : List Addr), PE (X.blk s H scope (compEnvC scope cl C X.env) fp) elt (eE G m)) (hs : ∀ i ∈ is, i ∈ own.map (·.2)) (hf : ∀ x, foldedSetIterable iter X.env x = pure x := by intro _; rfl) :
    PE X (.ListComp elt [⟨tg, iter, ifs, 0⟩] scope pos) (eF G (mLc mi (own.map (·.2)) g t m)) := sf_lcC hc hN (sc_of hi) ok hg ht he hs hf
end
end Dv
namespace Dv
open PySem PySem.Spec
open PyProof.Rows L2

inductive Fl where
  | nx | ct | bk
  | rt (d : D)
abbrev MS := Lo → Sg → Option (Fl × Lo × Sg)
def EndF (G : Gh) (D : Ends) (fl : Fl) (ρ : Lo) (H F : Hp) (M : OMap) : Prop := match fl with
  | .nx => ∀ σ, Slots G.K σ ρ F M → D.nx σ H
  | .ct => ∀ σ, Slots G.K σ ρ F M → D.ct σ H
  | .bk => ∀ σ, Slots G.K σ ρ F M → D.bk σ H
  | .rt d => ∀ v, Rep G.K F v d → D.rt v H
def sS (G : Gh) (m : MS) : TS := fun D σ H => ∃ F M ρ S, HeapOk G H F M S ∧ Slots G.K σ ρ F M ∧ ∃ fl ρ' S', m ρ S = some (fl, ρ', S') ∧
  ∀ H' F' M', HeapOk G H' F' M' S' → Le F F' → EndF G D fl ρ' H' F' M'
section
variable {G : Gh} {X : Cx} {e a b c o : Expr} {es : List Expr} {pos p2 : Pos} {st : Stmt} {sts : List Stmt}

/-! ### blocks -/
def sNil : MS := fun ρ S => some (.nx, ρ, S)
def sSq (m n : MS) : MS := fun ρ S => (m ρ S).bind fun p => match p.1 with
  | .nx => n p.2.1 p.2.2
  | _ => some p
theorem ss_nil : PSs X [] (sS G sNil) := pss_imp pss_nil fun D σ H ⟨F, M, ρ, S, hk, sl, fl, ρ', S', e, q⟩ => by
  cases e; exact q H F M hk (Same.refl F) σ sl
theorem ss_cons {m n : MS} (h : PS X st (sS G m)) (h' : PSs X sts (sS G n)) : PSs X (st :: sts) (sS G (sSq m n)) := pss_imp (pss_cons h h') fun D σ H ⟨F, M, ρ, S, hk, sl, fl, ρ', S', e, q⟩ => by
  obtain ⟨⟨f1, ρ1, S1⟩, e1, e⟩ := Option.bind_eq_some_iff.mp e
  refine ⟨F, M, ρ, S, hk, sl, f1, ρ1, S1, e1, fun H1 F1 M1 hk1 le1 => ?_⟩
  cases f1 with
  | nx => exact fun σ1 sl1 => ⟨F1, M1, ρ1, S1, hk1, sl1, fl, ρ', S', e, fun H2 F2 M2 hk2 le2 => q H2 F2 M2 hk2 (le1.trans le2)⟩
  | ct => cases e; exact q H1 F1 M1 hk1 le1
  | bk => cases e; exact q H1 F1 M1 hk1 le1
  | rt d => cases e; exact q H1 F1 M1 hk1 le1
theorem ss_one {m : MS} (h : PS X st (sS G m)) : PSs X [st] (sS G m) := pss_one h
def sNever : MS := fun _ _ => none
theorem ss_never : PS X st (sS G sNever) := ps_imp ps_never fun D σ H ⟨F, M, ρ, S, hk, sl, fl, ρ', S', e, q⟩ => by cases e
theorem sss_never : PSs X sts (sS G sNever) := pss_imp pss_never fun D σ H ⟨F, M, ρ, S, hk, sl, fl, ρ', S', e, q⟩ => by cases e
def sCt : MS := fun ρ S => some (.ct, ρ, S)
def sBk : MS := fun ρ S => some (.bk, ρ, S)
theorem ss_pass : PS X (.Pass pos) (sS G sNil) := ps_imp ps_pass fun D σ H ⟨F, M, ρ, S, hk, sl, fl, ρ', S', e, q⟩ => by
  cases e; exact q H F M hk (Same.refl F) σ sl
theorem ss_break : PS X (.Break pos) (sS G sBk) := ps_imp ps_break fun D σ H ⟨F, M, ρ, S, hk, sl, fl, ρ', S', e, q⟩ => by
  cases e; exact q H F M hk (Same.refl F) σ sl
theorem ss_continue : PS X (.Continue pos) (sS G sCt) := ps_imp ps_continue fun D σ H ⟨F, M, ρ, S, hk, sl, fl, ρ', S', e, q⟩ => by
  cases e; exact q H F M hk (Same.refl F) σ sl
def sIf (t : MT) (m n : MS) : MS := fun ρ S => (t ρ S).bind fun p => if p.1 then m ρ p.2 else n ρ p.2
theorem ss_if {t : MT} {m n : MS} {A B : List Stmt} (hc : PT X c (eT G t)) (ha : PSs X A (sS G m)) (hb : PSs X B (sS G n)) : PS X (.If c A B pos) (sS G (sIf t m n)) := ps_imp (ps_if hc ha hb) fun D σ H ⟨F, M, ρ, S, hk, sl, fl, ρ', S', e, q⟩ => by
  obtain ⟨⟨k, S1⟩, e1, e⟩ := Option.bind_eq_some_iff.mp e
  refine ⟨F, M, ρ, S, hk, sl, k, S1, e1, fun H' F' hk' le => ?_⟩
  cases k with
  | true => exact ⟨F', M, ρ, S1, hk', sl.mono le, fl, ρ', S', e, fun H2 F2 M2 hk2 le2 => q H2 F2 M2 hk2 (le.trans le2)⟩
  | false => exact ⟨F', M, ρ, S1, hk', sl.mono le, fl, ρ', S', e, fun H2 F2 M2 hk2 le2 => q H2 F2 M2 hk2 (le.trans le2)⟩
def sRet (m : ME) : MS := fun ρ S => (m ρ S).map fun p => (.rt p.1, ρ, p.2)
theorem ss_ret {m : ME} (h : PE X e (eE G m)) : PS X (.Return (some e) pos) (sS G (sRet m)) := ps_imp (ps_ret h) fun D σ H ⟨F, M, ρ, S, hk, sl, fl, ρ', S', e, q⟩ => by
  obtain ⟨⟨d, S1⟩, e1, e⟩ := Option.map_eq_some_iff.mp e
  cases e
  exact ⟨F, M, ρ, S, hk, sl, d, S1, e1, fun v H' F' hk' le r => q H' F' M hk' le v r⟩
/-- an owned object is frozen from here on -/
def frz (i : Nat) (ρ : Lo) : Lo := match ρ[i]? with
  | some (some (.own d)) => ρ.set i (some (.imm d))
  | _ => ρ
theorem frz_slots {σ : L2.St} {ρ : Lo} {H F : Hp} {M : OMap} {S : Sg} (i : Nat) (hk : HeapOk G H F M S) (sl : Slots G.K σ ρ F M) : ∃ F' M', HeapOk G H F' M' S ∧ Le F F' ∧ Slots G.K σ (frz i ρ) F' M' := by
  unfold frz
  split
  · rename_i d h
    obtain ⟨v, ev, a, rfl, em⟩ := sl.at_ _ _ h
    obtain ⟨o, eo, nf, ro, hk2⟩ := hk.freeze em
    refine ⟨_, _, hk2, le_upd nf, by rw [List.length_set]; exact sl.len, fun j l hj => ?_⟩
    by_cases hij : i = j
    · subst hij
      rw [List.getElem?_set_self (List.getElem?_eq_some_iff.mp h).1] at hj
      cases hj
      exact ⟨_, ev, (ro.mono (le_upd nf)).rep upd_same⟩
    · rw [List.getElem?_set_ne hij] at hj
      obtain ⟨w, ew, rw'⟩ := sl.at_ _ _ hj
      refine ⟨w, ew, ?_⟩
      cases l with
      | imm d => exact Rep.mono (le_upd nf) rw'
      | own d =>
        obtain ⟨a2, e2, m2⟩ := rw'
        refine ⟨a2, e2, ?_⟩
        rw [dropO_ne (fun z => by rw [z, em] at m2; cases m2; exact hij rfl)]
        exact m2
  · exact ⟨F, M, hk, Same.refl F, sl⟩
def sFrz (i : Nat) (m : MS) : MS := fun ρ S => m (frz i ρ) S
theorem ss_frz (i : Nat) {m : MS} (h : PS X st (sS G m)) : PS X st (sS G (sFrz i m)) := ps_imp h fun D σ H ⟨F, M, ρ, S, hk, sl, fl, ρ', S', e, q⟩ => by
  obtain ⟨F1, M1, hk1, le1, sl1⟩ := frz_slots i hk sl
  exact ⟨F1, M1, _, S, hk1, sl1, fl, ρ', S', e, fun H2 F2 M2 hk2 le2 => q H2 F2 M2 hk2 (le1.trans le2)⟩
theorem sss_frz (i : Nat) {m : MS} (h : PSs X sts (sS G m)) : PSs X sts (sS G (sFrz i m)) := pss_imp h fun D σ H ⟨F, M, ρ, S, hk, sl, fl, ρ', S', e, q⟩ => by
  obtain ⟨F1, M1, hk1, le1, sl1⟩ := frz_slots i hk sl
  exact ⟨F1, M1, _, S, hk1, sl1, fl, ρ', S', e, fun H2 F2 M2 hk2 le2 => q H2 F2 M2 hk2 (le1.trans le2)⟩

/-! ### stores -/
def sSet (i : Nat) (m : ME) : MS := fun ρ S => (m ρ S).map fun p => (.nx, ρ.set i (some (.imm p.1)), p.2)
theorem set_imp {i : Nat} {m : ME} : ∀ D σ H, sS G (sSet i m) D σ H → tAsg (eE G m) (gName i) D σ H := fun D σ H ⟨F, M, ρ, S, hk, sl, fl, ρ', S', e, q⟩ => by
  obtain ⟨⟨d, S1⟩, e1, e⟩ := Option.map_eq_some_iff.mp e
  cases e
  exact ⟨F, M, ρ, S, hk, sl, d, S1, e1, fun v H' F' hk' le r => q H' F' M hk' le _ ((sl.mono le).set (l := .imm d) r)⟩
def sSetF (i : Nat) (m : ME) : MS := fun ρ S => (m ρ S).map fun p => (.nx, ρ.set i (some (.own p.1)), p.2)
theorem slots_own {σ : L2.St} {ρ : Lo} {F : Hp} {M : OMap} {i : Nat} {x : Addr} {d : D} {w : Option Nat} (sl : Slots G.K σ ρ F M) (n : M x = none ∨ M x = some (none, d)) : Slots G.K (σ.set i (some (.ref x))) (ρ.set i (some (.own d))) F (updO M x (some i, d)) := by
  have sl2 : Slots G.K σ ρ F (updO M x (some i, d)) := ⟨sl.len, fun j l h => by
    obtain ⟨v, ev, r⟩ := sl.at_ _ _ h
    refine ⟨v, ev, ?_⟩
    cases l with
    | imm d => exact r
    | own d =>
      obtain ⟨a, ea, em⟩ := r
      refine ⟨a, ea, ?_⟩
      rw [updO_ne (fun z => by
        rw [z] at em
        rcases n with n | n
        · rw [n] at em; cases em
        · rw [n] at em; cases em)]
      exact em⟩
  exact sl2.set (l := .own d) ⟨x, rfl, updO_same⟩
theorem setF_imp {i : Nat} {m : ME} : ∀ D σ H, sS G (sSetF i m) D σ H → tAsg (eF G m) (gName i) D σ H := fun D σ H ⟨F, M, ρ, S, hk, sl, fl, ρ', S', e, q⟩ => by
  obtain ⟨⟨d, S1⟩, e1, e⟩ := Option.map_eq_some_iff.mp e
  cases e
  refine ⟨F, M, ρ, S, hk, sl, d, S1, e1, fun x H' F' hk' n le => ?_⟩
  have h2 := hk'.give (some i) updO_same
  rw [updO_updO] at h2
  exact q H' F' _ h2 le _ (slots_own (w := none) (sl.mono le) (.inl n))
theorem ss_set {i : Nat} {m : ME} (h : PS X st (tAsg (eE G m) (gName i))) : PS X st (sS G (sSet i m)) := ps_imp h set_imp
theorem ss_setF {i : Nat} {m : ME} (h : PS X st (tAsg (eF G m) (gName i))) : PS X st (sS G (sSetF i m)) := ps_imp h setF_imp
/-- targets = value -/
def sAsg (m : ME) (g : MG) : MS := fun ρ S => (m ρ S).bind fun p => (g p.1 ρ).map fun ρ' => (.nx, ρ', p.2)
theorem ss_asg {is : List Nat} {g : MG} {m : ME} (h : PS X st (tAsg (eE G m) (eG G is g))) : PS X st (sS G (sAsg m g)) := ps_imp h fun D σ H ⟨F, M, ρ, S, hk, sl, fl, ρ', S', e, q⟩ => by
  obtain ⟨⟨d, S1⟩, e1, e⟩ := Option.bind_eq_some_iff.mp e
  obtain ⟨ρ1, e2, e⟩ := Option.map_eq_some_iff.mp e
  cases e
  exact ⟨F, M, ρ, S, hk, sl, d, S1, e1, fun v H' F' hk' le r => ⟨F', M, ρ, S1, d, hk', sl.mono le, r, _, e2, fun σ' sl' _ _ => q H' F' M hk' le σ' sl'⟩⟩
/-- x, y = e1, e2 -/
def eX (G : Gh) : Bool → ME → TE
  | true => eF G
  | false => eE G
def mkL : Bool → D → LV
  | true => .own
  | false => .imm
/-- a value that came: frozen, or owned by nobody yet -/
def XR (K : PySem.W.Frag) (F : Hp) (M : OMap) (x : V) (d : D) : Bool → Prop
  | true => ∃ a, x = .ref a ∧ M a = some (none, d)
  | false => Rep K F x d
/-- what one of several right sides leaves -/
theorem ex_run {k : Bool} {m : ME} {σ : L2.St} {H : Hp} {R : V → Hp → Prop} {F : Hp} {M : OMap} {ρ : Lo} {S : Sg} (hk : HeapOk G H F M S) (sl : Slots G.K σ ρ F M) {d : D} {S1 : Sg} (e : m ρ S = some (d, S1))
    (h : ∀ x H' F' M', HeapOk G H' F' M' S1 → Le F F' → Slots G.K σ ρ F' M' → (∀ a y, M a = some y → M' a = some y) → (match k with | true => ∃ a, x = .ref a ∧ M' a = some (none, d) ∧ M a = none | false => Rep G.K F' x d) → R x H') : eX G k m σ H R := by
  cases k with
  | false => exact ⟨F, M, ρ, S, hk, sl, d, S1, e, fun v H' F' hk' le r => h v H' F' M hk' le (sl.mono le) (fun _ _ z => z) r⟩
  | true =>
    refine ⟨F, M, ρ, S, hk, sl, d, S1, e, fun x H' F' hk' n le => h _ H' F' _ hk' le ?_ (fun b y z => ?_) ⟨x, rfl, updO_same, n⟩⟩
    · have s0 := sl.mono le
      refine ⟨s0.len, fun j l hj => ?_⟩
      obtain ⟨v, ev, r⟩ := s0.at_ _ _ hj
      refine ⟨v, ev, ?_⟩
      cases l with
      | imm d => exact r
      | own d =>
        obtain ⟨a, ea, em⟩ := r
        exact ⟨a, ea, by rw [updO_ne (fun z => by rw [z, n] at em; cases em)]; exact em⟩
    · rw [updO_ne (fun w => by rw [w, n] at z; cases z)]; exact z
/-- a value that came is stored in slot i -/
theorem ex_store {k : Bool} {σ : L2.St} {ρ : Lo} {H F : Hp} {M : OMap} {S : Sg} {x : V} {d : D} (i : Nat) (hk : HeapOk G H F M S) (sl : Slots G.K σ ρ F M) (r : XR G.K F M x d k) :
    ∃ M', HeapOk G H F M' S ∧ Slots G.K (σ.set i (some x)) (ρ.set i (some (mkL k d))) F M' ∧ ∀ b y, M b = some y → (∀ a, x = .ref a → k = true → b ≠ a) → M' b = some y := by
  cases k with
  | false => exact ⟨M, hk, sl.set (l := .imm d) r, fun _ _ z _ => z⟩
  | true =>
    obtain ⟨a, rfl, em⟩ := r
    exact ⟨_, hk.give (some i) em, slots_own (w := none) sl (.inr em), fun b y z n => by rw [updO_ne (n a rfl rfl)]; exact z⟩
def sPar2 (i j : Nat) (k1 : Bool) (m1 : ME) (k2 : Bool) (m2 : ME) : MS := fun ρ S => (m1 ρ S).bind fun p => (m2 ρ p.2).map fun q => (.nx, (ρ.set i (some (mkL k1 p.1))).set j (some (mkL k2 q.1)), q.2)
theorem par2_imp {i j : Nat} {k1 k2 : Bool} {m1 m2 : ME} : ∀ D σ H, sS G (sPar2 i j k1 m1 k2 m2) D σ H → tPar i j (tCons (eX G k1 m1) (tCons (eX G k2 m2) tNil)) D σ H := fun D σ H ⟨F, M, ρ, S, hk, sl, fl, ρ', S', e, q⟩ => by
  obtain ⟨⟨d1, S1⟩, e1, e⟩ := Option.bind_eq_some_iff.mp e
  obtain ⟨⟨d2, S2⟩, e2, e⟩ := Option.map_eq_some_iff.mp e
  cases e
  refine ex_run hk sl e1 fun x H1 F1 M1 hk1 le1 sl1 sub1 r1 => ex_run hk1 sl1 e2 fun y H2 F2 M2 hk2 le2 sl2 sub2 r2 => ⟨x, y, rfl, ?_⟩
  have r1' : XR G.K F2 M2 x d1 k1 := by
    cases k1 with
    | true => obtain ⟨a, ea, em, _⟩ := r1; exact ⟨a, ea, sub2 _ _ em⟩
    | false => exact Rep.mono le2 r1
  obtain ⟨M3, hk3, sl3, sub3⟩ := ex_store i hk2 sl2 r1'
  have r2' : XR G.K F2 M3 y d2 k2 := by
    cases k2 with
    | true =>
      obtain ⟨a, ea, em, n⟩ := r2
      refine ⟨a, ea, sub3 _ _ em fun b eb hk => ?_⟩
      subst hk
      obtain ⟨a1, ea1, em1, _⟩ := r1
      rw [eb] at ea1; cases ea1
      intro z
      rw [z, em1] at n; cases n
    | false => exact r2
  obtain ⟨M4, hk4, sl4, _⟩ := ex_store j hk3 sl3 r2'
  exact q H2 F2 M4 hk4 (le1.trans le2) _ sl4
theorem ss_par2 {i j : Nat} {k1 k2 : Bool} {m1 m2 : ME} (h : PS X st (tPar i j (tCons (eX G k1 m1) (tCons (eX G k2 m2) tNil)))) : PS X st (sS G (sPar2 i j k1 m1 k2 m2)) := ps_imp h par2_imp
def sPar3 (i j l : Nat) (k1 : Bool) (m1 : ME) (k2 : Bool) (m2 : ME) (k3 : Bool) (m3 : ME) : MS := fun ρ S => (m1 ρ S).bind fun p => (m2 ρ p.2).bind fun q => (m3 ρ q.2).map fun r => (.nx, ((ρ.set i (some (mkL k1 p.1))).set j (some (mkL k2 q.1))).set l (some (mkL k3 r.1)), r.2)
theorem par3_imp {i j l : Nat} {k1 k2 k3 : Bool} {m1 m2 m3 : ME} : ∀ D σ H, sS G (sPar3 i j l k1 m1 k2 m2 k3 m3) D σ H → tPar3 i j l (tCons (eX G k1 m1) (tCons (eX G k2 m2) (tCons (eX G k3 m3) tNil))) D σ H := fun D σ H ⟨F, M, ρ, S, hk, sl, fl, ρ', S', e, q⟩ => by
  obtain ⟨⟨d1, S1⟩, e1, e⟩ := Option.bind_eq_some_iff.mp e
  obtain ⟨⟨d2, S2⟩, e2, e⟩ := Option.bind_eq_some_iff.mp e
  obtain ⟨⟨d3, S3⟩, e3, e⟩ := Option.map_eq_some_iff.mp e
  cases e
  refine ex_run hk sl e1 fun x H1 F1 M1 hk1 le1 sl1 sub1 r1 => ex_run hk1 sl1 e2 fun y H2 F2 M2 hk2 le2 sl2 sub2 r2 => ex_run hk2 sl2 e3 fun z H3 F3 M3 hk3 le3 sl3 sub3 r3 => ⟨x, y, z, rfl, ?_⟩
  have r1' : XR G.K F3 M3 x d1 k1 := by
    cases k1 with
    | true => obtain ⟨a, ea, em, _⟩ := r1; exact ⟨a, ea, sub3 _ _ (sub2 _ _ em)⟩
    | false => exact Rep.mono le3 (Rep.mono le2 r1)
  obtain ⟨M4, hk4, sl4, sub4⟩ := ex_store i hk3 sl3 r1'
  have r2' : XR G.K F3 M4 y d2 k2 := by
    cases k2 with
    | true =>
      obtain ⟨a, ea, em, n⟩ := r2
      refine ⟨a, ea, sub4 _ _ (sub3 _ _ em) fun b eb hk => ?_⟩
      subst hk
      obtain ⟨a1, ea1, em1, _⟩ := r1
      rw [eb] at ea1; cases ea1
      intro z
      rw [z, em1] at n; cases n
    | false => exact Rep.mono le3 r2
  obtain ⟨M5, hk5, sl5, sub5⟩ := ex_store j hk4 sl4 r2'
  have r3' : XR G.K F3 M5 z d3 k3 := by
    cases k3 with
    | true =>
      obtain ⟨a, ea, em, n⟩ := r3
      refine ⟨a, ea, sub5 _ _ (sub4 _ _ em fun b eb hk => ?_) fun b eb hk => ?_⟩
      · subst hk
        obtain ⟨a1, ea1, em1, _⟩ := r1
        rw [eb] at ea1; cases ea1
        intro z
        rw [z, sub2 _ _ em1] at n; cases n
      · subst hk
        obtain ⟨a1, ea1, em1, _⟩ := r2
        rw [eb] at ea1; cases ea1
        intro z
        rw [z, em1] at n; cases n
    | false => exact r3
  obtain ⟨M6, hk6, sl6, _⟩ := ex_store l hk5 sl5 r3'
  exact q H3 F3 M6 hk6 ((le1.trans le2).trans le3) _ sl6
theorem ss_par3 {i j l : Nat} {k1 k2 k3 : Bool} {m1 m2 m3 : ME} (h : PS X st (tPar3 i j l (tCons (eX G k1 m1) (tCons (eX G k2 m2) (tCons (eX G k3 m3) tNil))))) : PS X st (sS G (sPar3 i j l k1 m1 k2 m2 k3 m3)) := ps_imp h par3_imp

/-! ### an owned list changed -/
theorem slots_write {σ : L2.St} {ρ : Lo} {F : Hp} {M : OMap} {i : Nat} {d0 d : D} {x : Addr} (sl : Slots G.K σ ρ F M) (hi : ρ[i]? = some (some (.own d0))) (ev : σ[i]? = some (some (.ref x))) (em : M x = some (some i, d0)) : Slots G.K σ (ρ.set i (some (.own d))) F (updO M x (some i, d)) := by
  refine ⟨by rw [List.length_set]; exact sl.len, fun j l hj => ?_⟩
  by_cases hij : i = j
  · subst hij
    rw [List.getElem?_set_self (List.getElem?_eq_some_iff.mp hi).1] at hj
    cases hj
    exact ⟨_, ev, x, rfl, updO_same⟩
  · rw [List.getElem?_set_ne hij] at hj
    obtain ⟨w, ew, rw'⟩ := sl.at_ _ _ hj
    refine ⟨w, ew, ?_⟩
    cases l with
    | imm d => exact rw'
    | own d =>
      obtain ⟨a2, e2, m2⟩ := rw'
      exact ⟨a2, e2, by rw [updO_ne (fun z => by rw [z, em] at m2; cases m2; exact hij rfl)]; exact m2⟩
def sApp (i : Nat) (m : ME) : MS := fun ρ S => match ρ[i]? with
  | some (some (.own (.lst ds))) => (m ρ S).bind fun p => if ds.length < 1000000 then some (.nx, ρ.set i (some (.own (.lst (ds ++ [p.1])))), p.2) else none
  | _ => none
theorem line1e6 {n : Nat} (h : n < 1000000) : n < sizeLine := Nat.lt_of_lt_of_le h (by decide)
theorem ss_app {i : Nat} {m : ME} (h : PS X st (tDrop (tBM G.K "list" rAppend (tVar i) (tCons (eE G m) tNil)))) : PS X st (sS G (sApp i m)) := ps_imp h fun D σ H ⟨F, M, ρ, S, hk, sl, fl, ρ', S', e, q⟩ => by
  unfold sApp at e
  split at e
  · rename_i ds hi
    obtain ⟨⟨d, S1⟩, e1, e⟩ := Option.bind_eq_some_iff.mp e
    split at e
    · rename_i hz
      cases e
      obtain ⟨v, ev, x, rfl, em⟩ := sl.at_ _ _ hi
      obtain ⟨_, _, oo, eo, ro⟩ := hk.own _ _ _ em
      cases ro with
      | lst _ r =>
        refine ⟨_, ev, .inl ⟨rfl, _, .of eo⟩, F, M, ρ, S, hk, sl, d, S1, e1, fun y H1 F1 hk1 le1 ry => ?_⟩
        obtain ⟨_, _, oo, eo, ro⟩ := hk1.own _ _ _ em
        cases ro with
        | @lst us _ hz' r =>
          have hl := Paired.length r
          refine ⟨x, us, y, rfl, rfl, eo, by rw [hl]; exact line1e6 hz, ?_⟩
          exact q _ F1 _ (hk1.write (w' := some i) (o := .lst (us ++ [y])) (d' := .lst (ds ++ [d])) em (.lst (by rw [List.length_append]; exact line1e6 hz) (paired_app r (.cons ry .nil)))) le1 _ (slots_write (sl.mono le1) hi ev em)
    · cases e
  · cases e
def sExt (i : Nat) (m : ME) : MS := fun ρ S => match ρ[i]? with
  | some (some (.own (.lst ds))) => (m ρ S).bind fun p => match p.1 with
    | .lst es => if ds.length + es.length ≤ 1000000 then some (.nx, ρ.set i (some (.own (.lst (ds ++ es)))), p.2) else none
    | _ => none
  | _ => none
theorem ss_ext {i : Nat} {m : ME} (h : PS X st (tDrop (tBM G.K "list" rExtend (tVar i) (tCons (eE G m) tNil)))) : PS X st (sS G (sExt i m)) := ps_imp h fun D σ H ⟨F, M, ρ, S, hk, sl, fl, ρ', S', e, q⟩ => by
  unfold sExt at e
  split at e
  · rename_i ds hi
    obtain ⟨⟨d, S1⟩, e1, e⟩ := Option.bind_eq_some_iff.mp e
    split at e
    · rename_i es ed
      split at e
      · rename_i hz
        cases e
        have ed : d = .lst es := ed
        subst ed
        obtain ⟨v, ev, x, rfl, em⟩ := sl.at_ _ _ hi
        obtain ⟨_, _, oo, eo, ro⟩ := hk.own _ _ _ em
        cases ro with
        | lst _ r =>
          refine ⟨_, ev, .inl ⟨rfl, _, .of eo⟩, F, M, ρ, S, hk, sl, _, S1, e1, fun y H1 F1 hk1 le1 ry => ?_⟩
          obtain ⟨_, _, oo, eo, ro⟩ := hk1.own _ _ _ em
          obtain ⟨ya, ys, rfl, eya, ry⟩ := ry.unlst
          cases ro with
          | @lst us _ hz' r =>
            have hl := Paired.length r
            have hl2 := Paired.length ry
            have h6 : ds.length + es.length ≤ sizeLine := Nat.le_trans hz (by decide)
            refine ⟨x, ya, us, ys, rfl, rfl, eo, hk1.sub _ _ eya, by rw [hl, hl2]; exact h6, ?_⟩
            exact q _ F1 _ (hk1.write (w' := some i) (o := .lst (us ++ ys)) (d' := .lst (ds ++ es)) em (.lst (by rw [List.length_append]; exact h6) (paired_app r ry))) le1 _ (slots_write (sl.mono le1) hi ev em)
      · cases e
    · cases e
  · cases e
/-- tgt = x.pop() -/
def sPop (i : Nat) (g : MG) : MS := fun ρ S => match ρ[i]? with
  | some (some (.own (.lst ds))) => match ds.getLast? with
    | some d => (g d (ρ.set i (some (.own (.lst ds.dropLast))))).map fun ρ' => (.nx, ρ', S)
    | none => none
  | _ => none
theorem ss_pop {i : Nat} {is : List Nat} {g : MG} (h : PS X st (tAsg (tBM0 G.K "list" rPop (tVar i)) (eG G is g))) : PS X st (sS G (sPop i g)) := ps_imp h fun D σ H ⟨F, M, ρ, S, hk, sl, fl, ρ', S', e, q⟩ => by
  unfold sPop at e
  split at e
  · rename_i ds hi
    split at e
    · rename_i d hd
      obtain ⟨ρ1, e1, e⟩ := Option.map_eq_some_iff.mp e
      cases e
      obtain ⟨v, ev, x, rfl, em⟩ := sl.at_ _ _ hi
      obtain ⟨_, _, oo, eo, ro⟩ := hk.own _ _ _ em
      cases ro with
      | @lst us _ hz r =>
        have hl := Paired.length r
        have hd2 : ds[us.length - 1]? = some d := by rw [hl, ← List.getLast?_eq_getElem?]; exact hd
        obtain ⟨y, ey, ry⟩ := paired_get' r hd2
        refine ⟨_, ev, .inl ⟨rfl, _, .of eo⟩, x, us, y, rfl, rfl, eo, ey, ?_⟩
        have hk2 := hk.write (w' := some i) (o := .lst us.dropLast) (d' := .lst ds.dropLast) em (.lst (by rw [List.length_dropLast]; omega) (paired_dropLast r))
        exact ⟨F, _, _, S, d, hk2, slots_write sl hi ev em, ry, _, e1, fun σ' sl' _ _ => q _ F _ hk2 (Same.refl F) σ' sl'⟩
    · cases e
  · cases e
/-- x[k] = e -/
def sIx (i : Nat) (m : ME) (mk : ME) : MS := fun ρ S => match ρ[i]? with
  | some (some (.own (.lst ds))) => (m ρ S).bind fun p => (mk ρ p.2).bind fun q => match q.1 with
    | .int k => (ixN ds.length k).map fun j => (.nx, ρ.set i (some (.own (.lst (ds.set j p.1)))), q.2)
    | _ => none
  | _ => none
theorem ss_ix {i : Nat} {m mk : ME} (h : PS X st (tAsg (eE G m) (gSub (tVar i) (eE G mk) rSetL))) : PS X st (sS G (sIx i m mk)) := ps_imp h fun D σ H ⟨F, M, ρ, S, hk, sl, fl, ρ', S', e, q⟩ => by
  unfold sIx at e
  split at e
  · rename_i ds hi
    obtain ⟨⟨d, S1⟩, e1, e⟩ := Option.bind_eq_some_iff.mp e
    obtain ⟨⟨dk, S2⟩, e2, e⟩ := Option.bind_eq_some_iff.mp e
    cases dk with
    | int k =>
      obtain ⟨j, ej, e⟩ := Option.map_eq_some_iff.mp e
      cases e
      refine ⟨F, M, ρ, S, hk, sl, d, S1, e1, fun y H1 F1 hk1 le1 ry => ?_⟩
      obtain ⟨v, ev, x, rfl, em⟩ := sl.at_ _ _ hi
      refine ⟨_, ev, F1, M, ρ, S1, hk1, sl.mono le1, _, S2, e2, fun w H2 F2 hk2 le2 rw' => ?_⟩
      cases rw'
      obtain ⟨_, _, oo, eo, ro⟩ := hk2.own _ _ _ em
      cases ro with
      | @lst us _ hz r =>
        have hl := Paired.length r
        refine ⟨x, us, k, j, rfl, rfl, eo, by rw [hl]; exact ej, ?_⟩
        exact q _ F2 _ (hk2.write (w' := some i) (o := .lst (us.set j y)) (d' := .lst (ds.set j d)) em (.lst (by rw [List.length_set]; exact hz) (paired_set (ry.mono le2) j r))) (le1.trans le2) _ (slots_write ((sl.mono le1).mono le2) hi ev em)
    | _ => cases e
  · cases e

/-! ### loops -/
def forGo (g : MG) (m : MS) : List D → Lo → Sg → Option (Fl × Lo × Sg)
  | [], ρ, S => some (.nx, ρ, S)
  | d :: r, ρ, S => (g d ρ).bind fun ρ1 => (m ρ1 S).bind fun p => match p.1 with
    | .nx => forGo g m r p.2.1 p.2.2
    | .ct => forGo g m r p.2.1 p.2.2
    | .bk => some (.nx, p.2.1, p.2.2)
    | .rt d => some (.rt d, p.2.1, p.2.2)
def sFor (mi : MA) (g : MG) (m : MS) : MS := fun ρ S => (mi ρ S).bind fun p => forGo g m p.1 ρ p.2
theorem ss_for {mi : MA} {is : List Nat} {g : MG} {m : MS} (h : PS X st (tFor (iI G mi) (eG G is g) (sS G m))) : PS X st (sS G (sFor mi g m)) := ps_imp h fun D σ H ⟨F, M, ρ, S, hk, sl, fl, ρ', S', e, q⟩ => by
  obtain ⟨⟨ds, S1⟩, e1, e⟩ := Option.bind_eq_some_iff.mp e
  refine ⟨F, M, ρ, S, hk, sl, ds, S1, e1, fun J H1 F1 hk1 le1 w => ?_⟩
  refine ⟨fun i n σ H => n = ds.length - i ∧ i ≤ ds.length ∧ ∃ F' M' ρi Si, HeapOk G H F' M' Si ∧ Le F1 F' ∧ Slots G.K σ ρi F' M' ∧ forGo g m (ds.drop i) ρi Si = some (fl, ρ', S'),
    ⟨ds.length, by omega, by omega, F1, M, ρ, S1, hk1, Same.refl F1, sl.mono le1, by simpa using e⟩, ?_⟩
  rintro i n σ H ⟨rfl, hi, F', M', ρi, Si, hk', le', sl', er⟩
  by_cases hlt : i < ds.length
  · refine .inr ⟨w.goes i H hlt (le'.trans hk'.sub), fun σ H => i + 1 ≤ ds.length ∧ ∃ F' M' ρi Si, HeapOk G H F' M' Si ∧ Le F1 F' ∧ Slots G.K σ ρi F' M' ∧ forGo g m (ds.drop (i + 1)) ρi Si = some (fl, ρ', S'),
      fun σ' H' hN => ⟨ds.length - (i + 1), by omega, rfl, hN⟩, fun x H' y => ?_⟩
    obtain ⟨F2, dd, hk2, le2, ed, rx⟩ := w.yields i H x H' F' _ Si hlt hk' le' y
    have edr : ds.drop i = dd :: ds.drop (i + 1) := by
      (rw [List.drop_eq_getElem_cons hlt]); congr
      exact Option.some.inj ((List.getElem?_eq_getElem hlt).symm.trans ed)
    rw [edr] at er
    obtain ⟨ρ1, eg, er⟩ := Option.bind_eq_some_iff.mp er
    obtain ⟨⟨f2, ρ2, S2⟩, em, er⟩ := Option.bind_eq_some_iff.mp er
    refine ⟨F2, M', ρi, Si, dd, hk2, sl'.mono le2, rx, ρ1, eg, fun σ1 sl1 _ _ => ⟨F2, M', ρ1, Si, hk2, sl1, f2, ρ2, S2, em, fun H3 F3 M3 hk3 le3 => ?_⟩⟩
    cases f2 with
    | nx => exact fun σ3 sl3 => ⟨hlt, F3, M3, ρ2, S2, hk3, (le'.trans le2).trans le3, sl3, er⟩
    | ct => exact fun σ3 sl3 => ⟨hlt, F3, M3, ρ2, S2, hk3, (le'.trans le2).trans le3, sl3, er⟩
    | bk => cases er; exact q H3 F3 M3 hk3 (le1.trans ((le'.trans le2).trans le3))
    | rt d => cases er; exact q H3 F3 M3 hk3 (le1.trans ((le'.trans le2).trans le3))
  · have e : i = ds.length := by omega
    subst e
    rw [List.drop_length] at er
    cases er
    exact .inl ⟨w.stops H (le'.trans hk'.sub), q H F' M' hk' (le1.trans le') σ sl'⟩
def whN (t : MT) (m : MS) : Nat → Lo → Sg → Option (Fl × Lo × Sg)
  | 0, _, _ => none
  | n + 1, ρ, S => (t ρ S).bind fun p => if p.1 then (m ρ p.2).bind fun q => match q.1 with
      | .nx => whN t m n q.2.1 q.2.2
      | .ct => whN t m n q.2.1 q.2.2
      | .bk => some (.nx, q.2.1, q.2.2)
      | .rt d => some (.rt d, q.2.1, q.2.2)
    else some (.nx, ρ, p.2)
open Classical in
/-- a while that ends -/
noncomputable def sWh (t : MT) (m : MS) : MS := fun ρ S => if h : ∃ r n, whN t m n ρ S = some r then some (Classical.choose h) else none
theorem whN_mono {t : MT} {m : MS} : ∀ {n k : Nat} {ρ S r}, n ≤ k → whN t m n ρ S = some r → whN t m k ρ S = some r
  | 0, _, _, _, _, _, h => by cases h
  | n + 1, 0, _, _, _, hk, _ => by omega
  | n + 1, k + 1, ρ, S, r, hk, h => by
    unfold whN at h ⊢
    obtain ⟨⟨b, S1⟩, e1, h⟩ := Option.bind_eq_some_iff.mp h
    rw [e1]
    show (if b = true then _ else _) = _
    cases b with
    | false => exact h
    | true =>
      obtain ⟨⟨f, ρ1, S2⟩, e2, h⟩ := Option.bind_eq_some_iff.mp h
      show (m ρ S1).bind _ = _
      rw [e2]
      cases f with
      | nx => exact whN_mono (Nat.le_of_succ_le_succ hk) h
      | ct => exact whN_mono (Nat.le_of_succ_le_succ hk) h
      | bk => exact h
      | rt d => exact h
theorem sWh_of {t : MT} {m : MS} {n : Nat} {ρ S r} (h : whN t m n ρ S = some r) : sWh t m ρ S = some r := by
  unfold sWh
  have hx : ∃ r n, whN t m n ρ S = some r := ⟨r, n, h⟩
  rw [dif_pos hx]
  obtain ⟨k, hk⟩ := Classical.choose_spec hx
  rcases Nat.le_total n k with l | l
  · rw [whN_mono l h] at hk; exact hk.symm
  · rw [whN_mono l hk] at h; exact h
theorem ss_while {t : MT} {m : MS} (h : PS X st (tWhile (eT G t) (sS G m))) : PS X st (sS G (sWh t m)) := ps_imp h fun D σ H ⟨F, M, ρ, S, hk, sl, fl, ρ', S', e, q⟩ => by
  unfold sWh at e
  split at e
  · rename_i hx
    obtain ⟨k, hk0⟩ := Classical.choose_spec hx
    rw [Option.some.inj e] at hk0
    refine ⟨fun n σ H => ∃ F' M' ρi Si, HeapOk G H F' M' Si ∧ Le F F' ∧ Slots G.K σ ρi F' M' ∧ whN t m n ρi Si = some (fl, ρ', S'), ⟨k, F, M, ρ, S, hk, Same.refl F, sl, hk0⟩, ?_⟩
    rintro n σ H ⟨F', M', ρi, Si, hk', le', sl', er⟩
    cases n with
    | zero => cases er
    | succ n =>
      unfold whN at er
      obtain ⟨⟨b, S1⟩, e1, er⟩ := Option.bind_eq_some_iff.mp er
      refine ⟨F', M', ρi, Si, hk', sl', b, S1, e1, fun H2 F2 hk2 le2 => ?_⟩
      cases b with
      | false => cases er; exact q H2 F2 M' hk2 (le'.trans le2) σ (sl'.mono le2)
      | true =>
        obtain ⟨⟨f2, ρ2, S2⟩, em, er⟩ := Option.bind_eq_some_iff.mp er
        refine ⟨fun σ H => ∃ F' M' ρi Si, HeapOk G H F' M' Si ∧ Le F F' ∧ Slots G.K σ ρi F' M' ∧ whN t m n ρi Si = some (fl, ρ', S'), fun σ' H' hN => ⟨n, by omega, hN⟩, F2, M', ρi, S1, hk2, sl'.mono le2, f2, ρ2, S2, em, fun H3 F3 M3 hk3 le3 => ?_⟩
        cases f2 with
        | nx => exact fun σ3 sl3 => ⟨F3, M3, ρ2, S2, hk3, (le'.trans le2).trans le3, sl3, er⟩
        | ct => exact fun σ3 sl3 => ⟨F3, M3, ρ2, S2, hk3, (le'.trans le2).trans le3, sl3, er⟩
        | bk => cases er; exact q H3 F3 M3 hk3 ((le'.trans le2).trans le3)
        | rt d => cases er; exact q H3 F3 M3 hk3 ((le'.trans le2).trans le3)
  · cases e
end
end Dv
namespace Dv
open PySem PySem.Spec
open PyProof.Rows L2

/-! ### defs as functions of data -/
def startL (n : Nat) (ds : List D) : Lo := ds.map (fun d => some (.imm d)) ++ List.replicate (n - ds.length) none
def outF : Fl × Lo × Sg → Option (D × Sg)
  | (.rt d, _, S) => some (d, S)
  | (.nx, _, S) => some (.non, S)
  | _ => none
/-- a def of k parameters and n names -/
def runP (k n : Nat) (m : MS) (ds : List D) : Option D := if ds.length = k then (m (startL n ds) none).bind fun p => (outF p).map (·.1) else none
def runR (k n : Nat) (m : MS) (ds : List D) (r : Rng) : Option (D × Rng) := if ds.length = k then (m (startL n ds) (some r)).bind fun p => (outF p).bind fun q => match q.2 with
  | some r' => if r'.at_ = r.at_ ∧ r'.gA = r.gA then some (q.1, r') else none
  | none => none
  else none
def Ar (k : Nat) (f : List D → Option D) : Prop := ∀ ds d, f ds = some d → ds.length = k
def ArR (k : Nat) (f : List D → Rng → Option (D × Rng)) : Prop := ∀ ds r d, f ds r = some d → ds.length = k
theorem runP_ar {k n : Nat} {m : MS} : Ar k (runP k n m) := fun ds d h => by
  unfold runP at h
  split at h
  · assumption
  · cases h
theorem runR_ar {k n : Nat} {m : MS} : ArR k (runR k n m) := fun ds r d h => by
  unfold runR at h
  split at h
  · assumption
  · cases h
/-- the promise of a def without draws -/
def spP (K : PySem.W.Frag) (f : List D → Option D) : Sp := fun vs H Q E => ∃ F ds d, Le F H ∧ RepL K F vs ds ∧ f ds = some d ∧
  ∀ v H' F', Same H H' → (∀ a, H' a = none → H a = none) → Le F F' → Le F' H' → (∀ a o, F' a = some o → NewOk F H a o) → Rep K F' v d → Q v H'
/-- .. of a def that draws -/
def spR (K : PySem.W.Frag) (f : List D → Rng → Option (D × Rng)) : Sp := fun vs H Q E => ∃ F ds r d r', Le F H ∧ RepL K F vs ds ∧ RngAt K H F r ∧ f ds r = some (d, r') ∧
  ∀ v H' F', (∀ a o, H a = some o → a ≠ r.at_ → a ≠ r.gA → H' a = some o) → (∀ a, H' a = none → H a = none) → Le F F' → Le F' H' → (∀ a o, F' a = some o → NewOk F H a o) → RngAt K H' F' r' → r'.at_ = r.at_ → r'.gA = r.gA → Rep K F' v d → Q v H'
theorem startL_slots {K : PySem.W.Frag} {F : Hp} {M : OMap} {N : List Str} {vs : List V} {ds : List D} (r : RepL K F vs ds) : Slots K (L2.start N vs) (startL N.length ds) F M := by
  have hl := Paired.length r
  unfold L2.start startL
  refine ⟨by simp [hl], fun i l h => ?_⟩
  rw [List.getElem?_append] at h ⊢
  rw [List.length_map] at h ⊢
  split at h
  · rename_i hi
    rw [List.getElem?_map] at h
    obtain ⟨d, e, h⟩ := Option.map_eq_some_iff.mp h
    cases h
    obtain ⟨v, ev, rv⟩ := paired_get' r e
    exact ⟨v, by rw [if_pos (by omega), List.getElem?_map, ev]; rfl, rv⟩
  · rw [List.getElem?_replicate] at h
    split at h
    · cases h
    · cases h
section
variable {P : Program} {w : World} {K : PySem.W.Frag}
variable {mg : Str → Option Value} {base : Heap}
theorem fn_pure {x qual : Str} {st : Stmt} {f : Addr} {fd : FuncData} {N ps : List Str} {k : Nat} {m : MS} (F : Fun K x qual st f fd) (Sc : FnScope N ps (defScope st))
    (hb : ∀ (H0 F0 : Hp) (R : Addr → Prop) (cdv : Value) (A : Around) (outer : List Env) (s : Shared) (H : Hp) (E : XK), Room k (A.deeper (envOfC qual (defScope st) s.heap.objs.size f cdv)) → PSs (cxOf CX0 P w K mg base N qual (defScope st) f cdv A outer s H E).nox (defBody st) (sS ⟨K, H0, F0, R⟩ m)) :
    FnOk P w K mg base CX0 (k + 1) f fd ps (spP K (runP ps.length N.length m)) := by
  refine F.ok Sc (fun vs H Q E h => ?_) fun cdv A outer s H vs Q E hr h => ?_
  · obtain ⟨F, ds, d, _, rl, e, _⟩ := h
    rw [Paired.length rl]; exact runP_ar _ _ e
  · obtain ⟨F, ds, d, le, rl, e, q⟩ := h
    refine ⟨_, hb H F (fun _ => False) cdv A outer s H E hr, ?_⟩
    unfold runP at e
    split at e
    · obtain ⟨⟨fl, ρ', S'⟩, e1, e⟩ := Option.bind_eq_some_iff.mp e
      obtain ⟨⟨d', S2⟩, e2, e⟩ := Option.map_eq_some_iff.mp e
      cases e
      refine ⟨F, fun _ => none, _, none, ⟨le, (fun _ _ _ h => nomatch h), fun _ _ h _ => h, fun _ h => h, fun _ _ h => h, fun _ _ h => .inl h, fun _ h => nomatch h⟩, startL_slots rl, fl, ρ', S', e1, fun H' F' M' hk' le' => ?_⟩
      have fin : ∀ v, Rep K F' v d' → Q v H' := fun v r => q v H' F' (fun a o h => hk'.ent a o h (fun z => z)) hk'.trk le' hk'.sub hk'.new r
      cases fl with
      | nx => cases e2; exact fun σ _ => fin _ .non
      | rt d => cases e2; exact fin
      | ct => cases e2
      | bk => cases e2
    · cases e
theorem fn_rng {x qual : Str} {st : Stmt} {f : Addr} {fd : FuncData} {N ps : List Str} {k : Nat} {m : MS} (F : Fun K x qual st f fd) (Sc : FnScope N ps (defScope st))
    (hb : ∀ (H0 F0 : Hp) (R : Addr → Prop) (cdv : Value) (A : Around) (outer : List Env) (s : Shared) (H : Hp) (E : XK), Room k (A.deeper (envOfC qual (defScope st) s.heap.objs.size f cdv)) → PSs (cxOf CX0 P w K mg base N qual (defScope st) f cdv A outer s H E).nox (defBody st) (sS ⟨K, H0, F0, R⟩ m)) :
    FnOk P w K mg base CX0 (k + 1) f fd ps (spR K (runR ps.length N.length m)) := by
  refine F.ok Sc (fun vs H Q E h => ?_) fun cdv A outer s H vs Q E hr h => ?_
  · obtain ⟨F, ds, r, d, r', _, rl, _, e, _⟩ := h
    rw [Paired.length rl]; exact runR_ar _ _ _ e
  · obtain ⟨F, ds, r, d, r', le, rl, ra, e, q⟩ := h
    refine ⟨_, hb H F (fun a => a = r.at_ ∨ a = r.gA) cdv A outer s H E hr, ?_⟩
    unfold runR at e
    split at e
    · obtain ⟨⟨fl, ρ', S'⟩, e1, e⟩ := Option.bind_eq_some_iff.mp e
      obtain ⟨⟨d', S2⟩, e2, e⟩ := Option.bind_eq_some_iff.mp e
      cases S2 with
      | none => cases e
      | some r2 =>
        dsimp only at e
        split at e
        · rename_i hrr
          cases e
          refine ⟨F, fun _ => none, _, some r, ⟨le, (fun _ _ _ h => nomatch h), fun _ _ h _ => h, fun _ h => h, fun _ _ h => h, fun _ _ h => .inl h, fun _ h => by cases h; exact ⟨ra, rfl, rfl, .inl (.inl rfl), .inl (.inr rfl)⟩⟩, startL_slots rl, fl, ρ', S', e1, fun H' F' M' hk' le' => ?_⟩
          have hS : S' = some r' := by
            cases fl with
            | nx => cases e2; rfl
            | rt d => cases e2; rfl
            | ct => cases e2
            | bk => cases e2
          have fin : ∀ v, Rep K F' v d → Q v H' := fun v rv => q v H' F' (fun a o h n1 n2 => hk'.ent a o h (fun z => z.elim n1 n2)) hk'.trk le' hk'.sub hk'.new (hk'.rng _ hS).1 hrr.1 hrr.2 rv
          cases fl with
          | nx => cases e2; exact fun σ _ => fin _ .non
          | rt d => cases e2; exact fin
          | ct => cases e2
          | bk => cases e2
        · cases e
    · cases e
end

section
variable {G : Gh} {X : Cx} {e a b c o : Expr} {es : List Expr} {pos p2 : Pos} {st : Stmt} {sts : List Stmt}
/-- behind a call -/
theorem heap_called {H H' F F' : Hp} {M : OMap} {S : Sg} (hk : HeapOk G H F M S) (sm : Same H H') (tr : ∀ a, H' a = none → H a = none) (le : Le F F') (sub : Le F' H') (nw : ∀ a o, F' a = some o → NewOk F H a o) : HeapOk G H' F' M S := by
  have fnone : ∀ a o, H a = some o → (∀ vs, o ≠ .tup vs) → F a = none → F' a = none := fun a o e nt n => by
    cases z : F' a with
    | none => rfl
    | some u =>
      rcases nw _ _ z with y | y | ⟨vs, rfl⟩
      · rw [y] at n; cases n
      · rw [y] at e; cases e
      · have z1 := sub _ _ z
        rw [sm _ _ e] at z1
        exact absurd (Option.some.inj z1) (nt vs)
  refine ⟨sub, fun a w d m => ?_, fun a o e r => sm _ _ (hk.ent a o e r), fun a n => hk.trk a (tr a n), fun a o e => le _ _ (hk.f0 a o e), fun a o e => ?_, fun r e => ?_⟩
  · obtain ⟨f1, f2, o, e, ro⟩ := hk.own _ _ _ m
    exact ⟨fnone a o e (fun vs z => by rw [z] at ro; cases ro) f1, f2, o, sm _ _ e, ro.mono le⟩
  · rcases nw _ _ e with z | z | z
    · exact hk.new _ _ z
    · exact .inr (.inl (hk.trk _ z))
    · exact .inr (.inr z)
  · obtain ⟨x, m1, m2, q⟩ := hk.rng r e
    exact ⟨x.mono sm le (fnone _ _ x.hat (fun _ z => nomatch z) x.fa) (fnone _ _ x.hg (fun _ z => nomatch z) x.fg), m1, m2, q⟩
theorem call_imp {f : List D → Option D} {m : MA} {E : XK} : ∀ σ H Q, eE G (mCall f m) σ H Q → tCall (spP G.K f) [] E (eA G m) σ H Q := fun σ H Q ⟨F, M, ρ, S, hk, sl, d, S', e, q⟩ => by
  obtain ⟨ds, e1, e2⟩ := mCall_some e
  refine ⟨F, M, ρ, S, hk, sl, ds, S', e1, fun vs H1 F1 hk1 le1 rl => ⟨F1, ds, d, hk1.sub, by rw [List.append_nil]; exact rl, e2, fun v H' F' sm tr le sub nw r => ?_⟩⟩
  exact q v H' F' (heap_called hk1 sm tr le sub nw) (le1.trans le) r
theorem se_call {f : List D → Option D} {m : MA} {E : XK} (h : PE X o (tCall (spP G.K f) [] E (eA G m))) : PE X o (eE G (mCall f m)) := pe_imp h call_imp
def mCallR (f : List D → Rng → Option (D × Rng)) (m : MA) : ME := fun ρ S => (m ρ S).bind fun p => match p.2 with
  | some r => (f p.1 r).bind fun q => if q.2.at_ = r.at_ ∧ q.2.gA = r.gA then some (q.1, some q.2) else none
  | none => none
theorem callR_imp {f : List D → Rng → Option (D × Rng)} {m : MA} {E : XK} : ∀ σ H Q, eE G (mCallR f m) σ H Q → tCall (spR G.K f) [] E (eA G m) σ H Q := fun σ H Q ⟨F, M, ρ, S, hk, sl, d, S', e, q⟩ => by
  obtain ⟨⟨ds, S1⟩, e1, e⟩ := Option.bind_eq_some_iff.mp e
  cases S1 with
  | none => cases e
  | some r =>
    obtain ⟨⟨d2, r2⟩, e2, e⟩ := Option.bind_eq_some_iff.mp e
    split at e
    · rename_i hrr
      cases e
      refine ⟨F, M, ρ, S, hk, sl, ds, some r, e1, fun vs H1 F1 hk1 le1 rl => ?_⟩
      obtain ⟨ra, m1, m2, o1, o2⟩ := hk1.rng r rfl
      refine ⟨F1, ds, r, _, r2, hk1.sub, by rw [List.append_nil]; exact rl, ra, e2, fun v H' F' sm tr le sub nw ra' ha hg rv => q v H' F' ?_ (le1.trans le) rv⟩
      have fnone : ∀ a o, H1 a = some o → H' a = some o → (∀ vs, o ≠ .tup vs) → F1 a = none → F' a = none := fun a o e e' nt n => by
        cases z : F' a with
        | none => rfl
        | some u =>
          rcases nw _ _ z with y | y | ⟨vs, rfl⟩
          · rw [y] at n; cases n
          · rw [y] at e; cases e
          · have z1 := sub _ _ z
            rw [e'] at z1
            exact absurd (Option.some.inj z1) (nt vs)
      refine ⟨sub, fun a w d m => ?_, fun a o e nr => ?_, fun a n => hk1.trk a (tr a n), fun a o e => le _ _ (hk1.f0 a o e), fun a o e => ?_, fun r3 e => ?_⟩
      · obtain ⟨f1, f2, o, e, ro⟩ := hk1.own _ _ _ m
        have e' := sm _ _ e (fun z => by rw [z, m1] at m; cases m) (fun z => by rw [z, m2] at m; cases m)
        exact ⟨fnone a o e e' (fun vs z => by rw [z] at ro; cases ro) f1, f2, o, e', ro.mono le⟩
      · refine sm _ _ (hk1.ent a o e nr) (fun z => ?_) (fun z => ?_)
        · subst z
          rcases o1 with o1 | o1
          · exact nr o1
          · rw [o1] at e; cases e
        · subst z
          rcases o2 with o2 | o2
          · exact nr o2
          · rw [o2] at e; cases e
      · rcases nw _ _ e with z | z | z
        · exact hk1.new _ _ z
        · exact .inr (.inl (hk1.trk _ z))
        · exact .inr (.inr z)
      · cases e
        exact ⟨ra', by rw [ha]; exact m1, by rw [hg]; exact m2, by rw [ha]; exact o1, by rw [hg]; exact o2⟩
    · cases e
theorem se_callR {f : List D → Rng → Option (D × Rng)} {m : MA} {E : XK} (h : PE X o (tCall (spR G.K f) [] E (eA G m))) : PE X o (eE G (mCallR f m)) := pe_imp h callR_imp
/-- with keywords: pm puts positional and keyword values in the parameters' order -/
def mCallK (f : List D → Option D) (pm : List D → List D → List D) (m n : MA) : ME := fun ρ S => (m ρ S).bind fun p => (n ρ p.2).bind fun q => (f (pm p.1 q.1)).map fun d => (d, q.2)
theorem se_callK {f : List D → Option D} {pm : List D → List D → List D} {gV : List V → List V → List V} {m n : MA} {E : XK} (hp : ∀ F vs ds zs es, RepL G.K F vs ds → RepL G.K F zs es → RepL G.K F (gV vs zs) (pm ds es)) (h : PE X o (tCallK (spP G.K f) gV E (eA G m) (eA G n))) : PE X o (eE G (mCallK f pm m n)) := pe_imp h fun σ H Q ⟨F, M, ρ, S, hk, sl, d, S', e, q⟩ => by
  obtain ⟨⟨ds, S1⟩, e1, e⟩ := Option.bind_eq_some_iff.mp e
  obtain ⟨⟨ks, S2⟩, e2, e⟩ := Option.bind_eq_some_iff.mp e
  obtain ⟨d', e3, e⟩ := Option.map_eq_some_iff.mp e
  cases e
  exact ⟨F, M, ρ, S, hk, sl, ds, S1, e1, fun vs H1 F1 hk1 le1 rl => ⟨F1, M, ρ, S1, hk1, sl.mono le1, ks, S2, e2, fun zs H2 F2 hk2 le2 rz => ⟨F2, _, d, hk2.sub, hp F2 _ _ _ _ (RepL.mono le2 rl) rz, e3, fun v H' F' sm tr le sub nw r => q v H' F' (heap_called hk2 sm tr le sub nw) ((le1.trans le2).trans le) r⟩⟩⟩

/-! ### the draws' own dict -/
theorem rng_slot {H F : Hp} {M : OMap} {S : Sg} {σ : L2.St} {ρ : Lo} {r : Rng} {i : Nat} {x : Addr} (hk : HeapOk G H F M S) (sl : Slots G.K σ ρ F M) (hi : ρ[i]? = some (some (.imm (.rng x)))) : σ[i]? = some (some (.ref x)) := by
  obtain ⟨v, ev, r⟩ := sl.at_ _ _ hi
  cases r
  exact ev
/-- state["rest"], state["turn"] -/
def mStI (i : Nat) (g : Rng → Int) : ME := fun ρ S => match ρ[i]?, S with
  | some (some (.imm (.rng x))), some r => if x = r.at_ then some (.int (g r), S) else none
  | _, _ => none
theorem se_stI {i : Nat} {key : Str} {g : Rng → Int} (hkey : ∀ r, valV (rngDict r) (Sum.inr key) = some (.int (g r))) (h : PE X o (tDGet (tVar i) (tC (.str key)))) : PE X o (eE G (mStI i g)) := pe_imp h fun σ H Q ⟨F, M, ρ, S, hk, sl, d, S', e, q⟩ => by
  unfold mStI at e
  split at e
  · rename_i x r hi
    split at e
    · rename_i hx
      cases e
      subst hx
      obtain ⟨ra, _⟩ := hk.rng r rfl
      refine ⟨_, rng_slot (r := r) hk sl hi, r.at_, .int (g r), rfl, ?_, q _ H F hk (Same.refl F) (.int _)⟩
      have := DGet.k (k := Sum.inr key) ra.hat
      rw [hkey r] at this
      exact this
    · cases e
  · cases e
/-- state["cells"] -/
def mStC (i : Nat) : ME := fun ρ S => match ρ[i]?, S with
  | some (some (.imm (.rng x))), some r => if x = r.at_ then some (.lst (r.cells.map .int), S) else none
  | _, _ => none
theorem repL_mapI {K : PySem.W.Frag} {F : Hp} : ∀ ns : List Int, RepL K F (ns.map V.int) (ns.map D.int)
  | [] => .nil
  | n :: r => .cons (.int n) (repL_mapI r)
theorem se_stC {i : Nat} (h : PE X o (tDGet (tVar i) (tC (.str "cells")))) : PE X o (eE G (mStC i)) := pe_imp h fun σ H Q ⟨F, M, ρ, S, hk, sl, d, S', e, q⟩ => by
  unfold mStC at e
  split at e
  · rename_i x r hi
    split at e
    · rename_i hx
      cases e
      subst hx
      obtain ⟨ra, _⟩ := hk.rng r rfl
      refine ⟨_, rng_slot (r := r) hk sl hi, r.at_, .ref r.cA, rfl, DGet.k (k := Sum.inr "cells") ra.hat, q _ H F hk (Same.refl F) (.mkLst ra.hc (by rw [List.length_map]; exact Nat.le_trans ra.hz (by decide)) (repL_mapI _))⟩
    · cases e
  · cases e
/-- state["great"] != [] -/
def mStG (i : Nat) : MT := fun ρ S => match ρ[i]?, S with
  | some (some (.imm (.rng x))), some r => if x = r.at_ ∧ r.great.length ≤ 1000 then some (!r.great.isEmpty, S) else none
  | _, _ => none
theorem dp_ints {K : PySem.W.Frag} {H : Hp} : ∀ ns : List Int, DpAll K H (ns.map V.int) (ns.map PyData.int)
  | [] => .nil
  | n :: r => .cons (.int n) (dp_ints r)
theorem canLay_ints : ∀ ns : List Int, PyData.canLayAll0 (ns.map PyData.int) = true
  | [] => rfl
  | n :: r => by simp only [List.map_cons, PyData.canLayAll0, PyData.canLay0, canLay_ints r]; rfl
theorem depth_ints : ∀ ns : List Int, PyData.depthAll (ns.map PyData.int) ≤ 1
  | [] => (by simp [PyData.depthAll])
  | n :: r => by
    have := depth_ints r
    (simp only [List.map_cons, PyData.depthAll, PyData.depth]); omega
theorem shaped_ints (ns : List Int) : SeqAt.shaped (.list (ns.map PyData.int)) = true := by
  have h := depth_ints ns
  simp [SeqAt.shaped, PyData.canLay0, canLay_ints, PyData.depth]
  omega
theorem st_stG {i : Nat} (h : PT X o (tTest (tOp (rNeD G.K) (tDGet (tVar i) (tC (.str "great"))) (tLst tNil)))) : PT X o (eT G (mStG i)) := pt_imp h fun σ H Q ⟨F, M, ρ, S, hk, sl, d, S', e, q⟩ => by
  unfold mStG at e
  split at e
  · rename_i x r hi
    split at e
    · rename_i hx
      cases e
      obtain ⟨rfl, hz⟩ := hx
      obtain ⟨ra, _⟩ := hk.rng r rfl
      refine ⟨_, rng_slot (r := r) hk sl hi, r.at_, .ref r.gA, rfl, DGet.k (k := Sum.inr "great") ra.hat, Nat.zero_le _, fun p hp => ?_⟩
      have hgp : r.gA ≠ p := ne_of_none ra.hg hp
      refine ⟨.list (r.great.map .int), .list [], .lst (.of (by rw [upd_ne hgp]; exact ra.hg)) (dp_ints _), .lst (.of upd_same) .nil, shaped_ints _, shaped_ints [], _, rfl, ?_⟩
      have he : (!PyData.eqv (.list (r.great.map .int)) (.list [])) = !r.great.isEmpty := by
        cases r.great <;> simp [PyData.eqv, PyData.eqvAll]
      rw [he]
      exact q _ _ (hk.laid hp) (le_upd (hk.fnone hp))
    · cases e
  · cases e
/-! ### globals -/
theorem se_gc {x : Str} {v : V} {d : D} (hg : Gl X x) (h : ∃ u, X.mg x = some u ∧ RelV v u) (rd : ∀ F, Rep G.K F v d) (hd : (x == ("__debug__" : Str)) = false := by decide) : PE X (.Name x pos) (eE G (mPure d)) := by
  obtain ⟨u, e, r⟩ := h
  exact se_const (pe_glob hg e r hd) rd
/-- a written tuple of the top -/
theorem se_gk {x : Str} {vs : List V} {ds : List D} (hg : Gl X x) (h : ∃ a, X.mg x = some (.ref a) ∧ SqT X.K (fun _ => none) a vs) (hK : G.K = X.K) (rd : ∀ F, RepL G.K F vs ds) (hd : (x == ("__debug__" : Str)) = false := by decide) : PE X (.Name x pos) (eE G (mPure (.kt ds))) := by
  obtain ⟨a, e, r⟩ := h
  exact se_const (v := .ref a) (pe_glob hg e rfl hd) fun F => .mkKt (by rw [hK]; exact r) (rd F)
theorem u65 {k : Nat} {A : Around} (hr : Room k A) : A.units + 65 < cLine := by have := hr.un; omega
theorem u64 {k : Nat} {A : Around} (hr : Room k A) : A.units + 64 < cLine := by have := hr.un; omega
end
end Dv
namespace Dv
open PySem PySem.Spec
open PyProof.Rows L2
/-! ### dicts -/
def keyD : D → Option Key
  | .int i => some (.inl i)
  | .str x => some (.inr x)
  | _ => none
theorem rep_key {K : PySem.W.Frag} {F : Hp} {v : V} {d : D} {k : Key} (r : Rep K F v d) (h : keyD d = some k) : v = kV k := by
  unfold keyD at h
  split at h
  · cases h; cases r; rfl
  · cases h; cases r; rfl
  · cases h
def putG {κ α : Type} [DecidableEq κ] (kvs : List (κ × α)) (k : κ) (v : α) : List (κ × α) :=
  if (kvs.any fun kv => decide (kv.1 = k)) = true
    then kvs.map (fun kv => if kv.1 = k then (kv.1, v) else kv) else kvs ++ [(k, v)]
theorem putG_len {κ α : Type} [DecidableEq κ] (kvs : List (κ × α)) (k : κ) (v : α) : (putG kvs k v).length ≤ kvs.length + 1 := by
  unfold putG; split <;> simp
theorem repP_put {κ : Type} [DecidableEq κ] {K : PySem.W.Frag} {F : Hp} {vs : List (κ × V)} {ds : List (κ × D)} {k : κ} {v : V} {d : D} (r : RepP K F vs ds) (rv : Rep K F v d) : RepP K F (putG vs k v) (putG ds k d) := by
  have ha : (vs.any fun kv => decide (kv.1 = k)) = (ds.any fun kv => decide (kv.1 = k)) := by
    induction r with
    | nil => rfl
    | cons h _ ih => simp only [List.any_cons, ih, h.1]
  unfold putG
  rw [ha]
  split
  · refine paired_map2 r fun p q h => ?_
    rw [h.1]
    split
    · exact ⟨rfl, rv⟩
    · exact ⟨h.1, h.2⟩
  · exact paired_app r (.cons ⟨rfl, rv⟩ .nil)
theorem putK_eq {κ : Type} [DecidableEq κ] (vs : List (κ × V)) (k : κ) (v : V) : putK vs k v = putG vs k v := rfl
def dcGo (ρ : Lo) (g : MG) (t : MT) (mk mv : ME) : List D → List (Key × D) → Sg → Option (List (Key × D) × Sg)
  | [], acc, S => some (acc, S)
  | d :: r, acc, S => (g d ρ).bind fun ρ1 => (t ρ1 S).bind fun b => if b.1 then (mk ρ1 b.2).bind fun y => (mv ρ1 y.2).bind fun z => (keyD y.1).bind fun k => dcGo ρ g t mk mv r (putG acc k z.1) z.2 else dcGo ρ g t mk mv r acc b.2
def mDc (mi : MA) (vs : List Nat) (g : MG) (t : MT) (mk mv : ME) : ME := fun ρ S => (mi ρ S).bind fun p => (dcGo (wipeL ρ vs) g t mk mv p.1 [] p.2).map fun q => (.dK q.1, q.2)
section
variable {G : Gh} {X : Cx} {e a b c o : Expr} {es : List Expr} {pos p2 : Pos} {st : Stmt}
theorem dc_imp {mi : MA} {vs is : List Nat} {g : MG} {t : MT} {mk mv : ME} (hs : ∀ i ∈ is, i ∈ vs) : ∀ σ H Q, eF G (mDc mi vs g t mk mv) σ H Q → tDc (iI G mi) (eG G is g) (eT G t) (eE G mk) (eE G mv) vs σ H Q := fun σ H Q ⟨F, M, ρ, S, hk, sl, d, S', e, q⟩ => by
  obtain ⟨⟨ds, S1⟩, e1, e⟩ := Option.bind_eq_some_iff.mp e
  obtain ⟨⟨out, S2⟩, e2, e⟩ := Option.map_eq_some_iff.mp e
  cases e
  refine ⟨F, M, ρ, S, hk, sl, ds, S1, e1, fun J H1 F1 hk1 le1 w D hD => ?_⟩
  have mD := hk1.mnone hD
  refine ⟨fun i n H => n = ds.length - i ∧ i ≤ ds.length ∧ ∃ F' acc Si, acc.length ≤ i ∧ HeapOk G H F' (updO M D (none, .dK acc)) Si ∧ Le F1 F' ∧ dcGo (wipeL ρ vs) g t mk mv (ds.drop i) acc Si = some (out, S2),
    ⟨ds.length, by omega, by omega, F1, [], S1, by simp, hk1.laidO hD (.dK .nil), Same.refl F1, by simpa using e2⟩, ?_⟩
  rintro i n H ⟨rfl, hi, F', acc, Si, ha, hk', le', er⟩
  by_cases hlt : i < ds.length
  · refine .inr ⟨w.goes i H hlt (le'.trans hk'.sub), fun H => i + 1 ≤ ds.length ∧ ∃ F' acc Si, acc.length ≤ i + 1 ∧ HeapOk G H F' (updO M D (none, .dK acc)) Si ∧ Le F1 F' ∧ dcGo (wipeL ρ vs) g t mk mv (ds.drop (i + 1)) acc Si = some (out, S2),
      fun H' hN => ⟨ds.length - (i + 1), by omega, rfl, hN⟩, fun x H' y => ?_⟩
    obtain ⟨F2, dd, hk2, le2, ed, rx⟩ := w.yields i H x H' F' _ Si hlt hk' le' y
    have sl2 : Slots G.K (L2.wipe σ vs) (wipeL ρ vs) F2 (updO M D (none, .dK acc)) := by
      have h0 := ((sl.wipe vs).mono (le1.trans le')).mono le2
      refine ⟨h0.len, fun j l hj => ?_⟩
      obtain ⟨v, ev, r⟩ := h0.at_ _ _ hj
      refine ⟨v, ev, ?_⟩
      cases l with
      | imm d => exact r
      | own d =>
        obtain ⟨a, ea, em⟩ := r
        refine ⟨a, ea, ?_⟩
        rw [updO_ne (fun z => by rw [z, mD] at em; cases em)]
        exact em
    have edr : ds.drop i = dd :: ds.drop (i + 1) := by
      (rw [List.drop_eq_getElem_cons hlt]); congr
      exact Option.some.inj ((List.getElem?_eq_getElem hlt).symm.trans ed)
    rw [edr] at er
    obtain ⟨ρ1, eg, er⟩ := Option.bind_eq_some_iff.mp er
    obtain ⟨⟨b, Sb⟩, et, er⟩ := Option.bind_eq_some_iff.mp er
    refine ⟨F2, _, _, Si, dd, hk2, sl2, rx, ρ1, eg, fun σ2 sl3 l3 k3 => ⟨wipe_eq hs l3 fun i hi => (k3 i hi).1, F2, _, ρ1, Si, hk2, sl3, b, Sb, et, fun H3 F3 hk3 le3 => ?_⟩⟩
    cases b with
    | true =>
      obtain ⟨⟨y, Sy⟩, em, er⟩ := Option.bind_eq_some_iff.mp er
      obtain ⟨⟨z, Sz⟩, ez, er⟩ := Option.bind_eq_some_iff.mp er
      obtain ⟨k, ek, er⟩ := Option.bind_eq_some_iff.mp er
      refine ⟨F3, _, ρ1, Sb, hk3, sl3.mono le3, y, Sy, em, fun v H4 F4 hk4 le4 rv => ⟨F4, _, ρ1, Sy, hk4, (sl3.mono le3).mono le4, z, Sz, ez, fun u H5 F5 hk5 le5 ru => ?_⟩⟩
      obtain ⟨_, _, oo, eo4, ro⟩ := hk5.own D _ _ updO_same
      cases ro with
      | @dK us _ r =>
        have hlen := Paired.length r
        have hsz := w.size
        refine ⟨us, k, rep_key rv ek, eo4, by omega, by omega, F5, putG acc k z, Sz, Nat.le_trans (putG_len _ _ _) (by omega), ?_, (((le'.trans le2).trans le3).trans le4).trans le5, er⟩
        have h5 := hk5.write (w' := none) (o := .dK (putK us k u)) (d' := .dK (putG acc k z)) updO_same (.dK (by rw [putK_eq]; exact repP_put r ru))
        rw [updO_updO] at h5
        exact h5
    | false => exact ⟨by omega, F3, acc, Sb, by omega, hk3, (le'.trans le2).trans le3, er⟩
  · have e : i = ds.length := by omega
    subst e
    rw [List.drop_length] at er
    cases er
    exact .inl ⟨w.stops H (le'.trans hk'.sub), q D H F' hk' mD (le1.trans le')⟩
theorem sf_dc {kx vx tg iter : Expr} {ifs : List Expr} {scope : Scope} {own : List (Str × Nat)} {mi : MA} {is : List Nat} {g : MG} {t : MT} {mk mv : ME} (hc : X.calm = true) (hN : X.N.Nodup) (hi : PI X tg iter (iI G mi)) (ok : BlkOk X.N X.env.scope scope own)
    (hg : ∀ (s : Shared) (H : Hp) (C : Addr) (cl : List (Str × Addr)) (fp : List Addr), PG (X.blk s H scope (compEnvC scope cl C X.env) fp) tg (eG G is g)) (ht : ∀ (s : Shared) (H : Hp) (C : Addr) (cl : List (Str × Addr)) (fp : List Addr), PTs (X.blk s H scope (compEnvC scope cl C X.env) fp) ifs (eT G t))
    (hk : ∀ (s : Shared) (H : Hp) (C : Addr) (cl : List (Str × Addr)) (fp : List Addr), PE (X.blk s H scope (compEnvC scope cl C X.env) fp) kx (eE G mk))
    (he : ∀ (s : Shared) (H : Hp) (C : Addr) (cl : List (Str × Addr)) (fp : List Addr), PE (X.blk s H scope (compEnvC scope cl C X.env) fp) vx (eE G mv)) (hs : ∀ i ∈ is, i ∈ own.map (·.2)) (hf : ∀ x, foldedSetIterable iter X.env x = pure x := by intro _; rfl) :
    PE X (.DictComp kx vx [⟨tg, iter, ifs, 0⟩] scope pos) (eF G (mDc mi (own.map (·.2)) g t mk mv)) := pe_imp (pe_dc hc hN hi ok hg ht hk he hf) (dc_imp hs)
/-- {} that is filled by tuples -/
def mNewT : ME := fun _ S => some (.dT [], S)
def mNewK : ME := fun _ S => some (.dK [], S)
theorem sf_newT : PE X (.Dict [] [] pos) (eF G mNewT) := pe_imp pe_dnewT fun σ H Q ⟨F, M, ρ, S, hk, sl, d, S', e, q⟩ => by
  cases e
  exact fun p hp => q p _ F (hk.laidO hp (.dT .nil)) (hk.mnone hp) (Same.refl F)
theorem sf_newK : PE X (.Dict [] [] pos) (eF G mNewK) := pe_imp pe_dnewK fun σ H Q ⟨F, M, ρ, S, hk, sl, d, S', e, q⟩ => by
  cases e
  exact fun p hp => q p _ F (hk.laidO hp (.dK .nil)) (hk.mnone hp) (Same.refl F)
def keysD : List D → Option (List Key)
  | [] => some []
  | d :: r => (keyD d).bind fun k => (keysD r).map fun ks => k :: ks
theorem repL_keys {K : PySem.W.Frag} {F : Hp} : ∀ {vs : List V} {ds : List D} {ks : List Key}, RepL K F vs ds → keysD ds = some ks → vs = ks.map kV
  | _, _, _, .nil, e => by cases e; rfl
  | _, d :: r, _, .cons rv t, e => by
    obtain ⟨k, e1, e⟩ := Option.bind_eq_some_iff.mp e
    obtain ⟨ks, e2, rfl⟩ := Option.map_eq_some_iff.mp e
    rw [rep_key rv e1, repL_keys t e2]; rfl
/-- d[k] = e, d an owned dict -/
def sPut (i : Nat) (m mk : ME) : MS := fun ρ S => match ρ[i]? with
  | some (some (.own (.dT ds))) => (m ρ S).bind fun p => (mk ρ p.2).bind fun q => match q.1 with
    | .tup ks => (keysD ks).bind fun k => if ds.length < 1000000 then some (.nx, ρ.set i (some (.own (.dT (putG ds k p.1)))), q.2) else none
    | _ => none
  | some (some (.own (.dK ds))) => (m ρ S).bind fun p => (mk ρ p.2).bind fun q => (keyD q.1).bind fun k => if ds.length < 1000000 then some (.nx, ρ.set i (some (.own (.dK (putG ds k p.1)))), q.2) else none
  | _ => none
theorem ss_put {i : Nat} {m mk : ME} (h : PS X st (sDPut (tVar i) (eE G mk) (eE G m))) : PS X st (sS G (sPut i m mk)) := ps_imp h fun D σ H ⟨F, M, ρ, S, hk, sl, fl, ρ', S', e, q⟩ => by
  unfold sPut at e
  split at e
  · rename_i ds hi
    obtain ⟨⟨d, S1⟩, e1, e⟩ := Option.bind_eq_some_iff.mp e
    obtain ⟨⟨dk, S2⟩, e2, e⟩ := Option.bind_eq_some_iff.mp e
    split at e
    · rename_i ks ed
      have ed : dk = .tup ks := ed
      subst ed
      obtain ⟨k, ek, e⟩ := Option.bind_eq_some_iff.mp e
      split at e
      · rename_i hz
        cases e
        refine ⟨F, M, ρ, S, hk, sl, d, S1, e1, fun y H1 F1 hk1 le1 ry => ?_⟩
        obtain ⟨v, ev, x, rfl, em⟩ := sl.at_ _ _ hi
        refine ⟨_, ev, F1, M, ρ, S1, hk1, sl.mono le1, _, S2, e2, fun w H2 F2 hk2 le2 rw' => ?_⟩
        obtain ⟨_, _, oo, eo, ro⟩ := hk2.own _ _ _ em
        obtain ⟨ka, kvs, rfl, eka, rk⟩ := rw'.untup'
        cases ro with
        | @dT us _ r =>
          have hl := Paired.length r
          have hkv := repL_keys rk ek
          subst hkv
          refine ⟨x, _, rfl, DPut.t eo (hk2.sub _ _ eka) (by rw [hl]; exact line1e6 hz), ?_⟩
          exact q _ F2 _ (hk2.write (w' := some i) (o := .dT (putK us k y)) (d' := .dT (putG ds k d)) em (.dT (by rw [putK_eq]; exact repP_put r (ry.mono le2)))) (le1.trans le2) _ (slots_write ((sl.mono le1).mono le2) hi ev em)
      · cases e
    · cases e
  · rename_i ds hi
    obtain ⟨⟨d, S1⟩, e1, e⟩ := Option.bind_eq_some_iff.mp e
    obtain ⟨⟨dk, S2⟩, e2, e⟩ := Option.bind_eq_some_iff.mp e
    obtain ⟨k, ek, e⟩ := Option.bind_eq_some_iff.mp e
    split at e
    · rename_i hz
      cases e
      refine ⟨F, M, ρ, S, hk, sl, d, S1, e1, fun y H1 F1 hk1 le1 ry => ?_⟩
      obtain ⟨v, ev, x, rfl, em⟩ := sl.at_ _ _ hi
      refine ⟨_, ev, F1, M, ρ, S1, hk1, sl.mono le1, _, S2, e2, fun w H2 F2 hk2 le2 rw' => ?_⟩
      obtain ⟨_, _, oo, eo, ro⟩ := hk2.own _ _ _ em
      cases ro with
      | @dK us _ r =>
        have hl := Paired.length r
        have hkv := rep_key rw' ek
        subst hkv
        refine ⟨x, _, rfl, DPut.k eo (by rw [hl]; exact line1e6 hz), ?_⟩
        exact q _ F2 _ (hk2.write (w' := some i) (o := .dK (putK us k y)) (d' := .dK (putG ds k d)) em (.dK (by rw [putK_eq]; exact repP_put r (ry.mono le2)))) (le1.trans le2) _ (slots_write ((sl.mono le1).mono le2) hi ev em)
    · cases e
  · cases e
/-- k in d -/
def inDk (x y : D) : Option D := match y with
  | .dT ds => match x with
    | .tup ks => (keysD ks).map fun k => .bl (ds.any fun kv => decide (kv.1 = k))
    | _ => none
  | .dK ds => (keyD x).map fun k => .bl (ds.any fun kv => decide (kv.1 = k))
  | _ => none
theorem any_repP {κ : Type} [DecidableEq κ] {K : PySem.W.Frag} {F : Hp} {vs : List (κ × V)} {ds : List (κ × D)} (r : RepP K F vs ds) (k : κ) : (vs.any fun kv => decide (kv.1 = k)) = ds.any fun kv => decide (kv.1 = k) := by
  induction r with
  | nil => rfl
  | cons h _ ih => simp only [List.any_cons, ih, h.1]
theorem r_din {H F : Hp} {M : OMap} {S : Sg} {x y : V} {d1 d2 d : D} {Q : VK} (hk : HeapOk G H F M S) (r1 : BRep G.K F M x d1) (r2 : BRep G.K F M y d2) (e : inDk d1 d2 = some d) (q : ∀ v H' F', HeapOk G H' F' M S → Le F F' → Rep G.K F' v d → Q v H') : ∃ b, d = .bl b ∧ ∃ a o, y = .ref a ∧ DGet H a x o ∧ o.isSome = b ∧ Q (.bl b) H := by
  unfold inDk at e
  split at e
  · rename_i ds
    split at e
    · rename_i ks
      obtain ⟨k, ek, e⟩ := Option.map_eq_some_iff.mp e
      cases e
      obtain ⟨a, us, rfl, eo, r⟩ := r2.undT hk
      obtain ⟨ka, kvs, rfl, eka, rk⟩ := (r1.rep hk (fun z => nomatch z)).untup'
      have hkv := repL_keys rk ek
      subst hkv
      exact ⟨_, rfl, a, _, rfl, DGet.t eo (hk.sub _ _ eka), by rw [← valV_any, any_repP r], q _ H F hk (Same.refl F) (.bl _)⟩
    · cases e
  · rename_i ds
    obtain ⟨k, ek, e⟩ := Option.map_eq_some_iff.mp e
    cases e
    obtain ⟨a, us, rfl, eo, r⟩ := r2.undK hk
    have rr : Rep G.K F x d1 := by
      unfold keyD at ek
      split at ek
      · exact r1.flat hk rfl
      · exact r1.flat hk rfl
      · cases ek
    have hkv := rep_key rr ek
    subst hkv
    exact ⟨_, rfl, a, _, rfl, (.inl ⟨_, _, eo, rfl, rfl⟩), by rw [← valV_any, any_repP r], q _ H F hk (Same.refl F) (.bl _)⟩
  · cases e
def mDin (ma mb : ME) : ME := mOp2 inDk ma mb
def mDnin (ma mb : ME) : ME := mOp2 (notOf inDk) ma mb
theorem se_din {ma mb : ME} (h : PE X o (tDIn (eB G ma) (eB G mb))) : PE X o (eE G (mDin ma mb)) := pe_imp h fun σ H Q ⟨F, M, ρ, S, hk, sl, d, S', e, q⟩ => by
  obtain ⟨d1, S1, d2, e1, e2, e3⟩ := mOp2_some e
  refine two_bb hk sl e1 e2 fun x y H' F' hk' le r1 r2 => ?_
  obtain ⟨b, rfl, a, oo, ha, hg, rfl, hq⟩ := r_din hk' r1 r2 e3 fun v H2 F2 hk2 le2 r => q v H2 F2 hk2 (le.trans le2) r
  exact ⟨a, oo, ha, hg, hq⟩
theorem st_din {ma mb : ME} (h : PT X o (L2.tB (tDIn (eB G ma) (eB G mb)))) : PT X o (eT G (mTst (mDin ma mb))) := pt_imp h fun σ H Q ⟨F, M, ρ, S, hk, sl, b, S', e, q⟩ => by
  obtain ⟨d1, S1, d2, e1, e2, e3⟩ := mOp2_some (mTst_some e)
  refine two_bb hk sl e1 e2 fun x y H' F' hk' le r1 r2 => ?_
  obtain ⟨b, eb, a, oo, ha, hg, rfl, hq⟩ := r_din (Q := fun v H' => ∃ c, v = .bl c ∧ Q c H') hk' r1 r2 e3 fun v H2 F2 hk2 le2 r => by cases r; exact ⟨_, rfl, q H2 F2 hk2 (le.trans le2)⟩
  exact ⟨a, oo, ha, hg, hq⟩
theorem notOf_some {f : D → D → Option D} {x y d : D} (h : notOf f x y = some d) : ∃ b, f x y = some (.bl b) ∧ d = .bl (!b) := by
  obtain ⟨d1, e1, h⟩ := Option.bind_eq_some_iff.mp h
  cases d1 <;> first | (cases h; exact ⟨_, e1, rfl⟩) | cases h
theorem se_dnin {ma mb : ME} (h : PE X o (tDNotIn (eB G ma) (eB G mb))) : PE X o (eE G (mDnin ma mb)) := pe_imp h fun σ H Q ⟨F, M, ρ, S, hk, sl, d, S', e, q⟩ => by
  obtain ⟨d1, S1, d2, e1, e2, e3⟩ := mOp2_some e
  obtain ⟨b, e4, rfl⟩ := notOf_some e3
  refine two_bb hk sl e1 e2 fun x y H' F' hk' le r1 r2 => ?_
  obtain ⟨b, eb, a, oo, ha, hg, rfl, hq⟩ := r_din (Q := fun v H' => ∃ c, v = .bl c ∧ Q (.bl (!c)) H') hk' r1 r2 e4 fun v H2 F2 hk2 le2 r => by cases r; exact ⟨_, rfl, q _ H2 F2 hk2 (le.trans le2) (.bl _)⟩
  obtain ⟨c, ec, hq⟩ := hq
  cases ec; cases eb
  exact ⟨a, oo, ha, hg, hq⟩
theorem st_dnin {ma mb : ME} (h : PT X o (L2.tB (tDNotIn (eB G ma) (eB G mb)))) : PT X o (eT G (mTst (mDnin ma mb))) := pt_imp h fun σ H Q ⟨F, M, ρ, S, hk, sl, b, S', e, q⟩ => by
  obtain ⟨d1, S1, d2, e1, e2, e3⟩ := mOp2_some (mTst_some e)
  obtain ⟨b, e4, hb⟩ := notOf_some e3
  refine two_bb hk sl e1 e2 fun x y H' F' hk' le r1 r2 => ?_
  cases hb
  obtain ⟨b, eb, a, oo, ha, hg, rfl, hq⟩ := r_din (Q := fun v H' => ∃ c, v = .bl c ∧ Q (!c) H') hk' r1 r2 e4 fun v H2 F2 hk2 le2 r => by cases r; exact ⟨_, rfl, q H2 F2 hk2 (le.trans le2)⟩
  obtain ⟨c, ec, hq⟩ := hq
  cases ec; cases eb
  exact ⟨a, oo, ha, hg, _, rfl, hq⟩
/-- d[k] -/
def getD' (x y : D) : Option D := match x with
  | .dT ds => match y with
    | .tup ks => (keysD ks).bind fun k => (ds.find? fun kv => decide (kv.1 = k)).map (·.2)
    | _ => none
  | .dK ds => (keyD y).bind fun k => (ds.find? fun kv => decide (kv.1 = k)).map (·.2)
  | _ => none
theorem find_repP {κ : Type} [DecidableEq κ] {K : PySem.W.Frag} {F : Hp} {vs : List (κ × V)} {ds : List (κ × D)} (r : RepP K F vs ds) (k : κ) {d : D} (h : (ds.find? fun kv => decide (kv.1 = k)).map (·.2) = some d) : ∃ v, valV vs k = some v ∧ Rep K F v d := by
  induction r with
  | nil => cases h
  | @cons p q _ _ hh _ ih =>
    by_cases e : q.1 = k
    · rw [List.find?_cons_of_pos (by simpa using e)] at h
      cases h
      exact ⟨_, valV_pos (hh.1.trans e), hh.2⟩
    · rw [List.find?_cons_of_neg (by simpa using e)] at h
      obtain ⟨v, ev, r⟩ := ih h
      exact ⟨v, by rw [valV_neg (by rw [hh.1]; exact e)]; exact ev, r⟩
theorem se_dget {ma mb : ME} (h : PE X o (tDGet (eB G ma) (eB G mb))) : PE X o (eE G (mOp2 getD' ma mb)) := pe_imp h fun σ H Q ⟨F, M, ρ, S, hk, sl, d, S', e, q⟩ => by
  obtain ⟨d1, S1, d2, e1, e2, e3⟩ := mOp2_some e
  refine two_bb hk sl e1 e2 fun x y H' F' hk' le r1 r2 => ?_
  unfold getD' at e3
  split at e3
  · split at e3
    · rename_i ks
      obtain ⟨k, ek, e3⟩ := Option.bind_eq_some_iff.mp e3
      obtain ⟨a, us, rfl, eo, r⟩ := r1.undT hk'
      obtain ⟨ka, kvs, rfl, eka, rk⟩ := (r2.rep hk' (fun z => nomatch z)).untup'
      have hkv := repL_keys rk ek
      subst hkv
      obtain ⟨v, ev, rv⟩ := find_repP r k e3
      exact ⟨a, v, rfl, by rw [← ev]; exact DGet.t eo (hk'.sub _ _ eka), q v H' F' hk' le rv⟩
    · cases e3
  · obtain ⟨k, ek, e3⟩ := Option.bind_eq_some_iff.mp e3
    obtain ⟨a, us, rfl, eo, r⟩ := r1.undK hk'
    have rr : Rep G.K F' y d2 := by
      unfold keyD at ek
      split at ek
      · exact r2.flat hk' rfl
      · exact r2.flat hk' rfl
      · cases ek
    have hkv := rep_key rr ek
    subst hkv
    obtain ⟨v, ev, rv⟩ := find_repP r k e3
    exact ⟨a, v, rfl, by rw [← ev]; exact (.inl ⟨_, _, eo, rfl, rfl⟩), q v H' F' hk' le rv⟩
  · cases e3
end
end Dv
namespace Dv
open PySem PySem.Spec
open PyProof.Rows L2

/-! ### zip of lists and tuples, in any mix -/
/-- the sequence at a: a list (true), a tuple (false) -/
def SqK (K : PySem.W.Frag) (H : Hp) (k : Bool) (a : Addr) (xs : List V) : Prop := match k with
  | true => SqL K H a xs
  | false => SqT K H a xs
def SeqIs (h : Heap) (k : Bool) (a : Addr) (its : Array Value) : Prop := match k with
  | true => h.IsList a its
  | false => h.IsTuple a its
def ItQ (h : Heap) (k : Bool) (it a : Addr) (i : Nat) : Prop := match k with
  | true => h.IsListIter it a i
  | false => h.IsTupleIter it a i
def itO (k : Bool) (a : Addr) : Obj := match k with
  | true => { cls := .type "list_iterator", data := .fields #[.ref a, .int 0 0] }
  | false => { cls := .type "tuple_iterator", data := .fields #[.ref a, .int 0 0] }
theorem seqIs_of {X : Cx} {pins : List (Addr × Obj)} {σ : L2.St} {H : Hp} {s : Shared} {k : Bool} {a : Addr} {xs : List V} (I : Inv X pins σ H s) (h : SqK X.K H k a xs) : ∃ its : List Value, Vals xs its ∧ SeqIs s.heap k a its.toArray := by
  cases k with
  | true => obtain ⟨its, r, p, _⟩ := I.list h; exact ⟨its, r, p.isList⟩
  | false => obtain ⟨its, r, p, _⟩ := I.tuple h; exact ⟨its, r, p⟩
theorem sqk_inj {X : Cx} {pins : List (Addr × Obj)} {σ : L2.St} {H : Hp} {s : Shared} {k : Bool} {a : Addr} {xs ys : List V} (I : Inv X pins σ H s) (h : SqK X.K H k a xs) (h' : SqK X.K H k a ys) : xs = ys := by
  cases k with
  | true => exact I.list_inj h h'
  | false => exact I.tuple_inj h h'
theorem drawsQ {P : Program} {w : World} {A : Around} (hh : A.handled = none) (k : Bool) (it a : Addr) (hne : a ≠ it) (its : Array Value) : Draws P w A it [it, a] its.size (fun i v => its[i]? = some v) (fun i h => ItQ h k it a i ∧ SeqIs h k a its) := by
  cases k with
  | true => exact Draws.list hh it a hne its
  | false => exact Draws.tuple hh it a hne its
theorem beginsQ (k : Bool) (a : Addr) (its : Array Value) : Begins (.ref a) (itO k a) fun h => SeqIs h k a its := by
  cases k with
  | true => exact begins_list a its
  | false => exact begins_tuple a its
theorem ItQ.obj {h : Heap} {k : Bool} {it a : Addr} {i : Nat} (x : ItQ h k it a i) : ∃ o, h.get? it = some o ∧ ∀ v, o.data ≠ .cell v := by
  cases k with
  | true => obtain ⟨o, e, c, d⟩ := x; exact ⟨o, e, fun v z => by rw [d] at z; cases z⟩
  | false => obtain ⟨o, e, c, d⟩ := x; exact ⟨o, e, fun v z => by rw [d] at z; cases z⟩
theorem ItQ.at {h h' : Heap} {k : Bool} {it a : Addr} {i : Nat} (x : ItQ h k it a i) (hk : ∀ o, h.get? it = some o → h'.get? it = some o) : ItQ h' k it a i := by
  cases k with
  | true => exact (show h.IsListIter it a i from x).at hk
  | false => exact (show h.IsTupleIter it a i from x).at hk
theorem ItQ.new {h' : Heap} {k : Bool} {it a : Addr} (e : h'.get? it = some (itO k a)) : ItQ h' k it a 0 := by
  cases k with
  | true => exact ⟨_, e, rfl, rfl⟩
  | false => exact ⟨_, e, rfl, rfl⟩
theorem SeqIs.lt {h : Heap} {k : Bool} {a : Addr} {its : Array Value} (x : SeqIs h k a its) : a < h.objs.size := by
  cases k with
  | true => obtain ⟨o, e, _⟩ := (show h.IsList a its from x); exact Heap.lt_size e
  | false => obtain ⟨o, e, _⟩ := (show h.IsTuple a its from x); exact Heap.lt_size e
theorem seq_ne {h : Heap} {k k' : Bool} {a b it : Addr} {its : Array Value} {i : Nat} (x : SeqIs h k a its) (y : ItQ h k' it b i) : a ≠ it := fun e => by
  subst e
  have h1 : ∃ o, h.get? a = some o ∧ (o.cls = .type "list" ∨ o.cls = .type "tuple") := by
    cases k with
    | true => obtain ⟨o, e, c, _⟩ := (show h.IsList a its from x); exact ⟨o, e, .inl c⟩
    | false => obtain ⟨o, e, c, _⟩ := (show h.IsTuple a its from x); exact ⟨o, e, .inr c⟩
  have h2 : ∃ o, h.get? a = some o ∧ (o.cls = .type "list_iterator" ∨ o.cls = .type "tuple_iterator") := by
    cases k' with
    | true => obtain ⟨o, e, c, _⟩ := (show h.IsListIter a b i from y); exact ⟨o, e, .inl c⟩
    | false => obtain ⟨o, e, c, _⟩ := (show h.IsTupleIter a b i from y); exact ⟨o, e, .inr c⟩
  obtain ⟨o, e1, c1⟩ := h1
  obtain ⟨o2, e2, c2⟩ := h2
  rw [e1] at e2
  cases e2
  rcases c1 with c1 | c1 <;> rcases c2 with c2 | c2 <;> rw [c1] at c2 <;> simp at c2
def ItzQ (K : PySem.W.Frag) (k1 k2 : Bool) (a b : Addr) : It :=
  ⟨fun i H => ∃ (xs ys : List V) (x y : V), SqK K H k1 a xs ∧ SqK K H k2 b ys ∧ xs[i]? = some x ∧ ys[i]? = some y,
    fun i H v H' => ∃ T x y, v = .ref T ∧ H T = none ∧ H' = upd H T (.tup [x, y]) ∧ (∀ xs, SqK K H k1 a xs → xs[i]? = some x) ∧ ∀ ys, SqK K H k2 b ys → ys[i]? = some y,
    fun i H => ∃ xs ys : List V, SqK K H k1 a xs ∧ SqK K H k2 b ys ∧ i = min xs.length ys.length⟩
theorem sub5 {z TI TO i1 i2 c : Addr} (m : c ∈ [z, TO, i1, i2]) : c ∈ [z, TI, TO, i1, i2] := by
  simp only [List.mem_cons, List.not_mem_nil, or_false] at m ⊢
  rcases m with m | m | m | m
  · exact .inl m
  · exact .inr (.inr (.inl m))
  · exact .inr (.inr (.inr (.inl m)))
  · exact .inr (.inr (.inr (.inr m)))
theorem turn_zipQ {P : Program} {w : World} {K : PySem.W.Frag} {elts : List Expr} {kk : Nat} {tpos : Pos} {k1 k2 : Bool} {a b z TI TO i1 i2 : Addr} (D : ZipSep2 z TI TO i1 i2 [i1, a] [i2, b]) :
    Turn P w K (.Tuple elts kk tpos) (ItzQ K k1 k2 a b) [z, TI, TO, i1, i2] z (fun i h => IsZip h z TI TO .none ∧ IsTupOf2 h TI (.ref i1) (.ref i2) ∧ (∃ a1 a2, IsTupOf2 h TO a1 a2) ∧ ItQ h k1 i1 a i ∧ ItQ h k2 i2 b i) where
  mem := by simp
  obj := fun i h st c hc => by
    ((obtain ⟨hz, hTI, ⟨x, y, hTO⟩, h1, h2⟩ := st); have e' : c = z ∨ c = TI ∨ c = TO ∨ c = i1 ∨ c = i2 := by simpa using hc); rcases e' with q | q | q | q | q
    · subst q; exact ⟨_, hz, fun v e => by cases e⟩
    · subst q; exact ⟨_, hTI, fun v e => by cases e⟩
    · subst q; exact ⟨_, hTO, fun v e => by cases e⟩
    · subst q; exact h1.obj
    · subst q; exact h2.obj
  keep := fun i h h' st k => by
    (obtain ⟨hz, hTI, ⟨x, y, hTO⟩, h1, h2⟩ := st); exact ⟨k z (by simp) _ hz, k TI (by simp) _ hTI, ⟨x, y, k TO (by simp) _ hTO⟩, h1.at fun o q => k i1 (by simp) o q, h2.at fun o q => k i2 (by simp) o q⟩
  item := by
    (intro X hP hw hK hc i pins s σ H E I hf st hg); subst hP hw hK
    (obtain ⟨hz, hTI, ⟨x0, y0, hTO⟩, h1, h2⟩ := st); obtain ⟨xs, ys, x, y, hqx, hqy, hx, hy⟩ := hg
    obtain ⟨its, rv, p⟩ := seqIs_of I hqx
    obtain ⟨its2, rv2, p2⟩ := seqIs_of I hqy
    (obtain ⟨u, hu, ru⟩ := rv.get hx); obtain ⟨u2, hu2, ru2⟩ := rv2.get hy
    have hd := I.ok.hd hc
    have ha1 : a ≠ i1 := seq_ne p h1
    have hb2 : b ≠ i2 := seq_ne p2 h2
    have hi1 : i < its.toArray.size := by simpa using (List.getElem?_eq_some_iff.mp hu).1
    have hi2 : i < its2.toArray.size := by simpa using (List.getElem?_eq_some_iff.mp hu2).1
    have W := WalksT.zipD2 (A := X.A) D (drawsQ (P := X.prog) (w := X.w) (A := X.A.in1) hd k1 i1 a ha1 its.toArray) (drawsQ (A := X.A.in1) hd k2 i2 b hb2 its2.toArray)
    refine W.item i s _ E (by omega) ⟨hz, hTI, ⟨x0, y0, hTO⟩, ⟨h1, p⟩, h2, p2⟩ fun T vals h' tk hP hT htup hMid hk => ⟨.ref T, rfl, ?_⟩
    refine W.go elts kk tpos i T { s with heap := h', toks := tk } _ E hMid fun h'' hSt hk2 => ?_
    obtain ⟨x1, x2, e1, e2, rfl⟩ := hP
    have e1' : u = x1 := by rw [List.getElem?_toArray] at e1; rw [hu] at e1; exact Option.some.inj e1
    have e2' : u2 = x2 := by rw [List.getElem?_toArray] at e2; rw [hu2] at e2; exact Option.some.inj e2
    subst e1' e2'
    obtain ⟨hz', hTI', hTO', ⟨h1', _⟩, h2', _⟩ := hSt
    have apT := W.apart i T h' hMid
    have hT2 : h''.IsTuple T #[u, u2] := htup.at fun o e => hk2 T o apT e
    have new : ObjOk X.prog X.w (upd H T (.tup [x, y])) h'' T (.tup [x, y]) := ⟨by show 2 ≤ sizeLine; decide, [u, u2], .cons ru (.cons ru2 .nil), hT2⟩
    have I1 : Inv X pins σ (upd H T (.tup [x, y])) { s with heap := h'', toks := tk } :=
      I.turnedNew (t' := tk) (h' := h'') (ch := [z, TI, TO, i1, i2]) (fun c o hb q => hk2 c o (fun m => hb (sub5 m)) (hk c o (fun m => hb (sub5 m)) q)) hf hT new
    exact ⟨.ref T, _, I1, rfl, ⟨T, x, y, rfl, I.hok.fresh hT, rfl, fun l hl => by rw [sqk_inj I hl hqx]; exact hx, fun l hl => by rw [sqk_inj I hl hqy]; exact hy⟩, ⟨hz', hTI', hTO', h1', h2'⟩, fun c hcm => by
      have hlt : c < s.heap.objs.size := by
        (have e' : c = z ∨ c = TI ∨ c = TO ∨ c = i1 ∨ c = i2 := by simpa using hcm); rcases e' with q | q | q | q | q
        · rw [q]; exact Heap.lt_size hz
        · (rw [q]; exact Heap.lt_size hTI)
        · (rw [q]; exact Heap.lt_size hTO)
        · rw [q]; obtain ⟨_, e1, _⟩ := h1.obj; exact Heap.lt_size e1
        · rw [q]; obtain ⟨_, e2, _⟩ := h2.obj; exact Heap.lt_size e2
      rw [upd_ne (Nat.ne_of_lt (Nat.lt_of_lt_of_le hlt hT))]
      exact (hf c hcm).1⟩
  done := by
    (intro X hP hw hK hc i pins s σ H E I hf st hg); subst hP hw hK
    obtain ⟨hz, hTI, hTO, h1, h2⟩ := st
    obtain ⟨xs, ys, hqx, hqy, hx⟩ := hg
    obtain ⟨its, rv, p⟩ := seqIs_of I hqx
    obtain ⟨its2, rv2, p2⟩ := seqIs_of I hqy
    have hd := I.ok.hd hc
    have W := WalksT.zipD2 (A := X.A) D (drawsQ (P := X.prog) (w := X.w) (A := X.A.in1) hd k1 i1 a (seq_ne p h1) its.toArray) (drawsQ (A := X.A.in1) hd k2 i2 b (seq_ne p2 h2) its2.toArray)
    have l1 := rv.length
    have l2 := rv2.length
    have hi : i = min its.toArray.size its2.toArray.size := by simp only [List.size_toArray]; omega
    subst hi
    exact W.done s _ E ⟨hz, hTI, hTO, ⟨h1, p⟩, h2, p2⟩ fun h' tk hk => ⟨rfl, I.turnedL (t' := tk) (ch := [z, TI, TO, i1, i2]) (fun c o hb q => hk c o (fun m => hb (sub5 m)) q) hf⟩
  self := fun _ _ _ _ _ st hq => wpAny_pyIter_zip st.1 hq
def iZipQ (K : PySem.W.Frag) (ta : TA) : TI := fun σ H R => ta σ H fun vs H1 => ∃ k1 k2 a b xs ys, vs = [.ref a, .ref b] ∧ SqK K H1 k1 a xs ∧ SqK K H1 k2 b ys ∧ R (ItzQ K k1 k2 a b) H1
theorem pi_zip2 {X : Cx} {e e2 : Expr} {ta : TA} {p pos tpos : Pos} {elts : List Expr} {kk : Nat} (hg : Gl X "zip") (hm : X.mg "zip" = none) (ha : PA X [e, e2] ta)
    (hs : starEach [e, e2] X.env = (false, eval e X.env) :: starEach [e2] X.env := by rfl)
    (hpl : (backTo pos (starEach [e2] X.env)).any (·.1) = false := by rfl) :
    PI X (.Tuple elts kk tpos) (.Call (.Name "zip" p) [e, e2] [] pos) (iZipQ X.K ta) := by
  (refine ⟨fun pins s σ H R I h => ?_⟩); refine Call_ (ld_blt I hg hm PyProof.Rows.boot_zip (PyProof.Rows.callWith_type1 (thn (ha.run pos pins s σ H _ I h) fun us s1 ⟨vs, H1, I1, r1, q1⟩ => ?_) hs hpl))
  obtain ⟨k1, k2, a, b, xs, ys, ex, hqx, hqy, q⟩ := q1
  subst ex
  cases r1 with
  | cons r rr =>
    cases rr with
    | cons r' rr =>
      cases rr
      cases r
      cases r'
      obtain ⟨its, rv, p1⟩ := seqIs_of I1 hqx
      obtain ⟨its2, rv2, p2⟩ := seqIs_of I1 hqy
      (have la : a < s1.heap.objs.size := p1.lt); have lb : b < s1.heap.objs.size := p2.lt
      refine zip_begins2 (beginsQ k1 a its.toArray) (beginsQ k2 b its2.toArray) p1 p2 fun h' hz hTI hTO h1 h2 hsz hk => wpAny_pyIter_zip hz ?_
      (have I2 : Inv X pins σ H1 { s1 with heap := h' } := I1.kept (t' := s1.toks) hk); have D := zip_sep2 (N := s1.heap.objs.size) (fp1 := [a]) (fp2 := [b]) (fun c hc => by rw [List.mem_singleton.mp hc]; exact la) (fun c hc => by rw [List.mem_singleton.mp hc]; exact lb)
      refine ⟨s1.heap.objs.size + 4, [s1.heap.objs.size + 4, s1.heap.objs.size + 2, s1.heap.objs.size + 3, s1.heap.objs.size, s1.heap.objs.size + 1], _, _, H1, rfl, I2, turn_zipQ D, ⟨hz, hTI, ⟨_, _, hTO⟩, ItQ.new h1, ItQ.new h2⟩, fun c hcm => ?_, q⟩
      (have e' : c = s1.heap.objs.size + 4 ∨ c = s1.heap.objs.size + 2 ∨ c = s1.heap.objs.size + 3 ∨ c = s1.heap.objs.size ∨ c = s1.heap.objs.size + 1 := by simpa using hcm); have hle : s1.heap.objs.size ≤ c := by
        (rcases e' with z | z | z | z | z)
        · (rw [z]; exact Nat.le_add_right _ _)
        · (rw [z]; exact Nat.le_add_right _ _)
        · (rw [z]; exact Nat.le_add_right _ _)
        · rw [z]; exact Nat.le_refl _
        · (rw [z]; exact Nat.le_add_right _ _)
      (exact I1.fpOk hle (I1.hok.fresh hle))
section
variable {G : Gh} {X : Cx} {e a b c o : Expr} {es : List Expr} {pos p2 : Pos} {st : Stmt}
theorem rep_sqk {H F : Hp} {v : V} {d : D} {ds : List D} (le : Le F H) (r : Rep G.K F v d) (e : itemsD d = some ds) : ∃ k a vs, v = .ref a ∧ (∀ H', Le F H' → SqK G.K H' k a vs) ∧ RepL G.K F vs ds ∧ ds.length ≤ sizeLine := by
  unfold itemsD at e
  split at e
  · cases e
    have hz := r.size (.inl rfl)
    obtain ⟨a, vs, rfl, q, r⟩ := r.untup (d := .tup _) rfl
    exact ⟨false, a, vs, rfl, fun H' l => SqT_mono l q, r, hz⟩
  · cases e
    have hz := r.size (.inl rfl)
    obtain ⟨a, vs, rfl, q, r⟩ := r.untup (d := .kt _) rfl
    exact ⟨false, a, vs, rfl, fun H' l => SqT_mono l q, r, hz⟩
  · cases e
    have hz := r.size (.inr rfl)
    obtain ⟨a, vs, rfl, q, r⟩ := r.unlst
    exact ⟨true, a, vs, rfl, fun H' l => .of (l _ _ q), r, hz⟩
  · cases e
def mZip2 (m : MA) : MA := fun ρ S => (m ρ S).bind fun p => match p.1 with
  | [x, y] => (itemsD x).bind fun xs => (itemsD y).map fun ys => (List.zipWith (fun a b => .tup [a, b]) xs ys, p.2)
  | _ => none
theorem zipWith_get {α β γ : Type} {f : α → β → γ} {xs : List α} {ys : List β} {i : Nat} {x : α} {y : β} (h : xs[i]? = some x) (h' : ys[i]? = some y) : (List.zipWith f xs ys)[i]? = some (f x y) := by
  rw [List.getElem?_zipWith, h, h']
theorem si_zip2 {tg : Expr} {m : MA} (hK : G.K = X.K) (h : PI X tg e (iZipQ G.K (eA G m))) : PI X tg e (iI G (mZip2 m)) := pi_imp h fun σ H R ⟨F, M, ρ, S, hk, sl, ds, S', e, q⟩ => by
  obtain ⟨⟨d1, S1⟩, e1, e2⟩ := Option.bind_eq_some_iff.mp e
  split at e2
  · rename_i x y ed
    obtain ⟨xs, ex, e2⟩ := Option.bind_eq_some_iff.mp e2
    obtain ⟨ys, ey, e2⟩ := Option.map_eq_some_iff.mp e2
    cases e2
    have ed : d1 = [x, y] := ed
    subst ed
    refine ⟨F, M, ρ, S, hk, sl, _, _, e1, fun vs H' F' hk' le r => ?_⟩
    cases r with
    | cons r1 r =>
      cases r with
      | cons r2 r =>
        cases r
        obtain ⟨k1, a, us, rfl, s1, rl1, z1⟩ := rep_sqk hk'.sub r1 ex
        obtain ⟨k2, b, us', rfl, s2, rl2, z2⟩ := rep_sqk hk'.sub r2 ey
        have l1 := Paired.length rl1
        have l2 := Paired.length rl2
        refine ⟨k1, k2, a, b, us, us', rfl, s1 _ hk'.sub, s2 _ hk'.sub, q _ _ _ hk' le ⟨?_, fun i H hi l => ?_, fun H l => ?_, fun i H v H' F2 M2 S2 hi hk2 l2' y => ?_⟩⟩
        · rw [List.length_zipWith]; omega
        · rw [List.length_zipWith] at hi
          exact ⟨us, us', us[i]'(by omega), us'[i]'(by omega), s1 _ l, s2 _ l, List.getElem?_eq_getElem _, List.getElem?_eq_getElem _⟩
        · exact ⟨us, us', s1 _ l, s2 _ l, by rw [List.length_zipWith]; omega⟩
        · obtain ⟨T, x, y, rfl, hT, rfl, hx, hy⟩ := y
          have gx := hx _ (s1 _ (l2'.trans hk2.sub))
          have gy := hy _ (s2 _ (l2'.trans hk2.sub))
          obtain ⟨dx, edx, rx⟩ := paired_get'' rl1 gx
          obtain ⟨dy, edy, ry⟩ := paired_get'' rl2 gy
          have lu := le_upd (o := .tup [x, y]) (hk2.fnone hT)
          exact ⟨_, _, hk2.laid hT, lu, zipWith_get edx edy, .mkTup upd_same (show 2 ≤ sizeLine by decide) (.cons (rx.mono (l2'.trans lu)) (.cons (ry.mono (l2'.trans lu)) .nil))⟩
  · cases e2
/-- enumerate(a list) -/
def mEnum (m : MA) : MA := fun ρ S => (m ρ S).bind fun p => match p.1 with
  | [.lst xs] => some (xs.mapIdx fun i d => .tup [.int (i : Nat), d], p.2)
  | _ => none
theorem si_enum {tg : Expr} {m : MA} (h : PI X tg e (iEnum G.K (eA G m))) : PI X tg e (iI G (mEnum m)) := pi_imp h fun σ H R ⟨F, M, ρ, S, hk, sl, ds, S', e, q⟩ => by
  obtain ⟨⟨d1, S1⟩, e1, e2⟩ := Option.bind_eq_some_iff.mp e
  split at e2
  · rename_i xs ed
    cases e2
    have ed : d1 = [.lst xs] := ed
    subst ed
    refine ⟨F, M, ρ, S, hk, sl, _, _, e1, fun vs H' F' hk' le r => ?_⟩
    cases r with
    | cons r1 r =>
      cases r
      have z1 := r1.size (.inr rfl)
      obtain ⟨a, us, rfl, ea, rl⟩ := r1.unlst
      have l1 := Paired.length rl
      refine ⟨a, us, rfl, .of (hk'.sub _ _ ea), q _ _ _ hk' le (walkD_of walk_enum (by rw [List.length_mapIdx]; exact z1) (by rw [List.length_mapIdx]; exact l1) (fun H l => .of (l _ _ ea)) fun i H v H' F2 M2 S2 hi hk2 l2 y => ?_)⟩
      obtain ⟨T, x, y, rfl, hT, rfl, hx, hy⟩ := y
      cases hx
      obtain ⟨dy, edy, ry⟩ := paired_get'' rl hy
      have lu := le_upd (o := .tup [.int (i : Nat), y]) (hk2.fnone hT)
      exact ⟨_, .tup [.int (i : Nat), dy], hk2.laid hT, lu, by rw [List.getElem?_mapIdx, edy]; rfl, .mkTup upd_same (Nat.le_trans (Nat.le_refl 2) (by decide)) (.cons (.int _) (.cons (ry.mono (l2.trans lu)) .nil))⟩
  · cases e2
end
end Dv
namespace Dv
open PySem PySem.Spec
open PyProof.Rows L2
section
variable {G : Gh} {X : Cx} {e a b c o : Expr} {es : List Expr} {pos p2 : Pos} {st : Stmt}
/-! ### a statement of an expression alone; a comprehension stored -/
def sExpr (m : ME) : MS := fun ρ S => (m ρ S).map fun p => (.nx, ρ, p.2)
theorem ss_expr {m : ME} (h : PS X st (tDrop (eE G m))) : PS X st (sS G (sExpr m)) := ps_imp h fun D σ H ⟨F, M, ρ, S, hk, sl, fl, ρ', S', e, q⟩ => by
  obtain ⟨⟨d, S1⟩, e1, e⟩ := Option.map_eq_some_iff.mp e
  cases e
  exact ⟨F, M, ρ, S, hk, sl, d, S1, e1, fun v H' F' hk' le r => q H' F' M hk' le σ (sl.mono le)⟩
section
variable {i : Nat} {y : Str} {py spos : Pos} {tg elt iter : Expr} {ifs : List Expr} {scope : Scope} {own : List (Str × Nat)} {mi : MA} {is : List Nat} {g : MG} {t : MT} {m : ME}
theorem ss_setLcF (hc : X.calm = true) (hN : X.N.Nodup) (hi : PI X tg iter (iI G mi)) (ok : BlkOk X.N X.env.scope scope own)
    (hg : ∀ (s : Shared) (H : Hp) (C : Addr) (cl : List (Str × Addr)) (fp : List Addr), PG (X.blk s H scope (compEnvC scope cl C X.env) fp) tg (eG G is g)) (ht : ∀ (s : Shared) (H : Hp) (C : Addr) (cl : List (Str × Addr)) (fp : List Addr), PTs (X.blk s H scope (compEnvC scope cl C X.env) fp) ifs (eT G t))
    (he : ∀ (s : Shared) (H : Hp) (C : Addr) (cl : List (Str × Addr)) (fp : List Addr), PE (X.blk s H scope (compEnvC scope cl C X.env) fp) elt (eE G m)) (hs : ∀ i ∈ is, i ∈ own.map (·.2)) (hy : X.N[i]? = some y := by rfl) (hyl : X.env.scope.names.lookup y = some .local := by rfl)
    (hsw : swapsWith (.ListComp elt [⟨tg, iter, ifs, 0⟩] scope pos) (some (.Name y py)) spos.line X.env = pure true := by exact sw_true rfl rfl rfl (by decide +kernel)) (hf : ∀ x, foldedSetIterable iter X.env x = pure x := by intro _; rfl) :
    PS X (.Assign [.Name y py] (.ListComp elt [⟨tg, iter, ifs, 0⟩] scope pos) spos) (sS G (sSetF i (mLc mi (own.map (·.2)) g t m))) :=
  ps_imp (ps_setLc hc hN hy hyl hsw (sc_of hi) ok hg ht he hf) fun D σ H h => lc_imp hs σ H _ (setF_imp D σ H h)
theorem ss_setLc (hc : X.calm = true) (hN : X.N.Nodup) (hi : PI X tg iter (iI G mi)) (ok : BlkOk X.N X.env.scope scope own)
    (hg : ∀ (s : Shared) (H : Hp) (C : Addr) (cl : List (Str × Addr)) (fp : List Addr), PG (X.blk s H scope (compEnvC scope cl C X.env) fp) tg (eG G is g)) (ht : ∀ (s : Shared) (H : Hp) (C : Addr) (cl : List (Str × Addr)) (fp : List Addr), PTs (X.blk s H scope (compEnvC scope cl C X.env) fp) ifs (eT G t))
    (he : ∀ (s : Shared) (H : Hp) (C : Addr) (cl : List (Str × Addr)) (fp : List Addr), PE (X.blk s H scope (compEnvC scope cl C X.env) fp) elt (eE G m)) (hs : ∀ i ∈ is, i ∈ own.map (·.2)) (hy : X.N[i]? = some y := by rfl) (hyl : X.env.scope.names.lookup y = some .local := by rfl)
    (hsw : swapsWith (.ListComp elt [⟨tg, iter, ifs, 0⟩] scope pos) (some (.Name y py)) spos.line X.env = pure true := by exact sw_true rfl rfl rfl (by decide +kernel)) (hf : ∀ x, foldedSetIterable iter X.env x = pure x := by intro _; rfl) :
    PS X (.Assign [.Name y py] (.ListComp elt [⟨tg, iter, ifs, 0⟩] scope pos) spos) (sS G (sSet i (mLc mi (own.map (·.2)) g t m))) :=
  ps_imp (ps_setLc hc hN hy hyl hsw (sc_of hi) ok hg ht he hf) fun D σ H h => lc_imp hs σ H _ (by
    obtain ⟨F, M, ρ, S, hk, sl, d, S', e, q⟩ := set_imp D σ H h
    exact ⟨F, M, ρ, S, hk, sl, d, S', e, fun a H' F' hk' n le => by
      obtain ⟨o, eo, nf, ro, hk2⟩ := hk'.freeze updO_same
      exact q _ H' _ (heap_unown hk2 n) (le.trans (le_upd nf)) ((ro.mono (le_upd nf)).rep upd_same)⟩)
end
/-- xs[::-1] of a list -/
def revL : D → Option D
  | .lst ds => some (.lst ds.reverse)
  | _ => none
theorem sf_revL {m : ME} (h : PE X o (tRevL G.K (eB G m))) : PE X o (eF G (mOp1 revL m)) := pe_imp h fun σ H Q ⟨F, M, ρ, S, hk, sl, d, S', e, q⟩ => by
  obtain ⟨d1, e1, e2⟩ := mOp1_some e
  refine ⟨F, M, ρ, S, hk, sl, d1, S', e1, fun v H' F' hk' le r => ?_⟩
  unfold revL at e2
  split at e2
  · cases e2
    have r0 := r
    obtain ⟨a, us, rfl, ea, rl⟩ := r.unlst hk'
    exact ⟨a, us, rfl, .of ea, fun p hp => q p _ F' (hk'.laidO hp (.lst (by rw [List.length_reverse]; exact r0.size hk' (.inr rfl)) (paired_rev rl))) (hk'.mnone hp) le⟩
  · cases e2

/-! ### targets that change an owned list -/
abbrev MH := D → Lo → Sg → Option (Lo × Sg)
abbrev MHs := List D → Lo → Sg → Option (Lo × Sg)
def eH (G : Gh) (h : MH) : TG := fun v σ H Q => ∃ F M ρ S d, HeapOk G H F M S ∧ Slots G.K σ ρ F M ∧ Rep G.K F v d ∧ ∃ ρ' S', h d ρ S = some (ρ', S') ∧
  ∀ σ' H' F' M', HeapOk G H' F' M' S' → Le F F' → Slots G.K σ' ρ' F' M' → Q σ' H'
def eHs (G : Gh) (h : MHs) : TGs := fun vs σ H Q => ∃ F M ρ S ds, HeapOk G H F M S ∧ Slots G.K σ ρ F M ∧ RepL G.K F vs ds ∧ ∃ ρ' S', h ds ρ S = some (ρ', S') ∧
  ∀ σ' H' F' M', HeapOk G H' F' M' S' → Le F F' → Slots G.K σ' ρ' F' M' → Q σ' H'
def hOf (g : MG) : MH := fun d ρ S => (g d ρ).map fun ρ' => (ρ', S)
theorem sh_of {is : List Nat} {g : MG} (h : PG X e (eG G is g)) : PG X e (eH G (hOf g)) := pg_imp h fun v σ H Q ⟨F, M, ρ, S, d, hk, sl, r, ρ', S', e, q⟩ => by
  obtain ⟨ρ1, e1, e⟩ := Option.map_eq_some_iff.mp e
  cases e
  exact ⟨F, M, ρ, S, d, hk, sl, r, _, e1, fun σ' sl' _ _ => q σ' H F M hk (Same.refl F) sl'⟩
def hIx (i : Nat) (mk : ME) : MH := fun d ρ S => match ρ[i]? with
  | some (some (.own (.lst ds))) => (mk ρ S).bind fun q => match q.1 with
    | .int k => (ixN ds.length k).map fun j => (ρ.set i (some (.own (.lst (ds.set j d)))), q.2)
    | _ => none
  | _ => none
theorem sh_ix {i : Nat} {mk : ME} (h : PG X e (gSub (tVar i) (eE G mk) rSetL)) : PG X e (eH G (hIx i mk)) := pg_imp h fun v σ H Q ⟨F, M, ρ, S, d, hk, sl, r, ρ', S', e, q⟩ => by
  unfold hIx at e
  split at e
  · rename_i ds hi
    obtain ⟨⟨dk, S2⟩, e2, e⟩ := Option.bind_eq_some_iff.mp e
    cases dk with
    | int k =>
      obtain ⟨j, ej, e⟩ := Option.map_eq_some_iff.mp e
      cases e
      obtain ⟨u, ev, x, rfl, em⟩ := sl.at_ _ _ hi
      refine ⟨_, ev, F, M, ρ, S, hk, sl, _, S2, e2, fun w H2 F2 hk2 le2 rw' => ?_⟩
      cases rw'
      obtain ⟨_, _, oo, eo, ro⟩ := hk2.own _ _ _ em
      cases ro with
      | @lst us _ hz rl =>
        have hl := Paired.length rl
        exact ⟨x, us, k, j, rfl, rfl, eo, by rw [hl]; exact ej, q σ _ F2 _ (hk2.write (w' := some i) (o := .lst (us.set j v)) (d' := .lst (ds.set j d)) em (.lst (by rw [List.length_set]; exact hz) (paired_set (r.mono le2) j rl))) le2 (slots_write (sl.mono le2) hi ev em)⟩
    | _ => cases e
  · cases e
def hNl : MHs := fun ds ρ S => match ds with | [] => some (ρ, S) | _ => none
def hCns (g : MH) (gs : MHs) : MHs := fun ds ρ S => match ds with | d :: r => (g d ρ S).bind fun p => gs r p.1 p.2 | [] => none
def hTp (n : Nat) (gs : MHs) : MH := fun d ρ S => match d.asT with | some ds => if ds.length = n then gs ds ρ S else none | none => none
theorem shs_nil : PGs X [] (eHs G hNl) := pgs_imp pgs_nil fun v σ H Q ⟨F, M, ρ, S, ds, hk, sl, r, ρ', S', e, q⟩ => by
  cases r with
  | nil => cases e; exact ⟨rfl, q σ H F M hk (Same.refl F) sl⟩
  | cons _ _ => cases e
theorem shs_cons {g : MH} {gs : MHs} (h1 : PG X e (eH G g)) (h2 : PGs X es (eHs G gs)) (hs : (assignEach (e :: es) X.env).map (·.2) = assign e X.env :: (assignEach es X.env).map (·.2) := by rfl) : PGs X (e :: es) (eHs G (hCns g gs)) :=
  pgs_imp (pgs_cons h1 h2 hs) fun v σ H Q ⟨F, M, ρ, S, ds, hk, sl, r, ρ', S', e, q⟩ => by
    cases r with
    | nil => cases e
    | cons r rs =>
      obtain ⟨⟨ρ1, S1⟩, e1, e2⟩ := Option.bind_eq_some_iff.mp e
      exact ⟨_, _, rfl, F, M, ρ, S, _, hk, sl, r, ρ1, S1, e1, fun σ1 H1 F1 M1 hk1 le1 sl1 => ⟨F1, M1, ρ1, S1, _, hk1, sl1, RepL.mono le1 rs, ρ', S', e2, fun σ2 H2 F2 M2 hk2 le2 sl2 => q σ2 H2 F2 M2 hk2 (le1.trans le2) sl2⟩⟩
theorem sh_tup {gs : MHs} {k n : Nat} (hK : G.K = X.K) (hc : X.calm = true) (h : PGs X es (eHs G gs)) (hn : (assignEach es X.env).length = n := by rfl) (hst : (assignEach es X.env).findIdx? (·.1) = none := by rfl) : PG X (.Tuple es k pos) (eH G (hTp n gs)) :=
  pg_imp (hK ▸ pg_tup hc h hn hst : PG X (.Tuple es k pos) (gTup G.K n (eHs G gs))) fun v σ H Q ⟨F, M, ρ, S, d, hk, sl, r, ρ', S', e, q⟩ => by
    unfold hTp at e
    split at e
    · rename_i ds ed
      split at e
      · rename_i hz
        obtain ⟨a, vs, rfl, hq, rl⟩ := r.untup ed
        exact ⟨a, vs, rfl, SqT_mono hk.sub hq, by rw [Paired.length rl]; exact hz, F, M, ρ, S, ds, hk, sl, rl, ρ', S', e, q⟩
      · cases e
    · cases e
def sAsgH (m : ME) (g : MH) : MS := fun ρ S => (m ρ S).bind fun p => (g p.1 ρ p.2).map fun q => (.nx, q.1, q.2)
theorem ss_asgH {g : MH} {m : ME} (h : PS X st (tAsg (eE G m) (eH G g))) : PS X st (sS G (sAsgH m g)) := ps_imp h fun D σ H ⟨F, M, ρ, S, hk, sl, fl, ρ', S', e, q⟩ => by
  obtain ⟨⟨d, S1⟩, e1, e⟩ := Option.bind_eq_some_iff.mp e
  obtain ⟨⟨ρ1, S2⟩, e2, e⟩ := Option.map_eq_some_iff.mp e
  cases e
  exact ⟨F, M, ρ, S, hk, sl, d, S1, e1, fun v H' F' hk' le r => ⟨F', M, ρ, S1, d, hk', sl.mono le, r, _, _, e2, fun σ' H2 F2 M2 hk2 le2 sl' => q H2 F2 M2 hk2 (le.trans le2) σ' sl'⟩⟩

/-! ### defs as values -/
theorem se_fnv {x : Str} {f : Addr} (hg : Gl X x) (hm : X.mg x = some (.ref f)) (hd : (x == ("__debug__" : Str)) = false := by decide) : PE X (.Name x pos) (eE G (mPure (.fn f))) := se_const (v := .ref f) (pe_glob hg hm rfl hd) fun _ => .fn f
def mCallL (i : Nat) (f : Addr) (fn : List D → Option D) (m : MA) : ME := fun ρ S => match ρ[i]? with
  | some (some (.imm (.fn a))) => if a = f then mCall fn m ρ S else none
  | _ => none
theorem se_callL {i : Nat} {f : Addr} {fn : List D → Option D} {m : MA} {E : XK} (h : PE X o (tCallL i f (spP G.K fn) [] E (eA G m))) : PE X o (eE G (mCallL i f fn m)) := pe_imp h fun σ H Q ⟨F, M, ρ, S, hk, sl, d, S', e, q⟩ => by
  unfold mCallL at e
  split at e
  · rename_i a hi
    split at e
    · rename_i ha
      subst ha
      obtain ⟨v, ev, r⟩ := sl.at_ _ _ hi
      cases r
      exact ⟨ev, call_imp (E := E) σ H Q ⟨F, M, ρ, S, hk, sl, d, S', e, q⟩⟩
    · cases e
  · cases e

/-! ### the draws' stores -/
def sStrest (i : Nat) (m : ME) : MS := fun ρ S => (m ρ S).bind fun p => match p.1, ρ[i]?, p.2 with
  | .int n, some (some (.imm (.rng x))), some r => if x = r.at_ then some (.nx, ρ, some { r with rest := n }) else none
  | _, _, _ => none
def sStturn (i : Nat) (m : ME) : MS := fun ρ S => (m ρ S).bind fun p => match p.1, ρ[i]?, p.2 with
  | .int n, some (some (.imm (.rng x))), some r => if x = r.at_ then some (.nx, ρ, some { r with turn := n }) else none
  | _, _, _ => none
theorem heap_rng {H F : Hp} {M : OMap} {r r' : Rng} (hk : HeapOk G H F M (some r)) (e1 : r'.at_ = r.at_) (e2 : r'.gA = r.gA) (e3 : r'.cA = r.cA) (e4 : r'.great = r.great) (e5 : r'.cells = r.cells) : HeapOk G (upd H r.at_ (.dK (rngDict r'))) F M (some r') := by
  obtain ⟨ra, m1, m2, o1, o2⟩ := hk.rng r rfl
  have hne : r.gA ≠ r.at_ := ne_of ra.hg ra.hat (fun z => nomatch z)
  refine ⟨fun a o e => ?_, fun a w d m => ?_, fun a o e nr => ?_, fun a e => ?_, hk.f0, hk.new, fun r2 e => ?_⟩
  · rw [upd_ne (ne_of_none e ra.fa)]; exact hk.sub _ _ e
  · obtain ⟨f1, f2, o, e, ro⟩ := hk.own _ _ _ m
    exact ⟨f1, f2, o, by rw [upd_ne (fun z => by rw [z, m1] at m; cases m)]; exact e, ro⟩
  · rw [upd_ne (fun z => by
      subst z
      rcases o1 with o1 | o1
      · exact nr o1
      · rw [o1] at e; cases e)]
    exact hk.ent _ _ e nr
  · by_cases hb : a = r.at_
    · subst hb; rw [upd_same] at e; cases e
    · rw [upd_ne hb] at e; exact hk.trk _ e
  · cases e
    refine ⟨⟨by rw [e1]; exact upd_same, by rw [e2, upd_ne hne, e4]; exact ra.hg, by rw [e3, e5]; exact ra.hc, by rw [e5]; exact ra.hz, by rw [e1]; exact ra.fa, by rw [e2]; exact ra.fg⟩, by rw [e1]; exact m1, by rw [e2]; exact m2, by rw [e1]; exact o1, by rw [e2]; exact o2⟩
theorem ss_strest {i : Nat} {m : ME} (h : PS X st (sDPut (tVar i) (tC (.str "rest")) (eE G m))) : PS X st (sS G (sStrest i m)) := ps_imp h fun D σ H ⟨F, M, ρ, S, hk, sl, fl, ρ', S', e, q⟩ => by
  obtain ⟨⟨d, S1⟩, e1, e⟩ := Option.bind_eq_some_iff.mp e
  split at e
  · rename_i n x r ed hi es
    split at e
    · rename_i hx
      cases e
      have ed : d = .int n := ed
      have es : S1 = some r := es
      subst ed es hx
      refine ⟨F, M, ρ, S, hk, sl, _, _, e1, fun v H1 F1 hk1 le1 rv => ?_⟩
      cases rv
      obtain ⟨ra, _⟩ := hk1.rng r rfl
      refine ⟨_, rng_slot (r := r) hk sl hi, r.at_, _, rfl, DPut.k (k := Sum.inr "rest") ra.hat (show 4 < sizeLine by decide), ?_⟩
      exact q _ F1 M (heap_rng (r' := { r with rest := n }) hk1 rfl rfl rfl rfl rfl) le1 σ (sl.mono le1)
    · cases e
  · cases e
theorem ss_stturn {i : Nat} {m : ME} (h : PS X st (sDPut (tVar i) (tC (.str "turn")) (eE G m))) : PS X st (sS G (sStturn i m)) := ps_imp h fun D σ H ⟨F, M, ρ, S, hk, sl, fl, ρ', S', e, q⟩ => by
  obtain ⟨⟨d, S1⟩, e1, e⟩ := Option.bind_eq_some_iff.mp e
  split at e
  · rename_i n x r ed hi es
    split at e
    · rename_i hx
      cases e
      have ed : d = .int n := ed
      have es : S1 = some r := es
      subst ed es hx
      refine ⟨F, M, ρ, S, hk, sl, _, _, e1, fun v H1 F1 hk1 le1 rv => ?_⟩
      cases rv
      obtain ⟨ra, _⟩ := hk1.rng r rfl
      refine ⟨_, rng_slot (r := r) hk sl hi, r.at_, _, rfl, DPut.k (k := Sum.inr "turn") ra.hat (show 4 < sizeLine by decide), ?_⟩
      exact q _ F1 M (heap_rng (r' := { r with turn := n }) hk1 rfl rfl rfl rfl rfl) le1 σ (sl.mono le1)
    · cases e
  · cases e
/-- state["great"].pop(0) -/
def mStP (i : Nat) : ME := fun ρ S => match ρ[i]?, S with
  | some (some (.imm (.rng x))), some r => if x = r.at_ then (match r.great with
    | g :: rest => some (.int g, some { r with great := rest })
    | [] => none) else none
  | _, _ => none
theorem se_stP {i : Nat} (h : PE X o (tBM G.K "list" rPopAt (tDGet (tVar i) (tC (.str "great"))) (tCons (tC (.int 0)) tNil))) : PE X o (eE G (mStP i)) := pe_imp h fun σ H Q ⟨F, M, ρ, S, hk, sl, d, S', e, q⟩ => by
  unfold mStP at e
  split at e
  · rename_i x r hi
    split at e
    · rename_i hx
      split at e
      · rename_i g rest eg
        cases e
        subst hx
        obtain ⟨ra, m1, m2, o1, o2⟩ := hk.rng r rfl
        have hne : r.at_ ≠ r.gA := ne_of ra.hat ra.hg (fun z => nomatch z)
        refine ⟨_, rng_slot (r := r) hk sl hi, r.at_, .ref r.gA, rfl, DGet.k (k := Sum.inr "great") ra.hat, .inl ⟨rfl, _, .of ra.hg⟩, r.gA, _, 0, 0, .int g, rfl, rfl, ra.hg, by decide, by decide, ?_, ?_, ?_⟩
        · rw [eg]; exact (ixN_seq (n := _) (i := 0) (j := 0) (by simp [ixN])).1
        · rw [eg]; rfl
        · refine q _ _ F ?_ (Same.refl F) (.int _)
          have he : (r.great.map V.int).eraseIdx 0 = rest.map V.int := by rw [eg]; rfl
          rw [he]
          refine ⟨fun a o e => ?_, fun a w d m => ?_, fun a o e nr => ?_, fun a e => ?_, hk.f0, hk.new, fun r2 e => ?_⟩
          · rw [upd_ne (ne_of_none e ra.fg)]; exact hk.sub _ _ e
          · obtain ⟨f1, f2, o, e, ro⟩ := hk.own _ _ _ m
            exact ⟨f1, f2, o, by rw [upd_ne (fun z => by rw [z, m2] at m; cases m)]; exact e, ro⟩
          · rw [upd_ne (fun z => by
              subst z
              rcases o2 with o2 | o2
              · exact nr o2
              · rw [o2] at e; cases e)]
            exact hk.ent _ _ e nr
          · by_cases hb : a = r.gA
            · subst hb; rw [upd_same] at e; cases e
            · rw [upd_ne hb] at e; exact hk.trk _ e
          · cases e
            exact ⟨⟨by rw [upd_ne hne]; exact ra.hat, upd_same, ra.hc, ra.hz, ra.fa, ra.fg⟩, m1, m2, o1, o2⟩
      · cases e
    · cases e
  · cases e
end
end Dv
namespace Dv
open PySem PySem.Spec
open PyProof.Rows L2

/-! ### list(zip(a, b)) -/
section
variable {prog : Program}
variable {w : World} {A : Around}
variable {E : Value → Shared → Prop} {s : Shared} {z TI TO i1 i2 : Addr} {fp1 fp2 : List Addr} {n1 n2 i : Nat} {P1 P2 : Nat → Value → Prop} {St1 St2 : Nat → Heap → Prop} {a1 a2 : Value}
theorem zipD2_item_held {T : Addr} {f : Bool} {oT : Obj} {Q : Value → Shared → Prop} (S : ZipSep2 z TI TO i1 i2 fp1 fp2) (D1 : Draws prog w A i1 fp1 n1 P1 St1) (D2 : Draws prog w A i2 fp2 n2 P2 St2)
    (hz : IsZipHeld s.heap z TI TO T f) (hT : s.heap.get? T = some oT) (hTI : IsTupOf2 s.heap TI (.ref i1) (.ref i2)) (st1 : St1 i s.heap) (st2 : St2 i s.heap) (hlt1 : i < n1) (hlt2 : i < n2)
    (hQ : ∀ x1 x2 h' tk, P1 i x1 → P2 i x2 → IsZipHeld h' z TI TO T true → St1 (i + 1) h' → St2 (i + 1) h' → IsTupOf2 h' s.heap.objs.size x1 x2 → h'.objs.size = s.heap.objs.size + 1 →
      (∀ c o, c ≠ z → c ≠ i1 → c ≠ i2 → s.heap.get? c = some o → h'.get? c = some o) → Q (.ref s.heap.objs.size) { s with heap := h', toks := tk }) :
    (wpAny (model prog w) A (Builtin.«zip.__next__» ⟨[.ref z], []⟩) (fun fin s' => ∃ v, fin = .done (.ret v) ∧ Q v s') E s) := by
  (obtain ⟨hp, g, d, tk0, os⟩ := s); show wpAny _ _ (field (.ref z) 2 >>= _) _ _ _
  (refine wpAny_bind (wpAny_field hz rfl (x := .bool false) rfl ?_)); show wpAny _ _ (field (.ref z) 3 >>= _) _ _ _
  (refine wpAny_bind (wpAny_field hz rfl (x := .ref TI) rfl ?_)); refine wpAny_bind (wpAny_seqItems hTI rfl ?_)
  (show wpAny _ _ (Builtin.SmallTypes.ownedTupleIsFree (.ref z) >>= _) _ _ _); refine wpAny_bind (wpAny_tupleHeld_zip hz hT fun g0 hz0 hs0 => ?_)
  (replace hs0 : Heap.SameBut z hp g0 := hs0); simp only [Bool.false_eq_true, if_false]
  refine wpAny_bind ?_
  rw [← Array.forIn_toList]
  (simp only [List.forIn_cons, List.forIn_nil]); refine wpAny_bind (wpAny_bind (wpAny_holding ?_))
  (show wpAny _ _ (Builtin.SmallTypes.nextOf (.ref i1) >>= _) _ _ ⟨g0, g, d, tk0, os⟩); refine wpAny_bind (D1.item i _ _ _ hlt1 (D1.over st1 hs0 S.zf1) fun x1 p1 tk1 hx1 sn1 hp1 => wpAny_pure ?_)
  (replace hp1 : Heap.SameBut i1 g0 p1 := hp1); refine wpAny_pure ?_
  (refine wpAny_bind (wpAny_bind (wpAny_holding ?_))); show wpAny _ _ (Builtin.SmallTypes.nextOf (.ref i2) >>= _) _ _ ⟨p1, g, d, tk1, os⟩
  refine wpAny_bind (D2.item i _ _ _ hlt2 (D2.over (D2.over st2 hs0 S.zf2) hp1 S.sep1_2) fun x2 p2 tk2 hx2 sn2 hp2 => wpAny_pure ?_)
  replace hp2 : Heap.SameBut i2 p1 p2 := hp2
  (refine wpAny_pure (wpAny_pure ?_)); show wpAny _ _ (newTuple [x1, x2] >>= _) _ _ _
  (refine wpAny_bind (wpAny_newTuple ?_)); have hsz : p2.objs.size = hp.objs.size := by rw [hp2.1, hp1.1, hs0.1]
  have hz₃ : IsZipHeld p2 z TI TO T true := hp2.extBut _ _ S.zi2 (hp1.extBut _ _ S.zi1 hz0)
  have hk : ∀ c o, c ≠ z → c ≠ i1 → c ≠ i2 → hp.get? c = some o → p2.get? c = some o := fun c o c1 c2 c3 e => hp2.extBut _ _ c3 (hp1.extBut _ _ c2 (hs0.extBut _ _ c1 e))
  have hj1 : St1 (i + 1) p2 := D1.over sn1 hp2 S.sep2_1
  (refine wpAny_pure ⟨_, rfl, ?_⟩); show Q (.ref p2.objs.size) ⟨p2.push { cls := .type "tuple", data := .seq #[x1, x2] }, g, d, tk2, os⟩
  have hpp : IsTupOf2 (p2.push { cls := .type "tuple", data := .seq #[x1, x2] }) p2.objs.size x1 x2 := Heap.get?_push_size _ rfl
  have hz4 : (p2.push { cls := .type "tuple", data := .seq #[x1, x2] }).objs.size = p2.objs.size + 1 := Heap.size_push ..
  rw [hsz] at hpp hz4 ⊢
  exact hQ x1 x2 _ tk2 hx1 hx2 (Heap.get?_push_of_some _ hz₃) (D1.frame _ _ _ hj1 fun b _ o e => Heap.get?_push_of_some _ e) (D2.frame _ _ _ sn2 fun b _ o e => Heap.get?_push_of_some _ e) hpp hz4 fun c o c1 c2 c3 e => Heap.get?_push_of_some _ (hk c o c1 c2 c3 e)

theorem zipD2_end_held {T : Addr} {f : Bool} {oT : Obj} {Q : Fin → Shared → Prop} (S : ZipSep2 z TI TO i1 i2 fp1 fp2) (D1 : Draws prog w A i1 fp1 n1 P1 St1) (D2 : Draws prog w A i2 fp2 n2 P2 St2)
    (hz : IsZipHeld s.heap z TI TO T f) (hT : s.heap.get? T = some oT) (hTI : IsTupOf2 s.heap TI (.ref i1) (.ref i2)) (st1 : St1 i s.heap) (st2 : St2 i s.heap) (hle1 : i ≤ n1) (hle2 : i ≤ n2) (hend : i = n1 ∨ i = n2)
    (hE : ∀ h' tk e, (∀ c o, c ≠ z → c ≠ i1 → c ≠ i2 → s.heap.get? c = some o → h'.get? c = some o) → (∃ o, h'.get? e = some o ∧ o.cls = .type "StopIteration") → E (.ref e) { s with heap := h', toks := tk }) :
    (wpAny (model prog w) A (Builtin.«zip.__next__» ⟨[.ref z], []⟩) Q E s) := by
  (obtain ⟨hp, g, d, tk0, os⟩ := s); show wpAny _ _ (field (.ref z) 2 >>= _) _ _ _
  (refine wpAny_bind (wpAny_field hz rfl (x := .bool false) rfl ?_)); show wpAny _ _ (field (.ref z) 3 >>= _) _ _ _
  (refine wpAny_bind (wpAny_field hz rfl (x := .ref TI) rfl ?_)); refine wpAny_bind (wpAny_seqItems hTI rfl ?_)
  (show wpAny _ _ (Builtin.SmallTypes.ownedTupleIsFree (.ref z) >>= _) _ _ _); refine wpAny_bind (wpAny_tupleHeld_zip hz hT fun g0 hz0 hs0 => ?_)
  (replace hs0 : Heap.SameBut z hp g0 := hs0); simp only [Bool.false_eq_true, if_false]
  refine wpAny_bind ?_
  rw [← Array.forIn_toList]
  (simp only [List.forIn_cons, List.forIn_nil]); refine wpAny_bind (wpAny_bind (wpAny_holding ?_))
  (show wpAny _ _ (Builtin.SmallTypes.nextOf (.ref i1) >>= _) _ _ ⟨g0, g, d, tk0, os⟩); by_cases hlt1 : i < n1
  · (refine wpAny_bind (D1.item i _ _ _ hlt1 (D1.over st1 hs0 S.zf1) fun x1 p1 tk1 hx1 sn1 hp1 => wpAny_pure ?_)); replace hp1 : Heap.SameBut i1 g0 p1 := hp1
    have hi2 : i = n2 := by omega
    refine wpAny_pure ?_
    (refine wpAny_bind (wpAny_bind (wpAny_holding ?_))); show wpAny _ _ (Builtin.SmallTypes.nextOf (.ref i2) >>= _) _ _ ⟨p1, g, d, tk1, os⟩
    refine wpAny_bind (D2.done ⟨p1, g, d, tk1, os⟩ _ _ (by rw [← hi2]; exact (D2.over (D2.over st2 hs0 S.zf2) hp1 S.sep1_2)) fun q e hq he => ?_)
    exact hE q tk1 e (fun c o cz c1 c2 x => hq _ _ c2 (hp1.extBut _ _ c1 (hs0.extBut _ _ cz x))) he
  · (have hi1 : i = n1 := by omega); refine wpAny_bind (D1.done ⟨g0, g, d, tk0, os⟩ _ _ (by rw [← hi1]; exact (D1.over st1 hs0 S.zf1)) fun q e hq he => ?_)
    exact hE q tk0 e (fun c o cz c1 c2 x => hq _ _ c1 (hs0.extBut _ _ cz x)) he

theorem ne_le {L b c : Addr} (h : L ≤ c) (h' : b < L) : c ≠ b := fun e => Nat.lt_irrefl c (Nat.lt_of_lt_of_le (e ▸ h') h)
/-- the zip between two items, the one before held -/
def ZSt (z TI TO i1 i2 S : Addr) (St1 St2 : Nat → Heap → Prop) (i : Nat) (h : Heap) : Prop :=
  IsTupOf2 h TI (.ref i1) (.ref i2) ∧ St1 i h ∧ St2 i h ∧ ((IsZip h z TI TO .none ∧ ∃ a1 a2, IsTupOf2 h TO a1 a2) ∨ ∃ T f oT, IsZipHeld h z TI TO T f ∧ h.get? T = some oT ∧ S < T)
theorem ZSt.keep {S : Addr} {h h' : Heap} (D1 : Draws prog w A i1 fp1 n1 P1 St1) (D2 : Draws prog w A i2 fp2 n2 P2 St2) (x : ZSt z TI TO i1 i2 S St1 St2 i h) (hS : ∀ b ∈ z :: TI :: TO :: (fp1 ++ fp2), b ≠ S)
    (k : ∀ b o, b ≠ S → h.get? b = some o → h'.get? b = some o) : ZSt z TI TO i1 i2 S St1 St2 i h' := by
  obtain ⟨t, s1, s2, r⟩ := x
  refine ⟨k _ _ (hS TI (by simp)) t, D1.frame _ _ _ s1 fun b hb o e => k b o (hS b (by simp [hb])) e, D2.frame _ _ _ s2 fun b hb o e => k b o (hS b (by simp [hb])) e, ?_⟩
  rcases r with ⟨hz, u1, u2, u⟩ | ⟨T, f, oT, hz, hT, lt⟩
  · exact .inl ⟨k _ _ (hS z (by simp)) hz, u1, u2, k _ _ (hS TO (by simp)) u⟩
  · exact .inr ⟨T, f, oT, k _ _ (hS z (by simp)) hz, k _ _ (Nat.ne_of_gt lt) hT, lt⟩
theorem zst_item {L : Addr} {Q : Option Value → Shared → Prop} (S : ZipSep2 z TI TO i1 i2 fp1 fp2) (D1 : Draws prog w A.in1 i1 fp1 n1 P1 St1) (D2 : Draws prog w A.in1 i2 fp2 n2 P2 St2) (x : ZSt z TI TO i1 i2 L St1 St2 i s.heap) (hL : L < s.heap.objs.size)
    (hl : ∀ b ∈ z :: TI :: TO :: (fp1 ++ fp2), b < L) (hlt1 : i < n1) (hlt2 : i < n2)
    (hQ : ∀ x1 x2 h' tk, P1 i x1 → P2 i x2 → ZSt z TI TO i1 i2 L St1 St2 (i + 1) h' → IsTupOf2 h' s.heap.objs.size x1 x2 → h'.objs.size = s.heap.objs.size + 1 →
      (∀ c o, L ≤ c → s.heap.get? c = some o → h'.get? c = some o) → (∀ c o, c ≠ z → c ≠ TO → c ≠ i1 → c ≠ i2 → s.heap.get? c = some o → h'.get? c = some o) → Q (some (.ref s.heap.objs.size)) { s with heap := h', toks := tk }) :
    (wpAny (model prog w) A (pyNext (.ref z)) Q E s) := by
  obtain ⟨t, s1, s2, r⟩ := x
  have lz := hl z (by simp)
  have lTO := hl TO (by simp)
  have lTI := hl TI (by simp)
  have l1 := hl i1 (by simp [S.mem1])
  have l2 := hl i2 (by simp [S.mem2])
  rcases r with ⟨hz, u1, u2, u⟩ | ⟨T, f, oT, hz, hT, lt⟩
  · refine wpAny_pyNext_zipD2_item S D1 D2 hz t u s1 s2 hlt1 hlt2 fun x1 x2 h' tk p1 p2 hz' hTO' s1' s2' ht hsz hk => ?_
    exact hQ x1 x2 h' tk p1 p2 ⟨hk _ _ S.TIz S.TITO S.TIi1 S.TIi2 t, s1', s2', .inr ⟨_, false, _, hz', ht, hL⟩⟩ ht hsz (fun c o hc e => hk c o (ne_le hc lz) (ne_le hc lTO) (ne_le hc l1) (ne_le hc l2) e) hk
  · have hTt : s.TypeIs (.ref z) "zip" := ⟨_, hz, rfl⟩
    unfold pyNext
    refine wpAny_bind (wpAny_attempt (wpAny_callSpecial?_slot (name := Str.ofString "__next__") hTt F.slot_zip_next
      (wpAny_call_entry F.slot_zip_next hTt F.entry_zip_next
        (zipD2_item_held S D1 D2 hz hT t s1 s2 hlt1 hlt2 fun x1 x2 h' tk p1 p2 hz' s1' s2' ht hsz hk => wpAny_pure ?_) (F.args_zip_next_1 _))))
    exact hQ x1 x2 h' tk p1 p2 ⟨hk _ _ S.TIz S.TIi1 S.TIi2 t, s1', s2', .inr ⟨_, true, _, hz', hk _ _ (ne_le (Nat.le_of_lt lt) lz) (ne_le (Nat.le_of_lt lt) l1) (ne_le (Nat.le_of_lt lt) l2) hT, lt⟩⟩ ht hsz (fun c o hc e => hk c o (ne_le hc lz) (ne_le hc l1) (ne_le hc l2) e) (fun c o c1 _ c2 c3 e => hk c o c1 c2 c3 e)
theorem zst_done {L : Addr} {Q : Option Value → Shared → Prop} (S : ZipSep2 z TI TO i1 i2 fp1 fp2) (D1 : Draws prog w A.in1 i1 fp1 n1 P1 St1) (D2 : Draws prog w A.in1 i2 fp2 n2 P2 St2) (x : ZSt z TI TO i1 i2 L St1 St2 i s.heap)
    (hle1 : i ≤ n1) (hle2 : i ≤ n2) (hend : i = n1 ∨ i = n2)
    (hQ : ∀ h' tk, (∀ c o, c ≠ z → c ≠ TO → c ≠ i1 → c ≠ i2 → s.heap.get? c = some o → h'.get? c = some o)
    → Q none { s with heap := h', toks := tk }) : wpAny (model prog w) A (pyNext (.ref z)) Q E s := by
  obtain ⟨t, s1, s2, r⟩ := x
  rcases r with ⟨hz, u1, u2, u⟩ | ⟨T, f, oT, hz, hT, lt⟩
  · exact wpAny_pyNext_zipD2_end S D1 D2 hz t u s1 s2 hle1 hle2 hend fun h' tk hk => hQ h' tk hk
  · have hTt : s.TypeIs (.ref z) "zip" := ⟨_, hz, rfl⟩
    unfold pyNext
    refine wpAny_bind (wpAny_attempt (wpAny_callSpecial?_slot (name := Str.ofString "__next__") hTt F.slot_zip_next
      (wpAny_call_entry F.slot_zip_next hTt F.entry_zip_next
        (zipD2_end_held S D1 D2 hz hT t s1 s2 hle1 hle2 hend fun h' tk e hk he => ?_) (F.args_zip_next_1 _))))
    obtain ⟨o, ho, hc⟩ := he
    (refine wpAny_bind (wpAny_isInstance (T := "StopIteration") (b := true) ⟨o, ho, hc⟩ isSubtype_stop ?_)); exact wpAny_pure (hQ _ _ fun c o c1 _ c2 c3 e => hk c o c1 c2 c3 e)
end

/-- the pairs given out -/
structure ZipG (xs ys : List Value) (lo : Addr) (h : Heap) (as : List Addr) : Prop where
  rise : as.Pairwise (· < ·)
  above : ∀ a ∈ as, lo < a
  pairs : ∀ (j : Nat) (a : Addr), as[j]? = some a → ∃ x y, xs[j]? = some x ∧ ys[j]? = some y ∧ IsTupOf2 h a x y
theorem ZipG.there {xs ys : List Value} {lo : Addr} {h : Heap} {as : List Addr} (g : ZipG xs ys lo h as) {a : Addr} (ha : a ∈ as) : a < h.objs.size := by
  (obtain ⟨j, hj⟩ := List.mem_iff_getElem?.mp ha); obtain ⟨_, _, _, _, e⟩ := g.pairs j a hj
  exact Heap.lt_size e
theorem ZipG.keep {xs ys : List Value} {lo : Addr} {h h' : Heap} {as : List Addr} (g : ZipG xs ys lo h as) (k : ∀ b o, lo < b → h.get? b = some o → h'.get? b = some o) : ZipG xs ys lo h' as :=
  ⟨g.rise, g.above, fun j a e => let ⟨x, y, e1, e2, e3⟩ := g.pairs j a e; ⟨x, y, e1, e2, k _ _ (g.above a (List.mem_of_getElem? e)) e3⟩⟩
section
variable {prog : Program} {w : World} {A : Around} {E : Value → Shared → Prop} {s : Shared} {R : Result → Shared → Prop} {z TI TO i1 i2 : Addr} {fp1 fp2 : List Addr} {St1 St2 : Nat → Heap → Prop} {xs ys : List Value}
abbrev Zk (z TO i1 i2 : Addr) (h h' : Heap) : Prop := ∀ b o, b ≠ z → b ≠ TO → b ≠ i1 → b ≠ i2 → h.get? b = some o → h'.get? b = some o
theorem zp_loop {L : Addr} (S : ZipSep2 z TI TO i1 i2 fp1 fp2) (D1 : Draws prog w A.in1.in1 i1 fp1 xs.length (fun i v => xs[i]? = some v) St1) (D2 : Draws prog w A.in1.in1 i2 fp2 ys.length (fun i v => ys[i]? = some v) St2)
    (hl : ∀ b ∈ z :: TI :: TO :: (fp1 ++ fp2), b < L) (hn : min xs.length ys.length ≤ sizeLine) (res : Value) {h₁ : Heap}
    (hR : ∀ h' tk acc c as, (∀ b o, b ≠ L → b ≠ z → b ≠ TO → b ≠ i1 → b ≠ i2 → h₁.get? b = some o → h'.get? b = some o) → h'.get? L = some { cls := .type "list", dict := none, data := .seq acc c, slots := #[] } → as.length = min xs.length ys.length → ZipG xs ys L h' as →
      acc.toList = as.map Value.ref
        → R (.ok (.ret res)) { s with heap := h', toks := tk }) :
    ∀ (k i : Nat) (h : Heap) (tk c : Nat) (acc : Array Value) (as : List Addr), min xs.length ys.length - i = k → i ≤ min xs.length ys.length → ZSt z TI TO i1 i2 L St1 St2 i h → (∀ b o, b ≠ L → b ≠ z → b ≠ TO → b ≠ i1 → b ≠ i2 → h₁.get? b = some o → h.get? b = some o) →
      h.get? L = some { cls := .type "list", dict := none, data := .seq acc c, slots := #[] } → acc.toList = as.map Value.ref → as.length = i → ZipG xs ys L h as →
      codeAny (model prog w) A (.builtin "list.extend.loop" ⟨[.ref L, .ref z, res], []⟩) R { s with heap := h, toks := tk } := by
  have lz := hl z (by simp)
  have lTO := hl TO (by simp)
  have l1 := hl i1 (by simp [S.mem1])
  have l2 := hl i2 (by simp [S.mem2])
  intro k
  induction k with
  | zero =>
    intro i h tk c acc as hk hi hst hkeep hS hacc hal hG
    have hin : i = min xs.length ys.length := by omega
    (refine codeAny_builtin PySem.F.entry_extend_loop ?_); rw [Around.under_plainId PySem.F.plain_extend_loop _]
    show wpAny _ A.in1 (pyNext (.ref z) >>= _) _ _ _
    refine wpAny_bind (zst_done (s := { s with heap := h, toks := tk }) (A := A.in1) (L := L) S D1 D2 hst (by omega) (by omega) (by omega) fun h' tk' he => ?_)
    refine wpAny_pure (hR h' tk' acc c as (fun b o h0 h1 h2 h3 h4 e => he b o h1 h2 h3 h4 (hkeep b o h0 h1 h2 h3 h4 e)) (he L _ (Nat.ne_of_gt lz) (Nat.ne_of_gt lTO) (Nat.ne_of_gt l1) (Nat.ne_of_gt l2) hS) (by omega) (hG.keep fun b o hb e => he b o (ne_le (Nat.le_of_lt hb) lz) (ne_le (Nat.le_of_lt hb) lTO) (ne_le (Nat.le_of_lt hb) l1) (ne_le (Nat.le_of_lt hb) l2) e) hacc)
  | succ k ih =>
    intro i h tk c acc as hk hi hst hkeep hS hacc hal hG
    have hlt : i < min xs.length ys.length := by omega
    (have hsz : acc.size = i := by rw [← Array.length_toList, hacc, List.length_map, hal]); have hLs : L < h.objs.size := Heap.lt_size hS
    (refine codeAny_builtin PySem.F.entry_extend_loop ?_); rw [Around.under_plainId PySem.F.plain_extend_loop _]
    show wpAny _ A.in1 (pyNext (.ref z) >>= _) _ _ _
    refine wpAny_bind (zst_item (s := { s with heap := h, toks := tk }) (L := L) S D1 D2 hst hLs hl (by omega) (by omega) fun x1 x2 h' tk' p1 p2 hst' ht hz hkL hkp => ?_)
    dsimp only at ht hz hkp hkL ⊢
    have hS' := hkL L _ (Nat.le_refl _) hS
    have up : ∀ b o, b ≠ L → h'.get? b = some o → (h'.update L (Obj.mapSeq (·.push (Value.ref h.objs.size)))).get? b = some o := fun b o hb e => (Heap.get?_update_other _ _ (Ne.symm hb)).trans e
    show wpAny _ A.in1 (updateSeq L (·.push (Value.ref h.objs.size)) >>= _) _ _ _
    refine wpAny_bind ?_
    refine wpAny_updateSeq hS' rfl (wpAny_pure ⟨plainId_quiet PySem.F.plain_extend_loop _, ih (i + 1) _ tk' _ (acc.push (Value.ref h.objs.size)) (as ++ [h.objs.size]) (by omega) hlt (hst'.keep D1 D2 (fun b hb => Nat.ne_of_lt (hl b hb)) up)
      (fun b o h0 h1 h2 h3 h4 e => up b o h0 (hkp b o h1 h2 h3 h4 (hkeep b o h0 h1 h2 h3 h4 e))) (Heap.get?_update_self _ hS' rfl) (by rw [Array.toList_push, hacc, List.map_append]; rfl) (by rw [List.length_append, hal]; rfl) ⟨?_, ?_, ?_⟩⟩) (by rw [hsz]; omega) (by show (acc.push (Value.ref h.objs.size)).size ≤ sizeLine + 1; rw [Array.size_push, hsz]; omega)
    · (refine List.pairwise_append.mpr ⟨hG.rise, List.pairwise_singleton _ _, fun a ha b hb => ?_⟩); rw [List.mem_singleton.mp hb]
      exact hG.there ha
    · (intro a ha); rcases List.mem_append.mp ha with ha | ha
      · exact hG.above a ha
      · rw [List.mem_singleton.mp ha]; exact hLs
    · (intro j b hj); rcases Nat.lt_trichotomy j as.length with h1 | h1 | h1
      · (rw [List.getElem?_append_left h1] at hj); obtain ⟨x, y, e1, e2, e3⟩ := hG.pairs j b hj
        (have hb := hG.above b (List.mem_of_getElem? hj)); exact ⟨x, y, e1, e2, up b _ (Nat.ne_of_gt hb) (hkL b _ (Nat.le_of_lt hb) e3)⟩
      · subst h1
        (have hb : h.objs.size = b := by simpa using hj); subst hb
        exact ⟨x1, x2, by rw [hal]; exact p1, by rw [hal]; exact p2, up _ _ (Nat.ne_of_gt hLs) ht⟩
      · (have hnone : (as ++ [h.objs.size])[j]? = none := List.getElem?_eq_none (by rw [List.length_append, List.length_singleton]; omega)); rw [hnone] at hj; cases hj
theorem zp_no_len : typeLookup (.type "zip") "__len__" = pure none := am_miss_of_fast (by decide +kernel)
theorem zp_no_hint : typeLookup (.type "zip") "__length_hint__" = pure none := am_miss_of_fast (by decide +kernel)
theorem zp_extend {L : Addr} (S : ZipSep2 z TI TO i1 i2 fp1 fp2) (D1 : Draws prog w A.in1.in1 i1 fp1 xs.length (fun i v => xs[i]? = some v) St1) (D2 : Draws prog w A.in1.in1 i2 fp2 ys.length (fun i v => ys[i]? = some v) St2)
    (hl : ∀ b ∈ z :: TI :: TO :: (fp1 ++ fp2), b < L) (hn : min xs.length ys.length ≤ sizeLine) (res : Value) (c₀ : Nat)
    (hz : IsZip s.heap z TI TO .none) (hTI : IsTupOf2 s.heap TI (.ref i1) (.ref i2)) {a1 a2 : Value} (hTO : IsTupOf2 s.heap TO a1 a2) (s1 : St1 0 s.heap) (s2 : St2 0 s.heap) (hS : s.heap.get? L = some { cls := .type "list", data := .seq #[] c₀ })
    (hR : ∀ h' tk acc c as, (∀ b o, b ≠ L → b ≠ z → b ≠ TO → b ≠ i1 → b ≠ i2 → s.heap.get? b = some o → h'.get? b = some o) → h'.get? L = some { cls := .type "list", dict := none, data := .seq acc c, slots := #[] } → as.length = min xs.length ys.length → ZipG xs ys L h' as →
      acc.toList = as.map Value.ref
        → R (.ok (.ret res)) { s with heap := h', toks := tk }) :
    wpAny (model prog w) A.in1 (Builtin.List.listExtendWith (.ref L) (.ref z) res)
      (fun fin s' =>
        match fin with | .done f => R (.ok f) s' | .again c' => c'.quiet = true ∧ codeAny (model prog w) A c' R s') (fun e s' => R (.error e) s') s := by
  have hLz : L ≠ z := Nat.ne_of_gt (hl z (by simp))
  (have hT : s.TypeIs (.ref z) "zip" := ⟨_, hz, rfl⟩); have hlS : ∀ b ∈ z :: TI :: TO :: (fp1 ++ fp2), b ≠ L := fun b hb => Nat.ne_of_lt (hl b hb)
  (unfold Builtin.List.listExtendWith); refine wpAny_bind (wpAny_typeOf hT ?_)
  have h1 : Builtin.List.listSameRef (.ref L) (.ref z) = false := by simp [Builtin.List.listSameRef, hLz]
  have h2 : (Value.type "zip" == Value.type "list") = false := by decide
  have h3 : (Value.type "zip" == Value.type "tuple") = false := by decide
  (simp only [h1, h2, h3, Bool.or_false, Bool.false_eq_true, if_false]); refine wpAny_bind (wpAny_pyIter_zip hz ?_)
  (refine wpAny_bind (wpAny_holding ?_)); unfold Builtin.List.listLengthHint
  refine wpAny_bind (wpAny_specialOf hT zp_no_len ?_)
  show wpAny _ A.in1 (specialOf (Value.ref z) (Str.ofString "__length_hint__") >>= _) _ _ _
  refine wpAny_bind (wpAny_specialOf hT zp_no_hint ?_)
  refine wpAny_pure ?_
  show wpAny _ A.in1 (rule "list.extend.makes-room" >>= fun _ => Builtin.List.listTouch (.ref L) >>= fun _ =>
    again (.builtin "list.extend.loop" ⟨[.ref L, .ref z, res], []⟩)) _ _ _
  (refine wpAny_bind (wpAny_rule ?_)); refine wpAny_bind ?_
  show wpAny _ A.in1 (updateSeq L (·.push .none) >>= fun _ => updateSeq L (·.pop)) _ _ _
  (refine wpAny_bind (wpAny_updateSeq hS rfl ?_)); have hS₂ := Heap.get?_update_self (Obj.mapSeq (·.push Value.none)) hS rfl
  (refine wpAny_updateSeq (hz := by seq_fits) hS₂ rfl ?_); have hS₃ := Heap.get?_update_self (Obj.mapSeq (·.pop)) hS₂ rfl
  have oth : ∀ b o, b ≠ L → s.heap.get? b = some o → ((s.heap.update L (Obj.mapSeq (·.push Value.none))).update L (Obj.mapSeq (·.pop))).get? b = some o :=
    fun b o hb e => (Heap.get?_update_other _ _ (Ne.symm hb)).trans
      ((Heap.get?_update_other _ _ (Ne.symm hb)).trans e)
  have st0 : ZSt z TI TO i1 i2 L St1 St2 0 s.heap := ⟨hTI, s1, s2, .inl ⟨hz, _, _, hTO⟩⟩
  refine wpAny_pure ⟨plainId_quiet PySem.F.plain_extend_loop _, zp_loop (h₁ := s.heap) (L := L) S D1 D2 hl hn res hR (min xs.length ys.length) 0 _ _ _ #[] [] (Nat.sub_zero _) (Nat.zero_le _) (st0.keep D1 D2 hlS oth) (fun b o h0 _ _ _ _ e => oth b o h0 e) hS₃ rfl rfl
    ⟨List.Pairwise.nil, (fun _ ha => nomatch ha), (fun j a hj => by simp at hj)⟩⟩
theorem zp_call {Q : Value → Shared → Prop} (S : ZipSep2 z TI TO i1 i2 fp1 fp2) (D1 : ∀ A : Around, A.handled = none → Draws prog w A i1 fp1 xs.length (fun i v => xs[i]? = some v) St1) (D2 : ∀ A : Around, A.handled = none → Draws prog w A i2 fp2 ys.length (fun i v => ys[i]? = some v) St2)
    (hh : A.handled = none) (hl : ∀ b ∈ z :: TI :: TO :: (fp1 ++ fp2), b < s.heap.objs.size) (hn : min xs.length ys.length ≤ sizeLine)
    (hz : IsZip s.heap z TI TO .none) (hTI : IsTupOf2 s.heap TI (.ref i1) (.ref i2)) {a1 a2 : Value} (hTO : IsTupOf2 s.heap TO a1 a2) (s1 : St1 0 s.heap) (s2 : St2 0 s.heap)
    (hQ : ∀ h' tk acc c as, (∀ b o, b ≠ z → b ≠ TO → b ≠ i1 → b ≠ i2 → s.heap.get? b = some o → h'.get? b = some o) → h'.get? s.heap.objs.size = some { cls := .type "list", dict := none, data := .seq acc c, slots := #[] } → as.length = min xs.length ys.length → ZipG xs ys s.heap.objs.size h' as →
      acc.toList = as.map Value.ref
        → Q (.ref s.heap.objs.size) { s with heap := h', toks := tk }) :
    wpAny (model prog w) A (call (.type "list") [.ref z]) Q E s := by
  refine callType_codes (Q₁ := fun obj s₁ =>
      obj = .ref s.heap.objs.size ∧ s₁ = { s with heap := s.heap.push { cls := .type "list", data := .seq #[] } }) PySem.F.called_list (PySem.F.typeCall_list_1 _) PySem.F.entry_list_init
    (code_list_new _ ⟨rfl, rfl⟩)
      fun obj s₁ h₁ => ?_
  obtain ⟨rfl, rfl⟩ := h₁
  (have hS : (s.heap.push { cls := .type "list", data := .seq #[] }).get? s.heap.objs.size = some { cls := .type "list", data := .seq #[] } := Heap.get?_push_size _ rfl); refine ⟨⟨_, hS, rfl⟩, PySem.F.args_list_init_2 _ _, ?_⟩
  have hsN : ∀ b o, b ≠ s.heap.objs.size → s.heap.get? b = some o → ((s.heap.push { cls := .type "list", data := .seq #[] }).update s.heap.objs.size (Obj.mapSeq (fun _ => (#[] : Array Value)))).get? b = some o := fun b o hb e =>
    (Heap.get?_update_other _ _ (Ne.symm hb)).trans (Heap.get?_push_of_some _ e)
  have ne : ∀ b ∈ z :: TI :: TO :: (fp1 ++ fp2), b ≠ s.heap.objs.size := fun b hb => Nat.ne_of_lt (hl b hb)
  show wpAny _ _ (do let old ← Builtin.List.listItems (.ref s.heap.objs.size); Builtin.List.listUpdate (.ref s.heap.objs.size) (fun _ => #[]); letGo old.toList.reverse; Builtin.List.listExtendWith (.ref s.heap.objs.size) (.ref z) .none) _ _ _
  refine wpAny_bind ?_
  unfold Builtin.List.listItems
  (refine wpAny_bind (wpAny_seqItems hS rfl (wpAny_pure ?_))); show wpAny _ _ (updateSeq s.heap.objs.size (fun _ => #[]) >>= fun _ => letGo (#[] : Array Value).toList.reverse >>= fun _ => Builtin.List.listExtendWith (.ref s.heap.objs.size) (.ref z) .none) _ _ _
  (refine wpAny_bind (wpAny_updateSeq hS rfl ?_)); have hS₂ := Heap.get?_update_self (Obj.mapSeq (fun _ => (#[] : Array Value))) hS rfl
  (refine wpAny_bind (wpAny_letGo ?_)); refine zp_extend S (D1 _ (by simp [hh])) (D2 _ (by simp [hh])) hl hn .none _ (hsN _ _ (ne z (by simp)) hz) (hsN _ _ (ne TI (by simp)) hTI) (hsN _ _ (ne TO (by simp)) hTO)
    ((D1 A hh).frame _ _ _ s1 fun b hb o e => hsN b o (ne b (by simp [hb])) e) ((D2 A hh).frame _ _ _ s2 fun b hb o e => hsN b o (ne b (by simp [hb])) e) hS₂ fun h' tk acc c as hk hS' hlen hG hacc => ?_
  exact ⟨rfl, hQ h' tk acc c as (fun b o h1 h2 h3 h4 e => hk b o (Nat.ne_of_lt (Heap.lt_size e)) h1 h2 h3 h4 (hsN b o (Nat.ne_of_lt (Heap.lt_size e)) e)) hS' hlen hG hacc⟩
end
end Dv
namespace Dv
open PySem PySem.Spec
open PyProof.Rows L2

/-! ### many new objects at once -/
def lays (H : Hp) : List (Addr × HO) → Hp
  | [] => H
  | (a, o) :: r => upd (lays H r) a o
theorem lays_in {H : Hp} : ∀ {ls : List (Addr × HO)} {b : Addr} {u : HO}, lays H ls b = some u → (b, u) ∈ ls ∨ H b = some u
  | [], _, _, h => .inr h
  | (a, o) :: r, b, u, h => by
    unfold lays at h
    by_cases hb : b = a
    · subst hb; rw [upd_same] at h; cases h; exact .inl List.mem_cons_self
    · rw [upd_ne hb] at h
      rcases lays_in h with h | h
      · exact .inl (List.mem_cons_of_mem _ h)
      · exact .inr h
theorem lays_out {H : Hp} : ∀ {ls : List (Addr × HO)} {b : Addr}, (∀ p ∈ ls, p.1 ≠ b) → lays H ls b = H b
  | [], _, _ => rfl
  | (a, o) :: r, b, h => by
    unfold lays
    rw [upd_ne (Ne.symm (h (a, o) List.mem_cons_self)), lays_out fun p hp => h p (List.mem_cons_of_mem _ hp)]
section
variable {P : Program} {w : World} {H : Hp} {h h' : Heap} {ls : List (Addr × HO)}
theorem HOk.lays (x : HOk P w H h) (k : ∀ b u, h.get? b = some u → h'.get? b = some u) (hp : ∀ p ∈ ls, h.objs.size ≤ p.1) (new : ∀ p ∈ ls, ObjOk P w (lays H ls) h' p.1 p.2) : HOk P w (lays H ls) h' := fun b u e => by
  rcases lays_in e with m | e'
  · exact new _ m
  · have hb : ∀ c u, H c = some u → Dv.lays H ls c = H c := fun c u q => lays_out fun p hm z => by
      have h1 := x.lt q
      have h2 := hp p hm
      (rw [z] at h2); exact Nat.lt_irrefl _ (Nat.lt_of_lt_of_le h1 h2)
    exact (x b u e').stay (fun c v _ q => k c v q) (fun c q => by rw [hb _ _ q]; exact q) fun c xs q => by rw [hb _ _ q]; exact q
theorem Un.lays {fs ex : List Addr} (hf : ∀ b, h.objs.size ≤ b → H b = none) (k : ∀ b u, h.get? b = some u → h'.get? b = some u) (hp : ∀ p ∈ ls, h.objs.size ≤ p.1) : Un fs ex H (lays H ls) h h' := by
  have hlt : ∀ b u, h.get? b = some u → Dv.lays H ls b = H b := fun b u q => lays_out fun p hm z => by
    have h1 := Heap.lt_size q
    have h2 := hp p hm
    (rw [z] at h2); exact Nat.lt_irrefl _ (Nat.lt_of_lt_of_le h1 h2)
  have hH : ∀ b u, H b = some u → Dv.lays H ls b = some u := fun b u q => by
    rw [lays_out fun p hm z => ?_]; exact q
    have h2 := hp p hm
    rw [z] at h2
    rw [hf _ h2] at q; cases q
  exact ⟨fun b u q _ _ _ => k b u q, fun b u q _ _ _ => ⟨u.slots, k b u q⟩, fun b u q n _ => by rw [hlt _ _ q]; exact n, fun b u q _ => ⟨u, k b u q⟩, fun b xs q => hH _ _ q, fun b u xs q => hH _ _ q, fun b ps q => ⟨#[], by rw [hH _ _ q]; simp⟩⟩
theorem Inv.lays {X : Cx} {pins : List (Addr × Obj)} {σ : L2.St} {s : Shared} {t' : Nat} (I : Inv X pins σ H s) (k : ∀ b u, s.heap.get? b = some u → h'.get? b = some u) (hp : ∀ p ∈ ls, s.heap.objs.size ≤ p.1) (new : ∀ p ∈ ls, ObjOk X.prog X.w (lays H ls) h' p.1 p.2) :
    Inv X pins σ (Dv.lays H ls) { s with heap := h', toks := t' } := I.un (Un.lays (fun b hb => I.hok.fresh hb) k hp) (HOk.lays I.hok k hp new)
end

/-! ### list(zip(a, b)) -/
def pairO (as : List Addr) (xs ys : List V) : List (Addr × HO) := as.zip (List.zipWith (fun x y => HO.tup [x, y]) xs ys)
def tListZip (K : PySem.W.Frag) (ta : TA) : TE := fun σ H Q => ta σ H fun vs H1 => ∃ k1 k2 a b xs ys, vs = [.ref a, .ref b] ∧ SqK K H1 k1 a xs ∧ SqK K H1 k2 b ys ∧ min xs.length ys.length ≤ sizeLine ∧
  ∀ (as : List Addr) (p : Addr), as.length = min xs.length ys.length → as.Nodup → p ∉ as → (∀ a ∈ as, H1 a = none) → H1 p = none → Q (.ref p) (upd (lays H1 (pairO as xs ys)) p (.lst (as.map V.ref)))
theorem vals_refs' : ∀ bs : List Addr, Vals (bs.map V.ref) (bs.map Value.ref)
  | [] => .nil
  | _ :: r => .cons rfl (vals_refs' r)
theorem pe_listzip {X : Cx} {e e2 : Expr} {ta : TA} {p p2 pos q : Pos} (hc : X.calm = true) (hg : Gl X "list") (hm : X.mg "list" = none) (hg2 : Gl X "zip") (hm2 : X.mg "zip" = none) (ha : PA X [e, e2] ta)
    (na : starEach [.Call (.Name "zip" p2) [e, e2] [] q] X.env = (false, eval (.Call (.Name "zip" p2) [e, e2] [] q) X.env) :: starEach [] X.env := by rfl)
    (hs : starEach [e, e2] X.env = (false, eval e X.env) :: starEach [e2] X.env := by rfl) (hpl : (backTo q (starEach [e2] X.env)).any (·.1) = false := by rfl) :
    PE X (.Call (.Name "list" p) [.Call (.Name "zip" p2) [e, e2] [] q] [] pos) (tListZip X.K ta) := by
  (refine ⟨fun pins s σ H Q I h => ?_⟩); refine Call_ (ld_blt I hg hm boot_list (PyProof.Rows.callWith_type1 (args_cons ?_ na) na))
  refine Call_ (ld_blt I hg2 hm2 PyProof.Rows.boot_zip (PyProof.Rows.callWith_type1 (thn (ha.run q pins s σ H _ I h) fun us s1 ⟨vs, H1, I1, r1, q1⟩ => ?_) hs hpl))
  obtain ⟨k1, k2, a, b, xs, ys, ex, hqx, hqy, hzl, q1⟩ := q1
  subst ex
  cases r1 with
  | cons r rr =>
    cases rr with
    | cons r' rr =>
      cases rr
      cases r
      cases r'
      obtain ⟨its, rv, p1⟩ := seqIs_of I1 hqx
      obtain ⟨its2, rv2, p2⟩ := seqIs_of I1 hqy
      (have la : a < s1.heap.objs.size := p1.lt); have lb : b < s1.heap.objs.size := p2.lt
      have hd := I1.ok.hd hc
      refine zip_begins2 (beginsQ k1 a its.toArray) (beginsQ k2 b its2.toArray) p1 p2 fun h' hz hTI hTO h1 h2 hsz hk => ?_
      have D := zip_sep2 (N := s1.heap.objs.size) (fp1 := [a]) (fp2 := [b]) (fun c hc => by rw [List.mem_singleton.mp hc]; exact la) (fun c hc => by rw [List.mem_singleton.mp hc]; exact lb)
      refine args_nil ?_
      have l1 : its.length = xs.length := rv.length.symm
      have l2 : its2.length = ys.length := rv2.length.symm
      have pk1 : SeqIs h' k1 a its.toArray := by
        cases k1 with
        | true => exact (show s1.heap.IsList a its.toArray from p1).at fun o e => hk _ _ e
        | false => exact (show s1.heap.IsTuple a its.toArray from p1).at fun o e => hk _ _ e
      have pk2 : SeqIs h' k2 b its2.toArray := by
        cases k2 with
        | true => exact (show s1.heap.IsList b its2.toArray from p2).at fun o e => hk _ _ e
        | false => exact (show s1.heap.IsTuple b its2.toArray from p2).at fun o e => hk _ _ e
      have na' : a ≠ s1.heap.objs.size := Nat.ne_of_lt la
      have nb' : b ≠ s1.heap.objs.size + 1 := Nat.ne_of_lt (Nat.lt_succ_of_lt lb)
      refine zp_call (s := { s1 with heap := h' }) (xs := its) (ys := its2) (St1 := fun i h => ItQ h k1 s1.heap.objs.size a i ∧ SeqIs h k1 a its.toArray) (St2 := fun i h => ItQ h k2 (s1.heap.objs.size + 1) b i ∧ SeqIs h k2 b its2.toArray) D
        (fun A hA => by have z := drawsQ (P := X.prog) (w := X.w) (A := A) hA k1 s1.heap.objs.size a na' its.toArray; simpa using z)
        (fun A hA => by have z := drawsQ (P := X.prog) (w := X.w) (A := A) hA k2 (s1.heap.objs.size + 1) b nb' its2.toArray; simpa using z)
        hd (fun c hc => ?_) (by rw [l1, l2]; exact hzl) hz hTI hTO ⟨ItQ.new h1, pk1⟩ ⟨ItQ.new h2, pk2⟩ fun h'' tk acc c as hk2 hL hlen hG hacc => ?_
      · show c < h'.objs.size
        rw [hsz]
        have e' : c = s1.heap.objs.size + 4 ∨ c = s1.heap.objs.size + 2 ∨ c = s1.heap.objs.size + 3 ∨ c = s1.heap.objs.size ∨ c = a ∨ c = s1.heap.objs.size + 1 ∨ c = b := by simpa using hc
        rcases e' with z | z | z | z | z | z | z <;> rw [z]
        · exact Nat.lt_succ_self _
        · exact Nat.add_lt_add_left (by decide) _
        · exact Nat.add_lt_add_left (by decide) _
        · exact Nat.lt_add_of_pos_right (by decide)
        · exact Nat.lt_of_lt_of_le la (Nat.le_add_right _ _)
        · exact Nat.add_lt_add_left (by decide) _
        · exact Nat.lt_of_lt_of_le lb (Nat.le_add_right _ _)
      · have hsz' : ({ s1 with heap := h' } : Shared).heap.objs.size = s1.heap.objs.size + 5 := hsz
        have keep : ∀ b o, s1.heap.get? b = some o → h''.get? b = some o := fun c o e => by
          have lc := Heap.lt_size e
          exact hk2 c o (Nat.ne_of_lt (Nat.lt_of_lt_of_le lc (Nat.le_add_right _ _))) (Nat.ne_of_lt (Nat.lt_of_lt_of_le lc (Nat.le_add_right _ _))) (Nat.ne_of_lt lc) (Nat.ne_of_lt (Nat.lt_of_lt_of_le lc (Nat.le_add_right _ _))) (hk c o e)
        have hlen' : as.length = min xs.length ys.length := by rw [hlen, l1, l2]
        have hle : s1.heap.objs.size ≤ h'.objs.size := by rw [hsz]; exact Nat.le_add_right _ _
        have habove : ∀ c ∈ as, s1.heap.objs.size ≤ c := fun c hc => Nat.le_of_lt (Nat.lt_of_le_of_lt hle (hG.above c hc))
        have hnd : as.Nodup := hG.rise.imp fun h => Nat.ne_of_lt h
        have hpn : h'.objs.size ∉ as := fun z => Nat.lt_irrefl _ (hG.above _ z)
        have mem : ∀ x ∈ pairO as xs ys, ∃ j a x1 y1, as[j]? = some a ∧ xs[j]? = some x1 ∧ ys[j]? = some y1 ∧ x = (a, HO.tup [x1, y1]) := fun x hx => by
          (obtain ⟨j, hj⟩ := List.mem_iff_getElem?.mp hx); unfold pairO at hj
          rw [List.getElem?_zip_eq_some] at hj
          obtain ⟨e1, e2⟩ := hj
          rw [List.getElem?_zipWith] at e2
          cases ex : xs[j]? with
          | none => rw [ex] at e2; cases e2
          | some x1 =>
            cases ey : ys[j]? with
            | none => rw [ex, ey] at e2; cases e2
            | some y1 =>
              rw [ex, ey] at e2
              have e3 : HO.tup [x1, y1] = x.2 := Option.some.inj e2
              exact ⟨j, x.1, x1, y1, e1, ex, ey, by rw [e3]⟩
        refine ⟨.ref h'.objs.size, _, Dv.Inv.lays (s := s1) (ls := (h'.objs.size, .lst (as.map V.ref)) :: pairO as xs ys) I1 keep (fun x hx => ?_) (fun x hx => ?_), rfl, q1 as h'.objs.size hlen' hnd hpn (fun c hc => I1.hok.fresh (habove c hc)) (I1.hok.fresh hle)⟩
        · rcases List.mem_cons.mp hx with z | z
          · rw [z]; exact hle
          · obtain ⟨j, a, x1, y1, e1, _, _, rfl⟩ := mem x z
            exact habove _ (List.mem_of_getElem? e1)
        · rcases List.mem_cons.mp hx with z | z
          · rw [z]
            exact (show ObjOk X.prog X.w _ _ _ (.lst (as.map V.ref)) from ⟨by rw [List.length_map, hlen']; exact hzl, acc.toList, c, by rw [hacc]; exact vals_refs' _, by rw [Array.toArray_toList]; exact hL⟩)
          · obtain ⟨j, a, x1, y1, e1, ex, ey, rfl⟩ := mem x z
            obtain ⟨u, v, eu, ev, et⟩ := hG.pairs j a e1
            obtain ⟨u', eu', ru⟩ := rv.get ex
            obtain ⟨v', ev', rv'⟩ := rv2.get ey
            rw [eu] at eu'; cases eu'
            rw [ev] at ev'; cases ev'
            exact (show ObjOk X.prog X.w _ _ _ (.tup [x1, y1]) from ⟨by show 2 ≤ sizeLine; decide, [u, v], .cons ru (.cons rv' .nil), (show h''.IsTuple a #[u, v] from ⟨_, et, rfl, _, rfl⟩)⟩)
section
variable {G : Gh} {X : Cx} {e a b c o : Expr} {es : List Expr} {pos p2 : Pos} {st : Stmt}
theorem HeapOk.laidPairs {H F : Hp} {M : OMap} {S : Sg} (hk : HeapOk G H F M S) : ∀ {as : List Addr} {us vs : List V} {ds es : List D}, as.length = min us.length vs.length → as.Nodup → (∀ a ∈ as, H a = none) → RepL G.K F us ds → RepL G.K F vs es →
    ∃ F', HeapOk G (lays H (pairO as us vs)) F' M S ∧ Le F F' ∧ RepL G.K F' (as.map V.ref) (List.zipWith (fun x y => D.tup [x, y]) ds es)
  | [], us, vs, ds, es, hl, _, _, r1, r2 => by
    refine ⟨F, hk, Same.refl F, ?_⟩
    cases r1 with
    | nil => exact .nil
    | cons _ _ =>
      cases r2 with
      | nil => exact .nil
      | cons _ _ => simp only [List.length_nil, List.length_cons] at hl; omega
  | a :: as, us, vs, ds, es, hl, hn, hf, r1, r2 => by
    cases r1 with
    | nil => simp at hl
    | @cons u1 _ us1 _ x1 t1 =>
      cases r2 with
      | nil => simp at hl
      | @cons u2 _ us2 _ x2 t2 =>
        obtain ⟨F', hk', le, rl⟩ := HeapOk.laidPairs hk (as := as) (by simp only [List.length_cons] at hl; omega) (List.nodup_cons.mp hn).2 (fun c hc => hf c (List.mem_cons_of_mem _ hc)) t1 t2
        have hna : lays H (pairO as us1 us2) a = none := (lays_out fun p hp z => by
          unfold pairO at hp
          have : p.1 ∈ as := (List.of_mem_zip hp).1
          rw [z] at this
          exact (List.nodup_cons.mp hn).1 this).trans (hf a List.mem_cons_self)
        have lu := le_upd (o := HO.tup [u1, u2]) (hk'.fnone hna)
        exact ⟨_, hk'.laid hna, le.trans lu, .cons (.mkTup upd_same (show 2 ≤ sizeLine by decide) (.cons (x1.mono (le.trans lu)) (.cons (x2.mono (le.trans lu)) .nil))) (rl.mono lu)⟩
def mLz (m : MA) : ME := fun ρ S => (m ρ S).bind fun p => match p.1 with
  | [x, y] => (itemsD x).bind fun xs => (itemsD y).map fun ys => (.lst (List.zipWith (fun a b => D.tup [a, b]) xs ys), p.2)
  | _ => none
theorem sf_listzip {m : MA} (hK : G.K = X.K) (h : PE X o (tListZip X.K (eA G m))) : PE X o (eF G (mLz m)) := pe_imp h fun σ H Q ⟨F, M, ρ, S, hk, sl, d, S', e, q⟩ => by
  obtain ⟨⟨d1, S1⟩, e1, e2⟩ := Option.bind_eq_some_iff.mp e
  dsimp only at e2
  split at e2
  · rename_i x y
    obtain ⟨xs, ex, e2⟩ := Option.bind_eq_some_iff.mp e2
    obtain ⟨ys, ey, e2⟩ := Option.map_eq_some_iff.mp e2
    cases e2
    refine ⟨F, M, ρ, S, hk, sl, _, _, e1, fun vs H' F' hk' le r => ?_⟩
    cases r with
    | cons r1 r =>
      cases r with
      | cons r2 r =>
        cases r
        obtain ⟨k1, a, us, rfl, s1, rl1, z1⟩ := rep_sqk hk'.sub r1 ex
        obtain ⟨k2, b, us', rfl, s2, rl2, z2⟩ := rep_sqk hk'.sub r2 ey
        have l1 := Paired.length rl1
        have l2 := Paired.length rl2
        rw [← hK]
        refine ⟨k1, k2, a, b, us, us', rfl, s1 _ hk'.sub, s2 _ hk'.sub, by omega, fun as p hlen hnd hp hfr hpf => ?_⟩
        obtain ⟨F2, hk2, le2, rl⟩ := hk'.laidPairs hlen hnd hfr rl1 rl2
        have hpn : lays H' (pairO as us us') p = none := (lays_out fun x hx z => by
          unfold pairO at hx
          have : x.1 ∈ as := (List.of_mem_zip hx).1
          rw [z] at this
          exact hp this).trans hpf
        exact q p _ _ (hk2.laidO hpn (.lst (by rw [List.length_zipWith]; omega) rl)) (hk2.mnone hpn) (le.trans le2)
  · cases e2

/-! ### len(set(t)) of a tuple of different ints -/
def tLenSetT (K : PySem.W.Frag) (ta : TE) : TE := fun σ H Q => ta σ H fun x H1 => ∃ (l : Addr) (ns : List Int), x = .ref l ∧ SqT K H1 l (ns.map V.int) ∧ ns.Nodup ∧ ns.length ≤ 1000 ∧ Q (.int (ns.length : Nat)) H1
theorem pe_lensetT {X : Cx} {a : Expr} {ta : TE} {p p2 q pos : Pos} (hg : Gl X "len") (hm : X.mg "len" = none) (hg2 : Gl X "set") (hm2 : X.mg "set" = none) (ha : PE X a ta) (hc : X.calm = true := by rfl)
    (na : starEach [a] X.env = (false, eval a X.env) :: starEach [] X.env := by rfl) : PE X (.Call (.Name "len" p) [.Call (.Name "set" p2) [a] [] q] [] pos) (tLenSetT X.K ta) := by
  (refine ⟨fun pins s σ H Q I h => ?_⟩); refine Call_ (ld_blt I hg hm boot_len ?_)
  (refine PyProof.Rows.callWith_builtin1 (PyProof.Rows.args_cons ?_ rfl) rfl rfl); refine Call_ (ld_blt I hg2 hm2 boot_set ?_)
  (refine PyProof.Rows.callWith_type1 (PyProof.Rows.args_cons (thn (ha.run pins s σ H _ I h) fun v s1 ⟨x, H1, I1, r1, q1⟩ => PyProof.Rows.args_nil ?_) na) na rfl); obtain ⟨l, ns, rfl, hq, hnd, hl, q1⟩ := q1
  cases r1
  obtain ⟨its, r, pl, hz⟩ := I1.tuple hq
  have hi : IntsAre its.toArray.toList ns := ints_of_vals r
  refine call_set_tupI ns (I1.ok.hd hc) (show s1.heap.IsTuple l its.toArray from pl) hi (by unfold scanBound; omega) fun h' tk c R1 hcn hk => PyProof.Rows.args_nil ?_
  (obtain ⟨o, es, ep, t, ho, hex, hdt, g, nd, hm2, hb, hf, hn, hr, hl2⟩ := R1); have hcc : c = ns.length := by
    have hp : (es.toList.map keyOf).Perm ns := (List.perm_ext_iff_of_nodup nd hnd).mpr fun k => by rw [← hm2 k, decide_eq_true_eq]
    have := hp.length_eq
    rw [List.length_map, Array.length_toList, hn] at this
    exact this
  (have I2 : Inv X pins σ H1 { s1 with heap := h', toks := tk } := I1.kept hk); exact call_len_set ho hex hdt hf (by rw [hn] <;> omega) ⟨.int ns.length, H1, I2.tok _, ⟨_, by rw [hn, hcc]⟩, q1⟩
theorem intsD_map : ∀ {ds : List D} {ns : List Int}, intsD ds = some ns → ds = ns.map D.int
  | [], ns, h => by cases h; rfl
  | d :: r, ns, h => by
    cases d with
    | int i =>
      obtain ⟨m, h1, h2⟩ := Option.map_eq_some_iff.mp h
      subst h2
      rw [intsD_map h1]; rfl
    | _ => cases h
theorem intsD_of (ns : List Int) : intsD (ns.map D.int) = some ns := by
  induction ns with
  | nil => rfl
  | cons n r ih => show (intsD (r.map D.int)).map (n :: ·) = _; rw [ih]; rfl
theorem repl_ints {K : PySem.W.Frag} {F : Hp} : ∀ {ns : List Int} {vs : List V}, RepL K F vs (ns.map D.int) → vs = ns.map V.int
  | [], _, .nil => rfl
  | n :: r, _, .cons h t => by cases h; rw [repl_ints t]; rfl
def lenSetD (d : D) : Option D := d.asT.bind fun ds => (intsD ds).bind fun ns => if ns.Nodup ∧ ns.length ≤ 1000 then some (.int (ns.length : Nat)) else none
theorem se_lenset {m : ME} (hK : G.K = X.K) (h : PE X o (tLenSetT X.K (eB G m))) : PE X o (eE G (mOp1 lenSetD m)) := pe_imp h fun σ H Q ⟨F, M, ρ, S, hk, sl, d, S', e, q⟩ => by
  obtain ⟨d1, e1, e2⟩ := mOp1_some e
  refine ⟨F, M, ρ, S, hk, sl, d1, S', e1, fun v H' F' hk' le r => ?_⟩
  obtain ⟨ds, e3, e2⟩ := Option.bind_eq_some_iff.mp e2
  obtain ⟨ns, e4, e2⟩ := Option.bind_eq_some_iff.mp e2
  split at e2
  · rename_i hc
    cases e2
    obtain ⟨a, vs, rfl, hq, rl⟩ := BRep.untup hk' e3 r
    rw [intsD_map e4] at rl
    rw [repl_ints rl, hK] at hq
    exact ⟨a, ns, rfl, hq, hc.1, hc.2, q _ _ _ hk' le (.int _)⟩
  · cases e2
end
end Dv
namespace Dv
open PySem PySem.Spec
open PyProof.Rows L2

/-! ### sorted(d), d a dict whose keys are pairs of ints -/
theorem isPair_inj {h : Heap} {v : Value} {x y x' y' : Int} (a : Srt.IsPair h v x y) (b : Srt.IsPair h v x' y') : (x, y) = (x', y') := by
  obtain ⟨a1, o1, t1, u1, n1, e1, h1, c1, d1⟩ := a
  obtain ⟨a2, o2, t2, u2, n2, e2, h2, c2, d2⟩ := b
  rw [e1] at e2; cases e2
  rw [h1] at h2; cases h2
  rw [d1] at d2
  simp at d2
  rw [d2.1.1.1, d2.1.2.1]
open Classical in
noncomputable def pairAt (h : Heap) (v : Value) : Int × Int := if e : ∃ p : Int × Int, Srt.IsPair h v p.1 p.2 then Classical.choose e else (0, 0)
theorem pairAt_is {h : Heap} {v : Value} {p : Int × Int} (e : Srt.IsPair h v p.1 p.2) : pairAt h v = p := by
  have e' : ∃ p : Int × Int, Srt.IsPair h v p.1 p.2 := ⟨p, e⟩
  unfold pairAt
  rw [dif_pos e']
  exact isPair_inj (Classical.choose_spec e') e
def aOf : Value → Addr
  | .ref a => a
  | _ => 0
theorem call_sortedDT {X : Cx} (hcalm : X.calm = true) : CallR X (.builtin "sorted") (fun xs H Q => ∃ (d : Addr) (kvs : List (List Key × V)) (ps : List (Int × Int)), xs = [V.ref d] ∧ Rd H d (.dT kvs) ∧ kvs.map (·.1) = (ps.map fun p => [Sum.inl p.1, Sum.inl p.2]) ∧ kvs.length ≤ sizeLine ∧
    ∀ (qs : List (Int × Int)) (bs : List Addr) (p : Addr), qs.Perm ps → qs.Pairwise (fun x y => SrtO.lexB y x = false) → bs.length = qs.length → (∀ (j : Nat) b q, bs[j]? = some b → qs[j]? = some q → H b = some (.tup [.int q.1, .int q.2])) → H p = none → Q (.ref p) (upd H p (.lst (bs.map V.ref)))) := by
  (intro pins s σ H xs us Q I r h); obtain ⟨d, kvs, ps, rfl, hd, hks, hzl, q⟩ := h
  obtain ⟨u, rfl, rx⟩ := r.one
  cases rx
  (obtain ⟨z, hs, ks, pr, o, es, ep, ho, hx, hdt, he, hn⟩ := (show ObjOk X.prog X.w H s.heap d (.dT kvs) from hd.ok I.hok)); have l1 : es.size = ks.length := size_of_entries he
  (have l2 : kvs.length = ks.length := Paired.length pr); have l3 : ps.length = ks.length := by
    have e := congrArg List.length hks
    (rw [List.length_map, List.length_map] at e); omega
  (refine Calls.call_function_entry PyProof.Rows.kind_sorted PyProof.Rows.plain_sorted PyProof.Rows.entry_sorted (PyProof.Rows.args_sorted1 _) ?_); unfold Builtin.«sorted»
  ((refine wpAny_bind (m := checkCount "sorted" 1 1 _) (wpAny_pure ?_)); refine wpAny_bind (PySem.W.kdu_collect (A := X.A.in1) (kdl_raw hs hx hdt) (I.ok.hd hcalm) ho (by omega) fun h' tk acc' kp it => ?_)); have ea : acc'.toList = ks.map fun x => Value.ref x.2.1 := by
    (have hl : acc'.toList.length = ks.length := by rw [Array.length_toList, it.1]; exact l1); apply List.ext_getElem?
    intro j
    (rw [List.getElem?_map]); cases hj : acc'.toList[j]? with
    | none =>
      (have h1 := List.getElem?_eq_none_iff.mp hj); rw [List.getElem?_eq_none (by omega)]
      all_goals rfl
    | some v =>
      (obtain ⟨en, hen, hv⟩ := it.2 j v (by rw [← Array.getElem?_toList]; exact hj)); have qe := entry_at he j
      rw [hen] at qe
      cases hb : ks[j]? with
      | none =>
        (rw [hb] at qe); exact nomatch (show some en = none from qe)
      | some b =>
        rw [hb] at qe
        (have e2 : en = entryOfKey (tupleKind (mixKind X.prog X.w)) b := Option.some.inj qe); rw [hv, e2]
        all_goals rfl
  have I1 : Inv X pins σ H { s with heap := h', toks := tk } := I.kept kp
  -- what stands at each key
  have at_ : ∀ (j : Nat) (v : Value) (p : Int × Int), acc'.toList[j]? = some v → ps[j]? = some p → ∃ b, v = .ref b ∧ H b = some (.tup [.int p.1, .int p.2]) ∧ Srt.IsPair h' v p.1 p.2 := fun j v p e1 e2 => by
    rw [ea, List.getElem?_map] at e1
    obtain ⟨x, ex, e1⟩ := Option.map_eq_some_iff.mp e1
    obtain ⟨kv, ekv, rk⟩ := paired_get' pr ex
    have ek : (kvs.map (·.1))[j]? = some kv.1 := by rw [List.getElem?_map, ekv]; rfl
    rw [hks, List.getElem?_map, e2] at ek
    have ek : [Sum.inl p.1, Sum.inl p.2] = kv.1 := Option.some.inj ek
    have hb : H x.2.1 = some (.tup [.int p.1, .int p.2]) := by rw [rk.2.1, ← ek]; rfl
    refine ⟨x.2.1, e1.symm, hb, ?_⟩
    obtain ⟨its, rv, ⟨ob, hob, hc, n, hdd⟩, _⟩ := I1.tuple (SqT.of hb)
    cases rv with
    | cons r1 rv =>
      cases rv with
      | cons r2 rv =>
        cases rv
        obtain ⟨t, rfl⟩ := r1
        obtain ⟨u, rfl⟩ := r2
        exact ⟨x.2.1, ob, t, u, n, e1.symm, hob, hc, hdd⟩
  have hla : acc'.toList.length = ps.length := by rw [Array.length_toList, it.1]; omega
  have hkey : acc'.toList.map (pairAt h') = ps := by
    apply List.ext_getElem?
    intro j
    (rw [List.getElem?_map]); cases hj : acc'.toList[j]? with
    | none => rw [List.getElem?_eq_none (by have := List.getElem?_eq_none_iff.mp hj; omega)]; rfl
    | some v =>
      have hjl := (List.getElem?_eq_some_iff.mp hj).1
      have e2 : ps[j]? = some (ps[j]'(by omega)) := List.getElem?_eq_getElem _
      obtain ⟨b, _, _, hp⟩ := at_ j v _ hj e2
      rw [e2]
      show some (pairAt h' v) = _
      rw [pairAt_is hp]
  have hall : ∀ v ∈ acc'.toList, ∃ (b : Addr) (p : Int × Int), v = .ref b ∧ H b = some (.tup [.int p.1, .int p.2]) ∧ Srt.IsPair h' v p.1 p.2 := fun v hv => by
    obtain ⟨j, hj⟩ := List.mem_iff_getElem?.mp hv
    have hjl := (List.getElem?_eq_some_iff.mp hj).1
    obtain ⟨b, e⟩ := at_ j v _ hj (List.getElem?_eq_getElem (by omega : j < ps.length))
    exact ⟨b, ps[j], e⟩
  have hpair : ∀ v ∈ acc'.toList, Srt.IsPair h' v (pairAt h' v).1 (pairAt h' v).2 := fun v hv => by
    obtain ⟨b, p, _, _, hp⟩ := hall v hv
    rw [pairAt_is hp]; exact hp
  refine wpAny_bind (wpAny_newList ?_ (by rw [hla]; omega))
  have hoL : (h'.push (seqObj "list" acc'.toList.toArray 0)).get? h'.objs.size = some (seqObj "list" acc'.toList.toArray 0) := Heap.get?_push_size _ rfl
  have hpair' : ∀ v ∈ acc'.toList, Srt.IsPair (h'.push (seqObj "list" acc'.toList.toArray 0)) v (pairAt h' v).1 (pairAt h' v).2 := fun v hv => (hpair v hv).keeps fun b o e _ => Heap.get?_push_of_some _ e
  (show wpAny _ _ _ _ _ { s with heap := h'.push (seqObj "list" acc'.toList.toArray 0), toks := tk }); refine wpAny_bind (wpAny_holding (wpAny_call_entry PyProof.Rows.slot_list_sort ⟨_, hoL, rfl⟩ PyProof.Rows.entry_list_sort
    (SrtO.list_sort_ord (s := { s with heap := h'.push (seqObj "list" acc'.toList.toArray 0), toks := tk }) (SrtO.swo_lex (pairAt h')) hoL (by rw [hla]; omega) (fun h2 => SrtO.pairs_sortableO (by omega) hpair' fun o e => by rw [hoL] at e; cases e; intro c; exact absurd (Value.type.inj c) (by decide)) fun out hs hb => ⟨_, rfl, ?_⟩) (PyProof.Rows.args_list_sort _)))
  obtain ⟨e', he'⟩ := PyProof.Rows.sortedHeap_at (vs := acc'.toList) (out := out.toArray) hoL
  have hmem : ∀ v ∈ out, v ∈ acc'.toList := fun v hv => hb.perm.mem_iff.mp hv
  have hout : out = (out.map aOf).map Value.ref := by
    rw [List.map_map]
    conv => lhs; rw [← List.map_id out]
    apply List.map_congr_left
    intro v hv
    obtain ⟨b, p, rfl, _⟩ := hall v (hmem v hv)
    rfl
  have rv : Vals ((out.map aOf).map V.ref) out := by
    have z := vals_refs' (out.map aOf)
    rw [← hout] at z; exact z
  have hlo : out.length = acc'.toList.length := hb.perm.length_eq
  refine wpAny_pure ⟨_, rfl, .ref h'.objs.size, upd H h'.objs.size (.lst ((out.map aOf).map V.ref)), I1.laid (t' := tk) (fun b u e => ?_) (Nat.le_refl _)
    (show ObjOk X.prog X.w _ _ _ (.lst ((out.map aOf).map V.ref)) from ⟨by rw [List.length_map, List.length_map, hlo, hla]; omega, out, e', rv, he'⟩), rfl,
      q (out.map (pairAt h')) (out.map aOf) _ (by have z := hb.perm.map (pairAt h'); rw [hkey] at z; exact z) (List.pairwise_map.mpr hs) (by rw [List.length_map, List.length_map]) (fun j b p e1 e2 => ?_) (I1.hok.fresh (Nat.le_refl _))⟩
  · have hbl : b < h'.objs.size := Heap.lt_size e
    (rw [PyProof.Rows.sortedHeap_old (Nat.ne_of_lt hbl) (by rw [size_push']; exact Nat.lt_succ_of_lt hbl)]); exact Heap.get?_push_of_some _ e
  · rw [List.getElem?_map] at e1 e2
    obtain ⟨v, hv, rfl⟩ := Option.map_eq_some_iff.mp e1
    rw [hv] at e2
    have e2 : pairAt h' v = p := Option.some.inj e2
    obtain ⟨b, p', rfl, hH, hp⟩ := hall v (hmem v (List.mem_of_getElem? hv))
    rw [pairAt_is hp] at e2
    subst e2
    exact hH

def keyPs : List (List Key × D) → Option (List (Int × Int))
  | [] => some []
  | ([.inl i, .inl j], _) :: r => (keyPs r).map ((i, j) :: ·)
  | _ => none
theorem keyPs_map : ∀ {l : List (List Key × D)} {ps : List (Int × Int)}, keyPs l = some ps → l.map (·.1) = ps.map fun p => [Sum.inl p.1, Sum.inl p.2]
  | [], _, h => by cases h; rfl
  | (k, d) :: r, ps, h => by
    unfold keyPs at h
    split at h
    · rename_i e; cases e
    · rename_i i j _ _ e
      cases e
      obtain ⟨qs, h1, rfl⟩ := Option.map_eq_some_iff.mp h
      show _ :: _ = _ :: _
      rw [keyPs_map h1]
    · cases h
def lexLe (p q : Int × Int) : Bool := !SrtO.lexB q p
theorem lexLe_iff {p q : Int × Int} : lexLe p q = true ↔ ¬ (q.1 < p.1 ∨ (q.1 = p.1 ∧ q.2 < p.2)) := by
  unfold lexLe
  rw [← SrtO.lexB_iff]
  simp
def sortPs (ps : List (Int × Int)) : List (Int × Int) := ps.mergeSort lexLe
theorem sortPs_perm (ps : List (Int × Int)) : (sortPs ps).Perm ps := List.mergeSort_perm _ _
theorem sortPs_eq {qs ps : List (Int × Int)} (h : qs.Perm ps) (s : qs.Pairwise fun x y => SrtO.lexB y x = false) : qs = sortPs ps := by
  refine List.Perm.eq_of_pairwise (le := fun x y => lexLe x y = true) (fun a b _ _ h1 h2 => ?_) (s.imp fun {a b} e => by unfold lexLe; rw [e]; rfl) ?_ (h.trans (sortPs_perm ps).symm)
  · have h1 := lexLe_iff.mp h1
    have h2 := lexLe_iff.mp h2
    have e1 : a.1 = b.1 := by omega
    have e2 : a.2 = b.2 := by omega
    exact Prod.ext e1 e2
  · refine List.pairwise_mergeSort (fun a b c h1 h2 => ?_) (fun a b => ?_) ps
    · have h1 := lexLe_iff.mp h1
      have h2 := lexLe_iff.mp h2
      exact lexLe_iff.mpr (by omega)
    · rw [Bool.or_eq_true]
      by_cases e : lexLe a b = true
      · exact .inl e
      · refine .inr (lexLe_iff.mpr ?_)
        rw [lexLe_iff] at e
        omega
section
variable {G : Gh}
theorem HeapOk.adopts {H : Hp} {M : OMap} {S : Sg} : ∀ {bs : List Addr} {qs : List (Int × Int)} {F : Hp}, HeapOk G H F M S → bs.length = qs.length → (∀ (j : Nat) b q, bs[j]? = some b → qs[j]? = some q → H b = some (.tup [.int q.1, .int q.2])) →
    ∃ F', HeapOk G H F' M S ∧ Le F F' ∧ RepL G.K F' (bs.map V.ref) (qs.map fun q => D.tup [.int q.1, .int q.2])
  | [], [], F, hk, _, _ => ⟨F, hk, Same.refl F, .nil⟩
  | [], _ :: _, _, _, h, _ => by simp at h
  | _ :: _, [], _, _, h, _ => by simp at h
  | b :: bs, q :: qs, F, hk, hl, h => by
    obtain ⟨F1, hk1, le1, rl⟩ := HeapOk.adopts (bs := bs) (qs := qs) hk (by simpa using hl) fun j c r e1 e2 => h (j + 1) c r (by simpa using e1) (by simpa using e2)
    obtain ⟨hk2, le2⟩ := hk1.adopt (h 0 b q rfl rfl)
    exact ⟨_, hk2, le1.trans le2, .cons (.mkTup upd_same (show 2 ≤ sizeLine by decide) (.cons (.int _) (.cons (.int _) .nil))) (rl.mono le2)⟩
/-- sorted(d), d's keys pairs of ints -/
def sortDT : List D → Option D
  | [.dT kvs] => (keyPs kvs).bind fun ps => if kvs.length ≤ 1000000 then some (.lst ((sortPs ps).map fun q => .tup [.int q.1, .int q.2])) else none
  | _ => none
theorem c_sortDT : CBF G (fun xs H Q => ∃ (d : Addr) (kvs : List (List Key × V)) (ps : List (Int × Int)), xs = [V.ref d] ∧ Rd H d (.dT kvs) ∧ kvs.map (·.1) = (ps.map fun p => [Sum.inl p.1, Sum.inl p.2]) ∧ kvs.length ≤ sizeLine ∧
    ∀ (qs : List (Int × Int)) (bs : List Addr) (p : Addr), qs.Perm ps → qs.Pairwise (fun x y => SrtO.lexB y x = false) → bs.length = qs.length → (∀ (j : Nat) b q, bs[j]? = some b → qs[j]? = some q → H b = some (.tup [.int q.1, .int q.2])) → H p = none → Q (.ref p) (upd H p (.lst (bs.map V.ref)))) sortDT := fun vs ds d H F M S Q hk rl e q => by
  unfold sortDT at e
  split at e
  · rename_i kvs
    obtain ⟨ps, e1, e⟩ := Option.bind_eq_some_iff.mp e
    split at e
    · rename_i hz
      cases e
      obtain ⟨v, rfl, r⟩ := brl1 rl
      obtain ⟨a, us, rfl, hq, rp⟩ := r.undT hk
      have hkeys := (RepP.keys rp).trans (keyPs_map e1)
      have hul : us.length = kvs.length := Paired.length rp
      have hpl : ps.length = kvs.length := by have := congrArg List.length (keyPs_map e1); simpa using this.symm
      refine ⟨a, us, ps, rfl, Rd.of hq, hkeys, by rw [hul, sizeLine_eq]; omega, fun qs bs p hp hs hl hb hpn => ?_⟩
      obtain ⟨F1, hk1, le1, rl⟩ := hk.adopts hl hb
      have eq := sortPs_eq hp hs
      rw [← eq] at q
      refine q p _ _ (hk1.laidO hpn (.lst (by rw [List.length_map, hp.length_eq, hpl, sizeLine_eq]; omega) rl)) (hk1.mnone hpn) le1
    · cases e
  · cases e
end

end Dv
namespace Dv
open PySem PySem.Spec
open PyProof.Rows L2

/-! ### calls with keywords alone -/
/-- the values in the parameters' order: ix tells of each parameter which keyword it is -/
def pick {α : Type} (ix : List Nat) (l : List α) : List α := if l.length = ix.length then ix.filterMap (l[·]?) else []
def only0 {α : Type} (f : List α → List α) : List α → List α → List α
  | [], ws => f ws
  | _ :: _, _ => []
theorem paired_pick {α β : Type} {R : α → β → Prop} {xs : List α} {ys : List β} (ix : List Nat) (h : Paired R xs ys) : Paired R (pick ix xs) (pick ix ys) := by
  have hl := Paired.length h
  unfold pick
  rw [hl]
  split
  · clear hl; rename_i hxx; clear hxx
    induction ix with
    | nil => exact .nil
    | cons i r ih =>
      rw [List.filterMap_cons, List.filterMap_cons]
      cases e : xs[i]? with
      | none =>
        have e' : ys[i]? = none := List.getElem?_eq_none (by rw [← Paired.length h]; exact List.getElem?_eq_none_iff.mp e)
        rw [e']; exact ih
      | some x =>
        obtain ⟨y, e', r⟩ := paired_get'' h e
        rw [e']; exact .cons r ih
  · exact .nil
theorem vals_pick {xs : List V} {us : List Value} (ix : List Nat) (h : Vals xs us) : Vals (pick ix xs) (pick ix us) := paired_pick ix h
/-- a def that is called with keywords alone -/
structure CalK (P : Program) (w : World) (K : PySem.W.Frag) (mg : Str → Option Value) (base : Heap) (k : Nat) (x : Str) (sp : Sp) (ks : List Str) (ix : List Nat) : Prop where
  ex : ∃ (f : Addr) (fd : FuncData) (ps : List Str), FnOk P w K mg base CX0 k f fd ps sp ∧ mg x = some (.ref f) ∧ PySem.W.keepIn K (.ref f) = true ∧ KBinds K fd ps ks (only0 (pick ix)) (only0 (pick ix))
theorem fun_kbinds {K : PySem.W.Frag} {x qual : Str} {st : Stmt} {f : Addr} {fd : FuncData} {ps ks : List Str} {ix : List Nat} (F : Fun K x qual st f fd) (h0 : ps ≠ []) (hk : ks.length = ix.length)
    (h : ∀ (kV doc pm : Value) (an : Option Addr) (cdv ct : Value) (ws : List Value), ws.length = ks.length → bindArgs (PySem.W.fnOf x qual (defArgs st) (defBody st) (defScope st) .none kV doc pm an cdv ct) ⟨[], ks.zip ws⟩ = pure (ps.zip (pick ix ws))) :
    KBinds K fd ps ks (only0 (pick ix)) (only0 (pick ix)) := by
  (obtain ⟨oc, od, kV, doc, pm, an, cdv, ct, osl, rfl, lk, hcd⟩ := F.ex); refine ⟨fun s us ws hi hl => ?_, fun {vs us zs ws} r1 r2 => ?_⟩
  · cases us with
    | cons a r =>
      have e : (0 : Nat) = ps.length := hl
      exact absurd (List.eq_nil_of_length_eq_zero e.symm) h0
    | nil =>
      have hl : (pick ix ws).length = ps.length := hl
      refine BindsTo.of_eq (h kV doc pm an cdv ct ws ?_)
      unfold pick at hl
      split at hl
      · rename_i e; rw [hk, e]
      · exact absurd (List.eq_nil_of_length_eq_zero hl.symm) h0
  · cases r1 with
    | nil => exact vals_pick ix r2
    | cons _ _ => exact .nil
def tCallK0 (sp : Sp) (ix : List Nat) (E : XK) (tk : TA) : TE := fun σ H Q => tk σ H fun zs H2 => sp (pick ix zs) H2 Q E
theorem pe_ck {X : Cx} {k j : Nat} {x : Str} {sp : Sp} {ks : List Str} {ix : List Nat} {p pos : Pos} {kws : List Keyword} {tk : TA} (c : CalK X.prog X.w X.K X.mg X.base k x sp ks ix) (hr : Room j X.A) (hkj : k ≤ j) (hg : Gl X x)
    (hkw : PK X kws tk) (hall : (backToKw pos (keywordEach kws X.env)).all (·.1.isSome) = true := by rfl) (hks : (backToKw pos (keywordEach kws X.env)).filterMap (·.1) = ks := by rfl)
    (hpl : ((backTo pos (starEach [] X.env)).any (·.1) || (backToKw pos (keywordEach kws X.env)).any (·.1.isNone)) = false := by rfl) (hdb : (x == ("__debug__" : Str)) = false := by decide) :
    PE X (.Call (.Name x p) [] kws pos) (tCallK0 sp ix E0 tk) := by
  obtain ⟨f, fd, ps, F, hm, kp, hb⟩ := c.ex
  refine ⟨fun pins s σ H Q I h => wpAny_Call_Name_kw (ld_glob I hg hm ?_ hdb)⟩
  refine PySem.W.callWith_KW0 (h₀ := X.base) I.ok.mod.kin kp hall (thn (hkw.run pos pins s σ H _ I h) fun ws s2 ⟨zs, H2, I2, rz, q2⟩ => ⟨I2.kIn, ?_⟩) hpl
  rw [hks]
  exact run_fnk (us := []) (vs := []) F (hr.mono hkj) hb pass0 I2 .nil rz q2
section
variable {G : Gh} {X : Cx} {e a b c o : Expr} {es : List Expr} {pos p2 : Pos} {st : Stmt} {kws : List Keyword} {nm : Option Str}
theorem pk_imp {t t' : TA} (h : PK X kws t) (i : ∀ σ H Q, t' σ H Q → t σ H Q) : PK X kws t' := ⟨fun pos pins s σ H Q I q => h.run pos pins s σ H Q I (i _ _ _ q)⟩
theorem sk_nil : PK X [] (eA G (mPure [])) := pk_imp pk_nil fun σ H Q ⟨F, M, ρ, S, hk, sl, d, S', e, q⟩ => by cases e; exact q [] H F hk (Same.refl F) .nil
theorem sk_cons {m : ME} {n : MA} (ha : PE X e (eE G m)) (hr : PK X kws (eA G n)) : PK X (⟨nm, e, p2⟩ :: kws) (eA G (mCons m n)) := pk_imp (pk_cons ha hr) fun σ H Q ⟨F, M, ρ, S, hk, sl, ds, S', e, q⟩ => by
  obtain ⟨d, S1, r, e1, e2, rfl⟩ := mCons_some e
  exact ⟨F, M, ρ, S, hk, sl, d, S1, e1, fun v H1 F1 hk1 le1 r1 => ⟨F1, M, ρ, S1, hk1, sl.mono le1, r, S', e2, fun vs H2 F2 hk2 le2 r2 => q _ H2 F2 hk2 (le1.trans le2) (.cons (r1.mono le2) r2)⟩⟩
def mCallK0 (f : List D → Option D) (ix : List Nat) (m : MA) : ME := fun ρ S => (m ρ S).bind fun p => (f (pick ix p.1)).map fun d => (d, p.2)
theorem se_callK0 {f : List D → Option D} {ix : List Nat} {m : MA} {E : XK} (h : PE X o (tCallK0 (spP G.K f) ix E (eA G m))) : PE X o (eE G (mCallK0 f ix m)) := pe_imp h fun σ H Q ⟨F, M, ρ, S, hk, sl, d, S', e, q⟩ => by
  obtain ⟨⟨ds, S1⟩, e1, e⟩ := Option.bind_eq_some_iff.mp e
  obtain ⟨d', e2, e⟩ := Option.map_eq_some_iff.mp e
  cases e
  exact ⟨F, M, ρ, S, hk, sl, ds, _, e1, fun vs H1 F1 hk1 le1 rl => ⟨F1, _, d, hk1.sub, paired_pick ix rl, e2, fun v H' F' sm tr le sub nw r => q v H' F' (heap_called hk1 sm tr le sub nw) (le1.trans le) r⟩⟩

/-! ### the draws begin -/
def mScr (i : Nat) : MA := fun ρ S => (mVar i ρ S).bind fun p => match p.1 with | .scr ns => if ns.length ≤ sizeLine then some (ns.map D.int, p.2) else none | _ => none
theorem si_scr' {tg : Expr} {i : Nat} (hK : G.K = X.K) (h : PE X e (eE G (mVar i))) : PI X tg e (iI G (mScr i)) := si_scr hK h
end
def iabs (i : Int) : Int := if i < 0 then -i else i
def bigOf (ns : List Int) : List Int := (ns.filter fun z => decide ((1000000000000000000 : Int) ≤ iabs z)).map fun z => iabs z - 1000000000000000000
def absOf (ns : List Int) : List Int := ns.map iabs
def mAbs : ME := mCall absD (mCons (mVarB 2) (mPure []))
def mTen : ME := mOp2 powD (mPure (.int 10)) (mPure (.int 18))
def mBig : ME := mLc (mScr 0) [2] (gNm 2) (mTst (mOp2 geD mAbs mTen)) (mOp2 subD mAbs mTen)
def mCel : ME := mLc (mScr 0) [2] (gNm 2) (mPure true) mAbs
theorem mAbs_at {ρ : Lo} {z : Int} {S : Sg} (h : ρ[2]? = some (some (.imm (.int z)))) : mAbs ρ S = some (.int (iabs z), S) := by
  simp [mAbs, mCall, mCons, mVarB, mPure, h, absD, iabs]
theorem mTen_at {ρ : Lo} {S : Sg} : mTen ρ S = some (.int 1000000000000000000, S) := by
  have : powD (.int 10) (.int 18) = some (.int 1000000000000000000) := by simp [powD, liftI2]
  simp [mTen, mOp2, mPure, this]
theorem lc_big {ρ : Lo} {S : Sg} (h : 2 < ρ.length) : ∀ ns : List Int, lcGo ρ (gNm 2) (mTst (mOp2 geD mAbs mTen)) (mOp2 subD mAbs mTen) (ns.map D.int) S = some ((bigOf ns).map D.int, S)
  | [] => rfl
  | z :: r => by
    have h2 : (ρ.set 2 (some (.imm (.int z))))[2]? = some (some (.imm (.int z))) := List.getElem?_set_self h
    have et : mTst (mOp2 geD mAbs mTen) (ρ.set 2 (some (.imm (.int z)))) S = some (decide ((1000000000000000000 : Int) ≤ iabs z), S) := by
      simp [mTst, mOp2, mAbs_at h2, mTen_at, geD, liftI2, asB]
    have em : mOp2 subD mAbs mTen (ρ.set 2 (some (.imm (.int z)))) S = some (.int (iabs z - 1000000000000000000), S) := by
      simp [mOp2, mAbs_at h2, mTen_at, subD, liftI2]
    show Option.bind (gNm 2 (.int z) ρ) _ = _
    simp only [gNm, Option.bind_some, et, em, lc_big h r, Option.map_some]
    by_cases hz : (1000000000000000000 : Int) ≤ iabs z
    · simp [bigOf, hz]
    · simp [bigOf, hz]
theorem lc_cel {ρ : Lo} {S : Sg} (h : 2 < ρ.length) : ∀ ns : List Int, lcGo ρ (gNm 2) (mPure true) mAbs (ns.map D.int) S = some ((absOf ns).map D.int, S)
  | [] => rfl
  | z :: r => by
    have h2 : (ρ.set 2 (some (.imm (.int z))))[2]? = some (some (.imm (.int z))) := List.getElem?_set_self h
    show Option.bind (gNm 2 (.int z) ρ) _ = _
    simp only [gNm, Option.bind_some, mAbs_at h2, lc_cel h r, Option.map_some, mPure, if_true]
    simp [absOf]
theorem repl_ints' {K : PySem.W.Frag} {F : Hp} {ns : List Int} {vs : List V} (h : RepL K F vs (ns.map D.int)) : vs = ns.map V.int := repl_ints h
/-- the promise of _law_begun -/
def spBegun (K : PySem.W.Frag) : Sp := fun vs H Q E => ∃ (a : Addr) (ns : List Int), vs = [.ref a] ∧ SqL K H a (ns.map V.int) ∧ ns.length ≤ 1000 ∧
  ∀ (r : Rng) (H' : Hp), r.great = bigOf ns → r.cells = absOf ns → r.rest = 0 → r.turn = 0 → Same H H' → (∀ x, H' x = none → H x = none) → H' r.at_ = some (.dK (rngDict r)) → H' r.gA = some (.lst (r.great.map V.int)) → H' r.cA = some (.lst (r.cells.map V.int)) →
    H r.at_ = none → H r.gA = none → H r.cA = none → r.cA ≠ r.gA → Q (.ref r.at_) H'
section
variable {P : Program} {w : World} {K : PySem.W.Frag}
variable {mg : Str → Option Value} {base : Heap}
theorem begun_ok {x qual : Str} {st : Stmt} {f : Addr} {fd : FuncData} (F : Fun K x qual st f fd) (Sc : FnScope ["script", "great", "cell"] ["script"] (defScope st))
    (h1 : ∀ (H0 F0 : Hp) (R : Addr → Prop) (cdv : Value) (A : Around) (outer : List Env) (s : Shared) (H : Hp) (E : XK), Room 0 (A.deeper (envOfC qual (defScope st) s.heap.objs.size f cdv)) → PSs (cxOf CX0 P w K mg base ["script", "great", "cell"] qual (defScope st) f cdv A outer s H E).nox (defBody st)
      (tSeq (sS ⟨K, H0, F0, R⟩ (sSetF 1 mBig)) (tRet (tDisp [(tC (.str "great"), tVar 1), (tC (.str "cells"), eF ⟨K, H0, F0, R⟩ mCel), (tC (.str "rest"), tC (.int 0)), (tC (.str "turn"), tC (.int 0))])))) :
    FnOk P w K mg base CX0 1 f fd ["script"] (spBegun K) := by
  refine F.ok Sc (fun vs H Q E h => ?_) fun cdv A outer s H vs Q E hr h => ?_
  · obtain ⟨a, ns, rfl, _⟩ := h; rfl
  · obtain ⟨a, ns, rfl, hq, hz, q⟩ := h
    refine ⟨_, h1 H H (fun _ => False) cdv A outer s H E hr, ?_⟩
    have hzl : ns.length ≤ sizeLine := Nat.le_trans hz (by decide)
    have hb : (bigOf ns).length ≤ sizeLine := by
      unfold bigOf; rw [List.length_map]; exact Nat.le_trans (List.length_filter_le _ _) hzl
    have hk : HeapOk ⟨K, H, H, fun _ => False⟩ H H (fun _ => none) none := ⟨fun _ _ e => e, (fun _ _ _ h => nomatch h), fun _ _ h _ => h, fun _ h => h, fun _ _ h => h, fun _ _ h => .inl h, fun _ h => nomatch h⟩
    have sl : Slots K (L2.start ["script", "great", "cell"] [V.ref a]) (startL 3 [.scr ns]) H (fun _ => none) := startL_slots (N := ["script", "great", "cell"]) (ds := [.scr ns]) (.cons (.scr hq) .nil)
    have e1 : sSetF 1 mBig (startL 3 [.scr ns]) none = some (.nx, [some (.imm (.scr ns)), some (.own (.lst ((bigOf ns).map D.int))), none], none) := by
      have em : mBig (startL 3 [.scr ns]) none = some (.lst ((bigOf ns).map D.int), none) := by
        show Option.bind (mScr 0 [some (LV.imm (.scr ns)), none, none] none) _ = _
        simp only [mScr, mVar, List.getElem?_cons_zero, Option.bind_some, if_pos hzl]
        show Option.map _ (lcGo [some (LV.imm (.scr ns)), none, none] _ _ _ _ _) = _
        rw [lc_big (by simp)]
        rfl
      unfold sSetF
      rw [em]; rfl
    refine ⟨H, fun _ => none, _, none, hk, sl, _, _, _, e1, fun H1 F1 M1 hk1 le1 => fun σ1 sl1 => fun p hp => ?_⟩
    have hkp := hk1.laidO (w := none) (d := .dK []) hp (.dK .nil)
    obtain ⟨v1, ev1, g, rfl, em1⟩ := sl1.at_ 1 _ rfl
    have hpn := hk1.mnone hp
    have hgp : g ≠ p := fun z => by rw [z, hpn] at em1; cases em1
    have slp : Slots K σ1 [some (.imm (.scr ns)), some (.own (.lst ((bigOf ns).map D.int))), none] F1 (updO M1 p (none, .dK [])) := ⟨sl1.len, fun i l h => by
      obtain ⟨v, ev, lr⟩ := sl1.at_ i l h
      refine ⟨v, ev, ?_⟩
      cases l with
      | imm d => exact lr
      | own d => obtain ⟨b, rfl, eb⟩ := lr; exact ⟨b, rfl, by rw [updO_ne fun z => by rw [z, hpn] at eb; cases eb]; exact eb⟩⟩
    have ec : mCel [some (.imm (.scr ns)), some (.own (.lst ((bigOf ns).map D.int))), none] none = some (.lst ((absOf ns).map D.int), none) := by
      show Option.bind (mScr 0 [some (LV.imm (.scr ns)), _, none] none) _ = _
      simp only [mScr, mVar, List.getElem?_cons_zero, Option.bind_some, if_pos hzl]
      show Option.map _ (lcGo [some (LV.imm (.scr ns)), _, none] _ _ _ _ _) = _
      rw [lc_cel (by simp)]
      rfl
    refine ⟨_, ev1, F1, _, _, none, hkp, slp, _, none, ec, fun c H2 F2 hk2 nc le2 => ?_⟩
    have hcp : c ≠ p := fun z => by rw [z, updO_same] at nc; cases nc
    have hM : ∀ {b x}, b ≠ c → b ≠ p → updO (updO M1 p (none, D.dK [])) c (none, D.lst ((absOf ns).map D.int)) b = x → M1 b = x := fun h1 h2 e => by rw [updO_ne h1, updO_ne h2] at e; exact e
    have hgc : g ≠ c := fun z => by rw [← z, updO_ne hgp] at nc; rw [nc] at em1; cases em1
    obtain ⟨_, g0, og, eg, rg⟩ := hk2.own g _ _ (by rw [updO_ne hgc, updO_ne hgp]; exact em1)
    obtain ⟨_, c0, oc, ecc, rc⟩ := hk2.own c _ _ updO_same
    obtain ⟨_, p0, op, epp, rp⟩ := hk2.own p (none) (.dK []) (by rw [updO_ne hcp.symm, updO_same])
    cases rg with
    | lst _ rlg =>
      cases rc with
      | lst _ rlc =>
        cases rp with
        | dK rpp =>
          cases rpp
          rw [repl_ints rlg] at eg
          rw [repl_ints rlc] at ecc
          refine ⟨epp, [(Sum.inr "great", .ref g), (Sum.inr "cells", .ref c), (Sum.inr "rest", .int 0), (Sum.inr "turn", .int 0)], rfl, (show 4 ≤ 15 by decide), ?_⟩
          refine q ⟨p, g, c, bigOf ns, absOf ns, 0, 0⟩ _ rfl rfl rfl rfl (fun b o e => ?_) (fun b e => ?_) upd_same (by rw [upd_ne hgp]; exact eg) (by rw [upd_ne hcp]; exact ecc) p0 g0 c0 hgc.symm
          · have e' := hk2.ent b o e (fun z => z)
            rw [upd_ne (ne_of_none e p0)]; exact e'
          · by_cases hb : b = p
            · subst hb; rw [upd_same] at e; cases e
            · rw [upd_ne hb] at e; exact hk2.trk _ e
/-- the promise of the law's def: whatever the draws' addresses, its rest answers True -/
def spLawD (K : PySem.W.Frag) (n i : Nat) (m : MS) : Sp := fun vs H Q E => ∃ (a : Addr) (ns : List Int), vs = [.ref a] ∧ SqL K H a (ns.map V.int) ∧ ns.length ≤ 1000 ∧
  (∀ r : Rng, r.great = bigOf ns → r.cells = absOf ns → r.rest = 0 → r.turn = 0 → ∃ ρ' S', m ((startL n [.scr ns]).set i (some (.imm (.rng r.at_)))) (some r) = some (.rt (.bl true), ρ', S')) ∧ ∀ H', Q (.bl true) H'
theorem law_ok {x qual : Str} {st : Stmt} {f : Addr} {fd : FuncData} {N : List Str} {k i : Nat} {m : MS} (F : Fun K x qual st f fd) (Sc : FnScope N ["script"] (defScope st)) (hi : i < N.length) (hi0 : 0 < i)
    (h1 : ∀ (H0 F0 : Hp) (R : Addr → Prop) (cdv : Value) (A : Around) (outer : List Env) (s : Shared) (H : Hp) (E : XK), Room k (A.deeper (envOfC qual (defScope st) s.heap.objs.size f cdv)) → PSs (cxOf CX0 P w K mg base N qual (defScope st) f cdv A outer s H E).nox (defBody st)
      (tSeq (tAsg (tCall (spBegun K) [] E0 (tCons (tVar 0) tNil)) (gName i)) (sS ⟨K, H0, F0, R⟩ m))) :
    FnOk P w K mg base CX0 (k + 1) f fd ["script"] (spLawD K N.length i m) := by
  refine F.ok Sc (fun vs H Q E h => ?_) fun cdv A outer s H vs Q E hr h => ?_
  · obtain ⟨a, ns, rfl, _⟩ := h; rfl
  · obtain ⟨a, ns, rfl, hq, hz, hm, q⟩ := h
    refine ⟨_, h1 H H (fun _ => False) cdv A outer s H E hr, ?_⟩
    have sl : Slots K (L2.start N [V.ref a]) (startL N.length [.scr ns]) H (fun _ => none) := startL_slots (N := N) (ds := [.scr ns]) (.cons (.scr hq) .nil)
    obtain ⟨v0, ev0, r0⟩ := sl.at_ 0 (.imm (.scr ns)) rfl
    have ev1 : v0 = V.ref a := by
      have e : (L2.start N [V.ref a])[0]? = some (some (V.ref a)) := rfl
      rw [e] at ev0; cases ev0; rfl
    subst ev1
    refine ⟨_, ev0, a, ns, rfl, hq, hz, fun r H' eg ec er et sm tr hat hg hcc n1 n2 n3 hne => ?_⟩
    obtain ⟨ρ', S', em⟩ := hm r eg ec er et
    have lu : Le H (upd H r.cA (.lst (r.cells.map V.int))) := le_upd n3
    have hac : r.at_ ≠ r.cA := fun z => by rw [z, hcc] at hat; cases hat
    refine ⟨upd H r.cA (.lst (r.cells.map V.int)), fun _ => none, _, some r, ⟨fun b o e => ?_, (fun _ _ _ h => nomatch h), fun b o e _ => sm b o e, tr, fun b o e => lu b o e, fun b o e => ?_, fun r2 e => ?_⟩, (sl.mono lu).set (l := .imm (.rng r.at_)) (Rep.rng r.at_), _, _, _, em, fun H2 F2 M2 hk2 le2 => ?_⟩
    · by_cases hb : b = r.cA
      · subst hb; rw [upd_same] at e; cases e; exact hcc
      · rw [upd_ne hb] at e; exact sm b o e
    · by_cases hb : b = r.cA
      · subst hb; exact .inr (.inl n3)
      · rw [upd_ne hb] at e; exact .inl e
    · cases e
      exact ⟨⟨hat, hg, upd_same, by rw [ec]; unfold absOf; rw [List.length_map]; exact hz, by rw [upd_ne hac]; exact n1, by rw [upd_ne hne.symm]; exact n2⟩, rfl, rfl, .inr n1, .inr n2⟩
    · exact fun v rv => by cases rv; exact q _
end
end Dv
namespace Dv
open PySem PySem.Spec
open PyProof.Rows L2
section
variable {G : Gh} {X : Cx} {e a b c o : Expr} {es : List Expr} {pos p2 : Pos} {st : Stmt}
/-! ### a if t else b, as a test -/
def tIfT (t ta tb : TT) : TT := fun σ H Q => t σ H fun d H1 => if d = true then ta σ H1 Q else tb σ H1 Q
theorem pt_ifExp {t ta tb : TT} (hc : PT X c t) (ha : PT X a ta) (hb : PT X b tb) : PT X (.IfExp c a b pos) (tIfT t ta tb) := by
  refine ⟨fun pins s σ H Q I h => isTrue_IfExp (thn (hc.run pins s σ H _ I h) fun d s1 ⟨H1, I1, q1⟩ => ?_)⟩
  cases d with
  | true => (exact ha.run pins s1 σ H1 Q I1 q1)
  | false => (exact hb.run pins s1 σ H1 Q I1 q1)
theorem st_ite {t m n : MT} (hc : PT X c (eT G t)) (ha : PT X a (eT G m)) (hb : PT X b (eT G n)) : PT X (.IfExp c a b pos) (eT G (mIte t m n)) := pt_imp (pt_ifExp hc ha hb) fun σ H Q ⟨F, M, ρ, S, hk, sl, d, S', e, q⟩ => by
  obtain ⟨⟨k, S1⟩, e1, e⟩ := Option.bind_eq_some_iff.mp e
  refine ⟨F, M, ρ, S, hk, sl, k, S1, e1, fun H' F' hk' le => ?_⟩
  cases k with
  | true => exact ⟨F', M, ρ, S1, hk', sl.mono le, d, S', e, fun H2 F2 hk2 le2 => q H2 F2 hk2 (le.trans le2)⟩
  | false => exact ⟨F', M, ρ, S1, hk', sl.mono le, d, S', e, fun H2 F2 hk2 le2 => q H2 F2 hk2 (le.trans le2)⟩

/-! ### a, b = x, y where the tuple is made (a name is a cell) -/
theorem HeapOk.laidU {H F : Hp} {M : OMap} {S : Sg} {p : Addr} {u : HO} (h : HeapOk G H F M S) (n : H p = none) : HeapOk G (upd H p u) F M S := by
  refine ⟨fun b o e => ?_, fun b w' d' e => ?_, fun b o e r => ?_, fun b e => ?_, h.f0, h.new, fun r e => ?_⟩
  · rw [upd_ne (ne_of_none (h.sub _ _ e) n)]; exact h.sub _ _ e
  · obtain ⟨f1, f2, o', e', r⟩ := h.own _ _ _ e
    exact ⟨f1, f2, o', by rw [upd_ne (ne_of_none e' n)]; exact e', r⟩
  · rw [upd_ne (ne_of_none (h.ent _ _ e r) n)]; exact h.ent _ _ e r
  · by_cases hb : b = p
    · subst hb; rw [upd_same] at e; cases e
    · rw [upd_ne hb] at e; exact h.trk _ e
  · obtain ⟨x, m1, m2, q⟩ := h.rng r e
    exact ⟨x.mono (le_upd n) (Same.refl F) x.fa x.fg, m1, m2, q⟩
theorem ex_mono {k : Bool} {m : ME} {σ : L2.St} {H : Hp} {Q Q' : V → Hp → Prop} (h : eX G k m σ H Q) (i : ∀ v H, Q v H → Q' v H) : eX G k m σ H Q' := by
  cases k with
  | false => obtain ⟨F, M, ρ, S, hk, sl, d, S', e, q⟩ := h; exact ⟨F, M, ρ, S, hk, sl, d, S', e, fun v H' F' hk' le r => i _ _ (q v H' F' hk' le r)⟩
  | true => obtain ⟨F, M, ρ, S, hk, sl, d, S', e, q⟩ := h; exact ⟨F, M, ρ, S, hk, sl, d, S', e, fun v H' F' hk' n le => i _ _ (q v H' F' hk' n le)⟩
/-- the statement's ends where a tuple more lies in the heap -/
def tupD (D : Ends) : Ends := { D with nx := fun σ H => ∀ p vs, H p = none → D.nx σ (upd H p (.tup vs)) }
theorem sS_tupD {m : MS} (hm : ∀ ρ S fl ρ' S', m ρ S = some (fl, ρ', S') → fl = .nx) {D : Ends} {σ : L2.St} {H : Hp} (h : sS G m D σ H) : sS G m (tupD D) σ H := by
  obtain ⟨F, M, ρ, S, hk, sl, fl, ρ', S', e, q⟩ := h
  refine ⟨F, M, ρ, S, hk, sl, fl, ρ', S', e, fun H' F' M' hk' le => ?_⟩
  have := hm _ _ _ _ _ e
  subst this
  exact fun σ' sl' p vs hp => q _ F' M' (hk'.laidU hp) le σ' sl'
abbrev gN2 (i j : Nat) : TGs := gCons (gName i) (gCons (gName j) gNil)
abbrev gN3 (i j l : Nat) : TGs := gCons (gName i) (gCons (gName j) (gCons (gName l) gNil))
theorem ss_parT2 {i j : Nat} {k1 k2 : Bool} {m1 m2 : ME} (hK : G.K = X.K) (h : PS X st (tAsg (tTup (tCons (eX G k1 m1) (tCons (eX G k2 m2) tNil))) (gTup X.K 2 (gN2 i j)))) : PS X st (sS G (sPar2 i j k1 m1 k2 m2)) := ps_imp h fun D σ H hs => by
  have h2 := sS_tupD (fun ρ S fl ρ' S' e => by
    obtain ⟨_, _, e⟩ := Option.bind_eq_some_iff.mp e
    obtain ⟨_, _, e⟩ := Option.map_eq_some_iff.mp e
    cases e; rfl) hs
  have h3 := par2_imp (tupD D) σ H h2
  refine ex_mono h3 fun x H1 h4 => ex_mono h4 fun y H2 h5 => ?_
  obtain ⟨x', y', e, h6⟩ := h5
  cases e
  exact ⟨(show 2 ≤ sizeLine by decide), fun p hp => ⟨p, _, rfl, .of upd_same, rfl, _, _, rfl, _, _, rfl, rfl, h6 p _ hp⟩⟩
theorem ss_parT3 {i j l : Nat} {k1 k2 k3 : Bool} {m1 m2 m3 : ME} (hK : G.K = X.K) (h : PS X st (tAsg (tTup (tCons (eX G k1 m1) (tCons (eX G k2 m2) (tCons (eX G k3 m3) tNil)))) (gTup X.K 3 (gN3 i j l)))) : PS X st (sS G (sPar3 i j l k1 m1 k2 m2 k3 m3)) := ps_imp h fun D σ H hs => by
  have h2 := sS_tupD (fun ρ S fl ρ' S' e => by
    obtain ⟨_, _, e⟩ := Option.bind_eq_some_iff.mp e
    obtain ⟨_, _, e⟩ := Option.bind_eq_some_iff.mp e
    obtain ⟨_, _, e⟩ := Option.map_eq_some_iff.mp e
    cases e; rfl) hs
  have h3 := par3_imp (tupD D) σ H h2
  refine ex_mono h3 fun x H1 h4 => ex_mono h4 fun y H2 h5 => ex_mono h5 fun z H3 h6 => ?_
  obtain ⟨x', y', z', e, h7⟩ := h6
  cases e
  exact ⟨(show 3 ≤ sizeLine by decide), fun p hp => ⟨p, _, rfl, .of upd_same, rfl, _, _, rfl, _, _, rfl, _, _, rfl, rfl, h7 p _ hp⟩⟩
end
end Dv
namespace Dv
open PySem PySem.Spec
open PyProof.Rows L2

/-! ### data without lists and dicts: what a call may hand back while it borrows -/
mutual
def pureD : D → Bool
  | .non => true
  | .bl _ => true
  | .int _ => true
  | .str _ => true
  | .tup ds => pureDs ds
  | .kt ds => pureDs ds
  | .fn _ => true
  | _ => false
def pureDs : List D → Bool
  | [] => true
  | d :: r => pureD d && pureDs r
end
theorem pureDs_get : ∀ {ds : List D} {i : Nat} {d : D}, pureDs ds = true → ds[i]? = some d → pureD d = true
  | [], i, d, _, h => by simp at h
  | x :: r, 0, d, h, e => by
    simp only [pureDs, Bool.and_eq_true] at h
    simp at e; subst e; exact h.1
  | x :: r, i + 1, d, h, e => by
    simp only [pureDs, Bool.and_eq_true] at h
    exact pureDs_get h.2 (by simpa using e)
theorem Rep.pure {K : PySem.W.Frag} {F F2 : Hp} {v : V} {d : D} (r : Rep K F v d) : pureD d = true → (∀ a vs, F a = some (.tup vs) → F2 a = some (.tup vs)) → Rep K F2 v d := by
  induction r with
  | non => intro _ _; exact .non
  | bl b => intro _ _; exact .bl b
  | int i => intro _ _; exact .int i
  | str x => intro _ _; exact .str x
  | tup h hz hl _ ih =>
    intro hp hf
    simp only [pureD] at hp
    exact .tup (hf _ _ h) hz hl fun i v d e1 e2 => ih i v d e1 e2 (pureDs_get hp e2) hf
  | kt h hl _ ih =>
    intro hp hf
    simp only [pureD] at hp
    exact .kt h hl fun i v d e1 e2 => ih i v d e1 e2 (pureDs_get hp e2) hf
  | lst => intro hp; simp [pureD] at hp
  | dK => intro hp; simp [pureD] at hp
  | dT => intro hp; simp [pureD] at hp
  | rng a => intro _ _; exact .rng a
  | fn a => intro _ _; exact .fn a
  | scr => intro hp; simp [pureD] at hp

def mCallB (f : List D → Option D) (m : MA) : ME := fun ρ S => (m ρ S).bind fun p => (f p.1).bind fun d => if pureD d then some (d, p.2) else none
section
variable {G : Gh} {X : Cx} {e a b c o : Expr} {es : List Expr} {pos p2 : Pos} {st : Stmt}
open Classical in
/-- the frozen part with the owned things seen too -/
noncomputable def seenO (H F : Hp) (M : OMap) : Hp := fun a => if M a = none then F a else H a
open Classical in
noncomputable def lessO (F : Hp) (M : OMap) : Hp := fun a => if M a = none then F a else none
theorem se_callB {f : List D → Option D} {m : MA} {E : XK} (h : PE X o (tCall (spP G.K f) [] E (eAB G m))) : PE X o (eE G (mCallB f m)) := pe_imp h fun σ H Q ⟨F, M, ρ, S, hk, sl, d, S', e, q⟩ => by
  obtain ⟨⟨ds, S1⟩, e1, e⟩ := Option.bind_eq_some_iff.mp e
  obtain ⟨d1, e2, e⟩ := Option.bind_eq_some_iff.mp e
  dsimp only at e
  split at e
  · rename_i hp
    cases e
    refine ⟨F, M, ρ, S, hk, sl, ds, _, e1, fun vs H1 F1 hk1 le1 rl => ?_⟩
    have leF : Le F1 (seenO H1 F1 M) := fun a o z => by
      have : M a = none := by
        cases y : M a with
        | none => rfl
        | some x => obtain ⟨w, dd⟩ := x; rw [(hk1.own _ _ _ y).1] at z; cases z
      unfold seenO; rw [if_pos this]; exact z
    have leH : Le (seenO H1 F1 M) H1 := fun a o z => by
      unfold seenO at z
      split at z
      · exact hk1.sub _ _ z
      · exact z
    have rl2 : RepL G.K (seenO H1 F1 M) vs ds := by
      refine paired_of (Paired.length rl) fun j v d ev ed => ?_
      rcases paired_get rl j v d ev ed with r | ⟨b, w, rfl, mb⟩
      · exact r.mono leF
      · obtain ⟨_, _, o, eo, ro⟩ := hk1.own _ _ _ mb
        refine (ro.mono leF).rep ?_
        unfold seenO; rw [if_neg (by rw [mb]; exact fun z => nomatch z)]; exact eo
    refine ⟨seenO H1 F1 M, ds, d, leH, by rw [List.append_nil]; exact rl2, e2, fun v H' F' sm tr le sub nw r => ?_⟩
    have le2 : Le F1 (lessO F' M) := fun a o z => by
      have : M a = none := by
        cases y : M a with
        | none => rfl
        | some x => obtain ⟨w, dd⟩ := x; rw [(hk1.own _ _ _ y).1] at z; cases z
      unfold lessO; rw [if_pos this]; exact le _ _ (leF _ _ z)
    have un : ∀ a o, lessO F' M a = some o → M a = none ∧ F' a = some o := fun a o z => by
      unfold lessO at z
      split at z
      · exact ⟨by assumption, z⟩
      · cases z
    refine q v H' (lessO F' M) (heap_called hk1 sm tr le2 (fun a o z => sub _ _ (un a o z).2) fun a o z => ?_) (le1.trans le2) (r.pure hp fun a vs z => ?_)
    · obtain ⟨mn, z⟩ := un a o z
      rcases nw _ _ z with y | y | y
      · refine .inl ?_
        unfold seenO at y
        rw [if_pos mn] at y; exact y
      · exact .inr (.inl y)
      · exact .inr (.inr y)
    · unfold lessO
      split
      · exact z
      · rename_i hm
        cases y : M a with
        | none => exact absurd y hm
        | some x =>
          obtain ⟨w, dd⟩ := x
          obtain ⟨_, _, o, eo, ro⟩ := hk1.own _ _ _ y
          have z1 := sm _ _ eo
          rw [sub _ _ z] at z1
          cases z1
          cases ro
  · cases e
end

/-! ### for k in d -/
def keyOf : Key → D
  | .inl i => .int i
  | .inr x => .str x
theorem rep_keyOf {K : PySem.W.Frag} {F : Hp} : ∀ k : Key, Rep K F (kV k) (keyOf k)
  | .inl i => .int i
  | .inr x => .str x
def mKeys (i : Nat) : MA := fun ρ S => match ρ[i]? with
  | some (some (.imm (.dK kvs))) => if kvs.length < 1000000 then some (kvs.map fun kv => keyOf kv.1, S) else none
  | _ => none
/-- one dict locked or unlocked -/
structure Chg (F F' : Hp) : Prop where
  oth : ∀ a o, F a = some o → (∀ k, o ≠ .dK k) → (∀ od k, o ≠ .frz od (.dK k)) → F' a = some o
  dk : ∀ a k, Rd F a (.dK k) → Rd F' a (.dK k)
theorem chg_lock {F : Hp} {d : Addr} {vs : List (Key × V)} {od : Obj} (hd : F d = some (.dK vs)) : Chg F (upd F d (.frz od (.dK vs))) := by
  refine ⟨fun a o e n1 n2 => ?_, fun a k e => ?_⟩
  · by_cases ha : a = d
    · subst ha; rw [hd] at e; cases e; exact absurd rfl (n1 _)
    · rw [upd_ne ha]; exact e
  · by_cases ha : a = d
    · subst ha
      rcases e with e | ⟨o, e⟩
      · rw [hd] at e; cases e; exact .inr ⟨_, upd_same⟩
      · rw [hd] at e; cases e
    · exact e.imp (fun e => by rw [upd_ne ha]; exact e) fun ⟨o, e⟩ => ⟨o, by rw [upd_ne ha]; exact e⟩
theorem chg_unlock {F : Hp} {d : Addr} {vs : List (Key × V)} {od : Obj} (hd : F d = some (.frz od (.dK vs))) : Chg F (upd F d (.dK vs)) := by
  refine ⟨fun a o e n1 n2 => ?_, fun a k e => ?_⟩
  · by_cases ha : a = d
    · subst ha; rw [hd] at e; cases e; exact absurd rfl (n2 _ _)
    · rw [upd_ne ha]; exact e
  · by_cases ha : a = d
    · subst ha
      rcases e with e | ⟨o, e⟩
      · rw [hd] at e; cases e
      · rw [hd] at e; cases e; exact .inl upd_same
    · exact e.imp (fun e => by rw [upd_ne ha]; exact e) fun ⟨o, e⟩ => ⟨o, by rw [upd_ne ha]; exact e⟩
theorem Rep.chg {K : PySem.W.Frag} {F F2 : Hp} {v : V} {d : D} (c : Chg F F2) (r : Rep K F v d) : Rep K F2 v d := by
  induction r with
  | non => exact .non
  | bl b => exact .bl b
  | int i => exact .int i
  | str x => exact .str x
  | tup h hz hl _ ih => exact .tup (c.oth _ _ h (fun _ z => nomatch z) fun _ _ z => nomatch z) hz hl ih
  | kt h hl _ ih => exact .kt h hl ih
  | lst h hz hl _ ih => exact .lst (c.oth _ _ h (fun _ z => nomatch z) fun _ _ z => nomatch z) hz hl ih
  | dK h hk _ ih => exact .dK (c.dk _ _ h) hk ih
  | dT h hk _ ih => exact .dT (c.oth _ _ h (fun _ z => nomatch z) fun _ _ z => nomatch z) hk ih
  | rng a => exact .rng a
  | fn a => exact .fn a
  | scr h =>
    (rcases h with (h | ⟨o, h⟩) | h)
    · exact .scr (.inl (.inl (c.oth _ _ h (fun _ z => nomatch z) fun _ _ z => nomatch z)))
    · exact .scr (.inl (.inr ⟨o, c.oth _ _ h (fun _ z => nomatch z) fun _ _ z => nomatch z⟩))
    · exact .scr (.inr h)
theorem RepL.chg {K : PySem.W.Frag} {F F2 : Hp} {vs : List V} {ds : List D} (c : Chg F F2) (r : RepL K F vs ds) : RepL K F2 vs ds := by
  induction r with
  | nil => exact .nil
  | cons r _ ih => exact .cons (r.chg c) ih
theorem RepP.chg {κ : Type} {K : PySem.W.Frag} {F F2 : Hp} {vs : List (κ × V)} {ds : List (κ × D)} (c : Chg F F2) (r : RepP K F vs ds) : RepP K F2 vs ds := by
  induction r with
  | nil => exact .nil
  | cons r _ ih => exact .cons ⟨r.1, r.2.chg c⟩ ih
theorem OwnHO.chg {K : PySem.W.Frag} {F F2 : Hp} {o : HO} {d : D} (c : Chg F F2) (r : OwnHO K F o d) : OwnHO K F2 o d := by
  cases r with
  | lst hz r => exact .lst hz (r.chg c)
  | dK r => exact .dK (r.chg c)
  | dT r => exact .dT (r.chg c)
theorem Slots.chg {K : PySem.W.Frag} {σ : L2.St} {ρ : Lo} {F F2 : Hp} {M : OMap} (c : Chg F F2) (s : Slots K σ ρ F M) : Slots K σ ρ F2 M := ⟨s.len, fun i l e => by
  obtain ⟨v, ev, r⟩ := s.at_ i l e
  refine ⟨v, ev, ?_⟩
  cases l with
  | imm d => exact Rep.chg c r
  | own d => exact r⟩
open Classical in
noncomputable def updIf (F : Hp) (d : Addr) (o : HO) : Hp := if F d = none then F else upd F d o
theorem updIf_ne {F : Hp} {d a : Addr} {o : HO} (h : a ≠ d) : updIf F d o a = F a := by
  unfold updIf; split
  · rfl
  · exact upd_ne h
theorem updIf_at {F : Hp} {d : Addr} {o : HO} (h : F d ≠ none) : updIf F d o d = some o := by
  unfold updIf; rw [if_neg h]; exact upd_same
theorem updIf_no {F : Hp} {d : Addr} {o : HO} (h : F d = none) : updIf F d o d = none := by
  unfold updIf; rw [if_pos h]; exact h
/-- the activation, seen while the dict at d is locked -/
noncomputable def lockG (G : Gh) (d : Addr) (o : HO) : Gh := ⟨G.K, updIf G.H0 d o, updIf G.F0 d o, G.R⟩
section
variable {G : Gh} {H H' F F' : Hp} {M M' : OMap} {S S' : Sg} {d : Addr} {vs : List (Key × V)} {od : Obj}
theorem HeapOk.lockd (h : HeapOk G H F M S) (hd : F d = some (.dK vs)) : HeapOk (lockG G d (.frz od (.dK vs))) (upd H d (.frz od (.dK vs))) (upd F d (.frz od (.dK vs))) M S := by
  have c := chg_lock (od := od) hd
  refine ⟨fun b u e => ?_, fun b w x e => ?_, fun b u e r => ?_, fun b e => ?_, fun b u e => ?_, fun b u e => ?_, fun r e => ?_⟩
  · by_cases hb : b = d
    · subst hb; rw [upd_same] at e ⊢; exact e
    · rw [upd_ne hb] at e ⊢; exact h.sub _ _ e
  · obtain ⟨f1, f2, o', e', r⟩ := h.own _ _ _ e
    have hb : b ≠ d := fun z => by rw [z, hd] at f1; cases f1
    exact ⟨by rw [upd_ne hb]; exact f1, by show updIf G.H0 d _ b = none; rw [updIf_ne hb]; exact f2, o', by rw [upd_ne hb]; exact e', r.chg c⟩
  · have e : updIf G.H0 d _ b = some u := e
    by_cases hb : b = d
    · subst hb
      by_cases hn : G.H0 b = none
      · rw [updIf_no hn] at e; cases e
      · rw [updIf_at hn] at e; rw [upd_same]; exact e
    · rw [updIf_ne hb] at e; rw [upd_ne hb]; exact h.ent _ _ e r
  · by_cases hb : b = d
    · subst hb; rw [upd_same] at e; cases e
    · rw [upd_ne hb] at e; show updIf G.H0 d _ b = none; rw [updIf_ne hb]; exact h.trk _ e
  · have e : updIf G.F0 d _ b = some u := e
    by_cases hb : b = d
    · subst hb
      by_cases hn : G.F0 b = none
      · rw [updIf_no hn] at e; cases e
      · rw [updIf_at hn] at e; rw [upd_same]; exact e
    · rw [updIf_ne hb] at e; rw [upd_ne hb]; exact h.f0 _ _ e
  · by_cases hb : b = d
    · subst hb
      rw [upd_same] at e; cases e
      rcases h.new _ _ hd with z | z | ⟨_, z⟩
      · exact .inl (updIf_at (by rw [z]; exact fun q => nomatch q))
      · exact .inr (.inl (updIf_no z))
      · cases z
    · rw [upd_ne hb] at e
      rcases h.new _ _ e with z | z | z
      · exact .inl (by show updIf G.F0 d _ b = _; rw [updIf_ne hb]; exact z)
      · exact .inr (.inl (by show updIf G.H0 d _ b = _; rw [updIf_ne hb]; exact z))
      · exact .inr (.inr z)
  · obtain ⟨x, m1, m2, q1, q2⟩ := h.rng r e
    have n1 : r.at_ ≠ d := fun z => by have := x.fa; rw [z, hd] at this; cases this
    have n2 : r.gA ≠ d := fun z => by have := x.fg; rw [z, hd] at this; cases this
    have n3 : r.cA ≠ d := fun z => by have := x.hc; rw [z, hd] at this; cases this
    refine ⟨⟨by rw [upd_ne n1]; exact x.hat, by rw [upd_ne n2]; exact x.hg, by rw [upd_ne n3]; exact x.hc, x.hz, by rw [upd_ne n1]; exact x.fa, by rw [upd_ne n2]; exact x.fg⟩, m1, m2, q1.imp id fun z => ?_, q2.imp id fun z => ?_⟩
    · show updIf G.H0 d _ r.at_ = none; rw [updIf_ne n1]; exact z
    · show updIf G.H0 d _ r.gA = none; rw [updIf_ne n2]; exact z
theorem HeapOk.unlockd (h0 : HeapOk G H F M S) (hd : F d = some (.dK vs)) (h : HeapOk (lockG G d (.frz od (.dK vs))) H' F' M' S') (le : Le (upd F d (.frz od (.dK vs))) F') :
    HeapOk G (upd H' d (.dK vs)) (upd F' d (.dK vs)) M' S' ∧ Le F (upd F' d (.dK vs)) ∧ Chg F' (upd F' d (.dK vs)) := by
  have hF' : F' d = some (.frz od (.dK vs)) := le _ _ upd_same
  have c := chg_unlock hF'
  refine ⟨⟨fun b u e => ?_, fun b w x e => ?_, fun b u e r => ?_, fun b e => ?_, fun b u e => ?_, fun b u e => ?_, fun r e => ?_⟩, fun b u e => ?_, c⟩
  · by_cases hb : b = d
    · subst hb; rw [upd_same] at e ⊢; exact e
    · rw [upd_ne hb] at e ⊢; exact h.sub _ _ e
  · obtain ⟨f1, f2, o', e', r⟩ := h.own _ _ _ e
    have hb : b ≠ d := fun z => by rw [z, hF'] at f1; cases f1
    have f2 : updIf G.H0 d _ b = none := f2
    rw [updIf_ne hb] at f2
    exact ⟨by rw [upd_ne hb]; exact f1, f2, o', by rw [upd_ne hb]; exact e', r.chg c⟩
  · by_cases hb : b = d
    · subst hb
      have z := h0.ent _ _ e r
      rw [h0.sub _ _ hd] at z
      rw [upd_same]; exact z
    · rw [upd_ne hb]
      exact h.ent _ _ (by show updIf G.H0 d _ b = _; rw [updIf_ne hb]; exact e) r
  · by_cases hb : b = d
    · subst hb; rw [upd_same] at e; cases e
    · rw [upd_ne hb] at e
      have z : updIf G.H0 d _ b = none := h.trk _ e
      rw [updIf_ne hb] at z; exact z
  · by_cases hb : b = d
    · subst hb
      have z := h0.f0 _ _ e
      rw [hd] at z
      rw [upd_same]; exact z
    · rw [upd_ne hb]
      exact h.f0 _ _ (by show updIf G.F0 d _ b = _; rw [updIf_ne hb]; exact e)
  · by_cases hb : b = d
    · subst hb; rw [upd_same] at e; cases e; exact h0.new _ _ hd
    · rw [upd_ne hb] at e
      rcases h.new _ _ e with z | z | z
      · have z : updIf G.F0 d _ b = _ := z
        rw [updIf_ne hb] at z; exact .inl z
      · have z : updIf G.H0 d _ b = _ := z
        rw [updIf_ne hb] at z; exact .inr (.inl z)
      · exact .inr (.inr z)
  · obtain ⟨x, m1, m2, q1, q2⟩ := h.rng r e
    have n1 : r.at_ ≠ d := fun z => by have := x.fa; rw [z, hF'] at this; cases this
    have n2 : r.gA ≠ d := fun z => by have := x.fg; rw [z, hF'] at this; cases this
    have n3 : r.cA ≠ d := fun z => by have := x.hc; rw [z, hF'] at this; cases this
    refine ⟨⟨by rw [upd_ne n1]; exact x.hat, by rw [upd_ne n2]; exact x.hg, by rw [upd_ne n3]; exact x.hc, x.hz, by rw [upd_ne n1]; exact x.fa, by rw [upd_ne n2]; exact x.fg⟩, m1, m2, q1.imp id fun z => ?_, q2.imp id fun z => ?_⟩
    · have z : updIf G.H0 d _ r.at_ = none := z
      rw [updIf_ne n1] at z; exact z
    · have z : updIf G.H0 d _ r.gA = none := z
      rw [updIf_ne n2] at z; exact z
  · by_cases hb : b = d
    · subst hb; rw [hd] at e; rw [upd_same]; exact e
    · rw [upd_ne hb]; exact le _ _ (by rw [upd_ne hb]; exact e)
end
section
variable {G : Gh} {X : Cx} {e a b c o : Expr} {es : List Expr} {pos p2 : Pos} {st : Stmt}
/-- the keys of the dict in the i-th slot, locked -/
def iD (G : Gh) (i : Nat) : TI := fun σ H R => ∃ F M ρ S, HeapOk G H F M S ∧ Slots G.K σ ρ F M ∧ ∃ ds S' d o vs, mKeys i ρ S = some (ds, S') ∧ σ[i]? = some (some (.ref d)) ∧ F d = some (.frz o (.dK vs)) ∧ vs.map (fun kv => keyOf kv.1) = ds ∧ vs.length < 1000000 ∧
  ∀ J H' F', HeapOk G H' F' M S' → Le F F' → WalkD G J ds F' → R J H'
theorem mKeys_S {i : Nat} {ρ : Lo} {S S' : Sg} {ds : List D} (h : mKeys i ρ S = some (ds, S')) : S' = S := by
  unfold mKeys at h
  split at h
  · split at h
    · cases h; rfl
    · cases h
  · cases h
theorem si_keys {tg : Expr} {i : Nat} (h : PE X e (tVar i)) : PI X tg e (iD G i) := pi_imp (pi_keys h) fun σ H R ⟨F, M, ρ, S, hk, sl, ds, S', d, o, vs, e1, ev, hd, hm, hz, q⟩ => by
  refine ⟨_, ev, d, o, rfl, .inl ⟨vs, hk.sub _ _ hd, ?_⟩⟩
  have hS := mKeys_S e1
  subst hS
  refine q _ H F hk (Same.refl F) (walkD_of walk_keys ?_ (by rw [← hm, List.length_map]) (fun H l => l _ _ hd) ?_)
  · rw [← hm, List.length_map, sizeLine_eq]; omega
  · rintro i H x H' F M S hi hk le ⟨rfl, k, v, e, rfl⟩
    exact ⟨F, keyOf k, hk, Same.refl F, by rw [← hm, List.getElem?_map, e]; rfl, rep_keyOf k⟩
theorem forD_imp {i : Nat} {is : List Nat} {g : MG} {m : MS} {D : Ends} {σ : L2.St} {H F : Hp} {M : OMap} {ρ ρ' : Lo} {S S1 S' : Sg} {ds : List Dv.D} {d : Addr} {ob : Obj} {vs : List (Key × V)} {fl : Fl}
    (hk : HeapOk G H F M S) (sl : Slots G.K σ ρ F M) (e1 : mKeys i ρ S = some (ds, S1)) (ev : σ[i]? = some (some (.ref d))) (hd : F d = some (.frz ob (.dK vs))) (hm : vs.map (fun kv => keyOf kv.1) = ds) (hz : vs.length < 1000000)
    (e : forGo g m ds ρ S1 = some (fl, ρ', S')) (q : ∀ H' F' M', HeapOk G H' F' M' S' → Le F F' → EndF G D fl ρ' H' F' M') : tFor (iD G i) (eG G is g) (sS G m) D σ H := by
  refine ⟨F, M, ρ, S, hk, sl, ds, S1, d, ob, vs, e1, ev, hd, hm, hz, fun J H1 F1 hk1 le1 w => ?_⟩
  refine ⟨fun i n σ H => n = ds.length - i ∧ i ≤ ds.length ∧ ∃ F' M' ρi Si, HeapOk G H F' M' Si ∧ Le F1 F' ∧ Slots G.K σ ρi F' M' ∧ forGo g m (ds.drop i) ρi Si = some (fl, ρ', S'),
    ⟨ds.length, by omega, by omega, F1, M, ρ, S1, hk1, Same.refl F1, sl.mono le1, by simpa using e⟩, ?_⟩
  rintro j n σ H ⟨rfl, hi, F', M', ρi, Si, hk', le', sl', er⟩
  by_cases hlt : j < ds.length
  · refine .inr ⟨w.goes j H hlt (le'.trans hk'.sub), fun σ H => j + 1 ≤ ds.length ∧ ∃ F' M' ρi Si, HeapOk G H F' M' Si ∧ Le F1 F' ∧ Slots G.K σ ρi F' M' ∧ forGo g m (ds.drop (j + 1)) ρi Si = some (fl, ρ', S'),
      fun σ' H' hN => ⟨ds.length - (j + 1), by omega, rfl, hN⟩, fun x H' y => ?_⟩
    obtain ⟨F2, dd, hk2, le2, ed, rx⟩ := w.yields j H x H' F' _ Si hlt hk' le' y
    have edr : ds.drop j = dd :: ds.drop (j + 1) := by
      (rw [List.drop_eq_getElem_cons hlt]); congr
      exact Option.some.inj ((List.getElem?_eq_getElem hlt).symm.trans ed)
    rw [edr] at er
    obtain ⟨ρ1, eg, er⟩ := Option.bind_eq_some_iff.mp er
    obtain ⟨⟨f2, ρ2, S2⟩, em, er⟩ := Option.bind_eq_some_iff.mp er
    refine ⟨F2, M', ρi, Si, dd, hk2, sl'.mono le2, rx, ρ1, eg, fun σ1 sl1 _ _ => ⟨F2, M', ρ1, Si, hk2, sl1, f2, ρ2, S2, em, fun H3 F3 M3 hk3 le3 => ?_⟩⟩
    cases f2 with
    | nx => exact fun σ3 sl3 => ⟨hlt, F3, M3, ρ2, S2, hk3, (le'.trans le2).trans le3, sl3, er⟩
    | ct => exact fun σ3 sl3 => ⟨hlt, F3, M3, ρ2, S2, hk3, (le'.trans le2).trans le3, sl3, er⟩
    | bk => cases er; exact q H3 F3 M3 hk3 (le1.trans ((le'.trans le2).trans le3))
    | rt d => cases er; exact q H3 F3 M3 hk3 (le1.trans ((le'.trans le2).trans le3))
  · have e : j = ds.length := by omega
    subst e
    rw [List.drop_length] at er
    cases er
    exact .inl ⟨w.stops H (le'.trans hk'.sub), q H F' M' hk' (le1.trans le') σ sl'⟩
theorem ps_ex {α : Type} {t : α → TS} (h : ∀ x, PS X st (t x)) : PS X st (fun D σ H => ∃ x, t x D σ H) := ⟨fun pins s σ H D I ⟨x, q⟩ => (h x).run pins s σ H D I q⟩
theorem ps_alt {t t' : TS} (h : PS X st t) (h' : PS X st t') : PS X st (fun D σ H => t D σ H ∨ t' D σ H) := ⟨fun pins s σ H D I q => q.elim (h.run pins s σ H D I) (h'.run pins s σ H D I)⟩
/-- for k in d, d a dict that is not written within -/
theorem ss_forD {i : Nat} {is : List Nat} {g : MG} {m : MS} (h : ∀ (H0 F0 : Hp) (R : Addr → Prop), PS X st (tFor (iD ⟨G.K, H0, F0, R⟩ i) (eG ⟨G.K, H0, F0, R⟩ is g) (sS ⟨G.K, H0, F0, R⟩ m))) : PS X st (sS G (sFor (mKeys i) g m)) := by
  have h1 : PS X st (fun D σ H => ∃ G' : {G' : Gh // G'.K = G.K}, tFor (iD G'.1 i) (eG G'.1 is g) (sS G'.1 m) D σ H) := ps_ex fun ⟨⟨K, H0, F0, R⟩, hK⟩ => by
    cases (show K = G.K from hK)
    exact h H0 F0 R
  refine ps_imp (ps_alt (ps_lock h1) h1) fun D σ H ⟨F, M, ρ, S, hk, sl, fl, ρ', S', e, q⟩ => ?_
  obtain ⟨⟨ds, S1⟩, e1, e⟩ := Option.bind_eq_some_iff.mp e
  have e1' := e1
  unfold mKeys at e1
  split at e1
  · rename_i kvs hi
    split at e1
    · rename_i hz
      cases e1
      obtain ⟨v, ev, r⟩ := sl.at_ _ _ hi
      obtain ⟨d, vs, rfl, hd, rp⟩ := Rep.undK r
      have hm : vs.map (fun kv => keyOf kv.1) = kvs.map (fun kv => keyOf kv.1) := by
        have z := congrArg (List.map keyOf) (RepP.keys rp)
        rw [List.map_map, List.map_map] at z
        exact z
      have hz' : vs.length < 1000000 := by rw [Paired.length rp]; exact hz
      rcases hd with hd | ⟨ob, hd⟩
      · refine .inl ⟨d, .dK vs, hk.sub _ _ hd, trivial, fun od => ⟨⟨lockG G d (.frz od (.dK vs)), rfl⟩, ?_⟩⟩
        have c := chg_lock (od := od) hd
        refine forD_imp (G := lockG G d (.frz od (.dK vs))) (hk.lockd hd) (sl.chg c) e1' ev upd_same hm hz' e fun H' F' M' hk' le' => ?_
        obtain ⟨hk2, le2, c2⟩ := HeapOk.unlockd hk hd hk' le'
        have hH : H' d = some (.frz od (.dK vs)) := hk'.sub _ _ (le' _ _ upd_same)
        have z := q _ _ M' hk2 le2
        cases fl with
        | nx => exact fun σ sl => ⟨hH, z σ (sl.chg c2)⟩
        | ct => exact fun σ sl => ⟨hH, z σ (sl.chg c2)⟩
        | bk => exact fun σ sl => ⟨hH, z σ (sl.chg c2)⟩
        | rt x => exact fun v r => ⟨hH, z v (r.chg c2)⟩
      · exact .inr ⟨⟨G, rfl⟩, forD_imp hk sl e1' ev hd hm hz' e q⟩
    · cases e1
  · cases e1
end
end Dv
namespace Dv
open PySem PySem.Spec
open PyProof.Rows L2

section
variable {G : Gh} {X : Cx} {e a b c o : Expr} {es : List Expr} {pos p2 : Pos} {st : Stmt}
theorem Slots.newO {K : PySem.W.Frag} {σ : L2.St} {ρ : Lo} {F : Hp} {M : OMap} {p : Addr} {x} (s : Slots K σ ρ F M) (n : M p = none) : Slots K σ ρ F (updO M p x) := ⟨s.len, fun i l h => by
  obtain ⟨v, ev, lr⟩ := s.at_ i l h
  refine ⟨v, ev, ?_⟩
  cases l with
  | imm d => exact lr
  | own d => obtain ⟨b, rfl, eb⟩ := lr; exact ⟨b, rfl, by rw [updO_ne fun z => by rw [z, n] at eb; cases eb]; exact eb⟩⟩
/-! ### {k: v} -/
def mDisp1 (mk mv : ME) : ME := fun ρ S => (mk ρ S).bind fun p => (mv ρ p.2).bind fun q => (keyD p.1).map fun k => (.dK [(k, q.1)], q.2)
theorem sf_disp1 {mk mv : ME} (h : PE X o (tDisp [(eE G mk, eE G mv)])) : PE X o (eF G (mDisp1 mk mv)) := pe_imp h fun σ H Q ⟨F, M, ρ, S, hk, sl, d, S', e, q⟩ => by
  obtain ⟨⟨d1, S1⟩, e1, e⟩ := Option.bind_eq_some_iff.mp e
  obtain ⟨⟨d2, S2⟩, e2, e⟩ := Option.bind_eq_some_iff.mp e
  obtain ⟨k, ek, e⟩ := Option.map_eq_some_iff.mp e
  cases e
  intro p hp
  have mp := hk.mnone hp
  have hkp := hk.laidO (w := none) (d := .dK []) hp (.dK .nil)
  refine ⟨F, _, ρ, S, hkp, sl.newO mp, d1, S1, e1, fun x H1 F1 hk1 le1 r1 => ⟨F1, _, ρ, S1, hk1, (sl.newO mp).mono le1, d2, S2, e2, fun y H2 F2 hk2 le2 r2 => ?_⟩⟩
  obtain ⟨nf, n0, oo, eo, ro⟩ := hk2.own p _ _ updO_same
  cases ro with
  | @dK us _ r =>
    cases r
    have hx := rep_key r1 ek
    subst hx
    refine ⟨eo, [(k, y)], rfl, (by show 1 ≤ 15; omega), ?_⟩
    have hw := hk2.write (w' := none) (o := .dK [(k, y)]) (d' := .dK [(k, d2)]) updO_same (.dK (.cons ⟨rfl, r2⟩ .nil))
    rw [updO_updO] at hw
    exact q p _ F2 hw mp (le1.trans le2)
/-! ### list(range(n)) -/
def mListRg (m : ME) : ME := fun ρ S => (m ρ S).bind fun p => match p.1 with
  | .int n => if 0 ≤ n ∧ n ≤ 1000000 then some (.lst (rangeL 0 n), p.2) else none
  | _ => none
theorem repL_rg {K : PySem.W.Frag} {F : Hp} {a b : Int} : RepL K F (rgV a b) (rangeL a b) := by
  unfold rgV rangeL
  induction (List.range (b - a).toNat) with
  | nil => exact .nil
  | cons x r ih => exact .cons (.int _) ih
theorem sf_listRg {m : ME} (h : PE X o (tLstRg (tRg1 (eB G m)))) : PE X o (eF G (mListRg m)) := pe_imp h fun σ H Q ⟨F, M, ρ, S, hk, sl, d, S', e, q⟩ => by
  obtain ⟨⟨d1, S1⟩, e1, e⟩ := Option.bind_eq_some_iff.mp e
  dsimp only at e
  split at e
  · split at e
    · rename_i n hz
      cases e
      refine ⟨F, M, ρ, S, hk, sl, _, _, e1, fun v H1 F1 hk1 le1 r => ?_⟩
      cases r.unint hk1
      refine ⟨n, rfl, RgOk.of_le (by omega) (by omega) (by omega) (by omega), fun p hp => ?_⟩
      refine q p _ F1 (hk1.laidO hp (.lst ?_ repL_rg)) (hk1.mnone hp) le1
      unfold rangeL
      rw [List.length_map, List.length_range, sizeLine_eq]; omega
    · cases e
  · cases e
/-! ### sorted(set(xs)), xs a list of pairs of small ints -/
def pairsD : List D → Option (List (Int × Int))
  | [] => some []
  | .tup [.int i, .int j] :: r => (pairsD r).map ((i, j) :: ·)
  | _ => none
def smallP (p : Int × Int) : Bool := decide (0 ≤ p.1) && decide (p.1 < 64) && decide (0 ≤ p.2) && decide (p.2 < 64)
def pD (p : Int × Int) : D := .tup [.int p.1, .int p.2]
def dedupP : List (Int × Int) → List (Int × Int)
  | [] => []
  | p :: r => if p ∈ dedupP r then dedupP r else p :: dedupP r
theorem mem_dedupP : ∀ {l : List (Int × Int)} {q}, q ∈ dedupP l ↔ q ∈ l
  | [], q => Iff.rfl
  | p :: r, q => by
    unfold dedupP
    split
    · rename_i h
      rw [mem_dedupP, List.mem_cons]
      exact ⟨.inr, fun z => z.elim (fun z => by rw [z]; exact mem_dedupP.mp h) id⟩
    · rw [List.mem_cons, List.mem_cons, mem_dedupP]
theorem nodup_dedupP : ∀ {l : List (Int × Int)}, (dedupP l).Nodup
  | [] => .nil
  | p :: r => by
    unfold dedupP
    split
    · exact nodup_dedupP
    · rename_i h
      exact List.nodup_cons.mpr ⟨h, nodup_dedupP⟩
def sortSet (ds : List D) : Option (List D) := (pairsD ds).bind fun ps => if ps.length < 64 && ps.all smallP then some ((sortPs (dedupP ps)).map pD) else none
def mSortSet (m : MA) : ME := fun ρ S => (m ρ S).bind fun p => match p.1 with
  | [.lst ds] => (sortSet ds).map fun r => (.lst r, p.2)
  | _ => none
theorem repL_pairs {K : PySem.W.Frag} {F : Hp} : ∀ {vs : List V} {ds : List D} {ps : List (Int × Int)}, RepL K F vs ds → pairsD ds = some ps →
    ∃ ks : List (Addr × List Int), vs = ks.map (fun p => V.ref p.1) ∧ ks.map (·.2) = ps.map (fun p => [p.1, p.2]) ∧ ∀ k ∈ ks, F k.1 = some (.tup (k.2.map V.int))
  | _, _, _, .nil, e => by cases e; exact ⟨[], rfl, rfl, fun _ h => nomatch h⟩
  | _, d :: r, ps, .cons rv t, e => by
    unfold pairsD at e
    split at e
    · rename_i e'; cases e'
    · rename_i i j r' e'
      cases e'
      obtain ⟨qs, e1, rfl⟩ := Option.map_eq_some_iff.mp e
      obtain ⟨ks, rfl, h2, h3⟩ := repL_pairs t e1
      obtain ⟨a, us, rfl, ha, ru⟩ := rv.untup'
      cases ru with
      | cons r1 ru =>
        cases ru with
        | cons r2 ru =>
          cases ru
          cases r1
          cases r2
          refine ⟨(a, [i, j]) :: ks, rfl, by rw [List.map_cons, h2]; rfl, fun k hk => ?_⟩
          rcases List.mem_cons.mp hk with z | z
          · subst z; exact ha
          · exact h3 k z
    · cases e
def toPair (l : List Int) : Int × Int := (l.getD 0 0, l.getD 1 0)
theorem sf_sortset {m : MA} (hK : G.K = X.K) (h : PE X o (tCB (rSortedT X.K X.prog X.w) (tCons (tCB (rSetOfT X.K X.prog X.w) (eAB G m)) tNil))) : PE X o (eF G (mSortSet m)) := pe_imp h fun σ H Q ⟨F, M, ρ, S, hk, sl, d, S', e, q⟩ => by
  obtain ⟨⟨ds, S1⟩, e1, e⟩ := Option.bind_eq_some_iff.mp e
  dsimp only at e
  split at e
  · rename_i xs
    obtain ⟨out, e2, e⟩ := Option.map_eq_some_iff.mp e
    cases e
    obtain ⟨ps, ep, e2⟩ := Option.bind_eq_some_iff.mp e2
    split at e2
    · rename_i hs
      cases e2
      simp only [Bool.and_eq_true, decide_eq_true_eq] at hs
      refine ⟨F, M, ρ, S, hk, sl, _, _, e1, fun vs H1 F1 hk1 le1 rl => ?_⟩
      obtain ⟨v, rfl, r⟩ := brl1 rl
      obtain ⟨l, us, rfl, hl, ru⟩ := r.unlst hk1
      obtain ⟨ks, rfl, hks, hkf⟩ := repL_pairs ru ep
      have hlen : ks.length = ps.length := by have z := congrArg List.length hks; simpa using z
      have hSq : ∀ p ∈ ks, SqT X.K H1 p.1 (p.2.map V.int) := fun p hp => .of (hk1.sub _ _ (hkf p hp))
      refine ⟨l, ks, rfl, .of hl, hSq, by rw [hlen]; exact hs.1, fun a L ha hL1 hL2 => ?_⟩
      have hk2 := hk1.laid (o := SetTO X.prog X.w a L) ha
      have le2 := le_upd (o := SetTO X.prog X.w a L) (hk1.fnone ha)
      have pk : ∀ p ∈ ks, ∃ q ∈ ps, p.2 = [q.1, q.2] := fun p hp => by
        have z : p.2 ∈ ks.map (·.2) := List.mem_map.mpr ⟨p, hp, rfl⟩
        rw [hks] at z
        obtain ⟨q, hq, e⟩ := List.mem_map.mp z
        exact ⟨q, hq, e.symm⟩
      have hsm : ∀ q ∈ ps, 0 ≤ q.1 ∧ q.1 < 64 ∧ 0 ≤ q.2 ∧ q.2 < 64 := fun q hq => by
        have z := List.all_eq_true.mp hs.2 q hq
        simp only [smallP, Bool.and_eq_true, decide_eq_true_eq] at z
        exact ⟨z.1.1.1, z.1.1.2, z.1.2, z.2⟩
      refine ⟨a, L, 2, 64, rfl, upd_same, fun p hp => .of (hk2.sub _ _ (le2 _ _ (hkf p (hL1 p hp)))), by decide, fun p hp => ?_, fun L' p hpm hnd hln hpw hpn => ?_⟩
      · obtain ⟨q, hq, e⟩ := pk p (hL1 p hp)
        obtain ⟨b1, b2, b3, b4⟩ := hsm q hq
        rw [e]
        refine ⟨rfl, fun m hm => ?_⟩
        rcases List.mem_cons.mp hm with z | z
        · subst z; exact ⟨b1, b2⟩
        · (rcases List.mem_cons.mp z with z | z)
          · subst z; exact ⟨b3, b4⟩
          · cases z
      · have mem' : ∀ p ∈ L', p ∈ ks := fun p hp => hL1 p (hpm.mem_iff.mp hp)
        have tp : ∀ p ∈ L', p.2 = [(toPair p.2).1, (toPair p.2).2] ∧ toPair p.2 ∈ ps := fun p hp => by
          obtain ⟨q, hq, e⟩ := pk p (mem' p hp)
          rw [e]
          exact ⟨rfl, hq⟩
        have pw2 : (L'.map fun p => toPair p.2).Pairwise fun x y => SrtO.lexB y x = false := by
          refine List.pairwise_map.mpr ?_
          have nd := List.pairwise_map.mp hnd
          refine (hpw.and nd).imp_of_mem fun {x y} hx hy hxy => ?_
          obtain ⟨ex, mx⟩ := tp x hx
          obtain ⟨ey, my⟩ := tp y hy
          have bx := hsm _ mx
          have by' := hsm _ my
          have h1 := hxy.1
          have h2 := hxy.2
          rw [ex, ey] at h1 h2
          have z := pair_lt h1 h2 ⟨bx.1, bx.2.1⟩ ⟨bx.2.2.1, bx.2.2.2⟩ ⟨by'.1, by'.2.1⟩ ⟨by'.2.2.1, by'.2.2.2⟩
          cases hh : SrtO.lexB (toPair y.2) (toPair x.2) with
          | false => rfl
          | true =>
            have z2 := SrtO.lexB_iff.mp hh
            omega
        have nd2 : (L'.map fun p => toPair p.2).Nodup := by
          have hnd' := List.pairwise_map.mp hnd
          refine List.pairwise_map.mpr (List.Pairwise.imp_of_mem (fun {x y} hx hy hne e => hne ?_) hnd')
          rw [(tp x hx).1, (tp y hy).1, e]
        have pm2 : (L'.map fun p => toPair p.2).Perm (dedupP ps) := by
          refine (List.perm_ext_iff_of_nodup nd2 nodup_dedupP).mpr fun q => ?_
          rw [mem_dedupP]
          refine ⟨fun hq => ?_, fun hq => ?_⟩
          · obtain ⟨p, hp, rfl⟩ := List.mem_map.mp hq
            exact (tp p hp).2
          · have z : [q.1, q.2] ∈ ks.map (·.2) := by rw [hks]; exact List.mem_map.mpr ⟨q, hq, rfl⟩
            obtain ⟨p, hp, e⟩ := List.mem_map.mp z
            have z2 := hL2 p hp
            obtain ⟨p', hp', e'⟩ := List.mem_map.mp z2
            refine List.mem_map.mpr ⟨p', hpm.mem_iff.mpr hp', ?_⟩
            rw [e', e]; rfl
        have eq := sortPs_eq pm2 pw2
        have rl' : RepL G.K (upd F1 a (SetTO X.prog X.w a L)) (L'.map fun q => V.ref q.1) ((L'.map fun p => toPair p.2).map pD) := by
          refine paired_of (by simp) fun i v d e1 e2 => ?_
          rw [List.getElem?_map] at e1
          rw [List.map_map, List.getElem?_map] at e2
          obtain ⟨p, ep, rfl⟩ := Option.map_eq_some_iff.mp e1
          rw [ep] at e2
          cases e2
          have hp := List.mem_of_getElem? ep
          have z := le2 _ _ (hkf p (mem' p hp))
          rw [(tp p hp).1] at z
          exact .mkTup z (show 2 ≤ sizeLine by decide) (.cons (.int _) (.cons (.int _) .nil))
        rw [eq] at rl'
        refine q p _ _ (hk2.laidO hpn (.lst ?_ rl')) (hk2.mnone hpn) (le1.trans le2)
        rw [← Paired.length rl', List.length_map, sizeLine_eq]; omega
    · cases e2
  · cases e
end
/-! ### f() -/
section
variable {G : Gh} {X : Cx} {o : Expr}
theorem pe_c0 {X : Cx} {k j : Nat} {x : Str} {sp : Sp} {p pos : Pos} (c : C8.Cal X.prog X.w X.K X.mg X.base k x sp []) (hr : Room j X.A) (hk : k ≤ j) (hg : Gl X x) (hdb : (x == ("__debug__" : Str)) = false := by decide) :
    PE X (.Call (.Name x p) [] [] pos) (tCall sp [] E0 tNil) := by
  (obtain ⟨f, fd, ps, ds, F, hm, kp, b, d⟩ := c.ex); exact pe_call0 F (hr.mono hk) hg hm kp b d pass0 hdb
theorem se_call0 {f : List D → Option D} {E : XK} (h : PE X o (tCall (spP G.K f) [] E tNil)) : PE X o (eE G (mCall f (mPure []))) := pe_imp h fun σ H Q ⟨F, M, ρ, S, hk, sl, d, S', e, q⟩ => by
  obtain ⟨ds, e1, e2⟩ := mCall_some e
  cases e1
  exact ⟨F, [], d, hk.sub, .nil, e2, fun v H' F' sm tr le sub nw r => q v H' F' (heap_called hk sm tr le sub nw) le r⟩
end
end Dv
namespace PySem
/-- enumerate(v) of anything whose iterator is known -/
theorem meets_enumerate_new1 {v : Value} {o : Obj} {H : Heap → Prop} (B : Begins v o H) :
    Meets (Builtin.«enumerate.__new__» ⟨[.type "enumerate", v], []⟩) (fun _ R s => H s.heap ∧
      R (.ok (.ret (.ref (s.heap.push o).objs.size))) { s with heap := (s.heap.push o).push { cls := .type "enumerate", data := .fields #[.none, .bool false, .ref s.heap.objs.size, rawInt 0, .none, .none] } }) := by
  refine .of_wp fun prog w A R s0 hh => ?_
  obtain ⟨hp, ge, dr, tk, os⟩ := s0
  obtain ⟨hb, fin⟩ := hh
  have sub_en := sub_enumerate
  have it_ev : ∀ {A' : Around} {E : Value → Shared → Prop} {Q : Value → Shared → Prop}, Q (.ref hp.objs.size) ⟨hp.push o, ge, dr, tk, os⟩ → wpAny (model prog w) A' (pyIter v) Q E ⟨hp, ge, dr, tk, os⟩ := fun z =>
    B.iter prog w _ _ ⟨hp, ge, dr, tk, os⟩ _ hb z
  wp_walk using it_ev
  (refine wpAny_stack_any fun st => wpAny_pure ?_); split
  · rename_i c _ _ _ _ _
    cases (c == Value.type "enumerate") <;> (wp_walk using it_ev; exact ⟨_, rfl, fin⟩)
  · wp_walk using it_ev
    exact ⟨_, rfl, fin⟩
theorem enum_begins1 {prog : Program} {w : World} {A : Around} {E : Value → Shared → Prop} {s : Shared} {v : Value} {o : Obj} {H : Heap → Prop} {Q : Value → Shared → Prop} (B : Begins v o H) (h1 : H s.heap)
    (h : ∀ h', IsEnum h' (s.heap.objs.size + 1) s.heap.objs.size 0 .none → h'.get? s.heap.objs.size = some o → (∀ b o, s.heap.get? b = some o → h'.get? b = some o) → Q (.ref (s.heap.objs.size + 1)) { s with heap := h' }) :
    wpAny (model prog w) A (call (.type "enumerate") [v]) Q E s := by
  refine callType_new F.called_enumerate (by decide) (F.typeCall_enumerate_1 _) (F.newCall_enumerate_1 _) (fun obj => F.args_object_init_2 obj _) F.entry_enumerate_new (meets_enumerate_new1 B) ⟨h1, ?_⟩
  (have hz : (s.heap.push o).objs.size = s.heap.objs.size + 1 := Heap.size_push ..); show _ ∧ _
  rw [hz]
  have he := Heap.get?_push_size (s.heap.push o) (o := { cls := .type "enumerate", data := .fields #[.none, .bool false, .ref s.heap.objs.size, rawInt 0, .none, .none] }) rfl
  rw [hz] at he
  exact ⟨⟨_, he, rfl⟩, h _ he (Heap.get?_push_of_some _ (Heap.get?_push_size _ B.free)) fun b o x => Heap.get?_push_of_some _ (Heap.get?_push_of_some _ x)⟩
end PySem
namespace Dv
open PySem PySem.Spec
open PyProof.Rows L2

/-! ### enumerate of a list or a tuple -/
theorem enum_ne {h : Heap} {k : Bool} {a e it : Addr} {its : Array Value} {i : Int} {old : Value} (he : IsEnum h e it i old) (x : SeqIs h k a its) : e ≠ a := fun z => by
  subst z
  have h1 : ∃ o, h.get? e = some o ∧ (o.cls = .type "list" ∨ o.cls = .type "tuple") := by
    cases k with
    | true => obtain ⟨o, e, c, _⟩ := (show h.IsList e its from x); exact ⟨o, e, .inl c⟩
    | false => obtain ⟨o, e, c, _⟩ := (show h.IsTuple e its from x); exact ⟨o, e, .inr c⟩
  obtain ⟨o, e1, c1⟩ := h1
  have he : h.get? e = some _ := he
  rw [he] at e1
  cases e1
  rcases c1 with c1 | c1 <;> simp at c1
def IteQ (K : PySem.W.Frag) (k : Bool) (a : Addr) : It :=
  ⟨fun i H => ∃ (xs : List V) (x : V), SqK K H k a xs ∧ xs[i]? = some x, fun i H v H' => ∃ T x, v = .ref T ∧ H T = none ∧ H' = upd H T (.tup [.int (i : Nat), x]) ∧ ∀ xs, SqK K H k a xs → xs[i]? = some x, fun i H => ∃ xs : List V, SqK K H k a xs ∧ i = xs.length⟩
theorem turn_enumQ {P : Program} {w : World} {K : PySem.W.Frag} {elts : List Expr} {kk : Nat} {tpos : Pos} {k : Bool} {a e it : Addr} (hei : e ≠ it) :
    Turn P w K (.Tuple elts kk tpos) (IteQ K k a) [e, it] e (fun i h => (∃ old, IsEnum h e it ((i : Nat) : Int) old) ∧ ItQ h k it a i) where
  mem := by simp
  obj := fun i h st b hb => by
    obtain ⟨⟨old, he⟩, h1⟩ := st
    (have e' : b = e ∨ b = it := by simpa using hb); rcases e' with z | z
    · (rw [z]; exact ⟨_, he, fun v q => nomatch q⟩)
    · rw [z]; exact h1.obj
  keep := fun i h h' st k => let ⟨⟨old, he⟩, h1⟩ := st; ⟨⟨old, k e (by simp) _ he⟩, h1.at fun o q => k it (by simp) o q⟩
  item := by
    (intro X hP hw hK hc i pins s σ H E I hf st hg); subst hP hw hK
    obtain ⟨⟨old, he⟩, h1⟩ := st
    obtain ⟨xs, x, hq, hx⟩ := hg
    obtain ⟨its, rv, p⟩ := seqIs_of I hq
    (obtain ⟨u, hu, ru⟩ := rv.get hx); have hd := I.ok.hd hc
    have hne : a ≠ it := seq_ne p h1
    have hea : e ≠ a := enum_ne he p
    have hi1 : i < its.toArray.size := by simpa using (List.getElem?_eq_some_iff.mp hu).1
    have W := WalksT.enumerateD (A := X.A) (drawsQ (P := X.prog) (w := X.w) (A := X.A.in1) hd k it a hne its.toArray) e hei (by simp [hei, hea]) (by simp)
    refine W.item i s _ E hi1 ⟨⟨old, he⟩, h1, p⟩ fun T vals h' tk hP hT htup hMid hk => ⟨.ref T, rfl, ?_⟩
    refine W.go elts kk tpos i T { s with heap := h', toks := tk } _ E hMid fun h'' hSt hk2 => ?_
    obtain ⟨t, x1, e1, rfl⟩ := hP
    have e1' : u = x1 := by rw [List.getElem?_toArray] at e1; rw [hu] at e1; exact Option.some.inj e1
    subst e1'
    obtain ⟨⟨old', he'⟩, h1', _⟩ := hSt
    have apT := W.apart i T h' hMid
    have hT2 : h''.IsTuple T #[.int i t, u] := htup.at fun o e => hk2 T o apT e
    have new : ObjOk X.prog X.w (upd H T (.tup [.int (i : Nat), x])) h'' T (.tup [.int (i : Nat), x]) := ⟨by show 2 ≤ sizeLine; decide, [.int i t, u], .cons ⟨_, rfl⟩ (.cons ru .nil), hT2⟩
    have I1 : Inv X pins σ (upd H T (.tup [.int (i : Nat), x])) { s with heap := h'', toks := tk } :=
      I.turnedNew (t' := tk) (h' := h'') (ch := [e, it]) (fun c o hb q => hk2 c o (fun m => hb m) (hk c o (fun m => hb m) q)) hf hT new
    exact ⟨.ref T, _, I1, rfl, ⟨T, x, rfl, I.hok.fresh hT, rfl, fun l hl => by rw [sqk_inj I hl hq]; exact hx⟩, ⟨⟨old', he'⟩, h1'⟩, fun c hcm => by
      have hlt : c < s.heap.objs.size := by
        have e' : c = e ∨ c = it := by simpa using hcm
        rcases e' with q | q
        · rw [q]; exact Heap.lt_size he
        · rw [q]; obtain ⟨_, e1, _⟩ := h1.obj; exact Heap.lt_size e1
      rw [upd_ne (Nat.ne_of_lt (Nat.lt_of_lt_of_le hlt hT))]
      exact (hf c hcm).1⟩
  done := by
    (intro X hP hw hK hc i pins s σ H E I hf st hg); subst hP hw hK
    obtain ⟨⟨old, he⟩, h1⟩ := st
    obtain ⟨xs, hq, hx⟩ := hg
    obtain ⟨its, rv, p⟩ := seqIs_of I hq
    have hd := I.ok.hd hc
    have hne : a ≠ it := seq_ne p h1
    have hea : e ≠ a := enum_ne he p
    have W := WalksT.enumerateD (A := X.A) (drawsQ (P := X.prog) (w := X.w) (A := X.A.in1) hd k it a hne its.toArray) e hei (by simp [hei, hea]) (by simp)
    have l1 := rv.length
    have hi : i = its.toArray.size := by simp only [List.size_toArray]; omega
    subst hi
    exact W.done s _ E ⟨⟨old, he⟩, h1, p⟩ fun h' tk hk => ⟨rfl, I.turnedL (t' := tk) (ch := [e, it]) (fun c o hb q => hk c o (fun m => hb m) q) hf⟩
  self := fun _ _ _ _ _ ⟨⟨_, he⟩, _⟩ q => wpAny_pyIter_enum he q
def iEnumQ (K : PySem.W.Frag) (ta : TA) : TI := fun σ H R => ta σ H fun vs H1 => ∃ k a xs, vs = [.ref a] ∧ SqK K H1 k a xs ∧ R (IteQ K k a) H1
theorem pi_enumQ {X : Cx} {e : Expr} {ta : TA} {p pos tpos : Pos} {elts : List Expr} {kk : Nat} (hg : Gl X "enumerate") (hm : X.mg "enumerate" = none) (ha : PA X [e] ta) (hs : starEach [e] X.env = [(false, eval e X.env)] := by rfl) :
    PI X (.Tuple elts kk tpos) (.Call (.Name "enumerate" p) [e] [] pos) (iEnumQ X.K ta) := by
  (refine ⟨fun pins s σ H R I h => ?_⟩); refine Call_ (ld_blt I hg hm boot_enumerate (PyProof.Rows.callWith_type1 (thn (ha.run pos pins s σ H _ I h) fun us s1 ⟨vs, H1, I1, r1, q1⟩ => ?_) hs rfl))
  obtain ⟨k, a, xs, ex, hq, q⟩ := q1
  subst ex
  cases r1 with
  | cons r rr =>
    cases rr
    cases r
    obtain ⟨its, rv, p1⟩ := seqIs_of I1 hq
    refine enum_begins1 (beginsQ k a its.toArray) p1 fun h' he h1 hk => wpAny_pyIter_enum he ?_
    (have I2 : Inv X pins σ H1 { s1 with heap := h' } := I1.kept (t' := s1.toks) hk); refine ⟨s1.heap.objs.size + 1, [s1.heap.objs.size + 1, s1.heap.objs.size], _, _, H1, rfl, I2, turn_enumQ (Nat.succ_ne_self _), ⟨⟨.none, he⟩, ItQ.new h1⟩, fun b hb => ?_, q⟩
    (have e' : b = s1.heap.objs.size + 1 ∨ b = s1.heap.objs.size := by simpa using hb); have hle : s1.heap.objs.size ≤ b := by
      rcases e' with z | z
      · (rw [z]; exact Nat.le_add_right _ _)
      · rw [z]; exact Nat.le_refl _
    (exact I1.fpOk hle (I1.hok.fresh hle))
theorem walk_enumQ {K : PySem.W.Frag} {k : Bool} {a : Addr} {xs : List V} : Walk (IteQ K k a) xs.length (fun H => SqK K H k a xs) (YPair (fun i => some (.int (i : Nat))) (fun i => xs[i]?)) := by
  refine ⟨fun i _ hi q => ⟨xs, xs[i], q, by simp [hi]⟩, fun _ q => ⟨xs, q, rfl⟩, fun i H v H' _ q y => ?_⟩
  (obtain ⟨T, x, h1, h2, h3, h4⟩ := y); exact ⟨T, .int (i : Nat), x, h1, h2, h3, rfl, h4 xs q⟩
section
variable {G : Gh} {X : Cx} {e a b c o : Expr} {es : List Expr} {pos p2 : Pos} {st : Stmt}
def mEnumQ (m : MA) : MA := fun ρ S => (m ρ S).bind fun p => match p.1 with
  | [x] => (itemsD x).map fun xs => (xs.mapIdx fun i d => .tup [.int (i : Nat), d], p.2)
  | _ => none
theorem si_enumQ {tg : Expr} {m : MA} (hK : G.K = X.K) (h : PI X tg e (iEnumQ G.K (eA G m))) : PI X tg e (iI G (mEnumQ m)) := pi_imp h fun σ H R ⟨F, M, ρ, S, hk, sl, ds, S', e, q⟩ => by
  obtain ⟨⟨d1, S1⟩, e1, e2⟩ := Option.bind_eq_some_iff.mp e
  split at e2
  · rename_i x ed
    obtain ⟨xs, ex, e2⟩ := Option.map_eq_some_iff.mp e2
    cases e2
    have ed : d1 = [x] := ed
    subst ed
    refine ⟨F, M, ρ, S, hk, sl, _, _, e1, fun vs H' F' hk' le r => ?_⟩
    cases r with
    | cons r1 r =>
      cases r
      obtain ⟨k1, a, us, rfl, s1, rl, z1⟩ := rep_sqk hk'.sub r1 ex
      have l1 := Paired.length rl
      refine ⟨k1, a, us, rfl, s1 _ hk'.sub, q _ _ _ hk' le (walkD_of (walk_enumQ (K := G.K) (k := k1) (a := a) (xs := us)) (by rw [List.length_mapIdx]; exact z1) (by rw [List.length_mapIdx]; exact l1) (fun H l => ?_) fun i H v H' F2 M2 S2 hi hk2 l2 y => ?_)⟩
      · exact s1 _ l
      · obtain ⟨T, x, y, rfl, hT, rfl, hx, hy⟩ := y
        cases hx
        obtain ⟨dy, edy, ry⟩ := paired_get'' rl hy
        have lu := le_upd (o := .tup [.int (i : Nat), y]) (hk2.fnone hT)
        exact ⟨_, .tup [.int (i : Nat), dy], hk2.laid hT, lu, by rw [List.getElem?_mapIdx, edy]; rfl, .mkTup upd_same (Nat.le_trans (Nat.le_refl 2) (by decide)) (.cons (.int _) (.cons (ry.mono (l2.trans lu)) .nil))⟩
  · cases e2
end
end Dv
namespace K35
open PySem PySem.Spec PyProof.Rows L2 Dv
noncomputable def m_law_is_truth : MS := (sRet (mIte (mTst (mVar 1)) (mOp2 isD (mVarB 0) (mPure (.bl true))) (mOp2 isD (mVarB 0) (mPure (.bl false)))))
noncomputable def f_law_is_truth : List D → Option D := runP 2 2 m_law_is_truth
noncomputable def m_law_same : MS := (sSq (sSetF 2 (mLst (mCons (mTup (mCons (mVar 0) (mCons (mVar 1) (mPure [])))) (mPure []))))
  (sSq (sWh (mTst (mOp2 neD (mVarB 2) (mLst (mPure [])))) (sSq (sPop 2 (gTp 2 (gCns (gNm 3) (gCns (gNm 4) gNl))))
  (sIf (mOr (mTst (mOp2 isD (mVarB 4) (mPure .non))) (mTst (mOp1 (isiD "bool") (mVarB 4)))) (sIf (mIte (mTst (mOp2 isD (mVarB 4) (mPure .non))) (mTst (mOp2 isnotD (mVarB 3) (mPure .non))) (mNot (mTst (mCall f_law_is_truth (mCons (mVar 3) (mCons (mVar 4) (mPure []))))))) (sRet (mPure (.bl false))) sNil) (sIf (mTst (mOp1 (isi2D "int" "str") (mVarB 4))) (sIf (mOr (mTst (mOp1 (isiD "bool") (mVarB 3))) (mOr (mTst (mOp2 neD (mOp1 (isiD "int") (mVarB 3)) (mOp1 (isiD "int") (mVarB 4)))) (mTst (mOp2 neD (mVarB 3) (mVarB 4))))) (sRet (mPure (.bl false))) sNil) (sIf (mTst (mOp1 (isiD "dict") (mVarB 4))) sNever (sSq (sSet 5 (mLst (mCons (mAndV (mOp1 (isiD "tuple") (mVarB 3)) (mOp1 (isiD "tuple") (mVarB 4))) (mCons (mAndV (mOp1 (isiD "list") (mVarB 3)) (mOp1 (isiD "list") (mVarB 4))) (mPure [])))))
  (sSq (sIf (mOr (mTst (mOp2 ninD (mPure (.bl true)) (mVarB 5))) (mTst (mOp2 neD (mCall lenD (mCons (mVarB 3) (mPure []))) (mCall lenD (mCons (mVarB 4) (mPure [])))))) (sRet (mPure (.bl false))) sNil)
  (sExt 2 (mLc (mZip2 (mCons (mVar 3) (mCons (mVar 4) (mPure [])))) [7, 8] (gTp 2 (gCns (gNm 7) (gCns (gNm 8) gNl))) (mPure true) (mTup (mCons (mVar 7) (mCons (mVar 8) (mPure [])))))))))))))
  (sRet (mPure (.bl true)))))
noncomputable def f_law_same : List D → Option D := runP 2 9 m_law_same
noncomputable def m_is_whole : MS := (sRet (mAndV (mOp1 (isiD "int") (mVarB 0)) (mNotV (mOp1 (isiD "bool") (mVarB 0)))))
noncomputable def f_is_whole : List D → Option D := runP 1 1 m_is_whole
noncomputable def m_is_ratio : MS := (sSq (sIf (mOr (mNot (mTst (mOp1 (isiD "tuple") (mVarB 0)))) (mOr (mTst (mOp2 neD (mCall lenD (mCons (mVarB 0) (mPure []))) (mPure (.int 2)))) (mNot (mTst (mCall allD (mCons (mLc (mSeq (mVar 0)) [1] (gNm 1) (mPure true) (mCall f_is_whole (mCons (mVar 1) (mPure [])))) (mPure []))))))) (sRet (mPure (.bl false))) sNil)
  (sRet (mAndV (mOp2 gtD (mOp2 ixD (mVarB 0) (mPure (.int 1))) (mPure (.int 0))) (mOp2 eqD (mCall gcdD (mCons (mOp2 ixD (mVarB 0) (mPure (.int 0))) (mCons (mOp2 ixD (mVarB 0) (mPure (.int 1))) (mPure [])))) (mPure (.int 1))))))
noncomputable def f_is_ratio : List D → Option D := runP 1 2 m_is_ratio
noncomputable def m_is_vector : MS := (sRet (mAndV (mOp1 (isiD "tuple") (mVarB 0)) (mAndV (mChn leD leD (mPure (.int 1)) (mCall lenD (mCons (mVarB 0) (mPure []))) (mPure (.int 200))) (mCall allD (mCons (mLc (mSeq (mVar 0)) [1] (gNm 1) (mPure true) (mCall f_is_ratio (mCons (mVar 1) (mPure [])))) (mPure []))))))
noncomputable def f_is_vector : List D → Option D := runP 1 2 m_is_vector
noncomputable def m_is_budget : MS := (sSq (sIf (mOr (mNot (mTst (mOp1 (isiD "tuple") (mVarB 0)))) (mOr (mTst (mOp2 neD (mCall lenD (mCons (mVarB 0) (mPure []))) (mPure (.int 2)))) (mNot (mTst (mCall allD (mCons (mLc (mSeq (mVar 0)) [2] (gNm 2) (mPure true) (mCall f_is_vector (mCons (mVar 2) (mPure [])))) (mPure []))))))) (sRet (mPure (.bl false))) sNil)
  (sSq (sIf (mNot (mTst (mCall allD (mCons (mLc (mSeq (mVar 0)) [2] (gNm 2) (mPure true) (mOp2 eqD (mCall lenD (mCons (mVarB 2) (mPure []))) (mVarB 1))) (mPure []))))) (sRet (mPure (.bl false))) sNil)
  (sSq (sIf (mOr (mNot (mTst (mCall allD (mCons (mLc (mSeq (mOp2 ixD (mVarB 0) (mPure (.int 0)))) [2] (gNm 2) (mPure true) (mOp2 gtD (mOp2 ixD (mVarB 2) (mPure (.int 0))) (mPure (.int 0)))) (mPure []))))) (mNot (mTst (mCall allD (mCons (mLc (mSeq (mOp2 ixD (mVarB 0) (mPure (.int 1)))) [2] (gNm 2) (mPure true) (mOp2 geD (mOp2 ixD (mVarB 2) (mPure (.int 0))) (mPure (.int 0)))) (mPure [])))))) (sRet (mPure (.bl false))) sNil)
  (sRet (mCall anyD (mCons (mLc (mSeq (mOp2 ixD (mVarB 0) (mPure (.int 1)))) [2] (gNm 2) (mPure true) (mOp2 gtD (mOp2 ixD (mVarB 2) (mPure (.int 0))) (mPure (.int 0)))) (mPure [])))))))
noncomputable def f_is_budget : List D → Option D := runP 2 3 m_is_budget
noncomputable def m_are_budgets_of : MS := (sSq (sIf (mOr (mNot (mTst (mOp1 (isiD "tuple") (mVarB 0)))) (mOr (mTst (mOp2 neD (mCall lenD (mCons (mVarB 0) (mPure []))) (mPure (.int 2)))) (mOr (mNot (mTst (mOp1 (isiD "str") (mOp2 ixD (mVarB 0) (mPure (.int 0)))))) (mTst (mOp2 neD (mOp2 ixD (mVarB 0) (mPure (.int 0))) (mPure (.str "budgets"))))))) (sRet (mPure (.bl false))) sNil)
  (sSq (sIf (mOr (mNot (mTst (mOp1 (isiD "tuple") (mOp2 ixD (mVarB 0) (mPure (.int 1)))))) (mNot (mTst (mChn leD leD (mPure (.int 1)) (mCall lenD (mCons (mOp2 ixD (mVarB 0) (mPure (.int 1))) (mPure []))) (mPure (.int 8)))))) (sRet (mPure (.bl false))) sNil)
  (sRet (mCall allD (mCons (mLc (mSeq (mOp2 ixD (mVarB 0) (mPure (.int 1)))) [2] (gNm 2) (mPure true) (mCall f_is_budget (mCons (mVar 2) (mCons (mVar 1) (mPure []))))) (mPure []))))))
noncomputable def f_are_budgets_of : List D → Option D := runP 2 3 m_are_budgets_of
noncomputable def m_is_budgets : MS := (sRet (mCall anyD (mCons (mLc (mRg2 (mCons (mPure (.int 2)) (mCons (mOp2 addD (mPure (.int 4)) (mPure (.int 1))) (mPure [])))) [1] (gNm 1) (mPure true) (mCall f_are_budgets_of (mCons (mVar 0) (mCons (mVar 1) (mPure []))))) (mPure []))))
noncomputable def f_is_budgets : List D → Option D := runP 1 2 m_is_budgets
noncomputable def m_need_budgets : MS := (sIf (mNot (mTst (mCall f_is_budgets (mCons (mVar 0) (mPure []))))) sNever sNil)
noncomputable def f_need_budgets : List D → Option D := runP 1 1 m_need_budgets
noncomputable def m_lowest : MS := (sSq (sSet 2 (mIte (mTst (mOp2 gtD (mVarB 1) (mPure (.int 0)))) (mCall gcdD (mCons (mVarB 0) (mCons (mVarB 1) (mPure [])))) (mOp1 negD (mCall gcdD (mCons (mVarB 0) (mCons (mVarB 1) (mPure [])))))))
  (sRet (mTup (mCons (mOp2 fdivD (mVarB 0) (mVarB 2)) (mCons (mOp2 fdivD (mVarB 1) (mVarB 2)) (mPure []))))))
noncomputable def f_lowest : List D → Option D := runP 2 3 m_lowest
noncomputable def m_plus : MS := (sRet (mCall f_lowest (mCons (mOp2 addD (mOp2 mulI (mOp2 ixD (mVarB 0) (mPure (.int 0))) (mOp2 ixD (mVarB 1) (mPure (.int 1)))) (mOp2 mulI (mOp2 ixD (mVarB 1) (mPure (.int 0))) (mOp2 ixD (mVarB 0) (mPure (.int 1))))) (mCons (mOp2 mulI (mOp2 ixD (mVarB 0) (mPure (.int 1))) (mOp2 ixD (mVarB 1) (mPure (.int 1)))) (mPure [])))))
noncomputable def f_plus : List D → Option D := runP 2 2 m_plus
noncomputable def m_total : MS := (sSq (sSet 1 (mPure (.kt [(.int 0), (.int 1)])))
  (sSq (sFor (mSeq (mVar 0)) (gNm 2) (sSet 1 (mCall f_plus (mCons (mVar 1) (mCons (mVar 2) (mPure []))))))
  (sRet (mVar 1))))
noncomputable def f_total : List D → Option D := runP 1 3 m_total
noncomputable def m_times : MS := (sRet (mCall f_lowest (mCons (mOp2 mulI (mOp2 ixD (mVarB 0) (mPure (.int 0))) (mOp2 ixD (mVarB 1) (mPure (.int 0)))) (mCons (mOp2 mulI (mOp2 ixD (mVarB 0) (mPure (.int 1))) (mOp2 ixD (mVarB 1) (mPure (.int 1)))) (mPure [])))))
noncomputable def f_times : List D → Option D := runP 2 2 m_times
noncomputable def m_dot : MS := (sRet (mCall f_total (mCons (mLc (mZip2 (mCons (mVar 0) (mCons (mVar 1) (mPure [])))) [2, 3] (gTp 2 (gCns (gNm 2) (gCns (gNm 3) gNl))) (mPure true) (mCall f_times (mCons (mVar 2) (mCons (mVar 3) (mPure []))))) (mPure []))))
noncomputable def f_dot : List D → Option D := runP 2 4 m_dot
noncomputable def m_costs_of : MS := (sRet (mCall tupleD (mCons (mLc (mSeq (mOp2 ixD (mVarB 0) (mPure (.int 1)))) [1, 2] (gTp 2 (gCns (gNm 1) (gCns (gNm 2) gNl))) (mPure true) (mCall tupleD (mCons (mLc (mSeq (mOp2 ixD (mVarB 0) (mPure (.int 1)))) [3] (gNm 3) (mPure true) (mCall f_dot (mCons (mVar 1) (mCons (mOp2 ixD (mVarB 3) (mPure (.int 1))) (mPure []))))) (mPure [])))) (mPure []))))
noncomputable def f_costs_of : List D → Option D := runP 1 4 m_costs_of
noncomputable def m_costs : MS := (sSq (sExpr (mCall f_need_budgets (mCons (mVar 0) (mPure []))))
  (sRet (mCall f_costs_of (mCons (mVar 0) (mPure [])))))
noncomputable def f_costs : List D → Option D := runP 1 1 m_costs
noncomputable def m_is_chance : MS := (sRet (mAndV (mCall f_is_ratio (mCons (mVar 0) (mPure []))) (mChn leD leD (mPure (.int 0)) (mOp2 ixD (mVarB 0) (mPure (.int 0))) (mOp2 ixD (mVarB 0) (mPure (.int 1))))))
noncomputable def f_is_chance : List D → Option D := runP 1 1 m_is_chance
noncomputable def m_need_share : MS := (sIf (mNot (mTst (mCall f_is_chance (mCons (mVar 0) (mPure []))))) sNever sNil)
noncomputable def f_need_share : List D → Option D := runP 1 1 m_need_share
noncomputable def m_is_less : MS := (sRet (mOp2 ltD (mOp2 mulI (mOp2 ixD (mVarB 0) (mPure (.int 0))) (mOp2 ixD (mVarB 1) (mPure (.int 1)))) (mOp2 mulI (mOp2 ixD (mVarB 1) (mPure (.int 0))) (mOp2 ixD (mVarB 0) (mPure (.int 1))))))
noncomputable def f_is_less : List D → Option D := runP 2 2 m_is_less
noncomputable def m_reaches_strictly : MS := (sRet (mAndV (mOp2 neD (mVarB 2) (mVarB 3)) (mCall f_is_less (mCons (mOp2 ixD (mOp2 ixD (mVarB 0) (mVarB 2)) (mVarB 3)) (mCons (mCall f_times (mCons (mVar 1) (mCons (mOp2 ixD (mOp2 ixD (mVarB 0) (mVarB 2)) (mVarB 2)) (mPure [])))) (mPure []))))))
noncomputable def f_reaches_strictly : List D → Option D := runP 4 4 m_reaches_strictly
noncomputable def m_reaches : MS := (sRet (mAndV (mOp2 neD (mVarB 2) (mVarB 3)) (mNotV (mCall f_is_less (mCons (mCall f_times (mCons (mVar 1) (mCons (mOp2 ixD (mOp2 ixD (mVarB 0) (mVarB 2)) (mVarB 2)) (mPure [])))) (mCons (mOp2 ixD (mOp2 ixD (mVarB 0) (mVarB 2)) (mVarB 3)) (mPure [])))))))
noncomputable def f_reaches : List D → Option D := runP 4 4 m_reaches
noncomputable def m_way_back : MS := (sSq (sPar2 5 6 true (mDisp1 (mVar 2) (mPure .non)) true (mLst (mCons (mVar 2) (mPure []))))
  (sSq (sWh (mTst (mOp2 neD (mVarB 6) (mLst (mPure [])))) (sSq (sPar2 8 6 false (mOp2 ixD (mVarB 6) (mPure (.int 0))) true (mSl slL (mVarB 6) (mPart (mPure (.int 1))) (mPure none)))
  (sFor (mRg1 (mCons (mCall lenD (mCons (mVarB 0) (mPure []))) (mPure []))) (gNm 7) (sIf (mAnd (mTst (mDnin (mVarB 7) (mVarB 5))) (mTst (mCall f_reaches (mCons (mVar 0) (mCons (mVar 1) (mCons (mVar 8) (mCons (mVar 7) (mPure [])))))))) (sSq (sPut 5 (mVar 8) (mVar 7))
  (sApp 6 (mVar 7))) sNil))))
  (sSq (sIf (mTst (mDnin (mVarB 3) (mVarB 5))) (sRet (mPure .non)) sNil)
  (sSq (sSet 4 (mLst (mCons (mVar 3) (mPure []))))
  (sSq (sWh (mTst (mOp2 isnotD (mOp2 getD' (mVarB 5) (mOp2 ixD (mVarB 4) (mPure (.int 0)))) (mPure .non))) (sSet 4 (mOp2 addL (mLst (mCons (mOp2 getD' (mVarB 5) (mOp2 ixD (mVarB 4) (mPure (.int 0)))) (mPure []))) (mVarB 4))))
  (sRet (mCall tupleD (mCons (mVarB 4) (mPure [])))))))))
noncomputable def f_way_back : List D → Option D := runP 4 9 m_way_back
noncomputable def m_ring_in : MS := (sSq (sFor (mRg1 (mCons (mCall lenD (mCons (mVarB 0) (mPure []))) (mPure []))) (gNm 2) (sFor (mRg1 (mCons (mCall lenD (mCons (mVarB 0) (mPure []))) (mPure []))) (gNm 3) (sIf (mTst (mCall f_reaches_strictly (mCons (mVar 0) (mCons (mVar 1) (mCons (mVar 2) (mCons (mVar 3) (mPure []))))))) (sSq (sSet 4 (mCall f_way_back (mCons (mVar 0) (mCons (mVar 1) (mCons (mVar 3) (mCons (mVar 2) (mPure [])))))))
  (sIf (mTst (mOp2 isnotD (mVarB 4) (mPure .non))) (sRet (mOp2 addD (mTup (mCons (mVar 2) (mPure []))) (mSl slD (mVarB 4) (mPure none) (mPart (mOp1 negD (mPure (.int 1))))))) sNil)) sNil)))
  (sRet (mPure .non)))
noncomputable def f_ring_in : List D → Option D := runP 2 5 m_ring_in
noncomputable def m_classes_of : MS := (sSq (sSet 2 (mCall lenD (mCons (mVarB 0) (mPure []))))
  (sSq (sSetF 3 mNewT)
  (sSq (sFor (mRg1 (mCons (mVarB 2) (mPure []))) (gNm 4) (sFor (mRg1 (mCons (mVarB 2) (mPure []))) (gNm 5) (sPut 3 (mOrV (mOp2 eqD (mVarB 4) (mVarB 5)) (mOp2 isnotD (mCall f_way_back (mCons (mVar 0) (mCons (mVar 1) (mCons (mVar 4) (mCons (mVar 5) (mPure [])))))) (mPure .non))) (mTup (mCons (mVar 4) (mCons (mVar 5) (mPure [])))))))
  (sSq (sPar2 6 7 false (mListRg (mVarB 2)) true (mLst (mPure [])))
  (sSq (sWh (mTst (mOp2 neD (mVarB 6) (mLst (mPure [])))) (sSq (sFor (mSeq (mVar 6)) (gNm 4) (sSq (sSet 8 (mLc (mSeq (mVar 6)) [5] (gNm 5) (mAnd (mTst (mOp2 getD' (mVarB 3) (mTup (mCons (mVar 5) (mCons (mVar 4) (mPure [])))))) (mNot (mTst (mOp2 getD' (mVarB 3) (mTup (mCons (mVar 4) (mCons (mVar 5) (mPure [])))))))) (mVar 5)))
  (sIf (mTst (mOp2 eqD (mVarB 8) (mLst (mPure [])))) (sSq (sSet 9 (mLc (mSeq (mVar 6)) [5] (gNm 5) (mAnd (mTst (mOp2 getD' (mVarB 3) (mTup (mCons (mVar 4) (mCons (mVar 5) (mPure [])))))) (mTst (mOp2 getD' (mVarB 3) (mTup (mCons (mVar 5) (mCons (mVar 4) (mPure []))))))) (mVar 5)))
  sBk) sNil)))
  (sSq (sApp 7 (mVar 9))
  (sSet 6 (mLc (mSeq (mVar 6)) [5] (gNm 5) (mTst (mOp2 ninD (mVarB 5) (mVarB 9))) (mVar 5))))))
  (sFrz 7 (sRet (mVar 7))))))))
noncomputable def f_classes_of : List D → Option D := runP 2 10 m_classes_of
noncomputable def m_least_of : MS := (sSq (sSet 1 (mOp2 ixD (mVarB 0) (mPure (.int 0))))
  (sSq (sFor (mSeq (mSl slD (mVarB 0) (mPart (mPure (.int 1))) (mPure none))) (gNm 2) (sSet 1 (mIte (mTst (mCall f_is_less (mCons (mVar 2) (mCons (mVar 1) (mPure []))))) (mVar 2) (mVar 1))))
  (sRet (mVar 1))))
noncomputable def f_least_of : List D → Option D := runP 1 3 m_least_of
noncomputable def m_minus : MS := (sRet (mCall f_lowest (mCons (mOp2 subD (mOp2 mulI (mOp2 ixD (mVarB 0) (mPure (.int 0))) (mOp2 ixD (mVarB 1) (mPure (.int 1)))) (mOp2 mulI (mOp2 ixD (mVarB 1) (mPure (.int 0))) (mOp2 ixD (mVarB 0) (mPure (.int 1))))) (mCons (mOp2 mulI (mOp2 ixD (mVarB 0) (mPure (.int 1))) (mOp2 ixD (mVarB 1) (mPure (.int 1)))) (mPure [])))))
noncomputable def f_minus : List D → Option D := runP 2 2 m_minus
noncomputable def m_gap_at : MS := (sRet (mCall f_minus (mCons (mOp2 ixD (mOp2 ixD (mVarB 0) (mVarB 2)) (mVarB 3)) (mCons (mCall f_times (mCons (mVar 1) (mCons (mOp2 ixD (mOp2 ixD (mVarB 0) (mVarB 2)) (mVarB 2)) (mPure [])))) (mPure [])))))
noncomputable def f_gap_at : List D → Option D := runP 4 4 m_gap_at
noncomputable def m_number_for : MS := (sSq (sSetF 4 (mLst (mPure [])))
  (sSq (sFor (mKeys 2) (gNm 5) (sSq (sAsg (mOp2 getD' (mVarB 2) (mVarB 5)) (gTp 2 (gCns (gNm 6) (gCns (gNm 7) gNl))))
  (sExt 4 (mLc (mSeq (mVar 3)) [8] (gNm 8) (mPure true) (mCall f_plus (mCons (mVar 6) (mCons (mCall f_times (mCons (mVar 7) (mCons (mCall f_gap_at (mCons (mVar 0) (mCons (mVar 1) (mCons (mVar 5) (mCons (mVar 8) (mPure [])))))) (mPure [])))) (mPure []))))))))
  (sFrz 4 (sRet (mIte (mTst (mOp2 eqD (mVarB 4) (mLst (mPure [])))) (mPure (.kt [(.int 0), (.int 1)])) (mCall f_least_of (mCons (mVar 4) (mPure []))))))))
noncomputable def f_number_for : List D → Option D := runP 4 9 m_number_for
noncomputable def m_greatest_of : MS := (sSq (sSet 1 (mOp2 ixD (mVarB 0) (mPure (.int 0))))
  (sSq (sFor (mSeq (mSl slD (mVarB 0) (mPart (mPure (.int 1))) (mPure none))) (gNm 2) (sSet 1 (mIte (mTst (mCall f_is_less (mCons (mVar 1) (mCons (mVar 2) (mPure []))))) (mVar 2) (mVar 1))))
  (sRet (mVar 1))))
noncomputable def f_greatest_of : List D → Option D := runP 1 3 m_greatest_of
noncomputable def m_over : MS := (sRet (mCall f_lowest (mCons (mOp2 mulI (mOp2 ixD (mVarB 0) (mPure (.int 0))) (mOp2 ixD (mVarB 1) (mPure (.int 1)))) (mCons (mOp2 mulI (mOp2 ixD (mVarB 0) (mPure (.int 1))) (mOp2 ixD (mVarB 1) (mPure (.int 0)))) (mPure [])))))
noncomputable def f_over : List D → Option D := runP 2 2 m_over
noncomputable def m_rate_for : MS := (sSq (sSetF 5 (mLst (mCons (mPure (.kt [(.int 1), (.int 1)])) (mPure []))))
  (sSq (sFor (mKeys 2) (gNm 6) (sApp 5 (mCall f_over (mCons (mCall f_minus (mCons (mOp2 ixD (mOp2 getD' (mVarB 2) (mVarB 6)) (mPure (.int 0))) (mCons (mVar 4) (mPure [])))) (mCons (mCall f_gap_at (mCons (mVar 0) (mCons (mVar 1) (mCons (mVar 3) (mCons (mVar 6) (mPure [])))))) (mPure []))))))
  (sFrz 5 (sRet (mCall f_greatest_of (mCons (mVar 5) (mPure [])))))))
noncomputable def f_rate_for : List D → Option D := runP 5 7 m_rate_for
noncomputable def m_numbers_in : MS := (sSq (sSetF 2 mNewK)
  (sSq (sFor (mSeq (mCall f_classes_of (mCons (mVar 0) (mCons (mVar 1) (mPure []))))) (gNm 3) (sSq (sSet 4 (mCallB f_number_for (mCons (mVarB 0) (mCons (mVarB 1) (mCons (mVarB 2) (mCons (mVarB 3) (mPure [])))))))
  (sSq (sSet 5 (mLc (mSeq (mVar 3)) [6] (gNm 6) (mPure true) (mCallB f_rate_for (mCons (mVarB 0) (mCons (mVarB 1) (mCons (mVarB 2) (mCons (mVarB 6) (mCons (mVarB 4) (mPure [])))))))))
  (sFor (mZip2 (mCons (mVar 3) (mCons (mVar 5) (mPure [])))) (gTp 2 (gCns (gNm 6) (gCns (gNm 7) gNl))) (sPut 2 (mTup (mCons (mVar 4) (mCons (mVar 7) (mPure [])))) (mVar 6))))))
  (sRet (mCall tupleD (mCons (mLc (mRg1 (mCons (mCall lenD (mCons (mVarB 0) (mPure []))) (mPure []))) [6] (gNm 6) (mPure true) (mOp2 getD' (mVarB 2) (mVarB 6))) (mPure []))))))
noncomputable def f_numbers_in : List D → Option D := runP 2 8 m_numbers_in
noncomputable def m_numbers_at : MS := (sSq (sExpr (mCall f_need_budgets (mCons (mVar 0) (mPure []))))
  (sSq (sExpr (mCall f_need_share (mCons (mVar 1) (mPure []))))
  (sSq (sSet 2 (mCall f_costs_of (mCons (mVar 0) (mPure []))))
  (sSq (sSet 3 (mCall f_ring_in (mCons (mVar 2) (mCons (mVar 1) (mPure [])))))
  (sRet (mIte (mTst (mOp2 isD (mVarB 3) (mPure .non))) (mTup (mCons (mPure (.str "numbers")) (mCons (mCall f_numbers_in (mCons (mVar 2) (mCons (mVar 1) (mPure [])))) (mPure [])))) (mTup (mCons (mPure (.str "ring")) (mCons (mVar 3) (mPure []))))))))))
noncomputable def f_numbers_at : List D → Option D := runP 2 4 m_numbers_at
noncomputable def m_law_is_known : MS := (sSq (sSet 0 (mTup (mCons (mPure (.str "budgets")) (mCons (mTup (mCons (mTup (mCons (mTup (mCons (mTup (mCons (mPure (.int 1)) (mCons (mPure (.int 1)) (mPure [])))) (mCons (mTup (mCons (mPure (.int 2)) (mCons (mPure (.int 1)) (mPure [])))) (mPure [])))) (mCons (mTup (mCons (mTup (mCons (mPure (.int 1)) (mCons (mPure (.int 1)) (mPure [])))) (mCons (mTup (mCons (mPure (.int 1)) (mCons (mPure (.int 1)) (mPure [])))) (mPure [])))) (mPure [])))) (mCons (mTup (mCons (mTup (mCons (mTup (mCons (mPure (.int 2)) (mCons (mPure (.int 1)) (mPure [])))) (mCons (mTup (mCons (mPure (.int 1)) (mCons (mPure (.int 1)) (mPure [])))) (mPure [])))) (mCons (mTup (mCons (mTup (mCons (mPure (.int 3)) (mCons (mPure (.int 2)) (mPure [])))) (mCons (mTup (mCons (mPure (.int 0)) (mCons (mPure (.int 1)) (mPure [])))) (mPure [])))) (mPure [])))) (mPure [])))) (mPure [])))))
  (sSq (sIf (mNot (mTst (mCall f_law_same (mCons (mCall f_costs (mCons (mVar 0) (mPure []))) (mCons (mTup (mCons (mTup (mCons (mTup (mCons (mPure (.int 3)) (mCons (mPure (.int 1)) (mPure [])))) (mCons (mTup (mCons (mPure (.int 3)) (mCons (mPure (.int 2)) (mPure [])))) (mPure [])))) (mCons (mTup (mCons (mTup (mCons (mPure (.int 3)) (mCons (mPure (.int 1)) (mPure [])))) (mCons (mTup (mCons (mPure (.int 3)) (mCons (mPure (.int 1)) (mPure [])))) (mPure [])))) (mPure [])))) (mPure [])))))) (sRet (mPure (.bl false))) sNil)
  (sRet (mOp2 eqD (mLc (mSeq (mLst (mCons (mTup (mCons (mPure (.int 1)) (mCons (mPure (.int 1)) (mPure [])))) (mCons (mTup (mCons (mPure (.int 1)) (mCons (mPure (.int 2)) (mPure [])))) (mCons (mTup (mCons (mPure (.int 99)) (mCons (mPure (.int 100)) (mPure [])))) (mPure [])))))) [1] (gNm 1) (mPure true) (mOp2 ixD (mCall f_numbers_at (mCons (mVar 0) (mCons (mVar 1) (mPure [])))) (mPure (.int 0)))) (mLst (mCons (mPure (.str "ring")) (mCons (mPure (.str "numbers")) (mCons (mPure (.str "numbers")) (mPure [])))))))))
noncomputable def f_law_is_known : List D → Option D := runP 0 2 m_law_is_known
noncomputable def m_law_blended : MS := (sSq (sPar2 2 3 false (mOp2 addD (mStI 0 Rng.turn) (mPure (.int 1))) false (mPure (.int 0)))
  (sSq (sStturn 0 (mVar 2))
  (sSq (sFor (mSeq (mLst (mCons (mPure (.int 2147483579)) (mCons (mPure (.int 2147483629)) (mCons (mPure (.int 2147483563)) (mPure [])))))) (gNm 1) (sSq (sSet 4 (mOp2 addD (mOp2 mulI (mPure (.int 48271)) (mVarB 2)) (mOp2 fdivD (mVarB 1) (mPure (.int 53)))))
  (sSq (sFor (mSeq (mStC 0)) (gNm 5) (sSet 4 (mOp2 modD (mCall intD (mCons (mOp2 addD (mOp2 addD (mOp2 mulI (mVarB 4) (mPure (.int 69621))) (mVarB 5)) (mVarB 2)) (mPure []))) (mVarB 1))))
  (sSet 3 (mOp2 addD (mOp2 mulI (mVarB 3) (mPure (.int 2147483647))) (mOp2 modD (mCall intD (mCons (mOp2 powD (mVarB 4) (mPure (.int 5))) (mPure []))) (mVarB 1)))))))
  (sRet (mVar 3)))))
noncomputable def f_law_blended : List D → Rng → Option (D × Rng) := runR 1 6 m_law_blended
noncomputable def m_law_draw : MS := (sSq (sIf (mTst (mOp2 eqD (mStI 0 Rng.rest) (mPure (.int 0)))) (sStrest 0 (mIte (mStG 0) (mStP 0) (mCallR f_law_blended (mCons (mVar 0) (mPure []))))) sNil)
  (sSq (sSet 2 (mOp2 modD (mCall intD (mCons (mStI 0 Rng.rest) (mPure []))) (mVarB 1)))
  (sSq (sStrest 0 (mOp2 fdivD (mStI 0 Rng.rest) (mVarB 1)))
  (sRet (mVar 2)))))
noncomputable def f_law_draw : List D → Rng → Option (D × Rng) := runR 2 3 m_law_draw
noncomputable def m_law_pick : MS := (sRet (mOp2 ixD (mVarB 1) (mCallR f_law_draw (mCons (mVar 0) (mCons (mCall lenD (mCons (mVarB 1) (mPure []))) (mPure []))))))
noncomputable def f_law_pick : List D → Rng → Option (D × Rng) := runR 2 2 m_law_pick
noncomputable def m_law_q : MS := (sSq (sPar2 2 3 false (mCall absD (mCons (mVarB 0) (mPure []))) false (mCall absD (mCons (mVarB 1) (mPure []))))
  (sSq (sWh (mTst (mOp2 gtD (mVarB 3) (mPure (.int 0)))) (sPar2 2 3 false (mVar 3) false (mOp2 modD (mCall intD (mCons (mVarB 2) (mPure []))) (mVarB 3))))
  (sRet (mIte (mTst (mOp2 gtD (mVarB 1) (mPure (.int 0)))) (mTup (mCons (mOp2 fdivD (mVarB 0) (mVarB 2)) (mCons (mOp2 fdivD (mVarB 1) (mVarB 2)) (mPure [])))) (mTup (mCons (mOp2 fdivD (mOp1 negD (mVarB 0)) (mVarB 2)) (mCons (mOp2 fdivD (mOp1 negD (mVarB 1)) (mVarB 2)) (mPure []))))))))
noncomputable def f_law_q : List D → Option D := runP 2 4 m_law_q
noncomputable def m_law_less : MS := (sRet (mOp2 ltD (mOp2 mulI (mOp2 ixD (mVarB 0) (mPure (.int 0))) (mOp2 ixD (mVarB 1) (mPure (.int 1)))) (mOp2 mulI (mOp2 ixD (mVarB 1) (mPure (.int 0))) (mOp2 ixD (mVarB 0) (mPure (.int 1))))))
noncomputable def f_law_less : List D → Option D := runP 2 2 m_law_less
noncomputable def m_law_times : MS := (sRet (mCall f_law_q (mCons (mOp2 mulI (mOp2 ixD (mVarB 0) (mPure (.int 0))) (mOp2 ixD (mVarB 1) (mPure (.int 0)))) (mCons (mOp2 mulI (mOp2 ixD (mVarB 0) (mPure (.int 1))) (mOp2 ixD (mVarB 1) (mPure (.int 1)))) (mPure [])))))
noncomputable def f_law_times : List D → Option D := runP 2 2 m_law_times
noncomputable def m_law_ds_budgets : MS := (sSq (sPar2 3 4 false (mCallR f_law_pick (mCons (mVar 0) (mCons (mLst (mCons (mPure (.int 2)) (mCons (mPure (.int 2)) (mCons (mPure (.int 3)) (mCons (mPure (.int 4)) (mPure [])))))) (mPure [])))) true (mLst (mPure [])))
  (sSq (sPar2 5 6 false (mCallR f_law_draw (mCons (mVar 0) (mCons (mPure (.int 4)) (mPure [])))) false (mLc (mRg1 (mCons (mPure (.int 4)) (mPure []))) [10] (gNm 10) (mPure true) (mOp2 addD (mPure (.int 1)) (mCallR f_law_draw (mCons (mVar 0) (mCons (mPure (.int 5)) (mPure [])))))))
  (sSq (sFor (mRg1 (mCons (mOp2 addD (mPure (.int 1)) (mCallR f_law_draw (mCons (mVar 0) (mCons (mVar 1) (mPure []))))) (mPure []))) (gNm 2) (sSq (sSet 7 (mCall tupleD (mCons (mLc (mRg1 (mCons (mVarB 3) (mPure []))) [10] (gNm 10) (mPure true) (mCall f_law_q (mCons (mOp2 addD (mPure (.int 1)) (mCallR f_law_draw (mCons (mVar 0) (mCons (mCallR f_law_pick (mCons (mVar 0) (mCons (mLst (mCons (mPure (.int 2)) (mCons (mPure (.int 3)) (mCons (mPure (.int 6)) (mPure []))))) (mPure [])))) (mPure []))))) (mCons (mOp2 addD (mPure (.int 1)) (mCallR f_law_draw (mCons (mVar 0) (mCons (mPure (.int 2)) (mPure []))))) (mPure []))))) (mPure []))))
  (sSq (sSet 8 (mCall tupleD (mCons (mLc (mRg1 (mCons (mVarB 3) (mPure []))) [10] (gNm 10) (mPure true) (mCall f_law_q (mCons (mCallR f_law_draw (mCons (mVar 0) (mCons (mPure (.int 4)) (mPure [])))) (mCons (mOp2 addD (mPure (.int 1)) (mCallR f_law_draw (mCons (mVar 0) (mCons (mPure (.int 2)) (mPure []))))) (mPure []))))) (mPure []))))
  (sSq (sIf (mOr (mTst (mOp2 eqD (mVarB 5) (mPure (.int 1)))) (mAnd (mTst (mOp2 eqD (mVarB 5) (mPure (.int 2)))) (mTst (mOp2 gtD (mCallR f_law_draw (mCons (mVar 0) (mCons (mPure (.int 4)) (mPure [])))) (mPure (.int 0)))))) (sSq (sSet 9 (mPure (.int 0)))
  (sSq (sFor (mRg1 (mCons (mVarB 3) (mPure []))) (gNm 10) (sIf (mTst (mCall f_law_less (mCons (mCall f_law_times (mCons (mTup (mCons (mOp2 ixD (mVarB 6) (mVarB 9)) (mCons (mPure (.int 1)) (mPure [])))) (mCons (mOp2 ixD (mVarB 7) (mVarB 10)) (mPure [])))) (mCons (mCall f_law_times (mCons (mTup (mCons (mOp2 ixD (mVarB 6) (mVarB 10)) (mCons (mPure (.int 1)) (mPure [])))) (mCons (mOp2 ixD (mVarB 7) (mVarB 9)) (mPure [])))) (mPure []))))) (sSet 9 (mVar 10)) sNil))
  (sSet 8 (mCall tupleD (mCons (mLc (mRg1 (mCons (mVarB 3) (mPure []))) [10] (gNm 10) (mPure true) (mIte (mTst (mOp2 eqD (mVarB 10) (mVarB 9))) (mTup (mCons (mOp2 addD (mPure (.int 1)) (mCallR f_law_draw (mCons (mVar 0) (mCons (mPure (.int 3)) (mPure []))))) (mCons (mPure (.int 1)) (mPure [])))) (mTup (mCons (mPure (.int 0)) (mCons (mPure (.int 1)) (mPure [])))))) (mPure [])))))) sNil)
  (sSq (sIf (mTst (mOp2 eqD (mLc (mSeq (mVar 8)) [11] (gNm 11) (mTst (mOp2 gtD (mOp2 ixD (mVarB 11) (mPure (.int 0))) (mPure (.int 0)))) (mPure (.int 1))) (mLst (mPure [])))) (sSet 8 (mOp2 addD (mTup (mCons (mTup (mCons (mPure (.int 1)) (mCons (mPure (.int 1)) (mPure [])))) (mPure []))) (mSl slD (mVarB 8) (mPart (mPure (.int 1))) (mPure none)))) sNil)
  (sApp 4 (mTup (mCons (mVar 7) (mCons (mVar 8) (mPure []))))))))))
  (sRet (mTup (mCons (mPure (.str "budgets")) (mCons (mCall tupleD (mCons (mVarB 4) (mPure []))) (mPure []))))))))
noncomputable def f_law_ds_budgets : List D → Rng → Option (D × Rng) := runR 2 12 m_law_ds_budgets
noncomputable def m_law_ds_meets : MS := (sRet (mAndV (mOp2 neD (mVarB 2) (mVarB 3)) (mNotV (mCall f_law_less (mCons (mCall f_law_times (mCons (mVar 1) (mCons (mOp2 ixD (mOp2 ixD (mVarB 0) (mVarB 2)) (mVarB 2)) (mPure [])))) (mCons (mOp2 ixD (mOp2 ixD (mVarB 0) (mVarB 2)) (mVarB 3)) (mPure [])))))))
noncomputable def f_law_ds_meets : List D → Option D := runP 4 4 m_law_ds_meets
noncomputable def m_law_ds_meets_strictly : MS := (sRet (mAndV (mOp2 neD (mVarB 2) (mVarB 3)) (mCall f_law_less (mCons (mOp2 ixD (mOp2 ixD (mVarB 0) (mVarB 2)) (mVarB 3)) (mCons (mCall f_law_times (mCons (mVar 1) (mCons (mOp2 ixD (mOp2 ixD (mVarB 0) (mVarB 2)) (mVarB 2)) (mPure [])))) (mPure []))))))
noncomputable def f_law_ds_meets_strictly : List D → Option D := runP 4 4 m_law_ds_meets_strictly
noncomputable def m_law_ds_has_ring : MS := (sSq (sPar2 5 6 false (mCall lenD (mCons (mVarB 0) (mPure []))) false (mLst (mPure [])))
  (sSq (sFor (mRg1 (mCons (mVarB 5) (mPure []))) (gNm 2) (sSet 6 (mOp2 addL (mVarB 6) (mLc (mRg1 (mCons (mVarB 5) (mPure []))) [9] (gNm 9) (mTst (mCall f_law_ds_meets (mCons (mVar 0) (mCons (mVar 1) (mCons (mVar 2) (mCons (mVar 9) (mPure []))))))) (mTup (mCons (mVar 2) (mCons (mVar 9) (mPure []))))))))
  (sSq (sSet 3 (mCall listD (mCons (mVarB 6) (mPure []))))
  (sSq (sFor (mRg1 (mCons (mVarB 5) (mPure []))) (gNm 4) (sSq (sSet 7 (mLst (mPure [])))
  (sSq (sFor (mSeq (mVar 3)) (gTp 2 (gCns (gNm 2) (gCns (gNm 8) gNl))) (sSet 7 (mOp2 addL (mVarB 7) (mLc (mSeq (mVar 6)) [10, 9] (gTp 2 (gCns (gNm 10) (gCns (gNm 9) gNl))) (mAnd (mTst (mOp2 eqD (mVarB 10) (mVarB 8))) (mTst (mOp2 ninD (mTup (mCons (mVar 2) (mCons (mVar 9) (mPure [])))) (mVarB 3)))) (mTup (mCons (mVar 2) (mCons (mVar 9) (mPure []))))))))
  (sSet 3 (mOp2 addL (mVarB 3) (mSortSet (mCons (mVarB 7) (mPure []))))))))
  (sRet (mOp2 neD (mLc (mSeq (mVar 6)) [2, 8] (gTp 2 (gCns (gNm 2) (gCns (gNm 8) gNl))) (mAnd (mTst (mCall f_law_ds_meets_strictly (mCons (mVar 0) (mCons (mVar 1) (mCons (mVar 2) (mCons (mVar 8) (mPure []))))))) (mTst (mOp2 inD (mTup (mCons (mVar 8) (mCons (mVar 2) (mPure [])))) (mVarB 3)))) (mPure (.int 1))) (mLst (mPure []))))))))
noncomputable def f_law_ds_has_ring : List D → Option D := runP 2 11 m_law_ds_has_ring
noncomputable def m_law_plus : MS := (sRet (mCall f_law_q (mCons (mOp2 addD (mOp2 mulI (mOp2 ixD (mVarB 0) (mPure (.int 0))) (mOp2 ixD (mVarB 1) (mPure (.int 1)))) (mOp2 mulI (mOp2 ixD (mVarB 1) (mPure (.int 0))) (mOp2 ixD (mVarB 0) (mPure (.int 1))))) (mCons (mOp2 mulI (mOp2 ixD (mVarB 0) (mPure (.int 1))) (mOp2 ixD (mVarB 1) (mPure (.int 1)))) (mPure [])))))
noncomputable def f_law_plus : List D → Option D := runP 2 2 m_law_plus
noncomputable def m_law_sum : MS := (sSq (sSet 1 (mTup (mCons (mPure (.int 0)) (mCons (mPure (.int 1)) (mPure [])))))
  (sSq (sFor (mSeq (mVar 0)) (gNm 2) (sSet 1 (mCall f_law_plus (mCons (mVar 1) (mCons (mVar 2) (mPure []))))))
  (sRet (mVar 1))))
noncomputable def f_law_sum : List D → Option D := runP 1 3 m_law_sum
noncomputable def m_law_dot : MS := (sRet (mCall f_law_sum (mCons (mLc (mZip2 (mCons (mVar 0) (mCons (mVar 1) (mPure [])))) [2, 3] (gTp 2 (gCns (gNm 2) (gCns (gNm 3) gNl))) (mPure true) (mCall f_law_times (mCons (mVar 2) (mCons (mVar 3) (mPure []))))) (mPure []))))
noncomputable def f_law_dot : List D → Option D := runP 2 4 m_law_dot
noncomputable def m_law_ds_costs : MS := (sRet (mLc (mSeq (mOp2 ixD (mVarB 0) (mPure (.int 1)))) [1] (gNm 1) (mPure true) (mLc (mSeq (mOp2 ixD (mVarB 0) (mPure (.int 1)))) [2] (gNm 2) (mPure true) (mCall f_law_dot (mCons (mOp2 ixD (mVarB 1) (mPure (.int 0))) (mCons (mOp2 ixD (mVarB 2) (mPure (.int 1))) (mPure [])))))))
noncomputable def f_law_ds_costs : List D → Option D := runP 1 3 m_law_ds_costs
noncomputable def m_law_minus : MS := (sRet (mCall f_law_q (mCons (mOp2 subD (mOp2 mulI (mOp2 ixD (mVarB 0) (mPure (.int 0))) (mOp2 ixD (mVarB 1) (mPure (.int 1)))) (mOp2 mulI (mOp2 ixD (mVarB 1) (mPure (.int 0))) (mOp2 ixD (mVarB 0) (mPure (.int 1))))) (mCons (mOp2 mulI (mOp2 ixD (mVarB 0) (mPure (.int 1))) (mOp2 ixD (mVarB 1) (mPure (.int 1)))) (mPure [])))))
noncomputable def f_law_minus : List D → Option D := runP 2 2 m_law_minus
noncomputable def m_law_worth : MS := (sSq (sSet 3 (mPure .non))
  (sSq (sFor (mZip2 (mCons (mOp2 ixD (mVarB 0) (mPure (.int 1))) (mCons (mVar 1) (mPure [])))) (gTp 2 (gCns (gTp 2 (gCns (gNm 5) (gCns (gNm 6) gNl))) (gCns (gTp 2 (gCns (gNm 7) (gCns (gNm 8) gNl))) gNl))) (sSq (sSet 4 (mCall f_law_plus (mCons (mVar 7) (mCons (mCall f_law_times (mCons (mVar 8) (mCons (mCall f_law_minus (mCons (mCall f_law_dot (mCons (mVar 5) (mCons (mVar 2) (mPure [])))) (mCons (mCall f_law_dot (mCons (mVar 5) (mCons (mVar 6) (mPure [])))) (mPure [])))) (mPure [])))) (mPure [])))))
  (sSet 3 (mIte (mOr (mTst (mOp2 isD (mVarB 3) (mPure .non))) (mTst (mCall f_law_less (mCons (mVar 4) (mCons (mVar 3) (mPure [])))))) (mVar 4) (mVar 3)))))
  (sRet (mVar 3))))
noncomputable def f_law_worth : List D → Option D := runP 3 9 m_law_worth
noncomputable def m_law_over : MS := (sRet (mCall f_law_q (mCons (mOp2 mulI (mOp2 ixD (mVarB 0) (mPure (.int 0))) (mOp2 ixD (mVarB 1) (mPure (.int 1)))) (mCons (mOp2 mulI (mOp2 ixD (mVarB 0) (mPure (.int 1))) (mOp2 ixD (mVarB 1) (mPure (.int 0)))) (mPure [])))))
noncomputable def f_law_over : List D → Option D := runP 2 2 m_law_over
noncomputable def m_law_bundle : MS := (sSq (sSet 3 (mLc (mSeq (mVar 1)) [6] (gNm 6) (mPure true) (mCallR f_law_draw (mCons (mVar 0) (mCons (mPure (.int 4)) (mPure []))))))
  (sSq (sIf (mTst (mOp2 eqD (mCall sumD (mCons (mVarB 3) (mPure []))) (mPure (.int 0)))) (sRet (mOp2 mulT (mTup (mCons (mTup (mCons (mPure (.int 0)) (mCons (mPure (.int 1)) (mPure [])))) (mPure []))) (mCall lenD (mCons (mVarB 1) (mPure []))))) sNil)
  (sSq (sSet 4 (mCall f_law_sum (mCons (mLc (mZip2 (mCons (mVar 3) (mCons (mVar 1) (mPure [])))) [7, 6] (gTp 2 (gCns (gNm 7) (gCns (gNm 6) gNl))) (mPure true) (mCall f_law_times (mCons (mTup (mCons (mVar 7) (mCons (mPure (.int 1)) (mPure [])))) (mCons (mVar 6) (mPure []))))) (mPure []))))
  (sSq (sSet 5 (mCall f_law_times (mCons (mCall f_law_over (mCons (mVar 2) (mCons (mVar 4) (mPure [])))) (mCons (mCallR f_law_pick (mCons (mVar 0) (mCons (mLst (mCons (mTup (mCons (mPure (.int 1)) (mCons (mPure (.int 1)) (mPure [])))) (mCons (mTup (mCons (mPure (.int 1)) (mCons (mPure (.int 1)) (mPure [])))) (mCons (mTup (mCons (mPure (.int 1)) (mCons (mPure (.int 2)) (mPure [])))) (mPure []))))) (mPure [])))) (mPure [])))))
  (sRet (mCall tupleD (mCons (mLc (mSeq (mVar 3)) [7] (gNm 7) (mPure true) (mCall f_law_times (mCons (mTup (mCons (mVar 7) (mCons (mPure (.int 1)) (mPure [])))) (mCons (mVar 5) (mPure []))))) (mPure []))))))))
noncomputable def f_law_bundle : List D → Rng → Option (D × Rng) := runR 3 8 m_law_bundle
noncomputable def m_law_ds_marks : MS := (sSq (sPar2 2 3 false (mLst (mCons (mTup (mCons (mPure (.int 1)) (mCons (mPure (.int 1)) (mPure [])))) (mPure []))) true (mLst (mPure [])))
  (sSq (sFor (mRg1 (mCons (mCall lenD (mCons (mVarB 0) (mPure []))) (mPure []))) (gNm 1) (sFor (mRg1 (mCons (mCall lenD (mCons (mVarB 0) (mPure []))) (mPure []))) (gNm 4) (sSq (sSet 7 (mCall f_law_over (mCons (mOp2 ixD (mOp2 ixD (mVarB 0) (mVarB 1)) (mVarB 4)) (mCons (mOp2 ixD (mOp2 ixD (mVarB 0) (mVarB 1)) (mVarB 1)) (mPure [])))))
  (sSet 2 (mOp2 addL (mVarB 2) (mIte (mAnd (mTst (mOp2 neD (mVarB 1) (mVarB 4))) (mTst (mCall f_law_less (mCons (mVar 7) (mCons (mTup (mCons (mPure (.int 1)) (mCons (mPure (.int 1)) (mPure [])))) (mPure [])))))) (mLst (mCons (mVar 7) (mPure []))) (mLst (mPure []))))))))
  (sSq (sWh (mTst (mOp2 neD (mVarB 2) (mLst (mPure [])))) (sSq (sSet 5 (mOp2 ixD (mVarB 2) (mPure (.int 0))))
  (sSq (sFor (mSeq (mVar 2)) (gNm 6) (sSet 5 (mIte (mTst (mCall f_law_less (mCons (mVar 6) (mCons (mVar 5) (mPure []))))) (mVar 6) (mVar 5))))
  (sSq (sApp 3 (mVar 5))
  (sSet 2 (mLc (mSeq (mVar 2)) [6] (gNm 6) (mTst (mOp2 neD (mVarB 6) (mVarB 5))) (mVar 6)))))))
  (sFrz 3 (sRet (mVar 3))))))
noncomputable def f_law_ds_marks : List D → Option D := runP 1 8 m_law_ds_marks
noncomputable def m_law_ds_part : MS := (sSq (sSet 2 (mCall f_law_ds_marks (mCons (mVar 1) (mPure []))))
  (sSq (sPar2 5 6 false (mCallR f_law_pick (mCons (mVar 0) (mCons (mVar 2) (mPure [])))) false (mCallR f_law_pick (mCons (mVar 0) (mCons (mLst (mCons (mTup (mCons (mPure (.int 1)) (mCons (mOp2 powD (mPure (.int 10)) (mPure (.int 6))) (mPure [])))) (mCons (mTup (mCons (mPure (.int 1)) (mCons (mPure (.int 7)) (mPure [])))) (mPure [])))) (mPure [])))))
  (sSq (sSet 3 (mCall f_law_minus (mCons (mVar 5) (mCons (mCall f_law_times (mCons (mVar 6) (mCons (mVar 5) (mPure [])))) (mPure [])))))
  (sSq (sSet 4 (mCall f_law_plus (mCons (mVar 5) (mCons (mCall f_law_times (mCons (mVar 6) (mCons (mCall f_law_minus (mCons (mTup (mCons (mPure (.int 1)) (mCons (mPure (.int 1)) (mPure [])))) (mCons (mVar 5) (mPure [])))) (mPure [])))) (mPure [])))))
  (sRet (mCallR f_law_pick (mCons (mVar 0) (mCons (mLst (mCons (mVar 5) (mCons (mVar 3) (mCons (mVar 4) (mCons (mTup (mCons (mPure (.int 1)) (mCons (mPure (.int 1)) (mPure [])))) (mCons (mTup (mCons (mPure (.int 0)) (mCons (mPure (.int 1)) (mPure [])))) (mCons (mCall f_law_q (mCons (mCallR f_law_draw (mCons (mVar 0) (mCons (mPure (.int 8)) (mPure [])))) (mCons (mPure (.int 7)) (mPure [])))) (mPure [])))))))) (mPure [])))))))))
noncomputable def f_law_ds_part : List D → Rng → Option (D × Rng) := runR 2 7 m_law_ds_part
noncomputable def m_law : MS := (sSq (sIf (mNot (mTst (mCall f_law_is_known (mPure [])))) (sRet (mPure (.bl false))) sNil)
  (sSq (sFor (mRg1 (mCons (mOp2 addD (mPure (.int 4)) (mCall minD (mCons (mCall lenD (mCons (mVarB 0) (mPure []))) (mCons (mPure (.int 6)) (mPure []))))) (mPure []))) (gNm 2) (sSq (sSet 3 (mCallR f_law_ds_budgets (mCons (mVar 1) (mCons (mPure (.int 6)) (mPure [])))))
  (sSq (sAsg (mCall f_numbers_at (mCons (mVar 3) (mCons (mTup (mCons (mPure (.int 1)) (mCons (mPure (.int 1)) (mPure [])))) (mPure [])))) (gTp 2 (gCns (gNm 6) (gCns (gNm 7) gNl))))
  (sSq (sIf (mOr (mTst (mOp2 neD (mOp2 eqD (mVarB 6) (mPure (.str "ring"))) (mCall f_law_ds_has_ring (mCons (mCall f_law_ds_costs (mCons (mVar 3) (mPure []))) (mCons (mTup (mCons (mPure (.int 1)) (mCons (mPure (.int 1)) (mPure [])))) (mPure [])))))) (mTst (mOp2 ninD (mVarB 6) (mLst (mCons (mPure (.str "numbers")) (mCons (mPure (.str "ring")) (mPure []))))))) (sRet (mPure (.bl false))) sNil)
  (sSq (sSet 4 (mCall f_costs (mCons (mVar 3) (mPure []))))
  (sSq (sIf (mTst (mOp2 eqD (mVarB 6) (mPure (.str "numbers")))) (sSq (sFor (mEnumQ (mCons (mOp2 ixD (mVarB 3) (mPure (.int 1))) (mPure []))) (gTp 2 (gCns (gNm 8) (gCns (gTp 2 (gCns (gNm 10) (gCns (gNm 11) gNl))) gNl))) (sSq (sIf (mTst (mOp2 neD (mCall f_law_worth (mCons (mVar 3) (mCons (mVar 7) (mCons (mVar 11) (mPure []))))) (mOp2 ixD (mOp2 ixD (mVarB 7) (mVarB 8)) (mPure (.int 0))))) (sRet (mPure (.bl false))) sNil)
  (sFor (mRg1 (mCons (mPure (.int 4)) (mPure []))) (gNm 9) (sSq (sSet 12 (mCallR f_law_bundle (mCons (mVar 1) (mCons (mVar 10) (mCons (mOp2 ixD (mOp2 ixD (mVarB 4) (mVarB 8)) (mVarB 8)) (mPure []))))))
  (sIf (mTst (mCall f_law_less (mCons (mOp2 ixD (mOp2 ixD (mVarB 7) (mVarB 8)) (mPure (.int 0))) (mCons (mCall f_law_worth (mCons (mVar 3) (mCons (mVar 7) (mCons (mVar 12) (mPure []))))) (mPure []))))) (sRet (mPure (.bl false))) sNil)))))
  (sIf (mTst (mOp2 neD (mOp2 ixD (mCall f_numbers_at (mCons (mVar 3) (mCons (mCallR f_law_ds_part (mCons (mVar 1) (mCons (mCall f_law_ds_costs (mCons (mVar 3) (mPure []))) (mPure [])))) (mPure [])))) (mPure (.int 0))) (mPure (.str "numbers")))) (sRet (mPure (.bl false))) sNil)) sNil)
  (sSq (sSet 5 (mTup (mCons (mPure (.str "budgets")) (mCons (mSl slD (mOp2 ixD (mVarB 3) (mPure (.int 1))) (mPart (mPure (.int 1))) (mPure none)) (mPure [])))))
  (sIf (mAnd (mTst (mOp2 gtD (mCall lenD (mCons (mOp2 ixD (mVarB 3) (mPure (.int 1))) (mPure []))) (mPure (.int 1)))) (mAnd (mTst (mOp2 eqD (mOp2 ixD (mCall f_numbers_at (mCons (mVar 5) (mCons (mTup (mCons (mPure (.int 1)) (mCons (mPure (.int 1)) (mPure [])))) (mPure [])))) (mPure (.int 0))) (mPure (.str "ring")))) (mTst (mOp2 neD (mVarB 6) (mPure (.str "ring")))))) (sRet (mPure (.bl false))) sNil))))))))
  (sRet (mPure (.bl true)))))
end K35
namespace Dv
open PySem PyProof.Rows L2

/-! ### evaluating -/
theorem ev_var {i : Nat} {ρ : Lo} {S : Sg} {d : D} (h : ρ[i]? = some (some (.imm d))) : mVar i ρ S = some (d, S) := by unfold mVar; rw [h]
theorem ev_varB {i : Nat} {ρ : Lo} {S : Sg} {d : D} (h : ρ[i]? = some (some (.imm d))) : mVarB i ρ S = some (d, S) := by unfold mVarB; rw [h]
theorem ev_varO {i : Nat} {ρ : Lo} {S : Sg} {d : D} (h : ρ[i]? = some (some (.own d))) : mVarB i ρ S = some (d, S) := by unfold mVarB; rw [h]
theorem addD_int (i j : Int) : addD (.int i) (.int j) = some (.int (i + j)) := rfl
theorem subD_int (i j : Int) : subD (.int i) (.int j) = some (.int (i - j)) := rfl
theorem ltD_int (i j : Int) : ltD (.int i) (.int j) = some (.bl (decide (i < j))) := rfl
theorem leD_int (i j : Int) : leD (.int i) (.int j) = some (.bl (decide (i ≤ j))) := rfl
theorem gtD_int (i j : Int) : gtD (.int i) (.int j) = some (.bl (decide (j < i))) := rfl
theorem geD_int (i j : Int) : geD (.int i) (.int j) = some (.bl (decide (j ≤ i))) := rfl
theorem mulI_int {i j : Int} (h : i.natAbs.log2 + j.natAbs.log2 < 1000000) : mulI (.int i) (.int j) = some (.int (i * j)) := by
  simp [mulI, liftI2, h]
theorem fdivD_int {i j : Int} (h : 0 < j) (h' : j.natAbs.log2 < 9000) : fdivD (.int i) (.int j) = some (.int (i / j)) := by
  simp [fdivD, liftI2, h, h']
theorem modD_int {i j : Int} (h : 0 < j) : modD (.int i) (.int j) = some (.int (i % j)) := by
  simp [modD, liftI2, h]
theorem negD_int (i : Int) : negD (.int i) = some (.int (-i)) := rfl
theorem ix_nat {d : D} {ds : List D} {n : Nat} {x : D} (h : itemsD d = some ds) (e : ds[n]? = some x) : ixD d (.int (n : Int)) = some x := by
  have hn := (List.getElem?_eq_some_iff.mp e).1
  unfold ixD
  simp only [h]
  unfold atI
  rw [show ixN ds.length (n : Int) = some n by unfold ixN; rw [if_pos (by omega), if_pos (by omega)]; simp]
  exact e
theorem ix_neg {d : D} {ds : List D} {x : D} (h : itemsD d = some ds) (e : ds.getLast? = some x) : ixD d (.int (-1)) = some x := by
  have hn : 0 < ds.length := by
    cases ds with
    | nil => cases e
    | cons _ _ => simp
  unfold ixD
  simp only [h]
  unfold atI ixN
  rw [if_neg (by omega), if_pos (by omega)]
  have : ((-1 : Int) + (ds.length : Int)).toNat = ds.length - 1 := by omega
  show ds[((-1 : Int) + (ds.length : Int)).toNat]? = some x
  rw [this, ← List.getLast?_eq_getElem?]
  exact e
theorem len_items {d : D} {ds : List D} (h : itemsD d = some ds) : lenD [d] = some (.int ds.length) := by
  unfold lenD lenA
  simp only [h]
  rfl
theorem gcdD_int (i j : Int) : gcdD [.int i, .int j] = some (.int ((Nat.gcd i.natAbs j.natAbs : Nat) : Int)) := rfl
theorem absD_int (i : Int) : absD [.int i] = some (.int (iabs i)) := rfl

end Dv
namespace Dv
open PySem PyProof.Rows L2

/-! ### comprehensions and loops over lists of known things -/
section
variable {α β : Type} {R : D → α → Prop} {g : MG} {t : MT} {m : ME} {S : Sg}
theorem lc_rel {ρ : Lo} (f : α → D) : ∀ {ds : List D} {xs : List α}, Paired R ds xs → (∀ d a, R d a → a ∈ xs → ∃ ρ1, g d ρ = some ρ1 ∧ t ρ1 S = some (true, S) ∧ m ρ1 S = some (f a, S)) → lcGo ρ g t m ds S = some (xs.map f, S)
  | _, _, .nil, _ => rfl
  | d :: ds, a :: xs, .cons r p, h => by
    obtain ⟨ρ1, e1, e2, e3⟩ := h d a r List.mem_cons_self
    show Option.bind (g d ρ) _ = _
    rw [e1]
    simp only [Option.bind_some]
    rw [e2]
    simp only [Option.bind_some, if_true]
    rw [e3]
    simp only [Option.bind_some]
    rw [lc_rel f p fun d a r ha => h d a r (List.mem_cons_of_mem _ ha)]
    rfl
/-- with a test -/
theorem lc_if {ρ : Lo} (b : α → Bool) (f : α → D) : ∀ {ds : List D} {xs : List α}, Paired R ds xs → (∀ d a, R d a → a ∈ xs → ∃ ρ1, g d ρ = some ρ1 ∧ t ρ1 S = some (b a, S) ∧ (b a = true → m ρ1 S = some (f a, S))) → lcGo ρ g t m ds S = some ((xs.filter b).map f, S)
  | _, _, .nil, _ => rfl
  | d :: ds, a :: xs, .cons r p, h => by
    obtain ⟨ρ1, e1, e2, e3⟩ := h d a r List.mem_cons_self
    show Option.bind (g d ρ) _ = _
    rw [e1]
    simp only [Option.bind_some]
    rw [e2]
    simp only [Option.bind_some]
    have ih := lc_if b f p fun d a r ha => h d a r (List.mem_cons_of_mem _ ha)
    cases hb : b a with
    | true =>
      rw [List.filter_cons_of_pos hb]
      simp only [if_true]
      rw [e3 hb]
      simp only [Option.bind_some]
      rw [ih]; rfl
    | false =>
      rw [List.filter_cons_of_neg (by rw [hb]; exact Bool.false_ne_true)]
      (simp only [Bool.false_eq_true, if_false]); exact ih
/-- the draws are drawn from: an existing run -/
theorem lc_run {ρ : Lo} {P : D → Prop} : ∀ {n : Nat} {ds : List D} {r : Rng} (I : Rng → Prop), ds.length = n → I r → (∀ d ∈ ds, ∀ r, I r → ∃ ρ1 y r', g d ρ = some ρ1 ∧ t ρ1 (some r) = some (true, some r) ∧ m ρ1 (some r) = some (y, some r') ∧ P y ∧ I r') →
    ∃ ys r', lcGo ρ g t m ds (some r) = some (ys, some r') ∧ ys.length = n ∧ (∀ y ∈ ys, P y) ∧ I r'
  | _, [], r, I, hn, hi, _ => ⟨[], r, rfl, hn, (fun _ h => by cases h), hi⟩
  | 0, d :: ds, r, I, hn, hi, h => by simp at hn
  | n + 1, d :: ds, r, I, hn, hi, h => by
    obtain ⟨ρ1, y, r1, e1, e2, e3, p, i1⟩ := h d List.mem_cons_self r hi
    obtain ⟨ys, r2, e4, hl, hp, i2⟩ := lc_run I (n := n) (ds := ds) (by simpa using hn) i1 fun d hd => h d (List.mem_cons_of_mem _ hd)
    refine ⟨y :: ys, r2, ?_, by simp [hl], fun z hz => ?_, i2⟩
    · show Option.bind (g d ρ) _ = _
      rw [e1]
      simp only [Option.bind_some]
      rw [e2]
      simp only [Option.bind_some, if_true]
      rw [e3]
      simp only [Option.bind_some]
      rw [e4]; rfl
    · rcases List.mem_cons.mp hz with rfl | hz
      · exact p
      · exact hp z hz
variable {ms : MS}
/-- for: each turn keeps Inv -/
theorem for_fold (Inv : β → Lo → Prop) (step : β → α → β) : ∀ {ds : List D} {xs : List α}, Paired R ds xs → (∀ d a b ρ, R d a → a ∈ xs → Inv b ρ → ∃ ρ1 fl ρ2, g d ρ = some ρ1 ∧ ms ρ1 S = some (fl, ρ2, S) ∧ (fl = .nx ∨ fl = .ct) ∧ Inv (step b a) ρ2) →
    ∀ b ρ, Inv b ρ → ∃ ρ', forGo g ms ds ρ S = some (.nx, ρ', S) ∧ Inv (xs.foldl step b) ρ'
  | _, _, .nil, _, b, ρ, hi => ⟨ρ, rfl, hi⟩
  | d :: ds, a :: xs, .cons r p, h, b, ρ, hi => by
    obtain ⟨ρ1, fl, ρ2, e1, e2, hf, i2⟩ := h d a b ρ r List.mem_cons_self hi
    obtain ⟨ρ', e3, i3⟩ := for_fold Inv step p (fun d a b ρ r ha => h d a b ρ r (List.mem_cons_of_mem _ ha)) _ _ i2
    refine ⟨ρ', ?_, i3⟩
    show Option.bind (g d ρ) _ = _
    rw [e1]
    simp only [Option.bind_some]
    rw [e2]
    simp only [Option.bind_some]
    rcases hf with rfl | rfl <;> exact e3
/-- for with draws or an early end: each turn keeps Inv (a state of one's own choice) or ends -/
theorem for_run {P : Fl → Lo → Sg → Prop} (Inv : Nat → Lo → Sg → Prop) : ∀ {ds : List D} (k : Nat), (∀ (i : Nat) d ρ S, ds[i]? = some d → Inv (k + i) ρ S → ∃ ρ1 fl ρ2 S2, g d ρ = some ρ1 ∧ ms ρ1 S = some (fl, ρ2, S2) ∧
      match fl with | .nx | .ct => Inv (k + i + 1) ρ2 S2 | .bk => P .nx ρ2 S2 | .rt d => P (.rt d) ρ2 S2) →
    (∀ ρ S, Inv (k + ds.length) ρ S → P .nx ρ S) → ∀ ρ S, Inv k ρ S → ∃ fl ρ' S', forGo g ms ds ρ S = some (fl, ρ', S') ∧ P fl ρ' S'
  | [], k, _, he, ρ, S, hi => ⟨.nx, ρ, S, rfl, he ρ S hi⟩
  | d :: ds, k, h, he, ρ, S, hi => by
    obtain ⟨ρ1, fl, ρ2, S2, e1, e2, hf⟩ := h 0 d ρ S rfl hi
    have ih := for_run (P := P) Inv (ds := ds) (k + 1) (fun i d ρ S hd hi => by
      have := h (i + 1) d ρ S (by simpa using hd) (by rw [show k + (i + 1) = k + 1 + i by omega]; exact hi)
      rw [show k + (i + 1) = k + 1 + i by omega] at this
      exact this) (fun ρ S hi => he ρ S (by rw [List.length_cons, show k + (ds.length + 1) = k + 1 + ds.length by omega]; exact hi))
    have red : forGo g ms (d :: ds) ρ S = (ms ρ1 S).bind fun p => match p.1 with
        | .nx => forGo g ms ds p.2.1 p.2.2
        | .ct => forGo g ms ds p.2.1 p.2.2
        | .bk => some (.nx, p.2.1, p.2.2)
        | .rt d => some (.rt d, p.2.1, p.2.2) := by
      show Option.bind (g d ρ) _ = _
      rw [e1]
      rfl
    cases fl with
    | nx => rw [e2] at red; rw [red]; exact ih ρ2 S2 hf
    | ct => rw [e2] at red; rw [red]; exact ih ρ2 S2 hf
    | bk => rw [e2] at red; rw [red]; exact ⟨_, _, _, rfl, hf⟩
    | rt d => rw [e2] at red; rw [red]; exact ⟨_, _, _, rfl, hf⟩
end
theorem paired_range (n : Nat) : Paired (fun d i => d = D.int (i : Nat) ∧ i < n) (rangeL 0 n) (List.range n) := by
  unfold rangeL
  have e : ((n : Int) - 0).toNat = n := by omega
  rw [e]
  refine paired_of (by simp) fun i x y h1 h2 => ?_
  rw [List.getElem?_map] at h1
  rw [h2] at h1
  simp only [Option.map_some, Option.some.injEq] at h1
  subst h1
  refine ⟨by simp, ?_⟩
  have := List.mem_of_getElem? h2
  simpa using this
theorem rg1_nat {m : MA} {ρ : Lo} {S S' : Sg} {n : Nat} (h : m ρ S = some ([.int (n : Nat)], S')) (hn : n ≤ 1000000) : mRg1 m ρ S = some (rangeL 0 n, S') := by
  unfold mRg1
  rw [h]
  simp only [Option.bind_some]
  rw [if_pos (by omega)]
theorem paired_zip {α β : Type} {R : D → α → Prop} {Q : D → β → Prop} : ∀ {ds es : List D} {xs : List α} {ys : List β}, Paired R ds xs → Paired Q es ys → Paired (fun d p => ∃ x y, d = D.tup [x, y] ∧ R x p.1 ∧ Q y p.2) (List.zipWith (fun a b => D.tup [a, b]) ds es) (xs.zip ys)
  | _, _, _, _, .nil, _ => .nil
  | _, _, _, _, .cons _ _, .nil => .nil
  | _, _, _, _, .cons r p, .cons q s => .cons ⟨_, _, rfl, r, q⟩ (paired_zip p s)
theorem paired_mapL {α : Type} {R : D → α → Prop} {e : α → D} (h : ∀ a, R (e a) a) : ∀ xs : List α, Paired R (xs.map e) xs
  | [] => .nil
  | a :: xs => .cons (h a) (paired_mapL h xs)
theorem paired_mapM {α : Type} {R : D → α → Prop} {e : α → D} : ∀ {xs : List α}, (∀ a ∈ xs, R (e a) a) → Paired R (xs.map e) xs
  | [], _ => .nil
  | a :: xs, h => .cons (h a List.mem_cons_self) (paired_mapM fun b hb => h b (List.mem_cons_of_mem _ hb))
end Dv
namespace Dv
open PySem PyProof.Rows L2
/-- a comprehension that draws, the turns counted -/
theorem lc_runN {g : MG} {t : MT} {m : ME} {ρ : Lo} {P : D → Prop} : ∀ {ds : List D} {r : Rng} (k : Nat) (I : Nat → Rng → Prop), I k r → (∀ (i : Nat) d r, ds[i]? = some d → I (k + i) r → ∃ ρ1 y r', g d ρ = some ρ1 ∧ t ρ1 (some r) = some (true, some r) ∧ m ρ1 (some r) = some (y, some r') ∧ P y ∧ I (k + i + 1) r') →
    ∃ ys r', lcGo ρ g t m ds (some r) = some (ys, some r') ∧ ys.length = ds.length ∧ (∀ y ∈ ys, P y) ∧ I (k + ds.length) r'
  | [], r, k, I, hi, _ => ⟨[], r, rfl, rfl, (fun _ h => by cases h), hi⟩
  | d :: ds, r, k, I, hi, h => by
    obtain ⟨ρ1, y, r1, e1, e2, e3, p, i1⟩ := h 0 d r rfl hi
    obtain ⟨ys, r2, e4, hl, hp, i2⟩ := lc_runN (k + 1) I i1 fun i d r hd hI => by
      have := h (i + 1) d r (by simpa using hd) (by rw [show k + (i + 1) = k + 1 + i by omega]; exact hI)
      rw [show k + (i + 1) = k + 1 + i by omega] at this
      exact this
    refine ⟨y :: ys, r2, ?_, by simp [hl], fun z hz => ?_, by rw [List.length_cons, show k + (ds.length + 1) = k + 1 + ds.length by omega]; exact i2⟩
    · show Option.bind (g d ρ) _ = _
      rw [e1]
      simp only [Option.bind_some]
      rw [e2]
      simp only [Option.bind_some, if_true]
      rw [e3]
      simp only [Option.bind_some]
      rw [e4]; rfl
    · rcases List.mem_cons.mp hz with rfl | hz
      · exact p
      · exact hp z hz
end Dv
namespace Dv
open PySem PyProof.Rows L2
theorem neD_int (a b : Int) : neD (.int a) (.int b) = some (.bl (decide (a ≠ b))) := by
  have e : PyData.eqv (.int a) (.int b) = decide (a = b) := by
    simp only [PyData.eqv]
    exact Bool.eq_iff_iff.mpr (by simp)
  have : neD (.int a) (.int b) = some (.bl (!PyData.eqv (.int a) (.int b))) := rfl
  rw [this, e]
  by_cases h : a = b <;> simp [h]
theorem eqD_int (a b : Int) : eqD (.int a) (.int b) = some (.bl (decide (a = b))) := by
  have e : PyData.eqv (.int a) (.int b) = decide (a = b) := by
    simp only [PyData.eqv]
    exact Bool.eq_iff_iff.mpr (by simp)
  have : eqD (.int a) (.int b) = some (.bl (PyData.eqv (.int a) (.int b))) := rfl
  rw [this, e]
theorem sSq_nx {m k : MS} {ρ ρ' : Lo} {S S' : Sg} (h : m ρ S = some (.nx, ρ', S')) : sSq m k ρ S = k ρ' S' := by unfold sSq; rw [h]; rfl
theorem sSq_rt {m k : MS} {ρ ρ' : Lo} {S S' : Sg} {d : D} (h : m ρ S = some (.rt d, ρ', S')) : sSq m k ρ S = some (.rt d, ρ', S') := by unfold sSq; rw [h]; rfl
theorem sSq_eq {m k : MS} {ρ : Lo} {S : Sg} : sSq m k ρ S = (m ρ S).bind fun p => match p.1 with | .nx => k p.2.1 p.2.2 | _ => some p := rfl
theorem mOp2_of {f : D → D → Option D} {ma mb : ME} {ρ : Lo} {S S1 S2 : Sg} {d1 d2 d : D} (h1 : ma ρ S = some (d1, S1)) (h2 : mb ρ S1 = some (d2, S2)) (h : f d1 d2 = some d) : mOp2 f ma mb ρ S = some (d, S2) := by
  unfold mOp2
  rw [h1]
  simp only [Option.bind_some]
  rw [h2]
  simp only [Option.bind_some]
  rw [h]
  rfl
theorem sPar2_of {i j : Nat} {k1 k2 : Bool} {m1 m2 : ME} {ρ : Lo} {S S1 S2 : Sg} {d1 d2 : D} (h1 : m1 ρ S = some (d1, S1)) (h2 : m2 ρ S1 = some (d2, S2)) : sPar2 i j k1 m1 k2 m2 ρ S = some (.nx, (ρ.set i (some (mkL k1 d1))).set j (some (mkL k2 d2)), S2) := by
  unfold sPar2
  rw [h1]
  simp only [Option.bind_some]
  rw [h2]
  rfl
theorem lst1_of {m : ME} {ρ : Lo} {S S1 : Sg} {d : D} (h : m ρ S = some (d, S1)) : mLst (mCons m (mPure [])) ρ S = some (.lst [d], S1) := by
  unfold mLst mCons
  rw [h]
  rfl
theorem rangeL_get {n i : Nat} {d : D} (h : (rangeL 0 n)[i]? = some d) : i < n ∧ d = .int (i : Nat) := by
  obtain ⟨a, ha, rfl, hr⟩ := paired_get'' (paired_range n) h
  obtain ⟨hi, e⟩ := List.getElem?_eq_some_iff.mp ha
  have e : i = a := by simpa using e
  subst e
  exact ⟨hr, rfl⟩
theorem rangeL_len (n : Nat) : (rangeL 0 n).length = n := by unfold rangeL; simp
theorem ixN_of {n j : Nat} (h : j < n) : ixN n (j : Int) = some j := by
  (unfold ixN); rw [if_pos (by omega), if_pos (by omega)]; simp
theorem str_ne {a b : Str} (ha : SeqAt.shaped (.str a) = true) (hb : SeqAt.shaped (.str b) = true) : neD (.str a) (.str b) = some (.bl (decide (a ≠ b))) := by
  have e : PyData.eqv (.str a) (.str b) = decide (a = b) := by
    simp only [PyData.eqv]
    exact Bool.eq_iff_iff.mpr (by simp)
  show (if (SeqAt.shaped (.str a) && SeqAt.shaped (.str b)) = true then some (D.bl (!PyData.eqv (.str a) (.str b))) else none) = _
  rw [ha, hb, e]
  by_cases h : a = b <;> simp [h]
theorem str_eq {a b : Str} (ha : SeqAt.shaped (.str a) = true) (hb : SeqAt.shaped (.str b) = true) : eqD (.str a) (.str b) = some (.bl (decide (a = b))) := by
  have e : PyData.eqv (.str a) (.str b) = decide (a = b) := by
    simp only [PyData.eqv]
    exact Bool.eq_iff_iff.mpr (by simp)
  show (if (SeqAt.shaped (.str a) && SeqAt.shaped (.str b)) = true then some (D.bl (PyData.eqv (.str a) (.str b))) else none) = _
  rw [ha, hb, e]
  rfl
theorem mCall_of {f : List D → Option D} {n : MA} {ρ : Lo} {S S1 : Sg} {ds : List D} {d : D} (h : n ρ S = some (ds, S1)) (hf : f ds = some d) : mCall f n ρ S = some (d, S1) := by
  unfold mCall; rw [h]; simp only [Option.bind_some]; rw [hf]; rfl
theorem sRet_of {m : ME} {ρ : Lo} {S S1 : Sg} {d : D} (h : m ρ S = some (d, S1)) : sRet m ρ S = some (.rt d, ρ, S1) := by
  unfold sRet; rw [h]; rfl
theorem runP_rt {k n : Nat} {m : MS} {ds : List D} {d : D} {ρ' : Lo} {S' : Sg} (hl : ds.length = k) (h : m (startL n ds) none = some (.rt d, ρ', S')) : runP k n m ds = some d := by
  unfold runP; rw [if_pos hl, h]; rfl
theorem cons_of {m : ME} {n : MA} {ρ : Lo} {S S1 S2 : Sg} {d : D} {ds : List D} (h : m ρ S = some (d, S1)) (h' : n ρ S1 = some (ds, S2)) : mCons m n ρ S = some (d :: ds, S2) := by
  unfold mCons; rw [h]; simp only [Option.bind_some]; rw [h']; rfl
theorem expr_of {m : ME} {ρ : Lo} {S S1 : Sg} {d : D} (h : m ρ S = some (d, S1)) : sExpr m ρ S = some (.nx, ρ, S1) := by
  unfold sExpr; rw [h]; rfl
theorem six_1 (n : Nat) (h : 1 ≤ n) : HT.sIx n 0 (some 1) = 1 := by
  unfold HT.sIx
  simp
  omega
theorem six_1e (n : Nat) (h : 1 ≤ n) : HT.sIx n n (some 1) = 1 := by
  unfold HT.sIx
  simp
  omega
theorem six_n0 (n : Nat) : HT.sIx n 0 none = 0 := rfl
theorem six_nn (n : Nat) : HT.sIx n n none = n := rfl
theorem sl_tail (x : D) (xs : List D) : slD (.tup (x :: xs)) (some 1) none = some (.tup xs) := by
  have h : slT (.tup (x :: xs)) (some 1) none = some (.tup xs) := by
    unfold slT
    simp only [D.asT]
    rw [six_1 _ (by simp), six_nn, if_neg (by omega)]
    unfold cutG
    rw [six_1 _ (by simp), six_nn]
    simp
  unfold slD
  rw [h]; rfl
theorem sl_head (x : D) (xs : List D) (h0 : xs ≠ []) : slD (.tup (x :: xs)) none (some 1) = some (.tup [x]) := by
  have hl := List.length_pos_iff.mpr h0
  have h : slT (.tup (x :: xs)) none (some 1) = some (.tup [x]) := by
    unfold slT
    simp only [D.asT]
    rw [six_1e _ (by simp), six_n0, if_neg (by simp; omega)]
    unfold cutG
    rw [six_1e _ (by simp), six_n0]
    simp
  unfold slD
  rw [h]; rfl
theorem add_tup {xs ys : List D} (h1 : xs ≠ []) (h2 : ys ≠ []) (hl : xs.length + ys.length ≤ 4000) : addD (.tup xs) (.tup ys) = some (.tup (xs ++ ys)) := by
  have hz : xs.length + ys.length ≤ sizeLine := Nat.le_trans hl (by decide)
  have e1 : xs.isEmpty = false := by cases xs with | nil => exact absurd rfl h1 | cons _ _ => rfl
  have e2 : ys.isEmpty = false := by cases ys with | nil => exact absurd rfl h2 | cons _ _ => rfl
  have h : addT (.tup xs) (.tup ys) = some (.tup (xs ++ ys)) := by
    unfold addT
    simp only [D.asT]
    rw [if_pos hz, e1, e2]
    rfl
  have h3 : addI (.tup xs) (.tup ys) = none := rfl
  have h4 : addS (.tup xs) (.tup ys) = none := rfl
  unfold addD
  rw [h, h3, h4]
  rfl
theorem mSl_of {f : D → Option Int → Option Int → Option D} {m : ME} {l u : MO} {ρ : Lo} {S : Sg} {d0 d : D} {lo hi : Option Int} (h1 : m ρ S = some (d0, S)) (h2 : l ρ S = some (lo, S)) (h3 : u ρ S = some (hi, S)) (h : f d0 lo hi = some d) : mSl f m l u ρ S = some (d, S) := by
  unfold mSl
  rw [h1]; simp only [Option.bind_some]
  rw [h2]; simp only [Option.bind_some]
  rw [h3]; simp only [Option.bind_some]
  rw [h]; rfl
theorem mLz_of {m : MA} {ρ : Lo} {S : Sg} {xs ys : List D} (h : m ρ S = some ([.tup xs, .tup ys], S)) : mLz m ρ S = some (.lst (List.zipWith (fun a b => D.tup [a, b]) xs ys), S) := by
  unfold mLz
  rw [h]; rfl
theorem sl_tailL (x : D) (xs : List D) : slD (.lst (x :: xs)) (some 1) none = some (.lst xs) := by
  have h : slL (.lst (x :: xs)) (some 1) none = some (.lst xs) := by
    unfold slL
    simp only [cutG]
    rw [six_1 _ (by simp), six_nn]
    simp
  unfold slD
  rw [h]; rfl
theorem mSeq_of {m : ME} {ρ : Lo} {S S1 : Sg} {d : D} {ds : List D} (h : m ρ S = some (d, S1)) (hi : itemsD d = some ds) : mSeq m ρ S = some (ds, S1) := by
  unfold mSeq; rw [h]; simp only [Option.bind_some]; rw [hi]; rfl
theorem for_of {mi : MA} {g : MG} {m : MS} {ρ : Lo} {S S1 : Sg} {ds : List D} {r : Fl × Lo × Sg} (h : mi ρ S = some (ds, S1)) (hf : forGo g m ds ρ S1 = some r) : sFor mi g m ρ S = some r := by
  unfold sFor; rw [h]; exact hf
theorem sPar3_of {i j l : Nat} {k1 k2 k3 : Bool} {m1 m2 m3 : ME} {ρ : Lo} {S S1 S2 S3 : Sg} {d1 d2 d3 : D} (h1 : m1 ρ S = some (d1, S1)) (h2 : m2 ρ S1 = some (d2, S2)) (h3 : m3 ρ S2 = some (d3, S3)) : sPar3 i j l k1 m1 k2 m2 k3 m3 ρ S = some (.nx, ((ρ.set i (some (mkL k1 d1))).set j (some (mkL k2 d2))).set l (some (mkL k3 d3)), S3) := by
  unfold sPar3
  rw [h1]; simp only [Option.bind_some]
  rw [h2]; simp only [Option.bind_some]
  rw [h3]; rfl
theorem set_of' {i : Nat} {m : ME} {ρ : Lo} {S S' : Sg} {d : D} (h : m ρ S = some (d, S')) : sSet i m ρ S = some (.nx, ρ.set i (some (.imm d)), S') := by
  unfold sSet; rw [h]; rfl
theorem bls_map {α : Type} (b : α → Bool) : ∀ xs : List α, blsD (xs.map fun a => D.bl (b a)) = some (xs.map b)
  | [] => rfl
  | a :: xs => by
    show (blsD (xs.map _)).map _ = _
    rw [bls_map b xs]; rfl
theorem all_map {α : Type} (b : α → Bool) (xs : List α) : allD [.lst (xs.map fun a => D.bl (b a))] = some (.bl (xs.all b)) := by
  unfold allD
  simp only [bls_map, Option.map_some, List.all_map]
  rfl
theorem any_map {α : Type} (b : α → Bool) (xs : List α) : anyD [.lst (xs.map fun a => D.bl (b a))] = some (.bl (xs.any b)) := by
  unfold anyD
  simp only [bls_map, Option.map_some, List.any_map]
  rfl
theorem isi_ii (i : Int) : isiD "int" (.int i) = some (.bl true) := by rfl
theorem isi_bi (i : Int) : isiD "bool" (.int i) = some (.bl false) := by rfl
theorem isi_tt (ds : List D) : isiD "tuple" (.tup ds) = some (.bl true) := by rfl
theorem isi_tk (ds : List D) : isiD "tuple" (.kt ds) = some (.bl true) := by rfl
theorem isi_ss (x : Str) : isiD "str" (.str x) = some (.bl true) := by rfl
theorem lcB {α : Type} {R : D → α → Prop} {g : MG} {m : ME} {ρ : Lo} {ds : List D} {xs : List α} (b : α → Bool) (hp : Paired R ds xs) (h : ∀ d a, R d a → a ∈ xs → ∃ ρ1, g d ρ = some ρ1 ∧ m ρ1 none = some (.bl (b a), none)) : lcGo ρ g (mPure true) m ds none = some (xs.map (fun a => D.bl (b a)), none) :=
  lc_rel (fun a => D.bl (b a)) hp fun d a r ha => let ⟨ρ1, e1, e2⟩ := h d a r ha; ⟨ρ1, e1, rfl, e2⟩
theorem runR_rt {k n : Nat} {m : MS} {ds : List D} {r r' : Rng} {d : D} {ρ' : Lo} (hl : ds.length = k) (h : m (startL n ds) (some r) = some (.rt d, ρ', some r')) (h1 : r'.at_ = r.at_) (h2 : r'.gA = r.gA) : runR k n m ds r = some (d, r') := by
  unfold runR
  rw [if_pos hl, h]
  simp only [Option.bind_some, outF]
  rw [if_pos ⟨h1, h2⟩]
theorem callR_of {f : List D → Rng → Option (D × Rng)} {m : MA} {ρ : Lo} {S : Sg} {ds : List D} {r r' : Rng} {d : D} (h : m ρ S = some (ds, some r)) (hf : f ds r = some (d, r')) (h1 : r'.at_ = r.at_) (h2 : r'.gA = r.gA) : mCallR f m ρ S = some (d, some r') := by
  unfold mCallR
  rw [h]
  simp only [Option.bind_some]
  rw [hf]
  simp only [Option.bind_some]
  rw [if_pos ⟨h1, h2⟩]
structure Later (r r' : Rng) : Prop where
  a : r'.at_ = r.at_
  g : r'.gA = r.gA
theorem Later.trans {r r' r'' : Rng} (h : Later r r') (h' : Later r' r'') : Later r r'' := ⟨h'.a.trans h.a, h'.g.trans h.g⟩
theorem mTst_of {m : ME} {ρ : Lo} {S S1 : Sg} {b : Bool} (h : m ρ S = some (.bl b, S1)) : mTst m ρ S = some (b, S1) := by
  unfold mTst; rw [h]; rfl
theorem ne_nil : neD (.lst []) (.lst []) = some (.bl false) := by
  have h : SeqAt.shaped (.list []) = true := by decide +kernel
  show (if (SeqAt.shaped (.list []) && SeqAt.shaped (.list [])) = true then some (D.bl (!PyData.eqv (.list []) (.list []))) else none) = _
  rw [h]
  simp [PyData.eqv, PyData.eqvAll]
theorem lst_of {m : MA} {ρ : Lo} {S S' : Sg} {ds : List D} (h : m ρ S = some (ds, S')) (hl : ds.length ≤ 4096) : mLst m ρ S = some (.lst ds, S') := by
  unfold mLst; rw [h]; simp only [Option.bind_some]; rw [if_pos hl]
theorem tup_of {m : MA} {ρ : Lo} {S S' : Sg} {ds : List D} (h : m ρ S = some (ds, S')) (hl : ds.length ≤ 4096) : mTup m ρ S = some (.tup ds, S') := by
  unfold mTup; rw [h]; simp only [Option.bind_some]; rw [if_pos hl]
theorem sIf_of {t : MT} {m k : MS} {ρ : Lo} {S S1 : Sg} {b : Bool} (h : t ρ S = some (b, S1)) : sIf t m k ρ S = if b then m ρ S1 else k ρ S1 := by
  unfold sIf; rw [h]; rfl
theorem sSq_no {m n : MS} {ρ ρ' : Lo} {S S' : Sg} {fl : Fl} (h : m ρ S = some (fl, ρ', S')) (hf : fl ≠ .nx) : sSq m n ρ S = some (fl, ρ', S') := by
  unfold sSq; rw [h]; cases fl <;> first | rfl | exact absurd rfl hf
theorem paired_enum {α : Type} {f : α → D} (xs : List α) : Paired (fun d p => d = D.tup [.int (p.2 : Nat), f p.1] ∧ xs[p.2]? = some p.1) ((xs.map f).mapIdx fun i d => D.tup [.int (i : Nat), d]) xs.zipIdx := by
  refine paired_of (by simp) fun i x y h1 h2 => ?_
  rw [List.getElem?_zipIdx] at h2
  obtain ⟨a, ha, rfl⟩ := Option.map_eq_some_iff.mp h2
  rw [List.getElem?_mapIdx, List.getElem?_map, ha] at h1
  simp only [Option.map_some, Option.some.injEq] at h1
  subst h1
  simp only [Nat.zero_add]
  exact ⟨trivial, ha⟩
theorem zipIdx_fst {α β : Type} (f : α → β) (xs : List α) : xs.zipIdx.map (fun p => f p.1) = xs.map f := by
  have e : xs.zipIdx.map (f ∘ Prod.fst) = (xs.zipIdx.map Prod.fst).map f := by rw [List.map_map]
  refine Eq.trans e ?_
  rw [List.zipIdx_map_fst]
end Dv
namespace BW
/-! a search from one place: who was met by whom (ahead), who still waits -/
abbrev A := List (Nat × Option Nat)
def keys (a : A) : List Nat := a.map (·.1)
section
variable {E : Nat → Nat → Bool} {n : Nat}
def stp (E : Nat → Nat → Bool) (here : Nat) (s : A × List Nat) (p : Nat) : A × List Nat := if !(keys s.1).contains p && E here p then (s.1 ++ [(p, some here)], s.2 ++ [p]) else s
def lap (E : Nat → Nat → Bool) (n here : Nat) (s : A × List Nat) : A × List Nat := (List.range n).foldl (stp E here) s
inductive Reach (E : Nat → Nat → Bool) (n i : Nat) : Nat → Prop
  | refl : Reach E n i i
  | step {j k : Nat} (h : Reach E n i j) (e : E j k = true) (l : k < n) : Reach E n i k
theorem Reach.trans {i j k : Nat} (h : Reach E n i j) (h' : Reach E n j k) : Reach E n i k := by
  induction h' with
  | refl => exact h
  | step _ e l ih => exact .step ih e l
structure Ok (E : Nat → Nat → Bool) (n one : Nat) (a : A) (w : List Nat) : Prop where
  hd : a[0]? = some (one, none)
  nd : (keys a).Nodup
  lt : ∀ k ∈ keys a, k < n
  pw : ∀ (t k : Nat) p, a[t]? = some (k, p) → (t = 0 ∧ p = none) ∨ ∃ u q r, u < t ∧ p = some q ∧ a[u]? = some (q, r) ∧ E q k = true
  wk : ∀ k ∈ w, k ∈ keys a
def Cl (E : Nat → Nat → Bool) (n : Nat) (a : A) (w : List Nat) : Prop := ∀ k ∈ keys a, k ∈ w ∨ ∀ j, j < n → E k j = true → j ∈ keys a
def ClH (E : Nat → Nat → Bool) (n here t : Nat) (a : A) (w : List Nat) : Prop := ∀ k ∈ keys a, k ∈ w ∨ (k = here ∧ ∀ j, j < t → E here j = true → j ∈ keys a) ∨ ∀ j, j < n → E k j = true → j ∈ keys a
theorem keys_app (a b : A) : keys (a ++ b) = keys a ++ keys b := List.map_append
theorem ok_start {one : Nat} (h : one < n) : Ok E n one [(one, none)] [one] := by
  refine ⟨rfl, by simp [keys], fun k hk => ?_, fun t k p e => ?_, fun k hk => hk⟩
  · simp [keys] at hk; omega
  · cases t with
    | zero => simp at e; exact .inl ⟨rfl, e.2.symm⟩
    | succ t => simp at e
theorem cl_start {one : Nat} : Cl E n [(one, none)] [one] := fun k hk => .inl hk
theorem stp_ok {one here p : Nat} {a : A} {w : List Nat} (h : Ok E n one a w) (hh : here ∈ keys a) (hp : p < n) : Ok E n one (stp E here (a, w) p).1 (stp E here (a, w) p).2 ∧ here ∈ keys (stp E here (a, w) p).1 := by
  unfold stp
  split
  · rename_i hc
    simp only [Bool.and_eq_true, Bool.not_eq_true', ← Bool.not_eq_true, List.contains_iff_mem] at hc
    obtain ⟨hc1, hc2⟩ := hc
    refine ⟨⟨?_, ?_, fun k hk => ?_, fun t k q e => ?_, fun k hk => ?_⟩, ?_⟩
    · rw [List.getElem?_append_left]
      · exact h.hd
      · have := (List.getElem?_eq_some_iff.mp h.hd).1; omega
    · show (keys (a ++ [(p, some here)])).Nodup
      rw [keys_app]
      refine List.nodup_append.mpr ⟨h.nd, by simp [keys], fun x hx y hy => ?_⟩
      simp [keys] at hy
      subst hy
      exact fun z => hc1 (z ▸ hx)
    · have hk : k ∈ keys (a ++ [(p, some here)]) := hk
      rw [keys_app] at hk
      rcases List.mem_append.mp hk with z | z
      · exact h.lt k z
      · simp [keys] at z; omega
    · have e : (a ++ [(p, some here)])[t]? = some (k, q) := e
      by_cases ht : t < a.length
      · rw [List.getElem?_append_left ht] at e
        rcases h.pw t k q e with z | ⟨u, x, r, hu, z1, z2, z3⟩
        · exact .inl z
        · exact .inr ⟨u, x, r, hu, z1, by show (a ++ [(p, some here)])[u]? = _; rw [List.getElem?_append_left (by omega)]; exact z2, z3⟩
      · rw [List.getElem?_append_right (by omega)] at e
        have h0 : t - a.length = 0 := by
          have := (List.getElem?_eq_some_iff.mp e).1
          simp at this; omega
        rw [h0] at e
        simp at e
        obtain ⟨e1, e2⟩ := e
        subst e1 e2
        obtain ⟨⟨x, r⟩, hx, hxe⟩ := List.mem_map.mp hh
        obtain ⟨u, hu⟩ := List.mem_iff_getElem?.mp hx
        have hul := (List.getElem?_eq_some_iff.mp hu).1
        have hxe : x = here := hxe
        subst hxe
        exact .inr ⟨u, x, r, by omega, rfl, by show (a ++ [(p, some x)])[u]? = _; rw [List.getElem?_append_left hul]; exact hu, hc2⟩
    · show k ∈ keys (a ++ [(p, some here)])
      have hk : k ∈ w ++ [p] := hk
      rw [keys_app]
      rcases List.mem_append.mp hk with z | z
      · exact List.mem_append_left _ (h.wk k z)
      · simp at z; subst z; exact List.mem_append_right _ (by simp [keys])
    · show here ∈ keys (a ++ [(p, some here)])
      rw [keys_app]; exact List.mem_append_left _ hh
  · exact ⟨h, hh⟩
theorem stp_cl {here t : Nat} {a : A} {w : List Nat} (h : ClH E n here t a w) : ClH E n here (t + 1) (stp E here (a, w) t).1 (stp E here (a, w) t).2 := by
  unfold stp
  split
  · rename_i hc
    intro k hk
    have hk : k ∈ keys (a ++ [(t, some here)]) := hk
    rw [keys_app] at hk
    have up : ∀ j, j ∈ keys a → j ∈ keys (a ++ [(t, some here)]) := fun j hj => by rw [keys_app]; exact List.mem_append_left _ hj
    rcases List.mem_append.mp hk with z | z
    · rcases h k z with y | ⟨y1, y2⟩ | y
      · exact .inl (List.mem_append_left _ y)
      · refine .inr (.inl ⟨y1, fun j hj e => ?_⟩)
        by_cases hjt : j = t
        · subst hjt
          show j ∈ keys (a ++ [(j, some here)])
          rw [keys_app]; exact List.mem_append_right _ (by simp [keys])
        · exact up j (y2 j (by omega) e)
      · exact .inr (.inr fun j hj e => up j (y j hj e))
    · simp [keys] at z
      subst z
      exact .inl (List.mem_append_right _ (by simp))
  · rename_i hc
    intro k hk
    rcases h k hk with y | ⟨y1, y2⟩ | y
    · exact .inl y
    · refine .inr (.inl ⟨y1, fun j hj e => ?_⟩)
      by_cases hjt : j = t
      · subst hjt
        simp only [Bool.and_eq_true, Bool.not_eq_true', ← Bool.not_eq_true, List.contains_iff_mem] at hc
        exact Classical.byContradiction fun z => hc ⟨z, e⟩
      · exact y2 j (by omega) e
    · exact .inr (.inr y)
theorem stp_mu {here p : Nat} {s : A × List Nat} : (stp E here s p).1.length + s.2.length = s.1.length + (stp E here s p).2.length := by
  unfold stp
  split
  · simp; omega
  · rfl
theorem stp_len {here p : Nat} {s : A × List Nat} : s.1.length ≤ (stp E here s p).1.length := by
  unfold stp
  split
  · simp
  · exact Nat.le_refl _
/-- one turn of the search -/
theorem lap_all {one here : Nat} {a : A} {w : List Nat} (h : Ok E n one a w) (hh : here ∈ keys a) (hc : ∀ k ∈ keys a, k ∈ w ∨ k = here ∨ ∀ j, j < n → E k j = true → j ∈ keys a) : Ok E n one (lap E n here (a, w)).1 (lap E n here (a, w)).2 ∧ Cl E n (lap E n here (a, w)).1 (lap E n here (a, w)).2 ∧
    (lap E n here (a, w)).1.length + w.length = a.length + (lap E n here (a, w)).2.length ∧ a.length ≤ (lap E n here (a, w)).1.length := by
  have key : ∀ t, t ≤ n → Ok E n one ((List.range t).foldl (stp E here) (a, w)).1 ((List.range t).foldl (stp E here) (a, w)).2 ∧ here ∈ keys ((List.range t).foldl (stp E here) (a, w)).1 ∧ ClH E n here t ((List.range t).foldl (stp E here) (a, w)).1 ((List.range t).foldl (stp E here) (a, w)).2 ∧
      ((List.range t).foldl (stp E here) (a, w)).1.length + w.length = a.length + ((List.range t).foldl (stp E here) (a, w)).2.length ∧ a.length ≤ ((List.range t).foldl (stp E here) (a, w)).1.length := by
    intro t
    induction t with
    | zero =>
      intro _
      refine ⟨h, hh, fun k hk => ?_, rfl, Nat.le_refl _⟩
      rcases hc k hk with y | y | y
      · exact .inl y
      · exact .inr (.inl ⟨y, fun j hj => by omega⟩)
      · exact .inr (.inr y)
    | succ t ih =>
      intro ht
      obtain ⟨i1, i2, i3, i4, i5⟩ := ih (by omega)
      (rw [List.range_succ, List.foldl_append]); generalize (List.range t).foldl (stp E here) (a, w) = s at i1 i2 i3 i4 i5
      obtain ⟨b, v⟩ := s
      obtain ⟨j1, j2⟩ := stp_ok (p := t) i1 i2 (by omega)
      have j3 := stp_cl i3
      have j4 := stp_mu (E := E) (here := here) (p := t) (s := (b, v))
      have j5 := stp_len (E := E) (here := here) (p := t) (s := (b, v))
      dsimp only at i4 i5 j4 j5
      refine ⟨j1, j2, j3, ?_, ?_⟩
      · show (stp E here (b, v) t).1.length + w.length = a.length + (stp E here (b, v) t).2.length
        omega
      · show a.length ≤ (stp E here (b, v) t).1.length
        omega
  obtain ⟨k1, k2, k3, k4, k5⟩ := key n (Nat.le_refl _)
  refine ⟨k1, fun k hk => ?_, k4, k5⟩
  rcases k3 k hk with y | ⟨rfl, y⟩ | y
  · exact .inl y
  · exact .inr y
  · exact .inr y
theorem nodup_len : ∀ (n : Nat) {l : List Nat}, l.Nodup → (∀ x ∈ l, x < n) → l.length ≤ n
  | 0, l, _, h => by
    cases l with
    | nil => exact Nat.le_refl _
    | cons x l => exact absurd (h x List.mem_cons_self) (Nat.not_lt_zero _)
  | n + 1, l, hn, h => by
    have h1 := nodup_len n (l := l.erase n) (hn.erase n) fun x hx => by
      have h2 := h x (List.mem_of_mem_erase hx)
      have h3 : x ≠ n := fun z => by rw [z] at hx; exact (List.Nodup.not_mem_erase hn) hx
      omega
    have h4 : l.length ≤ (l.erase n).length + 1 := by
      rw [List.length_erase]
      split <;> omega
    omega
theorem ok_len {one : Nat} {a : A} {w : List Nat} (h : Ok E n one a w) : a.length ≤ n := by
  have h1 := nodup_len n h.nd h.lt
  simpa [keys] using h1
/-- all that was met was reached, and all that is reached was met -/
theorem met_reach {one : Nat} {a : A} {w : List Nat} (h : Ok E n one a w) : ∀ (t k : Nat) p, a[t]? = some (k, p) → Reach E n one k := by
  intro t
  induction t using Nat.strongRecOn with
  | ind t ih =>
    intro k p e
    rcases h.pw t k p e with ⟨z, rfl⟩ | ⟨u, q, r, hu, _, z2, z3⟩
    · subst z
      rw [h.hd] at e
      cases e; exact .refl
    · exact .step (ih u hu q r z2) z3 (h.lt k (List.mem_map.mpr ⟨(k, p), List.mem_of_getElem? e, rfl⟩))
theorem mem_iff_reach {one : Nat} {a : A} (h : Ok E n one a []) (hc : Cl E n a []) (k : Nat) : k ∈ keys a ↔ Reach E n one k := by
  refine ⟨fun hk => ?_, fun hr => ?_⟩
  · obtain ⟨⟨x, p⟩, hx, rfl⟩ := List.mem_map.mp hk
    obtain ⟨t, ht⟩ := List.mem_iff_getElem?.mp hx
    exact met_reach h t x p ht
  · induction hr with
    | refl => exact List.mem_map.mpr ⟨(one, none), List.mem_of_getElem? h.hd, rfl⟩
    | step _ e l ih =>
      rcases hc _ ih with z | z
      · cases z
      · exact z _ l e
end
end BW
namespace K35
open PySem PyProof.Rows L2 Dv

/-! ### ratios as data -/
def mk (q : Rat) : D := .tup [.int q.num, .int q.den]
def IsR (d : D) (q : Rat) : Prop := d = mk q ∨ d = .kt [.int q.num, .int q.den]
theorem isR_mk (q : Rat) : IsR (mk q) q := .inl rfl
theorem isR_zero : IsR (.kt [.int 0, .int 1]) 0 := .inr rfl
theorem isR_zero' : IsR (.tup [.int 0, .int 1]) 0 := .inl rfl
theorem IsR.items {d : D} {q : Rat} (h : IsR d q) : itemsD d = some [.int q.num, .int q.den] := by rcases h with rfl | rfl <;> rfl
theorem IsR.at0 {d : D} {q : Rat} (h : IsR d q) : ixD d (.int 0) = some (.int q.num) := by rcases h with rfl | rfl <;> rfl
theorem IsR.at1 {d : D} {q : Rat} (h : IsR d q) : ixD d (.int 1) = some (.int q.den) := by rcases h with rfl | rfl <;> rfl

/-! ### sizes -/
theorem log2_mul (a b : Nat) : (a * b).log2 ≤ a.log2 + b.log2 + 1 := by
  by_cases ha : a = 0
  · subst ha; simp
  by_cases hb : b = 0
  · subst hb; simp
  have h0 : a * b ≠ 0 := Nat.mul_ne_zero ha hb
  have h1 : a < 2 ^ (a.log2 + 1) := Nat.lt_log2_self
  have h2 : b < 2 ^ (b.log2 + 1) := Nat.lt_log2_self
  have h3 : a * b < 2 ^ ((a.log2 + 1) + (b.log2 + 1)) := by
    rw [Nat.pow_add]
    exact Nat.mul_lt_mul'' h1 h2
  have := (Nat.log2_lt h0).mpr h3
  omega
theorem log2_mono {a b : Nat} (h : a ≤ b) : a.log2 ≤ b.log2 := by
  by_cases ha : a = 0
  · subst ha; simp
  · have hb : b ≠ 0 := by omega
    have h2 : a < 2 ^ (b.log2 + 1) := Nat.lt_of_le_of_lt h Nat.lt_log2_self
    have := (Nat.log2_lt ha).mpr h2
    omega
structure Sm (q : Rat) : Prop where
  den : q.den.log2 < 4000
  num : q.num.natAbs.log2 < 100000
theorem Sm.nd {a b : Rat} (h : Sm a) (h' : Sm b) : a.num.natAbs.log2 + (b.den : Int).natAbs.log2 < 1000000 := by
  have := h.num; have := h'.den
  simp only [Int.natAbs_natCast]; omega
theorem Sm.nn {a b : Rat} (h : Sm a) (h' : Sm b) : a.num.natAbs.log2 + b.num.natAbs.log2 < 1000000 := by
  have := h.num; have := h'.num
  omega
theorem Sm.dd {a b : Rat} (h : Sm a) (h' : Sm b) : (a.den : Int).natAbs.log2 + (b.den : Int).natAbs.log2 < 1000000 := by
  have := h.den; have := h'.den
  simp only [Int.natAbs_natCast]; omega
theorem Sm.dd9 {a b : Rat} (h : Sm a) (h' : Sm b) : (a.den * b.den).log2 < 9000 := by
  have := log2_mul a.den b.den
  have := h.den; have := h'.den
  omega

/-! ### lowest, plus, minus, times, is_less -/
theorem lowest_nat {n : Int} {k : Nat} (hk : k ≠ 0) (hs : k.log2 < 9000) : f_lowest [.int n, .int (k : Int)] = some (mk (mkRat n k)) := by
  have hg0 : 0 < Nat.gcd n.natAbs k := Nat.gcd_pos_of_pos_right _ (by omega)
  have hg : (0 : Int) < (Nat.gcd n.natAbs k : Nat) := by omega
  have hle : Nat.gcd n.natAbs k ≤ k := Nat.gcd_le_right _ (by omega)
  have hl : ((Nat.gcd n.natAbs k : Nat) : Int).natAbs.log2 < 9000 := by
    rw [Int.natAbs_natCast]; exact Nat.lt_of_le_of_lt (log2_mono hle) hs
  have hd : (0 : Int) < (k : Int) := by omega
  have e1 : (mkRat n k).num = n / ((Nat.gcd n.natAbs k : Nat) : Int) := by
    rw [Rat.num_mkRat, if_neg hk, Nat.gcd_comm]
  have e2 : ((mkRat n k).den : Int) = (k : Int) / ((Nat.gcd n.natAbs k : Nat) : Int) := by
    rw [Rat.den_mkRat, if_neg hk, Nat.gcd_comm]; rfl
  simp only [runP, startL, outF, mVar, mVarB, mPure, mOp1, mOp2, mCons, mCall, mTup, mLst, mTst, asB, mNot, mAnd, mOr, mAndV, mOrV, mIte, mSeq, sSq, sIf, sRet, sSet, sSetF, sNil, sFrz, frz, sExpr, sPar2, sPar3, sAsg, mkL, gNm, gTp, gCns, gNl, D.asT, itemsD, addD_int, subD_int, ltD_int, leD_int, gtD_int, geD_int, negD_int, gcdD_int, absD_int, Option.bind_some, Option.map_some, Option.bind_none, Option.map_none, List.map_cons, List.map_nil, List.length_cons, List.length_nil, List.cons_append, List.nil_append, List.getElem?_cons_zero, List.getElem?_cons_succ, List.set_cons_zero, List.set_cons_succ, List.replicate_succ, List.replicate_zero, Nat.reduceAdd, Nat.reduceSub, Nat.reduceLeDiff, if_true, if_false, ite_true, ite_false, Bool.false_eq_true, f_lowest, m_lowest, hd, decide_true, fdivD_int hg hl, Int.natAbs_natCast, mk, e1, e2]
theorem plus_ev {x y : D} {a b : Rat} (hx : IsR x a) (hy : IsR y b) (sa : Sm a) (sb : Sm b) : f_plus [x, y] = some (mk (a + b)) := by
  have e : f_lowest [.int (a.num * b.den + b.num * a.den), .int ((a.den * b.den : Nat) : Int)] = some (mk (a + b)) := by
    rw [lowest_nat (Nat.mul_ne_zero a.den_nz b.den_nz) (sa.dd9 sb), Rat.add_def']
  rw [Int.natCast_mul] at e
  simp only [runP, startL, outF, mVar, mVarB, mPure, mOp1, mOp2, mCons, mCall, mTup, mLst, mTst, asB, mNot, mAnd, mOr, mAndV, mOrV, mIte, mSeq, sSq, sIf, sRet, sSet, sSetF, sNil, sFrz, frz, sExpr, sPar2, sPar3, sAsg, mkL, gNm, gTp, gCns, gNl, D.asT, itemsD, addD_int, subD_int, ltD_int, leD_int, gtD_int, geD_int, negD_int, gcdD_int, absD_int, Option.bind_some, Option.map_some, Option.bind_none, Option.map_none, List.map_cons, List.map_nil, List.length_cons, List.length_nil, List.cons_append, List.nil_append, List.getElem?_cons_zero, List.getElem?_cons_succ, List.set_cons_zero, List.set_cons_succ, List.replicate_succ, List.replicate_zero, Nat.reduceAdd, Nat.reduceSub, Nat.reduceLeDiff, if_true, if_false, ite_true, ite_false, Bool.false_eq_true, f_plus, m_plus, hx.at0, hx.at1, hy.at0, hy.at1, mulI_int (sa.nd sb), mulI_int (sb.nd sa), mulI_int (sa.dd sb), e]
theorem times_ev {x y : D} {a b : Rat} (hx : IsR x a) (hy : IsR y b) (sa : Sm a) (sb : Sm b) : f_times [x, y] = some (mk (a * b)) := by
  have e : f_lowest [.int (a.num * b.num), .int ((a.den * b.den : Nat) : Int)] = some (mk (a * b)) := by
    rw [lowest_nat (Nat.mul_ne_zero a.den_nz b.den_nz) (sa.dd9 sb), Rat.mul_def']
  rw [Int.natCast_mul] at e
  simp only [runP, startL, outF, mVar, mVarB, mPure, mOp1, mOp2, mCons, mCall, mTup, mLst, mTst, asB, mNot, mAnd, mOr, mAndV, mOrV, mIte, mSeq, sSq, sIf, sRet, sSet, sSetF, sNil, sFrz, frz, sExpr, sPar2, sPar3, sAsg, mkL, gNm, gTp, gCns, gNl, D.asT, itemsD, addD_int, subD_int, ltD_int, leD_int, gtD_int, geD_int, negD_int, gcdD_int, absD_int, Option.bind_some, Option.map_some, Option.bind_none, Option.map_none, List.map_cons, List.map_nil, List.length_cons, List.length_nil, List.cons_append, List.nil_append, List.getElem?_cons_zero, List.getElem?_cons_succ, List.set_cons_zero, List.set_cons_succ, List.replicate_succ, List.replicate_zero, Nat.reduceAdd, Nat.reduceSub, Nat.reduceLeDiff, if_true, if_false, ite_true, ite_false, Bool.false_eq_true, f_times, m_times, hx.at0, hx.at1, hy.at0, hy.at1, mulI_int (sa.nn sb), mulI_int (sa.dd sb), e]
theorem less_ev {x y : D} {a b : Rat} (hx : IsR x a) (hy : IsR y b) (sa : Sm a) (sb : Sm b) : f_is_less [x, y] = some (.bl (decide (a < b))) := by
  have e : (a < b) = (a.num * b.den < b.num * a.den) := propext (Rat.lt_iff a b)
  simp only [e]
  simp only [runP, startL, outF, mVar, mVarB, mPure, mOp1, mOp2, mCons, mCall, mTup, mLst, mTst, asB, mNot, mAnd, mOr, mAndV, mOrV, mIte, mSeq, sSq, sIf, sRet, sSet, sSetF, sNil, sFrz, frz, sExpr, sPar2, sPar3, sAsg, mkL, gNm, gTp, gCns, gNl, D.asT, itemsD, addD_int, subD_int, ltD_int, leD_int, gtD_int, geD_int, negD_int, gcdD_int, absD_int, Option.bind_some, Option.map_some, Option.bind_none, Option.map_none, List.map_cons, List.map_nil, List.length_cons, List.length_nil, List.cons_append, List.nil_append, List.getElem?_cons_zero, List.getElem?_cons_succ, List.set_cons_zero, List.set_cons_succ, List.replicate_succ, List.replicate_zero, Nat.reduceAdd, Nat.reduceSub, Nat.reduceLeDiff, if_true, if_false, ite_true, ite_false, Bool.false_eq_true, f_is_less, m_is_less, hx.at0, hx.at1, hy.at0, hy.at1, mulI_int (sa.nd sb), mulI_int (sb.nd sa)]

/-! ### the law's own -/
theorem iabs_nat (n : Int) : iabs n = (n.natAbs : Int) := by unfold iabs; split <;> omega
theorem law_gcd {t : MT} {m : MS} (ht : t = mTst (mOp2 gtD (mVarB 3) (mPure (.int 0)))) (hm : m = sPar2 2 3 false (mVar 3) false (mOp2 modD (mCall intD (mCons (mVarB 2) (mPure []))) (mVarB 3))) {n d : D} :
    ∀ (b a : Nat), ∃ k, whN t m k [some (.imm n), some (.imm d), some (.imm (.int (a : Int))), some (.imm (.int (b : Int)))] none = some (.nx, [some (.imm n), some (.imm d), some (.imm (.int (Nat.gcd a b : Nat))), some (.imm (.int 0))], none) := by
  intro b
  induction b using Nat.strongRecOn with
  | ind b ih =>
    intro a
    by_cases hb : b = 0
    · subst hb
      refine ⟨1, ?_⟩
      unfold whN
      subst ht
      simp only [runP, startL, outF, mVar, mVarB, mPure, mOp1, mOp2, mCons, mCall, mTup, mLst, mTst, asB, mNot, mAnd, mOr, mAndV, mOrV, mIte, mSeq, sSq, sIf, sRet, sSet, sSetF, sNil, sFrz, frz, sExpr, sPar2, sPar3, sAsg, mkL, gNm, gTp, gCns, gNl, D.asT, itemsD, addD_int, subD_int, ltD_int, leD_int, gtD_int, geD_int, negD_int, gcdD_int, absD_int, Option.bind_some, Option.map_some, Option.bind_none, Option.map_none, List.map_cons, List.map_nil, List.length_cons, List.length_nil, List.cons_append, List.nil_append, List.getElem?_cons_zero, List.getElem?_cons_succ, List.set_cons_zero, List.set_cons_succ, List.replicate_succ, List.replicate_zero, Nat.reduceAdd, Nat.reduceSub, Nat.reduceLeDiff, if_true, if_false, ite_true, ite_false, Bool.false_eq_true, Int.natCast_zero, Int.lt_irrefl, decide_false, Nat.gcd_zero_right]
    · obtain ⟨k, hk⟩ := ih (a % b) (Nat.mod_lt _ (by omega)) b
      have h0 : (0 : Int) < (b : Int) := by omega
      refine ⟨k + 1, ?_⟩
      unfold whN
      have e : t [some (.imm n), some (.imm d), some (.imm (.int (a : Int))), some (.imm (.int (b : Int)))] none = some (true, none) := by
        subst ht; simp only [runP, startL, outF, mVar, mVarB, mPure, mOp1, mOp2, mCons, mCall, mTup, mLst, mTst, asB, mNot, mAnd, mOr, mAndV, mOrV, mIte, mSeq, sSq, sIf, sRet, sSet, sSetF, sNil, sFrz, frz, sExpr, sPar2, sPar3, sAsg, mkL, gNm, gTp, gCns, gNl, D.asT, itemsD, addD_int, subD_int, ltD_int, leD_int, gtD_int, geD_int, negD_int, gcdD_int, absD_int, Option.bind_some, Option.map_some, Option.bind_none, Option.map_none, List.map_cons, List.map_nil, List.length_cons, List.length_nil, List.cons_append, List.nil_append, List.getElem?_cons_zero, List.getElem?_cons_succ, List.set_cons_zero, List.set_cons_succ, List.replicate_succ, List.replicate_zero, Nat.reduceAdd, Nat.reduceSub, Nat.reduceLeDiff, if_true, if_false, ite_true, ite_false, Bool.false_eq_true, h0, decide_true]
      have e2 : m [some (.imm n), some (.imm d), some (.imm (.int (a : Int))), some (.imm (.int (b : Int)))] none = some (.nx, [some (.imm n), some (.imm d), some (.imm (.int (b : Int))), some (.imm (.int ((a % b : Nat) : Int)))], none) := by
        subst hm; simp only [runP, startL, outF, mVar, mVarB, mPure, mOp1, mOp2, mCons, mCall, mTup, mLst, mTst, asB, mNot, mAnd, mOr, mAndV, mOrV, mIte, mSeq, sSq, sIf, sRet, sSet, sSetF, sNil, sFrz, frz, sExpr, sPar2, sPar3, sAsg, mkL, gNm, gTp, gCns, gNl, D.asT, itemsD, addD_int, subD_int, ltD_int, leD_int, gtD_int, geD_int, negD_int, gcdD_int, absD_int, Option.bind_some, Option.map_some, Option.bind_none, Option.map_none, List.map_cons, List.map_nil, List.length_cons, List.length_nil, List.cons_append, List.nil_append, List.getElem?_cons_zero, List.getElem?_cons_succ, List.set_cons_zero, List.set_cons_succ, List.replicate_succ, List.replicate_zero, Nat.reduceAdd, Nat.reduceSub, Nat.reduceLeDiff, if_true, if_false, ite_true, ite_false, Bool.false_eq_true, Dv.intD, modD_int h0, Int.natCast_emod]
      rw [e]
      simp only [Option.bind_some, if_true]
      rw [e2]
      simp only [Option.bind_some]
      rw [hk, Nat.gcd_comm b, ← Nat.gcd_rec, Nat.gcd_comm b]
theorem q_nat {n : Int} {k : Nat} (hk : k ≠ 0) (hs : k.log2 < 9000) : f_law_q [.int n, .int (k : Int)] = some (mk (mkRat n k)) := by
  have hg0 : 0 < Nat.gcd n.natAbs k := Nat.gcd_pos_of_pos_right _ (by omega)
  have hg : (0 : Int) < (Nat.gcd n.natAbs k : Nat) := by omega
  have hle : Nat.gcd n.natAbs k ≤ k := Nat.gcd_le_right _ (by omega)
  have hl : ((Nat.gcd n.natAbs k : Nat) : Int).natAbs.log2 < 9000 := by
    rw [Int.natAbs_natCast]; exact Nat.lt_of_le_of_lt (log2_mono hle) hs
  have hd : (0 : Int) < (k : Int) := by omega
  have e1 : (mkRat n k).num = n / ((Nat.gcd n.natAbs k : Nat) : Int) := by
    rw [Rat.num_mkRat, if_neg hk, Nat.gcd_comm]
  have e2 : ((mkRat n k).den : Int) = (k : Int) / ((Nat.gcd n.natAbs k : Nat) : Int) := by
    rw [Rat.den_mkRat, if_neg hk, Nat.gcd_comm]; rfl
  obtain ⟨j, hj⟩ := law_gcd rfl rfl (n := .int n) (d := .int k) k n.natAbs
  have hw := sWh_of hj
  simp only [runP, startL, outF, mVar, mVarB, mPure, mOp1, mOp2, mCons, mCall, mTup, mLst, mTst, asB, mNot, mAnd, mOr, mAndV, mOrV, mIte, mSeq, sSq, sIf, sRet, sSet, sSetF, sNil, sFrz, frz, sExpr, sPar2, sPar3, sAsg, mkL, gNm, gTp, gCns, gNl, D.asT, itemsD, addD_int, subD_int, ltD_int, leD_int, gtD_int, geD_int, negD_int, gcdD_int, absD_int, Option.bind_some, Option.map_some, Option.bind_none, Option.map_none, List.map_cons, List.map_nil, List.length_cons, List.length_nil, List.cons_append, List.nil_append, List.getElem?_cons_zero, List.getElem?_cons_succ, List.set_cons_zero, List.set_cons_succ, List.replicate_succ, List.replicate_zero, Nat.reduceAdd, Nat.reduceSub, Nat.reduceLeDiff, if_true, if_false, ite_true, ite_false, Bool.false_eq_true, f_law_q, m_law_q, iabs_nat, Int.natAbs_natCast, hw, hd, decide_true, fdivD_int hg hl, mk, e1, e2]
theorem law_plus_ev {x y : D} {a b : Rat} (hx : IsR x a) (hy : IsR y b) (sa : Sm a) (sb : Sm b) : f_law_plus [x, y] = some (mk (a + b)) := by
  have e : f_law_q [.int (a.num * b.den + b.num * a.den), .int ((a.den * b.den : Nat) : Int)] = some (mk (a + b)) := by
    rw [q_nat (Nat.mul_ne_zero a.den_nz b.den_nz) (sa.dd9 sb), Rat.add_def']
  rw [Int.natCast_mul] at e
  simp only [runP, startL, outF, mVar, mVarB, mPure, mOp1, mOp2, mCons, mCall, mTup, mLst, mTst, asB, mNot, mAnd, mOr, mAndV, mOrV, mIte, mSeq, sSq, sIf, sRet, sSet, sSetF, sNil, sFrz, frz, sExpr, sPar2, sPar3, sAsg, mkL, gNm, gTp, gCns, gNl, D.asT, itemsD, addD_int, subD_int, ltD_int, leD_int, gtD_int, geD_int, negD_int, gcdD_int, absD_int, Option.bind_some, Option.map_some, Option.bind_none, Option.map_none, List.map_cons, List.map_nil, List.length_cons, List.length_nil, List.cons_append, List.nil_append, List.getElem?_cons_zero, List.getElem?_cons_succ, List.set_cons_zero, List.set_cons_succ, List.replicate_succ, List.replicate_zero, Nat.reduceAdd, Nat.reduceSub, Nat.reduceLeDiff, if_true, if_false, ite_true, ite_false, Bool.false_eq_true, f_law_plus, m_law_plus, hx.at0, hx.at1, hy.at0, hy.at1, mulI_int (sa.nd sb), mulI_int (sb.nd sa), mulI_int (sa.dd sb), e]
theorem law_times_ev {x y : D} {a b : Rat} (hx : IsR x a) (hy : IsR y b) (sa : Sm a) (sb : Sm b) : f_law_times [x, y] = some (mk (a * b)) := by
  have e : f_law_q [.int (a.num * b.num), .int ((a.den * b.den : Nat) : Int)] = some (mk (a * b)) := by
    rw [q_nat (Nat.mul_ne_zero a.den_nz b.den_nz) (sa.dd9 sb), Rat.mul_def']
  rw [Int.natCast_mul] at e
  simp only [runP, startL, outF, mVar, mVarB, mPure, mOp1, mOp2, mCons, mCall, mTup, mLst, mTst, asB, mNot, mAnd, mOr, mAndV, mOrV, mIte, mSeq, sSq, sIf, sRet, sSet, sSetF, sNil, sFrz, frz, sExpr, sPar2, sPar3, sAsg, mkL, gNm, gTp, gCns, gNl, D.asT, itemsD, addD_int, subD_int, ltD_int, leD_int, gtD_int, geD_int, negD_int, gcdD_int, absD_int, Option.bind_some, Option.map_some, Option.bind_none, Option.map_none, List.map_cons, List.map_nil, List.length_cons, List.length_nil, List.cons_append, List.nil_append, List.getElem?_cons_zero, List.getElem?_cons_succ, List.set_cons_zero, List.set_cons_succ, List.replicate_succ, List.replicate_zero, Nat.reduceAdd, Nat.reduceSub, Nat.reduceLeDiff, if_true, if_false, ite_true, ite_false, Bool.false_eq_true, f_law_times, m_law_times, hx.at0, hx.at1, hy.at0, hy.at1, mulI_int (sa.nn sb), mulI_int (sa.dd sb), e]
theorem law_less_ev {x y : D} {a b : Rat} (hx : IsR x a) (hy : IsR y b) (sa : Sm a) (sb : Sm b) : f_law_less [x, y] = some (.bl (decide (a < b))) := by
  have e : (a < b) = (a.num * b.den < b.num * a.den) := propext (Rat.lt_iff a b)
  simp only [e]
  simp only [runP, startL, outF, mVar, mVarB, mPure, mOp1, mOp2, mCons, mCall, mTup, mLst, mTst, asB, mNot, mAnd, mOr, mAndV, mOrV, mIte, mSeq, sSq, sIf, sRet, sSet, sSetF, sNil, sFrz, frz, sExpr, sPar2, sPar3, sAsg, mkL, gNm, gTp, gCns, gNl, D.asT, itemsD, addD_int, subD_int, ltD_int, leD_int, gtD_int, geD_int, negD_int, gcdD_int, absD_int, Option.bind_some, Option.map_some, Option.bind_none, Option.map_none, List.map_cons, List.map_nil, List.length_cons, List.length_nil, List.cons_append, List.nil_append, List.getElem?_cons_zero, List.getElem?_cons_succ, List.set_cons_zero, List.set_cons_succ, List.replicate_succ, List.replicate_zero, Nat.reduceAdd, Nat.reduceSub, Nat.reduceLeDiff, if_true, if_false, ite_true, ite_false, Bool.false_eq_true, f_law_less, m_law_less, hx.at0, hx.at1, hy.at0, hy.at1, mulI_int (sa.nd sb), mulI_int (sb.nd sa)]
end K35
namespace K35
open PySem PyProof.Rows L2 Dv

/-! ### numbers over a common denominator -/
/-- q is z / D, z no greater than N -/
def InD (D N : Nat) (q : Rat) : Prop := ∃ z : Int, z.natAbs ≤ N ∧ q = mkRat z D
theorem InD.mono {D N M : Nat} {q : Rat} (h : InD D N q) (l : N ≤ M) : InD D M q := let ⟨z, a, b⟩ := h; ⟨z, Nat.le_trans a l, b⟩
theorem inD_zero {D : Nat} : InD D 0 0 := ⟨0, by simp, by simp⟩
theorem mkRat_add_same {a b : Int} {D : Nat} (h : D ≠ 0) : mkRat a D + mkRat b D = mkRat (a + b) D := by
  rw [Rat.mkRat_add_mkRat _ _ h h, ← Int.add_mul, Rat.mkRat_mul_right h]
theorem InD.add {D N M : Nat} {q r : Rat} (hD : D ≠ 0) (h : InD D N q) (h' : InD D M r) : InD D (N + M) (q + r) := by
  obtain ⟨a, ha, rfl⟩ := h
  obtain ⟨b, hb, rfl⟩ := h'
  exact ⟨a + b, by omega, mkRat_add_same hD⟩
theorem InD.neg {D N : Nat} {q : Rat} (h : InD D N q) : InD D N (-q) := by
  obtain ⟨a, ha, rfl⟩ := h
  exact ⟨-a, by omega, by rw [Rat.neg_mkRat]⟩
theorem InD.sub {D N M : Nat} {q r : Rat} (hD : D ≠ 0) (h : InD D N q) (h' : InD D M r) : InD D (N + M) (q - r) := by
  rw [Rat.sub_eq_add_neg]; exact h.add hD h'.neg
theorem InD.mul {D E N M : Nat} {q r : Rat} (h : InD D N q) (h' : InD E M r) : InD (D * E) (N * M) (q * r) := by
  obtain ⟨a, ha, rfl⟩ := h
  obtain ⟨b, hb, rfl⟩ := h'
  refine ⟨a * b, ?_, by rw [Rat.mkRat_mul_mkRat]⟩
  rw [Int.natAbs_mul]
  exact Nat.mul_le_mul ha hb
theorem inD_self (q : Rat) : InD q.den q.num.natAbs q := ⟨q.num, Nat.le_refl _, (Rat.mkRat_self q).symm⟩
theorem InD.up {D N k : Nat} {q : Rat} (hk : k ≠ 0) (h : InD D N q) : InD (D * k) (N * k) q := by
  obtain ⟨a, ha, rfl⟩ := h
  refine ⟨a * k, ?_, (Rat.mkRat_mul_right hk).symm⟩
  rw [Int.natAbs_mul, Int.natAbs_natCast]
  exact Nat.mul_le_mul ha (Nat.le_refl _)
theorem InD.sm {D N : Nat} {q : Rat} (hD : D ≠ 0) (h : InD D N q) (d4 : D.log2 < 4000) (n5 : N.log2 < 100000) : Sm q := by
  obtain ⟨a, ha, rfl⟩ := h
  have g0 : 0 < D.gcd a.natAbs := Nat.gcd_pos_of_pos_left _ (by omega)
  refine ⟨?_, ?_⟩
  · rw [Rat.den_mkRat, if_neg hD]
    exact Nat.lt_of_le_of_lt (log2_mono (Nat.div_le_self _ _)) d4
  · rw [Rat.num_mkRat, if_neg hD]
    refine Nat.lt_of_le_of_lt (log2_mono ?_) n5
    refine Nat.le_trans ?_ ha
    rw [Int.natAbs_ediv_of_dvd (Int.ofNat_dvd_left.mpr (Nat.gcd_dvd_right _ _)), Int.natAbs_natCast]
    exact Nat.div_le_self _ _
/-- the sum of a list -/
def rsum (l : List Rat) : Rat := l.foldl (· + ·) 0
theorem foldl_add (a : Rat) : ∀ l : List Rat, l.foldl (· + ·) a = a + rsum l
  | [] => (Rat.add_zero a).symm
  | x :: l => by
    show l.foldl (· + ·) (a + x) = a + l.foldl (· + ·) (0 + x)
    rw [foldl_add (a + x) l, foldl_add (0 + x) l, Rat.zero_add, Rat.add_assoc]
theorem rsum_cons (x : Rat) (l : List Rat) : rsum (x :: l) = x + rsum l := by
  show l.foldl (· + ·) (0 + x) = _
  rw [foldl_add, Rat.zero_add]
theorem inD_sum {D N : Nat} (hD : D ≠ 0) : ∀ {l : List Rat}, (∀ q ∈ l, InD D N q) → InD D (l.length * N) (rsum l)
  | [], _ => inD_zero.mono (Nat.zero_le _)
  | x :: l, h => by
    rw [rsum_cons]
    have h1 := (h x List.mem_cons_self).add hD (inD_sum hD (l := l) fun q hq => h q (List.mem_cons_of_mem _ hq))
    refine h1.mono ?_
    rw [List.length_cons, Nat.succ_mul]; omega

/-- the bounds that hold of a problem -/
structure Bd (D N : Nat) : Prop where
  d0 : D ≠ 0
  d4 : D.log2 < 4000
  n5 : N.log2 < 100000
theorem Bd.sm {D N M : Nat} {q : Rat} (b : Bd D N) (h : InD D M q) (l : M ≤ N) : Sm q := h.sm b.d0 b.d4 (Nat.lt_of_le_of_lt (log2_mono l) b.n5)
abbrev RL (ds : List D) (qs : List Rat) : Prop := Paired IsR ds qs
theorem rl_mk (qs : List Rat) : RL (qs.map mk) qs := paired_mapL isR_mk qs

/-! ### total -/
abbrev PlusF (f : List D → Option D) : Prop := ∀ {x y : D} {a b : Rat}, IsR x a → IsR y b → Sm a → Sm b → f [x, y] = some (mk (a + b))
theorem total_go {f : List D → Option D} (hf : PlusF f) {E N M K : Nat} (bd : Bd E N) (hK : K * M ≤ N) (hM : M ≤ N) {d0 : D} : ∀ {ds : List D} {qs : List Rat}, RL ds qs → (∀ q ∈ qs, InD E M q) → ∀ (k : Nat) (x : D) (a : Rat) (y : Option LV), IsR x a → InD E (k * M) a → k + qs.length ≤ K →
    ∃ d y', forGo (gNm 2) (sSet 1 (mCall f (mCons (mVar 1) (mCons (mVar 2) (mPure []))))) ds [some (.imm d0), some (.imm x), y] none = some (.nx, [some (.imm d0), some (.imm d), y'], none) ∧ IsR d (qs.foldl (· + ·) a) ∧ (x = mk a ∨ qs ≠ [] → d = mk (qs.foldl (· + ·) a))
  | _, _, .nil, _, k, x, a, y, hx, _, _ => ⟨x, y, rfl, hx, fun h => by rcases h with h | h; exact h; exact absurd rfl h⟩
  | d :: ds, q :: qs, .cons r p, hq, k, x, a, y, hx, ha, hk => by
    have h1 : InD E M q := hq q List.mem_cons_self
    have hk' : k ≤ K := by omega
    have e := hf hx r (bd.sm ha (Nat.le_trans (Nat.mul_le_mul_right M hk') hK)) (bd.sm h1 hM)
    obtain ⟨d', y', e2, h2⟩ := total_go hf bd hK hM p (fun q hq' => hq q (List.mem_cons_of_mem _ hq')) (k + 1) (mk (a + q)) (a + q) (some (.imm d)) (isR_mk _) (by rw [Nat.succ_mul]; exact ha.add bd.d0 h1) (by rw [List.length_cons] at hk; omega)
    refine ⟨d', y', ?_, h2.1, fun _ => h2.2 (.inl rfl)⟩
    rw [← e2]
    show Option.bind (gNm 2 d [some (.imm d0), some (.imm x), y]) _ = _
    simp only [runP, startL, outF, mVar, mVarB, mPure, mOp1, mOp2, mCons, mCall, mTup, mLst, mTst, asB, mNot, mAnd, mOr, mAndV, mOrV, mIte, mSeq, sSq, sIf, sRet, sSet, sSetF, sNil, sFrz, frz, sExpr, sPar2, sPar3, sAsg, mkL, gNm, gTp, gCns, gNl, D.asT, itemsD, addD_int, subD_int, ltD_int, leD_int, gtD_int, geD_int, negD_int, gcdD_int, absD_int, Option.bind_some, Option.map_some, Option.bind_none, Option.map_none, List.map_cons, List.map_nil, List.length_cons, List.length_nil, List.cons_append, List.nil_append, List.getElem?_cons_zero, List.getElem?_cons_succ, List.set_cons_zero, List.set_cons_succ, List.replicate_succ, List.replicate_zero, Nat.reduceAdd, Nat.reduceSub, Nat.reduceLeDiff, if_true, if_false, ite_true, ite_false, Bool.false_eq_true, e]
theorem total_ev {E N M : Nat} (bd : Bd E N) {ds : List D} {qs : List Rat} (hr : RL ds qs) (hq : ∀ q ∈ qs, InD E M q) (hl : qs.length * M ≤ N) (hM : M ≤ N) : ∃ d, f_total [.lst ds] = some d ∧ IsR d (rsum qs) ∧ (qs ≠ [] → d = mk (rsum qs)) := by
  obtain ⟨d, y, e, h⟩ := total_go (f := f_plus) plus_ev bd hl hM (d0 := .lst ds) hr hq 0 (.kt [.int 0, .int 1]) 0 none isR_zero (inD_zero.mono (Nat.zero_le _)) (by omega)
  refine ⟨d, ?_, h.1, fun z => h.2 (.inr z)⟩
  simp only [runP, startL, outF, mVar, mVarB, mPure, mOp1, mOp2, mCons, mCall, mTup, mLst, mTst, asB, mNot, mAnd, mOr, mAndV, mOrV, mIte, mSeq, sSq, sIf, sRet, sSet, sSetF, sNil, sFrz, frz, sExpr, sPar2, sPar3, sAsg, mkL, gNm, gTp, gCns, gNl, D.asT, itemsD, addD_int, subD_int, ltD_int, leD_int, gtD_int, geD_int, negD_int, gcdD_int, absD_int, Option.bind_some, Option.map_some, Option.bind_none, Option.map_none, List.map_cons, List.map_nil, List.length_cons, List.length_nil, List.cons_append, List.nil_append, List.getElem?_cons_zero, List.getElem?_cons_succ, List.set_cons_zero, List.set_cons_succ, List.replicate_succ, List.replicate_zero, Nat.reduceAdd, Nat.reduceSub, Nat.reduceLeDiff, if_true, if_false, ite_true, ite_false, Bool.false_eq_true, f_total, m_total, sFor, e]
theorem law_sum_ev {E N M : Nat} (bd : Bd E N) {ds : List D} {qs : List Rat} (hr : RL ds qs) (hq : ∀ q ∈ qs, InD E M q) (hl : qs.length * M ≤ N) (hM : M ≤ N) : ∃ d, f_law_sum [.lst ds] = some d ∧ IsR d (rsum qs) ∧ (qs ≠ [] → d = mk (rsum qs)) := by
  obtain ⟨d, y, e, h⟩ := total_go (f := f_law_plus) law_plus_ev bd hl hM (d0 := .lst ds) hr hq 0 (.tup [.int 0, .int 1]) 0 none isR_zero' (inD_zero.mono (Nat.zero_le _)) (by omega)
  refine ⟨d, ?_, h.1, fun z => h.2 (.inr z)⟩
  simp only [runP, startL, outF, mVar, mVarB, mPure, mOp1, mOp2, mCons, mCall, mTup, mLst, mTst, asB, mNot, mAnd, mOr, mAndV, mOrV, mIte, mSeq, sSq, sIf, sRet, sSet, sSetF, sNil, sFrz, frz, sExpr, sPar2, sPar3, sAsg, mkL, gNm, gTp, gCns, gNl, D.asT, itemsD, addD_int, subD_int, ltD_int, leD_int, gtD_int, geD_int, negD_int, gcdD_int, absD_int, Option.bind_some, Option.map_some, Option.bind_none, Option.map_none, List.map_cons, List.map_nil, List.length_cons, List.length_nil, List.cons_append, List.nil_append, List.getElem?_cons_zero, List.getElem?_cons_succ, List.set_cons_zero, List.set_cons_succ, List.replicate_succ, List.replicate_zero, Nat.reduceAdd, Nat.reduceSub, Nat.reduceLeDiff, if_true, if_false, ite_true, ite_false, Bool.false_eq_true, f_law_sum, m_law_sum, sFor, e]
/-! ### dot -/
def rdot (p q : List Rat) : Rat := rsum ((p.zip q).map fun x => x.1 * x.2)
theorem rl_items {x : D} {ds : List D} {ps : List Rat} (h : itemsD x = some ds) (_ : RL ds ps) : itemsD x = some ds := h
/-- a vector: a tuple of ratios -/
structure VecR (x : D) (ps : List Rat) : Prop where
  ex : ∃ ds, x = .tup ds ∧ RL ds ps
theorem dot_in {E N : Nat} {ps qs : List Rat} (hp : ∀ q ∈ ps, InD E N q) (hq : ∀ q ∈ qs, InD E N q) : ∀ z ∈ (ps.zip qs).map fun x => x.1 * x.2, InD (E * E) (N * N) z := fun z hz => by
  obtain ⟨⟨a, b⟩, hm, rfl⟩ := List.mem_map.mp hz
  exact (hp a (List.of_mem_zip hm).1).mul (hq b (List.of_mem_zip hm).2)
theorem dot_len (ps qs : List Rat) : ((ps.zip qs).map fun x => x.1 * x.2).length ≤ ps.length := by
  rw [List.length_map, List.length_zip]; omega
theorem rdot_in {E N : Nat} (hE : E ≠ 0) {ps qs : List Rat} (hp : ∀ q ∈ ps, InD E N q) (hq : ∀ q ∈ qs, InD E N q) : InD (E * E) (ps.length * (N * N)) (rdot ps qs) :=
  (inD_sum (Nat.mul_ne_zero hE hE) (dot_in hp hq)).mono (Nat.mul_le_mul_right _ (dot_len ps qs))
theorem dot_ev {E N B : Nat} (b1 : Bd E N) (bd : Bd (E * E) B) {x y : D} {ps qs : List Rat} (hx : VecR x ps) (hy : VecR y qs) (hp : ∀ q ∈ ps, InD E N q) (hq : ∀ q ∈ qs, InD E N q) (hB : ps.length * (N * N) ≤ B) (hN : N * N ≤ B) (h0 : ps ≠ [] ∧ qs ≠ []) : f_dot [x, y] = some (mk (rdot ps qs)) := by
  obtain ⟨ds, rfl, hx'⟩ := hx.ex
  obtain ⟨es, rfl, hy'⟩ := hy.ex
  have hz := paired_zip hx' hy'
  obtain ⟨d, e, h⟩ := total_ev bd (rl_mk ((ps.zip qs).map fun x => x.1 * x.2)) (dot_in hp hq) (Nat.le_trans (Nat.mul_le_mul_right _ (dot_len ps qs)) hB) hN
  have hd : d = mk (rdot ps qs) := h.2 (by
    intro z
    have := congrArg List.length z
    rw [List.length_map, List.length_zip, List.length_nil] at this
    have h1 := List.length_pos_iff.mpr h0.1
    have h2 := List.length_pos_iff.mpr h0.2
    omega)
  subst hd
  have el := lc_rel (g := gTp 2 (gCns (gNm 2) (gCns (gNm 3) gNl))) (t := mPure true) (m := mCall f_times (mCons (mVar 2) (mCons (mVar 3) (mPure [])))) (S := none) (ρ := [some (.imm (.tup ds)), some (.imm (.tup es)), none, none]) (fun p : Rat × Rat => mk (p.1 * p.2)) hz fun d p hd hm => by
    obtain ⟨u, v, rfl, h1, h2⟩ := hd
    have e := times_ev h1 h2 (b1.sm (hp _ (List.of_mem_zip (show (p.1, p.2) ∈ _ from hm)).1) (Nat.le_refl _)) (b1.sm (hq _ (List.of_mem_zip (show (p.1, p.2) ∈ _ from hm)).2) (Nat.le_refl _))
    refine ⟨[some (.imm (.tup ds)), some (.imm (.tup es)), some (.imm u), some (.imm v)], rfl, rfl, ?_⟩
    simp only [runP, startL, outF, mVar, mVarB, mPure, mOp1, mOp2, mCons, mCall, mTup, mLst, mTst, asB, mNot, mAnd, mOr, mAndV, mOrV, mIte, mSeq, sSq, sIf, sRet, sSet, sSetF, sNil, sFrz, frz, sExpr, sPar2, sPar3, sAsg, mkL, gNm, gTp, gCns, gNl, D.asT, itemsD, addD_int, subD_int, ltD_int, leD_int, gtD_int, geD_int, negD_int, gcdD_int, absD_int, Option.bind_some, Option.map_some, Option.bind_none, Option.map_none, List.map_cons, List.map_nil, List.length_cons, List.length_nil, List.cons_append, List.nil_append, List.getElem?_cons_zero, List.getElem?_cons_succ, List.set_cons_zero, List.set_cons_succ, List.replicate_succ, List.replicate_zero, Nat.reduceAdd, Nat.reduceSub, Nat.reduceLeDiff, if_true, if_false, ite_true, ite_false, Bool.false_eq_true, e]
  have em : ((ps.zip qs).map fun x => x.1 * x.2).map mk = (ps.zip qs).map fun p : Rat × Rat => mk (p.1 * p.2) := by rw [List.map_map]; rfl
  rw [em] at e
  simp only [runP, startL, outF, mVar, mVarB, mPure, mOp1, mOp2, mCons, mCall, mTup, mLst, mTst, asB, mNot, mAnd, mOr, mAndV, mOrV, mIte, mSeq, sSq, sIf, sRet, sSet, sSetF, sNil, sFrz, frz, sExpr, sPar2, sPar3, sAsg, mkL, gNm, gTp, gCns, gNl, D.asT, itemsD, addD_int, subD_int, ltD_int, leD_int, gtD_int, geD_int, negD_int, gcdD_int, absD_int, Option.bind_some, Option.map_some, Option.bind_none, Option.map_none, List.map_cons, List.map_nil, List.length_cons, List.length_nil, List.cons_append, List.nil_append, List.getElem?_cons_zero, List.getElem?_cons_succ, List.set_cons_zero, List.set_cons_succ, List.replicate_succ, List.replicate_zero, Nat.reduceAdd, Nat.reduceSub, Nat.reduceLeDiff, if_true, if_false, ite_true, ite_false, Bool.false_eq_true, f_dot, m_dot, mLc, mZip2, wipeL, el, e]
theorem law_dot_ev {E N B : Nat} (b1 : Bd E N) (bd : Bd (E * E) B) {x y : D} {ps qs : List Rat} (hx : VecR x ps) (hy : VecR y qs) (hp : ∀ q ∈ ps, InD E N q) (hq : ∀ q ∈ qs, InD E N q) (hB : ps.length * (N * N) ≤ B) (hN : N * N ≤ B) (h0 : ps ≠ [] ∧ qs ≠ []) : f_law_dot [x, y] = some (mk (rdot ps qs)) := by
  obtain ⟨ds, rfl, hx'⟩ := hx.ex
  obtain ⟨es, rfl, hy'⟩ := hy.ex
  have hz := paired_zip hx' hy'
  obtain ⟨d, e, h⟩ := law_sum_ev bd (rl_mk ((ps.zip qs).map fun x => x.1 * x.2)) (dot_in hp hq) (Nat.le_trans (Nat.mul_le_mul_right _ (dot_len ps qs)) hB) hN
  have hd : d = mk (rdot ps qs) := h.2 (by
    intro z
    have := congrArg List.length z
    rw [List.length_map, List.length_zip, List.length_nil] at this
    have h1 := List.length_pos_iff.mpr h0.1
    have h2 := List.length_pos_iff.mpr h0.2
    omega)
  subst hd
  have el := lc_rel (g := gTp 2 (gCns (gNm 2) (gCns (gNm 3) gNl))) (t := mPure true) (m := mCall f_law_times (mCons (mVar 2) (mCons (mVar 3) (mPure [])))) (S := none) (ρ := [some (.imm (.tup ds)), some (.imm (.tup es)), none, none]) (fun p : Rat × Rat => mk (p.1 * p.2)) hz fun d p hd hm => by
    obtain ⟨u, v, rfl, h1, h2⟩ := hd
    have e := law_times_ev h1 h2 (b1.sm (hp _ (List.of_mem_zip (show (p.1, p.2) ∈ _ from hm)).1) (Nat.le_refl _)) (b1.sm (hq _ (List.of_mem_zip (show (p.1, p.2) ∈ _ from hm)).2) (Nat.le_refl _))
    refine ⟨[some (.imm (.tup ds)), some (.imm (.tup es)), some (.imm u), some (.imm v)], rfl, rfl, ?_⟩
    simp only [runP, startL, outF, mVar, mVarB, mPure, mOp1, mOp2, mCons, mCall, mTup, mLst, mTst, asB, mNot, mAnd, mOr, mAndV, mOrV, mIte, mSeq, sSq, sIf, sRet, sSet, sSetF, sNil, sFrz, frz, sExpr, sPar2, sPar3, sAsg, mkL, gNm, gTp, gCns, gNl, D.asT, itemsD, addD_int, subD_int, ltD_int, leD_int, gtD_int, geD_int, negD_int, gcdD_int, absD_int, Option.bind_some, Option.map_some, Option.bind_none, Option.map_none, List.map_cons, List.map_nil, List.length_cons, List.length_nil, List.cons_append, List.nil_append, List.getElem?_cons_zero, List.getElem?_cons_succ, List.set_cons_zero, List.set_cons_succ, List.replicate_succ, List.replicate_zero, Nat.reduceAdd, Nat.reduceSub, Nat.reduceLeDiff, if_true, if_false, ite_true, ite_false, Bool.false_eq_true, e]
  have em : ((ps.zip qs).map fun x => x.1 * x.2).map mk = (ps.zip qs).map fun p : Rat × Rat => mk (p.1 * p.2) := by rw [List.map_map]; rfl
  rw [em] at e
  simp only [runP, startL, outF, mVar, mVarB, mPure, mOp1, mOp2, mCons, mCall, mTup, mLst, mTst, asB, mNot, mAnd, mOr, mAndV, mOrV, mIte, mSeq, sSq, sIf, sRet, sSet, sSetF, sNil, sFrz, frz, sExpr, sPar2, sPar3, sAsg, mkL, gNm, gTp, gCns, gNl, D.asT, itemsD, addD_int, subD_int, ltD_int, leD_int, gtD_int, geD_int, negD_int, gcdD_int, absD_int, Option.bind_some, Option.map_some, Option.bind_none, Option.map_none, List.map_cons, List.map_nil, List.length_cons, List.length_nil, List.cons_append, List.nil_append, List.getElem?_cons_zero, List.getElem?_cons_succ, List.set_cons_zero, List.set_cons_succ, List.replicate_succ, List.replicate_zero, Nat.reduceAdd, Nat.reduceSub, Nat.reduceLeDiff, if_true, if_false, ite_true, ite_false, Bool.false_eq_true, f_law_dot, m_law_dot, mLc, mZip2, wipeL, el, e]
end K35
namespace K35
open PySem PyProof.Rows L2 Dv

/-! ### both parts no greater than 2 ^ X -/
structure Sz (X : Nat) (q : Rat) : Prop where
  num : q.num.natAbs ≤ 2 ^ X
  den : q.den ≤ 2 ^ X
theorem log2_le {n X : Nat} (h : n ≤ 2 ^ X) : n.log2 ≤ X := by
  have := log2_mono h
  rwa [Nat.log2_two_pow] at this
theorem Sz.nl {X : Nat} {q : Rat} (h : Sz X q) : q.num.natAbs.log2 ≤ X := log2_le h.num
theorem Sz.dl {X : Nat} {q : Rat} (h : Sz X q) : q.den.log2 ≤ X := log2_le h.den
theorem Sz.mono {X Y : Nat} {q : Rat} (h : Sz X q) (l : X ≤ Y) : Sz Y q := ⟨Nat.le_trans h.num (Nat.pow_le_pow_right (by omega) l), Nat.le_trans h.den (Nat.pow_le_pow_right (by omega) l)⟩
theorem sz_mk {n : Int} {k X : Nat} (hk : 0 < k) (h1 : n.natAbs ≤ 2 ^ X) (h2 : k ≤ 2 ^ X) : Sz X (mkRat n k) := by
  have hk0 : k ≠ 0 := by omega
  have g0 : 0 < k.gcd n.natAbs := Nat.gcd_pos_of_pos_left _ hk
  refine ⟨?_, ?_⟩
  · rw [Rat.num_mkRat, if_neg hk0, Int.natAbs_ediv_of_dvd (Int.ofNat_dvd_left.mpr (Nat.gcd_dvd_right _ _)), Int.natAbs_natCast]
    exact Nat.le_trans (Nat.div_le_self _ _) h1
  · rw [Rat.den_mkRat, if_neg hk0]
    exact Nat.le_trans (Nat.div_le_self _ _) h2
theorem sz_zero : Sz 0 0 := ⟨by decide, by decide⟩
theorem sz_one : Sz 0 1 := ⟨by decide, by decide⟩
theorem pow_add' (X Y : Nat) : 2 ^ (X + Y) = 2 ^ X * 2 ^ Y := Nat.pow_add 2 X Y
theorem Sz.mul {X Y : Nat} {a b : Rat} (ha : Sz X a) (hb : Sz Y b) : Sz (X + Y) (a * b) := by
  rw [Rat.mul_def']
  refine sz_mk (Nat.mul_pos a.den_pos b.den_pos) ?_ ?_
  · rw [Int.natAbs_mul, pow_add']; exact Nat.mul_le_mul ha.num hb.num
  · rw [pow_add']; exact Nat.mul_le_mul ha.den hb.den
theorem Sz.add {X Y : Nat} {a b : Rat} (ha : Sz X a) (hb : Sz Y b) : Sz (X + Y + 1) (a + b) := by
  rw [Rat.add_def']
  have e : 2 ^ (X + Y + 1) = 2 ^ X * 2 ^ Y + 2 ^ X * 2 ^ Y := by rw [Nat.pow_succ, pow_add']; omega
  refine sz_mk (Nat.mul_pos a.den_pos b.den_pos) ?_ ?_
  · have h1 : (a.num * (b.den : Int)).natAbs ≤ 2 ^ X * 2 ^ Y := by rw [Int.natAbs_mul, Int.natAbs_natCast]; exact Nat.mul_le_mul ha.num hb.den
    have h2 : (b.num * (a.den : Int)).natAbs ≤ 2 ^ X * 2 ^ Y := by rw [Int.natAbs_mul, Int.natAbs_natCast, Nat.mul_comm]; exact Nat.mul_le_mul ha.den hb.num
    rw [e]
    exact Nat.le_trans (Int.natAbs_add_le _ _) (Nat.add_le_add h1 h2)
  · rw [e]
    exact Nat.le_trans (Nat.mul_le_mul ha.den hb.den) (Nat.le_add_right _ _)
theorem Sz.neg {X : Nat} {a : Rat} (h : Sz X a) : Sz X (-a) := ⟨by rw [Rat.neg_num, Int.natAbs_neg]; exact h.num, by rw [Rat.neg_den]; exact h.den⟩
theorem Sz.sub {X Y : Nat} {a b : Rat} (ha : Sz X a) (hb : Sz Y b) : Sz (X + Y + 1) (a - b) := by
  rw [Rat.sub_eq_add_neg]; exact ha.add hb.neg
theorem num_pos' {q : Rat} (h : 0 < q) : 0 < q.num := by
  have := Rat.num_nonneg.mpr (Rat.le_of_lt h)
  have h2 : q.num ≠ 0 := fun z => by rw [Rat.num_eq_zero.mp z] at h; exact Rat.lt_irrefl h
  omega
theorem nat_num {q : Rat} (h : 0 < q) : q.num = (q.num.natAbs : Int) := by have := num_pos' h; omega
theorem div_eq_mk {a b : Rat} (hb : 0 < b) : a / b = mkRat (a.num * b.den) (a.den * b.num.natAbs) := by
  have h2 := num_pos' hb
  have hb0 : b ≠ 0 := fun z => by rw [z] at hb; exact Rat.lt_irrefl hb
  have e : mkRat (a.num * b.den) (a.den * b.num.natAbs) * b = a := by
    have e1 : mkRat (b.num.natAbs : Int) b.den = b := by rw [← nat_num hb]; exact Rat.mkRat_self b
    conv => lhs; rhs; rw [← e1]
    rw [Rat.mkRat_mul_mkRat]
    have e2 : a.num * (b.den : Int) * (b.num.natAbs : Int) = a.num * ((b.den * b.num.natAbs : Nat) : Int) := by rw [Int.natCast_mul, Int.mul_assoc]
    have e3 : a.den * b.num.natAbs * b.den = a.den * (b.den * b.num.natAbs) := by rw [Nat.mul_assoc, Nat.mul_comm b.num.natAbs]
    rw [e2, e3, Rat.mkRat_mul_right (Nat.mul_ne_zero b.den_nz (by omega)), Rat.mkRat_self]
  obtain ⟨c, hc⟩ : ∃ c, c = mkRat (a.num * b.den) (a.den * b.num.natAbs) := ⟨_, rfl⟩
  rw [← hc] at e ⊢
  rw [← e, Rat.mul_div_cancel hb0]
theorem Sz.div {X Y : Nat} {a b : Rat} (ha : Sz X a) (hb : Sz Y b) (h0 : 0 < b) : Sz (X + Y) (a / b) := by
  have h2 := num_pos' h0
  rw [div_eq_mk h0]
  refine sz_mk (Nat.mul_pos a.den_pos (by omega)) ?_ ?_
  · rw [Int.natAbs_mul, Int.natAbs_natCast, pow_add']; exact Nat.mul_le_mul ha.num hb.den
  · rw [pow_add']; exact Nat.mul_le_mul ha.den hb.num
theorem sz_of {D N X : Nat} {q : Rat} (h : InD D N q) (hD : D ≠ 0) (h1 : D ≤ 2 ^ X) (h2 : N ≤ 2 ^ X) : Sz X q := by
  obtain ⟨z, hz, rfl⟩ := h
  exact sz_mk (by omega) (Nat.le_trans hz h2) h1
section
variable {x y : D} {a b : Rat} {X Y : Nat}
theorem nd9 (sa : Sz X a) (sb : Sz Y b) (h : X + Y < 8990) : a.num.natAbs.log2 + (b.den : Int).natAbs.log2 < 1000000 := by
  have n1 := sa.nl
  have d2 := sb.dl
  simp only [Int.natAbs_natCast]; omega
theorem dd9 (sa : Sz X a) (sb : Sz Y b) (h : X + Y < 8990) : (a.den : Int).natAbs.log2 + (b.den : Int).natAbs.log2 < 1000000 := by
  have n1 := sa.dl
  have d2 := sb.dl
  simp only [Int.natAbs_natCast]; omega
theorem nn9 (sa : Sz X a) (sb : Sz Y b) (h : X + Y < 8990) : a.num.natAbs.log2 + b.num.natAbs.log2 < 1000000 := by
  have n1 := sa.nl
  have d2 := sb.nl
  omega
theorem dl9 (sa : Sz X a) (sb : Sz Y b) (h : X + Y < 8990) : (a.den * b.den).log2 < 9000 := by
  have h2 := log2_mul a.den b.den
  have n1 := sa.dl
  have d2 := sb.dl
  omega
theorem plus_sz (hx : IsR x a) (hy : IsR y b) (sa : Sz X a) (sb : Sz Y b) (h : X + Y < 8990) : f_plus [x, y] = some (mk (a + b)) := by
  have e : f_lowest [.int (a.num * b.den + b.num * a.den), .int ((a.den * b.den : Nat) : Int)] = some (mk (a + b)) := by
    rw [lowest_nat (Nat.mul_ne_zero a.den_nz b.den_nz) (dl9 sa sb h), Rat.add_def']
  rw [Int.natCast_mul] at e
  simp only [runP, startL, outF, mVar, mVarB, mPure, mOp1, mOp2, mCons, mCall, mTup, mLst, mTst, asB, mNot, mAnd, mOr, mAndV, mOrV, mIte, mSeq, sSq, sIf, sRet, sSet, sSetF, sNil, sFrz, frz, sExpr, sPar2, sPar3, sAsg, mkL, gNm, gTp, gCns, gNl, D.asT, itemsD, addD_int, subD_int, ltD_int, leD_int, gtD_int, geD_int, negD_int, gcdD_int, absD_int, Option.bind_some, Option.map_some, Option.bind_none, Option.map_none, List.map_cons, List.map_nil, List.length_cons, List.length_nil, List.cons_append, List.nil_append, List.getElem?_cons_zero, List.getElem?_cons_succ, List.set_cons_zero, List.set_cons_succ, List.replicate_succ, List.replicate_zero, Nat.reduceAdd, Nat.reduceSub, Nat.reduceLeDiff, if_true, if_false, ite_true, ite_false, Bool.false_eq_true, f_plus, m_plus, hx.at0, hx.at1, hy.at0, hy.at1, mulI_int (nd9 sa sb h), mulI_int (nd9 sb sa (by omega)), mulI_int (dd9 sa sb h), e]
theorem minus_sz (hx : IsR x a) (hy : IsR y b) (sa : Sz X a) (sb : Sz Y b) (h : X + Y < 8990) : f_minus [x, y] = some (mk (a - b)) := by
  have e : f_lowest [.int (a.num * b.den - b.num * a.den), .int ((a.den * b.den : Nat) : Int)] = some (mk (a - b)) := by
    rw [lowest_nat (Nat.mul_ne_zero a.den_nz b.den_nz) (dl9 sa sb h), Rat.sub_def']
  rw [Int.natCast_mul] at e
  simp only [runP, startL, outF, mVar, mVarB, mPure, mOp1, mOp2, mCons, mCall, mTup, mLst, mTst, asB, mNot, mAnd, mOr, mAndV, mOrV, mIte, mSeq, sSq, sIf, sRet, sSet, sSetF, sNil, sFrz, frz, sExpr, sPar2, sPar3, sAsg, mkL, gNm, gTp, gCns, gNl, D.asT, itemsD, addD_int, subD_int, ltD_int, leD_int, gtD_int, geD_int, negD_int, gcdD_int, absD_int, Option.bind_some, Option.map_some, Option.bind_none, Option.map_none, List.map_cons, List.map_nil, List.length_cons, List.length_nil, List.cons_append, List.nil_append, List.getElem?_cons_zero, List.getElem?_cons_succ, List.set_cons_zero, List.set_cons_succ, List.replicate_succ, List.replicate_zero, Nat.reduceAdd, Nat.reduceSub, Nat.reduceLeDiff, if_true, if_false, ite_true, ite_false, Bool.false_eq_true, f_minus, m_minus, hx.at0, hx.at1, hy.at0, hy.at1, mulI_int (nd9 sa sb h), mulI_int (nd9 sb sa (by omega)), mulI_int (dd9 sa sb h), e]
theorem times_sz (hx : IsR x a) (hy : IsR y b) (sa : Sz X a) (sb : Sz Y b) (h : X + Y < 8990) : f_times [x, y] = some (mk (a * b)) := by
  have e : f_lowest [.int (a.num * b.num), .int ((a.den * b.den : Nat) : Int)] = some (mk (a * b)) := by
    rw [lowest_nat (Nat.mul_ne_zero a.den_nz b.den_nz) (dl9 sa sb h), Rat.mul_def']
  rw [Int.natCast_mul] at e
  simp only [runP, startL, outF, mVar, mVarB, mPure, mOp1, mOp2, mCons, mCall, mTup, mLst, mTst, asB, mNot, mAnd, mOr, mAndV, mOrV, mIte, mSeq, sSq, sIf, sRet, sSet, sSetF, sNil, sFrz, frz, sExpr, sPar2, sPar3, sAsg, mkL, gNm, gTp, gCns, gNl, D.asT, itemsD, addD_int, subD_int, ltD_int, leD_int, gtD_int, geD_int, negD_int, gcdD_int, absD_int, Option.bind_some, Option.map_some, Option.bind_none, Option.map_none, List.map_cons, List.map_nil, List.length_cons, List.length_nil, List.cons_append, List.nil_append, List.getElem?_cons_zero, List.getElem?_cons_succ, List.set_cons_zero, List.set_cons_succ, List.replicate_succ, List.replicate_zero, Nat.reduceAdd, Nat.reduceSub, Nat.reduceLeDiff, if_true, if_false, ite_true, ite_false, Bool.false_eq_true, f_times, m_times, hx.at0, hx.at1, hy.at0, hy.at1, mulI_int (nn9 sa sb h), mulI_int (dd9 sa sb h), e]
theorem law_plus_sz (hx : IsR x a) (hy : IsR y b) (sa : Sz X a) (sb : Sz Y b) (h : X + Y < 8990) : f_law_plus [x, y] = some (mk (a + b)) := by
  have e : f_law_q [.int (a.num * b.den + b.num * a.den), .int ((a.den * b.den : Nat) : Int)] = some (mk (a + b)) := by
    rw [q_nat (Nat.mul_ne_zero a.den_nz b.den_nz) (dl9 sa sb h), Rat.add_def']
  rw [Int.natCast_mul] at e
  simp only [runP, startL, outF, mVar, mVarB, mPure, mOp1, mOp2, mCons, mCall, mTup, mLst, mTst, asB, mNot, mAnd, mOr, mAndV, mOrV, mIte, mSeq, sSq, sIf, sRet, sSet, sSetF, sNil, sFrz, frz, sExpr, sPar2, sPar3, sAsg, mkL, gNm, gTp, gCns, gNl, D.asT, itemsD, addD_int, subD_int, ltD_int, leD_int, gtD_int, geD_int, negD_int, gcdD_int, absD_int, Option.bind_some, Option.map_some, Option.bind_none, Option.map_none, List.map_cons, List.map_nil, List.length_cons, List.length_nil, List.cons_append, List.nil_append, List.getElem?_cons_zero, List.getElem?_cons_succ, List.set_cons_zero, List.set_cons_succ, List.replicate_succ, List.replicate_zero, Nat.reduceAdd, Nat.reduceSub, Nat.reduceLeDiff, if_true, if_false, ite_true, ite_false, Bool.false_eq_true, f_law_plus, m_law_plus, hx.at0, hx.at1, hy.at0, hy.at1, mulI_int (nd9 sa sb h), mulI_int (nd9 sb sa (by omega)), mulI_int (dd9 sa sb h), e]
theorem law_minus_sz (hx : IsR x a) (hy : IsR y b) (sa : Sz X a) (sb : Sz Y b) (h : X + Y < 8990) : f_law_minus [x, y] = some (mk (a - b)) := by
  have e : f_law_q [.int (a.num * b.den - b.num * a.den), .int ((a.den * b.den : Nat) : Int)] = some (mk (a - b)) := by
    rw [q_nat (Nat.mul_ne_zero a.den_nz b.den_nz) (dl9 sa sb h), Rat.sub_def']
  rw [Int.natCast_mul] at e
  simp only [runP, startL, outF, mVar, mVarB, mPure, mOp1, mOp2, mCons, mCall, mTup, mLst, mTst, asB, mNot, mAnd, mOr, mAndV, mOrV, mIte, mSeq, sSq, sIf, sRet, sSet, sSetF, sNil, sFrz, frz, sExpr, sPar2, sPar3, sAsg, mkL, gNm, gTp, gCns, gNl, D.asT, itemsD, addD_int, subD_int, ltD_int, leD_int, gtD_int, geD_int, negD_int, gcdD_int, absD_int, Option.bind_some, Option.map_some, Option.bind_none, Option.map_none, List.map_cons, List.map_nil, List.length_cons, List.length_nil, List.cons_append, List.nil_append, List.getElem?_cons_zero, List.getElem?_cons_succ, List.set_cons_zero, List.set_cons_succ, List.replicate_succ, List.replicate_zero, Nat.reduceAdd, Nat.reduceSub, Nat.reduceLeDiff, if_true, if_false, ite_true, ite_false, Bool.false_eq_true, f_law_minus, m_law_minus, hx.at0, hx.at1, hy.at0, hy.at1, mulI_int (nd9 sa sb h), mulI_int (nd9 sb sa (by omega)), mulI_int (dd9 sa sb h), e]
theorem law_times_sz (hx : IsR x a) (hy : IsR y b) (sa : Sz X a) (sb : Sz Y b) (h : X + Y < 8990) : f_law_times [x, y] = some (mk (a * b)) := by
  have e : f_law_q [.int (a.num * b.num), .int ((a.den * b.den : Nat) : Int)] = some (mk (a * b)) := by
    rw [q_nat (Nat.mul_ne_zero a.den_nz b.den_nz) (dl9 sa sb h), Rat.mul_def']
  rw [Int.natCast_mul] at e
  simp only [runP, startL, outF, mVar, mVarB, mPure, mOp1, mOp2, mCons, mCall, mTup, mLst, mTst, asB, mNot, mAnd, mOr, mAndV, mOrV, mIte, mSeq, sSq, sIf, sRet, sSet, sSetF, sNil, sFrz, frz, sExpr, sPar2, sPar3, sAsg, mkL, gNm, gTp, gCns, gNl, D.asT, itemsD, addD_int, subD_int, ltD_int, leD_int, gtD_int, geD_int, negD_int, gcdD_int, absD_int, Option.bind_some, Option.map_some, Option.bind_none, Option.map_none, List.map_cons, List.map_nil, List.length_cons, List.length_nil, List.cons_append, List.nil_append, List.getElem?_cons_zero, List.getElem?_cons_succ, List.set_cons_zero, List.set_cons_succ, List.replicate_succ, List.replicate_zero, Nat.reduceAdd, Nat.reduceSub, Nat.reduceLeDiff, if_true, if_false, ite_true, ite_false, Bool.false_eq_true, f_law_times, m_law_times, hx.at0, hx.at1, hy.at0, hy.at1, mulI_int (nn9 sa sb h), mulI_int (dd9 sa sb h), e]
theorem dn9 (sa : Sz X a) (sb : Sz Y b) (h : X + Y < 8990) : (a.den * b.num.natAbs).log2 < 9000 := by
  have h2 := log2_mul a.den b.num.natAbs
  have n1 := sa.dl
  have d2 := sb.nl
  omega
theorem dn9' (sa : Sz X a) (sb : Sz Y b) (h : X + Y < 8990) : (a.den : Int).natAbs.log2 + b.num.natAbs.log2 < 1000000 := by
  have n1 := sa.dl
  have d2 := sb.nl
  simp only [Int.natAbs_natCast]; omega
theorem over_sz (hx : IsR x a) (hy : IsR y b) (sa : Sz X a) (sb : Sz Y b) (hb : 0 < b) (h : X + Y < 8990) : f_over [x, y] = some (mk (a / b)) := by
  have p2 := num_pos' hb
  have e := lowest_nat (n := a.num * b.den) (k := a.den * b.num.natAbs) (Nat.mul_ne_zero a.den_nz (by omega)) (dn9 sa sb h)
  rw [Int.natCast_mul, ← div_eq_mk hb, ← nat_num hb] at e
  simp only [runP, startL, outF, mVar, mVarB, mPure, mOp1, mOp2, mCons, mCall, mTup, mLst, mTst, asB, mNot, mAnd, mOr, mAndV, mOrV, mIte, mSeq, sSq, sIf, sRet, sSet, sSetF, sNil, sFrz, frz, sExpr, sPar2, sPar3, sAsg, mkL, gNm, gTp, gCns, gNl, D.asT, itemsD, addD_int, subD_int, ltD_int, leD_int, gtD_int, geD_int, negD_int, gcdD_int, absD_int, Option.bind_some, Option.map_some, Option.bind_none, Option.map_none, List.map_cons, List.map_nil, List.length_cons, List.length_nil, List.cons_append, List.nil_append, List.getElem?_cons_zero, List.getElem?_cons_succ, List.set_cons_zero, List.set_cons_succ, List.replicate_succ, List.replicate_zero, Nat.reduceAdd, Nat.reduceSub, Nat.reduceLeDiff, if_true, if_false, ite_true, ite_false, Bool.false_eq_true, f_over, m_over, hx.at0, hx.at1, hy.at0, hy.at1, mulI_int (nd9 sa sb h), mulI_int (dn9' sa sb h), e]
theorem law_over_sz (hx : IsR x a) (hy : IsR y b) (sa : Sz X a) (sb : Sz Y b) (hb : 0 < b) (h : X + Y < 8990) : f_law_over [x, y] = some (mk (a / b)) := by
  have p2 := num_pos' hb
  have e := q_nat (n := a.num * b.den) (k := a.den * b.num.natAbs) (Nat.mul_ne_zero a.den_nz (by omega)) (dn9 sa sb h)
  rw [Int.natCast_mul, ← div_eq_mk hb, ← nat_num hb] at e
  simp only [runP, startL, outF, mVar, mVarB, mPure, mOp1, mOp2, mCons, mCall, mTup, mLst, mTst, asB, mNot, mAnd, mOr, mAndV, mOrV, mIte, mSeq, sSq, sIf, sRet, sSet, sSetF, sNil, sFrz, frz, sExpr, sPar2, sPar3, sAsg, mkL, gNm, gTp, gCns, gNl, D.asT, itemsD, addD_int, subD_int, ltD_int, leD_int, gtD_int, geD_int, negD_int, gcdD_int, absD_int, Option.bind_some, Option.map_some, Option.bind_none, Option.map_none, List.map_cons, List.map_nil, List.length_cons, List.length_nil, List.cons_append, List.nil_append, List.getElem?_cons_zero, List.getElem?_cons_succ, List.set_cons_zero, List.set_cons_succ, List.replicate_succ, List.replicate_zero, Nat.reduceAdd, Nat.reduceSub, Nat.reduceLeDiff, if_true, if_false, ite_true, ite_false, Bool.false_eq_true, f_law_over, m_law_over, hx.at0, hx.at1, hy.at0, hy.at1, mulI_int (nd9 sa sb h), mulI_int (dn9' sa sb h), e]
theorem less_sz (hx : IsR x a) (hy : IsR y b) (sa : Sz X a) (sb : Sz Y b) (h : X + Y < 900000) : f_is_less [x, y] = some (.bl (decide (a < b))) := by
  have n1 := sa.nl
  have n2 := sb.nl
  have d1 := sa.dl
  have d2 := sb.dl
  have m1 : a.num.natAbs.log2 + (b.den : Int).natAbs.log2 < 1000000 := by simp only [Int.natAbs_natCast]; omega
  have m2 : b.num.natAbs.log2 + (a.den : Int).natAbs.log2 < 1000000 := by simp only [Int.natAbs_natCast]; omega
  have e : (a < b) = (a.num * b.den < b.num * a.den) := propext (Rat.lt_iff a b)
  simp only [e]
  simp only [runP, startL, outF, mVar, mVarB, mPure, mOp1, mOp2, mCons, mCall, mTup, mLst, mTst, asB, mNot, mAnd, mOr, mAndV, mOrV, mIte, mSeq, sSq, sIf, sRet, sSet, sSetF, sNil, sFrz, frz, sExpr, sPar2, sPar3, sAsg, mkL, gNm, gTp, gCns, gNl, D.asT, itemsD, addD_int, subD_int, ltD_int, leD_int, gtD_int, geD_int, negD_int, gcdD_int, absD_int, Option.bind_some, Option.map_some, Option.bind_none, Option.map_none, List.map_cons, List.map_nil, List.length_cons, List.length_nil, List.cons_append, List.nil_append, List.getElem?_cons_zero, List.getElem?_cons_succ, List.set_cons_zero, List.set_cons_succ, List.replicate_succ, List.replicate_zero, Nat.reduceAdd, Nat.reduceSub, Nat.reduceLeDiff, if_true, if_false, ite_true, ite_false, Bool.false_eq_true, f_is_less, m_is_less, hx.at0, hx.at1, hy.at0, hy.at1, mulI_int m1, mulI_int m2]
theorem law_less_sz (hx : IsR x a) (hy : IsR y b) (sa : Sz X a) (sb : Sz Y b) (h : X + Y < 900000) : f_law_less [x, y] = some (.bl (decide (a < b))) := by
  have n1 := sa.nl
  have n2 := sb.nl
  have d1 := sa.dl
  have d2 := sb.dl
  have m1 : a.num.natAbs.log2 + (b.den : Int).natAbs.log2 < 1000000 := by simp only [Int.natAbs_natCast]; omega
  have m2 : b.num.natAbs.log2 + (a.den : Int).natAbs.log2 < 1000000 := by simp only [Int.natAbs_natCast]; omega
  have e : (a < b) = (a.num * b.den < b.num * a.den) := propext (Rat.lt_iff a b)
  simp only [e]
  simp only [runP, startL, outF, mVar, mVarB, mPure, mOp1, mOp2, mCons, mCall, mTup, mLst, mTst, asB, mNot, mAnd, mOr, mAndV, mOrV, mIte, mSeq, sSq, sIf, sRet, sSet, sSetF, sNil, sFrz, frz, sExpr, sPar2, sPar3, sAsg, mkL, gNm, gTp, gCns, gNl, D.asT, itemsD, addD_int, subD_int, ltD_int, leD_int, gtD_int, geD_int, negD_int, gcdD_int, absD_int, Option.bind_some, Option.map_some, Option.bind_none, Option.map_none, List.map_cons, List.map_nil, List.length_cons, List.length_nil, List.cons_append, List.nil_append, List.getElem?_cons_zero, List.getElem?_cons_succ, List.set_cons_zero, List.set_cons_succ, List.replicate_succ, List.replicate_zero, Nat.reduceAdd, Nat.reduceSub, Nat.reduceLeDiff, if_true, if_false, ite_true, ite_false, Bool.false_eq_true, f_law_less, m_law_less, hx.at0, hx.at1, hy.at0, hy.at1, mulI_int m1, mulI_int m2]
end
/-! ### sums and products of vectors -/
theorem sz_sum {X : Nat} : ∀ {l : List Rat}, (∀ q ∈ l, Sz X q) → ∀ {Y : Nat} {a : Rat}, Sz Y a → Sz (Y + l.length * (X + 1)) (l.foldl (· + ·) a)
  | [], _, Y, a, ha => by simpa using ha
  | x :: l, h, Y, a, ha => by
    have h1 := sz_sum (l := l) (fun q hq => h q (List.mem_cons_of_mem _ hq)) (ha.add (h x List.mem_cons_self))
    refine h1.mono ?_
    rw [List.length_cons, Nat.succ_mul]; omega
abbrev PlusZ (f : List D → Option D) : Prop := ∀ {x y : D} {a b : Rat} {X Y : Nat}, IsR x a → IsR y b → Sz X a → Sz Y b → X + Y < 8990 → f [x, y] = some (mk (a + b))
theorem totalz_go {f : List D → Option D} (hf : PlusZ f) {X : Nat} {d0 : D} : ∀ {ds : List D} {qs : List Rat}, RL ds qs → (∀ q ∈ qs, Sz X q) → ∀ (Y : Nat) (x : D) (a : Rat) (y : Option LV), IsR x a → Sz Y a → Y + qs.length * (X + 1) < 8990 →
    ∃ d y', forGo (gNm 2) (sSet 1 (mCall f (mCons (mVar 1) (mCons (mVar 2) (mPure []))))) ds [some (.imm d0), some (.imm x), y] none = some (.nx, [some (.imm d0), some (.imm d), y'], none) ∧ IsR d (qs.foldl (· + ·) a) ∧ (x = mk a ∨ qs ≠ [] → d = mk (qs.foldl (· + ·) a))
  | _, _, .nil, _, Y, x, a, y, hx, _, _ => ⟨x, y, rfl, hx, fun h => by rcases h with h | h; exact h; exact absurd rfl h⟩
  | d :: ds, q :: qs, .cons r p, hq, Y, x, a, y, hx, ha, hk => by
    have h1 : Sz X q := hq q List.mem_cons_self
    rw [List.length_cons, Nat.succ_mul] at hk
    have e := hf hx r ha h1 (by omega)
    obtain ⟨d', y', e2, h2⟩ := totalz_go hf p (fun q hq' => hq q (List.mem_cons_of_mem _ hq')) (Y + X + 1) (mk (a + q)) (a + q) (some (.imm d)) (isR_mk _) (ha.add h1) (by omega)
    refine ⟨d', y', ?_, h2.1, fun _ => h2.2 (.inl rfl)⟩
    rw [← e2]
    show Option.bind (gNm 2 d [some (.imm d0), some (.imm x), y]) _ = _
    simp only [runP, startL, outF, mVar, mVarB, mPure, mOp1, mOp2, mCons, mCall, mTup, mLst, mTst, asB, mNot, mAnd, mOr, mAndV, mOrV, mIte, mSeq, sSq, sIf, sRet, sSet, sSetF, sNil, sFrz, frz, sExpr, sPar2, sPar3, sAsg, mkL, gNm, gTp, gCns, gNl, D.asT, itemsD, addD_int, subD_int, ltD_int, leD_int, gtD_int, geD_int, negD_int, gcdD_int, absD_int, Option.bind_some, Option.map_some, Option.bind_none, Option.map_none, List.map_cons, List.map_nil, List.length_cons, List.length_nil, List.cons_append, List.nil_append, List.getElem?_cons_zero, List.getElem?_cons_succ, List.set_cons_zero, List.set_cons_succ, List.replicate_succ, List.replicate_zero, Nat.reduceAdd, Nat.reduceSub, Nat.reduceLeDiff, if_true, if_false, ite_true, ite_false, Bool.false_eq_true, e]
theorem totalz_ev {X : Nat} {ds : List D} {qs : List Rat} (hr : RL ds qs) (hq : ∀ q ∈ qs, Sz X q) (hl : qs.length * (X + 1) < 8990) : ∃ d, f_total [.lst ds] = some d ∧ IsR d (rsum qs) ∧ (qs ≠ [] → d = mk (rsum qs)) := by
  obtain ⟨d, y, e, h⟩ := totalz_go (f := f_plus) plus_sz (d0 := .lst ds) hr hq 0 (.kt [.int 0, .int 1]) 0 none isR_zero sz_zero (by omega)
  refine ⟨d, ?_, h.1, fun z => h.2 (.inr z)⟩
  simp only [runP, startL, outF, mVar, mVarB, mPure, mOp1, mOp2, mCons, mCall, mTup, mLst, mTst, asB, mNot, mAnd, mOr, mAndV, mOrV, mIte, mSeq, sSq, sIf, sRet, sSet, sSetF, sNil, sFrz, frz, sExpr, sPar2, sPar3, sAsg, mkL, gNm, gTp, gCns, gNl, D.asT, itemsD, addD_int, subD_int, ltD_int, leD_int, gtD_int, geD_int, negD_int, gcdD_int, absD_int, Option.bind_some, Option.map_some, Option.bind_none, Option.map_none, List.map_cons, List.map_nil, List.length_cons, List.length_nil, List.cons_append, List.nil_append, List.getElem?_cons_zero, List.getElem?_cons_succ, List.set_cons_zero, List.set_cons_succ, List.replicate_succ, List.replicate_zero, Nat.reduceAdd, Nat.reduceSub, Nat.reduceLeDiff, if_true, if_false, ite_true, ite_false, Bool.false_eq_true, f_total, m_total, sFor, e]
theorem law_sumz_ev {X : Nat} {ds : List D} {qs : List Rat} (hr : RL ds qs) (hq : ∀ q ∈ qs, Sz X q) (hl : qs.length * (X + 1) < 8990) : f_law_sum [.lst ds] = some (mk (rsum qs)) := by
  obtain ⟨d, y, e, h⟩ := totalz_go (f := f_law_plus) law_plus_sz (d0 := .lst ds) hr hq 0 (.tup [.int 0, .int 1]) 0 none isR_zero' sz_zero (by omega)
  have hd : d = mk (rsum qs) := h.2 (.inl rfl)
  subst hd
  simp only [runP, startL, outF, mVar, mVarB, mPure, mOp1, mOp2, mCons, mCall, mTup, mLst, mTst, asB, mNot, mAnd, mOr, mAndV, mOrV, mIte, mSeq, sSq, sIf, sRet, sSet, sSetF, sNil, sFrz, frz, sExpr, sPar2, sPar3, sAsg, mkL, gNm, gTp, gCns, gNl, D.asT, itemsD, addD_int, subD_int, ltD_int, leD_int, gtD_int, geD_int, negD_int, gcdD_int, absD_int, Option.bind_some, Option.map_some, Option.bind_none, Option.map_none, List.map_cons, List.map_nil, List.length_cons, List.length_nil, List.cons_append, List.nil_append, List.getElem?_cons_zero, List.getElem?_cons_succ, List.set_cons_zero, List.set_cons_succ, List.replicate_succ, List.replicate_zero, Nat.reduceAdd, Nat.reduceSub, Nat.reduceLeDiff, if_true, if_false, ite_true, ite_false, Bool.false_eq_true, f_law_sum, m_law_sum, sFor, e]
theorem dot_mem {X Y : Nat} {ps qs : List Rat} (hp : ∀ q ∈ ps, Sz X q) (hq : ∀ q ∈ qs, Sz Y q) : ∀ z ∈ (ps.zip qs).map fun x => x.1 * x.2, Sz (X + Y) z := fun z hz => by
  obtain ⟨⟨a, b⟩, hm, rfl⟩ := List.mem_map.mp hz
  exact (hp a (List.of_mem_zip hm).1).mul (hq b (List.of_mem_zip hm).2)
theorem sz_dot {X Y : Nat} {ps qs : List Rat} (hp : ∀ q ∈ ps, Sz X q) (hq : ∀ q ∈ qs, Sz Y q) (h4 : ps.length ≤ 4) : Sz (4 * (X + Y + 1)) (rdot ps qs) := by
  have h := sz_sum (dot_mem hp hq) sz_zero
  refine h.mono ?_
  have := dot_len ps qs
  have := Nat.mul_le_mul_right (X + Y + 1) (Nat.le_trans this h4)
  omega
theorem dotz_ev {X Y : Nat} {x y : D} {ps qs : List Rat} (hx : VecR x ps) (hy : VecR y qs) (hp : ∀ q ∈ ps, Sz X q) (hq : ∀ q ∈ qs, Sz Y q) (h4 : ps.length ≤ 4) (hB : 4 * (X + Y + 1) < 8990) (h0 : ps ≠ [] ∧ qs ≠ []) : f_dot [x, y] = some (mk (rdot ps qs)) := by
  obtain ⟨ds, rfl, hx'⟩ := hx.ex
  obtain ⟨es, rfl, hy'⟩ := hy.ex
  have hz := paired_zip hx' hy'
  have hl : ((ps.zip qs).map fun x => x.1 * x.2).length * (X + Y + 1) < 8990 := by
    have := dot_len ps qs
    have := Nat.mul_le_mul_right (X + Y + 1) (Nat.le_trans this h4)
    omega
  obtain ⟨d, e, h⟩ := totalz_ev (rl_mk ((ps.zip qs).map fun x => x.1 * x.2)) (dot_mem hp hq) hl
  have hd : d = mk (rdot ps qs) := h.2 (by
    intro z
    have := congrArg List.length z
    rw [List.length_map, List.length_zip, List.length_nil] at this
    have h1 := List.length_pos_iff.mpr h0.1
    have h2 := List.length_pos_iff.mpr h0.2
    omega)
  subst hd
  have el := lc_rel (g := gTp 2 (gCns (gNm 2) (gCns (gNm 3) gNl))) (t := mPure true) (m := mCall f_times (mCons (mVar 2) (mCons (mVar 3) (mPure [])))) (S := none) (ρ := [some (.imm (.tup ds)), some (.imm (.tup es)), none, none]) (fun p : Rat × Rat => mk (p.1 * p.2)) hz fun d p hd hm => by
    obtain ⟨u, v, rfl, h1, h2⟩ := hd
    have e := times_sz h1 h2 (hp _ (List.of_mem_zip (show (p.1, p.2) ∈ _ from hm)).1) (hq _ (List.of_mem_zip (show (p.1, p.2) ∈ _ from hm)).2) (by omega)
    refine ⟨[some (.imm (.tup ds)), some (.imm (.tup es)), some (.imm u), some (.imm v)], rfl, rfl, ?_⟩
    simp only [runP, startL, outF, mVar, mVarB, mPure, mOp1, mOp2, mCons, mCall, mTup, mLst, mTst, asB, mNot, mAnd, mOr, mAndV, mOrV, mIte, mSeq, sSq, sIf, sRet, sSet, sSetF, sNil, sFrz, frz, sExpr, sPar2, sPar3, sAsg, mkL, gNm, gTp, gCns, gNl, D.asT, itemsD, addD_int, subD_int, ltD_int, leD_int, gtD_int, geD_int, negD_int, gcdD_int, absD_int, Option.bind_some, Option.map_some, Option.bind_none, Option.map_none, List.map_cons, List.map_nil, List.length_cons, List.length_nil, List.cons_append, List.nil_append, List.getElem?_cons_zero, List.getElem?_cons_succ, List.set_cons_zero, List.set_cons_succ, List.replicate_succ, List.replicate_zero, Nat.reduceAdd, Nat.reduceSub, Nat.reduceLeDiff, if_true, if_false, ite_true, ite_false, Bool.false_eq_true, e]
  have em : ((ps.zip qs).map fun x => x.1 * x.2).map mk = (ps.zip qs).map fun p : Rat × Rat => mk (p.1 * p.2) := by rw [List.map_map]; rfl
  rw [em] at e
  simp only [runP, startL, outF, mVar, mVarB, mPure, mOp1, mOp2, mCons, mCall, mTup, mLst, mTst, asB, mNot, mAnd, mOr, mAndV, mOrV, mIte, mSeq, sSq, sIf, sRet, sSet, sSetF, sNil, sFrz, frz, sExpr, sPar2, sPar3, sAsg, mkL, gNm, gTp, gCns, gNl, D.asT, itemsD, addD_int, subD_int, ltD_int, leD_int, gtD_int, geD_int, negD_int, gcdD_int, absD_int, Option.bind_some, Option.map_some, Option.bind_none, Option.map_none, List.map_cons, List.map_nil, List.length_cons, List.length_nil, List.cons_append, List.nil_append, List.getElem?_cons_zero, List.getElem?_cons_succ, List.set_cons_zero, List.set_cons_succ, List.replicate_succ, List.replicate_zero, Nat.reduceAdd, Nat.reduceSub, Nat.reduceLeDiff, if_true, if_false, ite_true, ite_false, Bool.false_eq_true, f_dot, m_dot, mLc, mZip2, wipeL, el, e]
theorem law_dotz_ev {X Y : Nat} {x y : D} {ps qs : List Rat} (hx : VecR x ps) (hy : VecR y qs) (hp : ∀ q ∈ ps, Sz X q) (hq : ∀ q ∈ qs, Sz Y q) (h4 : ps.length ≤ 4) (hB : 4 * (X + Y + 1) < 8990) : f_law_dot [x, y] = some (mk (rdot ps qs)) := by
  obtain ⟨ds, rfl, hx'⟩ := hx.ex
  obtain ⟨es, rfl, hy'⟩ := hy.ex
  have hz := paired_zip hx' hy'
  have hl : ((ps.zip qs).map fun x => x.1 * x.2).length * (X + Y + 1) < 8990 := by
    have := dot_len ps qs
    have := Nat.mul_le_mul_right (X + Y + 1) (Nat.le_trans this h4)
    omega
  have e := law_sumz_ev (rl_mk ((ps.zip qs).map fun x => x.1 * x.2)) (dot_mem hp hq) hl
  have el := lc_rel (g := gTp 2 (gCns (gNm 2) (gCns (gNm 3) gNl))) (t := mPure true) (m := mCall f_law_times (mCons (mVar 2) (mCons (mVar 3) (mPure [])))) (S := none) (ρ := [some (.imm (.tup ds)), some (.imm (.tup es)), none, none]) (fun p : Rat × Rat => mk (p.1 * p.2)) hz fun d p hd hm => by
    obtain ⟨u, v, rfl, h1, h2⟩ := hd
    have e := law_times_sz h1 h2 (hp _ (List.of_mem_zip (show (p.1, p.2) ∈ _ from hm)).1) (hq _ (List.of_mem_zip (show (p.1, p.2) ∈ _ from hm)).2) (by omega)
    refine ⟨[some (.imm (.tup ds)), some (.imm (.tup es)), some (.imm u), some (.imm v)], rfl, rfl, ?_⟩
    simp only [runP, startL, outF, mVar, mVarB, mPure, mOp1, mOp2, mCons, mCall, mTup, mLst, mTst, asB, mNot, mAnd, mOr, mAndV, mOrV, mIte, mSeq, sSq, sIf, sRet, sSet, sSetF, sNil, sFrz, frz, sExpr, sPar2, sPar3, sAsg, mkL, gNm, gTp, gCns, gNl, D.asT, itemsD, addD_int, subD_int, ltD_int, leD_int, gtD_int, geD_int, negD_int, gcdD_int, absD_int, Option.bind_some, Option.map_some, Option.bind_none, Option.map_none, List.map_cons, List.map_nil, List.length_cons, List.length_nil, List.cons_append, List.nil_append, List.getElem?_cons_zero, List.getElem?_cons_succ, List.set_cons_zero, List.set_cons_succ, List.replicate_succ, List.replicate_zero, Nat.reduceAdd, Nat.reduceSub, Nat.reduceLeDiff, if_true, if_false, ite_true, ite_false, Bool.false_eq_true, e]
  have em : ((ps.zip qs).map fun x => x.1 * x.2).map mk = (ps.zip qs).map fun p : Rat × Rat => mk (p.1 * p.2) := by rw [List.map_map]; rfl
  rw [em] at e
  show f_law_dot _ = some (mk (rsum ((ps.zip qs).map fun x => x.1 * x.2)))
  simp only [runP, startL, outF, mVar, mVarB, mPure, mOp1, mOp2, mCons, mCall, mTup, mLst, mTst, asB, mNot, mAnd, mOr, mAndV, mOrV, mIte, mSeq, sSq, sIf, sRet, sSet, sSetF, sNil, sFrz, frz, sExpr, sPar2, sPar3, sAsg, mkL, gNm, gTp, gCns, gNl, D.asT, itemsD, addD_int, subD_int, ltD_int, leD_int, gtD_int, geD_int, negD_int, gcdD_int, absD_int, Option.bind_some, Option.map_some, Option.bind_none, Option.map_none, List.map_cons, List.map_nil, List.length_cons, List.length_nil, List.cons_append, List.nil_append, List.getElem?_cons_zero, List.getElem?_cons_succ, List.set_cons_zero, List.set_cons_succ, List.replicate_succ, List.replicate_zero, Nat.reduceAdd, Nat.reduceSub, Nat.reduceLeDiff, if_true, if_false, ite_true, ite_false, Bool.false_eq_true, f_law_dot, m_law_dot, mLc, mZip2, wipeL, el, e]
end K35
namespace K35
open PySem PyProof.Rows L2 Dv
abbrev Row := List Rat × List Rat
def RowR (d : D) (r : Row) : Prop := ∃ x y, d = .tup [x, y] ∧ VecR x r.1 ∧ VecR y r.2
theorem IsR.isi {d : D} {q : Rat} (h : IsR d q) : isiD "tuple" d = some (.bl true) := by rcases h with rfl | rfl <;> rfl
theorem IsR.len {d : D} {q : Rat} (h : IsR d q) : lenD [d] = some (.int 2) := len_items h.items
theorem whole_ev (i : Int) : f_is_whole [.int i] = some (.bl true) := by
  simp only [runP, startL, outF, mVar, mVarB, mPure, mOp1, mOp2, mCons, mCall, mTup, mLst, mTst, asB, mNot, mAnd, mOr, mAndV, mOrV, mIte, mSeq, sSq, sIf, sRet, sSet, sSetF, sNil, sFrz, frz, sExpr, sPar2, sPar3, sAsg, mkL, gNm, gTp, gCns, gNl, D.asT, itemsD, addD_int, subD_int, ltD_int, leD_int, gtD_int, geD_int, negD_int, gcdD_int, absD_int, Option.bind_some, Option.map_some, Option.bind_none, Option.map_none, List.map_cons, List.map_nil, List.length_cons, List.length_nil, List.cons_append, List.nil_append, List.getElem?_cons_zero, List.getElem?_cons_succ, List.set_cons_zero, List.set_cons_succ, List.replicate_succ, List.replicate_zero, Nat.reduceAdd, Nat.reduceSub, Nat.reduceLeDiff, if_true, if_false, ite_true, ite_false, Bool.false_eq_true, f_is_whole, m_is_whole, isi_ii, isi_bi, mNotV, Bool.not_false]
theorem num_pos {q : Rat} (h : 0 < q) : 0 < q.num := by
  have := (Rat.lt_iff 0 q).mp h
  simpa using this
theorem num_nonneg {q : Rat} (h : 0 ≤ q) : 0 ≤ q.num := by
  have := (Rat.le_iff 0 q).mp h
  simpa using this
theorem ratio_ev {d : D} {q : Rat} (h : IsR d q) : f_is_ratio [d] = some (.bl true) := by
  have el := lc_rel (g := gNm 1) (t := mPure true) (m := mCall f_is_whole (mCons (mVar 1) (mPure []))) (S := none) (ρ := [some (.imm d), none]) (R := fun d i => d = D.int i) (fun i : Int => D.bl ((fun _ => true) i)) (paired_mapL (e := D.int) (fun _ => rfl) [q.num, (q.den : Int)]) fun d i hd hm => by
    subst hd
    refine ⟨_, rfl, rfl, ?_⟩
    simp only [runP, startL, outF, mVar, mVarB, mPure, mOp1, mOp2, mCons, mCall, mTup, mLst, mTst, asB, mNot, mAnd, mOr, mAndV, mOrV, mIte, mSeq, sSq, sIf, sRet, sSet, sSetF, sNil, sFrz, frz, sExpr, sPar2, sPar3, sAsg, mkL, gNm, gTp, gCns, gNl, D.asT, itemsD, addD_int, subD_int, ltD_int, leD_int, gtD_int, geD_int, negD_int, gcdD_int, absD_int, Option.bind_some, Option.map_some, Option.bind_none, Option.map_none, List.map_cons, List.map_nil, List.length_cons, List.length_nil, List.cons_append, List.nil_append, List.getElem?_cons_zero, List.getElem?_cons_succ, List.set_cons_zero, List.set_cons_succ, List.replicate_succ, List.replicate_zero, Nat.reduceAdd, Nat.reduceSub, Nat.reduceLeDiff, if_true, if_false, ite_true, ite_false, Bool.false_eq_true, whole_ev]
  have hd : (0 : Int) < (q.den : Int) := by have := q.den_pos; omega
  have hg : ((Nat.gcd q.num.natAbs (q.den : Int).natAbs : Nat) : Int) = 1 := by
    rw [Int.natAbs_natCast, q.reduced]; rfl
  have ea := all_map (fun _ : Int => true) [q.num, (q.den : Int)]
  have ei := h.items
  have e1 : mSeq (mVar 0) [some (.imm d), none] none = some ([D.int q.num, D.int q.den], none) := by
    unfold mSeq mVar
    simp only [List.getElem?_cons_zero, Option.bind_some, ei, Option.map_some]
  have e2 : mLc (mSeq (mVar 0)) [1] (gNm 1) (mPure true) (mCall f_is_whole (mCons (mVar 1) (mPure []))) [some (.imm d), none] none = some (.lst ([q.num, (q.den : Int)].map fun i => D.bl true), none) := by
    unfold mLc
    rw [e1]
    simp only [Option.bind_some, wipeL, List.set_cons_succ, List.set_cons_zero]
    have el' : lcGo [some (LV.imm d), none] (gNm 1) (mPure true) (mCall f_is_whole (mCons (mVar 1) (mPure []))) [D.int q.num, D.int q.den] none = _ := el
    rw [el']
    rfl
  have ea' : allD [.lst [D.bl true, D.bl true]] = some (.bl true) := rfl
  unfold f_is_ratio m_is_ratio
  simp only [runP, startL, outF, mVar, mVarB, mPure, mOp1, mOp2, mCons, mCall, mTup, mLst, mTst, asB, mNot, mAnd, mOr, mAndV, mOrV, mIte, mSeq, sSq, sIf, sRet, sSet, sSetF, sNil, sFrz, frz, sExpr, sPar2, sPar3, sAsg, mkL, gNm, gTp, gCns, gNl, D.asT, itemsD, addD_int, subD_int, ltD_int, leD_int, gtD_int, geD_int, negD_int, gcdD_int, absD_int, Option.bind_some, Option.map_some, Option.bind_none, Option.map_none, List.map_cons, List.map_nil, List.length_cons, List.length_nil, List.cons_append, List.nil_append, List.getElem?_cons_zero, List.getElem?_cons_succ, List.set_cons_zero, List.set_cons_succ, List.replicate_succ, List.replicate_zero, Nat.reduceAdd, Nat.reduceSub, Nat.reduceLeDiff, if_true, if_false, ite_true, ite_false, Bool.false_eq_true, h.isi, Bool.not_true, h.len, neD_int, ne_eq, not_true_eq_false, decide_false, e2, ea', h.at0, h.at1, hd, decide_true, hg, eqD_int]
theorem vector_ev {x : D} {ps : List Rat} (hx : VecR x ps) (h1 : 1 ≤ ps.length) (h2 : ps.length ≤ 200) : f_is_vector [x] = some (.bl true) := by
  obtain ⟨ds, rfl, hr⟩ := hx.ex
  have hl : ds.length = ps.length := Paired.length hr
  have el := lcB (g := gNm 1) (m := mCall f_is_ratio (mCons (mVar 1) (mPure []))) (ρ := [some (.imm (.tup ds)), none]) (fun _ : Rat => true) hr fun d q hd hm => by
    refine ⟨_, rfl, ?_⟩
    simp only [runP, startL, outF, mVar, mVarB, mPure, mOp1, mOp2, mCons, mCall, mTup, mLst, mTst, asB, mNot, mAnd, mOr, mAndV, mOrV, mIte, mSeq, sSq, sIf, sRet, sSet, sSetF, sNil, sFrz, frz, sExpr, sPar2, sPar3, sAsg, mkL, gNm, gTp, gCns, gNl, D.asT, itemsD, addD_int, subD_int, ltD_int, leD_int, gtD_int, geD_int, negD_int, gcdD_int, absD_int, Option.bind_some, Option.map_some, Option.bind_none, Option.map_none, List.map_cons, List.map_nil, List.length_cons, List.length_nil, List.cons_append, List.nil_append, List.getElem?_cons_zero, List.getElem?_cons_succ, List.set_cons_zero, List.set_cons_succ, List.replicate_succ, List.replicate_zero, Nat.reduceAdd, Nat.reduceSub, Nat.reduceLeDiff, if_true, if_false, ite_true, ite_false, Bool.false_eq_true, ratio_ev hd]
  have ea := all_map (fun _ : Rat => true) ps
  have e3 : (ps.all fun _ => true) = true := by simp
  rw [e3] at ea
  have a1 : (1 : Int) ≤ (ps.length : Int) := by omega
  have a2 : (ps.length : Int) ≤ 200 := by omega
  simp only [runP, startL, outF, mVar, mVarB, mPure, mOp1, mOp2, mCons, mCall, mTup, mLst, mTst, asB, mNot, mAnd, mOr, mAndV, mOrV, mIte, mSeq, sSq, sIf, sRet, sSet, sSetF, sNil, sFrz, frz, sExpr, sPar2, sPar3, sAsg, mkL, gNm, gTp, gCns, gNl, D.asT, itemsD, addD_int, subD_int, ltD_int, leD_int, gtD_int, geD_int, negD_int, gcdD_int, absD_int, Option.bind_some, Option.map_some, Option.bind_none, Option.map_none, List.map_cons, List.map_nil, List.length_cons, List.length_nil, List.cons_append, List.nil_append, List.getElem?_cons_zero, List.getElem?_cons_succ, List.set_cons_zero, List.set_cons_succ, List.replicate_succ, List.replicate_zero, Nat.reduceAdd, Nat.reduceSub, Nat.reduceLeDiff, if_true, if_false, ite_true, ite_false, Bool.false_eq_true, f_is_vector, m_is_vector, isi_tt, mChn, len_items (d := .tup ds) rfl, hl, a1, a2, decide_true, mLc, wipeL, el, ea]
structure RowP (goods : Nat) (r : Row) : Prop where
  pl : r.1.length = goods
  ql : r.2.length = goods
  pp : ∀ q ∈ r.1, 0 < q
  qp : ∀ q ∈ r.2, 0 ≤ q
  q1 : ∃ q ∈ r.2, 0 < q
theorem budget_ev {d : D} {r : Row} {goods m : Nat} (hd : RowR d r) (hp : RowP goods r) (h1 : 1 ≤ goods) (h2 : goods ≤ 200) : f_is_budget [d, .int (m : Nat)] = some (.bl (decide (goods = m))) := by
  obtain ⟨x, y, rfl, hx, hy⟩ := hd
  have vx := vector_ev hx (by rw [hp.pl]; exact h1) (by rw [hp.pl]; exact h2)
  have vy := vector_ev hy (by rw [hp.ql]; exact h1) (by rw [hp.ql]; exact h2)
  obtain ⟨ds, rfl, hrx⟩ := hx.ex
  obtain ⟨es, rfl, hry⟩ := hy.ex
  have lx : ds.length = goods := (Paired.length hrx).trans hp.pl
  have ly : es.length = goods := (Paired.length hry).trans hp.ql
  have e1 : ∀ ρ : Lo, ρ = [some (.imm (.tup [.tup ds, .tup es])), some (.imm (.int (m : Nat))), none] → lcGo ρ (gNm 2) (mPure true) (mCall f_is_vector (mCons (mVar 2) (mPure []))) [.tup ds, .tup es] none = some ([.bl true, .bl true], none) := fun ρ h => by
    subst h
    unfold lcGo lcGo lcGo
    simp only [runP, startL, outF, mVar, mVarB, mPure, mOp1, mOp2, mCons, mCall, mTup, mLst, mTst, asB, mNot, mAnd, mOr, mAndV, mOrV, mIte, mSeq, sSq, sIf, sRet, sSet, sSetF, sNil, sFrz, frz, sExpr, sPar2, sPar3, sAsg, mkL, gNm, gTp, gCns, gNl, D.asT, itemsD, addD_int, subD_int, ltD_int, leD_int, gtD_int, geD_int, negD_int, gcdD_int, absD_int, Option.bind_some, Option.map_some, Option.bind_none, Option.map_none, List.map_cons, List.map_nil, List.length_cons, List.length_nil, List.cons_append, List.nil_append, List.getElem?_cons_zero, List.getElem?_cons_succ, List.set_cons_zero, List.set_cons_succ, List.replicate_succ, List.replicate_zero, Nat.reduceAdd, Nat.reduceSub, Nat.reduceLeDiff, if_true, if_false, ite_true, ite_false, Bool.false_eq_true, vx, vy]
  have e2 : ∀ ρ : Lo, ρ = [some (.imm (.tup [.tup ds, .tup es])), some (.imm (.int (m : Nat))), none] → lcGo ρ (gNm 2) (mPure true) (mOp2 eqD (mCall lenD (mCons (mVarB 2) (mPure []))) (mVarB 1)) [.tup ds, .tup es] none = some ([.bl (decide ((goods : Int) = m)), .bl (decide ((goods : Int) = m))], none) := fun ρ h => by
    subst h
    unfold lcGo lcGo lcGo
    simp only [runP, startL, outF, mVar, mVarB, mPure, mOp1, mOp2, mCons, mCall, mTup, mLst, mTst, asB, mNot, mAnd, mOr, mAndV, mOrV, mIte, mSeq, sSq, sIf, sRet, sSet, sSetF, sNil, sFrz, frz, sExpr, sPar2, sPar3, sAsg, mkL, gNm, gTp, gCns, gNl, D.asT, itemsD, addD_int, subD_int, ltD_int, leD_int, gtD_int, geD_int, negD_int, gcdD_int, absD_int, Option.bind_some, Option.map_some, Option.bind_none, Option.map_none, List.map_cons, List.map_nil, List.length_cons, List.length_nil, List.cons_append, List.nil_append, List.getElem?_cons_zero, List.getElem?_cons_succ, List.set_cons_zero, List.set_cons_succ, List.replicate_succ, List.replicate_zero, Nat.reduceAdd, Nat.reduceSub, Nat.reduceLeDiff, if_true, if_false, ite_true, ite_false, Bool.false_eq_true, len_items (d := .tup ds) rfl, len_items (d := .tup es) rfl, lx, ly, eqD_int]
  have a1 : allD [.lst [.bl true, .bl true]] = some (.bl true) := rfl
  have a2 : ∀ b, allD [.lst [.bl b, .bl b]] = some (.bl b) := fun b => by cases b <;> rfl
  have l2 : lenD [.tup [.tup ds, .tup es]] = some (.int 2) := rfl
  have i0 : ixD (.tup [.tup ds, .tup es]) (.int 0) = some (.tup ds) := rfl
  have i1 : ixD (.tup [.tup ds, .tup es]) (.int 1) = some (.tup es) := rfl
  have e3 := lcB (g := gNm 2) (m := mOp2 gtD (mOp2 ixD (mVarB 2) (mPure (.int 0))) (mPure (.int 0))) (ρ := [some (.imm (.tup [.tup ds, .tup es])), some (.imm (.int (m : Nat))), none]) (fun q : Rat => decide (0 < q.num)) hrx fun d q hd hm => by
    refine ⟨_, rfl, ?_⟩
    simp only [runP, startL, outF, mVar, mVarB, mPure, mOp1, mOp2, mCons, mCall, mTup, mLst, mTst, asB, mNot, mAnd, mOr, mAndV, mOrV, mIte, mSeq, sSq, sIf, sRet, sSet, sSetF, sNil, sFrz, frz, sExpr, sPar2, sPar3, sAsg, mkL, gNm, gTp, gCns, gNl, D.asT, itemsD, addD_int, subD_int, ltD_int, leD_int, gtD_int, geD_int, negD_int, gcdD_int, absD_int, Option.bind_some, Option.map_some, Option.bind_none, Option.map_none, List.map_cons, List.map_nil, List.length_cons, List.length_nil, List.cons_append, List.nil_append, List.getElem?_cons_zero, List.getElem?_cons_succ, List.set_cons_zero, List.set_cons_succ, List.replicate_succ, List.replicate_zero, Nat.reduceAdd, Nat.reduceSub, Nat.reduceLeDiff, if_true, if_false, ite_true, ite_false, Bool.false_eq_true, hd.at0]
  have e4 := lcB (g := gNm 2) (m := mOp2 geD (mOp2 ixD (mVarB 2) (mPure (.int 0))) (mPure (.int 0))) (ρ := [some (.imm (.tup [.tup ds, .tup es])), some (.imm (.int (m : Nat))), none]) (fun q : Rat => decide (0 ≤ q.num)) hry fun d q hd hm => by
    refine ⟨_, rfl, ?_⟩
    simp only [runP, startL, outF, mVar, mVarB, mPure, mOp1, mOp2, mCons, mCall, mTup, mLst, mTst, asB, mNot, mAnd, mOr, mAndV, mOrV, mIte, mSeq, sSq, sIf, sRet, sSet, sSetF, sNil, sFrz, frz, sExpr, sPar2, sPar3, sAsg, mkL, gNm, gTp, gCns, gNl, D.asT, itemsD, addD_int, subD_int, ltD_int, leD_int, gtD_int, geD_int, negD_int, gcdD_int, absD_int, Option.bind_some, Option.map_some, Option.bind_none, Option.map_none, List.map_cons, List.map_nil, List.length_cons, List.length_nil, List.cons_append, List.nil_append, List.getElem?_cons_zero, List.getElem?_cons_succ, List.set_cons_zero, List.set_cons_succ, List.replicate_succ, List.replicate_zero, Nat.reduceAdd, Nat.reduceSub, Nat.reduceLeDiff, if_true, if_false, ite_true, ite_false, Bool.false_eq_true, hd.at0]
  have e5 := lcB (g := gNm 2) (m := mOp2 gtD (mOp2 ixD (mVarB 2) (mPure (.int 0))) (mPure (.int 0))) (ρ := [some (.imm (.tup [.tup ds, .tup es])), some (.imm (.int (m : Nat))), none]) (fun q : Rat => decide (0 < q.num)) hry fun d q hd hm => by
    refine ⟨_, rfl, ?_⟩
    simp only [runP, startL, outF, mVar, mVarB, mPure, mOp1, mOp2, mCons, mCall, mTup, mLst, mTst, asB, mNot, mAnd, mOr, mAndV, mOrV, mIte, mSeq, sSq, sIf, sRet, sSet, sSetF, sNil, sFrz, frz, sExpr, sPar2, sPar3, sAsg, mkL, gNm, gTp, gCns, gNl, D.asT, itemsD, addD_int, subD_int, ltD_int, leD_int, gtD_int, geD_int, negD_int, gcdD_int, absD_int, Option.bind_some, Option.map_some, Option.bind_none, Option.map_none, List.map_cons, List.map_nil, List.length_cons, List.length_nil, List.cons_append, List.nil_append, List.getElem?_cons_zero, List.getElem?_cons_succ, List.set_cons_zero, List.set_cons_succ, List.replicate_succ, List.replicate_zero, Nat.reduceAdd, Nat.reduceSub, Nat.reduceLeDiff, if_true, if_false, ite_true, ite_false, Bool.false_eq_true, hd.at0]
  have c3 : (r.1.all fun q => decide (0 < q.num)) = true := List.all_eq_true.mpr fun q hq => decide_eq_true (num_pos (hp.pp q hq))
  have c4 : (r.2.all fun q => decide (0 ≤ q.num)) = true := List.all_eq_true.mpr fun q hq => decide_eq_true (num_nonneg (hp.qp q hq))
  have c5 : (r.2.any fun q => decide (0 < q.num)) = true := by
    obtain ⟨q, hq, h⟩ := hp.q1
    exact List.any_eq_true.mpr ⟨q, hq, decide_eq_true (num_pos h)⟩
  have f3 := all_map (fun q : Rat => decide (0 < q.num)) r.1
  have f4 := all_map (fun q : Rat => decide (0 ≤ q.num)) r.2
  have f5 := any_map (fun q : Rat => decide (0 < q.num)) r.2
  rw [c3] at f3
  rw [c4] at f4
  rw [c5] at f5
  by_cases hgm : goods = m
  · subst hgm
    simp only [runP, startL, outF, mVar, mVarB, mPure, mOp1, mOp2, mCons, mCall, mTup, mLst, mTst, asB, mNot, mAnd, mOr, mAndV, mOrV, mIte, mSeq, sSq, sIf, sRet, sSet, sSetF, sNil, sFrz, frz, sExpr, sPar2, sPar3, sAsg, mkL, gNm, gTp, gCns, gNl, D.asT, itemsD, addD_int, subD_int, ltD_int, leD_int, gtD_int, geD_int, negD_int, gcdD_int, absD_int, Option.bind_some, Option.map_some, Option.bind_none, Option.map_none, List.map_cons, List.map_nil, List.length_cons, List.length_nil, List.cons_append, List.nil_append, List.getElem?_cons_zero, List.getElem?_cons_succ, List.set_cons_zero, List.set_cons_succ, List.replicate_succ, List.replicate_zero, Nat.reduceAdd, Nat.reduceSub, Nat.reduceLeDiff, if_true, if_false, ite_true, ite_false, Bool.false_eq_true, f_is_budget, m_is_budget, isi_tt, Bool.not_true, l2, neD_int, ne_eq, not_true_eq_false, decide_false, mLc, wipeL, e1 _ rfl, a1, e2 _ rfl, a2, decide_true, i0, i1, e3, f3, e4, f4, e5, f5]
  · have hgm' : ¬ ((goods : Int) = (m : Int)) := by omega
    simp only [runP, startL, outF, mVar, mVarB, mPure, mOp1, mOp2, mCons, mCall, mTup, mLst, mTst, asB, mNot, mAnd, mOr, mAndV, mOrV, mIte, mSeq, sSq, sIf, sRet, sSet, sSetF, sNil, sFrz, frz, sExpr, sPar2, sPar3, sAsg, mkL, gNm, gTp, gCns, gNl, D.asT, itemsD, addD_int, subD_int, ltD_int, leD_int, gtD_int, geD_int, negD_int, gcdD_int, absD_int, Option.bind_some, Option.map_some, Option.bind_none, Option.map_none, List.map_cons, List.map_nil, List.length_cons, List.length_nil, List.cons_append, List.nil_append, List.getElem?_cons_zero, List.getElem?_cons_succ, List.set_cons_zero, List.set_cons_succ, List.replicate_succ, List.replicate_zero, Nat.reduceAdd, Nat.reduceSub, Nat.reduceLeDiff, if_true, if_false, ite_true, ite_false, Bool.false_eq_true, f_is_budget, m_is_budget, isi_tt, Bool.not_true, l2, neD_int, ne_eq, not_true_eq_false, decide_false, mLc, wipeL, e1 _ rfl, a1, e2 _ rfl, a2, hgm', hgm, Bool.not_false]
theorem sh_bud : SeqAt.shaped (.str "budgets") = true := by decide +kernel
theorem sh_some : SeqAt.shaped (.str "some") = true := by decide +kernel
theorem sh_ring : SeqAt.shaped (.str "ring") = true := by decide +kernel
theorem ne_bud : neD (.str "budgets") (.str "budgets") = some (.bl false) := by
  rw [str_ne sh_bud sh_bud]; simp
structure BudR (x : D) (rs : List Row) (goods : Nat) : Prop where
  ex : ∃ rds, x = .tup [.str "budgets", .tup rds] ∧ Paired RowR rds rs
  l1 : 1 ≤ rs.length
  l8 : rs.length ≤ 8
  rp : ∀ r ∈ rs, RowP goods r
  g2 : 2 ≤ goods
  g4 : goods ≤ 4
theorem budgets_of_ev {x : D} {rs : List Row} {goods : Nat} (h : BudR x rs goods) (m : Nat) : f_are_budgets_of [x, .int (m : Nat)] = some (.bl (decide (goods = m))) := by
  obtain ⟨rds, rfl, hr⟩ := h.ex
  have hl : rds.length = rs.length := Paired.length hr
  have el := lcB (g := gNm 2) (m := mCall f_is_budget (mCons (mVar 2) (mCons (mVar 1) (mPure [])))) (ρ := [some (.imm (.tup [.str "budgets", .tup rds])), some (.imm (.int (m : Nat))), none]) (fun _ : Row => decide (goods = m)) hr fun d r hd hm => by
    refine ⟨_, rfl, ?_⟩
    have := h.g2
    have := h.g4
    simp only [runP, startL, outF, mVar, mVarB, mPure, mOp1, mOp2, mCons, mCall, mTup, mLst, mTst, asB, mNot, mAnd, mOr, mAndV, mOrV, mIte, mSeq, sSq, sIf, sRet, sSet, sSetF, sNil, sFrz, frz, sExpr, sPar2, sPar3, sAsg, mkL, gNm, gTp, gCns, gNl, D.asT, itemsD, addD_int, subD_int, ltD_int, leD_int, gtD_int, geD_int, negD_int, gcdD_int, absD_int, Option.bind_some, Option.map_some, Option.bind_none, Option.map_none, List.map_cons, List.map_nil, List.length_cons, List.length_nil, List.cons_append, List.nil_append, List.getElem?_cons_zero, List.getElem?_cons_succ, List.set_cons_zero, List.set_cons_succ, List.replicate_succ, List.replicate_zero, Nat.reduceAdd, Nat.reduceSub, Nat.reduceLeDiff, if_true, if_false, ite_true, ite_false, Bool.false_eq_true, budget_ev hd (h.rp r hm) (by omega) (by omega)]
  have ea := all_map (fun _ : Row => decide (goods = m)) rs
  have e3 : (rs.all fun _ => decide (goods = m)) = decide (goods = m) := by
    cases rs with
    | nil => have := h.l1; simp at this
    | cons a l => by_cases e : goods = m <;> simp [e]
  rw [e3] at ea
  have l2 : lenD [.tup [.str "budgets", .tup rds]] = some (.int 2) := rfl
  have i0 : ixD (.tup [.str "budgets", .tup rds]) (.int 0) = some (.str "budgets") := rfl
  have i1 : ixD (.tup [.str "budgets", .tup rds]) (.int 1) = some (.tup rds) := rfl
  have := h.l1
  have := h.l8
  have a1 : (1 : Int) ≤ (rs.length : Int) := by omega
  have a2 : (rs.length : Int) ≤ 8 := by omega
  simp only [runP, startL, outF, mVar, mVarB, mPure, mOp1, mOp2, mCons, mCall, mTup, mLst, mTst, asB, mNot, mAnd, mOr, mAndV, mOrV, mIte, mSeq, sSq, sIf, sRet, sSet, sSetF, sNil, sFrz, frz, sExpr, sPar2, sPar3, sAsg, mkL, gNm, gTp, gCns, gNl, D.asT, itemsD, addD_int, subD_int, ltD_int, leD_int, gtD_int, geD_int, negD_int, gcdD_int, absD_int, Option.bind_some, Option.map_some, Option.bind_none, Option.map_none, List.map_cons, List.map_nil, List.length_cons, List.length_nil, List.cons_append, List.nil_append, List.getElem?_cons_zero, List.getElem?_cons_succ, List.set_cons_zero, List.set_cons_succ, List.replicate_succ, List.replicate_zero, Nat.reduceAdd, Nat.reduceSub, Nat.reduceLeDiff, if_true, if_false, ite_true, ite_false, Bool.false_eq_true, f_are_budgets_of, m_are_budgets_of, isi_tt, isi_ss, Bool.not_true, l2, neD_int, ne_bud, ne_eq, not_true_eq_false, decide_false, i0, i1, mChn, len_items (d := .tup rds) rfl, hl, a1, a2, decide_true, mLc, wipeL, el, ea]
theorem budgets_ev {x : D} {rs : List Row} {goods : Nat} (h : BudR x rs goods) : f_is_budgets [x] = some (.bl true) := by
  have e2 := budgets_of_ev h 2
  have e3 := budgets_of_ev h 3
  have e4 := budgets_of_ev h 4
  have el : lcGo [some (.imm x), none] (gNm 1) (mPure true) (mCall f_are_budgets_of (mCons (mVar 0) (mCons (mVar 1) (mPure [])))) [.int 2, .int 3, .int 4] none = some ([.bl (decide (goods = 2)), .bl (decide (goods = 3)), .bl (decide (goods = 4))], none) := by
    have e2 : f_are_budgets_of [x, .int 2] = _ := e2
    have e3 : f_are_budgets_of [x, .int 3] = _ := e3
    have e4 : f_are_budgets_of [x, .int 4] = _ := e4
    unfold lcGo lcGo lcGo lcGo
    simp only [runP, startL, outF, mVar, mVarB, mPure, mOp1, mOp2, mCons, mCall, mTup, mLst, mTst, asB, mNot, mAnd, mOr, mAndV, mOrV, mIte, mSeq, sSq, sIf, sRet, sSet, sSetF, sNil, sFrz, frz, sExpr, sPar2, sPar3, sAsg, mkL, gNm, gTp, gCns, gNl, D.asT, itemsD, addD_int, subD_int, ltD_int, leD_int, gtD_int, geD_int, negD_int, gcdD_int, absD_int, Option.bind_some, Option.map_some, Option.bind_none, Option.map_none, List.map_cons, List.map_nil, List.length_cons, List.length_nil, List.cons_append, List.nil_append, List.getElem?_cons_zero, List.getElem?_cons_succ, List.set_cons_zero, List.set_cons_succ, List.replicate_succ, List.replicate_zero, Nat.reduceAdd, Nat.reduceSub, Nat.reduceLeDiff, if_true, if_false, ite_true, ite_false, Bool.false_eq_true, e2, e3, e4]
  have er : mRg2 (mCons (mPure (.int 2)) (mCons (mOp2 addD (mPure (.int 4)) (mPure (.int 1))) (mPure []))) [some (.imm x), none] none = some ([.int 2, .int 3, .int 4], none) := rfl
  have ea : anyD [.lst [.bl (decide (goods = 2)), .bl (decide (goods = 3)), .bl (decide (goods = 4))]] = some (.bl true) := by
    have := h.g2
    have := h.g4
    have hg : goods = 2 ∨ goods = 3 ∨ goods = 4 := by omega
    rcases hg with rfl | rfl | rfl <;> rfl
  simp only [runP, startL, outF, mVar, mVarB, mPure, mOp1, mOp2, mCons, mCall, mTup, mLst, mTst, asB, mNot, mAnd, mOr, mAndV, mOrV, mIte, mSeq, sSq, sIf, sRet, sSet, sSetF, sNil, sFrz, frz, sExpr, sPar2, sPar3, sAsg, mkL, gNm, gTp, gCns, gNl, D.asT, itemsD, addD_int, subD_int, ltD_int, leD_int, gtD_int, geD_int, negD_int, gcdD_int, absD_int, Option.bind_some, Option.map_some, Option.bind_none, Option.map_none, List.map_cons, List.map_nil, List.length_cons, List.length_nil, List.cons_append, List.nil_append, List.getElem?_cons_zero, List.getElem?_cons_succ, List.set_cons_zero, List.set_cons_succ, List.replicate_succ, List.replicate_zero, Nat.reduceAdd, Nat.reduceSub, Nat.reduceLeDiff, if_true, if_false, ite_true, ite_false, Bool.false_eq_true, f_is_budgets, m_is_budgets, mLc, er, wipeL, el, ea]
theorem need_ev {x : D} {rs : List Row} {goods : Nat} (h : BudR x rs goods) : f_need_budgets [x] = some .non := by
  simp only [runP, startL, outF, mVar, mVarB, mPure, mOp1, mOp2, mCons, mCall, mTup, mLst, mTst, asB, mNot, mAnd, mOr, mAndV, mOrV, mIte, mSeq, sSq, sIf, sRet, sSet, sSetF, sNil, sFrz, frz, sExpr, sPar2, sPar3, sAsg, mkL, gNm, gTp, gCns, gNl, D.asT, itemsD, addD_int, subD_int, ltD_int, leD_int, gtD_int, geD_int, negD_int, gcdD_int, absD_int, Option.bind_some, Option.map_some, Option.bind_none, Option.map_none, List.map_cons, List.map_nil, List.length_cons, List.length_nil, List.cons_append, List.nil_append, List.getElem?_cons_zero, List.getElem?_cons_succ, List.set_cons_zero, List.set_cons_succ, List.replicate_succ, List.replicate_zero, Nat.reduceAdd, Nat.reduceSub, Nat.reduceLeDiff, if_true, if_false, ite_true, ite_false, Bool.false_eq_true, f_need_budgets, m_need_budgets, budgets_ev h, Bool.not_true]
/-! ### rows, costs -/
/-- what a row's numbers are in size -/
structure RowB (r : Row) : Prop where
  p0 : r.1 ≠ []
  q0 : r.2 ≠ []
  p4 : r.1.length ≤ 4
  pb : ∀ q ∈ r.1, InD 2 12 q
  qb : ∀ q ∈ r.2, InD 2 12 q
theorem RowB.ps {r : Row} (h : RowB r) : ∀ q ∈ r.1, Sz 4 q := fun q hq => sz_of (h.pb q hq) (by decide) (by decide) (by decide)
theorem RowB.qs {r : Row} (h : RowB r) : ∀ q ∈ r.2, Sz 4 q := fun q hq => sz_of (h.qb q hq) (by decide) (by decide) (by decide)
def cst (r s : Row) : Rat := rdot r.1 s.2
theorem cst_in {r s : Row} (hr : RowB r) (hs : RowB s) : InD 4 576 (cst r s) :=
  (rdot_in (by decide) hr.pb hs.qb).mono (Nat.mul_le_mul_right 144 hr.p4)
theorem cst_sz {r s : Row} (hr : RowB r) (hs : RowB s) : Sz 10 (cst r s) := sz_of (cst_in hr hs) (by decide) (by decide) (by decide)
theorem cst_ev {r s : Row} {x y : D} (hx : VecR x r.1) (hy : VecR y s.2) (hr : RowB r) (hs : RowB s) : f_dot [x, y] = some (mk (cst r s)) :=
  dotz_ev hx hy hr.ps hs.qs hr.p4 (by decide) ⟨hr.p0, hs.q0⟩
theorem law_cst_ev {r s : Row} {x y : D} (hx : VecR x r.1) (hy : VecR y s.2) (hr : RowB r) (hs : RowB s) : f_law_dot [x, y] = some (mk (cst r s)) :=
  law_dotz_ev hx hy hr.ps hs.qs hr.p4 (by decide)
def costsT (rs : List Row) : D := .tup (rs.map fun r => .tup (rs.map fun s => mk (cst r s)))
def costsL (rs : List Row) : D := .lst (rs.map fun r => .lst (rs.map fun s => mk (cst r s)))
theorem tuple_lst (ds : List D) : tupleD [.lst ds] = some (.tup ds) := rfl
theorem costs_of_ev {rds : List D} {rs : List Row} (hr : Paired RowR rds rs) (hb : ∀ r ∈ rs, RowB r) : f_costs_of [.tup [.str "budgets", .tup rds]] = some (costsT rs) := by
  have i1 : ixD (.tup [.str "budgets", .tup rds]) (.int 1) = some (.tup rds) := rfl
  have el := lc_rel (g := gTp 2 (gCns (gNm 1) (gCns (gNm 2) gNl))) (t := mPure true) (m := mCall tupleD (mCons (mLc (mSeq (mOp2 ixD (mVarB 0) (mPure (.int 1)))) [3] (gNm 3) (mPure true) (mCall f_dot (mCons (mVar 1) (mCons (mOp2 ixD (mVarB 3) (mPure (.int 1))) (mPure []))))) (mPure []))) (S := none) (ρ := [some (.imm (.tup [.str "budgets", .tup rds])), none, none, none])
    (fun r : Row => .tup (rs.map fun s => mk (cst r s))) hr fun d r hd hm => by
      obtain ⟨x, y, rfl, hx, hy⟩ := hd
      have e2 := lc_rel (g := gNm 3) (t := mPure true) (m := mCall f_dot (mCons (mVar 1) (mCons (mOp2 ixD (mVarB 3) (mPure (.int 1))) (mPure [])))) (S := none) (ρ := [some (.imm (.tup [.str "budgets", .tup rds])), some (.imm x), some (.imm y), none])
        (fun s : Row => mk (cst r s)) hr fun d s hd hm2 => by
          obtain ⟨u, v, rfl, hu, hv⟩ := hd
          have e := cst_ev hx hv (hb r hm) (hb s hm2)
          have j1 : ixD (.tup [u, v]) (.int 1) = some v := rfl
          refine ⟨[some (.imm (.tup [.str "budgets", .tup rds])), some (.imm x), some (.imm y), some (.imm (.tup [u, v]))], rfl, rfl, ?_⟩
          simp only [runP, startL, outF, mVar, mVarB, mPure, mOp1, mOp2, mCons, mCall, mTup, mLst, mTst, asB, mNot, mAnd, mOr, mAndV, mOrV, mIte, mSeq, sSq, sIf, sRet, sSet, sSetF, sNil, sFrz, frz, sExpr, sPar2, sPar3, sAsg, mkL, gNm, gTp, gCns, gNl, D.asT, itemsD, addD_int, subD_int, ltD_int, leD_int, gtD_int, geD_int, negD_int, gcdD_int, absD_int, Option.bind_some, Option.map_some, Option.bind_none, Option.map_none, List.map_cons, List.map_nil, List.length_cons, List.length_nil, List.cons_append, List.nil_append, List.getElem?_cons_zero, List.getElem?_cons_succ, List.set_cons_zero, List.set_cons_succ, List.replicate_succ, List.replicate_zero, Nat.reduceAdd, Nat.reduceSub, Nat.reduceLeDiff, if_true, if_false, ite_true, ite_false, Bool.false_eq_true, j1, e]
      refine ⟨[some (.imm (.tup [.str "budgets", .tup rds])), some (.imm x), some (.imm y), none], rfl, rfl, ?_⟩
      simp only [runP, startL, outF, mVar, mVarB, mPure, mOp1, mOp2, mCons, mCall, mTup, mLst, mTst, asB, mNot, mAnd, mOr, mAndV, mOrV, mIte, mSeq, sSq, sIf, sRet, sSet, sSetF, sNil, sFrz, frz, sExpr, sPar2, sPar3, sAsg, mkL, gNm, gTp, gCns, gNl, D.asT, itemsD, addD_int, subD_int, ltD_int, leD_int, gtD_int, geD_int, negD_int, gcdD_int, absD_int, Option.bind_some, Option.map_some, Option.bind_none, Option.map_none, List.map_cons, List.map_nil, List.length_cons, List.length_nil, List.cons_append, List.nil_append, List.getElem?_cons_zero, List.getElem?_cons_succ, List.set_cons_zero, List.set_cons_succ, List.replicate_succ, List.replicate_zero, Nat.reduceAdd, Nat.reduceSub, Nat.reduceLeDiff, if_true, if_false, ite_true, ite_false, Bool.false_eq_true, mLc, i1, wipeL, e2, tuple_lst]
  simp only [runP, startL, outF, mVar, mVarB, mPure, mOp1, mOp2, mCons, mCall, mTup, mLst, mTst, asB, mNot, mAnd, mOr, mAndV, mOrV, mIte, mSeq, sSq, sIf, sRet, sSet, sSetF, sNil, sFrz, frz, sExpr, sPar2, sPar3, sAsg, mkL, gNm, gTp, gCns, gNl, D.asT, itemsD, addD_int, subD_int, ltD_int, leD_int, gtD_int, geD_int, negD_int, gcdD_int, absD_int, Option.bind_some, Option.map_some, Option.bind_none, Option.map_none, List.map_cons, List.map_nil, List.length_cons, List.length_nil, List.cons_append, List.nil_append, List.getElem?_cons_zero, List.getElem?_cons_succ, List.set_cons_zero, List.set_cons_succ, List.replicate_succ, List.replicate_zero, Nat.reduceAdd, Nat.reduceSub, Nat.reduceLeDiff, if_true, if_false, ite_true, ite_false, Bool.false_eq_true, f_costs_of, m_costs_of, mLc, i1, wipeL, el, tuple_lst, costsT]
theorem law_costs_ev {rds : List D} {rs : List Row} (hr : Paired RowR rds rs) (hb : ∀ r ∈ rs, RowB r) : f_law_ds_costs [.tup [.str "budgets", .tup rds]] = some (costsL rs) := by
  have i1 : ixD (.tup [.str "budgets", .tup rds]) (.int 1) = some (.tup rds) := rfl
  have el := lc_rel (g := gNm 1) (t := mPure true) (m := mLc (mSeq (mOp2 ixD (mVarB 0) (mPure (.int 1)))) [2] (gNm 2) (mPure true) (mCall f_law_dot (mCons (mOp2 ixD (mVarB 1) (mPure (.int 0))) (mCons (mOp2 ixD (mVarB 2) (mPure (.int 1))) (mPure []))))) (S := none) (ρ := [some (.imm (.tup [.str "budgets", .tup rds])), none, none])
    (fun r : Row => .lst (rs.map fun s => mk (cst r s))) hr fun d r hd hm => by
      obtain ⟨x, y, rfl, hx, hy⟩ := hd
      have j0 : ixD (.tup [x, y]) (.int 0) = some x := rfl
      have e2 := lc_rel (g := gNm 2) (t := mPure true) (m := mCall f_law_dot (mCons (mOp2 ixD (mVarB 1) (mPure (.int 0))) (mCons (mOp2 ixD (mVarB 2) (mPure (.int 1))) (mPure [])))) (S := none) (ρ := [some (.imm (.tup [.str "budgets", .tup rds])), some (.imm (.tup [x, y])), none])
        (fun s : Row => mk (cst r s)) hr fun d s hd hm2 => by
          obtain ⟨u, v, rfl, hu, hv⟩ := hd
          have e := law_cst_ev hx hv (hb r hm) (hb s hm2)
          have j1 : ixD (.tup [u, v]) (.int 1) = some v := rfl
          refine ⟨[some (.imm (.tup [.str "budgets", .tup rds])), some (.imm (.tup [x, y])), some (.imm (.tup [u, v]))], rfl, rfl, ?_⟩
          simp only [runP, startL, outF, mVar, mVarB, mPure, mOp1, mOp2, mCons, mCall, mTup, mLst, mTst, asB, mNot, mAnd, mOr, mAndV, mOrV, mIte, mSeq, sSq, sIf, sRet, sSet, sSetF, sNil, sFrz, frz, sExpr, sPar2, sPar3, sAsg, mkL, gNm, gTp, gCns, gNl, D.asT, itemsD, addD_int, subD_int, ltD_int, leD_int, gtD_int, geD_int, negD_int, gcdD_int, absD_int, Option.bind_some, Option.map_some, Option.bind_none, Option.map_none, List.map_cons, List.map_nil, List.length_cons, List.length_nil, List.cons_append, List.nil_append, List.getElem?_cons_zero, List.getElem?_cons_succ, List.set_cons_zero, List.set_cons_succ, List.replicate_succ, List.replicate_zero, Nat.reduceAdd, Nat.reduceSub, Nat.reduceLeDiff, if_true, if_false, ite_true, ite_false, Bool.false_eq_true, j0, j1, e]
      refine ⟨[some (.imm (.tup [.str "budgets", .tup rds])), some (.imm (.tup [x, y])), none], rfl, rfl, ?_⟩
      simp only [runP, startL, outF, mVar, mVarB, mPure, mOp1, mOp2, mCons, mCall, mTup, mLst, mTst, asB, mNot, mAnd, mOr, mAndV, mOrV, mIte, mSeq, sSq, sIf, sRet, sSet, sSetF, sNil, sFrz, frz, sExpr, sPar2, sPar3, sAsg, mkL, gNm, gTp, gCns, gNl, D.asT, itemsD, addD_int, subD_int, ltD_int, leD_int, gtD_int, geD_int, negD_int, gcdD_int, absD_int, Option.bind_some, Option.map_some, Option.bind_none, Option.map_none, List.map_cons, List.map_nil, List.length_cons, List.length_nil, List.cons_append, List.nil_append, List.getElem?_cons_zero, List.getElem?_cons_succ, List.set_cons_zero, List.set_cons_succ, List.replicate_succ, List.replicate_zero, Nat.reduceAdd, Nat.reduceSub, Nat.reduceLeDiff, if_true, if_false, ite_true, ite_false, Bool.false_eq_true, mLc, i1, wipeL, e2]
  simp only [runP, startL, outF, mVar, mVarB, mPure, mOp1, mOp2, mCons, mCall, mTup, mLst, mTst, asB, mNot, mAnd, mOr, mAndV, mOrV, mIte, mSeq, sSq, sIf, sRet, sSet, sSetF, sNil, sFrz, frz, sExpr, sPar2, sPar3, sAsg, mkL, gNm, gTp, gCns, gNl, D.asT, itemsD, addD_int, subD_int, ltD_int, leD_int, gtD_int, geD_int, negD_int, gcdD_int, absD_int, Option.bind_some, Option.map_some, Option.bind_none, Option.map_none, List.map_cons, List.map_nil, List.length_cons, List.length_nil, List.cons_append, List.nil_append, List.getElem?_cons_zero, List.getElem?_cons_succ, List.set_cons_zero, List.set_cons_succ, List.replicate_succ, List.replicate_zero, Nat.reduceAdd, Nat.reduceSub, Nat.reduceLeDiff, if_true, if_false, ite_true, ite_false, Bool.false_eq_true, f_law_ds_costs, m_law_ds_costs, mLc, i1, wipeL, el, costsL]
theorem costs_ev {x : D} {rs : List Row} {goods : Nat} (h : BudR x rs goods) (hb : ∀ r ∈ rs, RowB r) : f_costs [x] = some (costsT rs) := by
  have hn := need_ev h
  obtain ⟨rds, rfl, hr⟩ := h.ex
  have e := costs_of_ev hr hb
  exact runP_rt rfl ((sSq_nx (expr_of (mCall_of (cons_of (ev_var rfl) rfl) hn))).trans (sRet_of (mCall_of (cons_of (ev_var rfl) rfl) e)))
/-- a table of ratios -/
def TabR (t : D) (n : Nat) (c : Nat → Nat → Rat) : Prop := ∀ i j, i < n → j < n → ∃ r, ixD t (.int (i : Nat)) = some r ∧ ixD r (.int (j : Nat)) = some (mk (c i j))
/-- the cost of a place -/
def co (rs : List Row) (i j : Nat) : Rat := match rs[i]?, rs[j]? with | some r, some s => cst r s | _, _ => 1
theorem tab_T (rs : List Row) : TabR (costsT rs) rs.length (co rs) := fun i j hi hj => by
  have ei : rs[i]? = some rs[i] := List.getElem?_eq_getElem hi
  have ej : rs[j]? = some rs[j] := List.getElem?_eq_getElem hj
  refine ⟨.tup (rs.map fun s => mk (cst rs[i] s)), ix_nat rfl (by rw [List.getElem?_map, ei]; rfl), ix_nat rfl (by rw [List.getElem?_map, ej]; simp only [co, ei, ej]; rfl)⟩
theorem tab_L (rs : List Row) : TabR (costsL rs) rs.length (co rs) := fun i j hi hj => by
  have ei : rs[i]? = some rs[i] := List.getElem?_eq_getElem hi
  have ej : rs[j]? = some rs[j] := List.getElem?_eq_getElem hj
  refine ⟨.lst (rs.map fun s => mk (cst rs[i] s)), ix_nat rfl (by rw [List.getElem?_map, ei]; rfl), ix_nat rfl (by rw [List.getElem?_map, ej]; simp only [co, ei, ej]; rfl)⟩
theorem co_sz {rs : List Row} (hb : ∀ r ∈ rs, RowB r) (i j : Nat) : Sz 10 (co rs i j) := by
  unfold co
  split
  · rename_i r s e1 e2
    exact cst_sz (hb r (List.mem_of_getElem? e1)) (hb s (List.mem_of_getElem? e2))
  · exact sz_one.mono (by omega)
theorem rsum_nonneg : ∀ {l : List Rat}, (∀ q ∈ l, 0 ≤ q) → 0 ≤ rsum l
  | [], _ => Rat.le_refl
  | x :: l, h => by
    rw [rsum_cons]
    exact Rat.add_nonneg (h x List.mem_cons_self) (rsum_nonneg fun q hq => h q (List.mem_cons_of_mem _ hq))
theorem rdot_nonneg {p q : List Rat} (hp : ∀ a ∈ p, 0 ≤ a) (hq : ∀ a ∈ q, 0 ≤ a) : 0 ≤ rdot p q := rsum_nonneg fun z hz => by
  obtain ⟨⟨a, b⟩, hm, rfl⟩ := List.mem_map.mp hz
  exact Rat.mul_nonneg (hp a (List.of_mem_zip hm).1) (hq b (List.of_mem_zip hm).2)
theorem rdot_cons (a b : Rat) (p q : List Rat) : rdot (a :: p) (b :: q) = a * b + rdot p q := by
  unfold rdot
  rw [List.zip_cons_cons, List.map_cons, rsum_cons]
theorem rdot_pos : ∀ {p q : List Rat}, p.length = q.length → (∀ a ∈ p, 0 < a) → (∀ a ∈ q, 0 ≤ a) → (∃ a ∈ q, 0 < a) → 0 < rdot p q
  | [], [], _, _, _, h => by obtain ⟨a, h, _⟩ := h; cases h
  | [], _ :: _, h, _, _, _ => by simp at h
  | _ :: _, [], h, _, _, _ => by simp at h
  | a :: p, b :: q, hl, hp, hq, hx => by
    rw [rdot_cons]
    have ha := hp a List.mem_cons_self
    have hb := hq b List.mem_cons_self
    have hr := rdot_nonneg (p := p) (q := q) (fun c hc => Rat.le_of_lt (hp c (List.mem_cons_of_mem _ hc))) fun c hc => hq c (List.mem_cons_of_mem _ hc)
    (obtain ⟨c, hc, h0⟩ := hx); rcases List.mem_cons.mp hc with rfl | hc
    · have := Rat.mul_pos ha h0
      grind
    · have h1 := rdot_pos (p := p) (q := q) (by simpa using hl) (fun c hc => hp c (List.mem_cons_of_mem _ hc)) (fun c hc => hq c (List.mem_cons_of_mem _ hc)) ⟨c, hc, h0⟩
      have h2 := Rat.mul_nonneg (Rat.le_of_lt ha) hb
      grind
theorem cst_pos {goods : Nat} {r s : Row} (hr : RowP goods r) (hs : RowP goods s) : 0 < cst r s :=
  rdot_pos (by rw [hr.pl, hs.ql]) hr.pp hs.qp hs.q1
theorem co_pos {goods : Nat} {rs : List Row} (h : ∀ r ∈ rs, RowP goods r) (i j : Nat) : 0 < co rs i j := by
  unfold co
  split
  · rename_i r s e1 e2
    exact cst_pos (h r (List.mem_of_getElem? e1)) (h s (List.mem_of_getElem? e2))
  · decide
end K35
namespace Dv
open PySem PyProof.Rows L2
/-- data that can be compared, no deeper than n -/
def DP (n : Nat) (d : D) : Prop := ∃ p, toP d = some p ∧ p.canLay0 = true ∧ p.depth ≤ n
def DPs (n : Nat) (ds : List D) : Prop := ∃ ps, toPs ds = some ps ∧ PyData.canLayAll0 ps = true ∧ PyData.depthAll ps ≤ n
theorem DP.mono {n m : Nat} {d : D} (h : DP n d) (l : n ≤ m) : DP m d := let ⟨p, a, b, c⟩ := h; ⟨p, a, b, Nat.le_trans c l⟩
theorem dp_int (n : Nat) (i : Int) : DP n (.int i) := ⟨_, rfl, rfl, Nat.zero_le _⟩
theorem dp_bl (n : Nat) (b : Bool) : DP n (.bl b) := ⟨_, rfl, rfl, Nat.zero_le _⟩
theorem dp_non (n : Nat) : DP n .non := ⟨_, rfl, rfl, Nat.zero_le _⟩
theorem dp_str (n : Nat) {x : Str} (h : SeqAt.shaped (.str x) = true) : DP n (.str x) := ⟨_, rfl, SeqAt.canLay_of_shaped h, Nat.zero_le _⟩
theorem dps_of {n : Nat} : ∀ {ds : List D}, (∀ d ∈ ds, DP n d) → DPs n ds
  | [], _ => ⟨[], rfl, rfl, Nat.zero_le _⟩
  | d :: ds, h => by
    obtain ⟨p, a, b, c⟩ := h d List.mem_cons_self
    obtain ⟨ps, a', b', c'⟩ := dps_of (ds := ds) fun e he => h e (List.mem_cons_of_mem _ he)
    refine ⟨p :: ps, by simp only [toPs, a, a']; rfl, by simp [PyData.canLayAll0, b, b'], ?_⟩
    simp only [PyData.depthAll]
    omega
theorem dp_tup {n : Nat} {ds : List D} (h : ∀ d ∈ ds, DP n d) : DP (n + 1) (.tup ds) := by
  obtain ⟨ps, a, b, c⟩ := dps_of h
  exact ⟨.tuple ps, by simp only [toP, a]; rfl, by simpa [PyData.canLay0] using b, by simp only [PyData.depth]; omega⟩
theorem dp_kt {n : Nat} {ds : List D} (h : ∀ d ∈ ds, DP n d) : DP (n + 1) (.kt ds) := by
  obtain ⟨ps, a, b, c⟩ := dps_of h
  exact ⟨.tuple ps, by simp only [toP, a]; rfl, by simpa [PyData.canLay0] using b, by simp only [PyData.depth]; omega⟩
theorem dp_lst {n : Nat} {ds : List D} (h : ∀ d ∈ ds, DP n d) : DP (n + 1) (.lst ds) := by
  obtain ⟨ps, a, b, c⟩ := dps_of h
  exact ⟨.list ps, by simp only [toP, a]; rfl, by simpa [PyData.canLay0] using b, by simp only [PyData.depth]; omega⟩
theorem DP.shaped {n : Nat} {d : D} (h : DP n d) (hn : n ≤ 64) : ∃ p, toP d = some p ∧ SeqAt.shaped p = true := by
  obtain ⟨p, a, b, c⟩ := h
  refine ⟨p, a, ?_⟩
  show (p.canLay0 && decide (p.depth ≤ 64)) = true
  rw [b, decide_eq_true (by omega : p.depth ≤ 64)]; rfl
theorem eq_dp {n : Nat} {x y : D} (hx : DP n x) (hy : DP n y) (hn : n ≤ 64) : ∃ p q, toP x = some p ∧ toP y = some q ∧ eqD x y = some (.bl (PyData.eqv p q)) ∧ neD x y = some (.bl (!PyData.eqv p q)) := by
  obtain ⟨p, a, b⟩ := hx.shaped hn
  obtain ⟨q, a', b'⟩ := hy.shaped hn
  refine ⟨p, q, a, a', ?_, ?_⟩
  · unfold eqD; simp only [a, a', b, b']; rfl
  · unfold neD; simp only [a, a', b, b']; rfl
theorem toPs_nil {ds : List D} (h : toPs ds = some []) : ds = [] := by
  cases ds with
  | nil => rfl
  | cons d ds =>
    simp only [toPs] at h
    cases h1 : toP d <;> cases h2 : toPs ds <;> simp [h1, h2] at h
theorem eq_lst_nil {n : Nat} {ds : List D} (h : ∀ d ∈ ds, DP n d) (hn : n < 64) : eqD (.lst ds) (.lst []) = some (.bl (decide (ds = []))) ∧ neD (.lst ds) (.lst []) = some (.bl (decide (ds ≠ []))) := by
  obtain ⟨p, q, a, b, e1, e2⟩ := eq_dp (n := n + 1) (dp_lst h) (dp_lst (ds := []) (n := n) (fun _ h => by cases h)) (by omega)
  obtain ⟨ps, e3, _, _⟩ := dps_of h
  simp only [toP, e3, Option.map_some, Option.some.injEq] at a
  simp only [toP, toPs, Option.map_some, Option.some.injEq] at b
  subst a b
  rw [e1, e2]
  cases ps with
  | nil => rw [toPs_nil e3]; simp [PyData.eqv, PyData.eqvAll]
  | cons p ps =>
    have : ds ≠ [] := fun z => by subst z; simp [toPs] at e3
    simp [PyData.eqv, PyData.eqvAll, this]
end Dv
namespace Dv
open PySem PyProof.Rows L2
/-- a while that goes down -/
theorem while_run {β : Type} {t : MT} {m : MS} {S : Sg} (Inv : β → Lo → Prop) (μ : β → Nat) (Done : Lo → Prop)
    (h : ∀ b ρ, Inv b ρ → (t ρ S = some (false, S) ∧ Done ρ) ∨ (t ρ S = some (true, S) ∧ ∃ fl ρ' b', m ρ S = some (fl, ρ', S) ∧ (fl = .nx ∨ fl = .ct) ∧ Inv b' ρ' ∧ μ b' < μ b)) : ∀ b ρ, Inv b ρ → ∃ ρ', sWh t m ρ S = some (.nx, ρ', S) ∧ Done ρ' := by
  have key : ∀ (N : Nat) b ρ, μ b ≤ N → Inv b ρ → ∃ k ρ', whN t m k ρ S = some (.nx, ρ', S) ∧ Done ρ' := by
    intro N
    induction N with
    | zero =>
      intro b ρ hN hi
      rcases h b ρ hi with ⟨e, d⟩ | ⟨e, fl, ρ', b', e2, hf, i', l⟩
      · refine ⟨1, ρ, ?_, d⟩
        unfold whN; rw [e]; rfl
      · omega
    | succ N ih =>
      intro b ρ hN hi
      rcases h b ρ hi with ⟨e, d⟩ | ⟨e, fl, ρ', b', e2, hf, i', l⟩
      · refine ⟨1, ρ, ?_, d⟩
        unfold whN; rw [e]; rfl
      · obtain ⟨k, ρ2, e3, d⟩ := ih b' ρ' (by omega) i'
        refine ⟨k + 1, ρ2, ?_, d⟩
        unfold whN; rw [e]
        simp only [Option.bind_some, if_true]
        rw [e2]
        rcases hf with rfl | rfl <;> exact e3
  intro b ρ hi
  obtain ⟨k, ρ', e, d⟩ := key (μ b) b ρ (Nat.le_refl _) hi
  exact ⟨ρ', sWh_of e, d⟩
theorem ints_nil {l : List Nat} : neD (.lst (l.map fun i : Nat => D.int (i : Int))) (.lst []) = some (.bl (decide (l ≠ []))) := by
  have h := (eq_lst_nil (n := 0) (ds := l.map fun i : Nat => D.int (i : Int)) (fun d hd => by
    obtain ⟨i, _, rfl⟩ := List.mem_map.mp hd
    exact dp_int _ _) (by omega)).2
  rw [h]
  have : (l.map fun i : Nat => D.int (i : Int)) ≠ [] ↔ l ≠ [] := by rw [ne_eq, List.map_eq_nil_iff]
  rw [decide_eq_decide.mpr this]
theorem ints_nil' {l : List Nat} : eqD (.lst (l.map fun i : Nat => D.int (i : Int))) (.lst []) = some (.bl (decide (l = []))) := by
  have h := (eq_lst_nil (n := 0) (ds := l.map fun i : Nat => D.int (i : Int)) (fun d hd => by
    obtain ⟨i, _, rfl⟩ := List.mem_map.mp hd
    exact dp_int _ _) (by omega)).1
  rw [h]
  have : (l.map fun i : Nat => D.int (i : Int)) = [] ↔ l = [] := by rw [List.map_eq_nil_iff]
  rw [decide_eq_decide.mpr this]
abbrev iD' (l : List Nat) : List D := l.map fun i : Nat => D.int (i : Int)
theorem slL_tail (x : D) (xs : List D) : slL (.lst (x :: xs)) (some 1) none = some (.lst xs) := by
  unfold slL
  simp only [cutG]
  rw [six_1 _ (by simp), six_nn]
  simp
theorem addL_ev {xs ys : List D} (h : xs.length + ys.length ≤ 1000000) : addL (.lst xs) (.lst ys) = some (.lst (xs ++ ys)) := by
  show (if xs.length + ys.length ≤ sizeLine then some (D.lst (xs ++ ys)) else none) = _
  rw [if_pos (Nat.le_trans h (by decide))]
theorem app_of {i : Nat} {m : ME} {ρ : Lo} {S S1 : Sg} {ds : List D} {d : D} (hi : ρ[i]? = some (some (.own (.lst ds)))) (h : m ρ S = some (d, S1)) (hl : ds.length < 1000000) : sApp i m ρ S = some (.nx, ρ.set i (some (.own (.lst (ds ++ [d])))), S1) := by
  unfold sApp; rw [hi]; simp only [h, Option.bind_some]; rw [if_pos hl]
theorem ext_of {i : Nat} {m : ME} {ρ : Lo} {S S1 : Sg} {ds es : List D} (hi : ρ[i]? = some (some (.own (.lst ds)))) (h : m ρ S = some (.lst es, S1)) (hl : ds.length + es.length ≤ 1000000) : sExt i m ρ S = some (.nx, ρ.set i (some (.own (.lst (ds ++ es)))), S1) := by
  unfold sExt; rw [hi]; simp only [h, Option.bind_some]; rw [if_pos hl]
theorem put_of {i : Nat} {m mk : ME} {ρ : Lo} {S S1 S2 : Sg} {ds : List (Key × D)} {d k : D} {kk : Key} (hi : ρ[i]? = some (some (.own (.dK ds)))) (h : m ρ S = some (d, S1)) (h' : mk ρ S1 = some (k, S2)) (hk : keyD k = some kk) (hl : ds.length < 1000000) : sPut i m mk ρ S = some (.nx, ρ.set i (some (.own (.dK (putG ds kk d)))), S2) := by
  unfold sPut; rw [hi]; simp only [h, h', hk, Option.bind_some]; rw [if_pos hl]
theorem putT_of {i : Nat} {m mk : ME} {ρ : Lo} {S S1 S2 : Sg} {ds : List (List Key × D)} {d : D} {ks : List D} {kk : List Key} (hi : ρ[i]? = some (some (.own (.dT ds)))) (h : m ρ S = some (d, S1)) (h' : mk ρ S1 = some (.tup ks, S2)) (hk : keysD ks = some kk) (hl : ds.length < 1000000) : sPut i m mk ρ S = some (.nx, ρ.set i (some (.own (.dT (putG ds kk d)))), S2) := by
  unfold sPut; rw [hi]; simp only [h, h', hk, Option.bind_some]; rw [if_pos hl]
theorem putG_new {κ α : Type} [DecidableEq κ] {kvs : List (κ × α)} {k : κ} {v : α} (h : ∀ p ∈ kvs, p.1 ≠ k) : putG kvs k v = kvs ++ [(k, v)] := by
  unfold putG
  rw [if_neg]
  intro z
  obtain ⟨p, hp, e⟩ := List.any_eq_true.mp z
  exact h p hp (of_decide_eq_true e)
theorem find_new {κ α : Type} [DecidableEq κ] {kvs : List (κ × α)} {k : κ} (hn : (kvs.map (·.1)).Nodup) {v : α} (h : (k, v) ∈ kvs) : (kvs.find? fun kv => decide (kv.1 = k)).map (·.2) = some v := by
  induction kvs with
  | nil => cases h
  | cons p r ih =>
    (rw [List.map_cons, List.nodup_cons] at hn); by_cases e : p.1 = k
    · (rw [List.find?_cons_of_pos (by simpa using e)]); rcases List.mem_cons.mp h with z | z
      · subst z; rfl
      · exact absurd (List.mem_map.mpr ⟨(k, v), z, e.symm⟩) hn.1
    · (rw [List.find?_cons_of_neg (by simpa using e)]); rcases List.mem_cons.mp h with z | z
      · subst z; exact absurd rfl e
      · exact ih hn.2 z
theorem whileIf {t : MT} {m : MS} {ρ : Lo} {S S1 : Sg} (h : t ρ S = some (false, S1)) : sIf t m sNil ρ S = some (.nx, ρ, S1) := by
  rw [sIf_of h]; rfl
end Dv
namespace K35
open PySem PyProof.Rows L2 Dv
open BW (A keys Reach)

def optN : Option Nat → D
  | none => .non
  | some p => .int (p : Int)
def aD (a : A) : List (Key × D) := a.map fun e => (Sum.inl ((e.1 : Nat) : Int), optN e.2)
theorem aD_keys (a : A) : (aD a).map (·.1) = (keys a).map fun k : Nat => (Sum.inl (k : Int) : Key) := by
  unfold aD keys
  rw [List.map_map, List.map_map]; rfl
theorem inl_inj {i j : Nat} : ((Sum.inl (i : Int) : Key) = Sum.inl (j : Int)) ↔ i = j := ⟨fun h => by injection h with h; omega, fun h => by rw [h]⟩
theorem in_aD (a : A) (p : Nat) : notOf inDk (.int (p : Nat)) (.dK (aD a)) = some (.bl (!(keys a).contains p)) := by
  have e : (aD a).any (fun kv => decide (kv.1 = (Sum.inl ((p : Nat) : Int) : Key))) = (keys a).contains p := by
    rw [Bool.eq_iff_iff]
    simp only [List.any_eq_true, decide_eq_true_eq, List.contains_iff_mem]
    constructor
    · rintro ⟨⟨k, d⟩, hk, e⟩
      obtain ⟨⟨x, q⟩, hx, e2⟩ := List.mem_map.mp hk
      cases e2
      exact List.mem_map.mpr ⟨(x, q), hx, inl_inj.mp e⟩
    · intro h
      obtain ⟨⟨x, q⟩, hx, e2⟩ := List.mem_map.mp h
      exact ⟨_, List.mem_map.mpr ⟨(x, q), hx, rfl⟩, inl_inj.mpr e2⟩
  show Option.bind (inDk _ _) _ = _
  have : inDk (.int (p : Nat)) (.dK (aD a)) = some (.bl ((aD a).any (fun kv => decide (kv.1 = (Sum.inl ((p : Nat) : Int) : Key))))) := rfl
  rw [this, e]; rfl
theorem aD_new {a : A} {p : Nat} {q : Option Nat} (h : (keys a).contains p = false) : putG (aD a) (Sum.inl (p : Int)) (optN q) = aD (a ++ [(p, q)]) := by
  rw [putG_new]
  · unfold aD; rw [List.map_append]; rfl
  · intro e he
    obtain ⟨⟨x, r⟩, hx, rfl⟩ := List.mem_map.mp he
    intro z
    have z := inl_inj.mp z
    dsimp only at z
    have : x ∈ keys a := List.mem_map.mpr ⟨(x, r), hx, rfl⟩
    rw [z] at this
    rw [← Bool.not_eq_true, List.contains_iff_mem] at h
    exact h this
theorem get_aD {a : A} (hn : (keys a).Nodup) {k : Nat} {p : Option Nat} (h : (k, p) ∈ a) : getD' (.dK (aD a)) (.int (k : Nat)) = some (optN p) := by
  have hn' : ((aD a).map (·.1)).Nodup := by
    rw [aD_keys]
    exact List.pairwise_map.mpr (hn.imp fun hne z => hne (inl_inj.mp z))
  exact find_new (k := (Sum.inl ((k : Nat) : Int) : Key)) hn' (List.mem_map.mpr ⟨(k, p), h, rfl⟩)
section
variable {E : Nat → Nat → Bool} {n : Nat} {x sh : D}
/-- what is asked of the table and the share -/
structure ReachF (f : List D → Option D) (x sh : D) (n : Nat) (E : Nat → Nat → Bool) : Prop where
  ev : ∀ i j, i < n → j < n → f [x, sh, .int (i : Nat), .int (j : Nat)] = some (.bl (E i j))
abbrev wv (x sh : D) (i j : Nat) (f : Option LV) (a : A) (w : List Nat) (p h : Option LV) : Lo := [some (.imm x), some (.imm sh), some (.imm (.int (i : Nat))), some (.imm (.int (j : Nat))), f, some (.own (.dK (aD a))), some (.own (.lst (iD' w))), p, h]
noncomputable def wIn : MS := (sIf (mAnd (mTst (mDnin (mVarB 7) (mVarB 5))) (mTst (mCall f_reaches (mCons (mVar 0) (mCons (mVar 1) (mCons (mVar 8) (mCons (mVar 7) (mPure [])))))))) (sSq (sPut 5 (mVar 8) (mVar 7))
  (sApp 6 (mVar 7))) sNil)
noncomputable def wBody : MS := (sSq (sPar2 8 6 false (mOp2 ixD (mVarB 6) (mPure (.int 0))) true (mSl slL (mVarB 6) (mPart (mPure (.int 1))) (mPure none)))
  (sFor (mRg1 (mCons (mCall lenD (mCons (mVarB 0) (mPure []))) (mPure []))) (gNm 7) wIn))
def wT : MT := (mTst (mOp2 neD (mVarB 6) (mLst (mPure []))))
theorem and_ff {t u : MT} {ρ : Lo} {S S1 : Sg} (h : t ρ S = some (false, S1)) : mAnd t u ρ S = some (false, S1) := by unfold mAnd; rw [h]; rfl
theorem and_tt {t u : MT} {ρ : Lo} {S S1 : Sg} {r} (h : t ρ S = some (true, S1)) (h' : u ρ S1 = r) : mAnd t u ρ S = r := by unfold mAnd; rw [h]; exact h'
theorem win_ev (hE : ReachF f_reaches x sh n E) (hn : n ≤ 1000) {i j : Nat} {f : Option LV} {a : A} {w : List Nat} {here p : Nat} (hh : here < n) (hp : p < n) (ha : a.length ≤ n) (hw : w.length ≤ 2 * n) :
    wIn (wv x sh i j f a w (some (.imm (.int (p : Nat)))) (some (.imm (.int (here : Nat))))) none = some (.nx, wv x sh i j f (BW.stp E here (a, w) p).1 (BW.stp E here (a, w) p).2 (some (.imm (.int (p : Nat)))) (some (.imm (.int (here : Nat)))), none) := by
  have e1 : mTst (mDnin (mVarB 7) (mVarB 5)) (wv x sh i j f a w (some (.imm (.int (p : Nat)))) (some (.imm (.int (here : Nat))))) none = some (!(keys a).contains p, none) := mTst_of (mOp2_of (ev_varB rfl) (ev_varO rfl) (in_aD a p))
  have e2 : mTst (mCall f_reaches (mCons (mVar 0) (mCons (mVar 1) (mCons (mVar 8) (mCons (mVar 7) (mPure [])))))) (wv x sh i j f a w (some (.imm (.int (p : Nat)))) (some (.imm (.int (here : Nat))))) none = some (E here p, none) :=
    mTst_of (mCall_of (cons_of (ev_var rfl) (cons_of (ev_var rfl) (cons_of (ev_var rfl) (cons_of (ev_var rfl) rfl)))) (hE.ev here p hh hp))
  unfold BW.stp
  cases hc : (keys a).contains p with
  | true =>
    rw [hc] at e1
    simp only [Bool.not_true, Bool.false_and, Bool.false_eq_true, if_false]
    exact whileIf (and_ff e1)
  | false =>
    rw [hc] at e1
    cases hr : E here p with
    | false =>
      rw [hr] at e2
      simp only [Bool.and_false, Bool.false_eq_true, if_false]
      exact whileIf (and_tt e1 e2)
    | true =>
      rw [hr] at e2
      simp only [Bool.not_false, Bool.and_self, if_true]
      unfold wIn
      rw [sIf_of (and_tt e1 e2)]
      simp only [if_true]
      have la : (aD a).length < 1000000 := by unfold aD; rw [List.length_map]; omega
      have lw : (iD' w).length < 1000000 := by rw [List.length_map]; omega
      have e3 := put_of (i := 5) (m := mVar 8) (mk := mVar 7) (ρ := wv x sh i j f a w (some (.imm (.int (p : Nat)))) (some (.imm (.int (here : Nat))))) (S := none) rfl (ev_var rfl) (ev_var rfl) (kk := Sum.inl ((p : Nat) : Int)) rfl la
      rw [show (D.int ((here : Nat) : Int)) = optN (some here) from rfl, aD_new hc] at e3
      have e4 := app_of (i := 6) (m := mVar 7) (ρ := wv x sh i j f (a ++ [(p, some here)]) w (some (.imm (.int (p : Nat)))) (some (.imm (.int (here : Nat))))) (S := none) rfl (ev_var rfl) lw
      rw [show iD' w ++ [D.int ((p : Nat) : Int)] = iD' (w ++ [p]) by simp] at e4
      exact (sSq_nx e3).trans e4
theorem rg_ev {x : D} {n : Nat} {ρ : Lo} {S : Sg} (hv : mVarB 0 ρ S = some (x, S)) (hl : lenD [x] = some (.int (n : Nat))) (hn : n ≤ 1000) : mRg1 (mCons (mCall lenD (mCons (mVarB 0) (mPure []))) (mPure [])) ρ S = some (rangeL 0 n, S) :=
  rg1_nat (cons_of (mCall_of (cons_of hv rfl) hl) rfl) (by omega)
theorem wbody_ev (hE : ReachF f_reaches x sh n E) (hn : n ≤ 1000) (hl : lenD [x] = some (.int (n : Nat))) {i j one : Nat} {f p h : Option LV} {a : A} {w : List Nat} {here : Nat} (hok : BW.Ok E n one a (here :: w)) (hc : BW.Cl E n a (here :: w)) (hw : w.length + 1 ≤ n) :
    ∃ p' h', wBody (wv x sh i j f a (here :: w) p h) none = some (.nx, wv x sh i j f (BW.lap E n here (a, w)).1 (BW.lap E n here (a, w)).2 p' h', none) := by
  have hh : here ∈ keys a := hok.wk here List.mem_cons_self
  have hhn := hok.lt here hh
  have e1 : sPar2 8 6 false (mOp2 ixD (mVarB 6) (mPure (.int 0))) true (mSl slL (mVarB 6) (mPart (mPure (.int 1))) (mPure none)) (wv x sh i j f a (here :: w) p h) none = some (.nx, wv x sh i j f a w p (some (.imm (.int (here : Nat)))), none) :=
    sPar2_of (mOp2_of (ev_varO rfl) rfl (ix_nat (n := 0) rfl rfl)) (mSl_of (ev_varO rfl) rfl rfl (slL_tail _ _))
  have hok' : BW.Ok E n one a w := ⟨hok.hd, hok.nd, hok.lt, hok.pw, fun k hk => hok.wk k (List.mem_cons_of_mem _ hk)⟩
  have hlen0 := BW.ok_len hok
  obtain ⟨ρ', e2, hI⟩ := for_fold (g := gNm 7) (ms := wIn) (S := none) (fun (s : A × List Nat) ρ => s.1.length ≤ n ∧ s.2.length ≤ 2 * n ∧ (∃ v, BW.Ok E n one s.1 v) ∧ here ∈ keys s.1 ∧ s.1.length + w.length = a.length + s.2.length ∧ ∃ p', ρ = wv x sh i j f s.1 s.2 p' (some (.imm (.int (here : Nat))))) (fun s k => BW.stp E here s k) (paired_range n)
    (fun d k s ρ hd hk hI => by
      obtain ⟨rfl, hkn⟩ := hd
      obtain ⟨b, v⟩ := s
      obtain ⟨l1, l2, ⟨v', ok⟩, hb, hm, p', rfl⟩ := hI
      have e := win_ev hE hn (i := i) (j := j) (f := f) (a := b) (w := v) hhn hkn l1 l2
      obtain ⟨j1, j2⟩ := BW.stp_ok (p := k) ok hb hkn
      have j3 := BW.stp_mu (E := E) (here := here) (p := k) (s := (b, v))
      have j4 : ∀ (u : List Nat), (BW.stp E here (b, u) k).1 = (BW.stp E here (b, v) k).1 := fun u => by unfold BW.stp; split <;> rfl
      rw [j4] at j1 j2
      have j5 := BW.ok_len j1
      dsimp only at hm j3
      refine ⟨_, .nx, _, rfl, e, .inl rfl, j5, ?_, ⟨_, j1⟩, j2, ?_, _, rfl⟩
      · omega
      · omega) (a, w) (wv x sh i j f a w p (some (.imm (.int (here : Nat))))) ⟨hlen0, by show w.length ≤ 2 * n; omega, ⟨w, hok'⟩, hh, rfl, p, rfl⟩
  obtain ⟨_, _, _, _, _, p', rfl⟩ := hI
  exact ⟨p', _, (sSq_nx e1).trans (for_of (rg_ev (ev_varB rfl) hl hn) e2)⟩
/-- the search, whole -/
theorem search_ev (hE : ReachF f_reaches x sh n E) (hn : n ≤ 1000) (hl : lenD [x] = some (.int (n : Nat))) {i j : Nat} (hi : i < n) {f p h : Option LV} :
    ∃ a p' h', sWh wT wBody (wv x sh i j f [(i, none)] [i] p h) none = some (.nx, wv x sh i j f a [] p' h', none) ∧ BW.Ok E n i a [] ∧ BW.Cl E n a [] := by
  obtain ⟨ρ', e, a, p', h', rfl, ok, cl⟩ := while_run (t := wT) (m := wBody) (S := none) (fun (s : A × List Nat) ρ => BW.Ok E n i s.1 s.2 ∧ BW.Cl E n s.1 s.2 ∧ s.2.length ≤ s.1.length ∧ ∃ p' h', ρ = wv x sh i j f s.1 s.2 p' h') (fun s => 2 * (n - s.1.length) + s.2.length)
    (fun ρ => ∃ a p' h', ρ = wv x sh i j f a [] p' h' ∧ BW.Ok E n i a [] ∧ BW.Cl E n a []) (fun s ρ hI => by
      obtain ⟨a, w⟩ := s
      obtain ⟨ok, cl, lw, p', h', rfl⟩ := hI
      have et : wT (wv x sh i j f a w p' h') none = some (decide (w ≠ []), none) := mTst_of (mOp2_of (ev_varO rfl) rfl ints_nil)
      cases w with
      | nil => exact .inl ⟨et, a, p', h', rfl, ok, cl⟩
      | cons here w =>
        refine .inr ⟨et, ?_⟩
        have hal : a.length ≤ n := BW.ok_len ok
        have lw' : w.length + 1 ≤ a.length := by simpa using lw
        obtain ⟨p2, h2, e⟩ := wbody_ev hE hn hl (i := i) (j := j) (f := f) (p := p') (h := h') ok cl (by omega)
        have ok' : BW.Ok E n i a w := ⟨ok.hd, ok.nd, ok.lt, ok.pw, fun k hk => ok.wk k (List.mem_cons_of_mem _ hk)⟩
        obtain ⟨k1, k2, k3, k4⟩ := BW.lap_all ok' (ok.wk here List.mem_cons_self) fun k hk => by
          rcases cl k hk with z | z
          · (rcases List.mem_cons.mp z with z | z)
            · exact .inr (.inl z)
            · exact .inl z
          · exact .inr (.inr z)
        have k5 := BW.ok_len k1
        refine ⟨.nx, _, BW.lap E n here (a, w), e, .inl rfl, ⟨k1, k2, by omega, p2, h2, rfl⟩, ?_⟩
        dsimp only
        rw [List.length_cons]
        omega) ([(i, none)], [i]) (wv x sh i j f [(i, none)] [i] p h) ⟨BW.ok_start hi, BW.cl_start, Nat.le_refl _, p, h, rfl⟩
  exact ⟨a, p', h', e, ok, cl⟩
/-- the way back -/
noncomputable def pT : MT := (mTst (mOp2 isnotD (mOp2 getD' (mVarB 5) (mOp2 ixD (mVarB 4) (mPure (.int 0)))) (mPure .non)))
noncomputable def pB : MS := (sSet 4 (mOp2 addL (mLst (mCons (mOp2 getD' (mVarB 5) (mOp2 ixD (mVarB 4) (mPure (.int 0)))) (mPure []))) (mVarB 4)))
theorem path_ev (hn : n ≤ 1000) {a : A} {i j : Nat} (ok : BW.Ok E n i a []) (hj : j ∈ keys a) {p h : Option LV} :
    ∃ L : List Nat, sWh pT pB (wv x sh i j (some (.imm (.lst [.int (j : Nat)]))) a [] p h) none = some (.nx, wv x sh i j (some (.imm (.lst (iD' L)))) a [] p h, none) ∧ L ≠ [] ∧ L.length ≤ n ∧ (i ≠ j → 2 ≤ L.length) := by
  have hal := BW.ok_len ok
  obtain ⟨⟨j0, q⟩, hm, hj0⟩ := List.mem_map.mp hj
  have hj0 : j0 = j := hj0
  subst hj0
  obtain ⟨t0, ht0⟩ := List.mem_iff_getElem?.mp hm
  have ht0l := (List.getElem?_eq_some_iff.mp ht0).1
  obtain ⟨ρ', e, L, hL⟩ := while_run (t := pT) (m := pB) (S := none) (fun (s : Nat × List Nat) ρ => ∃ k r L, s.2 = k :: L ∧ a[s.1]? = some (k, r) ∧ s.2.length + s.1 ≤ t0 + 1 ∧ (2 ≤ s.2.length ∨ k = j0) ∧ ρ = wv x sh i j0 (some (.imm (.lst (iD' s.2)))) a [] p h) (fun s => s.1)
    (fun ρ => ∃ L : List Nat, ρ = wv x sh i j0 (some (.imm (.lst (iD' L)))) a [] p h ∧ L ≠ [] ∧ L.length ≤ n ∧ (i ≠ j0 → 2 ≤ L.length)) (fun s ρ hI => by
      obtain ⟨t, l⟩ := s
      obtain ⟨k, r, L, hl, hk, hlen, h2, rfl⟩ := hI
      dsimp only at hl hk hlen h2
      subst hl
      have e1 : mOp2 getD' (mVarB 5) (mOp2 ixD (mVarB 4) (mPure (.int 0))) (wv x sh i j0 (some (.imm (.lst (iD' (k :: L))))) a [] p h) none = some (optN r, none) :=
        mOp2_of (ev_varO rfl) (mOp2_of (ev_varB rfl) rfl (ix_nat (n := 0) rfl rfl)) (get_aD ok.nd (List.mem_of_getElem? hk))
      rcases ok.pw t k r hk with ⟨z, rfl⟩ | ⟨u, q, r', hu, rfl, hu2, _⟩
      · subst z
        have hki : k = i := by rw [ok.hd] at hk; cases hk; rfl
        refine .inl ⟨mTst_of (mOp2_of e1 rfl rfl), k :: L, rfl, by simp, by omega, fun hne => ?_⟩
        rcases h2 with h2 | h2
        · exact h2
        · exact absurd (hki.symm.trans h2) hne
      · refine .inr ⟨mTst_of (mOp2_of e1 rfl rfl), .nx, _, (u, q :: k :: L), set_of' (mOp2_of (lst1_of e1) (ev_varB rfl) (addL_ev ?_)), .inl rfl, ⟨q, r', k :: L, rfl, hu2, ?_, .inl (by simp), rfl⟩, hu⟩
        · simp only [List.length_cons, List.length_nil, List.length_map]
          (simp only [List.length_cons] at hlen); omega
        · simp only [List.length_cons] at hlen ⊢; omega) (t0, [j0]) (wv x sh i j0 (some (.imm (.lst [.int (j0 : Nat)]))) a [] p h) ⟨j0, q, [], rfl, ht0, by simp; omega, .inr rfl, rfl⟩
  exact ⟨L, by rw [e, hL.1], hL.2⟩
theorem wayM_eq : m_way_back = (sSq (sPar2 5 6 true (mDisp1 (mVar 2) (mPure .non)) true (mLst (mCons (mVar 2) (mPure []))))
  (sSq (sWh wT wBody)
  (sSq (sIf (mTst (mDnin (mVarB 3) (mVarB 5))) (sRet (mPure .non)) sNil)
  (sSq (sSet 4 (mLst (mCons (mVar 3) (mPure []))))
  (sSq (sWh pT pB)
  (sRet (mCall tupleD (mCons (mVarB 4) (mPure []))))))))) := rfl
/-- a way is told exactly where there is one -/
theorem way_ev (hE : ReachF f_reaches x sh n E) (hn : n ≤ 1000) (hl : lenD [x] = some (.int (n : Nat))) {i j : Nat} (hi : i < n) (hj : j < n) :
    (¬ Reach E n i j ∧ f_way_back [x, sh, .int (i : Nat), .int (j : Nat)] = some .non) ∨ (Reach E n i j ∧ ∃ L : List Nat, f_way_back [x, sh, .int (i : Nat), .int (j : Nat)] = some (.tup (iD' L)) ∧ L ≠ [] ∧ L.length ≤ n ∧ (i ≠ j → 2 ≤ L.length)) := by
  have e1 : sPar2 5 6 true (mDisp1 (mVar 2) (mPure .non)) true (mLst (mCons (mVar 2) (mPure []))) (startL 9 [x, sh, .int (i : Nat), .int (j : Nat)]) none = some (.nx, wv x sh i j none [(i, none)] [i] none none, none) := by
    refine sPar2_of (d1 := .dK (aD [(i, none)])) (d2 := .lst (iD' [i])) (S1 := none) ?_ (lst1_of (ev_var rfl))
    rfl
  obtain ⟨a, p', h', e2, ok, cl⟩ := search_ev hE hn hl (j := j) hi (f := none) (p := none) (h := none)
  have e3 : mTst (mDnin (mVarB 3) (mVarB 5)) (wv x sh i j none a [] p' h') none = some (!(keys a).contains j, none) := mTst_of (mOp2_of (ev_varB rfl) (ev_varO rfl) (in_aD a j))
  have hm := BW.mem_iff_reach ok cl j
  cases hc : (keys a).contains j with
  | false =>
    rw [hc] at e3
    refine .inl ⟨fun z => ?_, ?_⟩
    · rw [← Bool.not_eq_true, List.contains_iff_mem] at hc
      exact hc (hm.mpr z)
    · have e4 : sIf (mTst (mDnin (mVarB 3) (mVarB 5))) (sRet (mPure .non)) sNil (wv x sh i j none a [] p' h') none = some (.rt .non, wv x sh i j none a [] p' h', none) := by
        rw [sIf_of e3]; rfl
      have : m_way_back (startL 9 [x, sh, .int (i : Nat), .int (j : Nat)]) none = some (.rt .non, wv x sh i j none a [] p' h', none) := by
        rw [wayM_eq]
        exact (sSq_nx e1).trans ((sSq_nx e2).trans (sSq_rt e4))
      exact runP_rt rfl this
  | true =>
    rw [hc] at e3
    have hj' : j ∈ keys a := List.contains_iff_mem.mp hc
    refine .inr ⟨hm.mp hj', ?_⟩
    obtain ⟨L, e5, h1, h2, h3⟩ := path_ev (x := x) (sh := sh) hn ok hj' (p := p') (h := h')
    refine ⟨L, ?_, h1, h2, h3⟩
    have e4 : sIf (mTst (mDnin (mVarB 3) (mVarB 5))) (sRet (mPure .non)) sNil (wv x sh i j none a [] p' h') none = some (.nx, wv x sh i j none a [] p' h', none) := whileIf e3
    have e6 : sSet 4 (mLst (mCons (mVar 3) (mPure []))) (wv x sh i j none a [] p' h') none = some (.nx, wv x sh i j (some (.imm (.lst [.int (j : Nat)]))) a [] p' h', none) := set_of' (lst1_of (ev_var rfl))
    have : m_way_back (startL 9 [x, sh, .int (i : Nat), .int (j : Nat)]) none = some (.rt (.tup (iD' L)), wv x sh i j (some (.imm (.lst (iD' L)))) a [] p' h', none) := by
      rw [wayM_eq]
      exact (sSq_nx e1).trans ((sSq_nx e2).trans ((sSq_nx e4).trans ((sSq_nx e6).trans ((sSq_nx e5).trans (sRet_of (mCall_of (cons_of (ev_varB rfl) rfl) rfl))))))
    exact runP_rt rfl this
end
end K35
namespace K35
open PySem PyProof.Rows L2 Dv
open BW (A keys Reach)

theorem six_m1 (n : Nat) (h : 1 ≤ n) : HT.sIx n n (some (-1)) = n - 1 := by
  unfold HT.sIx
  simp
  omega
theorem sl_front {ds : List D} (h : 1 ≤ ds.length) : slD (.tup ds) none (some (-1)) = some (.tup (ds.take (ds.length - 1))) := by
  have e : slT (.tup ds) none (some (-1)) = some (.tup (ds.take (ds.length - 1))) := by
    show (if HT.sIx ds.length 0 none = 0 ∧ HT.sIx ds.length ds.length (some (-1)) = ds.length then some (D.tup ds) else some (.tup (cutG ds none (some (-1))))) = _
    rw [six_n0, six_m1 _ h, if_neg (by omega)]
    unfold cutG
    rw [six_n0, six_m1 _ h]
    rfl
  unfold slD
  rw [e]; rfl
section
variable {E Sx : Nat → Nat → Bool} {n : Nat} {x sh : D}
def HasRing (E Sx : Nat → Nat → Bool) (n : Nat) : Prop := ∃ i j, i < n ∧ j < n ∧ Sx i j = true ∧ Reach E n j i
noncomputable def rIn : MS := (sIf (mTst (mCall f_reaches_strictly (mCons (mVar 0) (mCons (mVar 1) (mCons (mVar 2) (mCons (mVar 3) (mPure []))))))) (sSq (sSet 4 (mCall f_way_back (mCons (mVar 0) (mCons (mVar 1) (mCons (mVar 3) (mCons (mVar 2) (mPure [])))))))
  (sIf (mTst (mOp2 isnotD (mVarB 4) (mPure .non))) (sRet (mOp2 addD (mTup (mCons (mVar 2) (mPure []))) (mSl slD (mVarB 4) (mPure none) (mPart (mOp1 negD (mPure (.int 1))))))) sNil)) sNil)
noncomputable def rOut : MS := (sFor (mRg1 (mCons (mCall lenD (mCons (mVarB 0) (mPure []))) (mPure []))) (gNm 3) rIn)
abbrev rv (x sh : D) (a b c : Option LV) : Lo := [some (.imm x), some (.imm sh), a, b, c]
theorem rin_ev (hE : ReachF f_reaches x sh n E) (hS : ReachF f_reaches_strictly x sh n Sx) (hne : ∀ i, Sx i i = false) (hn : n ≤ 1000) (hl : lenD [x] = some (.int (n : Nat))) {i j : Nat} (hi : i < n) (hj : j < n) {c : Option LV} :
    (¬ (Sx i j = true ∧ Reach E n j i) ∧ ∃ c', rIn (rv x sh (some (.imm (.int (i : Nat)))) (some (.imm (.int (j : Nat)))) c) none = some (.nx, rv x sh (some (.imm (.int (i : Nat)))) (some (.imm (.int (j : Nat)))) c', none)) ∨
    ((Sx i j = true ∧ Reach E n j i) ∧ ∃ ds ρ', rIn (rv x sh (some (.imm (.int (i : Nat)))) (some (.imm (.int (j : Nat)))) c) none = some (.rt (.tup ds), ρ', none)) := by
  have e1 : mTst (mCall f_reaches_strictly (mCons (mVar 0) (mCons (mVar 1) (mCons (mVar 2) (mCons (mVar 3) (mPure [])))))) (rv x sh (some (.imm (.int (i : Nat)))) (some (.imm (.int (j : Nat)))) c) none = some (Sx i j, none) :=
    mTst_of (mCall_of (cons_of (ev_var rfl) (cons_of (ev_var rfl) (cons_of (ev_var rfl) (cons_of (ev_var rfl) rfl)))) (hS.ev i j hi hj))
  cases hs : Sx i j with
  | false =>
    rw [hs] at e1
    exact .inl ⟨fun z => (by cases z.1), c, whileIf e1⟩
  | true =>
    rw [hs] at e1
    have hij : j ≠ i := fun z => by rw [z, hne] at hs; cases hs
    rcases way_ev hE hn hl hj hi with ⟨hr, e2⟩ | ⟨hr, L, e2, h0, h1, h2⟩
    · have e3 : sSet 4 (mCall f_way_back (mCons (mVar 0) (mCons (mVar 1) (mCons (mVar 3) (mCons (mVar 2) (mPure [])))))) (rv x sh (some (.imm (.int (i : Nat)))) (some (.imm (.int (j : Nat)))) c) none = some (.nx, rv x sh (some (.imm (.int (i : Nat)))) (some (.imm (.int (j : Nat)))) (some (.imm .non)), none) :=
        set_of' (mCall_of (cons_of (ev_var rfl) (cons_of (ev_var rfl) (cons_of (ev_var rfl) (cons_of (ev_var rfl) rfl)))) e2)
      refine .inl ⟨fun z => hr z.2, some (.imm .non), ?_⟩
      unfold rIn
      rw [sIf_of e1]
      simp only [if_true]
      exact (sSq_nx e3).trans (whileIf (mTst_of (mOp2_of (ev_varB rfl) rfl rfl)))
    · have e3 : sSet 4 (mCall f_way_back (mCons (mVar 0) (mCons (mVar 1) (mCons (mVar 3) (mCons (mVar 2) (mPure [])))))) (rv x sh (some (.imm (.int (i : Nat)))) (some (.imm (.int (j : Nat)))) c) none = some (.nx, rv x sh (some (.imm (.int (i : Nat)))) (some (.imm (.int (j : Nat)))) (some (.imm (.tup (iD' L)))), none) :=
        set_of' (mCall_of (cons_of (ev_var rfl) (cons_of (ev_var rfl) (cons_of (ev_var rfl) (cons_of (ev_var rfl) rfl)))) e2)
      have h2 := h2 hij
      have hlen : (iD' L).length = L.length := List.length_map _
      have e4 := sl_front (ds := iD' L) (by omega)
      refine .inr ⟨⟨rfl, hr⟩, [D.int (i : Nat)] ++ (iD' L).take ((iD' L).length - 1), rv x sh (some (.imm (.int (i : Nat)))) (some (.imm (.int (j : Nat)))) (some (.imm (.tup (iD' L)))), ?_⟩
      have e5 : addD (.tup [.int (i : Nat)]) (.tup ((iD' L).take ((iD' L).length - 1))) = some (.tup ([D.int (i : Nat)] ++ (iD' L).take ((iD' L).length - 1))) := by
        refine add_tup (by simp) ?_ ?_
        · intro z
          have := congrArg List.length z
          rw [List.length_take, List.length_nil] at this
          omega
        · rw [List.length_take, List.length_cons, List.length_nil]; omega
      unfold rIn
      rw [sIf_of e1]
      simp only [if_true]
      refine (sSq_nx e3).trans ?_
      rw [sIf_of (mTst_of (b := true) (S1 := none) (mOp2_of (ev_varB rfl) rfl rfl))]
      simp only [if_true]
      exact sRet_of (mOp2_of (tup_of (cons_of (ev_var rfl) rfl) (by simp)) (mSl_of (ev_varB rfl) rfl rfl e4) e5)
theorem ring_ev (hE : ReachF f_reaches x sh n E) (hS : ReachF f_reaches_strictly x sh n Sx) (hne : ∀ i, Sx i i = false) (hn : n ≤ 1000) (hl : lenD [x] = some (.int (n : Nat))) :
    (¬ HasRing E Sx n ∧ f_ring_in [x, sh] = some .non) ∨ (HasRing E Sx n ∧ ∃ ds, f_ring_in [x, sh] = some (.tup ds)) := by
  have inner : ∀ (i : Nat), i < n → ∀ b c, ∃ fl ρ', rOut (rv x sh (some (.imm (.int (i : Nat)))) b c) none = some (fl, ρ', none) ∧ ((fl = .nx ∧ (∀ j, j < n → ¬ (Sx i j = true ∧ Reach E n j i)) ∧ ∃ b c, ρ' = rv x sh (some (.imm (.int (i : Nat)))) b c) ∨ (∃ ds, fl = .rt (.tup ds) ∧ HasRing E Sx n)) := fun i hi b c => by
    obtain ⟨fl, ρ', S', e, hP⟩ := for_run (g := gNm 3) (ms := rIn) (ds := rangeL 0 n) (P := fun fl ρ S => S = none ∧ ((fl = .nx ∧ (∀ j, j < n → ¬ (Sx i j = true ∧ Reach E n j i)) ∧ ∃ b c, ρ = rv x sh (some (.imm (.int (i : Nat)))) b c) ∨ (∃ ds, fl = .rt (.tup ds) ∧ HasRing E Sx n)))
      (Inv := fun k ρ S => S = none ∧ (∀ j, j < k → ¬ (Sx i j = true ∧ Reach E n j i)) ∧ ∃ b c, ρ = rv x sh (some (.imm (.int (i : Nat)))) b c) 0
      (fun j d ρ S hd hI => by
        obtain ⟨hj, rfl⟩ := rangeL_get hd
        obtain ⟨rfl, hno, b, c, rfl⟩ := hI
        rw [Nat.zero_add] at hno ⊢
        rcases rin_ev hE hS hne hn hl hi hj (c := c) with ⟨h1, c', e⟩ | ⟨h1, ds, ρ', e⟩
        · refine ⟨_, .nx, _, none, rfl, e, rfl, fun k hk => ?_, _, _, rfl⟩
          by_cases hkj : k = j
          · subst hkj; exact h1
          · exact hno k (by omega)
        · exact ⟨_, .rt (.tup ds), _, none, rfl, e, rfl, .inr ⟨ds, rfl, i, j, hi, hj, h1.1, h1.2⟩⟩)
      (fun ρ S hI => by
        obtain ⟨rfl, hno, b, c, rfl⟩ := hI
        rw [Nat.zero_add, rangeL_len] at hno
        exact ⟨rfl, .inl ⟨rfl, hno, b, c, rfl⟩⟩) (rv x sh (some (.imm (.int (i : Nat)))) b c) none ⟨rfl, fun j hj => by omega, b, c, rfl⟩
    obtain ⟨rfl, hP⟩ := hP
    exact ⟨fl, ρ', for_of (rg_ev (ev_varB rfl) hl hn) e, hP⟩
  obtain ⟨fl, ρ', S', e, rfl, hP⟩ := for_run (g := gNm 2) (ms := rOut) (ds := rangeL 0 n) (P := fun fl ρ S => S = none ∧ ((fl = .nx ∧ ¬ HasRing E Sx n ∧ ∃ a b c, ρ = rv x sh a b c) ∨ (∃ ds, fl = .rt (.tup ds) ∧ HasRing E Sx n)))
    (Inv := fun k ρ S => S = none ∧ (∀ i, i < k → ∀ j, j < n → ¬ (Sx i j = true ∧ Reach E n j i)) ∧ ∃ a b c, ρ = rv x sh a b c) 0
    (fun i d ρ S hd hI => by
      obtain ⟨hi, rfl⟩ := rangeL_get hd
      obtain ⟨rfl, hno, a, b, c, rfl⟩ := hI
      rw [Nat.zero_add] at hno ⊢
      obtain ⟨fl, ρ', e, h | ⟨ds, rfl, h⟩⟩ := inner i hi b c
      · obtain ⟨rfl, h1, b', c', rfl⟩ := h
        refine ⟨_, .nx, _, none, rfl, e, rfl, fun k hk => ?_, _, _, _, rfl⟩
        by_cases hki : k = i
        · subst hki; exact h1
        · exact hno k (by omega)
      · exact ⟨_, .rt (.tup ds), _, none, rfl, e, rfl, .inr ⟨ds, rfl, h⟩⟩)
    (fun ρ S hI => by
      obtain ⟨rfl, hno, a, b, c, rfl⟩ := hI
      rw [Nat.zero_add, rangeL_len] at hno
      exact ⟨rfl, .inl ⟨rfl, fun ⟨i, j, hi, hj, h⟩ => hno i hi j hj h, a, b, c, rfl⟩⟩) (rv x sh none none none) none ⟨rfl, fun j hj => by omega, none, none, none, rfl⟩
  have e0 := for_of (mi := mRg1 (mCons (mCall lenD (mCons (mVarB 0) (mPure []))) (mPure []))) (rg_ev (ρ := rv x sh none none none) (S := none) (ev_varB rfl) hl hn) e
  rcases hP with ⟨rfl, h, a, b, c, rfl⟩ | ⟨ds, rfl, h⟩
  · exact .inl ⟨h, runP_rt (S' := none) rfl ((sSq_nx e0).trans (sRet_of (S1 := none) rfl))⟩
  · exact .inr ⟨h, ds, runP_rt (S' := none) rfl (sSq_rt e0)⟩
end
end K35
namespace K35
open PySem PyProof.Rows L2 Dv
open BW (A keys Reach)

/-! ### dicts by what is found in them -/
def fnd {κ : Type} [DecidableEq κ] (l : List (κ × D)) (k : κ) : Option D := (l.find? fun kv => decide (kv.1 = k)).map (·.2)
theorem fnd_cons {κ : Type} [DecidableEq κ] (p : κ × D) (l : List (κ × D)) (k : κ) : fnd (p :: l) k = if p.1 = k then some p.2 else fnd l k := by
  unfold fnd
  by_cases h : p.1 = k
  · rw [List.find?_cons_of_pos (by simpa using h), if_pos h]; rfl
  · rw [List.find?_cons_of_neg (by simpa using h), if_neg h]
theorem fnd_app {κ : Type} [DecidableEq κ] : ∀ (l : List (κ × D)) (k k' : κ) (v : D), fnd (l ++ [(k, v)]) k' = (fnd l k').or (if k = k' then some v else none)
  | [], k, k', v => by
    show fnd [(k, v)] k' = _
    rw [fnd_cons]; rfl
  | p :: l, k, k', v => by
    rw [List.cons_append, fnd_cons, fnd_cons, fnd_app l]
    split <;> rfl
theorem fnd_none {κ : Type} [DecidableEq κ] : ∀ {l : List (κ × D)} {k : κ}, (∀ p ∈ l, p.1 ≠ k) → fnd l k = none
  | [], _, _ => rfl
  | p :: l, k, h => by
    rw [fnd_cons, if_neg (h p List.mem_cons_self)]
    exact fnd_none fun q hq => h q (List.mem_cons_of_mem _ hq)
theorem fnd_map {κ : Type} [DecidableEq κ] (k : κ) (v : D) : ∀ (l : List (κ × D)) (k' : κ), fnd (l.map fun kv => if kv.1 = k then (kv.1, v) else kv) k' = if k = k' then (if (l.any fun kv => decide (kv.1 = k)) = true then some v else none) else fnd l k'
  | [], k' => by
    show none = _
    split
    · rfl
    · rfl
  | p :: l, k' => by
    rw [List.map_cons, fnd_cons, fnd_map k v l k']
    by_cases h1 : p.1 = k
    · simp only [h1, if_true, List.any_cons, decide_true, Bool.true_or]
      by_cases h2 : k = k'
      · simp only [h2, if_true]
      · simp only [h2, if_false]
        rw [fnd_cons, if_neg (by rw [h1]; exact h2)]
    · simp only [h1, if_false, List.any_cons, decide_false, Bool.false_or]
      by_cases h2 : k = k'
      · subst h2
        simp only [h1, if_false, if_true]
      · simp only [h2, if_false]
        rw [fnd_cons]
theorem fnd_put {κ : Type} [DecidableEq κ] (l : List (κ × D)) (k k' : κ) (v : D) : fnd (putG l k v) k' = if k = k' then some v else fnd l k' := by
  unfold putG
  split
  · rename_i h
    rw [fnd_map, if_pos h]
  · rename_i h
    rw [fnd_app]
    by_cases h2 : k = k'
    · subst h2
      rw [if_pos rfl, if_pos rfl, fnd_none]
      · rfl
      · intro p hp z
        exact h (List.any_eq_true.mpr ⟨p, hp, by simpa using z⟩)
    · rw [if_neg h2, if_neg h2]
      cases fnd l k' <;> rfl
theorem nin_ints (i : Nat) (l : List Nat) : ninD (.int (i : Nat)) (.lst (iD' l)) = some (.bl (!l.contains i)) := by
  have hall : (iD' l).all flatD = true := List.all_eq_true.mpr fun d hd => by
    obtain ⟨k, _, rfl⟩ := List.mem_map.mp hd; rfl
  have hany : ((iD' l).any fun z => eqFl z (.int (i : Nat))) = l.contains i := by
    rw [Bool.eq_iff_iff]
    simp only [List.any_eq_true, List.contains_iff_mem]
    constructor
    · rintro ⟨d, hd, e⟩
      obtain ⟨k, hk, rfl⟩ := List.mem_map.mp hd
      have e : ((k : Int) == (i : Int)) = true := e
      have : k = i := by have := beq_iff_eq.mp e; omega
      rw [← this]; exact hk
    · intro h
      exact ⟨_, List.mem_map.mpr ⟨i, h, rfl⟩, by show ((i : Int) == (i : Int)) = true; simp⟩
  have h1 : inFl (.int (i : Nat)) (.lst (iD' l)) = some (.bl (l.contains i)) := by
    unfold inFl
    show (if (flatD (.int (i : Nat)) && (iD' l).all flatD) = true then _ else _) = _
    rw [hall, hany]; rfl
  unfold ninD ninSq
  rw [h1]; rfl
/-! ### classes -/
structure Cls (R : Nat → Nat → Prop) (n : Nat) (cls : List (List Nat)) : Prop where
  cover : ∀ i, i < n → ∃ c ∈ cls, i ∈ c
  lt : ∀ c ∈ cls, ∀ i ∈ c, i < n
  nd : cls.flatten.Nodup
  same : ∀ c ∈ cls, ∀ i ∈ c, ∀ j ∈ c, R i j
  later : cls.Pairwise fun c d => ∀ i ∈ c, ∀ j ∈ d, ¬ R j i
  ne : ∀ c ∈ cls, c ≠ []
section
variable {E : Nat → Nat → Bool} {n : Nat} {x sh : D}
noncomputable def rb (E : Nat → Nat → Bool) (n i j : Nat) : Bool := @decide (Reach E n i j) (Classical.propDecidable _)
theorem rb_iff {i j : Nat} : rb E n i j = true ↔ Reach E n i j := by unfold rb; exact @decide_eq_true_iff _ (Classical.propDecidable _)
noncomputable def aheadL (E : Nat → Nat → Bool) (n : Nat) (left : List Nat) (one : Nat) : List Nat := left.filter fun o => rb E n o one && !rb E n one o
noncomputable def ownL (E : Nat → Nat → Bool) (n : Nat) (left : List Nat) (one : Nat) : List Nat := left.filter fun o => rb E n one o && rb E n o one
theorem filter_len_lt {p q : Nat → Bool} : ∀ {l : List Nat}, (∀ x, p x = true → q x = true) → (∃ x ∈ l, q x = true ∧ p x = false) → (l.filter p).length < (l.filter q).length
  | [], _, h => by obtain ⟨x, h, _⟩ := h; cases h
  | a :: l, hpq, ⟨x, hx, h1, h2⟩ => by
    have mono : (l.filter p).length ≤ (l.filter q).length := by
      clear hx h1 h2 x
      induction l with
      | nil => exact Nat.le_refl _
      | cons b l ih =>
        cases hb : p b with
        | true => rw [List.filter_cons_of_pos hb, List.filter_cons_of_pos (hpq b hb)]; simp; exact ih
        | false =>
          rw [List.filter_cons_of_neg (by rw [hb]; exact Bool.false_ne_true)]
          cases hq : q b with
          | true => rw [List.filter_cons_of_pos hq]; simp; omega
          | false => rw [List.filter_cons_of_neg (by rw [hq]; exact Bool.false_ne_true)]; exact ih
    rcases List.mem_cons.mp hx with z | z
    · subst z
      rw [List.filter_cons_of_neg (by rw [h2]; exact Bool.false_ne_true), List.filter_cons_of_pos h1]
      simp; omega
    · have ih := filter_len_lt (p := p) (q := q) (l := l) hpq ⟨x, z, h1, h2⟩
      cases hb : p a with
      | true => rw [List.filter_cons_of_pos hb, List.filter_cons_of_pos (hpq a hb)]; simp; exact ih
      | false =>
        rw [List.filter_cons_of_neg (by rw [hb]; exact Bool.false_ne_true)]
        cases hq : q a with
        | true => rw [List.filter_cons_of_pos hq]; simp; omega
        | false => rw [List.filter_cons_of_neg (by rw [hq]; exact Bool.false_ne_true)]; exact ih
theorem source_ex {left : List Nat} (h : left ≠ []) : ∃ one ∈ left, aheadL E n left one = [] := by
  have key : ∀ (N : Nat) (one : Nat), one ∈ left → (left.filter fun o => rb E n o one).length ≤ N → ∃ one ∈ left, aheadL E n left one = [] := by
    intro N
    induction N with
    | zero =>
      intro one h1 h2
      have : one ∈ left.filter fun o => rb E n o one := List.mem_filter.mpr ⟨h1, rb_iff.mpr .refl⟩
      have := List.length_pos_of_mem this
      omega
    | succ N ih =>
      intro one h1 h2
      by_cases ha : aheadL E n left one = []
      · exact ⟨one, h1, ha⟩
      · obtain ⟨o, ho⟩ := List.exists_mem_of_ne_nil _ ha
        obtain ⟨o1, o2⟩ := List.mem_filter.mp ho
        simp only [Bool.and_eq_true, Bool.not_eq_true'] at o2
        have hlt := filter_len_lt (p := fun z => rb E n z o) (q := fun z => rb E n z one) (l := left) (fun z hz => rb_iff.mpr ((rb_iff.mp hz).trans (rb_iff.mp o2.1))) ⟨one, h1, rb_iff.mpr .refl, o2.2⟩
        exact ih o o1 (by omega)
  obtain ⟨one, h1⟩ := List.exists_mem_of_ne_nil _ h
  exact key _ one h1 (Nat.le_refl _)
/-- what holds between the turns -/
structure Part (E : Nat → Nat → Bool) (n : Nat) (cls : List (List Nat)) (left : List Nat) : Prop where
  cover : ∀ i, i < n → i ∈ left ∨ ∃ c ∈ cls, i ∈ c
  lt : ∀ c ∈ cls, ∀ i ∈ c, i < n
  ltl : ∀ i ∈ left, i < n
  nd : (cls.flatten ++ left).Nodup
  same : ∀ c ∈ cls, ∀ i ∈ c, ∀ j ∈ c, Reach E n i j
  later : cls.Pairwise fun c d => ∀ i ∈ c, ∀ j ∈ d, ¬ Reach E n j i
  ne : ∀ c ∈ cls, c ≠ []
  src : ∀ c ∈ cls, ∀ i ∈ c, ∀ j ∈ left, ¬ Reach E n j i
theorem part_start : Part E n [] (List.range n) := ⟨fun i hi => .inl (List.mem_range.mpr hi), fun _ h => (by cases h), fun i hi => List.mem_range.mp hi, by simpa using List.nodup_range, fun _ h => (by cases h), .nil, fun _ h => (by cases h), fun _ h => (by cases h)⟩
theorem part_end {cls : List (List Nat)} (h : Part E n cls []) : Cls (Reach E n) n cls := ⟨fun i hi => (h.cover i hi).resolve_left (fun z => by cases z), h.lt, by have := h.nd; rwa [List.append_nil] at this, h.same, h.later, h.ne⟩
theorem part_step {cls : List (List Nat)} {left : List Nat} (h : Part E n cls left) {one : Nat} (h1 : one ∈ left) (ha : aheadL E n left one = []) :
    Part E n (cls ++ [ownL E n left one]) (left.filter fun o => !(ownL E n left one).contains o) ∧ (left.filter fun o => !(ownL E n left one).contains o).length < left.length := by
  have own_iff : ∀ {o}, o ∈ ownL E n left one ↔ o ∈ left ∧ Reach E n one o ∧ Reach E n o one := fun {o} => by
    unfold ownL
    rw [List.mem_filter, Bool.and_eq_true, rb_iff, rb_iff]
  have left_iff : ∀ {o}, o ∈ (left.filter fun o => !(ownL E n left one).contains o) ↔ o ∈ left ∧ o ∉ ownL E n left one := fun {o} => by
    rw [List.mem_filter, Bool.not_eq_true', ← Bool.not_eq_true, List.contains_iff_mem]
  have hone : one ∈ ownL E n left one := own_iff.mpr ⟨h1, .refl, .refl⟩
  refine ⟨⟨fun i hi => ?_, fun c hc i hi => ?_, fun i hi => h.ltl i (left_iff.mp hi).1, ?_, fun c hc => ?_, ?_, fun c hc => ?_, fun c hc i hi j hj hr => ?_⟩, ?_⟩
  · rcases h.cover i hi with z | ⟨c, hc, z⟩
    · by_cases ho : i ∈ ownL E n left one
      · exact .inr ⟨_, List.mem_append_right _ List.mem_cons_self, ho⟩
      · exact .inl (left_iff.mpr ⟨z, ho⟩)
    · exact .inr ⟨c, List.mem_append_left _ hc, z⟩
  · rcases List.mem_append.mp hc with z | z
    · exact h.lt c z i hi
    · have : c = ownL E n left one := by simpa using z
      subst this
      exact h.ltl i (own_iff.mp hi).1
  · rw [List.flatten_append]
    have hn := List.nodup_append.mp h.nd
    refine List.nodup_append.mpr ⟨List.nodup_append.mpr ⟨hn.1, ?_, fun a ha b hb => ?_⟩, hn.2.1.filter _, fun a ha b hb z => ?_⟩
    · simp only [List.flatten_cons, List.flatten_nil, List.append_nil]
      exact hn.2.1.filter _
    · simp only [List.flatten_cons, List.flatten_nil, List.append_nil] at hb
      exact hn.2.2 a ha b (own_iff.mp hb).1
    · subst z
      obtain ⟨b1, b2⟩ := left_iff.mp hb
      rcases List.mem_append.mp ha with y | y
      · exact hn.2.2 a y a b1 rfl
      · simp only [List.flatten_cons, List.flatten_nil, List.append_nil] at y
        exact b2 y
  · rcases List.mem_append.mp hc with z | z
    · exact h.same c z
    · have : c = ownL E n left one := by simpa using z
      subst this
      intro i hi j hj
      exact (own_iff.mp hi).2.2.trans (own_iff.mp hj).2.1
  · refine List.pairwise_append.mpr ⟨h.later, List.pairwise_singleton _ _, fun c hc d hd i hi j hj => ?_⟩
    have : d = ownL E n left one := by simpa using hd
    subst this
    exact h.src c hc i hi j (own_iff.mp hj).1
  · rcases List.mem_append.mp hc with z | z
    · exact h.ne c z
    · have : c = ownL E n left one := by simpa using z
      subst this
      exact List.ne_nil_of_mem hone
  · obtain ⟨j1, j2⟩ := left_iff.mp hj
    rcases List.mem_append.mp hc with z | z
    · exact h.src c z i hi j j1 hr
    · have : c = ownL E n left one := by simpa using z
      subst this
      obtain ⟨i1, i2, i3⟩ := own_iff.mp hi
      have hj1 : Reach E n j one := hr.trans i3
      have : ¬ (j ∈ aheadL E n left one) := by rw [ha]; exact fun z => by cases z
      refine j2 (own_iff.mpr ⟨j1, ?_, hj1⟩)
      refine Classical.byContradiction fun hno => this (List.mem_filter.mpr ⟨j1, ?_⟩)
      rw [Bool.and_eq_true, Bool.not_eq_true', ← Bool.not_eq_true, rb_iff, rb_iff]
      exact ⟨hj1, hno⟩
  · refine Nat.lt_of_lt_of_le (filter_len_lt (p := fun o => !(ownL E n left one).contains o) (q := fun _ => true) (l := left) (fun _ _ => rfl) ⟨one, h1, rfl, ?_⟩) ?_
    · simpa using hone
    · exact List.length_filter_le _ _
/-! the walk -/
abbrev pk (i j : Nat) : List Key := [Sum.inl (i : Int), Sum.inl (j : Int)]
theorem pk_inj {i j k l : Nat} (h : pk i j = pk k l) : i = k ∧ j = l := by
  injection h with h1 h2
  injection h2 with h2 h3
  exact ⟨inl_inj.mp h1, inl_inj.mp h2⟩
def Lk (E : Nat → Nat → Bool) (n : Nat) (P : Nat → Nat → Prop) (ds : List (List Key × D)) : Prop := ∀ i j, P i j → fnd ds (pk i j) = some (.bl (rb E n i j))
abbrev cv (x sh : D) (a : Option LV) (ds : List (List Key × D)) (b c d e f g : Option LV) : Lo := [some (.imm x), some (.imm sh), a, some (.own (.dT ds)), b, c, d, e, f, g]
noncomputable def cPut : MS := (sPut 3 (mOrV (mOp2 eqD (mVarB 4) (mVarB 5)) (mOp2 isnotD (mCall f_way_back (mCons (mVar 0) (mCons (mVar 1) (mCons (mVar 4) (mCons (mVar 5) (mPure [])))))) (mPure .non))) (mTup (mCons (mVar 4) (mCons (mVar 5) (mPure [])))))
theorem orV_t {m k : ME} {ρ : Lo} {S S1 : Sg} (h : m ρ S = some (.bl true, S1)) : mOrV m k ρ S = some (.bl true, S1) := by unfold mOrV; rw [h]; rfl
theorem orV_f {m k : ME} {ρ : Lo} {S S1 : Sg} {r} (h : m ρ S = some (.bl false, S1)) (h' : k ρ S1 = r) : mOrV m k ρ S = r := by unfold mOrV; rw [h]; exact h'
theorem cput_ev (hE : ReachF f_reaches x sh n E) (hn : n ≤ 1000) (hl : lenD [x] = some (.int (n : Nat))) {i j : Nat} (hi : i < n) (hj : j < n) {a : Option LV} {ds : List (List Key × D)} (hd : ds.length < 1000000) :
    cPut (cv x sh a ds (some (.imm (.int (i : Nat)))) (some (.imm (.int (j : Nat)))) none none none none) none = some (.nx, cv x sh a (putG ds (pk i j) (.bl (rb E n i j))) (some (.imm (.int (i : Nat)))) (some (.imm (.int (j : Nat)))) none none none none, none) := by
  have e0 : mOp2 eqD (mVarB 4) (mVarB 5) (cv x sh a ds (some (.imm (.int (i : Nat)))) (some (.imm (.int (j : Nat)))) none none none none) none = some (.bl (decide ((i : Int) = (j : Int))), none) := mOp2_of (ev_varB rfl) (ev_varB rfl) (eqD_int _ _)
  have e1 : (mOrV (mOp2 eqD (mVarB 4) (mVarB 5)) (mOp2 isnotD (mCall f_way_back (mCons (mVar 0) (mCons (mVar 1) (mCons (mVar 4) (mCons (mVar 5) (mPure [])))))) (mPure .non))) (cv x sh a ds (some (.imm (.int (i : Nat)))) (some (.imm (.int (j : Nat)))) none none none none) none = some (.bl (rb E n i j), none) := by
    by_cases hij : i = j
    · subst hij
      rw [decide_eq_true rfl] at e0
      rw [rb_iff.mpr (.refl : Reach E n i i)]
      exact orV_t e0
    · rw [decide_eq_false (by omega)] at e0
      have hc : ∀ {d}, f_way_back [x, sh, .int (i : Nat), .int (j : Nat)] = some d → mCall f_way_back (mCons (mVar 0) (mCons (mVar 1) (mCons (mVar 4) (mCons (mVar 5) (mPure []))))) (cv x sh a ds (some (.imm (.int (i : Nat)))) (some (.imm (.int (j : Nat)))) none none none none) none = some (d, none) := fun h =>
        mCall_of (cons_of (ev_var rfl) (cons_of (ev_var rfl) (cons_of (ev_var rfl) (cons_of (ev_var rfl) rfl)))) h
      rcases way_ev hE hn hl hi hj with ⟨hr, e2⟩ | ⟨hr, L, e2, _⟩
      · have : rb E n i j = false := by rw [← Bool.not_eq_true, rb_iff]; exact hr
        rw [this]
        exact orV_f e0 (mOp2_of (hc e2) rfl rfl)
      · rw [rb_iff.mpr hr]
        exact orV_f e0 (mOp2_of (hc e2) rfl rfl)
  exact putT_of rfl e1 (tup_of (cons_of (ev_var rfl) (cons_of (ev_var rfl) rfl)) (by simp)) rfl hd
theorem links_ev (hE : ReachF f_reaches x sh n E) (hn : n ≤ 900) (hl : lenD [x] = some (.int (n : Nat))) :
    ∃ ds b c, sFor (mRg1 (mCons (mVarB 2) (mPure []))) (gNm 4) (sFor (mRg1 (mCons (mVarB 2) (mPure []))) (gNm 5) cPut) (cv x sh (some (.imm (.int (n : Nat)))) [] none none none none none none) none = some (.nx, cv x sh (some (.imm (.int (n : Nat)))) ds b c none none none none, none) ∧ Lk E n (fun i j => i < n ∧ j < n) ds := by
  have hr : ∀ ds b c, mRg1 (mCons (mVarB 2) (mPure [])) (cv x sh (some (.imm (.int (n : Nat)))) ds b c none none none none) none = some (rangeL 0 n, none) := fun ds b c => rg1_nat (cons_of (ev_varB rfl) rfl) (by omega)
  have inner : ∀ i, i < n → ∀ ds c, ds.length ≤ i * n → Lk E n (fun k j => k < i ∧ j < n) ds → ∃ ds' c', sFor (mRg1 (mCons (mVarB 2) (mPure []))) (gNm 5) cPut (cv x sh (some (.imm (.int (n : Nat)))) ds (some (.imm (.int (i : Nat)))) c none none none none) none = some (.nx, cv x sh (some (.imm (.int (n : Nat)))) ds' (some (.imm (.int (i : Nat)))) c' none none none none, none) ∧ ds'.length ≤ (i + 1) * n ∧ Lk E n (fun k j => k < i + 1 ∧ j < n) ds' := fun i hi ds c h0 h1 => by
    have hin : (i + 1) * n ≤ n * n := Nat.mul_le_mul_right n (by omega)
    have hnn : n * n ≤ 900 * 900 := Nat.mul_le_mul hn hn
    have hsm : (i + 1) * n = i * n + n := Nat.succ_mul i n
    obtain ⟨fl, ρ', S', e, rfl, rfl, ds', c', rfl, h2, h3⟩ := for_run (g := gNm 5) (ms := cPut) (ds := rangeL 0 n) (P := fun fl ρ S => fl = .nx ∧ S = none ∧ ∃ ds' c', ρ = cv x sh (some (.imm (.int (n : Nat)))) ds' (some (.imm (.int (i : Nat)))) c' none none none none ∧ ds'.length ≤ i * n + n ∧ Lk E n (fun k j => k < i + 1 ∧ j < n) ds')
      (Inv := fun t ρ S => S = none ∧ ∃ ds' c', ρ = cv x sh (some (.imm (.int (n : Nat)))) ds' (some (.imm (.int (i : Nat)))) c' none none none none ∧ ds'.length ≤ i * n + t ∧ Lk E n (fun k j => (k < i ∧ j < n) ∨ (k = i ∧ j < t)) ds') 0
      (fun t d ρ S hd hI => by
        obtain ⟨ht, rfl⟩ := rangeL_get hd
        obtain ⟨rfl, ds', c', rfl, h2, h3⟩ := hI
        rw [Nat.zero_add] at h2 h3 ⊢
        have e := cput_ev hE (by omega) hl hi ht (a := some (.imm (.int (n : Nat)))) (ds := ds') (by omega)
        refine ⟨_, .nx, _, none, rfl, e, rfl, _, _, rfl, ?_, fun k j hkj => ?_⟩
        · have := putG_len ds' (pk i t) (D.bl (rb E n i t)); omega
        · rw [fnd_put]
          split
          · rename_i z
            obtain ⟨rfl, rfl⟩ := pk_inj z; rfl
          · rename_i z
            refine h3 k j ?_
            rcases hkj with y | ⟨rfl, y⟩
            · exact .inl y
            · refine .inr ⟨rfl, ?_⟩
              have : j ≠ t := fun w => z (by rw [w])
              omega)
      (fun ρ S hI => by
        obtain ⟨rfl, ds', c', rfl, h2, h3⟩ := hI
        rw [Nat.zero_add, rangeL_len] at h2 h3
        refine ⟨rfl, rfl, ds', c', rfl, h2, fun k j hkj => h3 k j ?_⟩
        by_cases hk : k < i
        · exact .inl ⟨hk, hkj.2⟩
        · exact .inr ⟨by omega, hkj.2⟩) (cv x sh (some (.imm (.int (n : Nat)))) ds (some (.imm (.int (i : Nat)))) c none none none none) none ⟨rfl, ds, c, rfl, by omega, fun k j hkj => by
          rcases hkj with y | y
          · exact h1 k j y
          · omega⟩
    exact ⟨ds', c', for_of (hr ds _ _) e, by omega, h3⟩
  obtain ⟨fl, ρ', S', e, rfl, rfl, ds', b, c, rfl, h2⟩ := for_run (g := gNm 4) (ms := sFor (mRg1 (mCons (mVarB 2) (mPure []))) (gNm 5) cPut) (ds := rangeL 0 n) (P := fun fl ρ S => fl = .nx ∧ S = none ∧ ∃ ds' b c, ρ = cv x sh (some (.imm (.int (n : Nat)))) ds' b c none none none none ∧ Lk E n (fun k j => k < n ∧ j < n) ds')
    (Inv := fun t ρ S => S = none ∧ ∃ ds' b c, ρ = cv x sh (some (.imm (.int (n : Nat)))) ds' b c none none none none ∧ ds'.length ≤ t * n ∧ Lk E n (fun k j => k < t ∧ j < n) ds') 0
    (fun i d ρ S hd hI => by
      obtain ⟨hi, rfl⟩ := rangeL_get hd
      obtain ⟨rfl, ds', b, c, rfl, h2, h3⟩ := hI
      rw [Nat.zero_add] at h2 h3 ⊢
      obtain ⟨ds2, c2, e, h4, h5⟩ := inner i hi ds' c h2 h3
      exact ⟨_, .nx, _, none, rfl, e, rfl, _, _, _, rfl, h4, h5⟩)
    (fun ρ S hI => by
      obtain ⟨rfl, ds', b, c, rfl, h2, h3⟩ := hI
      rw [Nat.zero_add, rangeL_len] at h3
      exact ⟨rfl, rfl, ds', b, c, rfl, h3⟩) (cv x sh (some (.imm (.int (n : Nat)))) [] none none none none none none) none ⟨rfl, [], none, none, rfl, by simp, fun k j h => by omega⟩
  exact ⟨ds', b, c, for_of (hr _ _ _) e, h2⟩
end
end K35
namespace K35
open PySem PyProof.Rows L2 Dv
open BW (A keys Reach)

def clD (cls : List (List Nat)) : List D := cls.map fun c => .lst (iD' c)
theorem paired_iD (l : List Nat) : Paired (fun d i => d = D.int ((i : Nat) : Int)) (iD' l) l := paired_mapL (R := fun d i => d = D.int ((i : Nat) : Int)) (e := fun i : Nat => D.int ((i : Nat) : Int)) (fun _ => rfl) l
theorem getT_ev {E : Nat → Nat → Bool} {n : Nat} {P : Nat → Nat → Prop} {ds : List (List Key × D)} (h : Lk E n P ds) {i j : Nat} (hp : P i j) : getD' (.dT ds) (.tup [.int (i : Nat), .int (j : Nat)]) = some (.bl (rb E n i j)) := h i j hp
section
variable {E : Nat → Nat → Bool} {n : Nat} {x sh : D}
abbrev kv (x sh : D) (n : Nat) (ds : List (List Key × D)) (b c : Option LV) (left : List Nat) (cls : List (List Nat)) (f g : Option LV) : Lo := [some (.imm x), some (.imm sh), some (.imm (.int (n : Nat))), some (.own (.dT ds)), b, c, some (.imm (.lst (iD' left))), some (.own (.lst (clD cls))), f, g]
noncomputable def tOn : MT := (mTst (mOp2 getD' (mVarB 3) (mTup (mCons (mVar 5) (mCons (mVar 4) (mPure []))))))
noncomputable def tNo : MT := (mTst (mOp2 getD' (mVarB 3) (mTup (mCons (mVar 4) (mCons (mVar 5) (mPure []))))))
theorem ton_ev {ds : List (List Key × D)} {left0 : List Nat} {cls : List (List Nat)} {f g : Option LV} (h : Lk E n (fun i j => i < n ∧ j < n) ds) {one o : Nat} (h1 : one < n) (h2 : o < n) : tOn (kv x sh n ds (some (.imm (.int (one : Nat)))) (some (.imm (.int (o : Nat)))) left0 cls f g) none = some (rb E n o one, none) :=
  mTst_of (mOp2_of (ev_varO rfl) (tup_of (cons_of (ev_var rfl) (cons_of (ev_var rfl) rfl)) (by simp)) (getT_ev h ⟨h2, h1⟩))
theorem tno_ev {ds : List (List Key × D)} {left0 : List Nat} {cls : List (List Nat)} {f g : Option LV} (h : Lk E n (fun i j => i < n ∧ j < n) ds) {one o : Nat} (h1 : one < n) (h2 : o < n) : tNo (kv x sh n ds (some (.imm (.int (one : Nat)))) (some (.imm (.int (o : Nat)))) left0 cls f g) none = some (rb E n one o, none) :=
  mTst_of (mOp2_of (ev_varO rfl) (tup_of (cons_of (ev_var rfl) (cons_of (ev_var rfl) rfl)) (by simp)) (getT_ev h ⟨h1, h2⟩))
theorem and_of {t u : MT} {ρ : Lo} {S : Sg} {a b : Bool} (h : t ρ S = some (a, S)) (h' : u ρ S = some (b, S)) : mAnd t u ρ S = some (a && b, S) := by
  cases a with
  | true => exact and_tt h (by rw [h']; rfl)
  | false => exact and_ff h
theorem not_of {t : MT} {ρ : Lo} {S S1 : Sg} {a : Bool} (h : t ρ S = some (a, S1)) : mNot t ρ S = some (!a, S1) := by unfold mNot; rw [h]; rfl
theorem lc_of {mi : MA} {vs : List Nat} {g : MG} {t : MT} {m : ME} {ρ : Lo} {S S1 S2 : Sg} {ds out : List D} (h : mi ρ S = some (ds, S1)) (h' : lcGo (wipeL ρ vs) g t m ds S1 = some (out, S2)) : mLc mi vs g t m ρ S = some (.lst out, S2) := by
  unfold mLc; rw [h]; simp only [Option.bind_some]; rw [h']; rfl
noncomputable def cIn : MS := (sSq (sSet 8 (mLc (mSeq (mVar 6)) [5] (gNm 5) (mAnd tOn (mNot tNo)) (mVar 5)))
  (sIf (mTst (mOp2 eqD (mVarB 8) (mLst (mPure [])))) (sSq (sSet 9 (mLc (mSeq (mVar 6)) [5] (gNm 5) (mAnd tNo tOn) (mVar 5)))
  sBk) sNil))
theorem cin_ev {ds : List (List Key × D)} {b c f g : Option LV} {left : List Nat} {cls : List (List Nat)} (h : Lk E n (fun i j => i < n ∧ j < n) ds) (hlt : ∀ i ∈ left, i < n) {one : Nat} (h1 : one ∈ left) :
    ∃ c', cIn (kv x sh n ds (some (.imm (.int (one : Nat)))) c left cls f g) none = if aheadL E n left one = [] then some (.bk, kv x sh n ds (some (.imm (.int (one : Nat)))) c' left cls (some (.imm (.lst (iD' (aheadL E n left one))))) (some (.imm (.lst (iD' (ownL E n left one))))), none)
      else some (.nx, kv x sh n ds (some (.imm (.int (one : Nat)))) c' left cls (some (.imm (.lst (iD' (aheadL E n left one))))) g, none) := by
  have hone := hlt one h1
  have e1 : sSet 8 (mLc (mSeq (mVar 6)) [5] (gNm 5) (mAnd tOn (mNot tNo)) (mVar 5)) (kv x sh n ds (some (.imm (.int (one : Nat)))) c left cls f g) none = some (.nx, kv x sh n ds (some (.imm (.int (one : Nat)))) c left cls (some (.imm (.lst (iD' (aheadL E n left one))))) g, none) := by
    refine set_of' (lc_of (mSeq_of (ev_var rfl) rfl) ?_)
    exact lc_if (R := fun d i => d = D.int ((i : Nat) : Int)) (fun o => rb E n o one && !rb E n one o) (fun i => D.int ((i : Nat) : Int)) (paired_iD left) fun d o hd ho => by
      subst hd
      refine ⟨kv x sh n ds (some (.imm (.int (one : Nat)))) (some (.imm (.int (o : Nat)))) left cls f g, rfl, ?_, fun _ => ev_var rfl⟩
      exact and_of (ton_ev h hone (hlt o ho)) (not_of (tno_ev h hone (hlt o ho)))
  have e2 : mTst (mOp2 eqD (mVarB 8) (mLst (mPure []))) (kv x sh n ds (some (.imm (.int (one : Nat)))) c left cls (some (.imm (.lst (iD' (aheadL E n left one))))) g) none = some (decide (aheadL E n left one = []), none) := mTst_of (mOp2_of (ev_varB rfl) rfl ints_nil')
  by_cases ha : aheadL E n left one = []
  · refine ⟨c, ?_⟩
    rw [if_pos ha]
    rw [decide_eq_true ha] at e2
    refine (sSq_nx e1).trans ?_
    rw [sIf_of e2]
    simp only [if_true]
    refine (sSq_nx (set_of' (lc_of (mSeq_of (ev_var rfl) rfl) ?_))).trans rfl
    exact lc_if (R := fun d i => d = D.int ((i : Nat) : Int)) (fun o => rb E n one o && rb E n o one) (fun i => D.int ((i : Nat) : Int)) (paired_iD left) fun d o hd ho => by
      subst hd
      refine ⟨kv x sh n ds (some (.imm (.int (one : Nat)))) (some (.imm (.int (o : Nat)))) left cls _ g, rfl, ?_, fun _ => ev_var rfl⟩
      exact and_of (tno_ev h hone (hlt o ho)) (ton_ev h hone (hlt o ho))
  · refine ⟨c, ?_⟩
    rw [if_neg ha]
    rw [decide_eq_false ha] at e2
    exact (sSq_nx e1).trans (whileIf e2)
noncomputable def cTurn : MS := (sSq (sFor (mSeq (mVar 6)) (gNm 4) cIn)
  (sSq (sApp 7 (mVar 9))
  (sSet 6 (mLc (mSeq (mVar 6)) [5] (gNm 5) (mTst (mOp2 ninD (mVarB 5) (mVarB 9))) (mVar 5)))))
theorem cturn_ev {ds : List (List Key × D)} {b c f g : Option LV} {left : List Nat} {cls : List (List Nat)} (h : Lk E n (fun i j => i < n ∧ j < n) ds) (hlt : ∀ i ∈ left, i < n) (hne : left ≠ []) (hc : cls.length < 1000000) :
    ∃ one b' c' f' g', one ∈ left ∧ aheadL E n left one = [] ∧ cTurn (kv x sh n ds b c left cls f g) none = some (.nx, kv x sh n ds b' c' (left.filter fun o => !(ownL E n left one).contains o) (cls ++ [ownL E n left one]) f' g', none) := by
  obtain ⟨fl, ρ', S', e, rfl, rfl, one, b', c', f', h1, h2, rfl⟩ := for_run (g := gNm 4) (ms := cIn) (ds := iD' left) (P := fun fl ρ S => fl = .nx ∧ S = none ∧ ∃ one b' c' f', one ∈ left ∧ aheadL E n left one = [] ∧ ρ = kv x sh n ds b' c' left cls f' (some (.imm (.lst (iD' (ownL E n left one))))))
    (Inv := fun k ρ S => S = none ∧ (∀ t one, t < k → left[t]? = some one → aheadL E n left one ≠ []) ∧ ∃ b' c' f' g', ρ = kv x sh n ds b' c' left cls f' g') 0
    (fun k d ρ S hd hI => by
      obtain ⟨rfl, h0, b', c', f', g', rfl⟩ := hI
      rw [Nat.zero_add] at h0 ⊢
      rw [List.getElem?_map] at hd
      obtain ⟨one, ho, rfl⟩ := Option.map_eq_some_iff.mp hd
      have hm := List.mem_of_getElem? ho
      obtain ⟨c2, e⟩ := cin_ev (x := x) (sh := sh) (b := b') (c := c') (f := f') (g := g') (cls := cls) h hlt hm
      by_cases ha : aheadL E n left one = []
      · rw [if_pos ha] at e
        exact ⟨_, .bk, _, none, rfl, e, rfl, rfl, one, _, _, _, hm, ha, rfl⟩
      · rw [if_neg ha] at e
        refine ⟨_, .nx, _, none, rfl, e, rfl, fun t o ht ho' => ?_, _, _, _, _, rfl⟩
        by_cases htk : t = k
        · subst htk
          rw [ho] at ho'
          cases ho'
          exact ha
        · exact h0 t o (by omega) ho')
    (fun ρ S hI => by
      obtain ⟨rfl, h0, _⟩ := hI
      obtain ⟨one, hm, ha⟩ := source_ex (E := E) (n := n) hne
      obtain ⟨t, ht⟩ := List.mem_iff_getElem?.mp hm
      have htl := (List.getElem?_eq_some_iff.mp ht).1
      exact absurd ha (h0 t one (by rw [Nat.zero_add, List.length_map]; exact htl) ht)) (kv x sh n ds b c left cls f g) none ⟨rfl, fun t one ht => by omega, b, c, f, g, rfl⟩
  refine ⟨one, b', c', f', some (.imm (.lst (iD' (ownL E n left one)))), h1, h2, ?_⟩
  have e2 := app_of (i := 7) (m := mVar 9) (ρ := kv x sh n ds b' c' left cls f' (some (.imm (.lst (iD' (ownL E n left one)))))) (S := none) rfl (ev_var rfl) (by unfold clD; rw [List.length_map]; exact hc)
  have ecl : clD cls ++ [D.lst (iD' (ownL E n left one))] = clD (cls ++ [ownL E n left one]) := by unfold clD; rw [List.map_append]; rfl
  rw [ecl] at e2
  refine (sSq_nx (for_of (mSeq_of (ev_var rfl) rfl) e)).trans ((sSq_nx e2).trans (set_of' (lc_of (mSeq_of (ev_var rfl) rfl) ?_)))
  exact lc_if (R := fun d i => d = D.int ((i : Nat) : Int)) (fun o => !(ownL E n left one).contains o) (fun i => D.int ((i : Nat) : Int)) (paired_iD left) fun d o hd ho => by
    subst hd
    exact ⟨kv x sh n ds b' (some (.imm (.int (o : Nat)))) left (cls ++ [ownL E n left one]) f' (some (.imm (.lst (iD' (ownL E n left one))))), rfl, mTst_of (mOp2_of (ev_varB rfl) (ev_varB rfl) (nin_ints _ _)), fun _ => ev_var rfl⟩
theorem clsM_eq : m_classes_of = (sSq (sSet 2 (mCall lenD (mCons (mVarB 0) (mPure []))))
  (sSq (sSetF 3 mNewT)
  (sSq (sFor (mRg1 (mCons (mVarB 2) (mPure []))) (gNm 4) (sFor (mRg1 (mCons (mVarB 2) (mPure []))) (gNm 5) cPut))
  (sSq (sPar2 6 7 false (mListRg (mVarB 2)) true (mLst (mPure [])))
  (sSq (sWh (mTst (mOp2 neD (mVarB 6) (mLst (mPure [])))) cTurn)
  (sFrz 7 (sRet (mVar 7)))))))) := rfl
theorem rangeL_iD (n : Nat) : rangeL 0 n = iD' (List.range n) := by
  unfold rangeL
  have e : ((n : Int) - 0).toNat = n := by omega
  rw [e]
  (refine List.map_congr_left fun i _ => ?_); simp
/-- the classes, the ahead ones first -/
theorem classes_ev (hE : ReachF f_reaches x sh n E) (hn : n ≤ 900) (hl : lenD [x] = some (.int (n : Nat))) : ∃ cls, f_classes_of [x, sh] = some (.lst (clD cls)) ∧ Cls (Reach E n) n cls := by
  obtain ⟨ds, b, c, e3, hL⟩ := links_ev hE hn hl
  have e1 : sSet 2 (mCall lenD (mCons (mVarB 0) (mPure []))) (startL 10 [x, sh]) none = some (.nx, [some (.imm x), some (.imm sh), some (.imm (.int (n : Nat))), none, none, none, none, none, none, none], none) := set_of' (mCall_of (cons_of (ev_varB rfl) rfl) hl)
  have e2 : sSetF 3 mNewT [some (.imm x), some (.imm sh), some (.imm (.int (n : Nat))), none, none, none, none, none, none, none] none = some (.nx, cv x sh (some (.imm (.int (n : Nat)))) [] none none none none none none, none) := rfl
  have e4 : sPar2 6 7 false (mListRg (mVarB 2)) true (mLst (mPure [])) (cv x sh (some (.imm (.int (n : Nat)))) ds b c none none none none) none = some (.nx, kv x sh n ds b c (List.range n) [] none none, none) := by
    refine sPar2_of (S1 := none) ?_ rfl
    unfold mListRg
    rw [ev_varB rfl]
    simp only [Option.bind_some]
    rw [if_pos (by omega), rangeL_iD]
  obtain ⟨ρ', e5, cls, b', c', f', g', rfl, hp⟩ := while_run (t := mTst (mOp2 neD (mVarB 6) (mLst (mPure [])))) (m := cTurn) (S := none) (fun (s : List (List Nat) × List Nat) ρ => Part E n s.1 s.2 ∧ s.1.length + s.2.length ≤ n ∧ ∃ b c f g, ρ = kv x sh n ds b c s.2 s.1 f g) (fun s => s.2.length)
    (fun ρ => ∃ cls b c f g, ρ = kv x sh n ds b c [] cls f g ∧ Part E n cls []) (fun s ρ hI => by
      obtain ⟨cls, left⟩ := s
      obtain ⟨hp, hlen, b, c, f, g, rfl⟩ := hI
      dsimp only at hp hlen
      have et : mTst (mOp2 neD (mVarB 6) (mLst (mPure []))) (kv x sh n ds b c left cls f g) none = some (decide (left ≠ []), none) := mTst_of (mOp2_of (ev_varB rfl) rfl ints_nil)
      by_cases h0 : left = []
      · subst h0
        exact .inl ⟨et, cls, b, c, f, g, rfl, hp⟩
      · refine .inr ⟨by rw [decide_eq_true h0] at et; exact et, ?_⟩
        obtain ⟨one, b', c', f', g', h1, h2, e⟩ := cturn_ev (x := x) (sh := sh) (b := b) (c := c) (f := f) (g := g) (cls := cls) hL hp.ltl h0 (by omega)
        obtain ⟨hp', hlt⟩ := part_step hp h1 h2
        refine ⟨.nx, _, (cls ++ [ownL E n left one], _), e, .inl rfl, ⟨hp', ?_, b', c', f', g', rfl⟩, hlt⟩
        simp only [List.length_append, List.length_cons, List.length_nil]
        omega) ([], List.range n) (kv x sh n ds b c (List.range n) [] none none) ⟨part_start, by simp, b, c, none, none, rfl⟩
  refine ⟨cls, ?_, part_end hp⟩
  have e6 : sFrz 7 (sRet (mVar 7)) (kv x sh n ds b' c' [] cls f' g') none = some (.rt (.lst (clD cls)), [some (.imm x), some (.imm sh), some (.imm (.int (n : Nat))), some (.own (.dT ds)), b', c', some (.imm (.lst (iD' []))), some (.imm (.lst (clD cls))), f', g'], none) := rfl
  have : m_classes_of (startL 10 [x, sh]) none = some (.rt (.lst (clD cls)), [some (.imm x), some (.imm sh), some (.imm (.int (n : Nat))), some (.own (.dT ds)), b', c', some (.imm (.lst (iD' []))), some (.imm (.lst (clD cls))), f', g'], none) := by
    rw [clsM_eq]
    exact (sSq_nx e1).trans ((sSq_nx e2).trans ((sSq_nx e3).trans ((sSq_nx e4).trans ((sSq_nx e5).trans e6))))
  exact runP_rt rfl this
end
end K35
namespace K35
open PySem PyProof.Rows L2 Dv

/-! ### the least, the greatest -/
def rmin (a : Rat) (l : List Rat) : Rat := l.foldl (fun a q => if decide (q < a) then q else a) a
def rmax (a : Rat) (l : List Rat) : Rat := l.foldl (fun a q => if decide (a < q) then q else a) a
theorem rmin_cons (a q : Rat) (l : List Rat) : rmin a (q :: l) = rmin (if decide (q < a) then q else a) l := rfl
theorem rmax_cons (a q : Rat) (l : List Rat) : rmax a (q :: l) = rmax (if decide (a < q) then q else a) l := rfl
theorem rmin_le : ∀ (l : List Rat) (a : Rat), rmin a l ≤ a ∧ ∀ q ∈ l, rmin a l ≤ q
  | [], a => ⟨Rat.le_refl, fun q h => by cases h⟩
  | x :: l, a => by
    rw [rmin_cons]
    by_cases h : x < a
    · simp only [h, decide_true, if_true]
      obtain ⟨h1, h2⟩ := rmin_le l x
      (refine ⟨Rat.le_trans h1 (Rat.le_of_lt h), fun q hq => ?_⟩); rcases List.mem_cons.mp hq with rfl | hq
      · exact h1
      · exact h2 q hq
    · simp only [h, decide_false, Bool.false_eq_true, if_false]
      obtain ⟨h1, h2⟩ := rmin_le l a
      (refine ⟨h1, fun q hq => ?_⟩); rcases List.mem_cons.mp hq with rfl | hq
      · exact Rat.le_trans h1 (Rat.not_lt.mp h)
      · exact h2 q hq
theorem rmax_ge : ∀ (l : List Rat) (a : Rat), a ≤ rmax a l ∧ ∀ q ∈ l, q ≤ rmax a l
  | [], a => ⟨Rat.le_refl, fun q h => by cases h⟩
  | x :: l, a => by
    rw [rmax_cons]
    by_cases h : a < x
    · simp only [h, decide_true, if_true]
      obtain ⟨h1, h2⟩ := rmax_ge l x
      (refine ⟨Rat.le_trans (Rat.le_of_lt h) h1, fun q hq => ?_⟩); rcases List.mem_cons.mp hq with rfl | hq
      · exact h1
      · exact h2 q hq
    · simp only [h, decide_false, Bool.false_eq_true, if_false]
      obtain ⟨h1, h2⟩ := rmax_ge l a
      (refine ⟨h1, fun q hq => ?_⟩); rcases List.mem_cons.mp hq with rfl | hq
      · exact Rat.le_trans (Rat.not_lt.mp h) h1
      · exact h2 q hq
theorem rmin_mem : ∀ (l : List Rat) (a : Rat), rmin a l = a ∨ rmin a l ∈ l
  | [], a => .inl rfl
  | x :: l, a => by
    rw [rmin_cons]
    by_cases h : x < a
    · simp only [h, decide_true, if_true]
      rcases rmin_mem l x with e | e
      · exact .inr (by rw [e]; exact List.mem_cons_self)
      · exact .inr (List.mem_cons_of_mem _ e)
    · simp only [h, decide_false, Bool.false_eq_true, if_false]
      rcases rmin_mem l a with e | e
      · exact .inl e
      · exact .inr (List.mem_cons_of_mem _ e)
theorem rmax_mem : ∀ (l : List Rat) (a : Rat), rmax a l = a ∨ rmax a l ∈ l
  | [], a => .inl rfl
  | x :: l, a => by
    rw [rmax_cons]
    by_cases h : a < x
    · simp only [h, decide_true, if_true]
      rcases rmax_mem l x with e | e
      · exact .inr (by rw [e]; exact List.mem_cons_self)
      · exact .inr (List.mem_cons_of_mem _ e)
    · simp only [h, decide_false, Bool.false_eq_true, if_false]
      rcases rmax_mem l a with e | e
      · exact .inl e
      · exact .inr (List.mem_cons_of_mem _ e)
/-- one after the other, the better one kept -/
def pick2 (b : Rat → Rat → Bool) (a : Rat) (l : List Rat) : Rat := l.foldl (fun a q => if b a q then q else a) a
theorem best_go {b : Rat → Rat → Bool} {t : MT} {Y : Nat} {d0 : D} (ht : ∀ (dx dq : D) (a q : Rat), IsR dx a → IsR dq q → Sz Y a → Sz Y q → t [some (.imm d0), some (.imm dx), some (.imm dq)] none = some (b a q, none)) :
    ∀ {ds : List D} {l : List Rat}, RL ds l → (∀ q ∈ l, Sz Y q) → ∀ (dx : D) (a : Rat) (z : Option LV), IsR dx a → Sz Y a → ∃ d z', forGo (gNm 2) (sSet 1 (mIte t (mVar 2) (mVar 1))) ds [some (.imm d0), some (.imm dx), z] none = some (.nx, [some (.imm d0), some (.imm d), z'], none) ∧ IsR d (pick2 b a l)
  | _, _, .nil, _, dx, a, z, hx, _ => ⟨dx, z, rfl, hx⟩
  | d :: ds, q :: l, .cons r p, hl, dx, a, z, hx, ha => by
    have e := ht dx d a q hx r ha (hl q List.mem_cons_self)
    have e1 : (sSet 1 (mIte t (mVar 2) (mVar 1))) [some (.imm d0), some (.imm dx), some (.imm d)] none = some (.nx, [some (.imm d0), some (.imm (if b a q then d else dx)), some (.imm d)], none) := by
      unfold sSet mIte
      rw [e]
      cases b a q <;> rfl
    obtain ⟨d', z', h, h2⟩ := best_go ht p (fun q hq => hl q (List.mem_cons_of_mem _ hq)) (if b a q then d else dx) (if b a q then q else a) (some (.imm d)) (by split; exact r; exact hx) (by split; exact hl q List.mem_cons_self; exact ha)
    refine ⟨d', z', ?_, h2⟩
    rw [← h]
    show Option.bind (gNm 2 d [some (.imm d0), some (.imm dx), z]) _ = _
    show Option.bind (some _) _ = _
    simp only [Option.bind_some]
    rw [show [some (LV.imm d0), some (LV.imm dx), z].set 2 (some (LV.imm d)) = [some (LV.imm d0), some (LV.imm dx), some (LV.imm d)] from rfl, e1]
    rfl
theorem best_ev {b : Rat → Rat → Bool} {t : MT} {Y : Nat} {m : MS} (hm : m = (sSq (sSet 1 (mOp2 ixD (mVarB 0) (mPure (.int 0))))
  (sSq (sFor (mSeq (mSl slD (mVarB 0) (mPart (mPure (.int 1))) (mPure none))) (gNm 2) (sSet 1 (mIte t (mVar 2) (mVar 1))))
  (sRet (mVar 1))))) (ht : ∀ (d0 dx dq : D) (a q : Rat), IsR dx a → IsR dq q → Sz Y a → Sz Y q → t [some (.imm d0), some (.imm dx), some (.imm dq)] none = some (b a q, none)) {d : D} {ds : List D} {w : Rat} {ws : List Rat} (hd : IsR d w) (hr : RL ds ws) (hs : ∀ q ∈ w :: ws, Sz Y q) :
    ∃ d', runP 1 3 m [.lst (d :: ds)] = some d' ∧ IsR d' (pick2 b w ws) := by
  have e0 : ixD (.lst (d :: ds)) (.int 0) = some d := ix_nat (n := 0) rfl rfl
  obtain ⟨d', z, e2, h2⟩ := best_go (ht (.lst (d :: ds))) hr (fun q hq => hs q (List.mem_cons_of_mem _ hq)) d w none hd (hs w List.mem_cons_self)
  have e3 : mSeq (mSl slD (mVarB 0) (mPart (mPure (.int 1))) (mPure none)) [some (.imm (.lst (d :: ds))), some (.imm d), none] none = some (ds, none) := mSeq_of (mSl_of (ev_varB rfl) rfl rfl (sl_tailL _ _)) rfl
  refine ⟨d', ?_, h2⟩
  have : m (startL 3 [.lst (d :: ds)]) none = some (.rt d', [some (.imm (.lst (d :: ds))), some (.imm d'), z], none) := by
    rw [hm]
    exact (sSq_nx (set_of' (mOp2_of (ev_varB rfl) rfl e0))).trans ((sSq_nx (for_of e3 e2)).trans (sRet_of (ev_var rfl)))
  exact runP_rt rfl this
theorem least_ev {Y : Nat} (hY : Y + Y < 900000) {d : D} {ds : List D} {w : Rat} {ws : List Rat} (hd : IsR d w) (hr : RL ds ws) (hs : ∀ q ∈ w :: ws, Sz Y q) : ∃ d', f_least_of [.lst (d :: ds)] = some d' ∧ IsR d' (rmin w ws) :=
  best_ev (b := fun a q => decide (q < a)) (t := mTst (mCall f_is_less (mCons (mVar 2) (mCons (mVar 1) (mPure []))))) (m := m_least_of) rfl (fun d0 dx dq a q hx hq sa sq => mTst_of (mCall_of (cons_of (ev_var rfl) (cons_of (ev_var rfl) rfl)) (less_sz hq hx sq sa hY))) hd hr hs
theorem greatest_ev {Y : Nat} (hY : Y + Y < 900000) {d : D} {ds : List D} {w : Rat} {ws : List Rat} (hd : IsR d w) (hr : RL ds ws) (hs : ∀ q ∈ w :: ws, Sz Y q) : ∃ d', f_greatest_of [.lst (d :: ds)] = some d' ∧ IsR d' (rmax w ws) :=
  best_ev (b := fun a q => decide (a < q)) (t := mTst (mCall f_is_less (mCons (mVar 1) (mCons (mVar 2) (mPure []))))) (m := m_greatest_of) rfl (fun d0 dx dq a q hx hq sa sq => mTst_of (mCall_of (cons_of (ev_var rfl) (cons_of (ev_var rfl) rfl)) (less_sz hx hq sa sq hY))) hd hr hs
/-! ### what was told -/
abbrev Told := List (Nat × D × D)
def tlD (tl : Told) : List (Key × D) := tl.map fun e => (Sum.inl ((e.1 : Nat) : Int), .tup [e.2.1, e.2.2])
structure TlR (tl : Told) (nu ra : Nat → Rat) (A B : Nat) : Prop where
  nd : (tl.map (·.1)).Nodup
  num : ∀ e ∈ tl, IsR e.2.1 (nu e.1)
  rat : ∀ e ∈ tl, IsR e.2.2 (ra e.1)
  sa : ∀ e ∈ tl, Sz A (nu e.1)
  sb : ∀ e ∈ tl, Sz B (ra e.1)
theorem tl_get {tl : Told} (h : (tl.map (·.1)).Nodup) {e : Nat × D × D} (he : e ∈ tl) : getD' (.dK (tlD tl)) (.int (e.1 : Nat)) = some (.tup [e.2.1, e.2.2]) := by
  have hn' : ((tlD tl).map (·.1)).Nodup := by
    unfold tlD
    rw [List.map_map]
    have h2 := List.pairwise_map.mp h
    exact List.pairwise_map.mpr (h2.imp fun hne z => hne (inl_inj.mp z))
  exact find_new (k := (Sum.inl ((e.1 : Nat) : Int) : Key)) hn' (List.mem_map.mpr ⟨e, he, rfl⟩)
theorem tl_keys {tl : Told} {i : Nat} {ρ : Lo} {S : Sg} (hi : ρ[i]? = some (some (.imm (.dK (tlD tl))))) (hl : tl.length < 1000000) : mKeys i ρ S = some (iD' (tl.map (·.1)), S) := by
  unfold mKeys
  rw [hi]
  have : (tlD tl).length < 1000000 := by unfold tlD; rw [List.length_map]; exact hl
  simp only
  rw [if_pos this]
  (unfold tlD iD'); rw [List.map_map, List.map_map]
  rfl
structure GapF (x sh : D) (n : Nat) (gp : Nat → Nat → Rat) (G : Nat) : Prop where
  ev : ∀ i j, i < n → j < n → f_gap_at [x, sh, .int (i : Nat), .int (j : Nat)] = some (mk (gp i j))
  sz : ∀ i j, i < n → j < n → Sz G (gp i j)
section
variable {x sh : D} {n G A B : Nat} {gp : Nat → Nat → Rat} {tl : Told} {nu ra : Nat → Rat} {own : List Nat}
def cand (gp : Nat → Nat → Rat) (nu ra : Nat → Rat) (own : List Nat) (ks : List Nat) : List Rat := ks.flatMap fun k => own.map fun p => nu k + ra k * gp k p
theorem cand_app (ks ks' : List Nat) : cand gp nu ra own (ks ++ ks') = cand gp nu ra own ks ++ cand gp nu ra own ks' := by unfold cand; rw [List.flatMap_append]
theorem cand_len (ks : List Nat) : (cand gp nu ra own ks).length = ks.length * own.length := by
  induction ks with
  | nil => simp [cand]
  | cons k ks ih =>
    have : cand gp nu ra own (k :: ks) = (own.map fun p => nu k + ra k * gp k p) ++ cand gp nu ra own ks := rfl
    rw [this, List.length_append, List.length_map, ih, List.length_cons, Nat.succ_mul]; omega
abbrev nv (x sh : D) (tl : Told) (own : List Nat) (f : Option LV) (a b c d : Option LV) : Lo := [some (.imm x), some (.imm sh), some (.imm (.dK (tlD tl))), some (.imm (.lst (iD' own))), f, a, b, c, d]
noncomputable def nBody : MS := (sSq (sAsg (mOp2 getD' (mVarB 2) (mVarB 5)) (gTp 2 (gCns (gNm 6) (gCns (gNm 7) gNl))))
  (sExt 4 (mLc (mSeq (mVar 3)) [8] (gNm 8) (mPure true) (mCall f_plus (mCons (mVar 6) (mCons (mCall f_times (mCons (mVar 7) (mCons (mCall f_gap_at (mCons (mVar 0) (mCons (mVar 1) (mCons (mVar 5) (mCons (mVar 8) (mPure [])))))) (mPure [])))) (mPure [])))))))
theorem asg_of {m : ME} {g : MG} {ρ ρ' : Lo} {S S1 : Sg} {d : D} (h : m ρ S = some (d, S1)) (hg : g d ρ = some ρ') : sAsg m g ρ S = some (.nx, ρ', S1) := by
  unfold sAsg; rw [h]; simp only [Option.bind_some]; rw [hg]; rfl
theorem nbody_ev (hg : GapF x sh n gp G) (ht : TlR tl nu ra A B) (hk : ∀ e ∈ tl, e.1 < n) (ho : ∀ i ∈ own, i < n) (hS : A + (B + G) < 8990) {e : Nat × D × D} (he : e ∈ tl) {out : List Rat} {b c d : Option LV} (hl : out.length + own.length ≤ 1000000) :
    ∃ b' c', nBody (nv x sh tl own (some (.own (.lst (out.map mk)))) (some (.imm (.int (e.1 : Nat)))) b c d) none = some (.nx, nv x sh tl own (some (.own (.lst ((out ++ own.map fun p => nu e.1 + ra e.1 * gp e.1 p).map mk)))) (some (.imm (.int (e.1 : Nat)))) b' c' d, none) := by
  have e1 : sAsg (mOp2 getD' (mVarB 2) (mVarB 5)) (gTp 2 (gCns (gNm 6) (gCns (gNm 7) gNl))) (nv x sh tl own (some (.own (.lst (out.map mk)))) (some (.imm (.int (e.1 : Nat)))) b c d) none = some (.nx, nv x sh tl own (some (.own (.lst (out.map mk)))) (some (.imm (.int (e.1 : Nat)))) (some (.imm e.2.1)) (some (.imm e.2.2)) d, none) :=
    asg_of (mOp2_of (ev_varB rfl) (ev_varB rfl) (tl_get ht.nd he)) rfl
  have el := lc_rel (R := fun d i => d = D.int ((i : Nat) : Int)) (g := gNm 8) (t := mPure true) (m := (mCall f_plus (mCons (mVar 6) (mCons (mCall f_times (mCons (mVar 7) (mCons (mCall f_gap_at (mCons (mVar 0) (mCons (mVar 1) (mCons (mVar 5) (mCons (mVar 8) (mPure [])))))) (mPure [])))) (mPure []))))) (S := none)
    (ρ := nv x sh tl own (some (.own (.lst (out.map mk)))) (some (.imm (.int (e.1 : Nat)))) (some (.imm e.2.1)) (some (.imm e.2.2)) none) (fun p => mk (nu e.1 + ra e.1 * gp e.1 p)) (paired_iD own) fun d p hd hp => by
      subst hd
      have g1 := hg.ev e.1 p (hk e he) (ho p hp)
      have g2 := hg.sz e.1 p (hk e he) (ho p hp)
      have t1 := times_sz (ht.rat e he) (isR_mk (gp e.1 p)) (ht.sb e he) g2 (by omega)
      have t2 := plus_sz (ht.num e he) (isR_mk (ra e.1 * gp e.1 p)) (ht.sa e he) ((ht.sb e he).mul g2) hS
      refine ⟨nv x sh tl own (some (.own (.lst (out.map mk)))) (some (.imm (.int (e.1 : Nat)))) (some (.imm e.2.1)) (some (.imm e.2.2)) (some (.imm (.int (p : Nat)))), rfl, rfl, ?_⟩
      exact mCall_of (cons_of (ev_var rfl) (cons_of (mCall_of (cons_of (ev_var rfl) (cons_of (mCall_of (cons_of (ev_var rfl) (cons_of (ev_var rfl) (cons_of (ev_var rfl) (cons_of (ev_var rfl) rfl)))) g1) rfl)) t1) rfl)) t2
  refine ⟨some (.imm e.2.1), some (.imm e.2.2), (sSq_nx e1).trans ?_⟩
  have e2 := ext_of (i := 4) (ρ := nv x sh tl own (some (.own (.lst (out.map mk)))) (some (.imm (.int (e.1 : Nat)))) (some (.imm e.2.1)) (some (.imm e.2.2)) d) (S := none) rfl (lc_of (mi := mSeq (mVar 3)) (vs := [8]) (mSeq_of (ev_var rfl) rfl) el) (by rw [List.length_map, List.length_map]; exact hl)
  rw [e2]
  rw [List.map_append, List.map_map]
  rfl
theorem number_ev (hg : GapF x sh n gp G) (ht : TlR tl nu ra A B) (hk : ∀ e ∈ tl, e.1 < n) (ho : ∀ i ∈ own, i < n) (hown : own ≠ []) (hS : A + (B + G) < 8990) (hl : tl.length ≤ 900) (hlo : own.length ≤ 900) :
    ∃ d q, f_number_for [x, sh, .dK (tlD tl), .lst (iD' own)] = some d ∧ IsR d q ∧ Sz (A + (B + G) + 1) q ∧ (∀ e ∈ tl, ∀ p ∈ own, q ≤ nu e.1 + ra e.1 * gp e.1 p) ∧ (tl = [] → q = 0) := by
  obtain ⟨fl, ρ', S', e, rfl, rfl, a, b, c, d, rfl⟩ := for_run (g := gNm 5) (ms := nBody) (ds := iD' (tl.map (·.1))) (P := fun fl ρ S => fl = .nx ∧ S = none ∧ ∃ a b c d, ρ = nv x sh tl own (some (.own (.lst ((cand gp nu ra own (tl.map (·.1))).map mk)))) a b c d)
    (Inv := fun k ρ S => S = none ∧ ∃ a b c d, ρ = nv x sh tl own (some (.own (.lst ((cand gp nu ra own ((tl.map (·.1)).take k)).map mk)))) a b c d) 0
    (fun k d ρ S hd hI => by
      obtain ⟨rfl, a, b, c, d', rfl⟩ := hI
      rw [Nat.zero_add]
      rw [List.getElem?_map, List.getElem?_map] at hd
      obtain ⟨i, hi, rfl⟩ := Option.map_eq_some_iff.mp hd
      obtain ⟨e, he, rfl⟩ := Option.map_eq_some_iff.mp hi
      have hm := List.mem_of_getElem? he
      have hlt := (List.getElem?_eq_some_iff.mp he).1
      have hlen : (cand gp nu ra own ((tl.map (·.1)).take k)).length ≤ 900 * 900 := by
        rw [cand_len, List.length_take, List.length_map]
        exact Nat.mul_le_mul (by omega) hlo
      obtain ⟨b', c', e2⟩ := nbody_ev hg ht hk ho hS hm (out := cand gp nu ra own ((tl.map (·.1)).take k)) (b := b) (c := c) (d := d') (by omega)
      have et : (tl.map (·.1)).take (k + 1) = (tl.map (·.1)).take k ++ [e.1] := by
        rw [List.take_add_one, List.getElem?_map, hi]; rfl
      have ec : cand gp nu ra own [e.1] = own.map fun p => nu e.1 + ra e.1 * gp e.1 p := by unfold cand; simp
      rw [← ec, ← cand_app, ← et] at e2
      exact ⟨_, .nx, _, none, rfl, e2, rfl, _, _, _, _, rfl⟩)
    (fun ρ S hI => by
      obtain ⟨rfl, a, b, c, d, rfl⟩ := hI
      refine ⟨rfl, rfl, a, b, c, d, ?_⟩
      rw [Nat.zero_add, List.length_map, List.take_length]) (nv x sh tl own (some (.own (.lst []))) none none none none) none ⟨rfl, none, none, none, none, rfl⟩
  have e1 : sSetF 4 (mLst (mPure [])) (startL 9 [x, sh, .dK (tlD tl), .lst (iD' own)]) none = some (.nx, nv x sh tl own (some (.own (.lst []))) none none none none, none) := rfl
  have e2 := for_of (mi := mKeys 2) (tl_keys (i := 2) (ρ := nv x sh tl own (some (.own (.lst []))) none none none none) (S := none) rfl (by omega)) e
  have hsz : ∀ q ∈ cand gp nu ra own (tl.map (·.1)), Sz (A + (B + G) + 1) q := fun q hq => by
    obtain ⟨k, hk1, hq⟩ := List.mem_flatMap.mp hq
    obtain ⟨e, he, rfl⟩ := List.mem_map.mp hk1
    (obtain ⟨p, hp, rfl⟩ := List.mem_map.mp hq); exact (ht.sa e he).add ((ht.sb e he).mul (hg.sz e.1 p (hk e he) (ho p hp)))
  have hdp : ∀ d ∈ (cand gp nu ra own (tl.map (·.1))).map mk, DP 1 d := fun d hd => by
    obtain ⟨q, _, rfl⟩ := List.mem_map.mp hd
    refine dp_tup fun y hy => ?_
    rcases List.mem_cons.mp hy with z | z
    · subst z; exact dp_int _ _
    · (rcases List.mem_cons.mp z with z | z)
      · subst z; exact dp_int _ _
      · cases z
  have e3 : mTst (mOp2 eqD (mVarB 4) (mLst (mPure []))) (nv x sh tl own (some (.imm (.lst ((cand gp nu ra own (tl.map (·.1))).map mk)))) a b c d) none = some (decide ((cand gp nu ra own (tl.map (·.1))).map mk = []), none) := mTst_of (mOp2_of (ev_varB rfl) rfl (eq_lst_nil hdp (by omega)).1)
  have numM : m_number_for = (sSq (sSetF 4 (mLst (mPure []))) (sSq (sFor (mKeys 2) (gNm 5) nBody) (sFrz 4 (sRet (mIte (mTst (mOp2 eqD (mVarB 4) (mLst (mPure [])))) (mPure (.kt [(.int 0), (.int 1)])) (mCall f_least_of (mCons (mVar 4) (mPure [])))))))) := rfl
  have fin : ∀ d1, (mIte (mTst (mOp2 eqD (mVarB 4) (mLst (mPure [])))) (mPure (.kt [(.int 0), (.int 1)])) (mCall f_least_of (mCons (mVar 4) (mPure [])))) (nv x sh tl own (some (.imm (.lst ((cand gp nu ra own (tl.map (·.1))).map mk)))) a b c d) none = some (d1, none) → f_number_for [x, sh, .dK (tlD tl), .lst (iD' own)] = some d1 := fun d1 h => by
    have : m_number_for (startL 9 [x, sh, .dK (tlD tl), .lst (iD' own)]) none = some (.rt d1, nv x sh tl own (some (.imm (.lst ((cand gp nu ra own (tl.map (·.1))).map mk)))) a b c d, none) := by
      rw [numM]
      refine (sSq_nx e1).trans ((sSq_nx e2).trans ?_)
      show sRet _ (frz 4 _) none = _
      exact sRet_of h
    exact runP_rt rfl this
  by_cases h0 : tl = []
  · refine ⟨.kt [.int 0, .int 1], 0, fin _ ?_, isR_zero, sz_zero.mono (by omega), fun e he => (by rw [h0] at he; cases he), fun _ => rfl⟩
    have : (cand gp nu ra own (tl.map (·.1))).map mk = [] := by rw [h0]; rfl
    rw [decide_eq_true this] at e3
    unfold mIte; rw [e3]; rfl
  · cases hc : cand gp nu ra own (tl.map (·.1)) with
    | nil =>
      have := cand_len (gp := gp) (nu := nu) (ra := ra) (own := own) (tl.map (·.1))
      rw [hc, List.length_nil, List.length_map] at this
      have h1 := List.length_pos_iff.mpr h0
      have h2 := List.length_pos_iff.mpr hown
      have := Nat.mul_pos h1 h2
      omega
    | cons w ws =>
      rw [hc] at hsz e3 fin
      obtain ⟨d1, e4, h4⟩ := least_ev (by omega) (isR_mk w) (rl_mk ws) hsz
      have hmin := rmin_le ws w
      have hq : ∀ q ∈ w :: ws, rmin w ws ≤ q := fun q hq => by
        rcases List.mem_cons.mp hq with z | z
        · subst z; exact hmin.1
        · exact hmin.2 q z
      refine ⟨d1, rmin w ws, fin _ ?_, h4, ?_, fun e he p hp => hq _ ?_, fun z => absurd z h0⟩
      · rw [decide_eq_false (by simp)] at e3
        unfold mIte; rw [e3]
        simp only [Option.bind_some, Bool.false_eq_true, if_false]
        exact mCall_of (cons_of (ev_var rfl) rfl) e4
      · rcases rmin_mem ws w with z | z
        · rw [z]; exact hsz w List.mem_cons_self
        · exact hsz _ (List.mem_cons_of_mem _ z)
      · rw [← hc]
        exact List.mem_flatMap.mpr ⟨e.1, List.mem_map.mpr ⟨e, he, rfl⟩, List.mem_map.mpr ⟨p, hp, rfl⟩⟩
end
end K35
namespace K35
open PySem PyProof.Rows L2 Dv

section
variable {x sh : D} {n G A B : Nat} {gp : Nat → Nat → Rat} {tl : Told} {nu ra : Nat → Rat}
abbrev tv (x sh : D) (tl : Told) (p : Nat) (q : D) (f : Option LV) (a : Option LV) : Lo := [some (.imm x), some (.imm sh), some (.imm (.dK (tlD tl))), some (.imm (.int (p : Nat))), some (.imm q), f, a]
noncomputable def tBody : MS := (sApp 5 (mCall f_over (mCons (mCall f_minus (mCons (mOp2 ixD (mOp2 getD' (mVarB 2) (mVarB 6)) (mPure (.int 0))) (mCons (mVar 4) (mPure [])))) (mCons (mCall f_gap_at (mCons (mVar 0) (mCons (mVar 1) (mCons (mVar 3) (mCons (mVar 6) (mPure [])))))) (mPure [])))))
def rts (gp : Nat → Nat → Rat) (nu : Nat → Rat) (q : Rat) (p : Nat) (ks : List Nat) : List Rat := ks.map fun k => (nu k - q) / gp p k
theorem rate_ev (hg : GapF x sh n gp G) (ht : TlR tl nu ra A B) (hk : ∀ e ∈ tl, e.1 < n) {p : Nat} (hp : p < n) {dq : D} {q : Rat} {A' : Nat} (hq : IsR dq q) (sq : Sz A' q) (hpos : ∀ e ∈ tl, 0 < gp p e.1) (hS : A + A' + 1 + G < 8990) (hl : tl.length ≤ 900) :
    ∃ d r, f_rate_for [x, sh, .dK (tlD tl), .int (p : Nat), dq] = some d ∧ IsR d r ∧ Sz (A + A' + 1 + G) r ∧ 1 ≤ r ∧ (∀ e ∈ tl, nu e.1 ≤ q + r * gp p e.1) ∧ (tl = [] → r = 1) := by
  obtain ⟨fl, ρ', S', e, rfl, rfl, a, rfl⟩ := for_run (g := gNm 6) (ms := tBody) (ds := iD' (tl.map (·.1))) (P := fun fl ρ S => fl = .nx ∧ S = none ∧ ∃ a, ρ = tv x sh tl p dq (some (.own (.lst (.kt [.int 1, .int 1] :: (rts gp nu q p (tl.map (·.1))).map mk)))) a)
    (Inv := fun k ρ S => S = none ∧ ∃ a, ρ = tv x sh tl p dq (some (.own (.lst (.kt [.int 1, .int 1] :: (rts gp nu q p ((tl.map (·.1)).take k)).map mk)))) a) 0
    (fun k d ρ S hd hI => by
      obtain ⟨rfl, a, rfl⟩ := hI
      rw [Nat.zero_add]
      rw [List.getElem?_map, List.getElem?_map] at hd
      obtain ⟨i, hi, rfl⟩ := Option.map_eq_some_iff.mp hd
      obtain ⟨e, he, rfl⟩ := Option.map_eq_some_iff.mp hi
      have hm := List.mem_of_getElem? he
      have hlt := (List.getElem?_eq_some_iff.mp he).1
      have et : (tl.map (·.1)).take (k + 1) = (tl.map (·.1)).take k ++ [e.1] := by
        rw [List.take_add_one, List.getElem?_map, hi]; rfl
      have g1 := hg.ev p e.1 hp (hk e hm)
      have g2 := hg.sz p e.1 hp (hk e hm)
      have m1 := minus_sz (ht.num e hm) hq (ht.sa e hm) sq (by omega)
      have o1 := over_sz (isR_mk (nu e.1 - q)) (isR_mk (gp p e.1)) ((ht.sa e hm).sub sq) g2 (hpos e hm) hS
      have e2 := app_of (i := 5) (m := (mCall f_over (mCons (mCall f_minus (mCons (mOp2 ixD (mOp2 getD' (mVarB 2) (mVarB 6)) (mPure (.int 0))) (mCons (mVar 4) (mPure [])))) (mCons (mCall f_gap_at (mCons (mVar 0) (mCons (mVar 1) (mCons (mVar 3) (mCons (mVar 6) (mPure [])))))) (mPure [])))))
        (ρ := tv x sh tl p dq (some (.own (.lst (.kt [.int 1, .int 1] :: (rts gp nu q p ((tl.map (·.1)).take k)).map mk)))) (some (.imm (.int (e.1 : Nat))))) (S := none) rfl
        (mCall_of (cons_of (mCall_of (cons_of (mOp2_of (mOp2_of (ev_varB rfl) (ev_varB rfl) (tl_get ht.nd hm)) rfl (ix_nat (n := 0) rfl rfl)) (cons_of (ev_var rfl) rfl)) m1) (cons_of (mCall_of (cons_of (ev_var rfl) (cons_of (ev_var rfl) (cons_of (ev_var rfl) (cons_of (ev_var rfl) rfl)))) g1) rfl)) o1)
        (by unfold rts; rw [List.length_cons, List.length_map, List.length_map, List.length_take, List.length_map]; omega)
      have el : (D.kt [.int 1, .int 1] :: (rts gp nu q p ((tl.map (·.1)).take k)).map mk) ++ [mk ((nu e.1 - q) / gp p e.1)] = D.kt [.int 1, .int 1] :: (rts gp nu q p ((tl.map (·.1)).take (k + 1))).map mk := by
        rw [et]
        unfold rts
        rw [List.map_append, List.map_append]
        rfl
      rw [el] at e2
      exact ⟨_, .nx, _, none, rfl, e2, rfl, _, rfl⟩)
    (fun ρ S hI => by
      obtain ⟨rfl, a, rfl⟩ := hI
      refine ⟨rfl, rfl, a, ?_⟩
      rw [Nat.zero_add, List.length_map, List.take_length]) (tv x sh tl p dq (some (.own (.lst [.kt [.int 1, .int 1]]))) none) none ⟨rfl, none, rfl⟩
  have e1 : sSetF 5 (mLst (mCons (mPure (.kt [(.int 1), (.int 1)])) (mPure []))) (startL 7 [x, sh, .dK (tlD tl), .int (p : Nat), dq]) none = some (.nx, tv x sh tl p dq (some (.own (.lst [.kt [.int 1, .int 1]]))) none, none) := rfl
  have e2 := for_of (mi := mKeys 2) (tl_keys (i := 2) (ρ := tv x sh tl p dq (some (.own (.lst [.kt [.int 1, .int 1]]))) none) (S := none) rfl (by omega)) e
  have hr1 : IsR (.kt [.int 1, .int 1]) 1 := .inr rfl
  have hsz : ∀ r ∈ 1 :: rts gp nu q p (tl.map (·.1)), Sz (A + A' + 1 + G) r := fun r hr => by
    (rcases List.mem_cons.mp hr with z | z)
    · subst z; exact sz_one.mono (by omega)
    · obtain ⟨k, hk1, rfl⟩ := List.mem_map.mp z
      obtain ⟨e, he, rfl⟩ := List.mem_map.mp hk1
      exact ((ht.sa e he).sub sq).div (hg.sz p e.1 hp (hk e he)) (hpos e he)
  obtain ⟨d1, e4, h4⟩ := greatest_ev (Y := A + A' + 1 + G) (by omega) hr1 (rl_mk (rts gp nu q p (tl.map (·.1)))) hsz
  have hmax := rmax_ge (rts gp nu q p (tl.map (·.1))) 1
  refine ⟨d1, rmax 1 (rts gp nu q p (tl.map (·.1))), ?_, h4, ?_, hmax.1, fun e he => ?_, fun z => by rw [z]; rfl⟩
  · have ratM : m_rate_for = (sSq (sSetF 5 (mLst (mCons (mPure (.kt [(.int 1), (.int 1)])) (mPure [])))) (sSq (sFor (mKeys 2) (gNm 6) tBody) (sFrz 5 (sRet (mCall f_greatest_of (mCons (mVar 5) (mPure []))))))) := rfl
    have : m_rate_for (startL 7 [x, sh, .dK (tlD tl), .int (p : Nat), dq]) none = some (.rt d1, tv x sh tl p dq (some (.imm (.lst (.kt [.int 1, .int 1] :: (rts gp nu q p (tl.map (·.1))).map mk)))) a, none) := by
      rw [ratM]
      refine (sSq_nx e1).trans ((sSq_nx e2).trans ?_)
      show sRet _ (frz 5 _) none = _
      exact sRet_of (mCall_of (cons_of (ev_var rfl) rfl) e4)
    exact runP_rt rfl this
  · rcases rmax_mem (rts gp nu q p (tl.map (·.1))) 1 with z | z
    · rw [z]; exact sz_one.mono (by omega)
    · exact hsz _ (List.mem_cons_of_mem _ z)
  · have h1 := hmax.2 ((nu e.1 - q) / gp p e.1) (List.mem_map.mpr ⟨e.1, List.mem_map.mpr ⟨e, he, rfl⟩, rfl⟩)
    have h0 := hpos e he
    have h2 : nu e.1 - q ≤ rmax 1 (rts gp nu q p (tl.map (·.1))) * gp p e.1 := by
      have h3 := Rat.mul_le_mul_of_nonneg_right h1 (Rat.le_of_lt h0)
      rw [Rat.div_mul_cancel (fun z => by rw [z] at h0; exact Rat.lt_irrefl h0)] at h3
      exact h3
    grind
/-- sizes, class after class -/
def szN (g : Nat) : Nat → Nat × Nat
  | 0 => (0, 0)
  | 1 => (0, 0)
  | t + 2 => ((szN g (t + 1)).1 + (szN g (t + 1)).2 + g, 2 * (szN g (t + 1)).1 + (szN g (t + 1)).2 + 2 * g)
theorem szN_mono (g t : Nat) : (szN g t).1 ≤ (szN g (t + 1)).1 ∧ (szN g t).2 ≤ (szN g (t + 1)).2 := by
  cases t with
  | zero => exact ⟨Nat.le_refl _, Nat.le_refl _⟩
  | succ t => simp only [szN]; omega
theorem szN_6 (g t : Nat) (h : t ≤ 6) : (szN g t).1 ≤ 69 * g ∧ (szN g t).2 ≤ 98 * g := by
  have h6 : (szN g 6).1 = 69 * g ∧ (szN g 6).2 = 98 * g := by simp only [szN]; omega
  have : ∀ k, t + k = 6 → (szN g t).1 ≤ (szN g 6).1 ∧ (szN g t).2 ≤ (szN g 6).2 := by
    intro k
    induction k generalizing t with
    | zero => intro e; have : t = 6 := by omega
              subst this; exact ⟨Nat.le_refl _, Nat.le_refl _⟩
    | succ k ih =>
      intro e
      have := ih (t + 1) (by omega) (by omega)
      have := szN_mono g t
      omega
  have := this (6 - t) (by omega)
  omega
end
end K35
namespace K35
open PySem PyProof.Rows L2 Dv

theorem callB_of {f : List D → Option D} {n : MA} {ρ : Lo} {S S1 : Sg} {ds : List D} {d : D} (h : n ρ S = some (ds, S1)) (hf : f ds = some d) (hp : pureD d = true) : mCallB f n ρ S = some (d, S1) := by
  unfold mCallB; rw [h]; simp only [Option.bind_some]; rw [hf]; simp only [Option.bind_some]; rw [if_pos hp]
theorem pure_isR {d : D} {q : Rat} (h : IsR d q) : pureD d = true := by rcases h with rfl | rfl <;> rfl
section
variable {x sh : D} {n G : Nat} {gp : Nat → Nat → Rat}
/-- told so far: numbers and rates that keep every gap -/
structure Afr (gp : Nat → Nat → Rat) (tl : Told) (nu ra : Nat → Rat) : Prop where
  one : ∀ e ∈ tl, 1 ≤ ra e.1
  keep : ∀ e ∈ tl, ∀ e' ∈ tl, nu e'.1 ≤ nu e.1 + ra e.1 * gp e.1 e'.1
abbrev mv (x sh : D) (tl : Told) (a b c d e : Option LV) : Lo := [some (.imm x), some (.imm sh), some (.own (.dK (tlD tl))), a, b, c, d, e]
noncomputable def mRate : ME := (mCallB f_rate_for (mCons (mVarB 0) (mCons (mVarB 1) (mCons (mVarB 2) (mCons (mVarB 6) (mCons (mVarB 4) (mPure [])))))))
noncomputable def mTurn : MS := (sSq (sSet 4 (mCallB f_number_for (mCons (mVarB 0) (mCons (mVarB 1) (mCons (mVarB 2) (mCons (mVarB 3) (mPure [])))))))
  (sSq (sSet 5 (mLc (mSeq (mVar 3)) [6] (gNm 6) (mPure true) mRate))
  (sFor (mZip2 (mCons (mVar 3) (mCons (mVar 5) (mPure [])))) (gTp 2 (gCns (gNm 6) (gCns (gNm 7) gNl))) (sPut 2 (mTup (mCons (mVar 4) (mCons (mVar 7) (mPure [])))) (mVar 6)))))
theorem turn_ev (hg : GapF x sh n gp G) {tl : Told} {nu ra : Nat → Rat} {t : Nat} (ht : TlR tl nu ra (szN (G + 1) t).1 (szN (G + 1) t).2) (h0 : t = 0 ↔ tl = []) (hA : Afr gp tl nu ra) (hk : ∀ e ∈ tl, e.1 < n) {own : List Nat} (hown : own ≠ []) (ho : ∀ i ∈ own, i < n)
    (hnd : (tl.map (·.1) ++ own).Nodup) (hpos : ∀ i ∈ own, ∀ e ∈ tl, 0 < gp i e.1) (hnn : ∀ i ∈ own, ∀ j ∈ own, 0 ≤ gp i j) (ht6 : t < 6) (hG : 98 * (G + 1) < 8990) (hl : tl.length ≤ 900) (hlo : own.length ≤ 900) {b c d e : Option LV} :
    ∃ tl' nu' ra' b' c' d' e', mTurn (mv x sh tl (some (.imm (.lst (iD' own)))) b c d e) none = some (.nx, mv x sh tl' (some (.imm (.lst (iD' own)))) b' c' d' e', none) ∧ TlR tl' nu' ra' (szN (G + 1) (t + 1)).1 (szN (G + 1) (t + 1)).2 ∧ Afr gp tl' nu' ra' ∧ tl'.map (·.1) = tl.map (·.1) ++ own := by
  have hz := szN_6 (G + 1) t (by omega)
  have hz1 := szN_6 (G + 1) (t + 1) (by omega)
  have hzm := szN_mono (G + 1) t
  have hAB : t ≠ 0 → (szN (G + 1) (t + 1)).1 = (szN (G + 1) t).1 + ((szN (G + 1) t).2 + G) + 1 ∧ (szN (G + 1) (t + 1)).2 = (szN (G + 1) t).1 + (szN (G + 1) (t + 1)).1 + 1 + G := fun h => by
    cases t with
    | zero => exact absurd rfl h
    | succ t => simp only [szN]; omega
  have hsm : (szN (G + 1) t).1 + ((szN (G + 1) t).2 + G) < 8990 ∧ (szN (G + 1) t).1 + (szN (G + 1) (t + 1)).1 + 1 + G < 8990 := by
    by_cases h : t = 0
    · subst h; simp only [szN]; omega
    · have := hAB h; omega
  obtain ⟨dq, q, e1, hq, sq, hqle, hq0⟩ := number_ev hg ht hk ho hown hsm.1 hl hlo
  have sq' : Sz (szN (G + 1) (t + 1)).1 q := by
    by_cases h : t = 0
    · rw [hq0 (h0.mp h)]; exact sz_zero.mono (by omega)
    · rw [(hAB h).1]; exact sq
  obtain ⟨f, hf⟩ : ∃ f : Nat → D × Rat, ∀ p, p ∈ own → f_rate_for [x, sh, .dK (tlD tl), .int (p : Nat), dq] = some (f p).1 ∧ IsR (f p).1 (f p).2 ∧ Sz (szN (G + 1) (t + 1)).2 (f p).2 ∧ 1 ≤ (f p).2 ∧ (∀ e ∈ tl, nu e.1 ≤ q + (f p).2 * gp p e.1) := by
    refine Classical.axiomOfChoice (r := fun p (y : D × Rat) => p ∈ own → f_rate_for [x, sh, .dK (tlD tl), .int (p : Nat), dq] = some y.1 ∧ IsR y.1 y.2 ∧ Sz (szN (G + 1) (t + 1)).2 y.2 ∧ 1 ≤ y.2 ∧ (∀ e ∈ tl, nu e.1 ≤ q + y.2 * gp p e.1)) fun p => ?_
    by_cases hp : p ∈ own
    · obtain ⟨d1, r, h1, h2, h3, h4, h5, h6⟩ := rate_ev hg ht hk (ho p hp) hq sq' (hpos p hp) hsm.2 hl
      refine ⟨(d1, r), fun _ => ⟨h1, h2, ?_, h4, h5⟩⟩
      by_cases h : t = 0
      · rw [h6 (h0.mp h)]; exact sz_one.mono (by omega)
      · rw [(hAB h).2]; exact h3
    · exact ⟨(.non, 0), fun z => absurd z hp⟩
  -- the walk
  have s1 : sSet 4 (mCallB f_number_for (mCons (mVarB 0) (mCons (mVarB 1) (mCons (mVarB 2) (mCons (mVarB 3) (mPure [])))))) (mv x sh tl (some (.imm (.lst (iD' own)))) b c d e) none = some (.nx, mv x sh tl (some (.imm (.lst (iD' own)))) (some (.imm dq)) c d e, none) :=
    set_of' (callB_of (cons_of (ev_varB rfl) (cons_of (ev_varB rfl) (cons_of (ev_varO rfl) (cons_of (ev_varB rfl) rfl)))) e1 (pure_isR hq))
  have el := lc_rel (R := fun d i => d = D.int ((i : Nat) : Int)) (g := gNm 6) (t := mPure true) (m := mRate) (S := none) (ρ := mv x sh tl (some (.imm (.lst (iD' own)))) (some (.imm dq)) c none e) (fun p => (f p).1) (paired_iD own) fun d p hd hp => by
    subst hd
    obtain ⟨h1, h2, _⟩ := hf p hp
    refine ⟨mv x sh tl (some (.imm (.lst (iD' own)))) (some (.imm dq)) c (some (.imm (.int (p : Nat)))) e, rfl, rfl, ?_⟩
    exact callB_of (cons_of (ev_varB rfl) (cons_of (ev_varB rfl) (cons_of (ev_varO rfl) (cons_of (ev_varB rfl) (cons_of (ev_varB rfl) rfl))))) h1 (pure_isR h2)
  have s2 : sSet 5 (mLc (mSeq (mVar 3)) [6] (gNm 6) (mPure true) mRate) (mv x sh tl (some (.imm (.lst (iD' own)))) (some (.imm dq)) c d e) none = some (.nx, mv x sh tl (some (.imm (.lst (iD' own)))) (some (.imm dq)) (some (.imm (.lst (own.map fun p => (f p).1)))) d e, none) :=
    set_of' (lc_of (mSeq_of (ev_var rfl) rfl) el)
  have hzip : mZip2 (mCons (mVar 3) (mCons (mVar 5) (mPure []))) (mv x sh tl (some (.imm (.lst (iD' own)))) (some (.imm dq)) (some (.imm (.lst (own.map fun p => (f p).1)))) d e) none = some (own.map fun p => D.tup [.int (p : Nat), (f p).1], none) := by
    have : List.zipWith (fun a b => D.tup [a, b]) (iD' own) (own.map fun p => (f p).1) = own.map fun p => D.tup [.int (p : Nat), (f p).1] := by
      rw [List.zipWith_map]
      clear hown ho hnd hpos hnn hlo hqle hf el s1 s2 e1
      induction own with
      | nil => rfl
      | cons a l ih => rw [List.zipWith_cons_cons, ih]; rfl
    rw [← this]; rfl
  have hndk := List.nodup_append.mp hnd
  obtain ⟨fl, ρ', S', e3, rfl, rfl, d', e', rfl⟩ := for_run (g := gTp 2 (gCns (gNm 6) (gCns (gNm 7) gNl))) (ms := sPut 2 (mTup (mCons (mVar 4) (mCons (mVar 7) (mPure [])))) (mVar 6)) (ds := own.map fun p => D.tup [.int (p : Nat), (f p).1])
    (P := fun fl ρ S => fl = .nx ∧ S = none ∧ ∃ d e, ρ = mv x sh (tl ++ own.map fun p => (p, dq, (f p).1)) (some (.imm (.lst (iD' own)))) (some (.imm dq)) (some (.imm (.lst (own.map fun p => (f p).1)))) d e)
    (Inv := fun k ρ S => S = none ∧ ∃ d e, ρ = mv x sh (tl ++ (own.take k).map fun p => (p, dq, (f p).1)) (some (.imm (.lst (iD' own)))) (some (.imm dq)) (some (.imm (.lst (own.map fun p => (f p).1)))) d e) 0
    (fun k d ρ S hd hI => by
      obtain ⟨rfl, d, e, rfl⟩ := hI
      rw [Nat.zero_add]
      rw [List.getElem?_map] at hd
      obtain ⟨p, hp, rfl⟩ := Option.map_eq_some_iff.mp hd
      have hlt := (List.getElem?_eq_some_iff.mp hp).1
      have hpm := List.mem_of_getElem? hp
      have hnew : ∀ y ∈ tlD (tl ++ (own.take k).map fun p => (p, dq, (f p).1)), y.1 ≠ (Sum.inl ((p : Nat) : Int) : Key) := fun y hy z => by
        obtain ⟨w, hw, rfl⟩ := List.mem_map.mp hy
        have z := inl_inj.mp z
        rcases List.mem_append.mp hw with y | y
        · exact hndk.2.2 w.1 (List.mem_map.mpr ⟨w, y, rfl⟩) p hpm z
        · obtain ⟨i, hi, rfl⟩ := List.mem_map.mp y
          obtain ⟨j, hj⟩ := List.mem_iff_getElem?.mp hi
          have hjk := (List.getElem?_eq_some_iff.mp hj).1
          rw [List.length_take] at hjk
          rw [List.getElem?_take_of_lt (by omega)] at hj
          have z : i = p := z
          subst z
          have hjo : j < own.length := by omega
          have e1 : own[j] = own[k] := by
            rw [List.getElem?_eq_getElem hjo] at hj
            rw [List.getElem?_eq_getElem hlt] at hp
            rw [Option.some.inj hj, Option.some.inj hp]
          exact List.pairwise_iff_getElem.mp hndk.2.1 j k hjo hlt (by omega) e1
      have e4 := put_of (i := 2) (m := mTup (mCons (mVar 4) (mCons (mVar 7) (mPure [])))) (mk := mVar 6) (ρ := mv x sh (tl ++ (own.take k).map fun p => (p, dq, (f p).1)) (some (.imm (.lst (iD' own)))) (some (.imm dq)) (some (.imm (.lst (own.map fun p => (f p).1)))) (some (.imm (.int (p : Nat)))) (some (.imm (f p).1))) (S := none) rfl (tup_of (cons_of (ev_var rfl) (cons_of (ev_var rfl) rfl)) (by simp)) (ev_var rfl) (kk := Sum.inl ((p : Nat) : Int)) rfl
        (by unfold tlD; rw [List.length_map, List.length_append, List.length_map, List.length_take]; omega)
      rw [putG_new hnew] at e4
      have ek : tlD (tl ++ (own.take k).map fun p => (p, dq, (f p).1)) ++ [(Sum.inl ((p : Nat) : Int), D.tup [dq, (f p).1])] = tlD (tl ++ (own.take (k + 1)).map fun p => (p, dq, (f p).1)) := by
        have et : own.take (k + 1) = own.take k ++ [p] := by rw [List.take_add_one, hp]; rfl
        rw [et, List.map_append, ← List.append_assoc]
        unfold tlD
        rw [List.map_append (l₂ := List.map _ [p])]
        rfl
      rw [ek] at e4
      exact ⟨_, .nx, _, none, rfl, e4, rfl, _, _, rfl⟩)
    (fun ρ S hI => by
      obtain ⟨rfl, d, e, rfl⟩ := hI
      refine ⟨rfl, rfl, d, e, ?_⟩
      rw [Nat.zero_add, List.length_map, List.take_length]) (mv x sh tl (some (.imm (.lst (iD' own)))) (some (.imm dq)) (some (.imm (.lst (own.map fun p => (f p).1)))) d e) none ⟨rfl, d, e, by rw [List.take_zero, List.map_nil, List.append_nil]⟩
  -- what is told now
  have hold : ∀ y ∈ tl, y.1 ∉ own := fun y hy z => hndk.2.2 y.1 (List.mem_map.mpr ⟨y, hy, rfl⟩) y.1 z rfl
  refine ⟨tl ++ own.map fun p => (p, dq, (f p).1), fun i => if i ∈ own then q else nu i, fun i => if i ∈ own then (f i).2 else ra i, _, _, _, _, (sSq_nx s1).trans ((sSq_nx s2).trans (for_of hzip e3)), ⟨?_, fun y hy => ?_, fun y hy => ?_, fun y hy => ?_, fun y hy => ?_⟩, ⟨fun y hy => ?_, fun y hy z hz => ?_⟩, ?_⟩
  · rw [List.map_append, List.map_map]
    have : own.map ((fun x : Nat × D × D => x.1) ∘ fun p => (p, dq, (f p).1)) = own := by
      rw [show ((fun x : Nat × D × D => x.1) ∘ fun p => (p, dq, (f p).1)) = id from rfl, List.map_id]
    rw [this]; exact hnd
  · rcases List.mem_append.mp hy with w | w
    · simp only [hold y w, if_false]; exact ht.num y w
    · obtain ⟨p, hp, rfl⟩ := List.mem_map.mp w
      simp only [hp, if_true]; exact hq
  · rcases List.mem_append.mp hy with w | w
    · simp only [hold y w, if_false]; exact ht.rat y w
    · obtain ⟨p, hp, rfl⟩ := List.mem_map.mp w
      simp only [hp, if_true]; exact (hf p hp).2.1
  · rcases List.mem_append.mp hy with w | w
    · simp only [hold y w, if_false]; exact (ht.sa y w).mono hzm.1
    · obtain ⟨p, hp, rfl⟩ := List.mem_map.mp w
      simp only [hp, if_true]; exact sq'
  · rcases List.mem_append.mp hy with w | w
    · simp only [hold y w, if_false]; exact (ht.sb y w).mono hzm.2
    · obtain ⟨p, hp, rfl⟩ := List.mem_map.mp w
      simp only [hp, if_true]; exact (hf p hp).2.2.1
  · rcases List.mem_append.mp hy with w | w
    · simp only [hold y w, if_false]; exact hA.one y w
    · obtain ⟨p, hp, rfl⟩ := List.mem_map.mp w
      simp only [hp, if_true]; exact (hf p hp).2.2.2.1
  · rcases List.mem_append.mp hy with w | w
    · rcases List.mem_append.mp hz with u | u
      · simp only [hold y w, hold z u, if_false]; exact hA.keep y w z u
      · obtain ⟨p, hp, rfl⟩ := List.mem_map.mp u
        simp only [hold y w, hp, if_false, if_true]; exact hqle y w p hp
    · obtain ⟨p, hp, rfl⟩ := List.mem_map.mp w
      rcases List.mem_append.mp hz with u | u
      · simp only [hold z u, hp, if_false, if_true]; exact (hf p hp).2.2.2.2 z u
      · obtain ⟨p', hp', rfl⟩ := List.mem_map.mp u
        simp only [hp, hp', if_true]
        have h1 := (hf p hp).2.2.2.1
        have h2 := hnn p hp p' hp'
        have h3 : (0 : Rat) ≤ (f p).2 := by grind
        have := Rat.mul_nonneg h3 h2
        grind
  · rw [List.map_append, List.map_map]
    rw [show ((fun x : Nat × D × D => x.1) ∘ fun p => (p, dq, (f p).1)) = id from rfl, List.map_id]
end
end K35
namespace K35
open PySem PyProof.Rows L2 Dv
open BW (Reach)

/-- numbers and rates as they are told -/
structure NumsR (n : Nat) (gp : Nat → Nat → Rat) (A B : Nat) (d : D) (f : Nat → D × D) (nu ra : Nat → Rat) : Prop where
  eq : d = .tup ((List.range n).map fun i => D.tup [(f i).1, (f i).2])
  num : ∀ i, i < n → IsR (f i).1 (nu i)
  rat : ∀ i, i < n → IsR (f i).2 (ra i)
  sa : ∀ i, i < n → Sz A (nu i)
  sb : ∀ i, i < n → Sz B (ra i)
  one : ∀ i, i < n → 1 ≤ ra i
  keep : ∀ i j, i < n → j < n → nu j ≤ nu i + ra i * gp i j
theorem flat_len : ∀ {cls : List (List Nat)}, (∀ c ∈ cls, c ≠ []) → cls.length ≤ cls.flatten.length
  | [], _ => Nat.zero_le _
  | c :: cls, h => by
    have h1 := flat_len (cls := cls) fun d hd => h d (List.mem_cons_of_mem _ hd)
    have h2 := List.length_pos_iff.mpr (h c List.mem_cons_self)
    rw [List.flatten_cons, List.length_append, List.length_cons]; omega
theorem cls_len {R : Nat → Nat → Prop} {n : Nat} {cls : List (List Nat)} (h : Cls R n cls) : cls.flatten.length ≤ n ∧ cls.length ≤ n := by
  have h1 := BW.nodup_len n h.nd fun i hi => by
    obtain ⟨c, hc, hi⟩ := List.mem_flatten.mp hi
    exact h.lt c hc i hi
  have h2 := flat_len h.ne
  omega
section
variable {E Sx : Nat → Nat → Bool} {x sh : D} {n G : Nat} {gp : Nat → Nat → Rat}
theorem numbers_ev (hE : ReachF f_reaches x sh n E) (hg : GapF x sh n gp G) (hl : lenD [x] = some (.int (n : Nat))) (hn : n ≤ 6) (hG : 98 * (G + 1) < 8990) (hEg : ∀ i j, i ≠ j → (E i j = true ↔ gp i j ≤ 0)) (hSg : ∀ i j, i ≠ j → gp i j < 0 → Sx i j = true) (hself : ∀ i, 0 ≤ gp i i) (hno : ¬ HasRing E Sx n) :
    ∃ d f nu ra, f_numbers_in [x, sh] = some d ∧ NumsR n gp (69 * (G + 1)) (98 * (G + 1)) d f nu ra := by
  obtain ⟨cls, ec, hc⟩ := classes_ev hE (by omega) hl
  obtain ⟨hfl, hcl⟩ := cls_len hc
  obtain ⟨fl, ρ', S', e2, rfl, rfl, tl, nu, ra, a, b, c, d, e, rfl, ht, hA, hk⟩ := for_run (g := gNm 3) (ms := mTurn) (ds := clD cls)
    (P := fun fl ρ S => fl = .nx ∧ S = none ∧ ∃ tl nu ra a b c d e, ρ = mv x sh tl a b c d e ∧ TlR tl nu ra (szN (G + 1) cls.length).1 (szN (G + 1) cls.length).2 ∧ Afr gp tl nu ra ∧ tl.map (·.1) = cls.flatten)
    (Inv := fun t ρ S => S = none ∧ ∃ tl nu ra a b c d e, ρ = mv x sh tl a b c d e ∧ TlR tl nu ra (szN (G + 1) t).1 (szN (G + 1) t).2 ∧ Afr gp tl nu ra ∧ tl.map (·.1) = (cls.take t).flatten) 0
    (fun t d ρ S hd hI => by
      obtain ⟨rfl, tl, nu, ra, a, b, c, d', e, rfl, ht, hA, hk⟩ := hI
      rw [Nat.zero_add] at ht hk ⊢
      unfold clD at hd
      rw [List.getElem?_map] at hd
      obtain ⟨own, ho, rfl⟩ := Option.map_eq_some_iff.mp hd
      have hom := List.mem_of_getElem? ho
      have htl := (List.getElem?_eq_some_iff.mp ho).1
      have et : cls.take (t + 1) = cls.take t ++ [own] := by rw [List.take_add_one, ho]; rfl
      have hfe : cls.flatten = (cls.take t).flatten ++ own ++ (cls.drop (t + 1)).flatten := by
        have h1 : cls = cls.take (t + 1) ++ cls.drop (t + 1) := (List.take_append_drop _ _).symm
        conv => lhs; rw [h1]
        rw [List.flatten_append, et, List.flatten_append]
        simp
      have hnd := hc.nd
      rw [hfe, ← hk] at hnd
      have hnd1 := (List.nodup_append.mp hnd).1
      have hlen : tl.length + own.length ≤ n := by
        have := congrArg List.length hfe
        rw [← hk, List.length_append, List.length_append, List.length_map] at this
        omega
      have hkn : ∀ e ∈ tl, ∃ c ∈ cls.take t, e.1 ∈ c := fun e he => by
        have : e.1 ∈ (cls.take t).flatten := by rw [← hk]; exact List.mem_map.mpr ⟨e, he, rfl⟩
        obtain ⟨c, hc1, hc2⟩ := List.mem_flatten.mp this
        exact ⟨c, hc1, hc2⟩
      have hpos : ∀ i ∈ own, ∀ e ∈ tl, 0 < gp i e.1 := fun i hi e he => by
        obtain ⟨c, hc1, hc2⟩ := hkn e he
        have hne : i ≠ e.1 := fun z => (List.nodup_append.mp hnd1).2.2 e.1 (List.mem_map.mpr ⟨e, he, rfl⟩) i hi z.symm
        obtain ⟨u, hu⟩ := List.mem_iff_getElem?.mp hc1
        have hul := (List.getElem?_eq_some_iff.mp hu).1
        rw [List.length_take] at hul
        rw [List.getElem?_take_of_lt (by omega)] at hu
        have hur := (List.getElem?_eq_some_iff.mp hu).2
        have hor := (List.getElem?_eq_some_iff.mp ho).2
        have hlat := List.pairwise_iff_getElem.mp hc.later u t (by omega) htl (by omega) e.1 (by rw [hur]; exact hc2) i (by rw [hor]; exact hi)
        refine Rat.not_le.mp fun hle => hlat (.step .refl ((hEg i e.1 hne).mpr hle) ?_)
        exact hc.lt c (List.mem_of_mem_take hc1) e.1 hc2
      have hnn : ∀ i ∈ own, ∀ j ∈ own, 0 ≤ gp i j := fun i hi j hj => by
        by_cases hij : i = j
        · subst hij; exact hself i
        · refine Rat.not_lt.mp fun hlt => hno ⟨i, j, hc.lt own hom i hi, hc.lt own hom j hj, hSg i j hij hlt, hc.same own hom j hj i hi⟩
      have h0 : t = 0 ↔ tl = [] := by
        constructor
        · intro z
          subst z
          rw [List.take_zero] at hk
          exact List.map_eq_nil_iff.mp hk
        · intro z
          rw [z] at hk
          have := flat_len (cls := cls.take t) fun c hc' => hc.ne c (List.mem_of_mem_take hc')
          rw [← hk, List.map_nil, List.length_nil, List.length_take] at this
          omega
      obtain ⟨tl', nu', ra', b', c', d2, e', e3, ht', hA', hk'⟩ := turn_ev hg ht h0 hA (fun e he => by
        obtain ⟨c, hc1, hc2⟩ := hkn e he
        exact hc.lt c (List.mem_of_mem_take hc1) e.1 hc2) (hc.ne own hom) (hc.lt own hom) hnd1 hpos hnn (by omega) hG (by omega) (by omega) (b := b) (c := c) (d := d') (e := e)
      refine ⟨_, .nx, _, none, rfl, e3, rfl, tl', nu', ra', _, _, _, _, _, rfl, ht', hA', ?_⟩
      rw [hk', hk, et, List.flatten_append]
      simp)
    (fun ρ S hI => by
      obtain ⟨rfl, tl, nu, ra, a, b, c, d, e, rfl, ht, hA, hk⟩ := hI
      have : 0 + (clD cls).length = cls.length := by unfold clD; rw [List.length_map, Nat.zero_add]
      rw [this] at ht hk
      rw [List.take_length] at hk
      exact ⟨rfl, rfl, tl, nu, ra, a, b, c, d, e, rfl, ht, hA, hk⟩) (mv x sh [] none none none none none) none ⟨rfl, [], fun _ => 0, fun _ => 1, none, none, none, none, none, rfl, ⟨.nil, fun _ h => (by cases h), fun _ h => (by cases h), fun _ h => (by cases h), fun _ h => (by cases h)⟩, ⟨fun _ h => (by cases h), fun _ h => (by cases h)⟩, rfl⟩
  have hz := szN_6 (G + 1) cls.length (by omega)
  have hmem : ∀ i, i < n → ∃ e ∈ tl, e.1 = i := fun i hi => by
    obtain ⟨c, hc1, hc2⟩ := hc.cover i hi
    have : i ∈ tl.map (·.1) := by rw [hk]; exact List.mem_flatten.mpr ⟨c, hc1, hc2⟩
    obtain ⟨e, he, z⟩ := List.mem_map.mp this
    exact ⟨e, he, z⟩
  obtain ⟨f, hf⟩ : ∃ f : Nat → D × D, ∀ i, i < n → (i, (f i).1, (f i).2) ∈ tl := by
    refine Classical.axiomOfChoice (r := fun i (y : D × D) => i < n → (i, y.1, y.2) ∈ tl) fun i => ?_
    by_cases hi : i < n
    · obtain ⟨e, he, z⟩ := hmem i hi
      exact ⟨(e.2.1, e.2.2), fun _ => by rw [← z]; exact he⟩
    · exact ⟨(.non, .non), fun z => absurd z hi⟩
  have el := lc_rel (g := gNm 6) (t := mPure true) (m := mOp2 getD' (mVarB 2) (mVarB 6)) (S := none) (ρ := mv x sh tl a b c none e) (fun i => D.tup [(f i).1, (f i).2]) (paired_range n) fun d' i hd hi => by
    obtain ⟨rfl, hin⟩ := hd
    exact ⟨mv x sh tl a b c (some (.imm (.int (i : Nat)))) e, rfl, rfl, mOp2_of (ev_varO rfl) (ev_varB rfl) (tl_get ht.nd (hf i hin))⟩
  have elc := lc_of (mi := mRg1 (mCons (mCall lenD (mCons (mVarB 0) (mPure []))) (mPure []))) (vs := [6]) (ρ := mv x sh tl a b c d e) (rg_ev (ev_varB rfl) hl (by omega)) el
  have numsM : m_numbers_in = (sSq (sSetF 2 mNewK) (sSq (sFor (mSeq (mCall f_classes_of (mCons (mVar 0) (mCons (mVar 1) (mPure []))))) (gNm 3) mTurn)
    (sRet (mCall tupleD (mCons (mLc (mRg1 (mCons (mCall lenD (mCons (mVarB 0) (mPure []))) (mPure []))) [6] (gNm 6) (mPure true) (mOp2 getD' (mVarB 2) (mVarB 6))) (mPure [])))))) := rfl
  have e1 : sSetF 2 mNewK (startL 8 [x, sh]) none = some (.nx, mv x sh [] none none none none none, none) := rfl
  have e0 := for_of (mi := mSeq (mCall f_classes_of (mCons (mVar 0) (mCons (mVar 1) (mPure []))))) (mSeq_of (mCall_of (cons_of (ev_var (ρ := mv x sh [] none none none none none) rfl) (cons_of (ev_var rfl) rfl)) ec) rfl) e2
  have whole : m_numbers_in (startL 8 [x, sh]) none = some (.rt (.tup ((List.range n).map fun i => D.tup [(f i).1, (f i).2])), mv x sh tl a b c d e, none) := by
    rw [numsM]
    exact (sSq_nx e1).trans ((sSq_nx e0).trans (sRet_of (mCall_of (cons_of elc rfl) rfl)))
  refine ⟨_, f, nu, ra, runP_rt rfl whole, rfl, fun i hi => ht.num _ (hf i hi), fun i hi => ht.rat _ (hf i hi), fun i hi => (ht.sa _ (hf i hi)).mono hz.1, fun i hi => (ht.sb _ (hf i hi)).mono hz.2, fun i hi => hA.one _ (hf i hi), fun i j hi hj => hA.keep _ (hf i hi) _ (hf j hj)⟩
end
end K35
namespace K35
open PySem PyProof.Rows L2 Dv
open BW (Reach)

theorem share_ev {sh : D} {s : Rat} (h : IsR sh s) (h0 : 0 ≤ s) (h1 : s ≤ 1) : f_need_share [sh] = some .non := by
  have e1 := ratio_ev h
  have a1 : (0 : Int) ≤ s.num := Rat.num_nonneg.mpr h0
  have a2 : s.num ≤ (s.den : Int) := by
    have := (Rat.le_iff s 1).mp h1
    simpa using this
  have e2 : f_is_chance [sh] = some (.bl true) := by
    simp only [runP, startL, outF, mVar, mVarB, mPure, mOp1, mOp2, mCons, mCall, mTup, mLst, mTst, asB, mNot, mAnd, mOr, mAndV, mOrV, mIte, mSeq, sSq, sIf, sRet, sSet, sSetF, sNil, sFrz, frz, sExpr, sPar2, sPar3, sAsg, mkL, gNm, gTp, gCns, gNl, D.asT, itemsD, addD_int, subD_int, ltD_int, leD_int, gtD_int, geD_int, negD_int, gcdD_int, absD_int, Option.bind_some, Option.map_some, Option.bind_none, Option.map_none, List.map_cons, List.map_nil, List.length_cons, List.length_nil, List.cons_append, List.nil_append, List.getElem?_cons_zero, List.getElem?_cons_succ, List.set_cons_zero, List.set_cons_succ, List.replicate_succ, List.replicate_zero, Nat.reduceAdd, Nat.reduceSub, Nat.reduceLeDiff, if_true, if_false, ite_true, ite_false, Bool.false_eq_true, f_is_chance, m_is_chance, e1, mChn, h.at0, h.at1, a1, a2, decide_true]
  simp only [runP, startL, outF, mVar, mVarB, mPure, mOp1, mOp2, mCons, mCall, mTup, mLst, mTst, asB, mNot, mAnd, mOr, mAndV, mOrV, mIte, mSeq, sSq, sIf, sRet, sSet, sSetF, sNil, sFrz, frz, sExpr, sPar2, sPar3, sAsg, mkL, gNm, gTp, gCns, gNl, D.asT, itemsD, addD_int, subD_int, ltD_int, leD_int, gtD_int, geD_int, negD_int, gcdD_int, absD_int, Option.bind_some, Option.map_some, Option.bind_none, Option.map_none, List.map_cons, List.map_nil, List.length_cons, List.length_nil, List.cons_append, List.nil_append, List.getElem?_cons_zero, List.getElem?_cons_succ, List.set_cons_zero, List.set_cons_succ, List.replicate_succ, List.replicate_zero, Nat.reduceAdd, Nat.reduceSub, Nat.reduceLeDiff, if_true, if_false, ite_true, ite_false, Bool.false_eq_true, f_need_share, m_need_share, e2, Bool.not_true]
def Er (c : Nat → Nat → Rat) (s : Rat) (i j : Nat) : Bool := decide (i ≠ j) && !decide (s * c i i < c i j)
def Sr (c : Nat → Nat → Rat) (s : Rat) (i j : Nat) : Bool := decide (i ≠ j) && decide (c i j < s * c i i)
def gpr (c : Nat → Nat → Rat) (s : Rat) (i j : Nat) : Rat := c i j - s * c i i
theorem andV_t {m k : ME} {ρ : Lo} {S S1 : Sg} {r} (h : m ρ S = some (.bl true, S1)) (h' : k ρ S1 = r) : mAndV m k ρ S = r := by unfold mAndV; rw [h]; exact h'
theorem andV_f {m k : ME} {ρ : Lo} {S S1 : Sg} (h : m ρ S = some (.bl false, S1)) : mAndV m k ρ S = some (.bl false, S1) := by unfold mAndV; rw [h]; rfl
theorem notV_of {m : ME} {ρ : Lo} {S S1 : Sg} {b : Bool} (h : m ρ S = some (.bl b, S1)) : mNotV m ρ S = some (.bl (!b), S1) := by unfold mNotV mOp1; rw [h]; rfl
section
variable {x sh : D} {n Z : Nat} {c : Nat → Nat → Rat} {s : Rat}
theorem tab2 (ht : TabR x n c) {ρ : Lo} {a b : Nat} {i j : Nat} (hi : i < n) (hj : j < n) (hx : ρ[0]? = some (some (.imm x))) (ha : ρ[a]? = some (some (.imm (.int (i : Nat))))) (hb : ρ[b]? = some (some (.imm (.int (j : Nat))))) : mOp2 ixD (mOp2 ixD (mVarB 0) (mVarB a)) (mVarB b) ρ none = some (mk (c i j), none) := by
  obtain ⟨r, e1, e2⟩ := ht i j hi hj
  exact mOp2_of (mOp2_of (ev_varB hx) (ev_varB ha) e1) (ev_varB hb) e2
theorem reach_fn (ht : TabR x n c) (hs : IsR sh s) (sz : Sz Z s) (hc : ∀ i j, i < n → j < n → Sz 10 (c i j)) (hZ : Z ≤ 1000) : ReachF f_reaches x sh n (Er c s) := ⟨fun i j hi hj => by
  have e0 : mOp2 neD (mVarB 2) (mVarB 3) [some (.imm x), some (.imm sh), some (.imm (.int (i : Nat))), some (.imm (.int (j : Nat)))] none = some (.bl (decide ((i : Int) ≠ (j : Int))), none) := mOp2_of (ev_varB rfl) (ev_varB rfl) (neD_int _ _)
  have t1 := times_sz hs (isR_mk (c i i)) sz (hc i i hi hi) (by omega)
  have t2 := less_sz (isR_mk (s * c i i)) (isR_mk (c i j)) (sz.mul (hc i i hi hi)) (hc i j hi hj) (by omega)
  have e1 : mNotV (mCall f_is_less (mCons (mCall f_times (mCons (mVar 1) (mCons (mOp2 ixD (mOp2 ixD (mVarB 0) (mVarB 2)) (mVarB 2)) (mPure [])))) (mCons (mOp2 ixD (mOp2 ixD (mVarB 0) (mVarB 2)) (mVarB 3)) (mPure [])))) [some (.imm x), some (.imm sh), some (.imm (.int (i : Nat))), some (.imm (.int (j : Nat)))] none = some (.bl (!decide (s * c i i < c i j)), none) :=
    notV_of (mCall_of (cons_of (mCall_of (cons_of (ev_var rfl) (cons_of (tab2 ht hi hi rfl rfl rfl) rfl)) t1) (cons_of (tab2 ht hi hj rfl rfl rfl) rfl)) t2)
  unfold Er
  by_cases hij : i = j
  · rw [decide_eq_false (by omega)] at e0
    rw [decide_eq_false (by simpa using hij)]
    exact runP_rt rfl (sRet_of (andV_f e0))
  · rw [decide_eq_true (by omega)] at e0
    rw [decide_eq_true (by simpa using hij), Bool.true_and]
    exact runP_rt rfl (sRet_of (andV_t e0 e1))⟩
theorem strict_fn (ht : TabR x n c) (hs : IsR sh s) (sz : Sz Z s) (hc : ∀ i j, i < n → j < n → Sz 10 (c i j)) (hZ : Z ≤ 1000) : ReachF f_reaches_strictly x sh n (Sr c s) := ⟨fun i j hi hj => by
  have e0 : mOp2 neD (mVarB 2) (mVarB 3) [some (.imm x), some (.imm sh), some (.imm (.int (i : Nat))), some (.imm (.int (j : Nat)))] none = some (.bl (decide ((i : Int) ≠ (j : Int))), none) := mOp2_of (ev_varB rfl) (ev_varB rfl) (neD_int _ _)
  have t1 := times_sz hs (isR_mk (c i i)) sz (hc i i hi hi) (by omega)
  have t2 := less_sz (isR_mk (c i j)) (isR_mk (s * c i i)) (hc i j hi hj) (sz.mul (hc i i hi hi)) (by omega)
  have e1 : (mCall f_is_less (mCons (mOp2 ixD (mOp2 ixD (mVarB 0) (mVarB 2)) (mVarB 3)) (mCons (mCall f_times (mCons (mVar 1) (mCons (mOp2 ixD (mOp2 ixD (mVarB 0) (mVarB 2)) (mVarB 2)) (mPure [])))) (mPure [])))) [some (.imm x), some (.imm sh), some (.imm (.int (i : Nat))), some (.imm (.int (j : Nat)))] none = some (.bl (decide (c i j < s * c i i)), none) :=
    (mCall_of (cons_of (tab2 ht hi hj rfl rfl rfl) (cons_of (mCall_of (cons_of (ev_var rfl) (cons_of (tab2 ht hi hi rfl rfl rfl) rfl)) t1) rfl)) t2)
  unfold Sr
  by_cases hij : i = j
  · rw [decide_eq_false (by omega)] at e0
    rw [decide_eq_false (by simpa using hij)]
    exact runP_rt rfl (sRet_of (andV_f e0))
  · rw [decide_eq_true (by omega)] at e0
    rw [decide_eq_true (by simpa using hij), Bool.true_and]
    exact runP_rt rfl (sRet_of (andV_t e0 e1))⟩
theorem gap_fn (ht : TabR x n c) (hs : IsR sh s) (sz : Sz Z s) (hc : ∀ i j, i < n → j < n → Sz 10 (c i j)) (hZ : Z ≤ 1000) : GapF x sh n (gpr c s) (Z + 21) := ⟨fun i j hi hj => by
  have t1 := times_sz hs (isR_mk (c i i)) sz (hc i i hi hi) (by omega)
  have t2 := minus_sz (isR_mk (c i j)) (isR_mk (s * c i i)) (hc i j hi hj) (sz.mul (hc i i hi hi)) (by omega)
  exact runP_rt rfl (sRet_of (mCall_of (cons_of (tab2 ht hi hj rfl rfl rfl) (cons_of (mCall_of (cons_of (ev_var rfl) (cons_of (tab2 ht hi hi rfl rfl rfl) rfl)) t1) rfl)) t2)),
  fun i j hi hj => ((hc i j hi hj).sub (sz.mul (hc i i hi hi))).mono (by omega)⟩
theorem er_iff {i j : Nat} (h : i ≠ j) : Er c s i j = true ↔ gpr c s i j ≤ 0 := by
  unfold Er gpr
  rw [decide_eq_true h, Bool.true_and, Bool.not_eq_true', decide_eq_false_iff_not, Rat.not_lt]
  grind
theorem sr_of {i j : Nat} (h : i ≠ j) (h' : gpr c s i j < 0) : Sr c s i j = true := by
  unfold Sr
  unfold gpr at h'
  rw [decide_eq_true h, Bool.true_and, decide_eq_true_iff]
  grind
theorem sr_self (i : Nat) : Sr c s i i = false := by unfold Sr; simp
end
/-- what numbers_at tells -/
def AtR (rs : List Row) (s : Rat) (A B : Nat) (d : D) : Prop :=
  (¬ HasRing (Er (co rs) s) (Sr (co rs) s) rs.length ∧ ∃ nd f nu ra, d = .tup [.str "numbers", nd] ∧ NumsR rs.length (gpr (co rs) s) A B nd f nu ra) ∨ (HasRing (Er (co rs) s) (Sr (co rs) s) rs.length ∧ ∃ ds, d = .tup [.str "ring", .tup ds])
theorem at_ev {x sh : D} {rs : List Row} {goods Z : Nat} {s : Rat} (h : BudR x rs goods) (hb : ∀ r ∈ rs, RowB r) (h6 : rs.length ≤ 6) (hs : IsR sh s) (h0 : 0 ≤ s) (h1 : s ≤ 1) (sz : Sz Z s) (hZ : Z ≤ 69) :
    ∃ d, f_numbers_at [x, sh] = some d ∧ AtR rs s (69 * (Z + 22)) (98 * (Z + 22)) d := by
  have hn := need_ev h
  have hsh := share_ev hs h0 h1
  have hcp := fun i j => co_pos h.rp i j
  have hcs := fun i j (_ : i < rs.length) (_ : j < rs.length) => co_sz hb i j
  obtain ⟨rds, rfl, hr⟩ := h.ex
  have ec := costs_of_ev hr hb
  have hE := reach_fn (tab_T rs) hs sz hcs (by omega)
  have hS := strict_fn (tab_T rs) hs sz hcs (by omega)
  have hg := gap_fn (tab_T rs) hs sz hcs (by omega)
  have hl : lenD [costsT rs] = some (.int (rs.length : Nat)) := by unfold costsT; rw [len_items rfl, List.length_map]
  have e1 : sExpr (mCall f_need_budgets (mCons (mVar 0) (mPure []))) (startL 4 [.tup [.str "budgets", .tup rds], sh]) none = some (.nx, [some (.imm (.tup [.str "budgets", .tup rds])), some (.imm sh), none, none], none) := expr_of (mCall_of (cons_of (ev_var rfl) rfl) hn)
  have e2 : sExpr (mCall f_need_share (mCons (mVar 1) (mPure []))) [some (.imm (.tup [.str "budgets", .tup rds])), some (.imm sh), none, none] none = some (.nx, [some (.imm (.tup [.str "budgets", .tup rds])), some (.imm sh), none, none], none) := expr_of (mCall_of (cons_of (ev_var rfl) rfl) hsh)
  have e3 : sSet 2 (mCall f_costs_of (mCons (mVar 0) (mPure []))) [some (.imm (.tup [.str "budgets", .tup rds])), some (.imm sh), none, none] none = some (.nx, [some (.imm (.tup [.str "budgets", .tup rds])), some (.imm sh), some (.imm (costsT rs)), none], none) := set_of' (mCall_of (cons_of (ev_var rfl) rfl) ec)
  rcases ring_ev hE hS sr_self (by omega) hl with ⟨hno, er⟩ | ⟨hyes, ds, er⟩
  · obtain ⟨nd, f, nu, ra, en, hN⟩ := numbers_ev hE hg hl h6 (by omega) (fun i j => er_iff) (fun i j => sr_of) (fun i => by
      unfold gpr
      have h2 := hcp i i
      have h3 := Rat.mul_le_mul_of_nonneg_right h1 (Rat.le_of_lt h2)
      grind) hno
    have e4 : sSet 3 (mCall f_ring_in (mCons (mVar 2) (mCons (mVar 1) (mPure [])))) [some (.imm (.tup [.str "budgets", .tup rds])), some (.imm sh), some (.imm (costsT rs)), none] none = some (.nx, [some (.imm (.tup [.str "budgets", .tup rds])), some (.imm sh), some (.imm (costsT rs)), some (.imm .non)], none) := set_of' (mCall_of (cons_of (ev_var rfl) (cons_of (ev_var rfl) rfl)) er)
    refine ⟨.tup [.str "numbers", nd], ?_, .inl ⟨hno, nd, f, nu, ra, rfl, hN⟩⟩
    refine runP_rt (ρ' := [some (.imm (.tup [.str "budgets", .tup rds])), some (.imm sh), some (.imm (costsT rs)), some (.imm .non)]) (S' := none) rfl ((sSq_nx e1).trans ((sSq_nx e2).trans ((sSq_nx e3).trans ((sSq_nx e4).trans (sRet_of ?_)))))
    have et : mTst (mOp2 isD (mVarB 3) (mPure .non)) [some (.imm (.tup [.str "budgets", .tup rds])), some (.imm sh), some (.imm (costsT rs)), some (.imm .non)] none = some (true, none) := rfl
    unfold mIte
    rw [et]
    simp only [Option.bind_some, if_true]
    exact tup_of (cons_of rfl (cons_of (mCall_of (cons_of (ev_var rfl) (cons_of (ev_var rfl) rfl)) en) rfl)) (by simp)
  · have e4 : sSet 3 (mCall f_ring_in (mCons (mVar 2) (mCons (mVar 1) (mPure [])))) [some (.imm (.tup [.str "budgets", .tup rds])), some (.imm sh), some (.imm (costsT rs)), none] none = some (.nx, [some (.imm (.tup [.str "budgets", .tup rds])), some (.imm sh), some (.imm (costsT rs)), some (.imm (.tup ds))], none) := set_of' (mCall_of (cons_of (ev_var rfl) (cons_of (ev_var rfl) rfl)) er)
    refine ⟨.tup [.str "ring", .tup ds], ?_, .inr ⟨hyes, ds, rfl⟩⟩
    refine runP_rt (ρ' := [some (.imm (.tup [.str "budgets", .tup rds])), some (.imm sh), some (.imm (costsT rs)), some (.imm (.tup ds))]) (S' := none) rfl ((sSq_nx e1).trans ((sSq_nx e2).trans ((sSq_nx e3).trans ((sSq_nx e4).trans (sRet_of ?_)))))
    have et : mTst (mOp2 isD (mVarB 3) (mPure .non)) [some (.imm (.tup [.str "budgets", .tup rds])), some (.imm sh), some (.imm (costsT rs)), some (.imm (.tup ds))] none = some (false, none) := rfl
    unfold mIte
    rw [et]
    simp only [Option.bind_some, Bool.false_eq_true, if_false]
    exact tup_of (cons_of rfl (cons_of (ev_var rfl) rfl)) (by simp)
theorem reach_mono {E E' : Nat → Nat → Bool} {n a b : Nat} (h : ∀ j k, E j k = true → E' j k = true) (hr : Reach E n a b) : Reach E' n a b := by
  induction hr with
  | refl => exact .refl
  | step _ e l ih => exact .step ih (h _ _ e) l
/-- a lower share never makes a ring -/
theorem ring_mono {c : Nat → Nat → Rat} {s s' : Rat} {n : Nat} (hc : ∀ i j, 0 < c i j) (h : s ≤ s') (hr : HasRing (Er c s) (Sr c s) n) : HasRing (Er c s') (Sr c s') n := by
  have hm : ∀ i, s * c i i ≤ s' * c i i := fun i => Rat.mul_le_mul_of_nonneg_right h (Rat.le_of_lt (hc i i))
  obtain ⟨i, j, hi, hj, h1, h2⟩ := hr
  refine ⟨i, j, hi, hj, ?_, ?_⟩
  · unfold Sr at h1 ⊢
    simp only [Bool.and_eq_true, decide_eq_true_eq] at h1 ⊢
    have := hm i
    exact ⟨h1.1, by grind⟩
  · exact reach_mono (fun j k e => by
      unfold Er at e ⊢
      simp only [Bool.and_eq_true, Bool.not_eq_true', decide_eq_true_eq, decide_eq_false_iff_not] at e ⊢
      have := hm j
      exact ⟨e.1, by grind⟩) h2
end K35
namespace BW
/-! ways grown step by step -/
abbrev P2 := Nat × Nat
theorem nodup_sub {α : Type} [DecidableEq α] : ∀ {l m : List α}, l.Nodup → (∀ x ∈ l, x ∈ m) → l.length ≤ m.length
  | [], m, _, _ => Nat.zero_le _
  | a :: l, m, hn, h => by
    rw [List.nodup_cons] at hn
    have h1 := nodup_sub (l := l) (m := m.erase a) hn.2 fun x hx => by
      have hne : x ≠ a := fun z => hn.1 (z ▸ hx)
      exact (List.mem_erase_of_ne hne).mpr (h x (List.mem_cons_of_mem _ hx))
    have ha := h a List.mem_cons_self
    (have h2 := List.length_erase_of_mem ha); have h3 := List.length_pos_of_mem ha
    rw [List.length_cons]; omega
section
variable {E : Nat → Nat → Bool} {n : Nat}
def prs (E : Nat → Nat → Bool) (n : Nat) : List P2 := (List.range n).flatMap fun i => ((List.range n).filter (E i)).map fun j => (i, j)
theorem mem_prs {p : P2} : p ∈ prs E n ↔ p.1 < n ∧ p.2 < n ∧ E p.1 p.2 = true := by
  obtain ⟨i, j⟩ := p
  unfold prs
  simp only [List.mem_flatMap, List.mem_map, List.mem_filter, List.mem_range, Prod.mk.injEq]
  constructor
  · rintro ⟨a, ha, b, ⟨hb, e⟩, rfl, rfl⟩; exact ⟨ha, hb, e⟩
  · rintro ⟨h1, h2, h3⟩; exact ⟨i, h1, j, ⟨h2, h3⟩, rfl, rfl⟩
theorem nodup_prs : (prs E n).Nodup := by
  unfold prs
  have key : ∀ l : List Nat, l.Nodup → (l.flatMap fun i => ((List.range n).filter (E i)).map fun j => (i, j)).Nodup := by
    intro l
    induction l with
    | nil => intro _; exact .nil
    | cons a l ih =>
      intro h
      rw [List.nodup_cons] at h
      rw [List.flatMap_cons]
      refine List.nodup_append.mpr ⟨?_, ih h.2, fun x hx y hy z => ?_⟩
      · refine List.pairwise_map.mpr ((List.nodup_range.filter _).imp fun hne z => hne ?_)
        exact (Prod.mk.injEq .. ▸ z : _ ∧ _).2
      · subst z
        obtain ⟨j, _, rfl⟩ := List.mem_map.mp hx
        obtain ⟨b, hb, hy⟩ := List.mem_flatMap.mp hy
        obtain ⟨k, _, z⟩ := List.mem_map.mp hy
        have : b = a := by cases z; rfl
        exact h.1 (this ▸ hb)
  exact key _ List.nodup_range
/-- what one lap finds -/
def nxt (E : Nat → Nat → Bool) (n : Nat) (W : List P2) (p : P2) : List P2 := ((prs E n).filter fun q => decide (q.1 = p.2) && !W.contains (p.1, q.2)).map fun q => (p.1, q.2)
def more (E : Nat → Nat → Bool) (n : Nat) (W : List P2) : List P2 := W.flatMap (nxt E n W)
theorem mem_nxt {W : List P2} {p q : P2} : q ∈ nxt E n W p ↔ q.1 = p.1 ∧ p.2 < n ∧ q.2 < n ∧ E p.2 q.2 = true ∧ q ∉ W := by
  obtain ⟨a, b⟩ := p
  obtain ⟨c, d⟩ := q
  unfold nxt
  simp only [List.mem_map, List.mem_filter, mem_prs, Bool.and_eq_true, decide_eq_true_eq, Bool.not_eq_true', ← Bool.not_eq_true, List.contains_iff_mem, Prod.mk.injEq]
  constructor
  · rintro ⟨⟨x, y⟩, ⟨⟨h1, h2, h3⟩, h4, h5⟩, rfl, rfl⟩
    simp only at h1 h2 h3 h4 h5
    subst h4
    exact ⟨rfl, h1, h2, h3, h5⟩
  · rintro ⟨rfl, h1, h2, h3, h4⟩
    exact ⟨(b, d), ⟨⟨h1, h2, h3⟩, rfl, h4⟩, rfl, rfl⟩
theorem mem_more {W : List P2} {q : P2} : q ∈ more E n W ↔ q ∉ W ∧ q.2 < n ∧ ∃ b, b < n ∧ (q.1, b) ∈ W ∧ E b q.2 = true := by
  unfold more
  rw [List.mem_flatMap]
  constructor
  · rintro ⟨p, hp, h⟩
    obtain ⟨h1, h2, h3, h4, h5⟩ := mem_nxt.mp h
    exact ⟨h5, h3, p.2, h2, by rw [h1]; exact hp, h4⟩
  · rintro ⟨h1, h2, b, h3, h4, h5⟩
    exact ⟨(q.1, b), h4, mem_nxt.mpr ⟨rfl, h3, h2, h5, h1⟩⟩
/-! how many -/
def cnt (W : List P2) (a : Nat) : Nat := (W.filter fun w => decide (w.1 = a)).length
theorem cnt_in {W : List P2} (hn : W.Nodup) (hb : ∀ w ∈ W, w.2 < n) (a : Nat) : cnt W a ≤ ((List.range n).filter fun v => W.contains (a, v)).length := by
  have h1 : ((W.filter fun w => decide (w.1 = a)).map (·.2)).length ≤ ((List.range n).filter fun v => W.contains (a, v)).length := by
    refine nodup_sub ?_ fun x hx => ?_
    · refine List.pairwise_map.mpr (List.Pairwise.imp_of_mem (fun {x y} hx hy hne z => hne ?_) (hn.filter _))
      have h1 := of_decide_eq_true (List.mem_filter.mp hx).2
      have h2 := of_decide_eq_true (List.mem_filter.mp hy).2
      exact Prod.ext (h1.trans h2.symm) z
    · obtain ⟨w, hw, rfl⟩ := List.mem_map.mp hx
      obtain ⟨h1, h2⟩ := List.mem_filter.mp hw
      have h2 := of_decide_eq_true h2
      refine List.mem_filter.mpr ⟨List.mem_range.mpr (hb w h1), List.contains_iff_mem.mpr ?_⟩
      rw [← h2]; exact h1
  rwa [List.length_map] at h1
theorem filter_not {α : Type} (p : α → Bool) : ∀ l : List α, (l.filter p).length + (l.filter fun x => !p x).length = l.length
  | [] => rfl
  | a :: l => by
    have := filter_not p l
    cases h : p a with
    | true => rw [List.filter_cons_of_pos h, List.filter_cons_of_neg (by rw [h]; simp)]; simp; omega
    | false => rw [List.filter_cons_of_neg (by rw [h]; simp), List.filter_cons_of_pos (by rw [h]; rfl)]; simp; omega
theorem nxt_len {W : List P2} (hn : W.Nodup) (hb : ∀ w ∈ W, w.2 < n) (p : P2) : (nxt E n W p).length + cnt W p.1 ≤ n := by
  have h1 : ((nxt E n W p).map (·.2)).length ≤ ((List.range n).filter fun v => !W.contains (p.1, v)).length := by
    refine nodup_sub ?_ fun x hx => ?_
    · unfold nxt
      rw [List.map_map]
      refine List.pairwise_map.mpr (List.Pairwise.imp_of_mem (fun {x y} hx hy hne z => hne ?_) (nodup_prs.filter _))
      have h1 := (List.mem_filter.mp hx).2
      have h2 := (List.mem_filter.mp hy).2
      simp only [Bool.and_eq_true, decide_eq_true_eq] at h1 h2
      exact Prod.ext (h1.1.trans h2.1.symm) z
    · obtain ⟨q, hq, rfl⟩ := List.mem_map.mp hx
      obtain ⟨e1, e2, e3, e4, e5⟩ := mem_nxt.mp hq
      refine List.mem_filter.mpr ⟨List.mem_range.mpr e3, ?_⟩
      rw [Bool.not_eq_true', ← Bool.not_eq_true, List.contains_iff_mem, ← e1]
      exact e5
  rw [List.length_map] at h1
  have h2 := cnt_in hn hb p.1
  have h3 := filter_not (fun v => W.contains (p.1, v)) (List.range n)
  rw [List.length_range] at h3
  omega
theorem sum_by (g : Nat → Nat) : ∀ (n : Nat) (W : List P2), (∀ w ∈ W, w.1 < n) → (W.map fun w => g w.1).sum = ((List.range n).map fun a => cnt W a * g a).sum := by
  intro n W
  induction W with
  | nil =>
    intro _
    have : ∀ l : List Nat, (l.map fun a => cnt [] a * g a).sum = 0 := fun l => by
      induction l with
      | nil => rfl
      | cons a l ih => rw [List.map_cons, List.sum_cons, ih]; simp [cnt]
    rw [this]; rfl
  | cons w W ih =>
    intro h
    have ih := ih fun v hv => h v (List.mem_cons_of_mem _ hv)
    have hw := h w List.mem_cons_self
    rw [List.map_cons, List.sum_cons, ih]
    have e : ∀ a, cnt (w :: W) a * g a = cnt W a * g a + (if a = w.1 then g a else 0) := fun a => by
      unfold cnt
      by_cases ha : w.1 = a
      · rw [List.filter_cons_of_pos (by simpa using ha), if_pos ha.symm, List.length_cons, Nat.succ_mul]
      · rw [List.filter_cons_of_neg (by simpa using ha), if_neg (fun z => ha z.symm)]; omega
    have e2 : ∀ l : List Nat, (l.map fun a => cnt (w :: W) a * g a).sum = (l.map fun a => cnt W a * g a).sum + (l.map fun a => if a = w.1 then g a else 0).sum := fun l => by
      induction l with
      | nil => rfl
      | cons a l ih => simp only [List.map_cons, List.sum_cons, ih, e a]; omega
    rw [e2]
    have e3 : ∀ m, ((List.range m).map fun a => if a = w.1 then g a else 0).sum = if w.1 < m then g w.1 else 0 := by
      intro m
      induction m with
      | zero => rfl
      | succ m ih =>
        rw [List.range_succ, List.map_append, List.sum_append, ih]
        (simp only [List.map_cons, List.map_nil, List.sum_cons, List.sum_nil]); by_cases h1 : w.1 < m
        · rw [if_pos h1, if_neg (show ¬ m = w.1 by omega), if_pos (show w.1 < m + 1 by omega)]; rfl
        · by_cases h2 : m = w.1
          · rw [if_neg h1, if_pos h2, if_pos (show w.1 < m + 1 by omega), h2, Nat.zero_add]; rfl
          · rw [if_neg h1, if_neg h2, if_neg (show ¬ w.1 < m + 1 by omega)]; rfl
    rw [e3, if_pos hw]; omega
theorem more_len {W : List P2} (hn : W.Nodup) (hb : ∀ w ∈ W, w.1 < n ∧ w.2 < n) (h6 : n ≤ 6) : (more E n W).length ≤ 54 := by
  have h1 : (more E n W).length ≤ (W.map fun w => n - cnt W w.1).sum := by
    unfold more
    have key : ∀ V : List P2, (V.flatMap (nxt E n W)).length ≤ (V.map fun w => n - cnt W w.1).sum := by
      intro V
      induction V with
      | nil => exact Nat.le_refl _
      | cons v V ih =>
        rw [List.flatMap_cons, List.length_append, List.map_cons, List.sum_cons]
        have := nxt_len (E := E) hn (fun w hw => (hb w hw).2) v
        omega
    exact key W
  have h2 := sum_by (fun a => n - cnt W a) n W fun w hw => (hb w hw).1
  have h3 : ∀ l : List Nat, (l.map fun a => cnt W a * (n - cnt W a)).sum ≤ l.length * 9 := fun l => by
    induction l with
    | nil => exact Nat.le_refl _
    | cons a l ih =>
      (rw [List.map_cons, List.sum_cons, List.length_cons, Nat.succ_mul]); have : cnt W a * (n - cnt W a) ≤ 9 := by
        have hk : cnt W a ≤ 6 ∨ 6 < cnt W a := by omega
        rcases hk with hk | hk
        · have : ∀ k m : Nat, k ≤ 6 → m ≤ 6 → k * (m - k) ≤ 9 := by
            intro k m hk hm
            have : k = 0 ∨ k = 1 ∨ k = 2 ∨ k = 3 ∨ k = 4 ∨ k = 5 ∨ k = 6 := by omega
            rcases this with rfl | rfl | rfl | rfl | rfl | rfl | rfl <;> omega
          exact this _ _ hk h6
        · rw [show n - cnt W a = 0 by omega]; omega
      omega
  have h4 := h3 (List.range n)
  rw [List.length_range] at h4
  rw [h2] at h1
  omega
/-! the laps -/
structure Way (E : Nat → Nat → Bool) (n k : Nat) (W : List P2) : Prop where
  nd : W.Nodup
  bd : ∀ w ∈ W, w.1 < n ∧ w.2 < n
  sub : ∀ p ∈ prs E n, p ∈ W
  sound : ∀ w ∈ W, ∃ j, E w.1 j = true ∧ j < n ∧ Reach E n j w.2
  grow : ∀ a, a < n → (∀ b v, (a, b) ∈ W → v < n → E b v = true → (a, v) ∈ W) ∨ k + 1 ≤ cnt W a
theorem way_start : Way E n 0 (prs E n) := by
  refine ⟨nodup_prs, fun w hw => ⟨(mem_prs.mp hw).1, (mem_prs.mp hw).2.1⟩, fun p hp => hp, fun w hw => ⟨w.2, (mem_prs.mp hw).2.2, (mem_prs.mp hw).2.1, .refl⟩, fun a ha => ?_⟩
  by_cases h : cnt (prs E n) a = 0
  · refine .inl fun b v hb => ?_
    have : (a, b) ∈ (prs E n).filter fun w => decide (w.1 = a) := List.mem_filter.mpr ⟨hb, by simp⟩
    have := List.length_pos_of_mem this
    unfold cnt at h
    omega
  · exact .inr (by omega)
theorem way_step {k : Nat} {W V : List P2} (h : Way E n k W) (hV : V.Nodup) (hm : ∀ q, q ∈ V ↔ q ∈ more E n W) : Way E n (k + 1) (W ++ V) := by
  have hVW : ∀ q ∈ V, q ∉ W := fun q hq => (mem_more.mp ((hm q).mp hq)).1
  refine ⟨List.nodup_append.mpr ⟨h.nd, hV, fun a ha b hb z => hVW b hb (z ▸ ha)⟩, fun w hw => ?_, fun p hp => List.mem_append_left _ (h.sub p hp), fun w hw => ?_, fun a ha => ?_⟩
  · rcases List.mem_append.mp hw with z | z
    · exact h.bd w z
    · obtain ⟨_, h2, b, _, h4, _⟩ := mem_more.mp ((hm w).mp z)
      exact ⟨(h.bd _ h4).1, h2⟩
  · rcases List.mem_append.mp hw with z | z
    · exact h.sound w z
    · obtain ⟨_, h2, b, h3, h4, h5⟩ := mem_more.mp ((hm w).mp z)
      obtain ⟨j, j1, j2, j3⟩ := h.sound _ h4
      exact ⟨j, j1, j2, .step j3 h5 h2⟩
  · by_cases hc : ∀ b v, (a, b) ∈ W → v < n → E b v = true → (a, v) ∈ W
    · refine .inl fun b v hb hv e => ?_
      rcases List.mem_append.mp hb with z | z
      · exact List.mem_append_left _ (hc b v z hv e)
      · obtain ⟨y1, y2, c, y3, y4, y5⟩ := mem_more.mp ((hm _).mp z)
        exact absurd (hc c b y4 y2 y5) y1
    · rcases h.grow a ha with z | z
      · exact absurd z hc
      · refine .inr ?_
        have hex : ∃ b v, (a, b) ∈ W ∧ v < n ∧ E b v = true ∧ (a, v) ∉ W := by
          refine Classical.byContradiction fun hno => hc fun b v h1 h2 h3 => Classical.byContradiction fun h4 => hno ⟨b, v, h1, h2, h3, h4⟩
        obtain ⟨b, v, h1, h2, h3, h4⟩ := hex
        have hv : (a, v) ∈ V := (hm _).mpr (mem_more.mpr ⟨h4, h2, b, (h.bd _ h1).2, h1, h3⟩)
        have : (a, v) ∈ V.filter fun w => decide (w.1 = a) := List.mem_filter.mpr ⟨hv, by simp⟩
        have := List.length_pos_of_mem this
        unfold cnt at z ⊢
        rw [List.filter_append, List.length_append]
        omega
theorem way_end {W : List P2} (h : Way E n n W) {a b : Nat} (ha : a < n) (hab : a ≠ b) : (a, b) ∈ W ↔ Reach E n a b := by
  have hcl : ∀ b v, (a, b) ∈ W → v < n → E b v = true → (a, v) ∈ W := by
    rcases h.grow a ha with z | z
    · exact z
    · have h1 := cnt_in h.nd (fun w hw => (h.bd w hw).2) a
      have h2 := List.length_filter_le (fun v => W.contains (a, v)) (List.range n)
      rw [List.length_range] at h2
      omega
  refine ⟨fun hm => ?_, fun hr => ?_⟩
  · obtain ⟨j, j1, j2, j3⟩ := h.sound _ hm
    exact Reach.trans (.step .refl j1 j2) j3
  · have : ∀ b, Reach E n a b → b = a ∨ (a, b) ∈ W := fun b hr => by
      induction hr with
      | refl => exact .inl rfl
      | @step j k _ e l ih =>
        rcases ih with rfl | ih
        · exact .inr (h.sub _ (mem_prs.mpr ⟨ha, l, e⟩))
        · exact .inr (hcl _ _ ih l e)
    exact (this b hr).resolve_left fun z => hab z.symm
end
end BW
namespace K35
open PySem PyProof.Rows L2 Dv
open BW (Reach P2 prs more nxt)

def qD (p : P2) : D := .tup [.int ((p.1 : Nat) : Int), .int ((p.2 : Nat) : Int)]
def qI (p : P2) : Int × Int := ((p.1 : Int), (p.2 : Int))
theorem qD_pd (p : P2) : qD p = pD (qI p) := rfl
theorem toP_q (p : P2) : toP (qD p) = some (.tuple [.int (p.1 : Nat), .int (p.2 : Nat)]) := rfl
theorem dp_q (p : P2) : DP 1 (qD p) := dp_tup fun y hy => by
  rcases List.mem_cons.mp hy with z | z
  · subst z; exact dp_int _ _
  · (rcases List.mem_cons.mp z with z | z)
    · subst z; exact dp_int _ _
    · cases z
theorem eqv_q (p q : P2) : PyData.eqv (.tuple [.int (p.1 : Nat), .int (p.2 : Nat)]) (.tuple [.int (q.1 : Nat), .int (q.2 : Nat)]) = decide (p = q) := by
  refine Bool.eq_iff_iff.mpr ?_
  simp only [PyData.eqv, PyData.eqvAll, Bool.and_eq_true, beq_iff_eq, decide_eq_true_eq, Bool.and_true]
  constructor
  · rintro ⟨h1, h2⟩
    exact Prod.ext (by omega) (by omega)
  · rintro rfl
    exact ⟨rfl, rfl⟩
theorem toPs_q : ∀ W : List P2, toPs (W.map qD) = some (W.map fun p => .tuple [.int (p.1 : Nat), .int (p.2 : Nat)])
  | [] => rfl
  | p :: W => by
    simp only [List.map_cons, toPs, toP_q, toPs_q W]
    rfl
theorem in_q (p : P2) (W : List P2) : inD (qD p) (.lst (W.map qD)) = some (.bl (W.contains p)) := by
  obtain ⟨a, ea, sa⟩ := (dp_q p).shaped (by omega)
  obtain ⟨b, eb, sb⟩ := (dp_lst (n := 1) (ds := W.map qD) fun d hd => by obtain ⟨q, _, rfl⟩ := List.mem_map.mp hd; exact dp_q q).shaped (by omega)
  rw [toP_q] at ea; cases ea
  simp only [toP, toPs_q, Option.map_some, Option.some.injEq] at eb
  subst eb
  have h1 : inDp (qD p) (.lst (W.map qD)) = some (.bl (W.contains p)) := by
    unfold inDp
    simp only [toP_q, toP, toPs_q, Option.map_some]
    rw [sa, sb]
    simp only [Bool.and_self, if_true, List.any_map]
    congr 2
    refine Bool.eq_iff_iff.mpr ?_
    simp only [List.any_eq_true, Function.comp_apply, eqv_q, decide_eq_true_eq, List.contains_iff_mem]
    exact ⟨fun ⟨x, hx, e⟩ => e ▸ hx, fun h => ⟨p, h, rfl⟩⟩
  have h2 : inSq (qD p) (.lst (W.map qD)) = none := rfl
  unfold inD
  rw [h2, h1]; rfl
theorem nin_q (p : P2) (W : List P2) : ninD (qD p) (.lst (W.map qD)) = some (.bl (!W.contains p)) := by
  obtain ⟨a, ea, sa⟩ := (dp_q p).shaped (by omega)
  have h1 : inDp (qD p) (.lst (W.map qD)) = some (.bl (W.contains p)) := by
    have := in_q p W
    have h2 : inSq (qD p) (.lst (W.map qD)) = none := rfl
    have h3 : inSg (qD p) (.lst (W.map qD)) = none := rfl
    unfold inD at this
    rw [h2, h3] at this
    cases h : inDp (qD p) (.lst (W.map qD)) with
    | none => rw [h] at this; cases this
    | some z => rw [h] at this; exact this
  have h2 : ninSq (qD p) (.lst (W.map qD)) = none := rfl
  unfold ninD ninDp notOf
  rw [h2, h1]; rfl
theorem pairs_q : ∀ W : List P2, pairsD (W.map qD) = some (W.map qI)
  | [] => rfl
  | p :: W => by
    show (pairsD (W.map qD)).map _ = _
    rw [pairs_q W]; rfl
theorem qI_inj {p q : P2} (h : qI p = qI q) : p = q := by
  have h1 := congrArg Prod.fst h
  have h2 := congrArg Prod.snd h
  have h1 : ((p.1 : Nat) : Int) = (q.1 : Nat) := h1
  have h2 : ((p.2 : Nat) : Int) = (q.2 : Nat) := h2
  exact Prod.ext (by omega) (by omega)
theorem sortset_q {W : List P2} (hl : W.length < 64) (hs : ∀ p ∈ W, p.1 < 64 ∧ p.2 < 64) : ∃ V : List P2, sortSet (W.map qD) = some (V.map qD) ∧ V.Nodup ∧ ∀ q, q ∈ V ↔ q ∈ W := by
  have hall : (W.map qI).all smallP = true := List.all_eq_true.mpr fun x hx => by
    obtain ⟨p, hp, rfl⟩ := List.mem_map.mp hx
    have := hs p hp
    simp only [smallP, Bool.and_eq_true, decide_eq_true_eq]
    exact ⟨⟨⟨by show (0 : Int) ≤ ((p.1 : Nat) : Int); omega, by show ((p.1 : Nat) : Int) < 64; omega⟩, by show (0 : Int) ≤ ((p.2 : Nat) : Int); omega⟩, by show ((p.2 : Nat) : Int) < 64; omega⟩
  have hperm := sortPs_perm (dedupP (W.map qI))
  have hnat : ∀ x ∈ sortPs (dedupP (W.map qI)), ∃ p ∈ W, qI p = x := fun x hx => by
    have := mem_dedupP.mp (hperm.mem_iff.mp hx)
    obtain ⟨p, hp, rfl⟩ := List.mem_map.mp this
    exact ⟨p, hp, rfl⟩
  have toN : ∀ l : List (Int × Int), (∀ x ∈ l, ∃ p ∈ W, qI p = x) → ∃ V : List P2, l = V.map qI := by
    intro l
    induction l with
    | nil => exact fun _ => ⟨[], rfl⟩
    | cons x l ih =>
      intro h
      obtain ⟨p, _, rfl⟩ := h x List.mem_cons_self
      obtain ⟨V, rfl⟩ := ih fun y hy => h y (List.mem_cons_of_mem _ hy)
      exact ⟨p :: V, rfl⟩
  obtain ⟨V, hV⟩ := toN _ hnat
  refine ⟨V, ?_, ?_, fun q => ?_⟩
  · unfold sortSet
    rw [pairs_q]
    simp only [Option.bind_some, hall, List.length_map, Bool.and_true, decide_eq_true_eq]
    rw [if_pos hl, hV, List.map_map]
    rfl
  · have hn : (V.map qI).Nodup := by rw [← hV]; exact hperm.nodup_iff.mpr nodup_dedupP
    exact (List.pairwise_map.mp hn).imp fun hne z => hne (by rw [z])
  · have h1 : qI q ∈ V.map qI ↔ qI q ∈ W.map qI := by rw [← hV, hperm.mem_iff, mem_dedupP]
    constructor
    · intro h
      obtain ⟨p, hp, e⟩ := List.mem_map.mp (h1.mp (List.mem_map.mpr ⟨q, h, rfl⟩))
      rw [← qI_inj e]; exact hp
    · intro h
      obtain ⟨p, hp, e⟩ := List.mem_map.mp (h1.mpr (List.mem_map.mpr ⟨q, h, rfl⟩))
      rw [← qI_inj e]; exact hp
theorem paired_q (W : List P2) : Paired (fun d p => d = qD p) (W.map qD) W := paired_mapL (R := fun d p => d = qD p) (fun _ => rfl) W
section
variable {E Sx : Nat → Nat → Bool} {n : Nat} {x sh : D}
/-! the walk: table 0, part 1, one 2, ways 3, lap 4, many 5, pairs 6, more 7, other 8, far 9, near 10 -/
abbrev hv (x sh : D) (one : Option LV) (ways : Option LV) (lap : Option LV) (n : Nat) (P : List P2) (mo : Option LV) (ot fa ne : Option LV) : Lo := [some (.imm x), some (.imm sh), one, ways, lap, some (.imm (.int (n : Nat))), some (.imm (.lst (P.map qD))), mo, ot, fa, ne]
abbrev wD (W : List P2) : Option LV := some (.imm (.lst (W.map qD)))
def rowP (E : Nat → Nat → Bool) (n i : Nat) : List P2 := ((List.range n).filter (E i)).map fun j => (i, j)
theorem prs_eq : prs E n = (List.range n).flatMap (rowP E n) := rfl
theorem rowP_len (i : Nat) : (rowP E n i).length ≤ n := by
  unfold rowP
  rw [List.length_map]
  have := List.length_filter_le (E i) (List.range n)
  rwa [List.length_range] at this
noncomputable def hRow : MS := (sSet 6 (mOp2 addL (mVarB 6) (mLc (mRg1 (mCons (mVarB 5) (mPure []))) [9] (gNm 9) (mTst (mCall f_law_ds_meets (mCons (mVar 0) (mCons (mVar 1) (mCons (mVar 2) (mCons (mVar 9) (mPure []))))))) (mTup (mCons (mVar 2) (mCons (mVar 9) (mPure [])))))))
theorem hrow_ev (hE : ReachF f_law_ds_meets x sh n E) (hn : n ≤ 900) {i : Nat} (hi : i < n) {P : List P2} (hP : P.length + n ≤ 1000000) :
    hRow (hv x sh (some (.imm (.int (i : Nat)))) none none n P none none none none) none = some (.nx, hv x sh (some (.imm (.int (i : Nat)))) none none n (P ++ rowP E n i) none none none none, none) := by
  have hr : mRg1 (mCons (mVarB 5) (mPure [])) (hv x sh (some (.imm (.int (i : Nat)))) none none n P none none none none) none = some (rangeL 0 n, none) := rg1_nat (cons_of (ev_varB rfl) rfl) (by omega)
  have el := lc_if (g := gNm 9) (t := (mTst (mCall f_law_ds_meets (mCons (mVar 0) (mCons (mVar 1) (mCons (mVar 2) (mCons (mVar 9) (mPure [])))))))) (m := (mTup (mCons (mVar 2) (mCons (mVar 9) (mPure []))))) (S := none) (ρ := hv x sh (some (.imm (.int (i : Nat)))) none none n P none none none none) (E i) (fun j => qD (i, j)) (paired_range n) fun d j hd hj => by
    obtain ⟨rfl, hjn⟩ := hd
    refine ⟨hv x sh (some (.imm (.int (i : Nat)))) none none n P none none (some (.imm (.int (j : Nat)))) none, rfl, ?_, fun _ => tup_of (cons_of (ev_var rfl) (cons_of (ev_var rfl) rfl)) (by simp)⟩
    exact mTst_of (mCall_of (cons_of (ev_var rfl) (cons_of (ev_var rfl) (cons_of (ev_var rfl) (cons_of (ev_var rfl) rfl)))) (hE.ev i j hi hjn))
  have ee : ((List.range n).filter (E i)).map (fun j => qD (i, j)) = (rowP E n i).map qD := by unfold rowP; rw [List.map_map]; rfl
  rw [ee] at el
  have := rowP_len (E := E) (n := n) i
  have ea := addL_ev (xs := P.map qD) (ys := (rowP E n i).map qD) (by rw [List.length_map, List.length_map]; omega)
  rw [← List.map_append] at ea
  exact set_of' (mOp2_of (ev_varB rfl) (lc_of hr el) ea)
/-- one pair of the ways -/
noncomputable def hMore : MS := (sSet 7 (mOp2 addL (mVarB 7) (mLc (mSeq (mVar 6)) [10, 9] (gTp 2 (gCns (gNm 10) (gCns (gNm 9) gNl))) (mAnd (mTst (mOp2 eqD (mVarB 10) (mVarB 8))) (mTst (mOp2 ninD (mTup (mCons (mVar 2) (mCons (mVar 9) (mPure [])))) (mVarB 3)))) (mTup (mCons (mVar 2) (mCons (mVar 9) (mPure [])))))))
theorem hmore_ev {W M : List P2} {l : Option LV} {p : P2} {a b : Option LV} (hM : M.length + (prs E n).length ≤ 1000000) :
    hMore (hv x sh (some (.imm (.int (p.1 : Nat)))) (wD W) l n (prs E n) (wD M) (some (.imm (.int (p.2 : Nat)))) a b) none = some (.nx, hv x sh (some (.imm (.int (p.1 : Nat)))) (wD W) l n (prs E n) (wD (M ++ nxt E n W p)) (some (.imm (.int (p.2 : Nat)))) a b, none) := by
  have el := lc_if (g := (gTp 2 (gCns (gNm 10) (gCns (gNm 9) gNl)))) (t := (mAnd (mTst (mOp2 eqD (mVarB 10) (mVarB 8))) (mTst (mOp2 ninD (mTup (mCons (mVar 2) (mCons (mVar 9) (mPure [])))) (mVarB 3))))) (m := (mTup (mCons (mVar 2) (mCons (mVar 9) (mPure []))))) (S := none) (ρ := hv x sh (some (.imm (.int (p.1 : Nat)))) (wD W) l n (prs E n) (wD M) (some (.imm (.int (p.2 : Nat)))) none none)
    (fun q : P2 => decide (q.1 = p.2) && !W.contains (p.1, q.2)) (fun q => qD (p.1, q.2)) (paired_q (prs E n)) fun d q hd hq => by
      subst hd
      refine ⟨hv x sh (some (.imm (.int (p.1 : Nat)))) (wD W) l n (prs E n) (wD M) (some (.imm (.int (p.2 : Nat)))) (some (.imm (.int (q.2 : Nat)))) (some (.imm (.int (q.1 : Nat)))), rfl, ?_, fun _ => tup_of (cons_of (ev_var rfl) (cons_of (ev_var rfl) rfl)) (by simp)⟩
      have e1 : mTst (mOp2 eqD (mVarB 10) (mVarB 8)) (hv x sh (some (.imm (.int (p.1 : Nat)))) (wD W) l n (prs E n) (wD M) (some (.imm (.int (p.2 : Nat)))) (some (.imm (.int (q.2 : Nat)))) (some (.imm (.int (q.1 : Nat))))) none = some (decide (q.1 = p.2), none) := by
        refine mTst_of (mOp2_of (ev_varB rfl) (ev_varB rfl) ?_)
        rw [eqD_int]
        by_cases h : q.1 = p.2
        · rw [decide_eq_true h, decide_eq_true (by omega)]
        · rw [decide_eq_false h, decide_eq_false (by omega)]
      exact and_of e1 (mTst_of (mOp2_of (tup_of (cons_of (ev_var rfl) (cons_of (ev_var rfl) rfl)) (by simp)) (ev_varB rfl) (nin_q (p.1, q.2) W)))
  have ee : ((prs E n).filter fun q : P2 => decide (q.1 = p.2) && !W.contains (p.1, q.2)).map (fun q => qD (p.1, q.2)) = (nxt E n W p).map qD := by unfold nxt; rw [List.map_map]; rfl
  rw [ee] at el
  have hln : (nxt E n W p).length ≤ (prs E n).length := by unfold nxt; rw [List.length_map]; exact List.length_filter_le _ _
  have ea := addL_ev (xs := M.map qD) (ys := (nxt E n W p).map qD) (by rw [List.length_map, List.length_map]; omega)
  rw [← List.map_append] at ea
  exact set_of' (mOp2_of (ev_varB rfl) (lc_of (mSeq_of (ev_var rfl) rfl) el) ea)
theorem prs_len : (prs E n).length ≤ n * n := by
  rw [prs_eq]
  have key : ∀ l : List Nat, (l.flatMap (rowP E n)).length ≤ l.length * n := fun l => by
    induction l with
    | nil => exact Nat.zero_le _
    | cons a l ih =>
      rw [List.flatMap_cons, List.length_append, List.length_cons, Nat.succ_mul]
      have := rowP_len (E := E) (n := n) a
      omega
  have := key (List.range n)
  rwa [List.length_range] at this
noncomputable def hLap : MS := (sSq (sSet 7 (mLst (mPure [])))
  (sSq (sFor (mSeq (mVar 3)) (gTp 2 (gCns (gNm 2) (gCns (gNm 8) gNl))) hMore)
  (sSet 3 (mOp2 addL (mVarB 3) (mSortSet (mCons (mVarB 7) (mPure [])))))))
theorem hlap_ev (h6 : n ≤ 6) {W : List P2} {k : Nat} (hW : BW.Way E n k W) {o l mo ot fa ne : Option LV} :
    ∃ W' o' mo' ot', hLap (hv x sh o (wD W) l n (prs E n) mo ot fa ne) none = some (.nx, hv x sh o' (wD W') l n (prs E n) mo' ot' fa ne, none) ∧ BW.Way E n (k + 1) W' := by
  have hpl : (prs E n).length ≤ 36 := Nat.le_trans prs_len (Nat.mul_le_mul h6 h6)
  have hWl : W.length ≤ 36 := by
    have h1 : W.length ≤ ((List.range n).flatMap fun i => (List.range n).map fun j => (i, j)).length := BW.nodup_sub hW.nd fun w hw => by
      obtain ⟨a, b⟩ := w
      have := hW.bd _ hw
      exact List.mem_flatMap.mpr ⟨a, List.mem_range.mpr this.1, List.mem_map.mpr ⟨b, List.mem_range.mpr this.2, rfl⟩⟩
    have h2 : ∀ l : List Nat, (l.flatMap fun i => (List.range n).map fun j => (i, j)).length = l.length * n := fun l => by
      induction l with
      | nil => simp
      | cons a l ih => rw [List.flatMap_cons, List.length_append, ih, List.length_map, List.length_range, List.length_cons, Nat.succ_mul]; omega
    rw [h2, List.length_range] at h1
    exact Nat.le_trans h1 (Nat.mul_le_mul h6 h6)
  have hml := BW.more_len (E := E) hW.nd hW.bd h6
  have e1 : sSet 7 (mLst (mPure [])) (hv x sh o (wD W) l n (prs E n) mo ot fa ne) none = some (.nx, hv x sh o (wD W) l n (prs E n) (wD []) ot fa ne, none) := rfl
  obtain ⟨fl, ρ', S', e2, rfl, rfl, o', ot', rfl⟩ := for_run (g := gTp 2 (gCns (gNm 2) (gCns (gNm 8) gNl))) (ms := hMore) (ds := W.map qD) (P := fun fl ρ S => fl = .nx ∧ S = none ∧ ∃ o ot, ρ = hv x sh o (wD W) l n (prs E n) (wD (more E n W)) ot fa ne)
    (Inv := fun t ρ S => S = none ∧ ∃ o ot, ρ = hv x sh o (wD W) l n (prs E n) (wD ((W.take t).flatMap (nxt E n W))) ot fa ne) 0
    (fun t d ρ S hd hI => by
      obtain ⟨rfl, o, ot, rfl⟩ := hI
      rw [Nat.zero_add]
      rw [List.getElem?_map] at hd
      obtain ⟨p, hp, rfl⟩ := Option.map_eq_some_iff.mp hd
      have et : W.take (t + 1) = W.take t ++ [p] := by rw [List.take_add_one, hp]; rfl
      have hsub : ((W.take t).flatMap (nxt E n W)).length ≤ (more E n W).length := by
        have h1 : more E n W = (W.take t).flatMap (nxt E n W) ++ (W.drop t).flatMap (nxt E n W) := by
          unfold more
          rw [← List.flatMap_append, List.take_append_drop]
        rw [h1, List.length_append]; omega
      have e := hmore_ev (x := x) (sh := sh) (E := E) (n := n) (W := W) (M := (W.take t).flatMap (nxt E n W)) (l := l) (p := p) (a := fa) (b := ne) (by omega)
      have ef : (W.take (t + 1)).flatMap (nxt E n W) = (W.take t).flatMap (nxt E n W) ++ nxt E n W p := by
        rw [et, List.flatMap_append]; simp
      rw [← ef] at e
      exact ⟨_, .nx, _, none, rfl, e, rfl, _, _, rfl⟩)
    (fun ρ S hI => by
      obtain ⟨rfl, o, ot, rfl⟩ := hI
      refine ⟨rfl, rfl, o, ot, ?_⟩
      rw [Nat.zero_add, List.length_map, List.take_length]
      rfl) (hv x sh o (wD W) l n (prs E n) (wD []) ot fa ne) none ⟨rfl, o, ot, rfl⟩
  obtain ⟨V, e3, hV, hm⟩ := sortset_q (W := more E n W) (by omega) fun p hp => by
    obtain ⟨_, h2, b, _, h4, _⟩ := BW.mem_more.mp hp
    have := (hW.bd _ h4).1
    simp only at this
    omega
  have hVl : V.length ≤ 54 := Nat.le_trans (BW.nodup_sub hV fun x hx => (hm x).mp hx) hml
  have ea := addL_ev (xs := W.map qD) (ys := V.map qD) (by rw [List.length_map, List.length_map]; omega)
  rw [← List.map_append] at ea
  refine ⟨W ++ V, o', wD (more E n W), ot', (sSq_nx e1).trans ((sSq_nx (for_of (mSeq_of (ev_var rfl) rfl) e2)).trans (set_of' (mOp2_of (ev_varB rfl) ?_ ea))), BW.way_step hW hV hm⟩
  unfold mSortSet
  rw [show mCons (mVarB 7) (mPure []) (hv x sh o' (wD W) l n (prs E n) (wD (more E n W)) ot' fa ne) none = some ([.lst ((more E n W).map qD)], none) from rfl]
  simp only [Option.bind_some]
  rw [e3]; rfl
theorem hasM_eq : m_law_ds_has_ring = (sSq (sPar2 5 6 false (mCall lenD (mCons (mVarB 0) (mPure []))) false (mLst (mPure [])))
  (sSq (sFor (mRg1 (mCons (mVarB 5) (mPure []))) (gNm 2) hRow)
  (sSq (sSet 3 (mCall listD (mCons (mVarB 6) (mPure []))))
  (sSq (sFor (mRg1 (mCons (mVarB 5) (mPure []))) (gNm 4) hLap)
  (sRet (mOp2 neD (mLc (mSeq (mVar 6)) [2, 8] (gTp 2 (gCns (gNm 2) (gCns (gNm 8) gNl))) (mAnd (mTst (mCall f_law_ds_meets_strictly (mCons (mVar 0) (mCons (mVar 1) (mCons (mVar 2) (mCons (mVar 8) (mPure []))))))) (mTst (mOp2 inD (mTup (mCons (mVar 8) (mCons (mVar 2) (mPure [])))) (mVarB 3)))) (mPure (.int 1))) (mLst (mPure [])))))))) := rfl
open Classical in
theorem has_ev (hE : ReachF f_law_ds_meets x sh n E) (hS : ReachF f_law_ds_meets_strictly x sh n Sx) (hne : ∀ i, Sx i i = false) (hSE : ∀ i j, Sx i j = true → E i j = true) (h6 : n ≤ 6) (hl : lenD [x] = some (.int (n : Nat))) :
    f_law_ds_has_ring [x, sh] = some (.bl (decide (HasRing E Sx n))) := by
  have e1 : sPar2 5 6 false (mCall lenD (mCons (mVarB 0) (mPure []))) false (mLst (mPure [])) (startL 11 [x, sh]) none = some (.nx, hv x sh none none none n [] none none none none, none) := sPar2_of (mCall_of (cons_of (ev_varB rfl) rfl) hl) rfl
  have hr : ∀ o w l P m a b c, mRg1 (mCons (mVarB 5) (mPure [])) (hv x sh o w l n P m a b c) none = some (rangeL 0 n, none) := fun o w l P m a b c => rg1_nat (cons_of (ev_varB rfl) rfl) (by omega)
  obtain ⟨fl, ρ', S', e2, rfl, rfl, o, rfl⟩ := for_run (g := gNm 2) (ms := hRow) (ds := rangeL 0 n) (P := fun fl ρ S => fl = .nx ∧ S = none ∧ ∃ o, ρ = hv x sh o none none n (prs E n) none none none none)
    (Inv := fun t ρ S => S = none ∧ ∃ o, ρ = hv x sh o none none n ((List.range t).flatMap (rowP E n)) none none none none) 0
    (fun t d ρ S hd hI => by
      obtain ⟨ht, rfl⟩ := rangeL_get hd
      obtain ⟨rfl, o, rfl⟩ := hI
      rw [Nat.zero_add]
      have hlen : ((List.range t).flatMap (rowP E n)).length ≤ t * n := by
        have key : ∀ l : List Nat, (l.flatMap (rowP E n)).length ≤ l.length * n := fun l => by
          induction l with
          | nil => exact Nat.zero_le _
          | cons a l ih =>
            rw [List.flatMap_cons, List.length_append, List.length_cons, Nat.succ_mul]
            have := rowP_len (E := E) (n := n) a
            omega
        have := key (List.range t)
        rwa [List.length_range] at this
      have htn : t * n ≤ 6 * 6 := Nat.mul_le_mul (by omega) h6
      have e := hrow_ev hE (by omega) ht (P := (List.range t).flatMap (rowP E n)) (by omega)
      have ef : (List.range (t + 1)).flatMap (rowP E n) = (List.range t).flatMap (rowP E n) ++ rowP E n t := by rw [List.range_succ, List.flatMap_append]; simp
      rw [← ef] at e
      exact ⟨_, .nx, _, none, rfl, e, rfl, _, rfl⟩)
    (fun ρ S hI => by
      obtain ⟨rfl, o, rfl⟩ := hI
      refine ⟨rfl, rfl, o, ?_⟩
      rw [Nat.zero_add, rangeL_len]
      rfl) (hv x sh none none none n [] none none none none) none ⟨rfl, none, rfl⟩
  have e3 : sSet 3 (mCall listD (mCons (mVarB 6) (mPure []))) (hv x sh o none none n (prs E n) none none none none) none = some (.nx, hv x sh o (wD (prs E n)) none n (prs E n) none none none none, none) := set_of' (mCall_of (cons_of (ev_varB rfl) rfl) rfl)
  obtain ⟨fl, ρ', S', e4, rfl, rfl, W, o', l', mo', ot', rfl, hW⟩ := for_run (g := gNm 4) (ms := hLap) (ds := rangeL 0 n) (P := fun fl ρ S => fl = .nx ∧ S = none ∧ ∃ W o l mo ot, ρ = hv x sh o (wD W) l n (prs E n) mo ot none none ∧ BW.Way E n n W)
    (Inv := fun t ρ S => S = none ∧ ∃ W o l mo ot, ρ = hv x sh o (wD W) l n (prs E n) mo ot none none ∧ BW.Way E n t W) 0
    (fun t d ρ S hd hI => by
      obtain ⟨ht, rfl⟩ := rangeL_get hd
      obtain ⟨rfl, W, o, l, mo, ot, rfl, hW⟩ := hI
      rw [Nat.zero_add] at hW ⊢
      obtain ⟨W', o', mo', ot', e, hW'⟩ := hlap_ev (x := x) (sh := sh) h6 hW (o := o) (l := some (.imm (.int (t : Nat)))) (mo := mo) (ot := ot) (fa := none) (ne := none)
      exact ⟨_, .nx, _, none, rfl, e, rfl, W', _, _, _, _, rfl, hW'⟩)
    (fun ρ S hI => by
      obtain ⟨rfl, W, o, l, mo, ot, rfl, hW⟩ := hI
      rw [Nat.zero_add, rangeL_len] at hW
      exact ⟨rfl, rfl, W, o, l, mo, ot, rfl, hW⟩) (hv x sh o (wD (prs E n)) none n (prs E n) none none none none) none ⟨rfl, prs E n, o, none, none, none, rfl, BW.way_start⟩
  have el := lc_if (g := (gTp 2 (gCns (gNm 2) (gCns (gNm 8) gNl)))) (t := (mAnd (mTst (mCall f_law_ds_meets_strictly (mCons (mVar 0) (mCons (mVar 1) (mCons (mVar 2) (mCons (mVar 8) (mPure []))))))) (mTst (mOp2 inD (mTup (mCons (mVar 8) (mCons (mVar 2) (mPure [])))) (mVarB 3))))) (m := mPure (.int 1)) (S := none) (ρ := hv x sh none (wD W) l' n (prs E n) mo' none none none)
    (fun p : P2 => Sx p.1 p.2 && W.contains (p.2, p.1)) (fun _ => D.int 1) (paired_q (prs E n)) fun d p hd hp => by
      subst hd
      obtain ⟨h1, h2, h3⟩ := BW.mem_prs.mp hp
      refine ⟨hv x sh (some (.imm (.int (p.1 : Nat)))) (wD W) l' n (prs E n) mo' (some (.imm (.int (p.2 : Nat)))) none none, rfl, ?_, fun _ => rfl⟩
      exact and_of (mTst_of (mCall_of (cons_of (ev_var rfl) (cons_of (ev_var rfl) (cons_of (ev_var rfl) (cons_of (ev_var rfl) rfl)))) (hS.ev p.1 p.2 h1 h2))) (mTst_of (mOp2_of (tup_of (cons_of (ev_var rfl) (cons_of (ev_var rfl) rfl)) (by simp)) (ev_varB rfl) (in_q (p.2, p.1) W)))
  have hz : neD (.lst (((prs E n).filter fun p : P2 => Sx p.1 p.2 && W.contains (p.2, p.1)).map fun _ => D.int 1)) (.lst []) = some (.bl (decide (HasRing E Sx n))) := by
    rw [(eq_lst_nil (n := 0) (fun d hd => by obtain ⟨_, _, rfl⟩ := List.mem_map.mp hd; exact dp_int _ _) (by omega)).2]
    congr 2
    refine decide_eq_decide.mpr ?_
    rw [ne_eq, List.map_eq_nil_iff]
    constructor
    · intro h
      obtain ⟨p, hp⟩ := List.exists_mem_of_ne_nil _ h
      obtain ⟨h1, h2⟩ := List.mem_filter.mp hp
      obtain ⟨h3, h4, h5⟩ := BW.mem_prs.mp h1
      simp only [Bool.and_eq_true, List.contains_iff_mem] at h2
      have hne' : p.2 ≠ p.1 := fun z => by have := h2.1; rw [z, hne] at this; cases this
      exact ⟨p.1, p.2, h3, h4, h2.1, (BW.way_end hW h4 hne').mp h2.2⟩
    · rintro ⟨i, j, hi, hj, h1, h2⟩ h
      have hne' : j ≠ i := fun z => by rw [z, hne] at h1; cases h1
      have : (i, j) ∈ (prs E n).filter fun p : P2 => Sx p.1 p.2 && W.contains (p.2, p.1) := by
        refine List.mem_filter.mpr ⟨BW.mem_prs.mpr ⟨hi, hj, hSE i j h1⟩, ?_⟩
        simp only [Bool.and_eq_true, List.contains_iff_mem]
        exact ⟨h1, (BW.way_end hW hj hne').mpr h2⟩
      rw [h] at this
      cases this
  have e5 : mOp2 neD (mLc (mSeq (mVar 6)) [2, 8] (gTp 2 (gCns (gNm 2) (gCns (gNm 8) gNl))) (mAnd (mTst (mCall f_law_ds_meets_strictly (mCons (mVar 0) (mCons (mVar 1) (mCons (mVar 2) (mCons (mVar 8) (mPure []))))))) (mTst (mOp2 inD (mTup (mCons (mVar 8) (mCons (mVar 2) (mPure [])))) (mVarB 3)))) (mPure (.int 1))) (mLst (mPure [])) (hv x sh o' (wD W) l' n (prs E n) mo' ot' none none) none = some (.bl (decide (HasRing E Sx n)), none) :=
    mOp2_of (lc_of (mSeq_of (ev_var rfl) rfl) el) rfl hz
  have whole : m_law_ds_has_ring (startL 11 [x, sh]) none = some (.rt (.bl (decide (HasRing E Sx n))), hv x sh o' (wD W) l' n (prs E n) mo' ot' none none, none) := by
    rw [hasM_eq]
    exact (sSq_nx e1).trans ((sSq_nx (for_of (hr _ _ _ _ _ _ _ _) e2)).trans ((sSq_nx e3).trans ((sSq_nx (for_of (hr _ _ _ _ _ _ _ _) e4)).trans (sRet_of e5))))
  exact runP_rt rfl whole
end
end K35
namespace K35
open PySem PyProof.Rows L2 Dv

/-- the draws as they may stand, after at most c blends -/
structure RgOk (ns : List Int) (c : Nat) (r : Rng) : Prop where
  cells : r.cells = absOf ns
  len : ns.length ≤ 1000
  turn0 : 0 ≤ r.turn
  turnc : r.turn ≤ c
  cc : c ≤ 1000000
  rest0 : 0 ≤ r.rest
  gl : r.great.length ≤ 1000
  great0 : ∀ z ∈ r.great, 0 ≤ z
theorem abs_nonneg {ns : List Int} {z : Int} (h : z ∈ absOf ns) : 0 ≤ z := by
  obtain ⟨y, _, rfl⟩ := List.mem_map.mp h
  rw [iabs_nat]; omega
/-- one pass over the cells keeps the blend small -/
def bStep : MS := sSet 4 (mOp2 modD (mCall Dv.intD (mCons (mOp2 addD (mOp2 addD (mOp2 mulI (mVarB 4) (mPure (.int 69621))) (mVarB 5)) (mVarB 2)) (mPure []))) (mVarB 1))
theorem blend_go {a : Addr} {prime turn found : Int} (hp0 : 0 < prime) (hp : prime < 2147483648) {S : Sg} : ∀ (zs : List Int) (bl : Int) (z : Option LV), 0 ≤ bl → bl < 1000000000000 → ∃ bl' z', forGo (gNm 5) bStep (zs.map D.int) [some (.imm (.rng a)), some (.imm (.int prime)), some (.imm (.int turn)), some (.imm (.int found)), some (.imm (.int bl)), z] S = some (.nx, [some (.imm (.rng a)), some (.imm (.int prime)), some (.imm (.int turn)), some (.imm (.int found)), some (.imm (.int bl')), z'], S) ∧ 0 ≤ bl' ∧ bl' < 1000000000000
  | [], bl, z, h0, h1 => ⟨bl, z, rfl, h0, h1⟩
  | c :: zs, bl, z, h0, h1 => by
    have hm : bl.natAbs.log2 + (69621 : Int).natAbs.log2 < 1000000 := by
      have : bl.natAbs.log2 ≤ (1000000000000 : Nat).log2 := log2_mono (by omega)
      have e : (1000000000000 : Nat).log2 = 39 := by decide +kernel
      have e2 : (69621 : Int).natAbs.log2 = 16 := by decide +kernel
      omega
    have hn0 : 0 ≤ (bl * 69621 + c + turn) % prime := Int.emod_nonneg _ (by omega)
    have hn1 : (bl * 69621 + c + turn) % prime < prime := Int.emod_lt_of_pos _ hp0
    obtain ⟨bl', z', e, b0, b1⟩ := blend_go (a := a) (turn := turn) (found := found) hp0 hp (S := S) zs ((bl * 69621 + c + turn) % prime) (some (.imm (.int c))) hn0 (by omega)
    refine ⟨bl', z', ?_, b0, b1⟩
    rw [← e]
    show Option.bind (gNm 5 (.int c) _) _ = _
    simp only [runP, startL, outF, mVar, mVarB, mPure, mOp1, mOp2, mCons, mCall, mTup, mLst, mTst, asB, mNot, mAnd, mOr, mAndV, mOrV, mIte, mSeq, sSq, sIf, sRet, sSet, sSetF, sNil, sFrz, frz, sExpr, sPar2, sPar3, sAsg, mkL, gNm, gTp, gCns, gNl, D.asT, itemsD, addD_int, subD_int, ltD_int, leD_int, gtD_int, geD_int, negD_int, gcdD_int, absD_int, Option.bind_some, Option.map_some, Option.bind_none, Option.map_none, List.map_cons, List.map_nil, List.length_cons, List.length_nil, List.cons_append, List.nil_append, List.getElem?_cons_zero, List.getElem?_cons_succ, List.set_cons_zero, List.set_cons_succ, List.replicate_succ, List.replicate_zero, Nat.reduceAdd, Nat.reduceSub, Nat.reduceLeDiff, if_true, if_false, ite_true, ite_false, Bool.false_eq_true, bStep, mulI_int hm, Dv.intD, modD_int hp0]
end K35
namespace K35
open PySem PyProof.Rows L2 Dv

def pStep : MS := (sSq (sSet 4 (mOp2 addD (mOp2 mulI (mPure (.int 48271)) (mVarB 2)) (mOp2 fdivD (mVarB 1) (mPure (.int 53)))))
  (sSq (sFor (mSeq (mStC 0)) (gNm 5) bStep)
  (sSet 3 (mOp2 addD (mOp2 mulI (mVarB 3) (mPure (.int 2147483647))) (mOp2 modD (mCall Dv.intD (mCons (mOp2 powD (mVarB 4) (mPure (.int 5))) (mPure []))) (mVarB 1))))))
theorem pstep_ev {r : Rng} {prime turn found : Int} (hp0 : 0 < prime) (hp : prime < 2147483648) (ht0 : 0 ≤ turn) (ht : turn ≤ 2000000) (hf0 : 0 ≤ found) (hf : found < 1000000000000000000000000000000) (z y : Option LV) :
    ∃ x bl' z', pStep [some (.imm (.rng r.at_)), some (.imm (.int prime)), some (.imm (.int turn)), some (.imm (.int found)), z, y] (some r) = some (.nx, [some (.imm (.rng r.at_)), some (.imm (.int prime)), some (.imm (.int turn)), some (.imm (.int (found * 2147483647 + x))), some (.imm (.int bl')), z'], some r) ∧ 0 ≤ x ∧ x < 2147483648 := by
  have hd : prime / 53 < 2147483648 := by omega
  have hd0 : 0 ≤ prime / 53 := by omega
  have l53 : (53 : Int).natAbs.log2 < 9000 := by decide +kernel
  have m1 : (48271 : Int).natAbs.log2 + turn.natAbs.log2 < 1000000 := by
    have : turn.natAbs.log2 ≤ (2000000 : Nat).log2 := log2_mono (by omega)
    have e : (2000000 : Nat).log2 = 20 := by decide +kernel
    have e2 : (48271 : Int).natAbs.log2 = 15 := by decide +kernel
    omega
  have m2 : found.natAbs.log2 + (2147483647 : Int).natAbs.log2 < 1000000 := by
    have : found.natAbs.log2 ≤ (1000000000000000000000000000000 : Nat).log2 := log2_mono (by omega)
    have e : (1000000000000000000000000000000 : Nat).log2 = 99 := by decide +kernel
    have e2 : (2147483647 : Int).natAbs.log2 = 30 := by decide +kernel
    omega
  obtain ⟨bl', z', e, b0, b1⟩ := blend_go (a := r.at_) (turn := turn) (found := found) hp0 hp (S := some r) r.cells (48271 * turn + prime / 53) y (by omega) (by omega)
  have hpw : powD (.int bl') (.int 5) = some (.int (bl' ^ 5)) := by
    have : bl'.natAbs < 2 ^ 64 := by omega
    simp [powD, liftI2, this]
  refine ⟨(bl' ^ 5) % prime, bl', z', ?_, Int.emod_nonneg _ (by omega), by have := Int.emod_lt_of_pos (bl' ^ 5) hp0; omega⟩
  have s1 : sSet 4 (mOp2 addD (mOp2 mulI (mPure (.int 48271)) (mVarB 2)) (mOp2 fdivD (mVarB 1) (mPure (.int 53)))) [some (.imm (.rng r.at_)), some (.imm (.int prime)), some (.imm (.int turn)), some (.imm (.int found)), z, y] (some r) = some (.nx, [some (.imm (.rng r.at_)), some (.imm (.int prime)), some (.imm (.int turn)), some (.imm (.int found)), some (.imm (.int (48271 * turn + prime / 53))), y], some r) := by
    simp only [runP, startL, outF, mVar, mVarB, mPure, mOp1, mOp2, mCons, mCall, mTup, mLst, mTst, asB, mNot, mAnd, mOr, mAndV, mOrV, mIte, mSeq, sSq, sIf, sRet, sSet, sSetF, sNil, sFrz, frz, sExpr, sPar2, sPar3, sAsg, mkL, gNm, gTp, gCns, gNl, D.asT, itemsD, addD_int, subD_int, ltD_int, leD_int, gtD_int, geD_int, negD_int, gcdD_int, absD_int, Option.bind_some, Option.map_some, Option.bind_none, Option.map_none, List.map_cons, List.map_nil, List.length_cons, List.length_nil, List.cons_append, List.nil_append, List.getElem?_cons_zero, List.getElem?_cons_succ, List.set_cons_zero, List.set_cons_succ, List.replicate_succ, List.replicate_zero, Nat.reduceAdd, Nat.reduceSub, Nat.reduceLeDiff, if_true, if_false, ite_true, ite_false, Bool.false_eq_true, mulI_int m1, fdivD_int (by omega : (0 : Int) < 53) l53]
  have ec : mSeq (mStC 0) [some (.imm (.rng r.at_)), some (.imm (.int prime)), some (.imm (.int turn)), some (.imm (.int found)), some (.imm (.int (48271 * turn + prime / 53))), y] (some r) = some (r.cells.map D.int, some r) := by
    simp only [runP, startL, outF, mVar, mVarB, mPure, mOp1, mOp2, mCons, mCall, mTup, mLst, mTst, asB, mNot, mAnd, mOr, mAndV, mOrV, mIte, mSeq, sSq, sIf, sRet, sSet, sSetF, sNil, sFrz, frz, sExpr, sPar2, sPar3, sAsg, mkL, gNm, gTp, gCns, gNl, D.asT, itemsD, addD_int, subD_int, ltD_int, leD_int, gtD_int, geD_int, negD_int, gcdD_int, absD_int, Option.bind_some, Option.map_some, Option.bind_none, Option.map_none, List.map_cons, List.map_nil, List.length_cons, List.length_nil, List.cons_append, List.nil_append, List.getElem?_cons_zero, List.getElem?_cons_succ, List.set_cons_zero, List.set_cons_succ, List.replicate_succ, List.replicate_zero, Nat.reduceAdd, Nat.reduceSub, Nat.reduceLeDiff, if_true, if_false, ite_true, ite_false, Bool.false_eq_true, mStC]
  have s2 := for_of (mi := mSeq (mStC 0)) ec e
  have s3 : sSet 3 (mOp2 addD (mOp2 mulI (mVarB 3) (mPure (.int 2147483647))) (mOp2 modD (mCall Dv.intD (mCons (mOp2 powD (mVarB 4) (mPure (.int 5))) (mPure []))) (mVarB 1))) [some (.imm (.rng r.at_)), some (.imm (.int prime)), some (.imm (.int turn)), some (.imm (.int found)), some (.imm (.int bl')), z'] (some r) = some (.nx, [some (.imm (.rng r.at_)), some (.imm (.int prime)), some (.imm (.int turn)), some (.imm (.int (found * 2147483647 + (bl' ^ 5) % prime))), some (.imm (.int bl')), z'], some r) := by
    simp only [runP, startL, outF, mVar, mVarB, mPure, mOp1, mOp2, mCons, mCall, mTup, mLst, mTst, asB, mNot, mAnd, mOr, mAndV, mOrV, mIte, mSeq, sSq, sIf, sRet, sSet, sSetF, sNil, sFrz, frz, sExpr, sPar2, sPar3, sAsg, mkL, gNm, gTp, gCns, gNl, D.asT, itemsD, addD_int, subD_int, ltD_int, leD_int, gtD_int, geD_int, negD_int, gcdD_int, absD_int, Option.bind_some, Option.map_some, Option.bind_none, Option.map_none, List.map_cons, List.map_nil, List.length_cons, List.length_nil, List.cons_append, List.nil_append, List.getElem?_cons_zero, List.getElem?_cons_succ, List.set_cons_zero, List.set_cons_succ, List.replicate_succ, List.replicate_zero, Nat.reduceAdd, Nat.reduceSub, Nat.reduceLeDiff, if_true, if_false, ite_true, ite_false, Bool.false_eq_true, mulI_int m2, hpw, Dv.intD, modD_int hp0]
  exact (sSq_nx s1).trans ((sSq_nx s2).trans s3)
end K35
namespace K35
open PySem PyProof.Rows L2 Dv

theorem blended_ev {ns : List Int} {c : Nat} {r : Rng} (h : RgOk ns c r) : ∃ v, f_law_blended [.rng r.at_] r = some (.int v, { r with turn := r.turn + 1 }) ∧ 0 ≤ v := by
  have t0 := h.turn0
  have tc := h.turnc
  have cc := h.cc
  obtain ⟨x1, b1, z1, e1, p1, q1⟩ := pstep_ev (r := { r with turn := r.turn + 1 }) (prime := 2147483579) (turn := r.turn + 1) (found := 0) (by omega) (by omega) (by omega) (by omega) (by omega) (by omega) none none
  obtain ⟨x2, b2, z2, e2, p2, q2⟩ := pstep_ev (r := { r with turn := r.turn + 1 }) (prime := 2147483629) (turn := r.turn + 1) (found := 0 * 2147483647 + x1) (by omega) (by omega) (by omega) (by omega) (by omega) (by omega) (some (.imm (.int b1))) z1
  obtain ⟨x3, b3, z3, e3, p3, q3⟩ := pstep_ev (r := { r with turn := r.turn + 1 }) (prime := 2147483563) (turn := r.turn + 1) (found := (0 * 2147483647 + x1) * 2147483647 + x2) (by omega) (by omega) (by omega) (by omega) (by omega) (by omega) (some (.imm (.int b2))) z2
  refine ⟨((0 * 2147483647 + x1) * 2147483647 + x2) * 2147483647 + x3, ?_, by omega⟩
  have s1 : sPar2 2 3 false (mOp2 addD (mStI 0 Rng.turn) (mPure (.int 1))) false (mPure (.int 0)) [some (.imm (.rng r.at_)), none, none, none, none, none] (some r) = some (.nx, [some (.imm (.rng r.at_)), none, some (.imm (.int (r.turn + 1))), some (.imm (.int 0)), none, none], some r) := by
    simp only [runP, startL, outF, mVar, mVarB, mPure, mOp1, mOp2, mCons, mCall, mTup, mLst, mTst, asB, mNot, mAnd, mOr, mAndV, mOrV, mIte, mSeq, sSq, sIf, sRet, sSet, sSetF, sNil, sFrz, frz, sExpr, sPar2, sPar3, sAsg, mkL, gNm, gTp, gCns, gNl, D.asT, itemsD, addD_int, subD_int, ltD_int, leD_int, gtD_int, geD_int, negD_int, gcdD_int, absD_int, Option.bind_some, Option.map_some, Option.bind_none, Option.map_none, List.map_cons, List.map_nil, List.length_cons, List.length_nil, List.cons_append, List.nil_append, List.getElem?_cons_zero, List.getElem?_cons_succ, List.set_cons_zero, List.set_cons_succ, List.replicate_succ, List.replicate_zero, Nat.reduceAdd, Nat.reduceSub, Nat.reduceLeDiff, if_true, if_false, ite_true, ite_false, Bool.false_eq_true, mStI]
  have s2 : sStturn 0 (mVar 2) [some (.imm (.rng r.at_)), none, some (.imm (.int (r.turn + 1))), some (.imm (.int 0)), none, none] (some r) = some (.nx, [some (.imm (.rng r.at_)), none, some (.imm (.int (r.turn + 1))), some (.imm (.int 0)), none, none], some { r with turn := r.turn + 1 }) := by
    unfold sStturn
    simp only [runP, startL, outF, mVar, mVarB, mPure, mOp1, mOp2, mCons, mCall, mTup, mLst, mTst, asB, mNot, mAnd, mOr, mAndV, mOrV, mIte, mSeq, sSq, sIf, sRet, sSet, sSetF, sNil, sFrz, frz, sExpr, sPar2, sPar3, sAsg, mkL, gNm, gTp, gCns, gNl, D.asT, itemsD, addD_int, subD_int, ltD_int, leD_int, gtD_int, geD_int, negD_int, gcdD_int, absD_int, Option.bind_some, Option.map_some, Option.bind_none, Option.map_none, List.map_cons, List.map_nil, List.length_cons, List.length_nil, List.cons_append, List.nil_append, List.getElem?_cons_zero, List.getElem?_cons_succ, List.set_cons_zero, List.set_cons_succ, List.replicate_succ, List.replicate_zero, Nat.reduceAdd, Nat.reduceSub, Nat.reduceLeDiff, if_true, if_false, ite_true, ite_false, Bool.false_eq_true]
  have em : mSeq (mLst (mCons (mPure (.int 2147483579)) (mCons (mPure (.int 2147483629)) (mCons (mPure (.int 2147483563)) (mPure []))))) [some (.imm (.rng r.at_)), none, some (.imm (.int (r.turn + 1))), some (.imm (.int 0)), none, none] (some { r with turn := r.turn + 1 }) = some ([.int 2147483579, .int 2147483629, .int 2147483563], some { r with turn := r.turn + 1 }) := rfl
  have hfor : forGo (gNm 1) pStep [.int 2147483579, .int 2147483629, .int 2147483563] [some (.imm (.rng r.at_)), none, some (.imm (.int (r.turn + 1))), some (.imm (.int 0)), none, none] (some { r with turn := r.turn + 1 }) = some (.nx, [some (.imm (.rng r.at_)), some (.imm (.int 2147483563)), some (.imm (.int (r.turn + 1))), some (.imm (.int (((0 * 2147483647 + x1) * 2147483647 + x2) * 2147483647 + x3))), some (.imm (.int b3)), z3], some { r with turn := r.turn + 1 }) := by
    unfold forGo
    simp only [gNm, Option.bind_some, List.set_cons_succ, List.set_cons_zero]
    rw [e1]
    simp only [Option.bind_some]
    unfold forGo
    simp only [gNm, Option.bind_some, List.set_cons_succ, List.set_cons_zero]
    rw [e2]
    simp only [Option.bind_some]
    unfold forGo
    simp only [gNm, Option.bind_some, List.set_cons_succ, List.set_cons_zero]
    rw [e3]
    rfl
  have s3 := for_of (mi := mSeq (mLst (mCons (mPure (.int 2147483579)) (mCons (mPure (.int 2147483629)) (mCons (mPure (.int 2147483563)) (mPure [])))))) em hfor
  exact runR_rt rfl ((sSq_nx s1).trans ((sSq_nx s2).trans ((sSq_nx s3).trans (sRet_of (ev_var rfl))))) rfl rfl
end K35
namespace K35
open PySem PyProof.Rows L2 Dv

/-- the same draws, later -/
theorem draw_ev {ns : List Int} {c : Nat} {r : Rng} (h : RgOk ns c r) (hc : c < 1000000) {room : Int} (h0 : 0 < room) (h1 : room ≤ 1000000) : ∃ v r', f_law_draw [.rng r.at_, .int room] r = some (.int v, r') ∧ 0 ≤ v ∧ v < room ∧ RgOk ns (c + 1) r' ∧ Later r r' := by
  have hlog : room.natAbs.log2 < 9000 := by
    have : room.natAbs.log2 ≤ (1000000 : Nat).log2 := log2_mono (by omega)
    have e : (1000000 : Nat).log2 = 19 := by decide +kernel
    omega
  -- where the rest stands after the first statement
  have first : ∃ r1, sIf (mTst (mOp2 eqD (mStI 0 Rng.rest) (mPure (.int 0)))) (sStrest 0 (mIte (mStG 0) (mStP 0) (mCallR f_law_blended (mCons (mVar 0) (mPure []))))) sNil [some (.imm (.rng r.at_)), some (.imm (.int room)), none] (some r) = some (.nx, [some (.imm (.rng r.at_)), some (.imm (.int room)), none], some r1) ∧ RgOk ns (c + 1) r1 ∧ Later r r1 := by
    have hmono : RgOk ns (c + 1) r := ⟨h.cells, h.len, h.turn0, by have := h.turnc; omega, by omega, h.rest0, h.gl, h.great0⟩
    by_cases hr : r.rest = 0
    · have et : mTst (mOp2 eqD (mStI 0 Rng.rest) (mPure (.int 0))) [some (.imm (.rng r.at_)), some (.imm (.int room)), none] (some r) = some (true, some r) := by
        simp only [runP, startL, outF, mVar, mVarB, mPure, mOp1, mOp2, mCons, mCall, mTup, mLst, mTst, asB, mNot, mAnd, mOr, mAndV, mOrV, mIte, mSeq, sSq, sIf, sRet, sSet, sSetF, sNil, sFrz, frz, sExpr, sPar2, sPar3, sAsg, mkL, gNm, gTp, gCns, gNl, D.asT, itemsD, addD_int, subD_int, ltD_int, leD_int, gtD_int, geD_int, negD_int, gcdD_int, absD_int, Option.bind_some, Option.map_some, Option.bind_none, Option.map_none, List.map_cons, List.map_nil, List.length_cons, List.length_nil, List.cons_append, List.nil_append, List.getElem?_cons_zero, List.getElem?_cons_succ, List.set_cons_zero, List.set_cons_succ, List.replicate_succ, List.replicate_zero, Nat.reduceAdd, Nat.reduceSub, Nat.reduceLeDiff, if_true, if_false, ite_true, ite_false, Bool.false_eq_true, mStI, eqD_int, hr, decide_true]
      have hgl := h.gl
      cases hg : r.great with
      | nil =>
        obtain ⟨v, eb, hv⟩ := blended_ev h
        have eg : mStG 0 [some (.imm (.rng r.at_)), some (.imm (.int room)), none] (some r) = some (false, some r) := by
          unfold mStG
          (simp only [List.getElem?_cons_zero]); rw [if_pos ⟨trivial, hgl⟩, hg]
          rfl
        have ec := callR_of (f := f_law_blended) (m := mCons (mVar 0) (mPure [])) (ρ := [some (.imm (.rng r.at_)), some (.imm (.int room)), none]) (S := some r) (cons_of (ev_var rfl) rfl) eb rfl rfl
        refine ⟨{ r with turn := r.turn + 1, rest := v }, ?_, ⟨h.cells, h.len, by have := h.turn0; show 0 ≤ r.turn + 1; omega, by have := h.turnc; show r.turn + 1 ≤ ((c + 1 : Nat) : Int); omega, by omega, hv, h.gl, h.great0⟩, ⟨rfl, rfl⟩⟩
        unfold sIf
        rw [et]
        simp only [Option.bind_some, if_true]
        unfold sStrest mIte
        rw [eg]
        simp only [Option.bind_some, Bool.false_eq_true, if_false]
        rw [ec]
        simp only [Option.bind_some, List.getElem?_cons_zero]
        rw [if_pos trivial]
      | cons g0 gs =>
        have eg : mStG 0 [some (.imm (.rng r.at_)), some (.imm (.int room)), none] (some r) = some (true, some r) := by
          unfold mStG
          (simp only [List.getElem?_cons_zero]); rw [if_pos ⟨trivial, hgl⟩, hg]
          rfl
        have ep : mStP 0 [some (.imm (.rng r.at_)), some (.imm (.int room)), none] (some r) = some (.int g0, some { r with great := gs }) := by
          unfold mStP
          (simp only [List.getElem?_cons_zero]); rw [if_pos trivial, hg]
        have hg0 : 0 ≤ g0 := h.great0 g0 (by rw [hg]; exact List.mem_cons_self)
        refine ⟨{ r with great := gs, rest := g0 }, ?_, ⟨h.cells, h.len, h.turn0, hmono.turnc, by omega, hg0, by show gs.length ≤ 1000; rw [hg] at hgl; simp at hgl; omega, fun z hz => h.great0 z (by rw [hg]; exact List.mem_cons_of_mem _ hz)⟩, ⟨rfl, rfl⟩⟩
        unfold sIf
        rw [et]
        simp only [Option.bind_some, if_true]
        unfold sStrest mIte
        rw [eg]
        simp only [Option.bind_some, if_true]
        rw [ep]
        simp only [Option.bind_some, List.getElem?_cons_zero]
        rw [if_pos trivial]
    · refine ⟨r, ?_, hmono, ⟨rfl, rfl⟩⟩
      simp only [runP, startL, outF, mVar, mVarB, mPure, mOp1, mOp2, mCons, mCall, mTup, mLst, mTst, asB, mNot, mAnd, mOr, mAndV, mOrV, mIte, mSeq, sSq, sIf, sRet, sSet, sSetF, sNil, sFrz, frz, sExpr, sPar2, sPar3, sAsg, mkL, gNm, gTp, gCns, gNl, D.asT, itemsD, addD_int, subD_int, ltD_int, leD_int, gtD_int, geD_int, negD_int, gcdD_int, absD_int, Option.bind_some, Option.map_some, Option.bind_none, Option.map_none, List.map_cons, List.map_nil, List.length_cons, List.length_nil, List.cons_append, List.nil_append, List.getElem?_cons_zero, List.getElem?_cons_succ, List.set_cons_zero, List.set_cons_succ, List.replicate_succ, List.replicate_zero, Nat.reduceAdd, Nat.reduceSub, Nat.reduceLeDiff, if_true, if_false, ite_true, ite_false, Bool.false_eq_true, mStI, eqD_int, hr, decide_false]
  obtain ⟨r1, e1, ok1, l1⟩ := first
  have la : r.at_ = r1.at_ := l1.a.symm
  refine ⟨r1.rest % room, { r1 with rest := r1.rest / room }, ?_, Int.emod_nonneg _ (by omega), Int.emod_lt_of_pos _ h0, ⟨ok1.cells, ok1.len, ok1.turn0, ok1.turnc, ok1.cc, Int.ediv_nonneg ok1.rest0 (by omega), ok1.gl, ok1.great0⟩, ⟨l1.a, l1.g⟩⟩
  have e2 : sSet 2 (mOp2 modD (mCall Dv.intD (mCons (mStI 0 Rng.rest) (mPure []))) (mVarB 1)) [some (.imm (.rng r.at_)), some (.imm (.int room)), none] (some r1) = some (.nx, [some (.imm (.rng r.at_)), some (.imm (.int room)), some (.imm (.int (r1.rest % room)))], some r1) := by
    simp only [runP, startL, outF, mVar, mVarB, mPure, mOp1, mOp2, mCons, mCall, mTup, mLst, mTst, asB, mNot, mAnd, mOr, mAndV, mOrV, mIte, mSeq, sSq, sIf, sRet, sSet, sSetF, sNil, sFrz, frz, sExpr, sPar2, sPar3, sAsg, mkL, gNm, gTp, gCns, gNl, D.asT, itemsD, addD_int, subD_int, ltD_int, leD_int, gtD_int, geD_int, negD_int, gcdD_int, absD_int, Option.bind_some, Option.map_some, Option.bind_none, Option.map_none, List.map_cons, List.map_nil, List.length_cons, List.length_nil, List.cons_append, List.nil_append, List.getElem?_cons_zero, List.getElem?_cons_succ, List.set_cons_zero, List.set_cons_succ, List.replicate_succ, List.replicate_zero, Nat.reduceAdd, Nat.reduceSub, Nat.reduceLeDiff, if_true, if_false, ite_true, ite_false, Bool.false_eq_true, mStI, la, Dv.intD, modD_int h0]
  have e3 : sStrest 0 (mOp2 fdivD (mStI 0 Rng.rest) (mVarB 1)) [some (.imm (.rng r.at_)), some (.imm (.int room)), some (.imm (.int (r1.rest % room)))] (some r1) = some (.nx, [some (.imm (.rng r.at_)), some (.imm (.int room)), some (.imm (.int (r1.rest % room)))], some { r1 with rest := r1.rest / room }) := by
    unfold sStrest
    simp only [runP, startL, outF, mVar, mVarB, mPure, mOp1, mOp2, mCons, mCall, mTup, mLst, mTst, asB, mNot, mAnd, mOr, mAndV, mOrV, mIte, mSeq, sSq, sIf, sRet, sSet, sSetF, sNil, sFrz, frz, sExpr, sPar2, sPar3, sAsg, mkL, gNm, gTp, gCns, gNl, D.asT, itemsD, addD_int, subD_int, ltD_int, leD_int, gtD_int, geD_int, negD_int, gcdD_int, absD_int, Option.bind_some, Option.map_some, Option.bind_none, Option.map_none, List.map_cons, List.map_nil, List.length_cons, List.length_nil, List.cons_append, List.nil_append, List.getElem?_cons_zero, List.getElem?_cons_succ, List.set_cons_zero, List.set_cons_succ, List.replicate_succ, List.replicate_zero, Nat.reduceAdd, Nat.reduceSub, Nat.reduceLeDiff, if_true, if_false, ite_true, ite_false, Bool.false_eq_true, mStI, la, fdivD_int h0 hlog]
  exact runR_rt rfl ((sSq_nx e1).trans ((sSq_nx e2).trans ((sSq_nx e3).trans (sRet_of (ev_var rfl))))) l1.a l1.g
end K35
namespace K35
open PySem PyProof.Rows L2 Dv

/-- one of several, drawn -/
theorem pick_ev {ns : List Int} {c : Nat} {r : Rng} (h : RgOk ns c r) (hc : c < 1000000) {ds : List D} (h0 : ds ≠ []) (hl : ds.length ≤ 1000) : ∃ d r', f_law_pick [.rng r.at_, .lst ds] r = some (d, r') ∧ d ∈ ds ∧ RgOk ns (c + 1) r' ∧ Later r r' := by
  have hp := List.length_pos_iff.mpr h0
  obtain ⟨v, r', e, v0, v1, ok, lt⟩ := draw_ev h hc (room := (ds.length : Int)) (by omega) (by omega)
  obtain ⟨n, rfl⟩ : ∃ n : Nat, v = (n : Int) := ⟨v.toNat, by omega⟩
  have hn : n < ds.length := by omega
  have eg : ds[n]? = some ds[n] := List.getElem?_eq_getElem hn
  refine ⟨ds[n], r', ?_, List.getElem_mem hn, ok, lt⟩
  have ec := callR_of (f := f_law_draw) (m := mCons (mVar 0) (mCons (mCall lenD (mCons (mVarB 1) (mPure []))) (mPure []))) (ρ := [some (.imm (.rng r.at_)), some (.imm (.lst ds))]) (S := some r) (cons_of (ev_var rfl) (cons_of (mCall_of (cons_of (ev_varB rfl) rfl) (len_items (d := .lst ds) rfl)) rfl)) e lt.a lt.g
  exact runR_rt rfl (sRet_of (mOp2_of (ev_varB rfl) ec (ix_nat rfl eg))) lt.a lt.g
end K35
namespace K35
open PySem PyProof.Rows L2 Dv

/-- a drawn number: its size -/
structure Num (dn nn : Nat) (q : Rat) : Prop where
  den : q.den ≤ dn
  num : q.num.natAbs ≤ nn
theorem num_mk {n : Int} {k dn nn : Nat} (hk : k ≠ 0) (h1 : k ≤ dn) (h2 : n.natAbs ≤ nn) : Num dn nn (mkRat n k) := by
  have g0 : 0 < k.gcd n.natAbs := Nat.gcd_pos_of_pos_left _ (by omega)
  refine ⟨?_, ?_⟩
  · rw [Rat.den_mkRat, if_neg hk]
    exact Nat.le_trans (Nat.div_le_self _ _) h1
  · rw [Rat.num_mkRat, if_neg hk, Int.natAbs_ediv_of_dvd (Int.ofNat_dvd_left.mpr (Nat.gcd_dvd_right _ _)), Int.natAbs_natCast]
    exact Nat.le_trans (Nat.div_le_self _ _) h2
theorem mkRat_pos {n : Int} {k : Nat} (hk : k ≠ 0) (hn : 0 < n) : 0 < mkRat n k := by
  refine (Rat.lt_iff _ _).mpr ?_
  have hd : (0 : Int) < ((mkRat n k).den : Int) := by have := (mkRat n k).den_pos; omega
  have h0 : 0 < (mkRat n k).num := by
    rw [Rat.num_mkRat, if_neg hk]
    have g0 : 0 < k.gcd n.natAbs := Nat.gcd_pos_of_pos_left _ (by omega)
    exact Int.ediv_pos_of_pos_of_dvd hn (by omega) (Int.ofNat_dvd_left.mpr (Nat.gcd_dvd_right _ _))
  simpa using h0
theorem q_small {n : Int} {k : Nat} (hk : k ≠ 0) (h : k ≤ 1000) : f_law_q [.int n, .int (k : Int)] = some (mk (mkRat n k)) :=
  q_nat hk (by
    have : k.log2 ≤ (1000 : Nat).log2 := log2_mono h
    have e : (1000 : Nat).log2 = 9 := by decide +kernel
    omega)
end K35
namespace K35
open PySem PyProof.Rows L2 Dv

/-! ### what is drawn, step by step: no more than k draws, and what comes has P -/
theorem RgOk.up {ns : List Int} {c c' : Nat} {r : Rng} (h : RgOk ns c r) (hc : c ≤ c') (h1 : c' ≤ 1000000) : RgOk ns c' r :=
  ⟨h.cells, h.len, h.turn0, by have := h.turnc; omega, h1, h.rest0, h.gl, h.great0⟩
theorem Later.refl (r : Rng) : Later r r := ⟨rfl, rfl⟩
section
variable {ns : List Int} {a : Addr} {k k' k2 : Nat} {ρ : Lo} {α : Type}
def RE (ns : List Int) (a : Addr) (k : Nat) {α : Type} (m : MX α) (ρ : Lo) (P : α → Prop) : Prop := ∀ c r, RgOk ns c r → r.at_ = a → c + k ≤ 1000000 → ∃ d r', m ρ (some r) = some (d, some r') ∧ P d ∧ RgOk ns (c + k) r' ∧ Later r r'
def RS (ns : List Int) (a : Addr) (k : Nat) (m : MS) (ρ : Lo) (P : Fl → Lo → Prop) : Prop := ∀ c r, RgOk ns c r → r.at_ = a → c + k ≤ 1000000 → ∃ fl ρ' r', m ρ (some r) = some (fl, ρ', some r') ∧ P fl ρ' ∧ RgOk ns (c + k) r' ∧ Later r r'
def RF (ns : List Int) (a : Addr) (k : Nat) (f : List D → Rng → Option (D × Rng)) (ds : List D) (P : D → Prop) : Prop := ∀ c r, RgOk ns c r → r.at_ = a → c + k ≤ 1000000 → ∃ d r', f ds r = some (d, r') ∧ P d ∧ RgOk ns (c + k) r' ∧ Later r r'
theorem RE.mono {m : MX α} {P Q : α → Prop} (h : RE ns a k m ρ P) (hk : k ≤ k') (hp : ∀ d, P d → Q d) : RE ns a k' m ρ Q := fun c r ok ha hc => by
  obtain ⟨d, r', e, p, ok', l⟩ := h c r ok ha (by omega)
  exact ⟨d, r', e, hp d p, ok'.up (by omega) hc, l⟩
theorem RS.mono {m : MS} {P Q : Fl → Lo → Prop} (h : RS ns a k m ρ P) (hk : k ≤ k') (hp : ∀ fl ρ', P fl ρ' → Q fl ρ') : RS ns a k' m ρ Q := fun c r ok ha hc => by
  obtain ⟨d, x, r', e, p, ok', l⟩ := h c r ok ha (by omega)
  exact ⟨d, x, r', e, hp d x p, ok'.up (by omega) hc, l⟩
theorem RF.mono {f : List D → Rng → Option (D × Rng)} {ds : List D} {P Q : D → Prop} (h : RF ns a k f ds P) (hk : k ≤ k') (hp : ∀ d, P d → Q d) : RF ns a k' f ds Q := fun c r ok ha hc => by
  obtain ⟨d, r', e, p, ok', l⟩ := h c r ok ha (by omega)
  exact ⟨d, r', e, hp d p, ok'.up (by omega) hc, l⟩
theorem re_pure {m : MX α} {P : α → Prop} {d : α} (h : ∀ S, m ρ S = some (d, S)) (p : P d) : RE ns a 0 m ρ P := fun c r ok _ _ => ⟨d, r, h _, p, ok, Later.refl r⟩
theorem re_cst {d : D} : RE ns a 0 (mPure d) ρ (· = d) := re_pure (fun _ => rfl) rfl
theorem re_var {i : Nat} {d : D} (h : ρ[i]? = some (some (.imm d)) := by rfl) : RE ns a 0 (mVar i) ρ (· = d) := re_pure (fun _ => ev_var h) rfl
theorem re_varB {i : Nat} {d : D} (h : ρ[i]? = some (some (.imm d)) := by rfl) : RE ns a 0 (mVarB i) ρ (· = d) := re_pure (fun _ => ev_varB h) rfl
theorem re_varO {i : Nat} {d : D} (h : ρ[i]? = some (some (.own d)) := by rfl) : RE ns a 0 (mVarB i) ρ (· = d) := re_pure (fun _ => ev_varO h) rfl
theorem re_nil : RE ns a 0 (mPure ([] : List D)) ρ (· = []) := re_pure (fun _ => rfl) rfl
theorem re_cons {m : ME} {n : MA} {P : D → Prop} {Q : List D → Prop} (h1 : RE ns a k m ρ P) (h2 : RE ns a k' n ρ Q) : RE ns a (k + k') (mCons m n) ρ (fun ds => ∃ d e, ds = d :: e ∧ P d ∧ Q e) := fun c r ok ha hc => by
  obtain ⟨d, r1, e1, p1, ok1, l1⟩ := h1 c r ok ha (by omega)
  obtain ⟨ds, r2, e2, p2, ok2, l2⟩ := h2 (c + k) r1 ok1 (l1.a.trans ha) (by omega)
  exact ⟨d :: ds, r2, cons_of e1 e2, ⟨d, ds, rfl, p1, p2⟩, by rw [← Nat.add_assoc]; exact ok2, l1.trans l2⟩
theorem re_op2 {f : D → D → Option D} {m n : ME} {P Q R : D → Prop} (h1 : RE ns a k m ρ P) (h2 : RE ns a k' n ρ Q) (hf : ∀ x y, P x → Q y → ∃ d, f x y = some d ∧ R d) : RE ns a (k + k') (mOp2 f m n) ρ R := fun c r ok ha hc => by
  obtain ⟨d, r1, e1, p1, ok1, l1⟩ := h1 c r ok ha (by omega)
  obtain ⟨e, r2, e2, p2, ok2, l2⟩ := h2 (c + k) r1 ok1 (l1.a.trans ha) (by omega)
  obtain ⟨x, e3, p3⟩ := hf d e p1 p2
  exact ⟨x, r2, mOp2_of e1 e2 e3, p3, by rw [← Nat.add_assoc]; exact ok2, l1.trans l2⟩
theorem re_call {f : List D → Option D} {m : MA} {P : List D → Prop} {R : D → Prop} (h : RE ns a k m ρ P) (hf : ∀ ds, P ds → ∃ d, f ds = some d ∧ R d) : RE ns a k (mCall f m) ρ R := fun c r ok ha hc => by
  obtain ⟨d, r1, e1, p1, ok1, l1⟩ := h c r ok ha hc
  obtain ⟨x, e3, p3⟩ := hf d p1
  exact ⟨x, r1, mCall_of e1 e3, p3, ok1, l1⟩
theorem re_callR {f : List D → Rng → Option (D × Rng)} {m : MA} {P : List D → Prop} {R : D → Prop} (h : RE ns a k m ρ P) (hf : ∀ ds, P ds → RF ns a k' f ds R) : RE ns a (k + k') (mCallR f m) ρ R := fun c r ok ha hc => by
  obtain ⟨ds, r1, e1, p1, ok1, l1⟩ := h c r ok ha (by omega)
  obtain ⟨x, r2, e2, p2, ok2, l2⟩ := hf ds p1 (c + k) r1 ok1 (l1.a.trans ha) (by omega)
  exact ⟨x, r2, callR_of e1 e2 l2.a l2.g, p2, by rw [← Nat.add_assoc]; exact ok2, l1.trans l2⟩
theorem re_tup {m : MA} {P : List D → Prop} {R : D → Prop} (h : RE ns a k m ρ P) (hf : ∀ ds, P ds → ds.length ≤ 4096 ∧ R (.tup ds)) : RE ns a k (mTup m) ρ R := fun c r ok ha hc => by
  obtain ⟨ds, r1, e1, p1, ok1, l1⟩ := h c r ok ha hc
  obtain ⟨hl, p⟩ := hf ds p1
  exact ⟨_, r1, by unfold mTup; rw [e1]; simp only [Option.bind_some]; rw [if_pos hl], p, ok1, l1⟩
theorem re_lst {m : MA} {P : List D → Prop} {R : D → Prop} (h : RE ns a k m ρ P) (hf : ∀ ds, P ds → ds.length ≤ 4096 ∧ R (.lst ds)) : RE ns a k (mLst m) ρ R := fun c r ok ha hc => by
  obtain ⟨ds, r1, e1, p1, ok1, l1⟩ := h c r ok ha hc
  obtain ⟨hl, p⟩ := hf ds p1
  exact ⟨_, r1, by unfold mLst; rw [e1]; simp only [Option.bind_some]; rw [if_pos hl], p, ok1, l1⟩
theorem re_tst {m : ME} {P : D → Prop} {R : Bool → Prop} (h : RE ns a k m ρ P) (hf : ∀ d, P d → ∃ b, d = .bl b ∧ R b) : RE ns a k (mTst m) ρ R := fun c r ok ha hc => by
  obtain ⟨d, r1, e1, p1, ok1, l1⟩ := h c r ok ha hc
  obtain ⟨b, rfl, p⟩ := hf d p1
  exact ⟨b, r1, by unfold mTst; rw [e1]; rfl, p, ok1, l1⟩
theorem re_and {t n : MT} {P Q R : Bool → Prop} (h1 : RE ns a k t ρ P) (h2 : P true → RE ns a k' n ρ Q) (hr0 : P false → R false) (hr : ∀ b, P true → Q b → R b) : RE ns a (k + k') (mAnd t n) ρ R := fun c r ok ha hc => by
  obtain ⟨b, r1, e1, p1, ok1, l1⟩ := h1 c r ok ha (by omega)
  cases b with
  | true =>
    obtain ⟨b2, r2, e2, p2, ok2, l2⟩ := h2 p1 (c + k) r1 ok1 (l1.a.trans ha) (by omega)
    exact ⟨b2, r2, by unfold mAnd; rw [e1]; simp only [Option.bind_some, if_true]; exact e2, hr b2 p1 p2, by rw [← Nat.add_assoc]; exact ok2, l1.trans l2⟩
  | false => exact ⟨false, r1, by unfold mAnd; rw [e1]; rfl, hr0 p1, ok1.up (by omega) hc, l1⟩
theorem re_lc {mi : MA} {vs : List Nat} {g : MG} {m : ME} {P : D → Prop} {ds : List D} (hi : ∀ S, mi ρ S = some (ds, S)) (hs : ∀ d ∈ ds, ∃ ρ1, g d (wipeL ρ vs) = some ρ1 ∧ RE ns a k m ρ1 P) :
    RE ns a (ds.length * k) (mLc mi vs g (mPure true) m) ρ (fun x => ∃ ys, x = .lst ys ∧ ys.length = ds.length ∧ ∀ y ∈ ys, P y) := fun c r ok ha hc => by
  obtain ⟨ys, r', e, hl, hp, hI⟩ := lc_runN (g := g) (t := mPure true) (m := m) (ρ := wipeL ρ vs) (P := P) (ds := ds) (r := r) 0 (fun i r' => i ≤ ds.length → RgOk ns (c + i * k) r' ∧ Later r r') (fun _ => ⟨by simpa using ok, Later.refl r⟩) fun i d r1 hd hI => by
    have hlt : i < ds.length := (List.getElem?_eq_some_iff.mp hd).1
    obtain ⟨ok1, l1⟩ := hI (by omega)
    obtain ⟨ρ1, e1, h1⟩ := hs d (List.mem_of_getElem? hd)
    have hmul : (i + 1) * k ≤ ds.length * k := Nat.mul_le_mul_right _ hlt
    have hs1 : (i + 1) * k = i * k + k := Nat.succ_mul i k
    rw [Nat.zero_add] at ok1
    obtain ⟨y, r2, e2, p2, ok2, l2⟩ := h1 (c + i * k) r1 ok1 (l1.a.trans ha) (by omega)
    refine ⟨ρ1, y, r2, e1, rfl, e2, p2, fun _ => ⟨?_, l1.trans l2⟩⟩
    rw [Nat.zero_add, hs1, ← Nat.add_assoc]
    exact ok2
  obtain ⟨ok', l'⟩ := hI (by omega)
  rw [Nat.zero_add] at ok'
  exact ⟨_, r', by unfold mLc; rw [hi]; simp only [Option.bind_some]; rw [e]; rfl, ⟨ys, rfl, hl, hp⟩, ok', l'⟩
/-! statements -/
theorem rs_nil : RS ns a 0 sNil ρ (fun fl ρ' => fl = .nx ∧ ρ' = ρ) := fun c r ok _ _ => ⟨.nx, ρ, r, rfl, ⟨rfl, rfl⟩, ok, Later.refl r⟩
theorem rs_sq {m n : MS} {P : Lo → Prop} {Q : Fl → Lo → Prop} (h1 : RS ns a k m ρ (fun fl ρ' => fl = .nx ∧ P ρ')) (h2 : ∀ ρ', P ρ' → RS ns a k' n ρ' Q) : RS ns a (k + k') (sSq m n) ρ Q := fun c r ok ha hc => by
  obtain ⟨fl, ρ1, r1, e1, ⟨rfl, p1⟩, ok1, l1⟩ := h1 c r ok ha (by omega)
  obtain ⟨fl, ρ2, r2, e2, p2, ok2, l2⟩ := h2 ρ1 p1 (c + k) r1 ok1 (l1.a.trans ha) (by omega)
  exact ⟨fl, ρ2, r2, (sSq_nx e1).trans e2, p2, by rw [← Nat.add_assoc]; exact ok2, l1.trans l2⟩
theorem rs_sq' {m n : MS} {P Q : Fl → Lo → Prop} (h1 : RS ns a k m ρ P) (h2 : ∀ ρ', P .nx ρ' → RS ns a k' n ρ' Q) (h3 : ∀ fl ρ', fl ≠ .nx → P fl ρ' → Q fl ρ') : RS ns a (k + k') (sSq m n) ρ Q := fun c r ok ha hc => by
  obtain ⟨fl, ρ1, r1, e1, p1, ok1, l1⟩ := h1 c r ok ha (by omega)
  by_cases hf : fl = .nx
  · subst hf
    obtain ⟨fl, ρ2, r2, e2, p2, ok2, l2⟩ := h2 ρ1 p1 (c + k) r1 ok1 (l1.a.trans ha) (by omega)
    exact ⟨fl, ρ2, r2, (sSq_nx e1).trans e2, p2, by rw [← Nat.add_assoc]; exact ok2, l1.trans l2⟩
  · exact ⟨fl, ρ1, r1, sSq_no e1 hf, h3 fl ρ1 hf p1, ok1.up (by omega) hc, l1⟩
theorem rs_set {i : Nat} {m : ME} {P : D → Prop} (h : RE ns a k m ρ P) : RS ns a k (sSet i m) ρ (fun fl ρ' => fl = .nx ∧ ∃ d, P d ∧ ρ' = ρ.set i (some (.imm d))) := fun c r ok ha hc => by
  obtain ⟨d, r1, e1, p1, ok1, l1⟩ := h c r ok ha hc
  exact ⟨_, _, r1, by unfold sSet; rw [e1]; rfl, ⟨rfl, d, p1, rfl⟩, ok1, l1⟩
theorem rs_setF {i : Nat} {m : ME} {P : D → Prop} (h : RE ns a k m ρ P) : RS ns a k (sSetF i m) ρ (fun fl ρ' => fl = .nx ∧ ∃ d, P d ∧ ρ' = ρ.set i (some (.own d))) := fun c r ok ha hc => by
  obtain ⟨d, r1, e1, p1, ok1, l1⟩ := h c r ok ha hc
  exact ⟨_, _, r1, by unfold sSetF; rw [e1]; rfl, ⟨rfl, d, p1, rfl⟩, ok1, l1⟩
theorem rs_ret {m : ME} {P : D → Prop} (h : RE ns a k m ρ P) : RS ns a k (sRet m) ρ (fun fl ρ' => ∃ d, fl = .rt d ∧ P d) := fun c r ok ha hc => by
  obtain ⟨d, r1, e1, p1, ok1, l1⟩ := h c r ok ha hc
  exact ⟨_, ρ, r1, by unfold sRet; rw [e1]; rfl, ⟨d, rfl, p1⟩, ok1, l1⟩
theorem rs_par2 {i j : Nat} {k1 k2 : Bool} {m n : ME} {P Q : D → Prop} (h1 : RE ns a k m ρ P) (h2 : RE ns a k' n ρ Q) : RS ns a (k + k') (sPar2 i j k1 m k2 n) ρ (fun fl ρ' => fl = .nx ∧ ∃ d e, P d ∧ Q e ∧ ρ' = (ρ.set i (some (mkL k1 d))).set j (some (mkL k2 e))) := fun c r ok ha hc => by
  obtain ⟨d, r1, e1, p1, ok1, l1⟩ := h1 c r ok ha (by omega)
  obtain ⟨e, r2, e2, p2, ok2, l2⟩ := h2 (c + k) r1 ok1 (l1.a.trans ha) (by omega)
  exact ⟨_, _, r2, sPar2_of e1 e2, ⟨rfl, d, e, p1, p2, rfl⟩, by rw [← Nat.add_assoc]; exact ok2, l1.trans l2⟩
theorem rs_par3 {i j l : Nat} {k1 k2 k3 : Bool} {kc : Nat} {m n o : ME} {P Q R : D → Prop} (h1 : RE ns a k m ρ P) (h2 : RE ns a k' n ρ Q) (h3 : RE ns a kc o ρ R) :
    RS ns a (k + k' + kc) (sPar3 i j l k1 m k2 n k3 o) ρ (fun fl ρ' => fl = .nx ∧ ∃ d e f, P d ∧ Q e ∧ R f ∧ ρ' = ((ρ.set i (some (mkL k1 d))).set j (some (mkL k2 e))).set l (some (mkL k3 f))) := fun c r ok ha hc => by
  obtain ⟨d, r1, e1, p1, ok1, l1⟩ := h1 c r ok ha (by omega)
  obtain ⟨e, r2, e2, p2, ok2, l2⟩ := h2 (c + k) r1 ok1 (l1.a.trans ha) (by omega)
  obtain ⟨f, r3, e3, p3, ok3, l3⟩ := h3 (c + k + k') r2 ok2 (l2.a.trans (l1.a.trans ha)) (by omega)
  exact ⟨_, _, r3, sPar3_of e1 e2 e3, ⟨rfl, d, e, f, p1, p2, p3, rfl⟩, by rw [← Nat.add_assoc, ← Nat.add_assoc]; exact ok3, (l1.trans l2).trans l3⟩
theorem rs_if {t : MT} {m n : MS} {P : Bool → Prop} {Q : Fl → Lo → Prop} (h : RE ns a k t ρ P) (h1 : P true → RS ns a k' m ρ Q) (h2 : P false → RS ns a k' n ρ Q) : RS ns a (k + k') (sIf t m n) ρ Q := fun c r ok ha hc => by
  obtain ⟨b, r1, e1, p1, ok1, l1⟩ := h c r ok ha (by omega)
  have key : RS ns a k' (if b then m else n) ρ Q := by
    cases b with
    | true => exact h1 p1
    | false => exact h2 p1
  obtain ⟨fl, ρ2, r2, e2, p2, ok2, l2⟩ := key (c + k) r1 ok1 (l1.a.trans ha) (by omega)
  refine ⟨fl, ρ2, r2, ?_, p2, by rw [← Nat.add_assoc]; exact ok2, l1.trans l2⟩
  unfold sIf
  rw [e1]
  simp only [Option.bind_some]
  cases b <;> exact e2
theorem rs_app {i : Nat} {m : ME} {P : D → Prop} {ds : List D} (hi : ρ[i]? = some (some (.own (.lst ds)))) (hl : ds.length < 1000000) (h : RE ns a k m ρ P) : RS ns a k (sApp i m) ρ (fun fl ρ' => fl = .nx ∧ ∃ d, P d ∧ ρ' = ρ.set i (some (.own (.lst (ds ++ [d]))))) := fun c r ok ha hc => by
  obtain ⟨d, r1, e1, p1, ok1, l1⟩ := h c r ok ha hc
  exact ⟨_, _, r1, by unfold sApp; rw [hi]; simp only [e1, Option.bind_some]; rw [if_pos hl], ⟨rfl, d, p1, rfl⟩, ok1, l1⟩
theorem rs_ix {i : Nat} {m mk : ME} {P : D → Prop} {ds : List D} (hi : ρ[i]? = some (some (.own (.lst ds)))) (h : RE ns a k m ρ P) (h' : RE ns a k' mk ρ (fun d => ∃ v : Int, d = .int v ∧ 0 ≤ v ∧ v < ds.length)) : RS ns a (k + k') (sIx i m mk) ρ (fun fl ρ' => fl = .nx ∧ ∃ d j, P d ∧ j < ds.length ∧ ρ' = ρ.set i (some (.own (.lst (ds.set j d))))) := fun c r ok ha hc => by
  obtain ⟨d, r1, e1, p1, ok1, l1⟩ := h c r ok ha (by omega)
  obtain ⟨d2, r2, e2, ⟨v, rfl, v0, v1⟩, ok2, l2⟩ := h' (c + k) r1 ok1 (l1.a.trans ha) (by omega)
  refine ⟨.nx, ρ.set i (some (.own (.lst (ds.set v.toNat d)))), r2, ?_, ⟨rfl, d, v.toNat, p1, by omega, rfl⟩, by rw [← Nat.add_assoc]; exact ok2, l1.trans l2⟩
  unfold sIx
  rw [hi]
  simp only [e1, e2, Option.bind_some]
  have : ixN ds.length v = some v.toNat := by
    unfold ixN
    rw [if_pos v0, if_pos (by omega)]
  rw [this]; rfl
theorem rs_for {mi : MA} {g : MG} {m : MS} {L : Nat} {Pd : List D → Prop} (Inv : Nat → Lo → Prop) (hi : RE ns a k mi ρ (fun ds => ds.length ≤ L ∧ Pd ds)) (h0 : Inv 0 ρ) (hs : ∀ ds, Pd ds → ∀ i d ρ', ds[i]? = some d → Inv i ρ' → ∃ ρ1, g d ρ' = some ρ1 ∧ RS ns a k' m ρ1 (fun fl ρ2 => (fl = .nx ∨ fl = .ct) ∧ Inv (i + 1) ρ2)) :
    RS ns a (k + L * k') (sFor mi g m) ρ (fun fl ρ' => fl = .nx ∧ ∃ ds, Pd ds ∧ ds.length ≤ L ∧ Inv ds.length ρ') := fun c r ok ha hc => by
  obtain ⟨ds, r1, e1, ⟨hl, pd⟩, ok1, l1⟩ := hi c r ok ha (by omega)
  have hL : ds.length * k' ≤ L * k' := Nat.mul_le_mul_right _ hl
  obtain ⟨fl, ρ', S', e, hf, hI, hR⟩ := for_run (g := g) (ms := m) (P := fun fl ρ' S' => fl = .nx ∧ Inv ds.length ρ' ∧ ∃ r', S' = some r' ∧ RgOk ns (c + k + ds.length * k') r' ∧ Later r1 r') (fun i ρ' S' => i ≤ ds.length → Inv i ρ' ∧ ∃ r', S' = some r' ∧ RgOk ns (c + k + i * k') r' ∧ Later r1 r') (ds := ds) 0
    (fun i d ρ1 S1 hd hI => by
      have hlt : i < ds.length := (List.getElem?_eq_some_iff.mp hd).1
      rw [Nat.zero_add] at hI
      obtain ⟨inv, r2, rfl, ok2, l2⟩ := hI (by omega)
      obtain ⟨ρ2, eg, h2⟩ := hs ds pd i d ρ1 hd inv
      have hmul : (i + 1) * k' ≤ ds.length * k' := Nat.mul_le_mul_right _ hlt
      have hs1 : (i + 1) * k' = i * k' + k' := Nat.succ_mul i k'
      obtain ⟨fl, ρ3, r3, e3, ⟨hf, i3⟩, ok3, l3⟩ := h2 (c + k + i * k') r2 ok2 (l2.a.trans (l1.a.trans ha)) (by omega)
      refine ⟨ρ2, fl, ρ3, some r3, eg, e3, ?_⟩
      have fin : 0 + i + 1 ≤ ds.length → Inv (0 + i + 1) ρ3 ∧ ∃ r', some r3 = some r' ∧ RgOk ns (c + k + (0 + i + 1) * k') r' ∧ Later r1 r' := fun _ => by
        rw [Nat.zero_add, hs1, ← Nat.add_assoc]
        exact ⟨i3, r3, rfl, ok3, l2.trans l3⟩
      rcases hf with rfl | rfl <;> exact fin)
    (fun ρ S hI => by rw [Nat.zero_add] at hI; obtain ⟨i1, r', hr⟩ := hI (Nat.le_refl _); exact ⟨rfl, i1, r', hr⟩) ρ (some r1) (fun _ => ⟨h0, r1, rfl, by simpa using ok1, Later.refl r1⟩)
  obtain ⟨r', rfl, ok', l'⟩ := hR
  refine ⟨fl, ρ', r', ?_, ⟨hf, ds, pd, hl, hI⟩, ok'.up (by omega) hc, l1.trans l'⟩
  exact for_of e1 e
theorem rf_run {kk n : Nat} {m : MS} {ds : List D} {P : D → Prop} (hl : ds.length = kk) (h : RS ns a k m (startL n ds) (fun fl _ => ∃ d, fl = .rt d ∧ P d)) : RF ns a k (runR kk n m) ds P := fun c r ok ha hc => by
  obtain ⟨fl, ρ', r', e, ⟨d, rfl, p⟩, ok', l⟩ := h c r ok ha hc
  exact ⟨d, r', runR_rt hl e l.a l.g, p, ok', l⟩
theorem rf_draw {room : Int} (h0 : 0 < room) (h1 : room ≤ 1000000) : RF ns a 1 f_law_draw [.rng a, .int room] (fun d => ∃ v : Int, d = .int v ∧ 0 ≤ v ∧ v < room) := fun c r ok ha hc => by
  subst ha
  obtain ⟨v, r', e, v0, v1, ok', l⟩ := draw_ev ok (by omega) h0 h1
  exact ⟨_, r', e, ⟨v, rfl, v0, v1⟩, ok', l⟩
theorem rf_pick {ds : List D} (h0 : ds ≠ []) (hl : ds.length ≤ 1000) : RF ns a 1 f_law_pick [.rng a, .lst ds] (fun d => d ∈ ds) := fun c r ok ha hc => by
  subst ha
  obtain ⟨d, r', e, hd, ok', l⟩ := pick_ev ok (by omega) h0 hl
  exact ⟨d, r', e, hd, ok', l⟩
/-- a number drawn below what is told -/
theorem re_draw {i : Nat} {m : ME} {P : D → Prop} {R : Int} (hi : ρ[i]? = some (some (.imm (.rng a)))) (h : RE ns a k m ρ P) (hp : ∀ d, P d → ∃ room : Int, d = .int room ∧ 0 < room ∧ room ≤ R) (hR : R ≤ 1000000) :
    RE ns a (k + 1) (mCallR f_law_draw (mCons (mVar i) (mCons m (mPure [])))) ρ (fun d => ∃ v : Int, d = .int v ∧ 0 ≤ v ∧ v < R) := by
  have h1 := re_callR (f := f_law_draw) (k' := 1) (R := fun d => ∃ v : Int, d = .int v ∧ 0 ≤ v ∧ v < R) (re_cons (re_var hi) (re_cons h re_nil)) (by
    rintro ds ⟨d, e, rfl, rfl, d2, e2, rfl, p, rfl⟩
    obtain ⟨room, rfl, h0, h1⟩ := hp d2 p
    exact (rf_draw h0 (by omega)).mono (Nat.le_refl _) fun d ⟨v, e, v0, v1⟩ => ⟨v, e, v0, by omega⟩)
  exact h1.mono (by omega) fun d h => h
/-- one of several, as each of them is -/
theorem re_pick {i : Nat} {m : MA} {P : List D → Prop} {Q : D → Prop} (hi : ρ[i]? = some (some (.imm (.rng a)))) (h : RE ns a k m ρ P) (hp : ∀ ds, P ds → ds ≠ [] ∧ ds.length ≤ 1000 ∧ ∀ d ∈ ds, Q d) :
    RE ns a (k + 1) (mCallR f_law_pick (mCons (mVar i) (mCons (mLst m) (mPure [])))) ρ Q := by
  have h1 := re_callR (f := f_law_pick) (k' := 1) (R := Q) (re_cons (re_var hi) (re_cons (re_lst (R := fun x => ∃ ds, x = .lst ds ∧ P ds) h fun ds p => ⟨by have := (hp ds p).2.1; omega, ds, rfl, p⟩) re_nil)) (by
    rintro ds ⟨d, e, rfl, rfl, d2, e2, rfl, ⟨ds, rfl, p⟩, rfl⟩
    obtain ⟨h0, h1, h2⟩ := hp ds p
    exact (rf_pick h0 h1).mono (Nat.le_refl _) fun d hd => h2 d hd)
  exact h1.mono (by omega) fun d h => h
end
end K35
namespace K35
open PySem PyProof.Rows L2 Dv

theorem ne_of_eq {x y : D} {b : Bool} (h : eqD x y = some (.bl b)) : neD x y = some (.bl (!b)) := by
  unfold eqD at h
  unfold neD
  split at h
  · rename_i p q e1 e2
    split at h
    · rename_i hs
      rw [if_pos hs]
      have : PyData.eqv p q = b := by simpa using h
      rw [this]
    · cases h
  · cases h
/-- plain data, no deeper than n -/
inductive PD : Nat → D → Prop where
  | int (n : Nat) (i : Int) : PD n (.int i)
  | str (n : Nat) {x : Str} (h : SeqAt.shaped (.str x) = true) : PD n (.str x)
  | tup {n : Nat} {ds : List D} (h : ∀ d ∈ ds, PD n d) : PD (n + 1) (.tup ds)
  | kt {n : Nat} {ds : List D} (h : ∀ d ∈ ds, PD n d) : PD (n + 1) (.kt ds)
  | lst {n : Nat} {ds : List D} (h : ∀ d ∈ ds, PD n d) : PD (n + 1) (.lst ds)
theorem PD.mono : ∀ {n m : Nat} {d : D}, PD n d → n ≤ m → PD m d := by
  intro n m d h
  induction h generalizing m with
  | int n i => intro _; exact .int _ _
  | str n h => intro _; exact .str _ h
  | tup h ih => intro l; cases m with
    | zero => omega
    | succ m => exact .tup fun d hd => ih d hd (by omega)
  | kt h ih => intro l; cases m with
    | zero => omega
    | succ m => exact .kt fun d hd => ih d hd (by omega)
  | lst h ih => intro l; cases m with
    | zero => omega
    | succ m => exact .lst fun d hd => ih d hd (by omega)
theorem PD.dp {n : Nat} {d : D} (h : PD n d) : DP n d := by
  induction h with
  | int n i => exact dp_int _ _
  | str n h => exact dp_str _ h
  | tup h ih => exact dp_tup ih
  | kt h ih => exact dp_kt ih
  | lst h ih => exact dp_lst ih
mutual
def szD : D → Nat
  | .tup ds => 1 + szDs ds
  | .kt ds => 1 + szDs ds
  | .lst ds => 1 + szDs ds
  | _ => 1
def szDs : List D → Nat
  | [] => 0
  | d :: ds => szD d + szDs ds
end
theorem szD_pos (d : D) : 1 ≤ szD d := by cases d <;> simp [szD]
theorem szDs_app (xs ys : List D) : szDs (xs ++ ys) = szDs xs + szDs ys := by
  induction xs with
  | nil => simp [szDs]
  | cons x xs ih => simp only [List.cons_append, szDs, ih]; omega
theorem szDs_len (xs : List D) : xs.length ≤ szDs xs := by
  induction xs with
  | nil => simp
  | cons x xs ih => have := szD_pos x; simp only [List.length_cons, szDs]; omega
def prs (xs : List D) : List D := xs.map fun d => D.tup [d, d]
theorem prs_zip (ds : List D) : List.zipWith (fun a b => D.tup [a, b]) ds ds = prs ds := by
  unfold prs
  induction ds with
  | nil => rfl
  | cons d ds ih => simp [ih]
abbrev smLo (x y : D) (w : List D) (o t a l m : Option LV) : Lo := [some (.imm x), some (.imm y), some (.own (.lst w)), o, t, a, none, l, m]
def smT : MT := mTst (mOp2 neD (mVarB 2) (mLst (mPure [])))
theorem smT_ev {n : Nat} {x y : D} {xs : List D} (hx : ∀ d ∈ xs, PD n d) (hn : n ≤ 50) {o t a l m : Option LV} {S : Sg} : smT (smLo x y (prs xs) o t a l m) S = some (decide (xs ≠ []), S) := by
  have e := (eq_lst_nil (n := n + 1) (ds := prs xs) (fun d hd => by
    obtain ⟨z, hz, rfl⟩ := List.mem_map.mp hd
    refine dp_tup fun w hw => ?_
    simp only [List.mem_cons, List.not_mem_nil, or_false, or_self] at hw
    rw [hw]; exact (hx z hz).dp) (by omega)).2
  have e2 : decide (prs xs ≠ []) = decide (xs ≠ []) := by
    have : prs xs ≠ [] ↔ xs ≠ [] := by unfold prs; rw [ne_eq, List.map_eq_nil_iff]
    exact decide_eq_decide.mpr this
  rw [e2] at e
  exact mTst_of (mOp2_of (ev_varO rfl) rfl e)
noncomputable def smB : MS := (sSq (sPop 2 (gTp 2 (gCns (gNm 3) (gCns (gNm 4) gNl))))
  (sIf (mOr (mTst (mOp2 isD (mVarB 4) (mPure .non))) (mTst (mOp1 (isiD "bool") (mVarB 4)))) (sIf (mIte (mTst (mOp2 isD (mVarB 4) (mPure .non))) (mTst (mOp2 isnotD (mVarB 3) (mPure .non))) (mNot (mTst (mCall f_law_is_truth (mCons (mVar 3) (mCons (mVar 4) (mPure []))))))) (sRet (mPure (.bl false))) sNil) (sIf (mTst (mOp1 (isi2D "int" "str") (mVarB 4))) (sIf (mOr (mTst (mOp1 (isiD "bool") (mVarB 3))) (mOr (mTst (mOp2 neD (mOp1 (isiD "int") (mVarB 3)) (mOp1 (isiD "int") (mVarB 4)))) (mTst (mOp2 neD (mVarB 3) (mVarB 4))))) (sRet (mPure (.bl false))) sNil) (sIf (mTst (mOp1 (isiD "dict") (mVarB 4))) sNever (sSq (sSet 5 (mLst (mCons (mAndV (mOp1 (isiD "tuple") (mVarB 3)) (mOp1 (isiD "tuple") (mVarB 4))) (mCons (mAndV (mOp1 (isiD "list") (mVarB 3)) (mOp1 (isiD "list") (mVarB 4))) (mPure [])))))
  (sSq (sIf (mOr (mTst (mOp2 ninD (mPure (.bl true)) (mVarB 5))) (mTst (mOp2 neD (mCall lenD (mCons (mVarB 3) (mPure []))) (mCall lenD (mCons (mVarB 4) (mPure [])))))) (sRet (mPure (.bl false))) sNil)
  (sExt 2 (mLc (mZip2 (mCons (mVar 3) (mCons (mVar 4) (mPure [])))) [7, 8] (gTp 2 (gCns (gNm 7) (gCns (gNm 8) gNl))) (mPure true) (mTup (mCons (mVar 7) (mCons (mVar 8) (mPure []))))))))))))
theorem sameM_eq : m_law_same = (sSq (sSetF 2 (mLst (mCons (mTup (mCons (mVar 0) (mCons (mVar 1) (mPure [])))) (mPure [])))) (sSq (sWh smT smB) (sRet (mPure (.bl true))))) := rfl
/-- the part behind the pop, of a number or a text -/
theorem smB_leaf {n : Nat} {x y d : D} {ws : List D} {o t a l m : Option LV} (hd : (∃ i, d = .int i) ∨ ∃ z, d = .str z ∧ SeqAt.shaped (.str z) = true) :
    smB (smLo x y (ws ++ [.tup [d, d]]) o t a l m) none = some (.nx, smLo x y ws (some (.imm d)) (some (.imm d)) a l m, none) := by
  have ep : sPop 2 (gTp 2 (gCns (gNm 3) (gCns (gNm 4) gNl))) (smLo x y (ws ++ [.tup [d, d]]) o t a l m) none = some (.nx, smLo x y ws (some (.imm d)) (some (.imm d)) a l m, none) := by
    unfold sPop
    simp only [smLo, List.getElem?_cons_succ, List.getElem?_cons_zero, List.getLast?_append, List.getLast?_singleton, Option.some_or, List.dropLast_concat]
    rfl
  refine (sSq_nx ep).trans ?_
  rcases hd with ⟨i, rfl⟩ | ⟨z, rfl, hz⟩
  · refine (sIf_of (b := false) (S1 := none) rfl).trans ?_
    refine (sIf_of (b := true) (S1 := none) rfl).trans ?_
    have e : neD (.int i) (.int i) = some (.bl false) := by rw [neD_int]; simp
    have e1 : mTst (mOp2 neD (mVarB 3) (mVarB 4)) (smLo x y ws (some (.imm (.int i))) (some (.imm (.int i))) a l m) none = some (false, none) := mTst_of (mOp2_of (ev_varB rfl) (ev_varB rfl) e)
    have e0 : mTst (mOp2 neD (mOp1 (isiD "int") (mVarB 3)) (mOp1 (isiD "int") (mVarB 4))) (smLo x y ws (some (.imm (.int i))) (some (.imm (.int i))) a l m) none = some (false, none) := mTst_of (mOp2_of rfl rfl (ne_of_eq (b := true) rfl))
    refine (sIf_of (b := false) (S1 := none) ?_).trans rfl
    show (mTst (mOp1 (isiD "bool") (mVarB 3)) _ _).bind _ = _
    have eb : mTst (mOp1 (isiD "bool") (mVarB 3)) (smLo x y ws (some (.imm (.int i))) (some (.imm (.int i))) a l m) none = some (false, none) := rfl
    rw [eb]
    simp only [Option.bind_some, Bool.false_eq_true, if_false]
    unfold mOr
    rw [e0]
    simp only [Option.bind_some, Bool.false_eq_true, if_false]
    exact e1
  · refine (sIf_of (b := false) (S1 := none) rfl).trans ?_
    refine (sIf_of (b := true) (S1 := none) rfl).trans ?_
    have e : neD (.str z) (.str z) = some (.bl false) := by rw [str_ne hz hz]; simp
    have e1 : mTst (mOp2 neD (mVarB 3) (mVarB 4)) (smLo x y ws (some (.imm (.str z))) (some (.imm (.str z))) a l m) none = some (false, none) := mTst_of (mOp2_of (ev_varB rfl) (ev_varB rfl) e)
    have e0 : mTst (mOp2 neD (mOp1 (isiD "int") (mVarB 3)) (mOp1 (isiD "int") (mVarB 4))) (smLo x y ws (some (.imm (.str z))) (some (.imm (.str z))) a l m) none = some (false, none) := mTst_of (mOp2_of rfl rfl (ne_of_eq (b := true) rfl))
    refine (sIf_of (b := false) (S1 := none) ?_).trans rfl
    show (mTst (mOp1 (isiD "bool") (mVarB 3)) _ _).bind _ = _
    have eb : mTst (mOp1 (isiD "bool") (mVarB 3)) (smLo x y ws (some (.imm (.str z))) (some (.imm (.str z))) a l m) none = some (false, none) := rfl
    rw [eb]
    simp only [Option.bind_some, Bool.false_eq_true, if_false]
    unfold mOr
    rw [e0]
    simp only [Option.bind_some, Bool.false_eq_true, if_false]
    exact e1
/-- .. of a tuple or a list -/
theorem smB_node {x y d : D} {ws ds : List D} {o t a l m : Option LV} (hd : d = .tup ds ∨ d = .kt ds ∨ d = .lst ds) (hl : ws.length + ds.length ≤ 100000) :
    ∃ a' l' m', smB (smLo x y (ws ++ [.tup [d, d]]) o t a l m) none = some (.nx, smLo x y (ws ++ prs ds) (some (.imm d)) (some (.imm d)) a' l' m', none) := by
  have ep : sPop 2 (gTp 2 (gCns (gNm 3) (gCns (gNm 4) gNl))) (smLo x y (ws ++ [.tup [d, d]]) o t a l m) none = some (.nx, smLo x y ws (some (.imm d)) (some (.imm d)) a l m, none) := by
    unfold sPop
    simp only [smLo, List.getElem?_cons_succ, List.getElem?_cons_zero, List.getLast?_append, List.getLast?_singleton, Option.some_or, List.dropLast_concat]
    rfl
  obtain ⟨b1, b2, hb, eA⟩ : ∃ b1 b2, (b1 = true ∨ b2 = true) ∧ mLst (mCons (mAndV (mOp1 (isiD "tuple") (mVarB 3)) (mOp1 (isiD "tuple") (mVarB 4))) (mCons (mAndV (mOp1 (isiD "list") (mVarB 3)) (mOp1 (isiD "list") (mVarB 4))) (mPure []))) (smLo x y ws (some (.imm d)) (some (.imm d)) a l m) none = some (.lst [.bl b1, .bl b2], none) := by
    rcases hd with rfl | rfl | rfl
    · exact ⟨true, false, .inl rfl, rfl⟩
    · exact ⟨true, false, .inl rfl, rfl⟩
    · exact ⟨false, true, .inr rfl, rfl⟩
  have hi : itemsD d = some ds := by rcases hd with rfl | rfl | rfl <;> rfl
  have c1 : mOr (mTst (mOp2 isD (mVarB 4) (mPure .non))) (mTst (mOp1 (isiD "bool") (mVarB 4))) (smLo x y ws (some (.imm d)) (some (.imm d)) a l m) none = some (false, none) := by rcases hd with rfl | rfl | rfl <;> rfl
  have c2 : mTst (mOp1 (isi2D "int" "str") (mVarB 4)) (smLo x y ws (some (.imm d)) (some (.imm d)) a l m) none = some (false, none) := by rcases hd with rfl | rfl | rfl <;> rfl
  have c3 : mTst (mOp1 (isiD "dict") (mVarB 4)) (smLo x y ws (some (.imm d)) (some (.imm d)) a l m) none = some (false, none) := by rcases hd with rfl | rfl | rfl <;> rfl
  have e5 : sSet 5 (mLst (mCons (mAndV (mOp1 (isiD "tuple") (mVarB 3)) (mOp1 (isiD "tuple") (mVarB 4))) (mCons (mAndV (mOp1 (isiD "list") (mVarB 3)) (mOp1 (isiD "list") (mVarB 4))) (mPure [])))) (smLo x y ws (some (.imm d)) (some (.imm d)) a l m) none = some (.nx, smLo x y ws (some (.imm d)) (some (.imm d)) (some (.imm (.lst [.bl b1, .bl b2]))) l m, none) := by
    unfold sSet; rw [eA]; rfl
  have en : mTst (mOp2 ninD (mPure (.bl true)) (mVarB 5)) (smLo x y ws (some (.imm d)) (some (.imm d)) (some (.imm (.lst [.bl b1, .bl b2]))) l m) none = some (false, none) := by
    refine mTst_of (mOp2_of rfl (ev_varB rfl) ?_)
    cases b1 <;> cases b2 <;> first | rfl | (rcases hb with h | h <;> cases h)
  have el : mTst (mOp2 neD (mCall lenD (mCons (mVarB 3) (mPure []))) (mCall lenD (mCons (mVarB 4) (mPure [])))) (smLo x y ws (some (.imm d)) (some (.imm d)) (some (.imm (.lst [.bl b1, .bl b2]))) l m) none = some (false, none) := by
    refine mTst_of (mOp2_of (mCall_of (cons_of (ev_varB rfl) rfl) (len_items hi)) (mCall_of (cons_of (ev_varB rfl) rfl) (len_items hi)) ?_)
    rw [neD_int]; simp
  have eo : mOr (mTst (mOp2 ninD (mPure (.bl true)) (mVarB 5))) (mTst (mOp2 neD (mCall lenD (mCons (mVarB 3) (mPure []))) (mCall lenD (mCons (mVarB 4) (mPure []))))) (smLo x y ws (some (.imm d)) (some (.imm d)) (some (.imm (.lst [.bl b1, .bl b2]))) l m) none = some (false, none) := by
    unfold mOr
    rw [en]
    simp only [Option.bind_some, Bool.false_eq_true, if_false]
    exact el
  have ez : mZip2 (mCons (mVar 3) (mCons (mVar 4) (mPure []))) (smLo x y ws (some (.imm d)) (some (.imm d)) (some (.imm (.lst [.bl b1, .bl b2]))) l m) none = some (prs ds, none) := by
    unfold mZip2
    rw [cons_of (ev_var rfl) (cons_of (ev_var rfl) rfl)]
    simp only [Option.bind_some, hi, Option.map_some, prs_zip]
  have eg := lc_rel (g := gTp 2 (gCns (gNm 7) (gCns (gNm 8) gNl))) (t := mPure true) (m := mTup (mCons (mVar 7) (mCons (mVar 8) (mPure [])))) (S := none) (ρ := wipeL (smLo x y ws (some (.imm d)) (some (.imm d)) (some (.imm (.lst [.bl b1, .bl b2]))) l m) [7, 8]) (fun e : D => D.tup [e, e]) (paired_mapL (R := fun p e => p = D.tup [e, e]) (e := fun e => D.tup [e, e]) (fun _ => rfl) ds) fun p e hp _ => by
    subst hp
    exact ⟨_, rfl, rfl, rfl⟩
  refine ⟨some (.imm (.lst [.bl b1, .bl b2])), l, m, ?_⟩
  refine (sSq_nx ep).trans ((sIf_of c1).trans ((sIf_of c2).trans ((sIf_of c3).trans ((sSq_nx e5).trans ?_))))
  refine (sSq_nx (((sIf_of eo).trans rfl : sIf _ _ _ _ _ = some (.nx, smLo x y ws (some (.imm d)) (some (.imm d)) (some (.imm (.lst [.bl b1, .bl b2]))) l m, none)))).trans ?_
  have e7 : mLc (mZip2 (mCons (mVar 3) (mCons (mVar 4) (mPure [])))) [7, 8] (gTp 2 (gCns (gNm 7) (gCns (gNm 8) gNl))) (mPure true) (mTup (mCons (mVar 7) (mCons (mVar 8) (mPure [])))) (smLo x y ws (some (.imm d)) (some (.imm d)) (some (.imm (.lst [.bl b1, .bl b2]))) l m) none = some (.lst (prs ds), none) := by
    unfold mLc
    rw [ez]
    simp only [Option.bind_some]
    show Option.map _ (lcGo _ _ _ _ (prs ds) none) = _
    unfold prs
    rw [eg]; rfl
  unfold sExt
  simp only [smLo, List.getElem?_cons_succ, List.getElem?_cons_zero]
  rw [e7]
  simp only [Option.bind_some]
  rw [if_pos (by unfold prs; rw [List.length_map]; omega)]
  rfl
theorem same_go {x y : D} : ∀ (k : Nat) (xs : List D) (o t a l m : Option LV), szDs xs ≤ k → k ≤ 100000 → (∀ d ∈ xs, PD 50 d) → ∃ j ρ', whN smT smB j (smLo x y (prs xs) o t a l m) none = some (.nx, ρ', none) := by
  intro k
  induction k with
  | zero =>
    intro xs o t a l m hk _ hx
    have hn : xs = [] := by
      (have := szDs_len xs); exact List.length_eq_zero_iff.mp (by omega)
    subst hn
    refine ⟨1, smLo x y (prs []) o t a l m, ?_⟩
    unfold whN
    rw [smT_ev (n := 0) (fun _ h => by cases h) (by omega)]
    rfl
  | succ k ih =>
    intro xs o t a l m hk hk1 hx
    by_cases hn : xs = []
    · subst hn
      refine ⟨1, smLo x y (prs []) o t a l m, ?_⟩
      unfold whN
      rw [smT_ev (n := 0) (fun _ h => by cases h) (by omega)]
      rfl
    · obtain ⟨ys, d, rfl⟩ : ∃ ys d, xs = ys ++ [d] := ⟨xs.dropLast, xs.getLast hn, (List.dropLast_concat_getLast hn).symm⟩
      have hd := hx d (by simp)
      have hys : ∀ e ∈ ys, PD 50 e := fun e he => hx e (List.mem_append_left _ he)
      rw [szDs_app] at hk
      have hk2 : szDs ys + szD d ≤ k + 1 := by simpa [szDs] using hk
      have hp : prs (ys ++ [d]) = prs ys ++ [.tup [d, d]] := by unfold prs; simp
      have step : ∀ {ρ1 : Lo} {j : Nat} {ρ' : Lo}, smB (smLo x y (prs (ys ++ [d])) o t a l m) none = some (.nx, ρ1, none) → whN smT smB j ρ1 none = some (.nx, ρ', none) → whN smT smB (j + 1) (smLo x y (prs (ys ++ [d])) o t a l m) none = some (.nx, ρ', none) := fun {ρ1 j ρ'} e e' => by
        unfold whN
        rw [smT_ev hx (by omega), decide_eq_true hn]
        simp only [Option.bind_some, if_true]
        rw [e]
        exact e'
      have leaf : ((∃ i, d = .int i) ∨ ∃ z, d = .str z ∧ SeqAt.shaped (.str z) = true) → ∃ j ρ', whN smT smB j (smLo x y (prs (ys ++ [d])) o t a l m) none = some (.nx, ρ', none) := fun h => by
        have := szD_pos d
        obtain ⟨j, ρ', e⟩ := ih ys (some (.imm d)) (some (.imm d)) a l m (by omega) (by omega) hys
        exact ⟨j + 1, ρ', step (by rw [hp]; exact smB_leaf (n := 0) h) e⟩
      have node : ∀ ds, (d = .tup ds ∨ d = .kt ds ∨ d = .lst ds) → (∀ e ∈ ds, PD 49 e) → ∃ j ρ', whN smT smB j (smLo x y (prs (ys ++ [d])) o t a l m) none = some (.nx, ρ', none) := fun ds h hds => by
        have hz : szD d = 1 + szDs ds := by rcases h with rfl | rfl | rfl <;> simp [szD]
        have h1 := szDs_len ys
        have h2 := szDs_len ds
        obtain ⟨a', l', m', e⟩ := smB_node (x := x) (y := y) (ws := prs ys) (o := o) (t := t) (a := a) (l := l) (m := m) h (by unfold prs; rw [List.length_map]; omega)
        obtain ⟨j, ρ', e2⟩ := ih (ys ++ ds) (some (.imm d)) (some (.imm d)) a' l' m' (by rw [szDs_app]; omega) (by omega) (fun e he => by
          rcases List.mem_append.mp he with h | h
          · exact hys e h
          · exact (hds e h).mono (by omega))
        have hp2 : prs (ys ++ ds) = prs ys ++ prs ds := by unfold prs; simp
        rw [hp2] at e2
        exact ⟨j + 1, ρ', step (by rw [hp]; exact e) e2⟩
      cases hd with
      | int _ i => exact leaf (.inl ⟨i, rfl⟩)
      | str _ h => exact leaf (.inr ⟨_, rfl, h⟩)
      | tup h => exact node _ (.inl rfl) h
      | kt h => exact node _ (.inr (.inl rfl)) h
      | lst h => exact node _ (.inr (.inr rfl)) h
/-- what is the same is the same -/
theorem same_ev {d : D} (h : PD 50 d) (hz : szD d ≤ 10000) : f_law_same [d, d] = some (.bl true) := by
  obtain ⟨j, ρ', e⟩ := same_go (x := d) (y := d) (szD d) [d] none none none none none (by simp [szDs]) (by omega) (fun e he => by rw [List.mem_singleton.mp he]; exact h)
  have e2 := sWh_of e
  show runP 2 9 m_law_same [d, d] = _
  rw [sameM_eq]
  have e1 : sSetF 2 (mLst (mCons (mTup (mCons (mVar 0) (mCons (mVar 1) (mPure [])))) (mPure []))) (startL 9 [d, d]) none = some (.nx, smLo d d (prs [d]) none none none none none, none) := rfl
  exact runP_rt rfl ((sSq_nx e1).trans ((sSq_nx e2).trans (sRet_of rfl)))
end K35
namespace K35
open PySem PyProof.Rows L2 Dv
theorem eq_mk (a b : Rat) : eqD (mk a) (mk b) = some (.bl (decide (a = b))) := by
  have hs : ∀ q : Rat, SeqAt.shaped (.tuple [.int q.num, .int q.den]) = true := fun _ => rfl
  have he : PyData.eqv (.tuple [.int a.num, .int a.den]) (.tuple [.int b.num, .int b.den]) = decide (a = b) := by
    refine Bool.eq_iff_iff.mpr ?_
    simp only [PyData.eqv, PyData.eqvAll, Bool.and_eq_true, beq_iff_eq, decide_eq_true_eq, Bool.and_true]
    constructor
    · rintro ⟨h1, h2⟩
      exact Rat.ext h1 (by omega)
    · rintro rfl
      exact ⟨rfl, rfl⟩
  show (if (SeqAt.shaped (.tuple [.int a.num, .int a.den]) && SeqAt.shaped (.tuple [.int b.num, .int b.den])) = true then some (D.bl (PyData.eqv (.tuple [.int a.num, .int a.den]) (.tuple [.int b.num, .int b.den]))) else none) = _
  rw [hs, hs, he]; rfl
theorem mk_zero : mk 0 = .tup [.int 0, .int 1] := rfl
theorem mk_one : mk 1 = .tup [.int 1, .int 1] := rfl
theorem ne_zero (q : Rat) : neD (mk q) (.tup [.int 0, .int 1]) = some (.bl (decide (q ≠ 0))) := by
  rw [← mk_zero, ne_of_eq (eq_mk q 0)]
  by_cases h : q = 0 <;> simp [h]
theorem mkRat_nonneg' {n : Int} {k : Nat} (hk : k ≠ 0) (hn : 0 ≤ n) : 0 ≤ mkRat n k := by
  by_cases h : n = 0
  · subst h; rw [Rat.zero_mkRat]; exact Rat.le_refl
  · exact Rat.le_of_lt (mkRat_pos hk (by omega))
theorem mks_of {P : Rat → Prop} : ∀ {ys : List D}, (∀ y ∈ ys, ∃ q, y = mk q ∧ P q) → ∃ qs : List Rat, ys = qs.map mk ∧ ∀ q ∈ qs, P q
  | [], _ => ⟨[], rfl, fun _ h => by cases h⟩
  | y :: ys, h => by
    obtain ⟨q, rfl, hq⟩ := h y List.mem_cons_self
    obtain ⟨qs, rfl, hqs⟩ := mks_of (ys := ys) fun z hz => h z (List.mem_cons_of_mem _ hz)
    exact ⟨q :: qs, rfl, fun z hz => by
      (rcases List.mem_cons.mp hz with rfl | hz)
      · exact hq
      · exact hqs z hz⟩
theorem vec_mk (qs : List Rat) : VecR (.tup (qs.map mk)) qs := ⟨_, rfl, rl_mk qs⟩
theorem dp_mk (n : Nat) (q : Rat) : DP (n + 1) (mk q) := dp_tup fun d hd => by
  (rcases List.mem_cons.mp hd with rfl | hd)
  · exact dp_int _ _
  · (rcases List.mem_cons.mp hd with rfl | hd)
    · exact dp_int _ _
    · cases hd
theorem mem_range {d : D} {n : Nat} (h : d ∈ rangeL 0 (n : Int)) : ∃ i : Nat, d = .int i ∧ i < n := by
  unfold rangeL at h
  (obtain ⟨i, hi, rfl⟩ := List.mem_map.mp h); exact ⟨i, by simp, by have := List.mem_range.mp hi; omega⟩
variable {ns : List Int} {a : Addr} {k : Nat} {ρ : Lo}
theorem range_len (n : Nat) : (rangeL 0 (n : Int)).length = n := by unfold rangeL; rw [List.length_map, List.length_range]; omega
theorem re_one_plus {i : Nat} {room : Int} (hi : ρ[i]? = some (some (.imm (.rng a)))) (h0 : 0 < room) (h1 : room ≤ 1000000) : RE ns a 1 (mOp2 addD (mPure (.int 1)) (mCallR f_law_draw (mCons (mVar i) (mCons (mPure (.int room)) (mPure []))))) ρ (fun d => ∃ v : Int, d = .int v ∧ 1 ≤ v ∧ v ≤ room) :=
  (re_op2 re_cst (re_draw (R := room) hi re_cst (fun d h => ⟨room, h, h0, Int.le_refl _⟩) h1) (by rintro x y rfl ⟨v, rfl, v0, v1⟩; exact ⟨_, addD_int _ _, _, rfl, by omega, by omega⟩)).mono (by omega) fun _ h => h
def rowD (r : Row) : D := .tup [.tup (r.1.map mk), .tup (r.2.map mk)]
def budD (rs : List Row) : D := .tup [.str "budgets", .tup (rs.map rowD)]
theorem paired_row (rs : List Row) : Paired RowR (rs.map rowD) rs := paired_mapL (R := RowR) (e := rowD) (fun r => ⟨_, _, rfl, vec_mk r.1, vec_mk r.2⟩) rs
theorem rs_pure {m : MS} {ρ ρ' : Lo} {fl : Fl} {P : Fl → Lo → Prop} (h : ∀ S, m ρ S = some (fl, ρ', S)) (p : P fl ρ') : RS ns a 0 m ρ P := fun c r ok _ _ => ⟨fl, ρ', r, h _, p, ok, Later.refl r⟩
theorem rs_det {m n : MS} {ρ ρ' : Lo} {k : Nat} {Q : Fl → Lo → Prop} (h : ∀ S, m ρ S = some (.nx, ρ', S)) (h2 : RS ns a k n ρ' Q) : RS ns a k (sSq m n) ρ Q := fun c r ok ha hc => by
  obtain ⟨fl, ρ2, r2, e2, p2, ok2, l2⟩ := h2 c r ok ha hc
  exact ⟨fl, ρ2, r2, (sSq_nx (h _)).trans e2, p2, ok2, l2⟩
theorem mOr_f {t u : MT} {ρ : Lo} {S S' : Sg} {b : Bool} (h1 : t ρ S = some (false, S)) (h2 : u ρ S = some (b, S')) : mOr t u ρ S = some (b, S') := by
  unfold mOr; rw [h1]; simp only [Option.bind_some, Bool.false_eq_true, if_false]; exact h2
theorem sIf_f {t : MT} {m : MS} {ρ : Lo} {S : Sg} (h : t ρ S = some (false, S)) : sIf t m sNil ρ S = some (.nx, ρ, S) := (sIf_of h).trans rfl
theorem mOp1_of {f : D → Option D} {m : ME} {ρ : Lo} {S S1 : Sg} {d e : D} (h : m ρ S = some (d, S1)) (hf : f d = some e) : mOp1 f m ρ S = some (e, S1) := by
  unfold mOp1; rw [h]; simp only [Option.bind_some]; rw [hf]; rfl
end K35
namespace K35
open PySem PyProof.Rows L2 Dv

/-! ### drawn budgets -/
theorem inD2_int {v : Int} (h0 : 0 ≤ v) (h1 : v ≤ 6) : InD 2 12 (v : Rat) := by
  have h := (inD_self (v : Rat)).up (k := 2) (by decide)
  exact h.mono (by show v.natAbs * 2 ≤ 12; omega)
theorem inD2_mk {v w : Int} (h0 : 0 ≤ v) (h1 : v ≤ 6) (h2 : 1 ≤ w) (h3 : w ≤ 2) : ∃ q, f_law_q [.int v, .int w] = some (mk q) ∧ InD 2 12 q ∧ 0 ≤ q ∧ (0 < v → 0 < q) := by
  obtain ⟨k, rfl⟩ : ∃ k : Nat, w = (k : Int) := ⟨w.toNat, by omega⟩
  refine ⟨mkRat v k, q_small (by omega) (by omega), ?_, mkRat_nonneg' (by omega) h0, fun h => mkRat_pos (by omega) h⟩
  have hk : k = 1 ∨ k = 2 := by omega
  rcases hk with rfl | rfl
  · refine ⟨v * 2, by omega, ?_⟩
    have := Rat.mkRat_mul_right (n := v) (d := 1) (a := 2) (by decide)
    exact this.symm
  · exact ⟨v, by omega, rfl⟩
theorem mk_int (v : Int) : mk (v : Rat) = .tup [.int v, .int 1] := rfl
def PrP (g : Nat) (x : D) : Prop := ∃ ps : List Rat, x = .tup (ps.map mk) ∧ ps.length = g ∧ ∀ q ∈ ps, 0 < q ∧ InD 2 12 q
def BuP (g : Nat) (x : D) : Prop := ∃ qs : List Rat, x = .tup (qs.map mk) ∧ qs.length = g ∧ ∀ q ∈ qs, 0 ≤ q ∧ InD 2 12 q
variable {ns : List Int} {a : Addr}
abbrev bs (a : Addr) (R : Int) (lap : Option LV) (g : Nat) (found : List D) (way : Int) (ws : List D) (p b be gd pa : Option LV) : Lo := [some (.imm (.rng a)), some (.imm (.int R)), lap, some (.imm (.int (g : Nat))), some (.own (.lst found)), some (.imm (.int way)), some (.imm (.lst ws)), p, b, be, gd, pa]
theorem rgoods (g : Nat) (hg : g ≤ 4) {ρ : Lo} (h : ρ[3]? = some (some (.imm (.int (g : Nat))))) (S : Sg) : mRg1 (mCons (mVarB 3) (mPure [])) ρ S = some (rangeL 0 g, S) := rg1_nat (cons_of (ev_varB h) rfl) (by omega)
/-- a tuple of so many -/
theorem re_tupc {mi : MA} {vs : List Nat} {g : MG} {m : ME} {k : Nat} {P : Rat → Prop} {ds : List D} {ρ : Lo} (hi : ∀ S, mi ρ S = some (ds, S)) (hs : ∀ d ∈ ds, ∃ ρ1, g d (wipeL ρ vs) = some ρ1 ∧ RE ns a k m ρ1 (fun y => ∃ q, y = mk q ∧ P q)) :
    RE ns a (ds.length * k) (mCall tupleD (mCons (mLc mi vs g (mPure true) m) (mPure []))) ρ (fun x => ∃ qs : List Rat, x = .tup (qs.map mk) ∧ qs.length = ds.length ∧ ∀ q ∈ qs, P q) := by
  refine RE.mono (k := ds.length * k + 0) (re_call (re_cons (re_lc hi hs) re_nil) ?_) (by omega) fun _ h => h
  rintro xs ⟨d, e, rfl, ⟨ys, rfl, hl, hy⟩, rfl⟩
  obtain ⟨qs, rfl, hq⟩ := mks_of hy
  exact ⟨.tup (qs.map mk), rfl, qs, rfl, by rw [← hl, List.length_map], hq⟩
noncomputable def prM : ME := (mCall tupleD (mCons (mLc (mRg1 (mCons (mVarB 3) (mPure []))) [10] (gNm 10) (mPure true) (mCall f_law_q (mCons (mOp2 addD (mPure (.int 1)) (mCallR f_law_draw (mCons (mVar 0) (mCons (mCallR f_law_pick (mCons (mVar 0) (mCons (mLst (mCons (mPure (.int 2)) (mCons (mPure (.int 3)) (mCons (mPure (.int 6)) (mPure []))))) (mPure [])))) (mPure []))))) (mCons (mOp2 addD (mPure (.int 1)) (mCallR f_law_draw (mCons (mVar 0) (mCons (mPure (.int 2)) (mPure []))))) (mPure []))))) (mPure [])))
noncomputable def buM : ME := (mCall tupleD (mCons (mLc (mRg1 (mCons (mVarB 3) (mPure []))) [10] (gNm 10) (mPure true) (mCall f_law_q (mCons (mCallR f_law_draw (mCons (mVar 0) (mCons (mPure (.int 4)) (mPure [])))) (mCons (mOp2 addD (mPure (.int 1)) (mCallR f_law_draw (mCons (mVar 0) (mCons (mPure (.int 2)) (mPure []))))) (mPure []))))) (mPure [])))
theorem re_plus1 {k : Nat} {ρ : Lo} {m : ME} {R : Int} (h : RE ns a k m ρ (fun d => ∃ v : Int, d = .int v ∧ 0 ≤ v ∧ v < R)) : RE ns a k (mOp2 addD (mPure (.int 1)) m) ρ (fun d => ∃ v : Int, d = .int v ∧ 1 ≤ v ∧ v ≤ R) := by
  refine RE.mono (k := 0 + k) (re_op2 re_cst h ?_) (by omega) fun _ h => h
  rintro x y rfl ⟨v, rfl, h0, h1⟩
  exact ⟨_, addD_int _ _, 1 + v, rfl, by omega, by omega⟩
theorem re_pri {R : Int} {lap p b be gd pa : Option LV} {g : Nat} {found ws : List D} {way : Int} (hg : g ≤ 4) : RE ns a 12 prM (bs a R lap g found way ws p b be gd pa) (PrP g) := by
  have hl : (rangeL 0 (g : Int)).length = g := rangeL_len g
  refine RE.mono (k := (rangeL 0 (g : Int)).length * 3) (re_tupc (P := fun q => 0 < q ∧ InD 2 12 q) (ds := rangeL 0 g) (rgoods g hg rfl) fun d hd => ⟨_, rfl, ?_⟩) (by rw [hl]; omega) ?_
  · refine RE.mono (k := (0 + 1 + 1) + (0 + 1 + 0)) (re_call (re_cons (re_plus1 (R := 6) (re_draw (P := fun d => ∃ room : Int, d = .int room ∧ 0 < room ∧ room ≤ 6) (R := 6) rfl (RE.mono (k := 0 + 1) (re_pick (P := fun ds => ds = [.int 2, .int 3, .int 6]) (Q := fun d => ∃ room : Int, d = .int room ∧ 0 < room ∧ room ≤ 6) rfl (re_pure (fun S => rfl) rfl) ?_) (by omega) fun _ h => h) (fun d h => h) (by omega))) (re_cons (re_plus1 (R := 2) (re_draw (R := 2) rfl re_cst (fun d e => ⟨2, e, by omega, by omega⟩) (by omega))) re_nil)) ?_) (by omega) fun _ h => h
    · rintro ds rfl
      refine ⟨by simp, by simp, fun d hd => ?_⟩
      simp only [List.mem_cons, List.not_mem_nil, or_false] at hd
      rcases hd with rfl | rfl | rfl
      · exact ⟨2, rfl, by omega, by omega⟩
      · exact ⟨3, rfl, by omega, by omega⟩
      · exact ⟨6, rfl, by omega, by omega⟩
    · rintro ds ⟨d1, e1, rfl, ⟨v, rfl, v0, v1⟩, d2, e2, rfl, ⟨w, rfl, w0, w1⟩, rfl⟩
      obtain ⟨q, e, h1, h2, h3⟩ := inD2_mk (v := v) (w := w) (by omega) (by omega) (by omega) (by omega)
      exact ⟨mk q, e, q, rfl, h3 (by omega), h1⟩
  · rintro x ⟨qs, rfl, hq, h⟩
    exact ⟨qs, rfl, hq.trans hl, h⟩
theorem re_bun {R : Int} {lap p b be gd pa : Option LV} {g : Nat} {found ws : List D} {way : Int} (hg : g ≤ 4) : RE ns a 8 buM (bs a R lap g found way ws p b be gd pa) (BuP g) := by
  have hl : (rangeL 0 (g : Int)).length = g := rangeL_len g
  refine RE.mono (k := (rangeL 0 (g : Int)).length * 2) (re_tupc (P := fun q => 0 ≤ q ∧ InD 2 12 q) (ds := rangeL 0 g) (rgoods g hg rfl) fun d hd => ⟨_, rfl, ?_⟩) (by rw [hl]; omega) ?_
  · refine RE.mono (k := (0 + 1) + (0 + 1 + 0)) (re_call (re_cons (re_draw (R := 4) rfl re_cst (fun d e => ⟨4, e, by omega, by omega⟩) (by omega)) (re_cons (re_plus1 (R := 2) (re_draw (R := 2) rfl re_cst (fun d e => ⟨2, e, by omega, by omega⟩) (by omega))) re_nil)) ?_) (by omega) fun _ h => h
    rintro ds ⟨d1, e1, rfl, ⟨v, rfl, v0, v1⟩, d2, e2, rfl, ⟨w, rfl, w0, w1⟩, rfl⟩
    obtain ⟨q, e, h1, h2, h3⟩ := inD2_mk (v := v) (w := w) (by omega) (by omega) (by omega) (by omega)
    exact ⟨mk q, e, q, rfl, h2, h1⟩
  · rintro x ⟨qs, rfl, hq, h⟩
    exact ⟨qs, rfl, hq.trans hl, h⟩
/-! the best good -/
noncomputable def beM : MS := (sIf (mTst (mCall f_law_less (mCons (mCall f_law_times (mCons (mTup (mCons (mOp2 ixD (mVarB 6) (mVarB 9)) (mCons (mPure (.int 1)) (mPure [])))) (mCons (mOp2 ixD (mVarB 7) (mVarB 10)) (mPure [])))) (mCons (mCall f_law_times (mCons (mTup (mCons (mOp2 ixD (mVarB 6) (mVarB 10)) (mCons (mPure (.int 1)) (mPure [])))) (mCons (mOp2 ixD (mVarB 7) (mVarB 9)) (mPure [])))) (mPure []))))) (sSet 9 (mVar 10)) sNil)
theorem best_rs {R : Int} {lap b pa : Option LV} {g : Nat} {found : List D} {way : Int} {ws : List Int} {ps : List Rat} (hw : ws.length = 4) (hws : ∀ w ∈ ws, 1 ≤ w ∧ w ≤ 5) (hp : ps.length = g) (hps : ∀ q ∈ ps, 0 < q ∧ InD 2 12 q) (hg : g ≤ 4) {be i : Nat} (hb : be < g) (hi : i < g) :
    ∃ be', be' < g ∧ ∀ S, beM (bs a R lap g found way (ws.map D.int) (some (.imm (.tup (ps.map mk)))) b (some (.imm (.int (be : Nat)))) (some (.imm (.int (i : Nat)))) pa) S = some (.nx, bs a R lap g found way (ws.map D.int) (some (.imm (.tup (ps.map mk)))) b (some (.imm (.int (be' : Nat)))) (some (.imm (.int (i : Nat)))) pa, S) := by
  have wat : ∀ j, j < g → ∃ w : Int, ixD (.lst (ws.map D.int)) (.int (j : Nat)) = some (.int w) ∧ 1 ≤ w ∧ w ≤ 5 := fun j hj => by
    have e : ws[j]? = some ws[j] := List.getElem?_eq_getElem (by omega)
    exact ⟨ws[j], ix_nat rfl (by rw [List.getElem?_map, e]; rfl), hws _ (List.mem_of_getElem? e)⟩
  have pat : ∀ j, j < g → ∃ q : Rat, ixD (.tup (ps.map mk)) (.int (j : Nat)) = some (mk q) ∧ Sz 4 q := fun j hj => by
    have e : ps[j]? = some ps[j] := List.getElem?_eq_getElem (by omega)
    exact ⟨ps[j], ix_nat rfl (by rw [List.getElem?_map, e]; rfl), sz_of (hps _ (List.mem_of_getElem? e)).2 (by decide) (by decide) (by decide)⟩
  obtain ⟨w1, x1, w10, w11⟩ := wat be hb
  obtain ⟨w2, x2, w20, w21⟩ := wat i hi
  obtain ⟨p1, y1, s1⟩ := pat be hb
  obtain ⟨p2, y2, s2⟩ := pat i hi
  have sw : ∀ w : Int, 1 ≤ w → w ≤ 5 → Sz 3 (w : Rat) := fun w h0 h1 => ⟨by show w.natAbs ≤ 2 ^ 3; omega, by show 1 ≤ 2 ^ 3; omega⟩
  have t1 := law_times_sz (isR_mk (w1 : Rat)) (isR_mk p2) (sw w1 w10 w11) s2 (by omega)
  have t2 := law_times_sz (isR_mk (w2 : Rat)) (isR_mk p1) (sw w2 w20 w21) s1 (by omega)
  have l1 := law_less_sz (isR_mk ((w1 : Rat) * p2)) (isR_mk ((w2 : Rat) * p1)) ((sw w1 w10 w11).mul s2) ((sw w2 w20 w21).mul s1) (by omega)
  have et : ∀ S, mTst (mCall f_law_less (mCons (mCall f_law_times (mCons (mTup (mCons (mOp2 ixD (mVarB 6) (mVarB 9)) (mCons (mPure (.int 1)) (mPure [])))) (mCons (mOp2 ixD (mVarB 7) (mVarB 10)) (mPure [])))) (mCons (mCall f_law_times (mCons (mTup (mCons (mOp2 ixD (mVarB 6) (mVarB 10)) (mCons (mPure (.int 1)) (mPure [])))) (mCons (mOp2 ixD (mVarB 7) (mVarB 9)) (mPure [])))) (mPure []))))
      (bs a R lap g found way (ws.map D.int) (some (.imm (.tup (ps.map mk)))) b (some (.imm (.int (be : Nat)))) (some (.imm (.int (i : Nat)))) pa) S = some (decide ((w1 : Rat) * p2 < (w2 : Rat) * p1), S) := fun S =>
    mTst_of (mCall_of (cons_of (mCall_of (cons_of (tup_of (cons_of (mOp2_of (ev_varB rfl) (ev_varB rfl) x1) (cons_of rfl rfl)) (by simp)) (cons_of (mOp2_of (ev_varB rfl) (ev_varB rfl) y2) rfl)) t1)
      (cons_of (mCall_of (cons_of (tup_of (cons_of (mOp2_of (ev_varB rfl) (ev_varB rfl) x2) (cons_of rfl rfl)) (by simp)) (cons_of (mOp2_of (ev_varB rfl) (ev_varB rfl) y1) rfl)) t2) rfl)) l1)
  by_cases h : (w1 : Rat) * p2 < (w2 : Rat) * p1
  · refine ⟨i, hi, fun S => ?_⟩
    have e := et S
    rw [decide_eq_true h] at e
    unfold beM
    rw [sIf_of e]
    simp only [if_true]
    exact set_of' (ev_var rfl)
  · refine ⟨be, hb, fun S => ?_⟩
    have e := et S
    rw [decide_eq_false h] at e
    exact whileIf e
end K35
namespace K35
open PySem PyProof.Rows L2 Dv

variable {ns : List Int} {a : Addr}
/-- the straight bundle -/
noncomputable def stM : ME := (mCall tupleD (mCons (mLc (mRg1 (mCons (mVarB 3) (mPure []))) [10] (gNm 10) (mPure true) (mIte (mTst (mOp2 eqD (mVarB 10) (mVarB 9))) (mTup (mCons (mOp2 addD (mPure (.int 1)) (mCallR f_law_draw (mCons (mVar 0) (mCons (mPure (.int 3)) (mPure []))))) (mCons (mPure (.int 1)) (mPure [])))) (mTup (mCons (mPure (.int 0)) (mCons (mPure (.int 1)) (mPure [])))))) (mPure [])))
theorem re_ite {t : MT} {m n : ME} {ρ : Lo} {b : Bool} {k : Nat} {P : D → Prop} (ht : ∀ S, t ρ S = some (b, S)) (h1 : b = true → RE ns a k m ρ P) (h2 : b = false → RE ns a k n ρ P) : RE ns a k (mIte t m n) ρ P := fun c r ok ha hc => by
  cases b with
  | true =>
    obtain ⟨d, r', e, p⟩ := h1 rfl c r ok ha hc
    exact ⟨d, r', by unfold mIte; rw [ht]; exact e, p⟩
  | false =>
    obtain ⟨d, r', e, p⟩ := h2 rfl c r ok ha hc
    exact ⟨d, r', by unfold mIte; rw [ht]; exact e, p⟩
theorem re_st {R : Int} {lap p b gd pa : Option LV} {g be : Nat} {found ws : List D} {way : Int} (hg : g ≤ 4) : RE ns a 4 stM (bs a R lap g found way ws p b (some (.imm (.int (be : Nat)))) gd pa) (BuP g) := by
  have hl : (rangeL 0 (g : Int)).length = g := rangeL_len g
  refine RE.mono (k := (rangeL 0 (g : Int)).length * 1) (re_tupc (P := fun q => 0 ≤ q ∧ InD 2 12 q) (ds := rangeL 0 g) (rgoods g hg rfl) fun d hd => ⟨_, rfl, ?_⟩) (by rw [hl]; omega) ?_
  · obtain ⟨i, rfl, hi⟩ := mem_range hd
    refine re_ite (b := decide ((i : Int) = (be : Int))) (fun S => mTst_of (mOp2_of (ev_varB rfl) (ev_varB rfl) (eqD_int _ _))) (fun _ => ?_) (fun _ => ?_)
    · refine RE.mono (k := 0 + 1 + (0 + 0)) (re_tup (re_cons (re_plus1 (R := 3) (re_draw (R := 3) rfl re_cst (fun d e => ⟨3, e, by omega, by omega⟩) (by omega))) (re_cons re_cst re_nil)) ?_) (by omega) fun _ h => h
      rintro ds ⟨d1, e1, rfl, ⟨v, rfl, v0, v1⟩, d2, e2, rfl, rfl, rfl⟩
      exact ⟨by simp, (v : Rat), (mk_int v).symm, Rat.intCast_nonneg.mpr (by omega), inD2_int (by omega) (by omega)⟩
    · exact RE.mono (k := 0) (re_pure (d := mk 0) (fun S => rfl) ⟨0, rfl, Rat.le_refl, inD_zero.mono (by omega)⟩) (by omega) fun _ h => h
  · rintro x ⟨qs, rfl, hq, h⟩
    exact ⟨qs, rfl, hq.trans hl, h⟩
noncomputable def i1T : MT := (mOr (mTst (mOp2 eqD (mVarB 5) (mPure (.int 1)))) (mAnd (mTst (mOp2 eqD (mVarB 5) (mPure (.int 2)))) (mTst (mOp2 gtD (mCallR f_law_draw (mCons (mVar 0) (mCons (mPure (.int 4)) (mPure [])))) (mPure (.int 0))))))
noncomputable def i1B : MS := (sSq (sSet 9 (mPure (.int 0))) (sSq (sFor (mRg1 (mCons (mVarB 3) (mPure []))) (gNm 10) beM) (sSet 8 stM)))
theorem re_or0 {t : MT} {u : MT} {ρ : Lo} {b : Bool} {k : Nat} (ht : ∀ S, t ρ S = some (b, S)) (hu : RE ns a k u ρ fun _ => True) : RE ns a k (mOr t u) ρ fun _ => True := fun c r ok ha hc => by
  cases b with
  | true => exact ⟨true, r, by unfold mOr; rw [ht]; rfl, trivial, ok.up (by omega) hc, Later.refl r⟩
  | false =>
    obtain ⟨d, r', e, p⟩ := hu c r ok ha hc
    exact ⟨d, r', by unfold mOr; rw [ht]; exact e, p⟩
theorem re_and0 {t : MT} {u : MT} {ρ : Lo} {b : Bool} {k : Nat} (ht : ∀ S, t ρ S = some (b, S)) (hu : RE ns a k u ρ fun _ => True) : RE ns a k (mAnd t u) ρ fun _ => True := fun c r ok ha hc => by
  cases b with
  | true =>
    obtain ⟨d, r', e, p⟩ := hu c r ok ha hc
    exact ⟨d, r', by unfold mAnd; rw [ht]; exact e, p⟩
  | false => exact ⟨false, r, by unfold mAnd; rw [ht]; rfl, trivial, ok.up (by omega) hc, Later.refl r⟩
theorem i1_rs {R : Int} {lap be gd pa : Option LV} {g : Nat} {found : List D} {way : Int} {ws : List Int} {x y : D} (hw : ws.length = 4) (hws : ∀ w ∈ ws, 1 ≤ w ∧ w ≤ 5) (hx : PrP g x) (hy : BuP g y) (g2 : 2 ≤ g) (hg : g ≤ 4) :
    RS ns a 5 (sIf i1T i1B sNil) (bs a R lap g found way (ws.map D.int) (some (.imm x)) (some (.imm y)) be gd pa) (fun fl ρ' => fl = .nx ∧ ∃ y be gd, BuP g y ∧ ρ' = bs a R lap g found way (ws.map D.int) (some (.imm x)) (some (.imm y)) be gd pa) := by
  obtain ⟨ps, rfl, hp, hps⟩ := hx
  refine RS.mono (k := 1 + 4) (rs_if (P := fun _ => True) ?_ (fun _ => ?_) (fun _ => ?_)) (by omega) fun _ _ h => h
  · unfold i1T
    refine re_or0 (fun S => mTst_of (mOp2_of (ev_varB rfl) rfl (eqD_int _ _))) (re_and0 (fun S => mTst_of (mOp2_of (ev_varB rfl) rfl (eqD_int _ _))) ?_)
    refine RE.mono (k := 0 + 1 + 0) (re_tst (P := fun d => ∃ b : Bool, d = .bl b) (re_op2 (re_draw (R := 4) rfl re_cst (fun d e => ⟨4, e, by omega, by omega⟩) (by omega)) re_cst ?_) ?_) (by omega) fun _ h => h
    · rintro x y ⟨v, rfl, _, _⟩ rfl
      exact ⟨_, gtD_int _ _, _, rfl⟩
    · rintro d ⟨b, rfl⟩
      exact ⟨b, rfl, trivial⟩
  · unfold i1B
    refine rs_det (ρ' := bs a R lap g found way (ws.map D.int) (some (.imm (.tup (ps.map mk)))) (some (.imm y)) (some (.imm (.int ((0 : Nat) : Int)))) gd pa) (fun S => rfl) ?_
    refine RS.mono (k := 0 + 4 * 0 + 4) (rs_sq (P := fun ρ => ∃ be' gd, be' < g ∧ ρ = bs a R lap g found way (ws.map D.int) (some (.imm (.tup (ps.map mk)))) (some (.imm y)) (some (.imm (.int (be' : Nat)))) gd pa) ?_ ?_) (by omega) fun _ _ h => h
    · refine RS.mono (rs_for (k := 0) (k' := 0) (L := 4) (Pd := fun ds => ds = rangeL 0 g) (fun i ρ => ∃ be' gd, be' < g ∧ ρ = bs a R lap g found way (ws.map D.int) (some (.imm (.tup (ps.map mk)))) (some (.imm y)) (some (.imm (.int (be' : Nat)))) gd pa) (re_pure (fun S => rgoods g hg rfl S) ⟨by rw [rangeL_len]; exact hg, rfl⟩) ⟨0, gd, by omega, rfl⟩ ?_) (by omega) ?_
      · rintro ds rfl i d ρ' hd ⟨be', gd', hb, rfl⟩
        obtain ⟨hi, rfl⟩ := rangeL_get hd
        obtain ⟨be2, hb2, e⟩ := best_rs (a := a) (R := R) (lap := lap) (b := some (.imm y)) (pa := pa) (found := found) (way := way) hw hws hp hps hg hb hi
        exact ⟨_, rfl, rs_pure (fun S => e S) ⟨.inl rfl, be2, _, hb2, rfl⟩⟩
      · rintro fl ρ' ⟨rfl, ds, rfl, _, be', gd', hb, rfl⟩
        exact ⟨rfl, be', gd', hb, rfl⟩
    · rintro ρ ⟨be', gd', hb, rfl⟩
      refine RS.mono (rs_set (re_st hg)) (by omega) ?_
      rintro fl ρ' ⟨rfl, y', hy', rfl⟩
      exact ⟨rfl, y', _, _, hy', rfl⟩
  · exact RS.mono (rs_pure (fl := .nx) (fun S => rfl) ⟨rfl, y, be, gd, hy, rfl⟩) (by omega) fun _ _ h => h
/-! a bundle of nothing -/
noncomputable def i2T : MT := (mTst (mOp2 eqD (mLc (mSeq (mVar 8)) [11] (gNm 11) (mTst (mOp2 gtD (mOp2 ixD (mVarB 11) (mPure (.int 0))) (mPure (.int 0)))) (mPure (.int 1))) (mLst (mPure []))))
noncomputable def i2B : MS := (sSet 8 (mOp2 addD (mTup (mCons (mTup (mCons (mPure (.int 1)) (mCons (mPure (.int 1)) (mPure [])))) (mPure []))) (mSl slD (mVarB 8) (mPart (mPure (.int 1))) (mPure none))))
theorem i2_rs {R : Int} {lap p be gd : Option LV} {g : Nat} {found ws : List D} {way : Int} {y : D} (hy : BuP g y) (g2 : 2 ≤ g) (hg : g ≤ 4) :
    RS ns a 0 (sIf i2T i2B sNil) (bs a R lap g found way ws p (some (.imm y)) be gd none) (fun fl ρ' => fl = .nx ∧ ∃ qs : List Rat, qs.length = g ∧ (∀ q ∈ qs, 0 ≤ q ∧ InD 2 12 q) ∧ (∃ q ∈ qs, 0 < q) ∧ ρ' = bs a R lap g found way ws p (some (.imm (.tup (qs.map mk)))) be gd none) := by
  obtain ⟨qs, rfl, hl, hq⟩ := hy
  have el : ∀ S, lcGo (bs a R lap g found way ws p (some (.imm (.tup (qs.map mk)))) be gd none) (gNm 11) (mTst (mOp2 gtD (mOp2 ixD (mVarB 11) (mPure (.int 0))) (mPure (.int 0)))) (mPure (.int 1)) (qs.map mk) S = some ((qs.filter fun q => decide (0 < q.num)).map (fun _ => D.int 1), S) := fun S =>
    lc_if (R := fun d q => d = mk q) (fun q : Rat => decide (0 < q.num)) (fun _ => D.int 1) (paired_mapL (R := fun d q => d = mk q) (e := mk) (fun _ => rfl) qs) fun d q hd hm => by
      subst hd
      exact ⟨bs a R lap g found way ws p (some (.imm (.tup (qs.map mk)))) be gd (some (.imm (mk q))), rfl, mTst_of (mOp2_of (mOp2_of (ev_varB rfl) rfl (isR_mk q).at0) rfl (gtD_int _ _)), fun _ => rfl⟩
  have et : ∀ S, i2T (bs a R lap g found way ws p (some (.imm (.tup (qs.map mk)))) be gd none) S = some (decide ((qs.filter fun q => decide (0 < q.num)).map (fun _ => D.int 1) = []), S) := fun S =>
    mTst_of (mOp2_of (lc_of (mSeq_of (ev_var rfl) rfl) (el S)) rfl (eq_lst_nil (n := 0) (fun d hd => by obtain ⟨_, _, rfl⟩ := List.mem_map.mp hd; exact dp_int _ _) (by omega)).1)
  by_cases h : (qs.filter fun q => decide (0 < q.num)).map (fun _ => D.int 1) = []
  · cases qs with
    | nil => simp at hl; omega
    | cons q0 qs =>
      have hne : qs ≠ [] := fun z => by rw [z] at hl; simp at hl; omega
      refine rs_pure (fl := .nx) (ρ' := bs a R lap g found way ws p (some (.imm (.tup ((1 :: qs).map mk)))) be gd none) (fun S => ?_) ⟨rfl, 1 :: qs, by simpa using hl, fun q hm => ?_, ⟨1, List.mem_cons_self, by decide⟩, rfl⟩
      · have e := et S
        rw [decide_eq_true h] at e
        rw [sIf_of e]
        simp only [if_true]
        have es : slD (.tup ((q0 :: qs).map mk)) (some 1) none = some (.tup (qs.map mk)) := sl_tail _ _
        have ea : addD (.tup [mk 1]) (.tup (qs.map mk)) = some (.tup ([mk 1] ++ qs.map mk)) := add_tup (by simp) (by simpa using hne) (by rw [List.length_map]; simp at hl ⊢; omega)
        exact set_of' (mOp2_of (tup_of (cons_of (tup_of (cons_of rfl (cons_of rfl rfl)) (by simp)) rfl) (by simp)) (mSl_of (ev_varB rfl) rfl rfl es) ea)
      · rcases List.mem_cons.mp hm with z | z
        · subst z; exact ⟨by decide, inD2_int (v := 1) (by omega) (by omega)⟩
        · exact hq q (List.mem_cons_of_mem _ z)
  · refine rs_pure (fl := .nx) (ρ' := bs a R lap g found way ws p (some (.imm (.tup (qs.map mk)))) be gd none) (fun S => ?_) ⟨rfl, qs, hl, hq, ?_, rfl⟩
    · have e := et S
      rw [decide_eq_false h] at e
      exact whileIf e
    · rw [List.map_eq_nil_iff] at h
      obtain ⟨q, hm⟩ := List.exists_mem_of_ne_nil _ h
      obtain ⟨h1, h2⟩ := List.mem_filter.mp hm
      have h2 := of_decide_eq_true h2
      refine ⟨q, h1, ?_⟩
      refine (Rat.lt_iff _ _).mpr ?_
      simpa using h2
/-- a drawn row -/
structure RowD (g : Nat) (r : Row) : Prop where
  p : RowP g r
  b : RowB r
noncomputable def lapM : MS := (sSq (sSet 7 prM) (sSq (sSet 8 buM) (sSq (sIf i1T i1B sNil) (sSq (sIf i2T i2B sNil) (sApp 4 (mTup (mCons (mVar 7) (mCons (mVar 8) (mPure [])))))))))
theorem lap_rs {R : Int} {lap p b be gd : Option LV} {g : Nat} {rs : List Row} {way : Int} {ws : List Int} (hw : ws.length = 4) (hws : ∀ w ∈ ws, 1 ≤ w ∧ w ≤ 5) (g2 : 2 ≤ g) (hg : g ≤ 4) (hl : rs.length ≤ 1000) :
    RS ns a 25 lapM (bs a R lap g (rs.map rowD) way (ws.map D.int) p b be gd none) (fun fl ρ' => fl = .nx ∧ ∃ r p b be gd, RowD g r ∧ ρ' = bs a R lap g ((rs ++ [r]).map rowD) way (ws.map D.int) p b be gd none) := by
  refine RS.mono (k := 12 + (8 + (5 + (0 + 0)))) (rs_sq (P := fun ρ => ∃ x, PrP g x ∧ ρ = bs a R lap g (rs.map rowD) way (ws.map D.int) (some (.imm x)) b be gd none) ?_ ?_) (by omega) fun _ _ h => h
  · refine RS.mono (rs_set (re_pri hg)) (by omega) ?_
    rintro fl ρ' ⟨rfl, x, hx, rfl⟩
    exact ⟨rfl, x, hx, rfl⟩
  rintro ρ ⟨x, hx, rfl⟩
  refine rs_sq (P := fun ρ => ∃ y, BuP g y ∧ ρ = bs a R lap g (rs.map rowD) way (ws.map D.int) (some (.imm x)) (some (.imm y)) be gd none) ?_ ?_
  · refine RS.mono (rs_set (re_bun hg)) (by omega) ?_
    rintro fl ρ' ⟨rfl, y, hy, rfl⟩
    exact ⟨rfl, y, hy, rfl⟩
  rintro ρ ⟨y, hy, rfl⟩
  refine rs_sq (P := fun ρ => ∃ y be gd, BuP g y ∧ ρ = bs a R lap g (rs.map rowD) way (ws.map D.int) (some (.imm x)) (some (.imm y)) be gd none) (i1_rs hw hws hx hy g2 hg) ?_
  rintro ρ ⟨y, be, gd, hy, rfl⟩
  refine rs_sq (P := fun ρ => ∃ qs : List Rat, qs.length = g ∧ (∀ q ∈ qs, 0 ≤ q ∧ InD 2 12 q) ∧ (∃ q ∈ qs, 0 < q) ∧ ρ = bs a R lap g (rs.map rowD) way (ws.map D.int) (some (.imm x)) (some (.imm (.tup (qs.map mk)))) be gd none) (i2_rs hy g2 hg) ?_
  rintro ρ ⟨qs, ql, hq, hq0, rfl⟩
  obtain ⟨ps, rfl, hp, hps⟩ := hx
  refine rs_pure (fl := .nx) (ρ' := bs a R lap g ((rs ++ [(ps, qs)]).map rowD) way (ws.map D.int) (some (.imm (.tup (ps.map mk)))) (some (.imm (.tup (qs.map mk)))) be gd none) (fun S => ?_) ⟨rfl, (ps, qs), _, _, _, _, ⟨⟨hp, ql, fun q hm => (hps q hm).1, fun q hm => (hq q hm).1, hq0⟩, ⟨fun z => ?_, fun z => ?_, by show ps.length ≤ 4; omega, fun q hm => (hps q hm).2, fun q hm => (hq q hm).2⟩⟩, rfl⟩
  · have et : mTup (mCons (mVar 7) (mCons (mVar 8) (mPure []))) (bs a R lap g (rs.map rowD) way (ws.map D.int) (some (.imm (.tup (ps.map mk)))) (some (.imm (.tup (qs.map mk)))) be gd none) S = some (rowD (ps, qs), S) := rfl
    have e := app_of (i := 4) (ρ := bs a R lap g (rs.map rowD) way (ws.map D.int) (some (.imm (.tup (ps.map mk)))) (some (.imm (.tup (qs.map mk)))) be gd none) (S := S) rfl et (by rw [List.length_map]; omega)
    rw [List.map_append]
    exact e
  · have z : ps = [] := z
    rw [z] at hp; simp at hp; omega
  · have z : qs = [] := z
    rw [z] at ql; simp at ql; omega
theorem dsM_eq : m_law_ds_budgets = (sSq (sPar2 3 4 false (mCallR f_law_pick (mCons (mVar 0) (mCons (mLst (mCons (mPure (.int 2)) (mCons (mPure (.int 2)) (mCons (mPure (.int 3)) (mCons (mPure (.int 4)) (mPure [])))))) (mPure [])))) true (mLst (mPure [])))
  (sSq (sPar2 5 6 false (mCallR f_law_draw (mCons (mVar 0) (mCons (mPure (.int 4)) (mPure [])))) false (mLc (mRg1 (mCons (mPure (.int 4)) (mPure []))) [10] (gNm 10) (mPure true) (mOp2 addD (mPure (.int 1)) (mCallR f_law_draw (mCons (mVar 0) (mCons (mPure (.int 5)) (mPure [])))))))
  (sSq (sFor (mRg1 (mCons (mOp2 addD (mPure (.int 1)) (mCallR f_law_draw (mCons (mVar 0) (mCons (mVar 1) (mPure []))))) (mPure []))) (gNm 2) lapM)
  (sRet (mTup (mCons (mPure (.str "budgets")) (mCons (mCall tupleD (mCons (mVarB 4) (mPure []))) (mPure [])))))))) := rfl
theorem ints_of : ∀ {ys : List D}, (∀ y ∈ ys, ∃ v : Int, y = .int v ∧ 1 ≤ v ∧ v ≤ 5) → ∃ ws : List Int, ys = ws.map D.int ∧ ∀ w ∈ ws, 1 ≤ w ∧ w ≤ 5
  | [], _ => ⟨[], rfl, fun _ h => by cases h⟩
  | y :: ys, h => by
    obtain ⟨v, rfl, hv⟩ := h y List.mem_cons_self
    obtain ⟨ws, rfl, hw⟩ := ints_of (ys := ys) fun z hz => h z (List.mem_cons_of_mem _ hz)
    exact ⟨v :: ws, rfl, fun w hm => by
      (rcases List.mem_cons.mp hm with rfl | hm)
      · exact hv
      · exact hw w hm⟩
/-- drawn budgets of one to six rows -/
def DsR (x : D) : Prop := ∃ g rs, 2 ≤ g ∧ g ≤ 4 ∧ 1 ≤ rs.length ∧ rs.length ≤ 6 ∧ x = budD rs ∧ ∀ r ∈ rs, RowD g r
theorem budgets_rf : RF ns a 200 f_law_ds_budgets [.rng a, .int 6] DsR := by
  refine rf_run rfl ?_
  rw [dsM_eq]
  refine RS.mono (k := 1 + (5 + (1 + 6 * 25 + 0))) (rs_sq (P := fun ρ => ∃ g : Nat, 2 ≤ g ∧ g ≤ 4 ∧ ρ = [some (.imm (.rng a)), some (.imm (.int 6)), none, some (.imm (.int (g : Nat))), some (.own (.lst [])), none, none, none, none, none, none, none]) ?_ ?_) (by omega) fun _ _ h => h
  · refine RS.mono (k := 0 + 1 + 0) (rs_par2 (Q := fun d => d = .lst []) (re_pick (P := fun ds => ds = [.int 2, .int 2, .int 3, .int 4]) (Q := fun d => ∃ g : Nat, d = .int (g : Nat) ∧ 2 ≤ g ∧ g ≤ 4) rfl (re_pure (fun S => rfl) rfl) ?_) (re_pure (fun S => rfl) rfl)) (by omega) ?_
    · rintro ds rfl
      refine ⟨by simp, by simp, fun d hd => ?_⟩
      simp only [List.mem_cons, List.not_mem_nil, or_false] at hd
      rcases hd with rfl | rfl | rfl | rfl
      · exact ⟨2, rfl, by omega, by omega⟩
      · exact ⟨2, rfl, by omega, by omega⟩
      · exact ⟨3, rfl, by omega, by omega⟩
      · exact ⟨4, rfl, by omega, by omega⟩
    · rintro fl ρ' ⟨rfl, d, e, ⟨g, rfl, g2, g4⟩, rfl, rfl⟩
      exact ⟨rfl, g, g2, g4, rfl⟩
  rintro ρ ⟨g, g2, g4, rfl⟩
  refine rs_sq (P := fun ρ => ∃ (way : Int) (ws : List Int), ws.length = 4 ∧ (∀ w ∈ ws, 1 ≤ w ∧ w ≤ 5) ∧ ρ = bs a 6 none g [] way (ws.map D.int) none none none none none) ?_ ?_
  · have hl4 : (rangeL 0 ((4 : Nat) : Int)).length = 4 := rangeL_len 4
    refine RS.mono (k := 0 + 1 + 4 * 1) (rs_par2 (re_draw (R := 4) rfl re_cst (fun d e => ⟨4, e, by omega, by omega⟩) (by omega)) (RE.mono (k := (rangeL 0 ((4 : Nat) : Int)).length * 1) (re_lc (ds := rangeL 0 ((4 : Nat) : Int)) (fun S => rg1_nat (n := 4) rfl (by omega)) fun d hd => ⟨_, rfl, re_plus1 (R := 5) (re_draw (R := 5) rfl re_cst (fun d e => ⟨5, e, by omega, by omega⟩) (by omega))⟩) (by rw [hl4]; omega) fun _ h => h)) (by omega) ?_
    rintro fl ρ' ⟨rfl, d, e, ⟨way, rfl, _, _⟩, ⟨ys, rfl, hl, hy⟩, rfl⟩
    obtain ⟨ws, rfl, hw⟩ := ints_of hy
    exact ⟨rfl, way, ws, by rw [← hl4, ← hl, List.length_map], hw, rfl⟩
  rintro ρ ⟨way, ws, hw, hws, rfl⟩
  refine rs_sq (P := fun ρ => ∃ rs : List Row, 1 ≤ rs.length ∧ rs.length ≤ 6 ∧ (∀ r ∈ rs, RowD g r) ∧ ∃ lap p b be gd, ρ = bs a 6 lap g (rs.map rowD) way (ws.map D.int) p b be gd none) ?_ ?_
  · refine RS.mono (rs_for (k := 1) (k' := 25) (L := 6) (Pd := fun ds => 1 ≤ ds.length ∧ ds.length ≤ 6) (fun i ρ => ∃ rs : List Row, rs.length = i ∧ (∀ r ∈ rs, RowD g r) ∧ i ≤ 1000 ∧ ∃ lap p b be gd, ρ = bs a 6 lap g (rs.map rowD) way (ws.map D.int) p b be gd none) ?_ ⟨[], rfl, fun _ h => (by cases h), by omega, none, none, none, none, none, rfl⟩ ?_) (by omega) ?_
    · intro c r ok ha hc
      obtain ⟨d, r', e, ⟨v, rfl, v0, v1⟩, ok', l⟩ := (re_plus1 (R := 6) (re_draw (k := 0) (P := fun d => d = .int 6) (R := 6) (ρ := bs a 6 none g [] way (ws.map D.int) none none none none none) (i := 0) (m := mVar 1) rfl (re_var rfl) (fun d e => ⟨6, e, by omega, by omega⟩) (by omega))) c r ok ha (by omega)
      obtain ⟨n, rfl⟩ : ∃ n : Nat, v = (n : Int) := ⟨v.toNat, by omega⟩
      refine ⟨rangeL 0 n, r', ?_, ⟨by rw [rangeL_len]; omega, by rw [rangeL_len]; omega, by rw [rangeL_len]; omega⟩, ok', l⟩
      unfold mRg1
      rw [cons_of e rfl]
      simp only [Option.bind_some]
      rw [if_pos (by omega)]
    · rintro ds ⟨_, hd6⟩ i d ρ' hd ⟨rs, rfl, hr, hi, lap, p, b, be, gd, rfl⟩
      have hlt := (List.getElem?_eq_some_iff.mp hd).1
      refine ⟨_, rfl, RS.mono (lap_rs (rs := rs) hw hws g2 g4 hi) (Nat.le_refl _) ?_⟩
      rintro fl ρ2 ⟨rfl, r, p, b, be, gd, hrd, rfl⟩
      refine ⟨.inl rfl, rs ++ [r], by simp, fun x hx => ?_, ?_, _, p, b, be, gd, rfl⟩
      · rcases List.mem_append.mp hx with z | z
        · exact hr x z
        · rw [List.mem_singleton.mp z]; exact hrd
      · omega
    · rintro fl ρ' ⟨rfl, ds, ⟨h1, _⟩, hl, rs, hrl, hr, _, lap, p, b, be, gd, rfl⟩
      exact ⟨rfl, rs, by omega, by omega, hr, lap, p, b, be, gd, rfl⟩
  rintro ρ ⟨rs, h1, h6, hr, lap, p, b, be, gd, rfl⟩
  refine rs_pure (fl := .rt (budD rs)) (ρ' := bs a 6 lap g (rs.map rowD) way (ws.map D.int) p b be gd none) (fun S => ?_) ⟨budD rs, rfl, g, rs, g2, g4, h1, h6, rfl, hr⟩
  exact sRet_of (tup_of (cons_of rfl (cons_of (mCall_of (cons_of (ev_varO rfl) rfl) rfl) rfl)) (by simp))
end K35
namespace K35
open PySem PyProof.Rows L2 Dv
open BW (Reach)

section
variable {x sh : D} {n Z : Nat} {c : Nat → Nat → Rat} {s : Rat}
theorem lmeet_fn (ht : TabR x n c) (hs : IsR sh s) (sz : Sz Z s) (hc : ∀ i j, i < n → j < n → Sz 10 (c i j)) (hZ : Z ≤ 1000) : ReachF f_law_ds_meets x sh n (Er c s) := ⟨fun i j hi hj => by
  have e0 : mOp2 neD (mVarB 2) (mVarB 3) [some (.imm x), some (.imm sh), some (.imm (.int (i : Nat))), some (.imm (.int (j : Nat)))] none = some (.bl (decide ((i : Int) ≠ (j : Int))), none) := mOp2_of (ev_varB rfl) (ev_varB rfl) (neD_int _ _)
  have t1 := law_times_sz hs (isR_mk (c i i)) sz (hc i i hi hi) (by omega)
  have t2 := law_less_sz (isR_mk (s * c i i)) (isR_mk (c i j)) (sz.mul (hc i i hi hi)) (hc i j hi hj) (by omega)
  have e1 : mNotV (mCall f_law_less (mCons (mCall f_law_times (mCons (mVar 1) (mCons (mOp2 ixD (mOp2 ixD (mVarB 0) (mVarB 2)) (mVarB 2)) (mPure [])))) (mCons (mOp2 ixD (mOp2 ixD (mVarB 0) (mVarB 2)) (mVarB 3)) (mPure [])))) [some (.imm x), some (.imm sh), some (.imm (.int (i : Nat))), some (.imm (.int (j : Nat)))] none = some (.bl (!decide (s * c i i < c i j)), none) :=
    notV_of (mCall_of (cons_of (mCall_of (cons_of (ev_var rfl) (cons_of (tab2 ht hi hi rfl rfl rfl) rfl)) t1) (cons_of (tab2 ht hi hj rfl rfl rfl) rfl)) t2)
  unfold Er
  by_cases hij : i = j
  · rw [decide_eq_false (by omega)] at e0
    rw [decide_eq_false (by simpa using hij)]
    exact runP_rt rfl (sRet_of (andV_f e0))
  · rw [decide_eq_true (by omega)] at e0
    rw [decide_eq_true (by simpa using hij), Bool.true_and]
    exact runP_rt rfl (sRet_of (andV_t e0 e1))⟩
theorem lstrict_fn (ht : TabR x n c) (hs : IsR sh s) (sz : Sz Z s) (hc : ∀ i j, i < n → j < n → Sz 10 (c i j)) (hZ : Z ≤ 1000) : ReachF f_law_ds_meets_strictly x sh n (Sr c s) := ⟨fun i j hi hj => by
  have e0 : mOp2 neD (mVarB 2) (mVarB 3) [some (.imm x), some (.imm sh), some (.imm (.int (i : Nat))), some (.imm (.int (j : Nat)))] none = some (.bl (decide ((i : Int) ≠ (j : Int))), none) := mOp2_of (ev_varB rfl) (ev_varB rfl) (neD_int _ _)
  have t1 := law_times_sz hs (isR_mk (c i i)) sz (hc i i hi hi) (by omega)
  have t2 := law_less_sz (isR_mk (c i j)) (isR_mk (s * c i i)) (hc i j hi hj) (sz.mul (hc i i hi hi)) (by omega)
  have e1 : (mCall f_law_less (mCons (mOp2 ixD (mOp2 ixD (mVarB 0) (mVarB 2)) (mVarB 3)) (mCons (mCall f_law_times (mCons (mVar 1) (mCons (mOp2 ixD (mOp2 ixD (mVarB 0) (mVarB 2)) (mVarB 2)) (mPure [])))) (mPure [])))) [some (.imm x), some (.imm sh), some (.imm (.int (i : Nat))), some (.imm (.int (j : Nat)))] none = some (.bl (decide (c i j < s * c i i)), none) :=
    (mCall_of (cons_of (tab2 ht hi hj rfl rfl rfl) (cons_of (mCall_of (cons_of (ev_var rfl) (cons_of (tab2 ht hi hi rfl rfl rfl) rfl)) t1) rfl)) t2)
  unfold Sr
  by_cases hij : i = j
  · rw [decide_eq_false (by omega)] at e0
    rw [decide_eq_false (by simpa using hij)]
    exact runP_rt rfl (sRet_of (andV_f e0))
  · rw [decide_eq_true (by omega)] at e0
    rw [decide_eq_true (by simpa using hij), Bool.true_and]
    exact runP_rt rfl (sRet_of (andV_t e0 e1))⟩
theorem sr_er {i j : Nat} (h : Sr c s i j = true) : Er c s i j = true := by
  unfold Sr at h
  unfold Er
  simp only [Bool.and_eq_true, Bool.not_eq_true', decide_eq_true_eq, decide_eq_false_iff_not] at h ⊢
  exact ⟨h.1, by grind⟩
end
open Classical in
theorem law_ring_ev {rs : List Row} (hb : ∀ r ∈ rs, RowB r) (h6 : rs.length ≤ 6) : f_law_ds_has_ring [costsL rs, mk 1] = some (.bl (decide (HasRing (Er (co rs) 1) (Sr (co rs) 1) rs.length))) := by
  have hcs := fun i j (_ : i < rs.length) (_ : j < rs.length) => co_sz hb i j
  exact has_ev (lmeet_fn (tab_L rs) (isR_mk 1) sz_one hcs (by omega)) (lstrict_fn (tab_L rs) (isR_mk 1) sz_one hcs (by omega)) sr_self (fun i j => sr_er) h6 (by unfold costsL; rw [len_items rfl, List.length_map])
/-! ### the worth of a bundle -/
def optD : List Rat → D
  | [] => .non
  | w :: ws => mk (rmin w ws)
theorem rmin_snoc (w : Rat) (ws : List Rat) (q : Rat) : rmin w (ws ++ [q]) = if decide (q < rmin w ws) then q else rmin w ws := by
  unfold rmin; rw [List.foldl_append]; rfl
/-- what row i tells of a bundle -/
def wo (rs : List Row) (nu ra : Nat → Rat) (qs : List Rat) (i : Nat) : Rat := match rs[i]? with
  | some r => nu i + ra i * (rdot r.1 qs - rdot r.1 r.2)
  | none => 0
noncomputable def wTurn : MS := (sSq (sSet 4 (mCall f_law_plus (mCons (mVar 7) (mCons (mCall f_law_times (mCons (mVar 8) (mCons (mCall f_law_minus (mCons (mCall f_law_dot (mCons (mVar 5) (mCons (mVar 2) (mPure [])))) (mCons (mCall f_law_dot (mCons (mVar 5) (mCons (mVar 6) (mPure [])))) (mPure [])))) (mPure [])))) (mPure [])))))
  (sSet 3 (mIte (mOr (mTst (mOp2 isD (mVarB 3) (mPure .non))) (mTst (mCall f_law_less (mCons (mVar 4) (mCons (mVar 3) (mPure [])))))) (mVar 4) (mVar 3))))
theorem worth_ev {rs : List Row} {goods Y : Nat} (hrs : ∀ r ∈ rs, RowD goods r) (hl1 : 1 ≤ rs.length) {gp : Nat → Nat → Rat} {A B : Nat} {nd : D} {f : Nat → D × D} {nu ra : Nat → Rat} (hN : NumsR rs.length gp A B nd f nu ra) {qs : List Rat} (hq : ∀ q ∈ qs, Sz Y q) (hS : A + (B + (4 * (Y + 5) + 11)) + 1 < 8990) :
    ∃ v, f_law_worth [budD rs, nd, .tup (qs.map mk)] = some (mk v) ∧ Sz (A + (B + (4 * (Y + 5) + 11)) + 1) v ∧ (∀ i, i < rs.length → v ≤ wo rs nu ra qs i) ∧ ∃ i, i < rs.length ∧ v = wo rs nu ra qs i := by
  have hsz : ∀ i, i < rs.length → Sz (A + (B + (4 * (Y + 5) + 11)) + 1) (wo rs nu ra qs i) := fun i hi => by
    have ei : rs[i]? = some rs[i] := List.getElem?_eq_getElem hi
    have hr := hrs _ (List.mem_of_getElem? ei)
    have s1 : Sz (4 * (Y + 5)) (rdot rs[i].1 qs) := (sz_dot hr.b.ps hq hr.b.p4).mono (by omega)
    have s2 : Sz 10 (rdot rs[i].1 rs[i].2) := cst_sz hr.b hr.b
    have s3 : Sz (4 * (Y + 5) + 11) (rdot rs[i].1 qs - rdot rs[i].1 rs[i].2) := (s1.sub s2).mono (by omega)
    unfold wo
    rw [ei]
    exact (hN.sa i hi).add ((hN.sb i hi).mul s3)
  have hndl : nd = .tup ((List.range rs.length).map fun i => D.tup [(f i).1, (f i).2]) := hN.eq
  subst hndl
  have hz : (List.zipWith (fun a b => D.tup [a, b]) (rs.map rowD) ((List.range rs.length).map fun i => D.tup [(f i).1, (f i).2])).length = rs.length := by
    rw [List.length_zipWith, List.length_map, List.length_map, List.length_range]; omega
  obtain ⟨fl, ρ', S', e, rfl, rfl, b, c, d, e', g, rfl⟩ := for_run (g := (gTp 2 (gCns (gTp 2 (gCns (gNm 5) (gCns (gNm 6) gNl))) (gCns (gTp 2 (gCns (gNm 7) (gCns (gNm 8) gNl))) gNl)))) (ms := wTurn) (ds := List.zipWith (fun a b => D.tup [a, b]) (rs.map rowD) ((List.range rs.length).map fun i => D.tup [(f i).1, (f i).2]))
    (P := fun fl ρ S => fl = .nx ∧ S = none ∧ ∃ b c d e g, ρ = [some (.imm (budD rs)), some (.imm (.tup ((List.range rs.length).map fun i => D.tup [(f i).1, (f i).2]))), some (.imm (.tup (qs.map mk))), some (.imm (optD ((List.range rs.length).map (wo rs nu ra qs)))), b, c, d, e, g])
    (Inv := fun k ρ S => S = none ∧ ∃ b c d e g, ρ = [some (.imm (budD rs)), some (.imm (.tup ((List.range rs.length).map fun i => D.tup [(f i).1, (f i).2]))), some (.imm (.tup (qs.map mk))), some (.imm (optD ((List.range k).map (wo rs nu ra qs)))), b, c, d, e, g]) 0
    (fun k d ρ S hd hI => by
      obtain ⟨rfl, b, c, d', e, g, rfl⟩ := hI
      rw [Nat.zero_add]
      have hk : k < rs.length := by rw [← hz]; exact (List.getElem?_eq_some_iff.mp hd).1
      have ek : rs[k]? = some rs[k] := List.getElem?_eq_getElem hk
      have hr := hrs _ (List.mem_of_getElem? ek)
      rw [zipWith_get (x := rowD rs[k]) (y := D.tup [(f k).1, (f k).2]) (by rw [List.getElem?_map, ek]; rfl) (by rw [List.getElem?_map, List.getElem?_range hk]; rfl)] at hd
      cases hd
      have d1 := law_dotz_ev (vec_mk rs[k].1) (vec_mk qs) hr.b.ps hq hr.b.p4 (by omega)
      have d2 := law_dotz_ev (vec_mk rs[k].1) (vec_mk rs[k].2) hr.b.ps hr.b.qs hr.b.p4 (by omega)
      have s1 : Sz (4 * (Y + 5)) (rdot rs[k].1 qs) := (sz_dot hr.b.ps hq hr.b.p4).mono (by omega)
      have s2 : Sz 10 (rdot rs[k].1 rs[k].2) := cst_sz hr.b hr.b
      have m1 := law_minus_sz (isR_mk (rdot rs[k].1 qs)) (isR_mk (rdot rs[k].1 rs[k].2)) s1 s2 (by omega)
      have s3 : Sz (4 * (Y + 5) + 11) (rdot rs[k].1 qs - rdot rs[k].1 rs[k].2) := (s1.sub s2).mono (by omega)
      have t1 := law_times_sz (hN.rat k hk) (isR_mk (rdot rs[k].1 qs - rdot rs[k].1 rs[k].2)) (hN.sb k hk) s3 (by omega)
      have p1 := law_plus_sz (hN.num k hk) (isR_mk (ra k * (rdot rs[k].1 qs - rdot rs[k].1 rs[k].2))) (hN.sa k hk) ((hN.sb k hk).mul s3) (by omega)
      have ew : nu k + ra k * (rdot rs[k].1 qs - rdot rs[k].1 rs[k].2) = wo rs nu ra qs k := by unfold wo; rw [ek]
      rw [ew] at p1
      have e1 : sSet 4 (mCall f_law_plus (mCons (mVar 7) (mCons (mCall f_law_times (mCons (mVar 8) (mCons (mCall f_law_minus (mCons (mCall f_law_dot (mCons (mVar 5) (mCons (mVar 2) (mPure [])))) (mCons (mCall f_law_dot (mCons (mVar 5) (mCons (mVar 6) (mPure [])))) (mPure [])))) (mPure [])))) (mPure []))))
          [some (.imm (budD rs)), some (.imm (.tup ((List.range rs.length).map fun i => D.tup [(f i).1, (f i).2]))), some (.imm (.tup (qs.map mk))), some (.imm (optD ((List.range k).map (wo rs nu ra qs)))), b, some (.imm (.tup (rs[k].1.map mk))), some (.imm (.tup (rs[k].2.map mk))), some (.imm (f k).1), some (.imm (f k).2)] none =
          some (.nx, [some (.imm (budD rs)), some (.imm (.tup ((List.range rs.length).map fun i => D.tup [(f i).1, (f i).2]))), some (.imm (.tup (qs.map mk))), some (.imm (optD ((List.range k).map (wo rs nu ra qs)))), some (.imm (mk (wo rs nu ra qs k))), some (.imm (.tup (rs[k].1.map mk))), some (.imm (.tup (rs[k].2.map mk))), some (.imm (f k).1), some (.imm (f k).2)], none) :=
        set_of' (mCall_of (cons_of (ev_var rfl) (cons_of (mCall_of (cons_of (ev_var rfl) (cons_of (mCall_of (cons_of (mCall_of (cons_of (ev_var rfl) (cons_of (ev_var rfl) rfl)) d1) (cons_of (mCall_of (cons_of (ev_var rfl) (cons_of (ev_var rfl) rfl)) d2) rfl)) m1) rfl)) t1) rfl)) p1)
      have et : (List.range (k + 1)).map (wo rs nu ra qs) = (List.range k).map (wo rs nu ra qs) ++ [wo rs nu ra qs k] := by rw [List.range_succ, List.map_append]; rfl
      refine ⟨_, .nx, _, none, rfl, (sSq_nx e1).trans ?_, rfl, some (.imm (mk (wo rs nu ra qs k))), some (.imm (.tup (rs[k].1.map mk))), some (.imm (.tup (rs[k].2.map mk))), some (.imm (f k).1), some (.imm (f k).2), rfl⟩
      rw [et]
      cases hw : (List.range k).map (wo rs nu ra qs) with
      | nil =>
        exact set_of' rfl
      | cons w ws =>
        have hall : ∀ q ∈ w :: ws, Sz (A + (B + (4 * (Y + 5) + 11)) + 1) q := fun q hq' => by
          rw [← hw] at hq'
          obtain ⟨i, hi, rfl⟩ := List.mem_map.mp hq'
          exact hsz i (by have := List.mem_range.mp hi; omega)
        have sm : Sz (A + (B + (4 * (Y + 5) + 11)) + 1) (rmin w ws) := by
          rcases rmin_mem ws w with z | z
          · rw [z]; exact hall w List.mem_cons_self
          · exact hall _ (List.mem_cons_of_mem _ z)
        have l1 := law_less_sz (isR_mk (wo rs nu ra qs k)) (isR_mk (rmin w ws)) (hsz k hk) sm (by omega)
        have ei : isD (mk (rmin w ws)) .non = some (.bl false) := rfl
        refine set_of' ?_
        show mIte _ _ _ _ none = some (mk (rmin w (ws ++ [wo rs nu ra qs k])), none)
        rw [rmin_snoc]
        have eo : ∀ ρ : Lo, ρ[3]? = some (some (.imm (mk (rmin w ws)))) → ρ[4]? = some (some (.imm (mk (wo rs nu ra qs k)))) → mOr (mTst (mOp2 isD (mVarB 3) (mPure .non))) (mTst (mCall f_law_less (mCons (mVar 4) (mCons (mVar 3) (mPure []))))) ρ none = some (decide (wo rs nu ra qs k < rmin w ws), none) := fun ρ h3 h4 =>
          mOr_f (mTst_of (mOp2_of (ev_varB h3) rfl ei)) (mTst_of (mCall_of (cons_of (ev_var h4) (cons_of (ev_var h3) rfl)) l1))
        unfold mIte
        rw [eo _ rfl rfl]
        cases decide (wo rs nu ra qs k < rmin w ws) <;> rfl)
    (fun ρ S hI => by
      obtain ⟨rfl, b, c, d, e, g, rfl⟩ := hI
      rw [Nat.zero_add, hz]
      exact ⟨rfl, rfl, b, c, d, e, g, rfl⟩) [some (.imm (budD rs)), some (.imm (.tup ((List.range rs.length).map fun i => D.tup [(f i).1, (f i).2]))), some (.imm (.tup (qs.map mk))), some (.imm .non), none, none, none, none, none] none ⟨rfl, none, none, none, none, none, rfl⟩
  cases hw : (List.range rs.length).map (wo rs nu ra qs) with
  | nil =>
    have := congrArg List.length hw
    rw [List.length_map, List.length_range, List.length_nil] at this
    omega
  | cons w ws =>
    rw [hw] at e
    have hmem : ∀ q, q ∈ w :: ws ↔ ∃ i, i < rs.length ∧ wo rs nu ra qs i = q := fun q => by
      rw [← hw, List.mem_map]
      exact ⟨fun ⟨i, hi, e⟩ => ⟨i, List.mem_range.mp hi, e⟩, fun ⟨i, hi, e⟩ => ⟨i, List.mem_range.mpr hi, e⟩⟩
    have hmin := rmin_le ws w
    have hin : rmin w ws ∈ w :: ws := by
      rcases rmin_mem ws w with z | z
      · rw [z]; exact List.mem_cons_self
      · exact List.mem_cons_of_mem _ z
    obtain ⟨j, hj, ej⟩ := (hmem _).mp hin
    refine ⟨rmin w ws, ?_, ?_, fun i hi => ?_, j, hj, ej.symm⟩
    · have e0 : sSet 3 (mPure .non) (startL 9 [budD rs, .tup ((List.range rs.length).map fun i => D.tup [(f i).1, (f i).2]), .tup (qs.map mk)]) none = some (.nx, [some (.imm (budD rs)), some (.imm (.tup ((List.range rs.length).map fun i => D.tup [(f i).1, (f i).2]))), some (.imm (.tup (qs.map mk))), some (.imm .non), none, none, none, none, none], none) := rfl
      have hzip : mZip2 (mCons (mOp2 ixD (mVarB 0) (mPure (.int 1))) (mCons (mVar 1) (mPure []))) [some (.imm (budD rs)), some (.imm (.tup ((List.range rs.length).map fun i => D.tup [(f i).1, (f i).2]))), some (.imm (.tup (qs.map mk))), some (.imm .non), none, none, none, none, none] none = some (List.zipWith (fun a b => D.tup [a, b]) (rs.map rowD) ((List.range rs.length).map fun i => D.tup [(f i).1, (f i).2]), none) := rfl
      have worM : m_law_worth = (sSq (sSet 3 (mPure .non)) (sSq (sFor (mZip2 (mCons (mOp2 ixD (mVarB 0) (mPure (.int 1))) (mCons (mVar 1) (mPure [])))) (gTp 2 (gCns (gTp 2 (gCns (gNm 5) (gCns (gNm 6) gNl))) (gCns (gTp 2 (gCns (gNm 7) (gCns (gNm 8) gNl))) gNl))) wTurn) (sRet (mVar 3)))) := rfl
      have : m_law_worth (startL 9 [budD rs, .tup ((List.range rs.length).map fun i => D.tup [(f i).1, (f i).2]), .tup (qs.map mk)]) none = some (.rt (mk (rmin w ws)), [some (.imm (budD rs)), some (.imm (.tup ((List.range rs.length).map fun i => D.tup [(f i).1, (f i).2]))), some (.imm (.tup (qs.map mk))), some (.imm (mk (rmin w ws))), b, c, d, e', g], none) := by
        rw [worM]
        exact (sSq_nx e0).trans ((sSq_nx (for_of hzip e)).trans (sRet_of (ev_var rfl)))
      exact runP_rt rfl this
    · rw [← ej]; exact hsz j hj
    · have : wo rs nu ra qs i ∈ w :: ws := (hmem _).mpr ⟨i, hi, rfl⟩
      rcases List.mem_cons.mp this with z | z
      · rw [z]; exact hmin.1
      · exact hmin.2 _ z
end K35
namespace K35
open PySem PyProof.Rows L2 Dv

variable {ns : List Int} {a : Addr}
theorem ints_map : ∀ vs : List Int, intsD (vs.map D.int) = some vs
  | [] => rfl
  | v :: vs => by
    show (intsD (vs.map D.int)).map _ = _
    rw [ints_map vs]; rfl
theorem ints_gen {P : Int → Prop} : ∀ {ys : List D}, (∀ y ∈ ys, ∃ v : Int, y = .int v ∧ P v) → ∃ ws : List Int, ys = ws.map D.int ∧ ∀ w ∈ ws, P w
  | [], _ => ⟨[], rfl, fun _ h => by cases h⟩
  | y :: ys, h => by
    obtain ⟨v, rfl, hv⟩ := h y List.mem_cons_self
    obtain ⟨ws, rfl, hw⟩ := ints_gen (ys := ys) fun z hz => h z (List.mem_cons_of_mem _ hz)
    exact ⟨v :: ws, rfl, fun w hm => by
      (rcases List.mem_cons.mp hm with rfl | hm)
      · exact hv
      · exact hw w hm⟩
def rat (vs : List Int) : List Rat := vs.map fun v : Int => (v : Rat)
theorem worth_comm : ∀ (vs : List Int) (ps : List Rat), rsum ((vs.zip ps).map fun x => (x.1 : Rat) * x.2) = rdot ps (rat vs)
  | [], ps => by
    unfold rat
    cases ps <;> rfl
  | v :: vs, [] => rfl
  | v :: vs, p :: ps => by
    have e : rat (v :: vs) = (v : Rat) :: rat vs := rfl
    rw [e, rdot_cons, List.zip_cons_cons, List.map_cons, rsum_cons, worth_comm vs ps, Rat.mul_comm]
theorem rdot_scale (s : Rat) : ∀ p q : List Rat, rdot p (q.map (· * s)) = rdot p q * s
  | [], q => by show (0 : Rat) = 0 * s; grind
  | a :: p, [] => by show (0 : Rat) = 0 * s; grind
  | a :: p, b :: q => by
    rw [List.map_cons, rdot_cons, rdot_cons, rdot_scale s p q]
    grind
theorem rdot_zero : ∀ (p : List Rat) (n : Nat), rdot p (List.replicate n 0) = 0
  | [], n => by cases n <;> rfl
  | a :: p, 0 => rfl
  | a :: p, n + 1 => by
    rw [List.replicate_succ, rdot_cons, rdot_zero p n]; grind
theorem sum_pos : ∀ {vs : List Int}, (∀ v ∈ vs, 0 ≤ v) → vs.sum ≠ 0 → ∃ v ∈ vs, 0 < v
  | [], _, h => by simp at h
  | v :: vs, h0, h => by
    by_cases hv : 0 < v
    · exact ⟨v, List.mem_cons_self, hv⟩
    · have := h0 v List.mem_cons_self
      have hv0 : v = 0 := by omega
      subst hv0
      obtain ⟨w, hw, h2⟩ := sum_pos (vs := vs) (fun w hw => h0 w (List.mem_cons_of_mem _ hw)) (by simpa using h)
      exact ⟨w, List.mem_cons_of_mem _ hw, h2⟩
def half : Rat := ⟨1, 2, by decide, by decide⟩
/-- what is drawn: a bundle that costs no more -/
def BnR (ps : List Rat) (o : Rat) (x : D) : Prop := ∃ qs : List Rat, x = .tup (qs.map mk) ∧ (∀ q ∈ qs, Sz 41 q) ∧ rdot ps qs ≤ o
abbrev bn (a : Addr) (ps : List Rat) (o : Rat) (p w s x y : Option LV) : Lo := [some (.imm (.rng a)), some (.imm (.tup (ps.map mk))), some (.imm (mk o)), p, w, s, x, y]
theorem bunM_eq : m_law_bundle = (sSq (sSet 3 (mLc (mSeq (mVar 1)) [6] (gNm 6) (mPure true) (mCallR f_law_draw (mCons (mVar 0) (mCons (mPure (.int 4)) (mPure []))))))
  (sSq (sIf (mTst (mOp2 eqD (mCall sumD (mCons (mVarB 3) (mPure []))) (mPure (.int 0)))) (sRet (mOp2 mulT (mTup (mCons (mTup (mCons (mPure (.int 0)) (mCons (mPure (.int 1)) (mPure [])))) (mPure []))) (mCall lenD (mCons (mVarB 1) (mPure []))))) sNil)
  (sSq (sSet 4 (mCall f_law_sum (mCons (mLc (mZip2 (mCons (mVar 3) (mCons (mVar 1) (mPure [])))) [7, 6] (gTp 2 (gCns (gNm 7) (gCns (gNm 6) gNl))) (mPure true) (mCall f_law_times (mCons (mTup (mCons (mVar 7) (mCons (mPure (.int 1)) (mPure [])))) (mCons (mVar 6) (mPure []))))) (mPure []))))
  (sSq (sSet 5 (mCall f_law_times (mCons (mCall f_law_over (mCons (mVar 2) (mCons (mVar 4) (mPure [])))) (mCons (mCallR f_law_pick (mCons (mVar 0) (mCons (mLst (mCons (mTup (mCons (mPure (.int 1)) (mCons (mPure (.int 1)) (mPure [])))) (mCons (mTup (mCons (mPure (.int 1)) (mCons (mPure (.int 1)) (mPure [])))) (mCons (mTup (mCons (mPure (.int 1)) (mCons (mPure (.int 2)) (mPure [])))) (mPure []))))) (mPure [])))) (mPure [])))))
  (sRet (mCall tupleD (mCons (mLc (mSeq (mVar 3)) [7] (gNm 7) (mPure true) (mCall f_law_times (mCons (mTup (mCons (mVar 7) (mCons (mPure (.int 1)) (mPure [])))) (mCons (mVar 5) (mPure []))))) (mPure []))))))))  := rfl
theorem bundle_rf {ps : List Rat} {o : Rat} (h2 : 2 ≤ ps.length) (h4 : ps.length ≤ 4) (hp : ∀ q ∈ ps, 0 < q) (hs : ∀ q ∈ ps, Sz 4 q) (ho : 0 < o) (so : Sz 10 o) : RF ns a 10 f_law_bundle [.rng a, .tup (ps.map mk), mk o] (BnR ps o) := by
  refine rf_run rfl ?_
  rw [bunM_eq]
  refine RS.mono (k := 4 + 6) (rs_sq (P := fun ρ => ∃ vs : List Int, vs.length = ps.length ∧ (∀ v ∈ vs, 0 ≤ v ∧ v < 4) ∧ ρ = bn a ps o (some (.imm (.lst (vs.map D.int)))) none none none none) ?_ ?_) (by omega) fun _ _ h => h
  · refine RS.mono (k := (ps.map mk).length * 1) (rs_set (re_lc (ds := ps.map mk) (P := fun y => ∃ v : Int, y = .int v ∧ 0 ≤ v ∧ v < 4) (fun S => rfl) fun d hd => ⟨_, rfl, RE.mono (re_draw (R := 4) rfl re_cst (fun d e => ⟨4, e, by omega, by omega⟩) (by omega)) (by omega) fun _ h => h⟩)) (by rw [List.length_map]; omega) ?_
    rintro fl ρ' ⟨rfl, d, ⟨ys, rfl, hl, hy⟩, rfl⟩
    obtain ⟨vs, rfl, hv⟩ := ints_gen (P := fun v => 0 ≤ v ∧ v < 4) hy
    exact ⟨rfl, vs, by simpa using hl, hv, rfl⟩
  rintro ρ ⟨vs, hvl, hv, rfl⟩
  have et : ∀ S, mTst (mOp2 eqD (mCall sumD (mCons (mVarB 3) (mPure []))) (mPure (.int 0))) (bn a ps o (some (.imm (.lst (vs.map D.int)))) none none none none) S = some (decide (vs.sum = 0), S) := fun S => by
    have e : sumD [.lst (vs.map D.int)] = some (.int vs.sum) := by
      show (intsD (vs.map D.int)).map _ = _
      rw [ints_map]; rfl
    exact mTst_of (mOp2_of (mCall_of (cons_of (ev_varB rfl) rfl) e) rfl (eqD_int _ _))
  by_cases hz : vs.sum = 0
  · refine RS.mono (k := 0) (rs_pure (fl := .rt (.tup ((List.replicate ps.length (0 : Rat)).map mk))) (ρ' := bn a ps o (some (.imm (.lst (vs.map D.int)))) none none none none) (fun S => ?_) ⟨_, rfl, List.replicate ps.length 0, rfl, fun q hq => ?_, ?_⟩) (by omega) fun _ _ h => h
    · have e := et S
      rw [decide_eq_true hz] at e
      refine sSq_rt ?_
      rw [sIf_of e]
      simp only [if_true]
      have hl : lenD [.tup (ps.map mk)] = some (.int (ps.length : Nat)) := by rw [len_items rfl, List.length_map]
      have em : mulT (.tup [mk 0]) (.int (ps.length : Nat)) = some (.tup ((List.replicate ps.length (0 : Rat)).map mk)) := by
        have : mulT (.tup [mk 0]) (.int (ps.length : Nat)) = if ([mk 0] : List D).isEmpty = false ∧ 2 ≤ ((ps.length : Nat) : Int) ∧ ((ps.length : Nat) : Int) ≤ 1000 ∧ ([mk 0] : List D).length ≤ 1000 then some (.tup (List.replicate (((ps.length : Nat) : Int).toNat) [mk 0]).flatten) else none := rfl
        rw [this, if_pos ⟨rfl, by omega, by omega, by simp⟩, Int.toNat_natCast, List.map_replicate]
        congr 2
        induction ps.length with
        | zero => rfl
        | succ n ih => rw [List.replicate_succ, List.flatten_cons, ih]; rfl
      exact sRet_of (mOp2_of (tup_of (cons_of (tup_of (cons_of rfl (cons_of rfl rfl)) (by simp)) rfl) (by simp)) (mCall_of (cons_of (ev_varB rfl) rfl) hl) em)
    · rw [(List.mem_replicate.mp hq).2]; exact sz_zero.mono (by omega)
    · rw [rdot_zero]; exact Rat.le_of_lt ho
  refine rs_det (fun S => sIf_f (by have e := et S; rw [decide_eq_false hz] at e; exact e)) ?_
  -- the worth of the parts
  obtain ⟨w, hw⟩ : ∃ w, w = rdot ps (rat vs) := ⟨_, rfl⟩
  have hvr : ∀ q ∈ rat vs, 0 ≤ q ∧ Sz 2 q := fun q hq => by
    obtain ⟨v, hv', rfl⟩ := List.mem_map.mp hq
    have := hv v hv'
    exact ⟨Rat.intCast_nonneg.mpr this.1, ⟨by show v.natAbs ≤ 2 ^ 2; omega, by show 1 ≤ 2 ^ 2; omega⟩⟩
  have hrl : (rat vs).length = ps.length := by unfold rat; rw [List.length_map, hvl]
  have hw0 : 0 < w := by
    rw [hw]
    refine rdot_pos hrl.symm hp (fun q hq => (hvr q hq).1) ?_
    obtain ⟨v, hv1, hv2⟩ := sum_pos (fun v hv' => (hv v hv').1) hz
    refine ⟨(v : Rat), List.mem_map.mpr ⟨v, hv1, rfl⟩, ?_⟩
    refine (Rat.lt_iff _ _).mpr ?_
    show 0 * ((1 : Nat) : Int) < v * ((1 : Nat) : Int)
    omega
  have sw : Sz 28 w := by rw [hw]; exact (sz_dot hs (fun q hq => (hvr q hq).2) h4).mono (by omega)
  have el : ∀ S, lcGo (bn a ps o (some (.imm (.lst (vs.map D.int)))) none none none none) (gTp 2 (gCns (gNm 7) (gCns (gNm 6) gNl))) (mPure true) (mCall f_law_times (mCons (mTup (mCons (mVar 7) (mCons (mPure (.int 1)) (mPure [])))) (mCons (mVar 6) (mPure [])))) (List.zipWith (fun a b => D.tup [a, b]) (vs.map D.int) (ps.map mk)) S = some ((vs.zip ps).map (fun x => mk ((x.1 : Rat) * x.2)), S) := fun S =>
    lc_rel (fun x : Int × Rat => mk ((x.1 : Rat) * x.2)) (paired_zip (paired_mapL (R := fun d v => d = D.int v) (e := D.int) (fun _ => rfl) vs) (paired_mapL (R := fun d q => d = mk q) (e := mk) (fun _ => rfl) ps)) fun d x hd hm => by
      obtain ⟨u, v, rfl, rfl, rfl⟩ := hd
      have hm1 := (List.of_mem_zip (show (x.1, x.2) ∈ _ from hm)).1
      have hm2 := (List.of_mem_zip (show (x.1, x.2) ∈ _ from hm)).2
      have s1 := (hvr (x.1 : Rat) (List.mem_map.mpr ⟨x.1, hm1, rfl⟩)).2
      have t1 := law_times_sz (isR_mk (x.1 : Rat)) (isR_mk x.2) s1 (hs _ hm2) (by omega)
      exact ⟨bn a ps o (some (.imm (.lst (vs.map D.int)))) none none (some (.imm (mk x.2))) (some (.imm (.int x.1))), rfl, rfl, mCall_of (cons_of (tup_of (cons_of (ev_var rfl) (cons_of rfl rfl)) (by simp)) (cons_of (ev_var rfl) rfl)) t1⟩
  have esum : f_law_sum [.lst ((vs.zip ps).map fun x => mk ((x.1 : Rat) * x.2))] = some (mk w) := by
    have h := law_sumz_ev (X := 6) (rl_mk ((vs.zip ps).map fun x => (x.1 : Rat) * x.2)) (fun q hq => by
      obtain ⟨x, hx, rfl⟩ := List.mem_map.mp hq
      have hm1 := (List.of_mem_zip (show (x.1, x.2) ∈ _ from hx)).1
      have hm2 := (List.of_mem_zip (show (x.1, x.2) ∈ _ from hx)).2
      exact (hvr (x.1 : Rat) (List.mem_map.mpr ⟨x.1, hm1, rfl⟩)).2.mul (hs _ hm2)) (by rw [List.length_map, List.length_zip]; omega)
    rw [List.map_map, worth_comm, ← hw] at h
    exact h
  refine rs_det (ρ' := bn a ps o (some (.imm (.lst (vs.map D.int)))) (some (.imm (mk w))) none none none) (fun S => set_of' (mCall_of (cons_of (lc_of rfl (el S)) rfl) esum)) ?_
  refine RS.mono (k := 1 + 0) (rs_sq (P := fun ρ => ∃ f : Rat, 0 ≤ f ∧ f ≤ 1 ∧ Sz 1 f ∧ ρ = bn a ps o (some (.imm (.lst (vs.map D.int)))) (some (.imm (mk w))) (some (.imm (mk (o / w * f)))) none none) ?_ ?_) (by omega) fun _ _ h => h
  · have e1 := law_over_sz (isR_mk o) (isR_mk w) so sw hw0 (by omega)
    refine RS.mono (k := 0 + (0 + 1 + 0)) (rs_set (re_call (R := fun d => ∃ f : Rat, 0 ≤ f ∧ f ≤ 1 ∧ Sz 1 f ∧ d = mk (o / w * f)) (re_cons (re_pure (d := mk (o / w)) (P := fun d => d = mk (o / w)) (fun S => mCall_of (cons_of (ev_var rfl) (cons_of (ev_var rfl) rfl)) e1) rfl) (re_cons (re_pick (P := fun ds => ds = [mk 1, mk 1, mk half]) (Q := fun d => ∃ f : Rat, d = mk f ∧ 0 ≤ f ∧ f ≤ 1 ∧ Sz 1 f) rfl (re_pure (fun S => rfl) rfl) ?_) re_nil)) ?_)) (by omega) ?_
    · rintro ds rfl
      refine ⟨by simp, by simp, fun d hd => ?_⟩
      have h1 : ∃ f : Rat, mk 1 = mk f ∧ 0 ≤ f ∧ f ≤ 1 ∧ Sz 1 f := ⟨1, rfl, by decide, by decide, sz_one.mono (by omega)⟩
      simp only [List.mem_cons, List.not_mem_nil, or_false] at hd
      rcases hd with rfl | rfl | rfl
      · exact h1
      · exact h1
      · exact ⟨half, rfl, by decide, by decide, ⟨by decide, by decide⟩⟩
    · rintro ds ⟨d1, e1', rfl, rfl, d2, e2, rfl, ⟨f, rfl, f0, f1, sf⟩, rfl⟩
      exact ⟨_, law_times_sz (isR_mk (o / w)) (isR_mk f) (so.div sw hw0) sf (by omega), f, f0, f1, sf, rfl⟩
    · rintro fl ρ' ⟨rfl, d, ⟨f, f0, f1, sf, rfl⟩, rfl⟩
      exact ⟨rfl, f, f0, f1, sf, rfl⟩
  rintro ρ ⟨f, f0, f1, sf, rfl⟩
  have ss : Sz 39 (o / w * f) := ((so.div sw hw0).mul sf).mono (by omega)
  have el2 : ∀ S, lcGo (bn a ps o (some (.imm (.lst (vs.map D.int)))) (some (.imm (mk w))) (some (.imm (mk (o / w * f)))) none none) (gNm 7) (mPure true) (mCall f_law_times (mCons (mTup (mCons (mVar 7) (mCons (mPure (.int 1)) (mPure [])))) (mCons (mVar 5) (mPure [])))) (vs.map D.int) S = some (vs.map (fun v : Int => mk ((v : Rat) * (o / w * f))), S) := fun S =>
    lc_rel (R := fun d v => d = D.int v) (fun v : Int => mk ((v : Rat) * (o / w * f))) (paired_mapL (R := fun d v => d = D.int v) (e := D.int) (fun _ => rfl) vs) fun d v hd hm => by
      subst hd
      have s1 := (hvr (v : Rat) (List.mem_map.mpr ⟨v, hm, rfl⟩)).2
      have t1 := law_times_sz (isR_mk (v : Rat)) (isR_mk (o / w * f)) s1 ss (by omega)
      exact ⟨bn a ps o (some (.imm (.lst (vs.map D.int)))) (some (.imm (mk w))) (some (.imm (mk (o / w * f)))) none (some (.imm (.int v))), rfl, rfl, mCall_of (cons_of (tup_of (cons_of (ev_var rfl) (cons_of rfl rfl)) (by simp)) (cons_of (ev_var rfl) rfl)) t1⟩
  refine rs_pure (fl := .rt (.tup (((rat vs).map (· * (o / w * f))).map mk))) (ρ' := bn a ps o (some (.imm (.lst (vs.map D.int)))) (some (.imm (mk w))) (some (.imm (mk (o / w * f)))) none none) (fun S => ?_) ⟨_, rfl, (rat vs).map (· * (o / w * f)), rfl, fun q hq => ?_, ?_⟩
  · have e2 : ((rat vs).map (· * (o / w * f))).map mk = vs.map (fun v : Int => mk ((v : Rat) * (o / w * f))) := by unfold rat; rw [List.map_map, List.map_map]; rfl
    rw [e2]
    exact sRet_of (mCall_of (cons_of (lc_of (mSeq_of (ev_var rfl) rfl) (el2 S)) rfl) rfl)
  · obtain ⟨r, hr, rfl⟩ := List.mem_map.mp hq
    exact ((hvr r hr).2.mul ss).mono (by omega)
  · rw [rdot_scale, ← hw]
    have hne : w ≠ 0 := fun z => by rw [z] at hw0; exact Rat.lt_irrefl hw0
    have h1 : o / w * w = o := Rat.div_mul_cancel hne
    have h2 : w * (o / w * f) = o * f := by
      rw [← Rat.mul_assoc, Rat.mul_comm w, h1]
    rw [h2]
    have h3 := Rat.mul_le_mul_of_nonneg_left f1 (Rat.le_of_lt ho)
    rw [Rat.mul_one] at h3
    exact h3
end K35
namespace K35
open PySem PyProof.Rows L2 Dv

/-! ### the marks -/
structure Mk (q : Rat) : Prop where
  pos : 0 < q
  le : q ≤ 1
  sz : Sz 20 q
abbrev ks (x : D) (a : Option LV) (l f : List Rat) (b c d e : Option LV) : Lo := [some (.imm x), a, some (.imm (.lst (l.map mk))), some (.own (.lst (f.map mk))), b, c, d, e]
noncomputable def kIn : MS := (sSq (sSet 7 (mCall f_law_over (mCons (mOp2 ixD (mOp2 ixD (mVarB 0) (mVarB 1)) (mVarB 4)) (mCons (mOp2 ixD (mOp2 ixD (mVarB 0) (mVarB 1)) (mVarB 1)) (mPure [])))))
  (sSet 2 (mOp2 addL (mVarB 2) (mIte (mAnd (mTst (mOp2 neD (mVarB 1) (mVarB 4))) (mTst (mCall f_law_less (mCons (mVar 7) (mCons (mTup (mCons (mPure (.int 1)) (mCons (mPure (.int 1)) (mPure [])))) (mPure [])))))) (mLst (mCons (mVar 7) (mPure []))) (mLst (mPure []))))))
theorem tab3 {x : D} {n : Nat} {c : Nat → Nat → Rat} (ht : TabR x n c) {ρ : Lo} {a b : Nat} {i j : Nat} {S : Sg} (hi : i < n) (hj : j < n) (hx : ρ[0]? = some (some (.imm x))) (ha : ρ[a]? = some (some (.imm (.int (i : Nat))))) (hb : ρ[b]? = some (some (.imm (.int (j : Nat))))) : mOp2 ixD (mOp2 ixD (mVarB 0) (mVarB a)) (mVarB b) ρ S = some (mk (c i j), S) := by
  obtain ⟨r, e1, e2⟩ := ht i j hi hj
  exact mOp2_of (mOp2_of (ev_varB hx) (ev_varB ha) e1) (ev_varB hb) e2
section
variable {x : D} {n : Nat} {c : Nat → Nat → Rat}
theorem kin_ev (ht : TabR x n c) (hc : ∀ i j, i < n → j < n → Sz 10 (c i j) ∧ 0 < c i j) {i j : Nat} (hi : i < n) (hj : j < n) {l : List Rat} (hl : ∀ q ∈ l, Mk q) (h0 : l ≠ []) (hlen : l.length ≤ 1000) {b d e : Option LV} :
    ∃ l' e', kIn (ks x (some (.imm (.int (i : Nat)))) l [] (some (.imm (.int (j : Nat)))) b d e) none = some (.nx, ks x (some (.imm (.int (i : Nat)))) l' [] (some (.imm (.int (j : Nat)))) b d e', none) ∧ (∀ q ∈ l', Mk q) ∧ l' ≠ [] ∧ l'.length ≤ l.length + 1 := by
  have o1 := law_over_sz (isR_mk (c i j)) (isR_mk (c i i)) (hc i j hi hj).1 (hc i i hi hi).1 (hc i i hi hi).2 (by omega)
  have s1 : Sz 20 (c i j / c i i) := (hc i j hi hj).1.div (hc i i hi hi).1 (hc i i hi hi).2
  have l1 := law_less_sz (isR_mk (c i j / c i i)) (isR_mk 1) s1 sz_one (by omega)
  have e1 : sSet 7 (mCall f_law_over (mCons (mOp2 ixD (mOp2 ixD (mVarB 0) (mVarB 1)) (mVarB 4)) (mCons (mOp2 ixD (mOp2 ixD (mVarB 0) (mVarB 1)) (mVarB 1)) (mPure [])))) (ks x (some (.imm (.int (i : Nat)))) l [] (some (.imm (.int (j : Nat)))) b d e) none = some (.nx, ks x (some (.imm (.int (i : Nat)))) l [] (some (.imm (.int (j : Nat)))) b d (some (.imm (mk (c i j / c i i)))), none) :=
    set_of' (mCall_of (cons_of (tab3 ht hi hj rfl rfl rfl) (cons_of (tab3 ht hi hi rfl rfl rfl) rfl)) o1)
  have e2 : mAnd (mTst (mOp2 neD (mVarB 1) (mVarB 4))) (mTst (mCall f_law_less (mCons (mVar 7) (mCons (mTup (mCons (mPure (.int 1)) (mCons (mPure (.int 1)) (mPure [])))) (mPure []))))) (ks x (some (.imm (.int (i : Nat)))) l [] (some (.imm (.int (j : Nat)))) b d (some (.imm (mk (c i j / c i i))))) none = some (decide ((i : Int) ≠ (j : Int)) && decide (c i j / c i i < 1), none) :=
    and_of (mTst_of (mOp2_of (ev_varB rfl) (ev_varB rfl) (neD_int _ _))) (mTst_of (mCall_of (cons_of (ev_var rfl) (cons_of (tup_of (cons_of rfl (cons_of rfl rfl)) (by simp)) rfl)) l1))
  have hpos : 0 < c i j / c i i := by
    rw [Rat.div_def]
    exact Rat.mul_pos (hc i j hi hj).2 (Rat.inv_pos.mpr (hc i i hi hi).2)
  cases hb : (decide ((i : Int) ≠ (j : Int)) && decide (c i j / c i i < 1)) with
  | true =>
    rw [hb] at e2
    simp only [Bool.and_eq_true, decide_eq_true_eq] at hb
    refine ⟨l ++ [c i j / c i i], some (.imm (mk (c i j / c i i))), (sSq_nx e1).trans ?_, fun q hq => ?_, by simp, by simp⟩
    · have ea := addL_ev (xs := l.map mk) (ys := [mk (c i j / c i i)]) (by rw [List.length_map]; simp; omega)
      have e3 : l.map mk ++ [mk (c i j / c i i)] = (l ++ [c i j / c i i]).map mk := by rw [List.map_append]; rfl
      rw [e3] at ea
      refine set_of' (mOp2_of (ev_varB rfl) ?_ ea)
      unfold mIte
      rw [e2]
      rfl
    · rcases List.mem_append.mp hq with z | z
      · exact hl q z
      · (rw [List.mem_singleton.mp z]); exact ⟨hpos, Rat.le_of_lt hb.2, s1⟩
  | false =>
    rw [hb] at e2
    refine ⟨l, some (.imm (mk (c i j / c i i))), (sSq_nx e1).trans ?_, hl, h0, by omega⟩
    have ea := addL_ev (xs := l.map mk) (ys := []) (by rw [List.length_map]; simp; omega)
    rw [List.append_nil] at ea
    refine set_of' (mOp2_of (ev_varB rfl) ?_ ea)
    unfold mIte
    rw [e2]
    rfl
theorem krow_ev (ht : TabR x n c) (hc : ∀ i j, i < n → j < n → Sz 10 (c i j) ∧ 0 < c i j) (hl : lenD [x] = some (.int (n : Nat))) (hn : n ≤ 20) {i : Nat} (hi : i < n) {l : List Rat} (hq : ∀ q ∈ l, Mk q) (h0 : l ≠ []) (hlen : l.length ≤ 1 + i * n) {b d e g : Option LV} :
    ∃ l' b' e', sFor (mRg1 (mCons (mCall lenD (mCons (mVarB 0) (mPure []))) (mPure []))) (gNm 4) kIn (ks x (some (.imm (.int (i : Nat)))) l [] b d e g) none = some (.nx, ks x (some (.imm (.int (i : Nat)))) l' [] b' d e e', none) ∧ (∀ q ∈ l', Mk q) ∧ l' ≠ [] ∧ l'.length ≤ 1 + (i + 1) * n := by
  have hin : (i + 1) * n ≤ 20 * 20 := Nat.mul_le_mul (by omega) hn
  have hs : (i + 1) * n = i * n + n := Nat.succ_mul i n
  obtain ⟨fl, ρ', S', e1, rfl, rfl, l', b', e', rfl, h1, h2, h3⟩ := for_run (g := gNm 4) (ms := kIn) (ds := rangeL 0 n) (P := fun fl ρ S => fl = .nx ∧ S = none ∧ ∃ l' b' e', ρ = ks x (some (.imm (.int (i : Nat)))) l' [] b' d e e' ∧ (∀ q ∈ l', Mk q) ∧ l' ≠ [] ∧ l'.length ≤ 1 + i * n + n)
    (Inv := fun t ρ S => S = none ∧ ∃ l' b' e', ρ = ks x (some (.imm (.int (i : Nat)))) l' [] b' d e e' ∧ (∀ q ∈ l', Mk q) ∧ l' ≠ [] ∧ l'.length ≤ 1 + i * n + t) 0
    (fun t dd ρ S hd hI => by
      obtain ⟨hj, rfl⟩ := rangeL_get hd
      obtain ⟨rfl, l', b', e', rfl, h1, h2, h3⟩ := hI
      rw [Nat.zero_add] at h3 ⊢
      obtain ⟨l2, e2, e3, h4, h5, h6⟩ := kin_ev ht hc hi hj h1 h2 (by omega) (b := d) (d := e) (e := e')
      exact ⟨_, .nx, _, none, rfl, e3, rfl, l2, _, _, rfl, h4, h5, by omega⟩)
    (fun ρ S hI => by
      obtain ⟨rfl, l', b', e', rfl, h1, h2, h3⟩ := hI
      rw [Nat.zero_add, rangeL_len] at h3
      exact ⟨rfl, rfl, l', b', e', rfl, h1, h2, h3⟩) (ks x (some (.imm (.int (i : Nat)))) l [] b d e g) none ⟨rfl, l, b, g, rfl, hq, h0, by omega⟩
  exact ⟨l', b', e', for_of (rg_ev (ev_varB rfl) hl (by omega)) e1, h1, h2, by omega⟩
noncomputable def kTurn : MS := (sSq (sSet 5 (mOp2 ixD (mVarB 2) (mPure (.int 0))))
  (sSq (sFor (mSeq (mVar 2)) (gNm 6) (sSet 5 (mIte (mTst (mCall f_law_less (mCons (mVar 6) (mCons (mVar 5) (mPure []))))) (mVar 6) (mVar 5))))
  (sSq (sApp 3 (mVar 5))
  (sSet 2 (mLc (mSeq (mVar 2)) [6] (gNm 6) (mTst (mOp2 neD (mVarB 6) (mVarB 5))) (mVar 6))))))
theorem kturn_ev {a b d e g : Option LV} {l f : List Rat} (hl : ∀ q ∈ l, Mk q) (h0 : l ≠ []) (hf : f.length < 1000000) :
    ∃ low d' e', low ∈ l ∧ kTurn (ks x a l f b d e g) none = some (.nx, ks x a (l.filter fun q => !decide (q = low)) (f ++ [low]) b d' e' g, none) := by
  obtain ⟨q0, l0, rfl⟩ := List.exists_cons_of_ne_nil h0
  have e1 : sSet 5 (mOp2 ixD (mVarB 2) (mPure (.int 0))) (ks x a (q0 :: l0) f b d e g) none = some (.nx, ks x a (q0 :: l0) f b (some (.imm (mk q0))) e g, none) := set_of' (mOp2_of (ev_varB rfl) rfl (ix_nat (n := 0) rfl rfl))
  obtain ⟨fl, ρ', S', e2, rfl, rfl, low, e', rfl, hm⟩ := for_run (g := gNm 6) (ms := (sSet 5 (mIte (mTst (mCall f_law_less (mCons (mVar 6) (mCons (mVar 5) (mPure []))))) (mVar 6) (mVar 5)))) (ds := (q0 :: l0).map mk) (P := fun fl ρ S => fl = .nx ∧ S = none ∧ ∃ low e', ρ = ks x a (q0 :: l0) f b (some (.imm (mk low))) e' g ∧ low ∈ q0 :: l0)
    (Inv := fun t ρ S => S = none ∧ ∃ low e', ρ = ks x a (q0 :: l0) f b (some (.imm (mk low))) e' g ∧ low ∈ q0 :: l0) 0
    (fun t dd ρ S hd hI => by
      obtain ⟨rfl, low, e', rfl, hm⟩ := hI
      rw [List.getElem?_map] at hd
      obtain ⟨q, hq, rfl⟩ := Option.map_eq_some_iff.mp hd
      have hqm := List.mem_of_getElem? hq
      have l1 := law_less_sz (isR_mk q) (isR_mk low) (hl q hqm).sz (hl low hm).sz (by omega)
      have et : mTst (mCall f_law_less (mCons (mVar 6) (mCons (mVar 5) (mPure [])))) (ks x a (q0 :: l0) f b (some (.imm (mk low))) (some (.imm (mk q))) g) none = some (decide (q < low), none) := mTst_of (mCall_of (cons_of (ev_var rfl) (cons_of (ev_var rfl) rfl)) l1)
      refine ⟨_, .nx, ks x a (q0 :: l0) f b (some (.imm (mk (if decide (q < low) then q else low)))) (some (.imm (mk q))) g, none, rfl, ?_, rfl, _, _, rfl, ?_⟩
      · show sSet 5 _ (ks x a (q0 :: l0) f b (some (.imm (mk low))) (some (.imm (mk q))) g) none = _
        unfold sSet mIte
        rw [et]
        cases decide (q < low) <;> rfl
      · split
        · exact hqm
        · exact hm)
    (fun ρ S hI => by
      obtain ⟨rfl, low, e', rfl, hm⟩ := hI
      exact ⟨rfl, rfl, low, e', rfl, hm⟩) (ks x a (q0 :: l0) f b (some (.imm (mk q0))) e g) none ⟨rfl, q0, e, rfl, List.mem_cons_self⟩
  have e3 := app_of (i := 3) (m := mVar 5) (ρ := ks x a (q0 :: l0) f b (some (.imm (mk low))) e' g) (S := none) rfl (ev_var rfl) (by rw [List.length_map]; exact hf)
  have e4 : f.map mk ++ [mk low] = (f ++ [low]).map mk := by rw [List.map_append]; rfl
  rw [e4] at e3
  refine ⟨low, some (.imm (mk low)), e', hm, (sSq_nx e1).trans ((sSq_nx (for_of (mSeq_of (ev_var rfl) rfl) e2)).trans ((sSq_nx e3).trans (set_of' (lc_of (mSeq_of (ev_var rfl) rfl) ?_))))⟩
  exact lc_if (R := fun d q => d = mk q) (fun q => !decide (q = low)) mk (paired_mapL (R := fun d q => d = mk q) (e := mk) (fun _ => rfl) (q0 :: l0)) fun d q hd hq => by
    subst hd
    exact ⟨ks x a (q0 :: l0) (f ++ [low]) b (some (.imm (mk low))) (some (.imm (mk q))) g, rfl, mTst_of (mOp2_of (ev_varB rfl) (ev_varB rfl) (ne_of_eq (eq_mk q low))), fun _ => ev_var rfl⟩
theorem mks_nil (l : List Rat) : neD (.lst (l.map mk)) (.lst []) = some (.bl (decide (l ≠ []))) := by
  rw [(eq_lst_nil (n := 1) (fun d hd => by obtain ⟨q, _, rfl⟩ := List.mem_map.mp hd; exact dp_mk 0 q) (by omega)).2]
  have : (l.map mk) ≠ [] ↔ l ≠ [] := by rw [ne_eq, List.map_eq_nil_iff]
  rw [decide_eq_decide.mpr this]
theorem marM_eq : m_law_ds_marks = (sSq (sPar2 2 3 false (mLst (mCons (mTup (mCons (mPure (.int 1)) (mCons (mPure (.int 1)) (mPure [])))) (mPure []))) true (mLst (mPure [])))
  (sSq (sFor (mRg1 (mCons (mCall lenD (mCons (mVarB 0) (mPure []))) (mPure []))) (gNm 1) (sFor (mRg1 (mCons (mCall lenD (mCons (mVarB 0) (mPure []))) (mPure []))) (gNm 4) kIn))
  (sSq (sWh (mTst (mOp2 neD (mVarB 2) (mLst (mPure [])))) kTurn)
  (sFrz 3 (sRet (mVar 3)))))) := rfl
theorem marks_ev (ht : TabR x n c) (hc : ∀ i j, i < n → j < n → Sz 10 (c i j) ∧ 0 < c i j) (hl : lenD [x] = some (.int (n : Nat))) (hn : n ≤ 20) : ∃ f : List Rat, f_law_ds_marks [x] = some (.lst (f.map mk)) ∧ f ≠ [] ∧ f.length ≤ 1000 ∧ ∀ q ∈ f, Mk q := by
  have hnn : n * n ≤ 20 * 20 := Nat.mul_le_mul hn hn
  have e1 : sPar2 2 3 false (mLst (mCons (mTup (mCons (mPure (.int 1)) (mCons (mPure (.int 1)) (mPure [])))) (mPure []))) true (mLst (mPure [])) (startL 8 [x]) none = some (.nx, ks x none [1] [] none none none none, none) := rfl
  obtain ⟨fl, ρ', S', e2, rfl, rfl, a, l, b, g, rfl, h1, h2, h3⟩ := for_run (g := gNm 1) (ms := sFor (mRg1 (mCons (mCall lenD (mCons (mVarB 0) (mPure []))) (mPure []))) (gNm 4) kIn) (ds := rangeL 0 n) (P := fun fl ρ S => fl = .nx ∧ S = none ∧ ∃ a l b g, ρ = ks x a l [] b none none g ∧ (∀ q ∈ l, Mk q) ∧ l ≠ [] ∧ l.length ≤ 1 + n * n)
    (Inv := fun t ρ S => S = none ∧ ∃ a l b g, ρ = ks x a l [] b none none g ∧ (∀ q ∈ l, Mk q) ∧ l ≠ [] ∧ l.length ≤ 1 + t * n) 0
    (fun t dd ρ S hd hI => by
      obtain ⟨hi, rfl⟩ := rangeL_get hd
      obtain ⟨rfl, a, l, b, g, rfl, h1, h2, h3⟩ := hI
      rw [Nat.zero_add] at h3 ⊢
      obtain ⟨l', b', g', e, h4, h5, h6⟩ := krow_ev ht hc hl hn hi h1 h2 h3 (b := b) (d := none) (e := none) (g := g)
      exact ⟨_, .nx, _, none, rfl, e, rfl, _, l', b', g', rfl, h4, h5, h6⟩)
    (fun ρ S hI => by
      obtain ⟨rfl, a, l, b, g, rfl, h1, h2, h3⟩ := hI
      rw [Nat.zero_add, rangeL_len] at h3
      exact ⟨rfl, rfl, a, l, b, g, rfl, h1, h2, h3⟩) (ks x none [1] [] none none none none) none ⟨rfl, none, [1], none, none, rfl, fun q hq => by rw [List.mem_singleton.mp hq]; exact ⟨by decide, by decide, sz_one.mono (by omega)⟩, by simp, by simp⟩
  obtain ⟨ρ', e3, f, d, e, rfl, hf, hf0, hfl⟩ := while_run (t := mTst (mOp2 neD (mVarB 2) (mLst (mPure [])))) (m := kTurn) (S := none) (fun (s : List Rat × List Rat) ρ => (∀ q ∈ s.1, Mk q) ∧ (∀ q ∈ s.2, Mk q) ∧ (s.1 ≠ [] ∨ s.2 ≠ []) ∧ s.1.length + s.2.length ≤ 1000 ∧ ∃ d e, ρ = ks x a s.1 s.2 b d e g) (fun s => s.1.length)
    (fun ρ => ∃ f d e, ρ = ks x a [] f b d e g ∧ (∀ q ∈ f, Mk q) ∧ f ≠ [] ∧ f.length ≤ 1000) (fun s ρ hI => by
      obtain ⟨l, f⟩ := s
      obtain ⟨k1, k2, k3, k4, d, e, rfl⟩ := hI
      dsimp only at k1 k2 k3 k4
      have et : mTst (mOp2 neD (mVarB 2) (mLst (mPure []))) (ks x a l f b d e g) none = some (decide (l ≠ []), none) := mTst_of (mOp2_of (ev_varB rfl) rfl (mks_nil l))
      by_cases h0 : l = []
      · subst h0
        exact .inl ⟨et, f, d, e, rfl, k2, k3.resolve_left (fun z => z rfl), by simpa using k4⟩
      · refine .inr ⟨by rw [decide_eq_true h0] at et; exact et, ?_⟩
        obtain ⟨low, d', e', hm, e5⟩ := kturn_ev (x := x) (a := a) (b := b) (d := d) (e := e) (g := g) k1 h0 (f := f) (by omega)
        have hlt : (l.filter fun q => !decide (q = low)).length < l.length := List.length_filter_lt_length_iff_exists.mpr ⟨low, hm, by simp⟩
        refine ⟨.nx, _, (l.filter fun q => !decide (q = low), f ++ [low]), e5, .inl rfl, ⟨fun q hq => k1 q (List.mem_filter.mp hq).1, fun q hq => ?_, .inr (by simp), ?_, d', e', rfl⟩, hlt⟩
        · rcases List.mem_append.mp hq with z | z
          · exact k2 q z
          · rw [List.mem_singleton.mp z]; exact k1 low hm
        · simp only [List.length_append, List.length_cons, List.length_nil]
          omega) (l, []) (ks x a l [] b none none g) ⟨h1, fun _ h => (by cases h), .inl h2, by simp; omega, none, none, rfl⟩
  refine ⟨f, ?_, hf0, hfl, hf⟩
  have e4 : sFrz 3 (sRet (mVar 3)) (ks x a [] f b d e g) none = some (.rt (.lst (f.map mk)), [some (.imm x), a, some (.imm (.lst [])), some (.imm (.lst (f.map mk))), b, d, e, g], none) := rfl
  have : m_law_ds_marks (startL 8 [x]) none = some (.rt (.lst (f.map mk)), [some (.imm x), a, some (.imm (.lst [])), some (.imm (.lst (f.map mk))), b, d, e, g], none) := by
    rw [marM_eq]
    exact (sSq_nx e1).trans ((sSq_nx (for_of (rg_ev (ev_varB rfl) hl (by omega)) e2)).trans ((sSq_nx e3).trans e4))
  exact runP_rt rfl this
end
/-! ### a drawn share -/
def mil : Rat := ⟨1, 1000000, by decide, by decide⟩
def svn : Rat := ⟨1, 7, by decide, by decide⟩
def ShR (d : D) : Prop := ∃ s : Rat, d = mk s ∧ 0 ≤ s ∧ s ≤ 1 ∧ Sz 62 s
variable {ns : List Int} {a : Addr}
theorem part_rf {x : D} {n : Nat} {c : Nat → Nat → Rat} (ht : TabR x n c) (hc : ∀ i j, i < n → j < n → Sz 10 (c i j) ∧ 0 < c i j) (hl : lenD [x] = some (.int (n : Nat))) (hn : n ≤ 20) : RF ns a 4 f_law_ds_part [.rng a, x] ShR := by
  obtain ⟨f, ef, f0, fl, fm⟩ := marks_ev ht hc hl hn
  refine rf_run rfl ?_
  refine rs_det (ρ' := [some (.imm (.rng a)), some (.imm x), some (.imm (.lst (f.map mk))), none, none, none, none]) (fun S => set_of' (mCall_of (cons_of (ev_var rfl) rfl) ef)) ?_
  refine RS.mono (k := 2 + 2) (rs_sq (P := fun ρ => ∃ q s : Rat, Mk q ∧ 0 ≤ s ∧ s ≤ 1 ∧ Sz 20 s ∧ ρ = [some (.imm (.rng a)), some (.imm x), some (.imm (.lst (f.map mk))), none, none, some (.imm (mk q)), some (.imm (mk s))]) ?_ ?_) (by omega) fun _ _ h => h
  · refine RS.mono (k := (0 + (0 + 0) + 1) + (0 + 1)) (rs_par2 (P := fun d => ∃ q, d = mk q ∧ Mk q) (Q := fun d => ∃ s : Rat, d = mk s ∧ 0 ≤ s ∧ s ≤ 1 ∧ Sz 20 s) (re_callR (k' := 1) (re_cons (re_var (d := .rng a)) (re_cons (re_var (d := .lst (f.map mk))) re_nil)) ?_) (re_pick (P := fun ds => ds = [mk mil, mk svn]) rfl (re_pure (fun S => rfl) rfl) ?_)) (by omega) ?_
    · rintro ds ⟨d1, e1, rfl, rfl, d2, e2, rfl, rfl, rfl⟩
      refine (rf_pick (by simpa using f0) (by rw [List.length_map]; exact fl)).mono (Nat.le_refl _) fun d hd => ?_
      (obtain ⟨q, hq, rfl⟩ := List.mem_map.mp hd); exact ⟨q, rfl, fm q hq⟩
    · rintro ds rfl
      refine ⟨by simp, by simp, fun d hd => ?_⟩
      simp only [List.mem_cons, List.not_mem_nil, or_false] at hd
      rcases hd with rfl | rfl
      · exact ⟨mil, rfl, by decide, by decide, ⟨by decide, by decide⟩⟩
      · exact ⟨svn, rfl, by decide, by decide, ⟨by decide, by decide⟩⟩
    · rintro fl ρ' ⟨rfl, d, e, ⟨q, rfl, hq⟩, ⟨s, rfl, s0, s1, ss⟩, rfl⟩
      exact ⟨rfl, q, s, hq, s0, s1, ss, rfl⟩
  rintro ρ ⟨q, s, hq, s0, s1, ss, rfl⟩
  -- below
  have t1 := law_times_sz (isR_mk s) (isR_mk q) ss hq.sz (by omega)
  have m1 := law_minus_sz (isR_mk q) (isR_mk (s * q)) hq.sz (ss.mul hq.sz) (by omega)
  refine rs_det (ρ' := [some (.imm (.rng a)), some (.imm x), some (.imm (.lst (f.map mk))), some (.imm (mk (q - s * q))), none, some (.imm (mk q)), some (.imm (mk s))]) (fun S => set_of' (mCall_of (cons_of (ev_var rfl) (cons_of (mCall_of (cons_of (ev_var rfl) (cons_of (ev_var rfl) rfl)) t1) rfl)) m1)) ?_
  have m2 := law_minus_sz (isR_mk 1) (isR_mk q) sz_one hq.sz (by omega)
  have t2 := law_times_sz (isR_mk s) (isR_mk (1 - q)) ss (sz_one.sub hq.sz) (by omega)
  have p1 := law_plus_sz (isR_mk q) (isR_mk (s * (1 - q))) hq.sz (ss.mul (sz_one.sub hq.sz)) (by omega)
  refine rs_det (ρ' := [some (.imm (.rng a)), some (.imm x), some (.imm (.lst (f.map mk))), some (.imm (mk (q - s * q))), some (.imm (mk (q + s * (1 - q)))), some (.imm (mk q)), some (.imm (mk s))]) (fun S => set_of' (mCall_of (cons_of (ev_var rfl) (cons_of (mCall_of (cons_of (ev_var rfl) (cons_of (mCall_of (cons_of (tup_of (cons_of rfl (cons_of rfl rfl)) (by simp)) (cons_of (ev_var rfl) rfl)) m2) rfl)) t2) rfl)) p1)) ?_
  have hq0 := Rat.le_of_lt hq.pos
  have h1q : 0 ≤ 1 - q := by have := hq.le; grind
  have hsq : s * q ≤ 1 * q := Rat.mul_le_mul_of_nonneg_right s1 hq0
  have hsq0 : 0 ≤ s * q := Rat.mul_nonneg s0 hq0
  have hs1 : s * (1 - q) ≤ 1 * (1 - q) := Rat.mul_le_mul_of_nonneg_right s1 h1q
  have hs10 : 0 ≤ s * (1 - q) := Rat.mul_nonneg s0 h1q
  have r1 : ShR (mk q) := ⟨q, rfl, hq0, hq.le, hq.sz.mono (by omega)⟩
  have r2 : ShR (mk (q - s * q)) := ⟨_, rfl, by grind, by have := hq.le; grind, (hq.sz.sub (ss.mul hq.sz)).mono (by omega)⟩
  have r3 : ShR (mk (q + s * (1 - q))) := ⟨_, rfl, by grind, by grind, (hq.sz.add (ss.mul (sz_one.sub hq.sz))).mono (by omega)⟩
  have r4 : ShR (mk 1) := ⟨1, rfl, by decide, by decide, sz_one.mono (by omega)⟩
  have r5 : ShR (mk 0) := ⟨0, rfl, by decide, by decide, sz_zero.mono (by omega)⟩
  refine RS.mono (k := (0 + (0 + (0 + (0 + (0 + ((0 + 1 + (0 + 0)) + 0)))))) + 1) (rs_ret (re_pick (P := fun ds => ds ≠ [] ∧ ds.length ≤ 1000 ∧ ∀ d ∈ ds, ShR d) (Q := ShR) rfl (RE.mono (re_cons (P := ShR) (re_pure (d := mk q) (fun S => ev_var rfl) r1) (re_cons (P := ShR) (re_pure (d := mk (q - s * q)) (fun S => ev_var rfl) r2) (re_cons (P := ShR) (re_pure (d := mk (q + s * (1 - q))) (fun S => ev_var rfl) r3) (re_cons (P := ShR) (re_pure (d := mk 1) (fun S => rfl) r4) (re_cons (P := ShR) (re_pure (d := mk 0) (fun S => rfl) r5) (re_cons (P := ShR) (re_call (re_cons (re_draw (R := 8) rfl re_cst (fun d e => ⟨8, e, by omega, by omega⟩) (by omega)) (re_cons re_cst re_nil)) ?_) re_nil)))))) (Nat.le_refl _) ?_) ?_)) (by omega) fun _ _ h => h
  · rintro ds ⟨d1, e1, rfl, ⟨v, rfl, v0, v1⟩, d2, e2, rfl, rfl, rfl⟩
    refine ⟨mk (mkRat v 7), q_small (k := 7) (by omega) (by omega), mkRat v 7, rfl, mkRat_nonneg' (by omega) (by omega), ?_, sz_mk (by omega) (by show v.natAbs ≤ 2 ^ 62; omega) (by decide)⟩
    have h7 : mkRat v 7 ≤ mkRat 7 7 := by
      have hv : v = 0 ∨ v = 1 ∨ v = 2 ∨ v = 3 ∨ v = 4 ∨ v = 5 ∨ v = 6 ∨ v = 7 := by omega
      rcases hv with rfl | rfl | rfl | rfl | rfl | rfl | rfl | rfl <;> decide
    have : mkRat 7 7 = 1 := by decide
    rw [this] at h7
    exact h7
  · rintro ds h
    obtain ⟨d1, e1, rfl, h1, d2, e2, rfl, h2, d3, e3, rfl, h3, d4, e4, rfl, h4, d5, e5, rfl, h5, d6, e6, rfl, h6, rfl⟩ := h
    refine ⟨by simp, by simp, fun d hd => ?_⟩
    simp only [List.mem_cons, List.not_mem_nil, or_false] at hd
    rcases hd with rfl | rfl | rfl | rfl | rfl | rfl <;> assumption
  · intro ds h
    exact h
end K35
namespace K35
open PySem PyProof.Rows L2 Dv
open BW (Reach)

theorem sh_num : SeqAt.shaped (.str "numbers") = true := by decide +kernel
def thalf : Rat := ⟨3, 2, by decide, by decide⟩
def hundred : Rat := ⟨99, 100, by decide, by decide⟩
def knR : List Row := [([1, 2], [1, 1]), ([2, 1], [thalf, 0])]
theorem kn_rows : ∀ r ∈ knR, RowD 2 r := by
  have i1 : InD 2 12 (1 : Rat) := inD2_int (v := 1) (by omega) (by omega)
  have i2 : InD 2 12 (2 : Rat) := inD2_int (v := 2) (by omega) (by omega)
  have i0 : InD 2 12 (0 : Rat) := inD_zero.mono (by omega)
  have ih : InD 2 12 thalf := ⟨3, by decide, by decide⟩
  intro r hr
  simp only [knR, List.mem_cons, List.not_mem_nil, or_false] at hr
  rcases hr with rfl | rfl
  · refine ⟨⟨rfl, rfl, fun q hq => ?_, fun q hq => ?_, ⟨1, List.mem_cons_self, by decide⟩⟩, ⟨by simp, by simp, by simp, fun q hq => ?_, fun q hq => ?_⟩⟩ <;>
      simp only [List.mem_cons, List.not_mem_nil, or_false] at hq <;> rcases hq with rfl | rfl <;> first | decide | assumption
  · refine ⟨⟨rfl, rfl, fun q hq => ?_, fun q hq => ?_, ⟨thalf, List.mem_cons_self, by decide⟩⟩, ⟨by simp, by simp, by simp, fun q hq => ?_, fun q hq => ?_⟩⟩ <;>
      simp only [List.mem_cons, List.not_mem_nil, or_false] at hq <;> rcases hq with rfl | rfl <;> first | decide | assumption
theorem bud_of {g : Nat} {rs : List Row} (g2 : 2 ≤ g) (g4 : g ≤ 4) (h1 : 1 ≤ rs.length) (h6 : rs.length ≤ 6) (hr : ∀ r ∈ rs, RowD g r) : BudR (budD rs) rs g := ⟨⟨rs.map rowD, rfl, paired_row rs⟩, h1, by omega, fun r h => (hr r h).p, g2, g4⟩
theorem kn_bud : BudR (budD knR) knR 2 := bud_of (by omega) (by omega) (by decide) (by decide) kn_rows
theorem kn_00 : co knR 0 0 = 3 := by decide +kernel
theorem kn_01 : co knR 0 1 = thalf := by decide +kernel
theorem kn_10 : co knR 1 0 = 3 := by decide +kernel
theorem kn_11 : co knR 1 1 = 3 := by decide +kernel
theorem kn_costs : costsT knR = .tup [.tup [mk 3, mk thalf], .tup [mk 3, mk 3]] := by
  have a := kn_00
  have b := kn_01
  have c := kn_10
  have d := kn_11
  show D.tup [.tup [mk (co knR 0 0), mk (co knR 0 1)], .tup [mk (co knR 1 0), mk (co knR 1 1)]] = _
  rw [a, b, c, d]
theorem ring_1 : HasRing (Er (co knR) 1) (Sr (co knR) 1) 2 := by
  refine ⟨0, 1, by omega, by omega, by decide +kernel, .step .refl ?_ (by omega)⟩
  decide +kernel
theorem ring_h : ¬ HasRing (Er (co knR) half) (Sr (co knR) half) 2 := by
  rintro ⟨i, j, hi, hj, h1, h2⟩
  have hi' : i = 0 ∨ i = 1 := by omega
  have hj' : j = 0 ∨ j = 1 := by omega
  have e00 : Sr (co knR) half 0 0 = false := by decide +kernel
  have e01 : Sr (co knR) half 0 1 = false := by decide +kernel
  have e10 : Sr (co knR) half 1 0 = false := by decide +kernel
  have e11 : Sr (co knR) half 1 1 = false := by decide +kernel
  rcases hi' with rfl | rfl <;> rcases hj' with rfl | rfl
  · rw [e00] at h1; cases h1
  · rw [e01] at h1; cases h1
  · rw [e10] at h1; cases h1
  · rw [e11] at h1; cases h1
theorem ring_n : ¬ HasRing (Er (co knR) hundred) (Sr (co knR) hundred) 2 := by
  rintro ⟨i, j, hi, hj, h1, h2⟩
  have hi' : i = 0 ∨ i = 1 := by omega
  have hj' : j = 0 ∨ j = 1 := by omega
  have e00 : Sr (co knR) hundred 0 0 = false := by decide +kernel
  have e10 : Sr (co knR) hundred 1 0 = false := by decide +kernel
  have e11 : Sr (co knR) hundred 1 1 = false := by decide +kernel
  have f10 : Er (co knR) hundred 1 0 = false := by decide +kernel
  have f11 : Er (co knR) hundred 1 1 = false := by decide +kernel
  have key : ∀ k, Reach (Er (co knR) hundred) 2 1 k → k = 1 := fun k hr => by
    induction hr with
    | refl => rfl
    | @step j k _ e l ih =>
      subst ih
      have hk : k = 0 ∨ k = 1 := by omega
      rcases hk with rfl | rfl
      · rw [f10] at e; cases e
      · rfl
  rcases hi' with rfl | rfl <;> rcases hj' with rfl | rfl
  · rw [e00] at h1; cases h1
  · have := key 0 h2; omega
  · rw [e10] at h1; cases h1
  · rw [e11] at h1; cases h1
theorem kn_at {s : Rat} (h0 : 0 ≤ s) (h1 : s ≤ 1) (hs : Sz 7 s) : ∃ d, f_numbers_at [budD knR, mk s] = some d ∧ ((HasRing (Er (co knR) s) (Sr (co knR) s) 2 ∧ ixD d (.int 0) = some (.str "ring")) ∨ (¬ HasRing (Er (co knR) s) (Sr (co knR) s) 2 ∧ ixD d (.int 0) = some (.str "numbers"))) := by
  obtain ⟨d, e, hd⟩ := at_ev (Z := 7) kn_bud (fun r h => (kn_rows r h).b) (by decide) (isR_mk s) h0 h1 hs (by omega)
  refine ⟨d, e, ?_⟩
  rcases hd with ⟨hn, nd, f, nu, ra, rfl, _⟩ | ⟨hy, ds, rfl⟩
  · exact .inr ⟨hn, rfl⟩
  · exact .inl ⟨hy, rfl⟩
theorem kn_same : f_law_same [costsT knR, .tup [.tup [mk 3, mk thalf], .tup [mk 3, mk 3]]] = some (.bl true) := by
  rw [kn_costs]
  refine same_ev ?_ (by decide)
  have pm : ∀ q : Rat, PD 48 (mk q) := fun q => .tup (n := 47) fun d hd => by
    rcases List.mem_cons.mp hd with z | z
    · subst z; exact .int _ _
    · (rcases List.mem_cons.mp z with z | z)
      · subst z; exact .int _ _
      · cases z
  have pt : ∀ p q : Rat, PD 49 (.tup [mk p, mk q]) := fun p q => .tup (n := 48) fun d hd => by
    rcases List.mem_cons.mp hd with z | z
    · subst z; exact pm _
    · (rcases List.mem_cons.mp z with z | z)
      · subst z; exact pm _
      · cases z
  exact .tup (n := 49) fun d hd => by
    rcases List.mem_cons.mp hd with z | z
    · subst z; exact pt _ _
    · (rcases List.mem_cons.mp z with z | z)
      · subst z; exact pt _ _
      · cases z
theorem eqv_same : eqD (.lst [.str "ring", .str "numbers", .str "numbers"]) (.lst [.str "ring", .str "numbers", .str "numbers"]) = some (.bl true) := by
  have hd : DP 1 (.lst [.str "ring", .str "numbers", .str "numbers"]) := dp_lst fun d hd => by
    simp only [List.mem_cons, List.not_mem_nil, or_false] at hd
    rcases hd with rfl | rfl | rfl
    · exact dp_str _ sh_ring
    · exact dp_str _ sh_num
    · exact dp_str _ sh_num
  obtain ⟨p, q, e1, e2, e3, _⟩ := eq_dp hd hd (by omega)
  rw [e1] at e2
  cases e2
  simp only [toP, toPs] at e1
  cases e1
  rw [e3]
  simp [PyData.eqv, PyData.eqvAll]
theorem known_ev : f_law_is_known [] = some (.bl true) := by
  have ec := costs_ev kn_bud (fun r h => (kn_rows r h).b)
  obtain ⟨d1, e1, h1⟩ := kn_at (s := 1) (by decide) (by decide) (sz_one.mono (by omega))
  obtain ⟨d2, e2, h2⟩ := kn_at (s := half) (by decide) (by decide) ⟨by decide, by decide⟩
  obtain ⟨d3, e3, h3⟩ := kn_at (s := hundred) (by decide) (by decide) ⟨by decide, by decide⟩
  have k1 := (h1.resolve_right fun z => z.1 ring_1).2
  have k2 := (h2.resolve_left fun z => ring_h z.1).2
  have k3 := (h3.resolve_left fun z => ring_n z.1).2
  have el : lcGo [some (.imm (budD knR)), none] (gNm 1) (mPure true) (mOp2 ixD (mCall f_numbers_at (mCons (mVar 0) (mCons (mVar 1) (mPure [])))) (mPure (.int 0))) [mk 1, mk half, mk hundred] none = some ([.str "ring", .str "numbers", .str "numbers"], none) := by
    have h : ∀ s k d, f_numbers_at [budD knR, mk s] = some d → ixD d (.int 0) = some k → mOp2 ixD (mCall f_numbers_at (mCons (mVar 0) (mCons (mVar 1) (mPure [])))) (mPure (.int 0)) [some (.imm (budD knR)), some (.imm (mk s))] none = some (k, none) := fun s k d h h' => mOp2_of (mCall_of (cons_of (ev_var rfl) (cons_of (ev_var rfl) rfl)) h) rfl h'
    have hs : ∀ s k (r : List D) (out : List D), mOp2 ixD (mCall f_numbers_at (mCons (mVar 0) (mCons (mVar 1) (mPure [])))) (mPure (.int 0)) [some (.imm (budD knR)), some (.imm (mk s))] none = some (k, none) → lcGo [some (.imm (budD knR)), none] (gNm 1) (mPure true) (mOp2 ixD (mCall f_numbers_at (mCons (mVar 0) (mCons (mVar 1) (mPure [])))) (mPure (.int 0))) r none = some (out, none) →
        lcGo [some (.imm (budD knR)), none] (gNm 1) (mPure true) (mOp2 ixD (mCall f_numbers_at (mCons (mVar 0) (mCons (mVar 1) (mPure [])))) (mPure (.int 0))) (mk s :: r) none = some (k :: out, none) := fun s k r out h1 h2 => by
      show Option.bind (some [some (LV.imm (budD knR)), some (LV.imm (mk s))]) _ = _
      simp only [Option.bind_some]
      show Option.bind (some (true, none)) _ = _
      simp only [Option.bind_some, if_true]
      rw [h1]
      simp only [Option.bind_some]
      rw [h2]; rfl
    exact hs _ _ _ _ (h _ _ _ e1 k1) (hs _ _ _ _ (h _ _ _ e2 k2) (hs _ _ _ _ (h _ _ _ e3 k3) rfl))
  have s1 : sSet 0 (mTup (mCons (mPure (.str "budgets")) (mCons (mTup (mCons (mTup (mCons (mTup (mCons (mTup (mCons (mPure (.int 1)) (mCons (mPure (.int 1)) (mPure [])))) (mCons (mTup (mCons (mPure (.int 2)) (mCons (mPure (.int 1)) (mPure [])))) (mPure [])))) (mCons (mTup (mCons (mTup (mCons (mPure (.int 1)) (mCons (mPure (.int 1)) (mPure [])))) (mCons (mTup (mCons (mPure (.int 1)) (mCons (mPure (.int 1)) (mPure [])))) (mPure [])))) (mPure [])))) (mCons (mTup (mCons (mTup (mCons (mTup (mCons (mPure (.int 2)) (mCons (mPure (.int 1)) (mPure [])))) (mCons (mTup (mCons (mPure (.int 1)) (mCons (mPure (.int 1)) (mPure [])))) (mPure [])))) (mCons (mTup (mCons (mTup (mCons (mPure (.int 3)) (mCons (mPure (.int 2)) (mPure [])))) (mCons (mTup (mCons (mPure (.int 0)) (mCons (mPure (.int 1)) (mPure [])))) (mPure [])))) (mPure [])))) (mPure [])))) (mPure [])))) (startL 2 []) none = some (.nx, [some (.imm (budD knR)), none], none) := rfl
  have s2 : sIf (mNot (mTst (mCall f_law_same (mCons (mCall f_costs (mCons (mVar 0) (mPure []))) (mCons (mTup (mCons (mTup (mCons (mTup (mCons (mPure (.int 3)) (mCons (mPure (.int 1)) (mPure [])))) (mCons (mTup (mCons (mPure (.int 3)) (mCons (mPure (.int 2)) (mPure [])))) (mPure [])))) (mCons (mTup (mCons (mTup (mCons (mPure (.int 3)) (mCons (mPure (.int 1)) (mPure [])))) (mCons (mTup (mCons (mPure (.int 3)) (mCons (mPure (.int 1)) (mPure [])))) (mPure [])))) (mPure [])))) (mPure [])))))) (sRet (mPure (.bl false))) sNil [some (.imm (budD knR)), none] none = some (.nx, [some (.imm (budD knR)), none], none) :=
    whileIf (not_of (a := true) (mTst_of (mCall_of (cons_of (mCall_of (cons_of (ev_var rfl) rfl) ec) (cons_of (d := .tup [.tup [mk 3, mk thalf], .tup [mk 3, mk 3]]) rfl rfl)) kn_same)))
  have e5 : mLc (mSeq (mLst (mCons (mTup (mCons (mPure (.int 1)) (mCons (mPure (.int 1)) (mPure [])))) (mCons (mTup (mCons (mPure (.int 1)) (mCons (mPure (.int 2)) (mPure [])))) (mCons (mTup (mCons (mPure (.int 99)) (mCons (mPure (.int 100)) (mPure [])))) (mPure [])))))) [1] (gNm 1) (mPure true) (mOp2 ixD (mCall f_numbers_at (mCons (mVar 0) (mCons (mVar 1) (mPure [])))) (mPure (.int 0))) [some (.imm (budD knR)), none] none = some (.lst [.str "ring", .str "numbers", .str "numbers"], none) := lc_of (ds := [mk 1, mk half, mk hundred]) rfl el
  exact runP_rt (ρ' := [some (.imm (budD knR)), none]) (S' := none) rfl ((sSq_nx s1).trans ((sSq_nx s2).trans (sRet_of (mOp2_of e5 rfl eqv_same))))
end K35
namespace K35
open PySem PyProof.Rows L2 Dv
open BW (Reach)

theorem ne_rat {d : D} {q : Rat} (h : IsR d q) : neD (mk q) d = some (.bl false) := by
  rcases h with rfl | rfl
  · have := ne_of_eq (eq_mk q q)
    rw [decide_eq_true rfl] at this
    exact this
  · have := ne_of_eq (eq_mk q q)
    rw [decide_eq_true rfl] at this
    exact this
theorem ne_bl (b c : Bool) : neD (.bl b) (.bl c) = some (.bl (b != c)) := by
  cases b <;> cases c <;> rfl
/-! fewer rows -/
theorem co_tail (r : Row) (rs : List Row) (i j : Nat) : co rs i j = co (r :: rs) (i + 1) (j + 1) := by unfold co; simp
theorem ring_tail {r : Row} {rs : List Row} (h : HasRing (Er (co rs) 1) (Sr (co rs) 1) rs.length) : HasRing (Er (co (r :: rs)) 1) (Sr (co (r :: rs)) 1) (r :: rs).length := by
  have hE : ∀ i j, Er (co rs) 1 i j = Er (co (r :: rs)) 1 (i + 1) (j + 1) := fun i j => by
    unfold Er
    rw [co_tail r rs i i, co_tail r rs i j]
    by_cases hij : i = j
    · subst hij; simp
    · rw [decide_eq_true hij, decide_eq_true (by omega : i + 1 ≠ j + 1)]
  have hS : ∀ i j, Sr (co rs) 1 i j = Sr (co (r :: rs)) 1 (i + 1) (j + 1) := fun i j => by
    unfold Sr
    rw [co_tail r rs i i, co_tail r rs i j]
    by_cases hij : i = j
    · subst hij; simp
    · rw [decide_eq_true hij, decide_eq_true (by omega : i + 1 ≠ j + 1)]
  obtain ⟨i, j, hi, hj, h1, h2⟩ := h
  refine ⟨i + 1, j + 1, by simpa using hi, by simpa using hj, by rw [← hS]; exact h1, ?_⟩
  clear h1
  have key : ∀ k, Reach (Er (co rs) 1) rs.length j k → Reach (Er (co (r :: rs)) 1) (r :: rs).length (j + 1) (k + 1) := fun k hr => by
    induction hr with
    | refl => exact .refl
    | step _ e l ih => exact .step ih (by rw [← hE]; exact e) (by simpa using l)
  exact key i h2
variable {ns : List Int} {a : Addr}
abbrev lv (ns : List Int) (a : Addr) (t bu ta fe ki to pl la pr ow ot : Option LV) : Lo := [some (.imm (.scr ns)), some (.imm (.rng a)), t, bu, ta, fe, ki, to, pl, la, pr, ow, ot]
def LP (ns : List Int) (a : Addr) (ρ : Lo) : Prop := ∃ t bu ta fe ki to pl la pr ow ot, ρ = lv ns a t bu ta fe ki to pl la pr ow ot
/-! the wishes explain all -/
theorem worth_own {rs : List Row} {g : Nat} (hrs : ∀ r ∈ rs, RowD g r) (h1 : 1 ≤ rs.length) {nd : D} {f : Nat → D × D} {nu ra : Nat → Rat} (hN : NumsR rs.length (gpr (co rs) 1) 1518 2156 nd f nu ra) {i : Nat} {r : Row} (hi : rs[i]? = some r) :
    f_law_worth [budD rs, nd, .tup (r.2.map mk)] = some (mk (nu i)) := by
  have hil := (List.getElem?_eq_some_iff.mp hi).1
  have hr := hrs r (List.mem_of_getElem? hi)
  obtain ⟨v, e, _, hle, j, hj, hv⟩ := worth_ev hrs h1 hN hr.b.qs (by omega)
  have hw : ∀ k, k < rs.length → wo rs nu ra r.2 k = nu k + ra k * gpr (co rs) 1 k i := fun k hk => by
    have ek : rs[k]? = some rs[k] := List.getElem?_eq_getElem hk
    unfold wo gpr co
    simp only [ek, hi, Rat.one_mul]
    rfl
  have h2 : v ≤ nu i := by
    have := hle i hil
    rw [hw i hil] at this
    have h0 : gpr (co rs) 1 i i = 0 := by unfold gpr; rw [Rat.one_mul]; grind
    rw [h0, Rat.mul_zero, Rat.add_zero] at this
    exact this
  have h3 : nu i ≤ v := by
    rw [hv, hw j hj]
    exact hN.keep j i hj hil
  have : v = nu i := Rat.le_antisymm h2 h3
  rw [← this]; exact e
theorem worth_other {rs : List Row} {g : Nat} (hrs : ∀ r ∈ rs, RowD g r) (h1 : 1 ≤ rs.length) {nd : D} {f : Nat → D × D} {nu ra : Nat → Rat} (hN : NumsR rs.length (gpr (co rs) 1) 1518 2156 nd f nu ra) {i : Nat} {r : Row} (hi : rs[i]? = some r) {x : D} (hx : BnR r.1 (co rs i i) x) :
    ∃ v, f_law_worth [budD rs, nd, x] = some (mk v) ∧ Sz 4000 v ∧ v ≤ nu i := by
  have hil := (List.getElem?_eq_some_iff.mp hi).1
  obtain ⟨qs, rfl, hq, hle⟩ := hx
  obtain ⟨v, e, sv, hv, _⟩ := worth_ev hrs h1 hN hq (by omega)
  refine ⟨v, e, sv.mono (by omega), ?_⟩
  have h2 := hv i hil
  have h3 : wo rs nu ra qs i = nu i + ra i * (rdot r.1 qs - rdot r.1 r.2) := by unfold wo; rw [hi]
  rw [h3] at h2
  have h4 : co rs i i = rdot r.1 r.2 := by unfold co; rw [hi]; rfl
  rw [h4] at hle
  have h5 := hN.one i hil
  have h6 : ra i * (rdot r.1 qs - rdot r.1 r.2) ≤ 0 := by
    have h7 : 0 ≤ rdot r.1 r.2 - rdot r.1 qs := by grind
    have h8 : (0 : Rat) ≤ ra i := by grind
    have h9 := Rat.mul_nonneg h8 h7
    grind
  grind
noncomputable def bunB : MS := (sSq (sSet 12 (mCallR f_law_bundle (mCons (mVar 1) (mCons (mVar 10) (mCons (mOp2 ixD (mOp2 ixD (mVarB 4) (mVarB 8)) (mVarB 8)) (mPure []))))))
  (sIf (mTst (mCall f_law_less (mCons (mOp2 ixD (mOp2 ixD (mVarB 7) (mVarB 8)) (mPure (.int 0))) (mCons (mCall f_law_worth (mCons (mVar 3) (mCons (mVar 7) (mCons (mVar 12) (mPure []))))) (mPure []))))) (sRet (mPure (.bl false))) sNil))
noncomputable def rowM : MS := (sSq (sIf (mTst (mOp2 neD (mCall f_law_worth (mCons (mVar 3) (mCons (mVar 7) (mCons (mVar 11) (mPure []))))) (mOp2 ixD (mOp2 ixD (mVarB 7) (mVarB 8)) (mPure (.int 0))))) (sRet (mPure (.bl false))) sNil)
  (sFor (mRg1 (mCons (mPure (.int 4)) (mPure []))) (gNm 9) bunB))
section
variable {rs : List Row} {g : Nat} {nd : D} {f : Nat → D × D} {nu ra : Nat → Rat}
theorem told_at {n : Nat} {gp : Nat → Nat → Rat} {A B : Nat} (hN : NumsR n gp A B nd f nu ra) {i : Nat} (hi : i < n) : ixD nd (.int (i : Nat)) = some (.tup [(f i).1, (f i).2]) := by
  rw [hN.eq]
  exact ix_nat rfl (by rw [List.getElem?_map, List.getElem?_range hi]; rfl)
theorem row_rs (hrs : ∀ r ∈ rs, RowD g r) (h1 : 1 ≤ rs.length) (g2 : 2 ≤ g) (g4 : g ≤ 4) (hN : NumsR rs.length (gpr (co rs) 1) 1518 2156 nd f nu ra) {i : Nat} {r : Row} (hi : rs[i]? = some r) {t fe ki la ot : Option LV} :
    RS ns a 40 rowM (lv ns a t (some (.imm (budD rs))) (some (.imm (costsT rs))) fe ki (some (.imm nd)) (some (.imm (.int (i : Nat)))) la (some (.imm (.tup (r.1.map mk)))) (some (.imm (.tup (r.2.map mk)))) ot)
      (fun fl ρ' => fl = .nx ∧ ∃ la ot, ρ' = lv ns a t (some (.imm (budD rs))) (some (.imm (costsT rs))) fe ki (some (.imm nd)) (some (.imm (.int (i : Nat)))) la (some (.imm (.tup (r.1.map mk)))) (some (.imm (.tup (r.2.map mk)))) ot) := by
  have hil := (List.getElem?_eq_some_iff.mp hi).1
  have hr := hrs r (List.mem_of_getElem? hi)
  have i0 := told_at hN hil
  have j0 : ixD (.tup [(f i).1, (f i).2]) (.int 0) = some (f i).1 := ix_nat (n := 0) rfl rfl
  have ew := worth_own hrs h1 hN hi
  unfold rowM
  refine rs_det (fun S => sIf_f (mTst_of (mOp2_of (mCall_of (cons_of (ev_var rfl) (cons_of (ev_var rfl) (cons_of (ev_var rfl) rfl))) ew) (mOp2_of (mOp2_of (ev_varB rfl) (ev_varB rfl) i0) rfl j0) (ne_rat (hN.num i hil))))) ?_
  refine RS.mono (rs_for (k := 0) (k' := 10) (L := 4) (Pd := fun ds => ds.length ≤ 4) (fun _ ρ => ∃ la ot, ρ = lv ns a t (some (.imm (budD rs))) (some (.imm (costsT rs))) fe ki (some (.imm nd)) (some (.imm (.int (i : Nat)))) la (some (.imm (.tup (r.1.map mk)))) (some (.imm (.tup (r.2.map mk)))) ot) (re_pure (d := rangeL 0 ((4 : Nat) : Int)) (fun S => rg1_nat (n := 4) rfl (by omega)) ⟨by rw [rangeL_len]; omega, by rw [rangeL_len]; omega⟩) ⟨la, ot, rfl⟩ ?_) (by omega) ?_
  · rintro ds _ k d ρ' hd ⟨la, ot, rfl⟩
    obtain ⟨rw', er, ew'⟩ := tab_T rs i i hil hil
    have hb := hrs
    refine ⟨_, rfl, RS.mono (k := 10 + 0) (rs_sq (P := fun ρ => ∃ x, BnR r.1 (co rs i i) x ∧ ρ = lv ns a t (some (.imm (budD rs))) (some (.imm (costsT rs))) fe ki (some (.imm nd)) (some (.imm (.int (i : Nat)))) (some (.imm d)) (some (.imm (.tup (r.1.map mk)))) (some (.imm (.tup (r.2.map mk)))) (some (.imm x))) ?_ ?_) (by omega) fun _ _ h => h⟩
    · refine RS.mono (k := 0 + (0 + (0 + 0)) + 10) (rs_set (re_callR (k' := 10) (R := BnR r.1 (co rs i i)) (re_cons (re_var (d := .rng a)) (re_cons (re_var (d := .tup (r.1.map mk))) (re_cons (re_pure (d := mk (co rs i i)) (P := fun d => d = mk (co rs i i)) (fun S => mOp2_of (mOp2_of (ev_varB rfl) (ev_varB rfl) er) (ev_varB rfl) ew') rfl) re_nil))) ?_)) (by omega) ?_
      · rintro ds ⟨d1, e1, rfl, rfl, d2, e2, rfl, rfl, d3, e3, rfl, rfl, rfl⟩
        exact bundle_rf (by rw [hr.p.pl]; exact g2) (by rw [hr.p.pl]; exact g4) hr.p.pp hr.b.ps (co_pos (fun r h => (hrs r h).p) i i) (co_sz (fun r h => (hrs r h).b) i i)
      · rintro fl ρ' ⟨rfl, x, hx, rfl⟩
        exact ⟨rfl, x, hx, rfl⟩
    · rintro ρ ⟨x, hx, rfl⟩
      obtain ⟨v, ev, sv, hv⟩ := worth_other hrs h1 hN hi hx
      have l1 := law_less_sz (hN.num i hil) (isR_mk v) (hN.sa i hil) sv (by omega)
      rw [decide_eq_false (Rat.not_lt.mpr hv)] at l1
      exact rs_pure (fl := .nx) (fun S => sIf_f (mTst_of (mCall_of (cons_of (mOp2_of (mOp2_of (ev_varB rfl) (ev_varB rfl) i0) rfl j0) (cons_of (mCall_of (cons_of (ev_var rfl) (cons_of (ev_var rfl) (cons_of (ev_var rfl) rfl))) ev) rfl)) l1))) ⟨.inl rfl, _, _, rfl⟩
  · rintro fl ρ' ⟨rfl, ds, _, _, la, ot, rfl⟩
    exact ⟨rfl, la, ot, rfl⟩
end
end K35
namespace K35
open PySem PyProof.Rows L2 Dv
open BW (Reach)

variable {ns : List Int} {a : Addr}
noncomputable def numM : MS := (sSq (sFor (mEnumQ (mCons (mOp2 ixD (mVarB 3) (mPure (.int 1))) (mPure []))) (gTp 2 (gCns (gNm 8) (gCns (gTp 2 (gCns (gNm 10) (gCns (gNm 11) gNl))) gNl))) rowM)
  (sIf (mTst (mOp2 neD (mOp2 ixD (mCall f_numbers_at (mCons (mVar 3) (mCons (mCallR f_law_ds_part (mCons (mVar 1) (mCons (mCall f_law_ds_costs (mCons (mVar 3) (mPure []))) (mPure [])))) (mPure [])))) (mPure (.int 0))) (mPure (.str "numbers")))) (sRet (mPure (.bl false))) sNil))
theorem at_kind {rs : List Row} {g : Nat} (h : BudR (budD rs) rs g) (hb : ∀ r ∈ rs, RowB r) (h6 : rs.length ≤ 6) {s : Rat} (h0 : 0 ≤ s) (h1 : s ≤ 1) (sz : Sz 62 s) (hno : ¬ HasRing (Er (co rs) 1) (Sr (co rs) 1) rs.length) :
    ∃ d, f_numbers_at [budD rs, mk s] = some d ∧ ixD d (.int 0) = some (.str "numbers") := by
  obtain ⟨d, e, hd⟩ := at_ev h hb h6 (isR_mk s) h0 h1 sz (by omega)
  refine ⟨d, e, ?_⟩
  rcases hd with ⟨_, nd, f, nu, ra, rfl, _⟩ | ⟨hy, _⟩
  · rfl
  · exact absurd (ring_mono (co_pos h.rp) h1 hy) hno
theorem num_rs {rs : List Row} {g : Nat} {nd : D} {f : Nat → D × D} {nu ra : Nat → Rat} (hrs : ∀ r ∈ rs, RowD g r) (h1 : 1 ≤ rs.length) (h6 : rs.length ≤ 6) (g2 : 2 ≤ g) (g4 : g ≤ 4) (hN : NumsR rs.length (gpr (co rs) 1) 1518 2156 nd f nu ra) (hno : ¬ HasRing (Er (co rs) 1) (Sr (co rs) 1) rs.length) {t fe ki pl la pr ow ot : Option LV} :
    RS ns a 300 numM (lv ns a t (some (.imm (budD rs))) (some (.imm (costsT rs))) fe ki (some (.imm nd)) pl la pr ow ot)
      (fun fl ρ' => fl = .nx ∧ ∃ pl la pr ow ot, ρ' = lv ns a t (some (.imm (budD rs))) (some (.imm (costsT rs))) fe ki (some (.imm nd)) pl la pr ow ot) := by
  have hbud := bud_of g2 g4 h1 h6 hrs
  have i1 : ixD (budD rs) (.int 1) = some (.tup (rs.map rowD)) := rfl
  refine RS.mono (k := (0 + 6 * 40) + 4) (rs_sq (P := fun ρ => ∃ pl la pr ow ot, ρ = lv ns a t (some (.imm (budD rs))) (some (.imm (costsT rs))) fe ki (some (.imm nd)) pl la pr ow ot) ?_ ?_) (by omega) fun _ _ h => h
  · have em : ∀ S, mEnumQ (mCons (mOp2 ixD (mVarB 3) (mPure (.int 1))) (mPure [])) (lv ns a t (some (.imm (budD rs))) (some (.imm (costsT rs))) fe ki (some (.imm nd)) pl la pr ow ot) S = some ((rs.map rowD).mapIdx fun i d => D.tup [.int (i : Nat), d], S) := fun S => by
      unfold mEnumQ
      rw [cons_of (mOp2_of (ev_varB rfl) rfl i1) rfl]
      rfl
    refine RS.mono (rs_for (k := 0) (k' := 40) (L := 6) (Pd := fun ds => ds = (rs.map rowD).mapIdx fun i d => D.tup [.int (i : Nat), d]) (fun _ ρ => ∃ pl la pr ow ot, ρ = lv ns a t (some (.imm (budD rs))) (some (.imm (costsT rs))) fe ki (some (.imm nd)) pl la pr ow ot) (re_pure em ⟨by rw [List.length_mapIdx, List.length_map]; exact h6, rfl⟩) ⟨_, _, _, _, _, rfl⟩ ?_) (by omega) ?_
    · rintro ds rfl i d ρ' hd ⟨pl, la, pr, ow, ot, rfl⟩
      rw [List.getElem?_mapIdx, List.getElem?_map] at hd
      cases hi : rs[i]? with
      | none => rw [hi] at hd; cases hd
      | some r =>
        rw [hi] at hd
        cases hd
        refine ⟨_, rfl, RS.mono (row_rs hrs h1 g2 g4 hN hi) (Nat.le_refl _) ?_⟩
        rintro fl ρ2 ⟨rfl, la, ot, rfl⟩
        exact ⟨.inl rfl, _, _, _, _, _, rfl⟩
    · rintro fl ρ' ⟨rfl, ds, _, _, pl, la, pr, ow, ot, rfl⟩
      exact ⟨rfl, pl, la, pr, ow, ot, rfl⟩
  rintro ρ ⟨pl, la, pr, ow, ot, rfl⟩
  have ec := law_costs_ev (paired_row rs) (fun r h => (hrs r h).b)
  have hc : ∀ i j, i < rs.length → j < rs.length → Sz 10 (co rs i j) ∧ 0 < co rs i j := fun i j _ _ => ⟨co_sz (fun r h => (hrs r h).b) i j, co_pos (fun r h => (hrs r h).p) i j⟩
  have hl : lenD [costsL rs] = some (.int (rs.length : Nat)) := by unfold costsL; rw [len_items rfl, List.length_map]
  refine RS.mono (k := 4 + 0) (rs_if (k := 4) (k' := 0) (P := fun b => b = false) ?_ (fun h => by cases h) fun _ => rs_nil) (by omega) ?_
  · refine RE.mono (k := (0 + (0 + (0 + 0) + 4 + 0) + 0) + 0) (re_tst (P := fun d => d = .bl false) (re_op2 (P := fun d => d = .str "numbers") (Q := fun d => d = .str "numbers") (re_op2 (P := fun d => ixD d (.int 0) = some (.str "numbers")) (Q := fun d => d = .int 0) (re_call (P := fun ds => ∃ s : Rat, ds = [budD rs, mk s] ∧ 0 ≤ s ∧ s ≤ 1 ∧ Sz 62 s) (RE.mono (re_cons (re_var (d := budD rs)) (re_cons (re_callR (k' := 4) (R := ShR) (re_cons (re_var (d := .rng a)) (re_cons (re_pure (d := costsL rs) (P := fun d => d = costsL rs) (fun S => mCall_of (cons_of (ev_var rfl) rfl) ec) rfl) re_nil)) ?_) re_nil)) (Nat.le_refl _) ?_) ?_) re_cst ?_) re_cst ?_) ?_) (by omega) fun _ h => h
    · rintro ds ⟨d1, e1, rfl, rfl, d2, e2, rfl, rfl, rfl⟩
      exact part_rf (tab_L rs) hc hl (by omega)
    · rintro ds ⟨d1, e1, rfl, rfl, d2, e2, rfl, ⟨s, rfl, s0, s1, ss⟩, rfl⟩
      exact ⟨s, rfl, s0, s1, ss⟩
    · rintro ds ⟨s, rfl, s0, s1, ss⟩
      exact at_kind hbud (fun r h => (hrs r h).b) h6 s0 s1 ss hno
    · rintro x y hx rfl
      exact ⟨_, hx, rfl⟩
    · rintro x y rfl rfl
      exact ⟨.bl false, by rw [str_ne sh_num sh_num]; simp, rfl⟩
    · rintro d rfl
      exact ⟨false, rfl, rfl⟩
  · rintro fl ρ' ⟨rfl, rfl⟩
    exact ⟨rfl, pl, la, pr, ow, ot, rfl⟩
end K35
namespace K35
open PySem PyProof.Rows L2 Dv
open BW (Reach)

variable {ns : List Int} {a : Addr}
/-! a turn -/
noncomputable def ifA : MS := (sIf (mOr (mTst (mOp2 neD (mOp2 eqD (mVarB 6) (mPure (.str "ring"))) (mCall f_law_ds_has_ring (mCons (mCall f_law_ds_costs (mCons (mVar 3) (mPure []))) (mCons (mTup (mCons (mPure (.int 1)) (mCons (mPure (.int 1)) (mPure [])))) (mPure [])))))) (mTst (mOp2 ninD (mVarB 6) (mLst (mCons (mPure (.str "numbers")) (mCons (mPure (.str "ring")) (mPure []))))))) (sRet (mPure (.bl false))) sNil)
noncomputable def ifC : MS := (sIf (mAnd (mTst (mOp2 gtD (mCall lenD (mCons (mOp2 ixD (mVarB 3) (mPure (.int 1))) (mPure []))) (mPure (.int 1)))) (mAnd (mTst (mOp2 eqD (mOp2 ixD (mCall f_numbers_at (mCons (mVar 5) (mCons (mTup (mCons (mPure (.int 1)) (mCons (mPure (.int 1)) (mPure [])))) (mPure [])))) (mPure (.int 0))) (mPure (.str "ring")))) (mTst (mOp2 neD (mVarB 6) (mPure (.str "ring")))))) (sRet (mPure (.bl false))) sNil)
noncomputable def turnB : MS := (sSq (sSet 3 (mCallR f_law_ds_budgets (mCons (mVar 1) (mCons (mPure (.int 6)) (mPure [])))))
  (sSq (sAsg (mCall f_numbers_at (mCons (mVar 3) (mCons (mTup (mCons (mPure (.int 1)) (mCons (mPure (.int 1)) (mPure [])))) (mPure [])))) (gTp 2 (gCns (gNm 6) (gCns (gNm 7) gNl))))
  (sSq ifA
  (sSq (sSet 4 (mCall f_costs (mCons (mVar 3) (mPure []))))
  (sSq (sIf (mTst (mOp2 eqD (mVarB 6) (mPure (.str "numbers")))) numM sNil)
  (sSq (sSet 5 (mTup (mCons (mPure (.str "budgets")) (mCons (mSl slD (mOp2 ixD (mVarB 3) (mPure (.int 1))) (mPart (mPure (.int 1))) (mPure none)) (mPure [])))))
  ifC))))))
theorem law_eq : m_law = (sSq (sIf (mNot (mTst (mCall f_law_is_known (mPure [])))) (sRet (mPure (.bl false))) sNil)
  (sSq (sFor (mRg1 (mCons (mOp2 addD (mPure (.int 4)) (mCall minD (mCons (mCall lenD (mCons (mVarB 0) (mPure []))) (mCons (mPure (.int 6)) (mPure []))))) (mPure []))) (gNm 2) turnB)
  (sRet (mPure (.bl true))))) := rfl
theorem ifc_f {rs : List Row} {g : Nat} (hrs : ∀ r ∈ rs, RowD g r) (h1 : 1 ≤ rs.length) (h6 : rs.length ≤ 6) (g2 : 2 ≤ g) (g4 : g ≤ 4) {k : Str} {fe : D} (hfe : fe = .tup [.str "budgets", .tup (rs.tail.map rowD)]) (hk : (HasRing (Er (co rs) 1) (Sr (co rs) 1) rs.length ∧ k = "ring") ∨ (¬ HasRing (Er (co rs) 1) (Sr (co rs) 1) rs.length ∧ k = "numbers")) {t ta to pl la pr ow ot : Option LV} (S : Sg) :
    ifC (lv ns a t (some (.imm (budD rs))) ta (some (.imm fe)) (some (.imm (.str k))) to pl la pr ow ot) S = some (.nx, lv ns a t (some (.imm (budD rs))) ta (some (.imm fe)) (some (.imm (.str k))) to pl la pr ow ot, S) := by
  have i1 : ixD (budD rs) (.int 1) = some (.tup (rs.map rowD)) := rfl
  have hl : lenD [.tup (rs.map rowD)] = some (.int (rs.length : Nat)) := by rw [len_items rfl, List.length_map]
  have e1 : mTst (mOp2 gtD (mCall lenD (mCons (mOp2 ixD (mVarB 3) (mPure (.int 1))) (mPure []))) (mPure (.int 1))) (lv ns a t (some (.imm (budD rs))) ta (some (.imm fe)) (some (.imm (.str k))) to pl la pr ow ot) S = some (decide ((1 : Int) < (rs.length : Nat)), S) :=
    mTst_of (mOp2_of (mCall_of (cons_of (mOp2_of (ev_varB rfl) rfl i1) rfl) hl) rfl (gtD_int _ _))
  by_cases h2 : (1 : Int) < (rs.length : Nat)
  · rw [decide_eq_true h2] at e1
    cases rs with
    | nil => simp at h1
    | cons r rs =>
      have hlt : 1 ≤ rs.length := by simp at h2; omega
      have hrs' : ∀ r ∈ rs, RowD g r := fun x h => hrs x (List.mem_cons_of_mem _ h)
      have h6' : rs.length ≤ 6 := by simp at h6; omega
      have hbud := bud_of g2 g4 hlt h6' hrs'
      obtain ⟨d, ed, hd⟩ := at_ev hbud (fun r h => (hrs' r h).b) h6' (isR_mk 1) (by decide) (by decide) sz_one (by omega)
      have hfe' : fe = budD rs := hfe
      subst hfe'
      have ea : ∀ j, ixD d (.int 0) = some (.str j) → SeqAt.shaped (.str j) = true → mTst (mOp2 eqD (mOp2 ixD (mCall f_numbers_at (mCons (mVar 5) (mCons (mTup (mCons (mPure (.int 1)) (mCons (mPure (.int 1)) (mPure [])))) (mPure [])))) (mPure (.int 0))) (mPure (.str "ring"))) (lv ns a t (some (.imm (budD (r :: rs)))) ta (some (.imm (budD rs))) (some (.imm (.str k))) to pl la pr ow ot) S = some (decide (j = "ring"), S) := fun j h hs =>
        mTst_of (mOp2_of (mOp2_of (mCall_of (cons_of (ev_var rfl) (cons_of (tup_of (cons_of rfl (cons_of rfl rfl)) (by simp)) rfl)) ed) rfl h) rfl (str_eq hs sh_ring))
      rcases hd with ⟨_, nd, f, nu, ra, rfl, _⟩ | ⟨hy, ds, rfl⟩
      · have e2 := ea "numbers" rfl sh_num
        rw [decide_eq_false (by decide +kernel)] at e2
        exact sIf_f (and_tt e1 (and_ff e2))
      · have e2 := ea "ring" rfl sh_ring
        rw [decide_eq_true rfl] at e2
        have hyes := ring_tail (r := r) hy
        have hk' : k = "ring" := (hk.resolve_right fun z => z.1 hyes).2
        subst hk'
        have e3 : mTst (mOp2 neD (mVarB 6) (mPure (.str "ring"))) (lv ns a t (some (.imm (budD (r :: rs)))) ta (some (.imm (budD rs))) (some (.imm (.str "ring"))) to pl la pr ow ot) S = some (false, S) :=
          mTst_of (mOp2_of (ev_varB rfl) rfl (by rw [str_ne sh_ring sh_ring]; simp))
        exact sIf_f (and_tt e1 (and_tt e2 e3))
  · rw [decide_eq_false h2] at e1
    exact sIf_f (and_ff e1)
open Classical in
theorem turnb_rs {t bu ta fe ki to pl la pr ow ot : Option LV} : RS ns a 600 turnB (lv ns a t bu ta fe ki to pl la pr ow ot) (fun fl ρ' => (fl = .nx ∨ fl = .ct) ∧ LP ns a ρ') := by
  refine RS.mono (k := 200 + 300) (rs_sq (P := fun ρ => ∃ x, DsR x ∧ ρ = lv ns a t (some (.imm x)) ta fe ki to pl la pr ow ot) ?_ ?_) (by omega) fun _ _ h => h
  · refine RS.mono (k := 0 + (0 + 0) + 200) (rs_set (re_callR (k' := 200) (R := DsR) (re_cons (re_var (d := .rng a)) (re_cons re_cst re_nil)) ?_)) (by omega) ?_
    · rintro ds ⟨d1, e1, rfl, rfl, d2, e2, rfl, rfl, rfl⟩
      exact budgets_rf
    · rintro fl ρ' ⟨rfl, x, hx, rfl⟩
      exact ⟨rfl, x, hx, rfl⟩
  rintro ρ ⟨x, ⟨g, rs, g2, g4, h1, h6, rfl, hrs⟩, rfl⟩
  have hbud := bud_of g2 g4 h1 h6 hrs
  have hb : ∀ r ∈ rs, RowB r := fun r h => (hrs r h).b
  obtain ⟨d, ed, hd⟩ := at_ev (Z := 0) hbud hb h6 (isR_mk 1) (by decide) (by decide) sz_one (by omega)
  have hlr := law_ring_ev hb h6
  have elc := law_costs_ev (paired_row rs) hb
  have ec := costs_ev hbud hb
  obtain ⟨k, to', hdk, hk, hsh, hnum⟩ : ∃ (k : Str) (to' : D), d = .tup [.str k, to'] ∧ ((HasRing (Er (co rs) 1) (Sr (co rs) 1) rs.length ∧ k = "ring") ∨ (¬ HasRing (Er (co rs) 1) (Sr (co rs) 1) rs.length ∧ k = "numbers")) ∧ SeqAt.shaped (.str k) = true ∧ (k = "numbers" → ∃ f nu ra, NumsR rs.length (gpr (co rs) 1) 1518 2156 to' f nu ra) := by
    rcases hd with ⟨hn, nd, f, nu, ra, rfl, hN⟩ | ⟨hy, ds, rfl⟩
    · exact ⟨"numbers", nd, rfl, .inr ⟨hn, rfl⟩, sh_num, fun _ => ⟨f, nu, ra, hN⟩⟩
    · exact ⟨"ring", _, rfl, .inl ⟨hy, rfl⟩, sh_ring, fun z => absurd z (by decide +kernel)⟩
  subst hdk
  refine rs_det (ρ' := lv ns a t (some (.imm (budD rs))) ta fe (some (.imm (.str k))) (some (.imm to')) pl la pr ow ot) (fun S => asg_of (mCall_of (cons_of (ev_var rfl) (cons_of (tup_of (cons_of rfl (cons_of rfl rfl)) (by simp)) rfl)) ed) rfl) ?_
  refine rs_det (ρ' := lv ns a t (some (.imm (budD rs))) ta fe (some (.imm (.str k))) (some (.imm to')) pl la pr ow ot) (fun S => ?_) ?_
  · have e1 : neD (.bl (decide (k = "ring"))) (.bl (decide (HasRing (Er (co rs) 1) (Sr (co rs) 1) rs.length))) = some (.bl false) := by
      rw [ne_bl]
      rcases hk with ⟨h, rfl⟩ | ⟨h, rfl⟩
      · rw [decide_eq_true h]; rfl
      · rw [decide_eq_false h, decide_eq_false (by decide +kernel : ¬ (Str.ofString "numbers") = "ring")]; rfl
    have e2 : ninD (.str k) (.lst [.str "numbers", .str "ring"]) = some (.bl false) := by
      rcases hk with ⟨_, rfl⟩ | ⟨_, rfl⟩ <;> rfl
    refine sIf_f (mOr_f (mTst_of (mOp2_of (mOp2_of (ev_varB rfl) rfl (str_eq hsh sh_ring)) (mCall_of (cons_of (mCall_of (cons_of (ev_var rfl) rfl) elc) (cons_of (tup_of (cons_of rfl (cons_of rfl rfl)) (by simp)) rfl)) hlr) e1)) (mTst_of (mOp2_of (ev_varB rfl) rfl e2)))
  refine rs_det (ρ' := lv ns a t (some (.imm (budD rs))) (some (.imm (costsT rs))) fe (some (.imm (.str k))) (some (.imm to')) pl la pr ow ot) (fun S => set_of' (mCall_of (cons_of (ev_var rfl) rfl) ec)) ?_
  refine RS.mono (k := 300 + 0) (rs_sq (P := fun ρ => ∃ pl la pr ow ot, ρ = lv ns a t (some (.imm (budD rs))) (some (.imm (costsT rs))) fe (some (.imm (.str k))) (some (.imm to')) pl la pr ow ot) ?_ ?_) (by omega) fun _ _ h => h
  · refine RS.mono (k := 0 + 300) (rs_if (P := fun b => b = decide (k = "numbers")) (re_pure (fun S => mTst_of (mOp2_of (ev_varB rfl) rfl (str_eq hsh sh_num))) rfl) (fun h => ?_) (fun h => ?_)) (by omega) fun _ _ h => h
    · have hk1 : k = "numbers" := of_decide_eq_true h.symm
      obtain ⟨f, nu, ra, hN⟩ := hnum hk1
      have hno : ¬ HasRing (Er (co rs) 1) (Sr (co rs) 1) rs.length := by
        rcases hk with ⟨_, z⟩ | ⟨z, _⟩
        · rw [hk1] at z; exact absurd z (by decide +kernel)
        · exact z
      exact num_rs hrs h1 h6 g2 g4 hN hno
    · exact RS.mono (rs_pure (fl := .nx) (fun S => rfl) ⟨rfl, _, _, _, _, _, rfl⟩) (by omega) fun _ _ h => h
  rintro ρ ⟨pl, la, pr, ow, ot, rfl⟩
  have i1 : ixD (budD rs) (.int 1) = some (.tup (rs.map rowD)) := rfl
  have esl : slD (.tup (rs.map rowD)) (some 1) none = some (.tup (rs.tail.map rowD)) := by
    cases rs with
    | nil => simp at h1
    | cons r rs => exact sl_tail _ _
  refine rs_det (ρ' := lv ns a t (some (.imm (budD rs))) (some (.imm (costsT rs))) (some (.imm (.tup [.str "budgets", .tup (rs.tail.map rowD)]))) (some (.imm (.str k))) (some (.imm to')) pl la pr ow ot) (fun S => set_of' (tup_of (cons_of rfl (cons_of (mSl_of (mOp2_of (ev_varB rfl) rfl i1) rfl rfl esl) rfl)) (by simp))) ?_
  exact rs_pure (fl := .nx) (fun S => ifc_f hrs h1 h6 g2 g4 rfl hk S) ⟨.inl rfl, _, _, _, _, _, _, _, _, _, _, _, rfl⟩
theorem law_rs (hl : ns.length ≤ 1000) : RS ns a 7000 m_law ((startL 13 [.scr ns]).set 1 (some (.imm (.rng a)))) (fun fl _ => fl = .rt (.bl true)) := by
  rw [law_eq]
  refine rs_det (fun S => sIf_f (not_of (a := true) (mTst_of (mCall_of rfl known_ev)))) ?_
  refine RS.mono (k := 7000 + 0) (rs_sq (P := fun ρ => True) ?_ ?_) (by omega) fun _ _ h => h
  · refine RS.mono (k := 0 + 10 * 600) (rs_for (k := 0) (k' := 600) (L := 10) (Pd := fun _ => True) (fun i ρ => LP ns a ρ) (re_pure (d := rangeL 0 (((4 + min ns.length 6 : Nat)) : Int)) (fun S => ?_) ⟨by rw [range_len]; omega, trivial⟩) ⟨_, _, _, _, _, _, _, _, _, _, _, rfl⟩ ?_) (by omega) ?_
    · refine rg1_nat ?_ (by omega)
      have e1 : mCall lenD (mCons (mVarB 0) (mPure [])) ((startL 13 [.scr ns]).set 1 (some (.imm (.rng a)))) S = some (.int (ns.length : Nat), S) := by
        refine mCall_of (cons_of (ev_varB rfl) rfl) ?_
        rfl
      have e2 : minD [.int (ns.length : Nat), .int 6] = some (.int ((min ns.length 6 : Nat) : Int)) := by
        unfold minD
        simp only
        congr 2
        split <;> omega
      refine cons_of (mOp2_of (d := .int ((4 + min ns.length 6 : Nat) : Int)) rfl (mCall_of (cons_of e1 (cons_of rfl rfl)) e2) ?_) rfl
      rw [addD_int]
      congr 2
    · rintro ds - i d ρ' hd ⟨t, bu, ta, fe, ki, to, pl, la, pr, ow, ot, rfl⟩
      exact ⟨_, rfl, turnb_rs⟩
    · rintro fl ρ' ⟨rfl, _⟩
      exact ⟨rfl, trivial⟩
  · rintro ρ -
    exact rs_pure (fun S => rfl) rfl
/-- the law answers True -/
theorem law_true (hl : ns.length ≤ 1000) {r : Rng} (h1 : r.great = bigOf ns) (h2 : r.cells = absOf ns) (h3 : r.rest = 0) (h4 : r.turn = 0) : ∃ ρ' S', m_law ((startL 13 [.scr ns]).set 1 (some (.imm (.rng r.at_)))) (some r) = some (.rt (.bl true), ρ', S') := by
  have ok : RgOk ns 0 r := by
    refine ⟨h2, hl, by omega, by omega, by omega, by omega, ?_, fun z hz => ?_⟩
    · rw [h1]; unfold bigOf; rw [List.length_map]; exact Nat.le_trans (List.length_filter_le _ _) hl
    · rw [h1] at hz
      obtain ⟨y, hy, rfl⟩ := List.mem_map.mp hz
      have := of_decide_eq_true (List.mem_filter.mp hy).2
      omega
  obtain ⟨fl, ρ', r', e, rfl, _, _⟩ := law_rs (a := r.at_) hl 0 r ok rfl (by omega)
  exact ⟨ρ', some r', e⟩
end K35
namespace K35
open PySem PySem.Spec PyProof.Rows L2 Dv
open C8 (Cal pe_c)
def topS (i : Nat) : Stmt := PySem.Challenge.pw_choiceshown_k35_numbers_and_bundles.main.body.getD i (.Pass ⟨0, 0, 0, 0⟩)
structure Tx (K : PySem.W.Frag) (mg : Str → Option Value) : Prop where
  g_LEAST_GOODS : ∃ u, mg "LEAST_GOODS" = some u ∧ RelV (V.int 2) u
  g_MOST : ∃ u, mg "MOST" = some u ∧ RelV (V.int 200) u
  g_MOST_BUDGETS : ∃ u, mg "MOST_BUDGETS" = some u ∧ RelV (V.int 8) u
  g_MOST_GOODS : ∃ u, mg "MOST_GOODS" = some u ∧ RelV (V.int 4) u
  k_ONE : ∃ a, mg "ONE" = some (.ref a) ∧ SqT K (fun _ => none) a [(V.int 1), (V.int 1)]
  k_ZERO : ∃ a, mg "ZERO" = some (.ref a) ∧ SqT K (fun _ => none) a [(V.int 0), (V.int 1)]
  n_abs : mg "abs" = none
  n_all : mg "all" = none
  n_any : mg "any" = none
  n_bool : mg "bool" = none
  n_dict : mg "dict" = none
  n_enumerate : mg "enumerate" = none
  b_gcd : mg "gcd" = some (.builtin "math.gcd")
  n_int : mg "int" = none
  n_isinstance : mg "isinstance" = none
  n_len : mg "len" = none
  n_list : mg "list" = none
  n_min : mg "min" = none
  n_range : mg "range" = none
  n_set : mg "set" = none
  n_sorted : mg "sorted" = none
  n_str : mg "str" = none
  n_sum : mg "sum" = none
  n_tuple : mg "tuple" = none
  n_zip : mg "zip" = none
structure Cat (P : Program) (w : World) (K : PySem.W.Frag) (mg : Str → Option Value) (base : Heap) (k : Nat) (f : Addr) (fd : FuncData) (ps : List Str) (sp : Sp) : Prop where
  F : FnOk P w K mg base CX0 k f fd ps sp
  kp : (PySem.W.keepIn K (.ref f) = true)
  b : Binds K fd ps []
section
variable {P : Program} {w : World} {K : PySem.W.Frag}
variable {mg : Str → Option Value} {base : Heap}
abbrev s_law_begun : Stmt := topS 48
theorem sc_law_begun : FnScope ["script", "great", "cell"] ["script"] (defScope s_law_begun) := ⟨rfl, rfl, rfl, by decide +kernel, rfl, by decide +kernel, by decide +kernel⟩
theorem ok_law_begun (T : Tx K mg) {f : Addr} {fd : FuncData} (F : Fun K "_law_begun" "_law_begun" s_law_begun f fd) : FnOk P w K mg base CX0 1 f fd ["script"] (spBegun K) :=
  begun_ok F sc_law_begun fun H0 F0 R cdv B outer s H E hr => pss_cons (ss_setLcF (i := 1) (own := [("cell", 2)]) rfl sc_law_begun.nd (si_scr' rfl (se_var 0)) (blkOk_by (N := ["script", "great", "cell"]) (sc := defScope s_law_begun) (by decide +kernel)) (fun _ _ _ _ _ => (sg_name 2 sc_law_begun.nd)) (fun _ _ _ _ _ => (sts_one (st_ge (eb_of (se_cb (c_abs) (pe_callB call_abs (by rfl) T.n_abs (by decide +kernel) (sb_cons (se_varB 2) sb_nil)))) (eb_of (se_pow (eb_of se_int) (eb_of se_int)))))) (fun _ _ _ _ _ => (se_sub (eb_of (se_cb (c_abs) (pe_callB call_abs (by rfl) T.n_abs (by decide +kernel) (sb_cons (se_varB 2) sb_nil)))) (eb_of (se_pow (eb_of se_int) (eb_of se_int))))) (by decide)) (pss_one (
  ps_ret (pe_disp (pps_cons pe_str (pv 1) (pps_cons pe_str (sf_lc (own := [("cell", 2)]) rfl sc_law_begun.nd (si_scr' rfl (se_var 0)) (blkOk_by (N := ["script", "great", "cell"]) (sc := defScope s_law_begun) (by decide +kernel)) (fun _ _ _ _ _ => (sg_name 2 sc_law_begun.nd)) (fun _ _ _ _ _ => sts_nil) (fun _ _ _ _ _ => (se_cb (c_abs) (pe_callB call_abs (by rfl) T.n_abs (by decide +kernel) (sb_cons (se_varB 2) sb_nil)))) (by decide)) (pps_cons pe_str pe_int (pps_cons pe_str pe_int pps_nil)))) rfl rfl (by simp) (by decide))))
abbrev s_law_is_truth : Stmt := topS 52
theorem sc_law_is_truth : FnScope ["found", "due"] ["found", "due"] (defScope s_law_is_truth) := ⟨rfl, rfl, rfl, by decide +kernel, rfl, by decide +kernel, by decide +kernel⟩
theorem ok_law_is_truth (T : Tx K mg) {f : Addr} {fd : FuncData} (F : Fun K "_law_is_truth" "_law_is_truth" s_law_is_truth f fd) : FnOk P w K mg base CX0 1 f fd ["found", "due"] (spP K f_law_is_truth) :=
  fn_pure F sc_law_is_truth fun H0 F0 R cdv B outer s H E hr =>
  (ss_one (ss_ret (se_ite (st_val (se_var 1)) (se_is (se_varB 0) (eb_of se_bl)) (se_is (se_varB 0) (eb_of se_bl)))))
abbrev s_law_same : Stmt := topS 53
theorem sc_law_same : FnScope ["found", "due", "waiting", "one", "other", "alike", "key", "left", "right"] ["found", "due"] (defScope s_law_same) := ⟨rfl, rfl, rfl, by decide +kernel, rfl, by decide +kernel, by decide +kernel⟩
theorem ok_law_same (T : Tx K mg) (c_law_is_truth : Cal P w K mg base 1 "_law_is_truth" (spP K f_law_is_truth) []) {f : Addr} {fd : FuncData} (F : Fun K "_law_same" "_law_same" s_law_same f fd) : FnOk P w K mg base CX0 2 f fd ["found", "due"] (spP K f_law_same) :=
  fn_pure F sc_law_same fun H0 F0 R cdv B outer s H E hr =>
  (ss_cons (ss_setF (ps_set (i := 2) sc_law_same.nd rfl (.inl rfl) (sf_lst (sa_cons (se_tup (sa_cons (se_var 0) (sa_cons (se_var 1) sa_nil))) sa_nil))))
    (ss_cons (ss_while (ps_while PassesOwn.never (st_ne rfl (u64 hr) (se_varB 2) (eb_of (ee_of (sf_lst sa_nil)))) (ss_cons (ss_pop (ps_asg (pe_bm0 PySem.F.plainAttrs_list PySem.F.slot_list_pop PySem.F.type_list_pop mt_pop (pv 2)) (sg_tup rfl rfl (sgs_cons (sg_name 3 sc_law_same.nd) (sgs_cons (sg_name 4 sc_law_same.nd) sgs_nil)))))
    (ss_one (ss_if (L2.PW.pt (sw_or (st_is (se_varB 4) (eb_of se_non)) (sw_or1 (st_val (se_isi (pe_callB call_isi (by rfl) T.n_isinstance (by decide +kernel) (pa_cons (se_varB 4) (pa_cons (pe_bltn (by rfl) T.n_bool (by decide +kernel) rfl) pa_nil)))))))) (ss_one (ss_if (st_ite (st_is (se_varB 4) (eb_of se_non)) (st_isnot (se_varB 3) (eb_of se_non)) (st_not (st_val (se_call (pe_c c_law_is_truth hr (by decide) (by rfl) (sa_cons (se_var 3) (sa_cons (se_var 4) sa_nil))))))) (ss_one (ss_ret se_bl)) ss_nil)) (ss_one (ss_if (st_val (se_isi2 (pe_callB call_isiT (by rfl) T.n_isinstance (by decide +kernel) (pa_cons (se_varB 4) (pa_cons (pe_tup (pa_cons (pe_bltn (by rfl) T.n_int (by decide +kernel) rfl) (pa_cons (pe_bltn (by rfl) T.n_str (by decide +kernel) rfl) pa_nil))) pa_nil))))) (ss_one (ss_if (L2.PW.pt (sw_or (st_val (se_isi (pe_callB call_isi (by rfl) T.n_isinstance (by decide +kernel) (pa_cons (se_varB 3) (pa_cons (pe_bltn (by rfl) T.n_bool (by decide +kernel) rfl) pa_nil))))) (sw_or (st_ne rfl (u64 hr) (eb_of (se_isi (pe_callB call_isi (by rfl) T.n_isinstance (by decide +kernel) (pa_cons (se_varB 3) (pa_cons (pe_bltn (by rfl) T.n_int (by decide +kernel) rfl) pa_nil))))) (eb_of (se_isi (pe_callB call_isi (by rfl) T.n_isinstance (by decide +kernel) (pa_cons (se_varB 4) (pa_cons (pe_bltn (by rfl) T.n_int (by decide +kernel) rfl) pa_nil)))))) (sw_or1 (st_ne rfl (u64 hr) (se_varB 3) (se_varB 4)))))) (ss_one (ss_ret se_bl)) ss_nil)) (ss_one (ss_if (st_val (se_isi (pe_callB call_isi (by rfl) T.n_isinstance (by decide +kernel) (pa_cons (se_varB 4) (pa_cons (pe_bltn (by rfl) T.n_dict (by decide +kernel) rfl) pa_nil))))) sss_never (ss_cons (ss_set (ps_set (i := 5) sc_law_same.nd rfl (.inl rfl) (ee_of (sf_lst (sa_cons (se_andV (se_isi (pe_callB call_isi (by rfl) T.n_isinstance (by decide +kernel) (pa_cons (se_varB 3) (pa_cons (pe_bltn (by rfl) T.n_tuple (by decide +kernel) rfl) pa_nil)))) (se_one (se_isi (pe_callB call_isi (by rfl) T.n_isinstance (by decide +kernel) (pa_cons (se_varB 4) (pa_cons (pe_bltn (by rfl) T.n_tuple (by decide +kernel) rfl) pa_nil)))))) (sa_cons (se_andV (se_isi (pe_callB call_isi (by rfl) T.n_isinstance (by decide +kernel) (pa_cons (se_varB 3) (pa_cons (pe_bltn (by rfl) T.n_list (by decide +kernel) rfl) pa_nil)))) (se_one (se_isi (pe_callB call_isi (by rfl) T.n_isinstance (by decide +kernel) (pa_cons (se_varB 4) (pa_cons (pe_bltn (by rfl) T.n_list (by decide +kernel) rfl) pa_nil)))))) sa_nil))))))
    (ss_cons (ss_if (L2.PW.pt (sw_or (st_nin rfl (u65 hr) (by rfl) (eb_of se_bl) (se_varB 5)) (sw_or1 (st_ne rfl (u64 hr) (eb_of (se_cb (c_lenA.or (c_lenK.or c_lenS)) (pe_callB (c_len rfl) (by rfl) T.n_len boot_len (sb_cons (se_varB 3) sb_nil)))) (eb_of (se_cb (c_lenA.or (c_lenK.or c_lenS)) (pe_callB (c_len rfl) (by rfl) T.n_len boot_len (sb_cons (se_varB 4) sb_nil)))))))) (ss_one (ss_ret se_bl)) ss_nil)
    (ss_one (ss_ext (ps_expr (pe_bm PySem.F.plainAttrs_list PySem.F.slot_list_extend PySem.F.type_list_extend mt_extend (pv 2) (pa_cons (ee_of (sf_lc (own := [("left", 7), ("right", 8)]) rfl sc_law_same.nd (si_zip2 rfl (pi_zip2 (by rfl) T.n_zip (sa_cons (se_var 3) (sa_cons (se_var 4) sa_nil)))) (blkOk_by (N := ["found", "due", "waiting", "one", "other", "alike", "key", "left", "right"]) (sc := defScope s_law_same) (by decide +kernel)) (fun _ _ _ _ _ => (sg_tup rfl rfl (sgs_cons (sg_name 7 sc_law_same.nd) (sgs_cons (sg_name 8 sc_law_same.nd) sgs_nil)))) (fun _ _ _ _ _ => sts_nil) (fun _ _ _ _ _ => (se_tup (sa_cons (se_var 7) (sa_cons (se_var 8) sa_nil)))) (by decide))) pa_nil))))))))))))))))
    (ss_one (ss_ret se_bl))))
abbrev s_is_whole : Stmt := topS 8
theorem sc_is_whole : FnScope ["value"] ["value"] (defScope s_is_whole) := ⟨rfl, rfl, rfl, by decide +kernel, rfl, by decide +kernel, by decide +kernel⟩
theorem ok_is_whole (T : Tx K mg) {f : Addr} {fd : FuncData} (F : Fun K "is_whole" "is_whole" s_is_whole f fd) : FnOk P w K mg base CX0 1 f fd ["value"] (spP K f_is_whole) :=
  fn_pure F sc_is_whole fun H0 F0 R cdv B outer s H E hr =>
  (ss_one (ss_ret (se_andV (se_isi (pe_callB call_isi (by rfl) T.n_isinstance (by decide +kernel) (pa_cons (se_varB 0) (pa_cons (pe_bltn (by rfl) T.n_int (by decide +kernel) rfl) pa_nil)))) (se_one (se_notV (se_isi (pe_callB call_isi (by rfl) T.n_isinstance (by decide +kernel) (pa_cons (se_varB 0) (pa_cons (pe_bltn (by rfl) T.n_bool (by decide +kernel) rfl) pa_nil)))))))))
abbrev s_is_ratio : Stmt := topS 9
theorem sc_is_ratio : FnScope ["value", "part"] ["value"] (defScope s_is_ratio) := ⟨rfl, rfl, rfl, by decide +kernel, rfl, by decide +kernel, by decide +kernel⟩
theorem ok_is_ratio (T : Tx K mg) (c_is_whole : Cal P w K mg base 1 "is_whole" (spP K f_is_whole) []) {f : Addr} {fd : FuncData} (F : Fun K "is_ratio" "is_ratio" s_is_ratio f fd) : FnOk P w K mg base CX0 2 f fd ["value"] (spP K f_is_ratio) :=
  fn_pure F sc_is_ratio fun H0 F0 R cdv B outer s H E hr =>
  (ss_cons (ss_if (L2.PW.pt (sw_or (st_not (st_val (se_isi (pe_callB call_isi (by rfl) T.n_isinstance (by decide +kernel) (pa_cons (se_varB 0) (pa_cons (pe_bltn (by rfl) T.n_tuple (by decide +kernel) rfl) pa_nil)))))) (sw_or (st_ne rfl (u64 hr) (eb_of (se_cb (c_lenA.or (c_lenK.or c_lenS)) (pe_callB (c_len rfl) (by rfl) T.n_len boot_len (sb_cons (se_varB 0) sb_nil)))) (eb_of se_int)) (sw_or1 (st_not (st_val (se_cb (c_all) (pe_callB (cr_all rfl) (by rfl) T.n_all (by decide +kernel) (sb_cons (eb_of (ee_of (sf_lc (own := [("part", 1)]) rfl sc_is_ratio.nd (si_seq rfl (se_var 0)) (blkOk_by (N := ["value", "part"]) (sc := defScope s_is_ratio) (by decide +kernel)) (fun _ _ _ _ _ => (sg_name 1 sc_is_ratio.nd)) (fun _ _ _ _ _ => sts_nil) (fun _ _ _ _ _ => (se_call (pe_c c_is_whole hr (by decide) (by rfl) (sa_cons (se_var 1) sa_nil)))) (by decide)))) sb_nil))))))))) (ss_one (ss_ret se_bl)) ss_nil)
    (ss_one (ss_ret (se_andV (se_gt (eb_of (se_ix rfl (se_varB 0) (eb_of se_int))) (eb_of se_int)) (se_one (se_eq rfl (u64 hr) (eb_of (se_cb c_gcd (pe_callBfun cr_gcd (by rfl) T.b_gcd (sb_cons (eb_of (se_ix rfl (se_varB 0) (eb_of se_int))) (sb_cons (eb_of (se_ix rfl (se_varB 0) (eb_of se_int))) sb_nil))))) (eb_of se_int)))))))
abbrev s_is_vector : Stmt := topS 22
theorem sc_is_vector : FnScope ["value", "part"] ["value"] (defScope s_is_vector) := ⟨rfl, rfl, rfl, by decide +kernel, rfl, by decide +kernel, by decide +kernel⟩
theorem ok_is_vector (T : Tx K mg) (c_is_ratio : Cal P w K mg base 2 "is_ratio" (spP K f_is_ratio) []) {f : Addr} {fd : FuncData} (F : Fun K "is_vector" "is_vector" s_is_vector f fd) : FnOk P w K mg base CX0 3 f fd ["value"] (spP K f_is_vector) :=
  fn_pure F sc_is_vector fun H0 F0 R cdv B outer s H E hr =>
  (ss_one (ss_ret (se_andV (se_isi (pe_callB call_isi (by rfl) T.n_isinstance (by decide +kernel) (pa_cons (se_varB 0) (pa_cons (pe_bltn (by rfl) T.n_tuple (by decide +kernel) rfl) pa_nil)))) (se_andV (se_chn op_le op_le r_le r_le (eb_of se_int) (eb_of (se_cb (c_lenA.or (c_lenK.or c_lenS)) (pe_callB (c_len rfl) (by rfl) T.n_len boot_len (sb_cons (se_varB 0) sb_nil)))) (eb_of (se_gc (by rfl) T.g_MOST (fun F => .int _)))) (se_one (se_cb (c_all) (pe_callB (cr_all rfl) (by rfl) T.n_all (by decide +kernel) (sb_cons (eb_of (ee_of (sf_lc (own := [("part", 1)]) rfl sc_is_vector.nd (si_seq rfl (se_var 0)) (blkOk_by (N := ["value", "part"]) (sc := defScope s_is_vector) (by decide +kernel)) (fun _ _ _ _ _ => (sg_name 1 sc_is_vector.nd)) (fun _ _ _ _ _ => sts_nil) (fun _ _ _ _ _ => (se_call (pe_c c_is_ratio hr (by decide) (by rfl) (sa_cons (se_var 1) sa_nil)))) (by decide)))) sb_nil))))))))
abbrev s_is_budget : Stmt := topS 28
theorem sc_is_budget : FnScope ["value", "goods", "part"] ["value", "goods"] (defScope s_is_budget) := ⟨rfl, rfl, rfl, by decide +kernel, rfl, by decide +kernel, by decide +kernel⟩
theorem ok_is_budget (T : Tx K mg) (c_is_vector : Cal P w K mg base 3 "is_vector" (spP K f_is_vector) []) {f : Addr} {fd : FuncData} (F : Fun K "is_budget" "is_budget" s_is_budget f fd) : FnOk P w K mg base CX0 4 f fd ["value", "goods"] (spP K f_is_budget) :=
  fn_pure F sc_is_budget fun H0 F0 R cdv B outer s H E hr =>
  (ss_cons (ss_if (L2.PW.pt (sw_or (st_not (st_val (se_isi (pe_callB call_isi (by rfl) T.n_isinstance (by decide +kernel) (pa_cons (se_varB 0) (pa_cons (pe_bltn (by rfl) T.n_tuple (by decide +kernel) rfl) pa_nil)))))) (sw_or (st_ne rfl (u64 hr) (eb_of (se_cb (c_lenA.or (c_lenK.or c_lenS)) (pe_callB (c_len rfl) (by rfl) T.n_len boot_len (sb_cons (se_varB 0) sb_nil)))) (eb_of se_int)) (sw_or1 (st_not (st_val (se_cb (c_all) (pe_callB (cr_all rfl) (by rfl) T.n_all (by decide +kernel) (sb_cons (eb_of (ee_of (sf_lc (own := [("part", 2)]) rfl sc_is_budget.nd (si_seq rfl (se_var 0)) (blkOk_by (N := ["value", "goods", "part"]) (sc := defScope s_is_budget) (by decide +kernel)) (fun _ _ _ _ _ => (sg_name 2 sc_is_budget.nd)) (fun _ _ _ _ _ => sts_nil) (fun _ _ _ _ _ => (se_call (pe_c c_is_vector hr (by decide) (by rfl) (sa_cons (se_var 2) sa_nil)))) (by decide)))) sb_nil))))))))) (ss_one (ss_ret se_bl)) ss_nil)
    (ss_cons (ss_if (st_not (st_val (se_cb (c_all) (pe_callB (cr_all rfl) (by rfl) T.n_all (by decide +kernel) (sb_cons (eb_of (ee_of (sf_lc (own := [("part", 2)]) rfl sc_is_budget.nd (si_seq rfl (se_var 0)) (blkOk_by (N := ["value", "goods", "part"]) (sc := defScope s_is_budget) (by decide +kernel)) (fun _ _ _ _ _ => (sg_name 2 sc_is_budget.nd)) (fun _ _ _ _ _ => sts_nil) (fun _ _ _ _ _ => (se_eq rfl (u64 hr) (eb_of (se_cb (c_lenA.or (c_lenK.or c_lenS)) (pe_callB (c_len rfl) (by rfl) T.n_len boot_len (sb_cons (se_varB 2) sb_nil)))) (se_varB 1))) (by decide)))) sb_nil))))) (ss_one (ss_ret se_bl)) ss_nil)
    (ss_cons (ss_if (L2.PW.pt (sw_or (st_not (st_val (se_cb (c_all) (pe_callB (cr_all rfl) (by rfl) T.n_all (by decide +kernel) (sb_cons (eb_of (ee_of (sf_lc (own := [("part", 2)]) rfl sc_is_budget.nd (si_seq rfl (se_ix rfl (se_varB 0) (eb_of se_int))) (blkOk_by (N := ["value", "goods", "part"]) (sc := defScope s_is_budget) (by decide +kernel)) (fun _ _ _ _ _ => (sg_name 2 sc_is_budget.nd)) (fun _ _ _ _ _ => sts_nil) (fun _ _ _ _ _ => (se_gt (eb_of (se_ix rfl (se_varB 2) (eb_of se_int))) (eb_of se_int))) (by decide)))) sb_nil))))) (sw_or1 (st_not (st_val (se_cb (c_all) (pe_callB (cr_all rfl) (by rfl) T.n_all (by decide +kernel) (sb_cons (eb_of (ee_of (sf_lc (own := [("part", 2)]) rfl sc_is_budget.nd (si_seq rfl (se_ix rfl (se_varB 0) (eb_of se_int))) (blkOk_by (N := ["value", "goods", "part"]) (sc := defScope s_is_budget) (by decide +kernel)) (fun _ _ _ _ _ => (sg_name 2 sc_is_budget.nd)) (fun _ _ _ _ _ => sts_nil) (fun _ _ _ _ _ => (se_ge (eb_of (se_ix rfl (se_varB 2) (eb_of se_int))) (eb_of se_int))) (by decide)))) sb_nil)))))))) (ss_one (ss_ret se_bl)) ss_nil)
    (ss_one (ss_ret (se_cb (c_any) (pe_callB (cr_any rfl) (by rfl) T.n_any (by decide +kernel) (sb_cons (eb_of (ee_of (sf_lc (own := [("part", 2)]) rfl sc_is_budget.nd (si_seq rfl (se_ix rfl (se_varB 0) (eb_of se_int))) (blkOk_by (N := ["value", "goods", "part"]) (sc := defScope s_is_budget) (by decide +kernel)) (fun _ _ _ _ _ => (sg_name 2 sc_is_budget.nd)) (fun _ _ _ _ _ => sts_nil) (fun _ _ _ _ _ => (se_gt (eb_of (se_ix rfl (se_varB 2) (eb_of se_int))) (eb_of se_int))) (by decide)))) sb_nil))))))))
abbrev s_are_budgets_of : Stmt := topS 29
theorem sc_are_budgets_of : FnScope ["value", "goods", "row"] ["value", "goods"] (defScope s_are_budgets_of) := ⟨rfl, rfl, rfl, by decide +kernel, rfl, by decide +kernel, by decide +kernel⟩
theorem ok_are_budgets_of (T : Tx K mg) (c_is_budget : Cal P w K mg base 4 "is_budget" (spP K f_is_budget) []) {f : Addr} {fd : FuncData} (F : Fun K "are_budgets_of" "are_budgets_of" s_are_budgets_of f fd) : FnOk P w K mg base CX0 5 f fd ["value", "goods"] (spP K f_are_budgets_of) :=
  fn_pure F sc_are_budgets_of fun H0 F0 R cdv B outer s H E hr =>
  (ss_cons (ss_if (L2.PW.pt (sw_or (st_not (st_val (se_isi (pe_callB call_isi (by rfl) T.n_isinstance (by decide +kernel) (pa_cons (se_varB 0) (pa_cons (pe_bltn (by rfl) T.n_tuple (by decide +kernel) rfl) pa_nil)))))) (sw_or (st_ne rfl (u64 hr) (eb_of (se_cb (c_lenA.or (c_lenK.or c_lenS)) (pe_callB (c_len rfl) (by rfl) T.n_len boot_len (sb_cons (se_varB 0) sb_nil)))) (eb_of se_int)) (sw_or (st_not (st_val (se_isi (pe_callB call_isi (by rfl) T.n_isinstance (by decide +kernel) (pa_cons (eb_of (se_ix rfl (se_varB 0) (eb_of se_int))) (pa_cons (pe_bltn (by rfl) T.n_str (by decide +kernel) rfl) pa_nil)))))) (sw_or1 (st_ne rfl (u64 hr) (eb_of (se_ix rfl (se_varB 0) (eb_of se_int))) (eb_of se_str))))))) (ss_one (ss_ret se_bl)) ss_nil)
    (ss_cons (ss_if (L2.PW.pt (sw_or (st_not (st_val (se_isi (pe_callB call_isi (by rfl) T.n_isinstance (by decide +kernel) (pa_cons (eb_of (se_ix rfl (se_varB 0) (eb_of se_int))) (pa_cons (pe_bltn (by rfl) T.n_tuple (by decide +kernel) rfl) pa_nil)))))) (sw_or1 (st_not (st_chn op_le op_le r_le r_le (eb_of se_int) (eb_of (se_cb (c_lenA.or (c_lenK.or c_lenS)) (pe_callB (c_len rfl) (by rfl) T.n_len boot_len (sb_cons (eb_of (se_ix rfl (se_varB 0) (eb_of se_int))) sb_nil)))) (eb_of (se_gc (by rfl) T.g_MOST_BUDGETS (fun F => .int _)))))))) (ss_one (ss_ret se_bl)) ss_nil)
    (ss_one (ss_ret (se_cb (c_all) (pe_callB (cr_all rfl) (by rfl) T.n_all (by decide +kernel) (sb_cons (eb_of (ee_of (sf_lc (own := [("row", 2)]) rfl sc_are_budgets_of.nd (si_seq rfl (se_ix rfl (se_varB 0) (eb_of se_int))) (blkOk_by (N := ["value", "goods", "row"]) (sc := defScope s_are_budgets_of) (by decide +kernel)) (fun _ _ _ _ _ => (sg_name 2 sc_are_budgets_of.nd)) (fun _ _ _ _ _ => sts_nil) (fun _ _ _ _ _ => (se_call (pe_c c_is_budget hr (by decide) (by rfl) (sa_cons (se_var 2) (sa_cons (se_var 1) sa_nil))))) (by decide)))) sb_nil)))))))
abbrev s_is_budgets : Stmt := topS 30
theorem sc_is_budgets : FnScope ["value", "goods"] ["value"] (defScope s_is_budgets) := ⟨rfl, rfl, rfl, by decide +kernel, rfl, by decide +kernel, by decide +kernel⟩
theorem ok_is_budgets (T : Tx K mg) (c_are_budgets_of : Cal P w K mg base 5 "are_budgets_of" (spP K f_are_budgets_of) []) {f : Addr} {fd : FuncData} (F : Fun K "is_budgets" "is_budgets" s_is_budgets f fd) : FnOk P w K mg base CX0 6 f fd ["value"] (spP K f_is_budgets) :=
  fn_pure F sc_is_budgets fun H0 F0 R cdv B outer s H E hr =>
  (ss_one (ss_ret (se_cb (c_any) (pe_callB (cr_any rfl) (by rfl) T.n_any (by decide +kernel) (sb_cons (eb_of (ee_of (sf_lc (own := [("goods", 1)]) rfl sc_is_budgets.nd (si_rg2 (pi_range2 (by rfl) T.n_range (sb_cons (eb_of (se_gc (by rfl) T.g_LEAST_GOODS (fun F => .int _))) (sb_cons (eb_of (se_add rfl (eb_of (se_gc (by rfl) T.g_MOST_GOODS (fun F => .int _))) (eb_of se_int))) sb_nil)))) (blkOk_by (N := ["value", "goods"]) (sc := defScope s_is_budgets) (by decide +kernel)) (fun _ _ _ _ _ => (sg_name 1 sc_is_budgets.nd)) (fun _ _ _ _ _ => sts_nil) (fun _ _ _ _ _ => (se_call (pe_c c_are_budgets_of hr (by decide) (by rfl) (sa_cons (se_var 0) (sa_cons (se_var 1) sa_nil))))) (by decide)))) sb_nil)))))
abbrev s_need_budgets : Stmt := topS 31
theorem sc_need_budgets : FnScope ["budgets"] ["budgets"] (defScope s_need_budgets) := ⟨rfl, rfl, rfl, by decide +kernel, rfl, by decide +kernel, by decide +kernel⟩
theorem ok_need_budgets (T : Tx K mg) (c_is_budgets : Cal P w K mg base 6 "is_budgets" (spP K f_is_budgets) []) {f : Addr} {fd : FuncData} (F : Fun K "need_budgets" "need_budgets" s_need_budgets f fd) : FnOk P w K mg base CX0 7 f fd ["budgets"] (spP K f_need_budgets) :=
  fn_pure F sc_need_budgets fun H0 F0 R cdv B outer s H E hr =>
  (ss_one (ss_if (st_not (st_val (se_call (pe_c c_is_budgets hr (by decide) (by rfl) (sa_cons (se_var 0) sa_nil))))) (ss_one ss_never) ss_nil))
abbrev s_lowest : Stmt := topS 11
theorem sc_lowest : FnScope ["n", "d", "common"] ["n", "d"] (defScope s_lowest) := ⟨rfl, rfl, rfl, by decide +kernel, rfl, by decide +kernel, by decide +kernel⟩
theorem ok_lowest (T : Tx K mg) {f : Addr} {fd : FuncData} (F : Fun K "lowest" "lowest" s_lowest f fd) : FnOk P w K mg base CX0 1 f fd ["n", "d"] (spP K f_lowest) :=
  fn_pure F sc_lowest fun H0 F0 R cdv B outer s H E hr =>
  (ss_cons (ss_set (ps_set (i := 2) sc_lowest.nd rfl (.inl rfl) (se_ite (st_gt (se_varB 1) (eb_of se_int)) (se_cb c_gcd (pe_callBfun cr_gcd (by rfl) T.b_gcd (sb_cons (se_varB 0) (sb_cons (se_varB 1) sb_nil)))) (se_neg (eb_of (se_cb c_gcd (pe_callBfun cr_gcd (by rfl) T.b_gcd (sb_cons (se_varB 0) (sb_cons (se_varB 1) sb_nil)))))))))
    (ss_one (ss_ret (se_tup (sa_cons (se_fdiv (se_varB 0) (se_varB 2)) (sa_cons (se_fdiv (se_varB 1) (se_varB 2)) sa_nil))))))
abbrev s_plus : Stmt := topS 12
theorem sc_plus : FnScope ["one", "other"] ["one", "other"] (defScope s_plus) := ⟨rfl, rfl, rfl, by decide +kernel, rfl, by decide +kernel, by decide +kernel⟩
theorem ok_plus (T : Tx K mg) (c_lowest : Cal P w K mg base 1 "lowest" (spP K f_lowest) []) {f : Addr} {fd : FuncData} (F : Fun K "plus" "plus" s_plus f fd) : FnOk P w K mg base CX0 2 f fd ["one", "other"] (spP K f_plus) :=
  fn_pure F sc_plus fun H0 F0 R cdv B outer s H E hr =>
  (ss_one (ss_ret (se_call (pe_c c_lowest hr (by decide) (by rfl) (sa_cons (se_add rfl (eb_of (se_mulI (eb_of (se_ix rfl (se_varB 0) (eb_of se_int))) (eb_of (se_ix rfl (se_varB 1) (eb_of se_int))))) (eb_of (se_mulI (eb_of (se_ix rfl (se_varB 1) (eb_of se_int))) (eb_of (se_ix rfl (se_varB 0) (eb_of se_int)))))) (sa_cons (se_mulI (eb_of (se_ix rfl (se_varB 0) (eb_of se_int))) (eb_of (se_ix rfl (se_varB 1) (eb_of se_int)))) sa_nil))))))
abbrev s_total : Stmt := topS 17
theorem sc_total : FnScope ["ratios", "found", "each"] ["ratios"] (defScope s_total) := ⟨rfl, rfl, rfl, by decide +kernel, rfl, by decide +kernel, by decide +kernel⟩
theorem ok_total (T : Tx K mg) (c_plus : Cal P w K mg base 2 "plus" (spP K f_plus) []) {f : Addr} {fd : FuncData} (F : Fun K "total" "total" s_total f fd) : FnOk P w K mg base CX0 3 f fd ["ratios"] (spP K f_total) :=
  fn_pure F sc_total fun H0 F0 R cdv B outer s H E hr =>
  (ss_cons (ss_set (ps_set (i := 1) sc_total.nd rfl (.inl rfl) (se_gk (by rfl) T.k_ZERO rfl (fun F => (.cons (.int _) (.cons (.int _) .nil))))))
    (ss_cons (ss_for (ps_for PassesOwn.never rfl (si_seq rfl (se_var 0)) (sg_name 2 sc_total.nd) (ss_one (ss_set (ps_set (i := 1) sc_total.nd rfl (.inl rfl) (se_call (pe_c c_plus hr (by decide) (by rfl) (sa_cons (se_var 1) (sa_cons (se_var 2) sa_nil)))))))))
    (ss_one (ss_ret (se_var 1)))))
abbrev s_times : Stmt := topS 14
theorem sc_times : FnScope ["one", "other"] ["one", "other"] (defScope s_times) := ⟨rfl, rfl, rfl, by decide +kernel, rfl, by decide +kernel, by decide +kernel⟩
theorem ok_times (T : Tx K mg) (c_lowest : Cal P w K mg base 1 "lowest" (spP K f_lowest) []) {f : Addr} {fd : FuncData} (F : Fun K "times" "times" s_times f fd) : FnOk P w K mg base CX0 2 f fd ["one", "other"] (spP K f_times) :=
  fn_pure F sc_times fun H0 F0 R cdv B outer s H E hr =>
  (ss_one (ss_ret (se_call (pe_c c_lowest hr (by decide) (by rfl) (sa_cons (se_mulI (eb_of (se_ix rfl (se_varB 0) (eb_of se_int))) (eb_of (se_ix rfl (se_varB 1) (eb_of se_int)))) (sa_cons (se_mulI (eb_of (se_ix rfl (se_varB 0) (eb_of se_int))) (eb_of (se_ix rfl (se_varB 1) (eb_of se_int)))) sa_nil))))))
abbrev s_dot : Stmt := topS 23
theorem sc_dot : FnScope ["one", "other", "left", "right"] ["one", "other"] (defScope s_dot) := ⟨rfl, rfl, rfl, by decide +kernel, rfl, by decide +kernel, by decide +kernel⟩
theorem ok_dot (T : Tx K mg) (c_total : Cal P w K mg base 3 "total" (spP K f_total) []) (c_times : Cal P w K mg base 2 "times" (spP K f_times) []) {f : Addr} {fd : FuncData} (F : Fun K "dot" "dot" s_dot f fd) : FnOk P w K mg base CX0 4 f fd ["one", "other"] (spP K f_dot) :=
  fn_pure F sc_dot fun H0 F0 R cdv B outer s H E hr =>
  (ss_one (ss_ret (se_call (pe_c c_total hr (by decide) (by rfl) (sa_cons (ee_of (sf_lc (own := [("left", 2), ("right", 3)]) rfl sc_dot.nd (si_zip2 rfl (pi_zip2 (by rfl) T.n_zip (sa_cons (se_var 0) (sa_cons (se_var 1) sa_nil)))) (blkOk_by (N := ["one", "other", "left", "right"]) (sc := defScope s_dot) (by decide +kernel)) (fun _ _ _ _ _ => (sg_tup rfl rfl (sgs_cons (sg_name 2 sc_dot.nd) (sgs_cons (sg_name 3 sc_dot.nd) sgs_nil)))) (fun _ _ _ _ _ => sts_nil) (fun _ _ _ _ _ => (se_call (pe_c c_times hr (by decide) (by rfl) (sa_cons (se_var 2) (sa_cons (se_var 3) sa_nil))))) (by decide))) sa_nil)))))
abbrev s_costs_of : Stmt := topS 32
theorem sc_costs_of : FnScope ["budgets", "prices", "bundle", "other"] ["budgets"] (defScope s_costs_of) := ⟨rfl, rfl, rfl, by decide +kernel, rfl, by decide +kernel, by decide +kernel⟩
theorem ok_costs_of (T : Tx K mg) (c_dot : Cal P w K mg base 4 "dot" (spP K f_dot) []) {f : Addr} {fd : FuncData} (F : Fun K "costs_of" "costs_of" s_costs_of f fd) : FnOk P w K mg base CX0 5 f fd ["budgets"] (spP K f_costs_of) :=
  fn_pure F sc_costs_of fun H0 F0 R cdv B outer s H E hr =>
  (ss_one (ss_ret (se_cb (c_tuple) (pe_callTy call_tuple_of (by rfl) T.n_tuple (by decide +kernel) (sb_cons (eb_of (ee_of (sf_lc (own := [("prices", 1), ("bundle", 2)]) rfl sc_costs_of.nd (si_seq rfl (se_ix rfl (se_varB 0) (eb_of se_int))) (blkOk_by (N := ["budgets", "prices", "bundle", "other"]) (sc := defScope s_costs_of) (by decide +kernel)) (fun _ _ _ _ _ => (sg_tup rfl rfl (sgs_cons (sg_name 1 sc_costs_of.nd) (sgs_cons (sg_name 2 sc_costs_of.nd) sgs_nil)))) (fun _ _ _ _ _ => sts_nil) (fun _ _ _ _ _ => (se_cb (c_tuple) (pe_callTy call_tuple_of (by rfl) T.n_tuple (by decide +kernel) (sb_cons (eb_of (ee_of (sf_lc (own := [("other", 3)]) rfl sc_costs_of.nd (si_seq rfl (se_ix rfl (se_varB 0) (eb_of se_int))) (blkOk_by (by kernel_rfl)) (fun _ _ _ _ _ => (sg_name 3 sc_costs_of.nd)) (fun _ _ _ _ _ => sts_nil) (fun _ _ _ _ _ => (se_call (pe_c c_dot hr (by decide) (by rfl) (sa_cons (se_var 1) (sa_cons (se_ix rfl (se_varB 3) (eb_of se_int)) sa_nil))))) (by decide)))) sb_nil)))) (by decide)))) sb_nil)))))
abbrev s_costs : Stmt := topS 33
theorem sc_costs : FnScope ["budgets"] ["budgets"] (defScope s_costs) := ⟨rfl, rfl, rfl, by decide +kernel, rfl, by decide +kernel, by decide +kernel⟩
theorem ok_costs (T : Tx K mg) (c_need_budgets : Cal P w K mg base 7 "need_budgets" (spP K f_need_budgets) []) (c_costs_of : Cal P w K mg base 5 "costs_of" (spP K f_costs_of) []) {f : Addr} {fd : FuncData} (F : Fun K "costs" "costs" s_costs f fd) : FnOk P w K mg base CX0 8 f fd ["budgets"] (spP K f_costs) :=
  fn_pure F sc_costs fun H0 F0 R cdv B outer s H E hr =>
  (ss_cons (ss_expr (ps_expr (se_call (pe_c c_need_budgets hr (by decide) (by rfl) (sa_cons (se_var 0) sa_nil)))))
    (ss_one (ss_ret (se_call (pe_c c_costs_of hr (by decide) (by rfl) (sa_cons (se_var 0) sa_nil))))))
abbrev s_is_chance : Stmt := topS 10
theorem sc_is_chance : FnScope ["value"] ["value"] (defScope s_is_chance) := ⟨rfl, rfl, rfl, by decide +kernel, rfl, by decide +kernel, by decide +kernel⟩
theorem ok_is_chance (T : Tx K mg) (c_is_ratio : Cal P w K mg base 2 "is_ratio" (spP K f_is_ratio) []) {f : Addr} {fd : FuncData} (F : Fun K "is_chance" "is_chance" s_is_chance f fd) : FnOk P w K mg base CX0 3 f fd ["value"] (spP K f_is_chance) :=
  fn_pure F sc_is_chance fun H0 F0 R cdv B outer s H E hr =>
  (ss_one (ss_ret (se_andV (se_call (pe_c c_is_ratio hr (by decide) (by rfl) (sa_cons (se_var 0) sa_nil))) (se_one (se_chn op_le op_le r_le r_le (eb_of se_int) (eb_of (se_ix rfl (se_varB 0) (eb_of se_int))) (eb_of (se_ix rfl (se_varB 0) (eb_of se_int))))))))
abbrev s_need_share : Stmt := topS 35
theorem sc_need_share : FnScope ["share"] ["share"] (defScope s_need_share) := ⟨rfl, rfl, rfl, by decide +kernel, rfl, by decide +kernel, by decide +kernel⟩
theorem ok_need_share (T : Tx K mg) (c_is_chance : Cal P w K mg base 3 "is_chance" (spP K f_is_chance) []) {f : Addr} {fd : FuncData} (F : Fun K "need_share" "need_share" s_need_share f fd) : FnOk P w K mg base CX0 4 f fd ["share"] (spP K f_need_share) :=
  fn_pure F sc_need_share fun H0 F0 R cdv B outer s H E hr =>
  (ss_one (ss_if (st_not (st_val (se_call (pe_c c_is_chance hr (by decide) (by rfl) (sa_cons (se_var 0) sa_nil))))) (ss_one ss_never) ss_nil))
abbrev s_is_less : Stmt := topS 16
theorem sc_is_less : FnScope ["one", "other"] ["one", "other"] (defScope s_is_less) := ⟨rfl, rfl, rfl, by decide +kernel, rfl, by decide +kernel, by decide +kernel⟩
theorem ok_is_less (T : Tx K mg) {f : Addr} {fd : FuncData} (F : Fun K "is_less" "is_less" s_is_less f fd) : FnOk P w K mg base CX0 1 f fd ["one", "other"] (spP K f_is_less) :=
  fn_pure F sc_is_less fun H0 F0 R cdv B outer s H E hr =>
  (ss_one (ss_ret (se_lt (eb_of (se_mulI (eb_of (se_ix rfl (se_varB 0) (eb_of se_int))) (eb_of (se_ix rfl (se_varB 1) (eb_of se_int))))) (eb_of (se_mulI (eb_of (se_ix rfl (se_varB 1) (eb_of se_int))) (eb_of (se_ix rfl (se_varB 0) (eb_of se_int))))))))
abbrev s_reaches_strictly : Stmt := topS 37
theorem sc_reaches_strictly : FnScope ["costs", "share", "one", "other"] ["costs", "share", "one", "other"] (defScope s_reaches_strictly) := ⟨rfl, rfl, rfl, by decide +kernel, rfl, by decide +kernel, by decide +kernel⟩
theorem ok_reaches_strictly (T : Tx K mg) (c_is_less : Cal P w K mg base 1 "is_less" (spP K f_is_less) []) (c_times : Cal P w K mg base 2 "times" (spP K f_times) []) {f : Addr} {fd : FuncData} (F : Fun K "reaches_strictly" "reaches_strictly" s_reaches_strictly f fd) : FnOk P w K mg base CX0 3 f fd ["costs", "share", "one", "other"] (spP K f_reaches_strictly) :=
  fn_pure F sc_reaches_strictly fun H0 F0 R cdv B outer s H E hr =>
  (ss_one (ss_ret (se_andV (se_ne rfl (u64 hr) (se_varB 2) (se_varB 3)) (se_one (se_call (pe_c c_is_less hr (by decide) (by rfl) (sa_cons (se_ix rfl (eb_of (se_ix rfl (se_varB 0) (se_varB 2))) (se_varB 3)) (sa_cons (se_call (pe_c c_times hr (by decide) (by rfl) (sa_cons (se_var 1) (sa_cons (se_ix rfl (eb_of (se_ix rfl (se_varB 0) (se_varB 2))) (se_varB 2)) sa_nil)))) sa_nil))))))))
abbrev s_reaches : Stmt := topS 36
theorem sc_reaches : FnScope ["costs", "share", "one", "other"] ["costs", "share", "one", "other"] (defScope s_reaches) := ⟨rfl, rfl, rfl, by decide +kernel, rfl, by decide +kernel, by decide +kernel⟩
theorem ok_reaches (T : Tx K mg) (c_is_less : Cal P w K mg base 1 "is_less" (spP K f_is_less) []) (c_times : Cal P w K mg base 2 "times" (spP K f_times) []) {f : Addr} {fd : FuncData} (F : Fun K "reaches" "reaches" s_reaches f fd) : FnOk P w K mg base CX0 3 f fd ["costs", "share", "one", "other"] (spP K f_reaches) :=
  fn_pure F sc_reaches fun H0 F0 R cdv B outer s H E hr =>
  (ss_one (ss_ret (se_andV (se_ne rfl (u64 hr) (se_varB 2) (se_varB 3)) (se_one (se_notV (se_call (pe_c c_is_less hr (by decide) (by rfl) (sa_cons (se_call (pe_c c_times hr (by decide) (by rfl) (sa_cons (se_var 1) (sa_cons (se_ix rfl (eb_of (se_ix rfl (se_varB 0) (se_varB 2))) (se_varB 2)) sa_nil)))) (sa_cons (se_ix rfl (eb_of (se_ix rfl (se_varB 0) (se_varB 2))) (se_varB 3)) sa_nil)))))))))
abbrev s_way_back : Stmt := topS 38
theorem sc_way_back : FnScope ["costs", "share", "one", "other", "found", "ahead", "waiting", "place", "here"] ["costs", "share", "one", "other"] (defScope s_way_back) := ⟨rfl, rfl, rfl, by decide +kernel, rfl, by decide +kernel, by decide +kernel⟩
theorem ok_way_back (T : Tx K mg) (c_reaches : Cal P w K mg base 3 "reaches" (spP K f_reaches) []) {f : Addr} {fd : FuncData} (F : Fun K "way_back" "way_back" s_way_back f fd) : FnOk P w K mg base CX0 4 f fd ["costs", "share", "one", "other"] (spP K f_way_back) :=
  fn_pure F sc_way_back fun H0 F0 R cdv B outer s H E hr =>
  (ss_cons (ss_par2 (k1 := true) (k2 := true) (ps_par (i := 5) (j := 6) rfl sc_way_back.nd rfl rfl (by decide) rfl rfl (pa_cons (sf_disp1 (pe_disp (pps_cons (se_var 2) se_non pps_nil) rfl rfl (by simp) (by decide))) (pa_cons (sf_lst (sa_cons (se_var 2) sa_nil)) pa_nil)) (by rfl)))
    (ss_cons (ss_while (ps_while PassesOwn.never (st_ne rfl (u64 hr) (se_varB 6) (eb_of (ee_of (sf_lst sa_nil)))) (ss_cons (ss_par2 (k1 := false) (k2 := true) (ps_par (i := 8) (j := 6) rfl sc_way_back.nd rfl rfl (by decide) rfl rfl (pa_cons (se_ix rfl (se_varB 6) (eb_of se_int)) (pa_cons (sf_slL rfl (se_varB 6) (so_some se_int) so_none) pa_nil)) (by rfl)))
    (ss_one (ss_for (ps_for PassesOwn.never rfl (si_rg1 (pi_range1 (by rfl) T.n_range (sb_cons (eb_of (se_cb (c_lenA.or (c_lenK.or c_lenS)) (pe_callB (c_len rfl) (by rfl) T.n_len boot_len (sb_cons (se_varB 0) sb_nil)))) sb_nil))) (sg_name 7 sc_way_back.nd) (ss_one (ss_if (L2.PW.pt (sw_and (st_dnin (pt_cmp (pc_dnotin (hu_of hr) (se_varB 7) (se_varB 5)))) (sw_and1 (st_val (se_call (pe_c c_reaches hr (by decide) (by rfl) (sa_cons (se_var 0) (sa_cons (se_var 1) (sa_cons (se_var 8) (sa_cons (se_var 7) sa_nil)))))))))) (ss_cons (ss_put (ps_dput (hu_of hr) (pv 5) (se_var 7) (se_var 8) (by rfl)))
    (ss_one (ss_app (ps_expr (pe_bm PySem.F.plainAttrs_list PySem.F.slot_list_append PySem.F.type_list_append mt_append (pv 6) (pa_cons (se_var 7) pa_nil)))))) ss_nil))))))))
    (ss_cons (ss_if (st_dnin (pt_cmp (pc_dnotin (hu_of hr) (se_varB 3) (se_varB 5)))) (ss_one (ss_ret se_non)) ss_nil)
    (ss_cons (ss_set (ps_set (i := 4) sc_way_back.nd rfl (.inl rfl) (ee_of (sf_lst (sa_cons (se_var 3) sa_nil)))))
    (ss_cons (ss_while (ps_while PassesOwn.never (st_isnot (eb_of (se_dget (pe_dget (hu_of hr) (se_varB 5) (eb_of (se_ix rfl (se_varB 4) (eb_of se_int))) (fun _ _ => rfl)))) (eb_of se_non)) (ss_one (ss_set (ps_set (i := 4) sc_way_back.nd rfl (.inl rfl) (ee_of (sf_addL (eb_of (ee_of (sf_lst (sa_cons (se_dget (pe_dget (hu_of hr) (se_varB 5) (eb_of (se_ix rfl (se_varB 4) (eb_of se_int))) (fun _ _ => rfl))) sa_nil)))) (se_varB 4))))))))
    (ss_one (ss_ret (se_cb (c_tuple) (pe_callTy call_tuple_of (by rfl) T.n_tuple (by decide +kernel) (sb_cons (se_varB 4) sb_nil))))))))))
abbrev s_ring_in : Stmt := topS 39
theorem sc_ring_in : FnScope ["costs", "share", "one", "other", "way"] ["costs", "share"] (defScope s_ring_in) := ⟨rfl, rfl, rfl, by decide +kernel, rfl, by decide +kernel, by decide +kernel⟩
theorem ok_ring_in (T : Tx K mg) (c_reaches_strictly : Cal P w K mg base 3 "reaches_strictly" (spP K f_reaches_strictly) []) (c_way_back : Cal P w K mg base 4 "way_back" (spP K f_way_back) []) {f : Addr} {fd : FuncData} (F : Fun K "ring_in" "ring_in" s_ring_in f fd) : FnOk P w K mg base CX0 5 f fd ["costs", "share"] (spP K f_ring_in) :=
  fn_pure F sc_ring_in fun H0 F0 R cdv B outer s H E hr =>
  (ss_cons (ss_for (ps_for PassesOwn.never rfl (si_rg1 (pi_range1 (by rfl) T.n_range (sb_cons (eb_of (se_cb (c_lenA.or (c_lenK.or c_lenS)) (pe_callB (c_len rfl) (by rfl) T.n_len boot_len (sb_cons (se_varB 0) sb_nil)))) sb_nil))) (sg_name 2 sc_ring_in.nd) (ss_one (ss_for (ps_for PassesOwn.never rfl (si_rg1 (pi_range1 (by rfl) T.n_range (sb_cons (eb_of (se_cb (c_lenA.or (c_lenK.or c_lenS)) (pe_callB (c_len rfl) (by rfl) T.n_len boot_len (sb_cons (se_varB 0) sb_nil)))) sb_nil))) (sg_name 3 sc_ring_in.nd) (ss_one (ss_if (st_val (se_call (pe_c c_reaches_strictly hr (by decide) (by rfl) (sa_cons (se_var 0) (sa_cons (se_var 1) (sa_cons (se_var 2) (sa_cons (se_var 3) sa_nil))))))) (ss_cons (ss_set (ps_set (i := 4) sc_ring_in.nd rfl (.inl rfl) (se_call (pe_c c_way_back hr (by decide) (by rfl) (sa_cons (se_var 0) (sa_cons (se_var 1) (sa_cons (se_var 3) (sa_cons (se_var 2) sa_nil))))))))
    (ss_one (ss_if (st_isnot (se_varB 4) (eb_of se_non)) (ss_one (ss_ret (se_add rfl (eb_of (se_tup (sa_cons (se_var 2) sa_nil))) (eb_of (se_sl rfl (se_varB 4) so_none (so_some (se_neg (eb_of se_int)))))))) ss_nil))) ss_nil)))))))
    (ss_one (ss_ret se_non)))
abbrev s_classes_of : Stmt := topS 42
theorem sc_classes_of : FnScope ["costs", "share", "many", "links", "one", "other", "left", "found", "ahead", "own"] ["costs", "share"] (defScope s_classes_of) := ⟨rfl, rfl, rfl, by decide +kernel, rfl, by decide +kernel, by decide +kernel⟩
theorem ok_classes_of (T : Tx K mg) (c_way_back : Cal P w K mg base 4 "way_back" (spP K f_way_back) []) {f : Addr} {fd : FuncData} (F : Fun K "classes_of" "classes_of" s_classes_of f fd) : FnOk P w K mg base CX0 5 f fd ["costs", "share"] (spP K f_classes_of) :=
  fn_pure F sc_classes_of fun H0 F0 R cdv B outer s H E hr =>
  (ss_cons (ss_set (ps_set (i := 2) sc_classes_of.nd rfl (.inl rfl) (se_cb (c_lenA.or (c_lenK.or c_lenS)) (pe_callB (c_len rfl) (by rfl) T.n_len boot_len (sb_cons (se_varB 0) sb_nil)))))
    (ss_cons (ss_setF (ps_set (i := 3) sc_classes_of.nd rfl (.inr rfl) sf_newT))
    (ss_cons (ss_for (ps_for PassesOwn.never rfl (si_rg1 (pi_range1 (by rfl) T.n_range (sb_cons (se_varB 2) sb_nil))) (sg_name 4 sc_classes_of.nd) (ss_one (ss_for (ps_for PassesOwn.never rfl (si_rg1 (pi_range1 (by rfl) T.n_range (sb_cons (se_varB 2) sb_nil))) (sg_name 5 sc_classes_of.nd) (ss_one (ss_put (ps_dput (hu_of hr) (pv 3) (se_tup (sa_cons (se_var 4) (sa_cons (se_var 5) sa_nil))) (se_orV (se_eq rfl (u64 hr) (se_varB 4) (se_varB 5)) (se_one (se_isnot (eb_of (se_call (pe_c c_way_back hr (by decide) (by rfl) (sa_cons (se_var 0) (sa_cons (se_var 1) (sa_cons (se_var 4) (sa_cons (se_var 5) sa_nil))))))) (eb_of se_non)))) (by rfl)))))))))
    (ss_cons (ss_par2 (k1 := false) (k2 := true) (ps_par (i := 6) (j := 7) rfl sc_classes_of.nd rfl rfl (by decide) rfl rfl (pa_cons (ee_of (sf_listRg (pe_listRg rfl (by rfl) T.n_list (prg_1 (by rfl) T.n_range (se_varB 2))))) (pa_cons (sf_lst sa_nil) pa_nil)) (by rfl)))
    (ss_cons (ss_while (ps_while PassesOwn.never (st_ne rfl (u64 hr) (se_varB 6) (eb_of (ee_of (sf_lst sa_nil)))) (ss_cons (ss_for (ps_for PassesOwn.never rfl (si_seq rfl (se_var 6)) (sg_name 4 sc_classes_of.nd) (ss_cons (ss_setLc (i := 8) (own := [("other", 5)]) rfl sc_classes_of.nd (si_seq rfl (se_var 6)) (blkOk_by (N := ["costs", "share", "many", "links", "one", "other", "left", "found", "ahead", "own"]) (sc := defScope s_classes_of) (by decide +kernel)) (fun _ _ _ _ _ => (sg_name 5 sc_classes_of.nd)) (fun _ _ _ _ _ => (sts_one (L2.PW.pt (sw_and (st_val (se_dget (pe_dget (hu_of hr) (se_varB 3) (eb_of (se_tup (sa_cons (se_var 5) (sa_cons (se_var 4) sa_nil)))) (fun _ _ => rfl)))) (sw_and1 (st_not (st_val (se_dget (pe_dget (hu_of hr) (se_varB 3) (eb_of (se_tup (sa_cons (se_var 4) (sa_cons (se_var 5) sa_nil)))) (fun _ _ => rfl)))))))))) (fun _ _ _ _ _ => (se_var 5)) (by decide))
    (ss_one (ss_if (st_eq rfl (u64 hr) (se_varB 8) (eb_of (ee_of (sf_lst sa_nil)))) (ss_cons (ss_set (ps_set (i := 9) sc_classes_of.nd rfl (.inr rfl) (ee_of (sf_lc (own := [("other", 5)]) rfl sc_classes_of.nd (si_seq rfl (se_var 6)) (blkOk_by (N := ["costs", "share", "many", "links", "one", "other", "left", "found", "ahead", "own"]) (sc := defScope s_classes_of) (by decide +kernel)) (fun _ _ _ _ _ => (sg_name 5 sc_classes_of.nd)) (fun _ _ _ _ _ => (sts_one (L2.PW.pt (sw_and (st_val (se_dget (pe_dget (hu_of hr) (se_varB 3) (eb_of (se_tup (sa_cons (se_var 4) (sa_cons (se_var 5) sa_nil)))) (fun _ _ => rfl)))) (sw_and1 (st_val (se_dget (pe_dget (hu_of hr) (se_varB 3) (eb_of (se_tup (sa_cons (se_var 5) (sa_cons (se_var 4) sa_nil)))) (fun _ _ => rfl))))))))) (fun _ _ _ _ _ => (se_var 5)) (by decide)))))
    (ss_one ss_break)) ss_nil)))))
    (ss_cons (ss_app (ps_expr (pe_bm PySem.F.plainAttrs_list PySem.F.slot_list_append PySem.F.type_list_append mt_append (pv 7) (pa_cons (se_var 9) pa_nil))))
    (ss_one (ss_setLc (i := 6) (own := [("other", 5)]) rfl sc_classes_of.nd (si_seq rfl (se_var 6)) (blkOk_by (N := ["costs", "share", "many", "links", "one", "other", "left", "found", "ahead", "own"]) (sc := defScope s_classes_of) (by decide +kernel)) (fun _ _ _ _ _ => (sg_name 5 sc_classes_of.nd)) (fun _ _ _ _ _ => (sts_one (st_nin rfl (u65 hr) (by rfl) (se_varB 5) (se_varB 9)))) (fun _ _ _ _ _ => (se_var 5)) (by decide)))))))
    (ss_one (ss_frz 7 (ss_ret (se_var 7)))))))))
abbrev s_least_of : Stmt := topS 18
theorem sc_least_of : FnScope ["ratios", "found", "each"] ["ratios"] (defScope s_least_of) := ⟨rfl, rfl, rfl, by decide +kernel, rfl, by decide +kernel, by decide +kernel⟩
theorem ok_least_of (T : Tx K mg) (c_is_less : Cal P w K mg base 1 "is_less" (spP K f_is_less) []) {f : Addr} {fd : FuncData} (F : Fun K "least_of" "least_of" s_least_of f fd) : FnOk P w K mg base CX0 2 f fd ["ratios"] (spP K f_least_of) :=
  fn_pure F sc_least_of fun H0 F0 R cdv B outer s H E hr =>
  (ss_cons (ss_set (ps_set (i := 1) sc_least_of.nd rfl (.inl rfl) (se_ix rfl (se_varB 0) (eb_of se_int))))
    (ss_cons (ss_for (ps_for PassesOwn.never rfl (si_seq rfl (se_sl rfl (se_varB 0) (so_some se_int) so_none)) (sg_name 2 sc_least_of.nd) (ss_one (ss_set (ps_set (i := 1) sc_least_of.nd rfl (.inl rfl) (se_ite (st_val (se_call (pe_c c_is_less hr (by decide) (by rfl) (sa_cons (se_var 2) (sa_cons (se_var 1) sa_nil))))) (se_var 2) (se_var 1)))))))
    (ss_one (ss_ret (se_var 1)))))
abbrev s_minus : Stmt := topS 13
theorem sc_minus : FnScope ["one", "other"] ["one", "other"] (defScope s_minus) := ⟨rfl, rfl, rfl, by decide +kernel, rfl, by decide +kernel, by decide +kernel⟩
theorem ok_minus (T : Tx K mg) (c_lowest : Cal P w K mg base 1 "lowest" (spP K f_lowest) []) {f : Addr} {fd : FuncData} (F : Fun K "minus" "minus" s_minus f fd) : FnOk P w K mg base CX0 2 f fd ["one", "other"] (spP K f_minus) :=
  fn_pure F sc_minus fun H0 F0 R cdv B outer s H E hr =>
  (ss_one (ss_ret (se_call (pe_c c_lowest hr (by decide) (by rfl) (sa_cons (se_sub (eb_of (se_mulI (eb_of (se_ix rfl (se_varB 0) (eb_of se_int))) (eb_of (se_ix rfl (se_varB 1) (eb_of se_int))))) (eb_of (se_mulI (eb_of (se_ix rfl (se_varB 1) (eb_of se_int))) (eb_of (se_ix rfl (se_varB 0) (eb_of se_int)))))) (sa_cons (se_mulI (eb_of (se_ix rfl (se_varB 0) (eb_of se_int))) (eb_of (se_ix rfl (se_varB 1) (eb_of se_int)))) sa_nil))))))
abbrev s_gap_at : Stmt := topS 41
theorem sc_gap_at : FnScope ["costs", "share", "one", "other"] ["costs", "share", "one", "other"] (defScope s_gap_at) := ⟨rfl, rfl, rfl, by decide +kernel, rfl, by decide +kernel, by decide +kernel⟩
theorem ok_gap_at (T : Tx K mg) (c_minus : Cal P w K mg base 2 "minus" (spP K f_minus) []) (c_times : Cal P w K mg base 2 "times" (spP K f_times) []) {f : Addr} {fd : FuncData} (F : Fun K "gap_at" "gap_at" s_gap_at f fd) : FnOk P w K mg base CX0 3 f fd ["costs", "share", "one", "other"] (spP K f_gap_at) :=
  fn_pure F sc_gap_at fun H0 F0 R cdv B outer s H E hr =>
  (ss_one (ss_ret (se_call (pe_c c_minus hr (by decide) (by rfl) (sa_cons (se_ix rfl (eb_of (se_ix rfl (se_varB 0) (se_varB 2))) (se_varB 3)) (sa_cons (se_call (pe_c c_times hr (by decide) (by rfl) (sa_cons (se_var 1) (sa_cons (se_ix rfl (eb_of (se_ix rfl (se_varB 0) (se_varB 2))) (se_varB 2)) sa_nil)))) sa_nil))))))
abbrev s_number_for : Stmt := topS 43
theorem sc_number_for : FnScope ["costs", "share", "told", "own", "found", "row", "number", "rate", "place"] ["costs", "share", "told", "own"] (defScope s_number_for) := ⟨rfl, rfl, rfl, by decide +kernel, rfl, by decide +kernel, by decide +kernel⟩
theorem ok_number_for (T : Tx K mg) (c_plus : Cal P w K mg base 2 "plus" (spP K f_plus) []) (c_times : Cal P w K mg base 2 "times" (spP K f_times) []) (c_gap_at : Cal P w K mg base 3 "gap_at" (spP K f_gap_at) []) (c_least_of : Cal P w K mg base 2 "least_of" (spP K f_least_of) []) {f : Addr} {fd : FuncData} (F : Fun K "number_for" "number_for" s_number_for f fd) : FnOk P w K mg base CX0 4 f fd ["costs", "share", "told", "own"] (spP K f_number_for) :=
  fn_pure F sc_number_for fun H0 F0 R cdv B outer s H E hr =>
  (ss_cons (ss_setF (ps_set (i := 4) sc_number_for.nd rfl (.inl rfl) (sf_lst sa_nil)))
    (ss_cons (ss_forD (fun _ _ _ => ps_for PassesOwn.never rfl (si_keys (pv 2)) (sg_name 5 sc_number_for.nd) (ss_cons (ss_asg (ps_asg (se_dget (pe_dget (hu_of hr) (se_varB 2) (se_varB 5) (fun _ _ => rfl))) (sg_tup rfl rfl (sgs_cons (sg_name 6 sc_number_for.nd) (sgs_cons (sg_name 7 sc_number_for.nd) sgs_nil)))))
    (ss_one (ss_ext (ps_expr (pe_bm PySem.F.plainAttrs_list PySem.F.slot_list_extend PySem.F.type_list_extend mt_extend (pv 4) (pa_cons (ee_of (sf_lc (own := [("place", 8)]) rfl sc_number_for.nd (si_seq rfl (se_var 3)) (blkOk_by (N := ["costs", "share", "told", "own", "found", "row", "number", "rate", "place"]) (sc := defScope s_number_for) (by decide +kernel)) (fun _ _ _ _ _ => (sg_name 8 sc_number_for.nd)) (fun _ _ _ _ _ => sts_nil) (fun _ _ _ _ _ => (se_call (pe_c c_plus hr (by decide) (by rfl) (sa_cons (se_var 6) (sa_cons (se_call (pe_c c_times hr (by decide) (by rfl) (sa_cons (se_var 7) (sa_cons (se_call (pe_c c_gap_at hr (by decide) (by rfl) (sa_cons (se_var 0) (sa_cons (se_var 1) (sa_cons (se_var 5) (sa_cons (se_var 8) sa_nil)))))) sa_nil)))) sa_nil))))) (by decide))) pa_nil))))))))
    (ss_one (ss_frz 4 (ss_ret (se_ite (st_eq rfl (u64 hr) (se_varB 4) (eb_of (ee_of (sf_lst sa_nil)))) (se_gk (by rfl) T.k_ZERO rfl (fun F => (.cons (.int _) (.cons (.int _) .nil)))) (se_call (pe_c c_least_of hr (by decide) (by rfl) (sa_cons (se_var 4) sa_nil)))))))))
abbrev s_greatest_of : Stmt := topS 19
theorem sc_greatest_of : FnScope ["ratios", "found", "each"] ["ratios"] (defScope s_greatest_of) := ⟨rfl, rfl, rfl, by decide +kernel, rfl, by decide +kernel, by decide +kernel⟩
theorem ok_greatest_of (T : Tx K mg) (c_is_less : Cal P w K mg base 1 "is_less" (spP K f_is_less) []) {f : Addr} {fd : FuncData} (F : Fun K "greatest_of" "greatest_of" s_greatest_of f fd) : FnOk P w K mg base CX0 2 f fd ["ratios"] (spP K f_greatest_of) :=
  fn_pure F sc_greatest_of fun H0 F0 R cdv B outer s H E hr =>
  (ss_cons (ss_set (ps_set (i := 1) sc_greatest_of.nd rfl (.inl rfl) (se_ix rfl (se_varB 0) (eb_of se_int))))
    (ss_cons (ss_for (ps_for PassesOwn.never rfl (si_seq rfl (se_sl rfl (se_varB 0) (so_some se_int) so_none)) (sg_name 2 sc_greatest_of.nd) (ss_one (ss_set (ps_set (i := 1) sc_greatest_of.nd rfl (.inl rfl) (se_ite (st_val (se_call (pe_c c_is_less hr (by decide) (by rfl) (sa_cons (se_var 1) (sa_cons (se_var 2) sa_nil))))) (se_var 2) (se_var 1)))))))
    (ss_one (ss_ret (se_var 1)))))
abbrev s_over : Stmt := topS 15
theorem sc_over : FnScope ["one", "other"] ["one", "other"] (defScope s_over) := ⟨rfl, rfl, rfl, by decide +kernel, rfl, by decide +kernel, by decide +kernel⟩
theorem ok_over (T : Tx K mg) (c_lowest : Cal P w K mg base 1 "lowest" (spP K f_lowest) []) {f : Addr} {fd : FuncData} (F : Fun K "over" "over" s_over f fd) : FnOk P w K mg base CX0 2 f fd ["one", "other"] (spP K f_over) :=
  fn_pure F sc_over fun H0 F0 R cdv B outer s H E hr =>
  (ss_one (ss_ret (se_call (pe_c c_lowest hr (by decide) (by rfl) (sa_cons (se_mulI (eb_of (se_ix rfl (se_varB 0) (eb_of se_int))) (eb_of (se_ix rfl (se_varB 1) (eb_of se_int)))) (sa_cons (se_mulI (eb_of (se_ix rfl (se_varB 0) (eb_of se_int))) (eb_of (se_ix rfl (se_varB 1) (eb_of se_int)))) sa_nil))))))
abbrev s_rate_for : Stmt := topS 44
theorem sc_rate_for : FnScope ["costs", "share", "told", "place", "number", "found", "row"] ["costs", "share", "told", "place", "number"] (defScope s_rate_for) := ⟨rfl, rfl, rfl, by decide +kernel, rfl, by decide +kernel, by decide +kernel⟩
theorem ok_rate_for (T : Tx K mg) (c_over : Cal P w K mg base 2 "over" (spP K f_over) []) (c_gap_at : Cal P w K mg base 3 "gap_at" (spP K f_gap_at) []) (c_minus : Cal P w K mg base 2 "minus" (spP K f_minus) []) (c_greatest_of : Cal P w K mg base 2 "greatest_of" (spP K f_greatest_of) []) {f : Addr} {fd : FuncData} (F : Fun K "rate_for" "rate_for" s_rate_for f fd) : FnOk P w K mg base CX0 4 f fd ["costs", "share", "told", "place", "number"] (spP K f_rate_for) :=
  fn_pure F sc_rate_for fun H0 F0 R cdv B outer s H E hr =>
  (ss_cons (ss_setF (ps_set (i := 5) sc_rate_for.nd rfl (.inl rfl) (sf_lst (sa_cons (se_gk (by rfl) T.k_ONE rfl (fun F => (.cons (.int _) (.cons (.int _) .nil)))) sa_nil))))
    (ss_cons (ss_forD (fun _ _ _ => ps_for PassesOwn.never rfl (si_keys (pv 2)) (sg_name 6 sc_rate_for.nd) (ss_one (ss_app (ps_expr (pe_bm PySem.F.plainAttrs_list PySem.F.slot_list_append PySem.F.type_list_append mt_append (pv 5) (pa_cons (se_call (pe_c c_over hr (by decide) (by rfl) (sa_cons (se_call (pe_c c_minus hr (by decide) (by rfl) (sa_cons (se_ix rfl (eb_of (se_dget (pe_dget (hu_of hr) (se_varB 2) (se_varB 6) (fun _ _ => rfl)))) (eb_of se_int)) (sa_cons (se_var 4) sa_nil)))) (sa_cons (se_call (pe_c c_gap_at hr (by decide) (by rfl) (sa_cons (se_var 0) (sa_cons (se_var 1) (sa_cons (se_var 3) (sa_cons (se_var 6) sa_nil)))))) sa_nil)))) pa_nil)))))))
    (ss_one (ss_frz 5 (ss_ret (se_call (pe_c c_greatest_of hr (by decide) (by rfl) (sa_cons (se_var 5) sa_nil))))))))
abbrev s_numbers_in : Stmt := topS 45
theorem sc_numbers_in : FnScope ["costs", "share", "told", "own", "number", "rates", "place", "rate"] ["costs", "share"] (defScope s_numbers_in) := ⟨rfl, rfl, rfl, by decide +kernel, rfl, by decide +kernel, by decide +kernel⟩
theorem ok_numbers_in (T : Tx K mg) (c_classes_of : Cal P w K mg base 5 "classes_of" (spP K f_classes_of) []) (c_number_for : Cal P w K mg base 4 "number_for" (spP K f_number_for) []) (c_rate_for : Cal P w K mg base 4 "rate_for" (spP K f_rate_for) []) {f : Addr} {fd : FuncData} (F : Fun K "numbers_in" "numbers_in" s_numbers_in f fd) : FnOk P w K mg base CX0 6 f fd ["costs", "share"] (spP K f_numbers_in) :=
  fn_pure F sc_numbers_in fun H0 F0 R cdv B outer s H E hr =>
  (ss_cons (ss_setF (ps_set (i := 2) sc_numbers_in.nd rfl (.inr rfl) sf_newK))
    (ss_cons (ss_for (ps_for PassesOwn.never rfl (si_seq rfl (se_call (pe_c c_classes_of hr (by decide) (by rfl) (sa_cons (se_var 0) (sa_cons (se_var 1) sa_nil))))) (sg_name 3 sc_numbers_in.nd) (ss_cons (ss_set (ps_set (i := 4) sc_numbers_in.nd rfl (.inr rfl) (se_callB (pe_c c_number_for hr (by decide) (by rfl) (sb_cons (se_varB 0) (sb_cons (se_varB 1) (sb_cons (se_varB 2) (sb_cons (se_varB 3) sb_nil))))))))
    (ss_cons (ss_setLc (i := 5) (own := [("place", 6)]) rfl sc_numbers_in.nd (si_seq rfl (se_var 3)) (blkOk_by (N := ["costs", "share", "told", "own", "number", "rates", "place", "rate"]) (sc := defScope s_numbers_in) (by decide +kernel)) (fun _ _ _ _ _ => (sg_name 6 sc_numbers_in.nd)) (fun _ _ _ _ _ => sts_nil) (fun _ _ _ _ _ => (se_callB (pe_c c_rate_for hr (by decide) (by rfl) (sb_cons (se_varB 0) (sb_cons (se_varB 1) (sb_cons (se_varB 2) (sb_cons (se_varB 6) (sb_cons (se_varB 4) sb_nil)))))))) (by decide))
    (ss_one (ss_for (ps_for PassesOwn.never rfl (si_zip2 rfl (pi_zip2 (by rfl) T.n_zip (sa_cons (se_var 3) (sa_cons (se_var 5) sa_nil)))) (sg_tup rfl rfl (sgs_cons (sg_name 6 sc_numbers_in.nd) (sgs_cons (sg_name 7 sc_numbers_in.nd) sgs_nil))) (ss_one (ss_put (ps_dput (hu_of hr) (pv 2) (se_var 6) (se_tup (sa_cons (se_var 4) (sa_cons (se_var 7) sa_nil))) (by rfl)))))))))))
    (ss_one (ss_ret (se_cb (c_tuple) (pe_callTy call_tuple_of (by rfl) T.n_tuple (by decide +kernel) (sb_cons (eb_of (ee_of (sf_lc (own := [("place", 6)]) rfl sc_numbers_in.nd (si_rg1 (pi_range1 (by rfl) T.n_range (sb_cons (eb_of (se_cb (c_lenA.or (c_lenK.or c_lenS)) (pe_callB (c_len rfl) (by rfl) T.n_len boot_len (sb_cons (se_varB 0) sb_nil)))) sb_nil))) (blkOk_by (N := ["costs", "share", "told", "own", "number", "rates", "place", "rate"]) (sc := defScope s_numbers_in) (by decide +kernel)) (fun _ _ _ _ _ => (sg_name 6 sc_numbers_in.nd)) (fun _ _ _ _ _ => sts_nil) (fun _ _ _ _ _ => (se_dget (pe_dget (hu_of hr) (se_varB 2) (se_varB 6) (fun _ _ => rfl)))) (by decide)))) sb_nil)))))))
abbrev s_numbers_at : Stmt := topS 46
theorem sc_numbers_at : FnScope ["budgets", "share", "costs", "ring"] ["budgets", "share"] (defScope s_numbers_at) := ⟨rfl, rfl, rfl, by decide +kernel, rfl, by decide +kernel, by decide +kernel⟩
theorem ok_numbers_at (T : Tx K mg) (c_need_budgets : Cal P w K mg base 7 "need_budgets" (spP K f_need_budgets) []) (c_need_share : Cal P w K mg base 4 "need_share" (spP K f_need_share) []) (c_costs_of : Cal P w K mg base 5 "costs_of" (spP K f_costs_of) []) (c_ring_in : Cal P w K mg base 5 "ring_in" (spP K f_ring_in) []) (c_numbers_in : Cal P w K mg base 6 "numbers_in" (spP K f_numbers_in) []) {f : Addr} {fd : FuncData} (F : Fun K "numbers_at" "numbers_at" s_numbers_at f fd) : FnOk P w K mg base CX0 8 f fd ["budgets", "share"] (spP K f_numbers_at) :=
  fn_pure F sc_numbers_at fun H0 F0 R cdv B outer s H E hr =>
  (ss_cons (ss_expr (ps_expr (se_call (pe_c c_need_budgets hr (by decide) (by rfl) (sa_cons (se_var 0) sa_nil)))))
    (ss_cons (ss_expr (ps_expr (se_call (pe_c c_need_share hr (by decide) (by rfl) (sa_cons (se_var 1) sa_nil)))))
    (ss_cons (ss_set (ps_set (i := 2) sc_numbers_at.nd rfl (.inl rfl) (se_call (pe_c c_costs_of hr (by decide) (by rfl) (sa_cons (se_var 0) sa_nil)))))
    (ss_cons (ss_set (ps_set (i := 3) sc_numbers_at.nd rfl (.inl rfl) (se_call (pe_c c_ring_in hr (by decide) (by rfl) (sa_cons (se_var 2) (sa_cons (se_var 1) sa_nil))))))
    (ss_one (ss_ret (se_ite (st_is (se_varB 3) (eb_of se_non)) (se_tup (sa_cons se_str (sa_cons (se_call (pe_c c_numbers_in hr (by decide) (by rfl) (sa_cons (se_var 2) (sa_cons (se_var 1) sa_nil)))) sa_nil))) (se_tup (sa_cons se_str (sa_cons (se_var 3) sa_nil))))))))))
abbrev s_law_is_known : Stmt := topS 71
theorem sc_law_is_known : FnScope ["known", "part"] [] (defScope s_law_is_known) := ⟨rfl, rfl, rfl, by decide +kernel, rfl, by decide +kernel, by decide +kernel⟩
theorem ok_law_is_known (T : Tx K mg) (c_law_same : Cal P w K mg base 2 "_law_same" (spP K f_law_same) []) (c_costs : Cal P w K mg base 8 "costs" (spP K f_costs) []) (c_numbers_at : Cal P w K mg base 8 "numbers_at" (spP K f_numbers_at) []) {f : Addr} {fd : FuncData} (F : Fun K "_law_is_known" "_law_is_known" s_law_is_known f fd) : FnOk P w K mg base CX0 9 f fd [] (spP K f_law_is_known) :=
  fn_pure F sc_law_is_known fun H0 F0 R cdv B outer s H E hr =>
  (ss_cons (ss_set (ps_set (i := 0) sc_law_is_known.nd rfl (.inr rfl) (se_tup (sa_cons se_str (sa_cons (se_tup (sa_cons (se_tup (sa_cons (se_tup (sa_cons (se_tup (sa_cons se_int (sa_cons se_int sa_nil))) (sa_cons (se_tup (sa_cons se_int (sa_cons se_int sa_nil))) sa_nil))) (sa_cons (se_tup (sa_cons (se_tup (sa_cons se_int (sa_cons se_int sa_nil))) (sa_cons (se_tup (sa_cons se_int (sa_cons se_int sa_nil))) sa_nil))) sa_nil))) (sa_cons (se_tup (sa_cons (se_tup (sa_cons (se_tup (sa_cons se_int (sa_cons se_int sa_nil))) (sa_cons (se_tup (sa_cons se_int (sa_cons se_int sa_nil))) sa_nil))) (sa_cons (se_tup (sa_cons (se_tup (sa_cons se_int (sa_cons se_int sa_nil))) (sa_cons (se_tup (sa_cons se_int (sa_cons se_int sa_nil))) sa_nil))) sa_nil))) sa_nil))) sa_nil)))))
    (ss_cons (ss_if (st_not (st_val (se_call (pe_c c_law_same hr (by decide) (by rfl) (sa_cons (se_call (pe_c c_costs hr (by decide) (by rfl) (sa_cons (se_var 0) sa_nil))) (sa_cons (se_tup (sa_cons (se_tup (sa_cons (se_tup (sa_cons se_int (sa_cons se_int sa_nil))) (sa_cons (se_tup (sa_cons se_int (sa_cons se_int sa_nil))) sa_nil))) (sa_cons (se_tup (sa_cons (se_tup (sa_cons se_int (sa_cons se_int sa_nil))) (sa_cons (se_tup (sa_cons se_int (sa_cons se_int sa_nil))) sa_nil))) sa_nil))) sa_nil)))))) (ss_one (ss_ret se_bl)) ss_nil)
    (ss_one (ss_ret (se_eq rfl (u64 hr) (eb_of (ee_of (sf_lc (own := [("part", 1)]) rfl sc_law_is_known.nd (si_seq rfl (ee_of (sf_lst (sa_cons (se_tup (sa_cons se_int (sa_cons se_int sa_nil))) (sa_cons (se_tup (sa_cons se_int (sa_cons se_int sa_nil))) (sa_cons (se_tup (sa_cons se_int (sa_cons se_int sa_nil))) sa_nil)))))) (blkOk_by (N := ["known", "part"]) (sc := defScope s_law_is_known) (by decide +kernel)) (fun _ _ _ _ _ => (sg_name 1 sc_law_is_known.nd)) (fun _ _ _ _ _ => sts_nil) (fun _ _ _ _ _ => (se_ix rfl (eb_of (se_call (pe_c c_numbers_at hr (by decide) (by rfl) (sa_cons (se_var 0) (sa_cons (se_var 1) sa_nil))))) (eb_of se_int))) (by decide)))) (eb_of (ee_of (sf_lst (sa_cons se_str (sa_cons se_str (sa_cons se_str sa_nil)))))))))))
abbrev s_law_blended : Stmt := topS 49
theorem sc_law_blended : FnScope ["state", "prime", "turn", "found", "blend", "cell"] ["state"] (defScope s_law_blended) := ⟨rfl, rfl, rfl, by decide +kernel, rfl, by decide +kernel, by decide +kernel⟩
theorem ok_law_blended (T : Tx K mg) {f : Addr} {fd : FuncData} (F : Fun K "_law_blended" "_law_blended" s_law_blended f fd) : FnOk P w K mg base CX0 1 f fd ["state"] (spR K f_law_blended) :=
  fn_rng F sc_law_blended fun H0 F0 R cdv B outer s H E hr =>
  (ss_cons (ss_par2 (k1 := false) (k2 := false) (ps_par (i := 2) (j := 3) rfl sc_law_blended.nd rfl rfl (by decide) rfl rfl (pa_cons (se_add rfl (eb_of (se_stI (key := "turn") (g := Rng.turn) (fun _ => rfl) (pe_dget (hu_of hr) (pv 0) pe_str (fun _ _ => rfl)))) (eb_of se_int)) (pa_cons se_int pa_nil)) (by rfl)))
    (ss_cons (ss_stturn (ps_dput (hu_of hr) (pv 0) pe_str (se_var 2) (by rfl)))
    (ss_cons (ss_for (ps_for PassesOwn.never rfl (si_seq rfl (ee_of (sf_lst (sa_cons se_int (sa_cons se_int (sa_cons se_int sa_nil)))))) (sg_name 1 sc_law_blended.nd) (ss_cons (ss_set (ps_set (i := 4) sc_law_blended.nd rfl (.inl rfl) (se_add rfl (eb_of (se_mulI (eb_of se_int) (se_varB 2))) (eb_of (se_fdiv (se_varB 1) (eb_of se_int))))))
    (ss_cons (ss_for (ps_for PassesOwn.never rfl (si_seq rfl (se_stC (pe_dget (hu_of hr) (pv 0) pe_str (fun _ _ => rfl)))) (sg_name 5 sc_law_blended.nd) (ss_one (ss_set (ps_set (i := 4) sc_law_blended.nd rfl (.inl rfl) (se_mod (eb_of (se_cb (c_int) (pe_callTy call_int1 (by rfl) T.n_int (by decide +kernel) (sb_cons (eb_of (se_add rfl (eb_of (se_add rfl (eb_of (se_mulI (se_varB 4) (eb_of se_int))) (se_varB 5))) (se_varB 2))) sb_nil)))) (se_varB 1)))))))
    (ss_one (ss_set (ps_set (i := 3) sc_law_blended.nd rfl (.inl rfl) (se_add rfl (eb_of (se_mulI (se_varB 3) (eb_of se_int))) (eb_of (se_mod (eb_of (se_cb (c_int) (pe_callTy call_int1 (by rfl) T.n_int (by decide +kernel) (sb_cons (eb_of (se_pow (se_varB 4) (eb_of se_int))) sb_nil)))) (se_varB 1)))))))))))
    (ss_one (ss_ret (se_var 3))))))
abbrev s_law_draw : Stmt := topS 50
theorem sc_law_draw : FnScope ["state", "room", "found"] ["state", "room"] (defScope s_law_draw) := ⟨rfl, rfl, rfl, by decide +kernel, rfl, by decide +kernel, by decide +kernel⟩
theorem ok_law_draw (T : Tx K mg) (c_law_blended : Cal P w K mg base 1 "_law_blended" (spR K f_law_blended) []) {f : Addr} {fd : FuncData} (F : Fun K "_law_draw" "_law_draw" s_law_draw f fd) : FnOk P w K mg base CX0 2 f fd ["state", "room"] (spR K f_law_draw) :=
  fn_rng F sc_law_draw fun H0 F0 R cdv B outer s H E hr =>
  (ss_cons (ss_if (st_eq rfl (u64 hr) (eb_of (se_stI (key := "rest") (g := Rng.rest) (fun _ => rfl) (pe_dget (hu_of hr) (pv 0) pe_str (fun _ _ => rfl)))) (eb_of se_int)) (ss_one (ss_strest (ps_dput (hu_of hr) (pv 0) pe_str (se_ite (st_stG (pt_cmpR (op_neD (u64 hr)) (pe_dget (hu_of hr) (pv 0) pe_str (fun _ _ => rfl)) (pe_lst pa_nil) (nomark _))) (se_stP (pe_bm PySem.F.plainAttrs_list PySem.F.slot_list_pop PySem.F.type_list_pop mt_popAt (pe_dget (hu_of hr) (pv 0) pe_str (fun _ _ => rfl)) (pa_cons pe_int pa_nil))) (se_callR (pe_c c_law_blended hr (by decide) (by rfl) (sa_cons (se_var 0) sa_nil)))) (by rfl)))) ss_nil)
    (ss_cons (ss_set (ps_set (i := 2) sc_law_draw.nd rfl (.inl rfl) (se_mod (eb_of (se_cb (c_int) (pe_callTy call_int1 (by rfl) T.n_int (by decide +kernel) (sb_cons (eb_of (se_stI (key := "rest") (g := Rng.rest) (fun _ => rfl) (pe_dget (hu_of hr) (pv 0) pe_str (fun _ _ => rfl)))) sb_nil)))) (se_varB 1))))
    (ss_cons (ss_strest (ps_dput (hu_of hr) (pv 0) pe_str (se_fdiv (eb_of (se_stI (key := "rest") (g := Rng.rest) (fun _ => rfl) (pe_dget (hu_of hr) (pv 0) pe_str (fun _ _ => rfl)))) (se_varB 1)) (by rfl)))
    (ss_one (ss_ret (se_var 2))))))
abbrev s_law_pick : Stmt := topS 51
theorem sc_law_pick : FnScope ["state", "some"] ["state", "some"] (defScope s_law_pick) := ⟨rfl, rfl, rfl, by decide +kernel, rfl, by decide +kernel, by decide +kernel⟩
theorem ok_law_pick (T : Tx K mg) (c_law_draw : Cal P w K mg base 2 "_law_draw" (spR K f_law_draw) []) {f : Addr} {fd : FuncData} (F : Fun K "_law_pick" "_law_pick" s_law_pick f fd) : FnOk P w K mg base CX0 3 f fd ["state", "some"] (spR K f_law_pick) :=
  fn_rng F sc_law_pick fun H0 F0 R cdv B outer s H E hr =>
  (ss_one (ss_ret (se_ix rfl (se_varB 1) (eb_of (se_callR (pe_c c_law_draw hr (by decide) (by rfl) (sa_cons (se_var 0) (sa_cons (se_cb (c_lenA.or (c_lenK.or c_lenS)) (pe_callB (c_len rfl) (by rfl) T.n_len boot_len (sb_cons (se_varB 1) sb_nil))) sa_nil))))))))
abbrev s_law_q : Stmt := topS 54
theorem sc_law_q : FnScope ["n", "d", "one", "other"] ["n", "d"] (defScope s_law_q) := ⟨rfl, rfl, rfl, by decide +kernel, rfl, by decide +kernel, by decide +kernel⟩
theorem ok_law_q (T : Tx K mg) {f : Addr} {fd : FuncData} (F : Fun K "_law_q" "_law_q" s_law_q f fd) : FnOk P w K mg base CX0 1 f fd ["n", "d"] (spP K f_law_q) :=
  fn_pure F sc_law_q fun H0 F0 R cdv B outer s H E hr =>
  (ss_cons (ss_par2 (k1 := false) (k2 := false) (ps_par (i := 2) (j := 3) rfl sc_law_q.nd rfl rfl (by decide) rfl rfl (pa_cons (se_cb (c_abs) (pe_callB call_abs (by rfl) T.n_abs (by decide +kernel) (sb_cons (se_varB 0) sb_nil))) (pa_cons (se_cb (c_abs) (pe_callB call_abs (by rfl) T.n_abs (by decide +kernel) (sb_cons (se_varB 1) sb_nil))) pa_nil)) (by rfl)))
    (ss_cons (ss_while (ps_while PassesOwn.never (st_gt (se_varB 3) (eb_of se_int)) (ss_one (ss_par2 (k1 := false) (k2 := false) (ps_par (i := 2) (j := 3) rfl sc_law_q.nd rfl rfl (by decide) rfl rfl (pa_cons (se_var 3) (pa_cons (se_mod (eb_of (se_cb (c_int) (pe_callTy call_int1 (by rfl) T.n_int (by decide +kernel) (sb_cons (se_varB 2) sb_nil)))) (se_varB 3)) pa_nil)) (by rfl))))))
    (ss_one (ss_ret (se_ite (st_gt (se_varB 1) (eb_of se_int)) (se_tup (sa_cons (se_fdiv (se_varB 0) (se_varB 2)) (sa_cons (se_fdiv (se_varB 1) (se_varB 2)) sa_nil))) (se_tup (sa_cons (se_fdiv (eb_of (se_neg (se_varB 0))) (se_varB 2)) (sa_cons (se_fdiv (eb_of (se_neg (se_varB 1))) (se_varB 2)) sa_nil))))))))
abbrev s_law_less : Stmt := topS 59
theorem sc_law_less : FnScope ["one", "other"] ["one", "other"] (defScope s_law_less) := ⟨rfl, rfl, rfl, by decide +kernel, rfl, by decide +kernel, by decide +kernel⟩
theorem ok_law_less (T : Tx K mg) {f : Addr} {fd : FuncData} (F : Fun K "_law_less" "_law_less" s_law_less f fd) : FnOk P w K mg base CX0 1 f fd ["one", "other"] (spP K f_law_less) :=
  fn_pure F sc_law_less fun H0 F0 R cdv B outer s H E hr =>
  (ss_one (ss_ret (se_lt (eb_of (se_mulI (eb_of (se_ix rfl (se_varB 0) (eb_of se_int))) (eb_of (se_ix rfl (se_varB 1) (eb_of se_int))))) (eb_of (se_mulI (eb_of (se_ix rfl (se_varB 1) (eb_of se_int))) (eb_of (se_ix rfl (se_varB 0) (eb_of se_int))))))))
abbrev s_law_times : Stmt := topS 57
theorem sc_law_times : FnScope ["one", "other"] ["one", "other"] (defScope s_law_times) := ⟨rfl, rfl, rfl, by decide +kernel, rfl, by decide +kernel, by decide +kernel⟩
theorem ok_law_times (T : Tx K mg) (c_law_q : Cal P w K mg base 1 "_law_q" (spP K f_law_q) []) {f : Addr} {fd : FuncData} (F : Fun K "_law_times" "_law_times" s_law_times f fd) : FnOk P w K mg base CX0 2 f fd ["one", "other"] (spP K f_law_times) :=
  fn_pure F sc_law_times fun H0 F0 R cdv B outer s H E hr =>
  (ss_one (ss_ret (se_call (pe_c c_law_q hr (by decide) (by rfl) (sa_cons (se_mulI (eb_of (se_ix rfl (se_varB 0) (eb_of se_int))) (eb_of (se_ix rfl (se_varB 1) (eb_of se_int)))) (sa_cons (se_mulI (eb_of (se_ix rfl (se_varB 0) (eb_of se_int))) (eb_of (se_ix rfl (se_varB 1) (eb_of se_int)))) sa_nil))))))
abbrev s_law_ds_budgets : Stmt := topS 62
theorem sc_law_ds_budgets : FnScope ["draws", "rows", "lap", "goods", "found", "way", "worths", "prices", "bundle", "best", "good", "part"] ["draws", "rows"] (defScope s_law_ds_budgets) := ⟨rfl, rfl, rfl, by decide +kernel, rfl, by decide +kernel, by decide +kernel⟩
theorem ok_law_ds_budgets (T : Tx K mg) (c_law_pick : Cal P w K mg base 3 "_law_pick" (spR K f_law_pick) []) (c_law_draw : Cal P w K mg base 2 "_law_draw" (spR K f_law_draw) []) (c_law_q : Cal P w K mg base 1 "_law_q" (spP K f_law_q) []) (c_law_less : Cal P w K mg base 1 "_law_less" (spP K f_law_less) []) (c_law_times : Cal P w K mg base 2 "_law_times" (spP K f_law_times) []) {f : Addr} {fd : FuncData} (F : Fun K "_law_ds_budgets" "_law_ds_budgets" s_law_ds_budgets f fd) : FnOk P w K mg base CX0 4 f fd ["draws", "rows"] (spR K f_law_ds_budgets) :=
  fn_rng F sc_law_ds_budgets fun H0 F0 R cdv B outer s H E hr =>
  (ss_cons (ss_par2 (k1 := false) (k2 := true) (ps_par (i := 3) (j := 4) rfl sc_law_ds_budgets.nd rfl rfl (by decide) rfl rfl (pa_cons (se_callR (pe_c c_law_pick hr (by decide) (by rfl) (sa_cons (se_var 0) (sa_cons (ee_of (sf_lst (sa_cons se_int (sa_cons se_int (sa_cons se_int (sa_cons se_int sa_nil)))))) sa_nil)))) (pa_cons (sf_lst sa_nil) pa_nil)) (by rfl)))
    (ss_cons (ss_par2 (k1 := false) (k2 := false) (ps_par (i := 5) (j := 6) rfl sc_law_ds_budgets.nd rfl rfl (by decide) rfl rfl (pa_cons (se_callR (pe_c c_law_draw hr (by decide) (by rfl) (sa_cons (se_var 0) (sa_cons se_int sa_nil)))) (pa_cons (ee_of (sf_lc (own := [("good", 10)]) rfl sc_law_ds_budgets.nd (si_rg1 (pi_range1 (by rfl) T.n_range (sb_cons (eb_of se_int) sb_nil))) (blkOk_by (N := ["draws", "rows", "lap", "goods", "found", "way", "worths", "prices", "bundle", "best", "good", "part"]) (sc := defScope s_law_ds_budgets) (by decide +kernel)) (fun _ _ _ _ _ => (sg_name 10 sc_law_ds_budgets.nd)) (fun _ _ _ _ _ => sts_nil) (fun _ _ _ _ _ => (se_add rfl (eb_of se_int) (eb_of (se_callR (pe_c c_law_draw hr (by decide) (by rfl) (sa_cons (se_var 0) (sa_cons se_int sa_nil))))))) (by decide))) pa_nil)) (by rfl)))
    (ss_cons (ss_for (ps_for PassesOwn.never rfl (si_rg1 (pi_range1 (by rfl) T.n_range (sb_cons (eb_of (se_add rfl (eb_of se_int) (eb_of (se_callR (pe_c c_law_draw hr (by decide) (by rfl) (sa_cons (se_var 0) (sa_cons (se_var 1) sa_nil))))))) sb_nil))) (sg_name 2 sc_law_ds_budgets.nd) (ss_cons (ss_set (ps_set (i := 7) sc_law_ds_budgets.nd rfl (.inl rfl) (se_cb (c_tuple) (pe_callTy call_tuple_of (by rfl) T.n_tuple (by decide +kernel) (sb_cons (eb_of (ee_of (sf_lc (own := [("good", 10)]) rfl sc_law_ds_budgets.nd (si_rg1 (pi_range1 (by rfl) T.n_range (sb_cons (se_varB 3) sb_nil))) (blkOk_by (N := ["draws", "rows", "lap", "goods", "found", "way", "worths", "prices", "bundle", "best", "good", "part"]) (sc := defScope s_law_ds_budgets) (by decide +kernel)) (fun _ _ _ _ _ => (sg_name 10 sc_law_ds_budgets.nd)) (fun _ _ _ _ _ => sts_nil) (fun _ _ _ _ _ => (se_call (pe_c c_law_q hr (by decide) (by rfl) (sa_cons (se_add rfl (eb_of se_int) (eb_of (se_callR (pe_c c_law_draw hr (by decide) (by rfl) (sa_cons (se_var 0) (sa_cons (se_callR (pe_c c_law_pick hr (by decide) (by rfl) (sa_cons (se_var 0) (sa_cons (ee_of (sf_lst (sa_cons se_int (sa_cons se_int (sa_cons se_int sa_nil))))) sa_nil)))) sa_nil)))))) (sa_cons (se_add rfl (eb_of se_int) (eb_of (se_callR (pe_c c_law_draw hr (by decide) (by rfl) (sa_cons (se_var 0) (sa_cons se_int sa_nil)))))) sa_nil))))) (by decide)))) sb_nil)))))
    (ss_cons (ss_set (ps_set (i := 8) sc_law_ds_budgets.nd rfl (.inl rfl) (se_cb (c_tuple) (pe_callTy call_tuple_of (by rfl) T.n_tuple (by decide +kernel) (sb_cons (eb_of (ee_of (sf_lc (own := [("good", 10)]) rfl sc_law_ds_budgets.nd (si_rg1 (pi_range1 (by rfl) T.n_range (sb_cons (se_varB 3) sb_nil))) (blkOk_by (N := ["draws", "rows", "lap", "goods", "found", "way", "worths", "prices", "bundle", "best", "good", "part"]) (sc := defScope s_law_ds_budgets) (by decide +kernel)) (fun _ _ _ _ _ => (sg_name 10 sc_law_ds_budgets.nd)) (fun _ _ _ _ _ => sts_nil) (fun _ _ _ _ _ => (se_call (pe_c c_law_q hr (by decide) (by rfl) (sa_cons (se_callR (pe_c c_law_draw hr (by decide) (by rfl) (sa_cons (se_var 0) (sa_cons se_int sa_nil)))) (sa_cons (se_add rfl (eb_of se_int) (eb_of (se_callR (pe_c c_law_draw hr (by decide) (by rfl) (sa_cons (se_var 0) (sa_cons se_int sa_nil)))))) sa_nil))))) (by decide)))) sb_nil)))))
    (ss_cons (ss_if (L2.PW.pt (sw_or (st_eq rfl (u64 hr) (se_varB 5) (eb_of se_int)) (sw_or1 (L2.PW.pt (sw_and (st_eq rfl (u64 hr) (se_varB 5) (eb_of se_int)) (sw_and1 (st_gt (eb_of (se_callR (pe_c c_law_draw hr (by decide) (by rfl) (sa_cons (se_var 0) (sa_cons se_int sa_nil))))) (eb_of se_int)))))))) (ss_cons (ss_set (ps_set (i := 9) sc_law_ds_budgets.nd rfl (.inr rfl) se_int))
    (ss_cons (ss_for (ps_for PassesOwn.never rfl (si_rg1 (pi_range1 (by rfl) T.n_range (sb_cons (se_varB 3) sb_nil))) (sg_name 10 sc_law_ds_budgets.nd) (ss_one (ss_if (st_val (se_call (pe_c c_law_less hr (by decide) (by rfl) (sa_cons (se_call (pe_c c_law_times hr (by decide) (by rfl) (sa_cons (se_tup (sa_cons (se_ix rfl (se_varB 6) (se_varB 9)) (sa_cons se_int sa_nil))) (sa_cons (se_ix rfl (se_varB 7) (se_varB 10)) sa_nil)))) (sa_cons (se_call (pe_c c_law_times hr (by decide) (by rfl) (sa_cons (se_tup (sa_cons (se_ix rfl (se_varB 6) (se_varB 10)) (sa_cons se_int sa_nil))) (sa_cons (se_ix rfl (se_varB 7) (se_varB 9)) sa_nil)))) sa_nil))))) (ss_one (ss_set (ps_set (i := 9) sc_law_ds_budgets.nd rfl (.inr rfl) (se_var 10)))) ss_nil))))
    (ss_one (ss_set (ps_set (i := 8) sc_law_ds_budgets.nd rfl (.inl rfl) (se_cb (c_tuple) (pe_callTy call_tuple_of (by rfl) T.n_tuple (by decide +kernel) (sb_cons (eb_of (ee_of (sf_lc (own := [("good", 10)]) rfl sc_law_ds_budgets.nd (si_rg1 (pi_range1 (by rfl) T.n_range (sb_cons (se_varB 3) sb_nil))) (blkOk_by (N := ["draws", "rows", "lap", "goods", "found", "way", "worths", "prices", "bundle", "best", "good", "part"]) (sc := defScope s_law_ds_budgets) (by decide +kernel)) (fun _ _ _ _ _ => (sg_name 10 sc_law_ds_budgets.nd)) (fun _ _ _ _ _ => sts_nil) (fun _ _ _ _ _ => (se_ite (st_eq rfl (u64 hr) (se_varB 10) (se_varB 9)) (se_tup (sa_cons (se_add rfl (eb_of se_int) (eb_of (se_callR (pe_c c_law_draw hr (by decide) (by rfl) (sa_cons (se_var 0) (sa_cons se_int sa_nil)))))) (sa_cons se_int sa_nil))) (se_tup (sa_cons se_int (sa_cons se_int sa_nil))))) (by decide)))) sb_nil)))))))) ss_nil)
    (ss_cons (ss_if (st_eq rfl (u64 hr) (eb_of (ee_of (sf_lc (own := [("part", 11)]) rfl sc_law_ds_budgets.nd (si_seq rfl (se_var 8)) (blkOk_by (N := ["draws", "rows", "lap", "goods", "found", "way", "worths", "prices", "bundle", "best", "good", "part"]) (sc := defScope s_law_ds_budgets) (by decide +kernel)) (fun _ _ _ _ _ => (sg_name 11 sc_law_ds_budgets.nd)) (fun _ _ _ _ _ => (sts_one (st_gt (eb_of (se_ix rfl (se_varB 11) (eb_of se_int))) (eb_of se_int)))) (fun _ _ _ _ _ => se_int) (by decide)))) (eb_of (ee_of (sf_lst sa_nil)))) (ss_one (ss_set (ps_set (i := 8) sc_law_ds_budgets.nd rfl (.inl rfl) (se_add rfl (eb_of (se_tup (sa_cons (se_tup (sa_cons se_int (sa_cons se_int sa_nil))) sa_nil))) (eb_of (se_sl rfl (se_varB 8) (so_some se_int) so_none)))))) ss_nil)
    (ss_one (ss_app (ps_expr (pe_bm PySem.F.plainAttrs_list PySem.F.slot_list_append PySem.F.type_list_append mt_append (pv 4) (pa_cons (se_tup (sa_cons (se_var 7) (sa_cons (se_var 8) sa_nil))) pa_nil)))))))))))
    (ss_one (ss_ret (se_tup (sa_cons se_str (sa_cons (se_cb (c_tuple) (pe_callTy call_tuple_of (by rfl) T.n_tuple (by decide +kernel) (sb_cons (se_varB 4) sb_nil))) sa_nil))))))))
abbrev s_law_ds_meets : Stmt := topS 64
theorem sc_law_ds_meets : FnScope ["table", "part", "one", "other"] ["table", "part", "one", "other"] (defScope s_law_ds_meets) := ⟨rfl, rfl, rfl, by decide +kernel, rfl, by decide +kernel, by decide +kernel⟩
theorem ok_law_ds_meets (T : Tx K mg) (c_law_less : Cal P w K mg base 1 "_law_less" (spP K f_law_less) []) (c_law_times : Cal P w K mg base 2 "_law_times" (spP K f_law_times) []) {f : Addr} {fd : FuncData} (F : Fun K "_law_ds_meets" "_law_ds_meets" s_law_ds_meets f fd) : FnOk P w K mg base CX0 3 f fd ["table", "part", "one", "other"] (spP K f_law_ds_meets) :=
  fn_pure F sc_law_ds_meets fun H0 F0 R cdv B outer s H E hr =>
  (ss_one (ss_ret (se_andV (se_ne rfl (u64 hr) (se_varB 2) (se_varB 3)) (se_one (se_notV (se_call (pe_c c_law_less hr (by decide) (by rfl) (sa_cons (se_call (pe_c c_law_times hr (by decide) (by rfl) (sa_cons (se_var 1) (sa_cons (se_ix rfl (eb_of (se_ix rfl (se_varB 0) (se_varB 2))) (se_varB 2)) sa_nil)))) (sa_cons (se_ix rfl (eb_of (se_ix rfl (se_varB 0) (se_varB 2))) (se_varB 3)) sa_nil)))))))))
abbrev s_law_ds_meets_strictly : Stmt := topS 65
theorem sc_law_ds_meets_strictly : FnScope ["table", "part", "one", "other"] ["table", "part", "one", "other"] (defScope s_law_ds_meets_strictly) := ⟨rfl, rfl, rfl, by decide +kernel, rfl, by decide +kernel, by decide +kernel⟩
theorem ok_law_ds_meets_strictly (T : Tx K mg) (c_law_less : Cal P w K mg base 1 "_law_less" (spP K f_law_less) []) (c_law_times : Cal P w K mg base 2 "_law_times" (spP K f_law_times) []) {f : Addr} {fd : FuncData} (F : Fun K "_law_ds_meets_strictly" "_law_ds_meets_strictly" s_law_ds_meets_strictly f fd) : FnOk P w K mg base CX0 3 f fd ["table", "part", "one", "other"] (spP K f_law_ds_meets_strictly) :=
  fn_pure F sc_law_ds_meets_strictly fun H0 F0 R cdv B outer s H E hr =>
  (ss_one (ss_ret (se_andV (se_ne rfl (u64 hr) (se_varB 2) (se_varB 3)) (se_one (se_call (pe_c c_law_less hr (by decide) (by rfl) (sa_cons (se_ix rfl (eb_of (se_ix rfl (se_varB 0) (se_varB 2))) (se_varB 3)) (sa_cons (se_call (pe_c c_law_times hr (by decide) (by rfl) (sa_cons (se_var 1) (sa_cons (se_ix rfl (eb_of (se_ix rfl (se_varB 0) (se_varB 2))) (se_varB 2)) sa_nil)))) sa_nil))))))))
abbrev s_law_ds_has_ring : Stmt := topS 66
theorem sc_law_ds_has_ring : FnScope ["table", "part", "one", "ways", "lap", "many", "pairs", "more", "other", "far", "near"] ["table", "part"] (defScope s_law_ds_has_ring) := ⟨rfl, rfl, rfl, by decide +kernel, rfl, by decide +kernel, by decide +kernel⟩
theorem ok_law_ds_has_ring (T : Tx K mg) (c_law_ds_meets : Cal P w K mg base 3 "_law_ds_meets" (spP K f_law_ds_meets) []) (c_law_ds_meets_strictly : Cal P w K mg base 3 "_law_ds_meets_strictly" (spP K f_law_ds_meets_strictly) []) {f : Addr} {fd : FuncData} (F : Fun K "_law_ds_has_ring" "_law_ds_has_ring" s_law_ds_has_ring f fd) : FnOk P w K mg base CX0 4 f fd ["table", "part"] (spP K f_law_ds_has_ring) :=
  fn_pure F sc_law_ds_has_ring fun H0 F0 R cdv B outer s H E hr =>
  (ss_cons (ss_par2 (k1 := false) (k2 := false) (ps_par (i := 5) (j := 6) rfl sc_law_ds_has_ring.nd rfl rfl (by decide) rfl rfl (pa_cons (se_cb (c_lenA.or (c_lenK.or c_lenS)) (pe_callB (c_len rfl) (by rfl) T.n_len boot_len (sb_cons (se_varB 0) sb_nil))) (pa_cons (ee_of (sf_lst sa_nil)) pa_nil)) (by rfl)))
    (ss_cons (ss_for (ps_for PassesOwn.never rfl (si_rg1 (pi_range1 (by rfl) T.n_range (sb_cons (se_varB 5) sb_nil))) (sg_name 2 sc_law_ds_has_ring.nd) (ss_one (ss_set (ps_set (i := 6) sc_law_ds_has_ring.nd rfl (.inl rfl) (ee_of (sf_addL (se_varB 6) (eb_of (ee_of (sf_lc (own := [("far", 9)]) rfl sc_law_ds_has_ring.nd (si_rg1 (pi_range1 (by rfl) T.n_range (sb_cons (se_varB 5) sb_nil))) (blkOk_by (N := ["table", "part", "one", "ways", "lap", "many", "pairs", "more", "other", "far", "near"]) (sc := defScope s_law_ds_has_ring) (by decide +kernel)) (fun _ _ _ _ _ => (sg_name 9 sc_law_ds_has_ring.nd)) (fun _ _ _ _ _ => (sts_one (st_val (se_call (pe_c c_law_ds_meets hr (by decide) (by rfl) (sa_cons (se_var 0) (sa_cons (se_var 1) (sa_cons (se_var 2) (sa_cons (se_var 9) sa_nil))))))))) (fun _ _ _ _ _ => (se_tup (sa_cons (se_var 2) (sa_cons (se_var 9) sa_nil)))) (by decide)))))))))))
    (ss_cons (ss_set (ps_set (i := 3) sc_law_ds_has_ring.nd rfl (.inr rfl) (ee_of (sf_cb c_list (pe_callTy call_list_of (by rfl) T.n_list (by decide +kernel) (sb_cons (se_varB 6) sb_nil))))))
    (ss_cons (ss_for (ps_for PassesOwn.never rfl (si_rg1 (pi_range1 (by rfl) T.n_range (sb_cons (se_varB 5) sb_nil))) (sg_name 4 sc_law_ds_has_ring.nd) (ss_cons (ss_set (ps_set (i := 7) sc_law_ds_has_ring.nd rfl (.inl rfl) (ee_of (sf_lst sa_nil))))
    (ss_cons (ss_for (ps_for PassesOwn.never rfl (si_seq rfl (se_var 3)) (sg_tup rfl rfl (sgs_cons (sg_name 2 sc_law_ds_has_ring.nd) (sgs_cons (sg_name 8 sc_law_ds_has_ring.nd) sgs_nil))) (ss_one (ss_set (ps_set (i := 7) sc_law_ds_has_ring.nd rfl (.inl rfl) (ee_of (sf_addL (se_varB 7) (eb_of (ee_of (sf_lc (own := [("near", 10), ("far", 9)]) rfl sc_law_ds_has_ring.nd (si_seq rfl (se_var 6)) (blkOk_by (N := ["table", "part", "one", "ways", "lap", "many", "pairs", "more", "other", "far", "near"]) (sc := defScope s_law_ds_has_ring) (by decide +kernel)) (fun _ _ _ _ _ => (sg_tup rfl rfl (sgs_cons (sg_name 10 sc_law_ds_has_ring.nd) (sgs_cons (sg_name 9 sc_law_ds_has_ring.nd) sgs_nil)))) (fun _ _ _ _ _ => (sts_one (L2.PW.pt (sw_and (st_eq rfl (u64 hr) (se_varB 10) (se_varB 8)) (sw_and1 (st_nin rfl (u65 hr) (by rfl) (eb_of (se_tup (sa_cons (se_var 2) (sa_cons (se_var 9) sa_nil)))) (se_varB 3))))))) (fun _ _ _ _ _ => (se_tup (sa_cons (se_var 2) (sa_cons (se_var 9) sa_nil)))) (by decide)))))))))))
    (ss_one (ss_set (ps_set (i := 3) sc_law_ds_has_ring.nd rfl (.inr rfl) (ee_of (sf_addL (se_varB 3) (eb_of (ee_of (sf_sortset rfl (pe_callB (cr_sortedT rfl) (by rfl) T.n_sorted (by decide +kernel) (pa_cons (pe_callTy (cr_setOfT rfl (u64 hr)) (by rfl) T.n_set (by decide +kernel) (sb_cons (se_varB 7) sb_nil)) pa_nil))))))))))))))
    (ss_one (ss_ret (se_ne rfl (u64 hr) (eb_of (ee_of (sf_lc (own := [("one", 2), ("other", 8)]) rfl sc_law_ds_has_ring.nd (si_seq rfl (se_var 6)) (blkOk_by (N := ["table", "part", "one", "ways", "lap", "many", "pairs", "more", "other", "far", "near"]) (sc := defScope s_law_ds_has_ring) (by decide +kernel)) (fun _ _ _ _ _ => (sg_tup rfl rfl (sgs_cons (sg_name 2 sc_law_ds_has_ring.nd) (sgs_cons (sg_name 8 sc_law_ds_has_ring.nd) sgs_nil)))) (fun _ _ _ _ _ => (sts_one (L2.PW.pt (sw_and (st_val (se_call (pe_c c_law_ds_meets_strictly hr (by decide) (by rfl) (sa_cons (se_var 0) (sa_cons (se_var 1) (sa_cons (se_var 2) (sa_cons (se_var 8) sa_nil))))))) (sw_and1 (st_in rfl (u65 hr) (by rfl) (eb_of (se_tup (sa_cons (se_var 8) (sa_cons (se_var 2) sa_nil)))) (se_varB 3))))))) (fun _ _ _ _ _ => se_int) (by decide)))) (eb_of (ee_of (sf_lst sa_nil))))))))))
abbrev s_law_plus : Stmt := topS 55
theorem sc_law_plus : FnScope ["one", "other"] ["one", "other"] (defScope s_law_plus) := ⟨rfl, rfl, rfl, by decide +kernel, rfl, by decide +kernel, by decide +kernel⟩
theorem ok_law_plus (T : Tx K mg) (c_law_q : Cal P w K mg base 1 "_law_q" (spP K f_law_q) []) {f : Addr} {fd : FuncData} (F : Fun K "_law_plus" "_law_plus" s_law_plus f fd) : FnOk P w K mg base CX0 2 f fd ["one", "other"] (spP K f_law_plus) :=
  fn_pure F sc_law_plus fun H0 F0 R cdv B outer s H E hr =>
  (ss_one (ss_ret (se_call (pe_c c_law_q hr (by decide) (by rfl) (sa_cons (se_add rfl (eb_of (se_mulI (eb_of (se_ix rfl (se_varB 0) (eb_of se_int))) (eb_of (se_ix rfl (se_varB 1) (eb_of se_int))))) (eb_of (se_mulI (eb_of (se_ix rfl (se_varB 1) (eb_of se_int))) (eb_of (se_ix rfl (se_varB 0) (eb_of se_int)))))) (sa_cons (se_mulI (eb_of (se_ix rfl (se_varB 0) (eb_of se_int))) (eb_of (se_ix rfl (se_varB 1) (eb_of se_int)))) sa_nil))))))
abbrev s_law_sum : Stmt := topS 60
theorem sc_law_sum : FnScope ["some", "found", "each"] ["some"] (defScope s_law_sum) := ⟨rfl, rfl, rfl, by decide +kernel, rfl, by decide +kernel, by decide +kernel⟩
theorem ok_law_sum (T : Tx K mg) (c_law_plus : Cal P w K mg base 2 "_law_plus" (spP K f_law_plus) []) {f : Addr} {fd : FuncData} (F : Fun K "_law_sum" "_law_sum" s_law_sum f fd) : FnOk P w K mg base CX0 3 f fd ["some"] (spP K f_law_sum) :=
  fn_pure F sc_law_sum fun H0 F0 R cdv B outer s H E hr =>
  (ss_cons (ss_set (ps_set (i := 1) sc_law_sum.nd rfl (.inl rfl) (se_tup (sa_cons se_int (sa_cons se_int sa_nil)))))
    (ss_cons (ss_for (ps_for PassesOwn.never rfl (si_seq rfl (se_var 0)) (sg_name 2 sc_law_sum.nd) (ss_one (ss_set (ps_set (i := 1) sc_law_sum.nd rfl (.inl rfl) (se_call (pe_c c_law_plus hr (by decide) (by rfl) (sa_cons (se_var 1) (sa_cons (se_var 2) sa_nil)))))))))
    (ss_one (ss_ret (se_var 1)))))
abbrev s_law_dot : Stmt := topS 61
theorem sc_law_dot : FnScope ["one", "other", "left", "right"] ["one", "other"] (defScope s_law_dot) := ⟨rfl, rfl, rfl, by decide +kernel, rfl, by decide +kernel, by decide +kernel⟩
theorem ok_law_dot (T : Tx K mg) (c_law_sum : Cal P w K mg base 3 "_law_sum" (spP K f_law_sum) []) (c_law_times : Cal P w K mg base 2 "_law_times" (spP K f_law_times) []) {f : Addr} {fd : FuncData} (F : Fun K "_law_dot" "_law_dot" s_law_dot f fd) : FnOk P w K mg base CX0 4 f fd ["one", "other"] (spP K f_law_dot) :=
  fn_pure F sc_law_dot fun H0 F0 R cdv B outer s H E hr =>
  (ss_one (ss_ret (se_call (pe_c c_law_sum hr (by decide) (by rfl) (sa_cons (ee_of (sf_lc (own := [("left", 2), ("right", 3)]) rfl sc_law_dot.nd (si_zip2 rfl (pi_zip2 (by rfl) T.n_zip (sa_cons (se_var 0) (sa_cons (se_var 1) sa_nil)))) (blkOk_by (N := ["one", "other", "left", "right"]) (sc := defScope s_law_dot) (by decide +kernel)) (fun _ _ _ _ _ => (sg_tup rfl rfl (sgs_cons (sg_name 2 sc_law_dot.nd) (sgs_cons (sg_name 3 sc_law_dot.nd) sgs_nil)))) (fun _ _ _ _ _ => sts_nil) (fun _ _ _ _ _ => (se_call (pe_c c_law_times hr (by decide) (by rfl) (sa_cons (se_var 2) (sa_cons (se_var 3) sa_nil))))) (by decide))) sa_nil)))))
abbrev s_law_ds_costs : Stmt := topS 63
theorem sc_law_ds_costs : FnScope ["budgets", "row", "other"] ["budgets"] (defScope s_law_ds_costs) := ⟨rfl, rfl, rfl, by decide +kernel, rfl, by decide +kernel, by decide +kernel⟩
theorem ok_law_ds_costs (T : Tx K mg) (c_law_dot : Cal P w K mg base 4 "_law_dot" (spP K f_law_dot) []) {f : Addr} {fd : FuncData} (F : Fun K "_law_ds_costs" "_law_ds_costs" s_law_ds_costs f fd) : FnOk P w K mg base CX0 5 f fd ["budgets"] (spP K f_law_ds_costs) :=
  fn_pure F sc_law_ds_costs fun H0 F0 R cdv B outer s H E hr =>
  (ss_one (ss_ret (ee_of (sf_lc (own := [("row", 1)]) rfl sc_law_ds_costs.nd (si_seq rfl (se_ix rfl (se_varB 0) (eb_of se_int))) (blkOk_by (N := ["budgets", "row", "other"]) (sc := defScope s_law_ds_costs) (by decide +kernel)) (fun _ _ _ _ _ => (sg_name 1 sc_law_ds_costs.nd)) (fun _ _ _ _ _ => sts_nil) (fun _ _ _ _ _ => (ee_of (sf_lc (own := [("other", 2)]) rfl sc_law_ds_costs.nd (si_seq rfl (se_ix rfl (se_varB 0) (eb_of se_int))) (blkOk_by (by kernel_rfl)) (fun _ _ _ _ _ => (sg_name 2 sc_law_ds_costs.nd)) (fun _ _ _ _ _ => sts_nil) (fun _ _ _ _ _ => (se_call (pe_c c_law_dot hr (by decide) (by rfl) (sa_cons (se_ix rfl (se_varB 1) (eb_of se_int)) (sa_cons (se_ix rfl (se_varB 2) (eb_of se_int)) sa_nil))))) (by decide)))) (by decide)))))
abbrev s_law_minus : Stmt := topS 56
theorem sc_law_minus : FnScope ["one", "other"] ["one", "other"] (defScope s_law_minus) := ⟨rfl, rfl, rfl, by decide +kernel, rfl, by decide +kernel, by decide +kernel⟩
theorem ok_law_minus (T : Tx K mg) (c_law_q : Cal P w K mg base 1 "_law_q" (spP K f_law_q) []) {f : Addr} {fd : FuncData} (F : Fun K "_law_minus" "_law_minus" s_law_minus f fd) : FnOk P w K mg base CX0 2 f fd ["one", "other"] (spP K f_law_minus) :=
  fn_pure F sc_law_minus fun H0 F0 R cdv B outer s H E hr =>
  (ss_one (ss_ret (se_call (pe_c c_law_q hr (by decide) (by rfl) (sa_cons (se_sub (eb_of (se_mulI (eb_of (se_ix rfl (se_varB 0) (eb_of se_int))) (eb_of (se_ix rfl (se_varB 1) (eb_of se_int))))) (eb_of (se_mulI (eb_of (se_ix rfl (se_varB 1) (eb_of se_int))) (eb_of (se_ix rfl (se_varB 0) (eb_of se_int)))))) (sa_cons (se_mulI (eb_of (se_ix rfl (se_varB 0) (eb_of se_int))) (eb_of (se_ix rfl (se_varB 1) (eb_of se_int)))) sa_nil))))))
abbrev s_law_worth : Stmt := topS 69
theorem sc_law_worth : FnScope ["budgets", "told", "bundle", "least_one", "here", "prices", "own", "number", "rate"] ["budgets", "told", "bundle"] (defScope s_law_worth) := ⟨rfl, rfl, rfl, by decide +kernel, rfl, by decide +kernel, by decide +kernel⟩
theorem ok_law_worth (T : Tx K mg) (c_law_plus : Cal P w K mg base 2 "_law_plus" (spP K f_law_plus) []) (c_law_times : Cal P w K mg base 2 "_law_times" (spP K f_law_times) []) (c_law_minus : Cal P w K mg base 2 "_law_minus" (spP K f_law_minus) []) (c_law_dot : Cal P w K mg base 4 "_law_dot" (spP K f_law_dot) []) (c_law_less : Cal P w K mg base 1 "_law_less" (spP K f_law_less) []) {f : Addr} {fd : FuncData} (F : Fun K "_law_worth" "_law_worth" s_law_worth f fd) : FnOk P w K mg base CX0 5 f fd ["budgets", "told", "bundle"] (spP K f_law_worth) :=
  fn_pure F sc_law_worth fun H0 F0 R cdv B outer s H E hr =>
  (ss_cons (ss_set (ps_set (i := 3) sc_law_worth.nd rfl (.inl rfl) se_non))
    (ss_cons (ss_for (ps_for PassesOwn.never rfl (si_zip2 rfl (pi_zip2 (by rfl) T.n_zip (sa_cons (se_ix rfl (se_varB 0) (eb_of se_int)) (sa_cons (se_var 1) sa_nil)))) (sg_tup rfl rfl (sgs_cons (sg_tup rfl rfl (sgs_cons (sg_name 5 sc_law_worth.nd) (sgs_cons (sg_name 6 sc_law_worth.nd) sgs_nil))) (sgs_cons (sg_tup rfl rfl (sgs_cons (sg_name 7 sc_law_worth.nd) (sgs_cons (sg_name 8 sc_law_worth.nd) sgs_nil))) sgs_nil))) (ss_cons (ss_set (ps_set (i := 4) sc_law_worth.nd rfl (.inl rfl) (se_call (pe_c c_law_plus hr (by decide) (by rfl) (sa_cons (se_var 7) (sa_cons (se_call (pe_c c_law_times hr (by decide) (by rfl) (sa_cons (se_var 8) (sa_cons (se_call (pe_c c_law_minus hr (by decide) (by rfl) (sa_cons (se_call (pe_c c_law_dot hr (by decide) (by rfl) (sa_cons (se_var 5) (sa_cons (se_var 2) sa_nil)))) (sa_cons (se_call (pe_c c_law_dot hr (by decide) (by rfl) (sa_cons (se_var 5) (sa_cons (se_var 6) sa_nil)))) sa_nil)))) sa_nil)))) sa_nil))))))
    (ss_one (ss_set (ps_set (i := 3) sc_law_worth.nd rfl (.inl rfl) (se_ite (L2.PW.pt (sw_or (st_is (se_varB 3) (eb_of se_non)) (sw_or1 (st_val (se_call (pe_c c_law_less hr (by decide) (by rfl) (sa_cons (se_var 4) (sa_cons (se_var 3) sa_nil)))))))) (se_var 4) (se_var 3))))))))
    (ss_one (ss_ret (se_var 3)))))
abbrev s_law_over : Stmt := topS 58
theorem sc_law_over : FnScope ["one", "other"] ["one", "other"] (defScope s_law_over) := ⟨rfl, rfl, rfl, by decide +kernel, rfl, by decide +kernel, by decide +kernel⟩
theorem ok_law_over (T : Tx K mg) (c_law_q : Cal P w K mg base 1 "_law_q" (spP K f_law_q) []) {f : Addr} {fd : FuncData} (F : Fun K "_law_over" "_law_over" s_law_over f fd) : FnOk P w K mg base CX0 2 f fd ["one", "other"] (spP K f_law_over) :=
  fn_pure F sc_law_over fun H0 F0 R cdv B outer s H E hr =>
  (ss_one (ss_ret (se_call (pe_c c_law_q hr (by decide) (by rfl) (sa_cons (se_mulI (eb_of (se_ix rfl (se_varB 0) (eb_of se_int))) (eb_of (se_ix rfl (se_varB 1) (eb_of se_int)))) (sa_cons (se_mulI (eb_of (se_ix rfl (se_varB 0) (eb_of se_int))) (eb_of (se_ix rfl (se_varB 1) (eb_of se_int)))) sa_nil))))))
abbrev s_law_bundle : Stmt := topS 70
theorem sc_law_bundle : FnScope ["draws", "prices", "outlay", "parts", "worth", "size", "price", "part"] ["draws", "prices", "outlay"] (defScope s_law_bundle) := ⟨rfl, rfl, rfl, by decide +kernel, rfl, by decide +kernel, by decide +kernel⟩
theorem ok_law_bundle (T : Tx K mg) (c_law_draw : Cal P w K mg base 2 "_law_draw" (spR K f_law_draw) []) (c_law_sum : Cal P w K mg base 3 "_law_sum" (spP K f_law_sum) []) (c_law_times : Cal P w K mg base 2 "_law_times" (spP K f_law_times) []) (c_law_pick : Cal P w K mg base 3 "_law_pick" (spR K f_law_pick) []) (c_law_over : Cal P w K mg base 2 "_law_over" (spP K f_law_over) []) {f : Addr} {fd : FuncData} (F : Fun K "_law_bundle" "_law_bundle" s_law_bundle f fd) : FnOk P w K mg base CX0 4 f fd ["draws", "prices", "outlay"] (spR K f_law_bundle) :=
  fn_rng F sc_law_bundle fun H0 F0 R cdv B outer s H E hr =>
  (ss_cons (ss_setLc (i := 3) (own := [("price", 6)]) rfl sc_law_bundle.nd (si_seq rfl (se_var 1)) (blkOk_by (N := ["draws", "prices", "outlay", "parts", "worth", "size", "price", "part"]) (sc := defScope s_law_bundle) (by decide +kernel)) (fun _ _ _ _ _ => (sg_name 6 sc_law_bundle.nd)) (fun _ _ _ _ _ => sts_nil) (fun _ _ _ _ _ => (se_callR (pe_c c_law_draw hr (by decide) (by rfl) (sa_cons (se_var 0) (sa_cons se_int sa_nil))))) (by decide))
    (ss_cons (ss_if (st_eq rfl (u64 hr) (eb_of (se_cb (c_sum) (pe_callB (cr_sum rfl) (by rfl) T.n_sum (by decide +kernel) (sb_cons (se_varB 3) sb_nil)))) (eb_of se_int)) (ss_one (ss_ret (se_mulT rfl (eb_of (se_tup (sa_cons (se_tup (sa_cons se_int (sa_cons se_int sa_nil))) sa_nil))) (eb_of (se_cb (c_lenA.or (c_lenK.or c_lenS)) (pe_callB (c_len rfl) (by rfl) T.n_len boot_len (sb_cons (se_varB 1) sb_nil))))))) ss_nil)
    (ss_cons (ss_set (ps_set (i := 4) sc_law_bundle.nd rfl (.inl rfl) (se_call (pe_c c_law_sum hr (by decide) (by rfl) (sa_cons (ee_of (sf_lc (own := [("part", 7), ("price", 6)]) rfl sc_law_bundle.nd (si_zip2 rfl (pi_zip2 (by rfl) T.n_zip (sa_cons (se_var 3) (sa_cons (se_var 1) sa_nil)))) (blkOk_by (N := ["draws", "prices", "outlay", "parts", "worth", "size", "price", "part"]) (sc := defScope s_law_bundle) (by decide +kernel)) (fun _ _ _ _ _ => (sg_tup rfl rfl (sgs_cons (sg_name 7 sc_law_bundle.nd) (sgs_cons (sg_name 6 sc_law_bundle.nd) sgs_nil)))) (fun _ _ _ _ _ => sts_nil) (fun _ _ _ _ _ => (se_call (pe_c c_law_times hr (by decide) (by rfl) (sa_cons (se_tup (sa_cons (se_var 7) (sa_cons se_int sa_nil))) (sa_cons (se_var 6) sa_nil))))) (by decide))) sa_nil)))))
    (ss_cons (ss_set (ps_set (i := 5) sc_law_bundle.nd rfl (.inr rfl) (se_call (pe_c c_law_times hr (by decide) (by rfl) (sa_cons (se_call (pe_c c_law_over hr (by decide) (by rfl) (sa_cons (se_var 2) (sa_cons (se_var 4) sa_nil)))) (sa_cons (se_callR (pe_c c_law_pick hr (by decide) (by rfl) (sa_cons (se_var 0) (sa_cons (ee_of (sf_lst (sa_cons (se_tup (sa_cons se_int (sa_cons se_int sa_nil))) (sa_cons (se_tup (sa_cons se_int (sa_cons se_int sa_nil))) (sa_cons (se_tup (sa_cons se_int (sa_cons se_int sa_nil))) sa_nil))))) sa_nil)))) sa_nil))))))
    (ss_one (ss_ret (se_cb (c_tuple) (pe_callTy call_tuple_of (by rfl) T.n_tuple (by decide +kernel) (sb_cons (eb_of (ee_of (sf_lc (own := [("part", 7)]) rfl sc_law_bundle.nd (si_seq rfl (se_var 3)) (blkOk_by (N := ["draws", "prices", "outlay", "parts", "worth", "size", "price", "part"]) (sc := defScope s_law_bundle) (by decide +kernel)) (fun _ _ _ _ _ => (sg_name 7 sc_law_bundle.nd)) (fun _ _ _ _ _ => sts_nil) (fun _ _ _ _ _ => (se_call (pe_c c_law_times hr (by decide) (by rfl) (sa_cons (se_tup (sa_cons (se_var 7) (sa_cons se_int sa_nil))) (sa_cons (se_var 5) sa_nil))))) (by decide)))) sb_nil)))))))))
abbrev s_law_ds_marks : Stmt := topS 67
theorem sc_law_ds_marks : FnScope ["table", "one", "left", "found", "other", "low", "each", "here"] ["table"] (defScope s_law_ds_marks) := ⟨rfl, rfl, rfl, by decide +kernel, rfl, by decide +kernel, by decide +kernel⟩
theorem ok_law_ds_marks (T : Tx K mg) (c_law_over : Cal P w K mg base 2 "_law_over" (spP K f_law_over) []) (c_law_less : Cal P w K mg base 1 "_law_less" (spP K f_law_less) []) {f : Addr} {fd : FuncData} (F : Fun K "_law_ds_marks" "_law_ds_marks" s_law_ds_marks f fd) : FnOk P w K mg base CX0 3 f fd ["table"] (spP K f_law_ds_marks) :=
  fn_pure F sc_law_ds_marks fun H0 F0 R cdv B outer s H E hr =>
  (ss_cons (ss_par2 (k1 := false) (k2 := true) (ps_par (i := 2) (j := 3) rfl sc_law_ds_marks.nd rfl rfl (by decide) rfl rfl (pa_cons (ee_of (sf_lst (sa_cons (se_tup (sa_cons se_int (sa_cons se_int sa_nil))) sa_nil))) (pa_cons (sf_lst sa_nil) pa_nil)) (by rfl)))
    (ss_cons (ss_for (ps_for PassesOwn.never rfl (si_rg1 (pi_range1 (by rfl) T.n_range (sb_cons (eb_of (se_cb (c_lenA.or (c_lenK.or c_lenS)) (pe_callB (c_len rfl) (by rfl) T.n_len boot_len (sb_cons (se_varB 0) sb_nil)))) sb_nil))) (sg_name 1 sc_law_ds_marks.nd) (ss_one (ss_for (ps_for PassesOwn.never rfl (si_rg1 (pi_range1 (by rfl) T.n_range (sb_cons (eb_of (se_cb (c_lenA.or (c_lenK.or c_lenS)) (pe_callB (c_len rfl) (by rfl) T.n_len boot_len (sb_cons (se_varB 0) sb_nil)))) sb_nil))) (sg_name 4 sc_law_ds_marks.nd) (ss_cons (ss_set (ps_set (i := 7) sc_law_ds_marks.nd rfl (.inl rfl) (se_call (pe_c c_law_over hr (by decide) (by rfl) (sa_cons (se_ix rfl (eb_of (se_ix rfl (se_varB 0) (se_varB 1))) (se_varB 4)) (sa_cons (se_ix rfl (eb_of (se_ix rfl (se_varB 0) (se_varB 1))) (se_varB 1)) sa_nil))))))
    (ss_one (ss_set (ps_set (i := 2) sc_law_ds_marks.nd rfl (.inl rfl) (ee_of (sf_addL (se_varB 2) (eb_of (ee_of (sf_ite (L2.PW.pt (sw_and (st_ne rfl (u64 hr) (se_varB 1) (se_varB 4)) (sw_and1 (st_val (se_call (pe_c c_law_less hr (by decide) (by rfl) (sa_cons (se_var 7) (sa_cons (se_tup (sa_cons se_int (sa_cons se_int sa_nil))) sa_nil)))))))) (sf_lst (sa_cons (se_var 7) sa_nil)) (sf_lst sa_nil)))))))))))))))
    (ss_cons (ss_while (ps_while PassesOwn.never (st_ne rfl (u64 hr) (se_varB 2) (eb_of (ee_of (sf_lst sa_nil)))) (ss_cons (ss_set (ps_set (i := 5) sc_law_ds_marks.nd rfl (.inr rfl) (se_ix rfl (se_varB 2) (eb_of se_int))))
    (ss_cons (ss_for (ps_for PassesOwn.never rfl (si_seq rfl (se_var 2)) (sg_name 6 sc_law_ds_marks.nd) (ss_one (ss_set (ps_set (i := 5) sc_law_ds_marks.nd rfl (.inr rfl) (se_ite (st_val (se_call (pe_c c_law_less hr (by decide) (by rfl) (sa_cons (se_var 6) (sa_cons (se_var 5) sa_nil))))) (se_var 6) (se_var 5)))))))
    (ss_cons (ss_app (ps_expr (pe_bm PySem.F.plainAttrs_list PySem.F.slot_list_append PySem.F.type_list_append mt_append (pv 3) (pa_cons (se_var 5) pa_nil))))
    (ss_one (ss_setLc (i := 2) (own := [("each", 6)]) rfl sc_law_ds_marks.nd (si_seq rfl (se_var 2)) (blkOk_by (N := ["table", "one", "left", "found", "other", "low", "each", "here"]) (sc := defScope s_law_ds_marks) (by decide +kernel)) (fun _ _ _ _ _ => (sg_name 6 sc_law_ds_marks.nd)) (fun _ _ _ _ _ => (sts_one (st_ne rfl (u64 hr) (se_varB 6) (se_varB 5)))) (fun _ _ _ _ _ => (se_var 6)) (by decide))))))))
    (ss_one (ss_frz 3 (ss_ret (se_var 3)))))))
abbrev s_law_ds_part : Stmt := topS 68
theorem sc_law_ds_part : FnScope ["draws", "table", "marks", "below", "above", "mark", "step"] ["draws", "table"] (defScope s_law_ds_part) := ⟨rfl, rfl, rfl, by decide +kernel, rfl, by decide +kernel, by decide +kernel⟩
theorem ok_law_ds_part (T : Tx K mg) (c_law_ds_marks : Cal P w K mg base 3 "_law_ds_marks" (spP K f_law_ds_marks) []) (c_law_pick : Cal P w K mg base 3 "_law_pick" (spR K f_law_pick) []) (c_law_minus : Cal P w K mg base 2 "_law_minus" (spP K f_law_minus) []) (c_law_times : Cal P w K mg base 2 "_law_times" (spP K f_law_times) []) (c_law_plus : Cal P w K mg base 2 "_law_plus" (spP K f_law_plus) []) (c_law_q : Cal P w K mg base 1 "_law_q" (spP K f_law_q) []) (c_law_draw : Cal P w K mg base 2 "_law_draw" (spR K f_law_draw) []) {f : Addr} {fd : FuncData} (F : Fun K "_law_ds_part" "_law_ds_part" s_law_ds_part f fd) : FnOk P w K mg base CX0 4 f fd ["draws", "table"] (spR K f_law_ds_part) :=
  fn_rng F sc_law_ds_part fun H0 F0 R cdv B outer s H E hr =>
  (ss_cons (ss_set (ps_set (i := 2) sc_law_ds_part.nd rfl (.inl rfl) (se_call (pe_c c_law_ds_marks hr (by decide) (by rfl) (sa_cons (se_var 1) sa_nil)))))
    (ss_cons (ss_par2 (k1 := false) (k2 := false) (ps_par (i := 5) (j := 6) rfl sc_law_ds_part.nd rfl rfl (by decide) rfl rfl (pa_cons (se_callR (pe_c c_law_pick hr (by decide) (by rfl) (sa_cons (se_var 0) (sa_cons (se_var 2) sa_nil)))) (pa_cons (se_callR (pe_c c_law_pick hr (by decide) (by rfl) (sa_cons (se_var 0) (sa_cons (ee_of (sf_lst (sa_cons (se_tup (sa_cons se_int (sa_cons (se_pow (eb_of se_int) (eb_of se_int)) sa_nil))) (sa_cons (se_tup (sa_cons se_int (sa_cons se_int sa_nil))) sa_nil)))) sa_nil)))) pa_nil)) (by rfl)))
    (ss_cons (ss_set (ps_set (i := 3) sc_law_ds_part.nd rfl (.inl rfl) (se_call (pe_c c_law_minus hr (by decide) (by rfl) (sa_cons (se_var 5) (sa_cons (se_call (pe_c c_law_times hr (by decide) (by rfl) (sa_cons (se_var 6) (sa_cons (se_var 5) sa_nil)))) sa_nil))))))
    (ss_cons (ss_set (ps_set (i := 4) sc_law_ds_part.nd rfl (.inl rfl) (se_call (pe_c c_law_plus hr (by decide) (by rfl) (sa_cons (se_var 5) (sa_cons (se_call (pe_c c_law_times hr (by decide) (by rfl) (sa_cons (se_var 6) (sa_cons (se_call (pe_c c_law_minus hr (by decide) (by rfl) (sa_cons (se_tup (sa_cons se_int (sa_cons se_int sa_nil))) (sa_cons (se_var 5) sa_nil)))) sa_nil)))) sa_nil))))))
    (ss_one (ss_ret (se_callR (pe_c c_law_pick hr (by decide) (by rfl) (sa_cons (se_var 0) (sa_cons (ee_of (sf_lst (sa_cons (se_var 5) (sa_cons (se_var 3) (sa_cons (se_var 4) (sa_cons (se_tup (sa_cons se_int (sa_cons se_int sa_nil))) (sa_cons (se_tup (sa_cons se_int (sa_cons se_int sa_nil))) (sa_cons (se_call (pe_c c_law_q hr (by decide) (by rfl) (sa_cons (se_callR (pe_c c_law_draw hr (by decide) (by rfl) (sa_cons (se_var 0) (sa_cons se_int sa_nil)))) (sa_cons se_int sa_nil)))) sa_nil)))))))) sa_nil))))))))))
abbrev s_law : Stmt := topS 72
theorem sc_law : FnScope ["script", "draws", "turn", "budgets", "table", "fewer", "kind", "told", "place", "lap", "prices", "own", "other"] ["script"] (defScope s_law) := ⟨rfl, rfl, rfl, by decide +kernel, rfl, by decide +kernel, by decide +kernel⟩
theorem ok_law (T : Tx K mg) (c_law_begun : Cal P w K mg base 1 "_law_begun" (spBegun K) []) (c_law_is_known : Cal P w K mg base 9 "_law_is_known" (spP K f_law_is_known) []) (c_law_ds_budgets : Cal P w K mg base 4 "_law_ds_budgets" (spR K f_law_ds_budgets) []) (c_numbers_at : Cal P w K mg base 8 "numbers_at" (spP K f_numbers_at) []) (c_law_ds_has_ring : Cal P w K mg base 4 "_law_ds_has_ring" (spP K f_law_ds_has_ring) []) (c_law_ds_costs : Cal P w K mg base 5 "_law_ds_costs" (spP K f_law_ds_costs) []) (c_costs : Cal P w K mg base 8 "costs" (spP K f_costs) []) (c_law_worth : Cal P w K mg base 5 "_law_worth" (spP K f_law_worth) []) (c_law_bundle : Cal P w K mg base 4 "_law_bundle" (spR K f_law_bundle) []) (c_law_less : Cal P w K mg base 1 "_law_less" (spP K f_law_less) []) (c_law_ds_part : Cal P w K mg base 4 "_law_ds_part" (spR K f_law_ds_part) []) {f : Addr} {fd : FuncData} (F : Fun K "law" "law" s_law f fd) : FnOk P w K mg base CX0 10 f fd ["script"] (spLawD K 13 1 m_law) :=
  law_ok (N := ["script", "draws", "turn", "budgets", "table", "fewer", "kind", "told", "place", "lap", "prices", "own", "other"]) F sc_law (by decide) (by decide) fun H0 F0 R cdv B outer s H E hr => pss_cons (ps_set (i := 1) sc_law.nd rfl (.inl rfl) (pe_c c_law_begun hr (by decide) (by rfl) (pa_cons (pv 0) pa_nil))) (
  (ss_cons (ss_if (st_not (st_val (se_call0 (pe_c0 c_law_is_known hr (by decide) (by rfl))))) (ss_one (ss_ret se_bl)) ss_nil)
    (ss_cons (ss_for (ps_for PassesOwn.never rfl (si_rg1 (pi_range1 (by rfl) T.n_range (sb_cons (eb_of (se_add rfl (eb_of se_int) (eb_of (se_cb (c_min) (pe_callB (call_min2 rfl) (by rfl) T.n_min (by decide +kernel) (sb_cons (eb_of (se_cb (c_lenA.or (c_lenK.or c_lenS)) (pe_callB (c_len rfl) (by rfl) T.n_len boot_len (sb_cons (se_varB 0) sb_nil)))) (sb_cons (eb_of se_int) sb_nil))))))) sb_nil))) (sg_name 2 sc_law.nd) (ss_cons (ss_set (ps_set (i := 3) sc_law.nd rfl (.inl rfl) (se_callR (pe_c c_law_ds_budgets hr (by decide) (by rfl) (sa_cons (se_var 1) (sa_cons se_int sa_nil))))))
    (ss_cons (ss_asg (ps_asg (se_call (pe_c c_numbers_at hr (by decide) (by rfl) (sa_cons (se_var 3) (sa_cons (se_tup (sa_cons se_int (sa_cons se_int sa_nil))) sa_nil)))) (sg_tup rfl rfl (sgs_cons (sg_name 6 sc_law.nd) (sgs_cons (sg_name 7 sc_law.nd) sgs_nil)))))
    (ss_cons (ss_if (L2.PW.pt (sw_or (st_ne rfl (u64 hr) (eb_of (se_eq rfl (u64 hr) (se_varB 6) (eb_of se_str))) (eb_of (se_call (pe_c c_law_ds_has_ring hr (by decide) (by rfl) (sa_cons (se_call (pe_c c_law_ds_costs hr (by decide) (by rfl) (sa_cons (se_var 3) sa_nil))) (sa_cons (se_tup (sa_cons se_int (sa_cons se_int sa_nil))) sa_nil)))))) (sw_or1 (st_nin rfl (u65 hr) (by rfl) (se_varB 6) (eb_of (ee_of (sf_lst (sa_cons se_str (sa_cons se_str sa_nil))))))))) (ss_one (ss_ret se_bl)) ss_nil)
    (ss_cons (ss_set (ps_set (i := 4) sc_law.nd rfl (.inl rfl) (se_call (pe_c c_costs hr (by decide) (by rfl) (sa_cons (se_var 3) sa_nil)))))
    (ss_cons (ss_if (st_eq rfl (u64 hr) (se_varB 6) (eb_of se_str)) (ss_cons (ss_for (ps_for PassesOwn.never rfl (si_enumQ rfl (pi_enumQ (by rfl) T.n_enumerate (sa_cons (se_ix rfl (se_varB 3) (eb_of se_int)) sa_nil))) (sg_tup rfl rfl (sgs_cons (sg_name 8 sc_law.nd) (sgs_cons (sg_tup rfl rfl (sgs_cons (sg_name 10 sc_law.nd) (sgs_cons (sg_name 11 sc_law.nd) sgs_nil))) sgs_nil))) (ss_cons (ss_if (st_ne rfl (u64 hr) (eb_of (se_call (pe_c c_law_worth hr (by decide) (by rfl) (sa_cons (se_var 3) (sa_cons (se_var 7) (sa_cons (se_var 11) sa_nil)))))) (eb_of (se_ix rfl (eb_of (se_ix rfl (se_varB 7) (se_varB 8))) (eb_of se_int)))) (ss_one (ss_ret se_bl)) ss_nil)
    (ss_one (ss_for (ps_for PassesOwn.never rfl (si_rg1 (pi_range1 (by rfl) T.n_range (sb_cons (eb_of se_int) sb_nil))) (sg_name 9 sc_law.nd) (ss_cons (ss_set (ps_set (i := 12) sc_law.nd rfl (.inl rfl) (se_callR (pe_c c_law_bundle hr (by decide) (by rfl) (sa_cons (se_var 1) (sa_cons (se_var 10) (sa_cons (se_ix rfl (eb_of (se_ix rfl (se_varB 4) (se_varB 8))) (se_varB 8)) sa_nil)))))))
    (ss_one (ss_if (st_val (se_call (pe_c c_law_less hr (by decide) (by rfl) (sa_cons (se_ix rfl (eb_of (se_ix rfl (se_varB 7) (se_varB 8))) (eb_of se_int)) (sa_cons (se_call (pe_c c_law_worth hr (by decide) (by rfl) (sa_cons (se_var 3) (sa_cons (se_var 7) (sa_cons (se_var 12) sa_nil))))) sa_nil))))) (ss_one (ss_ret se_bl)) ss_nil)))))))))
    (ss_one (ss_if (st_ne rfl (u64 hr) (eb_of (se_ix rfl (eb_of (se_call (pe_c c_numbers_at hr (by decide) (by rfl) (sa_cons (se_var 3) (sa_cons (se_callR (pe_c c_law_ds_part hr (by decide) (by rfl) (sa_cons (se_var 1) (sa_cons (se_call (pe_c c_law_ds_costs hr (by decide) (by rfl) (sa_cons (se_var 3) sa_nil))) sa_nil)))) sa_nil))))) (eb_of se_int))) (eb_of se_str)) (ss_one (ss_ret se_bl)) ss_nil))) ss_nil)
    (ss_cons (ss_set (ps_set (i := 5) sc_law.nd rfl (.inl rfl) (se_tup (sa_cons se_str (sa_cons (se_sl rfl (eb_of (se_ix rfl (se_varB 3) (eb_of se_int))) (so_some se_int) so_none) sa_nil)))))
    (ss_one (ss_if (L2.PW.pt (sw_and (st_gt (eb_of (se_cb (c_lenA.or (c_lenK.or c_lenS)) (pe_callB (c_len rfl) (by rfl) T.n_len boot_len (sb_cons (eb_of (se_ix rfl (se_varB 3) (eb_of se_int))) sb_nil)))) (eb_of se_int)) (sw_and (st_eq rfl (u64 hr) (eb_of (se_ix rfl (eb_of (se_call (pe_c c_numbers_at hr (by decide) (by rfl) (sa_cons (se_var 5) (sa_cons (se_tup (sa_cons se_int (sa_cons se_int sa_nil))) sa_nil))))) (eb_of se_int))) (eb_of se_str)) (sw_and1 (st_ne rfl (u64 hr) (se_varB 6) (eb_of se_str)))))) (ss_one (ss_ret se_bl)) ss_nil))))))))))
    (ss_one (ss_ret se_bl)))))
end
end K35
namespace K35
open PySem PySem.Spec PyProof.Rows L2 Dv
open C8 (Cal)

def d_law_begun : He.DefD := ⟨("_law_begun", none), "_law_begun", "_law_begun", defArgs s_law_begun, defBody s_law_begun, defScope s_law_begun, [], []⟩
def d_law_is_truth : He.DefD := ⟨("_law_is_truth", none), "_law_is_truth", "_law_is_truth", defArgs s_law_is_truth, defBody s_law_is_truth, defScope s_law_is_truth, [], []⟩
def d_law_same : He.DefD := ⟨("_law_same", none), "_law_same", "_law_same", defArgs s_law_same, defBody s_law_same, defScope s_law_same, [], []⟩
def d_is_whole : He.DefD := ⟨("is_whole", none), "is_whole", "is_whole", defArgs s_is_whole, defBody s_is_whole, defScope s_is_whole, [], []⟩
def d_is_ratio : He.DefD := ⟨("is_ratio", none), "is_ratio", "is_ratio", defArgs s_is_ratio, defBody s_is_ratio, defScope s_is_ratio, [], []⟩
def d_is_vector : He.DefD := ⟨("is_vector", none), "is_vector", "is_vector", defArgs s_is_vector, defBody s_is_vector, defScope s_is_vector, [], []⟩
def d_is_budget : He.DefD := ⟨("is_budget", none), "is_budget", "is_budget", defArgs s_is_budget, defBody s_is_budget, defScope s_is_budget, [], []⟩
def d_are_budgets_of : He.DefD := ⟨("are_budgets_of", none), "are_budgets_of", "are_budgets_of", defArgs s_are_budgets_of, defBody s_are_budgets_of, defScope s_are_budgets_of, [], []⟩
def d_is_budgets : He.DefD := ⟨("is_budgets", none), "is_budgets", "is_budgets", defArgs s_is_budgets, defBody s_is_budgets, defScope s_is_budgets, [], []⟩
def d_need_budgets : He.DefD := ⟨("need_budgets", none), "need_budgets", "need_budgets", defArgs s_need_budgets, defBody s_need_budgets, defScope s_need_budgets, [], []⟩
def d_lowest : He.DefD := ⟨("lowest", none), "lowest", "lowest", defArgs s_lowest, defBody s_lowest, defScope s_lowest, [], []⟩
def d_plus : He.DefD := ⟨("plus", none), "plus", "plus", defArgs s_plus, defBody s_plus, defScope s_plus, [], []⟩
def d_total : He.DefD := ⟨("total", none), "total", "total", defArgs s_total, defBody s_total, defScope s_total, [], []⟩
def d_times : He.DefD := ⟨("times", none), "times", "times", defArgs s_times, defBody s_times, defScope s_times, [], []⟩
def d_dot : He.DefD := ⟨("dot", none), "dot", "dot", defArgs s_dot, defBody s_dot, defScope s_dot, [], []⟩
def d_costs_of : He.DefD := ⟨("costs_of", none), "costs_of", "costs_of", defArgs s_costs_of, defBody s_costs_of, defScope s_costs_of, [], []⟩
def d_costs : He.DefD := ⟨("costs", none), "costs", "costs", defArgs s_costs, defBody s_costs, defScope s_costs, [], []⟩
def d_is_chance : He.DefD := ⟨("is_chance", none), "is_chance", "is_chance", defArgs s_is_chance, defBody s_is_chance, defScope s_is_chance, [], []⟩
def d_need_share : He.DefD := ⟨("need_share", none), "need_share", "need_share", defArgs s_need_share, defBody s_need_share, defScope s_need_share, [], []⟩
def d_is_less : He.DefD := ⟨("is_less", none), "is_less", "is_less", defArgs s_is_less, defBody s_is_less, defScope s_is_less, [], []⟩
def d_reaches_strictly : He.DefD := ⟨("reaches_strictly", none), "reaches_strictly", "reaches_strictly", defArgs s_reaches_strictly, defBody s_reaches_strictly, defScope s_reaches_strictly, [], []⟩
def d_reaches : He.DefD := ⟨("reaches", none), "reaches", "reaches", defArgs s_reaches, defBody s_reaches, defScope s_reaches, [], []⟩
def d_way_back : He.DefD := ⟨("way_back", none), "way_back", "way_back", defArgs s_way_back, defBody s_way_back, defScope s_way_back, [], []⟩
def d_ring_in : He.DefD := ⟨("ring_in", none), "ring_in", "ring_in", defArgs s_ring_in, defBody s_ring_in, defScope s_ring_in, [], []⟩
def d_classes_of : He.DefD := ⟨("classes_of", none), "classes_of", "classes_of", defArgs s_classes_of, defBody s_classes_of, defScope s_classes_of, [], []⟩
def d_least_of : He.DefD := ⟨("least_of", none), "least_of", "least_of", defArgs s_least_of, defBody s_least_of, defScope s_least_of, [], []⟩
def d_minus : He.DefD := ⟨("minus", none), "minus", "minus", defArgs s_minus, defBody s_minus, defScope s_minus, [], []⟩
def d_gap_at : He.DefD := ⟨("gap_at", none), "gap_at", "gap_at", defArgs s_gap_at, defBody s_gap_at, defScope s_gap_at, [], []⟩
def d_number_for : He.DefD := ⟨("number_for", none), "number_for", "number_for", defArgs s_number_for, defBody s_number_for, defScope s_number_for, [], []⟩
def d_greatest_of : He.DefD := ⟨("greatest_of", none), "greatest_of", "greatest_of", defArgs s_greatest_of, defBody s_greatest_of, defScope s_greatest_of, [], []⟩
def d_over : He.DefD := ⟨("over", none), "over", "over", defArgs s_over, defBody s_over, defScope s_over, [], []⟩
def d_rate_for : He.DefD := ⟨("rate_for", none), "rate_for", "rate_for", defArgs s_rate_for, defBody s_rate_for, defScope s_rate_for, [], []⟩
def d_numbers_in : He.DefD := ⟨("numbers_in", none), "numbers_in", "numbers_in", defArgs s_numbers_in, defBody s_numbers_in, defScope s_numbers_in, [], []⟩
def d_numbers_at : He.DefD := ⟨("numbers_at", none), "numbers_at", "numbers_at", defArgs s_numbers_at, defBody s_numbers_at, defScope s_numbers_at, [], []⟩
def d_law_is_known : He.DefD := ⟨("_law_is_known", none), "_law_is_known", "_law_is_known", defArgs s_law_is_known, defBody s_law_is_known, defScope s_law_is_known, [], []⟩
def d_law_blended : He.DefD := ⟨("_law_blended", none), "_law_blended", "_law_blended", defArgs s_law_blended, defBody s_law_blended, defScope s_law_blended, [], []⟩
def d_law_draw : He.DefD := ⟨("_law_draw", none), "_law_draw", "_law_draw", defArgs s_law_draw, defBody s_law_draw, defScope s_law_draw, [], []⟩
def d_law_pick : He.DefD := ⟨("_law_pick", none), "_law_pick", "_law_pick", defArgs s_law_pick, defBody s_law_pick, defScope s_law_pick, [], []⟩
def d_law_q : He.DefD := ⟨("_law_q", none), "_law_q", "_law_q", defArgs s_law_q, defBody s_law_q, defScope s_law_q, [], []⟩
def d_law_less : He.DefD := ⟨("_law_less", none), "_law_less", "_law_less", defArgs s_law_less, defBody s_law_less, defScope s_law_less, [], []⟩
def d_law_times : He.DefD := ⟨("_law_times", none), "_law_times", "_law_times", defArgs s_law_times, defBody s_law_times, defScope s_law_times, [], []⟩
def d_law_ds_budgets : He.DefD := ⟨("_law_ds_budgets", none), "_law_ds_budgets", "_law_ds_budgets", defArgs s_law_ds_budgets, defBody s_law_ds_budgets, defScope s_law_ds_budgets, [], []⟩
def d_law_ds_meets : He.DefD := ⟨("_law_ds_meets", none), "_law_ds_meets", "_law_ds_meets", defArgs s_law_ds_meets, defBody s_law_ds_meets, defScope s_law_ds_meets, [], []⟩
def d_law_ds_meets_strictly : He.DefD := ⟨("_law_ds_meets_strictly", none), "_law_ds_meets_strictly", "_law_ds_meets_strictly", defArgs s_law_ds_meets_strictly, defBody s_law_ds_meets_strictly, defScope s_law_ds_meets_strictly, [], []⟩
def d_law_ds_has_ring : He.DefD := ⟨("_law_ds_has_ring", none), "_law_ds_has_ring", "_law_ds_has_ring", defArgs s_law_ds_has_ring, defBody s_law_ds_has_ring, defScope s_law_ds_has_ring, [], []⟩
def d_law_plus : He.DefD := ⟨("_law_plus", none), "_law_plus", "_law_plus", defArgs s_law_plus, defBody s_law_plus, defScope s_law_plus, [], []⟩
def d_law_sum : He.DefD := ⟨("_law_sum", none), "_law_sum", "_law_sum", defArgs s_law_sum, defBody s_law_sum, defScope s_law_sum, [], []⟩
def d_law_dot : He.DefD := ⟨("_law_dot", none), "_law_dot", "_law_dot", defArgs s_law_dot, defBody s_law_dot, defScope s_law_dot, [], []⟩
def d_law_ds_costs : He.DefD := ⟨("_law_ds_costs", none), "_law_ds_costs", "_law_ds_costs", defArgs s_law_ds_costs, defBody s_law_ds_costs, defScope s_law_ds_costs, [], []⟩
def d_law_minus : He.DefD := ⟨("_law_minus", none), "_law_minus", "_law_minus", defArgs s_law_minus, defBody s_law_minus, defScope s_law_minus, [], []⟩
def d_law_worth : He.DefD := ⟨("_law_worth", none), "_law_worth", "_law_worth", defArgs s_law_worth, defBody s_law_worth, defScope s_law_worth, [], []⟩
def d_law_over : He.DefD := ⟨("_law_over", none), "_law_over", "_law_over", defArgs s_law_over, defBody s_law_over, defScope s_law_over, [], []⟩
def d_law_bundle : He.DefD := ⟨("_law_bundle", none), "_law_bundle", "_law_bundle", defArgs s_law_bundle, defBody s_law_bundle, defScope s_law_bundle, [], []⟩
def d_law_ds_marks : He.DefD := ⟨("_law_ds_marks", none), "_law_ds_marks", "_law_ds_marks", defArgs s_law_ds_marks, defBody s_law_ds_marks, defScope s_law_ds_marks, [], []⟩
def d_law_ds_part : He.DefD := ⟨("_law_ds_part", none), "_law_ds_part", "_law_ds_part", defArgs s_law_ds_part, defBody s_law_ds_part, defScope s_law_ds_part, [], []⟩
def d_law : He.DefD := ⟨("law", none), "law", "law", defArgs s_law, defBody s_law, defScope s_law, [], []⟩
def hfn0 : List He.DefD := [d_law_begun, d_law_is_truth, d_law_same, d_is_whole, d_is_ratio, d_is_vector, d_is_budget, d_are_budgets_of, d_is_budgets, d_need_budgets, d_lowest, d_plus, d_total, d_times, d_dot, d_costs_of, d_costs, d_is_chance, d_need_share, d_is_less, d_reaches_strictly, d_reaches, d_way_back, d_ring_in, d_classes_of, d_least_of, d_minus, d_gap_at, d_number_for, d_greatest_of]
def hfn1 : List He.DefD := [d_over, d_rate_for, d_numbers_in, d_numbers_at, d_law_is_known, d_law_blended, d_law_draw, d_law_pick, d_law_q, d_law_less, d_law_times, d_law_ds_budgets, d_law_ds_meets, d_law_ds_meets_strictly, d_law_ds_has_ring, d_law_plus, d_law_sum, d_law_dot, d_law_ds_costs, d_law_minus, d_law_worth, d_law_over, d_law_bundle, d_law_ds_marks, d_law_ds_part, d_law]
def hfn : List He.DefD := hfn0 ++ hfn1
def hfa0 : List He.Fa := [.glo "_law_begun", .glo "_law_is_truth", .glo "_law_same", .glo "is_whole", .glo "is_ratio", .glo "is_vector", .glo "is_budget", .glo "are_budgets_of", .glo "is_budgets", .glo "need_budgets", .glo "lowest", .glo "plus", .glo "total", .glo "times", .glo "dot", .glo "costs_of", .glo "costs", .glo "is_chance", .glo "need_share", .glo "is_less", .glo "reaches_strictly", .glo "reaches", .glo "way_back", .glo "ring_in", .glo "classes_of", .glo "least_of", .glo "minus", .glo "gap_at", .glo "number_for", .glo "greatest_of"]
def hfa1 : List He.Fa := [.glo "over", .glo "rate_for", .glo "numbers_in", .glo "numbers_at", .glo "_law_is_known", .glo "_law_blended", .glo "_law_draw", .glo "_law_pick", .glo "_law_q", .glo "_law_less", .glo "_law_times", .glo "_law_ds_budgets", .glo "_law_ds_meets", .glo "_law_ds_meets_strictly", .glo "_law_ds_has_ring", .glo "_law_plus", .glo "_law_sum", .glo "_law_dot", .glo "_law_ds_costs", .glo "_law_minus", .glo "_law_worth", .glo "_law_over", .glo "_law_bundle", .glo "_law_ds_marks", .glo "_law_ds_part", .glo "law", .int "LEAST_GOODS" 2, .int "MOST" 200, .int "MOST_BUDGETS" 8, .int "MOST_GOODS" 4]
def hfa2 : List He.Fa := [.glo "ONE", .glo "ZERO", .free "abs", .free "all", .free "any", .free "bool", .free "dict", .free "enumerate", .free "int", .free "isinstance", .free "len", .free "list", .free "min", .free "range", .free "set", .free "sorted", .free "str", .free "sum", .free "tuple", .free "zip"]
def hfa : List He.Fa := hfa0 ++ hfa1 ++ hfa2
def hex (K : PySem.W.Frag) : List Bool := [He.tupB K "ONE" [.int 1, .int 1], He.tupB K "ZERO" [.int 0, .int 1], He.eqO (PySem.W.nsIn K mainGlobals "gcd") (some (some (.builtin "math.gcd")))]
abbrev XAl : Type := List Bool × He.AlD
def xObs (K : PySem.W.Frag) : XAl := (hex K, He.obsD hfa hfn K)
def xVal : XAl := ([true, true, true], He.valD hfn)
def xG (g : Addr → Option Obj) : XAl := xObs (He.frG g (He.asD g 4))
def hkX : PySem.W.Hook where
  α := XAl
  obs := fun s => xG s.heap.get?
  val := fun _ => xVal
  says := fun _ h => ∃ K : PySem.W.Frag, K.In h ∧ xObs K = xVal
  of := fun _ _ e => ⟨_, He.frG_in, e⟩
  keeps := fun _ _ _ ⟨K, hK, cc⟩ kk => ⟨K, PySem.W.Frag.In.keeps hK kk, cc⟩
def obX (s : PySem.W.SharedT) : XAl := xG (HandSHeadRun.getT s)
theorem obX_eq (s : PySem.W.SharedT) : obX s = hkX.obs s.abs := by
  have e : HandSHeadRun.getT s = s.abs.heap.get? := funext (HandSHeadRun.getT_eq s)
  show xG _ = xG _
  rw [e]
abbrev RX : PySem.W.OpenRow := PySem.W.OpenLaw.row PySem.Challenge.rw_choiceshown_k35_numbers_and_bundles
def lsX0 : List PySem.Str := ["ShownError", "ValueError", "BadShare", "BadBudgets", "ZERO", "ONE", "is_whole", "is_ratio", "is_chance", "lowest", "plus", "minus", "times", "over", "is_less", "total", "least_of", "greatest_of", "MOST", "is_vector", "dot", "MOST_BUDGETS", "LEAST_GOODS", "MOST_GOODS", "is_budget", "are_budgets_of", "is_budgets", "need_budgets", "costs_of", "costs"]
def lsX1 : List PySem.Str := ["need_share", "reaches", "reaches_strictly", "way_back", "ring_in", "gap_at", "classes_of", "number_for", "rate_for", "numbers_in", "numbers_at", "_law_begun", "_law_blended", "_law_draw", "_law_pick", "_law_is_truth", "_law_same", "_law_q", "_law_plus", "_law_minus", "_law_times", "_law_over", "_law_less", "_law_sum", "_law_dot", "_law_ds_budgets", "_law_ds_costs", "_law_ds_meets", "_law_ds_meets_strictly", "_law_ds_has_ring"]
def lsX2 : List PySem.Str := ["_law_ds_marks", "_law_ds_part", "_law_worth", "_law_bundle", "_law_is_known"]
def lsX : List PySem.Str := lsX0 ++ lsX1 ++ lsX2
theorem runX (w : World) : HandSHeadRun.RunEqI RX (PySem.W.view RX.prog [0, 72]) hkX obX 20000 lsX w := by
  unfold HandSHeadRun.RunEqI
  kernel_rfl
theorem fun_ofD {K : PySem.W.Frag} {x : Str} {st : Stmt} {f : Addr} {fd : FuncData} (F : FunD K x x (defArgs st) (defBody st) (defScope st) [] [] f fd) : Fun K x x st f fd := by
  (obtain ⟨oc, od, dV, kV, doc, pm, an, cdv, ct, osl, rfl, lk, hcd, hD, hK⟩ := F.ex); rcases hD with ⟨_, rfl⟩ | ⟨e, _⟩
  · exact ⟨⟨oc, od, kV, doc, pm, an, cdv, ct, osl, rfl, lk, hcd⟩, F.kp⟩
  · exact absurd rfl e
theorem cal_of {P : Program} {w : World} {K : PySem.W.Frag} {mg : Str → Option Value} {base : Heap} {k : Nat} {x : Str} {st : Stmt} {f : Addr} {fd : FuncData} {ps : List Str} {sp : Sp} (F : Fun K x x st f fd) (ok : FnOk P w K mg base CX0 k f fd ps sp) (e : mg x = some (.ref f))
    (h : ∀ (kV doc pm : Value) (an : Option Addr) (cdv ct : Value) (us : List Value), us.length = ps.length → bindArgs (PySem.W.fnOf x x (defArgs st) (defBody st) (defScope st) .none kV doc pm an cdv ct) ⟨us, []⟩ = pure (ps.zip us)) : Cal P w K mg base k x sp [] :=
  ⟨f, fd, ps, [], ok, e, F.kp, F.binds h, .nil⟩
section
variable {P : Program} {w : World} {K : PySem.W.Frag} {h : Heap} {mg : Str → Option Value}
theorem factX (c : xObs K = xVal) (i : Nat) {f : He.Fa} (h : hfa[i]? = some f := by rfl) : f.ok K = true := He.SaysD.fact (fa := hfa) (fn := hfn) (congrArg (fun z : XAl => z.2) c) i h
theorem defX (c : xObs K = xVal) (i : Nat) {d : He.DefD} (h : hfn[i]? = some d := by rfl) : ∃ fd, FunD K d.name d.qual d.params d.body d.scope (d.dvs K) (d.kws K) (He.fAd K d.at_) fd := He.SaysD.def_ (fa := hfa) (fn := hfn) (congrArg (fun z : XAl => z.2) c) i h
theorem exX (c : xObs K = xVal) (i : Nat) {b : Bool} (h : (hex K)[i]? = some b := by rfl) : b = true := by
  have e : hex K = [true, true, true] := congrArg (fun z : XAl => z.1) c
  rw [e] at h
  have := List.mem_of_getElem? h
  simpa using this
theorem txX (X : K.In h) (G : h.Ns mainGlobals mg) (c : xObs K = xVal) : Tx K mg where
  g_LEAST_GOODS := let ⟨t, e⟩ := He.int_ok X G (factX c 56); ⟨_, e, t, rfl⟩
  g_MOST := let ⟨t, e⟩ := He.int_ok X G (factX c 57); ⟨_, e, t, rfl⟩
  g_MOST_BUDGETS := let ⟨t, e⟩ := He.int_ok X G (factX c 58); ⟨_, e, t, rfl⟩
  g_MOST_GOODS := let ⟨t, e⟩ := He.int_ok X G (factX c 59); ⟨_, e, t, rfl⟩
  k_ONE := ⟨_, He.glo_ok X G (factX c 60), He.tupB_ok (exX c 0) _⟩
  k_ZERO := ⟨_, He.glo_ok X G (factX c 61), He.tupB_ok (exX c 1) _⟩
  n_abs := He.free_ok X G (factX c 62)
  n_all := He.free_ok X G (factX c 63)
  n_any := He.free_ok X G (factX c 64)
  n_bool := He.free_ok X G (factX c 65)
  n_dict := He.free_ok X G (factX c 66)
  n_enumerate := He.free_ok X G (factX c 67)
  b_gcd := PySem.W.mg_of X G (He.eqO_ok (exX c 2))
  n_int := He.free_ok X G (factX c 68)
  n_isinstance := He.free_ok X G (factX c 69)
  n_len := He.free_ok X G (factX c 70)
  n_list := He.free_ok X G (factX c 71)
  n_min := He.free_ok X G (factX c 72)
  n_range := He.free_ok X G (factX c 73)
  n_set := He.free_ok X G (factX c 74)
  n_sorted := He.free_ok X G (factX c 75)
  n_str := He.free_ok X G (factX c 76)
  n_sum := He.free_ok X G (factX c 77)
  n_tuple := He.free_ok X G (factX c 78)
  n_zip := He.free_ok X G (factX c 79)
theorem allX (X : K.In h) (G : h.Ns mainGlobals mg) (c : xObs K = xVal) : ∃ fd : FuncData, (∀ (s : Shared) (v : Value), BindsTo s fd ⟨[v], []⟩ [("script", v)]) ∧ ∀ base : Heap, FnOk P w K mg base CX0 10 (He.ga K "law") fd ["script"] (spLawD K 13 1 m_law) := by
  have T := txX X G c
  obtain ⟨fd_law_begun, D_law_begun⟩ := defX c 0 (d := d_law_begun) rfl
  have F_law_begun := fun_ofD (st := s_law_begun) D_law_begun
  obtain ⟨fd_law_is_truth, D_law_is_truth⟩ := defX c 1 (d := d_law_is_truth) rfl
  have F_law_is_truth := fun_ofD (st := s_law_is_truth) D_law_is_truth
  obtain ⟨fd_law_same, D_law_same⟩ := defX c 2 (d := d_law_same) rfl
  have F_law_same := fun_ofD (st := s_law_same) D_law_same
  obtain ⟨fd_is_whole, D_is_whole⟩ := defX c 3 (d := d_is_whole) rfl
  have F_is_whole := fun_ofD (st := s_is_whole) D_is_whole
  obtain ⟨fd_is_ratio, D_is_ratio⟩ := defX c 4 (d := d_is_ratio) rfl
  have F_is_ratio := fun_ofD (st := s_is_ratio) D_is_ratio
  obtain ⟨fd_is_vector, D_is_vector⟩ := defX c 5 (d := d_is_vector) rfl
  have F_is_vector := fun_ofD (st := s_is_vector) D_is_vector
  obtain ⟨fd_is_budget, D_is_budget⟩ := defX c 6 (d := d_is_budget) rfl
  have F_is_budget := fun_ofD (st := s_is_budget) D_is_budget
  obtain ⟨fd_are_budgets_of, D_are_budgets_of⟩ := defX c 7 (d := d_are_budgets_of) rfl
  have F_are_budgets_of := fun_ofD (st := s_are_budgets_of) D_are_budgets_of
  obtain ⟨fd_is_budgets, D_is_budgets⟩ := defX c 8 (d := d_is_budgets) rfl
  have F_is_budgets := fun_ofD (st := s_is_budgets) D_is_budgets
  obtain ⟨fd_need_budgets, D_need_budgets⟩ := defX c 9 (d := d_need_budgets) rfl
  have F_need_budgets := fun_ofD (st := s_need_budgets) D_need_budgets
  obtain ⟨fd_lowest, D_lowest⟩ := defX c 10 (d := d_lowest) rfl
  have F_lowest := fun_ofD (st := s_lowest) D_lowest
  obtain ⟨fd_plus, D_plus⟩ := defX c 11 (d := d_plus) rfl
  have F_plus := fun_ofD (st := s_plus) D_plus
  obtain ⟨fd_total, D_total⟩ := defX c 12 (d := d_total) rfl
  have F_total := fun_ofD (st := s_total) D_total
  obtain ⟨fd_times, D_times⟩ := defX c 13 (d := d_times) rfl
  have F_times := fun_ofD (st := s_times) D_times
  obtain ⟨fd_dot, D_dot⟩ := defX c 14 (d := d_dot) rfl
  have F_dot := fun_ofD (st := s_dot) D_dot
  obtain ⟨fd_costs_of, D_costs_of⟩ := defX c 15 (d := d_costs_of) rfl
  have F_costs_of := fun_ofD (st := s_costs_of) D_costs_of
  obtain ⟨fd_costs, D_costs⟩ := defX c 16 (d := d_costs) rfl
  have F_costs := fun_ofD (st := s_costs) D_costs
  obtain ⟨fd_is_chance, D_is_chance⟩ := defX c 17 (d := d_is_chance) rfl
  have F_is_chance := fun_ofD (st := s_is_chance) D_is_chance
  obtain ⟨fd_need_share, D_need_share⟩ := defX c 18 (d := d_need_share) rfl
  have F_need_share := fun_ofD (st := s_need_share) D_need_share
  obtain ⟨fd_is_less, D_is_less⟩ := defX c 19 (d := d_is_less) rfl
  have F_is_less := fun_ofD (st := s_is_less) D_is_less
  obtain ⟨fd_reaches_strictly, D_reaches_strictly⟩ := defX c 20 (d := d_reaches_strictly) rfl
  have F_reaches_strictly := fun_ofD (st := s_reaches_strictly) D_reaches_strictly
  obtain ⟨fd_reaches, D_reaches⟩ := defX c 21 (d := d_reaches) rfl
  have F_reaches := fun_ofD (st := s_reaches) D_reaches
  obtain ⟨fd_way_back, D_way_back⟩ := defX c 22 (d := d_way_back) rfl
  have F_way_back := fun_ofD (st := s_way_back) D_way_back
  obtain ⟨fd_ring_in, D_ring_in⟩ := defX c 23 (d := d_ring_in) rfl
  have F_ring_in := fun_ofD (st := s_ring_in) D_ring_in
  obtain ⟨fd_classes_of, D_classes_of⟩ := defX c 24 (d := d_classes_of) rfl
  have F_classes_of := fun_ofD (st := s_classes_of) D_classes_of
  obtain ⟨fd_least_of, D_least_of⟩ := defX c 25 (d := d_least_of) rfl
  have F_least_of := fun_ofD (st := s_least_of) D_least_of
  obtain ⟨fd_minus, D_minus⟩ := defX c 26 (d := d_minus) rfl
  have F_minus := fun_ofD (st := s_minus) D_minus
  obtain ⟨fd_gap_at, D_gap_at⟩ := defX c 27 (d := d_gap_at) rfl
  have F_gap_at := fun_ofD (st := s_gap_at) D_gap_at
  obtain ⟨fd_number_for, D_number_for⟩ := defX c 28 (d := d_number_for) rfl
  have F_number_for := fun_ofD (st := s_number_for) D_number_for
  obtain ⟨fd_greatest_of, D_greatest_of⟩ := defX c 29 (d := d_greatest_of) rfl
  have F_greatest_of := fun_ofD (st := s_greatest_of) D_greatest_of
  obtain ⟨fd_over, D_over⟩ := defX c 30 (d := d_over) rfl
  have F_over := fun_ofD (st := s_over) D_over
  obtain ⟨fd_rate_for, D_rate_for⟩ := defX c 31 (d := d_rate_for) rfl
  have F_rate_for := fun_ofD (st := s_rate_for) D_rate_for
  obtain ⟨fd_numbers_in, D_numbers_in⟩ := defX c 32 (d := d_numbers_in) rfl
  have F_numbers_in := fun_ofD (st := s_numbers_in) D_numbers_in
  obtain ⟨fd_numbers_at, D_numbers_at⟩ := defX c 33 (d := d_numbers_at) rfl
  have F_numbers_at := fun_ofD (st := s_numbers_at) D_numbers_at
  obtain ⟨fd_law_is_known, D_law_is_known⟩ := defX c 34 (d := d_law_is_known) rfl
  have F_law_is_known := fun_ofD (st := s_law_is_known) D_law_is_known
  obtain ⟨fd_law_blended, D_law_blended⟩ := defX c 35 (d := d_law_blended) rfl
  have F_law_blended := fun_ofD (st := s_law_blended) D_law_blended
  obtain ⟨fd_law_draw, D_law_draw⟩ := defX c 36 (d := d_law_draw) rfl
  have F_law_draw := fun_ofD (st := s_law_draw) D_law_draw
  obtain ⟨fd_law_pick, D_law_pick⟩ := defX c 37 (d := d_law_pick) rfl
  have F_law_pick := fun_ofD (st := s_law_pick) D_law_pick
  obtain ⟨fd_law_q, D_law_q⟩ := defX c 38 (d := d_law_q) rfl
  have F_law_q := fun_ofD (st := s_law_q) D_law_q
  obtain ⟨fd_law_less, D_law_less⟩ := defX c 39 (d := d_law_less) rfl
  have F_law_less := fun_ofD (st := s_law_less) D_law_less
  obtain ⟨fd_law_times, D_law_times⟩ := defX c 40 (d := d_law_times) rfl
  have F_law_times := fun_ofD (st := s_law_times) D_law_times
  obtain ⟨fd_law_ds_budgets, D_law_ds_budgets⟩ := defX c 41 (d := d_law_ds_budgets) rfl
  have F_law_ds_budgets := fun_ofD (st := s_law_ds_budgets) D_law_ds_budgets
  obtain ⟨fd_law_ds_meets, D_law_ds_meets⟩ := defX c 42 (d := d_law_ds_meets) rfl
  have F_law_ds_meets := fun_ofD (st := s_law_ds_meets) D_law_ds_meets
  obtain ⟨fd_law_ds_meets_strictly, D_law_ds_meets_strictly⟩ := defX c 43 (d := d_law_ds_meets_strictly) rfl
  have F_law_ds_meets_strictly := fun_ofD (st := s_law_ds_meets_strictly) D_law_ds_meets_strictly
  obtain ⟨fd_law_ds_has_ring, D_law_ds_has_ring⟩ := defX c 44 (d := d_law_ds_has_ring) rfl
  have F_law_ds_has_ring := fun_ofD (st := s_law_ds_has_ring) D_law_ds_has_ring
  obtain ⟨fd_law_plus, D_law_plus⟩ := defX c 45 (d := d_law_plus) rfl
  have F_law_plus := fun_ofD (st := s_law_plus) D_law_plus
  obtain ⟨fd_law_sum, D_law_sum⟩ := defX c 46 (d := d_law_sum) rfl
  have F_law_sum := fun_ofD (st := s_law_sum) D_law_sum
  obtain ⟨fd_law_dot, D_law_dot⟩ := defX c 47 (d := d_law_dot) rfl
  have F_law_dot := fun_ofD (st := s_law_dot) D_law_dot
  obtain ⟨fd_law_ds_costs, D_law_ds_costs⟩ := defX c 48 (d := d_law_ds_costs) rfl
  have F_law_ds_costs := fun_ofD (st := s_law_ds_costs) D_law_ds_costs
  obtain ⟨fd_law_minus, D_law_minus⟩ := defX c 49 (d := d_law_minus) rfl
  have F_law_minus := fun_ofD (st := s_law_minus) D_law_minus
  obtain ⟨fd_law_worth, D_law_worth⟩ := defX c 50 (d := d_law_worth) rfl
  have F_law_worth := fun_ofD (st := s_law_worth) D_law_worth
  obtain ⟨fd_law_over, D_law_over⟩ := defX c 51 (d := d_law_over) rfl
  have F_law_over := fun_ofD (st := s_law_over) D_law_over
  obtain ⟨fd_law_bundle, D_law_bundle⟩ := defX c 52 (d := d_law_bundle) rfl
  have F_law_bundle := fun_ofD (st := s_law_bundle) D_law_bundle
  obtain ⟨fd_law_ds_marks, D_law_ds_marks⟩ := defX c 53 (d := d_law_ds_marks) rfl
  have F_law_ds_marks := fun_ofD (st := s_law_ds_marks) D_law_ds_marks
  obtain ⟨fd_law_ds_part, D_law_ds_part⟩ := defX c 54 (d := d_law_ds_part) rfl
  have F_law_ds_part := fun_ofD (st := s_law_ds_part) D_law_ds_part
  obtain ⟨fd_law, D_law⟩ := defX c 55 (d := d_law) rfl
  have F_law := fun_ofD (st := s_law) D_law
  refine ⟨fd_law, fun s v => FunD.bindsA (ps := ["script"]) D_law (fun _ _ _ _ _ _ us hl => match us, hl with | [_], _ => rfl) s [v] rfl, fun base => ?_⟩
  have o_law_begun := ok_law_begun (P := P) (w := w) (base := base) T F_law_begun
  have c_law_begun := cal_of F_law_begun o_law_begun (He.glo_ok X G (factX c 0)) (fun _ _ _ _ _ _ us hl => match us, hl with | [_], _ => rfl)
  have o_law_is_truth := ok_law_is_truth (P := P) (w := w) (base := base) T F_law_is_truth
  have c_law_is_truth := cal_of F_law_is_truth o_law_is_truth (He.glo_ok X G (factX c 1)) (fun _ _ _ _ _ _ us hl => match us, hl with | [_, _], _ => rfl)
  have o_law_same := ok_law_same (P := P) (w := w) (base := base) T c_law_is_truth F_law_same
  have c_law_same := cal_of F_law_same o_law_same (He.glo_ok X G (factX c 2)) (fun _ _ _ _ _ _ us hl => match us, hl with | [_, _], _ => rfl)
  have o_is_whole := ok_is_whole (P := P) (w := w) (base := base) T F_is_whole
  have c_is_whole := cal_of F_is_whole o_is_whole (He.glo_ok X G (factX c 3)) (fun _ _ _ _ _ _ us hl => match us, hl with | [_], _ => rfl)
  have o_is_ratio := ok_is_ratio (P := P) (w := w) (base := base) T c_is_whole F_is_ratio
  have c_is_ratio := cal_of F_is_ratio o_is_ratio (He.glo_ok X G (factX c 4)) (fun _ _ _ _ _ _ us hl => match us, hl with | [_], _ => rfl)
  have o_is_vector := ok_is_vector (P := P) (w := w) (base := base) T c_is_ratio F_is_vector
  have c_is_vector := cal_of F_is_vector o_is_vector (He.glo_ok X G (factX c 5)) (fun _ _ _ _ _ _ us hl => match us, hl with | [_], _ => rfl)
  have o_is_budget := ok_is_budget (P := P) (w := w) (base := base) T c_is_vector F_is_budget
  have c_is_budget := cal_of F_is_budget o_is_budget (He.glo_ok X G (factX c 6)) (fun _ _ _ _ _ _ us hl => match us, hl with | [_, _], _ => rfl)
  have o_are_budgets_of := ok_are_budgets_of (P := P) (w := w) (base := base) T c_is_budget F_are_budgets_of
  have c_are_budgets_of := cal_of F_are_budgets_of o_are_budgets_of (He.glo_ok X G (factX c 7)) (fun _ _ _ _ _ _ us hl => match us, hl with | [_, _], _ => rfl)
  have o_is_budgets := ok_is_budgets (P := P) (w := w) (base := base) T c_are_budgets_of F_is_budgets
  have c_is_budgets := cal_of F_is_budgets o_is_budgets (He.glo_ok X G (factX c 8)) (fun _ _ _ _ _ _ us hl => match us, hl with | [_], _ => rfl)
  have o_need_budgets := ok_need_budgets (P := P) (w := w) (base := base) T c_is_budgets F_need_budgets
  have c_need_budgets := cal_of F_need_budgets o_need_budgets (He.glo_ok X G (factX c 9)) (fun _ _ _ _ _ _ us hl => match us, hl with | [_], _ => rfl)
  have o_lowest := ok_lowest (P := P) (w := w) (base := base) T F_lowest
  have c_lowest := cal_of F_lowest o_lowest (He.glo_ok X G (factX c 10)) (fun _ _ _ _ _ _ us hl => match us, hl with | [_, _], _ => rfl)
  have o_plus := ok_plus (P := P) (w := w) (base := base) T c_lowest F_plus
  have c_plus := cal_of F_plus o_plus (He.glo_ok X G (factX c 11)) (fun _ _ _ _ _ _ us hl => match us, hl with | [_, _], _ => rfl)
  have o_total := ok_total (P := P) (w := w) (base := base) T c_plus F_total
  have c_total := cal_of F_total o_total (He.glo_ok X G (factX c 12)) (fun _ _ _ _ _ _ us hl => match us, hl with | [_], _ => rfl)
  have o_times := ok_times (P := P) (w := w) (base := base) T c_lowest F_times
  have c_times := cal_of F_times o_times (He.glo_ok X G (factX c 13)) (fun _ _ _ _ _ _ us hl => match us, hl with | [_, _], _ => rfl)
  have o_dot := ok_dot (P := P) (w := w) (base := base) T c_total c_times F_dot
  have c_dot := cal_of F_dot o_dot (He.glo_ok X G (factX c 14)) (fun _ _ _ _ _ _ us hl => match us, hl with | [_, _], _ => rfl)
  have o_costs_of := ok_costs_of (P := P) (w := w) (base := base) T c_dot F_costs_of
  have c_costs_of := cal_of F_costs_of o_costs_of (He.glo_ok X G (factX c 15)) (fun _ _ _ _ _ _ us hl => match us, hl with | [_], _ => rfl)
  have o_costs := ok_costs (P := P) (w := w) (base := base) T c_need_budgets c_costs_of F_costs
  have c_costs := cal_of F_costs o_costs (He.glo_ok X G (factX c 16)) (fun _ _ _ _ _ _ us hl => match us, hl with | [_], _ => rfl)
  have o_is_chance := ok_is_chance (P := P) (w := w) (base := base) T c_is_ratio F_is_chance
  have c_is_chance := cal_of F_is_chance o_is_chance (He.glo_ok X G (factX c 17)) (fun _ _ _ _ _ _ us hl => match us, hl with | [_], _ => rfl)
  have o_need_share := ok_need_share (P := P) (w := w) (base := base) T c_is_chance F_need_share
  have c_need_share := cal_of F_need_share o_need_share (He.glo_ok X G (factX c 18)) (fun _ _ _ _ _ _ us hl => match us, hl with | [_], _ => rfl)
  have o_is_less := ok_is_less (P := P) (w := w) (base := base) T F_is_less
  have c_is_less := cal_of F_is_less o_is_less (He.glo_ok X G (factX c 19)) (fun _ _ _ _ _ _ us hl => match us, hl with | [_, _], _ => rfl)
  have o_reaches_strictly := ok_reaches_strictly (P := P) (w := w) (base := base) T c_is_less c_times F_reaches_strictly
  have c_reaches_strictly := cal_of F_reaches_strictly o_reaches_strictly (He.glo_ok X G (factX c 20)) (fun _ _ _ _ _ _ us hl => match us, hl with | [_, _, _, _], _ => rfl)
  have o_reaches := ok_reaches (P := P) (w := w) (base := base) T c_is_less c_times F_reaches
  have c_reaches := cal_of F_reaches o_reaches (He.glo_ok X G (factX c 21)) (fun _ _ _ _ _ _ us hl => match us, hl with | [_, _, _, _], _ => rfl)
  have o_way_back := ok_way_back (P := P) (w := w) (base := base) T c_reaches F_way_back
  have c_way_back := cal_of F_way_back o_way_back (He.glo_ok X G (factX c 22)) (fun _ _ _ _ _ _ us hl => match us, hl with | [_, _, _, _], _ => rfl)
  have o_ring_in := ok_ring_in (P := P) (w := w) (base := base) T c_reaches_strictly c_way_back F_ring_in
  have c_ring_in := cal_of F_ring_in o_ring_in (He.glo_ok X G (factX c 23)) (fun _ _ _ _ _ _ us hl => match us, hl with | [_, _], _ => rfl)
  have o_classes_of := ok_classes_of (P := P) (w := w) (base := base) T c_way_back F_classes_of
  have c_classes_of := cal_of F_classes_of o_classes_of (He.glo_ok X G (factX c 24)) (fun _ _ _ _ _ _ us hl => match us, hl with | [_, _], _ => rfl)
  have o_least_of := ok_least_of (P := P) (w := w) (base := base) T c_is_less F_least_of
  have c_least_of := cal_of F_least_of o_least_of (He.glo_ok X G (factX c 25)) (fun _ _ _ _ _ _ us hl => match us, hl with | [_], _ => rfl)
  have o_minus := ok_minus (P := P) (w := w) (base := base) T c_lowest F_minus
  have c_minus := cal_of F_minus o_minus (He.glo_ok X G (factX c 26)) (fun _ _ _ _ _ _ us hl => match us, hl with | [_, _], _ => rfl)
  have o_gap_at := ok_gap_at (P := P) (w := w) (base := base) T c_minus c_times F_gap_at
  have c_gap_at := cal_of F_gap_at o_gap_at (He.glo_ok X G (factX c 27)) (fun _ _ _ _ _ _ us hl => match us, hl with | [_, _, _, _], _ => rfl)
  have o_number_for := ok_number_for (P := P) (w := w) (base := base) T c_plus c_times c_gap_at c_least_of F_number_for
  have c_number_for := cal_of F_number_for o_number_for (He.glo_ok X G (factX c 28)) (fun _ _ _ _ _ _ us hl => match us, hl with | [_, _, _, _], _ => rfl)
  have o_greatest_of := ok_greatest_of (P := P) (w := w) (base := base) T c_is_less F_greatest_of
  have c_greatest_of := cal_of F_greatest_of o_greatest_of (He.glo_ok X G (factX c 29)) (fun _ _ _ _ _ _ us hl => match us, hl with | [_], _ => rfl)
  have o_over := ok_over (P := P) (w := w) (base := base) T c_lowest F_over
  have c_over := cal_of F_over o_over (He.glo_ok X G (factX c 30)) (fun _ _ _ _ _ _ us hl => match us, hl with | [_, _], _ => rfl)
  have o_rate_for := ok_rate_for (P := P) (w := w) (base := base) T c_over c_gap_at c_minus c_greatest_of F_rate_for
  have c_rate_for := cal_of F_rate_for o_rate_for (He.glo_ok X G (factX c 31)) (fun _ _ _ _ _ _ us hl => match us, hl with | [_, _, _, _, _], _ => rfl)
  have o_numbers_in := ok_numbers_in (P := P) (w := w) (base := base) T c_classes_of c_number_for c_rate_for F_numbers_in
  have c_numbers_in := cal_of F_numbers_in o_numbers_in (He.glo_ok X G (factX c 32)) (fun _ _ _ _ _ _ us hl => match us, hl with | [_, _], _ => rfl)
  have o_numbers_at := ok_numbers_at (P := P) (w := w) (base := base) T c_need_budgets c_need_share c_costs_of c_ring_in c_numbers_in F_numbers_at
  have c_numbers_at := cal_of F_numbers_at o_numbers_at (He.glo_ok X G (factX c 33)) (fun _ _ _ _ _ _ us hl => match us, hl with | [_, _], _ => rfl)
  have o_law_is_known := ok_law_is_known (P := P) (w := w) (base := base) T c_law_same c_costs c_numbers_at F_law_is_known
  have c_law_is_known := cal_of F_law_is_known o_law_is_known (He.glo_ok X G (factX c 34)) (fun _ _ _ _ _ _ us hl => match us, hl with | [], _ => rfl)
  have o_law_blended := ok_law_blended (P := P) (w := w) (base := base) T F_law_blended
  have c_law_blended := cal_of F_law_blended o_law_blended (He.glo_ok X G (factX c 35)) (fun _ _ _ _ _ _ us hl => match us, hl with | [_], _ => rfl)
  have o_law_draw := ok_law_draw (P := P) (w := w) (base := base) T c_law_blended F_law_draw
  have c_law_draw := cal_of F_law_draw o_law_draw (He.glo_ok X G (factX c 36)) (fun _ _ _ _ _ _ us hl => match us, hl with | [_, _], _ => rfl)
  have o_law_pick := ok_law_pick (P := P) (w := w) (base := base) T c_law_draw F_law_pick
  have c_law_pick := cal_of F_law_pick o_law_pick (He.glo_ok X G (factX c 37)) (fun _ _ _ _ _ _ us hl => match us, hl with | [_, _], _ => rfl)
  have o_law_q := ok_law_q (P := P) (w := w) (base := base) T F_law_q
  have c_law_q := cal_of F_law_q o_law_q (He.glo_ok X G (factX c 38)) (fun _ _ _ _ _ _ us hl => match us, hl with | [_, _], _ => rfl)
  have o_law_less := ok_law_less (P := P) (w := w) (base := base) T F_law_less
  have c_law_less := cal_of F_law_less o_law_less (He.glo_ok X G (factX c 39)) (fun _ _ _ _ _ _ us hl => match us, hl with | [_, _], _ => rfl)
  have o_law_times := ok_law_times (P := P) (w := w) (base := base) T c_law_q F_law_times
  have c_law_times := cal_of F_law_times o_law_times (He.glo_ok X G (factX c 40)) (fun _ _ _ _ _ _ us hl => match us, hl with | [_, _], _ => rfl)
  have o_law_ds_budgets := ok_law_ds_budgets (P := P) (w := w) (base := base) T c_law_pick c_law_draw c_law_q c_law_less c_law_times F_law_ds_budgets
  have c_law_ds_budgets := cal_of F_law_ds_budgets o_law_ds_budgets (He.glo_ok X G (factX c 41)) (fun _ _ _ _ _ _ us hl => match us, hl with | [_, _], _ => rfl)
  have o_law_ds_meets := ok_law_ds_meets (P := P) (w := w) (base := base) T c_law_less c_law_times F_law_ds_meets
  have c_law_ds_meets := cal_of F_law_ds_meets o_law_ds_meets (He.glo_ok X G (factX c 42)) (fun _ _ _ _ _ _ us hl => match us, hl with | [_, _, _, _], _ => rfl)
  have o_law_ds_meets_strictly := ok_law_ds_meets_strictly (P := P) (w := w) (base := base) T c_law_less c_law_times F_law_ds_meets_strictly
  have c_law_ds_meets_strictly := cal_of F_law_ds_meets_strictly o_law_ds_meets_strictly (He.glo_ok X G (factX c 43)) (fun _ _ _ _ _ _ us hl => match us, hl with | [_, _, _, _], _ => rfl)
  have o_law_ds_has_ring := ok_law_ds_has_ring (P := P) (w := w) (base := base) T c_law_ds_meets c_law_ds_meets_strictly F_law_ds_has_ring
  have c_law_ds_has_ring := cal_of F_law_ds_has_ring o_law_ds_has_ring (He.glo_ok X G (factX c 44)) (fun _ _ _ _ _ _ us hl => match us, hl with | [_, _], _ => rfl)
  have o_law_plus := ok_law_plus (P := P) (w := w) (base := base) T c_law_q F_law_plus
  have c_law_plus := cal_of F_law_plus o_law_plus (He.glo_ok X G (factX c 45)) (fun _ _ _ _ _ _ us hl => match us, hl with | [_, _], _ => rfl)
  have o_law_sum := ok_law_sum (P := P) (w := w) (base := base) T c_law_plus F_law_sum
  have c_law_sum := cal_of F_law_sum o_law_sum (He.glo_ok X G (factX c 46)) (fun _ _ _ _ _ _ us hl => match us, hl with | [_], _ => rfl)
  have o_law_dot := ok_law_dot (P := P) (w := w) (base := base) T c_law_sum c_law_times F_law_dot
  have c_law_dot := cal_of F_law_dot o_law_dot (He.glo_ok X G (factX c 47)) (fun _ _ _ _ _ _ us hl => match us, hl with | [_, _], _ => rfl)
  have o_law_ds_costs := ok_law_ds_costs (P := P) (w := w) (base := base) T c_law_dot F_law_ds_costs
  have c_law_ds_costs := cal_of F_law_ds_costs o_law_ds_costs (He.glo_ok X G (factX c 48)) (fun _ _ _ _ _ _ us hl => match us, hl with | [_], _ => rfl)
  have o_law_minus := ok_law_minus (P := P) (w := w) (base := base) T c_law_q F_law_minus
  have c_law_minus := cal_of F_law_minus o_law_minus (He.glo_ok X G (factX c 49)) (fun _ _ _ _ _ _ us hl => match us, hl with | [_, _], _ => rfl)
  have o_law_worth := ok_law_worth (P := P) (w := w) (base := base) T c_law_plus c_law_times c_law_minus c_law_dot c_law_less F_law_worth
  have c_law_worth := cal_of F_law_worth o_law_worth (He.glo_ok X G (factX c 50)) (fun _ _ _ _ _ _ us hl => match us, hl with | [_, _, _], _ => rfl)
  have o_law_over := ok_law_over (P := P) (w := w) (base := base) T c_law_q F_law_over
  have c_law_over := cal_of F_law_over o_law_over (He.glo_ok X G (factX c 51)) (fun _ _ _ _ _ _ us hl => match us, hl with | [_, _], _ => rfl)
  have o_law_bundle := ok_law_bundle (P := P) (w := w) (base := base) T c_law_draw c_law_sum c_law_times c_law_pick c_law_over F_law_bundle
  have c_law_bundle := cal_of F_law_bundle o_law_bundle (He.glo_ok X G (factX c 52)) (fun _ _ _ _ _ _ us hl => match us, hl with | [_, _, _], _ => rfl)
  have o_law_ds_marks := ok_law_ds_marks (P := P) (w := w) (base := base) T c_law_over c_law_less F_law_ds_marks
  have c_law_ds_marks := cal_of F_law_ds_marks o_law_ds_marks (He.glo_ok X G (factX c 53)) (fun _ _ _ _ _ _ us hl => match us, hl with | [_], _ => rfl)
  have o_law_ds_part := ok_law_ds_part (P := P) (w := w) (base := base) T c_law_ds_marks c_law_pick c_law_minus c_law_times c_law_plus c_law_q c_law_draw F_law_ds_part
  have c_law_ds_part := cal_of F_law_ds_part o_law_ds_part (He.glo_ok X G (factX c 54)) (fun _ _ _ _ _ _ us hl => match us, hl with | [_, _], _ => rfl)
  exact ok_law T c_law_begun c_law_is_known c_law_ds_budgets c_numbers_at c_law_ds_has_ring c_law_ds_costs c_costs c_law_worth c_law_bundle c_law_less c_law_ds_part F_law
end
end K35
open PySem PySem.W
open PySem.Calls PyProof.Rows
theorem PySem.Challenge.cw_choiceshown_k35_numbers_and_bundles_holds : PySem.Challenge.rw_choiceshown_k35_numbers_and_bundles.Holds := by
  w_on; o_law
  refine HandSHeadRun.head_imp (r := OpenLaw.row PySem.Challenge.rw_choiceshown_k35_numbers_and_bundles) (q := view (OpenLaw.row PySem.Challenge.rw_choiceshown_k35_numbers_and_bundles).prog [0, 72]) (H := K35.hkX) (ob := K35.obX) (M := 20000) (loose := K35.lsX) (d := HandSHeadRun.topDef (OpenLaw.row PySem.Challenge.rw_choiceshown_k35_numbers_and_bundles).prog 72) (kwd := []) K35.obX_eq
    K35.runX (by kernel_rfl) (by kernel_rfl) (by kernel_rfl) (by rfl) (by first | assumption | decide +kernel) (by decide +kernel) ⟨rfl, rfl, rfl, rfl, rfl, by decide +kernel⟩ ?hw ?hc
  case hw => w_witness2
  case hc =>
    refine L2.walk_ofE (l := PySem.Challenge.rw_choiceshown_k35_numbers_and_bundles) (n := 63) (k := 10) (x := "script") (CX := L2.CX0) rfl (by decide) (by kernel_rfl) ⟨rfl, by decide, by decide⟩ ?F (fun _ _ _ _ z => z)
    intro w mg fa h Y G hmg0
    (obtain ⟨K, KX, c⟩ := Y); have hmg : mg ("law" : PySem.Str) = some (.ref fa) := by
      have e : (HandSHeadRun.topDef (OpenLaw.row PySem.Challenge.rw_choiceshown_k35_numbers_and_bundles).prog 72).name = ("law" : PySem.Str) := by kernel_rfl
      rw [← e]
      exact hmg0
    have e := hmg.symm.trans (He.glo_ok KX G (K35.factX c 55))
    cases e
    obtain ⟨fd, hb, hF⟩ := K35.allX (P := (PySem.Challenge.rw_choiceshown_k35_numbers_and_bundles).prog) (w := w) KX G c
    exact ⟨K, fd, _, KX, hb, fun H a ns hl _ hS => ⟨a, ns, rfl, hS, by omega, fun r h1 h2 h3 h4 => K35.law_true (by omega) h1 h2 h3 h4, fun _ => rfl⟩, fun base _ _ => hF base⟩
