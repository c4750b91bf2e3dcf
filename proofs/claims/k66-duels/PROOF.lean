import PyProof.Rows.All
import Wide.All
import OpenK.AllK
import Wide.FinOn
import HandS.Ends
import HandS.ExcIs
import HandS.HeadHook1
import HandS.Words
import HandS.Defaults
import HandS.Head0
import HandS.Head1
import HandS.Head2
import HandS.Head3
import HandS.HeadEnd
import HandS.HeadHook2
import HandS.HeadHook3
import HandS.HeadHook4
import HandS.EndTab
import HandS.HeadWalk
import HandS.ForMost
import HandS.ForExc
import HandS.Walk
import HandS.Wide
import HandS.Flow
import HandS.Style
import HandS.Zip
import HandS.Conv
import HandS.IsInst
import HandS.Deep
import HandS.More
import HandS.Codes
import HandS.TupAny
import HandS.TupMul
import HandS.Gcd
import HandS.Lambda
import HandS.ExcValue
import HandS.DictComp
import KE.GoesEnum
import HandS.CallLocal
import KE.KDictZip
import HandS.SetFor
import HandS.SortOrd
import HandS.TupSets
import HandS.SortRule
import HandS.Star
import PyProof.ExcBaseAll.ValueError
import HandS.SortInts
import HandS.Strs
import HandS.Text
import PyProof.ListStr
import PyProof.StrOps2
import PyProof.Rows.SortShellAny
import PyProof.Rows.StrMeet
import PySem.Challenge.RW_choiceshown_k66_whole_duels_that_voters
set_option Elab.async false
set_option linter.all false
set_option exponentiation.threshold 3000
set_option maxRecDepth 100000
set_option maxHeartbeats 0
namespace K66
open PySem PySem.Spec PyProof.Rows L2
def topS (i : Nat) : Stmt := PySem.Challenge.pw_choiceshown_k66_whole_duels_that_voters.main.body.getD i (.Pass ⟨0, 0, 0, 0⟩)
abbrev s_law_begun : Stmt := topS 24
abbrev s_law_caught : Stmt := topS 28
abbrev s_law_blended : Stmt := topS 25
abbrev s_law_draw : Stmt := topS 26
abbrev s_law_pick : Stmt := topS 27
abbrev s_law_words : Stmt := topS 31
abbrev s_pairs_of : Stmt := topS 15
abbrev s_two_for : Stmt := topS 19
abbrev s_even_voters : Stmt := topS 20
abbrev s_voters_for : Stmt := topS 21
abbrev s_is_word : Stmt := topS 7
abbrev s_are_things : Stmt := topS 9
abbrev s_is_whole : Stmt := topS 11
abbrev s_is_sign : Stmt := topS 17
abbrev s_is_table : Stmt := topS 16
abbrev s_is_duels : Stmt := topS 18
abbrev s_duel_voters : Stmt := topS 22
abbrev s_law_k66_kind : Stmt := topS 36
abbrev s_law_tg_pairs : Stmt := topS 33
abbrev s_law_is_truth : Stmt := topS 29
abbrev s_law_same : Stmt := topS 30
abbrev s_law_tg_margins : Stmt := topS 34
abbrev s_law_is_word : Stmt := topS 32
abbrev s_law_tg_are_voters : Stmt := topS 35
abbrev s_law : Stmt := topS 37
end K66
namespace Dv
open PySem PySem.Spec PyProof.Rows L2
def excB (K : PySem.W.Frag) (D : Addr) : Bool := He.eqO (PySem.W.findIn K (.ref D) "__getattribute__") (some (some (.builtin "BaseException.__getattribute__"))) && (He.eqO (PySem.W.findIn K (.ref D) "__getattr__") (some none) && (decide (PySem.W.subIn K (.ref D) (.type "BaseException") = some true) &&
  (PySem.W.hasDictIn K D && (He.eqO (PySem.W.findIn K (.ref D) "__class__") (some (some (.builtin "object.__class__"))) && (He.eqO (PySem.W.specialIn K (.builtin "object.__class__") "__get__") (some (some (.builtin "getset_descriptor.__get__"))) &&
  (decide (PySem.W.takesIn K (.builtin "object.__class__") = some true) && decide (PySem.W.mroIn K D (.type "object") = some true)))))))
theorem excB_ok {K : PySem.W.Frag} {D : Addr} (h : excB K D = true) : ExcC K D := by
  obtain ⟨h1, h⟩ := He.ba h
  obtain ⟨h2, h⟩ := He.ba h
  obtain ⟨h3, h⟩ := He.ba h
  obtain ⟨h4, h⟩ := He.ba h
  obtain ⟨h5, h⟩ := He.ba h
  obtain ⟨h6, h⟩ := He.ba h
  obtain ⟨h7, h8⟩ := He.ba h
  exact ⟨He.eqO_ok h1, He.eqO_ok h2, of_decide_eq_true h3, h4, He.eqO_ok h5, He.eqO_ok h6, of_decide_eq_true h7, of_decide_eq_true h8⟩
end Dv
namespace K66
open PySem PySem.Spec PyProof.Rows L2

def d_law_caught : He.DefD := ⟨("_law_caught", none), "_law_caught", "_law_caught", defArgs s_law_caught, defBody s_law_caught, defScope s_law_caught, [], []⟩
def d_law_begun : He.DefD := ⟨("_law_begun", none), "_law_begun", "_law_begun", defArgs s_law_begun, defBody s_law_begun, defScope s_law_begun, [], []⟩
def d_law_blended : He.DefD := ⟨("_law_blended", none), "_law_blended", "_law_blended", defArgs s_law_blended, defBody s_law_blended, defScope s_law_blended, [], []⟩
def d_law_draw : He.DefD := ⟨("_law_draw", none), "_law_draw", "_law_draw", defArgs s_law_draw, defBody s_law_draw, defScope s_law_draw, [], []⟩
def d_law_pick : He.DefD := ⟨("_law_pick", none), "_law_pick", "_law_pick", defArgs s_law_pick, defBody s_law_pick, defScope s_law_pick, [], []⟩
def d_law_words : He.DefD := ⟨("_law_words", none), "_law_words", "_law_words", defArgs s_law_words, defBody s_law_words, defScope s_law_words, [], []⟩
def d_pairs_of : He.DefD := ⟨("pairs_of", none), "pairs_of", "pairs_of", defArgs s_pairs_of, defBody s_pairs_of, defScope s_pairs_of, [], []⟩
def d_two_for : He.DefD := ⟨("two_for", none), "two_for", "two_for", defArgs s_two_for, defBody s_two_for, defScope s_two_for, [], []⟩
def d_even_voters : He.DefD := ⟨("even_voters", none), "even_voters", "even_voters", defArgs s_even_voters, defBody s_even_voters, defScope s_even_voters, [], []⟩
def d_voters_for : He.DefD := ⟨("voters_for", none), "voters_for", "voters_for", defArgs s_voters_for, defBody s_voters_for, defScope s_voters_for, [], []⟩
def d_is_word : He.DefD := ⟨("is_word", none), "is_word", "is_word", defArgs s_is_word, defBody s_is_word, defScope s_is_word, [], []⟩
def d_are_things : He.DefD := ⟨("are_things", none), "are_things", "are_things", defArgs s_are_things, defBody s_are_things, defScope s_are_things, [], []⟩
def d_is_whole : He.DefD := ⟨("is_whole", none), "is_whole", "is_whole", defArgs s_is_whole, defBody s_is_whole, defScope s_is_whole, [], []⟩
def d_is_sign : He.DefD := ⟨("is_sign", none), "is_sign", "is_sign", defArgs s_is_sign, defBody s_is_sign, defScope s_is_sign, [], []⟩
def d_is_table : He.DefD := ⟨("is_table", none), "is_table", "is_table", defArgs s_is_table, defBody s_is_table, defScope s_is_table, [], []⟩
def d_is_duels : He.DefD := ⟨("is_duels", none), "is_duels", "is_duels", defArgs s_is_duels, defBody s_is_duels, defScope s_is_duels, [], []⟩
def d_duel_voters : He.DefD := ⟨("duel_voters", none), "duel_voters", "duel_voters", defArgs s_duel_voters, defBody s_duel_voters, defScope s_duel_voters, [], []⟩
def d_law_k66_kind : He.DefD := ⟨("_law_k66_kind", none), "_law_k66_kind", "_law_k66_kind", defArgs s_law_k66_kind, defBody s_law_k66_kind, defScope s_law_k66_kind, [], []⟩
def d_law_tg_pairs : He.DefD := ⟨("_law_tg_pairs", none), "_law_tg_pairs", "_law_tg_pairs", defArgs s_law_tg_pairs, defBody s_law_tg_pairs, defScope s_law_tg_pairs, [], []⟩
def d_law_is_truth : He.DefD := ⟨("_law_is_truth", none), "_law_is_truth", "_law_is_truth", defArgs s_law_is_truth, defBody s_law_is_truth, defScope s_law_is_truth, [], []⟩
def d_law_same : He.DefD := ⟨("_law_same", none), "_law_same", "_law_same", defArgs s_law_same, defBody s_law_same, defScope s_law_same, [], []⟩
def d_law_tg_margins : He.DefD := ⟨("_law_tg_margins", none), "_law_tg_margins", "_law_tg_margins", defArgs s_law_tg_margins, defBody s_law_tg_margins, defScope s_law_tg_margins, [], []⟩
def d_law_is_word : He.DefD := ⟨("_law_is_word", none), "_law_is_word", "_law_is_word", defArgs s_law_is_word, defBody s_law_is_word, defScope s_law_is_word, [], []⟩
def d_law_tg_are_voters : He.DefD := ⟨("_law_tg_are_voters", none), "_law_tg_are_voters", "_law_tg_are_voters", defArgs s_law_tg_are_voters, defBody s_law_tg_are_voters, defScope s_law_tg_are_voters, [], []⟩
def d_law : He.DefD := ⟨("law", none), "law", "law", defArgs s_law, defBody s_law, defScope s_law, [], []⟩
def hfn0 : List He.DefD := [d_law_caught, d_law_begun, d_law_blended, d_law_draw, d_law_pick, d_law_words, d_pairs_of, d_two_for, d_even_voters, d_voters_for, d_is_word, d_are_things, d_is_whole, d_is_sign, d_is_table, d_is_duels, d_duel_voters, d_law_k66_kind, d_law_tg_pairs, d_law_is_truth, d_law_same, d_law_tg_margins, d_law_is_word, d_law_tg_are_voters, d_law]
def hfn : List He.DefD := hfn0
def hfa0 : List He.Fa := [.glo "_law_caught", .glo "_law_begun", .glo "_law_blended", .glo "_law_draw", .glo "_law_pick", .glo "_law_words", .glo "pairs_of", .glo "two_for", .glo "even_voters", .glo "voters_for", .glo "is_word", .glo "are_things", .glo "is_whole", .glo "is_sign", .glo "is_table", .glo "is_duels", .glo "duel_voters", .glo "_law_k66_kind", .glo "_law_tg_pairs", .glo "_law_is_truth", .glo "_law_same", .glo "_law_tg_margins", .glo "_law_is_word", .glo "_law_tg_are_voters", .glo "law", .int "LEAST_THINGS" 2, .str "LETTERS" "abcdefghijklmnopqrstuvwxyz", .int "MOST_THINGS" 5, .free "abs", .free "all"]
def hfa1 : List He.Fa := [.free "any", .free "bool", .free "dict", .free "enumerate", .free "int", .free "isinstance", .free "len", .free "list", .free "min", .free "range", .free "set", .free "sorted", .free "str", .free "sum", .free "tuple", .free "zip", .glo "BadDuels", .glo "BadMargins", .glo "BadOdd", .glo "ShownError", .exc "BadDuels", .exc "BadOdd", .exm "BadDuels" "ShownError" true, .exm "BadOdd" "ShownError" true]
def hfa : List He.Fa := hfa0 ++ hfa1
def hex (K : PySem.W.Frag) : List Bool := [Dv.excB K (He.ga K "BadDuels"), decide (PySem.W.kitOne K (.ref (He.ga K "BadDuels")) (.ref (He.ga K "BadDuels")) = some true), decide (PySem.W.kitOne K (.ref (He.ga K "BadDuels")) (.ref (He.ga K "BadMargins")) = some false), decide (PySem.W.kitOne K (.ref (He.ga K "BadDuels")) (.ref (He.ga K "BadOdd")) = some false), Dv.excB K (He.ga K "BadOdd"), decide (PySem.W.kitOne K (.ref (He.ga K "BadOdd")) (.ref (He.ga K "BadDuels")) = some false), decide (PySem.W.kitOne K (.ref (He.ga K "BadOdd")) (.ref (He.ga K "BadMargins")) = some false), decide (PySem.W.kitOne K (.ref (He.ga K "BadOdd")) (.ref (He.ga K "BadOdd")) = some true)]
def hexB (K : PySem.W.Frag) : Bool := (hex K).all id
def hkX : PySem.W.Hook := He.hookX 4 hfa hfn [] [("law", none)] hexB
def obX (s : PySem.W.SharedT) : He.AlX := He.obsX 4 hfa hfn [] [("law", none)] hexB (HandSHeadRun.getT s)
theorem obX_eq (s : PySem.W.SharedT) : obX s = hkX.obs s.abs := He.obsX_eq (HandSHeadRun.getT_eq s)
abbrev RX : PySem.W.OpenRow := PySem.W.OpenLaw.row PySem.Challenge.rw_choiceshown_k66_whole_duels_that_voters
def lsX0 : List PySem.Str := ["ShownError", "ValueError", "BadMargins", "BadDuels", "BadOdd", "LETTERS", "is_word", "are_things", "is_whole", "LEAST_THINGS", "MOST_THINGS", "pairs_of", "is_table", "is_sign", "is_duels", "two_for", "even_voters", "voters_for", "duel_voters", "_law_begun", "_law_blended", "_law_draw", "_law_pick", "_law_caught", "_law_is_truth", "_law_same", "_law_words", "_law_is_word", "_law_tg_pairs", "_law_tg_margins"]
def lsX1 : List PySem.Str := ["_law_tg_are_voters", "_law_k66_kind"]
def lsX : List PySem.Str := lsX0 ++ lsX1
theorem runHd (w : World) : HandSHeadRun.RunEqI RX (PySem.W.view RX.prog [37]) hkX obX 20000 lsX w := by
  unfold HandSHeadRun.RunEqI
  kernel_rfl
end K66
namespace Dv
open PySem PySem.Spec PyProof.Rows L2

/-- an error of the class cls, caught, at a -/
def ErrO (cls : Value) (a : Addr) : HO := .ext fun h => ∃ (oe : Obj) (vs : Array Value), h.get? a = some oe ∧ Zc cls none oe ∧ oe.data = .fields vs
theorem errO_ok {P : Program} {w : World} {H : Hp} {h : Heap} {a : Addr} {cls : Value} {oe : Obj} {vs : Array Value} (e : h.get? a = some oe) (z : Zc cls none oe) (d : oe.data = .fields vs) : ObjOk P w H h a (ErrO cls a) :=
  ⟨⟨oe, vs, e, z, d⟩, ⟨oe, e⟩, fun _ _ ⟨o, v, q, r⟩ k => ⟨o, v, k o q, r⟩⟩
/-- a lambda's text and its cells; k: a number of one's own -/
structure LamD where
  k : Nat
  params : Arguments
  body : Expr
  scope : Scope
  q : Str
  cells : List (Str × Addr)
abbrev LamD.obj (sp : LamD) (c' : Addr) (pm ctv : Value) : Obj := PySem.W.kla_obj "<lambda>" sp.q sp.params sp.body sp.scope sp.cells pm c' ctv
/-- the function object at f -/
def LamO (f : Addr) (o : Obj) : HO := .ext fun h => h.get? f = some o
theorem lamO_ok {P : Program} {w : World} {H : Hp} {h : Heap} {f : Addr} {o : Obj} (e : h.get? f = some o) : ObjOk P w H h f (LamO f o) := ⟨e, ⟨o, e⟩, fun _ _ q k => k _ q⟩
/-- data: what a value is, without addresses -/
inductive D where
  | non | bl (b : Bool) | int (i : Int) | str (x : Str)
  | tup (ds : List D) | kt (ds : List D) | tx (ds : List D) | lst (ds : List D)
  | dK (kvs : List (Key × D)) | dT (kvs : List (List Key × D)) | lT (od : Obj) (vs : List (List Key × V)) (kvs : List (List Key × D))
  | rng (a : Addr) | fn (a : Addr) | scr (ns : List Int) | err (C : Addr) | lam (sp : LamD)

/-- at v, in the frozen part F of the heap, lies d -/
inductive Rep (K : PySem.W.Frag) (F : Hp) : V → D → Prop
  | non : Rep K F .non .non
  | bl (b : Bool) : Rep K F (.bl b) (.bl b)
  | int (i : Int) : Rep K F (.int i) (.int i)
  | str (x : Str) : Rep K F (.str x) (.str x)
  | tup {a : Addr} {vs : List V} {ds : List D} (h : F a = some (.tup vs)) (hz : ds.length ≤ sizeLine) (hl : vs.length = ds.length) (r : ∀ (i : Nat) v d, vs[i]? = some v → ds[i]? = some d → Rep K F v d) : Rep K F (.ref a) (.tup ds)
  | kt {a : Addr} {vs : List V} {ds : List D} (h : SqT K (fun _ => none) a vs) (hl : vs.length = ds.length) (r : ∀ (i : Nat) v d, vs[i]? = some v → ds[i]? = some d → Rep K F v d) : Rep K F (.ref a) (.kt ds)
  | tx {a : Addr} {ob : Obj} {vs : List V} {ds : List D} (h : F a = some (.frz ob (.tup vs))) (hx : ob.cls = .type "tuple" ∧ ob.dict = none) (hz : ds.length ≤ sizeLine) (hl : vs.length = ds.length) (r : ∀ (i : Nat) v d, vs[i]? = some v → ds[i]? = some d → Rep K F v d) : Rep K F (.ref a) (.tx ds)
  | lst {a : Addr} {vs : List V} {ds : List D} (h : F a = some (.lst vs)) (hz : ds.length ≤ sizeLine) (hl : vs.length = ds.length) (r : ∀ (i : Nat) v d, vs[i]? = some v → ds[i]? = some d → Rep K F v d) : Rep K F (.ref a) (.lst ds)
  | dK {a : Addr} {kvs : List (Key × V)} {ds : List (Key × D)} (h : Rd F a (.dK kvs)) (hk : kvs.map (·.1) = ds.map (·.1)) (r : ∀ (i : Nat) v d, kvs[i]? = some v → ds[i]? = some d → Rep K F v.2 d.2) : Rep K F (.ref a) (.dK ds)
  | dT {a : Addr} {kvs : List (List Key × V)} {ds : List (List Key × D)} (h : F a = some (.dT kvs)) (hk : kvs.map (·.1) = ds.map (·.1)) (r : ∀ (i : Nat) v d, kvs[i]? = some v → ds[i]? = some d → Rep K F v.2 d.2) : Rep K F (.ref a) (.dT ds)
  | lT {a : Addr} {od : Obj} {kvs : List (List Key × V)} {ds : List (List Key × D)} (h : F a = some (.frz od (.dT kvs))) (hk : kvs.map (·.1) = ds.map (·.1)) (r : ∀ (i : Nat) v d, kvs[i]? = some v → ds[i]? = some d → Rep K F v.2 d.2) : Rep K F (.ref a) (.lT od kvs ds)
  | rng (a : Addr) : Rep K F (.ref a) (.rng a)
  | fn (a : Addr) : Rep K F (.ref a) (.fn a)
  | scr {a : Addr} {ns : List Int} (h : SqL K F a (ns.map V.int)) : Rep K F (.ref a) (.scr ns)
  | err {a C : Addr} (h : F a = some (ErrO (.ref C) a)) (hx : ExcC K C) : Rep K F (.ref a) (.err C)
  | lam {f c' : Addr} {sp : LamD} {pm ctv : Value} (h : F f = some (LamO f (sp.obj c' pm ctv))) (hc : F c' = some (LamX.CodeO c' sp.q)) : Rep K F (.ref f) (.lam sp)

abbrev RepL (K : PySem.W.Frag) (F : Hp) : List V → List D → Prop := Paired (Rep K F)
abbrev RepP {κ : Type} (K : PySem.W.Frag) (F : Hp) : List (κ × V) → List (κ × D) → Prop := Paired fun p q => p.1 = q.1 ∧ Rep K F p.2 q.2

abbrev Le (F F' : Hp) : Prop := Same F F'

section paired
variable {α β : Type} {R : α → β → Prop}
theorem paired_of : ∀ {xs : List α} {ys : List β}, xs.length = ys.length → (∀ (i : Nat) x y, xs[i]? = some x → ys[i]? = some y → R x y) → Paired R xs ys
  | [], [], _, _ => .nil
  | [], _ :: _, h, _ => by simp at h
  | _ :: _, [], h, _ => by simp at h
  | x :: xs, y :: ys, h, r => .cons (r 0 x y rfl rfl) (paired_of (by simpa using h) fun i a b e1 e2 => r (i + 1) a b (by simpa using e1) (by simpa using e2))
theorem paired_get : ∀ {xs : List α} {ys : List β}, Paired R xs ys → ∀ (i : Nat) x y, xs[i]? = some x → ys[i]? = some y → R x y
  | _, _, .nil, _, _, _, h, _ => by simp at h
  | _, _, .cons r _, 0, _, _, h1, h2 => by simp at h1 h2; subst h1; subst h2; exact r
  | _, _, .cons _ t, i + 1, _, _, h1, h2 => paired_get t i _ _ (by simpa using h1) (by simpa using h2)
theorem paired_get' {xs : List α} {ys : List β} (h : Paired R xs ys) {i : Nat} {y : β} (e : ys[i]? = some y) : ∃ x, xs[i]? = some x ∧ R x y := by
  have hl : xs.length = ys.length := Paired.length h
  have hi : i < ys.length := (List.getElem?_eq_some_iff.mp e).1
  refine ⟨xs[i]'(by omega), List.getElem?_eq_getElem _, paired_get h i _ _ (List.getElem?_eq_getElem _) e⟩
theorem paired_get'' {xs : List α} {ys : List β} (h : Paired R xs ys) {i : Nat} {x : α} (e : xs[i]? = some x) : ∃ y, ys[i]? = some y ∧ R x y := by
  have hl : xs.length = ys.length := Paired.length h
  have hi : i < xs.length := (List.getElem?_eq_some_iff.mp e).1
  refine ⟨ys[i]'(by omega), List.getElem?_eq_getElem _, paired_get h i _ _ e (List.getElem?_eq_getElem _)⟩
theorem paired_app {xs xs' : List α} {ys ys' : List β} (h : Paired R xs ys) (h' : Paired R xs' ys') : Paired R (xs ++ xs') (ys ++ ys') := by
  induction h with
  | nil => exact h'
  | cons r _ ih => exact .cons r ih
theorem paired_set {x : α} {y : β} (r : R x y) : ∀ {xs : List α} {ys : List β} (i : Nat), Paired R xs ys → Paired R (xs.set i x) (ys.set i y)
  | _, _, _, .nil => .nil
  | _, _, 0, .cons _ t => .cons r t
  | _, _, i + 1, .cons q t => .cons q (paired_set r i t)
theorem paired_take : ∀ {xs : List α} {ys : List β} (n : Nat), Paired R xs ys → Paired R (xs.take n) (ys.take n)
  | _, _, 0, _ => by simp; exact .nil
  | _, _, _ + 1, .nil => .nil
  | _, _, n + 1, .cons r t => .cons r (paired_take n t)
theorem paired_drop : ∀ {xs : List α} {ys : List β} (n : Nat), Paired R xs ys → Paired R (xs.drop n) (ys.drop n)
  | _, _, 0, h => h
  | _, _, _ + 1, .nil => .nil
  | _, _, n + 1, .cons _ t => paired_drop n t
theorem paired_rev {xs : List α} {ys : List β} (h : Paired R xs ys) : Paired R xs.reverse ys.reverse := by
  induction h with
  | nil => exact .nil
  | cons r _ ih => simp only [List.reverse_cons]; exact paired_app ih (.cons r .nil)
theorem paired_eraseIdx : ∀ {xs : List α} {ys : List β} (n : Nat), Paired R xs ys → Paired R (xs.eraseIdx n) (ys.eraseIdx n)
  | _, _, _, .nil => .nil
  | _, _, 0, .cons _ t => t
  | _, _, n + 1, .cons r t => .cons r (paired_eraseIdx n t)
theorem paired_dropLast {xs : List α} {ys : List β} (h : Paired R xs ys) : Paired R xs.dropLast ys.dropLast := by
  rw [List.dropLast_eq_take, List.dropLast_eq_take, Paired.length h]; exact paired_take _ h
theorem paired_mono {R' : α → β → Prop} {xs : List α} {ys : List β} (h : Paired R xs ys) (f : ∀ a b, R a b → R' a b) : Paired R' xs ys := Paired.mapP h f
theorem paired_repl {x : α} {y : β} (r : R x y) : ∀ n, Paired R (List.replicate n x) (List.replicate n y)
  | 0 => .nil
  | n + 1 => .cons r (paired_repl r n)
theorem paired_map2 {α' β' : Type} {R' : α' → β' → Prop} {f : α → α'} {g : β → β'} {xs : List α} {ys : List β} (h : Paired R xs ys) (k : ∀ a b, R a b → R' (f a) (g b)) : Paired R' (xs.map f) (ys.map g) := by
  induction h with
  | nil => exact .nil
  | cons r _ ih => exact .cons (k _ _ r) ih
theorem paired_unmap {α' β' : Type} {R' : α' → β' → Prop} {f : α → α'} {g : β → β'} : ∀ {xs : List α} {ys : List β}, Paired R' (xs.map f) (ys.map g) → Paired (fun a b => R' (f a) (g b)) xs ys
  | [], [], _ => .nil
  | [], _ :: _, h => by cases h
  | _ :: _, [], h => by cases h
  | _ :: _, _ :: _, .cons r t => .cons r (paired_unmap t)
theorem paired_flat {xss : List (List α)} {yss : List (List β)} (h : Paired (Paired R) xss yss) : Paired R xss.flatten yss.flatten := by
  induction h with
  | nil => exact .nil
  | cons r _ ih => simp only [List.flatten_cons]; exact paired_app r ih
end paired

section rep
variable {K : PySem.W.Frag} {F F' : Hp} {v : V} {d : D} {a : Addr}
theorem SqT_mono {xs : List V} (e : Le F F') (h : SqT K F a xs) : SqT K F' a xs := by
  rcases h with (h | ⟨o, h⟩) | h
  · exact .inl (.inl (e _ _ h))
  · exact .inl (.inr ⟨o, e _ _ h⟩)
  · exact .inr h
theorem Rep.mono (e : Le F F') (r : Rep K F v d) : Rep K F' v d := by
  induction r with
  | non => exact .non
  | bl b => exact .bl b
  | int i => exact .int i
  | str x => exact .str x
  | tup h hz hl _ ih => exact .tup (e _ _ h) hz hl ih
  | kt h hl _ ih => exact .kt h hl ih
  | tx h hx hz hl _ ih => exact .tx (e _ _ h) hx hz hl ih
  | lst h hz hl _ ih => exact .lst (e _ _ h) hz hl ih
  | dK h hk _ ih => exact .dK (h.imp (e _ _) fun ⟨o, z⟩ => ⟨o, e _ _ z⟩) hk ih
  | dT h hk _ ih => exact .dT (e _ _ h) hk ih
  | lT h hk _ ih => exact .lT (e _ _ h) hk ih
  | rng a => exact .rng a
  | fn a => exact .fn a
  | scr h => exact .scr (Same.seq e h)
  | err h hx => exact .err (e _ _ h) hx
  | lam h hc => exact .lam (e _ _ h) (e _ _ hc)
theorem RepL.mono {vs : List V} {ds : List D} (e : Le F F') (r : RepL K F vs ds) : RepL K F' vs ds := paired_mono r fun _ _ => Rep.mono e
theorem RepP.mono {κ : Type} {vs : List (κ × V)} {ds : List (κ × D)} (e : Le F F') (r : RepP K F vs ds) : RepP K F' vs ds := paired_mono r fun _ _ h => ⟨h.1, h.2.mono e⟩
theorem Rep.mkTup {vs : List V} {ds : List D} (h : F a = some (.tup vs)) (hz : ds.length ≤ sizeLine) (r : RepL K F vs ds) : Rep K F (.ref a) (.tup ds) := .tup h hz (Paired.length r) (paired_get r)
theorem Rep.mkTx {ob : Obj} {vs : List V} {ds : List D} (h : F a = some (.frz ob (.tup vs))) (hx : ob.cls = .type "tuple" ∧ ob.dict = none) (hz : ds.length ≤ sizeLine) (r : RepL K F vs ds) : Rep K F (.ref a) (.tx ds) := .tx h hx hz (Paired.length r) (paired_get r)
theorem Rep.mkLst {vs : List V} {ds : List D} (h : F a = some (.lst vs)) (hz : ds.length ≤ sizeLine) (r : RepL K F vs ds) : Rep K F (.ref a) (.lst ds) := .lst h hz (Paired.length r) (paired_get r)
theorem RepP.keys {κ : Type} {vs : List (κ × V)} {ds : List (κ × D)} (r : RepP K F vs ds) : vs.map (·.1) = ds.map (·.1) := by
  induction r with
  | nil => rfl
  | cons h _ ih => simp only [List.map_cons, ih, h.1]
theorem repP_of {κ : Type} {vs : List (κ × V)} {ds : List (κ × D)} (hk : vs.map (·.1) = ds.map (·.1)) (r : ∀ (i : Nat) v d, vs[i]? = some v → ds[i]? = some d → Rep K F v.2 d.2) : RepP K F vs ds := by
  have hl : vs.length = ds.length := by have := congrArg List.length hk; simpa using this
  refine paired_of hl fun i x y h1 h2 => ⟨?_, r i x y h1 h2⟩
  have e : (vs.map (·.1))[i]? = (ds.map (·.1))[i]? := by rw [hk]
  rw [List.getElem?_map, List.getElem?_map, h1, h2] at e
  exact Option.some.inj e
theorem Rep.mkK {vs : List (Key × V)} {ds : List (Key × D)} (h : F a = some (.dK vs)) (r : RepP K F vs ds) : Rep K F (.ref a) (.dK ds) := .dK (.inl h) (RepP.keys r) fun i v d e1 e2 => (paired_get r i v d e1 e2).2
theorem Rep.mkT {vs : List (List Key × V)} {ds : List (List Key × D)} (h : F a = some (.dT vs)) (r : RepP K F vs ds) : Rep K F (.ref a) (.dT ds) := .dT h (RepP.keys r) fun i v d e1 e2 => (paired_get r i v d e1 e2).2
theorem Rep.mkLT {od : Obj} {vs : List (List Key × V)} {ds : List (List Key × D)} (h : F a = some (.frz od (.dT vs))) (r : RepP K F vs ds) : Rep K F (.ref a) (.lT od vs ds) := .lT h (RepP.keys r) fun i v d e1 e2 => (paired_get r i v d e1 e2).2
theorem Rep.mkKt {vs : List V} {ds : List D} (h : SqT K (fun _ => none) a vs) (r : RepL K F vs ds) : Rep K F (.ref a) (.kt ds) := .kt h (Paired.length r) (paired_get r)
theorem Rep.untup' {ds : List D} (r : Rep K F v (.tup ds)) : ∃ a vs, v = .ref a ∧ F a = some (.tup vs) ∧ RepL K F vs ds := by
  cases r with | tup h _ hl r => exact ⟨_, _, rfl, h, paired_of hl r⟩
theorem Rep.untx {ds : List D} (r : Rep K F v (.tx ds)) : ∃ a ob vs, v = .ref a ∧ F a = some (.frz ob (.tup vs)) ∧ (ob.cls = .type "tuple" ∧ ob.dict = none) ∧ RepL K F vs ds := by
  cases r with | tx h hx _ hl r => exact ⟨_, _, _, rfl, h, hx, paired_of hl r⟩
theorem Rep.unkt {ds : List D} (r : Rep K F v (.kt ds)) : ∃ a vs, v = .ref a ∧ SqT K (fun _ => none) a vs ∧ RepL K F vs ds := by
  cases r with | kt h hl r => exact ⟨_, _, rfl, h, paired_of hl r⟩
/-- the items of a tuple -/
def D.asT : D → Option (List D)
  | .tup ds => some ds
  | .kt ds => some ds
  | .tx ds => some ds
  | _ => none
theorem Rep.untup {d : D} {ds : List D} (h : d.asT = some ds) (r : Rep K F v d) : ∃ a vs, v = .ref a ∧ SqT K F a vs ∧ RepL K F vs ds := by
  unfold D.asT at h
  split at h
  · cases h
    obtain ⟨a, vs, e, q, r⟩ := r.untup'
    exact ⟨a, vs, e, .of q, r⟩
  · cases h
    obtain ⟨a, vs, e, q, r⟩ := r.unkt
    exact ⟨a, vs, e, SqT_mono (fun _ _ z => by cases z) q, r⟩
  · cases h
    obtain ⟨a, ob, vs, e, q, _, r⟩ := r.untx
    exact ⟨a, vs, e, .inl (.inr ⟨ob, q⟩), r⟩
  · cases h
theorem Rep.unlst {ds : List D} (r : Rep K F v (.lst ds)) : ∃ a vs, v = .ref a ∧ F a = some (.lst vs) ∧ RepL K F vs ds := by
  cases r with | lst h _ hl r => exact ⟨_, _, rfl, h, paired_of hl r⟩
theorem Rep.undK {ds : List (Key × D)} (r : Rep K F v (.dK ds)) : ∃ a vs, v = .ref a ∧ Rd F a (.dK vs) ∧ RepP K F vs ds := by
  cases r with | dK h hk r => exact ⟨_, _, rfl, h, repP_of hk r⟩
theorem Rep.undT {ds : List (List Key × D)} (r : Rep K F v (.dT ds)) : ∃ a vs, v = .ref a ∧ F a = some (.dT vs) ∧ RepP K F vs ds := by
  cases r with | dT h hk r => exact ⟨_, _, rfl, h, repP_of hk r⟩
theorem Rep.unlT {od : Obj} {vs : List (List Key × V)} {ds : List (List Key × D)} (r : Rep K F v (.lT od vs ds)) : ∃ a, v = .ref a ∧ F a = some (.frz od (.dT vs)) ∧ RepP K F vs ds := by
  cases r with | lT h hk r => exact ⟨_, rfl, h, repP_of hk r⟩
end rep

/-- what an owned object holds -/
inductive OwnHO (K : PySem.W.Frag) (F : Hp) : HO → D → Prop
  | lst {vs : List V} {ds : List D} (hz : ds.length ≤ sizeLine) (r : RepL K F vs ds) : OwnHO K F (.lst vs) (.lst ds)
  | dK {vs : List (Key × V)} {ds : List (Key × D)} (r : RepP K F vs ds) : OwnHO K F (.dK vs) (.dK ds)
  | dT {vs : List (List Key × V)} {ds : List (List Key × D)} (r : RepP K F vs ds) : OwnHO K F (.dT vs) (.dT ds)
  | lT {od : Obj} {vs : List (List Key × V)} {ds : List (List Key × D)} (r : RepP K F vs ds) : OwnHO K F (.frz od (.dT vs)) (.lT od vs ds)
theorem OwnHO.mono {K : PySem.W.Frag} {F F' : Hp} {o : HO} {d : D} (e : Le F F') (h : OwnHO K F o d) : OwnHO K F' o d := by
  cases h with
  | lst hz r => exact .lst hz (RepL.mono e r)
  | dK r => exact .dK (RepP.mono e r)
  | dT r => exact .dT (RepP.mono e r)
  | lT r => exact .lT (RepP.mono e r)
theorem OwnHO.rep {K : PySem.W.Frag} {F : Hp} {o : HO} {d : D} {a : Addr} (h : OwnHO K F o d) (e : F a = some o) : Rep K F (.ref a) d := by
  cases h with
  | lst hz r => exact .mkLst e hz r
  | dK r => exact .mkK e r
  | dT r => exact .mkT e r
  | lT r => exact .mkLT e r

/-- the law's draws -/
structure Rng where
  at_ : Addr
  gA : Addr
  cA : Addr
  great : List Int
  cells : List Int
  rest : Int
  turn : Int
abbrev Sg := Option Rng
def rngDict (r : Rng) : List (Key × V) := [(Sum.inr "great", .ref r.gA), (Sum.inr "cells", .ref r.cA), (Sum.inr "rest", .int r.rest), (Sum.inr "turn", .int r.turn)]

abbrev OMap := Addr → Option (Option Nat × D)
def updO (M : OMap) (a : Addr) (x : Option Nat × D) : OMap := fun b => if b = a then some x else M b
theorem updO_same {M : OMap} {a : Addr} {x} : updO M a x a = some x := if_pos rfl
theorem updO_ne {M : OMap} {a b : Addr} {x} (h : b ≠ a) : updO M a x b = M b := if_neg h

/-- what a def's activation starts from: the heap at its entry, its frozen part, the draws' own objects -/
structure Gh where
  K : PySem.W.Frag
  H0 : Hp
  F0 : Hp
  R : Addr → Prop
  T : List (Addr × Str)

structure RngAt (K : PySem.W.Frag) (H F : Hp) (r : Rng) : Prop where
  hat : H r.at_ = some (.dK (rngDict r))
  hg : H r.gA = some (.lst (r.great.map V.int))
  hc : F r.cA = some (.lst (r.cells.map V.int))
  hz : r.cells.length ≤ 1000
  fa : F r.at_ = none
  fg : F r.gA = none

/-- what is frozen: from before, or new since, or a tuple -/
def NewOk (F H : Hp) (a : Addr) (o : HO) : Prop := F a = some o ∨ H a = none ∨ ∃ vs, o = .tup vs

/-- the code objects that the table at P tells are told in F -/
def TabF (H F : Hp) (P : Addr) (q : Str) : Prop := ∀ ps, H P = some (.tbl ps) → ∀ (pos : Pos) (cv : Value), codeAmong pos ps.toList = some cv → ∃ c, cv = .ref c ∧ F c = some (LamX.CodeO c q)
theorem TabF.to {H H' F F' : Hp} {P : Addr} {q : Str} (t : TabF H F P q) (e : H' P = H P) (le : ∀ c o, F c = some o → o = LamX.CodeO c q → F' c = some o) : TabF H' F' P q := fun ps h pos cv hc => by
  rw [e] at h
  obtain ⟨c, e1, e2⟩ := t ps h pos cv hc
  exact ⟨c, e1, le _ _ e2 rfl⟩
structure HeapOk (G : Gh) (H F : Hp) (M : OMap) (S : Sg) : Prop where
  sub : ∀ a o, F a = some o → H a = some o
  own : ∀ a w d, M a = some (w, d) → F a = none ∧ G.H0 a = none ∧ ∃ o, H a = some o ∧ OwnHO G.K F o d
  ent : ∀ a o, G.H0 a = some o → ¬ G.R a → H a = some o
  trk : ∀ a, H a = none → G.H0 a = none
  f0 : ∀ a o, G.F0 a = some o → F a = some o
  new : ∀ a o, F a = some o → NewOk G.F0 G.H0 a o
  rng : ∀ r, S = some r → RngAt G.K H F r ∧ M r.at_ = none ∧ M r.gA = none ∧ (G.R r.at_ ∨ G.H0 r.at_ = none) ∧ (G.R r.gA ∨ G.H0 r.gA = none)
  tab : ∀ p, p ∈ G.T → LamX.TabS H p.1 p.2 ∧ F p.1 = none ∧ M p.1 = none ∧ G.R p.1 ∧ TabF H F p.1 p.2

inductive LV where
  | imm (d : D)
  | own (d : D)
abbrev Lo := List (Option LV)

def LRep (K : PySem.W.Frag) (F : Hp) (M : OMap) (i : Nat) (v : V) : LV → Prop
  | .imm d => Rep K F v d
  | .own d => ∃ a, v = .ref a ∧ M a = some (some i, d)
theorem LRep.mono {K : PySem.W.Frag} {F F' : Hp} {M : OMap} {i : Nat} {v : V} {l : LV} (e : Le F F') (h : LRep K F M i v l) : LRep K F' M i v l := by
  cases l with
  | imm d => exact Rep.mono e h
  | own d => exact h

structure Slots (K : PySem.W.Frag) (σ : L2.St) (ρ : Lo) (F : Hp) (M : OMap) : Prop where
  len : σ.length = ρ.length
  at_ : ∀ (i : Nat) l, ρ[i]? = some (some l) → ∃ v, σ[i]? = some (some v) ∧ LRep K F M i v l
theorem Slots.mono {K : PySem.W.Frag} {σ : L2.St} {ρ : Lo} {F F' : Hp} {M : OMap} (s : Slots K σ ρ F M) (e : Le F F') : Slots K σ ρ F' M :=
  ⟨s.len, fun i l h => let ⟨v, a, b⟩ := s.at_ i l h; ⟨v, a, b.mono e⟩⟩

/-- a value that may be read now: frozen, or an owned object's -/
def BRep (K : PySem.W.Frag) (F : Hp) (M : OMap) (v : V) (d : D) : Prop := Rep K F v d ∨ ∃ a w, v = .ref a ∧ M a = some (w, d)
theorem BRep.mono {K : PySem.W.Frag} {F F' : Hp} {M : OMap} {v : V} {d : D} (e : Le F F') (h : BRep K F M v d) : BRep K F' M v d := h.imp (Rep.mono e) id

/-! ### heaps -/
theorem tab_upd {H : Hp} {a P : Addr} {o u : HO} {q : Str} (t : LamX.TabS H P q) (e : H a = some u) (hp : P ≠ a) (hu : ∀ c q, u ≠ LamX.CodeO c q) : LamX.TabS (upd H a o) P q := by
  obtain ⟨ps, h1, h2, h3⟩ := t
  refine ⟨ps, by rw [upd_ne hp]; exact h1, h2, fun pos cv hc => ?_⟩
  obtain ⟨c, e1, e2⟩ := h3 pos cv hc
  exact ⟨c, e1, by rw [upd_ne (fun z => by rw [z, e] at e2; exact hu _ _ (Option.some.inj e2))]; exact e2⟩
theorem tab_new {H : Hp} {a P : Addr} {o : HO} {q : Str} (t : LamX.TabS H P q) (n : H a = none) : LamX.TabS (upd H a o) P q := t.ext fun b u e => by rw [upd_ne (ne_of_none e n)]; exact e
theorem tab_ne {H : Hp} {a P : Addr} {q : Str} (t : LamX.TabS H P q) (n : H a = none) : P ≠ a := let ⟨_, h, _⟩ := t; ne_of_none h n
theorem own_ne {K : PySem.W.Frag} {F : Hp} {o : HO} {d : D} (r : OwnHO K F o d) (c : Addr) (q : Str) : o ≠ LamX.CodeO c q := fun z => by rw [z] at r; unfold LamX.CodeO at r; cases r
section
variable {G : Gh} {H H' F F' : Hp} {M : OMap} {S S' : Sg} {a : Addr} {o : HO}
theorem HeapOk.fnone (h : HeapOk G H F M S) (n : H a = none) : F a = none := by
  cases e : F a with
  | none => rfl
  | some o => rw [h.sub _ _ e] at n; cases n
theorem HeapOk.mnone (h : HeapOk G H F M S) (n : H a = none) : M a = none := by
  cases e : M a with
  | none => rfl
  | some x => obtain ⟨w, d⟩ := x; obtain ⟨_, _, o, e', _⟩ := h.own _ _ _ e; rw [e'] at n; cases n
theorem le_upd (n : F a = none) : Le F (upd F a o) := fun b u e => by rw [upd_ne (ne_of_none e n)]; exact e
theorem RngAt.mono {K : PySem.W.Frag} {r : Rng} (h : RngAt K H F r) (e1 : Same H H') (le : Le F F') (f1 : F' r.at_ = none) (f2 : F' r.gA = none) : RngAt K H' F' r :=
  ⟨e1 _ _ h.hat, e1 _ _ h.hg, le _ _ h.hc, h.hz, f1, f2⟩
/-- a new frozen object -/
theorem HeapOk.laid (h : HeapOk G H F M S) (n : H a = none) : HeapOk G (upd H a o) (upd F a o) M S := by
  have nf := h.fnone n
  refine ⟨fun b u e => ?_, fun b w d e => ?_, fun b u e r => ?_, fun b e => ?_, fun b u e => ?_, fun b u e => ?_, fun r e => ?_, fun p hp => ?_⟩
  · by_cases hb : b = a
    · subst hb; rw [upd_same] at e ⊢; exact e
    · rw [upd_ne hb] at e ⊢; exact h.sub _ _ e
  · obtain ⟨f1, f2, o', e', r⟩ := h.own _ _ _ e
    have hb : b ≠ a := ne_of_none e' n
    exact ⟨by rw [upd_ne hb]; exact f1, f2, o', by rw [upd_ne hb]; exact e', r.mono (le_upd nf)⟩
  · have e' := h.ent _ _ e r
    rw [upd_ne (ne_of_none e' n)]; exact e'
  · by_cases hb : b = a
    · subst hb; rw [upd_same] at e; cases e
    · rw [upd_ne hb] at e; exact h.trk _ e
  · have e' := h.f0 _ _ e
    rw [upd_ne (ne_of_none e' nf)]; exact e'
  · by_cases hb : b = a
    · subst hb; exact .inr (.inl (h.trk _ n))
    · rw [upd_ne hb] at e; exact h.new _ _ e
  · obtain ⟨x, m1, m2, q⟩ := h.rng r e
    have n1 : r.at_ ≠ a := ne_of_none x.hat n
    have n2 : r.gA ≠ a := ne_of_none x.hg n
    exact ⟨x.mono (le_upd n) (le_upd nf) (by rw [upd_ne n1]; exact x.fa) (by rw [upd_ne n2]; exact x.fg), m1, m2, q⟩
  · obtain ⟨t, t1, t2, t3⟩ := h.tab p hp
    exact ⟨tab_new t n, by rw [upd_ne (tab_ne t n)]; exact t1, t2, t3.1, t3.2.to (upd_ne (tab_ne t n)) fun c o e _ => le_upd nf c o e⟩
/-- a new owned object -/
theorem HeapOk.laidO {d : D} {w : Option Nat} (h : HeapOk G H F M S) (n : H a = none) (r : OwnHO G.K F o d) : HeapOk G (upd H a o) F (updO M a (w, d)) S := by
  have nf := h.fnone n
  refine ⟨fun b u e => ?_, fun b w' d' e => ?_, fun b u e r => ?_, fun b e => ?_, h.f0, h.new, fun r e => ?_, fun p hp => ?_⟩
  · have e' := h.sub _ _ e
    rw [upd_ne (ne_of_none e' n)]; exact e'
  · by_cases hb : b = a
    · subst hb; rw [updO_same] at e; cases e; exact ⟨nf, h.trk _ n, o, upd_same, r⟩
    · rw [updO_ne hb] at e
      obtain ⟨f1, f2, o', e', r⟩ := h.own _ _ _ e
      exact ⟨f1, f2, o', by rw [upd_ne hb]; exact e', r⟩
  · have e' := h.ent _ _ e r
    rw [upd_ne (ne_of_none e' n)]; exact e'
  · by_cases hb : b = a
    · subst hb; rw [upd_same] at e; cases e
    · rw [upd_ne hb] at e; exact h.trk _ e
  · obtain ⟨x, m1, m2, q⟩ := h.rng r e
    have n1 : r.at_ ≠ a := ne_of_none x.hat n
    have n2 : r.gA ≠ a := ne_of_none x.hg n
    exact ⟨x.mono (le_upd n) (fun _ _ e => e) x.fa x.fg, by rw [updO_ne n1]; exact m1, by rw [updO_ne n2]; exact m2, q⟩
  · obtain ⟨t, t1, t2, t3⟩ := h.tab p hp
    exact ⟨tab_new t n, t1, by rw [updO_ne (tab_ne t n)]; exact t2, t3.1, t3.2.to (upd_ne (tab_ne t n)) fun _ _ e _ => e⟩
/-- an owned object is written -/
theorem HeapOk.write {d d' : D} {w w' : Option Nat} (h : HeapOk G H F M S) (m : M a = some (w, d)) (r : OwnHO G.K F o d') : HeapOk G (upd H a o) F (updO M a (w', d')) S := by
  obtain ⟨nf, n0, oo, eo, _⟩ := h.own _ _ _ m
  refine ⟨fun b u e => ?_, fun b w' d' e => ?_, fun b u e r => ?_, fun b e => ?_, h.f0, h.new, fun r e => ?_, fun p hp => ?_⟩
  · rw [upd_ne (ne_of_none e nf)]; exact h.sub _ _ e
  · by_cases hb : b = a
    · subst hb; rw [updO_same] at e; cases e; exact ⟨nf, n0, o, upd_same, r⟩
    · rw [updO_ne hb] at e
      obtain ⟨f1, f2, o', e', r⟩ := h.own _ _ _ e
      exact ⟨f1, f2, o', by rw [upd_ne hb]; exact e', r⟩
  · rw [upd_ne (ne_of_none e n0)]; exact h.ent _ _ e r
  · by_cases hb : b = a
    · subst hb; rw [upd_same] at e; cases e
    · rw [upd_ne hb] at e; exact h.trk _ e
  · obtain ⟨x, m1, m2, q⟩ := h.rng r e
    have n1 : r.at_ ≠ a := fun z => by rw [z, m] at m1; cases m1
    have n2 : r.gA ≠ a := fun z => by rw [z, m] at m2; cases m2
    exact ⟨⟨by rw [upd_ne n1]; exact x.hat, by rw [upd_ne n2]; exact x.hg, x.hc, x.hz, x.fa, x.fg⟩, by rw [updO_ne n1]; exact m1, by rw [updO_ne n2]; exact m2, q⟩
  · obtain ⟨t, t1, t2, t3⟩ := h.tab p hp
    have hpa : p.1 ≠ a := fun z => by rw [z, m] at t2; cases t2
    obtain ⟨_, _, oo2, eo2, ro2⟩ := h.own _ _ _ m
    exact ⟨tab_upd t eo2 hpa (own_ne ro2), t1, by rw [updO_ne hpa]; exact t2, t3.1, t3.2.to (upd_ne hpa) fun _ _ e _ => e⟩
/-- an owned object's owner is told otherwise -/
theorem HeapOk.give {d : D} {w : Option Nat} (w' : Option Nat) (h : HeapOk G H F M S) (m : M a = some (w, d)) : HeapOk G H F (updO M a (w', d)) S := by
  obtain ⟨nf, n0, oo, eo, ro⟩ := h.own _ _ _ m
  refine ⟨h.sub, fun b w' d' e => ?_, h.ent, h.trk, h.f0, h.new, fun r e => ?_, fun p hp => ?_⟩
  · by_cases hb : b = a
    · subst hb; rw [updO_same] at e; cases e; exact ⟨nf, n0, oo, eo, ro⟩
    · rw [updO_ne hb] at e; exact h.own _ _ _ e
  · obtain ⟨x, m1, m2, q⟩ := h.rng r e
    have n1 : r.at_ ≠ a := fun z => by rw [z, m] at m1; cases m1
    have n2 : r.gA ≠ a := fun z => by rw [z, m] at m2; cases m2
    exact ⟨x, by rw [updO_ne n1]; exact m1, by rw [updO_ne n2]; exact m2, q⟩
  · obtain ⟨t, t1, t2, t3⟩ := h.tab p hp
    exact ⟨t, t1, by rw [updO_ne (fun z => by rw [z, m] at t2; cases t2)]; exact t2, t3⟩
/-- fewer are told owned -/
theorem HeapOk.less {M' : OMap} (h : HeapOk G H F M S) (m : ∀ a x, M' a = some x → M a = some x) : HeapOk G H F M' S := by
  refine ⟨h.sub, fun b w' d' e => h.own _ _ _ (m _ _ e), h.ent, h.trk, h.f0, h.new, fun r e => ?_, fun p hp => ?_⟩
  rotate_left
  · obtain ⟨t, t1, t2, t3⟩ := h.tab p hp
    refine ⟨t, t1, ?_, t3⟩
    cases z : M' p.1 with
    | none => rfl
    | some y => rw [m _ _ z] at t2; cases t2
  obtain ⟨x, m1, m2, q⟩ := h.rng r e
  refine ⟨x, ?_, ?_, q⟩
  · cases z : M' r.at_ with
    | none => rfl
    | some y => rw [m _ _ z] at m1; cases m1
  · cases z : M' r.gA with
    | none => rfl
    | some y => rw [m _ _ z] at m2; cases m2
/-- an owned object is frozen -/
def dropO (M : OMap) (a : Addr) : OMap := fun b => if b = a then none else M b
theorem HeapOk.freeze {d : D} {w : Option Nat} (h : HeapOk G H F M S) (m : M a = some (w, d)) : ∃ o, H a = some o ∧ F a = none ∧ OwnHO G.K F o d ∧ HeapOk G H (upd F a o) (dropO M a) S := by
  obtain ⟨nf, n0, oo, eo, ro⟩ := h.own _ _ _ m
  refine ⟨oo, eo, nf, ro, ⟨fun b u e => ?_, fun b w' d' e => ?_, h.ent, h.trk, fun b u e => ?_, fun b u e => ?_, fun r e => ?_, fun p hp => ?_⟩⟩
  · by_cases hb : b = a
    · subst hb; rw [upd_same] at e; cases e; exact eo
    · rw [upd_ne hb] at e; exact h.sub _ _ e
  · by_cases hb : b = a
    · subst hb; unfold dropO at e; rw [if_pos rfl] at e; cases e
    · unfold dropO at e; rw [if_neg hb] at e
      obtain ⟨f1, f2, o', e', r⟩ := h.own _ _ _ e
      exact ⟨by rw [upd_ne hb]; exact f1, f2, o', e', r.mono (le_upd nf)⟩
  · have e' := h.f0 _ _ e
    rw [upd_ne (ne_of_none e' nf)]; exact e'
  · by_cases hb : b = a
    · subst hb; exact .inr (.inl n0)
    · rw [upd_ne hb] at e; exact h.new _ _ e
  · obtain ⟨x, m1, m2, q⟩ := h.rng r e
    have n1 : r.at_ ≠ a := fun z => by rw [z, m] at m1; cases m1
    have n2 : r.gA ≠ a := fun z => by rw [z, m] at m2; cases m2
    exact ⟨x.mono (fun _ _ e => e) (le_upd nf) (by rw [upd_ne n1]; exact x.fa) (by rw [upd_ne n2]; exact x.fg), by unfold dropO; rw [if_neg n1]; exact m1, by unfold dropO; rw [if_neg n2]; exact m2, q⟩
  · obtain ⟨t, t1, t2, t3⟩ := h.tab p hp
    have hpa : p.1 ≠ a := fun z => by rw [z, m] at t2; cases t2
    exact ⟨t, by rw [upd_ne hpa]; exact t1, by unfold dropO; rw [if_neg hpa]; exact t2, t3.1, t3.2.to rfl fun c o e _ => le_upd nf c o e⟩
theorem dropO_le {x} {b : Addr} (e : dropO M a b = some x) : M b = some x := by
  unfold dropO at e
  split at e
  · cases e
  · exact e
theorem dropO_ne {b : Addr} (h : b ≠ a) : dropO M a b = M b := if_neg h
/-- a tuple that is there may be told frozen -/
theorem HeapOk.adopt {vs : List V} (h : HeapOk G H F M S) (e : H a = some (.tup vs)) : HeapOk G H (upd F a (.tup vs)) M S ∧ Le F (upd F a (.tup vs)) := by
  have hF : ∀ o, F a = some o → o = .tup vs := fun o q => by
    have := h.sub _ _ q
    rw [e] at this; exact (Option.some.inj this).symm
  have le : Le F (upd F a (.tup vs)) := fun b o q => by
    by_cases hb : b = a
    · subst hb; rw [upd_same, hF _ q]
    · rw [upd_ne hb]; exact q
  refine ⟨⟨fun b u q => ?_, fun b w' d' q => ?_, h.ent, h.trk, fun b u q => le _ _ (h.f0 b u q), fun b u q => ?_, fun r q => ?_, fun p hp => ?_⟩, le⟩
  · by_cases hb : b = a
    · subst hb; rw [upd_same] at q; cases q; exact e
    · rw [upd_ne hb] at q; exact h.sub _ _ q
  · obtain ⟨f1, f2, o', e', r⟩ := h.own _ _ _ q
    have hb : b ≠ a := fun z => by rw [z, e] at e'; cases e'; cases r
    exact ⟨by rw [upd_ne hb]; exact f1, f2, o', e', r.mono le⟩
  · by_cases hb : b = a
    · subst hb; rw [upd_same] at q; cases q; exact .inr (.inr ⟨_, rfl⟩)
    · rw [upd_ne hb] at q; exact h.new _ _ q
  · obtain ⟨x, m1, m2, y⟩ := h.rng r q
    have n1 : r.at_ ≠ a := fun z => by have := x.hat; rw [z, e] at this; cases this
    have n2 : r.gA ≠ a := fun z => by have := x.hg; rw [z, e] at this; cases this
    exact ⟨x.mono (fun _ _ e => e) le (by rw [upd_ne n1]; exact x.fa) (by rw [upd_ne n2]; exact x.fg), m1, m2, y⟩
  · obtain ⟨t, t1, t2, t3⟩ := h.tab p hp
    have hpa : p.1 ≠ a := fun z => by
      obtain ⟨ps, h1, _⟩ := t
      rw [z, e] at h1; cases h1
    exact ⟨t, by rw [upd_ne hpa]; exact t1, t2, t3.1, t3.2.to rfl fun c o e _ => le c o e⟩
/-- what a borrowed value is, in the heap -/
theorem BRep.unlst {v : V} {ds : List D} (h : HeapOk G H F M S) (r : BRep G.K F M v (.lst ds)) : ∃ a vs, v = .ref a ∧ H a = some (.lst vs) ∧ RepL G.K F vs ds := by
  rcases r with r | ⟨a, w, rfl, m⟩
  · obtain ⟨a, vs, e, q, r⟩ := r.unlst
    exact ⟨a, vs, e, h.sub _ _ q, r⟩
  · obtain ⟨_, _, o, e, ro⟩ := h.own _ _ _ m
    cases ro with
    | lst _ r => exact ⟨a, _, rfl, e, r⟩
theorem BRep.rep {v : V} {d : D} (h : HeapOk G H F M S) (r : BRep G.K F M v d) (n : d.asT ≠ none) : Rep G.K F v d := by
  rcases r with r | ⟨a, w, rfl, m⟩
  · exact r
  · obtain ⟨_, _, o, e, ro⟩ := h.own _ _ _ m
    cases ro <;> exact absurd rfl n
theorem BRep.untup {v : V} {d : D} {ds : List D} (h : HeapOk G H F M S) (e : d.asT = some ds) (r : BRep G.K F M v d) : ∃ a vs, v = .ref a ∧ SqT G.K H a vs ∧ RepL G.K F vs ds := by
  obtain ⟨a, vs, e', q, r⟩ := (r.rep h (by rw [e]; exact fun z => nomatch z)).untup e
  exact ⟨a, vs, e', SqT_mono h.sub q, r⟩
/-- a sequence's length -/
theorem Rep.size {K : PySem.W.Frag} {F : Hp} {v : V} {d : D} {ds : List D} (h : d.asT = some ds ∨ d = .lst ds) (r : Rep K F v d) : ds.length ≤ sizeLine := by
  rcases h with h | rfl
  · unfold D.asT at h
    split at h
    · cases h; cases r with | tup _ hz => exact hz
    · cases h
      cases r with
      | kt q hl _ =>
        rcases q with (q | ⟨_, q⟩) | ⟨o, its, n, _, _, _, hz, rv⟩
        · cases q
        · cases q
        · have e := rv.length
          simp only [Array.length_toList] at e
          omega
    · cases h; cases r with | tx _ _ hz => exact hz
    · cases h
  · cases r with | lst _ hz => exact hz
theorem BRep.size {v : V} {d : D} {ds : List D} (hk : HeapOk G H F M S) (h : d.asT = some ds ∨ d = .lst ds) (r : BRep G.K F M v d) : ds.length ≤ sizeLine := by
  rcases r with r | ⟨a, w, rfl, m⟩
  · exact r.size h
  · obtain ⟨_, _, o, e, ro⟩ := hk.own _ _ _ m
    cases ro with
    | lst hz r =>
      rcases h with h | h
      · cases h
      · cases h; exact hz
    | dK r => rcases h with h | h <;> cases h
    | dT r => rcases h with h | h <;> cases h
    | lT r => rcases h with h | h <;> cases h
theorem BRep.undK {v : V} {ds : List (Key × D)} (h : HeapOk G H F M S) (r : BRep G.K F M v (.dK ds)) : ∃ a vs, v = .ref a ∧ Rd H a (.dK vs) ∧ RepP G.K F vs ds := by
  rcases r with r | ⟨a, w, rfl, m⟩
  · obtain ⟨a, vs, e, q, r⟩ := r.undK
    exact ⟨a, vs, e, q.imp (h.sub _ _) fun ⟨o, z⟩ => ⟨o, h.sub _ _ z⟩, r⟩
  · obtain ⟨_, _, o, e, ro⟩ := h.own _ _ _ m
    cases ro with
    | dK r => exact ⟨a, _, rfl, .inl e, r⟩
theorem BRep.undT {v : V} {ds : List (List Key × D)} (h : HeapOk G H F M S) (r : BRep G.K F M v (.dT ds)) : ∃ a vs, v = .ref a ∧ H a = some (.dT vs) ∧ RepP G.K F vs ds := by
  rcases r with r | ⟨a, w, rfl, m⟩
  · obtain ⟨a, vs, e, q, r⟩ := r.undT
    exact ⟨a, vs, e, h.sub _ _ q, r⟩
  · obtain ⟨_, _, o, e, ro⟩ := h.own _ _ _ m
    cases ro with
    | dT r => exact ⟨a, _, rfl, e, r⟩
theorem BRep.unlT {v : V} {od : Obj} {vs : List (List Key × V)} {ds : List (List Key × D)} (h : HeapOk G H F M S) (r : BRep G.K F M v (.lT od vs ds)) : ∃ a, v = .ref a ∧ H a = some (.frz od (.dT vs)) ∧ RepP G.K F vs ds := by
  rcases r with r | ⟨a, w, rfl, m⟩
  · obtain ⟨a, e, q, r⟩ := r.unlT
    exact ⟨a, e, h.sub _ _ q, r⟩
  · obtain ⟨_, _, o, e, ro⟩ := h.own _ _ _ m
    cases ro with
    | lT r => exact ⟨a, rfl, e, r⟩
theorem BRep.unbl {K : PySem.W.Frag} {v : V} {b : Bool} {F : Hp} (h : HeapOk G H F M S) (r : BRep G.K F M v (.bl b)) : v = .bl b := by
  rcases r with r | ⟨a, w, rfl, m⟩
  · cases r; rfl
  · obtain ⟨_, _, o, e, ro⟩ := h.own _ _ _ m; cases ro
end
end Dv
namespace Dv
open PySem PySem.Spec PyProof.Rows L2

abbrev MX (α : Type) := Lo → Sg → Option (α × Sg)
abbrev ME := MX D
abbrev MA := MX (List D)
abbrev MT := MX Bool

def mBind {α β : Type} (m : MX α) (k : α → MX β) : MX β := fun ρ S => (m ρ S).bind fun p => k p.1 ρ p.2
def mPure {α : Type} (a : α) : MX α := fun _ S => some (a, S)
def mOpt {α : Type} (o : Option α) : MX α := fun _ S => o.map fun a => (a, S)
def mNever {α : Type} : MX α := fun _ _ => none

/-- what a reading in data says: it comes out, and what follows is wanted of any such value -/
def eE (G : Gh) (m : ME) : TE := fun σ H Q => ∃ F M ρ S, HeapOk G H F M S ∧ Slots G.K σ ρ F M ∧ ∃ d S', m ρ S = some (d, S') ∧
  ∀ v H' F', HeapOk G H' F' M S' → Le F F' → Rep G.K F' v d → Q v H'
/-- .. a value that is only looked at -/
def eB (G : Gh) (m : ME) : TE := fun σ H Q => ∃ F M ρ S, HeapOk G H F M S ∧ Slots G.K σ ρ F M ∧ ∃ d S', m ρ S = some (d, S') ∧
  ∀ v H' F', HeapOk G H' F' M S' → Le F F' → BRep G.K F' M v d → Q v H'
/-- .. a new object of one's own -/
def eF (G : Gh) (m : ME) : TE := fun σ H Q => ∃ F M ρ S, HeapOk G H F M S ∧ Slots G.K σ ρ F M ∧ ∃ d S', m ρ S = some (d, S') ∧
  ∀ a H' F', HeapOk G H' F' (updO M a (none, d)) S' → M a = none → Le F F' → Q (.ref a) H'
def eT (G : Gh) (m : MT) : TT := fun σ H Q => ∃ F M ρ S, HeapOk G H F M S ∧ Slots G.K σ ρ F M ∧ ∃ b S', m ρ S = some (b, S') ∧
  ∀ H' F', HeapOk G H' F' M S' → Le F F' → Q b H'
def eA (G : Gh) (m : MA) : TA := fun σ H Q => ∃ F M ρ S, HeapOk G H F M S ∧ Slots G.K σ ρ F M ∧ ∃ ds S', m ρ S = some (ds, S') ∧
  ∀ vs H' F', HeapOk G H' F' M S' → Le F F' → RepL G.K F' vs ds → Q vs H'
abbrev BRepL (K : PySem.W.Frag) (F : Hp) (M : OMap) : List V → List D → Prop := Paired (BRep K F M)
def eAB (G : Gh) (m : MA) : TA := fun σ H Q => ∃ F M ρ S, HeapOk G H F M S ∧ Slots G.K σ ρ F M ∧ ∃ ds S', m ρ S = some (ds, S') ∧
  ∀ vs H' F', HeapOk G H' F' M S' → Le F F' → BRepL G.K F' M vs ds → Q vs H'

section
variable {G : Gh} {X : Cx} {e a b : Expr} {es : List Expr} {pos : Pos}
theorem pe_imp {t t' : TE} (h : PE X e t) (i : ∀ σ H Q, t' σ H Q → t σ H Q) : PE X e t' := ⟨fun pins s σ H Q I q => h.run pins s σ H Q I (i _ _ _ q)⟩
theorem pt_imp {t t' : TT} (h : PT X e t) (i : ∀ σ H Q, t' σ H Q → t σ H Q) : PT X e t' := ⟨fun pins s σ H Q I q => h.run pins s σ H Q I (i _ _ _ q)⟩
theorem pw_imp {t t' : TT} (h : PW X e t) (i : ∀ σ H Q, t' σ H Q → t σ H Q) : PW X e t' := ⟨fun whole pins s σ H Q I q => h.run whole pins s σ H Q I (i _ _ _ q)⟩
theorem pa_imp {t t' : TA} (h : PA X es t) (i : ∀ σ H Q, t' σ H Q → t σ H Q) : PA X es t' := ⟨fun pos pins s σ H Q I q => h.run pos pins s σ H Q I (i _ _ _ q)⟩
theorem ps_imp {st : Stmt} {t t' : TS} (h : PS X st t) (i : ∀ D σ H, t' D σ H → t D σ H) : PS X st t' := ⟨fun pins s σ H D I q => h.run pins s σ H D I (i _ _ _ q)⟩
theorem pss_imp {st : List Stmt} {t t' : TS} (h : PSs X st t) (i : ∀ D σ H, t' D σ H → t D σ H) : PSs X st t' := ⟨fun pins s σ H D I q => h.run pins s σ H D I (i _ _ _ q)⟩

/-- a frozen value may be looked at -/
theorem eb_of {m : ME} (h : PE X e (eE G m)) : PE X e (eB G m) := pe_imp h fun σ H Q ⟨F, M, ρ, S, hk, sl, d, S', e, q⟩ => ⟨F, M, ρ, S, hk, sl, d, S', e, fun v H' F' hk' le r => q v H' F' hk' le (.inl r)⟩
theorem heap_unown {H F : Hp} {M : OMap} {S : Sg} {a : Addr} {x} {o : HO} (hk : HeapOk G H (upd F a o) (dropO (updO M a x) a) S) (n : M a = none) : HeapOk G H (upd F a o) M S :=
  hk.less fun b y e => by
    have hb : b ≠ a := fun z => by rw [z, n] at e; cases e
    rw [dropO_ne hb, updO_ne hb]; exact e
/-- a new object may be frozen -/
theorem ee_of {m : ME} (h : PE X e (eF G m)) : PE X e (eE G m) := pe_imp h fun σ H Q ⟨F, M, ρ, S, hk, sl, d, S', e, q⟩ => ⟨F, M, ρ, S, hk, sl, d, S', e, fun a H' F' hk' n le => by
  obtain ⟨o, eo, nf, ro, hk2⟩ := hk'.freeze updO_same
  exact q _ H' _ (heap_unown hk2 n) (le.trans (le_upd nf)) ((ro.mono (le_upd nf)).rep upd_same)⟩

/-! ### names, constants -/
def mVar (i : Nat) : ME := fun ρ S => match ρ[i]? with
  | some (some (.imm d)) => some (d, S)
  | _ => none
def mVarB (i : Nat) : ME := fun ρ S => match ρ[i]? with
  | some (some (.imm d)) => some (d, S)
  | some (some (.own d)) => some (d, S)
  | _ => none
theorem se_var (i : Nat) {x : Str} (hN : X.N[i]? = some x := by rfl) (hv : Vis X.env.scope x := by first | exact Or.inl rfl | exact Or.inr (Or.inl rfl) | exact Or.inr (Or.inr rfl)) (hd : (x == ("__debug__" : Str)) = false := by decide)
    (hcd : (x == ("__classdict__" : Str)) = false := by decide) : PE X (.Name x pos) (eE G (mVar i)) := by
  refine pe_imp (pe_var hN hv hd hcd) fun σ H Q ⟨F, M, ρ, S, hk, sl, d, S', e, q⟩ => ?_
  unfold mVar at e
  split at e
  · rename_i d' h
    cases e
    obtain ⟨v, hv, r⟩ := sl.at_ _ _ h
    exact ⟨v, hv, q v H F hk (Same.refl F) r⟩
  · cases e
theorem se_varB (i : Nat) {x : Str} (hN : X.N[i]? = some x := by rfl) (hv : Vis X.env.scope x := by first | exact Or.inl rfl | exact Or.inr (Or.inl rfl) | exact Or.inr (Or.inr rfl)) (hd : (x == ("__debug__" : Str)) = false := by decide)
    (hcd : (x == ("__classdict__" : Str)) = false := by decide) : PE X (.Name x pos) (eB G (mVarB i)) := by
  refine pe_imp (pe_var hN hv hd hcd) fun σ H Q ⟨F, M, ρ, S, hk, sl, d, S', e, q⟩ => ?_
  unfold mVarB at e
  split at e
  · rename_i d' h
    cases e
    obtain ⟨v, hv, r⟩ := sl.at_ _ _ h
    exact ⟨v, hv, q v H F hk (Same.refl F) (.inl r)⟩
  · rename_i d' h
    cases e
    obtain ⟨v, hv, a, ev, em⟩ := sl.at_ _ _ h
    exact ⟨v, hv, q v H F hk (Same.refl F) (.inr ⟨a, _, ev, em⟩)⟩
  · cases e
theorem se_const {v : V} {d : D} (h : PE X e (tC v)) (r : ∀ F, Rep G.K F v d) : PE X e (eE G (mPure d)) := pe_imp h fun σ H Q ⟨F, M, ρ, S, hk, sl, d', S', e, q⟩ => by
  cases e
  exact q v H F hk (Same.refl F) (r F)
theorem se_int {i : Int} {j} : PE X (.Constant (.int i) j pos) (eE G (mPure (.int i))) := se_const pe_int fun _ => .int i
theorem se_bl {i : Bool} {j} : PE X (.Constant (.bool i) j pos) (eE G (mPure (.bl i))) := se_const pe_bl fun _ => .bl i
theorem se_non {j} : PE X (.Constant .none j pos) (eE G (mPure .non)) := se_const pe_non fun _ => .non
theorem se_str {x : Str} {j} : PE X (.Constant (.str x) j pos) (eE G (mPure (.str x))) := se_const pe_str fun _ => .str x
/-- a global's value: v as data d -/
theorem se_glob {x : Str} {v : V} {u : Value} {d : D} (hg : Gl X x) (hm : X.mg x = some u) (r : RelV v u) (rd : ∀ F, Rep G.K F v d) (hd : (x == ("__debug__" : Str)) = false := by decide) : PE X (.Name x pos) (eE G (mPure d)) := se_const (pe_glob hg hm r hd) rd

/-! ### two values in a row -/
theorem two_bb {ma mb : ME} {σ : L2.St} {H : Hp} {R : V → V → Hp → Prop} {F : Hp} {M : OMap} {ρ : Lo} {S : Sg} (hk : HeapOk G H F M S) (sl : Slots G.K σ ρ F M) {d1 d2 : D} {S1 S2 : Sg} (e1 : ma ρ S = some (d1, S1)) (e2 : mb ρ S1 = some (d2, S2))
    (h : ∀ x y H' F', HeapOk G H' F' M S2 → Le F F' → BRep G.K F' M x d1 → BRep G.K F' M y d2 → R x y H') : eB G ma σ H fun x H1 => eB G mb σ H1 fun y H2 => R x y H2 :=
  ⟨F, M, ρ, S, hk, sl, d1, S1, e1, fun x H1 F1 hk1 le1 r1 => ⟨F1, M, ρ, S1, hk1, sl.mono le1, d2, S2, e2, fun y H2 F2 hk2 le2 r2 => h x y H2 F2 hk2 (le1.trans le2) (r1.mono le2) r2⟩⟩
def mOp2 (f : D → D → Option D) (ma mb : ME) : ME := fun ρ S => (ma ρ S).bind fun p => (mb ρ p.2).bind fun q => (f p.1 q.1).map fun d => (d, q.2)
theorem mOp2_some {f : D → D → Option D} {ma mb : ME} {ρ : Lo} {S S' : Sg} {d : D} (h : mOp2 f ma mb ρ S = some (d, S')) : ∃ d1 S1 d2, ma ρ S = some (d1, S1) ∧ mb ρ S1 = some (d2, S') ∧ f d1 d2 = some d := by
  unfold mOp2 at h
  obtain ⟨⟨d1, S1⟩, e1, h⟩ := Option.bind_eq_some_iff.mp h
  obtain ⟨⟨d2, S2⟩, e2, h⟩ := Option.bind_eq_some_iff.mp h
  obtain ⟨d3, e3, h⟩ := Option.map_eq_some_iff.mp h
  cases h
  exact ⟨d1, S1, d2, e1, e2, e3⟩
/-- how an operator's reading serves f -/
def R2E (G : Gh) (r : R2) (f : D → D → Option D) : Prop := ∀ (x y : V) (d1 d2 d : D) (H F : Hp) (M : OMap) (S : Sg) (Q : VK), HeapOk G H F M S → BRep G.K F M x d1 → BRep G.K F M y d2 → f d1 d2 = some d →
  (∀ v H' F', HeapOk G H' F' M S → Le F F' → Rep G.K F' v d → Q v H') → r x y H Q
def R2F (G : Gh) (r : R2) (f : D → D → Option D) : Prop := ∀ (x y : V) (d1 d2 d : D) (H F : Hp) (M : OMap) (S : Sg) (Q : VK), HeapOk G H F M S → BRep G.K F M x d1 → BRep G.K F M y d2 → f d1 d2 = some d →
  (∀ a H' F', HeapOk G H' F' (updO M a (none, d)) S → M a = none → Le F F' → Q (.ref a) H') → r x y H Q
theorem op2_imp {r : R2} {f : D → D → Option D} {ma mb : ME} (hr : R2E G r f) : ∀ σ H Q, eE G (mOp2 f ma mb) σ H Q → tOp r (eB G ma) (eB G mb) σ H Q := fun σ H Q ⟨F, M, ρ, S, hk, sl, d, S', e, q⟩ => by
  obtain ⟨d1, S1, d2, e1, e2, e3⟩ := mOp2_some e
  exact two_bb hk sl e1 e2 fun x y H' F' hk' le r1 r2 => hr x y d1 d2 d H' F' M S' Q hk' r1 r2 e3 fun v H2 F2 hk2 le2 r => q v H2 F2 hk2 (le.trans le2) r
theorem op2_impF {r : R2} {f : D → D → Option D} {ma mb : ME} (hr : R2F G r f) : ∀ σ H Q, eF G (mOp2 f ma mb) σ H Q → tOp r (eB G ma) (eB G mb) σ H Q := fun σ H Q ⟨F, M, ρ, S, hk, sl, d, S', e, q⟩ => by
  obtain ⟨d1, S1, d2, e1, e2, e3⟩ := mOp2_some e
  exact two_bb hk sl e1 e2 fun x y H' F' hk' le r1 r2 => hr x y d1 d2 d H' F' M S' Q hk' r1 r2 e3 fun v H2 F2 hk2 n le2 => q v H2 F2 hk2 n (le.trans le2)
theorem se_bin {op : Operator} {r : R2} {f : D → D → Option D} {ma mb : ME} (ho : OpR X (binaryOp op) r) (hr : R2E G r f) (ha : PE X a (eB G ma)) (hb : PE X b (eB G mb)) : PE X (.BinOp a op b pos) (eE G (mOp2 f ma mb)) := pe_imp (pe_op ho ha hb) (op2_imp hr)
theorem se_binF {op : Operator} {r : R2} {f : D → D → Option D} {ma mb : ME} (ho : OpR X (binaryOp op) r) (hr : R2F G r f) (ha : PE X a (eB G ma)) (hb : PE X b (eB G mb)) : PE X (.BinOp a op b pos) (eF G (mOp2 f ma mb)) := pe_imp (pe_op ho ha hb) (op2_impF hr)
theorem se_cmp {op : CmpOp} {r : R2} {f : D → D → Option D} {ma mb : ME} (ho : OpR X (compareOp op) r) (hr : R2E G r f) (hm : behindInMarks op b = false) (ha : PE X a (eB G ma)) (hb : PE X b (eB G mb)) : PE X (.Compare a [op] [b] pos) (eE G (mOp2 f ma mb)) := pe_imp (pe_cmpR ho ha hb hm) (op2_imp hr)
theorem R2E.or1 {r r' : R2} {f g : D → D → Option D} (h : R2E G r f) (h' : R2E G r' g) : R2E G (fun x y H Q => r x y H Q ∨ r' x y H Q) (fun x y => (f x y).or (g x y)) := fun x y d1 d2 d H F M S Q hk r1 r2 e q => by
  have e : (f d1 d2).or (g d1 d2) = some d := e
  cases e1 : f d1 d2 with
  | some z => rw [e1] at e; cases e; exact .inl (h x y d1 d2 d H F M S Q hk r1 r2 e1 q)
  | none => rw [e1] at e; exact .inr (h' x y d1 d2 d H F M S Q hk r1 r2 (by simpa using e) q)

/-- one value -/
def mOp1 (f : D → Option D) (ma : ME) : ME := fun ρ S => (ma ρ S).bind fun p => (f p.1).map fun d => (d, p.2)
theorem mOp1_some {f : D → Option D} {ma : ME} {ρ : Lo} {S S' : Sg} {d : D} (h : mOp1 f ma ρ S = some (d, S')) : ∃ d1, ma ρ S = some (d1, S') ∧ f d1 = some d := by
  unfold mOp1 at h
  obtain ⟨⟨d1, S1⟩, e1, h⟩ := Option.bind_eq_some_iff.mp h
  obtain ⟨d3, e3, h⟩ := Option.map_eq_some_iff.mp h
  cases h
  exact ⟨d1, e1, e3⟩

/-! ### what a looked-at value is -/
theorem BRep.unint {H F : Hp} {M : OMap} {S : Sg} {v : V} {i : Int} (h : HeapOk G H F M S) (r : BRep G.K F M v (.int i)) : v = .int i := by
  rcases r with r | ⟨a, w, rfl, m⟩
  · cases r; rfl
  · obtain ⟨_, _, o, e, ro⟩ := h.own _ _ _ m; cases ro
theorem BRep.unbl' {H F : Hp} {M : OMap} {S : Sg} {v : V} {i : Bool} (h : HeapOk G H F M S) (r : BRep G.K F M v (.bl i)) : v = .bl i := by
  rcases r with r | ⟨a, w, rfl, m⟩
  · cases r; rfl
  · obtain ⟨_, _, o, e, ro⟩ := h.own _ _ _ m; cases ro
theorem BRep.unstr {H F : Hp} {M : OMap} {S : Sg} {v : V} {i : Str} (h : HeapOk G H F M S) (r : BRep G.K F M v (.str i)) : v = .str i := by
  rcases r with r | ⟨a, w, rfl, m⟩
  · cases r; rfl
  · obtain ⟨_, _, o, e, ro⟩ := h.own _ _ _ m; cases ro
theorem BRep.unnon {H F : Hp} {M : OMap} {S : Sg} {v : V} (h : HeapOk G H F M S) (r : BRep G.K F M v .non) : v = .non := by
  rcases r with r | ⟨a, w, rfl, m⟩
  · cases r; rfl
  · obtain ⟨_, _, o, e, ro⟩ := h.own _ _ _ m; cases ro

/-! ### ints -/
def liftI2 (c : Int → Int → Bool) (g : Int → Int → D) : D → D → Option D
  | .int i, .int j => if c i j then some (g i j) else none
  | _, _ => none
theorem liftI2_some {c : Int → Int → Bool} {g : Int → Int → D} {x y d : D} (h : liftI2 c g x y = some d) : ∃ i j, x = .int i ∧ y = .int j ∧ c i j = true ∧ g i j = d := by
  unfold liftI2 at h
  split at h
  · split at h
    · cases h; exact ⟨_, _, rfl, rfl, by assumption, rfl⟩
    · cases h
  · cases h
theorem r2e_I {C : Int → Int → Prop} {c : Int → Int → Bool} {g : Int → Int → V} {g' : Int → Int → D} (hc : ∀ i j, c i j = true → C i j) (hg : ∀ i j F, Rep G.K F (g i j) (g' i j)) : R2E G (rI C g) (liftI2 c g') := fun x y d1 d2 d H F M S Q hk r1 r2 e q => by
  obtain ⟨i, j, rfl, rfl, e1, rfl⟩ := liftI2_some e
  cases r1.unint hk
  cases r2.unint hk
  exact ⟨i, j, rfl, rfl, hc _ _ e1, q _ H F hk (Same.refl F) (hg i j F)⟩
theorem r2e_I0 {g : Int → Int → V} {g' : Int → Int → D} (hg : ∀ i j F, Rep G.K F (g i j) (g' i j)) : R2E G (rI0 g) (liftI2 (fun _ _ => true) g') := fun x y d1 d2 d H F M S Q hk r1 r2 e q => by
  obtain ⟨i, j, rfl, rfl, e1, rfl⟩ := liftI2_some e
  cases r1.unint hk
  cases r2.unint hk
  exact ⟨i, j, rfl, rfl, q _ H F hk (Same.refl F) (hg i j F)⟩
def subD : D → D → Option D := liftI2 (fun _ _ => true) fun i j => .int (i - j)
theorem se_sub {ma mb : ME} (ha : PE X a (eB G ma)) (hb : PE X b (eB G mb)) : PE X (.BinOp a .Sub b pos) (eE G (mOp2 subD ma mb)) := se_bin op_sub (r2e_I0 fun i j F => .int _) ha hb
def modD : D → D → Option D := liftI2 (fun _ j => decide (0 < j)) fun i j => .int (i % j)
theorem se_mod {ma mb : ME} (ha : PE X a (eB G ma)) (hb : PE X b (eB G mb)) : PE X (.BinOp a .Mod b pos) (eE G (mOp2 modD ma mb)) := se_bin op_mod (r2e_I (fun i j h => of_decide_eq_true h) fun i j F => .int _) ha hb
def fdivD : D → D → Option D := liftI2 (fun _ j => decide (0 < j) && decide (j.natAbs.log2 < 9000)) fun i j => .int (i / j)
theorem se_fdiv {ma mb : ME} (ha : PE X a (eB G ma)) (hb : PE X b (eB G mb)) : PE X (.BinOp a .FloorDiv b pos) (eE G (mOp2 fdivD ma mb)) := se_bin op_fdivW (r2e_I (fun i j h => by
  simp only [Bool.and_eq_true, decide_eq_true_eq] at h; exact h) fun i j F => .int _) ha hb
/-- a negative divisor -/
def fdivN : D → D → Option D := liftI2 (fun _ j => decide (j ≠ 0) && decide (j.natAbs < 1073741824)) fun i j => .int (i.fdiv j)
theorem se_fdivN {ma mb : ME} (ha : PE X a (eB G ma)) (hb : PE X b (eB G mb)) : PE X (.BinOp a .FloorDiv b pos) (eE G (mOp2 fdivN ma mb)) := se_bin op_fdivN (r2e_I (fun i j h => by
  simp only [Bool.and_eq_true, decide_eq_true_eq] at h; exact h) fun i j F => .int _) ha hb
def powD : D → D → Option D := liftI2 (fun i j => decide (0 ≤ j) && decide (j ≤ 1000000) && decide (i.natAbs < 2 ^ 64)) fun i j => .int (i ^ j.toNat)
theorem se_pow {ma mb : ME} (ha : PE X a (eB G ma)) (hb : PE X b (eB G mb)) : PE X (.BinOp a .Pow b pos) (eE G (mOp2 powD ma mb)) := se_bin op_pow (r2e_I (fun i j h => by
  simp only [Bool.and_eq_true, decide_eq_true_eq] at h; exact ⟨h.1.1, h.1.2, h.2⟩) fun i j F => .int _) ha hb
def ltD : D → D → Option D := liftI2 (fun _ _ => true) fun i j => .bl (decide (i < j))
def leD : D → D → Option D := liftI2 (fun _ _ => true) fun i j => .bl (decide (i ≤ j))
def gtD : D → D → Option D := liftI2 (fun _ _ => true) fun i j => .bl (decide (j < i))
def geD : D → D → Option D := liftI2 (fun _ _ => true) fun i j => .bl (decide (j ≤ i))
theorem r_lt : R2E G (rI0 fun i j => .bl (decide (i < j))) ltD := r2e_I0 fun i j F => .bl _
theorem r_le : R2E G (rI0 fun i j => .bl (decide (i ≤ j))) leD := r2e_I0 fun i j F => .bl _
theorem r_gt : R2E G (rI0 fun i j => .bl (decide (j < i))) gtD := r2e_I0 fun i j F => .bl _
theorem r_ge : R2E G (rI0 fun i j => .bl (decide (j ≤ i))) geD := r2e_I0 fun i j F => .bl _
theorem se_lt {ma mb : ME} (ha : PE X a (eB G ma)) (hb : PE X b (eB G mb)) : PE X (.Compare a [.Lt] [b] pos) (eE G (mOp2 ltD ma mb)) := se_cmp op_lt r_lt (nomark _) ha hb
theorem se_le {ma mb : ME} (ha : PE X a (eB G ma)) (hb : PE X b (eB G mb)) : PE X (.Compare a [.LtE] [b] pos) (eE G (mOp2 leD ma mb)) := se_cmp op_le r_le (nomark _) ha hb
theorem se_gt {ma mb : ME} (ha : PE X a (eB G ma)) (hb : PE X b (eB G mb)) : PE X (.Compare a [.Gt] [b] pos) (eE G (mOp2 gtD ma mb)) := se_cmp op_gt r_gt (nomark _) ha hb
theorem se_ge {ma mb : ME} (ha : PE X a (eB G ma)) (hb : PE X b (eB G mb)) : PE X (.Compare a [.GtE] [b] pos) (eE G (mOp2 geD ma mb)) := se_cmp op_ge r_ge (nomark _) ha hb
def negD : D → Option D
  | .int i => some (.int (-i))
  | _ => none
theorem se_neg {ma : ME} (ha : PE X a (eB G ma)) : PE X (.UnaryOp .USub a pos) (eE G (mOp1 negD ma)) := pe_imp (pe_un un_neg ha) fun σ H Q ⟨F, M, ρ, S, hk, sl, d, S', e, q⟩ => by
  obtain ⟨d1, e1, e2⟩ := mOp1_some e
  refine ⟨F, M, ρ, S, hk, sl, d1, S', e1, fun v H' F' hk' le r => ?_⟩
  unfold negD at e2
  split at e2
  · cases e2; cases r.unint hk'; exact ⟨_, rfl, q _ H' F' hk' le (.int _)⟩
  · cases e2

/-! ### sums, products of all kinds -/
def addI : D → D → Option D := liftI2 (fun _ _ => true) fun i j => .int (i + j)
def addS : D → D → Option D
  | .str x, .str y => if x.length + y.length ≤ sizeLine then some (.str (x ++ y)) else none
  | _, _ => none
def addT : D → D → Option D := fun x y => match x.asT, y.asT with
  | some xs, some ys => if xs.length + ys.length ≤ sizeLine then (if xs.isEmpty then some y else if ys.isEmpty then some x else some (.tup (xs ++ ys))) else none
  | _, _ => none
def addL : D → D → Option D
  | .lst xs, .lst ys => if xs.length + ys.length ≤ sizeLine then some (.lst (xs ++ ys)) else none
  | _, _ => none
theorem r_addI : R2E G (rI0 fun i j => .int (i + j)) addI := r2e_I0 fun i j F => .int _
theorem r_addS : R2E G (fun x y H Q => ∃ i j, x = .str i ∧ y = .str j ∧ i.length + j.length ≤ sizeLine ∧ Q (.str (i ++ j)) H) addS := fun x y d1 d2 d H F M S Q hk r1 r2 e q => by
  unfold addS at e
  split at e
  · split at e
    · cases e; cases r1.unstr hk; cases r2.unstr hk
      exact ⟨_, _, rfl, rfl, by assumption, q _ H F hk (Same.refl F) (.str _)⟩
    · cases e
  · cases e
theorem r_addT : R2E G (rCatA G.K) addT := fun x y d1 d2 d H F M S Q hk r1 r2 e q => by
  unfold addT at e
  split at e
  · rename_i xs ys ex ey
    split at e
    · rename_i hz
      obtain ⟨l, us, rfl, q1, p1⟩ := BRep.untup hk ex r1
      obtain ⟨l', us', rfl, q2, p2⟩ := BRep.untup hk ey r2
      have l1 : us.length = xs.length := Paired.length p1
      have l2 : us'.length = ys.length := Paired.length p2
      refine ⟨l, l', us, us', rfl, rfl, q1, q2, by omega, fun z => ?_, fun z z' => ?_, fun z z' p hp => ?_⟩
      · subst z
        have : xs = [] := List.eq_nil_of_length_eq_zero (by simpa using l1.symm)
        subst this
        simp only [List.isEmpty_nil, if_true] at e
        cases e
        exact q _ H F hk (Same.refl F) (r2.rep hk (by rw [ey]; exact fun z => nomatch z))
      · subst z'
        have : ys = [] := List.eq_nil_of_length_eq_zero (by simpa using l2.symm)
        subst this
        have hx : xs.isEmpty = false := by
          cases xs with
          | nil => exact absurd (List.eq_nil_of_length_eq_zero (by simpa using l1)) z
          | cons _ _ => rfl
        rw [hx] at e
        simp only [List.isEmpty_nil, if_true, Bool.false_eq_true, if_false] at e
        cases e
        exact q _ H F hk (Same.refl F) (r1.rep hk (by rw [ex]; exact fun z => nomatch z))
      · have hx : xs.isEmpty = false := by
          cases xs with
          | nil => exact absurd (List.eq_nil_of_length_eq_zero (by simpa using l1)) z
          | cons _ _ => rfl
        have hy : ys.isEmpty = false := by
          cases ys with
          | nil => exact absurd (List.eq_nil_of_length_eq_zero (by simpa using l2)) z'
          | cons _ _ => rfl
        rw [hx, hy] at e
        simp only [Bool.false_eq_true, if_false] at e
        cases e
        refine q _ _ _ (hk.laid hp) (le_upd (hk.fnone hp)) (.mkTup upd_same (by rw [List.length_append]; exact hz) (RepL.mono (le_upd (hk.fnone hp)) (paired_app p1 p2)))
    · cases e
  · cases e
theorem r_addL : R2F G rCat addL := fun x y d1 d2 d H F M S Q hk r1 r2 e q => by
  unfold addL at e
  split at e
  · split at e
    · rename_i hz
      cases e
      obtain ⟨l, us, rfl, q1, p1⟩ := r1.unlst hk
      obtain ⟨l', us', rfl, q2, p2⟩ := r2.unlst hk
      have l1 := Paired.length p1
      have l2 := Paired.length p2
      exact ⟨l, l', us, us', rfl, rfl, q1, q2, by omega, fun p hp => q p _ F (hk.laidO hp (.lst (by rw [List.length_append]; exact hz) (paired_app p1 p2))) (hk.mnone hp) (Same.refl F)⟩
    · cases e
  · cases e
/-- a + b of ints, texts, tuples -/
def addD : D → D → Option D := fun x y => (addI x y).or ((addS x y).or (addT x y))
theorem se_add {ma mb : ME} (hK : G.K = X.K) (ha : PE X a (eB G ma)) (hb : PE X b (eB G mb)) : PE X (.BinOp a .Add b pos) (eE G (mOp2 addD ma mb)) :=
  se_bin (OpR.or op_add (OpR.or op_add_str (hK ▸ op_catA))) (r_addI.or1 (r_addS.or1 r_addT)) ha hb
theorem sf_addL {ma mb : ME} (ha : PE X a (eB G ma)) (hb : PE X b (eB G mb)) : PE X (.BinOp a .Add b pos) (eF G (mOp2 addL ma mb)) := se_binF op_cat r_addL ha hb
def mulI : D → D → Option D := liftI2 (fun i j => decide (i.natAbs.log2 + j.natAbs.log2 < 1000000)) fun i j => .int (i * j)
theorem se_mulI {ma mb : ME} (ha : PE X a (eB G ma)) (hb : PE X b (eB G mb)) : PE X (.BinOp a .Mult b pos) (eE G (mOp2 mulI ma mb)) := se_bin op_mulW (r2e_I (fun i j h => (of_decide_eq_true h : i.natAbs.log2 + j.natAbs.log2 < 1000000)) fun i j F => .int _) ha hb
/-- a * b, one of them below 2 ^ 64 -/
def mulS : D → D → Option D := liftI2 (fun i j => decide (i.natAbs < 2 ^ 64) || decide (j.natAbs < 2 ^ 64)) fun i j => .int (i * j)
theorem se_mulS {ma mb : ME} (ha : PE X a (eB G ma)) (hb : PE X b (eB G mb)) : PE X (.BinOp a .Mult b pos) (eE G (mOp2 mulS ma mb)) := se_bin op_mul (r2e_I (fun i j h => by
  simp only [Bool.or_eq_true, decide_eq_true_eq] at h
  rcases h with h | h
  · exact .inl ⟨by omega, by omega⟩
  · exact .inr ⟨by omega, by omega⟩) fun i j F => .int _) ha hb
theorem flat_len {α : Type} (xs : List α) : ∀ n, (List.replicate n xs).flatten.length = n * xs.length
  | 0 => by simp
  | n + 1 => by rw [List.replicate_succ, List.flatten_cons, List.length_append, flat_len xs n, Nat.succ_mul, Nat.add_comm]
def mulL : D → D → Option D
  | .lst xs, .int k => if -(2 ^ 63) ≤ k ∧ k < 2 ^ 63 ∧ xs.length * k.toNat ≤ sizeLine then some (.lst (List.replicate k.toNat xs).flatten) else none
  | _, _ => none
theorem r_mulL : R2F G rRep mulL := fun x y d1 d2 d H F M S Q hk r1 r2 e q => by
  unfold mulL at e
  split at e
  · split at e
    · rename_i hz
      cases e
      obtain ⟨l, us, rfl, q1, p1⟩ := r1.unlst hk
      cases r2.unint hk
      have l1 := Paired.length p1
      exact ⟨l, _, us, rfl, rfl, q1, hz.1, hz.2.1, by rw [l1]; exact hz.2.2, fun p hp => q p _ F (hk.laidO hp (.lst (by rw [flat_len, Nat.mul_comm]; exact hz.2.2) (paired_flat (paired_repl p1 _)))) (hk.mnone hp) (Same.refl F)⟩
    · cases e
  · cases e
theorem sf_mulL {ma mb : ME} (ha : PE X a (eB G ma)) (hb : PE X b (eB G mb)) : PE X (.BinOp a .Mult b pos) (eF G (mOp2 mulL ma mb)) := se_binF op_rep r_mulL ha hb
def mulT : D → D → Option D := fun x y => match x.asT, y with
  | some xs, .int k => if xs.isEmpty = false ∧ 2 ≤ k ∧ k ≤ 1000 ∧ xs.length ≤ 1000 then some (.tup (List.replicate k.toNat xs).flatten) else none
  | _, _ => none
theorem r_mulT : R2E G (rRepT G.K) mulT := fun x y d1 d2 d H F M S Q hk r1 r2 e q => by
  unfold mulT at e
  split at e
  · rename_i xs k ex
    split at e
    · rename_i hz
      cases e
      obtain ⟨l, us, rfl, q1, p1⟩ := r1.untup hk ex
      cases r2.unint hk
      have l1 := Paired.length p1
      refine ⟨l, _, us, rfl, rfl, q1, fun z => ?_, hz.2.1, hz.2.2.1, by omega, fun p hp => ?_⟩
      · subst z
        have : xs = [] := List.eq_nil_of_length_eq_zero (by simpa using l1.symm)
        rw [this] at hz; exact absurd hz.1 (by decide)
      · exact q _ _ _ (hk.laid hp) (le_upd (hk.fnone hp)) (.mkTup upd_same (by rw [flat_len]; exact Nat.le_trans (Nat.mul_le_mul (by omega : _ ≤ 1000) hz.2.2.2) (by decide)) (RepL.mono (le_upd (hk.fnone hp)) (paired_flat (paired_repl p1 _))))
    · cases e
  · cases e
theorem se_mulT {ma mb : ME} (hK : G.K = X.K) (ha : PE X a (eB G ma)) (hb : PE X b (eB G mb)) : PE X (.BinOp a .Mult b pos) (eE G (mOp2 mulT ma mb)) := se_bin (hK ▸ op_repT) r_mulT ha hb
end
end Dv
namespace Dv
open PySem PySem.Spec PyProof.Rows L2
section
variable {G : Gh} {X : Cx} {e a b c o : Expr} {es : List Expr} {pos : Pos}

/-! ### tests -/
def asB {α : Type} (k : Bool → Sg → Option α) : D × Sg → Option α
  | (.bl b, S) => k b S
  | _ => none
def mTst (m : ME) : MT := fun ρ S => (m ρ S).bind (asB fun b S => some (b, S))
theorem mTst_some {m : ME} {ρ : Lo} {S S' : Sg} {b : Bool} (h : mTst m ρ S = some (b, S')) : m ρ S = some (.bl b, S') := by
  unfold mTst at h
  obtain ⟨⟨d, S1⟩, e1, h⟩ := Option.bind_eq_some_iff.mp h
  cases d <;> first | (cases h; exact e1) | cases h
theorem tst_imp {m : ME} : ∀ σ H Q, eT G (mTst m) σ H Q → (eE G m) σ H fun x H1 => ∃ c, x = .bl c ∧ Q c H1 := fun σ H Q ⟨F, M, ρ, S, hk, sl, b, S', e, q⟩ =>
  ⟨F, M, ρ, S, hk, sl, .bl b, S', mTst_some e, fun v H' F' hk' le r => by cases r; exact ⟨b, rfl, q H' F' hk' le⟩⟩
theorem st_val {m : ME} (h : PE X e (eE G m)) (he : ∀ whole, isTrue e X.env whole = (do let v ← whole; standAt e.pos; holding [v] (truthy v)) := by intro _; rfl) : PT X e (eT G (mTst m)) := pt_imp (pt_val h he) tst_imp
theorem st_cmp {op : CmpOp} {r : R2} {f : D → D → Option D} {ma mb : ME} (ho : OpR X (compareOp op) r) (hr : R2E G r f) (hm : behindInMarks op b = false) (ha : PE X a (eB G ma)) (hb : PE X b (eB G mb)) : PT X (.Compare a [op] [b] pos) (eT G (mTst (mOp2 f ma mb))) :=
  pt_imp (pt_cmpR ho ha hb hm) fun σ H Q ⟨F, M, ρ, S, hk, sl, b, S', e, q⟩ => op2_imp hr σ H _ ⟨F, M, ρ, S, hk, sl, .bl b, S', mTst_some e, fun v H' F' hk' le r => by cases r; exact ⟨b, rfl, q H' F' hk' le⟩⟩
theorem st_lt {ma mb : ME} (ha : PE X a (eB G ma)) (hb : PE X b (eB G mb)) : PT X (.Compare a [.Lt] [b] pos) (eT G (mTst (mOp2 ltD ma mb))) := st_cmp op_lt r_lt (nomark _) ha hb
theorem st_le {ma mb : ME} (ha : PE X a (eB G ma)) (hb : PE X b (eB G mb)) : PT X (.Compare a [.LtE] [b] pos) (eT G (mTst (mOp2 leD ma mb))) := st_cmp op_le r_le (nomark _) ha hb
theorem st_gt {ma mb : ME} (ha : PE X a (eB G ma)) (hb : PE X b (eB G mb)) : PT X (.Compare a [.Gt] [b] pos) (eT G (mTst (mOp2 gtD ma mb))) := st_cmp op_gt r_gt (nomark _) ha hb
theorem st_ge {ma mb : ME} (ha : PE X a (eB G ma)) (hb : PE X b (eB G mb)) : PT X (.Compare a [.GtE] [b] pos) (eT G (mTst (mOp2 geD ma mb))) := st_cmp op_ge r_ge (nomark _) ha hb
/-- a op b op' c -/
def mChn (f g : D → D → Option D) (ma mb mc : ME) : ME := fun ρ S => (ma ρ S).bind fun p => (mb ρ p.2).bind fun q => (f p.1 q.1).bind fun d => asB (fun k S2 => if k then (mc ρ S2).bind fun r => (g q.1 r.1).map fun d => (d, r.2) else some (.bl false, S2)) (d, q.2)
theorem chn_imp {r r' : R2} {f g : D → D → Option D} {ma mb mc : ME} (hr : R2E G r f) (hr' : R2E G r' g) : ∀ σ H Q, eE G (mChn f g ma mb mc) σ H Q → tChain r r' (eB G ma) (eB G mb) (eB G mc) σ H Q := fun σ H Q ⟨F, M, ρ, S, hk, sl, d, S', e, q⟩ => by
  unfold mChn at e
  obtain ⟨⟨d1, S1⟩, e1, e⟩ := Option.bind_eq_some_iff.mp e
  obtain ⟨⟨d2, S2⟩, e2, e⟩ := Option.bind_eq_some_iff.mp e
  obtain ⟨d3, e3, e⟩ := Option.bind_eq_some_iff.mp e
  refine two_bb hk sl e1 e2 fun x y H' F' hk' le r1 r2 => hr x y d1 d2 d3 H' F' M S2 _ hk' r1 r2 e3 fun v H3 F3 hk3 le3 rv => ?_
  cases d3 with
  | bl k =>
    cases rv
    refine ⟨k, rfl, ?_⟩
    cases k with
    | false => cases e; exact q _ H3 F3 hk3 (le.trans le3) (.bl _)
    | true =>
      obtain ⟨⟨d4, S4⟩, e4, e⟩ := Option.bind_eq_some_iff.mp e
      obtain ⟨d5, e5, e⟩ := Option.map_eq_some_iff.mp e
      cases e
      exact ⟨F3, M, ρ, S2, hk3, (sl.mono le).mono le3, d4, S4, e4, fun w H4 F4 hk4 le4 r4 => hr' y w d2 d4 _ H4 F4 M S4 Q hk4 ((r2.mono le3).mono le4) r4 e5 fun z H5 F5 hk5 le5 r5 => q z H5 F5 hk5 (((le.trans le3).trans le4).trans le5) r5⟩
  | _ => cases e
theorem se_chn {op op' : CmpOp} {r r' : R2} {f g : D → D → Option D} {ma mb mc : ME} (ho : OpR X (compareOp op) r) (ho' : OpR X (compareOp op') r') (hr : R2E G r f) (hr' : R2E G r' g) (ha : PE X a (eB G ma)) (hb : PE X b (eB G mb)) (hc : PE X c (eB G mc))
    (hm : lastMarks [op, op'] [b, c] = false := by with_unfolding_all rfl) : PE X (.Compare a [op, op'] [b, c] pos) (eE G (mChn f g ma mb mc)) := pe_imp (pe_chain ho ho' ha hb hc hm) (chn_imp hr hr')
theorem st_chn {op op' : CmpOp} {r r' : R2} {f g : D → D → Option D} {ma mb mc : ME} (ho : OpR X (compareOp op) r) (ho' : OpR X (compareOp op') r') (hr : R2E G r f) (hr' : R2E G r' g) (ha : PE X a (eB G ma)) (hb : PE X b (eB G mb)) (hc : PE X c (eB G mc))
    (hm : lastMarks [op, op'] [b, c] = false := by with_unfolding_all rfl) : PT X (.Compare a [op, op'] [b, c] pos) (eT G (mTst (mChn f g ma mb mc))) :=
  pt_imp (pt_chain ho ho' ha hb hc hm) fun σ H Q ⟨F, M, ρ, S, hk, sl, b, S', e, q⟩ => chn_imp hr hr' σ H _ ⟨F, M, ρ, S, hk, sl, .bl b, S', mTst_some e, fun v H' F' hk' le r => by cases r; exact ⟨b, rfl, q H' F' hk' le⟩⟩
/-- not, and, or -/
def mNot (m : MT) : MT := fun ρ S => (m ρ S).map fun p => (!p.1, p.2)
def mAnd (m n : MT) : MT := fun ρ S => (m ρ S).bind fun p => if p.1 then n ρ p.2 else some (false, p.2)
def mOr (m n : MT) : MT := fun ρ S => (m ρ S).bind fun p => if p.1 then some (true, p.2) else n ρ p.2
theorem st_not {m : MT} (h : PT X a (eT G m)) : PT X (.UnaryOp .Not a pos) (eT G (mNot m)) := pt_imp (L2.pt_not h) fun σ H Q ⟨F, M, ρ, S, hk, sl, b, S', e, q⟩ => by
  obtain ⟨⟨b1, S1⟩, e1, e⟩ := Option.map_eq_some_iff.mp e
  cases e
  exact ⟨F, M, ρ, S, hk, sl, b1, S1, e1, fun H' F' hk' le => q H' F' hk' le⟩
theorem sw_and1 {m : MT} (h : PT X a (eT G m)) : PW X (.BoolOp .And [a] pos) (eT G m) := pw_and1 h
theorem sw_or1 {m : MT} (h : PT X a (eT G m)) : PW X (.BoolOp .Or [a] pos) (eT G m) := pw_or1 h
theorem sw_and {m n : MT} {rest : List Expr} (ha : PT X a (eT G m)) (hb : PW X (.BoolOp .And (b :: rest) pos) (eT G n)) : PW X (.BoolOp .And (a :: b :: rest) pos) (eT G (mAnd m n)) := pw_imp (pw_and ha hb) fun σ H Q ⟨F, M, ρ, S, hk, sl, b, S', e, q⟩ => by
  obtain ⟨⟨b1, S1⟩, e1, e⟩ := Option.bind_eq_some_iff.mp e
  refine ⟨F, M, ρ, S, hk, sl, b1, S1, e1, fun H' F' hk' le => ?_⟩
  cases b1 with
  | false => cases e; exact q H' F' hk' le
  | true => exact ⟨F', M, ρ, S1, hk', sl.mono le, b, S', e, fun H2 F2 hk2 le2 => q H2 F2 hk2 (le.trans le2)⟩
theorem sw_or {m n : MT} {rest : List Expr} (ha : PT X a (eT G m)) (hb : PW X (.BoolOp .Or (b :: rest) pos) (eT G n)) : PW X (.BoolOp .Or (a :: b :: rest) pos) (eT G (mOr m n)) := pw_imp (pw_or ha hb) fun σ H Q ⟨F, M, ρ, S, hk, sl, b, S', e, q⟩ => by
  obtain ⟨⟨b1, S1⟩, e1, e⟩ := Option.bind_eq_some_iff.mp e
  refine ⟨F, M, ρ, S, hk, sl, b1, S1, e1, fun H' F' hk' le => ?_⟩
  cases b1 with
  | true => cases e; exact q H' F' hk' le
  | false => exact ⟨F', M, ρ, S1, hk', sl.mono le, b, S', e, fun H2 F2 hk2 le2 => q H2 F2 hk2 (le.trans le2)⟩
/-- .. as values: all but the last are truths -/
def mAndV (m n : ME) : ME := fun ρ S => (m ρ S).bind (asB fun k S1 => if k then n ρ S1 else some (.bl false, S1))
def mOrV (m n : ME) : ME := fun ρ S => (m ρ S).bind (asB fun k S1 => if k then some (.bl true, S1) else n ρ S1)
def mNotV (m : ME) : ME := mOp1 (fun d => match d with | .bl b => some (.bl (!b)) | _ => none) m
theorem se_andV {m n : ME} {rest : List Expr} (ha : PE X a (eE G m)) (hb : PE X (.BoolOp .And (b :: rest) pos) (eE G n)) : PE X (.BoolOp .And (a :: b :: rest) pos) (eE G (mAndV m n)) := pe_imp (pe_and ha hb) fun σ H Q ⟨F, M, ρ, S, hk, sl, d, S', e, q⟩ => by
  obtain ⟨⟨d1, S1⟩, e1, e⟩ := Option.bind_eq_some_iff.mp e
  cases d1 with
  | bl k =>
    refine ⟨F, M, ρ, S, hk, sl, _, S1, e1, fun v H' F' hk' le r => ?_⟩
    cases r
    cases k with
    | false => cases e; exact ⟨false, rfl, q _ H' F' hk' le (.bl _)⟩
    | true => exact ⟨true, rfl, F', M, ρ, S1, hk', sl.mono le, d, S', e, fun w H2 F2 hk2 le2 r2 => q w H2 F2 hk2 (le.trans le2) r2⟩
  | _ => cases e
theorem se_orV {m n : ME} {rest : List Expr} (ha : PE X a (eE G m)) (hb : PE X (.BoolOp .Or (b :: rest) pos) (eE G n)) : PE X (.BoolOp .Or (a :: b :: rest) pos) (eE G (mOrV m n)) := pe_imp (pe_or ha hb) fun σ H Q ⟨F, M, ρ, S, hk, sl, d, S', e, q⟩ => by
  obtain ⟨⟨d1, S1⟩, e1, e⟩ := Option.bind_eq_some_iff.mp e
  cases d1 with
  | bl k =>
    refine ⟨F, M, ρ, S, hk, sl, _, S1, e1, fun v H' F' hk' le r => ?_⟩
    cases r
    cases k with
    | true => cases e; exact ⟨true, rfl, q _ H' F' hk' le (.bl _)⟩
    | false => exact ⟨false, rfl, F', M, ρ, S1, hk', sl.mono le, d, S', e, fun w H2 F2 hk2 le2 r2 => q w H2 F2 hk2 (le.trans le2) r2⟩
  | _ => cases e
theorem se_one {op} {m : ME} (h : PE X a (eE G m)) : PE X (.BoolOp op [a] pos) (eE G m) := pe_one h
theorem se_notV {m : ME} (ha : PE X a (eE G m)) : PE X (.UnaryOp .Not a pos) (eE G (mNotV m)) := pe_imp (pe_not ha) fun σ H Q ⟨F, M, ρ, S, hk, sl, d, S', e, q⟩ => by
  obtain ⟨d1, e1, e2⟩ := mOp1_some e
  refine ⟨F, M, ρ, S, hk, sl, d1, S', e1, fun v H' F' hk' le r => ?_⟩
  cases d1 <;> first | (cases e2; cases r; exact ⟨_, rfl, q _ H' F' hk' le (.bl _)⟩) | cases e2
/-- a if t else b -/
def mIte {α : Type} (t : MT) (m n : MX α) : MX α := fun ρ S => (t ρ S).bind fun p => if p.1 then m ρ p.2 else n ρ p.2
theorem se_ite {t : MT} {m n : ME} (hc : PT X c (eT G t)) (ha : PE X a (eE G m)) (hb : PE X b (eE G n)) : PE X (.IfExp c a b pos) (eE G (mIte t m n)) := pe_imp (pe_ifExp hc ha hb) fun σ H Q ⟨F, M, ρ, S, hk, sl, d, S', e, q⟩ => by
  obtain ⟨⟨k, S1⟩, e1, e⟩ := Option.bind_eq_some_iff.mp e
  refine ⟨F, M, ρ, S, hk, sl, k, S1, e1, fun H' F' hk' le => ?_⟩
  cases k with
  | true => exact ⟨F', M, ρ, S1, hk', sl.mono le, d, S', e, fun w H2 F2 hk2 le2 r2 => q w H2 F2 hk2 (le.trans le2) r2⟩
  | false => exact ⟨F', M, ρ, S1, hk', sl.mono le, d, S', e, fun w H2 F2 hk2 le2 r2 => q w H2 F2 hk2 (le.trans le2) r2⟩
theorem sf_ite {t : MT} {m n : ME} (hc : PT X c (eT G t)) (ha : PE X a (eF G m)) (hb : PE X b (eF G n)) : PE X (.IfExp c a b pos) (eF G (mIte t m n)) := pe_imp (pe_ifExp hc ha hb) fun σ H Q ⟨F, M, ρ, S, hk, sl, d, S', e, q⟩ => by
  obtain ⟨⟨k, S1⟩, e1, e⟩ := Option.bind_eq_some_iff.mp e
  refine ⟨F, M, ρ, S, hk, sl, k, S1, e1, fun H' F' hk' le => ?_⟩
  cases k with
  | true => exact ⟨F', M, ρ, S1, hk', sl.mono le, d, S', e, fun w H2 F2 hk2 le2 r2 => q w H2 F2 hk2 le2 (le.trans r2)⟩
  | false => exact ⟨F', M, ρ, S1, hk', sl.mono le, d, S', e, fun w H2 F2 hk2 le2 r2 => q w H2 F2 hk2 le2 (le.trans r2)⟩

/-! ### == of data -/
mutual
def toP : D → Option PyData
  | .non => some .none
  | .bl b => some (.bool b)
  | .int i => some (.int i)
  | .str x => some (.str x)
  | .tup ds => (toPs ds).map .tuple
  | .kt ds => (toPs ds).map .tuple
  | .tx ds => (toPs ds).map .tuple
  | .lst ds => (toPs ds).map .list
  | .dK _ => none
  | .dT _ => none
  | .lT _ _ _ => none
  | .rng _ => none
  | .fn _ => none
  | .scr _ => none
  | .err _ => none
  | .lam _ => none
def toPs : List D → Option (List PyData)
  | [] => some []
  | d :: ds => (toP d).bind fun p => (toPs ds).map fun ps => p :: ps
end
mutual
theorem rep_dp {K : PySem.W.Frag} {F H : Hp} (le : Le F H) : ∀ (d : D) (v : V) (p : PyData), Rep K F v d → toP d = some p → Dp K H v p
  | .non, v, p, r, e => by cases r; simp only [toP] at e; cases e; exact .non
  | .bl b, v, p, r, e => by cases r; simp only [toP] at e; cases e; exact .bl b
  | .int i, v, p, r, e => by cases r; simp only [toP] at e; cases e; exact .int i
  | .str x, v, p, r, e => by cases r; simp only [toP] at e; cases e; exact .str x
  | .tup ds, v, p, r, e => by
    simp only [toP] at e
    obtain ⟨ps, e1, rfl⟩ := Option.map_eq_some_iff.mp e
    obtain ⟨a, vs, rfl, q, r⟩ := r.untup'
    exact .tup (SqT_mono le (.of q)) (reps_dp le ds vs ps r e1)
  | .kt ds, v, p, r, e => by
    simp only [toP] at e
    obtain ⟨ps, e1, rfl⟩ := Option.map_eq_some_iff.mp e
    obtain ⟨a, vs, rfl, q, r⟩ := r.unkt
    exact .tup (SqT_mono (fun _ _ z => by cases z) q) (reps_dp le ds vs ps r e1)
  | .tx ds, v, p, r, e => by
    simp only [toP] at e
    obtain ⟨ps, e1, rfl⟩ := Option.map_eq_some_iff.mp e
    obtain ⟨a, ob, vs, rfl, q, _, r⟩ := r.untx
    exact .tup (SqT_mono le (.inl (.inr ⟨ob, q⟩))) (reps_dp le ds vs ps r e1)
  | .lst ds, v, p, r, e => by
    simp only [toP] at e
    obtain ⟨ps, e1, rfl⟩ := Option.map_eq_some_iff.mp e
    obtain ⟨a, vs, rfl, q, r⟩ := r.unlst
    exact .lst (.of (le _ _ q)) (reps_dp le ds vs ps r e1)
  | .dK _, v, p, r, e => by simp only [toP] at e; cases e
  | .dT _, v, p, r, e => by simp only [toP] at e; cases e
  | .lT _ _ _, v, p, r, e => by simp only [toP] at e; cases e
  | .rng _, v, p, r, e => by simp only [toP] at e; cases e
  | .fn _, v, p, r, e => by simp only [toP] at e; cases e
  | .scr _, v, p, r, e => by simp only [toP] at e; cases e
  | .err _, v, p, r, e => by simp only [toP] at e; cases e
  | .lam _, v, p, r, e => by simp only [toP] at e; cases e
theorem reps_dp {K : PySem.W.Frag} {F H : Hp} (le : Le F H) : ∀ (ds : List D) (vs : List V) (ps : List PyData), RepL K F vs ds → toPs ds = some ps → DpAll K H vs ps
  | [], vs, ps, r, e => by cases r; simp only [toPs] at e; cases e; exact .nil
  | d :: ds, vs, ps, r, e => by
    simp only [toPs] at e
    obtain ⟨p, e1, e⟩ := Option.bind_eq_some_iff.mp e
    obtain ⟨ps', e2, rfl⟩ := Option.map_eq_some_iff.mp e
    cases r with
    | cons r rs => exact .cons (rep_dp le d _ p r e1) (reps_dp le ds _ ps' rs e2)
end
theorem BRep.dp {H F : Hp} {M : OMap} {S : Sg} {v : V} {d : D} {p : PyData} (h : HeapOk G H F M S) (r : BRep G.K F M v d) (e : toP d = some p) : Dp G.K H v p := by
  rcases r with r | ⟨a, w, rfl, m⟩
  · exact rep_dp h.sub d v p r e
  · obtain ⟨_, _, o, eo, ro⟩ := h.own _ _ _ m
    cases ro with
    | @lst vs ds hz r =>
      simp only [toP] at e
      obtain ⟨ps, e1, rfl⟩ := Option.map_eq_some_iff.mp e
      exact .lst (.of eo) (reps_dp h.sub ds vs ps r e1)
    | dK r => simp only [toP] at e; cases e
    | dT r => simp only [toP] at e; cases e
    | lT r => simp only [toP] at e; cases e
def eqD (x y : D) : Option D := match toP x, toP y with
  | some p, some q => if SeqAt.shaped p && SeqAt.shaped q then some (.bl (PyData.eqv p q)) else none
  | _, _ => none
def neD (x y : D) : Option D := match toP x, toP y with
  | some p, some q => if SeqAt.shaped p && SeqAt.shaped q then some (.bl (!PyData.eqv p q)) else none
  | _, _ => none
theorem r_eqD : R2E G (rEqD G.K) eqD := fun x y d1 d2 d H F M S Q hk r1 r2 e q => by
  unfold eqD at e
  split at e
  · rename_i p p' e1 e2
    split at e
    · rename_i hs
      cases e
      simp only [Bool.and_eq_true] at hs
      exact ⟨p, p', r1.dp hk e1, r2.dp hk e2, hs.1, hs.2, q _ H F hk (Same.refl F) (.bl _)⟩
    · cases e
  · cases e
theorem r_neD : R2E G (rNeD G.K) neD := fun x y d1 d2 d H F M S Q hk r1 r2 e q => by
  unfold neD at e
  split at e
  · rename_i p p' e1 e2
    split at e
    · rename_i hs
      cases e
      simp only [Bool.and_eq_true] at hs
      exact ⟨p, p', r1.dp hk e1, r2.dp hk e2, hs.1, hs.2, q _ H F hk (Same.refl F) (.bl _)⟩
    · cases e
  · cases e
theorem se_eq {ma mb : ME} (hK : G.K = X.K) (hu : X.A.units + 64 < cLine) (ha : PE X a (eB G ma)) (hb : PE X b (eB G mb)) : PE X (.Compare a [.Eq] [b] pos) (eE G (mOp2 eqD ma mb)) := se_cmp (hK ▸ op_eqD hu) r_eqD (nomark _) ha hb
theorem se_ne {ma mb : ME} (hK : G.K = X.K) (hu : X.A.units + 64 < cLine) (ha : PE X a (eB G ma)) (hb : PE X b (eB G mb)) : PE X (.Compare a [.NotEq] [b] pos) (eE G (mOp2 neD ma mb)) := se_cmp (hK ▸ op_neD hu) r_neD (nomark _) ha hb
theorem st_eq {ma mb : ME} (hK : G.K = X.K) (hu : X.A.units + 64 < cLine) (ha : PE X a (eB G ma)) (hb : PE X b (eB G mb)) : PT X (.Compare a [.Eq] [b] pos) (eT G (mTst (mOp2 eqD ma mb))) := st_cmp (hK ▸ op_eqD hu) r_eqD (nomark _) ha hb
theorem st_ne {ma mb : ME} (hK : G.K = X.K) (hu : X.A.units + 64 < cLine) (ha : PE X a (eB G ma)) (hb : PE X b (eB G mb)) : PT X (.Compare a [.NotEq] [b] pos) (eT G (mTst (mOp2 neD ma mb))) := st_cmp (hK ▸ op_neD hu) r_neD (nomark _) ha hb

/-! ### is -/
/-- x is None, x is a truth -/
def isD : D → D → Option D
  | .bl a, .bl b => some (.bl (decide (a = b)))
  | .non, .non => some (.bl true)
  | .bl _, .non => some (.bl false)
  | .int _, .non => some (.bl false)
  | .str _, .non => some (.bl false)
  | .tup _, .non => some (.bl false)
  | .kt _, .non => some (.bl false)
  | .tx _, .non => some (.bl false)
  | .lst _, .non => some (.bl false)
  | _, _ => none
theorem is_ne {H F : Hp} {M : OMap} {S : Sg} {v : V} {d : D} (hk : HeapOk G H F M S) (r : BRep G.K F M v d) (h : d ≠ .non) : decide (v = .non) = false := by
  apply decide_eq_false
  rintro rfl
  rcases r with r | ⟨a, w, z, m⟩
  · cases r; exact h rfl
  · cases z
theorem r_is : R2E G (fun x y H Q => (y = V.non ∧ Q (.bl (decide (x = .non))) H) ∨ rIsB x y H Q) isD := fun x y d1 d2 d H F M S Q hk r1 r2 e q => by
  have k := q
  cases d2 <;> first
    | (cases r2.unnon hk
       refine .inl ⟨rfl, ?_⟩
       cases d1 <;> first
         | (cases e; cases r1.unnon hk; exact q _ H F hk (Same.refl F) (.bl _))
         | (cases e; rw [is_ne hk r1 (fun z => nomatch z)]; exact q _ H F hk (Same.refl F) (.bl _))
         | cases e)
    | (cases r2.unbl' hk
       cases d1 <;> first
         | (cases e; cases r1.unbl' hk; exact .inr ⟨_, _, rfl, rfl, q _ H F hk (Same.refl F) (.bl _)⟩)
         | cases e)
    | (cases d1 <;> cases e)
def notOf (f : D → D → Option D) : D → D → Option D := fun x y => (f x y).bind fun d => match d with | .bl b => some (.bl (!b)) | _ => none
def isnotD : D → D → Option D := fun x y => match y with | .non => notOf isD x y | .bl _ => notOf isD x y | _ => none
theorem r_isnot : R2E G (fun x y H Q => (y = V.non ∧ Q (.bl (!decide (x = .non))) H) ∨ rNotB x y H Q) isnotD := fun x y d1 d2 d H F M S Q hk r1 r2 e q => by
  cases d2 <;> first
    | (cases r2.unnon hk
       refine .inl ⟨rfl, ?_⟩
       cases d1 <;> first
         | (cases e; cases r1.unnon hk; exact q _ H F hk (Same.refl F) (.bl _))
         | (cases e; rw [is_ne hk r1 (fun z => nomatch z)]; exact q _ H F hk (Same.refl F) (.bl _))
         | cases e)
    | (cases r2.unbl' hk
       cases d1 <;> first
         | (cases e; cases r1.unbl' hk; exact .inr ⟨_, _, rfl, rfl, q _ H F hk (Same.refl F) (.bl _)⟩)
         | cases e)
    | cases e
theorem se_is {ma mb : ME} (ha : PE X a (eB G ma)) (hb : PE X b (eB G mb)) : PE X (.Compare a [.Is] [b] pos) (eE G (mOp2 isD ma mb)) := se_cmp (OpR.or op_isN op_isBl) r_is (nomark _) ha hb
theorem st_is {ma mb : ME} (ha : PE X a (eB G ma)) (hb : PE X b (eB G mb)) : PT X (.Compare a [.Is] [b] pos) (eT G (mTst (mOp2 isD ma mb))) := st_cmp (OpR.or op_isN op_isBl) r_is (nomark _) ha hb
theorem se_isnot {ma mb : ME} (ha : PE X a (eB G ma)) (hb : PE X b (eB G mb)) : PE X (.Compare a [.IsNot] [b] pos) (eE G (mOp2 isnotD ma mb)) := se_cmp (OpR.or op_notN op_notBl) r_isnot (nomark _) ha hb
theorem st_isnot {ma mb : ME} (ha : PE X a (eB G ma)) (hb : PE X b (eB G mb)) : PT X (.Compare a [.IsNot] [b] pos) (eT G (mTst (mOp2 isnotD ma mb))) := st_cmp (OpR.or op_notN op_notBl) r_isnot (nomark _) ha hb

/-! ### in -/
def flatD : D → Bool
  | .non | .bl _ | .int _ | .str _ => true
  | _ => false
def eqFl : D → D → Bool
  | .non, .non => true
  | .bl a, .bl b => a == b
  | .bl a, .int b => (if a then 1 else 0) == b
  | .int a, .bl b => a == (if b then 1 else 0)
  | .int a, .int b => a == b
  | .str a, .str b => a == b
  | _, _ => false
def itemsD : D → Option (List D)
  | .tup ds => some ds
  | .kt ds => some ds
  | .tx ds => some ds
  | .lst ds => some ds
  | _ => none
theorem BRep.items {H F : Hp} {M : OMap} {S : Sg} {v : V} {d : D} {ds : List D} (h : HeapOk G H F M S) (e : itemsD d = some ds) (r : BRep G.K F M v d) : ∃ a vs, v = .ref a ∧ (SqL G.K H a vs ∨ SqT G.K H a vs) ∧ RepL G.K F vs ds := by
  unfold itemsD at e
  split at e
  · cases e
    obtain ⟨a, vs, e, q, r⟩ := r.untup h (d := .tup _) rfl
    exact ⟨a, vs, e, .inr q, r⟩
  · cases e
    obtain ⟨a, vs, e, q, r⟩ := r.untup h (d := .kt _) rfl
    exact ⟨a, vs, e, .inr q, r⟩
  · cases e
    obtain ⟨a, vs, e, q, r⟩ := r.untup h (d := .tx _) rfl
    exact ⟨a, vs, e, .inr q, r⟩
  · cases e
    obtain ⟨a, vs, e, q, r⟩ := r.unlst h
    exact ⟨a, vs, e, .inl (.of q), r⟩
  · cases e
def inFl (x y : D) : Option D := match itemsD y with
  | some ds => if flatD x && ds.all flatD then some (.bl (ds.any fun z => eqFl z x)) else none
  | none => none
theorem rep_flat {K : PySem.W.Frag} {F : Hp} {v : V} {d : D} (r : Rep K F v d) (h : flatD d = true) : flatV v = true := by
  cases r <;> first | rfl | cases h
theorem rep_eqFl {K : PySem.W.Frag} {F : Hp} {v w : V} {d e : D} (r : Rep K F v d) (r' : Rep K F w e) (h : flatD d = true) (h' : flatD e = true) : eqV v w = eqFl d e := by
  cases r <;> first | (cases r' <;> first | rfl | cases h') | cases h
theorem repL_flat {K : PySem.W.Frag} {F : Hp} {vs : List V} {ds : List D} (r : RepL K F vs ds) (h : ds.all flatD = true) : vs.all flatV = true := by
  induction r with
  | nil => rfl
  | cons r _ ih => simp only [List.all_cons, Bool.and_eq_true] at h ⊢; exact ⟨rep_flat r h.1, ih h.2⟩
theorem repL_in {K : PySem.W.Frag} {F : Hp} {vs : List V} {ds : List D} {v : V} {d : D} (r : RepL K F vs ds) (h : ds.all flatD = true) (rv : Rep K F v d) (hd : flatD d = true) : inV v vs = ds.any fun z => eqFl z d := by
  unfold inV
  induction r with
  | nil => rfl
  | cons r _ ih => simp only [List.all_cons, Bool.and_eq_true] at h; simp only [List.any_cons, ih h.2, rep_eqFl r rv h.1 hd]
theorem BRep.flat {H F : Hp} {M : OMap} {S : Sg} {v : V} {d : D} (h : HeapOk G H F M S) (r : BRep G.K F M v d) (f : flatD d = true) : Rep G.K F v d := by
  rcases r with r | ⟨a, w, rfl, m⟩
  · exact r
  · obtain ⟨_, _, o, eo, ro⟩ := h.own _ _ _ m
    cases ro <;> cases f
theorem r_inFl (neg : Bool) : R2E G (rIn G.K neg) (fun x y => (inFl x y).bind fun d => match d with | .bl b => some (.bl (if neg then !b else b)) | _ => none) := fun x y d1 d2 d H F M S Q hk r1 r2 e q => by
  obtain ⟨d3, e3, e⟩ := Option.bind_eq_some_iff.mp e
  unfold inFl at e3
  split at e3
  · rename_i ds ei
    split at e3
    · rename_i hf
      cases e3
      simp only [Bool.and_eq_true] at hf
      obtain ⟨p, vs, rfl, hq, rl⟩ := r2.items hk ei
      have rv := r1.flat hk hf.1
      refine ⟨p, vs, rfl, hq, rep_flat rv hf.1, repL_flat rl hf.2, ?_⟩
      rw [repL_in rl hf.2 rv hf.1]
      cases e
      exact q _ H F hk (Same.refl F) (.bl _)
    · cases e3
  · cases e3
def inSq : D → D → Option D := fun x y => (inFl x y).bind fun d => match d with | .bl b => some (.bl (if false then !b else b)) | _ => none
def ninSq : D → D → Option D := fun x y => (inFl x y).bind fun d => match d with | .bl b => some (.bl (if true then !b else b)) | _ => none
/-- x in a list of data -/
def inDp (x y : D) : Option D := match toP x, toP y with
  | some p, some (.list ds) => if SeqAt.shaped p && SeqAt.shaped (.list ds) then some (.bl (ds.any fun z => PyData.eqv z p)) else none
  | _, _ => none
theorem r_inDp : R2E G (rInD G.K) inDp := fun x y d1 d2 d H F M S Q hk r1 r2 e q => by
  unfold inDp at e
  split at e
  · rename_i p ds e1 e2
    split at e
    · rename_i hs
      cases e
      simp only [Bool.and_eq_true] at hs
      exact ⟨p, ds, r1.dp hk e1, r2.dp hk e2, hs.1, hs.2, q _ H F hk (Same.refl F) (.bl _)⟩
    · cases e
  · cases e
def ninDp (x y : D) : Option D := notOf inDp x y
theorem r_ninDp : R2E G (rNotInD G.K) ninDp := fun x y d1 d2 d H F M S Q hk r1 r2 e q => by
  obtain ⟨d3, e3, e⟩ := Option.bind_eq_some_iff.mp e
  unfold inDp at e3
  split at e3
  · rename_i p ds e1 e2
    split at e3
    · rename_i hs
      cases e3; cases e
      simp only [Bool.and_eq_true] at hs
      exact ⟨p, ds, r1.dp hk e1, r2.dp hk e2, hs.1, hs.2, q _ H F hk (Same.refl F) (.bl _)⟩
    · cases e3
  · cases e3
/-- a sign in a text -/
def inSg : D → D → Option D
  | .str x, .str z => if x.cps.size = 1 then some (.bl (decide (x.cps.getD 0 0 ∈ z.cps.toList))) else none
  | _, _ => none
theorem one_sign {x : Str} (h : x.cps.size = 1) : x = ⟨#[x.cps.getD 0 0]⟩ := by
  obtain ⟨⟨l⟩⟩ := x
  match l, h with
  | [c], _ => rfl
theorem r_inSg : R2E G (fun x y H Q => ∃ (c : Nat) (z : Str), x = .str ⟨#[c]⟩ ∧ y = .str z ∧ Q (.bl (decide (c ∈ z.cps.toList))) H) inSg := fun x y d1 d2 d H F M S Q hk r1 r2 e q => by
  unfold inSg at e
  split at e
  · rename_i s z
    split at e
    · rename_i hs
      cases e
      cases r1.unstr hk; cases r2.unstr hk
      exact ⟨s.cps.getD 0 0, z, congrArg V.str (one_sign hs), rfl, q _ H F hk (Same.refl F) (.bl _)⟩
    · cases e
  · cases e
def ninSg : D → D → Option D := notOf inSg
theorem r_ninSg : R2E G (fun x y H Q => ∃ (c : Nat) (z : Str), x = .str ⟨#[c]⟩ ∧ y = .str z ∧ Q (.bl (!decide (c ∈ z.cps.toList))) H) ninSg := fun x y d1 d2 d H F M S Q hk r1 r2 e q => by
  obtain ⟨d3, e3, e⟩ := Option.bind_eq_some_iff.mp e
  unfold inSg at e3
  split at e3
  · rename_i s z
    split at e3
    · rename_i hs
      cases e3; cases e
      cases r1.unstr hk; cases r2.unstr hk
      exact ⟨s.cps.getD 0 0, z, congrArg V.str (one_sign hs), rfl, q _ H F hk (Same.refl F) (.bl _)⟩
    · cases e3
  · cases e3
/-- in: flat items, a list of data, a sign of a text -/
def inD : D → D → Option D := fun x y => (inSq x y).or ((inDp x y).or (inSg x y))
def ninD : D → D → Option D := fun x y => (ninSq x y).or ((ninDp x y).or (ninSg x y))
theorem se_in {ma mb : ME} (hK : G.K = X.K) (hu : X.A.units + 65 < cLine) (hm : behindInMarks .In b = false) (ha : PE X a (eB G ma)) (hb : PE X b (eB G mb)) : PE X (.Compare a [.In] [b] pos) (eE G (mOp2 inD ma mb)) :=
  se_cmp (OpR.or (hK ▸ op_in_seq) (OpR.or (hK ▸ op_inD hu) op_in_sign)) ((r_inFl false).or1 (r_inDp.or1 r_inSg)) hm ha hb
theorem st_in {ma mb : ME} (hK : G.K = X.K) (hu : X.A.units + 65 < cLine) (hm : behindInMarks .In b = false) (ha : PE X a (eB G ma)) (hb : PE X b (eB G mb)) : PT X (.Compare a [.In] [b] pos) (eT G (mTst (mOp2 inD ma mb))) :=
  st_cmp (OpR.or (hK ▸ op_in_seq) (OpR.or (hK ▸ op_inD hu) op_in_sign)) ((r_inFl false).or1 (r_inDp.or1 r_inSg)) hm ha hb
theorem se_nin {ma mb : ME} (hK : G.K = X.K) (hu : X.A.units + 65 < cLine) (hm : behindInMarks .NotIn b = false) (ha : PE X a (eB G ma)) (hb : PE X b (eB G mb)) : PE X (.Compare a [.NotIn] [b] pos) (eE G (mOp2 ninD ma mb)) :=
  se_cmp (OpR.or (hK ▸ op_notIn_seq) (OpR.or (hK ▸ op_notInD hu) op_notIn_sign)) ((r_inFl true).or1 (r_ninDp.or1 r_ninSg)) hm ha hb
theorem st_nin {ma mb : ME} (hK : G.K = X.K) (hu : X.A.units + 65 < cLine) (hm : behindInMarks .NotIn b = false) (ha : PE X a (eB G ma)) (hb : PE X b (eB G mb)) : PT X (.Compare a [.NotIn] [b] pos) (eT G (mTst (mOp2 ninD ma mb))) :=
  st_cmp (OpR.or (hK ▸ op_notIn_seq) (OpR.or (hK ▸ op_notInD hu) op_notIn_sign)) ((r_inFl true).or1 (r_ninDp.or1 r_ninSg)) hm ha hb
end
end Dv
namespace Dv
open PySem PySem.Spec PyProof.Rows L2
section
variable {G : Gh} {X : Cx} {e a b c o : Expr} {es : List Expr} {pos p2 : Pos}

/-! ### argument lists, displays -/
def mCons (m : ME) (n : MA) : MA := fun ρ S => (m ρ S).bind fun p => (n ρ p.2).map fun q => (p.1 :: q.1, q.2)
theorem mCons_some {m : ME} {n : MA} {ρ : Lo} {S S' : Sg} {ds : List D} (h : mCons m n ρ S = some (ds, S')) : ∃ d S1 r, m ρ S = some (d, S1) ∧ n ρ S1 = some (r, S') ∧ ds = d :: r := by
  obtain ⟨⟨d1, S1⟩, e1, h⟩ := Option.bind_eq_some_iff.mp h
  obtain ⟨⟨d2, S2⟩, e2, h⟩ := Option.map_eq_some_iff.mp h
  cases h
  exact ⟨_, _, _, e1, e2, rfl⟩
theorem sa_nil : PA X [] (eA G (mPure [])) := pa_imp pa_nil fun σ H Q ⟨F, M, ρ, S, hk, sl, d, S', e, q⟩ => by cases e; exact q [] H F hk (Same.refl F) .nil
theorem sa_cons {m : ME} {n : MA} (ha : PE X e (eE G m)) (hr : PA X es (eA G n)) (hs : starEach (e :: es) X.env = (false, eval e X.env) :: starEach es X.env := by rfl) : PA X (e :: es) (eA G (mCons m n)) := pa_imp (pa_cons ha hr hs) fun σ H Q ⟨F, M, ρ, S, hk, sl, ds, S', e, q⟩ => by
  obtain ⟨d, S1, r, e1, e2, rfl⟩ := mCons_some e
  exact ⟨F, M, ρ, S, hk, sl, d, S1, e1, fun v H1 F1 hk1 le1 r1 => ⟨F1, M, ρ, S1, hk1, sl.mono le1, r, S', e2, fun vs H2 F2 hk2 le2 r2 => q _ H2 F2 hk2 (le1.trans le2) (.cons (r1.mono le2) r2)⟩⟩
theorem sb_nil : PA X [] (eAB G (mPure [])) := pa_imp pa_nil fun σ H Q ⟨F, M, ρ, S, hk, sl, d, S', e, q⟩ => by cases e; exact q [] H F hk (Same.refl F) .nil
theorem sb_cons {m : ME} {n : MA} (ha : PE X e (eB G m)) (hr : PA X es (eAB G n)) (hs : starEach (e :: es) X.env = (false, eval e X.env) :: starEach es X.env := by rfl) : PA X (e :: es) (eAB G (mCons m n)) := pa_imp (pa_cons ha hr hs) fun σ H Q ⟨F, M, ρ, S, hk, sl, ds, S', e, q⟩ => by
  obtain ⟨d, S1, r, e1, e2, rfl⟩ := mCons_some e
  exact ⟨F, M, ρ, S, hk, sl, d, S1, e1, fun v H1 F1 hk1 le1 r1 => ⟨F1, M, ρ, S1, hk1, sl.mono le1, r, S', e2, fun vs H2 F2 hk2 le2 r2 => q _ H2 F2 hk2 (le1.trans le2) (.cons (r1.mono le2) r2)⟩⟩
def mTup (m : MA) : ME := fun ρ S => (m ρ S).bind fun p => if p.1.length ≤ 4096 then some (.tup p.1, p.2) else none
def mLst (m : MA) : ME := fun ρ S => (m ρ S).bind fun p => if p.1.length ≤ 4096 then some (.lst p.1, p.2) else none
theorem line4096 {n : Nat} (h : n ≤ 4096) : n ≤ sizeLine := Nat.le_trans h (by decide)
theorem se_tup {m : MA} {x1} (h : PA X es (eA G m)) : PE X (.Tuple es x1 pos) (eE G (mTup m)) := pe_imp (pe_tup h) fun σ H Q ⟨F, M, ρ, S, hk, sl, d, S', e, q⟩ => by
  obtain ⟨⟨ds, S1⟩, e1, e⟩ := Option.bind_eq_some_iff.mp e
  split at e
  · rename_i hz
    cases e
    exact ⟨F, M, ρ, S, hk, sl, ds, S1, e1, fun vs H1 F1 hk1 le1 r1 => ⟨by rw [Paired.length r1]; exact line4096 hz, fun p hp => q _ _ _ (hk1.laid hp) (le1.trans (le_upd (hk1.fnone hp))) (.mkTup upd_same (line4096 hz) (RepL.mono (le_upd (hk1.fnone hp)) r1))⟩⟩
  · cases e
theorem sf_lst {m : MA} (h : PA X es (eA G m)) : PE X (.List es pos) (eF G (mLst m)) := pe_imp (pe_lst h) fun σ H Q ⟨F, M, ρ, S, hk, sl, d, S', e, q⟩ => by
  obtain ⟨⟨ds, S1⟩, e1, e⟩ := Option.bind_eq_some_iff.mp e
  split at e
  · rename_i hz
    cases e
    exact ⟨F, M, ρ, S, hk, sl, ds, S1, e1, fun vs H1 F1 hk1 le1 r1 => ⟨by rw [Paired.length r1]; exact line4096 hz, fun p hp => q p _ F1 (hk1.laidO hp (.lst (line4096 hz) r1)) (hk1.mnone hp) le1⟩⟩
  · cases e

/-! ### items, slices -/
theorem paired_atI {α β : Type} {R : α → β → Prop} {xs : List α} {ys : List β} (h : Paired R xs ys) {i : Int} {y : β} (e : atI ys i = some y) : ∃ x, atI xs i = some x ∧ R x y := by
  unfold atI at e ⊢
  rw [Paired.length h]
  obtain ⟨j, e1, e2⟩ := Option.bind_eq_some_iff.mp e
  obtain ⟨x, e3, r⟩ := paired_get' h e2
  exact ⟨x, by rw [e1]; exact e3, r⟩
def ixS (x : D) (i : Int) : Option D := match x with
  | .str z => if z.length ≤ sizeLine then (atI z.cps.toList i).map fun c => .str ⟨#[c]⟩ else none
  | _ => none
def ixD (x y : D) : Option D := match y with
  | .int i => match itemsD x with
    | some ds => atI ds i
    | none => ixS x i
  | _ => none
theorem r_ix : R2E G (rIx G.K) ixD := fun x y d1 d2 d H F M S Q hk r1 r2 e q => by
  unfold ixD at e
  split at e
  · rename_i i
    cases r2.unint hk
    split at e
    · rename_i ds ei
      obtain ⟨p, vs, rfl, hq, rl⟩ := r1.items hk ei
      obtain ⟨v, ev, rv⟩ := paired_atI rl e
      rcases hq with hq | hq
      · exact .inl ⟨p, vs, i, v, rfl, rfl, hq, ev, q v H F hk (Same.refl F) rv⟩
      · exact .inr (.inl ⟨p, vs, i, v, rfl, rfl, hq, ev, q v H F hk (Same.refl F) rv⟩)
    · unfold ixS at e
      split at e
      · split at e
        · obtain ⟨c, e1, e⟩ := Option.map_eq_some_iff.mp e
          cases e
          cases r1.unstr hk
          exact .inr (.inr ⟨_, i, c, rfl, rfl, by assumption, e1, q _ H F hk (Same.refl F) (.str _)⟩)
        · cases e
      · cases e
  · cases e
theorem se_ix {ma mb : ME} (hK : G.K = X.K) (ha : PE X a (eB G ma)) (hb : PE X b (eB G mb)) (hs : PlainIx b := by exact fun _ _ => rfl) : PE X (.Subscript a b pos) (eE G (mOp2 ixD ma mb)) := pe_imp (pe_ix (hK ▸ ix_seq) ha hb hs) (op2_imp r_ix)
abbrev MO := MX (Option Int)
def eO (G : Gh) (m : MO) : TO := fun σ H Q => ∃ F M ρ S, HeapOk G H F M S ∧ Slots G.K σ ρ F M ∧ ∃ d S', m ρ S = some (d, S') ∧ ∀ H' F', HeapOk G H' F' M S' → Le F F' → Q d H'
def mPart (m : ME) : MO := fun ρ S => (m ρ S).bind fun p => match p.1 with | .int i => some (some i, p.2) | _ => none
theorem so_none : PO X none (eO G (mPure none)) := ⟨fun pins s σ H Q I ⟨F, M, ρ, S, hk, sl, d, S', e, q⟩ => by
  cases e
  exact (po_none (X := X)).run pins s σ H Q I (q H F hk (Same.refl F))⟩
theorem so_some {m : ME} (h : PE X e (eE G m)) : PO X (some e) (eO G (mPart m)) := ⟨fun pins s σ H Q I ⟨F, M, ρ, S, hk, sl, d, S', e, q⟩ => by
  obtain ⟨⟨d1, S1⟩, e1, e⟩ := Option.bind_eq_some_iff.mp e
  cases d1 with
  | int i =>
    cases e
    exact (po_some h).run pins s σ H Q I ⟨F, M, ρ, S, hk, sl, _, S1, e1, fun v H' F' hk' le r => by cases r; exact ⟨i, rfl, q H' F' hk' le⟩⟩
  | _ => cases e⟩
def cutG {α : Type} (xs : List α) (lo hi : Option Int) : List α := (xs.drop (HT.sIx xs.length 0 lo)).take (HT.sIx xs.length xs.length hi - HT.sIx xs.length 0 lo)
theorem paired_cut {K : PySem.W.Frag} {F : Hp} {xs : List V} {ys : List D} (h : RepL K F xs ys) (lo hi : Option Int) : RepL K F (cutV xs lo hi) (cutG ys lo hi) := by
  unfold cutV cutG
  rw [Paired.length h]
  exact paired_take _ (paired_drop _ h)
def slT (d : D) (lo hi : Option Int) : Option D := match d.asT with
  | some ds => if HT.sIx ds.length 0 lo = 0 ∧ HT.sIx ds.length ds.length hi = ds.length then some d else some (.tup (cutG ds lo hi))
  | none => none
def slL (d : D) (lo hi : Option Int) : Option D := match d with
  | .lst ds => some (.lst (cutG ds lo hi))
  | _ => none
def slS (d : D) (lo hi : Option Int) : Option D := match d with
  | .str z => if z.length ≤ sizeLine then some (.str (cutS z lo hi)) else none
  | _ => none
/-- a slice of a tuple, a text, a list (new, frozen) -/
def slD (d : D) (lo hi : Option Int) : Option D := (slT d lo hi).or ((slS d lo hi).or (slL d lo hi))
def mSl (f : D → Option Int → Option Int → Option D) (m : ME) (l u : MO) : ME := fun ρ S => (m ρ S).bind fun p => (l ρ p.2).bind fun q => (u ρ q.2).bind fun r => (f p.1 q.1 r.1).map fun d => (d, r.2)
theorem mSl_some {f : D → Option Int → Option Int → Option D} {m : ME} {l u : MO} {ρ : Lo} {S S' : Sg} {d : D} (h : mSl f m l u ρ S = some (d, S')) : ∃ d1 S1 lo S2 hi, m ρ S = some (d1, S1) ∧ l ρ S1 = some (lo, S2) ∧ u ρ S2 = some (hi, S') ∧ f d1 lo hi = some d := by
  obtain ⟨⟨d1, S1⟩, e1, h⟩ := Option.bind_eq_some_iff.mp h
  obtain ⟨⟨d2, S2⟩, e2, h⟩ := Option.bind_eq_some_iff.mp h
  obtain ⟨⟨d3, S3⟩, e3, h⟩ := Option.bind_eq_some_iff.mp h
  obtain ⟨d4, e4, h⟩ := Option.map_eq_some_iff.mp h
  cases h
  exact ⟨_, _, _, _, _, e1, e2, e3, e4⟩
theorem sl_run {m : ME} {l u : MO} {σ : L2.St} {H : Hp} {R : V → Option Int → Option Int → Hp → Prop} {F : Hp} {M : OMap} {ρ : Lo} {S : Sg} (hk : HeapOk G H F M S) (sl : Slots G.K σ ρ F M) {d1 : D} {lo hi : Option Int} {S1 S2 S3 : Sg}
    (e1 : m ρ S = some (d1, S1)) (e2 : l ρ S1 = some (lo, S2)) (e3 : u ρ S2 = some (hi, S3)) (h : ∀ x H' F', HeapOk G H' F' M S3 → Le F F' → BRep G.K F' M x d1 → R x lo hi H') :
    eB G m σ H fun x H1 => eO G l σ H1 fun lo H2 => eO G u σ H2 fun hi H3 => R x lo hi H3 :=
  ⟨F, M, ρ, S, hk, sl, d1, S1, e1, fun x H1 F1 hk1 le1 r1 => ⟨F1, M, ρ, S1, hk1, sl.mono le1, lo, S2, e2, fun H2 F2 hk2 le2 => ⟨F2, M, ρ, S2, hk2, (sl.mono le1).mono le2, hi, S3, e3, fun H3 F3 hk3 le3 => h x H3 F3 hk3 ((le1.trans le2).trans le3) ((r1.mono le2).mono le3)⟩⟩⟩
theorem cut_len {α : Type} (xs : List α) (lo hi : Option Int) : (cutG xs lo hi).length ≤ xs.length := by
  unfold cutG; rw [List.length_take, List.length_drop]; omega
variable {lo hi : Option Expr} {m : ME} {l u : MO}
theorem sf_slL (hK : G.K = X.K) (he : PE X e (eB G m)) (hl : PO X lo (eO G l)) (hu : PO X hi (eO G u)) : PE X (.Subscript e (.Slice lo hi none p2) pos) (eF G (mSl slL m l u)) := pe_imp (pe_slice (hK ▸ sl_list) he hl hu) fun σ H Q ⟨F, M, ρ, S, hk, sl, d, S', e, q⟩ => by
  obtain ⟨d1, S1, lo', S2, hi', e1, e2, e3, e4⟩ := mSl_some e
  refine sl_run hk sl e1 e2 e3 fun x H' F' hk' le r => ?_
  unfold slL at e4
  split at e4
  · cases e4
    have r0 := r
    obtain ⟨a, vs, rfl, q1, rl⟩ := r.unlst hk'
    exact ⟨a, vs, rfl, .of q1, fun p hp => q p _ F' (hk'.laidO hp (.lst (Nat.le_trans (cut_len _ _ _) (r0.size hk' (.inr rfl))) (paired_cut rl _ _))) (hk'.mnone hp) le⟩
  · cases e4
theorem se_sl (hK : G.K = X.K) (he : PE X e (eB G m)) (hl : PO X lo (eO G l)) (hu : PO X hi (eO G u)) : PE X (.Subscript e (.Slice lo hi none p2) pos) (eE G (mSl slD m l u)) := pe_imp (pe_slice (SlR.or (hK ▸ sl_tupA) (SlR.or sl_str (hK ▸ sl_list))) he hl hu) fun σ H Q ⟨F, M, ρ, S, hk, sl, d, S', e, q⟩ => by
  obtain ⟨d1, S1, lo', S2, hi', e1, e2, e3, e4⟩ := mSl_some e
  refine sl_run hk sl e1 e2 e3 fun x H' F' hk' le r => ?_
  unfold slD at e4
  cases h1 : slT d1 lo' hi' with
  | some z =>
    rw [h1] at e4
    cases e4
    unfold slT at h1
    split at h1
    · rename_i ds ed
      obtain ⟨a, vs, rfl, q1, rl⟩ := r.untup hk' ed
      have hl := Paired.length rl
      have rr := r.rep hk' (by rw [ed]; exact fun z => nomatch z)
      refine .inl ⟨a, vs, rfl, q1, fun w => ?_, fun w p hp => ?_⟩
      · rw [hl] at w
        rw [if_pos w] at h1; cases h1
        exact q _ H' F' hk' le rr
      · rw [hl] at w
        rw [if_neg w] at h1; cases h1
        exact q _ _ _ (hk'.laid hp) (le.trans (le_upd (hk'.fnone hp))) (.mkTup upd_same (Nat.le_trans (cut_len _ _ _) (rr.size (.inl ed))) (RepL.mono (le_upd (hk'.fnone hp)) (paired_cut rl _ _)))
    · cases h1
  | none =>
    rw [h1] at e4
    cases h2 : slS d1 lo' hi' with
    | some z =>
      rw [h2] at e4
      cases e4
      unfold slS at h2
      split at h2
      · split at h2
        · cases h2
          cases r.unstr hk'
          exact .inr (.inl ⟨_, rfl, by assumption, q _ H' F' hk' le (.str _)⟩)
        · cases h2
      · cases h2
    | none =>
      rw [h2] at e4
      have e4 : slL d1 lo' hi' = some d := e4
      unfold slL at e4
      split at e4
      · cases e4
        have r0 := r
        obtain ⟨a, vs, rfl, q1, rl⟩ := r.unlst hk'
        exact .inr (.inr ⟨a, vs, rfl, .of q1, fun p hp => q _ _ _ (hk'.laid hp) (le.trans (le_upd (hk'.fnone hp))) (.mkLst upd_same (Nat.le_trans (cut_len _ _ _) (r0.size hk' (.inr rfl))) (RepL.mono (le_upd (hk'.fnone hp)) (paired_cut rl _ _)))⟩)
      · cases e4

/-! ### built-in functions -/
def CBE (G : Gh) (r : List V → Hp → VK → Prop) (f : List D → Option D) : Prop := ∀ (vs : List V) (ds : List D) (d : D) (H F : Hp) (M : OMap) (S : Sg) (Q : VK), HeapOk G H F M S → BRepL G.K F M vs ds → f ds = some d →
  (∀ v H' F', HeapOk G H' F' M S → Le F F' → Rep G.K F' v d → Q v H') → r vs H Q
def CBF (G : Gh) (r : List V → Hp → VK → Prop) (f : List D → Option D) : Prop := ∀ (vs : List V) (ds : List D) (d : D) (H F : Hp) (M : OMap) (S : Sg) (Q : VK), HeapOk G H F M S → BRepL G.K F M vs ds → f ds = some d →
  (∀ a H' F', HeapOk G H' F' (updO M a (none, d)) S → M a = none → Le F F' → Q (.ref a) H') → r vs H Q
def mCall (f : List D → Option D) (m : MA) : ME := fun ρ S => (m ρ S).bind fun p => (f p.1).map fun d => (d, p.2)
theorem mCall_some {f : List D → Option D} {m : MA} {ρ : Lo} {S S' : Sg} {d : D} (h : mCall f m ρ S = some (d, S')) : ∃ ds, m ρ S = some (ds, S') ∧ f ds = some d := by
  obtain ⟨⟨d1, S1⟩, e1, h⟩ := Option.bind_eq_some_iff.mp h
  obtain ⟨d4, e4, h⟩ := Option.map_eq_some_iff.mp h
  cases h
  exact ⟨_, e1, e4⟩
theorem cb_imp {r : List V → Hp → VK → Prop} {f : List D → Option D} {n : MA} (hr : CBE G r f) : ∀ σ H Q, eE G (mCall f n) σ H Q → tCB r (eAB G n) σ H Q := fun σ H Q ⟨F, M, ρ, S, hk, sl, d, S', e, q⟩ => by
  obtain ⟨ds, e1, e2⟩ := mCall_some e
  exact ⟨F, M, ρ, S, hk, sl, ds, S', e1, fun vs H' F' hk' le rl => hr vs ds d H' F' M S' Q hk' rl e2 fun v H2 F2 hk2 le2 r2 => q v H2 F2 hk2 (le.trans le2) r2⟩
theorem cb_impF {r : List V → Hp → VK → Prop} {f : List D → Option D} {n : MA} (hr : CBF G r f) : ∀ σ H Q, eF G (mCall f n) σ H Q → tCB r (eAB G n) σ H Q := fun σ H Q ⟨F, M, ρ, S, hk, sl, d, S', e, q⟩ => by
  obtain ⟨ds, e1, e2⟩ := mCall_some e
  exact ⟨F, M, ρ, S, hk, sl, ds, S', e1, fun vs H' F' hk' le rl => hr vs ds d H' F' M S' Q hk' rl e2 fun v H2 F2 hk2 le2 r2 => q v H2 F2 hk2 le2 (le.trans r2)⟩
theorem se_cb {r : List V → Hp → VK → Prop} {f : List D → Option D} {n : MA} (hr : CBE G r f) (h : PE X o (tCB r (eAB G n))) : PE X o (eE G (mCall f n)) := pe_imp h (cb_imp hr)
theorem sf_cb {r : List V → Hp → VK → Prop} {f : List D → Option D} {n : MA} (hr : CBF G r f) (h : PE X o (tCB r (eAB G n))) : PE X o (eF G (mCall f n)) := pe_imp h (cb_impF hr)
theorem CBE.or {r r' : List V → Hp → VK → Prop} {f g : List D → Option D} (h : CBE G r f) (h' : CBE G r' g) : CBE G (fun xs H Q => r xs H Q ∨ r' xs H Q) (fun x => (f x).or (g x)) := fun vs ds d H F M S Q hk rl e q => by
  have e : (f ds).or (g ds) = some d := e
  cases e1 : f ds with
  | some z => rw [e1] at e; cases e; exact .inl (h vs ds d H F M S Q hk rl e1 q)
  | none => rw [e1] at e; exact .inr (h' vs ds d H F M S Q hk rl (by simpa using e) q)
theorem brl1 {K : PySem.W.Frag} {F : Hp} {M : OMap} {vs : List V} {d : D} (r : BRepL K F M vs [d]) : ∃ v, vs = [v] ∧ BRep K F M v d := by
  cases r with | cons r t => cases t; exact ⟨_, rfl, r⟩
theorem brl2 {K : PySem.W.Frag} {F : Hp} {M : OMap} {vs : List V} {d d' : D} (r : BRepL K F M vs [d, d']) : ∃ v v', vs = [v, v'] ∧ BRep K F M v d ∧ BRep K F M v' d' := by
  cases r with | cons r t => cases t with | cons r' t' => cases t'; exact ⟨_, _, rfl, r, r'⟩
/-- len -/
def lenA : List D → Option D
  | [d] => match itemsD d with
    | some ds => some (.int ds.length)
    | none => match d with
      | .str z => if z.length ≤ sizeLine then some (.int z.length) else none
      | _ => none
  | _ => none
def lenK : List D → Option D
  | [.dK kvs] => some (.int kvs.length)
  | _ => none
theorem c_lenA : CBE G (fun xs H Q => ∃ x n, xs = [x] ∧ LenV G.K x H n ∧ Q (.int n) H) lenA := fun vs ds d H F M S Q hk rl e q => by
  unfold lenA at e
  split at e
  · obtain ⟨v, rfl, r⟩ := brl1 rl
    split at e
    · rename_i xs ei
      cases e
      obtain ⟨a, us, rfl, hq, rl⟩ := r.items hk ei
      refine ⟨_, xs.length, rfl, ?_, q _ H F hk (Same.refl F) (.int _)⟩
      rw [← Paired.length rl]
      exact hq.imp (fun h => ⟨_, h, rfl⟩) fun h => ⟨_, h, rfl⟩
    · split at e
      · split at e
        · cases e
          cases r.unstr hk
          exact ⟨_, _, rfl, ⟨by assumption, rfl⟩, q _ H F hk (Same.refl F) (.int _)⟩
        · cases e
      · cases e
  · cases e
theorem c_lenK : CBE G (fun xs H Q => ∃ a kvs, xs = [V.ref a] ∧ Rd H a (.dK kvs) ∧ Q (.int kvs.length) H) lenK := fun vs ds d H F M S Q hk rl e q => by
  unfold lenK at e
  split at e
  · obtain ⟨v, rfl, r⟩ := brl1 rl
    cases e
    obtain ⟨a, us, rfl, hq, rl⟩ := r.undK hk
    refine ⟨a, us, rfl, hq, ?_⟩
    rw [Paired.length rl]
    exact q _ H F hk (Same.refl F) (.int _)
  · cases e
def lenS : List D → Option D
  | [.scr ns] => some (.int ns.length)
  | _ => none
theorem c_lenS : CBE G (fun xs H Q => ∃ x n, xs = [x] ∧ LenV G.K x H n ∧ Q (.int n) H) lenS := fun vs ds d H F M S Q hk rl e q => by
  unfold lenS at e
  split at e
  · rename_i ns
    obtain ⟨v, rfl, r⟩ := brl1 rl
    cases e
    rcases r with r | ⟨a, w, rfl, m⟩
    · cases r with
      | scr h => exact ⟨_, ns.length, rfl, .inl ⟨_, Same.seq hk.sub h, by simp⟩, q _ H F hk (Same.refl F) (.int _)⟩
    · obtain ⟨_, _, o, eo, ro⟩ := hk.own _ _ _ m; cases ro
  · cases e
/-- len of a dict, also while it is walked -/
theorem call_lenRd : CallR X (.builtin "len") (fun xs H Q => ∃ a kvs, xs = [V.ref a] ∧ Rd H a (.dK kvs) ∧ Q (.int kvs.length) H) := fun pins s σ H xs us Q I r ⟨a, kvs, ex, ha, q⟩ => by
  subst ex
  obtain ⟨u, eu, ru⟩ := vals1 r
  subst eu
  obtain rfl : u = Value.ref a := ru
  refine d_len I ha fun t s' I' => ⟨.int kvs.length, H, I', ⟨t, rfl⟩, q⟩
def lenD : List D → Option D := fun ds => (lenA ds).or ((lenK ds).or (lenS ds))
theorem c_len (hK : G.K = X.K) : CallR X (.builtin "len") (fun xs H Q => (∃ x n, xs = [x] ∧ LenV G.K x H n ∧ Q (.int n) H) ∨ ((∃ a kvs, xs = [V.ref a] ∧ Rd H a (.dK kvs) ∧ Q (.int kvs.length) H) ∨ ∃ x n, xs = [x] ∧ LenV G.K x H n ∧ Q (.int n) H)) :=
  CallR.or (hK ▸ call_len) (CallR.or call_lenRd (hK ▸ call_len))
/-- all, any -/
def blsD : List D → Option (List Bool)
  | [] => some []
  | .bl b :: r => (blsD r).map (b :: ·)
  | _ => none
theorem repL_bls {K : PySem.W.Frag} {F : Hp} : ∀ {vs : List V} {ds : List D} {bs : List Bool}, RepL K F vs ds → blsD ds = some bs → vs = bs.map V.bl
  | _, _, _, .nil, e => by cases e; rfl
  | _, d :: _, _, .cons r t, e => by
    cases d with
    | bl b =>
      obtain ⟨bs, e1, rfl⟩ := Option.map_eq_some_iff.mp e
      cases r
      rw [repL_bls t e1]; rfl
    | _ => cases e
def allD : List D → Option D
  | [.lst ds] => (blsD ds).map fun bs => .bl (bs.all id)
  | _ => none
def anyD : List D → Option D
  | [.lst ds] => (blsD ds).map fun bs => .bl (bs.any id)
  | _ => none
theorem c_all : CBE G (rAll G.K) allD := fun vs ds d H F M S Q hk rl e q => by
  unfold allD at e
  split at e
  · obtain ⟨bs, e1, e⟩ := Option.map_eq_some_iff.mp e
    cases e
    obtain ⟨v, rfl, r⟩ := brl1 rl
    obtain ⟨a, us, rfl, hq, rl⟩ := r.unlst hk
    have h := repL_bls rl e1
    subst h
    exact ⟨a, bs, rfl, .of hq, q _ H F hk (Same.refl F) (.bl _)⟩
  · cases e
theorem c_any : CBE G (rAny G.K) anyD := fun vs ds d H F M S Q hk rl e q => by
  unfold anyD at e
  split at e
  · obtain ⟨bs, e1, e⟩ := Option.map_eq_some_iff.mp e
    cases e
    obtain ⟨v, rfl, r⟩ := brl1 rl
    obtain ⟨a, us, rfl, hq, rl⟩ := r.unlst hk
    have h := repL_bls rl e1
    subst h
    exact ⟨a, bs, rfl, .of hq, q _ H F hk (Same.refl F) (.bl _)⟩
  · cases e
/-- sum, abs, min, int, gcd -/
def intsD : List D → Option (List Int)
  | [] => some []
  | .int b :: r => (intsD r).map (b :: ·)
  | _ => none
theorem repL_ints {K : PySem.W.Frag} {F : Hp} : ∀ {vs : List V} {ds : List D} {bs : List Int}, RepL K F vs ds → intsD ds = some bs → vs = bs.map V.int
  | _, _, _, .nil, e => by cases e; rfl
  | _, d :: _, _, .cons r t, e => by
    cases d with
    | int b =>
      obtain ⟨bs, e1, rfl⟩ := Option.map_eq_some_iff.mp e
      cases r
      rw [repL_ints t e1]; rfl
    | _ => cases e
def sumD : List D → Option D
  | [.lst ds] => (intsD ds).map fun bs => .int bs.sum
  | _ => none
theorem c_sum : CBE G (rSum G.K) sumD := fun vs ds d H F M S Q hk rl e q => by
  unfold sumD at e
  split at e
  · obtain ⟨bs, e1, e⟩ := Option.map_eq_some_iff.mp e
    cases e
    obtain ⟨v, rfl, r⟩ := brl1 rl
    obtain ⟨a, us, rfl, hq, rl⟩ := r.unlst hk
    have h := repL_ints rl e1
    subst h
    exact ⟨a, bs, rfl, .of hq, q _ H F hk (Same.refl F) (.int _)⟩
  · cases e
def absD : List D → Option D
  | [.int i] => some (.int (if i < 0 then -i else i))
  | _ => none
theorem c_abs : CBE G (fun xs H Q => ∃ i, xs = [.int i] ∧ Q (.int (if i < 0 then -i else i)) H) absD := fun vs ds d H F M S Q hk rl e q => by
  unfold absD at e
  split at e
  · cases e
    obtain ⟨v, rfl, r⟩ := brl1 rl
    cases r.unint hk
    exact ⟨_, rfl, q _ H F hk (Same.refl F) (.int _)⟩
  · cases e
def minD : List D → Option D
  | [.int i, .int j] => some (.int (if j < i then j else i))
  | _ => none
theorem c_min : CBE G (fun xs H Q => ∃ i j, xs = [.int i, .int j] ∧ Q (.int (if j < i then j else i)) H) minD := fun vs ds d H F M S Q hk rl e q => by
  unfold minD at e
  split at e
  · cases e
    obtain ⟨v, w, rfl, r, r'⟩ := brl2 rl
    cases r.unint hk
    cases r'.unint hk
    exact ⟨_, _, rfl, q _ H F hk (Same.refl F) (.int _)⟩
  · cases e
def intD : List D → Option D
  | [.int i] => some (.int i)
  | _ => none
theorem c_int : CBE G (fun xs H Q => (∃ i, xs = [V.int i] ∧ Q (.int i) H) ∨ ∃ k, xs = [V.bl k] ∧ Q (.int (if k then 1 else 0)) H) intD := fun vs ds d H F M S Q hk rl e q => by
  unfold intD at e
  split at e
  · cases e
    obtain ⟨v, rfl, r⟩ := brl1 rl
    cases r.unint hk
    exact .inl ⟨_, rfl, q _ H F hk (Same.refl F) (.int _)⟩
  · cases e
def gcdD : List D → Option D
  | [.int i, .int j] => some (.int ((Nat.gcd i.natAbs j.natAbs : Nat) : Int))
  | _ => none
theorem c_gcd : CBE G rGcd gcdD := fun vs ds d H F M S Q hk rl e q => by
  unfold gcdD at e
  split at e
  · cases e
    obtain ⟨v, w, rfl, r, r'⟩ := brl2 rl
    cases r.unint hk
    cases r'.unint hk
    exact ⟨_, _, rfl, q _ H F hk (Same.refl F) (.int _)⟩
  · cases e
/-- tuple(..), list(..) of lists and tuples -/
def tupleD : List D → Option D
  | [.lst ds] => some (.tup ds)
  | [.tup ds] => some (.tup ds)
  | [.kt ds] => some (.kt ds)
  | [.tx ds] => some (.tx ds)
  | _ => none
theorem c_tuple : CBE G (fun xs H Q => ∃ p ys, xs = [V.ref p] ∧ ((SqL G.K H p ys ∧ ∀ l, H l = none → Q (.ref l) (upd H l (.tup ys))) ∨ (SqT G.K H p ys ∧ Q (.ref p) H))) tupleD := fun vs ds d H F M S Q hk rl e q => by
  unfold tupleD at e
  split at e
  · cases e
    obtain ⟨v, rfl, r⟩ := brl1 rl
    have r0 := r
    obtain ⟨a, us, rfl, hq, rl⟩ := r.unlst hk
    exact ⟨a, us, rfl, .inl ⟨.of hq, fun p hp => q _ _ _ (hk.laid hp) (le_upd (hk.fnone hp)) (.mkTup upd_same (r0.size hk (.inr rfl)) (RepL.mono (le_upd (hk.fnone hp)) rl))⟩⟩
  · cases e
    obtain ⟨v, rfl, r⟩ := brl1 rl
    obtain ⟨a, us, rfl, hq, rl⟩ := r.untup hk (d := .tup _) rfl
    exact ⟨a, us, rfl, .inr ⟨hq, q _ H F hk (Same.refl F) (r.rep hk (fun z => nomatch z))⟩⟩
  · cases e
    obtain ⟨v, rfl, r⟩ := brl1 rl
    obtain ⟨a, us, rfl, hq, rl⟩ := r.untup hk (d := .kt _) rfl
    exact ⟨a, us, rfl, .inr ⟨hq, q _ H F hk (Same.refl F) (r.rep hk (fun z => nomatch z))⟩⟩
  · cases e
    obtain ⟨v, rfl, r⟩ := brl1 rl
    obtain ⟨a, us, rfl, hq, rl⟩ := r.untup hk (d := .tx _) rfl
    exact ⟨a, us, rfl, .inr ⟨hq, q _ H F hk (Same.refl F) (r.rep hk (fun z => nomatch z))⟩⟩
  · cases e
theorem items_cases {d : D} {xs : List D} (h : itemsD d = some xs) : d.asT = some xs ∨ d = .lst xs := by
  unfold itemsD at h
  split at h <;> first | (cases h; first | exact .inl rfl | exact .inr rfl) | cases h
def listD : List D → Option D
  | [d] => (itemsD d).map .lst
  | _ => none
theorem c_list : CBF G (fun xs H Q => ∃ p ys, xs = [V.ref p] ∧ (SqL G.K H p ys ∨ SqT G.K H p ys) ∧ ∀ l, H l = none → Q (.ref l) (upd H l (.lst ys))) listD := fun vs ds d H F M S Q hk rl e q => by
  unfold listD at e
  split at e
  · obtain ⟨xs, e1, e⟩ := Option.map_eq_some_iff.mp e
    cases e
    obtain ⟨v, rfl, r⟩ := brl1 rl
    have r0 := r
    obtain ⟨a, us, rfl, hq, rl⟩ := r.items hk e1
    exact ⟨a, us, rfl, hq, fun p hp => q p _ F (hk.laidO hp (.lst (r0.size hk (items_cases e1)) rl)) (hk.mnone hp) (Same.refl F)⟩
  · cases e
/-- isinstance(x, T) -/
def tyD : D → Option String
  | .non => some "NoneType"
  | .bl _ => some "bool"
  | .int _ => some "int"
  | .str _ => some "str"
  | .tup _ => some "tuple"
  | .kt _ => some "tuple"
  | .tx _ => some "tuple"
  | .lst _ => some "list"
  | .dK _ => some "dict"
  | .dT _ => some "dict"
  | _ => none
theorem rep_tyx {H F : Hp} {M : OMap} {S : Sg} {v : V} {d : D} {t : String} (h : HeapOk G H F M S) (r : BRep G.K F M v d) (e : tyD d = some t) : TyX G.K H v (.type t) := by
  rcases r with r | ⟨a, w, rfl, m⟩
  · cases r with
    | non => cases e; exact .base .non
    | bl b => cases e; exact .base (.bl b)
    | int i => cases e; exact .base (.int i)
    | str x => cases e; exact .base (.str x)
    | tup q _ _ _ => cases e; exact .base (.tup (h.sub _ _ q))
    | kt q _ _ =>
      cases e
      rcases q with (q | ⟨_, q⟩) | ⟨o, its, n, k, c, _⟩
      · cases q
      · cases q
      · exact .kTuple k c
    | tx q _ _ _ _ => cases e; exact .fTuple (h.sub _ _ q)
    | lst q _ _ _ => cases e; exact .base (.lst (h.sub _ _ q))
    | dK q _ _ =>
      cases e
      rcases q with q | ⟨o, q⟩
      · exact .base (.dK (h.sub _ _ q))
      · exact .fDict (h.sub _ _ q)
    | dT q _ _ => cases e; exact .base (.dT (h.sub _ _ q))
    | lT q _ _ => cases e
    | rng a => cases e
    | fn a => cases e
    | scr q => cases e
    | err q _ => cases e
    | lam q _ => cases e
  · obtain ⟨_, _, o, eo, ro⟩ := h.own _ _ _ m
    cases ro with
    | lst _ r => cases e; exact .base (.lst eo)
    | dK r => cases e; exact .base (.dK eo)
    | dT r => cases e; exact .base (.dT eo)
    | lT r => cases e
def isiD (T : String) (d : D) : Option D := (tyD d).bind fun t => (kitB t T).map .bl
theorem se_isi {t : String} (h : PE X o (tCB (rIsi G.K) (tCons (eB G m) (tCons (tC (.ty t)) tNil)))) : PE X o (eE G (mOp1 (isiD t) m)) :=
  pe_imp h fun σ H Q ⟨F, M, ρ, S, hk, sl, d, S', e, q⟩ => by
    obtain ⟨d1, e1, e2⟩ := mOp1_some e
    refine ⟨F, M, ρ, S, hk, sl, d1, S', e1, fun v H' F' hk' le r => ?_⟩
    obtain ⟨ty, e3, e4⟩ := Option.bind_eq_some_iff.mp e2
    obtain ⟨k, e5, e6⟩ := Option.map_eq_some_iff.mp e4
    cases e6
    exact ⟨v, .ty t, .type ty, .type t, k, rfl, .ty t, rep_tyx hk' r e3, kit_ty e5, q _ H' F' hk' le (.bl _)⟩
/-- isinstance(x, (T, U)) -/
def isi2D (T U : String) (d : D) : Option D := (tyD d).bind fun t => (kitB t T).bind fun k => if k then some (.bl true) else (kitB t U).map .bl
theorem se_isi2 {t u : String} (h : PE X o (tCB (rIsiT G.K) (tCons (eB G m) (tCons (tTup (tCons (tC (.ty t)) (tCons (tC (.ty u)) tNil))) tNil)))) : PE X o (eE G (mOp1 (isi2D t u) m)) :=
  pe_imp h fun σ H Q ⟨F, M, ρ, S, hk, sl, d, S', e, q⟩ => by
    obtain ⟨d1, e1, e2⟩ := mOp1_some e
    refine ⟨F, M, ρ, S, hk, sl, d1, S', e1, fun v H' F' hk' le r => ?_⟩
    obtain ⟨ty, e3, e4⟩ := Option.bind_eq_some_iff.mp e2
    obtain ⟨k, e5, e6⟩ := Option.bind_eq_some_iff.mp e4
    refine ⟨by show 2 ≤ sizeLine; decide, fun p hp => ?_⟩
    have hk2 := hk'.laid (o := .tup [.ty t, .ty u]) hp
    have le2 := le_upd (o := .tup [.ty t, .ty u]) (hk'.fnone hp)
    have r2 := BRep.mono le2 r
    cases k with
    | true =>
      cases e6
      exact ⟨v, p, _, .type ty, _, true, rfl, upd_same, .cons (.ty t) (.cons (.ty u) .nil), rep_tyx hk2 r2 e3, kitAny_cons (kit_ty e5) (fun z => nomatch z) (fun _ => rfl), q _ _ _ hk2 (le.trans le2) (.bl _)⟩
    | false =>
      obtain ⟨k2, e7, e8⟩ := Option.map_eq_some_iff.mp e6
      cases e8
      exact ⟨v, p, _, .type ty, _, k2, rfl, upd_same, .cons (.ty t) (.cons (.ty u) .nil), rep_tyx hk2 r2 e3, kitAny_cons (kit_ty e5) (fun _ => kitAny_cons (kit_ty e7) (fun z => by rw [z]; exact kitAny_nil) (fun z => z)) (fun z => nomatch z), q _ _ _ hk2 (le.trans le2) (.bl _)⟩
end
end Dv
namespace Dv
open PySem PySem.Spec PyProof.Rows L2

/-! ### targets -/
abbrev MG := D → Lo → Option Lo
abbrev MGs := List D → Lo → Option Lo
def gNm (i : Nat) : MG := fun d ρ => some (ρ.set i (some (.imm d)))
def gNl : MGs := fun ds ρ => match ds with | [] => some ρ | _ => none
def gCns (g : MG) (gs : MGs) : MGs := fun ds ρ => match ds with | d :: r => (g d ρ).bind (gs r) | [] => none
def gTp (n : Nat) (gs : MGs) : MG := fun d ρ => match d.asT with | some ds => if ds.length = n then gs ds ρ else none | none => none
def eG (G : Gh) (is : List Nat) (g : MG) : TG := fun v σ H Q => ∃ F M ρ S d, HeapOk G H F M S ∧ Slots G.K σ ρ F M ∧ Rep G.K F v d ∧ ∃ ρ', g d ρ = some ρ' ∧
  ∀ σ', Slots G.K σ' ρ' F M → σ'.length = σ.length → (∀ i, i ∉ is → σ'[i]? = σ[i]? ∧ ρ'[i]? = ρ[i]?) → Q σ' H
def eGs (G : Gh) (is : List Nat) (g : MGs) : TGs := fun vs σ H Q => ∃ F M ρ S ds, HeapOk G H F M S ∧ Slots G.K σ ρ F M ∧ RepL G.K F vs ds ∧ ∃ ρ', g ds ρ = some ρ' ∧
  ∀ σ', Slots G.K σ' ρ' F M → σ'.length = σ.length → (∀ i, i ∉ is → σ'[i]? = σ[i]? ∧ ρ'[i]? = ρ[i]?) → Q σ' H
theorem Slots.set {K : PySem.W.Frag} {σ : L2.St} {ρ : Lo} {F : Hp} {M : OMap} {i : Nat} {v : V} {l : LV} (s : Slots K σ ρ F M) (r : LRep K F M i v l) : Slots K (σ.set i (some v)) (ρ.set i (some l)) F M := by
  refine ⟨by rw [List.length_set, List.length_set]; exact s.len, fun j l' h => ?_⟩
  by_cases hj : i = j
  · subst hj
    have hi : i < ρ.length := by
      have := (List.getElem?_eq_some_iff.mp h).1
      rwa [List.length_set] at this
    rw [List.getElem?_set_self hi] at h
    cases h
    exact ⟨v, List.getElem?_set_self (by rw [s.len]; exact hi), r⟩
  · rw [List.getElem?_set_ne hj] at h
    obtain ⟨w, e, r⟩ := s.at_ _ _ h
    exact ⟨w, by rw [List.getElem?_set_ne hj]; exact e, r⟩
section
variable {G : Gh} {X : Cx} {e a b c o : Expr} {es : List Expr} {pos p2 : Pos}
theorem pg_imp {t t' : TG} (h : PG X e t) (i : ∀ v σ H Q, t' v σ H Q → t v σ H Q) : PG X e t' := ⟨fun pins s σ H v u Q I r q => h.run pins s σ H v u Q I r (i _ _ _ _ q)⟩
theorem pgs_imp {t t' : TGs} (h : PGs X es t) (i : ∀ v σ H Q, t' v σ H Q → t v σ H Q) : PGs X es t' := ⟨fun pins s σ H v u Q I r q => h.run pins s σ H v u Q I r (i _ _ _ _ q)⟩
theorem sg_name (i : Nat) {x : Str} (hN : X.N.Nodup) (hi : X.N[i]? = some x := by rfl) (hx : L2.Loc X.env.scope x := by first | exact .inl rfl | exact .inr rfl) (hf : X.fn x = true ∨ X.env.scope.names.lookup x = some .local := by first | exact .inl rfl | exact .inr rfl | assumption) : PG X (.Name x pos) (eG G [i] (gNm i)) :=
  pg_imp (pg_name hN hi hx hf) fun v σ H Q ⟨F, M, ρ, S, d, hk, sl, r, ρ', e, q⟩ => by
    cases e
    refine q _ (sl.set (l := .imm d) r) (by rw [List.length_set]) fun j hj => ?_
    have : i ≠ j := fun z => hj (by simp [z])
    exact ⟨List.getElem?_set_ne this, List.getElem?_set_ne this⟩
theorem sgs_nil : PGs X [] (eGs G [] gNl) := pgs_imp pgs_nil fun v σ H Q ⟨F, M, ρ, S, ds, hk, sl, r, ρ', e, q⟩ => by
  cases r with
  | nil => cases e; exact ⟨rfl, q σ sl rfl fun j _ => ⟨rfl, rfl⟩⟩
  | cons _ _ => cases e
theorem sgs_cons {is js : List Nat} {g : MG} {gs : MGs} (h1 : PG X e (eG G is g)) (h2 : PGs X es (eGs G js gs)) (hs : (assignEach (e :: es) X.env).map (·.2) = assign e X.env :: (assignEach es X.env).map (·.2) := by rfl) : PGs X (e :: es) (eGs G (is ++ js) (gCns g gs)) :=
  pgs_imp (pgs_cons h1 h2 hs) fun v σ H Q ⟨F, M, ρ, S, ds, hk, sl, r, ρ', e, q⟩ => by
    cases r with
    | nil => cases e
    | cons r rs =>
      obtain ⟨ρ1, e1, e2⟩ := Option.bind_eq_some_iff.mp e
      refine ⟨_, _, rfl, F, M, ρ, S, _, hk, sl, r, ρ1, e1, fun σ1 sl1 l1 k1 => ⟨F, M, ρ1, S, _, hk, sl1, rs, ρ', e2, fun σ2 sl2 l2 k2 => q σ2 sl2 (l2.trans l1) fun i hi => ?_⟩⟩
      have h1 := k1 i fun z => hi (List.mem_append_left _ z)
      have h2 := k2 i fun z => hi (List.mem_append_right _ z)
      exact ⟨h2.1.trans h1.1, h2.2.trans h1.2⟩
theorem sg_tup {is : List Nat} {gs : MGs} {k n : Nat} (hK : G.K = X.K) (hc : X.calm = true) (h : PGs X es (eGs G is gs)) (hn : (assignEach es X.env).length = n := by rfl) (hst : (assignEach es X.env).findIdx? (·.1) = none := by rfl) : PG X (.Tuple es k pos) (eG G is (gTp n gs)) :=
  pg_imp (hK ▸ pg_tup hc h hn hst : PG X (.Tuple es k pos) (gTup G.K n (eGs G is gs))) fun v σ H Q ⟨F, M, ρ, S, d, hk, sl, r, ρ', e, q⟩ => by
    unfold gTp at e
    split at e
    · rename_i ds ed
      split at e
      · rename_i hz
        obtain ⟨a, vs, rfl, hq, rl⟩ := r.untup ed
        exact ⟨a, vs, rfl, SqT_mono hk.sub hq, by rw [Paired.length rl]; exact hz, F, M, ρ, S, ds, hk, sl, rl, ρ', e, q⟩
      · cases e
    · cases e

/-! ### what is walked -/
structure WalkD (G : Gh) (J : It) (ds : List D) (F0 : Hp) : Prop where
  size : ds.length ≤ sizeLine
  goes : ∀ i H, i < ds.length → Le F0 H → J.go i H
  stops : ∀ H, Le F0 H → J.stop ds.length H
  yields : ∀ i H x H' F M S, i < ds.length → HeapOk G H F M S → Le F0 F → J.yld i H x H' → ∃ F' d, HeapOk G H' F' M S ∧ Le F F' ∧ ds[i]? = some d ∧ Rep G.K F' x d
def iI (G : Gh) (m : MA) : TI := fun σ H R => ∃ F M ρ S, HeapOk G H F M S ∧ Slots G.K σ ρ F M ∧ ∃ ds S', m ρ S = some (ds, S') ∧
  ∀ J H' F', HeapOk G H' F' M S' → Le F F' → WalkD G J ds F' → R J H'
theorem pi_imp {tg : Expr} {t t' : TI} (h : PI X tg e t) (i : ∀ σ H Q, t' σ H Q → t σ H Q) : PI X tg e t' := ⟨fun pins s σ H R I q => h.run pins s σ H R I (i _ _ _ q)⟩
theorem pi_or {tg : Expr} {t t' : TI} (h : PI X tg e t) (h' : PI X tg e t') : PI X tg e (fun σ H R => t σ H R ∨ t' σ H R) := ⟨fun pins s σ H R I q => q.elim (h.run pins s σ H R I) (h'.run pins s σ H R I)⟩
theorem walkD_of {J : It} {n : Nat} {Gd : Hp → Prop} {Y : Nat → Hp → V → Hp → Prop} {ds : List D} {F0 : Hp} (w : Walk J n Gd Y) (hz : ds.length ≤ sizeLine) (hn : n = ds.length) (hg : ∀ H, Le F0 H → Gd H)
    (hy : ∀ i H x H' F M S, i < n → HeapOk G H F M S → Le F0 F → Y i H x H' → ∃ F' d, HeapOk G H' F' M S ∧ Le F F' ∧ ds[i]? = some d ∧ Rep G.K F' x d) : WalkD G J ds F0 := by
  subst hn
  exact ⟨hz, fun i H hi le => w.goes i H hi (hg H le), fun H le => w.stops H (hg H le), fun i H x H' F M S hi hk le y => hy i H x H' F M S hi hk le (w.yields i H x H' hi (hg H (le.trans hk.sub)) y)⟩
theorem yat {F0 : Hp} {xs : List V} {ds : List D} (rl : RepL G.K F0 xs ds) : ∀ i H x H' F M S, i < xs.length → HeapOk G H F M S → Le F0 F → YAt xs i H x H' → ∃ F' d, HeapOk G H' F' M S ∧ Le F F' ∧ ds[i]? = some d ∧ Rep G.K F' x d := by
  rintro i H x H' F M S hi hk le ⟨rfl, e⟩
  obtain ⟨d, e2, r⟩ := paired_get'' rl e
  exact ⟨F, d, hk, Same.refl F, e2, r.mono le⟩
def mSeq (m : ME) : MA := fun ρ S => (m ρ S).bind fun p => (itemsD p.1).map fun ds => (ds, p.2)
theorem mSeq_some {m : ME} {ρ : Lo} {S S' : Sg} {ds : List D} (h : mSeq m ρ S = some (ds, S')) : ∃ d, m ρ S = some (d, S') ∧ itemsD d = some ds := by
  obtain ⟨⟨d1, S1⟩, e1, h⟩ := Option.bind_eq_some_iff.mp h
  obtain ⟨d4, e4, h⟩ := Option.map_eq_some_iff.mp h
  cases h
  exact ⟨_, e1, e4⟩
/-- over a list or a tuple -/
theorem si_seq {tg : Expr} {m : ME} (hK : G.K = X.K) (h : PE X e (eE G m)) : PI X tg e (iI G (mSeq m)) :=
  pi_imp (pi_or (hK ▸ pi_list h : PI X tg e (iList G.K (eE G m))) (hK ▸ pi_tup h : PI X tg e (iTup G.K (eE G m)))) fun σ H R ⟨F, M, ρ, S, hk, sl, ds, S', e, q⟩ => by
    obtain ⟨d, e1, e2⟩ := mSeq_some e
    unfold itemsD at e2
    split at e2
    · cases e2
      refine .inr ⟨F, M, ρ, S, hk, sl, _, S', e1, fun v H' F' hk' le r => ?_⟩
      obtain ⟨a, vs, rfl, hq, rl⟩ := r.untup (d := .tup _) rfl
      exact ⟨a, rfl, ⟨vs, SqT_mono hk'.sub hq⟩, q _ _ _ hk' le (walkD_of walk_tup (r.size (.inl rfl)) (Paired.length rl) (fun H l => SqT_mono l hq) (yat rl))⟩
    · cases e2
      refine .inr ⟨F, M, ρ, S, hk, sl, _, S', e1, fun v H' F' hk' le r => ?_⟩
      obtain ⟨a, vs, rfl, hq, rl⟩ := r.untup (d := .kt _) rfl
      exact ⟨a, rfl, ⟨vs, SqT_mono hk'.sub hq⟩, q _ _ _ hk' le (walkD_of walk_tup (r.size (.inl rfl)) (Paired.length rl) (fun H l => SqT_mono l hq) (yat rl))⟩
    · cases e2
      refine .inr ⟨F, M, ρ, S, hk, sl, _, S', e1, fun v H' F' hk' le r => ?_⟩
      obtain ⟨a, vs, rfl, hq, rl⟩ := r.untup (d := .tx _) rfl
      exact ⟨a, rfl, ⟨vs, SqT_mono hk'.sub hq⟩, q _ _ _ hk' le (walkD_of walk_tup (r.size (.inl rfl)) (Paired.length rl) (fun H l => SqT_mono l hq) (yat rl))⟩
    · cases e2
      refine .inl ⟨F, M, ρ, S, hk, sl, _, S', e1, fun v H' F' hk' le r => ?_⟩
      obtain ⟨a, vs, rfl, hq, rl⟩ := r.unlst
      exact ⟨a, rfl, ⟨vs, .of (hk'.sub _ _ hq)⟩, q _ _ _ hk' le (walkD_of walk_list (r.size (.inr rfl)) (Paired.length rl) (fun H l => .of (l _ _ hq)) (yat rl))⟩
    · cases e2
/-- over the script -/
theorem si_scr {tg : Expr} {i : Nat} (hK : G.K = X.K) (h : PE X e (eE G (mVar i))) : PI X tg e (iI G (fun ρ S => (mVar i ρ S).bind fun p => match p.1 with | .scr ns => if ns.length ≤ sizeLine then some (ns.map D.int, p.2) else none | _ => none)) :=
  pi_imp (hK ▸ pi_list h : PI X tg e (iList G.K (eE G (mVar i)))) fun σ H R ⟨F, M, ρ, S, hk, sl, ds, S', e, q⟩ => by
    obtain ⟨⟨d1, S1⟩, e1, e2⟩ := Option.bind_eq_some_iff.mp e
    cases d1 with
    | scr ns =>
      simp only at e2
      split at e2
      · rename_i hz
        cases e2
        refine ⟨F, M, ρ, S, hk, sl, _, _, e1, fun v H' F' hk' le r => ?_⟩
        cases r with
        | @scr a _ hq =>
          refine ⟨_, rfl, ⟨_, Same.seq hk'.sub hq⟩, q _ _ _ hk' le (walkD_of walk_list (by rw [List.length_map]; exact hz) (by simp) (fun H l => Same.seq l hq) ?_)⟩
          rintro i H x H' F M S hi hk le ⟨rfl, e⟩
          rw [List.getElem?_map] at e
          obtain ⟨k, e1, e⟩ := Option.map_eq_some_iff.mp e
          cases e
          exact ⟨F, .int k, hk, Same.refl F, by rw [List.getElem?_map, e1]; rfl, .int k⟩
      · cases e2
    | _ => cases e2
def rangeL (lo hi : Int) : List D := (List.range (hi - lo).toNat).map fun i => .int (lo + (i : Nat))
def mRg1 (m : MA) : MA := fun ρ S => (m ρ S).bind fun p => match p.1 with
  | [.int n] => if n ≤ 1000000 ∧ -1000000 ≤ n then some (rangeL 0 n, p.2) else none
  | _ => none
def mRg2 (m : MA) : MA := fun ρ S => (m ρ S).bind fun p => match p.1 with
  | [.int a, .int n] => if n ≤ 1000000 ∧ -1000000 ≤ n ∧ -1000000 ≤ a ∧ a ≤ 1000000 then some (rangeL a n, p.2) else none
  | _ => none
theorem walk_rg {lo hi : Int} {F0 : Hp} (h : -1000000 ≤ lo ∧ hi ≤ 1000000) : WalkD G (Itr lo (hi - lo).toNat) (rangeL lo hi) F0 := by
  have hl : (rangeL lo hi).length = (hi - lo).toNat := by unfold rangeL; rw [List.length_map, List.length_range]
  refine walkD_of walk_range ?_ hl.symm (fun _ _ => trivial) ?_
  · rw [hl, sizeLine_eq]; omega
  · rintro i H x H' F M S hi hk le ⟨rfl, rfl⟩
    refine ⟨F, .int (lo + i), hk, Same.refl F, ?_, .int _⟩
    unfold rangeL
    rw [List.getElem?_map, List.getElem?_range hi]; rfl
theorem si_rg1 {tg : Expr} {m : MA} (h : PI X tg e (iRng1 (eAB G m))) : PI X tg e (iI G (mRg1 m)) := pi_imp h fun σ H R ⟨F, M, ρ, S, hk, sl, ds, S', e, q⟩ => by
  obtain ⟨⟨d1, S1⟩, e1, e2⟩ := Option.bind_eq_some_iff.mp e
  split at e2
  · rename_i n ed
    split at e2
    · rename_i hz
      cases e2
      have ed : d1 = [.int n] := ed
      subst ed
      refine ⟨F, M, ρ, S, hk, sl, _, _, e1, fun vs H' F' hk' le r => ?_⟩
      obtain ⟨v, rfl, r1⟩ := brl1 r
      cases r1.unint hk'
      have e : n.toNat = (n - 0).toNat := by omega
      exact ⟨n, rfl, by omega, by omega, by rw [e]; exact q _ _ _ hk' le (walk_rg ⟨by decide, hz.1⟩)⟩
    · cases e2
  · cases e2
theorem si_rg2 {tg : Expr} {m : MA} (h : PI X tg e (iRng2 (eAB G m))) : PI X tg e (iI G (mRg2 m)) := pi_imp h fun σ H R ⟨F, M, ρ, S, hk, sl, ds, S', e, q⟩ => by
  obtain ⟨⟨d1, S1⟩, e1, e2⟩ := Option.bind_eq_some_iff.mp e
  split at e2
  · rename_i a n ed
    split at e2
    · rename_i hz
      cases e2
      have ed : d1 = [.int a, .int n] := ed
      subst ed
      refine ⟨F, M, ρ, S, hk, sl, _, _, e1, fun vs H' F' hk' le r => ?_⟩
      obtain ⟨v, w, rfl, r1, r2⟩ := brl2 r
      cases r1.unint hk'
      cases r2.unint hk'
      exact ⟨a, n, rfl, ⟨by omega, by omega, by omega, by omega⟩, q _ _ _ hk' le (walk_rg ⟨by omega, hz.1⟩)⟩
    · cases e2
  · cases e2

/-! ### walked under the owner's eyes: what holds of the owned things too -/
structure WalkC (G : Gh) (J : It) (ds : List D) (C : OMap → Prop) (F0 : Hp) : Prop where
  size : ds.length ≤ sizeLine
  goes : ∀ i H F M S, i < ds.length → HeapOk G H F M S → Le F0 F → C M → J.go i H
  stops : ∀ H F M S, HeapOk G H F M S → Le F0 F → C M → J.stop ds.length H
  yields : ∀ i H x H' F M S, i < ds.length → HeapOk G H F M S → Le F0 F → C M → J.yld i H x H' → ∃ F' d, HeapOk G H' F' M S ∧ Le F F' ∧ ds[i]? = some d ∧ Rep G.K F' x d
def iC (G : Gh) (m : MA) : TI := fun σ H R => ∃ F M ρ S, HeapOk G H F M S ∧ Slots G.K σ ρ F M ∧ ∃ ds S', m ρ S = some (ds, S') ∧
  ∀ J H' F' C, HeapOk G H' F' M S' → Le F F' → C M → (∀ A x, M A = none → C (updO M A x)) → WalkC G J ds C F' → R J H'
theorem sc_of {tg : Expr} {m : MA} (h : PI X tg e (iI G m)) : PI X tg e (iC G m) := pi_imp h fun σ H R ⟨F, M, ρ, S, hk, sl, ds, S', e, q⟩ =>
  ⟨F, M, ρ, S, hk, sl, ds, S', e, fun J H' F' hk' le w => q J H' F' (fun _ => True) hk' le trivial (fun _ _ _ => trivial)
    ⟨w.size, fun i H F M S hi hk le _ => w.goes i H hi (le.trans hk.sub), fun H F M S hk le _ => w.stops H (le.trans hk.sub), fun i H x H' F M S hi hk le _ y => w.yields i H x H' F M S hi hk le y⟩⟩
def mOwn (i : Nat) : MA := fun ρ S => match ρ[i]? with
  | some (some (.own (.lst ds))) => some (ds, S)
  | _ => none
/-- over an owned list, as it stands -/
theorem sc_own {tg : Expr} {i : Nat} (hK : G.K = X.K) (h : PE X e (tVar i)) : PI X tg e (iC G (mOwn i)) :=
  pi_imp (hK ▸ pi_list h : PI X tg e (iList G.K (tVar i))) fun σ H R ⟨F, M, ρ, S, hk, sl, ds, S', e, q⟩ => by
    unfold mOwn at e
    split at e
    · rename_i ds' hi
      cases e
      obtain ⟨u, ev, a, rfl, em⟩ := sl.at_ _ _ hi
      obtain ⟨f1, f2, o, eo, ro⟩ := hk.own _ _ _ em
      cases ro with
      | @lst us _ hz rl =>
        have hn := Paired.length rl
        refine ⟨_, ev, a, rfl, ⟨us, .of eo⟩, q _ H F (fun M' => ∃ w, M' a = some (w, .lst ds)) hk (Same.refl F) ⟨_, em⟩ (fun A x hA => ⟨_, by rw [updO_ne (fun z => by rw [z, hA] at em; cases em)]; exact em⟩) ?_⟩
        have key : ∀ {H F M S}, HeapOk G H F M S → (∃ w, M a = some (w, .lst ds)) → ∃ vs, SqL G.K H a vs ∧ RepL G.K F vs ds := fun hk hm => by
          obtain ⟨w, hm⟩ := hm
          obtain ⟨_, _, o, eo, ro⟩ := hk.own _ _ _ hm
          cases ro with
          | @lst us _ hz rl => exact ⟨us, .of eo, rl⟩
        refine ⟨hz, fun i H F M S hi hk le c => ?_, fun H F M S hk le c => ?_, fun i H x H' F M S hi hk le c y => ?_⟩
        · obtain ⟨vs, q1, r1⟩ := key hk c
          exact (walk_list (xs := vs)).goes i H (by rw [Paired.length r1]; exact hi) q1
        · obtain ⟨vs, q1, r1⟩ := key hk c
          have := (walk_list (xs := vs)).stops H q1
          rw [Paired.length r1] at this
          exact this
        · obtain ⟨vs, q1, r1⟩ := key hk c
          obtain ⟨rfl, e⟩ := (walk_list (xs := vs)).yields i H x H' (by rw [Paired.length r1]; exact hi) q1 y
          obtain ⟨d, e2, r⟩ := paired_get'' r1 e
          exact ⟨F, d, hk, Same.refl F, e2, r⟩
    · cases e

theorem updO_updO {M : OMap} {a : Addr} {x y} : updO (updO M a x) a y = updO M a y := by
  funext b; unfold updO; split <;> rfl
/-! ### list comprehensions -/
def wipeL (ρ : Lo) : List Nat → Lo
  | [] => ρ
  | v :: vs => (wipeL ρ vs).set v none
theorem wipeL_length (ρ : Lo) : ∀ vs, (wipeL ρ vs).length = ρ.length
  | [] => rfl
  | v :: vs => by unfold wipeL; rw [List.length_set, wipeL_length ρ vs]
theorem wipeL_some {ρ : Lo} {i : Nat} {l : LV} : ∀ {vs : List Nat}, (wipeL ρ vs)[i]? = some (some l) → ρ[i]? = some (some l) ∧ i ∉ vs
  | [], h => ⟨h, by simp⟩
  | v :: vs, h => by
    unfold wipeL at h
    by_cases hi : v = i
    · subst hi
      by_cases hv : v < (wipeL ρ vs).length
      · rw [List.getElem?_set_self hv] at h; cases h
      · rw [List.getElem?_eq_none (by simpa using hv)] at h; cases h
    · rw [List.getElem?_set_ne hi] at h
      obtain ⟨h1, h2⟩ := wipeL_some h
      exact ⟨h1, by simp [h2, Ne.symm hi]⟩
theorem wipe_out' {σ : L2.St} {i : Nat} : ∀ {vs : List Nat}, i ∉ vs → (wipe σ vs)[i]? = σ[i]?
  | [], _ => rfl
  | v :: vs, h => by
    unfold wipe
    rw [List.getElem?_set_ne (fun z => h (by simp [z]))]
    exact wipe_out' fun z => h (List.mem_cons_of_mem _ z)
theorem Slots.wipe {K : PySem.W.Frag} {σ : L2.St} {ρ : Lo} {F : Hp} {M : OMap} (s : Slots K σ ρ F M) (vs : List Nat) : Slots K (L2.wipe σ vs) (wipeL ρ vs) F M := by
  refine ⟨by rw [wipe_length, wipeL_length]; exact s.len, fun i l h => ?_⟩
  obtain ⟨h1, h2⟩ := wipeL_some h
  obtain ⟨v, e, r⟩ := s.at_ _ _ h1
  exact ⟨v, by rw [wipe_out' h2]; exact e, r⟩
theorem wipe_in {σ : L2.St} {i : Nat} : ∀ {vs : List Nat}, i ∈ vs → i < σ.length → (wipe σ vs)[i]? = some none
  | v :: vs, h, hl => by
    unfold wipe
    by_cases hv : v = i
    · subst hv
      exact List.getElem?_set_self (by rw [wipe_length]; exact hl)
    · rw [List.getElem?_set_ne hv]
      rcases List.mem_cons.mp h with z | z
      · exact absurd z.symm hv
      · exact wipe_in z hl
theorem wipe_eq {σ σ2 : L2.St} {vs is : List Nat} (hs : ∀ i ∈ is, i ∈ vs) (hl : σ2.length = (wipe σ vs).length) (h : ∀ i, i ∉ is → σ2[i]? = (wipe σ vs)[i]?) : wipe σ2 vs = wipe σ vs := by
  have hl' : σ2.length = σ.length := by rw [hl, wipe_length]
  refine List.ext_getElem? fun i => ?_
  by_cases hi : i ∈ vs
  · by_cases hb : i < σ.length
    · rw [wipe_in hi hb, wipe_in hi (by rw [hl']; exact hb)]
    · rw [List.getElem?_eq_none (by rw [wipe_length, hl']; omega), List.getElem?_eq_none (by rw [wipe_length]; omega)]
  · rw [wipe_out' hi, h i fun z => hi (hs i z)]
def lcGo (ρ : Lo) (g : MG) (t : MT) (m : ME) : List D → Sg → Option (List D × Sg)
  | [], S => some ([], S)
  | d :: r, S => (g d ρ).bind fun ρ1 => (t ρ1 S).bind fun b => if b.1 then (m ρ1 b.2).bind fun y => (lcGo ρ g t m r y.2).map fun q => (y.1 :: q.1, q.2) else lcGo ρ g t m r b.2
def mLc (mi : MA) (vs : List Nat) (g : MG) (t : MT) (m : ME) : ME := fun ρ S => (mi ρ S).bind fun p => (lcGo (wipeL ρ vs) g t m p.1 p.2).map fun q => (.lst q.1, q.2)
theorem sts_nil : PTs X [] (eT G (mPure true)) := ⟨fun pins s σ H Q I ⟨F, M, ρ, S, hk, sl, d, S', e, q⟩ => by cases e; exact pts_nil.run pins s σ H Q I (q H F hk (Same.refl F))⟩
theorem sts_one {t : MT} (h : PT X c (eT G t)) : PTs X [c] (eT G t) := pts_one h
theorem lc_imp {mi : MA} {vs is : List Nat} {g : MG} {t : MT} {m : ME} (hs : ∀ i ∈ is, i ∈ vs) : ∀ σ H Q, eF G (mLc mi vs g t m) σ H Q → tLc (iC G mi) (eG G is g) (eT G t) (eE G m) vs σ H Q := fun σ H Q ⟨F, M, ρ, S, hk, sl, d, S', e, q⟩ => by
  obtain ⟨⟨ds, S1⟩, e1, e⟩ := Option.bind_eq_some_iff.mp e
  obtain ⟨⟨out, S2⟩, e2, e⟩ := Option.map_eq_some_iff.mp e
  cases e
  refine ⟨F, M, ρ, S, hk, sl, ds, S1, e1, fun J H1 F1 C hk1 le1 cM cU w D hD => ?_⟩
  have mD := hk1.mnone hD
  have cD : ∀ x, C (updO M D x) := fun x => cU D x mD
  refine ⟨fun i n H => n = ds.length - i ∧ i ≤ ds.length ∧ ∃ F' acc Si, acc.length ≤ i ∧ HeapOk G H F' (updO M D (none, .lst acc)) Si ∧ Le F1 F' ∧ ∃ rest, lcGo (wipeL ρ vs) g t m (ds.drop i) Si = some (rest, S2) ∧ out = acc ++ rest,
    ⟨ds.length, by omega, by omega, F1, [], S1, by simp, hk1.laidO hD (.lst (Nat.zero_le _) .nil), Same.refl F1, out, by simpa using e2, by simp⟩, ?_⟩
  rintro i n H ⟨rfl, hi, F', acc, Si, ha, hk', le', rest, er, eo⟩
  by_cases hlt : i < ds.length
  · refine .inr ⟨w.goes i H F' _ _ hlt hk' le' (cD _), fun H => i + 1 ≤ ds.length ∧ ∃ F' acc Si, acc.length ≤ i + 1 ∧ HeapOk G H F' (updO M D (none, .lst acc)) Si ∧ Le F1 F' ∧ ∃ rest, lcGo (wipeL ρ vs) g t m (ds.drop (i + 1)) Si = some (rest, S2) ∧ out = acc ++ rest,
      fun H' hN => ⟨ds.length - (i + 1), by omega, rfl, hN⟩, fun x H' y => ?_⟩
    obtain ⟨F2, dd, hk2, le2, ed, rx⟩ := w.yields i H x H' F' _ Si hlt hk' le' (cD _) y
    have sl2 : Slots G.K (wipe σ vs) (wipeL ρ vs) F2 (updO M D (none, .lst acc)) := by
      have h0 := ((sl.wipe vs).mono (le1.trans le')).mono le2
      refine ⟨h0.len, fun j l hj => ?_⟩
      obtain ⟨v, ev, r⟩ := h0.at_ _ _ hj
      refine ⟨v, ev, ?_⟩
      cases l with
      | imm d => exact r
      | own d =>
        obtain ⟨a, ea, em⟩ := r
        refine ⟨a, ea, ?_⟩
        rw [updO_ne (fun z => by rw [z, mD] at em; cases em)]
        exact em
    have edr : ds.drop i = dd :: ds.drop (i + 1) := by
      rw [List.drop_eq_getElem_cons hlt]
      congr
      exact Option.some.inj ((List.getElem?_eq_getElem hlt).symm.trans ed)
    rw [edr] at er
    obtain ⟨ρ1, eg, er⟩ := Option.bind_eq_some_iff.mp er
    obtain ⟨⟨b, Sb⟩, et, er⟩ := Option.bind_eq_some_iff.mp er
    refine ⟨F2, _, _, Si, dd, hk2, sl2, rx, ρ1, eg, fun σ2 sl3 l3 k3 => ⟨wipe_eq hs l3 fun i hi => (k3 i hi).1, F2, _, ρ1, Si, hk2, sl3, b, Sb, et, fun H3 F3 hk3 le3 => ?_⟩⟩
    cases b with
    | true =>
      obtain ⟨⟨y, Sy⟩, em, er⟩ := Option.bind_eq_some_iff.mp er
      obtain ⟨⟨out', So⟩, er2, er⟩ := Option.map_eq_some_iff.mp er
      cases er
      refine ⟨F3, _, ρ1, Sb, hk3, sl3.mono le3, y, Sy, em, fun v H4 F4 hk4 le4 rv => ?_⟩
      obtain ⟨_, _, oo, eo4, ro⟩ := hk4.own D _ _ updO_same
      cases ro with
      | @lst us _ hz r =>
        have hlen := Paired.length r
        have hsz := w.size
        refine ⟨us, eo4, by omega, by omega, F4, acc ++ [y], Sy, by simp; omega, ?_, ((le'.trans le2).trans le3).trans le4, out', er2, by rw [eo]; simp⟩
        have h5 := hk4.write (w' := none) (o := .lst (us ++ [v])) (d' := .lst (acc ++ [y])) updO_same (.lst (by simp; omega) (paired_app r (.cons rv .nil)))
        rw [updO_updO] at h5
        exact h5
    | false => exact ⟨by omega, F3, acc, Sb, by omega, hk3, (le'.trans le2).trans le3, rest, er, eo⟩
  · have e : i = ds.length := by omega
    subst e
    rw [List.drop_length] at er
    cases er
    refine .inl ⟨w.stops H F' _ _ hk' le' (cD _), ?_⟩
    rw [List.append_nil] at eo
    subst eo
    exact q D H F' hk' mD (le1.trans le')
theorem sf_lcC {tg elt iter : Expr} {ifs : List Expr} {scope : Scope} {own : List (Str × Nat)} {mi : MA} {is : List Nat} {g : MG} {t : MT} {m : ME} (hc : X.calm = true) (hN : X.N.Nodup) (hi : PI X tg iter (iC G mi)) (ok : BlkOk X.N X.env.scope scope own)
    (hg : ∀ (s : Shared) (H : Hp) (C : Addr) (cl : List (Str × Addr)) (fp : List Addr), PG (X.blk s H scope (compEnvC scope cl C X.env) fp) tg (eG G is g)) (ht : ∀ (s : Shared) (H : Hp) (C : Addr) (cl : List (Str × Addr)) (fp : List Addr), PTs (X.blk s H scope (compEnvC scope cl C X.env) fp) ifs (eT G t))
    (he : ∀ (s : Shared) (H : Hp) (C : Addr) (cl : List (Str × Addr)) (fp : List Addr), PE (X.blk s H scope (compEnvC scope cl C X.env) fp) elt (eE G m)) (hs : ∀ i ∈ is, i ∈ own.map (·.2)) (hf : ∀ x, foldedSetIterable iter X.env x = pure x := by intro _; rfl) :
    PE X (.ListComp elt [⟨tg, iter, ifs, 0⟩] scope pos) (eF G (mLc mi (own.map (·.2)) g t m)) := pe_imp (pe_lc hc hN hi ok hg ht he hf) (lc_imp hs)
theorem sf_lc {tg elt iter : Expr} {ifs : List Expr} {scope : Scope} {own : List (Str × Nat)} {mi : MA} {is : List Nat} {g : MG} {t : MT} {m : ME} (hc : X.calm = true) (hN : X.N.Nodup) (hi : PI X tg iter (iI G mi)) (ok : BlkOk X.N X.env.scope scope own)
    (hg : ∀ (s : Shared) (H : Hp) (C : Addr) (cl : List (Str × Addr)) (fp : List Addr), PG (X.blk s H scope (compEnvC scope cl C X.env) fp) tg (eG G is g)) (ht : ∀ (s : Shared) (H : Hp) (C : Addr) (cl : List (Str × Addr)) (fp : List Addr), PTs (X.blk s H scope (compEnvC scope cl C X.env) fp) ifs (eT G t))
    (he : ∀ (s : Shared) (H : Hp) (C : Addr) (cl : List (Str × Addr)) (fp : List Addr), PE (X.blk s H scope (compEnvC scope cl C X.env) fp) elt (eE G m)) (hs : ∀ i ∈ is, i ∈ own.map (·.2)) (hf : ∀ x, foldedSetIterable iter X.env x = pure x := by intro _; rfl) :
    PE X (.ListComp elt [⟨tg, iter, ifs, 0⟩] scope pos) (eF G (mLc mi (own.map (·.2)) g t m)) := sf_lcC hc hN (sc_of hi) ok hg ht he hs hf
end
end Dv
namespace Dv
open PySem PySem.Spec PyProof.Rows L2

inductive Fl where
  | nx | ct | bk
  | rt (d : D)
abbrev MS := Lo → Sg → Option (Fl × Lo × Sg)
def EndF (G : Gh) (D : Ends) (fl : Fl) (ρ : Lo) (H F : Hp) (M : OMap) : Prop := match fl with
  | .nx => ∀ σ, Slots G.K σ ρ F M → D.nx σ H
  | .ct => ∀ σ, Slots G.K σ ρ F M → D.ct σ H
  | .bk => ∀ σ, Slots G.K σ ρ F M → D.bk σ H
  | .rt d => ∀ v, Rep G.K F v d → D.rt v H
def sS (G : Gh) (m : MS) : TS := fun D σ H => ∃ F M ρ S, HeapOk G H F M S ∧ Slots G.K σ ρ F M ∧ ∃ fl ρ' S', m ρ S = some (fl, ρ', S') ∧
  ∀ H' F' M', HeapOk G H' F' M' S' → Le F F' → EndF G D fl ρ' H' F' M'
section
variable {G : Gh} {X : Cx} {e a b c o : Expr} {es : List Expr} {pos p2 : Pos} {st : Stmt} {sts : List Stmt}

/-! ### blocks -/
def sNil : MS := fun ρ S => some (.nx, ρ, S)
def sSq (m n : MS) : MS := fun ρ S => (m ρ S).bind fun p => match p.1 with
  | .nx => n p.2.1 p.2.2
  | _ => some p
theorem ss_nil : PSs X [] (sS G sNil) := pss_imp pss_nil fun D σ H ⟨F, M, ρ, S, hk, sl, fl, ρ', S', e, q⟩ => by
  cases e; exact q H F M hk (Same.refl F) σ sl
theorem ss_cons {m n : MS} (h : PS X st (sS G m)) (h' : PSs X sts (sS G n)) : PSs X (st :: sts) (sS G (sSq m n)) := pss_imp (pss_cons h h') fun D σ H ⟨F, M, ρ, S, hk, sl, fl, ρ', S', e, q⟩ => by
  obtain ⟨⟨f1, ρ1, S1⟩, e1, e⟩ := Option.bind_eq_some_iff.mp e
  refine ⟨F, M, ρ, S, hk, sl, f1, ρ1, S1, e1, fun H1 F1 M1 hk1 le1 => ?_⟩
  cases f1 with
  | nx => exact fun σ1 sl1 => ⟨F1, M1, ρ1, S1, hk1, sl1, fl, ρ', S', e, fun H2 F2 M2 hk2 le2 => q H2 F2 M2 hk2 (le1.trans le2)⟩
  | ct => cases e; exact q H1 F1 M1 hk1 le1
  | bk => cases e; exact q H1 F1 M1 hk1 le1
  | rt d => cases e; exact q H1 F1 M1 hk1 le1
theorem ss_one {m : MS} (h : PS X st (sS G m)) : PSs X [st] (sS G m) := pss_one h
def sNever : MS := fun _ _ => none
theorem ss_never : PS X st (sS G sNever) := ps_imp ps_never fun D σ H ⟨F, M, ρ, S, hk, sl, fl, ρ', S', e, q⟩ => by cases e
theorem sss_never : PSs X sts (sS G sNever) := pss_imp pss_never fun D σ H ⟨F, M, ρ, S, hk, sl, fl, ρ', S', e, q⟩ => by cases e
def sCt : MS := fun ρ S => some (.ct, ρ, S)
def sBk : MS := fun ρ S => some (.bk, ρ, S)
theorem ss_pass : PS X (.Pass pos) (sS G sNil) := ps_imp ps_pass fun D σ H ⟨F, M, ρ, S, hk, sl, fl, ρ', S', e, q⟩ => by
  cases e; exact q H F M hk (Same.refl F) σ sl
theorem ss_break : PS X (.Break pos) (sS G sBk) := ps_imp ps_break fun D σ H ⟨F, M, ρ, S, hk, sl, fl, ρ', S', e, q⟩ => by
  cases e; exact q H F M hk (Same.refl F) σ sl
theorem ss_continue : PS X (.Continue pos) (sS G sCt) := ps_imp ps_continue fun D σ H ⟨F, M, ρ, S, hk, sl, fl, ρ', S', e, q⟩ => by
  cases e; exact q H F M hk (Same.refl F) σ sl
def sIf (t : MT) (m n : MS) : MS := fun ρ S => (t ρ S).bind fun p => if p.1 then m ρ p.2 else n ρ p.2
theorem ss_if {t : MT} {m n : MS} {A B : List Stmt} (hc : PT X c (eT G t)) (ha : PSs X A (sS G m)) (hb : PSs X B (sS G n)) : PS X (.If c A B pos) (sS G (sIf t m n)) := ps_imp (ps_if hc ha hb) fun D σ H ⟨F, M, ρ, S, hk, sl, fl, ρ', S', e, q⟩ => by
  obtain ⟨⟨k, S1⟩, e1, e⟩ := Option.bind_eq_some_iff.mp e
  refine ⟨F, M, ρ, S, hk, sl, k, S1, e1, fun H' F' hk' le => ?_⟩
  cases k with
  | true => exact ⟨F', M, ρ, S1, hk', sl.mono le, fl, ρ', S', e, fun H2 F2 M2 hk2 le2 => q H2 F2 M2 hk2 (le.trans le2)⟩
  | false => exact ⟨F', M, ρ, S1, hk', sl.mono le, fl, ρ', S', e, fun H2 F2 M2 hk2 le2 => q H2 F2 M2 hk2 (le.trans le2)⟩
def sRet (m : ME) : MS := fun ρ S => (m ρ S).map fun p => (.rt p.1, ρ, p.2)
theorem ss_ret {m : ME} (h : PE X e (eE G m)) : PS X (.Return (some e) pos) (sS G (sRet m)) := ps_imp (ps_ret h) fun D σ H ⟨F, M, ρ, S, hk, sl, fl, ρ', S', e, q⟩ => by
  obtain ⟨⟨d, S1⟩, e1, e⟩ := Option.map_eq_some_iff.mp e
  cases e
  exact ⟨F, M, ρ, S, hk, sl, d, S1, e1, fun v H' F' hk' le r => q H' F' M hk' le v r⟩
/-- an owned object is frozen from here on -/
def frz (i : Nat) (ρ : Lo) : Lo := match ρ[i]? with
  | some (some (.own d)) => ρ.set i (some (.imm d))
  | _ => ρ
theorem frz_slots {σ : L2.St} {ρ : Lo} {H F : Hp} {M : OMap} {S : Sg} (i : Nat) (hk : HeapOk G H F M S) (sl : Slots G.K σ ρ F M) : ∃ F' M', HeapOk G H F' M' S ∧ Le F F' ∧ Slots G.K σ (frz i ρ) F' M' := by
  unfold frz
  split
  · rename_i d h
    obtain ⟨v, ev, a, rfl, em⟩ := sl.at_ _ _ h
    obtain ⟨o, eo, nf, ro, hk2⟩ := hk.freeze em
    refine ⟨_, _, hk2, le_upd nf, by rw [List.length_set]; exact sl.len, fun j l hj => ?_⟩
    by_cases hij : i = j
    · subst hij
      rw [List.getElem?_set_self (List.getElem?_eq_some_iff.mp h).1] at hj
      cases hj
      exact ⟨_, ev, (ro.mono (le_upd nf)).rep upd_same⟩
    · rw [List.getElem?_set_ne hij] at hj
      obtain ⟨w, ew, rw'⟩ := sl.at_ _ _ hj
      refine ⟨w, ew, ?_⟩
      cases l with
      | imm d => exact Rep.mono (le_upd nf) rw'
      | own d =>
        obtain ⟨a2, e2, m2⟩ := rw'
        refine ⟨a2, e2, ?_⟩
        rw [dropO_ne (fun z => by rw [z, em] at m2; cases m2; exact hij rfl)]
        exact m2
  · exact ⟨F, M, hk, Same.refl F, sl⟩
def sFrz (i : Nat) (m : MS) : MS := fun ρ S => m (frz i ρ) S
theorem ss_frz (i : Nat) {m : MS} (h : PS X st (sS G m)) : PS X st (sS G (sFrz i m)) := ps_imp h fun D σ H ⟨F, M, ρ, S, hk, sl, fl, ρ', S', e, q⟩ => by
  obtain ⟨F1, M1, hk1, le1, sl1⟩ := frz_slots i hk sl
  exact ⟨F1, M1, _, S, hk1, sl1, fl, ρ', S', e, fun H2 F2 M2 hk2 le2 => q H2 F2 M2 hk2 (le1.trans le2)⟩
theorem sss_frz (i : Nat) {m : MS} (h : PSs X sts (sS G m)) : PSs X sts (sS G (sFrz i m)) := pss_imp h fun D σ H ⟨F, M, ρ, S, hk, sl, fl, ρ', S', e, q⟩ => by
  obtain ⟨F1, M1, hk1, le1, sl1⟩ := frz_slots i hk sl
  exact ⟨F1, M1, _, S, hk1, sl1, fl, ρ', S', e, fun H2 F2 M2 hk2 le2 => q H2 F2 M2 hk2 (le1.trans le2)⟩

/-! ### stores -/
def sSet (i : Nat) (m : ME) : MS := fun ρ S => (m ρ S).map fun p => (.nx, ρ.set i (some (.imm p.1)), p.2)
theorem set_imp {i : Nat} {m : ME} : ∀ D σ H, sS G (sSet i m) D σ H → tAsg (eE G m) (gName i) D σ H := fun D σ H ⟨F, M, ρ, S, hk, sl, fl, ρ', S', e, q⟩ => by
  obtain ⟨⟨d, S1⟩, e1, e⟩ := Option.map_eq_some_iff.mp e
  cases e
  exact ⟨F, M, ρ, S, hk, sl, d, S1, e1, fun v H' F' hk' le r => q H' F' M hk' le _ ((sl.mono le).set (l := .imm d) r)⟩
def sSetF (i : Nat) (m : ME) : MS := fun ρ S => (m ρ S).map fun p => (.nx, ρ.set i (some (.own p.1)), p.2)
theorem slots_own {σ : L2.St} {ρ : Lo} {F : Hp} {M : OMap} {i : Nat} {x : Addr} {d : D} {w : Option Nat} (sl : Slots G.K σ ρ F M) (n : M x = none ∨ M x = some (none, d)) : Slots G.K (σ.set i (some (.ref x))) (ρ.set i (some (.own d))) F (updO M x (some i, d)) := by
  have sl2 : Slots G.K σ ρ F (updO M x (some i, d)) := ⟨sl.len, fun j l h => by
    obtain ⟨v, ev, r⟩ := sl.at_ _ _ h
    refine ⟨v, ev, ?_⟩
    cases l with
    | imm d => exact r
    | own d =>
      obtain ⟨a, ea, em⟩ := r
      refine ⟨a, ea, ?_⟩
      rw [updO_ne (fun z => by
        rw [z] at em
        rcases n with n | n
        · rw [n] at em; cases em
        · rw [n] at em; cases em)]
      exact em⟩
  exact sl2.set (l := .own d) ⟨x, rfl, updO_same⟩
theorem setF_imp {i : Nat} {m : ME} : ∀ D σ H, sS G (sSetF i m) D σ H → tAsg (eF G m) (gName i) D σ H := fun D σ H ⟨F, M, ρ, S, hk, sl, fl, ρ', S', e, q⟩ => by
  obtain ⟨⟨d, S1⟩, e1, e⟩ := Option.map_eq_some_iff.mp e
  cases e
  refine ⟨F, M, ρ, S, hk, sl, d, S1, e1, fun x H' F' hk' n le => ?_⟩
  have h2 := hk'.give (some i) updO_same
  rw [updO_updO] at h2
  exact q H' F' _ h2 le _ (slots_own (w := none) (sl.mono le) (.inl n))
theorem ss_set {i : Nat} {m : ME} (h : PS X st (tAsg (eE G m) (gName i))) : PS X st (sS G (sSet i m)) := ps_imp h set_imp
theorem ss_setF {i : Nat} {m : ME} (h : PS X st (tAsg (eF G m) (gName i))) : PS X st (sS G (sSetF i m)) := ps_imp h setF_imp
/-- targets = value -/
def sAsg (m : ME) (g : MG) : MS := fun ρ S => (m ρ S).bind fun p => (g p.1 ρ).map fun ρ' => (.nx, ρ', p.2)
theorem ss_asg {is : List Nat} {g : MG} {m : ME} (h : PS X st (tAsg (eE G m) (eG G is g))) : PS X st (sS G (sAsg m g)) := ps_imp h fun D σ H ⟨F, M, ρ, S, hk, sl, fl, ρ', S', e, q⟩ => by
  obtain ⟨⟨d, S1⟩, e1, e⟩ := Option.bind_eq_some_iff.mp e
  obtain ⟨ρ1, e2, e⟩ := Option.map_eq_some_iff.mp e
  cases e
  exact ⟨F, M, ρ, S, hk, sl, d, S1, e1, fun v H' F' hk' le r => ⟨F', M, ρ, S1, d, hk', sl.mono le, r, _, e2, fun σ' sl' _ _ => q H' F' M hk' le σ' sl'⟩⟩
/-- x, y = e1, e2 -/
def eX (G : Gh) : Bool → ME → TE
  | true => eF G
  | false => eE G
def mkL : Bool → D → LV
  | true => .own
  | false => .imm
/-- a value that came: frozen, or owned by nobody yet -/
def XR (K : PySem.W.Frag) (F : Hp) (M : OMap) (x : V) (d : D) : Bool → Prop
  | true => ∃ a, x = .ref a ∧ M a = some (none, d)
  | false => Rep K F x d
/-- what one of several right sides leaves -/
theorem ex_run {k : Bool} {m : ME} {σ : L2.St} {H : Hp} {R : V → Hp → Prop} {F : Hp} {M : OMap} {ρ : Lo} {S : Sg} (hk : HeapOk G H F M S) (sl : Slots G.K σ ρ F M) {d : D} {S1 : Sg} (e : m ρ S = some (d, S1))
    (h : ∀ x H' F' M', HeapOk G H' F' M' S1 → Le F F' → Slots G.K σ ρ F' M' → (∀ a y, M a = some y → M' a = some y) → (match k with | true => ∃ a, x = .ref a ∧ M' a = some (none, d) ∧ M a = none | false => Rep G.K F' x d) → R x H') : eX G k m σ H R := by
  cases k with
  | false => exact ⟨F, M, ρ, S, hk, sl, d, S1, e, fun v H' F' hk' le r => h v H' F' M hk' le (sl.mono le) (fun _ _ z => z) r⟩
  | true =>
    refine ⟨F, M, ρ, S, hk, sl, d, S1, e, fun x H' F' hk' n le => h _ H' F' _ hk' le ?_ (fun b y z => ?_) ⟨x, rfl, updO_same, n⟩⟩
    · have s0 := sl.mono le
      refine ⟨s0.len, fun j l hj => ?_⟩
      obtain ⟨v, ev, r⟩ := s0.at_ _ _ hj
      refine ⟨v, ev, ?_⟩
      cases l with
      | imm d => exact r
      | own d =>
        obtain ⟨a, ea, em⟩ := r
        exact ⟨a, ea, by rw [updO_ne (fun z => by rw [z, n] at em; cases em)]; exact em⟩
    · rw [updO_ne (fun w => by rw [w, n] at z; cases z)]; exact z
/-- a value that came is stored in slot i -/
theorem ex_store {k : Bool} {σ : L2.St} {ρ : Lo} {H F : Hp} {M : OMap} {S : Sg} {x : V} {d : D} (i : Nat) (hk : HeapOk G H F M S) (sl : Slots G.K σ ρ F M) (r : XR G.K F M x d k) :
    ∃ M', HeapOk G H F M' S ∧ Slots G.K (σ.set i (some x)) (ρ.set i (some (mkL k d))) F M' ∧ ∀ b y, M b = some y → (∀ a, x = .ref a → k = true → b ≠ a) → M' b = some y := by
  cases k with
  | false => exact ⟨M, hk, sl.set (l := .imm d) r, fun _ _ z _ => z⟩
  | true =>
    obtain ⟨a, rfl, em⟩ := r
    exact ⟨_, hk.give (some i) em, slots_own (w := none) sl (.inr em), fun b y z n => by rw [updO_ne (n a rfl rfl)]; exact z⟩
def sPar2 (i j : Nat) (k1 : Bool) (m1 : ME) (k2 : Bool) (m2 : ME) : MS := fun ρ S => (m1 ρ S).bind fun p => (m2 ρ p.2).map fun q => (.nx, (ρ.set i (some (mkL k1 p.1))).set j (some (mkL k2 q.1)), q.2)
theorem par2_imp {i j : Nat} {k1 k2 : Bool} {m1 m2 : ME} : ∀ D σ H, sS G (sPar2 i j k1 m1 k2 m2) D σ H → tPar i j (tCons (eX G k1 m1) (tCons (eX G k2 m2) tNil)) D σ H := fun D σ H ⟨F, M, ρ, S, hk, sl, fl, ρ', S', e, q⟩ => by
  obtain ⟨⟨d1, S1⟩, e1, e⟩ := Option.bind_eq_some_iff.mp e
  obtain ⟨⟨d2, S2⟩, e2, e⟩ := Option.map_eq_some_iff.mp e
  cases e
  refine ex_run hk sl e1 fun x H1 F1 M1 hk1 le1 sl1 sub1 r1 => ex_run hk1 sl1 e2 fun y H2 F2 M2 hk2 le2 sl2 sub2 r2 => ⟨x, y, rfl, ?_⟩
  have r1' : XR G.K F2 M2 x d1 k1 := by
    cases k1 with
    | true => obtain ⟨a, ea, em, _⟩ := r1; exact ⟨a, ea, sub2 _ _ em⟩
    | false => exact Rep.mono le2 r1
  obtain ⟨M3, hk3, sl3, sub3⟩ := ex_store i hk2 sl2 r1'
  have r2' : XR G.K F2 M3 y d2 k2 := by
    cases k2 with
    | true =>
      obtain ⟨a, ea, em, n⟩ := r2
      refine ⟨a, ea, sub3 _ _ em fun b eb hk => ?_⟩
      subst hk
      obtain ⟨a1, ea1, em1, _⟩ := r1
      rw [eb] at ea1; cases ea1
      intro z
      rw [z, em1] at n; cases n
    | false => exact r2
  obtain ⟨M4, hk4, sl4, _⟩ := ex_store j hk3 sl3 r2'
  exact q H2 F2 M4 hk4 (le1.trans le2) _ sl4
theorem ss_par2 {i j : Nat} {k1 k2 : Bool} {m1 m2 : ME} (h : PS X st (tPar i j (tCons (eX G k1 m1) (tCons (eX G k2 m2) tNil)))) : PS X st (sS G (sPar2 i j k1 m1 k2 m2)) := ps_imp h par2_imp
def sPar3 (i j l : Nat) (k1 : Bool) (m1 : ME) (k2 : Bool) (m2 : ME) (k3 : Bool) (m3 : ME) : MS := fun ρ S => (m1 ρ S).bind fun p => (m2 ρ p.2).bind fun q => (m3 ρ q.2).map fun r => (.nx, ((ρ.set i (some (mkL k1 p.1))).set j (some (mkL k2 q.1))).set l (some (mkL k3 r.1)), r.2)
theorem par3_imp {i j l : Nat} {k1 k2 k3 : Bool} {m1 m2 m3 : ME} : ∀ D σ H, sS G (sPar3 i j l k1 m1 k2 m2 k3 m3) D σ H → tPar3 i j l (tCons (eX G k1 m1) (tCons (eX G k2 m2) (tCons (eX G k3 m3) tNil))) D σ H := fun D σ H ⟨F, M, ρ, S, hk, sl, fl, ρ', S', e, q⟩ => by
  obtain ⟨⟨d1, S1⟩, e1, e⟩ := Option.bind_eq_some_iff.mp e
  obtain ⟨⟨d2, S2⟩, e2, e⟩ := Option.bind_eq_some_iff.mp e
  obtain ⟨⟨d3, S3⟩, e3, e⟩ := Option.map_eq_some_iff.mp e
  cases e
  refine ex_run hk sl e1 fun x H1 F1 M1 hk1 le1 sl1 sub1 r1 => ex_run hk1 sl1 e2 fun y H2 F2 M2 hk2 le2 sl2 sub2 r2 => ex_run hk2 sl2 e3 fun z H3 F3 M3 hk3 le3 sl3 sub3 r3 => ⟨x, y, z, rfl, ?_⟩
  have r1' : XR G.K F3 M3 x d1 k1 := by
    cases k1 with
    | true => obtain ⟨a, ea, em, _⟩ := r1; exact ⟨a, ea, sub3 _ _ (sub2 _ _ em)⟩
    | false => exact Rep.mono le3 (Rep.mono le2 r1)
  obtain ⟨M4, hk4, sl4, sub4⟩ := ex_store i hk3 sl3 r1'
  have r2' : XR G.K F3 M4 y d2 k2 := by
    cases k2 with
    | true =>
      obtain ⟨a, ea, em, n⟩ := r2
      refine ⟨a, ea, sub4 _ _ (sub3 _ _ em) fun b eb hk => ?_⟩
      subst hk
      obtain ⟨a1, ea1, em1, _⟩ := r1
      rw [eb] at ea1; cases ea1
      intro z
      rw [z, em1] at n; cases n
    | false => exact Rep.mono le3 r2
  obtain ⟨M5, hk5, sl5, sub5⟩ := ex_store j hk4 sl4 r2'
  have r3' : XR G.K F3 M5 z d3 k3 := by
    cases k3 with
    | true =>
      obtain ⟨a, ea, em, n⟩ := r3
      refine ⟨a, ea, sub5 _ _ (sub4 _ _ em fun b eb hk => ?_) fun b eb hk => ?_⟩
      · subst hk
        obtain ⟨a1, ea1, em1, _⟩ := r1
        rw [eb] at ea1; cases ea1
        intro z
        rw [z, sub2 _ _ em1] at n; cases n
      · subst hk
        obtain ⟨a1, ea1, em1, _⟩ := r2
        rw [eb] at ea1; cases ea1
        intro z
        rw [z, em1] at n; cases n
    | false => exact r3
  obtain ⟨M6, hk6, sl6, _⟩ := ex_store l hk5 sl5 r3'
  exact q H3 F3 M6 hk6 ((le1.trans le2).trans le3) _ sl6
theorem ss_par3 {i j l : Nat} {k1 k2 k3 : Bool} {m1 m2 m3 : ME} (h : PS X st (tPar3 i j l (tCons (eX G k1 m1) (tCons (eX G k2 m2) (tCons (eX G k3 m3) tNil))))) : PS X st (sS G (sPar3 i j l k1 m1 k2 m2 k3 m3)) := ps_imp h par3_imp

/-! ### an owned list changed -/
theorem slots_write {σ : L2.St} {ρ : Lo} {F : Hp} {M : OMap} {i : Nat} {d0 d : D} {x : Addr} (sl : Slots G.K σ ρ F M) (hi : ρ[i]? = some (some (.own d0))) (ev : σ[i]? = some (some (.ref x))) (em : M x = some (some i, d0)) : Slots G.K σ (ρ.set i (some (.own d))) F (updO M x (some i, d)) := by
  refine ⟨by rw [List.length_set]; exact sl.len, fun j l hj => ?_⟩
  by_cases hij : i = j
  · subst hij
    rw [List.getElem?_set_self (List.getElem?_eq_some_iff.mp hi).1] at hj
    cases hj
    exact ⟨_, ev, x, rfl, updO_same⟩
  · rw [List.getElem?_set_ne hij] at hj
    obtain ⟨w, ew, rw'⟩ := sl.at_ _ _ hj
    refine ⟨w, ew, ?_⟩
    cases l with
    | imm d => exact rw'
    | own d =>
      obtain ⟨a2, e2, m2⟩ := rw'
      exact ⟨a2, e2, by rw [updO_ne (fun z => by rw [z, em] at m2; cases m2; exact hij rfl)]; exact m2⟩
def sApp (i : Nat) (m : ME) : MS := fun ρ S => match ρ[i]? with
  | some (some (.own (.lst ds))) => (m ρ S).bind fun p => if ds.length < 1000000 then some (.nx, ρ.set i (some (.own (.lst (ds ++ [p.1])))), p.2) else none
  | _ => none
theorem line1e6 {n : Nat} (h : n < 1000000) : n < sizeLine := Nat.lt_of_lt_of_le h (by decide)
theorem ss_app {i : Nat} {m : ME} (h : PS X st (tDrop (tBM G.K "list" rAppend (tVar i) (tCons (eE G m) tNil)))) : PS X st (sS G (sApp i m)) := ps_imp h fun D σ H ⟨F, M, ρ, S, hk, sl, fl, ρ', S', e, q⟩ => by
  unfold sApp at e
  split at e
  · rename_i ds hi
    obtain ⟨⟨d, S1⟩, e1, e⟩ := Option.bind_eq_some_iff.mp e
    split at e
    · rename_i hz
      cases e
      obtain ⟨v, ev, x, rfl, em⟩ := sl.at_ _ _ hi
      obtain ⟨_, _, oo, eo, ro⟩ := hk.own _ _ _ em
      cases ro with
      | lst _ r =>
        refine ⟨_, ev, .inl ⟨rfl, _, .of eo⟩, F, M, ρ, S, hk, sl, d, S1, e1, fun y H1 F1 hk1 le1 ry => ?_⟩
        obtain ⟨_, _, oo, eo, ro⟩ := hk1.own _ _ _ em
        cases ro with
        | @lst us _ hz' r =>
          have hl := Paired.length r
          refine ⟨x, us, y, rfl, rfl, eo, by rw [hl]; exact line1e6 hz, ?_⟩
          exact q _ F1 _ (hk1.write (w' := some i) (o := .lst (us ++ [y])) (d' := .lst (ds ++ [d])) em (.lst (by rw [List.length_append]; exact line1e6 hz) (paired_app r (.cons ry .nil)))) le1 _ (slots_write (sl.mono le1) hi ev em)
    · cases e
  · cases e
def sExt (i : Nat) (m : ME) : MS := fun ρ S => match ρ[i]? with
  | some (some (.own (.lst ds))) => (m ρ S).bind fun p => match p.1 with
    | .lst es => if ds.length + es.length ≤ 1000000 then some (.nx, ρ.set i (some (.own (.lst (ds ++ es)))), p.2) else none
    | _ => none
  | _ => none
theorem ss_ext {i : Nat} {m : ME} (h : PS X st (tDrop (tBM G.K "list" rExtend (tVar i) (tCons (eE G m) tNil)))) : PS X st (sS G (sExt i m)) := ps_imp h fun D σ H ⟨F, M, ρ, S, hk, sl, fl, ρ', S', e, q⟩ => by
  unfold sExt at e
  split at e
  · rename_i ds hi
    obtain ⟨⟨d, S1⟩, e1, e⟩ := Option.bind_eq_some_iff.mp e
    split at e
    · rename_i es ed
      split at e
      · rename_i hz
        cases e
        have ed : d = .lst es := ed
        subst ed
        obtain ⟨v, ev, x, rfl, em⟩ := sl.at_ _ _ hi
        obtain ⟨_, _, oo, eo, ro⟩ := hk.own _ _ _ em
        cases ro with
        | lst _ r =>
          refine ⟨_, ev, .inl ⟨rfl, _, .of eo⟩, F, M, ρ, S, hk, sl, _, S1, e1, fun y H1 F1 hk1 le1 ry => ?_⟩
          obtain ⟨_, _, oo, eo, ro⟩ := hk1.own _ _ _ em
          obtain ⟨ya, ys, rfl, eya, ry⟩ := ry.unlst
          cases ro with
          | @lst us _ hz' r =>
            have hl := Paired.length r
            have hl2 := Paired.length ry
            have h6 : ds.length + es.length ≤ sizeLine := Nat.le_trans hz (by decide)
            refine ⟨x, ya, us, ys, rfl, rfl, eo, hk1.sub _ _ eya, by rw [hl, hl2]; exact h6, ?_⟩
            exact q _ F1 _ (hk1.write (w' := some i) (o := .lst (us ++ ys)) (d' := .lst (ds ++ es)) em (.lst (by rw [List.length_append]; exact h6) (paired_app r ry))) le1 _ (slots_write (sl.mono le1) hi ev em)
      · cases e
    · cases e
  · cases e
/-- tgt = x.pop() -/
def sPop (i : Nat) (g : MG) : MS := fun ρ S => match ρ[i]? with
  | some (some (.own (.lst ds))) => match ds.getLast? with
    | some d => (g d (ρ.set i (some (.own (.lst ds.dropLast))))).map fun ρ' => (.nx, ρ', S)
    | none => none
  | _ => none
theorem ss_pop {i : Nat} {is : List Nat} {g : MG} (h : PS X st (tAsg (tBM0 G.K "list" rPop (tVar i)) (eG G is g))) : PS X st (sS G (sPop i g)) := ps_imp h fun D σ H ⟨F, M, ρ, S, hk, sl, fl, ρ', S', e, q⟩ => by
  unfold sPop at e
  split at e
  · rename_i ds hi
    split at e
    · rename_i d hd
      obtain ⟨ρ1, e1, e⟩ := Option.map_eq_some_iff.mp e
      cases e
      obtain ⟨v, ev, x, rfl, em⟩ := sl.at_ _ _ hi
      obtain ⟨_, _, oo, eo, ro⟩ := hk.own _ _ _ em
      cases ro with
      | @lst us _ hz r =>
        have hl := Paired.length r
        have hd2 : ds[us.length - 1]? = some d := by rw [hl, ← List.getLast?_eq_getElem?]; exact hd
        obtain ⟨y, ey, ry⟩ := paired_get' r hd2
        refine ⟨_, ev, .inl ⟨rfl, _, .of eo⟩, x, us, y, rfl, rfl, eo, ey, ?_⟩
        have hk2 := hk.write (w' := some i) (o := .lst us.dropLast) (d' := .lst ds.dropLast) em (.lst (by rw [List.length_dropLast]; omega) (paired_dropLast r))
        exact ⟨F, _, _, S, d, hk2, slots_write sl hi ev em, ry, _, e1, fun σ' sl' _ _ => q _ F _ hk2 (Same.refl F) σ' sl'⟩
    · cases e
  · cases e
/-- x[k] = e -/
def sIx (i : Nat) (m : ME) (mk : ME) : MS := fun ρ S => match ρ[i]? with
  | some (some (.own (.lst ds))) => (m ρ S).bind fun p => (mk ρ p.2).bind fun q => match q.1 with
    | .int k => (ixN ds.length k).map fun j => (.nx, ρ.set i (some (.own (.lst (ds.set j p.1)))), q.2)
    | _ => none
  | _ => none
theorem ss_ix {i : Nat} {m mk : ME} (h : PS X st (tAsg (eE G m) (gSub (tVar i) (eE G mk) rSetL))) : PS X st (sS G (sIx i m mk)) := ps_imp h fun D σ H ⟨F, M, ρ, S, hk, sl, fl, ρ', S', e, q⟩ => by
  unfold sIx at e
  split at e
  · rename_i ds hi
    obtain ⟨⟨d, S1⟩, e1, e⟩ := Option.bind_eq_some_iff.mp e
    obtain ⟨⟨dk, S2⟩, e2, e⟩ := Option.bind_eq_some_iff.mp e
    cases dk with
    | int k =>
      obtain ⟨j, ej, e⟩ := Option.map_eq_some_iff.mp e
      cases e
      refine ⟨F, M, ρ, S, hk, sl, d, S1, e1, fun y H1 F1 hk1 le1 ry => ?_⟩
      obtain ⟨v, ev, x, rfl, em⟩ := sl.at_ _ _ hi
      refine ⟨_, ev, F1, M, ρ, S1, hk1, sl.mono le1, _, S2, e2, fun w H2 F2 hk2 le2 rw' => ?_⟩
      cases rw'
      obtain ⟨_, _, oo, eo, ro⟩ := hk2.own _ _ _ em
      cases ro with
      | @lst us _ hz r =>
        have hl := Paired.length r
        refine ⟨x, us, k, j, rfl, rfl, eo, by rw [hl]; exact ej, ?_⟩
        exact q _ F2 _ (hk2.write (w' := some i) (o := .lst (us.set j y)) (d' := .lst (ds.set j d)) em (.lst (by rw [List.length_set]; exact hz) (paired_set (ry.mono le2) j r))) (le1.trans le2) _ (slots_write ((sl.mono le1).mono le2) hi ev em)
    | _ => cases e
  · cases e

/-! ### loops -/
def forGo (g : MG) (m : MS) : List D → Lo → Sg → Option (Fl × Lo × Sg)
  | [], ρ, S => some (.nx, ρ, S)
  | d :: r, ρ, S => (g d ρ).bind fun ρ1 => (m ρ1 S).bind fun p => match p.1 with
    | .nx => forGo g m r p.2.1 p.2.2
    | .ct => forGo g m r p.2.1 p.2.2
    | .bk => some (.nx, p.2.1, p.2.2)
    | .rt d => some (.rt d, p.2.1, p.2.2)
def sFor (mi : MA) (g : MG) (m : MS) : MS := fun ρ S => (mi ρ S).bind fun p => forGo g m p.1 ρ p.2
theorem ss_for {mi : MA} {is : List Nat} {g : MG} {m : MS} (h : PS X st (tFor (iI G mi) (eG G is g) (sS G m))) : PS X st (sS G (sFor mi g m)) := ps_imp h fun D σ H ⟨F, M, ρ, S, hk, sl, fl, ρ', S', e, q⟩ => by
  obtain ⟨⟨ds, S1⟩, e1, e⟩ := Option.bind_eq_some_iff.mp e
  refine ⟨F, M, ρ, S, hk, sl, ds, S1, e1, fun J H1 F1 hk1 le1 w => ?_⟩
  refine ⟨fun i n σ H => n = ds.length - i ∧ i ≤ ds.length ∧ ∃ F' M' ρi Si, HeapOk G H F' M' Si ∧ Le F1 F' ∧ Slots G.K σ ρi F' M' ∧ forGo g m (ds.drop i) ρi Si = some (fl, ρ', S'),
    ⟨ds.length, by omega, by omega, F1, M, ρ, S1, hk1, Same.refl F1, sl.mono le1, by simpa using e⟩, ?_⟩
  rintro i n σ H ⟨rfl, hi, F', M', ρi, Si, hk', le', sl', er⟩
  by_cases hlt : i < ds.length
  · refine .inr ⟨w.goes i H hlt (le'.trans hk'.sub), fun σ H => i + 1 ≤ ds.length ∧ ∃ F' M' ρi Si, HeapOk G H F' M' Si ∧ Le F1 F' ∧ Slots G.K σ ρi F' M' ∧ forGo g m (ds.drop (i + 1)) ρi Si = some (fl, ρ', S'),
      fun σ' H' hN => ⟨ds.length - (i + 1), by omega, rfl, hN⟩, fun x H' y => ?_⟩
    obtain ⟨F2, dd, hk2, le2, ed, rx⟩ := w.yields i H x H' F' _ Si hlt hk' le' y
    have edr : ds.drop i = dd :: ds.drop (i + 1) := by
      rw [List.drop_eq_getElem_cons hlt]
      congr
      exact Option.some.inj ((List.getElem?_eq_getElem hlt).symm.trans ed)
    rw [edr] at er
    obtain ⟨ρ1, eg, er⟩ := Option.bind_eq_some_iff.mp er
    obtain ⟨⟨f2, ρ2, S2⟩, em, er⟩ := Option.bind_eq_some_iff.mp er
    refine ⟨F2, M', ρi, Si, dd, hk2, sl'.mono le2, rx, ρ1, eg, fun σ1 sl1 _ _ => ⟨F2, M', ρ1, Si, hk2, sl1, f2, ρ2, S2, em, fun H3 F3 M3 hk3 le3 => ?_⟩⟩
    cases f2 with
    | nx => exact fun σ3 sl3 => ⟨hlt, F3, M3, ρ2, S2, hk3, (le'.trans le2).trans le3, sl3, er⟩
    | ct => exact fun σ3 sl3 => ⟨hlt, F3, M3, ρ2, S2, hk3, (le'.trans le2).trans le3, sl3, er⟩
    | bk => cases er; exact q H3 F3 M3 hk3 (le1.trans ((le'.trans le2).trans le3))
    | rt d => cases er; exact q H3 F3 M3 hk3 (le1.trans ((le'.trans le2).trans le3))
  · have e : i = ds.length := by omega
    subst e
    rw [List.drop_length] at er
    cases er
    exact .inl ⟨w.stops H (le'.trans hk'.sub), q H F' M' hk' (le1.trans le') σ sl'⟩
def whN (t : MT) (m : MS) : Nat → Lo → Sg → Option (Fl × Lo × Sg)
  | 0, _, _ => none
  | n + 1, ρ, S => (t ρ S).bind fun p => if p.1 then (m ρ p.2).bind fun q => match q.1 with
      | .nx => whN t m n q.2.1 q.2.2
      | .ct => whN t m n q.2.1 q.2.2
      | .bk => some (.nx, q.2.1, q.2.2)
      | .rt d => some (.rt d, q.2.1, q.2.2)
    else some (.nx, ρ, p.2)
open Classical in
/-- a while that ends -/
noncomputable def sWh (t : MT) (m : MS) : MS := fun ρ S => if h : ∃ r n, whN t m n ρ S = some r then some (Classical.choose h) else none
theorem whN_mono {t : MT} {m : MS} : ∀ {n k : Nat} {ρ S r}, n ≤ k → whN t m n ρ S = some r → whN t m k ρ S = some r
  | 0, _, _, _, _, _, h => by cases h
  | n + 1, 0, _, _, _, hk, _ => by omega
  | n + 1, k + 1, ρ, S, r, hk, h => by
    unfold whN at h ⊢
    obtain ⟨⟨b, S1⟩, e1, h⟩ := Option.bind_eq_some_iff.mp h
    rw [e1]
    show (if b = true then _ else _) = _
    cases b with
    | false => exact h
    | true =>
      obtain ⟨⟨f, ρ1, S2⟩, e2, h⟩ := Option.bind_eq_some_iff.mp h
      show (m ρ S1).bind _ = _
      rw [e2]
      cases f with
      | nx => exact whN_mono (Nat.le_of_succ_le_succ hk) h
      | ct => exact whN_mono (Nat.le_of_succ_le_succ hk) h
      | bk => exact h
      | rt d => exact h
theorem sWh_of {t : MT} {m : MS} {n : Nat} {ρ S r} (h : whN t m n ρ S = some r) : sWh t m ρ S = some r := by
  unfold sWh
  have hx : ∃ r n, whN t m n ρ S = some r := ⟨r, n, h⟩
  rw [dif_pos hx]
  obtain ⟨k, hk⟩ := Classical.choose_spec hx
  rcases Nat.le_total n k with l | l
  · rw [whN_mono l h] at hk; exact hk.symm
  · rw [whN_mono l hk] at h; exact h
theorem ss_while {t : MT} {m : MS} (h : PS X st (tWhile (eT G t) (sS G m))) : PS X st (sS G (sWh t m)) := ps_imp h fun D σ H ⟨F, M, ρ, S, hk, sl, fl, ρ', S', e, q⟩ => by
  unfold sWh at e
  split at e
  · rename_i hx
    obtain ⟨k, hk0⟩ := Classical.choose_spec hx
    rw [Option.some.inj e] at hk0
    refine ⟨fun n σ H => ∃ F' M' ρi Si, HeapOk G H F' M' Si ∧ Le F F' ∧ Slots G.K σ ρi F' M' ∧ whN t m n ρi Si = some (fl, ρ', S'), ⟨k, F, M, ρ, S, hk, Same.refl F, sl, hk0⟩, ?_⟩
    rintro n σ H ⟨F', M', ρi, Si, hk', le', sl', er⟩
    cases n with
    | zero => cases er
    | succ n =>
      unfold whN at er
      obtain ⟨⟨b, S1⟩, e1, er⟩ := Option.bind_eq_some_iff.mp er
      refine ⟨F', M', ρi, Si, hk', sl', b, S1, e1, fun H2 F2 hk2 le2 => ?_⟩
      cases b with
      | false => cases er; exact q H2 F2 M' hk2 (le'.trans le2) σ (sl'.mono le2)
      | true =>
        obtain ⟨⟨f2, ρ2, S2⟩, em, er⟩ := Option.bind_eq_some_iff.mp er
        refine ⟨fun σ H => ∃ F' M' ρi Si, HeapOk G H F' M' Si ∧ Le F F' ∧ Slots G.K σ ρi F' M' ∧ whN t m n ρi Si = some (fl, ρ', S'), fun σ' H' hN => ⟨n, by omega, hN⟩, F2, M', ρi, S1, hk2, sl'.mono le2, f2, ρ2, S2, em, fun H3 F3 M3 hk3 le3 => ?_⟩
        cases f2 with
        | nx => exact fun σ3 sl3 => ⟨F3, M3, ρ2, S2, hk3, (le'.trans le2).trans le3, sl3, er⟩
        | ct => exact fun σ3 sl3 => ⟨F3, M3, ρ2, S2, hk3, (le'.trans le2).trans le3, sl3, er⟩
        | bk => cases er; exact q H3 F3 M3 hk3 ((le'.trans le2).trans le3)
        | rt d => cases er; exact q H3 F3 M3 hk3 ((le'.trans le2).trans le3)
  · cases e
end
end Dv
namespace Dv
open PySem PySem.Spec PyProof.Rows L2

/-! ### defs as functions of data -/
def startL (n : Nat) (ds : List D) : Lo := ds.map (fun d => some (.imm d)) ++ List.replicate (n - ds.length) none
def outF : Fl × Lo × Sg → Option (D × Sg)
  | (.rt d, _, S) => some (d, S)
  | (.nx, _, S) => some (.non, S)
  | _ => none
/-- a def of k parameters and n names -/
def runP (k n : Nat) (m : MS) (ds : List D) : Option D := if ds.length = k then (m (startL n ds) none).bind fun p => (outF p).map (·.1) else none
def runR (k n : Nat) (m : MS) (ds : List D) (r : Rng) : Option (D × Rng) := if ds.length = k then (m (startL n ds) (some r)).bind fun p => (outF p).bind fun q => match q.2 with
  | some r' => if r'.at_ = r.at_ ∧ r'.gA = r.gA then some (q.1, r') else none
  | none => none
  else none
def Ar (k : Nat) (f : List D → Option D) : Prop := ∀ ds d, f ds = some d → ds.length = k
def ArR (k : Nat) (f : List D → Rng → Option (D × Rng)) : Prop := ∀ ds r d, f ds r = some d → ds.length = k
theorem runP_ar {k n : Nat} {m : MS} : Ar k (runP k n m) := fun ds d h => by
  unfold runP at h
  split at h
  · assumption
  · cases h
theorem runR_ar {k n : Nat} {m : MS} : ArR k (runR k n m) := fun ds r d h => by
  unfold runR at h
  split at h
  · assumption
  · cases h
/-- the promise of a def without draws -/
def spP (K : PySem.W.Frag) (f : List D → Option D) : Sp := fun vs H Q E => ∃ F ds d, Le F H ∧ RepL K F vs ds ∧ f ds = some d ∧
  ∀ v H' F', Same H H' → (∀ a, H' a = none → H a = none) → Le F F' → Le F' H' → (∀ a o, F' a = some o → NewOk F H a o) → Rep K F' v d → Q v H'
/-- .. of a def that draws -/
def spR (K : PySem.W.Frag) (f : List D → Rng → Option (D × Rng)) : Sp := fun vs H Q E => ∃ F ds r d r', Le F H ∧ RepL K F vs ds ∧ RngAt K H F r ∧ f ds r = some (d, r') ∧
  ∀ v H' F', (∀ a o, H a = some o → a ≠ r.at_ → a ≠ r.gA → H' a = some o) → (∀ a, H' a = none → H a = none) → Le F F' → Le F' H' → (∀ a o, F' a = some o → NewOk F H a o) → RngAt K H' F' r' → r'.at_ = r.at_ → r'.gA = r.gA → Rep K F' v d → Q v H'
theorem startL_slots {K : PySem.W.Frag} {F : Hp} {M : OMap} {N : List Str} {vs : List V} {ds : List D} (r : RepL K F vs ds) : Slots K (L2.start N vs) (startL N.length ds) F M := by
  have hl := Paired.length r
  unfold L2.start startL
  refine ⟨by simp [hl], fun i l h => ?_⟩
  rw [List.getElem?_append] at h ⊢
  rw [List.length_map] at h ⊢
  split at h
  · rename_i hi
    rw [List.getElem?_map] at h
    obtain ⟨d, e, h⟩ := Option.map_eq_some_iff.mp h
    cases h
    obtain ⟨v, ev, rv⟩ := paired_get' r e
    exact ⟨v, by rw [if_pos (by omega), List.getElem?_map, ev]; rfl, rv⟩
  · rw [List.getElem?_replicate] at h
    split at h
    · cases h
    · cases h
section
variable {P : Program} {w : World} {K : PySem.W.Frag} {mg : Str → Option Value} {base : Heap}
theorem fn_pure {x qual : Str} {st : Stmt} {f : Addr} {fd : FuncData} {N ps : List Str} {k : Nat} {m : MS} (F : Fun K x qual st f fd) (Sc : FnScope N ps (defScope st))
    (hb : ∀ (H0 F0 : Hp) (R : Addr → Prop) (cdv : Value) (A : Around) (outer : List Env) (s : Shared) (H : Hp) (E : XK), Room k (A.deeper (envOfC qual (defScope st) s.heap.objs.size f cdv)) → PSs (cxOf CX0 P w K mg base N qual (defScope st) f cdv A outer s H E).nox (defBody st) (sS ⟨K, H0, F0, R, []⟩ m)) :
    FnOk P w K mg base CX0 (k + 1) f fd ps (spP K (runP ps.length N.length m)) := by
  refine F.ok Sc (fun vs H Q E h => ?_) fun cdv A outer s H vs Q E hr h => ?_
  · obtain ⟨F, ds, d, _, rl, e, _⟩ := h
    rw [Paired.length rl]; exact runP_ar _ _ e
  · obtain ⟨F, ds, d, le, rl, e, q⟩ := h
    refine ⟨_, hb H F (fun _ => False) cdv A outer s H E hr, ?_⟩
    unfold runP at e
    split at e
    · obtain ⟨⟨fl, ρ', S'⟩, e1, e⟩ := Option.bind_eq_some_iff.mp e
      obtain ⟨⟨d', S2⟩, e2, e⟩ := Option.map_eq_some_iff.mp e
      cases e
      refine ⟨F, fun _ => none, _, none, ⟨le, (fun _ _ _ h => nomatch h), fun _ _ h _ => h, fun _ h => h, fun _ _ h => h, fun _ _ h => .inl h, (fun _ h => nomatch h), fun _ h => nomatch h⟩, startL_slots rl, fl, ρ', S', e1, fun H' F' M' hk' le' => ?_⟩
      have fin : ∀ v, Rep K F' v d' → Q v H' := fun v r => q v H' F' (fun a o h => hk'.ent a o h (fun z => z)) hk'.trk le' hk'.sub hk'.new r
      cases fl with
      | nx => cases e2; exact fun σ _ => fin _ .non
      | rt d => cases e2; exact fin
      | ct => cases e2
      | bk => cases e2
    · cases e
theorem fn_rng {x qual : Str} {st : Stmt} {f : Addr} {fd : FuncData} {N ps : List Str} {k : Nat} {m : MS} (F : Fun K x qual st f fd) (Sc : FnScope N ps (defScope st))
    (hb : ∀ (H0 F0 : Hp) (R : Addr → Prop) (cdv : Value) (A : Around) (outer : List Env) (s : Shared) (H : Hp) (E : XK), Room k (A.deeper (envOfC qual (defScope st) s.heap.objs.size f cdv)) → PSs (cxOf CX0 P w K mg base N qual (defScope st) f cdv A outer s H E).nox (defBody st) (sS ⟨K, H0, F0, R, []⟩ m)) :
    FnOk P w K mg base CX0 (k + 1) f fd ps (spR K (runR ps.length N.length m)) := by
  refine F.ok Sc (fun vs H Q E h => ?_) fun cdv A outer s H vs Q E hr h => ?_
  · obtain ⟨F, ds, r, d, r', _, rl, _, e, _⟩ := h
    rw [Paired.length rl]; exact runR_ar _ _ _ e
  · obtain ⟨F, ds, r, d, r', le, rl, ra, e, q⟩ := h
    refine ⟨_, hb H F (fun a => a = r.at_ ∨ a = r.gA) cdv A outer s H E hr, ?_⟩
    unfold runR at e
    split at e
    · obtain ⟨⟨fl, ρ', S'⟩, e1, e⟩ := Option.bind_eq_some_iff.mp e
      obtain ⟨⟨d', S2⟩, e2, e⟩ := Option.bind_eq_some_iff.mp e
      cases S2 with
      | none => cases e
      | some r2 =>
        dsimp only at e
        split at e
        · rename_i hrr
          cases e
          refine ⟨F, fun _ => none, _, some r, ⟨le, (fun _ _ _ h => nomatch h), fun _ _ h _ => h, fun _ h => h, fun _ _ h => h, fun _ _ h => .inl h, (fun _ h => by cases h; exact ⟨ra, rfl, rfl, .inl (.inl rfl), .inl (.inr rfl)⟩), fun _ h => nomatch h⟩, startL_slots rl, fl, ρ', S', e1, fun H' F' M' hk' le' => ?_⟩
          have hS : S' = some r' := by
            cases fl with
            | nx => cases e2; rfl
            | rt d => cases e2; rfl
            | ct => cases e2
            | bk => cases e2
          have fin : ∀ v, Rep K F' v d → Q v H' := fun v rv => q v H' F' (fun a o h n1 n2 => hk'.ent a o h (fun z => z.elim n1 n2)) hk'.trk le' hk'.sub hk'.new (hk'.rng _ hS).1 hrr.1 hrr.2 rv
          cases fl with
          | nx => cases e2; exact fun σ _ => fin _ .non
          | rt d => cases e2; exact fin
          | ct => cases e2
          | bk => cases e2
        · cases e
    · cases e
end

section
variable {G : Gh} {X : Cx} {e a b c o : Expr} {es : List Expr} {pos p2 : Pos} {st : Stmt} {sts : List Stmt}
/-- behind a call -/
theorem heap_called {H H' F F' : Hp} {M : OMap} {S : Sg} (hk : HeapOk G H F M S) (sm : Same H H') (tr : ∀ a, H' a = none → H a = none) (le : Le F F') (sub : Le F' H') (nw : ∀ a o, F' a = some o → NewOk F H a o) : HeapOk G H' F' M S := by
  have fnone : ∀ a o, H a = some o → (∀ vs, o ≠ .tup vs) → F a = none → F' a = none := fun a o e nt n => by
    cases z : F' a with
    | none => rfl
    | some u =>
      rcases nw _ _ z with y | y | ⟨vs, rfl⟩
      · rw [y] at n; cases n
      · rw [y] at e; cases e
      · have z1 := sub _ _ z
        rw [sm _ _ e] at z1
        exact absurd (Option.some.inj z1) (nt vs)
  refine ⟨sub, fun a w d m => ?_, fun a o e r => sm _ _ (hk.ent a o e r), fun a n => hk.trk a (tr a n), fun a o e => le _ _ (hk.f0 a o e), fun a o e => ?_, fun r e => ?_, fun p hp => ?_⟩
  · obtain ⟨f1, f2, o, e, ro⟩ := hk.own _ _ _ m
    exact ⟨fnone a o e (fun vs z => by rw [z] at ro; cases ro) f1, f2, o, sm _ _ e, ro.mono le⟩
  · rcases nw _ _ e with z | z | z
    · exact hk.new _ _ z
    · exact .inr (.inl (hk.trk _ z))
    · exact .inr (.inr z)
  · obtain ⟨x, m1, m2, q⟩ := hk.rng r e
    exact ⟨x.mono sm le (fnone _ _ x.hat (fun _ z => nomatch z) x.fa) (fnone _ _ x.hg (fun _ z => nomatch z) x.fg), m1, m2, q⟩
  · obtain ⟨t, t1, t2, t3⟩ := hk.tab p hp
    obtain ⟨ps, h1, _⟩ := id t
    exact ⟨t.ext sm, fnone _ _ h1 (fun _ z => nomatch z) t1, t2, t3.1, t3.2.to ((sm _ _ h1).trans h1.symm) fun c o e _ => le c o e⟩
theorem call_imp {f : List D → Option D} {m : MA} {E : XK} : ∀ σ H Q, eE G (mCall f m) σ H Q → tCall (spP G.K f) [] E (eA G m) σ H Q := fun σ H Q ⟨F, M, ρ, S, hk, sl, d, S', e, q⟩ => by
  obtain ⟨ds, e1, e2⟩ := mCall_some e
  refine ⟨F, M, ρ, S, hk, sl, ds, S', e1, fun vs H1 F1 hk1 le1 rl => ⟨F1, ds, d, hk1.sub, by rw [List.append_nil]; exact rl, e2, fun v H' F' sm tr le sub nw r => ?_⟩⟩
  exact q v H' F' (heap_called hk1 sm tr le sub nw) (le1.trans le) r
theorem se_call {f : List D → Option D} {m : MA} {E : XK} (h : PE X o (tCall (spP G.K f) [] E (eA G m))) : PE X o (eE G (mCall f m)) := pe_imp h call_imp
def mCallR (f : List D → Rng → Option (D × Rng)) (m : MA) : ME := fun ρ S => (m ρ S).bind fun p => match p.2 with
  | some r => (f p.1 r).bind fun q => if q.2.at_ = r.at_ ∧ q.2.gA = r.gA then some (q.1, some q.2) else none
  | none => none
theorem callR_imp {f : List D → Rng → Option (D × Rng)} {m : MA} {E : XK} : ∀ σ H Q, eE G (mCallR f m) σ H Q → tCall (spR G.K f) [] E (eA G m) σ H Q := fun σ H Q ⟨F, M, ρ, S, hk, sl, d, S', e, q⟩ => by
  obtain ⟨⟨ds, S1⟩, e1, e⟩ := Option.bind_eq_some_iff.mp e
  cases S1 with
  | none => cases e
  | some r =>
    obtain ⟨⟨d2, r2⟩, e2, e⟩ := Option.bind_eq_some_iff.mp e
    split at e
    · rename_i hrr
      cases e
      refine ⟨F, M, ρ, S, hk, sl, ds, some r, e1, fun vs H1 F1 hk1 le1 rl => ?_⟩
      obtain ⟨ra, m1, m2, o1, o2⟩ := hk1.rng r rfl
      refine ⟨F1, ds, r, _, r2, hk1.sub, by rw [List.append_nil]; exact rl, ra, e2, fun v H' F' sm tr le sub nw ra' ha hg rv => q v H' F' ?_ (le1.trans le) rv⟩
      have fnone : ∀ a o, H1 a = some o → H' a = some o → (∀ vs, o ≠ .tup vs) → F1 a = none → F' a = none := fun a o e e' nt n => by
        cases z : F' a with
        | none => rfl
        | some u =>
          rcases nw _ _ z with y | y | ⟨vs, rfl⟩
          · rw [y] at n; cases n
          · rw [y] at e; cases e
          · have z1 := sub _ _ z
            rw [e'] at z1
            exact absurd (Option.some.inj z1) (nt vs)
      refine ⟨sub, fun a w d m => ?_, fun a o e nr => ?_, fun a n => hk1.trk a (tr a n), fun a o e => le _ _ (hk1.f0 a o e), fun a o e => ?_, fun r3 e => ?_, fun p hp => ?_⟩
      · obtain ⟨f1, f2, o, e, ro⟩ := hk1.own _ _ _ m
        have e' := sm _ _ e (fun z => by rw [z, m1] at m; cases m) (fun z => by rw [z, m2] at m; cases m)
        exact ⟨fnone a o e e' (fun vs z => by rw [z] at ro; cases ro) f1, f2, o, e', ro.mono le⟩
      · refine sm _ _ (hk1.ent a o e nr) (fun z => ?_) (fun z => ?_)
        · subst z
          rcases o1 with o1 | o1
          · exact nr o1
          · rw [o1] at e; cases e
        · subst z
          rcases o2 with o2 | o2
          · exact nr o2
          · rw [o2] at e; cases e
      · rcases nw _ _ e with z | z | z
        · exact hk1.new _ _ z
        · exact .inr (.inl (hk1.trk _ z))
        · exact .inr (.inr z)
      · cases e
        exact ⟨ra', by rw [ha]; exact m1, by rw [hg]; exact m2, by rw [ha]; exact o1, by rw [hg]; exact o2⟩
      · obtain ⟨⟨ps, h1, h2, h3⟩, t1, t2, t3⟩ := hk1.tab p hp
        have e1 := sm _ _ h1 (ne_of h1 ra.hat (fun z => nomatch z)) (ne_of h1 ra.hg (fun z => nomatch z))
        refine ⟨⟨ps, e1, h2, fun pos cv hc => ?_⟩, fnone _ _ h1 e1 (fun _ z => nomatch z) t1, t2, t3.1, t3.2.to (e1.trans h1.symm) fun c o e _ => le c o e⟩
        obtain ⟨c, e2, e3⟩ := h3 pos cv hc
        exact ⟨c, e2, sm _ _ e3 (ne_of e3 ra.hat (fun z => by unfold LamX.CodeO at z; cases z)) (ne_of e3 ra.hg (fun z => by unfold LamX.CodeO at z; cases z))⟩
    · cases e
theorem se_callR {f : List D → Rng → Option (D × Rng)} {m : MA} {E : XK} (h : PE X o (tCall (spR G.K f) [] E (eA G m))) : PE X o (eE G (mCallR f m)) := pe_imp h callR_imp
/-- with keywords: pm puts positional and keyword values in the parameters' order -/
def mCallK (f : List D → Option D) (pm : List D → List D → List D) (m n : MA) : ME := fun ρ S => (m ρ S).bind fun p => (n ρ p.2).bind fun q => (f (pm p.1 q.1)).map fun d => (d, q.2)
theorem se_callK {f : List D → Option D} {pm : List D → List D → List D} {gV : List V → List V → List V} {m n : MA} {E : XK} (hp : ∀ F vs ds zs es, RepL G.K F vs ds → RepL G.K F zs es → RepL G.K F (gV vs zs) (pm ds es)) (h : PE X o (tCallK (spP G.K f) gV E (eA G m) (eA G n))) : PE X o (eE G (mCallK f pm m n)) := pe_imp h fun σ H Q ⟨F, M, ρ, S, hk, sl, d, S', e, q⟩ => by
  obtain ⟨⟨ds, S1⟩, e1, e⟩ := Option.bind_eq_some_iff.mp e
  obtain ⟨⟨ks, S2⟩, e2, e⟩ := Option.bind_eq_some_iff.mp e
  obtain ⟨d', e3, e⟩ := Option.map_eq_some_iff.mp e
  cases e
  exact ⟨F, M, ρ, S, hk, sl, ds, S1, e1, fun vs H1 F1 hk1 le1 rl => ⟨F1, M, ρ, S1, hk1, sl.mono le1, ks, S2, e2, fun zs H2 F2 hk2 le2 rz => ⟨F2, _, d, hk2.sub, hp F2 _ _ _ _ (RepL.mono le2 rl) rz, e3, fun v H' F' sm tr le sub nw r => q v H' F' (heap_called hk2 sm tr le sub nw) ((le1.trans le2).trans le) r⟩⟩⟩

/-! ### the draws' own dict -/
theorem rng_slot {H F : Hp} {M : OMap} {S : Sg} {σ : L2.St} {ρ : Lo} {r : Rng} {i : Nat} {x : Addr} (hk : HeapOk G H F M S) (sl : Slots G.K σ ρ F M) (hi : ρ[i]? = some (some (.imm (.rng x)))) : σ[i]? = some (some (.ref x)) := by
  obtain ⟨v, ev, r⟩ := sl.at_ _ _ hi
  cases r
  exact ev
/-- state["rest"], state["turn"] -/
def mStI (i : Nat) (g : Rng → Int) : ME := fun ρ S => match ρ[i]?, S with
  | some (some (.imm (.rng x))), some r => if x = r.at_ then some (.int (g r), S) else none
  | _, _ => none
theorem se_stI {i : Nat} {key : Str} {g : Rng → Int} (hkey : ∀ r, valV (rngDict r) (Sum.inr key) = some (.int (g r))) (h : PE X o (tDGet (tVar i) (tC (.str key)))) : PE X o (eE G (mStI i g)) := pe_imp h fun σ H Q ⟨F, M, ρ, S, hk, sl, d, S', e, q⟩ => by
  unfold mStI at e
  split at e
  · rename_i x r hi
    split at e
    · rename_i hx
      cases e
      subst hx
      obtain ⟨ra, _⟩ := hk.rng r rfl
      refine ⟨_, rng_slot (r := r) hk sl hi, r.at_, .int (g r), rfl, ?_, q _ H F hk (Same.refl F) (.int _)⟩
      have := DGet.k (k := Sum.inr key) ra.hat
      rw [hkey r] at this
      exact this
    · cases e
  · cases e
/-- state["cells"] -/
def mStC (i : Nat) : ME := fun ρ S => match ρ[i]?, S with
  | some (some (.imm (.rng x))), some r => if x = r.at_ then some (.lst (r.cells.map .int), S) else none
  | _, _ => none
theorem repL_mapI {K : PySem.W.Frag} {F : Hp} : ∀ ns : List Int, RepL K F (ns.map V.int) (ns.map D.int)
  | [] => .nil
  | n :: r => .cons (.int n) (repL_mapI r)
theorem se_stC {i : Nat} (h : PE X o (tDGet (tVar i) (tC (.str "cells")))) : PE X o (eE G (mStC i)) := pe_imp h fun σ H Q ⟨F, M, ρ, S, hk, sl, d, S', e, q⟩ => by
  unfold mStC at e
  split at e
  · rename_i x r hi
    split at e
    · rename_i hx
      cases e
      subst hx
      obtain ⟨ra, _⟩ := hk.rng r rfl
      refine ⟨_, rng_slot (r := r) hk sl hi, r.at_, .ref r.cA, rfl, DGet.k (k := Sum.inr "cells") ra.hat, q _ H F hk (Same.refl F) (.mkLst ra.hc (by rw [List.length_map]; exact Nat.le_trans ra.hz (by decide)) (repL_mapI _))⟩
    · cases e
  · cases e
/-- state["great"] != [] -/
def mStG (i : Nat) : MT := fun ρ S => match ρ[i]?, S with
  | some (some (.imm (.rng x))), some r => if x = r.at_ ∧ r.great.length ≤ 1000 then some (!r.great.isEmpty, S) else none
  | _, _ => none
theorem dp_ints {K : PySem.W.Frag} {H : Hp} : ∀ ns : List Int, DpAll K H (ns.map V.int) (ns.map PyData.int)
  | [] => .nil
  | n :: r => .cons (.int n) (dp_ints r)
theorem canLay_ints : ∀ ns : List Int, PyData.canLayAll0 (ns.map PyData.int) = true
  | [] => rfl
  | n :: r => by simp only [List.map_cons, PyData.canLayAll0, PyData.canLay0, canLay_ints r]; rfl
theorem depth_ints : ∀ ns : List Int, PyData.depthAll (ns.map PyData.int) ≤ 1
  | [] => by simp [PyData.depthAll]
  | n :: r => by
    have := depth_ints r
    simp only [List.map_cons, PyData.depthAll, PyData.depth]
    omega
theorem shaped_ints (ns : List Int) : SeqAt.shaped (.list (ns.map PyData.int)) = true := by
  have h := depth_ints ns
  simp [SeqAt.shaped, PyData.canLay0, canLay_ints, PyData.depth]
  omega
theorem st_stG {i : Nat} (h : PT X o (tTest (tOp (rNeD G.K) (tDGet (tVar i) (tC (.str "great"))) (tLst tNil)))) : PT X o (eT G (mStG i)) := pt_imp h fun σ H Q ⟨F, M, ρ, S, hk, sl, d, S', e, q⟩ => by
  unfold mStG at e
  split at e
  · rename_i x r hi
    split at e
    · rename_i hx
      cases e
      obtain ⟨rfl, hz⟩ := hx
      obtain ⟨ra, _⟩ := hk.rng r rfl
      refine ⟨_, rng_slot (r := r) hk sl hi, r.at_, .ref r.gA, rfl, DGet.k (k := Sum.inr "great") ra.hat, Nat.zero_le _, fun p hp => ?_⟩
      have hgp : r.gA ≠ p := ne_of_none ra.hg hp
      refine ⟨.list (r.great.map .int), .list [], .lst (.of (by rw [upd_ne hgp]; exact ra.hg)) (dp_ints _), .lst (.of upd_same) .nil, shaped_ints _, shaped_ints [], _, rfl, ?_⟩
      have he : (!PyData.eqv (.list (r.great.map .int)) (.list [])) = !r.great.isEmpty := by
        cases r.great <;> simp [PyData.eqv, PyData.eqvAll]
      rw [he]
      exact q _ _ (hk.laid hp) (le_upd (hk.fnone hp))
    · cases e
  · cases e
/-! ### globals -/
theorem se_gc {x : Str} {v : V} {d : D} (hg : Gl X x) (h : ∃ u, X.mg x = some u ∧ RelV v u) (rd : ∀ F, Rep G.K F v d) (hd : (x == ("__debug__" : Str)) = false := by decide) : PE X (.Name x pos) (eE G (mPure d)) := by
  obtain ⟨u, e, r⟩ := h
  exact se_const (pe_glob hg e r hd) rd
/-- a written tuple of the top -/
theorem se_gk {x : Str} {vs : List V} {ds : List D} (hg : Gl X x) (h : ∃ a, X.mg x = some (.ref a) ∧ SqT X.K (fun _ => none) a vs) (hK : G.K = X.K) (rd : ∀ F, RepL G.K F vs ds) (hd : (x == ("__debug__" : Str)) = false := by decide) : PE X (.Name x pos) (eE G (mPure (.kt ds))) := by
  obtain ⟨a, e, r⟩ := h
  exact se_const (v := .ref a) (pe_glob hg e rfl hd) fun F => .mkKt (by rw [hK]; exact r) (rd F)
theorem u65 {k : Nat} {A : Around} (hr : Room k A) : A.units + 65 < cLine := by have := hr.un; omega
theorem u64 {k : Nat} {A : Around} (hr : Room k A) : A.units + 64 < cLine := by have := hr.un; omega
end
end Dv
namespace Dv
open PySem PySem.Spec PyProof.Rows L2
/-! ### dicts -/
def keyD : D → Option Key
  | .int i => some (.inl i)
  | .str x => some (.inr x)
  | _ => none
theorem rep_key {K : PySem.W.Frag} {F : Hp} {v : V} {d : D} {k : Key} (r : Rep K F v d) (h : keyD d = some k) : v = kV k := by
  unfold keyD at h
  split at h
  · cases h; cases r; rfl
  · cases h; cases r; rfl
  · cases h
def putG {κ α : Type} [DecidableEq κ] (kvs : List (κ × α)) (k : κ) (v : α) : List (κ × α) :=
  if (kvs.any fun kv => decide (kv.1 = k)) = true then kvs.map (fun kv => if kv.1 = k then (kv.1, v) else kv) else kvs ++ [(k, v)]
theorem putG_len {κ α : Type} [DecidableEq κ] (kvs : List (κ × α)) (k : κ) (v : α) : (putG kvs k v).length ≤ kvs.length + 1 := by
  unfold putG; split <;> simp
theorem repP_put {κ : Type} [DecidableEq κ] {K : PySem.W.Frag} {F : Hp} {vs : List (κ × V)} {ds : List (κ × D)} {k : κ} {v : V} {d : D} (r : RepP K F vs ds) (rv : Rep K F v d) : RepP K F (putG vs k v) (putG ds k d) := by
  have ha : (vs.any fun kv => decide (kv.1 = k)) = (ds.any fun kv => decide (kv.1 = k)) := by
    induction r with
    | nil => rfl
    | cons h _ ih => simp only [List.any_cons, ih, h.1]
  unfold putG
  rw [ha]
  split
  · refine paired_map2 r fun p q h => ?_
    rw [h.1]
    split
    · exact ⟨rfl, rv⟩
    · exact ⟨h.1, h.2⟩
  · exact paired_app r (.cons ⟨rfl, rv⟩ .nil)
theorem putK_eq {κ : Type} [DecidableEq κ] (vs : List (κ × V)) (k : κ) (v : V) : putK vs k v = putG vs k v := rfl
def dcGo (ρ : Lo) (g : MG) (t : MT) (mk mv : ME) : List D → List (Key × D) → Sg → Option (List (Key × D) × Sg)
  | [], acc, S => some (acc, S)
  | d :: r, acc, S => (g d ρ).bind fun ρ1 => (t ρ1 S).bind fun b => if b.1 then (mk ρ1 b.2).bind fun y => (mv ρ1 y.2).bind fun z => (keyD y.1).bind fun k => dcGo ρ g t mk mv r (putG acc k z.1) z.2 else dcGo ρ g t mk mv r acc b.2
def mDc (mi : MA) (vs : List Nat) (g : MG) (t : MT) (mk mv : ME) : ME := fun ρ S => (mi ρ S).bind fun p => (dcGo (wipeL ρ vs) g t mk mv p.1 [] p.2).map fun q => (.dK q.1, q.2)
section
variable {G : Gh} {X : Cx} {e a b c o : Expr} {es : List Expr} {pos p2 : Pos} {st : Stmt}
theorem dc_imp {mi : MA} {vs is : List Nat} {g : MG} {t : MT} {mk mv : ME} (hs : ∀ i ∈ is, i ∈ vs) : ∀ σ H Q, eF G (mDc mi vs g t mk mv) σ H Q → tDc (iI G mi) (eG G is g) (eT G t) (eE G mk) (eE G mv) vs σ H Q := fun σ H Q ⟨F, M, ρ, S, hk, sl, d, S', e, q⟩ => by
  obtain ⟨⟨ds, S1⟩, e1, e⟩ := Option.bind_eq_some_iff.mp e
  obtain ⟨⟨out, S2⟩, e2, e⟩ := Option.map_eq_some_iff.mp e
  cases e
  refine ⟨F, M, ρ, S, hk, sl, ds, S1, e1, fun J H1 F1 hk1 le1 w D hD => ?_⟩
  have mD := hk1.mnone hD
  refine ⟨fun i n H => n = ds.length - i ∧ i ≤ ds.length ∧ ∃ F' acc Si, acc.length ≤ i ∧ HeapOk G H F' (updO M D (none, .dK acc)) Si ∧ Le F1 F' ∧ dcGo (wipeL ρ vs) g t mk mv (ds.drop i) acc Si = some (out, S2),
    ⟨ds.length, by omega, by omega, F1, [], S1, by simp, hk1.laidO hD (.dK .nil), Same.refl F1, by simpa using e2⟩, ?_⟩
  rintro i n H ⟨rfl, hi, F', acc, Si, ha, hk', le', er⟩
  by_cases hlt : i < ds.length
  · refine .inr ⟨w.goes i H hlt (le'.trans hk'.sub), fun H => i + 1 ≤ ds.length ∧ ∃ F' acc Si, acc.length ≤ i + 1 ∧ HeapOk G H F' (updO M D (none, .dK acc)) Si ∧ Le F1 F' ∧ dcGo (wipeL ρ vs) g t mk mv (ds.drop (i + 1)) acc Si = some (out, S2),
      fun H' hN => ⟨ds.length - (i + 1), by omega, rfl, hN⟩, fun x H' y => ?_⟩
    obtain ⟨F2, dd, hk2, le2, ed, rx⟩ := w.yields i H x H' F' _ Si hlt hk' le' y
    have sl2 : Slots G.K (L2.wipe σ vs) (wipeL ρ vs) F2 (updO M D (none, .dK acc)) := by
      have h0 := ((sl.wipe vs).mono (le1.trans le')).mono le2
      refine ⟨h0.len, fun j l hj => ?_⟩
      obtain ⟨v, ev, r⟩ := h0.at_ _ _ hj
      refine ⟨v, ev, ?_⟩
      cases l with
      | imm d => exact r
      | own d =>
        obtain ⟨a, ea, em⟩ := r
        refine ⟨a, ea, ?_⟩
        rw [updO_ne (fun z => by rw [z, mD] at em; cases em)]
        exact em
    have edr : ds.drop i = dd :: ds.drop (i + 1) := by
      rw [List.drop_eq_getElem_cons hlt]
      congr
      exact Option.some.inj ((List.getElem?_eq_getElem hlt).symm.trans ed)
    rw [edr] at er
    obtain ⟨ρ1, eg, er⟩ := Option.bind_eq_some_iff.mp er
    obtain ⟨⟨b, Sb⟩, et, er⟩ := Option.bind_eq_some_iff.mp er
    refine ⟨F2, _, _, Si, dd, hk2, sl2, rx, ρ1, eg, fun σ2 sl3 l3 k3 => ⟨wipe_eq hs l3 fun i hi => (k3 i hi).1, F2, _, ρ1, Si, hk2, sl3, b, Sb, et, fun H3 F3 hk3 le3 => ?_⟩⟩
    cases b with
    | true =>
      obtain ⟨⟨y, Sy⟩, em, er⟩ := Option.bind_eq_some_iff.mp er
      obtain ⟨⟨z, Sz⟩, ez, er⟩ := Option.bind_eq_some_iff.mp er
      obtain ⟨k, ek, er⟩ := Option.bind_eq_some_iff.mp er
      refine ⟨F3, _, ρ1, Sb, hk3, sl3.mono le3, y, Sy, em, fun v H4 F4 hk4 le4 rv => ⟨F4, _, ρ1, Sy, hk4, (sl3.mono le3).mono le4, z, Sz, ez, fun u H5 F5 hk5 le5 ru => ?_⟩⟩
      obtain ⟨_, _, oo, eo4, ro⟩ := hk5.own D _ _ updO_same
      cases ro with
      | @dK us _ r =>
        have hlen := Paired.length r
        have hsz := w.size
        refine ⟨us, k, rep_key rv ek, eo4, by omega, by omega, F5, putG acc k z, Sz, Nat.le_trans (putG_len _ _ _) (by omega), ?_, (((le'.trans le2).trans le3).trans le4).trans le5, er⟩
        have h5 := hk5.write (w' := none) (o := .dK (putK us k u)) (d' := .dK (putG acc k z)) updO_same (.dK (by rw [putK_eq]; exact repP_put r ru))
        rw [updO_updO] at h5
        exact h5
    | false => exact ⟨by omega, F3, acc, Sb, by omega, hk3, (le'.trans le2).trans le3, er⟩
  · have e : i = ds.length := by omega
    subst e
    rw [List.drop_length] at er
    cases er
    exact .inl ⟨w.stops H (le'.trans hk'.sub), q D H F' hk' mD (le1.trans le')⟩
theorem sf_dc {kx vx tg iter : Expr} {ifs : List Expr} {scope : Scope} {own : List (Str × Nat)} {mi : MA} {is : List Nat} {g : MG} {t : MT} {mk mv : ME} (hc : X.calm = true) (hN : X.N.Nodup) (hi : PI X tg iter (iI G mi)) (ok : BlkOk X.N X.env.scope scope own)
    (hg : ∀ (s : Shared) (H : Hp) (C : Addr) (cl : List (Str × Addr)) (fp : List Addr), PG (X.blk s H scope (compEnvC scope cl C X.env) fp) tg (eG G is g)) (ht : ∀ (s : Shared) (H : Hp) (C : Addr) (cl : List (Str × Addr)) (fp : List Addr), PTs (X.blk s H scope (compEnvC scope cl C X.env) fp) ifs (eT G t))
    (hk : ∀ (s : Shared) (H : Hp) (C : Addr) (cl : List (Str × Addr)) (fp : List Addr), PE (X.blk s H scope (compEnvC scope cl C X.env) fp) kx (eE G mk))
    (he : ∀ (s : Shared) (H : Hp) (C : Addr) (cl : List (Str × Addr)) (fp : List Addr), PE (X.blk s H scope (compEnvC scope cl C X.env) fp) vx (eE G mv)) (hs : ∀ i ∈ is, i ∈ own.map (·.2)) (hf : ∀ x, foldedSetIterable iter X.env x = pure x := by intro _; rfl) :
    PE X (.DictComp kx vx [⟨tg, iter, ifs, 0⟩] scope pos) (eF G (mDc mi (own.map (·.2)) g t mk mv)) := pe_imp (pe_dc hc hN hi ok hg ht hk he hf) (dc_imp hs)
/-- {} that is filled by tuples -/
def mNewT : ME := fun _ S => some (.dT [], S)
def mNewK : ME := fun _ S => some (.dK [], S)
theorem sf_newT : PE X (.Dict [] [] pos) (eF G mNewT) := pe_imp pe_dnewT fun σ H Q ⟨F, M, ρ, S, hk, sl, d, S', e, q⟩ => by
  cases e
  exact fun p hp => q p _ F (hk.laidO hp (.dT .nil)) (hk.mnone hp) (Same.refl F)
theorem sf_newK : PE X (.Dict [] [] pos) (eF G mNewK) := pe_imp pe_dnewK fun σ H Q ⟨F, M, ρ, S, hk, sl, d, S', e, q⟩ => by
  cases e
  exact fun p hp => q p _ F (hk.laidO hp (.dK .nil)) (hk.mnone hp) (Same.refl F)
def keysD : List D → Option (List Key)
  | [] => some []
  | d :: r => (keyD d).bind fun k => (keysD r).map fun ks => k :: ks
theorem repL_keys {K : PySem.W.Frag} {F : Hp} : ∀ {vs : List V} {ds : List D} {ks : List Key}, RepL K F vs ds → keysD ds = some ks → vs = ks.map kV
  | _, _, _, .nil, e => by cases e; rfl
  | _, d :: r, _, .cons rv t, e => by
    obtain ⟨k, e1, e⟩ := Option.bind_eq_some_iff.mp e
    obtain ⟨ks, e2, rfl⟩ := Option.map_eq_some_iff.mp e
    rw [rep_key rv e1, repL_keys t e2]; rfl
/-- d[k] = e, d an owned dict -/
def sPut (i : Nat) (m mk : ME) : MS := fun ρ S => match ρ[i]? with
  | some (some (.own (.dT ds))) => (m ρ S).bind fun p => (mk ρ p.2).bind fun q => match q.1 with
    | .tup ks => (keysD ks).bind fun k => if ds.length < 1000000 then some (.nx, ρ.set i (some (.own (.dT (putG ds k p.1)))), q.2) else none
    | _ => none
  | some (some (.own (.dK ds))) => (m ρ S).bind fun p => (mk ρ p.2).bind fun q => (keyD q.1).bind fun k => if ds.length < 1000000 then some (.nx, ρ.set i (some (.own (.dK (putG ds k p.1)))), q.2) else none
  | _ => none
theorem ss_put {i : Nat} {m mk : ME} (h : PS X st (sDPut (tVar i) (eE G mk) (eE G m))) : PS X st (sS G (sPut i m mk)) := ps_imp h fun D σ H ⟨F, M, ρ, S, hk, sl, fl, ρ', S', e, q⟩ => by
  unfold sPut at e
  split at e
  · rename_i ds hi
    obtain ⟨⟨d, S1⟩, e1, e⟩ := Option.bind_eq_some_iff.mp e
    obtain ⟨⟨dk, S2⟩, e2, e⟩ := Option.bind_eq_some_iff.mp e
    split at e
    · rename_i ks ed
      have ed : dk = .tup ks := ed
      subst ed
      obtain ⟨k, ek, e⟩ := Option.bind_eq_some_iff.mp e
      split at e
      · rename_i hz
        cases e
        refine ⟨F, M, ρ, S, hk, sl, d, S1, e1, fun y H1 F1 hk1 le1 ry => ?_⟩
        obtain ⟨v, ev, x, rfl, em⟩ := sl.at_ _ _ hi
        refine ⟨_, ev, F1, M, ρ, S1, hk1, sl.mono le1, _, S2, e2, fun w H2 F2 hk2 le2 rw' => ?_⟩
        obtain ⟨_, _, oo, eo, ro⟩ := hk2.own _ _ _ em
        obtain ⟨ka, kvs, rfl, eka, rk⟩ := rw'.untup'
        cases ro with
        | @dT us _ r =>
          have hl := Paired.length r
          have hkv := repL_keys rk ek
          subst hkv
          refine ⟨x, _, rfl, DPut.t eo (hk2.sub _ _ eka) (by rw [hl]; exact line1e6 hz), ?_⟩
          exact q _ F2 _ (hk2.write (w' := some i) (o := .dT (putK us k y)) (d' := .dT (putG ds k d)) em (.dT (by rw [putK_eq]; exact repP_put r (ry.mono le2)))) (le1.trans le2) _ (slots_write ((sl.mono le1).mono le2) hi ev em)
      · cases e
    · cases e
  · rename_i ds hi
    obtain ⟨⟨d, S1⟩, e1, e⟩ := Option.bind_eq_some_iff.mp e
    obtain ⟨⟨dk, S2⟩, e2, e⟩ := Option.bind_eq_some_iff.mp e
    obtain ⟨k, ek, e⟩ := Option.bind_eq_some_iff.mp e
    split at e
    · rename_i hz
      cases e
      refine ⟨F, M, ρ, S, hk, sl, d, S1, e1, fun y H1 F1 hk1 le1 ry => ?_⟩
      obtain ⟨v, ev, x, rfl, em⟩ := sl.at_ _ _ hi
      refine ⟨_, ev, F1, M, ρ, S1, hk1, sl.mono le1, _, S2, e2, fun w H2 F2 hk2 le2 rw' => ?_⟩
      obtain ⟨_, _, oo, eo, ro⟩ := hk2.own _ _ _ em
      cases ro with
      | @dK us _ r =>
        have hl := Paired.length r
        have hkv := rep_key rw' ek
        subst hkv
        refine ⟨x, _, rfl, DPut.k eo (by rw [hl]; exact line1e6 hz), ?_⟩
        exact q _ F2 _ (hk2.write (w' := some i) (o := .dK (putK us k y)) (d' := .dK (putG ds k d)) em (.dK (by rw [putK_eq]; exact repP_put r (ry.mono le2)))) (le1.trans le2) _ (slots_write ((sl.mono le1).mono le2) hi ev em)
    · cases e
  · cases e
/-- k in d -/
def inDk (x y : D) : Option D := match y with
  | .dT ds => match x with
    | .tup ks => (keysD ks).map fun k => .bl (ds.any fun kv => decide (kv.1 = k))
    | _ => none
  | .dK ds => (keyD x).map fun k => .bl (ds.any fun kv => decide (kv.1 = k))
  | _ => none
theorem any_repP {κ : Type} [DecidableEq κ] {K : PySem.W.Frag} {F : Hp} {vs : List (κ × V)} {ds : List (κ × D)} (r : RepP K F vs ds) (k : κ) : (vs.any fun kv => decide (kv.1 = k)) = ds.any fun kv => decide (kv.1 = k) := by
  induction r with
  | nil => rfl
  | cons h _ ih => simp only [List.any_cons, ih, h.1]
theorem r_din {H F : Hp} {M : OMap} {S : Sg} {x y : V} {d1 d2 d : D} {Q : VK} (hk : HeapOk G H F M S) (r1 : BRep G.K F M x d1) (r2 : BRep G.K F M y d2) (e : inDk d1 d2 = some d) (q : ∀ v H' F', HeapOk G H' F' M S → Le F F' → Rep G.K F' v d → Q v H') : ∃ b, d = .bl b ∧ ∃ a o, y = .ref a ∧ DGet H a x o ∧ o.isSome = b ∧ Q (.bl b) H := by
  unfold inDk at e
  split at e
  · rename_i ds
    split at e
    · rename_i ks
      obtain ⟨k, ek, e⟩ := Option.map_eq_some_iff.mp e
      cases e
      obtain ⟨a, us, rfl, eo, r⟩ := r2.undT hk
      obtain ⟨ka, kvs, rfl, eka, rk⟩ := (r1.rep hk (fun z => nomatch z)).untup'
      have hkv := repL_keys rk ek
      subst hkv
      exact ⟨_, rfl, a, _, rfl, DGet.t eo (hk.sub _ _ eka), by rw [← valV_any, any_repP r], q _ H F hk (Same.refl F) (.bl _)⟩
    · cases e
  · rename_i ds
    obtain ⟨k, ek, e⟩ := Option.map_eq_some_iff.mp e
    cases e
    obtain ⟨a, us, rfl, eo, r⟩ := r2.undK hk
    have rr : Rep G.K F x d1 := by
      unfold keyD at ek
      split at ek
      · exact r1.flat hk rfl
      · exact r1.flat hk rfl
      · cases ek
    have hkv := rep_key rr ek
    subst hkv
    exact ⟨_, rfl, a, _, rfl, (.inl ⟨_, _, eo, rfl, rfl⟩), by rw [← valV_any, any_repP r], q _ H F hk (Same.refl F) (.bl _)⟩
  · cases e
def mDin (ma mb : ME) : ME := mOp2 inDk ma mb
def mDnin (ma mb : ME) : ME := mOp2 (notOf inDk) ma mb
theorem se_din {ma mb : ME} (h : PE X o (tDIn (eB G ma) (eB G mb))) : PE X o (eE G (mDin ma mb)) := pe_imp h fun σ H Q ⟨F, M, ρ, S, hk, sl, d, S', e, q⟩ => by
  obtain ⟨d1, S1, d2, e1, e2, e3⟩ := mOp2_some e
  refine two_bb hk sl e1 e2 fun x y H' F' hk' le r1 r2 => ?_
  obtain ⟨b, rfl, a, oo, ha, hg, rfl, hq⟩ := r_din hk' r1 r2 e3 fun v H2 F2 hk2 le2 r => q v H2 F2 hk2 (le.trans le2) r
  exact ⟨a, oo, ha, hg, hq⟩
theorem st_din {ma mb : ME} (h : PT X o (L2.tB (tDIn (eB G ma) (eB G mb)))) : PT X o (eT G (mTst (mDin ma mb))) := pt_imp h fun σ H Q ⟨F, M, ρ, S, hk, sl, b, S', e, q⟩ => by
  obtain ⟨d1, S1, d2, e1, e2, e3⟩ := mOp2_some (mTst_some e)
  refine two_bb hk sl e1 e2 fun x y H' F' hk' le r1 r2 => ?_
  obtain ⟨b, eb, a, oo, ha, hg, rfl, hq⟩ := r_din (Q := fun v H' => ∃ c, v = .bl c ∧ Q c H') hk' r1 r2 e3 fun v H2 F2 hk2 le2 r => by cases r; exact ⟨_, rfl, q H2 F2 hk2 (le.trans le2)⟩
  exact ⟨a, oo, ha, hg, hq⟩
theorem notOf_some {f : D → D → Option D} {x y d : D} (h : notOf f x y = some d) : ∃ b, f x y = some (.bl b) ∧ d = .bl (!b) := by
  obtain ⟨d1, e1, h⟩ := Option.bind_eq_some_iff.mp h
  cases d1 <;> first | (cases h; exact ⟨_, e1, rfl⟩) | cases h
theorem se_dnin {ma mb : ME} (h : PE X o (tDNotIn (eB G ma) (eB G mb))) : PE X o (eE G (mDnin ma mb)) := pe_imp h fun σ H Q ⟨F, M, ρ, S, hk, sl, d, S', e, q⟩ => by
  obtain ⟨d1, S1, d2, e1, e2, e3⟩ := mOp2_some e
  obtain ⟨b, e4, rfl⟩ := notOf_some e3
  refine two_bb hk sl e1 e2 fun x y H' F' hk' le r1 r2 => ?_
  obtain ⟨b, eb, a, oo, ha, hg, rfl, hq⟩ := r_din (Q := fun v H' => ∃ c, v = .bl c ∧ Q (.bl (!c)) H') hk' r1 r2 e4 fun v H2 F2 hk2 le2 r => by cases r; exact ⟨_, rfl, q _ H2 F2 hk2 (le.trans le2) (.bl _)⟩
  obtain ⟨c, ec, hq⟩ := hq
  cases ec; cases eb
  exact ⟨a, oo, ha, hg, hq⟩
theorem st_dnin {ma mb : ME} (h : PT X o (L2.tB (tDNotIn (eB G ma) (eB G mb)))) : PT X o (eT G (mTst (mDnin ma mb))) := pt_imp h fun σ H Q ⟨F, M, ρ, S, hk, sl, b, S', e, q⟩ => by
  obtain ⟨d1, S1, d2, e1, e2, e3⟩ := mOp2_some (mTst_some e)
  obtain ⟨b, e4, hb⟩ := notOf_some e3
  refine two_bb hk sl e1 e2 fun x y H' F' hk' le r1 r2 => ?_
  cases hb
  obtain ⟨b, eb, a, oo, ha, hg, rfl, hq⟩ := r_din (Q := fun v H' => ∃ c, v = .bl c ∧ Q (!c) H') hk' r1 r2 e4 fun v H2 F2 hk2 le2 r => by cases r; exact ⟨_, rfl, q H2 F2 hk2 (le.trans le2)⟩
  obtain ⟨c, ec, hq⟩ := hq
  cases ec; cases eb
  exact ⟨a, oo, ha, hg, _, rfl, hq⟩
/-- d[k] -/
def getD' (x y : D) : Option D := match x with
  | .dT ds => match y with
    | .tup ks => (keysD ks).bind fun k => (ds.find? fun kv => decide (kv.1 = k)).map (·.2)
    | _ => none
  | .dK ds => (keyD y).bind fun k => (ds.find? fun kv => decide (kv.1 = k)).map (·.2)
  | .lT _ _ ds => match y with
    | .tup ks => (keysD ks).bind fun k => (ds.find? fun kv => decide (kv.1 = k)).map (·.2)
    | _ => none
  | _ => none
theorem find_repP {κ : Type} [DecidableEq κ] {K : PySem.W.Frag} {F : Hp} {vs : List (κ × V)} {ds : List (κ × D)} (r : RepP K F vs ds) (k : κ) {d : D} (h : (ds.find? fun kv => decide (kv.1 = k)).map (·.2) = some d) : ∃ v, valV vs k = some v ∧ Rep K F v d := by
  induction r with
  | nil => cases h
  | @cons p q _ _ hh _ ih =>
    by_cases e : q.1 = k
    · rw [List.find?_cons_of_pos (by simpa using e)] at h
      cases h
      exact ⟨_, valV_pos (hh.1.trans e), hh.2⟩
    · rw [List.find?_cons_of_neg (by simpa using e)] at h
      obtain ⟨v, ev, r⟩ := ih h
      exact ⟨v, by rw [valV_neg (by rw [hh.1]; exact e)]; exact ev, r⟩
theorem se_dget {ma mb : ME} (h : PE X o (tDGet (eB G ma) (eB G mb))) : PE X o (eE G (mOp2 getD' ma mb)) := pe_imp h fun σ H Q ⟨F, M, ρ, S, hk, sl, d, S', e, q⟩ => by
  obtain ⟨d1, S1, d2, e1, e2, e3⟩ := mOp2_some e
  refine two_bb hk sl e1 e2 fun x y H' F' hk' le r1 r2 => ?_
  unfold getD' at e3
  split at e3
  · split at e3
    · rename_i ks
      obtain ⟨k, ek, e3⟩ := Option.bind_eq_some_iff.mp e3
      obtain ⟨a, us, rfl, eo, r⟩ := r1.undT hk'
      obtain ⟨ka, kvs, rfl, eka, rk⟩ := (r2.rep hk' (fun z => nomatch z)).untup'
      have hkv := repL_keys rk ek
      subst hkv
      obtain ⟨v, ev, rv⟩ := find_repP r k e3
      exact ⟨a, v, rfl, by rw [← ev]; exact DGet.t eo (hk'.sub _ _ eka), q v H' F' hk' le rv⟩
    · cases e3
  · obtain ⟨k, ek, e3⟩ := Option.bind_eq_some_iff.mp e3
    obtain ⟨a, us, rfl, eo, r⟩ := r1.undK hk'
    have rr : Rep G.K F' y d2 := by
      unfold keyD at ek
      split at ek
      · exact r2.flat hk' rfl
      · exact r2.flat hk' rfl
      · cases ek
    have hkv := rep_key rr ek
    subst hkv
    obtain ⟨v, ev, rv⟩ := find_repP r k e3
    exact ⟨a, v, rfl, by rw [← ev]; exact (.inl ⟨_, _, eo, rfl, rfl⟩), q v H' F' hk' le rv⟩
  · split at e3
    · rename_i ks
      obtain ⟨k, ek, e3⟩ := Option.bind_eq_some_iff.mp e3
      obtain ⟨a, rfl, eo, r⟩ := r1.unlT hk'
      obtain ⟨ka, kvs, rfl, eka, rk⟩ := (r2.rep hk' (fun z => nomatch z)).untup'
      have hkv := repL_keys rk ek
      subst hkv
      obtain ⟨v, ev, rv⟩ := find_repP r k e3
      exact ⟨a, v, rfl, by rw [← ev]; exact .inr ⟨_, _, ka, .inr ⟨_, eo⟩, rfl, hk'.sub _ _ eka, rfl⟩, q v H' F' hk' le rv⟩
    · cases e3
  · cases e3
end
end Dv
namespace Dv
open PySem PySem.Spec PyProof.Rows L2

/-! ### zip of lists and tuples, in any mix -/
/-- the sequence at a: a list (true), a tuple (false) -/
def SqK (K : PySem.W.Frag) (H : Hp) (k : Bool) (a : Addr) (xs : List V) : Prop := match k with
  | true => SqL K H a xs
  | false => SqT K H a xs
def SeqIs (h : Heap) (k : Bool) (a : Addr) (its : Array Value) : Prop := match k with
  | true => h.IsList a its
  | false => h.IsTuple a its
def ItQ (h : Heap) (k : Bool) (it a : Addr) (i : Nat) : Prop := match k with
  | true => h.IsListIter it a i
  | false => h.IsTupleIter it a i
def itO (k : Bool) (a : Addr) : Obj := match k with
  | true => { cls := .type "list_iterator", data := .fields #[.ref a, .int 0 0] }
  | false => { cls := .type "tuple_iterator", data := .fields #[.ref a, .int 0 0] }
theorem seqIs_of {X : Cx} {pins : List (Addr × Obj)} {σ : L2.St} {H : Hp} {s : Shared} {k : Bool} {a : Addr} {xs : List V} (I : Inv X pins σ H s) (h : SqK X.K H k a xs) : ∃ its : List Value, Vals xs its ∧ SeqIs s.heap k a its.toArray := by
  cases k with
  | true => obtain ⟨its, r, p, _⟩ := I.list h; exact ⟨its, r, p.isList⟩
  | false => obtain ⟨its, r, p, _⟩ := I.tuple h; exact ⟨its, r, p⟩
theorem sqk_inj {X : Cx} {pins : List (Addr × Obj)} {σ : L2.St} {H : Hp} {s : Shared} {k : Bool} {a : Addr} {xs ys : List V} (I : Inv X pins σ H s) (h : SqK X.K H k a xs) (h' : SqK X.K H k a ys) : xs = ys := by
  cases k with
  | true => exact I.list_inj h h'
  | false => exact I.tuple_inj h h'
theorem drawsQ {P : Program} {w : World} {A : Around} (hh : A.handled = none) (k : Bool) (it a : Addr) (hne : a ≠ it) (its : Array Value) : Draws P w A it [it, a] its.size (fun i v => its[i]? = some v) (fun i h => ItQ h k it a i ∧ SeqIs h k a its) := by
  cases k with
  | true => exact Draws.list hh it a hne its
  | false => exact Draws.tuple hh it a hne its
theorem beginsQ (k : Bool) (a : Addr) (its : Array Value) : Begins (.ref a) (itO k a) fun h => SeqIs h k a its := by
  cases k with
  | true => exact begins_list a its
  | false => exact begins_tuple a its
theorem ItQ.obj {h : Heap} {k : Bool} {it a : Addr} {i : Nat} (x : ItQ h k it a i) : ∃ o, h.get? it = some o ∧ ∀ v, o.data ≠ .cell v := by
  cases k with
  | true => obtain ⟨o, e, c, d⟩ := x; exact ⟨o, e, fun v z => by rw [d] at z; cases z⟩
  | false => obtain ⟨o, e, c, d⟩ := x; exact ⟨o, e, fun v z => by rw [d] at z; cases z⟩
theorem ItQ.at {h h' : Heap} {k : Bool} {it a : Addr} {i : Nat} (x : ItQ h k it a i) (hk : ∀ o, h.get? it = some o → h'.get? it = some o) : ItQ h' k it a i := by
  cases k with
  | true => exact (show h.IsListIter it a i from x).at hk
  | false => exact (show h.IsTupleIter it a i from x).at hk
theorem ItQ.new {h' : Heap} {k : Bool} {it a : Addr} (e : h'.get? it = some (itO k a)) : ItQ h' k it a 0 := by
  cases k with
  | true => exact ⟨_, e, rfl, rfl⟩
  | false => exact ⟨_, e, rfl, rfl⟩
theorem SeqIs.lt {h : Heap} {k : Bool} {a : Addr} {its : Array Value} (x : SeqIs h k a its) : a < h.objs.size := by
  cases k with
  | true => obtain ⟨o, e, _⟩ := (show h.IsList a its from x); exact Heap.lt_size e
  | false => obtain ⟨o, e, _⟩ := (show h.IsTuple a its from x); exact Heap.lt_size e
theorem seq_ne {h : Heap} {k k' : Bool} {a b it : Addr} {its : Array Value} {i : Nat} (x : SeqIs h k a its) (y : ItQ h k' it b i) : a ≠ it := fun e => by
  subst e
  have h1 : ∃ o, h.get? a = some o ∧ (o.cls = .type "list" ∨ o.cls = .type "tuple") := by
    cases k with
    | true => obtain ⟨o, e, c, _⟩ := (show h.IsList a its from x); exact ⟨o, e, .inl c⟩
    | false => obtain ⟨o, e, c, _⟩ := (show h.IsTuple a its from x); exact ⟨o, e, .inr c⟩
  have h2 : ∃ o, h.get? a = some o ∧ (o.cls = .type "list_iterator" ∨ o.cls = .type "tuple_iterator") := by
    cases k' with
    | true => obtain ⟨o, e, c, _⟩ := (show h.IsListIter a b i from y); exact ⟨o, e, .inl c⟩
    | false => obtain ⟨o, e, c, _⟩ := (show h.IsTupleIter a b i from y); exact ⟨o, e, .inr c⟩
  obtain ⟨o, e1, c1⟩ := h1
  obtain ⟨o2, e2, c2⟩ := h2
  rw [e1] at e2
  cases e2
  rcases c1 with c1 | c1 <;> rcases c2 with c2 | c2 <;> rw [c1] at c2 <;> simp at c2
def ItzQ (K : PySem.W.Frag) (k1 k2 : Bool) (a b : Addr) : It :=
  ⟨fun i H => ∃ (xs ys : List V) (x y : V), SqK K H k1 a xs ∧ SqK K H k2 b ys ∧ xs[i]? = some x ∧ ys[i]? = some y,
    fun i H v H' => ∃ T x y, v = .ref T ∧ H T = none ∧ H' = upd H T (.tup [x, y]) ∧ (∀ xs, SqK K H k1 a xs → xs[i]? = some x) ∧ ∀ ys, SqK K H k2 b ys → ys[i]? = some y,
    fun i H => ∃ xs ys : List V, SqK K H k1 a xs ∧ SqK K H k2 b ys ∧ i = min xs.length ys.length⟩
theorem sub5 {z TI TO i1 i2 c : Addr} (m : c ∈ [z, TO, i1, i2]) : c ∈ [z, TI, TO, i1, i2] := by
  simp only [List.mem_cons, List.not_mem_nil, or_false] at m ⊢
  rcases m with m | m | m | m
  · exact .inl m
  · exact .inr (.inr (.inl m))
  · exact .inr (.inr (.inr (.inl m)))
  · exact .inr (.inr (.inr (.inr m)))
theorem turn_zipQ {P : Program} {w : World} {K : PySem.W.Frag} {elts : List Expr} {kk : Nat} {tpos : Pos} {k1 k2 : Bool} {a b z TI TO i1 i2 : Addr} (D : ZipSep2 z TI TO i1 i2 [i1, a] [i2, b]) :
    Turn P w K (.Tuple elts kk tpos) (ItzQ K k1 k2 a b) [z, TI, TO, i1, i2] z (fun i h => IsZip h z TI TO .none ∧ IsTupOf2 h TI (.ref i1) (.ref i2) ∧ (∃ a1 a2, IsTupOf2 h TO a1 a2) ∧ ItQ h k1 i1 a i ∧ ItQ h k2 i2 b i) where
  mem := by simp
  obj := fun i h st c hc => by
    obtain ⟨hz, hTI, ⟨x, y, hTO⟩, h1, h2⟩ := st
    have e' : c = z ∨ c = TI ∨ c = TO ∨ c = i1 ∨ c = i2 := by simpa using hc
    rcases e' with q | q | q | q | q
    · subst q; exact ⟨_, hz, fun v e => by cases e⟩
    · subst q; exact ⟨_, hTI, fun v e => by cases e⟩
    · subst q; exact ⟨_, hTO, fun v e => by cases e⟩
    · subst q; exact h1.obj
    · subst q; exact h2.obj
  keep := fun i h h' st k => by
    obtain ⟨hz, hTI, ⟨x, y, hTO⟩, h1, h2⟩ := st
    exact ⟨k z (by simp) _ hz, k TI (by simp) _ hTI, ⟨x, y, k TO (by simp) _ hTO⟩, h1.at fun o q => k i1 (by simp) o q, h2.at fun o q => k i2 (by simp) o q⟩
  item := by
    intro X hP hw hK hc i pins s σ H E I hf st hg
    subst hP hw hK
    obtain ⟨hz, hTI, ⟨x0, y0, hTO⟩, h1, h2⟩ := st
    obtain ⟨xs, ys, x, y, hqx, hqy, hx, hy⟩ := hg
    obtain ⟨its, rv, p⟩ := seqIs_of I hqx
    obtain ⟨its2, rv2, p2⟩ := seqIs_of I hqy
    obtain ⟨u, hu, ru⟩ := rv.get hx
    obtain ⟨u2, hu2, ru2⟩ := rv2.get hy
    have hd := I.ok.hd hc
    have ha1 : a ≠ i1 := seq_ne p h1
    have hb2 : b ≠ i2 := seq_ne p2 h2
    have hi1 : i < its.toArray.size := by simpa using (List.getElem?_eq_some_iff.mp hu).1
    have hi2 : i < its2.toArray.size := by simpa using (List.getElem?_eq_some_iff.mp hu2).1
    have W := WalksT.zipD2 (A := X.A) D (drawsQ (P := X.prog) (w := X.w) (A := X.A.in1) hd k1 i1 a ha1 its.toArray) (drawsQ (A := X.A.in1) hd k2 i2 b hb2 its2.toArray)
    refine W.item i s _ E (by omega) ⟨hz, hTI, ⟨x0, y0, hTO⟩, ⟨h1, p⟩, h2, p2⟩ fun T vals h' tk hP hT htup hMid hk => ⟨.ref T, rfl, ?_⟩
    refine W.go elts kk tpos i T { s with heap := h', toks := tk } _ E hMid fun h'' hSt hk2 => ?_
    obtain ⟨x1, x2, e1, e2, rfl⟩ := hP
    have e1' : u = x1 := by rw [List.getElem?_toArray] at e1; rw [hu] at e1; exact Option.some.inj e1
    have e2' : u2 = x2 := by rw [List.getElem?_toArray] at e2; rw [hu2] at e2; exact Option.some.inj e2
    subst e1' e2'
    obtain ⟨hz', hTI', hTO', ⟨h1', _⟩, h2', _⟩ := hSt
    have apT := W.apart i T h' hMid
    have hT2 : h''.IsTuple T #[u, u2] := htup.at fun o e => hk2 T o apT e
    have new : ObjOk X.prog X.w (upd H T (.tup [x, y])) h'' T (.tup [x, y]) := ⟨by show 2 ≤ sizeLine; decide, [u, u2], .cons ru (.cons ru2 .nil), hT2⟩
    have I1 : Inv X pins σ (upd H T (.tup [x, y])) { s with heap := h'', toks := tk } :=
      I.turnedNew (t' := tk) (h' := h'') (ch := [z, TI, TO, i1, i2]) (fun c o hb q => hk2 c o (fun m => hb (sub5 m)) (hk c o (fun m => hb (sub5 m)) q)) hf hT new
    exact ⟨.ref T, _, I1, rfl, ⟨T, x, y, rfl, I.hok.fresh hT, rfl, fun l hl => by rw [sqk_inj I hl hqx]; exact hx, fun l hl => by rw [sqk_inj I hl hqy]; exact hy⟩, ⟨hz', hTI', hTO', h1', h2'⟩, fun c hcm => by
      have hlt : c < s.heap.objs.size := by
        have e' : c = z ∨ c = TI ∨ c = TO ∨ c = i1 ∨ c = i2 := by simpa using hcm
        rcases e' with q | q | q | q | q
        · rw [q]; exact Heap.lt_size hz
        · rw [q]; exact Heap.lt_size hTI
        · rw [q]; exact Heap.lt_size hTO
        · rw [q]; obtain ⟨_, e1, _⟩ := h1.obj; exact Heap.lt_size e1
        · rw [q]; obtain ⟨_, e2, _⟩ := h2.obj; exact Heap.lt_size e2
      rw [upd_ne (Nat.ne_of_lt (Nat.lt_of_lt_of_le hlt hT))]
      exact (hf c hcm).1⟩
  done := by
    intro X hP hw hK hc i pins s σ H E I hf st hg
    subst hP hw hK
    obtain ⟨hz, hTI, hTO, h1, h2⟩ := st
    obtain ⟨xs, ys, hqx, hqy, hx⟩ := hg
    obtain ⟨its, rv, p⟩ := seqIs_of I hqx
    obtain ⟨its2, rv2, p2⟩ := seqIs_of I hqy
    have hd := I.ok.hd hc
    have W := WalksT.zipD2 (A := X.A) D (drawsQ (P := X.prog) (w := X.w) (A := X.A.in1) hd k1 i1 a (seq_ne p h1) its.toArray) (drawsQ (A := X.A.in1) hd k2 i2 b (seq_ne p2 h2) its2.toArray)
    have l1 := rv.length
    have l2 := rv2.length
    have hi : i = min its.toArray.size its2.toArray.size := by simp only [List.size_toArray]; omega
    subst hi
    exact W.done s _ E ⟨hz, hTI, hTO, ⟨h1, p⟩, h2, p2⟩ fun h' tk hk => ⟨rfl, I.turnedL (t' := tk) (ch := [z, TI, TO, i1, i2]) (fun c o hb q => hk c o (fun m => hb (sub5 m)) q) hf⟩
  self := fun _ _ _ _ _ st hq => wpAny_pyIter_zip st.1 hq
def iZipQ (K : PySem.W.Frag) (ta : TA) : TI := fun σ H R => ta σ H fun vs H1 => ∃ k1 k2 a b xs ys, vs = [.ref a, .ref b] ∧ SqK K H1 k1 a xs ∧ SqK K H1 k2 b ys ∧ R (ItzQ K k1 k2 a b) H1
theorem pi_zip2 {X : Cx} {e e2 : Expr} {ta : TA} {p pos tpos : Pos} {elts : List Expr} {kk : Nat} (hg : Gl X "zip") (hm : X.mg "zip" = none) (ha : PA X [e, e2] ta)
    (hs : starEach [e, e2] X.env = (false, eval e X.env) :: starEach [e2] X.env := by rfl) (hpl : (backTo pos (starEach [e2] X.env)).any (·.1) = false := by rfl) :
    PI X (.Tuple elts kk tpos) (.Call (.Name "zip" p) [e, e2] [] pos) (iZipQ X.K ta) := by
  refine ⟨fun pins s σ H R I h => ?_⟩
  refine Call_ (ld_blt I hg hm PyProof.Rows.boot_zip (PyProof.Rows.callWith_type1 (thn (ha.run pos pins s σ H _ I h) fun us s1 ⟨vs, H1, I1, r1, q1⟩ => ?_) hs hpl))
  obtain ⟨k1, k2, a, b, xs, ys, ex, hqx, hqy, q⟩ := q1
  subst ex
  cases r1 with
  | cons r rr =>
    cases rr with
    | cons r' rr =>
      cases rr
      cases r
      cases r'
      obtain ⟨its, rv, p1⟩ := seqIs_of I1 hqx
      obtain ⟨its2, rv2, p2⟩ := seqIs_of I1 hqy
      have la : a < s1.heap.objs.size := p1.lt
      have lb : b < s1.heap.objs.size := p2.lt
      refine zip_begins2 (beginsQ k1 a its.toArray) (beginsQ k2 b its2.toArray) p1 p2 fun h' hz hTI hTO h1 h2 hsz hk => wpAny_pyIter_zip hz ?_
      have I2 : Inv X pins σ H1 { s1 with heap := h' } := I1.kept (t' := s1.toks) hk
      have D := zip_sep2 (N := s1.heap.objs.size) (fp1 := [a]) (fp2 := [b]) (fun c hc => by rw [List.mem_singleton.mp hc]; exact la) (fun c hc => by rw [List.mem_singleton.mp hc]; exact lb)
      refine ⟨s1.heap.objs.size + 4, [s1.heap.objs.size + 4, s1.heap.objs.size + 2, s1.heap.objs.size + 3, s1.heap.objs.size, s1.heap.objs.size + 1], _, _, H1, rfl, I2, turn_zipQ D, ⟨hz, hTI, ⟨_, _, hTO⟩, ItQ.new h1, ItQ.new h2⟩, fun c hcm => ?_, q⟩
      have e' : c = s1.heap.objs.size + 4 ∨ c = s1.heap.objs.size + 2 ∨ c = s1.heap.objs.size + 3 ∨ c = s1.heap.objs.size ∨ c = s1.heap.objs.size + 1 := by simpa using hcm
      have hle : s1.heap.objs.size ≤ c := by
        rcases e' with z | z | z | z | z
        · rw [z]; exact Nat.le_add_right _ _
        · rw [z]; exact Nat.le_add_right _ _
        · rw [z]; exact Nat.le_add_right _ _
        · rw [z]; exact Nat.le_refl _
        · rw [z]; exact Nat.le_add_right _ _
      exact I1.fpOk hle (I1.hok.fresh hle)
section
variable {G : Gh} {X : Cx} {e a b c o : Expr} {es : List Expr} {pos p2 : Pos} {st : Stmt}
theorem rep_sqk {H F : Hp} {v : V} {d : D} {ds : List D} (le : Le F H) (r : Rep G.K F v d) (e : itemsD d = some ds) : ∃ k a vs, v = .ref a ∧ (∀ H', Le F H' → SqK G.K H' k a vs) ∧ RepL G.K F vs ds ∧ ds.length ≤ sizeLine := by
  unfold itemsD at e
  split at e
  · cases e
    have hz := r.size (.inl rfl)
    obtain ⟨a, vs, rfl, q, r⟩ := r.untup (d := .tup _) rfl
    exact ⟨false, a, vs, rfl, fun H' l => SqT_mono l q, r, hz⟩
  · cases e
    have hz := r.size (.inl rfl)
    obtain ⟨a, vs, rfl, q, r⟩ := r.untup (d := .kt _) rfl
    exact ⟨false, a, vs, rfl, fun H' l => SqT_mono l q, r, hz⟩
  · cases e
    have hz := r.size (.inl rfl)
    obtain ⟨a, vs, rfl, q, r⟩ := r.untup (d := .tx _) rfl
    exact ⟨false, a, vs, rfl, fun H' l => SqT_mono l q, r, hz⟩
  · cases e
    have hz := r.size (.inr rfl)
    obtain ⟨a, vs, rfl, q, r⟩ := r.unlst
    exact ⟨true, a, vs, rfl, fun H' l => .of (l _ _ q), r, hz⟩
  · cases e
def mZip2 (m : MA) : MA := fun ρ S => (m ρ S).bind fun p => match p.1 with
  | [x, y] => (itemsD x).bind fun xs => (itemsD y).map fun ys => (List.zipWith (fun a b => .tup [a, b]) xs ys, p.2)
  | _ => none
theorem zipWith_get {α β γ : Type} {f : α → β → γ} {xs : List α} {ys : List β} {i : Nat} {x : α} {y : β} (h : xs[i]? = some x) (h' : ys[i]? = some y) : (List.zipWith f xs ys)[i]? = some (f x y) := by
  rw [List.getElem?_zipWith, h, h']
theorem si_zip2 {tg : Expr} {m : MA} (hK : G.K = X.K) (h : PI X tg e (iZipQ G.K (eA G m))) : PI X tg e (iI G (mZip2 m)) := pi_imp h fun σ H R ⟨F, M, ρ, S, hk, sl, ds, S', e, q⟩ => by
  obtain ⟨⟨d1, S1⟩, e1, e2⟩ := Option.bind_eq_some_iff.mp e
  split at e2
  · rename_i x y ed
    obtain ⟨xs, ex, e2⟩ := Option.bind_eq_some_iff.mp e2
    obtain ⟨ys, ey, e2⟩ := Option.map_eq_some_iff.mp e2
    cases e2
    have ed : d1 = [x, y] := ed
    subst ed
    refine ⟨F, M, ρ, S, hk, sl, _, _, e1, fun vs H' F' hk' le r => ?_⟩
    cases r with
    | cons r1 r =>
      cases r with
      | cons r2 r =>
        cases r
        obtain ⟨k1, a, us, rfl, s1, rl1, z1⟩ := rep_sqk hk'.sub r1 ex
        obtain ⟨k2, b, us', rfl, s2, rl2, z2⟩ := rep_sqk hk'.sub r2 ey
        have l1 := Paired.length rl1
        have l2 := Paired.length rl2
        refine ⟨k1, k2, a, b, us, us', rfl, s1 _ hk'.sub, s2 _ hk'.sub, q _ _ _ hk' le ⟨?_, fun i H hi l => ?_, fun H l => ?_, fun i H v H' F2 M2 S2 hi hk2 l2' y => ?_⟩⟩
        · rw [List.length_zipWith]; omega
        · rw [List.length_zipWith] at hi
          exact ⟨us, us', us[i]'(by omega), us'[i]'(by omega), s1 _ l, s2 _ l, List.getElem?_eq_getElem _, List.getElem?_eq_getElem _⟩
        · exact ⟨us, us', s1 _ l, s2 _ l, by rw [List.length_zipWith]; omega⟩
        · obtain ⟨T, x, y, rfl, hT, rfl, hx, hy⟩ := y
          have gx := hx _ (s1 _ (l2'.trans hk2.sub))
          have gy := hy _ (s2 _ (l2'.trans hk2.sub))
          obtain ⟨dx, edx, rx⟩ := paired_get'' rl1 gx
          obtain ⟨dy, edy, ry⟩ := paired_get'' rl2 gy
          have lu := le_upd (o := .tup [x, y]) (hk2.fnone hT)
          exact ⟨_, _, hk2.laid hT, lu, zipWith_get edx edy, .mkTup upd_same (show 2 ≤ sizeLine by decide) (.cons (rx.mono (l2'.trans lu)) (.cons (ry.mono (l2'.trans lu)) .nil))⟩
  · cases e2
/-- enumerate(a list) -/
def mEnum (m : MA) : MA := fun ρ S => (m ρ S).bind fun p => match p.1 with
  | [.lst xs] => some (xs.mapIdx fun i d => .tup [.int (i : Nat), d], p.2)
  | _ => none
theorem si_enum {tg : Expr} {m : MA} (h : PI X tg e (iEnum G.K (eA G m))) : PI X tg e (iI G (mEnum m)) := pi_imp h fun σ H R ⟨F, M, ρ, S, hk, sl, ds, S', e, q⟩ => by
  obtain ⟨⟨d1, S1⟩, e1, e2⟩ := Option.bind_eq_some_iff.mp e
  split at e2
  · rename_i xs ed
    cases e2
    have ed : d1 = [.lst xs] := ed
    subst ed
    refine ⟨F, M, ρ, S, hk, sl, _, _, e1, fun vs H' F' hk' le r => ?_⟩
    cases r with
    | cons r1 r =>
      cases r
      have z1 := r1.size (.inr rfl)
      obtain ⟨a, us, rfl, ea, rl⟩ := r1.unlst
      have l1 := Paired.length rl
      refine ⟨a, us, rfl, .of (hk'.sub _ _ ea), q _ _ _ hk' le (walkD_of walk_enum (by rw [List.length_mapIdx]; exact z1) (by rw [List.length_mapIdx]; exact l1) (fun H l => .of (l _ _ ea)) fun i H v H' F2 M2 S2 hi hk2 l2 y => ?_)⟩
      obtain ⟨T, x, y, rfl, hT, rfl, hx, hy⟩ := y
      cases hx
      obtain ⟨dy, edy, ry⟩ := paired_get'' rl hy
      have lu := le_upd (o := .tup [.int (i : Nat), y]) (hk2.fnone hT)
      exact ⟨_, .tup [.int (i : Nat), dy], hk2.laid hT, lu, by rw [List.getElem?_mapIdx, edy]; rfl, .mkTup upd_same (Nat.le_trans (Nat.le_refl 2) (by decide)) (.cons (.int _) (.cons (ry.mono (l2.trans lu)) .nil))⟩
  · cases e2
end
end Dv
namespace Dv
open PySem PySem.Spec PyProof.Rows L2
section
variable {G : Gh} {X : Cx} {e a b c o : Expr} {es : List Expr} {pos p2 : Pos} {st : Stmt}
/-! ### a statement of an expression alone; a comprehension stored -/
def sExpr (m : ME) : MS := fun ρ S => (m ρ S).map fun p => (.nx, ρ, p.2)
theorem ss_expr {m : ME} (h : PS X st (tDrop (eE G m))) : PS X st (sS G (sExpr m)) := ps_imp h fun D σ H ⟨F, M, ρ, S, hk, sl, fl, ρ', S', e, q⟩ => by
  obtain ⟨⟨d, S1⟩, e1, e⟩ := Option.map_eq_some_iff.mp e
  cases e
  exact ⟨F, M, ρ, S, hk, sl, d, S1, e1, fun v H' F' hk' le r => q H' F' M hk' le σ (sl.mono le)⟩
section
variable {i : Nat} {y : Str} {py spos : Pos} {tg elt iter : Expr} {ifs : List Expr} {scope : Scope} {own : List (Str × Nat)} {mi : MA} {is : List Nat} {g : MG} {t : MT} {m : ME}
theorem ss_setLcF (hc : X.calm = true) (hN : X.N.Nodup) (hi : PI X tg iter (iI G mi)) (ok : BlkOk X.N X.env.scope scope own)
    (hg : ∀ (s : Shared) (H : Hp) (C : Addr) (cl : List (Str × Addr)) (fp : List Addr), PG (X.blk s H scope (compEnvC scope cl C X.env) fp) tg (eG G is g)) (ht : ∀ (s : Shared) (H : Hp) (C : Addr) (cl : List (Str × Addr)) (fp : List Addr), PTs (X.blk s H scope (compEnvC scope cl C X.env) fp) ifs (eT G t))
    (he : ∀ (s : Shared) (H : Hp) (C : Addr) (cl : List (Str × Addr)) (fp : List Addr), PE (X.blk s H scope (compEnvC scope cl C X.env) fp) elt (eE G m)) (hs : ∀ i ∈ is, i ∈ own.map (·.2)) (hy : X.N[i]? = some y := by rfl) (hyl : X.env.scope.names.lookup y = some .local := by rfl)
    (hsw : swapsWith (.ListComp elt [⟨tg, iter, ifs, 0⟩] scope pos) (some (.Name y py)) spos.line X.env = pure true := by exact sw_true rfl rfl rfl (by decide +kernel)) (hf : ∀ x, foldedSetIterable iter X.env x = pure x := by intro _; rfl) :
    PS X (.Assign [.Name y py] (.ListComp elt [⟨tg, iter, ifs, 0⟩] scope pos) spos) (sS G (sSetF i (mLc mi (own.map (·.2)) g t m))) :=
  ps_imp (ps_setLc hc hN hy hyl hsw (sc_of hi) ok hg ht he hf) fun D σ H h => lc_imp hs σ H _ (setF_imp D σ H h)
theorem ss_setLc (hc : X.calm = true) (hN : X.N.Nodup) (hi : PI X tg iter (iI G mi)) (ok : BlkOk X.N X.env.scope scope own)
    (hg : ∀ (s : Shared) (H : Hp) (C : Addr) (cl : List (Str × Addr)) (fp : List Addr), PG (X.blk s H scope (compEnvC scope cl C X.env) fp) tg (eG G is g)) (ht : ∀ (s : Shared) (H : Hp) (C : Addr) (cl : List (Str × Addr)) (fp : List Addr), PTs (X.blk s H scope (compEnvC scope cl C X.env) fp) ifs (eT G t))
    (he : ∀ (s : Shared) (H : Hp) (C : Addr) (cl : List (Str × Addr)) (fp : List Addr), PE (X.blk s H scope (compEnvC scope cl C X.env) fp) elt (eE G m)) (hs : ∀ i ∈ is, i ∈ own.map (·.2)) (hy : X.N[i]? = some y := by rfl) (hyl : X.env.scope.names.lookup y = some .local := by rfl)
    (hsw : swapsWith (.ListComp elt [⟨tg, iter, ifs, 0⟩] scope pos) (some (.Name y py)) spos.line X.env = pure true := by exact sw_true rfl rfl rfl (by decide +kernel)) (hf : ∀ x, foldedSetIterable iter X.env x = pure x := by intro _; rfl) :
    PS X (.Assign [.Name y py] (.ListComp elt [⟨tg, iter, ifs, 0⟩] scope pos) spos) (sS G (sSet i (mLc mi (own.map (·.2)) g t m))) :=
  ps_imp (ps_setLc hc hN hy hyl hsw (sc_of hi) ok hg ht he hf) fun D σ H h => lc_imp hs σ H _ (by
    obtain ⟨F, M, ρ, S, hk, sl, d, S', e, q⟩ := set_imp D σ H h
    exact ⟨F, M, ρ, S, hk, sl, d, S', e, fun a H' F' hk' n le => by
      obtain ⟨o, eo, nf, ro, hk2⟩ := hk'.freeze updO_same
      exact q _ H' _ (heap_unown hk2 n) (le.trans (le_upd nf)) ((ro.mono (le_upd nf)).rep upd_same)⟩)
end
/-- xs[::-1] of a list -/
def revL : D → Option D
  | .lst ds => some (.lst ds.reverse)
  | _ => none
theorem sf_revL {m : ME} (h : PE X o (tRevL G.K (eB G m))) : PE X o (eF G (mOp1 revL m)) := pe_imp h fun σ H Q ⟨F, M, ρ, S, hk, sl, d, S', e, q⟩ => by
  obtain ⟨d1, e1, e2⟩ := mOp1_some e
  refine ⟨F, M, ρ, S, hk, sl, d1, S', e1, fun v H' F' hk' le r => ?_⟩
  unfold revL at e2
  split at e2
  · cases e2
    have r0 := r
    obtain ⟨a, us, rfl, ea, rl⟩ := r.unlst hk'
    exact ⟨a, us, rfl, .of ea, fun p hp => q p _ F' (hk'.laidO hp (.lst (by rw [List.length_reverse]; exact r0.size hk' (.inr rfl)) (paired_rev rl))) (hk'.mnone hp) le⟩
  · cases e2

/-! ### targets that change an owned list -/
abbrev MH := D → Lo → Sg → Option (Lo × Sg)
abbrev MHs := List D → Lo → Sg → Option (Lo × Sg)
def eH (G : Gh) (h : MH) : TG := fun v σ H Q => ∃ F M ρ S d, HeapOk G H F M S ∧ Slots G.K σ ρ F M ∧ Rep G.K F v d ∧ ∃ ρ' S', h d ρ S = some (ρ', S') ∧
  ∀ σ' H' F' M', HeapOk G H' F' M' S' → Le F F' → Slots G.K σ' ρ' F' M' → Q σ' H'
def eHs (G : Gh) (h : MHs) : TGs := fun vs σ H Q => ∃ F M ρ S ds, HeapOk G H F M S ∧ Slots G.K σ ρ F M ∧ RepL G.K F vs ds ∧ ∃ ρ' S', h ds ρ S = some (ρ', S') ∧
  ∀ σ' H' F' M', HeapOk G H' F' M' S' → Le F F' → Slots G.K σ' ρ' F' M' → Q σ' H'
def hOf (g : MG) : MH := fun d ρ S => (g d ρ).map fun ρ' => (ρ', S)
theorem sh_of {is : List Nat} {g : MG} (h : PG X e (eG G is g)) : PG X e (eH G (hOf g)) := pg_imp h fun v σ H Q ⟨F, M, ρ, S, d, hk, sl, r, ρ', S', e, q⟩ => by
  obtain ⟨ρ1, e1, e⟩ := Option.map_eq_some_iff.mp e
  cases e
  exact ⟨F, M, ρ, S, d, hk, sl, r, _, e1, fun σ' sl' _ _ => q σ' H F M hk (Same.refl F) sl'⟩
def hIx (i : Nat) (mk : ME) : MH := fun d ρ S => match ρ[i]? with
  | some (some (.own (.lst ds))) => (mk ρ S).bind fun q => match q.1 with
    | .int k => (ixN ds.length k).map fun j => (ρ.set i (some (.own (.lst (ds.set j d)))), q.2)
    | _ => none
  | _ => none
theorem sh_ix {i : Nat} {mk : ME} (h : PG X e (gSub (tVar i) (eE G mk) rSetL)) : PG X e (eH G (hIx i mk)) := pg_imp h fun v σ H Q ⟨F, M, ρ, S, d, hk, sl, r, ρ', S', e, q⟩ => by
  unfold hIx at e
  split at e
  · rename_i ds hi
    obtain ⟨⟨dk, S2⟩, e2, e⟩ := Option.bind_eq_some_iff.mp e
    cases dk with
    | int k =>
      obtain ⟨j, ej, e⟩ := Option.map_eq_some_iff.mp e
      cases e
      obtain ⟨u, ev, x, rfl, em⟩ := sl.at_ _ _ hi
      refine ⟨_, ev, F, M, ρ, S, hk, sl, _, S2, e2, fun w H2 F2 hk2 le2 rw' => ?_⟩
      cases rw'
      obtain ⟨_, _, oo, eo, ro⟩ := hk2.own _ _ _ em
      cases ro with
      | @lst us _ hz rl =>
        have hl := Paired.length rl
        exact ⟨x, us, k, j, rfl, rfl, eo, by rw [hl]; exact ej, q σ _ F2 _ (hk2.write (w' := some i) (o := .lst (us.set j v)) (d' := .lst (ds.set j d)) em (.lst (by rw [List.length_set]; exact hz) (paired_set (r.mono le2) j rl))) le2 (slots_write (sl.mono le2) hi ev em)⟩
    | _ => cases e
  · cases e
def hNl : MHs := fun ds ρ S => match ds with | [] => some (ρ, S) | _ => none
def hCns (g : MH) (gs : MHs) : MHs := fun ds ρ S => match ds with | d :: r => (g d ρ S).bind fun p => gs r p.1 p.2 | [] => none
def hTp (n : Nat) (gs : MHs) : MH := fun d ρ S => match d.asT with | some ds => if ds.length = n then gs ds ρ S else none | none => none
theorem shs_nil : PGs X [] (eHs G hNl) := pgs_imp pgs_nil fun v σ H Q ⟨F, M, ρ, S, ds, hk, sl, r, ρ', S', e, q⟩ => by
  cases r with
  | nil => cases e; exact ⟨rfl, q σ H F M hk (Same.refl F) sl⟩
  | cons _ _ => cases e
theorem shs_cons {g : MH} {gs : MHs} (h1 : PG X e (eH G g)) (h2 : PGs X es (eHs G gs)) (hs : (assignEach (e :: es) X.env).map (·.2) = assign e X.env :: (assignEach es X.env).map (·.2) := by rfl) : PGs X (e :: es) (eHs G (hCns g gs)) :=
  pgs_imp (pgs_cons h1 h2 hs) fun v σ H Q ⟨F, M, ρ, S, ds, hk, sl, r, ρ', S', e, q⟩ => by
    cases r with
    | nil => cases e
    | cons r rs =>
      obtain ⟨⟨ρ1, S1⟩, e1, e2⟩ := Option.bind_eq_some_iff.mp e
      exact ⟨_, _, rfl, F, M, ρ, S, _, hk, sl, r, ρ1, S1, e1, fun σ1 H1 F1 M1 hk1 le1 sl1 => ⟨F1, M1, ρ1, S1, _, hk1, sl1, RepL.mono le1 rs, ρ', S', e2, fun σ2 H2 F2 M2 hk2 le2 sl2 => q σ2 H2 F2 M2 hk2 (le1.trans le2) sl2⟩⟩
theorem sh_tup {gs : MHs} {k n : Nat} (hK : G.K = X.K) (hc : X.calm = true) (h : PGs X es (eHs G gs)) (hn : (assignEach es X.env).length = n := by rfl) (hst : (assignEach es X.env).findIdx? (·.1) = none := by rfl) : PG X (.Tuple es k pos) (eH G (hTp n gs)) :=
  pg_imp (hK ▸ pg_tup hc h hn hst : PG X (.Tuple es k pos) (gTup G.K n (eHs G gs))) fun v σ H Q ⟨F, M, ρ, S, d, hk, sl, r, ρ', S', e, q⟩ => by
    unfold hTp at e
    split at e
    · rename_i ds ed
      split at e
      · rename_i hz
        obtain ⟨a, vs, rfl, hq, rl⟩ := r.untup ed
        exact ⟨a, vs, rfl, SqT_mono hk.sub hq, by rw [Paired.length rl]; exact hz, F, M, ρ, S, ds, hk, sl, rl, ρ', S', e, q⟩
      · cases e
    · cases e
def sAsgH (m : ME) (g : MH) : MS := fun ρ S => (m ρ S).bind fun p => (g p.1 ρ p.2).map fun q => (.nx, q.1, q.2)
theorem ss_asgH {g : MH} {m : ME} (h : PS X st (tAsg (eE G m) (eH G g))) : PS X st (sS G (sAsgH m g)) := ps_imp h fun D σ H ⟨F, M, ρ, S, hk, sl, fl, ρ', S', e, q⟩ => by
  obtain ⟨⟨d, S1⟩, e1, e⟩ := Option.bind_eq_some_iff.mp e
  obtain ⟨⟨ρ1, S2⟩, e2, e⟩ := Option.map_eq_some_iff.mp e
  cases e
  exact ⟨F, M, ρ, S, hk, sl, d, S1, e1, fun v H' F' hk' le r => ⟨F', M, ρ, S1, d, hk', sl.mono le, r, _, _, e2, fun σ' H2 F2 M2 hk2 le2 sl' => q H2 F2 M2 hk2 (le.trans le2) σ' sl'⟩⟩

/-! ### defs as values -/
theorem se_fnv {x : Str} {f : Addr} (hg : Gl X x) (hm : X.mg x = some (.ref f)) (hd : (x == ("__debug__" : Str)) = false := by decide) : PE X (.Name x pos) (eE G (mPure (.fn f))) := se_const (v := .ref f) (pe_glob hg hm rfl hd) fun _ => .fn f
def mCallL (i : Nat) (f : Addr) (fn : List D → Option D) (m : MA) : ME := fun ρ S => match ρ[i]? with
  | some (some (.imm (.fn a))) => if a = f then mCall fn m ρ S else none
  | _ => none
theorem se_callL {i : Nat} {f : Addr} {fn : List D → Option D} {m : MA} {E : XK} (h : PE X o (tCallL i f (spP G.K fn) [] E (eA G m))) : PE X o (eE G (mCallL i f fn m)) := pe_imp h fun σ H Q ⟨F, M, ρ, S, hk, sl, d, S', e, q⟩ => by
  unfold mCallL at e
  split at e
  · rename_i a hi
    split at e
    · rename_i ha
      subst ha
      obtain ⟨v, ev, r⟩ := sl.at_ _ _ hi
      cases r
      exact ⟨ev, call_imp (E := E) σ H Q ⟨F, M, ρ, S, hk, sl, d, S', e, q⟩⟩
    · cases e
  · cases e

/-! ### the draws' stores -/
def sStrest (i : Nat) (m : ME) : MS := fun ρ S => (m ρ S).bind fun p => match p.1, ρ[i]?, p.2 with
  | .int n, some (some (.imm (.rng x))), some r => if x = r.at_ then some (.nx, ρ, some { r with rest := n }) else none
  | _, _, _ => none
def sStturn (i : Nat) (m : ME) : MS := fun ρ S => (m ρ S).bind fun p => match p.1, ρ[i]?, p.2 with
  | .int n, some (some (.imm (.rng x))), some r => if x = r.at_ then some (.nx, ρ, some { r with turn := n }) else none
  | _, _, _ => none
theorem heap_rng {H F : Hp} {M : OMap} {r r' : Rng} (hk : HeapOk G H F M (some r)) (e1 : r'.at_ = r.at_) (e2 : r'.gA = r.gA) (e3 : r'.cA = r.cA) (e4 : r'.great = r.great) (e5 : r'.cells = r.cells) : HeapOk G (upd H r.at_ (.dK (rngDict r'))) F M (some r') := by
  obtain ⟨ra, m1, m2, o1, o2⟩ := hk.rng r rfl
  have hne : r.gA ≠ r.at_ := ne_of ra.hg ra.hat (fun z => nomatch z)
  refine ⟨fun a o e => ?_, fun a w d m => ?_, fun a o e nr => ?_, fun a e => ?_, hk.f0, hk.new, fun r2 e => ?_, fun p hp => ?_⟩
  · rw [upd_ne (ne_of_none e ra.fa)]; exact hk.sub _ _ e
  · obtain ⟨f1, f2, o, e, ro⟩ := hk.own _ _ _ m
    exact ⟨f1, f2, o, by rw [upd_ne (fun z => by rw [z, m1] at m; cases m)]; exact e, ro⟩
  · rw [upd_ne (fun z => by
      subst z
      rcases o1 with o1 | o1
      · exact nr o1
      · rw [o1] at e; cases e)]
    exact hk.ent _ _ e nr
  · by_cases hb : a = r.at_
    · subst hb; rw [upd_same] at e; cases e
    · rw [upd_ne hb] at e; exact hk.trk _ e
  · cases e
    refine ⟨⟨by rw [e1]; exact upd_same, by rw [e2, upd_ne hne, e4]; exact ra.hg, by rw [e3, e5]; exact ra.hc, by rw [e5]; exact ra.hz, by rw [e1]; exact ra.fa, by rw [e2]; exact ra.fg⟩, by rw [e1]; exact m1, by rw [e2]; exact m2, by rw [e1]; exact o1, by rw [e2]; exact o2⟩
  · obtain ⟨t, t1, t2, t3⟩ := hk.tab p hp
    obtain ⟨ps, h1, _⟩ := id t
    exact ⟨tab_upd t ra.hat (ne_of h1 ra.hat (fun z => nomatch z)) (fun _ _ z => by unfold LamX.CodeO at z; cases z), t1, t2, t3.1, t3.2.to (upd_ne (ne_of h1 ra.hat (fun z => nomatch z))) fun _ _ e _ => e⟩
theorem ss_strest {i : Nat} {m : ME} (h : PS X st (sDPut (tVar i) (tC (.str "rest")) (eE G m))) : PS X st (sS G (sStrest i m)) := ps_imp h fun D σ H ⟨F, M, ρ, S, hk, sl, fl, ρ', S', e, q⟩ => by
  obtain ⟨⟨d, S1⟩, e1, e⟩ := Option.bind_eq_some_iff.mp e
  split at e
  · rename_i n x r ed hi es
    split at e
    · rename_i hx
      cases e
      have ed : d = .int n := ed
      have es : S1 = some r := es
      subst ed es hx
      refine ⟨F, M, ρ, S, hk, sl, _, _, e1, fun v H1 F1 hk1 le1 rv => ?_⟩
      cases rv
      obtain ⟨ra, _⟩ := hk1.rng r rfl
      refine ⟨_, rng_slot (r := r) hk sl hi, r.at_, _, rfl, DPut.k (k := Sum.inr "rest") ra.hat (show 4 < sizeLine by decide), ?_⟩
      exact q _ F1 M (heap_rng (r' := { r with rest := n }) hk1 rfl rfl rfl rfl rfl) le1 σ (sl.mono le1)
    · cases e
  · cases e
theorem ss_stturn {i : Nat} {m : ME} (h : PS X st (sDPut (tVar i) (tC (.str "turn")) (eE G m))) : PS X st (sS G (sStturn i m)) := ps_imp h fun D σ H ⟨F, M, ρ, S, hk, sl, fl, ρ', S', e, q⟩ => by
  obtain ⟨⟨d, S1⟩, e1, e⟩ := Option.bind_eq_some_iff.mp e
  split at e
  · rename_i n x r ed hi es
    split at e
    · rename_i hx
      cases e
      have ed : d = .int n := ed
      have es : S1 = some r := es
      subst ed es hx
      refine ⟨F, M, ρ, S, hk, sl, _, _, e1, fun v H1 F1 hk1 le1 rv => ?_⟩
      cases rv
      obtain ⟨ra, _⟩ := hk1.rng r rfl
      refine ⟨_, rng_slot (r := r) hk sl hi, r.at_, _, rfl, DPut.k (k := Sum.inr "turn") ra.hat (show 4 < sizeLine by decide), ?_⟩
      exact q _ F1 M (heap_rng (r' := { r with turn := n }) hk1 rfl rfl rfl rfl rfl) le1 σ (sl.mono le1)
    · cases e
  · cases e
/-- state["great"].pop(0) -/
def mStP (i : Nat) : ME := fun ρ S => match ρ[i]?, S with
  | some (some (.imm (.rng x))), some r => if x = r.at_ then (match r.great with
    | g :: rest => some (.int g, some { r with great := rest })
    | [] => none) else none
  | _, _ => none
theorem se_stP {i : Nat} (h : PE X o (tBM G.K "list" rPopAt (tDGet (tVar i) (tC (.str "great"))) (tCons (tC (.int 0)) tNil))) : PE X o (eE G (mStP i)) := pe_imp h fun σ H Q ⟨F, M, ρ, S, hk, sl, d, S', e, q⟩ => by
  unfold mStP at e
  split at e
  · rename_i x r hi
    split at e
    · rename_i hx
      split at e
      · rename_i g rest eg
        cases e
        subst hx
        obtain ⟨ra, m1, m2, o1, o2⟩ := hk.rng r rfl
        have hne : r.at_ ≠ r.gA := ne_of ra.hat ra.hg (fun z => nomatch z)
        refine ⟨_, rng_slot (r := r) hk sl hi, r.at_, .ref r.gA, rfl, DGet.k (k := Sum.inr "great") ra.hat, .inl ⟨rfl, _, .of ra.hg⟩, r.gA, _, 0, 0, .int g, rfl, rfl, ra.hg, by decide, by decide, ?_, ?_, ?_⟩
        · rw [eg]; exact (ixN_seq (n := _) (i := 0) (j := 0) (by simp [ixN])).1
        · rw [eg]; rfl
        · refine q _ _ F ?_ (Same.refl F) (.int _)
          have he : (r.great.map V.int).eraseIdx 0 = rest.map V.int := by rw [eg]; rfl
          rw [he]
          refine ⟨fun a o e => ?_, fun a w d m => ?_, fun a o e nr => ?_, fun a e => ?_, hk.f0, hk.new, fun r2 e => ?_, fun p hp => ?_⟩
          · rw [upd_ne (ne_of_none e ra.fg)]; exact hk.sub _ _ e
          · obtain ⟨f1, f2, o, e, ro⟩ := hk.own _ _ _ m
            exact ⟨f1, f2, o, by rw [upd_ne (fun z => by rw [z, m2] at m; cases m)]; exact e, ro⟩
          · rw [upd_ne (fun z => by
              subst z
              rcases o2 with o2 | o2
              · exact nr o2
              · rw [o2] at e; cases e)]
            exact hk.ent _ _ e nr
          · by_cases hb : a = r.gA
            · subst hb; rw [upd_same] at e; cases e
            · rw [upd_ne hb] at e; exact hk.trk _ e
          · cases e
            exact ⟨⟨by rw [upd_ne hne]; exact ra.hat, upd_same, ra.hc, ra.hz, ra.fa, ra.fg⟩, m1, m2, o1, o2⟩
          · obtain ⟨t, t1, t2, t3⟩ := hk.tab p hp
            obtain ⟨ps, h1, _⟩ := id t
            exact ⟨tab_upd t ra.hg (ne_of h1 ra.hg (fun z => nomatch z)) (fun _ _ z => by unfold LamX.CodeO at z; cases z), t1, t2, t3.1, t3.2.to (upd_ne (ne_of h1 ra.hg (fun z => nomatch z))) fun _ _ e _ => e⟩
      · cases e
    · cases e
  · cases e
end
end Dv
namespace Dv
open PySem PySem.Spec PyProof.Rows L2

/-! ### list(zip(a, b)) -/
section
variable {prog : Program} {w : World} {A : Around} {E : Value → Shared → Prop} {s : Shared} {z TI TO i1 i2 : Addr} {fp1 fp2 : List Addr} {n1 n2 i : Nat} {P1 P2 : Nat → Value → Prop} {St1 St2 : Nat → Heap → Prop} {a1 a2 : Value}
/-- A zip whose last tuple is held: its next step gives a fresh pair while both sides have one, and stops when one of them is done. -/
theorem zip_held {T : Addr} {f : Bool} {oT : Obj} {Q : Fin → Shared → Prop} (S : ZipSep2 z TI TO i1 i2 fp1 fp2) (D1 : Draws prog w A i1 fp1 n1 P1 St1) (D2 : Draws prog w A i2 fp2 n2 P2 St2)
    (hz : IsZipHeld s.heap z TI TO T f) (hT : s.heap.get? T = some oT) (hTI : IsTupOf2 s.heap TI (.ref i1) (.ref i2)) (st1 : St1 i s.heap) (st2 : St2 i s.heap) (le1 : i ≤ n1) (le2 : i ≤ n2)
    (more : i < n1 → i < n2 → ∀ x y m tk, P1 i x → P2 i y → IsZipHeld m z TI TO T true → St1 (i + 1) m → St2 (i + 1) m → IsTupOf2 m s.heap.objs.size x y → m.objs.size = s.heap.objs.size + 1 →
      (∀ c o, c ≠ z → c ≠ i1 → c ≠ i2 → s.heap.get? c = some o → m.get? c = some o) → Q (.done (.ret (.ref s.heap.objs.size))) { s with heap := m, toks := tk })
    (stop : i = n1 ∨ i = n2 → ∀ m tk e, (∀ c o, c ≠ z → c ≠ i1 → c ≠ i2 → s.heap.get? c = some o → m.get? c = some o) → (∃ o, m.get? e = some o ∧ o.cls = .type "StopIteration") → E (.ref e) { s with heap := m, toks := tk }) :
    wpAny (model prog w) A (Builtin.«zip.__next__» ⟨[.ref z], []⟩) Q E s := by
  cases s with
  | mk H0 gl ds t0 ou =>
  (show wpAny _ _ (field (.ref z) 2 >>= _) _ _ _); refine wpAny_bind (wpAny_field hz rfl rfl (?_ : wpAny _ _ (field (.ref z) 3 >>= _) _ _ _))
  refine wpAny_bind (wpAny_field hz rfl rfl (wpAny_bind (wpAny_seqItems hTI rfl (wpAny_bind (wpAny_tupleHeld_zip hz hT fun m0 z0 (sb0 : Heap.SameBut z H0 m0) => ?_)))))
  have u1 := D1.over st1 sb0 S.zf1
  have u2 := D2.over st2 sb0 S.zf2
  rw [if_neg Bool.false_ne_true]
  refine wpAny_bind ?_
  simp only [← Array.forIn_toList, List.forIn_nil, List.forIn_cons]
  refine wpAny_bind (wpAny_bind (wpAny_holding (?_ : wpAny _ _ (Builtin.SmallTypes.nextOf (.ref i1) >>= _) _ _ ⟨m0, gl, ds, t0, ou⟩)))
  rcases Nat.lt_or_ge i n1 with l1 | l1
  case inr =>
    have e1 : i = n1 := Nat.le_antisymm le1 l1
    exact wpAny_bind (D1.done ⟨m0, gl, ds, t0, ou⟩ _ _ (e1 ▸ u1) fun m e km ke => stop (.inl e1) m t0 e (fun c o nz na _ p => km c o na (sb0.extBut c o nz p)) ke)
  refine wpAny_bind (D1.item i _ _ _ l1 u1 fun x m1 t1 px v1 (sb1 : Heap.SameBut i1 m0 m1) => wpAny_pure (wpAny_pure ?_))
  have u2' := D2.over u2 sb1 S.sep1_2
  have all1 : ∀ c o, c ≠ z → c ≠ i1 → H0.get? c = some o → m1.get? c = some o := fun c o nz na p => sb1.extBut c o na (sb0.extBut c o nz p)
  refine wpAny_bind (wpAny_bind (wpAny_holding (?_ : wpAny _ _ (Builtin.SmallTypes.nextOf (.ref i2) >>= _) _ _ ⟨m1, gl, ds, t1, ou⟩)))
  rcases Nat.lt_or_ge i n2 with l2 | l2
  case inr =>
    have e2 : i = n2 := Nat.le_antisymm le2 l2
    exact wpAny_bind (D2.done ⟨m1, gl, ds, t1, ou⟩ _ _ (e2 ▸ u2') fun m e km ke => stop (.inr e2) m t1 e (fun c o nz na nb p => km c o nb (all1 c o nz na p)) ke)
  refine wpAny_bind (D2.item i _ _ _ l2 u2' fun y m2 t2 py v2 (sb2 : Heap.SameBut i2 m1 m2) => wpAny_pure (wpAny_pure ?_))
  have all2 : ∀ c o, c ≠ z → c ≠ i1 → c ≠ i2 → H0.get? c = some o → m2.get? c = some o := fun c o nz na nb p => sb2.extBut c o nb (all1 c o nz na p)
  have zz : IsZipHeld m2 z TI TO T true := sb2.extBut z _ S.zi2 (sb1.extBut z _ S.zi1 z0)
  have size : m2.objs.size = H0.objs.size := (sb2.1.trans sb1.1).trans sb0.1
  have w1 := D1.over v1 sb2 S.sep2_1
  refine wpAny_pure ((?_ : wpAny _ _ (newTuple [x, y] >>= _) _ _ _))
  refine wpAny_bind (wpAny_newTuple (wpAny_pure ?_))
  have keep : ∀ c o, m2.get? c = some o → (m2.push { cls := .type "tuple", data := .seq #[x, y] }).get? c = some o := fun c o p => Heap.get?_push_of_some _ p
  have there : IsTupOf2 (m2.push { cls := .type "tuple", data := .seq #[x, y] }) m2.objs.size x y := Heap.get?_push_size m2 rfl
  have now : (m2.push { cls := .type "tuple", data := .seq #[x, y] }).objs.size = m2.objs.size + 1 := by rw [Heap.size_push]
  have fin := more l1 l2 x y _ t2 px py (keep _ _ zz) (D1.frame _ _ _ w1 fun c _ o p => keep c o p) (D2.frame _ _ _ v2 fun c _ o p => keep c o p) (size ▸ there) (now.trans (by rw [size])) fun c o nz na nb p => keep c o (all2 c o nz na nb p)
  exact size ▸ fin

theorem ne_le {L b c : Addr} (h : L ≤ c) (h' : b < L) : c ≠ b := fun e => Nat.lt_irrefl c (Nat.lt_of_lt_of_le (e ▸ h') h)
/-- the zip between two items, the one before held -/
def ZSt (z TI TO i1 i2 S : Addr) (St1 St2 : Nat → Heap → Prop) (i : Nat) (h : Heap) : Prop :=
  IsTupOf2 h TI (.ref i1) (.ref i2) ∧ St1 i h ∧ St2 i h ∧ ((IsZip h z TI TO .none ∧ ∃ a1 a2, IsTupOf2 h TO a1 a2) ∨ ∃ T f oT, IsZipHeld h z TI TO T f ∧ h.get? T = some oT ∧ S < T)
theorem ZSt.keep {S : Addr} {h h' : Heap} (D1 : Draws prog w A i1 fp1 n1 P1 St1) (D2 : Draws prog w A i2 fp2 n2 P2 St2) (x : ZSt z TI TO i1 i2 S St1 St2 i h) (hS : ∀ b ∈ z :: TI :: TO :: (fp1 ++ fp2), b ≠ S)
    (k : ∀ b o, b ≠ S → h.get? b = some o → h'.get? b = some o) : ZSt z TI TO i1 i2 S St1 St2 i h' := by
  obtain ⟨t, s1, s2, r⟩ := x
  refine ⟨k _ _ (hS TI (by simp)) t, D1.frame _ _ _ s1 fun b hb o e => k b o (hS b (by simp [hb])) e, D2.frame _ _ _ s2 fun b hb o e => k b o (hS b (by simp [hb])) e, ?_⟩
  rcases r with ⟨hz, u1, u2, u⟩ | ⟨T, f, oT, hz, hT, lt⟩
  · exact .inl ⟨k _ _ (hS z (by simp)) hz, u1, u2, k _ _ (hS TO (by simp)) u⟩
  · exact .inr ⟨T, f, oT, k _ _ (hS z (by simp)) hz, k _ _ (Nat.ne_of_gt lt) hT, lt⟩
theorem zst_item {L : Addr} {Q : Option Value → Shared → Prop} (S : ZipSep2 z TI TO i1 i2 fp1 fp2) (D1 : Draws prog w A.in1 i1 fp1 n1 P1 St1) (D2 : Draws prog w A.in1 i2 fp2 n2 P2 St2) (x : ZSt z TI TO i1 i2 L St1 St2 i s.heap) (hL : L < s.heap.objs.size)
    (hl : ∀ b ∈ z :: TI :: TO :: (fp1 ++ fp2), b < L) (hlt1 : i < n1) (hlt2 : i < n2)
    (hQ : ∀ x1 x2 h' tk, P1 i x1 → P2 i x2 → ZSt z TI TO i1 i2 L St1 St2 (i + 1) h' → IsTupOf2 h' s.heap.objs.size x1 x2 → h'.objs.size = s.heap.objs.size + 1 →
      (∀ c o, L ≤ c → s.heap.get? c = some o → h'.get? c = some o) → (∀ c o, c ≠ z → c ≠ TO → c ≠ i1 → c ≠ i2 → s.heap.get? c = some o → h'.get? c = some o) → Q (some (.ref s.heap.objs.size)) { s with heap := h', toks := tk }) :
    wpAny (model prog w) A (pyNext (.ref z)) Q E s := by
  obtain ⟨t, s1, s2, r⟩ := x
  have lz := hl z (by simp)
  have lTO := hl TO (by simp)
  have lTI := hl TI (by simp)
  have l1 := hl i1 (by simp [S.mem1])
  have l2 := hl i2 (by simp [S.mem2])
  rcases r with ⟨hz, u1, u2, u⟩ | ⟨T, f, oT, hz, hT, lt⟩
  · refine wpAny_pyNext_zipD2_item S D1 D2 hz t u s1 s2 hlt1 hlt2 fun x1 x2 h' tk p1 p2 hz' hTO' s1' s2' ht hsz hk => ?_
    exact hQ x1 x2 h' tk p1 p2 ⟨hk _ _ S.TIz S.TITO S.TIi1 S.TIi2 t, s1', s2', .inr ⟨_, false, _, hz', ht, hL⟩⟩ ht hsz (fun c o hc e => hk c o (ne_le hc lz) (ne_le hc lTO) (ne_le hc l1) (ne_le hc l2) e) hk
  · have hTt : s.TypeIs (.ref z) "zip" := ⟨_, hz, rfl⟩
    unfold pyNext
    refine wpAny_bind (wpAny_attempt (wpAny_callSpecial?_slot (name := Str.ofString "__next__") hTt F.slot_zip_next
      (wpAny_call_entry F.slot_zip_next hTt F.entry_zip_next
        (zip_held S D1 D2 hz hT t s1 s2 (Nat.le_of_lt hlt1) (Nat.le_of_lt hlt2) (fun _ _ x1 x2 h' tk p1 p2 hz' s1' s2' ht hsz hk => ⟨_, rfl, wpAny_pure ?_⟩) fun he => absurd he (by omega)) (F.args_zip_next_1 _))))
    exact hQ x1 x2 h' tk p1 p2 ⟨hk _ _ S.TIz S.TIi1 S.TIi2 t, s1', s2', .inr ⟨_, true, _, hz', hk _ _ (ne_le (Nat.le_of_lt lt) lz) (ne_le (Nat.le_of_lt lt) l1) (ne_le (Nat.le_of_lt lt) l2) hT, lt⟩⟩ ht hsz (fun c o hc e => hk c o (ne_le hc lz) (ne_le hc l1) (ne_le hc l2) e) (fun c o c1 _ c2 c3 e => hk c o c1 c2 c3 e)
theorem zst_done {L : Addr} {Q : Option Value → Shared → Prop} (S : ZipSep2 z TI TO i1 i2 fp1 fp2) (D1 : Draws prog w A.in1 i1 fp1 n1 P1 St1) (D2 : Draws prog w A.in1 i2 fp2 n2 P2 St2) (x : ZSt z TI TO i1 i2 L St1 St2 i s.heap)
    (hle1 : i ≤ n1) (hle2 : i ≤ n2) (hend : i = n1 ∨ i = n2)
    (hQ : ∀ h' tk, (∀ c o, c ≠ z → c ≠ TO → c ≠ i1 → c ≠ i2 → s.heap.get? c = some o → h'.get? c = some o) → Q none { s with heap := h', toks := tk }) : wpAny (model prog w) A (pyNext (.ref z)) Q E s := by
  obtain ⟨t, s1, s2, r⟩ := x
  rcases r with ⟨hz, u1, u2, u⟩ | ⟨T, f, oT, hz, hT, lt⟩
  · exact wpAny_pyNext_zipD2_end S D1 D2 hz t u s1 s2 hle1 hle2 hend fun h' tk hk => hQ h' tk hk
  · have hTt : s.TypeIs (.ref z) "zip" := ⟨_, hz, rfl⟩
    unfold pyNext
    refine wpAny_bind (wpAny_attempt (wpAny_callSpecial?_slot (name := Str.ofString "__next__") hTt F.slot_zip_next
      (wpAny_call_entry F.slot_zip_next hTt F.entry_zip_next
        (zip_held S D1 D2 hz hT t s1 s2 hle1 hle2 (fun l1 l2 => absurd hend (by omega)) fun _ h' tk e hk he => ?_) (F.args_zip_next_1 _))))
    obtain ⟨o, ho, hc⟩ := he
    refine wpAny_bind (wpAny_isInstance (T := "StopIteration") (b := true) ⟨o, ho, hc⟩ isSubtype_stop ?_)
    exact wpAny_pure (hQ _ _ fun c o c1 _ c2 c3 e => hk c o c1 c2 c3 e)
end

/-- the pairs given out -/
structure ZipG (xs ys : List Value) (lo : Addr) (h : Heap) (as : List Addr) : Prop where
  rise : as.Pairwise (· < ·)
  above : ∀ a ∈ as, lo < a
  pairs : ∀ (j : Nat) (a : Addr), as[j]? = some a → ∃ x y, xs[j]? = some x ∧ ys[j]? = some y ∧ IsTupOf2 h a x y
theorem ZipG.there {xs ys : List Value} {lo : Addr} {h : Heap} {as : List Addr} (g : ZipG xs ys lo h as) {a : Addr} (ha : a ∈ as) : a < h.objs.size := by
  obtain ⟨j, hj⟩ := List.mem_iff_getElem?.mp ha
  obtain ⟨_, _, _, _, e⟩ := g.pairs j a hj
  exact Heap.lt_size e
theorem ZipG.keep {xs ys : List Value} {lo : Addr} {h h' : Heap} {as : List Addr} (g : ZipG xs ys lo h as) (k : ∀ b o, lo < b → h.get? b = some o → h'.get? b = some o) : ZipG xs ys lo h' as :=
  ⟨g.rise, g.above, fun j a e => let ⟨x, y, e1, e2, e3⟩ := g.pairs j a e; ⟨x, y, e1, e2, k _ _ (g.above a (List.mem_of_getElem? e)) e3⟩⟩
section
variable {prog : Program} {w : World} {A : Around} {E : Value → Shared → Prop} {s : Shared} {R : Result → Shared → Prop} {z TI TO i1 i2 : Addr} {fp1 fp2 : List Addr} {St1 St2 : Nat → Heap → Prop} {xs ys : List Value}
abbrev Zk (z TO i1 i2 : Addr) (h h' : Heap) : Prop := ∀ b o, b ≠ z → b ≠ TO → b ≠ i1 → b ≠ i2 → h.get? b = some o → h'.get? b = some o
theorem zp_loop {L : Addr} (S : ZipSep2 z TI TO i1 i2 fp1 fp2) (D1 : Draws prog w A.in1.in1 i1 fp1 xs.length (fun i v => xs[i]? = some v) St1) (D2 : Draws prog w A.in1.in1 i2 fp2 ys.length (fun i v => ys[i]? = some v) St2)
    (hl : ∀ b ∈ z :: TI :: TO :: (fp1 ++ fp2), b < L) (hn : min xs.length ys.length ≤ sizeLine) (res : Value) {h₁ : Heap}
    (hR : ∀ h' tk acc c as, (∀ b o, b ≠ L → b ≠ z → b ≠ TO → b ≠ i1 → b ≠ i2 → h₁.get? b = some o → h'.get? b = some o) → h'.get? L = some { cls := .type "list", dict := none, data := .seq acc c, slots := #[] } → as.length = min xs.length ys.length → ZipG xs ys L h' as →
      acc.toList = as.map Value.ref → R (.ok (.ret res)) { s with heap := h', toks := tk }) :
    ∀ (k i : Nat) (h : Heap) (tk c : Nat) (acc : Array Value) (as : List Addr), min xs.length ys.length - i = k → i ≤ min xs.length ys.length → ZSt z TI TO i1 i2 L St1 St2 i h → (∀ b o, b ≠ L → b ≠ z → b ≠ TO → b ≠ i1 → b ≠ i2 → h₁.get? b = some o → h.get? b = some o) →
      h.get? L = some { cls := .type "list", dict := none, data := .seq acc c, slots := #[] } → acc.toList = as.map Value.ref → as.length = i → ZipG xs ys L h as →
      codeAny (model prog w) A (.builtin "list.extend.loop" ⟨[.ref L, .ref z, res], []⟩) R { s with heap := h, toks := tk } := by
  have lz := hl z (by simp)
  have lTO := hl TO (by simp)
  have l1 := hl i1 (by simp [S.mem1])
  have l2 := hl i2 (by simp [S.mem2])
  intro k
  induction k with
  | zero =>
    intro i h tk c acc as hk hi hst hkeep hS hacc hal hG
    have hin : i = min xs.length ys.length := by omega
    refine codeAny_builtin PySem.F.entry_extend_loop ?_
    rw [Around.under_plainId PySem.F.plain_extend_loop _]
    show wpAny _ A.in1 (pyNext (.ref z) >>= _) _ _ _
    refine wpAny_bind (zst_done (s := { s with heap := h, toks := tk }) (A := A.in1) (L := L) S D1 D2 hst (by omega) (by omega) (by omega) fun h' tk' he => ?_)
    refine wpAny_pure (hR h' tk' acc c as (fun b o h0 h1 h2 h3 h4 e => he b o h1 h2 h3 h4 (hkeep b o h0 h1 h2 h3 h4 e)) (he L _ (Nat.ne_of_gt lz) (Nat.ne_of_gt lTO) (Nat.ne_of_gt l1) (Nat.ne_of_gt l2) hS) (by omega) (hG.keep fun b o hb e => he b o (ne_le (Nat.le_of_lt hb) lz) (ne_le (Nat.le_of_lt hb) lTO) (ne_le (Nat.le_of_lt hb) l1) (ne_le (Nat.le_of_lt hb) l2) e) hacc)
  | succ k ih =>
    intro i h tk c acc as hk hi hst hkeep hS hacc hal hG
    have hlt : i < min xs.length ys.length := by omega
    have hsz : acc.size = i := by rw [← Array.length_toList, hacc, List.length_map, hal]
    have hLs : L < h.objs.size := Heap.lt_size hS
    refine codeAny_builtin PySem.F.entry_extend_loop ?_
    rw [Around.under_plainId PySem.F.plain_extend_loop _]
    show wpAny _ A.in1 (pyNext (.ref z) >>= _) _ _ _
    refine wpAny_bind (zst_item (s := { s with heap := h, toks := tk }) (L := L) S D1 D2 hst hLs hl (by omega) (by omega) fun x1 x2 h' tk' p1 p2 hst' ht hz hkL hkp => ?_)
    dsimp only at ht hz hkp hkL ⊢
    have hS' := hkL L _ (Nat.le_refl _) hS
    have up : ∀ b o, b ≠ L → h'.get? b = some o → (h'.update L (Obj.mapSeq (·.push (Value.ref h.objs.size)))).get? b = some o := fun b o hb e => (Heap.get?_update_other _ _ (Ne.symm hb)).trans e
    show wpAny _ A.in1 (updateSeq L (·.push (Value.ref h.objs.size)) >>= _) _ _ _
    refine wpAny_bind ?_
    refine wpAny_updateSeq hS' rfl (wpAny_pure ⟨plainId_quiet PySem.F.plain_extend_loop _, ih (i + 1) _ tk' _ (acc.push (Value.ref h.objs.size)) (as ++ [h.objs.size]) (by omega) hlt (hst'.keep D1 D2 (fun b hb => Nat.ne_of_lt (hl b hb)) up)
      (fun b o h0 h1 h2 h3 h4 e => up b o h0 (hkp b o h1 h2 h3 h4 (hkeep b o h0 h1 h2 h3 h4 e))) (Heap.get?_update_self _ hS' rfl) (by rw [Array.toList_push, hacc, List.map_append]; rfl) (by rw [List.length_append, hal]; rfl) ⟨?_, ?_, ?_⟩⟩) (by rw [hsz]; omega) (by show (acc.push (Value.ref h.objs.size)).size ≤ sizeLine + 1; rw [Array.size_push, hsz]; omega)
    · refine List.pairwise_append.mpr ⟨hG.rise, List.pairwise_singleton _ _, fun a ha b hb => ?_⟩
      rw [List.mem_singleton.mp hb]
      exact hG.there ha
    · intro a ha
      rcases List.mem_append.mp ha with ha | ha
      · exact hG.above a ha
      · rw [List.mem_singleton.mp ha]; exact hLs
    · intro j b hj
      rcases Nat.lt_trichotomy j as.length with h1 | h1 | h1
      · rw [List.getElem?_append_left h1] at hj
        obtain ⟨x, y, e1, e2, e3⟩ := hG.pairs j b hj
        have hb := hG.above b (List.mem_of_getElem? hj)
        exact ⟨x, y, e1, e2, up b _ (Nat.ne_of_gt hb) (hkL b _ (Nat.le_of_lt hb) e3)⟩
      · subst h1
        have hb : h.objs.size = b := by simpa using hj
        subst hb
        exact ⟨x1, x2, by rw [hal]; exact p1, by rw [hal]; exact p2, up _ _ (Nat.ne_of_gt hLs) ht⟩
      · have hnone : (as ++ [h.objs.size])[j]? = none := List.getElem?_eq_none (by rw [List.length_append, List.length_singleton]; omega)
        rw [hnone] at hj; cases hj
theorem zp_no_len : typeLookup (.type "zip") "__len__" = pure none := am_miss_of_fast (by decide +kernel)
theorem zp_no_hint : typeLookup (.type "zip") "__length_hint__" = pure none := am_miss_of_fast (by decide +kernel)
theorem zp_extend {L : Addr} (S : ZipSep2 z TI TO i1 i2 fp1 fp2) (D1 : Draws prog w A.in1.in1 i1 fp1 xs.length (fun i v => xs[i]? = some v) St1) (D2 : Draws prog w A.in1.in1 i2 fp2 ys.length (fun i v => ys[i]? = some v) St2)
    (hl : ∀ b ∈ z :: TI :: TO :: (fp1 ++ fp2), b < L) (hn : min xs.length ys.length ≤ sizeLine) (res : Value) (c₀ : Nat)
    (hz : IsZip s.heap z TI TO .none) (hTI : IsTupOf2 s.heap TI (.ref i1) (.ref i2)) {a1 a2 : Value} (hTO : IsTupOf2 s.heap TO a1 a2) (s1 : St1 0 s.heap) (s2 : St2 0 s.heap) (hS : s.heap.get? L = some { cls := .type "list", data := .seq #[] c₀ })
    (hR : ∀ h' tk acc c as, (∀ b o, b ≠ L → b ≠ z → b ≠ TO → b ≠ i1 → b ≠ i2 → s.heap.get? b = some o → h'.get? b = some o) → h'.get? L = some { cls := .type "list", dict := none, data := .seq acc c, slots := #[] } → as.length = min xs.length ys.length → ZipG xs ys L h' as →
      acc.toList = as.map Value.ref → R (.ok (.ret res)) { s with heap := h', toks := tk }) :
    wpAny (model prog w) A.in1 (Builtin.List.listExtendWith (.ref L) (.ref z) res)
      (fun fin s' => match fin with | .done f => R (.ok f) s' | .again c' => c'.quiet = true ∧ codeAny (model prog w) A c' R s') (fun e s' => R (.error e) s') s := by
  have hLz : L ≠ z := Nat.ne_of_gt (hl z (by simp))
  have hT : s.TypeIs (.ref z) "zip" := ⟨_, hz, rfl⟩
  have hlS : ∀ b ∈ z :: TI :: TO :: (fp1 ++ fp2), b ≠ L := fun b hb => Nat.ne_of_lt (hl b hb)
  unfold Builtin.List.listExtendWith
  refine wpAny_bind (wpAny_typeOf hT ?_)
  have h1 : Builtin.List.listSameRef (.ref L) (.ref z) = false := by simp [Builtin.List.listSameRef, hLz]
  have h2 : (Value.type "zip" == Value.type "list") = false := by decide
  have h3 : (Value.type "zip" == Value.type "tuple") = false := by decide
  simp only [h1, h2, h3, Bool.or_false, Bool.false_eq_true, if_false]
  refine wpAny_bind (wpAny_pyIter_zip hz ?_)
  refine wpAny_bind (wpAny_holding ?_)
  unfold Builtin.List.listLengthHint
  refine wpAny_bind (wpAny_specialOf hT zp_no_len ?_)
  show wpAny _ A.in1 (specialOf (Value.ref z) (Str.ofString "__length_hint__") >>= _) _ _ _
  refine wpAny_bind (wpAny_specialOf hT zp_no_hint ?_)
  refine wpAny_pure ?_
  show wpAny _ A.in1 (rule "list.extend.makes-room" >>= fun _ => Builtin.List.listTouch (.ref L) >>= fun _ =>
    again (.builtin "list.extend.loop" ⟨[.ref L, .ref z, res], []⟩)) _ _ _
  refine wpAny_bind (wpAny_rule ?_)
  refine wpAny_bind ?_
  show wpAny _ A.in1 (updateSeq L (·.push .none) >>= fun _ => updateSeq L (·.pop)) _ _ _
  refine wpAny_bind (wpAny_updateSeq hS rfl ?_)
  have hS₂ := Heap.get?_update_self (Obj.mapSeq (·.push Value.none)) hS rfl
  refine wpAny_updateSeq (hz := by seq_fits) hS₂ rfl ?_
  have hS₃ := Heap.get?_update_self (Obj.mapSeq (·.pop)) hS₂ rfl
  have oth : ∀ b o, b ≠ L → s.heap.get? b = some o → ((s.heap.update L (Obj.mapSeq (·.push Value.none))).update L (Obj.mapSeq (·.pop))).get? b = some o :=
    fun b o hb e => (Heap.get?_update_other _ _ (Ne.symm hb)).trans ((Heap.get?_update_other _ _ (Ne.symm hb)).trans e)
  have st0 : ZSt z TI TO i1 i2 L St1 St2 0 s.heap := ⟨hTI, s1, s2, .inl ⟨hz, _, _, hTO⟩⟩
  refine wpAny_pure ⟨plainId_quiet PySem.F.plain_extend_loop _, zp_loop (h₁ := s.heap) (L := L) S D1 D2 hl hn res hR (min xs.length ys.length) 0 _ _ _ #[] [] (Nat.sub_zero _) (Nat.zero_le _) (st0.keep D1 D2 hlS oth) (fun b o h0 _ _ _ _ e => oth b o h0 e) hS₃ rfl rfl
    ⟨List.Pairwise.nil, (fun _ ha => nomatch ha), (fun j a hj => by simp at hj)⟩⟩
theorem zp_call {Q : Value → Shared → Prop} (S : ZipSep2 z TI TO i1 i2 fp1 fp2) (D1 : ∀ A : Around, A.handled = none → Draws prog w A i1 fp1 xs.length (fun i v => xs[i]? = some v) St1) (D2 : ∀ A : Around, A.handled = none → Draws prog w A i2 fp2 ys.length (fun i v => ys[i]? = some v) St2)
    (hh : A.handled = none) (hl : ∀ b ∈ z :: TI :: TO :: (fp1 ++ fp2), b < s.heap.objs.size) (hn : min xs.length ys.length ≤ sizeLine)
    (hz : IsZip s.heap z TI TO .none) (hTI : IsTupOf2 s.heap TI (.ref i1) (.ref i2)) {a1 a2 : Value} (hTO : IsTupOf2 s.heap TO a1 a2) (s1 : St1 0 s.heap) (s2 : St2 0 s.heap)
    (hQ : ∀ h' tk acc c as, (∀ b o, b ≠ z → b ≠ TO → b ≠ i1 → b ≠ i2 → s.heap.get? b = some o → h'.get? b = some o) → h'.get? s.heap.objs.size = some { cls := .type "list", dict := none, data := .seq acc c, slots := #[] } → as.length = min xs.length ys.length → ZipG xs ys s.heap.objs.size h' as →
      acc.toList = as.map Value.ref → Q (.ref s.heap.objs.size) { s with heap := h', toks := tk }) :
    wpAny (model prog w) A (call (.type "list") [.ref z]) Q E s := by
  refine callType_codes (Q₁ := fun obj s₁ => obj = .ref s.heap.objs.size ∧ s₁ = { s with heap := s.heap.push { cls := .type "list", data := .seq #[] } }) PySem.F.called_list (PySem.F.typeCall_list_1 _) PySem.F.entry_list_init
    (code_list_new _ ⟨rfl, rfl⟩) fun obj s₁ h₁ => ?_
  obtain ⟨rfl, rfl⟩ := h₁
  have hS : (s.heap.push { cls := .type "list", data := .seq #[] }).get? s.heap.objs.size = some { cls := .type "list", data := .seq #[] } := Heap.get?_push_size _ rfl
  refine ⟨⟨_, hS, rfl⟩, PySem.F.args_list_init_2 _ _, ?_⟩
  have hsN : ∀ b o, b ≠ s.heap.objs.size → s.heap.get? b = some o → ((s.heap.push { cls := .type "list", data := .seq #[] }).update s.heap.objs.size (Obj.mapSeq (fun _ => (#[] : Array Value)))).get? b = some o := fun b o hb e =>
    (Heap.get?_update_other _ _ (Ne.symm hb)).trans (Heap.get?_push_of_some _ e)
  have ne : ∀ b ∈ z :: TI :: TO :: (fp1 ++ fp2), b ≠ s.heap.objs.size := fun b hb => Nat.ne_of_lt (hl b hb)
  show wpAny _ _ (do let old ← Builtin.List.listItems (.ref s.heap.objs.size); Builtin.List.listUpdate (.ref s.heap.objs.size) (fun _ => #[]); letGo old.toList.reverse; Builtin.List.listExtendWith (.ref s.heap.objs.size) (.ref z) .none) _ _ _
  refine wpAny_bind ?_
  unfold Builtin.List.listItems
  refine wpAny_bind (wpAny_seqItems hS rfl (wpAny_pure ?_))
  show wpAny _ _ (updateSeq s.heap.objs.size (fun _ => #[]) >>= fun _ => letGo (#[] : Array Value).toList.reverse >>= fun _ => Builtin.List.listExtendWith (.ref s.heap.objs.size) (.ref z) .none) _ _ _
  refine wpAny_bind (wpAny_updateSeq hS rfl ?_)
  have hS₂ := Heap.get?_update_self (Obj.mapSeq (fun _ => (#[] : Array Value))) hS rfl
  refine wpAny_bind (wpAny_letGo ?_)
  refine zp_extend S (D1 _ (by simp [hh])) (D2 _ (by simp [hh])) hl hn .none _ (hsN _ _ (ne z (by simp)) hz) (hsN _ _ (ne TI (by simp)) hTI) (hsN _ _ (ne TO (by simp)) hTO)
    ((D1 A hh).frame _ _ _ s1 fun b hb o e => hsN b o (ne b (by simp [hb])) e) ((D2 A hh).frame _ _ _ s2 fun b hb o e => hsN b o (ne b (by simp [hb])) e) hS₂ fun h' tk acc c as hk hS' hlen hG hacc => ?_
  exact ⟨rfl, hQ h' tk acc c as (fun b o h1 h2 h3 h4 e => hk b o (Nat.ne_of_lt (Heap.lt_size e)) h1 h2 h3 h4 (hsN b o (Nat.ne_of_lt (Heap.lt_size e)) e)) hS' hlen hG hacc⟩
end
end Dv
namespace Dv
open PySem PySem.Spec PyProof.Rows L2

/-! ### many new objects at once -/
def lays (H : Hp) : List (Addr × HO) → Hp
  | [] => H
  | (a, o) :: r => upd (lays H r) a o
theorem lays_in {H : Hp} : ∀ {ls : List (Addr × HO)} {b : Addr} {u : HO}, lays H ls b = some u → (b, u) ∈ ls ∨ H b = some u
  | [], _, _, h => .inr h
  | (a, o) :: r, b, u, h => by
    unfold lays at h
    by_cases hb : b = a
    · subst hb; rw [upd_same] at h; cases h; exact .inl List.mem_cons_self
    · rw [upd_ne hb] at h
      rcases lays_in h with h | h
      · exact .inl (List.mem_cons_of_mem _ h)
      · exact .inr h
theorem lays_out {H : Hp} : ∀ {ls : List (Addr × HO)} {b : Addr}, (∀ p ∈ ls, p.1 ≠ b) → lays H ls b = H b
  | [], _, _ => rfl
  | (a, o) :: r, b, h => by
    unfold lays
    rw [upd_ne (Ne.symm (h (a, o) List.mem_cons_self)), lays_out fun p hp => h p (List.mem_cons_of_mem _ hp)]
section
variable {P : Program} {w : World} {H : Hp} {h h' : Heap} {ls : List (Addr × HO)}
theorem HOk.lays (x : HOk P w H h) (k : ∀ b u, h.get? b = some u → h'.get? b = some u) (hp : ∀ p ∈ ls, h.objs.size ≤ p.1) (new : ∀ p ∈ ls, ObjOk P w (lays H ls) h' p.1 p.2) : HOk P w (lays H ls) h' := fun b u e => by
  rcases lays_in e with m | e'
  · exact new _ m
  · have hb : ∀ c u, H c = some u → Dv.lays H ls c = H c := fun c u q => lays_out fun p hm z => by
      have h1 := x.lt q
      have h2 := hp p hm
      rw [z] at h2
      exact Nat.lt_irrefl _ (Nat.lt_of_lt_of_le h1 h2)
    exact (x b u e').stay (fun c v _ q => k c v q) (fun c q => by rw [hb _ _ q]; exact q) fun c xs q => by rw [hb _ _ q]; exact q
theorem Un.lays {fs ex : List Addr} (hf : ∀ b, h.objs.size ≤ b → H b = none) (k : ∀ b u, h.get? b = some u → h'.get? b = some u) (hp : ∀ p ∈ ls, h.objs.size ≤ p.1) : Un fs ex H (lays H ls) h h' := by
  have hlt : ∀ b u, h.get? b = some u → Dv.lays H ls b = H b := fun b u q => lays_out fun p hm z => by
    have h1 := Heap.lt_size q
    have h2 := hp p hm
    rw [z] at h2
    exact Nat.lt_irrefl _ (Nat.lt_of_lt_of_le h1 h2)
  have hH : ∀ b u, H b = some u → Dv.lays H ls b = some u := fun b u q => by
    rw [lays_out fun p hm z => ?_]; exact q
    have h2 := hp p hm
    rw [z] at h2
    rw [hf _ h2] at q; cases q
  exact ⟨fun b u q _ _ _ => k b u q, fun b u q _ _ _ => ⟨u.slots, k b u q⟩, fun b u q n _ => by rw [hlt _ _ q]; exact n, fun b u q _ => ⟨u, k b u q⟩, fun b xs q => hH _ _ q, fun b u xs q => hH _ _ q, fun b ps q => ⟨#[], by rw [hH _ _ q]; simp⟩⟩
theorem Inv.lays {X : Cx} {pins : List (Addr × Obj)} {σ : L2.St} {s : Shared} {t' : Nat} (I : Inv X pins σ H s) (k : ∀ b u, s.heap.get? b = some u → h'.get? b = some u) (hp : ∀ p ∈ ls, s.heap.objs.size ≤ p.1) (new : ∀ p ∈ ls, ObjOk X.prog X.w (lays H ls) h' p.1 p.2) :
    Inv X pins σ (Dv.lays H ls) { s with heap := h', toks := t' } := I.un (Un.lays (fun b hb => I.hok.fresh hb) k hp) (HOk.lays I.hok k hp new)
end

/-! ### list(zip(a, b)) -/
def pairO (as : List Addr) (xs ys : List V) : List (Addr × HO) := as.zip (List.zipWith (fun x y => HO.tup [x, y]) xs ys)
def tListZip (K : PySem.W.Frag) (ta : TA) : TE := fun σ H Q => ta σ H fun vs H1 => ∃ k1 k2 a b xs ys, vs = [.ref a, .ref b] ∧ SqK K H1 k1 a xs ∧ SqK K H1 k2 b ys ∧ min xs.length ys.length ≤ sizeLine ∧
  ∀ (as : List Addr) (p : Addr), as.length = min xs.length ys.length → as.Nodup → p ∉ as → (∀ a ∈ as, H1 a = none) → H1 p = none → Q (.ref p) (upd (lays H1 (pairO as xs ys)) p (.lst (as.map V.ref)))
theorem vals_refs' : ∀ bs : List Addr, Vals (bs.map V.ref) (bs.map Value.ref)
  | [] => .nil
  | _ :: r => .cons rfl (vals_refs' r)
theorem pe_listzip {X : Cx} {e e2 : Expr} {ta : TA} {p p2 pos q : Pos} (hc : X.calm = true) (hg : Gl X "list") (hm : X.mg "list" = none) (hg2 : Gl X "zip") (hm2 : X.mg "zip" = none) (ha : PA X [e, e2] ta)
    (na : starEach [.Call (.Name "zip" p2) [e, e2] [] q] X.env = (false, eval (.Call (.Name "zip" p2) [e, e2] [] q) X.env) :: starEach [] X.env := by rfl)
    (hs : starEach [e, e2] X.env = (false, eval e X.env) :: starEach [e2] X.env := by rfl) (hpl : (backTo q (starEach [e2] X.env)).any (·.1) = false := by rfl) :
    PE X (.Call (.Name "list" p) [.Call (.Name "zip" p2) [e, e2] [] q] [] pos) (tListZip X.K ta) := by
  refine ⟨fun pins s σ H Q I h => ?_⟩
  refine Call_ (ld_blt I hg hm boot_list (PyProof.Rows.callWith_type1 (args_cons ?_ na) na))
  refine Call_ (ld_blt I hg2 hm2 PyProof.Rows.boot_zip (PyProof.Rows.callWith_type1 (thn (ha.run q pins s σ H _ I h) fun us s1 ⟨vs, H1, I1, r1, q1⟩ => ?_) hs hpl))
  obtain ⟨k1, k2, a, b, xs, ys, ex, hqx, hqy, hzl, q1⟩ := q1
  subst ex
  cases r1 with
  | cons r rr =>
    cases rr with
    | cons r' rr =>
      cases rr
      cases r
      cases r'
      obtain ⟨its, rv, p1⟩ := seqIs_of I1 hqx
      obtain ⟨its2, rv2, p2⟩ := seqIs_of I1 hqy
      have la : a < s1.heap.objs.size := p1.lt
      have lb : b < s1.heap.objs.size := p2.lt
      have hd := I1.ok.hd hc
      refine zip_begins2 (beginsQ k1 a its.toArray) (beginsQ k2 b its2.toArray) p1 p2 fun h' hz hTI hTO h1 h2 hsz hk => ?_
      have D := zip_sep2 (N := s1.heap.objs.size) (fp1 := [a]) (fp2 := [b]) (fun c hc => by rw [List.mem_singleton.mp hc]; exact la) (fun c hc => by rw [List.mem_singleton.mp hc]; exact lb)
      refine args_nil ?_
      have l1 : its.length = xs.length := rv.length.symm
      have l2 : its2.length = ys.length := rv2.length.symm
      have pk1 : SeqIs h' k1 a its.toArray := by
        cases k1 with
        | true => exact (show s1.heap.IsList a its.toArray from p1).at fun o e => hk _ _ e
        | false => exact (show s1.heap.IsTuple a its.toArray from p1).at fun o e => hk _ _ e
      have pk2 : SeqIs h' k2 b its2.toArray := by
        cases k2 with
        | true => exact (show s1.heap.IsList b its2.toArray from p2).at fun o e => hk _ _ e
        | false => exact (show s1.heap.IsTuple b its2.toArray from p2).at fun o e => hk _ _ e
      have na' : a ≠ s1.heap.objs.size := Nat.ne_of_lt la
      have nb' : b ≠ s1.heap.objs.size + 1 := Nat.ne_of_lt (Nat.lt_succ_of_lt lb)
      refine zp_call (s := { s1 with heap := h' }) (xs := its) (ys := its2) (St1 := fun i h => ItQ h k1 s1.heap.objs.size a i ∧ SeqIs h k1 a its.toArray) (St2 := fun i h => ItQ h k2 (s1.heap.objs.size + 1) b i ∧ SeqIs h k2 b its2.toArray) D
        (fun A hA => by have z := drawsQ (P := X.prog) (w := X.w) (A := A) hA k1 s1.heap.objs.size a na' its.toArray; simpa using z)
        (fun A hA => by have z := drawsQ (P := X.prog) (w := X.w) (A := A) hA k2 (s1.heap.objs.size + 1) b nb' its2.toArray; simpa using z)
        hd (fun c hc => ?_) (by rw [l1, l2]; exact hzl) hz hTI hTO ⟨ItQ.new h1, pk1⟩ ⟨ItQ.new h2, pk2⟩ fun h'' tk acc c as hk2 hL hlen hG hacc => ?_
      · show c < h'.objs.size
        rw [hsz]
        have e' : c = s1.heap.objs.size + 4 ∨ c = s1.heap.objs.size + 2 ∨ c = s1.heap.objs.size + 3 ∨ c = s1.heap.objs.size ∨ c = a ∨ c = s1.heap.objs.size + 1 ∨ c = b := by simpa using hc
        rcases e' with z | z | z | z | z | z | z <;> rw [z]
        · exact Nat.lt_succ_self _
        · exact Nat.add_lt_add_left (by decide) _
        · exact Nat.add_lt_add_left (by decide) _
        · exact Nat.lt_add_of_pos_right (by decide)
        · exact Nat.lt_of_lt_of_le la (Nat.le_add_right _ _)
        · exact Nat.add_lt_add_left (by decide) _
        · exact Nat.lt_of_lt_of_le lb (Nat.le_add_right _ _)
      · have hsz' : ({ s1 with heap := h' } : Shared).heap.objs.size = s1.heap.objs.size + 5 := hsz
        have keep : ∀ b o, s1.heap.get? b = some o → h''.get? b = some o := fun c o e => by
          have lc := Heap.lt_size e
          exact hk2 c o (Nat.ne_of_lt (Nat.lt_of_lt_of_le lc (Nat.le_add_right _ _))) (Nat.ne_of_lt (Nat.lt_of_lt_of_le lc (Nat.le_add_right _ _))) (Nat.ne_of_lt lc) (Nat.ne_of_lt (Nat.lt_of_lt_of_le lc (Nat.le_add_right _ _))) (hk c o e)
        have hlen' : as.length = min xs.length ys.length := by rw [hlen, l1, l2]
        have hle : s1.heap.objs.size ≤ h'.objs.size := by rw [hsz]; exact Nat.le_add_right _ _
        have habove : ∀ c ∈ as, s1.heap.objs.size ≤ c := fun c hc => Nat.le_of_lt (Nat.lt_of_le_of_lt hle (hG.above c hc))
        have hnd : as.Nodup := hG.rise.imp fun h => Nat.ne_of_lt h
        have hpn : h'.objs.size ∉ as := fun z => Nat.lt_irrefl _ (hG.above _ z)
        have mem : ∀ x ∈ pairO as xs ys, ∃ j a x1 y1, as[j]? = some a ∧ xs[j]? = some x1 ∧ ys[j]? = some y1 ∧ x = (a, HO.tup [x1, y1]) := fun x hx => by
          obtain ⟨j, hj⟩ := List.mem_iff_getElem?.mp hx
          unfold pairO at hj
          rw [List.getElem?_zip_eq_some] at hj
          obtain ⟨e1, e2⟩ := hj
          rw [List.getElem?_zipWith] at e2
          cases ex : xs[j]? with
          | none => rw [ex] at e2; cases e2
          | some x1 =>
            cases ey : ys[j]? with
            | none => rw [ex, ey] at e2; cases e2
            | some y1 =>
              rw [ex, ey] at e2
              have e3 : HO.tup [x1, y1] = x.2 := Option.some.inj e2
              exact ⟨j, x.1, x1, y1, e1, ex, ey, by rw [e3]⟩
        refine ⟨.ref h'.objs.size, _, Dv.Inv.lays (s := s1) (ls := (h'.objs.size, .lst (as.map V.ref)) :: pairO as xs ys) I1 keep (fun x hx => ?_) (fun x hx => ?_), rfl, q1 as h'.objs.size hlen' hnd hpn (fun c hc => I1.hok.fresh (habove c hc)) (I1.hok.fresh hle)⟩
        · rcases List.mem_cons.mp hx with z | z
          · rw [z]; exact hle
          · obtain ⟨j, a, x1, y1, e1, _, _, rfl⟩ := mem x z
            exact habove _ (List.mem_of_getElem? e1)
        · rcases List.mem_cons.mp hx with z | z
          · rw [z]
            exact (show ObjOk X.prog X.w _ _ _ (.lst (as.map V.ref)) from ⟨by rw [List.length_map, hlen']; exact hzl, acc.toList, c, by rw [hacc]; exact vals_refs' _, by rw [Array.toArray_toList]; exact hL⟩)
          · obtain ⟨j, a, x1, y1, e1, ex, ey, rfl⟩ := mem x z
            obtain ⟨u, v, eu, ev, et⟩ := hG.pairs j a e1
            obtain ⟨u', eu', ru⟩ := rv.get ex
            obtain ⟨v', ev', rv'⟩ := rv2.get ey
            rw [eu] at eu'; cases eu'
            rw [ev] at ev'; cases ev'
            exact (show ObjOk X.prog X.w _ _ _ (.tup [x1, y1]) from ⟨by show 2 ≤ sizeLine; decide, [u, v], .cons ru (.cons rv' .nil), (show h''.IsTuple a #[u, v] from ⟨_, et, rfl, _, rfl⟩)⟩)
section
variable {G : Gh} {X : Cx} {e a b c o : Expr} {es : List Expr} {pos p2 : Pos} {st : Stmt}
theorem HeapOk.laidPairs {H F : Hp} {M : OMap} {S : Sg} (hk : HeapOk G H F M S) : ∀ {as : List Addr} {us vs : List V} {ds es : List D}, as.length = min us.length vs.length → as.Nodup → (∀ a ∈ as, H a = none) → RepL G.K F us ds → RepL G.K F vs es →
    ∃ F', HeapOk G (lays H (pairO as us vs)) F' M S ∧ Le F F' ∧ RepL G.K F' (as.map V.ref) (List.zipWith (fun x y => D.tup [x, y]) ds es)
  | [], us, vs, ds, es, hl, _, _, r1, r2 => by
    refine ⟨F, hk, Same.refl F, ?_⟩
    cases r1 with
    | nil => exact .nil
    | cons _ _ =>
      cases r2 with
      | nil => exact .nil
      | cons _ _ => simp only [List.length_nil, List.length_cons] at hl; omega
  | a :: as, us, vs, ds, es, hl, hn, hf, r1, r2 => by
    cases r1 with
    | nil => simp at hl
    | @cons u1 _ us1 _ x1 t1 =>
      cases r2 with
      | nil => simp at hl
      | @cons u2 _ us2 _ x2 t2 =>
        obtain ⟨F', hk', le, rl⟩ := HeapOk.laidPairs hk (as := as) (by simp only [List.length_cons] at hl; omega) (List.nodup_cons.mp hn).2 (fun c hc => hf c (List.mem_cons_of_mem _ hc)) t1 t2
        have hna : lays H (pairO as us1 us2) a = none := (lays_out fun p hp z => by
          unfold pairO at hp
          have : p.1 ∈ as := (List.of_mem_zip hp).1
          rw [z] at this
          exact (List.nodup_cons.mp hn).1 this).trans (hf a List.mem_cons_self)
        have lu := le_upd (o := HO.tup [u1, u2]) (hk'.fnone hna)
        exact ⟨_, hk'.laid hna, le.trans lu, .cons (.mkTup upd_same (show 2 ≤ sizeLine by decide) (.cons (x1.mono (le.trans lu)) (.cons (x2.mono (le.trans lu)) .nil))) (rl.mono lu)⟩
def mLz (m : MA) : ME := fun ρ S => (m ρ S).bind fun p => match p.1 with
  | [x, y] => (itemsD x).bind fun xs => (itemsD y).map fun ys => (.lst (List.zipWith (fun a b => D.tup [a, b]) xs ys), p.2)
  | _ => none
theorem sf_listzip {m : MA} (hK : G.K = X.K) (h : PE X o (tListZip X.K (eA G m))) : PE X o (eF G (mLz m)) := pe_imp h fun σ H Q ⟨F, M, ρ, S, hk, sl, d, S', e, q⟩ => by
  obtain ⟨⟨d1, S1⟩, e1, e2⟩ := Option.bind_eq_some_iff.mp e
  dsimp only at e2
  split at e2
  · rename_i x y
    obtain ⟨xs, ex, e2⟩ := Option.bind_eq_some_iff.mp e2
    obtain ⟨ys, ey, e2⟩ := Option.map_eq_some_iff.mp e2
    cases e2
    refine ⟨F, M, ρ, S, hk, sl, _, _, e1, fun vs H' F' hk' le r => ?_⟩
    cases r with
    | cons r1 r =>
      cases r with
      | cons r2 r =>
        cases r
        obtain ⟨k1, a, us, rfl, s1, rl1, z1⟩ := rep_sqk hk'.sub r1 ex
        obtain ⟨k2, b, us', rfl, s2, rl2, z2⟩ := rep_sqk hk'.sub r2 ey
        have l1 := Paired.length rl1
        have l2 := Paired.length rl2
        rw [← hK]
        refine ⟨k1, k2, a, b, us, us', rfl, s1 _ hk'.sub, s2 _ hk'.sub, by omega, fun as p hlen hnd hp hfr hpf => ?_⟩
        obtain ⟨F2, hk2, le2, rl⟩ := hk'.laidPairs hlen hnd hfr rl1 rl2
        have hpn : lays H' (pairO as us us') p = none := (lays_out fun x hx z => by
          unfold pairO at hx
          have : x.1 ∈ as := (List.of_mem_zip hx).1
          rw [z] at this
          exact hp this).trans hpf
        exact q p _ _ (hk2.laidO hpn (.lst (by rw [List.length_zipWith]; omega) rl)) (hk2.mnone hpn) (le.trans le2)
  · cases e2

/-! ### len(set(t)) of a tuple of different ints -/
def tLenSetT (K : PySem.W.Frag) (ta : TE) : TE := fun σ H Q => ta σ H fun x H1 => ∃ (l : Addr) (ns : List Int), x = .ref l ∧ SqT K H1 l (ns.map V.int) ∧ ns.Nodup ∧ ns.length ≤ 1000 ∧ Q (.int (ns.length : Nat)) H1
theorem pe_lensetT {X : Cx} {a : Expr} {ta : TE} {p p2 q pos : Pos} (hg : Gl X "len") (hm : X.mg "len" = none) (hg2 : Gl X "set") (hm2 : X.mg "set" = none) (ha : PE X a ta) (hc : X.calm = true := by rfl)
    (na : starEach [a] X.env = (false, eval a X.env) :: starEach [] X.env := by rfl) : PE X (.Call (.Name "len" p) [.Call (.Name "set" p2) [a] [] q] [] pos) (tLenSetT X.K ta) := by
  refine ⟨fun pins s σ H Q I h => ?_⟩
  refine Call_ (ld_blt I hg hm boot_len ?_)
  refine PyProof.Rows.callWith_builtin1 (PyProof.Rows.args_cons ?_ rfl) rfl rfl
  refine Call_ (ld_blt I hg2 hm2 boot_set ?_)
  refine PyProof.Rows.callWith_type1 (PyProof.Rows.args_cons (thn (ha.run pins s σ H _ I h) fun v s1 ⟨x, H1, I1, r1, q1⟩ => PyProof.Rows.args_nil ?_) na) na rfl
  obtain ⟨l, ns, rfl, hq, hnd, hl, q1⟩ := q1
  cases r1
  obtain ⟨its, r, pl, hz⟩ := I1.tuple hq
  have hi : IntsAre its.toArray.toList ns := ints_of_vals r
  refine call_set_tupI ns (I1.ok.hd hc) (show s1.heap.IsTuple l its.toArray from pl) hi (by unfold scanBound; omega) fun h' tk c R1 hcn hk => PyProof.Rows.args_nil ?_
  obtain ⟨o, es, ep, t, ho, hex, hdt, g, nd, hm2, hb, hf, hn, hr, hl2⟩ := R1
  have hcc : c = ns.length := by
    have hp : (es.toList.map keyOf).Perm ns := (List.perm_ext_iff_of_nodup nd hnd).mpr fun k => by rw [← hm2 k, decide_eq_true_eq]
    have := hp.length_eq
    rw [List.length_map, Array.length_toList, hn] at this
    exact this
  have I2 : Inv X pins σ H1 { s1 with heap := h', toks := tk } := I1.kept hk
  exact call_len_set ho hex hdt hf (by rw [hn] <;> omega) ⟨.int ns.length, H1, I2.tok _, ⟨_, by rw [hn, hcc]⟩, q1⟩
theorem intsD_map : ∀ {ds : List D} {ns : List Int}, intsD ds = some ns → ds = ns.map D.int
  | [], ns, h => by cases h; rfl
  | d :: r, ns, h => by
    cases d with
    | int i =>
      obtain ⟨m, h1, h2⟩ := Option.map_eq_some_iff.mp h
      subst h2
      rw [intsD_map h1]; rfl
    | _ => cases h
theorem intsD_of (ns : List Int) : intsD (ns.map D.int) = some ns := by
  induction ns with
  | nil => rfl
  | cons n r ih => show (intsD (r.map D.int)).map (n :: ·) = _; rw [ih]; rfl
theorem repl_ints {K : PySem.W.Frag} {F : Hp} : ∀ {ns : List Int} {vs : List V}, RepL K F vs (ns.map D.int) → vs = ns.map V.int
  | [], _, .nil => rfl
  | n :: r, _, .cons h t => by cases h; rw [repl_ints t]; rfl
def lenSetD (d : D) : Option D := d.asT.bind fun ds => (intsD ds).bind fun ns => if ns.Nodup ∧ ns.length ≤ 1000 then some (.int (ns.length : Nat)) else none
theorem se_lenset {m : ME} (hK : G.K = X.K) (h : PE X o (tLenSetT X.K (eB G m))) : PE X o (eE G (mOp1 lenSetD m)) := pe_imp h fun σ H Q ⟨F, M, ρ, S, hk, sl, d, S', e, q⟩ => by
  obtain ⟨d1, e1, e2⟩ := mOp1_some e
  refine ⟨F, M, ρ, S, hk, sl, d1, S', e1, fun v H' F' hk' le r => ?_⟩
  obtain ⟨ds, e3, e2⟩ := Option.bind_eq_some_iff.mp e2
  obtain ⟨ns, e4, e2⟩ := Option.bind_eq_some_iff.mp e2
  split at e2
  · rename_i hc
    cases e2
    obtain ⟨a, vs, rfl, hq, rl⟩ := BRep.untup hk' e3 r
    rw [intsD_map e4] at rl
    rw [repl_ints rl, hK] at hq
    exact ⟨a, ns, rfl, hq, hc.1, hc.2, q _ _ _ hk' le (.int _)⟩
  · cases e2
end
end Dv
namespace Dv
open PySem PySem.Spec PyProof.Rows L2

/-! ### sorted(d), d a dict whose keys are pairs of ints -/
theorem isPair_inj {h : Heap} {v : Value} {x y x' y' : Int} (a : Srt.IsPair h v x y) (b : Srt.IsPair h v x' y') : (x, y) = (x', y') := by
  obtain ⟨a1, o1, t1, u1, n1, e1, h1, c1, d1⟩ := a
  obtain ⟨a2, o2, t2, u2, n2, e2, h2, c2, d2⟩ := b
  rw [e1] at e2; cases e2
  rw [h1] at h2; cases h2
  rw [d1] at d2
  simp at d2
  rw [d2.1.1.1, d2.1.2.1]
open Classical in
noncomputable def pairAt (h : Heap) (v : Value) : Int × Int := if e : ∃ p : Int × Int, Srt.IsPair h v p.1 p.2 then Classical.choose e else (0, 0)
theorem pairAt_is {h : Heap} {v : Value} {p : Int × Int} (e : Srt.IsPair h v p.1 p.2) : pairAt h v = p := by
  have e' : ∃ p : Int × Int, Srt.IsPair h v p.1 p.2 := ⟨p, e⟩
  unfold pairAt
  rw [dif_pos e']
  exact isPair_inj (Classical.choose_spec e') e
def aOf : Value → Addr
  | .ref a => a
  | _ => 0
theorem call_sortedDT {X : Cx} (hcalm : X.calm = true) : CallR X (.builtin "sorted") (fun xs H Q => ∃ (d : Addr) (kvs : List (List Key × V)) (ps : List (Int × Int)), xs = [V.ref d] ∧ Rd H d (.dT kvs) ∧ kvs.map (·.1) = (ps.map fun p => [Sum.inl p.1, Sum.inl p.2]) ∧ kvs.length ≤ sizeLine ∧
    ∀ (qs : List (Int × Int)) (bs : List Addr) (p : Addr), qs.Perm ps → qs.Pairwise (fun x y => SrtO.lexB y x = false) → bs.length = qs.length → (∀ (j : Nat) b q, bs[j]? = some b → qs[j]? = some q → H b = some (.tup [.int q.1, .int q.2])) → H p = none → Q (.ref p) (upd H p (.lst (bs.map V.ref)))) := by
  intro pins s σ H xs us Q I r h
  obtain ⟨d, kvs, ps, rfl, hd, hks, hzl, q⟩ := h
  obtain ⟨u, rfl, rx⟩ := r.one
  cases rx
  obtain ⟨z, hs, ks, pr, o, es, ep, ho, hx, hdt, he, hn⟩ := (show ObjOk X.prog X.w H s.heap d (.dT kvs) from hd.ok I.hok)
  have l1 : es.size = ks.length := size_of_entries he
  have l2 : kvs.length = ks.length := Paired.length pr
  have l3 : ps.length = ks.length := by
    have e := congrArg List.length hks
    rw [List.length_map, List.length_map] at e
    omega
  refine Calls.call_function_entry PyProof.Rows.kind_sorted PyProof.Rows.plain_sorted PyProof.Rows.entry_sorted (PyProof.Rows.args_sorted1 _) ?_
  unfold Builtin.«sorted»
  refine wpAny_bind (m := checkCount "sorted" 1 1 _) (wpAny_pure ?_)
  refine wpAny_bind (PySem.W.kdu_collect (A := X.A.in1) (kdl_raw hs hx hdt) (I.ok.hd hcalm) ho (by omega) fun h' tk acc' kp it => ?_)
  have ea : acc'.toList = ks.map fun x => Value.ref x.2.1 := by
    have hl : acc'.toList.length = ks.length := by rw [Array.length_toList, it.1]; exact l1
    apply List.ext_getElem?
    intro j
    rw [List.getElem?_map]
    cases hj : acc'.toList[j]? with
    | none =>
      have h1 := List.getElem?_eq_none_iff.mp hj
      rw [List.getElem?_eq_none (by omega)]
      all_goals rfl
    | some v =>
      obtain ⟨en, hen, hv⟩ := it.2 j v (by rw [← Array.getElem?_toList]; exact hj)
      have qe := entry_at he j
      rw [hen] at qe
      cases hb : ks[j]? with
      | none =>
        rw [hb] at qe
        exact nomatch (show some en = none from qe)
      | some b =>
        rw [hb] at qe
        have e2 : en = entryOfKey (tupleKind (mixKind X.prog X.w)) b := Option.some.inj qe
        rw [hv, e2]
        all_goals rfl
  have I1 : Inv X pins σ H { s with heap := h', toks := tk } := I.kept kp
  -- what stands at each key
  have at_ : ∀ (j : Nat) (v : Value) (p : Int × Int), acc'.toList[j]? = some v → ps[j]? = some p → ∃ b, v = .ref b ∧ H b = some (.tup [.int p.1, .int p.2]) ∧ Srt.IsPair h' v p.1 p.2 := fun j v p e1 e2 => by
    rw [ea, List.getElem?_map] at e1
    obtain ⟨x, ex, e1⟩ := Option.map_eq_some_iff.mp e1
    obtain ⟨kv, ekv, rk⟩ := paired_get' pr ex
    have ek : (kvs.map (·.1))[j]? = some kv.1 := by rw [List.getElem?_map, ekv]; rfl
    rw [hks, List.getElem?_map, e2] at ek
    have ek : [Sum.inl p.1, Sum.inl p.2] = kv.1 := Option.some.inj ek
    have hb : H x.2.1 = some (.tup [.int p.1, .int p.2]) := by rw [rk.2.1, ← ek]; rfl
    refine ⟨x.2.1, e1.symm, hb, ?_⟩
    obtain ⟨its, rv, ⟨ob, hob, hc, n, hdd⟩, _⟩ := I1.tuple (SqT.of hb)
    cases rv with
    | cons r1 rv =>
      cases rv with
      | cons r2 rv =>
        cases rv
        obtain ⟨t, rfl⟩ := r1
        obtain ⟨u, rfl⟩ := r2
        exact ⟨x.2.1, ob, t, u, n, e1.symm, hob, hc, hdd⟩
  have hla : acc'.toList.length = ps.length := by rw [Array.length_toList, it.1]; omega
  have hkey : acc'.toList.map (pairAt h') = ps := by
    apply List.ext_getElem?
    intro j
    rw [List.getElem?_map]
    cases hj : acc'.toList[j]? with
    | none => rw [List.getElem?_eq_none (by have := List.getElem?_eq_none_iff.mp hj; omega)]; rfl
    | some v =>
      have hjl := (List.getElem?_eq_some_iff.mp hj).1
      have e2 : ps[j]? = some (ps[j]'(by omega)) := List.getElem?_eq_getElem _
      obtain ⟨b, _, _, hp⟩ := at_ j v _ hj e2
      rw [e2]
      show some (pairAt h' v) = _
      rw [pairAt_is hp]
  have hall : ∀ v ∈ acc'.toList, ∃ (b : Addr) (p : Int × Int), v = .ref b ∧ H b = some (.tup [.int p.1, .int p.2]) ∧ Srt.IsPair h' v p.1 p.2 := fun v hv => by
    obtain ⟨j, hj⟩ := List.mem_iff_getElem?.mp hv
    have hjl := (List.getElem?_eq_some_iff.mp hj).1
    obtain ⟨b, e⟩ := at_ j v _ hj (List.getElem?_eq_getElem (by omega : j < ps.length))
    exact ⟨b, ps[j], e⟩
  have hpair : ∀ v ∈ acc'.toList, Srt.IsPair h' v (pairAt h' v).1 (pairAt h' v).2 := fun v hv => by
    obtain ⟨b, p, _, _, hp⟩ := hall v hv
    rw [pairAt_is hp]; exact hp
  refine wpAny_bind (wpAny_newList ?_ (by rw [hla]; omega))
  have hoL : (h'.push (seqObj "list" acc'.toList.toArray 0)).get? h'.objs.size = some (seqObj "list" acc'.toList.toArray 0) := Heap.get?_push_size _ rfl
  have hpair' : ∀ v ∈ acc'.toList, Srt.IsPair (h'.push (seqObj "list" acc'.toList.toArray 0)) v (pairAt h' v).1 (pairAt h' v).2 := fun v hv => (hpair v hv).keeps fun b o e _ => Heap.get?_push_of_some _ e
  show wpAny _ _ _ _ _ { s with heap := h'.push (seqObj "list" acc'.toList.toArray 0), toks := tk }
  refine wpAny_bind (wpAny_holding (wpAny_call_entry PyProof.Rows.slot_list_sort ⟨_, hoL, rfl⟩ PyProof.Rows.entry_list_sort
    (SrtO.list_sort_ord (s := { s with heap := h'.push (seqObj "list" acc'.toList.toArray 0), toks := tk }) (SrtO.swo_lex (pairAt h')) hoL (by rw [hla]; omega) (fun h2 => SrtO.pairs_sortableO (by omega) hpair' fun o e => by rw [hoL] at e; cases e; intro c; exact absurd (Value.type.inj c) (by decide)) fun out hs hb => ⟨_, rfl, ?_⟩)
    (PyProof.Rows.args_list_sort _)))
  obtain ⟨e', he'⟩ := PyProof.Rows.sortedHeap_at (vs := acc'.toList) (out := out.toArray) hoL
  have hmem : ∀ v ∈ out, v ∈ acc'.toList := fun v hv => hb.perm.mem_iff.mp hv
  have hout : out = (out.map aOf).map Value.ref := by
    rw [List.map_map]
    conv => lhs; rw [← List.map_id out]
    apply List.map_congr_left
    intro v hv
    obtain ⟨b, p, rfl, _⟩ := hall v (hmem v hv)
    rfl
  have rv : Vals ((out.map aOf).map V.ref) out := by
    have z := vals_refs' (out.map aOf)
    rw [← hout] at z; exact z
  have hlo : out.length = acc'.toList.length := hb.perm.length_eq
  refine wpAny_pure ⟨_, rfl, .ref h'.objs.size, upd H h'.objs.size (.lst ((out.map aOf).map V.ref)), I1.laid (t' := tk) (fun b u e => ?_) (Nat.le_refl _)
    (show ObjOk X.prog X.w _ _ _ (.lst ((out.map aOf).map V.ref)) from ⟨by rw [List.length_map, List.length_map, hlo, hla]; omega, out, e', rv, he'⟩), rfl,
      q (out.map (pairAt h')) (out.map aOf) _ (by have z := hb.perm.map (pairAt h'); rw [hkey] at z; exact z) (List.pairwise_map.mpr hs) (by rw [List.length_map, List.length_map]) (fun j b p e1 e2 => ?_) (I1.hok.fresh (Nat.le_refl _))⟩
  · have hbl : b < h'.objs.size := Heap.lt_size e
    rw [PyProof.Rows.sortedHeap_old (Nat.ne_of_lt hbl) (by rw [size_push']; exact Nat.lt_succ_of_lt hbl)]
    exact Heap.get?_push_of_some _ e
  · rw [List.getElem?_map] at e1 e2
    obtain ⟨v, hv, rfl⟩ := Option.map_eq_some_iff.mp e1
    rw [hv] at e2
    have e2 : pairAt h' v = p := Option.some.inj e2
    obtain ⟨b, p', rfl, hH, hp⟩ := hall v (hmem v (List.mem_of_getElem? hv))
    rw [pairAt_is hp] at e2
    subst e2
    exact hH

def keyPs : List (List Key × D) → Option (List (Int × Int))
  | [] => some []
  | ([.inl i, .inl j], _) :: r => (keyPs r).map ((i, j) :: ·)
  | _ => none
theorem keyPs_map : ∀ {l : List (List Key × D)} {ps : List (Int × Int)}, keyPs l = some ps → l.map (·.1) = ps.map fun p => [Sum.inl p.1, Sum.inl p.2]
  | [], _, h => by cases h; rfl
  | (k, d) :: r, ps, h => by
    unfold keyPs at h
    split at h
    · rename_i e; cases e
    · rename_i i j _ _ e
      cases e
      obtain ⟨qs, h1, rfl⟩ := Option.map_eq_some_iff.mp h
      show _ :: _ = _ :: _
      rw [keyPs_map h1]
    · cases h
def lexLe (p q : Int × Int) : Bool := !SrtO.lexB q p
theorem lexLe_iff {p q : Int × Int} : lexLe p q = true ↔ ¬ (q.1 < p.1 ∨ (q.1 = p.1 ∧ q.2 < p.2)) := by
  unfold lexLe
  rw [← SrtO.lexB_iff]
  simp
def sortPs (ps : List (Int × Int)) : List (Int × Int) := ps.mergeSort lexLe
theorem sortPs_perm (ps : List (Int × Int)) : (sortPs ps).Perm ps := List.mergeSort_perm _ _
theorem sortPs_eq {qs ps : List (Int × Int)} (h : qs.Perm ps) (s : qs.Pairwise fun x y => SrtO.lexB y x = false) : qs = sortPs ps := by
  refine List.Perm.eq_of_pairwise (le := fun x y => lexLe x y = true) (fun a b _ _ h1 h2 => ?_) (s.imp fun {a b} e => by unfold lexLe; rw [e]; rfl) ?_ (h.trans (sortPs_perm ps).symm)
  · have h1 := lexLe_iff.mp h1
    have h2 := lexLe_iff.mp h2
    have e1 : a.1 = b.1 := by omega
    have e2 : a.2 = b.2 := by omega
    exact Prod.ext e1 e2
  · refine List.pairwise_mergeSort (fun a b c h1 h2 => ?_) (fun a b => ?_) ps
    · have h1 := lexLe_iff.mp h1
      have h2 := lexLe_iff.mp h2
      exact lexLe_iff.mpr (by omega)
    · rw [Bool.or_eq_true]
      by_cases e : lexLe a b = true
      · exact .inl e
      · refine .inr (lexLe_iff.mpr ?_)
        rw [lexLe_iff] at e
        omega
section
variable {G : Gh}
theorem HeapOk.adopts {H : Hp} {M : OMap} {S : Sg} : ∀ {bs : List Addr} {qs : List (Int × Int)} {F : Hp}, HeapOk G H F M S → bs.length = qs.length → (∀ (j : Nat) b q, bs[j]? = some b → qs[j]? = some q → H b = some (.tup [.int q.1, .int q.2])) →
    ∃ F', HeapOk G H F' M S ∧ Le F F' ∧ RepL G.K F' (bs.map V.ref) (qs.map fun q => D.tup [.int q.1, .int q.2])
  | [], [], F, hk, _, _ => ⟨F, hk, Same.refl F, .nil⟩
  | [], _ :: _, _, _, h, _ => by simp at h
  | _ :: _, [], _, _, h, _ => by simp at h
  | b :: bs, q :: qs, F, hk, hl, h => by
    obtain ⟨F1, hk1, le1, rl⟩ := HeapOk.adopts (bs := bs) (qs := qs) hk (by simpa using hl) fun j c r e1 e2 => h (j + 1) c r (by simpa using e1) (by simpa using e2)
    obtain ⟨hk2, le2⟩ := hk1.adopt (h 0 b q rfl rfl)
    exact ⟨_, hk2, le1.trans le2, .cons (.mkTup upd_same (show 2 ≤ sizeLine by decide) (.cons (.int _) (.cons (.int _) .nil))) (rl.mono le2)⟩
/-- sorted(d), d's keys pairs of ints -/
def sortDT : List D → Option D
  | [.dT kvs] => (keyPs kvs).bind fun ps => if kvs.length ≤ 1000000 then some (.lst ((sortPs ps).map fun q => .tup [.int q.1, .int q.2])) else none
  | _ => none
theorem c_sortDT : CBF G (fun xs H Q => ∃ (d : Addr) (kvs : List (List Key × V)) (ps : List (Int × Int)), xs = [V.ref d] ∧ Rd H d (.dT kvs) ∧ kvs.map (·.1) = (ps.map fun p => [Sum.inl p.1, Sum.inl p.2]) ∧ kvs.length ≤ sizeLine ∧
    ∀ (qs : List (Int × Int)) (bs : List Addr) (p : Addr), qs.Perm ps → qs.Pairwise (fun x y => SrtO.lexB y x = false) → bs.length = qs.length → (∀ (j : Nat) b q, bs[j]? = some b → qs[j]? = some q → H b = some (.tup [.int q.1, .int q.2])) → H p = none → Q (.ref p) (upd H p (.lst (bs.map V.ref)))) sortDT := fun vs ds d H F M S Q hk rl e q => by
  unfold sortDT at e
  split at e
  · rename_i kvs
    obtain ⟨ps, e1, e⟩ := Option.bind_eq_some_iff.mp e
    split at e
    · rename_i hz
      cases e
      obtain ⟨v, rfl, r⟩ := brl1 rl
      obtain ⟨a, us, rfl, hq, rp⟩ := r.undT hk
      have hkeys := (RepP.keys rp).trans (keyPs_map e1)
      have hul : us.length = kvs.length := Paired.length rp
      have hpl : ps.length = kvs.length := by have := congrArg List.length (keyPs_map e1); simpa using this.symm
      refine ⟨a, us, ps, rfl, Rd.of hq, hkeys, by rw [hul, sizeLine_eq]; omega, fun qs bs p hp hs hl hb hpn => ?_⟩
      obtain ⟨F1, hk1, le1, rl⟩ := hk.adopts hl hb
      have eq := sortPs_eq hp hs
      rw [← eq] at q
      refine q p _ _ (hk1.laidO hpn (.lst (by rw [List.length_map, hp.length_eq, hpl, sizeLine_eq]; omega) rl)) (hk1.mnone hpn) le1
    · cases e
  · cases e
end

end Dv
namespace Dv
open PySem PySem.Spec PyProof.Rows L2

/-! ### calls with keywords alone -/
/-- the values in the parameters' order: ix tells of each parameter which keyword it is -/
def pick {α : Type} (ix : List Nat) (l : List α) : List α := if l.length = ix.length then ix.filterMap (l[·]?) else []
def only0 {α : Type} (f : List α → List α) : List α → List α → List α
  | [], ws => f ws
  | _ :: _, _ => []
theorem paired_pick {α β : Type} {R : α → β → Prop} {xs : List α} {ys : List β} (ix : List Nat) (h : Paired R xs ys) : Paired R (pick ix xs) (pick ix ys) := by
  have hl := Paired.length h
  unfold pick
  rw [hl]
  split
  · clear hl; rename_i hxx; clear hxx
    induction ix with
    | nil => exact .nil
    | cons i r ih =>
      rw [List.filterMap_cons, List.filterMap_cons]
      cases e : xs[i]? with
      | none =>
        have e' : ys[i]? = none := List.getElem?_eq_none (by rw [← Paired.length h]; exact List.getElem?_eq_none_iff.mp e)
        rw [e']; exact ih
      | some x =>
        obtain ⟨y, e', r⟩ := paired_get'' h e
        rw [e']; exact .cons r ih
  · exact .nil
theorem vals_pick {xs : List V} {us : List Value} (ix : List Nat) (h : Vals xs us) : Vals (pick ix xs) (pick ix us) := paired_pick ix h
/-- a def that is called with keywords alone -/
structure CalK (P : Program) (w : World) (K : PySem.W.Frag) (mg : Str → Option Value) (base : Heap) (k : Nat) (x : Str) (sp : Sp) (ks : List Str) (ix : List Nat) : Prop where
  ex : ∃ (f : Addr) (fd : FuncData) (ps : List Str), FnOk P w K mg base CX0 k f fd ps sp ∧ mg x = some (.ref f) ∧ PySem.W.keepIn K (.ref f) = true ∧ KBinds K fd ps ks (only0 (pick ix)) (only0 (pick ix))
theorem fun_kbinds {K : PySem.W.Frag} {x qual : Str} {st : Stmt} {f : Addr} {fd : FuncData} {ps ks : List Str} {ix : List Nat} (F : Fun K x qual st f fd) (h0 : ps ≠ []) (hk : ks.length = ix.length)
    (h : ∀ (kV doc pm : Value) (an : Option Addr) (cdv ct : Value) (ws : List Value), ws.length = ks.length → bindArgs (PySem.W.fnOf x qual (defArgs st) (defBody st) (defScope st) .none kV doc pm an cdv ct) ⟨[], ks.zip ws⟩ = pure (ps.zip (pick ix ws))) :
    KBinds K fd ps ks (only0 (pick ix)) (only0 (pick ix)) := by
  obtain ⟨oc, od, kV, doc, pm, an, cdv, ct, osl, rfl, lk, hcd⟩ := F.ex
  refine ⟨fun s us ws hi hl => ?_, fun {vs us zs ws} r1 r2 => ?_⟩
  · cases us with
    | cons a r =>
      have e : (0 : Nat) = ps.length := hl
      exact absurd (List.eq_nil_of_length_eq_zero e.symm) h0
    | nil =>
      have hl : (pick ix ws).length = ps.length := hl
      refine BindsTo.of_eq (h kV doc pm an cdv ct ws ?_)
      unfold pick at hl
      split at hl
      · rename_i e; rw [hk, e]
      · exact absurd (List.eq_nil_of_length_eq_zero hl.symm) h0
  · cases r1 with
    | nil => exact vals_pick ix r2
    | cons _ _ => exact .nil
def tCallK0 (sp : Sp) (ix : List Nat) (E : XK) (tk : TA) : TE := fun σ H Q => tk σ H fun zs H2 => sp (pick ix zs) H2 Q E
theorem pe_ck {X : Cx} {k j : Nat} {x : Str} {sp : Sp} {ks : List Str} {ix : List Nat} {p pos : Pos} {kws : List Keyword} {tk : TA} (c : CalK X.prog X.w X.K X.mg X.base k x sp ks ix) (hr : Room j X.A) (hkj : k ≤ j) (hg : Gl X x)
    (hkw : PK X kws tk) (hall : (backToKw pos (keywordEach kws X.env)).all (·.1.isSome) = true := by rfl) (hks : (backToKw pos (keywordEach kws X.env)).filterMap (·.1) = ks := by rfl)
    (hpl : ((backTo pos (starEach [] X.env)).any (·.1) || (backToKw pos (keywordEach kws X.env)).any (·.1.isNone)) = false := by rfl) (hdb : (x == ("__debug__" : Str)) = false := by decide) :
    PE X (.Call (.Name x p) [] kws pos) (tCallK0 sp ix E0 tk) := by
  obtain ⟨f, fd, ps, F, hm, kp, hb⟩ := c.ex
  refine ⟨fun pins s σ H Q I h => wpAny_Call_Name_kw (ld_glob I hg hm ?_ hdb)⟩
  refine PySem.W.callWith_KW0 (h₀ := X.base) I.ok.mod.kin kp hall (thn (hkw.run pos pins s σ H _ I h) fun ws s2 ⟨zs, H2, I2, rz, q2⟩ => ⟨I2.kIn, ?_⟩) hpl
  rw [hks]
  exact run_fnk (us := []) (vs := []) F (hr.mono hkj) hb pass0 I2 .nil rz q2
section
variable {G : Gh} {X : Cx} {e a b c o : Expr} {es : List Expr} {pos p2 : Pos} {st : Stmt} {kws : List Keyword} {nm : Option Str}
theorem pk_imp {t t' : TA} (h : PK X kws t) (i : ∀ σ H Q, t' σ H Q → t σ H Q) : PK X kws t' := ⟨fun pos pins s σ H Q I q => h.run pos pins s σ H Q I (i _ _ _ q)⟩
theorem sk_nil : PK X [] (eA G (mPure [])) := pk_imp pk_nil fun σ H Q ⟨F, M, ρ, S, hk, sl, d, S', e, q⟩ => by cases e; exact q [] H F hk (Same.refl F) .nil
theorem sk_cons {m : ME} {n : MA} (ha : PE X e (eE G m)) (hr : PK X kws (eA G n)) : PK X (⟨nm, e, p2⟩ :: kws) (eA G (mCons m n)) := pk_imp (pk_cons ha hr) fun σ H Q ⟨F, M, ρ, S, hk, sl, ds, S', e, q⟩ => by
  obtain ⟨d, S1, r, e1, e2, rfl⟩ := mCons_some e
  exact ⟨F, M, ρ, S, hk, sl, d, S1, e1, fun v H1 F1 hk1 le1 r1 => ⟨F1, M, ρ, S1, hk1, sl.mono le1, r, S', e2, fun vs H2 F2 hk2 le2 r2 => q _ H2 F2 hk2 (le1.trans le2) (.cons (r1.mono le2) r2)⟩⟩
def mCallK0 (f : List D → Option D) (ix : List Nat) (m : MA) : ME := fun ρ S => (m ρ S).bind fun p => (f (pick ix p.1)).map fun d => (d, p.2)
theorem se_callK0 {f : List D → Option D} {ix : List Nat} {m : MA} {E : XK} (h : PE X o (tCallK0 (spP G.K f) ix E (eA G m))) : PE X o (eE G (mCallK0 f ix m)) := pe_imp h fun σ H Q ⟨F, M, ρ, S, hk, sl, d, S', e, q⟩ => by
  obtain ⟨⟨ds, S1⟩, e1, e⟩ := Option.bind_eq_some_iff.mp e
  obtain ⟨d', e2, e⟩ := Option.map_eq_some_iff.mp e
  cases e
  exact ⟨F, M, ρ, S, hk, sl, ds, _, e1, fun vs H1 F1 hk1 le1 rl => ⟨F1, _, d, hk1.sub, paired_pick ix rl, e2, fun v H' F' sm tr le sub nw r => q v H' F' (heap_called hk1 sm tr le sub nw) (le1.trans le) r⟩⟩

/-! ### the draws begin -/
def mScr (i : Nat) : MA := fun ρ S => (mVar i ρ S).bind fun p => match p.1 with | .scr ns => if ns.length ≤ sizeLine then some (ns.map D.int, p.2) else none | _ => none
theorem si_scr' {tg : Expr} {i : Nat} (hK : G.K = X.K) (h : PE X e (eE G (mVar i))) : PI X tg e (iI G (mScr i)) := si_scr hK h
end
def iabs (i : Int) : Int := if i < 0 then -i else i
def bigOf (ns : List Int) : List Int := (ns.filter fun z => decide ((1000000000000000000 : Int) ≤ iabs z)).map fun z => iabs z - 1000000000000000000
def absOf (ns : List Int) : List Int := ns.map iabs
def mAbs : ME := mCall absD (mCons (mVarB 2) (mPure []))
def mTen : ME := mOp2 powD (mPure (.int 10)) (mPure (.int 18))
def mBig : ME := mLc (mScr 0) [2] (gNm 2) (mTst (mOp2 geD mAbs mTen)) (mOp2 subD mAbs mTen)
def mCel : ME := mLc (mScr 0) [2] (gNm 2) (mPure true) mAbs
theorem mAbs_at {ρ : Lo} {z : Int} {S : Sg} (h : ρ[2]? = some (some (.imm (.int z)))) : mAbs ρ S = some (.int (iabs z), S) := by
  simp [mAbs, mCall, mCons, mVarB, mPure, h, absD, iabs]
theorem mTen_at {ρ : Lo} {S : Sg} : mTen ρ S = some (.int 1000000000000000000, S) := by
  have : powD (.int 10) (.int 18) = some (.int 1000000000000000000) := by simp [powD, liftI2]
  simp [mTen, mOp2, mPure, this]
theorem lc_big {ρ : Lo} {S : Sg} (h : 2 < ρ.length) : ∀ ns : List Int, lcGo ρ (gNm 2) (mTst (mOp2 geD mAbs mTen)) (mOp2 subD mAbs mTen) (ns.map D.int) S = some ((bigOf ns).map D.int, S)
  | [] => rfl
  | z :: r => by
    have h2 : (ρ.set 2 (some (.imm (.int z))))[2]? = some (some (.imm (.int z))) := List.getElem?_set_self h
    have et : mTst (mOp2 geD mAbs mTen) (ρ.set 2 (some (.imm (.int z)))) S = some (decide ((1000000000000000000 : Int) ≤ iabs z), S) := by
      simp [mTst, mOp2, mAbs_at h2, mTen_at, geD, liftI2, asB]
    have em : mOp2 subD mAbs mTen (ρ.set 2 (some (.imm (.int z)))) S = some (.int (iabs z - 1000000000000000000), S) := by
      simp [mOp2, mAbs_at h2, mTen_at, subD, liftI2]
    show Option.bind (gNm 2 (.int z) ρ) _ = _
    simp only [gNm, Option.bind_some, et, em, lc_big h r, Option.map_some]
    by_cases hz : (1000000000000000000 : Int) ≤ iabs z
    · simp [bigOf, hz]
    · simp [bigOf, hz]
theorem lc_cel {ρ : Lo} {S : Sg} (h : 2 < ρ.length) : ∀ ns : List Int, lcGo ρ (gNm 2) (mPure true) mAbs (ns.map D.int) S = some ((absOf ns).map D.int, S)
  | [] => rfl
  | z :: r => by
    have h2 : (ρ.set 2 (some (.imm (.int z))))[2]? = some (some (.imm (.int z))) := List.getElem?_set_self h
    show Option.bind (gNm 2 (.int z) ρ) _ = _
    simp only [gNm, Option.bind_some, mAbs_at h2, lc_cel h r, Option.map_some, mPure, if_true]
    simp [absOf]
theorem repl_ints' {K : PySem.W.Frag} {F : Hp} {ns : List Int} {vs : List V} (h : RepL K F vs (ns.map D.int)) : vs = ns.map V.int := repl_ints h
/-- the promise of _law_begun -/
def spBegun (K : PySem.W.Frag) : Sp := fun vs H Q E => ∃ (a : Addr) (ns : List Int), vs = [.ref a] ∧ SqL K H a (ns.map V.int) ∧ ns.length ≤ 1000 ∧
  ∀ (r : Rng) (H' : Hp), r.great = bigOf ns → r.cells = absOf ns → r.rest = 0 → r.turn = 0 → Same H H' → (∀ x, H' x = none → H x = none) → H' r.at_ = some (.dK (rngDict r)) → H' r.gA = some (.lst (r.great.map V.int)) → H' r.cA = some (.lst (r.cells.map V.int)) →
    H r.at_ = none → H r.gA = none → H r.cA = none → r.cA ≠ r.gA → Q (.ref r.at_) H'
section
variable {P : Program} {w : World} {K : PySem.W.Frag} {mg : Str → Option Value} {base : Heap}
theorem begun_ok {x qual : Str} {st : Stmt} {f : Addr} {fd : FuncData} (F : Fun K x qual st f fd) (Sc : FnScope ["script", "great", "cell"] ["script"] (defScope st))
    (h1 : ∀ (H0 F0 : Hp) (R : Addr → Prop) (cdv : Value) (A : Around) (outer : List Env) (s : Shared) (H : Hp) (E : XK), Room 0 (A.deeper (envOfC qual (defScope st) s.heap.objs.size f cdv)) → PSs (cxOf CX0 P w K mg base ["script", "great", "cell"] qual (defScope st) f cdv A outer s H E).nox (defBody st)
      (tSeq (sS ⟨K, H0, F0, R, []⟩ (sSetF 1 mBig)) (tRet (tDisp [(tC (.str "great"), tVar 1), (tC (.str "cells"), eF ⟨K, H0, F0, R, []⟩ mCel), (tC (.str "rest"), tC (.int 0)), (tC (.str "turn"), tC (.int 0))])))) :
    FnOk P w K mg base CX0 1 f fd ["script"] (spBegun K) := by
  refine F.ok Sc (fun vs H Q E h => ?_) fun cdv A outer s H vs Q E hr h => ?_
  · obtain ⟨a, ns, rfl, _⟩ := h; rfl
  · obtain ⟨a, ns, rfl, hq, hz, q⟩ := h
    refine ⟨_, h1 H H (fun _ => False) cdv A outer s H E hr, ?_⟩
    have hzl : ns.length ≤ sizeLine := Nat.le_trans hz (by decide)
    have hb : (bigOf ns).length ≤ sizeLine := by
      unfold bigOf; rw [List.length_map]; exact Nat.le_trans (List.length_filter_le _ _) hzl
    have hk : HeapOk ⟨K, H, H, fun _ => False, []⟩ H H (fun _ => none) none := ⟨fun _ _ e => e, (fun _ _ _ h => nomatch h), fun _ _ h _ => h, fun _ h => h, fun _ _ h => h, fun _ _ h => .inl h, (fun _ h => nomatch h), fun _ h => nomatch h⟩
    have sl : Slots K (L2.start ["script", "great", "cell"] [V.ref a]) (startL 3 [.scr ns]) H (fun _ => none) := startL_slots (N := ["script", "great", "cell"]) (ds := [.scr ns]) (.cons (.scr hq) .nil)
    have e1 : sSetF 1 mBig (startL 3 [.scr ns]) none = some (.nx, [some (.imm (.scr ns)), some (.own (.lst ((bigOf ns).map D.int))), none], none) := by
      have em : mBig (startL 3 [.scr ns]) none = some (.lst ((bigOf ns).map D.int), none) := by
        show Option.bind (mScr 0 [some (LV.imm (.scr ns)), none, none] none) _ = _
        simp only [mScr, mVar, List.getElem?_cons_zero, Option.bind_some, if_pos hzl]
        show Option.map _ (lcGo [some (LV.imm (.scr ns)), none, none] _ _ _ _ _) = _
        rw [lc_big (by simp)]
        rfl
      unfold sSetF
      rw [em]; rfl
    refine ⟨H, fun _ => none, _, none, hk, sl, _, _, _, e1, fun H1 F1 M1 hk1 le1 => fun σ1 sl1 => fun p hp => ?_⟩
    have hkp := hk1.laidO (w := none) (d := .dK []) hp (.dK .nil)
    obtain ⟨v1, ev1, g, rfl, em1⟩ := sl1.at_ 1 _ rfl
    have hpn := hk1.mnone hp
    have hgp : g ≠ p := fun z => by rw [z, hpn] at em1; cases em1
    have slp : Slots K σ1 [some (.imm (.scr ns)), some (.own (.lst ((bigOf ns).map D.int))), none] F1 (updO M1 p (none, .dK [])) := ⟨sl1.len, fun i l h => by
      obtain ⟨v, ev, lr⟩ := sl1.at_ i l h
      refine ⟨v, ev, ?_⟩
      cases l with
      | imm d => exact lr
      | own d => obtain ⟨b, rfl, eb⟩ := lr; exact ⟨b, rfl, by rw [updO_ne fun z => by rw [z, hpn] at eb; cases eb]; exact eb⟩⟩
    have ec : mCel [some (.imm (.scr ns)), some (.own (.lst ((bigOf ns).map D.int))), none] none = some (.lst ((absOf ns).map D.int), none) := by
      show Option.bind (mScr 0 [some (LV.imm (.scr ns)), _, none] none) _ = _
      simp only [mScr, mVar, List.getElem?_cons_zero, Option.bind_some, if_pos hzl]
      show Option.map _ (lcGo [some (LV.imm (.scr ns)), _, none] _ _ _ _ _) = _
      rw [lc_cel (by simp)]
      rfl
    refine ⟨_, ev1, F1, _, _, none, hkp, slp, _, none, ec, fun c H2 F2 hk2 nc le2 => ?_⟩
    have hcp : c ≠ p := fun z => by rw [z, updO_same] at nc; cases nc
    have hM : ∀ {b x}, b ≠ c → b ≠ p → updO (updO M1 p (none, D.dK [])) c (none, D.lst ((absOf ns).map D.int)) b = x → M1 b = x := fun h1 h2 e => by rw [updO_ne h1, updO_ne h2] at e; exact e
    have hgc : g ≠ c := fun z => by rw [← z, updO_ne hgp] at nc; rw [nc] at em1; cases em1
    obtain ⟨_, g0, og, eg, rg⟩ := hk2.own g _ _ (by rw [updO_ne hgc, updO_ne hgp]; exact em1)
    obtain ⟨_, c0, oc, ecc, rc⟩ := hk2.own c _ _ updO_same
    obtain ⟨_, p0, op, epp, rp⟩ := hk2.own p (none) (.dK []) (by rw [updO_ne hcp.symm, updO_same])
    cases rg with
    | lst _ rlg =>
      cases rc with
      | lst _ rlc =>
        cases rp with
        | dK rpp =>
          cases rpp
          rw [repl_ints rlg] at eg
          rw [repl_ints rlc] at ecc
          refine ⟨epp, [(Sum.inr "great", .ref g), (Sum.inr "cells", .ref c), (Sum.inr "rest", .int 0), (Sum.inr "turn", .int 0)], rfl, (show 4 ≤ 15 by decide), ?_⟩
          refine q ⟨p, g, c, bigOf ns, absOf ns, 0, 0⟩ _ rfl rfl rfl rfl (fun b o e => ?_) (fun b e => ?_) upd_same (by rw [upd_ne hgp]; exact eg) (by rw [upd_ne hcp]; exact ecc) p0 g0 c0 hgc.symm
          · have e' := hk2.ent b o e (fun z => z)
            rw [upd_ne (ne_of_none e p0)]; exact e'
          · by_cases hb : b = p
            · subst hb; rw [upd_same] at e; cases e
            · rw [upd_ne hb] at e; exact hk2.trk _ e
/-- the promise of the law's def: whatever the draws' addresses, its rest answers True -/
def spLawD (K : PySem.W.Frag) (n i : Nat) (m : MS) : Sp := fun vs H Q E => ∃ (a : Addr) (ns : List Int), vs = [.ref a] ∧ SqL K H a (ns.map V.int) ∧ ns.length ≤ 1000 ∧
  (∀ r : Rng, r.great = bigOf ns → r.cells = absOf ns → r.rest = 0 → r.turn = 0 → ∃ ρ' S', m ((startL n [.scr ns]).set i (some (.imm (.rng r.at_)))) (some r) = some (.rt (.bl true), ρ', S')) ∧ ∀ H', Q (.bl true) H'
theorem law_ok {x qual : Str} {st : Stmt} {f : Addr} {fd : FuncData} {N : List Str} {k i : Nat} {m : MS} (F : Fun K x qual st f fd) (Sc : FnScope N ["script"] (defScope st)) (hi : i < N.length) (hi0 : 0 < i)
    (h1 : ∀ (H0 F0 : Hp) (R : Addr → Prop) (cdv : Value) (A : Around) (outer : List Env) (s : Shared) (H : Hp) (E : XK), Room k (A.deeper (envOfC qual (defScope st) s.heap.objs.size f cdv)) → PSs (cxOf CX0 P w K mg base N qual (defScope st) f cdv A outer s H E).nox (defBody st)
      (tSeq (tAsg (tCall (spBegun K) [] E0 (tCons (tVar 0) tNil)) (gName i)) (sS ⟨K, H0, F0, R, []⟩ m))) :
    FnOk P w K mg base CX0 (k + 1) f fd ["script"] (spLawD K N.length i m) := by
  refine F.ok Sc (fun vs H Q E h => ?_) fun cdv A outer s H vs Q E hr h => ?_
  · obtain ⟨a, ns, rfl, _⟩ := h; rfl
  · obtain ⟨a, ns, rfl, hq, hz, hm, q⟩ := h
    refine ⟨_, h1 H H (fun _ => False) cdv A outer s H E hr, ?_⟩
    have sl : Slots K (L2.start N [V.ref a]) (startL N.length [.scr ns]) H (fun _ => none) := startL_slots (N := N) (ds := [.scr ns]) (.cons (.scr hq) .nil)
    obtain ⟨v0, ev0, r0⟩ := sl.at_ 0 (.imm (.scr ns)) rfl
    have ev1 : v0 = V.ref a := by
      have e : (L2.start N [V.ref a])[0]? = some (some (V.ref a)) := rfl
      rw [e] at ev0; cases ev0; rfl
    subst ev1
    refine ⟨_, ev0, a, ns, rfl, hq, hz, fun r H' eg ec er et sm tr hat hg hcc n1 n2 n3 hne => ?_⟩
    obtain ⟨ρ', S', em⟩ := hm r eg ec er et
    have lu : Le H (upd H r.cA (.lst (r.cells.map V.int))) := le_upd n3
    have hac : r.at_ ≠ r.cA := fun z => by rw [z, hcc] at hat; cases hat
    refine ⟨upd H r.cA (.lst (r.cells.map V.int)), fun _ => none, _, some r, ⟨fun b o e => ?_, (fun _ _ _ h => nomatch h), fun b o e _ => sm b o e, tr, fun b o e => lu b o e, fun b o e => ?_, fun r2 e => ?_, fun _ h => nomatch h⟩, (sl.mono lu).set (l := .imm (.rng r.at_)) (Rep.rng r.at_), _, _, _, em, fun H2 F2 M2 hk2 le2 => ?_⟩
    · by_cases hb : b = r.cA
      · subst hb; rw [upd_same] at e; cases e; exact hcc
      · rw [upd_ne hb] at e; exact sm b o e
    · by_cases hb : b = r.cA
      · subst hb; exact .inr (.inl n3)
      · rw [upd_ne hb] at e; exact .inl e
    · cases e
      exact ⟨⟨hat, hg, upd_same, by rw [ec]; unfold absOf; rw [List.length_map]; exact hz, by rw [upd_ne hac]; exact n1, by rw [upd_ne hne.symm]; exact n2⟩, rfl, rfl, .inr n1, .inr n2⟩
    · exact fun v rv => by cases rv; exact q _
end
end Dv
namespace Dv
open PySem PySem.Spec PyProof.Rows L2
section
variable {G : Gh} {X : Cx} {e a b c o : Expr} {es : List Expr} {pos p2 : Pos} {st : Stmt}
/-! ### a if t else b, as a test -/
def tIfT (t ta tb : TT) : TT := fun σ H Q => t σ H fun d H1 => if d = true then ta σ H1 Q else tb σ H1 Q
theorem pt_ifExp {t ta tb : TT} (hc : PT X c t) (ha : PT X a ta) (hb : PT X b tb) : PT X (.IfExp c a b pos) (tIfT t ta tb) := by
  refine ⟨fun pins s σ H Q I h => isTrue_IfExp (thn (hc.run pins s σ H _ I h) fun d s1 ⟨H1, I1, q1⟩ => ?_)⟩
  cases d with
  | true => exact ha.run pins s1 σ H1 Q I1 q1
  | false => exact hb.run pins s1 σ H1 Q I1 q1
theorem st_ite {t m n : MT} (hc : PT X c (eT G t)) (ha : PT X a (eT G m)) (hb : PT X b (eT G n)) : PT X (.IfExp c a b pos) (eT G (mIte t m n)) := pt_imp (pt_ifExp hc ha hb) fun σ H Q ⟨F, M, ρ, S, hk, sl, d, S', e, q⟩ => by
  obtain ⟨⟨k, S1⟩, e1, e⟩ := Option.bind_eq_some_iff.mp e
  refine ⟨F, M, ρ, S, hk, sl, k, S1, e1, fun H' F' hk' le => ?_⟩
  cases k with
  | true => exact ⟨F', M, ρ, S1, hk', sl.mono le, d, S', e, fun H2 F2 hk2 le2 => q H2 F2 hk2 (le.trans le2)⟩
  | false => exact ⟨F', M, ρ, S1, hk', sl.mono le, d, S', e, fun H2 F2 hk2 le2 => q H2 F2 hk2 (le.trans le2)⟩

/-! ### a, b = x, y where the tuple is made (a name is a cell) -/
theorem HeapOk.laidU {H F : Hp} {M : OMap} {S : Sg} {p : Addr} {u : HO} (h : HeapOk G H F M S) (n : H p = none) : HeapOk G (upd H p u) F M S := by
  refine ⟨fun b o e => ?_, fun b w' d' e => ?_, fun b o e r => ?_, fun b e => ?_, h.f0, h.new, fun r e => ?_, fun pp hp => ?_⟩
  · rw [upd_ne (ne_of_none (h.sub _ _ e) n)]; exact h.sub _ _ e
  · obtain ⟨f1, f2, o', e', r⟩ := h.own _ _ _ e
    exact ⟨f1, f2, o', by rw [upd_ne (ne_of_none e' n)]; exact e', r⟩
  · rw [upd_ne (ne_of_none (h.ent _ _ e r) n)]; exact h.ent _ _ e r
  · by_cases hb : b = p
    · subst hb; rw [upd_same] at e; cases e
    · rw [upd_ne hb] at e; exact h.trk _ e
  · obtain ⟨x, m1, m2, q⟩ := h.rng r e
    exact ⟨x.mono (le_upd n) (Same.refl F) x.fa x.fg, m1, m2, q⟩
  · obtain ⟨t, t1, t2, t3⟩ := h.tab _ hp
    exact ⟨tab_new t n, t1, t2, t3.1, t3.2.to (upd_ne (tab_ne t n)) fun _ _ e _ => e⟩
theorem ex_mono {k : Bool} {m : ME} {σ : L2.St} {H : Hp} {Q Q' : V → Hp → Prop} (h : eX G k m σ H Q) (i : ∀ v H, Q v H → Q' v H) : eX G k m σ H Q' := by
  cases k with
  | false => obtain ⟨F, M, ρ, S, hk, sl, d, S', e, q⟩ := h; exact ⟨F, M, ρ, S, hk, sl, d, S', e, fun v H' F' hk' le r => i _ _ (q v H' F' hk' le r)⟩
  | true => obtain ⟨F, M, ρ, S, hk, sl, d, S', e, q⟩ := h; exact ⟨F, M, ρ, S, hk, sl, d, S', e, fun v H' F' hk' n le => i _ _ (q v H' F' hk' n le)⟩
/-- the statement's ends where a tuple more lies in the heap -/
def tupD (D : Ends) : Ends := { D with nx := fun σ H => ∀ p vs, H p = none → D.nx σ (upd H p (.tup vs)) }
theorem sS_tupD {m : MS} (hm : ∀ ρ S fl ρ' S', m ρ S = some (fl, ρ', S') → fl = .nx) {D : Ends} {σ : L2.St} {H : Hp} (h : sS G m D σ H) : sS G m (tupD D) σ H := by
  obtain ⟨F, M, ρ, S, hk, sl, fl, ρ', S', e, q⟩ := h
  refine ⟨F, M, ρ, S, hk, sl, fl, ρ', S', e, fun H' F' M' hk' le => ?_⟩
  have := hm _ _ _ _ _ e
  subst this
  exact fun σ' sl' p vs hp => q _ F' M' (hk'.laidU hp) le σ' sl'
abbrev gN2 (i j : Nat) : TGs := gCons (gName i) (gCons (gName j) gNil)
abbrev gN3 (i j l : Nat) : TGs := gCons (gName i) (gCons (gName j) (gCons (gName l) gNil))
theorem ss_parT2 {i j : Nat} {k1 k2 : Bool} {m1 m2 : ME} (hK : G.K = X.K) (h : PS X st (tAsg (tTup (tCons (eX G k1 m1) (tCons (eX G k2 m2) tNil))) (gTup X.K 2 (gN2 i j)))) : PS X st (sS G (sPar2 i j k1 m1 k2 m2)) := ps_imp h fun D σ H hs => by
  have h2 := sS_tupD (fun ρ S fl ρ' S' e => by
    obtain ⟨_, _, e⟩ := Option.bind_eq_some_iff.mp e
    obtain ⟨_, _, e⟩ := Option.map_eq_some_iff.mp e
    cases e; rfl) hs
  have h3 := par2_imp (tupD D) σ H h2
  refine ex_mono h3 fun x H1 h4 => ex_mono h4 fun y H2 h5 => ?_
  obtain ⟨x', y', e, h6⟩ := h5
  cases e
  exact ⟨(show 2 ≤ sizeLine by decide), fun p hp => ⟨p, _, rfl, .of upd_same, rfl, _, _, rfl, _, _, rfl, rfl, h6 p _ hp⟩⟩
theorem ss_parT3 {i j l : Nat} {k1 k2 k3 : Bool} {m1 m2 m3 : ME} (hK : G.K = X.K) (h : PS X st (tAsg (tTup (tCons (eX G k1 m1) (tCons (eX G k2 m2) (tCons (eX G k3 m3) tNil)))) (gTup X.K 3 (gN3 i j l)))) : PS X st (sS G (sPar3 i j l k1 m1 k2 m2 k3 m3)) := ps_imp h fun D σ H hs => by
  have h2 := sS_tupD (fun ρ S fl ρ' S' e => by
    obtain ⟨_, _, e⟩ := Option.bind_eq_some_iff.mp e
    obtain ⟨_, _, e⟩ := Option.bind_eq_some_iff.mp e
    obtain ⟨_, _, e⟩ := Option.map_eq_some_iff.mp e
    cases e; rfl) hs
  have h3 := par3_imp (tupD D) σ H h2
  refine ex_mono h3 fun x H1 h4 => ex_mono h4 fun y H2 h5 => ex_mono h5 fun z H3 h6 => ?_
  obtain ⟨x', y', z', e, h7⟩ := h6
  cases e
  exact ⟨(show 3 ≤ sizeLine by decide), fun p hp => ⟨p, _, rfl, .of upd_same, rfl, _, _, rfl, _, _, rfl, _, _, rfl, rfl, h7 p _ hp⟩⟩
end
end Dv
namespace Dv
open PySem PySem.Spec PyProof.Rows L2

/-! ### data without lists and dicts: what a call may hand back while it borrows -/
mutual
def pureD : D → Bool
  | .non => true
  | .bl _ => true
  | .int _ => true
  | .str _ => true
  | .tup ds => pureDs ds
  | .kt ds => pureDs ds
  | .fn _ => true
  | _ => false
def pureDs : List D → Bool
  | [] => true
  | d :: r => pureD d && pureDs r
end
theorem pureDs_get : ∀ {ds : List D} {i : Nat} {d : D}, pureDs ds = true → ds[i]? = some d → pureD d = true
  | [], i, d, _, h => by simp at h
  | x :: r, 0, d, h, e => by
    simp only [pureDs, Bool.and_eq_true] at h
    simp at e; subst e; exact h.1
  | x :: r, i + 1, d, h, e => by
    simp only [pureDs, Bool.and_eq_true] at h
    exact pureDs_get h.2 (by simpa using e)
theorem Rep.pure {K : PySem.W.Frag} {F F2 : Hp} {v : V} {d : D} (r : Rep K F v d) : pureD d = true → (∀ a vs, F a = some (.tup vs) → F2 a = some (.tup vs)) → Rep K F2 v d := by
  induction r with
  | non => intro _ _; exact .non
  | bl b => intro _ _; exact .bl b
  | int i => intro _ _; exact .int i
  | str x => intro _ _; exact .str x
  | tup h hz hl _ ih =>
    intro hp hf
    simp only [pureD] at hp
    exact .tup (hf _ _ h) hz hl fun i v d e1 e2 => ih i v d e1 e2 (pureDs_get hp e2) hf
  | kt h hl _ ih =>
    intro hp hf
    simp only [pureD] at hp
    exact .kt h hl fun i v d e1 e2 => ih i v d e1 e2 (pureDs_get hp e2) hf
  | tx => intro hp; simp [pureD] at hp
  | lst => intro hp; simp [pureD] at hp
  | dK => intro hp; simp [pureD] at hp
  | dT => intro hp; simp [pureD] at hp
  | lT => intro hp; simp [pureD] at hp
  | rng a => intro _ _; exact .rng a
  | fn a => intro _ _; exact .fn a
  | scr => intro hp; simp [pureD] at hp
  | err => intro hp; simp [pureD] at hp
  | lam => intro hp; simp [pureD] at hp

def mCallB (f : List D → Option D) (m : MA) : ME := fun ρ S => (m ρ S).bind fun p => (f p.1).bind fun d => if pureD d then some (d, p.2) else none
section
variable {G : Gh} {X : Cx} {e a b c o : Expr} {es : List Expr} {pos p2 : Pos} {st : Stmt}
open Classical in
/-- the frozen part with the owned things seen too -/
noncomputable def seenO (H F : Hp) (M : OMap) : Hp := fun a => if M a = none then F a else H a
open Classical in
noncomputable def lessO (F : Hp) (M : OMap) : Hp := fun a => if M a = none then F a else none
theorem se_callB {f : List D → Option D} {m : MA} {E : XK} (h : PE X o (tCall (spP G.K f) [] E (eAB G m))) : PE X o (eE G (mCallB f m)) := pe_imp h fun σ H Q ⟨F, M, ρ, S, hk, sl, d, S', e, q⟩ => by
  obtain ⟨⟨ds, S1⟩, e1, e⟩ := Option.bind_eq_some_iff.mp e
  obtain ⟨d1, e2, e⟩ := Option.bind_eq_some_iff.mp e
  dsimp only at e
  split at e
  · rename_i hp
    cases e
    refine ⟨F, M, ρ, S, hk, sl, ds, _, e1, fun vs H1 F1 hk1 le1 rl => ?_⟩
    have leF : Le F1 (seenO H1 F1 M) := fun a o z => by
      have : M a = none := by
        cases y : M a with
        | none => rfl
        | some x => obtain ⟨w, dd⟩ := x; rw [(hk1.own _ _ _ y).1] at z; cases z
      unfold seenO; rw [if_pos this]; exact z
    have leH : Le (seenO H1 F1 M) H1 := fun a o z => by
      unfold seenO at z
      split at z
      · exact hk1.sub _ _ z
      · exact z
    have rl2 : RepL G.K (seenO H1 F1 M) vs ds := by
      refine paired_of (Paired.length rl) fun j v d ev ed => ?_
      rcases paired_get rl j v d ev ed with r | ⟨b, w, rfl, mb⟩
      · exact r.mono leF
      · obtain ⟨_, _, o, eo, ro⟩ := hk1.own _ _ _ mb
        refine (ro.mono leF).rep ?_
        unfold seenO; rw [if_neg (by rw [mb]; exact fun z => nomatch z)]; exact eo
    refine ⟨seenO H1 F1 M, ds, d, leH, by rw [List.append_nil]; exact rl2, e2, fun v H' F' sm tr le sub nw r => ?_⟩
    have le2 : Le F1 (lessO F' M) := fun a o z => by
      have : M a = none := by
        cases y : M a with
        | none => rfl
        | some x => obtain ⟨w, dd⟩ := x; rw [(hk1.own _ _ _ y).1] at z; cases z
      unfold lessO; rw [if_pos this]; exact le _ _ (leF _ _ z)
    have un : ∀ a o, lessO F' M a = some o → M a = none ∧ F' a = some o := fun a o z => by
      unfold lessO at z
      split at z
      · exact ⟨by assumption, z⟩
      · cases z
    refine q v H' (lessO F' M) (heap_called hk1 sm tr le2 (fun a o z => sub _ _ (un a o z).2) fun a o z => ?_) (le1.trans le2) (r.pure hp fun a vs z => ?_)
    · obtain ⟨mn, z⟩ := un a o z
      rcases nw _ _ z with y | y | y
      · refine .inl ?_
        unfold seenO at y
        rw [if_pos mn] at y; exact y
      · exact .inr (.inl y)
      · exact .inr (.inr y)
    · unfold lessO
      split
      · exact z
      · rename_i hm
        cases y : M a with
        | none => exact absurd y hm
        | some x =>
          obtain ⟨w, dd⟩ := x
          obtain ⟨_, _, o, eo, ro⟩ := hk1.own _ _ _ y
          have z1 := sm _ _ eo
          rw [sub _ _ z] at z1
          cases z1
          cases ro
  · cases e
end

/-! ### for k in d -/
def keyOf : Key → D
  | .inl i => .int i
  | .inr x => .str x
theorem rep_keyOf {K : PySem.W.Frag} {F : Hp} : ∀ k : Key, Rep K F (kV k) (keyOf k)
  | .inl i => .int i
  | .inr x => .str x
def mKeys (i : Nat) : MA := fun ρ S => match ρ[i]? with
  | some (some (.imm (.dK kvs))) => if kvs.length < 1000000 then some (kvs.map fun kv => keyOf kv.1, S) else none
  | _ => none
/-- one dict locked or unlocked -/
structure Chg (F F' : Hp) : Prop where
  oth : ∀ a o, F a = some o → (∀ k, o ≠ .dK k) → (∀ od k, o ≠ .frz od (.dK k)) → F' a = some o
  dk : ∀ a k, Rd F a (.dK k) → Rd F' a (.dK k)
theorem chg_lock {F : Hp} {d : Addr} {vs : List (Key × V)} {od : Obj} (hd : F d = some (.dK vs)) : Chg F (upd F d (.frz od (.dK vs))) := by
  refine ⟨fun a o e n1 n2 => ?_, fun a k e => ?_⟩
  · by_cases ha : a = d
    · subst ha; rw [hd] at e; cases e; exact absurd rfl (n1 _)
    · rw [upd_ne ha]; exact e
  · by_cases ha : a = d
    · subst ha
      rcases e with e | ⟨o, e⟩
      · rw [hd] at e; cases e; exact .inr ⟨_, upd_same⟩
      · rw [hd] at e; cases e
    · exact e.imp (fun e => by rw [upd_ne ha]; exact e) fun ⟨o, e⟩ => ⟨o, by rw [upd_ne ha]; exact e⟩
theorem chg_unlock {F : Hp} {d : Addr} {vs : List (Key × V)} {od : Obj} (hd : F d = some (.frz od (.dK vs))) : Chg F (upd F d (.dK vs)) := by
  refine ⟨fun a o e n1 n2 => ?_, fun a k e => ?_⟩
  · by_cases ha : a = d
    · subst ha; rw [hd] at e; cases e; exact absurd rfl (n2 _ _)
    · rw [upd_ne ha]; exact e
  · by_cases ha : a = d
    · subst ha
      rcases e with e | ⟨o, e⟩
      · rw [hd] at e; cases e
      · rw [hd] at e; cases e; exact .inl upd_same
    · exact e.imp (fun e => by rw [upd_ne ha]; exact e) fun ⟨o, e⟩ => ⟨o, by rw [upd_ne ha]; exact e⟩
theorem Rep.chg {K : PySem.W.Frag} {F F2 : Hp} {v : V} {d : D} (c : Chg F F2) (r : Rep K F v d) : Rep K F2 v d := by
  induction r with
  | non => exact .non
  | bl b => exact .bl b
  | int i => exact .int i
  | str x => exact .str x
  | tup h hz hl _ ih => exact .tup (c.oth _ _ h (fun _ z => nomatch z) fun _ _ z => nomatch z) hz hl ih
  | kt h hl _ ih => exact .kt h hl ih
  | tx h hx hz hl _ ih => exact .tx (c.oth _ _ h (fun _ z => by cases z) fun _ _ z => by cases z) hx hz hl ih
  | lst h hz hl _ ih => exact .lst (c.oth _ _ h (fun _ z => nomatch z) fun _ _ z => nomatch z) hz hl ih
  | dK h hk _ ih => exact .dK (c.dk _ _ h) hk ih
  | dT h hk _ ih => exact .dT (c.oth _ _ h (fun _ z => nomatch z) fun _ _ z => nomatch z) hk ih
  | lT h hk _ ih => exact .lT (c.oth _ _ h (fun _ z => by cases z) fun _ _ z => by cases z) hk ih
  | rng a => exact .rng a
  | fn a => exact .fn a
  | scr h =>
    rcases h with (h | ⟨o, h⟩) | h
    · exact .scr (.inl (.inl (c.oth _ _ h (fun _ z => nomatch z) fun _ _ z => nomatch z)))
    · exact .scr (.inl (.inr ⟨o, c.oth _ _ h (fun _ z => nomatch z) fun _ _ z => nomatch z⟩))
    · exact .scr (.inr h)
  | err h hx => exact .err (c.oth _ _ h (fun _ z => by unfold ErrO at z; cases z) fun _ _ z => by unfold ErrO at z; cases z) hx
  | lam h hc => exact .lam (c.oth _ _ h (fun _ z => by unfold LamO at z; cases z) fun _ _ z => by unfold LamO at z; cases z) (c.oth _ _ hc (fun _ z => by unfold LamX.CodeO at z; cases z) fun _ _ z => by unfold LamX.CodeO at z; cases z)
theorem RepL.chg {K : PySem.W.Frag} {F F2 : Hp} {vs : List V} {ds : List D} (c : Chg F F2) (r : RepL K F vs ds) : RepL K F2 vs ds := by
  induction r with
  | nil => exact .nil
  | cons r _ ih => exact .cons (r.chg c) ih
theorem RepP.chg {κ : Type} {K : PySem.W.Frag} {F F2 : Hp} {vs : List (κ × V)} {ds : List (κ × D)} (c : Chg F F2) (r : RepP K F vs ds) : RepP K F2 vs ds := by
  induction r with
  | nil => exact .nil
  | cons r _ ih => exact .cons ⟨r.1, r.2.chg c⟩ ih
theorem OwnHO.chg {K : PySem.W.Frag} {F F2 : Hp} {o : HO} {d : D} (c : Chg F F2) (r : OwnHO K F o d) : OwnHO K F2 o d := by
  cases r with
  | lst hz r => exact .lst hz (r.chg c)
  | dK r => exact .dK (r.chg c)
  | dT r => exact .dT (r.chg c)
  | lT r => exact .lT (r.chg c)
theorem Slots.chg {K : PySem.W.Frag} {σ : L2.St} {ρ : Lo} {F F2 : Hp} {M : OMap} (c : Chg F F2) (s : Slots K σ ρ F M) : Slots K σ ρ F2 M := ⟨s.len, fun i l e => by
  obtain ⟨v, ev, r⟩ := s.at_ i l e
  refine ⟨v, ev, ?_⟩
  cases l with
  | imm d => exact Rep.chg c r
  | own d => exact r⟩
open Classical in
noncomputable def updIf (F : Hp) (d : Addr) (o : HO) : Hp := if F d = none then F else upd F d o
theorem updIf_ne {F : Hp} {d a : Addr} {o : HO} (h : a ≠ d) : updIf F d o a = F a := by
  unfold updIf; split
  · rfl
  · exact upd_ne h
theorem updIf_at {F : Hp} {d : Addr} {o : HO} (h : F d ≠ none) : updIf F d o d = some o := by
  unfold updIf; rw [if_neg h]; exact upd_same
theorem updIf_no {F : Hp} {d : Addr} {o : HO} (h : F d = none) : updIf F d o d = none := by
  unfold updIf; rw [if_pos h]; exact h
/-- the activation, seen while the dict at d is locked -/
noncomputable def lockG (G : Gh) (d : Addr) (o : HO) : Gh := ⟨G.K, updIf G.H0 d o, updIf G.F0 d o, G.R, G.T⟩
section
variable {G : Gh} {H H' F F' : Hp} {M M' : OMap} {S S' : Sg} {d : Addr} {vs : List (Key × V)} {od : Obj}
theorem HeapOk.lockd (h : HeapOk G H F M S) (hd : F d = some (.dK vs)) : HeapOk (lockG G d (.frz od (.dK vs))) (upd H d (.frz od (.dK vs))) (upd F d (.frz od (.dK vs))) M S := by
  have c := chg_lock (od := od) hd
  refine ⟨fun b u e => ?_, fun b w x e => ?_, fun b u e r => ?_, fun b e => ?_, fun b u e => ?_, fun b u e => ?_, fun r e => ?_, fun p hp => ?_⟩
  · by_cases hb : b = d
    · subst hb; rw [upd_same] at e ⊢; exact e
    · rw [upd_ne hb] at e ⊢; exact h.sub _ _ e
  · obtain ⟨f1, f2, o', e', r⟩ := h.own _ _ _ e
    have hb : b ≠ d := fun z => by rw [z, hd] at f1; cases f1
    exact ⟨by rw [upd_ne hb]; exact f1, by show updIf G.H0 d _ b = none; rw [updIf_ne hb]; exact f2, o', by rw [upd_ne hb]; exact e', r.chg c⟩
  · have e : updIf G.H0 d _ b = some u := e
    by_cases hb : b = d
    · subst hb
      by_cases hn : G.H0 b = none
      · rw [updIf_no hn] at e; cases e
      · rw [updIf_at hn] at e; rw [upd_same]; exact e
    · rw [updIf_ne hb] at e; rw [upd_ne hb]; exact h.ent _ _ e r
  · by_cases hb : b = d
    · subst hb; rw [upd_same] at e; cases e
    · rw [upd_ne hb] at e; show updIf G.H0 d _ b = none; rw [updIf_ne hb]; exact h.trk _ e
  · have e : updIf G.F0 d _ b = some u := e
    by_cases hb : b = d
    · subst hb
      by_cases hn : G.F0 b = none
      · rw [updIf_no hn] at e; cases e
      · rw [updIf_at hn] at e; rw [upd_same]; exact e
    · rw [updIf_ne hb] at e; rw [upd_ne hb]; exact h.f0 _ _ e
  · by_cases hb : b = d
    · subst hb
      rw [upd_same] at e; cases e
      rcases h.new _ _ hd with z | z | ⟨_, z⟩
      · exact .inl (updIf_at (by rw [z]; exact fun q => nomatch q))
      · exact .inr (.inl (updIf_no z))
      · cases z
    · rw [upd_ne hb] at e
      rcases h.new _ _ e with z | z | z
      · exact .inl (by show updIf G.F0 d _ b = _; rw [updIf_ne hb]; exact z)
      · exact .inr (.inl (by show updIf G.H0 d _ b = _; rw [updIf_ne hb]; exact z))
      · exact .inr (.inr z)
  · obtain ⟨x, m1, m2, q1, q2⟩ := h.rng r e
    have n1 : r.at_ ≠ d := fun z => by have := x.fa; rw [z, hd] at this; cases this
    have n2 : r.gA ≠ d := fun z => by have := x.fg; rw [z, hd] at this; cases this
    have n3 : r.cA ≠ d := fun z => by have := x.hc; rw [z, hd] at this; cases this
    refine ⟨⟨by rw [upd_ne n1]; exact x.hat, by rw [upd_ne n2]; exact x.hg, by rw [upd_ne n3]; exact x.hc, x.hz, by rw [upd_ne n1]; exact x.fa, by rw [upd_ne n2]; exact x.fg⟩, m1, m2, q1.imp id fun z => ?_, q2.imp id fun z => ?_⟩
    · show updIf G.H0 d _ r.at_ = none; rw [updIf_ne n1]; exact z
    · show updIf G.H0 d _ r.gA = none; rw [updIf_ne n2]; exact z
  · obtain ⟨t, t1, t2, t3⟩ := h.tab p hp
    have hpd : p.1 ≠ d := fun z => by rw [z, hd] at t1; cases t1
    exact ⟨tab_upd t (h.sub _ _ hd) hpd (fun _ _ z => by unfold LamX.CodeO at z; cases z), by rw [upd_ne hpd]; exact t1, t2, t3.1, t3.2.to (upd_ne hpd) fun c o e eo => by rw [upd_ne (fun z => by rw [z, hd] at e; cases e; unfold LamX.CodeO at eo; cases eo)]; exact e⟩
theorem HeapOk.unlockd (h0 : HeapOk G H F M S) (hd : F d = some (.dK vs)) (h : HeapOk (lockG G d (.frz od (.dK vs))) H' F' M' S') (le : Le (upd F d (.frz od (.dK vs))) F') :
    HeapOk G (upd H' d (.dK vs)) (upd F' d (.dK vs)) M' S' ∧ Le F (upd F' d (.dK vs)) ∧ Chg F' (upd F' d (.dK vs)) := by
  have hF' : F' d = some (.frz od (.dK vs)) := le _ _ upd_same
  have c := chg_unlock hF'
  refine ⟨⟨fun b u e => ?_, fun b w x e => ?_, fun b u e r => ?_, fun b e => ?_, fun b u e => ?_, fun b u e => ?_, fun r e => ?_, fun p hp => ?_⟩, fun b u e => ?_, c⟩
  · by_cases hb : b = d
    · subst hb; rw [upd_same] at e ⊢; exact e
    · rw [upd_ne hb] at e ⊢; exact h.sub _ _ e
  · obtain ⟨f1, f2, o', e', r⟩ := h.own _ _ _ e
    have hb : b ≠ d := fun z => by rw [z, hF'] at f1; cases f1
    have f2 : updIf G.H0 d _ b = none := f2
    rw [updIf_ne hb] at f2
    exact ⟨by rw [upd_ne hb]; exact f1, f2, o', by rw [upd_ne hb]; exact e', r.chg c⟩
  · by_cases hb : b = d
    · subst hb
      have z := h0.ent _ _ e r
      rw [h0.sub _ _ hd] at z
      rw [upd_same]; exact z
    · rw [upd_ne hb]
      exact h.ent _ _ (by show updIf G.H0 d _ b = _; rw [updIf_ne hb]; exact e) r
  · by_cases hb : b = d
    · subst hb; rw [upd_same] at e; cases e
    · rw [upd_ne hb] at e
      have z : updIf G.H0 d _ b = none := h.trk _ e
      rw [updIf_ne hb] at z; exact z
  · by_cases hb : b = d
    · subst hb
      have z := h0.f0 _ _ e
      rw [hd] at z
      rw [upd_same]; exact z
    · rw [upd_ne hb]
      exact h.f0 _ _ (by show updIf G.F0 d _ b = _; rw [updIf_ne hb]; exact e)
  · by_cases hb : b = d
    · subst hb; rw [upd_same] at e; cases e; exact h0.new _ _ hd
    · rw [upd_ne hb] at e
      rcases h.new _ _ e with z | z | z
      · have z : updIf G.F0 d _ b = _ := z
        rw [updIf_ne hb] at z; exact .inl z
      · have z : updIf G.H0 d _ b = _ := z
        rw [updIf_ne hb] at z; exact .inr (.inl z)
      · exact .inr (.inr z)
  · obtain ⟨x, m1, m2, q1, q2⟩ := h.rng r e
    have n1 : r.at_ ≠ d := fun z => by have := x.fa; rw [z, hF'] at this; cases this
    have n2 : r.gA ≠ d := fun z => by have := x.fg; rw [z, hF'] at this; cases this
    have n3 : r.cA ≠ d := fun z => by have := x.hc; rw [z, hF'] at this; cases this
    refine ⟨⟨by rw [upd_ne n1]; exact x.hat, by rw [upd_ne n2]; exact x.hg, by rw [upd_ne n3]; exact x.hc, x.hz, by rw [upd_ne n1]; exact x.fa, by rw [upd_ne n2]; exact x.fg⟩, m1, m2, q1.imp id fun z => ?_, q2.imp id fun z => ?_⟩
    · have z : updIf G.H0 d _ r.at_ = none := z
      rw [updIf_ne n1] at z; exact z
    · have z : updIf G.H0 d _ r.gA = none := z
      rw [updIf_ne n2] at z; exact z
  · obtain ⟨t, t1, t2, t3⟩ := h.tab p hp
    have hpd : p.1 ≠ d := fun z => by rw [z, hF'] at t1; cases t1
    exact ⟨tab_upd t (h.sub _ _ hF') hpd (fun _ _ z => by unfold LamX.CodeO at z; cases z), by rw [upd_ne hpd]; exact t1, t2, t3.1, t3.2.to (upd_ne hpd) fun c o e eo => by rw [upd_ne (fun z => by rw [z, hF'] at e; cases e; unfold LamX.CodeO at eo; cases eo)]; exact e⟩
  · by_cases hb : b = d
    · subst hb; rw [hd] at e; rw [upd_same]; exact e
    · rw [upd_ne hb]; exact le _ _ (by rw [upd_ne hb]; exact e)
end
section
variable {G : Gh} {X : Cx} {e a b c o : Expr} {es : List Expr} {pos p2 : Pos} {st : Stmt}
/-- the keys of the dict in the i-th slot, locked -/
def iD (G : Gh) (i : Nat) : TI := fun σ H R => ∃ F M ρ S, HeapOk G H F M S ∧ Slots G.K σ ρ F M ∧ ∃ ds S' d o vs, mKeys i ρ S = some (ds, S') ∧ σ[i]? = some (some (.ref d)) ∧ F d = some (.frz o (.dK vs)) ∧ vs.map (fun kv => keyOf kv.1) = ds ∧ vs.length < 1000000 ∧
  ∀ J H' F', HeapOk G H' F' M S' → Le F F' → WalkD G J ds F' → R J H'
theorem mKeys_S {i : Nat} {ρ : Lo} {S S' : Sg} {ds : List D} (h : mKeys i ρ S = some (ds, S')) : S' = S := by
  unfold mKeys at h
  split at h
  · split at h
    · cases h; rfl
    · cases h
  · cases h
theorem si_keys {tg : Expr} {i : Nat} (h : PE X e (tVar i)) : PI X tg e (iD G i) := pi_imp (pi_keys h) fun σ H R ⟨F, M, ρ, S, hk, sl, ds, S', d, o, vs, e1, ev, hd, hm, hz, q⟩ => by
  refine ⟨_, ev, d, o, rfl, .inl ⟨vs, hk.sub _ _ hd, ?_⟩⟩
  have hS := mKeys_S e1
  subst hS
  refine q _ H F hk (Same.refl F) (walkD_of walk_keys ?_ (by rw [← hm, List.length_map]) (fun H l => l _ _ hd) ?_)
  · rw [← hm, List.length_map, sizeLine_eq]; omega
  · rintro i H x H' F M S hi hk le ⟨rfl, k, v, e, rfl⟩
    exact ⟨F, keyOf k, hk, Same.refl F, by rw [← hm, List.getElem?_map, e]; rfl, rep_keyOf k⟩
theorem forD_imp {i : Nat} {is : List Nat} {g : MG} {m : MS} {D : Ends} {σ : L2.St} {H F : Hp} {M : OMap} {ρ ρ' : Lo} {S S1 S' : Sg} {ds : List Dv.D} {d : Addr} {ob : Obj} {vs : List (Key × V)} {fl : Fl}
    (hk : HeapOk G H F M S) (sl : Slots G.K σ ρ F M) (e1 : mKeys i ρ S = some (ds, S1)) (ev : σ[i]? = some (some (.ref d))) (hd : F d = some (.frz ob (.dK vs))) (hm : vs.map (fun kv => keyOf kv.1) = ds) (hz : vs.length < 1000000)
    (e : forGo g m ds ρ S1 = some (fl, ρ', S')) (q : ∀ H' F' M', HeapOk G H' F' M' S' → Le F F' → EndF G D fl ρ' H' F' M') : tFor (iD G i) (eG G is g) (sS G m) D σ H := by
  refine ⟨F, M, ρ, S, hk, sl, ds, S1, d, ob, vs, e1, ev, hd, hm, hz, fun J H1 F1 hk1 le1 w => ?_⟩
  refine ⟨fun i n σ H => n = ds.length - i ∧ i ≤ ds.length ∧ ∃ F' M' ρi Si, HeapOk G H F' M' Si ∧ Le F1 F' ∧ Slots G.K σ ρi F' M' ∧ forGo g m (ds.drop i) ρi Si = some (fl, ρ', S'),
    ⟨ds.length, by omega, by omega, F1, M, ρ, S1, hk1, Same.refl F1, sl.mono le1, by simpa using e⟩, ?_⟩
  rintro j n σ H ⟨rfl, hi, F', M', ρi, Si, hk', le', sl', er⟩
  by_cases hlt : j < ds.length
  · refine .inr ⟨w.goes j H hlt (le'.trans hk'.sub), fun σ H => j + 1 ≤ ds.length ∧ ∃ F' M' ρi Si, HeapOk G H F' M' Si ∧ Le F1 F' ∧ Slots G.K σ ρi F' M' ∧ forGo g m (ds.drop (j + 1)) ρi Si = some (fl, ρ', S'),
      fun σ' H' hN => ⟨ds.length - (j + 1), by omega, rfl, hN⟩, fun x H' y => ?_⟩
    obtain ⟨F2, dd, hk2, le2, ed, rx⟩ := w.yields j H x H' F' _ Si hlt hk' le' y
    have edr : ds.drop j = dd :: ds.drop (j + 1) := by
      rw [List.drop_eq_getElem_cons hlt]
      congr
      exact Option.some.inj ((List.getElem?_eq_getElem hlt).symm.trans ed)
    rw [edr] at er
    obtain ⟨ρ1, eg, er⟩ := Option.bind_eq_some_iff.mp er
    obtain ⟨⟨f2, ρ2, S2⟩, em, er⟩ := Option.bind_eq_some_iff.mp er
    refine ⟨F2, M', ρi, Si, dd, hk2, sl'.mono le2, rx, ρ1, eg, fun σ1 sl1 _ _ => ⟨F2, M', ρ1, Si, hk2, sl1, f2, ρ2, S2, em, fun H3 F3 M3 hk3 le3 => ?_⟩⟩
    cases f2 with
    | nx => exact fun σ3 sl3 => ⟨hlt, F3, M3, ρ2, S2, hk3, (le'.trans le2).trans le3, sl3, er⟩
    | ct => exact fun σ3 sl3 => ⟨hlt, F3, M3, ρ2, S2, hk3, (le'.trans le2).trans le3, sl3, er⟩
    | bk => cases er; exact q H3 F3 M3 hk3 (le1.trans ((le'.trans le2).trans le3))
    | rt d => cases er; exact q H3 F3 M3 hk3 (le1.trans ((le'.trans le2).trans le3))
  · have e : j = ds.length := by omega
    subst e
    rw [List.drop_length] at er
    cases er
    exact .inl ⟨w.stops H (le'.trans hk'.sub), q H F' M' hk' (le1.trans le') σ sl'⟩
theorem ps_ex {α : Type} {t : α → TS} (h : ∀ x, PS X st (t x)) : PS X st (fun D σ H => ∃ x, t x D σ H) := ⟨fun pins s σ H D I ⟨x, q⟩ => (h x).run pins s σ H D I q⟩
theorem ps_alt {t t' : TS} (h : PS X st t) (h' : PS X st t') : PS X st (fun D σ H => t D σ H ∨ t' D σ H) := ⟨fun pins s σ H D I q => q.elim (h.run pins s σ H D I) (h'.run pins s σ H D I)⟩
/-- for k in d, d a dict that is not written within -/
theorem ss_forD {i : Nat} {is : List Nat} {g : MG} {m : MS} (h : ∀ (H0 F0 : Hp) (R : Addr → Prop) (T : List (Addr × Str)), PS X st (tFor (iD ⟨G.K, H0, F0, R, T⟩ i) (eG ⟨G.K, H0, F0, R, T⟩ is g) (sS ⟨G.K, H0, F0, R, T⟩ m))) : PS X st (sS G (sFor (mKeys i) g m)) := by
  have h1 : PS X st (fun D σ H => ∃ G' : {G' : Gh // G'.K = G.K}, tFor (iD G'.1 i) (eG G'.1 is g) (sS G'.1 m) D σ H) := ps_ex fun ⟨⟨K, H0, F0, R, T⟩, hK⟩ => by
    cases (show K = G.K from hK)
    exact h H0 F0 R T
  refine ps_imp (ps_alt (ps_lock h1) h1) fun D σ H ⟨F, M, ρ, S, hk, sl, fl, ρ', S', e, q⟩ => ?_
  obtain ⟨⟨ds, S1⟩, e1, e⟩ := Option.bind_eq_some_iff.mp e
  have e1' := e1
  unfold mKeys at e1
  split at e1
  · rename_i kvs hi
    split at e1
    · rename_i hz
      cases e1
      obtain ⟨v, ev, r⟩ := sl.at_ _ _ hi
      obtain ⟨d, vs, rfl, hd, rp⟩ := Rep.undK r
      have hm : vs.map (fun kv => keyOf kv.1) = kvs.map (fun kv => keyOf kv.1) := by
        have z := congrArg (List.map keyOf) (RepP.keys rp)
        rw [List.map_map, List.map_map] at z
        exact z
      have hz' : vs.length < 1000000 := by rw [Paired.length rp]; exact hz
      rcases hd with hd | ⟨ob, hd⟩
      · refine .inl ⟨d, .dK vs, hk.sub _ _ hd, trivial, fun od => ⟨⟨lockG G d (.frz od (.dK vs)), rfl⟩, ?_⟩⟩
        have c := chg_lock (od := od) hd
        refine forD_imp (G := lockG G d (.frz od (.dK vs))) (hk.lockd hd) (sl.chg c) e1' ev upd_same hm hz' e fun H' F' M' hk' le' => ?_
        obtain ⟨hk2, le2, c2⟩ := HeapOk.unlockd hk hd hk' le'
        have hH : H' d = some (.frz od (.dK vs)) := hk'.sub _ _ (le' _ _ upd_same)
        have z := q _ _ M' hk2 le2
        cases fl with
        | nx => exact fun σ sl => ⟨hH, z σ (sl.chg c2)⟩
        | ct => exact fun σ sl => ⟨hH, z σ (sl.chg c2)⟩
        | bk => exact fun σ sl => ⟨hH, z σ (sl.chg c2)⟩
        | rt x => exact fun v r => ⟨hH, z v (r.chg c2)⟩
      · exact .inr ⟨⟨G, rfl⟩, forD_imp hk sl e1' ev hd hm hz' e q⟩
    · cases e1
  · cases e1
end
end Dv
namespace Dv
open PySem PySem.Spec PyProof.Rows L2

/-! ### set(xs), xs a list of pairs, many of them alike -/
section
variable {P : Program} {w : World} {A : Around} {E : Value → Shared → Prop}
/-- fewer than 63 different keys -/
def FewKeys (ks : List (Addr × List Int)) : Prop := ∀ L : List (Addr × List Int), (L.map (·.2)).Nodup → (∀ p ∈ L, p ∈ ks) → L.length + 1 < 64
/-- what the loop knows behind i items: the set's rows, all that stood in h0 -/
structure Mid (P : Program) (w : World) (S : Addr) (ks : List (Addr × List Int)) (h0 : Heap) (i : Nat) (h : Heap) : Prop where
  kp : ∀ b o, h0.get? b = some o → h.get? b = some o
  row : ∃ L es ep t, SetTR P w h S L es ep t ∧ Got ks i L
theorem Mid.next {S : Addr} {ks : List (Addr × List Int)} {h0 : Heap} {i : Nat} {s : Shared} {p : Addr × List Int} {Q : Bool → Shared → Prop} (M : Mid P w S ks h0 i s.heap) (few : FewKeys ks) (hp : ks[i]? = some p) (tup : ∀ p ∈ ks, IsT P w h0 p.2 p.1) (hS0 : h0.get? S = none) (hu : A.units < cLine)
    (hQ : ∀ b h', Heap.SameBut S s.heap h' → Mid P w S ks h0 (i + 1) h' → Q b { s with heap := h' }) : wpAny (model P w) A (setAddHashed S (.ref p.1) (thash P w p.2)) Q E s := by
  obtain ⟨L, es, ep, t, R, g⟩ := M.row
  have inn : ∀ q ∈ L, q ∈ ks := fun q hq => List.mem_of_mem_take (g.sub q hq)
  refine add_at R (isT_keep (tup p (List.mem_of_getElem? hp)) M.kp) hu (few L R.nd inn) fun b h' L' es' ep' t' sb R' same new => hQ b h' sb ⟨fun c o e => (sb.2 c (fun z => by rw [z, hS0] at e; cases e)).trans (M.kp c o e), L', es', ep', t', R', ?_⟩
  by_cases c : p.2 ∈ L.map (·.2)
  · rw [same c]; exact g.same hp c
  · exact g.more hp (new c)
theorem set_fill {I S : Addr} {fp wr : List Addr} {G : Array GenState → Array GenState → Prop} {Pv : Nat → Value → Prop} {St : Nat → Shared → Prop} {R : Result → Shared → Prop} {ks : List (Addr × List Int)} {h0 : Heap}
    (W : WalksS P w A.in1 I fp wr G ks.length Pv St) (hSf : S ∉ fp) (few : FewKeys ks) (hval : ∀ i v, Pv i v → ∃ p, ks[i]? = some p ∧ v = .ref p.1) (tup : ∀ p ∈ ks, IsT P w h0 p.2 p.1) (hS0 : h0.get? S = none) (hw0 : ∀ b ∈ wr, h0.get? b = none) (hu : A.in1.units < cLine) :
    ∀ (m i : Nat) (s : Shared), ks.length = i + m → St i s → Mid P w S ks h0 i s.heap → (∀ s', Moved (S :: wr) G s s' → Mid P w S ks h0 ks.length s'.heap → R (.ok (.ret .none)) s') →
      codeAny (model P w) A (.builtin "set.update.loop" ⟨[.ref S, .ref I], []⟩) R s := by
  have wrS : ∀ b ∈ wr, b ∈ S :: wr := fun b => List.mem_cons_of_mem S
  have walked : ∀ {i : Nat} {s s' : Shared}, Mid P w S ks h0 i s.heap → Moved wr G s s' → Mid P w S ks h0 i s'.heap := fun {i s s'} M mv => by
    have kp' : ∀ b o, h0.get? b = some o → s'.heap.get? b = some o := fun b o e => mv.heap b o (fun z => by rw [hw0 b z] at e; cases e) (M.kp b o e)
    obtain ⟨L, es, ep, t, r, g⟩ := M.row
    exact ⟨kp', L, es, ep, t, r.keep (fun o e => mv.heap S o (fun z => hSf (W.sub S z)) e) fun q hq => isT_keep (tup q (List.mem_of_mem_take (g.sub q hq))) kp', g⟩
  intro m
  induction m with
  | zero =>
    intro i s hl st M out
    obtain rfl : i = ks.length := by omega
    refine codeAny_builtin F.entry_set_update_loop (by
      rw [Around.under_plainId F.plain_set_update_loop _]
      exact wpAny_bind (W.done s _ _ st fun s' mv => wpAny_pure (out s' (mv.mono wrS) (walked M mv))))
  | succ m ih =>
    intro i s hl st M out
    refine codeAny_builtin F.entry_set_update_loop (by
      rw [Around.under_plainId F.plain_set_update_loop _]
      refine wpAny_bind (W.item i s _ _ (by omega) st fun v s1 hv st1 mv => ?_)
      obtain ⟨p, hp, rfl⟩ := hval i v hv
      have M1 := walked M mv
      refine wpAny_bind (wpAny_holding (wpAny_holding (wpAny_bind (wpAny_pyHash_tuple hu (isT_keep (tup p (List.mem_of_getElem? hp)) M1.kp) (Mid.next (s := { s1 with toks := s1.toks + (p.2.length + 1) }) M1 few hp tup hS0 hu fun b h' sb M2 => ?_)))))
      have free : ∀ b ∈ fp, ∀ o, s1.heap.get? b = some o → h'.get? b = some o := fun b hb o e => (sb.2 b fun z => hSf (z ▸ hb)).trans e
      refine wpAny_pure ⟨plainId_quiet F.plain_set_update_loop _, ih (i + 1) _ (by omega) (W.frame _ s1 _ _ st1 (Nat.le_add_right _ _) free) M2 fun s2 mv2 M3 => out s2 (Moved.trans W.gtrans ((mv.mono wrS).then_heap (Nat.le_add_right _ _) fun b o hb e => (sb.2 b fun z => hb (by rw [z]; exact List.mem_cons_self)).trans e) mv2) M3⟩)
/-- the empty set, as it is made -/
abbrev set0 (w : World) : Obj := { cls := .type "set", dict := none, data := .set #[] 0 (.fresh 0 0 (!w.params.followText "set-order")) }
theorem call_set_few {s : Shared} {l : Addr} {items : Array Value} (ks : List (Addr × List Int)) {Q : Value → Shared → Prop} (hh : A.handled = none) (hl : s.heap.IsList l items) (hit : items.toList = ks.map fun p => Value.ref p.1) (tup : ∀ p ∈ ks, IsT P w s.heap p.2 p.1) (few : FewKeys ks) (hu : A.units + 3 < cLine)
    (fin : ∀ (h' : Heap) (tk : Nat), Mid P w s.heap.objs.size ks s.heap ks.length h' → Q (.ref s.heap.objs.size) { s with heap := h', toks := tk }) : wpAny (model P w) A (call (.type "set") [.ref l]) Q E s := by
  have new : ∀ b, s.heap.objs.size ≤ b → s.heap.get? b = none := fun b hb => by
    cases q : s.heap.get? b with
    | none => rfl
    | some o => exact absurd (Nat.lt_of_lt_of_le (Heap.lt_size q) hb) (Nat.lt_irrefl _)
  have size : items.size = ks.length := by rw [← Array.length_toList, hit, List.length_map]
  obtain ⟨_, _, mro⟩ := F.called_set.mro
  have m1 := F.called_set.made
  have m2 := F.called_set.sub
  have m3 := F.called_set.notType
  have m4 := F.called_set.canCreate
  have m5 := F.typeCall_set_1 (.ref l)
  have m6 := F.called_set.init.lookup
  have m7 := F.called_set.init.bind (.ref s.heap.objs.size)
  have m8 := F.sub_list_set
  have m9 := F.sub_list_frozenset
  refine wpAny_call (codeAny_of_tree (show wpAny _ _ (callAny (.type "set") _) _ _ _ from wpAny_pure ⟨Code.quiet_builtin _ (by decide +kernel), codeAny_builtin F.entry_type_call (by
    rw [Around.under_plain (weight_type_call_type "set" [.ref l] []) rfl]
    repeat (any_goals (first | assumption | wp_step))
    refine codeAny_mono (code_set_led1 (.ref l) (E := E) (Q₁ := fun v s1 => v = .ref s.heap.objs.size ∧ s1 = { s with heap := s.heap.push (set0 w) }) ⟨rfl, rfl⟩) fun r s1 hr => ?_
    cases r with
    | error e => exact hr
    | ok fl =>
    cases fl with
    | ret v =>
      obtain ⟨rfl, rfl⟩ := hr
      have at1 : (s.heap.push (set0 w)).get? s.heap.objs.size = some (set0 w) := Heap.get?_push_size _ rfl
      have ty : Shared.TypeIs { s with heap := s.heap.push (set0 w) } (.ref s.heap.objs.size) "set" := ⟨_, at1, rfl⟩
      repeat (any_goals (first | assumption | wp_step))
      refine codeAny_mono (codeAny_call_builtin (R := wants (fun r s2 => r = .none ∧ ∃ h' tk, s2 = { s with heap := h', toks := tk } ∧ Mid P w s.heap.objs.size ks s.heap ks.length h') E) F.called_set.init.plain F.entry_set_init (check_set_init_1 ty ?_)) fun r2 s2 hr2 => ?_
      · obtain ⟨⟨oc, od, dt, os⟩, ho, hc, nn, hd⟩ := hl
        dsimp only at hc hd
        subst hc hd
        have ne : (Value.type "list" == Value.type "dict") = false := by decide
        have at2 := Heap.get?_push_of_some (set0 w) ho
        have isl : (s.heap.push (set0 w)).IsList l items := ⟨_, at2, rfl, nn, rfl⟩
        have lt := Heap.lt_size ho
        have sz1 : (s.heap.push (set0 w)).objs.size = s.heap.objs.size + 1 := Heap.size_push ..
        have hd3 : A.in1.in1.in1.handled = none := by simp [hh]
        unfold Builtin.«set.__init__» noKeywords Builtin.Frozenset.updateFrom
        generalize e : pyIter = it
        wp_walk
        subst e
        refine wpAny_pyIter_list isl (wpAny_bind (wpAny_runValue ?_))
        have W := (Walks.list hd3 (s.heap.push (set0 w)).objs.size l (by rw [sz1]; exact Nat.ne_of_lt (Nat.lt_succ_of_lt lt)) items).toS (prog := P) (w := w)
        rw [size] at W
        refine set_fill (ks := ks) (h0 := s.heap) W ?_ few (fun i v hv => ?_) tup (new _ (Nat.le_refl _)) (fun b hb => new b (by rw [List.mem_singleton.mp hb, sz1]; exact Nat.le_succ _)) hu ks.length 0 _ (by omega) ⟨⟨_, Heap.get?_push_size _ rfl, rfl, rfl⟩, isl.push _⟩ ⟨fun b o e => Heap.get?_push_of_some _ (Heap.get?_push_of_some _ e), [], #[], 0, _, setTR_fresh (Heap.get?_push_of_some _ at1), Got.zero ks⟩ fun s3 mv M => ?_
        · rw [sz1]
          simp only [List.mem_cons, List.not_mem_nil, or_false, not_or]
          exact ⟨Nat.ne_of_lt (Nat.lt_succ_self _), Nat.ne_of_gt lt⟩
        · have q : items.toList[i]? = some v := by rw [Array.getElem?_toList]; exact hv
          rw [hit, List.getElem?_map] at q
          obtain ⟨p, hp, rfl⟩ := Option.map_eq_some_iff.mp q
          exact ⟨p, hp, rfl⟩
        · obtain ⟨h3, g3, d3, t3, o3⟩ := s3
          obtain rfl : g3 = s.gens := mv.gens
          obtain rfl : d3 = s.drawn := mv.drawn
          obtain rfl : o3 = s.os := mv.os
          exact wpAny_pure (wpAny_pure ⟨rfl, h3, t3, rfl, M⟩)
      · cases r2 with
        | error e => exact hr2
        | ok f2 =>
          cases f2 with
          | ret r =>
            obtain ⟨rfl, h', tk, rfl, M⟩ := hr2
            repeat (any_goals (first | assumption | wp_step))
            exact fin _ _ M
          | _ => exact hr2.elim
    | _ => exact hr.elim)⟩))
end
/-- set(xs) as rSetOfT, by the keys' number -/
def rSetFew (K : PySem.W.Frag) (P : Program) (w : World) : List V → Hp → VK → Prop := fun xs H Q => ∃ (l : Addr) (ks : List (Addr × List Int)), xs = [V.ref l] ∧ SqL K H l (ks.map fun p => V.ref p.1) ∧ (∀ p ∈ ks, SqT K H p.1 (p.2.map V.int)) ∧ FewKeys ks ∧
  ∀ a L, H a = none → (∀ p ∈ L, p ∈ ks) → (∀ p ∈ ks, p.2 ∈ L.map (·.2)) → Q (.ref a) (upd H a (SetTO P w a L))
theorem cr_setFew {X : Cx} (hc : X.calm = true) (hu : X.A.units + 64 < cLine) : CallR X (.type "set") (rSetFew X.K X.prog X.w) := by
  rintro pins s σ H xs us Q I r ⟨l, ks, rfl, hl, hk, few, q⟩
  cases Vals.ref1 r
  obtain ⟨its, rv, pl, hz⟩ := I.list hl
  refine call_set_few (P := X.prog) (w := X.w) ks (I.ok.hd hc) pl.isList (by simpa using refs_of_vals rv) (fun p hp => I.isT (hk p hp)) few (by omega) fun h' tk M => ?_
  obtain ⟨L, es, ep, t, R, g⟩ := M.row
  exact ⟨.ref s.heap.objs.size, _, I.laid (t' := tk) M.kp (Nat.le_refl _) (setTO_new R.t0), rfl, q _ L (I.hok.fresh (Nat.le_refl _)) (fun p hp => List.mem_of_mem_take (g.sub p hp)) fun p hp => g.all p (by rw [List.take_length]; exact hp)⟩
end Dv
namespace Dv
open PySem PySem.Spec PyProof.Rows L2

section
variable {G : Gh} {X : Cx} {e a b c o : Expr} {es : List Expr} {pos p2 : Pos} {st : Stmt}
theorem Slots.newO {K : PySem.W.Frag} {σ : L2.St} {ρ : Lo} {F : Hp} {M : OMap} {p : Addr} {x} (s : Slots K σ ρ F M) (n : M p = none) : Slots K σ ρ F (updO M p x) := ⟨s.len, fun i l h => by
  obtain ⟨v, ev, lr⟩ := s.at_ i l h
  refine ⟨v, ev, ?_⟩
  cases l with
  | imm d => exact lr
  | own d => obtain ⟨b, rfl, eb⟩ := lr; exact ⟨b, rfl, by rw [updO_ne fun z => by rw [z, n] at eb; cases eb]; exact eb⟩⟩
/-! ### {k: v} -/
def mDisp1 (mk mv : ME) : ME := fun ρ S => (mk ρ S).bind fun p => (mv ρ p.2).bind fun q => (keyD p.1).map fun k => (.dK [(k, q.1)], q.2)
theorem sf_disp1 {mk mv : ME} (h : PE X o (tDisp [(eE G mk, eE G mv)])) : PE X o (eF G (mDisp1 mk mv)) := pe_imp h fun σ H Q ⟨F, M, ρ, S, hk, sl, d, S', e, q⟩ => by
  obtain ⟨⟨d1, S1⟩, e1, e⟩ := Option.bind_eq_some_iff.mp e
  obtain ⟨⟨d2, S2⟩, e2, e⟩ := Option.bind_eq_some_iff.mp e
  obtain ⟨k, ek, e⟩ := Option.map_eq_some_iff.mp e
  cases e
  intro p hp
  have mp := hk.mnone hp
  have hkp := hk.laidO (w := none) (d := .dK []) hp (.dK .nil)
  refine ⟨F, _, ρ, S, hkp, sl.newO mp, d1, S1, e1, fun x H1 F1 hk1 le1 r1 => ⟨F1, _, ρ, S1, hk1, (sl.newO mp).mono le1, d2, S2, e2, fun y H2 F2 hk2 le2 r2 => ?_⟩⟩
  obtain ⟨nf, n0, oo, eo, ro⟩ := hk2.own p _ _ updO_same
  cases ro with
  | @dK us _ r =>
    cases r
    have hx := rep_key r1 ek
    subst hx
    refine ⟨eo, [(k, y)], rfl, (by show 1 ≤ 15; omega), ?_⟩
    have hw := hk2.write (w' := none) (o := .dK [(k, y)]) (d' := .dK [(k, d2)]) updO_same (.dK (.cons ⟨rfl, r2⟩ .nil))
    rw [updO_updO] at hw
    exact q p _ F2 hw mp (le1.trans le2)
/-! ### list(range(n)) -/
def mListRg (m : ME) : ME := fun ρ S => (m ρ S).bind fun p => match p.1 with
  | .int n => if 0 ≤ n ∧ n ≤ 1000000 then some (.lst (rangeL 0 n), p.2) else none
  | _ => none
theorem repL_rg {K : PySem.W.Frag} {F : Hp} {a b : Int} : RepL K F (rgV a b) (rangeL a b) := by
  unfold rgV rangeL
  induction (List.range (b - a).toNat) with
  | nil => exact .nil
  | cons x r ih => exact .cons (.int _) ih
theorem sf_listRg {m : ME} (h : PE X o (tLstRg (tRg1 (eB G m)))) : PE X o (eF G (mListRg m)) := pe_imp h fun σ H Q ⟨F, M, ρ, S, hk, sl, d, S', e, q⟩ => by
  obtain ⟨⟨d1, S1⟩, e1, e⟩ := Option.bind_eq_some_iff.mp e
  dsimp only at e
  split at e
  · split at e
    · rename_i n hz
      cases e
      refine ⟨F, M, ρ, S, hk, sl, _, _, e1, fun v H1 F1 hk1 le1 r => ?_⟩
      cases r.unint hk1
      refine ⟨n, rfl, RgOk.of_le (by omega) (by omega) (by omega) (by omega), fun p hp => ?_⟩
      refine q p _ F1 (hk1.laidO hp (.lst ?_ repL_rg)) (hk1.mnone hp) le1
      unfold rangeL
      rw [List.length_map, List.length_range, sizeLine_eq]; omega
    · cases e
  · cases e
/-! ### sorted(set(xs)), xs a list of pairs of small ints -/
def pairsD : List D → Option (List (Int × Int))
  | [] => some []
  | .tup [.int i, .int j] :: r => (pairsD r).map ((i, j) :: ·)
  | _ => none
def smallP (p : Int × Int) : Bool := decide (0 ≤ p.1) && decide (p.1 < 64) && decide (0 ≤ p.2) && decide (p.2 < 64)
def pD (p : Int × Int) : D := .tup [.int p.1, .int p.2]
def dedupP : List (Int × Int) → List (Int × Int)
  | [] => []
  | p :: r => if p ∈ dedupP r then dedupP r else p :: dedupP r
theorem mem_dedupP : ∀ {l : List (Int × Int)} {q}, q ∈ dedupP l ↔ q ∈ l
  | [], q => Iff.rfl
  | p :: r, q => by
    unfold dedupP
    split
    · rename_i h
      rw [mem_dedupP, List.mem_cons]
      exact ⟨.inr, fun z => z.elim (fun z => by rw [z]; exact mem_dedupP.mp h) id⟩
    · rw [List.mem_cons, List.mem_cons, mem_dedupP]
theorem nodup_dedupP : ∀ {l : List (Int × Int)}, (dedupP l).Nodup
  | [] => .nil
  | p :: r => by
    unfold dedupP
    split
    · exact nodup_dedupP
    · rename_i h
      exact List.nodup_cons.mpr ⟨h, nodup_dedupP⟩
def sortSet (ds : List D) : Option (List D) := (pairsD ds).bind fun ps => if (dedupP ps).length < 63 && ps.all smallP then some ((sortPs (dedupP ps)).map pD) else none
theorem sub_len {α : Type} [DecidableEq α] : ∀ {l m : List α}, l.Nodup → (∀ x ∈ l, x ∈ m) → l.length ≤ m.length
  | [], m, _, _ => Nat.zero_le _
  | x :: l, m, hn, h => by
    have hx := h x List.mem_cons_self
    have h1 := List.nodup_cons.mp hn
    have h2 := sub_len (l := l) (m := m.erase x) h1.2 fun y hy => (List.mem_erase_of_ne fun z => h1.1 (by rw [← z]; exact hy)).mpr (h y (List.mem_cons_of_mem _ hy))
    rw [List.length_erase_of_mem hx] at h2
    have := List.length_pos_of_mem hx
    rw [List.length_cons]
    omega
theorem few_of {ps : List (Int × Int)} {ks : List (Addr × List Int)} (h : (dedupP ps).length < 63) (hks : ks.map (·.2) = ps.map fun p => [p.1, p.2]) : FewKeys ks := fun L nd inn => by
  have h1 := sub_len (l := L.map (·.2)) (m := (dedupP ps).map fun p => [p.1, p.2]) nd fun x hx => by
    obtain ⟨p, hp, rfl⟩ := List.mem_map.mp hx
    have z : p.2 ∈ ks.map (·.2) := List.mem_map.mpr ⟨p, inn p hp, rfl⟩
    rw [hks] at z
    obtain ⟨r, hr, e⟩ := List.mem_map.mp z
    exact List.mem_map.mpr ⟨r, mem_dedupP.mpr hr, e⟩
  rw [List.length_map, List.length_map] at h1
  omega
def mSortSet (m : MA) : ME := fun ρ S => (m ρ S).bind fun p => match p.1 with
  | [.lst ds] => (sortSet ds).map fun r => (.lst r, p.2)
  | _ => none
theorem repL_pairs {K : PySem.W.Frag} {F : Hp} : ∀ {vs : List V} {ds : List D} {ps : List (Int × Int)}, RepL K F vs ds → pairsD ds = some ps →
    ∃ ks : List (Addr × List Int), vs = ks.map (fun p => V.ref p.1) ∧ ks.map (·.2) = ps.map (fun p => [p.1, p.2]) ∧ ∀ k ∈ ks, F k.1 = some (.tup (k.2.map V.int))
  | _, _, _, .nil, e => by cases e; exact ⟨[], rfl, rfl, fun _ h => nomatch h⟩
  | _, d :: r, ps, .cons rv t, e => by
    unfold pairsD at e
    split at e
    · rename_i e'; cases e'
    · rename_i i j r' e'
      cases e'
      obtain ⟨qs, e1, rfl⟩ := Option.map_eq_some_iff.mp e
      obtain ⟨ks, rfl, h2, h3⟩ := repL_pairs t e1
      obtain ⟨a, us, rfl, ha, ru⟩ := rv.untup'
      cases ru with
      | cons r1 ru =>
        cases ru with
        | cons r2 ru =>
          cases ru
          cases r1
          cases r2
          refine ⟨(a, [i, j]) :: ks, rfl, by rw [List.map_cons, h2]; rfl, fun k hk => ?_⟩
          rcases List.mem_cons.mp hk with z | z
          · subst z; exact ha
          · exact h3 k z
    · cases e
def toPair (l : List Int) : Int × Int := (l.getD 0 0, l.getD 1 0)
theorem sf_sortset {m : MA} (hK : G.K = X.K) (h : PE X o (tCB (rSortedT X.K X.prog X.w) (tCons (tCB (rSetFew X.K X.prog X.w) (eAB G m)) tNil))) : PE X o (eF G (mSortSet m)) := pe_imp h fun σ H Q ⟨F, M, ρ, S, hk, sl, d, S', e, q⟩ => by
  obtain ⟨⟨ds, S1⟩, e1, e⟩ := Option.bind_eq_some_iff.mp e
  dsimp only at e
  split at e
  · rename_i xs
    obtain ⟨out, e2, e⟩ := Option.map_eq_some_iff.mp e
    cases e
    obtain ⟨ps, ep, e2⟩ := Option.bind_eq_some_iff.mp e2
    split at e2
    · rename_i hs
      cases e2
      simp only [Bool.and_eq_true, decide_eq_true_eq] at hs
      refine ⟨F, M, ρ, S, hk, sl, _, _, e1, fun vs H1 F1 hk1 le1 rl => ?_⟩
      obtain ⟨v, rfl, r⟩ := brl1 rl
      obtain ⟨l, us, rfl, hl, ru⟩ := r.unlst hk1
      obtain ⟨ks, rfl, hks, hkf⟩ := repL_pairs ru ep
      have hlen : ks.length = ps.length := by have z := congrArg List.length hks; simpa using z
      have hSq : ∀ p ∈ ks, SqT X.K H1 p.1 (p.2.map V.int) := fun p hp => .of (hk1.sub _ _ (hkf p hp))
      refine ⟨l, ks, rfl, .of hl, hSq, few_of hs.1 hks, fun a L ha hL1 hL2 => ?_⟩
      have hk2 := hk1.laid (o := SetTO X.prog X.w a L) ha
      have le2 := le_upd (o := SetTO X.prog X.w a L) (hk1.fnone ha)
      have pk : ∀ p ∈ ks, ∃ q ∈ ps, p.2 = [q.1, q.2] := fun p hp => by
        have z : p.2 ∈ ks.map (·.2) := List.mem_map.mpr ⟨p, hp, rfl⟩
        rw [hks] at z
        obtain ⟨q, hq, e⟩ := List.mem_map.mp z
        exact ⟨q, hq, e.symm⟩
      have hsm : ∀ q ∈ ps, 0 ≤ q.1 ∧ q.1 < 64 ∧ 0 ≤ q.2 ∧ q.2 < 64 := fun q hq => by
        have z := List.all_eq_true.mp hs.2 q hq
        simp only [smallP, Bool.and_eq_true, decide_eq_true_eq] at z
        exact ⟨z.1.1.1, z.1.1.2, z.1.2, z.2⟩
      refine ⟨a, L, 2, 64, rfl, upd_same, fun p hp => .of (hk2.sub _ _ (le2 _ _ (hkf p (hL1 p hp)))), by decide, fun p hp => ?_, fun L' p hpm hnd hln hpw hpn => ?_⟩
      · obtain ⟨q, hq, e⟩ := pk p (hL1 p hp)
        obtain ⟨b1, b2, b3, b4⟩ := hsm q hq
        rw [e]
        refine ⟨rfl, fun m hm => ?_⟩
        rcases List.mem_cons.mp hm with z | z
        · subst z; exact ⟨b1, b2⟩
        · rcases List.mem_cons.mp z with z | z
          · subst z; exact ⟨b3, b4⟩
          · cases z
      · have mem' : ∀ p ∈ L', p ∈ ks := fun p hp => hL1 p (hpm.mem_iff.mp hp)
        have tp : ∀ p ∈ L', p.2 = [(toPair p.2).1, (toPair p.2).2] ∧ toPair p.2 ∈ ps := fun p hp => by
          obtain ⟨q, hq, e⟩ := pk p (mem' p hp)
          rw [e]
          exact ⟨rfl, hq⟩
        have pw2 : (L'.map fun p => toPair p.2).Pairwise fun x y => SrtO.lexB y x = false := by
          refine List.pairwise_map.mpr ?_
          have nd := List.pairwise_map.mp hnd
          refine (hpw.and nd).imp_of_mem fun {x y} hx hy hxy => ?_
          obtain ⟨ex, mx⟩ := tp x hx
          obtain ⟨ey, my⟩ := tp y hy
          have bx := hsm _ mx
          have by' := hsm _ my
          have h1 := hxy.1
          have h2 := hxy.2
          rw [ex, ey] at h1 h2
          have z := pair_lt h1 h2 ⟨bx.1, bx.2.1⟩ ⟨bx.2.2.1, bx.2.2.2⟩ ⟨by'.1, by'.2.1⟩ ⟨by'.2.2.1, by'.2.2.2⟩
          cases hh : SrtO.lexB (toPair y.2) (toPair x.2) with
          | false => rfl
          | true =>
            have z2 := SrtO.lexB_iff.mp hh
            omega
        have nd2 : (L'.map fun p => toPair p.2).Nodup := by
          have hnd' := List.pairwise_map.mp hnd
          refine List.pairwise_map.mpr (List.Pairwise.imp_of_mem (fun {x y} hx hy hne e => hne ?_) hnd')
          rw [(tp x hx).1, (tp y hy).1, e]
        have pm2 : (L'.map fun p => toPair p.2).Perm (dedupP ps) := by
          refine (List.perm_ext_iff_of_nodup nd2 nodup_dedupP).mpr fun q => ?_
          rw [mem_dedupP]
          refine ⟨fun hq => ?_, fun hq => ?_⟩
          · obtain ⟨p, hp, rfl⟩ := List.mem_map.mp hq
            exact (tp p hp).2
          · have z : [q.1, q.2] ∈ ks.map (·.2) := by rw [hks]; exact List.mem_map.mpr ⟨q, hq, rfl⟩
            obtain ⟨p, hp, e⟩ := List.mem_map.mp z
            have z2 := hL2 p hp
            obtain ⟨p', hp', e'⟩ := List.mem_map.mp z2
            refine List.mem_map.mpr ⟨p', hpm.mem_iff.mpr hp', ?_⟩
            rw [e', e]; rfl
        have eq := sortPs_eq pm2 pw2
        have rl' : RepL G.K (upd F1 a (SetTO X.prog X.w a L)) (L'.map fun q => V.ref q.1) ((L'.map fun p => toPair p.2).map pD) := by
          refine paired_of (by simp) fun i v d e1 e2 => ?_
          rw [List.getElem?_map] at e1
          rw [List.map_map, List.getElem?_map] at e2
          obtain ⟨p, ep, rfl⟩ := Option.map_eq_some_iff.mp e1
          rw [ep] at e2
          cases e2
          have hp := List.mem_of_getElem? ep
          have z := le2 _ _ (hkf p (mem' p hp))
          rw [(tp p hp).1] at z
          exact .mkTup z (show 2 ≤ sizeLine by decide) (.cons (.int _) (.cons (.int _) .nil))
        rw [eq] at rl'
        refine q p _ _ (hk2.laidO hpn (.lst ?_ rl')) (hk2.mnone hpn) (le1.trans le2)
        rw [← Paired.length rl', List.length_map, sizeLine_eq]; omega
    · cases e2
  · cases e
end
/-! ### f() -/
section
variable {G : Gh} {X : Cx} {o : Expr}
theorem pe_c0 {X : Cx} {k j : Nat} {x : Str} {sp : Sp} {p pos : Pos} (c : C8.Cal X.prog X.w X.K X.mg X.base k x sp []) (hr : Room j X.A) (hk : k ≤ j) (hg : Gl X x) (hdb : (x == ("__debug__" : Str)) = false := by decide) :
    PE X (.Call (.Name x p) [] [] pos) (tCall sp [] E0 tNil) := by
  obtain ⟨f, fd, ps, ds, F, hm, kp, b, d⟩ := c.ex
  exact pe_call0 F (hr.mono hk) hg hm kp b d pass0 hdb
theorem se_call0 {f : List D → Option D} {E : XK} (h : PE X o (tCall (spP G.K f) [] E tNil)) : PE X o (eE G (mCall f (mPure []))) := pe_imp h fun σ H Q ⟨F, M, ρ, S, hk, sl, d, S', e, q⟩ => by
  obtain ⟨ds, e1, e2⟩ := mCall_some e
  cases e1
  exact ⟨F, [], d, hk.sub, .nil, e2, fun v H' F' sm tr le sub nw r => q v H' F' (heap_called hk sm tr le sub nw) le r⟩
end
end Dv
namespace PySem
/-- enumerate(v) of anything whose iterator is known -/
theorem meets_enumerate_new1 {v : Value} {o : Obj} {H : Heap → Prop} (B : Begins v o H) :
    Meets (Builtin.«enumerate.__new__» ⟨[.type "enumerate", v], []⟩) (fun _ R s => H s.heap ∧
      R (.ok (.ret (.ref (s.heap.push o).objs.size))) { s with heap := (s.heap.push o).push { cls := .type "enumerate", data := .fields #[.none, .bool false, .ref s.heap.objs.size, rawInt 0, .none, .none] } }) := by
  refine .of_wp fun prog w A R s0 hh => ?_
  obtain ⟨hp, ge, dr, tk, os⟩ := s0
  obtain ⟨hb, fin⟩ := hh
  have sub_en := sub_enumerate
  have it_ev : ∀ {A' : Around} {E : Value → Shared → Prop} {Q : Value → Shared → Prop}, Q (.ref hp.objs.size) ⟨hp.push o, ge, dr, tk, os⟩ → wpAny (model prog w) A' (pyIter v) Q E ⟨hp, ge, dr, tk, os⟩ := fun z =>
    B.iter prog w _ _ ⟨hp, ge, dr, tk, os⟩ _ hb z
  wp_walk using it_ev
  refine wpAny_stack_any fun st => wpAny_pure ?_
  split
  · rename_i c _ _ _ _ _
    cases (c == Value.type "enumerate") <;> (wp_walk using it_ev; exact ⟨_, rfl, fin⟩)
  · wp_walk using it_ev
    exact ⟨_, rfl, fin⟩
theorem enum_begins1 {prog : Program} {w : World} {A : Around} {E : Value → Shared → Prop} {s : Shared} {v : Value} {o : Obj} {H : Heap → Prop} {Q : Value → Shared → Prop} (B : Begins v o H) (h1 : H s.heap)
    (h : ∀ h', IsEnum h' (s.heap.objs.size + 1) s.heap.objs.size 0 .none → h'.get? s.heap.objs.size = some o → (∀ b o, s.heap.get? b = some o → h'.get? b = some o) → Q (.ref (s.heap.objs.size + 1)) { s with heap := h' }) :
    wpAny (model prog w) A (call (.type "enumerate") [v]) Q E s := by
  refine callType_new F.called_enumerate (by decide) (F.typeCall_enumerate_1 _) (F.newCall_enumerate_1 _) (fun obj => F.args_object_init_2 obj _) F.entry_enumerate_new (meets_enumerate_new1 B) ⟨h1, ?_⟩
  have hz : (s.heap.push o).objs.size = s.heap.objs.size + 1 := Heap.size_push ..
  show _ ∧ _
  rw [hz]
  have he := Heap.get?_push_size (s.heap.push o) (o := { cls := .type "enumerate", data := .fields #[.none, .bool false, .ref s.heap.objs.size, rawInt 0, .none, .none] }) rfl
  rw [hz] at he
  exact ⟨⟨_, he, rfl⟩, h _ he (Heap.get?_push_of_some _ (Heap.get?_push_size _ B.free)) fun b o x => Heap.get?_push_of_some _ (Heap.get?_push_of_some _ x)⟩
end PySem
namespace Dv
open PySem PySem.Spec PyProof.Rows L2

/-! ### enumerate of a list or a tuple -/
theorem enum_ne {h : Heap} {k : Bool} {a e it : Addr} {its : Array Value} {i : Int} {old : Value} (he : IsEnum h e it i old) (x : SeqIs h k a its) : e ≠ a := fun z => by
  subst z
  have h1 : ∃ o, h.get? e = some o ∧ (o.cls = .type "list" ∨ o.cls = .type "tuple") := by
    cases k with
    | true => obtain ⟨o, e, c, _⟩ := (show h.IsList e its from x); exact ⟨o, e, .inl c⟩
    | false => obtain ⟨o, e, c, _⟩ := (show h.IsTuple e its from x); exact ⟨o, e, .inr c⟩
  obtain ⟨o, e1, c1⟩ := h1
  have he : h.get? e = some _ := he
  rw [he] at e1
  cases e1
  rcases c1 with c1 | c1 <;> simp at c1
def IteQ (K : PySem.W.Frag) (k : Bool) (a : Addr) : It :=
  ⟨fun i H => ∃ (xs : List V) (x : V), SqK K H k a xs ∧ xs[i]? = some x, fun i H v H' => ∃ T x, v = .ref T ∧ H T = none ∧ H' = upd H T (.tup [.int (i : Nat), x]) ∧ ∀ xs, SqK K H k a xs → xs[i]? = some x, fun i H => ∃ xs : List V, SqK K H k a xs ∧ i = xs.length⟩
theorem turn_enumQ {P : Program} {w : World} {K : PySem.W.Frag} {elts : List Expr} {kk : Nat} {tpos : Pos} {k : Bool} {a e it : Addr} (hei : e ≠ it) :
    Turn P w K (.Tuple elts kk tpos) (IteQ K k a) [e, it] e (fun i h => (∃ old, IsEnum h e it ((i : Nat) : Int) old) ∧ ItQ h k it a i) where
  mem := by simp
  obj := fun i h st b hb => by
    obtain ⟨⟨old, he⟩, h1⟩ := st
    have e' : b = e ∨ b = it := by simpa using hb
    rcases e' with z | z
    · rw [z]; exact ⟨_, he, fun v q => nomatch q⟩
    · rw [z]; exact h1.obj
  keep := fun i h h' st k => let ⟨⟨old, he⟩, h1⟩ := st; ⟨⟨old, k e (by simp) _ he⟩, h1.at fun o q => k it (by simp) o q⟩
  item := by
    intro X hP hw hK hc i pins s σ H E I hf st hg
    subst hP hw hK
    obtain ⟨⟨old, he⟩, h1⟩ := st
    obtain ⟨xs, x, hq, hx⟩ := hg
    obtain ⟨its, rv, p⟩ := seqIs_of I hq
    obtain ⟨u, hu, ru⟩ := rv.get hx
    have hd := I.ok.hd hc
    have hne : a ≠ it := seq_ne p h1
    have hea : e ≠ a := enum_ne he p
    have hi1 : i < its.toArray.size := by simpa using (List.getElem?_eq_some_iff.mp hu).1
    have W := WalksT.enumerateD (A := X.A) (drawsQ (P := X.prog) (w := X.w) (A := X.A.in1) hd k it a hne its.toArray) e hei (by simp [hei, hea]) (by simp)
    refine W.item i s _ E hi1 ⟨⟨old, he⟩, h1, p⟩ fun T vals h' tk hP hT htup hMid hk => ⟨.ref T, rfl, ?_⟩
    refine W.go elts kk tpos i T { s with heap := h', toks := tk } _ E hMid fun h'' hSt hk2 => ?_
    obtain ⟨t, x1, e1, rfl⟩ := hP
    have e1' : u = x1 := by rw [List.getElem?_toArray] at e1; rw [hu] at e1; exact Option.some.inj e1
    subst e1'
    obtain ⟨⟨old', he'⟩, h1', _⟩ := hSt
    have apT := W.apart i T h' hMid
    have hT2 : h''.IsTuple T #[.int i t, u] := htup.at fun o e => hk2 T o apT e
    have new : ObjOk X.prog X.w (upd H T (.tup [.int (i : Nat), x])) h'' T (.tup [.int (i : Nat), x]) := ⟨by show 2 ≤ sizeLine; decide, [.int i t, u], .cons ⟨_, rfl⟩ (.cons ru .nil), hT2⟩
    have I1 : Inv X pins σ (upd H T (.tup [.int (i : Nat), x])) { s with heap := h'', toks := tk } :=
      I.turnedNew (t' := tk) (h' := h'') (ch := [e, it]) (fun c o hb q => hk2 c o (fun m => hb m) (hk c o (fun m => hb m) q)) hf hT new
    exact ⟨.ref T, _, I1, rfl, ⟨T, x, rfl, I.hok.fresh hT, rfl, fun l hl => by rw [sqk_inj I hl hq]; exact hx⟩, ⟨⟨old', he'⟩, h1'⟩, fun c hcm => by
      have hlt : c < s.heap.objs.size := by
        have e' : c = e ∨ c = it := by simpa using hcm
        rcases e' with q | q
        · rw [q]; exact Heap.lt_size he
        · rw [q]; obtain ⟨_, e1, _⟩ := h1.obj; exact Heap.lt_size e1
      rw [upd_ne (Nat.ne_of_lt (Nat.lt_of_lt_of_le hlt hT))]
      exact (hf c hcm).1⟩
  done := by
    intro X hP hw hK hc i pins s σ H E I hf st hg
    subst hP hw hK
    obtain ⟨⟨old, he⟩, h1⟩ := st
    obtain ⟨xs, hq, hx⟩ := hg
    obtain ⟨its, rv, p⟩ := seqIs_of I hq
    have hd := I.ok.hd hc
    have hne : a ≠ it := seq_ne p h1
    have hea : e ≠ a := enum_ne he p
    have W := WalksT.enumerateD (A := X.A) (drawsQ (P := X.prog) (w := X.w) (A := X.A.in1) hd k it a hne its.toArray) e hei (by simp [hei, hea]) (by simp)
    have l1 := rv.length
    have hi : i = its.toArray.size := by simp only [List.size_toArray]; omega
    subst hi
    exact W.done s _ E ⟨⟨old, he⟩, h1, p⟩ fun h' tk hk => ⟨rfl, I.turnedL (t' := tk) (ch := [e, it]) (fun c o hb q => hk c o (fun m => hb m) q) hf⟩
  self := fun _ _ _ _ _ ⟨⟨_, he⟩, _⟩ q => wpAny_pyIter_enum he q
def iEnumQ (K : PySem.W.Frag) (ta : TA) : TI := fun σ H R => ta σ H fun vs H1 => ∃ k a xs, vs = [.ref a] ∧ SqK K H1 k a xs ∧ R (IteQ K k a) H1
theorem pi_enumQ {X : Cx} {e : Expr} {ta : TA} {p pos tpos : Pos} {elts : List Expr} {kk : Nat} (hg : Gl X "enumerate") (hm : X.mg "enumerate" = none) (ha : PA X [e] ta) (hs : starEach [e] X.env = [(false, eval e X.env)] := by rfl) :
    PI X (.Tuple elts kk tpos) (.Call (.Name "enumerate" p) [e] [] pos) (iEnumQ X.K ta) := by
  refine ⟨fun pins s σ H R I h => ?_⟩
  refine Call_ (ld_blt I hg hm boot_enumerate (PyProof.Rows.callWith_type1 (thn (ha.run pos pins s σ H _ I h) fun us s1 ⟨vs, H1, I1, r1, q1⟩ => ?_) hs rfl))
  obtain ⟨k, a, xs, ex, hq, q⟩ := q1
  subst ex
  cases r1 with
  | cons r rr =>
    cases rr
    cases r
    obtain ⟨its, rv, p1⟩ := seqIs_of I1 hq
    refine enum_begins1 (beginsQ k a its.toArray) p1 fun h' he h1 hk => wpAny_pyIter_enum he ?_
    have I2 : Inv X pins σ H1 { s1 with heap := h' } := I1.kept (t' := s1.toks) hk
    refine ⟨s1.heap.objs.size + 1, [s1.heap.objs.size + 1, s1.heap.objs.size], _, _, H1, rfl, I2, turn_enumQ (Nat.succ_ne_self _), ⟨⟨.none, he⟩, ItQ.new h1⟩, fun b hb => ?_, q⟩
    have e' : b = s1.heap.objs.size + 1 ∨ b = s1.heap.objs.size := by simpa using hb
    have hle : s1.heap.objs.size ≤ b := by
      rcases e' with z | z
      · rw [z]; exact Nat.le_add_right _ _
      · rw [z]; exact Nat.le_refl _
    exact I1.fpOk hle (I1.hok.fresh hle)
theorem walk_enumQ {K : PySem.W.Frag} {k : Bool} {a : Addr} {xs : List V} : Walk (IteQ K k a) xs.length (fun H => SqK K H k a xs) (YPair (fun i => some (.int (i : Nat))) (fun i => xs[i]?)) := by
  refine ⟨fun i _ hi q => ⟨xs, xs[i], q, by simp [hi]⟩, fun _ q => ⟨xs, q, rfl⟩, fun i H v H' _ q y => ?_⟩
  obtain ⟨T, x, h1, h2, h3, h4⟩ := y
  exact ⟨T, .int (i : Nat), x, h1, h2, h3, rfl, h4 xs q⟩
section
variable {G : Gh} {X : Cx} {e a b c o : Expr} {es : List Expr} {pos p2 : Pos} {st : Stmt}
def mEnumQ (m : MA) : MA := fun ρ S => (m ρ S).bind fun p => match p.1 with
  | [x] => (itemsD x).map fun xs => (xs.mapIdx fun i d => .tup [.int (i : Nat), d], p.2)
  | _ => none
theorem si_enumQ {tg : Expr} {m : MA} (hK : G.K = X.K) (h : PI X tg e (iEnumQ G.K (eA G m))) : PI X tg e (iI G (mEnumQ m)) := pi_imp h fun σ H R ⟨F, M, ρ, S, hk, sl, ds, S', e, q⟩ => by
  obtain ⟨⟨d1, S1⟩, e1, e2⟩ := Option.bind_eq_some_iff.mp e
  split at e2
  · rename_i x ed
    obtain ⟨xs, ex, e2⟩ := Option.map_eq_some_iff.mp e2
    cases e2
    have ed : d1 = [x] := ed
    subst ed
    refine ⟨F, M, ρ, S, hk, sl, _, _, e1, fun vs H' F' hk' le r => ?_⟩
    cases r with
    | cons r1 r =>
      cases r
      obtain ⟨k1, a, us, rfl, s1, rl, z1⟩ := rep_sqk hk'.sub r1 ex
      have l1 := Paired.length rl
      refine ⟨k1, a, us, rfl, s1 _ hk'.sub, q _ _ _ hk' le (walkD_of (walk_enumQ (K := G.K) (k := k1) (a := a) (xs := us)) (by rw [List.length_mapIdx]; exact z1) (by rw [List.length_mapIdx]; exact l1) (fun H l => ?_) fun i H v H' F2 M2 S2 hi hk2 l2 y => ?_)⟩
      · exact s1 _ l
      · obtain ⟨T, x, y, rfl, hT, rfl, hx, hy⟩ := y
        cases hx
        obtain ⟨dy, edy, ry⟩ := paired_get'' rl hy
        have lu := le_upd (o := .tup [.int (i : Nat), y]) (hk2.fnone hT)
        exact ⟨_, .tup [.int (i : Nat), dy], hk2.laid hT, lu, by rw [List.getElem?_mapIdx, edy]; rfl, .mkTup upd_same (Nat.le_trans (Nat.le_refl 2) (by decide)) (.cons (.int _) (.cons (ry.mono (l2.trans lu)) .nil))⟩
  · cases e2
end
end Dv
namespace Dv
open PySem PySem.Spec PyProof.Rows L2

/-! ### sorted(xs), xs a list of tuples of ints, none of them empty -/
def lexI : List Int → List Int → Bool
  | [], [] => false
  | [], _ :: _ => true
  | _ :: _, [] => false
  | a :: l, b :: m => if a = b then lexI l m else decide (a < b)
theorem lexI_eq (a : Int) (l m : List Int) : lexI (a :: l) (a :: m) = lexI l m := by
  show (if a = a then _ else _) = _
  rw [if_pos rfl]
theorem lexI_ne {a b : Int} (h : ¬ a = b) (l m : List Int) : lexI (a :: l) (b :: m) = decide (a < b) := by
  show (if a = b then _ else _) = _
  rw [if_neg h]
theorem lexI_asym : ∀ x y, lexI x y = true → lexI y x = false
  | [], [], h => by cases h
  | [], _ :: _, _ => rfl
  | _ :: _, [], h => by cases h
  | a :: l, b :: m, h => by
    by_cases e : a = b
    · subst e
      rw [lexI_eq] at h ⊢
      exact lexI_asym l m h
    · rw [lexI_ne e] at h
      rw [lexI_ne fun z => e z.symm]
      have h := of_decide_eq_true h
      exact decide_eq_false (by omega)
theorem lexI_tr : ∀ x y z, lexI y x = false → lexI z y = false → lexI z x = false
  | _, [], [], h, _ => h
  | [], [], _ :: _, _, _ => rfl
  | _ :: _, [], _ :: _, h, _ => by cases h
  | [], _ :: _, [], h, _ => rfl
  | [], _ :: _, _ :: _, h, _ => rfl
  | _ :: _, _ :: _, [], _, h => by cases h
  | a :: l, b :: m, c :: n, h1, h2 => by
    by_cases e1 : b = a
    · subst e1
      rw [lexI_eq] at h1
      by_cases e2 : c = b
      · subst e2
        rw [lexI_eq] at h2 ⊢
        exact lexI_tr l m n h1 h2
      · rw [lexI_ne e2] at h2 ⊢
        exact h2
    · rw [lexI_ne e1] at h1
      have h1 := of_decide_eq_false h1
      by_cases e2 : c = b
      · subst e2
        rw [lexI_ne e1]
        exact decide_eq_false h1
      · rw [lexI_ne e2] at h2
        have h2 := of_decide_eq_false h2
        rw [lexI_ne (by omega)]
        exact decide_eq_false (by omega)
theorem lexI_anti : ∀ x y, lexI x y = false → lexI y x = false → x = y
  | [], [], _, _ => rfl
  | [], _ :: _, h, _ => by cases h
  | _ :: _, [], _, h => by cases h
  | a :: l, b :: m, h1, h2 => by
    by_cases e : a = b
    · subst e
      rw [lexI_eq] at h1 h2
      rw [lexI_anti l m h1 h2]
    · rw [lexI_ne e] at h1
      rw [lexI_ne fun z => e z.symm] at h2
      have h1 := of_decide_eq_false h1
      have h2 := of_decide_eq_false h2
      exact absurd (by omega) e
theorem lexI_swo : SrtO.Swo lexI := ⟨lexI_asym, lexI_tr⟩
/-- a tuple of these ints lies there -/
def IsTI (h : Heap) (v : Value) (ns : List Int) : Prop := ∃ a o its n, v = .ref a ∧ h.get? a = some o ∧ o.cls = .type "tuple" ∧ o.data = .seq (List.toArray its) n ∧ IntsAre its ns
theorem IsTI.mono {h h' : Heap} {v : Value} {ns : List Int} (p : IsTI h v ns) (k : ∀ b o, h.get? b = some o → o.cls = .type "tuple" → h'.get? b = some o) : IsTI h' v ns :=
  let ⟨a, o, its, n, e, ho, hc, hd, hi⟩ := p; ⟨a, o, its, n, e, k a o ho hc, hc, hd, hi⟩
theorem intsAre_uniq : ∀ {its : List Value} {ns ms : List Int}, IntsAre its ns → IntsAre its ms → ns = ms
  | _, _, _, .nil, .nil => rfl
  | _, _, _, .cons n t a, .cons _ _ b => by rw [intsAre_uniq a b]
theorem intsAre_len : ∀ {its : List Value} {ns : List Int}, IntsAre its ns → its.length = ns.length
  | _, _, .nil => rfl
  | _, _, .cons _ _ a => by rw [List.length_cons, List.length_cons, intsAre_len a]
theorem IsTI.uniq {h : Heap} {v : Value} {ns ms : List Int} (p : IsTI h v ns) (q : IsTI h v ms) : ns = ms := by
  obtain ⟨a, o, its, n, rfl, ho, hc, hd, hi⟩ := p
  obtain ⟨b, o', its', n', e, ho', hc', hd', hi'⟩ := q
  cases e
  rw [ho] at ho'
  cases ho'
  rw [hd] at hd'
  injection hd' with e1 e2
  have e3 : its = its' := by have := congrArg Array.toList e1; simpa using this
  subst e3
  exact intsAre_uniq hi hi'
open Classical in
noncomputable def intsAt (h : Heap) (v : Value) : List Int := if e : ∃ ns, IsTI h v ns then Classical.choose e else []
theorem intsAt_is {h : Heap} {v : Value} {ns : List Int} (p : IsTI h v ns) : intsAt h v = ns := by
  have e : ∃ ns, IsTI h v ns := ⟨ns, p⟩
  unfold intsAt
  rw [dif_pos e]
  exact (Classical.choose_spec e).uniq p
section
variable {prog : Program} {w : World} {A : Around} {E : Value → Shared → Prop} {s : Shared}
theorem lex_walk : ∀ {xs ys : List Value} {ns ms : List Int} (i : Nat), IntsAre xs ns → IntsAre ys ms → PySem.W.KatLex prog w A true (decide (xs.length < ys.length)) (fun r s' => s' = s ∧ r = lexI ns ms) (xs.zip ys) i s
  | _, _, _, _, _, .nil, .nil => PySem.W.kat_nil ⟨rfl, rfl⟩
  | _, _, _, _, _, .nil, .cons _ _ _ => PySem.W.kat_nil ⟨rfl, decide_eq_true (Nat.succ_pos _)⟩
  | _, _, _, _, _, .cons _ _ _, .nil => PySem.W.kat_nil ⟨rfl, decide_eq_false (Nat.not_lt_zero _)⟩
  | _ :: xs, _ :: ys, _, _, i, .cons a t hx, .cons b u hy => by
    have ih := lex_walk (i + 1) hx hy
    have el : decide ((Value.int a t :: xs).length < (Value.int b u :: ys).length) = decide (xs.length < ys.length) := by
      simp only [List.length_cons, Nat.add_lt_add_iff_right]
    rw [el]
    refine PySem.W.kat_cons (SeqAt.EqAt.int_int a t b u prog w _ _ (PySem.W.kat_go (fun e => ?_) fun e => ?_))
    · have e : a = b := by simpa using e
      subst e
      rw [lexI_eq]
      exact PySem.W.kat_yes ih
    · have e : ¬ a = b := by simpa using e
      refine PySem.W.kat_no (TS.oneLt_ints _ ⟨rfl, ?_⟩)
      rw [lexI_ne e]
theorem tups_cmp {vs : List Value} {k : Value → List Int} (hp : ∀ v ∈ vs, IsTI s.heap v (k v)) : SrtO.Cmp prog w A s (tuples' true) (fun p => p.1 ∈ vs) (SrtO.lt2 fun v u => lexI (k v) (k u)) := fun p q hm hm' => by
  have h1 := hp _ hm
  have h2 := hp _ hm'
  show wpAny (model prog w) A (keyLt' (tuples' true) p.1 q.1) (fun r s' => s' = s ∧ r = lexI (k p.1) (k q.1)) (fun _ _ => False) s
  generalize k p.1 = ns at h1 ⊢
  generalize k q.1 = ms at h2 ⊢
  obtain ⟨a, o, its, n, e, ho, hc, hd, hi⟩ := h1
  obtain ⟨a', o', its', n', e', ho', hc', hd', hi'⟩ := h2
  rw [e, e']
  refine PySem.W.kat_lt ho hd ho' hd' ?_
  rw [List.size_toArray, List.size_toArray]
  exact lex_walk 0 hi hi'
theorem tups_firsts {h : Heap} {k : Value → List Int} : ∀ {vs : List Value}, (∀ v ∈ vs, IsTI h v (k v) ∧ k v ≠ []) → ∃ fs : List Value, PySem.W.KatTups h vs fs ∧ fs.length = vs.length ∧ ∀ f ∈ fs, ∃ x t, f = Value.int x t
  | [], _ => ⟨[], PySem.W.KatTups.nil, rfl, fun _ z => nomatch z⟩
  | v :: vs, hp => by
    obtain ⟨fs, g1, g2, g3⟩ := tups_firsts fun u hu => hp u (List.mem_cons_of_mem v hu)
    obtain ⟨⟨a, o, its, n, rfl, ho, hc, hd, hi⟩, hne⟩ := hp v List.mem_cons_self
    generalize k (.ref a) = ns at hi hne
    cases hi with
    | nil => exact absurd rfl hne
    | cons x t hi =>
      refine ⟨.int x t :: fs, PySem.W.KatTups.cons ho hc hd rfl g1, by simp [g2], fun f hf => ?_⟩
      rcases List.mem_cons.mp hf with z | z
      · exact ⟨x, t, z⟩
      · exact g3 f z
theorem tups_sortable {a : Addr} {vs : List Value} {k : Value → List Int} (h0 : 0 < vs.length) (hp : ∀ v ∈ vs, IsTI s.heap v (k v) ∧ k v ≠ []) (ha : ∀ o, s.heap.get? a = some o → o.cls ≠ .type "tuple") : SrtO.SortableO prog w A s a vs fun v u => lexI (k v) (k u) := fun h' keep => by
  have hp' : ∀ v ∈ vs, IsTI h' v (k v) ∧ k v ≠ [] := fun v hm => ⟨(hp v hm).1.mono fun b o e c => keep b o (fun z => ha o (z ▸ e) c) e, (hp v hm).2⟩
  obtain ⟨fs, g1, g2, g3⟩ := tups_firsts hp'
  refine ⟨tuples' true, fun Q E hq => PySem.W.kat_kind (T := .type "int") g1 (by omega) (fun f hf => ?_) rfl ?_, tups_cmp fun v hv => (hp' v hv).1⟩
  · obtain ⟨x, t, rfl⟩ := g3 f hf
    exact PySem.W.Looks.now
  · have ne : (Value.type "int" != Value.type "tuple") = true := by decide +kernel
    rw [ne]
    exact hq
end
/-- sorted(xs): the tuples in rising sequence -/
def rSortTI (K : PySem.W.Frag) : List V → Hp → VK → Prop := fun vs H Q => ∃ (a : Addr) (ks : List (Addr × List Int)), vs = [V.ref a] ∧ SqL K H a (ks.map fun p => V.ref p.1) ∧ (∀ p ∈ ks, H p.1 = some (.tup (p.2.map V.int)) ∧ p.2 ≠ []) ∧
  ∀ (js : List (Addr × List Int)) (p : Addr), js.Perm ks → js.Pairwise (fun x y => lexI y.2 x.2 = false) → H p = none → Q (.ref p) (upd H p (.lst (js.map fun q => V.ref q.1)))
theorem vals_ints : ∀ {ns : List Int} {its : List Value}, Vals (ns.map V.int) its → IntsAre its ns
  | [], _, .nil => .nil
  | n :: ns, its, h => by
    cases h with
    | cons r t =>
      obtain ⟨t', rfl⟩ := r
      exact .cons n t' (vals_ints t)
theorem call_sortTI {X : Cx} : CallR X (.builtin "sorted") (rSortTI X.K) := by
  intro pins s σ H vs us Q I r h
  obtain ⟨a, ks, rfl, hs, hx, q⟩ := h
  obtain ⟨its, rv, hl, hz⟩ := I.list hs
  obtain ⟨u, rfl, ru⟩ := vals1 r
  obtain rfl : u = Value.ref a := ru
  obtain ⟨e1, e2⟩ := refs_back rv fun x m => by
    obtain ⟨p, _, rfl⟩ := List.mem_map.mp m
    exact ⟨_, rfl⟩
  have tup : ∀ p ∈ ks, IsTI s.heap (.ref p.1) p.2 := fun p hp => by
    obtain ⟨_, its2, r2, o, ho, hc, n, hd⟩ := I.hok _ _ (hx p hp).1
    exact ⟨p.1, o, its2, n, rfl, ho, hc, hd, vals_ints r2⟩
  have back : ∀ v ∈ its, ∃ p ∈ ks, v = .ref p.1 := fun v hv => by
    obtain ⟨b, rfl⟩ := e2 v hv
    have hm : V.ref b ∈ ks.map fun p => V.ref p.1 := by rw [e1]; exact List.mem_map.mpr ⟨_, hv, rfl⟩
    obtain ⟨p, hp, e⟩ := List.mem_map.mp hm
    cases e
    exact ⟨p, hp, rfl⟩
  have good : ∀ v ∈ its, IsTI s.heap v (intsAt s.heap v) ∧ intsAt s.heap v ≠ [] := fun v hv => by
    obtain ⟨p, hp, rfl⟩ := back v hv
    rw [intsAt_is (tup p hp)]
    exact ⟨tup p hp, (hx p hp).2⟩
  refine SrtO.sorted_ord (ltv := fun v u => lexI (intsAt s.heap v) (intsAt s.heap u)) ⟨fun x y => lexI_asym _ _, fun x y z => lexI_tr _ _ _⟩ hl.isList (by rw [← rv.length]; exact hz) (fun h2 h₁ b hb kk => ?_) fun out h1 h2 => ?_
  · refine tups_sortable (s := { s with heap := h₁ }) (by omega) (fun v hv => ⟨(good v hv).1.mono fun b o e _ => (kk b o e).2, (good v hv).2⟩) fun o e c => ?_
    have e' : some o = some (seqObj "list" its.toArray 0) := e.symm.trans hb
    cases e'
    exact absurd (Value.type.inj c) (by decide)
  · have hout : ∀ u ∈ out, ∃ p ∈ ks, u = Value.ref p.1 := fun u hu => back u (h2.perm.mem_iff.mp hu)
    -- the list with its ints
    let js : List (Addr × List Int) := out.map fun u => (aOf u, intsAt s.heap u)
    have hjs : js.map (fun q => V.ref q.1) = out.map backV := by
      rw [List.map_map]
      refine List.map_congr_left fun u hu => ?_
      obtain ⟨p, _, rfl⟩ := hout u hu
      rfl
    have hks : ks = (ks.map fun p => (Value.ref p.1 : Value)).map fun u => (aOf u, intsAt s.heap u) := by
      rw [List.map_map]
      conv => lhs; rw [← List.map_id ks]
      refine List.map_congr_left fun p hp => ?_
      show p = (p.1, intsAt s.heap (.ref p.1))
      rw [intsAt_is (tup p hp)]
    have hits : its = ks.map fun p => (Value.ref p.1 : Value) := by
      have z : (ks.map fun p => V.ref p.1).map (fun x : V => match x with | .ref b => (Value.ref b : Value) | _ => .none) = (its.map backV).map (fun x : V => match x with | .ref b => (Value.ref b : Value) | _ => .none) := by rw [e1]
      rw [List.map_map, List.map_map] at z
      refine Eq.symm (Eq.trans (Eq.trans ?_ z) ?_)
      · exact List.map_congr_left fun p _ => rfl
      · conv => rhs; rw [← List.map_id its]
        refine List.map_congr_left fun v hv => ?_
        obtain ⟨b, rfl⟩ := e2 v hv
        rfl
    have hperm : js.Perm ks := by
      have z := h2.perm.map fun u => (aOf u, intsAt s.heap u)
      rw [hits, ← hks] at z
      exact z
    have hb : out.length = its.length := h2.perm.length_eq
    obtain ⟨n, hn⟩ := sortedAll_at s.heap its out.toArray
    have fresh : H (s.heap.objs.size + 1) = none := I.hok.fresh (Nat.le_succ _)
    refine ⟨.ref (s.heap.objs.size + 1), upd H (s.heap.objs.size + 1) (.lst (out.map backV)), I.laid (t' := s.toks) (fun b o e => sortedAll_old e) (Nat.le_succ _) ⟨?_, out, n, vals_back (fun u hu => let ⟨p, _, e⟩ := hout u hu; ⟨_, e⟩), hn⟩, rfl, ?_⟩
    · rw [List.length_map, hb, ← rv.length]; exact hz
    · rw [← hjs]
      refine q js _ hperm (List.pairwise_map.mpr h1) fresh
/-! in data -/
def tupsI : List D → Option (List (List Int))
  | [] => some []
  | .tup ds :: r => (intsD ds).bind fun ns => if ns = [] then none else (tupsI r).map (ns :: ·)
  | _ => none
def lexLeI (x y : List Int) : Bool := !lexI y x
def sortTI (l : List (List Int)) : List (List Int) := l.mergeSort lexLeI
def tD (ns : List Int) : D := .tup (ns.map .int)
def sortTD : List D → Option D
  | [.lst ds] => (tupsI ds).bind fun l => if l.length ≤ 1000000 then some (.lst ((sortTI l).map tD)) else none
  | _ => none
theorem sortTI_perm (l : List (List Int)) : (sortTI l).Perm l := List.mergeSort_perm _ _
theorem sortTI_eq {qs ps : List (List Int)} (h : qs.Perm ps) (s : qs.Pairwise fun x y => lexI y x = false) : qs = sortTI ps := by
  refine List.Perm.eq_of_pairwise (le := fun x y => lexLeI x y = true) (fun a b _ _ h1 h2 => ?_) (s.imp fun {a b} e => by unfold lexLeI; rw [e]; rfl) ?_ (h.trans (sortTI_perm ps).symm)
  · unfold lexLeI at h1 h2
    exact lexI_anti a b (by simpa using h2) (by simpa using h1)
  · refine List.pairwise_mergeSort (fun a b c h1 h2 => ?_) (fun a b => ?_) ps
    · unfold lexLeI at *
      have z := lexI_tr a b c (by simpa using h1) (by simpa using h2)
      rw [z]; rfl
    · unfold lexLeI
      cases e : lexI b a with
      | false => rfl
      | true => rw [lexI_asym _ _ e]; rfl
section
variable {G : Gh}
theorem rep_tupz {F : Hp} {v : V} {ds : List D} (r : Rep G.K F v (.tup ds)) : ds.length ≤ sizeLine := by
  cases r
  assumption
theorem repL_tups {F : Hp} : ∀ {vs : List V} {ds : List D} {l : List (List Int)}, RepL G.K F vs ds → tupsI ds = some l →
    ∃ ks : List (Addr × List Int), vs = ks.map (fun p => V.ref p.1) ∧ ks.map (·.2) = l ∧ ∀ k ∈ ks, F k.1 = some (.tup (k.2.map V.int)) ∧ k.2 ≠ [] ∧ k.2.length ≤ sizeLine
  | _, [], _, .nil, e => by cases e; exact ⟨[], rfl, rfl, fun _ h => nomatch h⟩
  | _, d :: r, l, .cons rv t, e => by
    unfold tupsI at e
    split at e
    · rename_i e'; cases e'
    · rename_i ds r' e'
      cases e'
      obtain ⟨ns, e1, e⟩ := Option.bind_eq_some_iff.mp e
      split at e
      · cases e
      · rename_i hne
        obtain ⟨qs, e2, rfl⟩ := Option.map_eq_some_iff.mp e
        obtain ⟨ks, rfl, h2, h3⟩ := repL_tups t e2
        have hz := rep_tupz rv
        obtain ⟨a, us, rfl, ha, ru⟩ := rv.untup'
        rw [intsD_map e1, List.length_map] at hz
        rw [repL_ints ru e1] at ha
        refine ⟨(a, ns) :: ks, rfl, by rw [List.map_cons, h2], fun k hk => ?_⟩
        rcases List.mem_cons.mp hk with z | z
        · subst z; exact ⟨ha, hne, hz⟩
        · exact h3 k z
    · cases e
theorem rep_ints {F : Hp} : ∀ ns : List Int, RepL G.K F (ns.map V.int) (ns.map .int)
  | [] => .nil
  | n :: ns => .cons (.int n) (rep_ints ns)
theorem c_sortTI : CBF G (rSortTI G.K) sortTD := fun vs ds d H F M S Q hk rl e q => by
  unfold sortTD at e
  split at e
  · rename_i xs
    obtain ⟨l, e1, e⟩ := Option.bind_eq_some_iff.mp e
    split at e
    · rename_i hz
      cases e
      obtain ⟨v, rfl, r⟩ := brl1 rl
      obtain ⟨a, us, rfl, hl, ru⟩ := r.unlst hk
      obtain ⟨ks, rfl, hks, hkf⟩ := repL_tups ru e1
      have hlen : ks.length = l.length := by have z := congrArg List.length hks; simpa using z
      refine ⟨a, ks, rfl, .of hl, fun p hp => ⟨hk.sub _ _ (hkf p hp).1, (hkf p hp).2.1⟩, fun js p hpm hpw hpn => ?_⟩
      have eq : js.map (·.2) = sortTI l := sortTI_eq (by have z := hpm.map (·.2); rw [hks] at z; exact z) (List.pairwise_map.mpr hpw)
      have rl' : RepL G.K F (js.map fun q => V.ref q.1) ((js.map (·.2)).map tD) := by
        refine paired_of (by simp) fun i v d e1 e2 => ?_
        rw [List.getElem?_map] at e1
        rw [List.map_map, List.getElem?_map] at e2
        obtain ⟨p, ep, rfl⟩ := Option.map_eq_some_iff.mp e1
        rw [ep] at e2
        cases e2
        have hp := hpm.mem_iff.mp (List.mem_of_getElem? ep)
        have ha := (hkf p hp).1
        exact .mkTup ha (by rw [List.length_map]; exact (hkf p hp).2.2) (rep_ints p.2)
      rw [eq] at rl'
      refine q p _ _ (hk.laidO hpn (.lst ?_ rl')) (hk.mnone hpn) (Same.refl F)
      rw [List.length_map, (sortTI_perm l).length_eq, sizeLine_eq]; omega
    · cases e
  · cases e
end
end Dv
namespace Dv
open PySem PySem.Spec PyProof.Rows L2

/-! ### x.append(y.pop(k)), both lists owned -/
theorem seqIx_nat {k n : Nat} (h : k < n) : seqIndex? (k : Int) n = some k := by
  unfold seqIndex?
  have h1 : ¬ ((k : Int) < 0) := by omega
  simp only [h1, if_false]
  have h2 : (decide (0 ≤ (k : Int)) && decide ((k : Int) < (n : Int))) = true := by simp; omega
  rw [h2]
  simp
theorem paired_erase {α β : Type} {R : α → β → Prop} : ∀ {xs : List α} {ys : List β} (k : Nat), Paired R xs ys → Paired R (xs.eraseIdx k) (ys.eraseIdx k)
  | _, _, _, .nil => .nil
  | _, _, 0, .cons _ t => t
  | _, _, k + 1, .cons r t => .cons r (paired_erase k t)
section
variable {G : Gh} {X : Cx} {st : Stmt}
def sAppPop (i j : Nat) (m : ME) : MS := fun ρ S => match ρ[i]?, ρ[j]? with
  | some (some (.own (.lst ds))), some (some (.own (.lst es))) => if i = j then none else (m ρ S).bind fun p => match p.1 with
    | .int (.ofNat k) => if k < es.length ∧ ds.length < 1000000 ∧ es.length < 1000000 then es[k]?.map fun y => (.nx, (ρ.set j (some (.own (.lst (es.eraseIdx k))))).set i (some (.own (.lst (ds ++ [y])))), p.2) else none
    | _ => none
  | _, _ => none
theorem ss_appPop {i j : Nat} {m : ME} (h : PS X st (tDrop (tBM G.K "list" rAppend (tVar i) (tCons (tBM G.K "list" rPopAt (tVar j) (tCons (eE G m) tNil)) tNil)))) : PS X st (sS G (sAppPop i j m)) := ps_imp h fun D σ H ⟨F, M, ρ, S, hk, sl, fl, ρ', S', e, q⟩ => by
  unfold sAppPop at e
  split at e
  · rename_i ds es hi hj
    split at e
    · cases e
    · rename_i hij
      obtain ⟨⟨d, S1⟩, e1, e⟩ := Option.bind_eq_some_iff.mp e
      dsimp only at e
      split at e
      · rename_i k
        split at e
        · rename_i hc
          obtain ⟨y, ey, e⟩ := Option.map_eq_some_iff.mp e
          cases e
          obtain ⟨v, ev, x, rfl, em⟩ := sl.at_ _ _ hi
          obtain ⟨v2, ev2, x2, rfl, em2⟩ := sl.at_ _ _ hj
          have hne : x ≠ x2 := fun z => by
            rw [z, em2] at em
            cases em
            exact hij rfl
          obtain ⟨_, _, oo, eo, ro⟩ := hk.own _ _ _ em
          obtain ⟨_, _, oo2, eo2, ro2⟩ := hk.own _ _ _ em2
          cases ro with
          | lst _ r =>
            cases ro2 with
            | lst _ r2 =>
              refine ⟨_, ev, .inl ⟨rfl, _, .of eo⟩, _, ev2, .inl ⟨rfl, _, .of eo2⟩, F, M, ρ, S, hk, sl, _, _, e1, fun w H1 F1 hk1 le1 ry => ?_⟩
              obtain ⟨_, _, oo, eo, ro⟩ := hk1.own _ _ _ em
              obtain ⟨_, _, oo2, eo2, ro2⟩ := hk1.own _ _ _ em2
              cases ry
              cases ro with
              | @lst us _ hz r =>
                cases ro2 with
                | @lst us2 _ hz2 r2 =>
                  have hl := Paired.length r
                  have hl2 := Paired.length r2
                  obtain ⟨u, eu, ru⟩ := paired_get' r2 ey
                  have hk63 : (k : Int) < 2 ^ 63 := by have := hc.1; have := hc.2.2; omega
                  refine ⟨x2, us2, (k : Int), k, u, rfl, rfl, eo2, by omega, hk63, seqIx_nat (by rw [hl2]; exact hc.1), eu, ?_⟩
                  have hk2 := hk1.write (w' := some j) (o := .lst (us2.eraseIdx k)) (d' := .lst (es.eraseIdx k)) em2 (.lst (by rw [List.length_eraseIdx]; split <;> omega) (paired_erase k r2))
                  have sl2 := slots_write (sl.mono le1) hj ev2 em2 (d := .lst (es.eraseIdx k))
                  have em' : updO M x2 (some j, .lst (es.eraseIdx k)) x = some (some i, .lst ds) := by rw [updO_ne hne]; exact em
                  have eo' : upd H1 x2 (.lst (us2.eraseIdx k)) x = some (.lst us) := by rw [upd_ne hne]; exact eo
                  refine ⟨x, us, u, rfl, rfl, eo', by rw [hl]; exact line1e6 hc.2.1, ?_⟩
                  have hi' : (ρ.set j (some (.own (.lst (es.eraseIdx k)))))[i]? = some (some (.own (.lst ds))) := by rw [List.getElem?_set_ne fun z => hij z.symm]; exact hi
                  exact q _ F1 _ (hk2.write (w' := some i) (o := .lst (us ++ [u])) (d' := .lst (ds ++ [y])) em' (.lst (by rw [List.length_append]; exact line1e6 hc.2.1) (paired_app r (.cons ru .nil)))) le1 _ (slots_write sl2 hi' ev em')
        · cases e
      · cases e
  · cases e
end
end Dv
namespace Dv
open PySem PySem.Spec PyProof.Rows L2

/-! ### {**a, **b}: what is told of the model's own merging -/
section
variable {prog : Program} {w : World} {A : Around} {E : Value → Shared → Prop} {s : Shared}
theorem mix_noref {k : Key} {v : Value} (h : keyIs k v = true) : ∀ b, v ≠ .ref b := fun b z => by
  rcases keyIs_shape h with ⟨_, _, _, e⟩ | ⟨_, _, _, e⟩ <;> rw [e] at z <;> cases z
theorem put_mix {d : Addr} {kvs : List (Key × Value)} {k : Key} {key v : Value} {Q : Unit → Shared → Prop} (hkey : keyIs k key = true) (hm : s.heap.DictOf (mixKind prog w) d kvs) (hsz : kvs.length ≤ sizeLine)
    (hQ : ∀ h', h'.DictOf (mixKind prog w) d (stored kvs k v) → Heap.SameBut d s.heap h' → Q () { s with heap := h' }) : wpAny (model prog w) A (dictPut d (keyH w k) key v) Q E s := by
  obtain ⟨o, es, ep, e1, e2, e3, e4, e5, e6⟩ := hm
  have hl : es.toList.length = kvs.length := e5.length
  have hes : es.size ≤ sizeLine := by rw [← Array.length_toList]; omega
  have fi : (es.findIdx? fun e => (mixKind prog w).is k e.key) = kvs.findIdx? fun kv => decide (kv.1 = k) := by
    rw [← e5.findIdx k]; cases es; simp
  refine wpAny_bind (wpAny_dictFind_of (knd := mixKind prog w) hkey e1 e3 e4 ?_)
  cases hi : es.findIdx? fun e => (mixKind prog w).is k e.key with
  | some i =>
    have hany := any_of_findIdx_some (fi.symm.trans hi)
    have hst : stored kvs k v = kvs.map fun kv => if kv.1 = k then (kv.1, v) else kv := by unfold stored; rw [if_pos hany]
    have hl2 : (es.toList.findIdx? fun e => (mixKind prog w).is k e.key) = some i := by rw [← hi]; cases es; simp
    refine wpAny_updateDict e1 e3 (hQ _ ⟨_, _, ep, Heap.get?_update_self _ e1 (Obj.isFreed_of_dict (Obj.data_mapDict e3 _)), e2.mapDict _, Obj.data_mapDict e3 _, e4.modify _ _, ?_, ?_⟩ (Heap.SameBut.update ..))
    · have := e5.modify e6 hl2 v
      rw [hst]
      cases es
      simpa using this
    · rw [hst, keys_map_store]; exact e6
  | none =>
    have hno := not_mem_of_findIdx_none (fi.symm.trans hi)
    have hst : stored kvs k v = kvs ++ [(k, v)] := by
      unfold stored
      refine if_neg fun z => ?_
      obtain ⟨q, hq, e⟩ := List.any_eq_true.mp z
      exact hno (of_decide_eq_true e ▸ List.mem_map_of_mem hq)
    refine wpAny_updateDictKeys (hz := hes) e1 e3 (hQ _ ⟨_, _, ep + 1, Heap.get?_update_self _ e1 (Obj.isFreed_of_dict (Obj.data_mapDictKeys e3 _)), e2.mapDictKeys _, Obj.data_mapDictKeys e3 _, e4.push hkey _, ?_, ?_⟩ (Heap.SameBut.update ..))
    · have := e5.append hkey (keyH w k) v
      rw [hst]
      cases es
      simpa using this
    · rw [hst, List.map_append, List.nodup_append]
      exact ⟨e6, by simp, fun a ha b hb z => hno (by simp at hb; rw [← hb, ← z]; exact ha)⟩
theorem merge_mix {d o : Addr} {kvs more : List (Key × Value)} {Q : Unit → Shared → Prop} (hdo : d ≠ o) (hoS : (o == sysModules) = false) (hd : s.heap.DictOf (mixKind prog w) d kvs) (ho : s.heap.DictOf (mixKind prog w) o more)
    (hsz : kvs.length + more.length ≤ sizeLine) (hQ : ∀ h', h'.DictOf (mixKind prog w) d (merged kvs more) → Heap.SameBut d s.heap h' → Q () { s with heap := h' }) :
    wpAny (model prog w) A (mergeMapping d (.ref o) false) Q E s := by
  obtain ⟨od, esd, epd, d1, d2, d3, d4, d5, d6⟩ := id hd
  obtain ⟨oo, eso, epo, o1, o2, o3, o4, o5, o6⟩ := id ho
  have hlen : more.length = eso.size := by rw [← o5.length]; simp
  unfold mergeMapping
  refine wpAny_bind (wpAny_isInstance ho.typeIs isSubtype_dict_dict ?_)
  simp only [if_true]
  refine wpAny_bind (wpAny_specialOf ho.typeIs F.slot_dict_iter.lookup (wpAny_bind (wpAny_pure ?_)))
  simp only [beq_self_eq_true]
  rw [if_neg (by rw [hoS]; exact Bool.false_ne_true)]
  refine wpAny_bind (wpAny_dictEntries d1 d3 ?_)
  have loop : wpAny (model prog w) A (do
      let l ← dictEntries o
      let epoch ← dictEpoch o
      forIn (List.range l.size) PUnit.unit fun i (_ : PUnit) => (do
          let l' ← dictEntries o
          match l'[i]? with
            | some e => do
              holding [e.key, e.val] (do
                if false = true then (do
                  let x ← dictFind d e.key e.hash
                  if x.isSome = true then (do rule "dict.merge.duplicate-key"; let y ← newExc (.type "KeyError") [e.key]; raiseNew y; dictPut d e.hash e.key e.val) else dictPut d e.hash e.key e.val)
                else dictPut d e.hash e.key e.val)
              let ep' ← dictEpoch o
              if (ep' != epoch) = true then do
                  (unsupported "dict.changed-during-merge" : Sem PUnit)
                  pure (ForInStep.yield PUnit.unit)
                else pure (ForInStep.yield PUnit.unit)
            | _ => do
              (unsupported "dict.changed-during-merge" : Sem PUnit)
              pure (ForInStep.yield PUnit.unit) : Sem (ForInStep PUnit))
      pure ()) Q E s := by
    refine wpAny_bind (wpAny_dictEntries o1 o3 (wpAny_bind (wpAny_dictEpoch o1 o3 (wpAny_bind ?_))))
    refine wpAny_forIn_list _ (fun rest _ s' => ∃ i, rest = List.range' i (eso.size - i) ∧ i ≤ eso.size ∧ ∃ h', s' = { s with heap := h' } ∧ h'.DictOf (mixKind prog w) d (merged kvs (more.take i)) ∧ Heap.SameBut d s.heap h') _ ?_ ?_ _ _
      ⟨0, by rw [List.range_eq_range']; rfl, Nat.zero_le _, s.heap, rfl, hd, Heap.SameBut.refl _ _⟩
    · rintro x rest b s' ⟨i, hr, hi, h', rfl, hd', hs'⟩
      have hlt : i < eso.size := by
        refine Nat.lt_of_not_le fun z => ?_
        rw [Nat.sub_eq_zero_of_le z] at hr; cases hr
      rw [show eso.size - i = (eso.size - (i + 1)) + 1 by omega, List.range'_succ] at hr
      injection hr with hx hr
      subst hx
      have oh : h'.get? o = some oo := (hs'.2 o (Ne.symm hdo)).trans o1
      refine wpAny_bind (wpAny_dictEntries oh o3 ?_)
      have hxm : x < more.length := by omega
      obtain ⟨hkey, hval⟩ := o5.get? (i := x) (e := eso[x]) (k := more[x].1) (v := more[x].2) (by simp [hlt]) (List.getElem?_eq_getElem hxm)
      obtain ⟨k', hkey', hhash⟩ := o4 eso[x] (Array.getElem_mem hlt)
      have ek : k' = more[x].1 := (mixKind prog w).inj _ _ _ hkey' hkey
      rw [ek] at hhash
      rw [Array.getElem?_eq_getElem hlt]
      have hmx : (merged kvs (more.take x)).length ≤ sizeLine := Nat.le_trans (merged_length_le _ _) (by rw [List.length_take]; omega)
      refine wpAny_bind (wpAny_holding ?_)
      rw [if_neg Bool.false_ne_true, hhash, hval]
      refine put_mix hkey hd' hmx fun h2 hd2 hs2 => ?_
      refine wpAny_bind (wpAny_dictEpoch ((hs2.2 o (Ne.symm hdo)).trans oh) o3 ?_)
      rw [if_neg (by simp)]
      exact wpAny_pure ⟨x + 1, hr, hlt, h2, rfl, by rw [merged_take_succ kvs more x more[x] (List.getElem?_eq_getElem hxm)]; exact hd2, hs'.trans hs2⟩
    · rintro b s' ⟨i, hr, hi, h', rfl, hd', hs'⟩
      have hin : i = eso.size := by
        refine Nat.le_antisymm hi (Nat.le_of_not_lt fun z => ?_)
        rw [show eso.size - i = (eso.size - (i + 1)) + 1 by omega, List.range'_succ] at hr
        cases hr
      rw [hin, ← hlen, List.take_length] at hd'
      exact wpAny_pure (hQ h' hd' hs')
  split
  · refine wpAny_bind (wpAny_dictEntries o1 o3 (wpAny_bind (wpAny_of_eq (a := PUnit.unit) ?_ loop)))
    rw [← Array.forIn_toList]
    refine forIn_yield_id _ fun e he c => ?_
    obtain ⟨k, hkey, _⟩ := o4 e (Array.mem_toList_iff.mp he)
    have := mix_noref hkey
    split
    · rename_i b hb
      exact absurd hb (this b)
    · rfl
  · exact loop
theorem disp_two {va vb : Sem Value} {Q : Value → Shared → Prop}
    (h : wpAny (model prog w) A va (fun m s1 => wpAny (model prog w) A (mergeMapping s.heap.objs.size m false) (fun _ s2 => wpAny (model prog w) A vb (fun m' s3 => wpAny (model prog w) A (mergeMapping s.heap.objs.size m' false) (fun _ s4 => Q (.ref s.heap.objs.size) s4) (fun _ _ => False) s3) E s2) (fun _ _ => False) s1) E { s with heap := s.heap.push { cls := .type "dict", data := .dict #[] } }) :
    wpAny (model prog w) A (dictDisplay [(none, va), (none, vb)]) Q E s := by
  unfold dictDisplay
  simp only [List.forIn_cons, List.forIn_nil, List.isEmpty_nil, if_true, pure_bind, bind_assoc]
  refine wpAny_bind (wpAny_alloc ?_)
  refine wpAny_bind (wpAny_holding (wpAny_mono h (fun m s1 h1 => ?_) fun _ _ e => e))
  refine wpAny_bind (wpAny_onRaise (wpAny_tryCatch (wpAny_onRaise (wpAny_holding (wpAny_mono h1 (fun _ s2 h2 => ?_) fun _ _ e => e.elim)))))
  refine wpAny_bind (wpAny_holding (wpAny_mono h2 (fun m' s3 h3 => ?_) fun _ _ e => e))
  refine wpAny_bind (wpAny_onRaise (wpAny_tryCatch (wpAny_onRaise (wpAny_holding (wpAny_mono h3 (fun _ s4 h4 => ?_) fun _ _ e => e.elim)))))
  exact wpAny_pure h4
end
end Dv
namespace Dv
open PySem PySem.Spec PyProof.Rows L2

/-! ### {**a, **b} -/
section
variable {G : Gh} {X : Cx} {e a b c o : Expr} {es : List Expr} {pos p2 : Pos} {st : Stmt}
def dictD : D → Option (List (Key × D))
  | .dK ds => some ds
  | _ => none
theorem Rep.undict {K : PySem.W.Frag} {F : Hp} {v : V} {d : D} {ds : List (Key × D)} (r : Rep K F v d) (h : dictD d = some ds) : ∃ a vs, v = .ref a ∧ Rd F a (.dK vs) ∧ RepP K F vs ds := by
  unfold dictD at h
  split at h
  · cases h; exact r.undK
  · cases h
def mergeG (ks ls : List (Key × D)) : List (Key × D) := ls.foldl (fun acc kv => putG acc kv.1 kv.2) ks
theorem mergeG_len : ∀ (ls ks : List (Key × D)), (mergeG ks ls).length ≤ ks.length + ls.length
  | [], ks => Nat.le_refl _
  | p :: r, ks => by
    have h1 := mergeG_len r (putG ks p.1 p.2)
    have h2 := putG_len ks p.1 p.2
    rw [List.length_cons]
    exact Nat.le_trans h1 (by omega)
theorem repP_merge {K : PySem.W.Frag} {F : Hp} {us : List (Key × V)} {ls : List (Key × D)} (r : RepP K F us ls) : ∀ {vs : List (Key × V)} {ks : List (Key × D)}, RepP K F vs ks → RepP K F (mergeK vs us) (mergeG ks ls) := by
  unfold RepP at r
  induction r with
  | nil => exact fun h => h
  | @cons p q ps qs hh t ih =>
    intro vs ks h
    have := ih (repP_put (k := p.1) h hh.2)
    show RepP K F (mergeK (putK vs p.1 p.2) ps) (mergeG (putG ks q.1 q.2) qs)
    rw [← hh.1]
    exact this
def tStar2 (ta tb : TE) : TE := fun σ H Q => ∀ p, H p = none → ta σ (upd H p (.dK [])) fun x H1 => ∃ a ks, x = .ref a ∧ a ≠ p ∧ Rd H1 a (.dK ks) ∧ H1 p = some (.dK []) ∧ tb σ (upd H1 p (.dK (mergeK [] ks))) fun y H2 =>
  ∃ b ls us, y = .ref b ∧ b ≠ p ∧ Rd H2 b (.dK ls) ∧ H2 p = some (.dK us) ∧ us.length + ls.length ≤ sizeLine ∧ Q (.ref p) (upd H2 p (.dK (mergeK us ls)))
theorem merge_walk {pins : List (Addr × Obj)} {σ : L2.St} {H : Hp} {s : Shared} {A : Around} {E : Value → Shared → Prop} {p a : Addr} {ks ls : List (Key × V)} {Q : Unit → Shared → Prop} (I : Inv X pins σ H s) (hap : a ≠ p) (ea : Rd H a (.dK ls)) (ep : H p = some (.dK ks)) (hz : ks.length + ls.length ≤ sizeLine)
    (h : ∀ s', Inv X pins σ (upd H p (.dK (mergeK ks ls))) s' → Q () s') : wpAny (model X.prog X.w) A (mergeMapping p (.ref a) false) Q E s := by
  obtain ⟨_, hs, vs, r, da⟩ := dk_rd I.hok ea
  obtain ⟨_, hp, us, r0, dp⟩ := dk_of I.hok ep
  refine merge_mix (Ne.symm hap) hs dp da (by rw [← r.length, ← r0.length]; exact hz) fun h' dd hb => h _ ?_
  have he : ∃ q, h'.get? p = some q := by obtain ⟨q, _, _, z, _⟩ := id dd; exact ⟨q, z⟩
  exact d_write (t' := s.toks) I (by rw [ep]; exact trivial) hb he (dk_new (Nat.le_trans (length_mergeK ls ks) hz) hp (r.merge r0) dd)
theorem pe_star2 {ta tb : TE} (ha : PE X a ta) (hb : PE X b tb) : PE X (.Dict [none, none] [a, b] pos) (tStar2 ta tb) := by
  refine ⟨fun pins s σ H Q I q => ?_⟩
  have hn := I.hok.fresh (Nat.le_refl s.heap.objs.size)
  have I0 := I.laid (a := s.heap.objs.size) (o := .dK []) (h' := s.heap.push { cls := .type "dict", data := .dict #[] }) (t' := s.toks) (fun _ _ q => Heap.get?_push_of_some _ q) (Nat.le_refl _) (dk_empty s.heap I.big)
  rw [arm_eval_Dict]
  refine wpAny_bind (wpAny_standAt (disp_two (wpAny_bind ?_)))
  refine thn (ha.run pins _ σ _ _ I0 (q _ hn)) fun v s1 ⟨x, H1, I1, rx, a1, ks, ex, hne, ea, ep, q1⟩ => wpAny_bind (wpAny_standAt (wpAny_pure ?_))
  subst ex
  obtain rfl : v = Value.ref a1 := rx
  have hz1 : ks.length ≤ sizeLine := (dk_rd I1.hok ea).1
  refine merge_walk I1 hne ea ep (by rw [List.length_nil]; omega) fun s2 I2 => wpAny_bind ?_
  refine thn (hb.run pins _ σ _ _ I2 q1) fun v2 s3 ⟨y, H2, I3, ry, b1, ls, us, ey, hne2, eb, ep2, hz, q2⟩ => wpAny_bind (wpAny_standAt (wpAny_pure ?_))
  subst ey
  obtain rfl : v2 = Value.ref b1 := ry
  exact merge_walk I3 hne2 eb ep2 hz fun s4 I4 => ⟨.ref s.heap.objs.size, _, I4, rfl, q2⟩
def mStar2 (ma mb : ME) : ME := fun ρ S => (ma ρ S).bind fun p => (dictD p.1).bind fun ks => (mb ρ p.2).bind fun q => (dictD q.1).bind fun ls => if ks.length + ls.length ≤ 1000000 then some (.dK (mergeG (mergeG [] ks) ls), q.2) else none
theorem rd_ne {F : Hp} {a p : Addr} {u : HO} (h : Rd F a u) (n : F p = none) : a ≠ p := fun z => by
  subst z
  rcases h with h | ⟨_, h⟩ <;> rw [n] at h <;> cases h
theorem sf_star2 {ma mb : ME} (ha : PE X a (eE G ma)) (hb : PE X b (eE G mb)) : PE X (.Dict [none, none] [a, b] pos) (eF G (mStar2 ma mb)) := pe_imp (pe_star2 ha hb) fun σ H Q ⟨F, M, ρ, S, hk, sl, d, S', e, q⟩ => by
  obtain ⟨⟨d1, S1⟩, e1, e⟩ := Option.bind_eq_some_iff.mp e
  obtain ⟨ks, k1, e⟩ := Option.bind_eq_some_iff.mp e
  obtain ⟨⟨d2, S2⟩, e2, e⟩ := Option.bind_eq_some_iff.mp e
  obtain ⟨ls, k2, e⟩ := Option.bind_eq_some_iff.mp e
  split at e
  · rename_i hz
    cases e
    intro p hp
    have mp := hk.mnone hp
    have hkp := hk.laidO (w := none) (d := .dK []) hp (.dK .nil)
    refine ⟨F, _, ρ, S, hkp, sl.newO mp, d1, S1, e1, fun x H1 F1 hk1 le1 r1 => ?_⟩
    obtain ⟨nf, n0, oo, eo, ro⟩ := hk1.own p _ _ updO_same
    cases ro with
    | @dK us _ r =>
      cases r
      obtain ⟨a1, vs, rfl, ea, rv⟩ := r1.undict k1
      refine ⟨a1, vs, rfl, rd_ne ea nf, ea.imp (hk1.sub _ _) fun ⟨o, z⟩ => ⟨o, hk1.sub _ _ z⟩, eo, ?_⟩
      have hm1 : RepP G.K F1 (mergeK [] vs) (mergeG [] ks) := repP_merge rv .nil
      have hw := hk1.write (w' := none) (o := .dK (mergeK [] vs)) (d' := .dK (mergeG [] ks)) updO_same (.dK hm1)
      rw [updO_updO] at hw
      refine ⟨F1, _, ρ, S1, hw, (sl.newO mp).mono le1, d2, S2, e2, fun y H2 F2 hk2 le2 r2 => ?_⟩
      obtain ⟨nf2, n02, oo2, eo2, ro2⟩ := hk2.own p _ _ updO_same
      obtain ⟨b1, ws, rfl, eb, rw'⟩ := r2.undict k2
      cases ro2 with
      | @dK us2 _ r3 =>
        have l1 := Paired.length r3
        have l2 := Paired.length rw'
        have l3 := mergeG_len ks []
        rw [List.length_nil] at l3
        refine ⟨b1, ws, us2, rfl, rd_ne eb nf2, eb.imp (hk2.sub _ _) fun ⟨o, z⟩ => ⟨o, hk2.sub _ _ z⟩, eo2, by rw [sizeLine_eq, l1, l2]; omega, ?_⟩
        have hw2 := hk2.write (w' := none) (o := .dK (mergeK us2 ws)) (d' := .dK (mergeG (mergeG [] ks) ls)) updO_same (.dK (repP_merge rw' r3))
        rw [updO_updO] at hw2
        exact q p _ F2 hw2 mp (le1.trans le2)
  · cases e
/-! ### d == {} -/
def rEqE : R2 := fun x y H Q => ∃ a b ks, x = .ref a ∧ y = .ref b ∧ Rd H a (.dK ks) ∧ Rd H b (.dK []) ∧ Q (.bl ks.isEmpty) H
theorem op_eqE (hu : X.A.units < cLine) : OpR X (compareOp .Eq) rEqE := by
  intro pins s σ H x y v u Q I rx ry h
  obtain ⟨a, b, ks, rfl, rfl, ea, eb, q⟩ := h
  obtain rfl : v = Value.ref a := rx
  obtain rfl : u = Value.ref b := ry
  obtain ⟨_, sa, va, ra, da⟩ := dk_rd I.hok ea
  obtain ⟨_, sb, vb, rb, db⟩ := dk_rd I.hok eb
  cases rb
  refine PySem.W.keq_eq (knd := mixKind X.prog X.w) (r := true) sa sb da db hu (fun hl => ?_) (fin_bl I q ?_)
  · cases va with
    | nil => exact .nil
    | cons p r => cases hl
  · cases ra <;> rfl
def mEqE (m : ME) : ME := fun ρ S => (m ρ S).bind fun p => (dictD p.1).map fun ks => (.bl ks.isEmpty, p.2)
theorem se_eqE {m : ME} {b : Expr} (hu : X.A.units < cLine) (ha : PE X a (eE G m)) (hb : PE X b tDNewK) (hm : behindInMarks .Eq b = false) : PE X (.Compare a [.Eq] [b] pos) (eE G (mEqE m)) := pe_imp (pe_cmpR (op_eqE hu) ha hb hm) fun σ H Q ⟨F, M, ρ, S, hk, sl, d, S', e, q⟩ => by
  obtain ⟨⟨d1, S1⟩, e1, e⟩ := Option.bind_eq_some_iff.mp e
  obtain ⟨ks, k1, e⟩ := Option.map_eq_some_iff.mp e
  cases e
  refine ⟨F, M, ρ, S, hk, sl, d1, S1, e1, fun x H1 F1 hk1 le1 r1 p hp => ?_⟩
  obtain ⟨a1, vs, rfl, ea, rv⟩ := r1.undict k1
  have h2 := hk1.laid (o := .dK []) hp
  refine ⟨a1, p, vs, rfl, rfl, ?_, .inl upd_same, ?_⟩
  · exact ea.imp (fun z => h2.sub _ _ (le_upd (hk1.fnone hp) _ _ z)) fun ⟨o, z⟩ => ⟨o, h2.sub _ _ (le_upd (hk1.fnone hp) _ _ z)⟩
  · have : vs.isEmpty = ks.isEmpty := by cases rv <;> rfl
    rw [this]
    exact q _ _ _ h2 (le1.trans (le_upd (hk1.fnone hp))) (.bl _)
theorem st_eqE {m : ME} {b : Expr} (hu : X.A.units < cLine) (ha : PE X a (eE G m)) (hb : PE X b tDNewK) (hm : behindInMarks .Eq b = false) : PT X (.Compare a [.Eq] [b] pos) (eT G (mTst (mEqE m))) := pt_imp (pt_cmpR (op_eqE hu) ha hb hm) fun σ H Q ⟨F, M, ρ, S, hk, sl, d, S', e, q⟩ => by
  obtain ⟨⟨d1, S1⟩, e1, e⟩ := Option.bind_eq_some_iff.mp (mTst_some e)
  obtain ⟨ks, k1, e⟩ := Option.map_eq_some_iff.mp e
  cases e
  refine ⟨F, M, ρ, S, hk, sl, d1, S1, e1, fun x H1 F1 hk1 le1 r1 p hp => ?_⟩
  obtain ⟨a1, vs, rfl, ea, rv⟩ := r1.undict k1
  have h2 := hk1.laid (o := .dK []) hp
  refine ⟨a1, p, vs, rfl, rfl, ?_, .inl upd_same, ?_⟩
  · exact ea.imp (fun z => h2.sub _ _ (le_upd (hk1.fnone hp) _ _ z)) fun ⟨o, z⟩ => ⟨o, h2.sub _ _ (le_upd (hk1.fnone hp) _ _ z)⟩
  · have : vs.isEmpty = ks.isEmpty := by cases rv <;> rfl
    rw [this]
    exact ⟨_, rfl, q _ _ h2 (le1.trans (le_upd (hk1.fnone hp)))⟩
/-! ### d.get(k) -/
def getO (x y : D) : Option D := match x with
  | .dK ks => (keyD y).bind fun k => match (ks.find? fun kv => decide (kv.1 = k)).map (·.2) with
    | some d => some d
    | none => some .non
  | _ => none
theorem find_noP {κ : Type} [DecidableEq κ] {K : PySem.W.Frag} {F : Hp} {vs : List (κ × V)} {ds : List (κ × D)} (r : RepP K F vs ds) (k : κ) (h : (ds.find? fun kv => decide (kv.1 = k)).map (·.2) = none) : valV vs k = none := by
  induction r with
  | nil => rfl
  | @cons p q ps qs hh _ ih =>
    by_cases e : q.1 = k
    · rw [List.find?_cons_of_pos (by simpa using e)] at h; cases h
    · rw [List.find?_cons_of_neg (by simpa using e)] at h
      unfold valV
      rw [List.find?_cons_of_neg (by rw [hh.1]; simpa using e)]
      exact ih h
theorem se_dgetO {ma mb : ME} (h : PE X o (tDGet1 (eB G ma) (eB G mb))) : PE X o (eE G (mOp2 getO ma mb)) := pe_imp h fun σ H Q ⟨F, M, ρ, S, hk, sl, d, S', e, q⟩ => by
  obtain ⟨d1, S1, d2, e1, e2, e3⟩ := mOp2_some e
  unfold getO at e3
  split at e3
  · rename_i ks
    obtain ⟨k, ek, e3⟩ := Option.bind_eq_some_iff.mp e3
    refine ⟨F, M, ρ, S, hk, sl, _, S1, e1, fun x H1 F1 hk1 le1 r1 => ?_⟩
    obtain ⟨a, us, rfl, eo, r⟩ := r1.undK hk1
    refine ⟨a, rfl, .inl ⟨us, eo⟩, F1, M, ρ, S1, hk1, sl.mono le1, d2, S', e2, fun y H2 F2 hk2 le2 r2 => ?_⟩
    obtain ⟨a', us', ea', eo2, r'⟩ := (r1.mono le2).undK hk2
    cases ea'
    have rr : Rep G.K F2 y d2 := by
      unfold keyD at ek
      split at ek
      · exact r2.flat hk2 rfl
      · exact r2.flat hk2 rfl
      · cases ek
    have hkv := rep_key rr ek
    subst hkv
    split at e3
    · rename_i v hv
      cases e3
      obtain ⟨w, ew, rw'⟩ := find_repP r' k hv
      exact ⟨some w, .inl ⟨_, _, eo2, rfl, ew.symm⟩, q w H2 F2 hk2 (le1.trans le2) rw'⟩
    · rename_i hv
      cases e3
      exact ⟨none, .inl ⟨_, _, eo2, rfl, (find_noP r' k hv).symm⟩, q _ H2 F2 hk2 (le1.trans le2) .non⟩
  · cases e3
/-! ### (*x, ..) -/
def mStarC (m : ME) (n : MA) : MA := fun ρ S => (m ρ S).bind fun p => (p.1.asT).bind fun ds => (n ρ p.2).map fun q => (ds ++ q.1, q.2)
theorem sa_star {m : ME} {n : MA} (hK : G.K = X.K) (ha : PE X e (eE G m)) (hr : PA X es (eA G n)) (hs : starEach (.Starred e p2 :: es) X.env = (true, eval e X.env) :: starEach es X.env := by rfl) : PA X (.Starred e p2 :: es) (eA G (mStarC m n)) :=
  pa_imp (hK ▸ StX.pa_star ha hr hs : PA X (.Starred e p2 :: es) (StX.tStar G.K (eE G m) (eA G n))) fun σ H Q ⟨F, M, ρ, S, hk, sl, ds, S', e, q⟩ => by
  obtain ⟨⟨d1, S1⟩, e1, e⟩ := Option.bind_eq_some_iff.mp e
  obtain ⟨xs, k1, e⟩ := Option.bind_eq_some_iff.mp e
  obtain ⟨⟨ys, S2⟩, e2, e⟩ := Option.map_eq_some_iff.mp e
  cases e
  refine ⟨F, M, ρ, S, hk, sl, d1, S1, e1, fun x H1 F1 hk1 le1 r1 => ?_⟩
  obtain ⟨a, vs, rfl, hq, rl⟩ := r1.untup k1
  exact ⟨a, vs, rfl, .inl (SqT_mono hk1.sub hq), F1, M, ρ, S1, hk1, sl.mono le1, ys, S2, e2, fun us H2 F2 hk2 le2 r2 => q _ H2 F2 hk2 (le1.trans le2) (paired_app (RepL.mono le2 rl) r2)⟩
/-! ### x += e -/
def sAug (i : Nat) (m : ME) : MS := fun ρ S => match ρ[i]? with
  | some (some (.imm (.int x))) => (m ρ S).bind fun p => match p.1 with
    | .int y => some (.nx, ρ.set i (some (.imm (.int (x + y)))), p.2)
    | _ => none
  | _ => none
theorem ss_aug {i : Nat} {m : ME} (h : PS X st (tAug i (eE G m) (ipI fun i j => i + j))) : PS X st (sS G (sAug i m)) := ps_imp h fun D σ H ⟨F, M, ρ, S, hk, sl, fl, ρ', S', e, q⟩ => by
  unfold sAug at e
  split at e
  · rename_i x hi
    obtain ⟨⟨d, S1⟩, e1, e⟩ := Option.bind_eq_some_iff.mp e
    dsimp only at e
    split at e
    · rename_i y
      cases e
      obtain ⟨v, ev, r⟩ := sl.at_ _ _ hi
      have r : Rep G.K F v (.int x) := r
      cases r
      refine ⟨_, ev, F, M, ρ, S, hk, sl, _, _, e1, fun z H1 F1 hk1 le1 r1 => ?_⟩
      cases r1
      exact ⟨x, y, rfl, rfl, q H1 F1 M hk1 le1 _ ((sl.mono le1).set (l := .imm (.int (x + y))) (.int _))⟩
    · cases e
  · cases e
end
end Dv
namespace Dv
open PySem PySem.Spec PyProof.Rows L2

/-! ### a caught error that is kept: it is known from then on -/
/-- the ends of a suite that holds the error at a: behind it the error is told -/
def endsTold (cls : Value) (i : Nat) (a : Addr) (D : Ends) : Ends :=
  { nx := fun σ H => H a = none → D.nx (σ.set i none) (upd H a (ErrO cls a)), rt := fun v H => H a = none → D.rt v (upd H a (ErrO cls a)),
    bk := fun σ H => H a = none → D.bk (σ.set i none) (upd H a (ErrO cls a)), ct := fun σ H => H a = none → D.ct (σ.set i none) (upd H a (ErrO cls a)) }
/-- what 'except c as n: ..' asks of an error of the body: it is of the class, and it is told behind the suite; i: n's slot -/
def wKept (K : PySem.W.Frag) (c : Value) (i : Nat) (ts : TS) (D : Ends) : WX := fun cls d σ H => PySem.W.exmOne K cls c = some true ∧ d = none ∧ ∀ a, H a = none → ts (endsTold cls i a D) (σ.set i (some (.ref a))) H
section
variable {X : Cx} {pins : List (Addr × Obj)} {σ : L2.St} {H : Hp} {s : Shared}
/-- an object that is there, new since the entry, is told -/
theorem inv_told {a : Addr} {o : HO} (I : Inv X pins σ H s) (ha : H a = none) (new : ObjOk X.prog X.w (upd H a o) s.heap a o) (h0 : X.s_0.heap.get? a = none) (hL : a ≠ X.env.locals) (hC : ∀ x c, X.env.cells.lookup x = some c → c ≠ a) (hp : ∀ p ∈ X.pn ++ pins, p.1 ≠ a) : Inv X pins σ (upd H a o) s := by
  have n0 : ∀ b u, X.s_0.heap.get? b = some u → b ≠ a := fun b u e z => by rw [z, h0] at e; cases e
  have ne : ∀ b u, H b = some u → b ≠ a := fun b u e z => by rw [z, ha] at e; cases e
  refine ⟨I.ok, I.os, I.bare, ⟨I.base.keep, I.base.slot, fun b u e n hx => ?_, I.base.there, fun b xs e => ?_, fun b u x e => ?_, fun b ps e => ?_⟩, I.loc, I.cell, ?_, fun x c e => ?_, fun p hm => ?_, fun b u e => ?_, I.len⟩
  · rw [upd_ne (n0 b u e)]; exact I.base.free b u e n hx
  · have q := I.base.tups b xs e
    rw [upd_ne (ne b _ q)]; exact q
  · have q := I.base.frzs b u x e
    rw [upd_ne (ne b _ q)]; exact q
  · obtain ⟨m, q⟩ := I.base.tbls b ps e
    exact ⟨m, by rw [upd_ne (ne b _ q)]; exact q⟩
  · rw [upd_ne (Ne.symm hL)]; exact I.free
  · rw [upd_ne (hC x c e)]; exact I.freeC x c e
  · obtain ⟨q1, q2, q3⟩ := I.pin p hm
    exact ⟨q1, by rw [upd_ne (hp p hm)]; exact q2, q3⟩
  · by_cases hb : b = a
    · subst hb
      rw [upd_same] at e
      cases e
      exact new
    · rw [upd_ne hb] at e
      exact (I.hok b u e).stay (fun c v _ q => q) (fun c q => by rw [upd_ne (ne c _ q)]; exact q) fun c xs q => by rw [upd_ne (ne c _ q)]; exact q
end
section
variable {X : Cx} {x n : Str} {c : Value} {i : Nat} {body : List Stmt} {b₀ : Stmt} {suite : List Stmt} {np pos pos' : Pos} {tb : WX → TS} {ts : TS}
/-- try: body, except c as n: suite; behind it the error is known -/
theorem ps_try_kept (hs : X.stack = X.env :: X.outer) (hf : X.env.frame = some X.env.locals) (hN : X.N.Nodup) (hi : X.N[i]? = some n) (hln : X.env.kindOf n = some .local) (hc : Names X x c) (hex : X.ex = [])
    (hb : ∀ (W : WX) (pn : List (Addr × Obj)) (xe : Value → Shared → Prop), Takes (X.tr pn xe) W → PassesOwn (model X.prog X.w) X.A X.env xe → PSs (X.tr pn xe) body (tb W)) (hsu : ∀ (a : Addr) (pn : List (Addr × Obj)), PSs (X.suite a pn) (b₀ :: suite) ts) :
    PS X (.Try body [.ExceptHandler (some (.Name x np)) (some n) (b₀ :: suite) pos'] [] [] pos) (fun D σ H => tb (wKept X.K c i ts D) D σ H) := by
  refine ⟨fun pins s σ H D I h => ?_⟩
  have ok := I.ok
  have hfr : X.A.frames = some (X.env :: X.outer) := by rw [ok.frames, hs]
  have hloc : Loc X.env.scope n := .inl hln
  refine wpAny_Try_except (wpAny_mono ((hb (wKept X.K c i ts D) (X.pn ++ pins) (fun e s₁ => wpAny (model X.prog X.w) X.A (noteFrame e X.env) (fun _ s₂ => wpAny (model X.prog X.w) X.A (setFlight e none) (fun _ s₃ =>
    wpAny (model X.prog X.w) X.A (handleBy e X.env [.ExceptHandler (some (.Name x np)) (some n) (b₀ :: suite) pos']) (SP X pins D) X.xe s₃) X.xe s₂) X.xe s₁) (fun u s' xx => ?_) PassesOwn.looking).run [] s σ H D (I.toTry _) h) (fun f s1 hsp => ?_) (fun e s1 he => he))
  · obtain ⟨a, B, sI, pins', σ', H', cls, d, rfl, J', nb, up, sky, na, os, ag, hm, rfl, hq⟩ := xx
    have J : Inv X pins σ' H' sI := J'.ofTry ok
    show wpAny (model X.prog X.w) X.A (noteFrame (.ref a) X.env) _ _ _
    refine Sky.land Zc.steady hfr hf (show Sky B (X.env :: X.outer) a (Zc cls none) X.env.locals s'.heap by rw [← hs]; exact sky) fun h3 fl3 up3 => ?_
    have J3 : Inv X pins σ' H' { s' with heap := h3 } := J.landed nb fl3.1 (up.trans up3) os ag
    obtain ⟨oe3, vs3, he3, hz3, hd3⟩ := fl3.there
    have nfr : a ∉ frs (X.env :: X.outer) := fun hm => by
      obtain ⟨_, o', e', hnf⟩ := fl3.2.2.1.mem hm
      rw [he3] at e'; cases e'
      exact hnf _ hd3
    have nL : a ≠ X.env.locals := fun z => nfr (List.mem_filterMap.mpr ⟨X.env, List.mem_cons_self, by rw [hf, z]⟩)
    have nF : a ∉ X.fs := fun hm => by
      obtain ⟨e, he, q⟩ := List.mem_filterMap.mp hm
      exact nfr (List.mem_filterMap.mpr ⟨e, List.mem_cons_of_mem _ he, q⟩)
    -- the error's object is new
    have nI : sI.heap.get? a = none := by
      cases e : sI.heap.get? a with
      | none => rfl
      | some o => have := nb a o e (by rw [hs]; exact nfr); rw [fl3.2.1] at this; cases this
    have n0 : X.s_0.heap.get? a = none := by
      cases e : X.s_0.heap.get? a with
      | none => rfl
      | some o =>
        obtain ⟨o', z⟩ := J.base.there a o e (by rw [hex]; exact fun z => nomatch z)
        rw [nI] at z; cases z
    have nC : ∀ y c, X.env.cells.lookup y = some c → c ≠ a := fun y c e z => by
      obtain ⟨v, o, ho, _⟩ := J.cell y c e
      rw [z, nI] at ho; cases ho
    have nP : ∀ p ∈ X.pn ++ pins, p.1 ≠ a := fun p hp z => by
      have := (J.pin p hp).1
      rw [z, nI] at this; cases this
    have S3 := J3.suite he3 hd3 na nL nF
    refine wpAny_handleBy_cons (codeAny_handlers_test ?_) (by intro q; cases q)
    have LT : PySem.W.Looks (model X.prog X.w) h3 (typeOf (.ref a)) cls := fun A Q E s k q => wpAny_typeOf_ref (k _ _ he3) (by rw [hz3.1]; exact q)
    have LM := PySem.W.exm_one (M := model X.prog X.w) (J3.kIn) LT hm
    have test : ∀ {Q : Value → Shared → Prop} {E : Value → Shared → Prop}, Q c { s' with heap := h3 } → wpAny (model X.prog X.w) (X.A.mark (some (.ref a))) (eval (.Name x np) X.env) Q E { s' with heap := h3 } := fun {Q E} q => by
      obtain ⟨hg, hdbg, hm | ⟨hm, hv, hnn⟩⟩ := hc
      · exact ld_glob (X := X.suite a ((a, oe3) :: (X.pn ++ pins))) S3 hg hm q hdbg
      · exact ld_blt (X := X.suite a ((a, oe3) :: (X.pn ++ pins))) S3 hg hm hv q hnn hdbg
    refine test (LM.here (codeAny_handlers_suite_as (HandSPX.lands_againZ fl3 fun h4 fl4 up4 => ?_)))
    have J4 : Inv X pins σ' H' { s' with heap := h4 } := J.landed nb fl4.1 ((up.trans up3).trans up4) os ag
    obtain ⟨oe4, vs4, he4, hz4, hd4⟩ := fl4.there
    have S4 := J4.suite he4 hd4 na nL nF
    refine store_ok (X := X.suite a ((a, oe4) :: (X.pn ++ pins))) (v := .ref a) S4 hN hi hloc rfl (fun s5 S5 => ?_) (.inr hln)
    refine wpAny_mono ((hsu a ((a, oe4) :: (X.pn ++ pins))).run [] s5 _ H' _ S5 (hq a na)) (fun f s6 hsp => ?_) (fun _ _ z => False.elim z)
    have told : ∀ {σ6 : L2.St} {H6 : Hp} {Q : Shared → Prop}, Inv (X.suite a ((a, oe4) :: (X.pn ++ pins))) [] σ6 H6 s6 → (H6 a = none → ∀ s7, Inv X pins (σ6.set i none) (upd H6 a (ErrO cls a)) s7 → Q s7) →
        wpAny (model X.prog X.w) X.A (do bindName X.env n .none; unbindBehindTheSuite X.env n pos') (fun _ s7 => Q s7) X.xe s6 := fun {σ6 H6 Q} S6 h => by
      obtain ⟨g6, n6, _⟩ := S6.pin (a, oe4) (List.mem_append_left _ List.mem_cons_self)
      exact gone_ok (inv_told (S6.unsuite ok) n6 (errO_ok g6 hz4 hd4) n0 nL nC nP) hN hi hln (h n6)
    cases f with
    | ret u =>
      obtain ⟨v6, σ6, H6, S6, r6, q6⟩ := hsp
      exact told S6 fun n6 s7 J7 => ⟨_, _, _, J7, r6, q6 n6⟩
    | next =>
      obtain ⟨σ6, H6, S6, q6⟩ := hsp
      exact told S6 fun n6 s7 J7 => ⟨_, _, J7, q6 n6⟩
    | brk =>
      obtain ⟨σ6, H6, S6, q6⟩ := hsp
      exact told S6 fun n6 s7 J7 => ⟨_, _, J7, q6 n6⟩
    | cont =>
      obtain ⟨σ6, H6, S6, q6⟩ := hsp
      exact told S6 fun n6 s7 J7 => ⟨_, _, J7, q6 n6⟩
  · cases f with
    | next =>
      obtain ⟨σ', H', J', q⟩ := hsp
      exact wpAny_execs_nil ⟨σ', H', J'.ofTry ok, q⟩
    | brk =>
      obtain ⟨σ', H', J', q⟩ := hsp
      exact ⟨σ', H', J'.ofTry ok, q⟩
    | cont =>
      obtain ⟨σ', H', J', q⟩ := hsp
      exact ⟨σ', H', J'.ofTry ok, q⟩
    | ret u =>
      obtain ⟨v, σ', H', J', r, q⟩ := hsp
      exact ⟨v, σ', H', J'.ofTry ok, r, q⟩
end
end Dv
namespace Dv
open PySem PySem.Spec PyProof.Rows L2 LamX

theorem takes_len {X : Cx} {W : WX} (tk : Takes X W) : Takes X (fun cls d σ H => σ.length = X.N.length → W cls d σ H) := fun u s' ⟨a, B, sI, pins, σ, H, cls, d, e, I, nb, up, sky, na, os, ag, w⟩ =>
  tk u s' ⟨a, B, sI, pins, σ, H, cls, d, e, I, nb, up, sky, na, os, ag, w I.len⟩
/-- told: y = None; try: a() / except x as n: y = n; return y -/
def TKept (K : PySem.W.Frag) (c : Value) : (XK → Hp → VK → Prop) → Hp → VK → Prop := fun tl H Q =>
  tl (fun cls d H' => PySem.W.exmOne K cls c = some true ∧ d = none ∧ ∀ a, H' a = none → Q (.ref a) (upd H' a (ErrO cls a))) H (fun _ H' => Q .non H')
theorem kept_gives {X : Cx} {Ng : List Str} {x a e n y q : Str} {sg : Scope} {g CS : Addr} {cdg : Value} {i j : Nat} {p1 p2 p3 p4 p5 p6 p7 p8 p9 p10 p11 p12 p13 p14 : Pos} {k0 : Nat} (hge : sg.names.lookup e = some .globalImplicit) (hme : X.mg e = some (.ref CS)) (hde : (e == ("__debug__" : Str)) = false)
    (hN : Ng.Nodup) (h0 : Ng[0]? = some a) (hi : Ng[i]? = some n) (hj : Ng[j]? = some y) (hij : i ≠ j) (hi0 : i ≠ 0) (hj0 : j ≠ 0) (hln : sg.names.lookup n = some .local) (hly : sg.names.lookup y = some .local) (hd : (n == ("__debug__" : Str)) = false) (hcd : (n == ("__classdict__" : Str)) = false) (hd2 : (y == ("__debug__" : Str)) = false) (hcd2 : (y == ("__classdict__" : Str)) = false) :
    GivesTo X Ng x sg g cdg [.Assign [.Name y p9] (.Constant .none k0 p10) p11, .Try [.Expr (.Call (.Name a p1) [] [] p2) p3] [.ExceptHandler (some (.Name e p4)) (some n) [.Assign [.Name y p12] (.Name n p5) p6] p7] [] [] p8, .Return (some (.Name y p13)) p14] a q (TKept X.K (.ref CS)) := by
  intro f c' s H Q tl act hc h
  have hgl : Gl (cxOf C8.CX0 X.prog X.w X.K X.mg X.base Ng x sg g cdg X.A X.stack s H C8.E0).nox e := hge
  refine ⟨_, pss_cons (ps_set (i := j) hN hj (.inl hly) pe_non) (pss_cons (ps_try_kept (X := (cxOf C8.CX0 X.prog X.w X.K X.mg X.base Ng x sg g cdg X.A X.stack s H C8.E0).nox) (c := .ref CS) (i := i)
      (tb := fun W D σ H => ∃ Ech : XK, (∀ cls d σ' H', Ech cls d H' → σ'.length = Ng.length → W cls d σ' H') ∧ σ[0]? = some (some (.ref f)) ∧ H c' = some (CodeO c' q) ∧ tl Ech H (fun _ H' => D.nx σ H'))
      (ts := tAsg (tVar i) (gName j))
      rfl rfl hN hi hln ⟨hgl, hde, .inl hme⟩ rfl (fun W pn xe tk _ => ?_) (fun a pn => ?_)) (pss_one (ps_ret (pe_var hj (.inl hly) hd2 hcd2)))), ?_⟩
  · refine ⟨fun pins s' σ H' D I h' => ?_⟩
    obtain ⟨Ech, hW, h1, h2, h3⟩ := h'
    have hp := act (fun cls d σ H => σ.length = Ng.length → W cls d σ H) pn xe Ech p1 p2 (takes_len tk) (fun cls d σ' H' e => hW cls d σ' H' e)
    exact (pss_one (ps_expr (pos := p3) hp)).run pins s' σ H' D I ⟨h1, h2, h3⟩
  · exact pss_one (ps_set (i := j) hN hj (.inl hly) (pe_var hi (.inl hln) hd hcd))
  · have li : i < Ng.length := (List.getElem?_eq_some_iff.mp hi).1
    have lj : j < Ng.length := (List.getElem?_eq_some_iff.mp hj).1
    have l0 : (L2.start Ng [V.ref f]).length = Ng.length := by
      have : 0 < Ng.length := (List.getElem?_eq_some_iff.mp h0).1
      unfold L2.start
      simp; omega
    have s0 : (L2.start Ng [V.ref f])[0]? = some (some (V.ref f)) := rfl
    have sj : ((L2.start Ng [V.ref f]).set j (some V.non))[j]? = some (some V.non) := List.getElem?_set_self (by omega)
    refine ⟨fun cls d H' => PySem.W.exmOne X.K cls (.ref CS) = some true ∧ d = none ∧ ∀ a, H' a = none → Q (.ref a) (upd H' a (ErrO cls a)), fun cls d σ' H' ⟨e1, e2, e3⟩ hl => ⟨e1, e2, fun b hb => ?_⟩, ?_, hc, ?_⟩
    · exact ⟨.ref b, List.getElem?_set_self (by omega), fun _ => ⟨.ref b, by rw [List.getElem?_set_ne hij]; exact List.getElem?_set_self (by rw [List.length_set]; omega), e3 b hb⟩⟩
    · rw [List.getElem?_set_ne hj0]; exact s0
    · have eQ : (fun (_ : V) (H' : Hp) => ∃ v, ((L2.start Ng [V.ref f]).set j (some V.non))[j]? = some (some v) ∧ Q v H') = fun _ H' => Q .non H' := by
        funext _ H'
        refine propext ⟨fun ⟨v, e, q⟩ => ?_, fun q => ⟨_, sj, q⟩⟩
        rw [sj] at e; cases e; exact q
      show tl _ H (fun (_ : V) (H' : Hp) => ∃ v, ((L2.start Ng [V.ref f]).set j (some V.non))[j]? = some (some v) ∧ Q v H')
      rw [eQ]
      exact h
end Dv
namespace Dv
open PySem PySem.Spec PyProof.Rows L2 LamX

/-! ### a lambda is made, told exactly -/
/-- the maker's table at P has grown by the code object at c', or that was in it -/
def Made (H H1 : Hp) (P c' : Addr) (q : Str) : Prop := H1 c' = some (CodeO c' q) ∧ TabS H1 P q ∧ ((H1 = H ∧ ∃ (ps : Array Value) (pos : Pos), H P = some (.tbl ps) ∧ codeAmong pos ps.toList = some (.ref c')) ∨
  (H c' = none ∧ ∃ ps0 ps : Array Value, H P = some (.tbl ps0) ∧ H1 = upd (upd H P (.tbl ps)) c' (CodeO c' q) ∧ ∀ (pos : Pos) (cv : Value), codeAmong pos ps.toList = some cv → codeAmong pos ps0.toList = some cv ∨ cv = .ref c'))
section
variable {X : Cx} {pins : List (Addr × Obj)} {σ : L2.St} {H : Hp} {s : Shared}
theorem lam_told {c P : Addr} {params : Arguments} {body : Expr} {scope : Scope} {pos : Pos} {E : Value → Shared → Prop} {Q : Value → Shared → Prop} (I : Inv X pins σ H s) (TB : TabB X.base X.mg c P) (hcode : X.env.code = .ref c) (hT : TabS H P (X.env.qual ++ "<lambda>"))
    (hdef : defaultsOf params X.env = ([], [])) (hfree : ∀ y ∈ scope.names, y.2 = .free → ∃ c, X.env.cells.lookup y.1 = some c)
    (h : ∀ (f c' : Addr) (pm ctv : Value) (H1 : Hp) (s' : Shared), Inv X pins σ H1 s' → Made H H1 P c' (X.env.qual ++ "<lambda>") →
      s'.heap.get? f = some (PySem.W.kla_obj "<lambda>" (X.env.qual ++ "<lambda>") params body scope (cloFrom X.env.cells scope.names []) pm c' ctv) → H1 f = none → f ∉ frs X.stack → s.heap.objs.size ≤ f → Q (.ref f) s') :
    wpAny (model X.prog X.w) X.A (eval (.Lambda params body scope pos) X.env) Q E s := by
  obtain ⟨ps, hP, ht, ha⟩ := hT
  have hP' : s.heap.get? P = some { cls := .none, data := .fields ps } := I.hok P _ hP
  have bP := TB.bm.keeps I.bk
  have nofr : ∀ f, s.heap.objs.size ≤ f → f ∉ frs X.stack := fun f hf z => by
    have lt := I.lt
    rcases List.mem_cons.mp (I.stkSub _ z) with e | e
    · rw [← e] at lt
      exact Nat.lt_irrefl _ (Nat.lt_of_lt_of_le lt hf)
    · exact I.nofs hf e
  refine PySem.W.kla_eval hdef ?_
  cases hc : codeAmong pos ps.toList with
  | some cv =>
    obtain ⟨c', rfl, hco⟩ := ha pos cv hc
    refine PySem.W.kla_makeFunctionHit (mg := X.mg) (c := c) (P := P) (ps := ps) (closure_ok hfree) I.ok.glob (I.mod.glob.keeps I.bk) hcode (TB.code.keeps I.bk) hP' ht hc bP fun ctv h' tk hx hsz => ?_
    exact h h'.objs.size c' ((X.mg "__name__").getD .none) ctv H _ (I.kept fun b o e => Heap.get?_push_of_some _ (hx b o e)) ⟨hco, ⟨ps, hP, ht, ha⟩, .inl ⟨rfl, ps, pos, hP, hc⟩⟩ (Heap.get?_push_size _ rfl) (I.hok.fresh hsz) (nofr _ hsz) hsz
  | none =>
    refine PySem.W.kla_makeFunction (mg := X.mg) (c := c) (P := P) (ps := ps) (closure_ok hfree) I.ok.glob (I.mod.glob.keeps I.bk) hcode (TB.code.keeps I.bk) hP' ht hc TB.gP bP fun c' ctv h' tk hx hge hlt hrec htb => ?_
    obtain ⟨_, oc, vs, t, e2, hoc, hd, hv⟩ := hrec
    cases e2
    have nC : H c' = none := I.hok.fresh hge
    have nPc : P ≠ c' := ne_of_none hP nC
    have hsz : s.heap.objs.size ≤ h'.objs.size := by omega
    have old : ∀ b o, H b = some o → b ≠ P → upd (upd H P (.tbl (ps ++ #[rawInt pos.line, rawInt pos.col, .ref c']))) c' (CodeO c' (X.env.qual ++ "<lambda>")) b = some o := fun b o e n => by rw [upd_ne (ne_of_none e nC), upd_ne n]; exact e
    refine h h'.objs.size c' ((X.mg "__name__").getD .none) ctv _ _ (inv_table (t' := tk) (more := #[rawInt pos.line, rawInt pos.col, .ref c']) (h' := h'.push (PySem.W.kla_obj "<lambda>" (X.env.qual ++ "<lambda>") params body scope (cloFrom X.env.cells scope.names []) ((X.mg "__name__").getD .none) c' ctv)) I hP
      (fun b o hb e => Heap.get?_push_of_some _ (hx b o hb e)) (Heap.get?_push_of_some _ htb) hge ⟨oc, vs, t, Heap.get?_push_of_some _ hoc, hd, hv⟩) ⟨upd_same, ⟨_, by rw [upd_ne nPc, upd_same], ?_, fun p' cv hcv => ?_⟩, .inr ⟨nC, ps, _, hP, rfl, fun p' cv hcv => by
      rw [show (ps ++ #[rawInt pos.line, rawInt pos.col, .ref c']).toList = ps.toList ++ [rawInt pos.line, rawInt pos.col, .ref c'] by simp] at hcv
      exact among_app _ ht hcv⟩⟩ (Heap.get?_push_size _ rfl) ?_ (nofr _ hsz) hsz
    · rw [show (ps ++ #[rawInt pos.line, rawInt pos.col, .ref c']).toList = ps.toList ++ [rawInt pos.line, rawInt pos.col, .ref c'] by simp]
      exact PySem.TriplesOk_snoc _ _ _ _ ht
    · rw [show (ps ++ #[rawInt pos.line, rawInt pos.col, .ref c']).toList = ps.toList ++ [rawInt pos.line, rawInt pos.col, .ref c'] by simp] at hcv
      rcases among_app _ ht hcv with z | z
      · obtain ⟨c0, e1, e2⟩ := ha p' cv z
        exact ⟨c0, e1, old _ _ e2 (fun z => by rw [z, hP] at e2; exact codeO_ne ps (Option.some.inj e2).symm)⟩
      · exact ⟨c', z, upd_same⟩
    · rw [upd_ne (Nat.ne_of_gt hlt), upd_ne (Nat.ne_of_gt (Nat.lt_of_lt_of_le (Heap.lt_size hP') hsz))]
      exact I.hok.fresh hsz
end
def tLam1 (P : Addr) (q : Str) (TT : (XK → Hp → VK → Prop) → Hp → VK → Prop) (t : XK → TE) : TE := fun σ H Q => TabS H P q ∧ ∀ H1 c', Made H H1 P c' q → TT (fun E H' Q' => t E σ H' Q') H1 Q
section
variable {X : Cx}
/-- x(lambda: body), x a def that calls it -/
theorem pe_lam1 {TT : (XK → Hp → VK → Prop) → Hp → VK → Prop} {x a : Str} {g c P : Addr} {k : Nat} {pg : Arguments} {bg : List Stmt} {sg : Scope} {dV kV doc pm cdv ct oc : Value} {an od : Option Addr} {osl : Array (Option Value)} {Ng : List Str}
    {params : Arguments} {body : Expr} {scope : Scope} {t : XK → TE} {p lpos pos : Pos} (hg : Gl X x) (hm : X.mg x = some (.ref g)) (hk : PySem.W.keepIn X.K (.ref g) = true)
    (lk : X.K.lookup g = some ⟨oc, od, .func (PySem.W.fnOf x x pg bg sg dV kV doc pm an cdv ct), osl⟩) (hcg : PySem.W.codeIn X.K cdv x = true) (hb : L2.Binds X.K (PySem.W.fnOf x x pg bg sg dV kV doc pm an cdv ct) [a] []) (Sg : FnScope Ng [a] sg) (hNg : Ng[0]? = some a) (hva : Vis sg a)
    (hG : GivesTo X Ng x sg g cdv bg a (X.env.qual ++ "<lambda>") TT)
    (TB : TabB X.base X.mg c P) (hcode : X.env.code = .ref c) (hr : Room (k + 2) X.A) (L : LamS X.env.scope scope) (hdef : defaultsOf params X.env = ([], []))
    (hbind : ∀ (q : Str) (cl : List (Str × Addr)) (pm cv ctv : Value), bindArgs (PySem.W.kla_fn "<lambda>" q params body scope cl pm cv ctv) ⟨[], []⟩ = pure [])
    (hbody : ∀ (A : Around) (outer : List Env) (s : Shared) (H : Hp) (E : XK) (f c' : Addr), Room k (A.deeper (lamEnv X scope s.heap.objs.size f c')) → PE (lamCx X A outer s H E scope f c') body (t E))
    (hdb : (x == ("__debug__" : Str)) = false := by decide) (hd : (a == ("__debug__" : Str)) = false := by decide) (hcd : (a == ("__classdict__" : Str)) = false := by decide) :
    PE X (.Call (.Name x p) [.Lambda params body scope lpos] [] pos) (tLam1 P (X.env.qual ++ "<lambda>") TT t) := by
  refine ⟨fun pins s σ H Q I ⟨hT, h⟩ => wpAny_Call_Name_kw (ld_glob I hg hm (PySem.W.callWith_K (h₀ := X.base) I.ok.mod.kin hk ?_ (by rfl) (by rfl)) hdb)⟩
  show wpAny _ _ (spliced ((false, eval (.Lambda params body scope lpos) X.env) :: backTo pos (starEach [] X.env))) _ _ s
  refine Calls.spliced_cons (lam_told I TB hcode hT hdef (L.has I.ok) fun f c' pm' ctv H1 s' I1 md hf hfn hfr _ => Calls.spliced_nil ⟨I1.kIn, ?_⟩)
  refine wpAny_call (codeAny_mono (run_ofS (CX := C8.CX0) (E := C8.E0) (Q := Q) (N := Ng) (ps := [a]) (us := [.ref f]) (vs := [.ref f]) lk hcg Sg hr I1.env0 (hb s' [.ref f] I1.kIn rfl) (.cons rfl .nil) rfl fun hr' => ?_) fun r s2 hq => ?_)
  · obtain ⟨t', ht', hq'⟩ := hG f c' s' H1 Q (fun E H' Q' => t E σ H' Q') (fun W pn xe E p1 p2 tk hW => pe_act (i := 0) I1 L hf hfn hfr (hbind _ _ _ _ _) tk hW hr' (fun A outer s H hr2 => hbody A outer s H E f c' hr2) hNg hva hd hcd) md.1 (h H1 c' md)
    exact ⟨t', ht'.nox, hq'⟩
  · cases r with
    | error e => exact (show False from hq).elim
    | ok fl =>
      cases fl with
      | ret u => exact I1.after hq
      | next => exact False.elim hq
      | brk => exact False.elim hq
      | cont => exact False.elim hq
end
end Dv
namespace Dv
open PySem PySem.Spec PyProof.Rows L2 LamX

/-! ### statements that raise: what they raise, as data -/
/-- the class of the error that comes -/
abbrev XM := Lo → Sg → Option (Addr × Sg)
def xS (G : Gh) (W : WX) (m : XM) : TS := fun _ σ H => ∃ F M ρ S, HeapOk G H F M S ∧ Slots G.K σ ρ F M ∧ ∃ C S', m ρ S = some (C, S') ∧
  ∀ σ' H' F' M', HeapOk G H' F' M' S' → Le F F' → W (.ref C) none σ' H'
def xE (G : Gh) (W : WX) (m : XM) : TE := fun σ H _ => ∃ F M ρ S, HeapOk G H F M S ∧ Slots G.K σ ρ F M ∧ ∃ C S', m ρ S = some (C, S') ∧
  ∀ H' F', HeapOk G H' F' M S' → Le F F' → W (.ref C) none σ H'
/-- the promise of a def that raises -/
def spX (K : PySem.W.Frag) (f : List D → Option Addr) : Sp := fun vs H _ E => ∃ F ds C, Le F H ∧ RepL K F vs ds ∧ f ds = some C ∧
  ∀ H' F', Same H H' → (∀ a, H' a = none → H a = none) → Le F F' → Le F' H' → (∀ a o, F' a = some o → NewOk F H a o) → E (.ref C) none H'
def runX (k n : Nat) (m : XM) (ds : List D) : Option Addr := if ds.length = k then (m (startL n ds) none).map (·.1) else none
def xNo : XM := fun _ _ => none
def xCl (C : Addr) : XM := fun _ S => some (C, S)
def xSq (m : MS) (n : XM) : XM := fun ρ S => (m ρ S).bind fun p => match p.1 with
  | .nx => n p.2.1 p.2.2
  | _ => none
def xIf (t : MT) (m n : XM) : XM := fun ρ S => (t ρ S).bind fun p => if p.1 then m ρ p.2 else n ρ p.2
def xCall (f : List D → Option Addr) (m : MA) : XM := fun ρ S => (m ρ S).bind fun p => (f p.1).map fun C => (C, p.2)
section
variable {G : Gh} {X : Cx} {W : WX} {e a b c o : Expr} {es : List Expr} {pos p2 : Pos} {st : Stmt} {sts A B : List Stmt} {m n : XM}
theorem pss_no : PSs X sts (fun _ _ _ => False) := ⟨fun _ _ _ _ _ _ h => h.elim⟩
theorem xs_no : PSs X sts (xS G W xNo) := pss_imp pss_no fun D σ H ⟨F, M, ρ, S, hk, sl, C, S', e, q⟩ => by cases e
/-- the first statement raises -/
theorem xs_head (h : PS X st (xS G W m)) : PSs X (st :: sts) (xS G W m) := pss_imp (pss_cons h pss_no) fun D σ H q => q
/-- the first statement runs through -/
theorem xs_cons {k : MS} (h : PS X st (sS G k)) (h' : PSs X sts (xS G W m)) : PSs X (st :: sts) (xS G W (xSq k m)) := pss_imp (pss_cons h h') fun D σ H ⟨F, M, ρ, S, hk, sl, C, S', e, q⟩ => by
  obtain ⟨⟨f1, ρ1, S1⟩, e1, e⟩ := Option.bind_eq_some_iff.mp e
  refine ⟨F, M, ρ, S, hk, sl, f1, ρ1, S1, e1, fun H1 F1 M1 hk1 le1 => ?_⟩
  cases f1 with
  | nx => exact fun σ1 sl1 => ⟨F1, M1, ρ1, S1, hk1, sl1, C, S', e, fun σ2 H2 F2 M2 hk2 le2 => q σ2 H2 F2 M2 hk2 (le1.trans le2)⟩
  | ct => cases e
  | bk => cases e
  | rt d => cases e
theorem xs_raise {C : Addr} (hc : X.calm = true) (tk : Takes X W) (h : PMk X e (fun _ H Q => Q (.ref C) none H)) : PS X (.Raise (some e) none pos) (xS G W (xCl C)) := ps_imp (ps_raise hc tk h) fun D σ H ⟨F, M, ρ, S, hk, sl, C, S', e, q⟩ => by
  cases e
  exact q σ H F M hk (Same.refl F)
theorem xs_if {t : MT} (hc : PT X c (eT G t)) (ha : PSs X A (xS G W m)) (hb : PSs X B (xS G W n)) : PS X (.If c A B pos) (xS G W (xIf t m n)) := ps_imp (ps_if hc ha hb) fun D σ H ⟨F, M, ρ, S, hk, sl, C, S', e, q⟩ => by
  obtain ⟨⟨v, S1⟩, e1, e⟩ := Option.bind_eq_some_iff.mp e
  refine ⟨F, M, ρ, S, hk, sl, v, S1, e1, fun H1 F1 hk1 le1 => ?_⟩
  cases v with
  | true => exact ⟨F1, M, ρ, S1, hk1, sl.mono le1, C, S', e, fun σ2 H2 F2 M2 hk2 le2 => q σ2 H2 F2 M2 hk2 (le1.trans le2)⟩
  | false => exact ⟨F1, M, ρ, S1, hk1, sl.mono le1, C, S', e, fun σ2 H2 F2 M2 hk2 le2 => q σ2 H2 F2 M2 hk2 (le1.trans le2)⟩
/-- a def that raises may be called by its name -/
structure CalX (P : Program) (w : World) (K : PySem.W.Frag) (mg : Str → Option Value) (base : Heap) (k : Nat) (x : Str) (sp : Sp) : Prop where
  ex : ∃ (f : Addr) (fd : FuncData) (ps : List Str), FnOk P w K mg base (L2.CX P w) k f fd ps sp ∧ mg x = some (.ref f) ∧ PySem.W.keepIn K (.ref f) = true ∧ Binds K fd ps []
theorem xe_call {f : List D → Option Addr} {x : Str} {k j : Nat} {p : Pos} {ma : MA} (cal : CalX X.prog X.w X.K X.mg X.base k x (spX G.K f)) (hr : Room j X.A) (hk : k ≤ j) (tk : Takes X W) (hg : Gl X x) (ha : PA X (e :: es) (eA G ma))
    (hdb : (x == ("__debug__" : Str)) = false := by decide) (he : starEach (e :: es) X.env = (false, eval e X.env) :: starEach es X.env := by rfl) (hpl : (backTo pos (starEach es X.env)).any (·.1) = false := by rfl) :
    PE X (.Call (.Name x p) (e :: es) [] pos) (xE G W (xCall f ma)) := by
  obtain ⟨fa, fd, ps, F, hm, kp, b⟩ := cal.ex
  refine pe_imp (pe_callS (E := WE W) F (hr.mono hk) hg hm kp b (passAt tk) ha hdb he hpl) fun σ H Q ⟨F, M, ρ, S, hk, sl, C, S', e, q⟩ => ?_
  obtain ⟨⟨ds, S1⟩, e1, e2⟩ := Option.bind_eq_some_iff.mp e
  obtain ⟨C1, e3, e4⟩ := Option.map_eq_some_iff.mp e2
  cases e4
  exact ⟨F, M, ρ, S, hk, sl, ds, S1, e1, fun vs H1 F1 hk1 le1 rl => ⟨F1, ds, _, hk1.sub, rl, e3, fun H' F' sm tr le sub nw => q H' F' (heap_called hk1 sm tr le sub nw) (le1.trans le)⟩⟩
theorem xs_expr (h : PE X e (xE G W m)) (hs : swapsWith e none pos.line X.env = pure false := by rfl) : PS X (.Expr e pos) (xS G W m) := ps_imp (ps_expr h hs) fun D σ H ⟨F, M, ρ, S, hk, sl, C, S', e, q⟩ => ⟨F, M, ρ, S, hk, sl, C, S', e, fun H' F' hk' le => q σ H' F' M hk' le⟩
theorem xs_ret (h : PE X e (xE G W m)) : PS X (.Return (some e) pos) (xS G W m) := ps_imp (ps_ret h) fun D σ H ⟨F, M, ρ, S, hk, sl, C, S', e, q⟩ => ⟨F, M, ρ, S, hk, sl, C, S', e, fun H' F' hk' le => q σ H' F' M hk' le⟩
end
section
variable {P : Program} {w : World} {K : PySem.W.Frag} {mg : Str → Option Value} {base : Heap}
theorem fn_raise {x qual : Str} {st : Stmt} {f : Addr} {fd : FuncData} {N ps : List Str} {k : Nat} {m : XM} (F : Fun K x qual st f fd) (Sc : FnScope N ps (defScope st))
    (hb : ∀ (H0 F0 : Hp) (R : Addr → Prop) (cdv : Value) (A : Around) (outer : List Env) (s : Shared) (H : Hp) (E : XK) (W : WX), Room k (A.deeper (envOfC qual (defScope st) s.heap.objs.size f cdv)) → Takes (cxOf (L2.CX P w) P w K mg base N qual (defScope st) f cdv A outer s H E) W →
      PSs (cxOf (L2.CX P w) P w K mg base N qual (defScope st) f cdv A outer s H E) (defBody st) (xS ⟨K, H0, F0, R, []⟩ W m)) :
    FnOk P w K mg base (L2.CX P w) (k + 1) f fd ps (spX K (runX ps.length N.length m)) := by
  refine F.okX Sc (fun vs H Q E h => ?_) fun cdv A outer s H vs Q E hr h => ?_
  · obtain ⟨F, ds, C, _, rl, e, _⟩ := h
    rw [Paired.length rl]
    unfold runX at e
    split at e
    · assumption
    · cases e
  · obtain ⟨F, ds, C, le, rl, e, q⟩ := h
    refine ⟨_, hb H F (fun _ => False) cdv A outer s H E (fun cls d _ H => E cls d H) hr (takes_of rfl rfl rfl rfl), ?_⟩
    unfold runX at e
    split at e
    · obtain ⟨⟨C', S'⟩, e1, e2⟩ := Option.map_eq_some_iff.mp e
      cases e2
      exact ⟨F, fun _ => none, _, none, ⟨le, (fun _ _ _ h => nomatch h), fun _ _ h _ => h, fun _ h => h, fun _ _ h => h, fun _ _ h => .inl h, (fun _ h => nomatch h), fun _ h => nomatch h⟩, startL_slots rl, _, S', e1, fun σ' H' F' M' hk' le' => q H' F' (fun a o h => hk'.ent a o h (fun z => z)) hk'.trk le' hk'.sub hk'.new⟩
    · cases e
end
end Dv
namespace Dv
open PySem PySem.Spec PyProof.Rows L2 LamX

/-! ### an action that is caught, as data -/
theorem heap_made {G : Gh} {H H1 F : Hp} {M : OMap} {S : Sg} {P c' : Addr} {q : Str} (hk : HeapOk G H F M S) (hp : (P, q) ∈ G.T) (hu : ∀ p ∈ G.T, p.1 = P → p.2 = q) (md : Made H H1 P c' q) : ∃ F1, HeapOk G H1 F1 M S ∧ Le F F1 ∧ F1 c' = some (CodeO c' q) := by
  obtain ⟨hc, ht, md⟩ := md
  rcases md with ⟨rfl, ps, pos, hP, hcA⟩ | ⟨nC, ps0, ps, hP0, rfl, hgr⟩
  · obtain ⟨_, _, _, _, tf⟩ := hk.tab _ hp
    obtain ⟨c, e1, e2⟩ := tf ps hP pos _ hcA
    cases e1
    exact ⟨F, hk, Same.refl F, e2⟩
  obtain ⟨⟨qs, hP, _, _⟩, fP, mP, rP, tfP⟩ := hk.tab _ hp
  have hP : H P = some (.tbl qs) := hP
  have nPc : P ≠ c' := ne_of_none hP nC
  have nf := hk.fnone nC
  have leF : Le F (upd F c' (CodeO c' q)) := le_upd nf
  have old : ∀ a o, H a = some o → a ≠ P → upd (upd H P (.tbl ps)) c' (CodeO c' q) a = some o := fun a o e n => by rw [upd_ne (ne_of_none e nC), upd_ne n]; exact e
  refine ⟨upd F c' (CodeO c' q), ⟨fun a o e => ?_, fun a w d m => ?_, fun a o e r => ?_, fun a n => ?_, fun a o e => leF _ _ (hk.f0 _ _ e), fun a o e => ?_, fun r e => ?_, fun p hm => ?_⟩, leF, upd_same⟩
  · by_cases h1 : a = c'
    · rw [h1, upd_same] at e; cases e; rw [h1, upd_same]
    · rw [upd_ne h1] at e
      exact old a o (hk.sub _ _ e) (fun z => by rw [z] at e; rw [show F P = none from fP] at e; cases e)
  · obtain ⟨f1, f2, o, e, ro⟩ := hk.own _ _ _ m
    have n1 : a ≠ c' := ne_of_none e nC
    exact ⟨by rw [upd_ne n1]; exact f1, f2, o, old a o e (fun z => by rw [z] at m; rw [show M P = none from mP] at m; cases m), ro.mono leF⟩
  · exact old a o (hk.ent _ _ e r) (fun z => r (by rw [z]; exact rP))
  · by_cases h1 : a = c'
    · rw [h1, upd_same] at n; cases n
    · by_cases h2 : a = P
      · rw [h2, upd_ne nPc, upd_same] at n; cases n
      · rw [upd_ne h1, upd_ne h2] at n; exact hk.trk _ n
  · by_cases h1 : a = c'
    · rw [h1]; exact .inr (.inl (hk.trk _ nC))
    · rw [upd_ne h1] at e; exact hk.new _ _ e
  · obtain ⟨x, m1, m2, o1, o2⟩ := hk.rng r e
    exact ⟨⟨old _ _ x.hat (ne_of x.hat hP (fun z => nomatch z)), old _ _ x.hg (ne_of x.hg hP (fun z => nomatch z)), leF _ _ x.hc, x.hz, by rw [upd_ne (ne_of_none x.hat nC)]; exact x.fa, by rw [upd_ne (ne_of_none x.hg nC)]; exact x.fg⟩, m1, m2, o1, o2⟩
  · obtain ⟨⟨qs', h1, h2, h3⟩, t1, t2, t3, t4⟩ := hk.tab p hm
    have n1 : p.1 ≠ c' := ne_of_none h1 nC
    refine ⟨?_, by rw [upd_ne n1]; exact t1, t2, t3, ?_⟩
    · by_cases hpP : p.1 = P
      · rw [hu p hm hpP, hpP]; exact ht
      · refine ⟨qs', old _ _ h1 hpP, h2, fun pos cv hcv => ?_⟩
        obtain ⟨c0, e1, e2⟩ := h3 pos cv hcv
        exact ⟨c0, e1, old _ _ e2 (ne_of e2 hP (fun z => by unfold CodeO at z; cases z))⟩
    · by_cases hpP : p.1 = P
      · rw [hu p hm hpP, hpP]
        intro ps2 e2 pos cv hcv
        rw [upd_ne nPc, upd_same] at e2
        cases e2
        rcases hgr pos cv hcv with z | z
        · obtain ⟨c0, e1, e3⟩ := tfP _ hP0 pos cv z
          exact ⟨c0, e1, leF _ _ e3⟩
        · exact ⟨c', z, upd_same⟩
      · exact t4.to (by rw [upd_ne n1, upd_ne hpP]) fun c o e _ => leF _ _ e
open Classical in
/-- the error that comes is told, or the action comes out -/
noncomputable def mCau (K : PySem.W.Frag) (CS : Addr) (m : ME) (mx : XM) : ME := fun ρ S => match mx ρ S with
  | some p => if PySem.W.exmOne K (.ref p.1) (.ref CS) = some true ∧ ExcC K p.1 then some (.err p.1, p.2) else none
  | none => (m ρ S).map fun p => (.non, p.2)
theorem mCau_of {K : PySem.W.Frag} {CS C : Addr} {m : ME} {mx : XM} {ρ : Lo} {S S' : Sg} (h : mx ρ S = some (C, S')) (h1 : PySem.W.exmOne K (.ref C) (.ref CS) = some true) (h2 : ExcC K C) : mCau K CS m mx ρ S = some (.err C, S') := by
  unfold mCau
  rw [h]
  exact if_pos ⟨h1, h2⟩
/-- the action's reading, in the lambda: E takes its error -/
def tAct (G : Gh) (m : ME) (mx : XM) (E : XK) : TE := fun σ H Q => eE G m σ H Q ∨ xE G (fun cls d _ H => E cls d H) mx σ H Q
theorem pe_alt {X : Cx} {e : Expr} {t t' : TE} (h : PE X e t) (h' : PE X e t') : PE X e (fun σ H Q => t σ H Q ∨ t' σ H Q) := ⟨fun pins s σ H Q I q => q.elim (h.run pins s σ H Q I) (h'.run pins s σ H Q I)⟩
theorem se_cau {G : Gh} {X : Cx} {o : Expr} {CS P : Addr} {q : Str} {m : ME} {mx : XM} (hp : (P, q) ∈ G.T) (hu : ∀ p ∈ G.T, p.1 = P → p.2 = q) (h : PE X o (tLam1 P q (TKept G.K (.ref CS)) (tAct G m mx))) : PE X o (eE G (mCau G.K CS m mx)) :=
  pe_imp h fun σ H Q ⟨F, M, ρ, S, hk, sl, d, S', e, k⟩ => by
    refine ⟨(hk.tab _ hp).1, fun H1 c' md => ?_⟩
    obtain ⟨F1, hk1, le1, _⟩ := heap_made hk hp hu md
    unfold mCau at e
    cases e2 : mx ρ S with
    | none =>
      rw [e2] at e
      obtain ⟨p, e1, e3⟩ := Option.map_eq_some_iff.mp e
      cases e3
      exact .inl ⟨F1, M, ρ, S, hk1, sl.mono le1, p.1, p.2, e1, fun v H' F' hk' le r => k .non H' F' hk' (le1.trans le) .non⟩
    | some p =>
      obtain ⟨C, S1⟩ := p
      rw [e2] at e
      dsimp only at e
      split at e
      · rename_i hx
        cases e
        exact .inr ⟨F1, M, ρ, S, hk1, sl.mono le1, C, _, e2, fun H' F' hk' le => ⟨hx.1, rfl, fun a ha => k (.ref a) _ _ (hk'.laid ha) (le1.trans (le.trans (le_upd (hk'.fnone ha)))) (.err upd_same hx.2)⟩⟩
      · cases e
/-! ### isinstance(x, C), C a class of the program -/
/-- isinstance of an error that is told -/
def rErr (K : PySem.W.Frag) : List V → Hp → VK → Prop := fun xs H Q => ∃ (a C CT : Addr) (b : Bool), xs = [.ref a, .ref CT] ∧ H a = some (ErrO (.ref C) a) ∧ ExcC K C ∧ PySem.W.kitOne K (.ref C) (.ref CT) = some b ∧ Q (.bl b) H
theorem call_isErr {X : Cx} : CallR X (.builtin "isinstance") (rErr X.K) := by
  intro pins s σ H xs us Q I r h
  obtain ⟨a, C, CT, b, rfl, ha, E, e, q⟩ := h
  obtain ⟨u1, u2, rfl, r1, r2⟩ := vals2 r
  cases (show u1 = Value.ref a from r1)
  cases (show u2 = Value.ref CT from r2)
  obtain ⟨⟨oe, vs, ho, hz, hd⟩, _, _⟩ := I.hok a _ ha
  have J : PySem.W.InstAt s.heap a oe C none := by
    obtain ⟨oc, od, oda, osl⟩ := oe
    obtain ⟨h1, h2⟩ := hz
    dsimp only at h1 h2 hd
    subst h1 h2 hd
    exact ⟨ho, rfl, rfl, trivial⟩
  exact PySem.W.kia_one (PySem.W.handS_kitx_exc E.hg E.hk E.hs E.hd E.ha E.hn E.ht E.hm) I.kIn J e (fun z => nomatch z) fun tk => ⟨.bl b, H, I.tok tk, rfl, q⟩
theorem call_isiE {X : Cx} : CallR X (.builtin "isinstance") (fun xs H Q => rIsi X.K xs H Q ∨ rErr X.K xs H Q) := CallR.or call_isi call_isErr
def isCD (K : PySem.W.Frag) (CT : Addr) (d : D) : Option D := match d with
  | .err C => (PySem.W.kitOne K (.ref C) (.ref CT)).map .bl
  | d => (tyD d).bind fun t => (PySem.W.kitOne K (.type t) (.ref CT)).map .bl
theorem se_isC {G : Gh} {X : Cx} {o : Expr} {CT : Addr} {m : ME} (h : PE X o (tCB (fun xs H Q => rIsi G.K xs H Q ∨ rErr G.K xs H Q) (tCons (eB G m) (tCons (tC (.ref CT)) tNil)))) : PE X o (eE G (mOp1 (isCD G.K CT) m)) :=
  pe_imp h fun σ H Q ⟨F, M, ρ, S, hk, sl, d, S', e, q⟩ => by
    obtain ⟨d1, e1, e2⟩ := mOp1_some e
    refine ⟨F, M, ρ, S, hk, sl, d1, S', e1, fun v H' F' hk' le r => ?_⟩
    unfold isCD at e2
    split at e2
    · rename_i C
      obtain ⟨b, e3, rfl⟩ := Option.map_eq_some_iff.mp e2
      rcases r with r | ⟨a, w, rfl, m⟩
      · cases r with
        | err hf hx => exact .inr ⟨_, C, CT, b, rfl, hk'.sub _ _ hf, hx, e3, q _ H' F' hk' le (.bl _)⟩
      · obtain ⟨_, _, o, eo, ro⟩ := hk'.own _ _ _ m
        cases ro
    · obtain ⟨ty, e3, e4⟩ := Option.bind_eq_some_iff.mp e2
      obtain ⟨k, e5, e6⟩ := Option.map_eq_some_iff.mp e4
      cases e6
      exact .inl ⟨v, .ref CT, .type ty, .ref CT, k, rfl, .own CT, rep_tyx hk' r e3, e5, q _ H' F' hk' le (.bl _)⟩
end Dv
namespace Dv
open PySem PySem.Spec PyProof.Rows L2 LamX

/-! ### the law's def, with tables of its own -/
/-- all but the tables -/
def offT (T : List (Addr × Str)) (H : Hp) : Hp := fun b => if b ∈ T.map (·.1) then none else H b
theorem offT_le {T : List (Addr × Str)} {H : Hp} : ∀ b o, offT T H b = some o → H b = some o := fun b o e => by
  unfold offT at e
  split at e
  · cases e
  · exact e
theorem offT_at {T : List (Addr × Str)} {H : Hp} {b : Addr} {o : HO} (hT : ∀ p ∈ T, TabS H p.1 p.2) (e : H b = some o) (n : ∀ ps, o ≠ .tbl ps) : b ∉ T.map (·.1) := fun hm => by
  obtain ⟨p, hp, rfl⟩ := List.mem_map.mp hm
  obtain ⟨ps, h1, _⟩ := hT p hp
  rw [e] at h1
  exact n ps (Option.some.inj h1)
theorem offT_of {T : List (Addr × Str)} {H : Hp} {b : Addr} (h : b ∉ T.map (·.1)) : offT T H b = H b := if_neg h
/-- a def of the text whose code object stands at c -/
structure FunC (K : PySem.W.Frag) (x qual : Str) (st : Stmt) (f : Addr) (fd : FuncData) (c : Addr) : Prop where
  ex : ∃ (oc : Value) (od : Option Addr) (kV doc pm : Value) (an : Option Addr) (ct : Value) (osl : Array (Option Value)),
    fd = PySem.W.fnOf x qual (defArgs st) (defBody st) (defScope st) .none kV doc pm an (.ref c) ct ∧ K.lookup f = some ⟨oc, od, .func fd, osl⟩ ∧ PySem.W.codeIn K (.ref c) qual = true
theorem FunC.ok {P : Program} {w : World} {K : PySem.W.Frag} {mg : Str → Option Value} {base : Heap} {x qual : Str} {st : Stmt} {f c : Addr} {fd : FuncData} {N ps : List Str} {k : Nat} {sp : Sp} (F : FunC K x qual st f fd c) (S : FnScope N ps (defScope st)) (len : ∀ vs H Q E, sp vs H Q E → vs.length = ps.length)
    (hbody : ∀ (A : Around) (outer : List Env) (s : Shared) (H : Hp) (vs : List V) (Q : VK) (E : XK), Room k (A.deeper (envOfC qual (defScope st) s.heap.objs.size f (.ref c))) → sp vs H Q E →
      ∃ t, PSs (cxOf CX0 P w K mg base N qual (defScope st) f (.ref c) A outer s H E).nox (defBody st) t ∧ t { nx := fun _ H' => Q .non H', rt := Q } (start N vs) H) : FnOk P w K mg base CX0 (k + 1) f fd ps sp := by
  obtain ⟨oc, od, kV, doc, pm, an, ct, osl, rfl, lk, hcd⟩ := F.ex
  refine fn_of lk hcd S len fun A outer s H vs Q E hr hsp => ?_
  obtain ⟨t, h, q⟩ := hbody A outer s H vs Q E hr hsp
  exact ⟨t, h.nox, q⟩
def spLawT (K : PySem.W.Frag) (n i : Nat) (T : List (Addr × Str)) (m : MS) : Sp := fun vs H Q E => ∃ (a : Addr) (ns : List Int), vs = [.ref a] ∧ SqL K H a (ns.map V.int) ∧ ns.length ≤ 1000 ∧ (∀ p ∈ T, TabS H p.1 p.2) ∧
  (∀ r : Rng, r.great = bigOf ns → r.cells = absOf ns → r.rest = 0 → r.turn = 0 → ∃ ρ' S', m ((startL n [.scr ns]).set i (some (.imm (.rng r.at_)))) (some r) = some (.rt (.bl true), ρ', S')) ∧ ∀ H', Q (.bl true) H'
section
variable {P : Program} {w : World} {K : PySem.W.Frag} {mg : Str → Option Value} {base : Heap}
theorem law_okT {x qual : Str} {st : Stmt} {f c : Addr} {fd : FuncData} {N : List Str} {k i : Nat} {m : MS} {T : List (Addr × Str)} (F : FunC K x qual st f fd c) (Sc : FnScope N ["script"] (defScope st)) (hi : i < N.length) (hi0 : 0 < i)
    (h1 : ∀ (H0 F0 : Hp) (R : Addr → Prop) (A : Around) (outer : List Env) (s : Shared) (H : Hp) (E : XK), Room k (A.deeper (envOfC qual (defScope st) s.heap.objs.size f (.ref c))) → PSs (cxOf CX0 P w K mg base N qual (defScope st) f (.ref c) A outer s H E).nox (defBody st)
      (tSeq (tAsg (tCall (spBegun K) [] E0 (tCons (tVar 0) tNil)) (gName i)) (sS ⟨K, H0, F0, R, T⟩ m))) :
    FnOk P w K mg base CX0 (k + 1) f fd ["script"] (spLawT K N.length i T m) := by
  refine F.ok Sc (fun vs H Q E h => ?_) fun A outer s H vs Q E hr h => ?_
  · obtain ⟨a, ns, rfl, _⟩ := h; rfl
  · obtain ⟨a, ns, rfl, hq, hz, hT, hm, q⟩ := h
    refine ⟨_, h1 H (offT T H) (fun b => b ∈ T.map (·.1)) A outer s H E hr, ?_⟩
    have hqF : SqL K (offT T H) a (ns.map V.int) := by
      rcases hq with (h | ⟨o, h⟩) | h
      · exact .inl (.inl (by rw [offT_of (offT_at hT h fun _ z => nomatch z)]; exact h))
      · exact .inl (.inr ⟨o, by rw [offT_of (offT_at hT h fun _ z => nomatch z)]; exact h⟩)
      · exact .inr h
    have sl : Slots K (L2.start N [V.ref a]) (startL N.length [.scr ns]) (offT T H) (fun _ => none) := startL_slots (N := N) (ds := [.scr ns]) (.cons (.scr hqF) .nil)
    have ev0 : (L2.start N [V.ref a])[0]? = some (some (V.ref a)) := rfl
    refine ⟨_, ev0, a, ns, rfl, hq, hz, fun r H' eg ec er et sm tr hat hg hcc n1 n2 n3 hne => ?_⟩
    obtain ⟨ρ', S', em⟩ := hm r eg ec er et
    have hacT : ∀ {b : Addr}, H b = none → b ∉ T.map (·.1) := fun {b} n hm => by
      obtain ⟨p, hp, rfl⟩ := List.mem_map.mp hm
      obtain ⟨ps, h1, _⟩ := hT p hp
      rw [n] at h1; cases h1
    have n3' : offT T H r.cA = none := by rw [offT_of (hacT n3)]; exact n3
    have lu : Le (offT T H) (upd (offT T H) r.cA (.lst (r.cells.map V.int))) := le_upd n3'
    have hac : r.at_ ≠ r.cA := fun z => by rw [z, hcc] at hat; cases hat
    refine ⟨upd (offT T H) r.cA (.lst (r.cells.map V.int)), fun _ => none, _, some r, ⟨fun b o e => ?_, (fun _ _ _ h => nomatch h), fun b o e _ => sm b o e, tr, fun b o e => lu b o e, fun b o e => ?_, fun r2 e => ?_, fun p hp => ?_⟩, (sl.mono lu).set (l := .imm (.rng r.at_)) (Rep.rng r.at_), _, _, _, em, fun H2 F2 M2 hk2 le2 => ?_⟩
    · by_cases hb : b = r.cA
      · subst hb; rw [upd_same] at e; cases e; exact hcc
      · rw [upd_ne hb] at e; exact sm b o (offT_le b o e)
    · by_cases hb : b = r.cA
      · subst hb; exact .inr (.inl n3)
      · rw [upd_ne hb] at e; exact .inl e
    · cases e
      exact ⟨⟨hat, hg, upd_same, by rw [ec]; unfold absOf; rw [List.length_map]; exact hz, by rw [upd_ne hac, offT_of (hacT n1)]; exact n1, by rw [upd_ne hne.symm, offT_of (hacT n2)]; exact n2⟩, rfl, rfl, .inr n1, .inr n2⟩
    · have hmem : p.1 ∈ T.map (·.1) := List.mem_map.mpr ⟨p, hp, rfl⟩
      have hne2 : p.1 ≠ r.cA := fun z => hacT n3 (by rw [← z]; exact hmem)
      exact ⟨(hT p hp).ext sm, (upd_ne hne2).trans (if_pos hmem), rfl, hmem, fun ps e pos cv hc => by
        obtain ⟨ps', h1, h2, h3⟩ := hT p hp
        have h4 := sm _ _ h1
        rw [h4] at e; cases e
        obtain ⟨c, e1, e2⟩ := h3 pos cv hc
        exact ⟨c, e1, lu _ _ (by rw [offT_of (offT_at hT e2 fun _ z => by unfold CodeO at z; cases z)]; exact e2)⟩⟩
    · exact fun v rv => by cases rv; exact q _
end
end Dv
namespace Dv
open PySem PySem.Spec PyProof.Rows L2 LamX C8

/-! ### the lambda's body: a call that comes out, or raises -/
theorem lam_takes {X : Cx} {A : Around} {outer : List Env} {s : Shared} {H : Hp} {E : XK} {scope : Scope} {f c' : Addr} : Takes (lamCx X A outer s H E scope f c') (fun cls d _ H => E cls d H) := takes_of rfl rfl rfl rfl
theorem act_of {X : Cx} {G : Gh} {A : Around} {outer : List Env} {s : Shared} {H : Hp} {E : XK} {scope : Scope} {f c' : Addr} {o : Expr} {m : ME} {mx : XM} (h : PE (lamCx X A outer s H E scope f c') o (eE G m)) (h' : PE (lamCx X A outer s H E scope f c') o (xE G (fun cls d _ H => E cls d H) mx)) :
    PE (lamCx X A outer s H E scope f c') o (tAct G m mx E) := pe_alt h h'
theorem xe_no {X : Cx} {G : Gh} {W : WX} {o : Expr} : PE X o (xE G W xNo) := ⟨fun _ _ _ _ _ _ ⟨F, M, ρ, S, hk, sl, C, S', e, q⟩ => by cases e⟩
/-- f(args), where f's promises are both known -/
theorem act_call {X : Cx} {G : Gh} {A : Around} {outer : List Env} {s : Shared} {H : Hp} {E : XK} {scope : Scope} {fa c' : Addr} {f : List D → Option D} {fx : List D → Option Addr} {x : Str} {k j : Nat} {p pos : Pos} {e : Expr} {es : List Expr} {ma : MA}
    (c : Cal X.prog X.w X.K X.mg X.base k x (spP G.K f) []) (cx : CalX X.prog X.w X.K X.mg X.base k x (spX G.K fx)) (hr : Room j (A.deeper (lamEnv X scope s.heap.objs.size fa c'))) (hk : k ≤ j) (hg : Gl (lamCx X A outer s H E scope fa c') x) (ha : PA (lamCx X A outer s H E scope fa c') (e :: es) (eA G ma))
    (hdb : (x == ("__debug__" : Str)) = false := by decide) (he : starEach (e :: es) (lamEnv X scope s.heap.objs.size fa c') = (false, eval e (lamEnv X scope s.heap.objs.size fa c')) :: starEach es (lamEnv X scope s.heap.objs.size fa c') := by rfl) (hpl : (backTo pos (starEach es (lamEnv X scope s.heap.objs.size fa c'))).any (·.1) = false := by rfl) :
    PE (lamCx X A outer s H E scope fa c') (.Call (.Name x p) (e :: es) [] pos) (tAct G (mCall f ma) (xCall fx ma) E) :=
  act_of (se_call (pe_c c hr hk hg ha hdb he hpl)) (xe_call cx hr hk lam_takes hg ha hdb he hpl)
end Dv
namespace Dv
open PySem PySem.Spec PyProof.Rows L2 LamX C8

/-! ### this raises, or what comes behind it -/
def xOr (m n : XM) : XM := fun ρ S => match m ρ S with
  | some p => some p
  | none => n ρ S
section
variable {G : Gh} {X : Cx} {W : WX} {e a b c o : Expr} {es : List Expr} {pos p2 : Pos} {st : Stmt} {sts A B : List Stmt} {m n : XM}
theorem pss_alt {t t' : TS} (h : PSs X sts t) (h' : PSs X sts t') : PSs X sts (fun D σ H => t D σ H ∨ t' D σ H) := ⟨fun pins s σ H D I q => q.elim (h.run pins s σ H D I) (h'.run pins s σ H D I)⟩
theorem xs_or (h : PSs X sts (xS G W m)) (h' : PSs X sts (xS G W n)) : PSs X sts (xS G W (xOr m n)) := pss_imp (pss_alt h h') fun D σ H ⟨F, M, ρ, S, hk, sl, C, S', e, q⟩ => by
  unfold xOr at e
  cases e1 : m ρ S with
  | some p => rw [e1] at e; cases e; exact .inl ⟨F, M, ρ, S, hk, sl, C, S', e1, q⟩
  | none => rw [e1] at e; exact .inr ⟨F, M, ρ, S, hk, sl, C, S', e, q⟩
theorem xe_or (h : PE X o (xE G W m)) (h' : PE X o (xE G W n)) : PE X o (xE G W (xOr m n)) := pe_imp (pe_alt h h') fun σ H Q ⟨F, M, ρ, S, hk, sl, C, S', e, q⟩ => by
  unfold xOr at e
  cases e1 : m ρ S with
  | some p => rw [e1] at e; cases e; exact .inl ⟨F, M, ρ, S, hk, sl, C, S', e1, q⟩
  | none => rw [e1] at e; exact .inr ⟨F, M, ρ, S, hk, sl, C, S', e, q⟩
theorem xs_set {i : Nat} {x : Str} {pos' : Pos} (hN : X.N.Nodup) (hi : X.N[i]? = some x) (hx : Loc X.env.scope x) (h : PE X e (xE G W m)) (hs : swapsWith e (some (.Name x pos')) pos.line X.env = pure false := by rfl) (hf : X.fn x = true ∨ X.env.scope.names.lookup x = some .local := by first | exact .inl rfl | exact .inr rfl | assumption) :
    PS X (.Assign [.Name x pos'] e pos) (xS G W m) := ps_imp (ps_set hN hi hx h hs hf) fun D σ H ⟨F, M, ρ, S, hk, sl, C, S', e, q⟩ => ⟨F, M, ρ, S, hk, sl, C, S', e, fun H' F' hk' le => q σ H' F' M hk' le⟩
end
/-! ### classes of errors -/
/-- an error class of the program over ValueError, made with a text -/
structure ErrX (K : PySem.W.Frag) (C : Addr) : Prop where
  ex : PySem.W.excIn K C He.veBase "ValueError.__new__" = true
  kp : PySem.W.keepIn K (.ref C) = true
  su : PySem.W.subIn K (.ref C) (.type "BaseException") = some true
  ty : PySem.W.typeIn K (.ref C) = some (.type "type")
theorem xs_raiseT {G : Gh} {X : Cx} {W : WX} {x m : Str} {C : Addr} {j : Nat} {p p2 p3 pos : Pos} (hX : ErrX X.K C) (gC : X.mg x = some (.ref C)) (tk : Takes X W) (hc : X.calm = true := by rfl) (hg : Gl X x := by rfl) (hdb : (x == ("__debug__" : Str)) = false := by decide) :
    PS X (.Raise (some (.Call (.Name x p) [.Constant (.str m) j p2] [] pos)) none p3) (xS G W (xCl C)) := xs_raise hc tk (pmk_own PySem.F.excBase_ValueError hX.ex gC hX.kp (raises_own hX.su hX.ty) hg hdb)
/-! ### the def that catches -/
structure CauFn (K : PySem.W.Frag) (mg : Str → Option Value) (x : Str) (CS : Addr) : Prop where
  ex : ∃ (a : Str) (g : Addr) (pg : Arguments) (bg : List Stmt) (sg : Scope) (dV kV doc pm cdv ct oc : Value) (an od : Option Addr) (osl : Array (Option Value)) (Ng : List Str),
    mg x = some (.ref g) ∧ PySem.W.keepIn K (.ref g) = true ∧ K.lookup g = some ⟨oc, od, .func (PySem.W.fnOf x x pg bg sg dV kV doc pm an cdv ct), osl⟩ ∧ PySem.W.codeIn K cdv x = true ∧ L2.Binds K (PySem.W.fnOf x x pg bg sg dV kV doc pm an cdv ct) [a] [] ∧ FnScope Ng [a] sg ∧ Ng[0]? = some a ∧ Vis sg a ∧
      (a == ("__debug__" : Str)) = false ∧ (a == ("__classdict__" : Str)) = false ∧ ∀ X : Cx, X.K = K → X.mg = mg → ∀ q, GivesTo X Ng x sg g cdv bg a q (TKept K (.ref CS))
/-- found = None; try: a() / except e as n: found = n; return found -/
theorem cau_fn {K : PySem.W.Frag} {mg : Str → Option Value} {x a e n y : Str} {st : Stmt} {g CS : Addr} {fd : FuncData} {Ng : List Str} {i j : Nat} {p1 p2 p3 p4 p5 p6 p7 p8 p9 p10 p11 p12 p13 p14 : Pos} {k0 : Nat} (F : L2.Fun K x x st g fd) (hm : mg x = some (.ref g)) (hb : Binds K fd [a] []) (Sg : FnScope Ng [a] (defScope st)) (he : mg e = some (.ref CS))
    (hbody : defBody st = [.Assign [.Name y p9] (.Constant .none k0 p10) p11, .Try [.Expr (.Call (.Name a p1) [] [] p2) p3] [.ExceptHandler (some (.Name e p4)) (some n) [.Assign [.Name y p12] (.Name n p5) p6] p7] [] [] p8, .Return (some (.Name y p13)) p14])
    (hge : (defScope st).names.lookup e = some .globalImplicit) (hde : (e == ("__debug__" : Str)) = false) (h0 : Ng[0]? = some a) (hi : Ng[i]? = some n) (hj : Ng[j]? = some y) (hij : i ≠ j) (hi0 : i ≠ 0) (hj0 : j ≠ 0) (hva : Vis (defScope st) a) (hln : (defScope st).names.lookup n = some .local) (hly : (defScope st).names.lookup y = some .local)
    (hda : (a == ("__debug__" : Str)) = false) (hca : (a == ("__classdict__" : Str)) = false) (hd : (n == ("__debug__" : Str)) = false) (hcd : (n == ("__classdict__" : Str)) = false) (hd2 : (y == ("__debug__" : Str)) = false) (hcd2 : (y == ("__classdict__" : Str)) = false) : CauFn K mg x CS := by
  have kp := F.kp
  obtain ⟨oc, od, kV, doc, pm, an, cdv, ct, osl, rfl, lk, hcd'⟩ := F.ex
  refine ⟨a, g, _, defBody st, defScope st, _, kV, doc, pm, cdv, ct, oc, an, od, osl, Ng, hm, kp, lk, hcd', hb, Sg, h0, hva, hda, hca, fun X hK hmg q => ?_⟩
  subst hK hmg
  rw [hbody]
  exact kept_gives hge he hde Sg.nd h0 hi hj hij hi0 hj0 hln hly hd hcd hd2 hcd2
/-- x(lambda: body), x the def that catches -/
theorem se_caught {G : Gh} {X : Cx} {x : Str} {CS c P : Addr} {k : Nat} {params : Arguments} {body : Expr} {scope : Scope} {m : ME} {mx : XM} {p lpos pos : Pos} (Cf : CauFn G.K X.mg x CS) (hK : X.K = G.K) (hg : Gl X x) (hp : (P, X.env.qual ++ "<lambda>") ∈ G.T) (hu : ∀ p ∈ G.T, p.1 = P → p.2 = X.env.qual ++ "<lambda>")
    (TB : TabB X.base X.mg c P) (hcode : X.env.code = .ref c) (hr : Room (k + 2) X.A) (L : LamS X.env.scope scope)
    (hbody : ∀ (A : Around) (outer : List Env) (s : Shared) (H : Hp) (E : XK) (f c' : Addr), Room k (A.deeper (lamEnv X scope s.heap.objs.size f c')) → PE (lamCx X A outer s H E scope f c') body (tAct G m mx E))
    (hdef : defaultsOf params X.env = ([], []) := by rfl)
    (hbind : ∀ (q : Str) (cl : List (Str × Addr)) (pm cv ctv : Value), bindArgs (PySem.W.kla_fn "<lambda>" q params body scope cl pm cv ctv) ⟨[], []⟩ = pure [] := by exact fun _ _ _ _ _ => rfl)
    (hdb : (x == ("__debug__" : Str)) = false := by decide) :
    PE X (.Call (.Name x p) [.Lambda params body scope lpos] [] pos) (eE G (mCau G.K CS m mx)) := by
  rw [← hK] at Cf
  obtain ⟨a, g, pg, bg, sg, dV, kV, doc, pm, cdv, ct, oc, an, od, osl, Ng, hm, kp, lk, hcd, hb, Sg, h0, hva, hda, hca, hG⟩ := Cf.ex
  exact se_cau hp hu (pe_lam1 hg hm kp lk hcd hb Sg h0 hva (by rw [← hK]; exact hG X rfl rfl _) TB hcode hr L hdef hbind hbody hdb hda hca)
end Dv
namespace Dv
open PySem PySem.Spec PyProof.Rows L2 LamX C8

/-! ### lambdas as values -/
section
variable {X : Cx} {pins : List (Addr × Obj)} {σ : L2.St} {H : Hp} {s : Shared}
/-- a lambda is made, and told -/
theorem lam_told2 {c P : Addr} {params : Arguments} {body : Expr} {scope : Scope} {pos : Pos} {E : Value → Shared → Prop} {Q : Value → Shared → Prop} (I : Inv X pins σ H s) (TB : TabB X.base X.mg c P) (hcode : X.env.code = .ref c) (hT : TabS H P (X.env.qual ++ "<lambda>"))
    (hdef : defaultsOf params X.env = ([], [])) (hfree : ∀ y ∈ scope.names, y.2 = .free → ∃ c, X.env.cells.lookup y.1 = some c)
    (h : ∀ (f c' : Addr) (pm ctv : Value) (H1 : Hp) (s' : Shared), Made H H1 P c' (X.env.qual ++ "<lambda>") → H1 f = none →
      Inv X pins σ (upd H1 f (LamO f (PySem.W.kla_obj "<lambda>" (X.env.qual ++ "<lambda>") params body scope (cloFrom X.env.cells scope.names []) pm c' ctv))) s' → Q (.ref f) s') :
    wpAny (model X.prog X.w) X.A (eval (.Lambda params body scope pos) X.env) Q E s := by
  refine lam_told I TB hcode hT hdef hfree fun f c' pm ctv H1 s' I1 md hf hn hfr hsz => h f c' pm ctv H1 s' md hn (inv_told I1 hn (lamO_ok hf) ?_ (fun z => ?_) (fun x c e z => ?_) fun p hp z => ?_)
  · cases e : X.s_0.heap.get? f with
    | none => rfl
    | some o => exact absurd (Nat.lt_of_lt_of_le (Nat.lt_trans (Nat.lt_of_lt_of_le (Heap.lt_size e) I.ok.above) I.lt) hsz) (Nat.lt_irrefl _)
  · rw [z] at hsz
    exact Nat.lt_irrefl _ (Nat.lt_of_lt_of_le I.lt hsz)
  · obtain ⟨v, o, ho, _⟩ := I.cell x c e
    rw [z] at ho
    exact Nat.lt_irrefl _ (Nat.lt_of_lt_of_le (Heap.lt_size ho) hsz)
  · have h1 := (I.pin p hp).1
    rw [z] at h1
    exact Nat.lt_irrefl _ (Nat.lt_of_lt_of_le (Heap.lt_size h1) hsz)
end
/-- the lambda's value: told at f, its code object at c' -/
def LamAt (sp : LamD) (f c' : Addr) (pm ctv : Value) (H : Hp) : Prop := H f = some (LamO f (sp.obj c' pm ctv)) ∧ H c' = some (CodeO c' sp.q)
def tLamE (P : Addr) (sp : LamD) : TE := fun σ H Q => TabS H P sp.q ∧ ∀ (f c' : Addr) (pm ctv : Value) (H1 : Hp), Made H H1 P c' sp.q → H1 f = none → Q (.ref f) (upd H1 f (LamO f (sp.obj c' pm ctv)))
/-- what a lambda of the text at X is -/
structure SpOk (X : Cx) (sp : LamD) : Prop where
  q : sp.q = X.env.qual ++ "<lambda>"
  cl : sp.cells = cloFrom X.env.cells sp.scope.names []
  L : LamS X.env.scope sp.scope
  bind : ∀ (q : Str) (cl : List (Str × Addr)) (pm cv ctv : Value), bindArgs (PySem.W.kla_fn "<lambda>" q sp.params sp.body sp.scope cl pm cv ctv) ⟨[], []⟩ = pure []
theorem pe_lamE {X : Cx} {sp : LamD} {c P : Addr} {pos : Pos} (TB : TabB X.base X.mg c P) (hcode : X.env.code = .ref c) (S : SpOk X sp) (hdef : defaultsOf sp.params X.env = ([], [])) : PE X (.Lambda sp.params sp.body sp.scope pos) (tLamE P sp) := by
  obtain ⟨k, params, body, scope, q, cells⟩ := sp
  obtain ⟨hq, hcl, L, hb⟩ := S
  dsimp only at hq hcl L
  subst hq hcl
  refine ⟨fun pins s σ H Q I ⟨hT, h⟩ => lam_told2 I TB hcode hT hdef (L.has I.ok) fun f c' pm ctv H1 s' md hn I1 => ⟨.ref f, _, I1, rfl, h f c' pm ctv H1 md hn⟩⟩
theorem se_lam {G : Gh} {X : Cx} {sp : LamD} {c P : Addr} {pos : Pos} (hp : (P, sp.q) ∈ G.T) (hu : ∀ p ∈ G.T, p.1 = P → p.2 = sp.q) (TB : TabB X.base X.mg c P) (hcode : X.env.code = .ref c) (S : SpOk X sp) (hdef : defaultsOf sp.params X.env = ([], []) := by rfl) : PE X (.Lambda sp.params sp.body sp.scope pos) (eE G (mPure (.lam sp))) :=
  pe_imp (pe_lamE TB hcode S hdef) fun σ H Q ⟨F, M, ρ, S, hk, sl, d, S', e, q⟩ => by
    cases e
    refine ⟨(hk.tab _ hp).1, fun f c' pm ctv H1 md hn => ?_⟩
    obtain ⟨F1, hk1, le1, hc⟩ := heap_made hk hp hu md
    have nc : c' ≠ f := ne_of_none md.1 hn
    exact q _ _ _ (hk1.laid hn) (le1.trans (le_upd (hk1.fnone hn))) (.lam upd_same (by rw [upd_ne nc]; exact hc))
/-! ### a lambda called, frames above its maker -/
theorem un_two {fs : List Addr} {H H1 HZ : Hp} {h h1 hZ : Heap} {L : Addr} (a : Un fs [] H H1 h h1) (hL : h.objs.size ≤ L) (b : Un (L :: fs) [] H1 HZ h1 hZ) : Un fs [] H HZ h hZ where
  keep := fun c o e n hc hx => by
    refine b.keep c o (a.keep c o e n hc hx) (a.free c o e n hx) (fun hm => ?_) hx
    rcases List.mem_cons.mp hm with rfl | hm
    · exact Nat.lt_irrefl _ (Nat.lt_of_lt_of_le (Heap.lt_size e) hL)
    · exact hc hm
  slot := fun c o e n hc hx => by
    obtain ⟨sl, e1⟩ := a.slot c o e n hc hx
    obtain ⟨sl', e2⟩ := b.slot c _ e1 (a.free c o e n hx) (List.mem_cons_of_mem _ hc) hx
    exact ⟨sl', e2⟩
  free := fun c o e n hx => by
    obtain ⟨o', e1⟩ := a.there c o e hx
    exact b.free c o' e1 (a.free c o e n hx) hx
  there := fun c o e hx => by
    obtain ⟨o', e1⟩ := a.there c o e hx
    exact b.there c o' e1 hx
  tups := fun c xs e => b.tups c xs (a.tups c xs e)
  frzs := fun c o u e => b.frzs c o u (a.frzs c o u e)
  tbls := fun c ps e => by
    obtain ⟨m1, e1⟩ := a.tbls c ps e
    obtain ⟨m2, e2⟩ := b.tbls c _ e1
    exact ⟨m1 ++ m2, by rw [e2, Array.append_assoc]⟩
/-- f may be called with no argument from each frame above X at s0, H0: tl is its reading, E takes its error -/
def ActAll (X : Cx) (s0 : Shared) (H0 : Hp) (k : Nat) (f : Addr) (Pre : Hp → Prop) (tl : XK → Hp → VK → Prop) : Prop :=
  ∀ (A1 : Around) (st1 : List Env) (s1 : Shared) (H1 : Hp), (∀ HZ hZ, Un (frs st1) [] H1 HZ s1.heap hZ → Un (frs X.stack) [] H0 HZ s0.heap hZ) →
  ∀ (Ng : List Str) (qg : Str) (sg : Scope) (g : Addr) (cdg : Value) (pn : List (Addr × Obj)) (xe : Value → Shared → Prop) (W : WX) (E : XK) (i : Nat) (a : Str) (p1 p2 : Pos),
    Takes ((cxOf C8.CX0 X.prog X.w X.K X.mg X.base Ng qg sg g cdg A1 st1 s1 H1 C8.E0).tr pn xe) W → (∀ cls d σ' H', E cls d H' → W cls d σ' H') → Room (k + 1) (A1.deeper (envOfC qg sg s1.heap.objs.size g cdg)) → Ng[i]? = some a → Vis sg a →
    (a == ("__debug__" : Str)) = false → (a == ("__classdict__" : Str)) = false →
    PE ((cxOf C8.CX0 X.prog X.w X.K X.mg X.base Ng qg sg g cdg A1 st1 s1 H1 C8.E0).tr pn xe) (.Call (.Name a p1) [] [] p2) (fun σZ HZ Q => σZ[i]? = some (some (.ref f)) ∧ Pre HZ ∧ tl E HZ Q)
theorem act_all {X : Cx} {pins : List (Addr × Obj)} {σ : L2.St} {H : Hp} {s : Shared} {sp : LamD} {f c' : Addr} {pm ctv : Value} {k : Nat} {tb : XK → TE} (I : Inv X pins σ H s) (S : SpOk X sp)
    (hbody : ∀ (E : XK) (A : Around) (outer : List Env) (s : Shared) (H : Hp), Room k (A.deeper (lamEnv X sp.scope s.heap.objs.size f c')) → PE (lamCx X A outer s H E sp.scope f c') sp.body (tb E)) :
    ActAll X s H k f (LamAt sp f c' pm ctv) (fun E HZ Q => tb E σ HZ Q) := by
  obtain ⟨kk, params, body, scope, q, cells⟩ := sp
  obtain ⟨hq, hcl, L, hb⟩ := S
  dsimp only at hq hcl L hbody
  subst hq hcl
  intro A1 st1 s1 H1 hun Ng qg sg g cdg pn xe W E i a p1 p2 tk hW hr hN hv hd hcd
  refine ⟨fun pinsZ sZ σZ HZ Q IZ h => ?_⟩
  obtain ⟨hs, hpre, ht⟩ := h
  refine wpAny_Call_Name_kw (thn ((pe_var (pos := p1) (i := i) hN hv hd hcd).run pinsZ sZ σZ HZ (fun v H1 => v = .ref f ∧ H1 = HZ) IZ ⟨.ref f, hs, rfl, rfl⟩) fun u s2 ⟨v, H2, I1, r1, q1⟩ => ?_)
  obtain ⟨ev, eH⟩ := q1
  subst ev
  rw [eH] at I1
  obtain rfl : u = Value.ref f := r1
  obtain ⟨of1, _, _⟩ := I1.hok f _ hpre.1
  have of1 : s2.heap.get? f = some (PySem.W.kla_obj "<lambda>" (X.env.qual ++ "<lambda>") params body scope (cloFrom X.env.cells scope.names []) pm c' ctv) := of1
  refine PySem.W.callWith_F0 ⟨_, _, _, _, of1⟩ ?_
  have un : Un (frs X.stack) [] H HZ s.heap s2.heap := hun _ _ I1.base
  obtain ⟨⟨oc, vs, t, hoc, hdc, hvc⟩, _, _⟩ := I1.hok c' _ hpre.2
  have rc : codeAny (model X.prog X.w) (A1.deeper (envOfC qg sg s1.heap.objs.size g cdg)) (.call (.ref f) ⟨[], []⟩) (CR (L2.CX X.prog X.w) (envOfC qg sg s1.heap.objs.size g cdg :: st1) X.prog X.w HZ s2 Q E) s2 := by
    refine PySem.W.kla_callFunE hr.depth of1 rfl L.co L.gen rfl ⟨c', oc, vs, t, rfl, hoc, hdc, hvc⟩ ?_
    rw [hb]
    refine wpAny_pure (wpAny_newFunctionEnv (fun y hy => (L.own y hy).2) (fun y hy => absurd hy (by simp)) (fun h₁ hns hsb => ⟨I1.nolimit.fresh _ hsb, ?_⟩) L.kind)
    show codeAny _ _ (.expr body (lamEnv X scope s2.heap.objs.size f c')) _ _
    have kp : ∀ b o, s2.heap.get? b = some o → h₁.get? b = some o := fun b o e => hsb.extBut b o (Nat.ne_of_lt (Heap.lt_size e)) (Heap.get?_push_of_some _ e)
    have J : Inv (lamCx X (A1.deeper (envOfC qg sg s1.heap.objs.size g cdg)) (envOfC qg sg s1.heap.objs.size g cdg :: st1) s2 HZ E scope f c') [] σ HZ { s2 with heap := h₁, toks := s2.toks + ([] : List (Str × Value)).length } :=
      lam_start2 I L I1.env0 hr.hd un hns kp
    refine PySem.W.kla_codeExpr (wpAny_mono ((hbody E _ _ s2 HZ (hr.deeper _)).run [] _ _ HZ Q J ht) (fun v s' hq => ?_) fun e s' hq => hq)
    obtain ⟨w', H', J', rv, q⟩ := hq
    exact ⟨w', H', J'.os, J'.bare, J'.base, J'.hok, rv, q⟩
  have hx : Passes (L2.CX X.prog X.w) ((cxOf C8.CX0 X.prog X.w X.K X.mg X.base Ng qg sg g cdg A1 st1 s1 H1 C8.E0).tr pn xe) E := passes_call tk hW
  refine wpAny_call (codeAny_mono rc fun r s' hq => ?_)
  cases r with
  | error e => exact hx pinsZ σZ HZ s2 e s' I1 hq
  | ok fl =>
    cases fl with
    | ret u => exact I1.after hq
    | next => exact False.elim hq
    | brk => exact False.elim hq
    | cont => exact False.elim hq
/-! ### the defs that are handed an action -/
/-- the def that catches: what it makes of an action, in each frame above its maker -/
structure CauFn2 (K : PySem.W.Frag) (mg : Str → Option Value) (x : Str) (CS : Addr) : Prop where
  ex : ∃ (a : Str) (g : Addr) (pg : Arguments) (bg : List Stmt) (sg : Scope) (dV kV doc pm cdv ct oc : Value) (an od : Option Addr) (osl : Array (Option Value)) (Ng : List Str),
    mg x = some (.ref g) ∧ PySem.W.keepIn K (.ref g) = true ∧ K.lookup g = some ⟨oc, od, .func (PySem.W.fnOf x x pg bg sg dV kV doc pm an cdv ct), osl⟩ ∧ PySem.W.codeIn K cdv x = true ∧ L2.Binds K (PySem.W.fnOf x x pg bg sg dV kV doc pm an cdv ct) [a] [] ∧ FnScope Ng [a] sg ∧
      ∀ (X : Cx), X.K = K → X.mg = mg → ∀ (s0 : Shared) (H0 : Hp) (k : Nat) (f : Addr) (Pre : Hp → Prop) (tl : XK → Hp → VK → Prop), ActAll X s0 H0 k f Pre tl → ∀ (A1 : Around) (st1 : List Env) (s1 : Shared) (H1 : Hp),
        (∀ HZ hZ, Un (frs st1) [] H1 HZ s1.heap hZ → Un (frs X.stack) [] H0 HZ s0.heap hZ) → Room (k + 1) (A1.deeper (envOfC x sg s1.heap.objs.size g cdv)) → ∀ (Q : VK), Pre H1 → TKept K (.ref CS) tl H1 Q →
        ∃ t, PSs (cxOf C8.CX0 X.prog X.w X.K X.mg X.base Ng x sg g cdv A1 st1 s1 H1 C8.E0).nox bg t ∧ t { nx := fun _ H' => Q .non H', rt := Q } (L2.start Ng [.ref f]) H1
/-- found = None; try: a() / except e as n: found = n; return found -/
theorem cau_fn2 {K : PySem.W.Frag} {mg : Str → Option Value} {x a e n y : Str} {st : Stmt} {g CS : Addr} {fd : FuncData} {Ng : List Str} {i j : Nat} {p1 p2 p3 p4 p5 p6 p7 p8 p9 p10 p11 p12 p13 p14 : Pos} {k0 : Nat} (F : L2.Fun K x x st g fd) (hm : mg x = some (.ref g)) (hb : Binds K fd [a] []) (Sg : FnScope Ng [a] (defScope st)) (he : mg e = some (.ref CS))
    (hbody : defBody st = [.Assign [.Name y p9] (.Constant .none k0 p10) p11, .Try [.Expr (.Call (.Name a p1) [] [] p2) p3] [.ExceptHandler (some (.Name e p4)) (some n) [.Assign [.Name y p12] (.Name n p5) p6] p7] [] [] p8, .Return (some (.Name y p13)) p14])
    (hge : (defScope st).names.lookup e = some .globalImplicit) (hde : (e == ("__debug__" : Str)) = false) (h0 : Ng[0]? = some a) (hi : Ng[i]? = some n) (hj : Ng[j]? = some y) (hij : i ≠ j) (hi0 : i ≠ 0) (hj0 : j ≠ 0) (hva : Vis (defScope st) a) (hln : (defScope st).names.lookup n = some .local) (hly : (defScope st).names.lookup y = some .local)
    (hda : (a == ("__debug__" : Str)) = false) (hca : (a == ("__classdict__" : Str)) = false) (hd : (n == ("__debug__" : Str)) = false) (hcd : (n == ("__classdict__" : Str)) = false) (hd2 : (y == ("__debug__" : Str)) = false) (hcd2 : (y == ("__classdict__" : Str)) = false) : CauFn2 K mg x CS := by
  have kp := F.kp
  obtain ⟨oc, od, kV, doc, pm, an, cdv, ct, osl, rfl, lk, hcd'⟩ := F.ex
  refine ⟨a, g, _, defBody st, defScope st, _, kV, doc, pm, cdv, ct, oc, an, od, osl, Ng, hm, kp, lk, hcd', hb, Sg, fun X hK hmg s0 H0 k f Pre tl act A1 st1 s H hun hr Q hpre h => ?_⟩
  subst hK hmg
  rw [hbody]
  have hN := Sg.nd
  have hgl : Gl (cxOf C8.CX0 X.prog X.w X.K X.mg X.base Ng x (defScope st) g cdv A1 st1 s H C8.E0).nox e := hge
  refine ⟨_, pss_cons (ps_set (i := j) hN hj (.inl hly) pe_non) (pss_cons (ps_try_kept (X := (cxOf C8.CX0 X.prog X.w X.K X.mg X.base Ng x (defScope st) g cdv A1 st1 s H C8.E0).nox) (c := .ref CS) (i := i)
      (tb := fun W D σ H => ∃ Ech : XK, (∀ cls d σ' H', Ech cls d H' → σ'.length = Ng.length → W cls d σ' H') ∧ σ[0]? = some (some (.ref f)) ∧ Pre H ∧ tl Ech H (fun _ H' => D.nx σ H'))
      (ts := tAsg (tVar i) (gName j))
      rfl rfl hN hi hln ⟨hgl, hde, .inl he⟩ rfl (fun W pn xe tk _ => ?_) (fun a pn => ?_)) (pss_one (ps_ret (pe_var hj (.inl hly) hd2 hcd2)))), ?_⟩
  · refine ⟨fun pins s' σ H' D I h' => ?_⟩
    obtain ⟨Ech, hW, h1, h2, h3⟩ := h'
    have hp := act A1 st1 s H hun Ng x (defScope st) g cdv pn xe (fun cls d σ H => σ.length = Ng.length → W cls d σ H) Ech 0 a p1 p2 (takes_len tk) (fun cls d σ' H' e => hW cls d σ' H' e) hr h0 hva hda hca
    exact (pss_one (ps_expr (pos := p3) hp)).run pins s' σ H' D I ⟨h1, h2, h3⟩
  · exact pss_one (ps_set (i := j) hN hj (.inl hly) (pe_var hi (.inl hln) hd hcd))
  · have li : i < Ng.length := (List.getElem?_eq_some_iff.mp hi).1
    have lj : j < Ng.length := (List.getElem?_eq_some_iff.mp hj).1
    have l0 : (L2.start Ng [V.ref f]).length = Ng.length := by
      have : 0 < Ng.length := (List.getElem?_eq_some_iff.mp h0).1
      unfold L2.start
      simp; omega
    have s0' : (L2.start Ng [V.ref f])[0]? = some (some (V.ref f)) := rfl
    have sj : ((L2.start Ng [V.ref f]).set j (some V.non))[j]? = some (some V.non) := List.getElem?_set_self (by omega)
    refine ⟨fun cls d H' => PySem.W.exmOne X.K cls (.ref CS) = some true ∧ d = none ∧ ∀ a, H' a = none → Q (.ref a) (upd H' a (ErrO cls a)), fun cls d σ' H' ⟨e1, e2, e3⟩ hl => ⟨e1, e2, fun b hb => ?_⟩, ?_, hpre, ?_⟩
    · exact ⟨.ref b, List.getElem?_set_self (by omega), fun _ => ⟨.ref b, by rw [List.getElem?_set_ne hij]; exact List.getElem?_set_self (by rw [List.length_set]; omega), e3 b hb⟩⟩
    · rw [List.getElem?_set_ne hj0]; exact s0'
    · have eQ : (fun (_ : V) (H' : Hp) => ∃ v, ((L2.start Ng [V.ref f]).set j (some V.non))[j]? = some (some v) ∧ Q v H') = fun _ H' => Q .non H' := by
        funext _ H'
        refine propext ⟨fun ⟨v, e, q⟩ => ?_, fun q => ⟨_, sj, q⟩⟩
        rw [sj] at e; cases e; exact q
      show tl _ H (fun (_ : V) (H' : Hp) => ∃ v, ((L2.start Ng [V.ref f]).set j (some V.non))[j]? = some (some v) ∧ Q v H')
      rw [eQ]
      exact h
def TlMono (tl : XK → Hp → VK → Prop) : Prop := ∀ {E E' : XK} {H : Hp} {Q Q' : VK}, tl E H Q → (∀ cls d H', E cls d H' → E' cls d H') → (∀ v H', Q v H' → Q' v H') → tl E' H Q'
theorem tact_mono {G : Gh} {m : ME} {mx : XM} {σ : L2.St} : TlMono (fun E H Q => tAct G m mx E σ H Q) := fun {E E' H Q Q'} h he hq => by
  rcases h with ⟨F, M, ρ, S, hk, sl, d, S', e, q⟩ | ⟨F, M, ρ, S, hk, sl, C, S', e, q⟩
  · exact .inl ⟨F, M, ρ, S, hk, sl, d, S', e, fun v H' F' hk' le r => hq _ _ (q v H' F' hk' le r)⟩
  · exact .inr ⟨F, M, ρ, S, hk, sl, C, S', e, fun H' F' hk' le => he _ _ _ (q H' F' hk' le)⟩
theorem tkept_map {K : PySem.W.Frag} {c : Value} {tl : XK → Hp → VK → Prop} (tm : TlMono tl) {H : Hp} {Q Q' : VK} (h : TKept K c tl H Q) (q : ∀ v H, Q v H → Q' v H) : TKept K c tl H Q' :=
  tm h (fun _ _ _ ⟨a, b, c⟩ => ⟨a, b, fun x hx => q _ _ (c x hx)⟩) fun _ _ z => q _ _ z
/-- a def that is handed an action, further values (np of them): fe tells its answer by what was caught -/
structure HandFn (X : Cx) (G : Gh) (k : Nat) (x : Str) (CS : Addr) (np : Nat) (fe : D → List D → Sg → Option (D × Sg)) : Prop where
  ex : ∃ g : Addr, X.mg x = some (.ref g) ∧ PySem.W.keepIn X.K (.ref g) = true ∧ ∀ {pins : List (Addr × Obj)} {σ : L2.St} {H : Hp} {s : Shared}, Inv X pins σ H s → ∀ (f : Addr) (Pre : Hp → Prop) (tl : XK → Hp → VK → Prop), ActAll X s H k f Pre tl → TlMono tl →
    ∀ (vs2 : List V) (us2 : List Value), Vals vs2 us2 → vs2.length = np → ∀ Q : VK, Pre H → TKept G.K (.ref CS) tl H (fun v H' => ∃ F M S d ds r S', HeapOk G H' F M S ∧ Rep G.K F v d ∧ RepL G.K F vs2 ds ∧ fe d ds S = some (r, S') ∧ ∀ v' H'' F'', HeapOk G H'' F'' M S' → Le F F'' → Rep G.K F'' v' r → Q v' H'') →
    codeAny (model X.prog X.w) X.A (.call (.ref g) ⟨.ref f :: us2, []⟩) (CR C8.CX0 X.stack X.prog X.w H s Q C8.E0) s
def feC : D → List D → Sg → Option (D × Sg) := fun d _ S => some (d, S)
theorem cr_mono {outer : List Env} {P : Program} {w : World} {H : Hp} {s : Shared} {Q Q' : VK} {E : XK} {CX : CXT} {r : Result} {s' : Shared} (h : CR CX outer P w H s Q E r s') (q : ∀ v H', Q v H' → Q' v H') : CR CX outer P w H s Q' E r s' := by
  cases r with
  | error e => exact h
  | ok fl =>
    cases fl with
    | ret u =>
      obtain ⟨v, H', os, bare, un, hok, rv, z⟩ := h
      exact ⟨v, H', os, bare, un, hok, rv, q v H' z⟩
    | next => exact h
    | brk => exact h
    | cont => exact h
theorem hand_cau {X : Cx} {G : Gh} {k : Nat} {x : Str} {CS : Addr} (C : CauFn2 G.K X.mg x CS) (hK : X.K = G.K) (hr : Room (k + 2) X.A) : HandFn X G k x CS 0 feC := by
  rw [← hK] at C
  obtain ⟨a, g, pg, bg, sg, dV, kV, doc, pm, cdv, ct, oc, an, od, osl, Ng, hm, kp, lk, hcd, hb, Sg, hG⟩ := C.ex
  refine ⟨g, hm, kp, fun {pins σ H s} I f Pre tl act tm vs2 us2 r hl Q hpre h => ?_⟩
  obtain rfl := List.length_eq_zero_iff.mp hl
  cases r
  refine codeAny_mono (run_ofS (CX := C8.CX0) (E := C8.E0) (Q := fun v H' => ∃ F M S d ds r S', HeapOk G H' F M S ∧ Rep G.K F v d ∧ RepL G.K F [] ds ∧ feC d ds S = some (r, S') ∧ ∀ v' H'' F'', HeapOk G H'' F'' M S' → Le F F'' → Rep G.K F'' v' r → Q v' H'') (N := Ng) (ps := [a]) (us := [.ref f]) (vs := [.ref f]) lk hcd Sg hr I.env0 (hb s [.ref f] I.kIn rfl) (.cons rfl .nil) rfl fun hr' => ?_) fun r s' hc => cr_mono hc fun v H' ⟨F, M, S, d, ds, r, S', hk, rv, _, efe, q⟩ => ?_
  · obtain ⟨t', ht', hq'⟩ := hG X rfl rfl s H k f Pre tl act X.A X.stack s H (fun _ _ z => z) hr' _ hpre (by rw [hK]; exact h)
    exact ⟨t', ht'.nox, hq'⟩
  · cases efe
    exact q v H' F hk (Same.refl F) rv
/-- the slots of the def that is handed an action, behind its first statement -/
def tailLo (n j : Nat) (ds : List D) (d : D) : Lo := ((startL n (.non :: ds)).set 0 none).set j (some (.imm d))
theorem slots_drop {K : PySem.W.Frag} {σ : L2.St} {ρ : Lo} {F : Hp} {M : OMap} (s : Slots K σ ρ F M) (i : Nat) : Slots K σ (ρ.set i none) F M := ⟨by rw [List.length_set]; exact s.len, fun j l h => by
  by_cases e : i = j
  · subst e
    by_cases hi : i < ρ.length
    · rw [List.getElem?_set_self hi] at h; cases h
    · rw [List.set_eq_of_length_le (by omega)] at h
      exact s.at_ _ _ h
  · rw [List.getElem?_set_ne e] at h
    exact s.at_ _ _ h⟩
theorem startL_drop {n : Nat} {d d' : D} {ds : List D} : (startL n (d :: ds)).set 0 none = (startL n (d' :: ds)).set 0 none := rfl
/-- e = y(a); return e2 -/
theorem hand_ref {X : Cx} {G : Gh} {k kt np n j : Nat} {x y a e : Str} {CS g : Addr} {st : Stmt} {fd : FuncData} {Ng : List Str} {ps : List Str} {e2 : Expr} {me : ME} {q1 q2 q3 q4 q5 q6 : Pos} (C : CauFn2 G.K X.mg y CS) (hK : X.K = G.K) (F : L2.Fun X.K x x st g fd) (hm : X.mg x = some (.ref g)) (hb : Binds X.K fd (a :: ps) []) (Sg : FnScope Ng (a :: ps) (defScope st)) (hn : Ng.length = n) (hps : ps.length = np)
    (hbody : defBody st = [.Assign [.Name e q1] (.Call (.Name y q2) [.Name a q3] [] q4) q5, .Return (some e2) q6])
    (h0 : Ng[0]? = some a) (hva : Vis (defScope st) a) (hj : Ng[j]? = some e) (hj0 : j ≠ 0) (hle : (defScope st).names.lookup e = some .local) (hgy : (defScope st).names.lookup y = some .globalImplicit) (hda : (a == ("__debug__" : Str)) = false) (hca : (a == ("__classdict__" : Str)) = false) (hdy : (y == ("__debug__" : Str)) = false)
    (hr : Room (k + 3) X.A) (hkt : kt ≤ k + 2)
    (htail : ∀ (A : Around) (outer : List Env) (s : Shared) (H : Hp) (cdv : Value), Room kt (A.deeper (envOfC x (defScope st) s.heap.objs.size g cdv)) → PE (cxOf C8.CX0 X.prog X.w X.K X.mg X.base Ng x (defScope st) g cdv A outer s H C8.E0).nox e2 (eE G me)) :
    HandFn X G k x CS np (fun d ds S => me (tailLo n j ds d) S) := by
  rw [← hK] at C
  obtain ⟨a', gy, pgy, bgy, sgy, dVy, kVy, docy, pmy, cdvy, cty, ocy, any, ody, osly, Ngy, hmy, kpy, lky, hcdy, hby, Sgy, hGy⟩ := C.ex
  have kp := F.kp
  obtain ⟨oc, od, kV, doc, pm, an, cdv, ct, osl, rfl, lk, hcd⟩ := F.ex
  refine ⟨g, hm, kp, fun {pins σ H s} I f Pre tl act tm vs2 us2 r hl Q hpre h => ?_⟩
  have hlen : (V.ref f :: vs2).length = (a :: ps).length := by simp [hl, hps]
  refine run_ofS (CX := C8.CX0) (E := C8.E0) (Q := Q) (N := Ng) (ps := a :: ps) (us := .ref f :: us2) (vs := .ref f :: vs2) lk hcd Sg hr I.env0 (by
    have z := hb s (.ref f :: us2) I.kIn (by simp [hps, ← hl, r.length])
    rw [List.append_nil] at z
    exact z) (.cons rfl r) hlen fun hr' => ?_
  have hgl : Gl (cxOf C8.CX0 X.prog X.w X.K X.mg X.base Ng x (defScope st) g cdv X.A X.stack s H C8.E0).nox y := hgy
  -- the call of the def that catches
  have pass : PE (cxOf C8.CX0 X.prog X.w X.K X.mg X.base Ng x (defScope st) g cdv X.A X.stack s H C8.E0).nox (.Call (.Name y q2) [.Name a q3] [] q4) (fun σY HY Q => σY[0]? = some (some (.ref f)) ∧ Pre HY ∧ TKept X.K (.ref CS) tl HY Q) := by
    refine ⟨fun pinsY sY σY HY QY IY hY => wpAny_Call_Name_kw (ld_glob IY hgl hmy (PySem.W.callWith_K (h₀ := X.base) IY.ok.mod.kin kpy (thn ((pa_cons (pe_var (pos := q3) (i := 0) h0 hva hda hca) pa_nil).run q4 pinsY sY σY HY (fun vs H1 => vs = [V.ref f] ∧ H1 = HY) IY ⟨.ref f, hY.1, rfl, rfl⟩) fun us s1 ⟨vs, H1, I1, r1, ev, eH⟩ => ?_) (by rfl) (by rfl)) hdy)⟩
    subst ev
    rw [eH] at I1
    cases r1 with
    | cons ru rn =>
      cases rn
      cases (show _ = Value.ref f from ru)
      refine ⟨I1.kIn, wpAny_call (codeAny_mono (run_ofS (CX := C8.CX0) (E := C8.E0) (Q := QY) (N := Ngy) (ps := [a']) (us := [.ref f]) (vs := [.ref f]) (k := k + 1) lky hcdy Sgy hr' I1.env0 (hby s1 [.ref f] I1.kIn rfl) (.cons rfl .nil) rfl fun hr2 => ?_) fun r2 s2 hq => ?_)⟩
      · obtain ⟨t', ht', hq'⟩ := hGy X rfl rfl s H k f Pre tl act (X.A.deeper (envOfC x (defScope st) s.heap.objs.size g cdv)) (envOfC x (defScope st) s.heap.objs.size g cdv :: X.stack) s1 HY (fun HZ hZ u => un_two (L := s.heap.objs.size) I1.base (Nat.le_refl _) u) hr2 QY hY.2.1 hY.2.2
        exact ⟨t', ht'.nox, hq'⟩
      · cases r2 with
        | error e => exact (show False from hq).elim
        | ok fl =>
          cases fl with
          | ret u => exact I1.after hq
          | next => exact False.elim hq
          | brk => exact False.elim hq
          | cont => exact False.elim hq
  have ht := htail X.A X.stack s H cdv (hr'.mono (by omega))
  rw [hbody]
  refine ⟨_, (pss_cons (ps_set (i := j) Sg.nd hj (.inl hle) pass) (pss_one (ps_ret ht))).nox, ?_⟩
  have lj : j < Ng.length := (List.getElem?_eq_some_iff.mp hj).1
  refine ⟨rfl, hpre, ?_⟩
  rw [hK]
  have key : ∀ (v : V) (H' : Hp), (∃ F M S d ds r S', HeapOk G H' F M S ∧ Rep G.K F v d ∧ RepL G.K F vs2 ds ∧ me (tailLo n j ds d) S = some (r, S') ∧ ∀ v' H'' F'', HeapOk G H'' F'' M S' → Le F F'' → Rep G.K F'' v' r → Q v' H'') → eE G me ((L2.start Ng (.ref f :: vs2)).set j (some v)) H' Q := fun v H' ⟨F, M, S, d, ds, r, S', hk, rv, rl, em, q⟩ => by
    have s1 : Slots G.K (L2.start Ng (.ref f :: vs2)) (startL n (.fn f :: ds)) F M := by rw [← hn]; exact startL_slots (.cons (.fn f) rl)
    have s2 := (slots_drop s1 0).set (i := j) (v := v) (l := .imm d) rv
    exact ⟨F, M, _, S, hk, s2, r, S', em, fun v' H'' F'' hk'' le r'' => q v' H'' F'' hk'' le r''⟩
  exact tkept_map (H := H) tm h key
/-! ### the call -/
open Classical in
/-- x(action, ..): which action, what it makes; fe: the answer -/
noncomputable def mHand (K : PySem.W.Frag) (CS : Addr) (lm : Nat → LamD) (acts : List (Nat × ME × XM)) (np : Nat) (fe : D → List D → Sg → Option (D × Sg)) (ma : MA) : ME := fun ρ S => (ma ρ S).bind fun p => match p.1 with
  | .lam sp :: ds => if ds.length = np then (match acts.find? (fun t => t.1 == sp.k) with
    | some t => if sp = lm t.1 then (mCau K CS t.2.1 t.2.2 ρ p.2).bind fun q => fe q.1 ds q.2 else none
    | none => none) else none
  | _ => none
theorem mHand_of {K : PySem.W.Frag} {CS : Addr} {lm : Nat → LamD} {acts : List (Nat × ME × XM)} {np : Nat} {fe : D → List D → Sg → Option (D × Sg)} {ma : MA} {ρ : Lo} {S S1 S2 S3 : Sg} {i : Nat} {m : ME} {mx : XM} {ds : List D} {d r : D} (h : ma ρ S = some (.lam (lm i) :: ds, S1)) (hl : ds.length = np) (hi : (lm i).k = i) (hf : acts.find? (fun t => t.1 == i) = some (i, m, mx)) (hc : mCau K CS m mx ρ S1 = some (d, S2)) (he : fe d ds S2 = some (r, S3)) :
    mHand K CS lm acts np fe ma ρ S = some (r, S3) := by
  unfold mHand
  rw [h]
  simp only [Option.bind_some]
  rw [if_pos hl, hi, hf]
  dsimp only
  rw [if_pos rfl, hc]
  exact he
/-- the lambdas' readings -/
def ActsOk (X : Cx) (G : Gh) (lm : Nat → LamD) (k : Nat) (acts : List (Nat × ME × XM)) : Prop := ∀ t ∈ acts, SpOk X (lm t.1) ∧ ∀ (f c' : Addr) (E : XK) (A : Around) (outer : List Env) (s : Shared) (H : Hp), Room k (A.deeper (lamEnv X (lm t.1).scope s.heap.objs.size f c')) → PE (lamCx X A outer s H E (lm t.1).scope f c') (lm t.1).body (tAct G t.2.1 t.2.2 E)
theorem acts_nil {X : Cx} {G : Gh} {lm : Nat → LamD} {k : Nat} : ActsOk X G lm k [] := fun t h => by cases h
theorem acts_cons {X : Cx} {G : Gh} {lm : Nat → LamD} {k i : Nat} {m : ME} {mx : XM} {acts : List (Nat × ME × XM)} (S : SpOk X (lm i)) (h : ∀ (f c' : Addr) (E : XK) (A : Around) (outer : List Env) (s : Shared) (H : Hp), Room k (A.deeper (lamEnv X (lm i).scope s.heap.objs.size f c')) → PE (lamCx X A outer s H E (lm i).scope f c') (lm i).body (tAct G m mx E)) (r : ActsOk X G lm k acts) : ActsOk X G lm k ((i, m, mx) :: acts) := fun t ht => by
  rcases List.mem_cons.mp ht with rfl | ht
  · exact ⟨S, h⟩
  · exact r t ht
theorem se_hand {X : Cx} {G : Gh} {x : Str} {CS : Addr} {k np : Nat} {fe : D → List D → Sg → Option (D × Sg)} {lm : Nat → LamD} {acts : List (Nat × ME × XM)} {ma : MA} {e : Expr} {es : List Expr} {p pos : Pos} (Hd : HandFn X G k x CS np fe) (hg : Gl X x) (hA : ActsOk X G lm k acts) (ha : PA X (e :: es) (eA G ma))
    (hdb : (x == ("__debug__" : Str)) = false := by decide) (he : starEach (e :: es) X.env = (false, eval e X.env) :: starEach es X.env := by rfl) (hpl : (backTo pos (starEach es X.env)).any (·.1) = false := by rfl) :
    PE X (.Call (.Name x p) (e :: es) [] pos) (eE G (mHand G.K CS lm acts np fe ma)) := by
  obtain ⟨g, hm, kp, hrun⟩ := Hd.ex
  refine ⟨fun pins s σ H Q I ⟨F, M, ρ, S, hk, sl, d, S', e, kq⟩ => ?_⟩
  unfold mHand at e
  obtain ⟨⟨ds0, S1⟩, e1, e⟩ := Option.bind_eq_some_iff.mp e
  dsimp only at e
  obtain ⟨sp, ds, rfl⟩ : ∃ sp ds, ds0 = .lam sp :: ds := by
    cases ds0 with
    | nil => cases e
    | cons d0 ds => cases d0 <;> first | exact ⟨_, _, rfl⟩ | cases e
  dsimp only at e
  split at e
  case isFalse => cases e
  rename_i hnp
  cases hfind : acts.find? (fun t => t.1 == sp.k) with
  | none => rw [hfind] at e; cases e
  | some t =>
  rw [hfind] at e
  dsimp only at e
  split at e
  case isFalse => cases e
  rename_i hsp
  obtain ⟨⟨q1, S2⟩, e2, efe⟩ := Option.bind_eq_some_iff.mp e
  dsimp only at e2 efe
  refine wpAny_Call_Name_kw (ld_glob I hg hm (PySem.W.callWith_K (h₀ := X.base) I.ok.mod.kin kp (thn (ha.run pos pins s σ H (fun vs H1 => ∃ F1, HeapOk G H1 F1 M S1 ∧ Le F F1 ∧ RepL G.K F1 vs (.lam sp :: ds)) I ⟨F, M, ρ, S, hk, sl, _, S1, e1, fun vs H1 F1 hk1 le1 rl => ⟨F1, hk1, le1, rl⟩⟩) fun us s1 ⟨vs, H1, I1, r1, F1, hk1, le1, rl⟩ => ⟨I1.kIn, ?_⟩) he hpl) hdb)
  cases rl with
  | cons rv rl2 =>
    rename_i v0 vs2
    cases r1 with
    | cons ru rn =>
      cases rv with
      | lam hf hc =>
        rename_i f c' pm ctv
        cases (show _ = Value.ref f from ru)
        have hmem := List.mem_of_find?_eq_some hfind
        obtain ⟨Sp, hbody⟩ := hA t hmem
        rw [hsp] at hf hc
        have act := act_all (sp := lm t.1) (f := f) (c' := c') (pm := pm) (ctv := ctv) (k := k) (tb := fun E => tAct G t.2.1 t.2.2 E) I1 Sp fun E A outer s H hr => hbody f c' E A outer s H hr
        refine wpAny_call (codeAny_mono (hrun I1 f (LamAt (lm t.1) f c' pm ctv) _ act tact_mono vs2 _ rn (by rw [Paired.length rl2]; exact hnp) Q ⟨hk1.sub _ _ hf, hk1.sub _ _ hc⟩ ?_) fun r2 s2 hq => ?_)
        · unfold mCau at e2
          cases ex : t.2.2 ρ S1 with
          | none =>
            rw [ex] at e2
            obtain ⟨p, e3, e4⟩ := Option.map_eq_some_iff.mp e2
            cases e4
            exact .inl ⟨F1, M, ρ, S1, hk1, sl.mono le1, p.1, p.2, e3, fun v H' F' hk' le r => ⟨F', M, _, .non, ds, d, S', hk', .non, RepL.mono le rl2, efe, fun v' H'' F'' hk'' le'' r'' => kq v' H'' F'' hk'' (le1.trans (le.trans le'')) r''⟩⟩
          | some p =>
            obtain ⟨C, S3⟩ := p
            rw [ex] at e2
            dsimp only at e2
            split at e2
            · rename_i hx
              cases e2
              exact .inr ⟨F1, M, ρ, S1, hk1, sl.mono le1, C, _, ex, fun H' F' hk' le => ⟨hx.1, rfl, fun a ha => ⟨_, M, _, .err C, ds, d, S', hk'.laid ha, .err upd_same hx.2, (RepL.mono (le.trans (le_upd (hk'.fnone ha))) rl2), efe, fun v' H'' F'' hk'' le'' r'' => kq v' H'' F'' hk'' (le1.trans (le.trans ((le_upd (hk'.fnone ha)).trans le''))) r''⟩⟩⟩
            · cases e2
        · cases r2 with
          | error e => exact (show False from hq).elim
          | ok fl =>
            cases fl with
            | ret u => exact I1.after hq
            | next => exact False.elim hq
            | brk => exact False.elim hq
            | cont => exact False.elim hq
end Dv
namespace Dv
open PySem PySem.Spec PyProof.Rows L2 LamX

/-! ### the law's def, with lambdas as values -/
def spLawL (K : PySem.W.Frag) (n i : Nat) (T : List (Addr × Str)) (m : (Nat → LamD) → MS) : Sp := fun vs H Q E => ∃ (a : Addr) (ns : List Int), vs = [.ref a] ∧ SqL K H a (ns.map V.int) ∧ ns.length ≤ 1000 ∧ (∀ p ∈ T, TabS H p.1 p.2) ∧
  (∀ lm : Nat → LamD, (∀ k, (lm k).k = k) → ∀ r : Rng, r.great = bigOf ns → r.cells = absOf ns → r.rest = 0 → r.turn = 0 → ∃ ρ' S', m lm ((startL n [.scr ns]).set i (some (.imm (.rng r.at_)))) (some r) = some (.rt (.bl true), ρ', S')) ∧ ∀ H', Q (.bl true) H'
section
variable {P : Program} {w : World} {K : PySem.W.Frag} {mg : Str → Option Value} {base : Heap}
theorem law_okL {x qual : Str} {st : Stmt} {f c : Addr} {fd : FuncData} {N : List Str} {k i : Nat} {m : (Nat → LamD) → MS} {lm : Env → Nat → LamD} {T : List (Addr × Str)} (hlm : ∀ env k, (lm env k).k = k) (F : FunC K x qual st f fd c) (Sc : FnScope N ["script"] (defScope st)) (hi : i < N.length) (hi0 : 0 < i)
    (h1 : ∀ (H0 F0 : Hp) (R : Addr → Prop) (A : Around) (outer : List Env) (s : Shared) (H : Hp) (E : XK), Room k (A.deeper (envOfC qual (defScope st) s.heap.objs.size f (.ref c))) → PSs (cxOf CX0 P w K mg base N qual (defScope st) f (.ref c) A outer s H E).nox (defBody st)
      (tSeq (tAsg (tCall (spBegun K) [] E0 (tCons (tVar 0) tNil)) (gName i)) (sS ⟨K, H0, F0, R, T⟩ (m (lm (envOfC qual (defScope st) s.heap.objs.size f (.ref c))))))) :
    FnOk P w K mg base CX0 (k + 1) f fd ["script"] (spLawL K N.length i T m) := by
  refine F.ok Sc (fun vs H Q E h => ?_) fun A outer s H vs Q E hr h => ?_
  · obtain ⟨a, ns, rfl, _⟩ := h; rfl
  · obtain ⟨a, ns, rfl, hq, hz, hT, hm, q⟩ := h
    refine ⟨_, h1 H (offT T H) (fun b => b ∈ T.map (·.1)) A outer s H E hr, ?_⟩
    have hqF : SqL K (offT T H) a (ns.map V.int) := by
      rcases hq with (h | ⟨o, h⟩) | h
      · exact .inl (.inl (by rw [offT_of (offT_at hT h fun _ z => nomatch z)]; exact h))
      · exact .inl (.inr ⟨o, by rw [offT_of (offT_at hT h fun _ z => nomatch z)]; exact h⟩)
      · exact .inr h
    have sl : Slots K (L2.start N [V.ref a]) (startL N.length [.scr ns]) (offT T H) (fun _ => none) := startL_slots (N := N) (ds := [.scr ns]) (.cons (.scr hqF) .nil)
    have ev0 : (L2.start N [V.ref a])[0]? = some (some (V.ref a)) := rfl
    refine ⟨_, ev0, a, ns, rfl, hq, hz, fun r H' eg ec er et sm tr hat hg hcc n1 n2 n3 hne => ?_⟩
    obtain ⟨ρ', S', em⟩ := hm (lm (envOfC qual (defScope st) s.heap.objs.size f (.ref c))) (hlm _) r eg ec er et
    have hacT : ∀ {b : Addr}, H b = none → b ∉ T.map (·.1) := fun {b} n hm => by
      obtain ⟨p, hp, rfl⟩ := List.mem_map.mp hm
      obtain ⟨ps, h1, _⟩ := hT p hp
      rw [n] at h1; cases h1
    have n3' : offT T H r.cA = none := by rw [offT_of (hacT n3)]; exact n3
    have lu : Le (offT T H) (upd (offT T H) r.cA (.lst (r.cells.map V.int))) := le_upd n3'
    have hac : r.at_ ≠ r.cA := fun z => by rw [z, hcc] at hat; cases hat
    refine ⟨upd (offT T H) r.cA (.lst (r.cells.map V.int)), fun _ => none, _, some r, ⟨fun b o e => ?_, (fun _ _ _ h => nomatch h), fun b o e _ => sm b o e, tr, fun b o e => lu b o e, fun b o e => ?_, fun r2 e => ?_, fun p hp => ?_⟩, (sl.mono lu).set (l := .imm (.rng r.at_)) (Rep.rng r.at_), _, _, _, em, fun H2 F2 M2 hk2 le2 => ?_⟩
    · by_cases hb : b = r.cA
      · subst hb; rw [upd_same] at e; cases e; exact hcc
      · rw [upd_ne hb] at e; exact sm b o (offT_le b o e)
    · by_cases hb : b = r.cA
      · subst hb; exact .inr (.inl n3)
      · rw [upd_ne hb] at e; exact .inl e
    · cases e
      exact ⟨⟨hat, hg, upd_same, by rw [ec]; unfold absOf; rw [List.length_map]; exact hz, by rw [upd_ne hac, offT_of (hacT n1)]; exact n1, by rw [upd_ne hne.symm, offT_of (hacT n2)]; exact n2⟩, rfl, rfl, .inr n1, .inr n2⟩
    · have hmem : p.1 ∈ T.map (·.1) := List.mem_map.mpr ⟨p, hp, rfl⟩
      have hne2 : p.1 ≠ r.cA := fun z => hacT n3 (by rw [← z]; exact hmem)
      exact ⟨(hT p hp).ext sm, (upd_ne hne2).trans (if_pos hmem), rfl, hmem, fun ps e pos cv hc => by
        obtain ⟨ps', h1, h2, h3⟩ := hT p hp
        have h4 := sm _ _ h1
        rw [h4] at e; cases e
        obtain ⟨c, e1, e2⟩ := h3 pos cv hc
        exact ⟨c, e1, lu _ _ (by rw [offT_of (offT_at hT e2 fun _ z => by unfold CodeO at z; cases z)]; exact e2)⟩⟩
    · exact fun v rv => by cases rv; exact q _
end
/-- a lambda of the text -/
def lamScope (st : Stmt) : Expr → Scope
  | .Lambda _ _ s _ => s
  | _ => defScope st
def lamBody : Expr → Expr
  | .Lambda _ b _ _ => b
  | e => e
def lamPar (st : Stmt) : Expr → Arguments
  | .Lambda p _ _ _ => p
  | _ => defArgs st
def lamOf (st : Stmt) (env : Env) (k : Nat) (e : Expr) : LamD := ⟨k, lamPar st e, lamBody e, lamScope st e, env.qual ++ "<lambda>", cloFrom env.cells (lamScope st e).names []⟩
/-- ways into the text -/
def pBody : Stmt → List Stmt
  | .For _ _ b _ _ => b
  | .While _ b _ _ => b
  | .If _ b _ _ => b
  | _ => []
def pElse : Stmt → List Stmt
  | .If _ _ b _ => b
  | _ => []
def pExpr : Stmt → Expr
  | .For _ e _ _ _ => e
  | .While e _ _ _ => e
  | .If e _ _ _ => e
  | .Assign _ e _ => e
  | .Expr e _ => e
  | .Return (some e) _ => e
  | _ => .Constant .none 0 ⟨0, 0, 0, 0⟩
def pNo : Expr := .Constant .none 0 ⟨0, 0, 0, 0⟩
def pArg (i : Nat) : Expr → Expr
  | .Call _ es _ _ => es.getD i pNo
  | .List es _ => es.getD i pNo
  | .Tuple es _ _ => es.getD i pNo
  | .UnaryOp _ e _ => e
  | .BoolOp _ es _ => es.getD i pNo
  | .Compare l _ es _ => (l :: es).getD i pNo
  | _ => pNo
end Dv
namespace Dv
open PySem PySem.Spec PyProof.Rows L2

/-! ### sorted(t), t a tuple of ints -/
section
variable {prog : Program} {w : World} {A : Around} {E : Value → Shared → Prop} {s : Shared}
theorem collect_tupI {l : Addr} {vs : List Value} {Q : List Value → Shared → Prop} (hl : s.heap.IsTuple l vs.toArray) (hz : vs.length ≤ sizeLine)
    (h : Q vs { s with heap := (s.heap.push (seqObj "list" #[] 0)).update s.heap.objs.size (Obj.mapSeq (· ++ vs.toArray)) }) : wpAny (model prog w) A (collect (.ref l)) Q E s := by
  obtain ⟨o, at_, ty, k, dt⟩ := id hl
  unfold collect
  refine wpAny_bind (wpAny_runValue (codeAny_builtin entry_proto_collect' ?_))
  show wpAny _ _ (do again (.builtin "list.__iadd__" ⟨[← newList [], .ref l], []⟩)) _ _ s
  refine wpAny_bind (wpAny_newList (wpAny_pure ⟨Code.quiet_builtin _ (by decide +kernel), codeAny_builtin entry_list_iadd' ?_⟩))
  show wpAny _ _ (Builtin.List.listExtendWith (.ref s.heap.objs.size) (.ref l) (.ref s.heap.objs.size)) _ _ { s with heap := s.heap.push (seqObj "list" #[] 0) }
  unfold Builtin.List.listExtendWith
  have at2 : (s.heap.push (seqObj "list" #[] 0)).get? l = some o := Heap.get?_push_of_some _ at_
  have own : (s.heap.push (seqObj "list" #[] 0)).get? s.heap.objs.size = some (seqObj "list" #[] 0) := Heap.get?_push_size _ rfl
  refine wpAny_bind (wpAny_typeOf (T := "tuple") ⟨o, at2, ty⟩ ?_)
  have tt : (Value.type "tuple" == Value.type "tuple") = true := by rfl
  rw [if_pos (by rw [tt]; simp)]
  refine wpAny_bind (listItems_at at2 dt ?_)
  refine wpAny_bind (listItems_at (xs := #[]) (n := 0) own rfl ?_)
  rw [if_neg (by simp)]
  refine wpAny_bind (listUpdate_at (xs := #[]) (n := 0) own rfl ?_ (Nat.zero_le _) (by show (#[] ++ vs.toArray).size ≤ sizeLine + 1; simp only [Array.size_append, List.size_toArray, List.length_nil]; omega))
  refine wpAny_pure ?_
  show wpAny (model prog w) A (do
      let o ← load s.heap.objs.size
      match o.data with
      | .seq xs _ => pure xs.toList
      | _ => unsupported "internal:collect") Q E { s with heap := (s.heap.push (seqObj "list" #[] 0)).update s.heap.objs.size (Obj.mapSeq (· ++ vs.toArray)) }
  refine wpAny_bind (wpAny_load (get?_update_seq own _) ?_)
  show wpAny _ _ (pure ((#[] : Array Value) ++ vs.toArray).toList) Q E _
  rw [show ((#[] : Array Value) ++ vs.toArray).toList = vs by simp]
  exact wpAny_pure h
theorem sorted_tupI {l : Addr} {vs : List Value} {ns : List Int} {Q : Value → Shared → Prop} (hl : s.heap.IsTuple l vs.toArray) (hi : IntsAre vs ns) (hz : vs.length ≤ sizeLine)
    (h : ∀ out : List Value, SrtO.Srtd SrtO.ltIv out → SrtO.Stb SrtO.ltIv out vs → Q (.ref (s.heap.objs.size + 1)) { s with heap := sortedAll s.heap vs out.toArray }) :
    wpAny (model prog w) A (call (.builtin "sorted") [.ref l]) Q E s := by
  refine Calls.call_function_entry PyProof.Rows.kind_sorted PyProof.Rows.plain_sorted PyProof.Rows.entry_sorted (PyProof.Rows.args_sorted1 _) ?_
  unfold Builtin.«sorted»
  refine wpAny_bind (m := checkCount "sorted" 1 1 _) (wpAny_pure ?_)
  refine wpAny_bind (collect_tupI hl hz ?_)
  refine wpAny_bind (wpAny_newList ?_ hz)
  generalize hh : (s.heap.push (seqObj "list" #[] 0)).update s.heap.objs.size (Obj.mapSeq (· ++ vs.toArray)) = h1
  have z1 : h1.objs.size = s.heap.objs.size + 1 := by rw [← hh, Heap.size_update, size_push']
  have o1 : (h1.push (seqObj "list" vs.toArray 0)).get? (s.heap.objs.size + 1) = some (seqObj "list" vs.toArray 0) := by
    rw [← z1]; exact Heap.get?_push_size _ rfl
  show wpAny _ _ _ _ _ { s with heap := h1.push (seqObj "list" vs.toArray 0) }
  rw [z1]
  refine wpAny_bind (wpAny_holding (wpAny_call_entry slot_list_sort ⟨_, o1, rfl⟩ entry_list_sort (SrtO.list_sort_ord SrtO.swo_int o1 hz (fun h2 => SrtO.ints_sortable hi h2) fun out a1 a2 => ⟨_, rfl, ?_⟩) (args_list_sort _)))
  refine wpAny_pure ⟨_, rfl, ?_⟩
  have := h out a1 a2
  unfold sortedAll at this
  rw [hh] at this
  exact this
end
/-- sorted(t) -/
def rSortTup (K : PySem.W.Frag) : List V → Hp → VK → Prop := fun vs H Q => ∃ (a : Addr) (ns : List Int), vs = [V.ref a] ∧ SqT K H a (ns.map V.int) ∧
  ∀ (ns' : List Int) (p : Addr), ns'.Perm ns → ns'.Pairwise (· ≤ ·) → H p = none → Q (.ref p) (upd H p (.lst (ns'.map V.int)))
section
variable {X : Cx}
theorem cr_sortTup : CallR X (.builtin "sorted") (rSortTup X.K) := by
  intro pins s σ H vs us Q I r h
  obtain ⟨a, ns, rfl, hs, q⟩ := h
  rw [Vals.ref1 r]
  obtain ⟨its, rv, pl, hz⟩ := I.tuple hs
  have hi := rv.ints
  have hz2 : its.length ≤ sizeLine := by rw [← rv.length]; exact hz
  refine sorted_tupI pl hi hz2 fun out a1 a2 => ?_
  obtain ⟨k1, k2, k3⟩ := SrtO.ints_out hi a1 a2
  obtain ⟨n, e⟩ := PyProof.Rows.sortedAll_at s.heap its out.toArray
  have hlen : ((out.map SrtO.iv).map V.int).length ≤ sizeLine := by
    rw [List.length_map, k2.length_eq]
    rw [List.length_map] at hz
    exact hz
  exact ⟨.ref _, upd H (s.heap.objs.size + 1) (.lst ((out.map SrtO.iv).map V.int)), I.laid (t' := s.toks) (fun _ _ => PyProof.Rows.sortedAll_old) (Nat.le_succ _) ⟨hlen, out, n, vals_of_ints k1, e⟩, rfl, q _ _ k2 k3 (I.hok.fresh (Nat.le_succ _))⟩
/-! ### sorted(set(t)), t a tuple of ints -/
def tSortSetT (K : PySem.W.Frag) (ta : TE) : TE := fun σ H Q => ta σ H fun x H1 => ∃ (l : Addr) (ns : List Int), x = .ref l ∧ SqT K H1 l (ns.map V.int) ∧ ns.length < 64 ∧
  ∀ (out : List Int) (p : Addr), out.Pairwise (· < ·) → (∀ k : Int, k ∈ out ↔ k ∈ ns) → H1 p = none → Q (.ref p) (upd H1 p (.lst (out.map V.int)))
theorem pe_sortsetT {a : Expr} {ta : TE} {p p2 q pos : Pos} (hg : Gl X "sorted") (hm : X.mg "sorted" = none) (hg2 : Gl X "set") (hm2 : X.mg "set" = none) (ha : PE X a ta) (hc : X.calm = true := by rfl)
    (na : starEach [a] X.env = (false, eval a X.env) :: starEach [] X.env := by rfl) : PE X (.Call (.Name "sorted" p) [.Call (.Name "set" p2) [a] [] q] [] pos) (tSortSetT X.K ta) := by
  refine ⟨fun pins s σ H Q I h => ?_⟩
  refine Call_ (ld_blt I hg hm (show bootBuiltins (Str.ofString "sorted") = some (.builtin "sorted") by decide +kernel) ?_)
  refine PyProof.Rows.callWith_builtin1 (PyProof.Rows.args_cons ?_ rfl) rfl rfl
  refine Call_ (ld_blt I hg2 hm2 boot_set ?_)
  refine PyProof.Rows.callWith_type1 (PyProof.Rows.args_cons (thn (ha.run pins s σ H _ I h) fun v s1 ⟨x, H1, I1, r1, q1⟩ => PyProof.Rows.args_nil ?_) na) na rfl
  obtain ⟨l, ns, rfl, hq, hl, q1⟩ := q1
  cases r1
  obtain ⟨its, r, pl, hz⟩ := I1.tuple hq
  have hi : IntsAre its.toArray.toList ns := ints_of_vals r
  refine call_set_tupI ns (I1.ok.hd hc) (show s1.heap.IsTuple l its.toArray from pl) hi (by unfold scanBound; omega) fun h' tk c R1 hcn hk => PyProof.Rows.args_nil ?_
  have I2 : Inv X pins σ H1 { s1 with heap := h', toks := tk } := I1.kept hk
  refine sorted_set (s := { s1 with heap := h', toks := tk }) R1 (I2.ok.hd hc) (by omega) fun s' p out c' ns' k g o hp hg hi hs hm hl2 => ?_
  have hlen : (ns'.map V.int).length ≤ sizeLine := by rw [List.length_map, hl2, sizeLine_eq]; omega
  have hn : H1 p = none := I2.hok.fresh hp
  have J : Inv X pins σ (upd H1 p (.lst (ns'.map V.int))) { ({ s1 with heap := h', toks := tk } : Shared) with heap := s'.heap, gens := s'.gens, drawn := s'.drawn, toks := s'.toks } :=
    I2.call (ch := []) (Un.laid k hp hn) (I2.hok.laid k hp ⟨hlen, out.toList, c', vals_of_ints hi, hg⟩) (by rw [g]; exact I2.bare) (fun _ z => nomatch z)
  have e : s' = { ({ s1 with heap := h', toks := tk } : Shared) with heap := s'.heap, gens := s'.gens, drawn := s'.drawn, toks := s'.toks } := by
    cases s'
    cases s1
    cases o
    rfl
  rw [e]
  exact ⟨.ref p, _, J, rfl, q1 ns' p hs (fun k => by rw [hm k, decide_eq_true_eq]) hn⟩
end
/-! in data -/
def leI (x y : Int) : Bool := decide (x ≤ y)
def sortI (ns : List Int) : List Int := ns.mergeSort leI
theorem sortI_perm (ns : List Int) : (sortI ns).Perm ns := List.mergeSort_perm _ _
theorem sortI_le (ns : List Int) : (sortI ns).Pairwise (· ≤ ·) := by
  have := List.pairwise_mergeSort (le := leI) (fun a b c h1 h2 => by
    unfold leI at *
    simp only [decide_eq_true_eq] at *
    omega) (fun a b => by
    unfold leI
    simp only [Bool.or_eq_true, decide_eq_true_eq]
    omega) ns
  exact this.imp fun h => of_decide_eq_true h
theorem sortI_eq {xs ns : List Int} (h : xs.Perm ns) (s : xs.Pairwise (· ≤ ·)) : xs = sortI ns :=
  List.Perm.eq_of_pairwise (le := fun x y => x ≤ y) (fun _ _ _ _ h1 h2 => Int.le_antisymm h1 h2) s (sortI_le ns) (h.trans (sortI_perm ns).symm)
def dedI : List Int → List Int
  | [] => []
  | n :: r => if n ∈ dedI r then dedI r else n :: dedI r
theorem mem_dedI : ∀ {l : List Int} {q : Int}, q ∈ dedI l ↔ q ∈ l
  | [], q => Iff.rfl
  | p :: r, q => by
    unfold dedI
    split
    · rename_i h
      rw [mem_dedI, List.mem_cons]
      exact ⟨.inr, fun z => z.elim (fun z => z ▸ mem_dedI.mp h) id⟩
    · rw [List.mem_cons, List.mem_cons, mem_dedI]
theorem nodup_dedI : ∀ {l : List Int}, (dedI l).Nodup
  | [] => .nil
  | p :: r => by
    unfold dedI
    split
    · exact nodup_dedI
    · rename_i h
      exact List.nodup_cons.mpr ⟨h, nodup_dedI⟩
theorem dedI_len : ∀ (l : List Int), (dedI l).length ≤ l.length
  | [] => Nat.le_refl _
  | p :: r => by
    unfold dedI
    have := dedI_len r
    split
    · rw [List.length_cons]; omega
    · rw [List.length_cons, List.length_cons]; omega
section
variable {G : Gh} {X : Cx} {o : Expr}
def sortTupD : List D → Option D
  | [d] => d.asT.bind fun ds => (intsD ds).map fun ns => .lst ((sortI ns).map .int)
  | _ => none
theorem c_sortTup : CBF G (rSortTup G.K) sortTupD := fun vs ds d H F M S Q hk rl e q => by
  unfold sortTupD at e
  split at e
  · rename_i x
    obtain ⟨xs, e1, e⟩ := Option.bind_eq_some_iff.mp e
    obtain ⟨ns, e2, rfl⟩ := Option.map_eq_some_iff.mp e
    obtain ⟨v, rfl, r⟩ := brl1 rl
    have hz := Rep.size (.inl e1) (r.rep hk (by rw [e1]; exact fun z => nomatch z))
    obtain ⟨a, us, rfl, hs, ru⟩ := BRep.untup hk e1 r
    rw [intsD_map e2] at ru hz
    rw [List.length_map] at hz
    rw [Dv.repl_ints ru] at hs
    refine ⟨a, ns, rfl, hs, fun ns' p hpm hpw hpn => ?_⟩
    rw [sortI_eq hpm hpw]
    refine q p _ _ (hk.laidO hpn (.lst ?_ (rep_ints _))) (hk.mnone hpn) (Same.refl F)
    rw [List.length_map, (sortI_perm ns).length_eq]; exact hz
  · cases e
def sortSetI (d : D) : Option D := d.asT.bind fun ds => (intsD ds).bind fun ns => if ns.length < 64 then some (.lst ((sortI (dedI ns)).map .int)) else none
theorem sf_sortsetT {m : ME} (hK : G.K = X.K) (h : PE X o (tSortSetT X.K (eB G m))) : PE X o (eF G (mOp1 sortSetI m)) := pe_imp h fun σ H Q ⟨F, M, ρ, S, hk, sl, d, S', e, q⟩ => by
  obtain ⟨d1, e1, e2⟩ := mOp1_some e
  refine ⟨F, M, ρ, S, hk, sl, d1, S', e1, fun v H' F' hk' le r => ?_⟩
  obtain ⟨ds, e3, e2⟩ := Option.bind_eq_some_iff.mp e2
  obtain ⟨ns, e4, e2⟩ := Option.bind_eq_some_iff.mp e2
  split at e2
  · rename_i hc
    cases e2
    obtain ⟨a, vs, rfl, hq, rl⟩ := BRep.untup hk' e3 r
    rw [intsD_map e4] at rl
    rw [Dv.repl_ints rl, hK] at hq
    refine ⟨a, ns, rfl, hq, hc, fun out p hpw hm hpn => ?_⟩
    have eo : out = sortI (dedI ns) := sortI_eq ((List.perm_ext_iff_of_nodup (hpw.imp fun h => Int.ne_of_lt h) nodup_dedI).mpr fun k => by rw [hm, mem_dedI]) (hpw.imp fun h => Int.le_of_lt h)
    rw [eo]
    refine q p _ _ (hk'.laidO hpn (.lst ?_ (rep_ints _))) (hk'.mnone hpn) le
    have := dedI_len ns
    rw [List.length_map, (sortI_perm _).length_eq, sizeLine_eq]; omega
  · cases e2
end
end Dv
namespace Dv
open PySem PySem.Spec PyProof.Rows L2 HT

/-! ### t[::-1], t a tuple -/
section
variable {prog : Program} {w : World} {A : Around} {E : Value → Shared → Prop} {s : Shared}
theorem back_pick (items : Array Value) : ((List.range items.size).filterMap fun (k : Nat) => items[(((items.size : Int) - 1) + (k : Int) * (-1)).toNat]?).toArray = items.toList.reverse.toArray := by
  congr 1
  apply List.ext_getElem?
  intro j
  have hall : (List.range items.size).filterMap (fun (k : Nat) => items[(((items.size : Int) - 1) + (k : Int) * (-1)).toNat]?) = (List.range items.size).map fun (k : Nat) => items.toList.getD (items.size - 1 - k) .none := by
    have key : ∀ l : List Nat, (∀ k ∈ l, k < items.size) → l.filterMap (fun (k : Nat) => items[(((items.size : Int) - 1) + (k : Int) * (-1)).toNat]?) = l.map fun (k : Nat) => items.toList.getD (items.size - 1 - k) .none := fun l => by
      induction l with
      | nil => exact fun _ => rfl
      | cons k l ih =>
        intro hk
        have h1 := hk k List.mem_cons_self
        have e : (((items.size : Int) - 1) + (k : Int) * (-1)).toNat = items.size - 1 - k := by omega
        have hl : items.size - 1 - k < items.size := by omega
        rw [List.filterMap_cons, e, Array.getElem?_eq_getElem hl]
        simp only [List.map_cons]
        rw [ih fun j hj => hk j (List.mem_cons_of_mem _ hj), List.getD_eq_getElem?_getD, List.getElem?_eq_getElem (by rw [Array.length_toList]; exact hl)]
        simp
    exact key _ fun k hk => List.mem_range.mp hk
  rw [hall, List.getElem?_map]
  by_cases hj : j < items.size
  · rw [List.getElem?_range hj, List.getElem?_reverse (by rw [Array.length_toList]; exact hj), Array.length_toList]
    rw [List.getElem?_eq_getElem (by rw [Array.length_toList]; omega)]
    simp only [Option.map_some, Option.some.injEq]
    rw [List.getD_eq_getElem?_getD, List.getElem?_eq_getElem (by rw [Array.length_toList]; omega)]
    rfl
  · rw [List.getElem?_eq_none (by rw [List.length_range]; omega), List.getElem?_eq_none (by rw [List.length_reverse, Array.length_toList]; omega)]
    rfl
theorem sliceApplied_back {sl : Addr} {vl vu vs : Value} {n : Nat} {Q : Int × Int × Nat → Shared → Prop} (hs : s.heap.IsSliceOf sl vl vu vs) (pl : IsPart vl none) (pu : IsPart vu none) (ps : IsPart vs (some (-1)))
    (h : Q ((n : Int) - 1, -1, n) s) : wpAny (model prog w) A (Builtin.Slice.sliceApplied (.ref sl) (pure (n : Int))) Q E s := by
  obtain ⟨os, hos, hcs, hds⟩ := id hs
  unfold Builtin.Slice.sliceApplied Builtin.Slice.sliceFields
  refine wpAny_bind (wpAny_bind (wpAny_field hos hds (x := vl) rfl (wpAny_bind (wpAny_field hos hds (x := vu) rfl (wpAny_bind (wpAny_field hos hds (x := vs) rfl (wpAny_pure ?_)))))))
  refine wpAny_bind (slicePart_ ps ?_)
  show wpAny _ _ (if ((-1 : Int) == 0) = true then _ else _) _ _ s
  rw [if_neg (by decide)]
  refine wpAny_bind (slicePart_ pl (wpAny_bind (slicePart_ pu (wpAny_bind (wpAny_pure ?_)))))
  have e1 : Builtin.Slice.sliceAdjust none none (-1) (n : Int) = ((n : Int) - 1, -1) := rfl
  have e2 : Builtin.Slice.slicePlaces ((n : Int) - 1) (-1) (-1) = n := by
    unfold Builtin.Slice.slicePlaces
    rw [if_neg (by decide)]
    by_cases hn : 0 < n
    · rw [if_pos (by omega), show -(-1 : Int) = 1 from rfl, Int.ediv_one]; omega
    · rw [if_neg (by omega)]; omega
  show wpAny _ _ (match Builtin.Slice.sliceAdjust none none (-1) (n : Int) with | (lo, hi) => pure (lo, (-1 : Int), Builtin.Slice.slicePlaces lo hi (-1))) _ _ s
  rw [e1]
  show wpAny _ _ (pure ((n : Int) - 1, (-1 : Int), Builtin.Slice.slicePlaces ((n : Int) - 1) (-1) (-1))) _ _ s
  rw [e2]
  exact wpAny_pure h
theorem getItem_tuple_back {t sl : Addr} {items : Array Value} {vl vu vs : Value} {Q : Value → Shared → Prop} (ht : IsTup s.heap t items) (hs : s.heap.IsSliceOf sl vl vu vs) (pl : IsPart vl none) (pu : IsPart vu none) (ps : IsPart vs (some (-1)))
    (h : Q (.ref s.heap.objs.size) { s with heap := s.heap.push { cls := .type "tuple", data := .seq items.toList.reverse.toArray } }) (hsz : items.size ≤ sizeLine) : wpAny (model prog w) A (getItem (.ref t) (.ref sl)) Q E s := by
  have hz : sizeOk (.seq items.toList.reverse.toArray) := by
    show items.toList.reverse.toArray.size ≤ sizeLine
    rw [List.size_toArray, List.length_reverse, Array.length_toList]
    exact hsz
  obtain ⟨os, hos, hcs, hds⟩ := id hs
  have hTs : s.TypeIs (.ref sl) "slice" := ⟨os, hos, hcs⟩
  unfold getItem
  try with_reducible refine wpAny_holding ?_
  first | refine wpAny_bind (wpAny_pure ?_) | skip
  refine wpAny_bind (wpAny_sequenceKey ht.typeIs (by decide) ?_)
  refine wpAny_bind (wpAny_callSpecial?_slot (name := Str.ofString "__getitem__") ht.typeIs PyProof.Rows.slot_tuple_getitem
    (wpAny_call_entry PyProof.Rows.slot_tuple_getitem ht.typeIs entry_tuple_getitem ?_ (args_tuple_getitem _ _)))
  show wpAny _ _ (Builtin.Tuple.tupleItemsOf (.ref t) >>= _) _ _ s
  refine wpAny_bind (tupleItemsOf_ ht ?_)
  refine wpAny_bind (wpAny_typeOf hTs ?_)
  rw [if_pos (by decide)]
  refine wpAny_bind (sliceApplied_back hs pl pu ps ?_)
  have no : ¬ ((((items.size : Int) - 1) == 0 && (-1 : Int) == 1 && items.size == items.size) = true) := by
    intro q
    rw [Bool.and_eq_true, Bool.and_eq_true] at q
    exact absurd q.1.2 (by decide)
  show wpAny _ _ (if (((items.size : Int) - 1) == 0 && (-1 : Int) == 1 && items.size == items.size) = true then _ else _) _ _ s
  rw [if_neg no, back_pick]
  first
    | exact wpAny_bind (m := Builtin.Tuple.tupleExact _) (wpAny_newObj_type (wpAny_pure ⟨_, rfl, wpAny_pure h⟩) hz)
    | exact wpAny_bind (m := Builtin.Tuple.tupleExact _) (wpAny_newObj_type (wpAny_bind (wpAny_pure (wpAny_pure ⟨_, rfl, wpAny_pure h⟩))) hz)
    | exact wpAny_bind (wpAny_bind (m := Builtin.Tuple.tupleExact _) (wpAny_newObj_type (wpAny_pure (wpAny_pure ⟨_, rfl, wpAny_pure h⟩)) hz))
    | exact wpAny_bind (wpAny_bind (m := Builtin.Tuple.tupleExact _) (wpAny_newObj_type (wpAny_pure ⟨_, rfl, wpAny_pure h⟩) hz))
end
section
variable {X : Cx} {G : Gh} {o : Expr}
def tRevTup (K : PySem.W.Frag) (te : TE) : TE := fun σ H Q => te σ H fun x H1 => ∃ a xs, x = .ref a ∧ SqT K H1 a xs ∧ ∀ p, H1 p = none → Q (.ref p) (upd H1 p (.tup xs.reverse))
theorem pe_revTup {e : Expr} {te : TE} {k : Nat} {p1 p2 p3 pos : Pos} (he : PE X e te) : PE X (.Subscript e (.Slice none none (some (.UnaryOp .USub (.Constant (.int 1) k p1) p2)) p3) pos) (tRevTup X.K te) := by
  refine ⟨fun pins s σ H Q I h => ?_⟩
  refine Subscript_ (thn (he.run pins s σ H _ I h) fun v s1 ⟨x, H1, I1, r1, q1⟩ => ?_)
  obtain ⟨a, xs, ex, hx, q⟩ := q1
  subst ex
  cases r1
  have hst : PO X (some (.UnaryOp .USub (.Constant (.int 1) k p1) p2)) (tPart (tUn (rU fun i => .int (-i)) (tC (.int 1)))) := po_some (pe_un un_neg pe_int)
  refine wpAny_Slice (thn (po_none.run pins s1 σ H1 (fun o H2 => o = none ∧ H2 = H1) I1 ⟨rfl, rfl⟩) fun vl s2 ⟨l, H2, I2, pl, el, e2⟩ => ?_)
  subst el e2
  refine thn (po_none.run pins s2 σ H2 (fun o H3 => o = none ∧ H3 = H2) I2 ⟨rfl, rfl⟩) fun vu s3 ⟨u, H3, I3, pu, eu, e3⟩ => ?_
  subst eu e3
  refine thn (hst.run pins s3 σ H3 (fun o H4 => o = some (-1) ∧ H4 = H3) I3 ⟨1, rfl, -1, rfl, rfl, rfl⟩) fun vs s4 ⟨o, H4, I4, ps, eo, e4⟩ => ?_
  subst eo e4
  have I5 : Inv X pins σ H4 { s4 with heap := s4.heap.push { cls := .type "slice", data := .fields #[vl, vu, vs] } } := I4.kept (t' := s4.toks) fun b ob q => Heap.get?_push_of_some _ q
  obtain ⟨its, r, ht, hz⟩ := I5.tuple hx
  have hlen := r.length
  show wpAny (model X.prog X.w) X.A (subscriptTail e (.Slice none none (some (.UnaryOp .USub (.Constant (.int 1) k p1) p2)) p3) (.ref a) (.ref s4.heap.objs.size)) (EP X pins σ Q) X.xe { s4 with heap := s4.heap.push { cls := .type "slice", data := .fields #[vl, vu, vs] } }
  refine tail_any (ops := [.ref a, .ref s4.heap.objs.size]) ht.typeIs (PyProof.Rows.slot_tuple_getitem.lookup) ?_ (by with_unfolding_all rfl)
  refine getItem_tuple_back ht (Heap.IsSliceOf.new _ vl vu vs) pl pu ps ?_ (by rw [List.size_toArray]; omega)
  refine ⟨.ref _, _, I5.laid (t' := s4.toks) (o := .tup xs.reverse) (fun b ob q => Heap.get?_push_of_some _ q) (Nat.le_refl _) ?_, rfl, q _ (I5.hok.fresh (Nat.le_refl _))⟩
  exact ⟨by rw [List.length_reverse]; exact hz, its.reverse, r.reverse, _, Heap.get?_push_size _ rfl, rfl, 0, rfl⟩
def revTupD (d : D) : Option D := d.asT.map fun ds => .tup ds.reverse
theorem se_revTup {m : ME} (hK : G.K = X.K) (h : PE X o (tRevTup X.K (eB G m))) : PE X o (eE G (mOp1 revTupD m)) := pe_imp h fun σ H Q ⟨F, M, ρ, S, hk, sl, d, S', e, q⟩ => by
  obtain ⟨d1, e1, e2⟩ := mOp1_some e
  refine ⟨F, M, ρ, S, hk, sl, d1, S', e1, fun v H' F' hk' le r => ?_⟩
  obtain ⟨ds, e3, rfl⟩ := Option.map_eq_some_iff.mp e2
  have hz := Rep.size (.inl e3) (r.rep hk' (by rw [e3]; exact fun z => nomatch z))
  obtain ⟨a, vs, rfl, hq, rl⟩ := BRep.untup hk' e3 r
  rw [hK] at hq
  refine ⟨a, vs, rfl, hq, fun p hp => ?_⟩
  have hk2 := hk'.laid (o := .tup vs.reverse) hp
  have le2 := le_upd (o := .tup vs.reverse) (hk'.fnone hp)
  refine q _ _ _ hk2 (le.trans le2) (.mkTup upd_same (by rw [List.length_reverse]; exact hz) (paired_rev (RepL.mono le2 rl)))
end
end Dv
namespace Dv
open PySem PySem.Spec PyProof.Rows L2

/-! ### len(set(t)), t any tuple of ints -/
section
variable {X : Cx} {G : Gh} {o : Expr}
def tLenSetE (K : PySem.W.Frag) (ta : TE) : TE := fun σ H Q => ta σ H fun x H1 => ∃ (l : Addr) (ns : List Int), x = .ref l ∧ SqT K H1 l (ns.map V.int) ∧ ns.length ≤ 1000 ∧ Q (.int ((dedI ns).length : Nat)) H1
theorem pe_lensetE {a : Expr} {ta : TE} {p p2 q pos : Pos} (hg : Gl X "len") (hm : X.mg "len" = none) (hg2 : Gl X "set") (hm2 : X.mg "set" = none) (ha : PE X a ta) (hc : X.calm = true := by rfl)
    (na : starEach [a] X.env = (false, eval a X.env) :: starEach [] X.env := by rfl) : PE X (.Call (.Name "len" p) [.Call (.Name "set" p2) [a] [] q] [] pos) (tLenSetE X.K ta) := by
  refine ⟨fun pins s σ H Q I h => ?_⟩
  refine Call_ (ld_blt I hg hm boot_len ?_)
  refine PyProof.Rows.callWith_builtin1 (PyProof.Rows.args_cons ?_ rfl) rfl rfl
  refine Call_ (ld_blt I hg2 hm2 boot_set ?_)
  refine PyProof.Rows.callWith_type1 (PyProof.Rows.args_cons (thn (ha.run pins s σ H _ I h) fun v s1 ⟨x, H1, I1, r1, q1⟩ => PyProof.Rows.args_nil ?_) na) na rfl
  obtain ⟨l, ns, rfl, hq, hl, q1⟩ := q1
  cases r1
  obtain ⟨its, r, pl, hz⟩ := I1.tuple hq
  have hi : IntsAre its.toArray.toList ns := ints_of_vals r
  refine call_set_tupI ns (I1.ok.hd hc) (show s1.heap.IsTuple l its.toArray from pl) hi (by unfold scanBound; omega) fun h' tk c R1 hcn hk => PyProof.Rows.args_nil ?_
  obtain ⟨o, es, ep, t, ho, hex, hdt, g, nd, hm2, hb, hf, hn, hr, hl2⟩ := R1
  have hcc : c = (dedI ns).length := by
    have hp := (List.perm_ext_iff_of_nodup nd (nodup_dedI (l := ns))).mpr fun k => by rw [← hm2 k, decide_eq_true_eq, mem_dedI]
    have := hp.length_eq
    rw [List.length_map, Array.length_toList, hn] at this
    exact this
  have I2 : Inv X pins σ H1 { s1 with heap := h', toks := tk } := I1.kept hk
  exact call_len_set ho hex hdt hf (by rw [hn] <;> omega) ⟨.int (dedI ns).length, H1, I2.tok _, ⟨_, by rw [hn, hcc]⟩, q1⟩
def lenSetE (d : D) : Option D := d.asT.bind fun ds => (intsD ds).bind fun ns => if ns.length ≤ 1000 then some (.int ((dedI ns).length : Nat)) else none
theorem se_lensetE {m : ME} (hK : G.K = X.K) (h : PE X o (tLenSetE X.K (eB G m))) : PE X o (eE G (mOp1 lenSetE m)) := pe_imp h fun σ H Q ⟨F, M, ρ, S, hk, sl, d, S', e, q⟩ => by
  obtain ⟨d1, e1, e2⟩ := mOp1_some e
  refine ⟨F, M, ρ, S, hk, sl, d1, S', e1, fun v H' F' hk' le r => ?_⟩
  obtain ⟨ds, e3, e2⟩ := Option.bind_eq_some_iff.mp e2
  obtain ⟨ns, e4, e2⟩ := Option.bind_eq_some_iff.mp e2
  split at e2
  · rename_i hc
    cases e2
    obtain ⟨a, vs, rfl, hq, rl⟩ := BRep.untup hk' e3 r
    rw [intsD_map e4] at rl
    rw [Dv.repl_ints rl, hK] at hq
    exact ⟨a, ns, rfl, hq, hc, q _ _ _ hk' le (.int _)⟩
  · cases e2
theorem dedI_nodup : ∀ {l : List Int}, l.Nodup → dedI l = l
  | [], _ => rfl
  | p :: r, h => by
    have h' := List.nodup_cons.mp h
    unfold dedI
    rw [dedI_nodup h'.2, if_neg h'.1]
theorem lenSetE_nd {d x : D} (h : lenSetD d = some x) : lenSetE d = some x := by
  unfold lenSetD at h
  obtain ⟨ds, e1, h⟩ := Option.bind_eq_some_iff.mp h
  obtain ⟨ns, e2, h⟩ := Option.bind_eq_some_iff.mp h
  split at h
  · rename_i hc
    cases h
    unfold lenSetE
    rw [e1, Option.bind_some, e2, Option.bind_some, if_pos hc.2, dedI_nodup hc.1]
  · cases h
end
end Dv
namespace Dv
open PySem PySem.Spec PyProof.Rows L2

/-! ### a comprehension over the keys of an owned dict, its keys tuples: the dict is locked meanwhile -/
def keyV : Key → D
  | .inl i => .int i
  | .inr x => .str x
def keyT (k : List Key) : D := .tup (k.map keyV)
/-- the keys of the locked dict in the i-th slot -/
def mLKeys (i : Nat) : MA := fun ρ S => match ρ[i]? with
  | some (some (.own (.lT _ _ ds))) => if ds.length ≤ 1000000 ∧ ds.all (fun kv => decide (kv.1.length ≤ 1000000)) = true then some (ds.map fun kv => keyT kv.1, S) else none
  | _ => none
theorem repL_keyV {K : PySem.W.Frag} {F : Hp} : ∀ k : List Key, RepL K F (k.map kV) (k.map keyV)
  | [] => .nil
  | .inl i :: k => .cons (.int i) (repL_keyV k)
  | .inr x :: k => .cons (.str x) (repL_keyV k)
section
variable {G : Gh} {X : Cx}
theorem sc_lkeys {tg e : Expr} {i : Nat} (h : PE X e (tVar i)) : PI X tg e (iC G (mLKeys i)) :=
  pi_imp (pi_keys h) fun σ H R ⟨F, M, ρ, S, hk, sl, ds, S', e, q⟩ => by
    unfold mLKeys at e
    split at e
    · rename_i od us kvs hi
      split at e
      · rename_i hz
        cases e
        obtain ⟨u, ev, a, rfl, em⟩ := sl.at_ _ _ hi
        have key : ∀ {H F M S}, HeapOk G H F M S → (∃ w, M a = some (w, .lT od us kvs)) → H a = some (.frz od (.dT us)) := fun hk hm => by
          obtain ⟨w, hm⟩ := hm
          obtain ⟨_, _, o, eo, ro⟩ := hk.own _ _ _ hm
          cases ro with
          | lT r => exact eo
        obtain ⟨_, _, o, eo, ro⟩ := hk.own _ _ _ em
        cases ro with
        | lT r =>
          have hkeys := RepP.keys r
          have hlen : us.length = kvs.length := Paired.length r
          refine ⟨_, ev, a, od, rfl, .inr ⟨us, eo, ?_⟩⟩
          refine q _ H F (fun M' => ∃ w, M' a = some (w, .lT od us kvs)) hk (Same.refl F) ⟨_, em⟩ (fun A x hA => ⟨_, by rw [updO_ne (fun z => by rw [z, hA] at em; cases em)]; exact em⟩) ?_
          refine ⟨by rw [List.length_map, sizeLine_eq]; have := hz.1; omega, fun j H F M S hj hk le c => ?_, fun H F M S hk le c => ?_, fun j H x H' F M S hj hk le c y => ?_⟩
          · rw [List.length_map] at hj
            exact ⟨key hk c, by omega⟩
          · exact ⟨key hk c, by rw [List.length_map]; omega⟩
          · obtain ⟨rfl, k, v, p, e1, rfl, e2⟩ := y
            have e3 : kvs[j]?.map (·.1) = some k := by
              have z := congrArg (fun l => l[j]?) hkeys
              simp only [List.getElem?_map] at z
              rw [← z, e1]; rfl
            obtain ⟨kv, e4, rfl⟩ := Option.map_eq_some_iff.mp e3
            have hkl := of_decide_eq_true (List.all_eq_true.mp hz.2 kv (List.mem_of_getElem? e4))
            obtain ⟨hk2, le2⟩ := hk.adopt e2
            exact ⟨_, _, hk2, le2, by rw [List.getElem?_map, e4]; rfl, .mkTup upd_same (by rw [List.length_map, sizeLine_eq]; omega) (repL_keyV _)⟩
      · cases e
    · cases e
open Classical in
/-- the i-th slot's dict is locked while m runs; what m tells may not depend on where it lies -/
noncomputable def mLck (i : Nat) (m : ME) : ME := fun ρ S => match ρ[i]? with
  | some (some (.own (.dT ds))) => if h : ∃ r, ∀ od us, m (ρ.set i (some (.own (.lT od us ds)))) S = some r then some h.choose else none
  | _ => none
open Classical in
theorem mLck_of {i : Nat} {m : ME} {ρ : Lo} {S : Sg} {ds : List (List Key × D)} {r : D × Sg} (hi : ρ[i]? = some (some (.own (.dT ds)))) (h : ∀ od us, m (ρ.set i (some (.own (.lT od us ds)))) S = some r) : mLck i m ρ S = some r := by
  unfold mLck
  rw [hi]
  have hex : ∃ r, ∀ od us, m (ρ.set i (some (.own (.lT od us ds)))) S = some r := ⟨r, h⟩
  show (if h : _ then _ else none) = _
  rw [dif_pos hex]
  have z := hex.choose_spec { cls := .none } []
  rw [h] at z
  exact z.symm
theorem slots_relabel {K : PySem.W.Frag} {σ : L2.St} {ρ : Lo} {F : Hp} {M : OMap} {i : Nat} {a : Addr} {d d' : D} (sl : Slots K σ ρ F M) (hi : ρ[i]? = some (some (.own d))) (ev : σ[i]? = some (some (.ref a))) (em : M a = some (some i, d)) : Slots K σ (ρ.set i (some (.own d'))) F (updO M a (some i, d')) := ⟨by rw [List.length_set]; exact sl.len, fun j l h => by
  by_cases hij : i = j
  · subst hij
    rw [List.getElem?_set_self (List.getElem?_eq_some_iff.mp hi).1] at h
    cases h
    exact ⟨_, ev, a, rfl, updO_same⟩
  · rw [List.getElem?_set_ne hij] at h
    obtain ⟨v, e, r⟩ := sl.at_ _ _ h
    refine ⟨v, e, ?_⟩
    cases l with
    | imm d => exact r
    | own d2 =>
      obtain ⟨b, e2, m2⟩ := r
      refine ⟨b, e2, ?_⟩
      rw [updO_ne (fun z => by rw [z, em] at m2; cases m2; exact hij rfl)]
      exact m2⟩
theorem sf_lck {e : Expr} {i : Nat} {m : ME} (h : PE X e (eF G m)) : PE X e (eF G (mLck i m)) := pe_imp (pe_lock h) fun σ H Q ⟨F, M, ρ, S, hk, sl, d, S', e, q⟩ => by
  unfold mLck at e
  split at e
  · rename_i ds hi
    split at e
    · rename_i hex
      obtain ⟨u, ev, a, rfl, em⟩ := sl.at_ _ _ hi
      obtain ⟨_, _, o, eo, ro⟩ := hk.own _ _ _ em
      cases ro with
      | @dT us _ r =>
        refine ⟨a, .dT us, eo, trivial, fun od => ?_⟩
        have em1 := hex.choose_spec od us
        have hk1 := hk.write (w' := some i) (o := .frz od (.dT us)) (d' := .lT od us ds) em (.lT r)
        have sl1 := slots_relabel (d' := .lT od us ds) sl hi ev em
        have e := Option.some.inj e
        refine ⟨F, _, _, S, hk1, sl1, d, S', by rw [em1, e], fun a' H' F' hk' ha' le => ?_⟩
        have hne : a ≠ a' := fun z => by rw [← z, updO_same] at ha'; cases ha'
        have ema : (updO (updO M a (some i, .lT od us ds)) a' (none, d)) a = some (some i, .lT od us ds) := by rw [updO_ne hne]; exact updO_same
        obtain ⟨_, _, o2, eo2, ro2⟩ := hk'.own _ _ _ ema
        cases ro2 with
        | lT r2 =>
          refine ⟨eo2, ?_⟩
          have hk2 := hk'.write (w' := some i) (o := .dT us) (d' := .dT ds) ema (.dT r2)
          have eM : updO (updO (updO M a (some i, .lT od us ds)) a' (none, d)) a (some i, .dT ds) = updO M a' (none, d) := by
            funext b
            by_cases h1 : b = a
            · subst h1
              rw [updO_same, updO_ne hne]; exact em.symm
            · rw [updO_ne h1]
              by_cases h2 : b = a'
              · subst h2; rw [updO_same, updO_same]
              · rw [updO_ne h2, updO_ne h2, updO_ne h1]
          rw [eM] at hk2
          rw [updO_ne (fun z => hne z.symm)] at ha'
          exact q a' _ F' hk2 ha' le
    · cases e
  · cases e
end
end Dv
namespace Dv
open PySem PySem.Spec PyProof.Rows L2

/-! ### min(xs), a list of ints -/
def minI (n : Int) : List Int → Int
  | [] => n
  | m :: r => minI (if m < n then m else n) r
theorem minI_mem : ∀ (r : List Int) (n : Int), minI n r = n ∨ minI n r ∈ r
  | [], n => .inl rfl
  | m :: r, n => by
    unfold minI
    rcases minI_mem r (if m < n then m else n) with h | h
    · rw [h]
      split
      · exact .inr List.mem_cons_self
      · exact .inl rfl
    · exact .inr (List.mem_cons_of_mem _ h)
theorem minI_le : ∀ (r : List Int) (n : Int), minI n r ≤ n ∧ ∀ y ∈ r, minI n r ≤ y
  | [], n => ⟨Int.le_refl _, fun y h => nomatch h⟩
  | m :: r, n => by
    unfold minI
    obtain ⟨h1, h2⟩ := minI_le r (if m < n then m else n)
    have h3 : minI (if m < n then m else n) r ≤ n ∧ minI (if m < n then m else n) r ≤ m := by
      generalize minI (if m < n then m else n) r = z at h1
      by_cases h : m < n
      · rw [if_pos h] at h1; omega
      · rw [if_neg h] at h1; omega
    refine ⟨h3.1, fun y hy => ?_⟩
    rcases List.mem_cons.mp hy with rfl | hy
    · exact h3.2
    · exact h2 y hy
def minLD : List D → Option D
  | [.lst ds] => (intsD ds).bind fun ns => match ns with
    | [] => none
    | n :: r => some (.int (minI n r))
  | _ => none
section
variable {G : Gh}
theorem c_minL : CBE G (rMin G.K) minLD := fun vs ds d H F M S Q hk rl e q => by
  unfold minLD at e
  split at e
  · obtain ⟨bs, e1, e⟩ := Option.bind_eq_some_iff.mp e
    cases bs with
    | nil => cases e
    | cons n r =>
      cases e
      obtain ⟨v, rfl, rr⟩ := brl1 rl
      obtain ⟨a, us, rfl, hq, rl⟩ := rr.unlst hk
      have h := repL_ints rl e1
      subst h
      refine ⟨a, n :: r, rfl, .of hq, by simp, fun m hm hle => ?_⟩
      have em : m = minI n r := by
        obtain ⟨l1, l2⟩ := minI_le r n
        have a1 : minI n r ≤ m := by
          rcases List.mem_cons.mp hm with rfl | hm
          · exact l1
          · exact l2 m hm
        have a2 : m ≤ minI n r := by
          rcases minI_mem r n with z | z
          · rw [z]; exact hle n List.mem_cons_self
          · exact hle _ (List.mem_cons_of_mem _ z)
        omega
      rw [em]
      exact q _ H F hk (Same.refl F) (.int _)
  · cases e
end
end Dv
namespace Dv
open PySem PySem.Spec PyProof.Rows L2

/-! ### x.pop(k) and x.insert(k, y) as statements, the list owned -/
def rInsert : V → List V → Hp → VK → Prop := fun x vs H Q => ∃ (l : Addr) (xs : List V) (i : Int) (y : V), x = .ref l ∧ vs = [.int i, y] ∧ H l = some (.lst xs) ∧ xs.length < sizeLine ∧ 0 ≤ i ∧ i < 2 ^ 63 ∧
    Q .non (upd H l (.lst (xs.take i.toNat ++ [y] ++ xs.drop i.toNat)))
theorem mt_ins {X : Cx} : MtR X "list.insert" rInsert := mt_insert
section
variable {G : Gh} {X : Cx} {st : Stmt}
def sPopI (i : Nat) (m : ME) : MS := fun ρ S => match ρ[i]? with
  | some (some (.own (.lst ds))) => (m ρ S).bind fun p => match p.1 with
    | .int (.ofNat k) => if k < ds.length ∧ ds.length < 1000000 then some (.nx, ρ.set i (some (.own (.lst (ds.eraseIdx k)))), p.2) else none
    | _ => none
  | _ => none
theorem ss_popI {i : Nat} {m : ME} (h : PS X st (tDrop (tBM G.K "list" rPopAt (tVar i) (tCons (eE G m) tNil)))) : PS X st (sS G (sPopI i m)) := ps_imp h fun D σ H ⟨F, M, ρ, S, hk, sl, fl, ρ', S', e, q⟩ => by
  unfold sPopI at e
  split at e
  · rename_i ds hi
    obtain ⟨⟨d, S1⟩, e1, e⟩ := Option.bind_eq_some_iff.mp e
    dsimp only at e
    split at e
    · rename_i k
      split at e
      · rename_i hc
        cases e
        obtain ⟨v, ev, x, rfl, em⟩ := sl.at_ _ _ hi
        obtain ⟨_, _, oo, eo, ro⟩ := hk.own _ _ _ em
        cases ro with
        | lst _ r =>
          refine ⟨_, ev, .inl ⟨rfl, _, .of eo⟩, F, M, ρ, S, hk, sl, _, _, e1, fun w H1 F1 hk1 le1 ry => ?_⟩
          obtain ⟨_, _, oo, eo, ro⟩ := hk1.own _ _ _ em
          cases ry
          cases ro with
          | @lst us _ hz r =>
            have hl := Paired.length r
            obtain ⟨y, ey⟩ : ∃ y, ds[k]? = some y := ⟨ds[k]'hc.1, List.getElem?_eq_getElem hc.1⟩
            obtain ⟨u, eu, ru⟩ := paired_get' r ey
            have hk63 : (k : Int) < 2 ^ 63 := by have := hc.1; have := hc.2; omega
            refine ⟨x, us, (k : Int), k, u, rfl, rfl, eo, by omega, hk63, seqIx_nat (by rw [hl]; exact hc.1), eu, ?_⟩
            exact q _ F1 _ (hk1.write (w' := some i) (o := .lst (us.eraseIdx k)) (d' := .lst (ds.eraseIdx k)) em (.lst (by rw [List.length_eraseIdx]; split <;> omega) (paired_erase k r))) le1 _ (slots_write (sl.mono le1) hi ev em)
      · cases e
    · cases e
  · cases e
def sIns (i : Nat) (m n : ME) : MS := fun ρ S => match ρ[i]? with
  | some (some (.own (.lst ds))) => (m ρ S).bind fun p => match p.1 with
    | .int (.ofNat k) => (n ρ p.2).bind fun r => if k ≤ 1000000 ∧ ds.length < 1000000 then some (.nx, ρ.set i (some (.own (.lst (ds.take k ++ [r.1] ++ ds.drop k)))), r.2) else none
    | _ => none
  | _ => none
theorem ss_ins {i : Nat} {m n : ME} (h : PS X st (tDrop (tBM G.K "list" rInsert (tVar i) (tCons (eE G m) (tCons (eE G n) tNil))))) : PS X st (sS G (sIns i m n)) := ps_imp h fun D σ H ⟨F, M, ρ, S, hk, sl, fl, ρ', S', e, q⟩ => by
  unfold sIns at e
  split at e
  · rename_i ds hi
    obtain ⟨⟨d, S1⟩, e1, e⟩ := Option.bind_eq_some_iff.mp e
    dsimp only at e
    split at e
    · rename_i k
      obtain ⟨⟨d2, S2⟩, e2, e⟩ := Option.bind_eq_some_iff.mp e
      split at e
      · rename_i hc
        cases e
        obtain ⟨v, ev, x, rfl, em⟩ := sl.at_ _ _ hi
        obtain ⟨_, _, oo, eo, ro⟩ := hk.own _ _ _ em
        cases ro with
        | lst _ r =>
          refine ⟨_, ev, .inl ⟨rfl, _, .of eo⟩, F, M, ρ, S, hk, sl, _, _, e1, fun w H1 F1 hk1 le1 rw' => ?_⟩
          cases rw'
          refine ⟨F1, M, ρ, S1, hk1, sl.mono le1, d2, S2, e2, fun y H2 F2 hk2 le2 ry => ?_⟩
          obtain ⟨_, _, oo, eo, ro⟩ := hk2.own _ _ _ em
          cases ro with
          | @lst us _ hz r =>
            have hl := Paired.length r
            have hk63 : (k : Int) < 2 ^ 63 := by have := hc.1; omega
            refine ⟨x, us, (k : Int), y, rfl, rfl, eo, by rw [hl]; exact line1e6 hc.2, by omega, hk63, ?_⟩
            have hn : (k : Int).toNat = k := by omega
            rw [hn]
            have le := le1.trans le2
            exact q _ F2 _ (hk2.write (w' := some i) (o := .lst (us.take k ++ [y] ++ us.drop k)) (d' := .lst (ds.take k ++ [d2] ++ ds.drop k)) em (.lst (by
              have hz : ds.length < 1000000 := hc.2
              refine Nat.le_of_lt_succ (Nat.lt_of_le_of_lt (?_ : _ ≤ ds.length + 1) (Nat.succ_lt_succ (line1e6 hz)))
              rw [List.length_append, List.length_append, List.length_take, List.length_drop, List.length_singleton]
              omega) (paired_app (paired_app (paired_take k r) (.cons ry .nil)) (paired_drop k r)))) le _ (slots_write (sl.mono le) hi ev em)
      · cases e
    · cases e
  · cases e
end
/-- the promise of a def that answers nothing -/
theorem fnok_none {P : Program} {w : World} {K : PySem.W.Frag} {mg : Str → Option Value} {base : Heap} {k : Nat} {f : Addr} {fd : FuncData} {ps : List Str} : FnOk P w K mg base CX0 k f fd ps (spR K fun _ _ => none) :=
  ⟨fun _ _ _ _ h => (by obtain ⟨_, _, _, _, _, _, _, _, e, _⟩ := h; cases e), fun _ _ _ _ _ _ _ _ _ _ _ _ _ h => (by obtain ⟨_, _, _, _, _, _, _, _, e, _⟩ := h; cases e)⟩
end Dv
namespace Dv
open PySem PySem.Spec PyProof.Rows L2
/-! ### list(a text) -/
section
variable {X : Cx}
theorem vals_signs {a : Str} {acc : Array Value} (h : ItemsOf (SignAt a) acc a.cps.size) : Vals ((signs a).map V.str) acc.toList := by
  have hl : (signs a).length = a.cps.size := by unfold signs; rw [List.length_map]; simp
  refine vals_of_at (by rw [List.length_map, hl]; simp [h.1]) fun j x u h1 h2 => ?_
  obtain ⟨c, t, hc, rfl⟩ := h.2 j u (by rw [← Array.getElem?_toList]; exact h2)
  have e : ((signs a).map V.str)[j]? = some (.str ⟨#[c]⟩) := by
    unfold signs
    rw [List.map_map, List.getElem?_map]
    have : a.cps.toList[j]? = some c := by rw [Array.getElem?_toList]; exact hc
    rw [this]; rfl
  rw [e] at h1
  cases h1
  exact ⟨t, rfl⟩
theorem call_list_txt (hc : X.calm = true) : CallR X (.type "list") (fun xs H Q => ∃ a : Str, xs = [.str a] ∧ a.cps.size ≤ sizeLine ∧ ∀ l, H l = none → Q (.ref l) (upd H l (.lst ((signs a).map V.str)))) := by
  intro pins s σ H xs us Q I r h
  obtain ⟨a, rfl, hz, q⟩ := h
  obtain ⟨u, rfl, t, rfl⟩ := vals1 r
  refine call_list_str (I.ok.hd hc) a t (fun h' tk acc' c' kp e hit => ?_) hz
  refine ⟨.ref s.heap.objs.size, _, I.laid (t' := tk) kp (Nat.le_refl _) (show ObjOk X.prog X.w _ h' _ (.lst ((signs a).map V.str)) from ⟨?_, acc'.toList, c', vals_signs hit, ?_⟩), rfl, q _ (I.hok.fresh (Nat.le_refl _))⟩
  · rw [List.length_map]; unfold signs; rw [List.length_map]; simpa using hz
  · rw [Array.toArray_toList]; exact e
/-! ### a text times an int -/
def repS (a : Str) (n : Nat) : Str := ⟨(List.replicate n a.cps).foldl (· ++ ·) #[]⟩
theorem op_mulStr : OpR X (binaryOp .Mult) (fun x y H Q => ∃ (a : Str) (n : Nat), x = .str a ∧ y = .int (n : Int) ∧ n ≤ 1000 ∧ a.length ≤ 1000 ∧ Q (.str (repS a n)) H) := by
  intro pins s σ H x y v u Q I rx ry h
  obtain ⟨a, n, rfl, rfl, hn, ha, q⟩ := h
  obtain ⟨t, rfl⟩ := rx
  obtain ⟨t2, rfl⟩ := ry
  refine P.mul_str (x := a) (n := (n : Int)) (t := t) (u := t2) ?_ (fun h1 _ => ?_) (fun _ _ => ?_) ?_
  · have h1 : ¬ (n : Int) < -(2 ^ 63 : Int) := by omega
    have h2 : ¬ (n : Int) ≥ 2 ^ 63 := by omega
    rw [decide_eq_false h1, decide_eq_false h2]; rfl
  · have h0 : 0 < (n : Int) := by omega
    have : (1000 : Int) ≤ (2 ^ 63 - 1) / (n : Int) := by
      refine (Int.le_ediv_iff_mul_le h0).mpr ?_
      omega
    omega
  · have h3 : a.length * (n : Int).toNat ≤ 1000 * 1000 := Nat.mul_le_mul ha (by omega)
    show decide (_ > sizeLine) = false
    rw [sizeLine_eq]
    exact decide_eq_false (by omega)
  · by_cases h1 : (n : Int) < 1
    · rw [if_pos h1]
      have : n = 0 := by omega
      subst this
      exact ⟨by decide, .str _, H, I.tok _, ⟨_, rfl⟩, q⟩
    · rw [if_neg h1]
      by_cases h2 : ((n : Int) == 1 || a.length == 0) = true
      · rw [if_pos h2]
        have e : repS a n = a := by
          rw [Bool.or_eq_true, beq_iff_eq, beq_iff_eq] at h2
          unfold repS
          rcases h2 with h2 | h2
          · have : n = 1 := by omega
            subst this
            show (⟨#[] ++ a.cps⟩ : Str) = a
            rw [Array.empty_append]
          · have h3 : a.cps = #[] := Array.eq_empty_of_size_eq_zero h2
            have h4 : ∀ k, (List.replicate k a.cps).foldl (· ++ ·) #[] = #[] := fun k => by
              rw [h3]
              induction k with
              | zero => rfl
              | succ k ih => rw [List.replicate_succ, List.foldl_cons, Array.empty_append]; exact ih
            rw [h4]
            cases a
            simp only at h3
            rw [h3]
        rw [e] at q
        exact ⟨.str a, H, I, ⟨t, rfl⟩, q⟩
      · rw [if_neg h2]
        have h3 : a.length * (n : Int).toNat ≤ 1000 * 1000 := Nat.mul_le_mul ha (by omega)
        refine ⟨fits_reps ?_, .str _, H, I.tok _, ⟨_, rfl⟩, q⟩
        show decide (_ > sizeLine) = false
        rw [sizeLine_eq]
        exact decide_eq_false (by omega)
/-! ### sorted(a tuple of texts) -/
variable {prog : Program} {w : World} {A : Around} {E : Value → Shared → Prop} {s : Shared}
theorem sorted_tupS {l : Addr} {vs : List Value} {ss : List Str} {Q : Value → Shared → Prop} (hl : s.heap.IsTuple l vs.toArray) (hS : StrsAre vs ss) (hz : vs.length ≤ sizeLine)
    (h : ∀ (out : Array Value) (ss' : List Str), StrsAre out.toList ss' → ss'.Perm ss → sortedS ss' = true → Q (.ref (s.heap.objs.size + 1)) { s with heap := sortedAll s.heap vs out }) :
    wpAny (model prog w) A (call (.builtin "sorted") [.ref l]) Q E s := by
  refine Calls.call_function_entry PyProof.Rows.kind_sorted PyProof.Rows.plain_sorted PyProof.Rows.entry_sorted (PyProof.Rows.args_sorted1 _) ?_
  unfold Builtin.«sorted»
  refine wpAny_bind (m := checkCount "sorted" 1 1 _) (wpAny_pure ?_)
  refine wpAny_bind (collect_tupI hl hz ?_)
  refine wpAny_bind (wpAny_newList ?_ hz)
  generalize hh : (s.heap.push (seqObj "list" #[] 0)).update s.heap.objs.size (Obj.mapSeq (· ++ vs.toArray)) = h1
  have z1 : h1.objs.size = s.heap.objs.size + 1 := by rw [← hh, Heap.size_update, size_push']
  have o1 : (h1.push (seqObj "list" vs.toArray 0)).get? (s.heap.objs.size + 1) = some (seqObj "list" vs.toArray 0) := by
    rw [← z1]; exact Heap.get?_push_size _ rfl
  show wpAny _ _ _ _ _ { s with heap := h1.push (seqObj "list" vs.toArray 0) }
  rw [z1]
  refine wpAny_bind (wpAny_holding (wpAny_call_entry slot_list_sort ⟨_, o1, rfl⟩ entry_list_sort (list_sort_treeKAny strKind_oneLt o1 hS.keysOf (fun v₁ v₂ rest e => keyKind_strs (by rw [← e]; exact hS)) hz fun st' hp hs => ⟨_, rfl, ?_⟩) (args_list_sort _)))
  refine wpAny_pure ⟨_, rfl, ?_⟩
  obtain ⟨ss', b1, b2, b3⟩ := sorted_out_str hS hp hs
  have := h _ ss' b1 b2 b3
  unfold sortedAll at this
  rw [hh] at this
  exact this
def rSortStr (K : PySem.W.Frag) : List V → Hp → VK → Prop := fun vs H Q => ∃ (a : Addr) (ns : List Str), vs = [V.ref a] ∧ (SqL K H a (ns.map V.str) ∨ SqT K H a (ns.map V.str)) ∧
  ∀ (ns' : List Str) (p : Addr), ns'.Perm ns → sortedS ns' = true → H p = none → Q (.ref p) (upd H p (.lst (ns'.map V.str)))
theorem cr_sortStr : CallR X (.builtin "sorted") (rSortStr X.K) := by
  intro pins s σ H vs us Q I r h
  obtain ⟨a, ns, rfl, hs, q⟩ := h
  rw [Vals.ref1 r]
  have fin : ∀ (its : List Value), Vals (ns.map V.str) its → its.length ≤ sizeLine → ∀ (out : Array Value) (ss' : List Str), StrsAre out.toList ss' → ss'.Perm ns → sortedS ss' = true → EP X pins σ Q (.ref (s.heap.objs.size + 1)) { s with heap := sortedAll s.heap its out } := fun its rv hz out ss' a1 a2 a3 => by
    obtain ⟨n, e⟩ := PyProof.Rows.sortedAll_at s.heap its out
    have hlen : (ss'.map V.str).length ≤ sizeLine := by
      rw [List.length_map, a2.length_eq]
      have := rv.length
      rw [List.length_map] at this
      omega
    exact ⟨.ref _, upd H (s.heap.objs.size + 1) (.lst (ss'.map V.str)), I.laid (t' := s.toks) (fun _ _ => PyProof.Rows.sortedAll_old) (Nat.le_succ _) ⟨hlen, out.toList, n, vals_of_strs a1, e⟩, rfl, q _ _ a2 a3 (I.hok.fresh (Nat.le_succ _))⟩
  rcases hs with hs | hs
  · obtain ⟨its, rv, hl, hz⟩ := I.list hs
    have hz2 : its.length ≤ sizeLine := by rw [← rv.length]; exact hz
    exact PyProof.Rows.sorted_strsAny hl.isList rv.strs hz2 (fin its rv hz2)
  · obtain ⟨its, rv, pl, hz⟩ := I.tuple hs
    have hz2 : its.length ≤ sizeLine := by rw [← rv.length]; exact hz
    exact sorted_tupS pl rv.strs hz2 (fin its rv hz2)
end
/-! ### in data -/
def strsD : List D → Option (List Str)
  | [] => some []
  | .str z :: r => (strsD r).map (z :: ·)
  | _ => none
theorem strsD_map : ∀ {ds : List D} {ns : List Str}, strsD ds = some ns → ds = ns.map D.str
  | [], ns, h => by cases h; rfl
  | d :: r, ns, h => by
    cases d with
    | str i =>
      obtain ⟨m, h1, h2⟩ := Option.map_eq_some_iff.mp h
      subst h2
      rw [strsD_map h1]; rfl
    | _ => cases h
theorem strsD_of (ns : List Str) : strsD (ns.map D.str) = some ns := by
  induction ns with
  | nil => rfl
  | cons n r ih => show (strsD (r.map D.str)).map (n :: ·) = _; rw [ih]; rfl
theorem repl_strs {K : PySem.W.Frag} {F : Hp} : ∀ {ns : List Str} {vs : List V}, RepL K F vs (ns.map D.str) → vs = ns.map V.str
  | [], _, .nil => rfl
  | n :: r, _, .cons h t => by cases h; rw [repl_strs t]; rfl
section
variable {G : Gh} {X : Cx} {o e a b : Expr} {pos : Pos}
theorem rep_strs {F : Hp} : ∀ ns : List Str, RepL G.K F (ns.map V.str) (ns.map .str)
  | [] => .nil
  | n :: ns => .cons (.str n) (rep_strs ns)
def listSD : List D → Option D
  | [.str z] => if z.cps.size ≤ 1000 then some (.lst ((signs z).map .str)) else none
  | _ => none
theorem c_listS : CBF G (fun xs H Q => ∃ a : Str, xs = [.str a] ∧ a.cps.size ≤ sizeLine ∧ ∀ l, H l = none → Q (.ref l) (upd H l (.lst ((signs a).map V.str)))) listSD := fun vs ds d H F M S Q hk rl e q => by
  unfold listSD at e
  split at e
  · split at e
    · rename_i z hz
      cases e
      obtain ⟨v, rfl, r⟩ := brl1 rl
      obtain rfl : v = .str z := by
        rcases r with r | ⟨a, w, rfl, m⟩
        · cases r; rfl
        · obtain ⟨_, _, _, _, ro⟩ := hk.own _ _ _ m
          cases ro
      have hs : z.cps.size ≤ sizeLine := by rw [sizeLine_eq]; omega
      refine ⟨z, rfl, hs, fun p hp => q p _ F (hk.laidO hp (.lst ?_ (rep_strs _))) (hk.mnone hp) (Same.refl F)⟩
      rw [List.length_map]; unfold signs; rw [List.length_map]; simpa using hs
    · cases e
  · cases e
end
end Dv
namespace Dv
open PySem PySem.Spec PyProof.Rows L2
/-! ### texts in order -/
def leS (x y : Str) : Bool := !ltCps y.cps.toList x.cps.toList
theorem leS_iff {x y : Str} : leS x y = true ↔ x.cps.toList ≤ y.cps.toList := by
  unfold leS
  rw [ltCps_eq, Bool.not_eq_true', decide_eq_false_iff_not]
  exact List.not_lt
theorem leS_trans {x y z : Str} (h1 : leS x y = true) (h2 : leS y z = true) : leS x z = true := leS_iff.mpr (List.le_trans (leS_iff.mp h1) (leS_iff.mp h2))
theorem leS_total (x y : Str) : (leS x y || leS y x) = true := by
  rw [Bool.or_eq_true, leS_iff, leS_iff]
  exact List.le_total _ _
theorem leS_anti {x y : Str} (h1 : leS x y = true) (h2 : leS y x = true) : x = y := by
  have := List.le_antisymm (leS_iff.mp h1) (leS_iff.mp h2)
  exact Str.ext' (Array.toList_inj.mp this)
def sortS (ns : List Str) : List Str := ns.mergeSort leS
theorem sortS_perm (ns : List Str) : (sortS ns).Perm ns := List.mergeSort_perm _ _
theorem sortS_le (ns : List Str) : (sortS ns).Pairwise (fun x y => leS x y = true) := List.pairwise_mergeSort (le := leS) (fun _ _ _ h1 h2 => leS_trans h1 h2) leS_total ns
theorem pw_of_rising : ∀ (l : List Str) (p : Str), risingS p l = true → (p :: l).Pairwise (fun x y => leS x y = true)
  | [], p, _ => List.pairwise_singleton _ _
  | x :: r, p, h => by
    have h : (!ltCps x.cps.toList p.cps.toList && risingS x r) = true := h
    rw [Bool.and_eq_true] at h
    have ih := pw_of_rising r x h.2
    have h1 : leS p x = true := h.1
    refine List.pairwise_cons.mpr ⟨fun y hy => ?_, ih⟩
    rcases List.mem_cons.mp hy with z | z
    · subst z; exact h1
    · exact leS_trans h1 ((List.pairwise_cons.mp ih).1 y z)
theorem pw_of_sortedS {l : List Str} (h : sortedS l = true) : l.Pairwise (fun x y => leS x y = true) := by
  cases l with
  | nil => exact .nil
  | cons p r => exact pw_of_rising r p h
theorem sortS_eq {xs ns : List Str} (h : xs.Perm ns) (s : xs.Pairwise (fun x y => leS x y = true)) : xs = sortS ns :=
  List.Perm.eq_of_pairwise (le := fun x y => leS x y = true) (fun _ _ _ _ h1 h2 => leS_anti h1 h2) s (sortS_le ns) (h.trans (sortS_perm ns).symm)
section
variable {G : Gh} {X : Cx} {o e a b : Expr} {pos : Pos}
/-- the items, all texts -/
def sItems (d : D) : Option (List Str) := (itemsD d).bind strsD
def sortSD : List D → Option D
  | [d] => (sItems d).map fun ns => .lst ((sortS ns).map .str)
  | _ => none
theorem c_sortS : CBF G (rSortStr G.K) sortSD := fun vs ds d H F M S Q hk rl e q => by
  unfold sortSD at e
  split at e
  · rename_i x
    obtain ⟨ns, e1, rfl⟩ := Option.map_eq_some_iff.mp e
    obtain ⟨xs, e0, e2⟩ := Option.bind_eq_some_iff.mp e1
    obtain ⟨v, rfl, r⟩ := brl1 rl
    have hz := r.size hk (items_cases e0)
    obtain ⟨a, us, rfl, hs, ru⟩ := r.items hk e0
    rw [strsD_map e2] at ru hz
    rw [List.length_map] at hz
    rw [repl_strs ru] at hs
    refine ⟨a, ns, rfl, hs, fun ns' p hpm hpw hpn => ?_⟩
    rw [sortS_eq hpm (pw_of_sortedS hpw)]
    refine q p _ _ (hk.laidO hpn (.lst ?_ (rep_strs _))) (hk.mnone hpn) (Same.refl F)
    rw [List.length_map, (sortS_perm ns).length_eq]; exact hz
  · cases e
/-! ### a text times an int -/
def mulSD : D → D → Option D
  | .str z, .int (.ofNat n) => if n ≤ 1000 ∧ z.length ≤ 1000 then some (.str (repS z n)) else none
  | _, _ => none
theorem brep_str {H F : Hp} {M : OMap} {S : Sg} {v : V} {z : Str} (hk : HeapOk G H F M S) (r : BRep G.K F M v (.str z)) : v = .str z := by
  rcases r with r | ⟨a, w, rfl, m⟩
  · cases r; rfl
  · obtain ⟨_, _, _, _, ro⟩ := hk.own _ _ _ m
    cases ro
theorem brep_int {H F : Hp} {M : OMap} {S : Sg} {v : V} {i : Int} (hk : HeapOk G H F M S) (r : BRep G.K F M v (.int i)) : v = .int i := by
  rcases r with r | ⟨a, w, rfl, m⟩
  · cases r; rfl
  · obtain ⟨_, _, _, _, ro⟩ := hk.own _ _ _ m
    cases ro
theorem r_mulStr : R2E G (fun x y H Q => ∃ (a : Str) (n : Nat), x = .str a ∧ y = .int (n : Int) ∧ n ≤ 1000 ∧ a.length ≤ 1000 ∧ Q (.str (repS a n)) H) mulSD := fun x y d1 d2 d H F M S Q hk r1 r2 e q => by
  unfold mulSD at e
  split at e
  · rename_i z n
    split at e
    · rename_i hc
      cases e
      exact ⟨z, n, brep_str hk r1, brep_int hk r2, hc.1, hc.2, q _ _ _ hk (Same.refl F) (.str _)⟩
    · cases e
  · cases e
theorem se_mulStr {ma mb : ME} (ha : PE X a (eB G ma)) (hb : PE X b (eB G mb)) : PE X (.BinOp a .Mult b pos) (eE G (mOp2 mulSD ma mb)) := se_bin op_mulStr r_mulStr ha hb
/-! ### a text joins texts -/
def joinD : D → D → Option D
  | .str z, x => (sItems x).bind fun ss => if (ss.map (·.length)).sum + ss.length * z.length ≤ 16777216 then some (.str (Txt.join z ss)) else none
  | _, _ => none
theorem se_join {ma mb : ME} {apos : Pos} (hK : G.K = X.K) (ha : PE X o (eB G ma)) (hb : PE X e (eB G mb)) (hs : starEach [e] X.env = [(false, eval e X.env)] := by rfl) (hbase : attributeBase o "join" X.env (eval o X.env) = eval o X.env := by rfl) (hline : (apos.endLine == pos.line) = true := by rfl) :
    PE X (.Call (.Attribute o "join" apos) [e] [] pos) (eE G (mOp2 joinD ma mb)) :=
  pe_imp (pe_join ha hb hs hbase hline) fun σ H Q ⟨F, M, ρ, S, hk, sl, d, S', e, q⟩ => by
    obtain ⟨d1, S1, d2, e1, e2, e3⟩ := mOp2_some e
    unfold joinD at e3
    split at e3
    · rename_i z
      obtain ⟨ss, ess, e3⟩ := Option.bind_eq_some_iff.mp e3
      split at e3
      · rename_i hz
        cases e3
        refine ⟨F, M, ρ, S, hk, sl, _, S1, e1, fun x H1 F1 hk1 le1 r1 => ?_⟩
        obtain rfl := brep_str hk1 r1
        refine ⟨⟨z, rfl⟩, F1, M, ρ, S1, hk1, sl.mono le1, d2, S', e2, fun y H2 F2 hk2 le2 r2 => ?_⟩
        obtain ⟨xs, e0, es⟩ := Option.bind_eq_some_iff.mp ess
        obtain ⟨p, us, rfl, hq, ru⟩ := r2.items hk2 e0
        rw [strsD_map es] at ru
        rw [repl_strs ru, hK] at hq
        exact ⟨z, p, ss, rfl, rfl, hq, hz, q _ _ _ hk2 (le1.trans le2) (.str _)⟩
      · cases e3
    · cases e3
end
end Dv
namespace Dv
open PySem PySem.Spec PyProof.Rows L2

/-! ### exact tuples: made by the program, without a dict -/
abbrev Xt (ob : Obj) : Prop := ob.cls = .type "tuple" ∧ ob.dict = none
section
variable {X : Cx} {pins : List (Addr × Obj)} {σ : L2.St} {H : Hp} {s : Shared}
theorem laid_tupX {vs : List V} {us : List Value} {Q : VK} {k n : Nat} {sl : Array (Option Value)} (I : Inv X pins σ H s) (r : Vals vs us) (hz : vs.length ≤ sizeLine) (h : ∀ q ob, H q = none → Xt ob → Q (.ref q) (upd H q (.frz ob (.tup vs)))) :
    EP X pins σ Q (.ref s.heap.objs.size) { s with toks := k, heap := s.heap.push { cls := .type "tuple", dict := none, data := .seq us.toArray n, slots := sl } } := by
  have hp := I.hok.fresh (Nat.le_refl _)
  exact ⟨.ref s.heap.objs.size, upd H s.heap.objs.size (.frz { cls := .type "tuple", dict := none, data := .seq us.toArray n, slots := sl } (.tup vs)), I.laid (fun b u q => Heap.get?_push_of_some _ q) (Nat.le_refl _) ⟨Heap.get?_push_size _ rfl, hz, us, r, ⟨_, Heap.get?_push_size _ rfl, rfl, _, rfl⟩⟩, rfl, h _ _ hp ⟨rfl, rfl⟩⟩
end
def tTupX (t : TA) : TE := fun σ H Q => t σ H fun xs H1 => xs.length ≤ sizeLine ∧ ∀ p ob, H1 p = none → Xt ob → Q (.ref p) (upd H1 p (.frz ob (.tup xs)))
section
variable {X : Cx} {e : Expr} {es : List Expr} {te : TE} {t : TA} {pos : Pos}
theorem pe_tupX {x1} (h : PA X es t) : PE X (.Tuple es x1 pos) (tTupX t) := by
  refine ⟨fun pins s σ H Q I hq => ?_⟩
  refine wpAny_Tuple_spliced (thn (h.run pos pins s σ H _ I hq) fun us s1 ⟨xs, H1, I1, r, z, q⟩ => ⟨by rw [← r.length]; exact z, ?_⟩)
  exact laid_tupX (k := s1.toks) I1 r z q
theorem call_tupleX : CallR X (.type "tuple") (fun xs H Q => ∃ p ys, xs = [.ref p] ∧ ((SqL X.K H p ys ∧ ∀ l ob, H l = none → Xt ob → Q (.ref l) (upd H l (.frz ob (.tup ys)))) ∨ (SqT X.K H p ys ∧ Q (.ref p) H))) := by
  intro pins s σ H xs us Q I r h
  obtain ⟨p, ys, rfl, h⟩ := h
  obtain ⟨u, rfl, rx⟩ := vals1 r
  cases rx
  rcases h with ⟨hq, q⟩ | ⟨hq, q⟩
  · obtain ⟨its, r', pl, hz⟩ := I.list hq
    have hlen := r'.length
    refine call_tuple_list pl.isList (fun h' kp => ?_) (by simp only [List.size_toArray] <;> omega)
    have I1 : Inv X pins σ H { s with heap := h' } := I.kept (t' := s.toks) kp
    exact laid_tupX (k := s.toks) I1 r' hz q
  · obtain ⟨its, r', pl, hz⟩ := I.tuple hq
    exact call_tuple_same pl ⟨.ref p, H, I, rfl, q⟩
def rCatX (K : PySem.W.Frag) : R2 := fun x y H Q => ∃ a b xs ys, x = .ref a ∧ y = .ref b ∧ SqT K H a xs ∧ SqT K H b ys ∧ xs ≠ [] ∧ ys ≠ [] ∧ xs.length + ys.length ≤ sizeLine ∧
  ∀ p ob, H p = none → Xt ob → Q (.ref p) (upd H p (.frz ob (.tup (xs ++ ys))))
theorem op_catX : OpR X (binaryOp .Add) (rCatX X.K) := by
  intro pins s σ H x y v u Q I rx ry h
  obtain ⟨a, b, xs, ys, rfl, rfl, ha, hb, hx, hy, hz, q⟩ := h
  cases rx
  cases ry
  obtain ⟨its, r1, p1, _⟩ := I.tuple ha
  obtain ⟨its2, r2, p2, _⟩ := I.tuple hb
  refine HT.cat_tup p1 p2 (fun z => hx (r1.nil_iff.mp z)) (fun z => absurd (r2.nil_iff.mp z) hy) (fun z => ?_) (by rw [← r1.length, ← r2.length]; exact hz)
  exact laid_tupX (k := s.toks) I (r1.append r2) (by rw [List.length_append]; exact hz) q
end
section
variable {X : Cx} {G : Gh} {o a b e : Expr} {es : List Expr} {pos : Pos}
def tRevTupX (K : PySem.W.Frag) (te : TE) : TE := fun σ H Q => te σ H fun x H1 => ∃ a xs, x = .ref a ∧ SqT K H1 a xs ∧ ∀ p ob, H1 p = none → Xt ob → Q (.ref p) (upd H1 p (.frz ob (.tup xs.reverse)))
theorem pe_revTupX {e : Expr} {te : TE} {k : Nat} {p1 p2 p3 pos : Pos} (he : PE X e te) : PE X (.Subscript e (.Slice none none (some (.UnaryOp .USub (.Constant (.int 1) k p1) p2)) p3) pos) (tRevTupX X.K te) := by
  refine ⟨fun pins s σ H Q I h => ?_⟩
  refine Subscript_ (thn (he.run pins s σ H _ I h) fun v s1 ⟨x, H1, I1, r1, q1⟩ => ?_)
  obtain ⟨a, xs, ex, hx, q⟩ := q1
  subst ex
  cases r1
  have hst : PO X (some (.UnaryOp .USub (.Constant (.int 1) k p1) p2)) (tPart (tUn (rU fun i => .int (-i)) (tC (.int 1)))) := po_some (pe_un un_neg pe_int)
  refine wpAny_Slice (thn (po_none.run pins s1 σ H1 (fun o H2 => o = none ∧ H2 = H1) I1 ⟨rfl, rfl⟩) fun vl s2 ⟨l, H2, I2, pl, el, e2⟩ => ?_)
  subst el e2
  refine thn (po_none.run pins s2 σ H2 (fun o H3 => o = none ∧ H3 = H2) I2 ⟨rfl, rfl⟩) fun vu s3 ⟨u, H3, I3, pu, eu, e3⟩ => ?_
  subst eu e3
  refine thn (hst.run pins s3 σ H3 (fun o H4 => o = some (-1) ∧ H4 = H3) I3 ⟨1, rfl, -1, rfl, rfl, rfl⟩) fun vs s4 ⟨o, H4, I4, ps, eo, e4⟩ => ?_
  subst eo e4
  have I5 : Inv X pins σ H4 { s4 with heap := s4.heap.push { cls := .type "slice", data := .fields #[vl, vu, vs] } } := I4.kept (t' := s4.toks) fun b ob q => Heap.get?_push_of_some _ q
  obtain ⟨its, r, ht, hz⟩ := I5.tuple hx
  have hlen := r.length
  show wpAny (model X.prog X.w) X.A (subscriptTail e (.Slice none none (some (.UnaryOp .USub (.Constant (.int 1) k p1) p2)) p3) (.ref a) (.ref s4.heap.objs.size)) (EP X pins σ Q) X.xe { s4 with heap := s4.heap.push { cls := .type "slice", data := .fields #[vl, vu, vs] } }
  refine tail_any (ops := [.ref a, .ref s4.heap.objs.size]) ht.typeIs (PyProof.Rows.slot_tuple_getitem.lookup) ?_ (by with_unfolding_all rfl)
  refine getItem_tuple_back ht (Heap.IsSliceOf.new _ vl vu vs) pl pu ps ?_ (by rw [List.size_toArray]; omega)
  exact laid_tupX (k := s4.toks) I5 r.reverse (by rw [List.length_reverse]; exact hz) q
/-! #### as data -/
theorem mkX {K : PySem.W.Frag} {H F F1 : Hp} {G : Gh} {M : OMap} {S : Sg} {p : Addr} {ob : Obj} {vs : List V} {ds : List D} (hn : F p = none) (x : Xt ob) (hz : ds.length ≤ sizeLine) (r : RepL K F vs ds) : Rep K (upd F p (.frz ob (.tup vs))) (.ref p) (.tx ds) :=
  .mkTx upd_same x hz (RepL.mono (le_upd hn) r)
def mTupX (m : MA) : ME := fun ρ S => (m ρ S).bind fun p => if p.1.length ≤ 4096 then some (.tx p.1, p.2) else none
theorem se_tupX {m : MA} {x1} (h : PA X es (eA G m)) : PE X (.Tuple es x1 pos) (eE G (mTupX m)) := pe_imp (pe_tupX h) fun σ H Q ⟨F, M, ρ, S, hk, sl, d, S', e, q⟩ => by
  obtain ⟨⟨ds, S1⟩, e1, e⟩ := Option.bind_eq_some_iff.mp e
  split at e
  · rename_i hz
    cases e
    exact ⟨F, M, ρ, S, hk, sl, ds, S1, e1, fun vs H1 F1 hk1 le1 r1 => ⟨by rw [Paired.length r1]; exact line4096 hz, fun p ob hp x => q _ _ _ (hk1.laid hp) (le1.trans (le_upd (hk1.fnone hp))) (.mkTx upd_same x (line4096 hz) (RepL.mono (le_upd (hk1.fnone hp)) r1))⟩⟩
  · cases e
def tupleXD : List D → Option D
  | [.lst ds] => some (.tx ds)
  | [.tx ds] => some (.tx ds)
  | [.tup ds] => some (.tup ds)
  | _ => none
theorem c_tupleX : CBE G (fun xs H Q => ∃ p ys, xs = [V.ref p] ∧ ((SqL G.K H p ys ∧ ∀ l ob, H l = none → Xt ob → Q (.ref l) (upd H l (.frz ob (.tup ys)))) ∨ (SqT G.K H p ys ∧ Q (.ref p) H))) tupleXD := fun vs ds d H F M S Q hk rl e q => by
  unfold tupleXD at e
  split at e
  · cases e
    obtain ⟨v, rfl, r⟩ := brl1 rl
    have r0 := r
    obtain ⟨a, us, rfl, hq, rl⟩ := r.unlst hk
    exact ⟨a, us, rfl, .inl ⟨.of hq, fun p ob hp x => q _ _ _ (hk.laid hp) (le_upd (hk.fnone hp)) (.mkTx upd_same x (r0.size hk (.inr rfl)) (RepL.mono (le_upd (hk.fnone hp)) rl))⟩⟩
  · cases e
    obtain ⟨v, rfl, r⟩ := brl1 rl
    obtain ⟨a, us, rfl, hq, rl⟩ := r.untup hk (d := .tx _) rfl
    exact ⟨a, us, rfl, .inr ⟨hq, q _ H F hk (Same.refl F) (r.rep hk (fun z => nomatch z))⟩⟩
  · cases e
    obtain ⟨v, rfl, r⟩ := brl1 rl
    obtain ⟨a, us, rfl, hq, rl⟩ := r.untup hk (d := .tup _) rfl
    exact ⟨a, us, rfl, .inr ⟨hq, q _ H F hk (Same.refl F) (r.rep hk (fun z => nomatch z))⟩⟩
  · cases e
def addXn : D → D → Option D := fun x y => match x.asT, y.asT with
  | some xs, some ys => if xs.length + ys.length ≤ sizeLine ∧ xs.isEmpty = false ∧ ys.isEmpty = false then some (.tx (xs ++ ys)) else none
  | _, _ => none
theorem r_addXn : R2E G (rCatX G.K) addXn := fun x y d1 d2 d H F M S Q hk r1 r2 e q => by
  unfold addXn at e
  split at e
  · rename_i xs ys ex ey
    split at e
    · rename_i hz
      cases e
      obtain ⟨l, us, rfl, q1, p1⟩ := BRep.untup hk ex r1
      obtain ⟨l', us', rfl, q2, p2⟩ := BRep.untup hk ey r2
      have l1 : us.length = xs.length := Paired.length p1
      have l2 : us'.length = ys.length := Paired.length p2
      refine ⟨l, l', us, us', rfl, rfl, q1, q2, fun z => ?_, fun z => ?_, by omega, fun p ob hp x => ?_⟩
      · subst z
        have : xs = [] := List.eq_nil_of_length_eq_zero (by simpa using l1.symm)
        rw [this] at hz; exact absurd hz.2.1 (by decide)
      · subst z
        have : ys = [] := List.eq_nil_of_length_eq_zero (by simpa using l2.symm)
        rw [this] at hz; exact absurd hz.2.2 (by decide)
      · exact q _ _ _ (hk.laid hp) (le_upd (hk.fnone hp)) (.mkTx upd_same x (by rw [List.length_append]; exact hz.1) (RepL.mono (le_upd (hk.fnone hp)) (paired_app p1 p2)))
    · cases e
  · cases e
/-- t + u, an exact tuple where both are not empty -/
def addX : D → D → Option D := fun x y => (addI x y).or ((addS x y).or ((addXn x y).or (addT x y)))
theorem se_addX {ma mb : ME} (hK : G.K = X.K) (ha : PE X a (eB G ma)) (hb : PE X b (eB G mb)) : PE X (.BinOp a .Add b pos) (eE G (mOp2 addX ma mb)) :=
  se_bin (OpR.or op_add (OpR.or op_add_str (OpR.or (hK ▸ op_catX) (hK ▸ op_catA)))) (r_addI.or1 (r_addS.or1 (r_addXn.or1 r_addT))) ha hb
def revTupX (d : D) : Option D := d.asT.map fun ds => .tx ds.reverse
theorem se_revTupX {m : ME} (hK : G.K = X.K) (h : PE X o (tRevTupX X.K (eB G m))) : PE X o (eE G (mOp1 revTupX m)) := pe_imp h fun σ H Q ⟨F, M, ρ, S, hk, sl, d, S', e, q⟩ => by
  obtain ⟨d1, e1, e2⟩ := mOp1_some e
  refine ⟨F, M, ρ, S, hk, sl, d1, S', e1, fun v H' F' hk' le r => ?_⟩
  obtain ⟨ds, e3, rfl⟩ := Option.map_eq_some_iff.mp e2
  have hz := Rep.size (.inl e3) (r.rep hk' (by rw [e3]; exact fun z => nomatch z))
  obtain ⟨a, vs, rfl, hq, rl⟩ := BRep.untup hk' e3 r
  rw [hK] at hq
  refine ⟨a, vs, rfl, hq, fun p ob hp x => ?_⟩
  have hk2 := hk'.laid (o := .frz ob (.tup vs.reverse)) hp
  have le2 := le_upd (o := .frz ob (.tup vs.reverse)) (hk'.fnone hp)
  refine q _ _ _ hk2 (le.trans le2) (.mkTx upd_same x (by rw [List.length_reverse]; exact hz) (paired_rev (RepL.mono le2 rl)))
end
/-! ### t.index(x) of an exact tuple of texts -/
theorem ty_tuple_index : typeOf (.builtin "tuple.index") = pure (.type "method_descriptor") := by kernel_rfl
def tIxX (to te : TE) : TE := fun σ H Q => to σ H fun x H1 => ∃ p ob vs, x = .ref p ∧ H1 p = some (.frz ob (.tup vs)) ∧ Xt ob ∧
  te σ H1 fun y H2 => ∃ (ys : List Str) (z : Str) (j : Nat), y = .str z ∧ vs = ys.map V.str ∧ H2 p = some (.frz ob (.tup vs)) ∧ ys[j]? = some z ∧ (∀ m, m < j → ys[m]? ≠ some z) ∧ Q (.int (j : Nat)) H2
section
variable {X : Cx} {G : Gh} {o e : Expr} {to te : TE} {apos cpos : Pos}
theorem pe_index (ho : PE X o to) (he : PE X e te) (hs : starEach [e] X.env = [(false, eval e X.env)] := by rfl) (hbase : attributeBase o "index" X.env (eval o X.env) = eval o X.env := by rfl)
    (hfew : ((backTo cpos (starEach [e] X.env)).all (fun x => !x.1) && (backToKw cpos (keywordEach [] X.env)).all (fun x => x.1.isSome)
      && decide ([e].length + ([] : List Keyword).length + (if ([] : List Keyword).isEmpty then 0 else 1) < 30)) = true := by rfl)
    (hline : (apos.endLine == cpos.line) = true := by rfl) (hplain : (backTo cpos (starEach ([] : List Expr) X.env)).any (·.1) = false := by rfl) :
    PE X (.Call (.Attribute o "index" apos) [e] [] cpos) (tIxX to te) := by
  refine ⟨fun pins s σ H Q I h => ?_⟩
  refine wpAny_Call_method_late hbase hfew hline rfl (thn (ho.run pins s σ H _ I h) fun v s1 ⟨x, H1, I1, r1, q1⟩ => ?_)
  obtain ⟨p, ob, vs, rfl, hp, hx, q1⟩ := q1
  cases r1
  have e1 : s1.heap.get? p = some ob := (show ObjOk X.prog X.w H1 s1.heap p (.frz ob (.tup vs)) from I1.hok p _ hp).1
  refine ⟨"tuple", "tuple.index", PySem.F.plainAttrs_tuple, PySem.F.slot_tuple_index, ty_tuple_index, ⟨ob, e1, hx.1⟩, fun a ea => ?_, ?_⟩
  · cases ea
    exact ⟨ob, e1, hx.2⟩
  · have hA := (pa_cons he pa_nil hs).run cpos pins s1 σ H1 (fun ws H2 => match ws with | [y] => (∃ (ys : List Str) (z : Str) (j : Nat), y = .str z ∧ vs = ys.map V.str ∧ H2 p = some (.frz ob (.tup vs)) ∧ ys[j]? = some z ∧ (∀ m, m < j → ys[m]? ≠ some z) ∧ Q (.int (j : Nat)) H2) | _ => False) I1 q1
    have hs' : starEach [e] X.env = (false, eval e X.env) :: starEach ([] : List Expr) X.env := hs
    rw [hs'] at hA ⊢
    refine Calls.callWith_builtin (by show (false || (backTo cpos (starEach ([] : List Expr) X.env)).any (·.1)) = false; rw [hplain] <;> rfl) (Calls.evalArgs_plain ?_)
    refine thn hA fun us s2 ⟨ws, H2, I2, r2, q2⟩ => ?_
    obtain ⟨u, rfl, ru⟩ : ∃ u, ws = [u] ∧ ∃ (ys : List Str) (z : Str) (j : Nat), u = .str z ∧ vs = ys.map V.str ∧ H2 p = some (.frz ob (.tup vs)) ∧ ys[j]? = some z ∧ (∀ m, m < j → ys[m]? ≠ some z) ∧ Q (.int (j : Nat)) H2 := by
      match ws, q2 with
      | [y], q2 => exact ⟨y, rfl, q2⟩
    obtain ⟨ys, z, j, rfl, rfl, hp2, hj, hno, q⟩ := ru
    exact mt_tup_index pins s2 σ H2 (.ref p) [.str z] (.ref p) us Q I2 rfl r2 ⟨p, ys, z, j, rfl, rfl, .inl (.inr ⟨ob, hp2⟩), hj, hno, q⟩
/-- the first place -/
def fIx (z : Str) : List Str → Option Nat
  | [] => none
  | y :: r => if y = z then some 0 else (fIx z r).map (· + 1)
theorem fIx_spec {z : Str} : ∀ {ys : List Str} {j : Nat}, fIx z ys = some j → ys[j]? = some z ∧ ∀ m, m < j → ys[m]? ≠ some z
  | [], j, h => by cases h
  | y :: r, j, h => by
    unfold fIx at h
    split at h
    · rename_i e
      cases h
      exact ⟨by rw [e]; rfl, fun m hm => absurd hm (by omega)⟩
    · rename_i e
      obtain ⟨k, hk, rfl⟩ := Option.map_eq_some_iff.mp h
      obtain ⟨h1, h2⟩ := fIx_spec hk
      refine ⟨by simpa using h1, fun m hm => ?_⟩
      cases m with
      | zero => simpa using e
      | succ m => simpa using h2 m (by omega)
def idxD : D → D → Option D
  | .tx ds, .str z => (strsD ds).bind fun ys => (fIx z ys).map fun j => .int (j : Nat)
  | _, _ => none
theorem se_index {ma mb : ME} (ho : PE X o (eB G ma)) (he : PE X e (eB G mb)) (hs : starEach [e] X.env = [(false, eval e X.env)] := by rfl) (hbase : attributeBase o "index" X.env (eval o X.env) = eval o X.env := by rfl)
    (hfew : ((backTo cpos (starEach [e] X.env)).all (fun x => !x.1) && (backToKw cpos (keywordEach [] X.env)).all (fun x => x.1.isSome)
      && decide ([e].length + ([] : List Keyword).length + (if ([] : List Keyword).isEmpty then 0 else 1) < 30)) = true := by rfl)
    (hline : (apos.endLine == cpos.line) = true := by rfl) (hplain : (backTo cpos (starEach ([] : List Expr) X.env)).any (·.1) = false := by rfl) :
    PE X (.Call (.Attribute o "index" apos) [e] [] cpos) (eE G (mOp2 idxD ma mb)) :=
  pe_imp (pe_index ho he hs hbase hfew hline hplain) fun σ H Q ⟨F, M, ρ, S, hk, sl, d, S', e, q⟩ => by
    obtain ⟨d1, S1, d2, e1, e2, e3⟩ := mOp2_some e
    unfold idxD at e3
    split at e3
    · rename_i ds z
      obtain ⟨ys, ess, e3⟩ := Option.bind_eq_some_iff.mp e3
      obtain ⟨j, hj, rfl⟩ := Option.map_eq_some_iff.mp e3
      refine ⟨F, M, ρ, S, hk, sl, _, S1, e1, fun x H1 F1 hk1 le1 r1 => ?_⟩
      obtain ⟨p, ob, vs, rfl, hp, hx, rl⟩ := (r1.rep hk1 (fun z => nomatch z)).untx
      rw [strsD_map ess] at rl
      have ev := repl_strs rl
      refine ⟨p, ob, vs, rfl, hk1.sub _ _ hp, hx, F1, M, ρ, S1, hk1, sl.mono le1, _, S', e2, fun y H2 F2 hk2 le2 r2 => ?_⟩
      obtain rfl := brep_str hk2 r2
      obtain ⟨h1, h2⟩ := fIx_spec hj
      exact ⟨ys, z, j, rfl, ev, hk2.sub _ _ (le2 _ _ hp), h1, h2, q _ _ _ hk2 (le1.trans le2) (.int _)⟩
    · cases e3
end
end Dv
namespace Dv
open PySem PySem.Spec PyProof.Rows L2

/-! ### len(set(t)), t a tuple of texts -/
def insF (l : List Str) (x : Str) : List Str := if x ∈ l then l else l ++ [x]
def dedF (l : List Str) : List Str := l.foldl insF []
theorem mem_insF {l : List Str} {x y : Str} : y ∈ insF l x ↔ y ∈ l ∨ y = x := by
  unfold insF
  split
  · rename_i h
    exact ⟨.inl, fun z => z.elim id fun e => by rw [e]; exact h⟩
  · simp
theorem dedF_snoc (l : List Str) (x : Str) : dedF (l ++ [x]) = insF (dedF l) x := by
  unfold dedF
  rw [List.foldl_append]
  rfl
theorem foldF_nd : ∀ (l acc : List Str), (acc ++ l).Nodup → l.foldl insF acc = acc ++ l
  | [], acc, _ => by simp
  | x :: l, acc, h => by
    have hx : x ∉ acc := fun z => by
      have := (List.nodup_append.mp h).2.2 x z x List.mem_cons_self
      exact this rfl
    have e : insF acc x = acc ++ [x] := if_neg hx
    rw [List.foldl_cons, e, foldF_nd l (acc ++ [x]) (by rw [List.append_assoc]; exact h), List.append_assoc]
    rfl
theorem dedF_nd {l : List Str} (h : l.Nodup) : dedF l = l := by
  unfold dedF
  rw [foldF_nd l [] (by simpa using h)]
  rfl
theorem insF_len {l : List Str} {x : Str} : (insF l x).length = if decide (x ∈ l) = true then l.length else l.length + 1 := by
  unfold insF
  by_cases h : x ∈ l <;> simp [h]
theorem dedF_take_le (l : List Str) : ∀ i, (dedF (l.take i)).length ≤ i
  | 0 => by simp [dedF]
  | i + 1 => by
    have ih := dedF_take_le l i
    cases h : l[i]? with
    | none =>
      have hle : l.length ≤ i := by simpa using h
      rw [List.take_of_length_le (by omega : l.length ≤ i + 1)]
      rw [List.take_of_length_le hle] at ih
      omega
    | some x =>
      rw [List.take_add_one, h]
      show (dedF (l.take i ++ [x])).length ≤ i + 1
      rw [dedF_snoc, insF_len]
      split <;> omega
section
variable {P : Program} {w : World} {A : Around} {E : Value → Shared → Prop}
/-- the set of the first i texts -/
def MidS (P : Program) (w : World) (S : Addr) (xs : List Str) (h0 : Heap) (i : Nat) (h : Heap) : Prop :=
  (∀ b o, h0.get? b = some o → h.get? b = some o) ∧ h.SetOf (PySem.strKind P w) S (fun k => decide (k ∈ dedF (xs.take i))) (dedF (xs.take i)).length
theorem setOf_kept {h h' : Heap} {S : Addr} {f : Str → Bool} {n : Nat} (r : h.SetOf (PySem.strKind P w) S f n) (k : ∀ o, h.get? S = some o → h'.get? S = some o) : h'.SetOf (PySem.strKind P w) S f n := by
  obtain ⟨o, es, ep, tb, ho, rest⟩ := r
  exact ⟨o, es, ep, tb, k _ ho, rest⟩
theorem fill_texts {I S : Addr} {fp wr : List Addr} {G : Array GenState → Array GenState → Prop} {Pv : Nat → Value → Prop} {St : Nat → Shared → Prop} {R : Result → Shared → Prop} {xs : List Str} {h0 : Heap}
    (W : WalksS P w A.in1 I fp wr G xs.length Pv St) (hSf : S ∉ fp) (few : xs.length + 1 < scanBound) (hval : ∀ i v, Pv i v → ∃ z t, xs[i]? = some z ∧ v = .str z t) (hS0 : h0.get? S = none) (hw0 : ∀ b ∈ wr, h0.get? b = none) :
    ∀ (m i : Nat) (s : Shared), xs.length = i + m → St i s → MidS P w S xs h0 i s.heap → (∀ s', Moved (S :: wr) G s s' → MidS P w S xs h0 xs.length s'.heap → R (.ok (.ret .none)) s') →
      codeAny (model P w) A (.builtin "set.update.loop" ⟨[.ref S, .ref I], []⟩) R s := by
  have wrS : ∀ b ∈ wr, b ∈ S :: wr := fun b => List.mem_cons_of_mem S
  have walked : ∀ {i : Nat} {s s' : Shared}, MidS P w S xs h0 i s.heap → Moved wr G s s' → MidS P w S xs h0 i s'.heap := fun {i s s'} M mv =>
    ⟨fun b o e => mv.heap b o (fun z => by rw [hw0 b z] at e; cases e) (M.1 b o e), setOf_kept M.2 fun o e => mv.heap S o (fun z => hSf (W.sub S z)) e⟩
  intro m
  induction m with
  | zero =>
    intro i s hl st M out
    obtain rfl : i = xs.length := by omega
    refine codeAny_builtin F.entry_set_update_loop (by
      rw [Around.under_plainId F.plain_set_update_loop _]
      exact wpAny_bind (W.done s _ _ st fun s' mv => wpAny_pure (out s' (mv.mono wrS) (walked M mv))))
  | succ m ih =>
    intro i s hl st M out
    refine codeAny_builtin F.entry_set_update_loop (by
      rw [Around.under_plainId F.plain_set_update_loop _]
      refine wpAny_bind (W.item i s _ _ (by omega) st fun v s1 hv st1 mv => ?_)
      obtain ⟨z, t, hz, rfl⟩ := hval i v hv
      have M1 := walked M mv
      have room := dedF_take_le xs i
      show wpAny _ A.in1 (holding [Value.str z t] (setAdd S (.str z t)) >>= _) _ _ s1
      refine wpAny_bind (wpAny_holding ?_)
      unfold setAdd
      refine wpAny_holding ?_
      refine wpAny_bind ((PySem.strKind P w).pyHash (k := z) (strKind_is _ _ _ _) ?_)
      refine wpAny_setAddHashed_of (knd := PySem.strKind P w) (s := { s1 with toks := s1.toks + 1 }) (strKind_is _ _ _ _) rfl M1.2 (by omega) fun h' sb M2 => ?_
      have M3 : MidS P w S xs h0 (i + 1) h' := by
        refine ⟨fun b o e => (sb.2 b (fun z => by rw [z, hS0] at e; cases e)).trans (M1.1 b o e), ?_⟩
        have e1 : xs.take (i + 1) = xs.take i ++ [z] := by rw [List.take_add_one, hz]; rfl
        rw [e1, dedF_snoc, insF_len]
        exact SetOf_congr M2 (fun k => by
          show (decide (k ∈ dedF (xs.take i)) || decide (k = z)) = decide (k ∈ insF (dedF (xs.take i)) z)
          rw [← Bool.decide_or]
          exact decide_eq_decide.mpr mem_insF.symm) rfl
      have free : ∀ b ∈ fp, ∀ o, s1.heap.get? b = some o → h'.get? b = some o := fun b hb o e => (sb.2 b fun z => hSf (z ▸ hb)).trans e
      refine wpAny_pure ⟨plainId_quiet F.plain_set_update_loop _, ih (i + 1) _ (by omega) (W.frame _ s1 _ _ st1 (Nat.le_add_right _ _) free) M3 fun s2 mv2 M4 => out s2 (Moved.trans W.gtrans ((mv.mono wrS).then_heap (Nat.le_add_right _ _) fun b o hb e => (sb.2 b fun z => hb (by rw [z]; exact List.mem_cons_self)).trans e) mv2) M4⟩)
theorem call_set_texts {s : Shared} {l : Addr} {items : Array Value} (xs : List Str) {Q : Value → Shared → Prop} (hh : A.handled = none) (hl : s.heap.IsTuple l items) (hit : StrsAre items.toList xs) (few : xs.length + 1 < scanBound)
    (fin : ∀ (h' : Heap) (tk : Nat), MidS P w s.heap.objs.size xs s.heap xs.length h' → Q (.ref s.heap.objs.size) { s with heap := h', toks := tk }) : wpAny (model P w) A (call (.type "set") [.ref l]) Q E s := by
  have new : ∀ b, s.heap.objs.size ≤ b → s.heap.get? b = none := fun b hb => by
    cases q : s.heap.get? b with
    | none => rfl
    | some o => exact absurd (Nat.lt_of_lt_of_le (Heap.lt_size q) hb) (Nat.lt_irrefl _)
  have size : items.size = xs.length := by rw [← StrsAre.len_eq hit, Array.length_toList]
  obtain ⟨_, _, mro⟩ := F.called_set.mro
  have m1 := F.called_set.made
  have m2 := F.called_set.sub
  have m3 := F.called_set.notType
  have m4 := F.called_set.canCreate
  have m5 := F.typeCall_set_1 (.ref l)
  have m6 := F.called_set.init.lookup
  have m7 := F.called_set.init.bind (.ref s.heap.objs.size)
  have m8 := F.sub_tuple_set
  have m9 := F.sub_tuple_frozenset
  refine wpAny_call (codeAny_of_tree (show wpAny _ _ (callAny (.type "set") _) _ _ _ from wpAny_pure ⟨Code.quiet_builtin _ (by decide +kernel), codeAny_builtin F.entry_type_call (by
    rw [Around.under_plain (weight_type_call_type "set" [.ref l] []) rfl]
    repeat (any_goals (first | assumption | wp_step))
    refine codeAny_mono (code_set_led1 (.ref l) (E := E) (Q₁ := fun v s1 => v = .ref s.heap.objs.size ∧ s1 = { s with heap := s.heap.push (set0 w) }) ⟨rfl, rfl⟩) fun r s1 hr => ?_
    cases r with
    | error e => exact hr
    | ok fl =>
    cases fl with
    | ret v =>
      obtain ⟨rfl, rfl⟩ := hr
      have at1 : (s.heap.push (set0 w)).get? s.heap.objs.size = some (set0 w) := Heap.get?_push_size _ rfl
      have ty : Shared.TypeIs { s with heap := s.heap.push (set0 w) } (.ref s.heap.objs.size) "set" := ⟨_, at1, rfl⟩
      repeat (any_goals (first | assumption | wp_step))
      refine codeAny_mono (codeAny_call_builtin (R := wants (fun r s2 => r = .none ∧ ∃ h' tk, s2 = { s with heap := h', toks := tk } ∧ MidS P w s.heap.objs.size xs s.heap xs.length h') E) F.called_set.init.plain F.entry_set_init (check_set_init_1 ty ?_)) fun r2 s2 hr2 => ?_
      · obtain ⟨⟨oc, od, dt, os⟩, ho, hc, nn, hd⟩ := hl
        dsimp only at hc hd
        subst hc hd
        have ne : (Value.type "tuple" == Value.type "dict") = false := by decide
        have at2 := Heap.get?_push_of_some (set0 w) ho
        have isl : (s.heap.push (set0 w)).IsTuple l items := ⟨_, at2, rfl, nn, rfl⟩
        have lt := Heap.lt_size ho
        have sz1 : (s.heap.push (set0 w)).objs.size = s.heap.objs.size + 1 := Heap.size_push ..
        have hd3 : A.in1.in1.in1.handled = none := by simp [hh]
        unfold Builtin.«set.__init__» noKeywords Builtin.Frozenset.updateFrom
        generalize e : pyIter = it
        wp_walk
        subst e
        refine wpAny_pyIter_tuple isl (wpAny_bind (wpAny_runValue ?_))
        have W := (Walks.tuple hd3 (s.heap.push (set0 w)).objs.size l (by rw [sz1]; exact Nat.ne_of_lt (Nat.lt_succ_of_lt lt)) items).toS (prog := P) (w := w)
        rw [size] at W
        refine fill_texts (xs := xs) (h0 := s.heap) W ?_ few (fun i v hv => ?_) (new _ (Nat.le_refl _)) (fun b hb => new b (by rw [List.mem_singleton.mp hb, sz1]; exact Nat.le_succ _)) xs.length 0 _ (by omega) ⟨⟨_, Heap.get?_push_size _ rfl, rfl, rfl⟩, isl.push _⟩ ⟨fun b o e => Heap.get?_push_of_some _ (Heap.get?_push_of_some _ e), ?_⟩ fun s3 mv M => ?_
        · rw [sz1]
          simp only [List.mem_cons, List.not_mem_nil, or_false, not_or]
          exact ⟨Nat.ne_of_lt (Nat.lt_succ_self _), Nat.ne_of_gt lt⟩
        · have q : items.toList[i]? = some v := by rw [Array.getElem?_toList]; exact hv
          have hi : i < xs.length := by rw [← size]; exact (Array.getElem?_eq_some_iff.mp hv).1
          obtain ⟨t, e⟩ := SS.strs_at hit i v q
          exact ⟨xs[i], t, List.getElem?_eq_getElem hi, by rw [e, List.getD_eq_getElem?_getD, List.getElem?_eq_getElem hi] <;> rfl⟩
        · exact SetOf_congr ((PyProof.Rows.setObjOf_fresh (knd := PySem.strKind P w) (!w.params.followText "set-order")).setOf (Heap.get?_push_of_some _ at1) (by unfold scanBound; omega)) (fun _ => rfl) rfl
        · obtain ⟨h3, g3, d3, t3, o3⟩ := s3
          obtain rfl : g3 = s.gens := mv.gens
          obtain rfl : d3 = s.drawn := mv.drawn
          obtain rfl : o3 = s.os := mv.os
          exact wpAny_pure (wpAny_pure ⟨rfl, h3, t3, rfl, M⟩)
      · cases r2 with
        | error e => exact hr2
        | ok f2 =>
          cases f2 with
          | ret r =>
            obtain ⟨rfl, h', tk, rfl, M⟩ := hr2
            repeat (any_goals (first | assumption | wp_step))
            exact fin _ _ M
          | _ => exact hr2.elim
    | _ => exact hr.elim)⟩))
end
section
variable {X : Cx} {G : Gh} {o : Expr}
def tLenSetS (K : PySem.W.Frag) (ta : TE) : TE := fun σ H Q => ta σ H fun x H1 => ∃ (l : Addr) (ns : List Str), x = .ref l ∧ SqT K H1 l (ns.map V.str) ∧ ns.length ≤ 1000 ∧ Q (.int ((dedF ns).length : Nat)) H1
theorem pe_lensetS {a : Expr} {ta : TE} {p p2 q pos : Pos} (hg : Gl X "len") (hm : X.mg "len" = none) (hg2 : Gl X "set") (hm2 : X.mg "set" = none) (ha : PE X a ta) (hc : X.calm = true := by rfl)
    (na : starEach [a] X.env = (false, eval a X.env) :: starEach [] X.env := by rfl) : PE X (.Call (.Name "len" p) [.Call (.Name "set" p2) [a] [] q] [] pos) (tLenSetS X.K ta) := by
  refine ⟨fun pins s σ H Q I h => ?_⟩
  refine Call_ (ld_blt I hg hm boot_len ?_)
  refine PyProof.Rows.callWith_builtin1 (PyProof.Rows.args_cons ?_ rfl) rfl rfl
  refine Call_ (ld_blt I hg2 hm2 boot_set ?_)
  refine PyProof.Rows.callWith_type1 (PyProof.Rows.args_cons (thn (ha.run pins s σ H _ I h) fun v s1 ⟨x, H1, I1, r1, q1⟩ => PyProof.Rows.args_nil ?_) na) na rfl
  obtain ⟨l, ns, rfl, hq, hl, q1⟩ := q1
  cases r1
  obtain ⟨its, r, pl, hz⟩ := I1.tuple hq
  refine call_set_texts ns (I1.ok.hd hc) (show s1.heap.IsTuple l its.toArray from pl) (by simpa using strsAre_of r) (by unfold scanBound; omega) fun h' tk M => PyProof.Rows.args_nil ?_
  obtain ⟨hk, o, es, ep, t, ho, hex, hd, _, _, _, hf, hn⟩ := M
  have I2 : Inv X pins σ H1 { s1 with heap := h', toks := tk } := I1.kept hk
  rw [List.take_length] at hn
  have hle := dedF_take_le ns ns.length
  rw [List.take_length] at hle
  exact call_len_set ho hex hd hf (by rw [hn] <;> omega) ⟨.int (dedF ns).length, H1, I2.tok _, ⟨_, by rw [hn]⟩, q1⟩
def lenSetS (d : D) : Option D := d.asT.bind fun ds => (strsD ds).bind fun ns => if ns.length ≤ 1000 then some (.int ((dedF ns).length : Nat)) else none
theorem se_lensetS {m : ME} (hK : G.K = X.K) (h : PE X o (tLenSetS X.K (eB G m))) : PE X o (eE G (mOp1 lenSetS m)) := pe_imp h fun σ H Q ⟨F, M, ρ, S, hk, sl, d, S', e, q⟩ => by
  obtain ⟨d1, e1, e2⟩ := mOp1_some e
  refine ⟨F, M, ρ, S, hk, sl, d1, S', e1, fun v H' F' hk' le r => ?_⟩
  obtain ⟨ds, e3, e2⟩ := Option.bind_eq_some_iff.mp e2
  obtain ⟨ns, e4, e2⟩ := Option.bind_eq_some_iff.mp e2
  split at e2
  · rename_i hc
    cases e2
    obtain ⟨a, vs, rfl, hq, rl⟩ := BRep.untup hk' e3 r
    rw [strsD_map e4] at rl
    rw [repl_strs rl, hK] at hq
    exact ⟨a, ns, rfl, hq, hc, q _ _ _ hk' le (.int _)⟩
  · cases e2
end
/-! ### one < other of texts -/
section
variable {X : Cx} {G : Gh} {a b : Expr} {pos : Pos}
def ltStr : D → D → Option D
  | .str x, .str y => some (.bl (decide (x.cps.toList < y.cps.toList)))
  | _, _ => none
theorem r_ltStr : R2E G (fun x y H Q => ∃ i j, x = .str i ∧ y = .str j ∧ Q (.bl (decide (i.cps.toList < j.cps.toList))) H) ltStr := fun x y d1 d2 d H F M S Q hk r1 r2 e q => by
  unfold ltStr at e
  split at e
  · cases e; cases r1.unstr hk; cases r2.unstr hk
    exact ⟨_, _, rfl, rfl, q _ H F hk (Same.refl F) (.bl _)⟩
  · cases e
/-- < of ints or of texts -/
def ltA : D → D → Option D := fun x y => (ltD x y).or (ltStr x y)
theorem se_ltA {ma mb : ME} (ha : PE X a (eB G ma)) (hb : PE X b (eB G mb)) : PE X (.Compare a [.Lt] [b] pos) (eE G (mOp2 ltA ma mb)) := se_cmp (OpR.or op_lt op_lt_str) (r_lt.or1 r_ltStr) (nomark _) ha hb
theorem st_ltA {ma mb : ME} (ha : PE X a (eB G ma)) (hb : PE X b (eB G mb)) : PT X (.Compare a [.Lt] [b] pos) (eT G (mTst (mOp2 ltA ma mb))) := st_cmp (OpR.or op_lt op_lt_str) (r_lt.or1 r_ltStr) (nomark _) ha hb
end
end Dv
namespace Dv
open PySem PySem.Spec PyProof.Rows L2
/-! ### for sign in text -/
section
variable {X : Cx} {G : Gh} {tg e : Expr}
def txtD : D → Option (List D)
  | .str z => if z.cps.size ≤ 1000 then some ((signs z).map .str) else none
  | _ => none
theorem txtD_some {d : D} {ds : List D} (h : txtD d = some ds) : ∃ z : Str, d = .str z ∧ z.cps.size ≤ 1000 ∧ ds = (signs z).map .str := by
  cases d <;> first | cases h | skip
  rename_i z
  unfold txtD at h
  simp only at h
  split at h
  · cases h; exact ⟨z, rfl, by assumption, rfl⟩
  · cases h
def mSeqS (m : ME) : MA := fun ρ S => (m ρ S).bind fun p => (txtD p.1).map fun ds => (ds, p.2)
theorem si_str {m : ME} (h : PE X e (eE G m)) : PI X tg e (iI G (mSeqS m)) := pi_imp (pi_str h) fun σ H R ⟨F, M, ρ, S, hk, sl, ds, S', e, q⟩ => by
  obtain ⟨⟨d, S1⟩, e1, e⟩ := Option.bind_eq_some_iff.mp e
  obtain ⟨ds1, e2, e⟩ := Option.map_eq_some_iff.mp e
  cases e
  obtain ⟨z, hd, hz, rfl⟩ := txtD_some e2
  have hd : d = .str z := hd
  subst hd
  refine ⟨F, M, ρ, S, hk, sl, _, S1, e1, fun v H' F' hk' le r => ?_⟩
  cases r
  have hn : z.cps.size = ((signs z).map D.str).length := by unfold signs; simp
  refine ⟨z, rfl, q _ _ _ hk' le (walkD_of walk_str (by rw [← hn]; exact Nat.le_trans hz (by decide +kernel)) hn (fun _ _ => trivial) ?_)⟩
  rintro i H x H' F M S hi hk le ⟨rfl, c, hc, rfl⟩
  refine ⟨F, .str ⟨#[c]⟩, hk, Same.refl F, ?_, .str _⟩
  rw [List.getElem?_map]
  unfold signs
  rw [List.getElem?_map, Array.getElem?_toList, hc]
  rfl
end
end Dv
namespace Dv
open PySem PySem.Spec PyProof.Rows L2
/-! ### t * 0, t * 1 -/
theorem tuple_one (l : Addr) (items : Array Value) (n : Nat) (dd : Option Addr) (sl : Array (Option Value)) (x : Int) (u : Tok) (c0 : (decide (x < -(2 ^ 63)) || decide (x ≥ 2 ^ 63)) = false) (c1 : (items.isEmpty || x == 1) = true) :
    Meets (Builtin.«tuple.__mul__» ⟨[.ref l, .int x u], []⟩) (fun _ R s => s.heap.get? l = some { cls := .type "tuple", dict := dd, data := .seq items n, slots := sl } ∧ R (.ok (.ret (Value.ref l))) s) :=
  .of_wp fun prog w A R s h => by
    obtain ⟨hp, g, d, tk, os⟩ := s
    obtain ⟨hl, h⟩ := h
    have f1 := AutoSeq1.idx_int
    wp_walk using wpAny_loadPart' hl
    repeat (first
      | (refine wpAny_ite_false (decide_eq_false (by rw [c0]; exact Bool.false_ne_true)) ?_; wp_walk using wpAny_loadPart' hl)
      | (refine wpAny_ite_true (decide_eq_true c1) ?_; wp_walk using wpAny_loadPart' hl))
    exact ⟨_, rfl, h⟩
theorem tuple_zero (l : Addr) (items : Array Value) (n : Nat) (dd : Option Addr) (sl : Array (Option Value)) (x : Int) (u : Tok) (c0 : (decide (x < -(2 ^ 63)) || decide (x ≥ 2 ^ 63)) = false) (c1 : (items.isEmpty || x == 1) = false) (c2 : (decide (x ≤ 0) || items.isEmpty) = true) :
    Meets (Builtin.«tuple.__mul__» ⟨[.ref l, .int x u], []⟩) (fun _ R s => s.heap.get? l = some { cls := .type "tuple", dict := dd, data := .seq items n, slots := sl } ∧
      R (.ok (.ret (Value.ref s.heap.objs.size))) { s with heap := s.heap.push { cls := Value.type "tuple", data := Data.seq #[] }, toks := s.toks }) :=
  .of_wp fun prog w A R s h => by
    obtain ⟨hp, g, d, tk, os⟩ := s
    obtain ⟨hl, h⟩ := h
    have f1 := AutoSeq1.idx_int
    wp_walk using wpAny_loadPart' hl
    repeat (first
      | (refine wpAny_ite_false (decide_eq_false (by rw [c0]; exact Bool.false_ne_true)) ?_; wp_walk using wpAny_loadPart' hl)
      | (refine wpAny_ite_false (decide_eq_false (by rw [c1]; exact Bool.false_ne_true)) ?_; wp_walk using wpAny_loadPart' hl)
      | (refine wpAny_ite_true (decide_eq_true c2) ?_; wp_walk using wpAny_loadPart' hl))
    exact ⟨_, rfl, h⟩
def rRep01 (K : PySem.W.Frag) : R2 := fun x y H Q => ∃ l k xs, x = .ref l ∧ y = .int k ∧ SqT K H l xs ∧ xs ≠ [] ∧ ((k = 1 ∧ Q (.ref l) H) ∨ (k = 0 ∧ ∀ p, H p = none → Q (.ref p) (upd H p (.tup []))))
section
variable {X : Cx} {G : Gh} {a b : Expr} {pos : Pos}
theorem op_rep01 : OpR X (binaryOp .Mult) (rRep01 X.K) := by
  intro pins s σ H x y v u Q I rx ry h
  obtain ⟨l, k, xs, rfl, rfl, hT, hne, h⟩ := h
  cases rx
  obtain ⟨t, rfl⟩ := ry
  obtain ⟨its, r, ⟨⟨cls, dd, data, sl⟩, ho, hc, n, hd⟩, hs⟩ := I.tuple hT
  simp only at hc hd
  subst hc hd
  have hn : its ≠ [] := fun e => hne (by
    have := r.length
    rw [e] at this
    exact List.eq_nil_of_length_eq_zero this)
  have hi : its.toArray.isEmpty = false := by
    cases its with
    | nil => exact absurd rfl hn
    | cons a b => rfl
  have hk : k = 1 ∨ k = 0 := h.imp (·.1) (·.1)
  have c0 : (decide (k < -(2 ^ 63)) || decide (k ≥ 2 ^ 63)) = false := by
    rw [decide_eq_false (by omega), decide_eq_false (by omega)] <;> rfl
  refine wpAny_binaryOp_repeat_ref (T := "tuple") (U := "int") (by decide) ⟨_, ho, rfl⟩ (fun s' => typeIs_int s' k t) noFill_tuple_mul F.fills_int_mul F.slot_int_rmul repeat_tuple F.slot_int_index.lookup
    (call_meets F.slot_int_rmul (typeIs_int s k t) F.entry_int_rmul (F.args_int_rmul_2 _ _) (int_rmul_tuple k t l its.toArray n dd sl) ⟨ho, rfl, ⟨_, ho, rfl⟩, ?_⟩)
  rcases h with ⟨rfl, q⟩ | ⟨rfl, q⟩
  · exact call_meets F.slot_tuple_mul ⟨_, ho, rfl⟩ F.entry_tuple_mul (F.args_tuple_mul_2 _ _) (tuple_one l its.toArray n dd sl 1 t c0 (by rw [hi]; rfl)) ⟨ho, ⟨.ref l, H, I, rfl, q⟩⟩
  · exact call_meets F.slot_tuple_mul ⟨_, ho, rfl⟩ F.entry_tuple_mul (F.args_tuple_mul_2 _ _) (tuple_zero l its.toArray n dd sl 0 t c0 (by rw [hi]; rfl) (by rw [hi]; rfl)) ⟨ho, ⟨.ref s.heap.objs.size, _, I.laid (t' := s.toks) (o := .tup []) (fun b ob q => Heap.get?_push_of_some _ q) (Nat.le_refl _) ⟨Nat.zero_le _, [], .nil, IsTup.new _ _⟩, rfl, q _ (I.hok.fresh (Nat.le_refl _))⟩⟩
def mul01 : D → D → Option D := fun x y => match x.asT, y with
  | some xs, .int k => if xs.isEmpty = false then (if k = 1 then some x else if k = 0 then some (.tup []) else none) else none
  | _, _ => none
theorem r_mul01 : R2E G (rRep01 G.K) mul01 := fun x y d1 d2 d H F M S Q hk r1 r2 e q => by
  unfold mul01 at e
  split at e
  · rename_i xs k ex
    split at e
    · rename_i hz
      obtain ⟨l, us, rfl, q1, p1⟩ := BRep.untup hk ex r1
      cases r2.unint hk
      have hne : us ≠ [] := fun z => by
        subst z
        have : xs = [] := List.eq_nil_of_length_eq_zero (by simpa using (Paired.length p1).symm)
        rw [this] at hz
        exact absurd hz (by decide)
      refine ⟨l, k, us, rfl, rfl, q1, hne, ?_⟩
      split at e
      · rename_i h1
        cases e
        exact .inl ⟨h1, q _ H F hk (Same.refl F) (r1.rep hk (by rw [ex]; exact fun z => nomatch z))⟩
      · split at e
        · rename_i h0
          cases e
          exact .inr ⟨h0, fun p hp => q _ _ _ (hk.laid hp) (le_upd (hk.fnone hp)) (.mkTup upd_same (Nat.zero_le _) .nil)⟩
        · cases e
    · cases e
  · cases e
/-- t * k, any k from 0 -/
def mulTA : D → D → Option D := fun x y => (mul01 x y).or (mulT x y)
theorem se_mulTA {ma mb : ME} (hK : G.K = X.K) (ha : PE X a (eB G ma)) (hb : PE X b (eB G mb)) : PE X (.BinOp a .Mult b pos) (eE G (mOp2 mulTA ma mb)) :=
  se_bin (OpR.or (hK ▸ op_rep01) (hK ▸ op_repT)) (r_mul01.or1 r_mulT) ha hb
end
end Dv
namespace K66
open PySem PySem.Spec PyProof.Rows L2 Dv
structure Ads where
  K : PySem.W.Frag
  is_sign : Addr
  c_BadDuels : Addr
  c_BadMargins : Addr
  c_BadOdd : Addr
  c_ShownError : Addr
variable (A : Ads)
noncomputable def m_law_blended : MS := (sSq (sPar2 2 3 false (mOp2 addD (mStI 0 Rng.turn) (mPure (.int 1))) false (mPure (.int 0)))
  (sSq (sStturn 0 (mVar 2))
  (sSq (sFor (mSeq (mLst (mCons (mPure (.int 2147483579)) (mCons (mPure (.int 2147483629)) (mCons (mPure (.int 2147483563)) (mPure [])))))) (gNm 1) (sSq (sSet 4 (mOp2 addD (mOp2 mulI (mPure (.int 48271)) (mVarB 2)) (mOp2 fdivD (mVarB 1) (mPure (.int 53)))))
  (sSq (sFor (mSeq (mStC 0)) (gNm 5) (sSet 4 (mOp2 modD (mCall intD (mCons (mOp2 addD (mOp2 addD (mOp2 mulI (mVarB 4) (mPure (.int 69621))) (mVarB 5)) (mVarB 2)) (mPure []))) (mVarB 1))))
  (sSet 3 (mOp2 addD (mOp2 mulI (mVarB 3) (mPure (.int 2147483647))) (mOp2 modD (mCall intD (mCons (mOp2 powD (mVarB 4) (mPure (.int 5))) (mPure []))) (mVarB 1)))))))
  (sRet (mVar 3)))))
noncomputable def f_law_blended : List D → Rng → Option (D × Rng) := runR 1 6 m_law_blended
noncomputable def m_law_draw : MS := (sSq (sIf (mTst (mOp2 eqD (mStI 0 Rng.rest) (mPure (.int 0)))) (sStrest 0 (mIte (mStG 0) (mStP 0) (mCallR f_law_blended (mCons (mVar 0) (mPure []))))) sNil)
  (sSq (sSet 2 (mOp2 modD (mCall intD (mCons (mStI 0 Rng.rest) (mPure []))) (mVarB 1)))
  (sSq (sStrest 0 (mOp2 fdivD (mStI 0 Rng.rest) (mVarB 1)))
  (sRet (mVar 2)))))
noncomputable def f_law_draw : List D → Rng → Option (D × Rng) := runR 2 3 m_law_draw
noncomputable def m_law_pick : MS := (sRet (mOp2 ixD (mVarB 1) (mCallR f_law_draw (mCons (mVar 0) (mCons (mCall lenD (mCons (mVarB 1) (mPure []))) (mPure []))))))
noncomputable def f_law_pick : List D → Rng → Option (D × Rng) := runR 2 2 m_law_pick
noncomputable def m_law_words : MS := (sSq (sSet 2 (mLst (mPure [])))
  (sSq (sWh (mTst (mOp2 ltD (mCall lenD (mCons (mVarB 2) (mPure []))) (mVarB 1))) (sSq (sSet 3 (mOp2 joinD (mPure (.str "")) (mLc (mRg1 (mCons (mOp2 addD (mPure (.int 1)) (mCallR f_law_draw (mCons (mVar 0) (mCons (mPure (.int 8)) (mPure []))))) (mPure []))) [4] (gNm 4) (mPure true) (mCallR f_law_pick (mCons (mVar 0) (mCons (mCall listSD (mCons (mPure (.str "abcdefghijklmnopqrstuvwxyz")) (mPure []))) (mPure [])))))))
  (sSet 2 (mOp2 addL (mVarB 2) (mIte (mTst (mOp2 ninD (mVarB 3) (mVarB 2))) (mLst (mCons (mVar 3) (mPure []))) (mIte (mAnd (mTst (mOp2 ninD (mOp2 addD (mSl slD (mVarB 3) (mPure none) (mPart (mPure (.int 1)))) (mOp2 mulSD (mPure (.str "q")) (mCall lenD (mCons (mVarB 2) (mPure []))))) (mVarB 2))) (mTst (mOp2 ltD (mCall lenD (mCons (mVarB 2) (mPure []))) (mPure (.int 8))))) (mLst (mCons (mOp2 addD (mSl slD (mVarB 3) (mPure none) (mPart (mPure (.int 1)))) (mOp2 mulSD (mPure (.str "q")) (mCall lenD (mCons (mVarB 2) (mPure []))))) (mPure []))) (mLst (mPure []))))))))
  (sRet (mCall sortSD (mCons (mVarB 2) (mPure []))))))
noncomputable def f_law_words : List D → Rng → Option (D × Rng) := runR 2 5 m_law_words
noncomputable def m_pairs_of : MS := (sSq (sSetF 1 (mLst (mPure [])))
  (sSq (sFor (mEnumQ (mCons (mVar 0) (mPure []))) (gTp 2 (gCns (gNm 2) (gCns (gNm 3) gNl))) (sExt 1 (mLc (mSeq (mSl slD (mVarB 0) (mPart (mOp2 addD (mVarB 2) (mPure (.int 1)))) (mPure none))) [4] (gNm 4) (mPure true) (mTup (mCons (mVar 3) (mCons (mVar 4) (mPure [])))))))
  (sFrz 1 (sRet (mVar 1)))))
noncomputable def f_pairs_of : List D → Option D := runP 1 5 m_pairs_of
noncomputable def m_two_for : MS := (sSq (sSet 3 (mCall tupleXD (mCons (mLc (mSeq (mVar 0)) [4] (gNm 4) (mTst (mOp2 ninD (mVarB 4) (mTupX (mCons (mVar 1) (mCons (mVar 2) (mPure [])))))) (mVar 4)) (mPure []))))
  (sRet (mTupX (mCons (mOp2 addX (mTupX (mCons (mVar 1) (mCons (mVar 2) (mPure [])))) (mVarB 3)) (mCons (mOp2 addX (mOp1 revTupX (mVarB 3)) (mTupX (mCons (mVar 1) (mCons (mVar 2) (mPure []))))) (mPure []))))))
noncomputable def f_two_for : List D → Option D := runP 3 5 m_two_for
noncomputable def m_even_voters : MS := (sSq (sSet 2 (mTupX (mPure [])))
  (sSq (sFor (mZip2 (mCons (mCall f_pairs_of (mCons (mVar 0) (mPure []))) (mCons (mVar 1) (mPure [])))) (gTp 2 (gCns (gTp 2 (gCns (gNm 5) (gCns (gNm 6) gNl))) (gCns (gNm 3) gNl))) (sSq (sSet 4 (mIte (mTst (mOp2 gtD (mVarB 3) (mPure (.int 0)))) (mCall f_two_for (mCons (mVar 0) (mCons (mVar 5) (mCons (mVar 6) (mPure []))))) (mCall f_two_for (mCons (mVar 0) (mCons (mVar 6) (mCons (mVar 5) (mPure [])))))))
  (sSet 2 (mOp2 addX (mVarB 2) (mOp2 mulTA (mVarB 4) (mOp2 fdivD (mCall absD (mCons (mVarB 3) (mPure []))) (mPure (.int 2))))))))
  (sRet (mIte (mTst (mOp2 neD (mVarB 2) (mTupX (mPure [])))) (mVar 2) (mTupX (mCons (mVar 0) (mCons (mOp1 revTupX (mVarB 0)) (mPure []))))))))
noncomputable def f_even_voters : List D → Option D := runP 2 7 m_even_voters
noncomputable def m_voters_for : MS := (sSq (sIf (mTst (mOp2 eqD (mOp2 modD (mOp2 ixD (mVarB 1) (mPure (.int 0))) (mPure (.int 2))) (mPure (.int 0)))) (sRet (mCall f_even_voters (mCons (mVar 0) (mCons (mVar 1) (mPure []))))) sNil)
  (sSq (sSet 2 (mCall tupleD (mCons (mLc (mSeq (mVar 1)) [3] (gNm 3) (mPure true) (mOp2 subD (mVarB 3) (mPure (.int 1)))) (mPure []))))
  (sRet (mOp2 addD (mTup (mCons (mVar 0) (mPure []))) (mIte (mTst (mCall anyD (mCons (mLc (mSeq (mVar 2)) [3] (gNm 3) (mPure true) (mOp2 neD (mVarB 3) (mPure (.int 0)))) (mPure [])))) (mCall f_even_voters (mCons (mVar 0) (mCons (mVar 2) (mPure [])))) (mTup (mPure [])))))))
noncomputable def f_voters_for : List D → Option D := runP 2 4 m_voters_for
noncomputable def m_is_word : MS := (sRet (mAndV (mOp1 (isiD "str") (mVarB 0)) (mAndV (mChn leD leD (mPure (.int 1)) (mCall lenD (mCons (mVarB 0) (mPure []))) (mPure (.int 8))) (mCall allD (mCons (mLc (mSeqS (mVar 0)) [1] (gNm 1) (mPure true) (mOp2 inD (mVarB 1) (mPure (.str "abcdefghijklmnopqrstuvwxyz")))) (mPure []))))))
noncomputable def f_is_word : List D → Option D := runP 1 2 m_is_word
noncomputable def m_are_things : MS := (sSq (sIf (mOr (mNot (mTst (mOp1 (isiD "tuple") (mVarB 0)))) (mOr (mTst (mOp2 eqD (mVarB 0) (mTup (mPure [])))) (mNot (mTst (mCall allD (mCons (mLc (mSeq (mVar 0)) [3] (gNm 3) (mPure true) (mCall f_is_word (mCons (mVar 3) (mPure [])))) (mPure []))))))) (sRet (mPure (.bl false))) sNil)
  (sRet (mCall allD (mCons (mLc (mZip2 (mCons (mVar 0) (mCons (mSl slD (mVarB 0) (mPart (mPure (.int 1))) (mPure none)) (mPure [])))) [1, 2] (gTp 2 (gCns (gNm 1) (gCns (gNm 2) gNl))) (mPure true) (mOp2 ltA (mVarB 1) (mVarB 2))) (mPure [])))))
noncomputable def f_are_things : List D → Option D := runP 1 4 m_are_things
noncomputable def m_is_whole : MS := (sRet (mAndV (mOp1 (isiD "int") (mVarB 0)) (mNotV (mOp1 (isiD "bool") (mVarB 0)))))
noncomputable def f_is_whole : List D → Option D := runP 1 1 m_is_whole
noncomputable def m_is_sign : MS := (sRet (mChn leD leD (mOp1 negD (mPure (.int 1))) (mVarB 0) (mPure (.int 1))))
noncomputable def f_is_sign : List D → Option D := runP 1 1 m_is_sign
noncomputable def m_is_table : MS := (sSq (sIf (mOr (mNot (mTst (mOp1 (isiD "tuple") (mVarB 0)))) (mOr (mTst (mOp2 neD (mCall lenD (mCons (mVarB 0) (mPure []))) (mPure (.int 3)))) (mOr (mNot (mTst (mOp1 (isiD "str") (mOp2 ixD (mVarB 0) (mPure (.int 0)))))) (mTst (mOp2 neD (mOp2 ixD (mVarB 0) (mPure (.int 0))) (mVarB 1)))))) (sRet (mPure (.bl false))) sNil)
  (sSq (sIf (mOr (mNot (mTst (mCall f_are_things (mCons (mOp2 ixD (mVarB 0) (mPure (.int 1))) (mPure []))))) (mNot (mTst (mChn leD leD (mPure (.int 2)) (mCall lenD (mCons (mOp2 ixD (mVarB 0) (mPure (.int 1))) (mPure []))) (mPure (.int 5)))))) (sRet (mPure (.bl false))) sNil)
  (sSq (sIf (mOr (mNot (mTst (mOp1 (isiD "tuple") (mOp2 ixD (mVarB 0) (mPure (.int 2)))))) (mTst (mOp2 neD (mCall lenD (mCons (mOp2 ixD (mVarB 0) (mPure (.int 2))) (mPure []))) (mCall lenD (mCons (mCall f_pairs_of (mCons (mOp2 ixD (mVarB 0) (mPure (.int 1))) (mPure []))) (mPure [])))))) (sRet (mPure (.bl false))) sNil)
  (sRet (mCall allD (mCons (mLc (mSeq (mOp2 ixD (mVarB 0) (mPure (.int 2)))) [3] (gNm 3) (mPure true) (mAndV (mCall f_is_whole (mCons (mVar 3) (mPure []))) (mCallL 2 A.is_sign f_is_sign (mCons (mVar 3) (mPure []))))) (mPure [])))))))
noncomputable def f_is_table : List D → Option D := runP 3 4 (m_is_table A)
noncomputable def m_is_duels : MS := (sRet (mCall (f_is_table A) (mCons (mVar 0) (mCons (mPure (.str "duels")) (mCons (mPure (.fn A.is_sign)) (mPure []))))))
noncomputable def f_is_duels : List D → Option D := runP 1 1 (m_is_duels A)
noncomputable def m_duel_voters : MS := (sSq (sIf (mNot (mTst (mCall (f_is_duels A) (mCons (mVar 0) (mPure []))))) sNever sNil)
  (sSq (sIf (mNot (mTst (mOp1 (isiD "bool") (mVarB 1)))) sNever sNil)
  (sSq (sIf (mAnd (mTst (mVar 1)) (mTst (mOp2 inD (mPure (.int 0)) (mOp2 ixD (mVarB 0) (mPure (.int 2)))))) (sRet (mPure .non)) sNil)
  (sRet (mCall f_voters_for (mCons (mOp2 ixD (mVarB 0) (mPure (.int 1))) (mCons (mCall tupleD (mCons (mLc (mSeq (mOp2 ixD (mVarB 0) (mPure (.int 2)))) [2] (gNm 2) (mPure true) (mIte (mTst (mVar 1)) (mVar 2) (mOp2 mulI (mPure (.int 2)) (mVarB 2)))) (mPure []))) (mPure []))))))))
noncomputable def f_duel_voters : List D → Option D := runP 2 3 (m_duel_voters A)
noncomputable def mx_duel_voters : XM := (xOr (xIf (mNot (mTst (mCall (f_is_duels A) (mCons (mVar 0) (mPure []))))) (xCl A.c_BadDuels) xNo) (xSq (sIf (mNot (mTst (mCall (f_is_duels A) (mCons (mVar 0) (mPure []))))) sNever sNil) (xIf (mNot (mTst (mOp1 (isiD "bool") (mVarB 1)))) (xCl A.c_BadOdd) xNo)))
noncomputable def x_duel_voters : List D → Option Addr := runX 2 3 (mx_duel_voters A)
noncomputable def m_law_k66_kind : MS := (sSq (sSet 1 (mLst (mCons (mOp1 (isCD A.K A.c_BadDuels) (mVarB 0)) (mCons (mOp1 (isCD A.K A.c_BadOdd) (mVarB 0)) (mCons (mOp1 (isCD A.K A.c_BadMargins) (mVarB 0)) (mPure []))))))
  (sRet (mLc (mEnumQ (mCons (mVar 1) (mPure []))) [2, 3] (gTp 2 (gCns (gNm 2) (gCns (gNm 3) gNl))) (mTst (mVar 3)) (mVar 2))))
noncomputable def f_law_k66_kind : List D → Option D := runP 1 4 (m_law_k66_kind A)
noncomputable def m_law_tg_pairs : MS := (sSq (sSetF 1 (mLst (mPure [])))
  (sSq (sFor (mEnumQ (mCons (mVar 0) (mPure []))) (gTp 2 (gCns (gNm 2) (gCns (gNm 3) gNl))) (sExt 1 (mLc (mSeq (mSl slD (mVarB 0) (mPart (mOp2 addD (mVarB 2) (mPure (.int 1)))) (mPure none))) [4] (gNm 4) (mPure true) (mTup (mCons (mVar 3) (mCons (mVar 4) (mPure [])))))))
  (sFrz 1 (sRet (mVar 1)))))
noncomputable def f_law_tg_pairs : List D → Option D := runP 1 5 m_law_tg_pairs
noncomputable def m_law_is_truth : MS := (sRet (mIte (mTst (mVar 1)) (mOp2 isD (mVarB 0) (mPure (.bl true))) (mOp2 isD (mVarB 0) (mPure (.bl false)))))
noncomputable def f_law_is_truth : List D → Option D := runP 2 2 m_law_is_truth
noncomputable def m_law_same : MS := (sSq (sSetF 2 (mLst (mCons (mTup (mCons (mVar 0) (mCons (mVar 1) (mPure [])))) (mPure []))))
  (sSq (sWh (mTst (mOp2 neD (mVarB 2) (mLst (mPure [])))) (sSq (sPop 2 (gTp 2 (gCns (gNm 3) (gCns (gNm 4) gNl))))
  (sIf (mOr (mTst (mOp2 isD (mVarB 4) (mPure .non))) (mTst (mOp1 (isiD "bool") (mVarB 4)))) (sIf (mIte (mTst (mOp2 isD (mVarB 4) (mPure .non))) (mTst (mOp2 isnotD (mVarB 3) (mPure .non))) (mNot (mTst (mCall f_law_is_truth (mCons (mVar 3) (mCons (mVar 4) (mPure []))))))) (sRet (mPure (.bl false))) sNil) (sIf (mTst (mOp1 (isi2D "int" "str") (mVarB 4))) (sIf (mOr (mTst (mOp1 (isiD "bool") (mVarB 3))) (mOr (mTst (mOp2 neD (mOp1 (isiD "int") (mVarB 3)) (mOp1 (isiD "int") (mVarB 4)))) (mTst (mOp2 neD (mVarB 3) (mVarB 4))))) (sRet (mPure (.bl false))) sNil) (sIf (mTst (mOp1 (isiD "dict") (mVarB 4))) sNever (sSq (sSet 5 (mLst (mCons (mAndV (mOp1 (isiD "tuple") (mVarB 3)) (mOp1 (isiD "tuple") (mVarB 4))) (mCons (mAndV (mOp1 (isiD "list") (mVarB 3)) (mOp1 (isiD "list") (mVarB 4))) (mPure [])))))
  (sSq (sIf (mOr (mTst (mOp2 ninD (mPure (.bl true)) (mVarB 5))) (mTst (mOp2 neD (mCall lenD (mCons (mVarB 3) (mPure []))) (mCall lenD (mCons (mVarB 4) (mPure [])))))) (sRet (mPure (.bl false))) sNil)
  (sExt 2 (mLc (mZip2 (mCons (mVar 3) (mCons (mVar 4) (mPure [])))) [7, 8] (gTp 2 (gCns (gNm 7) (gCns (gNm 8) gNl))) (mPure true) (mTup (mCons (mVar 7) (mCons (mVar 8) (mPure [])))))))))))))
  (sRet (mPure (.bl true)))))
noncomputable def f_law_same : List D → Option D := runP 2 9 m_law_same
noncomputable def m_law_tg_margins : MS := (sSq (sSetF 2 (mLst (mPure [])))
  (sSq (sFor (mSeq (mCall f_law_tg_pairs (mCons (mVar 0) (mPure [])))) (gTp 2 (gCns (gNm 3) (gCns (gNm 4) gNl))) (sApp 2 (mCall sumD (mCons (mLc (mSeq (mVar 1)) [5] (gNm 5) (mPure true) (mIte (mTst (mOp2 ltD (mOp2 idxD (mVarB 5) (mVarB 3)) (mOp2 idxD (mVarB 5) (mVarB 4)))) (mPure (.int 1)) (mOp1 negD (mPure (.int 1))))) (mPure [])))))
  (sRet (mCall tupleD (mCons (mVarB 2) (mPure []))))))
noncomputable def f_law_tg_margins : List D → Option D := runP 2 6 m_law_tg_margins
noncomputable def m_law_is_word : MS := (sSq (sIf (mOr (mNot (mTst (mOp1 (isiD "str") (mVarB 0)))) (mNot (mTst (mChn leD leD (mPure (.int 1)) (mCall lenD (mCons (mVarB 0) (mPure []))) (mPure (.int 8)))))) (sRet (mPure (.bl false))) sNil)
  (sRet (mOp2 eqD (mLc (mSeqS (mVar 0)) [1] (gNm 1) (mTst (mOp2 ninD (mVarB 1) (mPure (.str "abcdefghijklmnopqrstuvwxyz")))) (mVar 1)) (mLst (mPure [])))))
noncomputable def f_law_is_word : List D → Option D := runP 1 2 m_law_is_word
noncomputable def m_law_tg_are_voters : MS := (sSq (sIf (mOr (mNot (mTst (mOp1 (isiD "tuple") (mVarB 0)))) (mNot (mTst (mChn leD leD (mPure (.int 1)) (mCall lenD (mCons (mVarB 0) (mPure []))) (mPure (.int 300)))))) (sRet (mPure (.bl false))) sNil)
  (sSq (sFor (mSeq (mVar 0)) (gNm 1) (sSq (sIf (mOr (mNot (mTst (mOp1 (isiD "tuple") (mVarB 1)))) (mOr (mTst (mOp2 neD (mLc (mSeq (mVar 1)) [2] (gNm 2) (mNot (mTst (mCall f_law_is_word (mCons (mVar 2) (mPure []))))) (mPure (.int 1))) (mLst (mPure [])))) (mTst (mOp2 neD (mOp1 lenSetS (mVarB 1)) (mCall lenD (mCons (mVarB 1) (mPure []))))))) (sRet (mPure (.bl false))) sNil)
  (sIf (mTst (mOp2 neD (mCall sortSD (mCons (mVarB 1) (mPure []))) (mCall sortSD (mCons (mOp2 ixD (mVarB 0) (mPure (.int 0))) (mPure []))))) (sRet (mPure (.bl false))) sNil)))
  (sRet (mChn leD leD (mPure (.int 2)) (mCall lenD (mCons (mOp2 ixD (mVarB 0) (mPure (.int 0))) (mPure []))) (mPure (.int 5))))))
noncomputable def f_law_tg_are_voters : List D → Option D := runP 1 3 m_law_tg_are_voters
noncomputable def m_law : MS := (sSq (sFor (mRg1 (mCons (mOp2 addX (mPure (.int 5)) (mCall minD (mCons (mCall lenD (mCons (mVarB 0) (mPure []))) (mCons (mPure (.int 6)) (mPure []))))) (mPure []))) (gNm 2) (sSq (sSet 3 (mCall tupleXD (mCons (mCallR f_law_words (mCons (mVar 1) (mCons (mOp2 addX (mPure (.int 2)) (mCallR f_law_draw (mCons (mVar 1) (mCons (mPure (.int 4)) (mPure []))))) (mPure [])))) (mPure []))))
  (sSq (sSet 4 (mCallR f_law_pick (mCons (mVar 1) (mCons (mLst (mCons (mLst (mCons (mOp1 negD (mPure (.int 1))) (mCons (mPure (.int 1)) (mPure [])))) (mCons (mLst (mCons (mOp1 negD (mPure (.int 1))) (mCons (mPure (.int 0)) (mCons (mPure (.int 1)) (mPure []))))) (mCons (mLst (mCons (mPure (.int 0)) (mPure []))) (mCons (mLst (mCons (mPure (.int 1)) (mPure []))) (mPure [])))))) (mPure [])))))
  (sSq (sSet 5 (mCall tupleXD (mCons (mLc (mSeq (mCall f_law_tg_pairs (mCons (mVar 3) (mPure [])))) [12] (gNm 12) (mPure true) (mCallR f_law_pick (mCons (mVar 1) (mCons (mVar 4) (mPure []))))) (mPure []))))
  (sSq (sSet 6 (mTupX (mCons (mPure (.str "duels")) (mCons (mVar 3) (mCons (mVar 5) (mPure []))))))
  (sSq (sFor (mSeq (mLst (mCons (mPure (.bl true)) (mCons (mPure (.bl false)) (mPure []))))) (gNm 7) (sSq (sSet 10 (mCall (f_duel_voters A) (mCons (mVar 6) (mCons (mVar 7) (mPure [])))))
  (sSq (sIf (mOr (mNot (mTst (mCall f_law_same (mCons (mCallK0 (f_duel_voters A) [1, 0] (mCons (mVar 7) (mCons (mVar 6) (mPure [])))) (mCons (mVar 10) (mPure [])))))) (mTst (mOp2 neD (mOp2 isD (mVarB 10) (mPure .non)) (mAndV (mVar 7) (mOp2 inD (mPure (.int 0)) (mVarB 5)))))) (sRet (mPure (.bl false))) sNil)
  (sIf (mTst (mOp2 isnotD (mVarB 10) (mPure .non))) (sSq (sSet 11 (mIte (mAnd (mTst (mCall f_law_tg_are_voters (mCons (mVar 10) (mPure [])))) (mTst (mOp2 eqD (mCall tupleXD (mCons (mCall sortSD (mCons (mOp2 ixD (mVarB 10) (mPure (.int 0))) (mPure []))) (mPure []))) (mVarB 3)))) (mCall f_law_tg_margins (mCons (mVar 3) (mCons (mVar 10) (mPure [])))) (mTupX (mPure []))))
  (sIf (mOr (mTst (mOp2 neD (mCall tupleXD (mCons (mLc (mSeq (mVar 11)) [13] (gNm 13) (mPure true) (mIte (mTst (mOp2 eqD (mVarB 13) (mPure (.int 0)))) (mPure (.int 0)) (mIte (mTst (mOp2 gtD (mVarB 13) (mPure (.int 0)))) (mPure (.int 1)) (mOp1 negD (mPure (.int 1)))))) (mPure []))) (mVarB 5))) (mAnd (mTst (mVar 7)) (mTst (mOp2 neD (mOp2 modD (mCall lenD (mCons (mVarB 10) (mPure []))) (mPure (.int 2))) (mPure (.int 1)))))) (sRet (mPure (.bl false))) sNil)) sNil))))
  (sSq (sSet 8 (mLst (mCons (mPure .non) (mCons (mTupX (mCons (mPure (.str "margins")) (mCons (mVar 3) (mCons (mVar 5) (mPure []))))) (mCons (mTupX (mCons (mPure (.str "duels")) (mCons (mVar 3) (mCons (mOp2 addX (mVarB 5) (mTupX (mCons (mPure (.int 0)) (mPure [])))) (mPure []))))) (mCons (mTupX (mCons (mPure (.str "duels")) (mCons (mVar 3) (mCons (mOp2 addX (mTupX (mCons (mPure (.int 2)) (mPure []))) (mSl slD (mVarB 5) (mPart (mPure (.int 1))) (mPure none))) (mPure []))))) (mCons (mTupX (mCons (mPure (.str "duels")) (mCons (mOp1 revTupX (mVarB 3)) (mCons (mVar 5) (mPure []))))) (mPure []))))))))
  (sSq (sSet 9 (mCallR f_law_pick (mCons (mVar 1) (mCons (mOp2 addL (mVarB 8) (mLst (mCons (mTupX (mCons (mPure (.str "duels")) (mCons (mVar 3) (mCons (mOp2 addX (mTupX (mCons (mPure (.bl true)) (mPure []))) (mSl slD (mVarB 5) (mPart (mPure (.int 1))) (mPure none))) (mPure []))))) (mPure [])))) (mPure [])))))
  (sSq (sIf (mTst (mOp2 neD (mCall (f_law_k66_kind A) (mCons (mCau A.K A.c_ShownError (mCall (f_duel_voters A) (mCons (mVar 9) (mCons (mPure .non) (mPure [])))) (xCall (x_duel_voters A) (mCons (mVar 9) (mCons (mPure .non) (mPure []))))) (mPure []))) (mLst (mCons (mPure (.int 0)) (mPure []))))) (sRet (mPure (.bl false))) sNil)
  (sIf (mTst (mOp2 neD (mCall (f_law_k66_kind A) (mCons (mCau A.K A.c_ShownError (mCall (f_duel_voters A) (mCons (mVar 6) (mCons (mCallR f_law_pick (mCons (mVar 1) (mCons (mLst (mCons (mPure .non) (mCons (mPure (.int 0)) (mCons (mPure (.int 1)) (mCons (mPure (.str "True")) (mCons (mTupX (mPure [])) (mPure []))))))) (mPure [])))) (mPure [])))) (xCall (x_duel_voters A) (mCons (mVar 6) (mCons (mCallR f_law_pick (mCons (mVar 1) (mCons (mLst (mCons (mPure .non) (mCons (mPure (.int 0)) (mCons (mPure (.int 1)) (mCons (mPure (.str "True")) (mCons (mTupX (mPure [])) (mPure []))))))) (mPure [])))) (mPure []))))) (mPure []))) (mLst (mCons (mPure (.int 1)) (mPure []))))) (sRet (mPure (.bl false))) sNil))))))))))
  (sRet (mPure (.bl true))))
/-- what the classes say -/
structure AdsOk (A : Ads) : Prop where
  m_BadDuels : PySem.W.exmOne A.K (.ref A.c_BadDuels) (.ref A.c_ShownError) = some true
  x_BadDuels : ExcC A.K A.c_BadDuels
  i_BadDuels_BadDuels : PySem.W.kitOne A.K (.ref A.c_BadDuels) (.ref A.c_BadDuels) = some true
  i_BadDuels_BadMargins : PySem.W.kitOne A.K (.ref A.c_BadDuels) (.ref A.c_BadMargins) = some false
  i_BadDuels_BadOdd : PySem.W.kitOne A.K (.ref A.c_BadDuels) (.ref A.c_BadOdd) = some false
  m_BadOdd : PySem.W.exmOne A.K (.ref A.c_BadOdd) (.ref A.c_ShownError) = some true
  x_BadOdd : ExcC A.K A.c_BadOdd
  i_BadOdd_BadDuels : PySem.W.kitOne A.K (.ref A.c_BadOdd) (.ref A.c_BadDuels) = some false
  i_BadOdd_BadMargins : PySem.W.kitOne A.K (.ref A.c_BadOdd) (.ref A.c_BadMargins) = some false
  i_BadOdd_BadOdd : PySem.W.kitOne A.K (.ref A.c_BadOdd) (.ref A.c_BadOdd) = some true
end K66
namespace Dv
open PySem PyProof.Rows L2

/-! ### evaluating -/
theorem ev_var {i : Nat} {ρ : Lo} {S : Sg} {d : D} (h : ρ[i]? = some (some (.imm d))) : mVar i ρ S = some (d, S) := by unfold mVar; rw [h]
theorem ev_varB {i : Nat} {ρ : Lo} {S : Sg} {d : D} (h : ρ[i]? = some (some (.imm d))) : mVarB i ρ S = some (d, S) := by unfold mVarB; rw [h]
theorem ev_varO {i : Nat} {ρ : Lo} {S : Sg} {d : D} (h : ρ[i]? = some (some (.own d))) : mVarB i ρ S = some (d, S) := by unfold mVarB; rw [h]
theorem addD_int (i j : Int) : addD (.int i) (.int j) = some (.int (i + j)) := rfl
theorem subD_int (i j : Int) : subD (.int i) (.int j) = some (.int (i - j)) := rfl
theorem ltD_int (i j : Int) : ltD (.int i) (.int j) = some (.bl (decide (i < j))) := rfl
theorem leD_int (i j : Int) : leD (.int i) (.int j) = some (.bl (decide (i ≤ j))) := rfl
theorem gtD_int (i j : Int) : gtD (.int i) (.int j) = some (.bl (decide (j < i))) := rfl
theorem geD_int (i j : Int) : geD (.int i) (.int j) = some (.bl (decide (j ≤ i))) := rfl
theorem mulI_int {i j : Int} (h : i.natAbs.log2 + j.natAbs.log2 < 1000000) : mulI (.int i) (.int j) = some (.int (i * j)) := by
  simp [mulI, liftI2, h]
theorem fdivD_int {i j : Int} (h : 0 < j) (h' : j.natAbs.log2 < 9000) : fdivD (.int i) (.int j) = some (.int (i / j)) := by
  simp [fdivD, liftI2, h, h']
theorem modD_int {i j : Int} (h : 0 < j) : modD (.int i) (.int j) = some (.int (i % j)) := by
  simp [modD, liftI2, h]
theorem negD_int (i : Int) : negD (.int i) = some (.int (-i)) := rfl
theorem ix_nat {d : D} {ds : List D} {n : Nat} {x : D} (h : itemsD d = some ds) (e : ds[n]? = some x) : ixD d (.int (n : Int)) = some x := by
  have hn := (List.getElem?_eq_some_iff.mp e).1
  unfold ixD
  simp only [h]
  unfold atI
  rw [show ixN ds.length (n : Int) = some n by unfold ixN; rw [if_pos (by omega), if_pos (by omega)]; simp]
  exact e
theorem ix_neg {d : D} {ds : List D} {x : D} (h : itemsD d = some ds) (e : ds.getLast? = some x) : ixD d (.int (-1)) = some x := by
  have hn : 0 < ds.length := by
    cases ds with
    | nil => cases e
    | cons _ _ => simp
  unfold ixD
  simp only [h]
  unfold atI ixN
  rw [if_neg (by omega), if_pos (by omega)]
  have : ((-1 : Int) + (ds.length : Int)).toNat = ds.length - 1 := by omega
  show ds[((-1 : Int) + (ds.length : Int)).toNat]? = some x
  rw [this, ← List.getLast?_eq_getElem?]
  exact e
theorem len_items {d : D} {ds : List D} (h : itemsD d = some ds) : lenD [d] = some (.int ds.length) := by
  unfold lenD lenA
  simp only [h]
  rfl
theorem gcdD_int (i j : Int) : gcdD [.int i, .int j] = some (.int ((Nat.gcd i.natAbs j.natAbs : Nat) : Int)) := rfl
theorem absD_int (i : Int) : absD [.int i] = some (.int (iabs i)) := rfl

end Dv
namespace Dv
open PySem PyProof.Rows L2

/-! ### comprehensions and loops over lists of known things -/
section
variable {α β : Type} {R : D → α → Prop} {g : MG} {t : MT} {m : ME} {S : Sg}
theorem lc_rel {ρ : Lo} (f : α → D) : ∀ {ds : List D} {xs : List α}, Paired R ds xs → (∀ d a, R d a → a ∈ xs → ∃ ρ1, g d ρ = some ρ1 ∧ t ρ1 S = some (true, S) ∧ m ρ1 S = some (f a, S)) → lcGo ρ g t m ds S = some (xs.map f, S)
  | _, _, .nil, _ => rfl
  | d :: ds, a :: xs, .cons r p, h => by
    obtain ⟨ρ1, e1, e2, e3⟩ := h d a r List.mem_cons_self
    show Option.bind (g d ρ) _ = _
    rw [e1]
    simp only [Option.bind_some]
    rw [e2]
    simp only [Option.bind_some, if_true]
    rw [e3]
    simp only [Option.bind_some]
    rw [lc_rel f p fun d a r ha => h d a r (List.mem_cons_of_mem _ ha)]
    rfl
/-- with a test -/
theorem lc_if {ρ : Lo} (b : α → Bool) (f : α → D) : ∀ {ds : List D} {xs : List α}, Paired R ds xs → (∀ d a, R d a → a ∈ xs → ∃ ρ1, g d ρ = some ρ1 ∧ t ρ1 S = some (b a, S) ∧ (b a = true → m ρ1 S = some (f a, S))) → lcGo ρ g t m ds S = some ((xs.filter b).map f, S)
  | _, _, .nil, _ => rfl
  | d :: ds, a :: xs, .cons r p, h => by
    obtain ⟨ρ1, e1, e2, e3⟩ := h d a r List.mem_cons_self
    show Option.bind (g d ρ) _ = _
    rw [e1]
    simp only [Option.bind_some]
    rw [e2]
    simp only [Option.bind_some]
    have ih := lc_if b f p fun d a r ha => h d a r (List.mem_cons_of_mem _ ha)
    cases hb : b a with
    | true =>
      rw [List.filter_cons_of_pos hb]
      simp only [if_true]
      rw [e3 hb]
      simp only [Option.bind_some]
      rw [ih]; rfl
    | false =>
      rw [List.filter_cons_of_neg (by rw [hb]; exact Bool.false_ne_true)]
      simp only [Bool.false_eq_true, if_false]
      exact ih
/-- the draws are drawn from: an existing run -/
theorem lc_run {ρ : Lo} {P : D → Prop} : ∀ {n : Nat} {ds : List D} {r : Rng} (I : Rng → Prop), ds.length = n → I r → (∀ d ∈ ds, ∀ r, I r → ∃ ρ1 y r', g d ρ = some ρ1 ∧ t ρ1 (some r) = some (true, some r) ∧ m ρ1 (some r) = some (y, some r') ∧ P y ∧ I r') →
    ∃ ys r', lcGo ρ g t m ds (some r) = some (ys, some r') ∧ ys.length = n ∧ (∀ y ∈ ys, P y) ∧ I r'
  | _, [], r, I, hn, hi, _ => ⟨[], r, rfl, hn, (fun _ h => by cases h), hi⟩
  | 0, d :: ds, r, I, hn, hi, h => by simp at hn
  | n + 1, d :: ds, r, I, hn, hi, h => by
    obtain ⟨ρ1, y, r1, e1, e2, e3, p, i1⟩ := h d List.mem_cons_self r hi
    obtain ⟨ys, r2, e4, hl, hp, i2⟩ := lc_run I (n := n) (ds := ds) (by simpa using hn) i1 fun d hd => h d (List.mem_cons_of_mem _ hd)
    refine ⟨y :: ys, r2, ?_, by simp [hl], fun z hz => ?_, i2⟩
    · show Option.bind (g d ρ) _ = _
      rw [e1]
      simp only [Option.bind_some]
      rw [e2]
      simp only [Option.bind_some, if_true]
      rw [e3]
      simp only [Option.bind_some]
      rw [e4]; rfl
    · rcases List.mem_cons.mp hz with rfl | hz
      · exact p
      · exact hp z hz
variable {ms : MS}
/-- for: each turn keeps Inv -/
theorem for_fold (Inv : β → Lo → Prop) (step : β → α → β) : ∀ {ds : List D} {xs : List α}, Paired R ds xs → (∀ d a b ρ, R d a → a ∈ xs → Inv b ρ → ∃ ρ1 fl ρ2, g d ρ = some ρ1 ∧ ms ρ1 S = some (fl, ρ2, S) ∧ (fl = .nx ∨ fl = .ct) ∧ Inv (step b a) ρ2) →
    ∀ b ρ, Inv b ρ → ∃ ρ', forGo g ms ds ρ S = some (.nx, ρ', S) ∧ Inv (xs.foldl step b) ρ'
  | _, _, .nil, _, b, ρ, hi => ⟨ρ, rfl, hi⟩
  | d :: ds, a :: xs, .cons r p, h, b, ρ, hi => by
    obtain ⟨ρ1, fl, ρ2, e1, e2, hf, i2⟩ := h d a b ρ r List.mem_cons_self hi
    obtain ⟨ρ', e3, i3⟩ := for_fold Inv step p (fun d a b ρ r ha => h d a b ρ r (List.mem_cons_of_mem _ ha)) _ _ i2
    refine ⟨ρ', ?_, i3⟩
    show Option.bind (g d ρ) _ = _
    rw [e1]
    simp only [Option.bind_some]
    rw [e2]
    simp only [Option.bind_some]
    rcases hf with rfl | rfl <;> exact e3
/-- for with draws or an early end: each turn keeps Inv (a state of one's own choice) or ends -/
theorem for_run {P : Fl → Lo → Sg → Prop} (Inv : Nat → Lo → Sg → Prop) : ∀ {ds : List D} (k : Nat), (∀ (i : Nat) d ρ S, ds[i]? = some d → Inv (k + i) ρ S → ∃ ρ1 fl ρ2 S2, g d ρ = some ρ1 ∧ ms ρ1 S = some (fl, ρ2, S2) ∧
      match fl with | .nx | .ct => Inv (k + i + 1) ρ2 S2 | .bk => P .nx ρ2 S2 | .rt d => P (.rt d) ρ2 S2) →
    (∀ ρ S, Inv (k + ds.length) ρ S → P .nx ρ S) → ∀ ρ S, Inv k ρ S → ∃ fl ρ' S', forGo g ms ds ρ S = some (fl, ρ', S') ∧ P fl ρ' S'
  | [], k, _, he, ρ, S, hi => ⟨.nx, ρ, S, rfl, he ρ S hi⟩
  | d :: ds, k, h, he, ρ, S, hi => by
    obtain ⟨ρ1, fl, ρ2, S2, e1, e2, hf⟩ := h 0 d ρ S rfl hi
    have ih := for_run (P := P) Inv (ds := ds) (k + 1) (fun i d ρ S hd hi => by
      have := h (i + 1) d ρ S (by simpa using hd) (by rw [show k + (i + 1) = k + 1 + i by omega]; exact hi)
      rw [show k + (i + 1) = k + 1 + i by omega] at this
      exact this) (fun ρ S hi => he ρ S (by rw [List.length_cons, show k + (ds.length + 1) = k + 1 + ds.length by omega]; exact hi))
    have red : forGo g ms (d :: ds) ρ S = (ms ρ1 S).bind fun p => match p.1 with
        | .nx => forGo g ms ds p.2.1 p.2.2
        | .ct => forGo g ms ds p.2.1 p.2.2
        | .bk => some (.nx, p.2.1, p.2.2)
        | .rt d => some (.rt d, p.2.1, p.2.2) := by
      show Option.bind (g d ρ) _ = _
      rw [e1]
      rfl
    cases fl with
    | nx => rw [e2] at red; rw [red]; exact ih ρ2 S2 hf
    | ct => rw [e2] at red; rw [red]; exact ih ρ2 S2 hf
    | bk => rw [e2] at red; rw [red]; exact ⟨_, _, _, rfl, hf⟩
    | rt d => rw [e2] at red; rw [red]; exact ⟨_, _, _, rfl, hf⟩
end
theorem paired_range (n : Nat) : Paired (fun d i => d = D.int (i : Nat) ∧ i < n) (rangeL 0 n) (List.range n) := by
  unfold rangeL
  have e : ((n : Int) - 0).toNat = n := by omega
  rw [e]
  refine paired_of (by simp) fun i x y h1 h2 => ?_
  rw [List.getElem?_map] at h1
  rw [h2] at h1
  simp only [Option.map_some, Option.some.injEq] at h1
  subst h1
  refine ⟨by simp, ?_⟩
  have := List.mem_of_getElem? h2
  simpa using this
theorem rg1_nat {m : MA} {ρ : Lo} {S S' : Sg} {n : Nat} (h : m ρ S = some ([.int (n : Nat)], S')) (hn : n ≤ 1000000) : mRg1 m ρ S = some (rangeL 0 n, S') := by
  unfold mRg1
  rw [h]
  simp only [Option.bind_some]
  rw [if_pos (by omega)]
theorem paired_zip {α β : Type} {R : D → α → Prop} {Q : D → β → Prop} : ∀ {ds es : List D} {xs : List α} {ys : List β}, Paired R ds xs → Paired Q es ys → Paired (fun d p => ∃ x y, d = D.tup [x, y] ∧ R x p.1 ∧ Q y p.2) (List.zipWith (fun a b => D.tup [a, b]) ds es) (xs.zip ys)
  | _, _, _, _, .nil, _ => .nil
  | _, _, _, _, .cons _ _, .nil => .nil
  | _, _, _, _, .cons r p, .cons q s => .cons ⟨_, _, rfl, r, q⟩ (paired_zip p s)
theorem paired_mapL {α : Type} {R : D → α → Prop} {e : α → D} (h : ∀ a, R (e a) a) : ∀ xs : List α, Paired R (xs.map e) xs
  | [] => .nil
  | a :: xs => .cons (h a) (paired_mapL h xs)
theorem paired_mapM {α : Type} {R : D → α → Prop} {e : α → D} : ∀ {xs : List α}, (∀ a ∈ xs, R (e a) a) → Paired R (xs.map e) xs
  | [], _ => .nil
  | a :: xs, h => .cons (h a List.mem_cons_self) (paired_mapM fun b hb => h b (List.mem_cons_of_mem _ hb))
end Dv
namespace Dv
open PySem PyProof.Rows L2
/-- a comprehension that draws, the turns counted -/
theorem lc_runN {g : MG} {t : MT} {m : ME} {ρ : Lo} {P : D → Prop} : ∀ {ds : List D} {r : Rng} (k : Nat) (I : Nat → Rng → Prop), I k r → (∀ (i : Nat) d r, ds[i]? = some d → I (k + i) r → ∃ ρ1 y r', g d ρ = some ρ1 ∧ t ρ1 (some r) = some (true, some r) ∧ m ρ1 (some r) = some (y, some r') ∧ P y ∧ I (k + i + 1) r') →
    ∃ ys r', lcGo ρ g t m ds (some r) = some (ys, some r') ∧ ys.length = ds.length ∧ (∀ y ∈ ys, P y) ∧ I (k + ds.length) r'
  | [], r, k, I, hi, _ => ⟨[], r, rfl, rfl, (fun _ h => by cases h), hi⟩
  | d :: ds, r, k, I, hi, h => by
    obtain ⟨ρ1, y, r1, e1, e2, e3, p, i1⟩ := h 0 d r rfl hi
    obtain ⟨ys, r2, e4, hl, hp, i2⟩ := lc_runN (k + 1) I i1 fun i d r hd hI => by
      have := h (i + 1) d r (by simpa using hd) (by rw [show k + (i + 1) = k + 1 + i by omega]; exact hI)
      rw [show k + (i + 1) = k + 1 + i by omega] at this
      exact this
    refine ⟨y :: ys, r2, ?_, by simp [hl], fun z hz => ?_, by rw [List.length_cons, show k + (ds.length + 1) = k + 1 + ds.length by omega]; exact i2⟩
    · show Option.bind (g d ρ) _ = _
      rw [e1]
      simp only [Option.bind_some]
      rw [e2]
      simp only [Option.bind_some, if_true]
      rw [e3]
      simp only [Option.bind_some]
      rw [e4]; rfl
    · rcases List.mem_cons.mp hz with rfl | hz
      · exact p
      · exact hp z hz
end Dv
namespace Dv
open PySem PyProof.Rows L2
theorem neD_int (a b : Int) : neD (.int a) (.int b) = some (.bl (decide (a ≠ b))) := by
  have e : PyData.eqv (.int a) (.int b) = decide (a = b) := by
    simp only [PyData.eqv]
    exact Bool.eq_iff_iff.mpr (by simp)
  have : neD (.int a) (.int b) = some (.bl (!PyData.eqv (.int a) (.int b))) := rfl
  rw [this, e]
  by_cases h : a = b <;> simp [h]
theorem eqD_int (a b : Int) : eqD (.int a) (.int b) = some (.bl (decide (a = b))) := by
  have e : PyData.eqv (.int a) (.int b) = decide (a = b) := by
    simp only [PyData.eqv]
    exact Bool.eq_iff_iff.mpr (by simp)
  have : eqD (.int a) (.int b) = some (.bl (PyData.eqv (.int a) (.int b))) := rfl
  rw [this, e]
theorem sSq_nx {m k : MS} {ρ ρ' : Lo} {S S' : Sg} (h : m ρ S = some (.nx, ρ', S')) : sSq m k ρ S = k ρ' S' := by unfold sSq; rw [h]; rfl
theorem sSq_rt {m k : MS} {ρ ρ' : Lo} {S S' : Sg} {d : D} (h : m ρ S = some (.rt d, ρ', S')) : sSq m k ρ S = some (.rt d, ρ', S') := by unfold sSq; rw [h]; rfl
theorem sSq_eq {m k : MS} {ρ : Lo} {S : Sg} : sSq m k ρ S = (m ρ S).bind fun p => match p.1 with | .nx => k p.2.1 p.2.2 | _ => some p := rfl
theorem mOp2_of {f : D → D → Option D} {ma mb : ME} {ρ : Lo} {S S1 S2 : Sg} {d1 d2 d : D} (h1 : ma ρ S = some (d1, S1)) (h2 : mb ρ S1 = some (d2, S2)) (h : f d1 d2 = some d) : mOp2 f ma mb ρ S = some (d, S2) := by
  unfold mOp2
  rw [h1]
  simp only [Option.bind_some]
  rw [h2]
  simp only [Option.bind_some]
  rw [h]
  rfl
theorem sPar2_of {i j : Nat} {k1 k2 : Bool} {m1 m2 : ME} {ρ : Lo} {S S1 S2 : Sg} {d1 d2 : D} (h1 : m1 ρ S = some (d1, S1)) (h2 : m2 ρ S1 = some (d2, S2)) : sPar2 i j k1 m1 k2 m2 ρ S = some (.nx, (ρ.set i (some (mkL k1 d1))).set j (some (mkL k2 d2)), S2) := by
  unfold sPar2
  rw [h1]
  simp only [Option.bind_some]
  rw [h2]
  rfl
theorem lst1_of {m : ME} {ρ : Lo} {S S1 : Sg} {d : D} (h : m ρ S = some (d, S1)) : mLst (mCons m (mPure [])) ρ S = some (.lst [d], S1) := by
  unfold mLst mCons
  rw [h]
  rfl
theorem rangeL_get {n i : Nat} {d : D} (h : (rangeL 0 n)[i]? = some d) : i < n ∧ d = .int (i : Nat) := by
  obtain ⟨a, ha, rfl, hr⟩ := paired_get'' (paired_range n) h
  obtain ⟨hi, e⟩ := List.getElem?_eq_some_iff.mp ha
  have e : i = a := by simpa using e
  subst e
  exact ⟨hr, rfl⟩
theorem rangeL_len (n : Nat) : (rangeL 0 n).length = n := by unfold rangeL; simp
theorem ixN_of {n j : Nat} (h : j < n) : ixN n (j : Int) = some j := by
  unfold ixN
  rw [if_pos (by omega), if_pos (by omega)]; simp
theorem str_ne {a b : Str} (ha : SeqAt.shaped (.str a) = true) (hb : SeqAt.shaped (.str b) = true) : neD (.str a) (.str b) = some (.bl (decide (a ≠ b))) := by
  have e : PyData.eqv (.str a) (.str b) = decide (a = b) := by
    simp only [PyData.eqv]
    exact Bool.eq_iff_iff.mpr (by simp)
  show (if (SeqAt.shaped (.str a) && SeqAt.shaped (.str b)) = true then some (D.bl (!PyData.eqv (.str a) (.str b))) else none) = _
  rw [ha, hb, e]
  by_cases h : a = b <;> simp [h]
theorem str_eq {a b : Str} (ha : SeqAt.shaped (.str a) = true) (hb : SeqAt.shaped (.str b) = true) : eqD (.str a) (.str b) = some (.bl (decide (a = b))) := by
  have e : PyData.eqv (.str a) (.str b) = decide (a = b) := by
    simp only [PyData.eqv]
    exact Bool.eq_iff_iff.mpr (by simp)
  show (if (SeqAt.shaped (.str a) && SeqAt.shaped (.str b)) = true then some (D.bl (PyData.eqv (.str a) (.str b))) else none) = _
  rw [ha, hb, e]
  rfl
theorem mCall_of {f : List D → Option D} {n : MA} {ρ : Lo} {S S1 : Sg} {ds : List D} {d : D} (h : n ρ S = some (ds, S1)) (hf : f ds = some d) : mCall f n ρ S = some (d, S1) := by
  unfold mCall; rw [h]; simp only [Option.bind_some]; rw [hf]; rfl
theorem sRet_of {m : ME} {ρ : Lo} {S S1 : Sg} {d : D} (h : m ρ S = some (d, S1)) : sRet m ρ S = some (.rt d, ρ, S1) := by
  unfold sRet; rw [h]; rfl
theorem runP_rt {k n : Nat} {m : MS} {ds : List D} {d : D} {ρ' : Lo} {S' : Sg} (hl : ds.length = k) (h : m (startL n ds) none = some (.rt d, ρ', S')) : runP k n m ds = some d := by
  unfold runP; rw [if_pos hl, h]; rfl
theorem cons_of {m : ME} {n : MA} {ρ : Lo} {S S1 S2 : Sg} {d : D} {ds : List D} (h : m ρ S = some (d, S1)) (h' : n ρ S1 = some (ds, S2)) : mCons m n ρ S = some (d :: ds, S2) := by
  unfold mCons; rw [h]; simp only [Option.bind_some]; rw [h']; rfl
theorem expr_of {m : ME} {ρ : Lo} {S S1 : Sg} {d : D} (h : m ρ S = some (d, S1)) : sExpr m ρ S = some (.nx, ρ, S1) := by
  unfold sExpr; rw [h]; rfl
theorem six_1 (n : Nat) (h : 1 ≤ n) : HT.sIx n 0 (some 1) = 1 := by
  unfold HT.sIx
  simp
  omega
theorem six_1e (n : Nat) (h : 1 ≤ n) : HT.sIx n n (some 1) = 1 := by
  unfold HT.sIx
  simp
  omega
theorem six_n0 (n : Nat) : HT.sIx n 0 none = 0 := rfl
theorem six_nn (n : Nat) : HT.sIx n n none = n := rfl
theorem sl_tail (x : D) (xs : List D) : slD (.tup (x :: xs)) (some 1) none = some (.tup xs) := by
  have h : slT (.tup (x :: xs)) (some 1) none = some (.tup xs) := by
    unfold slT
    simp only [D.asT]
    rw [six_1 _ (by simp), six_nn, if_neg (by omega)]
    unfold cutG
    rw [six_1 _ (by simp), six_nn]
    simp
  unfold slD
  rw [h]; rfl
theorem sl_head (x : D) (xs : List D) (h0 : xs ≠ []) : slD (.tup (x :: xs)) none (some 1) = some (.tup [x]) := by
  have hl := List.length_pos_iff.mpr h0
  have h : slT (.tup (x :: xs)) none (some 1) = some (.tup [x]) := by
    unfold slT
    simp only [D.asT]
    rw [six_1e _ (by simp), six_n0, if_neg (by simp; omega)]
    unfold cutG
    rw [six_1e _ (by simp), six_n0]
    simp
  unfold slD
  rw [h]; rfl
theorem add_tup {xs ys : List D} (h1 : xs ≠ []) (h2 : ys ≠ []) (hl : xs.length + ys.length ≤ 4000) : addD (.tup xs) (.tup ys) = some (.tup (xs ++ ys)) := by
  have hz : xs.length + ys.length ≤ sizeLine := Nat.le_trans hl (by decide)
  have e1 : xs.isEmpty = false := by cases xs with | nil => exact absurd rfl h1 | cons _ _ => rfl
  have e2 : ys.isEmpty = false := by cases ys with | nil => exact absurd rfl h2 | cons _ _ => rfl
  have h : addT (.tup xs) (.tup ys) = some (.tup (xs ++ ys)) := by
    unfold addT
    simp only [D.asT]
    rw [if_pos hz, e1, e2]
    rfl
  have h3 : addI (.tup xs) (.tup ys) = none := rfl
  have h4 : addS (.tup xs) (.tup ys) = none := rfl
  unfold addD
  rw [h, h3, h4]
  rfl
theorem mSl_of {f : D → Option Int → Option Int → Option D} {m : ME} {l u : MO} {ρ : Lo} {S : Sg} {d0 d : D} {lo hi : Option Int} (h1 : m ρ S = some (d0, S)) (h2 : l ρ S = some (lo, S)) (h3 : u ρ S = some (hi, S)) (h : f d0 lo hi = some d) : mSl f m l u ρ S = some (d, S) := by
  unfold mSl
  rw [h1]; simp only [Option.bind_some]
  rw [h2]; simp only [Option.bind_some]
  rw [h3]; simp only [Option.bind_some]
  rw [h]; rfl
theorem mLz_of {m : MA} {ρ : Lo} {S : Sg} {xs ys : List D} (h : m ρ S = some ([.tup xs, .tup ys], S)) : mLz m ρ S = some (.lst (List.zipWith (fun a b => D.tup [a, b]) xs ys), S) := by
  unfold mLz
  rw [h]; rfl
theorem sl_tailL (x : D) (xs : List D) : slD (.lst (x :: xs)) (some 1) none = some (.lst xs) := by
  have h : slL (.lst (x :: xs)) (some 1) none = some (.lst xs) := by
    unfold slL
    simp only [cutG]
    rw [six_1 _ (by simp), six_nn]
    simp
  unfold slD
  rw [h]; rfl
theorem mSeq_of {m : ME} {ρ : Lo} {S S1 : Sg} {d : D} {ds : List D} (h : m ρ S = some (d, S1)) (hi : itemsD d = some ds) : mSeq m ρ S = some (ds, S1) := by
  unfold mSeq; rw [h]; simp only [Option.bind_some]; rw [hi]; rfl
theorem for_of {mi : MA} {g : MG} {m : MS} {ρ : Lo} {S S1 : Sg} {ds : List D} {r : Fl × Lo × Sg} (h : mi ρ S = some (ds, S1)) (hf : forGo g m ds ρ S1 = some r) : sFor mi g m ρ S = some r := by
  unfold sFor; rw [h]; exact hf
theorem sPar3_of {i j l : Nat} {k1 k2 k3 : Bool} {m1 m2 m3 : ME} {ρ : Lo} {S S1 S2 S3 : Sg} {d1 d2 d3 : D} (h1 : m1 ρ S = some (d1, S1)) (h2 : m2 ρ S1 = some (d2, S2)) (h3 : m3 ρ S2 = some (d3, S3)) : sPar3 i j l k1 m1 k2 m2 k3 m3 ρ S = some (.nx, ((ρ.set i (some (mkL k1 d1))).set j (some (mkL k2 d2))).set l (some (mkL k3 d3)), S3) := by
  unfold sPar3
  rw [h1]; simp only [Option.bind_some]
  rw [h2]; simp only [Option.bind_some]
  rw [h3]; rfl
theorem set_of' {i : Nat} {m : ME} {ρ : Lo} {S S' : Sg} {d : D} (h : m ρ S = some (d, S')) : sSet i m ρ S = some (.nx, ρ.set i (some (.imm d)), S') := by
  unfold sSet; rw [h]; rfl
theorem bls_map {α : Type} (b : α → Bool) : ∀ xs : List α, blsD (xs.map fun a => D.bl (b a)) = some (xs.map b)
  | [] => rfl
  | a :: xs => by
    show (blsD (xs.map _)).map _ = _
    rw [bls_map b xs]; rfl
theorem all_map {α : Type} (b : α → Bool) (xs : List α) : allD [.lst (xs.map fun a => D.bl (b a))] = some (.bl (xs.all b)) := by
  unfold allD
  simp only [bls_map, Option.map_some, List.all_map]
  rfl
theorem any_map {α : Type} (b : α → Bool) (xs : List α) : anyD [.lst (xs.map fun a => D.bl (b a))] = some (.bl (xs.any b)) := by
  unfold anyD
  simp only [bls_map, Option.map_some, List.any_map]
  rfl
theorem isi_ii (i : Int) : isiD "int" (.int i) = some (.bl true) := by rfl
theorem isi_bi (i : Int) : isiD "bool" (.int i) = some (.bl false) := by rfl
theorem isi_tt (ds : List D) : isiD "tuple" (.tup ds) = some (.bl true) := by rfl
theorem isi_tk (ds : List D) : isiD "tuple" (.kt ds) = some (.bl true) := by rfl
theorem isi_ss (x : Str) : isiD "str" (.str x) = some (.bl true) := by rfl
theorem lcB {α : Type} {R : D → α → Prop} {g : MG} {m : ME} {ρ : Lo} {ds : List D} {xs : List α} (b : α → Bool) (hp : Paired R ds xs) (h : ∀ d a, R d a → a ∈ xs → ∃ ρ1, g d ρ = some ρ1 ∧ m ρ1 none = some (.bl (b a), none)) : lcGo ρ g (mPure true) m ds none = some (xs.map (fun a => D.bl (b a)), none) :=
  lc_rel (fun a => D.bl (b a)) hp fun d a r ha => let ⟨ρ1, e1, e2⟩ := h d a r ha; ⟨ρ1, e1, rfl, e2⟩
theorem runR_rt {k n : Nat} {m : MS} {ds : List D} {r r' : Rng} {d : D} {ρ' : Lo} (hl : ds.length = k) (h : m (startL n ds) (some r) = some (.rt d, ρ', some r')) (h1 : r'.at_ = r.at_) (h2 : r'.gA = r.gA) : runR k n m ds r = some (d, r') := by
  unfold runR
  rw [if_pos hl, h]
  simp only [Option.bind_some, outF]
  rw [if_pos ⟨h1, h2⟩]
theorem callR_of {f : List D → Rng → Option (D × Rng)} {m : MA} {ρ : Lo} {S : Sg} {ds : List D} {r r' : Rng} {d : D} (h : m ρ S = some (ds, some r)) (hf : f ds r = some (d, r')) (h1 : r'.at_ = r.at_) (h2 : r'.gA = r.gA) : mCallR f m ρ S = some (d, some r') := by
  unfold mCallR
  rw [h]
  simp only [Option.bind_some]
  rw [hf]
  simp only [Option.bind_some]
  rw [if_pos ⟨h1, h2⟩]
structure Later (r r' : Rng) : Prop where
  a : r'.at_ = r.at_
  g : r'.gA = r.gA
theorem Later.trans {r r' r'' : Rng} (h : Later r r') (h' : Later r' r'') : Later r r'' := ⟨h'.a.trans h.a, h'.g.trans h.g⟩
theorem mTst_of {m : ME} {ρ : Lo} {S S1 : Sg} {b : Bool} (h : m ρ S = some (.bl b, S1)) : mTst m ρ S = some (b, S1) := by
  unfold mTst; rw [h]; rfl
theorem ne_nil : neD (.lst []) (.lst []) = some (.bl false) := by
  have h : SeqAt.shaped (.list []) = true := by decide +kernel
  show (if (SeqAt.shaped (.list []) && SeqAt.shaped (.list [])) = true then some (D.bl (!PyData.eqv (.list []) (.list []))) else none) = _
  rw [h]
  simp [PyData.eqv, PyData.eqvAll]
theorem lst_of {m : MA} {ρ : Lo} {S S' : Sg} {ds : List D} (h : m ρ S = some (ds, S')) (hl : ds.length ≤ 4096) : mLst m ρ S = some (.lst ds, S') := by
  unfold mLst; rw [h]; simp only [Option.bind_some]; rw [if_pos hl]
theorem tup_of {m : MA} {ρ : Lo} {S S' : Sg} {ds : List D} (h : m ρ S = some (ds, S')) (hl : ds.length ≤ 4096) : mTup m ρ S = some (.tup ds, S') := by
  unfold mTup; rw [h]; simp only [Option.bind_some]; rw [if_pos hl]
theorem sIf_of {t : MT} {m k : MS} {ρ : Lo} {S S1 : Sg} {b : Bool} (h : t ρ S = some (b, S1)) : sIf t m k ρ S = if b then m ρ S1 else k ρ S1 := by
  unfold sIf; rw [h]; rfl
theorem sSq_no {m n : MS} {ρ ρ' : Lo} {S S' : Sg} {fl : Fl} (h : m ρ S = some (fl, ρ', S')) (hf : fl ≠ .nx) : sSq m n ρ S = some (fl, ρ', S') := by
  unfold sSq; rw [h]; cases fl <;> first | rfl | exact absurd rfl hf
theorem paired_enum {α : Type} {f : α → D} (xs : List α) : Paired (fun d p => d = D.tup [.int (p.2 : Nat), f p.1] ∧ xs[p.2]? = some p.1) ((xs.map f).mapIdx fun i d => D.tup [.int (i : Nat), d]) xs.zipIdx := by
  refine paired_of (by simp) fun i x y h1 h2 => ?_
  rw [List.getElem?_zipIdx] at h2
  obtain ⟨a, ha, rfl⟩ := Option.map_eq_some_iff.mp h2
  rw [List.getElem?_mapIdx, List.getElem?_map, ha] at h1
  simp only [Option.map_some, Option.some.injEq] at h1
  subst h1
  simp only [Nat.zero_add]
  exact ⟨trivial, ha⟩
theorem zipIdx_fst {α β : Type} (f : α → β) (xs : List α) : xs.zipIdx.map (fun p => f p.1) = xs.map f := by
  have e : xs.zipIdx.map (f ∘ Prod.fst) = (xs.zipIdx.map Prod.fst).map f := by rw [List.map_map]
  refine Eq.trans e ?_
  rw [List.zipIdx_map_fst]
end Dv
namespace K66
open PySem PyProof.Rows L2 Dv

/-! ### ratios as data -/
def mk (q : Rat) : D := .tup [.int q.num, .int q.den]
def IsR (d : D) (q : Rat) : Prop := d = mk q ∨ d = .kt [.int q.num, .int q.den]
theorem isR_mk (q : Rat) : IsR (mk q) q := .inl rfl
theorem isR_zero : IsR (.kt [.int 0, .int 1]) 0 := .inr rfl
theorem isR_zero' : IsR (.tup [.int 0, .int 1]) 0 := .inl rfl
theorem IsR.items {d : D} {q : Rat} (h : IsR d q) : itemsD d = some [.int q.num, .int q.den] := by rcases h with rfl | rfl <;> rfl
theorem IsR.at0 {d : D} {q : Rat} (h : IsR d q) : ixD d (.int 0) = some (.int q.num) := by rcases h with rfl | rfl <;> rfl
theorem IsR.at1 {d : D} {q : Rat} (h : IsR d q) : ixD d (.int 1) = some (.int q.den) := by rcases h with rfl | rfl <;> rfl

/-! ### sizes -/
theorem log2_mul (a b : Nat) : (a * b).log2 ≤ a.log2 + b.log2 + 1 := by
  by_cases ha : a = 0
  · subst ha; simp
  by_cases hb : b = 0
  · subst hb; simp
  have h0 : a * b ≠ 0 := Nat.mul_ne_zero ha hb
  have h1 : a < 2 ^ (a.log2 + 1) := Nat.lt_log2_self
  have h2 : b < 2 ^ (b.log2 + 1) := Nat.lt_log2_self
  have h3 : a * b < 2 ^ ((a.log2 + 1) + (b.log2 + 1)) := by
    rw [Nat.pow_add]
    exact Nat.mul_lt_mul'' h1 h2
  have := (Nat.log2_lt h0).mpr h3
  omega
theorem log2_mono {a b : Nat} (h : a ≤ b) : a.log2 ≤ b.log2 := by
  by_cases ha : a = 0
  · subst ha; simp
  · have hb : b ≠ 0 := by omega
    have h2 : a < 2 ^ (b.log2 + 1) := Nat.lt_of_le_of_lt h Nat.lt_log2_self
    have := (Nat.log2_lt ha).mpr h2
    omega
structure Sm (q : Rat) : Prop where
  den : q.den.log2 < 4000
  num : q.num.natAbs.log2 < 100000
theorem Sm.nd {a b : Rat} (h : Sm a) (h' : Sm b) : a.num.natAbs.log2 + (b.den : Int).natAbs.log2 < 1000000 := by
  have := h.num; have := h'.den
  simp only [Int.natAbs_natCast]; omega
theorem Sm.nn {a b : Rat} (h : Sm a) (h' : Sm b) : a.num.natAbs.log2 + b.num.natAbs.log2 < 1000000 := by
  have := h.num; have := h'.num
  omega
theorem Sm.dd {a b : Rat} (h : Sm a) (h' : Sm b) : (a.den : Int).natAbs.log2 + (b.den : Int).natAbs.log2 < 1000000 := by
  have := h.den; have := h'.den
  simp only [Int.natAbs_natCast]; omega
theorem Sm.dd9 {a b : Rat} (h : Sm a) (h' : Sm b) : (a.den * b.den).log2 < 9000 := by
  have := log2_mul a.den b.den
  have := h.den; have := h'.den
  omega

/-! ### lowest, plus, minus, times, is_less -/
/-! ### the law's own -/
theorem iabs_nat (n : Int) : iabs n = (n.natAbs : Int) := by unfold iabs; split <;> omega
theorem law_gcd {t : MT} {m : MS} (ht : t = mTst (mOp2 gtD (mVarB 3) (mPure (.int 0)))) (hm : m = sPar2 2 3 false (mVar 3) false (mOp2 modD (mCall intD (mCons (mVarB 2) (mPure []))) (mVarB 3))) {n d : D} :
    ∀ (b a : Nat), ∃ k, whN t m k [some (.imm n), some (.imm d), some (.imm (.int (a : Int))), some (.imm (.int (b : Int)))] none = some (.nx, [some (.imm n), some (.imm d), some (.imm (.int (Nat.gcd a b : Nat))), some (.imm (.int 0))], none) := by
  intro b
  induction b using Nat.strongRecOn with
  | ind b ih =>
    intro a
    by_cases hb : b = 0
    · subst hb
      refine ⟨1, ?_⟩
      unfold whN
      subst ht
      simp only [runP, startL, outF, mVar, mVarB, mPure, mOp1, mOp2, mCons, mCall, mTup, mLst, mTst, asB, mNot, mAnd, mOr, mAndV, mOrV, mIte, mSeq, sSq, sIf, sRet, sSet, sSetF, sNil, sFrz, frz, sExpr, sPar2, sPar3, sAsg, mkL, gNm, gTp, gCns, gNl, D.asT, itemsD, addD_int, subD_int, ltD_int, leD_int, gtD_int, geD_int, negD_int, gcdD_int, absD_int, Option.bind_some, Option.map_some, Option.bind_none, Option.map_none, List.map_cons, List.map_nil, List.length_cons, List.length_nil, List.cons_append, List.nil_append, List.getElem?_cons_zero, List.getElem?_cons_succ, List.set_cons_zero, List.set_cons_succ, List.replicate_succ, List.replicate_zero, Nat.reduceAdd, Nat.reduceSub, Nat.reduceLeDiff, if_true, if_false, ite_true, ite_false, Bool.false_eq_true, Int.natCast_zero, Int.lt_irrefl, decide_false, Nat.gcd_zero_right]
    · obtain ⟨k, hk⟩ := ih (a % b) (Nat.mod_lt _ (by omega)) b
      have h0 : (0 : Int) < (b : Int) := by omega
      refine ⟨k + 1, ?_⟩
      unfold whN
      have e : t [some (.imm n), some (.imm d), some (.imm (.int (a : Int))), some (.imm (.int (b : Int)))] none = some (true, none) := by
        subst ht; simp only [runP, startL, outF, mVar, mVarB, mPure, mOp1, mOp2, mCons, mCall, mTup, mLst, mTst, asB, mNot, mAnd, mOr, mAndV, mOrV, mIte, mSeq, sSq, sIf, sRet, sSet, sSetF, sNil, sFrz, frz, sExpr, sPar2, sPar3, sAsg, mkL, gNm, gTp, gCns, gNl, D.asT, itemsD, addD_int, subD_int, ltD_int, leD_int, gtD_int, geD_int, negD_int, gcdD_int, absD_int, Option.bind_some, Option.map_some, Option.bind_none, Option.map_none, List.map_cons, List.map_nil, List.length_cons, List.length_nil, List.cons_append, List.nil_append, List.getElem?_cons_zero, List.getElem?_cons_succ, List.set_cons_zero, List.set_cons_succ, List.replicate_succ, List.replicate_zero, Nat.reduceAdd, Nat.reduceSub, Nat.reduceLeDiff, if_true, if_false, ite_true, ite_false, Bool.false_eq_true, h0, decide_true]
      have e2 : m [some (.imm n), some (.imm d), some (.imm (.int (a : Int))), some (.imm (.int (b : Int)))] none = some (.nx, [some (.imm n), some (.imm d), some (.imm (.int (b : Int))), some (.imm (.int ((a % b : Nat) : Int)))], none) := by
        subst hm; simp only [runP, startL, outF, mVar, mVarB, mPure, mOp1, mOp2, mCons, mCall, mTup, mLst, mTst, asB, mNot, mAnd, mOr, mAndV, mOrV, mIte, mSeq, sSq, sIf, sRet, sSet, sSetF, sNil, sFrz, frz, sExpr, sPar2, sPar3, sAsg, mkL, gNm, gTp, gCns, gNl, D.asT, itemsD, addD_int, subD_int, ltD_int, leD_int, gtD_int, geD_int, negD_int, gcdD_int, absD_int, Option.bind_some, Option.map_some, Option.bind_none, Option.map_none, List.map_cons, List.map_nil, List.length_cons, List.length_nil, List.cons_append, List.nil_append, List.getElem?_cons_zero, List.getElem?_cons_succ, List.set_cons_zero, List.set_cons_succ, List.replicate_succ, List.replicate_zero, Nat.reduceAdd, Nat.reduceSub, Nat.reduceLeDiff, if_true, if_false, ite_true, ite_false, Bool.false_eq_true, Dv.intD, modD_int h0, Int.natCast_emod]
      rw [e]
      simp only [Option.bind_some, if_true]
      rw [e2]
      simp only [Option.bind_some]
      rw [hk, Nat.gcd_comm b, ← Nat.gcd_rec, Nat.gcd_comm b]
end K66
namespace K66
open PySem PyProof.Rows L2 Dv

/-! ### numbers over a common denominator -/
/-- q is z / D, z no greater than N -/
def InD (D N : Nat) (q : Rat) : Prop := ∃ z : Int, z.natAbs ≤ N ∧ q = mkRat z D
theorem InD.mono {D N M : Nat} {q : Rat} (h : InD D N q) (l : N ≤ M) : InD D M q := let ⟨z, a, b⟩ := h; ⟨z, Nat.le_trans a l, b⟩
theorem inD_zero {D : Nat} : InD D 0 0 := ⟨0, by simp, by simp⟩
theorem mkRat_add_same {a b : Int} {D : Nat} (h : D ≠ 0) : mkRat a D + mkRat b D = mkRat (a + b) D := by
  rw [Rat.mkRat_add_mkRat _ _ h h, ← Int.add_mul, Rat.mkRat_mul_right h]
theorem InD.add {D N M : Nat} {q r : Rat} (hD : D ≠ 0) (h : InD D N q) (h' : InD D M r) : InD D (N + M) (q + r) := by
  obtain ⟨a, ha, rfl⟩ := h
  obtain ⟨b, hb, rfl⟩ := h'
  exact ⟨a + b, by omega, mkRat_add_same hD⟩
theorem InD.neg {D N : Nat} {q : Rat} (h : InD D N q) : InD D N (-q) := by
  obtain ⟨a, ha, rfl⟩ := h
  exact ⟨-a, by omega, by rw [Rat.neg_mkRat]⟩
theorem InD.sub {D N M : Nat} {q r : Rat} (hD : D ≠ 0) (h : InD D N q) (h' : InD D M r) : InD D (N + M) (q - r) := by
  rw [Rat.sub_eq_add_neg]; exact h.add hD h'.neg
theorem InD.mul {D E N M : Nat} {q r : Rat} (h : InD D N q) (h' : InD E M r) : InD (D * E) (N * M) (q * r) := by
  obtain ⟨a, ha, rfl⟩ := h
  obtain ⟨b, hb, rfl⟩ := h'
  refine ⟨a * b, ?_, by rw [Rat.mkRat_mul_mkRat]⟩
  rw [Int.natAbs_mul]
  exact Nat.mul_le_mul ha hb
theorem inD_self (q : Rat) : InD q.den q.num.natAbs q := ⟨q.num, Nat.le_refl _, (Rat.mkRat_self q).symm⟩
theorem InD.up {D N k : Nat} {q : Rat} (hk : k ≠ 0) (h : InD D N q) : InD (D * k) (N * k) q := by
  obtain ⟨a, ha, rfl⟩ := h
  refine ⟨a * k, ?_, (Rat.mkRat_mul_right hk).symm⟩
  rw [Int.natAbs_mul, Int.natAbs_natCast]
  exact Nat.mul_le_mul ha (Nat.le_refl _)
theorem InD.sm {D N : Nat} {q : Rat} (hD : D ≠ 0) (h : InD D N q) (d4 : D.log2 < 4000) (n5 : N.log2 < 100000) : Sm q := by
  obtain ⟨a, ha, rfl⟩ := h
  have g0 : 0 < D.gcd a.natAbs := Nat.gcd_pos_of_pos_left _ (by omega)
  refine ⟨?_, ?_⟩
  · rw [Rat.den_mkRat, if_neg hD]
    exact Nat.lt_of_le_of_lt (log2_mono (Nat.div_le_self _ _)) d4
  · rw [Rat.num_mkRat, if_neg hD]
    refine Nat.lt_of_le_of_lt (log2_mono ?_) n5
    refine Nat.le_trans ?_ ha
    rw [Int.natAbs_ediv_of_dvd (Int.ofNat_dvd_left.mpr (Nat.gcd_dvd_right _ _)), Int.natAbs_natCast]
    exact Nat.div_le_self _ _
/-- the sum of a list -/
def rsum (l : List Rat) : Rat := l.foldl (· + ·) 0
theorem foldl_add (a : Rat) : ∀ l : List Rat, l.foldl (· + ·) a = a + rsum l
  | [] => (Rat.add_zero a).symm
  | x :: l => by
    show l.foldl (· + ·) (a + x) = a + l.foldl (· + ·) (0 + x)
    rw [foldl_add (a + x) l, foldl_add (0 + x) l, Rat.zero_add, Rat.add_assoc]
theorem rsum_cons (x : Rat) (l : List Rat) : rsum (x :: l) = x + rsum l := by
  show l.foldl (· + ·) (0 + x) = _
  rw [foldl_add, Rat.zero_add]
theorem inD_sum {D N : Nat} (hD : D ≠ 0) : ∀ {l : List Rat}, (∀ q ∈ l, InD D N q) → InD D (l.length * N) (rsum l)
  | [], _ => inD_zero.mono (Nat.zero_le _)
  | x :: l, h => by
    rw [rsum_cons]
    have h1 := (h x List.mem_cons_self).add hD (inD_sum hD (l := l) fun q hq => h q (List.mem_cons_of_mem _ hq))
    refine h1.mono ?_
    rw [List.length_cons, Nat.succ_mul]; omega

/-- the bounds that hold of a problem -/
structure Bd (D N : Nat) : Prop where
  d0 : D ≠ 0
  d4 : D.log2 < 4000
  n5 : N.log2 < 100000
theorem Bd.sm {D N M : Nat} {q : Rat} (b : Bd D N) (h : InD D M q) (l : M ≤ N) : Sm q := h.sm b.d0 b.d4 (Nat.lt_of_le_of_lt (log2_mono l) b.n5)
abbrev RL (ds : List D) (qs : List Rat) : Prop := Paired IsR ds qs
theorem rl_mk (qs : List Rat) : RL (qs.map mk) qs := paired_mapL isR_mk qs

/-! ### total -/
abbrev PlusF (f : List D → Option D) : Prop := ∀ {x y : D} {a b : Rat}, IsR x a → IsR y b → Sm a → Sm b → f [x, y] = some (mk (a + b))
theorem total_go {f : List D → Option D} (hf : PlusF f) {E N M K : Nat} (bd : Bd E N) (hK : K * M ≤ N) (hM : M ≤ N) {d0 : D} : ∀ {ds : List D} {qs : List Rat}, RL ds qs → (∀ q ∈ qs, InD E M q) → ∀ (k : Nat) (x : D) (a : Rat) (y : Option LV), IsR x a → InD E (k * M) a → k + qs.length ≤ K →
    ∃ d y', forGo (gNm 2) (sSet 1 (mCall f (mCons (mVar 1) (mCons (mVar 2) (mPure []))))) ds [some (.imm d0), some (.imm x), y] none = some (.nx, [some (.imm d0), some (.imm d), y'], none) ∧ IsR d (qs.foldl (· + ·) a) ∧ (x = mk a ∨ qs ≠ [] → d = mk (qs.foldl (· + ·) a))
  | _, _, .nil, _, k, x, a, y, hx, _, _ => ⟨x, y, rfl, hx, fun h => by rcases h with h | h; exact h; exact absurd rfl h⟩
  | d :: ds, q :: qs, .cons r p, hq, k, x, a, y, hx, ha, hk => by
    have h1 : InD E M q := hq q List.mem_cons_self
    have hk' : k ≤ K := by omega
    have e := hf hx r (bd.sm ha (Nat.le_trans (Nat.mul_le_mul_right M hk') hK)) (bd.sm h1 hM)
    obtain ⟨d', y', e2, h2⟩ := total_go hf bd hK hM p (fun q hq' => hq q (List.mem_cons_of_mem _ hq')) (k + 1) (mk (a + q)) (a + q) (some (.imm d)) (isR_mk _) (by rw [Nat.succ_mul]; exact ha.add bd.d0 h1) (by rw [List.length_cons] at hk; omega)
    refine ⟨d', y', ?_, h2.1, fun _ => h2.2 (.inl rfl)⟩
    rw [← e2]
    show Option.bind (gNm 2 d [some (.imm d0), some (.imm x), y]) _ = _
    simp only [runP, startL, outF, mVar, mVarB, mPure, mOp1, mOp2, mCons, mCall, mTup, mLst, mTst, asB, mNot, mAnd, mOr, mAndV, mOrV, mIte, mSeq, sSq, sIf, sRet, sSet, sSetF, sNil, sFrz, frz, sExpr, sPar2, sPar3, sAsg, mkL, gNm, gTp, gCns, gNl, D.asT, itemsD, addD_int, subD_int, ltD_int, leD_int, gtD_int, geD_int, negD_int, gcdD_int, absD_int, Option.bind_some, Option.map_some, Option.bind_none, Option.map_none, List.map_cons, List.map_nil, List.length_cons, List.length_nil, List.cons_append, List.nil_append, List.getElem?_cons_zero, List.getElem?_cons_succ, List.set_cons_zero, List.set_cons_succ, List.replicate_succ, List.replicate_zero, Nat.reduceAdd, Nat.reduceSub, Nat.reduceLeDiff, if_true, if_false, ite_true, ite_false, Bool.false_eq_true, e]
/-! ### dot -/
def rdot (p q : List Rat) : Rat := rsum ((p.zip q).map fun x => x.1 * x.2)
theorem rl_items {x : D} {ds : List D} {ps : List Rat} (h : itemsD x = some ds) (_ : RL ds ps) : itemsD x = some ds := h
/-- a vector: a tuple of ratios -/
structure VecR (x : D) (ps : List Rat) : Prop where
  ex : ∃ ds, x = .tup ds ∧ RL ds ps
theorem dot_in {E N : Nat} {ps qs : List Rat} (hp : ∀ q ∈ ps, InD E N q) (hq : ∀ q ∈ qs, InD E N q) : ∀ z ∈ (ps.zip qs).map fun x => x.1 * x.2, InD (E * E) (N * N) z := fun z hz => by
  obtain ⟨⟨a, b⟩, hm, rfl⟩ := List.mem_map.mp hz
  exact (hp a (List.of_mem_zip hm).1).mul (hq b (List.of_mem_zip hm).2)
theorem dot_len (ps qs : List Rat) : ((ps.zip qs).map fun x => x.1 * x.2).length ≤ ps.length := by
  rw [List.length_map, List.length_zip]; omega
theorem rdot_in {E N : Nat} (hE : E ≠ 0) {ps qs : List Rat} (hp : ∀ q ∈ ps, InD E N q) (hq : ∀ q ∈ qs, InD E N q) : InD (E * E) (ps.length * (N * N)) (rdot ps qs) :=
  (inD_sum (Nat.mul_ne_zero hE hE) (dot_in hp hq)).mono (Nat.mul_le_mul_right _ (dot_len ps qs))
end K66
namespace K66
open PySem PyProof.Rows L2 Dv

/-! ### both parts no greater than 2 ^ X -/
structure Sz (X : Nat) (q : Rat) : Prop where
  num : q.num.natAbs ≤ 2 ^ X
  den : q.den ≤ 2 ^ X
theorem log2_le {n X : Nat} (h : n ≤ 2 ^ X) : n.log2 ≤ X := by
  have := log2_mono h
  rwa [Nat.log2_two_pow] at this
theorem Sz.nl {X : Nat} {q : Rat} (h : Sz X q) : q.num.natAbs.log2 ≤ X := log2_le h.num
theorem Sz.dl {X : Nat} {q : Rat} (h : Sz X q) : q.den.log2 ≤ X := log2_le h.den
theorem Sz.mono {X Y : Nat} {q : Rat} (h : Sz X q) (l : X ≤ Y) : Sz Y q := ⟨Nat.le_trans h.num (Nat.pow_le_pow_right (by omega) l), Nat.le_trans h.den (Nat.pow_le_pow_right (by omega) l)⟩
theorem sz_mk {n : Int} {k X : Nat} (hk : 0 < k) (h1 : n.natAbs ≤ 2 ^ X) (h2 : k ≤ 2 ^ X) : Sz X (mkRat n k) := by
  have hk0 : k ≠ 0 := by omega
  have g0 : 0 < k.gcd n.natAbs := Nat.gcd_pos_of_pos_left _ hk
  refine ⟨?_, ?_⟩
  · rw [Rat.num_mkRat, if_neg hk0, Int.natAbs_ediv_of_dvd (Int.ofNat_dvd_left.mpr (Nat.gcd_dvd_right _ _)), Int.natAbs_natCast]
    exact Nat.le_trans (Nat.div_le_self _ _) h1
  · rw [Rat.den_mkRat, if_neg hk0]
    exact Nat.le_trans (Nat.div_le_self _ _) h2
theorem sz_zero : Sz 0 0 := ⟨by decide, by decide⟩
theorem sz_one : Sz 0 1 := ⟨by decide, by decide⟩
theorem pow_add' (X Y : Nat) : 2 ^ (X + Y) = 2 ^ X * 2 ^ Y := Nat.pow_add 2 X Y
theorem Sz.mul {X Y : Nat} {a b : Rat} (ha : Sz X a) (hb : Sz Y b) : Sz (X + Y) (a * b) := by
  rw [Rat.mul_def']
  refine sz_mk (Nat.mul_pos a.den_pos b.den_pos) ?_ ?_
  · rw [Int.natAbs_mul, pow_add']; exact Nat.mul_le_mul ha.num hb.num
  · rw [pow_add']; exact Nat.mul_le_mul ha.den hb.den
theorem Sz.add {X Y : Nat} {a b : Rat} (ha : Sz X a) (hb : Sz Y b) : Sz (X + Y + 1) (a + b) := by
  rw [Rat.add_def']
  have e : 2 ^ (X + Y + 1) = 2 ^ X * 2 ^ Y + 2 ^ X * 2 ^ Y := by rw [Nat.pow_succ, pow_add']; omega
  refine sz_mk (Nat.mul_pos a.den_pos b.den_pos) ?_ ?_
  · have h1 : (a.num * (b.den : Int)).natAbs ≤ 2 ^ X * 2 ^ Y := by rw [Int.natAbs_mul, Int.natAbs_natCast]; exact Nat.mul_le_mul ha.num hb.den
    have h2 : (b.num * (a.den : Int)).natAbs ≤ 2 ^ X * 2 ^ Y := by rw [Int.natAbs_mul, Int.natAbs_natCast, Nat.mul_comm]; exact Nat.mul_le_mul ha.den hb.num
    rw [e]
    exact Nat.le_trans (Int.natAbs_add_le _ _) (Nat.add_le_add h1 h2)
  · rw [e]
    exact Nat.le_trans (Nat.mul_le_mul ha.den hb.den) (Nat.le_add_right _ _)
theorem Sz.neg {X : Nat} {a : Rat} (h : Sz X a) : Sz X (-a) := ⟨by rw [Rat.neg_num, Int.natAbs_neg]; exact h.num, by rw [Rat.neg_den]; exact h.den⟩
theorem Sz.sub {X Y : Nat} {a b : Rat} (ha : Sz X a) (hb : Sz Y b) : Sz (X + Y + 1) (a - b) := by
  rw [Rat.sub_eq_add_neg]; exact ha.add hb.neg
theorem num_pos' {q : Rat} (h : 0 < q) : 0 < q.num := by
  have := Rat.num_nonneg.mpr (Rat.le_of_lt h)
  have h2 : q.num ≠ 0 := fun z => by rw [Rat.num_eq_zero.mp z] at h; exact Rat.lt_irrefl h
  omega
theorem nat_num {q : Rat} (h : 0 < q) : q.num = (q.num.natAbs : Int) := by have := num_pos' h; omega
theorem div_eq_mk {a b : Rat} (hb : 0 < b) : a / b = mkRat (a.num * b.den) (a.den * b.num.natAbs) := by
  have h2 := num_pos' hb
  have hb0 : b ≠ 0 := fun z => by rw [z] at hb; exact Rat.lt_irrefl hb
  have e : mkRat (a.num * b.den) (a.den * b.num.natAbs) * b = a := by
    have e1 : mkRat (b.num.natAbs : Int) b.den = b := by rw [← nat_num hb]; exact Rat.mkRat_self b
    conv => lhs; rhs; rw [← e1]
    rw [Rat.mkRat_mul_mkRat]
    have e2 : a.num * (b.den : Int) * (b.num.natAbs : Int) = a.num * ((b.den * b.num.natAbs : Nat) : Int) := by rw [Int.natCast_mul, Int.mul_assoc]
    have e3 : a.den * b.num.natAbs * b.den = a.den * (b.den * b.num.natAbs) := by rw [Nat.mul_assoc, Nat.mul_comm b.num.natAbs]
    rw [e2, e3, Rat.mkRat_mul_right (Nat.mul_ne_zero b.den_nz (by omega)), Rat.mkRat_self]
  obtain ⟨c, hc⟩ : ∃ c, c = mkRat (a.num * b.den) (a.den * b.num.natAbs) := ⟨_, rfl⟩
  rw [← hc] at e ⊢
  rw [← e, Rat.mul_div_cancel hb0]
theorem Sz.div {X Y : Nat} {a b : Rat} (ha : Sz X a) (hb : Sz Y b) (h0 : 0 < b) : Sz (X + Y) (a / b) := by
  have h2 := num_pos' h0
  rw [div_eq_mk h0]
  refine sz_mk (Nat.mul_pos a.den_pos (by omega)) ?_ ?_
  · rw [Int.natAbs_mul, Int.natAbs_natCast, pow_add']; exact Nat.mul_le_mul ha.num hb.den
  · rw [pow_add']; exact Nat.mul_le_mul ha.den hb.num
theorem sz_of {D N X : Nat} {q : Rat} (h : InD D N q) (hD : D ≠ 0) (h1 : D ≤ 2 ^ X) (h2 : N ≤ 2 ^ X) : Sz X q := by
  obtain ⟨z, hz, rfl⟩ := h
  exact sz_mk (by omega) (Nat.le_trans hz h2) h1
section
variable {x y : D} {a b : Rat} {X Y : Nat}
theorem nd9 (sa : Sz X a) (sb : Sz Y b) (h : X + Y < 8990) : a.num.natAbs.log2 + (b.den : Int).natAbs.log2 < 1000000 := by
  have n1 := sa.nl
  have d2 := sb.dl
  simp only [Int.natAbs_natCast]; omega
theorem dd9 (sa : Sz X a) (sb : Sz Y b) (h : X + Y < 8990) : (a.den : Int).natAbs.log2 + (b.den : Int).natAbs.log2 < 1000000 := by
  have n1 := sa.dl
  have d2 := sb.dl
  simp only [Int.natAbs_natCast]; omega
theorem nn9 (sa : Sz X a) (sb : Sz Y b) (h : X + Y < 8990) : a.num.natAbs.log2 + b.num.natAbs.log2 < 1000000 := by
  have n1 := sa.nl
  have d2 := sb.nl
  omega
theorem dl9 (sa : Sz X a) (sb : Sz Y b) (h : X + Y < 8990) : (a.den * b.den).log2 < 9000 := by
  have h2 := log2_mul a.den b.den
  have n1 := sa.dl
  have d2 := sb.dl
  omega
theorem dn9 (sa : Sz X a) (sb : Sz Y b) (h : X + Y < 8990) : (a.den * b.num.natAbs).log2 < 9000 := by
  have h2 := log2_mul a.den b.num.natAbs
  have n1 := sa.dl
  have d2 := sb.nl
  omega
theorem dn9' (sa : Sz X a) (sb : Sz Y b) (h : X + Y < 8990) : (a.den : Int).natAbs.log2 + b.num.natAbs.log2 < 1000000 := by
  have n1 := sa.dl
  have d2 := sb.nl
  simp only [Int.natAbs_natCast]; omega
end
/-! ### sums and products of vectors -/
theorem sz_sum {X : Nat} : ∀ {l : List Rat}, (∀ q ∈ l, Sz X q) → ∀ {Y : Nat} {a : Rat}, Sz Y a → Sz (Y + l.length * (X + 1)) (l.foldl (· + ·) a)
  | [], _, Y, a, ha => by simpa using ha
  | x :: l, h, Y, a, ha => by
    have h1 := sz_sum (l := l) (fun q hq => h q (List.mem_cons_of_mem _ hq)) (ha.add (h x List.mem_cons_self))
    refine h1.mono ?_
    rw [List.length_cons, Nat.succ_mul]; omega
abbrev PlusZ (f : List D → Option D) : Prop := ∀ {x y : D} {a b : Rat} {X Y : Nat}, IsR x a → IsR y b → Sz X a → Sz Y b → X + Y < 8990 → f [x, y] = some (mk (a + b))
theorem totalz_go {f : List D → Option D} (hf : PlusZ f) {X : Nat} {d0 : D} : ∀ {ds : List D} {qs : List Rat}, RL ds qs → (∀ q ∈ qs, Sz X q) → ∀ (Y : Nat) (x : D) (a : Rat) (y : Option LV), IsR x a → Sz Y a → Y + qs.length * (X + 1) < 8990 →
    ∃ d y', forGo (gNm 2) (sSet 1 (mCall f (mCons (mVar 1) (mCons (mVar 2) (mPure []))))) ds [some (.imm d0), some (.imm x), y] none = some (.nx, [some (.imm d0), some (.imm d), y'], none) ∧ IsR d (qs.foldl (· + ·) a) ∧ (x = mk a ∨ qs ≠ [] → d = mk (qs.foldl (· + ·) a))
  | _, _, .nil, _, Y, x, a, y, hx, _, _ => ⟨x, y, rfl, hx, fun h => by rcases h with h | h; exact h; exact absurd rfl h⟩
  | d :: ds, q :: qs, .cons r p, hq, Y, x, a, y, hx, ha, hk => by
    have h1 : Sz X q := hq q List.mem_cons_self
    rw [List.length_cons, Nat.succ_mul] at hk
    have e := hf hx r ha h1 (by omega)
    obtain ⟨d', y', e2, h2⟩ := totalz_go hf p (fun q hq' => hq q (List.mem_cons_of_mem _ hq')) (Y + X + 1) (mk (a + q)) (a + q) (some (.imm d)) (isR_mk _) (ha.add h1) (by omega)
    refine ⟨d', y', ?_, h2.1, fun _ => h2.2 (.inl rfl)⟩
    rw [← e2]
    show Option.bind (gNm 2 d [some (.imm d0), some (.imm x), y]) _ = _
    simp only [runP, startL, outF, mVar, mVarB, mPure, mOp1, mOp2, mCons, mCall, mTup, mLst, mTst, asB, mNot, mAnd, mOr, mAndV, mOrV, mIte, mSeq, sSq, sIf, sRet, sSet, sSetF, sNil, sFrz, frz, sExpr, sPar2, sPar3, sAsg, mkL, gNm, gTp, gCns, gNl, D.asT, itemsD, addD_int, subD_int, ltD_int, leD_int, gtD_int, geD_int, negD_int, gcdD_int, absD_int, Option.bind_some, Option.map_some, Option.bind_none, Option.map_none, List.map_cons, List.map_nil, List.length_cons, List.length_nil, List.cons_append, List.nil_append, List.getElem?_cons_zero, List.getElem?_cons_succ, List.set_cons_zero, List.set_cons_succ, List.replicate_succ, List.replicate_zero, Nat.reduceAdd, Nat.reduceSub, Nat.reduceLeDiff, if_true, if_false, ite_true, ite_false, Bool.false_eq_true, e]
theorem dot_mem {X Y : Nat} {ps qs : List Rat} (hp : ∀ q ∈ ps, Sz X q) (hq : ∀ q ∈ qs, Sz Y q) : ∀ z ∈ (ps.zip qs).map fun x => x.1 * x.2, Sz (X + Y) z := fun z hz => by
  obtain ⟨⟨a, b⟩, hm, rfl⟩ := List.mem_map.mp hz
  exact (hp a (List.of_mem_zip hm).1).mul (hq b (List.of_mem_zip hm).2)
theorem sz_dot {X Y : Nat} {ps qs : List Rat} (hp : ∀ q ∈ ps, Sz X q) (hq : ∀ q ∈ qs, Sz Y q) (h4 : ps.length ≤ 4) : Sz (4 * (X + Y + 1)) (rdot ps qs) := by
  have h := sz_sum (dot_mem hp hq) sz_zero
  refine h.mono ?_
  have := dot_len ps qs
  have := Nat.mul_le_mul_right (X + Y + 1) (Nat.le_trans this h4)
  omega
end K66
namespace K66
open PySem PyProof.Rows L2 Dv
abbrev Row := List Rat × List Rat
def RowR (d : D) (r : Row) : Prop := ∃ x y, d = .tup [x, y] ∧ VecR x r.1 ∧ VecR y r.2
theorem IsR.isi {d : D} {q : Rat} (h : IsR d q) : isiD "tuple" d = some (.bl true) := by rcases h with rfl | rfl <;> rfl
theorem IsR.len {d : D} {q : Rat} (h : IsR d q) : lenD [d] = some (.int 2) := len_items h.items
theorem whole_ev (i : Int) : f_is_whole [.int i] = some (.bl true) := by
  simp only [runP, startL, outF, mVar, mVarB, mPure, mOp1, mOp2, mCons, mCall, mTup, mLst, mTst, asB, mNot, mAnd, mOr, mAndV, mOrV, mIte, mSeq, sSq, sIf, sRet, sSet, sSetF, sNil, sFrz, frz, sExpr, sPar2, sPar3, sAsg, mkL, gNm, gTp, gCns, gNl, D.asT, itemsD, addD_int, subD_int, ltD_int, leD_int, gtD_int, geD_int, negD_int, gcdD_int, absD_int, Option.bind_some, Option.map_some, Option.bind_none, Option.map_none, List.map_cons, List.map_nil, List.length_cons, List.length_nil, List.cons_append, List.nil_append, List.getElem?_cons_zero, List.getElem?_cons_succ, List.set_cons_zero, List.set_cons_succ, List.replicate_succ, List.replicate_zero, Nat.reduceAdd, Nat.reduceSub, Nat.reduceLeDiff, if_true, if_false, ite_true, ite_false, Bool.false_eq_true, f_is_whole, m_is_whole, isi_ii, isi_bi, mNotV, Bool.not_false]
theorem num_pos {q : Rat} (h : 0 < q) : 0 < q.num := by
  have := (Rat.lt_iff 0 q).mp h
  simpa using this
theorem num_nonneg {q : Rat} (h : 0 ≤ q) : 0 ≤ q.num := by
  have := (Rat.le_iff 0 q).mp h
  simpa using this
structure RowP (goods : Nat) (r : Row) : Prop where
  pl : r.1.length = goods
  ql : r.2.length = goods
  pp : ∀ q ∈ r.1, 0 < q
  qp : ∀ q ∈ r.2, 0 ≤ q
  q1 : ∃ q ∈ r.2, 0 < q
theorem sh_bud : SeqAt.shaped (.str "budgets") = true := by decide +kernel
theorem sh_some : SeqAt.shaped (.str "some") = true := by decide +kernel
theorem sh_ring : SeqAt.shaped (.str "ring") = true := by decide +kernel
theorem ne_bud : neD (.str "budgets") (.str "budgets") = some (.bl false) := by
  rw [str_ne sh_bud sh_bud]; simp
structure BudR (x : D) (rs : List Row) (goods : Nat) : Prop where
  ex : ∃ rds, x = .tup [.str "budgets", .tup rds] ∧ Paired RowR rds rs
  l1 : 1 ≤ rs.length
  l8 : rs.length ≤ 8
  rp : ∀ r ∈ rs, RowP goods r
  g2 : 2 ≤ goods
  g4 : goods ≤ 4
/-! ### rows, costs -/
/-- what a row's numbers are in size -/
structure RowB (r : Row) : Prop where
  p0 : r.1 ≠ []
  q0 : r.2 ≠ []
  p4 : r.1.length ≤ 4
  pb : ∀ q ∈ r.1, InD 2 12 q
  qb : ∀ q ∈ r.2, InD 2 12 q
theorem RowB.ps {r : Row} (h : RowB r) : ∀ q ∈ r.1, Sz 4 q := fun q hq => sz_of (h.pb q hq) (by decide) (by decide) (by decide)
theorem RowB.qs {r : Row} (h : RowB r) : ∀ q ∈ r.2, Sz 4 q := fun q hq => sz_of (h.qb q hq) (by decide) (by decide) (by decide)
def cst (r s : Row) : Rat := rdot r.1 s.2
theorem cst_in {r s : Row} (hr : RowB r) (hs : RowB s) : InD 4 576 (cst r s) :=
  (rdot_in (by decide) hr.pb hs.qb).mono (Nat.mul_le_mul_right 144 hr.p4)
theorem cst_sz {r s : Row} (hr : RowB r) (hs : RowB s) : Sz 10 (cst r s) := sz_of (cst_in hr hs) (by decide) (by decide) (by decide)
def costsT (rs : List Row) : D := .tup (rs.map fun r => .tup (rs.map fun s => mk (cst r s)))
def costsL (rs : List Row) : D := .lst (rs.map fun r => .lst (rs.map fun s => mk (cst r s)))
theorem tuple_lst (ds : List D) : tupleD [.lst ds] = some (.tup ds) := rfl
/-- a table of ratios -/
def TabR (t : D) (n : Nat) (c : Nat → Nat → Rat) : Prop := ∀ i j, i < n → j < n → ∃ r, ixD t (.int (i : Nat)) = some r ∧ ixD r (.int (j : Nat)) = some (mk (c i j))
/-- the cost of a place -/
def co (rs : List Row) (i j : Nat) : Rat := match rs[i]?, rs[j]? with | some r, some s => cst r s | _, _ => 1
theorem tab_T (rs : List Row) : TabR (costsT rs) rs.length (co rs) := fun i j hi hj => by
  have ei : rs[i]? = some rs[i] := List.getElem?_eq_getElem hi
  have ej : rs[j]? = some rs[j] := List.getElem?_eq_getElem hj
  refine ⟨.tup (rs.map fun s => mk (cst rs[i] s)), ix_nat rfl (by rw [List.getElem?_map, ei]; rfl), ix_nat rfl (by rw [List.getElem?_map, ej]; simp only [co, ei, ej]; rfl)⟩
theorem tab_L (rs : List Row) : TabR (costsL rs) rs.length (co rs) := fun i j hi hj => by
  have ei : rs[i]? = some rs[i] := List.getElem?_eq_getElem hi
  have ej : rs[j]? = some rs[j] := List.getElem?_eq_getElem hj
  refine ⟨.lst (rs.map fun s => mk (cst rs[i] s)), ix_nat rfl (by rw [List.getElem?_map, ei]; rfl), ix_nat rfl (by rw [List.getElem?_map, ej]; simp only [co, ei, ej]; rfl)⟩
theorem co_sz {rs : List Row} (hb : ∀ r ∈ rs, RowB r) (i j : Nat) : Sz 10 (co rs i j) := by
  unfold co
  split
  · rename_i r s e1 e2
    exact cst_sz (hb r (List.mem_of_getElem? e1)) (hb s (List.mem_of_getElem? e2))
  · exact sz_one.mono (by omega)
theorem rsum_nonneg : ∀ {l : List Rat}, (∀ q ∈ l, 0 ≤ q) → 0 ≤ rsum l
  | [], _ => Rat.le_refl
  | x :: l, h => by
    rw [rsum_cons]
    exact Rat.add_nonneg (h x List.mem_cons_self) (rsum_nonneg fun q hq => h q (List.mem_cons_of_mem _ hq))
theorem rdot_nonneg {p q : List Rat} (hp : ∀ a ∈ p, 0 ≤ a) (hq : ∀ a ∈ q, 0 ≤ a) : 0 ≤ rdot p q := rsum_nonneg fun z hz => by
  obtain ⟨⟨a, b⟩, hm, rfl⟩ := List.mem_map.mp hz
  exact Rat.mul_nonneg (hp a (List.of_mem_zip hm).1) (hq b (List.of_mem_zip hm).2)
theorem rdot_cons (a b : Rat) (p q : List Rat) : rdot (a :: p) (b :: q) = a * b + rdot p q := by
  unfold rdot
  rw [List.zip_cons_cons, List.map_cons, rsum_cons]
theorem rdot_pos : ∀ {p q : List Rat}, p.length = q.length → (∀ a ∈ p, 0 < a) → (∀ a ∈ q, 0 ≤ a) → (∃ a ∈ q, 0 < a) → 0 < rdot p q
  | [], [], _, _, _, h => by obtain ⟨a, h, _⟩ := h; cases h
  | [], _ :: _, h, _, _, _ => by simp at h
  | _ :: _, [], h, _, _, _ => by simp at h
  | a :: p, b :: q, hl, hp, hq, hx => by
    rw [rdot_cons]
    have ha := hp a List.mem_cons_self
    have hb := hq b List.mem_cons_self
    have hr := rdot_nonneg (p := p) (q := q) (fun c hc => Rat.le_of_lt (hp c (List.mem_cons_of_mem _ hc))) fun c hc => hq c (List.mem_cons_of_mem _ hc)
    obtain ⟨c, hc, h0⟩ := hx
    rcases List.mem_cons.mp hc with rfl | hc
    · have := Rat.mul_pos ha h0
      grind
    · have h1 := rdot_pos (p := p) (q := q) (by simpa using hl) (fun c hc => hp c (List.mem_cons_of_mem _ hc)) (fun c hc => hq c (List.mem_cons_of_mem _ hc)) ⟨c, hc, h0⟩
      have h2 := Rat.mul_nonneg (Rat.le_of_lt ha) hb
      grind
theorem cst_pos {goods : Nat} {r s : Row} (hr : RowP goods r) (hs : RowP goods s) : 0 < cst r s :=
  rdot_pos (by rw [hr.pl, hs.ql]) hr.pp hs.qp hs.q1
theorem co_pos {goods : Nat} {rs : List Row} (h : ∀ r ∈ rs, RowP goods r) (i j : Nat) : 0 < co rs i j := by
  unfold co
  split
  · rename_i r s e1 e2
    exact cst_pos (h r (List.mem_of_getElem? e1)) (h s (List.mem_of_getElem? e2))
  · decide
end K66
namespace Dv
open PySem PyProof.Rows L2
/-- data that can be compared, no deeper than n -/
def DP (n : Nat) (d : D) : Prop := ∃ p, toP d = some p ∧ p.canLay0 = true ∧ p.depth ≤ n
def DPs (n : Nat) (ds : List D) : Prop := ∃ ps, toPs ds = some ps ∧ PyData.canLayAll0 ps = true ∧ PyData.depthAll ps ≤ n
theorem DP.mono {n m : Nat} {d : D} (h : DP n d) (l : n ≤ m) : DP m d := let ⟨p, a, b, c⟩ := h; ⟨p, a, b, Nat.le_trans c l⟩
theorem dp_int (n : Nat) (i : Int) : DP n (.int i) := ⟨_, rfl, rfl, Nat.zero_le _⟩
theorem dp_bl (n : Nat) (b : Bool) : DP n (.bl b) := ⟨_, rfl, rfl, Nat.zero_le _⟩
theorem dp_non (n : Nat) : DP n .non := ⟨_, rfl, rfl, Nat.zero_le _⟩
theorem dp_str (n : Nat) {x : Str} (h : SeqAt.shaped (.str x) = true) : DP n (.str x) := ⟨_, rfl, SeqAt.canLay_of_shaped h, Nat.zero_le _⟩
theorem dps_of {n : Nat} : ∀ {ds : List D}, (∀ d ∈ ds, DP n d) → DPs n ds
  | [], _ => ⟨[], rfl, rfl, Nat.zero_le _⟩
  | d :: ds, h => by
    obtain ⟨p, a, b, c⟩ := h d List.mem_cons_self
    obtain ⟨ps, a', b', c'⟩ := dps_of (ds := ds) fun e he => h e (List.mem_cons_of_mem _ he)
    refine ⟨p :: ps, by simp only [toPs, a, a']; rfl, by simp [PyData.canLayAll0, b, b'], ?_⟩
    simp only [PyData.depthAll]
    omega
theorem dp_tup {n : Nat} {ds : List D} (h : ∀ d ∈ ds, DP n d) : DP (n + 1) (.tup ds) := by
  obtain ⟨ps, a, b, c⟩ := dps_of h
  exact ⟨.tuple ps, by simp only [toP, a]; rfl, by simpa [PyData.canLay0] using b, by simp only [PyData.depth]; omega⟩
theorem dp_kt {n : Nat} {ds : List D} (h : ∀ d ∈ ds, DP n d) : DP (n + 1) (.kt ds) := by
  obtain ⟨ps, a, b, c⟩ := dps_of h
  exact ⟨.tuple ps, by simp only [toP, a]; rfl, by simpa [PyData.canLay0] using b, by simp only [PyData.depth]; omega⟩
theorem dp_lst {n : Nat} {ds : List D} (h : ∀ d ∈ ds, DP n d) : DP (n + 1) (.lst ds) := by
  obtain ⟨ps, a, b, c⟩ := dps_of h
  exact ⟨.list ps, by simp only [toP, a]; rfl, by simpa [PyData.canLay0] using b, by simp only [PyData.depth]; omega⟩
theorem DP.shaped {n : Nat} {d : D} (h : DP n d) (hn : n ≤ 64) : ∃ p, toP d = some p ∧ SeqAt.shaped p = true := by
  obtain ⟨p, a, b, c⟩ := h
  refine ⟨p, a, ?_⟩
  show (p.canLay0 && decide (p.depth ≤ 64)) = true
  rw [b, decide_eq_true (by omega : p.depth ≤ 64)]; rfl
theorem eq_dp {n : Nat} {x y : D} (hx : DP n x) (hy : DP n y) (hn : n ≤ 64) : ∃ p q, toP x = some p ∧ toP y = some q ∧ eqD x y = some (.bl (PyData.eqv p q)) ∧ neD x y = some (.bl (!PyData.eqv p q)) := by
  obtain ⟨p, a, b⟩ := hx.shaped hn
  obtain ⟨q, a', b'⟩ := hy.shaped hn
  refine ⟨p, q, a, a', ?_, ?_⟩
  · unfold eqD; simp only [a, a', b, b']; rfl
  · unfold neD; simp only [a, a', b, b']; rfl
theorem toPs_nil {ds : List D} (h : toPs ds = some []) : ds = [] := by
  cases ds with
  | nil => rfl
  | cons d ds =>
    simp only [toPs] at h
    cases h1 : toP d <;> cases h2 : toPs ds <;> simp [h1, h2] at h
theorem eq_lst_nil {n : Nat} {ds : List D} (h : ∀ d ∈ ds, DP n d) (hn : n < 64) : eqD (.lst ds) (.lst []) = some (.bl (decide (ds = []))) ∧ neD (.lst ds) (.lst []) = some (.bl (decide (ds ≠ []))) := by
  obtain ⟨p, q, a, b, e1, e2⟩ := eq_dp (n := n + 1) (dp_lst h) (dp_lst (ds := []) (n := n) (fun _ h => by cases h)) (by omega)
  obtain ⟨ps, e3, _, _⟩ := dps_of h
  simp only [toP, e3, Option.map_some, Option.some.injEq] at a
  simp only [toP, toPs, Option.map_some, Option.some.injEq] at b
  subst a b
  rw [e1, e2]
  cases ps with
  | nil => rw [toPs_nil e3]; simp [PyData.eqv, PyData.eqvAll]
  | cons p ps =>
    have : ds ≠ [] := fun z => by subst z; simp [toPs] at e3
    simp [PyData.eqv, PyData.eqvAll, this]
end Dv
namespace Dv
open PySem PyProof.Rows L2
/-- a while that goes down -/
theorem while_run {β : Type} {t : MT} {m : MS} {S : Sg} (Inv : β → Lo → Prop) (μ : β → Nat) (Done : Lo → Prop)
    (h : ∀ b ρ, Inv b ρ → (t ρ S = some (false, S) ∧ Done ρ) ∨ (t ρ S = some (true, S) ∧ ∃ fl ρ' b', m ρ S = some (fl, ρ', S) ∧ (fl = .nx ∨ fl = .ct) ∧ Inv b' ρ' ∧ μ b' < μ b)) : ∀ b ρ, Inv b ρ → ∃ ρ', sWh t m ρ S = some (.nx, ρ', S) ∧ Done ρ' := by
  have key : ∀ (N : Nat) b ρ, μ b ≤ N → Inv b ρ → ∃ k ρ', whN t m k ρ S = some (.nx, ρ', S) ∧ Done ρ' := by
    intro N
    induction N with
    | zero =>
      intro b ρ hN hi
      rcases h b ρ hi with ⟨e, d⟩ | ⟨e, fl, ρ', b', e2, hf, i', l⟩
      · refine ⟨1, ρ, ?_, d⟩
        unfold whN; rw [e]; rfl
      · omega
    | succ N ih =>
      intro b ρ hN hi
      rcases h b ρ hi with ⟨e, d⟩ | ⟨e, fl, ρ', b', e2, hf, i', l⟩
      · refine ⟨1, ρ, ?_, d⟩
        unfold whN; rw [e]; rfl
      · obtain ⟨k, ρ2, e3, d⟩ := ih b' ρ' (by omega) i'
        refine ⟨k + 1, ρ2, ?_, d⟩
        unfold whN; rw [e]
        simp only [Option.bind_some, if_true]
        rw [e2]
        rcases hf with rfl | rfl <;> exact e3
  intro b ρ hi
  obtain ⟨k, ρ', e, d⟩ := key (μ b) b ρ (Nat.le_refl _) hi
  exact ⟨ρ', sWh_of e, d⟩
theorem ints_nil {l : List Nat} : neD (.lst (l.map fun i : Nat => D.int (i : Int))) (.lst []) = some (.bl (decide (l ≠ []))) := by
  have h := (eq_lst_nil (n := 0) (ds := l.map fun i : Nat => D.int (i : Int)) (fun d hd => by
    obtain ⟨i, _, rfl⟩ := List.mem_map.mp hd
    exact dp_int _ _) (by omega)).2
  rw [h]
  have : (l.map fun i : Nat => D.int (i : Int)) ≠ [] ↔ l ≠ [] := by rw [ne_eq, List.map_eq_nil_iff]
  rw [decide_eq_decide.mpr this]
theorem ints_nil' {l : List Nat} : eqD (.lst (l.map fun i : Nat => D.int (i : Int))) (.lst []) = some (.bl (decide (l = []))) := by
  have h := (eq_lst_nil (n := 0) (ds := l.map fun i : Nat => D.int (i : Int)) (fun d hd => by
    obtain ⟨i, _, rfl⟩ := List.mem_map.mp hd
    exact dp_int _ _) (by omega)).1
  rw [h]
  have : (l.map fun i : Nat => D.int (i : Int)) = [] ↔ l = [] := by rw [List.map_eq_nil_iff]
  rw [decide_eq_decide.mpr this]
abbrev iD' (l : List Nat) : List D := l.map fun i : Nat => D.int (i : Int)
theorem slL_tail (x : D) (xs : List D) : slL (.lst (x :: xs)) (some 1) none = some (.lst xs) := by
  unfold slL
  simp only [cutG]
  rw [six_1 _ (by simp), six_nn]
  simp
theorem addL_ev {xs ys : List D} (h : xs.length + ys.length ≤ 1000000) : addL (.lst xs) (.lst ys) = some (.lst (xs ++ ys)) := by
  show (if xs.length + ys.length ≤ sizeLine then some (D.lst (xs ++ ys)) else none) = _
  rw [if_pos (Nat.le_trans h (by decide))]
theorem app_of {i : Nat} {m : ME} {ρ : Lo} {S S1 : Sg} {ds : List D} {d : D} (hi : ρ[i]? = some (some (.own (.lst ds)))) (h : m ρ S = some (d, S1)) (hl : ds.length < 1000000) : sApp i m ρ S = some (.nx, ρ.set i (some (.own (.lst (ds ++ [d])))), S1) := by
  unfold sApp; rw [hi]; simp only [h, Option.bind_some]; rw [if_pos hl]
theorem ext_of {i : Nat} {m : ME} {ρ : Lo} {S S1 : Sg} {ds es : List D} (hi : ρ[i]? = some (some (.own (.lst ds)))) (h : m ρ S = some (.lst es, S1)) (hl : ds.length + es.length ≤ 1000000) : sExt i m ρ S = some (.nx, ρ.set i (some (.own (.lst (ds ++ es)))), S1) := by
  unfold sExt; rw [hi]; simp only [h, Option.bind_some]; rw [if_pos hl]
theorem put_of {i : Nat} {m mk : ME} {ρ : Lo} {S S1 S2 : Sg} {ds : List (Key × D)} {d k : D} {kk : Key} (hi : ρ[i]? = some (some (.own (.dK ds)))) (h : m ρ S = some (d, S1)) (h' : mk ρ S1 = some (k, S2)) (hk : keyD k = some kk) (hl : ds.length < 1000000) : sPut i m mk ρ S = some (.nx, ρ.set i (some (.own (.dK (putG ds kk d)))), S2) := by
  unfold sPut; rw [hi]; simp only [h, h', hk, Option.bind_some]; rw [if_pos hl]
theorem putT_of {i : Nat} {m mk : ME} {ρ : Lo} {S S1 S2 : Sg} {ds : List (List Key × D)} {d : D} {ks : List D} {kk : List Key} (hi : ρ[i]? = some (some (.own (.dT ds)))) (h : m ρ S = some (d, S1)) (h' : mk ρ S1 = some (.tup ks, S2)) (hk : keysD ks = some kk) (hl : ds.length < 1000000) : sPut i m mk ρ S = some (.nx, ρ.set i (some (.own (.dT (putG ds kk d)))), S2) := by
  unfold sPut; rw [hi]; simp only [h, h', hk, Option.bind_some]; rw [if_pos hl]
theorem putG_new {κ α : Type} [DecidableEq κ] {kvs : List (κ × α)} {k : κ} {v : α} (h : ∀ p ∈ kvs, p.1 ≠ k) : putG kvs k v = kvs ++ [(k, v)] := by
  unfold putG
  rw [if_neg]
  intro z
  obtain ⟨p, hp, e⟩ := List.any_eq_true.mp z
  exact h p hp (of_decide_eq_true e)
theorem find_new {κ α : Type} [DecidableEq κ] {kvs : List (κ × α)} {k : κ} (hn : (kvs.map (·.1)).Nodup) {v : α} (h : (k, v) ∈ kvs) : (kvs.find? fun kv => decide (kv.1 = k)).map (·.2) = some v := by
  induction kvs with
  | nil => cases h
  | cons p r ih =>
    rw [List.map_cons, List.nodup_cons] at hn
    by_cases e : p.1 = k
    · rw [List.find?_cons_of_pos (by simpa using e)]
      rcases List.mem_cons.mp h with z | z
      · subst z; rfl
      · exact absurd (List.mem_map.mpr ⟨(k, v), z, e.symm⟩) hn.1
    · rw [List.find?_cons_of_neg (by simpa using e)]
      rcases List.mem_cons.mp h with z | z
      · subst z; exact absurd rfl e
      · exact ih hn.2 z
theorem whileIf {t : MT} {m : MS} {ρ : Lo} {S S1 : Sg} (h : t ρ S = some (false, S1)) : sIf t m sNil ρ S = some (.nx, ρ, S1) := by
  rw [sIf_of h]; rfl
end Dv
namespace BW
/-! a search from one place: who was met by whom (ahead), who still waits -/
abbrev A := List (Nat × Option Nat)
def keys (a : A) : List Nat := a.map (·.1)
section
variable {E : Nat → Nat → Bool} {n : Nat}
def stp (E : Nat → Nat → Bool) (here : Nat) (s : A × List Nat) (p : Nat) : A × List Nat := if !(keys s.1).contains p && E here p then (s.1 ++ [(p, some here)], s.2 ++ [p]) else s
def lap (E : Nat → Nat → Bool) (n here : Nat) (s : A × List Nat) : A × List Nat := (List.range n).foldl (stp E here) s
inductive Reach (E : Nat → Nat → Bool) (n i : Nat) : Nat → Prop
  | refl : Reach E n i i
  | step {j k : Nat} (h : Reach E n i j) (e : E j k = true) (l : k < n) : Reach E n i k
theorem Reach.trans {i j k : Nat} (h : Reach E n i j) (h' : Reach E n j k) : Reach E n i k := by
  induction h' with
  | refl => exact h
  | step _ e l ih => exact .step ih e l
structure Ok (E : Nat → Nat → Bool) (n one : Nat) (a : A) (w : List Nat) : Prop where
  hd : a[0]? = some (one, none)
  nd : (keys a).Nodup
  lt : ∀ k ∈ keys a, k < n
  pw : ∀ (t k : Nat) p, a[t]? = some (k, p) → (t = 0 ∧ p = none) ∨ ∃ u q r, u < t ∧ p = some q ∧ a[u]? = some (q, r) ∧ E q k = true
  wk : ∀ k ∈ w, k ∈ keys a
def Cl (E : Nat → Nat → Bool) (n : Nat) (a : A) (w : List Nat) : Prop := ∀ k ∈ keys a, k ∈ w ∨ ∀ j, j < n → E k j = true → j ∈ keys a
def ClH (E : Nat → Nat → Bool) (n here t : Nat) (a : A) (w : List Nat) : Prop := ∀ k ∈ keys a, k ∈ w ∨ (k = here ∧ ∀ j, j < t → E here j = true → j ∈ keys a) ∨ ∀ j, j < n → E k j = true → j ∈ keys a
theorem keys_app (a b : A) : keys (a ++ b) = keys a ++ keys b := List.map_append
theorem ok_start {one : Nat} (h : one < n) : Ok E n one [(one, none)] [one] := by
  refine ⟨rfl, by simp [keys], fun k hk => ?_, fun t k p e => ?_, fun k hk => hk⟩
  · simp [keys] at hk; omega
  · cases t with
    | zero => simp at e; exact .inl ⟨rfl, e.2.symm⟩
    | succ t => simp at e
theorem cl_start {one : Nat} : Cl E n [(one, none)] [one] := fun k hk => .inl hk
theorem stp_ok {one here p : Nat} {a : A} {w : List Nat} (h : Ok E n one a w) (hh : here ∈ keys a) (hp : p < n) : Ok E n one (stp E here (a, w) p).1 (stp E here (a, w) p).2 ∧ here ∈ keys (stp E here (a, w) p).1 := by
  unfold stp
  split
  · rename_i hc
    simp only [Bool.and_eq_true, Bool.not_eq_true', ← Bool.not_eq_true, List.contains_iff_mem] at hc
    obtain ⟨hc1, hc2⟩ := hc
    refine ⟨⟨?_, ?_, fun k hk => ?_, fun t k q e => ?_, fun k hk => ?_⟩, ?_⟩
    · rw [List.getElem?_append_left]
      · exact h.hd
      · have := (List.getElem?_eq_some_iff.mp h.hd).1; omega
    · show (keys (a ++ [(p, some here)])).Nodup
      rw [keys_app]
      refine List.nodup_append.mpr ⟨h.nd, by simp [keys], fun x hx y hy => ?_⟩
      simp [keys] at hy
      subst hy
      exact fun z => hc1 (z ▸ hx)
    · have hk : k ∈ keys (a ++ [(p, some here)]) := hk
      rw [keys_app] at hk
      rcases List.mem_append.mp hk with z | z
      · exact h.lt k z
      · simp [keys] at z; omega
    · have e : (a ++ [(p, some here)])[t]? = some (k, q) := e
      by_cases ht : t < a.length
      · rw [List.getElem?_append_left ht] at e
        rcases h.pw t k q e with z | ⟨u, x, r, hu, z1, z2, z3⟩
        · exact .inl z
        · exact .inr ⟨u, x, r, hu, z1, by show (a ++ [(p, some here)])[u]? = _; rw [List.getElem?_append_left (by omega)]; exact z2, z3⟩
      · rw [List.getElem?_append_right (by omega)] at e
        have h0 : t - a.length = 0 := by
          have := (List.getElem?_eq_some_iff.mp e).1
          simp at this; omega
        rw [h0] at e
        simp at e
        obtain ⟨e1, e2⟩ := e
        subst e1 e2
        obtain ⟨⟨x, r⟩, hx, hxe⟩ := List.mem_map.mp hh
        obtain ⟨u, hu⟩ := List.mem_iff_getElem?.mp hx
        have hul := (List.getElem?_eq_some_iff.mp hu).1
        have hxe : x = here := hxe
        subst hxe
        exact .inr ⟨u, x, r, by omega, rfl, by show (a ++ [(p, some x)])[u]? = _; rw [List.getElem?_append_left hul]; exact hu, hc2⟩
    · show k ∈ keys (a ++ [(p, some here)])
      have hk : k ∈ w ++ [p] := hk
      rw [keys_app]
      rcases List.mem_append.mp hk with z | z
      · exact List.mem_append_left _ (h.wk k z)
      · simp at z; subst z; exact List.mem_append_right _ (by simp [keys])
    · show here ∈ keys (a ++ [(p, some here)])
      rw [keys_app]; exact List.mem_append_left _ hh
  · exact ⟨h, hh⟩
theorem stp_cl {here t : Nat} {a : A} {w : List Nat} (h : ClH E n here t a w) : ClH E n here (t + 1) (stp E here (a, w) t).1 (stp E here (a, w) t).2 := by
  unfold stp
  split
  · rename_i hc
    intro k hk
    have hk : k ∈ keys (a ++ [(t, some here)]) := hk
    rw [keys_app] at hk
    have up : ∀ j, j ∈ keys a → j ∈ keys (a ++ [(t, some here)]) := fun j hj => by rw [keys_app]; exact List.mem_append_left _ hj
    rcases List.mem_append.mp hk with z | z
    · rcases h k z with y | ⟨y1, y2⟩ | y
      · exact .inl (List.mem_append_left _ y)
      · refine .inr (.inl ⟨y1, fun j hj e => ?_⟩)
        by_cases hjt : j = t
        · subst hjt
          show j ∈ keys (a ++ [(j, some here)])
          rw [keys_app]; exact List.mem_append_right _ (by simp [keys])
        · exact up j (y2 j (by omega) e)
      · exact .inr (.inr fun j hj e => up j (y j hj e))
    · simp [keys] at z
      subst z
      exact .inl (List.mem_append_right _ (by simp))
  · rename_i hc
    intro k hk
    rcases h k hk with y | ⟨y1, y2⟩ | y
    · exact .inl y
    · refine .inr (.inl ⟨y1, fun j hj e => ?_⟩)
      by_cases hjt : j = t
      · subst hjt
        simp only [Bool.and_eq_true, Bool.not_eq_true', ← Bool.not_eq_true, List.contains_iff_mem] at hc
        exact Classical.byContradiction fun z => hc ⟨z, e⟩
      · exact y2 j (by omega) e
    · exact .inr (.inr y)
theorem stp_mu {here p : Nat} {s : A × List Nat} : (stp E here s p).1.length + s.2.length = s.1.length + (stp E here s p).2.length := by
  unfold stp
  split
  · simp; omega
  · rfl
theorem stp_len {here p : Nat} {s : A × List Nat} : s.1.length ≤ (stp E here s p).1.length := by
  unfold stp
  split
  · simp
  · exact Nat.le_refl _
/-- one turn of the search -/
theorem lap_all {one here : Nat} {a : A} {w : List Nat} (h : Ok E n one a w) (hh : here ∈ keys a) (hc : ∀ k ∈ keys a, k ∈ w ∨ k = here ∨ ∀ j, j < n → E k j = true → j ∈ keys a) : Ok E n one (lap E n here (a, w)).1 (lap E n here (a, w)).2 ∧ Cl E n (lap E n here (a, w)).1 (lap E n here (a, w)).2 ∧
    (lap E n here (a, w)).1.length + w.length = a.length + (lap E n here (a, w)).2.length ∧ a.length ≤ (lap E n here (a, w)).1.length := by
  have key : ∀ t, t ≤ n → Ok E n one ((List.range t).foldl (stp E here) (a, w)).1 ((List.range t).foldl (stp E here) (a, w)).2 ∧ here ∈ keys ((List.range t).foldl (stp E here) (a, w)).1 ∧ ClH E n here t ((List.range t).foldl (stp E here) (a, w)).1 ((List.range t).foldl (stp E here) (a, w)).2 ∧
      ((List.range t).foldl (stp E here) (a, w)).1.length + w.length = a.length + ((List.range t).foldl (stp E here) (a, w)).2.length ∧ a.length ≤ ((List.range t).foldl (stp E here) (a, w)).1.length := by
    intro t
    induction t with
    | zero =>
      intro _
      refine ⟨h, hh, fun k hk => ?_, rfl, Nat.le_refl _⟩
      rcases hc k hk with y | y | y
      · exact .inl y
      · exact .inr (.inl ⟨y, fun j hj => by omega⟩)
      · exact .inr (.inr y)
    | succ t ih =>
      intro ht
      obtain ⟨i1, i2, i3, i4, i5⟩ := ih (by omega)
      rw [List.range_succ, List.foldl_append]
      generalize (List.range t).foldl (stp E here) (a, w) = s at i1 i2 i3 i4 i5
      obtain ⟨b, v⟩ := s
      obtain ⟨j1, j2⟩ := stp_ok (p := t) i1 i2 (by omega)
      have j3 := stp_cl i3
      have j4 := stp_mu (E := E) (here := here) (p := t) (s := (b, v))
      have j5 := stp_len (E := E) (here := here) (p := t) (s := (b, v))
      dsimp only at i4 i5 j4 j5
      refine ⟨j1, j2, j3, ?_, ?_⟩
      · show (stp E here (b, v) t).1.length + w.length = a.length + (stp E here (b, v) t).2.length
        omega
      · show a.length ≤ (stp E here (b, v) t).1.length
        omega
  obtain ⟨k1, k2, k3, k4, k5⟩ := key n (Nat.le_refl _)
  refine ⟨k1, fun k hk => ?_, k4, k5⟩
  rcases k3 k hk with y | ⟨rfl, y⟩ | y
  · exact .inl y
  · exact .inr y
  · exact .inr y
theorem nodup_len : ∀ (n : Nat) {l : List Nat}, l.Nodup → (∀ x ∈ l, x < n) → l.length ≤ n
  | 0, l, _, h => by
    cases l with
    | nil => exact Nat.le_refl _
    | cons x l => exact absurd (h x List.mem_cons_self) (Nat.not_lt_zero _)
  | n + 1, l, hn, h => by
    have h1 := nodup_len n (l := l.erase n) (hn.erase n) fun x hx => by
      have h2 := h x (List.mem_of_mem_erase hx)
      have h3 : x ≠ n := fun z => by rw [z] at hx; exact (List.Nodup.not_mem_erase hn) hx
      omega
    have h4 : l.length ≤ (l.erase n).length + 1 := by
      rw [List.length_erase]
      split <;> omega
    omega
theorem ok_len {one : Nat} {a : A} {w : List Nat} (h : Ok E n one a w) : a.length ≤ n := by
  have h1 := nodup_len n h.nd h.lt
  simpa [keys] using h1
/-- all that was met was reached, and all that is reached was met -/
theorem met_reach {one : Nat} {a : A} {w : List Nat} (h : Ok E n one a w) : ∀ (t k : Nat) p, a[t]? = some (k, p) → Reach E n one k := by
  intro t
  induction t using Nat.strongRecOn with
  | ind t ih =>
    intro k p e
    rcases h.pw t k p e with ⟨z, rfl⟩ | ⟨u, q, r, hu, _, z2, z3⟩
    · subst z
      rw [h.hd] at e
      cases e; exact .refl
    · exact .step (ih u hu q r z2) z3 (h.lt k (List.mem_map.mpr ⟨(k, p), List.mem_of_getElem? e, rfl⟩))
theorem mem_iff_reach {one : Nat} {a : A} (h : Ok E n one a []) (hc : Cl E n a []) (k : Nat) : k ∈ keys a ↔ Reach E n one k := by
  refine ⟨fun hk => ?_, fun hr => ?_⟩
  · obtain ⟨⟨x, p⟩, hx, rfl⟩ := List.mem_map.mp hk
    obtain ⟨t, ht⟩ := List.mem_iff_getElem?.mp hx
    exact met_reach h t x p ht
  · induction hr with
    | refl => exact List.mem_map.mpr ⟨(one, none), List.mem_of_getElem? h.hd, rfl⟩
    | step _ e l ih =>
      rcases hc _ ih with z | z
      · cases z
      · exact z _ l e
end
end BW
namespace K66
open PySem PyProof.Rows L2 Dv
theorem and_ff {t u : MT} {ρ : Lo} {S S1 : Sg} (h : t ρ S = some (false, S1)) : mAnd t u ρ S = some (false, S1) := by unfold mAnd; rw [h]; rfl
theorem and_tt {t u : MT} {ρ : Lo} {S S1 : Sg} {r} (h : t ρ S = some (true, S1)) (h' : u ρ S1 = r) : mAnd t u ρ S = r := by unfold mAnd; rw [h]; exact h'
theorem and_of {t u : MT} {ρ : Lo} {S : Sg} {a b : Bool} (h : t ρ S = some (a, S)) (h' : u ρ S = some (b, S)) : mAnd t u ρ S = some (a && b, S) := by
  cases a with
  | true => exact and_tt h (by rw [h']; rfl)
  | false => exact and_ff h
theorem not_of {t : MT} {ρ : Lo} {S S1 : Sg} {a : Bool} (h : t ρ S = some (a, S1)) : mNot t ρ S = some (!a, S1) := by unfold mNot; rw [h]; rfl
theorem lc_of {mi : MA} {vs : List Nat} {g : MG} {t : MT} {m : ME} {ρ : Lo} {S S1 S2 : Sg} {ds out : List D} (h : mi ρ S = some (ds, S1)) (h' : lcGo (wipeL ρ vs) g t m ds S1 = some (out, S2)) : mLc mi vs g t m ρ S = some (.lst out, S2) := by
  unfold mLc; rw [h]; simp only [Option.bind_some]; rw [h']; rfl
theorem andV_t {m k : ME} {ρ : Lo} {S S1 : Sg} {r} (h : m ρ S = some (.bl true, S1)) (h' : k ρ S1 = r) : mAndV m k ρ S = r := by unfold mAndV; rw [h]; exact h'
theorem andV_f {m k : ME} {ρ : Lo} {S S1 : Sg} (h : m ρ S = some (.bl false, S1)) : mAndV m k ρ S = some (.bl false, S1) := by unfold mAndV; rw [h]; rfl
theorem notV_of {m : ME} {ρ : Lo} {S S1 : Sg} {b : Bool} (h : m ρ S = some (.bl b, S1)) : mNotV m ρ S = some (.bl (!b), S1) := by unfold mNotV mOp1; rw [h]; rfl
theorem ne_bl (b c : Bool) : neD (.bl b) (.bl c) = some (.bl (b != c)) := by
  cases b <;> cases c <;> rfl
theorem asg_of {m : ME} {g : MG} {ρ ρ' : Lo} {S S1 : Sg} {d : D} (h : m ρ S = some (d, S1)) (hg : g d ρ = some ρ') : sAsg m g ρ S = some (.nx, ρ', S1) := by
  unfold sAsg; rw [h]; simp only [Option.bind_some]; rw [hg]; rfl
end K66
namespace WD
/-! ### the blended numbers -/
abbrev q1 : Int := 2147483579
abbrev q2 : Int := 2147483629
abbrev q3 : Int := 2147483563
def blend (p t : Int) (cells : List Int) : Int := cells.foldl (fun b c => (b * 69621 + c + t) % p) (48271 * t + p / 53)
def part (p t : Int) (cells : List Int) : Int := (blend p t cells) ^ 5 % p
def num (x1 x2 x3 : Int) : Int := ((0 * 2147483647 + x1) * 2147483647 + x2) * 2147483647 + x3
def bl3 (cells : List Int) (t : Int) : Int := num (part q1 t cells) (part q2 t cells) (part q3 t cells)
/-! the blend is straight in the turn -/
def aIt : Nat → Int → Int
  | 0, a => a
  | k + 1, a => aIt k (a * 69621 + 1)
theorem lin_go (p : Int) : ∀ (cells : List Int) (a c0 : Int), ∃ B : Int, ∀ t b : Int, p ∣ b - (a * t + c0) → p ∣ cells.foldl (fun b c => (b * 69621 + c + t) % p) b - (aIt cells.length a * t + B)
  | [], a, c0 => ⟨c0, fun t b h => h⟩
  | c :: r, a, c0 => by
    obtain ⟨B, hB⟩ := lin_go p r (a * 69621 + 1) (c0 * 69621 + c)
    refine ⟨B, fun t b h => hB t _ ?_⟩
    obtain ⟨k, hk⟩ := h
    have e : (b * 69621 + c + t) % p = (b * 69621 + c + t) - p * ((b * 69621 + c + t) / p) := Int.emod_def _ _
    show p ∣ (b * 69621 + c + t) % p - ((a * 69621 + 1) * t + (c0 * 69621 + c))
    rw [e]
    refine ⟨k * 69621 - (b * 69621 + c + t) / p, ?_⟩
    have : b = a * t + c0 + p * k := by omega
    rw [Int.mul_sub]
    have h2 : p * (k * 69621) = (p * k) * 69621 := by rw [Int.mul_assoc]
    rw [h2]
    have h3 : (a * 69621 + 1) * t = a * t * 69621 + t := by rw [Int.add_mul, Int.one_mul, Int.mul_right_comm]
    rw [h3]
    generalize p * ((b * 69621 + c + t) / p) = z at *
    omega
theorem blend_lin (p : Int) (cells : List Int) : ∃ B : Int, ∀ t : Int, p ∣ blend p t cells - (aIt cells.length 48271 * t + B) := by
  obtain ⟨B, hB⟩ := lin_go p cells 48271 (p / 53)
  exact ⟨B, fun t => hB t _ ⟨0, by omega⟩⟩
theorem blend_range {p t : Int} (hp : 0 < p) : ∀ {cells : List Int}, cells ≠ [] → 0 ≤ blend p t cells ∧ blend p t cells < p := by
  have go : ∀ (cells : List Int) (b : Int), 0 ≤ b ∧ b < p → 0 ≤ cells.foldl (fun b c => (b * 69621 + c + t) % p) b ∧ cells.foldl (fun b c => (b * 69621 + c + t) % p) b < p := by
    intro cells
    induction cells with
    | nil => intro b h; exact h
    | cons c r ih => intro b h; exact ih _ ⟨Int.emod_nonneg _ (by omega), Int.emod_lt_of_pos _ hp⟩
  intro cells hc
  cases cells with
  | nil => exact absurd rfl hc
  | cons c r => exact go r _ ⟨Int.emod_nonneg _ (by omega), Int.emod_lt_of_pos _ hp⟩
/-! ### inverses -/
/-- a ^ e mod p, by the binary digits of e -/
def pwm (p : Nat) : Nat → Nat → Nat → Nat
  | 0, _, _ => 1 % p
  | f + 1, a, e => if e = 0 then 1 % p else
    let h := pwm p f (a * a % p) (e / 2)
    if e % 2 = 1 then a * h % p else h
/-- the factors of the turn mod p -/
def aMod (p : Nat) : Nat → Nat
  | 0 => 48271 % p
  | k + 1 => (aMod p k * 69621 + 1) % p
def invOk (p : Nat) (a : Nat) : Bool := (a * pwm p 32 a (p - 2)) % p == 1
/-- all of the first n factors have inverses -/
def invAll (p : Nat) : Nat → Nat → Bool
  | 0, _ => true
  | n + 1, a => invOk p a && invAll p n ((a * 69621 + 1) % p)
theorem inv1 : invAll 2147483579 1001 48271 = true := by decide +kernel
theorem inv2 : invAll 2147483629 1001 48271 = true := by decide +kernel
theorem inv3 : invAll 2147483563 1001 48271 = true := by decide +kernel
end WD
namespace WD
theorem dvd_sub_mul {p x y k : Int} (h : p ∣ x - y) : p ∣ x * k - y * k := by
  rw [← Int.sub_mul]; exact Int.dvd_mul_of_dvd_left h
theorem pwm_ok : True := trivial
/-- the factor of the turn has an inverse -/
theorem inv_of {p : Nat} : ∀ (k n : Nat) (a : Nat) (A : Int), (p : Int) ∣ A - (a : Int) → k < n → invAll p n a = true → ∃ i : Int, (p : Int) ∣ aIt k A * i - 1
  | 0, n, a, A, hA, hk, h => by
    cases n with
    | zero => omega
    | succ n =>
      rw [invAll, Bool.and_eq_true] at h
      have h1 := h.1
      rw [invOk, beq_iff_eq] at h1
      refine ⟨(pwm p 32 a (p - 2) : Nat), ?_⟩
      show (p : Int) ∣ A * ((pwm p 32 a (p - 2) : Nat) : Int) - 1
      have h2 := dvd_sub_mul (k := ((pwm p 32 a (p - 2) : Nat) : Int)) hA
      have h3 : (p : Int) ∣ (a : Int) * ((pwm p 32 a (p - 2) : Nat) : Int) - 1 := by
        generalize pwm p 32 a (p - 2) = w at *
        have h4 := Nat.div_add_mod (a * w) p
        rw [h1] at h4
        refine ⟨((a * w / p : Nat) : Int), ?_⟩
        generalize a * w / p = z at *
        have h5 : ((p * z + 1 : Nat) : Int) = ((a * w : Nat) : Int) := by rw [h4]
        rw [Int.natCast_add, Int.natCast_mul, Int.natCast_mul] at h5
        omega
      have := Int.dvd_add h2 h3
      rwa [show ∀ x y : Int, (x - y) + (y - 1) = x - 1 from fun x y => by omega] at this
  | k + 1, n, a, A, hA, hk, h => by
    cases n with
    | zero => omega
    | succ n =>
      rw [invAll, Bool.and_eq_true] at h
      refine inv_of k n _ (A * 69621 + 1) ?_ (by omega) h.2
      have h2 := dvd_sub_mul (k := 69621) hA
      have h4 := Nat.div_add_mod (a * 69621 + 1) p
      generalize (a * 69621 + 1) / p = z at *
      generalize (a * 69621 + 1) % p = w at *
      obtain ⟨y, hy⟩ := h2
      refine ⟨y + z, ?_⟩
      have h5 : ((p * z + w : Nat) : Int) = ((a * 69621 + 1 : Nat) : Int) := by rw [h4]
      rw [Int.natCast_add, Int.natCast_mul, Int.natCast_add, Int.natCast_mul] at h5
      rw [Int.mul_add]
      generalize (p : Int) * y = py at *
      generalize (p : Int) * (z : Int) = pz at *
      omega
abbrev PP : Int := 9903519516461379889783524533
/-- three residues at once, after any turn -/
theorem crt (r1 r2 r3 t0 : Int) : ∃ t : Int, t0 < t ∧ t ≤ t0 + PP ∧ q1 ∣ t - r1 ∧ q2 ∣ t - r2 ∧ q3 ∣ t - r3 := by
  let x : Int := 235208588510193165138497345 * r1 + 1293459670181656490358913329 * r2 + 8374851257769530234286113860 * r3
  refine ⟨t0 + 1 + (x - (t0 + 1)) % PP, ?_, ?_, ?_⟩
  · have := Int.emod_nonneg (x - (t0 + 1)) (show PP ≠ 0 by decide); omega
  · have := Int.emod_lt_of_pos (x - (t0 + 1)) (show 0 < PP by decide); omega
  · have e := Int.emod_def (x - (t0 + 1)) PP
    generalize hz : (x - (t0 + 1)) / PP = z at e
    have hx : x = 235208588510193165138497345 * r1 + 1293459670181656490358913329 * r2 + 8374851257769530234286113860 * r3 := rfl
    have e2 : t0 + 1 + (x - (t0 + 1)) % PP = x - PP * z := by rw [e]; omega
    rw [e2, hx]
    refine ⟨⟨109527537630681536 * r1 + 602314114450165251 * r2 + 3899844143008243340 * r3 - q2 * q3 * z, ?_⟩, ⟨109527535080544805 * r1 + 602314100426446832 * r2 + 3899844052207920340 * r3 - q1 * q3 * z, ?_⟩, ⟨109527538446725315 * r1 + 602314118937755283 * r2 + 3899844172064347593 * r3 - q1 * q2 * z, ?_⟩⟩
    all_goals (simp only [q1, q2, q3, PP]; omega)
/-- the turn that gives a wished blend, one prime -/
theorem want {p : Nat} {n : Nat} {cells : List Int} (h : invAll p n 48271 = true) (hl : cells.length < n) (u : Int) : ∃ r : Int, ∀ t : Int, (p : Int) ∣ t - r → (p : Int) ∣ blend p t cells - u := by
  obtain ⟨i, hi⟩ := inv_of cells.length n 48271 48271 ⟨0, by omega⟩ hl h
  obtain ⟨B, hB⟩ := blend_lin p cells
  generalize aIt cells.length 48271 = A at *
  refine ⟨i * (u - B), fun t ht => ?_⟩
  obtain ⟨x, hx⟩ := ht
  obtain ⟨y, hy⟩ := hi
  obtain ⟨z, hz⟩ := hB t
  refine ⟨z + A * x + y * (u - B), ?_⟩
  have e1 : t = i * (u - B) + p * x := by omega
  have e2 : A * t = A * i * (u - B) + p * (A * x) := by rw [e1, Int.mul_add, Int.mul_assoc, Int.mul_left_comm A (p : Int) x]
  have e3 : A * i * (u - B) = (u - B) + p * (y * (u - B)) := by
    rw [show A * i = 1 + p * y by omega, Int.add_mul, Int.one_mul, Int.mul_assoc]
  rw [Int.mul_add, Int.mul_add]
  generalize (p : Int) * z = a1 at *
  generalize (p : Int) * (A * x) = a2 at *
  generalize (p : Int) * (y * (u - B)) = a3 at *
  omega
theorem blend_eq {p : Int} (hp : 0 < p) {t u : Int} {cells : List Int} (hc : cells ≠ []) (h0 : 0 ≤ u) (h1 : u < p) (h : p ∣ blend p t cells - u) : blend p t cells = u := by
  have hr := blend_range (t := t) hp hc
  have h2 := Int.emod_eq_emod_iff_emod_sub_eq_zero.mpr (Int.emod_eq_zero_of_dvd h)
  rwa [Int.emod_eq_of_lt hr.1 hr.2, Int.emod_eq_of_lt h0 h1] at h2
theorem hit {cells : List Int} (hc : cells ≠ []) (hl : cells.length ≤ 1000) {u : Int} (h0 : 0 ≤ u) (h1 : u < 2147483000) (t0 : Int) :
    ∃ t : Int, t0 < t ∧ t ≤ t0 + PP ∧ bl3 cells t = num (u ^ 5 % q1) (u ^ 5 % q2) (u ^ 5 % q3) := by
  obtain ⟨r1, w1⟩ := want (p := 2147483579) inv1 (show cells.length < 1001 by omega) u
  obtain ⟨r2, w2⟩ := want (p := 2147483629) inv2 (show cells.length < 1001 by omega) u
  obtain ⟨r3, w3⟩ := want (p := 2147483563) inv3 (show cells.length < 1001 by omega) u
  obtain ⟨t, ht, ht2, d1, d2, d3⟩ := crt r1 r2 r3 t0
  refine ⟨t, ht, ht2, ?_⟩
  have e1 : blend q1 t cells = u := blend_eq (by decide) hc h0 (by show u < 2147483579; omega) (w1 t d1)
  have e2 : blend q2 t cells = u := blend_eq (by decide) hc h0 (by show u < 2147483629; omega) (w2 t d2)
  have e3 : blend q3 t cells = u := blend_eq (by decide) hc h0 (by show u < 2147483563; omega) (w3 t d3)
  unfold bl3 part
  rw [e1, e2, e3]
end WD
namespace WD
/-! ### letters of a number -/
def lts : Nat → Nat → List Nat
  | 0, _ => []
  | l + 1, n => n % 26 :: lts l (n / 26)
def wl (n : Nat) : List Nat := lts (n % 8 + 1) (n / 8)
def val : List Nat → Nat
  | [] => 0
  | c :: r => c + 26 * val r
theorem lts_len : ∀ (l n : Nat), (lts l n).length = l
  | 0, _ => rfl
  | l + 1, n => by rw [lts, List.length_cons, lts_len l]
theorem lts_lt : ∀ (l n : Nat), ∀ c ∈ lts l n, c < 26
  | 0, _, c, h => absurd h List.not_mem_nil
  | l + 1, n, c, h => by
    rw [lts] at h
    rcases List.mem_cons.mp h with rfl | h
    · exact Nat.mod_lt _ (by omega)
    · exact lts_lt l _ c h
theorem val_lts : ∀ (l n : Nat), val (lts l n) = n % 26 ^ l
  | 0, n => by rw [Nat.pow_zero, Nat.mod_one]; rfl
  | l + 1, n => by
    show n % 26 + 26 * val (lts l (n / 26)) = n % 26 ^ (l + 1)
    rw [val_lts l, Nat.pow_succ', Nat.mod_mul]
def code (n : Nat) : Nat := n % 8 + 8 * ((n / 8) % 26 ^ (n % 8 + 1))
theorem code_of {a b : Nat} (h : wl a = wl b) : code a = code b := by
  have h1 := congrArg List.length h
  rw [wl, wl, lts_len, lts_len] at h1
  have h2 := congrArg val h
  rw [wl, wl, val_lts, val_lts] at h2
  unfold code
  rw [h2]
  omega
/-! ### the draws, told by numbers -/
structure St where
  great : List Nat
  turn : Nat
  rest : Nat
def ld (bl : Nat → Nat) (s : St) : St := if s.rest = 0 then (match s.great with
  | [] => ⟨[], s.turn + 1, bl (s.turn + 1)⟩
  | g :: gs => ⟨gs, s.turn, g⟩) else s
def dn (bl : Nat → Nat) (room : Nat) (s : St) : St := { ld bl s with rest := (ld bl s).rest / room }
def dv (bl : Nat → Nat) (room : Nat) (s : St) : Nat := (ld bl s).rest % room
def lets (bl : Nat → Nat) : Nat → St → List Nat × St
  | 0, s => ([], s)
  | m + 1, s => (dv bl 26 s :: (lets bl m (dn bl 26 s)).1, (lets bl m (dn bl 26 s)).2)
def it (bl : Nat → Nat) (s : St) : List Nat × St := lets bl (dv bl 8 s + 1) (dn bl 8 s)
theorem ld_pos {bl : Nat → Nat} {s : St} (h : s.rest ≠ 0) : ld bl s = s := if_neg h
theorem ld_nil {bl : Nat → Nat} {s : St} (h : s.rest = 0) (hg : s.great = []) : ld bl s = ⟨[], s.turn + 1, bl (s.turn + 1)⟩ := by
  unfold ld; rw [if_pos h, hg]
theorem ld_cons {bl : Nat → Nat} {s : St} {g : Nat} {gs : List Nat} (h : s.rest = 0) (hg : s.great = g :: gs) : ld bl s = ⟨gs, s.turn, g⟩ := by
  unfold ld; rw [if_pos h, hg]
theorem ld_turn {bl : Nat → Nat} (s : St) : s.turn ≤ (ld bl s).turn ∧ (ld bl s).turn ≤ s.turn + 1 := by
  by_cases h : s.rest = 0
  · cases hg : s.great with
    | nil => rw [ld_nil h hg]; exact ⟨by show s.turn ≤ s.turn + 1; omega, by show s.turn + 1 ≤ s.turn + 1; omega⟩
    | cons g gs => rw [ld_cons h hg]; exact ⟨Nat.le_refl _, by show s.turn ≤ s.turn + 1; omega⟩
  · rw [ld_pos h]; omega
theorem lets_turn {bl : Nat → Nat} : ∀ (m : Nat) (s : St), s.turn ≤ (lets bl m s).2.turn ∧ (lets bl m s).2.turn ≤ s.turn + m
  | 0, s => ⟨Nat.le_refl _, Nat.le_refl _⟩
  | m + 1, s => by
    have h1 := ld_turn (bl := bl) s
    have h2 := lets_turn (bl := bl) m (dn bl 26 s)
    have h3 : (dn bl 26 s).turn = (ld bl s).turn := rfl
    show s.turn ≤ (lets bl m (dn bl 26 s)).2.turn ∧ (lets bl m (dn bl 26 s)).2.turn ≤ s.turn + (m + 1)
    omega
theorem it_turn {bl : Nat → Nat} (s : St) : s.turn ≤ (it bl s).2.turn ∧ (it bl s).2.turn ≤ s.turn + 9 := by
  have h1 := ld_turn (bl := bl) s
  have h2 := lets_turn (bl := bl) (dv bl 8 s + 1) (dn bl 8 s)
  have h3 : (dn bl 8 s).turn = (ld bl s).turn := rfl
  have h4 : dv bl 8 s < 8 := Nat.mod_lt _ (by omega)
  show s.turn ≤ (lets bl (dv bl 8 s + 1) (dn bl 8 s)).2.turn ∧ (lets bl (dv bl 8 s + 1) (dn bl 8 s)).2.turn ≤ s.turn + 9
  omega
theorem lets_len {bl : Nat → Nat} : ∀ (m : Nat) (s : St), (lets bl m s).1.length = m
  | 0, s => rfl
  | m + 1, s => by
    show (dv bl 26 s :: (lets bl m (dn bl 26 s)).1).length = m + 1
    rw [List.length_cons, lets_len m]
theorem lets_lt {bl : Nat → Nat} : ∀ (m : Nat) (s : St), ∀ c ∈ (lets bl m s).1, c < 26
  | 0, s, c, h => absurd h List.not_mem_nil
  | m + 1, s, c, h => by
    have h : c ∈ dv bl 26 s :: (lets bl m (dn bl 26 s)).1 := h
    rcases List.mem_cons.mp h with rfl | h
    · exact Nat.mod_lt _ (by omega)
    · exact lets_lt m _ c h
theorem it_len {bl : Nat → Nat} (s : St) : 1 ≤ (it bl s).1.length ∧ (it bl s).1.length ≤ 8 := by
  have h4 : dv bl 8 s < 8 := Nat.mod_lt _ (by omega)
  have : (it bl s).1.length = dv bl 8 s + 1 := lets_len _ _
  omega
theorem it_lt {bl : Nat → Nat} (s : St) : ∀ c ∈ (it bl s).1, c < 26 := lets_lt _ _
/-- letters out of one number that is large enough -/
theorem lets_big {bl : Nat → Nat} : ∀ (m : Nat) (s : St), 26 ^ m ≤ s.rest → lets bl m s = (lts m s.rest, { s with rest := s.rest / 26 ^ m })
  | 0, s, h => by rw [Nat.pow_zero, Nat.div_one]; rfl
  | m + 1, s, h => by
    rw [Nat.pow_succ] at h
    have hp : 0 < 26 ^ m := Nat.pow_pos (by omega)
    have h0 : s.rest ≠ 0 := by omega
    have e : dn bl 26 s = { s with rest := s.rest / 26 } := by unfold dn; rw [ld_pos h0]
    have ih := lets_big (bl := bl) m (dn bl 26 s) (by rw [e]; show 26 ^ m ≤ s.rest / 26; rw [Nat.le_div_iff_mul_le (by omega)]; exact h)
    show (dv bl 26 s :: (lets bl m (dn bl 26 s)).1, (lets bl m (dn bl 26 s)).2) = _
    rw [ih, e]
    unfold dv
    rw [ld_pos h0]
    show (s.rest % 26 :: lts m (s.rest / 26), ({ s with rest := s.rest / 26 / 26 ^ m } : St)) = _
    rw [Nat.div_div_eq_div_mul, Nat.pow_succ']
    rfl
theorem it_big {bl : Nat → Nat} {s : St} (h : 8 * 26 ^ 8 ≤ (ld bl s).rest) : (it bl s).1 = wl (ld bl s).rest := by
  have h4 : (ld bl s).rest % 8 < 8 := Nat.mod_lt _ (by omega)
  have hle : 26 ^ ((ld bl s).rest % 8 + 1) ≤ 26 ^ 8 := Nat.pow_le_pow_right (by omega) (by omega)
  have hb : 26 ^ ((ld bl s).rest % 8 + 1) ≤ (ld bl s).rest / 8 := by
    rw [Nat.le_div_iff_mul_le (by omega)]; omega
  have := lets_big (bl := bl) ((ld bl s).rest % 8 + 1) (dn bl 8 s) hb
  show (lets bl ((ld bl s).rest % 8 + 1) (dn bl 8 s)).1 = _
  rw [this]
  rfl
/-- what becomes less -/
def Dn (t : Nat) (a b : St) : Prop := a.great.length < b.great.length ∨ a.great.length = b.great.length ∧ (t - a.turn < t - b.turn ∨ t - a.turn = t - b.turn ∧ a.rest < b.rest)
theorem Dn.trans {t : Nat} {a b c : St} (h1 : Dn t a b) (h2 : Dn t b c) : Dn t a c := by unfold Dn at *; omega
theorem dn_wf (t : Nat) : WellFounded (Dn t) := by
  refine Subrelation.wf (r := InvImage (Prod.Lex (· < ·) (Prod.Lex (· < ·) (· < ·))) (fun s : St => (s.great.length, t - s.turn, s.rest))) ?_ (InvImage.wf _ (Prod.lex Nat.lt_wfRel (Prod.lex Nat.lt_wfRel Nat.lt_wfRel)).wf)
  intro a b h
  rcases h with h | ⟨e, h | ⟨e2, h⟩⟩
  · exact Prod.Lex.left _ _ h
  · show Prod.Lex _ _ (a.great.length, t - a.turn, a.rest) (b.great.length, t - b.turn, b.rest)
    rw [e]; exact Prod.Lex.right _ (Prod.Lex.left _ _ h)
  · show Prod.Lex _ _ (a.great.length, t - a.turn, a.rest) (b.great.length, t - b.turn, b.rest)
    rw [e, e2]; exact Prod.Lex.right _ (Prod.Lex.right _ h)
theorem dn_case {bl : Nat → Nat} {t room : Nat} (hr : 2 ≤ room) {s : St} (hs : s.turn < t) : ((dn bl room s).turn < t ∧ Dn t (dn bl room s) s) ∨ ((dn bl room s).turn = t ∧ (ld bl s).rest = bl t) := by
  by_cases h : s.rest = 0
  · cases hg : s.great with
    | nil =>
      have e := ld_nil (bl := bl) h hg
      by_cases ht : s.turn + 1 = t
      · refine .inr ⟨?_, by rw [e, ht]⟩
        show (ld bl s).turn = t
        rw [e]; exact ht
      · refine .inl ⟨?_, .inr ⟨?_, .inl ?_⟩⟩
        · show (ld bl s).turn < t
          rw [e]; show s.turn + 1 < t; omega
        · show (ld bl s).great.length = _
          rw [e, hg]
        · show t - (ld bl s).turn < _
          rw [e]; show t - (s.turn + 1) < t - s.turn; omega
    | cons g gs =>
      have e := ld_cons (bl := bl) h hg
      refine .inl ⟨?_, .inl ?_⟩
      · show (ld bl s).turn < t
        rw [e]; exact hs
      · show (ld bl s).great.length < _
        rw [e, hg]; show gs.length < gs.length + 1; omega
  · have e := ld_pos (bl := bl) h
    refine .inl ⟨?_, .inr ⟨?_, .inr ⟨?_, ?_⟩⟩⟩
    · show (ld bl s).turn < t
      rw [e]; exact hs
    · show (ld bl s).great.length = _
      rw [e]
    · show t - (ld bl s).turn = _
      rw [e]
    · show (ld bl s).rest / room < s.rest
      rw [e]; exact Nat.div_lt_self (by omega) (by omega)
theorem lets_hit {bl : Nat → Nat} {t : Nat} (big : 26 ^ 9 ≤ bl t) : ∀ (m : Nat) (s : St), m ≤ 8 → s.turn < t →
    (((lets bl m s).2.turn < t ∧ ((lets bl m s).2 = s ∨ Dn t (lets bl m s).2 s)) ∨ ((lets bl m s).2.turn = t ∧ ∃ k, k ≤ 8 ∧ (lets bl m s).2.rest = bl t / 26 ^ k))
  | 0, s, hm, hs => .inl ⟨hs, .inl rfl⟩
  | m + 1, s, hm, hs => by
    show (((lets bl m (dn bl 26 s)).2.turn < t ∧ ((lets bl m (dn bl 26 s)).2 = s ∨ Dn t (lets bl m (dn bl 26 s)).2 s)) ∨ ((lets bl m (dn bl 26 s)).2.turn = t ∧ ∃ k, k ≤ 8 ∧ (lets bl m (dn bl 26 s)).2.rest = bl t / 26 ^ k))
    rcases dn_case (bl := bl) (room := 26) (by omega) hs with ⟨h1, h2⟩ | ⟨h1, h2⟩
    · rcases lets_hit big m (dn bl 26 s) (by omega) h1 with ⟨h3, h4⟩ | h3
      · refine .inl ⟨h3, .inr ?_⟩
        rcases h4 with h4 | h4
        · rw [h4]; exact h2
        · exact h4.trans h2
      · exact .inr h3
    · have hr : (dn bl 26 s).rest = bl t / 26 := by show (ld bl s).rest / 26 = _; rw [h2]
      have hle : 26 ^ m ≤ 26 ^ 8 := Nat.pow_le_pow_right (by omega) (by omega)
      have hb := lets_big (bl := bl) m (dn bl 26 s) (by rw [hr, Nat.le_div_iff_mul_le (by omega)]; omega)
      refine .inr ⟨by rw [hb]; exact h1, m + 1, by omega, ?_⟩
      rw [hb]
      show (dn bl 26 s).rest / 26 ^ m = _
      rw [hr, Nat.div_div_eq_div_mul, Nat.pow_succ']
/-- sooner or later a good word comes -/
theorem reach {bl : Nat → Nat} {t : Nat} (big : 8 * 26 ^ 16 ≤ bl t) {good : List Nat → Prop} (hg : ∀ k, k ≤ 8 → good (wl (bl t / 26 ^ k))) {P : St → Prop}
    (h : ∀ s, s.turn ≤ t → good (it bl s).1 ∨ P (it bl s).2 → P s) : ∀ s, s.turn < t → P s := by
  intro s
  refine (dn_wf t).induction (C := fun s => s.turn < t → P s) s ?_
  intro s ih hs
  have hv : dv bl 8 s < 8 := Nat.mod_lt _ (by omega)
  have hbig : ∀ k, k ≤ 8 → 8 * 26 ^ 8 ≤ bl t / 26 ^ k := fun k hk => by
    rw [Nat.le_div_iff_mul_le (Nat.pow_pos (by omega))]
    have hle : 26 ^ k ≤ 26 ^ 8 := Nat.pow_le_pow_right (by omega) hk
    have h2 : 8 * 26 ^ 8 * 26 ^ k ≤ 8 * 26 ^ 8 * 26 ^ 8 := Nat.mul_le_mul_left _ hle
    omega
  rcases dn_case (bl := bl) (room := 8) (by omega) hs with ⟨h1, h2⟩ | ⟨h1, h2⟩
  · have h9 : 26 ^ 9 ≤ bl t := by omega
    rcases lets_hit (bl := bl) h9 (dv bl 8 s + 1) (dn bl 8 s) (by omega) h1 with ⟨h3, h4⟩ | ⟨h3, k, hk, h4⟩
    · refine h s (by omega) (.inr (ih _ ?_ h3))
      show Dn t (lets bl (dv bl 8 s + 1) (dn bl 8 s)).2 s
      rcases h4 with h4 | h4
      · rw [h4]; exact h2
      · exact h4.trans h2
    · refine h s (by omega) (.inr ?_)
      show P (lets bl (dv bl 8 s + 1) (dn bl 8 s)).2
      generalize (lets bl (dv bl 8 s + 1) (dn bl 8 s)).2 = s2 at *
      refine h s2 (by omega) (.inl ?_)
      have hb := hbig k hk
      have e : ld bl s2 = s2 := ld_pos (by omega)
      rw [it_big (by rw [e, h4]; exact hb), e, h4]
      exact hg k hk
  · refine h s (by omega) (.inl ?_)
    have hb := hbig 0 (by omega)
    rw [Nat.pow_zero, Nat.div_one] at hb
    rw [it_big (by rw [h2]; exact hb), h2]
    have := hg 0 (by omega)
    rwa [Nat.pow_zero, Nat.div_one] at this
end WD
namespace WD
/-! ### enough different numbers: one is good at all phases -/
section
variable {α : Type} [DecidableEq α]
theorem rem1 (key : Nat → α) (f : α) : ∀ cs : List Nat, cs.Pairwise (fun a b => key a ≠ key b) → cs.length ≤ (cs.filter (fun c => decide (key c ≠ f))).length + 1
  | [], _ => by simp
  | c :: r, h => by
    have h1 := List.pairwise_cons.mp h
    by_cases hc : key c = f
    · have e : r.filter (fun c => decide (key c ≠ f)) = r := List.filter_eq_self.mpr fun x hx => by
        have := h1.1 x hx
        rw [hc] at this
        simpa using fun e => this e.symm
      rw [List.filter_cons_of_neg (by simp [hc]), e]
      simp
    · rw [List.filter_cons_of_pos (by simp [hc])]
      have := rem1 key f r h1.2
      simp only [List.length_cons]
      omega
theorem remF (key : Nat → α) : ∀ (F : List α) (cs : List Nat), cs.Pairwise (fun a b => key a ≠ key b) → cs.length ≤ (cs.filter (fun c => decide (key c ∉ F))).length + F.length
  | [], cs, _ => by
    have e : cs.filter (fun c => decide (key c ∉ ([] : List α))) = cs := List.filter_eq_self.mpr fun x _ => by simp
    rw [e]; simp
  | f :: F, cs, h => by
    have h1 := remF key F cs h
    have h2 := rem1 key f _ (h.filter (fun c => decide (key c ∉ F)))
    have e : (cs.filter (fun c => decide (key c ∉ F))).filter (fun c => decide (key c ≠ f)) = cs.filter (fun c => decide (key c ∉ f :: F)) := by
      rw [List.filter_filter]
      congr 1
      funext c
      simp [Bool.decide_and]
    rw [e] at h2
    simp only [List.length_cons]
    omega
theorem remK (key : Nat → Nat → α) (F : List α) : ∀ (K : Nat) (cs : List Nat), (∀ k, k < K → cs.Pairwise (fun a b => key k a ≠ key k b)) → ∃ cs' : List Nat, (∀ c ∈ cs', c ∈ cs ∧ ∀ k, k < K → key k c ∉ F) ∧ cs.length ≤ cs'.length + K * F.length
  | 0, cs, _ => ⟨cs, fun c h => ⟨h, fun k hk => absurd hk (by omega)⟩, by omega⟩
  | K + 1, cs, h => by
    have h1 := remF (key K) F cs (h K (by omega))
    obtain ⟨cs', h2, h3⟩ := remK key F K (cs.filter (fun c => decide (key K c ∉ F))) fun k hk => (h k (by omega)).filter _
    refine ⟨cs', fun c hc => ?_, by rw [Nat.succ_mul]; omega⟩
    obtain ⟨h4, h5⟩ := h2 c hc
    have h6 := List.mem_filter.mp h4
    refine ⟨h6.1, fun k hk => ?_⟩
    by_cases e : k = K
    · subst e; simpa using h6.2
    · exact h5 k (by omega)
end
/-! the kernel's check that numbers differ at each phase -/
def ix (k n : Nat) : Nat := k * 4096 + code (n / 26 ^ k) % 4096
def bitsK : Nat → Nat → Nat
  | 0, _ => 0
  | K + 1, n => bitsK K n ||| 2 ^ ix K n
def freeK : Nat → Nat → Nat → Bool
  | 0, _, _ => true
  | K + 1, m, n => !m.testBit (ix K n) && freeK K m n
def keep (f : Nat → Nat) : List Nat → Nat → Nat → Nat
  | [], _, c => c
  | x :: r, m, c => if Nat.ble (8 * 26 ^ 16) (f x) && freeK 9 m (f x) then keep f r (m ||| bitsK 9 (f x)) (c + 1) else keep f r m c
theorem bits_true {n : Nat} : ∀ {K k : Nat}, k < K → (bitsK K n).testBit (ix k n) = true
  | K + 1, k, h => by
    rw [bitsK, Nat.testBit_or, Bool.or_eq_true]
    by_cases e : k = K
    · subst e; exact .inr (Nat.testBit_two_pow_self)
    · exact .inl (bits_true (by omega))
theorem free_false {m n : Nat} : ∀ {K k : Nat}, freeK K m n = true → k < K → m.testBit (ix k n) = false
  | K + 1, k, h, hk => by
    rw [freeK, Bool.and_eq_true, Bool.not_eq_true'] at h
    by_cases e : k = K
    · subst e; exact h.1
    · exact free_false h.2 (by omega)
theorem keep_ok (f : Nat → Nat) : ∀ (xs : List Nat) (m c : Nat), ∃ cs : List Nat, keep f xs m c = c + cs.length ∧ (∀ n ∈ cs, 8 * 26 ^ 16 ≤ n ∧ (∃ x ∈ xs, n = f x) ∧ ∀ k, k < 9 → m.testBit (ix k n) = false) ∧ ∀ k, k < 9 → cs.Pairwise (fun a b => ix k a ≠ ix k b)
  | [], m, c => ⟨[], rfl, fun n h => absurd h List.not_mem_nil, fun k _ => List.Pairwise.nil⟩
  | x :: r, m, c => by
    rw [keep]
    split
    · rename_i hc
      rw [Bool.and_eq_true] at hc
      obtain ⟨cs, e, h1, h2⟩ := keep_ok f r (m ||| bitsK 9 (f x)) (c + 1)
      have h3 : ∀ n ∈ cs, ∀ k, k < 9 → m.testBit (ix k n) = false ∧ (bitsK 9 (f x)).testBit (ix k n) = false := fun n hn k hk => by
        have := (h1 n hn).2.2 k hk
        rwa [Nat.testBit_or, Bool.or_eq_false_iff] at this
      refine ⟨f x :: cs, by rw [e, List.length_cons]; omega, fun n hn => ?_, fun k hk => List.pairwise_cons.mpr ⟨fun n hn ee => ?_, h2 k hk⟩⟩
      · rcases List.mem_cons.mp hn with rfl | hn
        · exact ⟨Nat.le_of_ble_eq_true hc.1, ⟨x, List.mem_cons_self, rfl⟩, fun k hk => free_false hc.2 hk⟩
        · obtain ⟨a, ⟨y, hy, ey⟩, b⟩ := h1 n hn
          exact ⟨a, ⟨y, List.mem_cons_of_mem _ hy, ey⟩, fun k hk => (h3 n hn k hk).1⟩
      · have h4 := (h3 n hn k hk).2
        rw [← ee, bits_true hk] at h4
        cases h4
    · obtain ⟨cs, e, h1, h2⟩ := keep_ok f r m c
      exact ⟨cs, e, fun n hn => by
        obtain ⟨a, ⟨y, hy, ey⟩, b⟩ := h1 n hn
        exact ⟨a, ⟨y, List.mem_cons_of_mem _ hy, ey⟩, b⟩, h2⟩
/-- of enough different numbers one gives, at each phase, a word that is not among seven -/
theorem one_good (f : Nat → Nat) (xs : List Nat) (h : Nat.ble 64 (keep f xs 0 0) = true) {F : List (List Nat)} (hF : F.length ≤ 7) : ∃ x ∈ xs, 8 * 26 ^ 16 ≤ f x ∧ ∀ k, k ≤ 8 → wl (f x / 26 ^ k) ∉ F := by
  obtain ⟨cs, e, h1, h2⟩ := keep_ok f xs 0 0
  have h64 := Nat.le_of_ble_eq_true h
  obtain ⟨cs', h3, h4⟩ := remK (fun k n => wl (n / 26 ^ k)) F 9 cs fun k hk => (h2 k hk).imp fun {a b} hn ee => hn (by unfold ix; rw [code_of ee])
  have h5 : 9 * F.length ≤ 63 := by omega
  cases cs' with
  | nil => simp at h4; omega
  | cons n r =>
    obtain ⟨h6, h7⟩ := h3 n List.mem_cons_self
    obtain ⟨h8, ⟨x, hx, rfl⟩, _⟩ := h1 n h6
    exact ⟨x, hx, h8, fun k hk => h7 k (by omega)⟩
end WD
namespace WD
/-- the number of three equal blends -/
def numU (u : Nat) : Nat := ((u ^ 5 % 2147483579) * 2147483647 + u ^ 5 % 2147483629) * 2147483647 + u ^ 5 % 2147483563
theorem num_u (u : Nat) : num ((u : Int) ^ 5 % q1) ((u : Int) ^ 5 % q2) ((u : Int) ^ 5 % q3) = (numU u : Int) := by
  unfold num numU
  rw [← Int.natCast_pow]
  generalize u ^ 5 = x
  simp only [q1, q2, q3]
  omega
/-- the number at a turn when there are no cells -/
def numE (t : Nat) : Nat := (((48271 * t + 40518558) ^ 5 % 2147483579) * 2147483647 + (48271 * t + 40518559) ^ 5 % 2147483629) * 2147483647 + (48271 * t + 40518557) ^ 5 % 2147483563
theorem num_e (t : Nat) : bl3 [] (t : Int) = (numE t : Int) := by
  unfold bl3 part blend num numE
  have e1 : (48271 * (t : Int) + q1 / 53) = ((48271 * t + 40518558 : Nat) : Int) := by simp only [q1]; omega
  have e2 : (48271 * (t : Int) + q2 / 53) = ((48271 * t + 40518559 : Nat) : Int) := by simp only [q2]; omega
  have e3 : (48271 * (t : Int) + q3 / 53) = ((48271 * t + 40518557 : Nat) : Int) := by simp only [q3]; omega
  show ((0 * 2147483647 + (48271 * (t : Int) + q1 / 53) ^ 5 % q1) * 2147483647 + (48271 * (t : Int) + q2 / 53) ^ 5 % q2) * 2147483647 + (48271 * (t : Int) + q3 / 53) ^ 5 % q3 = _
  rw [e1, e2, e3, ← Int.natCast_pow, ← Int.natCast_pow, ← Int.natCast_pow]
  generalize (48271 * t + 40518557) ^ 5 = x
  generalize (48271 * t + 40518558) ^ 5 = y
  generalize (48271 * t + 40518559) ^ 5 = z
  simp only [q1, q2, q3]
  omega
def fromTo : Nat → Nat → List Nat
  | 0, _ => []
  | n + 1, a => a :: fromTo n (a + 1)
theorem mem_fromTo : ∀ {n a x : Nat}, x ∈ fromTo n a → a ≤ x ∧ x < a + n
  | 0, a, x, h => absurd h List.not_mem_nil
  | n + 1, a, x, h => by
    rcases List.mem_cons.mp h with rfl | h
    · omega
    · have := mem_fromTo h; omega
theorem us_ok : Nat.ble 64 (keep numU (fromTo 160 1000) 0 0) = true := by decide +kernel
/-- blocks of 128 turns, b of them -/
def blk (a : Nat) : Bool := Nat.ble 64 (keep numE (fromTo 128 a) 0 0)
def blocks (p : Nat → Bool) : Nat → Nat → Bool
  | 0, _ => true
  | n + 1, a => p a && blocks p n (a + 128)
theorem blocks_ok : blocks blk 160 128 = true := by decide +kernel
theorem blk_good {a : Nat} (h : blk a = true) {F : List (List Nat)} (hF : F.length ≤ 7) : ∃ x ∈ fromTo 128 a, 8 * 26 ^ 16 ≤ numE x ∧ ∀ k, k ≤ 8 → wl (numE x / 26 ^ k) ∉ F := by
  unfold blk at h
  exact one_good numE _ h hF
theorem blocks_succ (p : Nat → Bool) (n a : Nat) : blocks p (n + 1) a = (p a && blocks p n (a + 128)) := rfl
theorem block_of (p : Nat → Bool) (n : Nat) : ∀ a, blocks p n a = true → ∀ b, b < n → p (a + 128 * b) = true := by
  induction n with
  | zero => intro a _ b hb; exact absurd hb (by omega)
  | succ n ih =>
    intro a h b hb
    rw [blocks_succ, Bool.and_eq_true] at h
    cases b with
    | zero => exact h.1
    | succ b =>
      have := ih _ h.2 b (by omega)
      rwa [show a + 128 * (b + 1) = a + 128 + 128 * b by omega]
def unit (cells : List Int) : Nat := if cells = [] then 256 else 9903519516461379889783524533
def blN (cells : List Int) (t : Nat) : Nat := (bl3 cells (t : Int)).toNat
theorem good_turn {cells : List Int} (hl : cells.length ≤ 1000) {t0 : Nat} (h0 : cells = [] → t0 ≤ 20000) {F : List (List Nat)} (hF : F.length ≤ 7) :
    ∃ t, t0 < t ∧ t ≤ t0 + unit cells ∧ 8 * 26 ^ 16 ≤ blN cells t ∧ ∀ k, k ≤ 8 → wl (blN cells t / 26 ^ k) ∉ F := by
  by_cases hc : cells = []
  · subst hc
    have h1 := h0 rfl
    obtain ⟨x, hx, h2, h3⟩ := blk_good (block_of blk 160 128 blocks_ok (t0 / 128) (by omega)) hF
    have hm := mem_fromTo hx
    have e : blN [] x = numE x := by unfold blN; rw [num_e]; exact Int.toNat_natCast _
    refine ⟨x, by omega, ?_, by rw [e]; exact h2, by rw [e]; exact h3⟩
    unfold unit
    rw [if_pos rfl]
    omega
  · obtain ⟨u, hu, h2, h3⟩ := one_good numU (fromTo 160 1000) us_ok hF
    have hm := mem_fromTo hu
    obtain ⟨t, h4, h5, h6⟩ := hit hc hl (u := (u : Int)) (by omega) (by omega) (t0 : Int)
    rw [num_u] at h6
    obtain ⟨n, rfl⟩ : ∃ n : Nat, t = (n : Int) := ⟨t.toNat, by omega⟩
    have e : blN cells n = numU u := by unfold blN; rw [h6]; exact Int.toNat_natCast _
    refine ⟨n, by omega, ?_, by rw [e]; exact h2, by rw [e]; exact h3⟩
    unfold unit
    rw [if_neg hc]
    have : PP = 9903519516461379889783524533 := rfl
    omega
end WD
namespace K66
open PySem PyProof.Rows L2 Dv

/-- how far one draw may move the turn -/
def unitR (ns : List Int) : Int := if ns = [] then 1 else 19807040628566084398385987584
/-- the draws as they may stand, after at most c blends -/
structure RgOk (ns : List Int) (c : Nat) (r : Rng) : Prop where
  cells : r.cells = absOf ns
  len : ns.length ≤ 1000
  turn0 : 0 ≤ r.turn
  turnc : r.turn ≤ c * unitR ns
  cc : c ≤ 20000
  rest0 : 0 ≤ r.rest
  gl : r.great.length ≤ 1000
  great0 : ∀ z ∈ r.great, 0 ≤ z
theorem unit_pos (ns : List Int) : 1 ≤ unitR ns := by
  unfold unitR; split <;> omega
theorem abs_nonneg {ns : List Int} {z : Int} (h : z ∈ absOf ns) : 0 ≤ z := by
  obtain ⟨y, _, rfl⟩ := List.mem_map.mp h
  rw [iabs_nat]; omega
theorem absOf_nil {ns : List Int} : absOf ns = [] ↔ ns = [] := by
  unfold absOf; exact List.map_eq_nil_iff
theorem RgOk.turn_le {ns : List Int} {c : Nat} {r : Rng} (h : RgOk ns c r) : r.turn + 1 < 1000000000000000000000000000000000 ∧ (ns = [] → r.turn ≤ 20000) := by
  have h1 := h.turnc
  have h2 := h.cc
  unfold unitR at h1
  split at h1
  · rw [Int.mul_one] at h1; exact ⟨by omega, fun _ => by omega⟩
  · rename_i hn; exact ⟨by omega, fun e => absurd e hn⟩
/-- one pass over the cells -/
def bStep : MS := sSet 4 (mOp2 modD (mCall Dv.intD (mCons (mOp2 addD (mOp2 addD (mOp2 mulI (mVarB 4) (mPure (.int 69621))) (mVarB 5)) (mVarB 2)) (mPure []))) (mVarB 1))
theorem blend_go {a : Addr} {prime turn found : Int} (hp0 : 0 < prime) (hp : prime < 2147483648) {S : Sg} : ∀ (zs : List Int) (bl : Int) (z : Option LV), bl.natAbs.log2 < 900000 → ∃ z', forGo (gNm 5) bStep (zs.map D.int) [some (.imm (.rng a)), some (.imm (.int prime)), some (.imm (.int turn)), some (.imm (.int found)), some (.imm (.int bl)), z] S = some (.nx, [some (.imm (.rng a)), some (.imm (.int prime)), some (.imm (.int turn)), some (.imm (.int found)), some (.imm (.int (zs.foldl (fun b c => (b * 69621 + c + turn) % prime) bl))), z'], S)
  | [], bl, z, h0 => ⟨z, rfl⟩
  | c :: zs, bl, z, h0 => by
    have hm : bl.natAbs.log2 + (69621 : Int).natAbs.log2 < 1000000 := by
      have e2 : (69621 : Int).natAbs.log2 = 16 := by decide +kernel
      omega
    have hn0 : 0 ≤ (bl * 69621 + c + turn) % prime := Int.emod_nonneg _ (by omega)
    have hn1 : (bl * 69621 + c + turn) % prime < prime := Int.emod_lt_of_pos _ hp0
    have hl : ((bl * 69621 + c + turn) % prime).natAbs.log2 < 900000 := by
      have : ((bl * 69621 + c + turn) % prime).natAbs.log2 ≤ (2147483648 : Nat).log2 := log2_mono (by omega)
      have e : (2147483648 : Nat).log2 = 31 := by decide +kernel
      omega
    obtain ⟨z', e⟩ := blend_go (a := a) (turn := turn) (found := found) hp0 hp (S := S) zs ((bl * 69621 + c + turn) % prime) (some (.imm (.int c))) hl
    refine ⟨z', ?_⟩
    rw [List.foldl_cons, ← e]
    show Option.bind (gNm 5 (.int c) _) _ = _
    simp only [runP, startL, outF, mVar, mVarB, mPure, mOp1, mOp2, mCons, mCall, mTup, mLst, mTst, asB, mNot, mAnd, mOr, mAndV, mOrV, mIte, mSeq, sSq, sIf, sRet, sSet, sSetF, sNil, sFrz, frz, sExpr, sPar2, sPar3, sAsg, mkL, gNm, gTp, gCns, gNl, D.asT, itemsD, addD_int, subD_int, ltD_int, leD_int, gtD_int, geD_int, negD_int, gcdD_int, absD_int, Option.bind_some, Option.map_some, Option.bind_none, Option.map_none, List.map_cons, List.map_nil, List.length_cons, List.length_nil, List.cons_append, List.nil_append, List.getElem?_cons_zero, List.getElem?_cons_succ, List.set_cons_zero, List.set_cons_succ, List.replicate_succ, List.replicate_zero, Nat.reduceAdd, Nat.reduceSub, Nat.reduceLeDiff, if_true, if_false, ite_true, ite_false, Bool.false_eq_true, bStep, mulI_int hm, Dv.intD, modD_int hp0]
end K66
namespace K66
open PySem PyProof.Rows L2 Dv

def pStep : MS := (sSq (sSet 4 (mOp2 addD (mOp2 mulI (mPure (.int 48271)) (mVarB 2)) (mOp2 fdivD (mVarB 1) (mPure (.int 53)))))
  (sSq (sFor (mSeq (mStC 0)) (gNm 5) bStep)
  (sSet 3 (mOp2 addD (mOp2 mulI (mVarB 3) (mPure (.int 2147483647))) (mOp2 modD (mCall Dv.intD (mCons (mOp2 powD (mVarB 4) (mPure (.int 5))) (mPure []))) (mVarB 1))))))
theorem pstep_ev {r : Rng} {prime turn found : Int} (hp0 : 0 < prime) (hp : prime < 2147483648) (ht0 : 0 ≤ turn) (ht : turn < 1000000000000000000000000000000000) (hf0 : 0 ≤ found) (hf : found < 1000000000000000000000000000000) (hb : (WD.blend prime turn r.cells).natAbs < 2 ^ 64) (z y : Option LV) :
    ∃ bl' z', pStep [some (.imm (.rng r.at_)), some (.imm (.int prime)), some (.imm (.int turn)), some (.imm (.int found)), z, y] (some r) = some (.nx, [some (.imm (.rng r.at_)), some (.imm (.int prime)), some (.imm (.int turn)), some (.imm (.int (found * 2147483647 + WD.part prime turn r.cells))), some (.imm (.int bl')), z'], some r) := by
  have hd : prime / 53 < 2147483648 := by omega
  have hd0 : 0 ≤ prime / 53 := by omega
  have l53 : (53 : Int).natAbs.log2 < 9000 := by decide +kernel
  have e48 : (48271 : Int).natAbs.log2 = 15 := by decide +kernel
  have m1 : (48271 : Int).natAbs.log2 + turn.natAbs.log2 < 1000000 := by
    have : turn.natAbs.log2 ≤ (1000000000000000000000000000000000 : Nat).log2 := log2_mono (by omega)
    have e : (1000000000000000000000000000000000 : Nat).log2 = 109 := by decide +kernel
    omega
  have m3 : (48271 * turn + prime / 53).natAbs.log2 < 900000 := by
    have : (48271 * turn + prime / 53).natAbs.log2 ≤ (100000000000000000000000000000000000000 : Nat).log2 := log2_mono (by omega)
    have e : (100000000000000000000000000000000000000 : Nat).log2 = 126 := by decide +kernel
    omega
  have m2 : found.natAbs.log2 + (2147483647 : Int).natAbs.log2 < 1000000 := by
    have : found.natAbs.log2 ≤ (1000000000000000000000000000000 : Nat).log2 := log2_mono (by omega)
    have e : (1000000000000000000000000000000 : Nat).log2 = 99 := by decide +kernel
    have e2 : (2147483647 : Int).natAbs.log2 = 30 := by decide +kernel
    omega
  obtain ⟨z', e⟩ := blend_go (a := r.at_) (turn := turn) (found := found) hp0 hp (S := some r) r.cells (48271 * turn + prime / 53) y m3
  have hpw : powD (.int (WD.blend prime turn r.cells)) (.int 5) = some (.int ((WD.blend prime turn r.cells) ^ 5)) := by
    simp [powD, liftI2, hb]
  refine ⟨WD.blend prime turn r.cells, z', ?_⟩
  have s1 : sSet 4 (mOp2 addD (mOp2 mulI (mPure (.int 48271)) (mVarB 2)) (mOp2 fdivD (mVarB 1) (mPure (.int 53)))) [some (.imm (.rng r.at_)), some (.imm (.int prime)), some (.imm (.int turn)), some (.imm (.int found)), z, y] (some r) = some (.nx, [some (.imm (.rng r.at_)), some (.imm (.int prime)), some (.imm (.int turn)), some (.imm (.int found)), some (.imm (.int (48271 * turn + prime / 53))), y], some r) := by
    simp only [runP, startL, outF, mVar, mVarB, mPure, mOp1, mOp2, mCons, mCall, mTup, mLst, mTst, asB, mNot, mAnd, mOr, mAndV, mOrV, mIte, mSeq, sSq, sIf, sRet, sSet, sSetF, sNil, sFrz, frz, sExpr, sPar2, sPar3, sAsg, mkL, gNm, gTp, gCns, gNl, D.asT, itemsD, addD_int, subD_int, ltD_int, leD_int, gtD_int, geD_int, negD_int, gcdD_int, absD_int, Option.bind_some, Option.map_some, Option.bind_none, Option.map_none, List.map_cons, List.map_nil, List.length_cons, List.length_nil, List.cons_append, List.nil_append, List.getElem?_cons_zero, List.getElem?_cons_succ, List.set_cons_zero, List.set_cons_succ, List.replicate_succ, List.replicate_zero, Nat.reduceAdd, Nat.reduceSub, Nat.reduceLeDiff, if_true, if_false, ite_true, ite_false, Bool.false_eq_true, mulI_int m1, fdivD_int (by omega : (0 : Int) < 53) l53]
  have ec : mSeq (mStC 0) [some (.imm (.rng r.at_)), some (.imm (.int prime)), some (.imm (.int turn)), some (.imm (.int found)), some (.imm (.int (48271 * turn + prime / 53))), y] (some r) = some (r.cells.map D.int, some r) := by
    simp only [runP, startL, outF, mVar, mVarB, mPure, mOp1, mOp2, mCons, mCall, mTup, mLst, mTst, asB, mNot, mAnd, mOr, mAndV, mOrV, mIte, mSeq, sSq, sIf, sRet, sSet, sSetF, sNil, sFrz, frz, sExpr, sPar2, sPar3, sAsg, mkL, gNm, gTp, gCns, gNl, D.asT, itemsD, addD_int, subD_int, ltD_int, leD_int, gtD_int, geD_int, negD_int, gcdD_int, absD_int, Option.bind_some, Option.map_some, Option.bind_none, Option.map_none, List.map_cons, List.map_nil, List.length_cons, List.length_nil, List.cons_append, List.nil_append, List.getElem?_cons_zero, List.getElem?_cons_succ, List.set_cons_zero, List.set_cons_succ, List.replicate_succ, List.replicate_zero, Nat.reduceAdd, Nat.reduceSub, Nat.reduceLeDiff, if_true, if_false, ite_true, ite_false, Bool.false_eq_true, mStC]
  have s2 := for_of (mi := mSeq (mStC 0)) ec e
  have s3 : sSet 3 (mOp2 addD (mOp2 mulI (mVarB 3) (mPure (.int 2147483647))) (mOp2 modD (mCall Dv.intD (mCons (mOp2 powD (mVarB 4) (mPure (.int 5))) (mPure []))) (mVarB 1))) [some (.imm (.rng r.at_)), some (.imm (.int prime)), some (.imm (.int turn)), some (.imm (.int found)), some (.imm (.int (WD.blend prime turn r.cells))), z'] (some r) = some (.nx, [some (.imm (.rng r.at_)), some (.imm (.int prime)), some (.imm (.int turn)), some (.imm (.int (found * 2147483647 + WD.part prime turn r.cells))), some (.imm (.int (WD.blend prime turn r.cells))), z'], some r) := by
    show _ = some (Fl.nx, [some (.imm (.rng r.at_)), some (.imm (.int prime)), some (.imm (.int turn)), some (.imm (.int (found * 2147483647 + (WD.blend prime turn r.cells) ^ 5 % prime))), some (.imm (.int (WD.blend prime turn r.cells))), z'], some r)
    simp only [runP, startL, outF, mVar, mVarB, mPure, mOp1, mOp2, mCons, mCall, mTup, mLst, mTst, asB, mNot, mAnd, mOr, mAndV, mOrV, mIte, mSeq, sSq, sIf, sRet, sSet, sSetF, sNil, sFrz, frz, sExpr, sPar2, sPar3, sAsg, mkL, gNm, gTp, gCns, gNl, D.asT, itemsD, addD_int, subD_int, ltD_int, leD_int, gtD_int, geD_int, negD_int, gcdD_int, absD_int, Option.bind_some, Option.map_some, Option.bind_none, Option.map_none, List.map_cons, List.map_nil, List.length_cons, List.length_nil, List.cons_append, List.nil_append, List.getElem?_cons_zero, List.getElem?_cons_succ, List.set_cons_zero, List.set_cons_succ, List.replicate_succ, List.replicate_zero, Nat.reduceAdd, Nat.reduceSub, Nat.reduceLeDiff, if_true, if_false, ite_true, ite_false, Bool.false_eq_true, mulI_int m2, hpw, Dv.intD, modD_int hp0]
  exact (sSq_nx s1).trans ((sSq_nx s2).trans s3)
theorem part_range {p t : Int} {cells : List Int} (hp : 0 < p) : 0 ≤ WD.part p t cells ∧ WD.part p t cells < p := ⟨Int.emod_nonneg _ (by omega), Int.emod_lt_of_pos _ hp⟩
theorem RgOk.blend_lt {ns : List Int} {c : Nat} {r : Rng} (h : RgOk ns c r) {p : Int} (hp : 0 < p) (hp2 : p < 2147483648) : (WD.blend p (r.turn + 1) r.cells).natAbs < 2 ^ 64 := by
  have h1 := h.turn_le
  have h0 := h.turn0
  rw [h.cells]
  by_cases hn : ns = []
  · have := h1.2 hn
    rw [hn]
    show (48271 * (r.turn + 1) + p / 53).natAbs < 2 ^ 64
    omega
  · have := WD.blend_range (t := r.turn + 1) hp (cells := absOf ns) (fun e => hn (absOf_nil.mp e))
    omega
end K66
namespace K66
open PySem PyProof.Rows L2 Dv

theorem blended_ev {ns : List Int} {c : Nat} {r : Rng} (h : RgOk ns c r) : f_law_blended [.rng r.at_] r = some (.int (WD.bl3 r.cells (r.turn + 1)), { r with turn := r.turn + 1 }) ∧ 0 ≤ WD.bl3 r.cells (r.turn + 1) := by
  have t0 := h.turn0
  have tc := h.turn_le.1
  obtain ⟨p1, q1⟩ := part_range (p := 2147483579) (t := r.turn + 1) (cells := r.cells) (by omega)
  obtain ⟨p2, q2⟩ := part_range (p := 2147483629) (t := r.turn + 1) (cells := r.cells) (by omega)
  obtain ⟨p3, q3⟩ := part_range (p := 2147483563) (t := r.turn + 1) (cells := r.cells) (by omega)
  have hv : WD.bl3 r.cells (r.turn + 1) = ((0 * 2147483647 + WD.part 2147483579 (r.turn + 1) r.cells) * 2147483647 + WD.part 2147483629 (r.turn + 1) r.cells) * 2147483647 + WD.part 2147483563 (r.turn + 1) r.cells := rfl
  rw [hv]
  obtain ⟨b1, z1, e1⟩ := pstep_ev (r := { r with turn := r.turn + 1 }) (prime := 2147483579) (turn := r.turn + 1) (found := 0) (by omega) (by omega) (by omega) (by omega) (by omega) (by omega) (h.blend_lt (by omega) (by omega)) none none
  obtain ⟨b2, z2, e2⟩ := pstep_ev (r := { r with turn := r.turn + 1 }) (prime := 2147483629) (turn := r.turn + 1) (found := 0 * 2147483647 + WD.part 2147483579 (r.turn + 1) r.cells) (by omega) (by omega) (by omega) (by omega) (by omega) (by omega) (h.blend_lt (by omega) (by omega)) (some (.imm (.int b1))) z1
  obtain ⟨b3, z3, e3⟩ := pstep_ev (r := { r with turn := r.turn + 1 }) (prime := 2147483563) (turn := r.turn + 1) (found := (0 * 2147483647 + WD.part 2147483579 (r.turn + 1) r.cells) * 2147483647 + WD.part 2147483629 (r.turn + 1) r.cells) (by omega) (by omega) (by omega) (by omega) (by omega) (by omega) (h.blend_lt (by omega) (by omega)) (some (.imm (.int b2))) z2
  dsimp only at e1 e2 e3
  generalize WD.part 2147483579 (r.turn + 1) r.cells = x1 at *
  generalize WD.part 2147483629 (r.turn + 1) r.cells = x2 at *
  generalize WD.part 2147483563 (r.turn + 1) r.cells = x3 at *
  refine ⟨?_, by omega⟩
  have s1 : sPar2 2 3 false (mOp2 addD (mStI 0 Rng.turn) (mPure (.int 1))) false (mPure (.int 0)) [some (.imm (.rng r.at_)), none, none, none, none, none] (some r) = some (.nx, [some (.imm (.rng r.at_)), none, some (.imm (.int (r.turn + 1))), some (.imm (.int 0)), none, none], some r) := by
    simp only [runP, startL, outF, mVar, mVarB, mPure, mOp1, mOp2, mCons, mCall, mTup, mLst, mTst, asB, mNot, mAnd, mOr, mAndV, mOrV, mIte, mSeq, sSq, sIf, sRet, sSet, sSetF, sNil, sFrz, frz, sExpr, sPar2, sPar3, sAsg, mkL, gNm, gTp, gCns, gNl, D.asT, itemsD, addD_int, subD_int, ltD_int, leD_int, gtD_int, geD_int, negD_int, gcdD_int, absD_int, Option.bind_some, Option.map_some, Option.bind_none, Option.map_none, List.map_cons, List.map_nil, List.length_cons, List.length_nil, List.cons_append, List.nil_append, List.getElem?_cons_zero, List.getElem?_cons_succ, List.set_cons_zero, List.set_cons_succ, List.replicate_succ, List.replicate_zero, Nat.reduceAdd, Nat.reduceSub, Nat.reduceLeDiff, if_true, if_false, ite_true, ite_false, Bool.false_eq_true, mStI]
  have s2 : sStturn 0 (mVar 2) [some (.imm (.rng r.at_)), none, some (.imm (.int (r.turn + 1))), some (.imm (.int 0)), none, none] (some r) = some (.nx, [some (.imm (.rng r.at_)), none, some (.imm (.int (r.turn + 1))), some (.imm (.int 0)), none, none], some { r with turn := r.turn + 1 }) := by
    unfold sStturn
    simp only [runP, startL, outF, mVar, mVarB, mPure, mOp1, mOp2, mCons, mCall, mTup, mLst, mTst, asB, mNot, mAnd, mOr, mAndV, mOrV, mIte, mSeq, sSq, sIf, sRet, sSet, sSetF, sNil, sFrz, frz, sExpr, sPar2, sPar3, sAsg, mkL, gNm, gTp, gCns, gNl, D.asT, itemsD, addD_int, subD_int, ltD_int, leD_int, gtD_int, geD_int, negD_int, gcdD_int, absD_int, Option.bind_some, Option.map_some, Option.bind_none, Option.map_none, List.map_cons, List.map_nil, List.length_cons, List.length_nil, List.cons_append, List.nil_append, List.getElem?_cons_zero, List.getElem?_cons_succ, List.set_cons_zero, List.set_cons_succ, List.replicate_succ, List.replicate_zero, Nat.reduceAdd, Nat.reduceSub, Nat.reduceLeDiff, if_true, if_false, ite_true, ite_false, Bool.false_eq_true]
  have em : mSeq (mLst (mCons (mPure (.int 2147483579)) (mCons (mPure (.int 2147483629)) (mCons (mPure (.int 2147483563)) (mPure []))))) [some (.imm (.rng r.at_)), none, some (.imm (.int (r.turn + 1))), some (.imm (.int 0)), none, none] (some { r with turn := r.turn + 1 }) = some ([.int 2147483579, .int 2147483629, .int 2147483563], some { r with turn := r.turn + 1 }) := rfl
  have hfor : forGo (gNm 1) pStep [.int 2147483579, .int 2147483629, .int 2147483563] [some (.imm (.rng r.at_)), none, some (.imm (.int (r.turn + 1))), some (.imm (.int 0)), none, none] (some { r with turn := r.turn + 1 }) = some (.nx, [some (.imm (.rng r.at_)), some (.imm (.int 2147483563)), some (.imm (.int (r.turn + 1))), some (.imm (.int (((0 * 2147483647 + x1) * 2147483647 + x2) * 2147483647 + x3))), some (.imm (.int b3)), z3], some { r with turn := r.turn + 1 }) := by
    unfold forGo
    simp only [gNm, Option.bind_some, List.set_cons_succ, List.set_cons_zero]
    rw [e1]
    simp only [Option.bind_some]
    unfold forGo
    simp only [gNm, Option.bind_some, List.set_cons_succ, List.set_cons_zero]
    rw [e2]
    simp only [Option.bind_some]
    unfold forGo
    simp only [gNm, Option.bind_some, List.set_cons_succ, List.set_cons_zero]
    rw [e3]
    rfl
  have s3 := for_of (mi := mSeq (mLst (mCons (mPure (.int 2147483579)) (mCons (mPure (.int 2147483629)) (mCons (mPure (.int 2147483563)) (mPure [])))))) em hfor
  exact runR_rt rfl ((sSq_nx s1).trans ((sSq_nx s2).trans ((sSq_nx s3).trans (sRet_of (ev_var rfl))))) rfl rfl
end K66
namespace K66
open PySem PyProof.Rows L2 Dv

/-- the number that is drawn from -/
def ldR (r : Rng) : Rng := if r.rest = 0 then (match r.great with
  | [] => { r with turn := r.turn + 1, rest := WD.bl3 r.cells (r.turn + 1) }
  | g :: gs => { r with great := gs, rest := g }) else r
def dnR (room : Int) (r : Rng) : Rng := { ldR r with rest := (ldR r).rest / room }
theorem ldR_ok {ns : List Int} {c : Nat} {r : Rng} (h : RgOk ns c r) (hc : c < 20000) : RgOk ns (c + 1) (ldR r) ∧ Later r (ldR r) := by
  have hu := unit_pos ns
  have htc : r.turn ≤ ((c + 1 : Nat) : Int) * unitR ns := by
    have := h.turnc
    rw [Int.natCast_add, Int.add_mul]
    omega
  have htc1 : r.turn + 1 ≤ ((c + 1 : Nat) : Int) * unitR ns := by
    have := h.turnc
    rw [Int.natCast_add, Int.add_mul]
    omega
  have h0 := h.turn0
  unfold ldR
  split
  · split
    · exact ⟨⟨h.cells, h.len, by show 0 ≤ r.turn + 1; omega, htc1, by omega, (blended_ev h).2, h.gl, h.great0⟩, ⟨rfl, rfl⟩⟩
    · rename_i g gs hg
      have hgl := h.gl
      rw [hg, List.length_cons] at hgl
      exact ⟨⟨h.cells, h.len, h.turn0, htc, by omega, h.great0 g (by rw [hg]; exact List.mem_cons_self), by show gs.length ≤ 1000; omega, fun z hz => h.great0 z (by rw [hg]; exact List.mem_cons_of_mem _ hz)⟩, ⟨rfl, rfl⟩⟩
  · exact ⟨⟨h.cells, h.len, h.turn0, htc, by omega, h.rest0, h.gl, h.great0⟩, ⟨rfl, rfl⟩⟩
theorem dnR_ok {ns : List Int} {c : Nat} {r : Rng} (h : RgOk ns c r) (hc : c < 20000) {room : Int} (h0 : 0 < room) : RgOk ns (c + 1) (dnR room r) ∧ Later r (dnR room r) := by
  obtain ⟨ok1, l1⟩ := ldR_ok h hc
  exact ⟨⟨ok1.cells, ok1.len, ok1.turn0, ok1.turnc, ok1.cc, Int.ediv_nonneg ok1.rest0 (by omega), ok1.gl, ok1.great0⟩, ⟨l1.a, l1.g⟩⟩
theorem draw_eq {ns : List Int} {c : Nat} {r : Rng} (h : RgOk ns c r) (hc : c < 20000) {room : Int} (h0 : 0 < room) (h1 : room ≤ 1000000) : f_law_draw [.rng r.at_, .int room] r = some (.int ((ldR r).rest % room), dnR room r) := by
  have hlog : room.natAbs.log2 < 9000 := by
    have : room.natAbs.log2 ≤ (1000000 : Nat).log2 := log2_mono (by omega)
    have e : (1000000 : Nat).log2 = 19 := by decide +kernel
    omega
  obtain ⟨ok1, l1⟩ := ldR_ok h hc
  have la : r.at_ = (ldR r).at_ := l1.a.symm
  have e1 : sIf (mTst (mOp2 eqD (mStI 0 Rng.rest) (mPure (.int 0)))) (sStrest 0 (mIte (mStG 0) (mStP 0) (mCallR f_law_blended (mCons (mVar 0) (mPure []))))) sNil [some (.imm (.rng r.at_)), some (.imm (.int room)), none] (some r) = some (.nx, [some (.imm (.rng r.at_)), some (.imm (.int room)), none], some (ldR r)) := by
    by_cases hr : r.rest = 0
    · have et : mTst (mOp2 eqD (mStI 0 Rng.rest) (mPure (.int 0))) [some (.imm (.rng r.at_)), some (.imm (.int room)), none] (some r) = some (true, some r) := by
        simp only [runP, startL, outF, mVar, mVarB, mPure, mOp1, mOp2, mCons, mCall, mTup, mLst, mTst, asB, mNot, mAnd, mOr, mAndV, mOrV, mIte, mSeq, sSq, sIf, sRet, sSet, sSetF, sNil, sFrz, frz, sExpr, sPar2, sPar3, sAsg, mkL, gNm, gTp, gCns, gNl, D.asT, itemsD, addD_int, subD_int, ltD_int, leD_int, gtD_int, geD_int, negD_int, gcdD_int, absD_int, Option.bind_some, Option.map_some, Option.bind_none, Option.map_none, List.map_cons, List.map_nil, List.length_cons, List.length_nil, List.cons_append, List.nil_append, List.getElem?_cons_zero, List.getElem?_cons_succ, List.set_cons_zero, List.set_cons_succ, List.replicate_succ, List.replicate_zero, Nat.reduceAdd, Nat.reduceSub, Nat.reduceLeDiff, if_true, if_false, ite_true, ite_false, Bool.false_eq_true, mStI, eqD_int, hr, decide_true]
      have hgl := h.gl
      cases hg : r.great with
      | nil =>
        obtain ⟨eb, hv⟩ := blended_ev h
        have el : ldR r = { r with turn := r.turn + 1, rest := WD.bl3 r.cells (r.turn + 1) } := by unfold ldR; rw [if_pos hr, hg]
        have eg : mStG 0 [some (.imm (.rng r.at_)), some (.imm (.int room)), none] (some r) = some (false, some r) := by
          unfold mStG
          simp only [List.getElem?_cons_zero]
          rw [if_pos ⟨trivial, hgl⟩, hg]
          rfl
        have ec := callR_of (f := f_law_blended) (m := mCons (mVar 0) (mPure [])) (ρ := [some (.imm (.rng r.at_)), some (.imm (.int room)), none]) (S := some r) (cons_of (ev_var rfl) rfl) eb rfl rfl
        rw [el]
        unfold sIf
        rw [et]
        simp only [Option.bind_some, if_true]
        unfold sStrest mIte
        rw [eg]
        simp only [Option.bind_some, Bool.false_eq_true, if_false]
        rw [ec]
        simp only [Option.bind_some, List.getElem?_cons_zero]
        rw [if_pos trivial]
      | cons g0 gs =>
        have el : ldR r = { r with great := gs, rest := g0 } := by unfold ldR; rw [if_pos hr, hg]
        have eg : mStG 0 [some (.imm (.rng r.at_)), some (.imm (.int room)), none] (some r) = some (true, some r) := by
          unfold mStG
          simp only [List.getElem?_cons_zero]
          rw [if_pos ⟨trivial, hgl⟩, hg]
          rfl
        have ep : mStP 0 [some (.imm (.rng r.at_)), some (.imm (.int room)), none] (some r) = some (.int g0, some { r with great := gs }) := by
          unfold mStP
          simp only [List.getElem?_cons_zero]
          rw [if_pos trivial, hg]
        rw [el]
        unfold sIf
        rw [et]
        simp only [Option.bind_some, if_true]
        unfold sStrest mIte
        rw [eg]
        simp only [Option.bind_some, if_true]
        rw [ep]
        simp only [Option.bind_some, List.getElem?_cons_zero]
        rw [if_pos trivial]
    · have el : ldR r = r := by unfold ldR; rw [if_neg hr]
      rw [el]
      simp only [runP, startL, outF, mVar, mVarB, mPure, mOp1, mOp2, mCons, mCall, mTup, mLst, mTst, asB, mNot, mAnd, mOr, mAndV, mOrV, mIte, mSeq, sSq, sIf, sRet, sSet, sSetF, sNil, sFrz, frz, sExpr, sPar2, sPar3, sAsg, mkL, gNm, gTp, gCns, gNl, D.asT, itemsD, addD_int, subD_int, ltD_int, leD_int, gtD_int, geD_int, negD_int, gcdD_int, absD_int, Option.bind_some, Option.map_some, Option.bind_none, Option.map_none, List.map_cons, List.map_nil, List.length_cons, List.length_nil, List.cons_append, List.nil_append, List.getElem?_cons_zero, List.getElem?_cons_succ, List.set_cons_zero, List.set_cons_succ, List.replicate_succ, List.replicate_zero, Nat.reduceAdd, Nat.reduceSub, Nat.reduceLeDiff, if_true, if_false, ite_true, ite_false, Bool.false_eq_true, mStI, eqD_int, hr, decide_false]
  have e2 : sSet 2 (mOp2 modD (mCall Dv.intD (mCons (mStI 0 Rng.rest) (mPure []))) (mVarB 1)) [some (.imm (.rng r.at_)), some (.imm (.int room)), none] (some (ldR r)) = some (.nx, [some (.imm (.rng r.at_)), some (.imm (.int room)), some (.imm (.int ((ldR r).rest % room)))], some (ldR r)) := by
    generalize ldR r = r1 at *
    simp only [runP, startL, outF, mVar, mVarB, mPure, mOp1, mOp2, mCons, mCall, mTup, mLst, mTst, asB, mNot, mAnd, mOr, mAndV, mOrV, mIte, mSeq, sSq, sIf, sRet, sSet, sSetF, sNil, sFrz, frz, sExpr, sPar2, sPar3, sAsg, mkL, gNm, gTp, gCns, gNl, D.asT, itemsD, addD_int, subD_int, ltD_int, leD_int, gtD_int, geD_int, negD_int, gcdD_int, absD_int, Option.bind_some, Option.map_some, Option.bind_none, Option.map_none, List.map_cons, List.map_nil, List.length_cons, List.length_nil, List.cons_append, List.nil_append, List.getElem?_cons_zero, List.getElem?_cons_succ, List.set_cons_zero, List.set_cons_succ, List.replicate_succ, List.replicate_zero, Nat.reduceAdd, Nat.reduceSub, Nat.reduceLeDiff, if_true, if_false, ite_true, ite_false, Bool.false_eq_true, mStI, la, Dv.intD, modD_int h0]
  have e3 : sStrest 0 (mOp2 fdivD (mStI 0 Rng.rest) (mVarB 1)) [some (.imm (.rng r.at_)), some (.imm (.int room)), some (.imm (.int ((ldR r).rest % room)))] (some (ldR r)) = some (.nx, [some (.imm (.rng r.at_)), some (.imm (.int room)), some (.imm (.int ((ldR r).rest % room)))], some (dnR room r)) := by
    unfold sStrest dnR
    generalize ldR r = r1 at *
    simp only [runP, startL, outF, mVar, mVarB, mPure, mOp1, mOp2, mCons, mCall, mTup, mLst, mTst, asB, mNot, mAnd, mOr, mAndV, mOrV, mIte, mSeq, sSq, sIf, sRet, sSet, sSetF, sNil, sFrz, frz, sExpr, sPar2, sPar3, sAsg, mkL, gNm, gTp, gCns, gNl, D.asT, itemsD, addD_int, subD_int, ltD_int, leD_int, gtD_int, geD_int, negD_int, gcdD_int, absD_int, Option.bind_some, Option.map_some, Option.bind_none, Option.map_none, List.map_cons, List.map_nil, List.length_cons, List.length_nil, List.cons_append, List.nil_append, List.getElem?_cons_zero, List.getElem?_cons_succ, List.set_cons_zero, List.set_cons_succ, List.replicate_succ, List.replicate_zero, Nat.reduceAdd, Nat.reduceSub, Nat.reduceLeDiff, if_true, if_false, ite_true, ite_false, Bool.false_eq_true, mStI, la, fdivD_int h0 hlog]
  exact runR_rt rfl ((sSq_nx e1).trans ((sSq_nx e2).trans ((sSq_nx e3).trans (sRet_of (ev_var rfl))))) l1.a l1.g
/-- the same draws, later -/
theorem draw_ev {ns : List Int} {c : Nat} {r : Rng} (h : RgOk ns c r) (hc : c < 20000) {room : Int} (h0 : 0 < room) (h1 : room ≤ 1000000) : ∃ v r', f_law_draw [.rng r.at_, .int room] r = some (.int v, r') ∧ 0 ≤ v ∧ v < room ∧ RgOk ns (c + 1) r' ∧ Later r r' :=
  ⟨_, _, draw_eq h hc h0 h1, Int.emod_nonneg _ (by omega), Int.emod_lt_of_pos _ h0, (dnR_ok h hc h0).1, (dnR_ok h hc h0).2⟩
end K66
namespace K66
open PySem PyProof.Rows L2 Dv

/-- one of several, drawn -/
theorem pick_ev {ns : List Int} {c : Nat} {r : Rng} (h : RgOk ns c r) (hc : c < 20000) {ds : List D} (h0 : ds ≠ []) (hl : ds.length ≤ 1000) : ∃ d r', f_law_pick [.rng r.at_, .lst ds] r = some (d, r') ∧ d ∈ ds ∧ RgOk ns (c + 1) r' ∧ Later r r' := by
  have hp := List.length_pos_iff.mpr h0
  obtain ⟨v, r', e, v0, v1, ok, lt⟩ := draw_ev h hc (room := (ds.length : Int)) (by omega) (by omega)
  obtain ⟨n, rfl⟩ : ∃ n : Nat, v = (n : Int) := ⟨v.toNat, by omega⟩
  have hn : n < ds.length := by omega
  have eg : ds[n]? = some ds[n] := List.getElem?_eq_getElem hn
  refine ⟨ds[n], r', ?_, List.getElem_mem hn, ok, lt⟩
  have ec := callR_of (f := f_law_draw) (m := mCons (mVar 0) (mCons (mCall lenD (mCons (mVarB 1) (mPure []))) (mPure []))) (ρ := [some (.imm (.rng r.at_)), some (.imm (.lst ds))]) (S := some r) (cons_of (ev_var rfl) (cons_of (mCall_of (cons_of (ev_varB rfl) rfl) (len_items (d := .lst ds) rfl)) rfl)) e lt.a lt.g
  exact runR_rt rfl (sRet_of (mOp2_of (ev_varB rfl) ec (ix_nat rfl eg))) lt.a lt.g
end K66
namespace K66
open PySem PyProof.Rows L2 Dv

/-- a drawn number: its size -/
structure Num (dn nn : Nat) (q : Rat) : Prop where
  den : q.den ≤ dn
  num : q.num.natAbs ≤ nn
theorem num_mk {n : Int} {k dn nn : Nat} (hk : k ≠ 0) (h1 : k ≤ dn) (h2 : n.natAbs ≤ nn) : Num dn nn (mkRat n k) := by
  have g0 : 0 < k.gcd n.natAbs := Nat.gcd_pos_of_pos_left _ (by omega)
  refine ⟨?_, ?_⟩
  · rw [Rat.den_mkRat, if_neg hk]
    exact Nat.le_trans (Nat.div_le_self _ _) h1
  · rw [Rat.num_mkRat, if_neg hk, Int.natAbs_ediv_of_dvd (Int.ofNat_dvd_left.mpr (Nat.gcd_dvd_right _ _)), Int.natAbs_natCast]
    exact Nat.le_trans (Nat.div_le_self _ _) h2
theorem mkRat_pos {n : Int} {k : Nat} (hk : k ≠ 0) (hn : 0 < n) : 0 < mkRat n k := by
  refine (Rat.lt_iff _ _).mpr ?_
  have hd : (0 : Int) < ((mkRat n k).den : Int) := by have := (mkRat n k).den_pos; omega
  have h0 : 0 < (mkRat n k).num := by
    rw [Rat.num_mkRat, if_neg hk]
    have g0 : 0 < k.gcd n.natAbs := Nat.gcd_pos_of_pos_left _ (by omega)
    exact Int.ediv_pos_of_pos_of_dvd hn (by omega) (Int.ofNat_dvd_left.mpr (Nat.gcd_dvd_right _ _))
  simpa using h0
end K66
namespace K66
open PySem PyProof.Rows L2 Dv

/-! ### what is drawn, step by step: no more than k draws, and what comes has P -/
theorem RgOk.up {ns : List Int} {c c' : Nat} {r : Rng} (h : RgOk ns c r) (hc : c ≤ c') (h1 : c' ≤ 20000) : RgOk ns c' r :=
  ⟨h.cells, h.len, h.turn0, Int.le_trans h.turnc (Int.mul_le_mul_of_nonneg_right (by omega) (by have := unit_pos ns; omega)), h1, h.rest0, h.gl, h.great0⟩
theorem Later.refl (r : Rng) : Later r r := ⟨rfl, rfl⟩
section
variable {ns : List Int} {a : Addr} {k k' k2 : Nat} {ρ : Lo} {α : Type}
def RE (ns : List Int) (a : Addr) (k : Nat) {α : Type} (m : MX α) (ρ : Lo) (P : α → Prop) : Prop := ∀ c r, RgOk ns c r → r.at_ = a → c + k ≤ 20000 → ∃ d r', m ρ (some r) = some (d, some r') ∧ P d ∧ RgOk ns (c + k) r' ∧ Later r r'
def RS (ns : List Int) (a : Addr) (k : Nat) (m : MS) (ρ : Lo) (P : Fl → Lo → Prop) : Prop := ∀ c r, RgOk ns c r → r.at_ = a → c + k ≤ 20000 → ∃ fl ρ' r', m ρ (some r) = some (fl, ρ', some r') ∧ P fl ρ' ∧ RgOk ns (c + k) r' ∧ Later r r'
def RF (ns : List Int) (a : Addr) (k : Nat) (f : List D → Rng → Option (D × Rng)) (ds : List D) (P : D → Prop) : Prop := ∀ c r, RgOk ns c r → r.at_ = a → c + k ≤ 20000 → ∃ d r', f ds r = some (d, r') ∧ P d ∧ RgOk ns (c + k) r' ∧ Later r r'
theorem RE.mono {m : MX α} {P Q : α → Prop} (h : RE ns a k m ρ P) (hk : k ≤ k') (hp : ∀ d, P d → Q d) : RE ns a k' m ρ Q := fun c r ok ha hc => by
  obtain ⟨d, r', e, p, ok', l⟩ := h c r ok ha (by omega)
  exact ⟨d, r', e, hp d p, ok'.up (by omega) hc, l⟩
theorem RS.mono {m : MS} {P Q : Fl → Lo → Prop} (h : RS ns a k m ρ P) (hk : k ≤ k') (hp : ∀ fl ρ', P fl ρ' → Q fl ρ') : RS ns a k' m ρ Q := fun c r ok ha hc => by
  obtain ⟨d, x, r', e, p, ok', l⟩ := h c r ok ha (by omega)
  exact ⟨d, x, r', e, hp d x p, ok'.up (by omega) hc, l⟩
theorem RF.mono {f : List D → Rng → Option (D × Rng)} {ds : List D} {P Q : D → Prop} (h : RF ns a k f ds P) (hk : k ≤ k') (hp : ∀ d, P d → Q d) : RF ns a k' f ds Q := fun c r ok ha hc => by
  obtain ⟨d, r', e, p, ok', l⟩ := h c r ok ha (by omega)
  exact ⟨d, r', e, hp d p, ok'.up (by omega) hc, l⟩
theorem re_pure {m : MX α} {P : α → Prop} {d : α} (h : ∀ S, m ρ S = some (d, S)) (p : P d) : RE ns a 0 m ρ P := fun c r ok _ _ => ⟨d, r, h _, p, ok, Later.refl r⟩
theorem re_cst {d : D} : RE ns a 0 (mPure d) ρ (· = d) := re_pure (fun _ => rfl) rfl
theorem re_var {i : Nat} {d : D} (h : ρ[i]? = some (some (.imm d)) := by rfl) : RE ns a 0 (mVar i) ρ (· = d) := re_pure (fun _ => ev_var h) rfl
theorem re_varB {i : Nat} {d : D} (h : ρ[i]? = some (some (.imm d)) := by rfl) : RE ns a 0 (mVarB i) ρ (· = d) := re_pure (fun _ => ev_varB h) rfl
theorem re_varO {i : Nat} {d : D} (h : ρ[i]? = some (some (.own d)) := by rfl) : RE ns a 0 (mVarB i) ρ (· = d) := re_pure (fun _ => ev_varO h) rfl
theorem re_nil : RE ns a 0 (mPure ([] : List D)) ρ (· = []) := re_pure (fun _ => rfl) rfl
theorem re_cons {m : ME} {n : MA} {P : D → Prop} {Q : List D → Prop} (h1 : RE ns a k m ρ P) (h2 : RE ns a k' n ρ Q) : RE ns a (k + k') (mCons m n) ρ (fun ds => ∃ d e, ds = d :: e ∧ P d ∧ Q e) := fun c r ok ha hc => by
  obtain ⟨d, r1, e1, p1, ok1, l1⟩ := h1 c r ok ha (by omega)
  obtain ⟨ds, r2, e2, p2, ok2, l2⟩ := h2 (c + k) r1 ok1 (l1.a.trans ha) (by omega)
  exact ⟨d :: ds, r2, cons_of e1 e2, ⟨d, ds, rfl, p1, p2⟩, by rw [← Nat.add_assoc]; exact ok2, l1.trans l2⟩
theorem re_op2 {f : D → D → Option D} {m n : ME} {P Q R : D → Prop} (h1 : RE ns a k m ρ P) (h2 : RE ns a k' n ρ Q) (hf : ∀ x y, P x → Q y → ∃ d, f x y = some d ∧ R d) : RE ns a (k + k') (mOp2 f m n) ρ R := fun c r ok ha hc => by
  obtain ⟨d, r1, e1, p1, ok1, l1⟩ := h1 c r ok ha (by omega)
  obtain ⟨e, r2, e2, p2, ok2, l2⟩ := h2 (c + k) r1 ok1 (l1.a.trans ha) (by omega)
  obtain ⟨x, e3, p3⟩ := hf d e p1 p2
  exact ⟨x, r2, mOp2_of e1 e2 e3, p3, by rw [← Nat.add_assoc]; exact ok2, l1.trans l2⟩
theorem re_call {f : List D → Option D} {m : MA} {P : List D → Prop} {R : D → Prop} (h : RE ns a k m ρ P) (hf : ∀ ds, P ds → ∃ d, f ds = some d ∧ R d) : RE ns a k (mCall f m) ρ R := fun c r ok ha hc => by
  obtain ⟨d, r1, e1, p1, ok1, l1⟩ := h c r ok ha hc
  obtain ⟨x, e3, p3⟩ := hf d p1
  exact ⟨x, r1, mCall_of e1 e3, p3, ok1, l1⟩
theorem re_callR {f : List D → Rng → Option (D × Rng)} {m : MA} {P : List D → Prop} {R : D → Prop} (h : RE ns a k m ρ P) (hf : ∀ ds, P ds → RF ns a k' f ds R) : RE ns a (k + k') (mCallR f m) ρ R := fun c r ok ha hc => by
  obtain ⟨ds, r1, e1, p1, ok1, l1⟩ := h c r ok ha (by omega)
  obtain ⟨x, r2, e2, p2, ok2, l2⟩ := hf ds p1 (c + k) r1 ok1 (l1.a.trans ha) (by omega)
  exact ⟨x, r2, callR_of e1 e2 l2.a l2.g, p2, by rw [← Nat.add_assoc]; exact ok2, l1.trans l2⟩
theorem re_tup {m : MA} {P : List D → Prop} {R : D → Prop} (h : RE ns a k m ρ P) (hf : ∀ ds, P ds → ds.length ≤ 4096 ∧ R (.tup ds)) : RE ns a k (mTup m) ρ R := fun c r ok ha hc => by
  obtain ⟨ds, r1, e1, p1, ok1, l1⟩ := h c r ok ha hc
  obtain ⟨hl, p⟩ := hf ds p1
  exact ⟨_, r1, by unfold mTup; rw [e1]; simp only [Option.bind_some]; rw [if_pos hl], p, ok1, l1⟩
theorem re_lst {m : MA} {P : List D → Prop} {R : D → Prop} (h : RE ns a k m ρ P) (hf : ∀ ds, P ds → ds.length ≤ 4096 ∧ R (.lst ds)) : RE ns a k (mLst m) ρ R := fun c r ok ha hc => by
  obtain ⟨ds, r1, e1, p1, ok1, l1⟩ := h c r ok ha hc
  obtain ⟨hl, p⟩ := hf ds p1
  exact ⟨_, r1, by unfold mLst; rw [e1]; simp only [Option.bind_some]; rw [if_pos hl], p, ok1, l1⟩
theorem re_tst {m : ME} {P : D → Prop} {R : Bool → Prop} (h : RE ns a k m ρ P) (hf : ∀ d, P d → ∃ b, d = .bl b ∧ R b) : RE ns a k (mTst m) ρ R := fun c r ok ha hc => by
  obtain ⟨d, r1, e1, p1, ok1, l1⟩ := h c r ok ha hc
  obtain ⟨b, rfl, p⟩ := hf d p1
  exact ⟨b, r1, by unfold mTst; rw [e1]; rfl, p, ok1, l1⟩
theorem re_and {t n : MT} {P Q R : Bool → Prop} (h1 : RE ns a k t ρ P) (h2 : P true → RE ns a k' n ρ Q) (hr0 : P false → R false) (hr : ∀ b, P true → Q b → R b) : RE ns a (k + k') (mAnd t n) ρ R := fun c r ok ha hc => by
  obtain ⟨b, r1, e1, p1, ok1, l1⟩ := h1 c r ok ha (by omega)
  cases b with
  | true =>
    obtain ⟨b2, r2, e2, p2, ok2, l2⟩ := h2 p1 (c + k) r1 ok1 (l1.a.trans ha) (by omega)
    exact ⟨b2, r2, by unfold mAnd; rw [e1]; simp only [Option.bind_some, if_true]; exact e2, hr b2 p1 p2, by rw [← Nat.add_assoc]; exact ok2, l1.trans l2⟩
  | false => exact ⟨false, r1, by unfold mAnd; rw [e1]; rfl, hr0 p1, ok1.up (by omega) hc, l1⟩
theorem re_lc {mi : MA} {vs : List Nat} {g : MG} {m : ME} {P : D → Prop} {ds : List D} (hi : ∀ S, mi ρ S = some (ds, S)) (hs : ∀ d ∈ ds, ∃ ρ1, g d (wipeL ρ vs) = some ρ1 ∧ RE ns a k m ρ1 P) :
    RE ns a (ds.length * k) (mLc mi vs g (mPure true) m) ρ (fun x => ∃ ys, x = .lst ys ∧ ys.length = ds.length ∧ ∀ y ∈ ys, P y) := fun c r ok ha hc => by
  obtain ⟨ys, r', e, hl, hp, hI⟩ := lc_runN (g := g) (t := mPure true) (m := m) (ρ := wipeL ρ vs) (P := P) (ds := ds) (r := r) 0 (fun i r' => i ≤ ds.length → RgOk ns (c + i * k) r' ∧ Later r r') (fun _ => ⟨by simpa using ok, Later.refl r⟩) fun i d r1 hd hI => by
    have hlt : i < ds.length := (List.getElem?_eq_some_iff.mp hd).1
    obtain ⟨ok1, l1⟩ := hI (by omega)
    obtain ⟨ρ1, e1, h1⟩ := hs d (List.mem_of_getElem? hd)
    have hmul : (i + 1) * k ≤ ds.length * k := Nat.mul_le_mul_right _ hlt
    have hs1 : (i + 1) * k = i * k + k := Nat.succ_mul i k
    rw [Nat.zero_add] at ok1
    obtain ⟨y, r2, e2, p2, ok2, l2⟩ := h1 (c + i * k) r1 ok1 (l1.a.trans ha) (by omega)
    refine ⟨ρ1, y, r2, e1, rfl, e2, p2, fun _ => ⟨?_, l1.trans l2⟩⟩
    rw [Nat.zero_add, hs1, ← Nat.add_assoc]
    exact ok2
  obtain ⟨ok', l'⟩ := hI (by omega)
  rw [Nat.zero_add] at ok'
  exact ⟨_, r', by unfold mLc; rw [hi]; simp only [Option.bind_some]; rw [e]; rfl, ⟨ys, rfl, hl, hp⟩, ok', l'⟩
/-! statements -/
theorem rs_nil : RS ns a 0 sNil ρ (fun fl ρ' => fl = .nx ∧ ρ' = ρ) := fun c r ok _ _ => ⟨.nx, ρ, r, rfl, ⟨rfl, rfl⟩, ok, Later.refl r⟩
theorem rs_sq {m n : MS} {P : Lo → Prop} {Q : Fl → Lo → Prop} (h1 : RS ns a k m ρ (fun fl ρ' => fl = .nx ∧ P ρ')) (h2 : ∀ ρ', P ρ' → RS ns a k' n ρ' Q) : RS ns a (k + k') (sSq m n) ρ Q := fun c r ok ha hc => by
  obtain ⟨fl, ρ1, r1, e1, ⟨rfl, p1⟩, ok1, l1⟩ := h1 c r ok ha (by omega)
  obtain ⟨fl, ρ2, r2, e2, p2, ok2, l2⟩ := h2 ρ1 p1 (c + k) r1 ok1 (l1.a.trans ha) (by omega)
  exact ⟨fl, ρ2, r2, (sSq_nx e1).trans e2, p2, by rw [← Nat.add_assoc]; exact ok2, l1.trans l2⟩
theorem rs_sq' {m n : MS} {P Q : Fl → Lo → Prop} (h1 : RS ns a k m ρ P) (h2 : ∀ ρ', P .nx ρ' → RS ns a k' n ρ' Q) (h3 : ∀ fl ρ', fl ≠ .nx → P fl ρ' → Q fl ρ') : RS ns a (k + k') (sSq m n) ρ Q := fun c r ok ha hc => by
  obtain ⟨fl, ρ1, r1, e1, p1, ok1, l1⟩ := h1 c r ok ha (by omega)
  by_cases hf : fl = .nx
  · subst hf
    obtain ⟨fl, ρ2, r2, e2, p2, ok2, l2⟩ := h2 ρ1 p1 (c + k) r1 ok1 (l1.a.trans ha) (by omega)
    exact ⟨fl, ρ2, r2, (sSq_nx e1).trans e2, p2, by rw [← Nat.add_assoc]; exact ok2, l1.trans l2⟩
  · exact ⟨fl, ρ1, r1, sSq_no e1 hf, h3 fl ρ1 hf p1, ok1.up (by omega) hc, l1⟩
theorem rs_set {i : Nat} {m : ME} {P : D → Prop} (h : RE ns a k m ρ P) : RS ns a k (sSet i m) ρ (fun fl ρ' => fl = .nx ∧ ∃ d, P d ∧ ρ' = ρ.set i (some (.imm d))) := fun c r ok ha hc => by
  obtain ⟨d, r1, e1, p1, ok1, l1⟩ := h c r ok ha hc
  exact ⟨_, _, r1, by unfold sSet; rw [e1]; rfl, ⟨rfl, d, p1, rfl⟩, ok1, l1⟩
theorem rs_setF {i : Nat} {m : ME} {P : D → Prop} (h : RE ns a k m ρ P) : RS ns a k (sSetF i m) ρ (fun fl ρ' => fl = .nx ∧ ∃ d, P d ∧ ρ' = ρ.set i (some (.own d))) := fun c r ok ha hc => by
  obtain ⟨d, r1, e1, p1, ok1, l1⟩ := h c r ok ha hc
  exact ⟨_, _, r1, by unfold sSetF; rw [e1]; rfl, ⟨rfl, d, p1, rfl⟩, ok1, l1⟩
theorem rs_ret {m : ME} {P : D → Prop} (h : RE ns a k m ρ P) : RS ns a k (sRet m) ρ (fun fl ρ' => ∃ d, fl = .rt d ∧ P d) := fun c r ok ha hc => by
  obtain ⟨d, r1, e1, p1, ok1, l1⟩ := h c r ok ha hc
  exact ⟨_, ρ, r1, by unfold sRet; rw [e1]; rfl, ⟨d, rfl, p1⟩, ok1, l1⟩
theorem rs_par2 {i j : Nat} {k1 k2 : Bool} {m n : ME} {P Q : D → Prop} (h1 : RE ns a k m ρ P) (h2 : RE ns a k' n ρ Q) : RS ns a (k + k') (sPar2 i j k1 m k2 n) ρ (fun fl ρ' => fl = .nx ∧ ∃ d e, P d ∧ Q e ∧ ρ' = (ρ.set i (some (mkL k1 d))).set j (some (mkL k2 e))) := fun c r ok ha hc => by
  obtain ⟨d, r1, e1, p1, ok1, l1⟩ := h1 c r ok ha (by omega)
  obtain ⟨e, r2, e2, p2, ok2, l2⟩ := h2 (c + k) r1 ok1 (l1.a.trans ha) (by omega)
  exact ⟨_, _, r2, sPar2_of e1 e2, ⟨rfl, d, e, p1, p2, rfl⟩, by rw [← Nat.add_assoc]; exact ok2, l1.trans l2⟩
theorem rs_par3 {i j l : Nat} {k1 k2 k3 : Bool} {kc : Nat} {m n o : ME} {P Q R : D → Prop} (h1 : RE ns a k m ρ P) (h2 : RE ns a k' n ρ Q) (h3 : RE ns a kc o ρ R) :
    RS ns a (k + k' + kc) (sPar3 i j l k1 m k2 n k3 o) ρ (fun fl ρ' => fl = .nx ∧ ∃ d e f, P d ∧ Q e ∧ R f ∧ ρ' = ((ρ.set i (some (mkL k1 d))).set j (some (mkL k2 e))).set l (some (mkL k3 f))) := fun c r ok ha hc => by
  obtain ⟨d, r1, e1, p1, ok1, l1⟩ := h1 c r ok ha (by omega)
  obtain ⟨e, r2, e2, p2, ok2, l2⟩ := h2 (c + k) r1 ok1 (l1.a.trans ha) (by omega)
  obtain ⟨f, r3, e3, p3, ok3, l3⟩ := h3 (c + k + k') r2 ok2 (l2.a.trans (l1.a.trans ha)) (by omega)
  exact ⟨_, _, r3, sPar3_of e1 e2 e3, ⟨rfl, d, e, f, p1, p2, p3, rfl⟩, by rw [← Nat.add_assoc, ← Nat.add_assoc]; exact ok3, (l1.trans l2).trans l3⟩
theorem rs_if {t : MT} {m n : MS} {P : Bool → Prop} {Q : Fl → Lo → Prop} (h : RE ns a k t ρ P) (h1 : P true → RS ns a k' m ρ Q) (h2 : P false → RS ns a k' n ρ Q) : RS ns a (k + k') (sIf t m n) ρ Q := fun c r ok ha hc => by
  obtain ⟨b, r1, e1, p1, ok1, l1⟩ := h c r ok ha (by omega)
  have key : RS ns a k' (if b then m else n) ρ Q := by
    cases b with
    | true => exact h1 p1
    | false => exact h2 p1
  obtain ⟨fl, ρ2, r2, e2, p2, ok2, l2⟩ := key (c + k) r1 ok1 (l1.a.trans ha) (by omega)
  refine ⟨fl, ρ2, r2, ?_, p2, by rw [← Nat.add_assoc]; exact ok2, l1.trans l2⟩
  unfold sIf
  rw [e1]
  simp only [Option.bind_some]
  cases b <;> exact e2
theorem rs_app {i : Nat} {m : ME} {P : D → Prop} {ds : List D} (hi : ρ[i]? = some (some (.own (.lst ds)))) (hl : ds.length < 1000000) (h : RE ns a k m ρ P) : RS ns a k (sApp i m) ρ (fun fl ρ' => fl = .nx ∧ ∃ d, P d ∧ ρ' = ρ.set i (some (.own (.lst (ds ++ [d]))))) := fun c r ok ha hc => by
  obtain ⟨d, r1, e1, p1, ok1, l1⟩ := h c r ok ha hc
  exact ⟨_, _, r1, by unfold sApp; rw [hi]; simp only [e1, Option.bind_some]; rw [if_pos hl], ⟨rfl, d, p1, rfl⟩, ok1, l1⟩
theorem rs_ix {i : Nat} {m mk : ME} {P : D → Prop} {ds : List D} (hi : ρ[i]? = some (some (.own (.lst ds)))) (h : RE ns a k m ρ P) (h' : RE ns a k' mk ρ (fun d => ∃ v : Int, d = .int v ∧ 0 ≤ v ∧ v < ds.length)) : RS ns a (k + k') (sIx i m mk) ρ (fun fl ρ' => fl = .nx ∧ ∃ d j, P d ∧ j < ds.length ∧ ρ' = ρ.set i (some (.own (.lst (ds.set j d))))) := fun c r ok ha hc => by
  obtain ⟨d, r1, e1, p1, ok1, l1⟩ := h c r ok ha (by omega)
  obtain ⟨d2, r2, e2, ⟨v, rfl, v0, v1⟩, ok2, l2⟩ := h' (c + k) r1 ok1 (l1.a.trans ha) (by omega)
  refine ⟨.nx, ρ.set i (some (.own (.lst (ds.set v.toNat d)))), r2, ?_, ⟨rfl, d, v.toNat, p1, by omega, rfl⟩, by rw [← Nat.add_assoc]; exact ok2, l1.trans l2⟩
  unfold sIx
  rw [hi]
  simp only [e1, e2, Option.bind_some]
  have : ixN ds.length v = some v.toNat := by
    unfold ixN
    rw [if_pos v0, if_pos (by omega)]
  rw [this]; rfl
theorem rs_for {mi : MA} {g : MG} {m : MS} {L : Nat} {Pd : List D → Prop} (Inv : Nat → Lo → Prop) (hi : RE ns a k mi ρ (fun ds => ds.length ≤ L ∧ Pd ds)) (h0 : Inv 0 ρ) (hs : ∀ ds, Pd ds → ∀ i d ρ', ds[i]? = some d → Inv i ρ' → ∃ ρ1, g d ρ' = some ρ1 ∧ RS ns a k' m ρ1 (fun fl ρ2 => (fl = .nx ∨ fl = .ct) ∧ Inv (i + 1) ρ2)) :
    RS ns a (k + L * k') (sFor mi g m) ρ (fun fl ρ' => fl = .nx ∧ ∃ ds, Pd ds ∧ ds.length ≤ L ∧ Inv ds.length ρ') := fun c r ok ha hc => by
  obtain ⟨ds, r1, e1, ⟨hl, pd⟩, ok1, l1⟩ := hi c r ok ha (by omega)
  have hL : ds.length * k' ≤ L * k' := Nat.mul_le_mul_right _ hl
  obtain ⟨fl, ρ', S', e, hf, hI, hR⟩ := for_run (g := g) (ms := m) (P := fun fl ρ' S' => fl = .nx ∧ Inv ds.length ρ' ∧ ∃ r', S' = some r' ∧ RgOk ns (c + k + ds.length * k') r' ∧ Later r1 r') (fun i ρ' S' => i ≤ ds.length → Inv i ρ' ∧ ∃ r', S' = some r' ∧ RgOk ns (c + k + i * k') r' ∧ Later r1 r') (ds := ds) 0
    (fun i d ρ1 S1 hd hI => by
      have hlt : i < ds.length := (List.getElem?_eq_some_iff.mp hd).1
      rw [Nat.zero_add] at hI
      obtain ⟨inv, r2, rfl, ok2, l2⟩ := hI (by omega)
      obtain ⟨ρ2, eg, h2⟩ := hs ds pd i d ρ1 hd inv
      have hmul : (i + 1) * k' ≤ ds.length * k' := Nat.mul_le_mul_right _ hlt
      have hs1 : (i + 1) * k' = i * k' + k' := Nat.succ_mul i k'
      obtain ⟨fl, ρ3, r3, e3, ⟨hf, i3⟩, ok3, l3⟩ := h2 (c + k + i * k') r2 ok2 (l2.a.trans (l1.a.trans ha)) (by omega)
      refine ⟨ρ2, fl, ρ3, some r3, eg, e3, ?_⟩
      have fin : 0 + i + 1 ≤ ds.length → Inv (0 + i + 1) ρ3 ∧ ∃ r', some r3 = some r' ∧ RgOk ns (c + k + (0 + i + 1) * k') r' ∧ Later r1 r' := fun _ => by
        rw [Nat.zero_add, hs1, ← Nat.add_assoc]
        exact ⟨i3, r3, rfl, ok3, l2.trans l3⟩
      rcases hf with rfl | rfl <;> exact fin)
    (fun ρ S hI => by rw [Nat.zero_add] at hI; obtain ⟨i1, r', hr⟩ := hI (Nat.le_refl _); exact ⟨rfl, i1, r', hr⟩) ρ (some r1) (fun _ => ⟨h0, r1, rfl, by simpa using ok1, Later.refl r1⟩)
  obtain ⟨r', rfl, ok', l'⟩ := hR
  refine ⟨fl, ρ', r', ?_, ⟨hf, ds, pd, hl, hI⟩, ok'.up (by omega) hc, l1.trans l'⟩
  exact for_of e1 e
theorem rf_run {kk n : Nat} {m : MS} {ds : List D} {P : D → Prop} (hl : ds.length = kk) (h : RS ns a k m (startL n ds) (fun fl _ => ∃ d, fl = .rt d ∧ P d)) : RF ns a k (runR kk n m) ds P := fun c r ok ha hc => by
  obtain ⟨fl, ρ', r', e, ⟨d, rfl, p⟩, ok', l⟩ := h c r ok ha hc
  exact ⟨d, r', runR_rt hl e l.a l.g, p, ok', l⟩
theorem rf_draw {room : Int} (h0 : 0 < room) (h1 : room ≤ 1000000) : RF ns a 1 f_law_draw [.rng a, .int room] (fun d => ∃ v : Int, d = .int v ∧ 0 ≤ v ∧ v < room) := fun c r ok ha hc => by
  subst ha
  obtain ⟨v, r', e, v0, v1, ok', l⟩ := draw_ev ok (by omega) h0 h1
  exact ⟨_, r', e, ⟨v, rfl, v0, v1⟩, ok', l⟩
theorem rf_pick {ds : List D} (h0 : ds ≠ []) (hl : ds.length ≤ 1000) : RF ns a 1 f_law_pick [.rng a, .lst ds] (fun d => d ∈ ds) := fun c r ok ha hc => by
  subst ha
  obtain ⟨d, r', e, hd, ok', l⟩ := pick_ev ok (by omega) h0 hl
  exact ⟨d, r', e, hd, ok', l⟩
/-- a number drawn below what is told -/
theorem re_draw {i : Nat} {m : ME} {P : D → Prop} {R : Int} (hi : ρ[i]? = some (some (.imm (.rng a)))) (h : RE ns a k m ρ P) (hp : ∀ d, P d → ∃ room : Int, d = .int room ∧ 0 < room ∧ room ≤ R) (hR : R ≤ 1000000) :
    RE ns a (k + 1) (mCallR f_law_draw (mCons (mVar i) (mCons m (mPure [])))) ρ (fun d => ∃ v : Int, d = .int v ∧ 0 ≤ v ∧ v < R) := by
  have h1 := re_callR (f := f_law_draw) (k' := 1) (R := fun d => ∃ v : Int, d = .int v ∧ 0 ≤ v ∧ v < R) (re_cons (re_var hi) (re_cons h re_nil)) (by
    rintro ds ⟨d, e, rfl, rfl, d2, e2, rfl, p, rfl⟩
    obtain ⟨room, rfl, h0, h1⟩ := hp d2 p
    exact (rf_draw h0 (by omega)).mono (Nat.le_refl _) fun d ⟨v, e, v0, v1⟩ => ⟨v, e, v0, by omega⟩)
  exact h1.mono (by omega) fun d h => h
/-- one of several, as each of them is -/
theorem re_pick {i : Nat} {m : MA} {P : List D → Prop} {Q : D → Prop} (hi : ρ[i]? = some (some (.imm (.rng a)))) (h : RE ns a k m ρ P) (hp : ∀ ds, P ds → ds ≠ [] ∧ ds.length ≤ 1000 ∧ ∀ d ∈ ds, Q d) :
    RE ns a (k + 1) (mCallR f_law_pick (mCons (mVar i) (mCons (mLst m) (mPure [])))) ρ Q := by
  have h1 := re_callR (f := f_law_pick) (k' := 1) (R := Q) (re_cons (re_var hi) (re_cons (re_lst (R := fun x => ∃ ds, x = .lst ds ∧ P ds) h fun ds p => ⟨by have := (hp ds p).2.1; omega, ds, rfl, p⟩) re_nil)) (by
    rintro ds ⟨d, e, rfl, rfl, d2, e2, rfl, ⟨ds, rfl, p⟩, rfl⟩
    obtain ⟨h0, h1, h2⟩ := hp ds p
    exact (rf_pick h0 h1).mono (Nat.le_refl _) fun d hd => h2 d hd)
  exact h1.mono (by omega) fun d h => h
end
end K66
namespace K66
open PySem PyProof.Rows L2 Dv

/-! ### letters and words as texts -/
def letS (k : Nat) : Str := ⟨#[97 + k]⟩
def wS (w : List Nat) : Str := ⟨(w.map (97 + ·)).toArray⟩
theorem abc : signs (Str.ofString "abcdefghijklmnopqrstuvwxyz") = (List.range 26).map letS := by decide +kernel
theorem abc_ev : listSD [.str (Str.ofString "abcdefghijklmnopqrstuvwxyz")] = some (.lst ((List.range 26).map fun k => D.str (letS k))) := by
  have h : (Str.ofString "abcdefghijklmnopqrstuvwxyz").cps.size ≤ 1000 := by decide +kernel
  unfold listSD
  simp only
  rw [if_pos h, abc, List.map_map]
  rfl
theorem wS_inj {v w : List Nat} (h : wS v = wS w) : v = w := by
  have h1 : (v.map (97 + ·)).toArray = (w.map (97 + ·)).toArray := congrArg Str.cps h
  have h2 : v.map (97 + ·) = w.map (97 + ·) := by simpa using congrArg Array.toList h1
  exact (List.map_inj_right (fun a b e => by omega)).mp h2
theorem glue_go : ∀ (w : List Nat) (acc : Array Nat), (w.map letS).foldl (fun acc p => acc ++ (Str.ofString "").cps ++ p.cps) acc = acc ++ (w.map (97 + ·)).toArray
  | [], acc => by simp
  | c :: w, acc => by
    have e0 : (Str.ofString "").cps = #[] := by decide +kernel
    rw [List.map_cons, List.foldl_cons, glue_go w, e0]
    apply Array.toList_inj.mp
    simp [letS]
theorem join_let (w : List Nat) : Txt.join (Str.ofString "") (w.map letS) = wS w := by
  cases w with
  | nil => rfl
  | cons c w =>
    show (⟨((w.map letS).foldl (fun acc p => acc ++ (Str.ofString "").cps ++ p.cps) (letS c).cps)⟩ : Str) = _
    rw [glue_go]
    unfold wS
    congr 1
    apply Array.toList_inj.mp
    simp [letS]
/-! ### the draws, told by numbers -/
def toSt (r : Rng) : WD.St := ⟨r.great.map Int.toNat, r.turn.toNat, r.rest.toNat⟩
theorem ld_st {ns : List Int} {c : Nat} {r : Rng} (h : RgOk ns c r) : toSt (ldR r) = WD.ld (WD.blN (absOf ns)) (toSt r) := by
  have h0 := h.turn0
  have hr := h.rest0
  unfold ldR WD.ld
  by_cases e : r.rest = 0
  · have e' : (toSt r).rest = 0 := by show r.rest.toNat = 0; omega
    rw [if_pos e, if_pos e']
    cases hg : r.great with
    | nil =>
      have hg' : (toSt r).great = [] := by show r.great.map Int.toNat = []; rw [hg]; rfl
      rw [hg']
      show (⟨[], (r.turn + 1).toNat, (WD.bl3 r.cells (r.turn + 1)).toNat⟩ : WD.St) = ⟨[], r.turn.toNat + 1, WD.blN (absOf ns) (r.turn.toNat + 1)⟩
      have e1 : (r.turn + 1).toNat = r.turn.toNat + 1 := by omega
      have e2 : ((r.turn.toNat + 1 : Nat) : Int) = r.turn + 1 := by omega
      unfold WD.blN
      rw [e1, e2, h.cells]
    | cons g gs =>
      have hg' : (toSt r).great = g.toNat :: gs.map Int.toNat := by show r.great.map Int.toNat = _; rw [hg]; rfl
      rw [hg']
      rfl
  · have e' : ¬ (toSt r).rest = 0 := by show ¬ r.rest.toNat = 0; omega
    rw [if_neg e, if_neg e']
theorem dv_st {ns : List Int} {c : Nat} {r : Rng} (h : RgOk ns c r) (hc : c < 20000) (room : Nat) (h0 : 0 < room) : (ldR r).rest % (room : Int) = ((WD.dv (WD.blN (absOf ns)) room (toSt r) : Nat) : Int) := by
  have hr := (ldR_ok h hc).1.rest0
  unfold WD.dv
  rw [← ld_st h]
  show _ = (((ldR r).rest.toNat % room : Nat) : Int)
  rw [Int.natCast_emod, Int.toNat_of_nonneg hr]
theorem dn_st {ns : List Int} {c : Nat} {r : Rng} (h : RgOk ns c r) (hc : c < 20000) (room : Nat) (h0 : 0 < room) : toSt (dnR (room : Int) r) = WD.dn (WD.blN (absOf ns)) room (toSt r) := by
  have hr := (ldR_ok h hc).1.rest0
  unfold WD.dn
  rw [← ld_st h]
  show (⟨(ldR r).great.map Int.toNat, (ldR r).turn.toNat, ((ldR r).rest / (room : Int)).toNat⟩ : WD.St) = ⟨(ldR r).great.map Int.toNat, (ldR r).turn.toNat, (ldR r).rest.toNat / room⟩
  have e : ((ldR r).rest / (room : Int)).toNat = (ldR r).rest.toNat / room := by
    have : (ldR r).rest = ((ldR r).rest.toNat : Int) := (Int.toNat_of_nonneg hr).symm
    generalize (ldR r).rest.toNat = x at *
    rw [this, ← Int.natCast_ediv]
    exact Int.toNat_natCast _
  rw [e]
/-- one of several, exactly -/
theorem pick_eq {ns : List Int} {c : Nat} {r : Rng} (h : RgOk ns c r) (hc : c < 20000) {ds : List D} (h0 : ds ≠ []) (hl : ds.length ≤ 1000) {d : D} (hd : ds[WD.dv (WD.blN (absOf ns)) ds.length (toSt r)]? = some d) : f_law_pick [.rng r.at_, .lst ds] r = some (d, dnR (ds.length : Int) r) := by
  have hp := List.length_pos_iff.mpr h0
  have e := draw_eq h hc (room := (ds.length : Int)) (by omega) (by omega)
  rw [dv_st h hc _ hp] at e
  have lt := (dnR_ok h hc (room := (ds.length : Int)) (by omega)).2
  have ec := callR_of (f := f_law_draw) (m := mCons (mVar 0) (mCons (mCall lenD (mCons (mVarB 1) (mPure []))) (mPure []))) (ρ := [some (.imm (.rng r.at_)), some (.imm (.lst ds))]) (S := some r) (cons_of (ev_var rfl) (cons_of (mCall_of (cons_of (ev_varB rfl) rfl) (len_items (d := .lst ds) rfl)) rfl)) e lt.a lt.g
  exact runR_rt rfl (sRet_of (mOp2_of (ev_varB rfl) ec (ix_nat rfl hd))) lt.a lt.g
noncomputable def pickM : ME := mCallR f_law_pick (mCons (mVar 0) (mCons (mCall listSD (mCons (mPure (.str (Str.ofString "abcdefghijklmnopqrstuvwxyz"))) (mPure []))) (mPure [])))
theorem pickM_ev {ns : List Int} {c : Nat} {r : Rng} {ρ : Lo} (h : RgOk ns c r) (hc : c < 20000) (hρ : ρ[0]? = some (some (.imm (.rng r.at_)))) :
    pickM ρ (some r) = some (.str (letS (WD.dv (WD.blN (absOf ns)) 26 (toSt r))), some (dnR 26 r)) := by
  have hd : WD.dv (WD.blN (absOf ns)) 26 (toSt r) < 26 := Nat.mod_lt _ (by omega)
  have hlen : ((List.range 26).map fun k => D.str (letS k)).length = 26 := by rw [List.length_map, List.length_range]
  have hg : ((List.range 26).map fun k => D.str (letS k))[WD.dv (WD.blN (absOf ns)) 26 (toSt r)]? = some (.str (letS (WD.dv (WD.blN (absOf ns)) 26 (toSt r)))) := by
    rw [List.getElem?_map, List.getElem?_range hd]
    rfl
  have e := pick_eq h hc (ds := (List.range 26).map fun k => D.str (letS k)) (fun z => by rw [z] at hlen; cases hlen) (by rw [hlen]; omega) (by rw [hlen]; exact hg)
  rw [hlen] at e
  have lt := (dnR_ok h hc (room := 26) (by omega)).2
  exact callR_of (cons_of (ev_var hρ) (cons_of (mCall_of (cons_of rfl rfl) abc_ev) rfl)) e lt.a lt.g
theorem lets_ev {ns : List Int} {ρ : Lo} : ∀ (ds : List D) (c : Nat) (r : Rng), RgOk ns c r → c + ds.length ≤ 20000 → 5 ≤ ρ.length → ρ[0]? = some (some (.imm (.rng r.at_))) →
    ∃ r', lcGo ρ (gNm 4) (mPure true) pickM ds (some r) = some ((WD.lets (WD.blN (absOf ns)) ds.length (toSt r)).1.map (fun k => D.str (letS k)), some r') ∧ toSt r' = (WD.lets (WD.blN (absOf ns)) ds.length (toSt r)).2 ∧ RgOk ns (c + ds.length) r' ∧ Later r r'
  | [], c, r, h, hc, hl, hρ => ⟨r, rfl, rfl, h, Later.refl r⟩
  | d :: ds, c, r, h, hc, hl, hρ => by
    rw [List.length_cons] at hc
    obtain ⟨ok1, l1⟩ := dnR_ok h (by omega) (room := 26) (by omega)
    have hst := dn_st h (by omega) 26 (by omega)
    obtain ⟨r', e, hs, ok', l'⟩ := lets_ev ds (c + 1) (dnR 26 r) ok1 (by omega) hl (by rw [l1.a]; exact hρ)
    have hst' : toSt (dnR 26 r) = WD.dn (WD.blN (absOf ns)) 26 (toSt r) := hst
    rw [hst'] at e hs
    refine ⟨r', ?_, hs, by rw [List.length_cons, show c + (ds.length + 1) = c + 1 + ds.length by omega]; exact ok', l1.trans l'⟩
    unfold lcGo
    have hp := pickM_ev (ρ := ρ.set 4 (some (.imm d))) h (by omega) (by rw [List.getElem?_set_ne (by omega)]; exact hρ)
    show Option.bind (some (ρ.set 4 (some (.imm d)))) _ = _
    simp only [Option.bind_some, mPure, if_true]
    rw [hp]
    simp only [Option.bind_some]
    rw [e]
    rfl
noncomputable def wordM : ME := mOp2 joinD (mPure (.str (Str.ofString ""))) (mLc (mRg1 (mCons (mOp2 addD (mPure (.int 1)) (mCallR f_law_draw (mCons (mVar 0) (mCons (mPure (.int 8)) (mPure []))))) (mPure []))) [4] (gNm 4) (mPure true) pickM)
theorem strsD_str : ∀ ns : List Str, strsD (ns.map D.str) = some ns
  | [] => rfl
  | n :: r => by
    show (strsD (r.map D.str)).map (n :: ·) = _
    rw [strsD_str r]
    rfl
/-- one word, drawn -/
theorem word_ev {ns : List Int} {c : Nat} {r : Rng} {x1 x2 w3 w4 : Option LV} (h : RgOk ns c r) (hc : c + 9 ≤ 20000) : ∃ r', wordM [some (.imm (.rng r.at_)), x1, x2, w3, w4] (some r) = some (.str (wS (WD.it (WD.blN (absOf ns)) (toSt r)).1), some r') ∧ toSt r' = (WD.it (WD.blN (absOf ns)) (toSt r)).2 ∧ RgOk ns (c + 9) r' ∧ Later r r' := by
  have hv : WD.dv (WD.blN (absOf ns)) 8 (toSt r) < 8 := Nat.mod_lt _ (by omega)
  obtain ⟨ok1, l1⟩ := dnR_ok h (by omega) (room := 8) (by omega)
  have hst : toSt (dnR 8 r) = WD.dn (WD.blN (absOf ns)) 8 (toSt r) := dn_st h (by omega) 8 (by omega)
  have ed := draw_eq h (by omega) (room := 8) (by omega) (by omega)
  have hdv : (ldR r).rest % 8 = ((WD.dv (WD.blN (absOf ns)) 8 (toSt r) : Nat) : Int) := dv_st h (by omega) 8 (by omega)
  rw [hdv] at ed
  unfold WD.it
  rw [← hst]
  generalize hvv : WD.dv (WD.blN (absOf ns)) 8 (toSt r) = v at *
  have hlen : (rangeL 0 ((v + 1 : Nat) : Int)).length = v + 1 := by
    unfold rangeL
    rw [List.length_map, List.length_range]
    omega
  obtain ⟨r', e, hs, ok', l'⟩ := lets_ev (ρ := wipeL [some (.imm (.rng r.at_)), x1, x2, w3, w4] [4]) (rangeL 0 ((v + 1 : Nat) : Int)) (c + 1) (dnR 8 r) ok1 (by rw [hlen]; omega) (by rw [wipeL_length]; exact Nat.le_refl _) (by rw [l1.a]; rfl)
  rw [hlen] at e hs ok'
  refine ⟨r', ?_, hs, ok'.up (by omega) (by omega), l1.trans l'⟩
  have er : mRg1 (mCons (mOp2 addD (mPure (.int 1)) (mCallR f_law_draw (mCons (mVar 0) (mCons (mPure (.int 8)) (mPure []))))) (mPure [])) [some (.imm (.rng r.at_)), x1, x2, w3, w4] (some r) = some (rangeL 0 ((v + 1 : Nat) : Int), some (dnR 8 r)) :=
    rg1_nat (cons_of (mOp2_of rfl (callR_of (cons_of (ev_var rfl) (cons_of rfl rfl)) ed l1.a l1.g) (show addD (.int 1) (.int (v : Int)) = some (.int ((v + 1 : Nat) : Int)) by rw [addD_int]; congr 2; omega)) rfl) (by omega)
  have hl := lc_of (vs := [4]) (g := gNm 4) (t := mPure true) (m := pickM) er e
  refine mOp2_of rfl hl ?_
  have hll := WD.lets_len (bl := WD.blN (absOf ns)) (v + 1) (toSt (dnR 8 r))
  have e3 : (WD.lets (WD.blN (absOf ns)) (v + 1) (toSt (dnR 8 r))).1.map (fun k => D.str (letS k)) = ((WD.lets (WD.blN (absOf ns)) (v + 1) (toSt (dnR 8 r))).1.map letS).map D.str := by rw [List.map_map]; rfl
  rw [e3]
  generalize (WD.lets (WD.blN (absOf ns)) (v + 1) (toSt (dnR 8 r))).1 = w at *
  have ew : sItems (.lst ((w.map letS).map D.str)) = some (w.map letS) := by
    show (strsD ((w.map letS).map D.str)) = _
    exact strsD_str _
  have hsum : ∀ w : List Nat, ((w.map letS).map (·.length)).sum = w.length := fun w => by
    induction w with
    | nil => rfl
    | cons c w ih => rw [List.map_cons, List.map_cons, List.sum_cons, ih, List.length_cons]; show 1 + w.length = _; omega
  have e0 : (Str.ofString "").length = 0 := by decide +kernel
  unfold joinD
  simp only
  rw [ew]
  simp only [Option.bind_some]
  rw [hsum, e0, if_pos (by rw [hll]; omega), join_let]
end K66
namespace K66
open PySem PyProof.Rows L2 Dv

abbrev wD (w : List Nat) : D := .str (wS w)
/-- a word: one to eight small letters -/
def GWd (x : List Nat) : Prop := 1 ≤ x.length ∧ x.length ≤ 8 ∧ ∀ c ∈ x, c < 26
theorem flat_strs : ∀ F : List Str, (F.map D.str).all flatD = true := fun F => by
  rw [List.all_map]
  exact List.all_eq_true.mpr fun _ _ => rfl
theorem nin_str (w : Str) (F : List Str) : ninD (.str w) (.lst (F.map D.str)) = some (.bl (decide (w ∉ F))) := by
  have h1 : inFl (.str w) (.lst (F.map D.str)) = some (.bl (decide (w ∈ F))) := by
    unfold inFl
    simp only [itemsD]
    rw [if_pos (by rw [flat_strs]; rfl)]
    congr 2
    rw [List.any_map]
    apply Bool.eq_iff_iff.mpr
    rw [List.any_eq_true, decide_eq_true_eq]
    constructor
    · rintro ⟨x, hx, e⟩
      have e : (x == w) = true := e
      rw [beq_iff_eq] at e
      rw [← e]; exact hx
    · intro h
      exact ⟨w, h, by show (w == w) = true; rw [beq_self_eq_true]⟩
  unfold ninD ninSq
  rw [h1]
  simp only [Option.bind_some, if_true, decide_not]
  rfl
theorem mem_wS {w : List Nat} {fs : List (List Nat)} : wS w ∈ fs.map wS ↔ w ∈ fs := by
  rw [List.mem_map]
  exact ⟨fun ⟨x, hx, e⟩ => by rw [← wS_inj e]; exact hx, fun h => ⟨w, h, rfl⟩⟩
theorem nin_w (w : List Nat) (fs : List (List Nat)) : ninD (wD w) (.lst (fs.map wD)) = some (.bl (decide (w ∉ fs))) := by
  have e : fs.map wD = (fs.map wS).map D.str := by rw [List.map_map]; rfl
  rw [e, nin_str]
  congr 2
  exact decide_eq_decide.mpr (not_congr mem_wS)
theorem rep_q : ∀ (n : Nat) (acc : Array Nat), (List.replicate n (Str.ofString "q").cps).foldl (fun x1 x2 => x1 ++ x2) acc = acc ++ (List.replicate n 113).toArray
  | 0, acc => by simp
  | n + 1, acc => by
    have e0 : (Str.ofString "q").cps = #[113] := by decide +kernel
    rw [List.replicate_succ, List.foldl_cons, rep_q n, e0]
    apply Array.toList_inj.mp
    simp [List.replicate_succ]
def qM : ME := mOp2 addD (mSl slD (mVarB 3) (mPure none) (mPart (mPure (.int 1)))) (mOp2 mulSD (mPure (.str (Str.ofString "q"))) (mCall lenD (mCons (mVarB 2) (mPure []))))
theorem line16 : 16 ≤ sizeLine := by decide +kernel
theorem q_ev {c : Nat} {w : List Nat} {fs : List (List Nat)} {x0 x1 x4 : Option LV} {S : Sg} (hw : w.length ≤ 7) (hf : fs.length ≤ 7) :
    qM [x0, x1, some (.imm (.lst (fs.map wD))), some (.imm (wD (c :: w))), x4] S = some (wD (c :: List.replicate fs.length 16), S) := by
  have hl : (wS (c :: w)).length = w.length + 1 := by show ((c :: w).map (97 + ·)).toArray.size = _; simp
  have h1 : slD (wD (c :: w)) none (some 1) = some (wD [c]) := by
    unfold slD slT
    simp only [D.asT, Option.or]
    unfold slS
    simp only
    rw [if_pos (by rw [hl]; exact Nat.le_trans (by omega) line16)]
    show some (D.str (cutS (wS (c :: w)) none (some 1))) = some (D.str (wS [c]))
    congr 2
  have h2 : mulSD (.str (Str.ofString "q")) (.int (fs.length : Int)) = some (wD (List.replicate fs.length 16)) := by
    show mulSD (.str (Str.ofString "q")) (.int (Int.ofNat fs.length)) = _
    unfold mulSD
    simp only
    have e0 : (Str.ofString "q").length = 1 := by decide +kernel
    rw [if_pos ⟨by omega, by rw [e0]; omega⟩]
    show some (D.str (repS (Str.ofString "q") fs.length)) = some (D.str (wS (List.replicate fs.length 16)))
    congr 2
    unfold repS
    rw [rep_q]
    unfold wS
    simp
  have h3 : addD (wD [c]) (wD (List.replicate fs.length 16)) = some (wD (c :: List.replicate fs.length 16)) := by
    have l1 : (wS [c]).length = 1 := rfl
    have l2 : (wS (List.replicate fs.length 16)).length = fs.length := by show ((List.replicate fs.length 16).map (97 + ·)).toArray.size = _; simp
    show (addI (wD [c]) (wD (List.replicate fs.length 16))).or ((addS (wD [c]) (wD (List.replicate fs.length 16))).or _) = _
    have e1 : addI (wD [c]) (wD (List.replicate fs.length 16)) = none := rfl
    have e2 : addS (wD [c]) (wD (List.replicate fs.length 16)) = some (D.str (wS [c] ++ wS (List.replicate fs.length 16))) := by
      show (if (wS [c]).length + (wS (List.replicate fs.length 16)).length ≤ sizeLine then some (D.str (wS [c] ++ wS (List.replicate fs.length 16))) else none) = _
      rw [if_pos (by rw [l1, l2]; exact Nat.le_trans (by omega) line16)]
    rw [e1, e2]
    show some (D.str (wS [c] ++ wS (List.replicate fs.length 16))) = _
    congr 2
    show (⟨(wS [c]).cps ++ (wS (List.replicate fs.length 16)).cps⟩ : Str) = _
    unfold wS
    simp
  have hlen : lenD [.lst (fs.map wD)] = some (.int (fs.length : Int)) := by
    have := len_items (d := .lst (fs.map wD)) (ds := fs.map wD) rfl
    rw [List.length_map] at this
    exact this
  exact mOp2_of (mSl_of (ev_varB rfl) rfl rfl h1) (mOp2_of rfl (mCall_of (cons_of (ev_varB rfl) rfl) hlen) h2) h3
noncomputable def choiceM : ME := mIte (mTst (mOp2 ninD (mVarB 3) (mVarB 2))) (mLst (mCons (mVar 3) (mPure []))) (mIte (mAnd (mTst (mOp2 ninD qM (mVarB 2))) (mTst (mOp2 ltD (mCall lenD (mCons (mVarB 2) (mPure []))) (mPure (.int 8))))) (mLst (mCons qM (mPure []))) (mLst (mPure [])))
noncomputable def bodyM : MS := sSq (sSet 3 wordM) (sSet 2 (mOp2 addL (mVarB 2) choiceM))
def testM : MT := mTst (mOp2 ltD (mCall lenD (mCons (mVarB 2) (mPure []))) (mVarB 1))
theorem choice_ev {w : List Nat} {fs : List (List Nat)} {x0 x1 x4 : Option LV} {S : Sg} (hw : GWd w) (hf : fs.length ≤ 7) :
    ∃ xs : List (List Nat), choiceM [x0, x1, some (.imm (.lst (fs.map wD))), some (.imm (wD w)), x4] S = some (.lst (xs.map wD), S) ∧ ((xs = [] ∧ w ∈ fs) ∨ ∃ x, xs = [x] ∧ x ∉ fs ∧ GWd x) := by
  have et : mTst (mOp2 ninD (mVarB 3) (mVarB 2)) [x0, x1, some (.imm (.lst (fs.map wD))), some (.imm (wD w)), x4] S = some (decide (w ∉ fs), S) := mTst_of (mOp2_of (ev_varB rfl) (ev_varB rfl) (nin_w w fs))
  unfold choiceM mIte
  rw [et]
  simp only [Option.bind_some]
  by_cases h : w ∈ fs
  · rw [if_neg (by simp [h])]
    obtain ⟨h1, h2, h3⟩ := hw
    cases w with
    | nil => simp at h1
    | cons c w =>
      rw [List.length_cons] at h2
      have eq := q_ev (c := c) (w := w) (fs := fs) (x0 := x0) (x1 := x1) (x4 := x4) (S := S) (by omega) hf
      have hlen : lenD [.lst (fs.map wD)] = some (.int (fs.length : Int)) := by
        have := len_items (d := .lst (fs.map wD)) (ds := fs.map wD) rfl
        rw [List.length_map] at this
        exact this
      have e1 : mTst (mOp2 ninD qM (mVarB 2)) [x0, x1, some (.imm (.lst (fs.map wD))), some (.imm (wD (c :: w))), x4] S = some (decide ((c :: List.replicate fs.length 16) ∉ fs), S) := mTst_of (mOp2_of eq (ev_varB rfl) (nin_w (c :: List.replicate fs.length 16) fs))
      have e2 : mTst (mOp2 ltD (mCall lenD (mCons (mVarB 2) (mPure []))) (mPure (.int 8))) [x0, x1, some (.imm (.lst (fs.map wD))), some (.imm (wD (c :: w))), x4] S = some (decide ((fs.length : Int) < 8), S) :=
        mTst_of (mOp2_of (mCall_of (cons_of (ev_varB rfl) rfl) hlen) rfl (ltD_int _ _))
      rw [and_of e1 e2]
      simp only [Option.bind_some]
      have h8 : decide ((fs.length : Int) < 8) = true := decide_eq_true (by omega)
      rw [h8, Bool.and_true]
      by_cases hq : (c :: List.replicate fs.length 16) ∈ fs
      · rw [if_neg (by simp [hq])]
        exact ⟨[], rfl, .inl ⟨rfl, h⟩⟩
      · rw [if_pos (by simp [hq])]
        refine ⟨[c :: List.replicate fs.length 16], lst_of (cons_of eq rfl) (by simp), .inr ⟨_, rfl, hq, by simp, by simp; omega, fun x hx => ?_⟩⟩
        rcases List.mem_cons.mp hx with rfl | hx
        · exact h3 _ List.mem_cons_self
        · rw [List.eq_of_mem_replicate hx]; omega
  · rw [if_pos (by simp [h])]
    exact ⟨[w], lst_of (cons_of (ev_var rfl) rfl) (by simp), .inr ⟨w, rfl, h, hw⟩⟩
theorem body_ev {ns : List Int} {c : Nat} {r : Rng} {fs : List (List Nat)} {x1 w3 w4 : Option LV} (h : RgOk ns c r) (hc : c + 9 ≤ 20000) (hf : fs.length ≤ 7) :
    ∃ (xs : List (List Nat)) (r' : Rng) (w3' : Option LV), bodyM [some (.imm (.rng r.at_)), x1, some (.imm (.lst (fs.map wD))), w3, w4] (some r) = some (.nx, [some (.imm (.rng r.at_)), x1, some (.imm (.lst ((fs ++ xs).map wD))), w3', w4], some r') ∧
      toSt r' = (WD.it (WD.blN (absOf ns)) (toSt r)).2 ∧ RgOk ns (c + 9) r' ∧ Later r r' ∧ ((xs = [] ∧ (WD.it (WD.blN (absOf ns)) (toSt r)).1 ∈ fs) ∨ ∃ x, xs = [x] ∧ x ∉ fs ∧ GWd x) := by
  obtain ⟨r', ew, hs, ok', l'⟩ := word_ev (x1 := x1) (x2 := some (.imm (.lst (fs.map wD)))) (w3 := w3) (w4 := w4) h hc
  have hg : GWd (WD.it (WD.blN (absOf ns)) (toSt r)).1 := ⟨(WD.it_len _).1, (WD.it_len _).2, WD.it_lt _⟩
  generalize (WD.it (WD.blN (absOf ns)) (toSt r)).1 = w at *
  obtain ⟨xs, ec, hx⟩ := choice_ev (w := w) (fs := fs) (x0 := some (.imm (.rng r.at_))) (x1 := x1) (x4 := w4) (S := some r') hg hf
  refine ⟨xs, r', some (.imm (wD w)), ?_, hs, ok', l', hx⟩
  have s1 : sSet 3 wordM [some (.imm (.rng r.at_)), x1, some (.imm (.lst (fs.map wD))), w3, w4] (some r) = some (.nx, [some (.imm (.rng r.at_)), x1, some (.imm (.lst (fs.map wD))), some (.imm (wD w)), w4], some r') := by
    unfold sSet
    rw [ew]
    rfl
  have hxl : xs.length ≤ 1 := by
    rcases hx with ⟨rfl, _⟩ | ⟨x, rfl, _⟩ <;> simp
  have s2 : sSet 2 (mOp2 addL (mVarB 2) choiceM) [some (.imm (.rng r.at_)), x1, some (.imm (.lst (fs.map wD))), some (.imm (wD w)), w4] (some r') = some (.nx, [some (.imm (.rng r.at_)), x1, some (.imm (.lst ((fs ++ xs).map wD))), some (.imm (wD w)), w4], some r') := by
    have ea := addL_ev (xs := fs.map wD) (ys := xs.map wD) (by rw [List.length_map, List.length_map]; omega)
    rw [← List.map_append] at ea
    unfold sSet
    rw [mOp2_of (ev_varB rfl) ec ea]
    rfl
  unfold bodyM
  exact (sSq_nx s1).trans s2
theorem RgOk.re {ns : List Int} {c c' : Nat} {r : Rng} (h : RgOk ns c' r) (ht : r.turn ≤ c * unitR ns) (hc : c ≤ 20000) : RgOk ns c r := ⟨h.cells, h.len, h.turn0, ht, hc, h.rest0, h.gl, h.great0⟩
theorem loop_ev {ns : List Int} {many : Nat} (hm : many ≤ 8) : ∀ (j : Nat) (fs : List (List Nat)) (c : Nat) (r : Rng) (w3 w4 : Option LV), RgOk ns c r → fs.length + j = many → fs.Nodup → (∀ x ∈ fs, GWd x) → c + j * 274 ≤ 20000 →
    ∃ (n : Nat) (gs : List (List Nat)) (r' : Rng) (w3' : Option LV), whN testM bodyM n [some (.imm (.rng r.at_)), some (.imm (.int (many : Nat))), some (.imm (.lst (fs.map wD))), w3, w4] (some r) = some (.nx, [some (.imm (.rng r.at_)), some (.imm (.int (many : Nat))), some (.imm (.lst (gs.map wD))), w3', w4], some r') ∧
      gs.length = many ∧ gs.Nodup ∧ (∀ x ∈ gs, GWd x) ∧ RgOk ns (c + j * 274) r' ∧ Later r r'
  | 0, fs, c, r, w3, w4, h, hj, hn, hg, hc => by
    have hlen : lenD [.lst (fs.map wD)] = some (.int (fs.length : Int)) := by
      have := len_items (d := .lst (fs.map wD)) (ds := fs.map wD) rfl
      rw [List.length_map] at this
      exact this
    have et : testM [some (.imm (.rng r.at_)), some (.imm (.int (many : Nat))), some (.imm (.lst (fs.map wD))), w3, w4] (some r) = some (decide ((fs.length : Int) < (many : Int)), some r) :=
      mTst_of (mOp2_of (mCall_of (cons_of (ev_varB rfl) rfl) hlen) (ev_varB rfl) (ltD_int _ _))
    rw [decide_eq_false (by omega)] at et
    refine ⟨1, fs, r, w3, ?_, by omega, hn, hg, by simpa using h, Later.refl r⟩
    unfold whN
    rw [et]
    rfl
  | j + 1, fs, c, r, w3, w4, h, hj, hn, hg, hc => by
    have hf : fs.length ≤ 7 := by omega
    have hs274 : (j + 1) * 274 = j * 274 + 274 := Nat.succ_mul j 274
    have hlen : lenD [.lst (fs.map wD)] = some (.int (fs.length : Int)) := by
      have := len_items (d := .lst (fs.map wD)) (ds := fs.map wD) rfl
      rw [List.length_map] at this
      exact this
    have hcl : (absOf ns).length ≤ 1000 := by unfold absOf; rw [List.length_map]; exact h.len
    have h0 := h.turn0
    obtain ⟨t, t1, t2, big, good⟩ := WD.good_turn (cells := absOf ns) hcl (t0 := r.turn.toNat) (fun e => by have := h.turn_le.2 (absOf_nil.mp e); omega) (F := fs) hf
    have bound : ∀ r2 : Rng, 0 ≤ r2.turn → r2.turn.toNat ≤ t + 9 → r2.turn ≤ ((c + 265 : Nat) : Int) * unitR ns := fun r2 hr0 hr2 => by
      have h1 := h.turnc
      unfold WD.unit at t2
      unfold unitR at h1 ⊢
      by_cases hns : ns = []
      · rw [if_pos (absOf_nil.mpr hns)] at t2
        rw [if_pos hns, Int.mul_one] at h1 ⊢
        omega
      · rw [if_neg (fun e => hns (absOf_nil.mp e))] at t2
        rw [if_neg hns] at h1 ⊢
        omega
    have key := WD.reach (bl := WD.blN (absOf ns)) (t := t) big (good := fun w => w ∉ fs) good (P := fun s => ∀ (r2 : Rng) (w3 : Option LV), toSt r2 = s → RgOk ns (c + 265) r2 → Later r r2 →
        ∃ (n : Nat) (gs : List (List Nat)) (r' : Rng) (w3' : Option LV), whN testM bodyM n [some (.imm (.rng r2.at_)), some (.imm (.int (many : Nat))), some (.imm (.lst (fs.map wD))), w3, w4] (some r2) = some (.nx, [some (.imm (.rng r2.at_)), some (.imm (.int (many : Nat))), some (.imm (.lst (gs.map wD))), w3', w4], some r') ∧
          gs.length = many ∧ gs.Nodup ∧ (∀ x ∈ gs, GWd x) ∧ RgOk ns (c + (j + 1) * 274) r' ∧ Later r2 r') ?_ (toSt r) t1
    · exact key r w3 rfl (h.up (by omega) (by omega)) (Later.refl r)
    · intro s hs hor r2 w3 e2 ok2 l2
      subst e2
      obtain ⟨xs, r3, w3', eb, hst, ok3, l3, hx⟩ := body_ev (x1 := some (.imm (.int (many : Nat)))) (w3 := w3) (w4 := w4) ok2 (by omega) hf
      have et : testM [some (.imm (.rng r2.at_)), some (.imm (.int (many : Nat))), some (.imm (.lst (fs.map wD))), w3, w4] (some r2) = some (decide ((fs.length : Int) < (many : Int)), some r2) :=
        mTst_of (mOp2_of (mCall_of (cons_of (ev_varB rfl) rfl) hlen) (ev_varB rfl) (ltD_int _ _))
      rw [decide_eq_true (by omega)] at et
      have step : ∀ n, whN testM bodyM (n + 1) [some (.imm (.rng r2.at_)), some (.imm (.int (many : Nat))), some (.imm (.lst (fs.map wD))), w3, w4] (some r2) = whN testM bodyM n [some (.imm (.rng r2.at_)), some (.imm (.int (many : Nat))), some (.imm (.lst ((fs ++ xs).map wD))), w3', w4] (some r3) := fun n => by
        show Option.bind (testM _ _) _ = _
        rw [et]
        simp only [Option.bind_some, if_true]
        rw [eb]
        rfl
      rcases hx with ⟨rfl, hmem⟩ | ⟨x, rfl, hx, hgx⟩
      · rcases hor with hor | hor
        · exact absurd hmem hor
        · have hturn : r3.turn.toNat ≤ t + 9 := by
            have e3 : (toSt r3).turn = r3.turn.toNat := rfl
            have := (WD.it_turn (bl := WD.blN (absOf ns)) (toSt r2)).2
            rw [← hst, e3] at this
            omega
          obtain ⟨n, gs, r', w3'', e, a1, a2, a3, a4, a5⟩ := hor r3 w3' hst (ok3.re (bound r3 ok3.turn0 hturn) (by omega)) (l2.trans l3)
          refine ⟨n + 1, gs, r', w3'', ?_, a1, a2, a3, a4, l3.trans a5⟩
          rw [step n, List.append_nil, ← l3.a]
          exact e
      · obtain ⟨n, gs, r', w3'', e, a1, a2, a3, a4, a5⟩ := loop_ev hm j (fs ++ [x]) (c + 274) r3 w3' w4 ok3 (by rw [List.length_append, List.length_singleton]; omega) (List.nodup_append.mpr ⟨hn, by simp, fun a ha b hb => by
            rw [List.mem_singleton.mp hb]
            intro e
            rw [e] at ha
            exact hx ha⟩) (fun y hy => by
            rcases List.mem_append.mp hy with hy | hy
            · exact hg y hy
            · rw [List.mem_singleton.mp hy]; exact hgx) (by omega)
        refine ⟨n + 1, gs, r', w3'', ?_, a1, a2, a3, by rw [hs274, show c + (j * 274 + 274) = c + 274 + j * 274 by omega]; exact a4, l3.trans a5⟩
        rw [step n, ← l3.a]
        exact e
/-- the words that are drawn -/
theorem words_ev {ns : List Int} {c many : Nat} {r : Rng} (h : RgOk ns c r) (hm : many ≤ 8) (hc : c + many * 274 ≤ 20000) :
    ∃ (gs : List (List Nat)) (r' : Rng), f_law_words [.rng r.at_, .int (many : Nat)] r = some (.lst ((sortS (gs.map wS)).map .str), r') ∧ gs.length = many ∧ gs.Nodup ∧ (∀ x ∈ gs, GWd x) ∧ RgOk ns (c + many * 274) r' ∧ Later r r' := by
  obtain ⟨n, gs, r', w3', e, a1, a2, a3, a4, a5⟩ := loop_ev hm many [] c r none none h (by simp) List.nodup_nil (fun x hx => absurd hx List.not_mem_nil) hc
  refine ⟨gs, r', ?_, a1, a2, a3, a4, a5⟩
  have s1 : sSet 2 (mLst (mPure [])) [some (.imm (.rng r.at_)), some (.imm (.int (many : Nat))), none, none, none] (some r) = some (.nx, [some (.imm (.rng r.at_)), some (.imm (.int (many : Nat))), some (.imm (.lst (([] : List (List Nat)).map wD))), none, none], some r) := rfl
  have s2 := sWh_of e
  have es : sortSD [.lst (gs.map wD)] = some (.lst ((sortS (gs.map wS)).map .str)) := by
    have e : gs.map wD = (gs.map wS).map D.str := by rw [List.map_map]; rfl
    rw [e]
    show (strsD ((gs.map wS).map D.str)).map _ = _
    rw [strsD_str]
    rfl
  exact runR_rt rfl ((sSq_nx s1).trans ((sSq_nx s2).trans (sRet_of (mCall_of (cons_of (ev_varB rfl) rfl) es)))) a5.a a5.g
end K66
namespace K66
open PySem PyProof.Rows L2 Dv

/-- all pairs, in order -/
def pairsL {α : Type} : List α → List (α × α)
  | [] => []
  | x :: r => r.map (fun y => (x, y)) ++ pairsL r
def pT (p : D × D) : D := .tup [p.1, p.2]
theorem pairsL_len {α : Type} : ∀ xs : List α, (pairsL xs).length ≤ xs.length * xs.length
  | [] => Nat.le_refl _
  | x :: r => by
    have := pairsL_len r
    rw [pairsL, List.length_append, List.length_map, List.length_cons, Nat.succ_mul, Nat.mul_succ]
    omega
theorem pairsL_map {α β : Type} (f : α → β) : ∀ xs : List α, pairsL (xs.map f) = (pairsL xs).map fun p => (f p.1, f p.2)
  | [] => rfl
  | x :: r => by
    rw [List.map_cons, pairsL, pairsL, pairsL_map f r, List.map_append, List.map_map, List.map_map]
    rfl
theorem sl_drop {xs : List D} {i : Nat} (hi : i < xs.length) : slD (.tx xs) (some (i + 1 : Nat)) none = some (.tup (xs.drop (i + 1))) := by
  unfold slD slT
  simp only [D.asT]
  have e1 : HT.sIx xs.length 0 (some ((i + 1 : Nat) : Int)) = i + 1 := by rw [HT.sIx_nat]; omega
  rw [e1, six_nn, if_neg (by omega)]
  unfold cutG
  rw [e1, six_nn, List.take_of_length_le (by rw [List.length_drop]; omega)]
  rfl
def gP : MG := gTp 2 (gCns (gNm 2) (gCns (gNm 3) gNl))
def bodyP : MS := sExt 1 (mLc (mSeq (mSl slD (mVarB 0) (mPart (mOp2 addD (mVarB 2) (mPure (.int 1)))) (mPure none))) [4] (gNm 4) (mPure true) (mTup (mCons (mVar 3) (mCons (mVar 4) (mPure [])))))
theorem paired_refl : ∀ xs : List D, Paired (fun d a => d = a) xs xs
  | [] => .nil
  | _ :: xs => .cons rfl (paired_refl xs)
theorem pairs_go {xs : List D} (hl : xs.length ≤ 100) : ∀ (suf pre acc : List D) (x2 x3 : Option LV), xs = pre ++ suf → acc.length ≤ 100 * pre.length →
    ∃ y2 y3, forGo gP bodyP (suf.mapIdx fun i d => D.tup [.int ((pre.length + i : Nat) : Int), d]) [some (.imm (.tx xs)), some (.own (.lst acc)), x2, x3, none] none = some (.nx, [some (.imm (.tx xs)), some (.own (.lst (acc ++ (pairsL suf).map pT))), y2, y3, none], none)
  | [], pre, acc, x2, x3, _, _ => ⟨x2, x3, by rw [pairsL, List.map_nil, List.append_nil]; rfl⟩
  | x :: r, pre, acc, x2, x3, hx, ha => by
    have hlen : xs.length = pre.length + (r.length + 1) := by rw [hx, List.length_append, List.length_cons]
    have hdrop : xs.drop (pre.length + 1) = r := by
      rw [hx, show pre ++ x :: r = (pre ++ [x]) ++ r by simp, show pre.length + 1 = (pre ++ [x]).length by simp, List.drop_left]
    have hs := sl_drop (xs := xs) (i := pre.length) (by omega)
    rw [hdrop] at hs
    have hr2 : ((r.map fun y => pT (x, y)).length) ≤ 100 := by rw [List.length_map]; omega
    obtain ⟨y2, y3, e⟩ := pairs_go hl r (pre ++ [x]) (acc ++ r.map fun y => pT (x, y)) (some (.imm (.int ((pre.length : Nat) : Int)))) (some (.imm x)) (by rw [hx]; simp) (by rw [List.length_append, List.length_append, List.length_singleton]; omega)
    refine ⟨y2, y3, ?_⟩
    have ef : (fun i d => D.tup [.int (((pre ++ [x]).length + i : Nat) : Int), d]) = fun i d => D.tup [.int ((pre.length + (i + 1) : Nat) : Int), d] := by
      funext i d
      rw [List.length_append, List.length_singleton, show pre.length + 1 + i = pre.length + (i + 1) by omega]
    rw [ef] at e
    rw [List.mapIdx_cons]
    have eb : bodyP [some (.imm (.tx xs)), some (.own (.lst acc)), some (.imm (.int ((pre.length : Nat) : Int))), some (.imm x), none] none = some (.nx, [some (.imm (.tx xs)), some (.own (.lst (acc ++ r.map fun y => pT (x, y)))), some (.imm (.int ((pre.length : Nat) : Int))), some (.imm x), none], none) := by
      have el := lc_of (vs := [4]) (ρ := [some (.imm (.tx xs)), some (.own (.lst acc)), some (.imm (.int ((pre.length : Nat) : Int))), some (.imm x), none]) (S := none)
        (mi := mSeq (mSl slD (mVarB 0) (mPart (mOp2 addD (mVarB 2) (mPure (.int 1)))) (mPure none))) (mSeq_of (mSl_of (ev_varB rfl) rfl rfl hs) rfl)
        (lc_rel (g := gNm 4) (t := mPure true) (m := mTup (mCons (mVar 3) (mCons (mVar 4) (mPure [])))) (fun y => pT (x, y)) (paired_refl r) fun d a ed _ => ⟨_, rfl, rfl, by subst ed; exact tup_of (cons_of (ev_var rfl) (cons_of (ev_var rfl) rfl)) (by simp)⟩)
      exact ext_of rfl el (by omega)
    show Option.bind (gP (D.tup [.int ((pre.length + 0 : Nat) : Int), x]) _) _ = _
    show Option.bind (some [some (LV.imm (.tx xs)), some (LV.own (.lst acc)), some (LV.imm (.int ((pre.length : Nat) : Int))), some (LV.imm x), none]) _ = _
    simp only [Option.bind_some]
    rw [eb]
    rw [pairsL, List.map_append, List.map_map, ← List.append_assoc]
    exact e
theorem pairs_ev {xs : List D} (hl : xs.length ≤ 100) : f_pairs_of [.tx xs] = some (.lst ((pairsL xs).map pT)) := by
  obtain ⟨y2, y3, e⟩ := pairs_go hl xs [] [] none none rfl (by simp)
  have ef : (fun i d => D.tup [.int ((([] : List D).length + i : Nat) : Int), d]) = fun i d => D.tup [.int (i : Nat), d] := by
    funext i d
    rw [List.length_nil, Nat.zero_add]
  rw [ef, List.nil_append] at e
  have s1 : sSetF 1 (mLst (mPure [])) (startL 5 [.tx xs]) none = some (.nx, [some (.imm (.tx xs)), some (.own (.lst [])), none, none, none], none) := rfl
  have s2 := for_of (mi := mEnumQ (mCons (mVar 0) (mPure []))) (ρ := [some (.imm (.tx xs)), some (.own (.lst [])), none, none, none]) (S := none) (ds := xs.mapIdx fun i d => D.tup [.int (i : Nat), d]) rfl e
  exact runP_rt rfl ((sSq_nx s1).trans ((sSq_nx s2).trans (sRet_of (ev_var rfl))))
theorem law_pairs_ev {xs : List D} (hl : xs.length ≤ 100) : f_law_tg_pairs [.tx xs] = some (.lst ((pairsL xs).map pT)) := pairs_ev hl
end K66
namespace K66
open PySem PyProof.Rows L2 Dv

theorem mOr_t {t u : MT} {ρ : Lo} {S S' : Sg} (h1 : t ρ S = some (true, S')) : mOr t u ρ S = some (true, S') := by
  unfold mOr; rw [h1]; rfl
theorem mOr_f {t u : MT} {ρ : Lo} {S S' : Sg} {b : Bool} (h1 : t ρ S = some (false, S)) (h2 : u ρ S = some (b, S')) : mOr t u ρ S = some (b, S') := by
  unfold mOr; rw [h1]; exact h2
theorem sIf_f {t : MT} {m : MS} {ρ : Lo} {S : Sg} (h : t ρ S = some (false, S)) : sIf t m sNil ρ S = some (.nx, ρ, S) := (sIf_of h).trans rfl
theorem mOp1_of {f : D → Option D} {m : ME} {ρ : Lo} {S S1 : Sg} {d1 d : D} (h : m ρ S = some (d1, S1)) (hf : f d1 = some d) : mOp1 f m ρ S = some (d, S1) := by unfold mOp1; rw [h]; simp only [Option.bind_some]; rw [hf]; rfl
abbrev ABC : Str := Str.ofString "abcdefghijklmnopqrstuvwxyz"
theorem abc_cps : ABC.cps.toList = (List.range 26).map (97 + ·) := by decide +kernel
theorem wS_len (w : List Nat) : (wS w).length = w.length := by show (w.map (97 + ·)).toArray.size = _; simp
theorem sh_w {w : List Nat} (h : ∀ c ∈ w, c < 26) : SeqAt.shaped (.str (wS w)) = true := by
  have h1 : (PySem.PyData.str (wS w)).canLay0 = true := by
    simp only [PySem.PyData.canLay0]
    show (wS w).cps.all (fun c => decide (c < 0x110000)) = true
    unfold wS
    simp only [List.all_toArray, List.all_map]
    exact List.all_eq_true.mpr fun c hc => decide_eq_true (by have := h c hc; show 97 + c < 1114112; omega)
  unfold SeqAt.shaped
  rw [h1]
  rfl
theorem lenW {w : List Nat} (h : w.length ≤ 8) : lenD [wD w] = some (.int (w.length : Int)) := by
  have h1 : (wS w).length ≤ sizeLine := by rw [wS_len]; exact Nat.le_trans (by omega) line16
  show (lenA [wD w]).or _ = _
  have : lenA [wD w] = some (.int (w.length : Int)) := by
    show (if (wS w).length ≤ sizeLine then some (D.int ((wS w).length : Int)) else none) = _
    rw [if_pos h1, wS_len]
  rw [this]; rfl
theorem txtW {w : List Nat} (h : w.length ≤ 8) : txtD (wD w) = some (w.map fun k => D.str (letS k)) := by
  have h1 : (wS w).cps.size ≤ 1000 := by have := wS_len w; unfold Str.length at this; omega
  show (if (wS w).cps.size ≤ 1000 then some ((signs (wS w)).map D.str) else none) = _
  rw [if_pos h1]
  unfold signs wS
  simp [letS]
theorem in_abc {k : Nat} (h : k < 26) : inD (.str (letS k)) (.str ABC) = some (.bl true) := by
  show (inSq (.str (letS k)) (.str ABC)).or ((inDp (.str (letS k)) (.str ABC)).or (inSg (.str (letS k)) (.str ABC))) = _
  have e1 : inSq (.str (letS k)) (.str ABC) = none := rfl
  have e2 : inDp (.str (letS k)) (.str ABC) = none := rfl
  have e3 : inSg (.str (letS k)) (.str ABC) = some (.bl (decide (97 + k ∈ ABC.cps.toList))) := rfl
  rw [e1, e2, e3, abc_cps, decide_eq_true (List.mem_map.mpr ⟨k, List.mem_range.mpr h, rfl⟩)]
  rfl
theorem nin_abc {k : Nat} (h : k < 26) : ninD (.str (letS k)) (.str ABC) = some (.bl false) := by
  show (ninSq (.str (letS k)) (.str ABC)).or ((ninDp (.str (letS k)) (.str ABC)).or (ninSg (.str (letS k)) (.str ABC))) = _
  have e1 : ninSq (.str (letS k)) (.str ABC) = none := rfl
  have e2 : ninDp (.str (letS k)) (.str ABC) = none := rfl
  have e3 : ninSg (.str (letS k)) (.str ABC) = some (.bl (!decide (97 + k ∈ ABC.cps.toList))) := rfl
  rw [e1, e2, e3, abc_cps, decide_eq_true (List.mem_map.mpr ⟨k, List.mem_range.mpr h, rfl⟩)]
  rfl
theorem chn_of {f g : D → D → Option D} {ma mb mc : ME} {ρ : Lo} {S S1 S2 S3 : Sg} {d1 d2 d3 d : D} (h1 : ma ρ S = some (d1, S1)) (h2 : mb ρ S1 = some (d2, S2)) (h3 : mc ρ S2 = some (d3, S3)) (hf : f d1 d2 = some (.bl true)) (hg : g d2 d3 = some d) : mChn f g ma mb mc ρ S = some (d, S3) := by
  unfold mChn
  rw [h1]; simp only [Option.bind_some]
  rw [h2]; simp only [Option.bind_some]
  rw [hf]; simp only [Option.bind_some, asB, if_true]
  rw [h3]; simp only [Option.bind_some]
  rw [hg]; rfl
theorem paired_let (w : List Nat) : Paired (fun d k => d = D.str (letS k)) (w.map fun k => D.str (letS k)) w := paired_mapL (e := fun k => D.str (letS k)) (fun _ => rfl) w
theorem mSeqS_of {m : ME} {ρ : Lo} {S S1 : Sg} {d : D} {ds : List D} (h : m ρ S = some (d, S1)) (hi : txtD d = some ds) : mSeqS m ρ S = some (ds, S1) := by
  unfold mSeqS; rw [h]; simp only [Option.bind_some]; rw [hi]; rfl
theorem len18 {w : List Nat} (h : GWd w) : leD (.int 1) (.int (w.length : Int)) = some (.bl true) ∧ leD (.int (w.length : Int)) (.int 8) = some (.bl true) := by
  obtain ⟨h1, h2, _⟩ := h
  rw [leD_int, leD_int, decide_eq_true (by omega), decide_eq_true (by omega)]
  exact ⟨rfl, rfl⟩
theorem isw_ev {w : List Nat} (h : GWd w) : f_is_word [wD w] = some (.bl true) := by
  have ec : mChn leD leD (mPure (.int 1)) (mCall lenD (mCons (mVarB 0) (mPure []))) (mPure (.int 8)) [some (.imm (wD w)), none] none = some (.bl true, none) :=
    chn_of rfl (mCall_of (cons_of (ev_varB rfl) rfl) (lenW h.2.1)) rfl (len18 h).1 (len18 h).2
  have el := lc_of (mi := mSeqS (mVar 0)) (vs := [1]) (ρ := [some (.imm (wD w)), none]) (S := none) (mSeqS_of (ev_var rfl) (txtW h.2.1))
    (lcB (g := gNm 1) (m := mOp2 inD (mVarB 1) (mPure (.str ABC))) (fun _ => true) (paired_let w) fun d k ed hk => ⟨_, rfl, by subst ed; exact mOp2_of (ev_varB rfl) rfl (in_abc (h.2.2 k hk))⟩)
  have ea := mCall_of (n := mCons _ (mPure [])) (cons_of el rfl) (all_map (fun _ => true) w)
  have e0 : mOp1 (isiD "str") (mVarB 0) [some (.imm (wD w)), none] none = some (.bl true, none) := mOp1_of (ev_varB rfl) (isi_ss _)
  have eb : (w.all fun _ => true) = true := by simp
  rw [eb] at ea
  exact runP_rt rfl (sRet_of (andV_t e0 (andV_t ec ea)))
theorem lisw_ev {w : List Nat} (h : GWd w) : f_law_is_word [wD w] = some (.bl true) := by
  have ec : mChn leD leD (mPure (.int 1)) (mCall lenD (mCons (mVarB 0) (mPure []))) (mPure (.int 8)) [some (.imm (wD w)), none] none = some (.bl true, none) :=
    chn_of rfl (mCall_of (cons_of (ev_varB rfl) rfl) (lenW h.2.1)) rfl (len18 h).1 (len18 h).2
  have e0 : mOp1 (isiD "str") (mVarB 0) [some (.imm (wD w)), none] none = some (.bl true, none) := mOp1_of (ev_varB rfl) (isi_ss _)
  have el := lc_of (mi := mSeqS (mVar 0)) (vs := [1]) (ρ := [some (.imm (wD w)), none]) (S := none) (mSeqS_of (ev_var rfl) (txtW h.2.1))
    (lc_if (g := gNm 1) (t := mTst (mOp2 ninD (mVarB 1) (mPure (.str ABC)))) (m := mVar 1) (fun _ => false) (fun k => D.str (letS k)) (paired_let w) fun d k ed hk => ⟨_, rfl, by subst ed; exact mTst_of (mOp2_of (ev_varB rfl) rfl (nin_abc (h.2.2 k hk))), fun z => by cases z⟩)
  have ef : (w.filter fun _ => false) = [] := by simp
  rw [ef, List.map_nil] at el
  have s1 := sIf_f (m := sRet (mPure (.bl false))) (mOr_f (not_of (mTst_of e0)) (not_of (mTst_of ec)))
  exact runP_rt rfl ((sSq_nx s1).trans (sRet_of (mOp2_of el rfl (show eqD (.lst []) (.lst []) = some (.bl true) by kernel_rfl))))
end K66
namespace K66
open PySem PyProof.Rows L2 Dv

theorem dp_tx {n : Nat} {ds : List D} (h : ∀ d ∈ ds, DP n d) : DP (n + 1) (.tx ds) := by
  obtain ⟨ps, a, b, c⟩ := dps_of h
  exact ⟨.tuple ps, by simp only [toP, a]; rfl, by simpa [PyData.canLay0] using b, by simp only [PyData.depth]; omega⟩
theorem eq_tx_nil {n : Nat} {ds : List D} (h : ∀ d ∈ ds, DP n d) (hn : n < 64) (h0 : ds ≠ []) : eqD (.tx ds) (.tup []) = some (.bl false) := by
  obtain ⟨p, q, e1, e2, e3, _⟩ := eq_dp (dp_tx h) ((dp_tup (n := n) (ds := []) fun d hd => absurd hd List.not_mem_nil)) (by omega)
  rw [e3]
  have e2' : q = .tuple [] := by
    have : toP (.tup []) = some (.tuple []) := rfl
    rw [this] at e2; exact (Option.some.inj e2).symm
  subst e2'
  simp only [toP] at e1
  obtain ⟨ps, e4, rfl⟩ := Option.map_eq_some_iff.mp e1
  have : ps ≠ [] := fun z => by rw [z] at e4; exact h0 (toPs_nil e4)
  cases ps with
  | nil => exact absurd rfl this
  | cons a b => simp [PyData.eqv, PyData.eqvAll]
/-- the words as data -/
abbrev WD' (ws : List (List Nat)) : D := .tx (ws.map wD)
def Lt (a b : List Nat) : Prop := (wS a).cps.toList < (wS b).cps.toList
instance (a b : List Nat) : Decidable (Lt a b) := by unfold Lt; infer_instance
/-- two to eight words in order -/
structure WsOk (ws : List (List Nat)) : Prop where
  good : ∀ w ∈ ws, GWd w
  two : 2 ≤ ws.length
  few : ws.length ≤ 8
  up : ∀ p ∈ ws.zip ws.tail, Lt p.1 p.2
  nd : ws.Nodup
  srt : (ws.map wS).Pairwise (fun x y => leS x y = true)
theorem isi_tx (ds : List D) : isiD "tuple" (.tx ds) = some (.bl true) := by rfl
theorem lt_w (a b : List Nat) : ltA (wD a) (wD b) = some (.bl (decide (Lt a b))) := rfl
theorem dp_w {w : List Nat} (h : GWd w) (n : Nat) : DP n (wD w) := dp_str n (sh_w h.2.2)
theorem dp_ws {ws : List (List Nat)} (h : ∀ w ∈ ws, GWd w) (n : Nat) : ∀ d ∈ ws.map wD, DP n d := fun d hd => by
  obtain ⟨w, hw, rfl⟩ := List.mem_map.mp hd
  exact dp_w (h w hw) n
theorem things_gen {ws : List (List Nat)} (hgood : ∀ w ∈ ws, GWd w) (htwo : 2 ≤ ws.length) : f_are_things [WD' ws] = some (.bl ((ws.zip ws.tail).all fun p => decide (Lt p.1 p.2))) := by
  have h0 : ws.map wD ≠ [] := fun z => by
    have := htwo
    rw [List.map_eq_nil_iff.mp z] at this
    simp at this
  let ρ : Lo := [some (.imm (WD' ws)), none, none, none]
  have e1 : mTst (mOp1 (isiD "tuple") (mVarB 0)) ρ none = some (true, none) := mTst_of (mOp1_of (ev_varB rfl) (isi_tx _))
  have e2 : mTst (mOp2 eqD (mVarB 0) (mTup (mPure []))) ρ none = some (false, none) := mTst_of (mOp2_of (ev_varB rfl) rfl (eq_tx_nil (dp_ws hgood 0) (by omega) h0))
  have el := lc_of (mi := mSeq (mVar 0)) (vs := [3]) (ρ := ρ) (S := none) (mSeq_of (ev_var rfl) rfl)
    (lcB (g := gNm 3) (m := mCall f_is_word (mCons (mVar 3) (mPure []))) (fun _ => true) (paired_mapL (R := fun d w => d = wD w) (e := wD) (fun _ => rfl) ws) fun d w ed hw => ⟨_, rfl, by subst ed; exact mCall_of (cons_of (ev_var rfl) rfl) (isw_ev (hgood w hw))⟩)
  have e3 := mCall_of (n := mCons _ (mPure [])) (cons_of el rfl) (all_map (fun _ => true) ws)
  have et : (ws.all fun _ => true) = true := by simp
  rw [et] at e3
  have s1 := sIf_f (m := sRet (mPure (.bl false))) (mOr_f (not_of e1) (mOr_f e2 (not_of (mTst_of e3))))
  have hsl : slD (WD' ws) (some 1) none = some (.tup (ws.tail.map wD)) := by
    have := sl_drop (xs := ws.map wD) (i := 0) (by rw [List.length_map]; have := htwo; omega)
    refine this.trans ?_
    rw [Nat.zero_add, List.drop_one, List.map_tail]
  have ez : mZip2 (mCons (mVar 0) (mCons (mSl slD (mVarB 0) (mPart (mPure (.int 1))) (mPure none)) (mPure []))) ρ none = some (List.zipWith (fun a b => D.tup [a, b]) (ws.map wD) (ws.tail.map wD), none) := by
    unfold mZip2
    rw [cons_of (ev_var rfl) (cons_of (mSl_of (ev_varB rfl) rfl rfl hsl) rfl)]
    rfl
  have el2 := lc_of (vs := [1, 2]) ez (lcB (g := gTp 2 (gCns (gNm 1) (gCns (gNm 2) gNl))) (m := mOp2 ltA (mVarB 1) (mVarB 2)) (fun p => decide (Lt p.1 p.2))
    (paired_zip (paired_mapL (R := fun d w => d = wD w) (e := wD) (fun _ => rfl) ws) (paired_mapL (R := fun d w => d = wD w) (e := wD) (fun _ => rfl) ws.tail)) fun d p ⟨x, y, ed, ex, ey⟩ _ => by subst ed ex ey; exact ⟨_, rfl, mOp2_of (ev_varB rfl) (ev_varB rfl) (lt_w _ _)⟩)
  have e4 := mCall_of (n := mCons _ (mPure [])) (cons_of el2 rfl) (all_map (fun p : List Nat × List Nat => decide (Lt p.1 p.2)) (ws.zip ws.tail))
  exact runP_rt rfl ((sSq_nx s1).trans (sRet_of e4))
theorem things_ev {ws : List (List Nat)} (h : WsOk ws) : f_are_things [WD' ws] = some (.bl true) := by
  have et2 : ((ws.zip ws.tail).all fun p => decide (Lt p.1 p.2)) = true := List.all_eq_true.mpr fun p hp => decide_eq_true (h.up p hp)
  have := things_gen h.good h.two
  rwa [et2] at this
end K66
namespace K66
open PySem PyProof.Rows L2 Dv

theorem ne_of_eq {x y : D} {b : Bool} (h : eqD x y = some (.bl b)) : neD x y = some (.bl (!b)) := by
  unfold eqD at h
  unfold neD
  split at h
  · rename_i p q e1 e2
    split at h
    · rename_i hs
      rw [if_pos hs]
      have : PyData.eqv p q = b := by simpa using h
      rw [this]
    · cases h
  · cases h
/-- alike: plain data, no deeper than n, told in one way or the other -/
inductive Al : Nat → D → D → Prop where
  | non (n : Nat) : Al n .non .non
  | bl (n : Nat) (b : Bool) : Al n (.bl b) (.bl b)
  | int (n : Nat) (i : Int) : Al n (.int i) (.int i)
  | str (n : Nat) {x : Str} (h : SeqAt.shaped (.str x) = true) : Al n (.str x) (.str x)
  | tup {n : Nat} {x y : D} {ds es : List D} (hx : x = .tup ds ∨ x = .kt ds ∨ x = .tx ds) (hy : y = .tup es ∨ y = .kt es ∨ y = .tx es) (hl : ds.length = es.length) (h : ∀ (i : Nat) d e, ds[i]? = some d → es[i]? = some e → Al n d e) : Al (n + 1) x y
  | lst {n : Nat} {ds es : List D} (hl : ds.length = es.length) (h : ∀ (i : Nat) d e, ds[i]? = some d → es[i]? = some e → Al n d e) : Al (n + 1) (.lst ds) (.lst es)
theorem Al.mono : ∀ {n m : Nat} {x y : D}, Al n x y → n ≤ m → Al m x y := by
  intro n m x y h
  induction h generalizing m with
  | non n => intro _; exact .non _
  | bl n b => intro _; exact .bl _ _
  | int n i => intro _; exact .int _ _
  | str n h => intro _; exact .str _ h
  | tup hx hy hl h ih => intro l; cases m with
    | zero => omega
    | succ m => exact .tup hx hy hl fun i d e h1 h2 => ih i d e h1 h2 (by omega)
  | lst hl h ih => intro l; cases m with
    | zero => omega
    | succ m => exact .lst hl fun i d e h1 h2 => ih i d e h1 h2 (by omega)
theorem Al.dp {n : Nat} {x y : D} (h : Al n x y) : DP n x ∧ DP n y := by
  induction h with
  | non n => exact ⟨dp_non _, dp_non _⟩
  | bl n b => exact ⟨dp_bl _ _, dp_bl _ _⟩
  | int n i => exact ⟨dp_int _ _, dp_int _ _⟩
  | str n h => exact ⟨dp_str _ h, dp_str _ h⟩
  | @tup n x y ds es hx hy hl h ih =>
    have hd : ∀ d ∈ ds, DP n d := fun d hm => by
      obtain ⟨i, hi⟩ := List.mem_iff_getElem?.mp hm
      have hlt := (List.getElem?_eq_some_iff.mp hi).1
      exact (ih i d es[i] hi (List.getElem?_eq_getElem (by omega))).1
    have he : ∀ d ∈ es, DP n d := fun d hm => by
      obtain ⟨i, hi⟩ := List.mem_iff_getElem?.mp hm
      have hlt := (List.getElem?_eq_some_iff.mp hi).1
      exact (ih i ds[i] d (List.getElem?_eq_getElem (by omega)) hi).2
    refine ⟨?_, ?_⟩
    · rcases hx with rfl | rfl | rfl
      · exact dp_tup hd
      · exact dp_kt hd
      · exact dp_tx hd
    · rcases hy with rfl | rfl | rfl
      · exact dp_tup he
      · exact dp_kt he
      · exact dp_tx he
  | @lst n ds es hl h ih =>
    have hd : ∀ d ∈ ds, DP n d := fun d hm => by
      obtain ⟨i, hi⟩ := List.mem_iff_getElem?.mp hm
      have hlt := (List.getElem?_eq_some_iff.mp hi).1
      exact (ih i d es[i] hi (List.getElem?_eq_getElem (by omega))).1
    have he : ∀ d ∈ es, DP n d := fun d hm => by
      obtain ⟨i, hi⟩ := List.mem_iff_getElem?.mp hm
      have hlt := (List.getElem?_eq_some_iff.mp hi).1
      exact (ih i ds[i] d (List.getElem?_eq_getElem (by omega)) hi).2
    exact ⟨dp_lst hd, dp_lst he⟩
mutual
def szD : D → Nat
  | .tup ds => 1 + szDs ds
  | .kt ds => 1 + szDs ds
  | .tx ds => 1 + szDs ds
  | .lst ds => 1 + szDs ds
  | _ => 1
def szDs : List D → Nat
  | [] => 0
  | d :: ds => szD d + szDs ds
end
theorem szD_pos (d : D) : 1 ≤ szD d := by cases d <;> simp [szD]
theorem szDs_app (xs ys : List D) : szDs (xs ++ ys) = szDs xs + szDs ys := by
  induction xs with
  | nil => simp [szDs]
  | cons x xs ih => simp only [List.cons_append, szDs, ih]; omega
theorem szDs_len (xs : List D) : xs.length ≤ szDs xs := by
  induction xs with
  | nil => simp
  | cons x xs ih => have := szD_pos x; simp only [List.length_cons, szDs]; omega
abbrev DD := D × D
def prs (ps : List DD) : List D := ps.map fun p => D.tup [p.1, p.2]
def szP (ps : List DD) : Nat := szDs (ps.map (·.2))
theorem szP_app (a b : List DD) : szP (a ++ b) = szP a + szP b := by unfold szP; rw [List.map_append, szDs_app]
theorem szP_len (a : List DD) : a.length ≤ szP a := by unfold szP; have := szDs_len (a.map (·.2)); rwa [List.length_map] at this
theorem prs_zip : ∀ ds es : List D, List.zipWith (fun a b => D.tup [a, b]) ds es = prs (ds.zip es)
  | [], _ => rfl
  | _ :: _, [] => rfl
  | d :: ds, e :: es => by
    show D.tup [d, e] :: _ = D.tup [d, e] :: prs (ds.zip es)
    rw [prs_zip ds es]
theorem szP_zip {ds es : List D} (h : ds.length = es.length) : szP (ds.zip es) = szDs es := by
  unfold szP
  rw [List.map_snd_zip (by omega)]
abbrev smLo (x y : D) (w : List D) (o t a l m : Option LV) : Lo := [some (.imm x), some (.imm y), some (.own (.lst w)), o, t, a, none, l, m]
def smT : MT := mTst (mOp2 neD (mVarB 2) (mLst (mPure [])))
theorem smT_ev {n : Nat} {x y : D} {xs : List DD} (hx : ∀ p ∈ xs, Al n p.1 p.2) (hn : n ≤ 50) {o t a l m : Option LV} {S : Sg} : smT (smLo x y (prs xs) o t a l m) S = some (decide (xs ≠ []), S) := by
  have e := (eq_lst_nil (n := n + 1) (ds := prs xs) (fun d hd => by
    obtain ⟨z, hz, rfl⟩ := List.mem_map.mp hd
    refine dp_tup fun w hw => ?_
    simp only [List.mem_cons, List.not_mem_nil, or_false] at hw
    have h := (hx z hz).dp
    rcases hw with rfl | rfl
    · exact h.1
    · exact h.2) (by omega)).2
  have e2 : decide (prs xs ≠ []) = decide (xs ≠ []) := by
    have : prs xs ≠ [] ↔ xs ≠ [] := by unfold prs; rw [ne_eq, List.map_eq_nil_iff]
    exact decide_eq_decide.mpr this
  rw [e2] at e
  exact mTst_of (mOp2_of (ev_varO rfl) rfl e)
noncomputable def smB : MS := (sSq (sPop 2 (gTp 2 (gCns (gNm 3) (gCns (gNm 4) gNl))))
  (sIf (mOr (mTst (mOp2 isD (mVarB 4) (mPure .non))) (mTst (mOp1 (isiD "bool") (mVarB 4)))) (sIf (mIte (mTst (mOp2 isD (mVarB 4) (mPure .non))) (mTst (mOp2 isnotD (mVarB 3) (mPure .non))) (mNot (mTst (mCall f_law_is_truth (mCons (mVar 3) (mCons (mVar 4) (mPure []))))))) (sRet (mPure (.bl false))) sNil) (sIf (mTst (mOp1 (isi2D "int" "str") (mVarB 4))) (sIf (mOr (mTst (mOp1 (isiD "bool") (mVarB 3))) (mOr (mTst (mOp2 neD (mOp1 (isiD "int") (mVarB 3)) (mOp1 (isiD "int") (mVarB 4)))) (mTst (mOp2 neD (mVarB 3) (mVarB 4))))) (sRet (mPure (.bl false))) sNil) (sIf (mTst (mOp1 (isiD "dict") (mVarB 4))) sNever (sSq (sSet 5 (mLst (mCons (mAndV (mOp1 (isiD "tuple") (mVarB 3)) (mOp1 (isiD "tuple") (mVarB 4))) (mCons (mAndV (mOp1 (isiD "list") (mVarB 3)) (mOp1 (isiD "list") (mVarB 4))) (mPure [])))))
  (sSq (sIf (mOr (mTst (mOp2 ninD (mPure (.bl true)) (mVarB 5))) (mTst (mOp2 neD (mCall lenD (mCons (mVarB 3) (mPure []))) (mCall lenD (mCons (mVarB 4) (mPure [])))))) (sRet (mPure (.bl false))) sNil)
  (sExt 2 (mLc (mZip2 (mCons (mVar 3) (mCons (mVar 4) (mPure [])))) [7, 8] (gTp 2 (gCns (gNm 7) (gCns (gNm 8) gNl))) (mPure true) (mTup (mCons (mVar 7) (mCons (mVar 8) (mPure []))))))))))))
theorem sm_pop {x y d e : D} {ws : List D} {o t a l m : Option LV} : sPop 2 (gTp 2 (gCns (gNm 3) (gCns (gNm 4) gNl))) (smLo x y (ws ++ [.tup [d, e]]) o t a l m) none = some (.nx, smLo x y ws (some (.imm d)) (some (.imm e)) a l m, none) := by
  unfold sPop
  simp only [smLo, List.getElem?_cons_succ, List.getElem?_cons_zero, List.getLast?_append, List.getLast?_singleton, Option.some_or, List.dropLast_concat]
  rfl
/-- the part behind the pop, of what has no parts -/
theorem smB_leaf {x y d : D} {ws : List D} {o t a l m : Option LV} (hd : d = .non ∨ (∃ b, d = .bl b) ∨ (∃ i, d = .int i) ∨ ∃ z, d = .str z ∧ SeqAt.shaped (.str z) = true) :
    smB (smLo x y (ws ++ [.tup [d, d]]) o t a l m) none = some (.nx, smLo x y ws (some (.imm d)) (some (.imm d)) a l m, none) := by
  refine (sSq_nx sm_pop).trans ?_
  rcases hd with rfl | ⟨b, rfl⟩ | ⟨i, rfl⟩ | ⟨z, rfl, hz⟩
  · exact (sIf_of (b := true) (S1 := none) rfl).trans rfl
  · cases b <;> exact (sIf_of (b := true) (S1 := none) rfl).trans rfl
  · refine (sIf_of (b := false) (S1 := none) rfl).trans ?_
    refine (sIf_of (b := true) (S1 := none) rfl).trans ?_
    have e : neD (.int i) (.int i) = some (.bl false) := by rw [neD_int]; simp
    have e1 : mTst (mOp2 neD (mVarB 3) (mVarB 4)) (smLo x y ws (some (.imm (.int i))) (some (.imm (.int i))) a l m) none = some (false, none) := mTst_of (mOp2_of (ev_varB rfl) (ev_varB rfl) e)
    have e0 : mTst (mOp2 neD (mOp1 (isiD "int") (mVarB 3)) (mOp1 (isiD "int") (mVarB 4))) (smLo x y ws (some (.imm (.int i))) (some (.imm (.int i))) a l m) none = some (false, none) := mTst_of (mOp2_of rfl rfl (ne_of_eq (b := true) rfl))
    refine (sIf_of (b := false) (S1 := none) ?_).trans rfl
    show (mTst (mOp1 (isiD "bool") (mVarB 3)) _ _).bind _ = _
    have eb : mTst (mOp1 (isiD "bool") (mVarB 3)) (smLo x y ws (some (.imm (.int i))) (some (.imm (.int i))) a l m) none = some (false, none) := rfl
    rw [eb]
    simp only [Option.bind_some, Bool.false_eq_true, if_false]
    unfold mOr
    rw [e0]
    simp only [Option.bind_some, Bool.false_eq_true, if_false]
    exact e1
  · refine (sIf_of (b := false) (S1 := none) rfl).trans ?_
    refine (sIf_of (b := true) (S1 := none) rfl).trans ?_
    have e : neD (.str z) (.str z) = some (.bl false) := by rw [str_ne hz hz]; simp
    have e1 : mTst (mOp2 neD (mVarB 3) (mVarB 4)) (smLo x y ws (some (.imm (.str z))) (some (.imm (.str z))) a l m) none = some (false, none) := mTst_of (mOp2_of (ev_varB rfl) (ev_varB rfl) e)
    have e0 : mTst (mOp2 neD (mOp1 (isiD "int") (mVarB 3)) (mOp1 (isiD "int") (mVarB 4))) (smLo x y ws (some (.imm (.str z))) (some (.imm (.str z))) a l m) none = some (false, none) := mTst_of (mOp2_of rfl rfl (ne_of_eq (b := true) rfl))
    refine (sIf_of (b := false) (S1 := none) ?_).trans rfl
    show (mTst (mOp1 (isiD "bool") (mVarB 3)) _ _).bind _ = _
    have eb : mTst (mOp1 (isiD "bool") (mVarB 3)) (smLo x y ws (some (.imm (.str z))) (some (.imm (.str z))) a l m) none = some (false, none) := rfl
    rw [eb]
    simp only [Option.bind_some, Bool.false_eq_true, if_false]
    unfold mOr
    rw [e0]
    simp only [Option.bind_some, Bool.false_eq_true, if_false]
    exact e1
/-- .. of two tuples or two lists -/
theorem smB_node {x y d e : D} {ws ds es : List D} {o t a l m : Option LV} (hd : ((d = .tup ds ∨ d = .kt ds ∨ d = .tx ds) ∧ (e = .tup es ∨ e = .kt es ∨ e = .tx es)) ∨ (d = .lst ds ∧ e = .lst es)) (hq : ds.length = es.length) (hl : ws.length + ds.length ≤ 100000) :
    ∃ a' l' m', smB (smLo x y (ws ++ [.tup [d, e]]) o t a l m) none = some (.nx, smLo x y (ws ++ prs (ds.zip es)) (some (.imm d)) (some (.imm e)) a' l' m', none) := by
  obtain ⟨b1, b2, hb, eA⟩ : ∃ b1 b2, (b1 = true ∨ b2 = true) ∧ mLst (mCons (mAndV (mOp1 (isiD "tuple") (mVarB 3)) (mOp1 (isiD "tuple") (mVarB 4))) (mCons (mAndV (mOp1 (isiD "list") (mVarB 3)) (mOp1 (isiD "list") (mVarB 4))) (mPure []))) (smLo x y ws (some (.imm d)) (some (.imm e)) a l m) none = some (.lst [.bl b1, .bl b2], none) := by
    rcases hd with ⟨rfl | rfl | rfl, rfl | rfl | rfl⟩ | ⟨rfl, rfl⟩
    iterate 9 exact ⟨true, false, .inl rfl, rfl⟩
    · exact ⟨false, true, .inr rfl, rfl⟩
  have hi : itemsD d = some ds := by rcases hd with ⟨rfl | rfl | rfl, _⟩ | ⟨rfl, _⟩ <;> rfl
  have hi2 : itemsD e = some es := by rcases hd with ⟨_, rfl | rfl | rfl⟩ | ⟨_, rfl⟩ <;> rfl
  have c1 : mOr (mTst (mOp2 isD (mVarB 4) (mPure .non))) (mTst (mOp1 (isiD "bool") (mVarB 4))) (smLo x y ws (some (.imm d)) (some (.imm e)) a l m) none = some (false, none) := by rcases hd with ⟨_, rfl | rfl | rfl⟩ | ⟨_, rfl⟩ <;> rfl
  have c2 : mTst (mOp1 (isi2D "int" "str") (mVarB 4)) (smLo x y ws (some (.imm d)) (some (.imm e)) a l m) none = some (false, none) := by rcases hd with ⟨_, rfl | rfl | rfl⟩ | ⟨_, rfl⟩ <;> rfl
  have c3 : mTst (mOp1 (isiD "dict") (mVarB 4)) (smLo x y ws (some (.imm d)) (some (.imm e)) a l m) none = some (false, none) := by rcases hd with ⟨_, rfl | rfl | rfl⟩ | ⟨_, rfl⟩ <;> rfl
  have e5 : sSet 5 (mLst (mCons (mAndV (mOp1 (isiD "tuple") (mVarB 3)) (mOp1 (isiD "tuple") (mVarB 4))) (mCons (mAndV (mOp1 (isiD "list") (mVarB 3)) (mOp1 (isiD "list") (mVarB 4))) (mPure [])))) (smLo x y ws (some (.imm d)) (some (.imm e)) a l m) none = some (.nx, smLo x y ws (some (.imm d)) (some (.imm e)) (some (.imm (.lst [.bl b1, .bl b2]))) l m, none) := by
    unfold sSet; rw [eA]; rfl
  have en : mTst (mOp2 ninD (mPure (.bl true)) (mVarB 5)) (smLo x y ws (some (.imm d)) (some (.imm e)) (some (.imm (.lst [.bl b1, .bl b2]))) l m) none = some (false, none) := by
    refine mTst_of (mOp2_of rfl (ev_varB rfl) ?_)
    cases b1 <;> cases b2 <;> first | rfl | (rcases hb with h | h <;> cases h)
  have el : mTst (mOp2 neD (mCall lenD (mCons (mVarB 3) (mPure []))) (mCall lenD (mCons (mVarB 4) (mPure [])))) (smLo x y ws (some (.imm d)) (some (.imm e)) (some (.imm (.lst [.bl b1, .bl b2]))) l m) none = some (false, none) := by
    refine mTst_of (mOp2_of (mCall_of (cons_of (ev_varB rfl) rfl) (len_items hi)) (mCall_of (cons_of (ev_varB rfl) rfl) (len_items hi2)) ?_)
    rw [neD_int, hq]; simp
  have eo : mOr (mTst (mOp2 ninD (mPure (.bl true)) (mVarB 5))) (mTst (mOp2 neD (mCall lenD (mCons (mVarB 3) (mPure []))) (mCall lenD (mCons (mVarB 4) (mPure []))))) (smLo x y ws (some (.imm d)) (some (.imm e)) (some (.imm (.lst [.bl b1, .bl b2]))) l m) none = some (false, none) := by
    unfold mOr
    rw [en]
    simp only [Option.bind_some, Bool.false_eq_true, if_false]
    exact el
  have ez : mZip2 (mCons (mVar 3) (mCons (mVar 4) (mPure []))) (smLo x y ws (some (.imm d)) (some (.imm e)) (some (.imm (.lst [.bl b1, .bl b2]))) l m) none = some (prs (ds.zip es), none) := by
    unfold mZip2
    rw [cons_of (ev_var rfl) (cons_of (ev_var rfl) rfl)]
    simp only [Option.bind_some, hi, hi2, Option.map_some, prs_zip]
  have eg := lc_rel (g := gTp 2 (gCns (gNm 7) (gCns (gNm 8) gNl))) (t := mPure true) (m := mTup (mCons (mVar 7) (mCons (mVar 8) (mPure [])))) (S := none) (ρ := wipeL (smLo x y ws (some (.imm d)) (some (.imm e)) (some (.imm (.lst [.bl b1, .bl b2]))) l m) [7, 8]) (fun e : DD => D.tup [e.1, e.2]) (paired_mapL (R := fun p e => p = D.tup [e.1, e.2]) (e := fun e : DD => D.tup [e.1, e.2]) (fun _ => rfl) (ds.zip es)) fun p e hp _ => by
    subst hp
    exact ⟨_, rfl, rfl, rfl⟩
  refine ⟨some (.imm (.lst [.bl b1, .bl b2])), l, m, ?_⟩
  refine (sSq_nx sm_pop).trans ((sIf_of c1).trans ((sIf_of c2).trans ((sIf_of c3).trans ((sSq_nx e5).trans ?_))))
  refine (sSq_nx (((sIf_of eo).trans rfl : sIf _ _ _ _ _ = some (.nx, smLo x y ws (some (.imm d)) (some (.imm e)) (some (.imm (.lst [.bl b1, .bl b2]))) l m, none)))).trans ?_
  have e7 : mLc (mZip2 (mCons (mVar 3) (mCons (mVar 4) (mPure [])))) [7, 8] (gTp 2 (gCns (gNm 7) (gCns (gNm 8) gNl))) (mPure true) (mTup (mCons (mVar 7) (mCons (mVar 8) (mPure [])))) (smLo x y ws (some (.imm d)) (some (.imm e)) (some (.imm (.lst [.bl b1, .bl b2]))) l m) none = some (.lst (prs (ds.zip es)), none) := by
    unfold mLc
    rw [ez]
    simp only [Option.bind_some]
    show Option.map _ (lcGo _ _ _ _ (prs (ds.zip es)) none) = _
    unfold prs
    rw [eg]; rfl
  unfold sExt
  simp only [smLo, List.getElem?_cons_succ, List.getElem?_cons_zero]
  rw [e7]
  simp only [Option.bind_some]
  rw [if_pos (by unfold prs; rw [List.length_map, List.length_zip]; omega)]
  rfl
theorem same_go {x y : D} : ∀ (k : Nat) (xs : List DD) (o t a l m : Option LV), szP xs ≤ k → k ≤ 100000 → (∀ p ∈ xs, Al 50 p.1 p.2) → ∃ j ρ', whN smT smB j (smLo x y (prs xs) o t a l m) none = some (.nx, ρ', none) := by
  intro k
  have stop : ∀ (o t a l m : Option LV), ∃ j ρ', whN smT smB j (smLo x y (prs []) o t a l m) none = some (.nx, ρ', none) := fun o t a l m => by
    refine ⟨1, smLo x y (prs []) o t a l m, ?_⟩
    unfold whN
    rw [smT_ev (n := 0) (fun _ h => by cases h) (by omega)]
    rfl
  induction k with
  | zero =>
    intro xs o t a l m hk _ hx
    have hn : xs = [] := by
      have := szP_len xs
      exact List.length_eq_zero_iff.mp (by omega)
    subst hn
    exact stop o t a l m
  | succ k ih =>
    intro xs o t a l m hk hk1 hx
    by_cases hn : xs = []
    · subst hn
      exact stop o t a l m
    · obtain ⟨ys, ⟨d, e⟩, rfl⟩ : ∃ ys d, xs = ys ++ [d] := ⟨xs.dropLast, xs.getLast hn, (List.dropLast_concat_getLast hn).symm⟩
      have hd : Al 50 d e := hx (d, e) (by simp)
      have hys : ∀ p ∈ ys, Al 50 p.1 p.2 := fun p he => hx p (List.mem_append_left _ he)
      rw [szP_app] at hk
      have hk2 : szP ys + szD e ≤ k + 1 := by simpa [szP, szDs] using hk
      have hp : prs (ys ++ [(d, e)]) = prs ys ++ [.tup [d, e]] := by unfold prs; simp
      have step : ∀ {ρ1 : Lo} {j : Nat} {ρ' : Lo}, smB (smLo x y (prs (ys ++ [(d, e)])) o t a l m) none = some (.nx, ρ1, none) → whN smT smB j ρ1 none = some (.nx, ρ', none) → whN smT smB (j + 1) (smLo x y (prs (ys ++ [(d, e)])) o t a l m) none = some (.nx, ρ', none) := fun {ρ1 j ρ'} e1 e' => by
        unfold whN
        rw [smT_ev hx (by omega), decide_eq_true hn]
        simp only [Option.bind_some, if_true]
        rw [e1]
        exact e'
      have leaf : d = e → (d = .non ∨ (∃ b, d = .bl b) ∨ (∃ i, d = .int i) ∨ ∃ z, d = .str z ∧ SeqAt.shaped (.str z) = true) → ∃ j ρ', whN smT smB j (smLo x y (prs (ys ++ [(d, e)])) o t a l m) none = some (.nx, ρ', none) := fun he h => by
        subst he
        have := szD_pos d
        obtain ⟨j, ρ', e⟩ := ih ys (some (.imm d)) (some (.imm d)) a l m (by omega) (by omega) hys
        exact ⟨j + 1, ρ', step (by rw [hp]; exact smB_leaf h) e⟩
      have node : ∀ ds es, (((d = .tup ds ∨ d = .kt ds ∨ d = .tx ds) ∧ (e = .tup es ∨ e = .kt es ∨ e = .tx es)) ∨ (d = .lst ds ∧ e = .lst es)) → ds.length = es.length → (∀ (i : Nat) d e, ds[i]? = some d → es[i]? = some e → Al 49 d e) → ∃ j ρ', whN smT smB j (smLo x y (prs (ys ++ [(d, e)])) o t a l m) none = some (.nx, ρ', none) := fun ds es h hl hds => by
        have hz : szD e = 1 + szDs es := by rcases h with ⟨_, rfl | rfl | rfl⟩ | ⟨_, rfl⟩ <;> simp [szD]
        have h1 := szP_len ys
        have h2 := szDs_len es
        obtain ⟨a', l', m', e1⟩ := smB_node (x := x) (y := y) (ws := prs ys) (o := o) (t := t) (a := a) (l := l) (m := m) h hl (by unfold prs; rw [List.length_map]; omega)
        obtain ⟨j, ρ', e2⟩ := ih (ys ++ ds.zip es) (some (.imm d)) (some (.imm e)) a' l' m' (by rw [szP_app, szP_zip hl]; omega) (by omega) (fun p he => by
          rcases List.mem_append.mp he with h | h
          · exact hys p h
          · obtain ⟨i, hi⟩ := List.mem_iff_getElem?.mp h
            rw [List.getElem?_zip_eq_some] at hi
            exact (hds i p.1 p.2 hi.1 hi.2).mono (by omega))
        have hp2 : prs (ys ++ ds.zip es) = prs ys ++ prs (ds.zip es) := by unfold prs; simp
        rw [hp2] at e2
        exact ⟨j + 1, ρ', step (by rw [hp]; exact e1) e2⟩
      cases hd with
      | non _ => exact leaf rfl (.inl rfl)
      | bl _ b => exact leaf rfl (.inr (.inl ⟨b, rfl⟩))
      | int _ i => exact leaf rfl (.inr (.inr (.inl ⟨i, rfl⟩)))
      | str _ h => exact leaf rfl (.inr (.inr (.inr ⟨_, rfl, h⟩)))
      | tup hx hy hl h => exact node _ _ (.inl ⟨hx, hy⟩) hl h
      | lst hl h => exact node _ _ (.inr ⟨rfl, rfl⟩) hl h
end K66
namespace K66
open PySem PyProof.Rows L2 Dv
variable {A : Ads}

def okD : D → Bool
  | .int i => decide (-1 ≤ i) && decide (i ≤ 1)
  | _ => false
def SgD (d : D) : Prop := (∃ i : Int, d = .int i) ∨ ∃ b : Bool, d = .bl b
theorem whole_bl (b : Bool) : f_is_whole [.bl b] = some (.bl false) := by cases b <;> kernel_rfl
theorem chn_f {f g : D → D → Option D} {ma mb mc : ME} {ρ : Lo} {S S1 S2 : Sg} {d1 d2 : D} (h1 : ma ρ S = some (d1, S1)) (h2 : mb ρ S1 = some (d2, S2)) (hf : f d1 d2 = some (.bl false)) : mChn f g ma mb mc ρ S = some (.bl false, S2) := by
  unfold mChn
  rw [h1]; simp only [Option.bind_some]
  rw [h2]; simp only [Option.bind_some]
  rw [hf]; rfl
theorem sign_ev (i : Int) : f_is_sign [.int i] = some (.bl (okD (.int i))) := by
  have e1 : mOp1 negD (mPure (.int 1)) [some (.imm (.int i))] none = some (.int (-1), none) := rfl
  show f_is_sign [.int i] = some (D.bl (decide (-1 ≤ i) && decide (i ≤ 1)))
  by_cases h : -1 ≤ i
  · rw [decide_eq_true h, Bool.true_and]
    exact runP_rt rfl (sRet_of (chn_of e1 (ev_varB rfl) rfl (show leD (.int (-1)) (.int i) = _ by rw [leD_int, decide_eq_true h]) (leD_int i 1)))
  · rw [decide_eq_false h, Bool.false_and]
    exact runP_rt rfl (sRet_of (chn_f e1 (ev_varB rfl) (show leD (.int (-1)) (.int i) = _ by rw [leD_int, decide_eq_false h])))
theorem callL_of {i : Nat} {f : Addr} {fn : List D → Option D} {m : MA} {ρ : Lo} {S S1 : Sg} {ds : List D} {d : D} (hi : ρ[i]? = some (some (.imm (.fn f)))) (h : m ρ S = some (ds, S1)) (hf : fn ds = some d) : mCallL i f fn m ρ S = some (d, S1) := by
  unfold mCallL
  rw [hi]
  simp only
  rw [if_pos trivial]
  exact mCall_of h hf
theorem ok_ev {d v n x : D} {S : Sg} (h : SgD d) : mAndV (mCall f_is_whole (mCons (mVar 3) (mPure []))) (mCallL 2 A.is_sign f_is_sign (mCons (mVar 3) (mPure []))) [some (.imm v), some (.imm n), some (.imm (.fn A.is_sign)), some (.imm d)] S = some (.bl (okD d), S) := by
  rcases h with ⟨i, rfl⟩ | ⟨b, rfl⟩
  · exact andV_t (mCall_of (cons_of (ev_var rfl) rfl) (whole_ev i)) (callL_of rfl (cons_of (ev_var rfl) rfl) (sign_ev i))
  · exact andV_f (mCall_of (cons_of (ev_var rfl) rfl) (whole_bl b))
theorem len_asT {d : D} {ds : List D} (h : d.asT = some ds) : itemsD d = some ds := by
  unfold D.asT at h
  split at h <;> first | (cases h; rfl) | cases h
theorem isi_asT {d : D} {ds : List D} (h : d.asT = some ds) : isiD "tuple" d = some (.bl true) := by
  unfold D.asT at h
  split at h <;> first | rfl | cases h
theorem sh_duels : SeqAt.shaped (.str "duels") = true := by decide +kernel
theorem sh_marg : SeqAt.shaped (.str "margins") = true := by decide +kernel
theorem table_ev {ws : List (List Nat)} (h : WsOk ws) (h5 : ws.length ≤ 5) {k : Str} (hk : SeqAt.shaped (.str k) = true) {s : D} {ds : List D} (hs : s.asT = some ds) (hd : ∀ d ∈ ds, SgD d) :
    f_is_table A [.tx [.str k, WD' ws, s], .str "duels", .fn A.is_sign] = some (.bl (decide (k = "duels") && (decide (ds.length = (pairsL ws).length) && ds.all okD))) := by
  let v : D := .tx [.str k, WD' ws, s]
  let ρ : Lo := [some (.imm v), some (.imm (.str "duels")), some (.imm (.fn A.is_sign)), none]
  have i0 : ∀ S, mOp2 ixD (mVarB 0) (mPure (.int 0)) ρ S = some (.str k, S) := fun S => mOp2_of (ev_varB rfl) rfl (ix_nat (n := 0) (d := v) rfl rfl)
  have i1 : ∀ S, mOp2 ixD (mVarB 0) (mPure (.int 1)) ρ S = some (WD' ws, S) := fun S => mOp2_of (ev_varB rfl) rfl (ix_nat (n := 1) (d := v) rfl rfl)
  have i2 : ∀ S, mOp2 ixD (mVarB 0) (mPure (.int 2)) ρ S = some (s, S) := fun S => mOp2_of (ev_varB rfl) rfl (ix_nat (n := 2) (d := v) rfl rfl)
  have a1 : mTst (mOp1 (isiD "tuple") (mVarB 0)) ρ none = some (true, none) := mTst_of (mOp1_of (ev_varB rfl) (isi_tx _))
  have a2 : mTst (mOp2 neD (mCall lenD (mCons (mVarB 0) (mPure []))) (mPure (.int 3))) ρ none = some (false, none) := mTst_of (mOp2_of (mCall_of (cons_of (ev_varB rfl) rfl) (len_items (d := v) rfl)) rfl (neD_int 3 3))
  have a3 : mTst (mOp1 (isiD "str") (mOp2 ixD (mVarB 0) (mPure (.int 0)))) ρ none = some (true, none) := mTst_of (mOp1_of (i0 none) (isi_ss k))
  have a4 : mTst (mOp2 neD (mOp2 ixD (mVarB 0) (mPure (.int 0))) (mVarB 1)) ρ none = some (decide (k ≠ "duels"), none) := mTst_of (mOp2_of (i0 none) (ev_varB rfl) (str_ne hk sh_duels))
  have t1 := mOr_f (not_of a1) (mOr_f a2 (mOr_f (not_of a3) a4))
  by_cases hk2 : k = "duels"
  case neg =>
    rw [decide_eq_true hk2] at t1
    rw [decide_eq_false hk2, Bool.false_and]
    exact runP_rt rfl (sSq_rt ((sIf_of t1).trans rfl))
  rw [decide_eq_false (fun z => z hk2)] at t1
  rw [decide_eq_true hk2, Bool.true_and]
  have s1 := sIf_f (m := sRet (mPure (.bl false))) t1
  have hn : ((WD' ws : D) : D).asT = some (ws.map wD) := rfl
  have lw : ∀ S, mCall lenD (mCons (mOp2 ixD (mVarB 0) (mPure (.int 1))) (mPure [])) ρ S = some (.int (ws.length : Int), S) := fun S => by
    have := len_items (d := WD' ws) (ds := ws.map wD) rfl
    rw [List.length_map] at this
    exact mCall_of (cons_of (i1 S) rfl) this
  have h2 := h.two
  have b1 := mTst_of (mCall_of (n := mCons (mOp2 ixD (mVarB 0) (mPure (.int 1))) (mPure [])) (cons_of (i1 none) rfl) (things_ev h))
  have b2 : mTst (mChn leD leD (mPure (.int 2)) (mCall lenD (mCons (mOp2 ixD (mVarB 0) (mPure (.int 1))) (mPure []))) (mPure (.int 5))) ρ none = some (true, none) :=
    mTst_of (chn_of rfl (lw none) rfl (by rw [leD_int, decide_eq_true (by omega)]) (by rw [leD_int, decide_eq_true (by omega)]))
  have s2 := sIf_f (m := sRet (mPure (.bl false))) (mOr_f (not_of b1) (not_of b2))
  have c1 : mTst (mOp1 (isiD "tuple") (mOp2 ixD (mVarB 0) (mPure (.int 2)))) ρ none = some (true, none) := mTst_of (mOp1_of (i2 none) (isi_asT hs))
  have hpl : lenD [.lst ((pairsL (ws.map wD)).map pT)] = some (.int ((pairsL ws).length : Int)) := by
    rw [len_items rfl, List.length_map, pairsL_map, List.length_map]
  have c2 : mTst (mOp2 neD (mCall lenD (mCons (mOp2 ixD (mVarB 0) (mPure (.int 2))) (mPure []))) (mCall lenD (mCons (mCall f_pairs_of (mCons (mOp2 ixD (mVarB 0) (mPure (.int 1))) (mPure []))) (mPure [])))) ρ none = some (decide ((ds.length : Int) ≠ ((pairsL ws).length : Int)), none) :=
    mTst_of (mOp2_of (mCall_of (cons_of (i2 none) rfl) (len_items (len_asT hs))) (mCall_of (cons_of (mCall_of (cons_of (i1 none) rfl) (pairs_ev (by rw [List.length_map]; omega))) rfl) hpl) (neD_int _ _))
  have t3 := mOr_f (not_of c1) c2
  by_cases hl : ds.length = (pairsL ws).length
  case neg =>
    rw [decide_eq_true (by omega)] at t3
    rw [decide_eq_false hl, Bool.false_and]
    exact runP_rt rfl ((sSq_nx s1).trans ((sSq_nx s2).trans (sSq_rt ((sIf_of t3).trans rfl))))
  rw [decide_eq_false (by omega)] at t3
  rw [decide_eq_true hl, Bool.true_and]
  have s3 := sIf_f (m := sRet (mPure (.bl false))) t3
  have el := lc_of (vs := [3]) (mSeq_of (i2 none) (len_asT hs)) (lcB (g := gNm 3) (m := mAndV (mCall f_is_whole (mCons (mVar 3) (mPure []))) (mCallL 2 A.is_sign f_is_sign (mCons (mVar 3) (mPure [])))) okD (paired_refl ds) fun d a ed ha => ⟨_, rfl, by subst ed; exact ok_ev (x := .non) (hd _ ha)⟩)
  have e4 := mCall_of (n := mCons _ (mPure [])) (cons_of el rfl) (all_map okD ds)
  exact runP_rt rfl ((sSq_nx s1).trans ((sSq_nx s2).trans ((sSq_nx s3).trans (sRet_of e4))))
theorem duels_ev {ws : List (List Nat)} (h : WsOk ws) (h5 : ws.length ≤ 5) {k : Str} (hk : SeqAt.shaped (.str k) = true) {s : D} {ds : List D} (hs : s.asT = some ds) (hd : ∀ d ∈ ds, SgD d) :
    f_is_duels A [.tx [.str k, WD' ws, s]] = some (.bl (decide (k = "duels") && (decide (ds.length = (pairsL ws).length) && ds.all okD))) :=
  runP_rt rfl (sRet_of (mCall_of (cons_of (ev_var rfl) (cons_of rfl (cons_of rfl rfl))) (table_ev h h5 hk hs hd)))
end K66
namespace K66
open PySem PyProof.Rows L2 Dv
variable {A : Ads}

theorem line4000 : 4096 ≤ sizeLine := by decide +kernel
/-- a tuple of these, exact or not -/
def Tp (d : D) (vs : List D) : Prop := d = .tx vs ∨ d = .tup vs
theorem Tp.asT {d : D} {vs : List D} (h : Tp d vs) : d.asT = some vs := by rcases h with rfl | rfl <;> rfl
theorem addI_none {d e : D} {vs ws : List D} (h : Tp d vs) (h' : Tp e ws) : addI d e = none ∧ addS d e = none := by
  rcases h with rfl | rfl <;> rcases h' with rfl | rfl <;> exact ⟨rfl, rfl⟩
theorem addX_tp {d e : D} {vs ws : List D} (h : Tp d vs) (h' : Tp e ws) (hl : vs.length + ws.length ≤ 4096) : ∃ x, addX d e = some x ∧ Tp x (vs ++ ws) := by
  have hz : vs.length + ws.length ≤ sizeLine := Nat.le_trans hl line4000
  obtain ⟨n1, n2⟩ := addI_none h h'
  unfold addX
  rw [n1, n2]
  show ∃ x, (addXn d e).or (addT d e) = some x ∧ _
  unfold addXn addT
  rw [h.asT, h'.asT]
  simp only
  cases vs with
  | nil => exact ⟨e, by simp at hz ⊢; exact hz, by simpa using h'⟩
  | cons a b =>
    cases ws with
    | nil => exact ⟨d, by simp at hz ⊢; omega, by simpa using h⟩
    | cons a' b' =>
      rw [if_pos ⟨hz, rfl, rfl⟩]
      exact ⟨_, rfl, .inl rfl⟩
theorem addX_tx {vs ws : List D} (hl : vs.length + ws.length ≤ 4096) : addX (.tx vs) (.tx ws) = some (.tx (vs ++ ws)) := by
  have hz : vs.length + ws.length ≤ sizeLine := Nat.le_trans hl line4000
  show (addXn (.tx vs) (.tx ws)).or (addT (.tx vs) (.tx ws)) = _
  unfold addXn addT
  simp only [D.asT]
  cases vs with
  | nil => simp at hz ⊢; exact hz
  | cons a b =>
    cases ws with
    | nil => simp at hz ⊢; omega
    | cons a' b' =>
      rw [if_pos ⟨hz, rfl, rfl⟩]
      rfl
theorem nin_it {d : D} {fs : List (List Nat)} (w : List Nat) (h : itemsD d = some (fs.map wD)) : ninD (wD w) d = some (.bl (decide (w ∉ fs))) := by
  have e : fs.map wD = (fs.map wS).map D.str := by rw [List.map_map]; rfl
  have h0 := nin_w w fs
  have h1 : inFl (wD w) d = inFl (wD w) (.lst (fs.map wD)) := by unfold inFl; rw [h]; rfl
  have h2 : inFl (wD w) (.lst (fs.map wD)) = some (.bl (fs.map wD |>.any fun z => eqFl z (wD w))) := by
    unfold inFl
    simp only [itemsD]
    rw [e, if_pos (by rw [flat_strs]; rfl)]
  unfold ninD ninSq at h0 ⊢
  rw [h1]
  rw [h2] at h0 ⊢
  simp only [Option.bind_some, Option.or] at h0 ⊢
  exact h0
def restW (ws : List (List Nat)) (x y : List Nat) : List (List Nat) := ws.filter fun w => decide (w ∉ [x, y])
def vxW (ws : List (List Nat)) (x y : List Nat) : List (List Nat) := [x, y] ++ restW ws x y
def vyW (ws : List (List Nat)) (x y : List Nat) : List (List Nat) := (restW ws x y).reverse ++ [x, y]
/-- a voter as data -/
abbrev VD (v : List (List Nat)) : D := .tx (v.map wD)
theorem tupX_of {m : MA} {ρ : Lo} {S S' : Sg} {ds : List D} (h : m ρ S = some (ds, S')) (hl : ds.length ≤ 4096) : mTupX m ρ S = some (.tx ds, S') := by
  unfold mTupX; rw [h]; simp only [Option.bind_some]; rw [if_pos hl]
theorem two_ev {ws : List (List Nat)} (hl : ws.length ≤ 8) (x y : List Nat) : f_two_for [WD' ws, wD x, wD y] = some (.tx [VD (vxW ws x y), VD (vyW ws x y)]) := by
  let ρ : Lo := [some (.imm (WD' ws)), some (.imm (wD x)), some (.imm (wD y)), none, none]
  have et : ∀ w S, mTst (mOp2 ninD (mVarB 4) (mTupX (mCons (mVar 1) (mCons (mVar 2) (mPure []))))) [some (.imm (WD' ws)), some (.imm (wD x)), some (.imm (wD y)), none, some (.imm (wD w))] S = some (decide (w ∉ [x, y]), S) := fun w S =>
    mTst_of (mOp2_of (ev_varB rfl) (tupX_of (cons_of (ev_var rfl) (cons_of (ev_var rfl) rfl)) (by simp)) (nin_it (fs := [x, y]) w rfl))
  have el := lc_of (mi := mSeq (mVar 0)) (vs := [4]) (ρ := ρ) (S := none) (mSeq_of (ev_var rfl) rfl)
    (lc_if (g := gNm 4) (t := mTst (mOp2 ninD (mVarB 4) (mTupX (mCons (mVar 1) (mCons (mVar 2) (mPure [])))))) (m := mVar 4) (fun w => decide (w ∉ [x, y])) wD (paired_mapL (R := fun d w => d = wD w) (e := wD) (fun _ => rfl) ws) fun d w ed hw => ⟨_, rfl, by subst ed; exact et w none, fun _ => by subst ed; exact ev_var rfl⟩)
  have s1 : sSet 3 (mCall tupleXD (mCons (mLc (mSeq (mVar 0)) [4] (gNm 4) (mTst (mOp2 ninD (mVarB 4) (mTupX (mCons (mVar 1) (mCons (mVar 2) (mPure [])))))) (mVar 4)) (mPure []))) ρ none = some (.nx, [some (.imm (WD' ws)), some (.imm (wD x)), some (.imm (wD y)), some (.imm (.tx ((restW ws x y).map wD))), none], none) :=
    set_of' (mCall_of (cons_of el rfl) rfl)
  have hr : (restW ws x y).length ≤ 8 := Nat.le_trans (List.length_filter_le _ _) hl
  let ρ2 : Lo := [some (.imm (WD' ws)), some (.imm (wD x)), some (.imm (wD y)), some (.imm (.tx ((restW ws x y).map wD))), none]
  have exy : ∀ S, mTupX (mCons (mVar 1) (mCons (mVar 2) (mPure []))) ρ2 S = some (.tx [wD x, wD y], S) := fun S => tupX_of (cons_of (ev_var rfl) (cons_of (ev_var rfl) rfl)) (by simp)
  have e1 : mOp2 addX (mTupX (mCons (mVar 1) (mCons (mVar 2) (mPure [])))) (mVarB 3) ρ2 none = some (VD (vxW ws x y), none) :=
    mOp2_of (exy none) (ev_varB rfl) (by rw [addX_tx (by rw [List.length_map]; simp; omega)]; simp [vxW])
  have e2 : mOp2 addX (mOp1 revTupX (mVarB 3)) (mTupX (mCons (mVar 1) (mCons (mVar 2) (mPure [])))) ρ2 none = some (VD (vyW ws x y), none) :=
    mOp2_of (mOp1_of (f := revTupX) (ev_varB rfl) (show revTupX (.tx ((restW ws x y).map wD)) = some (.tx ((restW ws x y).map wD).reverse) from rfl)) (exy none) (by rw [addX_tx (by rw [List.length_reverse, List.length_map]; simp; omega)]; simp [vyW])
  exact runP_rt rfl ((sSq_nx s1).trans (sRet_of (tupX_of (cons_of e1 (cons_of e2 rfl)) (by simp))))
/-! ### even voters -/
def evW (ws : List (List Nat)) (z : (List Nat × List Nat) × Int) : List (List (List Nat)) :=
  if z.2 = 0 then [] else if 0 < z.2 then [vxW ws z.1.1 z.1.2, vyW ws z.1.1 z.1.2] else [vxW ws z.1.2 z.1.1, vyW ws z.1.2 z.1.1]
def N2 (n : Int) : Prop := n = -2 ∨ n = 0 ∨ n = 2
def zD (z : (List Nat × List Nat) × Int) : D := .tup [pT (wD z.1.1, wD z.1.2), .int z.2]
def gE : MG := gTp 2 (gCns (gTp 2 (gCns (gNm 5) (gCns (gNm 6) gNl))) (gCns (gNm 3) gNl))
noncomputable def bodyE : MS := sSq (sSet 4 (mIte (mTst (mOp2 gtD (mVarB 3) (mPure (.int 0)))) (mCall f_two_for (mCons (mVar 0) (mCons (mVar 5) (mCons (mVar 6) (mPure []))))) (mCall f_two_for (mCons (mVar 0) (mCons (mVar 6) (mCons (mVar 5) (mPure [])))))))
  (sSet 2 (mOp2 addX (mVarB 2) (mOp2 mulTA (mVarB 4) (mOp2 fdivD (mCall absD (mCons (mVarB 3) (mPure []))) (mPure (.int 2))))))
theorem mulTA_1 (a b : D) : mulTA (.tx [a, b]) (.int 1) = some (.tx [a, b]) := rfl
theorem mulTA_0 (a b : D) : mulTA (.tx [a, b]) (.int 0) = some (.tup []) := rfl
theorem even_step {ws : List (List Nat)} (hl : ws.length ≤ 8) {z : (List Nat × List Nat) × Int} (hz : N2 z.2) {nd d : D} {vs : List (List (List Nat))} (h : Tp d (vs.map VD)) (hv : vs.length ≤ 4000) (x4 : Option LV) :
    ∃ d' x4', bodyE [some (.imm (WD' ws)), some (.imm nd), some (.imm d), some (.imm (.int z.2)), x4, some (.imm (wD z.1.1)), some (.imm (wD z.1.2))] none = some (.nx, [some (.imm (WD' ws)), some (.imm nd), some (.imm d'), some (.imm (.int z.2)), x4', some (.imm (wD z.1.1)), some (.imm (wD z.1.2))], none) ∧ Tp d' ((vs ++ evW ws z).map VD) := by
  obtain ⟨⟨x, y⟩, n⟩ := z
  have key : ∀ (a b : D) (vs' : List (List (List Nat))) (k : Int) (m : D), mIte (mTst (mOp2 gtD (mVarB 3) (mPure (.int 0)))) (mCall f_two_for (mCons (mVar 0) (mCons (mVar 5) (mCons (mVar 6) (mPure []))))) (mCall f_two_for (mCons (mVar 0) (mCons (mVar 6) (mCons (mVar 5) (mPure []))))) [some (.imm (WD' ws)), some (.imm nd), some (.imm d), some (.imm (.int n)), x4, some (.imm (wD x)), some (.imm (wD y))] none = some (.tx [a, b], none) →
      fdivD (.int (iabs n)) (.int 2) = some (.int k) → mulTA (.tx [a, b]) (.int k) = some m → Tp m (vs'.map VD) → vs'.length ≤ 2 →
      ∃ d' x4', bodyE [some (.imm (WD' ws)), some (.imm nd), some (.imm d), some (.imm (.int n)), x4, some (.imm (wD x)), some (.imm (wD y))] none = some (.nx, [some (.imm (WD' ws)), some (.imm nd), some (.imm d'), some (.imm (.int n)), x4', some (.imm (wD x)), some (.imm (wD y))], none) ∧ Tp d' ((vs ++ vs').map VD) := fun a b vs' k m h1 h2 h3 h4 h5 => by
    obtain ⟨d', e, hT⟩ := addX_tp h h4 (by rw [List.length_map, List.length_map]; omega)
    rw [← List.map_append] at hT
    refine ⟨d', some (.imm (.tx [a, b])), ?_, hT⟩
    unfold bodyE
    refine (sSq_nx (set_of' h1)).trans ?_
    exact set_of' (mOp2_of (ev_varB rfl) (mOp2_of (ev_varB rfl) (mOp2_of (mCall_of (cons_of (ev_varB rfl) rfl) (absD_int n)) rfl h2) h3) e)
  have tst : mTst (mOp2 gtD (mVarB 3) (mPure (.int 0))) [some (.imm (WD' ws)), some (.imm nd), some (.imm d), some (.imm (.int n)), x4, some (.imm (wD x)), some (.imm (wD y))] none = some (decide (0 < n), none) := mTst_of (mOp2_of (ev_varB rfl) rfl (gtD_int _ _))
  rcases hz with hz | hz | hz <;> (have hz : n = _ := hz; subst hz)
  · refine key _ _ [vxW ws y x, vyW ws y x] 1 _ ?_ (by kernel_rfl) (mulTA_1 _ _) (.inl rfl) (by simp)
    unfold mIte; rw [tst, show decide ((0 : Int) < -2) = false from rfl]
    simp only [Option.bind_some, Bool.false_eq_true, if_false]
    show mCall f_two_for (mCons (mVar 0) (mCons (mVar 6) (mCons (mVar 5) (mPure [])))) _ _ = _
    exact mCall_of (cons_of (ev_var rfl) (cons_of (ev_var rfl) (cons_of (ev_var rfl) rfl))) (two_ev hl y x)
  · refine key (VD (vxW ws y x)) (VD (vyW ws y x)) [] 0 _ ?_ (by kernel_rfl) (mulTA_0 _ _) (.inr rfl) (by simp)
    unfold mIte; rw [tst, show decide ((0 : Int) < 0) = false from rfl]
    simp only [Option.bind_some, Bool.false_eq_true, if_false]
    show mCall f_two_for (mCons (mVar 0) (mCons (mVar 6) (mCons (mVar 5) (mPure [])))) _ _ = _
    exact mCall_of (cons_of (ev_var rfl) (cons_of (ev_var rfl) (cons_of (ev_var rfl) rfl))) (two_ev hl y x)
  · refine key _ _ [vxW ws x y, vyW ws x y] 1 _ ?_ (by kernel_rfl) (mulTA_1 _ _) (.inl rfl) (by simp)
    unfold mIte; rw [tst, show decide ((0 : Int) < 2) = true from rfl]
    simp only [Option.bind_some, if_true]
    show mCall f_two_for (mCons (mVar 0) (mCons (mVar 5) (mCons (mVar 6) (mPure [])))) _ _ = _
    exact mCall_of (cons_of (ev_var rfl) (cons_of (ev_var rfl) (cons_of (ev_var rfl) rfl))) (two_ev hl x y)
end K66
namespace K66
open PySem PyProof.Rows L2 Dv
variable {A : Ads}

theorem even_go {ws : List (List Nat)} (hl : ws.length ≤ 8) {nd : D} : ∀ (zs : List ((List Nat × List Nat) × Int)) (d : D) (vs : List (List (List Nat))) (x3 x4 x5 x6 : Option LV), (∀ z ∈ zs, N2 z.2) → Tp d (vs.map VD) → vs.length + 2 * zs.length ≤ 4000 →
    ∃ d' y3 y4 y5 y6, forGo gE bodyE (zs.map zD) [some (.imm (WD' ws)), some (.imm nd), some (.imm d), x3, x4, x5, x6] none = some (.nx, [some (.imm (WD' ws)), some (.imm nd), some (.imm d'), y3, y4, y5, y6], none) ∧ Tp d' ((vs ++ zs.flatMap (evW ws)).map VD)
  | [], d, vs, x3, x4, x5, x6, _, h, _ => ⟨d, x3, x4, x5, x6, rfl, by simpa using h⟩
  | z :: zs, d, vs, x3, x4, x5, x6, hz, h, hv => by
    rw [List.length_cons] at hv
    obtain ⟨d1, x4', e1, h1⟩ := even_step hl (hz z List.mem_cons_self) (nd := nd) h (by omega) x4
    have hev : (evW ws z).length ≤ 2 := by unfold evW; split <;> (try split) <;> simp
    obtain ⟨d', y3, y4, y5, y6, e, hT⟩ := even_go hl (nd := nd) zs d1 (vs ++ evW ws z) (some (.imm (.int z.2))) x4' (some (.imm (wD z.1.1))) (some (.imm (wD z.1.2))) (fun y hy => hz y (List.mem_cons_of_mem _ hy)) h1 (by rw [List.length_append]; omega)
    refine ⟨d', y3, y4, y5, y6, ?_, by rw [List.flatMap_cons, ← List.append_assoc]; exact hT⟩
    rw [List.map_cons]
    show Option.bind (some [some (LV.imm (WD' ws)), some (LV.imm nd), some (LV.imm d), some (LV.imm (.int z.2)), x4, some (LV.imm (wD z.1.1)), some (LV.imm (wD z.1.2))]) _ = _
    simp only [Option.bind_some]
    rw [e1]
    exact e
theorem zip_zD (ps : List (List Nat × List Nat)) (ns : List Int) : List.zipWith (fun a b => D.tup [a, b]) (ps.map fun p => pT (wD p.1, wD p.2)) (ns.map D.int) = (ps.zip ns).map zD := by
  induction ps generalizing ns with
  | nil => rfl
  | cons p ps ih =>
    cases ns with
    | nil => rfl
    | cons n ns => rw [List.map_cons, List.map_cons, List.zipWith_cons_cons, List.zip_cons_cons, List.map_cons, ih]; rfl
def evenW (ws : List (List Nat)) (ns : List Int) : List (List (List Nat)) := ((pairsL ws).zip ns).flatMap (evW ws)
/-- the voters of even numbers -/
def voteE (ws : List (List Nat)) (ns : List Int) : List (List (List Nat)) := if evenW ws ns = [] then [ws, ws.reverse] else evenW ws ns
theorem dp_VD {v : List (List Nat)} (h : ∀ w ∈ v, GWd w) (n : Nat) : DP (n + 1) (VD v) := dp_tx (dp_ws h n)
theorem vx_good {ws : List (List Nat)} {x y : List Nat} (h : ∀ w ∈ ws, GWd w) (hx : GWd x) (hy : GWd y) : (∀ w ∈ vxW ws x y, GWd w) ∧ ∀ w ∈ vyW ws x y, GWd w := by
  have hr : ∀ w ∈ restW ws x y, GWd w := fun w hw => h w (List.mem_filter.mp hw).1
  have hxy : ∀ w ∈ [x, y], GWd w := fun w hw => by
    simp only [List.mem_cons, List.not_mem_nil, or_false] at hw
    rcases hw with rfl | rfl <;> assumption
  refine ⟨fun w hw => ?_, fun w hw => ?_⟩
  · rcases List.mem_append.mp hw with hw | hw
    · exact hxy w hw
    · exact hr w hw
  · rcases List.mem_append.mp hw with hw | hw
    · exact hr w (List.mem_reverse.mp hw)
    · exact hxy w hw
theorem pairsL_mem {α : Type} : ∀ {xs : List α} {p : α × α}, p ∈ pairsL xs → p.1 ∈ xs ∧ p.2 ∈ xs
  | x :: r, p, h => by
    rw [pairsL] at h
    rcases List.mem_append.mp h with h | h
    · obtain ⟨y, hy, rfl⟩ := List.mem_map.mp h
      exact ⟨List.mem_cons_self, List.mem_cons_of_mem _ hy⟩
    · have := pairsL_mem h
      exact ⟨List.mem_cons_of_mem _ this.1, List.mem_cons_of_mem _ this.2⟩
theorem evenW_good {ws : List (List Nat)} (h : ∀ w ∈ ws, GWd w) (ns : List Int) : ∀ v ∈ evenW ws ns, ∀ w ∈ v, GWd w := fun v hv => by
  obtain ⟨z, hz, hv⟩ := List.mem_flatMap.mp hv
  obtain ⟨h1, h2⟩ := pairsL_mem (List.of_mem_zip (a := z.1) (b := z.2) hz).1
  have g1 := vx_good h (h _ h1) (h _ h2)
  have g2 := vx_good h (h _ h2) (h _ h1)
  unfold evW at hv
  split at hv
  · cases hv
  · split at hv <;> (simp only [List.mem_cons, List.not_mem_nil, or_false] at hv; rcases hv with rfl | rfl)
    · exact g1.1
    · exact g1.2
    · exact g2.1
    · exact g2.2
theorem voteE_good {ws : List (List Nat)} (h : ∀ w ∈ ws, GWd w) (ns : List Int) : ∀ v ∈ voteE ws ns, ∀ w ∈ v, GWd w := fun v hv => by
  unfold voteE at hv
  split at hv
  · simp only [List.mem_cons, List.not_mem_nil, or_false] at hv
    rcases hv with rfl | rfl
    · exact h
    · exact fun w hw => h w (List.mem_reverse.mp hw)
  · exact evenW_good h ns v hv
theorem ne_tp_nil {d : D} {vs : List D} (h : Tp d vs) (hd : ∀ x ∈ vs, DP 1 x) : neD d (.tx []) = some (.bl (decide (vs ≠ []))) := by
  have hdp : DP 2 d := by
    rcases h with rfl | rfl
    · exact dp_tx hd
    · exact dp_tup hd
  obtain ⟨p, q, e1, e2, _, e3⟩ := eq_dp hdp (dp_tx (n := 1) (ds := []) fun d hd => absurd hd List.not_mem_nil) (by omega)
  rw [e3]
  have e2' : q = .tuple [] := by
    have : toP (.tx []) = some (.tuple []) := rfl
    rw [this] at e2; exact (Option.some.inj e2).symm
  subst e2'
  have e4 : toP d = (toPs vs).map .tuple := by rcases h with rfl | rfl <;> simp only [toP]
  rw [e4] at e1
  obtain ⟨ps, e5, rfl⟩ := Option.map_eq_some_iff.mp e1
  cases vs with
  | nil =>
    have : toPs [] = some [] := rfl
    rw [this] at e5
    cases e5
    simp [PyData.eqv, PyData.eqvAll]
  | cons a b =>
    have : ps ≠ [] := fun z => by rw [z] at e5; exact absurd (toPs_nil e5) (by simp)
    cases ps with
    | nil => exact absurd rfl this
    | cons a b => simp [PyData.eqv, PyData.eqvAll]
theorem even_ev {ws : List (List Nat)} (hg : ∀ w ∈ ws, GWd w) (hl : ws.length ≤ 8) {nd : D} {ns : List Int} (hn : nd.asT = some (ns.map D.int)) (h2 : ∀ n ∈ ns, N2 n) (hs : (pairsL ws).length ≤ 100) :
    ∃ d, f_even_voters [WD' ws, nd] = some d ∧ Tp d ((voteE ws ns).map VD) := by
  have hzl : ((pairsL ws).zip ns).length ≤ 100 := by rw [List.length_zip]; omega
  obtain ⟨d', y3, y4, y5, y6, e, hT⟩ := even_go hl (nd := nd) ((pairsL ws).zip ns) (.tx []) [] none none none none (fun z hz => h2 _ (List.of_mem_zip (a := z.1) (b := z.2) hz).2) (.inl rfl) (by rw [List.length_nil]; omega)
  rw [List.nil_append] at hT
  have s1 : sSet 2 (mTupX (mPure [])) (startL 7 [WD' ws, nd]) none = some (.nx, [some (.imm (WD' ws)), some (.imm nd), some (.imm (.tx [])), none, none, none, none], none) := rfl
  have ez : mZip2 (mCons (mCall f_pairs_of (mCons (mVar 0) (mPure []))) (mCons (mVar 1) (mPure []))) [some (.imm (WD' ws)), some (.imm nd), some (.imm (.tx [])), none, none, none, none] none = some (((pairsL ws).zip ns).map zD, none) := by
    unfold mZip2
    rw [cons_of (mCall_of (cons_of (ev_var rfl) rfl) (pairs_ev (by rw [List.length_map]; omega))) (cons_of (ev_var rfl) rfl)]
    simp only [Option.bind_some, show itemsD (.lst ((pairsL (ws.map wD)).map pT)) = some ((pairsL (ws.map wD)).map pT) from rfl, len_asT hn, Option.map_some]
    rw [pairsL_map, List.map_map, ← zip_zD]
    rfl
  have s2 := for_of ez e
  have hne : neD d' (.tx []) = some (.bl (decide ((evenW ws ns).map VD ≠ []))) := ne_tp_nil hT fun x hx => by
    obtain ⟨v, hv, rfl⟩ := List.mem_map.mp hx
    exact dp_VD (evenW_good hg ns v hv) 0
  have et : mTst (mOp2 neD (mVarB 2) (mTupX (mPure []))) [some (.imm (WD' ws)), some (.imm nd), some (.imm d'), y3, y4, y5, y6] none = some (decide ((evenW ws ns).map VD ≠ []), none) := mTst_of (mOp2_of (ev_varB rfl) rfl hne)
  by_cases h0 : evenW ws ns = []
  · have hv : voteE ws ns = [ws, ws.reverse] := by unfold voteE; rw [if_pos h0]
    rw [decide_eq_false (by simp [h0])] at et
    refine ⟨.tx [WD' ws, VD ws.reverse], ?_, .inl (by rw [hv]; rfl)⟩
    refine runP_rt (S' := none) rfl ((sSq_nx s1).trans ((sSq_nx s2).trans (sRet_of ?_)))
    unfold mIte; rw [et]
    simp only [Option.bind_some, Bool.false_eq_true, if_false]
    have er : revTupX (WD' ws) = some (VD ws.reverse) := by show some (D.tx (ws.map wD).reverse) = _; rw [← List.map_reverse]
    exact tupX_of (cons_of (ev_var rfl) (cons_of (mOp1_of (ev_varB rfl) er) rfl)) (by simp)
  · have hv : voteE ws ns = evenW ws ns := by unfold voteE; rw [if_neg h0]
    rw [decide_eq_true (by simpa using h0)] at et
    refine ⟨d', ?_, by rw [hv]; exact hT⟩
    refine runP_rt (S' := none) rfl ((sSq_nx s1).trans ((sSq_nx s2).trans (sRet_of ?_)))
    unfold mIte; rw [et]
    simp only [Option.bind_some, if_true]
    exact ev_var rfl
end K66
namespace K66
open PySem PyProof.Rows L2 Dv
variable {A : Ads}

theorem addD_tp {d e : D} {vs ws : List D} (h : Tp d vs) (h' : Tp e ws) (hl : vs.length + ws.length ≤ 4096) : ∃ x, addD d e = some x ∧ Tp x (vs ++ ws) := by
  have hz : vs.length + ws.length ≤ sizeLine := Nat.le_trans hl line4000
  obtain ⟨n1, n2⟩ := addI_none h h'
  unfold addD
  rw [n1, n2]
  show ∃ x, addT d e = some x ∧ _
  unfold addT
  rw [h.asT, h'.asT]
  simp only
  rw [if_pos hz]
  cases vs with
  | nil => exact ⟨e, rfl, by simpa using h'⟩
  | cons a b =>
    cases ws with
    | nil => exact ⟨d, rfl, by simpa using h⟩
    | cons a' b' => exact ⟨_, rfl, .inr rfl⟩
/-- the voters of these numbers -/
def voteW (ws : List (List Nat)) (ns : List Int) : List (List (List Nat)) :=
  if ns.headD 0 % 2 = 0 then voteE ws ns else ws :: (if (ns.map (· - 1)).any (fun n => decide (n ≠ 0)) = true then voteE ws (ns.map (· - 1)) else [])
theorem evW_len (ws : List (List Nat)) (z : (List Nat × List Nat) × Int) : (evW ws z).length ≤ 2 := by unfold evW; split <;> (try split) <;> simp
theorem evenW_len (ws : List (List Nat)) (ns : List Int) : (evenW ws ns).length ≤ 2 * (pairsL ws).length := by
  have : ∀ zs : List ((List Nat × List Nat) × Int), (zs.flatMap (evW ws)).length ≤ 2 * zs.length := fun zs => by
    induction zs with
    | nil => simp
    | cons z zs ih => rw [List.flatMap_cons, List.length_append, List.length_cons]; have := evW_len ws z; omega
  have h := this ((pairsL ws).zip ns)
  have hz : ((pairsL ws).zip ns).length ≤ (pairsL ws).length := by rw [List.length_zip]; omega
  unfold evenW
  omega
theorem voteE_len (ws : List (List Nat)) (ns : List Int) : (voteE ws ns).length ≤ 2 * (pairsL ws).length + 2 := by
  have := evenW_len ws ns
  unfold voteE
  split
  · simp
  · omega
theorem paired_int (ns : List Int) : Paired (fun d n => d = D.int n) (ns.map D.int) ns := paired_mapL (e := D.int) (fun _ => rfl) ns
theorem voters_ev {ws : List (List Nat)} (hg : ∀ w ∈ ws, GWd w) (hl : ws.length ≤ 8) {nd : D} {ns : List Int} (hn : nd.asT = some (ns.map D.int)) (h0 : ns ≠ []) (h2 : (∀ n ∈ ns, N2 n) ∨ ∀ n ∈ ns, n = -1 ∨ n = 1) (hs : (pairsL ws).length ≤ 100) :
    ∃ d, f_voters_for [WD' ws, nd] = some d ∧ Tp d ((voteW ws ns).map VD) := by
  cases ns with
  | nil => exact absurd rfl h0
  | cons n0 nr =>
  let ρ : Lo := [some (.imm (WD' ws)), some (.imm nd), none, none]
  have ei : mOp2 ixD (mVarB 1) (mPure (.int 0)) ρ none = some (.int n0, none) := mOp2_of (ev_varB rfl) rfl (ix_nat (n := 0) (len_asT hn) rfl)
  have et : mTst (mOp2 eqD (mOp2 modD (mOp2 ixD (mVarB 1) (mPure (.int 0))) (mPure (.int 2))) (mPure (.int 0))) ρ none = some (decide (n0 % 2 = 0), none) :=
    mTst_of (mOp2_of (mOp2_of ei rfl (modD_int (by omega))) rfl (eqD_int _ _))
  unfold voteW
  rw [List.headD_cons]
  by_cases hm : n0 % 2 = 0
  · have hN : ∀ n ∈ n0 :: nr, N2 n := h2.elim id fun h => by
      rcases h n0 List.mem_cons_self with rfl | rfl
      · exact absurd hm (by decide)
      · exact absurd hm (by decide)
    obtain ⟨d, e, hT⟩ := even_ev hg hl hn hN hs
    rw [decide_eq_true hm] at et
    rw [if_pos hm]
    exact ⟨d, runP_rt rfl (sSq_rt ((sIf_of et).trans (sRet_of (mCall_of (cons_of (ev_var rfl) (cons_of (ev_var rfl) rfl)) e)))), hT⟩
  · have hO : ∀ n ∈ n0 :: nr, n = -1 ∨ n = 1 := h2.elim (fun h => by
      rcases h n0 List.mem_cons_self with rfl | rfl | rfl <;> exact absurd rfl hm) id
    rw [decide_eq_false hm] at et
    rw [if_neg hm]
    have s1 := sIf_f (m := sRet (mCall f_even_voters (mCons (mVar 0) (mCons (mVar 1) (mPure []))))) et
    generalize hns : n0 :: nr = ns at *
    have el := lc_of (mi := mSeq (mVar 1)) (vs := [3]) (ρ := ρ) (S := none) (mSeq_of (ev_var rfl) (len_asT hn)) (lc_rel (g := gNm 3) (t := mPure true) (m := mOp2 subD (mVarB 3) (mPure (.int 1))) (fun n => D.int (n - 1)) (paired_int ns) fun d n ed _ => ⟨_, rfl, rfl, by subst ed; exact mOp2_of (ev_varB rfl) rfl (subD_int _ _)⟩)
    have s2 := set_of' (i := 2) (mCall_of (f := tupleD) (n := mCons _ (mPure [])) (cons_of el rfl) (tuple_lst _))
    let l : D := .tup (ns.map fun n => D.int (n - 1))
    have hla : l.asT = some ((ns.map (· - 1)).map D.int) := by show some _ = _; rw [List.map_map]; rfl
    let ρ2 : Lo := [some (.imm (WD' ws)), some (.imm nd), some (.imm l), none]
    have el2 := lc_of (mi := mSeq (mVar 2)) (vs := [3]) (ρ := ρ2) (S := none) (mSeq_of (ev_var rfl) (len_asT hla)) (lcB (g := gNm 3) (m := mOp2 neD (mVarB 3) (mPure (.int 0))) (fun n => decide (n ≠ 0)) (paired_int (ns.map (· - 1))) fun d n ed _ => ⟨_, rfl, by subst ed; exact mOp2_of (ev_varB rfl) rfl (neD_int _ _)⟩)
    have ea := mTst_of (mCall_of (n := mCons _ (mPure [])) (cons_of el2 rfl) (any_map (fun n : Int => decide (n ≠ 0)) (ns.map (· - 1))))
    have hN : ∀ n ∈ ns.map (· - 1), N2 n := fun n hn => by
      obtain ⟨m, hm, rfl⟩ := List.mem_map.mp hn
      rcases hO m hm with rfl | rfl
      · exact .inl rfl
      · exact .inr (.inl rfl)
    have e0 : mTup (mCons (mVar 0) (mPure [])) ρ2 none = some (.tup [WD' ws], none) := rfl
    by_cases hb : (ns.map (· - 1)).any (fun n => decide (n ≠ 0)) = true
    · obtain ⟨d, e, hT⟩ := even_ev hg hl hla hN hs
      have hvl := voteE_len ws (ns.map (· - 1))
      obtain ⟨x, ex, hx⟩ := addD_tp (d := .tup [WD' ws]) (vs := [WD' ws]) (.inr rfl) hT (by rw [List.length_map]; simp; omega)
      rw [hb] at ea
      rw [if_pos hb]
      refine ⟨x, ?_, hx⟩
      refine runP_rt (S' := none) rfl ((sSq_nx s1).trans ((sSq_nx s2).trans (sRet_of (ρ := ρ2) (mOp2_of e0 ?_ ex))))
      unfold mIte; rw [ea]
      simp only [Option.bind_some, if_true]
      exact mCall_of (cons_of (ev_var rfl) (cons_of (ev_var rfl) rfl)) e
    · rw [Bool.eq_false_iff.mpr hb] at ea
      rw [if_neg hb]
      refine ⟨.tup [WD' ws], ?_, .inr rfl⟩
      refine runP_rt (S' := none) rfl ((sSq_nx s1).trans ((sSq_nx s2).trans (sRet_of (ρ := ρ2) (mOp2_of (d2 := .tup []) e0 ?_ ?_))))
      · unfold mIte; rw [ea]
        simp only [Option.bind_some, Bool.false_eq_true, if_false]
        rfl
      · kernel_rfl
/-- the numbers of signs -/
def numsW (odd : Bool) (sg : List Int) : List Int := if odd then sg else sg.map (2 * ·)
theorem in_ints (n : Int) {d : D} {ns : List Int} (h : d.asT = some (ns.map D.int)) : inD (.int n) d = some (.bl (decide (n ∈ ns))) := by
  have hfl : (ns.map D.int).all flatD = true := by
    rw [List.all_map]; exact List.all_eq_true.mpr fun _ _ => rfl
  have h1 : inFl (.int n) d = some (.bl (decide (n ∈ ns))) := by
    unfold inFl
    rw [len_asT h]
    simp only
    rw [if_pos (by rw [hfl]; rfl)]
    congr 2
    rw [List.any_map]
    apply Bool.eq_iff_iff.mpr
    rw [List.any_eq_true, decide_eq_true_eq]
    constructor
    · rintro ⟨x, hx, e⟩
      have e : (x == n) = true := e
      rw [beq_iff_eq] at e
      rw [← e]; exact hx
    · intro h
      exact ⟨n, h, by show (n == n) = true; rw [beq_self_eq_true]⟩
  unfold inD inSq
  rw [h1]
  rfl
end K66
namespace K66
open PySem PyProof.Rows L2 Dv
variable {A : Ads}

/-- the turn's facts: the words, the signs -/
structure Fc (ws : List (List Nat)) (sg : List Int) : Prop where
  ok : WsOk ws
  five : ws.length ≤ 5
  len : sg.length = (pairsL ws).length
  sgn : ∀ n ∈ sg, n = -1 ∨ n = 0 ∨ n = 1
abbrev sgD (sg : List Int) : D := .tx (sg.map .int)
abbrev toldD (ws : List (List Nat)) (sg : List Int) : D := .tx [.str "duels", WD' ws, sgD sg]
variable {ws : List (List Nat)} {sg : List Int}
theorem Fc.pl (h : Fc ws sg) : (pairsL ws).length ≤ 100 := by
  have h1 := pairsL_len ws
  have h2 := h.five
  have : ws.length * ws.length ≤ 5 * 5 := Nat.mul_le_mul h2 h2
  omega
theorem Fc.ne (h : Fc ws sg) : sg ≠ [] := fun z => by
  have h1 := h.len
  have h2 := h.ok.two
  rw [z] at h1
  cases ws with
  | nil => simp at h2
  | cons a r =>
    cases r with
    | nil => simp at h2
    | cons b r => simp [pairsL] at h1
theorem sgd_int (sg : List Int) : ∀ d ∈ sg.map D.int, SgD d := fun d hd => by
  obtain ⟨i, _, rfl⟩ := List.mem_map.mp hd
  exact .inl ⟨i, rfl⟩
theorem is_duels_ev (h : Fc ws sg) : f_is_duels A [toldD ws sg] = some (.bl true) := by
  have e := duels_ev (A := A) h.ok h.five sh_duels (s := sgD sg) (ds := sg.map D.int) rfl (sgd_int sg)
  have ha : (sg.map D.int).all okD = true := by
    rw [List.all_map]
    refine List.all_eq_true.mpr fun n hn => ?_
    rcases h.sgn n hn with rfl | rfl | rfl <;> rfl
  rw [ha, decide_eq_true rfl, decide_eq_true (by rw [List.length_map]; exact h.len)] at e
  exact e
def SgT (sg : List Int) : Prop := ∀ n ∈ sg, n = -1 ∨ n = 0 ∨ n = 1
/-- what the package finds -/
def foundW (ws : List (List Nat)) (sg : List Int) (odd : Bool) : Option (List (List (List Nat))) := if odd = true ∧ 0 ∈ sg then none else some (voteW ws (numsW odd sg))
theorem duel_ev (h : Fc ws sg) (odd : Bool) : ∃ d, f_duel_voters A [toldD ws sg, .bl odd] = some d ∧ ((odd = true ∧ 0 ∈ sg ∧ d = .non) ∨ (¬(odd = true ∧ 0 ∈ sg) ∧ Tp d ((voteW ws (numsW odd sg)).map VD))) := by
  let ρ : Lo := [some (.imm (toldD ws sg)), some (.imm (.bl odd)), none]
  have i1 : ∀ S, mOp2 ixD (mVarB 0) (mPure (.int 1)) ρ S = some (WD' ws, S) := fun S => mOp2_of (ev_varB rfl) rfl (ix_nat (n := 1) (d := toldD ws sg) rfl rfl)
  have i2 : ∀ S, mOp2 ixD (mVarB 0) (mPure (.int 2)) ρ S = some (sgD sg, S) := fun S => mOp2_of (ev_varB rfl) rfl (ix_nat (n := 2) (d := toldD ws sg) rfl rfl)
  have t1 := not_of (mTst_of (mCall_of (f := f_is_duels A) (n := mCons (mVar 0) (mPure [])) (ρ := ρ) (S := none) (cons_of (ev_var rfl) rfl) (is_duels_ev h)))
  have s1 := sIf_f (m := sNever) t1
  have t2 : mNot (mTst (mOp1 (isiD "bool") (mVarB 1))) ρ none = some (false, none) := not_of (a := true) (mTst_of (mOp1_of (ev_varB rfl) rfl))
  have s2 := sIf_f (m := sNever) t2
  have t3 : mAnd (mTst (mVar 1)) (mTst (mOp2 inD (mPure (.int 0)) (mOp2 ixD (mVarB 0) (mPure (.int 2))))) ρ none = some (odd && decide ((0 : Int) ∈ sg), none) :=
    and_of (mTst_of (ev_var rfl)) (mTst_of (mOp2_of rfl (i2 none) (in_ints 0 rfl)))
  by_cases hc : odd = true ∧ 0 ∈ sg
  · have ho : (odd && decide ((0 : Int) ∈ sg)) = true := by rw [hc.1, decide_eq_true hc.2]; rfl
    rw [ho] at t3
    exact ⟨.non, runP_rt rfl ((sSq_nx s1).trans ((sSq_nx s2).trans (sSq_rt ((sIf_of t3).trans rfl)))), .inl ⟨hc.1, hc.2, rfl⟩⟩
  · have ho : (odd && decide ((0 : Int) ∈ sg)) = false := by
      rw [Bool.and_eq_false_iff]
      by_cases h1 : odd = true
      · exact .inr (decide_eq_false fun z => hc ⟨h1, z⟩)
      · exact .inl (by simpa using h1)
    rw [ho] at t3
    have s3 := sIf_f (m := sRet (mPure .non)) t3
    have hb : ∀ n ∈ sg, mIte (mTst (mVar 1)) (mVar 2) (mOp2 mulI (mPure (.int 2)) (mVarB 2)) [some (.imm (toldD ws sg)), some (.imm (.bl odd)), some (.imm (.int n))] none = some (.int (if odd then n else 2 * n), none) := fun n hn => by
      have ht : mTst (mVar 1) [some (.imm (toldD ws sg)), some (.imm (.bl odd)), some (.imm (.int n))] none = some (odd, none) := mTst_of (ev_var rfl)
      unfold mIte
      rw [ht]
      simp only [Option.bind_some]
      cases odd with
      | true =>
        simp only [if_true]
        exact ev_var rfl
      | false =>
        simp only [Bool.false_eq_true, if_false]
        have : (2 : Int).natAbs.log2 + n.natAbs.log2 < 1000000 := by
          rcases h.sgn n hn with rfl | rfl | rfl <;> decide +kernel
        exact mOp2_of rfl (ev_varB rfl) (mulI_int this)
    have el := lc_of (vs := [2]) (mSeq_of (i2 none) (len_asT rfl)) (lc_rel (g := gNm 2) (t := mPure true) (m := mIte (mTst (mVar 1)) (mVar 2) (mOp2 mulI (mPure (.int 2)) (mVarB 2))) (fun n => D.int (if odd then n else 2 * n)) (paired_int sg) fun d n ed hn => ⟨_, rfl, rfl, by subst ed; exact hb n hn⟩)
    have et := mCall_of (f := tupleD) (n := mCons _ (mPure [])) (cons_of el rfl) (tuple_lst _)
    have hnum : (D.tup (sg.map fun n => D.int (if odd then n else 2 * n))).asT = some ((numsW odd sg).map D.int) := by
      unfold numsW
      cases odd with
      | true => rfl
      | false => show some _ = some _; simp
    have h0 : numsW odd sg ≠ [] := fun z => h.ne (by
      unfold numsW at z
      cases odd with
      | true => exact z
      | false => exact List.map_eq_nil_iff.mp z)
    have h2 : (∀ n ∈ numsW odd sg, N2 n) ∨ ∀ n ∈ numsW odd sg, n = -1 ∨ n = 1 := by
      unfold numsW
      cases odd with
      | true =>
        refine .inr fun n hn => ?_
        rcases h.sgn n hn with rfl | rfl | rfl
        · exact .inl rfl
        · exact absurd ⟨rfl, hn⟩ hc
        · exact .inr rfl
      | false =>
        refine .inl fun n hn => ?_
        obtain ⟨m, hm, rfl⟩ := List.mem_map.mp hn
        rcases h.sgn m hm with rfl | rfl | rfl
        · exact .inl rfl
        · exact .inr (.inl rfl)
        · exact .inr (.inr rfl)
    obtain ⟨d, e, hT⟩ := voters_ev h.ok.good h.ok.few hnum h0 h2 h.pl
    exact ⟨d, runP_rt rfl ((sSq_nx s1).trans ((sSq_nx s2).trans ((sSq_nx s3).trans (sRet_of (mCall_of (cons_of (i1 none) (cons_of et rfl)) e))))), .inr ⟨hc, hT⟩⟩
end K66
namespace K66
open PySem PyProof.Rows L2 Dv
variable {A : Ads} {ws : List (List Nat)} {sg : List Int}

/-! ### the margins -/
/-- the place of a word -/
def pl (x : List Nat) : List (List Nat) → Option Nat
  | [] => none
  | y :: r => if y = x then some 0 else (pl x r).map (· + 1)
theorem fIx_w (x : List Nat) : ∀ v : List (List Nat), fIx (wS x) (v.map wS) = pl x v
  | [] => rfl
  | y :: r => by
    rw [List.map_cons, fIx, pl, fIx_w x r]
    by_cases h : y = x
    · rw [if_pos h, if_pos (by rw [h])]
    · rw [if_neg h, if_neg (fun e => h (wS_inj e))]
theorem pl_mem {x : List Nat} : ∀ {v : List (List Nat)}, x ∈ v → ∃ j, pl x v = some j
  | y :: r, h => by
    rw [pl]
    by_cases e : y = x
    · exact ⟨0, if_pos e⟩
    · rw [if_neg e]
      rcases List.mem_cons.mp h with rfl | h
      · exact absurd rfl e
      · obtain ⟨j, hj⟩ := pl_mem h
        exact ⟨j + 1, by rw [hj]; rfl⟩
theorem idx_ev {x : List Nat} {v : List (List Nat)} {j : Nat} (h : pl x v = some j) : idxD (VD v) (wD x) = some (.int (j : Nat)) := by
  have e : v.map wD = (v.map wS).map D.str := by rw [List.map_map]; rfl
  show (strsD (v.map wD)).bind _ = _
  rw [e, strsD_str]
  simp only [Option.bind_some]
  rw [fIx_w, h]
  rfl
def plD (x : List Nat) (v : List (List Nat)) : Nat := (pl x v).getD 0
/-- what one voter says of a pair -/
def says (v : List (List Nat)) (p : List Nat × List Nat) : Int := if plD p.1 v < plD p.2 v then 1 else -1
def marg (vs : List (List (List Nat))) (p : List Nat × List Nat) : Int := (vs.map fun v => says v p).sum
theorem paired_VD (vs : List (List (List Nat))) : Paired (fun d v => d = VD v) (vs.map VD) vs := paired_mapL (e := VD) (fun _ => rfl) vs
theorem ints_map (l : List Int) : intsD (l.map D.int) = some l := by
  induction l with
  | nil => rfl
  | cons n l ih => show (intsD (l.map D.int)).map (n :: ·) = _; rw [ih]; rfl
theorem marg_ev {d : D} {vs : List (List (List Nat))} (hT : Tp d (vs.map VD)) (hl : ws.length ≤ 8) (hm : ∀ v ∈ vs, ∀ w ∈ ws, w ∈ v) : f_law_tg_margins [WD' ws, d] = some (.tup (((pairsL ws).map (marg vs)).map D.int)) := by
  let Inv : List D → Lo → Prop := fun acc ρ => True
  have hpl : (pairsL ws).length ≤ 64 := by
    have h1 := pairsL_len ws
    have : ws.length * ws.length ≤ 8 * 8 := Nat.mul_le_mul hl hl
    omega
  have go : ∀ (ps : List (List Nat × List Nat)) (acc : List D) (x3 x4 : Option LV), (∀ p ∈ ps, p.1 ∈ ws ∧ p.2 ∈ ws) → acc.length + ps.length ≤ 1000 → ∃ y3 y4,
      forGo (gTp 2 (gCns (gNm 3) (gCns (gNm 4) gNl))) (sApp 2 (mCall sumD (mCons (mLc (mSeq (mVar 1)) [5] (gNm 5) (mPure true) (mIte (mTst (mOp2 ltD (mOp2 idxD (mVarB 5) (mVarB 3)) (mOp2 idxD (mVarB 5) (mVarB 4)))) (mPure (.int 1)) (mOp1 negD (mPure (.int 1))))) (mPure [])))) (ps.map fun p => pT (wD p.1, wD p.2)) [some (.imm (WD' ws)), some (.imm d), some (.own (.lst acc)), x3, x4, none] none =
        some (.nx, [some (.imm (WD' ws)), some (.imm d), some (.own (.lst (acc ++ (ps.map (marg vs)).map D.int))), y3, y4, none], none) := by
    intro ps
    induction ps with
    | nil => intro acc x3 x4 _ _; exact ⟨x3, x4, by simp [forGo]⟩
    | cons p ps ih =>
      intro acc x3 x4 hp hacc
      rw [List.length_cons] at hacc
      obtain ⟨h1, h2⟩ := hp p List.mem_cons_self
      obtain ⟨y3, y4, e⟩ := ih (acc ++ [.int (marg vs p)]) (some (.imm (wD p.1))) (some (.imm (wD p.2))) (fun q hq => hp q (List.mem_cons_of_mem _ hq)) (by rw [List.length_append, List.length_singleton]; omega)
      refine ⟨y3, y4, ?_⟩
      let ρ : Lo := [some (.imm (WD' ws)), some (.imm d), some (.own (.lst acc)), some (.imm (wD p.1)), some (.imm (wD p.2)), none]
      have el := lc_of (mi := mSeq (mVar 1)) (vs := [5]) (ρ := ρ) (S := none) (mSeq_of (ev_var rfl) (len_asT hT.asT))
        (lc_rel (g := gNm 5) (t := mPure true) (m := mIte (mTst (mOp2 ltD (mOp2 idxD (mVarB 5) (mVarB 3)) (mOp2 idxD (mVarB 5) (mVarB 4)))) (mPure (.int 1)) (mOp1 negD (mPure (.int 1)))) (fun v => D.int (says v p)) (paired_VD vs) fun x v ed hv => ⟨_, rfl, rfl, by
          subst ed
          obtain ⟨i, hi⟩ := pl_mem (hm v hv _ h1)
          obtain ⟨j, hj⟩ := pl_mem (hm v hv _ h2)
          have et : mTst (mOp2 ltD (mOp2 idxD (mVarB 5) (mVarB 3)) (mOp2 idxD (mVarB 5) (mVarB 4))) [some (.imm (WD' ws)), some (.imm d), some (.own (.lst acc)), some (.imm (wD p.1)), some (.imm (wD p.2)), some (.imm (VD v))] none = some (decide ((i : Int) < (j : Int)), none) :=
            mTst_of (mOp2_of (mOp2_of (ev_varB rfl) (ev_varB rfl) (idx_ev hi)) (mOp2_of (ev_varB rfl) (ev_varB rfl) (idx_ev hj)) (ltD_int _ _))
          have es : says v p = if i < j then 1 else -1 := by unfold says plD; rw [hi, hj]; rfl
          rw [es]
          refine Eq.trans (b := mIte (mTst (mOp2 ltD (mOp2 idxD (mVarB 5) (mVarB 3)) (mOp2 idxD (mVarB 5) (mVarB 4)))) (mPure (.int 1)) (mOp1 negD (mPure (.int 1))) [some (.imm (WD' ws)), some (.imm d), some (.own (.lst acc)), some (.imm (wD p.1)), some (.imm (wD p.2)), some (.imm (VD v))] none) rfl ?_
          unfold mIte
          rw [et]
          simp only [Option.bind_some]
          by_cases hij : i < j
          · rw [if_pos (decide_eq_true (by omega)), if_pos hij]; rfl
          · rw [if_neg (by simp; omega), if_neg hij]; rfl⟩)
      have esum : sumD [.lst (vs.map fun v => D.int (says v p))] = some (.int (marg vs p)) := by
        have : (vs.map fun v => D.int (says v p)) = (vs.map fun v => says v p).map D.int := by rw [List.map_map]; rfl
        rw [this]
        show (intsD ((vs.map fun v => says v p).map D.int)).map _ = _
        rw [ints_map]; rfl
      have ea := app_of (i := 2) (ρ := ρ) rfl (mCall_of (n := mCons _ (mPure [])) (cons_of el rfl) esum) (by omega)
      rw [List.map_cons]
      show Option.bind (some [some (LV.imm (WD' ws)), some (LV.imm d), some (LV.own (.lst acc)), some (LV.imm (wD p.1)), some (LV.imm (wD p.2)), none]) _ = _
      simp only [Option.bind_some]
      rw [ea]
      refine Eq.trans e ?_
      simp
  obtain ⟨y3, y4, e⟩ := go (pairsL ws) [] none none (fun p hp => pairsL_mem hp) (by simp; omega)
  have s1 : sSetF 2 (mLst (mPure [])) (startL 6 [WD' ws, d]) none = some (.nx, [some (.imm (WD' ws)), some (.imm d), some (.own (.lst [])), none, none, none], none) := rfl
  have ep : mSeq (mCall f_law_tg_pairs (mCons (mVar 0) (mPure []))) [some (.imm (WD' ws)), some (.imm d), some (.own (.lst [])), none, none, none] none = some ((pairsL ws).map fun p => pT (wD p.1, wD p.2), none) := by
    refine mSeq_of (mCall_of (cons_of (ev_var rfl) rfl) (law_pairs_ev (by rw [List.length_map]; omega))) ?_
    rw [pairsL_map, List.map_map]
    rfl
  have s2 := for_of ep e
  exact runP_rt rfl ((sSq_nx s1).trans ((sSq_nx s2).trans (sRet_of (mCall_of (n := mCons _ (mPure [])) (cons_of (ev_varO rfl) rfl) (tuple_lst _)))))
end K66
namespace K66
open PySem PyProof.Rows L2 Dv
variable {A : Ads} {ws : List (List Nat)} {sg : List Int}

theorem ne_dp {n : Nat} {d : D} (h : DP n d) (hn : n ≤ 64) : neD d d = some (.bl false) := by
  have h' := h
  obtain ⟨p, hp, hc, _⟩ := h'
  obtain ⟨p1, q1, e1, e2, _, e4⟩ := eq_dp h h hn
  rw [hp] at e1 e2
  cases e1; cases e2
  rw [e4, PySem.SeqAt.eqv_refl _ hc]; rfl
theorem eq_dp' {n : Nat} {d : D} (h : DP n d) (hn : n ≤ 64) : eqD d d = some (.bl true) := by
  have h' := h
  obtain ⟨p, hp, hc, _⟩ := h'
  obtain ⟨p1, q1, e1, e2, e4, _⟩ := eq_dp h h hn
  rw [hp] at e1 e2
  cases e1; cases e2
  rw [e4, PySem.SeqAt.eqv_refl _ hc]
theorem sort_VD (v : List (List Nat)) : sortSD [VD v] = some (.lst ((sortS (v.map wS)).map .str)) := by
  have e : v.map wD = (v.map wS).map D.str := by rw [List.map_map]; rfl
  show (strsD (v.map wD)).map _ = _
  rw [e, strsD_str]; rfl
theorem sort_perm (h : WsOk ws) {v : List (List Nat)} (hp : v.Perm ws) : sortS (v.map wS) = ws.map wS := (sortS_eq (hp.map wS).symm h.srt).symm
theorem sort_v (h : WsOk ws) {v : List (List Nat)} (hp : v.Perm ws) : sortSD [VD v] = some (.lst (ws.map wD)) := by
  rw [sort_VD, sort_perm h hp, List.map_map]; rfl
theorem set_v {v : List (List Nat)} (hn : v.Nodup) (hl : v.length ≤ 1000) : lenSetS (VD v) = some (.int (v.length : Int)) := by
  have e : v.map wD = (v.map wS).map D.str := by rw [List.map_map]; rfl
  show (strsD (v.map wD)).bind _ = _
  rw [e, strsD_str]
  simp only [Option.bind_some]
  have hnd : (v.map wS).Nodup := List.Pairwise.map wS (fun a b hab e => hab (wS_inj e)) hn
  rw [if_pos (by rw [List.length_map]; exact hl), dedF_nd hnd, List.length_map]
theorem lenVD (v : List (List Nat)) : lenD [VD v] = some (.int (v.length : Int)) := by rw [len_items rfl, List.length_map]
theorem are_voters_ev (h : WsOk ws) (h5 : ws.length ≤ 5) {d : D} {vs : List (List (List Nat))} (hT : Tp d (vs.map VD)) (h0 : vs ≠ []) (hl : vs.length ≤ 300) (hp : ∀ v ∈ vs, v.Perm ws) : f_law_tg_are_voters [d] = some (.bl true) := by
  obtain ⟨v0, vr, rfl⟩ := List.exists_cons_of_ne_nil h0
  have h2 := h.two
  have i0 : ∀ x1 x2 S, mOp2 ixD (mVarB 0) (mPure (.int 0)) [some (.imm d), x1, x2] S = some (VD v0, S) := fun x1 x2 S => mOp2_of (ev_varB rfl) rfl (ix_nat (n := 0) (len_asT hT.asT) rfl)
  have a1 : mTst (mOp1 (isiD "tuple") (mVarB 0)) [some (.imm d), none, none] none = some (true, none) := mTst_of (mOp1_of (ev_varB rfl) (isi_asT hT.asT))
  have hlen : lenD [d] = some (.int ((v0 :: vr).length : Int)) := by rw [len_items (len_asT hT.asT), List.length_map]
  have a2 : mTst (mChn leD leD (mPure (.int 1)) (mCall lenD (mCons (mVarB 0) (mPure []))) (mPure (.int 300))) [some (.imm d), none, none] none = some (true, none) :=
    mTst_of (chn_of rfl (mCall_of (cons_of (ev_varB rfl) rfl) hlen) rfl (by rw [leD_int, decide_eq_true (by rw [List.length_cons]; omega)]) (by rw [leD_int, decide_eq_true (by omega)]))
  have s1 := sIf_f (m := sRet (mPure (.bl false))) (mOr_f (not_of a1) (not_of a2))
  have step : ∀ v ∈ v0 :: vr, ∀ x2 : Option LV, x2 = none → (sSq (sIf (mOr (mNot (mTst (mOp1 (isiD "tuple") (mVarB 1)))) (mOr (mTst (mOp2 neD (mLc (mSeq (mVar 1)) [2] (gNm 2) (mNot (mTst (mCall f_law_is_word (mCons (mVar 2) (mPure []))))) (mPure (.int 1))) (mLst (mPure [])))) (mTst (mOp2 neD (mOp1 lenSetS (mVarB 1)) (mCall lenD (mCons (mVarB 1) (mPure []))))))) (sRet (mPure (.bl false))) sNil)
      (sIf (mTst (mOp2 neD (mCall sortSD (mCons (mVarB 1) (mPure []))) (mCall sortSD (mCons (mOp2 ixD (mVarB 0) (mPure (.int 0))) (mPure []))))) (sRet (mPure (.bl false))) sNil)) [some (.imm d), some (.imm (VD v)), x2] none = some (.nx, [some (.imm d), some (.imm (VD v)), x2], none) := fun v hv x2 hx2 => by
    subst hx2
    have hpv := hp v hv
    have hgv : ∀ w ∈ v, GWd w := fun w hw => h.good w (hpv.mem_iff.mp hw)
    have b1 : mTst (mOp1 (isiD "tuple") (mVarB 1)) [some (.imm d), some (.imm (VD v)), none] none = some (true, none) := mTst_of (mOp1_of (ev_varB rfl) (isi_tx _))
    have el := lc_of (mi := mSeq (mVar 1)) (vs := [2]) (ρ := [some (.imm d), some (.imm (VD v)), none]) (S := none) (mSeq_of (ev_var rfl) rfl)
      (lc_if (g := gNm 2) (t := mNot (mTst (mCall f_law_is_word (mCons (mVar 2) (mPure []))))) (m := mPure (.int 1)) (fun _ => false) (fun _ => D.int 1) (paired_mapL (R := fun d w => d = wD w) (e := wD) (fun _ => rfl) v) fun x w ed hw => ⟨_, rfl, by subst ed; exact not_of (a := true) (mTst_of (mCall_of (cons_of (ev_var rfl) rfl) (lisw_ev (hgv w hw)))), fun z => by cases z⟩)
    have ef : (v.filter fun _ => false) = [] := by simp
    rw [ef, List.map_nil] at el
    have b2 := mTst_of (mOp2_of (f := neD) (mb := mLst (mPure [])) el rfl ne_nil)
    have hvl : v.length ≤ 8 := by rw [hpv.length_eq]; omega
    have b3 : mTst (mOp2 neD (mOp1 lenSetS (mVarB 1)) (mCall lenD (mCons (mVarB 1) (mPure [])))) [some (.imm d), some (.imm (VD v)), none] none = some (false, none) := by
      have := mTst_of (mOp2_of (mOp1_of (f := lenSetS) (ρ := [some (.imm d), some (.imm (VD v)), none]) (S := none) (m := mVarB 1) (ev_varB rfl) (set_v (hpv.nodup_iff.mpr h.nd) (by omega))) (mCall_of (n := mCons (mVarB 1) (mPure [])) (cons_of (ev_varB rfl) rfl) (lenVD v)) (neD_int _ _))
      rw [decide_eq_false (by simp)] at this
      exact this
    have t1 := sIf_f (m := sRet (mPure (.bl false))) (mOr_f (not_of b1) (mOr_f b2 b3))
    have b4 : mTst (mOp2 neD (mCall sortSD (mCons (mVarB 1) (mPure []))) (mCall sortSD (mCons (mOp2 ixD (mVarB 0) (mPure (.int 0))) (mPure [])))) [some (.imm d), some (.imm (VD v)), none] none = some (false, none) :=
      mTst_of (mOp2_of (mCall_of (cons_of (ev_varB rfl) rfl) (sort_v h hpv)) (mCall_of (cons_of (i0 _ _ none) rfl) (sort_v h (hp v0 List.mem_cons_self))) (ne_dp (dp_lst (dp_ws h.good 1)) (by omega)))
    exact (sSq_nx t1).trans (sIf_f b4)
  obtain ⟨ρ', e, ⟨x1, hρ⟩⟩ := for_fold (g := gNm 1) (S := none) (fun (_ : Unit) ρ => ∃ x1, ρ = [some (.imm d), x1, none]) (fun u _ => u) (paired_VD (v0 :: vr)) (fun x v u ρ ed hv ⟨x1, hρ⟩ => by
    subst ed hρ
    exact ⟨_, .nx, _, rfl, step v hv none rfl, .inl rfl, _, rfl⟩) () [some (.imm d), none, none] ⟨none, rfl⟩
  subst hρ
  have s2 := for_of (mi := mSeq (mVar 0)) (ρ := [some (.imm d), none, none]) (S := none) (mSeq_of (ev_var rfl) (len_asT hT.asT)) e
  have c1 : mChn leD leD (mPure (.int 2)) (mCall lenD (mCons (mOp2 ixD (mVarB 0) (mPure (.int 0))) (mPure []))) (mPure (.int 5)) [some (.imm d), x1, none] none = some (.bl true, none) := by
    have hv0 := (hp v0 List.mem_cons_self).length_eq
    exact chn_of rfl (mCall_of (cons_of (i0 _ _ none) rfl) (lenVD v0)) rfl (by rw [leD_int, decide_eq_true (by omega)]) (by rw [leD_int, decide_eq_true (by omega)])
  exact runP_rt rfl ((sSq_nx s1).trans ((sSq_nx s2).trans (sRet_of c1)))
end K66
namespace K66
open PySem PyProof.Rows L2 Dv

/-! ### the voters' arithmetic, on places -/
section
variable {α β : Type} [DecidableEq α] [DecidableEq β]
def plG (x : α) : List α → Option Nat
  | [] => none
  | y :: r => if y = x then some 0 else (plG x r).map (· + 1)
def saysG (v : List α) (p : α × α) : Int := if (plG p.1 v).getD 0 < (plG p.2 v).getD 0 then 1 else -1
def restG (l : List α) (x y : α) : List α := l.filter fun w => decide (w ∉ [x, y])
def vxG (l : List α) (x y : α) : List α := [x, y] ++ restG l x y
def vyG (l : List α) (x y : α) : List α := (restG l x y).reverse ++ [x, y]
def InjOn (f : α → β) (l : List α) : Prop := ∀ a ∈ l, ∀ b ∈ l, f a = f b → a = b
theorem plG_map {f : α → β} {L : List α} (hf : InjOn f L) {x : α} (hx : x ∈ L) : ∀ {v : List α}, (∀ a ∈ v, a ∈ L) → plG (f x) (v.map f) = plG x v
  | [], _ => rfl
  | y :: r, h => by
    rw [List.map_cons, plG, plG, plG_map hf hx fun a ha => h a (List.mem_cons_of_mem _ ha)]
    by_cases e : y = x
    · rw [if_pos e, if_pos (by rw [e])]
    · rw [if_neg e, if_neg fun z => e (hf _ (h y List.mem_cons_self) _ hx z)]
theorem saysG_map {f : α → β} {L : List α} (hf : InjOn f L) {p : α × α} (h1 : p.1 ∈ L) (h2 : p.2 ∈ L) {v : List α} (h : ∀ a ∈ v, a ∈ L) : saysG (v.map f) (f p.1, f p.2) = saysG v p := by
  unfold saysG
  rw [plG_map hf h1 h, plG_map hf h2 h]
theorem restG_map {f : α → β} {L : List α} (hf : InjOn f L) {x y : α} (hx : x ∈ L) (hy : y ∈ L) : restG (L.map f) (f x) (f y) = (restG L x y).map f := by
  unfold restG
  rw [List.filter_map]
  congr 1
  refine List.filter_congr fun a ha => ?_
  show decide (f a ∉ [f x, f y]) = decide (a ∉ [x, y])
  apply decide_eq_decide.mpr
  simp only [List.mem_cons, List.not_mem_nil, or_false, not_or]
  exact ⟨fun h => ⟨fun e => h.1 (by rw [e]), fun e => h.2 (by rw [e])⟩, fun h => ⟨fun e => h.1 (hf _ ha _ hx e), fun e => h.2 (hf _ ha _ hy e)⟩⟩
theorem vxG_map {f : α → β} {L : List α} (hf : InjOn f L) {x y : α} (hx : x ∈ L) (hy : y ∈ L) : vxG (L.map f) (f x) (f y) = (vxG L x y).map f ∧ vyG (L.map f) (f x) (f y) = (vyG L x y).map f := by
  unfold vxG vyG
  rw [restG_map hf hx hy]
  simp
theorem restG_sub {L : List α} {x y : α} (hx : x ∈ L) (hy : y ∈ L) : (∀ a ∈ vxG L x y, a ∈ L) ∧ ∀ a ∈ vyG L x y, a ∈ L := by
  have h1 : ∀ a ∈ restG L x y, a ∈ L := fun a ha => (List.mem_filter.mp ha).1
  have h2 : ∀ a ∈ [x, y], a ∈ L := fun a ha => by
    simp only [List.mem_cons, List.not_mem_nil, or_false] at ha
    rcases ha with rfl | rfl <;> assumption
  exact ⟨fun a ha => (List.mem_append.mp ha).elim (h2 a) (h1 a), fun a ha => (List.mem_append.mp ha).elim (fun h => h1 a (List.mem_reverse.mp h)) (h2 a)⟩
end
/-- what is to be checked for n places -/
def chkN (n : Nat) : Bool :=
  (pairsL (List.range n)).all (fun p => decide (saysG (List.range n) p = 1) && (decide (saysG (List.range n).reverse p = -1) && (decide (p.1 ≠ p.2) && (pairsL (List.range n)).all (fun z =>
    decide (saysG (vxG (List.range n) z.1 z.2) p + saysG (vyG (List.range n) z.1 z.2) p = if p = z then 2 else 0) && decide (saysG (vxG (List.range n) z.2 z.1) p + saysG (vyG (List.range n) z.2 z.1) p = if p = z then -2 else 0))))) &&
  decide (pairsL (List.range n)).Nodup
theorem chk_all : (List.range 6).all chkN = true := by decide +kernel
theorem pl_G (x : List Nat) : ∀ v : List (List Nat), pl x v = plG x v
  | [] => rfl
  | y :: r => by rw [pl, plG, pl_G x r]
theorem says_G (v : List (List Nat)) (p : List Nat × List Nat) : says v p = saysG v p := by
  unfold says saysG plD
  rw [pl_G, pl_G]
theorem rest_G (ws : List (List Nat)) (x y : List Nat) : restW ws x y = restG ws x y := List.filter_congr fun a _ => decide_eq_decide.mpr Iff.rfl
theorem vx_G (ws : List (List Nat)) (x y : List Nat) : vxW ws x y = vxG ws x y ∧ vyW ws x y = vyG ws x y := by
  unfold vxW vyW vxG vyG
  rw [rest_G]
  exact ⟨rfl, rfl⟩
variable {ws : List (List Nat)} {sg : List Int}
theorem as_range (ws : List (List Nat)) : ws = (List.range ws.length).map fun i => ws.getD i [] := by
  apply List.ext_getElem?
  intro i
  rw [List.getElem?_map]
  by_cases h : i < ws.length
  · rw [List.getElem?_range h, List.getElem?_eq_getElem h]
    simp [List.getD_eq_getElem?_getD, List.getElem?_eq_getElem h]
  · rw [List.getElem?_eq_none (by omega), List.getElem?_eq_none (by simpa using h)]
    rfl
theorem inj_range (hn : ws.Nodup) : InjOn (fun i => ws.getD i []) (List.range ws.length) := fun a ha b hb e => by
  have ha := List.mem_range.mp ha
  have hb := List.mem_range.mp hb
  simp only [List.getD_eq_getElem?_getD, List.getElem?_eq_getElem ha, List.getElem?_eq_getElem hb, Option.getD_some] at e
  exact (List.getElem_inj hn).mp e
/-- what two voters say of a pair -/
theorem two_says (hn : ws.Nodup) (h5 : ws.length ≤ 5) {p z : List Nat × List Nat} (hp : p ∈ pairsL ws) (hz : z ∈ pairsL ws) :
    says ws p = 1 ∧ says ws.reverse p = -1 ∧ p.1 ≠ p.2 ∧ says (vxW ws z.1 z.2) p + says (vyW ws z.1 z.2) p = (if p = z then 2 else 0) ∧ says (vxW ws z.2 z.1) p + says (vyW ws z.2 z.1) p = (if p = z then -2 else 0) := by
  have hi := inj_range hn
  have hr := as_range ws
  generalize hf : (fun i => ws.getD i []) = f at *
  have hc := List.all_eq_true.mp chk_all ws.length (List.mem_range.mpr (by omega))
  unfold chkN at hc
  rw [Bool.and_eq_true] at hc
  generalize List.range ws.length = L at *
  have hpL : pairsL ws = (pairsL L).map fun q => (f q.1, f q.2) := by rw [hr, pairsL_map]
  rw [hpL] at hp hz
  obtain ⟨q, hq, rfl⟩ := List.mem_map.mp hp
  obtain ⟨y, hy, rfl⟩ := List.mem_map.mp hz
  obtain ⟨q1, q2⟩ := pairsL_mem hq
  obtain ⟨y1, y2⟩ := pairsL_mem hy
  have h1 := List.all_eq_true.mp hc.1 q hq
  simp only [Bool.and_eq_true, decide_eq_true_eq] at h1
  obtain ⟨a1, a2, a3, a4⟩ := h1
  have h2 := List.all_eq_true.mp a4 y hy
  simp only [Bool.and_eq_true, decide_eq_true_eq] at h2
  have e1 := vxG_map hi y1 y2
  have e2 := vxG_map hi y2 y1
  have s1 := restG_sub y1 y2
  have s2 := restG_sub y2 y1
  have hqy : ((f q.1, f q.2) = (f y.1, f y.2)) ↔ q = y := by
    constructor
    · intro e
      have e' := Prod.mk.inj e
      exact Prod.ext (hi _ q1 _ y1 e'.1) (hi _ q2 _ y2 e'.2)
    · rintro rfl; rfl
  have sub : ∀ a ∈ L, a ∈ L := fun _ h => h
  refine ⟨?_, ?_, fun e => a3 (hi _ q1 _ q2 e), ?_, ?_⟩
  · rw [says_G, hr, saysG_map hi q1 q2 sub]; exact a1
  · rw [says_G, hr, ← List.map_reverse, saysG_map hi q1 q2 fun a h => List.mem_reverse.mp h]; exact a2
  · rw [says_G, says_G, (vx_G _ _ _).1, (vx_G _ _ _).2, hr, e1.1, e1.2, saysG_map hi q1 q2 s1.1, saysG_map hi q1 q2 s1.2, h2.1]
    simp only [hqy]
  · rw [says_G, says_G, (vx_G _ _ _).1, (vx_G _ _ _).2, hr, e2.1, e2.2, saysG_map hi q1 q2 s2.1, saysG_map hi q1 q2 s2.2, h2.2]
    simp only [hqy]
theorem inj_nd {α β : Type} {f : α → β} : ∀ {l : List α}, (∀ a ∈ l, ∀ b ∈ l, f a = f b → a = b) → l.Nodup → (l.map f).Nodup
  | [], _, _ => List.nodup_nil
  | a :: l, hi, h => by
    have h' := List.nodup_cons.mp h
    rw [List.map_cons]
    refine List.nodup_cons.mpr ⟨fun z => ?_, inj_nd (fun x hx y hy => hi x (List.mem_cons_of_mem _ hx) y (List.mem_cons_of_mem _ hy)) h'.2⟩
    obtain ⟨b, hb, e⟩ := List.mem_map.mp z
    have := hi b (List.mem_cons_of_mem _ hb) a List.mem_cons_self e
    rw [this] at hb
    exact h'.1 hb
theorem pairs_nd (hn : ws.Nodup) (h5 : ws.length ≤ 5) : (pairsL ws).Nodup := by
  have hi := inj_range hn
  have hr := as_range ws
  generalize hf : (fun i => ws.getD i []) = f at *
  have hc := List.all_eq_true.mp chk_all ws.length (List.mem_range.mpr (by omega))
  unfold chkN at hc
  rw [Bool.and_eq_true, decide_eq_true_eq] at hc
  generalize List.range ws.length = L at *
  rw [hr, pairsL_map]
  refine inj_nd (fun a ha b hb e => ?_) hc.2
  have e' := Prod.mk.inj e
  exact Prod.ext (hi _ (pairsL_mem ha).1 _ (pairsL_mem hb).1 e'.1) (hi _ (pairsL_mem ha).2 _ (pairsL_mem hb).2 e'.2)
/-! ### the margins of the voters -/
theorem marg_app (us vs : List (List (List Nat))) (p) : marg (us ++ vs) p = marg us p + marg vs p := by
  unfold marg
  rw [List.map_append, List.sum_append]
theorem ev_marg (hn : ws.Nodup) (h5 : ws.length ≤ 5) {p : List Nat × List Nat} {z : (List Nat × List Nat) × Int} (hp : p ∈ pairsL ws) (hz : z.1 ∈ pairsL ws) (h2 : N2 z.2) : marg (evW ws z) p = if p = z.1 then z.2 else 0 := by
  obtain ⟨_, _, _, a, b⟩ := two_says hn h5 hp hz
  obtain ⟨q, n⟩ := z
  unfold evW
  rcases h2 with h | h | h <;> (have h : n = _ := h; subst h)
  · show marg [vxW ws q.2 q.1, vyW ws q.2 q.1] p = _
    unfold marg
    simp only [List.map_cons, List.map_nil, List.sum_cons, List.sum_nil, Int.add_zero]
    exact b
  · show marg [] p = _
    unfold marg
    simp
  · show marg [vxW ws q.1 q.2, vyW ws q.1 q.2] p = _
    unfold marg
    simp only [List.map_cons, List.map_nil, List.sum_cons, List.sum_nil, Int.add_zero]
    exact a
theorem zip_marg (hn : ws.Nodup) (h5 : ws.length ≤ 5) {p : List Nat × List Nat} (hp : p ∈ pairsL ws) : ∀ (ps : List (List Nat × List Nat)) (ns : List Int), (∀ q ∈ ps, q ∈ pairsL ws) → (∀ n ∈ ns, N2 n) → marg ((ps.zip ns).flatMap (evW ws)) p = ((ps.zip ns).map fun z => if p = z.1 then z.2 else 0).sum
  | [], ns, _, _ => rfl
  | q :: ps, [], _, _ => rfl
  | q :: ps, n :: ns, h, h2 => by
    rw [List.zip_cons_cons, List.flatMap_cons, marg_app, List.map_cons, List.sum_cons, zip_marg hn h5 hp ps ns (fun x hx => h x (List.mem_cons_of_mem _ hx)) (fun x hx => h2 x (List.mem_cons_of_mem _ hx)),
      ev_marg hn h5 hp (z := (q, n)) (h q List.mem_cons_self) (h2 n List.mem_cons_self)]
theorem pick_sum : ∀ (ps : List (List Nat × List Nat)) (ns : List Int), ps.Nodup → ns.length = ps.length → (ps.map fun p => ((ps.zip ns).map fun z => if p = z.1 then z.2 else 0).sum) = ns
  | [], ns, _, h => by rw [List.eq_nil_of_length_eq_zero h]; rfl
  | q :: ps, [], _, h => by simp at h
  | q :: ps, n :: ns, hn, h => by
    have hq := List.nodup_cons.mp hn
    have ih := pick_sum ps ns hq.2 (by simpa using h)
    have h0 : ∀ (qs : List (List Nat × List Nat)) (ms : List Int), q ∉ qs → ((qs.zip ms).map fun z => if q = z.1 then z.2 else 0).sum = 0 := fun qs => by
      induction qs with
      | nil => intro ms _; rfl
      | cons a qs ih2 =>
        intro ms hm
        cases ms with
        | nil => rfl
        | cons m ms =>
          rw [List.zip_cons_cons, List.map_cons, List.sum_cons, ih2 ms (fun z => hm (List.mem_cons_of_mem _ z)), if_neg (fun e => hm (by have e : q = a := e; rw [e]; exact List.mem_cons_self))]
          rfl
    rw [List.map_cons, List.zip_cons_cons]
    congr 1
    · rw [List.map_cons, List.sum_cons, if_pos rfl, h0 ps ns hq.1, Int.add_zero]
    · refine Eq.trans (List.map_congr_left fun p hp => ?_) ih
      rw [List.map_cons, List.sum_cons, if_neg (fun e => hq.1 (by have e : p = q := e; rw [← e]; exact hp)), Int.zero_add]
theorem voteE_marg (hn : ws.Nodup) (h5 : ws.length ≤ 5) {ns : List Int} (hl : ns.length = (pairsL ws).length) (h2 : ∀ n ∈ ns, N2 n) : (pairsL ws).map (marg (voteE ws ns)) = ns := by
  have key : (pairsL ws).map (marg (evenW ws ns)) = ns := by
    refine Eq.trans (List.map_congr_left fun p hp => ?_) (pick_sum (pairsL ws) ns (pairs_nd hn h5) hl)
    exact zip_marg hn h5 hp (pairsL ws) ns (fun q hq => hq) h2
  unfold voteE
  split
  · rename_i h0
    rw [h0] at key
    refine Eq.trans (List.map_congr_left fun p hp => ?_) key
    obtain ⟨a, b, _⟩ := two_says hn h5 hp hp
    unfold marg
    simp only [List.map_cons, List.map_nil, List.sum_cons, List.sum_nil]
    rw [a, b]
    rfl
  · exact key
end K66
namespace K66
open PySem PyProof.Rows L2 Dv
variable {ws : List (List Nat)} {sg : List Int}

theorem vx_perm (hn : ws.Nodup) {x y : List Nat} (hx : x ∈ ws) (hy : y ∈ ws) (hxy : x ≠ y) : (vxW ws x y).Perm ws ∧ (vyW ws x y).Perm ws := by
  have hr : (restW ws x y).Nodup := hn.filter _
  have hd : ∀ a ∈ [x, y], ∀ b ∈ restW ws x y, a ≠ b := fun a ha b hb e => by
    have := (List.mem_filter.mp hb).2
    rw [decide_eq_true_eq] at this
    exact this (e ▸ ha)
  have h2 : [x, y].Nodup := by simp [hxy]
  have h1 : (vxW ws x y).Perm ws := by
    refine (List.perm_ext_iff_of_nodup (List.nodup_append.mpr ⟨h2, hr, hd⟩) hn).mpr fun a => ?_
    constructor
    · intro ha
      rcases List.mem_append.mp ha with ha | ha
      · simp only [List.mem_cons, List.not_mem_nil, or_false] at ha
        rcases ha with rfl | rfl <;> assumption
      · exact (List.mem_filter.mp ha).1
    · intro ha
      by_cases h : a ∈ [x, y]
      · exact List.mem_append_left _ h
      · exact List.mem_append_right _ (List.mem_filter.mpr ⟨ha, decide_eq_true h⟩)
  refine ⟨h1, List.Perm.trans ?_ h1⟩
  exact ((List.reverse_perm _).append_right _).trans List.perm_append_comm
theorem evW_perm (hn : ws.Nodup) (h5 : ws.length ≤ 5) {z : (List Nat × List Nat) × Int} (hz : z.1 ∈ pairsL ws) : ∀ v ∈ evW ws z, v.Perm ws := fun v hv => by
  obtain ⟨_, _, hne, _⟩ := two_says hn h5 hz hz
  obtain ⟨h1, h2⟩ := pairsL_mem hz
  have a := vx_perm hn h1 h2 hne
  have b := vx_perm hn h2 h1 fun e => hne e.symm
  unfold evW at hv
  split at hv
  · cases hv
  · split at hv <;> (simp only [List.mem_cons, List.not_mem_nil, or_false] at hv; rcases hv with rfl | rfl)
    · exact a.1
    · exact a.2
    · exact b.1
    · exact b.2
theorem voteE_perm (hn : ws.Nodup) (h5 : ws.length ≤ 5) (ns : List Int) : ∀ v ∈ voteE ws ns, v.Perm ws := fun v hv => by
  unfold voteE at hv
  split at hv
  · simp only [List.mem_cons, List.not_mem_nil, or_false] at hv
    rcases hv with rfl | rfl
    · exact List.Perm.refl _
    · exact List.reverse_perm _
  · obtain ⟨z, hz, hv⟩ := List.mem_flatMap.mp hv
    exact evW_perm hn h5 (List.of_mem_zip (a := z.1) (b := z.2) hz).1 v hv
theorem voteE_ne (ws : List (List Nat)) (ns : List Int) : voteE ws ns ≠ [] := by
  unfold voteE
  split
  · simp
  · assumption
theorem voteE_even (ws : List (List Nat)) (ns : List Int) : (voteE ws ns).length % 2 = 0 := by
  have h : ∀ zs : List ((List Nat × List Nat) × Int), (zs.flatMap (evW ws)).length % 2 = 0 := fun zs => by
    induction zs with
    | nil => rfl
    | cons z zs ih =>
      rw [List.flatMap_cons, List.length_append]
      have : (evW ws z).length % 2 = 0 := by unfold evW; split <;> (try split) <;> simp
      omega
  unfold voteE
  split
  · simp
  · exact h _
/-- the sign of a number -/
def norm (n : Int) : Int := if n = 0 then 0 else if 0 < n then 1 else -1
theorem norm_map {l : List Int} {f : Int → Int} (h : ∀ n ∈ l, norm (f n) = n) : (l.map f).map norm = l := by
  rw [List.map_map]
  exact (List.map_congr_left h).trans (List.map_id' l)
structure VoteOk (ws : List (List Nat)) (sg : List Int) (odd : Bool) (vs : List (List (List Nat))) : Prop where
  ne : vs ≠ []
  few : vs.length ≤ 300
  perm : ∀ v ∈ vs, v.Perm ws
  marg : ((pairsL ws).map (marg vs)).map norm = sg
  odd : odd = true → vs.length % 2 = 1
theorem Fc.pl25 (h : Fc ws sg) : (pairsL ws).length ≤ 25 := by
  have h1 := pairsL_len ws
  have h2 := h.five
  have : ws.length * ws.length ≤ 5 * 5 := Nat.mul_le_mul h2 h2
  omega
theorem vote_ok (F : Fc ws sg) {odd : Bool} (hc : ¬(odd = true ∧ 0 ∈ sg)) : VoteOk ws sg odd (voteW ws (numsW odd sg)) := by
  have hn := F.ok.nd
  have h5 := F.five
  have h25 := F.pl25
  have h0 := F.ne
  cases odd with
  | false =>
    have hN : ∀ n ∈ sg.map (2 * ·), N2 n := fun n hn => by
      obtain ⟨m, hm, rfl⟩ := List.mem_map.mp hn
      rcases F.sgn m hm with rfl | rfl | rfl
      · exact .inl rfl
      · exact .inr (.inl rfl)
      · exact .inr (.inr rfl)
    have e : voteW ws (numsW false sg) = voteE ws (sg.map (2 * ·)) := by
      show voteW ws (sg.map (2 * ·)) = _
      unfold voteW
      rw [if_pos]
      cases sg with
      | nil => rfl
      | cons a r => show (2 * a) % 2 = 0; omega
    rw [e]
    have hv := voteE_len ws (sg.map (2 * ·))
    refine ⟨voteE_ne _ _, by omega, voteE_perm hn h5 _, ?_, fun z => by cases z⟩
    rw [voteE_marg hn h5 (by rw [List.length_map]; exact F.len) hN]
    exact norm_map fun n hn => by rcases F.sgn n hn with rfl | rfl | rfl <;> rfl
  | true =>
    have hO : ∀ n ∈ sg, n = -1 ∨ n = 1 := fun n hn => by
      rcases F.sgn n hn with h | h | h
      · exact .inl h
      · exact absurd ⟨rfl, h ▸ hn⟩ hc
      · exact .inr h
    have hN : ∀ n ∈ sg.map (· - 1), N2 n := fun n hn => by
      obtain ⟨m, hm, rfl⟩ := List.mem_map.mp hn
      rcases hO m hm with rfl | rfl
      · exact .inl rfl
      · exact .inr (.inl rfl)
    have hm := voteE_marg hn h5 (ns := sg.map (· - 1)) (by rw [List.length_map]; exact F.len) hN
    have hv := voteE_len ws (sg.map (· - 1))
    have he := voteE_even ws (sg.map (· - 1))
    have e : voteW ws (numsW true sg) = ws :: (if (sg.map (· - 1)).any (fun n => decide (n ≠ 0)) = true then voteE ws (sg.map (· - 1)) else []) := by
      show voteW ws sg = _
      unfold voteW
      rw [if_neg]
      cases sg with
      | nil => exact absurd rfl h0
      | cons a r =>
        show ¬ a % 2 = 0
        rcases hO a List.mem_cons_self with rfl | rfl <;> decide
    have m1 : ∀ p ∈ pairsL ws, says ws p = 1 := fun p hp => (two_says hn h5 hp hp).1
    have mc : ∀ (vs : List (List (List Nat))) (p), marg (ws :: vs) p = says ws p + marg vs p := fun vs p => by
      unfold K66.marg; rw [List.map_cons, List.sum_cons]
    rw [e]
    have fin : ∀ vs : List (List (List Nat)), (pairsL ws).map (marg vs) = sg.map (· - 1) → ((pairsL ws).map (marg (ws :: vs))).map norm = sg := fun vs h => by
      have : (pairsL ws).map (marg (ws :: vs)) = ((pairsL ws).map (marg vs)).map (1 + ·) := by
        rw [List.map_map]
        exact List.map_congr_left fun p hp => by rw [mc, m1 p hp]; rfl
      have e1 : (sg.map (· - 1)).map (1 + ·) = sg := by
        rw [List.map_map]
        exact (List.map_congr_left fun n _ => by show 1 + (n - 1) = n; omega).trans (List.map_id' sg)
      rw [this, h, e1]
      exact (List.map_congr_left fun n hn => by rcases hO n hn with rfl | rfl <;> rfl).trans (List.map_id' sg)
    by_cases hb : (sg.map (· - 1)).any (fun n => decide (n ≠ 0)) = true
    · rw [if_pos hb]
      refine ⟨by simp, by rw [List.length_cons]; omega, fun v hv => ?_, fin _ hm, fun _ => by rw [List.length_cons]; omega⟩
      rcases List.mem_cons.mp hv with rfl | hv
      · exact List.Perm.refl _
      · exact voteE_perm hn h5 _ v hv
    · rw [if_neg hb]
      refine ⟨by simp, by simp, fun v hv => ?_, fin [] ?_, fun _ => rfl⟩
      · rw [List.mem_singleton.mp hv]
      · have hz : ∀ n ∈ sg, n - 1 = 0 := fun n hn => by
          refine Classical.byContradiction fun h => hb (List.any_eq_true.mpr ⟨n - 1, List.mem_map.mpr ⟨n, hn, rfl⟩, decide_eq_true h⟩)
        have e1 : sg.map (· - 1) = List.replicate sg.length 0 := List.eq_replicate_iff.mpr ⟨by simp, fun x hx => by
          obtain ⟨n, hn, rfl⟩ := List.mem_map.mp hx
          exact hz n hn⟩
        rw [e1, F.len]
        exact List.eq_replicate_iff.mpr ⟨by simp, fun x hx => by
          obtain ⟨p, _, rfl⟩ := List.mem_map.mp hx
          rfl⟩
end K66
namespace K66
open PySem PyProof.Rows L2 Dv
variable {A : Ads} {ws : List (List Nat)} {sg : List Int}

theorem same_ev {x y : D} (h : Al 50 x y) (hz : szD y ≤ 100000) : f_law_same [x, y] = some (.bl true) := by
  obtain ⟨j, ρ', e⟩ := same_go (x := x) (y := y) 100000 [(x, y)] none none none none none (by show szDs [y] ≤ 100000; simp only [szDs]; omega) (Nat.le_refl _) (fun p hp => by
    rw [List.mem_singleton.mp hp]; exact h)
  have s1 : sSetF 2 (mLst (mCons (mTup (mCons (mVar 0) (mCons (mVar 1) (mPure [])))) (mPure []))) (startL 9 [x, y]) none = some (.nx, smLo x y (prs [(x, y)]) none none none none none, none) := rfl
  have s2 := sWh_of e
  exact runP_rt (S' := none) rfl ((sSq_nx s1).trans ((sSq_nx s2).trans (sRet_of rfl)))
theorem al_w {w : List Nat} (h : GWd w) (n : Nat) : Al n (wD w) (wD w) := .str n (sh_w h.2.2)
theorem al_VD {v : List (List Nat)} (h : ∀ w ∈ v, GWd w) (n : Nat) : Al (n + 1) (VD v) (VD v) := .tup (.inr (.inr rfl)) (.inr (.inr rfl)) rfl fun i d e h1 h2 => by
  rw [h1] at h2
  cases h2
  obtain ⟨w, hw, rfl⟩ := List.mem_map.mp (List.mem_of_getElem? h1)
  exact al_w (h w hw) n
theorem al_tp {d : D} {vs : List (List (List Nat))} (hT : Tp d (vs.map VD)) (h : ∀ v ∈ vs, ∀ w ∈ v, GWd w) : Al 50 d d := by
  have key : ∀ (i : Nat) (a b : D), (vs.map VD)[i]? = some a → (vs.map VD)[i]? = some b → Al 49 a b := fun i a b h1 h2 => by
    rw [h1] at h2
    cases h2
    obtain ⟨v, hv, rfl⟩ := List.mem_map.mp (List.mem_of_getElem? h1)
    exact al_VD (h v hv) 48
  rcases hT with rfl | rfl
  · exact .tup (.inr (.inr rfl)) (.inr (.inr rfl)) rfl key
  · exact .tup (.inl rfl) (.inl rfl) rfl key
theorem sz_VD (v : List (List Nat)) : szD (VD v) = 1 + v.length := by
  have : ∀ l : List (List Nat), szDs (l.map wD) = l.length := fun l => by
    induction l with
    | nil => simp [szDs]
    | cons a l ih => simp only [List.map_cons, szDs, ih, List.length_cons]; show szD (.str _) + _ = _; simp only [szD]; omega
  simp only [VD, szD, this]
theorem sz_tp {d : D} {vs : List (List (List Nat))} (hT : Tp d (vs.map VD)) {n : Nat} (h : ∀ v ∈ vs, v.length ≤ n) : szD d ≤ 1 + vs.length * (1 + n) := by
  have key : ∀ l : List (List (List Nat)), (∀ v ∈ l, v.length ≤ n) → szDs (l.map VD) ≤ l.length * (1 + n) := fun l => by
    induction l with
    | nil => intro _; simp [szDs]
    | cons a l ih =>
      intro hl
      have h1 := hl a List.mem_cons_self
      have h2 := ih fun v hv => hl v (List.mem_cons_of_mem _ hv)
      simp only [List.map_cons, szDs, sz_VD, List.length_cons, Nat.succ_mul]
      omega
  have := key vs h
  rcases hT with rfl | rfl <;> (simp only [szD]; omega)
/-- the package's answer compared with itself -/
theorem found_same (F : Fc ws sg) {odd : Bool} (hc : ¬(odd = true ∧ 0 ∈ sg)) {d : D} (hT : Tp d ((voteW ws (numsW odd sg)).map VD)) : f_law_same [d, d] = some (.bl true) := by
  have V := vote_ok F hc
  have hg : ∀ v ∈ voteW ws (numsW odd sg), ∀ w ∈ v, GWd w := fun v hv w hw => F.ok.good w ((V.perm v hv).mem_iff.mp hw)
  refine same_ev (al_tp hT hg) ?_
  have := sz_tp hT (n := 5) fun v hv => by rw [(V.perm v hv).length_eq]; exact F.five
  have h2 : (voteW ws (numsW odd sg)).length * (1 + 5) ≤ 300 * 6 := Nat.mul_le_mul V.few (by omega)
  omega
theorem non_same : f_law_same [.non, .non] = some (.bl true) := same_ev (.non 50) (by simp [szD])
/-! ### what is raised -/
theorem xOr_l {m n : XM} {ρ : Lo} {S : Sg} {p : Addr × Sg} (h : m ρ S = some p) : xOr m n ρ S = some p := by unfold xOr; rw [h]
theorem xOr_r {m n : XM} {ρ : Lo} {S : Sg} (h : m ρ S = none) : xOr m n ρ S = n ρ S := by unfold xOr; rw [h]
theorem xSq_nx {k : MS} {m : XM} {ρ ρ' : Lo} {S S' : Sg} (h : k ρ S = some (.nx, ρ', S')) : xSq k m ρ S = m ρ' S' := by unfold xSq; rw [h]; rfl
theorem xIf_of {t : MT} {m n : XM} {ρ : Lo} {S S1 : Sg} {b : Bool} (h : t ρ S = some (b, S1)) : xIf t m n ρ S = if b then m ρ S1 else n ρ S1 := by unfold xIf; rw [h]; rfl
theorem runX_of {k n : Nat} {m : XM} {ds : List D} {C : Addr} {S' : Sg} (hl : ds.length = k) (h : m (startL n ds) none = some (C, S')) : runX k n m ds = some C := by unfold runX; rw [if_pos hl, h]; rfl
theorem x_bad {v w : D} (h : f_is_duels A [v] = some (.bl false)) : x_duel_voters A [v, w] = some A.c_BadDuels :=
  runX_of (S' := none) rfl (xOr_l ((xIf_of (b := true) (not_of (a := false) (mTst_of (mCall_of (cons_of (ev_var rfl) rfl) h)))).trans rfl))
theorem x_odd (F : Fc ws sg) {w : D} (h : isiD "bool" w = some (.bl false)) : x_duel_voters A [toldD ws sg, w] = some A.c_BadOdd := by
  have t1 : mNot (mTst (mCall (f_is_duels A) (mCons (mVar 0) (mPure [])))) (startL 3 [toldD ws sg, w]) none = some (false, none) := not_of (a := true) (mTst_of (mCall_of (cons_of (ev_var rfl) rfl) (is_duels_ev F)))
  have t2 : mNot (mTst (mOp1 (isiD "bool") (mVarB 1))) (startL 3 [toldD ws sg, w]) none = some (true, none) := not_of (a := false) (mTst_of (mOp1_of (ev_varB rfl) h))
  exact runX_of (S' := none) rfl ((xOr_r ((xIf_of t1).trans rfl)).trans ((xSq_nx (sIf_f t1)).trans ((xIf_of t2).trans rfl)))
end K66
namespace K66
open PySem PyProof.Rows L2 Dv
variable {ns : List Int} {a : Addr}

def dec (s : Str) : List Nat := s.cps.toList.map (· - 97)
theorem dec_w (w : List Nat) : dec (wS w) = w := by
  show ((w.map (97 + ·)).toArray.toList).map (· - 97) = w
  rw [List.map_map]
  exact (List.map_congr_left fun n _ => by show 97 + n - 97 = n; omega).trans (List.map_id' w)
theorem adj {α : Type} {R : α → α → Prop} : ∀ {l : List α}, l.Pairwise R → ∀ p ∈ l.zip l.tail, R p.1 p.2
  | [], _, p, h => absurd h List.not_mem_nil
  | [x], _, p, h => absurd h List.not_mem_nil
  | x :: y :: r, hl, p, h => by
    have hl' := List.pairwise_cons.mp hl
    have h : p ∈ (x, y) :: (y :: r).zip r := h
    rcases List.mem_cons.mp h with rfl | h
    · exact hl'.1 y List.mem_cons_self
    · exact adj hl'.2 p h
theorem lt_of {x y : List Nat} (h : leS (wS x) (wS y) = true) (hn : x ≠ y) : Lt x y := by
  refine Classical.byContradiction fun h2 => ?_
  have h3 : leS (wS y) (wS x) = true := leS_iff.mpr (List.not_lt.mp h2)
  exact hn (wS_inj (leS_anti h h3))
theorem words_ok {gs : List (List Nat)} (hn : gs.Nodup) (hg : ∀ x ∈ gs, GWd x) (h2 : 2 ≤ gs.length) (h8 : gs.length ≤ 8) : ∃ ws, WsOk ws ∧ ws.length = gs.length ∧ (sortS (gs.map wS)).map D.str = ws.map wD := by
  have hp := sortS_perm (gs.map wS)
  have hs := sortS_le (gs.map wS)
  generalize sortS (gs.map wS) = ss at *
  have e1 : (ss.map dec).map wS = ss := by
    rw [List.map_map]
    refine (List.map_congr_left fun s hsm => ?_).trans (List.map_id' ss)
    obtain ⟨w, _, rfl⟩ := List.mem_map.mp (hp.mem_iff.mp hsm)
    show wS (dec (wS w)) = wS w
    rw [dec_w]
  have e2 : (ss.map dec).Perm gs := by
    have := hp.map dec
    rw [List.map_map] at this
    have e : gs.map (dec ∘ wS) = gs := (List.map_congr_left fun w _ => dec_w w).trans (List.map_id' gs)
    rwa [e] at this
  generalize ss.map dec = ws at *
  rw [← e1] at hs
  have hnd := e2.nodup_iff.mpr hn
  have hs' : ws.Pairwise (fun x y => leS (wS x) (wS y) = true) := List.pairwise_map.mp hs
  refine ⟨ws, ⟨fun w hw => hg w (e2.mem_iff.mp hw), by rw [e2.length_eq]; exact h2, by rw [e2.length_eq]; exact h8, ?_, hnd, hs⟩, e2.length_eq, by rw [← e1, List.map_map]; rfl⟩
  exact fun p hp => by
    have := adj (hs'.and hnd) p hp
    exact lt_of this.1 this.2
theorem rf_words {many : Nat} (h2 : 2 ≤ many) (h8 : many ≤ 8) : RF ns a (many * 274) f_law_words [.rng a, .int (many : Nat)] (fun d => ∃ ws, WsOk ws ∧ ws.length = many ∧ d = .lst (ws.map wD)) := fun c r ok ha hc => by
  subst ha
  obtain ⟨gs, r', e, hl, hn, hg, ok', l'⟩ := words_ev ok h8 hc
  obtain ⟨ws, hw, hwl, ew⟩ := words_ok hn hg (by omega) (by omega)
  exact ⟨_, r', e, ⟨ws, hw, by omega, by rw [ew]⟩, ok', l'⟩
end K66
namespace K66
open PySem PyProof.Rows L2 Dv
variable (A : Ads)
noncomputable def tB0 : MS := (sSet 3 (mCall tupleXD (mCons (mCallR f_law_words (mCons (mVar 1) (mCons (mOp2 addX (mPure (.int 2)) (mCallR f_law_draw (mCons (mVar 1) (mCons (mPure (.int 4)) (mPure []))))) (mPure [])))) (mPure []))))
noncomputable def tB1 : MS := (sSet 4 (mCallR f_law_pick (mCons (mVar 1) (mCons (mLst (mCons (mLst (mCons (mOp1 negD (mPure (.int 1))) (mCons (mPure (.int 1)) (mPure [])))) (mCons (mLst (mCons (mOp1 negD (mPure (.int 1))) (mCons (mPure (.int 0)) (mCons (mPure (.int 1)) (mPure []))))) (mCons (mLst (mCons (mPure (.int 0)) (mPure []))) (mCons (mLst (mCons (mPure (.int 1)) (mPure []))) (mPure [])))))) (mPure [])))))
noncomputable def tB2 : MS := (sSet 5 (mCall tupleXD (mCons (mLc (mSeq (mCall f_law_tg_pairs (mCons (mVar 3) (mPure [])))) [12] (gNm 12) (mPure true) (mCallR f_law_pick (mCons (mVar 1) (mCons (mVar 4) (mPure []))))) (mPure []))))
noncomputable def tB3 : MS := (sSet 6 (mTupX (mCons (mPure (.str "duels")) (mCons (mVar 3) (mCons (mVar 5) (mPure []))))))
noncomputable def tB4_0 : MS := (sSet 10 (mCall (f_duel_voters A) (mCons (mVar 6) (mCons (mVar 7) (mPure [])))))
noncomputable def tB4_1 : MS := (sIf (mOr (mNot (mTst (mCall f_law_same (mCons (mCallK0 (f_duel_voters A) [1, 0] (mCons (mVar 7) (mCons (mVar 6) (mPure [])))) (mCons (mVar 10) (mPure [])))))) (mTst (mOp2 neD (mOp2 isD (mVarB 10) (mPure .non)) (mAndV (mVar 7) (mOp2 inD (mPure (.int 0)) (mVarB 5)))))) (sRet (mPure (.bl false))) sNil)
noncomputable def tB4_2 : MS := (sIf (mTst (mOp2 isnotD (mVarB 10) (mPure .non))) (sSq (sSet 11 (mIte (mAnd (mTst (mCall f_law_tg_are_voters (mCons (mVar 10) (mPure [])))) (mTst (mOp2 eqD (mCall tupleXD (mCons (mCall sortSD (mCons (mOp2 ixD (mVarB 10) (mPure (.int 0))) (mPure []))) (mPure []))) (mVarB 3)))) (mCall f_law_tg_margins (mCons (mVar 3) (mCons (mVar 10) (mPure [])))) (mTupX (mPure [])))) (sIf (mOr (mTst (mOp2 neD (mCall tupleXD (mCons (mLc (mSeq (mVar 11)) [13] (gNm 13) (mPure true) (mIte (mTst (mOp2 eqD (mVarB 13) (mPure (.int 0)))) (mPure (.int 0)) (mIte (mTst (mOp2 gtD (mVarB 13) (mPure (.int 0)))) (mPure (.int 1)) (mOp1 negD (mPure (.int 1)))))) (mPure []))) (mVarB 5))) (mAnd (mTst (mVar 7)) (mTst (mOp2 neD (mOp2 modD (mCall lenD (mCons (mVarB 10) (mPure []))) (mPure (.int 2))) (mPure (.int 1)))))) (sRet (mPure (.bl false))) sNil)) sNil)
noncomputable def tB4B : MS := (sSq (tB4_0 A) (sSq (tB4_1 A) tB4_2))
noncomputable def tB4 : MS := (sFor (mSeq (mLst (mCons (mPure (.bl true)) (mCons (mPure (.bl false)) (mPure []))))) (gNm 7) (tB4B A))
noncomputable def tB5 : MS := (sSet 8 (mLst (mCons (mPure .non) (mCons (mTupX (mCons (mPure (.str "margins")) (mCons (mVar 3) (mCons (mVar 5) (mPure []))))) (mCons (mTupX (mCons (mPure (.str "duels")) (mCons (mVar 3) (mCons (mOp2 addX (mVarB 5) (mTupX (mCons (mPure (.int 0)) (mPure [])))) (mPure []))))) (mCons (mTupX (mCons (mPure (.str "duels")) (mCons (mVar 3) (mCons (mOp2 addX (mTupX (mCons (mPure (.int 2)) (mPure []))) (mSl slD (mVarB 5) (mPart (mPure (.int 1))) (mPure none))) (mPure []))))) (mCons (mTupX (mCons (mPure (.str "duels")) (mCons (mOp1 revTupX (mVarB 3)) (mCons (mVar 5) (mPure []))))) (mPure []))))))))
noncomputable def tB6 : MS := (sSet 9 (mCallR f_law_pick (mCons (mVar 1) (mCons (mOp2 addL (mVarB 8) (mLst (mCons (mTupX (mCons (mPure (.str "duels")) (mCons (mVar 3) (mCons (mOp2 addX (mTupX (mCons (mPure (.bl true)) (mPure []))) (mSl slD (mVarB 5) (mPart (mPure (.int 1))) (mPure none))) (mPure []))))) (mPure [])))) (mPure [])))))
noncomputable def tB7 : MS := (sIf (mTst (mOp2 neD (mCall (f_law_k66_kind A) (mCons (mCau A.K A.c_ShownError (mCall (f_duel_voters A) (mCons (mVar 9) (mCons (mPure .non) (mPure [])))) (xCall (x_duel_voters A) (mCons (mVar 9) (mCons (mPure .non) (mPure []))))) (mPure []))) (mLst (mCons (mPure (.int 0)) (mPure []))))) (sRet (mPure (.bl false))) sNil)
noncomputable def tB8 : MS := (sIf (mTst (mOp2 neD (mCall (f_law_k66_kind A) (mCons (mCau A.K A.c_ShownError (mCall (f_duel_voters A) (mCons (mVar 6) (mCons (mCallR f_law_pick (mCons (mVar 1) (mCons (mLst (mCons (mPure .non) (mCons (mPure (.int 0)) (mCons (mPure (.int 1)) (mCons (mPure (.str "True")) (mCons (mTupX (mPure [])) (mPure []))))))) (mPure [])))) (mPure [])))) (xCall (x_duel_voters A) (mCons (mVar 6) (mCons (mCallR f_law_pick (mCons (mVar 1) (mCons (mLst (mCons (mPure .non) (mCons (mPure (.int 0)) (mCons (mPure (.int 1)) (mCons (mPure (.str "True")) (mCons (mTupX (mPure [])) (mPure []))))))) (mPure [])))) (mPure []))))) (mPure []))) (mLst (mCons (mPure (.int 1)) (mPure []))))) (sRet (mPure (.bl false))) sNil)
noncomputable def turnB : MS := (sSq tB0 (sSq tB1 (sSq tB2 (sSq tB3 (sSq (tB4 A) (sSq tB5 (sSq tB6 (sSq (tB7 A) (tB8 A)))))))))
theorem law_eq : m_law A = (sSq (sFor (mRg1 (mCons (mOp2 addX (mPure (.int 5)) (mCall minD (mCons (mCall lenD (mCons (mVarB 0) (mPure []))) (mCons (mPure (.int 6)) (mPure []))))) (mPure []))) (gNm 2) (turnB A)) (sRet (mPure (.bl true)))) := rfl
end K66
namespace K66
open PySem PyProof.Rows L2 Dv
variable {A : Ads} {ns : List Int} {a : Addr} {ρ : Lo} {ws : List (List Nat)} {sg : List Int}
theorem gs {ρ : Lo} {i j : Nat} {x : Option LV} {y : Option (Option LV)} (h : ρ[j]? = y) (n : i ≠ j) : (ρ.set i x)[j]? = y := by rw [List.getElem?_set_ne n]; exact h
theorem gl {ρ : Lo} {i : Nat} {x : Option LV} (h : i < ρ.length) : (ρ.set i x)[i]? = some x := List.getElem?_set_self h
theorem callK0_of {f : List D → Option D} {ix : List Nat} {m : MA} {ρ : Lo} {S S' : Sg} {ds : List D} {d : D} (h : m ρ S = some (ds, S')) (hf : f (pick ix ds) = some d) : mCallK0 f ix m ρ S = some (d, S') := by
  unfold mCallK0; rw [h]; simp only [Option.bind_some]; rw [hf]; rfl
def LP (ns : List Int) (a : Addr) (ρ : Lo) : Prop := ρ.length = 14 ∧ ρ[0]? = some (some (.imm (.scr ns))) ∧ ρ[1]? = some (some (.imm (.rng a)))
structure St (ns : List Int) (a : Addr) (ws : List (List Nat)) (sg : List Int) (ρ : Lo) : Prop where
  len : ρ.length = 14
  h0 : ρ[0]? = some (some (.imm (.scr ns)))
  h1 : ρ[1]? = some (some (.imm (.rng a)))
  h3 : ρ[3]? = some (some (.imm (WD' ws)))
  h5 : ρ[5]? = some (some (.imm (sgD sg)))
  h6 : ρ[6]? = some (some (.imm (toldD ws sg)))
theorem St.set {i : Nat} {x : Option LV} (h : St ns a ws sg ρ) (hi : i ≠ 0 ∧ i ≠ 1 ∧ i ≠ 3 ∧ i ≠ 5 ∧ i ≠ 6 := by decide) : St ns a ws sg (ρ.set i x) :=
  ⟨by rw [List.length_set]; exact h.len, gs h.h0 hi.1, gs h.h1 hi.2.1, gs h.h3 hi.2.2.1, gs h.h5 hi.2.2.2.1, gs h.h6 hi.2.2.2.2⟩
theorem St.lp (h : St ns a ws sg ρ) : LP ns a ρ := ⟨h.len, h.h0, h.h1⟩
theorem is_tp {d : D} {vs : List D} (h : Tp d vs) : isD d .non = some (.bl false) ∧ isnotD d .non = some (.bl true) := by rcases h with rfl | rfl <;> exact ⟨rfl, rfl⟩
theorem norm_ev (n : Int) {ρ : Lo} {S : Sg} (h : ρ[13]? = some (some (.imm (.int n)))) : mIte (mTst (mOp2 eqD (mVarB 13) (mPure (.int 0)))) (mPure (.int 0)) (mIte (mTst (mOp2 gtD (mVarB 13) (mPure (.int 0)))) (mPure (.int 1)) (mOp1 negD (mPure (.int 1)))) ρ S = some (.int (norm n), S) := by
  have e1 : mTst (mOp2 eqD (mVarB 13) (mPure (.int 0))) ρ S = some (decide (n = 0), S) := mTst_of (mOp2_of (ev_varB h) rfl (eqD_int _ _))
  have e2 : mTst (mOp2 gtD (mVarB 13) (mPure (.int 0))) ρ S = some (decide (0 < n), S) := mTst_of (mOp2_of (ev_varB h) rfl (gtD_int _ _))
  unfold mIte norm
  rw [e1]
  simp only [Option.bind_some]
  by_cases h0 : n = 0
  · rw [if_pos (decide_eq_true h0), if_pos h0]; rfl
  · rw [if_neg (by simpa using h0), if_neg h0, e2]
    simp only [Option.bind_some]
    by_cases h1 : 0 < n
    · rw [if_pos (decide_eq_true h1), if_pos h1]; rfl
    · rw [if_neg (by simpa using h1), if_neg h1]; rfl
theorem dp_ints (l : List Int) : ∀ d ∈ l.map D.int, DP 0 d := fun d hd => by
  obtain ⟨i, _, rfl⟩ := List.mem_map.mp hd
  exact dp_int 0 i
theorem t4_ev (F : Fc ws sg) (st : St ns a ws sg ρ) {odd : Bool} (h7 : ρ[7]? = some (some (.imm (.bl odd)))) : ∃ x y, ∀ S, tB4B A ρ S = some (.nx, (ρ.set 10 x).set 11 y, S) := by
  obtain ⟨d, e, hd⟩ := duel_ev (A := A) F odd
  have hl := st.len
  let ρ1 := ρ.set 10 (some (.imm d))
  have st1 : St ns a ws sg ρ1 := st.set
  have k7 : ρ1[7]? = some (some (.imm (.bl odd))) := gs h7 (by decide)
  have k10 : ρ1[10]? = some (some (.imm d)) := gl (by omega)
  have q0 : ∀ S, tB4_0 A ρ S = some (.nx, ρ1, S) := fun S => set_of' (mCall_of (cons_of (ev_var st.h6) (cons_of (ev_var h7) rfl)) e)
  have eand : ∀ S, mAndV (mVar 7) (mOp2 inD (mPure (.int 0)) (mVarB 5)) ρ1 S = some (.bl (odd && decide ((0 : Int) ∈ sg)), S) := fun S => by
    cases odd with
    | false => exact andV_f (ev_var k7)
    | true => exact andV_t (ev_var k7) (mOp2_of rfl (ev_varB st1.h5) (in_ints 0 rfl))
  have ek : ∀ S, mCallK0 (f_duel_voters A) [1, 0] (mCons (mVar 7) (mCons (mVar 6) (mPure []))) ρ1 S = some (d, S) := fun S => callK0_of (cons_of (ev_var k7) (cons_of (ev_var st1.h6) rfl)) e
  rcases hd with ⟨ho, h0, rfl⟩ | ⟨hc, hT⟩
  · refine ⟨some (.imm .non), ρ1[11]?.join, fun S => ?_⟩
    have q1 : tB4_1 A ρ1 S = some (.nx, ρ1, S) := by
      refine sIf_f (mOr_f (not_of (a := true) (mTst_of (mCall_of (cons_of (ek S) (cons_of (ev_var k10) rfl)) non_same))) (mTst_of (mOp2_of (mOp2_of (ev_varB k10) rfl rfl) (eand S) ?_)))
      rw [ne_bl, ho, decide_eq_true h0]; rfl
    have q2 : tB4_2 ρ1 S = some (.nx, ρ1, S) := sIf_f (mTst_of (mOp2_of (ev_varB k10) rfl rfl))
    have hset : ρ1.set 11 (ρ1[11]?.join) = ρ1 := by
      have h11 : 11 < ρ1.length := by have := st1.len; omega
      rw [List.getElem?_eq_getElem h11]
      exact List.set_getElem_self h11
    show tB4B A ρ S = some (.nx, ρ1.set 11 (ρ1[11]?.join), S)
    rw [hset]
    exact (sSq_nx (q0 S)).trans ((sSq_nx q1).trans q2)
  · have V := vote_ok F hc
    obtain ⟨i1, i2⟩ := is_tp hT
    have ho : (odd && decide ((0 : Int) ∈ sg)) = false := by
      rw [Bool.and_eq_false_iff]
      by_cases h1 : odd = true
      · exact .inr (decide_eq_false fun z => hc ⟨h1, z⟩)
      · exact .inl (by simpa using h1)
    have hm := marg_ev (ws := ws) hT F.ok.few fun v hv w hw => (V.perm v hv).mem_iff.mpr hw
    have hav := are_voters_ev F.ok F.five hT V.ne V.few V.perm
    have hmar := V.marg
    have hodd := V.odd
    have hperm := V.perm
    have hne := V.ne
    have hsame := found_same F hc hT
    generalize voteW ws (numsW odd sg) = vs at *
    obtain ⟨v0, vr, rfl⟩ := List.exists_cons_of_ne_nil hne
    generalize hms : (pairsL ws).map (marg (v0 :: vr)) = ms at *
    let mD : D := .tup (ms.map D.int)
    let ρ2 := ρ1.set 11 (some (.imm mD))
    refine ⟨some (.imm d), some (.imm mD), fun S => ?_⟩
    have q1 : tB4_1 A ρ1 S = some (.nx, ρ1, S) := by
      refine sIf_f (mOr_f (not_of (a := true) (mTst_of (mCall_of (cons_of (ek S) (cons_of (ev_var k10) rfl)) hsame))) (mTst_of (mOp2_of (mOp2_of (ev_varB k10) rfl i1) (eand S) ?_)))
      rw [ne_bl, ho]; rfl
    have j7 : ρ2[7]? = some (some (.imm (.bl odd))) := gs k7 (by decide)
    have j10 : ρ2[10]? = some (some (.imm d)) := gs k10 (by decide)
    have j11 : ρ2[11]? = some (some (.imm mD)) := gl (by have := st1.len; omega)
    have j5 : ρ2[5]? = some (some (.imm (sgD sg))) := gs st1.h5 (by decide)
    have c1 : mTst (mCall f_law_tg_are_voters (mCons (mVar 10) (mPure []))) ρ1 S = some (true, S) := mTst_of (mCall_of (cons_of (ev_var k10) rfl) hav)
    have c2 : mTst (mOp2 eqD (mCall tupleXD (mCons (mCall sortSD (mCons (mOp2 ixD (mVarB 10) (mPure (.int 0))) (mPure []))) (mPure []))) (mVarB 3)) ρ1 S = some (true, S) :=
      mTst_of (mOp2_of (mCall_of (cons_of (mCall_of (cons_of (mOp2_of (ev_varB k10) rfl (ix_nat (n := 0) (len_asT hT.asT) rfl)) rfl) (sort_v F.ok (hperm v0 List.mem_cons_self))) rfl) rfl) (ev_varB st1.h3) (eq_dp' (dp_tx (dp_ws F.ok.good 0)) (by omega)))
    have r0 : sSet 11 (mIte (mAnd (mTst (mCall f_law_tg_are_voters (mCons (mVar 10) (mPure [])))) (mTst (mOp2 eqD (mCall tupleXD (mCons (mCall sortSD (mCons (mOp2 ixD (mVarB 10) (mPure (.int 0))) (mPure []))) (mPure []))) (mVarB 3)))) (mCall f_law_tg_margins (mCons (mVar 3) (mCons (mVar 10) (mPure [])))) (mTupX (mPure []))) ρ1 S = some (.nx, ρ2, S) := by
      refine set_of' ?_
      unfold mIte
      rw [and_of c1 c2]
      simp only [Option.bind_some, Bool.and_self, if_true]
      exact mCall_of (cons_of (ev_var st1.h3) (cons_of (ev_var k10) rfl)) hm
    have el := lc_of (mi := mSeq (mVar 11)) (vs := [13]) (ρ := ρ2) (S := S) (mSeq_of (ev_var j11) rfl) (lc_rel (g := gNm 13) (t := mPure true) (m := mIte (mTst (mOp2 eqD (mVarB 13) (mPure (.int 0)))) (mPure (.int 0)) (mIte (mTst (mOp2 gtD (mVarB 13) (mPure (.int 0)))) (mPure (.int 1)) (mOp1 negD (mPure (.int 1))))) (fun n => D.int (norm n)) (paired_int ms) fun x n ed _ => ⟨_, rfl, rfl, by
      subst ed
      exact norm_ev n (gl (by rw [wipeL_length]; have := st1.len; show 13 < (ρ1.set 11 _).length; rw [List.length_set]; omega))⟩)
    have es : (ms.map fun n => D.int (norm n)) = sg.map D.int := by rw [← hmar, List.map_map]; rfl
    rw [es] at el
    have t1 : mTst (mOp2 neD (mCall tupleXD (mCons (mLc (mSeq (mVar 11)) [13] (gNm 13) (mPure true) (mIte (mTst (mOp2 eqD (mVarB 13) (mPure (.int 0)))) (mPure (.int 0)) (mIte (mTst (mOp2 gtD (mVarB 13) (mPure (.int 0)))) (mPure (.int 1)) (mOp1 negD (mPure (.int 1)))))) (mPure []))) (mVarB 5)) ρ2 S = some (false, S) :=
      mTst_of (mOp2_of (mCall_of (cons_of el rfl) rfl) (ev_varB j5) (ne_dp (dp_tx (dp_ints sg)) (by omega)))
    have hlen : lenD [d] = some (.int ((v0 :: vr).length : Int)) := by rw [len_items (len_asT hT.asT), List.length_map]
    have t2 : mAnd (mTst (mVar 7)) (mTst (mOp2 neD (mOp2 modD (mCall lenD (mCons (mVarB 10) (mPure []))) (mPure (.int 2))) (mPure (.int 1)))) ρ2 S = some (false, S) := by
      cases odd with
      | false => exact and_ff (mTst_of (ev_var j7))
      | true =>
        have ho2 := hodd rfl
        refine and_tt (mTst_of (ev_var j7)) (mTst_of (mOp2_of (mOp2_of (mCall_of (cons_of (ev_varB j10) rfl) hlen) rfl (modD_int (by omega))) rfl ?_))
        rw [neD_int, decide_eq_false (by omega)]
    have r1 := sIf_f (m := sRet (mPure (.bl false))) (mOr_f t1 t2)
    have q2 : tB4_2 ρ1 S = some (.nx, ρ2, S) := (sIf_of (mTst_of (mOp2_of (ev_varB k10) rfl i2))).trans ((sSq_nx r0).trans r1)
    exact (sSq_nx (q0 S)).trans ((sSq_nx q1).trans q2)
end K66
namespace K66
open PySem PyProof.Rows L2 Dv
variable {A : Ads} {ns : List Int} {a : Addr} {ρ : Lo} {ws : List (List Nat)} {sg : List Int}
def Bad (A : Ads) (v : D) : Prop := f_is_duels A [v] = some (.bl false)
theorem bad_non : Bad A .non := by unfold Bad; kernel_rfl
theorem bad_marg (F : Fc ws sg) : Bad A (.tx [.str "margins", WD' ws, sgD sg]) := by
  have := duels_ev (A := A) F.ok F.five sh_marg (s := sgD sg) (ds := sg.map D.int) rfl (sgd_int sg)
  rw [show decide (("margins" : Str) = "duels") = false by decide +kernel, Bool.false_and] at this
  exact this
theorem bad_list (F : Fc ws sg) {s : D} {ds : List D} (hs : s.asT = some ds) (hd : ∀ d ∈ ds, SgD d) (h : ds.length ≠ sg.length ∨ ∃ d ∈ ds, okD d = false) : Bad A (.tx [.str "duels", WD' ws, s]) := by
  have := duels_ev (A := A) F.ok F.five sh_duels hs hd
  rw [decide_eq_true rfl, Bool.true_and] at this
  unfold Bad
  rw [this]
  congr 2
  rw [Bool.and_eq_false_iff]
  rcases h with h | ⟨d, hm, hd⟩
  · exact .inl (decide_eq_false fun e => h (e.trans F.len.symm))
  · refine .inr (Bool.eq_false_iff.mpr fun e => ?_)
    have := List.all_eq_true.mp e d hm
    rw [hd] at this
    cases this
theorem rev_things (h : WsOk ws) : f_are_things [VD ws.reverse] = some (.bl false) := by
  have h2 := h.two
  have e := things_gen (ws := ws.reverse) (fun w hw => h.good w (List.mem_reverse.mp hw)) (by rw [List.length_reverse]; exact h2)
  have hs' : ws.Pairwise (fun x y => leS (wS x) (wS y) = true) := List.pairwise_map.mp h.srt
  have hr : ws.reverse.Pairwise (fun x y => leS (wS y) (wS x) = true) := List.pairwise_reverse.mpr hs'
  have hf : ((ws.reverse.zip ws.reverse.tail).all fun p => decide (Lt p.1 p.2)) = false := by
    refine Bool.eq_false_iff.mpr fun z => ?_
    have hz := List.all_eq_true.mp z
    have hlen : 0 < (ws.reverse.zip ws.reverse.tail).length := by rw [List.length_zip, List.length_tail, List.length_reverse]; omega
    have hm := List.getElem_mem hlen
    have h1 := of_decide_eq_true (hz _ hm)
    have h3 := adj hr _ hm
    exact (List.not_lt.mpr (leS_iff.mp h3)) h1
  rw [hf] at e
  exact e
theorem bad_rev (F : Fc ws sg) : Bad A (.tx [.str "duels", VD ws.reverse, sgD sg]) := by
  let v : D := .tx [.str "duels", VD ws.reverse, sgD sg]
  let ρ : Lo := [some (.imm v), some (.imm (.str "duels")), some (.imm (.fn A.is_sign)), none]
  have i0 : mOp2 ixD (mVarB 0) (mPure (.int 0)) ρ none = some (.str "duels", none) := mOp2_of (ev_varB rfl) rfl (ix_nat (n := 0) (d := v) rfl rfl)
  have i1 : mOp2 ixD (mVarB 0) (mPure (.int 1)) ρ none = some (VD ws.reverse, none) := mOp2_of (ev_varB rfl) rfl (ix_nat (n := 1) (d := v) rfl rfl)
  have a1 : mTst (mOp1 (isiD "tuple") (mVarB 0)) ρ none = some (true, none) := mTst_of (mOp1_of (ev_varB rfl) (isi_tx _))
  have a2 : mTst (mOp2 neD (mCall lenD (mCons (mVarB 0) (mPure []))) (mPure (.int 3))) ρ none = some (false, none) := mTst_of (mOp2_of (mCall_of (cons_of (ev_varB rfl) rfl) (len_items (d := v) rfl)) rfl (neD_int 3 3))
  have a3 : mTst (mOp1 (isiD "str") (mOp2 ixD (mVarB 0) (mPure (.int 0)))) ρ none = some (true, none) := mTst_of (mOp1_of i0 (isi_ss _))
  have a4 : mTst (mOp2 neD (mOp2 ixD (mVarB 0) (mPure (.int 0))) (mVarB 1)) ρ none = some (false, none) := mTst_of (mOp2_of i0 (ev_varB rfl) (by rw [str_ne sh_duels sh_duels]; rfl))
  have s1 := sIf_f (m := sRet (mPure (.bl false))) (mOr_f (not_of a1) (mOr_f a2 (mOr_f (not_of a3) a4)))
  have b1 := not_of (mTst_of (mCall_of (n := mCons (mOp2 ixD (mVarB 0) (mPure (.int 1))) (mPure [])) (cons_of i1 rfl) (rev_things F.ok)))
  have e : f_is_table A [v, .str "duels", .fn A.is_sign] = some (.bl false) := runP_rt rfl ((sSq_nx s1).trans (sSq_rt ((sIf_of (mOr_t b1)).trans rfl)))
  exact runP_rt rfl (sRet_of (mCall_of (cons_of (ev_var rfl) (cons_of rfl (cons_of rfl rfl))) e))
theorem sg_tail (F : Fc ws sg) : slD (sgD sg) (some 1) none = some (.tup (sg.tail.map D.int)) := by
  have h := F.ne
  cases sg with
  | nil => exact absurd rfl h
  | cons n r =>
    have := sl_drop (xs := (n :: r).map D.int) (i := 0) (by simp)
    exact this
theorem sg_le (F : Fc ws sg) : sg.length ≤ 25 := by have := F.pl25; rw [F.len]; exact this
theorem isC_of {K : PySem.W.Frag} {C CT : Addr} {b : Bool} (h : PySem.W.kitOne K (.ref C) (.ref CT) = some b) : isCD K CT (.err C) = some (.bl b) := by
  unfold isCD
  dsimp only
  rw [h]; rfl
theorem kind0 (hA : AdsOk A) : f_law_k66_kind A [.err A.c_BadDuels] = some (.lst [.int 0]) := by
  have e1 : sSet 1 (mLst (mCons (mOp1 (isCD A.K A.c_BadDuels) (mVarB 0)) (mCons (mOp1 (isCD A.K A.c_BadOdd) (mVarB 0)) (mCons (mOp1 (isCD A.K A.c_BadMargins) (mVarB 0)) (mPure []))))) (startL 4 [.err A.c_BadDuels]) none = some (.nx, [some (.imm (.err A.c_BadDuels)), some (.imm (.lst [.bl true, .bl false, .bl false])), none, none], none) :=
    set_of' (lst_of (cons_of (mOp1_of (ev_varB rfl) (isC_of hA.i_BadDuels_BadDuels)) (cons_of (mOp1_of (ev_varB rfl) (isC_of hA.i_BadDuels_BadOdd)) (cons_of (mOp1_of (ev_varB rfl) (isC_of hA.i_BadDuels_BadMargins)) rfl))) (by simp))
  exact runP_rt (S' := none) rfl ((sSq_nx e1).trans (sRet_of (by kernel_rfl)))
theorem kind1 (hA : AdsOk A) : f_law_k66_kind A [.err A.c_BadOdd] = some (.lst [.int 1]) := by
  have e1 : sSet 1 (mLst (mCons (mOp1 (isCD A.K A.c_BadDuels) (mVarB 0)) (mCons (mOp1 (isCD A.K A.c_BadOdd) (mVarB 0)) (mCons (mOp1 (isCD A.K A.c_BadMargins) (mVarB 0)) (mPure []))))) (startL 4 [.err A.c_BadOdd]) none = some (.nx, [some (.imm (.err A.c_BadOdd)), some (.imm (.lst [.bl false, .bl true, .bl false])), none, none], none) :=
    set_of' (lst_of (cons_of (mOp1_of (ev_varB rfl) (isC_of hA.i_BadOdd_BadDuels)) (cons_of (mOp1_of (ev_varB rfl) (isC_of hA.i_BadOdd_BadOdd)) (cons_of (mOp1_of (ev_varB rfl) (isC_of hA.i_BadOdd_BadMargins)) rfl))) (by simp))
  exact runP_rt (S' := none) rfl ((sSq_nx e1).trans (sRet_of (by kernel_rfl)))
theorem xCall_of {f : List D → Option Addr} {m : MA} {ρ : Lo} {S S1 : Sg} {ds : List D} {C : Addr} (h : m ρ S = some (ds, S1)) (hf : f ds = some C) : xCall f m ρ S = some (C, S1) := by unfold xCall; rw [h]; simp only [Option.bind_some]; rw [hf]; rfl
theorem t7_ev (hA : AdsOk A) {v : D} (hv : Bad A v) (h9 : ρ[9]? = some (some (.imm v))) (S : Sg) : tB7 A ρ S = some (.nx, ρ, S) :=
  sIf_f (mTst_of (mOp2_of (mCall_of (cons_of (mCau_of (xCall_of (cons_of (ev_var h9) (cons_of rfl rfl)) (x_bad hv)) hA.m_BadDuels hA.x_BadDuels) rfl) (kind0 hA)) rfl (by kernel_rfl)))
end K66
namespace K66
open PySem PyProof.Rows L2 Dv
variable {A : Ads} {ns : List Int} {a : Addr} {k k' : Nat} {ρ : Lo} {ws : List (List Nat)} {sg : List Int}
theorem range_len (n : Nat) : (rangeL 0 (n : Int)).length = n := by unfold rangeL; rw [List.length_map, List.length_range]; omega
theorem rs_pure {m : MS} {ρ ρ' : Lo} {fl : Fl} {P : Fl → Lo → Prop} (h : ∀ S, m ρ S = some (fl, ρ', S)) (p : P fl ρ') : RS ns a 0 m ρ P := fun c r ok _ _ => ⟨fl, ρ', r, h _, p, ok, Later.refl r⟩
theorem rs_det {m n : MS} {ρ ρ' : Lo} {k : Nat} {Q : Fl → Lo → Prop} (h : ∀ S, m ρ S = some (.nx, ρ', S)) (h2 : RS ns a k n ρ' Q) : RS ns a k (sSq m n) ρ Q := fun c r ok ha hc => by
  obtain ⟨fl, x, r', e, p, ok', l⟩ := h2 c r ok ha hc
  exact ⟨fl, x, r', (sSq_nx (h _)).trans e, p, ok', l⟩
theorem sIf_f' {t : MT} {m : MS} {ρ : Lo} {S S1 : Sg} (h : t ρ S = some (false, S1)) : sIf t m sNil ρ S = some (.nx, ρ, S1) := (sIf_of h).trans rfl
def Sn (n : Int) : Prop := n = -1 ∨ n = 0 ∨ n = 1
theorem ints_of : ∀ {ys : List D}, (∀ y ∈ ys, ∃ n : Int, Sn n ∧ y = .int n) → ∃ sg : List Int, ys = sg.map .int ∧ ∀ n ∈ sg, Sn n
  | [], _ => ⟨[], rfl, fun _ h => absurd h List.not_mem_nil⟩
  | y :: ys, h => by
    obtain ⟨n, hn, rfl⟩ := h y List.mem_cons_self
    obtain ⟨sg, rfl, hs⟩ := ints_of fun z hz => h z (List.mem_cons_of_mem _ hz)
    exact ⟨n :: sg, rfl, fun m hm => (List.mem_cons.mp hm).elim (fun e => e ▸ hn) (hs m)⟩
theorem t0_rs (h : LP ns a ρ) : RS ns a 1371 tB0 ρ (fun fl ρ' => fl = .nx ∧ ∃ ws, WsOk ws ∧ ws.length ≤ 5 ∧ ρ' = ρ.set 3 (some (.imm (WD' ws)))) := by
  obtain ⟨hl, h0, h1⟩ := h
  have ew : RE ns a (0 + ((0 + (0 + 1)) + 0)) (mCons (mVar 1) (mCons (mOp2 addX (mPure (.int 2)) (mCallR f_law_draw (mCons (mVar 1) (mCons (mPure (.int 4)) (mPure []))))) (mPure []))) ρ (fun ds => ∃ m : Nat, 2 ≤ m ∧ m ≤ 5 ∧ ds = [.rng a, .int (m : Int)]) :=
    (re_cons (re_var h1) (re_cons (re_op2 (R := fun d => ∃ m : Nat, 2 ≤ m ∧ m ≤ 5 ∧ d = .int (m : Int)) (re_cst (d := .int 2)) (re_draw (R := 4) h1 (re_cst (d := .int 4)) (fun d e => ⟨4, e, by omega, by omega⟩) (by omega)) (by
      rintro x y rfl ⟨v, rfl, v0, v1⟩
      exact ⟨.int (2 + v), rfl, (2 + v).toNat, by omega, by omega, by congr 1; omega⟩)) re_nil)).mono (Nat.le_refl _) (by
      rintro ds ⟨d, e, rfl, rfl, d2, e2, rfl, ⟨m, m2, m5, rfl⟩, rfl⟩
      exact ⟨m, m2, m5, rfl⟩)
  have ec : RE ns a (0 + ((0 + (0 + 1)) + 0) + 1370) (mCallR f_law_words (mCons (mVar 1) (mCons (mOp2 addX (mPure (.int 2)) (mCallR f_law_draw (mCons (mVar 1) (mCons (mPure (.int 4)) (mPure []))))) (mPure [])))) ρ (fun d => ∃ ws, WsOk ws ∧ ws.length ≤ 5 ∧ d = .lst (ws.map wD)) :=
    re_callR ew (by
      rintro ds ⟨m, m2, m5, rfl⟩
      exact (rf_words m2 (by omega)).mono (by omega) fun d ⟨ws, hw, hl, e⟩ => ⟨ws, hw, by omega, e⟩)
  have et : RE ns a _ (mCall tupleXD (mCons (mCallR f_law_words (mCons (mVar 1) (mCons (mOp2 addX (mPure (.int 2)) (mCallR f_law_draw (mCons (mVar 1) (mCons (mPure (.int 4)) (mPure []))))) (mPure [])))) (mPure []))) ρ (fun d => ∃ ws, WsOk ws ∧ ws.length ≤ 5 ∧ d = WD' ws) :=
    re_call (re_cons ec re_nil) (by
      rintro ds ⟨d, e, rfl, ⟨ws, hw, hl, rfl⟩, rfl⟩
      exact ⟨_, rfl, ws, hw, hl, rfl⟩)
  exact (rs_set et).mono (by omega) (by
    rintro fl ρ' ⟨rfl, d, ⟨ws, hw, hl, rfl⟩, rfl⟩
    exact ⟨rfl, ws, hw, hl, rfl⟩)
theorem t1_rs (h1 : ρ[1]? = some (some (.imm (.rng a)))) : RS ns a 1 tB1 ρ (fun fl ρ' => fl = .nx ∧ ∃ p : List Int, p ≠ [] ∧ p.length ≤ 3 ∧ (∀ n ∈ p, Sn n) ∧ ρ' = ρ.set 4 (some (.imm (.lst (p.map .int))))) := by
  have ep := re_pick (Q := fun d => ∃ p : List Int, p ≠ [] ∧ p.length ≤ 3 ∧ (∀ n ∈ p, Sn n) ∧ d = .lst (p.map .int)) (ns := ns) (a := a) (k := 0) (P := fun ds => ds = [.lst ([-1, 1].map D.int), .lst ([-1, 0, 1].map D.int), .lst ([0].map D.int), .lst ([1].map D.int)]) (ρ := ρ) (i := 1)
    (m := mCons (mLst (mCons (mOp1 negD (mPure (.int 1))) (mCons (mPure (.int 1)) (mPure [])))) (mCons (mLst (mCons (mOp1 negD (mPure (.int 1))) (mCons (mPure (.int 0)) (mCons (mPure (.int 1)) (mPure []))))) (mCons (mLst (mCons (mPure (.int 0)) (mPure []))) (mCons (mLst (mCons (mPure (.int 1)) (mPure []))) (mPure []))))) h1 (re_pure (fun S => rfl) rfl) (by
      rintro ds rfl
      refine ⟨by simp, by simp, fun d hd => ?_⟩
      simp only [List.mem_cons, List.not_mem_nil, or_false] at hd
      rcases hd with rfl | rfl | rfl | rfl
      · exact ⟨[-1, 1], by simp, by simp, by simp [Sn], rfl⟩
      · exact ⟨[-1, 0, 1], by simp, by simp, by simp [Sn], rfl⟩
      · exact ⟨[0], by simp, by simp, by simp [Sn], rfl⟩
      · exact ⟨[1], by simp, by simp, by simp [Sn], rfl⟩)
  exact (rs_set ep).mono (by omega) (by
    rintro fl ρ' ⟨rfl, d, ⟨p, p1, p2, p3, rfl⟩, rfl⟩
    exact ⟨rfl, p, p1, p2, p3, rfl⟩)
theorem t2_rs (hw : WsOk ws) (h5 : ws.length ≤ 5) {p : List Int} (p0 : p ≠ []) (p3 : p.length ≤ 3) (ps : ∀ n ∈ p, Sn n) (hl : ρ.length = 14) (h1 : ρ[1]? = some (some (.imm (.rng a)))) (h3 : ρ[3]? = some (some (.imm (WD' ws)))) (h4 : ρ[4]? = some (some (.imm (.lst (p.map .int))))) :
    RS ns a 25 tB2 ρ (fun fl ρ' => fl = .nx ∧ ∃ sg, Fc ws sg ∧ ρ' = ρ.set 5 (some (.imm (sgD sg)))) := by
  have hpl : (pairsL ws).length ≤ 25 := by
    have h1 := pairsL_len ws
    have : ws.length * ws.length ≤ 5 * 5 := Nat.mul_le_mul h5 h5
    omega
  have hds : ((pairsL (ws.map wD)).map pT).length = (pairsL ws).length := by rw [List.length_map, pairsL_map, List.length_map]
  have el := re_lc (ns := ns) (a := a) (k := 1) (ρ := ρ) (vs := [12]) (g := gNm 12) (mi := mSeq (mCall f_law_tg_pairs (mCons (mVar 3) (mPure [])))) (m := mCallR f_law_pick (mCons (mVar 1) (mCons (mVar 4) (mPure [])))) (P := fun y => ∃ n : Int, Sn n ∧ y = .int n)
    (ds := (pairsL (ws.map wD)).map pT) (fun S => mSeq_of (mCall_of (cons_of (ev_var h3) rfl) (law_pairs_ev (by rw [List.length_map]; omega))) rfl) (fun d _ => by
      refine ⟨_, rfl, ?_⟩
      have g1 : ((wipeL ρ [12]).set 12 (some (.imm d)))[1]? = some (some (.imm (.rng a))) := gs (gs h1 (by decide)) (by decide)
      have g4 : ((wipeL ρ [12]).set 12 (some (.imm d)))[4]? = some (some (.imm (.lst (p.map .int)))) := gs (gs h4 (by decide)) (by decide)
      refine (re_callR (k := 0 + (0 + 0)) (k' := 1) (re_cons (re_var g1) (re_cons (re_var g4) re_nil)) (R := fun y => ∃ n : Int, Sn n ∧ y = .int n) ?_).mono (by omega) fun d h => h
      rintro ds ⟨d1, e1, rfl, rfl, d2, e2, rfl, rfl, rfl⟩
      refine (rf_pick (by simpa using p0) (by rw [List.length_map]; omega)).mono (Nat.le_refl _) fun d hd => ?_
      obtain ⟨n, hn, rfl⟩ := List.mem_map.mp hd
      exact ⟨n, ps n hn, rfl⟩)
  have et := re_call (f := tupleXD) (R := fun d => ∃ sg, Fc ws sg ∧ d = sgD sg) (re_cons el re_nil) (by
    rintro ds ⟨d, e, rfl, ⟨ys, rfl, hyl, hy⟩, rfl⟩
    obtain ⟨sg, rfl, hs⟩ := ints_of hy
    rw [List.length_map, hds] at hyl
    exact ⟨_, rfl, sg, ⟨hw, h5, hyl, hs⟩, rfl⟩)
  exact (rs_set et).mono (by rw [hds]; omega) (by
    rintro fl ρ' ⟨rfl, d, ⟨sg, hF, rfl⟩, rfl⟩
    exact ⟨rfl, sg, hF, rfl⟩)
theorem open_rs {m : MS} {Q : Fl → Lo → Prop} (h : LP ns a ρ) (hm : ∀ ws sg ρ', Fc ws sg → St ns a ws sg ρ' → RS ns a k m ρ' Q) : RS ns a (1397 + k) (sSq tB0 (sSq tB1 (sSq tB2 (sSq tB3 m)))) ρ Q := by
  have h' := h
  obtain ⟨hl, h0, h1⟩ := h
  refine RS.mono (k := 1371 + (1 + (25 + k))) (rs_sq (t0_rs h') ?_) (by omega) fun _ _ h => h
  rintro ρ1 ⟨ws, hw, h5, rfl⟩
  have g1 : (ρ.set 3 (some (.imm (WD' ws))))[1]? = some (some (.imm (.rng a))) := gs h1 (by decide)
  have g3 : (ρ.set 3 (some (.imm (WD' ws))))[3]? = some (some (.imm (WD' ws))) := gl (by omega)
  refine rs_sq (t1_rs g1) ?_
  rintro ρ2 ⟨p, p0, p3, ps, rfl⟩
  have l2 : ((ρ.set 3 (some (.imm (WD' ws)))).set 4 (some (.imm (.lst (p.map .int))))).length = 14 := by simp [hl]
  refine rs_sq (t2_rs hw h5 p0 p3 ps l2 (gs g1 (by decide)) (gs g3 (by decide)) (gl (by simp [hl]))) ?_
  rintro ρ3 ⟨sg, hF, rfl⟩
  have q0 : (((ρ.set 3 (some (.imm (WD' ws)))).set 4 (some (.imm (.lst (p.map .int))))).set 5 (some (.imm (sgD sg))))[0]? = some (some (.imm (.scr ns))) := gs (gs (gs h0 (by decide)) (by decide)) (by decide)
  have q1 : (((ρ.set 3 (some (.imm (WD' ws)))).set 4 (some (.imm (.lst (p.map .int))))).set 5 (some (.imm (sgD sg))))[1]? = some (some (.imm (.rng a))) := gs (gs g1 (by decide)) (by decide)
  have q3 : (((ρ.set 3 (some (.imm (WD' ws)))).set 4 (some (.imm (.lst (p.map .int))))).set 5 (some (.imm (sgD sg))))[3]? = some (some (.imm (WD' ws))) := gs (gs g3 (by decide)) (by decide)
  have q5 : (((ρ.set 3 (some (.imm (WD' ws)))).set 4 (some (.imm (.lst (p.map .int))))).set 5 (some (.imm (sgD sg))))[5]? = some (some (.imm (sgD sg))) := gl (by rw [l2]; omega)
  have l4 : (((ρ.set 3 (some (.imm (WD' ws)))).set 4 (some (.imm (.lst (p.map .int))))).set 5 (some (.imm (sgD sg)))).length = 14 := by rw [List.length_set]; exact l2
  generalize ((ρ.set 3 (some (.imm (WD' ws)))).set 4 (some (.imm (.lst (p.map .int))))).set 5 (some (.imm (sgD sg))) = ρ4 at *
  have e3 : ∀ S, tB3 ρ4 S = some (.nx, ρ4.set 6 (some (.imm (toldD ws sg))), S) := fun S => set_of' (tupX_of (cons_of rfl (cons_of (ev_var q3) (cons_of (ev_var q5) rfl))) (by simp))
  exact rs_det e3 (hm ws sg _ hF ⟨by rw [List.length_set]; exact l4, gs q0 (by decide), gs q1 (by decide), gs q3 (by decide), gs q5 (by decide), gl (by omega)⟩)
theorem sgd_cons {d : D} {ds : List D} (h : SgD d) (h' : ∀ x ∈ ds, SgD x) : ∀ x ∈ d :: ds, SgD x := fun x hx => (List.mem_cons.mp hx).elim (fun e => e ▸ h) (h' x)
theorem t5_ev (F : Fc ws sg) (st : St ns a ws sg ρ) : ∃ vs : List D, vs ≠ [] ∧ vs.length = 5 ∧ (∀ v ∈ vs, Bad A v) ∧ ∀ S, tB5 ρ S = some (.nx, ρ.set 8 (some (.imm (.lst vs))), S) := by
  have hle := sg_le F
  have htl : (sg.tail.map D.int).length ≤ 25 := by rw [List.length_map, List.length_tail]; omega
  obtain ⟨x4, e4, hT4⟩ := addX_tp (d := .tx [.int 2]) (e := .tup (sg.tail.map D.int)) (vs := [.int 2]) (.inl rfl) (.inr rfl) (by simp at htl ⊢; omega)
  have e3 : addX (sgD sg) (.tx [.int 0]) = some (.tx (sg.map D.int ++ [.int 0])) := addX_tx (by simp; omega)
  refine ⟨[.non, .tx [.str "margins", WD' ws, sgD sg], .tx [.str "duels", WD' ws, .tx (sg.map D.int ++ [.int 0])], .tx [.str "duels", WD' ws, x4], .tx [.str "duels", VD ws.reverse, sgD sg]], by simp, rfl, ?_, fun S => ?_⟩
  · intro v hv
    simp only [List.mem_cons, List.not_mem_nil, or_false] at hv
    rcases hv with rfl | rfl | rfl | rfl | rfl
    · exact bad_non
    · exact bad_marg F
    · refine bad_list F rfl (fun d hd => ?_) (.inl (by simp))
      rcases List.mem_append.mp hd with hd | hd
      · exact sgd_int sg d hd
      · rw [List.mem_singleton.mp hd]; exact .inl ⟨0, rfl⟩
    · exact bad_list F hT4.asT (sgd_cons (.inl ⟨2, rfl⟩) (sgd_int _)) (.inr ⟨.int 2, by simp, rfl⟩)
    · exact bad_rev F
  · have er : revTupX (WD' ws) = some (VD ws.reverse) := by show some (D.tx (ws.map wD).reverse) = _; rw [← List.map_reverse]
    refine set_of' (lst_of (cons_of rfl (cons_of (tupX_of (cons_of rfl (cons_of (ev_var st.h3) (cons_of (ev_var st.h5) rfl))) (by simp)) (cons_of (tupX_of (cons_of rfl (cons_of (ev_var st.h3) (cons_of (mOp2_of (ev_varB st.h5) (tupX_of (cons_of rfl rfl) (by simp)) e3) rfl))) (by simp))
      (cons_of (tupX_of (cons_of rfl (cons_of (ev_var st.h3) (cons_of (mOp2_of (tupX_of (cons_of rfl rfl) (by simp)) (mSl_of (ev_varB st.h5) rfl rfl (sg_tail F)) e4) rfl))) (by simp)) (cons_of (tupX_of (cons_of rfl (cons_of (mOp1_of (ev_varB st.h3) er) (cons_of (ev_var st.h5) rfl))) (by simp)) rfl))))) (by simp))
theorem t6_rs (F : Fc ws sg) (st : St ns a ws sg ρ) {vs : List D} (h0 : vs ≠ []) (h5 : vs.length = 5) (hb : ∀ v ∈ vs, Bad A v) (h8 : ρ[8]? = some (some (.imm (.lst vs)))) : RS ns a 1 tB6 ρ (fun fl ρ' => fl = .nx ∧ ∃ v, Bad A v ∧ ρ' = ρ.set 9 (some (.imm v))) := by
  have hle := sg_le F
  have htl : (sg.tail.map D.int).length ≤ 25 := by rw [List.length_map, List.length_tail]; omega
  obtain ⟨x6, e6, hT6⟩ := addX_tp (d := .tx [.bl true]) (e := .tup (sg.tail.map D.int)) (vs := [.bl true]) (.inl rfl) (.inr rfl) (by simp at htl ⊢; omega)
  have b6 : Bad A (.tx [.str "duels", WD' ws, x6]) := bad_list F hT6.asT (sgd_cons (.inr ⟨true, rfl⟩) (sgd_int _)) (.inr ⟨.bl true, by simp, rfl⟩)
  have ea := addL_ev (xs := vs) (ys := [.tx [.str "duels", WD' ws, x6]]) (by rw [h5]; simp)
  have el : ∀ S, mCons (mVar 1) (mCons (mOp2 addL (mVarB 8) (mLst (mCons (mTupX (mCons (mPure (.str "duels")) (mCons (mVar 3) (mCons (mOp2 addX (mTupX (mCons (mPure (.bl true)) (mPure []))) (mSl slD (mVarB 5) (mPart (mPure (.int 1))) (mPure none))) (mPure []))))) (mPure [])))) (mPure [])) ρ S = some ([.rng a, .lst (vs ++ [.tx [.str "duels", WD' ws, x6]])], S) := fun S =>
    cons_of (ev_var st.h1) (cons_of (mOp2_of (ev_varB h8) (lst_of (cons_of (tupX_of (cons_of rfl (cons_of (ev_var st.h3) (cons_of (mOp2_of (tupX_of (cons_of rfl rfl) (by simp)) (mSl_of (ev_varB st.h5) rfl rfl (sg_tail F)) e6) rfl))) (by simp)) rfl) (by simp)) ea) rfl)
  have ec := re_callR (ns := ns) (a := a) (k := 0) (k' := 1) (f := f_law_pick) (R := Bad A) (re_pure (P := fun ds => ds = [.rng a, .lst (vs ++ [.tx [.str "duels", WD' ws, x6]])]) el rfl) (by
    rintro ds rfl
    refine (rf_pick (by simp) (by simp; omega)).mono (Nat.le_refl _) fun d hd => ?_
    rcases List.mem_append.mp hd with hd | hd
    · exact hb d hd
    · rw [List.mem_singleton.mp hd]; exact b6)
  exact (rs_set ec).mono (by omega) (by
    rintro fl ρ' ⟨rfl, d, hd, rfl⟩
    exact ⟨rfl, d, hd, rfl⟩)
theorem t8_rs (hA : AdsOk A) (F : Fc ws sg) (st : St ns a ws sg ρ) : RS ns a 1 (tB8 A) ρ (fun fl ρ' => fl = .nx ∧ ρ' = ρ) := fun c r ok ha hc => by
  have ep := re_pick (Q := fun d => isiD "bool" d = some (.bl false)) (ns := ns) (a := a) (k := 0) (P := fun ds => ds = [.non, .int 0, .int 1, .str "True", .tx []]) (ρ := ρ) (i := 1)
    (m := mCons (mPure .non) (mCons (mPure (.int 0)) (mCons (mPure (.int 1)) (mCons (mPure (.str "True")) (mCons (mTupX (mPure [])) (mPure [])))))) st.h1 (re_pure (fun S => rfl) rfl) (by
      rintro ds rfl
      refine ⟨by simp, by simp, fun d hd => ?_⟩
      simp only [List.mem_cons, List.not_mem_nil, or_false] at hd
      rcases hd with rfl | rfl | rfl | rfl | rfl <;> rfl)
  obtain ⟨d, r', e, hd, ok', l'⟩ := ep c r ok ha (by omega)
  exact ⟨.nx, ρ, r', sIf_f' (mTst_of (mOp2_of (mCall_of (cons_of (mCau_of (xCall_of (cons_of (ev_var st.h6) (cons_of e rfl)) (x_odd F hd)) hA.m_BadOdd hA.x_BadOdd) rfl) (kind1 hA)) rfl (by kernel_rfl))), ⟨rfl, rfl⟩, by simpa using ok', l'⟩
theorem turn_rs (hA : AdsOk A) (h : LP ns a ρ) : RS ns a 1400 (turnB A) ρ (fun fl ρ' => (fl = .nx ∨ fl = .ct) ∧ LP ns a ρ') := by
  refine RS.mono (k := 1397 + (1 + 1)) (open_rs h fun ws sg ρ1 F st => ?_) (by omega) fun _ _ h => h
  have e4 : ∃ ρ2, St ns a ws sg ρ2 ∧ ∀ S, tB4 A ρ1 S = some (.nx, ρ2, S) := by
    have s1 : St ns a ws sg (ρ1.set 7 (some (.imm (.bl true)))) := st.set
    obtain ⟨x, y, e1⟩ := t4_ev (A := A) F s1 (odd := true) (gl (by have := st.len; omega))
    have s2 : St ns a ws sg (((ρ1.set 7 (some (.imm (.bl true)))).set 10 x).set 11 y) := s1.set.set
    have s3 : St ns a ws sg ((((ρ1.set 7 (some (.imm (.bl true)))).set 10 x).set 11 y).set 7 (some (.imm (.bl false)))) := s2.set
    obtain ⟨x', y', e2⟩ := t4_ev (A := A) F s3 (odd := false) (gl (by have := s2.len; omega))
    have s4 : St ns a ws sg ((((((ρ1.set 7 (some (.imm (.bl true)))).set 10 x).set 11 y).set 7 (some (.imm (.bl false)))).set 10 x').set 11 y') := s3.set.set
    refine ⟨_, s4, fun S => for_of (S1 := S) (ds := [.bl true, .bl false]) rfl ?_⟩
    unfold forGo
    simp only [gNm, Option.bind_some]
    rw [e1]
    simp only [Option.bind_some]
    unfold forGo
    simp only [gNm, Option.bind_some]
    rw [e2]
    rfl
  obtain ⟨ρ2, st2, e4⟩ := e4
  refine rs_det e4 ?_
  obtain ⟨vs, v0, v5, vb, e5⟩ := t5_ev (A := A) F st2
  refine rs_det e5 ?_
  have st3 : St ns a ws sg (ρ2.set 8 (some (.imm (.lst vs)))) := st2.set
  refine rs_sq (t6_rs F st3 v0 v5 vb (gl (by have := st2.len; omega))) ?_
  rintro ρ4 ⟨v, hv, rfl⟩
  have st4 : St ns a ws sg ((ρ2.set 8 (some (.imm (.lst vs)))).set 9 (some (.imm v))) := st3.set
  refine rs_det (fun S => t7_ev hA hv (gl (by have := st3.len; omega)) S) ?_
  refine (t8_rs hA F st4).mono (Nat.le_refl _) ?_
  rintro fl ρ' ⟨rfl, rfl⟩
  exact ⟨.inl rfl, st4.lp⟩
theorem law_rs (hA : AdsOk A) (hl : ns.length ≤ 1000) : RS ns a 15400 (m_law A) ((startL 14 [.scr ns]).set 1 (some (.imm (.rng a)))) (fun fl _ => fl = .rt (.bl true)) := by
  rw [law_eq]
  refine RS.mono (k := 15400 + 0) (rs_sq (P := fun ρ => True) ?_ ?_) (by omega) fun _ _ h => h
  · refine RS.mono (k := 0 + 11 * 1400) (rs_for (k := 0) (k' := 1400) (L := 11) (Pd := fun _ => True) (fun i ρ => LP ns a ρ) (re_pure (d := rangeL 0 (((5 + min ns.length 6 : Nat)) : Int)) (fun S => ?_) ⟨by rw [range_len]; omega, trivial⟩) ⟨rfl, rfl, rfl⟩ ?_) (by omega) ?_
    · refine rg1_nat ?_ (by omega)
      have e1 : mCall lenD (mCons (mVarB 0) (mPure [])) ((startL 14 [.scr ns]).set 1 (some (.imm (.rng a)))) S = some (.int (ns.length : Nat), S) := by
        refine mCall_of (cons_of (ev_varB rfl) rfl) ?_
        rfl
      have e2 : minD [.int (ns.length : Nat), .int 6] = some (.int ((min ns.length 6 : Nat) : Int)) := by
        unfold minD
        simp only
        congr 2
        split <;> omega
      refine cons_of (mOp2_of (d := .int ((5 + min ns.length 6 : Nat) : Int)) rfl (mCall_of (cons_of e1 (cons_of rfl rfl)) e2) ?_) rfl
      show some (D.int (5 + ((min ns.length 6 : Nat) : Int))) = _
      congr 2
    · rintro ds - i d ρ' hd ⟨h1, h2, h3⟩
      exact ⟨_, rfl, turn_rs hA ⟨by rw [List.length_set]; exact h1, gs h2 (by decide), gs h3 (by decide)⟩⟩
    · rintro fl ρ' ⟨rfl, _⟩
      exact ⟨rfl, trivial⟩
  · rintro ρ -
    exact rs_pure (fun S => rfl) rfl
/-- the law answers True -/
theorem law_true (hA : AdsOk A) (hl : ns.length ≤ 1000) {r : Rng} (h1 : r.great = bigOf ns) (h2 : r.cells = absOf ns) (h3 : r.rest = 0) (h4 : r.turn = 0) : ∃ ρ' S', m_law A ((startL 14 [.scr ns]).set 1 (some (.imm (.rng r.at_)))) (some r) = some (.rt (.bl true), ρ', S') := by
  have ok : RgOk ns 0 r := by
    refine ⟨h2, hl, by omega, by rw [h4]; simp, by omega, by omega, ?_, fun z hz => ?_⟩
    · rw [h1]; unfold bigOf; rw [List.length_map]; exact Nat.le_trans (List.length_filter_le _ _) hl
    · rw [h1] at hz
      obtain ⟨y, hy, rfl⟩ := List.mem_map.mp hz
      have := of_decide_eq_true (List.mem_filter.mp hy).2
      omega
  obtain ⟨fl, ρ', r', e, rfl, _, _⟩ := law_rs (a := r.at_) hA hl 0 r ok rfl (by omega)
  exact ⟨ρ', some r', e⟩
end K66
namespace K66
open PySem PySem.Spec PyProof.Rows L2 Dv
open C8 (Cal pe_c)
open LamX (lamS_by)
structure Tx (K : PySem.W.Frag) (mg : Str → Option Value) (A : Ads) : Prop where
  a_is_sign : mg "is_sign" = some (.ref A.is_sign)
  g_LEAST_THINGS : ∃ u, mg "LEAST_THINGS" = some u ∧ RelV (V.int 2) u
  g_LETTERS : ∃ u, mg "LETTERS" = some u ∧ RelV (V.str "abcdefghijklmnopqrstuvwxyz") u
  g_MOST_THINGS : ∃ u, mg "MOST_THINGS" = some u ∧ RelV (V.int 5) u
  n_abs : mg "abs" = none
  n_all : mg "all" = none
  n_any : mg "any" = none
  n_bool : mg "bool" = none
  n_dict : mg "dict" = none
  n_enumerate : mg "enumerate" = none
  n_int : mg "int" = none
  n_isinstance : mg "isinstance" = none
  n_len : mg "len" = none
  n_list : mg "list" = none
  n_min : mg "min" = none
  n_range : mg "range" = none
  n_set : mg "set" = none
  n_sorted : mg "sorted" = none
  n_str : mg "str" = none
  n_sum : mg "sum" = none
  n_tuple : mg "tuple" = none
  n_zip : mg "zip" = none
  x_BadDuels : mg "BadDuels" = some (.ref A.c_BadDuels)
  x_BadMargins : mg "BadMargins" = some (.ref A.c_BadMargins)
  x_BadOdd : mg "BadOdd" = some (.ref A.c_BadOdd)
  x_ShownError : mg "ShownError" = some (.ref A.c_ShownError)
  e_BadDuels : ErrX K A.c_BadDuels
  e_BadOdd : ErrX K A.c_BadOdd
structure Cat (P : Program) (w : World) (K : PySem.W.Frag) (mg : Str → Option Value) (base : Heap) (k : Nat) (f : Addr) (fd : FuncData) (ps : List Str) (sp : Sp) : Prop where
  F : FnOk P w K mg base CX0 k f fd ps sp
  kp : PySem.W.keepIn K (.ref f) = true
  b : Binds K fd ps []
section
variable {P : Program} {w : World} {K : PySem.W.Frag} {mg : Str → Option Value} {base : Heap} {A : Ads}
theorem sc_law_begun : FnScope ["script", "great", "cell"] ["script"] (defScope s_law_begun) := ⟨rfl, rfl, rfl, by decide +kernel, rfl, by decide +kernel, by decide +kernel⟩
theorem ok_law_begun (T : Tx A.K mg A) {f : Addr} {fd : FuncData} (F : Fun A.K "_law_begun" "_law_begun" s_law_begun f fd) : FnOk P w A.K mg base CX0 1 f fd ["script"] (spBegun A.K) :=
  begun_ok F sc_law_begun fun H0 F0 R cdv B outer s H E hr => pss_cons (ss_setLcF (i := 1) (own := [("cell", 2)]) rfl sc_law_begun.nd (si_scr' rfl (se_var 0)) (blkOk_by (N := ["script", "great", "cell"]) (sc := defScope s_law_begun) (by decide +kernel)) (fun _ _ _ _ _ => (sg_name 2 sc_law_begun.nd)) (fun _ _ _ _ _ => (sts_one (st_ge (eb_of (se_cb (c_abs) (pe_callB call_abs (by rfl) T.n_abs (by decide +kernel) (sb_cons (se_varB 2) sb_nil)))) (eb_of (se_pow (eb_of se_int) (eb_of se_int)))))) (fun _ _ _ _ _ => (se_sub (eb_of (se_cb (c_abs) (pe_callB call_abs (by rfl) T.n_abs (by decide +kernel) (sb_cons (se_varB 2) sb_nil)))) (eb_of (se_pow (eb_of se_int) (eb_of se_int))))) (by decide)) (pss_one (
  ps_ret (pe_disp (pps_cons pe_str (pv 1) (pps_cons pe_str (sf_lc (own := [("cell", 2)]) rfl sc_law_begun.nd (si_scr' rfl (se_var 0)) (blkOk_by (N := ["script", "great", "cell"]) (sc := defScope s_law_begun) (by decide +kernel)) (fun _ _ _ _ _ => (sg_name 2 sc_law_begun.nd)) (fun _ _ _ _ _ => sts_nil) (fun _ _ _ _ _ => (se_cb (c_abs) (pe_callB call_abs (by rfl) T.n_abs (by decide +kernel) (sb_cons (se_varB 2) sb_nil)))) (by decide)) (pps_cons pe_str pe_int (pps_cons pe_str pe_int pps_nil)))) rfl rfl (by simp) (by decide))))
theorem sc_law_caught : FnScope ["action", "found", "error"] ["action"] (defScope s_law_caught) := ⟨rfl, rfl, rfl, by decide +kernel, rfl, by decide +kernel, by decide +kernel⟩
theorem okc_law_caught (T : Tx A.K mg A) {f : Addr} {fd : FuncData} (F : Fun A.K "_law_caught" "_law_caught" s_law_caught f fd) (hm : mg "_law_caught" = some (.ref f)) (hb : Binds A.K fd ["action"] []) : CauFn A.K mg "_law_caught" A.c_ShownError :=
  cau_fn F hm hb sc_law_caught T.x_ShownError (i := 2) (j := 1) rfl rfl (by decide) rfl rfl rfl (by decide) (by decide) (by decide) (by first | exact Or.inl rfl | exact Or.inr (Or.inl rfl)) rfl rfl (by decide) (by decide) (by decide) (by decide) (by decide) (by decide)
theorem sc_law_blended : FnScope ["state", "prime", "turn", "found", "blend", "cell"] ["state"] (defScope s_law_blended) := ⟨rfl, rfl, rfl, by decide +kernel, rfl, by decide +kernel, by decide +kernel⟩
theorem ok_law_blended (T : Tx A.K mg A) {f : Addr} {fd : FuncData} (F : Fun A.K "_law_blended" "_law_blended" s_law_blended f fd) : FnOk P w A.K mg base CX0 1 f fd ["state"] (spR A.K f_law_blended) :=
  fn_rng F sc_law_blended fun H0 F0 R cdv B outer s H E hr =>
  (ss_cons (ss_par2 (k1 := false) (k2 := false) (ps_par (i := 2) (j := 3) rfl sc_law_blended.nd rfl rfl (by decide) rfl rfl (pa_cons (se_add rfl (eb_of (se_stI (key := "turn") (g := Rng.turn) (fun _ => rfl) (pe_dget (hu_of hr) (pv 0) pe_str (fun _ _ => rfl)))) (eb_of se_int)) (pa_cons se_int pa_nil)) (by rfl)))
    (ss_cons (ss_stturn (ps_dput (hu_of hr) (pv 0) pe_str (se_var 2) (by rfl)))
    (ss_cons (ss_for (ps_for PassesOwn.never rfl (si_seq rfl (ee_of (sf_lst (sa_cons se_int (sa_cons se_int (sa_cons se_int sa_nil)))))) (sg_name 1 sc_law_blended.nd) (ss_cons (ss_set (ps_set (i := 4) sc_law_blended.nd rfl (.inl rfl) (se_add rfl (eb_of (se_mulI (eb_of se_int) (se_varB 2))) (eb_of (se_fdiv (se_varB 1) (eb_of se_int))))))
    (ss_cons (ss_for (ps_for PassesOwn.never rfl (si_seq rfl (se_stC (pe_dget (hu_of hr) (pv 0) pe_str (fun _ _ => rfl)))) (sg_name 5 sc_law_blended.nd) (ss_one (ss_set (ps_set (i := 4) sc_law_blended.nd rfl (.inl rfl) (se_mod (eb_of (se_cb (c_int) (pe_callTy call_int1 (by rfl) T.n_int (by decide +kernel) (sb_cons (eb_of (se_add rfl (eb_of (se_add rfl (eb_of (se_mulI (se_varB 4) (eb_of se_int))) (se_varB 5))) (se_varB 2))) sb_nil)))) (se_varB 1)))))))
    (ss_one (ss_set (ps_set (i := 3) sc_law_blended.nd rfl (.inl rfl) (se_add rfl (eb_of (se_mulI (se_varB 3) (eb_of se_int))) (eb_of (se_mod (eb_of (se_cb (c_int) (pe_callTy call_int1 (by rfl) T.n_int (by decide +kernel) (sb_cons (eb_of (se_pow (se_varB 4) (eb_of se_int))) sb_nil)))) (se_varB 1)))))))))))
    (ss_one (ss_ret (se_var 3))))))
theorem sc_law_draw : FnScope ["state", "room", "found"] ["state", "room"] (defScope s_law_draw) := ⟨rfl, rfl, rfl, by decide +kernel, rfl, by decide +kernel, by decide +kernel⟩
theorem ok_law_draw (T : Tx A.K mg A) (c_law_blended : Cal P w A.K mg base 1 "_law_blended" (spR A.K f_law_blended) []) {f : Addr} {fd : FuncData} (F : Fun A.K "_law_draw" "_law_draw" s_law_draw f fd) : FnOk P w A.K mg base CX0 2 f fd ["state", "room"] (spR A.K f_law_draw) :=
  fn_rng F sc_law_draw fun H0 F0 R cdv B outer s H E hr =>
  (ss_cons (ss_if (st_eq rfl (u64 hr) (eb_of (se_stI (key := "rest") (g := Rng.rest) (fun _ => rfl) (pe_dget (hu_of hr) (pv 0) pe_str (fun _ _ => rfl)))) (eb_of se_int)) (ss_one (ss_strest (ps_dput (hu_of hr) (pv 0) pe_str (se_ite (st_stG (pt_cmpR (op_neD (u64 hr)) (pe_dget (hu_of hr) (pv 0) pe_str (fun _ _ => rfl)) (pe_lst pa_nil) (nomark _))) (se_stP (pe_bm PySem.F.plainAttrs_list PySem.F.slot_list_pop PySem.F.type_list_pop mt_popAt (pe_dget (hu_of hr) (pv 0) pe_str (fun _ _ => rfl)) (pa_cons pe_int pa_nil))) (se_callR (pe_c c_law_blended hr (by decide) (by rfl) (sa_cons (se_var 0) sa_nil)))) (by rfl)))) ss_nil)
    (ss_cons (ss_set (ps_set (i := 2) sc_law_draw.nd rfl (.inl rfl) (se_mod (eb_of (se_cb (c_int) (pe_callTy call_int1 (by rfl) T.n_int (by decide +kernel) (sb_cons (eb_of (se_stI (key := "rest") (g := Rng.rest) (fun _ => rfl) (pe_dget (hu_of hr) (pv 0) pe_str (fun _ _ => rfl)))) sb_nil)))) (se_varB 1))))
    (ss_cons (ss_strest (ps_dput (hu_of hr) (pv 0) pe_str (se_fdiv (eb_of (se_stI (key := "rest") (g := Rng.rest) (fun _ => rfl) (pe_dget (hu_of hr) (pv 0) pe_str (fun _ _ => rfl)))) (se_varB 1)) (by rfl)))
    (ss_one (ss_ret (se_var 2))))))
theorem sc_law_pick : FnScope ["state", "some"] ["state", "some"] (defScope s_law_pick) := ⟨rfl, rfl, rfl, by decide +kernel, rfl, by decide +kernel, by decide +kernel⟩
theorem ok_law_pick (T : Tx A.K mg A) (c_law_draw : Cal P w A.K mg base 2 "_law_draw" (spR A.K f_law_draw) []) {f : Addr} {fd : FuncData} (F : Fun A.K "_law_pick" "_law_pick" s_law_pick f fd) : FnOk P w A.K mg base CX0 3 f fd ["state", "some"] (spR A.K f_law_pick) :=
  fn_rng F sc_law_pick fun H0 F0 R cdv B outer s H E hr =>
  (ss_one (ss_ret (se_ix rfl (se_varB 1) (eb_of (se_callR (pe_c c_law_draw hr (by decide) (by rfl) (sa_cons (se_var 0) (sa_cons (se_cb (c_lenA.or (c_lenK.or c_lenS)) (pe_callB (c_len rfl) (by rfl) T.n_len boot_len (sb_cons (se_varB 1) sb_nil))) sa_nil))))))))
theorem sc_law_words : FnScope ["draws", "many", "found", "word", "lap"] ["draws", "many"] (defScope s_law_words) := ⟨rfl, rfl, rfl, by decide +kernel, rfl, by decide +kernel, by decide +kernel⟩
theorem ok_law_words (T : Tx A.K mg A) (c_law_draw : Cal P w A.K mg base 2 "_law_draw" (spR A.K f_law_draw) []) (c_law_pick : Cal P w A.K mg base 3 "_law_pick" (spR A.K f_law_pick) []) {f : Addr} {fd : FuncData} (F : Fun A.K "_law_words" "_law_words" s_law_words f fd) : FnOk P w A.K mg base CX0 4 f fd ["draws", "many"] (spR A.K f_law_words) :=
  fn_rng F sc_law_words fun H0 F0 R cdv B outer s H E hr =>
  (ss_cons (ss_set (ps_set (i := 2) sc_law_words.nd rfl (.inl rfl) (ee_of (sf_lst sa_nil))))
    (ss_cons (ss_while (ps_while PassesOwn.never (st_lt (eb_of (se_cb (c_lenA.or (c_lenK.or c_lenS)) (pe_callB (c_len rfl) (by rfl) T.n_len boot_len (sb_cons (se_varB 2) sb_nil)))) (se_varB 1)) (ss_cons (ss_set (ps_set (i := 3) sc_law_words.nd rfl (.inl rfl) (se_join rfl (eb_of se_str) (eb_of (ee_of (sf_lc (own := [("lap", 4)]) rfl sc_law_words.nd (si_rg1 (pi_range1 (by rfl) T.n_range (sb_cons (eb_of (se_add rfl (eb_of se_int) (eb_of (se_callR (pe_c c_law_draw hr (by decide) (by rfl) (sa_cons (se_var 0) (sa_cons se_int sa_nil))))))) sb_nil))) (blkOk_by (N := ["draws", "many", "found", "word", "lap"]) (sc := defScope s_law_words) (by decide +kernel)) (fun _ _ _ _ _ => (sg_name 4 sc_law_words.nd)) (fun _ _ _ _ _ => sts_nil) (fun _ _ _ _ _ => (se_callR (pe_c c_law_pick hr (by decide) (by rfl) (sa_cons (se_var 0) (sa_cons (ee_of (sf_cb c_listS (pe_callTy (call_list_txt rfl) (by rfl) T.n_list (by decide +kernel) (sb_cons (eb_of se_str) sb_nil)))) sa_nil))))) (by decide)))))))
    (ss_one (ss_set (ps_set (i := 2) sc_law_words.nd rfl (.inl rfl) (ee_of (sf_addL (se_varB 2) (eb_of (ee_of (sf_ite (st_nin rfl (u65 hr) (by rfl) (se_varB 3) (se_varB 2)) (sf_lst (sa_cons (se_var 3) sa_nil)) (sf_ite (L2.PW.pt (sw_and (st_nin rfl (u65 hr) (by rfl) (eb_of (se_add rfl (eb_of (se_sl rfl (se_varB 3) so_none (so_some se_int))) (eb_of (se_mulStr (eb_of se_str) (eb_of (se_cb (c_lenA.or (c_lenK.or c_lenS)) (pe_callB (c_len rfl) (by rfl) T.n_len boot_len (sb_cons (se_varB 2) sb_nil)))))))) (se_varB 2)) (sw_and1 (st_lt (eb_of (se_cb (c_lenA.or (c_lenK.or c_lenS)) (pe_callB (c_len rfl) (by rfl) T.n_len boot_len (sb_cons (se_varB 2) sb_nil)))) (eb_of se_int))))) (sf_lst (sa_cons (se_add rfl (eb_of (se_sl rfl (se_varB 3) so_none (so_some se_int))) (eb_of (se_mulStr (eb_of se_str) (eb_of (se_cb (c_lenA.or (c_lenK.or c_lenS)) (pe_callB (c_len rfl) (by rfl) T.n_len boot_len (sb_cons (se_varB 2) sb_nil))))))) sa_nil)) (sf_lst sa_nil)))))))))))))
    (ss_one (ss_ret (ee_of (sf_cb c_sortS (pe_callB cr_sortStr (by rfl) T.n_sorted (by decide +kernel) (sb_cons (se_varB 2) sb_nil))))))))
theorem sc_pairs_of : FnScope ["things", "found", "at", "one", "other"] ["things"] (defScope s_pairs_of) := ⟨rfl, rfl, rfl, by decide +kernel, rfl, by decide +kernel, by decide +kernel⟩
theorem ok_pairs_of (T : Tx A.K mg A) {f : Addr} {fd : FuncData} (F : Fun A.K "pairs_of" "pairs_of" s_pairs_of f fd) : FnOk P w A.K mg base CX0 1 f fd ["things"] (spP A.K f_pairs_of) :=
  fn_pure F sc_pairs_of fun H0 F0 R cdv B outer s H E hr =>
  (ss_cons (ss_setF (ps_set (i := 1) sc_pairs_of.nd rfl (.inl rfl) (sf_lst sa_nil)))
    (ss_cons (ss_for (ps_for PassesOwn.never rfl (si_enumQ rfl (pi_enumQ (by rfl) T.n_enumerate (sa_cons (se_var 0) sa_nil))) (sg_tup rfl rfl (sgs_cons (sg_name 2 sc_pairs_of.nd) (sgs_cons (sg_name 3 sc_pairs_of.nd) sgs_nil))) (ss_one (ss_ext (ps_expr (pe_bm PySem.F.plainAttrs_list PySem.F.slot_list_extend PySem.F.type_list_extend mt_extend (pv 1) (pa_cons (ee_of (sf_lc (own := [("other", 4)]) rfl sc_pairs_of.nd (si_seq rfl (se_sl rfl (se_varB 0) (so_some (se_add rfl (se_varB 2) (eb_of se_int))) so_none)) (blkOk_by (N := ["things", "found", "at", "one", "other"]) (sc := defScope s_pairs_of) (by decide +kernel)) (fun _ _ _ _ _ => (sg_name 4 sc_pairs_of.nd)) (fun _ _ _ _ _ => sts_nil) (fun _ _ _ _ _ => (se_tup (sa_cons (se_var 3) (sa_cons (se_var 4) sa_nil)))) (by decide))) pa_nil)))))))
    (ss_one (ss_frz 1 (ss_ret (se_var 1))))))
theorem sc_two_for : FnScope ["things", "one", "other", "rest", "word"] ["things", "one", "other"] (defScope s_two_for) := ⟨rfl, rfl, rfl, by decide +kernel, rfl, by decide +kernel, by decide +kernel⟩
theorem ok_two_for (T : Tx A.K mg A) {f : Addr} {fd : FuncData} (F : Fun A.K "two_for" "two_for" s_two_for f fd) : FnOk P w A.K mg base CX0 1 f fd ["things", "one", "other"] (spP A.K f_two_for) :=
  fn_pure F sc_two_for fun H0 F0 R cdv B outer s H E hr =>
  (ss_cons (ss_set (ps_set (i := 3) sc_two_for.nd rfl (.inl rfl) (se_cb (c_tupleX) (pe_callTy call_tupleX (by rfl) T.n_tuple (by decide +kernel) (sb_cons (eb_of (ee_of (sf_lc (own := [("word", 4)]) rfl sc_two_for.nd (si_seq rfl (se_var 0)) (blkOk_by (N := ["things", "one", "other", "rest", "word"]) (sc := defScope s_two_for) (by decide +kernel)) (fun _ _ _ _ _ => (sg_name 4 sc_two_for.nd)) (fun _ _ _ _ _ => (sts_one (st_nin rfl (u65 hr) (by rfl) (se_varB 4) (eb_of (se_tupX (sa_cons (se_var 1) (sa_cons (se_var 2) sa_nil))))))) (fun _ _ _ _ _ => (se_var 4)) (by decide)))) sb_nil)))))
    (ss_one (ss_ret (se_tupX (sa_cons (se_addX rfl (eb_of (se_tupX (sa_cons (se_var 1) (sa_cons (se_var 2) sa_nil)))) (se_varB 3)) (sa_cons (se_addX rfl (eb_of (se_revTupX rfl (pe_revTupX (se_varB 3)))) (eb_of (se_tupX (sa_cons (se_var 1) (sa_cons (se_var 2) sa_nil))))) sa_nil))))))
theorem sc_even_voters : FnScope ["things", "numbers", "found", "number", "pair", "one", "other"] ["things", "numbers"] (defScope s_even_voters) := ⟨rfl, rfl, rfl, by decide +kernel, rfl, by decide +kernel, by decide +kernel⟩
theorem ok_even_voters (T : Tx A.K mg A) (c_pairs_of : Cal P w A.K mg base 1 "pairs_of" (spP A.K f_pairs_of) []) (c_two_for : Cal P w A.K mg base 1 "two_for" (spP A.K f_two_for) []) {f : Addr} {fd : FuncData} (F : Fun A.K "even_voters" "even_voters" s_even_voters f fd) : FnOk P w A.K mg base CX0 2 f fd ["things", "numbers"] (spP A.K f_even_voters) :=
  fn_pure F sc_even_voters fun H0 F0 R cdv B outer s H E hr =>
  (ss_cons (ss_set (ps_set (i := 2) sc_even_voters.nd rfl (.inl rfl) (se_tupX sa_nil)))
    (ss_cons (ss_for (ps_for PassesOwn.never rfl (si_zip2 rfl (pi_zip2 (by rfl) T.n_zip (sa_cons (se_call (pe_c c_pairs_of hr (by decide) (by rfl) (sa_cons (se_var 0) sa_nil))) (sa_cons (se_var 1) sa_nil)))) (sg_tup rfl rfl (sgs_cons (sg_tup rfl rfl (sgs_cons (sg_name 5 sc_even_voters.nd) (sgs_cons (sg_name 6 sc_even_voters.nd) sgs_nil))) (sgs_cons (sg_name 3 sc_even_voters.nd) sgs_nil))) (ss_cons (ss_set (ps_set (i := 4) sc_even_voters.nd rfl (.inl rfl) (se_ite (st_gt (se_varB 3) (eb_of se_int)) (se_call (pe_c c_two_for hr (by decide) (by rfl) (sa_cons (se_var 0) (sa_cons (se_var 5) (sa_cons (se_var 6) sa_nil))))) (se_call (pe_c c_two_for hr (by decide) (by rfl) (sa_cons (se_var 0) (sa_cons (se_var 6) (sa_cons (se_var 5) sa_nil))))))))
    (ss_one (ss_set (ps_set (i := 2) sc_even_voters.nd rfl (.inl rfl) (se_addX rfl (se_varB 2) (eb_of (se_mulTA rfl (se_varB 4) (eb_of (se_fdiv (eb_of (se_cb (c_abs) (pe_callB call_abs (by rfl) T.n_abs (by decide +kernel) (sb_cons (se_varB 3) sb_nil)))) (eb_of se_int))))))))))))
    (ss_one (ss_ret (se_ite (st_ne rfl (u64 hr) (se_varB 2) (eb_of (se_tupX sa_nil))) (se_var 2) (se_tupX (sa_cons (se_var 0) (sa_cons (se_revTupX rfl (pe_revTupX (se_varB 0))) sa_nil))))))))
theorem sc_voters_for : FnScope ["things", "numbers", "left", "number"] ["things", "numbers"] (defScope s_voters_for) := ⟨rfl, rfl, rfl, by decide +kernel, rfl, by decide +kernel, by decide +kernel⟩
theorem ok_voters_for (T : Tx A.K mg A) (c_even_voters : Cal P w A.K mg base 2 "even_voters" (spP A.K f_even_voters) []) {f : Addr} {fd : FuncData} (F : Fun A.K "voters_for" "voters_for" s_voters_for f fd) : FnOk P w A.K mg base CX0 3 f fd ["things", "numbers"] (spP A.K f_voters_for) :=
  fn_pure F sc_voters_for fun H0 F0 R cdv B outer s H E hr =>
  (ss_cons (ss_if (st_eq rfl (u64 hr) (eb_of (se_mod (eb_of (se_ix rfl (se_varB 1) (eb_of se_int))) (eb_of se_int))) (eb_of se_int)) (ss_one (ss_ret (se_call (pe_c c_even_voters hr (by decide) (by rfl) (sa_cons (se_var 0) (sa_cons (se_var 1) sa_nil)))))) ss_nil)
    (ss_cons (ss_set (ps_set (i := 2) sc_voters_for.nd rfl (.inl rfl) (se_cb (c_tuple) (pe_callTy call_tuple_of (by rfl) T.n_tuple (by decide +kernel) (sb_cons (eb_of (ee_of (sf_lc (own := [("number", 3)]) rfl sc_voters_for.nd (si_seq rfl (se_var 1)) (blkOk_by (N := ["things", "numbers", "left", "number"]) (sc := defScope s_voters_for) (by decide +kernel)) (fun _ _ _ _ _ => (sg_name 3 sc_voters_for.nd)) (fun _ _ _ _ _ => sts_nil) (fun _ _ _ _ _ => (se_sub (se_varB 3) (eb_of se_int))) (by decide)))) sb_nil)))))
    (ss_one (ss_ret (se_add rfl (eb_of (se_tup (sa_cons (se_var 0) sa_nil))) (eb_of (se_ite (st_val (se_cb (c_any) (pe_callB (cr_any rfl) (by rfl) T.n_any (by decide +kernel) (sb_cons (eb_of (ee_of (sf_lc (own := [("number", 3)]) rfl sc_voters_for.nd (si_seq rfl (se_var 2)) (blkOk_by (N := ["things", "numbers", "left", "number"]) (sc := defScope s_voters_for) (by decide +kernel)) (fun _ _ _ _ _ => (sg_name 3 sc_voters_for.nd)) (fun _ _ _ _ _ => sts_nil) (fun _ _ _ _ _ => (se_ne rfl (u64 hr) (se_varB 3) (eb_of se_int))) (by decide)))) sb_nil)))) (se_call (pe_c c_even_voters hr (by decide) (by rfl) (sa_cons (se_var 0) (sa_cons (se_var 2) sa_nil)))) (se_tup sa_nil))))))))
theorem sc_is_word : FnScope ["value", "letter"] ["value"] (defScope s_is_word) := ⟨rfl, rfl, rfl, by decide +kernel, rfl, by decide +kernel, by decide +kernel⟩
theorem ok_is_word (T : Tx A.K mg A) {f : Addr} {fd : FuncData} (F : Fun A.K "is_word" "is_word" s_is_word f fd) : FnOk P w A.K mg base CX0 1 f fd ["value"] (spP A.K f_is_word) :=
  fn_pure F sc_is_word fun H0 F0 R cdv B outer s H E hr =>
  (ss_one (ss_ret (se_andV (se_isi (pe_callB call_isi (by rfl) T.n_isinstance (by decide +kernel) (pa_cons (se_varB 0) (pa_cons (pe_bltn (by rfl) T.n_str (by decide +kernel) rfl) pa_nil)))) (se_andV (se_chn op_le op_le r_le r_le (eb_of se_int) (eb_of (se_cb (c_lenA.or (c_lenK.or c_lenS)) (pe_callB (c_len rfl) (by rfl) T.n_len boot_len (sb_cons (se_varB 0) sb_nil)))) (eb_of se_int)) (se_one (se_cb (c_all) (pe_callB (cr_all rfl) (by rfl) T.n_all (by decide +kernel) (sb_cons (eb_of (ee_of (sf_lc (own := [("letter", 1)]) rfl sc_is_word.nd (si_str (se_var 0)) (blkOk_by (N := ["value", "letter"]) (sc := defScope s_is_word) (by decide +kernel)) (fun _ _ _ _ _ => (sg_name 1 sc_is_word.nd)) (fun _ _ _ _ _ => sts_nil) (fun _ _ _ _ _ => (se_in rfl (u65 hr) (by rfl) (se_varB 1) (eb_of (se_gc (by rfl) T.g_LETTERS (fun F => .str _))))) (by decide)))) sb_nil))))))))
theorem sc_are_things : FnScope ["value", "one", "other", "word"] ["value"] (defScope s_are_things) := ⟨rfl, rfl, rfl, by decide +kernel, rfl, by decide +kernel, by decide +kernel⟩
theorem ok_are_things (T : Tx A.K mg A) (c_is_word : Cal P w A.K mg base 1 "is_word" (spP A.K f_is_word) []) {f : Addr} {fd : FuncData} (F : Fun A.K "are_things" "are_things" s_are_things f fd) : FnOk P w A.K mg base CX0 2 f fd ["value"] (spP A.K f_are_things) :=
  fn_pure F sc_are_things fun H0 F0 R cdv B outer s H E hr =>
  (ss_cons (ss_if (L2.PW.pt (sw_or (st_not (st_val (se_isi (pe_callB call_isi (by rfl) T.n_isinstance (by decide +kernel) (pa_cons (se_varB 0) (pa_cons (pe_bltn (by rfl) T.n_tuple (by decide +kernel) rfl) pa_nil)))))) (sw_or (st_eq rfl (u64 hr) (se_varB 0) (eb_of (se_tup sa_nil))) (sw_or1 (st_not (st_val (se_cb (c_all) (pe_callB (cr_all rfl) (by rfl) T.n_all (by decide +kernel) (sb_cons (eb_of (ee_of (sf_lc (own := [("word", 3)]) rfl sc_are_things.nd (si_seq rfl (se_var 0)) (blkOk_by (N := ["value", "one", "other", "word"]) (sc := defScope s_are_things) (by decide +kernel)) (fun _ _ _ _ _ => (sg_name 3 sc_are_things.nd)) (fun _ _ _ _ _ => sts_nil) (fun _ _ _ _ _ => (se_call (pe_c c_is_word hr (by decide) (by rfl) (sa_cons (se_var 3) sa_nil)))) (by decide)))) sb_nil))))))))) (ss_one (ss_ret se_bl)) ss_nil)
    (ss_one (ss_ret (se_cb (c_all) (pe_callB (cr_all rfl) (by rfl) T.n_all (by decide +kernel) (sb_cons (eb_of (ee_of (sf_lc (own := [("one", 1), ("other", 2)]) rfl sc_are_things.nd (si_zip2 rfl (pi_zip2 (by rfl) T.n_zip (sa_cons (se_var 0) (sa_cons (se_sl rfl (se_varB 0) (so_some se_int) so_none) sa_nil)))) (blkOk_by (N := ["value", "one", "other", "word"]) (sc := defScope s_are_things) (by decide +kernel)) (fun _ _ _ _ _ => (sg_tup rfl rfl (sgs_cons (sg_name 1 sc_are_things.nd) (sgs_cons (sg_name 2 sc_are_things.nd) sgs_nil)))) (fun _ _ _ _ _ => sts_nil) (fun _ _ _ _ _ => (se_ltA (se_varB 1) (se_varB 2))) (by decide)))) sb_nil))))))
theorem sc_is_whole : FnScope ["value"] ["value"] (defScope s_is_whole) := ⟨rfl, rfl, rfl, by decide +kernel, rfl, by decide +kernel, by decide +kernel⟩
theorem ok_is_whole (T : Tx A.K mg A) {f : Addr} {fd : FuncData} (F : Fun A.K "is_whole" "is_whole" s_is_whole f fd) : FnOk P w A.K mg base CX0 1 f fd ["value"] (spP A.K f_is_whole) :=
  fn_pure F sc_is_whole fun H0 F0 R cdv B outer s H E hr =>
  (ss_one (ss_ret (se_andV (se_isi (pe_callB call_isi (by rfl) T.n_isinstance (by decide +kernel) (pa_cons (se_varB 0) (pa_cons (pe_bltn (by rfl) T.n_int (by decide +kernel) rfl) pa_nil)))) (se_one (se_notV (se_isi (pe_callB call_isi (by rfl) T.n_isinstance (by decide +kernel) (pa_cons (se_varB 0) (pa_cons (pe_bltn (by rfl) T.n_bool (by decide +kernel) rfl) pa_nil)))))))))
theorem sc_is_sign : FnScope ["number"] ["number"] (defScope s_is_sign) := ⟨rfl, rfl, rfl, by decide +kernel, rfl, by decide +kernel, by decide +kernel⟩
theorem ok_is_sign (T : Tx A.K mg A) {f : Addr} {fd : FuncData} (F : Fun A.K "is_sign" "is_sign" s_is_sign f fd) : FnOk P w A.K mg base CX0 1 f fd ["number"] (spP A.K f_is_sign) :=
  fn_pure F sc_is_sign fun H0 F0 R cdv B outer s H E hr =>
  (ss_one (ss_ret (se_chn op_le op_le r_le r_le (eb_of (se_neg (eb_of se_int))) (se_varB 0) (eb_of se_int))))
theorem sc_is_table : FnScope ["value", "name", "judge", "number"] ["value", "name", "judge"] (defScope s_is_table) := ⟨rfl, rfl, rfl, by decide +kernel, rfl, by decide +kernel, by decide +kernel⟩
theorem ok_is_table (T : Tx A.K mg A) (c_are_things : Cal P w A.K mg base 2 "are_things" (spP A.K f_are_things) []) (c_pairs_of : Cal P w A.K mg base 1 "pairs_of" (spP A.K f_pairs_of) []) (c_is_whole : Cal P w A.K mg base 1 "is_whole" (spP A.K f_is_whole) []) {fd_is_sign : FuncData} (cat_is_sign : Cat P w A.K mg base 1 A.is_sign fd_is_sign ["number"] (spP A.K f_is_sign)) {f : Addr} {fd : FuncData} (F : Fun A.K "is_table" "is_table" s_is_table f fd) : FnOk P w A.K mg base CX0 3 f fd ["value", "name", "judge"] (spP A.K (f_is_table A)) :=
  fn_pure F sc_is_table fun H0 F0 R cdv B outer s H E hr =>
  (ss_cons (ss_if (L2.PW.pt (sw_or (st_not (st_val (se_isi (pe_callB call_isi (by rfl) T.n_isinstance (by decide +kernel) (pa_cons (se_varB 0) (pa_cons (pe_bltn (by rfl) T.n_tuple (by decide +kernel) rfl) pa_nil)))))) (sw_or (st_ne rfl (u64 hr) (eb_of (se_cb (c_lenA.or (c_lenK.or c_lenS)) (pe_callB (c_len rfl) (by rfl) T.n_len boot_len (sb_cons (se_varB 0) sb_nil)))) (eb_of se_int)) (sw_or (st_not (st_val (se_isi (pe_callB call_isi (by rfl) T.n_isinstance (by decide +kernel) (pa_cons (eb_of (se_ix rfl (se_varB 0) (eb_of se_int))) (pa_cons (pe_bltn (by rfl) T.n_str (by decide +kernel) rfl) pa_nil)))))) (sw_or1 (st_ne rfl (u64 hr) (eb_of (se_ix rfl (se_varB 0) (eb_of se_int))) (se_varB 1))))))) (ss_one (ss_ret se_bl)) ss_nil)
    (ss_cons (ss_if (L2.PW.pt (sw_or (st_not (st_val (se_call (pe_c c_are_things hr (by decide) (by rfl) (sa_cons (se_ix rfl (se_varB 0) (eb_of se_int)) sa_nil))))) (sw_or1 (st_not (st_chn op_le op_le r_le r_le (eb_of (se_gc (by rfl) T.g_LEAST_THINGS (fun F => .int _))) (eb_of (se_cb (c_lenA.or (c_lenK.or c_lenS)) (pe_callB (c_len rfl) (by rfl) T.n_len boot_len (sb_cons (eb_of (se_ix rfl (se_varB 0) (eb_of se_int))) sb_nil)))) (eb_of (se_gc (by rfl) T.g_MOST_THINGS (fun F => .int _)))))))) (ss_one (ss_ret se_bl)) ss_nil)
    (ss_cons (ss_if (L2.PW.pt (sw_or (st_not (st_val (se_isi (pe_callB call_isi (by rfl) T.n_isinstance (by decide +kernel) (pa_cons (eb_of (se_ix rfl (se_varB 0) (eb_of se_int))) (pa_cons (pe_bltn (by rfl) T.n_tuple (by decide +kernel) rfl) pa_nil)))))) (sw_or1 (st_ne rfl (u64 hr) (eb_of (se_cb (c_lenA.or (c_lenK.or c_lenS)) (pe_callB (c_len rfl) (by rfl) T.n_len boot_len (sb_cons (eb_of (se_ix rfl (se_varB 0) (eb_of se_int))) sb_nil)))) (eb_of (se_cb (c_lenA.or (c_lenK.or c_lenS)) (pe_callB (c_len rfl) (by rfl) T.n_len boot_len (sb_cons (eb_of (se_call (pe_c c_pairs_of hr (by decide) (by rfl) (sa_cons (se_ix rfl (se_varB 0) (eb_of se_int)) sa_nil)))) sb_nil)))))))) (ss_one (ss_ret se_bl)) ss_nil)
    (ss_one (ss_ret (se_cb (c_all) (pe_callB (cr_all rfl) (by rfl) T.n_all (by decide +kernel) (sb_cons (eb_of (ee_of (sf_lc (own := [("number", 3)]) rfl sc_is_table.nd (si_seq rfl (se_ix rfl (se_varB 0) (eb_of se_int))) (blkOk_by (N := ["value", "name", "judge", "number"]) (sc := defScope s_is_table) (by decide +kernel)) (fun _ _ _ _ _ => (sg_name 3 sc_is_table.nd)) (fun _ _ _ _ _ => sts_nil) (fun _ _ _ _ _ => (se_andV (se_call (pe_c c_is_whole hr (by decide) (by rfl) (sa_cons (se_var 3) sa_nil))) (se_one (se_callL (pe_callL cat_is_sign.F (hr.mono (by decide)) (i := 2) rfl (by first | exact Or.inl rfl | exact Or.inr (Or.inl rfl) | exact Or.inr (Or.inr rfl)) cat_is_sign.kp cat_is_sign.b .nil pass0 (sa_cons (se_var 3) sa_nil)))))) (by decide)))) sb_nil))))))))
theorem sc_is_duels : FnScope ["value"] ["value"] (defScope s_is_duels) := ⟨rfl, rfl, rfl, by decide +kernel, rfl, by decide +kernel, by decide +kernel⟩
theorem ok_is_duels (T : Tx A.K mg A) (c_is_table : Cal P w A.K mg base 3 "is_table" (spP A.K (f_is_table A)) []) {f : Addr} {fd : FuncData} (F : Fun A.K "is_duels" "is_duels" s_is_duels f fd) : FnOk P w A.K mg base CX0 4 f fd ["value"] (spP A.K (f_is_duels A)) :=
  fn_pure F sc_is_duels fun H0 F0 R cdv B outer s H E hr =>
  (ss_one (ss_ret (se_call (pe_c c_is_table hr (by decide) (by rfl) (sa_cons (se_var 0) (sa_cons se_str (sa_cons (se_fnv (by rfl) T.a_is_sign) sa_nil)))))))
theorem sc_duel_voters : FnScope ["duels", "odd", "sign"] ["duels", "odd"] (defScope s_duel_voters) := ⟨rfl, rfl, rfl, by decide +kernel, rfl, by decide +kernel, by decide +kernel⟩
theorem ok_duel_voters (T : Tx A.K mg A) (c_is_duels : Cal P w A.K mg base 4 "is_duels" (spP A.K (f_is_duels A)) []) (c_voters_for : Cal P w A.K mg base 3 "voters_for" (spP A.K f_voters_for) []) {f : Addr} {fd : FuncData} (F : Fun A.K "duel_voters" "duel_voters" s_duel_voters f fd) : FnOk P w A.K mg base CX0 5 f fd ["duels", "odd"] (spP A.K (f_duel_voters A)) :=
  fn_pure F sc_duel_voters fun H0 F0 R cdv B outer s H E hr =>
  (ss_cons (ss_if (st_not (st_val (se_call (pe_c c_is_duels hr (by decide) (by rfl) (sa_cons (se_var 0) sa_nil))))) (ss_one ss_never) ss_nil)
    (ss_cons (ss_if (st_not (st_val (se_isi (pe_callB call_isi (by rfl) T.n_isinstance (by decide +kernel) (pa_cons (se_varB 1) (pa_cons (pe_bltn (by rfl) T.n_bool (by decide +kernel) rfl) pa_nil)))))) (ss_one ss_never) ss_nil)
    (ss_cons (ss_if (L2.PW.pt (sw_and (st_val (se_var 1)) (sw_and1 (st_in rfl (u65 hr) (by rfl) (eb_of se_int) (eb_of (se_ix rfl (se_varB 0) (eb_of se_int))))))) (ss_one (ss_ret se_non)) ss_nil)
    (ss_one (ss_ret (se_call (pe_c c_voters_for hr (by decide) (by rfl) (sa_cons (se_ix rfl (se_varB 0) (eb_of se_int)) (sa_cons (se_cb (c_tuple) (pe_callTy call_tuple_of (by rfl) T.n_tuple (by decide +kernel) (sb_cons (eb_of (ee_of (sf_lc (own := [("sign", 2)]) rfl sc_duel_voters.nd (si_seq rfl (se_ix rfl (se_varB 0) (eb_of se_int))) (blkOk_by (N := ["duels", "odd", "sign"]) (sc := defScope s_duel_voters) (by decide +kernel)) (fun _ _ _ _ _ => (sg_name 2 sc_duel_voters.nd)) (fun _ _ _ _ _ => sts_nil) (fun _ _ _ _ _ => (se_ite (st_val (se_var 1)) (se_var 2) (se_mulI (eb_of se_int) (se_varB 2)))) (by decide)))) sb_nil))) sa_nil)))))))))
theorem okx_duel_voters (T : Tx A.K mg A) (c_is_duels : Cal P w A.K mg base 4 "is_duels" (spP A.K (f_is_duels A)) []) {f : Addr} {fd : FuncData} (F : Fun A.K "duel_voters" "duel_voters" s_duel_voters f fd) : FnOk P w A.K mg base (L2.CX P w) 5 f fd ["duels", "odd"] (spX A.K (x_duel_voters A)) :=
  fn_raise F sc_duel_voters fun H0 F0 R cdv B outer s H E W hr tk =>
  (xs_or (xs_head (xs_if (st_not (st_val (se_call (pe_c c_is_duels hr (by decide) (by rfl) (sa_cons (se_var 0) sa_nil))))) (xs_head (xs_raiseT T.e_BadDuels T.x_BadDuels tk)) xs_no)) (xs_cons (ss_if (st_not (st_val (se_call (pe_c c_is_duels hr (by decide) (by rfl) (sa_cons (se_var 0) sa_nil))))) (ss_one ss_never) ss_nil) (xs_head (xs_if (st_not (st_val (se_isi (pe_callB call_isi (by rfl) T.n_isinstance (by decide +kernel) (pa_cons (se_varB 1) (pa_cons (pe_bltn (by rfl) T.n_bool (by decide +kernel) rfl) pa_nil)))))) (xs_head (xs_raiseT T.e_BadOdd T.x_BadOdd tk)) xs_no))))
theorem sc_law_k66_kind : FnScope ["error", "told", "at", "here"] ["error"] (defScope s_law_k66_kind) := ⟨rfl, rfl, rfl, by decide +kernel, rfl, by decide +kernel, by decide +kernel⟩
theorem ok_law_k66_kind (T : Tx A.K mg A) {f : Addr} {fd : FuncData} (F : Fun A.K "_law_k66_kind" "_law_k66_kind" s_law_k66_kind f fd) : FnOk P w A.K mg base CX0 1 f fd ["error"] (spP A.K (f_law_k66_kind A)) :=
  fn_pure F sc_law_k66_kind fun H0 F0 R cdv B outer s H E hr =>
  (ss_cons (ss_set (ps_set (i := 1) sc_law_k66_kind.nd rfl (.inl rfl) (ee_of (sf_lst (sa_cons (se_isC (pe_callB call_isiE (by rfl) T.n_isinstance (by decide +kernel) (pa_cons (se_varB 0) (pa_cons (pe_glob (by rfl) T.x_BadDuels rfl) pa_nil)))) (sa_cons (se_isC (pe_callB call_isiE (by rfl) T.n_isinstance (by decide +kernel) (pa_cons (se_varB 0) (pa_cons (pe_glob (by rfl) T.x_BadOdd rfl) pa_nil)))) (sa_cons (se_isC (pe_callB call_isiE (by rfl) T.n_isinstance (by decide +kernel) (pa_cons (se_varB 0) (pa_cons (pe_glob (by rfl) T.x_BadMargins rfl) pa_nil)))) sa_nil)))))))
    (ss_one (ss_ret (ee_of (sf_lc (own := [("at", 2), ("here", 3)]) rfl sc_law_k66_kind.nd (si_enumQ rfl (pi_enumQ (by rfl) T.n_enumerate (sa_cons (se_var 1) sa_nil))) (blkOk_by (N := ["error", "told", "at", "here"]) (sc := defScope s_law_k66_kind) (by decide +kernel)) (fun _ _ _ _ _ => (sg_tup rfl rfl (sgs_cons (sg_name 2 sc_law_k66_kind.nd) (sgs_cons (sg_name 3 sc_law_k66_kind.nd) sgs_nil)))) (fun _ _ _ _ _ => (sts_one (st_val (se_var 3)))) (fun _ _ _ _ _ => (se_var 2)) (by decide))))))
theorem sc_law_tg_pairs : FnScope ["words", "found", "at", "one", "other"] ["words"] (defScope s_law_tg_pairs) := ⟨rfl, rfl, rfl, by decide +kernel, rfl, by decide +kernel, by decide +kernel⟩
theorem ok_law_tg_pairs (T : Tx A.K mg A) {f : Addr} {fd : FuncData} (F : Fun A.K "_law_tg_pairs" "_law_tg_pairs" s_law_tg_pairs f fd) : FnOk P w A.K mg base CX0 1 f fd ["words"] (spP A.K f_law_tg_pairs) :=
  fn_pure F sc_law_tg_pairs fun H0 F0 R cdv B outer s H E hr =>
  (ss_cons (ss_setF (ps_set (i := 1) sc_law_tg_pairs.nd rfl (.inl rfl) (sf_lst sa_nil)))
    (ss_cons (ss_for (ps_for PassesOwn.never rfl (si_enumQ rfl (pi_enumQ (by rfl) T.n_enumerate (sa_cons (se_var 0) sa_nil))) (sg_tup rfl rfl (sgs_cons (sg_name 2 sc_law_tg_pairs.nd) (sgs_cons (sg_name 3 sc_law_tg_pairs.nd) sgs_nil))) (ss_one (ss_ext (ps_expr (pe_bm PySem.F.plainAttrs_list PySem.F.slot_list_extend PySem.F.type_list_extend mt_extend (pv 1) (pa_cons (ee_of (sf_lc (own := [("other", 4)]) rfl sc_law_tg_pairs.nd (si_seq rfl (se_sl rfl (se_varB 0) (so_some (se_add rfl (se_varB 2) (eb_of se_int))) so_none)) (blkOk_by (N := ["words", "found", "at", "one", "other"]) (sc := defScope s_law_tg_pairs) (by decide +kernel)) (fun _ _ _ _ _ => (sg_name 4 sc_law_tg_pairs.nd)) (fun _ _ _ _ _ => sts_nil) (fun _ _ _ _ _ => (se_tup (sa_cons (se_var 3) (sa_cons (se_var 4) sa_nil)))) (by decide))) pa_nil)))))))
    (ss_one (ss_frz 1 (ss_ret (se_var 1))))))
theorem sc_law_is_truth : FnScope ["found", "due"] ["found", "due"] (defScope s_law_is_truth) := ⟨rfl, rfl, rfl, by decide +kernel, rfl, by decide +kernel, by decide +kernel⟩
theorem ok_law_is_truth (T : Tx A.K mg A) {f : Addr} {fd : FuncData} (F : Fun A.K "_law_is_truth" "_law_is_truth" s_law_is_truth f fd) : FnOk P w A.K mg base CX0 1 f fd ["found", "due"] (spP A.K f_law_is_truth) :=
  fn_pure F sc_law_is_truth fun H0 F0 R cdv B outer s H E hr =>
  (ss_one (ss_ret (se_ite (st_val (se_var 1)) (se_is (se_varB 0) (eb_of se_bl)) (se_is (se_varB 0) (eb_of se_bl)))))
theorem sc_law_same : FnScope ["found", "due", "waiting", "one", "other", "alike", "key", "left", "right"] ["found", "due"] (defScope s_law_same) := ⟨rfl, rfl, rfl, by decide +kernel, rfl, by decide +kernel, by decide +kernel⟩
theorem ok_law_same (T : Tx A.K mg A) (c_law_is_truth : Cal P w A.K mg base 1 "_law_is_truth" (spP A.K f_law_is_truth) []) {f : Addr} {fd : FuncData} (F : Fun A.K "_law_same" "_law_same" s_law_same f fd) : FnOk P w A.K mg base CX0 2 f fd ["found", "due"] (spP A.K f_law_same) :=
  fn_pure F sc_law_same fun H0 F0 R cdv B outer s H E hr =>
  (ss_cons (ss_setF (ps_set (i := 2) sc_law_same.nd rfl (.inl rfl) (sf_lst (sa_cons (se_tup (sa_cons (se_var 0) (sa_cons (se_var 1) sa_nil))) sa_nil))))
    (ss_cons (ss_while (ps_while PassesOwn.never (st_ne rfl (u64 hr) (se_varB 2) (eb_of (ee_of (sf_lst sa_nil)))) (ss_cons (ss_pop (ps_asg (pe_bm0 PySem.F.plainAttrs_list PySem.F.slot_list_pop PySem.F.type_list_pop mt_pop (pv 2)) (sg_tup rfl rfl (sgs_cons (sg_name 3 sc_law_same.nd) (sgs_cons (sg_name 4 sc_law_same.nd) sgs_nil)))))
    (ss_one (ss_if (L2.PW.pt (sw_or (st_is (se_varB 4) (eb_of se_non)) (sw_or1 (st_val (se_isi (pe_callB call_isi (by rfl) T.n_isinstance (by decide +kernel) (pa_cons (se_varB 4) (pa_cons (pe_bltn (by rfl) T.n_bool (by decide +kernel) rfl) pa_nil)))))))) (ss_one (ss_if (st_ite (st_is (se_varB 4) (eb_of se_non)) (st_isnot (se_varB 3) (eb_of se_non)) (st_not (st_val (se_call (pe_c c_law_is_truth hr (by decide) (by rfl) (sa_cons (se_var 3) (sa_cons (se_var 4) sa_nil))))))) (ss_one (ss_ret se_bl)) ss_nil)) (ss_one (ss_if (st_val (se_isi2 (pe_callB call_isiT (by rfl) T.n_isinstance (by decide +kernel) (pa_cons (se_varB 4) (pa_cons (pe_tup (pa_cons (pe_bltn (by rfl) T.n_int (by decide +kernel) rfl) (pa_cons (pe_bltn (by rfl) T.n_str (by decide +kernel) rfl) pa_nil))) pa_nil))))) (ss_one (ss_if (L2.PW.pt (sw_or (st_val (se_isi (pe_callB call_isi (by rfl) T.n_isinstance (by decide +kernel) (pa_cons (se_varB 3) (pa_cons (pe_bltn (by rfl) T.n_bool (by decide +kernel) rfl) pa_nil))))) (sw_or (st_ne rfl (u64 hr) (eb_of (se_isi (pe_callB call_isi (by rfl) T.n_isinstance (by decide +kernel) (pa_cons (se_varB 3) (pa_cons (pe_bltn (by rfl) T.n_int (by decide +kernel) rfl) pa_nil))))) (eb_of (se_isi (pe_callB call_isi (by rfl) T.n_isinstance (by decide +kernel) (pa_cons (se_varB 4) (pa_cons (pe_bltn (by rfl) T.n_int (by decide +kernel) rfl) pa_nil)))))) (sw_or1 (st_ne rfl (u64 hr) (se_varB 3) (se_varB 4)))))) (ss_one (ss_ret se_bl)) ss_nil)) (ss_one (ss_if (st_val (se_isi (pe_callB call_isi (by rfl) T.n_isinstance (by decide +kernel) (pa_cons (se_varB 4) (pa_cons (pe_bltn (by rfl) T.n_dict (by decide +kernel) rfl) pa_nil))))) sss_never (ss_cons (ss_set (ps_set (i := 5) sc_law_same.nd rfl (.inl rfl) (ee_of (sf_lst (sa_cons (se_andV (se_isi (pe_callB call_isi (by rfl) T.n_isinstance (by decide +kernel) (pa_cons (se_varB 3) (pa_cons (pe_bltn (by rfl) T.n_tuple (by decide +kernel) rfl) pa_nil)))) (se_one (se_isi (pe_callB call_isi (by rfl) T.n_isinstance (by decide +kernel) (pa_cons (se_varB 4) (pa_cons (pe_bltn (by rfl) T.n_tuple (by decide +kernel) rfl) pa_nil)))))) (sa_cons (se_andV (se_isi (pe_callB call_isi (by rfl) T.n_isinstance (by decide +kernel) (pa_cons (se_varB 3) (pa_cons (pe_bltn (by rfl) T.n_list (by decide +kernel) rfl) pa_nil)))) (se_one (se_isi (pe_callB call_isi (by rfl) T.n_isinstance (by decide +kernel) (pa_cons (se_varB 4) (pa_cons (pe_bltn (by rfl) T.n_list (by decide +kernel) rfl) pa_nil)))))) sa_nil))))))
    (ss_cons (ss_if (L2.PW.pt (sw_or (st_nin rfl (u65 hr) (by rfl) (eb_of se_bl) (se_varB 5)) (sw_or1 (st_ne rfl (u64 hr) (eb_of (se_cb (c_lenA.or (c_lenK.or c_lenS)) (pe_callB (c_len rfl) (by rfl) T.n_len boot_len (sb_cons (se_varB 3) sb_nil)))) (eb_of (se_cb (c_lenA.or (c_lenK.or c_lenS)) (pe_callB (c_len rfl) (by rfl) T.n_len boot_len (sb_cons (se_varB 4) sb_nil)))))))) (ss_one (ss_ret se_bl)) ss_nil)
    (ss_one (ss_ext (ps_expr (pe_bm PySem.F.plainAttrs_list PySem.F.slot_list_extend PySem.F.type_list_extend mt_extend (pv 2) (pa_cons (ee_of (sf_lc (own := [("left", 7), ("right", 8)]) rfl sc_law_same.nd (si_zip2 rfl (pi_zip2 (by rfl) T.n_zip (sa_cons (se_var 3) (sa_cons (se_var 4) sa_nil)))) (blkOk_by (N := ["found", "due", "waiting", "one", "other", "alike", "key", "left", "right"]) (sc := defScope s_law_same) (by decide +kernel)) (fun _ _ _ _ _ => (sg_tup rfl rfl (sgs_cons (sg_name 7 sc_law_same.nd) (sgs_cons (sg_name 8 sc_law_same.nd) sgs_nil)))) (fun _ _ _ _ _ => sts_nil) (fun _ _ _ _ _ => (se_tup (sa_cons (se_var 7) (sa_cons (se_var 8) sa_nil)))) (by decide))) pa_nil))))))))))))))))
    (ss_one (ss_ret se_bl))))
theorem sc_law_tg_margins : FnScope ["words", "voters", "found", "one", "other", "voter"] ["words", "voters"] (defScope s_law_tg_margins) := ⟨rfl, rfl, rfl, by decide +kernel, rfl, by decide +kernel, by decide +kernel⟩
theorem ok_law_tg_margins (T : Tx A.K mg A) (c_law_tg_pairs : Cal P w A.K mg base 1 "_law_tg_pairs" (spP A.K f_law_tg_pairs) []) {f : Addr} {fd : FuncData} (F : Fun A.K "_law_tg_margins" "_law_tg_margins" s_law_tg_margins f fd) : FnOk P w A.K mg base CX0 2 f fd ["words", "voters"] (spP A.K f_law_tg_margins) :=
  fn_pure F sc_law_tg_margins fun H0 F0 R cdv B outer s H E hr =>
  (ss_cons (ss_setF (ps_set (i := 2) sc_law_tg_margins.nd rfl (.inl rfl) (sf_lst sa_nil)))
    (ss_cons (ss_for (ps_for PassesOwn.never rfl (si_seq rfl (se_call (pe_c c_law_tg_pairs hr (by decide) (by rfl) (sa_cons (se_var 0) sa_nil)))) (sg_tup rfl rfl (sgs_cons (sg_name 3 sc_law_tg_margins.nd) (sgs_cons (sg_name 4 sc_law_tg_margins.nd) sgs_nil))) (ss_one (ss_app (ps_expr (pe_bm PySem.F.plainAttrs_list PySem.F.slot_list_append PySem.F.type_list_append mt_append (pv 2) (pa_cons (se_cb (c_sum) (pe_callB (cr_sum rfl) (by rfl) T.n_sum (by decide +kernel) (sb_cons (eb_of (ee_of (sf_lc (own := [("voter", 5)]) rfl sc_law_tg_margins.nd (si_seq rfl (se_var 1)) (blkOk_by (N := ["words", "voters", "found", "one", "other", "voter"]) (sc := defScope s_law_tg_margins) (by decide +kernel)) (fun _ _ _ _ _ => (sg_name 5 sc_law_tg_margins.nd)) (fun _ _ _ _ _ => sts_nil) (fun _ _ _ _ _ => (se_ite (st_lt (eb_of (se_index (se_varB 5) (se_varB 3))) (eb_of (se_index (se_varB 5) (se_varB 4)))) se_int (se_neg (eb_of se_int)))) (by decide)))) sb_nil))) pa_nil)))))))
    (ss_one (ss_ret (se_cb (c_tuple) (pe_callTy call_tuple_of (by rfl) T.n_tuple (by decide +kernel) (sb_cons (se_varB 2) sb_nil)))))))
theorem sc_law_is_word : FnScope ["value", "letter"] ["value"] (defScope s_law_is_word) := ⟨rfl, rfl, rfl, by decide +kernel, rfl, by decide +kernel, by decide +kernel⟩
theorem ok_law_is_word (T : Tx A.K mg A) {f : Addr} {fd : FuncData} (F : Fun A.K "_law_is_word" "_law_is_word" s_law_is_word f fd) : FnOk P w A.K mg base CX0 1 f fd ["value"] (spP A.K f_law_is_word) :=
  fn_pure F sc_law_is_word fun H0 F0 R cdv B outer s H E hr =>
  (ss_cons (ss_if (L2.PW.pt (sw_or (st_not (st_val (se_isi (pe_callB call_isi (by rfl) T.n_isinstance (by decide +kernel) (pa_cons (se_varB 0) (pa_cons (pe_bltn (by rfl) T.n_str (by decide +kernel) rfl) pa_nil)))))) (sw_or1 (st_not (st_chn op_le op_le r_le r_le (eb_of se_int) (eb_of (se_cb (c_lenA.or (c_lenK.or c_lenS)) (pe_callB (c_len rfl) (by rfl) T.n_len boot_len (sb_cons (se_varB 0) sb_nil)))) (eb_of se_int)))))) (ss_one (ss_ret se_bl)) ss_nil)
    (ss_one (ss_ret (se_eq rfl (u64 hr) (eb_of (ee_of (sf_lc (own := [("letter", 1)]) rfl sc_law_is_word.nd (si_str (se_var 0)) (blkOk_by (N := ["value", "letter"]) (sc := defScope s_law_is_word) (by decide +kernel)) (fun _ _ _ _ _ => (sg_name 1 sc_law_is_word.nd)) (fun _ _ _ _ _ => (sts_one (st_nin rfl (u65 hr) (by rfl) (se_varB 1) (eb_of se_str)))) (fun _ _ _ _ _ => (se_var 1)) (by decide)))) (eb_of (ee_of (sf_lst sa_nil)))))))
theorem sc_law_tg_are_voters : FnScope ["value", "voter", "word"] ["value"] (defScope s_law_tg_are_voters) := ⟨rfl, rfl, rfl, by decide +kernel, rfl, by decide +kernel, by decide +kernel⟩
theorem ok_law_tg_are_voters (T : Tx A.K mg A) (c_law_is_word : Cal P w A.K mg base 1 "_law_is_word" (spP A.K f_law_is_word) []) {f : Addr} {fd : FuncData} (F : Fun A.K "_law_tg_are_voters" "_law_tg_are_voters" s_law_tg_are_voters f fd) : FnOk P w A.K mg base CX0 2 f fd ["value"] (spP A.K f_law_tg_are_voters) :=
  fn_pure F sc_law_tg_are_voters fun H0 F0 R cdv B outer s H E hr =>
  (ss_cons (ss_if (L2.PW.pt (sw_or (st_not (st_val (se_isi (pe_callB call_isi (by rfl) T.n_isinstance (by decide +kernel) (pa_cons (se_varB 0) (pa_cons (pe_bltn (by rfl) T.n_tuple (by decide +kernel) rfl) pa_nil)))))) (sw_or1 (st_not (st_chn op_le op_le r_le r_le (eb_of se_int) (eb_of (se_cb (c_lenA.or (c_lenK.or c_lenS)) (pe_callB (c_len rfl) (by rfl) T.n_len boot_len (sb_cons (se_varB 0) sb_nil)))) (eb_of se_int)))))) (ss_one (ss_ret se_bl)) ss_nil)
    (ss_cons (ss_for (ps_for PassesOwn.never rfl (si_seq rfl (se_var 0)) (sg_name 1 sc_law_tg_are_voters.nd) (ss_cons (ss_if (L2.PW.pt (sw_or (st_not (st_val (se_isi (pe_callB call_isi (by rfl) T.n_isinstance (by decide +kernel) (pa_cons (se_varB 1) (pa_cons (pe_bltn (by rfl) T.n_tuple (by decide +kernel) rfl) pa_nil)))))) (sw_or (st_ne rfl (u64 hr) (eb_of (ee_of (sf_lc (own := [("word", 2)]) rfl sc_law_tg_are_voters.nd (si_seq rfl (se_var 1)) (blkOk_by (N := ["value", "voter", "word"]) (sc := defScope s_law_tg_are_voters) (by decide +kernel)) (fun _ _ _ _ _ => (sg_name 2 sc_law_tg_are_voters.nd)) (fun _ _ _ _ _ => (sts_one (st_not (st_val (se_call (pe_c c_law_is_word hr (by decide) (by rfl) (sa_cons (se_var 2) sa_nil))))))) (fun _ _ _ _ _ => se_int) (by decide)))) (eb_of (ee_of (sf_lst sa_nil)))) (sw_or1 (st_ne rfl (u64 hr) (eb_of (se_lensetS rfl (pe_lensetS (by rfl) T.n_len (by rfl) T.n_set (se_varB 1)))) (eb_of (se_cb (c_lenA.or (c_lenK.or c_lenS)) (pe_callB (c_len rfl) (by rfl) T.n_len boot_len (sb_cons (se_varB 1) sb_nil))))))))) (ss_one (ss_ret se_bl)) ss_nil)
    (ss_one (ss_if (st_ne rfl (u64 hr) (eb_of (ee_of (sf_cb c_sortS (pe_callB cr_sortStr (by rfl) T.n_sorted (by decide +kernel) (sb_cons (se_varB 1) sb_nil))))) (eb_of (ee_of (sf_cb c_sortS (pe_callB cr_sortStr (by rfl) T.n_sorted (by decide +kernel) (sb_cons (eb_of (se_ix rfl (se_varB 0) (eb_of se_int))) sb_nil)))))) (ss_one (ss_ret se_bl)) ss_nil)))))
    (ss_one (ss_ret (se_chn op_le op_le r_le r_le (eb_of se_int) (eb_of (se_cb (c_lenA.or (c_lenK.or c_lenS)) (pe_callB (c_len rfl) (by rfl) T.n_len boot_len (sb_cons (eb_of (se_ix rfl (se_varB 0) (eb_of se_int))) sb_nil)))) (eb_of se_int))))))
theorem sc_law : FnScope ["script", "draws", "turn", "words", "pool", "signs", "told", "odd", "some", "wrong", "found", "numbers", "pair", "number"] ["script"] (defScope s_law) := ⟨rfl, rfl, rfl, by decide +kernel, rfl, by decide +kernel, by decide +kernel⟩
def lamQ : Str := "law.<locals>.<lambda>"
theorem ok_law (T : Tx A.K mg A) (c_law_begun : Cal P w A.K mg base 1 "_law_begun" (spBegun A.K) []) (c_law_words : Cal P w A.K mg base 4 "_law_words" (spR A.K f_law_words) []) (c_law_draw : Cal P w A.K mg base 2 "_law_draw" (spR A.K f_law_draw) []) (c_law_pick : Cal P w A.K mg base 3 "_law_pick" (spR A.K f_law_pick) []) (c_law_tg_pairs : Cal P w A.K mg base 1 "_law_tg_pairs" (spP A.K f_law_tg_pairs) []) (c_duel_voters : Cal P w A.K mg base 5 "duel_voters" (spP A.K (f_duel_voters A)) []) (c_law_same : Cal P w A.K mg base 2 "_law_same" (spP A.K f_law_same) []) (c_law_tg_are_voters : Cal P w A.K mg base 2 "_law_tg_are_voters" (spP A.K f_law_tg_are_voters) []) (c_law_tg_margins : Cal P w A.K mg base 2 "_law_tg_margins" (spP A.K f_law_tg_margins) []) (c_law_k66_kind : Cal P w A.K mg base 1 "_law_k66_kind" (spP A.K (f_law_k66_kind A)) []) (ck_duel_voters : CalK P w A.K mg base 5 "duel_voters" (spP A.K (f_duel_voters A)) ["odd", "duels"] [1, 0]) (cx_duel_voters : CalX P w A.K mg base 5 "duel_voters" (spX A.K (x_duel_voters A))) (cau_law_caught : CauFn A.K mg "_law_caught" A.c_ShownError) {f : Addr} {fd : FuncData} {cA PA : Addr} (F : FunC A.K "law" "law" s_law f fd cA) (TB : LamX.TabB base mg cA PA) : FnOk P w A.K mg base CX0 8 f fd ["script"] (spLawT A.K 14 1 [(PA, lamQ)] (m_law A)) :=
  law_okT (T := [(PA, lamQ)]) (N := ["script", "draws", "turn", "words", "pool", "signs", "told", "odd", "some", "wrong", "found", "numbers", "pair", "number"]) F sc_law (by decide) (by decide) fun H0 F0 R B outer s H E hr => pss_cons (ps_set (i := 1) sc_law.nd rfl (.inr rfl) (pe_c c_law_begun hr (by decide) (by rfl) (pa_cons (pv 0) pa_nil))) (
  (ss_cons (ss_for (ps_for PassesOwn.never rfl (si_rg1 (pi_range1 (by rfl) T.n_range (sb_cons (eb_of (se_addX rfl (eb_of se_int) (eb_of (se_cb (c_min) (pe_callB (call_min2 rfl) (by rfl) T.n_min (by decide +kernel) (sb_cons (eb_of (se_cb (c_lenA.or (c_lenK.or c_lenS)) (pe_callB (c_len rfl) (by rfl) T.n_len boot_len (sb_cons (se_varB 0) sb_nil)))) (sb_cons (eb_of se_int) sb_nil))))))) sb_nil))) (sg_name 2 sc_law.nd) (ss_cons (ss_set (ps_set (i := 3) sc_law.nd rfl (.inl rfl) (se_cb (c_tupleX) (pe_callTy call_tupleX (by rfl) T.n_tuple (by decide +kernel) (sb_cons (eb_of (se_callR (pe_c c_law_words hr (by decide) (by rfl) (sa_cons (se_var 1) (sa_cons (se_addX rfl (eb_of se_int) (eb_of (se_callR (pe_c c_law_draw hr (by decide) (by rfl) (sa_cons (se_var 1) (sa_cons se_int sa_nil)))))) sa_nil))))) sb_nil)))))
    (ss_cons (ss_set (ps_set (i := 4) sc_law.nd rfl (.inr rfl) (se_callR (pe_c c_law_pick hr (by decide) (by rfl) (sa_cons (se_var 1) (sa_cons (ee_of (sf_lst (sa_cons (ee_of (sf_lst (sa_cons (se_neg (eb_of se_int)) (sa_cons se_int sa_nil)))) (sa_cons (ee_of (sf_lst (sa_cons (se_neg (eb_of se_int)) (sa_cons se_int (sa_cons se_int sa_nil))))) (sa_cons (ee_of (sf_lst (sa_cons se_int sa_nil))) (sa_cons (ee_of (sf_lst (sa_cons se_int sa_nil))) sa_nil)))))) sa_nil))))))
    (ss_cons (ss_set (ps_set (i := 5) sc_law.nd rfl (.inl rfl) (se_cb (c_tupleX) (pe_callTy call_tupleX (by rfl) T.n_tuple (by decide +kernel) (sb_cons (eb_of (ee_of (sf_lc (own := [("pair", 12)]) rfl sc_law.nd (si_seq rfl (se_call (pe_c c_law_tg_pairs hr (by decide) (by rfl) (sa_cons (se_var 3) sa_nil)))) (blkOk_by (N := ["script", "draws", "turn", "words", "pool", "signs", "told", "odd", "some", "wrong", "found", "numbers", "pair", "number"]) (sc := defScope s_law) (by decide +kernel)) (fun _ _ _ _ _ => (sg_name 12 sc_law.nd)) (fun _ _ _ _ _ => sts_nil) (fun _ _ _ _ _ => (se_callR (pe_c c_law_pick hr (by decide) (by rfl) (sa_cons (se_var 1) (sa_cons (se_var 4) sa_nil))))) (by decide)))) sb_nil)))))
    (ss_cons (ss_set (ps_set (i := 6) sc_law.nd rfl (.inr rfl) (se_tupX (sa_cons se_str (sa_cons (se_var 3) (sa_cons (se_var 5) sa_nil))))))
    (ss_cons (ss_for (ps_for PassesOwn.never rfl (si_seq rfl (ee_of (sf_lst (sa_cons se_bl (sa_cons se_bl sa_nil))))) (sg_name 7 sc_law.nd) (ss_cons (ss_set (ps_set (i := 10) sc_law.nd rfl (.inl rfl) (se_call (pe_c c_duel_voters hr (by decide) (by rfl) (sa_cons (se_var 6) (sa_cons (se_var 7) sa_nil))))))
    (ss_cons (ss_if (L2.PW.pt (sw_or (st_not (st_val (se_call (pe_c c_law_same hr (by decide) (by rfl) (sa_cons (se_callK0 (pe_ck ck_duel_voters hr (by decide) (by rfl) (sk_cons (se_var 7) (sk_cons (se_var 6) sk_nil)))) (sa_cons (se_var 10) sa_nil)))))) (sw_or1 (st_ne rfl (u64 hr) (eb_of (se_is (se_varB 10) (eb_of se_non))) (eb_of (se_andV (se_var 7) (se_one (se_in rfl (u65 hr) (by rfl) (eb_of se_int) (se_varB 5))))))))) (ss_one (ss_ret se_bl)) ss_nil)
    (ss_one (ss_if (st_isnot (se_varB 10) (eb_of se_non)) (ss_cons (ss_set (ps_set (i := 11) sc_law.nd rfl (.inl rfl) (se_ite (L2.PW.pt (sw_and (st_val (se_call (pe_c c_law_tg_are_voters hr (by decide) (by rfl) (sa_cons (se_var 10) sa_nil)))) (sw_and1 (st_eq rfl (u64 hr) (eb_of (se_cb (c_tupleX) (pe_callTy call_tupleX (by rfl) T.n_tuple (by decide +kernel) (sb_cons (eb_of (ee_of (sf_cb c_sortS (pe_callB cr_sortStr (by rfl) T.n_sorted (by decide +kernel) (sb_cons (eb_of (se_ix rfl (se_varB 10) (eb_of se_int))) sb_nil))))) sb_nil)))) (se_varB 3))))) (se_call (pe_c c_law_tg_margins hr (by decide) (by rfl) (sa_cons (se_var 3) (sa_cons (se_var 10) sa_nil)))) (se_tupX sa_nil))))
    (ss_one (ss_if (L2.PW.pt (sw_or (st_ne rfl (u64 hr) (eb_of (se_cb (c_tupleX) (pe_callTy call_tupleX (by rfl) T.n_tuple (by decide +kernel) (sb_cons (eb_of (ee_of (sf_lc (own := [("number", 13)]) rfl sc_law.nd (si_seq rfl (se_var 11)) (blkOk_by (N := ["script", "draws", "turn", "words", "pool", "signs", "told", "odd", "some", "wrong", "found", "numbers", "pair", "number"]) (sc := defScope s_law) (by decide +kernel)) (fun _ _ _ _ _ => (sg_name 13 sc_law.nd)) (fun _ _ _ _ _ => sts_nil) (fun _ _ _ _ _ => (se_ite (st_eq rfl (u64 hr) (se_varB 13) (eb_of se_int)) se_int (se_ite (st_gt (se_varB 13) (eb_of se_int)) se_int (se_neg (eb_of se_int))))) (by decide)))) sb_nil)))) (se_varB 5)) (sw_or1 (L2.PW.pt (sw_and (st_val (se_var 7)) (sw_and1 (st_ne rfl (u64 hr) (eb_of (se_mod (eb_of (se_cb (c_lenA.or (c_lenK.or c_lenS)) (pe_callB (c_len rfl) (by rfl) T.n_len boot_len (sb_cons (se_varB 10) sb_nil)))) (eb_of se_int))) (eb_of se_int)))))))) (ss_one (ss_ret se_bl)) ss_nil))) ss_nil))))))
    (ss_cons (ss_set (ps_set (i := 8) sc_law.nd rfl (.inl rfl) (ee_of (sf_lst (sa_cons se_non (sa_cons (se_tupX (sa_cons se_str (sa_cons (se_var 3) (sa_cons (se_var 5) sa_nil)))) (sa_cons (se_tupX (sa_cons se_str (sa_cons (se_var 3) (sa_cons (se_addX rfl (se_varB 5) (eb_of (se_tupX (sa_cons se_int sa_nil)))) sa_nil)))) (sa_cons (se_tupX (sa_cons se_str (sa_cons (se_var 3) (sa_cons (se_addX rfl (eb_of (se_tupX (sa_cons se_int sa_nil))) (eb_of (se_sl rfl (se_varB 5) (so_some se_int) so_none))) sa_nil)))) (sa_cons (se_tupX (sa_cons se_str (sa_cons (se_revTupX rfl (pe_revTupX (se_varB 3))) (sa_cons (se_var 5) sa_nil)))) sa_nil)))))))))
    (ss_cons (ss_set (ps_set (i := 9) sc_law.nd rfl (.inr rfl) (se_callR (pe_c c_law_pick hr (by decide) (by rfl) (sa_cons (se_var 1) (sa_cons (ee_of (sf_addL (se_varB 8) (eb_of (ee_of (sf_lst (sa_cons (se_tupX (sa_cons se_str (sa_cons (se_var 3) (sa_cons (se_addX rfl (eb_of (se_tupX (sa_cons se_bl sa_nil))) (eb_of (se_sl rfl (se_varB 5) (so_some se_int) so_none))) sa_nil)))) sa_nil)))))) sa_nil))))))
    (ss_cons (ss_if (st_ne rfl (u64 hr) (eb_of (se_call (pe_c c_law_k66_kind hr (by decide) (by rfl) (sa_cons (se_caught (k := 5) cau_law_caught rfl (by rfl) (List.mem_singleton.mpr rfl) (fun p hp _ => by cases List.mem_singleton.mp hp; rfl) TB rfl (hr.mono (by decide)) (lamS_by (sc := defScope s_law) (by decide +kernel)) (fun B2 outer2 s2 H2 E2 f2 c2 hr => act_call c_duel_voters cx_duel_voters hr (by decide) (by rfl) (sa_cons (se_var 9) (sa_cons se_non sa_nil)))) sa_nil)))) (eb_of (ee_of (sf_lst (sa_cons se_int sa_nil))))) (ss_one (ss_ret se_bl)) ss_nil)
    (ss_one (ss_if (st_ne rfl (u64 hr) (eb_of (se_call (pe_c c_law_k66_kind hr (by decide) (by rfl) (sa_cons (se_caught (k := 5) cau_law_caught rfl (by rfl) (List.mem_singleton.mpr rfl) (fun p hp _ => by cases List.mem_singleton.mp hp; rfl) TB rfl (hr.mono (by decide)) (lamS_by (sc := defScope s_law) (by decide +kernel)) (fun B2 outer2 s2 H2 E2 f2 c2 hr => act_call c_duel_voters cx_duel_voters hr (by decide) (by rfl) (sa_cons (se_var 6) (sa_cons (se_callR (pe_c c_law_pick hr (by decide) (by rfl) (sa_cons (se_var 1) (sa_cons (ee_of (sf_lst (sa_cons se_non (sa_cons se_int (sa_cons se_int (sa_cons se_str (sa_cons (se_tupX sa_nil) sa_nil))))))) sa_nil)))) sa_nil)))) sa_nil)))) (eb_of (ee_of (sf_lst (sa_cons se_int sa_nil))))) (ss_one (ss_ret se_bl)) ss_nil))))))))))))
    (ss_one (ss_ret se_bl))))
end
end K66
namespace K66
open PySem PySem.Spec PyProof.Rows L2 Dv
open C8 (Cal)
theorem fun_ofD {K : PySem.W.Frag} {x : Str} {st : Stmt} {f : Addr} {fd : FuncData} (F : FunD K x x (defArgs st) (defBody st) (defScope st) [] [] f fd) : Fun K x x st f fd := by
  obtain ⟨oc, od, dV, kV, doc, pm, an, cdv, ct, osl, rfl, lk, hcd, hD, hK⟩ := F.ex
  rcases hD with ⟨_, rfl⟩ | ⟨e, _⟩
  · exact ⟨⟨oc, od, kV, doc, pm, an, cdv, ct, osl, rfl, lk, hcd⟩, F.kp⟩
  · exact absurd rfl e
theorem cal_of {P : Program} {w : World} {K : PySem.W.Frag} {mg : Str → Option Value} {base : Heap} {k : Nat} {x : Str} {st : Stmt} {f : Addr} {fd : FuncData} {ps : List Str} {sp : Sp} (F : Fun K x x st f fd) (ok : FnOk P w K mg base CX0 k f fd ps sp) (e : mg x = some (.ref f))
    (h : ∀ (kV doc pm : Value) (an : Option Addr) (cdv ct : Value) (us : List Value), us.length = ps.length → bindArgs (PySem.W.fnOf x x (defArgs st) (defBody st) (defScope st) .none kV doc pm an cdv ct) ⟨us, []⟩ = pure (ps.zip us)) : Cal P w K mg base k x sp [] :=
  ⟨f, fd, ps, [], ok, e, F.kp, F.binds h, .nil⟩
section
variable {P : Program} {w : World} {K : PySem.W.Frag} {h : Heap} {mg : Str → Option Value}
theorem factX (c : He.SaysD hfa hfn K) (i : Nat) {f : He.Fa} (h : hfa[i]? = some f := by rfl) : f.ok K = true := c.fact i h
theorem defX (c : He.SaysD hfa hfn K) (i : Nat) {d : He.DefD} (h : hfn[i]? = some d := by rfl) : ∃ fd, FunD K d.name d.qual d.params d.body d.scope (d.dvs K) (d.kws K) (He.fAd K d.at_) fd := c.def_ i h
theorem exX (c : hexB K = true) (i : Nat) {b : Bool} (h : (hex K)[i]? = some b := by rfl) : b = true := List.all_eq_true.mp c b (List.mem_of_getElem? h)
def adX (K : PySem.W.Frag) : Ads := ⟨K, He.ga K "is_sign", He.ga K "BadDuels", He.ga K "BadMargins", He.ga K "BadOdd", He.ga K "ShownError"⟩
theorem txX (X : K.In h) (G : h.Ns mainGlobals mg) (c : He.SaysD hfa hfn K) (c2 : hexB K = true) : Tx K mg (adX K) where
  a_is_sign := He.glo_ok X G (factX c 13)
  g_LEAST_THINGS := let ⟨t, e⟩ := He.int_ok X G (factX c 25); ⟨_, e, t, rfl⟩
  g_LETTERS := let ⟨t, e⟩ := He.str_ok X G (factX c 26); ⟨_, e, t, rfl⟩
  g_MOST_THINGS := let ⟨t, e⟩ := He.int_ok X G (factX c 27); ⟨_, e, t, rfl⟩
  n_abs := He.free_ok X G (factX c 28)
  n_all := He.free_ok X G (factX c 29)
  n_any := He.free_ok X G (factX c 30)
  n_bool := He.free_ok X G (factX c 31)
  n_dict := He.free_ok X G (factX c 32)
  n_enumerate := He.free_ok X G (factX c 33)
  n_int := He.free_ok X G (factX c 34)
  n_isinstance := He.free_ok X G (factX c 35)
  n_len := He.free_ok X G (factX c 36)
  n_list := He.free_ok X G (factX c 37)
  n_min := He.free_ok X G (factX c 38)
  n_range := He.free_ok X G (factX c 39)
  n_set := He.free_ok X G (factX c 40)
  n_sorted := He.free_ok X G (factX c 41)
  n_str := He.free_ok X G (factX c 42)
  n_sum := He.free_ok X G (factX c 43)
  n_tuple := He.free_ok X G (factX c 44)
  n_zip := He.free_ok X G (factX c 45)
  x_BadDuels := He.glo_ok X G (factX c 46)
  x_BadMargins := He.glo_ok X G (factX c 47)
  x_BadOdd := He.glo_ok X G (factX c 48)
  x_ShownError := He.glo_ok X G (factX c 49)
  e_BadDuels := let h := He.exc_ok (factX c 50); ⟨h.1, h.2.1, h.2.2.1, h.2.2.2⟩
  e_BadOdd := let h := He.exc_ok (factX c 51); ⟨h.1, h.2.1, h.2.2.1, h.2.2.2⟩
theorem adsX (c : He.SaysD hfa hfn K) (c2 : hexB K = true) : AdsOk (adX K) where
  m_BadDuels := He.exm_ok (factX c 52)
  x_BadDuels := excB_ok (exX c2 0)
  i_BadDuels_BadDuels := of_decide_eq_true (exX c2 1)
  i_BadDuels_BadMargins := of_decide_eq_true (exX c2 2)
  i_BadDuels_BadOdd := of_decide_eq_true (exX c2 3)
  m_BadOdd := He.exm_ok (factX c 53)
  x_BadOdd := excB_ok (exX c2 4)
  i_BadOdd_BadDuels := of_decide_eq_true (exX c2 5)
  i_BadOdd_BadMargins := of_decide_eq_true (exX c2 6)
  i_BadOdd_BadOdd := of_decide_eq_true (exX c2 7)
theorem func_of {x : Str} {st : Stmt} {fd : FuncData} (F : FunD K x x (defArgs st) (defBody st) (defScope st) [] [] (He.fAd K (x, none)) fd) : FunC K x x st (He.fAd K (x, none)) fd (He.codeOf K (x, none)) := by
  obtain ⟨oc, od, dV, kV, doc, pm, an, cdv, ct, osl, rfl, lk, hcd, hD, hK⟩ := F.ex
  obtain ⟨c, rfl⟩ := He.codeIn_ref hcd
  have e : He.codeOf K (x, none) = c := He.codeOf_eq lk rfl
  rw [e]
  rcases hD with ⟨_, rfl⟩ | ⟨e, _⟩
  · exact ⟨oc, od, kV, doc, pm, an, ct, osl, rfl, lk, hcd⟩
  · exact absurd rfl e
theorem allX (X : K.In h) (G : h.Ns mainGlobals mg) (c : He.SaysD hfa hfn K) (c2 : hexB K = true) : ∃ fd : FuncData, (∀ (s : Shared) (v : Value), BindsTo s fd ⟨[v], []⟩ [("script", v)]) ∧ ∀ base : Heap, LamX.TabB base mg (He.cT K ("law", none)).1 (He.cT K ("law", none)).2 → FnOk P w K mg base CX0 8 (He.ga K "law") fd ["script"] (spLawT K 14 1 [((He.cT K ("law", none)).2, lamQ)] (m_law (adX K))) := by
  have T := txX X G c c2
  obtain ⟨fd_law_caught, D_law_caught⟩ := defX c 0 (d := d_law_caught) rfl
  have F_law_caught := fun_ofD (st := s_law_caught) D_law_caught
  obtain ⟨fd_law_begun, D_law_begun⟩ := defX c 1 (d := d_law_begun) rfl
  have F_law_begun := fun_ofD (st := s_law_begun) D_law_begun
  obtain ⟨fd_law_blended, D_law_blended⟩ := defX c 2 (d := d_law_blended) rfl
  have F_law_blended := fun_ofD (st := s_law_blended) D_law_blended
  obtain ⟨fd_law_draw, D_law_draw⟩ := defX c 3 (d := d_law_draw) rfl
  have F_law_draw := fun_ofD (st := s_law_draw) D_law_draw
  obtain ⟨fd_law_pick, D_law_pick⟩ := defX c 4 (d := d_law_pick) rfl
  have F_law_pick := fun_ofD (st := s_law_pick) D_law_pick
  obtain ⟨fd_law_words, D_law_words⟩ := defX c 5 (d := d_law_words) rfl
  have F_law_words := fun_ofD (st := s_law_words) D_law_words
  obtain ⟨fd_pairs_of, D_pairs_of⟩ := defX c 6 (d := d_pairs_of) rfl
  have F_pairs_of := fun_ofD (st := s_pairs_of) D_pairs_of
  obtain ⟨fd_two_for, D_two_for⟩ := defX c 7 (d := d_two_for) rfl
  have F_two_for := fun_ofD (st := s_two_for) D_two_for
  obtain ⟨fd_even_voters, D_even_voters⟩ := defX c 8 (d := d_even_voters) rfl
  have F_even_voters := fun_ofD (st := s_even_voters) D_even_voters
  obtain ⟨fd_voters_for, D_voters_for⟩ := defX c 9 (d := d_voters_for) rfl
  have F_voters_for := fun_ofD (st := s_voters_for) D_voters_for
  obtain ⟨fd_is_word, D_is_word⟩ := defX c 10 (d := d_is_word) rfl
  have F_is_word := fun_ofD (st := s_is_word) D_is_word
  obtain ⟨fd_are_things, D_are_things⟩ := defX c 11 (d := d_are_things) rfl
  have F_are_things := fun_ofD (st := s_are_things) D_are_things
  obtain ⟨fd_is_whole, D_is_whole⟩ := defX c 12 (d := d_is_whole) rfl
  have F_is_whole := fun_ofD (st := s_is_whole) D_is_whole
  obtain ⟨fd_is_sign, D_is_sign⟩ := defX c 13 (d := d_is_sign) rfl
  have F_is_sign := fun_ofD (st := s_is_sign) D_is_sign
  obtain ⟨fd_is_table, D_is_table⟩ := defX c 14 (d := d_is_table) rfl
  have F_is_table := fun_ofD (st := s_is_table) D_is_table
  obtain ⟨fd_is_duels, D_is_duels⟩ := defX c 15 (d := d_is_duels) rfl
  have F_is_duels := fun_ofD (st := s_is_duels) D_is_duels
  obtain ⟨fd_duel_voters, D_duel_voters⟩ := defX c 16 (d := d_duel_voters) rfl
  have F_duel_voters := fun_ofD (st := s_duel_voters) D_duel_voters
  obtain ⟨fd_law_k66_kind, D_law_k66_kind⟩ := defX c 17 (d := d_law_k66_kind) rfl
  have F_law_k66_kind := fun_ofD (st := s_law_k66_kind) D_law_k66_kind
  obtain ⟨fd_law_tg_pairs, D_law_tg_pairs⟩ := defX c 18 (d := d_law_tg_pairs) rfl
  have F_law_tg_pairs := fun_ofD (st := s_law_tg_pairs) D_law_tg_pairs
  obtain ⟨fd_law_is_truth, D_law_is_truth⟩ := defX c 19 (d := d_law_is_truth) rfl
  have F_law_is_truth := fun_ofD (st := s_law_is_truth) D_law_is_truth
  obtain ⟨fd_law_same, D_law_same⟩ := defX c 20 (d := d_law_same) rfl
  have F_law_same := fun_ofD (st := s_law_same) D_law_same
  obtain ⟨fd_law_tg_margins, D_law_tg_margins⟩ := defX c 21 (d := d_law_tg_margins) rfl
  have F_law_tg_margins := fun_ofD (st := s_law_tg_margins) D_law_tg_margins
  obtain ⟨fd_law_is_word, D_law_is_word⟩ := defX c 22 (d := d_law_is_word) rfl
  have F_law_is_word := fun_ofD (st := s_law_is_word) D_law_is_word
  obtain ⟨fd_law_tg_are_voters, D_law_tg_are_voters⟩ := defX c 23 (d := d_law_tg_are_voters) rfl
  have F_law_tg_are_voters := fun_ofD (st := s_law_tg_are_voters) D_law_tg_are_voters
  obtain ⟨fd_law, D_law⟩ := defX c 24 (d := d_law) rfl
  have F_law := func_of (st := s_law) D_law
  refine ⟨fd_law, fun s v => FunD.bindsA (ps := ["script"]) D_law (fun _ _ _ _ _ _ us hl => match us, hl with | [_], _ => rfl) s [v] rfl, fun base TB => ?_⟩
  have cau_law_caught := okc_law_caught (A := adX K) T F_law_caught (He.glo_ok X G (factX c 0)) (F_law_caught.binds (ps := ["action"]) (fun _ _ _ _ _ _ us hl => match us, hl with | [_], _ => rfl))
  have o_law_begun := ok_law_begun (P := P) (w := w) (base := base) (A := adX K) T F_law_begun
  have c_law_begun := cal_of F_law_begun o_law_begun (He.glo_ok X G (factX c 1)) (fun _ _ _ _ _ _ us hl => match us, hl with | [_], _ => rfl)
  have o_law_blended := ok_law_blended (P := P) (w := w) (base := base) (A := adX K) T F_law_blended
  have c_law_blended := cal_of F_law_blended o_law_blended (He.glo_ok X G (factX c 2)) (fun _ _ _ _ _ _ us hl => match us, hl with | [_], _ => rfl)
  have o_law_draw := ok_law_draw (P := P) (w := w) (base := base) (A := adX K) T c_law_blended F_law_draw
  have c_law_draw := cal_of F_law_draw o_law_draw (He.glo_ok X G (factX c 3)) (fun _ _ _ _ _ _ us hl => match us, hl with | [_, _], _ => rfl)
  have o_law_pick := ok_law_pick (P := P) (w := w) (base := base) (A := adX K) T c_law_draw F_law_pick
  have c_law_pick := cal_of F_law_pick o_law_pick (He.glo_ok X G (factX c 4)) (fun _ _ _ _ _ _ us hl => match us, hl with | [_, _], _ => rfl)
  have o_law_words := ok_law_words (P := P) (w := w) (base := base) (A := adX K) T c_law_draw c_law_pick F_law_words
  have c_law_words := cal_of F_law_words o_law_words (He.glo_ok X G (factX c 5)) (fun _ _ _ _ _ _ us hl => match us, hl with | [_, _], _ => rfl)
  have o_pairs_of := ok_pairs_of (P := P) (w := w) (base := base) (A := adX K) T F_pairs_of
  have c_pairs_of := cal_of F_pairs_of o_pairs_of (He.glo_ok X G (factX c 6)) (fun _ _ _ _ _ _ us hl => match us, hl with | [_], _ => rfl)
  have o_two_for := ok_two_for (P := P) (w := w) (base := base) (A := adX K) T F_two_for
  have c_two_for := cal_of F_two_for o_two_for (He.glo_ok X G (factX c 7)) (fun _ _ _ _ _ _ us hl => match us, hl with | [_, _, _], _ => rfl)
  have o_even_voters := ok_even_voters (P := P) (w := w) (base := base) (A := adX K) T c_pairs_of c_two_for F_even_voters
  have c_even_voters := cal_of F_even_voters o_even_voters (He.glo_ok X G (factX c 8)) (fun _ _ _ _ _ _ us hl => match us, hl with | [_, _], _ => rfl)
  have o_voters_for := ok_voters_for (P := P) (w := w) (base := base) (A := adX K) T c_even_voters F_voters_for
  have c_voters_for := cal_of F_voters_for o_voters_for (He.glo_ok X G (factX c 9)) (fun _ _ _ _ _ _ us hl => match us, hl with | [_, _], _ => rfl)
  have o_is_word := ok_is_word (P := P) (w := w) (base := base) (A := adX K) T F_is_word
  have c_is_word := cal_of F_is_word o_is_word (He.glo_ok X G (factX c 10)) (fun _ _ _ _ _ _ us hl => match us, hl with | [_], _ => rfl)
  have o_are_things := ok_are_things (P := P) (w := w) (base := base) (A := adX K) T c_is_word F_are_things
  have c_are_things := cal_of F_are_things o_are_things (He.glo_ok X G (factX c 11)) (fun _ _ _ _ _ _ us hl => match us, hl with | [_], _ => rfl)
  have o_is_whole := ok_is_whole (P := P) (w := w) (base := base) (A := adX K) T F_is_whole
  have c_is_whole := cal_of F_is_whole o_is_whole (He.glo_ok X G (factX c 12)) (fun _ _ _ _ _ _ us hl => match us, hl with | [_], _ => rfl)
  have o_is_sign := ok_is_sign (P := P) (w := w) (base := base) (A := adX K) T F_is_sign
  have c_is_sign := cal_of F_is_sign o_is_sign (He.glo_ok X G (factX c 13)) (fun _ _ _ _ _ _ us hl => match us, hl with | [_], _ => rfl)
  have cat_is_sign : Cat P w K mg base 1 (adX K).is_sign fd_is_sign ["number"] (spP K f_is_sign) := ⟨o_is_sign, F_is_sign.kp, F_is_sign.binds (fun _ _ _ _ _ _ us hl => match us, hl with | [_], _ => rfl)⟩
  have o_is_table := ok_is_table (P := P) (w := w) (base := base) (A := adX K) T c_are_things c_pairs_of c_is_whole cat_is_sign F_is_table
  have c_is_table := cal_of F_is_table o_is_table (He.glo_ok X G (factX c 14)) (fun _ _ _ _ _ _ us hl => match us, hl with | [_, _, _], _ => rfl)
  have o_is_duels := ok_is_duels (P := P) (w := w) (base := base) (A := adX K) T c_is_table F_is_duels
  have c_is_duels := cal_of F_is_duels o_is_duels (He.glo_ok X G (factX c 15)) (fun _ _ _ _ _ _ us hl => match us, hl with | [_], _ => rfl)
  have o_duel_voters := ok_duel_voters (P := P) (w := w) (base := base) (A := adX K) T c_is_duels c_voters_for F_duel_voters
  have c_duel_voters := cal_of F_duel_voters o_duel_voters (He.glo_ok X G (factX c 16)) (fun _ _ _ _ _ _ us hl => match us, hl with | [_, _], _ => rfl)
  have ck_duel_voters : CalK P w K mg base 5 "duel_voters" (spP K (f_duel_voters (adX K))) ["odd", "duels"] [1, 0] := ⟨_, _, _, o_duel_voters, He.glo_ok X G (factX c 16), F_duel_voters.kp, fun_kbinds F_duel_voters (by decide) rfl (fun _ _ _ _ _ _ ws hl => match ws, hl with | [_, _], _ => rfl)⟩
  have ox_duel_voters := okx_duel_voters (P := P) (w := w) (base := base) (A := adX K) T c_is_duels F_duel_voters
  have cx_duel_voters : CalX P w K mg base 5 "duel_voters" (spX K (x_duel_voters (adX K))) := ⟨_, _, _, ox_duel_voters, He.glo_ok X G (factX c 16), F_duel_voters.kp, F_duel_voters.binds (fun _ _ _ _ _ _ us hl => match us, hl with | [_, _], _ => rfl)⟩
  have o_law_k66_kind := ok_law_k66_kind (P := P) (w := w) (base := base) (A := adX K) T F_law_k66_kind
  have c_law_k66_kind := cal_of F_law_k66_kind o_law_k66_kind (He.glo_ok X G (factX c 17)) (fun _ _ _ _ _ _ us hl => match us, hl with | [_], _ => rfl)
  have o_law_tg_pairs := ok_law_tg_pairs (P := P) (w := w) (base := base) (A := adX K) T F_law_tg_pairs
  have c_law_tg_pairs := cal_of F_law_tg_pairs o_law_tg_pairs (He.glo_ok X G (factX c 18)) (fun _ _ _ _ _ _ us hl => match us, hl with | [_], _ => rfl)
  have o_law_is_truth := ok_law_is_truth (P := P) (w := w) (base := base) (A := adX K) T F_law_is_truth
  have c_law_is_truth := cal_of F_law_is_truth o_law_is_truth (He.glo_ok X G (factX c 19)) (fun _ _ _ _ _ _ us hl => match us, hl with | [_, _], _ => rfl)
  have o_law_same := ok_law_same (P := P) (w := w) (base := base) (A := adX K) T c_law_is_truth F_law_same
  have c_law_same := cal_of F_law_same o_law_same (He.glo_ok X G (factX c 20)) (fun _ _ _ _ _ _ us hl => match us, hl with | [_, _], _ => rfl)
  have o_law_tg_margins := ok_law_tg_margins (P := P) (w := w) (base := base) (A := adX K) T c_law_tg_pairs F_law_tg_margins
  have c_law_tg_margins := cal_of F_law_tg_margins o_law_tg_margins (He.glo_ok X G (factX c 21)) (fun _ _ _ _ _ _ us hl => match us, hl with | [_, _], _ => rfl)
  have o_law_is_word := ok_law_is_word (P := P) (w := w) (base := base) (A := adX K) T F_law_is_word
  have c_law_is_word := cal_of F_law_is_word o_law_is_word (He.glo_ok X G (factX c 22)) (fun _ _ _ _ _ _ us hl => match us, hl with | [_], _ => rfl)
  have o_law_tg_are_voters := ok_law_tg_are_voters (P := P) (w := w) (base := base) (A := adX K) T c_law_is_word F_law_tg_are_voters
  have c_law_tg_are_voters := cal_of F_law_tg_are_voters o_law_tg_are_voters (He.glo_ok X G (factX c 23)) (fun _ _ _ _ _ _ us hl => match us, hl with | [_], _ => rfl)
  exact ok_law (A := adX K) T c_law_begun c_law_words c_law_draw c_law_pick c_law_tg_pairs c_duel_voters c_law_same c_law_tg_are_voters c_law_tg_margins c_law_k66_kind ck_duel_voters cx_duel_voters cau_law_caught F_law TB
end
end K66
open PySem PySem.W PySem.Calls PyProof.Rows
theorem PySem.Challenge.cw_choiceshown_k66_whole_duels_that_voters_holds : PySem.Challenge.rw_choiceshown_k66_whole_duels_that_voters.Holds := by
  w_on; o_law
  refine HandSHeadRun.head_imp (r := OpenLaw.row PySem.Challenge.rw_choiceshown_k66_whole_duels_that_voters) (q := view (OpenLaw.row PySem.Challenge.rw_choiceshown_k66_whole_duels_that_voters).prog [37]) (H := K66.hkX) (ob := K66.obX) (M := 20000) (loose := K66.lsX) (d := HandSHeadRun.topDef (OpenLaw.row PySem.Challenge.rw_choiceshown_k66_whole_duels_that_voters).prog 37) (kwd := []) K66.obX_eq
    K66.runHd (by kernel_rfl) (by kernel_rfl) (by kernel_rfl) (by rfl) (by first | assumption | decide +kernel) (by decide +kernel) ⟨rfl, rfl, rfl, rfl, rfl, by decide +kernel⟩ ?hw ?hc
  case hw => w_witness2
  case hc =>
    refine LamX.walk_ofTsE (l := PySem.Challenge.rw_choiceshown_k66_whole_duels_that_voters) (n := 63) (k := 8) (x := "script") (CX := fun _ => L2.CX0) rfl (by decide) (by kernel_rfl) ⟨rfl, by decide, by decide⟩ ?F (fun _ _ _ _ _ z => z)
    intro w mg fa h Y G hmg0
    obtain ⟨K, KX, cX⟩ := Y
    have c := cX.t.d
    have c2 := cX.more
    have hmg : mg ("law" : PySem.Str) = some (.ref fa) := by
      have e : (HandSHeadRun.topDef (OpenLaw.row PySem.Challenge.rw_choiceshown_k66_whole_duels_that_voters).prog 37).name = ("law" : PySem.Str) := by kernel_rfl
      rw [← e]
      exact hmg0
    have e := hmg.symm.trans (He.glo_ok KX G (K66.factX c 24))
    cases e
    obtain ⟨fd, hb, hF⟩ := K66.allX (P := (PySem.Challenge.rw_choiceshown_k66_whole_duels_that_voters).prog) (w := w) KX G c c2
    have m1 : (("law", none) : He.Defn) ∈ ([("law", none)] : List He.Defn) := List.mem_singleton.mpr rfl
    refine ⟨K, KX, fd, [He.cT K ("law", none)], _, fun p hp => ?_, fun p hp => ?_, fun p hp => ?_, hb, fun H a ns hl _ hT hS => ⟨a, ns, rfl, hS, by omega, fun p hp => ?_, fun r h1 h2 h3 h4 => K66.law_true (K66.adsX c c2) (by omega) h1 h2 h3 h4, fun _ => rfl⟩, fun base _ _ hTB => hF base (hTB _ (List.mem_singleton.mpr rfl))⟩
    · cases List.mem_singleton.mp hp
      exact cX.empty _ m1
    · cases List.mem_singleton.mp hp
      exact cX.out _ m1
    · cases List.mem_singleton.mp hp
      exact PySem.W.codeHd_of_K KX (cX.hd _ m1)
    · cases List.mem_singleton.mp hp
      exact LamX.TabS.nil (hT _ (List.mem_singleton.mpr rfl))
