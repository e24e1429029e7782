import PyProof.Rows.All
import Wide.All
import OpenK.AllK
import Wide.FinOn
import KE.KStateDown
import Lean
import HandS.ForMost
import HandS.Codes
import HandS.More
import HandS.Defaults
import HandS.Head0
import HandS.Head1
import HandS.Head2
import HandS.HeadEnd
import HandS.HeadWalk
import HandS.HeadHook1
import HandS.HeadHook2
import HandS.HeadHook3
import HandS.HeadHook4
import PySem.Challenge.RW_sparecells_k14_whole_barriers_judged
import HandS.IsInst
import HandS.DictComp
import HandS.SortInts
import HandS.Conv
import HandS.Deep
import HandS.TupLe
import HandS.TupLen
import HandS.TupAny
import HandS.Style
import HandS.Flow
import HandS.WideBits
import HandS.Wide
import HandS.Zip
import HandS.SortKw
import HandS.Lambda
import HandS.Walk
import KE.SortData
import KE.KDictPairs
import KE.KDictCopyH
import KE.KDictSum
import KE.KSortKeyAny
import HandS.Keys
import KE.KEqDict
import KE.KDictDisplayH
set_option Elab.async false
set_option linter.all false
set_option maxRecDepth 100000
set_option maxHeartbeats 0
namespace SB
open PySem PySem.Spec PyProof.Rows L2
def top (i : Nat) : Stmt := PySem.Challenge.pw_sparecells_k14_whole_barriers_judged.main.body.getD i (.Pass ⟨0, 0, 0, 0⟩)
def dd (x : Str) (i : Nat) : He.DefD := ⟨(x, none), x, x, defArgs (top i), defBody (top i), defScope (top i), [], []⟩
def dI : He.DefD := ⟨("Recipe", some "__init__"), "__init__", "Recipe.__init__", defArgs (inClass (top 14) 0), defBody (inClass (top 14) 0), defScope (inClass (top 14) 0), [], []⟩
def fn : List He.DefD := [dI, dd "is_count" 8, dd "is_rising" 9, dd "bits_of" 10, dd "blocks_of" 11, dd "size_of" 12, dd "check_recipe" 15, dd "is_lot_of" 16, dd "needed_bits" 18, dd "held_in" 19, dd "all_bits" 20, dd "lots_from" 21, dd "check_bound" 22, dd "outside" 24, dd "behind_of" 25, dd "width_in" 26, dd "reached_in" 28, dd "lacks_more" 29, dd "check_bounded" 30, dd "are_lots_of" 31, dd "is_closed" 32, dd "is_barrier" 33, dd "barrier" 34, dd "_law_purse" 36, dd "_law_mixed" 37, dd "_law_draw" 38, dd "_law_purses" 39, dd "_law_one_of" 40, dd "_law_shuffled" 41, dd "_law_same" 42, dd "_law_exact" 43, dd "_law_row" 44, dd "_law_recipe" 45, dd "_law_needed" 46, dd "_law_held" 47, dd "_law_lots" 48, dd "_law_holds" 49, dd "_law_wider" 50, dd "_law_narrower" 51, dd "_law_least_width" 52, dd "_law_reached" 53, dd "_law_made" 54, dd "_law_is_lot" 55, dd "_law_drawn_lot" 56, dd "_law_twins_of" 57, dd "_law_bent_lots" 58, dd "_law_far_blocks" 59, dd "_law_bars" 60, dd "_law_bent" 61, dd "_law_right" 62, dd "_law_fixed_right" 63, dd "law" 64]
def fa1 : List He.Fa := [.glo "Recipe", .cls "Recipe", .noat "Recipe" "old", .noat "Recipe" "rows", .noat "Recipe" "bits", .noat "Recipe" "known", .mkr "Recipe", .glo "is_count", .glo "is_rising", .glo "bits_of", .glo "blocks_of", .glo "size_of", .glo "check_recipe", .glo "is_lot_of", .glo "needed_bits", .glo "held_in", .glo "all_bits", .glo "lots_from", .glo "check_bound", .glo "outside", .glo "behind_of", .glo "width_in", .glo "reached_in", .glo "lacks_more", .glo "check_bounded", .glo "are_lots_of", .glo "is_closed", .glo "is_barrier", .glo "barrier", .glo "_law_purse", .glo "_law_mixed", .glo "_law_draw", .glo "_law_purses", .glo "_law_one_of", .glo "_law_shuffled"]
def fa2 : List He.Fa := [.glo "_law_same", .glo "_law_exact", .glo "_law_row", .glo "_law_recipe", .glo "_law_needed", .glo "_law_held", .glo "_law_lots", .glo "_law_holds", .glo "_law_wider", .glo "_law_narrower", .glo "_law_least_width", .glo "_law_reached", .glo "_law_made", .glo "_law_is_lot", .glo "_law_drawn_lot", .glo "_law_twins_of", .glo "_law_bent_lots", .glo "_law_far_blocks", .glo "_law_bars", .glo "_law_bent", .glo "_law_right", .glo "_law_fixed_right", .glo "law", .free "len", .free "range", .free "sorted", .free "min", .free "max", .free "sum", .free "int", .free "bool", .free "isinstance", .free "list", .free "tuple", .free "dict", .free "all", .free "any", .free "enumerate", .free "zip"]
def fa : List He.Fa := fa1 ++ fa2
def ex (K : PySem.W.Frag) : Bool := He.eqO (PySem.W.findIn K (.ref (He.ga K "Recipe")) "__class__") (some (some (.builtin "object.__class__"))) && (He.eqO (PySem.W.specialIn K (.builtin "object.__class__") "__get__") (some (some (.builtin "getset_descriptor.__get__"))) && (decide (PySem.W.takesIn K (.builtin "object.__class__") = some true) && (decide (PySem.W.mroIn K (He.ga K "Recipe") (.type "object") = some true) && decide (PySem.W.kitOne K (.ref (He.ga K "Recipe")) (.ref (He.ga K "Recipe")) = some true))))
abbrev R : PySem.W.OpenRow := PySem.W.OpenLaw.row PySem.Challenge.rw_sparecells_k14_whole_barriers_judged
abbrev tf : List He.Defn := [("behind_of", none)]
abbrev hk : PySem.W.Hook := He.hookX 5 fa fn [] tf ex
def ob (s : PySem.W.SharedT) : He.AlX := He.obsX 5 fa fn [] tf ex (HandSHeadRun.getT s)
theorem ob_eq (s : PySem.W.SharedT) : ob s = hk.obs s.abs := He.obsX_eq (HandSHeadRun.getT_eq s)
end SB
set_option maxHeartbeats 1000000
namespace SB
open PySem PySem.Spec PyProof.Rows L2
/-! what the head tells, by short words -/
structure Tx (K : PySem.W.Frag) (mg : Str → Option Value) : Prop where
  d : He.SaysD fa fn K
  kx : ∃ h : Heap, K.In h ∧ h.Ns mainGlobals mg
  ex : ex K = true
section
variable {K : PySem.W.Frag} {mg : Str → Option Value} {P : Program} {w : World} {base : Heap}
theorem Tx.fr (T : Tx K mg) (i : Nat) {x : Str} (h : fa[i]? = some (.free x)) : mg x = none := by
  obtain ⟨h', X, G⟩ := T.kx
  exact He.free_ok X G (T.d.fact i h)
theorem Tx.na (T : Tx K mg) (i : Nat) {x f : Str} (h : fa[i]? = some (.noat x f)) : NoAttr K (He.ga K x) f := He.noat_ok (T.d.fact i h)
theorem Tx.gl (T : Tx K mg) (i : Nat) {x : Str} (h : fa[i]? = some (.glo x)) : mg x = some (.ref (He.ga K x)) := by
  obtain ⟨h', X, G⟩ := T.kx
  exact He.glo_ok X G (T.d.fact i h)
theorem Tx.cls (T : Tx K mg) : Cls K (He.ga K "Recipe") := He.cls_ok (T.d.fact 1 rfl)
theorem Tx.mkr (T : Tx K mg) : Mk K (He.ga K "Recipe") (He.ma K (He.ga K "Recipe") "__init__") := He.mkr_ok (T.d.fact 6 rfl)
theorem Tx.Recipe_ (T : Tx K mg) : mg "Recipe" = some (.ref (He.ga K "Recipe")) := T.gl 0 rfl
theorem Tx.insC (T : Tx K mg) : C8.InsC K (He.ga K "Recipe") := by
  have e : (_ && (_ && (_ && (_ && _)))) = true := T.ex
  obtain ⟨e1, e⟩ := He.ba e
  obtain ⟨e2, e⟩ := He.ba e
  obtain ⟨e3, e⟩ := He.ba e
  obtain ⟨e4, e5⟩ := He.ba e
  exact ⟨T.cls, He.eqO_ok e1, He.eqO_ok e2, of_decide_eq_true e3, of_decide_eq_true e4, of_decide_eq_true e5⟩
/-- a def of the top keeps its promise: by its body's term and the reading of it -/
theorem mkCal (T : Tx K mg) (i j : Nat) {x : Str} {p : Nat} (hd : fn[i]? = some (dd x p)) (hg : fa[j]? = some (.glo x)) {N ps : List Str} {k : Nat} {sp : Sp} (S : FnScope N ps (defScope (top p)))
    (hb : ∀ (kV doc pm : Value) (an : Option Addr) (cdv ct : Value) (us : List Value), us.length = ps.length → bindArgs (PySem.W.fnOf x x (defArgs (top p)) (defBody (top p)) (defScope (top p)) .none kV doc pm an cdv ct) ⟨us, []⟩ = pure (ps.zip us))
    (len : ∀ vs H Q E, sp vs H Q E → vs.length = ps.length)
    (hbody : ∀ (f : Addr) (cdv : Value) (A : Around) (outer : List Env) (s : Shared) (H : Hp) (vs : List V) (Q : VK) (E : XK), Room k (A.deeper (envOfC x (defScope (top p)) s.heap.objs.size f cdv)) → sp vs H Q E →
      ∃ t, PSs (cxOf CX0 P w K mg base N x (defScope (top p)) f cdv A outer s H E).nox (defBody (top p)) t ∧ t { nx := fun _ H' => Q .non H', rt := Q } (start N vs) H) : C8.Cal P w K mg base (k + 1) x sp [] := by
  obtain ⟨fd, F⟩ := T.d.def_ i hd
  have G : FnOk P w K mg base CX0 (k + 1) (He.fAd K (x, none)) fd ps sp := FunD.ok F S len fun cdv A outer s H vs Q E hr h => by
    obtain ⟨t, q1, q2⟩ := hbody (He.fAd K (x, none)) cdv A outer s H vs Q E hr h
    exact ⟨t, q1.nox, q2⟩
  exact ⟨He.fAd K (x, none), fd, ps, [], G, T.gl j hg, F.kp, FunD.bindsN F hb, .nil⟩
end
section
variable {K : PySem.W.Frag} {mg : Str → Option Value}
theorem Tx.len_ (T : Tx K mg) : mg "len" = none := T.fr 58 rfl
theorem Tx.range_ (T : Tx K mg) : mg "range" = none := T.fr 59 rfl
theorem Tx.sorted_ (T : Tx K mg) : mg "sorted" = none := T.fr 60 rfl
theorem Tx.min_ (T : Tx K mg) : mg "min" = none := T.fr 61 rfl
theorem Tx.max_ (T : Tx K mg) : mg "max" = none := T.fr 62 rfl
theorem Tx.sum_ (T : Tx K mg) : mg "sum" = none := T.fr 63 rfl
theorem Tx.int_ (T : Tx K mg) : mg "int" = none := T.fr 64 rfl
theorem Tx.bool_ (T : Tx K mg) : mg "bool" = none := T.fr 65 rfl
theorem Tx.isinstance_ (T : Tx K mg) : mg "isinstance" = none := T.fr 66 rfl
theorem Tx.list_ (T : Tx K mg) : mg "list" = none := T.fr 67 rfl
theorem Tx.tuple_ (T : Tx K mg) : mg "tuple" = none := T.fr 68 rfl
theorem Tx.dict_ (T : Tx K mg) : mg "dict" = none := T.fr 69 rfl
theorem Tx.all_ (T : Tx K mg) : mg "all" = none := T.fr 70 rfl
theorem Tx.any_ (T : Tx K mg) : mg "any" = none := T.fr 71 rfl
theorem Tx.enumerate_ (T : Tx K mg) : mg "enumerate" = none := T.fr 72 rfl
theorem Tx.zip_ (T : Tx K mg) : mg "zip" = none := T.fr 73 rfl
theorem Tx.no_old (T : Tx K mg) : NoAttr K (He.ga K "Recipe") "old" := T.na 2 rfl
theorem Tx.no_rows (T : Tx K mg) : NoAttr K (He.ga K "Recipe") "rows" := T.na 3 rfl
theorem Tx.no_bits (T : Tx K mg) : NoAttr K (He.ga K "Recipe") "bits" := T.na 4 rfl
theorem Tx.no_known (T : Tx K mg) : NoAttr K (He.ga K "Recipe") "known" := T.na 5 rfl
end
theorem bt_len : bootBuiltins "len" = some (.builtin "len") := by decide +kernel
theorem bt_range : bootBuiltins "range" = some (.type "range") := by decide +kernel
theorem bt_sorted : bootBuiltins "sorted" = some (.builtin "sorted") := by decide +kernel
theorem bt_min : bootBuiltins "min" = some (.builtin "min") := by decide +kernel
theorem bt_max : bootBuiltins "max" = some (.builtin "max") := by decide +kernel
theorem bt_sum : bootBuiltins "sum" = some (.builtin "sum") := by decide +kernel
theorem bt_int : bootBuiltins "int" = some (.type "int") := by decide +kernel
theorem bt_bool : bootBuiltins "bool" = some (.type "bool") := by decide +kernel
theorem bt_isinstance : bootBuiltins "isinstance" = some (.builtin "isinstance") := by decide +kernel
theorem bt_list : bootBuiltins "list" = some (.type "list") := by decide +kernel
theorem bt_tuple : bootBuiltins "tuple" = some (.type "tuple") := by decide +kernel
theorem bt_dict : bootBuiltins "dict" = some (.type "dict") := by decide +kernel
theorem bt_all : bootBuiltins "all" = some (.builtin "all") := by decide +kernel
theorem bt_any : bootBuiltins "any" = some (.builtin "any") := by decide +kernel
theorem bt_enumerate : bootBuiltins "enumerate" = some (.type "enumerate") := by decide +kernel
theorem bt_zip : bootBuiltins "zip" = some (.type "zip") := by decide +kernel
end SB
namespace SB
open PySem PySem.Spec L2
/-! ### frames: B may change -/
abbrev As := Addr → Prop
structure Kp (B : As) (H H' : Hp) : Prop where
  st : ∀ a o, ¬ B a → H a = some o → H' a = some o
  lv : ∀ a, H a ≠ none → H' a ≠ none
  tu : ∀ a xs, H a = some (.tup xs) → H' a = some (.tup xs)
abbrev no : As := fun _ => False
theorem Kp.refl {B : As} (H : Hp) : Kp B H H := ⟨fun _ _ _ h => h, fun _ h => h, fun _ _ h => h⟩
theorem Kp.trans {B : As} {H H1 H2 : Hp} (a : Kp B H H1) (b : Kp B H1 H2) : Kp B H H2 := ⟨fun x o n h => b.1 x o n (a.1 x o n h), fun x h => b.2 x (a.2 x h), fun x xs h => b.3 x xs (a.3 x xs h)⟩
theorem Kp.mono {B B' : As} {H H' : Hp} (a : Kp B H H') (h : ∀ x, B x → B' x) : Kp B' H H' := ⟨fun x o n e => a.1 x o (fun q => n (h x q)) e, a.2, a.3⟩
theorem Kp.any {B : As} {H H' : Hp} (a : Kp no H H') : Kp B H H' := a.mono fun _ h => h.elim
theorem Kp.new {B : As} {H : Hp} {p : Addr} {o : HO} (h : H p = none) : Kp B H (upd H p o) := ⟨fun a u _ e => by rw [upd_ne (ne_of_none e h)]; exact e, fun a e => by
  by_cases q : a = p
  · subst q; rw [upd_same]; simp
  · rw [upd_ne q]; exact e, fun a xs e => by rw [upd_ne (ne_of_none e h)]; exact e⟩
theorem Kp.mut {B : As} {H : Hp} {p : Addr} {o : HO} (h : B p) (ht : ∀ xs, H p ≠ some (.tup xs)) : Kp B H (upd H p o) := ⟨fun a u n e => by rw [upd_ne (fun q : a = p => n (by rw [q]; exact h))]; exact e, fun a e => by
  by_cases q : a = p
  · subst q; rw [upd_same]; simp
  · rw [upd_ne q]; exact e, fun a xs e => by rw [upd_ne (fun q : a = p => ht xs (by rw [← q]; exact e))]; exact e⟩
/-- one that is new since H may change -/
theorem Kp.fresh {B : As} {H H' : Hp} {p : Addr} {o : HO} (k : Kp B H H') (h : H p = none) : Kp B H (upd H' p o) := ⟨fun a u n e => by rw [upd_ne (ne_of_none e h)]; exact k.1 a u n e, fun a e => by
  by_cases q : a = p
  · subst q; exact absurd h e
  · rw [upd_ne q]; exact k.2 a e, fun a xs e => by rw [upd_ne (ne_of_none e h)]; exact k.3 a xs e⟩
theorem Kp.none {B : As} {H H' : Hp} {p : Addr} (k : Kp B H H') (h : H' p = none) : H p = none := by
  cases e : H p with
  | none => rfl
  | some o => exact absurd h (k.2 p (by rw [e]; simp))
theorem Kp.same {H H' : Hp} (k : Same H H') : Kp no H H' := ⟨fun a o _ h => k a o h, fun a h => by
  cases e : H a with
  | none => exact absurd e h
  | some o => rw [k a o e]; simp, fun a xs h => k a _ h⟩
theorem Kp.toSame {H H' : Hp} (k : Kp no H H') : Same H H' := fun a o h => k.1 a o id h
def Lv (A : As) (H : Hp) : Prop := ∀ a, A a → H a ≠ none
theorem Lv.kp {A B : As} {H H' : Hp} (l : Lv A H) (k : Kp B H H') : Lv A H' := fun a h => k.2 a (l a h)
theorem Lv.fresh {A : As} {H : Hp} {p : Addr} (l : Lv A H) (h : H p = none) : ¬ A p := fun q => l p q h
/-! ### worlds: what is to be left out, the heap -/
structure Wl (A : As) (H : Hp) (A' : As) (H' : Hp) : Prop where
  kp : Kp A H H'
  new : ∀ a, A' a → A a ∨ H a = none
  sub : ∀ a, A a → A' a
theorem Wl.refl (A : As) (H : Hp) : Wl A H A H := ⟨Kp.refl H, fun _ h => .inl h, fun _ h => h⟩
theorem Wl.trans {A A1 A2 : As} {H H1 H2 : Hp} (a : Wl A H A1 H1) (b : Wl A1 H1 A2 H2) : Wl A H A2 H2 where
  kp := ⟨fun x o n e => b.kp.1 x o (fun q => (a.new x q).elim n fun z => absurd e (by rw [z]; simp)) (a.kp.1 x o n e), fun x e => b.kp.2 x (a.kp.2 x e), fun x xs e => b.kp.3 x xs (a.kp.3 x xs e)⟩
  new := fun x h => (b.new x h).elim (fun q => a.new x q) fun q => .inr (a.kp.none q)
  sub := fun x h => b.sub x (a.sub x h)
theorem Wl.of {A B : As} {H H' : Hp} (k : Kp B H H') (h : ∀ a, B a → A a) : Wl A H A H' := ⟨k.mono h, fun _ h => .inl h, fun _ h => h⟩
theorem Wl.of0 {A : As} {H H' : Hp} (k : Kp no H H') : Wl A H A H' := .of k fun _ h => h.elim
/-- A and D -/
def Ad (A : As) (D : Addr) : As := fun a => A a ∨ a = D
theorem Wl.push {A : As} {H : Hp} {D : Addr} {o : HO} (h : H D = none) : Wl A H (Ad A D) (upd H D o) := ⟨Kp.new h, fun a q => q.elim .inl fun e => .inr (e ▸ h), fun _ h => .inl h⟩
theorem Lv.push {A : As} {H : Hp} {D : Addr} {o : HO} (l : Lv A H) : Lv (Ad A D) (upd H D o) := fun a q => by
  by_cases e : a = D
  · subst e; rw [upd_same]; simp
  · rw [upd_ne e]; exact q.elim (l a) fun z => absurd z e
/-! ### data -/
mutual
inductive Rp (A : As) (H : Hp) : V → PyData → Prop
  | non : Rp A H .non .none
  | bl (b : Bool) : Rp A H (.bl b) (.bool b)
  | int (i : Int) : Rp A H (.int i) (.int i)
  | lst {a : Addr} {xs : List V} {ds : List PyData} : ¬ A a → H a = some (.lst xs) → RpA A H xs ds → Rp A H (.ref a) (.list ds)
  | tup {a : Addr} {xs : List V} {ds : List PyData} : H a = some (.tup xs) → RpA A H xs ds → Rp A H (.ref a) (.tuple ds)
  | dic {a : Addr} : ¬ A a → H a = some (.dK []) → Rp A H (.ref a) (.dict [])
inductive RpA (A : As) (H : Hp) : List V → List PyData → Prop
  | nil : RpA A H [] []
  | cons {v : V} {vs : List V} {d : PyData} {ds : List PyData} : Rp A H v d → RpA A H vs ds → RpA A H (v :: vs) (d :: ds)
end
section
variable {A A' : As} {H H' : Hp} {v : V} {d : PyData} {xs ys : List V} {ds es : List PyData}
mutual
theorem Rp.mapW (f : ∀ a o, ¬ A a → H a = some o → ¬ A' a ∧ H' a = some o) (g : ∀ a xs, H a = some (.tup xs) → H' a = some (.tup xs)) : ∀ {v : V} {d : PyData}, Rp A H v d → Rp A' H' v d
  | _, _, .non => .non
  | _, _, .bl b => .bl b
  | _, _, .int i => .int i
  | _, _, .lst n h t => .lst (f _ _ n h).1 (f _ _ n h).2 (RpA.mapW f g t)
  | _, _, .tup h t => .tup (g _ _ h) (RpA.mapW f g t)
  | _, _, .dic n h => .dic (f _ _ n h).1 (f _ _ n h).2
theorem RpA.mapW (f : ∀ a o, ¬ A a → H a = some o → ¬ A' a ∧ H' a = some o) (g : ∀ a xs, H a = some (.tup xs) → H' a = some (.tup xs)) : ∀ {xs : List V} {ds : List PyData}, RpA A H xs ds → RpA A' H' xs ds
  | _, _, .nil => .nil
  | _, _, .cons h t => .cons (Rp.mapW f g h) (RpA.mapW f g t)
end
theorem Wl.f (w : Wl A H A' H') : ∀ a o, ¬ A a → H a = some o → ¬ A' a ∧ H' a = some o := fun a o n h => ⟨fun q => (w.new a q).elim n (fun z => absurd h (by rw [z]; simp)), w.kp.1 a o n h⟩
theorem Rp.up (w : Wl A H A' H') (h : Rp A H v d) : Rp A' H' v d := h.mapW w.f w.kp.3
theorem RpA.up (w : Wl A H A' H') (h : RpA A H xs ds) : RpA A' H' xs ds := h.mapW w.f w.kp.3
theorem Rp.dn (w : ∀ a, A' a → A a) (h : Rp A H v d) : Rp A' H v d := h.mapW (fun a o n e => ⟨fun q => n (w a q), e⟩) fun _ _ e => e
theorem RpA.dn (w : ∀ a, A' a → A a) (h : RpA A H xs ds) : RpA A' H xs ds := h.mapW (fun a o n e => ⟨fun q => n (w a q), e⟩) fun _ _ e => e
theorem RpA.length : ∀ {xs : List V} {ds : List PyData}, RpA A H xs ds → xs.length = ds.length
  | _, _, .nil => rfl
  | _, _, .cons _ t => by rw [List.length_cons, List.length_cons, RpA.length t]
theorem RpA.get : ∀ {xs : List V} {ds : List PyData} {i : Nat} {x : V}, RpA A H xs ds → xs[i]? = some x → ∃ d, ds[i]? = some d ∧ Rp A H x d
  | _, _, _, _, .nil, e => by simp at e
  | _, _, 0, _, .cons h _, e => by simp at e; subst e; exact ⟨_, rfl, h⟩
  | _, _, i + 1, x, .cons _ t, e => by
    obtain ⟨d, h1, h2⟩ := RpA.get (i := i) (x := x) t (by simpa using e)
    exact ⟨d, by simpa using h1, h2⟩
theorem RpA.get' : ∀ {xs : List V} {ds : List PyData} {i : Nat} {d : PyData}, RpA A H xs ds → ds[i]? = some d → ∃ x, xs[i]? = some x ∧ Rp A H x d
  | _, _, _, _, .nil, e => by simp at e
  | _, _, 0, _, .cons h _, e => by simp at e; subst e; exact ⟨_, rfl, h⟩
  | _, _, i + 1, x, .cons _ t, e => by
    obtain ⟨d, h1, h2⟩ := RpA.get' (i := i) (d := x) t (by simpa using e)
    exact ⟨d, by simpa using h1, h2⟩
theorem RpA.append : ∀ {xs ys : List V} {ds es : List PyData}, RpA A H xs ds → RpA A H ys es → RpA A H (xs ++ ys) (ds ++ es)
  | _, _, _, _, .nil, q => q
  | _, _, _, _, .cons h t, q => .cons h (RpA.append t q)
theorem RpA.take : ∀ {xs : List V} {ds : List PyData} (n : Nat), RpA A H xs ds → RpA A H (xs.take n) (ds.take n)
  | _, _, 0, _ => by rw [List.take_zero, List.take_zero]; exact .nil
  | _, _, n + 1, .nil => .nil
  | _, _, n + 1, .cons h t => .cons h (RpA.take n t)
theorem RpA.drop : ∀ {xs : List V} {ds : List PyData} (n : Nat), RpA A H xs ds → RpA A H (xs.drop n) (ds.drop n)
  | _, _, 0, h => h
  | _, _, n + 1, .nil => .nil
  | _, _, n + 1, .cons h t => RpA.drop n t
theorem RpA.rev : ∀ {xs : List V} {ds : List PyData}, RpA A H xs ds → RpA A H xs.reverse ds.reverse
  | _, _, .nil => .nil
  | _, _, .cons h t => by rw [List.reverse_cons, List.reverse_cons]; exact (RpA.rev t).append (.cons h .nil)
theorem RpA.ints : ∀ (ns : List Int), RpA A H (ns.map V.int) (ns.map PyData.int)
  | [] => .nil
  | n :: ns => .cons (.int n) (RpA.ints ns)
theorem RpA.bls : ∀ (ns : List Bool), RpA A H (ns.map V.bl) (ns.map PyData.bool)
  | [] => .nil
  | n :: ns => .cons (.bl n) (RpA.bls ns)
theorem RpA.ints_eq : ∀ {xs : List V} {ns : List Int}, RpA A H xs (ns.map PyData.int) → xs = ns.map V.int
  | _, [], .nil => rfl
  | _, n :: ns, .cons (.int _) t => by rw [RpA.ints_eq t]; rfl
theorem RpA.bls_eq : ∀ {xs : List V} {ns : List Bool}, RpA A H xs (ns.map PyData.bool) → xs = ns.map V.bl
  | _, [], .nil => rfl
  | _, n :: ns, .cons (.bl _) t => by rw [RpA.bls_eq t]; rfl
theorem Rp.int_eq {i : Int} (h : Rp A H v (.int i)) : v = .int i := by cases h; rfl
theorem Rp.bl_eq {b : Bool} (h : Rp A H v (.bool b)) : v = .bl b := by cases h; rfl
theorem Rp.non_eq (h : Rp A H v .none) : v = .non := by cases h; rfl
theorem Rp.list_eq (h : Rp A H v (.list ds)) : ∃ a xs, v = .ref a ∧ ¬ A a ∧ H a = some (.lst xs) ∧ RpA A H xs ds := by cases h with | lst n e t => exact ⟨_, _, rfl, n, e, t⟩
theorem Rp.tuple_eq (h : Rp A H v (.tuple ds)) : ∃ a xs, v = .ref a ∧ H a = some (.tup xs) ∧ RpA A H xs ds := by cases h with | tup e t => exact ⟨_, _, rfl, e, t⟩
theorem Rp.dict_eq (h : Rp A H v (.dict [])) : ∃ a, v = .ref a ∧ ¬ A a ∧ H a = some (.dK []) := by cases h with | dic n e => exact ⟨_, rfl, n, e⟩
end
/-! ### what is known of a value -/
structure Pv where
  p : As → Hp → V → Prop
  up : ∀ {A A' : As} {H H' : Hp} {v : V}, Wl A H A' H' → p A H v → p A' H' v
  dn : ∀ {A A' : As} {H : Hp} {v : V}, (∀ a, A' a → A a) → p A H v → p A' H v
def da (d : PyData) : Pv := ⟨fun A H v => Rp A H v d, fun w h => h.up w, fun w h => h.dn w⟩
def isv (x : V) : Pv := ⟨fun _ _ v => v = x, fun _ h => h, fun _ h => h⟩
def exv {α : Type} (C : α → Prop) (Φ : α → Pv) : Pv := ⟨fun A H v => ∃ a, C a ∧ (Φ a).p A H v, fun w ⟨a, c, h⟩ => ⟨a, c, (Φ a).up w h⟩, fun w ⟨a, c, h⟩ => ⟨a, c, (Φ a).dn w h⟩⟩
/-- data of a kind -/
abbrev dp (C : PyData → Prop) : Pv := exv C da
abbrev Pvs (Φs : List Pv) (A : As) (H : Hp) (vs : List V) : Prop := Paired (fun (Φ : Pv) v => Φ.p A H v) Φs vs
theorem Pvs.up {Φs : List Pv} {A A' : As} {H H' : Hp} {vs : List V} (w : Wl A H A' H') (h : Pvs Φs A H vs) : Pvs Φs A' H' vs := Paired.mapP h fun Φ _ q => Φ.up w q
/-! ### effects -/
abbrev big : Nat := 1000000000000
structure Ef where
  B : As
  J : Nat → Hp → Prop
  mono : ∀ {n m : Nat} {H : Hp}, n ≤ m → J n H → J m H
  st : ∀ {n : Nat} {H H' : Hp}, (∀ a, B a → H' a = H a) → (∀ a φ, H a = some (.ext φ) → H' a = some (.ext φ)) → J n H → J n H'
  nx : ∀ {n : Nat} {H : Hp} {a : Addr} {φ : Heap → Prop}, J n H → B a → H a ≠ some (.ext φ)
def e0 : Ef := ⟨no, fun _ _ => True, fun _ _ => trivial, fun _ _ _ => trivial, fun _ h => h.elim⟩
theorem Ef.keep {e : Ef} {n : Nat} {H H' : Hp} (l : Lv e.B H) (k : Kp no H H') (j : e.J n H) : e.J n H' := e.st (fun a h => by
  cases q : H a with
  | none => exact absurd q (l a h)
  | some o => exact k.1 a o id q) (fun a φ h => k.1 a _ id h) j
/-- a thing at D that is no part of it changes -/
theorem Ef.mut {e : Ef} {n : Nat} {H : Hp} {D : Addr} {o : HO} (hB : ¬ e.B D) (h : ∀ φ, H D ≠ some (.ext φ)) (j : e.J n H) : e.J n (upd H D o) :=
  e.st (fun a q => upd_ne fun z => hB (by rw [← z]; exact q)) (fun a φ q => by rw [upd_ne fun z : a = D => h φ (by rw [← z]; exact q)]; exact q) j
structure Cur (e : Ef) (A : As) (H : Hp) (n : Nat) : Prop where
  sub : ∀ a, e.B a → A a
  lv : Lv A H
  j : e.J n H
section
variable {e : Ef} {A A' : As} {H H' : Hp} {n m : Nat}
theorem Cur.aft (c : Cur e A H n) (k : Kp e.B H H') (j : e.J m H') : Cur e A H' m := ⟨c.sub, c.lv.kp k, j⟩
theorem Cur.wl (c : Cur e A H n) (k : Kp e.B H H') : Wl A H A H' := .of k c.sub
theorem Cur.keep (c : Cur e A H n) (k : Kp no H H') : Cur e A H' n := ⟨c.sub, c.lv.kp k, Ef.keep (fun a h => c.lv a (c.sub a h)) k c.j⟩
theorem Cur.new {p : Addr} {o : HO} (c : Cur e A H n) (h : H p = none) : Cur e A (upd H p o) n := c.keep (.new h)
theorem Cur.mono (c : Cur e A H n) (h : n ≤ m) : Cur e A H m := ⟨c.sub, c.lv, e.mono h c.j⟩
theorem Cur.push {D : Addr} {o : HO} (c : Cur e A H n) (h : H D = none) : Cur e (Ad A D) (upd H D o) n := ⟨fun a q => .inl (c.sub a q), c.lv.push, (c.new (o := o) h).j⟩
theorem Cur.pop {D : Addr} (c : Cur e (Ad A D) H n) (h : ∀ a, e.B a → A a) : Cur e A H n := ⟨h, fun a q => c.lv a (.inl q), c.j⟩
theorem cur0 (l : Lv A H) : Cur e0 A H 0 := ⟨fun _ h => h.elim, l, trivial⟩
end
/-! ### evaluation -/
def Em (e : Ef) (c : Nat) (te : TE) (σ : St) (A : As) (H : Hp) (Φ : Pv) : Prop :=
  ∀ A' H' n, Wl A H A' H' → Cur e A' H' n → n + c ≤ big → ∀ Q : VK, (∀ v H2, Kp e.B H' H2 → e.J (n + c) H2 → Φ.p A' H2 v → Q v H2) → te σ H' Q
def EmA (e : Ef) (c : Nat) (ta : TA) (σ : St) (A : As) (H : Hp) (Φs : List Pv) : Prop :=
  ∀ A' H' n, Wl A H A' H' → Cur e A' H' n → n + c ≤ big → ∀ Q : List V → Hp → Prop, (∀ vs H2, Kp e.B H' H2 → e.J (n + c) H2 → Pvs Φs A' H2 vs → Q vs H2) → ta σ H' Q
def EmT (e : Ef) (c : Nat) (tt : TT) (σ : St) (A : As) (H : Hp) (T : Bool → Prop) : Prop :=
  ∀ A' H' n, Wl A H A' H' → Cur e A' H' n → n + c ≤ big → ∀ Q : Bool → Hp → Prop, (∀ b H2, Kp e.B H' H2 → e.J (n + c) H2 → T b → Q b H2) → tt σ H' Q
abbrev Ev (te : TE) (σ : St) (A : As) (H : Hp) (Φ : Pv) : Prop := Em e0 0 te σ A H Φ
abbrev EvA (ta : TA) (σ : St) (A : As) (H : Hp) (Φs : List Pv) : Prop := EmA e0 0 ta σ A H Φs
/-- a test with one answer -/
abbrev EvT (tt : TT) (σ : St) (A : As) (H : Hp) (b : Bool) : Prop := EmT e0 0 tt σ A H (b = ·)
/-- operations by values -/
def RV (e : Ef) (c : Nat) (r : Hp → VK → Prop) (A : As) (H : Hp) (Φ : Pv) : Prop :=
  ∀ n, Cur e A H n → n + c ≤ big → ∀ Q : VK, (∀ v H2, Kp e.B H H2 → e.J (n + c) H2 → Φ.p A H2 v → Q v H2) → r H Q
section
variable {e : Ef} {c c1 c2 c3 : Nat} {ta tb te : TE} {tt tu : TT} {σ : St} {A A' : As} {H H' : Hp} {Φ Ψ Θ : Pv} {T T' : Bool → Prop} {x v : V} {d : PyData} {i j : Int} {a b : Bool}
theorem Em.up (w : Wl A H A' H') (h : Em e c te σ A H Φ) : Em e c te σ A' H' Φ := fun A2 H2 n w2 => h A2 H2 n (w.trans w2)
theorem EmT.up (w : Wl A H A' H') (h : EmT e c tt σ A H T) : EmT e c tt σ A' H' T := fun A2 H2 n w2 => h A2 H2 n (w.trans w2)
theorem Em.imp (h : Em e c te σ A H Φ) (f : ∀ A' H' v, Wl A H A' H' → Φ.p A' H' v → Ψ.p A' H' v) : Em e c te σ A H Ψ := fun A' H' n w cu hn Q q =>
  h A' H' n w cu hn Q fun v H2 k j p => q v H2 k j (f A' H2 v (w.trans (cu.wl k)) p)
theorem Em.wk (h : Em e c1 te σ A H Φ) (hc : c1 ≤ c) : Em e c te σ A H Φ := fun A' H' n w cu hn Q q =>
  h A' H' n w cu (by omega) Q fun v H2 k j p => q v H2 k (e.mono (by omega) j) p
theorem EmT.wk (h : EmT e c1 tt σ A H T) (hc : c1 ≤ c) : EmT e c tt σ A H T := fun A' H' n w cu hn Q q =>
  h A' H' n w cu (by omega) Q fun v H2 k j p => q v H2 k (e.mono (by omega) j) p
/-- pure under any effect -/
theorem em_is {d2 : PyData} (h : Em e c te σ A H (da d)) (q : d = d2) : Em e c te σ A H (da d2) := q ▸ h
theorem Em.em (h : Ev te σ A H Φ) : Em e 0 te σ A H Φ := fun A' H' n w cu hn Q q => h A' H' 0 w (cur0 cu.lv) (by decide) Q fun v H2 k _ p => q v H2 k.any (cu.keep k).j p
theorem EmA.em {ta : TA} {Φs : List Pv} (h : EvA ta σ A H Φs) : EmA e 0 ta σ A H Φs := fun A' H' n w cu hn Q q => h A' H' 0 w (cur0 cu.lv) (by decide) Q fun v H2 k _ p => q v H2 k.any (cu.keep k).j p
theorem EmT.em (h : EmT e0 0 tt σ A H T) : EmT e 0 tt σ A H T := fun A' H' n w cu hn Q q => h A' H' 0 w (cur0 cu.lv) (by decide) Q fun v H2 k _ p => q v H2 k.any (cu.keep k).j p
theorem em_var {i : Nat} (h : σ[i]? = some (some v)) (p : Φ.p A H v) : Em e 0 (tVar i) σ A H Φ := fun A' H' n w cu _ Q q => ⟨v, h, q v H' (.refl _) cu.j (Φ.up w p)⟩
theorem em_c (p : Φ.p A H v) : Em e 0 (tC v) σ A H Φ := fun A' H' n w cu _ Q q => q v H' (.refl _) cu.j (Φ.up w p)
theorem em_int {k : Int} : Em e 0 (tC (.int k)) σ A H (da (.int k)) := em_c (.int k)
theorem em_bl {k : Bool} : Em e 0 (tC (.bl k)) σ A H (da (.bool k)) := em_c (.bl k)
theorem em_non : Em e 0 (tC .non) σ A H (da .none) := em_c .non
/-- no heap is changed -/
theorem rv_v {r : Hp → VK → Prop} (z : V) (h : ∀ Q : VK, Q z H → r H Q) (p : Φ.p A H z) : RV e 0 r A H Φ := fun n cu _ Q q => h Q (q z H (.refl _) cu.j p)
/-- a new object -/
theorem rv_new {r : Hp → VK → Prop} (o : HO) (h : ∀ Q : VK, (∀ p, H p = none → Q (.ref p) (upd H p o)) → r H Q) (p : ∀ p, H p = none → ¬ A p → Φ.p A (upd H p o) (.ref p)) : RV e 0 r A H Φ :=
  fun n cu _ Q q => h Q fun a ha => q (.ref a) _ (.new ha) (cu.new ha).j (p a ha (cu.lv.fresh ha))
theorem em_op {r : R2} (ha : Em e c1 ta σ A H Φ) (hb : Em e c2 tb σ A H Ψ) (hr : ∀ A' H' x y, Wl A H A' H' → Φ.p A' H' x → Ψ.p A' H' y → RV e c3 (r x y) A' H' Θ) : Em e (c1 + c2 + c3) (tOp r ta tb) σ A H Θ := fun A' H' n w cu hn Q q =>
  ha A' H' n w cu (by omega) _ fun x H2 k1 j1 p1 => hb A' H2 (n + c1) (w.trans (cu.wl k1)) (cu.aft k1 j1) (by omega) _ fun y H3 k2 j2 p2 =>
    hr A' H3 x y (w.trans (cu.wl (k1.trans k2))) (Φ.up (Wl.of k2 cu.sub) p1) p2 (n + c1 + c2) (cu.aft (k1.trans k2) j2) (by omega) Q fun v H4 k3 j3 p3 => q v H4 ((k1.trans k2).trans k3) (by rw [← Nat.add_assoc, ← Nat.add_assoc]; exact j3) p3
theorem em_un {r : V → Hp → VK → Prop} (ha : Em e c1 ta σ A H Φ) (hr : ∀ A' H' x, Wl A H A' H' → Φ.p A' H' x → RV e c2 (r x) A' H' Θ) : Em e (c1 + c2) (tUn r ta) σ A H Θ := fun A' H' n w cu hn Q q =>
  ha A' H' n w cu (by omega) _ fun x H2 k1 j1 p1 => hr A' H2 x (w.trans (cu.wl k1)) p1 (n + c1) (cu.aft k1 j1) (by omega) Q fun v H4 k3 j3 p3 => q v H4 (k1.trans k3) (by rw [← Nat.add_assoc]; exact j3) p3
theorem em_andV (h1 : Em e c1 ta σ A H (da (.bool a))) (h2 : a = true → Em e c2 tb σ A H (da (.bool b))) : Em e (c1 + c2) (tAndV ta tb) σ A H (da (.bool (a && b))) := fun A' H' n w cu hn Q q =>
  h1 A' H' n w cu (by omega) _ fun x H2 k1 j1 p1 => ⟨a, Rp.bl_eq p1, by
    cases a with
    | true => exact h2 rfl A' H2 (n + c1) (w.trans (cu.wl k1)) (cu.aft k1 j1) (by omega) Q fun v H3 k2 j2 p2 => q v H3 (k1.trans k2) (by rw [← Nat.add_assoc]; exact j2) p2
    | false => exact q (.bl false) H2 k1 (e.mono (by omega) j1) (.bl false)⟩
theorem em_orV (h1 : Em e c1 ta σ A H (da (.bool a))) (h2 : a = false → Em e c2 tb σ A H (da (.bool b))) : Em e (c1 + c2) (tOrV ta tb) σ A H (da (.bool (a || b))) := fun A' H' n w cu hn Q q =>
  h1 A' H' n w cu (by omega) _ fun x H2 k1 j1 p1 => ⟨a, Rp.bl_eq p1, by
    cases a with
    | false => exact h2 rfl A' H2 (n + c1) (w.trans (cu.wl k1)) (cu.aft k1 j1) (by omega) Q fun v H3 k2 j2 p2 => q v H3 (k1.trans k2) (by rw [← Nat.add_assoc]; exact j2) p2
    | true => exact q (.bl true) H2 k1 (e.mono (by omega) j1) (.bl true)⟩
theorem em_notV (h1 : Em e c1 ta σ A H (da (.bool a))) : Em e c1 (tNotV ta) σ A H (da (.bool (!a))) := fun A' H' n w cu hn Q q =>
  h1 A' H' n w cu hn _ fun x H2 k1 j1 p1 => ⟨a, Rp.bl_eq p1, q _ H2 k1 j1 (.bl _)⟩
theorem em_if (h : EmT e c1 tt σ A H T) (h1 : T true → Em e c2 ta σ A H Φ) (h2 : T false → Em e c2 tb σ A H Φ) : Em e (c1 + c2) (tIf tt ta tb) σ A H Φ := fun A' H' n w cu hn Q q =>
  h A' H' n w cu (by omega) _ fun b H2 k1 j1 p1 => by
    cases b with
    | true => exact h1 p1 A' H2 (n + c1) (w.trans (cu.wl k1)) (cu.aft k1 j1) (by omega) Q fun v H3 k2 j2 p2 => q v H3 (k1.trans k2) (by rw [← Nat.add_assoc]; exact j2) p2
    | false => exact h2 p1 A' H2 (n + c1) (w.trans (cu.wl k1)) (cu.aft k1 j1) (by omega) Q fun v H3 k2 j2 p2 => q v H3 (k1.trans k2) (by rw [← Nat.add_assoc]; exact j2) p2
/-! tests -/
theorem et_v (h : Em e c te σ A H (da (.bool b))) : EmT e c (tTest te) σ A H (b = ·) := fun A' H' n w cu hn Q q => h A' H' n w cu hn _ fun x H2 k j p => ⟨b, Rp.bl_eq p, q b H2 k j rfl⟩
theorem et_B (h : Em e c te σ A H (da (.bool b))) : EmT e c (tB te) σ A H (b = ·) := et_v h
theorem et_ex {C : Bool → Prop} (h : Em e c te σ A H (exv C fun b => da (.bool b))) : EmT e c (tTest te) σ A H C := fun A' H' n w cu hn Q q => h A' H' n w cu hn _ fun x H2 k j p => by
  obtain ⟨b, hb, p⟩ := p
  exact ⟨b, Rp.bl_eq p, q b H2 k j hb⟩
theorem et_not (h : EmT e c tt σ A H T) : EmT e c (tNot tt) σ A H (fun b => T (!b)) := fun A' H' n w cu hn Q q => h A' H' n w cu hn _ fun b H2 k j p => q (!b) H2 k j (show T (!!b) by rw [Bool.not_not]; exact p)
theorem et_is {b' : Bool} (h : EmT e c tt σ A H (b = ·)) (q : b = b') : EmT e c tt σ A H (b' = ·) := q ▸ h
theorem et_imp (h : EmT e c tt σ A H T) (f : ∀ b, T b → T' b) : EmT e c tt σ A H T' := fun A' H' n w cu hn Q q => h A' H' n w cu hn Q fun b H2 k j p => q b H2 k j (f b p)
theorem et_not1 (h : EmT e c tt σ A H (b = ·)) : EmT e c (tNot tt) σ A H ((!b) = ·) := et_imp (et_not h) fun b' q => by rw [q, Bool.not_not]
theorem et_and1 (h1 : EmT e c1 tt σ A H (a = ·)) (h2 : a = true → EmT e c2 tu σ A H (b = ·)) : EmT e (c1 + c2) (tAnd tt tu) σ A H ((a && b) = ·) := fun A' H' n w cu hn Q q =>
  h1 A' H' n w cu (by omega) _ fun b' H2 k1 j1 p1 => by
    subst p1
    cases a with
    | true => exact h2 rfl A' H2 (n + c1) (w.trans (cu.wl k1)) (cu.aft k1 j1) (by omega) Q fun v H3 k2 j2 p2 => q v H3 (k1.trans k2) (by rw [← Nat.add_assoc]; exact j2) p2
    | false => exact q false H2 k1 (e.mono (by omega) j1) rfl
theorem et_or1 (h1 : EmT e c1 tt σ A H (a = ·)) (h2 : a = false → EmT e c2 tu σ A H (b = ·)) : EmT e (c1 + c2) (tOr tt tu) σ A H ((a || b) = ·) := fun A' H' n w cu hn Q q =>
  h1 A' H' n w cu (by omega) _ fun b' H2 k1 j1 p1 => by
    subst p1
    cases a with
    | false => exact h2 rfl A' H2 (n + c1) (w.trans (cu.wl k1)) (cu.aft k1 j1) (by omega) Q fun v H3 k2 j2 p2 => q v H3 (k1.trans k2) (by rw [← Nat.add_assoc]; exact j2) p2
    | true => exact q true H2 k1 (e.mono (by omega) j1) rfl
/-! arguments -/
theorem ema_nil : EmA e 0 tNil σ A H [] := fun A' H' n w cu hn Q q => q [] H' (.refl _) cu.j .nil
theorem ema_cons {tr : TA} {Φs : List Pv} (h1 : Em e c1 ta σ A H Φ) (h2 : EmA e c2 tr σ A H Φs) : EmA e (c1 + c2) (tCons ta tr) σ A H (Φ :: Φs) := fun A' H' n w cu hn Q q =>
  h1 A' H' n w cu (by omega) _ fun x H2 k1 j1 p1 => h2 A' H2 (n + c1) (w.trans (cu.wl k1)) (cu.aft k1 j1) (by omega) _ fun xs H3 k2 j2 p2 =>
    q (x :: xs) H3 (k1.trans k2) (by rw [← Nat.add_assoc]; exact j2) (.cons (Φ.up (Wl.of k2 cu.sub) p1) p2)
theorem em_B {r : List V → Hp → VK → Prop} {ta : TA} {Φs : List Pv} (h : EmA e c1 ta σ A H Φs) (hr : ∀ A' H' vs, Wl A H A' H' → Pvs Φs A' H' vs → RV e c2 (r vs) A' H' Θ) : Em e (c1 + c2) (tCB r ta) σ A H Θ := fun A' H' n w cu hn Q q =>
  h A' H' n w cu (by omega) _ fun vs H2 k1 j1 p1 => hr A' H2 vs (w.trans (cu.wl k1)) p1 (n + c1) (cu.aft k1 j1) (by omega) Q fun v H4 k3 j3 p3 => q v H4 (k1.trans k3) (by rw [← Nat.add_assoc]; exact j3) p3
theorem em_call {sp : Sp} {E : XK} {ta : TA} {Φs : List Pv} (h : EmA e c1 ta σ A H Φs) (hs : ∀ A' H' vs, Wl A H A' H' → Pvs Φs A' H' vs → RV e c2 (fun H Q => sp (vs ++ []) H Q E) A' H' Θ) : Em e (c1 + c2) (tCall sp [] E ta) σ A H Θ := fun A' H' n w cu hn Q q =>
  h A' H' n w cu (by omega) _ fun vs H2 k1 j1 p1 => hs A' H2 vs (w.trans (cu.wl k1)) p1 (n + c1) (cu.aft k1 j1) (by omega) Q fun v H4 k3 j3 p3 => q v H4 (k1.trans k3) (by rw [← Nat.add_assoc]; exact j3) p3
theorem em_tup {ta : TA} {Φs : List Pv} (h : EmA e c1 ta σ A H Φs) (hl : Φs.length ≤ 100000) (hp : ∀ A' H' vs a, Wl A H A' H' → Pvs Φs A' H' vs → ¬ A' a → H' a = some (.tup vs) → Θ.p A' H' (.ref a)) : Em e c1 (tTup ta) σ A H Θ := fun A' H' n w cu hn Q q =>
  h A' H' n w cu hn _ fun vs H2 k1 j1 p1 => ⟨Nat.le_trans (by rw [← p1.length]; exact hl) (by decide), fun p hf =>
    have k2 : Kp no H2 (upd H2 p (.tup vs)) := .new hf
    q (.ref p) _ (k1.trans k2.any) ((cu.aft k1 j1).keep k2).j (hp A' _ vs p (w.trans (cu.wl (k1.trans k2.any))) (p1.up (.of0 k2)) ((cu.aft k1 j1).lv.fresh hf) upd_same)⟩
theorem em_lst {ta : TA} {Φs : List Pv} (h : EmA e c1 ta σ A H Φs) (hl : Φs.length ≤ 100000) (hp : ∀ A' H' vs a, Wl A H A' H' → Pvs Φs A' H' vs → ¬ A' a → H' a = some (.lst vs) → Θ.p A' H' (.ref a)) : Em e c1 (tLst ta) σ A H Θ := fun A' H' n w cu hn Q q =>
  h A' H' n w cu hn _ fun vs H2 k1 j1 p1 => ⟨Nat.le_trans (by rw [← p1.length]; exact hl) (by decide), fun p hf =>
    have k2 : Kp no H2 (upd H2 p (.lst vs)) := .new hf
    q (.ref p) _ (k1.trans k2.any) ((cu.aft k1 j1).keep k2).j (hp A' _ vs p (w.trans (cu.wl (k1.trans k2.any))) (p1.up (.of0 k2)) ((cu.aft k1 j1).lv.fresh hf) upd_same)⟩
end
end SB
namespace SB
open PySem PySem.Spec L2
/-! ### rules with the written part said, and what they give on data -/
theorem sz5 {n : Nat} (h : n ≤ 100000) : n ≤ sizeLine := Nat.le_trans h (by decide)
theorem sl5 {n : Nat} (h : n < 100000) : n < sizeLine := Nat.lt_of_lt_of_le h (by decide)
section
variable {A A' : As} {H H' : Hp} {K : PySem.W.Frag}
theorem RpA.atI {xs : List V} {ds : List PyData} {i : Int} {d : PyData} (h : RpA A H xs ds) (e : L2.atI ds i = some d) : ∃ x, L2.atI xs i = some x ∧ Rp A H x d := by
  unfold L2.atI at e ⊢
  rw [h.length]
  cases q : ixN ds.length i with
  | none => rw [q] at e; cases e
  | some j =>
    rw [q] at e
    exact h.get' (i := j) e
def cutD {α : Type} (xs : List α) (lo hi : Option Int) : List α := (xs.drop (HT.sIx xs.length 0 lo)).take (HT.sIx xs.length xs.length hi - HT.sIx xs.length 0 lo)
theorem RpA.cut {xs : List V} {ds : List PyData} {lo hi : Option Int} (h : RpA A H xs ds) : RpA A H (cutV xs lo hi) (cutD ds lo hi) := by
  unfold cutV cutD
  rw [h.length]
  exact (h.drop _).take _
theorem cutD_map {α β : Type} (f : α → β) (xs : List α) (lo hi : Option Int) : cutD (xs.map f) lo hi = (cutD xs lo hi).map f := by
  unfold cutD
  rw [List.length_map, ← List.map_drop, ← List.map_take]
theorem cutD_le {α : Type} (xs : List α) (lo hi : Option Int) : (cutD xs lo hi).length ≤ xs.length := by
  unfold cutD
  rw [List.length_take, List.length_drop]
  omega
theorem cutD_mem {α : Type} {xs : List α} {lo hi : Option Int} {x : α} (h : x ∈ cutD xs lo hi) : x ∈ xs := List.mem_of_mem_drop (List.mem_of_mem_take h)
theorem RpA.repl {xs : List V} {ds : List PyData} (h : RpA A H xs ds) : ∀ k : Nat, RpA A H (List.replicate k xs).flatten (List.replicate k ds).flatten
  | 0 => .nil
  | k + 1 => by
    rw [List.replicate_succ, List.replicate_succ, List.flatten_cons, List.flatten_cons]
    exact h.append (RpA.repl h k)
/-- data without dicts, as the library's deep == takes it -/
def nod : PyData → Prop
  | .dict _ => False
  | _ => True
end
section
variable {X : Cx} {K : PySem.W.Frag} {e : Ef} {c c1 c2 c3 : Nat} {ta tb te tl : TE} {σ : L2.St} {A A' : As} {H H' : Hp} {Φ Ψ Θ : Pv} {ds es : List PyData} {d : PyData} {i j : Int} {a b : Bool}
/-! items -/
theorem kix_list (hK : X.K = K := by rfl) : IxR X (rIxL K) := hK ▸ ix_list
theorem kix_tup (hK : X.K = K := by rfl) : IxR X (rIxT K) := hK ▸ ix_tup
theorem em_ixL (h1 : Em e c1 ta σ A H (da (.list ds))) (h2 : Em e c2 tb σ A H (da (.int i))) (he : atI ds i = some d) : Em e (c1 + c2) (tOp (rIxL K) ta tb) σ A H (da d) :=
  em_op (c3 := 0) h1 h2 fun A' H' x y _ p q => by
    obtain ⟨a, xs, rfl, n, ha, r⟩ := Rp.list_eq p
    obtain ⟨z, hz, rz⟩ := r.atI he
    obtain rfl := Rp.int_eq q
    exact rv_v z (fun Q hq => ⟨a, xs, i, z, rfl, rfl, SqL.of ha, hz, hq⟩) rz
theorem em_ixT (h1 : Em e c1 ta σ A H (da (.tuple ds))) (h2 : Em e c2 tb σ A H (da (.int i))) (he : atI ds i = some d) : Em e (c1 + c2) (tOp (rIxT K) ta tb) σ A H (da d) :=
  em_op (c3 := 0) h1 h2 fun A' H' x y _ p q => by
    obtain ⟨a, xs, rfl, ha, r⟩ := Rp.tuple_eq p
    obtain ⟨z, hz, rz⟩ := r.atI he
    obtain rfl := Rp.int_eq q
    exact rv_v z (fun Q hq => ⟨a, xs, i, z, rfl, rfl, SqT.of ha, hz, hq⟩) rz
/-! len -/
def r_len (K : PySem.W.Frag) : List V → Hp → VK → Prop := fun xs H Q => ∃ p ys, xs = [.ref p] ∧ (SqL K H p ys ∨ SqT K H p ys) ∧ Q (.int ys.length) H
theorem k_len (hK : X.K = K := by rfl) : CallR X (.builtin "len") (r_len K) := hK ▸ call_len_seq
theorem pvs1 {Φ : Pv} {vs : List V} (h : Pvs [Φ] A H vs) : ∃ x, vs = [x] ∧ Φ.p A H x := by cases h with | cons h t => cases t; exact ⟨_, rfl, h⟩
theorem pvs2 {Φ Ψ : Pv} {vs : List V} (h : Pvs [Φ, Ψ] A H vs) : ∃ x y, vs = [x, y] ∧ Φ.p A H x ∧ Ψ.p A H y := by cases h with | cons h t => obtain ⟨y, rfl, q⟩ := pvs1 t; exact ⟨_, _, rfl, h, q⟩
theorem pvs3 {Φ Ψ Θ : Pv} {vs : List V} (h : Pvs [Φ, Ψ, Θ] A H vs) : ∃ x y z, vs = [x, y, z] ∧ Φ.p A H x ∧ Ψ.p A H y ∧ Θ.p A H z := by cases h with | cons h t => obtain ⟨y, z, rfl, q⟩ := pvs2 t; exact ⟨_, _, _, rfl, h, q⟩
theorem pvs4 {Φ Ψ Θ Ξ : Pv} {vs : List V} (h : Pvs [Φ, Ψ, Θ, Ξ] A H vs) : ∃ x y z u, vs = [x, y, z, u] ∧ Φ.p A H x ∧ Ψ.p A H y ∧ Θ.p A H z ∧ Ξ.p A H u := by cases h with | cons h t => obtain ⟨y, z, u, rfl, q⟩ := pvs3 t; exact ⟨_, _, _, _, rfl, h, q⟩
theorem pvs5 {Φ Ψ Θ Ξ Υ : Pv} {vs : List V} (h : Pvs [Φ, Ψ, Θ, Ξ, Υ] A H vs) : ∃ x y z u t, vs = [x, y, z, u, t] ∧ Φ.p A H x ∧ Ψ.p A H y ∧ Θ.p A H z ∧ Ξ.p A H u ∧ Υ.p A H t := by cases h with | cons h t => obtain ⟨y, z, u, t, rfl, q⟩ := pvs4 t; exact ⟨_, _, _, _, _, rfl, h, q⟩
/-- a built-in of one argument -/
theorem em_B1 {r : List V → Hp → VK → Prop} (h : Em e c1 ta σ A H Φ) (hr : ∀ A' H' x, Wl A H A' H' → Φ.p A' H' x → RV e 0 (r [x]) A' H' Θ) : Em e c1 (tCB r (tCons ta tNil)) σ A H Θ :=
  em_B (c1 := c1 + 0) (c2 := 0) (ema_cons h ema_nil) fun A' H' vs w p => by
    obtain ⟨x, rfl, q⟩ := pvs1 p
    exact hr A' H' x w q
theorem em_B2 {r : List V → Hp → VK → Prop} (h : Em e c1 ta σ A H Φ) (h2 : Em e c2 tb σ A H Ψ) (hr : ∀ A' H' x y, Wl A H A' H' → Φ.p A' H' x → Ψ.p A' H' y → RV e 0 (r [x, y]) A' H' Θ) : Em e (c1 + c2) (tCB r (tCons ta (tCons tb tNil))) σ A H Θ :=
  em_B (c1 := c1 + (c2 + 0)) (c2 := 0) (ema_cons h (ema_cons h2 ema_nil)) fun A' H' vs w p => by
    obtain ⟨x, y, rfl, q, q2⟩ := pvs2 p
    exact hr A' H' x y w q q2
theorem em_len (h : Em e c ta σ A H (da (.list ds))) : Em e c (tCB (r_len K) (tCons ta tNil)) σ A H (da (.int ds.length)) := em_B1 h fun A' H' x _ p => by
  obtain ⟨a, xs, rfl, n, ha, r⟩ := Rp.list_eq p
  exact rv_v (.int (ds.length : Int)) (fun Q hq => ⟨a, xs, rfl, .inl (SqL.of ha), by rw [r.length]; exact hq⟩) (.int _)
theorem em_lenT (h : Em e c ta σ A H (da (.tuple ds))) : Em e c (tCB (r_len K) (tCons ta tNil)) σ A H (da (.int ds.length)) := em_B1 h fun A' H' x _ p => by
  obtain ⟨a, xs, rfl, ha, r⟩ := Rp.tuple_eq p
  exact rv_v (.int (ds.length : Int)) (fun Q hq => ⟨a, xs, rfl, .inr (SqT.of ha), by rw [r.length]; exact hq⟩) (.int _)
/-! list(..), tuple(..) -/
def r_list (K : PySem.W.Frag) : List V → Hp → VK → Prop := fun xs H Q => ∃ p ys, xs = [.ref p] ∧ (SqL K H p ys ∨ SqT K H p ys) ∧ ∀ l, H l = none → Q (.ref l) (upd H l (.lst ys))
theorem k_list (hK : X.K = K := by rfl) : CallR X (.type "list") (r_list K) := hK ▸ call_list_of
def r_tuple (K : PySem.W.Frag) : List V → Hp → VK → Prop := fun xs H Q => ∃ p ys, xs = [.ref p] ∧ ((SqL K H p ys ∧ ∀ l, H l = none → Q (.ref l) (upd H l (.tup ys))) ∨ (SqT K H p ys ∧ Q (.ref p) H))
theorem k_tuple (hK : X.K = K := by rfl) : CallR X (.type "tuple") (r_tuple K) := hK ▸ call_tuple_of
theorem em_list (h : Em e c ta σ A H (da (.list ds))) : Em e c (tCB (r_list K) (tCons ta tNil)) σ A H (da (.list ds)) := em_B1 h fun A' H' x _ p => by
  obtain ⟨a, xs, rfl, n, ha, r⟩ := Rp.list_eq p
  exact rv_new (.lst xs) (fun Q hq => ⟨a, xs, rfl, .inl (SqL.of ha), hq⟩) fun l hl nl => .lst nl upd_same (r.up (.of0 (.new hl)))
theorem em_listT (h : Em e c ta σ A H (da (.tuple ds))) : Em e c (tCB (r_list K) (tCons ta tNil)) σ A H (da (.list ds)) := em_B1 h fun A' H' x _ p => by
  obtain ⟨a, xs, rfl, ha, r⟩ := Rp.tuple_eq p
  exact rv_new (.lst xs) (fun Q hq => ⟨a, xs, rfl, .inr (SqT.of ha), hq⟩) fun l hl nl => .lst nl upd_same (r.up (.of0 (.new hl)))
theorem em_tuple (h : Em e c ta σ A H (da (.list ds))) : Em e c (tCB (r_tuple K) (tCons ta tNil)) σ A H (da (.tuple ds)) := em_B1 h fun A' H' x _ p => by
  obtain ⟨a, xs, rfl, n, ha, r⟩ := Rp.list_eq p
  exact rv_new (.tup xs) (fun Q hq => ⟨a, xs, rfl, .inl ⟨SqL.of ha, hq⟩⟩) fun l hl nl => .tup upd_same (r.up (.of0 (.new hl)))
theorem em_tupleT (h : Em e c ta σ A H (da (.tuple ds))) : Em e c (tCB (r_tuple K) (tCons ta tNil)) σ A H (da (.tuple ds)) := em_B1 h fun A' H' x _ p => by
  obtain ⟨a, xs, rfl, ha, r⟩ := Rp.tuple_eq p
  exact rv_v (.ref a) (fun Q hq => ⟨a, xs, rfl, .inr ⟨SqT.of ha, hq⟩⟩) (.tup ha r)
/-! + and * of lists, slices -/
theorem em_cat (h1 : Em e c1 ta σ A H (da (.list ds))) (h2 : Em e c2 tb σ A H (da (.list es))) (hl : ds.length + es.length ≤ 100000) : Em e (c1 + c2) (tOp rCat ta tb) σ A H (da (.list (ds ++ es))) :=
  em_op (c3 := 0) h1 h2 fun A' H' x y _ p q => by
    obtain ⟨a, xs, rfl, n, ha, r⟩ := Rp.list_eq p
    obtain ⟨b, ys, rfl, m, hb, s⟩ := Rp.list_eq q
    exact rv_new (.lst (xs ++ ys)) (fun Q hq => ⟨a, b, xs, ys, rfl, rfl, ha, hb, sz5 (by rw [r.length, s.length]; exact hl), hq⟩) fun l hl nl => .lst nl upd_same ((r.append s).up (.of0 (.new hl)))
theorem em_rep (h1 : Em e c1 ta σ A H (da (.list ds))) (h2 : Em e c2 tb σ A H (da (.int i))) (hi : 0 ≤ i ∧ i ≤ 100000) (hl : ds.length * i.toNat ≤ 100000) : Em e (c1 + c2) (tOp rRep ta tb) σ A H (da (.list (List.replicate i.toNat ds).flatten)) :=
  em_op (c3 := 0) h1 h2 fun A' H' x y _ p q => by
    obtain ⟨a, xs, rfl, n, ha, r⟩ := Rp.list_eq p
    obtain rfl := Rp.int_eq q
    exact rv_new (.lst (List.replicate i.toNat xs).flatten) (fun Q hq => ⟨a, i, xs, rfl, rfl, ha, by omega, by omega, sz5 (by rw [r.length]; exact hl), hq⟩) fun l hl nl => .lst nl upd_same ((r.repl _).up (.of0 (.new hl)))
theorem ksl_list (hK : X.K = K := by rfl) : SlR X (rSlL K) := hK ▸ sl_list
theorem ksl_tup (hK : X.K = K := by rfl) : SlR X (rSlA K) := hK ▸ sl_tupA
/-- a part of a slice -/
def EmO (e : Ef) (c : Nat) (to : TO) (σ : L2.St) (A : As) (H : Hp) (o : Option Int) : Prop :=
  ∀ A' H' n, Wl A H A' H' → Cur e A' H' n → n + c ≤ big → ∀ Q : Option Int → Hp → Prop, (∀ H2, Kp e.B H' H2 → e.J (n + c) H2 → Q o H2) → to σ H' Q
theorem emo_none : EmO e 0 tNoPart σ A H none := fun A' H' n w cu hn Q q => q H' (.refl _) cu.j
theorem emo_some (h : Em e c ta σ A H (da (.int i))) : EmO e c (tPart ta) σ A H (some i) := fun A' H' n w cu hn Q q => h A' H' n w cu hn _ fun v H2 k jj p => ⟨i, Rp.int_eq p, q H2 k jj⟩
theorem em_sl {r : V → Option Int → Option Int → Hp → VK → Prop} {tlo thi : TO} {lo hi : Option Int} (h : Em e c1 ta σ A H Φ) (h2 : EmO e c2 tlo σ A H lo) (h3 : EmO e c3 thi σ A H hi) (hr : ∀ A' H' x, Wl A H A' H' → Φ.p A' H' x → RV e 0 (r x lo hi) A' H' Θ) :
    Em e (c1 + c2 + c3) (tSl r ta tlo thi) σ A H Θ := fun A' H' n w cu hn Q q =>
  h A' H' n w cu (by omega) _ fun x H2 k1 j1 p1 => h2 A' H2 (n + c1) (w.trans (cu.wl k1)) (cu.aft k1 j1) (by omega) _ fun H3 k2 j2 => h3 A' H3 (n + c1 + c2) (w.trans (cu.wl (k1.trans k2))) (cu.aft (k1.trans k2) j2) (by omega) _ fun H4 k3 j3 =>
    hr A' H4 x (w.trans (cu.wl ((k1.trans k2).trans k3))) (Φ.up (.of (k2.trans k3) cu.sub) p1) (n + c1 + c2 + c3) (cu.aft ((k1.trans k2).trans k3) j3) (by omega) Q fun v H5 k4 j4 p4 => q v H5 (((k1.trans k2).trans k3).trans k4) (by rw [← Nat.add_assoc, ← Nat.add_assoc]; exact j4) p4
theorem em_slL {tlo thi : TO} {lo hi : Option Int} (h : Em e c1 ta σ A H (da (.list ds))) (h2 : EmO e c2 tlo σ A H lo) (h3 : EmO e c3 thi σ A H hi) : Em e (c1 + c2 + c3) (tSl (rSlL K) ta tlo thi) σ A H (da (.list (cutD ds lo hi))) :=
  em_sl h h2 h3 fun A' H' x _ p => by
    obtain ⟨a, xs, rfl, n, ha, r⟩ := Rp.list_eq p
    exact rv_new (.lst (cutV xs lo hi)) (fun Q hq => ⟨a, xs, rfl, SqL.of ha, hq⟩) fun l hl nl => .lst nl upd_same (r.cut.up (.of0 (.new hl)))
theorem cut_all {α : Type} (xs : List α) (lo hi : Option Int) (h : HT.sIx xs.length 0 lo = 0 ∧ HT.sIx xs.length xs.length hi = xs.length) : cutD xs lo hi = xs := by
  unfold cutD
  rw [h.1, h.2, List.drop_zero, Nat.sub_zero, List.take_length]
theorem em_slT {tlo thi : TO} {lo hi : Option Int} (h : Em e c1 ta σ A H (da (.tuple ds))) (h2 : EmO e c2 tlo σ A H lo) (h3 : EmO e c3 thi σ A H hi) : Em e (c1 + c2 + c3) (tSl (rSlA K) ta tlo thi) σ A H (da (.tuple (cutD ds lo hi))) :=
  em_sl h h2 h3 fun A' H' x _ p => by
    obtain ⟨a, xs, rfl, ha, r⟩ := Rp.tuple_eq p
    by_cases z : HT.sIx xs.length 0 lo = 0 ∧ HT.sIx xs.length xs.length hi = xs.length
    · refine rv_v (.ref a) (fun Q hq => ⟨a, xs, rfl, SqT.of ha, fun _ => hq, fun q => absurd z q⟩) ?_
      rw [cut_all ds lo hi (by rw [← r.length]; exact z)]
      exact .tup ha r
    · exact rv_new (.tup (cutV xs lo hi)) (fun Q hq => ⟨a, xs, rfl, SqT.of ha, fun q => absurd q z, fun _ => hq⟩) fun l hl nl => .tup upd_same (r.cut.up (.of0 (.new hl)))
theorem kpe_revL {ee : Expr} {te : TE} {k : Nat} {p1 p2 p3 pos : Pos} (he : PE X ee te) (hK : X.K = K := by rfl) : PE X (.Subscript ee (.Slice none none (some (.UnaryOp .USub (.Constant (.int 1) k p1) p2)) p3) pos) (tRevL K te) := hK ▸ pe_revL he
theorem em_rev (h : Em e c ta σ A H (da (.list ds))) : Em e c (tRevL K ta) σ A H (da (.list ds.reverse)) := fun A' H' n w cu hn Q q => h A' H' n w cu hn _ fun v H2 k jj p => by
  obtain ⟨a, xs, rfl, na, ha, r⟩ := Rp.list_eq p
  exact ⟨a, xs, rfl, SqL.of ha, fun l hl => q _ _ (k.trans (.new hl)) ((cu.aft k jj).new hl).j (.lst ((cu.lv.kp k).fresh hl) upd_same (r.rev.up (.of0 (.new hl))))⟩
/-! all, any, sum, min, max, int -/
theorem k_all (hc : X.calm = true) (hK : X.K = K := by rfl) : CallR X (.builtin "all") (rAll K) := hK ▸ cr_all hc
theorem k_any (hc : X.calm = true) (hK : X.K = K := by rfl) : CallR X (.builtin "any") (rAny K) := hK ▸ cr_any hc
theorem k_sum (hc : X.calm = true) (hK : X.K = K := by rfl) : CallR X (.builtin "sum") (rSum K) := hK ▸ cr_sum hc
theorem k_min (hc : X.calm = true) (hK : X.K = K := by rfl) : CallR X (.builtin "min") (rMin K) := hK ▸ cr_min hc
theorem em_all {bs : List Bool} (h : Em e c ta σ A H (da (.list (bs.map .bool)))) : Em e c (tCB (rAll K) (tCons ta tNil)) σ A H (da (.bool (bs.all id))) := em_B1 h fun A' H' x _ p => by
  obtain ⟨a, xs, rfl, n, ha, r⟩ := Rp.list_eq p
  obtain rfl := r.bls_eq
  exact rv_v (.bl (bs.all id)) (fun Q hq => ⟨a, bs, rfl, SqL.of ha, hq⟩) (.bl _)
theorem em_any {bs : List Bool} (h : Em e c ta σ A H (da (.list (bs.map .bool)))) : Em e c (tCB (rAny K) (tCons ta tNil)) σ A H (da (.bool (bs.any id))) := em_B1 h fun A' H' x _ p => by
  obtain ⟨a, xs, rfl, n, ha, r⟩ := Rp.list_eq p
  obtain rfl := r.bls_eq
  exact rv_v (.bl (bs.any id)) (fun Q hq => ⟨a, bs, rfl, SqL.of ha, hq⟩) (.bl _)
theorem em_sum {ns : List Int} (h : Em e c ta σ A H (da (.list (ns.map .int)))) : Em e c (tCB (rSum K) (tCons ta tNil)) σ A H (da (.int ns.sum)) := em_B1 h fun A' H' x _ p => by
  obtain ⟨a, xs, rfl, n, ha, r⟩ := Rp.list_eq p
  obtain rfl := r.ints_eq
  exact rv_v (.int ns.sum) (fun Q hq => ⟨a, ns, rfl, SqL.of ha, hq⟩) (.int _)
/-- the least of a list of ints -/
theorem em_min {ns : List Int} (h : Em e c ta σ A H (da (.list (ns.map .int)))) (h0 : 0 < ns.length) : Em e c (tCB (rMin K) (tCons ta tNil)) σ A H (exv (fun m : Int => m ∈ ns ∧ ∀ y ∈ ns, m ≤ y) fun m => da (.int m)) := em_B1 h fun A' H' x _ p => by
  obtain ⟨a, xs, rfl, n, ha, r⟩ := Rp.list_eq p
  obtain rfl := r.ints_eq
  exact fun n cu _ Q q => ⟨a, ns, rfl, SqL.of ha, h0, fun m h1 h2 => q (.int m) _ (.refl _) cu.j ⟨m, ⟨h1, h2⟩, .int m⟩⟩
def r_max2 : List V → Hp → VK → Prop := fun xs H Q => ∃ i j, xs = [.int i, .int j] ∧ Q (.int (if j > i then j else i)) H
def r_min2 : List V → Hp → VK → Prop := fun xs H Q => ∃ i j, xs = [.int i, .int j] ∧ Q (.int (if j < i then j else i)) H
theorem k_max2 (hc : X.calm = true) : CallR X (.builtin "max") r_max2 := call_max2 hc
theorem k_min2 (hc : X.calm = true) : CallR X (.builtin "min") r_min2 := call_min2 hc
theorem em_max2 (h : Em e c1 ta σ A H (da (.int i))) (h2 : Em e c2 tb σ A H (da (.int j))) : Em e (c1 + c2) (tCB r_max2 (tCons ta (tCons tb tNil))) σ A H (da (.int (max i j))) := em_B2 h h2 fun A' H' x y _ p q => by
  obtain rfl := Rp.int_eq p
  obtain rfl := Rp.int_eq q
  have ee : (if j > i then j else i) = max i j := by
    by_cases z : j > i
    · rw [if_pos z]; omega
    · rw [if_neg z]; omega
  exact rv_v (.int (max i j)) (fun Q hq => ⟨i, j, rfl, by rw [ee]; exact hq⟩) (.int _)
theorem em_min2 (h : Em e c1 ta σ A H (da (.int i))) (h2 : Em e c2 tb σ A H (da (.int j))) : Em e (c1 + c2) (tCB r_min2 (tCons ta (tCons tb tNil))) σ A H (da (.int (min i j))) := em_B2 h h2 fun A' H' x y _ p q => by
  obtain rfl := Rp.int_eq p
  obtain rfl := Rp.int_eq q
  have ee : (if j < i then j else i) = min i j := by
    by_cases z : j < i
    · rw [if_pos z]; omega
    · rw [if_neg z]; omega
  exact rv_v (.int (min i j)) (fun Q hq => ⟨i, j, rfl, by rw [ee]; exact hq⟩) (.int _)
def r_int1 : List V → Hp → VK → Prop := fun xs H Q => (∃ i, xs = [.int i] ∧ Q (.int i) H) ∨ ∃ k, xs = [.bl k] ∧ Q (.int (if k then 1 else 0)) H
theorem k_int : CallR X (.type "int") r_int1 := call_int1
theorem em_int1 (h : Em e c ta σ A H (da (.int i))) : Em e c (tCB r_int1 (tCons ta tNil)) σ A H (da (.int i)) := em_B1 h fun A' H' x _ p => by
  obtain rfl := Rp.int_eq p
  exact rv_v (.int i) (fun Q hq => .inl ⟨i, rfl, hq⟩) (.int _)
theorem em_intB (h : Em e c ta σ A H (da (.bool b))) : Em e c (tCB r_int1 (tCons ta tNil)) σ A H (da (.int (if b then 1 else 0))) := em_B1 h fun A' H' x _ p => by
  obtain rfl := Rp.bl_eq p
  exact rv_v _ (fun Q hq => .inr ⟨b, rfl, hq⟩) (.int _)
/-! arithmetic, comparisons -/
theorem em_I0 {g : Int → Int → V} {d : PyData} (h : Em e c1 ta σ A H (da (.int i))) (h2 : Em e c2 tb σ A H (da (.int j))) (hd : ∀ A H, Rp A H (g i j) d) : Em e (c1 + c2) (tOp (rI0 g) ta tb) σ A H (da d) := em_op (c3 := 0) h h2 fun A' H' x y _ p q => by
  obtain rfl := Rp.int_eq p
  obtain rfl := Rp.int_eq q
  exact rv_v (g i j) (fun Q hq => ⟨i, j, rfl, rfl, hq⟩) (hd _ _)
theorem em_I {C : Int → Int → Prop} {g : Int → Int → V} {d : PyData} (h : Em e c1 ta σ A H (da (.int i))) (h2 : Em e c2 tb σ A H (da (.int j))) (hC : C i j) (hd : ∀ A H, Rp A H (g i j) d) : Em e (c1 + c2) (tOp (rI C g) ta tb) σ A H (da d) := em_op (c3 := 0) h h2 fun A' H' x y _ p q => by
  obtain rfl := Rp.int_eq p
  obtain rfl := Rp.int_eq q
  exact rv_v (g i j) (fun Q hq => ⟨i, j, rfl, rfl, hC, hq⟩) (hd _ _)
theorem em_bin {g : Int → Int → Int} (h : Em e c1 ta σ A H (da (.int i))) (h2 : Em e c2 tb σ A H (da (.int j))) : Em e (c1 + c2) (tOp (rI0 fun i j => .int (g i j)) ta tb) σ A H (da (.int (g i j))) := em_I0 h h2 fun _ _ => .int _
theorem em_cmp {g : Int → Int → Bool} (h : Em e c1 ta σ A H (da (.int i))) (h2 : Em e c2 tb σ A H (da (.int j))) : Em e (c1 + c2) (tOp (rI0 fun i j => .bl (g i j)) ta tb) σ A H (da (.bool (g i j))) := em_I0 h h2 fun _ _ => .bl _
theorem em_binC {C : Int → Int → Prop} {g : Int → Int → Int} (h : Em e c1 ta σ A H (da (.int i))) (h2 : Em e c2 tb σ A H (da (.int j))) (hC : C i j) : Em e (c1 + c2) (tOp (rI C fun i j => .int (g i j)) ta tb) σ A H (da (.int (g i j))) := em_I h h2 hC fun _ _ => .int _
theorem em_neg (h : Em e c ta σ A H (da (.int i))) : Em e c (tUn (rU fun i => .int (-i)) ta) σ A H (da (.int (-i))) := em_un (c2 := 0) h fun A' H' x _ p => by
  obtain rfl := Rp.int_eq p
  exact rv_v _ (fun Q hq => ⟨i, rfl, hq⟩) (.int _)
theorem em_inv (h : Em e c ta σ A H (da (.int i))) : Em e c (tUn (rU fun i => .int (Builtin.bitNot i)) ta) σ A H (da (.int (Builtin.bitNot i))) := em_un (c2 := 0) h fun A' H' x _ p => by
  obtain rfl := Rp.int_eq p
  exact rv_v _ (fun Q hq => ⟨i, rfl, hq⟩) (.int _)
theorem em_eqI (h : Em e c1 ta σ A H (da (.int i))) (h2 : Em e c2 tb σ A H (da (.int j))) : Em e (c1 + c2) (tOp rEq ta tb) σ A H (da (.bool (decide (i = j)))) := em_op (c3 := 0) h h2 fun A' H' x y _ p q => by
  obtain rfl := Rp.int_eq p
  obtain rfl := Rp.int_eq q
  have ee : decide (V.int i = V.int j) = decide (i = j) := by simp
  exact rv_v _ (fun Q hq => ⟨rfl, hq⟩) (by rw [ee]; exact .bl _)
theorem em_neI (h : Em e c1 ta σ A H (da (.int i))) (h2 : Em e c2 tb σ A H (da (.int j))) : Em e (c1 + c2) (tOp rNe ta tb) σ A H (da (.bool (!decide (i = j)))) := em_op (c3 := 0) h h2 fun A' H' x y _ p q => by
  obtain rfl := Rp.int_eq p
  obtain rfl := Rp.int_eq q
  have ee : decide (V.int i = V.int j) = decide (i = j) := by simp
  exact rv_v _ (fun Q hq => ⟨rfl, hq⟩) (by rw [ee]; exact .bl _)
theorem em_eqB (h : Em e c1 ta σ A H (da (.bool a))) (h2 : Em e c2 tb σ A H (da (.bool b))) : Em e (c1 + c2) (tOp rEq ta tb) σ A H (da (.bool (decide (a = b)))) := em_op (c3 := 0) h h2 fun A' H' x y _ p q => by
  obtain rfl := Rp.bl_eq p
  obtain rfl := Rp.bl_eq q
  have ee : decide (V.bl a = V.bl b) = decide (a = b) := by simp
  exact rv_v _ (fun Q hq => ⟨rfl, hq⟩) (by rw [ee]; exact .bl _)
theorem em_neB (h : Em e c1 ta σ A H (da (.bool a))) (h2 : Em e c2 tb σ A H (da (.bool b))) : Em e (c1 + c2) (tOp rNe ta tb) σ A H (da (.bool (!decide (a = b)))) := em_op (c3 := 0) h h2 fun A' H' x y _ p q => by
  obtain rfl := Rp.bl_eq p
  obtain rfl := Rp.bl_eq q
  have ee : decide (V.bl a = V.bl b) = decide (a = b) := by simp
  exact rv_v _ (fun Q hq => ⟨rfl, hq⟩) (by rw [ee]; exact .bl _)
/-! in, not in of ints -/
theorem kop_in (hK : X.K = K := by rfl) : OpR X (compareOp .In) (rIn K false) := hK ▸ op_in_seq
theorem kop_notIn (hK : X.K = K := by rfl) : OpR X (compareOp .NotIn) (rIn K true) := hK ▸ op_notIn_seq
theorem inV_ints (n : Int) : ∀ ns : List Int, inV (.int n) (ns.map V.int) = decide (n ∈ ns)
  | [] => rfl
  | m :: ns => by
    have ih := inV_ints n ns
    unfold inV at ih ⊢
    rw [List.map_cons, List.any_cons, ih]
    have e1 : eqV (.int m) (.int n) = decide (m = n) := by
      show (m == n) = decide (m = n)
      by_cases z : m = n
      · subst z; simp
      · simp [z]
    rw [e1]
    by_cases z : m = n
    · subst z; simp
    · have z2 : ¬ n = m := fun q => z q.symm
      simp [z, z2]
theorem flat_ints : ∀ ns : List Int, (ns.map V.int).all flatV = true
  | [] => rfl
  | m :: ns => by rw [List.map_cons, List.all_cons, flat_ints ns]; rfl
theorem em_inL {neg : Bool} {ns : List Int} (h : Em e c1 ta σ A H (da (.int i))) (h2 : Em e c2 tb σ A H (da (.list (ns.map .int)))) : Em e (c1 + c2) (tOp (rIn K neg) ta tb) σ A H (da (.bool (if neg then !decide (i ∈ ns) else decide (i ∈ ns)))) := em_op (c3 := 0) h h2 fun A' H' x y _ p q => by
  obtain rfl := Rp.int_eq p
  obtain ⟨a, xs, rfl, n, ha, r⟩ := Rp.list_eq q
  obtain rfl := r.ints_eq
  exact rv_v _ (fun Q hq => ⟨a, _, rfl, .inl (SqL.of ha), rfl, flat_ints ns, hq⟩) (by rw [inV_ints]; exact .bl _)
theorem em_inT {neg : Bool} {ns : List Int} (h : Em e c1 ta σ A H (da (.int i))) (h2 : Em e c2 tb σ A H (da (.tuple (ns.map .int)))) : Em e (c1 + c2) (tOp (rIn K neg) ta tb) σ A H (da (.bool (if neg then !decide (i ∈ ns) else decide (i ∈ ns)))) := em_op (c3 := 0) h h2 fun A' H' x y _ p q => by
  obtain rfl := Rp.int_eq p
  obtain ⟨a, xs, rfl, ha, r⟩ := Rp.tuple_eq q
  obtain rfl := r.ints_eq
  exact rv_v _ (fun Q hq => ⟨a, _, rfl, .inr (SqT.of ha), rfl, flat_ints ns, hq⟩) (by rw [inV_ints]; exact .bl _)
/-! displays of data -/
def EmD (e : Ef) (c : Nat) (ta : TA) (σ : L2.St) (A : As) (H : Hp) (ds : List PyData) : Prop := EmA e c ta σ A H (ds.map da)
theorem pvs_da {vs : List V} : ∀ {ds : List PyData} {vs : List V}, Pvs (ds.map da) A H vs → RpA A H vs ds
  | [], _, .nil => .nil
  | d :: ds, _, .cons h t => .cons h (pvs_da (vs := vs) t)
theorem emd_nil : EmD e 0 tNil σ A H [] := ema_nil
theorem emd_cons {tr : TA} (h : Em e c1 ta σ A H (da d)) (h2 : EmD e c2 tr σ A H ds) : EmD e (c1 + c2) (tCons ta tr) σ A H (d :: ds) := ema_cons h h2
theorem em_tupD {ta : TA} (h : EmD e c ta σ A H ds) (hl : ds.length ≤ 100000) : Em e c (tTup ta) σ A H (da (.tuple ds)) := em_tup h (by rw [List.length_map]; exact hl) fun A' H' vs a _ p n ha => .tup ha (pvs_da (vs := []) p)
theorem em_lstD {ta : TA} (h : EmD e c ta σ A H ds) (hl : ds.length ≤ 100000) : Em e c (tLst ta) σ A H (da (.list ds)) := em_lst h (by rw [List.length_map]; exact hl) fun A' H' vs a _ p n ha => .lst n ha (pvs_da (vs := []) p)
end
end SB
namespace SB
open PySem PySem.Spec L2
/-! ### rules with the written part said -/
section
variable {X : Cx} {K : PySem.W.Frag} {a b ee o : Expr} {ta tb te : TE} {pos tpos p : Pos} {f : Str}
theorem kpe_fld (he : PE X ee ta) (hb : attributeBase ee f X.env (eval ee X.env) = eval ee X.env) (hK : X.K = K := by rfl) : PE X (.Attribute ee f pos) (tFld K ta f) := hK ▸ pe_fld he hb
theorem kpi_list {tg l : Expr} {tl : TE} (hl : PE X l tl) (hK : X.K = K := by rfl) : PI X tg l (iList K tl) := hK ▸ pi_list hl
theorem kpi_tup {tg l : Expr} {tl : TE} (hl : PE X l tl) (hK : X.K = K := by rfl) : PI X tg l (iTup K tl) := hK ▸ pi_tup hl
theorem kpi_enum {e : Expr} {ta : TA} {p pos tpos : Pos} {elts : List Expr} {kk : Nat} (hg : Gl X "enumerate") (hm : X.mg "enumerate" = none) (ha : PA X [e] ta) (hs : starEach [e] X.env = [(false, eval e X.env)] := by rfl) (hK : X.K = K := by rfl) :
    PI X (.Tuple elts kk tpos) (.Call (.Name "enumerate" p) [e] [] pos) (iEnum K ta) := hK ▸ pi_enum hg hm ha hs
theorem kpt_truth (ha : PE X a ta) (he : ∀ whole, isTrue a X.env whole = (do let v ← whole; standAt a.pos; holding [v] (truthy v))) (hK : X.K = K := by rfl) :
    PT X a (fun σ H Q => ta σ H fun x H' => ∃ k, TruV K x H' k ∧ Q k H') := hK ▸ pt_truth ha he
theorem kpg_tup {es : List Expr} {k : Nat} {t : TGs} {n : Nat} (hc : X.calm = true) (h : PGs X es t) (hn : (assignEach es X.env).length = n := by rfl) (hst : (assignEach es X.env).findIdx? (·.1) = none := by rfl) (hK : X.K = K := by rfl) :
    PG X (.Tuple es k pos) (gTup K n t) := hK ▸ pg_tup hc h hn hst
theorem k_isi (hK : X.K = K := by rfl) : CallR X (.builtin "isinstance") (rIsi K) := hK ▸ call_isi
theorem k_isiT (hK : X.K = K := by rfl) : CallR X (.builtin "isinstance") (rIsiT K) := hK ▸ call_isiT
theorem pe_c0 {k j : Nat} {x : Str} {sp : Sp} (c : C8.Cal X.prog X.w X.K X.mg X.base k x sp []) (hr : Room j X.A) (hk : k ≤ j) (hg : Gl X x) (hdb : (x == ("__debug__" : Str)) = false := by decide) : PE X (.Call (.Name x p) [] [] pos) (tCall sp [] E0 tNil) := by
  obtain ⟨f, fd, ps, ds, F, hm, kp, b, d⟩ := c.ex
  exact pe_call0 F (hr.mono hk) hg hm kp b d pass0 hdb
end
/-! ### what kind of data -/
def kd : PyData → String
  | .none => "NoneType" | .bool _ => "bool" | .int _ => "int" | .str _ => "str" | .list _ => "list" | .tuple _ => "tuple" | .dict _ => "dict"
def isInt : PyData → Bool | .int _ => true | .bool _ => true | _ => false
def isBl : PyData → Bool | .bool _ => true | _ => false
def isLst : PyData → Bool | .list _ => true | _ => false
def isTp : PyData → Bool | .tuple _ => true | _ => false
def isDc : PyData → Bool | .dict _ => true | _ => false
theorem kit_int : ∀ d : PyData, kitB (kd d) "int" = some (isInt d)
  | .none => (by decide +kernel : kitB "NoneType" "int" = some false)
  | .bool _ => (by decide +kernel : kitB "bool" "int" = some true)
  | .int _ => (by decide +kernel : kitB "int" "int" = some true)
  | .str _ => (by decide +kernel : kitB "str" "int" = some false)
  | .list _ => (by decide +kernel : kitB "list" "int" = some false)
  | .tuple _ => (by decide +kernel : kitB "tuple" "int" = some false)
  | .dict _ => (by decide +kernel : kitB "dict" "int" = some false)
theorem kit_bool : ∀ d : PyData, kitB (kd d) "bool" = some (isBl d)
  | .none => (by decide +kernel : kitB "NoneType" "bool" = some false)
  | .bool _ => (by decide +kernel : kitB "bool" "bool" = some true)
  | .int _ => (by decide +kernel : kitB "int" "bool" = some false)
  | .str _ => (by decide +kernel : kitB "str" "bool" = some false)
  | .list _ => (by decide +kernel : kitB "list" "bool" = some false)
  | .tuple _ => (by decide +kernel : kitB "tuple" "bool" = some false)
  | .dict _ => (by decide +kernel : kitB "dict" "bool" = some false)
theorem kit_list : ∀ d : PyData, kitB (kd d) "list" = some (isLst d)
  | .none => (by decide +kernel : kitB "NoneType" "list" = some false)
  | .bool _ => (by decide +kernel : kitB "bool" "list" = some false)
  | .int _ => (by decide +kernel : kitB "int" "list" = some false)
  | .str _ => (by decide +kernel : kitB "str" "list" = some false)
  | .list _ => (by decide +kernel : kitB "list" "list" = some true)
  | .tuple _ => (by decide +kernel : kitB "tuple" "list" = some false)
  | .dict _ => (by decide +kernel : kitB "dict" "list" = some false)
theorem kit_tuple : ∀ d : PyData, kitB (kd d) "tuple" = some (isTp d)
  | .none => (by decide +kernel : kitB "NoneType" "tuple" = some false)
  | .bool _ => (by decide +kernel : kitB "bool" "tuple" = some false)
  | .int _ => (by decide +kernel : kitB "int" "tuple" = some false)
  | .str _ => (by decide +kernel : kitB "str" "tuple" = some false)
  | .list _ => (by decide +kernel : kitB "list" "tuple" = some false)
  | .tuple _ => (by decide +kernel : kitB "tuple" "tuple" = some true)
  | .dict _ => (by decide +kernel : kitB "dict" "tuple" = some false)
theorem kit_dict : ∀ d : PyData, kitB (kd d) "dict" = some (isDc d)
  | .none => (by decide +kernel : kitB "NoneType" "dict" = some false)
  | .bool _ => (by decide +kernel : kitB "bool" "dict" = some false)
  | .int _ => (by decide +kernel : kitB "int" "dict" = some false)
  | .str _ => (by decide +kernel : kitB "str" "dict" = some false)
  | .list _ => (by decide +kernel : kitB "list" "dict" = some false)
  | .tuple _ => (by decide +kernel : kitB "tuple" "dict" = some false)
  | .dict _ => (by decide +kernel : kitB "dict" "dict" = some true)
section
variable {K : PySem.W.Frag} {e : Ef} {c c1 c2 c3 ct ce : Nat} {ta tb te tl : TE} {tt tu : TT} {σ : L2.St} {A A' : As} {H H' : Hp} {Φ Ψ Θ : Pv} {ds es : List PyData} {d : PyData} {i j n m : Nat} {v : V} {D : Ends}
theorem Rp.ty (h : Rp A H v d) : TyX K H v (.type (kd d)) := by
  cases h with
  | non => exact .base .non
  | bl b => exact .base (.bl b)
  | int i => exact .base (.int i)
  | lst _ h _ => exact .base (.lst h)
  | tup h _ => exact .base (.tup h)
  | dic _ h => exact .base (.dK h)
theorem em_isi {nm : String} {b : Bool} (h : Em e c ta σ A H (da d)) (hk : kitB (kd d) nm = some b) : Em e c (tCB (rIsi K) (tCons ta (tCons (tC (.ty nm)) tNil))) σ A H (da (.bool b)) :=
  em_B2 (c2 := 0) h (em_c (Φ := isv (.ty nm)) rfl) fun A' H' x y _ p q => by
    have q : y = .ty nm := q
    subst q
    exact rv_v (.bl b) (fun Q hq => ⟨x, .ty nm, .type (kd d), .type nm, b, rfl, .ty nm, p.ty, kit_ty hk, hq⟩) (.bl b)
theorem em_isInt (h : Em e c ta σ A H (da d)) : Em e c (tCB (rIsi K) (tCons ta (tCons (tC (.ty "int")) tNil))) σ A H (da (.bool (isInt d))) := em_isi h (kit_int d)
theorem em_isBl (h : Em e c ta σ A H (da d)) : Em e c (tCB (rIsi K) (tCons ta (tCons (tC (.ty "bool")) tNil))) σ A H (da (.bool (isBl d))) := em_isi h (kit_bool d)
theorem em_isLst (h : Em e c ta σ A H (da d)) : Em e c (tCB (rIsi K) (tCons ta (tCons (tC (.ty "list")) tNil))) σ A H (da (.bool (isLst d))) := em_isi h (kit_list d)
theorem em_isTp (h : Em e c ta σ A H (da d)) : Em e c (tCB (rIsi K) (tCons ta (tCons (tC (.ty "tuple")) tNil))) σ A H (da (.bool (isTp d))) := em_isi h (kit_tuple d)
theorem em_isDc (h : Em e c ta σ A H (da d)) : Em e c (tCB (rIsi K) (tCons ta (tCons (tC (.ty "dict")) tNil))) σ A H (da (.bool (isDc d))) := em_isi h (kit_dict d)
theorem kit_lt {K : PySem.W.Frag} (d : PyData) : PySem.W.kitAny K (.type (kd d)) [.type "list", .type "tuple"] = some (isLst d || isTp d) := by
  refine kitAny_cons (b := isLst d) (kit_ty (kit_list d)) (fun h => ?_) (fun h => ?_)
  · rw [h, Bool.false_or]
    refine kitAny_cons (b := isTp d) (kit_ty (kit_tuple d)) (fun h2 => ?_) (fun h2 => h2)
    rw [h2]
    exact kitAny_nil
  · rw [h, Bool.true_or]
/-- isinstance(x, (list, tuple)) -/
theorem em_isLT (h : Em e c ta σ A H (da d)) : Em e c (tCB (rIsiT K) (tCons ta (tCons (tTup (tCons (tC (.ty "list")) (tCons (tC (.ty "tuple")) tNil))) tNil))) σ A H (da (.bool (isLst d || isTp d))) :=
  em_B2 (c2 := 0) (Ψ := ⟨fun A H v => ∃ a, v = .ref a ∧ ¬ A a ∧ H a = some (.tup [.ty "list", .ty "tuple"]), fun w ⟨a, h1, h2, h3⟩ => ⟨a, h1, (w.f a _ h2 h3).1, (w.f a _ h2 h3).2⟩, fun w ⟨a, h1, h2, h3⟩ => ⟨a, h1, fun q => h2 (w a q), h3⟩⟩) h
    (em_tup (Φs := [isv (.ty "list"), isv (.ty "tuple")]) (ema_cons (c1 := 0) (c2 := 0) (em_c rfl) (ema_cons (c1 := 0) (c2 := 0) (em_c rfl) ema_nil)) (by decide) fun A' H' vs a _ p na ha => by
      obtain ⟨x, y, rfl, q1, q2⟩ := pvs2 p
      have q1 : x = .ty "list" := q1
      have q2 : y = .ty "tuple" := q2
      subst q1 q2
      exact ⟨a, rfl, na, ha⟩) fun A' H' x y _ p q => by
    obtain ⟨a, rfl, na, ha⟩ := q
    refine rv_v (.bl (isLst d || isTp d)) (fun Q hq => ⟨x, a, [.ty "list", .ty "tuple"], .type (kd d), [.type "list", .type "tuple"], _, rfl, ha, .cons (.ty _) (.cons (.ty _) .nil), p.ty, kit_lt d, hq⟩) (.bl _)
/-! ### what is walked -/
def Sr (e : Ef) (c : Nat) (wi : TI) (σ : L2.St) (A : As) (H : Hp) (N : Nat) (It : Nat → Pv) : Prop :=
  ∀ A' H' n, Wl A H A' H' → Cur e A' H' n → n + c ≤ big → ∀ R : L2.It → Hp → Prop, (∀ (J : L2.It) (H2 : Hp) (G : Hp → Prop) (Y : Nat → Hp → V → Hp → Prop), Kp e.B H' H2 → e.J (n + c) H2 → Walk J N G Y → (∀ A3 H3, Wl A' H2 A3 H3 → G H3) →
    (∀ i A3 H3 x H4, i < N → Wl A' H2 A3 H3 → Lv A3 H3 → Y i H3 x H4 → Kp no H3 H4 ∧ (It i).p A3 H4 x) → R J H2) → wi σ H' R
theorem sr_list (h : Em e c tl σ A H (da (.list ds))) : Sr e c (iList K tl) σ A H ds.length (fun i => da (ds.getD i .none)) := fun A' H' n w cu hn R q =>
  h A' H' n w cu hn _ fun v H2 k jj p => by
    obtain ⟨a, xs, rfl, na, ha, r⟩ := Rp.list_eq p
    refine ⟨a, rfl, ⟨xs, SqL.of ha⟩, q (Itl K a) H2 (fun H => SqL K H a xs) (YAt xs) k jj (by rw [← r.length]; exact walk_list) (fun A3 H3 w3 => SqL.of (w3.f a _ na ha).2) fun i A3 H3 x H4 hi w3 _ y => ?_⟩
    obtain ⟨rfl, hx⟩ := y
    refine ⟨.refl _, ?_⟩
    obtain ⟨d, hd, rd⟩ := (r.up w3).get hx
    have e1 : ds.getD i .none = d := by rw [List.getD_eq_getElem?_getD, hd]; rfl
    show Rp A3 H4 x (ds.getD i .none)
    rw [e1]
    exact rd
theorem sr_tup (h : Em e c tl σ A H (da (.tuple ds))) : Sr e c (iTup K tl) σ A H ds.length (fun i => da (ds.getD i .none)) := fun A' H' n w cu hn R q =>
  h A' H' n w cu hn _ fun v H2 k jj p => by
    obtain ⟨a, xs, rfl, ha, r⟩ := Rp.tuple_eq p
    refine ⟨a, rfl, ⟨xs, SqT.of ha⟩, q (Itt K a) H2 (fun H => SqT K H a xs) (YAt xs) k jj (by rw [← r.length]; exact walk_tup) (fun A3 H3 w3 => SqT.of (w3.kp.3 a _ ha)) fun i A3 H3 x H4 hi w3 _ y => ?_⟩
    obtain ⟨rfl, hx⟩ := y
    refine ⟨.refl _, ?_⟩
    obtain ⟨d, hd, rd⟩ := (r.up w3).get hx
    have e1 : ds.getD i .none = d := by rw [List.getD_eq_getElem?_getD, hd]; rfl
    show Rp A3 H4 x (ds.getD i .none)
    rw [e1]
    exact rd
theorem sr_rng1 {k : Int} (h : Em e c ta σ A H (da (.int k))) (hk : 0 ≤ k ∧ k ≤ 100000) : Sr e c (iRng1 (tCons ta tNil)) σ A H k.toNat (fun i => da (.int i)) := fun A' H' n w cu hn R q =>
  h A' H' n w cu hn _ fun v H2 kk jj p => by
    obtain rfl := Rp.int_eq p
    refine ⟨k, rfl, by omega, by omega, q (Itr 0 k.toNat) H2 (fun _ => True) _ kk jj walk_range (fun _ _ _ => trivial) fun i A3 H3 x H4 hi w3 _ y => ?_⟩
    obtain ⟨rfl, rfl⟩ := y
    refine ⟨.refl _, ?_⟩
    show Rp A3 H4 (V.int (0 + (i : Int))) (.int i)
    rw [Int.zero_add]
    exact .int _
theorem sr_rng2 {lo k : Int} (h1 : Em e c1 ta σ A H (da (.int lo))) (h : Em e c2 tb σ A H (da (.int k))) (hk : 0 ≤ lo ∧ lo ≤ 100000 ∧ 0 ≤ k ∧ k ≤ 100000) : Sr e (c1 + c2) (iRng2 (tCons ta (tCons tb tNil))) σ A H (k - lo).toNat (fun i => da (.int (lo + i))) := fun A' H' n w cu hn R q =>
  h1 A' H' n w cu (by omega) _ fun v H2 kk jj p => h A' H2 (n + c1) (w.trans (cu.wl kk)) (cu.aft kk jj) (by omega) _ fun v2 H3 kk2 jj2 p2 => by
    obtain rfl := Rp.int_eq p
    obtain rfl := Rp.int_eq p2
    refine ⟨lo, k, rfl, ⟨by omega, by omega, by omega, by omega⟩, q (Itr lo (k - lo).toNat) H3 (fun _ => True) _ (kk.trans kk2) (by rw [← Nat.add_assoc]; exact jj2) walk_range (fun _ _ _ => trivial) fun i A3 H3 x H4 hi w3 _ y => ?_⟩
    obtain ⟨rfl, rfl⟩ := y
    exact ⟨.refl _, .int _⟩
/-! ### comprehensions -/
/-- a list whose places' values are told by numbers -/
def lsQ (is : List Nat) (Φ : Nat → Pv) : Pv := ⟨fun A H v => ∃ a xs, v = .ref a ∧ ¬ A a ∧ H a = some (.lst xs) ∧ Paired (fun i x => (Φ i).p A H x) is xs,
  fun w ⟨a, xs, h1, h2, h3, h4⟩ => ⟨a, xs, h1, (w.f a _ h2 h3).1, (w.f a _ h2 h3).2, Paired.mapP h4 fun i _ q => (Φ i).up w q⟩, fun w ⟨a, xs, h1, h2, h3, h4⟩ => ⟨a, xs, h1, fun q => h2 (w a q), h3, Paired.mapP h4 fun i _ q => (Φ i).dn w q⟩⟩
theorem rpa_of {g : Nat → PyData} : ∀ {is : List Nat} {xs : List V}, Paired (fun i x => (da (g i)).p A H x) is xs → RpA A H xs (is.map g)
  | [], _, .nil => .nil
  | _ :: _, _, .cons h t => .cons h (rpa_of t)
theorem lsQ_da {is : List Nat} {g : Nat → PyData} (h : (lsQ is fun i => da (g i)).p A H v) : Rp A H v (.list (is.map g)) := by
  obtain ⟨a, xs, rfl, na, ha, q⟩ := h
  exact .lst na ha (rpa_of q)
theorem paired_imp {α β : Type} {F G : α → β → Prop} : ∀ {xs : List α} {ys : List β}, Paired F xs ys → (∀ x y, x ∈ xs → F x y → G x y) → Paired G xs ys
  | _, _, .nil, _ => .nil
  | _, _, .cons h t, f => .cons (f _ _ List.mem_cons_self h) (paired_imp t fun x y m => f x y (List.mem_cons_of_mem _ m))
theorem paired_snoc {α β : Type} {F : α → β → Prop} {a : α} {b : β} {xs : List α} {ys : List β} (h : Paired F xs ys) (q : F a b) : Paired F (xs ++ [a]) (ys ++ [b]) := h.snoc q
theorem filter_succ (f : Nat → Bool) (i : Nat) : (List.range (i + 1)).filter f = (List.range i).filter f ++ (if f i = true then [i] else []) := by
  rw [List.range_succ, List.filter_append, List.filter_cons, List.filter_nil]
theorem filter_congr {f g : Nat → Bool} {i : Nat} (h : ∀ k < i, f k = g k) : (List.range i).filter f = (List.range i).filter g := List.filter_congr fun k hk => h k (List.mem_range.mp hk)
theorem em_lc {wi : TI} {j N : Nat} {vs : List Nat} {It : Nat → Pv} {Tt : Nat → Bool → Prop} {Φ : Nat → Pv} (hs : Sr e c wi σ A H N It) (hN : N ≤ 100000) (hw : ∀ x, wipe ((wipe σ vs).set j (some x)) vs = wipe σ vs)
    (ht : ∀ i A1 H1 x, i < N → Wl A H A1 H1 → (It i).p A1 H1 x → EmT e ct tt ((wipe σ vs).set j (some x)) A1 H1 (Tt i))
    (he : ∀ i A1 H1 x, i < N → Wl A H A1 H1 → (It i).p A1 H1 x → Tt i true → Em e ce te ((wipe σ vs).set j (some x)) A1 H1 (Φ i)) :
    Em e (c + N * (ct + ce)) (tLc wi (gName j) tt te vs) σ A H (exv (fun f : Nat → Bool => ∀ i, i < N → Tt i (f i)) fun f => lsQ ((List.range N).filter f) Φ) := fun A' H' n w cu hn Q q =>
  hs A' H' n w cu (by omega) _ fun J H2 G Y k2 j2 wk hG hY D hD => by
    have cu2 : Cur e A' H2 (n + c) := cu.aft k2 j2
    have nB : ¬ e.B D := fun z => cu2.lv.fresh hD (cu2.sub D z)
    have c3 : Cur e (Ad A' D) (upd H2 D (.lst [])) (n + c) := cu2.push hD
    have w3 : Wl A' H2 (Ad A' D) (upd H2 D (.lst [])) := .push hD
    have subD : ∀ a, Ad e.B D a → Ad A' D a := fun a z => z.imp (cu.sub a) id
    have mono1 : ∀ i, i < N → (i + 1) * (ct + ce) ≤ N * (ct + ce) := fun i hi => Nat.mul_le_mul_right _ hi
    refine lc_it wk (fun i Hc => ∃ (f : Nat → Bool) (acc : List V), (∀ k, k < i → Tt k (f k)) ∧ Hc D = some (.lst acc) ∧ Paired (fun k x => (Φ k).p (Ad A' D) Hc x) ((List.range i).filter f) acc ∧ Kp (Ad e.B D) (upd H2 D (.lst [])) Hc ∧ e.J (n + c + i * (ct + ce)) Hc)
      ⟨fun _ => true, [], fun k hk => absurd hk (Nat.not_lt_zero k), upd_same, .nil, .refl _, by rw [Nat.zero_mul]; exact c3.j⟩ (fun i Hc _ ⟨f, acc, _, _, _, kk, _⟩ => hG (Ad A' D) Hc (w3.trans (.of kk subD))) ?_ ?_
    · rintro i x Hc H4 hi ⟨f, acc, hf, hacc, hp, kk, jj⟩ y
      have wc : Wl A' H2 (Ad A' D) Hc := w3.trans (.of kk subD)
      have lc : Lv (Ad A' D) Hc := c3.lv.kp kk
      obtain ⟨k4, p4⟩ := hY i (Ad A' D) Hc x H4 hi wc lc y
      have cuc : Cur e (Ad A' D) Hc (n + c + i * (ct + ce)) := ⟨c3.sub, lc, jj⟩
      have cu4 := cuc.keep k4
      have w4 : Wl A H (Ad A' D) H4 := (w.trans (cu.wl k2)).trans (wc.trans (.of0 k4))
      have m1 := mono1 i hi
      rw [Nat.succ_mul] at m1
      refine ⟨hw x, ht i (Ad A' D) H4 x hi w4 p4 (Ad A' D) H4 _ (.refl _ _) cu4 (by omega) _ fun b H5 k5 j5 t5 => ?_⟩
      have hacc5 : H5 D = some (.lst acc) := k5.1 D _ nB (k4.1 D _ id hacc)
      cases b with
      | true =>
        show te _ H5 _
        refine he i (Ad A' D) H4 x hi w4 p4 t5 (Ad A' D) H5 _ (cu4.wl k5) (cu4.aft k5 j5) (by omega) _ fun y H6 k6 j6 p6 => ?_
        have hacc6 : H6 D = some (.lst acc) := k6.1 D _ nB hacc5
        have hl : acc.length ≤ i := by
          rw [← hp.length]
          refine Nat.le_trans (List.length_filter_le _ _) ?_
          rw [List.length_range]
          exact Nat.le_refl _
        have kf : Kp (Ad e.B D) Hc (upd H6 D (.lst (acc ++ [y]))) := ((k4.any.trans ((k5.trans k6).mono fun a z => .inl z))).trans (.mut (.inr rfl) (by rw [hacc6]; intro _ z; cases z))
        have wf : Wl (Ad A' D) Hc (Ad A' D) (upd H6 D (.lst (acc ++ [y]))) := .of kf subD
        refine ⟨acc, hacc6, sl5 (by omega), fun k => if k = i then true else f k, acc ++ [y], fun k hk => ?_, upd_same, ?_, kk.trans kf, ?_⟩
        · show Tt k (if k = i then _ else f k)
          by_cases z : k = i
          · rw [if_pos z, z]; exact t5
          · rw [if_neg z]; exact hf k (by omega)
        · rw [filter_succ, if_pos (by rw [if_pos rfl]), filter_congr (g := f) fun k hk => if_neg (by omega)]
          exact paired_snoc (Paired.mapP hp fun k x h => (Φ k).up wf h) ((Φ i).up (.of (B := Ad e.B D) (.mut (.inr rfl) (by rw [hacc6]; intro _ z; cases z)) subD) p6)
        · refine Ef.mut nB (fun φ z => by rw [hacc6] at z; cases z) ?_
          have e1 : n + c + (i + 1) * (ct + ce) = n + c + i * (ct + ce) + ct + ce := by rw [Nat.succ_mul]; omega
          rw [e1]
          exact j6
      | false =>
        have kf : Kp (Ad e.B D) Hc H5 := k4.any.trans (k5.mono fun a z => .inl z)
        have wf : Wl (Ad A' D) Hc (Ad A' D) H5 := .of kf subD
        refine ⟨fun k => if k = i then false else f k, acc, fun k hk => ?_, hacc5, ?_, kk.trans kf, ?_⟩
        · show Tt k (if k = i then _ else f k)
          by_cases z : k = i
          · rw [if_pos z, z]; exact t5
          · rw [if_neg z]; exact hf k (by omega)
        · rw [filter_succ, if_neg (by rw [if_pos rfl]; decide), List.append_nil, filter_congr (g := f) fun k hk => if_neg (by omega)]
          exact Paired.mapP hp fun k x h => (Φ k).up wf h
        · refine e.mono ?_ j5
          rw [Nat.succ_mul]
          omega
    · rintro Hc ⟨f, acc, hf, hacc, hp, kk, jj⟩
      have kQ : Kp e.B H2 Hc := ⟨fun a o na ha => kk.1 a o (fun z => z.elim na fun z2 => by rw [z2, hD] at ha; cases ha) (by rw [upd_ne (ne_of_none ha hD)]; exact ha), fun a ha => kk.2 a (by
        by_cases z : a = D
        · rw [z, upd_same]; simp
        · rw [upd_ne z]; exact ha), fun a xs ha => kk.3 a xs (by rw [upd_ne (ne_of_none ha hD)]; exact ha)⟩
      exact q (.ref D) Hc (k2.trans kQ) (by rw [← Nat.add_assoc]; exact jj) ⟨f, hf, D, acc, rfl, cu2.lv.fresh hD, hacc, Paired.mapP hp fun k x h => (Φ k).dn (fun a z => .inl z) h⟩
theorem et_yes : EmT e 0 tYes σ A H (true = ·) := fun A' H' n w cu hn Q q => q true H' (.refl _) cu.j rfl
theorem filter_all {f : Nat → Bool} {N : Nat} (h : ∀ i, i < N → true = f i) : (List.range N).filter f = List.range N := List.filter_eq_self.mpr fun k hk => (h k (List.mem_range.mp hk)).symm
/-- without a test -/
theorem em_lcA {wi : TI} {j N : Nat} {vs : List Nat} {It : Nat → Pv} {Φ : Nat → Pv} (hs : Sr e c wi σ A H N It) (hN : N ≤ 100000) (hw : ∀ x, wipe ((wipe σ vs).set j (some x)) vs = wipe σ vs)
    (he : ∀ i A1 H1 x, i < N → Wl A H A1 H1 → (It i).p A1 H1 x → Em e ce te ((wipe σ vs).set j (some x)) A1 H1 (Φ i)) :
    Em e (c + N * ce) (tLc wi (gName j) tYes te vs) σ A H (lsQ (List.range N) Φ) := by
  have h := em_lc (ct := 0) (Tt := fun _ b => true = b) hs hN hw (fun i A1 H1 x _ _ _ => et_yes) (fun i A1 H1 x hi w p _ => he i A1 H1 x hi w p)
  rw [Nat.zero_add] at h
  refine h.imp fun A' H' v _ ⟨f, hf, p⟩ => ?_
  have p : (lsQ ((List.range N).filter f) Φ).p A' H' v := p
  rw [filter_all hf] at p
  exact p
/-- each item's own data -/
theorem em_lcD {wi : TI} {j N : Nat} {vs : List Nat} {It : Nat → Pv} {g : Nat → PyData} (hs : Sr e c wi σ A H N It) (hN : N ≤ 100000) (hw : ∀ x, wipe ((wipe σ vs).set j (some x)) vs = wipe σ vs)
    (he : ∀ i A1 H1 x, i < N → Wl A H A1 H1 → (It i).p A1 H1 x → Em e ce te ((wipe σ vs).set j (some x)) A1 H1 (da (g i))) :
    Em e (c + N * ce) (tLc wi (gName j) tYes te vs) σ A H (da (.list ((List.range N).map g))) := (em_lcA hs hN hw he).imp fun A' H' v _ p => lsQ_da p
theorem range_map {ds : List PyData} (f : PyData → PyData) : (List.range ds.length).map (fun i => f (ds.getD i .none)) = ds.map f := by
  apply List.ext_getElem
  · simp
  · intro i h1 h2
    simp [List.getElem_map] at h1 ⊢
    rw [List.getElem?_eq_getElem h1]
    rfl
/-- over a list's items -/
theorem em_lcL {j : Nat} {vs : List Nat} {f : PyData → PyData} (h : Em e c tl σ A H (da (.list ds))) (hN : ds.length ≤ 100000) (hw : ∀ x, wipe ((wipe σ vs).set j (some x)) vs = wipe σ vs)
    (he : ∀ d A1 H1 x, d ∈ ds → Wl A H A1 H1 → Rp A1 H1 x d → Em e ce te ((wipe σ vs).set j (some x)) A1 H1 (da (f d))) :
    Em e (c + ds.length * ce) (tLc (iList K tl) (gName j) tYes te vs) σ A H (da (.list (ds.map f))) := by
  have := em_lcD (g := fun i => f (ds.getD i .none)) (sr_list (K := K) h) hN hw fun i A1 H1 x hi w p => he _ A1 H1 x (by
    rw [List.getD_eq_getElem?_getD, List.getElem?_eq_getElem hi]
    exact List.getElem_mem hi) w p
  rw [range_map] at this
  exact this
/-! ### statements -/
theorem s_asg {i : Nat} (h : Em e c te σ A H Φ) (cu : Cur e A H n) (hn : n + c ≤ big) (k : ∀ v H1, Kp e.B H H1 → Cur e A H1 (n + c) → Φ.p A H1 v → D.nx (σ.set i (some v)) H1) : tAsg te (gName i) D σ H :=
  h A H n (.refl _ _) cu hn _ fun v H1 k1 j1 p => k v H1 k1 (cu.aft k1 j1) p
theorem s_ret (h : Em e c te σ A H Φ) (cu : Cur e A H n) (hn : n + c ≤ big) (k : ∀ v H1, Kp e.B H H1 → e.J (n + c) H1 → Φ.p A H1 v → D.rt v H1) : tRet te D σ H := h A H n (.refl _ _) cu hn _ k
theorem s_drop (h : Em e c te σ A H Φ) (cu : Cur e A H n) (hn : n + c ≤ big) (k : ∀ v H1, Kp e.B H H1 → Cur e A H1 (n + c) → Φ.p A H1 v → D.nx σ H1) : tDrop te D σ H :=
  h A H n (.refl _ _) cu hn _ fun v H1 k1 j1 p => k v H1 k1 (cu.aft k1 j1) p
theorem s_if {tu tw : TS} {T : Bool → Prop} (h : EmT e c tt σ A H T) (cu : Cur e A H n) (hn : n + c ≤ big) (h1 : T true → ∀ H1, Kp e.B H H1 → Cur e A H1 (n + c) → tu D σ H1) (h2 : T false → ∀ H1, Kp e.B H H1 → Cur e A H1 (n + c) → tw D σ H1) : tIfS tt tu tw D σ H :=
  h A H n (.refl _ _) cu hn _ fun b H1 k1 j1 p => by
    cases b with
    | true => exact h1 p H1 k1 (cu.aft k1 j1)
    | false => exact h2 p H1 k1 (cu.aft k1 j1)
theorem s_aug {i : Nat} {g : Int → Int → Int} {a b : Int} (hx : σ[i]? = some (some (.int a))) (h : Em e c te σ A H (da (.int b))) (cu : Cur e A H n) (hn : n + c ≤ big) (k : ∀ H1, Kp e.B H H1 → Cur e A H1 (n + c) → D.nx (σ.set i (some (.int (g a b)))) H1) : tAug i te (rI0 fun i j => .int (g i j)) D σ H :=
  ⟨.int a, hx, h A H n (.refl _ _) cu hn _ fun v H1 k1 j1 p => ⟨a, b, rfl, Rp.int_eq p, k H1 k1 (cu.aft k1 j1)⟩⟩
theorem s_augC {i : Nat} {C : Int → Int → Prop} {g : Int → Int → Int} {a b : Int} (hx : σ[i]? = some (some (.int a))) (h : Em e c te σ A H (da (.int b))) (hC : C a b) (cu : Cur e A H n) (hn : n + c ≤ big) (k : ∀ H1, Kp e.B H H1 → Cur e A H1 (n + c) → D.nx (σ.set i (some (.int (g a b)))) H1) : tAug i te (rI C fun i j => .int (g i j)) D σ H :=
  ⟨.int a, hx, h A H n (.refl _ _) cu hn _ fun v H1 k1 j1 p => ⟨a, b, rfl, Rp.int_eq p, hC, k H1 k1 (cu.aft k1 j1)⟩⟩
theorem s_for {wi : TI} {tb : TS} {g : TG} {N : Nat} {It : Nat → Pv} (hs : Sr e c wi σ A H N It) (cu : Cur e A H n) (hn : n + c ≤ big)
    (k : ∀ H1, Kp e.B H H1 → Cur e A H1 (n + c) → ∃ I : Nat → L2.St → Hp → Prop, I 0 σ H1 ∧ (∀ i σ' H', I i σ' H' → ∃ A3, Wl A H1 A3 H' ∧ Lv A3 H') ∧
      (∀ i σ' H' x H'', i < N → I i σ' H' → Kp no H' H'' → (∀ A3, Wl A H1 A3 H' → Lv A3 H' → (It i).p A3 H'' x) → g x σ' H'' fun σ2 H2 => tb { D with nx := I (i + 1), ct := I (i + 1), bk := D.nx } σ2 H2) ∧ ∀ σ' H', I N σ' H' → D.nx σ' H') : tFor wi g tb D σ H :=
  hs A H n (.refl _ _) cu hn _ fun J H1 G Y k1 j1 wk hG hY => by
    obtain ⟨I, i0, iw, ist, ie⟩ := k H1 k1 (cu.aft k1 j1)
    refine for_it wk I i0 (fun i σ' H' _ p => ?_) (fun i x σ' H' H'' hi p y => ?_) ie
    · obtain ⟨A3, w3, l3⟩ := iw i σ' H' p
      exact hG A3 H' w3
    · obtain ⟨A3, w3, l3⟩ := iw i σ' H' p
      exact ist i σ' H' x H'' hi p (hY i A3 H' x H'' hi w3 l3 y).1 fun A4 w4 l4 => (hY i A4 H' x H'' hi w4 l4 y).2
/-! ### promises -/
/-- nothing that was is changed -/
def Pm (pre : As → Hp → List V → Pv → Prop) : Sp := fun vs H Q _ => ∃ A Θ, Lv A H ∧ pre A H vs Θ ∧ ∀ v H2, Kp no H H2 → Θ.p A H2 v → Q v H2
theorem em_pm {pre : As → Hp → List V → Pv → Prop} {E : XK} {ta : TA} {Φs : List Pv} (h : EmA e c ta σ A H Φs) (hs : ∀ A' H' vs, Wl A H A' H' → Pvs Φs A' H' vs → pre A' H' vs Θ) : Em e c (tCall (Pm pre) [] E ta) σ A H Θ :=
  em_call (c2 := 0) h fun A' H' vs w p n cu _ Q q => ⟨A', Θ, cu.lv, by rw [List.append_nil]; exact hs A' H' vs w p, fun v H2 k pp => q v H2 k.any (cu.keep k).j pp⟩
/-- with an effect -/
def Pe (pre : Ef → As → Hp → List V → Nat → Pv → Prop) : Sp := fun vs H Q _ => ∃ e A n c Θ, Cur e A H n ∧ n + c ≤ big ∧ pre e A H vs c Θ ∧ ∀ v H2, Kp e.B H H2 → e.J (n + c) H2 → Θ.p A H2 v → Q v H2
/-- one effect as part of another -/
structure Sube (e e' : Ef) : Prop where
  b : ∀ a, e.B a → e'.B a
  dn : ∀ {n H}, e'.J n H → e.J n H
  up : ∀ {n m H H2}, e'.J n H → (∀ a, e'.B a → ¬ e.B a → H2 a = H a) → (∀ a φ, H a = some (.ext φ) → H2 a = some (.ext φ)) → n ≤ m → e.J m H2 → e'.J m H2
theorem Sube.refl (e : Ef) : Sube e e := ⟨fun _ h => h, fun h => h, fun _ _ _ _ h => h⟩
theorem Kp.eqs {e e' : Ef} {A : As} {n : Nat} {H H2 : Hp} (k : Kp e.B H H2) (cu : Cur e' A H n) : ∀ a, e'.B a → ¬ e.B a → H2 a = H a := fun a z q => by
  cases h : H a with
  | none => exact absurd h (cu.lv a (cu.sub a z))
  | some o => exact k.1 a o q h
theorem Kp.exs {e : Ef} {n : Nat} {H H2 : Hp} (k : Kp e.B H H2) (j : e.J n H) : ∀ a φ, H a = some (.ext φ) → H2 a = some (.ext φ) := fun a φ h => k.1 a _ (fun z => e.nx j z h) h
theorem em_pe {e' : Ef} {pre : Ef → As → Hp → List V → Nat → Pv → Prop} {E : XK} {ta : TA} {Φs : List Pv} (S : Sube e' e) (h : EmA e c1 ta σ A H Φs) (hs : ∀ A' H' vs, Wl A H A' H' → (∀ a, e'.B a → A' a) → Pvs Φs A' H' vs → pre e' A' H' vs c2 Θ) : Em e (c1 + c2) (tCall (Pe pre) [] E ta) σ A H Θ :=
  em_call (c2 := c2) h fun A' H' vs w p n cu hn Q q => ⟨e', A', n, c2, Θ, ⟨fun a z => cu.sub a (S.b a z), cu.lv, S.dn cu.j⟩, hn, by rw [List.append_nil]; exact hs A' H' vs w (fun a z => cu.sub a (S.b a z)) p,
    fun v H2 k jj pp => q v H2 (k.mono S.b) (S.up cu.j (k.eqs cu) (k.exs (S.dn cu.j)) (Nat.le_add_right _ _) jj) pp⟩
/-- two effects -/
def Ef.and (e e' : Ef) : Ef := ⟨fun a => e.B a ∨ e'.B a, fun n H => e.J n H ∧ e'.J n H, fun h q => ⟨e.mono h q.1, e'.mono h q.2⟩, fun h1 h2 q => ⟨e.st (fun a z => h1 a (.inl z)) h2 q.1, e'.st (fun a z => h1 a (.inr z)) h2 q.2⟩, fun q z => z.elim (e.nx q.1) (e'.nx q.2)⟩
theorem Sube.l (e e' : Ef) (dj : ∀ a, e.B a → ¬ e'.B a) : Sube e (e.and e') := ⟨fun a h => .inl h, fun h => h.1, fun j eq ex hm q => ⟨q, e'.mono hm (e'.st (fun a z => eq a (.inr z) fun z3 => dj a z3 z) ex j.2)⟩⟩
theorem Sube.r (e e' : Ef) (dj : ∀ a, e.B a → ¬ e'.B a) : Sube e' (e.and e') := ⟨fun a h => .inr h, fun h => h.2, fun j eq ex hm q => ⟨e.mono hm (e.st (fun a z => eq a (.inl z) fun z3 => dj a z z3) ex j.1), q⟩⟩
theorem Sube.trans {e1 e2 e3 : Ef} (a : Sube e1 e2) (b : Sube e2 e3) : Sube e1 e3 := ⟨fun x h => b.b x (a.b x h), fun h => a.dn (b.dn h), fun j eq ex hm q => b.up j (fun x h n => eq x h fun z => n (a.b x z)) ex hm (a.up (b.dn j) (fun x h n => eq x (b.b x h) n) ex hm q)⟩
theorem Sube.zero (e : Ef) : Sube e0 e := ⟨fun _ h => h.elim, fun _ => trivial, fun j eq ex hm _ => e.mono hm (e.st (fun a h => eq a h id) ex j)⟩
theorem Sube.andR {a b c : Ef} (S : Sube a b) (dj : ∀ x, b.B x → ¬ c.B x) : Sube (a.and c) (b.and c) := ⟨fun x h => h.imp (S.b x) id, fun j => ⟨S.dn j.1, j.2⟩, fun j eq ex hm q => ⟨S.up j.1 (fun x h n => eq x (.inl h) fun z => z.elim n (dj x h)) ex hm q.1, q.2⟩⟩
end
end SB
namespace SB
open PySem PySem.Spec L2
/-! the pure forms (printed by wip/gen/pure.py) -/
section
variable {X : Cx} {K : PySem.W.Frag} {e : Ef} {ta tb tc te tl : TE} {tt tu : TT} {σ : L2.St} {A A' : As} {H H' : Hp} {Φ Ψ Θ : Pv} {ds es : List PyData} {d : PyData} {i j : Int} {a b : Bool} {v x : V} {D : Ends} {n m : Nat} {T T' : Bool → Prop}
theorem ev_is {d2 : PyData} (h : Em e 0 te σ A H (da d)) (q : d = d2) : Em e 0 te σ A H (da d2) := em_is h q
theorem ev_var {i : Nat} (h : σ[i]? = some (some v)) (p : Φ.p A H v) : Em e 0 (tVar i) σ A H Φ := em_var h p
theorem ev_c (p : Φ.p A H v) : Em e 0 (tC v) σ A H Φ := em_c p
theorem ev_int {k : Int} : Em e 0 (tC (.int k)) σ A H (da (.int k)) := em_int 
theorem ev_bl {k : Bool} : Em e 0 (tC (.bl k)) σ A H (da (.bool k)) := em_bl 
theorem ev_non : Em e 0 (tC .non) σ A H (da .none) := em_non 
theorem ev_op {r : R2} (ha : Em e 0 ta σ A H Φ) (hb : Em e 0 tb σ A H Ψ) (hr : ∀ A' H' x y, Wl A H A' H' → Φ.p A' H' x → Ψ.p A' H' y → RV e 0 (r x y) A' H' Θ) : Em e 0 (tOp r ta tb) σ A H Θ := em_op ha hb hr
theorem ev_un {r : V → Hp → VK → Prop} (ha : Em e 0 ta σ A H Φ) (hr : ∀ A' H' x, Wl A H A' H' → Φ.p A' H' x → RV e 0 (r x) A' H' Θ) : Em e 0 (tUn r ta) σ A H Θ := em_un ha hr
theorem ev_andV (h1 : Em e 0 ta σ A H (da (.bool a))) (h2 : a = true → Em e 0 tb σ A H (da (.bool b))) : Em e 0 (tAndV ta tb) σ A H (da (.bool (a && b))) := em_andV h1 h2
theorem ev_orV (h1 : Em e 0 ta σ A H (da (.bool a))) (h2 : a = false → Em e 0 tb σ A H (da (.bool b))) : Em e 0 (tOrV ta tb) σ A H (da (.bool (a || b))) := em_orV h1 h2
theorem ev_notV (h1 : Em e 0 ta σ A H (da (.bool a))) : Em e 0 (tNotV ta) σ A H (da (.bool (!a))) := em_notV h1
theorem ev_if (h : EmT e 0 tt σ A H T) (h1 : T true → Em e 0 ta σ A H Φ) (h2 : T false → Em e 0 tb σ A H Φ) : Em e 0 (tIf tt ta tb) σ A H Φ := em_if h h1 h2
theorem vt_v (h : Em e 0 te σ A H (da (.bool b))) : EmT e 0 (tTest te) σ A H (b = ·) := et_v h
theorem vt_B (h : Em e 0 te σ A H (da (.bool b))) : EmT e 0 (tB te) σ A H (b = ·) := et_B h
theorem vt_ex {C : Bool → Prop} (h : Em e 0 te σ A H (exv C fun b => da (.bool b))) : EmT e 0 (tTest te) σ A H C := et_ex h
theorem vt_not (h : EmT e 0 tt σ A H T) : EmT e 0 (tNot tt) σ A H (fun b => T (!b)) := et_not h
theorem vt_is {b' : Bool} (h : EmT e 0 tt σ A H (b = ·)) (q : b = b') : EmT e 0 tt σ A H (b' = ·) := et_is h q
theorem vt_imp (h : EmT e 0 tt σ A H T) (f : ∀ b, T b → T' b) : EmT e 0 tt σ A H T' := et_imp h f
theorem vt_not1 (h : EmT e 0 tt σ A H (b = ·)) : EmT e 0 (tNot tt) σ A H ((!b) = ·) := et_not1 h
theorem vt_and1 (h1 : EmT e 0 tt σ A H (a = ·)) (h2 : a = true → EmT e 0 tu σ A H (b = ·)) : EmT e 0 (tAnd tt tu) σ A H ((a && b) = ·) := et_and1 h1 h2
theorem vt_or1 (h1 : EmT e 0 tt σ A H (a = ·)) (h2 : a = false → EmT e 0 tu σ A H (b = ·)) : EmT e 0 (tOr tt tu) σ A H ((a || b) = ·) := et_or1 h1 h2
theorem eva_nil : EmA e 0 tNil σ A H [] := ema_nil 
theorem eva_cons {tr : TA} {Φs : List Pv} (h1 : Em e 0 ta σ A H Φ) (h2 : EmA e 0 tr σ A H Φs) : EmA e 0 (tCons ta tr) σ A H (Φ :: Φs) := ema_cons h1 h2
theorem ev_B {r : List V → Hp → VK → Prop} {ta : TA} {Φs : List Pv} (h : EmA e 0 ta σ A H Φs) (hr : ∀ A' H' vs, Wl A H A' H' → Pvs Φs A' H' vs → RV e 0 (r vs) A' H' Θ) : Em e 0 (tCB r ta) σ A H Θ := em_B h hr
theorem ev_call {sp : Sp} {E : XK} {ta : TA} {Φs : List Pv} (h : EmA e 0 ta σ A H Φs) (hs : ∀ A' H' vs, Wl A H A' H' → Pvs Φs A' H' vs → RV e 0 (fun H Q => sp (vs ++ []) H Q E) A' H' Θ) : Em e 0 (tCall sp [] E ta) σ A H Θ := em_call h hs
theorem ev_tup {ta : TA} {Φs : List Pv} (h : EmA e 0 ta σ A H Φs) (hl : Φs.length ≤ 100000) (hp : ∀ A' H' vs a, Wl A H A' H' → Pvs Φs A' H' vs → ¬ A' a → H' a = some (.tup vs) → Θ.p A' H' (.ref a)) : Em e 0 (tTup ta) σ A H Θ := em_tup h hl hp
theorem ev_lst {ta : TA} {Φs : List Pv} (h : EmA e 0 ta σ A H Φs) (hl : Φs.length ≤ 100000) (hp : ∀ A' H' vs a, Wl A H A' H' → Pvs Φs A' H' vs → ¬ A' a → H' a = some (.lst vs) → Θ.p A' H' (.ref a)) : Em e 0 (tLst ta) σ A H Θ := em_lst h hl hp
theorem ev_ixL (h1 : Em e 0 ta σ A H (da (.list ds))) (h2 : Em e 0 tb σ A H (da (.int i))) (he : atI ds i = some d) : Em e 0 (tOp (rIxL K) ta tb) σ A H (da d) := em_ixL h1 h2 he
theorem ev_ixT (h1 : Em e 0 ta σ A H (da (.tuple ds))) (h2 : Em e 0 tb σ A H (da (.int i))) (he : atI ds i = some d) : Em e 0 (tOp (rIxT K) ta tb) σ A H (da d) := em_ixT h1 h2 he
theorem ev_B1 {r : List V → Hp → VK → Prop} (h : Em e 0 ta σ A H Φ) (hr : ∀ A' H' x, Wl A H A' H' → Φ.p A' H' x → RV e 0 (r [x]) A' H' Θ) : Em e 0 (tCB r (tCons ta tNil)) σ A H Θ := em_B1 h hr
theorem ev_B2 {r : List V → Hp → VK → Prop} (h : Em e 0 ta σ A H Φ) (h2 : Em e 0 tb σ A H Ψ) (hr : ∀ A' H' x y, Wl A H A' H' → Φ.p A' H' x → Ψ.p A' H' y → RV e 0 (r [x, y]) A' H' Θ) : Em e 0 (tCB r (tCons ta (tCons tb tNil))) σ A H Θ := em_B2 h h2 hr
theorem ev_len (h : Em e 0 ta σ A H (da (.list ds))) : Em e 0 (tCB (r_len K) (tCons ta tNil)) σ A H (da (.int ds.length)) := em_len h
theorem ev_lenT (h : Em e 0 ta σ A H (da (.tuple ds))) : Em e 0 (tCB (r_len K) (tCons ta tNil)) σ A H (da (.int ds.length)) := em_lenT h
theorem ev_list (h : Em e 0 ta σ A H (da (.list ds))) : Em e 0 (tCB (r_list K) (tCons ta tNil)) σ A H (da (.list ds)) := em_list h
theorem ev_listT (h : Em e 0 ta σ A H (da (.tuple ds))) : Em e 0 (tCB (r_list K) (tCons ta tNil)) σ A H (da (.list ds)) := em_listT h
theorem ev_tuple (h : Em e 0 ta σ A H (da (.list ds))) : Em e 0 (tCB (r_tuple K) (tCons ta tNil)) σ A H (da (.tuple ds)) := em_tuple h
theorem ev_tupleT (h : Em e 0 ta σ A H (da (.tuple ds))) : Em e 0 (tCB (r_tuple K) (tCons ta tNil)) σ A H (da (.tuple ds)) := em_tupleT h
theorem ev_cat (h1 : Em e 0 ta σ A H (da (.list ds))) (h2 : Em e 0 tb σ A H (da (.list es))) (hl : ds.length + es.length ≤ 100000) : Em e 0 (tOp rCat ta tb) σ A H (da (.list (ds ++ es))) := em_cat h1 h2 hl
theorem ev_rep (h1 : Em e 0 ta σ A H (da (.list ds))) (h2 : Em e 0 tb σ A H (da (.int i))) (hi : 0 ≤ i ∧ i ≤ 100000) (hl : ds.length * i.toNat ≤ 100000) : Em e 0 (tOp rRep ta tb) σ A H (da (.list (List.replicate i.toNat ds).flatten)) := em_rep h1 h2 hi hl
theorem evo_none : EmO e 0 tNoPart σ A H none := emo_none 
theorem evo_some (h : Em e 0 ta σ A H (da (.int i))) : EmO e 0 (tPart ta) σ A H (some i) := emo_some h
theorem ev_sl {r : V → Option Int → Option Int → Hp → VK → Prop} {tlo thi : TO} {lo hi : Option Int} (h : Em e 0 ta σ A H Φ) (h2 : EmO e 0 tlo σ A H lo) (h3 : EmO e 0 thi σ A H hi) (hr : ∀ A' H' x, Wl A H A' H' → Φ.p A' H' x → RV e 0 (r x lo hi) A' H' Θ) :
    Em e 0 (tSl r ta tlo thi) σ A H Θ := em_sl h h2 h3 hr
theorem ev_slL {tlo thi : TO} {lo hi : Option Int} (h : Em e 0 ta σ A H (da (.list ds))) (h2 : EmO e 0 tlo σ A H lo) (h3 : EmO e 0 thi σ A H hi) : Em e 0 (tSl (rSlL K) ta tlo thi) σ A H (da (.list (cutD ds lo hi))) := em_slL h h2 h3
theorem ev_slT {tlo thi : TO} {lo hi : Option Int} (h : Em e 0 ta σ A H (da (.tuple ds))) (h2 : EmO e 0 tlo σ A H lo) (h3 : EmO e 0 thi σ A H hi) : Em e 0 (tSl (rSlA K) ta tlo thi) σ A H (da (.tuple (cutD ds lo hi))) := em_slT h h2 h3
theorem ev_rev (h : Em e 0 ta σ A H (da (.list ds))) : Em e 0 (tRevL K ta) σ A H (da (.list ds.reverse)) := em_rev h
theorem ev_all {bs : List Bool} (h : Em e 0 ta σ A H (da (.list (bs.map .bool)))) : Em e 0 (tCB (rAll K) (tCons ta tNil)) σ A H (da (.bool (bs.all id))) := em_all h
theorem ev_any {bs : List Bool} (h : Em e 0 ta σ A H (da (.list (bs.map .bool)))) : Em e 0 (tCB (rAny K) (tCons ta tNil)) σ A H (da (.bool (bs.any id))) := em_any h
theorem ev_sum {ns : List Int} (h : Em e 0 ta σ A H (da (.list (ns.map .int)))) : Em e 0 (tCB (rSum K) (tCons ta tNil)) σ A H (da (.int ns.sum)) := em_sum h
theorem ev_min {ns : List Int} (h : Em e 0 ta σ A H (da (.list (ns.map .int)))) (h0 : 0 < ns.length) : Em e 0 (tCB (rMin K) (tCons ta tNil)) σ A H (exv (fun m : Int => m ∈ ns ∧ ∀ y ∈ ns, m ≤ y) fun m => da (.int m)) := em_min h h0
theorem ev_max2 (h : Em e 0 ta σ A H (da (.int i))) (h2 : Em e 0 tb σ A H (da (.int j))) : Em e 0 (tCB r_max2 (tCons ta (tCons tb tNil))) σ A H (da (.int (max i j))) := em_max2 h h2
theorem ev_min2 (h : Em e 0 ta σ A H (da (.int i))) (h2 : Em e 0 tb σ A H (da (.int j))) : Em e 0 (tCB r_min2 (tCons ta (tCons tb tNil))) σ A H (da (.int (min i j))) := em_min2 h h2
theorem ev_int1 (h : Em e 0 ta σ A H (da (.int i))) : Em e 0 (tCB r_int1 (tCons ta tNil)) σ A H (da (.int i)) := em_int1 h
theorem ev_intB (h : Em e 0 ta σ A H (da (.bool b))) : Em e 0 (tCB r_int1 (tCons ta tNil)) σ A H (da (.int (if b then 1 else 0))) := em_intB h
theorem ev_I0 {g : Int → Int → V} {d : PyData} (h : Em e 0 ta σ A H (da (.int i))) (h2 : Em e 0 tb σ A H (da (.int j))) (hd : ∀ A H, Rp A H (g i j) d) : Em e 0 (tOp (rI0 g) ta tb) σ A H (da d) := em_I0 h h2 hd
theorem ev_I {C : Int → Int → Prop} {g : Int → Int → V} {d : PyData} (h : Em e 0 ta σ A H (da (.int i))) (h2 : Em e 0 tb σ A H (da (.int j))) (hC : C i j) (hd : ∀ A H, Rp A H (g i j) d) : Em e 0 (tOp (rI C g) ta tb) σ A H (da d) := em_I h h2 hC hd
theorem ev_bin {g : Int → Int → Int} (h : Em e 0 ta σ A H (da (.int i))) (h2 : Em e 0 tb σ A H (da (.int j))) : Em e 0 (tOp (rI0 fun i j => .int (g i j)) ta tb) σ A H (da (.int (g i j))) := em_bin h h2
theorem ev_cmp {g : Int → Int → Bool} (h : Em e 0 ta σ A H (da (.int i))) (h2 : Em e 0 tb σ A H (da (.int j))) : Em e 0 (tOp (rI0 fun i j => .bl (g i j)) ta tb) σ A H (da (.bool (g i j))) := em_cmp h h2
theorem ev_binC {C : Int → Int → Prop} {g : Int → Int → Int} (h : Em e 0 ta σ A H (da (.int i))) (h2 : Em e 0 tb σ A H (da (.int j))) (hC : C i j) : Em e 0 (tOp (rI C fun i j => .int (g i j)) ta tb) σ A H (da (.int (g i j))) := em_binC h h2 hC
theorem ev_neg (h : Em e 0 ta σ A H (da (.int i))) : Em e 0 (tUn (rU fun i => .int (-i)) ta) σ A H (da (.int (-i))) := em_neg h
theorem ev_inv (h : Em e 0 ta σ A H (da (.int i))) : Em e 0 (tUn (rU fun i => .int (Builtin.bitNot i)) ta) σ A H (da (.int (Builtin.bitNot i))) := em_inv h
theorem ev_eqI (h : Em e 0 ta σ A H (da (.int i))) (h2 : Em e 0 tb σ A H (da (.int j))) : Em e 0 (tOp rEq ta tb) σ A H (da (.bool (decide (i = j)))) := em_eqI h h2
theorem ev_neI (h : Em e 0 ta σ A H (da (.int i))) (h2 : Em e 0 tb σ A H (da (.int j))) : Em e 0 (tOp rNe ta tb) σ A H (da (.bool (!decide (i = j)))) := em_neI h h2
theorem ev_eqB (h : Em e 0 ta σ A H (da (.bool a))) (h2 : Em e 0 tb σ A H (da (.bool b))) : Em e 0 (tOp rEq ta tb) σ A H (da (.bool (decide (a = b)))) := em_eqB h h2
theorem ev_neB (h : Em e 0 ta σ A H (da (.bool a))) (h2 : Em e 0 tb σ A H (da (.bool b))) : Em e 0 (tOp rNe ta tb) σ A H (da (.bool (!decide (a = b)))) := em_neB h h2
theorem ev_inL {neg : Bool} {ns : List Int} (h : Em e 0 ta σ A H (da (.int i))) (h2 : Em e 0 tb σ A H (da (.list (ns.map .int)))) : Em e 0 (tOp (rIn K neg) ta tb) σ A H (da (.bool (if neg then !decide (i ∈ ns) else decide (i ∈ ns)))) := em_inL h h2
theorem ev_inT {neg : Bool} {ns : List Int} (h : Em e 0 ta σ A H (da (.int i))) (h2 : Em e 0 tb σ A H (da (.tuple (ns.map .int)))) : Em e 0 (tOp (rIn K neg) ta tb) σ A H (da (.bool (if neg then !decide (i ∈ ns) else decide (i ∈ ns)))) := em_inT h h2
theorem evd_nil : EmD e 0 tNil σ A H [] := emd_nil 
theorem evd_cons {tr : TA} (h : Em e 0 ta σ A H (da d)) (h2 : EmD e 0 tr σ A H ds) : EmD e 0 (tCons ta tr) σ A H (d :: ds) := emd_cons h h2
theorem ev_tupD {ta : TA} (h : EmD e 0 ta σ A H ds) (hl : ds.length ≤ 100000) : Em e 0 (tTup ta) σ A H (da (.tuple ds)) := em_tupD h hl
theorem ev_lstD {ta : TA} (h : EmD e 0 ta σ A H ds) (hl : ds.length ≤ 100000) : Em e 0 (tLst ta) σ A H (da (.list ds)) := em_lstD h hl
theorem ev_isi {nm : String} {b : Bool} (h : Em e 0 ta σ A H (da d)) (hk : kitB (kd d) nm = some b) : Em e 0 (tCB (rIsi K) (tCons ta (tCons (tC (.ty nm)) tNil))) σ A H (da (.bool b)) := em_isi h hk
theorem ev_isInt (h : Em e 0 ta σ A H (da d)) : Em e 0 (tCB (rIsi K) (tCons ta (tCons (tC (.ty "int")) tNil))) σ A H (da (.bool (isInt d))) := em_isInt h
theorem ev_isBl (h : Em e 0 ta σ A H (da d)) : Em e 0 (tCB (rIsi K) (tCons ta (tCons (tC (.ty "bool")) tNil))) σ A H (da (.bool (isBl d))) := em_isBl h
theorem ev_isLst (h : Em e 0 ta σ A H (da d)) : Em e 0 (tCB (rIsi K) (tCons ta (tCons (tC (.ty "list")) tNil))) σ A H (da (.bool (isLst d))) := em_isLst h
theorem ev_isTp (h : Em e 0 ta σ A H (da d)) : Em e 0 (tCB (rIsi K) (tCons ta (tCons (tC (.ty "tuple")) tNil))) σ A H (da (.bool (isTp d))) := em_isTp h
theorem ev_isDc (h : Em e 0 ta σ A H (da d)) : Em e 0 (tCB (rIsi K) (tCons ta (tCons (tC (.ty "dict")) tNil))) σ A H (da (.bool (isDc d))) := em_isDc h
theorem ev_isLT (h : Em e 0 ta σ A H (da d)) : Em e 0 (tCB (rIsiT K) (tCons ta (tCons (tTup (tCons (tC (.ty "list")) (tCons (tC (.ty "tuple")) tNil))) tNil))) σ A H (da (.bool (isLst d || isTp d))) := em_isLT h
theorem vr_list (h : Em e 0 tl σ A H (da (.list ds))) : Sr e 0 (iList K tl) σ A H ds.length (fun i => da (ds.getD i .none)) := sr_list h
theorem vr_tup (h : Em e 0 tl σ A H (da (.tuple ds))) : Sr e 0 (iTup K tl) σ A H ds.length (fun i => da (ds.getD i .none)) := sr_tup h
theorem vr_rng1 {k : Int} (h : Em e 0 ta σ A H (da (.int k))) (hk : 0 ≤ k ∧ k ≤ 100000) : Sr e 0 (iRng1 (tCons ta tNil)) σ A H k.toNat (fun i => da (.int i)) := sr_rng1 h hk
theorem vr_rng2 {lo k : Int} (h1 : Em e 0 ta σ A H (da (.int lo))) (h : Em e 0 tb σ A H (da (.int k))) (hk : 0 ≤ lo ∧ lo ≤ 100000 ∧ 0 ≤ k ∧ k ≤ 100000) : Sr e 0 (iRng2 (tCons ta (tCons tb tNil))) σ A H (k - lo).toNat (fun i => da (.int (lo + i))) := sr_rng2 h1 h hk
theorem ev_lc {wi : TI} {j N : Nat} {vs : List Nat} {It : Nat → Pv} {Tt : Nat → Bool → Prop} {Φ : Nat → Pv} (hs : Sr e 0 wi σ A H N It) (hN : N ≤ 100000) (hw : ∀ x, wipe ((wipe σ vs).set j (some x)) vs = wipe σ vs)
    (ht : ∀ i A1 H1 x, i < N → Wl A H A1 H1 → (It i).p A1 H1 x → EmT e 0 tt ((wipe σ vs).set j (some x)) A1 H1 (Tt i))
    (he : ∀ i A1 H1 x, i < N → Wl A H A1 H1 → (It i).p A1 H1 x → Tt i true → Em e 0 te ((wipe σ vs).set j (some x)) A1 H1 (Φ i)) :
    Em e 0 (tLc wi (gName j) tt te vs) σ A H (exv (fun f : Nat → Bool => ∀ i, i < N → Tt i (f i)) fun f => lsQ ((List.range N).filter f) Φ) := by
  have h := em_lc (e := e) (c := 0) (ct := 0) (ce := 0) hs hN hw ht he
  simp only [Nat.mul_zero, Nat.add_zero] at h
  exact h
theorem vt_yes : EmT e 0 tYes σ A H (true = ·) := et_yes 
theorem ev_lcA {wi : TI} {j N : Nat} {vs : List Nat} {It : Nat → Pv} {Φ : Nat → Pv} (hs : Sr e 0 wi σ A H N It) (hN : N ≤ 100000) (hw : ∀ x, wipe ((wipe σ vs).set j (some x)) vs = wipe σ vs)
    (he : ∀ i A1 H1 x, i < N → Wl A H A1 H1 → (It i).p A1 H1 x → Em e 0 te ((wipe σ vs).set j (some x)) A1 H1 (Φ i)) :
    Em e 0 (tLc wi (gName j) tYes te vs) σ A H (lsQ (List.range N) Φ) := by
  have h := em_lcA (e := e) (c := 0) (ce := 0) hs hN hw he
  simp only [Nat.mul_zero, Nat.add_zero] at h
  exact h
theorem ev_lcD {wi : TI} {j N : Nat} {vs : List Nat} {It : Nat → Pv} {g : Nat → PyData} (hs : Sr e 0 wi σ A H N It) (hN : N ≤ 100000) (hw : ∀ x, wipe ((wipe σ vs).set j (some x)) vs = wipe σ vs)
    (he : ∀ i A1 H1 x, i < N → Wl A H A1 H1 → (It i).p A1 H1 x → Em e 0 te ((wipe σ vs).set j (some x)) A1 H1 (da (g i))) :
    Em e 0 (tLc wi (gName j) tYes te vs) σ A H (da (.list ((List.range N).map g))) := by
  have h := em_lcD (e := e) (c := 0) (ce := 0) hs hN hw he
  simp only [Nat.mul_zero, Nat.add_zero] at h
  exact h
theorem ev_lcL {j : Nat} {vs : List Nat} {f : PyData → PyData} (h : Em e 0 tl σ A H (da (.list ds))) (hN : ds.length ≤ 100000) (hw : ∀ x, wipe ((wipe σ vs).set j (some x)) vs = wipe σ vs)
    (he : ∀ d A1 H1 x, d ∈ ds → Wl A H A1 H1 → Rp A1 H1 x d → Em e 0 te ((wipe σ vs).set j (some x)) A1 H1 (da (f d))) :
    Em e 0 (tLc (iList K tl) (gName j) tYes te vs) σ A H (da (.list (ds.map f))) := by
  have h := em_lcL (e := e) (K := K) (c := 0) (ce := 0) h hN hw he
  simp only [Nat.mul_zero, Nat.add_zero] at h
  exact h
theorem ev_pm {pre : As → Hp → List V → Pv → Prop} {E : XK} {ta : TA} {Φs : List Pv} (h : EmA e 0 ta σ A H Φs) (hs : ∀ A' H' vs, Wl A H A' H' → Pvs Φs A' H' vs → pre A' H' vs Θ) : Em e 0 (tCall (Pm pre) [] E ta) σ A H Θ := em_pm h hs
theorem p_asg {i : Nat} (h : Ev te σ A H Φ) (lv : Lv A H) (k : ∀ v H1, Kp no H H1 → Lv A H1 → Φ.p A H1 v → D.nx (σ.set i (some v)) H1) : tAsg te (gName i) D σ H :=
  s_asg h (cur0 lv) (by decide) fun v H1 k1 _ p => k v H1 k1 (lv.kp k1) p
theorem p_ret (h : Ev te σ A H Φ) (lv : Lv A H) (k : ∀ v H1, Kp no H H1 → Φ.p A H1 v → D.rt v H1) : tRet te D σ H := s_ret h (cur0 lv) (by decide) fun v H1 k1 _ p => k v H1 k1 p
theorem p_drop (h : Ev te σ A H Φ) (lv : Lv A H) (k : ∀ v H1, Kp no H H1 → Lv A H1 → Φ.p A H1 v → D.nx σ H1) : tDrop te D σ H :=
  s_drop h (cur0 lv) (by decide) fun v H1 k1 _ p => k v H1 k1 (lv.kp k1) p
theorem p_if {tu tw : TS} {T : Bool → Prop} (h : EmT e0 0 tt σ A H T) (lv : Lv A H) (h1 : T true → ∀ H1, Kp no H H1 → Lv A H1 → tu D σ H1) (h2 : T false → ∀ H1, Kp no H H1 → Lv A H1 → tw D σ H1) : tIfS tt tu tw D σ H :=
  s_if h (cur0 lv) (by decide) (fun q H1 k1 _ => h1 q H1 k1 (lv.kp k1)) fun q H1 k1 _ => h2 q H1 k1 (lv.kp k1)
theorem p_aug {i : Nat} {g : Int → Int → Int} {a b : Int} (hx : σ[i]? = some (some (.int a))) (h : Ev te σ A H (da (.int b))) (lv : Lv A H) (k : ∀ H1, Kp no H H1 → Lv A H1 → D.nx (σ.set i (some (.int (g a b)))) H1) : tAug i te (rI0 fun i j => .int (g i j)) D σ H :=
  s_aug hx h (cur0 lv) (by decide) fun H1 k1 _ => k H1 k1 (lv.kp k1)
theorem p_for {wi : TI} {tb : TS} {g : TG} {N : Nat} {It : Nat → Pv} (hs : Sr e0 0 wi σ A H N It) (lv : Lv A H)
    (k : ∀ H1, Kp no H H1 → Lv A H1 → ∃ I : Nat → L2.St → Hp → Prop, I 0 σ H1 ∧ (∀ i σ' H', I i σ' H' → ∃ A3, Wl A H1 A3 H' ∧ Lv A3 H') ∧
      (∀ i σ' H' x H'', i < N → I i σ' H' → Kp no H' H'' → (∀ A3, Wl A H1 A3 H' → Lv A3 H' → (It i).p A3 H'' x) → g x σ' H'' fun σ2 H2 => tb { D with nx := I (i + 1), ct := I (i + 1), bk := D.nx } σ2 H2) ∧ ∀ σ' H', I N σ' H' → D.nx σ' H') : tFor wi g tb D σ H :=
  s_for hs (cur0 lv) (by decide) fun H1 k1 _ => k H1 k1 (lv.kp k1)
/-! under an effect, at no cost -/
section
variable {e : Ef} {c cb : Nat}
theorem z_asg {i : Nat} (h : Em e 0 te σ A H Φ) (cu : Cur e A H n) (hn : n ≤ big) (k : ∀ v H1, Kp e.B H H1 → Cur e A H1 n → Φ.p A H1 v → D.nx (σ.set i (some v)) H1) : tAsg te (gName i) D σ H := s_asg h cu hn k
theorem z_ret (h : Em e 0 te σ A H Φ) (cu : Cur e A H n) (hn : n ≤ big) (k : ∀ v H1, Kp e.B H H1 → e.J n H1 → Φ.p A H1 v → D.rt v H1) : tRet te D σ H := s_ret h cu hn k
theorem z_drop (h : Em e 0 te σ A H Φ) (cu : Cur e A H n) (hn : n ≤ big) (k : ∀ v H1, Kp e.B H H1 → Cur e A H1 n → Φ.p A H1 v → D.nx σ H1) : tDrop te D σ H := s_drop h cu hn k
theorem z_if {tu tw : TS} {T : Bool → Prop} (h : EmT e 0 tt σ A H T) (cu : Cur e A H n) (hn : n ≤ big) (h1 : T true → ∀ H1, Kp e.B H H1 → Cur e A H1 n → tu D σ H1) (h2 : T false → ∀ H1, Kp e.B H H1 → Cur e A H1 n → tw D σ H1) : tIfS tt tu tw D σ H := s_if h cu hn h1 h2
/-- where a loop stands: its own word, and how much was spent -/
structure Iw (e : Ef) (A : As) (H1 : Hp) (m cb : Nat) (S : Nat → L2.St → Hp → Prop) (i : Nat) (σ' : L2.St) (H' : Hp) : Prop where
  s : S i σ' H'
  k : Kp e.B H1 H'
  cu : Cur e A H' (m + i * cb)
theorem s_forS {wi : TI} {tb : TS} {g : TG} {N : Nat} {It : Nat → Pv} (cb : Nat) (S : Nat → L2.St → Hp → Prop) (hs : Sr e c wi σ A H N It) (cu : Cur e A H n) (hn : n + c ≤ big)
    (up : ∀ i σ' H1 H2, S i σ' H1 → Kp no H1 H2 → S i σ' H2) (h0 : ∀ H1, Kp e.B H H1 → S 0 σ H1)
    (hst : ∀ H1 i σ' H' x, Kp e.B H H1 → i < N → S i σ' H' → Kp e.B H1 H' → Cur e A H' (n + c + i * cb) → (It i).p A H' x → g x σ' H' fun σ2 H2 => tb { D with nx := Iw e A H1 (n + c) cb S (i + 1), ct := Iw e A H1 (n + c) cb S (i + 1), bk := D.nx } σ2 H2)
    (hd : ∀ σ' H', S N σ' H' → Kp e.B H H' → Cur e A H' (n + c + N * cb) → D.nx σ' H') : tFor wi g tb D σ H :=
  s_for hs cu hn fun H1 k1 cu1 => ⟨Iw e A H1 (n + c) cb S, ⟨h0 H1 k1, .refl _, by rw [Nat.zero_mul]; exact cu1⟩, fun i σ' H' p => ⟨A, cu1.wl p.k, p.cu.lv⟩,
    fun i σ' H' x H'' hi p k2 px => hst H1 i σ' H'' x k1 hi (up i σ' H' H'' p.s k2) (p.k.trans k2.any) (p.cu.keep k2) (px A (cu1.wl p.k) p.cu.lv), fun σ' H' p => hd σ' H' p.s (k1.trans p.k) p.cu⟩
/-- at no cost -/
theorem z_forS {wi : TI} {tb : TS} {g : TG} {N : Nat} {It : Nat → Pv} (S : Nat → L2.St → Hp → Prop) (hs : Sr e 0 wi σ A H N It) (cu : Cur e A H n) (hn : n ≤ big)
    (up : ∀ i σ' H1 H2, S i σ' H1 → Kp no H1 H2 → S i σ' H2) (h0 : ∀ H1, Kp e.B H H1 → S 0 σ H1)
    (hst : ∀ H1 i σ' H' x, Kp e.B H H1 → i < N → S i σ' H' → Kp e.B H1 H' → Cur e A H' n → (It i).p A H' x → g x σ' H' fun σ2 H2 => tb { D with nx := Iw e A H1 n 0 S (i + 1), ct := Iw e A H1 n 0 S (i + 1), bk := D.nx } σ2 H2)
    (hd : ∀ σ' H', S N σ' H' → Kp e.B H H' → Cur e A H' n → D.nx σ' H') : tFor wi g tb D σ H :=
  s_forS 0 S hs cu hn up h0 (fun H1 i σ' H' x k1 hi s k2 cu2 p => hst H1 i σ' H' x k1 hi s k2 cu2 p) fun σ' H' s k2 cu2 => hd σ' H' s k2 (by simpa using cu2)
/-- the iterable under one effect, the turns under a wider one -/
theorem z_forE {e1 : Ef} {wi : TI} {tb : TS} {g : TG} {N : Nat} {It : Nat → Pv} (S : Nat → L2.St → Hp → Prop) (hs : Sr e1 0 wi σ A H N It) (cu : Cur e1 A H n) (hn : n ≤ big) (sub : ∀ a, e1.B a → e.B a)
    (up : ∀ i σ' H1 H2, S i σ' H1 → Kp no H1 H2 → S i σ' H2) (h0 : ∀ H1, Kp e1.B H H1 → Cur e1 A H1 n → S 0 σ H1 ∧ Cur e A H1 n)
    (hst : ∀ H1 i σ' H' x, Kp e.B H H1 → i < N → S i σ' H' → Kp e.B H1 H' → Cur e A H' n → (It i).p A H' x → g x σ' H' fun σ2 H2 => tb { D with nx := Iw e A H1 n 0 S (i + 1), ct := Iw e A H1 n 0 S (i + 1), bk := D.nx } σ2 H2)
    (hd : ∀ σ' H', S N σ' H' → Kp e.B H H' → Cur e A H' n → D.nx σ' H') : tFor wi g tb D σ H :=
  s_for hs cu hn fun H1 k1 cu1 => by
    obtain ⟨s0, c0⟩ := h0 H1 k1 cu1
    have z : ∀ i, n + i * 0 = n := fun i => by simp
    exact ⟨Iw e A H1 n 0 S, ⟨s0, .refl _, by rw [z]; exact c0⟩, fun i σ' H' p => ⟨A, c0.wl p.k, p.cu.lv⟩,
      fun i σ' H' x H'' hi p k2 px => hst H1 i σ' H'' x (k1.mono sub) hi (up i σ' H' H'' p.s k2) (p.k.trans k2.any) (by have := p.cu.keep k2; rw [z] at this; exact this) (px A (c0.wl p.k) p.cu.lv), fun σ' H' p => hd σ' H' p.s ((k1.mono sub).trans p.k) (by have := p.cu; rw [z] at this; exact this)⟩
theorem Iw.z {A : As} {H1 : Hp} {m : Nat} {S : Nat → L2.St → Hp → Prop} {i : Nat} (s : S i σ H) (k : Kp e.B H1 H) (cu : Cur e A H m) : Iw e A H1 m 0 S i σ H := ⟨s, k, by simpa using cu⟩
end
/-- the pure loop -/
theorem p_forS {wi : TI} {tb : TS} {g : TG} {N : Nat} {It : Nat → Pv} (S : Nat → L2.St → Hp → Prop) (hs : Sr e0 0 wi σ A H N It) (lv : Lv A H)
    (up : ∀ i σ' H1 H2, S i σ' H1 → Kp no H1 H2 → S i σ' H2) (h0 : ∀ H1, Kp no H H1 → S 0 σ H1)
    (hst : ∀ H1 i σ' H' x, Kp no H H1 → i < N → S i σ' H' → Kp no H1 H' → Lv A H' → (It i).p A H' x → g x σ' H' fun σ2 H2 => tb { D with nx := Iw e0 A H1 0 0 S (i + 1), ct := Iw e0 A H1 0 0 S (i + 1), bk := D.nx } σ2 H2)
    (hd : ∀ σ' H', S N σ' H' → Kp no H H' → Lv A H' → D.nx σ' H') : tFor wi g tb D σ H :=
  z_forS S hs (cur0 lv) (by decide) up h0 (fun H1 i σ' H' x k1 hi s k2 cu2 p => hst H1 i σ' H' x k1 hi s k2 cu2.lv p) fun σ' H' s k2 cu2 => hd σ' H' s k2 cu2.lv
theorem Iw.p {A : As} {H1 : Hp} {S : Nat → L2.St → Hp → Prop} {i : Nat} (s : S i σ H) (k : Kp no H1 H) (lv : Lv A H) : Iw e0 A H1 0 0 S i σ H := ⟨s, k, by simpa using cur0 lv⟩
theorem Wl.k0 {A : As} {H H' : Hp} (k : Kp no H H') : Wl A H A H' := .of0 k
end
end SB
namespace SB
open PySem PyProof.Rows
/-! ### masks of at most eight bits -/
def blk (m : Nat) : List Nat := (List.range 8).filter fun b => m.testBit b
def pc (m : Nat) : Nat := (blk m).length
def bitsOf (l : List Nat) : Nat := l.foldl (fun a b => a ||| 2 ^ b) 0
theorem all256 {p : Nat → Bool} (h : (List.range 256).all p = true) {m : Nat} (hm : m < 256) : p m = true := List.all_eq_true.mp h m (List.mem_range.mpr hm)
theorem all2 {p : Nat → Nat → Bool} {n k : Nat} (h : (List.range n).all (fun m => (List.range k).all (p m)) = true) {m b : Nat} (hm : m < n) (hb : b < k) : p m b = true := List.all_eq_true.mp (List.all_eq_true.mp h m (List.mem_range.mpr hm)) b (List.mem_range.mpr hb)
theorem blk_lt {m b : Nat} (h : b ∈ blk m) : b < 8 := List.mem_range.mp (List.mem_filter.mp h).1
theorem blk_mem {m b : Nat} : b ∈ blk m ↔ b < 8 ∧ m.testBit b = true := by
  unfold blk
  rw [List.mem_filter, List.mem_range]
theorem blk_nd (m : Nat) : (blk m).Nodup := List.Nodup.sublist List.filter_sublist List.nodup_range
theorem blk_asc (m : Nat) : (blk m).Pairwise (· < ·) := List.Pairwise.sublist List.filter_sublist List.pairwise_lt_range
theorem tb_lt {m b : Nat} (hm : m < 256) (h : m.testBit b = true) : b < 8 := by
  rcases Nat.lt_or_ge b 8 with q | q
  · exact q
  · have h2 : m.testBit b = false := Nat.testBit_lt_two_pow (Nat.lt_of_lt_of_le hm (Nat.pow_le_pow_right (n := 2) (by decide) q))
    rw [h2] at h; cases h
theorem tb_ext {m k : Nat} (hm : m < 256) (hk : k < 256) (h : ∀ b, b < 8 → m.testBit b = k.testBit b) : m = k := Nat.eq_of_testBit_eq fun b => by
  rcases Nat.lt_or_ge b 8 with q | q
  · exact h b q
  · rw [Nat.testBit_lt_two_pow (Nat.lt_of_lt_of_le hm (Nat.pow_le_pow_right (n := 2) (by decide) q)), Nat.testBit_lt_two_pow (Nat.lt_of_lt_of_le hk (Nat.pow_le_pow_right (n := 2) (by decide) q))]
theorem blk_inj {m k : Nat} (hm : m < 256) (hk : k < 256) (h : blk m = blk k) : m = k := tb_ext hm hk fun b hb => by
  have e : b ∈ blk m ↔ b ∈ blk k := by rw [h]
  rw [blk_mem, blk_mem] at e
  cases z : m.testBit b <;> cases z2 : k.testBit b <;> simp_all
/-! what the loops of the program reckon -/
theorem bit_and (a b : Nat) : Builtin.bitAnd (a : Int) (b : Int) = ((a &&& b : Nat) : Int) := by
  unfold Builtin.bitAnd
  rw [decide_eq_true (Int.natCast_nonneg a), decide_eq_true (Int.natCast_nonneg b)]
  rfl
theorem bit_or (a b : Nat) : Builtin.bitOr (a : Int) (b : Int) = ((a ||| b : Nat) : Int) := Bits.bitOr_pp (Int.natCast_nonneg a) (Int.natCast_nonneg b)
theorem shr_bit (m b : Nat) : (Builtin.bitAnd ((m : Int) / 2 ^ b) 1 != 0) = m.testBit b := by
  rw [bitAnd_m1]
  have e : (m : Int) / 2 ^ b % 2 = ((m / 2 ^ b % 2 : Nat) : Int) := by norm_cast
  rw [e, Nat.testBit_eq_decide_div_mod_eq]
  have h2 : m / 2 ^ b % 2 = 0 ∨ m / 2 ^ b % 2 = 1 := by omega
  rcases h2 with q | q <;> rw [q] <;> rfl
theorem bits_rng {m : Nat} (hm : m < 256) : (List.range (Builtin.Int.intBits (m : Int))).filter (fun b => m.testBit b) = blk m := by
  have h := all256 (p := fun m => decide ((List.range (Builtin.Int.intBits (m : Int))).filter (fun b => m.testBit b) = blk m)) (by decide +kernel) hm
  exact of_decide_eq_true h
theorem bits_le {m : Nat} (hm : m < 256) : Builtin.Int.intBits (m : Int) ≤ 8 := by
  have h := all256 (p := fun m => decide (Builtin.Int.intBits (m : Int) ≤ 8)) (by decide +kernel) hm
  exact of_decide_eq_true h
/-- one bit fewer -/
theorem pc_step {m : Nat} (hm : m < 256) (h0 : 0 < m) : m &&& (m - 1) < m ∧ pc (m &&& (m - 1)) + 1 = pc m := by
  have h := all256 (p := fun m => decide (0 < m → m &&& (m - 1) < m ∧ pc (m &&& (m - 1)) + 1 = pc m)) (by decide +kernel) hm
  exact of_decide_eq_true h h0
theorem pc_zero : pc 0 = 0 := by decide +kernel
theorem pc_le (m : Nat) : pc m ≤ 8 := by
  unfold pc blk
  refine Nat.le_trans (List.length_filter_le _ _) ?_
  rw [List.length_range]
  exact Nat.le_refl _
/-- bits told one by one -/
theorem or_bit (m b c : Nat) : (m ||| 2 ^ b).testBit c = (m.testBit c || decide (b = c)) := by rw [Nat.testBit_or, Nat.testBit_two_pow]
theorem bitsOf_or : ∀ (l : List Nat) (a : Nat), l.foldl (fun a b => a ||| 2 ^ b) a = a ||| bitsOf l
  | [], a => by show a = a ||| 0; rw [Nat.or_zero]
  | b :: l, a => by
    unfold bitsOf
    rw [List.foldl_cons, List.foldl_cons, bitsOf_or l, bitsOf_or l (0 ||| 2 ^ b), Nat.zero_or, Nat.or_assoc]
theorem bitsOf_bit : ∀ (l : List Nat) (c : Nat), (bitsOf l).testBit c = decide (c ∈ l)
  | [], c => by simp [bitsOf]
  | b :: l, c => by
    unfold bitsOf
    rw [List.foldl_cons, bitsOf_or, Nat.testBit_or, Nat.zero_or, bitsOf_bit l c, Nat.testBit_two_pow]
    by_cases h1 : b = c
    · subst h1; simp
    · have h2 : ¬ c = b := fun q => h1 q.symm
      simp [h1, h2]
theorem bitsOf_lt {l : List Nat} {n : Nat} (h : ∀ b ∈ l, b < n) : bitsOf l < 2 ^ n := Nat.lt_pow_two_of_testBit _ fun i hi => by
  rw [bitsOf_bit]
  refine decide_eq_false fun q => ?_
  have := h i q
  omega
theorem bitsOf_blk {m : Nat} (hm : m < 256) : bitsOf (blk m) = m := Nat.eq_of_testBit_eq fun b => by
  rw [bitsOf_bit]
  cases z : m.testBit b with
  | true => exact decide_eq_true (blk_mem.mpr ⟨tb_lt hm z, z⟩)
  | false => exact decide_eq_false fun q => by rw [(blk_mem.mp q).2] at z; cases z
/-- an ascending list is its mask's -/
theorem asc_ext : ∀ {l k : List Nat}, l.Pairwise (· < ·) → k.Pairwise (· < ·) → (∀ x, x ∈ l ↔ x ∈ k) → l = k
  | [], [], _, _, _ => rfl
  | [], y :: k, _, _, h => absurd ((h y).mpr List.mem_cons_self) (by simp)
  | x :: l, [], _, _, h => absurd ((h x).mp List.mem_cons_self) (by simp)
  | x :: l, y :: k, h1, h2, h => by
    obtain ⟨a1, b1⟩ := List.pairwise_cons.mp h1
    obtain ⟨a2, b2⟩ := List.pairwise_cons.mp h2
    have e : x = y := by
      rcases List.mem_cons.mp ((h x).mp List.mem_cons_self) with q | q
      · exact q
      · rcases List.mem_cons.mp ((h y).mpr List.mem_cons_self) with q2 | q2
        · exact q2.symm
        · have := a1 y q2
          have := a2 x q
          omega
    subst e
    rw [asc_ext b1 b2 fun z => ?_]
    constructor
    · intro hz
      rcases List.mem_cons.mp ((h z).mp (List.mem_cons_of_mem _ hz)) with q | q
      · subst q; exact absurd (a1 z hz) (by omega)
      · exact q
    · intro hz
      rcases List.mem_cons.mp ((h z).mpr (List.mem_cons_of_mem _ hz)) with q | q
      · subst q; exact absurd (a2 z hz) (by omega)
      · exact q
theorem blk_bitsOf {l : List Nat} (h : l.Pairwise (· < ·)) (hl : ∀ b ∈ l, b < 8) : blk (bitsOf l) = l := asc_ext (blk_asc _) h fun x => by
  rw [blk_mem, bitsOf_bit, decide_eq_true_iff]
  exact ⟨fun q => q.2, fun q => ⟨hl x q, q⟩⟩
/-- how many: of any list of different ones with these members -/
theorem pc_of {l : List Nat} {m : Nat} (hn : l.Nodup) (h : ∀ x, x ∈ l ↔ x ∈ blk m) : l.length = pc m := ((List.perm_ext_iff_of_nodup hn (blk_nd m)).mpr h).length_eq
theorem or_lt {a b n : Nat} (ha : a < 2 ^ n) (hb : b < 2 ^ n) : a ||| b < 2 ^ n := Nat.or_lt_two_pow ha hb
theorem pow_lt8 {b n : Nat} (h : b < n) : 2 ^ b < 2 ^ n := Nat.pow_lt_pow_right (by decide) h
/-- one block more -/
theorem pc_or {m b : Nat} (hm : m < 256) (hb : b < 8) (h : m.testBit b = false) : pc (m ||| 2 ^ b) = pc m + 1 := by
  have e : (b :: blk m).length = pc (m ||| 2 ^ b) := pc_of (List.nodup_cons.mpr ⟨(fun q => by rw [(blk_mem.mp q).2] at h; cases h), blk_nd m⟩) fun x => by
    rw [List.mem_cons, blk_mem, blk_mem, or_bit]
    constructor
    · rintro (rfl | ⟨q1, q2⟩)
      · exact ⟨hb, by simp⟩
      · exact ⟨q1, by simp [q2]⟩
    · rintro ⟨q1, q2⟩
      by_cases z : b = x
      · exact .inl z.symm
      · exact .inr ⟨q1, by simpa [z] using q2⟩
  rw [← e]
  rfl
/-- what is needed: the union of the rows outside -/
def need (bs : List Nat) (m : Nat) : Nat := ((List.range bs.length).filter fun b => !m.testBit b).foldl (fun a b => a ||| bs.getD b 0) 0
def held (bs : List Nat) (m : Nat) : Nat := pc m + pc (need bs m)
theorem fold_or (bs : List Nat) : ∀ (l : List Nat) (a : Nat), l.foldl (fun a b => a ||| bs.getD b 0) a = a ||| l.foldl (fun a b => a ||| bs.getD b 0) 0
  | [], a => by show a = a ||| 0; rw [Nat.or_zero]
  | b :: l, a => by rw [List.foldl_cons, List.foldl_cons, fold_or bs l, fold_or bs l (0 ||| bs.getD b 0), Nat.zero_or, Nat.or_assoc]
theorem fold_bit (bs : List Nat) : ∀ (l : List Nat) (c : Nat), (l.foldl (fun a b => a ||| bs.getD b 0) 0).testBit c = l.any fun b => (bs.getD b 0).testBit c
  | [], c => by simp
  | b :: l, c => by rw [List.foldl_cons, fold_or, Nat.testBit_or, Nat.zero_or, fold_bit bs l c, List.any_cons]
theorem need_bit (bs : List Nat) (m c : Nat) : (need bs m).testBit c = true ↔ ∃ b, b < bs.length ∧ m.testBit b = false ∧ (bs.getD b 0).testBit c = true := by
  unfold need
  rw [fold_bit, List.any_eq_true]
  constructor
  · rintro ⟨b, h1, h2⟩
    obtain ⟨h3, h4⟩ := List.mem_filter.mp h1
    exact ⟨b, List.mem_range.mp h3, by simpa using h4, h2⟩
  · rintro ⟨b, h1, h2, h3⟩
    exact ⟨b, List.mem_filter.mpr ⟨List.mem_range.mpr h1, by simp [h2]⟩, h3⟩
theorem need_lt {bs : List Nat} (h : ∀ x ∈ bs, x < 256) (m : Nat) : need bs m < 256 := Nat.lt_pow_two_of_testBit (n := 8) _ fun i hi => by
  cases q : (need bs m).testBit i with
  | false => rfl
  | true =>
    obtain ⟨b, h1, _, h3⟩ := (need_bit bs m i).mp q
    have hx : bs.getD b 0 < 256 := by
      rw [List.getD_eq_getElem?_getD, List.getElem?_eq_getElem h1]
      exact h _ (List.getElem_mem h1)
    have := tb_lt hx h3
    omega
theorem held_le (bs : List Nat) (m : Nat) : held bs m ≤ 16 := by
  have h1 := pc_le m
  have h2 := pc_le (need bs m)
  unfold held
  omega
/-- what is outside -/
theorem outs {n m : Nat} (hn : n ≤ 8) (hm : m < 2 ^ n) : Builtin.bitAnd (((2 ^ n - 1 : Nat)) : Int) (Builtin.bitNot (m : Int)) = ((2 ^ n - 1 - m : Nat) : Int) := by
  have h := all2 (p := fun n m => decide (m < 2 ^ n → Builtin.bitAnd (((2 ^ n - 1 : Nat)) : Int) (Builtin.bitNot (m : Int)) = ((2 ^ n - 1 - m : Nat) : Int))) (n := 9) (k := 256) (by decide +kernel) (show n < 9 by omega) (show m < 256 from Nat.lt_of_lt_of_le hm (Nat.pow_le_pow_right (n := 2) (by decide) hn))
  exact of_decide_eq_true h hm
theorem outs_blk {n m : Nat} (hn : n ≤ 8) (hm : m < 2 ^ n) : blk (2 ^ n - 1 - m) = (List.range n).filter fun b => !m.testBit b := by
  have h := all2 (p := fun n m => decide (m < 2 ^ n → blk (2 ^ n - 1 - m) = (List.range n).filter fun b => !m.testBit b)) (n := 9) (k := 256) (by decide +kernel) (show n < 9 by omega) (show m < 256 from Nat.lt_of_lt_of_le hm (Nat.pow_le_pow_right (n := 2) (by decide) hn))
  exact of_decide_eq_true h hm
def out (n m : Nat) : List Nat := (List.range n).filter fun b => !m.testBit b
theorem out_mem {n m b : Nat} : b ∈ out n m ↔ b < n ∧ m.testBit b = false := by
  unfold out
  rw [List.mem_filter, List.mem_range]
  simp
end SB
namespace SB
open PySem PySem.Spec L2
section
variable {K : PySem.W.Frag} {mg : Str → Option Value} {P : Program} {w : World} {base : Heap}
/-! is_count -/
def isCnt : PyData → Bool
  | .int i => decide (0 ≤ i)
  | _ => false
abbrev sp_is_count : Sp := Pm fun A H vs Θ => ∃ v d, vs = [v] ∧ Rp A H v d ∧ Θ = da (.bool (isCnt d))
theorem isCnt_eq (d : PyData) (h : isInt d = true) (h2 : (!isBl d) = true) : ∃ i, d = .int i := by
  cases d with
  | int i => exact ⟨i, rfl⟩
  | bool b => simp [isBl] at h2
  | none => simp [isInt] at h
  | str s => simp [isInt] at h
  | list s => simp [isInt] at h
  | tuple s => simp [isInt] at h
  | dict s => simp [isInt] at h
theorem isCnt_int {d : PyData} (h : isCnt d = true) : ∃ k : Nat, d = .int k := by
  cases d with
  | int i => exact ⟨i.toNat, by rw [Int.toNat_of_nonneg (of_decide_eq_true h)]⟩
  | bool b => cases h
  | none => cases h
  | str s => cases h
  | list s => cases h
  | tuple s => cases h
  | dict s => cases h
abbrev s_is_count : Stmt := top 8
abbrev N_is_count : List Str := ["value"]
theorem sc_is_count : FnScope N_is_count ["value"] (defScope s_is_count) := ⟨rfl, rfl, rfl, by decide +kernel, rfl, by decide +kernel, by decide +kernel⟩
theorem c_is_count (T : Tx K mg) : C8.Cal P w K mg base 1 "is_count" sp_is_count [] := by
  refine mkCal T 1 7 rfl rfl sc_is_count (fun _ _ _ _ _ _ us hl => match us, hl with | [_], _ => rfl) (fun vs H Q E h => ?_) (fun f cdv A outer s H vs Q E hr h => ?_)
  · obtain ⟨A, Θ, _, ⟨v, d, rfl, _⟩, _⟩ := h
    rfl
  obtain ⟨A, Θ, lv, ⟨v, d, rfl, hv, rfl⟩, k⟩ := h
  refine ⟨_, (pss_one (ps_ret (pe_and (pe_callB (k_isi (K := K)) rfl T.isinstance_ bt_isinstance (pa_cons (pv 0) (pa_cons (pe_bltn (v := .ty "int") rfl T.int_ bt_int rfl) pa_nil))) (pe_and (pe_not (pe_callB (k_isi (K := K)) rfl T.isinstance_ bt_isinstance (pa_cons (pv 0) (pa_cons (pe_bltn (v := .ty "bool") rfl T.bool_ bt_bool rfl) pa_nil)))) (pe_one (pe_cmpR op_ge (pv 0) pe_int (nomark _))))))), ?_⟩
  have e1 : Ev (tVar 0) (start N_is_count [v]) A H (da d) := ev_var rfl hv
  refine p_ret (Φ := da (.bool (isCnt d))) (ev_is (ev_andV (ev_isInt e1) fun h1 => ev_andV (b := isCnt d) (ev_notV (ev_isBl e1)) fun h2 => ?_) ?_) lv k
  · obtain ⟨i, rfl⟩ := isCnt_eq d h1 h2
    exact ev_cmp e1 ev_int
  · cases d <;> rfl
theorem v_is_count {e : Ef} {c : Nat} {ta : TE} {σ : L2.St} {A : As} {H : Hp} {E : XK} {d : PyData} (h : Em e c ta σ A H (da d)) : Em e c (tCall sp_is_count [] E (tCons ta tNil)) σ A H (da (.bool (isCnt d))) :=
  em_pm (ema_cons (c2 := 0) h ema_nil) fun A' H' vs w p => by
    obtain ⟨x, rfl, q⟩ := pvs1 p
    exact ⟨x, d, rfl, q, rfl⟩
theorem isLst_eq {d : PyData} (h : isLst d = true) : ∃ ds, d = .list ds := by
  cases d with
  | list s => exact ⟨s, rfl⟩
  | _ => cases h
/-! is_rising -/
def iv : PyData → Int
  | .int i => i
  | _ => 0
def cntLt (n : Int) (d : PyData) : Bool := isCnt d && decide (iv d < n)
def asc (ds : List PyData) : Bool := ((List.range (ds.length - 1)).map fun i => decide (iv (ds.getD i .none) < iv (ds.getD (i + 1) .none))).all id
def isRis (n : Int) : PyData → Bool
  | .list ds => (ds.map (cntLt n)).all id && asc ds
  | _ => false
/-- lists short enough to be walked -/
def sml : PyData → Prop
  | .list ds => ds.length ≤ 100000
  | _ => True
def alq (n : Int) : PyData → Bool
  | .list ds => (ds.map (cntLt n)).all id
  | _ => false
theorem isRis_no {n : Int} {d : PyData} (h : (!isLst d || !alq n d) = true) : isRis n d = false := by
  cases d with
  | list ds =>
    have h2 : alq n (.list ds) = false := by simpa only [isLst, Bool.not_true, Bool.false_or, Bool.not_eq_true'] using h
    have h3 : isRis n (.list ds) = (alq n (.list ds) && asc ds) := rfl
    rw [h3, h2, Bool.false_and]
  | _ => rfl
abbrev sp_is_rising : Sp := Pm fun A H vs Θ => ∃ v d n, vs = [v, .int n] ∧ Rp A H v d ∧ sml d ∧ Θ = da (.bool (isRis n d))
theorem allcnt {n : Int} {ds : List PyData} (h : ((ds.map (cntLt n)).all id) = true) {i : Nat} (hi : i < ds.length) : ∃ k : Nat, ds[i]? = some (.int k) := by
  rw [List.all_map, List.all_eq_true] at h
  have h2 := h _ (List.getElem_mem hi)
  have h3 : (isCnt ds[i] && decide (iv ds[i] < n)) = true := h2
  obtain ⟨k, hk⟩ := isCnt_int ((Bool.and_eq_true _ _).mp h3).1
  exact ⟨k, by rw [List.getElem?_eq_getElem hi, hk]⟩
theorem map_bools {ds : List PyData} (f : PyData → Bool) : ds.map (fun d => PyData.bool (f d)) = (ds.map f).map .bool := by rw [List.map_map]; rfl
abbrev s_is_rising : Stmt := top 9
abbrev N_is_rising : List Str := ["value", "many", "late", "at"]
theorem sc_is_rising : FnScope N_is_rising ["value", "many"] (defScope s_is_rising) := ⟨rfl, rfl, rfl, by decide +kernel, rfl, by decide +kernel, by decide +kernel⟩
theorem c_is_rising (T : Tx K mg) : C8.Cal P w K mg base 2 "is_rising" sp_is_rising [] := by
  refine mkCal T 2 8 rfl rfl sc_is_rising (fun _ _ _ _ _ _ us hl => match us, hl with | [_, _], _ => rfl) (fun vs H Q E h => ?_) (fun f cdv A outer s H vs Q E hr h => ?_)
  · obtain ⟨A, Θ, _, ⟨v, d, n, rfl, _⟩, _⟩ := h
    rfl
  obtain ⟨A, Θ, lv, ⟨v, d, n, rfl, hv, hs, rfl⟩, k⟩ := h
  have c_is_count := c_is_count (P := P) (w := w) (base := base) T
  refine ⟨_, (pss_cons (ps_if (PW.pt (pw_or (pt_not (pt_val (pe_callB (k_isi (K := K)) rfl T.isinstance_ bt_isinstance (pa_cons (pv 0) (pa_cons (pe_bltn (v := .ty "list") rfl T.list_ bt_list rfl) pa_nil))))) (pw_or1 (pt_not (pt_val (pe_callB (k_all (K := K) rfl) rfl T.all_ bt_all (pa_cons (pe_lc (own := [("late", 2)]) rfl sc_is_rising.nd (kpi_list (K := K) (pv 0)) (blkOk_by (own := [("late", 2)]) (N := N_is_rising) (sc := defScope s_is_rising) (by decide +kernel)) (fun _ _ _ _ _ => (pg_name (i := 2) sc_is_rising.nd rfl (Or.inl rfl))) (fun _ _ _ _ _ => pts_nil) (fun _ _ _ _ _ => (pe_and (C8.pe_c c_is_count hr (by decide) rfl (pa_cons (pv 2) pa_nil)) (pe_one (pe_cmpR op_lt (pv 2) (pv 1) (nomark _)))))) pa_nil))))))) (pss_one (ps_ret pe_bl)) pss_nil)
  (pss_one (ps_ret (pe_callB (k_all (K := K) rfl) rfl T.all_ bt_all (pa_cons (pe_lc (own := [("at", 3)]) rfl sc_is_rising.nd (pi_range2 rfl T.range_ (pa_cons pe_int (pa_cons (pe_callB (k_len (K := K)) rfl T.len_ bt_len (pa_cons (pv 0) pa_nil)) pa_nil))) (blkOk_by (own := [("at", 3)]) (N := N_is_rising) (sc := defScope s_is_rising) (by decide +kernel)) (fun _ _ _ _ _ => (pg_name (i := 3) sc_is_rising.nd rfl (Or.inl rfl))) (fun _ _ _ _ _ => pts_nil) (fun _ _ _ _ _ => (pe_cmpR op_lt (pe_ix (kix_list (K := K)) (pv 0) (pe_op op_sub (pv 3) pe_int) (fun _ _ => rfl)) (pe_ix (kix_list (K := K)) (pv 0) (pv 3) (fun _ _ => rfl)) (nomark _)))) pa_nil))))), ?_⟩
  have e1 : Ev (tVar 0) (start N_is_rising [v, .int n]) A H (da d) := ev_var rfl hv
  refine p_if (T := ((!isLst d || !alq n d) = ·)) (vt_or1 (b := !alq n d) (vt_not1 (vt_v (ev_isLst e1))) fun h1 => vt_not1 (b := alq n d) (vt_v ?_)) lv (fun h1 H1 k1 lv1 => ?_) (fun h1 H1 k1 lv1 => ?_)
  · obtain ⟨ds, rfl⟩ := isLst_eq (by simpa using h1)
    refine ev_all (bs := ds.map (cntLt n)) (ev_is (ev_lcL (f := fun d => .bool (cntLt n d)) e1 hs (fun x => rfl) fun d A1 H1 x hd w1 hx => ev_is (ev_andV (b := cntLt n d) (v_is_count (ev_var rfl hx)) fun h => ?_) ?_) (congrArg PyData.list (map_bools _)))
    · obtain ⟨k, rfl⟩ := isCnt_int h
      exact ev_is (ev_cmp (ev_var rfl hx) (ev_var rfl (.int n))) (by show _ = PyData.bool (decide ((0 : Int) ≤ k) && decide ((k : Int) < n)); simp)
    · unfold cntLt
      cases isCnt d <;> simp
  · refine p_ret ev_bl lv1 fun v H2 k2 p => k v H2 (k1.trans k2) ?_
    rw [isRis_no (n := n) h1]
    exact p
  · obtain ⟨ds, rfl⟩ := isLst_eq (d := d) (by simp_all)
    have hq : (ds.map (cntLt n)).all id = true := by simpa [isLst, alq] using h1
    have e2 := e1.up (.k0 k1)
    have hs : ds.length ≤ 100000 := hs
    refine p_ret (Φ := da (.bool (asc ds))) (ev_all (ev_is (ev_lcD (g := fun i => .bool (decide (iv (ds.getD i .none) < iv (ds.getD (i + 1) .none)))) (vr_rng2 ev_int (ev_len e2) (by omega)) (by omega) (fun x => rfl) fun i A1 H1 x hi w1 hx => ?_) ?_)) lv1 fun v H2 k2 p => k v H2 (k1.trans k2) ?_
    · obtain ⟨u, hu⟩ := allcnt hq (i := i) (by omega)
      obtain ⟨u2, hu2⟩ := allcnt hq (i := i + 1) (by omega)
      have e3 : ds.getD i .none = .int u := by rw [List.getD_eq_getElem?_getD, hu]; rfl
      have e4 : ds.getD (i + 1) .none = .int u2 := by rw [List.getD_eq_getElem?_getD, hu2]; rfl
      rw [e3, e4]
      refine ev_cmp (ev_ixL (ev_var rfl (hv.up ((Wl.k0 k1).trans w1))) (ev_bin (ev_var rfl hx) ev_int) ?_) (ev_ixL (ev_var rfl (hv.up ((Wl.k0 k1).trans w1))) (ev_var rfl hx) ?_)
      · rw [show (1 + (i : Int) - 1) = (i : Int) by omega]; exact atI_nat hu
      · rw [show (1 + (i : Int)) = ((i + 1 : Nat) : Int) by omega]; exact atI_nat hu2
    · rw [show ((ds.length : Int) - 1).toNat = ds.length - 1 by omega, List.map_map]; rfl
    · show Rp A H2 v (.bool (isRis n (.list ds)))
      rw [show isRis n (.list ds) = asc ds by show (_ && _) = _; rw [hq, Bool.true_and]]
      exact p
end
end SB
namespace SB
open PySem PySem.Spec L2
section
variable {e : Ef} {c : Nat} {K : PySem.W.Frag} {ta tb te tl : TE} {tt tu : TT} {σ : L2.St} {A A' : As} {H H' : Hp} {Φ Ψ Θ : Pv} {ds es : List PyData} {d : PyData} {i j : Int} {a b : Bool} {v x : V} {D : Ends} {n m : Nat}
/-- nts as data -/
abbrev nts (l : List Nat) : List PyData := l.map fun b : Nat => .int (b : Int)
abbrev lot (m : Nat) : PyData := .list (nts (blk m))
abbrev nat (k : Nat) : PyData := .int (k : Int)
theorem one_shl (b : Nat) : (1 : Int) * 2 ^ ((b : Int).toNat) = ((2 ^ b : Nat) : Int) := by
  rw [Int.one_mul, Int.toNat_natCast, Int.natCast_pow]
  rfl
theorem em_shl1 {b : Nat} (h : Em e c ta σ A H (da (nat b))) (hb : b ≤ 1000000) : Em e c (tOp (rI CPow fun i j => .int (i * 2 ^ j.toNat)) (tC (.int 1)) ta) σ A H (da (nat (2 ^ b))) := by
  have := em_is (d2 := nat (2 ^ b)) (em_binC (c1 := 0) (i := 1) (j := b) em_int h (C := CPow) (g := fun i j => i * 2 ^ j.toNat) ⟨by omega, by omega, by decide⟩) (by rw [nat, ← one_shl])
  rw [Nat.zero_add] at this
  exact this
theorem bitsOf_take {l : List Nat} {i b : Nat} (h : l[i]? = some b) : bitsOf (l.take (i + 1)) = bitsOf (l.take i) ||| 2 ^ b := by
  unfold bitsOf
  rw [List.take_succ, h, List.foldl_append]
  rfl
theorem getD_nts {l : List Nat} {i : Nat} (hi : i < l.length) : ∃ b, l[i]? = some b ∧ b ∈ l ∧ (nts l).getD i .none = .int (b : Int) := ⟨l[i], List.getElem?_eq_getElem hi, List.getElem_mem hi, by
  rw [List.getD_eq_getElem?_getD, List.getElem?_map, List.getElem?_eq_getElem hi]
  rfl⟩
theorem et_tru (h : Em e c te σ A H (da (.int i))) : EmT e c (fun σ H Q => te σ H fun x H' => ∃ k, TruV K x H' k ∧ Q k H') σ A H ((i != 0) = ·) := fun A' H' n w cu hn Q q => h A' H' n w cu hn _ fun x H2 k j p => by
  obtain rfl := Rp.int_eq p
  exact ⟨i != 0, rfl, q _ H2 k j rfl⟩
theorem em_bits (h : Em e c te σ A H (da (.int i))) : Em e c (tBits te) σ A H (da (nat (Builtin.Int.intBits i))) := fun A' H' n w cu hn Q q => h A' H' n w cu hn _ fun x H2 k j p => by
  obtain rfl := Rp.int_eq p
  exact ⟨i, rfl, q _ H2 k j (.int _)⟩
end
section
variable {K : PySem.W.Frag} {mg : Str → Option Value} {P : Program} {w : World} {base : Heap}
/-! bits_of -/
abbrev sp_bits_of : Sp := Pm fun A H vs Θ => ∃ v l, vs = [v] ∧ Rp A H v (.list (nts l)) ∧ l.length ≤ 100000 ∧ (∀ b ∈ l, b ≤ 1000000) ∧ Θ = da (nat (bitsOf l))
abbrev s_bits_of : Stmt := top 10
abbrev N_bits_of : List Str := ["blocks", "found", "block"]
theorem sc_bits_of : FnScope N_bits_of ["blocks"] (defScope s_bits_of) := ⟨rfl, rfl, rfl, by decide +kernel, rfl, by decide +kernel, by decide +kernel⟩
theorem c_bits_of (T : Tx K mg) : C8.Cal P w K mg base 1 "bits_of" sp_bits_of [] := by
  refine mkCal T 3 9 rfl rfl sc_bits_of (fun _ _ _ _ _ _ us hl => match us, hl with | [_], _ => rfl) (fun vs H Q E h => ?_) (fun f cdv A outer s H vs Q E hr h => ?_)
  · obtain ⟨A, Θ, _, ⟨v, d, rfl, _⟩, _⟩ := h
    rfl
  obtain ⟨A, Θ, lv, ⟨v, l, rfl, hv, hl, hb, rfl⟩, k⟩ := h
  refine ⟨_, (pss_cons (ps_set (i := 1) sc_bits_of.nd rfl (Or.inl rfl) pe_int)
  (pss_cons (ps_for PassesOwn.never rfl (kpi_list (K := K) (pv 0)) (pg_name (i := 2) sc_bits_of.nd rfl (Or.inl rfl)) (pss_one (ps_aug (i := 1) sc_bits_of.nd rfl (Or.inl rfl) (pe_op op_shl pe_int (pv 2)) iop_or)))
  (pss_one (ps_ret (pv 1))))), ?_⟩
  refine p_asg ev_int lv fun v1 H1 k1 lv1 p1 => ?_
  obtain rfl := Rp.int_eq p1
  refine p_forS (fun i σ' H' => ∃ x, σ' = [some v, some (.int (bitsOf (l.take i) : Nat)), x]) (vr_list (ev_var rfl (hv.up (.k0 k1)))) lv1 (fun _ _ _ _ h _ => h) (fun _ _ => ⟨none, rfl⟩) (fun H2 i σ' H' x k2 hi ⟨y, hσ⟩ k3 lv2 px => ?_) (fun σ' H' ⟨y, hσ⟩ k2 lv2 => ?_)
  · subst hσ
    obtain ⟨b, hb1, hb2, hb3⟩ := getD_nts (l := l) (i := i) (by simpa using hi)
    have px : Rp A H' x ((nts l).getD i .none) := px
    rw [hb3] at px
    refine p_aug rfl (em_shl1 (b := b) (ev_var rfl px) (hb b hb2)) lv2 fun H3 k4 lv3 => ?_
    refine Iw.p ?_ (k3.trans k4) lv3
    exact ⟨some x, by rw [bitsOf_take hb1, ← bit_or]; rfl⟩
  · subst hσ
    refine p_ret (Φ := da (nat (bitsOf (l.take (nts l).length)))) (ev_var rfl (.int _)) lv2 fun v3 H3 k3 p3 => k v3 H3 ((k1.trans k2).trans k3) ?_
    rw [List.take_of_length_le (by simp)] at p3
    exact p3
/-! blocks_of -/
abbrev sp_blocks_of : Sp := Pm fun A H vs Θ => ∃ m : Nat, vs = [.int m] ∧ m < 256 ∧ Θ = da (lot m)
abbrev s_blocks_of : Stmt := top 11
abbrev N_blocks_of : List Str := ["bits", "block"]
theorem sc_blocks_of : FnScope N_blocks_of ["bits"] (defScope s_blocks_of) := ⟨rfl, rfl, rfl, by decide +kernel, rfl, by decide +kernel, by decide +kernel⟩
theorem c_blocks_of (T : Tx K mg) : C8.Cal P w K mg base 1 "blocks_of" sp_blocks_of [] := by
  refine mkCal T 4 10 rfl rfl sc_blocks_of (fun _ _ _ _ _ _ us hl => match us, hl with | [_], _ => rfl) (fun vs H Q E h => ?_) (fun f cdv A outer s H vs Q E hr h => ?_)
  · obtain ⟨A, Θ, _, ⟨v, rfl, _⟩, _⟩ := h
    rfl
  obtain ⟨A, Θ, lv, ⟨m, rfl, hm, rfl⟩, k⟩ := h
  refine ⟨_, (pss_one (ps_ret (pe_lc (own := [("block", 1)]) rfl sc_blocks_of.nd (pi_range1 rfl T.range_ (pa_cons (pe_bits (pv 0)) pa_nil)) (blkOk_by (own := [("block", 1)]) (N := N_blocks_of) (sc := defScope s_blocks_of) (by decide +kernel)) (fun _ _ _ _ _ => (pg_name (i := 1) sc_blocks_of.nd rfl (Or.inl rfl))) (fun _ _ _ _ _ => pts_one (kpt_truth (K := K) (pe_op op_and (pe_op op_shr (pv 0) (pv 1)) pe_int) (fun _ => rfl))) (fun _ _ _ _ _ => (pv 1))))), ?_⟩
  have hb := bits_le hm
  refine p_ret (ev_lc (vr_rng1 (em_bits (ev_var rfl (.int (m : Int)))) (by omega)) (by omega) (fun x => rfl) (Tt := fun i b => m.testBit i = b) (Φ := fun i => da (nat i)) (fun i A1 H1 x hi w1 px => ?_) (fun i A1 H1 x hi w1 px _ => ev_var rfl px)) lv fun v H2 k2 p => k v H2 k2 ?_
  · obtain rfl := Rp.int_eq px
    refine vt_is (et_tru (ev_bin (ev_binC (C := fun _ j => 0 ≤ j) (g := fun i j => i / 2 ^ j.toNat) (ev_var rfl (.int (m : Int))) (ev_var rfl (.int (i : Int))) (by omega)) ev_int)) ?_
    rw [Int.toNat_natCast]
    exact shr_bit m i
  · obtain ⟨f, hf, p⟩ := p
    have p2 := lsQ_da p
    rw [Int.toNat_natCast] at hf p2
    rw [filter_congr (g := fun b => m.testBit b) (fun k hk => (hf k hk).symm), bits_rng hm] at p2
    exact p2
/-! size_of -/
abbrev sp_size_of : Sp := Pm fun A H vs Θ => ∃ m : Nat, vs = [.int m] ∧ m < 256 ∧ Θ = da (nat (pc m))
abbrev s_size_of : Stmt := top 12
abbrev N_size_of : List Str := ["bits", "found"]
theorem sc_size_of : FnScope N_size_of ["bits"] (defScope s_size_of) := ⟨rfl, rfl, rfl, by decide +kernel, rfl, by decide +kernel, by decide +kernel⟩
theorem c_size_of (T : Tx K mg) : C8.Cal P w K mg base 1 "size_of" sp_size_of [] := by
  refine mkCal T 5 11 rfl rfl sc_size_of (fun _ _ _ _ _ _ us hl => match us, hl with | [_], _ => rfl) (fun vs H Q E h => ?_) (fun f cdv A outer s H vs Q E hr h => ?_)
  · obtain ⟨A, Θ, _, ⟨v, rfl, _⟩, _⟩ := h
    rfl
  obtain ⟨A, Θ, lv, ⟨m, rfl, hm, rfl⟩, k⟩ := h
  refine ⟨_, (pss_cons (ps_set (i := 1) sc_size_of.nd rfl (Or.inl rfl) pe_int)
  (pss_cons (ps_while PassesOwn.never (pt_cmpR op_gt (pv 0) pe_int (nomark _)) (pss_cons (ps_aug (i := 0) sc_size_of.nd rfl (Or.inl rfl) (pe_op op_sub (pv 0) pe_int) iop_and)
  (pss_one (ps_aug (i := 1) sc_size_of.nd rfl (Or.inl rfl) pe_int iop_add))))
  (pss_one (ps_ret (pv 1))))), ?_⟩
  refine p_asg ev_int lv fun v1 H1 k1 lv1 p1 => ?_
  obtain rfl := Rp.int_eq p1
  refine ⟨fun z σ' H' => ∃ j c : Nat, σ' = [some (.int (j : Int)), some (.int (c : Int))] ∧ z = j ∧ j < 256 ∧ c + pc j = pc m ∧ Kp no H H' ∧ Lv A H', ⟨m, m, 0, rfl, rfl, hm, by omega, k1, lv1⟩, ?_⟩
  rintro j σ' H' ⟨j2, c, rfl, rfl, hj, hc, k2, lv2⟩
  refine vt_v (b := decide ((j : Int) > 0)) (ev_cmp (ev_var rfl (.int (j : Int))) ev_int) A H' 0 (.refl _ _) (cur0 lv2) (by decide) _ fun b H3 k3 _ hb => ?_
  have lv3 := lv2.kp k3
  by_cases h0 : 0 < j
  · rw [if_pos (by rw [← hb]; exact decide_eq_true (by omega))]
    refine ⟨_, fun σ' H' h => h, ?_⟩
    refine p_aug rfl (ev_bin (ev_var rfl (.int (j : Int))) ev_int) lv3 fun H4 k4 lv4 => ?_
    refine p_aug rfl ev_int lv4 fun H5 k5 lv5 => ?_
    obtain ⟨q1, q2⟩ := pc_step hj h0
    refine ⟨j &&& (j - 1), q1, j &&& (j - 1), c + 1, ?_, rfl, by omega, by omega, ((k2.trans k3).trans k4).trans k5, lv5⟩
    rw [show ((j : Int) - 1) = ((j - 1 : Nat) : Int) by omega, bit_and]
    rfl
  · rw [if_neg (by rw [← hb]; simp; omega)]
    have : j = 0 := by omega
    subst this
    rw [pc_zero] at hc
    refine p_ret (Φ := da (nat c)) (ev_var rfl (.int _)) lv3 fun v3 H3 k3' p3 => k v3 H3 ((k2.trans k3).trans k3') ?_
    rw [show c = pc m by omega] at p3
    exact p3
end
end SB
namespace SB
open PySem PySem.Spec L2
theorem u1 {k : Nat} {A : Around} (h : Room k A) : A.units + 1 < cLine := by have := h.un; omega
theorem u65 {k : Nat} {A : Around} (h : Room k A) : A.units + 65 < cLine := by have := h.un; omega
/-! ### dicts by masks -/
section
variable {κ : Type} [DecidableEq κ] {key : Nat → κ} {f : Nat → V}
def kvm (key : Nat → κ) (f : Nat → V) (ms : List Nat) : List (κ × V) := ms.map fun m => (key m, f m)
def Inj (key : Nat → κ) : Prop := ∀ a b, a < 256 → b < 256 → key a = key b → a = b
theorem valV_kvm (ij : Inj key) : ∀ {ms : List Nat} {k : Nat}, (∀ m ∈ ms, m < 256) → k < 256 → valV (kvm key f ms) (key k) = if k ∈ ms then some (f k) else none
  | [], k, _, _ => by simp [kvm, valV]
  | m :: ms, k, hm, hk => by
    unfold kvm
    rw [List.map_cons]
    by_cases e : m = k
    · subst e
      rw [valV_pos rfl, if_pos List.mem_cons_self]
    · rw [valV_neg (fun z => e (ij m k (hm m List.mem_cons_self) hk z))]
      have := valV_kvm ij (ms := ms) (k := k) (fun x h => hm x (List.mem_cons_of_mem _ h)) hk
      unfold kvm at this
      rw [this]
      have e2 : ¬ k = m := fun z => e z.symm
      simp [e2]
theorem putK_kvm (ij : Inj key) {ms : List Nat} {k : Nat} (hm : ∀ m ∈ ms, m < 256) (hk : k < 256) (h : k ∉ ms) : putK (kvm key f ms) (key k) (f k) = kvm key f (ms ++ [k]) := by
  rw [putK_new _ (by rw [valV_kvm ij hm hk, if_neg h])]
  unfold kvm
  rw [List.map_append]
  rfl
theorem kvm_len (ms : List Nat) : (kvm key f ms).length = ms.length := List.length_map _
theorem nd_le {ms : List Nat} {N : Nat} (hn : ms.Nodup) (h : ∀ m ∈ ms, m < N) : ms.length ≤ N := by
  have := hn.length_le_of_subset (l₂ := List.range N) fun x hx => List.mem_range.mpr (h x hx)
  rwa [List.length_range] at this
end
def ki (m : Nat) : Key := .inl (m : Int)
def kt (m : Nat) : List Key := (blk m).map ki
theorem ki_inj : Inj ki := fun a b _ _ h => by
  have := Sum.inl.inj h
  omega
theorem ki_ne {a b : Nat} (h : ki a = ki b) : a = b := by
  have := Sum.inl.inj h
  omega
theorem map_ki : ∀ {l k : List Nat}, l.map ki = k.map ki → l = k
  | [], [], _ => rfl
  | [], _ :: _, h => by cases h
  | _ :: _, [], h => by cases h
  | a :: l, b :: k, h => by
    rw [List.map_cons, List.map_cons] at h
    rw [ki_ne (List.cons.inj h).1, map_ki (List.cons.inj h).2]
theorem kt_inj : Inj kt := fun a b ha hb h => blk_inj ha hb (map_ki h)
/-! ### recipes -/
structure okB (bs : List Nat) : Prop where
  n1 : 1 ≤ bs.length
  n7 : bs.length ≤ 7
  lt : ∀ b ∈ bs, b < 256
theorem okB.p {bs : List Nat} (h : okB bs) : 2 ^ bs.length ≤ 128 := Nat.pow_le_pow_right (n := 2) (by decide) h.n7
theorem okB.m {bs : List Nat} (h : okB bs) {m : Nat} (q : m < 2 ^ bs.length) : m < 256 := by have := h.p; omega
abbrev CR (K : PySem.W.Frag) : Addr := He.ga K "Recipe"
def rcF (o : V) (ar ab kn : Addr) : List (Str × V) := [("old", o), ("rows", .ref ar), ("bits", .ref ab), ("known", .ref kn)]
def rc (K : PySem.W.Frag) (kn : Addr) (bs : List Nat) : Pv := ⟨fun A H v => ∃ r dx o xs ar ab, v = .ref r ∧ ¬ A r ∧ H r = some (.ins (CR K) dx (rcF o ar ab kn)) ∧ ¬ A ar ∧ H ar = some (.lst xs) ∧ xs.length = bs.length ∧ ¬ A ab ∧ H ab = some (.lst (bs.map fun b : Nat => V.int b)),
  fun w ⟨r, dx, o, xs, ar, ab, h1, h2, h3, h4, h5, h6, h7, h8⟩ => ⟨r, dx, o, xs, ar, ab, h1, (w.f r _ h2 h3).1, (w.f r _ h2 h3).2, (w.f ar _ h4 h5).1, (w.f ar _ h4 h5).2, h6, (w.f ab _ h7 h8).1, (w.f ab _ h7 h8).2⟩,
  fun w ⟨r, dx, o, xs, ar, ab, h1, h2, h3, h4, h5, h6, h7, h8⟩ => ⟨r, dx, o, xs, ar, ab, h1, fun q => h2 (w r q), h3, fun q => h4 (w ar q), h5, h6, fun q => h7 (w ab q), h8⟩⟩
/-- a recipe just made -/
def rcN (K : PySem.W.Frag) (bs : List Nat) : Pv := ⟨fun A H v => ∃ kn, ¬ A kn ∧ H kn = some (.dK []) ∧ (rc K kn bs).p A H v, fun w ⟨kn, h1, h2, h3⟩ => ⟨kn, (w.f kn _ h1 h2).1, (w.f kn _ h1 h2).2, (rc K kn bs).up w h3⟩, fun w ⟨kn, h1, h2, h3⟩ => ⟨kn, fun q => h1 (w kn q), h2, (rc K kn bs).dn w h3⟩⟩
theorem ad_not {A : As} {H : Hp} {kn r : Addr} {o u : HO} (h1 : ¬ A r) (h2 : H r = some o) (h3 : H kn = some u) (h4 : o ≠ u) : ¬ Ad A kn r := fun q => q.elim h1 fun z => h4 (by
  rw [z, h3] at h2
  exact (Option.some.inj h2).symm)
theorem rc_push {K : PySem.W.Frag} {kn : Addr} {bs : List Nat} {A : As} {H : Hp} {v : V} (h : (rc K kn bs).p A H v) (hk : H kn = some (.dK [])) : (rc K kn bs).p (Ad A kn) H v := by
  obtain ⟨r, dx, o, xs, ar, ab, h1, h2, h3, h4, h5, h6, h7, h8⟩ := h
  exact ⟨r, dx, o, xs, ar, ab, h1, ad_not h2 h3 hk (by simp), h3, ad_not h4 h5 hk (by simp), h5, h6, ad_not h7 h8 hk (by simp), h8⟩
/-- what a recipe has reckoned so far -/
def eK (kn : Addr) (bs : List Nat) : Ef where
  B := fun a => a = kn
  J := fun _ H => ∃ ms : List Nat, ms.Nodup ∧ (∀ m ∈ ms, m < 2 ^ bs.length) ∧ H kn = some (.dK (kvm ki (fun m => .int (held bs m)) ms))
  mono := fun _ h => h
  st := fun h1 _ ⟨ms, a, b, c⟩ => ⟨ms, a, b, by rw [h1 kn rfl]; exact c⟩
  nx := fun ⟨ms, a, b, c⟩ q => by
    subst q
    rw [c]
    simp
theorem no_mem {α : Type} {p : α → Prop} : ∀ x ∈ ([] : List α), p x := fun x h => by cases h
theorem eK.start {kn : Addr} {bs : List Nat} {n : Nat} {H : Hp} (h : H kn = some (.dK [])) : (eK kn bs).J n H := ⟨[], .nil, no_mem, h⟩
def Pk (pre : Addr → List Nat → As → Hp → List V → Pv → Prop) : Sp := Pe fun e A H vs c Θ => c = 0 ∧ ∃ kn bs, e = eK kn bs ∧ okB bs ∧ pre kn bs A H vs Θ
section
variable {e : Ef} {c c1 : Nat} {K : PySem.W.Frag} {mg : Str → Option Value} {ta tb te tl : TE} {tt tu : TT} {σ : L2.St} {A A' : As} {H H' : Hp} {Φ Ψ Θ : Pv} {ds es : List PyData} {d : PyData} {i j : Int} {a b : Bool} {v x : V} {D : Ends} {n m : Nat} {kn : Addr} {bs : List Nat} {E : XK}
theorem em_pk {pre : Addr → List Nat → As → Hp → List V → Pv → Prop} {ta : TA} {Φs : List Pv} (S : Sube (eK kn bs) e) (ok : okB bs) (h : EmA e c1 ta σ A H Φs) (hs : ∀ A' H' vs, Wl A H A' H' → Pvs Φs A' H' vs → pre kn bs A' H' vs Θ) : Em e c1 (tCall (Pk pre) [] E ta) σ A H Θ :=
  em_pe (c2 := 0) S h fun A' H' vs w _ p => ⟨rfl, kn, bs, rfl, ok, hs A' H' vs w p⟩
/-- a list of which the length is known -/
def lenL (n : Nat) : Pv := ⟨fun A H v => ∃ a xs, v = .ref a ∧ ¬ A a ∧ H a = some (.lst xs) ∧ xs.length = n, fun w ⟨a, xs, h1, h2, h3, h4⟩ => ⟨a, xs, h1, (w.f a _ h2 h3).1, (w.f a _ h2 h3).2, h4⟩, fun w ⟨a, xs, h1, h2, h3, h4⟩ => ⟨a, xs, h1, fun q => h2 (w a q), h3, h4⟩⟩
theorem em_fld (T : Tx K mg) (h : Em e c ta σ A H (rc K kn bs)) (f : Str) (hn : NoAttr K (CR K) f) (hf : ∀ o ar ab, ∃ u, (rcF o ar ab kn).lookup f = some u) (hp : ∀ A' H' o xs ar ab u, ¬ A' ar → H' ar = some (.lst xs) → xs.length = bs.length → ¬ A' ab → H' ab = some (.lst (bs.map fun b : Nat => V.int b)) → (rcF o ar ab kn).lookup f = some u → Φ.p A' H' u) :
    Em e c (tFld K ta f) σ A H Φ := fun A' H' n w cu hn' Q q => h A' H' n w cu hn' _ fun v H2 k j p => by
  obtain ⟨r, dx, o, xs, ar, ab, rfl, h2, h3, h4, h5, h6, h7, h8⟩ := p
  obtain ⟨u, hu⟩ := hf o ar ab
  exact ⟨r, CR K, dx, rcF o ar ab kn, u, rfl, h3, T.cls, hn, hu, q u H2 k j (hp A' H2 o xs ar ab u h4 h5 h6 h7 h8 hu)⟩
theorem lk_rows {o : V} {ar ab : Addr} : (rcF o ar ab kn).lookup ("rows" : Str) = some (V.ref ar) := rfl
theorem lk_bits {o : V} {ar ab : Addr} : (rcF o ar ab kn).lookup ("bits" : Str) = some (V.ref ab) := rfl
theorem lk_known {o : V} {ar ab : Addr} : (rcF o ar ab kn).lookup ("known" : Str) = some (V.ref kn) := rfl
theorem rpa_nts : ∀ bs : List Nat, RpA A H (bs.map fun b : Nat => V.int b) (nts bs)
  | [] => .nil
  | b :: bs => .cons (.int _) (rpa_nts bs)
theorem em_rows (T : Tx K mg) (h : Em e c ta σ A H (rc K kn bs)) : Em e c (tFld K ta "rows") σ A H (lenL bs.length) := em_fld T h "rows" T.no_rows (fun o ar ab => ⟨_, lk_rows⟩) fun A' H' o xs ar ab u h1 h2 h3 h4 h5 q => by
  rw [lk_rows] at q
  cases q
  exact ⟨ar, xs, rfl, h1, h2, h3⟩
theorem em_bitsF (T : Tx K mg) (h : Em e c ta σ A H (rc K kn bs)) : Em e c (tFld K ta "bits") σ A H (da (.list (nts bs))) := em_fld T h "bits" T.no_bits (fun o ar ab => ⟨_, lk_bits⟩) fun A' H' o xs ar ab u h1 h2 h3 h4 h5 q => by
  rw [lk_bits] at q
  cases q
  exact .lst h4 h5 (rpa_nts bs)
theorem em_known (T : Tx K mg) (h : Em e c ta σ A H (rc K kn bs)) : Em e c (tFld K ta "known") σ A H (isv (.ref kn)) := em_fld T h "known" T.no_known (fun o ar ab => ⟨_, lk_known⟩) fun A' H' o xs ar ab u h1 h2 h3 h4 h5 q => by
  rw [lk_known] at q
  cases q
  rfl
theorem em_lenN (h : Em e c ta σ A H (lenL n)) : Em e c (tCB (r_len K) (tCons ta tNil)) σ A H (da (nat n)) := em_B1 h fun A' H' x _ p => by
  obtain ⟨a, xs, rfl, na, ha, rfl⟩ := p
  exact rv_v (.int (xs.length : Int)) (fun Q hq => ⟨a, xs, rfl, .inl (SqL.of ha), hq⟩) (.int _)
theorem em_many (T : Tx K mg) (h : Em e c ta σ A H (rc K kn bs)) : Em e c (tCB (r_len K) (tCons (tFld K ta "rows") tNil)) σ A H (da (nat bs.length)) := em_lenN (em_rows T h)
/-! == of data -/
theorem kop_eqD {X : Cx} (hu : X.A.units + 64 < cLine) (hK : X.K = K := by rfl) : OpR X (compareOp .Eq) (rEqD K) := hK ▸ op_eqD hu
theorem kop_neD {X : Cx} (hu : X.A.units + 64 < cLine) (hK : X.K = K := by rfl) : OpR X (compareOp .NotEq) (rNeD K) := hK ▸ op_neD hu
theorem kop_inD {X : Cx} (hu : X.A.units + 65 < cLine) (hK : X.K = K := by rfl) : OpR X (compareOp .In) (rInD K) := hK ▸ op_inD hu
theorem kop_notInD {X : Cx} (hu : X.A.units + 65 < cLine) (hK : X.K = K := by rfl) : OpR X (compareOp .NotIn) (rNotInD K) := hK ▸ op_notInD hu
mutual
theorem Rp.dp : ∀ {v : V} {d : PyData}, Rp A H v d → d.canLay0 = true → Dp K H v d
  | _, _, .non, _ => .non
  | _, _, .bl b, _ => .bl b
  | _, _, .int i, _ => .int i
  | _, _, .lst n h t, q => .lst (SqL.of h) (RpA.dp t (by simpa only [PyData.canLay0] using q))
  | _, _, .tup h t, q => .tup (SqT.of h) (RpA.dp t (by simpa only [PyData.canLay0] using q))
  | _, _, .dic n h, q => by simp [PyData.canLay0] at q
theorem RpA.dp : ∀ {xs : List V} {ds : List PyData}, RpA A H xs ds → PyData.canLayAll0 ds = true → DpAll K H xs ds
  | _, _, .nil, _ => .nil
  | _, _, .cons h t, q => by
    rw [PyData.canLayAll0, Bool.and_eq_true] at q
    exact .cons (Rp.dp h q.1) (RpA.dp t q.2)
end
theorem em_eqD {d2 : PyData} (h : Em e c ta σ A H (da d)) (h2 : Em e c1 tb σ A H (da d2)) (s1 : SeqAt.shaped d = true) (s2 : SeqAt.shaped d2 = true) : Em e (c + c1) (tOp (rEqD K) ta tb) σ A H (da (.bool (PyData.eqv d d2))) := em_op (c3 := 0) h h2 fun A' H' x y _ p q =>
  rv_v _ (fun Q hq => ⟨d, d2, Rp.dp p (SeqAt.canLay_of_shaped s1), Rp.dp q (SeqAt.canLay_of_shaped s2), s1, s2, hq⟩) (.bl _)
theorem em_neD {d2 : PyData} (h : Em e c ta σ A H (da d)) (h2 : Em e c1 tb σ A H (da d2)) (s1 : SeqAt.shaped d = true) (s2 : SeqAt.shaped d2 = true) : Em e (c + c1) (tOp (rNeD K) ta tb) σ A H (da (.bool (!PyData.eqv d d2))) := em_op (c3 := 0) h h2 fun A' H' x y _ p q =>
  rv_v _ (fun Q hq => ⟨d, d2, Rp.dp p (SeqAt.canLay_of_shaped s1), Rp.dp q (SeqAt.canLay_of_shaped s2), s1, s2, hq⟩) (.bl _)
theorem em_inD (h : Em e c ta σ A H (da d)) (h2 : Em e c1 tb σ A H (da (.list ds))) (s1 : SeqAt.shaped d = true) (s2 : SeqAt.shaped (.list ds) = true) : Em e (c + c1) (tOp (rInD K) ta tb) σ A H (da (.bool (ds.any fun z => PyData.eqv z d))) := em_op (c3 := 0) h h2 fun A' H' x y _ p q =>
  rv_v _ (fun Q hq => ⟨d, ds, Rp.dp p (SeqAt.canLay_of_shaped s1), Rp.dp q (SeqAt.canLay_of_shaped s2), s1, s2, hq⟩) (.bl _)
theorem em_notInD (h : Em e c ta σ A H (da d)) (h2 : Em e c1 tb σ A H (da (.list ds))) (s1 : SeqAt.shaped d = true) (s2 : SeqAt.shaped (.list ds) = true) : Em e (c + c1) (tOp (rNotInD K) ta tb) σ A H (da (.bool (!ds.any fun z => PyData.eqv z d))) := em_op (c3 := 0) h h2 fun A' H' x y _ p q =>
  rv_v _ (fun Q hq => ⟨d, ds, Rp.dp p (SeqAt.canLay_of_shaped s1), Rp.dp q (SeqAt.canLay_of_shaped s2), s1, s2, hq⟩) (.bl _)
end
end SB
namespace SB
open PySem PySem.Spec L2
section
variable {e : Ef} {c c1 : Nat} {K : PySem.W.Frag} {mg : Str → Option Value} {ta tb te tl : TE} {tt tu : TT} {σ : L2.St} {A A' : As} {H H' : Hp} {Φ Ψ Θ : Pv} {ds es : List PyData} {d : PyData} {i j : Int} {a b : Bool} {v x : V} {D : Ends} {n m : Nat} {kn : Addr} {bs : List Nat} {E : XK}
theorem ev_shl1 {b : Nat} (h : Em e 0 ta σ A H (da (nat b))) (hb : b ≤ 1000000) : Em e 0 (tOp (rI CPow fun i j => .int (i * 2 ^ j.toNat)) (tC (.int 1)) ta) σ A H (da (nat (2 ^ b))) := em_shl1 h hb
theorem vt_tru (h : Em e 0 te σ A H (da (.int i))) : EmT e 0 (fun σ H Q => te σ H fun x H' => ∃ k, TruV K x H' k ∧ Q k H') σ A H ((i != 0) = ·) := et_tru h
theorem ev_bits (h : Em e 0 te σ A H (da (.int i))) : Em e 0 (tBits te) σ A H (da (nat (Builtin.Int.intBits i))) := em_bits h
theorem ev_pk {pre : Addr → List Nat → As → Hp → List V → Pv → Prop} {ta : TA} {Φs : List Pv} (S : Sube (eK kn bs) e) (ok : okB bs) (h : EmA e 0 ta σ A H Φs) (hs : ∀ A' H' vs, Wl A H A' H' → Pvs Φs A' H' vs → pre kn bs A' H' vs Θ) : Em e 0 (tCall (Pk pre) [] E ta) σ A H Θ := em_pk S ok h hs
theorem ev_fld (T : Tx K mg) (h : Em e 0 ta σ A H (rc K kn bs)) (f : Str) (hn : NoAttr K (CR K) f) (hf : ∀ o ar ab, ∃ u, (rcF o ar ab kn).lookup f = some u) (hp : ∀ A' H' o xs ar ab u, ¬ A' ar → H' ar = some (.lst xs) → xs.length = bs.length → ¬ A' ab → H' ab = some (.lst (bs.map fun b : Nat => V.int b)) → (rcF o ar ab kn).lookup f = some u → Φ.p A' H' u) :
    Em e 0 (tFld K ta f) σ A H Φ := em_fld T h f hn hf hp
theorem ev_rows (T : Tx K mg) (h : Em e 0 ta σ A H (rc K kn bs)) : Em e 0 (tFld K ta "rows") σ A H (lenL bs.length) := em_rows T h
theorem ev_bitsF (T : Tx K mg) (h : Em e 0 ta σ A H (rc K kn bs)) : Em e 0 (tFld K ta "bits") σ A H (da (.list (nts bs))) := em_bitsF T h
theorem ev_known (T : Tx K mg) (h : Em e 0 ta σ A H (rc K kn bs)) : Em e 0 (tFld K ta "known") σ A H (isv (.ref kn)) := em_known T h
theorem ev_lenN (h : Em e 0 ta σ A H (lenL n)) : Em e 0 (tCB (r_len K) (tCons ta tNil)) σ A H (da (nat n)) := em_lenN h
theorem ev_many (T : Tx K mg) (h : Em e 0 ta σ A H (rc K kn bs)) : Em e 0 (tCB (r_len K) (tCons (tFld K ta "rows") tNil)) σ A H (da (nat bs.length)) := em_many T h
theorem ev_eqD {d2 : PyData} (h : Em e 0 ta σ A H (da d)) (h2 : Em e 0 tb σ A H (da d2)) (s1 : SeqAt.shaped d = true) (s2 : SeqAt.shaped d2 = true) : Em e 0 (tOp (rEqD K) ta tb) σ A H (da (.bool (PyData.eqv d d2))) := em_eqD h h2 s1 s2
theorem ev_neD {d2 : PyData} (h : Em e 0 ta σ A H (da d)) (h2 : Em e 0 tb σ A H (da d2)) (s1 : SeqAt.shaped d = true) (s2 : SeqAt.shaped d2 = true) : Em e 0 (tOp (rNeD K) ta tb) σ A H (da (.bool (!PyData.eqv d d2))) := em_neD h h2 s1 s2
theorem ev_inD (h : Em e 0 ta σ A H (da d)) (h2 : Em e 0 tb σ A H (da (.list ds))) (s1 : SeqAt.shaped d = true) (s2 : SeqAt.shaped (.list ds) = true) : Em e 0 (tOp (rInD K) ta tb) σ A H (da (.bool (ds.any fun z => PyData.eqv z d))) := em_inD h h2 s1 s2
theorem ev_notInD (h : Em e 0 ta σ A H (da d)) (h2 : Em e 0 tb σ A H (da (.list ds))) (s1 : SeqAt.shaped d = true) (s2 : SeqAt.shaped (.list ds) = true) : Em e 0 (tOp (rNotInD K) ta tb) σ A H (da (.bool (!ds.any fun z => PyData.eqv z d))) := em_notInD h h2 s1 s2
/-! two data at once -/
theorem sr_enum {ta : TE} (h : Em e c ta σ A H (da (.list ds))) : Sr e c (iEnum K (tCons ta tNil)) σ A H ds.length (fun i => da (.tuple [nat i, ds.getD i .none])) := fun A' H' n w cu hn R q =>
  h A' H' n w cu hn _ fun v H2 k jj p => by
    obtain ⟨a, xs, rfl, na, ha, r⟩ := Rp.list_eq p
    refine ⟨a, xs, rfl, SqL.of ha, q (Ite K a) H2 (fun H => SqL K H a xs) _ k jj (by rw [← r.length]; exact walk_enum) (fun A3 H3 w3 => SqL.of (w3.f a _ na ha).2) fun i A3 H3 x H4 hi w3 l3 y => ?_⟩
    obtain ⟨T, x1, x2, rfl, hT, rfl, h1, h2⟩ := y
    cases h1
    obtain ⟨d, hd, rd⟩ := (r.up w3).get h2
    have e1 : ds.getD i .none = d := by rw [List.getD_eq_getElem?_getD, hd]; rfl
    refine ⟨.new hT, ?_⟩
    show Rp A3 _ _ (.tuple [nat i, ds.getD i .none])
    rw [e1]
    exact .tup upd_same (.cons (.int _) (.cons (rd.up (.of0 (.new hT))) .nil))
theorem g_pair {i j : Nat} {d1 d2 : PyData} {Q : L2.St → Hp → Prop} (h : Rp A H x (.tuple [d1, d2])) (k : ∀ x1 x2, Rp A H x1 d1 → Rp A H x2 d2 → Q ((σ.set i (some x1)).set j (some x2)) H) : gTup K 2 (gCons (gName i) (gCons (gName j) gNil)) x σ H Q := by
  obtain ⟨a, xs, rfl, ha, r⟩ := Rp.tuple_eq h
  cases r with
  | cons r1 r => cases r with
    | cons r2 r => cases r with
      | nil => exact ⟨a, _, rfl, SqT.of ha, rfl, _, _, rfl, _, _, rfl, rfl, k _ _ r1 r2⟩
/-! calls of what was promised -/
theorem v_is_rising (h : Em e c ta σ A H (da d)) (h2 : Em e 0 tb σ A H (da (.int i))) (hs : sml d) : Em e c (tCall sp_is_rising [] E (tCons ta (tCons tb tNil))) σ A H (da (.bool (isRis i d))) :=
  em_pm (c := c) (ema_cons (c2 := 0) h (ema_cons (c2 := 0) h2 ema_nil)) fun A' H' vs w p => by
    obtain ⟨x, y, rfl, q, q2⟩ := pvs2 p
    obtain rfl := Rp.int_eq q2
    exact ⟨x, d, i, rfl, q, hs, rfl⟩
theorem v_bits_of {l : List Nat} (h : Em e c ta σ A H (da (.list (nts l)))) (hl : l.length ≤ 100000) (hb : ∀ b ∈ l, b ≤ 1000000) : Em e c (tCall sp_bits_of [] E (tCons ta tNil)) σ A H (da (nat (bitsOf l))) :=
  em_pm (ema_cons (c2 := 0) h ema_nil) fun A' H' vs w p => by
    obtain ⟨x, rfl, q⟩ := pvs1 p
    exact ⟨x, l, rfl, q, hl, hb, rfl⟩
theorem v_blocks_of (h : Em e c ta σ A H (da (nat m))) (hm : m < 256) : Em e c (tCall sp_blocks_of [] E (tCons ta tNil)) σ A H (da (lot m)) :=
  em_pm (ema_cons (c2 := 0) h ema_nil) fun A' H' vs w p => by
    obtain ⟨x, rfl, q⟩ := pvs1 p
    obtain rfl := Rp.int_eq q
    exact ⟨m, rfl, hm, rfl⟩
theorem v_size_of (h : Em e c ta σ A H (da (nat m))) (hm : m < 256) : Em e c (tCall sp_size_of [] E (tCons ta tNil)) σ A H (da (nat (pc m))) :=
  em_pm (ema_cons (c2 := 0) h ema_nil) fun A' H' vs w p => by
    obtain ⟨x, rfl, q⟩ := pvs1 p
    obtain rfl := Rp.int_eq q
    exact ⟨m, rfl, hm, rfl⟩
/-! rows -/
theorem cntLt_nat (n b : Nat) : cntLt n (nat b) = decide (b < n) := by
  unfold cntLt isCnt iv
  show (decide ((0 : Int) ≤ b) && decide ((b : Int) < n)) = _
  have h1 : decide ((0 : Int) ≤ (b : Int)) = true := decide_eq_true (by omega)
  rw [h1, Bool.true_and]
  by_cases h : b < n
  · rw [decide_eq_true h, decide_eq_true (by omega)]
  · rw [decide_eq_false h, decide_eq_false (by omega)]
theorem getN {l : List Nat} {i : Nat} (hi : i < l.length) : (nts l).getD i .none = nat (l[i]) := by
  rw [List.getD_eq_getElem?_getD, List.getElem?_map, List.getElem?_eq_getElem hi]
  rfl
theorem asc_nts (l : List Nat) : asc (nts l) = true ↔ ∀ i, (h : i + 1 < l.length) → l[i] < l[i + 1] := by
  unfold asc
  rw [List.all_map, List.all_eq_true]
  constructor
  · intro h i hi
    have q := h i (List.mem_range.mpr (by rw [List.length_map]; omega))
    have q : decide (iv ((nts l).getD i .none) < iv ((nts l).getD (i + 1) .none)) = true := q
    rw [getN (by omega), getN hi] at q
    have q : (l[i] : Int) < (l[i + 1] : Int) := of_decide_eq_true q
    omega
  · intro h i hi
    have hi := List.mem_range.mp hi
    rw [List.length_map] at hi
    show decide (iv ((nts l).getD i .none) < iv ((nts l).getD (i + 1) .none)) = true
    rw [getN (by omega), getN (by omega)]
    have q := h i (by omega)
    exact decide_eq_true (show (l[i] : Int) < (l[i + 1] : Int) by omega)
theorem pw_of_step : ∀ {l : List Nat}, (∀ i, (h : i + 1 < l.length) → l[i] < l[i + 1]) → l.Pairwise (· < ·)
  | [], _ => .nil
  | [a], _ => List.pairwise_singleton _ _
  | a :: b :: l, h => by
    have ih : (b :: l).Pairwise (· < ·) := pw_of_step fun i hi => h (i + 1) (by simpa using hi)
    have h0 : a < b := h 0 (by simp)
    refine List.pairwise_cons.mpr ⟨fun x hx => ?_, ih⟩
    rcases List.mem_cons.mp hx with q | q
    · omega
    · have := (List.pairwise_cons.mp ih).1 x q
      omega
theorem isRis_nts (n : Nat) (l : List Nat) : isRis n (.list (nts l)) = true ↔ l.Pairwise (· < ·) ∧ ∀ b ∈ l, b < n := by
  show (((nts l).map (cntLt n)).all id && asc (nts l)) = true ↔ _
  rw [Bool.and_eq_true, asc_nts, List.map_map, List.all_map, List.all_eq_true]
  constructor
  · rintro ⟨h1, h2⟩
    refine ⟨pw_of_step h2, fun b hb => ?_⟩
    have q : cntLt n (nat b) = true := h1 b hb
    rw [cntLt_nat] at q
    exact of_decide_eq_true q
  · rintro ⟨h1, h2⟩
    refine ⟨fun b hb => ?_, fun i hi => List.pairwise_iff_getElem.mp h1 i (i + 1) (by omega) hi (by omega)⟩
    show cntLt n (nat b) = true
    rw [cntLt_nat]
    exact decide_eq_true (h2 b hb)
theorem nts_of : ∀ {ds : List PyData}, (∀ d ∈ ds, isCnt d = true) → ∃ l, ds = nts l
  | [], _ => ⟨[], rfl⟩
  | d :: ds, h => by
    obtain ⟨k, rfl⟩ := isCnt_int (h d List.mem_cons_self)
    obtain ⟨l, rfl⟩ := nts_of (ds := ds) fun x hx => h x (List.mem_cons_of_mem _ hx)
    exact ⟨k :: l, rfl⟩
/-- a lot is the blocks of a mask -/
theorem isRis_lot {n : Nat} (hn : n ≤ 8) (d : PyData) : isRis n d = true ↔ ∃ m, m < 2 ^ n ∧ d = lot m := by
  constructor
  · intro h
    cases d with
    | list ds =>
      obtain ⟨l, rfl⟩ := nts_of (ds := ds) fun x hx => by
        have q : (((ds.map (cntLt n)).all id) && asc ds) = true := h
        rw [Bool.and_eq_true, List.all_map, List.all_eq_true] at q
        have q2 : (isCnt x && decide (iv x < (n : Int))) = true := q.1 x hx
        exact ((Bool.and_eq_true _ _).mp q2).1
      obtain ⟨h1, h2⟩ := (isRis_nts n l).mp h
      refine ⟨bitsOf l, bitsOf_lt h2, ?_⟩
      unfold lot
      rw [blk_bitsOf h1 fun b hb => by have := h2 b hb; omega]
    | _ => cases h
  · rintro ⟨m, hm, rfl⟩
    refine (isRis_nts n _).mpr ⟨blk_asc m, fun b hb => ?_⟩
    rcases Nat.lt_or_ge b n with q | q
    · exact q
    · have h2 : m.testBit b = false := Nat.testBit_lt_two_pow (Nat.lt_of_lt_of_le hm (Nat.pow_le_pow_right (n := 2) (by decide) q))
      rw [(blk_mem.mp hb).2] at h2
      cases h2
end
section
variable {K : PySem.W.Frag} {mg : Str → Option Value} {P : Program} {w : World} {base : Heap}
/-! all_bits, outside, lacks_more, is_lot_of, needed_bits -/
abbrev sp_all_bits (K : PySem.W.Frag) : Sp := Pm fun A H vs Θ => ∃ v kn bs, vs = [v] ∧ (rc K kn bs).p A H v ∧ okB bs ∧ Θ = da (nat (2 ^ bs.length - 1))
abbrev s_all_bits : Stmt := top 20
abbrev N_all_bits : List Str := ["recipe"]
theorem sc_all_bits : FnScope N_all_bits ["recipe"] (defScope s_all_bits) := ⟨rfl, rfl, rfl, by decide +kernel, rfl, by decide +kernel, by decide +kernel⟩
theorem c_all_bits (T : Tx K mg) : C8.Cal P w K mg base 1 "all_bits" (sp_all_bits K) [] := by
  refine mkCal T 10 16 rfl rfl sc_all_bits (fun _ _ _ _ _ _ us hl => match us, hl with | [_], _ => rfl) (fun vs H Q E h => ?_) (fun f cdv A outer s H vs Q E hr h => ?_)
  · obtain ⟨A, Θ, _, ⟨v, _, _, rfl, _⟩, _⟩ := h
    rfl
  obtain ⟨A, Θ, lv, ⟨v, kn, bs, rfl, hv, ok, rfl⟩, k⟩ := h
  refine ⟨_, (pss_one (ps_ret (pe_op op_sub (pe_op op_shl pe_int (pe_callB (k_len (K := K)) rfl T.len_ bt_len (pa_cons (kpe_fld (K := K) (pv 0) rfl) pa_nil))) pe_int))), ?_⟩
  refine p_ret (ev_is (ev_bin (ev_shl1 (b := bs.length) (ev_many T (ev_var rfl hv)) (by have := ok.n7; omega)) ev_int) ?_) lv k
  have := Nat.pos_of_ne_zero (Nat.pos_iff_ne_zero.mp (Nat.two_pow_pos bs.length))
  show PyData.int (_ - 1) = PyData.int _
  congr 1
  omega
theorem v_all_bits {e : Ef} {c : Nat} {ta : TE} {σ : L2.St} {A : As} {H : Hp} {E : XK} {kn : Addr} {bs : List Nat} (ok : okB bs) (h : Em e c ta σ A H (rc K kn bs)) : Em e c (tCall (sp_all_bits K) [] E (tCons ta tNil)) σ A H (da (nat (2 ^ bs.length - 1))) :=
  em_pm (ema_cons (c2 := 0) h ema_nil) fun A' H' vs w p => by
    obtain ⟨x, rfl, q⟩ := pvs1 p
    exact ⟨x, kn, bs, rfl, q, ok, rfl⟩
abbrev sp_outside (K : PySem.W.Frag) : Sp := Pm fun A H vs Θ => ∃ v kn bs, ∃ m : Nat, vs = [v, .int m] ∧ (rc K kn bs).p A H v ∧ okB bs ∧ m < 2 ^ bs.length ∧ Θ = da (.list (nts (out bs.length m)))
abbrev s_outside : Stmt := top 24
abbrev N_outside : List Str := ["recipe", "lot"]
theorem sc_outside : FnScope N_outside ["recipe", "lot"] (defScope s_outside) := ⟨rfl, rfl, rfl, by decide +kernel, rfl, by decide +kernel, by decide +kernel⟩
theorem c_outside (T : Tx K mg) : C8.Cal P w K mg base 2 "outside" (sp_outside K) [] := by
  refine mkCal T 13 19 rfl rfl sc_outside (fun _ _ _ _ _ _ us hl => match us, hl with | [_, _], _ => rfl) (fun vs H Q E h => ?_) (fun f cdv A outer s H vs Q E hr h => ?_)
  · obtain ⟨A, Θ, _, ⟨v, _, _, _, rfl, _⟩, _⟩ := h
    rfl
  obtain ⟨A, Θ, lv, ⟨v, kn, bs, m, rfl, hv, ok, hm, rfl⟩, k⟩ := h
  have c_all_bits := c_all_bits (P := P) (w := w) (base := base) T
  have c_blocks_of := c_blocks_of (P := P) (w := w) (base := base) T
  refine ⟨_, (pss_one (ps_ret (C8.pe_c c_blocks_of hr (by decide) rfl (pa_cons (pe_op op_and (C8.pe_c c_all_bits hr (by decide) rfl (pa_cons (pv 0) pa_nil)) (pe_un un_inv (pv 1))) pa_nil)))), ?_⟩
  have h1 := ok.m hm
  have h7 := ok.n7
  have h2 := ok.p
  refine p_ret (ev_is (v_blocks_of (m := 2 ^ bs.length - 1 - m) (ev_is (ev_bin (v_all_bits ok (ev_var rfl hv)) (ev_inv (ev_var rfl (.int (m : Int))))) ?_) (by omega)) ?_) lv k
  · exact congrArg PyData.int (outs (by omega) hm)
  · unfold lot
    rw [outs_blk (by omega) hm]
    rfl
theorem v_outside {e : Ef} {ta tb : TE} {σ : L2.St} {A : As} {H : Hp} {E : XK} {kn : Addr} {bs : List Nat} {m : Nat} (ok : okB bs) (hm : m < 2 ^ bs.length) (h : Em e 0 ta σ A H (rc K kn bs)) (h2 : Em e 0 tb σ A H (da (nat m))) : Em e 0 (tCall (sp_outside K) [] E (tCons ta (tCons tb tNil))) σ A H (da (.list (nts (out bs.length m)))) :=
  em_pm (c := 0) (eva_cons h (eva_cons h2 eva_nil)) fun A' H' vs w p => by
    obtain ⟨x, y, rfl, q, q2⟩ := pvs2 p
    obtain rfl := Rp.int_eq q2
    exact ⟨x, kn, bs, m, rfl, q, ok, hm, rfl⟩
abbrev sp_lacks_more (K : PySem.W.Frag) : Sp := Pm fun A H vs Θ => ∃ v kn bs, ∃ m : Nat, vs = [v, .int m] ∧ (rc K kn bs).p A H v ∧ m < 256 ∧ Θ = da (.bool (decide (pc m + 1 < bs.length)))
abbrev s_lacks_more : Stmt := top 29
abbrev N_lacks_more : List Str := ["recipe", "lot"]
theorem sc_lacks_more : FnScope N_lacks_more ["recipe", "lot"] (defScope s_lacks_more) := ⟨rfl, rfl, rfl, by decide +kernel, rfl, by decide +kernel, by decide +kernel⟩
theorem c_lacks_more (T : Tx K mg) : C8.Cal P w K mg base 2 "lacks_more" (sp_lacks_more K) [] := by
  refine mkCal T 17 23 rfl rfl sc_lacks_more (fun _ _ _ _ _ _ us hl => match us, hl with | [_, _], _ => rfl) (fun vs H Q E h => ?_) (fun f cdv A outer s H vs Q E hr h => ?_)
  · obtain ⟨A, Θ, _, ⟨v, _, _, _, rfl, _⟩, _⟩ := h
    rfl
  obtain ⟨A, Θ, lv, ⟨v, kn, bs, m, rfl, hv, hm, rfl⟩, k⟩ := h
  have c_size_of := c_size_of (P := P) (w := w) (base := base) T
  refine ⟨_, (pss_one (ps_ret (pe_cmpR op_gt (pe_op op_sub (pe_callB (k_len (K := K)) rfl T.len_ bt_len (pa_cons (kpe_fld (K := K) (pv 0) rfl) pa_nil)) (C8.pe_c c_size_of hr (by decide) rfl (pa_cons (pv 1) pa_nil))) pe_int (nomark _)))), ?_⟩
  refine p_ret (ev_is (ev_cmp (ev_bin (ev_many T (ev_var rfl hv)) (v_size_of (ev_var rfl (.int (m : Int))) hm)) ev_int) ?_) lv k
  congr 1
  by_cases h : pc m + 1 < bs.length
  · rw [decide_eq_true h, decide_eq_true (by omega)]
  · rw [decide_eq_false h, decide_eq_false (by omega)]
theorem v_lacks_more {e : Ef} {ta tb : TE} {σ : L2.St} {A : As} {H : Hp} {E : XK} {kn : Addr} {bs : List Nat} {m : Nat} (hm : m < 256) (h : Em e 0 ta σ A H (rc K kn bs)) (h2 : Em e 0 tb σ A H (da (nat m))) : Em e 0 (tCall (sp_lacks_more K) [] E (tCons ta (tCons tb tNil))) σ A H (da (.bool (decide (pc m + 1 < bs.length)))) :=
  em_pm (c := 0) (eva_cons h (eva_cons h2 eva_nil)) fun A' H' vs w p => by
    obtain ⟨x, y, rfl, q, q2⟩ := pvs2 p
    obtain rfl := Rp.int_eq q2
    exact ⟨x, kn, bs, m, rfl, q, hm, rfl⟩
abbrev sp_is_lot_of (K : PySem.W.Frag) : Sp := Pm fun A H vs Θ => ∃ v x kn bs d, vs = [v, x] ∧ (rc K kn bs).p A H v ∧ Rp A H x d ∧ sml d ∧ Θ = da (.bool (isRis bs.length d))
abbrev s_is_lot_of : Stmt := top 16
abbrev N_is_lot_of : List Str := ["recipe", "value"]
theorem sc_is_lot_of : FnScope N_is_lot_of ["recipe", "value"] (defScope s_is_lot_of) := ⟨rfl, rfl, rfl, by decide +kernel, rfl, by decide +kernel, by decide +kernel⟩
theorem c_is_lot_of (T : Tx K mg) : C8.Cal P w K mg base 3 "is_lot_of" (sp_is_lot_of K) [] := by
  refine mkCal T 7 13 rfl rfl sc_is_lot_of (fun _ _ _ _ _ _ us hl => match us, hl with | [_, _], _ => rfl) (fun vs H Q E h => ?_) (fun f cdv A outer s H vs Q E hr h => ?_)
  · obtain ⟨A, Θ, _, ⟨v, _, _, _, _, rfl, _⟩, _⟩ := h
    rfl
  obtain ⟨A, Θ, lv, ⟨v, x, kn, bs, d, rfl, hv, hx, hs, rfl⟩, k⟩ := h
  have c_is_rising := c_is_rising (P := P) (w := w) (base := base) T
  refine ⟨_, (pss_one (ps_ret (C8.pe_c c_is_rising hr (by decide) rfl (pa_cons (pv 1) (pa_cons (pe_callB (k_len (K := K)) rfl T.len_ bt_len (pa_cons (kpe_fld (K := K) (pv 0) rfl) pa_nil)) pa_nil))))), ?_⟩
  exact p_ret (v_is_rising (ev_var rfl hx) (ev_many T (ev_var rfl hv)) hs) lv k
theorem v_is_lot_of {e : Ef} {ta tb : TE} {σ : L2.St} {A : As} {H : Hp} {E : XK} {kn : Addr} {bs : List Nat} {d : PyData} (hs : sml d) (h : Em e 0 ta σ A H (rc K kn bs)) (h2 : Em e 0 tb σ A H (da d)) : Em e 0 (tCall (sp_is_lot_of K) [] E (tCons ta (tCons tb tNil))) σ A H (da (.bool (isRis bs.length d))) :=
  em_pm (c := 0) (eva_cons h (eva_cons h2 eva_nil)) fun A' H' vs w p => by
    obtain ⟨x, y, rfl, q, q2⟩ := pvs2 p
    exact ⟨x, y, kn, bs, d, rfl, q, q2, hs, rfl⟩
abbrev sp_needed_bits (K : PySem.W.Frag) : Sp := Pm fun A H vs Θ => ∃ v kn bs, ∃ m : Nat, vs = [v, .int m] ∧ (rc K kn bs).p A H v ∧ okB bs ∧ m < 256 ∧ Θ = da (nat (need bs m))
def needI (bs : List Nat) (m i : Nat) : Nat := ((List.range i).filter fun b => !m.testBit b).foldl (fun a b => a ||| bs.getD b 0) 0
theorem needI_succ (bs : List Nat) (m i : Nat) : needI bs m (i + 1) = if m.testBit i = true then needI bs m i else needI bs m i ||| bs.getD i 0 := by
  unfold needI
  rw [filter_succ, List.foldl_append]
  cases m.testBit i <;> rfl
abbrev s_needed_bits : Stmt := top 18
abbrev N_needed_bits : List Str := ["recipe", "lot", "found", "block", "bits"]
theorem sc_needed_bits : FnScope N_needed_bits ["recipe", "lot"] (defScope s_needed_bits) := ⟨rfl, rfl, rfl, by decide +kernel, rfl, by decide +kernel, by decide +kernel⟩
theorem c_needed_bits (T : Tx K mg) : C8.Cal P w K mg base 1 "needed_bits" (sp_needed_bits K) [] := by
  refine mkCal T 8 14 rfl rfl sc_needed_bits (fun _ _ _ _ _ _ us hl => match us, hl with | [_, _], _ => rfl) (fun vs H Q E h => ?_) (fun f cdv A outer s H vs Q E hr h => ?_)
  · obtain ⟨A, Θ, _, ⟨v, _, _, _, rfl, _⟩, _⟩ := h
    rfl
  obtain ⟨A, Θ, lv, ⟨v, kn, bs, m, rfl, hv, ok, hm, rfl⟩, k⟩ := h
  refine ⟨_, (pss_cons (ps_set (i := 2) sc_needed_bits.nd rfl (Or.inl rfl) pe_int)
  (pss_cons (ps_for PassesOwn.never rfl (kpi_enum (K := K) rfl T.enumerate_ (pa_cons (kpe_fld (K := K) (pv 0) rfl) pa_nil)) (kpg_tup (K := K) rfl (pgs_cons (pg_name (i := 3) sc_needed_bits.nd rfl (Or.inl rfl)) (pgs_cons (pg_name (i := 4) sc_needed_bits.nd rfl (Or.inl rfl)) pgs_nil))) (pss_one (ps_if (pt_not (kpt_truth (K := K) (pe_op op_and (pe_op op_shr (pv 1) (pv 3)) pe_int) (fun _ => rfl))) (pss_one (ps_aug (i := 2) sc_needed_bits.nd rfl (Or.inl rfl) (pv 4) iop_or)) pss_nil)))
  (pss_one (ps_ret (pv 2))))), ?_⟩
  refine p_asg ev_int lv fun v1 H1 k1 lv1 p1 => ?_
  obtain rfl := Rp.int_eq p1
  refine p_forS (fun i σ' H' => ∃ x y, σ' = [some v, some (.int m), some (.int (needI bs m i : Nat)), x, y]) (sr_enum (ev_bitsF T (ev_var rfl ((rc K kn bs).up (.k0 k1) hv)))) lv1 (fun _ _ _ _ h _ => h) (fun _ _ => ⟨none, none, rfl⟩) (fun H2 i σ' H' x k2 hi ⟨y, z, hσ⟩ k3 lv2 px => ?_) (fun σ' H' ⟨y, z, hσ⟩ k2 lv2 => ?_)
  · subst hσ
    have hi2 : i < bs.length := by simpa using hi
    have hd : (nts bs).getD i .none = nat (bs[i]) := getN hi2
    have hb : bs.getD i 0 = bs[i] := by rw [List.getD_eq_getElem?_getD, List.getElem?_eq_getElem hi2]; rfl
    refine g_pair px fun x1 x2 q1 q2 => ?_
    rw [hd] at q2
    obtain rfl := Rp.int_eq q1
    obtain rfl := Rp.int_eq q2
    refine p_if (T := ((!m.testBit i) = ·)) (vt_is (vt_not1 (vt_tru (ev_bin (ev_binC (C := fun _ j => 0 ≤ j) (g := fun i j => i / 2 ^ j.toNat) (ev_var rfl (.int (m : Int))) (ev_var rfl (.int (i : Int))) (by omega)) ev_int))) ?_) lv2 (fun h H3 k4 lv3 => ?_) (fun h H3 k4 lv3 => ?_)
    · rw [Int.toNat_natCast]
      exact congrArg (!·) (shr_bit m i)
    · refine p_aug rfl (ev_var rfl (.int (bs[i] : Int))) lv3 fun H4 k5 lv4 => ?_
      refine Iw.p ?_ ((k3.trans k4).trans k5) lv4
      refine ⟨some (.int i), some (.int (bs[i] : Int)), ?_⟩
      rw [needI_succ, if_neg (by simpa using h), bit_or, hb]
      rfl
    · refine Iw.p ?_ (k3.trans k4) lv3
      refine ⟨some (.int i), some (.int (bs[i] : Int)), ?_⟩
      rw [needI_succ, if_pos (by simpa using h)]
      rfl
  · subst hσ
    refine p_ret (Φ := da (nat (needI bs m (nts bs).length))) (ev_var rfl (.int _)) lv2 fun v3 H3 k3 p3 => k v3 H3 ((k1.trans k2).trans k3) ?_
    rw [List.length_map] at p3
    exact p3
theorem v_needed_bits {e : Ef} {ta tb : TE} {σ : L2.St} {A : As} {H : Hp} {E : XK} {kn : Addr} {bs : List Nat} {m : Nat} (ok : okB bs) (hm : m < 256) (h : Em e 0 ta σ A H (rc K kn bs)) (h2 : Em e 0 tb σ A H (da (nat m))) : Em e 0 (tCall (sp_needed_bits K) [] E (tCons ta (tCons tb tNil))) σ A H (da (nat (need bs m))) :=
  em_pm (c := 0) (eva_cons h (eva_cons h2 eva_nil)) fun A' H' vs w p => by
    obtain ⟨x, y, rfl, q, q2⟩ := pvs2 p
    obtain rfl := Rp.int_eq q2
    exact ⟨x, kn, bs, m, rfl, q, ok, hm, rfl⟩
end
end SB
namespace SB
open PySem PySem.Spec L2
/-! ### a dict of keys that all lead to True -/
def ins (ms : List Nat) (k : Nat) : List Nat := if k ∈ ms then ms else ms ++ [k]
def setOf (l : List Nat) : List Nat := l.foldl ins []
theorem ins_nd {ms : List Nat} {k : Nat} (h : ms.Nodup) : (ins ms k).Nodup := by
  unfold ins
  by_cases e : k ∈ ms
  · rw [if_pos e]; exact h
  · rw [if_neg e]
    refine List.nodup_append.mpr ⟨h, by simp, fun a ha b hb => ?_⟩
    rw [List.mem_singleton] at hb
    subst hb
    exact fun q => e (q ▸ ha)
theorem ins_mem {ms : List Nat} {k x : Nat} : x ∈ ins ms k ↔ x ∈ ms ∨ x = k := by
  unfold ins
  by_cases e : k ∈ ms
  · rw [if_pos e]
    exact ⟨.inl, fun h => h.elim id fun q => q ▸ e⟩
  · rw [if_neg e, List.mem_append, List.mem_singleton]
theorem fold_ins : ∀ (l acc : List Nat), acc.Nodup → (l.foldl ins acc).Nodup ∧ (∀ x, x ∈ l.foldl ins acc ↔ x ∈ acc ∨ x ∈ l) ∧ (l.foldl ins acc).length ≤ acc.length + l.length ∧ ((l.foldl ins acc).length = acc.length + l.length ↔ l.Nodup ∧ ∀ x ∈ l, x ∉ acc)
  | [], acc, h => ⟨h, fun x => by simp, by simp, by simp⟩
  | k :: l, acc, h => by
    obtain ⟨a, b, c, d⟩ := fold_ins l (ins acc k) (ins_nd h)
    rw [List.foldl_cons]
    have hl : (ins acc k).length = if k ∈ acc then acc.length else acc.length + 1 := by
      unfold ins
      by_cases e : k ∈ acc
      · rw [if_pos e, if_pos e]
      · rw [if_neg e, if_neg e, List.length_append]; rfl
    refine ⟨a, fun x => ?_, ?_, ?_⟩
    · rw [b, ins_mem, List.mem_cons]
      constructor
      · rintro ((h | h) | h)
        · exact .inl h
        · exact .inr (.inl h)
        · exact .inr (.inr h)
      · rintro (h | h | h)
        · exact .inl (.inl h)
        · exact .inl (.inr h)
        · exact .inr h
    · rw [hl] at c
      rw [List.length_cons]
      by_cases e : k ∈ acc
      · rw [if_pos e] at c; omega
      · rw [if_neg e] at c; omega
    · rw [List.length_cons]
      by_cases e : k ∈ acc
      · rw [hl, if_pos e] at c
        constructor
        · intro q; omega
        · rintro ⟨_, q⟩; exact absurd e (q k List.mem_cons_self)
      · rw [hl, if_neg e] at d
        constructor
        · intro q
          obtain ⟨q1, q2⟩ := d.mp (by omega)
          refine ⟨List.nodup_cons.mpr ⟨fun hk => q2 k hk (ins_mem.mpr (.inr rfl)), q1⟩, fun x hx => ?_⟩
          rcases List.mem_cons.mp hx with z | z
          · subst z; exact e
          · exact fun z2 => q2 x z (ins_mem.mpr (.inl z2))
        · rintro ⟨q1, q2⟩
          obtain ⟨q3, q4⟩ := List.nodup_cons.mp q1
          have := d.mpr ⟨q4, fun x hx z => (ins_mem.mp z).elim (fun z2 => q2 x (List.mem_cons_of_mem _ hx) z2) fun z2 => q3 (z2 ▸ hx)⟩
          omega
theorem setOf_nd (l : List Nat) : (setOf l).Nodup := (fold_ins l [] .nil).1
theorem setOf_mem {l : List Nat} {x : Nat} : x ∈ setOf l ↔ x ∈ l := by
  have := (fold_ins l [] .nil).2.1 x
  unfold setOf
  rw [this]
  simp
theorem setOf_len (l : List Nat) : (setOf l).length = l.length ↔ l.Nodup := by
  have := (fold_ins l [] .nil).2.2.2
  unfold setOf
  simpa using this
theorem setOf_le (l : List Nat) : (setOf l).length ≤ l.length := by
  have := (fold_ins l [] .nil).2.2.1
  unfold setOf
  simpa using this
section
variable {κ : Type} [DecidableEq κ] {key : Nat → κ}
abbrev yes : Nat → V := fun _ => .bl true
theorem putK_yes (ij : Inj key) {ms : List Nat} {k : Nat} (hm : ∀ m ∈ ms, m < 256) (hk : k < 256) : putK (kvm key yes ms) (key k) (.bl true) = kvm key yes (ins ms k) := by
  unfold ins
  by_cases e : k ∈ ms
  · rw [if_pos e]
    unfold putK
    rw [if_pos (by rw [valV_any, valV_kvm ij hm hk, if_pos e]; rfl)]
    unfold kvm
    rw [List.map_map]
    refine List.map_congr_left fun m hm => ?_
    show (if (key m, V.bl true).1 = key k then ((key m, V.bl true).1, V.bl true) else (key m, V.bl true)) = _
    by_cases z : (key m, V.bl true).1 = key k
    · rw [if_pos z]
    · rw [if_neg z]
  · rw [if_neg e]
    exact putK_kvm (f := yes) ij hm hk e
end
/-- a dict of masks -/
def dKv (kvs : List (Key × V)) : Pv := ⟨fun A H v => ∃ a, v = .ref a ∧ ¬ A a ∧ H a = some (.dK kvs), fun w ⟨a, h1, h2, h3⟩ => ⟨a, h1, (w.f a _ h2 h3).1, (w.f a _ h2 h3).2⟩, fun w ⟨a, h1, h2, h3⟩ => ⟨a, h1, fun q => h2 (w a q), h3⟩⟩
def dTv (kvs : List (List Key × V)) : Pv := ⟨fun A H v => ∃ a, v = .ref a ∧ ¬ A a ∧ H a = some (.dT kvs), fun w ⟨a, h1, h2, h3⟩ => ⟨a, h1, (w.f a _ h2 h3).1, (w.f a _ h2 h3).2⟩, fun w ⟨a, h1, h2, h3⟩ => ⟨a, h1, fun q => h2 (w a q), h3⟩⟩
section
variable {J : It} {n : Nat} {G : Hp → Prop} {Y : Nat → Hp → V → Hp → Prop}
theorem dc_it (w : Walk J n G Y) {g : TG} {tt : TT} {tk tv : TE} {vs : List Nat} {σ : L2.St} {H1 : Hp} {D : Addr} {Qd : Hp → Prop} (Pv : Nat → Hp → Prop) (h0 : Pv 0 (upd H1 D (.dK []))) (hG : ∀ i H, i ≤ n → Pv i H → G H)
    (hs : ∀ i x H H', i < n → Pv i H → Y i H x H' → g x (wipe σ vs) H' fun σ2 H2 => wipe σ2 vs = wipe σ vs ∧ tt σ2 H2 fun b H3 =>
      if b = true then tk σ2 H3 fun y H4 => tv σ2 H4 fun z H5 => ∃ kvs k, y = kV k ∧ H5 D = some (.dK kvs) ∧ kvs.length < sizeLine ∧ Pv (i + 1) (upd H5 D (.dK (putK kvs k z))) else Pv (i + 1) H3) (hd : ∀ H, Pv n H → Qd H) :
    ∃ W : Nat → Nat → Hp → Prop, (∃ m, W 0 m (upd H1 D (.dK []))) ∧ ∀ i m H, W i m H →
      (J.stop i H ∧ Qd H) ∨ (J.go i H ∧ ∃ Nx : Hp → Prop, (∀ H', Nx H' → ∃ m', m' < m ∧ W (i + 1) m' H') ∧ ∀ x H', J.yld i H x H' → g x (wipe σ vs) H' fun σ2 H2 => wipe σ2 vs = wipe σ vs ∧ tt σ2 H2 fun b H3 =>
        if b = true then tk σ2 H3 fun y H4 => tv σ2 H4 fun z H5 => ∃ kvs k, y = kV k ∧ H5 D = some (.dK kvs) ∧ kvs.length < sizeLine ∧ Nx (upd H5 D (.dK (putK kvs k z))) else Nx H3) := by
  refine ⟨fun i m H => m = n - i ∧ i ≤ n ∧ Pv i H, ⟨n, by simp, Nat.zero_le _, h0⟩, ?_⟩
  rintro i m H ⟨rfl, hi, p⟩
  have q := hG i H hi p
  by_cases hlt : i < n
  · exact .inr ⟨w.goes i H hlt q, Pv (i + 1), fun H' p' => ⟨n - (i + 1), by omega, rfl, hlt, p'⟩, fun x H' y => hs i x H H' hlt p (w.yields i H x H' hlt q y)⟩
  · have e : i = n := by omega
    subst e
    exact .inl ⟨w.stops H q, hd H p⟩
end
section
variable {e : Ef} {c c1 : Nat} {K : PySem.W.Frag} {mg : Str → Option Value} {ta tb te tl tk : TE} {tt tu : TT} {σ : L2.St} {A A' : As} {H H' : Hp} {Φ Ψ Θ : Pv} {ds es : List PyData} {d : PyData} {i j : Int} {a b : Bool} {v x : V} {D : Ends} {n m : Nat} {kn : Addr} {bs : List Nat} {E : XK}
/-- {mask: True for ..} -/
theorem ev_dcS {wi : TI} {j N : Nat} {vs : List Nat} {It : Nat → Pv} {f : Nat → Nat} (hs : Sr e 0 wi σ A H N It) (hN : N ≤ 100000) (hw : ∀ x, wipe ((wipe σ vs).set j (some x)) vs = wipe σ vs) (hf : ∀ i, i < N → f i < 256)
    (he : ∀ i A1 H1 x, i < N → Wl A H A1 H1 → (It i).p A1 H1 x → Em e 0 tk ((wipe σ vs).set j (some x)) A1 H1 (da (nat (f i)))) :
    Em e 0 (tDc wi (gName j) tYes tk (tC (.bl true)) vs) σ A H (dKv (kvm ki yes (setOf ((List.range N).map f)))) := fun A' H' n w cu hn Q q =>
  hs A' H' n w cu hn _ fun J H2 G Y k2 j2 wk hG hY => fun D hD => by
    have cu2 : Cur e A' H2 n := cu.aft k2 j2
    have nB : ¬ e.B D := fun z => cu2.lv.fresh hD (cu2.sub D z)
    have c3 : Cur e (Ad A' D) (upd H2 D (.dK [])) n := cu2.push hD
    have w3 : Wl A' H2 (Ad A' D) (upd H2 D (.dK [])) := .push hD
    have subD : ∀ a, Ad e.B D a → Ad A' D a := fun a z => z.imp (cu.sub a) id
    refine dc_it wk (fun i Hc => i ≤ N ∧ Hc D = some (.dK (kvm ki yes (setOf ((List.range i).map f)))) ∧ Kp (Ad e.B D) (upd H2 D (.dK [])) Hc ∧ e.J n Hc)
      ⟨Nat.zero_le _, upd_same, .refl _, c3.j⟩ (fun i Hc _ ⟨_, _, kk, _⟩ => hG (Ad A' D) Hc (w3.trans (.of kk subD))) ?_ ?_
    · rintro i x Hc H4 hi ⟨_, hacc, kk, jj⟩ y
      have wc : Wl A' H2 (Ad A' D) Hc := w3.trans (.of kk subD)
      have lc : Lv (Ad A' D) Hc := c3.lv.kp kk
      obtain ⟨k4, p4⟩ := hY i (Ad A' D) Hc x H4 hi wc lc y
      have cuc : Cur e (Ad A' D) Hc n := ⟨c3.sub, lc, jj⟩
      have cu4 := cuc.keep k4
      have w4 : Wl A H (Ad A' D) H4 := (w.trans (cu.wl k2)).trans (wc.trans (.of0 k4))
      refine ⟨hw x, ?_⟩
      show tk _ H4 _
      refine he i (Ad A' D) H4 x hi w4 p4 (Ad A' D) H4 _ (.refl _ _) cu4 hn _ fun y H5 k5 j5 p5 => ?_
      obtain rfl := Rp.int_eq p5
      have hacc5 : H5 D = some (.dK (kvm ki yes (setOf ((List.range i).map f)))) := k5.1 D _ nB (k4.1 D _ id hacc)
      have kf : Kp (Ad e.B D) Hc (upd H5 D (.dK (kvm ki yes (setOf ((List.range (i + 1)).map f))))) := (k4.any.trans (k5.mono fun a z => .inl z)).trans (.mut (.inr rfl) (by rw [hacc5]; intro _ z; cases z))
      have hlt : ∀ m ∈ setOf ((List.range i).map f), m < 256 := fun m hm => by
        obtain ⟨k, hk, rfl⟩ := List.mem_map.mp (setOf_mem.mp hm)
        exact hf k (by have := List.mem_range.mp hk; omega)
      have e1 : putK (kvm ki yes (setOf ((List.range i).map f))) (ki (f i)) (.bl true) = kvm ki yes (setOf ((List.range (i + 1)).map f)) := by
        rw [putK_yes ki_inj hlt (hf i hi)]
        unfold setOf
        rw [List.range_succ, List.map_append, List.foldl_append]
        rfl
      refine ⟨_, ki (f i), rfl, hacc5, ?_, hi, ?_, ?_, ?_⟩
      · refine sl5 ?_
        rw [kvm_len]
        have := setOf_le ((List.range i).map f)
        rw [List.length_map, List.length_range] at this
        omega
      · rw [upd_same, e1]
      · rw [e1]; exact kk.trans kf
      · exact Ef.mut nB (fun φ z => by rw [hacc5] at z; cases z) j5
    · rintro Hc ⟨_, hacc, kk, jj⟩
      have kQ : Kp e.B H2 Hc := ⟨fun a o na ha => kk.1 a o (fun z => z.elim na fun z2 => by rw [z2, hD] at ha; cases ha) (by rw [upd_ne (ne_of_none ha hD)]; exact ha), fun a ha => kk.2 a (by
        by_cases z : a = D
        · rw [z, upd_same]; simp
        · rw [upd_ne z]; exact ha), fun a xs ha => kk.3 a xs (by rw [upd_ne (ne_of_none ha hD)]; exact ha)⟩
      exact q (.ref D) Hc (k2.trans kQ) jj ⟨D, rfl, cu2.lv.fresh hD, hacc⟩
/-- over a list's items -/
theorem ev_dcL {j : Nat} {vs : List Nat} {f : PyData → Nat} (h : Em e 0 tl σ A H (da (.list ds))) (hN : ds.length ≤ 100000) (hw : ∀ x, wipe ((wipe σ vs).set j (some x)) vs = wipe σ vs) (hf : ∀ d ∈ ds, f d < 256)
    (he : ∀ d A1 H1 x, d ∈ ds → Wl A H A1 H1 → Rp A1 H1 x d → Em e 0 tk ((wipe σ vs).set j (some x)) A1 H1 (da (nat (f d)))) :
    Em e 0 (tDc (iList K tl) (gName j) tYes tk (tC (.bl true)) vs) σ A H (dKv (kvm ki yes (setOf (ds.map f)))) := by
  have mem : ∀ i, i < ds.length → ds.getD i .none ∈ ds := fun i hi => by
    rw [List.getD_eq_getElem?_getD, List.getElem?_eq_getElem hi]
    exact List.getElem_mem hi
  have := ev_dcS (f := fun i => f (ds.getD i .none)) (vr_list (K := K) h) hN hw (fun i hi => hf _ (mem i hi)) fun i A1 H1 x hi w p => he _ A1 H1 x (mem i hi) w p
  have e1 : (List.range ds.length).map (fun i => f (ds.getD i .none)) = ds.map f := by
    apply List.ext_getElem
    · simp
    · intro i h1 h2
      simp [List.getElem_map] at h1 ⊢
      rw [List.getElem?_eq_getElem h1]
      rfl
  rw [e1] at this
  exact this
def r_lenD : List V → Hp → VK → Prop := fun xs H Q => ∃ a kvs, xs = [V.ref a] ∧ H a = some (.dK kvs) ∧ Q (.int kvs.length) H
theorem k_lenD {X : Cx} : CallR X (.builtin "len") r_lenD := call_lenD
theorem em_lenD {kvs : List (Key × V)} (h : Em e c ta σ A H (dKv kvs)) : Em e c (tCB r_lenD (tCons ta tNil)) σ A H (da (nat kvs.length)) := em_B1 h fun A' H' x _ p => by
  obtain ⟨a, rfl, na, ha⟩ := p
  exact rv_v _ (fun Q hq => ⟨a, kvs, rfl, ha, hq⟩) (.int _)
/-! ### a dict that is walked -/
theorem Kp.unlock {B : As} {H H' : Hp} {d : Addr} {u f : HO} (h : H d = some u) (k : Kp B (upd H d f) H') : Kp B H (upd H' d u) := ⟨fun a o n e => by
  by_cases z : a = d
  · subst z; rw [upd_same, ← h]; exact e
  · rw [upd_ne z]; exact k.1 a o n (by rw [upd_ne z]; exact e), fun a e => by
  by_cases z : a = d
  · subst z; rw [upd_same]; simp
  · rw [upd_ne z]; exact k.2 a (by rw [upd_ne z]; exact e), fun a xs e => by
  by_cases z : a = d
  · subst z; rw [upd_same, ← h]; exact e
  · rw [upd_ne z]; exact k.3 a xs (by rw [upd_ne z]; exact e)⟩
theorem Kp.lock {H : Hp} {d : Addr} {u f : HO} (h : H d = some u) (ht : ∀ xs, u ≠ .tup xs) : Kp (· = d) H (upd H d f) := .mut rfl fun xs z => by
  rw [h] at z
  exact ht xs (Option.some.inj z)
/-- one thing that is owned and stands as told -/
def eX (d : Addr) (u : HO) (hx : ∀ φ, u ≠ .ext φ) : Ef where
  B := fun a => a = d
  J := fun _ H => H d = some u
  mono := fun _ h => h
  st := fun h1 _ h => by rw [h1 d rfl]; exact h
  nx := fun h q z => by
    subst q
    rw [h] at z
    exact hx _ (Option.some.inj z)
/-- e and the thing at d -/
abbrev eY (e : Ef) (d : Addr) (u : HO) (hx : ∀ φ, u ≠ .ext φ := by simp) : Ef := e.and (eX d u hx)
theorem Sube.oy {e : Ef} {d : Addr} {u : HO} {hx : ∀ φ, u ≠ .ext φ} (h : ¬ e.B d) : Sube e (eY e d u hx) := .l e _ fun a q z => by
  have z : a = d := z
  exact h (z ▸ q)
theorem Sube.ox {e : Ef} {d : Addr} {u : HO} {hx : ∀ φ, u ≠ .ext φ} (h : ¬ e.B d) : Sube (eX d u hx) (eY e d u hx) := .r e _ fun a q z => by
  have z : a = d := z
  exact h (z ▸ q)
/-- to own one more -/
theorem Cur.own {d : Addr} {u : HO} {hx : ∀ φ, u ≠ .ext φ} (cu : Cur e A H n) (hd : H d = some u) (hA : A d) : Cur (eY e d u hx) A H n := ⟨fun a q => q.elim (cu.sub a) fun z => by
  have z : a = d := z
  exact z ▸ hA, cu.lv, cu.j, hd⟩
theorem Cur.put {d : Addr} {u f : HO} {hx : ∀ φ, u ≠ .ext φ} {hf : ∀ φ, f ≠ .ext φ} (cu : Cur (eY e d u hx) A H n) (hB : ¬ e.B d) : Cur (eY e d f hf) A (upd H d f) n :=
  ⟨cu.sub, fun a h => by
    by_cases z : a = d
    · subst z; rw [upd_same]; simp
    · rw [upd_ne z]; exact cu.lv a h, Ef.mut hB (fun φ z => by rw [cu.j.2] at z; exact hx φ (Option.some.inj z)) cu.j.1, upd_same⟩
theorem Cur.rid {d : Addr} {u : HO} {hx : ∀ φ, u ≠ .ext φ} (cu : Cur (eY e d u hx) A H n) : Cur e A H n := ⟨fun a q => cu.sub a (.inl q), cu.lv, cu.j.1⟩
theorem Cur.at {d : Addr} {u : HO} {hx : ∀ φ, u ≠ .ext φ} (cu : Cur (eY e d u hx) A H n) : H d = some u := cu.j.2
/-- back to the start, where d stood as it stands again -/
theorem Kp.back {e : Ef} {H H' : Hp} {d : Addr} {u f : HO} {hf : ∀ φ, f ≠ .ext φ} (h : H d = some u) (k : Kp (eY e d f hf).B (upd H d f) H') : Kp e.B H (upd H' d u) := ⟨fun a o n e => by
  by_cases z : a = d
  · subst z; rw [upd_same, ← h]; exact e
  · rw [upd_ne z]; exact k.1 a o (fun q => q.elim n z) (by rw [upd_ne z]; exact e), fun a e => by
  by_cases z : a = d
  · subst z; rw [upd_same]; simp
  · rw [upd_ne z]; exact k.2 a (by rw [upd_ne z]; exact e), fun a xs e => by
  by_cases z : a = d
  · subst z; rw [upd_same, ← h]; exact e
  · rw [upd_ne z]; exact k.3 a xs (by rw [upd_ne z]; exact e)⟩
/-- for key in d -/
theorem z_forK {tb : TS} {g : TG} {q : Nat} {d : Addr} {kvs : List (Key × V)} (S : Nat → L2.St → Hp → Prop) (hv : σ[q]? = some (some (.ref d))) (hd : H d = some (.dK kvs)) (hA : A d) (hB : ¬ e.B d) (cu : Cur e A H n) (hn : n ≤ big) (h0 : ∀ od, S 0 σ (upd H d (.frz od (.dK kvs))))
    (hst : ∀ od H1 i σ' H' k y, Wl A H A H1 → (∀ H3, Kp (eY e d (.frz od (.dK kvs))).B H1 H3 → Kp e.B H (upd H3 d (.dK kvs))) → kvs[i]? = some (k, y) → S i σ' H' → Kp (eY e d (.frz od (.dK kvs))).B H1 H' → Cur (eY e d (.frz od (.dK kvs))) A H' n →
      g (kV k) σ' H' fun σ2 H2 => tb { nx := Iw (eY e d (.frz od (.dK kvs))) A H1 n 0 S (i + 1), ct := Iw (eY e d (.frz od (.dK kvs))) A H1 n 0 S (i + 1), bk := fun σ' H' => H' d = some (.frz od (.dK kvs)) ∧ D.nx σ' (upd H' d (.dK kvs)), rt := fun v H' => H' d = some (.frz od (.dK kvs)) ∧ D.rt v (upd H' d (.dK kvs)) } σ2 H2)
    (hend : ∀ od σ' H', S kvs.length σ' H' → Cur (eY e d (.frz od (.dK kvs))) A H' n → Kp e.B H (upd H' d (.dK kvs)) → Cur (eY e d (.dK kvs)) A (upd H' d (.dK kvs)) n → D.nx σ' (upd H' d (.dK kvs))) : tLock (tFor (iKeys (tVar q)) g tb) D σ H := by
  refine ⟨d, .dK kvs, hd, True.intro, fun od => ⟨_, hv, d, od, rfl, .inl ⟨kvs, upd_same, ?_⟩⟩⟩
  have cu1 : Cur (eY e d (.frz od (.dK kvs))) A (upd H d (.frz od (.dK kvs))) n := (cu.own (hx := by simp) hd hA).put hB
  have w1 : Wl A H A (upd H d (.frz od (.dK kvs))) := .of (.lock hd (by simp)) fun a z => z ▸ hA
  refine for_it walk_keys (Iw (eY e d (.frz od (.dK kvs))) A (upd H d (.frz od (.dK kvs))) n 0 S) ⟨h0 od, .refl _, by rw [Nat.zero_mul]; exact cu1⟩ (fun i σ' H' _ p => p.cu.at) (fun i x σ' H' H'' hi p y => ?_) fun σ' H' p => ?_
  · obtain ⟨rfl, k, y, hk, rfl⟩ := y
    exact hst od _ i σ' _ k y w1 (fun H3 k3 => .back hd k3) hk p.s p.k (by simpa using p.cu)
  · have cu' : Cur (eY e d (.frz od (.dK kvs))) A H' n := by simpa using p.cu
    exact ⟨cu'.at, hend od σ' H' p.s cu' (.back hd p.k) (cu'.put hB)⟩
/-- for key in d, the keys tuples -/
theorem z_forT {tb : TS} {g : TG} {q : Nat} {d : Addr} {kvs : List (List Key × V)} (S : Nat → L2.St → Hp → Prop) (hv : σ[q]? = some (some (.ref d))) (hd : H d = some (.dT kvs)) (hA : A d) (hB : ¬ e.B d) (cu : Cur e A H n) (hn : n ≤ big) (h0 : ∀ od, S 0 σ (upd H d (.frz od (.dT kvs))))
    (hst : ∀ od H1 i σ' H' k y p, Wl A H A H1 → (∀ H3, Kp (eY e d (.frz od (.dT kvs))).B H1 H3 → Kp e.B H (upd H3 d (.dT kvs))) → kvs[i]? = some (k, y) → H' p = some (.tup (k.map kV)) → S i σ' H' → Kp (eY e d (.frz od (.dT kvs))).B H1 H' → Cur (eY e d (.frz od (.dT kvs))) A H' n →
      g (.ref p) σ' H' fun σ2 H2 => tb { nx := Iw (eY e d (.frz od (.dT kvs))) A H1 n 0 S (i + 1), ct := Iw (eY e d (.frz od (.dT kvs))) A H1 n 0 S (i + 1), bk := fun σ' H' => H' d = some (.frz od (.dT kvs)) ∧ D.nx σ' (upd H' d (.dT kvs)), rt := fun v H' => H' d = some (.frz od (.dT kvs)) ∧ D.rt v (upd H' d (.dT kvs)) } σ2 H2)
    (hend : ∀ od σ' H', S kvs.length σ' H' → Cur (eY e d (.frz od (.dT kvs))) A H' n → Kp e.B H (upd H' d (.dT kvs)) → Cur (eY e d (.dT kvs)) A (upd H' d (.dT kvs)) n → D.nx σ' (upd H' d (.dT kvs))) : tLock (tFor (iKeys (tVar q)) g tb) D σ H := by
  refine ⟨d, .dT kvs, hd, True.intro, fun od => ⟨_, hv, d, od, rfl, .inr ⟨kvs, upd_same, ?_⟩⟩⟩
  have cu1 : Cur (eY e d (.frz od (.dT kvs))) A (upd H d (.frz od (.dT kvs))) n := (cu.own (hx := by simp) hd hA).put hB
  have w1 : Wl A H A (upd H d (.frz od (.dT kvs))) := .of (.lock hd (by simp)) fun a z => z ▸ hA
  refine for_it walk_keysT (Iw (eY e d (.frz od (.dT kvs))) A (upd H d (.frz od (.dT kvs))) n 0 S) ⟨h0 od, .refl _, by rw [Nat.zero_mul]; exact cu1⟩ (fun i σ' H' _ p => p.cu.at) (fun i x σ' H' H'' hi p y => ?_) fun σ' H' p => ?_
  · obtain ⟨rfl, k, y, qq, hk, rfl, hq⟩ := y
    exact hst od _ i σ' _ k y qq w1 (fun H3 k3 => .back hd k3) hk hq p.s p.k (by simpa using p.cu)
  · have cu' : Cur (eY e d (.frz od (.dT kvs))) A H' n := by simpa using p.cu
    exact ⟨cu'.at, hend od σ' H' p.s cu' (.back hd p.k) (cu'.put hB)⟩
/-- key in d, d frozen or not -/
theorem em_dIn {d : Addr} {ms : List Nat} {f : Nat → V} {u : HO} {hx : ∀ φ, u ≠ .ext φ} (S : Sube (eX d u hx) e) (hu : u = .dK (kvm ki f ms) ∨ ∃ od, u = .frz od (.dK (kvm ki f ms))) (h : Em e c ta σ A H (da (nat m))) (h2 : Em e c1 tb σ A H (isv (.ref d))) (hm : ∀ k ∈ ms, k < 256) (hk : m < 256) : Em e (c + c1) (tDIn ta tb) σ A H (da (.bool (decide (m ∈ ms)))) := fun A' H' n w cu hn Q q =>
  h A' H' n w cu (by omega) _ fun y H2 k2 j2 p2 => h2 A' H2 (n + c) (w.trans (cu.wl k2)) (cu.aft k2 j2) (by omega) _ fun x H3 k3 j3 p3 => by
    obtain rfl := Rp.int_eq p2
    obtain rfl : x = .ref d := p3
    have hd : H3 d = some u := S.dn j3
    refine ⟨d, _, rfl, .inl ⟨_, ki m, hu.elim (fun z => .inl (z ▸ hd)) (fun ⟨od, z⟩ => .inr ⟨od, z ▸ hd⟩), rfl, rfl⟩, q _ H3 (k2.trans k3) (by rw [← Nat.add_assoc]; exact j3) ?_⟩
    rw [valV_kvm ki_inj hm hk]
    by_cases z : m ∈ ms
    · rw [if_pos z, decide_eq_true z]; exact .bl true
    · rw [if_neg z, decide_eq_false z]; exact .bl false
end
end SB
namespace SB
open PySem PySem.Spec PyProof.Rows L2
section
variable {e : Ef} {c c1 : Nat} {K : PySem.W.Frag} {mg : Str → Option Value} {ta tb te tl tk : TE} {tt tu : TT} {σ : L2.St} {A A' : As} {H H' : Hp} {Φ Ψ Θ : Pv} {ds es : List PyData} {d : PyData} {i j : Int} {a b : Bool} {v x : V} {D : Ends} {n m : Nat} {kn : Addr} {bs : List Nat} {E : XK}
theorem ev_lenD {kvs : List (Key × V)} (h : Em e 0 ta σ A H (dKv kvs)) : Em e 0 (tCB r_lenD (tCons ta tNil)) σ A H (da (nat kvs.length)) := em_lenD h
theorem ev_dIn {d : Addr} {ms : List Nat} {f : Nat → V} {u : HO} {hx : ∀ φ, u ≠ .ext φ} (S : Sube (eX d u hx) e) (hu : u = .dK (kvm ki f ms) ∨ ∃ od, u = .frz od (.dK (kvm ki f ms))) (h : Em e 0 ta σ A H (da (nat m))) (h2 : Em e 0 tb σ A H (isv (.ref d))) (hm : ∀ k ∈ ms, k < 256) (hk : m < 256) : Em e 0 (tDIn ta tb) σ A H (da (.bool (decide (m ∈ ms)))) := em_dIn S hu h h2 hm hk
/-- over a list of ints -/
theorem ev_lcN {j : Nat} {vs : List Nat} {l : List Nat} {g : Nat → PyData} (h : Em e 0 tl σ A H (da (.list (nts l)))) (hN : l.length ≤ 100000) (hw : ∀ x, wipe ((wipe σ vs).set j (some x)) vs = wipe σ vs)
    (he : ∀ b A1 H1, b ∈ l → Wl A H A1 H1 → Em e 0 te ((wipe σ vs).set j (some (.int (b : Int)))) A1 H1 (da (g b))) : Em e 0 (tLc (iList K tl) (gName j) tYes te vs) σ A H (da (.list (l.map g))) := by
  have := ev_lcD (g := fun i => g (l.getD i 0)) (vr_list (K := K) h) (by simpa using hN) hw fun i A1 H1 x hi w p => by
    have hi2 : i < l.length := by simpa using hi
    have p : Rp A1 H1 x ((nts l).getD i .none) := p
    rw [getN hi2] at p
    obtain rfl := Rp.int_eq p
    have e1 : l.getD i 0 = l[i] := by rw [List.getD_eq_getElem?_getD, List.getElem?_eq_getElem hi2]; rfl
    rw [e1]
    exact he _ A1 H1 (List.getElem_mem hi2) w
  have e2 : (List.range (nts l).length).map (fun i => g (l.getD i 0)) = l.map g := by
    apply List.ext_getElem
    · simp
    · intro i h1 h2
      simp [List.getElem_map] at h1 ⊢
      rw [List.getElem?_eq_getElem h1]
      rfl
  rw [e2] at this
  exact this
/-- what was new stays so -/
theorem Kp.newB {B : As} {H H0 H2 : Hp} (k : Kp no H H0) (k2 : Kp B H0 H2) (h : ∀ a, B a → H a = Option.none) : Kp no H H2 := ⟨fun a o _ e => k2.1 a o (fun q => by rw [h a q] at e; cases e) (k.1 a o id e), fun a e => k2.2 a (k.2 a e), fun a xs e => k2.3 a xs (k.3 a xs e)⟩
def r_isC (C : Addr) : List V → Hp → VK → Prop := fun xs H Q => ∃ a dx fs, xs = [.ref a, .ref C] ∧ H a = some (.ins C dx fs) ∧ Q (.bl true) H
theorem em_isC (h : Em e c ta σ A H (rc K kn bs)) : Em e c (tCB (r_isC (CR K)) (tCons ta (tCons (tC (.ref (CR K))) tNil))) σ A H (da (.bool true)) :=
  em_B2 (c2 := 0) h (em_c (Φ := isv (.ref (CR K))) rfl) fun A' H' x y _ p q => by
    obtain rfl : y = .ref (CR K) := q
    obtain ⟨r, dx, o, xs, ar, ab, rfl, _, h3, _⟩ := p
    exact rv_v (.bl true) (fun Q hq => ⟨r, dx, _, rfl, h3, hq⟩) (.bl true)
end
section
variable {K : PySem.W.Frag} {mg : Str → Option Value} {P : Program} {w : World} {base : Heap}
theorem mkMak (T : Tx K mg) {N ps : List Str} {k : Nat} {sp : Sp} (S : FnScope N ps (defScope (inClass (top 14) 0)))
    (hb : ∀ (kV doc pm : Value) (an : Option Addr) (cdv ct : Value) (us : List Value), us.length = ps.length → bindArgs (PySem.W.fnOf "__init__" "Recipe.__init__" (defArgs (inClass (top 14) 0)) (defBody (inClass (top 14) 0)) (defScope (inClass (top 14) 0)) .none kV doc pm an cdv ct) ⟨us, []⟩ = pure (ps.zip us))
    (len : ∀ vs H Q E, sp vs H Q E → vs.length = ps.length)
    (hbody : ∀ (f : Addr) (cdv : Value) (A : Around) (outer : List Env) (s : Shared) (H : Hp) (vs : List V) (Q : VK) (E : XK), Room k (A.deeper (envOfC "Recipe.__init__" (defScope (inClass (top 14) 0)) s.heap.objs.size f cdv)) → sp vs H Q E →
      ∃ t, PSs (cxOf CX0 P w K mg base N "Recipe.__init__" (defScope (inClass (top 14) 0)) f cdv A outer s H E).nox (defBody (inClass (top 14) 0)) t ∧ t { nx := fun _ H' => Q .non H', rt := Q } (start N vs) H) : C8.Mak P w K mg base (k + 1) "Recipe" (CR K) sp [] := by
  obtain ⟨fd, F⟩ := T.d.def_ 0 (rfl : fn[0]? = some dI)
  have G : FnOk P w K mg base CX0 (k + 1) (He.fAd K ("Recipe", some "__init__")) fd ps sp := FunD.ok F S len fun cdv A outer s H vs Q E hr h => by
    obtain ⟨t, q1, q2⟩ := hbody (He.fAd K ("Recipe", some "__init__")) cdv A outer s H vs Q E hr h
    exact ⟨t, q1.nox, q2⟩
  exact ⟨He.fAd K ("Recipe", some "__init__"), fd, ps, [], T.mkr, G, T.Recipe_, FunD.bindsN F hb, .nil⟩
theorem isCnt_nat (k : Nat) : isCnt (.int (k : Int)) = true := by
  show decide ((0 : Int) ≤ k) = true
  exact decide_eq_true (by omega)
/-! Recipe.__init__ -/
structure okR (old : Nat) (rows : List (List Nat)) : Prop where
  o : old ≤ 8
  n1 : 1 ≤ rows.length
  n7 : rows.length ≤ 7
  up : ∀ r ∈ rows, r.Pairwise (· < ·)
  lt : ∀ r ∈ rows, ∀ b ∈ r, b < old
abbrev rowsD (rows : List (List Nat)) : PyData := .list (rows.map fun r => .list (nts r))
abbrev bitsR (rows : List (List Nat)) : List Nat := rows.map bitsOf
theorem okR.b {old : Nat} {rows : List (List Nat)} (h : okR old rows) : okB (bitsR rows) where
  n1 := by rw [List.length_map]; exact h.n1
  n7 := by rw [List.length_map]; exact h.n7
  lt := fun b hb => by
    obtain ⟨r, hr, rfl⟩ := List.mem_map.mp hb
    exact bitsOf_lt (n := 8) fun x hx => by have := h.lt r hr x hx; have := h.o; omega
theorem okR.rl {old : Nat} {rows : List (List Nat)} (h : okR old rows) {r : List Nat} (hr : r ∈ rows) : r.length ≤ 8 := by
  have hn : r.Nodup := (h.up r hr).imp (fun q => by omega)
  exact nd_le hn fun b hb => by have := h.lt r hr b hb; have := h.o; omega
abbrev sp_init (K : PySem.W.Frag) : Sp := fun vs H Q _ => ∃ A x dx, ∃ old : Nat, ∃ rows v, vs = [.ref x, .int old, v] ∧ Lv A H ∧ A x ∧ H x = some (.ins (CR K) dx []) ∧ Rp A H v (rowsD rows) ∧ okR old rows ∧
  ∀ H2 kn ar ab xs, Kp (· = x) H H2 → H2 x = some (.ins (CR K) dx (rcF (.int old) ar ab kn)) → ¬ A ar → ¬ A ab → ¬ A kn → H kn = none → H2 ar = some (.lst xs) → xs.length = rows.length → H2 ab = some (.lst ((bitsR rows).map fun b : Nat => V.int b)) → H2 kn = some (.dK []) → Q .non H2
theorem rowsD_eqv (rows : List (List Nat)) (h : 1 ≤ rows.length) : PyData.eqv (rowsD rows) (.list []) = false := by
  cases rows with
  | nil => simp at h
  | cons r rows => simp [rowsD, PyData.eqv, PyData.eqvAll]
theorem lay_nts : ∀ l : List Nat, PyData.canLayAll0 (nts l) = true
  | [] => by simp [PyData.canLayAll0]
  | b :: l => by
    have := lay_nts l
    simp only [List.map_cons, PyData.canLayAll0, PyData.canLay0, Bool.true_and]
    exact this
theorem dep_nts : ∀ l : List Nat, PyData.depthAll (nts l) ≤ 1
  | [] => by simp [PyData.depthAll]
  | b :: l => by
    have : PyData.depthAll (l.map fun b : Nat => PyData.int (b : Int)) ≤ 1 := dep_nts l
    simp only [List.map_cons, PyData.depthAll, PyData.depth]
    omega
theorem lay_rows : ∀ l : List (List Nat), PyData.canLayAll0 (l.map fun r => .list (nts r)) = true
  | [] => by simp [PyData.canLayAll0]
  | b :: l => by
    have := lay_rows l
    have h2 := lay_nts b
    simp only [List.map_cons, PyData.canLayAll0, PyData.canLay0, Bool.and_eq_true]
    exact ⟨h2, this⟩
theorem dep_rows : ∀ l : List (List Nat), PyData.depthAll (l.map fun r => .list (nts r)) ≤ 3
  | [] => by simp [PyData.depthAll]
  | b :: l => by
    have := dep_rows l
    have h2 := dep_nts b
    simp only [List.map_cons, PyData.depthAll, PyData.depth]
    omega
theorem shaped_of {d : PyData} (h1 : d.canLay0 = true) (h2 : d.depth ≤ 64) : SeqAt.shaped d = true := by
  unfold SeqAt.shaped
  rw [h1, decide_eq_true h2]
  rfl
theorem shaped_nts (l : List Nat) : SeqAt.shaped (.list (nts l)) = true := shaped_of (by simp only [PyData.canLay0]; exact lay_nts l) (by have := dep_nts l; simp only [PyData.depth]; omega)
theorem shaped_rows (l : List (List Nat)) : SeqAt.shaped (rowsD l) = true := shaped_of (by simp only [PyData.canLay0]; exact lay_rows l) (by have := dep_rows l; simp only [PyData.depth]; omega)
theorem sFld_i {ta tv : TE} {f : Str} {D : Ends} {σ : L2.St} {H : Hp} {A : As} {Φ : Pv} {x dx : Addr} {fs : List (Str × V)} (T : Tx K mg) (hn : NoAttr K (CR K) f) (hv : Ev tv σ A H Φ) (lv : Lv A H) (hx : H x = some (.ins (CR K) dx fs)) (ht : ta = tVar 0) (h0 : σ[0]? = some (some (.ref x))) (hl : fs.length < 1000)
    (k : ∀ y H1, Kp no H H1 → Φ.p A H1 y → D.nx σ (upd H1 x (.ins (CR K) dx (putF f y fs)))) : sFld K ta tv f D σ H := by
  subst ht
  exact hv A H 0 (.refl _ _) (cur0 lv) (by decide) _ fun y H1 k1 _ p => ⟨_, h0, x, CR K, dx, fs, rfl, k1.1 x _ id hx, T.cls, hn, hl, k y H1 k1 p⟩
abbrev s_Recipe___init__ : Stmt := inClass (top 14) 0
abbrev N_Recipe___init__ : List Str := ["self", "many", "needs", "row"]
theorem sc_Recipe___init__ : FnScope N_Recipe___init__ ["self", "many", "needs"] (defScope s_Recipe___init__) := ⟨rfl, rfl, rfl, by decide +kernel, rfl, by decide +kernel, by decide +kernel⟩
theorem c_Recipe (T : Tx K mg) : C8.Mak P w K mg base 3 "Recipe" (CR K) (sp_init K) [] := by
  refine mkMak T sc_Recipe___init__ (fun _ _ _ _ _ _ us hl => match us, hl with | [_, _, _], _ => rfl) (fun vs H Q E h => ?_) (fun f cdv A outer s H vs Q E hr h => ?_)
  · obtain ⟨A, x, dx, old, rows, v, rfl, _⟩ := h
    rfl
  obtain ⟨A, x, dx, old, rows, v, rfl, lv, hA, hx, hv, ok, k⟩ := h
  have c_is_count := c_is_count (P := P) (w := w) (base := base) T
  have c_is_rising := c_is_rising (P := P) (w := w) (base := base) T
  have c_bits_of := c_bits_of (P := P) (w := w) (base := base) T
  refine ⟨_, (pss_cons (ps_if (pt_not (pt_val (C8.pe_c c_is_count hr (by decide) rfl (pa_cons (pv 1) pa_nil)))) pss_never pss_nil)
  (pss_cons (ps_if (PW.pt (pw_or (pt_not (pt_val (pe_callB (k_isi (K := K)) rfl T.isinstance_ bt_isinstance (pa_cons (pv 2) (pa_cons (pe_bltn (v := .ty "list") rfl T.list_ bt_list rfl) pa_nil))))) (pw_or (pt_cmpR (kop_eqD (K := K) (Room.units hr)) (pv 2) (pe_lst pa_nil) (nomark _)) (pw_or1 (pt_not (pt_val (pe_callB (k_all (K := K) rfl) rfl T.all_ bt_all (pa_cons (pe_lc (own := [("row", 3)]) rfl sc_Recipe___init__.nd (kpi_list (K := K) (pv 2)) (blkOk_by (own := [("row", 3)]) (N := N_Recipe___init__) (sc := defScope s_Recipe___init__) (by decide +kernel)) (fun _ _ _ _ _ => (pg_name (i := 3) sc_Recipe___init__.nd rfl (Or.inl rfl))) (fun _ _ _ _ _ => pts_nil) (fun _ _ _ _ _ => (C8.pe_c c_is_rising hr (by decide) rfl (pa_cons (pv 3) (pa_cons (pv 1) pa_nil))))) pa_nil)))))))) pss_never pss_nil)
  (pss_cons (ps_fld (pv 0) (pv 1) rfl)
  (pss_cons (ps_fld (pv 0) (pe_lc (own := [("row", 3)]) rfl sc_Recipe___init__.nd (kpi_list (K := K) (pv 2)) (blkOk_by (own := [("row", 3)]) (N := N_Recipe___init__) (sc := defScope s_Recipe___init__) (by decide +kernel)) (fun _ _ _ _ _ => (pg_name (i := 3) sc_Recipe___init__.nd rfl (Or.inl rfl))) (fun _ _ _ _ _ => pts_nil) (fun _ _ _ _ _ => (pe_callTy (k_list (K := K)) rfl T.list_ bt_list (pa_cons (pv 3) pa_nil)))) rfl)
  (pss_cons (ps_fld (pv 0) (pe_lc (own := [("row", 3)]) rfl sc_Recipe___init__.nd (kpi_list (K := K) (pv 2)) (blkOk_by (own := [("row", 3)]) (N := N_Recipe___init__) (sc := defScope s_Recipe___init__) (by decide +kernel)) (fun _ _ _ _ _ => (pg_name (i := 3) sc_Recipe___init__.nd rfl (Or.inl rfl))) (fun _ _ _ _ _ => pts_nil) (fun _ _ _ _ _ => (C8.pe_c c_bits_of hr (by decide) rfl (pa_cons (pv 3) pa_nil)))) rfl)
  (pss_one (ps_fld (pv 0) pe_dnewK rfl))))))), ?_⟩
  have ho : isCnt (.int (old : Int)) = true := isCnt_nat old
  refine p_if (T := (false = ·)) (vt_is (vt_not1 (vt_v (v_is_count (ev_var rfl (.int (old : Int)))))) (by rw [ho]; rfl)) lv (fun h => by cases h) fun _ H1 k1 lv1 => ?_
  have hv1 : Rp A H1 v (rowsD rows) := hv.up (.k0 k1)
  have hN : (rows.map fun r => PyData.list (nts r)).length ≤ 100000 := by rw [List.length_map]; have := ok.n7; omega
  refine p_if (T := (false = ·)) (vt_is (vt_or1 (vt_not1 (vt_v (ev_isLst (d := rowsD rows) (ev_var rfl hv1)))) fun _ => vt_or1 (b := false) (vt_B (ev_eqD (ev_var rfl hv1) (ev_lstD evd_nil (by decide)) (shaped_rows rows) (shaped_nts []))) fun _ => vt_is (vt_not1 (vt_v (ev_all (bs := (rows.map fun r => PyData.list (nts r)).map (isRis old))
    (ev_is (ev_lcL (f := fun d => .bool (isRis old d)) (ev_var rfl hv1) hN (fun x => rfl) fun d A1 H1 x hd w1 hx => v_is_rising (ev_var rfl hx) (ev_var rfl (.int (old : Int))) ?_) (congrArg PyData.list (map_bools _)))))) ?_) ?_) lv1 (fun h => by cases h) fun _ H2 k2 lv2 => ?_
  · obtain ⟨r, hr, rfl⟩ := List.mem_map.mp hd
    show (nts r).length ≤ 100000
    rw [List.length_map]
    have := ok.rl hr
    omega
  · have : ((rows.map fun r => PyData.list (nts r)).map (isRis old)).all id = true := by
      rw [List.map_map, List.all_map, List.all_eq_true]
      exact fun r hr => (isRis_nts old r).mpr ⟨ok.up r hr, ok.lt r hr⟩
    rw [this]
    rfl
  · rw [rowsD_eqv rows ok.n1]
    rfl
  have hx2 : H2 x = some (.ins (CR K) dx []) := (k1.trans k2).1 x _ id hx
  refine sFld_i (Φ := isv (.int (old : Int))) T T.no_old (ev_var rfl rfl) lv2 hx2 rfl rfl (by decide) fun y H3 k3 p3 => ?_
  obtain rfl : y = .int (old : Int) := p3
  have hx3 : H3 x = some (.ins (CR K) dx []) := k3.1 x _ id hx2
  have kx3 : Kp (· = x) H (upd H3 x (.ins (CR K) dx (putF "old" (.int (old : Int)) []))) := ((k1.trans k2).trans k3).any.trans (.mut rfl (by rw [hx3]; simp))
  have lv3 := lv.kp kx3
  have hv3 := hv.up (.of kx3 fun a q => q ▸ hA)
  refine sFld_i (Φ := lenL rows.length) T T.no_rows ((ev_lcA (Φ := fun i => da ((rows.map fun r => PyData.list (nts r)).getD i .none)) (vr_list (ev_var rfl hv3)) hN (fun x => rfl) fun i A1 H1 x hi w1 hx => ?_).imp fun A' H' y _ p => ?_) lv3 upd_same rfl rfl (show (1 : Nat) < 1000 by decide) fun y H4 k4 p4 => ?_
  · have hd : ∃ r, (rows.map fun r => PyData.list (nts r)).getD i .none = .list (nts r) := by
      rw [List.getD_eq_getElem?_getD, List.getElem?_eq_getElem hi, List.getElem_map]
      exact ⟨_, rfl⟩
    obtain ⟨r, hr⟩ := hd
    have hx : Rp A1 H1 x ((rows.map fun r => PyData.list (nts r)).getD i .none) := hx
    rw [hr] at hx ⊢
    exact ev_list (ev_var rfl hx)
  · obtain ⟨a, xs, rfl, h1, h2, h3⟩ := p
    refine ⟨a, xs, rfl, h1, h2, ?_⟩
    rw [← h3.length, List.length_range, List.length_map]
  obtain ⟨ar, xs, rfl, nar, har, hlen⟩ := p4
  have hx4 := k4.1 x _ id upd_same
  have kx4 : Kp (· = x) _ (upd H4 x (.ins (CR K) dx (putF "rows" (.ref ar) (putF "old" (.int (old : Int)) [])))) := k4.any.trans (.mut rfl (by rw [hx4]; simp))
  have lv4 := lv3.kp kx4
  have hv4 := hv3.up (.of kx4 fun a q => q ▸ hA)
  have nx : ar ≠ x := fun q => nar (q ▸ hA)
  refine sFld_i (Φ := da (.list (nts (bitsR rows)))) T T.no_bits (ev_is (ev_lcL (f := fun d => .int (match d with | .list ds => ((bitsOf (ds.map fun d => (iv d).toNat) : Nat) : Int) | _ => 0)) (ev_var rfl hv4) hN (fun x => rfl) fun d A1 H1 x hd w1 hx => ?_) ?_) lv4 upd_same rfl rfl (show (2 : Nat) < 1000 by decide) fun y H5 k5 p5 => ?_
  · obtain ⟨r, hr, rfl⟩ := List.mem_map.mp hd
    have e1 : (nts r).map (fun d => (iv d).toNat) = r := by
      rw [List.map_map]
      exact List.map_id' r
    show Em e0 0 _ _ A1 H1 (da (.int ((bitsOf ((nts r).map fun d => (iv d).toNat) : Nat) : Int)))
    rw [e1]
    exact v_bits_of (ev_var rfl hx) (by have := ok.rl hr; omega) fun b hb => by have := ok.lt r hr b hb; have := ok.o; omega
  · rw [List.map_map, bitsR, nts, List.map_map]
    congr 1
    refine List.map_congr_left fun r _ => ?_
    show PyData.int ((bitsOf ((nts r).map fun d => (iv d).toNat) : Nat) : Int) = _
    rw [show (nts r).map (fun d => (iv d).toNat) = r by rw [List.map_map]; exact List.map_id' r]
    rfl
  obtain ⟨ab, ys, rfl, nab, hab, rab⟩ := Rp.list_eq p5
  have hx5 := k5.1 x _ id upd_same
  have nx2 : ab ≠ x := fun q => nab (q ▸ hA)
  have kx5 : Kp (· = x) _ (upd H5 x (.ins (CR K) dx (putF "bits" (.ref ab) (putF "rows" (.ref ar) (putF "old" (.int (old : Int)) []))))) := k5.any.trans (.mut rfl (by rw [hx5]; simp))
  have lv5 := lv4.kp kx5
  intro p hp
  have hxp : x ≠ p := fun q => by rw [← q, upd_same] at hp; cases hp
  refine ⟨_, rfl, x, CR K, dx, putF "bits" (.ref ab) (putF "rows" (.ref ar) (putF "old" (.int (old : Int)) [])), rfl, by rw [upd_ne hxp]; exact upd_same, T.cls, T.no_known, (show (3 : Nat) < 1000 by decide), ?_⟩
  have hp5 : H5 p = none := by rwa [upd_ne (fun q : p = x => hxp q.symm)] at hp
  refine k _ p ar ab xs (((kx3.trans kx4).trans kx5).trans ((Kp.new hp).trans (.mut rfl (by rw [upd_ne hxp, upd_same]; simp)))) upd_same nar nab (lv5.fresh hp) (((kx3.trans kx4).trans kx5).none hp) ?_ hlen ?_ ?_
  · rw [upd_ne nx, upd_ne (fun q : ar = p => ?_), upd_ne nx]
    · exact k5.1 ar _ id (by rw [upd_ne nx]; exact har)
    · have := k5.1 ar _ id (show upd H4 x _ ar = _ by rw [upd_ne nx]; exact har)
      rw [q, hp5] at this
      cases this
  · rw [upd_ne nx2, upd_ne (fun q : ab = p => ?_), upd_ne nx2]
    · rw [hab]
      have rab : RpA A H5 ys ((bitsR rows).map fun b : Nat => PyData.int (b : Int)) := rab
      have : ys = (bitsR rows).map fun b : Nat => V.int (b : Int) := by
        have := RpA.ints_eq (A := A) (H := H5) (xs := ys) (ns := (bitsR rows).map fun b : Nat => (b : Int)) (by rw [List.map_map]; exact rab)
        rw [this, List.map_map]
        rfl
      rw [this]
    · rw [q, hp5] at hab
      cases hab
  · rw [upd_ne (fun q => hxp q.symm), upd_same]
end
end SB
namespace SB
open PySem PySem.Spec PyProof.Rows L2
/-! what a barrier is, by masks -/
def okL (bs : List Nat) (b : Int) (ms : List Nat) (m : Nat) : Bool :=
  decide ((held bs m : Int) ≤ b) && decide (pc m + 1 < bs.length) && ((out bs.length m).map fun x => decide (m ||| 2 ^ x ∈ ms) || decide ((held bs (m ||| 2 ^ x) : Int) > b)).all id
def closedB (bs : List Nat) (b : Int) (ms : List Nat) : Bool := ms.all (okL bs b ms) && (decide (0 ∈ ms) || decide ((held bs 0 : Int) > b))
/-- a list's mask -/
def mk : PyData → Nat
  | .list ds => bitsOf (ds.map fun d => (iv d).toNat)
  | _ => 0
def masks : PyData → List Nat
  | .list ds => ds.map mk
  | _ => []
def allRis (n : Int) : PyData → Bool
  | .list ds => (ds.map (isRis n)).all id
  | _ => false
def lotsOk (n : Nat) (d : PyData) : Bool := allRis n d && decide ((setOf (masks d)).length = (masks d).length)
def barsM (bs : List Nat) (b : Int) (d : PyData) : Bool := lotsOk bs.length d && closedB bs b (setOf (masks d))
/-- a list of lists that may be walked -/
def sm2 : PyData → Prop
  | .list ds => ds.length ≤ 100000 ∧ ∀ d ∈ ds, sml d
  | _ => True
theorem iv_nts (l : List Nat) : (nts l).map (fun d => (iv d).toNat) = l := by
  rw [List.map_map]
  exact List.map_id' l
theorem mk_nts (l : List Nat) : mk (.list (nts l)) = bitsOf l := by
  show bitsOf ((nts l).map fun d => (iv d).toNat) = _
  rw [iv_nts]
theorem mk_lot {m : Nat} (hm : m < 256) : mk (lot m) = m := by
  unfold lot
  rw [mk_nts, bitsOf_blk hm]
theorem allRis_lots {n : Nat} (hn : n ≤ 8) {ds : List PyData} (h : allRis n (.list ds) = true) : ∀ d ∈ ds, ∃ m, m < 2 ^ n ∧ d = lot m := fun d hd => by
  have h : ((ds.map (isRis n)).all id) = true := h
  rw [List.all_map, List.all_eq_true] at h
  exact (isRis_lot hn d).mp (h d hd)
section
variable {e : Ef} {c c1 : Nat} {K : PySem.W.Frag} {mg : Str → Option Value} {ta tb te tl tk : TE} {tt tu : TT} {σ : L2.St} {A A' : As} {H H' : Hp} {Φ Ψ Θ : Pv} {ds es : List PyData} {d : PyData} {i j : Int} {a b : Bool} {v x : V} {D : Ends} {n m : Nat} {kn : Addr} {bs : List Nat} {E : XK}
theorem ev_isC (h : Em e 0 ta σ A H (rc K kn bs)) : Em e 0 (tCB (r_isC (CR K)) (tCons ta (tCons (tC (.ref (CR K))) tNil))) σ A H (da (.bool true)) := em_isC h
/-- .. that is new since H0 -/
def rcNn (K : PySem.W.Frag) (H0 : Hp) (bs : List Nat) : Pv := ⟨fun A H v => ∃ kn, H0 kn = none ∧ ¬ A kn ∧ H kn = some (.dK []) ∧ (rc K kn bs).p A H v, fun w ⟨kn, h0, h1, h2, h3⟩ => ⟨kn, h0, (w.f kn _ h1 h2).1, (w.f kn _ h1 h2).2, (rc K kn bs).up w h3⟩, fun w ⟨kn, h0, h1, h2, h3⟩ => ⟨kn, h0, fun q => h1 (w kn q), h2, (rc K kn bs).dn w h3⟩⟩
/-- Recipe(old, rows) -/
theorem em_make {ta : TA} {old : Nat} {rows : List (List Nat)} (ok : okR old rows) (h : EmA e c ta σ A H [da (nat old), da (rowsD rows)]) : Em e c (tMake (CR K) (sp_init K) [] E ta) σ A H (rcNn K H (bitsR rows)) := fun A' H' n w cu hn Q q =>
  h A' H' n w cu hn _ fun vs H1 k1 j1 p => by
    obtain ⟨v1, v2, rfl, p1, p2⟩ := pvs2 p
    obtain rfl := Rp.int_eq p1
    have cu1 : Cur e A' H1 (n + c) := cu.aft k1 j1
    intro x dx hx hdx hne
    have hx2 : upd H1 dx (.own x) x = none := by rw [upd_ne (fun z => hne z.symm)]; exact hx
    have k0 : Kp no H1 (upd (upd H1 dx (.own x)) x (.ins (CR K) dx [])) := (Kp.new hdx).trans (.new hx2)
    have w0 : Wl A' H1 (Ad A' x) (upd (upd H1 dx (.own x)) x (.ins (CR K) dx [])) := ⟨k0.any, fun a z => Or.imp (fun q => q) (fun z2 : a = x => by rw [z2]; exact hx) z, fun a z => .inl z⟩
    refine ⟨Ad A' x, x, dx, old, rows, v2, rfl, fun a z => ?_, .inr rfl, upd_same, Rp.up w0 p2, ok, fun H2 kn ar ab xs kk hx3 na1 na2 na3 hk0 h1 h2 h3 h4 => ⟨rfl, ?_⟩⟩
    · by_cases y : a = x
      · subst y; rw [upd_same]; simp
      · exact k0.2 a (cu1.lv a (z.elim id fun z2 => absurd z2 y))
    · have kk2 : Kp no H1 H2 := k0.newB kk fun a z => by
        have z : a = x := z
        rw [z]; exact hx
      refine q (.ref x) H2 (k1.trans kk2.any) (cu1.keep kk2).j ⟨kn, w.kp.none (k1.none (k0.none hk0)), fun z => na3 (.inl z), h4, x, dx, .int (old : Int), xs, ar, ab, rfl, fun z => cu1.lv.fresh hx z, hx3, fun z => na1 (.inl z), h1, by rw [h2, List.length_map], fun z => na2 (.inl z), h3⟩
end
theorem k_isC {X : Cx} {C : Addr} (c : C8.InsC X.K C) : CallR X (.builtin "isinstance") (r_isC C) := C8.call_isC c
section
variable {K : PySem.W.Frag} {mg : Str → Option Value} {P : Program} {w : World} {base : Heap}
/-! held_in -/
abbrev sp_held_in (K : PySem.W.Frag) : Sp := Pk fun kn bs A H vs Θ => ∃ v, ∃ m : Nat, vs = [v, .int m] ∧ (rc K kn bs).p A H v ∧ m < 2 ^ bs.length ∧ Θ = da (nat (held bs m))
abbrev s_held_in : Stmt := top 19
abbrev N_held_in : List Str := ["recipe", "lot"]
theorem sc_held_in : FnScope N_held_in ["recipe", "lot"] (defScope s_held_in) := ⟨rfl, rfl, rfl, by decide +kernel, rfl, by decide +kernel, by decide +kernel⟩
theorem c_held_in (T : Tx K mg) : C8.Cal P w K mg base 2 "held_in" (sp_held_in K) [] := by
  refine mkCal T 9 15 rfl rfl sc_held_in (fun _ _ _ _ _ _ us hl => match us, hl with | [_, _], _ => rfl) (fun vs H Q E h => ?_) (fun f cdv A outer s H vs Q E hr h => ?_)
  · obtain ⟨_, _, _, _, _, _, _, ⟨_, _, _, _, _, v, m, rfl, _⟩, _⟩ := h
    rfl
  obtain ⟨e, A, n, c, Θ, cu, hn, ⟨rfl, kn, bs, rfl, ok, v, m, rfl, hv, hm, rfl⟩, k⟩ := h
  have c_size_of := c_size_of (P := P) (w := w) (base := base) T
  have c_needed_bits := c_needed_bits (P := P) (w := w) (base := base) T
  refine ⟨_, (pss_cons (ps_if (pt_cmp (pc_dnotin (u1 hr) (pv 1) (kpe_fld (K := K) (pv 0) rfl)) rfl) (pss_one (ps_dput (u1 hr) (kpe_fld (K := K) (pv 0) rfl) (pv 1) (pe_op op_add (C8.pe_c c_size_of hr (by decide) rfl (pa_cons (pv 1) pa_nil)) (C8.pe_c c_size_of hr (by decide) rfl (pa_cons (C8.pe_c c_needed_bits hr (by decide) rfl (pa_cons (pv 0) (pa_cons (pv 1) pa_nil))) pa_nil))) rfl)) pss_nil)
  (pss_one (ps_ret (pe_dget (u1 hr) (kpe_fld (K := K) (pv 0) rfl) (pv 1) (fun _ _ => rfl))))), ?_⟩
  have hm8 := ok.m hm
  have hv' := hv
  have hF : ∀ {A' H' Q}, Wl A H A' H' → Q (.ref kn) H' → tFld K (tVar 0) "known" [some v, some (.int (m : Int))] H' Q := fun {A' H' Q} w q => by
    obtain ⟨r, dx, o, xs, ar, ab, h1, h2, h3, _⟩ := (rc K kn bs).up w hv
    exact ⟨v, rfl, r, CR K, dx, _, _, h1, h3, T.cls, T.no_known, lk_known, q⟩
  obtain ⟨ms, nd, ml, hk⟩ := cu.j
  have ml8 : ∀ x ∈ ms, x < 256 := fun x h => ok.m (ml x h)
  have hval := valV_kvm (f := fun m => V.int (held bs m)) ki_inj ml8 hm8
  refine ⟨_, rfl, hF (.refl _ _) ⟨kn, _, rfl, .k (k := ki m) hk, _, rfl, ?_⟩⟩
  rw [hval]
  by_cases h : m ∈ ms
  · rw [if_pos h]
    show tDGet (tFld K (tVar 0) "known") (tVar 1) [some v, some (.int (m : Int))] H Q
    refine hF (.refl _ _) ⟨_, rfl, kn, .int (held bs m), rfl, ?_, k _ H (.refl _) cu.j (.int _)⟩
    have := DGet.k (k := ki m) hk
    rw [hval, if_pos h] at this
    exact this
  · rw [if_neg h]
    have hR : Ev (tOp (rI0 fun i j => V.int (i + j)) (tCall sp_size_of [] C8.E0 (tCons (tVar 1) tNil)) (tCall sp_size_of [] C8.E0 (tCons (tCall (sp_needed_bits K) [] C8.E0 (tCons (tVar 0) (tCons (tVar 1) tNil))) tNil))) [some v, some (.int (m : Int))] A H (da (nat (held bs m))) :=
      ev_is (ev_bin (v_size_of (ev_var rfl (.int (m : Int))) hm8) (v_size_of (v_needed_bits ok hm8 (ev_var rfl hv) (ev_var rfl (.int (m : Int)))) (need_lt ok.lt m))) rfl
    refine hR A H 0 (.refl _ _) (cur0 cu.lv) (by decide) _ fun y H1 k1 _ p1 => ?_
    obtain rfl := Rp.int_eq p1
    have w1 : Wl A H A H1 := .k0 k1
    have hk1 : H1 kn = some (.dK (kvm ki (fun m => .int (held bs m)) ms)) := k1.1 kn _ id hk
    have kp : Kp (eK kn bs).B H1 (upd H1 kn (.dK (putK (kvm ki (fun m => .int (held bs m)) ms) (ki m) (.int (held bs m))))) := .mut rfl (by rw [hk1]; simp)
    have cu2 : Wl A H A (upd H1 kn (.dK (putK (kvm ki (fun m => .int (held bs m)) ms) (ki m) (.int (held bs m))))) := w1.trans (.of kp cu.sub)
    refine hF w1 ⟨_, rfl, kn, _, rfl, .k (k := ki m) hk1 (sl5 ?_), ?_⟩
    · rw [kvm_len]
      have := nd_le nd ml
      have := ok.p
      omega
    show tDGet (tFld K (tVar 0) "known") (tVar 1) [some v, some (.int (m : Int))] _ Q
    refine hF cu2 ⟨_, rfl, kn, .int (held bs m), rfl, .inl ⟨_, ki m, .inl upd_same, rfl, ?_⟩, k _ _ (k1.any.trans kp) ?_ (.int _)⟩
    · rw [valV_put, if_pos rfl]
    · refine ⟨ms ++ [m], ?_, fun x hx => ?_, ?_⟩
      · have := ins_nd (k := m) nd
        unfold ins at this
        rwa [if_neg h] at this
      · rcases List.mem_append.mp hx with z | z
        · exact ml x z
        · rw [List.mem_singleton.mp z]; exact hm
      · rw [upd_same, putK_kvm (f := fun m => V.int (held bs m)) ki_inj ml8 hm8 h]
theorem v_held_in {e : Ef} {ta tb : TE} {σ : L2.St} {A : As} {H : Hp} {E : XK} {kn : Addr} {bs : List Nat} {m : Nat} (S : Sube (eK kn bs) e) (ok : okB bs) (hm : m < 2 ^ bs.length) (h : Em e 0 ta σ A H (rc K kn bs)) (h2 : Em e 0 tb σ A H (da (nat m))) : Em e 0 (tCall (sp_held_in K) [] E (tCons ta (tCons tb tNil))) σ A H (da (nat (held bs m))) :=
  em_pk (c1 := 0) S ok (eva_cons h (eva_cons h2 eva_nil)) fun A' H' vs w p => by
    obtain ⟨x, y, rfl, q, q2⟩ := pvs2 p
    obtain rfl := Rp.int_eq q2
    exact ⟨x, m, rfl, q, hm, rfl⟩
/-! checks -/
abbrev sp_check_recipe (K : PySem.W.Frag) : Sp := Pm fun A H vs Θ => ∃ v kn bs, vs = [v] ∧ (rc K kn bs).p A H v ∧ Θ = isv .non
abbrev s_check_recipe : Stmt := top 15
abbrev N_check_recipe : List Str := ["value"]
theorem sc_check_recipe : FnScope N_check_recipe ["value"] (defScope s_check_recipe) := ⟨rfl, rfl, rfl, by decide +kernel, rfl, by decide +kernel, by decide +kernel⟩
theorem c_check_recipe (T : Tx K mg) : C8.Cal P w K mg base 1 "check_recipe" (sp_check_recipe K) [] := by
  refine mkCal T 6 12 rfl rfl sc_check_recipe (fun _ _ _ _ _ _ us hl => match us, hl with | [_], _ => rfl) (fun vs H Q E h => ?_) (fun f cdv A outer s H vs Q E hr h => ?_)
  · obtain ⟨A, Θ, _, ⟨v, _, _, rfl, _⟩, _⟩ := h
    rfl
  obtain ⟨A, Θ, lv, ⟨v, kn, bs, rfl, hv, rfl⟩, k⟩ := h
  refine ⟨_, (pss_one (ps_if (pt_not (pt_val (pe_callB (k_isC T.insC) rfl T.isinstance_ bt_isinstance (pa_cons (pv 0) (pa_cons (pe_glob rfl T.Recipe_ (v := .ref (He.ga K "Recipe")) rfl) pa_nil))))) pss_never pss_nil)), ?_⟩
  exact p_if (T := (false = ·)) (vt_is (vt_not1 (vt_v (ev_isC (ev_var rfl hv)))) rfl) lv (fun h => by cases h) fun _ H1 k1 lv1 => k .non H1 k1 rfl
abbrev sp_check_bound : Sp := Pm fun A H vs Θ => ∃ b : Int, vs = [.int b] ∧ 0 ≤ b ∧ Θ = isv .non
abbrev s_check_bound : Stmt := top 22
abbrev N_check_bound : List Str := ["value"]
theorem sc_check_bound : FnScope N_check_bound ["value"] (defScope s_check_bound) := ⟨rfl, rfl, rfl, by decide +kernel, rfl, by decide +kernel, by decide +kernel⟩
theorem c_check_bound (T : Tx K mg) : C8.Cal P w K mg base 2 "check_bound" sp_check_bound [] := by
  refine mkCal T 12 18 rfl rfl sc_check_bound (fun _ _ _ _ _ _ us hl => match us, hl with | [_], _ => rfl) (fun vs H Q E h => ?_) (fun f cdv A outer s H vs Q E hr h => ?_)
  · obtain ⟨A, Θ, _, ⟨v, rfl, _⟩, _⟩ := h
    rfl
  obtain ⟨A, Θ, lv, ⟨b, rfl, hb, rfl⟩, k⟩ := h
  have c_is_count := c_is_count (P := P) (w := w) (base := base) T
  refine ⟨_, (pss_one (ps_if (pt_not (pt_val (C8.pe_c c_is_count hr (by decide) rfl (pa_cons (pv 0) pa_nil)))) pss_never pss_nil)), ?_⟩
  have hc : isCnt (.int b) = true := decide_eq_true hb
  exact p_if (T := (false = ·)) (vt_is (vt_not1 (vt_v (v_is_count (ev_var rfl (.int b))))) (by rw [hc]; rfl)) lv (fun h => by cases h) fun _ H1 k1 lv1 => k .non H1 k1 rfl
abbrev sp_check_bounded (K : PySem.W.Frag) : Sp := Pm fun A H vs Θ => ∃ v kn bs, ∃ b : Int, vs = [v, .int b] ∧ (rc K kn bs).p A H v ∧ 0 ≤ b ∧ Θ = isv .non
abbrev s_check_bounded : Stmt := top 30
abbrev N_check_bounded : List Str := ["recipe", "bound"]
theorem sc_check_bounded : FnScope N_check_bounded ["recipe", "bound"] (defScope s_check_bounded) := ⟨rfl, rfl, rfl, by decide +kernel, rfl, by decide +kernel, by decide +kernel⟩
theorem c_check_bounded (T : Tx K mg) : C8.Cal P w K mg base 3 "check_bounded" (sp_check_bounded K) [] := by
  refine mkCal T 18 24 rfl rfl sc_check_bounded (fun _ _ _ _ _ _ us hl => match us, hl with | [_, _], _ => rfl) (fun vs H Q E h => ?_) (fun f cdv A outer s H vs Q E hr h => ?_)
  · obtain ⟨A, Θ, _, ⟨v, _, _, _, rfl, _⟩, _⟩ := h
    rfl
  obtain ⟨A, Θ, lv, ⟨v, kn, bs, b, rfl, hv, hb, rfl⟩, k⟩ := h
  have c_check_recipe := c_check_recipe (P := P) (w := w) (base := base) T
  have c_check_bound := c_check_bound (P := P) (w := w) (base := base) T
  refine ⟨_, (pss_cons (ps_expr (C8.pe_c c_check_recipe hr (by decide) rfl (pa_cons (pv 0) pa_nil)))
  (pss_one (ps_expr (C8.pe_c c_check_bound hr (by decide) rfl (pa_cons (pv 1) pa_nil))))), ?_⟩
  refine p_drop (Φ := isv .non) (ev_pm (eva_cons (ev_var rfl hv) eva_nil) fun A' H' vs w p => ?_) lv fun v1 H1 k1 lv1 p1 => ?_
  · obtain ⟨x, rfl, q⟩ := pvs1 p
    exact ⟨x, kn, bs, rfl, q, rfl⟩
  refine p_drop (Φ := isv .non) (ev_pm (Φs := [da (.int b)]) (eva_cons (ev_var rfl (.int b)) eva_nil) fun A' H' vs w p => ?_) lv1 fun v2 H2 k2 lv2 p2 => k .non H2 (k1.trans k2) rfl
  obtain ⟨x, rfl, q⟩ := pvs1 p
  obtain rfl := Rp.int_eq q
  exact ⟨b, rfl, hb, rfl⟩
theorem v_check_bounded {e : Ef} {ta tb : TE} {σ : L2.St} {A : As} {H : Hp} {E : XK} {kn : Addr} {bs : List Nat} {b : Int} (hb : 0 ≤ b) (h : Em e 0 ta σ A H (rc K kn bs)) (h2 : Em e 0 tb σ A H (da (.int b))) : Em e 0 (tCall (sp_check_bounded K) [] E (tCons ta (tCons tb tNil))) σ A H (isv .non) :=
  em_pm (c := 0) (eva_cons h (eva_cons h2 eva_nil)) fun A' H' vs w p => by
    obtain ⟨x, y, rfl, q, q2⟩ := pvs2 p
    obtain rfl := Rp.int_eq q2
    exact ⟨x, kn, bs, b, rfl, q, hb, rfl⟩
/-! are_lots_of -/
abbrev sp_are_lots_of (K : PySem.W.Frag) : Sp := Pm fun A H vs Θ => ∃ v x kn bs d, vs = [v, x] ∧ (rc K kn bs).p A H v ∧ okB bs ∧ Rp A H x d ∧ sm2 d ∧ Θ = da (.bool (lotsOk bs.length d))
theorem lot_len (m : Nat) : (nts (blk m)).length ≤ 8 := by
  rw [List.length_map]
  exact pc_le m
abbrev s_are_lots_of : Stmt := top 31
abbrev N_are_lots_of : List Str := ["recipe", "value", "lot"]
theorem sc_are_lots_of : FnScope N_are_lots_of ["recipe", "value"] (defScope s_are_lots_of) := ⟨rfl, rfl, rfl, by decide +kernel, rfl, by decide +kernel, by decide +kernel⟩
theorem c_are_lots_of (T : Tx K mg) : C8.Cal P w K mg base 4 "are_lots_of" (sp_are_lots_of K) [] := by
  refine mkCal T 19 25 rfl rfl sc_are_lots_of (fun _ _ _ _ _ _ us hl => match us, hl with | [_, _], _ => rfl) (fun vs H Q E h => ?_) (fun f cdv A outer s H vs Q E hr h => ?_)
  · obtain ⟨A, Θ, _, ⟨v, _, _, _, _, rfl, _⟩, _⟩ := h
    rfl
  obtain ⟨A, Θ, lv, ⟨v, x, kn, bs, d, rfl, hv, ok, hx, hs, rfl⟩, k⟩ := h
  have c_is_lot_of := c_is_lot_of (P := P) (w := w) (base := base) T
  have c_bits_of := c_bits_of (P := P) (w := w) (base := base) T
  refine ⟨_, (pss_cons (ps_if (PW.pt (pw_or (pt_not (pt_val (pe_callB (k_isi (K := K)) rfl T.isinstance_ bt_isinstance (pa_cons (pv 1) (pa_cons (pe_bltn (v := .ty "list") rfl T.list_ bt_list rfl) pa_nil))))) (pw_or1 (pt_not (pt_val (pe_callB (k_all (K := K) rfl) rfl T.all_ bt_all (pa_cons (pe_lc (own := [("lot", 2)]) rfl sc_are_lots_of.nd (kpi_list (K := K) (pv 1)) (blkOk_by (own := [("lot", 2)]) (N := N_are_lots_of) (sc := defScope s_are_lots_of) (by decide +kernel)) (fun _ _ _ _ _ => (pg_name (i := 2) sc_are_lots_of.nd rfl (Or.inl rfl))) (fun _ _ _ _ _ => pts_nil) (fun _ _ _ _ _ => (C8.pe_c c_is_lot_of hr (by decide) rfl (pa_cons (pv 0) (pa_cons (pv 2) pa_nil))))) pa_nil))))))) (pss_one (ps_ret pe_bl)) pss_nil)
  (pss_one (ps_ret (pe_cmpR op_eq (pe_callB (k_lenD) rfl T.len_ bt_len (pa_cons (pe_dc (own := [("lot", 2)]) rfl sc_are_lots_of.nd (kpi_list (K := K) (pv 1)) (blkOk_by (own := [("lot", 2)]) (N := N_are_lots_of) (sc := defScope s_are_lots_of) (by decide +kernel)) (fun _ _ _ _ _ => (pg_name (i := 2) sc_are_lots_of.nd rfl (Or.inl rfl))) (fun _ _ _ _ _ => pts_nil) (fun _ _ _ _ _ => (C8.pe_c c_bits_of hr (by decide) rfl (pa_cons (pv 2) pa_nil))) (fun _ _ _ _ _ => pe_bl)) pa_nil)) (pe_callB (k_len (K := K)) rfl T.len_ bt_len (pa_cons (pv 1) pa_nil)) (nomark _))))), ?_⟩
  refine p_if (T := ((!isLst d || !allRis bs.length d) = ·)) (vt_or1 (b := !allRis bs.length d) (vt_not1 (vt_v (ev_isLst (ev_var rfl hx)))) fun h1 => vt_not1 (b := allRis bs.length d) (vt_v ?_)) lv (fun h1 H1 k1 lv1 => ?_) (fun h1 H1 k1 lv1 => ?_)
  · obtain ⟨ds, rfl⟩ := isLst_eq (d := d) (by simpa using h1)
    refine ev_all (bs := ds.map (isRis bs.length)) (ev_is (ev_lcL (f := fun d => .bool (isRis bs.length d)) (ev_var rfl hx) hs.1 (fun x => rfl) fun d A1 H1 x hd w1 hx => v_is_lot_of (hs.2 d hd) (ev_var rfl ((rc K kn bs).up w1 hv)) (ev_var rfl hx)) (congrArg PyData.list (map_bools _)))
  · refine p_ret ev_bl lv1 fun v H2 k2 p => k v H2 (k1.trans k2) ?_
    have : lotsOk bs.length d = false := by
      unfold lotsOk
      cases d with
      | list ds =>
        have : allRis bs.length (.list ds) = false := by simpa only [isLst, Bool.not_true, Bool.false_or, Bool.not_eq_true'] using h1
        rw [this, Bool.false_and]
      | _ => rfl
    rw [this]
    exact p
  · have h2 : isLst d = true ∧ allRis bs.length d = true := by simpa using h1
    obtain ⟨ds, rfl⟩ := isLst_eq h2.1
    have hl := allRis_lots (by have := ok.n7; omega) h2.2
    have hx1 := hx.up (.k0 k1)
    have hs1 : ds.length ≤ 100000 := hs.1
    refine p_ret (Φ := da (.bool (decide ((setOf (ds.map mk)).length = ds.length)))) (ev_is (ev_eqI (ev_lenD (ev_dcL (f := mk) (ev_var rfl hx1) hs.1 (fun x => rfl) (fun d hd => ?_) fun d A1 H1 x hd w1 hx => ?_)) (ev_len (ev_var rfl hx1))) ?_) lv1 fun v H2 k2 p => k v H2 (k1.trans k2) ?_
    · obtain ⟨m, hm, rfl⟩ := hl d hd
      rw [mk_lot (ok.m hm)]
      exact ok.m hm
    · obtain ⟨m, hm, rfl⟩ := hl d hd
      rw [show mk (lot m) = bitsOf (blk m) from mk_nts _]
      exact v_bits_of (ev_var rfl hx) (by have := pc_le m; unfold pc at this; omega) fun b hb => by have := blk_lt hb; omega
    · rw [kvm_len]
      congr 1
      by_cases z : (setOf (ds.map mk)).length = ds.length
      · rw [decide_eq_true z, decide_eq_true (by omega)]
      · rw [decide_eq_false z, decide_eq_false (by omega)]
    · have : lotsOk bs.length (.list ds) = decide ((setOf (ds.map mk)).length = ds.length) := by
        unfold lotsOk
        rw [h2.2, Bool.true_and]
        show decide ((setOf (ds.map mk)).length = (ds.map mk).length) = _
        rw [List.length_map]
      rw [this]
      exact p
theorem v_are_lots_of {e : Ef} {ta tb : TE} {σ : L2.St} {A : As} {H : Hp} {E : XK} {kn : Addr} {bs : List Nat} {d : PyData} (ok : okB bs) (hs : sm2 d) (h : Em e 0 ta σ A H (rc K kn bs)) (h2 : Em e 0 tb σ A H (da d)) : Em e 0 (tCall (sp_are_lots_of K) [] E (tCons ta (tCons tb tNil))) σ A H (da (.bool (lotsOk bs.length d))) :=
  em_pm (c := 0) (eva_cons h (eva_cons h2 eva_nil)) fun A' H' vs w p => by
    obtain ⟨x, y, rfl, q, q2⟩ := pvs2 p
    exact ⟨x, y, kn, bs, d, rfl, q, ok, q2, hs, rfl⟩
end
end SB
namespace SB
open PySem PySem.Spec PyProof.Rows L2
theorem or_lt2 {n m x : Nat} (hm : m < 2 ^ n) (hx : x < n) : m ||| 2 ^ x < 2 ^ n := or_lt hm (pow_lt8 hx)
theorem Kp.rid {e : Ef} {d : Addr} {u : HO} {hx : ∀ φ, u ≠ .ext φ} {H H' : Hp} (k : Kp (eY e d u hx).B H H') (h : H d = some u) (h' : H' d = some u) : Kp e.B H H' := ⟨fun a o n q => by
  by_cases z : a = d
  · subst z; rw [h', ← h]; exact q
  · exact k.1 a o (fun y => y.elim n z) q, k.2, k.3⟩
theorem kvm_at {κ : Type} {key : Nat → κ} {f : Nat → V} {ms : List Nat} {i : Nat} {k : κ} {y : V} (h : (kvm key f ms)[i]? = some (k, y)) : ∃ m, ms[i]? = some m ∧ m ∈ ms ∧ k = key m ∧ y = f m := by
  unfold kvm at h
  rw [List.getElem?_map] at h
  cases q : ms[i]? with
  | none => rw [q] at h; cases h
  | some m =>
    rw [q] at h
    cases h
    exact ⟨m, rfl, List.mem_of_getElem? q, rfl, rfl⟩
theorem Cur.ad {e : Ef} {A : As} {H : Hp} {n : Nat} {d : Addr} {u : HO} (cu : Cur e A H n) (hd : H d = some u) : Cur e (Ad A d) H n := ⟨fun a q => .inl (cu.sub a q), fun a q => by
  by_cases z : a = d
  · rw [z, hd]; simp
  · exact q.elim (cu.lv a) fun y => absurd y z, cu.j⟩
/-- a recipe, one more thing left out -/
theorem rc_ad {K : PySem.W.Frag} {kn d : Addr} {bs : List Nat} {A : As} {H : Hp} {v : V} {u : HO} (h : (rc K kn bs).p A H v) (hk : H d = some u) (h1 : ∀ C dx fs, u ≠ .ins C dx fs) (h2 : ∀ xs, u ≠ .lst xs) : (rc K kn bs).p (Ad A d) H v := by
  obtain ⟨r, dx, o, xs, ar, ab, q1, q2, q3, q4, q5, q6, q7, q8⟩ := h
  exact ⟨r, dx, o, xs, ar, ab, q1, ad_not q2 q3 hk fun z => h1 _ _ _ z.symm, q3, ad_not q4 q5 hk fun z => h2 _ z.symm, q5, q6, ad_not q7 q8 hk fun z => h2 _ z.symm, q8⟩
section
variable {K : PySem.W.Frag} {mg : Str → Option Value} {P : Program} {w : World} {base : Heap}
abbrev sp_is_closed (K : PySem.W.Frag) : Sp := Pk fun kn bs A H vs Θ => ∃ v x ms, ∃ b : Int, vs = [v, .int b, x] ∧ (rc K kn bs).p A H v ∧ (dKv (kvm ki yes ms)).p A H x ∧ (∀ m ∈ ms, m < 2 ^ bs.length) ∧ Θ = da (.bool (closedB bs b ms))
abbrev s_is_closed : Stmt := top 32
abbrev N_is_closed : List Str := ["recipe", "bound", "lots", "lot", "wider", "block", "late"]
theorem sc_is_closed : FnScope N_is_closed ["recipe", "bound", "lots"] (defScope s_is_closed) := ⟨rfl, rfl, rfl, by decide +kernel, rfl, by decide +kernel, by decide +kernel⟩
theorem c_is_closed (T : Tx K mg) : C8.Cal P w K mg base 3 "is_closed" (sp_is_closed K) [] := by
  refine mkCal T 20 26 rfl rfl sc_is_closed (fun _ _ _ _ _ _ us hl => match us, hl with | [_, _, _], _ => rfl) (fun vs H Q E h => ?_) (fun f cdv A outer s H vs Q E hr h => ?_)
  · obtain ⟨_, _, _, _, _, _, _, ⟨_, _, _, _, _, v, x, ms, b, rfl, _⟩, _⟩ := h
    rfl
  obtain ⟨e, A, n, c, Θ, cu, hn, ⟨rfl, kn, bs, rfl, ok, v, x, ms, b, rfl, hv, hx, hms, rfl⟩, k⟩ := h
  have c_held_in := c_held_in (P := P) (w := w) (base := base) T
  have c_lacks_more := c_lacks_more (P := P) (w := w) (base := base) T
  have c_outside := c_outside (P := P) (w := w) (base := base) T
  refine ⟨_, (pss_cons (ps_lock (ps_for PassesOwn.never rfl (pi_keys (pv 2)) (pg_name (i := 3) sc_is_closed.nd rfl (Or.inr rfl)) (pss_cons (ps_if (PW.pt (pw_or (pt_cmpR op_gt (C8.pe_c c_held_in hr (by decide) rfl (pa_cons (pv 0) (pa_cons (pv 3) pa_nil))) (pv 1) (nomark _)) (pw_or1 (pt_not (pt_val (C8.pe_c c_lacks_more hr (by decide) rfl (pa_cons (pv 0) (pa_cons (pv 3) pa_nil)))))))) (pss_one (ps_ret pe_bl)) pss_nil)
  (pss_cons (ps_setLc (i := 4) (own := [("block", 5)]) rfl sc_is_closed.nd rfl rfl (sw_true rfl rfl rfl (by decide +kernel)) (kpi_list (K := K) (C8.pe_c c_outside hr (by decide) rfl (pa_cons (pv 0) (pa_cons (pv 3) pa_nil)))) (blkOk_by (own := [("block", 5)]) (N := N_is_closed) (sc := defScope s_is_closed) (by decide +kernel)) (fun _ _ _ _ _ => (pg_name (i := 5) sc_is_closed.nd rfl (Or.inl rfl))) (fun _ _ _ _ _ => pts_nil) (fun _ _ _ _ _ => (pe_op op_or (pv 3) (pe_op op_shl pe_int (pv 5)))))
  (pss_one (ps_if (pt_not (pt_val (pe_callB (k_all (K := K) rfl) rfl T.all_ bt_all (pa_cons (pe_lc (own := [("late", 6)]) rfl sc_is_closed.nd (kpi_list (K := K) (pv 4)) (blkOk_by (own := [("late", 6)]) (N := N_is_closed) (sc := defScope s_is_closed) (by decide +kernel)) (fun _ _ _ _ _ => (pg_name (i := 6) sc_is_closed.nd rfl (Or.inl rfl))) (fun _ _ _ _ _ => pts_nil) (fun _ _ _ _ _ => (pe_or (pe_cmp (pc_din (u1 hr) (pv 6) (pv 2)) rfl) (pe_one (pe_cmpR op_gt (C8.pe_c c_held_in hr (by decide) rfl (pa_cons (pv 0) (pa_cons (pv 6) pa_nil))) (pv 1) (nomark _)))))) pa_nil)))) (pss_one (ps_ret pe_bl)) pss_nil))))))
  (pss_one (ps_ret (pe_or (pe_cmp (pc_din (u1 hr) pe_int (pv 2)) rfl) (pe_one (pe_cmpR op_gt (C8.pe_c c_held_in hr (by decide) rfl (pa_cons (pv 0) (pa_cons pe_int pa_nil))) (pv 1) (nomark _))))))), ?_⟩
  obtain ⟨d, rfl, hdA, hd⟩ := hx
  have hB : ¬ (eK kn bs).B d := fun z => hdA (cu.sub d z)
  have hv2 : (rc K kn bs).p (Ad A d) H v := rc_ad hv hd (by simp) (by simp)
  have ms8 : ∀ m ∈ ms, m < 256 := fun m h => ok.m (hms m h)
  refine z_forK (A := Ad A d) (n := n) (fun i σ' H' => ∃ x y, σ' = [some v, some (.int b), some (.ref d), x, y, none, none] ∧ ∀ j, j < i → ∀ m, ms[j]? = some m → okL bs b ms m = true) rfl hd (.inr rfl) hB (cu.ad hd) hn (fun _ => ⟨none, none, rfl, fun j hj => absurd hj (Nat.not_lt_zero j)⟩)
    (fun od H1 i σ' H' key y w1 kb hk ⟨x3, x4, hσ, hall⟩ k1 cu1 => ?_) (fun od σ' H' ⟨x3, x4, hσ, hall⟩ cu1 kB cu2 => ?_)
  · obtain ⟨m, hmi, hmem, rfl, rfl⟩ := kvm_at hk
    subst hσ
    have hm := hms m hmem
    have hm8 := ms8 m hmem
    have S1 : Sube (eK kn bs) (eY (eK kn bs) d (.frz od (.dK (kvm ki yes ms)))) := .oy hB
    have S2 : Sube (eX d (.frz od (.dK (kvm ki yes ms))) (by simp)) (eY (eK kn bs) d (.frz od (.dK (kvm ki yes ms)))) := .ox hB
    have hr1 := (rc K kn bs).up (w1.trans (.of k1 cu1.sub)) hv2
    have fin : okL bs b ms m = false → ∀ v H3, Cur (eY (eK kn bs) d (.frz od (.dK (kvm ki yes ms)))) (Ad A d) H3 n → Kp (eY (eK kn bs) d (.frz od (.dK (kvm ki yes ms)))).B H1 H3 → (da (.bool false)).p (Ad A d) H3 v → Q v (upd H3 d (.dK (kvm ki yes ms))) := fun ho v H3 cu3 k3 p3 => by
      refine k v _ (kb H3 k3) (cu3.put (f := .dK (kvm ki yes ms)) (hf := by simp) hB).j.1 ?_
      have : closedB bs b ms = false := by
        unfold closedB
        have : ms.all (okL bs b ms) = false := by
          rw [List.all_eq_false]
          exact ⟨m, hmem, by rw [ho]; simp⟩
        rw [this, Bool.false_and]
      rw [this]
      rw [Rp.bl_eq p3]
      exact .bl false
    show tSeq _ _ _ _ H'
    refine z_if (T := ((decide ((held bs m : Int) > b) || !decide (pc m + 1 < bs.length)) = ·)) (vt_or1 (vt_B (ev_cmp (v_held_in S1 ok hm (ev_var rfl hr1) (ev_var rfl (.int (m : Int)))) (ev_var rfl (.int b)))) fun _ => vt_not1 (vt_v (v_lacks_more hm8 (ev_var rfl hr1) (ev_var rfl (.int (m : Int)))))) cu1 hn (fun h1 H2 k2 cu2 => ?_) (fun h1 H2 k2 cu2 => ?_)
    · refine z_ret (Φ := da (.bool false)) ev_bl cu2 hn fun v3 H3 k3 j3 p3 => ?_
      have cu3 := cu2.aft k3 j3
      refine ⟨cu3.at, fin ?_ v3 H3 cu3 ((k1.trans k2).trans k3) p3⟩
      unfold okL
      rcases (Bool.or_eq_true _ _).mp h1 with z | z
      · have z := of_decide_eq_true z
        rw [decide_eq_false (by omega), Bool.false_and, Bool.false_and]
      · have z : decide (pc m + 1 < bs.length) = false := by simpa using z
        rw [z, Bool.and_false, Bool.false_and]
    have hr2 := (rc K kn bs).up (w1.trans (.of (k1.trans k2) cu1.sub)) hv2
    refine z_asg (Φ := da (.list (nts ((out bs.length m).map fun x => m ||| 2 ^ x)))) (ev_is (ev_lcN (g := fun x => nat (m ||| 2 ^ x)) (v_outside ok hm (ev_var rfl hr2) (ev_var rfl (.int (m : Int)))) ?_ (fun x => rfl) fun x A1 H1 hx w => ev_is (ev_bin (ev_var rfl (.int (m : Int))) (ev_shl1 (ev_var rfl (.int (x : Int))) ?_)) ?_) ?_) cu2 hn fun v4 H3 k3 cu3 p3 => ?_
    · have := List.length_filter_le (fun b => !m.testBit b) (List.range bs.length)
      rw [List.length_range] at this
      have h7 := ok.n7
      unfold out
      omega
    · have := (out_mem.mp hx).1
      have h7 := ok.n7
      omega
    · exact congrArg PyData.int (bit_or m (2 ^ x))
    · unfold nts
      rw [List.map_map]; rfl
    have hr3 := (rc K kn bs).up (w1.trans (.of ((k1.trans k2).trans k3) cu1.sub)) hv2
    refine z_if (T := ((!(((out bs.length m).map fun x => m ||| 2 ^ x).map fun late => decide (late ∈ ms) || decide ((held bs late : Int) > b)).all id) = ·)) (vt_not1 (vt_v (ev_all (ev_is (ev_lcN (g := fun late => .bool (decide (late ∈ ms) || decide ((held bs late : Int) > b))) (ev_var rfl p3) ?_ (fun x => rfl) fun late A1 H1 hl w => ev_orV (ev_dIn S2 (.inr ⟨od, rfl⟩) (ev_var rfl (.int (late : Int))) (ev_var rfl rfl) ms8 ?_) fun _ => ev_cmp (v_held_in S1 ok ?_ (ev_var rfl ((rc K kn bs).up w hr3)) (ev_var rfl (.int (late : Int)))) (ev_var rfl (.int b))) ?_)))) cu3 hn (fun h2 H4 k4 cu4 => ?_) (fun h2 H4 k4 cu4 => ?_)
    · rw [List.length_map]
      have := List.length_filter_le (fun b => !m.testBit b) (List.range bs.length)
      rw [List.length_range] at this
      have h7 := ok.n7
      unfold out
      omega
    · obtain ⟨x, hx, rfl⟩ := List.mem_map.mp hl
      exact ok.m (or_lt2 hm (out_mem.mp hx).1)
    · obtain ⟨x, hx, rfl⟩ := List.mem_map.mp hl
      exact or_lt2 hm (out_mem.mp hx).1
    · simp only [List.map_map]
      rfl
    · refine z_ret (Φ := da (.bool false)) ev_bl cu4 hn fun v3 H5 k5 j5 p5 => ?_
      have cu5 := cu4.aft k5 j5
      refine ⟨cu5.at, fin ?_ v3 H5 cu5 ((((k1.trans k2).trans k3).trans k4).trans k5) p5⟩
      unfold okL
      rw [List.map_map] at h2
      have h2 : ((out bs.length m).map ((fun late => decide (late ∈ ms) || decide ((held bs late : Int) > b)) ∘ fun x => m ||| 2 ^ x)).all id = false := by simpa only [Bool.not_eq_true'] using h2
      rw [show ((out bs.length m).map fun x => decide (m ||| 2 ^ x ∈ ms) || decide ((held bs (m ||| 2 ^ x) : Int) > b)).all id = false from h2, Bool.and_false]
    · refine Iw.z ?_ (((k1.trans k2).trans k3).trans k4) cu4
      refine ⟨some (.int (m : Int)), some v4, rfl, fun j hj m2 hj2 => ?_⟩
      by_cases z : j < i
      · exact hall j z m2 hj2
      · have : j = i := by omega
        subst this
        rw [hmi] at hj2
        cases hj2
        unfold okL
        rw [List.map_map] at h2
        have h2 : ((out bs.length m).map fun x => decide (m ||| 2 ^ x ∈ ms) || decide ((held bs (m ||| 2 ^ x) : Int) > b)).all id = true := by
          have : (!((out bs.length m).map ((fun late => decide (late ∈ ms) || decide ((held bs late : Int) > b)) ∘ fun x => m ||| 2 ^ x)).all id) = false := h2
          rw [Bool.not_eq_false'] at this
          exact this
        have h1 : (decide ((held bs m : Int) > b) || !decide (pc m + 1 < bs.length)) = false := h1
        rw [Bool.or_eq_false_iff, Bool.not_eq_false'] at h1
        have h3 := of_decide_eq_false h1.1
        rw [h2, h1.2, decide_eq_true (by omega)]
        rfl
  · subst hσ
    have S1 : Sube (eK kn bs) (eY (eK kn bs) d (.dK (kvm ki yes ms))) := .oy hB
    have S2 : Sube (eX d (.dK (kvm ki yes ms)) (by simp)) (eY (eK kn bs) d (.dK (kvm ki yes ms))) := .ox hB
    have hr1 := (rc K kn bs).up (.of kB (cu.ad hd).sub) hv2
    refine z_ret (Φ := da (.bool (decide (0 ∈ ms) || decide ((held bs 0 : Int) > b)))) (ev_orV (ev_dIn (m := 0) S2 (.inl rfl) ev_int (ev_var rfl rfl) ms8 (by decide)) fun _ => ev_cmp (v_held_in S1 ok (Nat.two_pow_pos _) (ev_var rfl hr1) ev_int) (ev_var rfl (.int b))) cu2 hn fun v3 H3 k3 j3 p3 => ?_
    have cu3 := cu2.aft k3 j3
    refine k v3 H3 (kB.trans (k3.rid upd_same cu3.at)) cu3.rid.j ?_
    have : closedB bs b ms = (decide (0 ∈ ms) || decide ((held bs 0 : Int) > b)) := by
      unfold closedB
      have : ms.all (okL bs b ms) = true := by
        rw [List.all_eq_true]
        intro m hm
        obtain ⟨j, hj, hj2⟩ := List.mem_iff_getElem.mp hm
        exact hall j (by rw [kvm_len]; exact hj) m (by rw [List.getElem?_eq_getElem hj, hj2])
      rw [this, Bool.true_and]
    rw [this, Rp.bl_eq p3]
    exact .bl _
/-! is_barrier -/
abbrev sp_is_barrier (K : PySem.W.Frag) : Sp := Pk fun kn bs A H vs Θ => ∃ v x d, ∃ b : Int, vs = [v, .int b, x] ∧ (rc K kn bs).p A H v ∧ Rp A H x d ∧ sm2 d ∧ 0 ≤ b ∧ Θ = da (.bool (barsM bs b d))
abbrev s_is_barrier : Stmt := top 33
abbrev N_is_barrier : List Str := ["recipe", "bound", "value", "lot"]
theorem sc_is_barrier : FnScope N_is_barrier ["recipe", "bound", "value"] (defScope s_is_barrier) := ⟨rfl, rfl, rfl, by decide +kernel, rfl, by decide +kernel, by decide +kernel⟩
theorem c_is_barrier (T : Tx K mg) : C8.Cal P w K mg base 5 "is_barrier" (sp_is_barrier K) [] := by
  refine mkCal T 21 27 rfl rfl sc_is_barrier (fun _ _ _ _ _ _ us hl => match us, hl with | [_, _, _], _ => rfl) (fun vs H Q E h => ?_) (fun f cdv A outer s H vs Q E hr h => ?_)
  · obtain ⟨_, _, _, _, _, _, _, ⟨_, _, _, _, _, v, x, d, b, rfl, _⟩, _⟩ := h
    rfl
  obtain ⟨e, A, n, c, Θ, cu, hn, ⟨rfl, kn, bs, rfl, ok, v, x, d, b, rfl, hv, hx, hs, hb, rfl⟩, k⟩ := h
  have c_check_bounded := c_check_bounded (P := P) (w := w) (base := base) T
  have c_are_lots_of := c_are_lots_of (P := P) (w := w) (base := base) T
  have c_is_closed := c_is_closed (P := P) (w := w) (base := base) T
  have c_bits_of := c_bits_of (P := P) (w := w) (base := base) T
  refine ⟨_, (pss_cons (ps_expr (C8.pe_c c_check_bounded hr (by decide) rfl (pa_cons (pv 0) (pa_cons (pv 1) pa_nil))))
  (pss_one (ps_ret (pe_and (C8.pe_c c_are_lots_of hr (by decide) rfl (pa_cons (pv 0) (pa_cons (pv 2) pa_nil))) (pe_one (C8.pe_c c_is_closed hr (by decide) rfl (pa_cons (pv 0) (pa_cons (pv 1) (pa_cons (pe_dc (own := [("lot", 3)]) rfl sc_is_barrier.nd (kpi_list (K := K) (pv 2)) (blkOk_by (own := [("lot", 3)]) (N := N_is_barrier) (sc := defScope s_is_barrier) (by decide +kernel)) (fun _ _ _ _ _ => (pg_name (i := 3) sc_is_barrier.nd rfl (Or.inl rfl))) (fun _ _ _ _ _ => pts_nil) (fun _ _ _ _ _ => (C8.pe_c c_bits_of hr (by decide) rfl (pa_cons (pv 3) pa_nil))) (fun _ _ _ _ _ => pe_bl)) pa_nil))))))))), ?_⟩
  refine z_drop (v_check_bounded hb (ev_var rfl hv) (ev_var rfl (.int b))) cu hn fun v1 H1 k1 cu1 p1 => ?_
  have hv1 := (rc K kn bs).up (cu.wl k1) hv
  have hx1 := hx.up (cu.wl k1)
  refine z_ret (Φ := da (.bool (barsM bs b d))) (ev_andV (a := lotsOk bs.length d) (b := closedB bs b (setOf (masks d))) (v_are_lots_of ok hs (ev_var rfl hv1) (ev_var rfl hx1)) fun h => ?_) cu1 hn fun v2 H2 k2 j2 p2 => k v2 H2 (k1.trans k2) j2 p2
  have h2 : allRis bs.length d = true := ((Bool.and_eq_true _ _).mp h).1
  obtain ⟨ds, rfl⟩ : ∃ ds, d = .list ds := by
    cases d with
    | list ds => exact ⟨ds, rfl⟩
    | _ => cases h2
  have hl := allRis_lots (by have := ok.n7; omega) h2
  refine em_pk (c1 := 0) (Φs := [rc K kn bs, da (.int b), dKv (kvm ki yes (setOf (ds.map mk)))]) (.refl _) ok (eva_cons (ev_var rfl hv1) (eva_cons (ev_var rfl (.int b)) (eva_cons (ev_dcL (f := mk) (ev_var rfl hx1) hs.1 (fun x => rfl) (fun d hd => ?_) fun d A1 H1 x hd w1 hx => ?_) eva_nil))) fun A' H' vs w p => ?_
  · obtain ⟨m, hm, rfl⟩ := hl d hd
    rw [mk_lot (ok.m hm)]
    exact ok.m hm
  · obtain ⟨m, hm, rfl⟩ := hl d hd
    rw [show mk (lot m) = bitsOf (blk m) from mk_nts _]
    exact v_bits_of (ev_var rfl hx) (by have := pc_le m; unfold pc at this; omega) fun b hb => by have := blk_lt hb; omega
  · obtain ⟨y1, y2, y3, rfl, q1, q2, q3⟩ := pvs3 p
    obtain rfl := Rp.int_eq q2
    refine ⟨y1, y3, setOf (ds.map mk), b, rfl, q1, q3, fun m hm => ?_, rfl⟩
    obtain ⟨d, hd, rfl⟩ := List.mem_map.mp (setOf_mem.mp hm)
    obtain ⟨m2, hm2, rfl⟩ := hl d hd
    rw [mk_lot (ok.m hm2)]
    exact hm2
end
end SB
namespace SB
open PySem PySem.Spec PyProof.Rows L2
/-! ### sorted of data -/
theorem dpAll_len {K : PySem.W.Frag} {H : Hp} : ∀ {xs : List V} {ds : List PyData}, DpAll K H xs ds → xs.length = ds.length
  | _, _, .nil => rfl
  | _, _, .cons _ t => by rw [List.length_cons, List.length_cons, dpAll_len t]
abbrev dLt (p q : V × PyData) : Bool := PySem.W.dataLt p.2 q.2
def rSortD (K : PySem.W.Frag) : List V → Hp → VK → Prop := fun vs H Q => ∃ (a : Addr) (xs : List V) (ds : List PyData), vs = [V.ref a] ∧ SqL K H a xs ∧ DpAll K H xs ds ∧ PySem.W.AllAlike ds ∧ PySem.W.Sortable ds ∧ (∀ d ∈ ds, d.depth ≤ 60) ∧
  ∀ (zs : List (V × PyData)) p, zs.Perm (xs.zip ds) → zs.Pairwise (fun u v => dLt v u = false) → H p = none → Q (.ref p) (upd H p (.lst (zs.map (·.1))))
theorem vals_each : ∀ {xs : List V} {ds : List PyData} {its : List Value}, Vals xs its → xs.length = ds.length → PySem.W.EachIs (fun v (b : V × PyData) => RelV b.1 v) its (xs.zip ds)
  | [], _, _, .nil, _ => by rw [List.zip_nil_left]; exact .nil
  | x :: xs, [], _, _, h => by simp at h
  | x :: xs, d :: ds, _, .cons r t, h => by
    rw [List.zip_cons_cons]
    exact .cons r (vals_each t (by simpa using h))
theorem each_vals : ∀ {out : List Value} {zs : List (V × PyData)}, PySem.W.EachIs (fun v (b : V × PyData) => RelV b.1 v) out zs → Vals (zs.map (·.1)) out
  | _, _, .nil => .nil
  | _, _, .cons h t => .cons h (each_vals t)
theorem cr_sortedD {X : Cx} (hu : X.A.units + 64 < cLine) : CallR X (.builtin "sorted") (rSortD X.K) := by
  intro pins s σ H vs us Q I r h
  obtain ⟨a, xs, ds, rfl, hs, hd, hal, hk, hdep, q⟩ := h
  obtain ⟨its, rv, hl, hz⟩ := I.list hs
  rw [Vals.ref1 r]
  have hlen := dpAll_len hd
  obtain ⟨as, ra⟩ := Dp.readsAll I ds xs its hd rv
  have e2 : (xs.zip ds).map (·.2) = ds := List.map_snd_zip (Nat.le_of_eq hlen.symm)
  have er := PySem.W.readsAll_each (h := s.heap) (fun b : V × PyData => b.2) (vs := its) (bs := xs.zip ds) (as := as) (by rw [e2]; exact ra)
  have lz : (xs.zip ds).length = xs.length := by rw [List.length_zip, ← hlen, Nat.min_self]
  refine PySem.W.sorted_data (enc := fun b : V × PyData => b.2) hl.isList (vals_each rv hlen) er (by rw [e2]; exact hal) (by rw [e2]; exact hk) (by rw [lz]; exact hz) (fun b hb => ?_) fun out hout ho => ?_
  · have hb2 : b.2 ∈ ds := by rw [← e2]; exact List.mem_map_of_mem hb
    have := hdep _ hb2
    omega
  · have pm := List.mergeSort_perm (xs.zip ds) (PySem.W.dataLe false fun b : V × PyData => b.2)
    obtain ⟨n, hn⟩ := PyProof.Rows.sortedAll_at s.heap its out.toArray
    refine ⟨.ref (s.heap.objs.size + 1), upd H (s.heap.objs.size + 1) (.lst (((xs.zip ds).mergeSort (PySem.W.dataLe false fun b : V × PyData => b.2)).map (·.1))), I.laid (t' := s.toks) (fun b o e => PyProof.Rows.sortedAll_old e) (Nat.le_succ _) ⟨?_, out, n, each_vals ho, hn⟩, rfl, q _ _ pm ?_ (I.hok.fresh (Nat.le_succ _))⟩
    · rw [List.length_map, pm.length_eq, lz]; exact hz
    · refine (PySem.W.sort_pairwise (PySem.W.sortLe_total _ false _) _).imp fun {u v} h => ?_
      have h : (!PySem.W.dataLt v.2 u.2) = true := h
      simpa using h
theorem k_sortedD {X : Cx} {K : PySem.W.Frag} (hu : X.A.units + 64 < cLine) (hK : X.K = K := by rfl) : CallR X (.builtin "sorted") (rSortD K) := hK ▸ cr_sortedD hu
section
variable {e : Ef} {c c1 : Nat} {K : PySem.W.Frag} {ta tb te tl tk : TE} {σ : L2.St} {A A' : As} {H H' : Hp} {Φ Ψ Θ : Pv} {ds es : List PyData} {d : PyData}
theorem rpa_zip : ∀ {zs : List (V × PyData)}, (∀ z ∈ zs, Rp A H z.1 z.2) → RpA A H (zs.map (·.1)) (zs.map (·.2))
  | [], _ => .nil
  | z :: zs, h => .cons (h z List.mem_cons_self) (rpa_zip fun y hy => h y (List.mem_cons_of_mem _ hy))
theorem rpa_of_zip : ∀ {xs : List V} {ds : List PyData}, RpA A H xs ds → ∀ z ∈ xs.zip ds, Rp A H z.1 z.2
  | _, _, .nil, z, h => by cases h
  | _, _, .cons r t, z, h => by
    rw [List.zip_cons_cons] at h
    rcases List.mem_cons.mp h with rfl | q
    · exact r
    · exact rpa_of_zip t z q
theorem em_sortedD (h : Em e c ta σ A H (da (.list ds))) (hal : PySem.W.AllAlike ds) (hk : PySem.W.Sortable ds) (hdep : ∀ d ∈ ds, d.depth ≤ 60) (hlay : PyData.canLayAll0 ds = true) :
    Em e c (tCB (rSortD K) (tCons ta tNil)) σ A H (exv (fun es => es.Perm ds ∧ es.Pairwise (fun u v => PySem.W.dataLt v u = false)) fun es => da (.list es)) := em_B1 h fun A' H' x _ p => by
  obtain ⟨a, xs, rfl, na, ha, r⟩ := Rp.list_eq p
  intro n cu _ Q q
  have hl := r.length
  refine ⟨a, xs, ds, rfl, SqL.of ha, RpA.dp r hlay, hal, hk, hdep, fun zs p pm pw hp => ?_⟩
  have e2 : (xs.zip ds).map (·.2) = ds := List.map_snd_zip (Nat.le_of_eq hl.symm)
  refine q (.ref p) _ (.new hp) (cu.new hp).j ⟨zs.map (·.2), ⟨?_, List.pairwise_map.mpr pw⟩, ?_⟩
  · rw [← e2]; exact pm.map _
  · exact .lst (cu.lv.fresh hp) upd_same ((rpa_zip fun z hz => rpa_of_zip r z (pm.mem_iff.mp hz)).up (.of0 (.new hp)))
end
end SB
namespace SB
open PySem PySem.Spec PyProof.Rows L2
/-! ### dict(pairs) with keys that are tuples; d.update(d2) -/
section
variable {κ : Type} [DecidableEq κ]
def mg (kvs more : List (κ × V)) : List (κ × V) := more.foldl (fun acc kv => putK acc kv.1 kv.2) kvs
theorem mg_len : ∀ (more kvs : List (κ × V)), (mg kvs more).length ≤ kvs.length + more.length
  | [], kvs => Nat.le_refl _
  | p :: more, kvs => by
    have h := mg_len more (putK kvs p.1 p.2)
    have h2 := length_putK kvs p.1 p.2
    show (mg (putK kvs p.1 p.2) more).length ≤ _
    rw [List.length_cons]
    omega
end
theorem kt_merge {H : Hp} : ∀ {more : List (List Key × V)} {rs : List (List Key × Addr × Value)} {kvs : List (List Key × V)} {vs : List (List Key × Addr × Value)}, KT H more rs → KT H kvs vs → KT H (mg kvs more) (storedAllH vs rs) := by
  intro more rs kvs vs r
  induction r generalizing kvs vs with
  | nil => intro q; exact q
  | @cons p x ps xs h t ih =>
    intro q
    obtain ⟨h1, h2, h3⟩ := h
    show KT H (mg (putK kvs p.1 p.2) ps) (storedAllH (storedH vs x.1 x.2.1 x.2.2) xs)
    have e : x.1 = p.1 := h1.symm
    rw [e]
    exact ih (q.put p.1 h2 h3)
/-- a tuple that is a key stays one -/
theorem key_stay {P : Program} {w : World} {h h' : Heap} {ks : List Key} {b : Addr} (x : (tupleKind (mixKind P w)).is h ks b) (k : ∀ o, h.get? b = some o → h'.get? b = some o) : (tupleKind (mixKind P w)).is h' ks b := by
  obtain ⟨o, its, n, h1, r⟩ := x
  exact ⟨o, its, n, k o h1, r⟩
theorem pairsT_of {X : Cx} {pins : List (Addr × Obj)} {σ : L2.St} {H : Hp} {s : Shared} (I : Inv X pins σ H s) : ∀ {ps : List Addr} {kvs : List (List Key × V)}, Paired (fun p kv => ∃ b, SqT X.K H p [.ref b, kv.2] ∧ H b = some (.tup (kv.1.map kV))) ps kvs →
    ∃ (xs : List (List Key × Addr × Value)), KT H kvs xs ∧ xs.length = ps.length ∧ ∀ (j : Nat) (q : List Key × Addr × Value), xs[j]? = some q → ∃ b, ps[j]? = some b ∧ IsTup s.heap b #[.ref q.2.1, q.2.2]
  | _, _, .nil => ⟨[], .nil, rfl, fun j q e => by simp at e⟩
  | _, _, .cons (a := p) (b := kv) h t => by
    obtain ⟨xs, r, hl, hp⟩ := pairsT_of I t
    obtain ⟨b, h, hb⟩ := h
    obtain ⟨its, rv, ht, _⟩ := I.tuple h
    obtain ⟨u, y, ei, ru, ry⟩ := vals2 rv
    subst ei
    obtain rfl : u = .ref b := ru
    refine ⟨(kv.1, b, y) :: xs, .cons ⟨rfl, hb, ry⟩ r, by rw [List.length_cons, List.length_cons, hl], fun j q e => ?_⟩
    cases j with
    | zero =>
      have e' : (kv.1, b, y) = q := Option.some.inj e
      subst e'
      exact ⟨p, rfl, ht⟩
    | succ j =>
      obtain ⟨b', e1, e2⟩ := hp j q (by simpa using e)
      exact ⟨b', by simpa using e1, e2⟩
def rDictT (K : PySem.W.Frag) : List V → Hp → VK → Prop := fun xs H Q => ∃ (a : Addr) (ps : List Addr) (kvs : List (List Key × V)), xs = [.ref a] ∧ SqL K H a (ps.map V.ref) ∧ Paired (fun p kv => ∃ b, SqT K H p [.ref b, kv.2] ∧ H b = some (.tup (kv.1.map kV))) ps kvs ∧
  ∀ p, H p = none → Q (.ref p) (upd H p (.dT (mg [] kvs)))
theorem cr_dictT {X : Cx} (hcalm : X.calm = true) (hu : X.A.units + 64 < cLine) : CallR X (.type "dict") (rDictT X.K) := by
  intro pins s σ H xs us Q I r q
  obtain ⟨a, ps, kvs, ex, hq, hp, q⟩ := q
  subst ex
  rw [Vals.ref1 r]
  obtain ⟨its, rv, pl, hz⟩ := I.list hq
  have ei := refs_at rv
  subst ei
  rw [List.length_map] at hz
  obtain ⟨ys, rel, hl, hpr⟩ := pairsT_of I hp
  obtain ⟨o, n, ho, hc, hd, hdat⟩ := pl
  have P := PairArg.list (prog := X.prog) (w := X.w) a (ps.map Value.ref).toArray (fun j => ps.getD j 0) (ys.map fun y => (Value.ref y.2.1, y.2.2))
  have hm : (s.heap.objs.size == sysModules) = false := beq_eq_false_iff_ne.mpr (Nat.ne_of_gt I.big)
  have hkvs : kvs.length = ys.length := Paired.length rel
  refine call_dict_pairsH (knd := tupleKind (mixKind X.prog X.w)) (ps := ys) P (I.ok.hd hcalm) (show X.A.units + 1 + 1 < cLine by omega) ⟨⟨o, n, ho, hc, hd, hdat⟩, by simp [hl], fun j k v hj => ?_⟩ ⟨by rw [List.length_map], fun i key v hi => ?_⟩ (fun h' hk x hx => ?_) (by rw [List.length_map, hl]; exact hz) fun h' tk hd' hk => ?_
  · rw [List.getElem?_map] at hj
    cases e : ys[j]? with
    | none => rw [e] at hj; cases hj
    | some y =>
      rw [e] at hj
      cases hj
      obtain ⟨b, e1, e2⟩ := hpr j y e
      have e3 : ps.getD j 0 = b := by rw [List.getD_eq_getElem?_getD, e1]; rfl
      refine ⟨by simp [e1, e3], .inl ?_⟩
      show Heap.IsTuple s.heap (ps.getD j 0) _
      rw [e3]
      exact e2
  · have hi : (ys.map fun y => (Value.ref y.2.1, y.2.2))[i]? = some (key, v) := hi
    rw [List.getElem?_map] at hi
    cases e : ys[i]? with
    | none => rw [e] at hi; cases hi
    | some y =>
      rw [e] at hi
      cases hi
      exact ⟨y.1, y.2.1, rfl, rfl⟩
  · have : (tupleKind (mixKind X.prog X.w)).is s.heap x.1 x.2.1 := by
      obtain ⟨j, hj, hx2⟩ := List.mem_iff_getElem.mp hx
      have : ∀ {l : List (List Key × V)} {m : List (List Key × Addr × Value)}, KT H l m → ∀ x ∈ m, (tupleKind (mixKind X.prog X.w)).is s.heap x.1 x.2.1 := by
        intro l m q
        induction q with
        | nil => intro x hx; exact nomatch hx
        | @cons p q ps qs hq t ih =>
          intro x hx
          rcases List.mem_cons.mp hx with e | hx
          · subst e
            exact key_of I.hok (by rw [← hq.1]; exact hq.2.1)
          · exact ih x hx
      exact this rel x hx
    refine key_stay this fun ob hob => hk _ _ (Nat.ne_of_lt (Heap.lt_size hob)) (by simp) hob
  · obtain ⟨ob, es, ep, g1, g2, g3, g4, _, g5⟩ := hd'
    have hlen : (mg ([] : List (List Key × V)) kvs).length ≤ sizeLine := by
      refine Nat.le_trans (mg_len kvs []) ?_
      rw [List.length_nil, Nat.zero_add, hkvs, hl]
      exact hz
    refine ⟨.ref s.heap.objs.size, upd H s.heap.objs.size (.dT (mg [] kvs)), I.laid (t' := tk) (fun b u e => hk b u (by simp) e) (Nat.le_refl _) ⟨hlen, hm, _, (kt_merge rel .nil).keeps fun b ys e => ?_, ob, es, ep, g1, g2, g3, g4, g5⟩, rfl, q _ (I.hok.fresh (Nat.le_refl _))⟩
    rw [upd_ne (ne_of_none e (I.hok.fresh (Nat.le_refl _)))]
    exact e
theorem k_dictT {X : Cx} {K : PySem.W.Frag} (hcalm : X.calm = true) (hu : X.A.units + 64 < cLine) (hK : X.K = K := by rfl) : CallR X (.type "dict") (rDictT K) := hK ▸ cr_dictT hcalm hu
/-! the hashes of the keys that stand for masks -/
def th (m : Nat) : Int := reduceHash (Builtin.Tuple.tupleHashOf ((blk m).map fun b : Nat => hashInt (b : Int)))
theorem th_kt (P : Program) (w : World) (m : Nat) : (tupleKind (mixKind P w)).hash (kt m) = th m := by
  show reduceHash (Builtin.Tuple.tupleHashOf ((kt m).map (mixKind P w).hash)) = _
  unfold th kt
  rw [List.map_map]
  rfl
theorem th_nd : ((List.range 128).map th).Nodup := by decide +kernel
theorem th_inj {a b : Nat} (ha : a < 128) (hb : b < 128) (h : th a = th b) : a = b := by
  have q := List.pairwise_iff_getElem.mp th_nd
  rcases Nat.lt_trichotomy a b with z | z | z
  · have := q a b (by simpa using ha) (by simpa using hb) z
    simp at this
    exact absurd h this
  · exact z
  · have := q b a (by simpa using hb) (by simpa using ha) z
    simp at this
    exact absurd h.symm this
theorem kvm_hash {P : Program} {w : World} {f : Nat → V} {H : Hp} : ∀ {ms : List Nat} {xs : List (List Key × Addr × Value)}, KT H (kvm kt f ms) xs → (xs.map fun x => (tupleKind (mixKind P w)).hash x.1) = ms.map th
  | [], _, .nil => rfl
  | m :: ms, _, .cons h t => by
    rw [List.map_cons, List.map_cons, kvm_hash t, ← h.1, th_kt]
theorem nd_map {f : Nat → Int} : ∀ {ms : List Nat}, ms.Nodup → (∀ a ∈ ms, ∀ b ∈ ms, f a = f b → a = b) → (ms.map f).Nodup
  | [], _, _ => .nil
  | m :: ms, h, q => by
    obtain ⟨h1, h2⟩ := List.nodup_cons.mp h
    rw [List.map_cons]
    refine List.nodup_cons.mpr ⟨fun hm => ?_, nd_map h2 fun a ha b hb => q a (List.mem_cons_of_mem _ ha) b (List.mem_cons_of_mem _ hb)⟩
    obtain ⟨k, hk, e⟩ := List.mem_map.mp hm
    have := q k (List.mem_cons_of_mem _ hk) m List.mem_cons_self e
    exact h1 (this ▸ hk)
/-- d.update(d2), the keys tuples -/
def rUpdT : V → List V → Hp → VK → Prop := fun x xs H Q => ∃ (d o : Addr) (kvs more : List (List Key × V)), x = .ref d ∧ xs = [.ref o] ∧ d ≠ o ∧ H d = some (.dT kvs) ∧ Rd H o (.dT more) ∧ kvs.length + more.length ≤ sizeLine ∧
  (kvs ≠ [] ∨ ∃ ms f, more = kvm kt f ms ∧ ms.Nodup ∧ ∀ m ∈ ms, m < 128) ∧ Q .non (upd H d (.dT (mg kvs more)))
theorem mt_updT {X : Cx} (hu : X.A.units + 64 < cLine) : MtR X "dict.update" rUpdT := by
  intro pins s σ H x xs v us Q I rx rxs q
  obtain ⟨d, o, kvs, more, rfl, rfl, hdo, hd, ho, hl, hh, q⟩ := q
  cases rx
  rw [Vals.ref1 rxs]
  obtain ⟨z1, m1, ys, rel, dd⟩ := dt_of I.hok hd
  obtain ⟨z2, m2, zs, rel2, oo⟩ := dt_rd I.hok ho
  have l1 : kvs.length = ys.length := Paired.length rel
  have l2 : more.length = zs.length := Paired.length rel2
  refine call_update_dictH (knd := tupleKind (mixKind X.prog X.w)) (show X.A.units + 1 < cLine by omega) hdo m2 dd oo ?_ (by rw [← l1, ← l2]; exact hl) fun h' dd' _ hs => ?_
  · rcases hh with h | ⟨ms, f, rfl, nd, hm⟩
    · refine .inl fun z => h ?_
      rw [z] at l1
      exact List.length_eq_zero_iff.mp (by simpa using l1)
    · refine .inr ⟨fun x hx => ?_, ?_⟩
      · obtain ⟨_, _, _, _, _, _, _, his, _⟩ := oo
        obtain ⟨ob, its, n, g1, g2, _⟩ := his x hx
        exact ⟨ob, g1, g2⟩
      · rw [kvm_hash rel2]
        exact nd_map nd fun a ha b hb => th_inj (hm a ha) (hm b hb)
  · obtain ⟨ob, es, ep, g1, g2, g3, g4, _, g5⟩ := dd'
    have hlen : (mg kvs more).length ≤ sizeLine := Nat.le_trans (mg_len more kvs) hl
    refine ⟨.non, upd H d (.dT (mg kvs more)), d_write (t' := s.toks) I (by rw [hd]; exact True.intro) hs ⟨ob, g1⟩ ⟨hlen, m1, _, (kt_merge rel2 rel).keeps fun b ys e => ?_, ob, es, ep, g1, g2, g3, g4, g5⟩, rfl, q⟩
    rw [upd_ne (ne_of e hd (fun z => nomatch z))]
    exact e
/-- d.update(d2), the keys ints -/
def rUpdK : V → List V → Hp → VK → Prop := fun x xs H Q => ∃ (d o : Addr) (kvs more : List (Key × V)), x = .ref d ∧ xs = [.ref o] ∧ d ≠ o ∧ H d = some (.dK kvs) ∧ Rd H o (.dK more) ∧ kvs.length + more.length ≤ sizeLine ∧ Q .non (upd H d (.dK (mergeK kvs more)))
theorem mt_updK {X : Cx} : MtR X "dict.update" rUpdK := by
  intro pins s σ H x xs v us Q I rx rxs q
  obtain ⟨d, o, kvs, more, rfl, rfl, hdo, hd, ho, hl, q⟩ := q
  cases rx
  rw [Vals.ref1 rxs]
  obtain ⟨z1, m1, ys, rel, dd⟩ := dk_of I.hok hd
  obtain ⟨z2, m2, zs, rel2, oo⟩ := dk_rd I.hok ho
  have l1 : kvs.length = ys.length := rel.length
  have l2 : more.length = zs.length := rel2.length
  refine call_meetsIn PySem.F.slot_dict_update dd.typeIs PySem.F.entry_dict_update (PySem.F.args_dict_update_2 _ _) (meets_dict_update (mixKind X.prog X.w) d o hdo m2) ⟨ys, zs, dd, oo, by rw [← l1, ← l2]; exact hl, fun h' dd' _ hs => ?_⟩
  have hlen : (mergeK kvs more).length ≤ sizeLine := Nat.le_trans (length_mergeK more kvs) hl
  have he : ∃ q, h'.get? d = some q := let ⟨q, _, _, hq, _⟩ := dd'; ⟨q, hq⟩
  exact ⟨.non, upd H d (.dK (mergeK kvs more)), d_write (t' := s.toks) I (by rw [hd]; exact True.intro) hs he (dk_new hlen m1 (KV.merge rel2 rel) dd'), rfl, q⟩
end SB
namespace SB
open PySem PySem.Spec PyProof.Rows PySem.W L2
/-! ### sorted of a dict whose keys are tuples, the empty one among them -/
section
variable {prog : Program} {w : World} {A : Around} {E : Value → Shared → Prop} {s : Shared}
/-- the call of tuple's own __lt__, as sorting makes it -/
theorem call_tuple_lt {Q : Value → Shared → Prop} {l b : Addr} {items items2 : Array Value} {e r : Nat → Bool} (hl : s.heap.IsTuple l items) (hb : s.heap.IsTuple b items2)
    (he : ∀ j (h1 : j < items.size) (h2 : j < items2.size), SeqAt.EqAt A.in1 s items[j] items2[j] (e j)) (hr : ∀ j (h1 : j < items.size) (h2 : j < items2.size), e j = false → SeqAt.RcLt A.in1 s items[j] items2[j] (r j))
    (h : Q (.bool (SeqAt.firstLt e r (decide (items.size < items2.size)) (List.range (min items.size items2.size)))) s) : wpAny (model prog w) A (call (.builtin "tuple.__lt__") [.ref l, .ref b]) Q E s := by
  obtain ⟨⟨cls, dd, data, sl⟩, ho, hc, n, hd⟩ := id hl
  obtain ⟨⟨cls2, dd2, data2, sl2⟩, ho2, hc2, n2, hd2⟩ := id hb
  simp only at hc hd hc2 hd2
  subst hc hd hc2 hd2
  exact call_meets F.slot_tuple_lt ⟨_, ho, rfl⟩ F.entry_tuple_lt (F.args_tuple_lt_2 _ _) (SeqAt.tuple_ltAt l b items items2 n n2 dd dd2 sl sl2 e r) ⟨ho, ho2, he, hr, h⟩
theorem oneLt_tup {xs ys : List PyData} {a b : Value} {as bs : List Addr} {Q : Bool → Shared → Prop} (ra : Reads s.heap a (.tuple xs) as) (rb : Reads s.heap b (.tuple ys) bs) (hal : alikeAll xs ys = true)
    (hu : A.units + min (PyData.depth (.tuple xs)) (PyData.depth (.tuple ys)) < cLine) (hq : Q (dataLt (.tuple xs) (.tuple ys)) s) : wpAny (model prog w) A (oneLt' true a b) Q E s := by
  cases ra with
  | @tuple l o vs n _ as₁ h1 h2 h3 h4 =>
    cases rb with
    | @tuple l' o' vs' n' _ bs₁ k1 k2 k3 k4 =>
      have n1 : vs.size = xs.length := by simpa using SeqAt.ReadsAll.length _ _ _ h4
      have n2 : vs'.size = ys.length := by simpa using SeqAt.ReadsAll.length _ _ _ k4
      rw [dataLt_tuple, ← firstLt_toks xs ys hal, ← n1, ← n2] at hq
      rw [oneLt'_eq]
      simp only [if_true]
      refine wpAny_bind (wpAny_cRoomFor (SeqAt.room_here hu) ?_)
      refine wpAny_bind (wpAny_callSpecialIfBound?_slot (T := "tuple") ⟨_, h1, h2⟩ F.slot_tuple_lt (call_tuple_lt (e := SeqAt.pairEq xs ys) (r := fun j => dataLt (xs.getD j .none) (ys.getD j .none)) ⟨_, h1, h2, _, h3⟩ ⟨_, k1, k2, _, k3⟩ (fun j j1 j2 => ?_) (fun j j1 j2 hj => ?_) ?_))
      · have := eqAt_alikeAll xs ys A.in1 s vs.toList vs'.toList _ _ h4 k4 hal (SeqAt.room_in hu) j (by simpa using j1) (by simpa using j2)
        simpa using this
      · have := rcLt_alikeAll xs ys A.in1 s vs.toList vs'.toList _ _ h4 k4 hal (SeqAt.room_in hu) j (by simpa using j1) (by simpa using j2) hj
        simpa using this
      · exact wpAny_truthy_bool hq
theorem firsts_mix {M : Model} : ∀ {vs : List Value} {ds : List PyData}, EachIs (fun v d => ∃ as, Reads s.heap v d as) vs ds → (∀ d ∈ ds, ∃ xs, d = .tuple xs) →
    ∃ fs : List (Option Value), (∀ {E : Value → Shared → Prop} {Q : List (Option Value) → Shared → Prop}, Q fs s → wpAny M A (vs.mapM firstOfTuple') Q E s) ∧ ((∃ d ∈ ds, d = .tuple []) → (fs.all fun x => x.isSome) = false)
  | _, _, .nil, _ => ⟨[], fun {E Q} h => by rw [List.mapM_nil]; exact wpAny_pure h, fun ⟨_, h, _⟩ => by cases h⟩
  | _, _, .cons (a := v) (b := d) (as := vs) (bs := ds) h t, hd => by
    obtain ⟨fs, h1, h2⟩ := firsts_mix (M := M) t fun x hx => hd x (List.mem_cons_of_mem _ hx)
    obtain ⟨xs, rfl⟩ := hd d List.mem_cons_self
    obtain ⟨as, h⟩ := h
    cases h with
    | @tuple l o its n _ as₁ g1 g2 g3 g4 =>
      refine ⟨its[0]? :: fs, fun {E Q} q => ?_, fun ⟨x, hx, hx2⟩ => ?_⟩
      · rw [List.mapM_cons]
        refine wpAny_bind ?_
        rw [kas_first_eq]
        refine wpAny_bind (Looks.here (show Looks M s.heap (typeOf (.ref l)) o.cls from (Looks.ld g1).andThen .now) ?_)
        rw [g2, if_neg (by first | decide | simp)]
        refine wpAny_bind (listItems_at g1 g3 (wpAny_pure ?_))
        exact wpAny_bind (h1 (Q := fun bs s' => wpAny M A (pure (its[0]? :: bs)) Q E s') (wpAny_pure q))
      · rw [List.all_cons]
        rcases List.mem_cons.mp hx with z | z
        · rw [hx2] at z
          cases z
          cases g4' : its.toList with
          | nil =>
            have : its = #[] := by
              apply Array.ext'
              simpa using g4'
            rw [this]
            rfl
          | cons y ys => rw [g4'] at g4; cases g4
        · rw [h2 ⟨x, z, hx2⟩, Bool.and_false]
theorem kind_mix {M : Model} {vs : List Value} {ds : List PyData} (e : EachIs (fun v d => ∃ as, Reads s.heap v d as) vs ds) (ht : ∀ d ∈ ds, ∃ xs, d = .tuple xs) (he : ∃ d ∈ ds, d = .tuple []) (h2 : 2 ≤ vs.length) :
    ∃ kd, (kd = general' ∨ kd = oneType') ∧ ∀ {E : Value → Shared → Prop} {Q : SortKind → Shared → Prop}, Q kd s → wpAny M A (keyKind' vs.toArray) Q E s := by
  obtain ⟨fs, h1, h3⟩ := firsts_mix (M := M) (A := A) e ht
  have h3 := h3 he
  have hT : ∀ v ∈ vs, Looks M s.heap (typeOf v) (.type "tuple") := fun v hv => by
    obtain ⟨d, hd, as, r⟩ := e.left v hv
    obtain ⟨xs, rfl⟩ := ht d hd
    exact looks_reads r
  by_cases z : ((fs.toArray[0]?).bind id).isSome = true
  · refine ⟨general', .inl rfl, fun {E Q} q => ?_⟩
    rw [keyKind'_eq, List.mapM_toArray, map_eq_pure_bind]
    refine wpAny_bind (wpAny_bind (h1 (wpAny_pure ?_)))
    rw [if_neg (by rw [List.all_toArray]; rw [h3]; decide), if_pos z]
    exact wpAny_pure q
  · refine ⟨oneType', .inr rfl, fun {E Q} q => ?_⟩
    rw [keyKind'_eq, List.mapM_toArray, map_eq_pure_bind]
    refine wpAny_bind (wpAny_bind (h1 (wpAny_pure ?_)))
    rw [if_neg (by rw [List.all_toArray]; rw [h3]; decide), if_neg z]
    rw [oneTypeOnly'_eq, List.mapM_toArray, map_eq_pure_bind]
    refine wpAny_bind (wpAny_bind (wpAny_bind (kas_mapM (r := .type "tuple") _ (fun v hv Q' hq => (hT v hv).here hq) (wpAny_pure ?_))))
    have hall : ((List.map (fun _ => Value.type "tuple") vs).toArray.all fun x => x == Value.type "tuple") = true := by
      simp only [List.all_toArray, List.all_map, List.all_eq_true]
      intro _ _
      exact beq_self_eq_true _
    have h0 : (List.map (fun _ => Value.type "tuple") vs).toArray[0]? = some (Value.type "tuple") := by
      cases vs with
      | nil => simp at h2
      | cons v vs => simp
    rw [h0]
    simp only [hall, if_true]
    exact wpAny_pure (wpAny_pure q)
theorem sorts_tups {vs : List Value} {ds : List PyData} (e : EachIs (fun v d => ∃ as, Reads s.heap v d as) vs ds) (hal : AllAlike ds) (ht : ∀ d ∈ ds, ∃ xs, d = .tuple xs) (hu : ∀ d, d ∈ ds → A.units + d.depth < cLine) : SortsAt prog w A s (dataKind s.heap ds) vs := by
  by_cases he : ∃ d ∈ ds, d = .tuple []
  · by_cases h2 : 2 ≤ vs.length
    · obtain ⟨kd, hk, hkq⟩ := kind_mix (M := model prog w) (A := A) e ht he h2
      refine ⟨fun v hv => ?_, kd, ?_, fun _ E Q q => hkq q⟩
      · obtain ⟨d, hd, as, r⟩ := e.left v hv
        exact ⟨_, dataKind_some hal hd r⟩
      · intro E x y a b Q ha hb hq
        obtain ⟨d, as, hd, ra, rfl⟩ := dataKind_inv ha
        obtain ⟨d', as', hd', rb, rfl⟩ := dataKind_inv hb
        have room : A.units + min d.depth d'.depth < cLine := Nat.lt_of_le_of_lt (Nat.add_le_add_left (Nat.min_le_left _ _) _) (hu d hd)
        obtain ⟨xs, rfl⟩ := ht d hd
        obtain ⟨ys, rfl⟩ := ht d' hd'
        have hdd := hal _ hd _ hd'
        rcases hk with rfl | rfl
        · exact oneLt_alike (f := false) (fun z => by cases z) ra rb hdd (by simp) room hq
        · rw [keyLt'_oneType]
          exact oneLt_tup ra rb (by simpa [alike] using hdd) room hq
    · refine ⟨fun v hv => ?_, oneType', ?_, fun h => absurd h h2⟩
      · obtain ⟨d, hd, as, r⟩ := e.left v hv
        exact ⟨_, dataKind_some hal hd r⟩
      · intro E x y a b Q ha hb hq
        obtain ⟨d, as, hd, ra, rfl⟩ := dataKind_inv ha
        obtain ⟨d', as', hd', rb, rfl⟩ := dataKind_inv hb
        have room : A.units + min d.depth d'.depth < cLine := Nat.lt_of_le_of_lt (Nat.add_le_add_left (Nat.min_le_left _ _) _) (hu d hd)
        obtain ⟨xs, rfl⟩ := ht d hd
        obtain ⟨ys, rfl⟩ := ht d' hd'
        rw [keyLt'_oneType]
        exact oneLt_tup ra rb (by simpa [alike] using hal _ hd _ hd') room hq
  · refine .data e hal (.inl fun d hd => ?_) hu
    obtain ⟨xs, rfl⟩ := ht d hd
    cases xs with
    | nil => exact absurd ⟨_, hd, rfl⟩ he
    | cons x r => exact ⟨x, r, rfl⟩
end
/-- the data of a key -/
def kd1 : Key → PyData
  | .inl i => .int i
  | .inr x => .str x
def kdT (k : List Key) : PyData := .tuple (k.map kd1)
abbrev allI (k : List Key) : Prop := ∃ is : List Int, k = is.map Sum.inl
theorem kdT_ints {is : List Int} : kdT (is.map Sum.inl) = .tuple (is.map .int) := by
  unfold kdT
  rw [List.map_map]
  rfl
theorem dpAll_ints {K : PySem.W.Frag} {H : Hp} : ∀ is : List Int, DpAll K H (is.map V.int) (is.map .int)
  | [] => .nil
  | i :: is => .cons (.int i) (dpAll_ints is)
/-- sorted(d), the keys tuples of ints -/
def rSortDT : List V → Hp → VK → Prop := fun xs H Q => ∃ d kvs, xs = [V.ref d] ∧ Rd H d (.dT kvs) ∧ (∀ kv ∈ kvs, allI kv.1) ∧
  ∀ (ps : List (Addr × List Key)) p, (ps.map (·.2)).Perm (kvs.map (·.1)) → (∀ x ∈ ps, H x.1 = some (.tup (x.2.map kV))) → H p = none → Q (.ref p) (upd H p (.lst (ps.map fun x => V.ref x.1)))
theorem each_readsK {X : Cx} {pins : List (Addr × Obj)} {σ : L2.St} {H : Hp} {s : Shared} (I : Inv X pins σ H s) : ∀ {kvs : List (List Key × V)} {xs : List (List Key × Addr × Value)}, KT H kvs xs → (∀ kv ∈ kvs, allI kv.1) →
    EachIs (fun v (b : Addr × List Key) => ∃ as, Reads s.heap v (kdT b.2) as) (xs.map fun x => Value.ref x.2.1) (xs.map fun x => (x.2.1, x.1))
  | _, _, .nil, _ => .nil
  | _, _, .cons (a := kv) (b := x) h t, hi => by
    rw [List.map_cons, List.map_cons]
    refine .cons ?_ (each_readsK I t fun y hy => hi y (List.mem_cons_of_mem _ hy))
    obtain ⟨is, e⟩ := hi kv List.mem_cons_self
    obtain ⟨h1, h2, _⟩ := h
    rw [h1] at e h2
    show ∃ as, Reads s.heap (Value.ref x.2.1) (kdT x.1) as
    rw [e, kdT_ints]
    refine Dp.reads I _ (.ref x.2.1) _ (.tup (SqT.of h2) ?_) rfl
    rw [e, List.map_map]
    exact dpAll_ints is
theorem each_self : ∀ {xs : List (List Key × Addr × Value)}, EachIs (fun v (b : Addr × List Key) => v = Value.ref b.1) (xs.map fun x => Value.ref x.2.1) (xs.map fun x => (x.2.1, x.1))
  | [] => .nil
  | x :: xs => .cons rfl each_self
theorem each_refs : ∀ {out : List Value} {zs : List (Addr × List Key)}, EachIs (fun v (b : Addr × List Key) => v = Value.ref b.1) out zs → out = zs.map fun x => Value.ref x.1
  | _, _, .nil => rfl
  | _, _, .cons h t => by rw [List.map_cons, ← each_refs t, h]
theorem alike_tupI (xs ys : List Int) : alike (.tuple (xs.map .int)) (.tuple (ys.map .int)) = true := by
  simp only [alike]
  exact alike_ints xs ys
theorem cr_sortDT {X : Cx} (hc : X.calm = true) (hu : X.A.units + 64 < cLine) : CallR X (.builtin "sorted") rSortDT := by
  intro pins s σ H xs us Q I r h
  obtain ⟨d, kvs, rfl, hd, hi, q⟩ := h
  rw [Vals.ref1 r]
  obtain ⟨z, hs, ks, pr, o, es, ep, ho, hx, hdt, he, hn⟩ := (show ObjOk X.prog X.w H s.heap d (.dT kvs) from hd.ok I.hok)
  have l1 : es.size = ks.length := size_of_entries he
  have l2 : kvs.length = ks.length := Paired.length pr
  have hkeys : kvs.map (·.1) = ks.map (·.1) := by
    clear hn he l1 l2 q hi hd z r
    induction pr with
    | nil => rfl
    | cons h t ih => rw [List.map_cons, List.map_cons, ih, h.1]
  refine Calls.call_function_entry PyProof.Rows.kind_sorted PyProof.Rows.plain_sorted PyProof.Rows.entry_sorted (PyProof.Rows.args_sorted1 _) ?_
  unfold Builtin.«sorted»
  refine wpAny_bind (m := checkCount "sorted" 1 1 _) (wpAny_pure ?_)
  refine wpAny_bind (PySem.W.kdu_collect (A := X.A.in1) (kdl_raw (prog := X.prog) (w := X.w) hs hx hdt) (I.ok.hd hc) ho (by omega) fun h' tk acc hk hacc => ?_)
  have ea : acc.toList = ks.map fun x => Value.ref x.2.1 := by
    have hl : acc.toList.length = ks.length := by rw [Array.length_toList, hacc.1]; exact l1
    apply List.ext_getElem?
    intro j
    rw [List.getElem?_map]
    cases hj : acc.toList[j]? with
    | none =>
      have h1 := List.getElem?_eq_none_iff.mp hj
      rw [List.getElem?_eq_none (by omega)]
      all_goals rfl
    | some v =>
      obtain ⟨en, hen, hv⟩ := hacc.2 j v (by rw [← Array.getElem?_toList]; exact hj)
      have qe := entry_at he j
      rw [hen] at qe
      cases hb : ks[j]? with
      | none =>
        rw [hb] at qe
        exact nomatch (show some en = none from qe)
      | some b =>
        rw [hb] at qe
        have e2 : en = entryOfKey (tupleKind (mixKind X.prog X.w)) b := Option.some.inj qe
        rw [hv, e2]
        all_goals rfl
  rw [ea]
  have I1 : Inv X pins σ H { s with heap := h', toks := tk } := I.kept hk
  have hlen : (ks.map fun x => Value.ref x.2.1).length ≤ sizeLine := by rw [List.length_map, ← l2]; exact z
  refine wpAny_bind (wpAny_newList ?_ hlen)
  have hoL : (h'.push (seqObj "list" (ks.map fun x => Value.ref x.2.1).toArray 0)).get? h'.objs.size = some (seqObj "list" (ks.map fun x => Value.ref x.2.1).toArray 0) := Heap.get?_push_size _ rfl
  show wpAny _ _ _ _ _ { s with heap := h'.push (seqObj "list" (ks.map fun x => Value.ref x.2.1).toArray 0), toks := tk }
  have er0 := each_readsK I1 pr hi
  have er : EachIs (fun v (b : Addr × List Key) => ∃ as, Reads (sortingHeap (h'.push (seqObj "list" (ks.map fun x => Value.ref x.2.1).toArray 0)) h'.objs.size (ks.map fun x => Value.ref x.2.1)) v (kdT b.2) as) (ks.map fun x => Value.ref x.2.1) (ks.map fun x => (x.2.1, x.1)) :=
    er0.mono fun _ _ ⟨as, r⟩ => ⟨as, PyProof.Rows.Reads.keeps (fun b ob hob => sortingHeap_old (Nat.ne_of_lt (Heap.lt_size hob)) (Heap.get?_push_of_some _ hob)) r⟩
  have allT : ∀ b ∈ ks.map (fun x => (x.2.1, x.1)), ∃ is : List Int, kdT b.2 = .tuple (is.map .int) := fun b hb => by
    obtain ⟨x, hx, rfl⟩ := List.mem_map.mp hb
    have : x.1 ∈ kvs.map (·.1) := by rw [hkeys]; exact List.mem_map_of_mem hx
    obtain ⟨kv, hkv, e⟩ := List.mem_map.mp this
    obtain ⟨is, e2⟩ := hi kv hkv
    exact ⟨is, by show kdT x.1 = _; rw [← e, e2, kdT_ints]⟩
  have hal : AllAlike ((ks.map fun x => (x.2.1, x.1)).map fun b : Addr × List Key => kdT b.2) := fun a ha b hb => by
    obtain ⟨x, hx, rfl⟩ := List.mem_map.mp ha
    obtain ⟨y, hy, rfl⟩ := List.mem_map.mp hb
    obtain ⟨i1, e1⟩ := allT x hx
    obtain ⟨i2, e2⟩ := allT y hy
    rw [e1, e2]
    exact alike_tupI i1 i2
  have S : SortsAt X.prog X.w X.A.in1.in1 { s with heap := sortingHeap (h'.push (seqObj "list" (ks.map fun x => Value.ref x.2.1).toArray 0)) h'.objs.size (ks.map fun x => Value.ref x.2.1), toks := tk } (dataKind (sortingHeap (h'.push (seqObj "list" (ks.map fun x => Value.ref x.2.1).toArray 0)) h'.objs.size (ks.map fun x => Value.ref x.2.1)) ((ks.map fun x => (x.2.1, x.1)).map fun b : Addr × List Key => kdT b.2)) (ks.map fun x => Value.ref x.2.1) := by
    refine sorts_tups (s := { s with heap := _, toks := tk }) (each_map (R := fun v d => ∃ as, Reads (sortingHeap (h'.push (seqObj "list" (ks.map fun x => Value.ref x.2.1).toArray 0)) h'.objs.size (ks.map fun x => Value.ref x.2.1)) v d as) (fun b : Addr × List Key => kdT b.2) er) hal (fun d hd => ?_) (fun d hd => ?_)
    · obtain ⟨x, hx, rfl⟩ := List.mem_map.mp hd
      obtain ⟨is, e⟩ := allT x hx
      exact ⟨_, e⟩
    · obtain ⟨x, hx, rfl⟩ := List.mem_map.mp hd
      obtain ⟨is, e⟩ := allT x hx
      have dp : (kdT x.2).depth ≤ 2 := by
        rw [e]
        simp only [PyData.depth, depth_ints]
        omega
      show X.A.units + 1 + 1 + _ < _
      omega
  refine wpAny_bind (wpAny_holding (wpAny_call_entry PyProof.Rows.slot_list_sort ⟨_, hoL, rfl⟩ PyProof.Rows.entry_list_sort
    (list_sort_vals (s := { s with heap := h'.push (seqObj "list" (ks.map fun x => Value.ref x.2.1).toArray 0), toks := tk }) hoL S hlen ⟨_, rfl, ?_⟩) (PyProof.Rows.args_list_sort _)))
  have out := sortVals_data (R := fun v (b : Addr × List Key) => v = Value.ref b.1) (enc := fun b : Addr × List Key => kdT b.2) false each_self er hal
  have out2 := each_refs out
  rw [out2]
  have pm := List.mergeSort_perm (ks.map fun x => (x.2.1, x.1)) (dataLe false fun b : Addr × List Key => kdT b.2)
  obtain ⟨e', he'⟩ := PyProof.Rows.sortedHeap_at (vs := ks.map fun x => Value.ref x.2.1) (out := (((ks.map fun x => (x.2.1, x.1)).mergeSort (dataLe false fun b : Addr × List Key => kdT b.2)).map fun x => Value.ref x.1).toArray) hoL
  refine wpAny_pure ⟨_, rfl, .ref h'.objs.size, upd H h'.objs.size (.lst (((ks.map fun x => (x.2.1, x.1)).mergeSort (dataLe false fun b : Addr × List Key => kdT b.2)).map fun x => V.ref x.1)), I1.laid (t' := tk) (fun b u e => ?_) (Nat.le_refl _) ⟨?_, _, e', ?_, he'⟩, rfl, q _ _ ?_ (fun x hx => ?_) (I1.hok.fresh (Nat.le_refl _))⟩
  · rw [PyProof.Rows.sortedHeap_old (Nat.ne_of_lt (Heap.lt_size e)) (by rw [size_push']; exact Nat.lt_succ_of_lt (Heap.lt_size e))]
    exact Heap.get?_push_of_some _ e
  · rw [List.length_map, pm.length_eq, List.length_map, ← l2]; exact z
  · have := vals_refs (((ks.map fun x => (x.2.1, x.1)).mergeSort (dataLe false fun b : Addr × List Key => kdT b.2)).map (·.1))
    rw [List.map_map, List.map_map] at this
    exact this
  · have := pm.map (·.2)
    rw [List.map_map] at this
    rw [hkeys]
    exact this
  · have hx2 := pm.mem_iff.mp hx
    obtain ⟨y, hy, rfl⟩ := List.mem_map.mp hx2
    have : ∀ {l : List (List Key × V)} {m : List (List Key × Addr × Value)}, KT H l m → ∀ y ∈ m, H y.2.1 = some (.tup (y.1.map kV)) := by
      intro l m q
      induction q with
      | nil => intro x hx; exact nomatch hx
      | @cons p q ps qs hq t ih =>
        intro x hx
        rcases List.mem_cons.mp hx with e | hx
        · subst e
          rw [← hq.1]
          exact hq.2.1
        · exact ih x hx
    exact this pr y hy
end SB
set_option maxHeartbeats 2000000
namespace SB
open PySem PySem.Spec PyProof.Rows PySem.W L2 LamX
/-! ### a lambda with one parameter, called -/
theorem lam_call1 {X : Cx} {pins : List (Addr × Obj)} {σ : L2.St} {H : Hp} {s : Shared} (I : Inv X pins σ H s) {A : Around} {k : Nat} (hr : Room (k + 1) A) (e0 : Env0 X.prog X.w X.K X.mg X.base A X.stack s H) {f c' : Addr} {q : Str} {params : Arguments} {body : Expr} {scope : Scope} {pm ctv : Value}
    (of1 : s.heap.get? f = some (kla_obj "<lambda>" q params body scope [] pm c' ctv)) (hc : H c' = some (CodeO c' q)) {N : List Str} {a : Str} (S : FnScope N [a] scope) (hbind : ∀ u, bindArgs (kla_fn "<lambda>" q params body scope [] pm (.ref c') ctv) ⟨[u], []⟩ = pure [(a, u)]) {v : V} {u : Value} (r : RelV v u) {tb : TE} {Q : VK}
    (hbody : ∀ (outer : List Env) (s : Shared) (H : Hp), Room k (A.deeper (envOfC q scope s.heap.objs.size f (.ref c'))) → PE (cxOf C8.CX0 X.prog X.w X.K X.mg X.base N q scope f (.ref c') A outer s H C8.E0) body tb) (h : tb (L2.start N [v]) H Q) :
    wpAny (model X.prog X.w) A (call (.ref f) [u]) (EP X pins σ Q) (fun _ _ => False) s := by
  obtain ⟨⟨oc, vs, t, hoc, hdc, hvc⟩, _, _⟩ := I.hok c' _ hc
  have lim : s.heap.NoLimit := e0.mod.nolimit.keeps fun b o e => (e0.bs b o e).1
  have hkind : ∀ y ∈ [(a, u)], scope.names.lookup y.1 = some .local ∨ (scope.names.lookup y.1 = some .cell ∧ ((cellsFrom (s.heap.objs.size + 1) scope.names []).lookup y.1).isSome = true) := fun y hy => by
    rw [List.mem_singleton.mp hy]
    rcases S.par a (by simp) with q | q
    · exact .inl q
    · exact .inr ⟨q, PySem.W.cellsFrom_some _ _ _ (.inl q)⟩
  have rc : codeAny (model X.prog X.w) A (.call (.ref f) ⟨[u], []⟩) (L2.CR C8.CX0 X.stack X.prog X.w H s Q C8.E0) s := by
    refine PySem.W.kla_callFunE hr.depth of1 rfl S.co S.gen rfl ⟨c', oc, vs, t, rfl, hoc, hdc, hvc⟩ ?_
    rw [hbind]
    refine wpAny_pure ?_
    refine wpAny_newFunctionEnv_cells S.kind hkind fun env he s1 x => ?_
    subst he
    refine ⟨lim.keeps x.toInCall.keep, ?_⟩
    have J : Inv (cxOf C8.CX0 X.prog X.w X.K X.mg X.base N q scope f (.ref c') A X.stack s H C8.E0) [] (L2.start N [v]) H s1 := inv_start (us := [u]) S hr.hd e0 rfl (.cons r .nil) x
    refine PySem.W.kla_codeExpr (wpAny_mono ((hbody X.stack s H (hr.deeper _)).run [] _ _ H Q J h) (fun v s' hq => ?_) fun e s' hq => hq)
    obtain ⟨w', H', J', rv, q⟩ := hq
    exact ⟨w', H', J'.os, J'.bare, J'.base, J'.hok, rv, q⟩
  refine wpAny_call (codeAny_mono rc fun r s2 hq => ?_)
  cases r with
  | error e => exact (show False from hq).elim
  | ok fl =>
    cases fl with
    | ret u => exact I.after hq
    | next => exact False.elim hq
    | brk => exact False.elim hq
    | cont => exact False.elim hq
/-! ### the range collected -/
section
variable {prog : Program} {w : World} {A : Around} {E : Value → Shared → Prop} {s : Shared}
theorem collect_rng {R : List Value → Shared → Prop} {r : Addr} {a b : Int} {t u v : Tok} {n : Nat} (hh : A.handled = none) (hr : IsRange s.heap r a b 1 t u v) (hsmall : Builtin.Range.small a b 1 = true) (hn : Builtin.Range.rangeSize a b 1 = n) (hlen : n ≤ 2 ^ 24)
    (h : ∀ (h' : Heap) (tk : Nat) (acc : Array Value), (∀ b o, s.heap.get? b = some o → h'.get? b = some o) → ItemsOf (fun i v => ∃ t, v = .int (a + i * 1) t) acc n → R acc.toList { s with heap := h', toks := tk }) :
    wpAny (model prog w) A (collect (.ref r)) R E s := by
  unfold collect
  refine wpAny_bind (wpAny_runValue (codeAny_builtin entry_proto_collect' ?_))
  rw [Around.under_plainId PySem.F.plain_proto_collect _]
  show wpAny _ A.in1 (newList [] >>= fun l => again (.builtin "list.__iadd__" ⟨[l, .ref r], []⟩)) _ _ s
  refine wpAny_bind (wpAny_newObj_type ?_)
  refine wpAny_pure ⟨plainId_quiet PySem.F.plain_list_iadd _, codeAny_builtin entry_list_iadd' ?_⟩
  rw [Around.under_plainId PySem.F.plain_list_iadd _]
  have hS₁ : (s.heap.push { cls := .type "list", data := .seq ([] : List Value).toArray }).get? s.heap.objs.size = some { cls := .type "list", data := .seq #[] } := Heap.get?_push_size _ rfl
  show wpAny _ A.in1 (Builtin.List.listExtendWith (.ref s.heap.objs.size) (.ref r) (.ref s.heap.objs.size)) _ _ _
  have key := wpAny_extend_range (prog := prog) (w := w) (A := A) (s := { s with heap := s.heap.push { cls := .type "list", data := .seq ([] : List Value).toArray } })
    (R := fun (q : Result) (s' : Shared) => ∃ (h' : Heap) (tk : Nat) (acc' : Array Value) (c' : Nat), q = .ok (.ret (.ref s.heap.objs.size)) ∧ s' = { s with heap := h', toks := tk } ∧
      (∀ b o, s.heap.get? b = some o → h'.get? b = some o) ∧ h'.get? s.heap.objs.size = some { cls := .type "list", dict := none, data := .seq acc' c', slots := #[] } ∧ ItemsOf (fun i v => ∃ t, v = .int (a + i * 1) t) acc' n)
    hh (Heap.get?_push_of_some _ hr) hsmall hn hlen s.heap.objs.size (.ref s.heap.objs.size) 0 hS₁
    (fun h' tk acc' c' hk hS' hacc => ⟨h', tk, acc', c', rfl, rfl, fun b o e => hk b o (Nat.ne_of_lt (Heap.lt_size e)) (Heap.get?_push_of_some _ e), hS', hacc⟩)
  refine wpAny_mono key (fun fin s' x => ?_) fun e s' x => ?_
  · cases fin with
    | done f =>
      obtain ⟨h', tk, acc', c', e, rfl, hk, hS', hacc⟩ := x
      cases e
      show wpAny _ A (load s.heap.objs.size >>= _) _ _ _
      refine wpAny_bind (wpAny_load hS' ?_)
      exact wpAny_pure (h h' tk acc' hk hacc)
    | again c₁ =>
      refine ⟨x.1, codeAny_mono x.2 fun q s₂ y => ?_⟩
      obtain ⟨h', tk, acc', c', rfl, rfl, hk, hS', hacc⟩ := y
      show wpAny _ A (load s.heap.objs.size >>= _) _ _ _
      refine wpAny_bind (wpAny_load hS' ?_)
      exact wpAny_pure (h h' tk acc' hk hacc)
  · obtain ⟨_, _, _, _, e', _⟩ := x
    cases e'
/-! ### behind the keys: the items by their keys -/
variable {a kS : Addr} {vs : List Value} {kz : List Int} {keys : Array Value} {e e1 : Nat} {P : PySem.Fin → Shared → Prop}
theorem tailX {st : SortSt} (hkS : s.heap.get? kS = some (seqObj "list" keys e)) (ha : s.heap.get? a = some (seqObj "list" #[] e1)) (hka : kS ≠ a) (hk : IntsAre keys.toList kz) (hlen : kz.length = vs.length) (hZ : vs.length ≤ sizeLine)
    (hp : (arrOf st).Perm (keys.zip vs.toArray)) (hs : SortedTo (arrOf st) (arrOf st).size) (hfl : failedOf st = none)
    (h : ∀ h' out c, (∀ b o, b ≠ kS → b ≠ a → s.heap.get? b = some o → h'.get? b = some o) → (∃ o, h'.get? kS = some o) → h'.get? a = some (seqObj "list" out c) → KskOut false kz vs out.toList → P (.done (.ret .none)) { s with heap := h' }) :
    wpAny (model prog w) A (ksk_tail a false e1 (.ref kS) st) P E s := by
  have hZ2 := hZ
  rw [sizeLine_eq] at hZ2
  have hsz : keys.size = vs.length := by
    have h1 := hk.length
    rw [Array.length_toList] at h1
    omega
  have hsz2 : (arrOf st).size = vs.length := by rw [hp.size_eq, Array.size_zip, hsz, List.size_toArray, Nat.min_self]
  have hout : ((arrOf st).map (·.2)).size = vs.length := by rw [Array.size_map]; exact hsz2
  have s1 := Heap.SameBut.update s.heap kS (Obj.mapSeq fun _ => (#[] : Array Value))
  have na1 : (s.heap.update kS (Obj.mapSeq fun _ => (#[] : Array Value))).get? a = some (seqObj "list" #[] e1) := (s1.2 a hka.symm).trans ha
  have nk1 : ∃ o, (s.heap.update kS (Obj.mapSeq fun _ => (#[] : Array Value))).get? kS = some o := ⟨_, get?_update_seq hkS fun _ => #[]⟩
  have s2 := Heap.SameBut.update (s.heap.update kS (Obj.mapSeq fun _ => (#[] : Array Value))) a (Obj.mapSeq fun _ => (arrOf st).map (·.2))
  obtain ⟨c2, hc2⟩ : ∃ c2, ((s.heap.update kS (Obj.mapSeq fun _ => (#[] : Array Value))).update a (Obj.mapSeq fun _ => (arrOf st).map (·.2))).get? a = some (seqObj "list" ((arrOf st).map (·.2)) c2) :=
    ⟨_, get?_update_seq na1 fun _ => (arrOf st).map (·.2)⟩
  unfold ksk_tail
  try dsimp only
  refine wpAny_bind (listUpdate_at hkS rfl ?_ (by rw [hsz, sizeLine_eq]; omega) (Nat.zero_le _))
  refine wpAny_bind (wpAny_letGo ?_)
  refine wpAny_bind (seqEpoch_at na1 rfl ?_)
  refine wpAny_bind (listUpdate_at na1 rfl ?_ (Nat.zero_le _) (Nat.le_trans (Nat.le_of_eq hout) (by rw [sizeLine_eq]; omega)))
  rw [hfl]
  simp only [bne_self_eq_false, Bool.false_eq_true, if_false]
  have ko : KskOut false kz vs ((arrOf st).map (·.2)).toList := by
    have := ksk_out (vs := vs) (b := false) hk hp hs
    simpa using this
  refine wpAny_pure (h _ _ c2 (fun b o h1 h2 e => ?_) ?_ hc2 ko)
  · exact (s2.2 b h2).trans ((s1.2 b h1).trans e)
  · obtain ⟨o, ho⟩ := nk1
    exact ⟨o, (s2.2 kS hka).trans ho⟩
theorem endX (hkS : s.heap.get? kS = some (seqObj "list" keys e)) (ha : s.heap.get? a = some (seqObj "list" #[] e1)) (hka : kS ≠ a) (hk : IntsAre keys.toList kz) (hlen : kz.length = vs.length) (hZ : vs.length ≤ sizeLine)
    (h : ∀ h' out c, (∀ b o, b ≠ kS → b ≠ a → s.heap.get? b = some o → h'.get? b = some o) → (∃ o, h'.get? kS = some o) → h'.get? a = some (seqObj "list" out c) → KskOut false kz vs out.toList → P (.done (.ret .none)) { s with heap := h' }) :
    wpAny (model prog w) A (ksk_end a false vs.toArray e1 (.ref kS) keys) P E s := by
  have hZ2 := hZ
  rw [sizeLine_eq] at hZ2
  have hsz : keys.size = vs.length := by
    have h1 := hk.length
    rw [Array.length_toList] at h1
    omega
  have hzs : (keys.zip vs.toArray).size = vs.length := by rw [Array.size_zip, hsz, List.size_toArray, Nat.min_self]
  unfold ksk_end
  simp only [Bool.false_eq_true, if_false]
  by_cases h2 : vs.toArray.size < 2
  · rw [if_pos h2, if_pos h2]
    refine wpAny_bind (wpAny_pure ?_)
    rw [StateT.run_pure]
    refine wpAny_bind (wpAny_pure ?_)
    try dsimp only
    refine tailX (st := SortSt.mk' general' (keys.zip vs.toArray) #[] 7 none) hkS ha hka hk hlen hZ (Array.Perm.refl _) ?_ rfl h
    intro i j hij hj
    have hj2 : j < (keys.zip vs.toArray).size := hj
    rw [hzs] at hj2
    rw [List.size_toArray] at h2
    have : i = j := by omega
    subst this
    exact Int.le_refl _
  · rw [if_neg h2, if_neg h2]
    rw [List.size_toArray] at h2
    rw [ksk_kind hk (by rw [hsz]; omega)]
    refine wpAny_bind (wpAny_pure ?_)
    refine wpAny_bind (wpAny_mono (wpS_sortRunsAny (κ := intKind) (a₀ := keys.zip vs.toArray) (st := SortSt.mk' oneType' (keys.zip vs.toArray) #[] 7 none)
      (Q := fun _ st' => (arrOf st').Perm (keys.zip vs.toArray) ∧ failedOf st' = none ∧ SortedTo (arrOf st') (keys.zip vs.toArray).size)
      intKind_oneLt (ksk_keysOfInt (ksk_intKeys hk)) ⟨Array.Perm.refl _, rfl, rfl⟩ rfl (by rw [hzs]; omega) fun st' a1 a2 a3 => ⟨a1, a2, sortedTo_of_int a3⟩) ?_ fun _ _ e => e)
    rintro ⟨⟨⟩, st'⟩ s' ⟨rfl, hp, hf, hs⟩
    try dsimp only
    exact tailX hkS ha hka hk hlen hZ hp (by rw [hp.size_eq]; exact hs) hf h
end
end SB
namespace SB
open PySem PySem.Spec PyProof.Rows PySem.W L2 LamX
theorem ints_vals : ∀ {vs : List Value} {ns : List Int}, IntsAre vs ns → Vals (ns.map V.int) vs
  | _, _, .nil => .nil
  | _, _, .cons n t h => .cons ⟨t, rfl⟩ (ints_vals h)
theorem ints_of : ∀ {us : List Value} {ks : List Int}, us.length = ks.length → (∀ (j : Nat) (v : Value), us[j]? = some v → ∃ (x : Int) (t : Tok), ks[j]? = some x ∧ v = Value.int x t) → IntsAre us ks
  | [], [], _, _ => .nil
  | u :: us, k :: ks, hl, h => by
    obtain ⟨x, t, e1, e2⟩ := h 0 u rfl
    have e1' : k = x := Option.some.inj e1
    subst e1'
    subst e2
    refine .cons _ _ (ints_of (by simpa using hl) fun j v e => ?_)
    obtain ⟨x, t, a, b⟩ := h (j + 1) v (by simpa using e)
    exact ⟨x, t, by simpa using a, b⟩
  | [], _ :: _, hl, _ => by simp at hl
  | _ :: _, [], hl, _ => by simp at hl
/-- an address of our own, untracked -/
structure Mine (X : Cx) (pins : List (Addr × Obj)) (b : Addr) : Prop where
  l : b ≠ X.env.locals
  f : b ∉ X.fs
  n : b ∈ X.ex ∨ X.s_0.heap.objs.size ≤ b
  c : ∀ x c, X.env.cells.lookup x = some c → c ≠ b
  p : ∀ q ∈ X.pn ++ pins, q.1 ≠ b
theorem Mine.of {X : Cx} {pins : List (Addr × Obj)} {σ : L2.St} {H : Hp} {s : Shared} {b : Addr} (I : Inv X pins σ H s) (hb : s.heap.objs.size ≤ b) : Mine X pins b := by
  obtain ⟨_, h1, h2, h3, h4, h5⟩ := I.fpOk (H' := fun _ => none) hb rfl
  exact ⟨h1, h2, h3, h4, h5⟩
theorem Mine.fp {X : Cx} {pins : List (Addr × Obj)} {H : Hp} {b : Addr} (m : Mine X pins b) (hn : H b = none) : FpOk X pins H b := ⟨hn, m.l, m.f, m.n, m.c, m.p⟩
abbrev rng0 (n : Nat) : List Int := (List.range n).map fun i => ((i : Nat) : Int)
theorem sort_key {X : Cx} {pins : List (Addr × Obj)} {σ : L2.St} {H : Hp} {s : Shared} (I : Inv X pins σ H s) {f : Addr} {ofn : Obj} (hf : s.heap.get? f = some ofn) (hfn : H f = none) (hfL : f ≠ X.env.locals) (hfs : f ∉ X.fs) (hfc : ∀ v, ofn.data ≠ .cell v) {r : Addr} {n : Nat}
    (hr : H r = some (.rng 0 n)) (hn : n ≤ 2 ^ 20) (hh : X.A.handled = none) (g : Int → Int) (J : Hp → Prop) (j0 : J H) {Q : VK}
    (turn : ∀ (pn : List (Addr × Obj)) (s : Shared) (H : Hp) (i : Int) (t : Tok), Inv X pn σ H s → s.heap.get? f = some ofn → J H → 0 ≤ i → i < n → wpAny (model X.prog X.w) X.A.in1.in1 (call (.ref f) [.int i t]) (EP X pn σ fun v H' => v = .int (g i) ∧ J H') (fun _ _ => False) s)
    (fin : ∀ H2 (ns : List Int) p, J H2 → ns.Perm (rng0 n) → ns.Pairwise (fun x y => g x ≤ g y) → H2 p = none → Q (.ref p) (upd H2 p (.lst (ns.map V.int)))) :
    wpAny (model X.prog X.w) X.A (call (.builtin "sorted") [.ref r] [(Str.ofString "key", .ref f)]) (EP X pins σ Q) X.xe s := by
  obtain ⟨t, u, v, hR⟩ := (show ObjOk X.prog X.w H s.heap r (.rng 0 n) from I.hok r _ hr)
  have hsz24 : sizeLine = 16777216 := sizeLine_eq
  refine call_function_entry_kw PyProof.Rows.kind_sorted PyProof.Rows.plain_sorted PyProof.Rows.entry_sorted (ksk_s1 _ _) ?_
  unfold Builtin.«sorted»
  refine wpAny_bind (m := checkCount "sorted" 1 1 _) (wpAny_pure ?_)
  refine wpAny_bind (collect_rng (A := X.A.in1) (n := n) hh hR (small_one (by omega) (by omega) (by omega) (by omega)) (by have := rangeSize_nat 0 (n : Int); simpa using this) (by omega) fun h1 tk1 acc hk1 hacc => ?_)
  have hlen : acc.toList.length = n := by rw [Array.length_toList, hacc.1]
  have hI : IntsAre acc.toList (rng0 n) := ints_of (by rw [hlen, List.length_map, List.length_range]) fun j w e => by
    have hj : j < n := by
      have := (List.getElem?_eq_some_iff.mp e).1
      omega
    obtain ⟨t, ht⟩ := hacc.2 j w (by rw [← Array.getElem?_toList]; exact e)
    refine ⟨(j : Int), t, ?_, ?_⟩
    · rw [List.getElem?_map, List.getElem?_range hj]; rfl
    · rw [ht, show (0 : Int) + j * 1 = j by omega]
  have I1 : Inv X pins σ H { s with heap := h1, toks := tk1 } := I.kept hk1
  refine wpAny_bind (wpAny_newList ?_ (by omega))
  have hoL : (h1.push (seqObj "list" acc.toList.toArray 0)).get? h1.objs.size = some (seqObj "list" acc.toList.toArray 0) := Heap.get?_push_size _ rfl
  have Ma : Mine X pins h1.objs.size := .of I1 (Nat.le_refl _)
  have na : H h1.objs.size = none := I1.hok.fresh (Nat.le_refl _)
  have I2 : Inv X pins σ H { s with heap := h1.push (seqObj "list" acc.toList.toArray 0), toks := tk1 } := I1.kept (t' := tk1) fun b o e => Heap.get?_push_of_some _ e
  have fa : f ≠ h1.objs.size := Nat.ne_of_lt (Heap.lt_size (hk1 f _ hf))
  have hf2 : (h1.push (seqObj "list" acc.toList.toArray 0)).get? f = some ofn := Heap.get?_push_of_some _ (hk1 f _ hf)
  generalize h1.objs.size = a at *
  generalize h1.push (seqObj "list" acc.toList.toArray 0) = h2 at *
  show wpAny _ _ _ _ _ { s with heap := h2, toks := tk1 }
  refine wpAny_bind (wpAny_holding (wpAny_call_entry_kw PyProof.Rows.slot_list_sort ⟨_, hoL, rfl⟩ PyProof.Rows.entry_list_sort ?body (ksk_l1 _ _)))
  case body =>
  show wpAny (model X.prog X.w) X.A.in1.in1 (Builtin.«list.sort» ⟨[.ref a], [(Str.ofString "key", .ref f)]⟩) _ _ _
  rw [ksk_t1]
  have s1 := Heap.SameBut.update h2 a (Obj.mapSeq fun _ => (#[] : Array Value))
  obtain ⟨e1, ho1⟩ : ∃ e1, (h2.update a (Obj.mapSeq fun _ => (#[] : Array Value))).get? a = some (seqObj "list" #[] e1) := ⟨_, get?_update_seq hoL fun _ => #[]⟩
  have I3 : Inv X pins σ H { s with heap := h2.update a (Obj.mapSeq fun _ => (#[] : Array Value)), toks := tk1 } := by
    have q := I2.turned (h' := h2.update a (Obj.mapSeq fun _ => (#[] : Array Value))) (t' := tk1) (it := a) (fun b o hb e => (s1.2 b hb).trans e) na Ma.l Ma.n Ma.c Ma.p
    exact q
  have hf3 : (h2.update a (Obj.mapSeq fun _ => (#[] : Array Value))).get? f = some ofn := (s1.2 f fa).trans hf2
  unfold ksk_tree
  refine wpAny_bind (listItems_at hoL rfl ?_)
  refine wpAny_bind (listUpdate_at hoL rfl ?_ (by rw [List.size_toArray]; omega) (Nat.zero_le _))
  refine wpAny_bind (seqEpoch_at ho1 rfl ?_)
  refine wpAny_bind (wpAny_newTuple ?_ (by show acc.toList.length ≤ _; omega))
  refine wpAny_bind (wpAny_newList ?_ (Nat.zero_le _))
  refine wpAny_holding ?_
  generalize h2.update a (Obj.mapSeq fun _ => (#[] : Array Value)) = h3 at *
  have I4 : Inv X pins σ H { s with heap := h3.push (seqObj "tuple" acc.toList.toArray 0), toks := tk1 } := I3.kept (t' := tk1) fun b o e => Heap.get?_push_of_some _ e
  have Mk : Mine X pins (h3.push (seqObj "tuple" acc.toList.toArray 0)).objs.size := .of I4 (Nat.le_refl _)
  have nk : H (h3.push (seqObj "tuple" acc.toList.toArray 0)).objs.size = none := I4.hok.fresh (Nat.le_refl _)
  have hka : (h3.push (seqObj "tuple" acc.toList.toArray 0)).objs.size ≠ a := Nat.ne_of_gt (Heap.lt_size (Heap.get?_push_of_some _ ho1))
  have hkf : (h3.push (seqObj "tuple" acc.toList.toArray 0)).objs.size ≠ f := Nat.ne_of_gt (Heap.lt_size (Heap.get?_push_of_some _ hf3))
  have hk5 : ((h3.push (seqObj "tuple" acc.toList.toArray 0)).push (seqObj "list" #[] 0)).get? (h3.push (seqObj "tuple" acc.toList.toArray 0)).objs.size = some (seqObj "list" #[] 0) := Heap.get?_push_size _ rfl
  have ha5 : ((h3.push (seqObj "tuple" acc.toList.toArray 0)).push (seqObj "list" #[] 0)).get? a = some (seqObj "list" #[] e1) := Heap.get?_push_of_some _ (Heap.get?_push_of_some _ ho1)
  have hf5 : ((h3.push (seqObj "tuple" acc.toList.toArray 0)).push (seqObj "list" #[] 0)).get? f = some ofn := Heap.get?_push_of_some _ (Heap.get?_push_of_some _ hf3)
  have I5 : Inv X pins σ H { s with heap := (h3.push (seqObj "tuple" acc.toList.toArray 0)).push (seqObj "list" #[] 0), toks := tk1 } := I4.kept (t' := tk1) fun b o e => Heap.get?_push_of_some _ e
  show wpAny _ _ _ _ _ { s with heap := (h3.push (seqObj "tuple" acc.toList.toArray 0)).push (seqObj "list" #[] 0), toks := tk1 }
  generalize (h3.push (seqObj "tuple" acc.toList.toArray 0)).objs.size = kS at *
  generalize (h3.push (seqObj "tuple" acc.toList.toArray 0)).push (seqObj "list" #[] 0) = h5 at *
  have repin : ∀ {H' : Hp} {s' : Shared} {kA : Array Value} {e : Nat}, Inv X pins σ H' s' → s'.heap.get? f = some ofn → H' f = none → s'.heap.get? a = some (seqObj "list" #[] e1) → H' a = none → s'.heap.get? kS = some (seqObj "list" kA e) → H' kS = none →
      Inv X (pins ++ [(f, ofn), (a, seqObj "list" #[] e1), (kS, seqObj "list" kA e)]) σ H' s' := fun {H' s' kA e} I' q1 q2 q3 q4 q5 q6 => I'.pins_of fun p hp => by
    rcases List.mem_append.mp hp with z | z
    · exact I'.pin p (List.mem_append_right _ z)
    · rcases List.mem_cons.mp z with rfl | z
      · exact ⟨q1, q2, hfL, hfs, hfc⟩
      · rcases List.mem_cons.mp z with rfl | z
        · exact ⟨q3, q4, Ma.l, Ma.f, fun v z => by cases z⟩
        · rw [List.mem_singleton.mp z]
          exact ⟨q5, q6, Mk.l, Mk.f, fun v z => by cases z⟩
  have unpin : ∀ {H' : Hp} {s' : Shared} {pl : List (Addr × Obj)}, Inv X (pins ++ pl) σ H' s' → Inv X pins σ H' s' := fun I' => I'.pins_of fun p hp => I'.pin p (List.mem_append_right _ (List.mem_append_left _ hp))
  unfold ksk_rest
  refine wpAny_bind (wpAny_rule ?_)
  rw [List.forIn_toArray]
  refine wpAny_bind (ksk_fold (fun i s' => ∃ H' kA e, Inv X (pins ++ [(f, ofn), (a, seqObj "list" #[] e1), (kS, seqObj "list" kA e)]) σ H' s' ∧ J H' ∧ IntsAre kA.toList (((rng0 n).map g).take i)) acc.toList 0 { s with heap := h5, toks := tk1 }
    ⟨H, #[], 0, repin I5 hf5 hfn ha5 na hk5 nk, j0, by simpa using IntsAre.nil⟩ ?step ?done)
  case step =>
    rintro j x s' hx ⟨H', kA, e, I', jj, hk⟩
    simp only [Nat.zero_add] at hk ⊢
    have hj : j < n := by
      have := (List.getElem?_eq_some_iff.mp hx).1
      omega
    have hzk : (rng0 n)[j]? = some (j : Int) := by
      rw [List.getElem?_map, List.getElem?_range hj]; rfl
    obtain ⟨tx, hx2⟩ := hI.get j (j : Int) hzk
    rw [hx2] at hx
    cases hx
    have hkz : kA.size = j := by
      have h1 := hk.length
      rw [Array.length_toList, List.length_take, List.length_map, List.length_map, List.length_range] at h1
      omega
    have pf := I'.pin (f, ofn) (by simp)
    refine wpAny_bind (wpAny_attempt (wpAny_mono (turn _ s' H' (j : Int) tx I' pf.1 jj (by omega) (by omega)) (fun v s'' he => ?_) fun _ _ hF => hF.elim))
    obtain ⟨v', H2, I2', rv, rfl, j2⟩ := he
    obtain ⟨t2, rfl⟩ := rv
    have qf := I2'.pin (f, ofn) (by simp)
    have qa := I2'.pin (a, seqObj "list" #[] e1) (by simp)
    have qk := I2'.pin (kS, seqObj "list" kA e) (by simp)
    have s2 := Heap.SameBut.update s''.heap kS (Obj.mapSeq (·.push (.int (g j) t2)))
    obtain ⟨c2, hc2⟩ : ∃ c2, (s''.heap.update kS (Obj.mapSeq (·.push (.int (g j) t2)))).get? kS = some (seqObj "list" (kA.push (.int (g j) t2)) c2) := ⟨_, get?_update_seq qk.1 (·.push (.int (g j) t2))⟩
    refine wpAny_bind (listUpdate_at qk.1 rfl ?_ (by omega) (Nat.le_trans (Nat.le_of_eq (Array.size_push ..)) (by omega)))
    refine wpAny_pure ⟨rfl, H2, kA.push (.int (g j) t2), c2, repin ((unpin I2').turned (t' := s''.toks) (it := kS) (fun b o hb e => (s2.2 b hb).trans e) qk.2.1 Mk.l Mk.n Mk.c Mk.p) ((s2.2 f hkf.symm).trans qf.1) qf.2.1 ((s2.2 a hka.symm).trans qa.1) qa.2.1 hc2 qk.2.1, j2, ?_⟩
    have hg : ((rng0 n).map g)[j]? = some (g j) := by rw [List.getElem?_map, hzk]; rfl
    have ek : ((rng0 n).map g).take (j + 1) = ((rng0 n).map g).take j ++ [g j] := by rw [List.take_add_one, hg]; simp
    have ea : (kA.push (Value.int (g j) t2)).toList = kA.toList ++ [Value.int (g j) t2] := by simp
    rw [ea, ek]
    exact ksk_snoc hk
  case done =>
    rintro s' ⟨H', kA, e, I', jj, hk⟩
    have hk' : IntsAre kA.toList ((rng0 n).map g) := by
      have e3 : ((rng0 n).map g).take (0 + acc.toList.length) = (rng0 n).map g := List.take_of_length_le (by rw [List.length_map, List.length_map, List.length_range]; omega)
      rw [e3] at hk
      exact hk
    have qa := I'.pin (a, seqObj "list" #[] e1) (by simp)
    have qk := I'.pin (kS, seqObj "list" kA e) (by simp)
    refine wpAny_bind (listItems_at qk.1 rfl ?_)
    refine endX qk.1 qa.1 hka hk' (by rw [List.length_map, List.length_map, List.length_range, hlen]) (by omega) fun h' out c kp hko hao ko => ⟨_, rfl, ?_⟩
    have I6 : Inv X pins σ H' { s' with heap := h', toks := s'.toks } := (unpin I').turnedL (t' := s'.toks) (ch := [kS, a]) (fun b o hb e => kp b o (fun z => hb (by simp [z])) (fun z => hb (by simp [z])) e) fun b hb => by
      rcases List.mem_cons.mp hb with rfl | z
      · exact Mk.fp qk.2.1
      · rw [List.mem_singleton.mp z]; exact Ma.fp qa.2.1
    obtain ⟨ps, hp, ho, hs⟩ := ko
    have hrel : ∀ p, p ∈ ((rng0 n).map g).zip acc.toList → p.1 = g (numOf p.2) ∧ p.2 ∈ acc.toList := by
      rw [← hI.nums, List.map_map, List.zip_map_left]
      intro p hp
      obtain ⟨⟨u, v⟩, hq, rfl⟩ := List.mem_map.mp hp
      have h1 : u = v ∧ u ∈ acc.toList := mem_zip_self hq
      refine ⟨?_, ?_⟩
      · show g (numOf u) = g (numOf v)
        rw [h1.1]
      · show v ∈ acc.toList
        rw [← h1.1]
        exact h1.2
    have hI2 : IntsAre (ps.map Prod.snd) ((ps.map Prod.snd).map numOf) := intsAre_map _ fun v hv => by
      obtain ⟨p, hp', rfl⟩ := List.mem_map.mp hv
      have := (hrel p (hp.mem_iff.mp hp')).2
      obtain ⟨i, t, e⟩ := SrtO.ints_mem hI _ this
      exact ⟨i, t, e⟩
    have hperm : ((ps.map Prod.snd).map numOf).Perm (rng0 n) := by
      have h1 := (hp.map Prod.snd).map numOf
      rw [List.map_snd_zip (by rw [List.length_map, List.length_map, List.length_range]; omega), hI.nums] at h1
      exact h1
    have hsort : ((ps.map Prod.snd).map numOf).Pairwise (fun x y => g x ≤ g y) := by
      rw [List.map_map, List.pairwise_map]
      refine List.Pairwise.imp_of_mem ?_ hs
      intro p q hp1 hq1 hpq
      have e1 := (hrel p (hp.mem_iff.mp hp1)).1
      have e2 := (hrel q (hp.mem_iff.mp hq1)).1
      have hpq : p.1 ≤ q.1 := by simpa using hpq
      show g (numOf p.2) ≤ g (numOf q.2)
      rw [← e1, ← e2]
      exact hpq
    have hl2 : (((ps.map Prod.snd).map numOf).map V.int).length ≤ sizeLine := by
      rw [List.length_map, hperm.length_eq, List.length_map, List.length_range]
      omega
    have I7 := I6.take (t' := s'.toks) (h' := h') (it := a) (o := .lst (((ps.map Prod.snd).map numOf).map V.int)) (fun b ob _ e => e) (Ma.fp qa.2.1) ⟨hl2, out.toList, c, by rw [ho]; exact ints_vals hI2, by rw [Array.toArray_toList]; exact hao⟩
    exact wpAny_pure ⟨_, rfl, .ref a, _, I7, rfl, fin H' _ a jj hperm hsort qa.2.1⟩
end SB
namespace SB
open PySem PySem.Spec PyProof.Rows PySem.W L2 LamX
/-- the lambda is made; all but its table stays -/
theorem lam_make3 {X : Cx} {pins : List (Addr × Obj)} {σ : L2.St} {H : Hp} {s : Shared} {c P : Addr} {params : Arguments} {body : Expr} {scope : Scope} {pos : Pos} {E : Value → Shared → Prop} {Q : Value → Shared → Prop} (I : Inv X pins σ H s) (TB : TabB X.base X.mg c P) (hcode : X.env.code = .ref c)
    (hT : TabS H P (X.env.qual ++ "<lambda>")) (hdef : defaultsOf params X.env = ([], [])) (hfree : ∀ y ∈ scope.names, y.2 = .free → ∃ c, X.env.cells.lookup y.1 = some c)
    (h : ∀ (f c' : Addr) (pm ctv : Value) (H1 : Hp) (s' : Shared), Inv X pins σ H1 s' → Kp (· = P) H H1 → TabS H1 P (X.env.qual ++ "<lambda>") →
      s'.heap.get? f = some (PySem.W.kla_obj "<lambda>" (X.env.qual ++ "<lambda>") params body scope (cloFrom X.env.cells scope.names []) pm c' ctv) → H1 f = none → f ≠ X.env.locals → f ∉ X.fs → H1 c' = some (CodeO c' (X.env.qual ++ "<lambda>")) → Q (.ref f) s') :
    wpAny (model X.prog X.w) X.A (eval (.Lambda params body scope pos) X.env) Q E s := by
  obtain ⟨ps, hP, ht, ha⟩ := hT
  refine PySem.W.kla_eval hdef ?_
  have bP : s.heap.BuiltinsAt X.mg P := TB.bm.keeps I.bk
  have hP' : s.heap.get? P = some { cls := .none, data := .fields ps } := I.hok P _ hP
  cases hc : codeAmong pos ps.toList with
  | none =>
    refine PySem.W.kla_makeFunction (mg := X.mg) (c := c) (P := P) (ps := ps) (closure_ok hfree) I.ok.glob (I.mod.glob.keeps I.bk) hcode (TB.code.keeps I.bk) hP' ht hc TB.gP bP fun c' ctv h' tk hx hge hlt hrec htb => ?_
    obtain ⟨c2, oc, vs, t, e2, hoc, hd, hv⟩ := hrec
    cases e2
    have hsz : s.heap.objs.size ≤ h'.objs.size := Nat.le_trans hge (Nat.le_of_lt hlt)
    have nC : H c' = none := I.hok.fresh hge
    have I1 := inv_table (t' := tk) (more := #[rawInt pos.line, rawInt pos.col, .ref c']) (h' := h'.push (PySem.W.kla_obj "<lambda>" (X.env.qual ++ "<lambda>") params body scope (cloFrom X.env.cells scope.names []) ((X.mg "__name__").getD .none) c' ctv)) I hP
      (fun b o hb e => Heap.get?_push_of_some _ (hx b o hb e)) (Heap.get?_push_of_some _ htb) hge ⟨oc, vs, t, Heap.get?_push_of_some _ hoc, hd, hv⟩
    have hE : Kp (· = P) H (upd (upd H P (.tbl (ps ++ #[rawInt pos.line, rawInt pos.col, .ref c']))) c' (CodeO c' (X.env.qual ++ "<lambda>"))) :=
      (Kp.mut (B := (· = P)) (p := P) (H := H) (o := .tbl (ps ++ #[rawInt pos.line, rawInt pos.col, .ref c'])) rfl (by rw [hP]; simp)).trans (.new (by rw [upd_ne (fun z => by rw [z, hP] at nC; cases nC)]; exact nC))
    have eL : (ps ++ #[rawInt pos.line, rawInt pos.col, .ref c']).toList = ps.toList ++ [rawInt pos.line, rawInt pos.col, .ref c'] := by simp
    have nP : ∀ b q, H b = some (CodeO b q) → b ≠ P := fun b q e z => by
      rw [z, hP] at e
      cases e
    refine h h'.objs.size c' ((X.mg "__name__").getD .none) ctv _ _ I1 hE ⟨_, by rw [upd_ne (ne_of_none hP nC), upd_same], by rw [eL]; exact PySem.TriplesOk_snoc _ _ _ _ ht, fun p' cv hcv => ?_⟩ (Heap.get?_push_size _ rfl) ?_ (Nat.ne_of_gt (Nat.lt_of_lt_of_le I.lt hsz)) (I.nofs hsz) upd_same
    · rw [eL] at hcv
      rcases among_app _ ht hcv with z | z
      · obtain ⟨c0, e1, e2⟩ := ha p' cv z
        exact ⟨c0, e1, hE.1 _ _ (nP _ _ e2) e2⟩
      · exact ⟨c', z, upd_same⟩
    · have n1 : h'.objs.size ≠ c' := Nat.ne_of_gt hlt
      have n2 : h'.objs.size ≠ P := Nat.ne_of_gt (Nat.lt_of_lt_of_le (Heap.lt_size hP') hsz)
      rw [upd_ne n1, upd_ne n2]
      exact I.hok.fresh hsz
  | some cv =>
    obtain ⟨c', e, hco⟩ := ha pos cv hc
    subst e
    refine PySem.W.kla_makeFunctionHit (mg := X.mg) (c := c) (P := P) (ps := ps) (closure_ok hfree) I.ok.glob (I.mod.glob.keeps I.bk) hcode (TB.code.keeps I.bk) hP' ht hc bP fun ctv h' tk hx hsz => ?_
    have I1 : Inv X pins σ H { s with heap := h'.push (PySem.W.kla_obj "<lambda>" (X.env.qual ++ "<lambda>") params body scope (cloFrom X.env.cells scope.names []) ((X.mg "__name__").getD .none) c' ctv), toks := tk } := I.kept fun b o e => Heap.get?_push_of_some _ (hx b o e)
    exact h h'.objs.size c' ((X.mg "__name__").getD .none) ctv H _ I1 (Kp.refl H) ⟨ps, hP, ht, ha⟩ (Heap.get?_push_size _ rfl) (I.hok.fresh hsz) (Nat.ne_of_gt (Nat.lt_of_lt_of_le I.lt hsz)) (I.nofs hsz) hco
/-- range(n) as a value -/
def r_rng1 : List V → Hp → VK → Prop := fun vs H Q => ∃ j, vs = [V.int j] ∧ ∀ p, H p = none → Q (.ref p) (upd H p (.rng 0 j))
theorem k_rng1 {X : Cx} : CallR X (.type "range") r_rng1 := by
  intro pins s σ H vs us Q I r h
  obtain ⟨j, rfl, q⟩ := h
  obtain ⟨u1, rfl, rj⟩ := vals1 r
  obtain ⟨t, rfl⟩ := rj
  exact call_range_1 ⟨.ref s.heap.objs.size, upd H s.heap.objs.size (.rng 0 j), I.laid (t' := s.toks + 2) (fun b o e => Heap.get?_push_of_some _ e) (Nat.le_refl _) ⟨_, _, _, Heap.get?_push_size _ rfl⟩, rfl, q _ (I.hok.fresh (Nat.le_refl _))⟩
/-- sorted(range(..), key=lambda a: body) -/
def tSortLam (P : Addr) (q : Str) (N : List Str) (ta : TA) (tb : TE) : TE := fun σ H Q => ta σ H fun vs H1 => ∃ (r : Addr) (n : Nat) (g : Int → Int), vs = [.ref r] ∧ H1 r = some (.rng 0 n) ∧ n ≤ 2 ^ 20 ∧ r ≠ P ∧ TabS H1 P q ∧
  ∀ H2, Kp (· = P) H1 H2 → TabS H2 P q → ∃ J : Hp → Prop, J H2 ∧ (∀ H i, J H → 0 ≤ i → i < (n : Int) → tb (L2.start N [.int i]) H fun v H' => v = .int (g i) ∧ J H' ∧ Kp no H H') ∧
    ∀ H3 (ns : List Int) p, J H3 → ns.Perm (rng0 n) → ns.Pairwise (fun x y => g x ≤ g y) → H3 p = none → Q (.ref p) (upd H3 p (.lst (ns.map V.int)))
theorem pe_sortLam {X : Cx} {c P : Addr} {e : Expr} {ta : TA} {tb : TE} {params : Arguments} {body : Expr} {scope : Scope} {lpos kpos p pos : Pos} {N : List Str} {a : Str} {k : Nat} (hcalm : X.calm = true) (hg : Gl X "sorted") (hm : X.mg "sorted" = none) (hv : bootBuiltins "sorted" = some (.builtin "sorted"))
    (ha : PA X [e] ta) (TB : TabB X.base X.mg c P) (hcode : X.env.code = .ref c) (hr : Room (k + 3) X.A) (S : FnScope N [a] scope) (hdef : defaultsOf params X.env = ([], [])) (hclo : cloFrom X.env.cells scope.names [] = [])
    (hbind : ∀ (q : Str) (pm cv ctv u : Value), bindArgs (PySem.W.kla_fn "<lambda>" q params body scope [] pm cv ctv) ⟨[u], []⟩ = pure [(a, u)])
    (hbody : ∀ (f c' : Addr) (outer : List Env) (s : Shared) (H : Hp), Room k (X.A.in1.in1.deeper (envOfC (X.env.qual ++ "<lambda>") scope s.heap.objs.size f (.ref c'))) → PE (cxOf C8.CX0 X.prog X.w X.K X.mg X.base N (X.env.qual ++ "<lambda>") scope f (.ref c') X.A.in1.in1 outer s H C8.E0) body tb)
    (he : backTo pos (starEach [e] X.env) = (false, eval e X.env) :: backTo pos (starEach [] X.env) := by rfl) (hpl : (backTo pos (starEach [e] X.env)).any (·.1) = false := by rfl)
    (hks : ((backToKw pos (keywordEach [⟨some "key", .Lambda params body scope lpos, kpos⟩] X.env)).filterMap (·.1)) = [Str.ofString "key"] := by rfl) :
    PE X (.Call (.Name "sorted" p) [e] [⟨some "key", .Lambda params body scope lpos, kpos⟩] pos) (tSortLam P (X.env.qual ++ "<lambda>") N ta tb) := by
  refine ⟨fun pins s σ H Q I h => ?_⟩
  refine wpAny_Call_Name_kw (ld_blt I hg hm hv ?_ (by decide) (by decide))
  refine PyProof.Rows.callWith_kw (thn (ha.run pos pins s σ H _ I h) fun us s1 ⟨vs, H1, I1, r1, q1⟩ => ?_) he hpl rfl rfl
  obtain ⟨r, n, g, rfl, hrr, hn, hrP, hT, q1⟩ := q1
  rw [hks]
  show wpAny _ _ (evalAll ((do let v ← eval (.Lambda params body scope lpos) X.env; standAt pos; pure v) :: (backToKw pos (keywordEach [] X.env)).map (·.2))) _ _ s1
  refine wpAny_evalAll_cons (wpAny_bind (lam_make3 I1 TB hcode hT hdef (fun y hy z => absurd z (S.nofree y hy)) fun f c' pm ctv H2 s2 I2 k2 T2 hf hfn hfL hfs hco => wpAny_bind (wpAny_standAt (wpAny_pure ?_))))
  refine wpAny_evalAll_nil ?_
  rw [hclo] at hf
  rw [Vals.ref1 r1]
  obtain ⟨J, j2, turn, fin⟩ := q1 H2 k2 T2
  refine sort_key I2 hf hfn hfL hfs (fun v z => by cases z) (k2.1 r _ hrP hrr) hn (I2.ok.hd hcalm) g (fun H' => J H' ∧ H' c' = some (CodeO c' (X.env.qual ++ "<lambda>"))) ⟨j2, hco⟩ (fun pn s' H' i t I' hf' jj h0 h1 => ?_) fun H3 ns p jj => fin H3 ns p jj.1
  have hr2 : Room (k + 1) X.A.in1.in1 := (show Room (k + 2) X.A.in1 from Room.in1 hr).in1
  refine wpAny_mono (lam_call1 (v := .int i) (u := .int i t) I' hr2 I'.env0.in1.in1 hf' jj.2 S (fun u => hbind _ _ _ _ _) ⟨t, rfl⟩ (fun outer s H hr3 => hbody f c' outer s H hr3) (turn H' i jj.1 h0 h1)) (fun v s'' q => ?_) fun _ _ x => x
  obtain ⟨w', H'', J', rv, e1, j3, k3⟩ := q
  exact ⟨w', H'', J', rv, e1, j3, k3.1 _ _ id jj.2⟩
end SB
set_option maxHeartbeats 1000000
namespace SB
open PySem PySem.Spec PyProof.Rows L2 LamX
/-! ### what lies behind a lot: an order to the whole within b -/
inductive Rb (bs : List Nat) (b : Nat) : Nat → Prop
  | top : Rb bs b (2 ^ bs.length - 1)
  | step {m x : Nat} : held bs m ≤ b → x < bs.length → m.testBit x = false → Rb bs b (m ||| 2 ^ x) → Rb bs b m
def IsW (bs : List Nat) (m w : Nat) : Prop := ∀ b, w ≤ b ↔ Rb bs b m
theorem IsW.uniq {bs : List Nat} {m w v : Nat} (h : IsW bs m w) (h2 : IsW bs m v) : w = v := by
  have a := (h v).mpr ((h2 v).mp (Nat.le_refl _))
  have b := (h2 w).mpr ((h w).mp (Nat.le_refl _))
  omega
open Classical in
noncomputable def Fw (bs : List Nat) (m : Nat) : Nat := if h : ∃ w, IsW bs m w then h.choose else 0
theorem Fw.eq {bs : List Nat} {m w : Nat} (h : IsW bs m w) : Fw bs m = w := by
  unfold Fw
  rw [dif_pos ⟨w, h⟩]
  exact (Exists.choose_spec (⟨w, h⟩ : ∃ w, IsW bs m w)).uniq h
/-- its width is known -/
def Wd (bs : List Nat) (m : Nat) : Prop := IsW bs m (Fw bs m)
theorem Wd.of {bs : List Nat} {m w : Nat} (h : IsW bs m w) : Wd bs m := by
  unfold Wd
  rw [Fw.eq h]
  exact h
theorem isW_top (bs : List Nat) : IsW bs (2 ^ bs.length - 1) 0 := fun b => ⟨fun _ => .top, fun _ => Nat.zero_le _⟩
theorem bit_in {n m x : Nat} (hm : m < 2 ^ n) (hx : x < n) : m ||| 2 ^ x ≤ 2 ^ n - 1 := by
  have := or_lt2 hm hx
  omega
theorem whole_bits {n x : Nat} (hx : x < n) : (2 ^ n - 1).testBit x = true := by
  rw [Nat.testBit_two_pow_sub_one]
  exact decide_eq_true hx
theorem out_ne {n m : Nat} (hm : m < 2 ^ n - 1) : out n m ≠ [] := fun z => by
  have : m = 2 ^ n - 1 := Nat.eq_of_testBit_eq fun b => by
    rw [Nat.testBit_two_pow_sub_one]
    by_cases hb : b < n
    · rw [decide_eq_true hb]
      cases q : m.testBit b with
      | true => rfl
      | false =>
        have : b ∈ out n m := out_mem.mpr ⟨hb, q⟩
        rw [z] at this
        cases this
    · rw [decide_eq_false hb]
      exact Nat.testBit_lt_two_pow (Nat.lt_of_lt_of_le (by omega : m < 2 ^ n) (Nat.pow_le_pow_right (n := 2) (by decide) (by omega)))
  omega
theorem isW_step {bs : List Nat} {m w : Nat} (hm : m < 2 ^ bs.length - 1) (hw : ∃ x ∈ out bs.length m, w = Fw bs (m ||| 2 ^ x)) (hl : ∀ x ∈ out bs.length m, w ≤ Fw bs (m ||| 2 ^ x)) (hd : ∀ x ∈ out bs.length m, Wd bs (m ||| 2 ^ x)) :
    IsW bs m (max (held bs m) w) := fun b => by
  constructor
  · intro h
    obtain ⟨x, hx, rfl⟩ := hw
    obtain ⟨h1, h2⟩ := out_mem.mp hx
    exact .step (by omega) h1 h2 ((hd x hx b).mp (by omega))
  · intro h
    cases h with
    | top => omega
    | @step _ x h1 h2 h3 h4 =>
      have hx : x ∈ out bs.length m := out_mem.mpr ⟨h2, h3⟩
      have := (hd x hx b).mpr h4
      have := hl x hx
      omega
/-! ### tables of lambdas as an effect -/
abbrev cB (K : PySem.W.Frag) : Addr := (He.cT K ("behind_of", none)).1
abbrev tB (K : PySem.W.Frag) : Addr := (He.cT K ("behind_of", none)).2
abbrev qB : Str := ("behind_of" : Str) ++ ".<locals>." ++ "<lambda>"
def eT (K : PySem.W.Frag) : Ef where
  B := fun a => a = tB K
  J := fun _ H => TabS H (tB K) qB
  mono := fun _ h => h
  st := fun h1 h2 ⟨ps, a, b, c⟩ => ⟨ps, by rw [h1 _ rfl]; exact a, b, fun pos cv hc => by
    obtain ⟨c0, e1, e2⟩ := c pos cv hc
    exact ⟨c0, e1, h2 _ _ e2⟩⟩
  nx := fun ⟨ps, a, _, _⟩ q z => by
    subst q
    rw [a] at z
    cases z
/-- one thing that is owned, whatever it holds -/
def eZ (d : Addr) : Ef where
  B := fun a => a = d
  J := fun _ H => ∃ u, H d = some u ∧ ∀ φ, u ≠ .ext φ
  mono := fun _ h => h
  st := fun h1 _ ⟨u, h, q⟩ => ⟨u, by rw [h1 d rfl]; exact h, q⟩
  nx := fun ⟨u, h, hx⟩ q z => by
    subst q
    rw [h] at z
    exact hx _ (Option.some.inj z)
abbrev eW (e : Ef) (d : Addr) : Ef := e.and (eZ d)
section
variable {e : Ef} {c c1 : Nat} {K : PySem.W.Frag} {mg : Str → Option Value} {ta tb te tl tk : TE} {tt tu : TT} {σ : L2.St} {A A' : As} {H H' : Hp} {Φ Ψ Θ : Pv} {ds es : List PyData} {d : PyData} {i j : Int} {a b : Bool} {v x : V} {D : Ends} {n m : Nat} {kn : Addr} {bs : List Nat} {E : XK}
theorem Cur.toX {d : Addr} {u : HO} {hx : ∀ φ, u ≠ .ext φ} (cu : Cur (eW e d) A H n) (hd : H d = some u) : Cur (eY e d u hx) A H n := ⟨cu.sub, cu.lv, cu.j.1, hd⟩
theorem Cur.toW {d : Addr} {u : HO} {hx : ∀ φ, u ≠ .ext φ} (cu : Cur (eY e d u hx) A H n) : Cur (eW e d) A H n := ⟨cu.sub, cu.lv, cu.j.1, u, cu.j.2, hx⟩
theorem Sube.ow {e : Ef} {d : Addr} (h : ¬ e.B d) : Sube e (eW e d) := .l e _ fun a q z => by
  have z : a = d := z
  exact h (z ▸ q)
theorem Cur.ridW {d : Addr} (cu : Cur (eW e d) A H n) : Cur e A H n := ⟨fun a q => cu.sub a (.inl q), cu.lv, cu.j.1⟩
theorem em_sortLam {N : List Str} {ta : TA} {tb : TE} {nn : Nat} {g : Int → Int} (S : Sube (eT K) e) (hn : nn ≤ 2 ^ 20) (ha : EmA e 0 ta σ A H [⟨fun A H v => ∃ r, v = .ref r ∧ ¬ A r ∧ H r = some (.rng 0 nn), fun w ⟨r, h1, h2, h3⟩ => ⟨r, h1, (w.f r _ h2 h3).1, (w.f r _ h2 h3).2⟩, fun w ⟨r, h1, h2, h3⟩ => ⟨r, h1, fun q => h2 (w r q), h3⟩⟩])
    (hb : ∀ A' H' i, Lv A' H' → 0 ≤ i → i < (nn : Int) → Ev tb (L2.start N [.int i]) A' H' (da (.int (g i)))) :
    Em e 0 (tSortLam (tB K) qB N ta tb) σ A H (exv (fun ns : List Int => ns.Perm (rng0 nn) ∧ ns.Pairwise fun x y => g x ≤ g y) fun ns => da (.list (ns.map .int))) := fun A' H' n w cu hn' Q q =>
  ha A' H' n w cu hn' _ fun vs H1 k1 j1 p => by
    obtain ⟨x, rfl, r, rfl, nr, hr⟩ := pvs1 p
    have cu1 : Cur e A' H1 n := cu.aft k1 j1
    have hT : TabS H1 (tB K) qB := S.dn (n := n) j1
    have hrP : r ≠ tB K := fun z => by
      obtain ⟨ps, h1, _⟩ := hT
      rw [z, h1] at hr
      cases hr
    refine ⟨r, nn, g, rfl, hr, hn, hrP, hT, fun H2 k2 T2 => ⟨fun H3 => Kp no H2 H3, .refl _, fun H3 i k3 h0 h1 => ?_, fun H3 ns p k3 hp hs hf => ?_⟩⟩
    · have lv3 : Lv A' H3 := (cu1.lv.kp k2).kp k3
      exact hb A' H3 i lv3 h0 h1 A' H3 0 (.refl _ _) (cur0 lv3) (by decide) _ fun v H4 k4 _ p4 => ⟨Rp.int_eq p4, k3.trans k4, k4⟩
    · have kT : Kp (eT K).B H1 H2 := k2
      have j2 : e.J n H2 := S.up cu1.j (kT.eqs cu1) (kT.exs (S.dn (n := n) j1)) (Nat.le_refl _) (show (eT K).J n H2 from T2)
      have kB : Kp e.B H1 H2 := kT.mono S.b
      have cu3 : Cur e A' H3 n := (cu1.aft kB j2).keep k3
      exact q (.ref p) _ (((k1.trans kB).trans k3.any).trans (.new hf)) (cu3.new hf).j ⟨ns, ⟨hp, hs⟩, .lst (cu3.lv.fresh hf) upd_same (.ints ns)⟩
theorem em_rng1 {nn : Nat} (h : Em e c ta σ A H (da (nat nn))) : Em e c (tCB r_rng1 (tCons ta tNil)) σ A H ⟨fun A H v => ∃ r, v = .ref r ∧ ¬ A r ∧ H r = some (.rng 0 nn), fun w ⟨r, h1, h2, h3⟩ => ⟨r, h1, (w.f r _ h2 h3).1, (w.f r _ h2 h3).2⟩, fun w ⟨r, h1, h2, h3⟩ => ⟨r, h1, fun q => h2 (w r q), h3⟩⟩ := em_B1 h fun A' H' x _ p => by
  obtain rfl := Rp.int_eq p
  exact rv_new (.rng 0 nn) (fun Q hq => ⟨nn, rfl, hq⟩) fun l hl nl => ⟨l, rfl, nl, upd_same⟩
/-- a dict that is new since H0 -/
def dKn (H0 : Hp) (kvs : List (Key × V)) : Pv := ⟨fun A H v => ∃ a, v = .ref a ∧ ¬ A a ∧ H0 a = none ∧ H a = some (.dK kvs), fun w ⟨a, h1, h2, h4, h3⟩ => ⟨a, h1, (w.f a _ h2 h3).1, h4, (w.f a _ h2 h3).2⟩, fun w ⟨a, h1, h2, h4, h3⟩ => ⟨a, h1, fun q => h2 (w a q), h4, h3⟩⟩
theorem Kp.dropW {e : Ef} {d : Addr} {H1 H2 : Hp} (k : Kp e.B H H1) (k2 : Kp (eW e d).B H1 H2) (hd : H d = Option.none) : Kp e.B H H2 := ⟨fun a o na ha => k2.1 a o (fun z => z.elim na fun z2 => by
  have z2 : a = d := z2
  rw [z2, hd] at ha
  cases ha) (k.1 a o na ha), fun a ha => k2.2 a (k.2 a ha), fun a xs ha => k2.3 a xs (k.3 a xs ha)⟩
/-- {key: value}, ints -/
theorem em_disp1 (h : Em e c ta σ A H (da (nat m))) (h2 : Em e c1 tb σ A H (da (.int i))) : Em e (c + c1) (tDisp [(ta, tb)]) σ A H (dKn H [(ki m, .int i)]) := fun A' H' n w cu hn Q q => fun p hp => by
  have cu0 : Cur e (Ad A' p) (upd H' p (.dK [])) n := cu.push hp
  refine h (Ad A' p) _ n (w.trans (.push hp)) cu0 (by omega) _ fun x H2 k2 j2 p2 => h2 (Ad A' p) H2 (n + c) ((w.trans (.push hp)).trans (cu0.wl k2)) (cu0.aft k2 j2) (by omega) _ fun y H3 k3 j3 p3 => ?_
  have nB : ¬ e.B p := fun z => cu.lv.fresh hp (cu.sub p z)
  obtain rfl := Rp.int_eq p2
  obtain rfl := Rp.int_eq p3
  have hd3 : H3 p = some (.dK []) := k3.1 p _ nB (k2.1 p _ nB upd_same)
  have kk : Kp e.B H' H3 := ⟨fun a o na ha => (k2.trans k3).1 a o na (by rw [upd_ne (ne_of_none ha hp)]; exact ha), fun a ha => (k2.trans k3).2 a (by
    by_cases z : a = p
    · rw [z, upd_same]; simp
    · rw [upd_ne z]; exact ha), fun a xs ha => (k2.trans k3).3 a xs (by rw [upd_ne (ne_of_none ha hp)]; exact ha)⟩
  refine ⟨hd3, [(ki m, .int i)], rfl, (show (1 : Nat) ≤ 15 by decide), q (.ref p) _ (kk.fresh hp) (Ef.mut nB (fun φ z => by rw [hd3] at z; cases z) (by rw [← Nat.add_assoc]; exact j3)) ⟨p, rfl, cu.lv.fresh hp, w.kp.none hp, upd_same⟩⟩
/-- {} -/
theorem em_newK : Em e 0 tDNewK σ A H (dKn H []) := fun A' H' n w cu hn Q q p hp => q (.ref p) _ (.new hp) (cu.new hp).j ⟨p, rfl, cu.lv.fresh hp, w.kp.none hp, upd_same⟩
/-- d[key], the key there -/
theorem em_dGet {d : Addr} {ms : List Nat} {f : Nat → V} {u : HO} {hx : ∀ φ, u ≠ .ext φ} (S : Sube (eX d u hx) e) (hu : u = .dK (kvm ki f ms)) (h : Em e c ta σ A H (isv (.ref d))) (h2 : Em e c1 tb σ A H (da (nat m))) (hm : ∀ k ∈ ms, k < 256) (hk : m ∈ ms) (hp : ∀ A H, Θ.p A H (f m)) : Em e (c + c1) (tDGet ta tb) σ A H Θ := fun A' H' n w cu hn Q q =>
  h A' H' n w cu (by omega) _ fun x H2 k2 j2 p2 => h2 A' H2 (n + c) (w.trans (cu.wl k2)) (cu.aft k2 j2) (by omega) _ fun y H3 k3 j3 p3 => by
    obtain rfl := Rp.int_eq p3
    obtain rfl : x = .ref d := p2
    have hd : H3 d = some u := S.dn j3
    refine ⟨d, f m, rfl, .inl ⟨_, ki m, .inl (hu ▸ hd), rfl, ?_⟩, q _ H3 (k2.trans k3) (by rw [← Nat.add_assoc]; exact j3) (hp _ _)⟩
    rw [valV_kvm ki_inj hm (hm m hk), if_pos hk]
/-- d[key] = value -/
theorem z_dput {d : Addr} {kvs : List (Key × V)} {td ty tv : TE} (hv : Em (eY e d (.dK kvs)) 0 tv σ A H Φ) (hd : ∀ H1, Kp (eY e d (.dK kvs)).B H H1 → Em (eY e d (.dK kvs)) 0 td σ A H1 (isv (.ref d))) (hy : ∀ H1, Kp (eY e d (.dK kvs)).B H H1 → Em (eY e d (.dK kvs)) 0 ty σ A H1 (da (nat m))) (cu : Cur (eY e d (.dK kvs)) A H n) (hn : n ≤ big) (hB : ¬ e.B d) (hl : kvs.length < 100000)
    (k : ∀ v H1, Kp (eW e d).B H (upd H1 d (.dK (putK kvs (ki m) v))) → Cur (eY e d (.dK (putK kvs (ki m) v))) A (upd H1 d (.dK (putK kvs (ki m) v))) n → Φ.p A H1 v → D.nx σ (upd H1 d (.dK (putK kvs (ki m) v)))) : sDPut td ty tv D σ H :=
  hv A H n (.refl _ _) cu hn _ fun v H1 k1 j1 p1 => hd H1 k1 A H1 n (.refl _ _) (cu.aft k1 j1) hn _ fun x H2 k2 j2 p2 => hy H2 (k1.trans k2) A H2 n (.refl _ _) ((cu.aft k1 j1).aft k2 j2) hn _ fun y H3 k3 j3 p3 => by
    obtain rfl : x = .ref d := p2
    obtain rfl := Rp.int_eq p3
    have cu3 : Cur (eY e d (.dK kvs)) A H3 n := ((cu.aft k1 j1).aft k2 j2).aft k3 j3
    refine ⟨d, _, rfl, .k (k := ki m) cu3.at (sl5 hl), k v H3 (((k1.trans k2).trans k3).trans (.mut (.inr rfl) (by rw [cu3.at]; simp))) (cu3.put hB) (Φ.up (.of (k2.trans k3) cu.sub) p1)⟩
end
/-- the iterable of a loop, evaluated first -/
theorem seq_for {K : PySem.W.Frag} {te : TE} {g : TG} {tb u : TS} {D : Ends} {σ : L2.St} {H : Hp} (h : te σ H fun v H1 => tFor (iList K (tC v)) g tb { D with nx := u D } σ H1) : tSeq (tFor (iList K te) g tb) u D σ H := h
section
variable {K : PySem.W.Frag} {mg : Str → Option Value} {P : Program} {w : World} {base : Heap}
/-- .. where the code object is known -/
theorem mkCalC (T : Tx K mg) {N ps : List Str} {k : Nat} {sp : Sp} (S : FnScope N ps (defScope (top 25)))
    (hb : ∀ (kV doc pm : Value) (an : Option Addr) (cdv ct : Value) (us : List Value), us.length = ps.length → bindArgs (PySem.W.fnOf "behind_of" "behind_of" (defArgs (top 25)) (defBody (top 25)) (defScope (top 25)) .none kV doc pm an cdv ct) ⟨us, []⟩ = pure (ps.zip us))
    (len : ∀ vs H Q E, sp vs H Q E → vs.length = ps.length)
    (hbody : ∀ (f : Addr) (A : Around) (outer : List Env) (s : Shared) (H : Hp) (vs : List V) (Q : VK) (E : XK), Room k (A.deeper (envOfC "behind_of" (defScope (top 25)) s.heap.objs.size f (.ref (cB K)))) → sp vs H Q E →
      ∃ t, PSs (cxOf CX0 P w K mg base N "behind_of" (defScope (top 25)) f (.ref (cB K)) A outer s H E).nox (defBody (top 25)) t ∧ t { nx := fun _ H' => Q .non H', rt := Q } (start N vs) H) : C8.Cal P w K mg base (k + 1) "behind_of" sp [] := by
  obtain ⟨fd, F⟩ := T.d.def_ 14 (rfl : fn[14]? = some (dd "behind_of" 25))
  obtain ⟨oc, od, dV, kV, doc, pm, an, cdv, ct, osl, rfl, lk, hcd, hdv, hkw⟩ := id F.ex
  have ec : cdv = .ref (cB K) := by
    cases cdv with
    | ref c =>
      have := He.codeOf_eq (p := ("behind_of", none)) lk (c := c) rfl
      show Value.ref c = Value.ref (He.codeOf K ("behind_of", none))
      rw [this]
    | _ => cases hcd
  subst ec
  have G : FnOk P w K mg base CX0 (k + 1) (He.fAd K ("behind_of", none)) _ ps sp := fn_of lk hcd S len fun A outer s H vs Q E hr h => by
    obtain ⟨t, q1, q2⟩ := hbody (He.fAd K ("behind_of", none)) A outer s H vs Q E hr h
    exact ⟨t, q1.nox, q2⟩
  exact ⟨He.fAd K ("behind_of", none), _, ps, [], G, T.gl 20 rfl, F.kp, FunD.bindsN F hb, .nil⟩
abbrev eKT (K : PySem.W.Frag) (kn : Addr) (bs : List Nat) : Ef := (eK kn bs).and (eT K)
theorem kn_ne {A : As} {H : Hp} {n : Nat} {kn : Addr} {bs : List Nat} (cu : Cur (eKT K kn bs) A H n) : ∀ a, (eK kn bs).B a → ¬ (eT K).B a := fun a h1 h2 => by
  have h1 : a = kn := h1
  have h2 : a = tB K := h2
  obtain ⟨⟨ms, _, _, h3⟩, ps, h4, _⟩ := cu.j
  rw [← h1, h2, h4] at h3
  cases h3
def Pk2 (K : PySem.W.Frag) (pre : Addr → List Nat → As → Hp → List V → Pv → Prop) : Sp := Pe fun e A H vs c Θ => c = 0 ∧ ∃ kn bs, e = eKT K kn bs ∧ okB bs ∧ pre kn bs A H vs Θ
theorem em_pk2 {e : Ef} {c1 : Nat} {σ : L2.St} {A : As} {H : Hp} {Θ : Pv} {kn : Addr} {bs : List Nat} {E : XK} {pre : Addr → List Nat → As → Hp → List V → Pv → Prop} {ta : TA} {Φs : List Pv} (S : Sube (eKT K kn bs) e) (ok : okB bs) (h : EmA e c1 ta σ A H Φs) (hs : ∀ A' H' vs, Wl A H A' H' → Pvs Φs A' H' vs → pre kn bs A' H' vs Θ) : Em e c1 (tCall (Pk2 K pre) [] E ta) σ A H Θ :=
  em_pe (c2 := 0) S h fun A' H' vs w _ p => ⟨rfl, kn, bs, rfl, ok, hs A' H' vs w p⟩
/-! behind_of -/
noncomputable abbrev fF (bs : List Nat) : Nat → V := fun m => .int (Fw bs m)
/-- a dict of widths, that of 0 among them -/
noncomputable def wDict (bs : List Nat) : Pv := exv (fun ms : List Nat => (∀ m ∈ ms, m < 256 ∧ Wd bs m) ∧ 0 ∈ ms) fun ms => dKv (kvm ki (fF bs) ms)
noncomputable abbrev sp_behind_of (K : PySem.W.Frag) : Sp := Pk2 K fun kn bs A H vs Θ => ∃ v, vs = [v] ∧ (rc K kn bs).p A H v ∧ Θ = wDict bs
theorem mem_rng0 {n : Nat} {i : Int} : i ∈ rng0 n ↔ ∃ k : Nat, k < n ∧ i = k := by
  rw [List.mem_map]
  constructor
  · rintro ⟨k, hk, rfl⟩
    exact ⟨k, List.mem_range.mp hk, rfl⟩
  · rintro ⟨k, hk, rfl⟩
    exact ⟨k, List.mem_range.mpr hk, rfl⟩
theorem nat_list {n : Nat} {ns : List Int} (h : ns.Perm (rng0 n)) : ∃ ls : List Nat, ns = ls.map (fun k : Nat => (k : Int)) ∧ ls.Perm (List.range n) := by
  refine ⟨ns.map Int.toNat, ?_, ?_⟩
  · rw [List.map_map]
    have : ∀ i ∈ ns, ((fun k : Nat => (k : Int)) ∘ Int.toNat) i = i := fun i hi => by
      obtain ⟨k, _, rfl⟩ := mem_rng0.mp (h.mem_iff.mp hi)
      rfl
    rw [List.map_congr_left this, List.map_id']
  · have := h.map Int.toNat
    rw [List.map_map] at this
    have e : (List.range n).map (Int.toNat ∘ fun i : Nat => (i : Int)) = List.range n := List.map_id' _
    rw [e] at this
    exact this
abbrev s_behind_of : Stmt := top 25
abbrev N_behind_of : List Str := ["recipe", "whole", "found", "lot", "later", "block"]
theorem sc_behind_of : FnScope N_behind_of ["recipe"] (defScope s_behind_of) := ⟨rfl, rfl, rfl, by decide +kernel, rfl, by decide +kernel, by decide +kernel⟩
theorem c_behind_of (T : Tx K mg) (TB : TabB base mg (cB K) (tB K)) : C8.Cal P w K mg base 5 "behind_of" (sp_behind_of K) [] := by
  refine mkCalC T sc_behind_of (fun _ _ _ _ _ _ us hl => match us, hl with | [_], _ => rfl) (fun vs H Q E h => ?_) (fun f A outer s H vs Q E hr h => ?_)
  · obtain ⟨_, _, _, _, _, _, _, ⟨_, _, _, _, _, v, rfl, _⟩, _⟩ := h
    rfl
  obtain ⟨e, A, n, c, Θ, cu, hn, ⟨rfl, kn, bs, rfl, ok, v, rfl, hv, rfl⟩, k⟩ := h
  have c_all_bits := c_all_bits (P := P) (w := w) (base := base) T
  have c_outside := c_outside (P := P) (w := w) (base := base) T
  have c_held_in := c_held_in (P := P) (w := w) (base := base) T
  have c_size_of := c_size_of (P := P) (w := w) (base := base) T
  refine ⟨_, (pss_cons (ps_set (i := 1) sc_behind_of.nd rfl (Or.inl rfl) (C8.pe_c c_all_bits hr (by decide) rfl (pa_cons (pv 0) pa_nil)))
  (pss_cons (ps_set (i := 2) sc_behind_of.nd rfl (Or.inr rfl) (pe_disp (pps_cons (pv 1) pe_int pps_nil) (by rfl) (by rfl) (fun z => by cases z) (by decide)))
  (pss_cons (ps_for PassesOwn.never rfl (kpi_list (K := K) (pe_sortLam (N := ["some"]) (a := "some") (k := 1) rfl rfl T.sorted_ bt_sorted (pa_cons (pe_callTy k_rng1 rfl T.range_ bt_range (pa_cons (pv 1) pa_nil)) pa_nil) TB rfl hr (by exact ⟨rfl, rfl, rfl, by decide +kernel, rfl, by decide +kernel, by decide +kernel⟩) rfl (by rfl) (fun _ _ _ _ _ => rfl) (fun _ _ _ _ _ hr3 => pe_un un_neg (C8.pe_c c_size_of hr3 (by decide) rfl (pa_cons (pv 0) pa_nil))))) (pg_name (i := 3) sc_behind_of.nd rfl (Or.inr rfl)) (pss_cons (ps_set (i := 4) sc_behind_of.nd rfl (Or.inl rfl) (pe_callB (k_min (K := K) rfl) rfl T.min_ bt_min (pa_cons (pe_lc (own := [("block", 5)]) rfl sc_behind_of.nd (kpi_list (K := K) (C8.pe_c c_outside hr (by decide) rfl (pa_cons (pv 0) (pa_cons (pv 3) pa_nil)))) (blkOk_by (own := [("block", 5)]) (N := N_behind_of) (sc := defScope s_behind_of) (by decide +kernel)) (fun _ _ _ _ _ => (pg_name (i := 5) sc_behind_of.nd rfl (Or.inl rfl))) (fun _ _ _ _ _ => pts_nil) (fun _ _ _ _ _ => (pe_dget (u1 hr) (pv 2) (pe_op op_or (pv 3) (pe_op op_shl pe_int (pv 5))) (fun _ _ => rfl)))) pa_nil)))
  (pss_one (ps_dput (u1 hr) (pv 2) (pv 3) (pe_callB (k_max2 rfl) rfl T.max_ bt_max (pa_cons (C8.pe_c c_held_in hr (by decide) rfl (pa_cons (pv 0) (pa_cons (pv 3) pa_nil))) (pa_cons (pv 4) pa_nil))) rfl))))
  (pss_one (ps_ret (pv 2)))))), ?_⟩
  have hB0 := kn_ne cu
  have S0 : Sube (eK kn bs) (eKT K kn bs) := .l _ _ hB0
  have ST : Sube (eT K) (eKT K kn bs) := .r _ _ hB0
  have hn : n ≤ big := hn
  have h7 := ok.n7
  have hp8 := ok.p
  have hp0 := Nat.two_pow_pos bs.length
  refine z_asg (v_all_bits ok (ev_var rfl hv)) cu hn fun v1 H1 k1 cu1 p1 => ?_
  obtain rfl := Rp.int_eq p1
  have hv1 := (rc K kn bs).up (cu.wl k1) hv
  refine z_asg (em_disp1 (m := 2 ^ bs.length - 1) (i := 0) (ev_var rfl (.int _)) ev_int) cu1 hn fun v2 H2 k2 cu2 p2 => ?_
  obtain ⟨d, rfl, nd, hd0, hd⟩ := p2
  have hB : ¬ (eKT K kn bs).B d := fun z => nd (cu2.sub d z)
  have hv2 : (rc K kn bs).p (Ad A d) H2 v := rc_ad ((rc K kn bs).up (cu1.wl k2) hv1) hd (by simp) (by simp)
  have e0 : ([(ki (2 ^ bs.length - 1), V.int 0)] : List (Key × V)) = kvm ki (fF bs) [2 ^ bs.length - 1] := by
    unfold kvm fF
    rw [List.map_cons, List.map_nil, Fw.eq (isW_top bs)]
    rfl
  rw [e0] at hd
  have cuY : Cur (eY (eKT K kn bs) d (.dK (kvm ki (fF bs) [2 ^ bs.length - 1]))) (Ad A d) H2 n := (cu2.ad hd).own hd (.inr rfl)
  dsimp only
  refine seq_for ?_
  refine em_sortLam (nn := 2 ^ bs.length - 1) (g := fun i => -((pc i.toNat : Nat) : Int)) (ST.trans (.oy hB)) (by omega) (eva_cons (em_rng1 (ev_var rfl (.int _))) eva_nil) (fun A' H' i lv' h0 h1 => ?_) (Ad A d) H2 n (.refl _ _) cuY hn _ fun v3 H3 k3 j3 p3 => ?_
  · refine ev_neg (v_size_of (m := i.toNat) (ev_var rfl ?_) (by omega))
    show Rp A' H' (V.int i) (.int (i.toNat : Int))
    rw [Int.toNat_of_nonneg h0]
    exact .int i
  obtain ⟨ns, ⟨hp, hs⟩, p3⟩ := p3
  obtain ⟨ls, rfl, hl⟩ := nat_list hp
  rw [List.pairwise_map] at hs
  have hnd : ls.Nodup := hl.nodup_iff.mpr List.nodup_range
  have hlen : ls.length = 2 ^ bs.length - 1 := by rw [hl.length_eq, List.length_range]
  have p3 : Rp (Ad A d) H3 v3 (.list (nts ls)) := by
    have p3 : Rp (Ad A d) H3 v3 (.list ((ls.map fun k : Nat => (k : Int)).map .int)) := p3
    rw [List.map_map] at p3
    exact p3
  have cu3 := cuY.aft k3 j3
  have hv3 := (rc K kn bs).up (cuY.wl k3) hv2
  refine z_forE (e := eW (eKT K kn bs) d) (n := n) (fun i σ' H' => ∃ x3 x4, σ' = [some v, some (.int ((2 ^ bs.length - 1 : Nat) : Int)), some (.ref d), x3, x4, none] ∧ H' d = some (.dK (kvm ki (fF bs) ((2 ^ bs.length - 1) :: ls.take i))) ∧ ∀ m ∈ (2 ^ bs.length - 1) :: ls.take i, Wd bs m)
    (vr_list (ev_c p3)) cu3 hn (fun _ h => h) (fun i σ' Ha Hb ⟨x3, x4, q1, q2, q3⟩ kk => ⟨x3, x4, q1, kk.1 d _ id q2, q3⟩) (fun Ha ka ca => ⟨⟨none, none, rfl, ca.at, fun m hm => by
      rw [List.take_zero, List.mem_singleton] at hm
      subst hm
      exact .of (isW_top bs)⟩, ca.toW⟩) (fun Ha i σ' H' x ka hi ⟨x3, x4, hσ, hdk, hW⟩ k4 cu4 px => ?_) (fun σ' H' ⟨x3, x4, hσ, hdk, hW⟩ k4 cu4 => ?_)
  · subst hσ
    have hi2 : i < ls.length := by simpa using hi
    have px : Rp (Ad A d) H' x ((nts ls).getD i .none) := px
    rw [getN hi2] at px
    obtain rfl := Rp.int_eq px
    have hmi : ls[i]? = some ls[i] := List.getElem?_eq_getElem hi2
    have hmem : ls[i] ∈ ls := List.getElem_mem hi2
    generalize hmd : ls[i] = m at *
    have hmr : m < 2 ^ bs.length - 1 := List.mem_range.mp (hl.mem_iff.mp hmem)
    have hm : m < 2 ^ bs.length := by omega
    have hm8 := ok.m hm
    have ms8 : ∀ k ∈ (2 ^ bs.length - 1) :: ls.take i, k < 256 := fun k hk => by
      rcases List.mem_cons.mp hk with z | z
      · omega
      · have := List.mem_range.mp (hl.mem_iff.mp (List.mem_of_mem_take z))
        omega
    have wider : ∀ x ∈ out bs.length m, m ||| 2 ^ x ∈ (2 ^ bs.length - 1) :: ls.take i := fun x hx => by
      obtain ⟨hx1, hx2⟩ := out_mem.mp hx
      have hle := bit_in hm hx1
      by_cases z : m ||| 2 ^ x = 2 ^ bs.length - 1
      · rw [z]; exact List.mem_cons_self
      · have hin : m ||| 2 ^ x ∈ ls := hl.mem_iff.mpr (List.mem_range.mpr (by omega))
        obtain ⟨j, hj, hj2⟩ := List.mem_iff_getElem.mp hin
        have hpc := pc_or hm8 (by omega : x < 8) hx2
        have hji : j < i := by
          rcases Nat.lt_trichotomy j i with q | q | q
          · exact q
          · exfalso
            have : m ||| 2 ^ x = m := by rw [← hj2, ← hmd]; simp [q]
            rw [this] at hpc
            omega
          · exfalso
            have := List.pairwise_iff_getElem.mp hs i j hi2 hj q
            rw [hj2, hmd, Int.toNat_natCast, Int.toNat_natCast] at this
            omega
        refine List.mem_cons_of_mem _ ?_
        rw [← hj2]
        exact List.mem_take_iff_getElem.mpr ⟨j, by omega, rfl⟩
    have hr1 := (rc K kn bs).up (.of (ka.trans k4) cu4.sub) hv3
    have SE : Sube (eKT K kn bs) (eY (eKT K kn bs) d (.dK (kvm ki (fF bs) ((2 ^ bs.length - 1) :: ls.take i)))) := .oy hB
    have SX : Sube (eX d (.dK (kvm ki (fF bs) ((2 ^ bs.length - 1) :: ls.take i))) (by simp)) (eY (eKT K kn bs) d (.dK (kvm ki (fF bs) ((2 ^ bs.length - 1) :: ls.take i)))) := .ox hB
    have cuX : Cur (eY (eKT K kn bs) d (.dK (kvm ki (fF bs) ((2 ^ bs.length - 1) :: ls.take i)))) (Ad A d) H' n := cu4.toX hdk
    have hol : (out bs.length m).length ≤ 7 := by
      have := List.length_filter_le (fun b => !m.testBit b) (List.range bs.length)
      rw [List.length_range] at this
      unfold out
      omega
    refine z_asg (ev_min (ns := (out bs.length m).map fun x => ((Fw bs (m ||| 2 ^ x) : Nat) : Int)) (ev_is (ev_lcN (g := fun x => nat (Fw bs (m ||| 2 ^ x))) (v_outside ok hm (ev_var rfl hr1) (ev_var rfl (.int (m : Int)))) (by omega) (fun x => rfl) fun x A1 H1 hx w => em_dGet SX rfl (ev_var rfl rfl) (m := m ||| 2 ^ x) (ev_is (ev_bin (ev_var rfl (.int (m : Int))) (ev_shl1 (b := x) (ev_var rfl (.int (x : Int))) ?_)) ?_) ms8 (wider x hx) fun _ _ => .int _) ?_) ?_) cuX hn fun v4 H4 k5 cu5 p4 => ?_
    · have := (out_mem.mp hx).1
      omega
    · exact congrArg PyData.int (bit_or m (2 ^ x))
    · rw [List.map_map]; rfl
    · rw [List.length_map]
      have := out_ne hmr
      cases h : out bs.length m with
      | nil => exact absurd h this
      | cons a l => simp
    obtain ⟨wv, ⟨hw1, hw2⟩, p4⟩ := p4
    obtain ⟨x0, hx0, rfl⟩ := List.mem_map.mp hw1
    have hr2 := (rc K kn bs).up (.of k5 cuX.sub) hr1
    have hWm : IsW bs m (max (held bs m) (Fw bs (m ||| 2 ^ x0))) := isW_step hmr ⟨x0, hx0, rfl⟩ (fun x hx => by
      have := hw2 _ (List.mem_map_of_mem hx)
      omega) fun x hx => hW _ (wider x hx)
    have hnm : m ∉ (2 ^ bs.length - 1) :: ls.take i := fun z => by
      rcases List.mem_cons.mp z with q | q
      · omega
      · obtain ⟨j, hj, hj2⟩ := List.mem_take_iff_getElem.mp q
        have := List.pairwise_iff_getElem.mp hnd j i (by omega) hi2 (by omega)
        exact this (hj2.trans hmd.symm)
    refine z_dput (m := m) (Φ := da (.int (Fw bs m))) (ev_is (ev_max2 (v_held_in (S0.trans SE) ok hm (ev_var rfl hr2) (ev_var rfl (.int (m : Int)))) (ev_var rfl p4)) ?_) (fun _ _ => ev_var rfl rfl) (fun _ _ => ev_var rfl (.int (m : Int))) cu5 hn hB ?_ fun v5 H5 k6 cu6 p5 => ?_
    · rw [Fw.eq hWm]
      congr 1
      omega
    · rw [kvm_len, List.length_cons, List.length_take]
      omega
    obtain rfl := Rp.int_eq p5
    have e1 : putK (kvm ki (fF bs) ((2 ^ bs.length - 1) :: ls.take i)) (ki m) (.int (Fw bs m)) = kvm ki (fF bs) ((2 ^ bs.length - 1) :: ls.take (i + 1)) := by
      rw [putK_kvm (f := fF bs) ki_inj ms8 hm8 hnm, List.take_add_one, hmi]
      simp
    rw [e1] at cu6 k6 ⊢
    refine Iw.z ?_ ((k4.trans k5).trans k6) cu6.toW
    refine ⟨some (.int (m : Int)), some v4, rfl, upd_same, fun k hk => ?_⟩
    rw [List.take_add_one, hmi] at hk
    rcases List.mem_cons.mp hk with z | z
    · exact hW k (by rw [z]; exact List.mem_cons_self)
    · rcases List.mem_append.mp z with y | y
      · exact hW k (List.mem_cons_of_mem _ y)
      · have : k = m := by simpa using y
        rw [this]
        exact .of hWm
  · subst hσ
    have hlen2 : ls.take (nts ls).length = ls := List.take_of_length_le (by rw [List.length_map]; omega)
    rw [hlen2] at hdk hW
    have cu5 : Cur (eY (eKT K kn bs) d (.dK (kvm ki (fF bs) ((2 ^ bs.length - 1) :: ls)))) (Ad A d) H' n := cu4.toX hdk
    refine z_ret (Φ := isv (.ref d)) (ev_var rfl rfl) cu5 hn fun v6 H6 k6 j6 p6 => ?_
    obtain rfl : v6 = .ref d := p6
    have cu6 := cu5.aft k6 j6
    have kF : Kp (eKT K kn bs).B H H6 := k1.trans (k2.dropW ((k3.trans k4).trans k6) hd0)
    refine k _ H6 kF cu6.rid.j ⟨(2 ^ bs.length - 1) :: ls, ⟨fun m hm => ⟨?_, hW m hm⟩, ?_⟩, d, rfl, nd, cu6.at⟩
    · rcases List.mem_cons.mp hm with z | z
      · omega
      · have := List.mem_range.mp (hl.mem_iff.mp z)
        omega
    · by_cases z : 2 ^ bs.length - 1 = 0
      · rw [z]; exact List.mem_cons_self
      · exact List.mem_cons_of_mem _ (hl.mem_iff.mpr (List.mem_range.mpr (by omega)))
end
end SB
namespace SB
open PySem PySem.Spec PyProof.Rows PySem.W L2
/-! ### d != {} -/
section
variable {prog : Program} {w : World} {A : Around} {E : Value → Shared → Prop} {s : Shared}
theorem same_empty {nm : String} {a b : Addr} {oa ob : Obj} {es : Array DictEntry} {ep ep' : Nat} {Q : Bool → Shared → Prop} (ha : (a == sysModules) = false) (hb : (b == sysModules) = false) (hoa : s.heap.get? a = some oa) (hda : oa.data = .dict es ep) (hob : s.heap.get? b = some ob) (hdb : ob.data = .dict #[] ep')
    (h : Q (es.size == 0) s) : wpAny (model prog w) A (Builtin.Dict.samePairs nm a b) Q E s := by
  unfold Builtin.Dict.samePairs Builtin.Dict.showsAll
  rw [if_neg (show ¬ (a == sysModules) = true by rw [ha]; exact Bool.false_ne_true), if_neg (show ¬ (b == sysModules) = true by rw [hb]; exact Bool.false_ne_true)]
  refine wpAny_bind (wpAny_pure (wpAny_bind (wpAny_pure ?_)))
  refine wpAny_bind (wpAny_dictEntries hoa hda ?_)
  dsimp only
  refine wpAny_bind (wpAny_dictEntries hob hdb ?_)
  by_cases hsz : es.size = (#[] : Array DictEntry).size
  case neg =>
    rw [if_pos (by simpa using hsz)]
    have hbf : (es.size == 0) = false := by simpa using hsz
    rw [hbf] at h
    exact wpAny_bind (wpAny_rule (wpAny_pure h))
  case pos =>
    have hz : es.size = 0 := by simpa using hsz
    rw [if_neg (by rw [hsz]; simp)]
    refine wpAny_bind (wpAny_dictEpoch hoa hda ?_)
    refine wpAny_bind ?_
    rw [Std.Legacy.Range.forIn_eq_forIn_range']
    simp only [Std.Legacy.Range.size, Nat.sub_zero, Nat.add_sub_cancel, Nat.div_one, hz, List.range'_zero, List.forIn_nil]
    refine wpAny_pure ?_
    have hbt : (es.size == 0) = true := by rw [hz]; rfl
    rw [hbt] at h
    exact wpAny_pure h
theorem ne_empty {a b : Addr} {oa ob : Obj} {es : Array DictEntry} {ep ep' : Nat} {Q : Value → Shared → Prop} (ha : (a == sysModules) = false) (hb : (b == sysModules) = false) (hoa : s.heap.get? a = some oa) (hxa : oa.ExactDict) (hda : oa.data = .dict es ep) (hob : s.heap.get? b = some ob) (hxb : ob.ExactDict) (hdb : ob.data = .dict #[] ep') (hu : A.units < cLine)
    (h : Q (.bool (!(es.size == 0))) s) : wpAny (model prog w) A (compareOp .NotEq (.ref a) (.ref b)) Q E s := by
  have ta : s.TypeIs (.ref a) "dict" := ⟨oa, hoa, hxa.1⟩
  have tb : s.TypeIs (.ref b) "dict" := ⟨ob, hob, hxb.1⟩
  refine wpAny_richCompare_same_room (op := .NotEq) ta tb PySem.F.slot_dict_ne (wpAny_call_entry PySem.F.slot_dict_ne ta PySem.F.entry_dict_ne ?_ (PySem.F.args_dict_ne_2 _ _)) hu
  show wpAny _ _ (Builtin.Dict.dictSlotArgs "__ne__" ⟨[.ref a, .ref b], []⟩ >>= _) _ _ s
  refine wpAny_bind ?_
  unfold Builtin.Dict.dictSlotArgs
  refine wpAny_bind (wpAny_notOrdered_dict ta ?_)
  show wpAny _ _ (pure (Value.ref a, Value.ref b)) _ _ s
  refine wpAny_pure ?_
  refine wpAny_bind (wpAny_isInstance (T := "dict") tb PySem.F.sub_dict_dict ?_)
  simp only [Bool.not_true, Bool.false_eq_true, if_false]
  refine wpAny_bind (wpAny_pure (wpAny_bind (wpAny_pure ?_)))
  refine wpAny_bind (same_empty ha hb hoa hda hob hdb ?_)
  refine wpAny_pure ⟨_, rfl, ?_, ?_⟩
  · exact fun x => nomatch x
  · simpa using h
end
def rNeE : R2 := fun x y H Q => ∃ a b, x = .ref a ∧ y = .ref b ∧ H b = some (.dK []) ∧ ((∃ ks, H a = some (.dK ks) ∧ Q (.bl (!decide (ks.length = 0))) H) ∨ ∃ ks, H a = some (.dT ks) ∧ Q (.bl (!decide (ks.length = 0))) H)
theorem op_neE {X : Cx} (hu : X.A.units + 1 < cLine) : OpR X (compareOp .NotEq) rNeE := by
  intro pins s σ H x y v u Q I rx ry h
  obtain ⟨a, b, rfl, rfl, eb, h⟩ := h
  obtain rfl : v = Value.ref a := rx
  obtain rfl : u = Value.ref b := ry
  obtain ⟨_, yb, vb, rb, ob, es', ep', hob, hxb, hdb, hkb, hpb, _⟩ := (show ObjOk X.prog X.w H s.heap b (.dK []) from I.hok b _ eb)
  have hvb : vb = [] := by cases rb; rfl
  subst hvb
  have he' : es' = #[] := by
    have := hpb.length
    apply Array.ext'
    rw [show es'.toList = [] from List.length_eq_zero_iff.mp this]
  subst he'
  rcases h with ⟨ks, ea, q⟩ | ⟨ks, ea, q⟩
  · obtain ⟨_, ya, va, ra, oa, es, ep, hoa, hxa, hda, hka, hpa, _⟩ := (show ObjOk X.prog X.w H s.heap a (.dK ks) from I.hok a _ ea)
    have hl : es.size = ks.length := by rw [← Array.length_toList, hpa.length, ra.length]
    refine ne_empty ya yb hoa hxa hda hob hxb hdb (by omega) ⟨.bl (!decide (ks.length = 0)), H, I, ?_, q⟩
    rw [hl]
    cases ks <;> rfl
  · obtain ⟨_, ya, xs, ra, oa, es, ep, hoa, hxa, hda, he, _⟩ := (show ObjOk X.prog X.w H s.heap a (.dT ks) from I.hok a _ ea)
    have hl : es.size = ks.length := by rw [size_of_entries he, Paired.length ra]
    refine ne_empty ya yb hoa hxa hda hob hxb hdb (by omega) ⟨.bl (!decide (ks.length = 0)), H, I, ?_, q⟩
    rw [hl]
    cases ks <;> rfl
/-! ### list(d) of a dict of ints -/
def r_listK : List V → Hp → VK → Prop := fun xs H Q => ∃ (a : Addr) (kvs : List (Key × V)), xs = [.ref a] ∧ Rd H a (.dK kvs) ∧ ∀ p, H p = none → Q (.ref p) (upd H p (.lst (kvs.map fun kv => kV kv.1)))
theorem k_listK {X : Cx} (hc : X.calm = true) : CallR X (.type "list") r_listK := call_listD hc
end SB
namespace SB
open PySem PySem.Spec PyProof.Rows L2 LamX
/-! ### dicts by their keys alone -/
abbrev isD (kvs : List (Key × V)) (ms : List Nat) : Prop := kvs.map (·.1) = ms.map ki
theorem isD_len {kvs : List (Key × V)} {ms : List Nat} (h : isD kvs ms) : kvs.length = ms.length := by
  have := congrArg List.length h
  rwa [List.length_map, List.length_map] at this
theorem isD_any {kvs : List (Key × V)} {ms : List Nat} {m : Nat} (h : isD kvs ms) : (kvs.any fun kv => decide (kv.1 = ki m)) = decide (m ∈ ms) := by
  have e : (kvs.any fun kv => decide (kv.1 = ki m)) = (kvs.map (·.1)).any fun k => decide (k = ki m) := by rw [List.any_map]; rfl
  rw [e, h, List.any_map]
  by_cases z : m ∈ ms
  · rw [decide_eq_true z, List.any_eq_true]
    exact ⟨m, z, decide_eq_true rfl⟩
  · rw [decide_eq_false z, List.any_eq_false]
    intro k hk
    have : ¬ k = m := fun q => z (q ▸ hk)
    simp [Function.comp, this]
    exact fun q => this (ki_ne q)
theorem isD_put {kvs : List (Key × V)} {ms : List Nat} {m : Nat} {v : V} (h : isD kvs ms) : isD (putK kvs (ki m) v) (ins ms m) := by
  unfold isD putK ins
  rw [isD_any h]
  by_cases z : m ∈ ms
  · rw [if_pos (decide_eq_true z), if_pos z, List.map_map, ← h]
    refine List.map_congr_left fun kv _ => ?_
    show (if kv.1 = ki m then (kv.1, v) else kv).1 = kv.1
    by_cases q : kv.1 = ki m
    · rw [if_pos q]
    · rw [if_neg q]
  · rw [if_neg (by rw [decide_eq_false z]; decide), if_neg z, List.map_append, List.map_append, h]
    rfl
theorem isD_merge : ∀ {more kvs : List (Key × V)} {ls ms : List Nat}, isD kvs ms → isD more ls → isD (mergeK kvs more) (ls.foldl ins ms)
  | [], kvs, [], ms, h, _ => h
  | [], _, _ :: _, _, _, h => by cases h
  | _ :: _, _, [], _, _, h => by cases h
  | p :: more, kvs, l :: ls, ms, h, h2 => by
    have h3 : p.1 = ki l ∧ isD more ls := List.cons.inj h2
    show isD (mergeK (putK kvs p.1 p.2) more) (ls.foldl ins (ins ms l))
    rw [h3.1]
    exact isD_merge (isD_put h) h3.2
theorem isD_kvm {f : Nat → V} (ms : List Nat) : isD (kvm ki f ms) ms := by
  unfold isD kvm
  rw [List.map_map]
  rfl
theorem isD_at {kvs : List (Key × V)} {ms : List Nat} {i : Nat} {k : Key} {y : V} (h : isD kvs ms) (q : kvs[i]? = some (k, y)) : ∃ m, ms[i]? = some m ∧ m ∈ ms ∧ k = ki m := by
  have e : (kvs.map (·.1))[i]? = some k := by rw [List.getElem?_map, q]; rfl
  rw [h, List.getElem?_map] at e
  cases z : ms[i]? with
  | none => rw [z] at e; cases e
  | some m =>
    rw [z] at e
    cases e
    exact ⟨m, rfl, List.mem_of_getElem? z, rfl⟩
def dKm (ms : List Nat) : Pv := exv (fun kvs => isD kvs ms) dKv
section
variable {e : Ef} {c c1 : Nat} {K : PySem.W.Frag} {mg : Str → Option Value} {ta tb te tl tk : TE} {tt tu : TT} {σ : L2.St} {A A' : As} {H H' : Hp} {Φ Ψ Θ : Pv} {ds es : List PyData} {d : PyData} {i j : Int} {a b : Bool} {v x : V} {D : Ends} {n m : Nat} {kn : Addr} {bs : List Nat} {E : XK}
theorem em_neE {kvs : List (Key × V)} (h : Em e c ta σ A H (dKv kvs)) : Em e (c + 0) (tOp rNeE ta tDNewK) σ A H (da (.bool (!decide (kvs.length = 0)))) :=
  em_op (c3 := 0) h em_newK fun A' H' x y _ p q => by
    obtain ⟨a, rfl, _, ha⟩ := p
    obtain ⟨b, rfl, _, _, hb⟩ := q
    exact rv_v _ (fun Q hq => ⟨a, b, rfl, rfl, hb, .inl ⟨kvs, ha, hq⟩⟩) (.bl _)
theorem em_dNotIn {d : Addr} {kvs : List (Key × V)} {ms : List Nat} {u : HO} {hx : ∀ φ, u ≠ .ext φ} (S : Sube (eX d u hx) e) (hu : u = .dK kvs) (hk : isD kvs ms) (h : Em e c ta σ A H (da (nat m))) (h2 : Em e c1 tb σ A H (isv (.ref d))) : Em e (c + c1) (tDNotIn ta tb) σ A H (da (.bool (!decide (m ∈ ms)))) := fun A' H' n w cu hn Q q =>
  h A' H' n w cu (by omega) _ fun y H2 k2 j2 p2 => h2 A' H2 (n + c) (w.trans (cu.wl k2)) (cu.aft k2 j2) (by omega) _ fun x H3 k3 j3 p3 => by
    obtain rfl := Rp.int_eq p2
    obtain rfl : x = .ref d := p3
    have hd : H3 d = some u := S.dn j3
    refine ⟨d, _, rfl, .inl ⟨_, ki m, .inl (hu ▸ hd), rfl, rfl⟩, q _ H3 (k2.trans k3) (by rw [← Nat.add_assoc]; exact j3) ?_⟩
    rw [← valV_any, isD_any hk]
    exact .bl _
theorem em_listK {ms : List Nat} (h : Em e c ta σ A H (dKm ms)) : Em e c (tCB r_listK (tCons ta tNil)) σ A H (da (.list (nts ms))) := em_B1 h fun A' H' x _ p => by
  obtain ⟨kvs, hk, a, rfl, na, ha⟩ := p
  refine rv_new (.lst (kvs.map fun kv => kV kv.1)) (fun Q hq => ⟨a, kvs, rfl, .inl ha, hq⟩) fun l hl nl => .lst nl upd_same ?_
  have e : (kvs.map fun kv => kV kv.1) = ms.map fun m : Nat => V.int m := by
    have := congrArg (List.map kV) hk
    rw [List.map_map, List.map_map] at this
    exact this
  rw [e]
  exact rpa_nts ms
/-- for key in d, d not looked at in the turns -/
theorem z_forK0 {tb : TS} {g : TG} {q : Nat} {d : Addr} {kvs : List (Key × V)} (S : Nat → L2.St → Hp → Prop) (hv : σ[q]? = some (some (.ref d))) (hd : H d = some (.dK kvs)) (hA : A d) (hB : ¬ e.B d) (cu : Cur e A H n) (hn : n ≤ big) (h0 : ∀ od, S 0 σ (upd H d (.frz od (.dK kvs))))
    (hst : ∀ (od : Obj) H1 i σ' H' k y, Wl A H A H1 → (∀ H3, Kp e.B H1 H3 → Kp e.B H (upd H3 d (.dK kvs))) → kvs[i]? = some (k, y) → S i σ' H' → Kp e.B H1 H' → Cur e A H' n →
      g (kV k) σ' H' fun σ2 H2 => tb { nx := Iw e A H1 n 0 S (i + 1), ct := Iw e A H1 n 0 S (i + 1), bk := fun σ' H' => H' d = some (.frz od (.dK kvs)) ∧ D.nx σ' (upd H' d (.dK kvs)), rt := fun v H' => H' d = some (.frz od (.dK kvs)) ∧ D.rt v (upd H' d (.dK kvs)) } σ2 H2)
    (hend : ∀ (od : Obj) σ' H', S kvs.length σ' H' → Cur e A H' n → Kp e.B H (upd H' d (.dK kvs)) → Cur e A (upd H' d (.dK kvs)) n → D.nx σ' (upd H' d (.dK kvs))) : tLock (tFor (iKeys (tVar q)) g tb) D σ H := by
  refine ⟨d, .dK kvs, hd, True.intro, fun od => ⟨_, hv, d, od, rfl, .inl ⟨kvs, upd_same, ?_⟩⟩⟩
  have cu1 : Cur e A (upd H d (.frz od (.dK kvs))) n := ((cu.own (hx := by simp) hd hA).put (hf := by simp) hB).rid
  have w1 : Wl A H A (upd H d (.frz od (.dK kvs))) := .of (.lock hd (by simp)) fun a z => z ▸ hA
  have fr : ∀ H', Kp e.B (upd H d (.frz od (.dK kvs))) H' → H' d = some (.frz od (.dK kvs)) := fun H' k => k.1 d _ hB upd_same
  refine for_it walk_keys (Iw e A (upd H d (.frz od (.dK kvs))) n 0 S) ⟨h0 od, .refl _, by rw [Nat.zero_mul]; exact cu1⟩ (fun i σ' H' _ p => fr H' p.k) (fun i x σ' H' H'' hi p y => ?_) fun σ' H' p => ?_
  · obtain ⟨rfl, k, y, hk, rfl⟩ := y
    exact hst od _ i σ' _ k y w1 (fun H3 k3 => .unlock hd k3) hk p.s p.k (by simpa using p.cu)
  · have hf := fr H' p.k
    have cu' : Cur e A H' n := by simpa using p.cu
    exact ⟨hf, hend od σ' H' p.s cu' (.unlock hd p.k) ((cu'.own (hx := by simp) hf hA).put (hf := by simp) hB).rid⟩
/-- .. the keys tuples -/
theorem z_forT0 {tb : TS} {g : TG} {q : Nat} {d : Addr} {kvs : List (List Key × V)} (S : Nat → L2.St → Hp → Prop) (hv : σ[q]? = some (some (.ref d))) (hd : H d = some (.dT kvs)) (hA : A d) (hB : ¬ e.B d) (cu : Cur e A H n) (hn : n ≤ big) (h0 : ∀ od, S 0 σ (upd H d (.frz od (.dT kvs))))
    (hst : ∀ (od : Obj) H1 i σ' H' k y p, Wl A H A H1 → (∀ H3, Kp e.B H1 H3 → Kp e.B H (upd H3 d (.dT kvs))) → kvs[i]? = some (k, y) → H' p = some (.tup (k.map kV)) → S i σ' H' → Kp e.B H1 H' → Cur e A H' n →
      g (.ref p) σ' H' fun σ2 H2 => tb { nx := Iw e A H1 n 0 S (i + 1), ct := Iw e A H1 n 0 S (i + 1), bk := fun σ' H' => H' d = some (.frz od (.dT kvs)) ∧ D.nx σ' (upd H' d (.dT kvs)), rt := fun v H' => H' d = some (.frz od (.dT kvs)) ∧ D.rt v (upd H' d (.dT kvs)) } σ2 H2)
    (hend : ∀ (od : Obj) σ' H', S kvs.length σ' H' → Cur e A H' n → Kp e.B H (upd H' d (.dT kvs)) → Cur e A (upd H' d (.dT kvs)) n → D.nx σ' (upd H' d (.dT kvs))) : tLock (tFor (iKeys (tVar q)) g tb) D σ H := by
  refine ⟨d, .dT kvs, hd, True.intro, fun od => ⟨_, hv, d, od, rfl, .inr ⟨kvs, upd_same, ?_⟩⟩⟩
  have cu1 : Cur e A (upd H d (.frz od (.dT kvs))) n := ((cu.own (hx := by simp) hd hA).put (hf := by simp) hB).rid
  have w1 : Wl A H A (upd H d (.frz od (.dT kvs))) := .of (.lock hd (by simp)) fun a z => z ▸ hA
  have fr : ∀ H', Kp e.B (upd H d (.frz od (.dT kvs))) H' → H' d = some (.frz od (.dT kvs)) := fun H' k => k.1 d _ hB upd_same
  refine for_it walk_keysT (Iw e A (upd H d (.frz od (.dT kvs))) n 0 S) ⟨h0 od, .refl _, by rw [Nat.zero_mul]; exact cu1⟩ (fun i σ' H' _ p => fr H' p.k) (fun i x σ' H' H'' hi p y => ?_) fun σ' H' p => ?_
  · obtain ⟨rfl, k, y, qq, hk, rfl, hq⟩ := y
    exact hst od _ i σ' _ k y qq w1 (fun H3 k3 => .unlock hd k3) hk hq p.s p.k (by simpa using p.cu)
  · have hf := fr H' p.k
    have cu' : Cur e A H' n := by simpa using p.cu
    exact ⟨hf, hend od σ' H' p.s cu' (.unlock hd p.k) ((cu'.own (hx := by simp) hf hA).put (hf := by simp) hB).rid⟩
end
/-! ### what is reached from nothing within b -/
inductive Rc (bs : List Nat) (b : Int) : Nat → Prop
  | zero : (held bs 0 : Int) ≤ b → Rc bs b 0
  | step {m x : Nat} : Rc bs b m → x < bs.length → m.testBit x = false → m ||| 2 ^ x ≠ 2 ^ bs.length - 1 → (held bs (m ||| 2 ^ x) : Int) ≤ b → Rc bs b (m ||| 2 ^ x)
theorem Rc.lt {bs : List Nat} {b : Int} {m : Nat} (h : Rc bs b m) : m < 2 ^ bs.length := by
  induction h with
  | zero _ => exact Nat.two_pow_pos _
  | step h h1 h2 h3 h4 ih => exact or_lt2 ih h1
theorem pc_lt2 {n m : Nat} (hn : n ≤ 8) (hm : m < 2 ^ n) : pc m ≤ n := by
  have h := all2 (p := fun n m => decide (m < 2 ^ n → pc m ≤ n)) (n := 9) (k := 256) (by decide +kernel) (show n < 9 by omega) (show m < 256 from Nat.lt_of_lt_of_le hm (Nat.pow_le_pow_right (n := 2) (by decide) hn))
  exact of_decide_eq_true h hm
/-- down to any smaller size -/
theorem Rc.down {bs : List Nat} (ok : okB bs) {b : Int} {m k : Nat} (h : Rc bs b m) (hk : k ≤ pc m) : ∃ m', Rc bs b m' ∧ pc m' = k := by
  induction h with
  | zero h =>
    rw [pc_zero] at hk
    exact ⟨0, .zero h, by rw [pc_zero]; omega⟩
  | @step m x h h1 h2 h3 h4 ih =>
    have h7 := ok.n7
    have e := pc_or (ok.m h.lt) (by omega : x < 8) h2
    by_cases z : k ≤ pc m
    · exact ih z
    · exact ⟨_, .step h h1 h2 h3 h4, by omega⟩
theorem Rc.pred {bs : List Nat} (ok : okB bs) {b : Int} {y k : Nat} (h : Rc bs b y) (hk : pc y = k + 1) : ∃ m x, Rc bs b m ∧ pc m = k ∧ x < bs.length ∧ m.testBit x = false ∧ y = m ||| 2 ^ x ∧ y ≠ 2 ^ bs.length - 1 ∧ (held bs y : Int) ≤ b := by
  cases h with
  | zero h => rw [pc_zero] at hk; omega
  | @step m x h h1 h2 h3 h4 =>
    have h7 := ok.n7
    have e := pc_or (ok.m h.lt) (by omega : x < 8) h2
    exact ⟨m, x, h, by omega, h1, h2, rfl, h3, h4⟩
/-- all reached ones, each once -/
structure Rs (bs : List Nat) (b : Int) (ms : List Nat) : Prop where
  nd : ms.Nodup
  m : ∀ m, m ∈ ms ↔ Rc bs b m
section
variable {K : PySem.W.Frag} {mg : Str → Option Value} {P : Program} {w : World} {base : Heap}
/-! width_in -/
noncomputable def wdP (bs : List Nat) : Pv := exv (fun w : Nat => IsW bs 0 w) fun w => da (nat w)
noncomputable abbrev sp_width_in (K : PySem.W.Frag) : Sp := Pk2 K fun kn bs A H vs Θ => ∃ v, vs = [v] ∧ (rc K kn bs).p A H v ∧ Θ = wdP bs
abbrev s_width_in : Stmt := top 26
abbrev N_width_in : List Str := ["recipe"]
theorem sc_width_in : FnScope N_width_in ["recipe"] (defScope s_width_in) := ⟨rfl, rfl, rfl, by decide +kernel, rfl, by decide +kernel, by decide +kernel⟩
theorem c_width_in (T : Tx K mg) (TB : TabB base mg (cB K) (tB K)) : C8.Cal P w K mg base 6 "width_in" (sp_width_in K) [] := by
  refine mkCal T 15 21 rfl rfl sc_width_in (fun _ _ _ _ _ _ us hl => match us, hl with | [_], _ => rfl) (fun vs H Q E h => ?_) (fun f cdv A outer s H vs Q E hr h => ?_)
  · obtain ⟨_, _, _, _, _, _, _, ⟨_, _, _, _, _, v, rfl, _⟩, _⟩ := h
    rfl
  obtain ⟨e, A, n, c, Θ, cu, hn, ⟨rfl, kn, bs, rfl, ok, v, rfl, hv, rfl⟩, k⟩ := h
  have c_behind_of := c_behind_of (P := P) (w := w) (base := base) T TB
  refine ⟨_, (pss_one (ps_ret (pe_dget (u1 hr) (C8.pe_c c_behind_of hr (by decide) rfl (pa_cons (pv 0) pa_nil)) pe_int (fun _ _ => rfl)))), ?_⟩
  have h1 : Em (eKT K kn bs) 0 (tCall (sp_behind_of K) [] C8.E0 (tCons (tVar 0) tNil)) (L2.start N_width_in [v]) A H (wDict bs) := em_pk2 (c1 := 0) (.refl _) ok (eva_cons (ev_var rfl hv) eva_nil) fun A' H' vs w p => by
    obtain ⟨x, rfl, q⟩ := pvs1 p
    exact ⟨x, rfl, q, rfl⟩
  refine h1 A H n (.refl _ _) cu hn _ fun x H1 k1 j1 p1 => ?_
  obtain ⟨ms, ⟨hms, h0⟩, a, rfl, na, ha⟩ := p1
  refine ⟨a, fF bs 0, rfl, .inl ⟨_, ki 0, .inl ha, rfl, ?_⟩, k _ H1 k1 j1 ⟨Fw bs 0, (hms 0 h0).2, .int _⟩⟩
  rw [valV_kvm (f := fF bs) ki_inj (fun k hk => (hms k hk).1) (by decide), if_pos h0]
theorem v_width_in {e : Ef} {ta : TE} {σ : L2.St} {A : As} {H : Hp} {E : XK} {kn : Addr} {bs : List Nat} (S : Sube (eKT K kn bs) e) (ok : okB bs) (h : Em e 0 ta σ A H (rc K kn bs)) : Em e 0 (tCall (sp_width_in K) [] E (tCons ta tNil)) σ A H (wdP bs) :=
  em_pk2 (c1 := 0) S ok (eva_cons h eva_nil) fun A' H' vs w p => by
    obtain ⟨x, rfl, q⟩ := pvs1 p
    exact ⟨x, rfl, q, rfl⟩
/-! lots_from -/
abbrev Old (H0 H : Hp) : Prop := ∀ a, H a = none → H0 a = none
/-- an object that is new since H0 -/
def newP (H0 : Hp) (Φ : Pv) : Pv := ⟨fun A H v => (∃ a, v = .ref a ∧ H0 a = none) ∧ Φ.p A H v, fun w h => ⟨h.1, Φ.up w h.2⟩, fun w h => ⟨h.1, Φ.dn w h.2⟩⟩
theorem em_sortedDn {e : Ef} {c : Nat} {ta : TE} {σ : L2.St} {A : As} {H H0 : Hp} {ds : List PyData} (ho : Old H0 H) (h : Em e c ta σ A H (da (.list ds))) (hal : PySem.W.AllAlike ds) (hk : PySem.W.Sortable ds) (hdep : ∀ d ∈ ds, d.depth ≤ 60) (hlay : PyData.canLayAll0 ds = true) :
    Em e c (tCB (rSortD K) (tCons ta tNil)) σ A H (newP H0 (exv (fun es => es.Perm ds ∧ es.Pairwise (fun u v => PySem.W.dataLt v u = false)) fun es => da (.list es))) := em_B1 h fun A' H' x w p => by
  obtain ⟨a, xs, rfl, na, ha, r⟩ := Rp.list_eq p
  intro n cu _ Q q
  have hl := r.length
  refine ⟨a, xs, ds, rfl, SqL.of ha, RpA.dp r hlay, hal, hk, hdep, fun zs p pm pw hp => ?_⟩
  have e2 : (xs.zip ds).map (·.2) = ds := List.map_snd_zip (Nat.le_of_eq hl.symm)
  refine q (.ref p) _ (.new hp) (cu.new hp).j ⟨⟨p, rfl, ho _ (w.kp.none hp)⟩, zs.map (·.2), ⟨?_, List.pairwise_map.mpr pw⟩, ?_⟩
  · rw [← e2]; exact pm.map _
  · exact .lst (cu.lv.fresh hp) upd_same ((rpa_zip fun z hz => rpa_of_zip r z (pm.mem_iff.mp hz)).up (.of0 (.new hp)))
def lotsP (ms : List Nat) : Pv := exv (fun l : List Nat => l.Perm ms) fun l => da (.list (l.map lot))
abbrev sp_lots_from : Sp := Pm fun A H vs Θ => ∃ v ms, vs = [v] ∧ Rp A H v (.list (nts ms)) ∧ ms.length ≤ 100000 ∧ (∀ m ∈ ms, m < 256) ∧ ∃ H0, Old H0 H ∧ Θ = newP H0 (lotsP ms)
theorem alike_nts : ∀ l k : List Nat, PySem.W.alikeAll (nts l) (nts k) = true := fun l k => by
  have := PySem.W.alike_ints (l.map fun b : Nat => (b : Int)) (k.map fun b : Nat => (b : Int))
  rw [List.map_map, List.map_map] at this
  exact this
theorem lot_alike (a b : Nat) : PySem.W.alike (lot a) (lot b) = true := by
  unfold lot
  simp only [PySem.W.alike]
  exact alike_nts _ _
theorem lay_lots : ∀ ms : List Nat, PyData.canLayAll0 (ms.map lot) = true
  | [] => by simp [PyData.canLayAll0]
  | m :: ms => by
    have h := lay_lots ms
    have h2 := lay_nts (blk m)
    rw [List.map_cons, PyData.canLayAll0, Bool.and_eq_true]
    refine ⟨?_, h⟩
    unfold lot
    rw [PyData.canLay0]
    exact h2
theorem dep_lot (m : Nat) : (lot m).depth ≤ 2 := by
  have := dep_nts (blk m)
  unfold lot
  rw [PyData.depth]
  omega
theorem perm_lots {es : List PyData} {ms : List Nat} (hm : ∀ m ∈ ms, m < 256) (h : es.Perm (ms.map lot)) : ∃ l : List Nat, l.Perm ms ∧ es = l.map lot := by
  refine ⟨es.map mk, ?_, ?_⟩
  · have := h.map mk
    rw [List.map_map] at this
    have e : ms.map (mk ∘ lot) = ms := by
      have z : ∀ m ∈ ms, (mk ∘ lot) m = id m := fun m hq => mk_lot (hm m hq)
      rw [List.map_congr_left z, List.map_id]
    rwa [e] at this
  · rw [List.map_map, List.map_congr_left (g := id), List.map_id]
    intro d hd
    obtain ⟨m, hq, rfl⟩ := List.mem_map.mp (h.mem_iff.mp hd)
    show lot (mk (lot m)) = lot m
    rw [mk_lot (hm m hq)]
abbrev s_lots_from : Stmt := top 21
abbrev N_lots_from : List Str := ["some", "lot"]
theorem sc_lots_from : FnScope N_lots_from ["some"] (defScope s_lots_from) := ⟨rfl, rfl, rfl, by decide +kernel, rfl, by decide +kernel, by decide +kernel⟩
theorem c_lots_from (T : Tx K mg) : C8.Cal P w K mg base 2 "lots_from" sp_lots_from [] := by
  refine mkCal T 11 17 rfl rfl sc_lots_from (fun _ _ _ _ _ _ us hl => match us, hl with | [_], _ => rfl) (fun vs H Q E h => ?_) (fun f cdv A outer s H vs Q E hr h => ?_)
  · obtain ⟨A, Θ, _, ⟨v, _, rfl, _⟩, _⟩ := h
    rfl
  obtain ⟨A, Θ, lv, ⟨v, ms, rfl, hv, hl, hm, H0, ho, rfl⟩, k⟩ := h
  have c_blocks_of := c_blocks_of (P := P) (w := w) (base := base) T
  refine ⟨_, (pss_one (ps_ret (pe_callB (k_sortedD (K := K) (Room.units hr)) rfl T.sorted_ bt_sorted (pa_cons (pe_lc (own := [("lot", 1)]) rfl sc_lots_from.nd (kpi_list (K := K) (pv 0)) (blkOk_by (own := [("lot", 1)]) (N := N_lots_from) (sc := defScope s_lots_from) (by decide +kernel)) (fun _ _ _ _ _ => (pg_name (i := 1) sc_lots_from.nd rfl (Or.inl rfl))) (fun _ _ _ _ _ => pts_nil) (fun _ _ _ _ _ => (C8.pe_c c_blocks_of hr (by decide) rfl (pa_cons (pv 1) pa_nil)))) pa_nil)))), ?_⟩
  refine p_ret ((em_sortedDn (c := 0) (ds := ms.map lot) ho (ev_lcN (g := lot) (ev_var rfl hv) hl (fun x => rfl) fun m A1 H1 hq w => v_blocks_of (ev_var rfl (.int (m : Int))) (hm m hq)) (.of fun a b => lot_alike a b) (.others fun m => ⟨by simp [lot], by simp [lot]⟩) (fun d hd => ?_) (lay_lots ms)).imp fun A' H' v _ ⟨hnew, es, ⟨h1, _⟩, p⟩ => ?_) lv k
  · obtain ⟨m, _, rfl⟩ := List.mem_map.mp hd
    have := dep_lot m
    omega
  · obtain ⟨l, hl, rfl⟩ := perm_lots hm h1
    exact ⟨hnew, l, hl, p⟩
end
end SB
namespace SB
open PySem PySem.Spec PyProof.Rows L2 LamX
section
variable {e : Ef} {c c1 : Nat} {K : PySem.W.Frag} {ta tb te tl tk : TE} {tt tu : TT} {σ : L2.St} {A A' : As} {H H' : Hp} {Φ Ψ Θ : Pv} {D : Ends} {n m : Nat}
/-- {key: None} -/
theorem em_disp1n (h : Em e c ta σ A H (da (nat m))) : Em e c (tDisp [(ta, tC .non)]) σ A H (dKn H [(ki m, .non)]) := fun A' H' n w cu hn Q q => fun p hp => by
  have cu0 : Cur e (Ad A' p) (upd H' p (.dK [])) n := cu.push hp
  refine h (Ad A' p) _ n (w.trans (.push hp)) cu0 (by omega) _ fun x H3 k3 j3 p3 => ?_
  have nB : ¬ e.B p := fun z => cu.lv.fresh hp (cu.sub p z)
  obtain rfl := Rp.int_eq p3
  have hd3 : H3 p = some (.dK []) := k3.1 p _ nB upd_same
  have kk : Kp e.B H' H3 := ⟨fun a o na ha => k3.1 a o na (by rw [upd_ne (ne_of_none ha hp)]; exact ha), fun a ha => k3.2 a (by
    by_cases z : a = p
    · rw [z, upd_same]; simp
    · rw [upd_ne z]; exact ha), fun a xs ha => k3.3 a xs (by rw [upd_ne (ne_of_none ha hp)]; exact ha)⟩
  exact ⟨hd3, [(ki m, .non)], rfl, (show (1 : Nat) ≤ 15 by decide), q (.ref p) _ (kk.fresh hp) (Ef.mut nB (fun φ z => by rw [hd3] at z; cases z) j3) ⟨p, rfl, cu.lv.fresh hp, w.kp.none hp, upd_same⟩⟩
theorem dKn_v {H0 : Hp} {kvs : List (Key × V)} {v : V} (h : (dKn H0 kvs).p A H v) : (dKv kvs).p A H v := by
  obtain ⟨a, h1, h2, _, h3⟩ := h
  exact ⟨a, h1, h2, h3⟩
/-- two at once -/
theorem z_par {i j : Nat} {ta : TA} {Φ Ψ : Pv} (h : EmA e 0 ta σ A H [Φ, Ψ]) (cu : Cur e A H n) (hn : n ≤ big) (k : ∀ v w H1, Kp e.B H H1 → Cur e A H1 n → Φ.p A H1 v → Ψ.p A H1 w → D.nx ((σ.set i (some v)).set j (some w)) H1) : tPar i j ta D σ H :=
  h A H n (.refl _ _) cu hn _ fun vs H1 k1 j1 p => by
    obtain ⟨x, y, rfl, q1, q2⟩ := pvs2 p
    exact ⟨x, y, rfl, k x y H1 k1 (cu.aft k1 j1) q1 q2⟩
theorem Cur.dn (cu : Cur e A H n) (h1 : ∀ a, A' a → A a) (h2 : ∀ a, e.B a → A' a) : Cur e A' H n := ⟨h2, fun a h => cu.lv a (h1 a h), cu.j⟩
theorem Cur.xw {d : Addr} {u : HO} (cu : Cur (eW e d) A H n) (hd : H d = some u) (hx : ∀ φ, u ≠ .ext φ := by simp) : Cur (eY e d u hx) A H n := cu.toX hd
end
/-- all of one size that are reached -/
structure Rk (bs : List Nat) (b : Int) (k : Nat) (ls : List Nat) : Prop where
  nd : ls.Nodup
  m : ∀ m, m ∈ ls ↔ Rc bs b m ∧ pc m = k
structure Rl (bs : List Nat) (b : Int) (k : Nat) (ls : List Nat) : Prop where
  nd : ls.Nodup
  m : ∀ m, m ∈ ls ↔ Rc bs b m ∧ pc m < k
theorem Rl.next {bs : List Nat} {b : Int} {k : Nat} {fs ls : List Nat} (h : Rl bs b k fs) (h2 : Rk bs b k ls) : Rl bs b (k + 1) (ls.foldl ins fs) := by
  obtain ⟨h3, h4, _⟩ := fold_ins ls fs h.nd
  refine ⟨h3, fun m => ?_⟩
  rw [h4, h.m, h2.m]
  constructor
  · rintro (⟨a, b⟩ | ⟨a, b⟩)
    · exact ⟨a, by omega⟩
    · exact ⟨a, by omega⟩
  · rintro ⟨a, b⟩
    by_cases z : pc m < k
    · exact .inl ⟨a, z⟩
    · exact .inr ⟨a, by omega⟩
theorem Rl.stop {bs : List Nat} (ok : okB bs) {b : Int} {k : Nat} {fs : List Nat} (h : Rl bs b k fs) (h2 : Rk bs b k []) : Rs bs b fs := by
  refine ⟨h.nd, fun m => ?_⟩
  rw [h.m]
  refine ⟨fun q => q.1, fun q => ⟨q, ?_⟩⟩
  rcases Nat.lt_or_ge (pc m) k with z | z
  · exact z
  · obtain ⟨m', h3, h4⟩ := q.down ok z
    have := (h2.m m').mpr ⟨h3, h4⟩
    cases this
/-- one wider lot is taken in -/
def okW (bs : List Nat) (b : Int) (y : Nat) : Bool := decide (y ≠ 2 ^ bs.length - 1) && decide ((held bs y : Int) ≤ b)
section
variable {K : PySem.W.Frag} {mg : Str → Option Value} {P : Program} {w : World} {base : Heap}
def rsP (bs : List Nat) (b : Int) : Pv := exv (Rs bs b) dKm
abbrev sp_reached_in (K : PySem.W.Frag) : Sp := Pk fun kn bs A H vs Θ => ∃ v, ∃ b : Int, vs = [v, .int b] ∧ (rc K kn bs).p A H v ∧ Θ = rsP bs b
abbrev s_reached_in : Stmt := top 28
abbrev N_reached_in : List Str := ["recipe", "bound", "whole", "found", "layer", "later", "lot", "block", "wider"]
theorem sc_reached_in : FnScope N_reached_in ["recipe", "bound"] (defScope s_reached_in) := ⟨rfl, rfl, rfl, by decide +kernel, rfl, by decide +kernel, by decide +kernel⟩
theorem c_reached_in (T : Tx K mg) : C8.Cal P w K mg base 3 "reached_in" (sp_reached_in K) [] := by
  refine mkCal T 16 22 rfl rfl sc_reached_in (fun _ _ _ _ _ _ us hl => match us, hl with | [_, _], _ => rfl) (fun vs H Q E h => ?_) (fun f cdv A outer s H vs Q E hr h => ?_)
  · obtain ⟨_, _, _, _, _, _, _, ⟨_, _, _, _, _, v, b, rfl, _⟩, _⟩ := h
    rfl
  obtain ⟨e, A, n, c, Θ, cu, hn, ⟨rfl, kn, bs, rfl, ok, v, b, rfl, hv, rfl⟩, k⟩ := h
  have c_all_bits := c_all_bits (P := P) (w := w) (base := base) T
  have c_held_in := c_held_in (P := P) (w := w) (base := base) T
  have c_outside := c_outside (P := P) (w := w) (base := base) T
  refine ⟨_, (pss_cons (ps_par (i := 2) (j := 3) rfl sc_reached_in.nd rfl rfl (by decide) rfl rfl (pa_cons (C8.pe_c c_all_bits hr (by decide) rfl (pa_cons (pv 0) pa_nil)) (pa_cons pe_dnewK pa_nil)) (by rfl))
  (pss_cons (ps_set (i := 4) sc_reached_in.nd rfl (Or.inl rfl) (pe_ifExp (pt_cmpR op_le (C8.pe_c c_held_in hr (by decide) rfl (pa_cons (pv 0) (pa_cons pe_int pa_nil))) (pv 1) (nomark _)) (pe_disp (pps_cons pe_int pe_non pps_nil) (by rfl) (by rfl) (fun z => by cases z) (by decide)) pe_dnewK))
  (pss_cons (ps_while PassesOwn.never (pt_cmpR (op_neE (u1 hr)) (pv 4) pe_dnewK (nomark _)) (pss_cons (ps_expr (pe_bm PySem.F.plainAttrs_dict PySem.F.slot_dict_update PySem.F.type_dict_update (mt_updK) (pv 3) (pa_cons (pv 4) pa_nil)))
  (pss_cons (ps_set (i := 5) sc_reached_in.nd rfl (Or.inl rfl) pe_dnewK)
  (pss_cons (ps_lock (ps_for PassesOwn.never rfl (pi_keys (pv 4)) (pg_name (i := 6) sc_reached_in.nd rfl (Or.inl rfl)) (pss_one (ps_for PassesOwn.never rfl (kpi_list (K := K) (C8.pe_c c_outside hr (by decide) rfl (pa_cons (pv 0) (pa_cons (pv 6) pa_nil)))) (pg_name (i := 7) sc_reached_in.nd rfl (Or.inl rfl)) (pss_cons (ps_set (i := 8) sc_reached_in.nd rfl (Or.inl rfl) (pe_op op_or (pv 6) (pe_op op_shl pe_int (pv 7))))
  (pss_one (ps_if (PW.pt (pw_and (pt_cmpR op_ne (pv 8) (pv 2) (nomark _)) (pw_and (pt_cmp (pc_dnotin (u1 hr) (pv 8) (pv 5)) rfl) (pw_and1 (pt_cmpR op_le (C8.pe_c c_held_in hr (by decide) rfl (pa_cons (pv 0) (pa_cons (pv 8) pa_nil))) (pv 1) (nomark _)))))) (pss_one (ps_dput (u1 hr) (pv 5) (pv 8) (pv 7) rfl)) pss_nil)))))))
  (pss_one (ps_set (i := 4) sc_reached_in.nd rfl (Or.inl rfl) (pv 5)))))))
  (pss_one (ps_ret (pv 3)))))), ?_⟩
  have hn : n ≤ big := hn
  have h7 := ok.n7
  have hp8 := ok.p
  have hp0 := Nat.two_pow_pos bs.length
  have hp1 : 2 ^ 1 ≤ 2 ^ bs.length := Nat.pow_le_pow_right (n := 2) (by decide) ok.n1
  refine z_par (Φ := da (nat (2 ^ bs.length - 1))) (Ψ := dKn H []) (eva_cons (v_all_bits ok (ev_var rfl hv)) (eva_cons em_newK eva_nil)) cu hn fun v2 v3 H1 k1 cu1 p2 p3 => ?_
  obtain rfl := Rp.int_eq p2
  obtain ⟨d1, rfl, n1, hd10, hd1⟩ := p3
  have nB1 : ¬ (eK kn bs).B d1 := fun z => n1 (cu1.sub d1 z)
  have hv1 : (rc K kn bs).p (Ad A d1) H1 v := rc_ad ((rc K kn bs).up (cu.wl k1) hv) hd1 (by simp) (by simp)
  have cuA : Cur (eK kn bs) (Ad A d1) H1 n := cu1.ad hd1
  refine z_asg (Φ := exv (fun ls : List Nat => Rk bs b 0 ls) dKm) (em_if (c1 := 0) (c2 := 0) (vt_B (ev_cmp (v_held_in (m := 0) (.refl _) ok hp0 (ev_var rfl hv1) ev_int) (ev_var rfl (.int b)))) (fun hb => (em_disp1n (c := 0) (m := 0) ev_int).imp fun A' H' v _ p => ?_) (fun hb => em_newK.imp fun A' H' v _ p => ?_)) cuA hn fun v4 H2 k2 cu2 p4 => ?_
  · have hb : (held bs 0 : Int) ≤ b := of_decide_eq_true hb
    refine ⟨[0], ⟨by simp, fun m => ?_⟩, _, ?_, dKn_v p⟩
    · rw [List.mem_singleton]
      constructor
      · rintro rfl
        exact ⟨.zero hb, pc_zero⟩
      · rintro ⟨h1, h2⟩
        cases h1 with
        | zero _ => rfl
        | @step m x h q1 q2 q3 q4 =>
          have := pc_or (ok.m h.lt) (by omega : x < 8) q2
          omega
    · rfl
  · have hb : ¬ (held bs 0 : Int) ≤ b := of_decide_eq_false hb
    refine ⟨[], ⟨.nil, fun m => ?_⟩, _, ?_, dKn_v p⟩
    · constructor
      · intro h; cases h
      · rintro ⟨h1, h2⟩
        cases h1 with
        | zero q => exact absurd q hb
        | @step m x h q1 q2 q3 q4 =>
          have := pc_or (ok.m h.lt) (by omega : x < 8) q2
          omega
    · rfl
  have hd2 : H2 d1 = some (.dK []) := k2.1 d1 _ nB1 hd1
  have hv2 := (rc K kn bs).up (cuA.wl k2) hv1
  dsimp only
  refine ⟨fun z σ' H' => ∃ (k : Nat) (fs ls : List Nat) (kvs : List (Key × V)) (v4 : V) (x5 x6 x7 x8 : Option V), z = bs.length + 1 - k ∧ σ' = [some v, some (.int b), some (.int ((2 ^ bs.length - 1 : Nat) : Int)), some (.ref d1), some v4, x5, x6, x7, x8] ∧ Rl bs b k fs ∧ Rk bs b k ls ∧ isD kvs fs ∧ H' d1 = some (.dK kvs) ∧ (dKm ls).p (Ad A d1) H' v4 ∧ Kp (eW (eK kn bs) d1).B H2 H' ∧ Cur (eK kn bs) (Ad A d1) H' n, ?_, ?_⟩
  · obtain ⟨ls, hl, p4⟩ := p4
    exact ⟨_, 0, [], ls, [], v4, none, none, none, none, rfl, rfl, ⟨.nil, fun m => ⟨(fun h => by cases h), (fun h => absurd h.2 (Nat.not_lt_zero _))⟩⟩, hl, rfl, hd2, p4, .refl _, cu2⟩
  rintro z σ' Hc ⟨k0, fs, ls, kvs, v4, x5, x6, x7, x8, rfl, rfl, hfs, hls, hD, hc1, p4, kc, cuc⟩
  have hvc := (rc K kn bs).up (.of kc fun a q => q.elim (cuA.sub a) fun z => .inr z) hv2
  obtain ⟨kls, hDl, p4⟩ := p4
  refine vt_B (em_neE (c := 0) (ev_var rfl p4)) (Ad A d1) Hc n (.refl _ _) cuc hn _ fun bb H3 k3 j3 hb => ?_
  have cu3 := cuc.aft k3 j3
  have hc3 : H3 d1 = some (.dK kvs) := k3.1 d1 _ nB1 hc1
  by_cases hz : ls = []
  · subst hz
    have hkl : kls.length = 0 := isD_len hDl
    rw [if_neg (by rw [← hb, decide_eq_true hkl]; decide)]
    refine z_ret (Φ := isv (.ref d1)) (ev_var rfl rfl) cu3 hn fun v6 H6 k6 j6 p6 => ?_
    obtain rfl : v6 = .ref d1 := p6
    exact k _ H6 ((k1.trans k2).dropW (kc.trans ((k3.trans k6).mono fun a q => .inl q)) hd10) j6 ⟨fs, hfs.stop ok hls, kvs, hD, d1, rfl, n1, k6.1 d1 _ nB1 hc3⟩
  · have hkl : ¬ kls.length = 0 := fun q => hz (by rw [isD_len hDl] at q; exact List.length_eq_zero_iff.mp q)
    rw [if_pos (by rw [← hb, decide_eq_false hkl]; rfl)]
    have hk0 : k0 ≤ bs.length := by
      cases ls with
      | nil => exact absurd rfl hz
      | cons m l =>
        obtain ⟨h1, h2⟩ := (hls.m m).mp List.mem_cons_self
        have := pc_lt2 (by omega) h1.lt
        omega
    refine ⟨_, fun σ' H' h => h, ?_⟩
    obtain ⟨d2, rfl, n2, hd2'⟩ := (dKv kls).up (cuc.wl k3) p4
    have hne : d1 ≠ d2 := fun z => n2 (.inr z.symm)
    have lim : kvs.length + kls.length ≤ 100000 := by
      rw [isD_len hD, isD_len hDl]
      have h1 := nd_le hfs.nd fun m hm => ((hfs.m m).mp hm).1.lt
      have h2 := nd_le hls.nd fun m hm => ((hls.m m).mp hm).1.lt
      omega
    refine ⟨_, rfl, .inr (.inr (.inl ⟨rfl, .inl ⟨kvs, hc3⟩⟩)), _, rfl, d1, d2, kvs, kls, rfl, rfl, hne, hc3, .inl hd2', sz5 lim, ?_⟩
    have cuU : Cur (eK kn bs) (Ad A d1) (upd H3 d1 (.dK (mergeK kvs kls))) n := ((cu3.own (hx := by simp) hc3 (.inr rfl)).put (hf := by simp) nB1).rid
    have kU : Kp (· = d1) H3 (upd H3 d1 (.dK (mergeK kvs kls))) := .mut rfl (by rw [hc3]; simp)
    have wU : Wl (Ad A d1) H3 (Ad A d1) (upd H3 d1 (.dK (mergeK kvs kls))) := .of kU fun a z => .inr z
    have hvU := (rc K kn bs).up ((cuc.wl k3).trans wU) hvc
    have hDU := isD_merge hD hDl
    have hdU : upd H3 d1 (.dK (mergeK kvs kls)) d2 = some (.dK kls) := by rw [upd_ne (fun z => hne z.symm)]; exact hd2'
    have hU1 : upd H3 d1 (.dK (mergeK kvs kls)) d1 = some (.dK (mergeK kvs kls)) := upd_same
    have kcU : Kp (eW (eK kn bs) d1).B H2 (upd H3 d1 (.dK (mergeK kvs kls))) := (kc.trans (k3.mono fun a q => .inl q)).trans (kU.mono fun a q => .inr q)
    generalize upd H3 d1 (.dK (mergeK kvs kls)) = Hu at *
    refine z_asg em_newK cuU hn fun v5 H4 k4 cu4 p5 => ?_
    obtain ⟨d3, rfl, n3, hd30, hd3⟩ := p5
    have nB3 : ¬ (eK kn bs).B d3 := fun z => n3 (.inl (cu.sub d3 z))
    have nB2 : ¬ (eW (eK kn bs) d3).B d2 := fun z => z.elim (fun q => n2 (.inl (cu.sub d2 q))) fun q => by
      have q : d2 = d3 := q
      rw [q, hd30] at hdU
      cases hdU
    have hd24 : H4 d2 = some (.dK kls) := k4.1 d2 _ (fun z => nB2 (.inl z)) hdU
    have hd14 : H4 d1 = some (.dK (mergeK kvs kls)) := k4.1 d1 _ nB1 hU1
    have hv4 : (rc K kn bs).p (Ad (Ad (Ad A d1) d3) d2) H4 v := rc_ad (rc_ad ((rc K kn bs).up (cuU.wl k4) hvU) hd3 (by simp) (by simp)) hd24 (by simp) (by simp)
    have cuW : Cur (eW (eK kn bs) d3) (Ad (Ad (Ad A d1) d3) d2) H4 n := (((cu4.ad hd3).ad hd24).own (hx := by simp) hd3 (.inl (.inr rfl))).toW
    have m8 : ∀ m ∈ ls, m < 2 ^ bs.length := fun m hm => ((hls.m m).mp hm).1.lt
    dsimp only
    refine z_forK0 (e := eW (eK kn bs) d3) (A := Ad (Ad (Ad A d1) d3) d2) (kvs := kls) (fun i σ' H' => ∃ (x6 x7 x8 : Option V) (lt : List Nat) (kv3 : List (Key × V)), σ' = [some v, some (.int b), some (.int ((2 ^ bs.length - 1 : Nat) : Int)), some (.ref d1), some (.ref d2), some (.ref d3), x6, x7, x8] ∧ H' d3 = some (.dK kv3) ∧ isD kv3 lt ∧
        lt.Nodup ∧ (∀ y ∈ lt, Rc bs b y ∧ pc y = k0 + 1) ∧ ∀ j, j < i → ∀ m, ls[j]? = some m → ∀ x ∈ out bs.length m, okW bs b (m ||| 2 ^ x) = true → m ||| 2 ^ x ∈ lt) rfl hd24 (.inr rfl) nB2 cuW hn
      (fun od => ⟨x6, x7, x8, [], [], rfl, by rw [upd_ne (fun z => nB2 (.inr z.symm))]; exact hd3, rfl, .nil, no_mem, fun j hj => absurd hj (Nat.not_lt_zero j)⟩)
      (fun od H5 i σ' H' key y w5 kb hk ⟨x6, x7, x8, lt, kv3, hσ, hd3', hD3, hnd3, hin3, hall⟩ k5 cu5 => ?_) (fun od σ' H' ⟨x6, x7, x8, lt, kv3, hσ, hd3', hD3, hnd3, hin3, hall⟩ cu5 k5 cu6 => ?_)
    · subst hσ
      obtain ⟨m, hmi, hmem, rfl⟩ := isD_at hDl hk
      obtain ⟨hRm, hpm⟩ := (hls.m m).mp hmem
      have hm := hRm.lt
      have hm8 := ok.m hm
      have hr5 := (rc K kn bs).up (w5.trans (.of k5 cu5.sub)) hv4
      have hol : (out bs.length m).length ≤ 7 := by
        have := List.length_filter_le (fun b => !m.testBit b) (List.range bs.length)
        rw [List.length_range] at this
        unfold out
        omega
      show (fun σ2 H2 => _) _ _
      dsimp only
      refine z_forE (e1 := eY (eK kn bs) d3 (.dK kv3)) (e := eW (eK kn bs) d3) (n := n) (fun i' σ' H' => ∃ (x7 x8 : Option V) (lt : List Nat) (kv3 : List (Key × V)), σ' = [some v, some (.int b), some (.int ((2 ^ bs.length - 1 : Nat) : Int)), some (.ref d1), some (.ref d2), some (.ref d3), some (.int (m : Int)), x7, x8] ∧ H' d3 = some (.dK kv3) ∧ isD kv3 lt ∧
          lt.Nodup ∧ (∀ y ∈ lt, Rc bs b y ∧ pc y = k0 + 1) ∧ (∀ j, j < i → ∀ m, ls[j]? = some m → ∀ x ∈ out bs.length m, okW bs b (m ||| 2 ^ x) = true → m ||| 2 ^ x ∈ lt) ∧ ∀ j, j < i' → ∀ x, (out bs.length m)[j]? = some x → okW bs b (m ||| 2 ^ x) = true → m ||| 2 ^ x ∈ lt)
        (vr_list (v_outside ok hm (ev_var rfl hr5) (ev_var rfl (.int (m : Int))))) (cu5.toX hd3') hn (fun _ h => h) (fun i σ' Ha Hb ⟨x7, x8, lt, kv3, q1, q2, q3⟩ kk => ⟨x7, x8, lt, kv3, q1, kk.1 d3 _ id q2, q3⟩)
        (fun Ha ka ca => ⟨⟨x7, x8, lt, kv3, rfl, ca.at, hD3, hnd3, hin3, hall, fun j hj => absurd hj (Nat.not_lt_zero j)⟩, ca.toW⟩) (fun Ha i' σ' H' x ka hi ⟨x7, x8, lt, kv3, hσ, hd3', hD3, hnd3, hin3, hall, hthis⟩ k6 cu6 px => ?_) (fun σ' H' ⟨x7, x8, lt, kv3, hσ, hd3', hD3, hnd3, hin3, hall, hthis⟩ k6 cu6 => ?_)
      · subst hσ
        have hi2 : i' < (out bs.length m).length := by simpa using hi
        have px : Rp (Ad (Ad (Ad A d1) d3) d2) H' x ((nts (out bs.length m)).getD i' .none) := px
        rw [getN hi2] at px
        obtain rfl := Rp.int_eq px
        have hxi : (out bs.length m)[i']? = some (out bs.length m)[i'] := List.getElem?_eq_getElem hi2
        have hxm : (out bs.length m)[i'] ∈ out bs.length m := List.getElem_mem hi2
        generalize (out bs.length m)[i'] = x at *
        obtain ⟨hx1, hx2⟩ := out_mem.mp hxm
        have hy := or_lt2 hm hx1
        have hy8 := ok.m hy
        have SE : Sube (eK kn bs) (eY (eK kn bs) d3 (.dK kv3)) := .oy nB3
        have SX : Sube (eX d3 (.dK kv3) (by simp)) (eY (eK kn bs) d3 (.dK kv3)) := .ox nB3
        have cuX : Cur (eY (eK kn bs) d3 (.dK kv3)) (Ad (Ad (Ad A d1) d3) d2) H' n := cu6.toX hd3'
        refine z_asg (Φ := da (nat (m ||| 2 ^ x))) (ev_is (ev_bin (ev_var rfl (.int (m : Int))) (ev_shl1 (b := x) (ev_var rfl (.int (x : Int))) (by omega))) (congrArg PyData.int (bit_or m (2 ^ x)))) cuX hn fun v8 H7 k7 cu7 p8 => ?_
        obtain rfl := Rp.int_eq p8
        have hr7 := (rc K kn bs).up (.of ((ka.trans k6).trans k7) cuX.sub) hr5
        refine z_if (T := ((!decide (((m ||| 2 ^ x : Nat) : Int) = ((2 ^ bs.length - 1 : Nat) : Int)) && (!decide (m ||| 2 ^ x ∈ lt) && decide ((held bs (m ||| 2 ^ x) : Int) ≤ b))) = ·)) (vt_and1 (vt_B (ev_neI (ev_var rfl (.int _)) (ev_var rfl (.int _)))) fun _ => vt_and1 (vt_B (em_dNotIn (c := 0) (c1 := 0) (m := m ||| 2 ^ x) SX rfl hD3 (ev_var rfl (.int _)) (ev_var rfl rfl))) fun _ => vt_B (ev_cmp (v_held_in SE ok hy (ev_var rfl hr7) (ev_var rfl (.int _))) (ev_var rfl (.int b)))) cu7 hn (fun ht H8 k8 cu8 => ?_) (fun ht H8 k8 cu8 => ?_)
        · obtain ⟨t1, t2⟩ := (Bool.and_eq_true _ _).mp ht
          obtain ⟨t2, t3⟩ := (Bool.and_eq_true _ _).mp t2
          have t1 : ¬ ((m ||| 2 ^ x : Nat) : Int) = ((2 ^ bs.length - 1 : Nat) : Int) := by simpa using t1
          have t2 : m ||| 2 ^ x ∉ lt := by simpa using t2
          have t3 := of_decide_eq_true t3
          have hlt := nd_le hnd3 fun y hy => (hin3 y hy).1.lt
          refine z_dput (m := m ||| 2 ^ x) (Φ := da (nat x)) (ev_var rfl (.int (x : Int))) (fun _ _ => ev_var rfl rfl) (fun _ _ => ev_var rfl (.int _)) cu8 hn nB3 (by rw [isD_len hD3]; omega) fun v9 H9 k9 cu9 p9 => ?_
          refine Iw.z ?_ ((((k6.trans k7).trans k8)).trans k9) cu9.toW
          refine ⟨some (.int (x : Int)), some (.int ((m ||| 2 ^ x : Nat) : Int)), ins lt (m ||| 2 ^ x), _, rfl, upd_same, isD_put hD3, ins_nd hnd3, fun y hy => ?_, fun j hj m' hm' x' hx' ho => ins_mem.mpr (.inl (hall j hj m' hm' x' hx' ho)), fun j hj x' hx' ho => ?_⟩
          · rcases ins_mem.mp hy with z | z
            · exact hin3 y z
            · rw [z]
              refine ⟨.step hRm hx1 hx2 (fun q => t1 (by rw [q])) t3, ?_⟩
              rw [pc_or hm8 (by omega) hx2, hpm]
          · by_cases z : j < i'
            · exact ins_mem.mpr (.inl (hthis j z x' hx' ho))
            · have : j = i' := by omega
              subst this
              rw [hxi] at hx'
              cases hx'
              exact ins_mem.mpr (.inr rfl)
        · refine Iw.z ?_ ((k6.trans k7).trans k8) cu8.toW
          refine ⟨some (.int (x : Int)), some (.int ((m ||| 2 ^ x : Nat) : Int)), lt, kv3, rfl, cu8.at, hD3, hnd3, hin3, hall, fun j hj x' hx' ho => ?_⟩
          by_cases z : j < i'
          · exact hthis j z x' hx' ho
          · have : j = i' := by omega
            subst this
            rw [hxi] at hx'
            cases hx'
            obtain ⟨o1, o2⟩ := (Bool.and_eq_true _ _).mp ho
            have o1 := of_decide_eq_true o1
            rw [o2, Bool.and_true, decide_eq_false (by omega), Bool.not_false, Bool.true_and] at ht
            simpa using ht
      · subst hσ
        refine Iw.z ?_ (k5.trans k6) cu6
        refine ⟨some (.int (m : Int)), x7, x8, lt, kv3, rfl, hd3', hD3, hnd3, hin3, fun j hj m' hm' x' hx' ho => ?_⟩
        by_cases z : j < i
        · exact hall j z m' hm' x' hx' ho
        · have : j = i := by omega
          subst this
          rw [hmi] at hm'
          cases hm'
          obtain ⟨j', hj', hx2⟩ := List.mem_iff_getElem.mp hx'
          exact hthis j' (by simpa using hj') x' (by rw [List.getElem?_eq_getElem hj', hx2]) ho
    · subst hσ
      have hd36 : upd H' d2 (.dK kls) d3 = some (.dK kv3) := by rw [upd_ne (fun z => nB2 (.inr z.symm))]; exact hd3'
      refine z_asg (Φ := isv (.ref d3)) (ev_var rfl rfl) (cu6.toX (hx := by simp) hd36) hn fun v7 H7 k7 cu7 p7 => ?_
      obtain rfl : v7 = .ref d3 := p7
      have kF : Kp (eK kn bs).B Hu H7 := k4.dropW (k5.trans k7) hd30
      refine ⟨_, ?_, k0 + 1, _, lt, _, .ref d3, some (.ref d3), x6, x7, x8, rfl, rfl, hfs.next hls, ⟨hnd3, fun y => ⟨hin3 y, fun hy => ?_⟩⟩, hDU, kF.1 d1 _ nB1 hU1, ⟨kv3, hD3, d3, rfl, n3, cu7.at⟩, kcU.trans (kF.mono fun a q => .inl q), cu7.rid.dn (fun a q => .inl (.inl q)) fun a q => .inl (cu.sub a q)⟩
      · omega
      · obtain ⟨m, x, h1, h2, h3, h4, rfl, h6, h7⟩ := hy.1.pred ok hy.2
        have hmem := (hls.m m).mpr ⟨h1, h2⟩
        obtain ⟨j, hj, hj2⟩ := List.mem_iff_getElem.mp hmem
        refine hall j (by rw [isD_len hDl]; exact hj) m (by rw [List.getElem?_eq_getElem hj, hj2]) x (out_mem.mpr ⟨h3, h4⟩) ?_
        unfold okW
        rw [decide_eq_true h6, decide_eq_true h7]
        rfl
end
end SB
namespace SB
open PySem PySem.Spec PyProof.Rows L2 LamX
section
variable {e : Ef} {c c1 c2 : Nat} {K : PySem.W.Frag} {mg : Str → Option Value} {ta tb te tl tk : TE} {tt tu : TT} {σ : L2.St} {A A' : As} {H H' : Hp} {Φ Ψ Θ : Pv} {n m : Nat} {kn : Addr} {bs : List Nat} {E : XK}
/-- a part, and what follows it -/
theorem em_bind {F : V → TE} (h : Em e c1 ta σ A H Φ) (k : ∀ A' H' x, Wl A H A' H' → Φ.p A' H' x → Em e c2 (F x) σ A' H' Θ) : Em e (c1 + c2) (fun σ H Q => ta σ H fun x H1 => F x σ H1 Q) σ A H Θ := fun A' H' n w cu hn Q q =>
  h A' H' n w cu (by omega) _ fun x H2 k1 j1 p1 => k A' H2 x (w.trans (cu.wl k1)) p1 A' H2 (n + c1) (.refl _ _) (cu.aft k1 j1) (by omega) Q fun v H3 k3 j3 p3 => q v H3 (k1.trans k3) (by rw [← Nat.add_assoc]; exact j3) p3
theorem ev_bind {F : V → TE} (h : Em e 0 ta σ A H Φ) (k : ∀ A' H' x, Wl A H A' H' → Φ.p A' H' x → Em e 0 (F x) σ A' H' Θ) : Em e 0 (fun σ H Q => ta σ H fun x H1 => F x σ H1 Q) σ A H Θ := em_bind h k
/-- something is known of the one argument -/
theorem em_B1x {α : Type} {C : α → Prop} {Φ : α → Pv} {r : List V → Hp → VK → Prop} (h : Em e c1 ta σ A H (exv C Φ)) (k : ∀ a A' H' x, C a → Wl A H A' H' → (Φ a).p A' H' x → Em e 0 (tCB r (tCons (tC x) tNil)) σ A' H' Θ) : Em e c1 (tCB r (tCons ta tNil)) σ A H Θ :=
  em_bind (c2 := 0) (F := fun x => tCB r (tCons (tC x) tNil)) h fun A' H' x w ⟨a, ha, p⟩ => k a A' H' x ha w p
theorem em_call1x {α : Type} {C : α → Prop} {Φ : α → Pv} {sp : Sp} (h : Em e c1 ta σ A H (exv C Φ)) (k : ∀ a A' H' x, C a → Wl A H A' H' → (Φ a).p A' H' x → Em e 0 (tCall sp [] E (tCons (tC x) tNil)) σ A' H' Θ) : Em e c1 (tCall sp [] E (tCons ta tNil)) σ A H Θ :=
  em_bind (c2 := 0) (F := fun x => tCall sp [] E (tCons (tC x) tNil)) h fun A' H' x w ⟨a, ha, p⟩ => k a A' H' x ha w p
theorem v_lots_from {ms : List Nat} {H0 : Hp} (ho : Old H0 H) (h : Em e c ta σ A H (da (.list (nts ms)))) (hl : ms.length ≤ 100000) (hm : ∀ m ∈ ms, m < 256) : Em e c (tCall sp_lots_from [] E (tCons ta tNil)) σ A H (newP H0 (lotsP ms)) :=
  em_pm (ema_cons (c2 := 0) h ema_nil) fun A' H' vs w p => by
    obtain ⟨x, rfl, q⟩ := pvs1 p
    exact ⟨x, ms, rfl, q, hl, hm, H0, fun a z => ho a (w.kp.none z), rfl⟩
theorem v_reached_in {b : Int} (S : Sube (eK kn bs) e) (ok : okB bs) (h : Em e 0 ta σ A H (rc K kn bs)) (h2 : Em e 0 tb σ A H (da (.int b))) : Em e 0 (tCall (sp_reached_in K) [] E (tCons ta (tCons tb tNil))) σ A H (rsP bs b) :=
  em_pk (c1 := 0) S ok (eva_cons h (eva_cons h2 eva_nil)) fun A' H' vs w p => by
    obtain ⟨x, y, rfl, q, q2⟩ := pvs2 p
    obtain rfl := Rp.int_eq q2
    exact ⟨x, b, rfl, q, rfl⟩
end
/-- what barrier tells -/
def barP (H0 : Hp) (bs : List Nat) (b : Int) : Pv := exv (fun o : Option (List Nat) => match o with | none => Rb bs b.toNat 0 | some l => ¬ Rb bs b.toNat 0 ∧ Rs bs b l) fun o => match o with | none => da .none | some l => newP H0 (da (.list (l.map lot)))
theorem Rs.le {bs : List Nat} {b : Int} {l : List Nat} (h : Rs bs b l) (ok : okB bs) : l.length ≤ 128 := by
  have h1 := nd_le h.nd fun m hm => ((h.m m).mp hm).lt
  have h2 := ok.p
  omega
theorem Rs.perm {bs : List Nat} {b : Int} {l k : List Nat} (h : Rs bs b l) (p : k.Perm l) : Rs bs b k := ⟨p.nodup_iff.mpr h.nd, fun m => by rw [p.mem_iff]; exact h.m m⟩
section
variable {K : PySem.W.Frag} {mg : Str → Option Value} {P : Program} {w : World} {base : Heap}
noncomputable abbrev sp_barrier (K : PySem.W.Frag) : Sp := Pk2 K fun kn bs A H vs Θ => ∃ v, ∃ b : Int, vs = [v, .int b] ∧ (rc K kn bs).p A H v ∧ 0 ≤ b ∧ ∃ H0, Old H0 H ∧ Θ = barP H0 bs b
abbrev s_barrier : Stmt := top 34
abbrev N_barrier : List Str := ["recipe", "bound"]
theorem sc_barrier : FnScope N_barrier ["recipe", "bound"] (defScope s_barrier) := ⟨rfl, rfl, rfl, by decide +kernel, rfl, by decide +kernel, by decide +kernel⟩
theorem c_barrier (T : Tx K mg) (TB : TabB base mg (cB K) (tB K)) : C8.Cal P w K mg base 7 "barrier" (sp_barrier K) [] := by
  refine mkCal T 22 28 rfl rfl sc_barrier (fun _ _ _ _ _ _ us hl => match us, hl with | [_, _], _ => rfl) (fun vs H Q E h => ?_) (fun f cdv A outer s H vs Q E hr h => ?_)
  · obtain ⟨_, _, _, _, _, _, _, ⟨_, _, _, _, _, v, b, rfl, _⟩, _⟩ := h
    rfl
  obtain ⟨e, A, n, c, Θ, cu, hn, ⟨rfl, kn, bs, rfl, ok, v, b, rfl, hv, hb, H0, ho, rfl⟩, k⟩ := h
  have c_check_bounded := c_check_bounded (P := P) (w := w) (base := base) T
  have c_width_in := c_width_in (P := P) (w := w) (base := base) T TB
  have c_lots_from := c_lots_from (P := P) (w := w) (base := base) T
  have c_reached_in := c_reached_in (P := P) (w := w) (base := base) T
  refine ⟨_, (pss_cons (ps_expr (C8.pe_c c_check_bounded hr (by decide) rfl (pa_cons (pv 0) (pa_cons (pv 1) pa_nil))))
  (pss_one (ps_ret (pe_ifExp (pt_cmpR op_le (C8.pe_c c_width_in hr (by decide) rfl (pa_cons (pv 0) pa_nil)) (pv 1) (nomark _)) pe_non (C8.pe_c c_lots_from hr (by decide) rfl (pa_cons (pe_callTy (k_listK rfl) rfl T.list_ bt_list (pa_cons (C8.pe_c c_reached_in hr (by decide) rfl (pa_cons (pv 0) (pa_cons (pv 1) pa_nil))) pa_nil)) pa_nil)))))), ?_⟩
  have hn : n ≤ big := hn
  have S0 : Sube (eK kn bs) (eKT K kn bs) := .l _ _ (kn_ne cu)
  refine z_drop (v_check_bounded hb (ev_var rfl hv) (ev_var rfl (.int b))) cu hn fun v1 H1 k1 cu1 p1 => ?_
  have hv1 := (rc K kn bs).up (cu.wl k1) hv
  refine z_ret (Φ := barP H0 bs b) (ev_if (T := fun t => t = true ↔ Rb bs b.toNat 0) (vt_ex (ev_op (v_width_in (.refl _) ok (ev_var rfl hv1)) (ev_var (Φ := da (.int b)) rfl (.int b)) fun A' H' x y _ p q => ?_)) (fun h => ev_non.imp fun A' H' v _ p => ⟨none, h.mp rfl, p⟩) (fun h => (em_call1x (em_B1x (v_reached_in S0 ok (ev_var rfl hv1) (ev_var rfl (.int b))) (Θ := exv (Rs bs b) fun ms => da (.list (nts ms))) fun ms A' H' x hm _ p => (em_listK (ev_c p)).imp fun A' H' v _ p => ⟨ms, hm, p⟩) fun ms A' H' x hm w p => (v_lots_from (H0 := H0) (fun a z => ho a (k1.none (w.kp.none z))) (ev_c p) (by have := hm.le ok; omega) fun m hq => ok.m ((hm.m m).mp hq).lt).imp (Ψ := barP H0 bs b) fun A' H' v _ ⟨hnew, l, hl, p⟩ => ⟨some l, ⟨fun z => ?_, hm.perm hl⟩, hnew, p⟩))) cu1 hn fun v2 H2 k2 j2 p2 => k v2 H2 (k1.trans k2) j2 p2
  · obtain ⟨w, hw, p⟩ := p
    obtain rfl := Rp.int_eq p
    obtain rfl := Rp.int_eq q
    refine rv_v (.bl (decide ((w : Int) ≤ b))) (fun Q hq => ⟨w, b, rfl, rfl, hq⟩) ⟨decide ((w : Int) ≤ b), ?_, .bl _⟩
    show decide ((w : Int) ≤ b) = true ↔ _
    rw [decide_eq_true_iff, ← hw b.toNat]
    omega
  · cases h.mpr z
theorem v_barrier {e : Ef} {ta tb : TE} {σ : L2.St} {A : As} {H H0 : Hp} {E : XK} {kn : Addr} {bs : List Nat} {b : Int} (ho : Old H0 H) (S : Sube (eKT K kn bs) e) (ok : okB bs) (hb : 0 ≤ b) (h : Em e 0 ta σ A H (rc K kn bs)) (h2 : Em e 0 tb σ A H (da (.int b))) : Em e 0 (tCall (sp_barrier K) [] E (tCons ta (tCons tb tNil))) σ A H (barP H0 bs b) :=
  em_pk2 (c1 := 0) S ok (eva_cons h (eva_cons h2 eva_nil)) fun A' H' vs w p => by
    obtain ⟨x, y, rfl, q, q2⟩ := pvs2 p
    obtain rfl := Rp.int_eq q2
    exact ⟨x, b, rfl, q, hb, H0, fun a z => ho a (w.kp.none z), rfl⟩
theorem v_is_barrier {e : Ef} {ta tb tc : TE} {σ : L2.St} {A : As} {H : Hp} {E : XK} {kn : Addr} {bs : List Nat} {b : Int} {d : PyData} (S : Sube (eK kn bs) e) (ok : okB bs) (hb : 0 ≤ b) (hs : sm2 d) (h : Em e 0 ta σ A H (rc K kn bs)) (h2 : Em e 0 tb σ A H (da (.int b))) (h3 : Em e 0 tc σ A H (da d)) : Em e 0 (tCall (sp_is_barrier K) [] E (tCons ta (tCons tb (tCons tc tNil)))) σ A H (da (.bool (barsM bs b d))) :=
  em_pk (c1 := 0) S ok (eva_cons h (eva_cons h2 (eva_cons h3 eva_nil))) fun A' H' vs w p => by
    obtain ⟨x, y, z, rfl, q, q2, q3⟩ := pvs3 p
    obtain rfl := Rp.int_eq q2
    exact ⟨x, z, d, b, rfl, q, q3, hs, hb, rfl⟩
end
end SB
namespace SB
open PySem PySem.Spec PyProof.Rows L2 LamX
def CPowX (i j : Int) : Prop := 0 ≤ j ∧ (Builtin.Int.intBits i : Int) * j ≤ 2 ^ 27
theorem op_powX {X : Cx} : OpR X (binaryOp .Pow) (rI CPowX fun i j => .int (i ^ j.toNat)) := opI fun _ _ _ _ _ _ _ hc q => pow_int hc.1 hc.2 q
/-! ### the purse -/
def pl (x0 x1 x2 x3 : Int) : List V := [.int x0, .int x1, .int x2, .int x3]
def eP (p : Addr) : Ef where
  B := fun a => a = p
  J := fun n H => ∃ x0 x1 x2 x3 : Int, H p = some (.lst (pl x0 x1 x2 x3)) ∧ 0 ≤ x2 ∧ x2 ≤ n
  mono := fun h ⟨a, b, c, d, h1, h2, h3⟩ => ⟨a, b, c, d, h1, h2, by omega⟩
  st := fun h _ ⟨a, b, c, d, h1, h2⟩ => ⟨a, b, c, d, by rw [h p rfl]; exact h1, h2⟩
  nx := fun ⟨a, b, c, d, h1, _⟩ q z => by
    subst q
    rw [h1] at z
    cases z
/-- a purse just made -/
def purN : Pv := ⟨fun A H v => ∃ p x0 x1 x3, v = .ref p ∧ ¬ A p ∧ H p = some (.lst (pl x0 x1 0 x3)), fun w ⟨p, x0, x1, x3, h1, h2, h3⟩ => ⟨p, x0, x1, x3, h1, (w.f p _ h2 h3).1, (w.f p _ h2 h3).2⟩, fun w ⟨p, x0, x1, x3, h1, h2, h3⟩ => ⟨p, x0, x1, x3, h1, fun q => h2 (w p q), h3⟩⟩
/-- the script -/
def scrP (K : PySem.W.Frag) : Pv := ⟨fun A H v => ∃ a, ∃ ns : List Int, v = .ref a ∧ ns.length ≤ 63 ∧ ∀ A' H', Wl A H A' H' → SqL K H' a (ns.map V.int), fun w ⟨a, ns, h1, h2, h3⟩ => ⟨a, ns, h1, h2, fun A' H' w2 => h3 A' H' (w.trans w2)⟩,
  fun {A A'} {H} {v} w ⟨a, ns, h1, h2, h3⟩ => ⟨a, ns, h1, h2, fun A2 H2 w2 => h3 (fun b => A2 b ∨ A b) H2 ⟨w2.kp.mono w, fun b z => z.elim (fun q => (w2.new b q).imp (w b) id) .inl, fun b z => .inr z⟩⟩⟩
/-- some int -/
abbrev someI : Pv := exv (fun _ : Int => True) fun i => da (.int i)
/-- some number below m -/
abbrev belowP (m : Nat) : Pv := exv (fun k : Nat => k < m) fun k => da (nat k)
section
variable {e : Ef} {c c1 c2 : Nat} {K : PySem.W.Frag} {mg : Str → Option Value} {ta tb te tl tk : TE} {tt tu : TT} {σ : L2.St} {A A' : As} {H H' : Hp} {Φ Ψ Θ : Pv} {ds es : List PyData} {n m : Nat} {p : Addr} {E : XK} {D : Ends} {i j : Int}
theorem Cur.unP (cu : Cur (eP p) A H n) : ∃ x0 x1 x2 x3 : Int, 0 ≤ x2 ∧ x2 ≤ n ∧ Cur (eX p (.lst (pl x0 x1 x2 x3)) (by simp)) A H n := by
  obtain ⟨x0, x1, x2, x3, h1, h2, h3⟩ := cu.j
  exact ⟨x0, x1, x2, x3, h2, h3, cu.sub, cu.lv, h1⟩
theorem Cur.toP {x0 x1 x2 x3 : Int} {hx : ∀ φ, HO.lst (pl x0 x1 x2 x3) ≠ .ext φ} (cu : Cur (eX p (.lst (pl x0 x1 x2 x3)) hx) A H n) (h0 : 0 ≤ x2) (h : x2 ≤ m) : Cur (eP p) A H m := ⟨cu.sub, cu.lv, x0, x1, x2, x3, cu.j, h0, h⟩
/-- an item of a list that is owned -/
theorem ev_ixO {xs : List V} {x : V} {u : HO} {hx : ∀ φ, u ≠ .ext φ} (S : Sube (eX p u hx) e) (hu : u = .lst xs) (h : Em e 0 ta σ A H (isv (.ref p))) (h2 : Em e 0 tb σ A H (da (.int i))) (he : atI xs i = some x) (hp : ∀ A H, Φ.p A H x) : Em e 0 (tOp (rIxL K) ta tb) σ A H Φ := fun A' H' n w cu hn Q q =>
  h A' H' n w cu (by omega) _ fun x1 H2 k2 j2 p2 => h2 A' H2 n (w.trans (cu.wl k2)) (cu.aft k2 j2) (by omega) _ fun y H3 k3 j3 p3 => by
    obtain rfl : x1 = .ref p := p2
    obtain rfl := Rp.int_eq p3
    have hd : H3 p = some u := S.dn (n := n) j3
    exact ⟨p, xs, i, x, rfl, rfl, SqL.of (hu ▸ hd), he, q x H3 (k2.trans k3) j3 (hp _ _)⟩
/-- p[i] = value -/
theorem z_put {xs : List V} {jj : Nat} {tv : TE} {hx : ∀ φ, HO.lst xs ≠ .ext φ} (hv : Em (eX p (.lst xs) hx) 0 tv σ A H Φ) (ho : σ[0]? = some (some (.ref p))) (hj : ixN xs.length i = some jj) (cu : Cur (eX p (.lst xs) hx) A H n) (hn : n ≤ big)
    (k : ∀ v H1, Kp (· = p) H (upd H1 p (.lst (xs.set jj v))) → Cur (eX p (.lst (xs.set jj v)) (by simp)) A (upd H1 p (.lst (xs.set jj v))) n → Φ.p A H1 v → D.nx σ (upd H1 p (.lst (xs.set jj v)))) : tAsg tv (gSub (tVar 0) (tC (.int i)) rSetL) D σ H :=
  hv A H n (.refl _ _) cu hn _ fun v H1 k1 j1 p1 => by
    have hp : H1 p = some (.lst xs) := j1
    refine ⟨_, ho, p, xs, i, jj, rfl, rfl, hp, hj, k v H1 (k1.trans (.mut rfl (by rw [hp]; simp))) ⟨cu.sub, fun a h => ?_, upd_same⟩ p1⟩
    by_cases z : a = p
    · rw [z, upd_same]; simp
    · rw [upd_ne z]; exact k1.2 a (cu.lv a h)
theorem ev_some (h : Em e c ta σ A H (da (.int i))) : Em e c ta σ A H someI := h.imp fun A' H' v _ p => ⟨i, trivial, p⟩
theorem ev_I0s {g : Int → Int → Int} (h : Em e 0 ta σ A H someI) (h2 : Em e 0 tb σ A H someI) : Em e 0 (tOp (rI0 fun i j => .int (g i j)) ta tb) σ A H someI := ev_op h h2 fun A' H' x y _ ⟨i, _, p⟩ ⟨j, _, q⟩ => by
  obtain rfl := Rp.int_eq p
  obtain rfl := Rp.int_eq q
  exact rv_v (.int (g i j)) (fun Q hq => ⟨i, j, rfl, rfl, hq⟩) ⟨g i j, trivial, .int _⟩
/-- a list that is new since H0 -/
def lstN (H0 : Hp) (xs : List V) : Pv := ⟨fun A H v => ∃ a, v = .ref a ∧ ¬ A a ∧ H0 a = none ∧ H a = some (.lst xs), fun w ⟨a, h1, h2, h4, h3⟩ => ⟨a, h1, (w.f a _ h2 h3).1, h4, (w.f a _ h2 h3).2⟩, fun w ⟨a, h1, h2, h4, h3⟩ => ⟨a, h1, fun q => h2 (w a q), h4, h3⟩⟩
theorem em_lstE : Em e 0 (tLst tNil) σ A H (lstN H []) := fun A' H' n w cu hn Q q => ⟨Nat.zero_le _, fun p hp => q (.ref p) _ (.new hp) (cu.new hp).j ⟨p, rfl, cu.lv.fresh hp, w.kp.none hp, upd_same⟩⟩
theorem ev_lenO {d : Addr} {xs : List V} {u : HO} {hx : ∀ φ, u ≠ .ext φ} (S : Sube (eX d u hx) e) (hu : u = .lst xs) (h : Em e 0 ta σ A H (isv (.ref d))) : Em e 0 (tCB (r_len K) (tCons ta tNil)) σ A H (da (nat xs.length)) := fun A' H' n w cu hn Q q =>
  h A' H' n w cu hn _ fun x H2 k2 j2 p2 => by
    obtain rfl : x = .ref d := p2
    have hd : H2 d = some u := S.dn (n := n) j2
    exact ⟨d, xs, rfl, .inl (SqL.of (hu ▸ hd)), q _ H2 k2 j2 (.int _)⟩
/-- the iterable under one effect, the turns under a wider one, at a cost -/
theorem s_forE {e1 : Ef} {wi : TI} {tb : TS} {g : TG} {N : Nat} {It : Nat → Pv} (cb : Nat) (S : Nat → L2.St → Hp → Prop) (hs : Sr e1 0 wi σ A H N It) (cu : Cur e1 A H n) (hn : n ≤ big) (sub : ∀ a, e1.B a → e.B a)
    (up : ∀ i σ' H1 H2, S i σ' H1 → Kp no H1 H2 → S i σ' H2) (h0 : ∀ H1, Kp e1.B H H1 → Cur e1 A H1 n → S 0 σ H1 ∧ Cur e A H1 n)
    (hst : ∀ H1 i σ' H' x, Kp e.B H H1 → i < N → S i σ' H' → Kp e.B H1 H' → Cur e A H' (n + i * cb) → (It i).p A H' x → g x σ' H' fun σ2 H2 => tb { D with nx := Iw e A H1 n cb S (i + 1), ct := Iw e A H1 n cb S (i + 1), bk := D.nx } σ2 H2)
    (hd : ∀ σ' H', S N σ' H' → Kp e.B H H' → Cur e A H' (n + N * cb) → D.nx σ' H') : tFor wi g tb D σ H :=
  s_for hs cu hn fun H1 k1 cu1 => by
    obtain ⟨s0, c0⟩ := h0 H1 k1 cu1
    exact ⟨Iw e A H1 n cb S, ⟨s0, .refl _, by rw [Nat.zero_mul]; exact c0⟩, fun i σ' H' p => ⟨A, c0.wl p.k, p.cu.lv⟩,
      fun i σ' H' x H'' hi p k2 px => hst H1 i σ' H'' x (k1.mono sub) hi (up i σ' H' H'' p.s k2) (p.k.trans k2.any) (p.cu.keep k2) (px A (c0.wl p.k) p.cu.lv), fun σ' H' p => hd σ' H' p.s ((k1.mono sub).trans p.k) p.cu⟩
theorem to_next (h : D.nx σ H) : tNext D σ H := h
theorem Cur.wlN {d : Addr} (cu : Cur e A H n) (k : Kp e.B H H') (hd : H d = none) : Wl A H (Ad A d) H' := ⟨k.mono cu.sub, fun a q => q.imp id fun z : a = d => z ▸ hd, fun a h => .inl h⟩
theorem cutV_int (ns : List Int) (lo hi : Option Int) : cutV (ns.map V.int) lo hi = (cutD ns lo hi).map V.int := cutD_map V.int ns lo hi
theorem em_slS {tlo thi : TO} {lo hi : Option Int} (h : Em e c ta σ A H (scrP K)) (h2 : EmO e c1 tlo σ A H lo) (h3 : EmO e c2 thi σ A H hi) : Em e (c + c1 + c2) (tSl (rSlL K) ta tlo thi) σ A H (exv (fun _ : List Int => True) fun ns => da (.list (ns.map .int))) :=
  em_sl h h2 h3 fun A' H' x _ p => by
    obtain ⟨a, ns, rfl, hl, ha⟩ := p
    exact rv_new (.lst (cutV (ns.map V.int) lo hi)) (fun Q hq => ⟨a, _, rfl, ha _ _ (.refl _ _), hq⟩) fun l hl nl => ⟨cutD ns lo hi, trivial, .lst nl upd_same (by rw [cutV_int]; exact .ints _)⟩
theorem em_lenS (h : Em e c ta σ A H (scrP K)) : Em e c (tCB (r_len K) (tCons ta tNil)) σ A H (belowP 64) := em_B1 h fun A' H' x _ p => by
  obtain ⟨a, ns, rfl, hl, ha⟩ := p
  exact rv_v (.int (ns.length : Int)) (fun Q hq => ⟨a, _, rfl, .inl (ha _ _ (.refl _ _)), by rw [List.length_map]; exact hq⟩) ⟨ns.length, by omega, .int _⟩
end
section
variable {K : PySem.W.Frag} {mg : Str → Option Value} {P : Program} {w : World} {base : Heap}
/-! _law_purse -/
abbrev sp_law_purse (K : PySem.W.Frag) : Sp := Pm fun A H vs Θ => ∃ v, ∃ i : Nat, vs = [v, .int i] ∧ i ≤ 1000 ∧ (scrP K).p A H v ∧ Θ = purN
abbrev s_law_purse : Stmt := top 36
abbrev N_law_purse : List Str := ["_law_script", "_law_at", "_law_seed"]
theorem sc_law_purse : FnScope N_law_purse ["_law_script", "_law_at"] (defScope s_law_purse) := ⟨rfl, rfl, rfl, by decide +kernel, rfl, by decide +kernel, by decide +kernel⟩
theorem c_law_purse (T : Tx K mg) : C8.Cal P w K mg base 1 "_law_purse" (sp_law_purse K) [] := by
  refine mkCal T 23 29 rfl rfl sc_law_purse (fun _ _ _ _ _ _ us hl => match us, hl with | [_, _], _ => rfl) (fun vs H Q E h => ?_) (fun f cdv A outer s H vs Q E hr h => ?_)
  · obtain ⟨A, Θ, _, ⟨v, i, rfl, _⟩, _⟩ := h
    rfl
  obtain ⟨A, Θ, lv, ⟨v, i, rfl, hi, hv, rfl⟩, k⟩ := h
  refine ⟨_, (pss_cons (ps_set (i := 2) sc_law_purse.nd rfl (Or.inl rfl) (pe_callB (k_sum (K := K) rfl) rfl T.sum_ bt_sum (pa_cons (pe_slice (ksl_list (K := K)) (pv 0) (po_some (pv 1)) (po_some (pe_op op_add (pv 1) pe_int))) pa_nil)))
  (pss_one (ps_ret (pe_lst (pa_cons (pe_op op_mod (pe_callTy (k_int) rfl T.int_ bt_int (pa_cons (pe_callB (k_max2 rfl) rfl T.max_ bt_max (pa_cons (pe_op op_sub (pv 2) (pe_op op_pow pe_int pe_int)) (pa_cons pe_int pa_nil))) pa_nil)) (pe_op op_powX (pe_op op_pow pe_int pe_int) pe_int)) (pa_cons (pe_op op_mod (pe_callTy (k_int) rfl T.int_ bt_int (pa_cons (pv 2) pa_nil)) pe_int) (pa_cons pe_int (pa_cons (pv 1) pa_nil)))))))), ?_⟩
  refine p_asg (Φ := someI) (em_B1x (em_slS (c := 0) (c1 := 0) (c2 := 0) (ev_var rfl hv) (evo_some (ev_var rfl (.int (i : Int)))) (evo_some (ev_bin (ev_var rfl (.int (i : Int))) ev_int))) fun ns A' H' x _ _ p => (ev_sum (ev_c p)).imp fun A' H' v _ p => ⟨_, trivial, p⟩) lv fun v1 H1 k1 lv1 p1 => ?_
  obtain ⟨sd, _, p1⟩ := p1
  obtain rfl := Rp.int_eq p1
  have h10 : CPow 10 18 := ⟨by decide, by decide, by decide⟩
  have h60 : CPow 10 60 := ⟨by decide, by decide, by decide⟩
  have hb : CPowX ((10 : Int) ^ 60) 8 := ⟨by decide, by decide +kernel⟩
  have hm : (0 : Int) < ((10 : Int) ^ 60) ^ 8 := by decide +kernel
  refine p_ret (Φ := purN) (ev_lst (Φs := [someI, someI, da (.int 0), da (.int (i : Int))]) (eva_cons ((ev_binC (C := fun _ j => 0 < j) (g := fun i j => i % j) (ev_int1 (ev_max2 (ev_bin (ev_var rfl (.int sd)) (ev_binC (C := CPow) (g := fun i j => i ^ j.toNat) ev_int ev_int h10)) ev_int)) (ev_binC (C := CPowX) (g := fun i j => i ^ j.toNat) (ev_binC (C := CPow) (g := fun i j => i ^ j.toNat) ev_int ev_int h60) ev_int hb) hm).imp fun A' H' v _ p => ⟨_, trivial, p⟩) (eva_cons ((ev_binC (C := fun _ j => 0 < j) (g := fun i j => i % j) (ev_int1 (ev_var rfl (.int sd))) ev_int (by decide)).imp fun A' H' v _ p => ⟨_, trivial, p⟩) (eva_cons ev_int (eva_cons (ev_var rfl (.int (i : Int))) eva_nil)))) (show (4 : Nat) ≤ 100000 by decide) fun A' H' vs a _ p na ha => ?_) lv1 fun v H2 k2 p => k v H2 (k1.trans k2) p
  obtain ⟨y0, y1, y2, y3, rfl, q0, q1, q2, q3⟩ := pvs4 p
  obtain ⟨z0, _, q0⟩ := q0
  obtain ⟨z1, _, q1⟩ := q1
  obtain rfl := Rp.int_eq q0
  obtain rfl := Rp.int_eq q1
  obtain rfl := Rp.int_eq q2
  obtain rfl := Rp.int_eq q3
  exact ⟨a, z0, z1, i, rfl, na, ha⟩
theorem v_law_purse {e : Ef} {ta tb : TE} {σ : L2.St} {A : As} {H : Hp} {E : XK} {i : Nat} (hi : i ≤ 1000) (h : Em e 0 ta σ A H (scrP K)) (h2 : Em e 0 tb σ A H (da (nat i))) : Em e 0 (tCall (sp_law_purse K) [] E (tCons ta (tCons tb tNil))) σ A H purN :=
  em_pm (c := 0) (eva_cons h (eva_cons h2 eva_nil)) fun A' H' vs w p => by
    obtain ⟨x, y, rfl, q, q2⟩ := pvs2 p
    obtain rfl := Rp.int_eq q2
    exact ⟨x, i, rfl, hi, q, rfl⟩
/-! _law_mixed -/
abbrev sp_law_mixed : Sp := Pm fun A H vs Θ => ∃ a b c : Int, vs = [.int a, .int b, .int c] ∧ 0 ≤ b ∧ b ≤ 1000000000001 ∧ Θ = someI
abbrev s_law_mixed : Stmt := top 37
abbrev N_law_mixed : List Str := ["_law_seed", "_law_spin", "_law_at", "_law_mixed_here"]
theorem sc_law_mixed : FnScope N_law_mixed ["_law_seed", "_law_spin", "_law_at"] (defScope s_law_mixed) := ⟨rfl, rfl, rfl, by decide +kernel, rfl, by decide +kernel, by decide +kernel⟩
theorem c_law_mixed (T : Tx K mg) : C8.Cal P w K mg base 1 "_law_mixed" sp_law_mixed [] := by
  refine mkCal T 24 30 rfl rfl sc_law_mixed (fun _ _ _ _ _ _ us hl => match us, hl with | [_, _, _], _ => rfl) (fun vs H Q E h => ?_) (fun f cdv A outer s H vs Q E hr h => ?_)
  · obtain ⟨A, Θ, _, ⟨a, b, c, rfl, _⟩, _⟩ := h
    rfl
  obtain ⟨A, Θ, lv, ⟨a, b, c, rfl, h0, hb, rfl⟩, k⟩ := h
  refine ⟨_, (pss_cons (ps_set (i := 3) sc_law_mixed.nd rfl (Or.inl rfl) (pe_op op_add (pe_op op_mul (pv 0) pe_int) (pe_op op_mul (pe_op op_mul pe_int (pv 1)) (pv 1))))
  (pss_cons (ps_set (i := 3) sc_law_mixed.nd rfl (Or.inl rfl) (pe_op op_mod (pe_callTy (k_int) rfl T.int_ bt_int (pa_cons (pe_op op_add (pe_op op_add (pv 3) (pe_op op_mul pe_int (pv 2))) (pv 1)) pa_nil)) pe_int))
  (pss_cons (ps_set (i := 3) sc_law_mixed.nd rfl (Or.inl rfl) (pe_op op_mod (pe_callTy (k_int) rfl T.int_ bt_int (pa_cons (pe_op op_add (pe_op op_mul (pv 3) (pv 3)) pe_int) pa_nil)) pe_int))
  (pss_one (ps_ret (pe_op op_mod (pe_callTy (k_int) rfl T.int_ bt_int (pa_cons (pe_op op_mul (pv 3) pe_int) pa_nil)) pe_int)))))), ?_⟩
  refine p_asg (ev_bin (ev_binC (C := CMul) (g := fun i j => i * j) (ev_var rfl (.int a)) ev_int (.inr (by decide))) (ev_binC (C := CMul) (g := fun i j => i * j) (ev_binC (C := CMul) (g := fun i j => i * j) ev_int (ev_var rfl (.int b)) (.inl (by decide))) (ev_var rfl (.int b)) (.inr (by omega)))) lv fun v1 H1 k1 lv1 p1 => ?_
  obtain rfl := Rp.int_eq p1
  generalize a * 69069 + 104729 * b * b = m1
  refine p_asg (ev_binC (C := fun _ j => 0 < j) (g := fun i j => i % j) (ev_int1 (ev_bin (ev_bin (ev_var rfl (.int m1)) (ev_binC (C := CMul) (g := fun i j => i * j) ev_int (ev_var rfl (.int c)) (.inl (by decide)))) (ev_var rfl (.int b)))) ev_int (by decide)) lv1 fun v2 H2 k2 lv2 p2 => ?_
  obtain rfl := Rp.int_eq p2
  have g0 := Int.emod_nonneg (m1 + 7919 * c + b) (show (2147483647 : Int) ≠ 0 by decide)
  have g1 := Int.emod_lt_of_pos (m1 + 7919 * c + b) (show (0 : Int) < 2147483647 by decide)
  generalize (m1 + 7919 * c + b) % 2147483647 = m2 at *
  refine p_asg (ev_binC (C := fun _ j => 0 < j) (g := fun i j => i % j) (ev_int1 (ev_bin (ev_binC (C := CMul) (g := fun i j => i * j) (ev_var rfl (.int m2)) (ev_var rfl (.int m2)) (.inl (by omega))) ev_int)) ev_int (by decide)) lv2 fun v3 H3 k3 lv3 p3 => ?_
  obtain rfl := Rp.int_eq p3
  generalize (m2 * m2 + 40503) % 2147483629 = m3 at *
  exact p_ret (Φ := someI) ((ev_binC (C := fun _ j => 0 < j) (g := fun i j => i % j) (ev_int1 (ev_binC (C := CMul) (g := fun i j => i * j) (ev_var rfl (.int m3)) ev_int (.inr (by decide)))) ev_int (by decide)).imp fun A' H' v _ p => ⟨_, trivial, p⟩) lv3 fun v H4 k4 p => k v H4 (((k1.trans k2).trans k3).trans k4) p
theorem v_law_mixed {e : Ef} {ta tb tc : TE} {σ : L2.St} {A : As} {H : Hp} {E : XK} {a b c : Int} (h0 : 0 ≤ b) (hb : b ≤ 1000000000001) (h : Em e 0 ta σ A H (da (.int a))) (h2 : Em e 0 tb σ A H (da (.int b))) (h3 : Em e 0 tc σ A H (da (.int c))) : Em e 0 (tCall sp_law_mixed [] E (tCons ta (tCons tb (tCons tc tNil)))) σ A H someI :=
  em_pm (c := 0) (eva_cons h (eva_cons h2 (eva_cons h3 eva_nil))) fun A' H' vs w p => by
    obtain ⟨x, y, z, rfl, q, q2, q3⟩ := pvs3 p
    obtain rfl := Rp.int_eq q
    obtain rfl := Rp.int_eq q2
    obtain rfl := Rp.int_eq q3
    exact ⟨a, b, c, rfl, h0, hb, rfl⟩
/-! _law_draw -/
abbrev sp_law_draw : Sp := Pe fun e A H vs c Θ => c = 1 ∧ ∃ p, ∃ m : Nat, e = eP p ∧ vs = [.ref p, .int m] ∧ 1 ≤ m ∧ m ≤ 1000000 ∧ Θ = belowP m
theorem bits20 {m : Nat} (h : m ≤ 1000000) : (Builtin.Int.intBits (m : Int) : Int) / 28 = 0 := by
  have : Builtin.Int.intBits (m : Int) ≤ 20 := PyProof.Rows.intBits_le (by rw [Int.natAbs_natCast]; omega)
  omega
abbrev s_law_draw : Stmt := top 38
abbrev N_law_draw : List Str := ["_law_purse_here", "_law_many", "_law_drawn", "_law_found", "_law_piece"]
theorem sc_law_draw : FnScope N_law_draw ["_law_purse_here", "_law_many"] (defScope s_law_draw) := ⟨rfl, rfl, rfl, by decide +kernel, rfl, by decide +kernel, by decide +kernel⟩
theorem c_law_draw (T : Tx K mg) : C8.Cal P w K mg base 2 "_law_draw" sp_law_draw [] := by
  refine mkCal T 25 31 rfl rfl sc_law_draw (fun _ _ _ _ _ _ us hl => match us, hl with | [_, _], _ => rfl) (fun vs H Q E h => ?_) (fun f cdv A outer s H vs Q E hr h => ?_)
  · obtain ⟨_, _, _, _, _, _, _, ⟨_, _, m, _, rfl, _⟩, _⟩ := h
    rfl
  obtain ⟨e, A, n, c, Θ, cu, hn, ⟨rfl, p, m, rfl, rfl, hm1, hm2, rfl⟩, k⟩ := h
  have c_law_mixed := c_law_mixed (P := P) (w := w) (base := base) T
  refine ⟨_, (pss_cons (ps_if (pt_cmpR op_gt (pe_ix (kix_list (K := K)) (pv 0) pe_int (fun _ _ => rfl)) pe_int (nomark _)) (pss_cons (ps_set (i := 2) sc_law_draw.nd rfl (Or.inl rfl) (pe_op op_mod (pe_callTy (k_int) rfl T.int_ bt_int (pa_cons (pe_ix (kix_list (K := K)) (pv 0) pe_int (fun _ _ => rfl)) pa_nil)) (pv 1)))
  (pss_cons (ps_asg (pe_op op_fdiv (pe_ix (kix_list (K := K)) (pv 0) pe_int (fun _ _ => rfl)) (pv 1)) (pg_sub (pv 0) pe_int set_list))
  (pss_one (ps_ret (pv 2))))) pss_nil)
  (pss_cons (ps_set (i := 3) sc_law_draw.nd rfl (Or.inl rfl) pe_int)
  (pss_cons (ps_for PassesOwn.never rfl (pi_range1 rfl T.range_ (pa_cons (pe_op op_add pe_int (pe_op op_fdiv (pe_bits (pv 1)) pe_int)) pa_nil)) (pg_name (i := 4) sc_law_draw.nd rfl (Or.inl rfl)) (pss_cons (ps_asg (pe_op op_add (pe_ix (kix_list (K := K)) (pv 0) pe_int (fun _ _ => rfl)) pe_int) (pg_sub (pv 0) pe_int set_list))
  (pss_one (ps_set (i := 3) sc_law_draw.nd rfl (Or.inl rfl) (pe_op op_add (pe_op op_mul (pv 3) pe_int) (C8.pe_c c_law_mixed hr (by decide) rfl (pa_cons (pe_ix (kix_list (K := K)) (pv 0) pe_int (fun _ _ => rfl)) (pa_cons (pe_ix (kix_list (K := K)) (pv 0) pe_int (fun _ _ => rfl)) (pa_cons (pe_ix (kix_list (K := K)) (pv 0) pe_int (fun _ _ => rfl)) pa_nil)))))))))
  (pss_one (ps_ret (pe_op op_mod (pe_callTy (k_int) rfl T.int_ bt_int (pa_cons (pv 3) pa_nil)) (pv 1))))))), ?_⟩
  obtain ⟨x0, x1, x2, x3, h20, h2n, cuX⟩ := cu.unP
  have hn1 : n ≤ big := by omega
  have hbig : n + 1 ≤ 1000000000000 := hn
  have fin : ∀ (i : Int), ∃ r : Nat, r < m ∧ i % (m : Int) = (r : Int) := fun i => by
    have g0 := Int.emod_nonneg i (show (m : Int) ≠ 0 by omega)
    have g1 := Int.emod_lt_of_pos i (show (0 : Int) < (m : Int) by omega)
    exact ⟨(i % m).toNat, by omega, by omega⟩
  have i0 : ∀ {y0 y1 y2 y3 : Int}, atI (pl y0 y1 y2 y3) 0 = some (.int y0) := rfl
  have i1 : ∀ {y0 y1 y2 y3 : Int}, atI (pl y0 y1 y2 y3) 1 = some (.int y1) := rfl
  have i2 : ∀ {y0 y1 y2 y3 : Int}, atI (pl y0 y1 y2 y3) 2 = some (.int y2) := rfl
  have i3 : ∀ {y0 y1 y2 y3 : Int}, atI (pl y0 y1 y2 y3) 3 = some (.int y3) := rfl
  refine z_if (T := (decide (x0 > 0) = ·)) (vt_B (ev_cmp (ev_ixO (Φ := da (.int x0)) (.refl _) rfl (ev_var rfl rfl) ev_int i0 fun _ _ => .int _) ev_int)) cuX hn1 (fun hz H1 k1 cu1 => ?_) (fun hz H1 k1 cu1 => ?_)
  · obtain ⟨r, hr1, hr2⟩ := fin x0
    refine z_asg (Φ := da (nat r)) (ev_is (ev_binC (C := fun _ j => 0 < j) (g := fun i j => i % j) (ev_int1 (ev_ixO (Φ := da (.int x0)) (.refl _) rfl (ev_var rfl rfl) ev_int i0 fun _ _ => .int _)) (ev_var rfl (.int (m : Int))) (by omega)) (by rw [hr2])) cu1 hn1 fun v2 H2 k2 cu2 p2 => ?_
    obtain rfl := Rp.int_eq p2
    refine z_put (jj := 0) (Φ := someI) ((ev_binC (C := CDiv) (g := fun i j => i / j) (ev_ixO (Φ := da (.int x0)) (.refl _) rfl (ev_var rfl rfl) ev_int i0 fun _ _ => .int _) (ev_var rfl (.int (m : Int))) ⟨by omega, by omega⟩).imp fun A' H' v _ p => ⟨_, trivial, p⟩) rfl rfl cu2 hn1 fun v3 H3 k3 cu3 p3 => ?_
    obtain ⟨y0, _, p3⟩ := p3
    obtain rfl := Rp.int_eq p3
    have cu4 : Cur (eX p (.lst (pl y0 x1 x2 x3)) (by simp)) A (upd H3 p (.lst ((pl x0 x1 x2 x3).set 0 (.int y0)))) n := cu3
    refine z_ret (Φ := da (nat r)) (ev_var rfl (.int _)) cu4 hn1 fun v4 H4 k4 j4 p4 => k v4 H4 (((k1.trans k2).trans k3).trans k4) ((cu4.aft k4 j4).toP h20 (by omega)).j ⟨r, hr1, p4⟩
  · refine to_next ?_
    dsimp only
    refine z_asg ev_int cu1 hn1 fun v2 H2 k2 cu2 p2 => ?_
    obtain rfl := Rp.int_eq p2
    have hN : (1 + (0 : Int)).toNat = 1 := rfl
    refine s_forS (e := eP p) 1 (fun i σ' H' => ∃ (f : Int) (x : Option V), σ' = [some (.ref p), some (.int (m : Int)), none, some (.int f), x]) (N := 1) (It := fun i => da (.int i)) (sr_rng1 (c := 0) (k := 1) (ev_is (ev_bin ev_int (ev_binC (C := CDiv) (g := fun i j => i / j) (ev_bits (ev_var rfl (.int (m : Int)))) ev_int ⟨by decide, by decide⟩)) (by rw [bits20 hm2]; rfl)) (by decide)) (cu2.toP h20 h2n) hn1 (fun _ _ _ _ h _ => h) (fun _ _ => ⟨0, none, rfl⟩) (fun H3 i σ' H' x k3 hi ⟨f, y, hσ⟩ k4 cu4 px => ?_) (fun σ' H' ⟨f, y, hσ⟩ k3 cu3 => ?_)
    · subst hσ
      have : i = 0 := by omega
      subst this
      have cu4 : Cur (eP p) A H' n := cu4
      obtain ⟨y0, y1, y2, y3, g20, g2n, cuY⟩ := cu4.unP
      refine z_put (jj := 2) (Φ := da (.int (y2 + 1))) (ev_bin (ev_ixO (Φ := da (.int y2)) (.refl _) rfl (ev_var rfl rfl) ev_int i2 fun _ _ => .int _) ev_int) rfl rfl cuY hn1 fun v5 H5 k5 cu5 p5 => ?_
      obtain rfl := Rp.int_eq p5
      have cu5 : Cur (eX p (.lst (pl y0 y1 (y2 + 1) y3)) (by simp)) A (upd H5 p (.lst ((pl y0 y1 y2 y3).set 2 (.int (y2 + 1))))) n := cu5
      refine z_asg (Φ := someI) (ev_I0s (ev_some (ev_binC (C := CMul) (g := fun i j => i * j) (ev_var rfl (.int f)) ev_int (.inr (by decide)))) (v_law_mixed (a := y1) (b := y2 + 1) (c := y3) (by omega) (by omega) (ev_ixO (.refl _) rfl (ev_var rfl rfl) ev_int i1 fun _ _ => .int _) (ev_ixO (.refl _) rfl (ev_var rfl rfl) ev_int i2 fun _ _ => .int _) (ev_ixO (.refl _) rfl (ev_var rfl rfl) ev_int i3 fun _ _ => .int _))) cu5 hn1 fun v6 H6 k6 cu6 p6 => ?_
      obtain ⟨g, _, p6⟩ := p6
      obtain rfl := Rp.int_eq p6
      exact ⟨⟨g, some x, by obtain rfl := Rp.int_eq px; rfl⟩, (k4.trans k5).trans k6, by
        have := cu6.toP (m := n + 0 + (0 + 1) * 1) (by omega) (by omega)
        exact this⟩
    · subst hσ
      obtain ⟨r, hr1, hr2⟩ := fin f
      refine z_ret (Φ := da (nat r)) (ev_is (ev_binC (C := fun _ j => 0 < j) (g := fun i j => i % j) (ev_int1 (ev_var rfl (.int f))) (ev_var rfl (.int (m : Int))) (by omega)) (by rw [hr2])) (n := n + 1) cu3 hn fun v4 H4 k4 j4 p4 => k v4 H4 (((k1.trans k2).trans k3).trans k4) j4 ⟨r, hr1, p4⟩
theorem v_law_draw {e : Ef} {ta tb : TE} {σ : L2.St} {A : As} {H : Hp} {E : XK} {p : Addr} {m : Nat} (S : Sube (eP p) e) (hm1 : 1 ≤ m) (hm2 : m ≤ 1000000) (h : Em e 0 ta σ A H (isv (.ref p))) (h2 : Em e 0 tb σ A H (da (nat m))) : Em e 1 (tCall sp_law_draw [] E (tCons ta (tCons tb tNil))) σ A H (belowP m) :=
  em_pe (c1 := 0) (c2 := 1) S (eva_cons h (eva_cons h2 eva_nil)) fun A' H' vs w _ q => by
    obtain ⟨x, y, rfl, q, q2⟩ := pvs2 q
    obtain rfl : x = .ref p := q
    obtain rfl := Rp.int_eq q2
    exact ⟨rfl, p, m, rfl, rfl, hm1, hm2, rfl⟩
/-! _law_purses -/
abbrev sp_law_purses (K : PySem.W.Frag) : Sp := Pm fun A H vs Θ => ∃ v, vs = [v, .int 1] ∧ (scrP K).p A H v ∧ Θ = lsQ [0] fun _ => purN
abbrev s_law_purses : Stmt := top 39
abbrev N_law_purses : List Str := ["_law_script", "_law_few", "_law_at"]
theorem sc_law_purses : FnScope N_law_purses ["_law_script", "_law_few"] (defScope s_law_purses) := ⟨rfl, rfl, rfl, by decide +kernel, rfl, by decide +kernel, by decide +kernel⟩
theorem c_law_purses (T : Tx K mg) : C8.Cal P w K mg base 2 "_law_purses" (sp_law_purses K) [] := by
  refine mkCal T 26 32 rfl rfl sc_law_purses (fun _ _ _ _ _ _ us hl => match us, hl with | [_, _], _ => rfl) (fun vs H Q E h => ?_) (fun f cdv A outer s H vs Q E hr h => ?_)
  · obtain ⟨A, Θ, _, ⟨v, rfl, _⟩, _⟩ := h
    rfl
  obtain ⟨A, Θ, lv, ⟨v, rfl, hv, rfl⟩, k⟩ := h
  have c_law_purse := c_law_purse (P := P) (w := w) (base := base) T
  refine ⟨_, (pss_one (ps_ret (pe_lc (own := [("_law_at", 2)]) rfl sc_law_purses.nd (pi_range1 rfl T.range_ (pa_cons (pe_callB (k_max2 rfl) rfl T.max_ bt_max (pa_cons pe_int (pa_cons (pe_callB (k_min2 rfl) rfl T.min_ bt_min (pa_cons (pv 1) (pa_cons (pe_callB (k_len (K := K)) rfl T.len_ bt_len (pa_cons (pv 0) pa_nil)) pa_nil))) pa_nil))) pa_nil)) (blkOk_by (own := [("_law_at", 2)]) (N := N_law_purses) (sc := defScope s_law_purses) (by decide +kernel)) (fun _ _ _ _ _ => (pg_name (i := 2) sc_law_purses.nd rfl (Or.inl rfl))) (fun _ _ _ _ _ => pts_nil) (fun _ _ _ _ _ => (C8.pe_c c_law_purse hr (by decide) rfl (pa_cons (pv 0) (pa_cons (pv 2) pa_nil))))))), ?_⟩
  have h1 : Em e0 0 (tCB r_max2 (tCons (tC (.int 1)) (tCons (tCB r_min2 (tCons (tVar 1) (tCons (tCB (r_len K) (tCons (tVar 0) tNil)) tNil))) tNil))) (L2.start N_law_purses [v, .int 1]) A H (da (.int 1)) :=
    ev_B2 (Φ := da (.int 1)) (Ψ := exv (fun i : Int => i ≤ 1) fun i => da (.int i)) ev_int (ev_B2 (Φ := da (.int 1)) (Ψ := belowP 64) (ev_var rfl (.int 1)) (em_lenS (ev_var rfl hv)) fun A' H' x y _ q ⟨l, hl, p⟩ => by
      obtain rfl := Rp.int_eq q
      obtain rfl := Rp.int_eq p
      exact rv_v (.int (if (l : Int) < 1 then l else 1)) (fun Q hq => ⟨1, l, rfl, hq⟩) ⟨_, by split <;> omega, .int _⟩) fun A' H' x y _ q ⟨l, hl, p⟩ => by
      obtain rfl := Rp.int_eq q
      obtain rfl := Rp.int_eq p
      exact rv_v (.int 1) (fun Q hq => ⟨1, l, rfl, by rw [if_neg (by omega)]; exact hq⟩) (.int _)
  exact p_ret (Φ := lsQ (List.range 1) fun _ => purN) (ev_lcA (vr_rng1 h1 (by decide)) (by decide) (fun x => rfl) fun i A1 H1 x hi w px => v_law_purse (i := i) (by have : i < 1 := hi; omega) (ev_var (i := 0) rfl ((scrP K).up w hv)) (ev_var (i := 2) rfl px)) lv k
theorem v_law_purses {e : Ef} {ta : TE} {σ : L2.St} {A : As} {H : Hp} {E : XK} (h : Em e 0 ta σ A H (scrP K)) : Em e 0 (tCall (sp_law_purses K) [] E (tCons ta (tCons (tC (.int 1)) tNil))) σ A H (lsQ [0] fun _ => purN) :=
  em_pm (c := 0) (eva_cons h (eva_cons ev_int eva_nil)) fun A' H' vs w p => by
    obtain ⟨x, y, rfl, q, q2⟩ := pvs2 p
    obtain rfl := Rp.int_eq q2
    exact ⟨x, rfl, q, rfl⟩
/-! _law_one_of -/
abbrev sp_law_one_of : Sp := Pe fun e A H vs c Θ => c = 1 ∧ ∃ p v ds, e = eP p ∧ vs = [.ref p, v] ∧ Rp A H v (.list ds) ∧ 1 ≤ ds.length ∧ ds.length ≤ 1000000 ∧ Θ = exv (· ∈ ds) da
abbrev s_law_one_of : Stmt := top 40
abbrev N_law_one_of : List Str := ["_law_purse_here", "_law_some"]
theorem sc_law_one_of : FnScope N_law_one_of ["_law_purse_here", "_law_some"] (defScope s_law_one_of) := ⟨rfl, rfl, rfl, by decide +kernel, rfl, by decide +kernel, by decide +kernel⟩
theorem c_law_one_of (T : Tx K mg) : C8.Cal P w K mg base 3 "_law_one_of" sp_law_one_of [] := by
  refine mkCal T 27 33 rfl rfl sc_law_one_of (fun _ _ _ _ _ _ us hl => match us, hl with | [_, _], _ => rfl) (fun vs H Q E h => ?_) (fun f cdv A outer s H vs Q E hr h => ?_)
  · obtain ⟨_, _, _, _, _, _, _, ⟨_, _, _, _, _, rfl, _⟩, _⟩ := h
    rfl
  obtain ⟨e, A, n, c, Θ, cu, hn, ⟨rfl, p, v, ds, rfl, rfl, hv, h1, h2, rfl⟩, k⟩ := h
  have c_law_draw := c_law_draw (P := P) (w := w) (base := base) T
  refine ⟨_, (pss_one (ps_ret (pe_ix (kix_list (K := K)) (pv 1) (C8.pe_c c_law_draw hr (by decide) rfl (pa_cons (pv 0) (pa_cons (pe_callB (k_len (K := K)) rfl T.len_ bt_len (pa_cons (pv 1) pa_nil)) pa_nil))) (fun _ _ => rfl)))), ?_⟩
  refine s_ret (c := 0 + 1 + 0) (Φ := exv (· ∈ ds) da) (em_op (Ψ := belowP ds.length) (ev_var (Φ := da (.list ds)) rfl hv) (v_law_draw (.refl _) h1 h2 (ev_var rfl rfl) (ev_len (ev_var rfl hv))) fun A' H' x y _ q q2 => ?_) cu hn k
  obtain ⟨i, hi, q2⟩ := q2
  obtain rfl := Rp.int_eq q2
  obtain ⟨a, xs, rfl, na, ha, r⟩ := Rp.list_eq q
  have e1 : ds[i]? = some ds[i] := List.getElem?_eq_getElem hi
  obtain ⟨z, hz, rz⟩ := r.atI (i := i) (atI_nat e1)
  exact rv_v z (fun Q hq => ⟨a, xs, i, z, rfl, rfl, SqL.of ha, hz, hq⟩) ⟨ds[i], List.getElem_mem hi, rz⟩
theorem v_law_one_of {e : Ef} {ta tb : TE} {σ : L2.St} {A : As} {H : Hp} {E : XK} {p : Addr} {ds : List PyData} (S : Sube (eP p) e) (h1 : 1 ≤ ds.length) (h2 : ds.length ≤ 1000000) (h : Em e 0 ta σ A H (isv (.ref p))) (h3 : Em e 0 tb σ A H (da (.list ds))) : Em e 1 (tCall sp_law_one_of [] E (tCons ta (tCons tb tNil))) σ A H (exv (· ∈ ds) da) :=
  em_pe (c1 := 0) (c2 := 1) S (eva_cons h (eva_cons h3 eva_nil)) fun A' H' vs w _ q => by
    obtain ⟨x, y, rfl, q, q2⟩ := pvs2 q
    obtain rfl : x = .ref p := q
    exact ⟨rfl, p, y, ds, rfl, rfl, q2, h1, h2, rfl⟩
/-! _law_shuffled -/
abbrev sp_law_shuffled : Sp := Pe fun e A H vs c Θ => ∃ p v ds, c = ds.length ∧ e = eP p ∧ vs = [.ref p, v] ∧ Rp A H v (.list ds) ∧ ds.length ≤ 50000 ∧ Θ = exv (fun es : List PyData => es.Perm ds) fun es => da (.list es)
theorem ins_perm {α : Type} (es : List α) (i : Nat) (y : α) : (es.take i ++ [y] ++ es.drop i).Perm (es ++ [y]) := by
  have h : (es.take i ++ [y] ++ es.drop i).Perm (es.take i ++ es.drop i ++ [y]) := by
    rw [List.append_assoc, List.append_assoc]
    exact List.Perm.append_left _ List.perm_append_comm
  rwa [List.take_append_drop] at h
abbrev s_law_shuffled : Stmt := top 41
abbrev N_law_shuffled : List Str := ["_law_purse_here", "_law_some", "_law_found", "_law_item"]
theorem sc_law_shuffled : FnScope N_law_shuffled ["_law_purse_here", "_law_some"] (defScope s_law_shuffled) := ⟨rfl, rfl, rfl, by decide +kernel, rfl, by decide +kernel, by decide +kernel⟩
theorem c_law_shuffled (T : Tx K mg) : C8.Cal P w K mg base 3 "_law_shuffled" sp_law_shuffled [] := by
  refine mkCal T 28 34 rfl rfl sc_law_shuffled (fun _ _ _ _ _ _ us hl => match us, hl with | [_, _], _ => rfl) (fun vs H Q E h => ?_) (fun f cdv A outer s H vs Q E hr h => ?_)
  · obtain ⟨_, _, _, _, _, _, _, ⟨_, _, _, _, _, rfl, _⟩, _⟩ := h
    rfl
  obtain ⟨e, A, n, c, Θ, cu, hn, ⟨p, v, ds, rfl, rfl, rfl, hv, hl, rfl⟩, k⟩ := h
  have c_law_draw := c_law_draw (P := P) (w := w) (base := base) T
  refine ⟨_, (pss_cons (ps_set (i := 2) sc_law_shuffled.nd rfl (Or.inl rfl) (pe_lst pa_nil))
  (pss_cons (ps_for PassesOwn.never rfl (kpi_list (K := K) (pv 1)) (pg_name (i := 3) sc_law_shuffled.nd rfl (Or.inl rfl)) (pss_one (ps_expr (pe_bm PySem.F.plainAttrs_list PySem.F.slot_list_insert PySem.F.type_list_insert (mt_insert) (pv 2) (pa_cons (C8.pe_c c_law_draw hr (by decide) rfl (pa_cons (pv 0) (pa_cons (pe_op op_add (pe_callB (k_len (K := K)) rfl T.len_ bt_len (pa_cons (pv 2) pa_nil)) pe_int) pa_nil))) (pa_cons (pv 3) pa_nil))))))
  (pss_one (ps_ret (pv 2))))), ?_⟩
  have hn1 : n ≤ big := by omega
  refine z_asg (Φ := lstN H []) em_lstE cu hn1 fun v2 H2 k2 cu2 p2 => ?_
  obtain ⟨d, rfl, nd, hd0, hd⟩ := p2
  have hB : ¬ (eP p).B d := fun z => nd (cu2.sub d z)
  have hv2 : Rp (Ad A d) H2 v (.list ds) := hv.up (cu.wlN k2 hd0)
  have cuW : Cur (eY (eP p) d (.lst [])) (Ad A d) H2 n := (cu2.ad hd).own (hx := by simp) hd (.inr rfl)
  refine s_forE (e1 := eY (eP p) d (.lst [])) (e := eW (eP p) d) (A := Ad A d) 1 (fun i σ' H' => ∃ x xs es, σ' = [some (.ref p), some v, some (.ref d), x] ∧ H' d = some (.lst xs) ∧ RpA (Ad A d) H' xs es ∧ es.Perm (ds.take i)) (sr_list (c := 0) (ev_var rfl hv2)) cuW hn1 (fun _ h => h) (fun _ _ _ _ ⟨x, xs, es, h1, h2, h3, h4⟩ kk => ⟨x, xs, es, h1, kk.1 d _ id h2, h3.up (.of0 kk), h4⟩) (fun H3 k3 c3 => ⟨⟨none, [], [], rfl, c3.at, .nil, List.Perm.refl _⟩, c3.toW⟩) (fun H3 i σ' H' x k3 hi ⟨y, xs, es, hσ, hd', hr', hp'⟩ k4 cu4 px => ?_) (fun σ' H' ⟨y, xs, es, hσ, hd', hr', hp'⟩ k3 cu3 => ?_)
  · subst hσ
    have hlen : xs.length ≤ i := by rw [hr'.length, hp'.length_eq, List.length_take]; omega
    have cuY : Cur (eY (eP p) d (.lst xs)) (Ad A d) H' (n + i) := by
      have := cu4.toX (hx := by simp) hd'
      simpa using this
    have px : Rp (Ad A d) H' x (ds.getD i .none) := px
    have SX : Sube (eX d (.lst xs) (by simp)) (eY (eP p) d (.lst xs)) := .ox hB
    have hA : EmA (eY (eP p) d (.lst xs)) 1 (tCons (tCall sp_law_draw [] C8.E0 (tCons (tVar 0) (tCons (tOp (rI0 fun i j => V.int (i + j)) (tCB (r_len K) (tCons (tVar 2) tNil)) (tC (V.int 1))) tNil))) (tCons (tVar 3) tNil)) [some (.ref p), some v, some (.ref d), some x] (Ad A d) H' [belowP (xs.length + 1), da (ds.getD i .none)] :=
      ema_cons (c1 := 1) (c2 := 0) (v_law_draw (.oy hB) (by omega) (by omega) (ev_var rfl rfl) (ev_is (ev_bin (ev_lenO SX rfl (ev_var rfl rfl)) ev_int) rfl)) (ema_cons (c1 := 0) (c2 := 0) (ev_var rfl px) ema_nil)
    refine ⟨_, rfl, .inl ⟨rfl, _, SqL.of hd'⟩, hA (Ad A d) H' (n + i) (.refl _ _) cuY (by omega) _ fun vs H5 k5 j5 p5 => ?_⟩
    obtain ⟨y1, y2, rfl, ⟨r, hr, q1⟩, q2⟩ := pvs2 p5
    obtain rfl := Rp.int_eq q1
    have hd5 : H5 d = some (.lst xs) := j5.2
    have cu5 := cuY.aft k5 j5
    have kM : Kp (eY (eP p) d (.lst xs)).B H5 (upd H5 d (.lst (xs.take r ++ [y2] ++ xs.drop r))) := .mut (.inr rfl) (by rw [hd5]; simp)
    refine ⟨d, xs, (r : Int), y2, rfl, rfl, hd5, sl5 (by omega), by omega, by omega, ⟨some x, _, es.take r ++ [ds.getD i .none] ++ es.drop r, rfl, upd_same, ?_, ?_⟩, (k4.trans k5).trans kM, ?_⟩
    · have h5 := hr'.up (cuY.wl k5)
      exact ((((h5.take r).append (.cons q2 .nil)).append (h5.drop r)).up (.of kM cu5.sub))
    · refine (ins_perm es r _).trans ?_
      have hi2 : i < ds.length := by simpa using hi
      rw [List.take_succ, List.getElem?_eq_getElem hi2, List.getD_eq_getElem?_getD, List.getElem?_eq_getElem hi2]
      exact hp'.append_right _
    · have := (cu5.put (f := .lst (xs.take r ++ [y2] ++ xs.drop r)) (hf := by simp) hB).toW
      exact this.mono (by omega)
  · subst hσ
    have cu4 : Cur (eY (eP p) d (.lst xs)) (Ad A d) H' (n + ds.length) := by
      have := cu3.toX (hx := by simp) hd'
      simpa using this
    refine z_ret (Φ := isv (.ref d)) (ev_var rfl rfl) cu4 hn fun v4 H4 k4 j4 p4 => ?_
    obtain rfl : v4 = .ref d := p4
    have cu5 := cu4.aft k4 j4
    refine k _ H4 (k2.dropW (k3.trans k4) hd0) cu5.rid.j ⟨es, ?_, .lst nd cu5.at ((hr'.up (cu4.wl k4)).dn fun a q => .inl q)⟩
    have : ds.take ds.length = ds := List.take_length
    rwa [this] at hp'
theorem v_law_shuffled {e : Ef} {ta tb : TE} {σ : L2.St} {A : As} {H : Hp} {E : XK} {p : Addr} {ds : List PyData} (S : Sube (eP p) e) (h2 : ds.length ≤ 50000) (h : Em e 0 ta σ A H (isv (.ref p))) (h3 : Em e 0 tb σ A H (da (.list ds))) : Em e ds.length (tCall sp_law_shuffled [] E (tCons ta (tCons tb tNil))) σ A H (exv (fun es : List PyData => es.Perm ds) fun es => da (.list es)) := by
  have := em_pe (E := E) (Θ := exv (fun es : List PyData => es.Perm ds) fun es => da (.list es)) (pre := fun e A H vs c Θ => ∃ p v ds, c = ds.length ∧ e = eP p ∧ vs = [.ref p, v] ∧ Rp A H v (.list ds) ∧ ds.length ≤ 50000 ∧ Θ = exv (fun es : List PyData => es.Perm ds) fun es => da (.list es)) (c1 := 0) (c2 := ds.length) S (eva_cons h (eva_cons h3 eva_nil)) fun A' H' vs w _ q => by
    obtain ⟨x, y, rfl, q, q2⟩ := pvs2 q
    obtain rfl : x = .ref p := q
    exact ⟨p, y, ds, rfl, rfl, rfl, q2, h2, rfl⟩
  rw [Nat.zero_add] at this
  exact this
end
end SB
namespace SB
open PySem PySem.Spec PyProof.Rows PySem.W L2
/-! ### {(..): v}: one key, a tuple -/
section
variable {prog : Program} {w : World} {κ : Type} [DecidableEq κ] {knd : HeapKind prog w κ} {A : Around} {E : Value → Shared → Prop} {s : Shared}
theorem dict_pairsA {env : Env} {keys : List (Option Expr)} {values : List Expr} {pos : Pos} {pairs : List (Sem Value × Sem Value)} {Q : Value → Shared → Prop} (hu : knd.room A)
    (hshape : (evalEachOpt keys env).zip ((evalEach values env).map fun v => do let x ← v; standAt pos; pure x) = pairs.map fun p => (some p.1, p.2)) (h0 : pairs ≠ []) (hlen : pairs.length ≤ 15)
    (h : wpAny (model prog w) A (evalPairs pairs) (fun vs s₁ => ∃ ps, CarriesH knd s₁.heap vs ps ∧ s₁.heap.DictOfH knd s.heap.objs.size [] ∧
      ∀ h' tk, h'.DictOfH knd s.heap.objs.size (storedAllH [] ps) → Heap.SameBut s.heap.objs.size s₁.heap h' → Q (.ref s.heap.objs.size) { s₁ with heap := h', toks := tk }) E
      { s with heap := s.heap.push { cls := .type "dict", data := .dict #[] } }) :
    wpAny (model prog w) A (eval (.Dict keys values pos) env) Q E s := by
  rw [arm_eval_Dict, hshape, dictDisplay_pairs pairs h0 (by omega)]
  exact wpAny_bind (wpAny_standAt (wpAny_bind (wpAny_subDictH (knd := knd) (Q := fun d s' => wpAny (model prog w) A (pure (Value.ref d)) Q E s') hu hlen
    (wpAny_mono h (fun vs s₁ h₁ => by obtain ⟨ps, hc, hm, hq⟩ := h₁; exact ⟨ps, hc, hm, fun h' tk a b => wpAny_pure (hq h' tk a b)⟩) fun _ _ e => e))))
end
def tDispT (tk tv : TE) : TE := fun σ H Q => ∀ p, H p = none → tk σ (upd H p (.dT [])) fun x H1 => tv σ H1 fun y H2 => H2 p = some (.dT []) ∧ ∃ (k : List Key) (b : Addr), x = .ref b ∧ H2 b = some (.tup (k.map kV)) ∧ Q (.ref p) (upd H2 p (.dT [(k, y)]))
theorem pe_dispT {X : Cx} {pos : Pos} {ke ve : Expr} {tk tv : TE} (hu : X.A.units + 64 < cLine) (hk : PE X ke tk) (hv : PE X ve tv) : PE X (.Dict [some ke] [ve] pos) (tDispT tk tv) := by
  refine ⟨fun pins s σ H Q I q => ?_⟩
  have hn := I.hok.fresh (Nat.le_refl s.heap.objs.size)
  have I1 := I.laid (a := s.heap.objs.size) (o := .dT []) (h' := s.heap.push { cls := .type "dict", data := .dict #[] }) (t' := s.toks) (fun _ _ q => Heap.get?_push_of_some _ q) (Nat.le_refl _) (dt_empty s.heap I.big)
  refine dict_pairsA (knd := tupleKind (mixKind X.prog X.w)) (pairs := pairTrees [some ke] [ve] X.env pos) (by show X.A.units < cLine; omega) (zip_pairTrees _ _ _ _ rfl rfl) (fun z => by cases z) (by show (1 : Nat) ≤ 15; decide) (pairTrees_cons_walk (thn (hk.run pins _ σ _ _ I1 (q _ hn)) fun u s1 ⟨x, H1, I2, rx, q1⟩ => thn (hv.run pins s1 σ H1 _ I2 q1) fun w2 s2 ⟨y, H2, I3, ry, e, k, b, ex, hb, q2⟩ => pairTrees_nil_walk ?_))
  subst ex
  obtain rfl : u = Value.ref b := rx
  obtain ⟨z, hd, xs, r0, dd⟩ := dt_of I3.hok e
  cases r0
  refine ⟨[(k, b, w2)], ⟨rfl, rfl, key_of I3.hok hb, trivial⟩, dd, fun h' tk dd' hs => ?_⟩
  obtain ⟨o, es, ep, g1, g2, g3, g4, _, g5⟩ := dd'
  refine ⟨.ref s.heap.objs.size, upd H2 s.heap.objs.size (.dT [(k, y)]), d_write (t' := tk) I3 (by rw [e]; exact True.intro) hs ⟨o, g1⟩ ⟨(show (1 : Nat) ≤ sizeLine by decide), hd, [(k, b, w2)], .cons ⟨rfl, ?_, ry⟩ .nil, o, es, ep, g1, g2, g3, g4, g5⟩, rfl, q2⟩
  rw [upd_ne (ne_of hb e (fun z => nomatch z))]
  exact hb
end SB
namespace SB
open PySem PySem.Spec PyProof.Rows L2 LamX
/-! ### lots as tuples -/
abbrev tlot (m : Nat) : PyData := .tuple (nts (blk m))
theorem kt_V (m : Nat) : (kt m).map kV = (blk m).map fun b : Nat => V.int b := by
  unfold kt
  rw [List.map_map]
  rfl
section
variable {A A' : As} {H H' : Hp} {v : V} {K : PySem.W.Frag}
theorem nts_eq : ∀ {l : List Nat} {xs : List V}, RpA A H xs (nts l) → xs = l.map fun b : Nat => V.int b
  | [], _, .nil => rfl
  | b :: l, _, .cons r t => by
    obtain rfl := Rp.int_eq r
    rw [nts_eq t]
    rfl
theorem Rp.tlot_eq {m : Nat} (h : Rp A H v (tlot m)) : ∃ a, v = .ref a ∧ H a = some (.tup ((kt m).map kV)) := by
  obtain ⟨a, xs, rfl, ha, r⟩ := Rp.tuple_eq h
  exact ⟨a, rfl, by rw [kt_V, ha, nts_eq r]⟩
theorem Rp.tlot_of {m : Nat} {a : Addr} (h : H a = some (.tup ((kt m).map kV))) : Rp A H (.ref a) (tlot m) := .tup (by rw [h, kt_V]) (rpa_nts _)
end
section
variable {κ : Type} [DecidableEq κ] {key : Nat → κ} {f : Nat → V}
theorem putK_f (ij : Inj key) {ms : List Nat} {k : Nat} (hm : ∀ m ∈ ms, m < 256) (hk : k < 256) : putK (kvm key f ms) (key k) (f k) = kvm key f (ins ms k) := by
  unfold ins
  by_cases e : k ∈ ms
  · rw [if_pos e]
    unfold putK
    rw [if_pos (by rw [valV_any, valV_kvm ij hm hk, if_pos e]; rfl)]
    unfold kvm
    rw [List.map_map]
    refine List.map_congr_left fun m hm' => ?_
    show (if (key m, f m).1 = key k then ((key m, f m).1, f k) else (key m, f m)) = _
    by_cases z : (key m, f m).1 = key k
    · rw [if_pos z, ij m k (hm m hm') hk z]
    · rw [if_neg z]
  · rw [if_neg e]
    exact putK_kvm (f := f) ij hm hk e
theorem ins_lt {ms : List Nat} {k N : Nat} (h : ∀ m ∈ ms, m < N) (hk : k < N) : ∀ m ∈ ins ms k, m < N := fun m hm => (ins_mem.mp hm).elim (h m) fun z => z ▸ hk
theorem mg_f (ij : Inj key) : ∀ (l ms : List Nat), (∀ m ∈ ms, m < 256) → (∀ m ∈ l, m < 256) → mg (kvm key f ms) (l.map fun m => (key m, f m)) = kvm key f (l.foldl ins ms)
  | [], ms, _, _ => rfl
  | m :: l, ms, h1, h2 => by
    show mg (putK (kvm key f ms) (key m) (f m)) (l.map fun m => (key m, f m)) = _
    rw [putK_f ij h1 (h2 m List.mem_cons_self)]
    exact mg_f ij l (ins ms m) (ins_lt h1 (h2 m List.mem_cons_self)) fun x hx => h2 x (List.mem_cons_of_mem _ hx)
theorem fold_app : ∀ (l acc : List Nat), l.Nodup → (∀ x ∈ l, x ∉ acc) → l.foldl ins acc = acc ++ l
  | [], acc, _, _ => by simp
  | k :: l, acc, h, q => by
    obtain ⟨h1, h2⟩ := List.nodup_cons.mp h
    have e : ins acc k = acc ++ [k] := if_neg (q k List.mem_cons_self)
    rw [List.foldl_cons, e, fold_app l (acc ++ [k]) h2 fun x hx z => ?_, List.append_assoc]
    · rfl
    · rcases List.mem_append.mp z with z | z
      · exact q x (List.mem_cons_of_mem _ hx) z
      · rw [List.mem_singleton.mp z] at hx
        exact h1 hx
theorem setOf_id {l : List Nat} (h : l.Nodup) : setOf l = l := by
  unfold setOf
  rw [fold_app l [] h fun x _ z => by cases z]
  rfl
end
theorem mergeK_mg (kvs more : List (Key × V)) : mergeK kvs more = mg kvs more := rfl
/-- an ascending list of ints with a mask's members is its blocks -/
theorem sort_blk {ns : List Int} {l : List Nat} {m : Nat} (hp : ns.Perm (l.map fun b : Nat => (b : Int))) (hs : ns.Pairwise (· ≤ ·)) (hn : l.Nodup) (hm : ∀ x, x ∈ l ↔ x ∈ blk m) : ns = (blk m).map fun b : Nat => (b : Int) := by
  have q : l.Perm (blk m) := (List.perm_ext_iff_of_nodup hn (blk_nd m)).mpr hm
  have q2 : ns.Perm ((blk m).map fun b : Nat => (b : Int)) := hp.trans (q.map _)
  refine q2.eq_of_pairwise (le := (· ≤ ·)) (fun a b _ _ h1 h2 => by omega) hs ?_
  rw [List.pairwise_map]
  exact (blk_asc m).imp fun h => by omega
section
variable {e : Ef} {c c1 c2 : Nat} {K : PySem.W.Frag} {mgx : Str → Option Value} {ta tb te tl tk : TE} {tt tu : TT} {σ : L2.St} {A A' : As} {H H' : Hp} {Φ Ψ Θ : Pv} {ds es : List PyData} {n m : Nat} {E : XK} {D : Ends} {i j : Int}
theorem k_sortI {X : Cx} (hK : X.K = K := by rfl) : CallR X (.builtin "sorted") (rSortedI K) := hK ▸ cr_sortedI
theorem em_sortI {l : List Nat} (h : Em e c ta σ A H (da (.list (nts l)))) (hn : l.Nodup) (hm : ∀ x, x ∈ l ↔ x ∈ blk m) : Em e c (tCB (rSortedI K) (tCons ta tNil)) σ A H (da (lot m)) := em_B1 h fun A' H' x _ p => by
  obtain ⟨a, xs, rfl, na, ha, r⟩ := Rp.list_eq p
  have e1 : xs = (l.map fun b : Nat => (b : Int)).map V.int := by rw [nts_eq r, List.map_map]; rfl
  rw [e1] at ha
  exact fun n cu _ Q q => ⟨a, _, rfl, SqL.of ha, fun ns p hp hs hf => by
    rw [sort_blk hp hs hn hm]
    refine q (.ref p) _ (.new hf) (cu.new hf).j (.lst (cu.lv.fresh hf) upd_same ?_)
    rw [List.map_map]
    exact rpa_nts _⟩
/-! dict(pairs), ints -/
def r_dictP (K : PySem.W.Frag) : List V → Hp → VK → Prop := fun xs H Q => ∃ (a : Addr) (ps : List Addr) (kvs : List (Key × V)), xs = [.ref a] ∧ SqL K H a (ps.map V.ref) ∧ Paired (fun p kv => SqT K H p [kV kv.1, kv.2]) ps kvs ∧ ∀ p, H p = none → Q (.ref p) (upd H p (.dK (mergeK [] kvs)))
theorem k_dictP {X : Cx} (hc : X.calm = true) (hK : X.K = K := by rfl) : CallR X (.type "dict") (r_dictP K) := hK ▸ call_dictP hc
theorem rpaN_pairs : ∀ {l : List Nat} {xs : List V}, RpA A H xs (l.map fun b => .tuple [nat b, .bool true]) → ∃ ps : List Addr, xs = ps.map V.ref ∧ Paired (fun p (kv : Key × V) => SqT K H p [kV kv.1, kv.2]) ps (l.map fun b => (ki b, V.bl true))
  | [], _, .nil => ⟨[], rfl, .nil⟩
  | b :: l, _, .cons r t => by
    obtain ⟨ps, rfl, q⟩ := rpaN_pairs t
    obtain ⟨a, ys, rfl, ha, r⟩ := Rp.tuple_eq r
    cases r with
    | cons r1 r => cases r with
      | cons r2 r => cases r with
        | nil =>
          obtain rfl := Rp.int_eq r1
          obtain rfl := Rp.bl_eq r2
          exact ⟨a :: ps, rfl, .cons (SqT.of ha) q⟩
theorem em_dictN {l : List Nat} (h : Em e c ta σ A H (da (.list (l.map fun b => .tuple [nat b, .bool true])))) (hl : ∀ b ∈ l, b < 256) : Em e c (tCB (r_dictP K) (tCons ta tNil)) σ A H (dKv (kvm ki yes (setOf l))) := em_B1 h fun A' H' x _ p => by
  obtain ⟨a, xs, rfl, na, ha, r⟩ := Rp.list_eq p
  obtain ⟨ps, rfl, q⟩ := rpaN_pairs (K := K) r
  refine rv_new (.dK (kvm ki yes (setOf l))) (fun Q hq => ⟨a, ps, _, rfl, SqL.of ha, q, fun p hp => ?_⟩) fun p hp np => ⟨p, rfl, np, upd_same⟩
  have e1 : mergeK [] (l.map fun b => (ki b, V.bl true)) = kvm ki yes (setOf l) := mg_f (f := yes) ki_inj l [] no_mem hl
  rw [e1]
  exact hq p hp
/-! sorted(dict), ints -/
def r_sortDI : List V → Hp → VK → Prop := fun xs H Q => ∃ (a : Addr) (kvs : List (Key × V)) (ks : List Int), xs = [.ref a] ∧ Rd H a (.dK kvs) ∧ kvs.map (·.1) = ks.map Sum.inl ∧ ks.length < 64 ∧ ∀ (ys : List Int) (p : Addr), ys.Perm ks → ys.Pairwise (· ≤ ·) → H p = none → Q (.ref p) (upd H p (.lst (ys.map V.int)))
theorem k_sortDI {X : Cx} (hc : X.calm = true) : CallR X (.builtin "sorted") r_sortDI := call_sortedDI hc
theorem em_sortDI {ms : List Nat} {f : Nat → V} (h : Em e c ta σ A H (dKv (kvm ki f ms))) (hl : ms.length < 64) (hn : ms.Nodup) (hm : ∀ x, x ∈ ms ↔ x ∈ blk m) : Em e c (tCB r_sortDI (tCons ta tNil)) σ A H (da (lot m)) := em_B1 h fun A' H' x _ p => by
  obtain ⟨a, rfl, na, ha⟩ := p
  refine fun n cu _ Q q => ⟨a, _, ms.map fun b : Nat => (b : Int), rfl, .inl ha, ?_, by rw [List.length_map]; exact hl, fun ns p hp hs hf => ?_⟩
  · unfold kvm
    rw [List.map_map, List.map_map]
    rfl
  · rw [sort_blk hp hs hn hm]
    refine q (.ref p) _ (.new hf) (cu.new hf).j (.lst (cu.lv.fresh hf) upd_same ?_)
    rw [List.map_map]
    exact rpa_nts _
/-! dict(pairs), tuples -/
theorem rpaT_pairs {f : Nat → PyData} {g : Nat → V} (hg : ∀ m v, Rp A H v (f m) → v = g m) : ∀ {l : List Nat} {xs : List V}, RpA A H xs (l.map fun m => .tuple [tlot m, f m]) → ∃ ps : List Addr, xs = ps.map V.ref ∧ Paired (fun p (kv : List Key × V) => ∃ b, SqT K H p [.ref b, kv.2] ∧ H b = some (.tup (kv.1.map kV))) ps (l.map fun m => (kt m, g m))
  | [], _, .nil => ⟨[], rfl, .nil⟩
  | b :: l, _, .cons r t => by
    obtain ⟨ps, rfl, q⟩ := rpaT_pairs hg t
    obtain ⟨a, ys, rfl, ha, r⟩ := Rp.tuple_eq r
    cases r with
    | cons r1 r => cases r with
      | cons r2 r => cases r with
        | nil =>
          obtain ⟨b, rfl, hb⟩ := Rp.tlot_eq r1
          obtain rfl := hg _ _ r2
          exact ⟨a :: ps, rfl, .cons ⟨b, SqT.of ha, hb⟩ q⟩
theorem em_dictT {f : Nat → PyData} {g : Nat → V} {l : List Nat} (hg : ∀ A H m v, Rp A H v (f m) → v = g m) (h : Em e c ta σ A H (da (.list (l.map fun m => .tuple [tlot m, f m])))) (hl : ∀ b ∈ l, b < 256) : Em e c (tCB (rDictT K) (tCons ta tNil)) σ A H (dTv (kvm kt g (setOf l))) := em_B1 h fun A' H' x _ p => by
  obtain ⟨a, xs, rfl, na, ha, r⟩ := Rp.list_eq p
  obtain ⟨ps, rfl, q⟩ := rpaT_pairs (K := K) (hg A' H') r
  refine rv_new (.dT (kvm kt g (setOf l))) (fun Q hq => ⟨a, ps, _, rfl, SqL.of ha, q, fun p hp => ?_⟩) fun p hp np => ⟨p, rfl, np, upd_same⟩
  have e1 : mg [] (l.map fun m => (kt m, g m)) = kvm kt g (setOf l) := mg_f (f := g) kt_inj l [] no_mem hl
  rw [e1]
  exact hq p hp
/-! sorted(dict), tuples -/
def ktInv (k : List Key) : Nat := bitsOf (k.map fun | .inl i => i.toNat | .inr _ => 0)
theorem ktInv_kt {m : Nat} (hm : m < 256) : ktInv (kt m) = m := by
  unfold ktInv kt
  rw [List.map_map]
  have : (blk m).map ((fun (x : Key) => match x with | .inl i => i.toNat | .inr _ => 0) ∘ ki) = blk m := by
    have z : ∀ b ∈ blk m, ((fun (x : Key) => match x with | .inl i => i.toNat | .inr _ => 0) ∘ ki) b = id b := fun b _ => rfl
    rw [List.map_congr_left z, List.map_id]
  rw [this, bitsOf_blk hm]
def lotsT (ms : List Nat) : Pv := exv (fun l : List Nat => l.Perm ms) fun l => da (.list (l.map tlot))
theorem em_sortDT {ms : List Nat} {f : Nat → V} (h : Em e c ta σ A H (dTv (kvm kt f ms))) (hm : ∀ m ∈ ms, m < 256) : Em e c (tCB rSortDT (tCons ta tNil)) σ A H (lotsT ms) := em_B1 h fun A' H' x _ p => by
  obtain ⟨a, rfl, na, ha⟩ := p
  refine fun n cu _ Q q => ⟨a, _, rfl, .inl ha, fun kv hkv => ?_, fun ps p hp ht hf => q (.ref p) _ (.new hf) (cu.new hf).j ⟨ps.map fun x => ktInv x.2, ?_, .lst (cu.lv.fresh hf) upd_same ?_⟩⟩
  · obtain ⟨m, _, rfl⟩ := List.mem_map.mp hkv
    exact ⟨(blk m).map fun b : Nat => (b : Int), by show kt m = _; unfold kt; rw [List.map_map]; rfl⟩
  · have h1 := hp.map ktInv
    unfold kvm at h1
    rw [List.map_map, List.map_map, List.map_map] at h1
    have z : ∀ m ∈ ms, ((ktInv ∘ (fun x : List Key × V => x.1)) ∘ fun m => (kt m, f m)) m = id m := fun m hq => ktInv_kt (hm m hq)
    rw [List.map_congr_left z, List.map_id] at h1
    exact h1
  · have hx : ∀ x ∈ ps, ∃ m, m < 256 ∧ x.2 = kt m := fun x hx => by
      have : x.2 ∈ (kvm kt f ms).map (·.1) := hp.mem_iff.mp (List.mem_map_of_mem hx)
      obtain ⟨kv, hkv, e1⟩ := List.mem_map.mp this
      obtain ⟨m, hq, rfl⟩ := List.mem_map.mp hkv
      exact ⟨m, hm m hq, e1.symm⟩
    have ht2 : ∀ x ∈ ps, upd H' p (.lst (ps.map fun x => V.ref x.1)) x.1 = some (.tup (x.2.map kV)) := fun x hq => by
      rw [upd_ne (ne_of_none (ht x hq) hf)]
      exact ht x hq
    rw [List.map_map]
    generalize upd H' p (.lst (ps.map fun x => V.ref x.1)) = Hn at ht2
    clear hp ht
    induction ps with
    | nil => exact .nil
    | cons x ps ih =>
      refine .cons ?_ (ih (fun y hy => hx y (List.mem_cons_of_mem _ hy)) fun y hy => ht2 y (List.mem_cons_of_mem _ hy))
      obtain ⟨m, hm2, e1⟩ := hx x List.mem_cons_self
      have := ht2 x List.mem_cons_self
      show Rp _ _ _ (tlot (ktInv x.2))
      rw [e1, ktInv_kt hm2]
      rw [e1] at this
      exact Rp.tlot_of this
/-! d[key], the keys tuples -/
theorem em_dGetT {ms : List Nat} {f : Nat → V} (h : Em e c ta σ A H (dTv (kvm kt f ms))) (h2 : Em e c1 tb σ A H (da (tlot m))) (hm : ∀ k ∈ ms, k < 256) (hk : m ∈ ms) (hp : ∀ A H, Θ.p A H (f m)) : Em e (c + c1) (tDGet ta tb) σ A H Θ := fun A' H' n w cu hn Q q =>
  h A' H' n w cu (by omega) _ fun x H2 k2 j2 p2 => h2 A' H2 (n + c) (w.trans (cu.wl k2)) (cu.aft k2 j2) (by omega) _ fun y H3 k3 j3 p3 => by
    obtain ⟨b, rfl, hb⟩ := Rp.tlot_eq p3
    obtain ⟨d, rfl, nd, hd⟩ := (dTv (kvm kt f ms)).up (.of k3 cu.sub) p2
    refine ⟨d, f m, rfl, ?_, q _ H3 (k2.trans k3) (by rw [← Nat.add_assoc]; exact j3) (hp _ _)⟩
    have := DGet.t (k := kt m) hd hb
    rw [valV_kvm kt_inj hm (hm m hk), if_pos hk] at this
    exact this
/-- .. of a dict that is owned -/
theorem em_dGetO {d : Addr} {ms : List Nat} {f : Nat → V} {u : HO} {hx : ∀ φ, u ≠ .ext φ} (S : Sube (eX d u hx) e) (hu : u = .dT (kvm kt f ms) ∨ ∃ od, u = .frz od (.dT (kvm kt f ms))) (h : Em e c ta σ A H (isv (.ref d))) (h2 : Em e c1 tb σ A H (da (tlot m))) (hm : ∀ k ∈ ms, k < 256) (hk : m ∈ ms) (hp : ∀ A H, Θ.p A H (f m)) : Em e (c + c1) (tDGet ta tb) σ A H Θ := fun A' H' n w cu hn Q q =>
  h A' H' n w cu (by omega) _ fun x H2 k2 j2 p2 => h2 A' H2 (n + c) (w.trans (cu.wl k2)) (cu.aft k2 j2) (by omega) _ fun y H3 k3 j3 p3 => by
    obtain ⟨b, rfl, hb⟩ := Rp.tlot_eq p3
    obtain rfl : x = .ref d := p2
    have hd : H3 d = some u := S.dn (n := n + c + c1) j3
    refine ⟨d, f m, rfl, .inr ⟨_, kt m, b, hu.elim (fun z => .inl (z ▸ hd)) (fun ⟨od, z⟩ => .inr ⟨od, z ▸ hd⟩), rfl, hb, ?_⟩, q _ H3 (k2.trans k3) (by rw [← Nat.add_assoc]; exact j3) (hp _ _)⟩
    rw [valV_kvm kt_inj hm (hm m hk), if_pos hk]
/-- d[key] = value -/
theorem z_dputT {d : Addr} {kvs : List (List Key × V)} {td ty tv : TE} (hv : Em (eY e d (.dT kvs)) 0 tv σ A H Φ) (hd : ∀ H1, Kp (eY e d (.dT kvs)).B H H1 → Em (eY e d (.dT kvs)) 0 td σ A H1 (isv (.ref d))) (hy : ∀ H1, Kp (eY e d (.dT kvs)).B H H1 → Em (eY e d (.dT kvs)) 0 ty σ A H1 (da (tlot m))) (cu : Cur (eY e d (.dT kvs)) A H n) (hn : n ≤ big) (hB : ¬ e.B d) (hl : kvs.length < 100000)
    (k : ∀ v H1, Kp (eW e d).B H (upd H1 d (.dT (putK kvs (kt m) v))) → Cur (eY e d (.dT (putK kvs (kt m) v))) A (upd H1 d (.dT (putK kvs (kt m) v))) n → Φ.p A H1 v → D.nx σ (upd H1 d (.dT (putK kvs (kt m) v)))) : sDPut td ty tv D σ H :=
  hv A H n (.refl _ _) cu hn _ fun v H1 k1 j1 p1 => hd H1 k1 A H1 n (.refl _ _) (cu.aft k1 j1) hn _ fun x H2 k2 j2 p2 => hy H2 (k1.trans k2) A H2 n (.refl _ _) ((cu.aft k1 j1).aft k2 j2) hn _ fun y H3 k3 j3 p3 => by
    obtain rfl : x = .ref d := p2
    obtain ⟨b, rfl, hb⟩ := Rp.tlot_eq p3
    have cu3 : Cur (eY e d (.dT kvs)) A H3 n := ((cu.aft k1 j1).aft k2 j2).aft k3 j3
    refine ⟨d, _, rfl, .t (k := kt m) cu3.at hb (sl5 hl), k v H3 (((k1.trans k2).trans k3).trans (.mut (.inr rfl) (by rw [cu3.at]; simp))) (cu3.put hB) (Φ.up (.of (k2.trans k3) cu.sub) p1)⟩
end
end SB
namespace SB
open PySem PySem.Spec PyProof.Rows L2 LamX
abbrev someB : Pv := exv (fun _ : Bool => True) fun b => da (.bool b)
section
variable {e : Ef} {c c1 c2 ce : Nat} {K : PySem.W.Frag} {mg : Str → Option Value} {ta tb te tl tk : TE} {tt tu : TT} {σ : L2.St} {A A' : As} {H H' : Hp} {Φ Ψ Θ : Pv} {ds es : List PyData} {n m : Nat} {E : XK} {D : Ends} {i j : Int} {v : V}
theorem cast1 (l : Nat) : Rp A H (.int (1 + (l : Int))) (nat (1 + l)) := by
  have : ((1 + l : Nat) : Int) = 1 + (l : Int) := by omega
  unfold nat
  rw [this]
  exact .int _
/-- a drawn number is compared -/
theorem em_eqx (h : Em e c ta σ A H (belowP m)) : Em e (c + 0) (tOp rEq ta (tC (.int i))) σ A H someB := em_op (c3 := 0) (Ψ := da (.int i)) h em_int fun A' H' x y _ ⟨k, _, p⟩ q => by
  obtain rfl := Rp.int_eq p
  obtain rfl := Rp.int_eq q
  exact rv_v _ (fun Q hq => ⟨rfl, hq⟩) ⟨_, trivial, .bl _⟩
theorem em_cmpx {g : Int → Int → Bool} (h : Em e c ta σ A H (belowP m)) : Em e (c + 0) (tOp (rI0 fun i j => .bl (g i j)) ta (tC (.int i))) σ A H someB := em_op (c3 := 0) (Ψ := da (.int i)) h em_int fun A' H' x y _ ⟨k, _, p⟩ q => by
  obtain rfl := Rp.int_eq p
  obtain rfl := Rp.int_eq q
  exact rv_v _ (fun Q hq => ⟨_, _, rfl, rfl, hq⟩) ⟨_, trivial, .bl _⟩
theorem em_lstRg {C : Int → Prop} (h : Em e c ta σ A H (da (.int i))) (h2 : Em e c1 tb σ A H (exv C fun j => da (.int j))) (hi : 0 ≤ i ∧ i ≤ 100000) (hC : ∀ j, C j → 0 ≤ j ∧ j ≤ 100000) : Em e (c + c1) (tLstRg (tRg2 ta tb)) σ A H (exv C fun j => da (.list ((List.range (j - i).toNat).map fun k => .int (i + (k : Nat))))) := fun A' H' n w cu hn Q q =>
  h A' H' n w cu (by omega) _ fun x H2 k2 j2 p2 => h2 A' H2 (n + c) (w.trans (cu.wl k2)) (cu.aft k2 j2) (by omega) _ fun y H3 k3 j3 p3 => by
    obtain ⟨j, hj, p3⟩ := p3
    obtain rfl := Rp.int_eq p2
    obtain rfl := Rp.int_eq p3
    obtain ⟨g0, g1⟩ := hC j hj
    have cu3 := (cu.aft k2 j2).aft k3 j3
    refine ⟨i, j, rfl, rfl, .of_le hi.1 (by omega) (by omega) g0, fun p hp => q (.ref p) _ ((k2.trans k3).trans (.new hp)) (by have := (cu3.new (o := .lst (rgV i j)) hp).j; rw [← Nat.add_assoc]; exact this) ⟨j, hj, .lst (cu3.lv.fresh hp) upd_same ?_⟩⟩
    have := RpA.ints (A := A') (H := upd H3 p (.lst (rgV i j))) ((List.range (j - i).toNat).map fun k => i + (k : Nat))
    rw [List.map_map, List.map_map] at this
    exact this
/-- places of which each holds one of a kind -/
theorem lsQ_ex {α : Type} {C : Nat → α → Prop} {g : α → PyData} : ∀ {is : List Nat} {xs : List V}, Paired (fun i x => (exv (C i) fun a => da (g a)).p A H x) is xs → ∃ l : List α, Paired C is l ∧ RpA A H xs (l.map g)
  | [], _, .nil => ⟨[], .nil, .nil⟩
  | _ :: _, _, .cons h t => by
    obtain ⟨l, h1, h2⟩ := lsQ_ex t
    obtain ⟨a, ha, p⟩ := h
    exact ⟨a :: l, .cons ha h1, .cons p h2⟩
theorem paired_all {α β : Type} {C : β → Prop} : ∀ {is : List α} {l : List β}, Paired (fun _ a => C a) is l → ∀ a ∈ l, C a
  | _, _, .nil, _, h => by cases h
  | _, _, .cons h t, a, q => by
    rcases List.mem_cons.mp q with rfl | z
    · exact h
    · exact paired_all t a z
/-- a list of so many of a kind -/
def lsOf (N : Nat) (C : PyData → Prop) : Pv := exv (fun ds : List PyData => ds.length = N ∧ ∀ d ∈ ds, C d) fun ds => da (.list ds)
theorem lsQ_of {C : PyData → Prop} {is : List Nat} (h : (lsQ is fun _ => dp C).p A H v) : (lsOf is.length C).p A H v := by
  obtain ⟨a, xs, rfl, na, ha, q⟩ := h
  obtain ⟨l, h1, h2⟩ := lsQ_ex (C := fun _ => C) (g := id) q
  rw [List.map_id] at h2
  exact ⟨l, ⟨h1.length.symm, paired_all h1⟩, .lst na ha h2⟩
end
abbrev someN : Pv := exv (fun _ : Nat => True) fun k => da (nat k)
/-- a row of old blocks -/
def isRow (old : Nat) (d : PyData) : Prop := ∃ r : List Nat, (r.Pairwise (· < ·) ∧ ∀ b ∈ r, b < old) ∧ d = .list (nts r)
abbrev rowP (old : Nat) : Pv := dp (isRow old)
theorem isRow_list {old : Nat} : ∀ {ds : List PyData}, (∀ d ∈ ds, isRow old d) → ∃ rows : List (List Nat), ds = rows.map (fun r => .list (nts r)) ∧ (∀ r ∈ rows, r.Pairwise (· < ·)) ∧ ∀ r ∈ rows, ∀ b ∈ r, b < old
  | [], _ => ⟨[], rfl, no_mem, no_mem⟩
  | d :: ds, h => by
    obtain ⟨rows, rfl, h1, h2⟩ := isRow_list (ds := ds) fun x hx => h x (List.mem_cons_of_mem _ hx)
    obtain ⟨r, ⟨h3, h4⟩, rfl⟩ := h d List.mem_cons_self
    refine ⟨r :: rows, rfl, fun x hx => ?_, fun x hx => ?_⟩
    · rcases List.mem_cons.mp hx with rfl | z
      · exact h3
      · exact h1 x z
    · rcases List.mem_cons.mp hx with rfl | z
      · exact h4
      · exact h2 x z
theorem row_filter (old : Nat) (f : Nat → Bool) : isRow old (.list (((List.range old).filter f).map fun i : Nat => .int (i : Int))) := ⟨(List.range old).filter f, ⟨List.Pairwise.sublist List.filter_sublist List.pairwise_lt_range, fun b hb => List.mem_range.mp (List.mem_filter.mp hb).1⟩, rfl⟩
section
variable {K : PySem.W.Frag} {mg : Str → Option Value} {P : Program} {w : World} {base : Heap}
/-! _law_row -/
abbrev sp_law_row : Sp := Pe fun e A H vs c Θ => c = 20 ∧ ∃ p, ∃ old way : Nat, e = eP p ∧ vs = [.ref p, .int old, .int way] ∧ old ≤ 8 ∧ Θ = rowP old
abbrev s_law_row : Stmt := top 44
abbrev N_law_row : List Str := ["_law_purse_here", "_law_old", "_law_way", "_law_first", "_law_block", "_law_spin"]
theorem sc_law_row : FnScope N_law_row ["_law_purse_here", "_law_old", "_law_way"] (defScope s_law_row) := ⟨rfl, rfl, rfl, by decide +kernel, rfl, by decide +kernel, by decide +kernel⟩
theorem c_law_row (T : Tx K mg) : C8.Cal P w K mg base 3 "_law_row" sp_law_row [] := by
  refine mkCal T 31 37 rfl rfl sc_law_row (fun _ _ _ _ _ _ us hl => match us, hl with | [_, _, _], _ => rfl) (fun vs H Q E h => ?_) (fun f cdv A outer s H vs Q E hr h => ?_)
  · obtain ⟨_, _, _, _, _, _, _, ⟨_, _, _, _, _, rfl, _⟩, _⟩ := h
    rfl
  obtain ⟨e, A, n, c, Θ, cu, hn, ⟨rfl, p, old, way, rfl, rfl, ho, rfl⟩, k⟩ := h
  have c_law_draw := c_law_draw (P := P) (w := w) (base := base) T
  refine ⟨_, (pss_cons (ps_if (pt_cmpR op_eq (pv 2) pe_int (nomark _)) (pss_one (ps_ret (pe_lc (own := [("_law_block", 4)]) rfl sc_law_row.nd (pi_range1 rfl T.range_ (pa_cons (pv 1) pa_nil)) (blkOk_by (own := [("_law_block", 4)]) (N := N_law_row) (sc := defScope s_law_row) (by decide +kernel)) (fun _ _ _ _ _ => (pg_name (i := 4) sc_law_row.nd rfl (Or.inl rfl))) (fun _ _ _ _ _ => pts_one (pt_cmpR op_eq (C8.pe_c c_law_draw hr (by decide) rfl (pa_cons (pv 0) (pa_cons pe_int pa_nil))) pe_int (nomark _))) (fun _ _ _ _ _ => (pv 4))))) pss_nil)
  (pss_cons (ps_if (pt_cmpR op_eq (pv 2) pe_int (nomark _)) (pss_cons (ps_set (i := 3) sc_law_row.nd rfl (Or.inl rfl) (C8.pe_c c_law_draw hr (by decide) rfl (pa_cons (pv 0) (pa_cons (pe_op op_add (pv 1) pe_int) pa_nil))))
  (pss_one (ps_ret (pe_listRg rfl rfl T.list_ (prg_2 rfl T.range_ (pv 3) (pe_callB (k_min2 rfl) rfl T.min_ bt_min (pa_cons (pv 1) (pa_cons (pe_op op_add (pe_op op_add (pv 3) pe_int) (C8.pe_c c_law_draw hr (by decide) rfl (pa_cons (pv 0) (pa_cons pe_int pa_nil)))) pa_nil)))))))) pss_nil)
  (pss_cons (ps_if (pt_cmpR op_eq (pv 2) pe_int (nomark _)) (pss_one (ps_ret (pe_ifExp (pt_cmpR op_gt (pv 1) pe_int (nomark _)) (pe_callB (k_sortDI rfl) rfl T.sorted_ bt_sorted (pa_cons (pe_callTy (k_dictP (K := K) rfl) rfl T.dict_ bt_dict (pa_cons (pe_lc (own := [("_law_spin", 5)]) rfl sc_law_row.nd (pi_range1 rfl T.range_ (pa_cons (pe_op op_add pe_int (C8.pe_c c_law_draw hr (by decide) rfl (pa_cons (pv 0) (pa_cons pe_int pa_nil)))) pa_nil)) (blkOk_by (own := [("_law_spin", 5)]) (N := N_law_row) (sc := defScope s_law_row) (by decide +kernel)) (fun _ _ _ _ _ => (pg_name (i := 5) sc_law_row.nd rfl (Or.inl rfl))) (fun _ _ _ _ _ => pts_nil) (fun _ _ _ _ _ => (pe_tup (pa_cons (C8.pe_c c_law_draw hr (by decide) rfl (pa_cons (pv 0) (pa_cons (pv 1) pa_nil))) (pa_cons pe_bl pa_nil))))) pa_nil)) pa_nil)) (pe_lst pa_nil)))) pss_nil)
  (pss_one (ps_ret (pe_lc (own := [("_law_block", 4)]) rfl sc_law_row.nd (pi_range1 rfl T.range_ (pa_cons (pv 1) pa_nil)) (blkOk_by (own := [("_law_block", 4)]) (N := N_law_row) (sc := defScope s_law_row) (by decide +kernel)) (fun _ _ _ _ _ => (pg_name (i := 4) sc_law_row.nd rfl (Or.inl rfl))) (fun _ _ _ _ _ => pts_one (pt_cmpR op_gt (C8.pe_c c_law_draw hr (by decide) rfl (pa_cons (pv 0) (pa_cons pe_int pa_nil))) pe_int (nomark _))) (fun _ _ _ _ _ => (pv 4)))))))), ?_⟩
  have hn1 : n ≤ big := by omega
  have filt : ∀ {te : TE} {H1 : Hp} {tt : TT}, (∀ i A1 H1 x, EmT (eP p) 1 tt [some (.ref p), some (.int (old : Int)), some (.int (way : Int)), none, some x, none] A1 H1 fun _ => True) →
      Em (eP p) 20 (tLc (iRng1 (tCons (tVar 1) tNil)) (gName 4) tt (tVar 4) [4]) (L2.start N_law_row [.ref p, .int old, .int way]) A H1 (rowP old) := fun {te H1 tt} ht => by
    have := em_lc (e := eP p) (c := 0) (ct := 1) (ce := 0) (te := tVar 4) (σ := L2.start N_law_row [.ref p, .int old, .int way]) (j := 4) (vs := [4]) (tt := tt) (Tt := fun _ _ => True) (Φ := fun i => da (.int (i : Int))) (A := A) (H := H1) (sr_rng1 (c := 0) (k := old) (ev_var (i := 1) rfl (.int (old : Int))) (by omega)) (by omega) (fun x => rfl) (fun i A1 H1 x hi w px => ht i A1 H1 x) fun i A1 H1 x hi w px _ => ev_var (i := 4) rfl px
    refine (this.imp fun A' H' v _ ⟨f, _, p⟩ => ?_).wk (by simp; omega)
    have p2 := lsQ_da p
    exact ⟨_, row_filter old f, p2⟩
  refine z_if (T := (decide ((way : Int) = 0) = ·)) (vt_B (ev_eqI (ev_var rfl (.int (way : Int))) ev_int)) cu hn1 (fun hz H1 k1 cu1 => ?_) (fun hz H1 k1 cu1 => ?_)
  · refine s_ret (c := 20) (Φ := rowP old) (filt (te := tVar 0) fun i A1 H1 x => et_ex (em_eqx (v_law_draw (m := 3) (.refl _) (by decide) (by decide) (ev_var rfl rfl) ev_int))) cu1 hn fun v H2 k2 j2 p2 => k v H2 (k1.trans k2) j2 p2
  refine to_next ?_
  dsimp only
  refine z_if (T := (decide ((way : Int) = 1) = ·)) (vt_B (ev_eqI (ev_var rfl (.int (way : Int))) ev_int)) cu1 hn1 (fun hz H2 k2 cu2 => ?_) (fun hz H2 k2 cu2 => ?_)
  · refine s_asg (c := 1) (Φ := belowP (old + 1)) (v_law_draw (.refl _) (by omega) (by omega) (ev_var rfl rfl) (ev_is (ev_bin (ev_var rfl (.int (old : Int))) ev_int) rfl)) cu2 (by omega) fun v3 H3 k3 cu3 p3 => ?_
    obtain ⟨fi, hf, p3⟩ := p3
    obtain rfl := Rp.int_eq p3
    refine s_ret (c := 19) (Φ := rowP old) (Em.wk (c1 := 1) ((em_lstRg (c := 0) (c1 := 1) (C := fun j => 0 ≤ j ∧ j ≤ (old : Int)) (ev_var rfl (.int (fi : Int))) (em_B2 (c1 := 0) (c2 := 1) (Φ := da (.int (old : Int))) (Ψ := exv (fun j : Int => 0 ≤ j) fun j => da (.int j)) (ev_var rfl (.int (old : Int))) (em_op (c1 := 0) (c2 := 1) (c3 := 0) (Φ := da (.int ((fi : Int) + 1))) (Ψ := belowP 3) (ev_bin (ev_var rfl (.int (fi : Int))) ev_int) (v_law_draw (.refl _) (by decide) (by decide) (ev_var rfl rfl) ev_int) fun A' H' x y _ q ⟨l, hl, r⟩ => ?_) fun A' H' x y _ q ⟨l, hl, r⟩ => ?_) (by omega) (fun j hj => by omega)).imp fun A' H' v _ ⟨j, hj, q⟩ => ?_) (by decide)) cu3 (by omega) fun v H4 k4 j4 p4 => k v H4 (((k1.trans k2).trans k3).trans k4) ((eP p).mono (by omega) j4) p4
    · obtain rfl := Rp.int_eq q
      obtain rfl := Rp.int_eq r
      exact rv_v _ (fun Q hq => ⟨_, _, rfl, rfl, hq⟩) ⟨_, by omega, .int _⟩
    · obtain rfl := Rp.int_eq q
      obtain rfl := Rp.int_eq r
      exact rv_v _ (fun Q hq => ⟨_, _, rfl, hq⟩) ⟨_, by split <;> omega, .int _⟩
    · refine ⟨_, ⟨(List.range (j - fi).toNat).map fun k => fi + k, ⟨?_, fun b hb => ?_⟩, rfl⟩, ?_⟩
      · rw [List.pairwise_map]
        exact List.pairwise_lt_range.imp fun h => by omega
      · obtain ⟨k, hk, rfl⟩ := List.mem_map.mp hb
        have := List.mem_range.mp hk
        omega
      · have e1 : nts ((List.range (j - fi).toNat).map fun k => fi + k) = (List.range (j - fi).toNat).map fun k => .int ((fi : Int) + (k : Nat)) := by
          unfold nts
          rw [List.map_map]
          refine List.map_congr_left fun k _ => ?_
          show PyData.int _ = PyData.int _
          congr 1
        rw [e1]
        exact q
  refine to_next ?_
  dsimp only
  refine z_if (T := (decide ((way : Int) = 2) = ·)) (vt_B (ev_eqI (ev_var rfl (.int (way : Int))) ev_int)) cu2 hn1 (fun hz H3 k3 cu3 => ?_) (fun hz H3 k3 cu3 => ?_)
  · refine s_ret (c := 20) (Φ := rowP old) (Em.wk (c1 := 0 + 3) (em_if (T := (decide ((old : Int) > 0) = ·)) (vt_B (ev_cmp (ev_var rfl (.int (old : Int))) ev_int)) (fun h1 => ?_) (fun h1 => (em_lstD (c := 0) emd_nil (by decide)).wk (by decide) |>.imp fun A' H' v _ q => ⟨_, ⟨[], ⟨.nil, no_mem⟩, rfl⟩, q⟩)) (by decide)) cu3 hn fun v H4 k4 j4 p4 => k v H4 (((k1.trans k2).trans k3).trans k4) j4 p4
    have h0 : 0 < old := by have := of_decide_eq_true h1; omega
    have hD : Em (eP p) 3 (tLc (iRng1 (tCons (tOp (rI0 fun i j => V.int (i + j)) (tC (V.int 1)) (tCall sp_law_draw [] C8.E0 (tCons (tVar 0) (tCons (tC (V.int 2)) tNil)))) tNil)) (gName 5) tYes (tTup (tCons (tCall sp_law_draw [] C8.E0 (tCons (tVar 0) (tCons (tVar 1) tNil))) (tCons (tC (V.bl true)) tNil))) [5]) (L2.start N_law_row [.ref p, .int old, .int way]) A H3 (exv (fun l : List Nat => l.length ≤ 2 ∧ ∀ b ∈ l, b < old) fun l => da (.list (l.map fun b => .tuple [nat b, .bool true]))) := by
      refine em_bind (c1 := 1) (c2 := 2) (Φ := exv (fun k : Nat => 1 ≤ k ∧ k ≤ 2) fun k => da (nat k)) (F := fun x => tLc (iRng1 (tCons (tC x) tNil)) (gName 5) tYes (tTup (tCons (tCall sp_law_draw [] C8.E0 (tCons (tVar 0) (tCons (tVar 1) tNil))) (tCons (tC (V.bl true)) tNil))) [5]) (em_op (c1 := 0) (c2 := 1) (c3 := 0) (Φ := da (.int 1)) (Ψ := belowP 2) em_int (v_law_draw (.refl _) (by decide) (by decide) (ev_var rfl rfl) ev_int) fun A' H' x y _ q ⟨l, hl, r⟩ => ?_) fun A' H' x _ ⟨k0, hk0, q⟩ => ?_
      · obtain rfl := Rp.int_eq q
        obtain rfl := Rp.int_eq r
        exact rv_v _ (fun Q hq => ⟨_, _, rfl, rfl, hq⟩) ⟨1 + l, by omega, cast1 l⟩
      · refine ((em_lcA (c := 0) (ce := 1) (Φ := fun _ => exv (fun b : Nat => b < old) fun b => da (.tuple [nat b, .bool true])) (sr_rng1 (c := 0) (k := k0) (ev_c q) (by omega)) (by omega) (fun x => rfl) fun i A1 H1 x hi w px => em_tup (c1 := 1) (Φs := [belowP old, da (.bool true)]) (ema_cons (c1 := 1) (c2 := 0) (v_law_draw (.refl _) (by omega) (by omega) (ev_var rfl rfl) (ev_var rfl (.int (old : Int)))) (ema_cons (c1 := 0) (c2 := 0) em_bl ema_nil)) (show (2 : Nat) ≤ 100000 by decide) fun A' H' vs a _ p na ha => ?_).wk (by simp; omega)).imp fun A' H' v _ q => ?_
        · obtain ⟨y1, y2, rfl, ⟨b, hb, q1⟩, q2⟩ := pvs2 p
          exact ⟨b, hb, .tup ha (.cons q1 (.cons q2 .nil))⟩
        · obtain ⟨a, xs, rfl, na, ha, q⟩ := q
          obtain ⟨l, g1, g2⟩ := lsQ_ex (C := fun _ (b : Nat) => b < old) (g := fun b => .tuple [nat b, .bool true]) q
          refine ⟨l, ⟨?_, paired_all g1⟩, .lst na ha g2⟩
          have := g1.length
          rw [List.length_range] at this
          omega
    refine em_B1x (Φ := fun l : List Nat => dKv (kvm ki yes (setOf l))) (C := fun l : List Nat => l.length ≤ 2 ∧ ∀ b ∈ l, b < old) (em_B1x hD fun l A' H' x hl _ q => (em_dictN (c := 0) (ev_c q) (fun b hb => by have := hl.2 b hb; omega)).imp fun A' H' v _ q => ⟨l, hl, q⟩) fun l A' H' x hl _ q => ?_
    have h8 : ∀ b ∈ l, b < 8 := fun b hb => by have := hl.2 b hb; omega
    refine (em_sortDI (c := 0) (m := bitsOf l) (ev_c q) (by have := setOf_le l; omega) (setOf_nd l) fun x => ?_).imp fun A' H' v _ q => ⟨_, ⟨blk (bitsOf l), ⟨blk_asc _, fun b hb => ?_⟩, rfl⟩, q⟩
    · rw [setOf_mem, blk_mem, bitsOf_bit, decide_eq_true_iff]
      exact ⟨fun h => ⟨h8 x h, h⟩, fun h => h.2⟩
    · have := (blk_mem.mp hb).2
      rw [bitsOf_bit, decide_eq_true_iff] at this
      exact hl.2 b this
  refine to_next ?_
  dsimp only
  exact s_ret (c := 20) (Φ := rowP old) (filt (te := tVar 0) fun i A1 H1 x => et_ex (em_cmpx (v_law_draw (m := 4) (.refl _) (by decide) (by decide) (ev_var rfl rfl) ev_int))) cu3 hn fun v H4 k4 j4 p4 => k v H4 (((k1.trans k2).trans k3).trans k4) j4 p4
theorem v_law_row {e : Ef} {ta tb tc : TE} {σ : L2.St} {A : As} {H : Hp} {E : XK} {p : Addr} {old : Nat} {c : Nat} (S : Sube (eP p) e) (ho : old ≤ 8) (h : Em e 0 ta σ A H (isv (.ref p))) (h2 : Em e 0 tb σ A H (da (nat old))) (h3 : Em e c tc σ A H someN) : Em e (c + 20) (tCall sp_law_row [] E (tCons ta (tCons tb (tCons tc tNil)))) σ A H (rowP old) := by
  have := em_pe (E := E) (Θ := rowP old) (pre := fun e A H vs c Θ => c = 20 ∧ ∃ p, ∃ old way : Nat, e = eP p ∧ vs = [.ref p, .int old, .int way] ∧ old ≤ 8 ∧ Θ = rowP old) (c1 := 0 + (0 + (c + 0))) (c2 := 20) S (ema_cons h (ema_cons h2 (ema_cons h3 ema_nil))) fun A' H' vs w _ q => by
    obtain ⟨x, y, z, rfl, q, q2, q3⟩ := pvs3 q
    obtain rfl : x = .ref p := q
    obtain rfl := Rp.int_eq q2
    obtain ⟨way, _, q3⟩ := q3
    obtain rfl := Rp.int_eq q3
    exact ⟨rfl, p, old, way, rfl, rfl, ho, rfl⟩
  rw [show 0 + (0 + (c + 0)) + 20 = c + 20 by omega] at this
  exact this
end
end SB
namespace SB
open PySem PySem.Spec PyProof.Rows L2 LamX
/-- a recipe, as the law holds it -/
abbrev recD (old : Nat) (rows : List (List Nat)) : PyData := .list [nat old, rowsD rows]
def recP (mn : Nat) : Pv := exv (fun r : Nat × List (List Nat) => okR r.1 r.2 ∧ r.2.length ≤ mn) fun r => da (recD r.1 r.2)
section
variable {e : Ef} {c c1 c2 ce : Nat} {K : PySem.W.Frag} {mg : Str → Option Value} {ta tb te tl tk : TE} {tt tu : TT} {σ : L2.St} {A A' : As} {H H' : Hp} {Φ Ψ Θ : Pv} {ds es : List PyData} {n m : Nat} {E : XK} {D : Ends} {i j : Int} {v x : V} {g : TG}
theorem s_asgG (h : Em e c te σ A H Φ) (cu : Cur e A H n) (hn : n + c ≤ big) (k : ∀ v H1, Kp e.B H H1 → Cur e A H1 (n + c) → Φ.p A H1 v → g v σ H1 D.nx) : tAsg te g D σ H :=
  h A H n (.refl _ _) cu hn _ fun v H1 k1 j1 p => k v H1 k1 (cu.aft k1 j1) p
theorem g_trip {i j l : Nat} {d1 d2 d3 : PyData} {Q : L2.St → Hp → Prop} (h : Rp A H x (.tuple [d1, d2, d3])) (k : ∀ x1 x2 x3, Rp A H x1 d1 → Rp A H x2 d2 → Rp A H x3 d3 → Q (((σ.set i (some x1)).set j (some x2)).set l (some x3)) H) : gTup K 3 (gCons (gName i) (gCons (gName j) (gCons (gName l) gNil))) x σ H Q := by
  obtain ⟨a, xs, rfl, ha, r⟩ := Rp.tuple_eq h
  cases r with
  | cons r1 r => cases r with
    | cons r2 r => cases r with
      | cons r3 r => cases r with
        | nil => exact ⟨a, _, rfl, SqT.of ha, rfl, _, _, rfl, _, _, rfl, _, _, rfl, rfl, k _ _ _ r1 r2 r3⟩
theorem em_recL {old new mn : Nat} (h1 : Em e 0 ta σ A H (da (nat old))) (h2 : Em e c tb σ A H (lsOf new (isRow old))) (ho : old ≤ 8) (hn : 1 ≤ new) (hm : new ≤ mn) (h7 : mn ≤ 7) : Em e c (tLst (tCons ta (tCons tb tNil))) σ A H (recP mn) := by
  have := em_lst (c1 := 0 + (c + 0)) (Θ := recP mn) (ema_cons h1 (ema_cons h2 ema_nil)) (show (2 : Nat) ≤ 100000 by decide) fun A' H' vs a _ p na ha => by
    obtain ⟨y1, y2, rfl, q1, ⟨ds, ⟨hl, hd⟩, q2⟩⟩ := pvs2 p
    obtain ⟨rows, rfl, g1, g2⟩ := isRow_list hd
    rw [List.length_map] at hl
    exact ⟨(old, rows), ⟨⟨ho, by show 1 ≤ rows.length; omega, by show rows.length ≤ 7; omega, g1, g2⟩, by show rows.length ≤ mn; omega⟩, .lst na ha (.cons q1 (.cons q2 .nil))⟩
  rw [show 0 + (c + 0) = c by omega] at this
  exact this
end
section
variable {K : PySem.W.Frag} {mg : Str → Option Value} {P : Program} {w : World} {base : Heap}
/-! _law_recipe -/
abbrev sp_law_recipe : Sp := Pe fun e A H vs c Θ => c = 400 ∧ ∃ p, ∃ mn mo : Nat, e = eP p ∧ vs = [.ref p, .int mn, .int mo] ∧ 1 ≤ mn ∧ mn ≤ 7 ∧ mo ≤ 8 ∧ Θ = recP mn
abbrev s_law_recipe : Stmt := top 45
abbrev N_law_recipe : List Str := ["_law_purse_here", "_law_most_new", "_law_most_old", "_law_new", "_law_old", "_law_way", "_law_parts", "_law_block"]
theorem sc_law_recipe : FnScope N_law_recipe ["_law_purse_here", "_law_most_new", "_law_most_old"] (defScope s_law_recipe) := ⟨rfl, rfl, rfl, by decide +kernel, rfl, by decide +kernel, by decide +kernel⟩
theorem c_law_recipe (T : Tx K mg) : C8.Cal P w K mg base 4 "_law_recipe" sp_law_recipe [] := by
  refine mkCal T 32 38 rfl rfl sc_law_recipe (fun _ _ _ _ _ _ us hl => match us, hl with | [_, _, _], _ => rfl) (fun vs H Q E h => ?_) (fun f cdv A outer s H vs Q E hr h => ?_)
  · obtain ⟨_, _, _, _, _, _, _, ⟨_, _, _, _, _, rfl, _⟩, _⟩ := h
    rfl
  obtain ⟨e, A, n, c, Θ, cu, hn, ⟨rfl, p, mn, mo, rfl, rfl, hn1, hn7, ho8, rfl⟩, k⟩ := h
  have c_law_draw := c_law_draw (P := P) (w := w) (base := base) T
  have c_law_row := c_law_row (P := P) (w := w) (base := base) T
  have c_law_one_of := c_law_one_of (P := P) (w := w) (base := base) T
  refine ⟨_, (pss_cons (ps_asg (pe_tup (pa_cons (pe_op op_add pe_int (C8.pe_c c_law_draw hr (by decide) rfl (pa_cons (pv 0) (pa_cons (pv 1) pa_nil)))) (pa_cons (C8.pe_c c_law_draw hr (by decide) rfl (pa_cons (pv 0) (pa_cons (pe_op op_add (pv 2) pe_int) pa_nil))) (pa_cons (C8.pe_c c_law_draw hr (by decide) rfl (pa_cons (pv 0) (pa_cons pe_int pa_nil))) pa_nil)))) (kpg_tup (K := K) rfl (pgs_cons (pg_name (i := 3) sc_law_recipe.nd rfl (Or.inl rfl)) (pgs_cons (pg_name (i := 4) sc_law_recipe.nd rfl (Or.inr rfl)) (pgs_cons (pg_name (i := 5) sc_law_recipe.nd rfl (Or.inr rfl)) pgs_nil)))))
  (pss_cons (ps_if (pt_cmpR op_lt (pv 5) pe_int (nomark _)) (pss_one (ps_ret (pe_lst (pa_cons (pv 4) (pa_cons (pe_lc (own := [("_law_block", 7)]) rfl sc_law_recipe.nd (pi_range1 rfl T.range_ (pa_cons (pv 3) pa_nil)) (blkOk_by (own := [("_law_block", 7)]) (N := N_law_recipe) (sc := defScope s_law_recipe) (by decide +kernel)) (fun _ _ _ _ _ => (pg_name (i := 7) sc_law_recipe.nd rfl (Or.inl rfl))) (fun _ _ _ _ _ => pts_nil) (fun _ _ _ _ _ => (C8.pe_c c_law_row hr (by decide) rfl (pa_cons (pv 0) (pa_cons (pv 4) (pa_cons (pv 5) pa_nil)))))) pa_nil))))) pss_nil)
  (pss_cons (ps_set (i := 6) sc_law_recipe.nd rfl (Or.inr rfl) (pe_lst (pa_cons (C8.pe_c c_law_row hr (by decide) rfl (pa_cons (pv 0) (pa_cons (pv 4) (pa_cons pe_int pa_nil)))) (pa_cons (C8.pe_c c_law_row hr (by decide) rfl (pa_cons (pv 0) (pa_cons (pv 4) (pa_cons pe_int pa_nil)))) pa_nil))))
  (pss_cons (ps_if (pt_cmpR op_eq (pv 5) pe_int (nomark _)) (pss_one (ps_ret (pe_lst (pa_cons (pv 4) (pa_cons (pe_lc (own := [("_law_block", 7)]) rfl sc_law_recipe.nd (pi_range1 rfl T.range_ (pa_cons (pv 3) pa_nil)) (blkOk_by (own := [("_law_block", 7)]) (N := N_law_recipe) (sc := defScope s_law_recipe) (by decide +kernel)) (fun _ _ _ _ _ => (pg_name (i := 7) sc_law_recipe.nd rfl (Or.inl rfl))) (fun _ _ _ _ _ => pts_nil) (fun _ _ _ _ _ => (pe_callTy (k_list (K := K)) rfl T.list_ bt_list (pa_cons (C8.pe_c c_law_one_of hr (by decide) rfl (pa_cons (pv 0) (pa_cons (pv 6) pa_nil))) pa_nil)))) pa_nil))))) pss_nil)
  (pss_one (ps_ret (pe_lst (pa_cons (pv 4) (pa_cons (pe_lc (own := [("_law_block", 7)]) rfl sc_law_recipe.nd (pi_range1 rfl T.range_ (pa_cons (pv 3) pa_nil)) (blkOk_by (own := [("_law_block", 7)]) (N := N_law_recipe) (sc := defScope s_law_recipe) (by decide +kernel)) (fun _ _ _ _ _ => (pg_name (i := 7) sc_law_recipe.nd rfl (Or.inl rfl))) (fun _ _ _ _ _ => pts_nil) (fun _ _ _ _ _ => (pe_ifExp (pt_cmpR op_eq (C8.pe_c c_law_draw hr (by decide) rfl (pa_cons (pv 0) (pa_cons pe_int pa_nil))) pe_int (nomark _)) (C8.pe_c c_law_row hr (by decide) rfl (pa_cons (pv 0) (pa_cons (pv 4) (pa_cons (C8.pe_c c_law_draw hr (by decide) rfl (pa_cons (pv 0) (pa_cons pe_int pa_nil))) pa_nil)))) (pe_callTy (k_list (K := K)) rfl T.list_ bt_list (pa_cons (pe_ix (kix_list (K := K)) (pv 6) pe_int (fun _ _ => rfl)) pa_nil))))) pa_nil))))))))), ?_⟩
  have hb : n + 400 ≤ big := hn
  refine s_asgG (c := 3) (Φ := exv (fun t : Nat × Nat × Nat => 1 ≤ t.1 ∧ t.1 ≤ mn ∧ t.2.1 ≤ mo) fun t => da (.tuple [nat t.1, nat t.2.1, nat t.2.2])) (em_tup (c1 := 3) (Φs := [exv (fun k : Nat => 1 ≤ k ∧ k ≤ mn) fun k => da (nat k), belowP (mo + 1), belowP 6]) (ema_cons (c1 := 1) (c2 := 2) (em_op (c1 := 0) (c2 := 1) (c3 := 0) (Φ := da (.int 1)) (Ψ := belowP mn) em_int (v_law_draw (.refl _) (by omega) (by omega) (ev_var rfl rfl) (ev_var rfl (.int (mn : Int)))) fun A' H' x y _ q ⟨l, hl, r⟩ => ?_) (ema_cons (c1 := 1) (c2 := 1) (v_law_draw (.refl _) (by omega) (by omega) (ev_var rfl rfl) (ev_is (ev_bin (ev_var rfl (.int (mo : Int))) ev_int) rfl)) (ema_cons (c1 := 1) (c2 := 0) (v_law_draw (m := 6) (.refl _) (by omega) (by omega) (ev_var rfl rfl) ev_int) ema_nil))) (show (3 : Nat) ≤ 100000 by decide) fun A' H' vs a _ p na ha => ?_) cu (by omega) fun v0 H1 k1 cu1 p1 => ?_
  · obtain rfl := Rp.int_eq q
    obtain rfl := Rp.int_eq r
    exact rv_v _ (fun Q hq => ⟨_, _, rfl, rfl, hq⟩) ⟨1 + l, by omega, cast1 l⟩
  · obtain ⟨y1, y2, y3, rfl, ⟨a1, h1, q1⟩, ⟨a2, h2, q2⟩, ⟨a3, h3, q3⟩⟩ := pvs3 p
    exact ⟨(a1, a2, a3), ⟨h1.1, h1.2, by show a2 ≤ mo; omega⟩, .tup ha (.cons q1 (.cons q2 (.cons q3 .nil)))⟩
  obtain ⟨⟨new, old, way⟩, ⟨g1, g2, g3⟩, p1⟩ := p1
  have g1 : 1 ≤ new := g1
  have g2 : new ≤ mn := g2
  have g3 : old ≤ mo := g3
  refine g_trip p1 fun x1 x2 x3 q1 q2 q3 => ?_
  obtain rfl := Rp.int_eq q1
  obtain rfl := Rp.int_eq q2
  obtain rfl := Rp.int_eq q3
  have ho : old ≤ 8 := by omega
  have lc : ∀ {te : TE} {σ : L2.St} {H1 : Hp} {ce : Nat}, σ[3]? = some (some (.int (new : Int))) → σ[4]? = some (some (.int (old : Int))) → (∀ x, wipe ((wipe σ [7]).set 7 (some x)) [7] = wipe σ [7]) → ce ≤ 30 → (∀ A1 H2 x, Wl A H1 A1 H2 → Em (eP p) ce te ((wipe σ [7]).set 7 (some x)) A1 H2 (rowP old)) →
      Em (eP p) 300 (tLst (tCons (tVar 4) (tCons (tLc (iRng1 (tCons (tVar 3) tNil)) (gName 7) tYes te [7]) tNil))) σ A H1 (recP mn) := fun {te σ H1 ce} h3 h4 hw hc he => by
    have := em_lcA (e := eP p) (c := 0) (ce := ce) (te := te) (σ := σ) (j := 7) (vs := [7]) (Φ := fun _ => rowP old) (A := A) (H := H1) (sr_rng1 (c := 0) (k := new) (ev_var (i := 3) h3 (.int (new : Int))) (by omega)) (by omega) hw fun i A1 H2 x hi w px => he A1 H2 x w
    have hmul : new * ce ≤ 7 * 30 := Nat.mul_le_mul (by omega) hc
    exact em_recL (ev_var h4 (.int (old : Int))) ((this.imp fun A' H' v _ q => by
      have := lsQ_of q
      rw [List.length_range] at this
      exact this).wk (by simp; omega)) ho g1 g2 hn7
  dsimp only
  refine z_if (T := (decide ((way : Int) < 4) = ·)) (vt_B (ev_cmp (ev_var rfl (.int (way : Int))) ev_int)) cu1 (by omega) (fun hz H2 k2 cu2 => ?_) (fun hz H2 k2 cu2 => ?_)
  · exact s_ret (c := 300) (lc (ce := 20) rfl rfl (fun x => rfl) (by decide) fun A1 H3 x w => v_law_row (c := 0) (.refl _) ho (ev_var rfl rfl) (ev_var rfl (.int (old : Int))) ((ev_var (Φ := da (nat way)) rfl (.int (way : Int))).imp fun A' H' v _ q => ⟨way, trivial, q⟩)) cu2 (by omega) fun v H3 k3 j3 p3 => k v H3 ((k1.trans k2).trans k3) ((eP p).mono (by omega) j3) p3
  refine to_next ?_
  dsimp only
  refine s_asg (c := 40) (Φ := lsOf 2 (isRow old)) (em_lst (c1 := 40) (Φs := [rowP old, rowP old]) (ema_cons (c1 := 20) (c2 := 20) (v_law_row (c := 0) (.refl _) ho (ev_var rfl rfl) (ev_var rfl (.int (old : Int))) ((ev_int (k := 3)).imp fun A' H' v _ q => ⟨3, trivial, q⟩)) (ema_cons (c1 := 20) (c2 := 0) (v_law_row (c := 0) (.refl _) ho (ev_var rfl rfl) (ev_var rfl (.int (old : Int))) ((ev_int (k := 0)).imp fun A' H' v _ q => ⟨0, trivial, q⟩)) ema_nil)) (show (2 : Nat) ≤ 100000 by decide) fun A' H' vs a _ p na ha => ?_) cu2 (by omega) fun v6 H3 k3 cu3 p3 => ?_
  · obtain ⟨y1, y2, rfl, ⟨d1, h1, q1⟩, ⟨d2, h2, q2⟩⟩ := pvs2 p
    refine ⟨[d1, d2], ⟨rfl, fun d hd => ?_⟩, .lst na ha (.cons q1 (.cons q2 .nil))⟩
    rcases List.mem_cons.mp hd with rfl | z
    · exact h1
    · rw [List.mem_singleton.mp z]; exact h2
  obtain ⟨ds, ⟨hl, hd⟩, p3⟩ := p3
  have kk3 := (k1.trans k2).trans k3
  refine z_if (T := (decide ((way : Int) = 4) = ·)) (vt_B (ev_eqI (ev_var rfl (.int (way : Int))) ev_int)) cu3 (by omega) (fun hz H4 k4 cu4 => ?_) (fun hz H4 k4 cu4 => ?_)
  · have p4 := p3.up (cu3.wl k4)
    exact s_ret (c := 300) (lc (ce := 1) rfl rfl (fun x => rfl) (by decide) fun A1 H5 x w => em_B1x (v_law_one_of (ds := ds) (.refl _) (by omega) (by omega) (ev_var rfl rfl) (ev_var (i := 6) rfl (p4.up w))) fun d A' H' x hd2 _ q => by
      obtain ⟨r, hr, rfl⟩ := hd d hd2
      exact (ev_list (ev_c q)).imp fun A' H' v _ q => ⟨_, ⟨r, hr, rfl⟩, q⟩) cu4 (by omega) fun v H5 k5 j5 p5 => k v H5 ((kk3.trans k4).trans k5) ((eP p).mono (by omega) j5) p5
  refine to_next ?_
  dsimp only
  have p4 := p3.up (cu3.wl k4)
  exact s_ret (c := 300) (lc (ce := 1 + 21) rfl rfl (fun x => rfl) (by decide) fun A1 H5 x w => em_if (T := fun _ => True) (et_ex (em_eqx (v_law_draw (m := 3) (.refl _) (by decide) (by decide) (ev_var rfl rfl) ev_int))) (fun _ => v_law_row (c := 1) (.refl _) ho (ev_var rfl rfl) (ev_var rfl (.int (old : Int))) ((v_law_draw (m := 4) (.refl _) (by decide) (by decide) (ev_var rfl rfl) ev_int).imp fun A' H' v _ ⟨l, _, q⟩ => ⟨l, trivial, q⟩)) fun _ => by
    obtain ⟨r, hr, e0⟩ := hd (ds[0]) (List.getElem_mem (by omega))
    have p5 := p4.up w
    refine Em.wk (c1 := 0) ((ev_list (K := K) (ds := nts r) (ev_ixL (ev_var (i := 6) rfl p5) ev_int (by
      have : ds[0]? = some (.list (nts r)) := by rw [List.getElem?_eq_getElem (by omega), e0]
      exact atI_nat this))).imp (Ψ := rowP old) fun A' H' v _ q => ⟨_, ⟨r, hr, rfl⟩, q⟩) (by decide)) cu4 (by omega) fun v H5 k5 j5 p5 => k v H5 ((kk3.trans k4).trans k5) ((eP p).mono (by omega) j5) p5
theorem v_law_recipe {e : Ef} {ta tb tc : TE} {σ : L2.St} {A : As} {H : Hp} {E : XK} {p : Addr} {mn mo : Nat} (S : Sube (eP p) e) (h1 : 1 ≤ mn) (h7 : mn ≤ 7) (h8 : mo ≤ 8) (h : Em e 0 ta σ A H (isv (.ref p))) (h2 : Em e 0 tb σ A H (da (nat mn))) (h3 : Em e 0 tc σ A H (da (nat mo))) : Em e 400 (tCall sp_law_recipe [] E (tCons ta (tCons tb (tCons tc tNil)))) σ A H (recP mn) :=
  em_pe (c1 := 0) (c2 := 400) S (eva_cons h (eva_cons h2 (eva_cons h3 eva_nil))) fun A' H' vs w _ q => by
    obtain ⟨x, y, z, rfl, q, q2, q3⟩ := pvs3 q
    obtain rfl : x = .ref p := q
    obtain rfl := Rp.int_eq q2
    obtain rfl := Rp.int_eq q3
    exact ⟨rfl, p, mn, mo, rfl, rfl, h1, h7, h8, rfl⟩
/-! _law_made -/
abbrev sp_law_made (K : PySem.W.Frag) : Sp := Pm fun A H vs Θ => ∃ v old rows, vs = [v] ∧ Rp A H v (recD old rows) ∧ okR old rows ∧ ∃ H0, Old H0 H ∧ Θ = rcNn K H0 (bitsR rows)
abbrev s_law_made : Stmt := top 54
abbrev N_law_made : List Str := ["_law_recipe_here", "_law_row_here"]
theorem sc_law_made : FnScope N_law_made ["_law_recipe_here"] (defScope s_law_made) := ⟨rfl, rfl, rfl, by decide +kernel, rfl, by decide +kernel, by decide +kernel⟩
theorem c_law_made (T : Tx K mg) : C8.Cal P w K mg base 5 "_law_made" (sp_law_made K) [] := by
  refine mkCal T 41 47 rfl rfl sc_law_made (fun _ _ _ _ _ _ us hl => match us, hl with | [_], _ => rfl) (fun vs H Q E h => ?_) (fun f cdv A outer s H vs Q E hr h => ?_)
  · obtain ⟨A, Θ, _, ⟨v, _, _, rfl, _⟩, _⟩ := h
    rfl
  obtain ⟨A, Θ, lv, ⟨v, old, rows, rfl, hv, ok, H0, ho, rfl⟩, k⟩ := h
  have c_Recipe := c_Recipe (P := P) (w := w) (base := base) T
  refine ⟨_, (pss_one (ps_ret (C8.pe_mk c_Recipe hr (by decide) rfl (pa_cons (pe_ix (kix_list (K := K)) (pv 0) pe_int (fun _ _ => rfl)) (pa_cons (pe_lc (own := [("_law_row_here", 1)]) rfl sc_law_made.nd (kpi_list (K := K) (pe_ix (kix_list (K := K)) (pv 0) pe_int (fun _ _ => rfl))) (blkOk_by (own := [("_law_row_here", 1)]) (N := N_law_made) (sc := defScope s_law_made) (by decide +kernel)) (fun _ _ _ _ _ => (pg_name (i := 1) sc_law_made.nd rfl (Or.inl rfl))) (fun _ _ _ _ _ => pts_nil) (fun _ _ _ _ _ => (pe_callTy (k_list (K := K)) rfl T.list_ bt_list (pa_cons (pv 1) pa_nil)))) pa_nil))))), ?_⟩
  have h7 := ok.n7
  refine p_ret (Φ := rcNn K H0 (bitsR rows)) ((em_make (c := 0) ok (eva_cons (ev_ixL (ev_var rfl hv) ev_int (atI_nat (j := 0) rfl)) (eva_cons (ev_is (ev_lcL (f := id) (ev_ixL (ev_var rfl hv) ev_int (atI_nat (j := 1) rfl)) (by rw [List.length_map]; omega) (fun x => rfl) fun d A1 H1 x hd w hx => ?_) (by rw [List.map_id])) eva_nil))).imp fun A' H' v _ ⟨kn, h0, q⟩ => ⟨kn, ho _ h0, q⟩) lv k
  obtain ⟨r, hr, rfl⟩ := List.mem_map.mp hd
  exact ev_list (ev_var rfl hx)
theorem v_law_made {e : Ef} {c : Nat} {ta : TE} {σ : L2.St} {A : As} {H H0 : Hp} {E : XK} {old : Nat} {rows : List (List Nat)} (ho : Old H0 H) (ok : okR old rows) (h : Em e c ta σ A H (da (recD old rows))) : Em e c (tCall (sp_law_made K) [] E (tCons ta tNil)) σ A H (rcNn K H0 (bitsR rows)) :=
  em_pm (ema_cons (c2 := 0) h ema_nil) fun A' H' vs w p => by
    obtain ⟨x, rfl, q⟩ := pvs1 p
    exact ⟨x, old, rows, rfl, q, ok, H0, fun a z => ho a (w.kp.none z), rfl⟩
end
end SB
namespace SB
open PySem PySem.Spec PyProof.Rows L2 LamX
section
variable {e : Ef} {c c1 c2 ce : Nat} {K : PySem.W.Frag} {mg : Str → Option Value} {ta tb te tl tk : TE} {tt tu : TT} {σ : L2.St} {A A' : As} {H H' : Hp} {Φ Ψ Θ : Pv} {ds es : List PyData} {n m : Nat} {E : XK} {D : Ends} {i j : Int} {v x : V} {g : TG} {wi : TI}
theorem sr_congr {N : Nat} {It It' : Nat → Pv} (h : Sr e c wi σ A H N It) (q : ∀ i, i < N → It i = It' i) : Sr e c wi σ A H N It' := fun A' H' n w cu hn R r =>
  h A' H' n w cu hn R fun J H2 G Y k2 j2 wk hG hY => r J H2 G Y k2 j2 wk hG fun i A3 H3 x H4 hi w3 l3 y => by
    rw [← q i hi]
    exact hY i A3 H3 x H4 hi w3 l3 y
theorem getD_map {it : Nat → PyData} {l : List Nat} {i : Nat} (hi : i < l.length) : (l.map it).getD i .none = it (l.getD i 0) := by
  rw [List.getD_eq_getElem?_getD, List.getD_eq_getElem?_getD, List.getElem?_map, List.getElem?_eq_getElem hi]
  rfl
theorem getD_mem {l : List Nat} {i : Nat} (hi : i < l.length) : l.getD i 0 ∈ l := by
  rw [List.getD_eq_getElem?_getD, List.getElem?_eq_getElem hi]
  exact List.getElem_mem hi
theorem sr_listM {it : Nat → PyData} {l : List Nat} (h : Em e c tl σ A H (da (.list (l.map it)))) : Sr e c (iList K tl) σ A H l.length fun i => da (it (l.getD i 0)) := by
  have := sr_list (K := K) h
  rw [List.length_map] at this
  exact sr_congr this fun i hi => by rw [getD_map hi]
theorem sr_tupM {it : Nat → PyData} {l : List Nat} (h : Em e c tl σ A H (da (.tuple (l.map it)))) : Sr e c (iTup K tl) σ A H l.length fun i => da (it (l.getD i 0)) := by
  have := sr_tup (K := K) h
  rw [List.length_map] at this
  exact sr_congr this fun i hi => by rw [getD_map hi]
theorem range_getD (l : List Nat) : (List.range l.length).map (fun i => l.getD i 0) = l := by
  apply List.ext_getElem
  · simp
  · intro i h1 h2
    simp [List.getElem?_eq_getElem h2]
theorem filter_range (l : List Nat) (q : Nat → Bool) (g : Nat → PyData) : ((List.range l.length).filter fun i => q (l.getD i 0)).map (fun i => g (l.getD i 0)) = (l.filter q).map g := by
  have h : l.filter q = ((List.range l.length).filter fun i => q (l.getD i 0)).map fun i => l.getD i 0 := by
    have := List.filter_map (f := fun i => l.getD i 0) (p := q) (l := List.range l.length)
    rw [range_getD] at this
    exact this
  rw [h, List.map_map]
  rfl
/-- a comprehension whose test has one answer for each item -/
theorem em_lcF {it g : Nat → PyData} {q : Nat → Bool} {l : List Nat} {j : Nat} {vs : List Nat} (hs : Sr e c wi σ A H l.length fun i => da (it (l.getD i 0))) (hN : l.length ≤ 100000) (hw : ∀ x, wipe ((wipe σ vs).set j (some x)) vs = wipe σ vs)
    (ht : ∀ b A1 H1 x, b ∈ l → Wl A H A1 H1 → Rp A1 H1 x (it b) → EmT e 0 tt ((wipe σ vs).set j (some x)) A1 H1 (q b = ·))
    (he : ∀ b A1 H1 x, b ∈ l → Wl A H A1 H1 → Rp A1 H1 x (it b) → q b = true → Em e 0 te ((wipe σ vs).set j (some x)) A1 H1 (da (g b))) :
    Em e c (tLc wi (gName j) tt te vs) σ A H (da (.list ((l.filter q).map g))) := by
  have := em_lc (e := e) (ct := 0) (ce := 0) (Tt := fun i b => q (l.getD i 0) = b) (Φ := fun i => da (g (l.getD i 0))) hs hN hw (fun i A1 H1 x hi w px => ht _ A1 H1 x (getD_mem hi) w px) fun i A1 H1 x hi w px h => he _ A1 H1 x (getD_mem hi) w px h
  rw [Nat.mul_zero, Nat.add_zero] at this
  refine this.imp fun A' H' v _ ⟨f, hf, p⟩ => ?_
  have p2 := lsQ_da p
  rw [filter_congr (g := fun i => q (l.getD i 0)) fun k hk => (hf k hk).symm, filter_range] at p2
  exact p2
/-- .. without a test -/
theorem em_lcM {it g : Nat → PyData} {l : List Nat} {j : Nat} {vs : List Nat} (hs : Sr e c wi σ A H l.length fun i => da (it (l.getD i 0))) (hN : l.length ≤ 100000) (hw : ∀ x, wipe ((wipe σ vs).set j (some x)) vs = wipe σ vs)
    (he : ∀ b A1 H1 x, b ∈ l → Wl A H A1 H1 → Rp A1 H1 x (it b) → Em e 0 te ((wipe σ vs).set j (some x)) A1 H1 (da (g b))) :
    Em e c (tLc wi (gName j) tYes te vs) σ A H (da (.list (l.map g))) := by
  have := em_lcF (e := e) (q := fun _ => true) (g := g) hs hN hw (fun b A1 H1 x hb w px => et_yes) fun b A1 H1 x hb w px _ => he b A1 H1 x hb w px
  rw [List.filter_eq_self.mpr fun _ _ => rfl] at this
  exact this
theorem em_inN {neg : Bool} {k : Nat} {l : List Nat} (h : Em e c1 ta σ A H (da (nat k))) (h2 : Em e c2 tb σ A H (da (.list (nts l)))) : Em e (c1 + c2) (tOp (rIn K neg) ta tb) σ A H (da (.bool (if neg then !decide (k ∈ l) else decide (k ∈ l)))) := by
  have e1 : (l.map fun b : Nat => (b : Int)).map PyData.int = nts l := by rw [List.map_map]; rfl
  have := em_inL (K := K) (neg := neg) (ns := l.map fun b : Nat => (b : Int)) h (by rw [e1]; exact h2)
  have e2 : decide ((k : Int) ∈ l.map fun b : Nat => (b : Int)) = decide (k ∈ l) := by
    by_cases z : k ∈ l
    · rw [decide_eq_true z, decide_eq_true (List.mem_map_of_mem z)]
    · rw [decide_eq_false z, decide_eq_false fun q => z (by
        obtain ⟨b, hb, e⟩ := List.mem_map.mp q
        have : b = k := by omega
        exact this ▸ hb)]
  rw [e2] at this
  exact this
theorem em_inNT {neg : Bool} {k : Nat} {l : List Nat} (h : Em e c1 ta σ A H (da (nat k))) (h2 : Em e c2 tb σ A H (da (.tuple (nts l)))) : Em e (c1 + c2) (tOp (rIn K neg) ta tb) σ A H (da (.bool (if neg then !decide (k ∈ l) else decide (k ∈ l)))) := by
  have e1 : (l.map fun b : Nat => (b : Int)).map PyData.int = nts l := by rw [List.map_map]; rfl
  have := em_inT (K := K) (neg := neg) (ns := l.map fun b : Nat => (b : Int)) h (by rw [e1]; exact h2)
  have e2 : decide ((k : Int) ∈ l.map fun b : Nat => (b : Int)) = decide (k ∈ l) := by
    by_cases z : k ∈ l
    · rw [decide_eq_true z, decide_eq_true (List.mem_map_of_mem z)]
    · rw [decide_eq_false z, decide_eq_false fun q => z (by
        obtain ⟨b, hb, e⟩ := List.mem_map.mp q
        have : b = k := by omega
        exact this ▸ hb)]
  rw [e2] at this
  exact this
theorem blk_bit {m k : Nat} (hk : k < 8) : decide (k ∈ blk m) = m.testBit k := by
  cases z : m.testBit k with
  | true => exact decide_eq_true (blk_mem.mpr ⟨hk, z⟩)
  | false => exact decide_eq_false fun q => by rw [(blk_mem.mp q).2] at z; cases z
/-- d.update(d2) -/
theorem z_updK {d : Addr} {ms ls : List Nat} {q : Nat} (hv : σ[q]? = some (some (.ref d))) (cu : Cur (eY e d (.dK (kvm ki yes ms))) A H n) (hn : n ≤ big) (ha : Em (eY e d (.dK (kvm ki yes ms))) 0 ta σ A H (dKv (kvm ki yes ls))) (hA : A d) (hB : ¬ e.B d) (hl : ms.length + ls.length ≤ 100000) (hm : ∀ m ∈ ms, m < 256) (hm2 : ∀ m ∈ ls, m < 256)
    (k : ∀ H1, Kp (eW e d).B H H1 → Cur (eY e d (.dK (kvm ki yes (ls.foldl ins ms)))) A H1 n → D.nx σ H1) : tDrop (tBM K "dict" rUpdK (tVar q) (tCons ta tNil)) D σ H := by
  refine ⟨_, hv, .inr (.inr (.inl ⟨rfl, .inl ⟨_, cu.at⟩⟩)), ha A H n (.refl _ _) cu hn _ fun y H1 k1 j1 p1 => ?_⟩
  obtain ⟨o, rfl, no, ho⟩ := p1
  have cu1 := cu.aft k1 j1
  have e1 : mergeK (kvm ki yes ms) (kvm ki yes ls) = kvm ki yes (ls.foldl ins ms) := mg_f (f := yes) ki_inj ls ms hm hm2
  refine ⟨d, o, _, _, rfl, rfl, fun z => no (z ▸ hA), cu1.at, .inl ho, sz5 (by rw [kvm_len, kvm_len]; exact hl), ?_⟩
  rw [e1]
  exact k _ (k1.trans (.mut (.inr rfl) (by rw [cu1.at]; simp))) (cu1.put hB)
theorem z_updT {d : Addr} {f : Nat → V} {ms ls : List Nat} {q : Nat} (hv : σ[q]? = some (some (.ref d))) (cu : Cur (eY e d (.dT (kvm kt f ms))) A H n) (hn : n ≤ big) (ha : Em (eY e d (.dT (kvm kt f ms))) 0 ta σ A H (dTv (kvm kt f ls))) (hA : A d) (hB : ¬ e.B d) (hl : ms.length + ls.length ≤ 100000) (hm : ∀ m ∈ ms, m < 128) (hm2 : ∀ m ∈ ls, m < 128) (hnd : ls.Nodup)
    (k : ∀ H1, Kp (eW e d).B H H1 → Cur (eY e d (.dT (kvm kt f (ls.foldl ins ms)))) A H1 n → D.nx σ H1) : tDrop (tBM K "dict" rUpdT (tVar q) (tCons ta tNil)) D σ H := by
  refine ⟨_, hv, .inr (.inr (.inl ⟨rfl, .inr ⟨_, cu.at⟩⟩)), ha A H n (.refl _ _) cu hn _ fun y H1 k1 j1 p1 => ?_⟩
  obtain ⟨o, rfl, no, ho⟩ := p1
  have cu1 := cu.aft k1 j1
  have e1 : SB.mg (kvm kt f ms) (kvm kt f ls) = kvm kt f (ls.foldl ins ms) := mg_f (f := f) kt_inj ls ms (fun m h => by have := hm m h; omega) (fun m h => by have := hm2 m h; omega)
  refine ⟨d, o, _, _, rfl, rfl, fun z => no (z ▸ hA), cu1.at, .inl ho, sz5 (by rw [kvm_len, kvm_len]; exact hl), .inr ⟨ls, f, rfl, hnd, hm2⟩, ?_⟩
  rw [e1]
  exact k _ (k1.trans (.mut (.inr rfl) (by rw [cu1.at]; simp))) (cu1.put hB)
end
theorem getD_bits (rows : List (List Nat)) (b : Nat) : (bitsR rows).getD b 0 = bitsOf (rows.getD b []) := by
  unfold bitsR
  rw [List.getD_eq_getElem?_getD, List.getD_eq_getElem?_getD, List.getElem?_map]
  cases rows[b]? <;> rfl
section
variable {K : PySem.W.Frag} {mg : Str → Option Value} {P : Program} {w : World} {base : Heap}
/-! _law_needed -/
abbrev sp_law_needed : Sp := Pm fun A H vs Θ => ∃ v x old rows m, vs = [v, x] ∧ Rp A H v (recD old rows) ∧ Rp A H x (lot m) ∧ okR old rows ∧ Θ = da (lot (need (bitsR rows) m))
theorem rec_rows {old : Nat} {rows : List (List Nat)} : atI [nat old, rowsD rows] 1 = some (rowsD rows) := atI_nat (j := 1) rfl
theorem row_at {rows : List (List Nat)} {i : Nat} (hi : i < rows.length) : atI (rows.map fun r => PyData.list (nts r)) (i : Int) = some (.list (nts (rows.getD i []))) := by
  refine atI_nat ?_
  rw [List.getElem?_map, List.getD_eq_getElem?_getD, List.getElem?_eq_getElem hi]
  rfl
theorem okR.row {old : Nat} {rows : List (List Nat)} (ok : okR old rows) (i : Nat) : ∀ b ∈ rows.getD i [], b < 8 := fun b hb => by
  rw [List.getD_eq_getElem?_getD] at hb
  cases z : rows[i]? with
  | none => rw [z] at hb; cases hb
  | some r =>
    rw [z] at hb
    have := ok.lt r (List.mem_of_getElem? z) b hb
    have := ok.o
    omega
theorem okR.rl2 {old : Nat} {rows : List (List Nat)} (ok : okR old rows) (i : Nat) : (rows.getD i []).length ≤ 8 := by
  rw [List.getD_eq_getElem?_getD]
  cases z : rows[i]? with
  | none => exact Nat.zero_le _
  | some r => exact ok.rl (List.mem_of_getElem? z)
abbrev s_law_needed : Stmt := top 46
abbrev N_law_needed : List Str := ["_law_recipe_here", "_law_lot", "_law_found", "_law_block", "_law_late"]
theorem sc_law_needed : FnScope N_law_needed ["_law_recipe_here", "_law_lot"] (defScope s_law_needed) := ⟨rfl, rfl, rfl, by decide +kernel, rfl, by decide +kernel, by decide +kernel⟩
theorem c_law_needed (T : Tx K mg) : C8.Cal P w K mg base 1 "_law_needed" sp_law_needed [] := by
  refine mkCal T 33 39 rfl rfl sc_law_needed (fun _ _ _ _ _ _ us hl => match us, hl with | [_, _], _ => rfl) (fun vs H Q E h => ?_) (fun f cdv A outer s H vs Q E hr h => ?_)
  · obtain ⟨A, Θ, _, ⟨v, _, _, _, _, rfl, _⟩, _⟩ := h
    rfl
  obtain ⟨A, Θ, lv, ⟨v, x, old, rows, m, rfl, hv, hx, ok, rfl⟩, k⟩ := h
  refine ⟨_, (pss_cons (ps_set (i := 2) sc_law_needed.nd rfl (Or.inl rfl) pe_dnewK)
  (pss_cons (ps_for PassesOwn.never rfl (pi_range1 rfl T.range_ (pa_cons (pe_callB (k_len (K := K)) rfl T.len_ bt_len (pa_cons (pe_ix (kix_list (K := K)) (pv 0) pe_int (fun _ _ => rfl)) pa_nil)) pa_nil)) (pg_name (i := 3) sc_law_needed.nd rfl (Or.inl rfl)) (pss_one (ps_if (pt_cmpR (kop_notIn (K := K)) (pv 3) (pv 1) rfl) (pss_one (ps_expr (pe_bm PySem.F.plainAttrs_dict PySem.F.slot_dict_update PySem.F.type_dict_update (mt_updK) (pv 2) (pa_cons (pe_callTy (k_dictP (K := K) rfl) rfl T.dict_ bt_dict (pa_cons (pe_lc (own := [("_law_late", 4)]) rfl sc_law_needed.nd (kpi_list (K := K) (pe_ix (kix_list (K := K)) (pe_ix (kix_list (K := K)) (pv 0) pe_int (fun _ _ => rfl)) (pv 3) (fun _ _ => rfl))) (blkOk_by (own := [("_law_late", 4)]) (N := N_law_needed) (sc := defScope s_law_needed) (by decide +kernel)) (fun _ _ _ _ _ => (pg_name (i := 4) sc_law_needed.nd rfl (Or.inl rfl))) (fun _ _ _ _ _ => pts_nil) (fun _ _ _ _ _ => (pe_tup (pa_cons (pv 4) (pa_cons pe_bl pa_nil))))) pa_nil)) pa_nil)))) pss_nil)))
  (pss_one (ps_ret (pe_callB (k_sortDI rfl) rfl T.sorted_ bt_sorted (pa_cons (pv 2) pa_nil)))))), ?_⟩
  have h7 := ok.n7
  refine z_asg (e := e0) (n := 0) em_newK (cur0 lv) (by decide) fun v2 H1 k1 cu1 p1 => ?_
  obtain ⟨d, rfl, nd, hd0, hd⟩ := p1
  have hB : ¬ e0.B d := id
  have w1 : Wl A H (Ad A d) H1 := (cur0 lv).wlN k1 hd0
  have hv1 := hv.up w1
  have hx1 := hx.up w1
  have cuY : Cur (eY e0 d (.dK (kvm ki yes []))) (Ad A d) H1 0 := (cu1.ad hd).own (hx := by simp) hd (.inr rfl)
  refine z_forE (e1 := eY e0 d (.dK (kvm ki yes []))) (e := eW e0 d) (A := Ad A d) (n := 0) (fun i σ' H' => ∃ y ms, σ' = [some v, some x, some (.ref d), y, none] ∧ H' d = some (.dK (kvm ki yes ms)) ∧ ms.Nodup ∧ ∀ z, z ∈ ms ↔ ∃ b, b < i ∧ m.testBit b = false ∧ z ∈ rows.getD b [])
    (vr_rng1 (ev_len (ev_ixL (ev_var rfl hv1) ev_int rec_rows)) (by rw [List.length_map]; omega)) cuY (by decide) (fun _ h => h) (fun _ _ _ _ ⟨y, ms, h1, h2, h3⟩ kk => ⟨y, ms, h1, kk.1 d _ id h2, h3⟩) (fun H3 k3 c3 => ⟨⟨none, [], rfl, c3.at, .nil, fun z => ⟨(fun h => by cases h), fun ⟨b, hb, _⟩ => absurd hb (Nat.not_lt_zero _)⟩⟩, c3.toW⟩)
    (fun H3 i σ' H' y k3 hi ⟨y0, ms, hσ, hd', hnd, hms⟩ k4 cu4 px => ?_) (fun σ' H' ⟨y0, ms, hσ, hd', hnd, hms⟩ k3 cu3 => ?_)
  · subst hσ
    have hi2 : i < rows.length := by simpa using hi
    obtain rfl := Rp.int_eq px
    have cuX : Cur (eY e0 d (.dK (kvm ki yes ms))) (Ad A d) H' 0 := cu4.toX hd'
    have w2 : Wl (Ad A d) H1 (Ad A d) H' := .of (k3.trans k4) cu4.sub
    have m8 : ∀ z ∈ ms, z < 8 := fun z hz => by
      obtain ⟨b, _, _, q⟩ := (hms z).mp hz
      exact ok.row b z q
    refine z_if (T := ((!m.testBit i) = ·)) (vt_B (ev_is (em_inN (c1 := 0) (c2 := 0) (neg := true) (ev_var rfl (.int (i : Int))) (ev_var rfl (hx1.up w2))) (by show PyData.bool (!decide (i ∈ blk m)) = _; rw [blk_bit (by omega)]))) cuX (by decide) (fun h H4 k5 cu5 => ?_) (fun h H4 k5 cu5 => ?_)
    · have w3 : Wl (Ad A d) H1 (Ad A d) H4 := w2.trans (.of k5 cuX.sub)
      refine z_updK rfl cu5 (by decide) (em_dictN (c := 0) (l := rows.getD i []) (em_lcM (c := 0) (it := fun b => nat b) (g := fun b => .tuple [nat b, .bool true]) (sr_listM (ev_ixL (ev_ixL (ev_var rfl (hv1.up w3)) ev_int rec_rows) (ev_var rfl (.int (i : Int))) (row_at hi2))) (by have := ok.rl2 i; omega) (fun x => rfl) fun b A1 H5 x hb w px => ev_tupD (evd_cons (ev_var rfl px) (evd_cons ev_bl evd_nil)) (show (2 : Nat) ≤ 100000 by decide)) (fun b hb => by have := ok.row i b hb; omega)) (.inr rfl) hB ?_ (fun z hz => by have := m8 z hz; omega) (fun z hz => by have := ok.row i z (setOf_mem.mp hz); omega) fun H5 k6 cu6 => ?_
      · have h1 := nd_le hnd m8
        have h2 := setOf_le (rows.getD i [])
        have h3 := ok.rl2 i
        omega
      · refine Iw.z ?_ ((k4.trans k5).trans k6) cu6.toW
        obtain ⟨g1, g2, _⟩ := fold_ins (setOf (rows.getD i [])) ms hnd
        refine ⟨some (.int (i : Int)), _, rfl, cu6.at, g1, fun z => ?_⟩
        rw [g2, hms, setOf_mem]
        constructor
        · rintro (⟨b, q1, q2, q3⟩ | q)
          · exact ⟨b, by omega, q2, q3⟩
          · exact ⟨i, by omega, by simpa using h, q⟩
        · rintro ⟨b, q1, q2, q3⟩
          by_cases z0 : b < i
          · exact .inl ⟨b, z0, q2, q3⟩
          · have : b = i := by omega
            subst this
            exact .inr q3
    · refine Iw.z ?_ (k4.trans k5) cu5.toW
      refine ⟨some (.int (i : Int)), ms, rfl, cu5.at, hnd, fun z => ?_⟩
      rw [hms]
      constructor
      · rintro ⟨b, q1, q2, q3⟩
        exact ⟨b, by omega, q2, q3⟩
      · rintro ⟨b, q1, q2, q3⟩
        by_cases z0 : b < i
        · exact ⟨b, z0, q2, q3⟩
        · have : b = i := by omega
          subst this
          rw [q2] at h
          cases h
  · subst hσ
    rw [List.length_map, Int.toNat_natCast] at hms
    have cuX : Cur (eY e0 d (.dK (kvm ki yes ms))) (Ad A d) H' 0 := cu3.toX hd'
    have m8 : ∀ z ∈ ms, z < 8 := fun z hz => by
      obtain ⟨b, _, _, q⟩ := (hms z).mp hz
      exact ok.row b z q
    have hlen := nd_le hnd m8
    refine p_ret (Φ := da (lot (need (bitsR rows) m))) (em_sortDI (c := 0) (f := yes) (ms := ms) (ev_var (i := 2) rfl ⟨d, rfl, nd, hd'⟩) (by omega) hnd fun z => ?_) (A := A) (fun a q => cu3.lv a (.inl q)) fun v4 H4 k4 p4 => k v4 H4 ((k1.dropW k3 hd0).trans k4) p4
    rw [hms, blk_mem, need_bit]
    constructor
    · rintro ⟨b, q1, q2, q3⟩
      exact ⟨ok.row b z q3, b, by unfold bitsR; rw [List.length_map]; exact q1, q2, by rw [getD_bits, bitsOf_bit]; exact decide_eq_true q3⟩
    · rintro ⟨_, b, q1, q2, q3⟩
      rw [getD_bits, bitsOf_bit] at q3
      exact ⟨b, by unfold bitsR at q1; rw [List.length_map] at q1; exact q1, q2, of_decide_eq_true q3⟩
theorem v_law_needed {e : Ef} {ta tb : TE} {σ : L2.St} {A : As} {H : Hp} {E : XK} {old : Nat} {rows : List (List Nat)} {m : Nat} (ok : okR old rows) (h : Em e 0 ta σ A H (da (recD old rows))) (h2 : Em e 0 tb σ A H (da (lot m))) : Em e 0 (tCall sp_law_needed [] E (tCons ta (tCons tb tNil))) σ A H (da (lot (need (bitsR rows) m))) :=
  em_pm (c := 0) (eva_cons h (eva_cons h2 eva_nil)) fun A' H' vs w p => by
    obtain ⟨x, y, rfl, q, q2⟩ := pvs2 p
    exact ⟨x, y, old, rows, m, rfl, q, q2, ok, rfl⟩
/-! _law_held -/
abbrev sp_law_held : Sp := Pm fun A H vs Θ => ∃ v x old rows m, vs = [v, x] ∧ Rp A H v (recD old rows) ∧ Rp A H x (lot m) ∧ okR old rows ∧ Θ = da (nat (held (bitsR rows) m))
abbrev s_law_held : Stmt := top 47
abbrev N_law_held : List Str := ["_law_recipe_here", "_law_lot"]
theorem sc_law_held : FnScope N_law_held ["_law_recipe_here", "_law_lot"] (defScope s_law_held) := ⟨rfl, rfl, rfl, by decide +kernel, rfl, by decide +kernel, by decide +kernel⟩
theorem c_law_held (T : Tx K mg) : C8.Cal P w K mg base 2 "_law_held" sp_law_held [] := by
  refine mkCal T 34 40 rfl rfl sc_law_held (fun _ _ _ _ _ _ us hl => match us, hl with | [_, _], _ => rfl) (fun vs H Q E h => ?_) (fun f cdv A outer s H vs Q E hr h => ?_)
  · obtain ⟨A, Θ, _, ⟨v, _, _, _, _, rfl, _⟩, _⟩ := h
    rfl
  obtain ⟨A, Θ, lv, ⟨v, x, old, rows, m, rfl, hv, hx, ok, rfl⟩, k⟩ := h
  have c_law_needed := c_law_needed (P := P) (w := w) (base := base) T
  refine ⟨_, (pss_one (ps_ret (pe_op op_add (pe_callB (k_len (K := K)) rfl T.len_ bt_len (pa_cons (pv 1) pa_nil)) (pe_callB (k_len (K := K)) rfl T.len_ bt_len (pa_cons (C8.pe_c c_law_needed hr (by decide) rfl (pa_cons (pv 0) (pa_cons (pv 1) pa_nil))) pa_nil))))), ?_⟩
  exact p_ret (ev_is (ev_bin (ev_len (ev_var rfl hx)) (ev_len (v_law_needed ok (ev_var rfl hv) (ev_var rfl hx)))) (by rw [List.length_map, List.length_map]; rfl)) lv k
theorem v_law_held {e : Ef} {ta tb : TE} {σ : L2.St} {A : As} {H : Hp} {E : XK} {old : Nat} {rows : List (List Nat)} {m : Nat} (ok : okR old rows) (h : Em e 0 ta σ A H (da (recD old rows))) (h2 : Em e 0 tb σ A H (da (lot m))) : Em e 0 (tCall sp_law_held [] E (tCons ta (tCons tb tNil))) σ A H (da (nat (held (bitsR rows) m))) :=
  em_pm (c := 0) (eva_cons h (eva_cons h2 eva_nil)) fun A' H' vs w p => by
    obtain ⟨x, y, rfl, q, q2⟩ := pvs2 p
    exact ⟨x, y, old, rows, m, rfl, q, q2, ok, rfl⟩
/-! _law_lots -/
abbrev sp_law_lots : Sp := Pm fun A H vs Θ => ∃ n : Nat, vs = [.int n] ∧ n ≤ 7 ∧ Θ = lotsP (List.range (2 ^ n))
theorem blk_snoc {m i : Nat} (hi : i < 8) (hm : m < 2 ^ i) : blk (m ||| 2 ^ i) = blk m ++ [i] := by
  have h := all2 (p := fun i m => decide (m < 2 ^ i → blk (m ||| 2 ^ i) = blk m ++ [i])) (n := 8) (k := 256) (by decide +kernel) hi (show m < 2 ^ 8 from Nat.lt_of_lt_of_le hm (Nat.pow_le_pow_right (n := 2) (by decide) (Nat.le_of_lt hi)))
  exact of_decide_eq_true h hm
theorem range_dbl (i : Nat) : List.range (2 ^ (i + 1)) = List.range (2 ^ i) ++ (List.range (2 ^ i)).map fun m => m ||| 2 ^ i := by
  rw [Nat.pow_succ, Nat.mul_two, List.range_add]
  congr 1
  refine List.map_congr_left fun m hm => ?_
  have := List.mem_range.mp hm
  have h := Nat.two_pow_add_eq_or_of_lt this 1
  rw [Nat.mul_one] at h
  rw [h, Nat.or_comm]
abbrev s_law_lots : Stmt := top 48
abbrev N_law_lots : List Str := ["_law_many", "_law_found", "_law_block", "_law_lot"]
theorem sc_law_lots : FnScope N_law_lots ["_law_many"] (defScope s_law_lots) := ⟨rfl, rfl, rfl, by decide +kernel, rfl, by decide +kernel, by decide +kernel⟩
theorem c_law_lots (T : Tx K mg) : C8.Cal P w K mg base 1 "_law_lots" sp_law_lots [] := by
  refine mkCal T 35 41 rfl rfl sc_law_lots (fun _ _ _ _ _ _ us hl => match us, hl with | [_], _ => rfl) (fun vs H Q E h => ?_) (fun f cdv A outer s H vs Q E hr h => ?_)
  · obtain ⟨A, Θ, _, ⟨n, rfl, _⟩, _⟩ := h
    rfl
  obtain ⟨A, Θ, lv, ⟨n, rfl, hn, rfl⟩, k⟩ := h
  refine ⟨_, (pss_cons (ps_set (i := 1) sc_law_lots.nd rfl (Or.inl rfl) (pe_lst (pa_cons (pe_lst pa_nil) pa_nil)))
  (pss_cons (ps_for PassesOwn.never rfl (pi_range1 rfl T.range_ (pa_cons (pv 0) pa_nil)) (pg_name (i := 2) sc_law_lots.nd rfl (Or.inr rfl)) (pss_one (ps_set (i := 1) sc_law_lots.nd rfl (Or.inl rfl) (pe_op op_cat (pv 1) (pe_lc (own := [("_law_lot", 3)]) rfl sc_law_lots.nd (kpi_list (K := K) (pv 1)) (blkOk_by (own := [("_law_lot", 3)]) (N := N_law_lots) (sc := defScope s_law_lots) (by decide +kernel)) (fun _ _ _ _ _ => (pg_name (i := 3) sc_law_lots.nd rfl (Or.inl rfl))) (fun _ _ _ _ _ => pts_nil) (fun _ _ _ _ _ => (pe_op op_cat (pv 3) (pe_lst (pa_cons (pv 2) pa_nil)))))))))
  (pss_one (ps_ret (pe_callB (k_sortedD (K := K) (Room.units hr)) rfl T.sorted_ bt_sorted (pa_cons (pv 1) pa_nil)))))), ?_⟩
  refine p_asg (Φ := da (.list [lot 0])) (ev_lstD (evd_cons (ev_is (ev_lstD evd_nil (by decide)) (by unfold lot; rfl)) evd_nil) (by decide)) lv fun v1 H1 k1 lv1 p1 => ?_
  refine p_forS (fun i σ' H' => ∃ v x, ∃ l : List Nat, σ' = [some (.int (n : Int)), some v, x, none] ∧ Rp A H' v (.list (l.map lot)) ∧ l.Perm (List.range (2 ^ i))) (vr_rng1 (ev_var rfl (.int (n : Int))) (by omega)) lv1 (fun i σ' Ha Hb ⟨v, x, l, h1, h2, h3⟩ kk => ⟨v, x, l, h1, h2.up (.of0 kk), h3⟩) (fun H2 k2 => ⟨v1, none, [0], rfl, p1.up (.of0 k2), by decide⟩) (fun H2 i σ' H' x k2 hi ⟨v, x0, l, hσ, hl, hp⟩ k3 lv3 px => ?_) (fun σ' H' ⟨v, x0, l, hσ, hl, hp⟩ k2 lv2 => ?_)
  · subst hσ
    have hi2 : i < n := by simpa using hi
    obtain rfl := Rp.int_eq px
    have lm : ∀ m ∈ l, m < 2 ^ i := fun m hm => List.mem_range.mp (hp.mem_iff.mp hm)
    have hpow : 2 ^ i ≤ 2 ^ 7 := Nat.pow_le_pow_right (n := 2) (by decide) (by omega)
    have hlen : l.length ≤ 128 := by rw [hp.length_eq, List.length_range]; exact hpow
    refine p_asg (Φ := da (.list (l.map lot ++ l.map fun m => lot (m ||| 2 ^ i)))) (ev_cat (ev_var rfl hl) (em_lcM (c := 0) (it := lot) (g := fun m => lot (m ||| 2 ^ i)) (sr_listM (ev_var rfl hl)) (by omega) (fun x => rfl) fun m A1 H3 x hm w px => ev_is (ev_cat (ev_var rfl px) (ev_lstD (ds := [nat i]) (evd_cons (ev_var rfl (.int (i : Int))) evd_nil) (show (1 : Nat) ≤ 100000 by decide)) ?_) ?_) ?_) lv3 fun v4 H4 k4 lv4 p4 => ?_
    · have := pc_le m
      unfold pc at this
      simp
      omega
    · show PyData.list _ = PyData.list _
      rw [blk_snoc (by omega) (lm m hm)]
      unfold nts
      rw [List.map_append]
      rfl
    · rw [List.length_map, List.length_map]
      omega
    · refine Iw.p ⟨v4, some (.int (i : Int)), l ++ l.map fun m => m ||| 2 ^ i, rfl, ?_, ?_⟩ (k3.trans k4) lv4
      · rw [List.map_append, List.map_map]
        exact p4
      · rw [range_dbl]
        exact hp.append (hp.map _)
  · subst hσ
    rw [Int.toNat_natCast] at hp
    have lm : ∀ m ∈ l, m < 256 := fun m hm => by
      have := List.mem_range.mp (hp.mem_iff.mp hm)
      have hpow : 2 ^ n ≤ 2 ^ 7 := Nat.pow_le_pow_right (n := 2) (by decide) hn
      omega
    refine p_ret ((em_sortedD (c := 0) (ds := l.map lot) (ev_var rfl hl) (.of fun a b => lot_alike a b) (.others fun m => ⟨by simp [lot], by simp [lot]⟩) (fun d hd => ?_) (lay_lots l)).imp fun A' H' v _ ⟨es, ⟨h1, _⟩, p⟩ => ?_) lv2 fun v3 H3 k3 p3 => k v3 H3 ((k1.trans k2).trans k3) p3
    · obtain ⟨m, _, rfl⟩ := List.mem_map.mp hd
      have := dep_lot m
      omega
    · obtain ⟨l2, hl2, rfl⟩ := perm_lots lm h1
      exact ⟨l2, hl2.trans hp, p⟩
theorem v_law_lots {e : Ef} {ta : TE} {σ : L2.St} {A : As} {H : Hp} {E : XK} {n : Nat} (hn : n ≤ 7) (h : Em e 0 ta σ A H (da (nat n))) : Em e 0 (tCall sp_law_lots [] E (tCons ta tNil)) σ A H (lotsP (List.range (2 ^ n))) :=
  em_pm (c := 0) (eva_cons h eva_nil) fun A' H' vs w p => by
    obtain ⟨x, rfl, q⟩ := pvs1 p
    obtain rfl := Rp.int_eq q
    exact ⟨n, rfl, hn, rfl⟩
/-! _law_holds -/
abbrev fH (bs : List Nat) : Nat → V := fun m => .int (held bs m)
def holdsP (bs : List Nat) : Pv := exv (fun ms : List Nat => ms.Perm (List.range (2 ^ bs.length))) fun ms => dTv (kvm kt (fH bs) ms)
abbrev sp_law_holds : Sp := Pm fun A H vs Θ => ∃ v old rows, vs = [v] ∧ Rp A H v (recD old rows) ∧ okR old rows ∧ Θ = holdsP (bitsR rows)
abbrev s_law_holds : Stmt := top 49
abbrev N_law_holds : List Str := ["_law_recipe_here", "_law_lot"]
theorem sc_law_holds : FnScope N_law_holds ["_law_recipe_here"] (defScope s_law_holds) := ⟨rfl, rfl, rfl, by decide +kernel, rfl, by decide +kernel, by decide +kernel⟩
theorem c_law_holds (T : Tx K mg) : C8.Cal P w K mg base 3 "_law_holds" sp_law_holds [] := by
  refine mkCal T 36 42 rfl rfl sc_law_holds (fun _ _ _ _ _ _ us hl => match us, hl with | [_], _ => rfl) (fun vs H Q E h => ?_) (fun f cdv A outer s H vs Q E hr h => ?_)
  · obtain ⟨A, Θ, _, ⟨v, _, _, rfl, _⟩, _⟩ := h
    rfl
  obtain ⟨A, Θ, lv, ⟨v, old, rows, rfl, hv, ok, rfl⟩, k⟩ := h
  have c_law_held := c_law_held (P := P) (w := w) (base := base) T
  have c_law_lots := c_law_lots (P := P) (w := w) (base := base) T
  refine ⟨_, (pss_one (ps_ret (pe_callTy (k_dictT (K := K) rfl (Room.units hr)) rfl T.dict_ bt_dict (pa_cons (pe_lc (own := [("_law_lot", 1)]) rfl sc_law_holds.nd (kpi_list (K := K) (C8.pe_c c_law_lots hr (by decide) rfl (pa_cons (pe_callB (k_len (K := K)) rfl T.len_ bt_len (pa_cons (pe_ix (kix_list (K := K)) (pv 0) pe_int (fun _ _ => rfl)) pa_nil)) pa_nil))) (blkOk_by (own := [("_law_lot", 1)]) (N := N_law_holds) (sc := defScope s_law_holds) (by decide +kernel)) (fun _ _ _ _ _ => (pg_name (i := 1) sc_law_holds.nd rfl (Or.inl rfl))) (fun _ _ _ _ _ => pts_nil) (fun _ _ _ _ _ => (pe_tup (pa_cons (pe_callTy (k_tuple (K := K)) rfl T.tuple_ bt_tuple (pa_cons (pv 1) pa_nil)) (pa_cons (C8.pe_c c_law_held hr (by decide) rfl (pa_cons (pv 0) (pa_cons (pv 1) pa_nil))) pa_nil))))) pa_nil)))), ?_⟩
  have h7 := ok.n7
  have eb : (bitsR rows).length = rows.length := List.length_map _
  have hpow : 2 ^ rows.length ≤ 2 ^ 7 := Nat.pow_le_pow_right (n := 2) (by decide) h7
  refine p_ret (Φ := holdsP (bitsR rows)) (em_B1x (C := fun l : List Nat => l.Perm (List.range (2 ^ rows.length))) (Φ := fun l => da (.list (l.map fun m => .tuple [tlot m, nat (held (bitsR rows) m)]))) (ev_bind (Φ := lotsP (List.range (2 ^ rows.length))) (F := fun x => tLc (iList K (tC x)) (gName 1) tYes (tTup (tCons (tCB (r_tuple K) (tCons (tVar 1) tNil)) (tCons (tCall sp_law_held [] C8.E0 (tCons (tVar 0) (tCons (tVar 1) tNil))) tNil))) [1]) (v_law_lots h7 (ev_is (ev_len (ev_ixL (ev_var rfl hv) ev_int rec_rows)) (by rw [List.length_map]))) fun A' H' x w ⟨l, hl, q⟩ => ?_) fun l A' H' x hl _ q => ?_) lv k
  · refine (em_lcM (c := 0) (it := lot) (g := fun m => .tuple [tlot m, nat (held (bitsR rows) m)]) (sr_listM (ev_c q)) (by rw [hl.length_eq, List.length_range]; omega) (fun x => rfl) fun m A1 H1 y hm w1 px => ev_tupD (evd_cons (ev_tuple (ev_var (i := 1) rfl px)) (evd_cons (v_law_held ok (ev_var (i := 0) rfl (hv.up (w.trans w1))) (ev_var (i := 1) rfl px)) evd_nil)) (show (2 : Nat) ≤ 100000 by decide)).imp fun A' H' v _ q => ⟨l, hl, q⟩
  · have nd : l.Nodup := hl.nodup_iff.mpr List.nodup_range
    refine (em_dictT (c := 0) (f := fun m => nat (held (bitsR rows) m)) (g := fH (bitsR rows)) (fun A H m v r => Rp.int_eq r) (ev_c q) fun m hm => by have := List.mem_range.mp (hl.mem_iff.mp hm); omega).imp fun A' H' v _ q => ⟨l, by rw [eb]; exact hl, ?_⟩
    rw [setOf_id nd] at q
    exact q
theorem v_law_holds {e : Ef} {ta : TE} {σ : L2.St} {A : As} {H : Hp} {E : XK} {old : Nat} {rows : List (List Nat)} (ok : okR old rows) (h : Em e 0 ta σ A H (da (recD old rows))) : Em e 0 (tCall sp_law_holds [] E (tCons ta tNil)) σ A H (holdsP (bitsR rows)) :=
  em_pm (c := 0) (eva_cons h eva_nil) fun A' H' vs w p => by
    obtain ⟨x, rfl, q⟩ := pvs1 p
    exact ⟨x, old, rows, rfl, q, ok, rfl⟩
/-! _law_wider -/
abbrev sp_law_wider : Sp := Pm fun A H vs Θ => ∃ v, ∃ m b : Nat, vs = [v, .int b] ∧ Rp A H v (tlot m) ∧ m < 256 ∧ b < 8 ∧ m.testBit b = false ∧ Θ = da (tlot (m ||| 2 ^ b))
abbrev s_law_wider : Stmt := top 50
abbrev N_law_wider : List Str := ["_law_lot", "_law_block"]
theorem sc_law_wider : FnScope N_law_wider ["_law_lot", "_law_block"] (defScope s_law_wider) := ⟨rfl, rfl, rfl, by decide +kernel, rfl, by decide +kernel, by decide +kernel⟩
theorem c_law_wider (T : Tx K mg) : C8.Cal P w K mg base 1 "_law_wider" sp_law_wider [] := by
  refine mkCal T 37 43 rfl rfl sc_law_wider (fun _ _ _ _ _ _ us hl => match us, hl with | [_, _], _ => rfl) (fun vs H Q E h => ?_) (fun f cdv A outer s H vs Q E hr h => ?_)
  · obtain ⟨A, Θ, _, ⟨v, _, _, rfl, _⟩, _⟩ := h
    rfl
  obtain ⟨A, Θ, lv, ⟨v, m, b, rfl, hv, hm, hb, hbit, rfl⟩, k⟩ := h
  refine ⟨_, (pss_one (ps_ret (pe_callTy (k_tuple (K := K)) rfl T.tuple_ bt_tuple (pa_cons (pe_callB (k_sortI (K := K)) rfl T.sorted_ bt_sorted (pa_cons (pe_op op_cat (pe_callTy (k_list (K := K)) rfl T.list_ bt_list (pa_cons (pv 0) pa_nil)) (pe_lst (pa_cons (pv 1) pa_nil))) pa_nil)) pa_nil)))), ?_⟩
  have nb : b ∉ blk m := fun q => by rw [(blk_mem.mp q).2] at hbit; cases hbit
  refine p_ret (ev_tuple (em_sortI (c := 0) (l := blk m ++ [b]) (m := m ||| 2 ^ b) (ev_is (ev_cat (ev_listT (ev_var rfl hv)) (ev_lstD (ds := [nat b]) (evd_cons (ev_var rfl (.int (b : Int))) evd_nil) (show (1 : Nat) ≤ 100000 by decide)) ?_) ?_) ?_ fun x => ?_)) lv k
  · have := pc_le m
    unfold pc at this
    simp
    omega
  · unfold nts
    rw [List.map_append]
    rfl
  · exact List.nodup_append.mpr ⟨blk_nd m, by simp, fun a ha c hc => by rw [List.mem_singleton.mp hc]; exact fun z => nb (z ▸ ha)⟩
  · rw [List.mem_append, List.mem_singleton, blk_mem, blk_mem, or_bit, Bool.or_eq_true, decide_eq_true_iff]
    constructor
    · rintro (⟨q1, q2⟩ | rfl)
      · exact ⟨q1, .inl q2⟩
      · exact ⟨hb, .inr rfl⟩
    · rintro ⟨q1, q2 | q2⟩
      · exact .inl ⟨q1, q2⟩
      · exact .inr q2.symm
theorem v_law_wider {e : Ef} {ta tb : TE} {σ : L2.St} {A : As} {H : Hp} {E : XK} {m b : Nat} (hm : m < 256) (hb : b < 8) (hbit : m.testBit b = false) (h : Em e 0 ta σ A H (da (tlot m))) (h2 : Em e 0 tb σ A H (da (nat b))) : Em e 0 (tCall sp_law_wider [] E (tCons ta (tCons tb tNil))) σ A H (da (tlot (m ||| 2 ^ b))) :=
  em_pm (c := 0) (eva_cons h (eva_cons h2 eva_nil)) fun A' H' vs w p => by
    obtain ⟨x, y, rfl, q, q2⟩ := pvs2 p
    obtain rfl := Rp.int_eq q2
    exact ⟨x, m, b, rfl, q, hm, hb, hbit, rfl⟩
/-! _law_narrower -/
abbrev sp_law_narrower : Sp := Pm fun A H vs Θ => ∃ v, ∃ m b : Nat, vs = [v, .int b] ∧ Rp A H v (tlot m) ∧ b ∈ blk m ∧ Θ = da (tlot (m ^^^ 2 ^ b))
theorem blk_xor {m b : Nat} (hb : b ∈ blk m) : (blk m).filter (fun x => decide (x ≠ b)) = blk (m ^^^ 2 ^ b) := asc_ext (List.Pairwise.sublist List.filter_sublist (blk_asc m)) (blk_asc _) fun x => by
  have h1 := blk_mem.mp hb
  rw [List.mem_filter, blk_mem, blk_mem, Nat.testBit_xor, Nat.testBit_two_pow, decide_eq_true_iff]
  by_cases z : b = x
  · subst z
    rw [h1.2]
    simp
  · have z2 : ¬ x = b := fun q => z q.symm
    simp [z, z2]
abbrev s_law_narrower : Stmt := top 51
abbrev N_law_narrower : List Str := ["_law_lot", "_law_block", "_law_late"]
theorem sc_law_narrower : FnScope N_law_narrower ["_law_lot", "_law_block"] (defScope s_law_narrower) := ⟨rfl, rfl, rfl, by decide +kernel, rfl, by decide +kernel, by decide +kernel⟩
theorem c_law_narrower (T : Tx K mg) : C8.Cal P w K mg base 1 "_law_narrower" sp_law_narrower [] := by
  refine mkCal T 38 44 rfl rfl sc_law_narrower (fun _ _ _ _ _ _ us hl => match us, hl with | [_, _], _ => rfl) (fun vs H Q E h => ?_) (fun f cdv A outer s H vs Q E hr h => ?_)
  · obtain ⟨A, Θ, _, ⟨v, _, _, rfl, _⟩, _⟩ := h
    rfl
  obtain ⟨A, Θ, lv, ⟨v, m, b, rfl, hv, hb, rfl⟩, k⟩ := h
  refine ⟨_, (pss_one (ps_ret (pe_callTy (k_tuple (K := K)) rfl T.tuple_ bt_tuple (pa_cons (pe_lc (own := [("_law_late", 2)]) rfl sc_law_narrower.nd (kpi_tup (K := K) (pv 0)) (blkOk_by (own := [("_law_late", 2)]) (N := N_law_narrower) (sc := defScope s_law_narrower) (by decide +kernel)) (fun _ _ _ _ _ => (pg_name (i := 2) sc_law_narrower.nd rfl (Or.inl rfl))) (fun _ _ _ _ _ => pts_one (pt_cmpR op_ne (pv 2) (pv 1) (nomark _))) (fun _ _ _ _ _ => (pv 2))) pa_nil)))), ?_⟩
  refine p_ret (ev_tuple (ev_is (em_lcF (c := 0) (it := fun b => nat b) (g := fun b => nat b) (q := fun x => decide (x ≠ b)) (sr_tupM (ev_var rfl hv)) ?_ (fun x => rfl) (fun c A1 H1 x hc w px => vt_is (vt_B (ev_neI (ev_var rfl px) (ev_var rfl (.int (b : Int))))) ?_) fun c A1 H1 x hc w px _ => ev_var rfl px) (by rw [blk_xor hb]))) lv k
  · have := pc_le m
    unfold pc at this
    omega
  · by_cases z : c = b
    · rw [decide_eq_true (by omega), decide_eq_false (fun q => q z)]; rfl
    · rw [decide_eq_false (by omega), decide_eq_true z]; rfl
theorem v_law_narrower {e : Ef} {ta tb : TE} {σ : L2.St} {A : As} {H : Hp} {E : XK} {m b : Nat} (hb : b ∈ blk m) (h : Em e 0 ta σ A H (da (tlot m))) (h2 : Em e 0 tb σ A H (da (nat b))) : Em e 0 (tCall sp_law_narrower [] E (tCons ta (tCons tb tNil))) σ A H (da (tlot (m ^^^ 2 ^ b))) :=
  em_pm (c := 0) (eva_cons h (eva_cons h2 eva_nil)) fun A' H' vs w p => by
    obtain ⟨x, y, rfl, q, q2⟩ := pvs2 p
    obtain rfl := Rp.int_eq q2
    exact ⟨x, m, b, rfl, q, hb, rfl⟩
end
end SB
namespace SB
open PySem PySem.Spec PyProof.Rows L2 LamX
section
variable {e : Ef} {c c1 c2 ct ce : Nat} {K : PySem.W.Frag} {mg : Str → Option Value} {ta tb te tl tk : TE} {tt tu : TT} {σ : L2.St} {A A' : As} {H H' : Hp} {Φ Ψ Θ : Pv} {ds es : List PyData} {n m : Nat} {E : XK} {D : Ends} {i j : Int} {v x : V} {g : TG} {wi : TI}
/-- what is walked, as long as the effect's word holds -/
def SrJ (e : Ef) (c : Nat) (wi : TI) (σ : L2.St) (A : As) (H : Hp) (N : Nat) (It : Nat → Pv) : Prop :=
  ∀ A' H' n, Wl A H A' H' → Cur e A' H' n → n + c ≤ big → ∀ R : L2.It → Hp → Prop, (∀ (J : L2.It) (H2 : Hp) (G : Hp → Prop) (Y : Nat → Hp → V → Hp → Prop), Kp e.B H' H2 → e.J (n + c) H2 → Walk J N G Y → (∀ A3 H3 m, Wl A' H2 A3 H3 → e.J m H3 → G H3) →
    (∀ i A3 H3 m x H4, i < N → Wl A' H2 A3 H3 → Lv A3 H3 → e.J m H3 → Y i H3 x H4 → Kp no H3 H4 ∧ (It i).p A3 H4 x) → R J H2) → wi σ H' R
theorem em_lcJ {wi : TI} {j N : Nat} {vs : List Nat} {It : Nat → Pv} {Tt : Nat → Bool → Prop} {Φ : Nat → Pv} (hs : SrJ e c wi σ A H N It) (hN : N ≤ 100000) (hw : ∀ x, wipe ((wipe σ vs).set j (some x)) vs = wipe σ vs)
    (ht : ∀ i A1 H1 x, i < N → Wl A H A1 H1 → (It i).p A1 H1 x → EmT e ct tt ((wipe σ vs).set j (some x)) A1 H1 (Tt i))
    (he : ∀ i A1 H1 x, i < N → Wl A H A1 H1 → (It i).p A1 H1 x → Tt i true → Em e ce te ((wipe σ vs).set j (some x)) A1 H1 (Φ i)) :
    Em e (c + N * (ct + ce)) (tLc wi (gName j) tt te vs) σ A H (exv (fun f : Nat → Bool => ∀ i, i < N → Tt i (f i)) fun f => lsQ ((List.range N).filter f) Φ) := fun A' H' n w cu hn Q q =>
  hs A' H' n w cu (by omega) _ fun J H2 G Y k2 j2 wk hG hY D hD => by
    have cu2 : Cur e A' H2 (n + c) := cu.aft k2 j2
    have nB : ¬ e.B D := fun z => cu2.lv.fresh hD (cu2.sub D z)
    have c3 : Cur e (Ad A' D) (upd H2 D (.lst [])) (n + c) := cu2.push hD
    have w3 : Wl A' H2 (Ad A' D) (upd H2 D (.lst [])) := .push hD
    have subD : ∀ a, Ad e.B D a → Ad A' D a := fun a z => z.imp (cu.sub a) id
    have mono1 : ∀ i, i < N → (i + 1) * (ct + ce) ≤ N * (ct + ce) := fun i hi => Nat.mul_le_mul_right _ hi
    refine lc_it wk (fun i Hc => ∃ (f : Nat → Bool) (acc : List V), (∀ k, k < i → Tt k (f k)) ∧ Hc D = some (.lst acc) ∧ Paired (fun k x => (Φ k).p (Ad A' D) Hc x) ((List.range i).filter f) acc ∧ Kp (Ad e.B D) (upd H2 D (.lst [])) Hc ∧ e.J (n + c + i * (ct + ce)) Hc)
      ⟨fun _ => true, [], fun k hk => absurd hk (Nat.not_lt_zero k), upd_same, .nil, .refl _, by rw [Nat.zero_mul]; exact c3.j⟩ (fun i Hc _ ⟨f, acc, _, _, _, kk, jj⟩ => hG (Ad A' D) Hc _ (w3.trans (.of kk subD)) jj) ?_ ?_
    · rintro i x Hc H4 hi ⟨f, acc, hf, hacc, hp, kk, jj⟩ y
      have wc : Wl A' H2 (Ad A' D) Hc := w3.trans (.of kk subD)
      have lc : Lv (Ad A' D) Hc := c3.lv.kp kk
      obtain ⟨k4, p4⟩ := hY i (Ad A' D) Hc _ x H4 hi wc lc jj y
      have cuc : Cur e (Ad A' D) Hc (n + c + i * (ct + ce)) := ⟨c3.sub, lc, jj⟩
      have cu4 := cuc.keep k4
      have w4 : Wl A H (Ad A' D) H4 := (w.trans (cu.wl k2)).trans (wc.trans (.of0 k4))
      have m1 := mono1 i hi
      rw [Nat.succ_mul] at m1
      refine ⟨hw x, ht i (Ad A' D) H4 x hi w4 p4 (Ad A' D) H4 _ (.refl _ _) cu4 (by omega) _ fun b H5 k5 j5 t5 => ?_⟩
      have hacc5 : H5 D = some (.lst acc) := k5.1 D _ nB (k4.1 D _ id hacc)
      cases b with
      | true =>
        show te _ H5 _
        refine he i (Ad A' D) H4 x hi w4 p4 t5 (Ad A' D) H5 _ (cu4.wl k5) (cu4.aft k5 j5) (by omega) _ fun y H6 k6 j6 p6 => ?_
        have hacc6 : H6 D = some (.lst acc) := k6.1 D _ nB hacc5
        have hl : acc.length ≤ i := by
          rw [← hp.length]
          refine Nat.le_trans (List.length_filter_le _ _) ?_
          rw [List.length_range]
          exact Nat.le_refl _
        have kf : Kp (Ad e.B D) Hc (upd H6 D (.lst (acc ++ [y]))) := ((k4.any.trans ((k5.trans k6).mono fun a z => .inl z))).trans (.mut (.inr rfl) (by rw [hacc6]; intro _ z; cases z))
        have wf : Wl (Ad A' D) Hc (Ad A' D) (upd H6 D (.lst (acc ++ [y]))) := .of kf subD
        refine ⟨acc, hacc6, sl5 (by omega), fun k => if k = i then true else f k, acc ++ [y], fun k hk => ?_, upd_same, ?_, kk.trans kf, ?_⟩
        · show Tt k (if k = i then _ else f k)
          by_cases z : k = i
          · rw [if_pos z, z]; exact t5
          · rw [if_neg z]; exact hf k (by omega)
        · rw [filter_succ, if_pos (by rw [if_pos rfl]), filter_congr (g := f) fun k hk => if_neg (by omega)]
          exact paired_snoc (Paired.mapP hp fun k x h => (Φ k).up wf h) ((Φ i).up (.of (B := Ad e.B D) (.mut (.inr rfl) (by rw [hacc6]; intro _ z; cases z)) subD) p6)
        · refine Ef.mut nB (fun φ z => by rw [hacc6] at z; cases z) ?_
          have e1 : n + c + (i + 1) * (ct + ce) = n + c + i * (ct + ce) + ct + ce := by rw [Nat.succ_mul]; omega
          rw [e1]
          exact j6
      | false =>
        have kf : Kp (Ad e.B D) Hc H5 := k4.any.trans (k5.mono fun a z => .inl z)
        have wf : Wl (Ad A' D) Hc (Ad A' D) H5 := .of kf subD
        refine ⟨fun k => if k = i then false else f k, acc, fun k hk => ?_, hacc5, ?_, kk.trans kf, ?_⟩
        · show Tt k (if k = i then _ else f k)
          by_cases z : k = i
          · rw [if_pos z, z]; exact t5
          · rw [if_neg z]; exact hf k (by omega)
        · rw [filter_succ, if_neg (by rw [if_pos rfl]; decide), List.append_nil, filter_congr (g := f) fun k hk => if_neg (by omega)]
          exact Paired.mapP hp fun k x h => (Φ k).up wf h
        · refine e.mono ?_ j5
          rw [Nat.succ_mul]
          omega
    · rintro Hc ⟨f, acc, hf, hacc, hp, kk, jj⟩
      have kQ : Kp e.B H2 Hc := ⟨fun a o na ha => kk.1 a o (fun z => z.elim na fun z2 => by rw [z2, hD] at ha; cases ha) (by rw [upd_ne (ne_of_none ha hD)]; exact ha), fun a ha => kk.2 a (by
        by_cases z : a = D
        · rw [z, upd_same]; simp
        · rw [upd_ne z]; exact ha), fun a xs ha => kk.3 a xs (by rw [upd_ne (ne_of_none ha hD)]; exact ha)⟩
      exact q (.ref D) Hc (k2.trans kQ) (by rw [← Nat.add_assoc]; exact jj) ⟨f, hf, D, acc, rfl, cu2.lv.fresh hD, hacc, Paired.mapP hp fun k x h => (Φ k).dn (fun a z => .inl z) h⟩
theorem srJ_keysT {q : Nat} {d : Addr} {od : Obj} {ms : List Nat} {f : Nat → V} {hx : ∀ φ, HO.frz od (.dT (kvm kt f ms)) ≠ .ext φ} (hv : σ[q]? = some (some (.ref d))) : SrJ (eX d (.frz od (.dT (kvm kt f ms))) hx) 0 (iKeys (tVar q)) σ A H ms.length fun i => da (tlot (ms.getD i 0)) := fun A' H' n w cu hn R r => by
  have hd : H' d = some (.frz od (.dT (kvm kt f ms))) := cu.j
  refine ⟨_, hv, d, od, rfl, .inr ⟨_, hd, ?_⟩⟩
  have wk := walk_keysT (d := d) (o := od) (kvs := kvm kt f ms)
  rw [kvm_len] at wk
  refine r _ H' _ _ (.refl _) cu.j wk (fun A3 H3 m w3 j3 => j3) fun i A3 H3 m x H4 hi w3 l3 j3 y => ?_
  obtain ⟨rfl, k, y, p, hk, rfl, hp⟩ := y
  obtain ⟨m, hm, hmem, rfl, rfl⟩ := kvm_at hk
  refine ⟨.refl _, ?_⟩
  have e1 : ms.getD i 0 = m := by rw [List.getD_eq_getElem?_getD, hm]; rfl
  show Rp A3 _ _ (tlot (ms.getD i 0))
  rw [e1]
  exact Rp.tlot_of hp
theorem Wl.ad {d : Addr} (w : Wl A H A' H') : Wl (Ad A d) H (Ad A' d) H' := ⟨⟨fun a o n h => w.kp.1 a o (fun q => n (.inl q)) h, w.kp.2, w.kp.3⟩, fun a q => q.elim (fun z => (w.new a z).imp .inl id) fun z => .inl (.inr z), fun a q => q.imp (w.sub a) id⟩
/-- a dict that is new since H0 -/
def dTn (H0 : Hp) (kvs : List (List Key × V)) : Pv := ⟨fun A H v => ∃ a, v = .ref a ∧ ¬ A a ∧ H0 a = none ∧ H a = some (.dT kvs), fun w ⟨a, h1, h2, h4, h3⟩ => ⟨a, h1, (w.f a _ h2 h3).1, h4, (w.f a _ h2 h3).2⟩, fun w ⟨a, h1, h2, h4, h3⟩ => ⟨a, h1, fun q => h2 (w a q), h4, h3⟩⟩
theorem em_dispT (h : Em e c ta σ A H (da (tlot m))) (h2 : Em e c1 tb σ A H (da (.int i))) : Em e (c + c1) (tDispT ta tb) σ A H (dTn H [(kt m, .int i)]) := fun A' H' n w cu hn Q q => fun p hp => by
  have cu0 : Cur e (Ad A' p) (upd H' p (.dT [])) n := cu.push hp
  refine h (Ad A' p) _ n (w.trans (.push hp)) cu0 (by omega) _ fun x H2 k2 j2 p2 => h2 (Ad A' p) H2 (n + c) ((w.trans (.push hp)).trans (cu0.wl k2)) (cu0.aft k2 j2) (by omega) _ fun y H3 k3 j3 p3 => ?_
  have nB : ¬ e.B p := fun z => cu.lv.fresh hp (cu.sub p z)
  have p2' := (da (tlot m)).up (.of k3 cu0.sub) p2
  obtain ⟨b, rfl, hb⟩ := Rp.tlot_eq p2'
  obtain rfl := Rp.int_eq p3
  have hd3 : H3 p = some (.dT []) := k3.1 p _ nB (k2.1 p _ nB upd_same)
  have kk : Kp e.B H' H3 := ⟨fun a o na ha => (k2.trans k3).1 a o na (by rw [upd_ne (ne_of_none ha hp)]; exact ha), fun a ha => (k2.trans k3).2 a (by
    by_cases z : a = p
    · rw [z, upd_same]; simp
    · rw [upd_ne z]; exact ha), fun a xs ha => (k2.trans k3).3 a xs (by rw [upd_ne (ne_of_none ha hp)]; exact ha)⟩
  refine ⟨hd3, kt m, b, rfl, hb, q (.ref p) _ (kk.fresh hp) (Ef.mut nB (fun φ z => by rw [hd3] at z; cases z) (by rw [← Nat.add_assoc]; exact j3)) ⟨p, rfl, cu.lv.fresh hp, w.kp.none hp, upd_same⟩⟩
theorem em_newT : Em e 0 tDNewT σ A H (dTn H []) := fun A' H' n w cu hn Q q p hp => q (.ref p) _ (.new hp) (cu.new hp).j ⟨p, rfl, cu.lv.fresh hp, w.kp.none hp, upd_same⟩
theorem em_tupRg (h : Em e c ta σ A H (da (nat n))) (hn : n ≤ 100000) : Em e c (tTupRg (tRg1 ta)) σ A H (da (.tuple (nts (List.range n)))) := fun A' H' n' w cu hn' Q q => h A' H' n' w cu hn' _ fun x H2 k2 j2 p2 => by
  obtain rfl := Rp.int_eq p2
  have cu2 := cu.aft k2 j2
  refine ⟨_, rfl, .of_le (by omega) (by omega) (by omega) (by omega), fun p hp => q (.ref p) _ (k2.trans (.new hp)) (cu2.new (o := .tup (rgV 0 n)) hp).j (.tup upd_same ?_)⟩
  have e1 : rgV 0 (n : Int) = (List.range n).map fun b : Nat => V.int b := by
    unfold rgV
    rw [Int.sub_zero, Int.toNat_natCast]
    refine List.map_congr_left fun b _ => ?_
    rw [Int.zero_add]
  rw [e1]
  exact rpa_nts _
/-- a comprehension over a dict that stands still meanwhile; its keys are tuples -/
theorem ev_lcT {q j : Nat} {d : Addr} {ms vs : List Nat} {f : Nat → V} {g : Nat → PyData} {qf : Nat → Bool} (hv : σ[q]? = some (some (.ref d))) (hA : ¬ A d) (hd : H d = some (.dT (kvm kt f ms))) (hN : ms.length ≤ 100000) (hw : ∀ x, wipe ((wipe σ vs).set j (some x)) vs = wipe σ vs)
    (ht : ∀ od (hx : ∀ φ, HO.frz od (.dT (kvm kt f ms)) ≠ .ext φ) b A1 H1 x, b ∈ ms → Wl (Ad A d) H A1 H1 → Rp A1 H1 x (tlot b) → EmT (eX d (.frz od (.dT (kvm kt f ms))) hx) 0 tt ((wipe σ vs).set j (some x)) A1 H1 (qf b = ·))
    (he : ∀ od (hx : ∀ φ, HO.frz od (.dT (kvm kt f ms)) ≠ .ext φ) b A1 H1 x, b ∈ ms → Wl (Ad A d) H A1 H1 → Rp A1 H1 x (tlot b) → qf b = true → Em (eX d (.frz od (.dT (kvm kt f ms))) hx) 0 te ((wipe σ vs).set j (some x)) A1 H1 (da (g b))) :
    Ev (tLockE (tLc (iKeys (tVar q)) (gName j) tt te vs)) σ A H (da (.list ((ms.filter qf).map g))) := fun A' H' n w cu hn Q k => by
  obtain ⟨hA', hd'⟩ := w.f d _ hA hd
  refine ⟨d, _, hd', True.intro, fun od => ?_⟩
  have hx : ∀ φ, HO.frz od (.dT (kvm kt f ms)) ≠ .ext φ := fun φ z => by cases z
  have lv0 : Lv (Ad A' d) (upd H' d (.frz od (.dT (kvm kt f ms)))) := fun a z => by
    by_cases y : a = d
    · rw [y, upd_same]; simp
    · rw [upd_ne y]; exact cu.lv a (z.elim id fun y2 => absurd y2 y)
  have cu0' : Cur (eX d (.frz od (.dT (kvm kt f ms))) hx) (Ad A' d) (upd H' d (.frz od (.dT (kvm kt f ms)))) 0 := ⟨fun a z => .inr z, lv0, upd_same⟩
  have w0 : Wl (Ad A d) H (Ad A' d) (upd H' d (.frz od (.dT (kvm kt f ms)))) := (Wl.ad w).trans (.of (.lock hd' (by simp)) fun a z => .inr z)
  have hl := em_lcJ (e := eX d (.frz od (.dT (kvm kt f ms))) hx) (c := 0) (ct := 0) (ce := 0) (σ := σ) (A := Ad A' d) (H := upd H' d (.frz od (.dT (kvm kt f ms)))) (Tt := fun i b => qf (ms.getD i 0) = b) (Φ := fun i => da (g (ms.getD i 0))) (srJ_keysT hv) hN hw (fun i A1 H1 x hi w1 px => ht od hx _ A1 H1 x (getD_mem hi) (w0.trans w1) px) fun i A1 H1 x hi w1 px h => he od hx _ A1 H1 x (getD_mem hi) (w0.trans w1) px h
  rw [Nat.mul_zero] at hl
  refine hl (Ad A' d) _ 0 (.refl _ _) cu0' (by decide) _ fun v H5 k5 j5 ⟨ff, hf, p5⟩ => ?_
  have j5 : H5 d = some (.frz od (.dT (kvm kt f ms))) := j5
  have p6 := lsQ_da p5
  rw [filter_congr (g := fun i => qf (ms.getD i 0)) fun k hk => (hf k hk).symm, filter_range] at p6
  have kk : Kp e0.B H' (upd H5 d (.dT (kvm kt f ms))) := .back (f := .frz od (.dT (kvm kt f ms))) (hf := by simp) hd' (k5.mono fun a z => .inr z)
  exact ⟨j5, k v _ kk trivial (((da _).up (Wl.of (B := (· = d)) (.mut rfl (by rw [j5]; simp)) fun a z => .inr z) p6).dn fun a z => .inl z)⟩
end
/-! ### what lies ahead of a lot: an order from nothing within b -/
inductive Rf (bs : List Nat) (b : Nat) : Nat → Prop
  | zero : held bs 0 ≤ b → Rf bs b 0
  | step {m x : Nat} : Rf bs b m → x < bs.length → m.testBit x = false → (m ||| 2 ^ x = 2 ^ bs.length - 1 ∨ held bs (m ||| 2 ^ x) ≤ b) → Rf bs b (m ||| 2 ^ x)
theorem not_whole {n m x : Nat} (hx : x < n) (h : m.testBit x = false) : m ≠ 2 ^ n - 1 := fun z => by
  rw [z, whole_bits hx] at h
  cases h
theorem Rf.low {bs : List Nat} {b m : Nat} (h : Rf bs b m) (hm : m ≠ 2 ^ bs.length - 1) : held bs m ≤ b := by
  cases h with
  | zero h => exact h
  | step h h1 h2 h3 => exact h3.elim (fun z => absurd z hm) id
theorem Rf.back {bs : List Nat} {b m : Nat} (h : Rf bs b m) : Rb bs b m → Rb bs b 0 := by
  induction h with
  | zero h => exact id
  | @step m x h h1 h2 h3 ih => exact fun q => ih (.step (h.low (not_whole h1 h2)) h1 h2 q)
theorem Rb.low {bs : List Nat} {b m : Nat} (h : Rb bs b m) : m = 2 ^ bs.length - 1 ∨ held bs m ≤ b := by
  cases h with
  | top => exact .inl rfl
  | step h _ _ _ => exact .inr h
theorem Rb.forw {bs : List Nat} {b m : Nat} (h : Rb bs b m) : Rf bs b m → Rf bs b (2 ^ bs.length - 1) := by
  induction h with
  | top => exact id
  | @step m x h h1 h2 h3 ih => exact fun q => ih (.step q h1 h2 h3.low)
theorem rf_rb {bs : List Nat} {b : Nat} (h1 : 1 ≤ bs.length) : Rf bs b (2 ^ bs.length - 1) ↔ Rb bs b 0 := by
  refine ⟨fun h => h.back .top, fun h => h.forw (.zero ?_)⟩
  have := Nat.pow_le_pow_right (n := 2) (by decide) h1
  exact h.low.elim (fun z => by omega) id
def IsF (bs : List Nat) (m w : Nat) : Prop := ∀ b, w ≤ b ↔ Rf bs b m
theorem IsF.uniq {bs : List Nat} {m w v : Nat} (h : IsF bs m w) (h2 : IsF bs m v) : w = v := by
  have a := (h v).mpr ((h2 v).mp (Nat.le_refl _))
  have b := (h2 w).mpr ((h w).mp (Nat.le_refl _))
  omega
open Classical in
noncomputable def Ff (bs : List Nat) (m : Nat) : Nat := if h : ∃ w, IsF bs m w then h.choose else 0
theorem Ff.eq {bs : List Nat} {m w : Nat} (h : IsF bs m w) : Ff bs m = w := by
  unfold Ff
  rw [dif_pos ⟨w, h⟩]
  exact (Exists.choose_spec (⟨w, h⟩ : ∃ w, IsF bs m w)).uniq h
def Wf (bs : List Nat) (m : Nat) : Prop := IsF bs m (Ff bs m)
theorem Wf.of {bs : List Nat} {m w : Nat} (h : IsF bs m w) : Wf bs m := by
  unfold Wf
  rw [Ff.eq h]
  exact h
theorem isF_zero {bs : List Nat} : IsF bs 0 (held bs 0) := fun b => ⟨fun h => .zero h, fun h => by
  generalize hz : 0 = z at h
  cases h with
  | zero h => exact h
  | @step m x h h1 h2 h3 =>
    have : (m ||| 2 ^ x).testBit x = true := by rw [or_bit]; simp
    rw [← hz] at this
    simp at this⟩
theorem xor_or {m x : Nat} (h : m.testBit x = true) : (m ^^^ 2 ^ x) ||| 2 ^ x = m := Nat.eq_of_testBit_eq fun y => by
  rw [or_bit, Nat.testBit_xor, Nat.testBit_two_pow]
  by_cases z : x = y
  · subst z; simp [h]
  · simp [z]
theorem or_xor {m x : Nat} (h : m.testBit x = false) : (m ||| 2 ^ x) ^^^ 2 ^ x = m := Nat.eq_of_testBit_eq fun y => by
  rw [Nat.testBit_xor, or_bit, Nat.testBit_two_pow]
  by_cases z : x = y
  · subst z; simp [h]
  · simp [z]
theorem xor_bit {m x : Nat} (h : m.testBit x = true) : (m ^^^ 2 ^ x).testBit x = false := by
  rw [Nat.testBit_xor, Nat.testBit_two_pow, h]
  simp
theorem xor_lt2 {n m x : Nat} (hm : m < 2 ^ n) (hx : x < n) : m ^^^ 2 ^ x < 2 ^ n := Nat.xor_lt_two_pow hm (pow_lt8 hx)
theorem isF_step {bs : List Nat} (ok : okB bs) {m w : Nat} (h0 : 0 < m) (hm : m < 2 ^ bs.length) (hw : ∃ x ∈ blk m, w = Ff bs (m ^^^ 2 ^ x)) (hl : ∀ x ∈ blk m, w ≤ Ff bs (m ^^^ 2 ^ x)) (hd : ∀ x ∈ blk m, Wf bs (m ^^^ 2 ^ x)) :
    IsF bs m (if m = 2 ^ bs.length - 1 then w else max w (held bs m)) := fun b => by
  have lt : ∀ x ∈ blk m, x < bs.length := fun x hx => by
    rcases Nat.lt_or_ge x bs.length with q | q
    · exact q
    · have := Nat.testBit_lt_two_pow (Nat.lt_of_lt_of_le hm (Nat.pow_le_pow_right (n := 2) (by decide) q))
      rw [(blk_mem.mp hx).2] at this
      cases this
  have key : Rf bs b m ↔ w ≤ b ∧ (m = 2 ^ bs.length - 1 ∨ held bs m ≤ b) := by
    constructor
    · intro h
      cases h with
      | zero h => exact absurd h0 (Nat.lt_irrefl 0)
      | @step m' x h h1 h2 h3 =>
        have h7 := ok.n7
        have hx : x ∈ blk (m' ||| 2 ^ x) := blk_mem.mpr ⟨by omega, by rw [or_bit]; simp⟩
        have h4 := hd x hx
        have h5 := hl x hx
        rw [or_xor h2] at h4 h5
        exact ⟨Nat.le_trans h5 ((h4 b).mpr h), h3⟩
    · rintro ⟨h1, h2⟩
      obtain ⟨x, hx, rfl⟩ := hw
      have hb := (blk_mem.mp hx).2
      have := Rf.step ((hd x hx b).mp h1) (lt x hx) (xor_bit hb) (by rw [xor_or hb]; exact h2)
      rw [xor_or hb] at this
      exact this
  rw [key]
  by_cases z : m = 2 ^ bs.length - 1
  · rw [if_pos z]
    exact ⟨fun h => ⟨h, .inl z⟩, fun h => h.1⟩
  · rw [if_neg z]
    constructor
    · intro h
      exact ⟨by omega, .inr (by omega)⟩
    · rintro ⟨h1, h2⟩
      have := h2.elim (fun q => absurd q z) id
      omega
/-! pairs of a size and a lot, sorted -/
abbrev pairD (m : Nat) : PyData := .tuple [nat (pc m), tlot m]
theorem pair_alike (a b : Nat) : PySem.W.alike (pairD a) (pairD b) = true := by
  simp only [PySem.W.alike, PySem.W.alikeAll, Bool.true_and, Bool.and_true]
  exact alike_nts _ _
theorem pair_lt {a b : Int} {xs ys : List PyData} (h : a < b) : PySem.W.dataLt (.tuple (.int a :: xs)) (.tuple (.int b :: ys)) = true := by
  rw [PySem.W.dataLt_tuple]
  have h2 := PySem.W.dataLt_int a b
  rw [decide_eq_true h] at h2
  unfold PySem.W.dataLt at h2
  simp only [PySem.W.keyToks] at h2
  simp only [PySem.W.toks_all_cons, PySem.W.keyToks, List.cons_append, List.nil_append]
  exact (PySem.W.lex_pre [.inl 1] _ _).trans ((PySem.W.lex_atom (by simp; omega) _ _).trans h2)
theorem lay_pairs : ∀ ms : List Nat, PyData.canLayAll0 (ms.map pairD) = true
  | [] => by simp [PyData.canLayAll0]
  | m :: ms => by
    have h := lay_pairs ms
    have h2 := lay_nts (blk m)
    rw [List.map_cons, PyData.canLayAll0, Bool.and_eq_true]
    refine ⟨?_, h⟩
    simp only [PyData.canLay0, PyData.canLayAll0, Bool.true_and, Bool.and_true]
    exact h2
theorem dep_pair (m : Nat) : (pairD m).depth ≤ 4 := by
  have := dep_nts (blk m)
  simp only [PyData.depth, PyData.depthAll]
  omega
def mkP : PyData → Nat
  | .tuple [_, .tuple ds] => bitsOf (ds.map fun d => (iv d).toNat)
  | _ => 0
theorem mkP_pair {m : Nat} (hm : m < 256) : mkP (pairD m) = m := by
  show bitsOf ((nts (blk m)).map fun d => (iv d).toNat) = m
  rw [iv_nts, bitsOf_blk hm]
theorem perm_of_map {g : Nat → PyData} {inv : PyData → Nat} {es : List PyData} {ms : List Nat} (hi : ∀ m ∈ ms, inv (g m) = m) (h : es.Perm (ms.map g)) : ∃ l : List Nat, l.Perm ms ∧ es = l.map g := by
  refine ⟨es.map inv, ?_, ?_⟩
  · have := h.map inv
    rw [List.map_map] at this
    have z : ∀ m ∈ ms, (inv ∘ g) m = id m := fun m hq => hi m hq
    rw [List.map_congr_left z, List.map_id] at this
    exact this
  · rw [List.map_map, List.map_congr_left (g := id), List.map_id]
    intro d hd
    obtain ⟨m, hq, rfl⟩ := List.mem_map.mp (h.mem_iff.mp hd)
    show g (inv (g m)) = g m
    rw [hi m hq]
/-- all lots by their sizes, nothing first -/
theorem by_size {n : Nat} (hn : n ≤ 7) {l : List Nat} (hp : l.Perm (List.range (2 ^ n))) (hs : l.Pairwise fun a b => pc a ≤ pc b) : ∃ r, l = 0 :: r := by
  have h0 : 0 ∈ l := hp.mem_iff.mpr (List.mem_range.mpr (Nat.two_pow_pos n))
  cases l with
  | nil => cases h0
  | cons a r =>
    refine ⟨r, ?_⟩
    rcases List.mem_cons.mp h0 with z | z
    · rw [← z]
    · have h1 := (List.pairwise_cons.mp hs).1 0 z
      rw [pc_zero] at h1
      have ha : a < 2 ^ n := List.mem_range.mp (hp.mem_iff.mp List.mem_cons_self)
      have hpow : 2 ^ n ≤ 2 ^ 7 := Nat.pow_le_pow_right (n := 2) (by decide) hn
      have : a = 0 := by
        rcases Nat.eq_zero_or_pos a with q | q
        · exact q
        · have := pc_step (by omega : a < 256) q
          omega
      rw [this]
theorem pc_whole {n m : Nat} (hn : n ≤ 8) (hm : m < 2 ^ n) : pc m = n ↔ m = 2 ^ n - 1 := by
  have h := all2 (p := fun n m => decide (m < 2 ^ n → (pc m = n ↔ m = 2 ^ n - 1))) (n := 9) (k := 256) (by decide +kernel) (show n < 9 by omega) (show m < 2 ^ 8 from Nat.lt_of_lt_of_le hm (Nat.pow_le_pow_right (n := 2) (by decide) hn))
  exact of_decide_eq_true h hm
theorem blk_whole {n : Nat} (hn : n ≤ 8) : blk (2 ^ n - 1) = List.range n := by
  have h := List.all_eq_true.mp (show (List.range 9).all (fun n => decide (blk (2 ^ n - 1) = List.range n)) = true by decide +kernel) n (List.mem_range.mpr (by omega))
  exact of_decide_eq_true h
theorem cutD_one {α : Type} (l : List α) : cutD l (some 1) none = l.drop 1 := by
  have e1 : HT.sIx l.length 0 (some 1) = min 1 l.length := HT.sIx_nat _ _ 1
  have e2 : HT.sIx l.length l.length none = l.length := rfl
  unfold cutD
  rw [e1, e2]
  cases l with
  | nil => rfl
  | cons a l =>
    rw [List.length_cons, Nat.min_eq_left (by omega), Nat.add_sub_cancel]
    exact List.take_length
section
variable {K : PySem.W.Frag} {mg : Str → Option Value} {P : Program} {w : World} {base : Heap}
/-! _law_least_width -/
abbrev sp_law_least_width : Sp := Pm fun A H vs Θ => ∃ v x old rows, vs = [v, x] ∧ Rp A H v (recD old rows) ∧ okR old rows ∧ (holdsP (bitsR rows)).p A H x ∧ Θ = wdP (bitsR rows)
abbrev s_law_least_width : Stmt := top 52
abbrev N_law_least_width : List Str := ["_law_recipe_here", "_law_holds_here", "_law_many", "_law_found", "_law_size", "_law_lot", "_law_ahead", "_law_block"]
theorem sc_law_least_width : FnScope N_law_least_width ["_law_recipe_here", "_law_holds_here"] (defScope s_law_least_width) := ⟨rfl, rfl, rfl, by decide +kernel, rfl, by decide +kernel, by decide +kernel⟩
theorem c_law_least_width (T : Tx K mg) : C8.Cal P w K mg base 2 "_law_least_width" sp_law_least_width [] := by
  refine mkCal T 39 45 rfl rfl sc_law_least_width (fun _ _ _ _ _ _ us hl => match us, hl with | [_, _], _ => rfl) (fun vs H Q E h => ?_) (fun f cdv A outer s H vs Q E hr h => ?_)
  · obtain ⟨A, Θ, _, ⟨v, _, _, _, rfl, _⟩, _⟩ := h
    rfl
  obtain ⟨A, Θ, lv, ⟨v, x, old, rows, rfl, hv, okr, hx, rfl⟩, k⟩ := h
  have c_law_narrower := c_law_narrower (P := P) (w := w) (base := base) T
  refine ⟨_, (pss_cons (ps_set (i := 2) sc_law_least_width.nd rfl (Or.inl rfl) (pe_callB (k_len (K := K)) rfl T.len_ bt_len (pa_cons (pe_ix (kix_list (K := K)) (pv 0) pe_int (fun _ _ => rfl)) pa_nil)))
  (pss_cons (ps_set (i := 3) sc_law_least_width.nd rfl (Or.inr rfl) (pe_dispT (Room.units hr) (pe_tup pa_nil) (pe_dget (u1 hr) (pv 1) (pe_tup pa_nil) (fun _ _ => rfl))))
  (pss_cons (ps_for PassesOwn.never rfl (kpi_list (K := K) (pe_slice (ksl_list (K := K)) (pe_callB (k_sortedD (K := K) (Room.units hr)) rfl T.sorted_ bt_sorted (pa_cons (pe_lock (pe_lc (own := [("_law_lot", 5)]) rfl sc_law_least_width.nd (pi_keys (pv 1)) (blkOk_by (own := [("_law_lot", 5)]) (N := N_law_least_width) (sc := defScope s_law_least_width) (by decide +kernel)) (fun _ _ _ _ _ => (pg_name (i := 5) sc_law_least_width.nd rfl (Or.inl rfl))) (fun _ _ _ _ _ => pts_nil) (fun _ _ _ _ _ => (pe_tup (pa_cons (pe_callB (k_len (K := K)) rfl T.len_ bt_len (pa_cons (pv 5) pa_nil)) (pa_cons (pv 5) pa_nil)))))) pa_nil)) (po_some pe_int) po_none)) (kpg_tup (K := K) rfl (pgs_cons (pg_name (i := 4) sc_law_least_width.nd rfl (Or.inl rfl)) (pgs_cons (pg_name (i := 5) sc_law_least_width.nd rfl (Or.inr rfl)) pgs_nil))) (pss_cons (ps_set (i := 6) sc_law_least_width.nd rfl (Or.inl rfl) (pe_callB (k_min (K := K) rfl) rfl T.min_ bt_min (pa_cons (pe_lc (own := [("_law_block", 7)]) rfl sc_law_least_width.nd (kpi_tup (K := K) (pv 5)) (blkOk_by (own := [("_law_block", 7)]) (N := N_law_least_width) (sc := defScope s_law_least_width) (by decide +kernel)) (fun _ _ _ _ _ => (pg_name (i := 7) sc_law_least_width.nd rfl (Or.inl rfl))) (fun _ _ _ _ _ => pts_nil) (fun _ _ _ _ _ => (pe_dget (u1 hr) (pv 3) (C8.pe_c c_law_narrower hr (by decide) rfl (pa_cons (pv 5) (pa_cons (pv 7) pa_nil))) (fun _ _ => rfl)))) pa_nil)))
  (pss_one (ps_dput (u1 hr) (pv 3) (pv 5) (pe_ifExp (pt_cmpR op_eq (pv 4) (pv 2) (nomark _)) (pv 6) (pe_callB (k_max2 rfl) rfl T.max_ bt_max (pa_cons (pv 6) (pa_cons (pe_dget (u1 hr) (pv 1) (pv 5) (fun _ _ => rfl)) pa_nil)))) rfl))))
  (pss_one (ps_ret (pe_dget (u1 hr) (pv 3) (pe_tupRg rfl rfl T.tuple_ (prg_1 rfl T.range_ (pv 2))) (fun _ _ => rfl))))))), ?_⟩
  have ok := okr.b
  have h7 := okr.n7
  have h1n := okr.n1
  have eb : (bitsR rows).length = rows.length := List.length_map _
  generalize hbs : bitsR rows = bs at *
  have hpow : 2 ^ bs.length ≤ 2 ^ 7 := Nat.pow_le_pow_right (n := 2) (by decide) (by omega)
  obtain ⟨ms, hms, hxT⟩ := hx
  obtain ⟨dh, rfl, hdA, hdh⟩ := hxT
  have mm : ∀ m, m ∈ ms ↔ m < 2 ^ bs.length := fun m => by rw [hms.mem_iff, List.mem_range]
  have ms8 : ∀ m ∈ ms, m < 256 := fun m hm => by have := (mm m).mp hm; omega
  have hml : ms.length ≤ 128 := by rw [hms.length_eq, List.length_range]; exact hpow
  have z0 : 0 ∈ ms := (mm 0).mpr (Nat.two_pow_pos _)
  have hT : ∀ {A' H'}, Wl A H A' H' → (dTv (kvm kt (fH bs) ms)).p A' H' (.ref dh) := fun w => (dTv _).up w ⟨dh, rfl, hdA, hdh⟩
  refine z_asg (e := e0) (n := 0) (Φ := da (nat bs.length)) (ev_is (ev_len (ev_ixL (ev_var rfl hv) ev_int rec_rows)) (by rw [List.length_map, eb])) (cur0 lv) (by decide) fun v2 H1 k1 cu1 p1 => ?_
  obtain rfl := Rp.int_eq p1
  have w1 : Wl A H A H1 := .k0 k1
  refine z_asg (em_dispT (c := 0) (c1 := 0) (m := 0) (i := (held bs 0 : Int)) (ev_tupD evd_nil (by decide)) (em_dGetT (c := 0) (c1 := 0) (m := 0) (Θ := da (.int (held bs 0 : Int))) (ev_var rfl (hT w1)) (ev_tupD evd_nil (by decide)) ms8 z0 fun _ _ => .int _)) cu1 (by decide) fun v3 H2 k2 cu2 p2 => ?_
  obtain ⟨d, rfl, nd, hd0, hd⟩ := p2
  have hB : ¬ e0.B d := id
  have w2 : Wl A H (Ad A d) H2 := w1.trans (cu1.wlN k2 hd0)
  have e1 : ([(kt 0, V.int (held bs 0))] : List (List Key × V)) = kvm kt (fun m => .int (Ff bs m)) [0] := by
    unfold kvm
    rw [List.map_cons, List.map_nil]
    show _ = [(kt 0, V.int (Ff bs 0))]
    rw [Ff.eq isF_zero]
  rw [e1] at hd
  have cuY : Cur (eY e0 d (.dT (kvm kt (fun m => .int (Ff bs m)) [0]))) (Ad A d) H2 0 := (cu2.ad hd).own (hx := by simp) hd (.inr rfl)
  dsimp only
  refine seq_for ?_
  have hC : Ev (tLockE (tLc (iKeys (tVar 1)) (gName 5) tYes (tTup (tCons (tCB (r_len K) (tCons (tVar 5) tNil)) (tCons (tVar 5) tNil))) [5])) [some v, some (.ref dh), some (.int (bs.length : Int)), some (.ref d), none, none, none, none] (Ad A d) H2 (da (.list (ms.map pairD))) := by
    obtain ⟨dh', hz, hA2, hH2⟩ := hT w2
    cases hz
    have := ev_lcT (σ := [some v, some (.ref dh), some (.int (bs.length : Int)), some (.ref d), none, none, none, none]) (q := 1) (j := 5) (vs := [5]) (g := pairD) (qf := fun _ => true) (tt := tYes) (te := tTup (tCons (tCB (r_len K) (tCons (tVar 5) tNil)) (tCons (tVar 5) tNil))) rfl hA2 hH2 (by omega) (fun x => rfl) (fun od hx b A1 H1 x hb w px => et_yes) fun od hx b A1 H1 x hb w px _ => ev_tupD (evd_cons (ev_is (ev_lenT (ev_var (i := 5) rfl px)) (by rw [List.length_map]; rfl)) (evd_cons (ev_var (i := 5) rfl px) evd_nil)) (show (2 : Nat) ≤ 100000 by decide)
    rw [List.filter_eq_self.mpr fun _ _ => rfl] at this
    exact this
  have hS := em_sortedD (K := K) (e := eY e0 d (.dT (kvm kt (fun m => .int (Ff bs m)) [0]))) (c := 0) hC.em (.of pair_alike) (.tuples fun m => ⟨_, _, rfl⟩) (fun d hd => by
    obtain ⟨m, _, rfl⟩ := List.mem_map.mp hd
    have := dep_pair m
    omega) (lay_pairs ms)
  refine ev_bind (Φ := exv (fun l : List Nat => l.Perm ms ∧ l.Pairwise fun a b => pc a ≤ pc b) fun l => da (.list (l.map pairD))) (Θ := exv (fun l : List Nat => l.Perm ms ∧ l.Pairwise fun a b => pc a ≤ pc b) fun l => da (.list ((l.drop 1).map pairD))) (F := fun x => tSl (rSlL K) (tC x) (tPart (tC (.int 1))) tNoPart) (hS.imp fun A' H' v _ ⟨es, ⟨hp, hs⟩, p⟩ => ?_) (fun A' H' x _ ⟨l, hl, p⟩ => ?_) (Ad A d) H2 0 (.refl _ _) cuY (by decide) _ fun v4 H3 k3 j3 p3 => ?_
  · obtain ⟨l, hl, rfl⟩ := perm_of_map (inv := mkP) (fun m hm => mkP_pair (ms8 m hm)) hp
    refine ⟨l, ⟨hl, ?_⟩, p⟩
    rw [List.pairwise_map] at hs
    refine hs.imp fun {a b} h => ?_
    rcases Nat.lt_or_ge (pc b) (pc a) with q | q
    · have : PySem.W.dataLt (pairD b) (pairD a) = true := pair_lt (by omega)
      rw [this] at h
      cases h
    · exact q
  · refine (ev_slL (ev_c p) (evo_some ev_int) evo_none).imp fun A' H' v _ q => ⟨l, hl, ?_⟩
    rw [cutD_map] at q
    rw [cutD_one] at q
    exact q
  obtain ⟨l, ⟨hl, hls⟩, p3⟩ := p3
  have hlr : l.Perm (List.range (2 ^ bs.length)) := hl.trans hms
  obtain ⟨r, rfl⟩ := by_size (by omega) hlr hls
  have p3 : Rp (Ad A d) H3 v4 (.list (r.map pairD)) := p3
  have lm : ∀ m, m ∈ 0 :: r ↔ m < 2 ^ bs.length := fun m => by rw [hlr.mem_iff, List.mem_range]
  have hnd : (0 :: r).Nodup := hlr.nodup_iff.mpr List.nodup_range
  have cu3 := cuY.aft k3 j3
  have w3 : Wl A H (Ad A d) H3 := w2.trans (.of k3 cuY.sub)
  refine z_forE (e1 := eY e0 d (.dT (kvm kt (fun m => .int (Ff bs m)) [0]))) (e := eW e0 d) (A := Ad A d) (n := 0) (fun i σ' H' => ∃ x4 x5 x6, σ' = [some v, some (.ref dh), some (.int (bs.length : Int)), some (.ref d), x4, x5, x6, none] ∧ H' d = some (.dT (kvm kt (fun m => .int (Ff bs m)) (0 :: r.take i))) ∧ ∀ m ∈ 0 :: r.take i, Wf bs m)
    (sr_listM (it := pairD) (ev_c p3)) cu3 (by decide) (fun _ h => h) (fun _ _ _ _ ⟨x4, x5, x6, h1, h2, h3⟩ kk => ⟨x4, x5, x6, h1, kk.1 d _ id h2, h3⟩) (fun H4 k4 c4 => ⟨⟨none, none, none, rfl, c4.at, fun m hm => by
      rw [List.take_zero, List.mem_singleton] at hm
      subst hm
      exact .of isF_zero⟩, c4.toW⟩) (fun H4 i σ' H' y k4 hi ⟨x4, x5, x6, hσ, hdk, hW⟩ k5 cu5 px => ?_) (fun σ' H' ⟨x4, x5, x6, hσ, hdk, hW⟩ k4 cu4 => ?_)
  · subst hσ
    have hi2 : i < r.length := hi
    have hmi : r[i]? = some (r.getD i 0) := by rw [List.getD_eq_getElem?_getD, List.getElem?_eq_getElem hi2]; rfl
    have hmem : r.getD i 0 ∈ r := getD_mem hi2
    have px : Rp (Ad A d) H' y (pairD (r.getD i 0)) := px
    generalize r.getD i 0 = m at *
    obtain ⟨hn1, hn2⟩ := List.nodup_cons.mp hnd
    have hm0 : 0 < m := Nat.pos_of_ne_zero fun z => hn1 (z ▸ hmem)
    have hm : m < 2 ^ bs.length := (lm m).mp (List.mem_cons_of_mem _ hmem)
    have hm8 : m < 256 := by omega
    have ps8 : ∀ k ∈ 0 :: r.take i, k < 256 := fun k hk => by
      rcases List.mem_cons.mp hk with z | z
      · omega
      · have := (lm k).mp (List.mem_cons_of_mem _ (List.mem_of_mem_take z))
        omega
    have hsr := (List.pairwise_cons.mp hls).2
    have narrow : ∀ x ∈ blk m, m ^^^ 2 ^ x ∈ 0 :: r.take i := fun x hx => by
      have hb := (blk_mem.mp hx).2
      have hx8 := blk_lt hx
      have hxn : x < bs.length := by
        rcases Nat.lt_or_ge x bs.length with q | q
        · exact q
        · have := Nat.testBit_lt_two_pow (Nat.lt_of_lt_of_le hm (Nat.pow_le_pow_right (n := 2) (by decide) q))
          rw [hb] at this
          cases this
      have hlt := xor_lt2 hm hxn
      have hpc := pc_or (by omega : m ^^^ 2 ^ x < 256) hx8 (xor_bit hb)
      rw [xor_or hb] at hpc
      rcases List.mem_cons.mp ((lm _).mpr hlt) with z | z
      · rw [z]; exact List.mem_cons_self
      · obtain ⟨j, hj, hj2⟩ := List.mem_iff_getElem.mp z
        have hji : j < i := by
          rcases Nat.lt_trichotomy j i with q | q | q
          · exact q
          · exfalso
            subst q
            rw [List.getElem?_eq_getElem hj, hj2] at hmi
            have := Option.some.inj hmi
            rw [this] at hpc
            omega
          · exfalso
            have := List.pairwise_iff_getElem.mp hsr i j hi2 hj q
            rw [hj2] at this
            have e3 : r[i] = m := by
              have := hmi
              rw [List.getElem?_eq_getElem hi2] at this
              exact Option.some.inj this
            rw [e3] at this
            omega
        refine List.mem_cons_of_mem _ ?_
        rw [← hj2]
        exact List.mem_take_iff_getElem.mpr ⟨j, by omega, rfl⟩
    refine g_pair px fun x1 x2 q1 q2 => ?_
    obtain rfl := Rp.int_eq q1
    dsimp only
    have SX : Sube (eX d (.dT (kvm kt (fun m => .int (Ff bs m)) (0 :: r.take i))) (by simp)) (eY e0 d (.dT (kvm kt (fun m => .int (Ff bs m)) (0 :: r.take i)))) := .ox hB
    have cuX : Cur (eY e0 d (.dT (kvm kt (fun m => .int (Ff bs m)) (0 :: r.take i)))) (Ad A d) H' 0 := cu5.toX hdk
    have wX : Wl A H (Ad A d) H' := w3.trans (.of (k4.trans k5) cu5.sub)
    refine z_asg (ev_min (ns := (blk m).map fun x => ((Ff bs (m ^^^ 2 ^ x) : Nat) : Int)) (ev_is (em_lcM (c := 0) (it := fun b => nat b) (g := fun x => nat (Ff bs (m ^^^ 2 ^ x))) (sr_tupM (ev_var rfl q2)) ?_ (fun x => rfl) fun b A1 H6 y hb w px => em_dGetO (c := 0) (c1 := 0) (m := m ^^^ 2 ^ b) SX (.inl rfl) (ev_var rfl rfl) (v_law_narrower hb (ev_var (i := 5) rfl (q2.up w)) (ev_var (i := 7) rfl px)) ps8 (narrow b hb) fun _ _ => .int _) ?_) ?_) cuX (by decide) fun v6 H6 k6 cu6 p6 => ?_
    · have := pc_le m
      unfold pc at this
      omega
    · rw [List.map_map]; rfl
    · rw [List.length_map]
      have : 0 < pc m := by
        have := pc_step hm8 hm0
        omega
      exact this
    obtain ⟨wv, ⟨hw1, hw2⟩, p6⟩ := p6
    obtain ⟨x0, hx0, rfl⟩ := List.mem_map.mp hw1
    obtain rfl := Rp.int_eq p6
    have hWm := isF_step ok hm0 hm ⟨x0, hx0, rfl⟩ (fun x hx => by
      have := hw2 _ (List.mem_map_of_mem hx)
      omega) fun x hx => hW _ (narrow x hx)
    have q6 : Rp (Ad A d) H6 x2 (tlot m) := q2.up (cuX.wl k6)
    have hnm : m ∉ 0 :: r.take i := fun z => by
      rcases List.mem_cons.mp z with q | q
      · omega
      · obtain ⟨j, hj, hj2⟩ := List.mem_take_iff_getElem.mp q
        have := List.pairwise_iff_getElem.mp hn2 j i (by omega) hi2 (by omega)
        rw [List.getElem?_eq_getElem hi2] at hmi
        exact this (hj2.trans (Option.some.inj hmi).symm)
    refine z_dputT (m := m) (Φ := da (.int (Ff bs m))) (ev_if (T := (decide ((pc m : Int) = (bs.length : Int)) = ·)) (vt_B (ev_eqI (ev_var rfl (.int _)) (ev_var rfl (.int _)))) (fun hz => ev_is (ev_var rfl (.int _)) ?_) fun hz => ev_is (ev_max2 (ev_var rfl (.int _)) (em_dGetT (c := 0) (c1 := 0) (m := m) (Θ := da (.int (held bs m : Int))) (ev_var rfl (hT (wX.trans (cuX.wl k6)))) (ev_var rfl q6) ms8 ((mm m).mpr hm) fun _ _ => .int _)) ?_) (fun _ _ => ev_var rfl rfl) (fun Hz kz => ev_var rfl (q6.up (cu6.wl kz))) cu6 (by decide) hB ?_ fun v7 H7 k7 cu7 p7 => ?_
    · have hz := of_decide_eq_true hz
      have e4 := (pc_whole (by omega) hm).mp (by omega)
      rw [if_pos e4] at hWm
      rw [Ff.eq hWm]
    · have hz := of_decide_eq_false hz
      have e4 : ¬ m = 2 ^ bs.length - 1 := fun q => hz (by rw [(pc_whole (by omega) hm).mpr q])
      rw [if_neg e4] at hWm
      rw [Ff.eq hWm]
      congr 1
      omega
    · rw [kvm_len, List.length_cons, List.length_take]
      have : r.length ≤ 128 := by
        have := hlr.length_eq
        rw [List.length_cons, List.length_range] at this
        omega
      omega
    obtain rfl := Rp.int_eq p7
    have e5 : putK (kvm kt (fun m => V.int (Ff bs m)) (0 :: r.take i)) (kt m) (.int (Ff bs m)) = kvm kt (fun m => .int (Ff bs m)) (0 :: r.take (i + 1)) := by
      rw [putK_kvm (f := fun m => V.int (Ff bs m)) kt_inj ps8 hm8 hnm, List.take_add_one, hmi]
      simp
    rw [e5] at cu7 k7 ⊢
    refine Iw.z ?_ ((k5.trans k6).trans k7) cu7.toW
    refine ⟨_, _, _, rfl, upd_same, fun k hk => ?_⟩
    rw [List.take_add_one, hmi] at hk
    rcases List.mem_cons.mp hk with z | z
    · exact hW k (by rw [z]; exact List.mem_cons_self)
    · rcases List.mem_append.mp z with y | y
      · exact hW k (List.mem_cons_of_mem _ y)
      · have : k = m := by simpa using y
        rw [this]
        exact .of hWm
  · subst hσ
    rw [List.take_length] at hdk hW
    have SX : Sube (eX d (.dT (kvm kt (fun m => .int (Ff bs m)) (0 :: r))) (by simp)) (eY e0 d (.dT (kvm kt (fun m => .int (Ff bs m)) (0 :: r)))) := .ox hB
    have cuX : Cur (eY e0 d (.dT (kvm kt (fun m => .int (Ff bs m)) (0 :: r)))) (Ad A d) H' 0 := cu4.toX hdk
    have hwm : 2 ^ bs.length - 1 ∈ 0 :: r := (lm _).mpr (by have := Nat.two_pow_pos bs.length; omega)
    refine z_ret (Φ := da (nat (Ff bs (2 ^ bs.length - 1)))) (em_dGetO (c := 0) (c1 := 0) (m := 2 ^ bs.length - 1) SX (.inl rfl) (ev_var rfl rfl) (ev_is (em_tupRg (c := 0) (ev_var rfl (.int _)) (by omega)) (by unfold tlot; rw [blk_whole (by omega)])) (fun k hk => by have := (lm k).mp hk; omega) hwm fun _ _ => .int _) cuX (by decide) fun v6 H6 k6 j6 p6 => ?_
    refine k v6 H6 (k1.trans (k2.dropW ((k3.trans k4).trans k6) hd0)) ⟨Ff bs (2 ^ bs.length - 1), fun b => ?_, ?_⟩
    · rw [← rf_rb ok.n1]
      exact hW _ hwm b
    · obtain rfl := Rp.int_eq p6
      exact .int _
theorem v_law_least_width {e : Ef} {ta tb : TE} {σ : L2.St} {A : As} {H : Hp} {E : XK} {old : Nat} {rows : List (List Nat)} (ok : okR old rows) (h : Em e 0 ta σ A H (da (recD old rows))) (h2 : Em e 0 tb σ A H (holdsP (bitsR rows))) : Em e 0 (tCall sp_law_least_width [] E (tCons ta (tCons tb tNil))) σ A H (wdP (bitsR rows)) :=
  em_pm (c := 0) (eva_cons h (eva_cons h2 eva_nil)) fun A' H' vs w p => by
    obtain ⟨x, y, rfl, q, q2⟩ := pvs2 p
    exact ⟨x, y, old, rows, rfl, q, ok, q2, rfl⟩
end
end SB
namespace SB
open PySem PySem.Spec PyProof.Rows L2 LamX
theorem k_sortDT_ {X : Cx} (hc : X.calm = true := by rfl) (hu : X.A.units + 64 < cLine) : CallR X (.builtin "sorted") rSortDT := cr_sortDT hc hu
section
variable {e : Ef} {c c1 c2 ct ce : Nat} {K : PySem.W.Frag} {mg : Str → Option Value} {ta tb te tl tk td ty tv : TE} {tt tu : TT} {σ : L2.St} {A A' : As} {H H' : Hp} {Φ Ψ Θ : Pv} {ds es : List PyData} {n m : Nat} {E : XK} {D : Ends} {i j : Int} {v x : V} {g : TG} {wi : TI}
theorem em_neT {kvs : List (List Key × V)} (h : Em e c ta σ A H (dTv kvs)) : Em e (c + 0) (tOp rNeE ta tDNewK) σ A H (da (.bool (!decide (kvs.length = 0)))) :=
  em_op (c3 := 0) h em_newK fun A' H' x y _ p q => by
    obtain ⟨a, rfl, _, ha⟩ := p
    obtain ⟨b, rfl, _, _, hb⟩ := q
    exact rv_v _ (fun Q hq => ⟨a, b, rfl, rfl, hb, .inr ⟨kvs, ha, hq⟩⟩) (.bl _)
/-- if test: d[k] = v -/
theorem z_ifPut {T : Bool → Prop} {J : Hp → Prop} (h : EmT e 0 tt σ A H T) (cu : Cur e A H n) (hn : n ≤ big) (h1 : T true → ∀ H1, Kp e.B H H1 → Cur e A H1 n → ∀ D' : Ends, (∀ H', J H' → D'.nx σ H') → sDPut td ty tv D' σ H1) (h2 : T false → ∀ H1, Kp e.B H H1 → Cur e A H1 n → J H1) (k : ∀ H', J H' → D.nx σ H') : tIfS tt (sDPut td ty tv) tNext D σ H :=
  h A H n (.refl _ _) cu hn _ fun b H1 k1 j1 p1 => by
    cases b with
    | true => exact h1 p1 H1 k1 (cu.aft k1 j1) D k
    | false => exact k H1 (h2 p1 H1 k1 (cu.aft k1 j1))
theorem sr_rngM (h : Em e c ta σ A H (da (nat n))) (hn : n ≤ 100000) : Sr e c (iRng1 (tCons ta tNil)) σ A H (List.range n).length fun i => da (nat ((List.range n).getD i 0)) := by
  have := sr_rng1 h (by omega)
  rw [Int.toNat_natCast] at this
  rw [List.length_range]
  exact sr_congr this fun i hi => by rw [List.getD_eq_getElem?_getD, List.getElem?_range hi]; rfl
end
section
variable {K : PySem.W.Frag} {mg : Str → Option Value} {P : Program} {w : World} {base : Heap}
/-! _law_reached -/
def rchP (bs : List Nat) (b : Int) : Pv := exv (Rs bs b) fun l => da (.list (l.map tlot))
abbrev sp_law_reached : Sp := Pm fun A H vs Θ => ∃ v x old rows, ∃ b : Int, vs = [v, x, .int b] ∧ Rp A H v (recD old rows) ∧ okR old rows ∧ (holdsP (bitsR rows)).p A H x ∧ Θ = rchP (bitsR rows) b
abbrev s_law_reached : Stmt := top 53
abbrev N_law_reached : List Str := ["_law_recipe_here", "_law_holds_here", "_law_bound", "_law_many", "_law_found", "_law_layer", "_law_later", "_law_lot", "_law_wider_here", "_law_block", "_law_late"]
theorem sc_law_reached : FnScope N_law_reached ["_law_recipe_here", "_law_holds_here", "_law_bound"] (defScope s_law_reached) := ⟨rfl, rfl, rfl, by decide +kernel, rfl, by decide +kernel, by decide +kernel⟩
theorem c_law_reached (T : Tx K mg) : C8.Cal P w K mg base 2 "_law_reached" sp_law_reached [] := by
  refine mkCal T 40 46 rfl rfl sc_law_reached (fun _ _ _ _ _ _ us hl => match us, hl with | [_, _, _], _ => rfl) (fun vs H Q E h => ?_) (fun f cdv A outer s H vs Q E hr h => ?_)
  · obtain ⟨A, Θ, _, ⟨v, _, _, _, _, rfl, _⟩, _⟩ := h
    rfl
  obtain ⟨A, Θ, lv, ⟨v, x, old, rows, b, rfl, hv, okr, hx, rfl⟩, k⟩ := h
  have c_law_wider := c_law_wider (P := P) (w := w) (base := base) T
  refine ⟨_, (pss_cons (ps_asg (pe_tup (pa_cons (pe_callB (k_len (K := K)) rfl T.len_ bt_len (pa_cons (pe_ix (kix_list (K := K)) (pv 0) pe_int (fun _ _ => rfl)) pa_nil)) (pa_cons pe_dnewT (pa_cons pe_dnewT pa_nil)))) (kpg_tup (K := K) rfl (pgs_cons (pg_name (i := 3) sc_law_reached.nd rfl (Or.inr rfl)) (pgs_cons (pg_name (i := 4) sc_law_reached.nd rfl (Or.inl rfl)) (pgs_cons (pg_name (i := 5) sc_law_reached.nd rfl (Or.inl rfl)) pgs_nil)))))
  (pss_cons (ps_if (pt_cmpR op_le (pe_dget (u1 hr) (pv 1) (pe_tup pa_nil) (fun _ _ => rfl)) (pv 2) (nomark _)) (pss_one (ps_dput (u1 hr) (pv 5) (pe_tup pa_nil) pe_bl rfl)) pss_nil)
  (pss_cons (ps_while PassesOwn.never (pt_cmpR (op_neE (u1 hr)) (pv 5) pe_dnewK (nomark _)) (pss_cons (ps_expr (pe_bm PySem.F.plainAttrs_dict PySem.F.slot_dict_update PySem.F.type_dict_update (mt_updT (Room.units hr)) (pv 4) (pa_cons (pv 5) pa_nil)))
  (pss_cons (ps_set (i := 6) sc_law_reached.nd rfl (Or.inl rfl) pe_dnewT)
  (pss_cons (ps_lock (ps_for PassesOwn.never rfl (pi_keys (pv 5)) (pg_name (i := 7) sc_law_reached.nd rfl (Or.inr rfl)) (pss_cons (ps_setLc (i := 8) (own := [("_law_block", 9)]) rfl sc_law_reached.nd rfl rfl (sw_true rfl rfl rfl (by decide +kernel)) (pi_range1 rfl T.range_ (pa_cons (pv 3) pa_nil)) (blkOk_by (own := [("_law_block", 9)]) (N := N_law_reached) (sc := defScope s_law_reached) (by decide +kernel)) (fun _ _ _ _ _ => (pg_name (i := 9) sc_law_reached.nd rfl (Or.inl rfl))) (fun _ _ _ _ _ => pts_one (pt_cmpR (kop_notIn (K := K)) (pv 9) (pv 7) rfl)) (fun _ _ _ _ _ => (C8.pe_c c_law_wider hr (by decide) rfl (pa_cons (pv 7) (pa_cons (pv 9) pa_nil)))))
  (pss_one (ps_expr (pe_bm PySem.F.plainAttrs_dict PySem.F.slot_dict_update PySem.F.type_dict_update (mt_updT (Room.units hr)) (pv 6) (pa_cons (pe_callTy (k_dictT (K := K) rfl (Room.units hr)) rfl T.dict_ bt_dict (pa_cons (pe_lc (own := [("_law_late", 10)]) rfl sc_law_reached.nd (kpi_list (K := K) (pv 8)) (blkOk_by (own := [("_law_late", 10)]) (N := N_law_reached) (sc := defScope s_law_reached) (by decide +kernel)) (fun _ _ _ _ _ => (pg_name (i := 10) sc_law_reached.nd rfl (Or.inl rfl))) (fun _ _ _ _ _ => pts_one (PW.pt (pw_and (pt_cmpR op_le (pe_dget (u1 hr) (pv 1) (pv 10) (fun _ _ => rfl)) (pv 2) (nomark _)) (pw_and1 (pt_cmpR op_lt (pe_callB (k_len (K := K)) rfl T.len_ bt_len (pa_cons (pv 10) pa_nil)) (pv 3) (nomark _)))))) (fun _ _ _ _ _ => (pe_tup (pa_cons (pv 10) (pa_cons pe_bl pa_nil))))) pa_nil)) pa_nil)))))))
  (pss_one (ps_set (i := 5) sc_law_reached.nd rfl (Or.inl rfl) (pv 6)))))))
  (pss_one (ps_ret (pe_callB (k_sortDT_ (hu := Room.units hr)) rfl T.sorted_ bt_sorted (pa_cons (pv 4) pa_nil))))))), ?_⟩
  have ok := okr.b
  have h7 := okr.n7
  have h1n := okr.n1
  have eb : (bitsR rows).length = rows.length := List.length_map _
  generalize hbs : bitsR rows = bs at *
  have hpow : 2 ^ bs.length ≤ 2 ^ 7 := Nat.pow_le_pow_right (n := 2) (by decide) (by omega)
  have hp0 := Nat.two_pow_pos bs.length
  have hp1 : 2 ^ 1 ≤ 2 ^ bs.length := Nat.pow_le_pow_right (n := 2) (by decide) (by omega)
  obtain ⟨ms, hms, hxT⟩ := hx
  obtain ⟨dh, rfl, hdA, hdh⟩ := hxT
  have mm : ∀ m, m ∈ ms ↔ m < 2 ^ bs.length := fun m => by rw [hms.mem_iff, List.mem_range]
  have ms8 : ∀ m ∈ ms, m < 256 := fun m hm => by have := (mm m).mp hm; omega
  have z0 : 0 ∈ ms := (mm 0).mpr (Nat.two_pow_pos _)
  have hT : ∀ {A' H'}, Wl A H A' H' → (dTv (kvm kt (fH bs) ms)).p A' H' (.ref dh) := fun w => (dTv _).up w ⟨dh, rfl, hdA, hdh⟩
  have hlen : Ev (tCB (r_len K) (tCons (tOp (rIxL K) (tVar 0) (tC (.int 1))) tNil)) (L2.start N_law_reached [v, .ref dh, .int b]) A H (da (nat bs.length)) := ev_is (ev_len (ev_ixL (ev_var rfl hv) ev_int rec_rows)) (by rw [List.length_map, eb])
  refine hlen A H 0 (.refl _ _) (cur0 lv) (by decide) _ fun v0 H1 k1 _ p1 => fun d1 hd1 d2 hd2 => ⟨(show (3 : Nat) ≤ sizeLine by decide), fun t ht => ?_⟩
  obtain rfl := Rp.int_eq p1
  have k1 : Kp no H H1 := k1
  have n12 : d2 ≠ d1 := fun z => by rw [z, upd_same] at hd2; cases hd2
  have hd2' : H1 d2 = none := by rwa [upd_ne n12] at hd2
  refine ⟨t, _, rfl, SqT.of upd_same, rfl, _, _, rfl, _, _, rfl, _, _, rfl, rfl, ?_⟩
  have kA : Kp no H (upd (upd (upd H1 d1 (.dT [])) d2 (.dT [])) t (.tup [.int (bs.length : Int), .ref d1, .ref d2])) := ((k1.trans (.new hd1)).trans (.new hd2)).trans (.new ht)
  have hd10 : H d1 = none := k1.none hd1
  have hd20 : H d2 = none := k1.none hd2'
  have ht1 : d1 ≠ t := fun z => by rw [← z, upd_ne (fun q => n12 q.symm), upd_same] at ht; cases ht
  have ht2 : d2 ≠ t := fun z => by rw [← z, upd_same] at ht; cases ht
  have hA1 : upd (upd (upd H1 d1 (.dT [])) d2 (.dT [])) t (.tup [.int (bs.length : Int), .ref d1, .ref d2]) d1 = some (.dT []) := by rw [upd_ne ht1, upd_ne (fun q => n12 q.symm), upd_same]
  have hA2 : upd (upd (upd H1 d1 (.dT [])) d2 (.dT [])) t (.tup [.int (bs.length : Int), .ref d1, .ref d2]) d2 = some (.dT []) := by rw [upd_ne ht2, upd_same]
  have n1 : ¬ A d1 := fun z => lv d1 z hd10
  have n2 : ¬ A d2 := fun z => lv d2 z hd20
  generalize upd (upd (upd H1 d1 (.dT [])) d2 (.dT [])) t (.tup [.int (bs.length : Int), .ref d1, .ref d2]) = H2 at *
  have cu2 : Cur e0 (Ad A d1) H2 0 := (cur0 (lv.kp kA)).ad hA1
  have w2 : Wl A H (Ad A d1) H2 := (cur0 lv).wlN kA hd10
  have nl2 : ¬ Ad A d1 d2 := fun z => z.elim n2 n12
  dsimp only
  refine z_ifPut (J := fun Hc => ∃ ls, Rk bs b 0 ls ∧ Hc d1 = some (.dT []) ∧ Hc d2 = some (.dT (kvm kt yes ls)) ∧ Kp no H Hc ∧ Cur e0 (Ad A d1) Hc 0) (T := (decide ((held bs 0 : Int) ≤ b) = ·)) (vt_B (ev_cmp (em_dGetT (c := 0) (c1 := 0) (m := 0) (Θ := da (.int (held bs 0 : Int))) (ev_var rfl (hT w2)) (ev_tupD evd_nil (by decide)) ms8 z0 fun _ _ => .int _) (ev_var rfl (.int b)))) cu2 (by decide) (fun hz H3 k3 cu3 D' hD' => ?_) (fun hz H3 k3 cu3 => ?_) fun Hc hJ => ?_
  · have hb : (held bs 0 : Int) ≤ b := of_decide_eq_true hz
    have hA13 : H3 d1 = some (.dT []) := k3.1 d1 _ id hA1
    have hA23 : H3 d2 = some (.dT []) := k3.1 d2 _ id hA2
    have cuY : Cur (eY e0 d2 (.dT [])) (Ad (Ad A d1) d2) H3 0 := (cu3.ad hA23).own (hx := by simp) hA23 (.inr rfl)
    refine z_dputT (e := e0) (m := 0) (Φ := da (.bool true)) em_bl (fun _ _ => ev_var rfl rfl) (fun _ _ => ev_tupD evd_nil (by decide)) cuY (by decide) id (by decide) fun v4 H4 k4 cu4 p4 => hD' _ ⟨[0], ⟨by simp, fun m => ?_⟩, ?_, ?_, (kA.trans k3).dropW k4 hd20, ?_⟩
    · rw [List.mem_singleton]
      constructor
      · rintro rfl
        exact ⟨.zero hb, pc_zero⟩
      · rintro ⟨h1, h2⟩
        cases h1 with
        | zero _ => rfl
        | @step m x h q1 q2 q3 q4 =>
          have := pc_or (ok.m h.lt) (by omega : x < 8) q2
          omega
    · exact k4.1 d1 _ (fun z => z.elim id fun q => n12 (show d1 = d2 from q).symm) hA13
    · obtain rfl := Rp.bl_eq p4
      rw [upd_same]
      rfl
    · exact ⟨fun a q => q.elim, fun a q => cu4.lv a (.inl q), trivial⟩
  · have hb : ¬ (held bs 0 : Int) ≤ b := of_decide_eq_false hz
    refine ⟨[], ⟨.nil, fun m => ?_⟩, k3.1 d1 _ id hA1, k3.1 d2 _ id hA2, kA.trans k3, cu3⟩
    constructor
    · intro h; cases h
    · rintro ⟨h1, h2⟩
      cases h1 with
      | zero q => exact absurd q hb
      | @step m x h q1 q2 q3 q4 =>
        have := pc_or (ok.m h.lt) (by omega : x < 8) q2
        omega
  obtain ⟨ls0, hls0, hc10, hc20, kc0, cuc0⟩ := hJ
  refine ⟨fun z σ' H' => ∃ (k : Nat) (fs ls : List Nat) (dl : Addr) (x6 x7 x8 : Option V), z = bs.length + 1 - k ∧ σ' = [some v, some (.ref dh), some (.int b), some (.int (bs.length : Int)), some (.ref d1), some (.ref dl), x6, x7, x8, none, none] ∧ Rl bs b k fs ∧ Rk bs b k ls ∧ H' d1 = some (.dT (kvm kt yes fs)) ∧ ¬ Ad A d1 dl ∧ H dl = none ∧ H' dl = some (.dT (kvm kt yes ls)) ∧ Kp no H H' ∧ Cur e0 (Ad A d1) H' 0, ?_, ?_⟩
  · exact ⟨_, 0, [], ls0, d2, none, none, none, rfl, rfl, ⟨.nil, fun m => ⟨(fun h => by cases h), (fun h => absurd h.2 (Nat.not_lt_zero _))⟩⟩, hls0, hc10, nl2, hd20, hc20, kc0, cuc0⟩
  clear hc10 hc20 kc0 cuc0 hls0 kA cu2 w2 hA1 hA2
  rintro z σ' Hc ⟨k0, fs, ls, dl, x6, x7, x8, rfl, rfl, hfs, hls, hc1, hnl, hdl0, hcl, kc, cuc⟩
  have wc : Wl A H (Ad A d1) Hc := (cur0 lv).wlN kc hd10
  refine vt_B (em_neT (c := 0) (ev_var rfl ⟨dl, rfl, hnl, hcl⟩)) (Ad A d1) Hc 0 (.refl _ _) cuc (by decide) _ fun bb H3 k3 j3 hb => ?_
  rw [kvm_len] at hb
  have cu3 := cuc.aft k3 j3
  have k3 : Kp no Hc H3 := k3
  have hc3 : H3 d1 = some (.dT (kvm kt yes fs)) := k3.1 d1 _ id hc1
  have hcl3 : H3 dl = some (.dT (kvm kt yes ls)) := k3.1 dl _ id hcl
  by_cases hz : ls = []
  · subst hz
    rw [if_neg (by rw [← hb]; decide)]
    have hRs := hfs.stop ok hls
    refine p_ret (A := A) (Φ := lotsT fs) (em_sortDT (c := 0) (f := yes) (ms := fs) (ev_var rfl ⟨d1, rfl, n1, hc3⟩) fun m hm => ok.m ((hfs.m m).mp hm).1.lt) (fun a q => cu3.lv a (.inl q)) fun v6 H6 k6 ⟨l, hl, p6⟩ => k v6 H6 ((kc.trans k3).trans k6) ⟨l, hRs.perm hl, p6⟩
  · rw [if_pos (by rw [← hb, decide_eq_false fun q => hz (List.length_eq_zero_iff.mp q)]; rfl)]
    have hk0 : k0 ≤ bs.length := by
      cases ls with
      | nil => exact absurd rfl hz
      | cons m l =>
        obtain ⟨h1, h2⟩ := (hls.m m).mp List.mem_cons_self
        have := pc_lt2 (by omega) h1.lt
        omega
    refine ⟨_, fun σ' H' h => h, ?_⟩
    have hne : d1 ≠ dl := fun z => hnl (.inr z.symm)
    have lt7 : ∀ {l : List Nat}, (∀ m ∈ l, m < 2 ^ bs.length) → ∀ m ∈ l, m < 128 := fun h m hm => by have := h m hm; omega
    have fs8 : ∀ m ∈ fs, m < 128 := lt7 fun m hm => ((hfs.m m).mp hm).1.lt
    have ls8 : ∀ m ∈ ls, m < 128 := lt7 fun m hm => ((hls.m m).mp hm).1.lt
    have lim : fs.length + ls.length ≤ 100000 := by
      have h1 := nd_le hfs.nd fs8
      have h2 := nd_le hls.nd ls8
      omega
    have cuY : Cur (eY e0 d1 (.dT (kvm kt yes fs))) (Ad A d1) H3 0 := cu3.own (hx := by simp) hc3 (.inr rfl)
    refine z_updT (q := 4) rfl cuY (by decide) (ev_var rfl ⟨dl, rfl, hnl, hcl3⟩) (.inr rfl) id lim fs8 ls8 hls.nd fun H4 k4 cu4 => ?_
    have kc4 : Kp no H H4 := (kc.trans k3).dropW k4 hd10
    have hc14 : H4 d1 = some (.dT (kvm kt yes (ls.foldl ins fs))) := cu4.at
    have hcl4 : H4 dl = some (.dT (kvm kt yes ls)) := k4.1 dl _ (fun z => z.elim id fun q => hne (show dl = d1 from q).symm) hcl3
    refine z_asg em_newT cu4.rid (by decide) fun v5 H5 k5 cu5 p5 => ?_
    obtain ⟨d3, rfl, n3, hd30, hd3⟩ := p5
    have k5 : Kp no H4 H5 := k5
    have kc5 := kc4.trans k5
    have n31 : d3 ≠ d1 := fun z => n3 (.inr z)
    have n3l : dl ≠ d3 := fun z => by rw [← z, hcl4] at hd30; cases hd30
    have hc15 : H5 d1 = some (.dT (kvm kt yes (ls.foldl ins fs))) := k5.1 d1 _ id hc14
    have hcl5 : H5 dl = some (.dT (kvm kt yes ls)) := k5.1 dl _ id hcl4
    have nBl : ¬ (eW e0 d3).B dl := fun z => z.elim id fun q => n3l q
    have hd3H : H d3 = none := kc4.none hd30
    have cuW : Cur (eW e0 d3) (Ad (Ad (Ad A d1) d3) dl) H5 0 := (((cu5.ad hd3).ad hcl5).own (hx := by simp) hd3 (.inl (.inr rfl))).toW
    have w5 : Wl A H (Ad (Ad (Ad A d1) d3) dl) H5 := ⟨kc5.any, fun a q => q.elim (fun q => q.elim (fun q => q.imp id fun z : a = d1 => z ▸ hd10) fun z : a = d3 => .inr (z ▸ hd3H)) fun z : a = dl => .inr (z ▸ hdl0), fun a q => .inl (.inl (.inl q))⟩
    dsimp only
    refine z_forT0 (e := eW e0 d3) (A := Ad (Ad (Ad A d1) d3) dl) (kvs := kvm kt yes ls) (fun i σ' H' => ∃ (x7 x8 : Option V) (lt : List Nat), σ' = [some v, some (.ref dh), some (.int b), some (.int (bs.length : Int)), some (.ref d1), some (.ref dl), some (.ref d3), x7, x8, none, none] ∧ H' d3 = some (.dT (kvm kt yes lt)) ∧
        lt.Nodup ∧ (∀ y ∈ lt, Rc bs b y ∧ pc y = k0 + 1) ∧ ∀ j, j < i → ∀ m, ls[j]? = some m → ∀ x ∈ out bs.length m, okW bs b (m ||| 2 ^ x) = true → m ||| 2 ^ x ∈ lt) rfl hcl5 (.inr rfl) nBl cuW (by decide)
      (fun od => ⟨x7, x8, [], rfl, by rw [upd_ne (fun z => n3l z.symm)]; exact hd3, .nil, no_mem, fun j hj => absurd hj (Nat.not_lt_zero j)⟩)
      (fun od H6 i σ' H' key y p w6 kb hk hp ⟨x7, x8, lt, hσ, hd3', hnd3, hin3, hall⟩ k6 cu6 => ?_) (fun od σ' H' ⟨x7, x8, lt, hσ, hd3', hnd3, hin3, hall⟩ cu6 k6 cu7 => ?_)
    · subst hσ
      obtain ⟨m, hmi, hmem, rfl, rfl⟩ := kvm_at hk
      obtain ⟨hRm, hpm⟩ := (hls.m m).mp hmem
      have hm := hRm.lt
      have hm8 := ok.m hm
      have q7 : Rp (Ad (Ad (Ad A d1) d3) dl) H' (.ref p) (tlot m) := Rp.tlot_of hp
      have w7 : Wl A H (Ad (Ad (Ad A d1) d3) dl) H' := w5.trans (w6.trans (.of k6 cu6.sub))
      have cuX : Cur (eY e0 d3 (.dT (kvm kt yes lt))) (Ad (Ad (Ad A d1) d3) dl) H' 0 := cu6.toX hd3'
      have hol : (out bs.length m).length ≤ 7 := by
        have := List.length_filter_le (fun b => !m.testBit b) (List.range bs.length)
        rw [List.length_range] at this
        unfold out
        omega
      show (fun σ2 H2 => _) _ _
      dsimp only
      refine z_asg (Φ := da (.list (((out bs.length m).map fun x => m ||| 2 ^ x).map tlot))) (ev_is (em_lcF (c := 0) (it := fun b => nat b) (g := fun x => tlot (m ||| 2 ^ x)) (q := fun x => !m.testBit x) (sr_rngM (ev_var (i := 3) rfl (.int _)) (by omega)) (by rw [List.length_range]; omega) (fun x => rfl) (fun x A1 H7 y hb w px => vt_is (vt_B (em_inNT (c1 := 0) (c2 := 0) (neg := true) (ev_var (i := 9) rfl px) (ev_var (i := 7) rfl (q7.up w)))) ?_) fun x A1 H7 y hb w px hq => ?_) ?_) cuX (by decide) fun v8 H8 k8 cu8 p8 => ?_
      · have hx := List.mem_range.mp hb
        show (!decide (x ∈ blk m)) = _
        rw [blk_bit (by omega)]
      · have hx := List.mem_range.mp hb
        exact v_law_wider hm8 (by omega) (by simpa using hq) (ev_var (i := 7) rfl (q7.up w)) (ev_var (i := 9) rfl px)
      · rw [List.map_map]
        rfl
      have y7 : ∀ y ∈ (out bs.length m).map (fun x => m ||| 2 ^ x), y < 2 ^ bs.length := fun y hy => by
        obtain ⟨x, hx, rfl⟩ := List.mem_map.mp hy
        exact or_lt2 hm (out_mem.mp hx).1
      have w8 := w7.trans (cuX.wl k8)
      refine z_updT (q := 6) (f := yes) (ls := setOf (((out bs.length m).map fun x => m ||| 2 ^ x).filter (okW bs b))) rfl cu8 (by decide) (em_dictT (c := 0) (f := fun _ => .bool true) (g := yes) (l := ((out bs.length m).map fun x => m ||| 2 ^ x).filter (okW bs b)) (fun A H m v r => Rp.bl_eq r) (em_lcF (c := 0) (it := tlot) (g := fun m => .tuple [tlot m, .bool true]) (q := okW bs b) (sr_listM (ev_var rfl p8)) (by rw [List.length_map]; omega) (fun x => rfl) (fun y A1 H9 x hy w px => vt_is (vt_and1 (vt_B (ev_cmp (em_dGetT (c := 0) (c1 := 0) (m := y) (Θ := da (.int (held bs y : Int))) (ev_var rfl (hT (w8.trans w))) (ev_var rfl px) ms8 ((mm y).mpr (y7 y hy)) fun _ _ => .int _) (ev_var rfl (.int b)))) fun _ => vt_B (ev_cmp (ev_lenT (ev_var rfl px)) (ev_var rfl (.int _)))) ?_) fun y A1 H9 x hy w px hq => ev_tupD (evd_cons (ev_var rfl px) (evd_cons ev_bl evd_nil)) (show (2 : Nat) ≤ 100000 by decide)) fun y hy => ok.m (y7 y (List.mem_filter.mp hy).1)) (.inl (.inr rfl)) id ?_ (lt7 fun y hy => (hin3 y hy).1.lt) (lt7 fun y hy => y7 y (List.mem_filter.mp (setOf_mem.mp hy)).1) (setOf_nd _) fun H9 k9 cu9 => ?_
      · have h1 := pc_lt2 (by omega) (y7 y hy)
        have h2 := pc_whole (by omega) (y7 y hy)
        show (decide ((held bs y : Int) ≤ b) && decide (((nts (blk y)).length : Int) < (bs.length : Int))) = okW bs b y
        have e1 : (nts (blk y)).length = pc y := List.length_map _
        rw [e1]
        unfold okW
        by_cases z : y = 2 ^ bs.length - 1
        · have g1 : decide ((pc y : Int) < (bs.length : Int)) = false := decide_eq_false (by have := h2.mpr z; omega)
          have g2 : decide (y ≠ 2 ^ bs.length - 1) = false := decide_eq_false fun q => q z
          rw [g1, g2, Bool.and_false, Bool.false_and]
        · have h3 : ¬ pc y = bs.length := fun q => z (h2.mp q)
          have g1 : decide ((pc y : Int) < (bs.length : Int)) = true := decide_eq_true (by omega)
          have g2 : decide (y ≠ 2 ^ bs.length - 1) = true := decide_eq_true z
          rw [g1, g2, Bool.and_true, Bool.true_and]
      · have h1 := nd_le hnd3 (lt7 fun y hy => (hin3 y hy).1.lt)
        have h2 := setOf_le (((out bs.length m).map fun x => m ||| 2 ^ x).filter (okW bs b))
        have h3 := List.length_filter_le (okW bs b) ((out bs.length m).map fun x => m ||| 2 ^ x)
        rw [List.length_map] at h3
        omega
      · obtain ⟨g1, g2, _⟩ := fold_ins (setOf (((out bs.length m).map fun x => m ||| 2 ^ x).filter (okW bs b))) lt hnd3
        refine Iw.z ?_ ((k6.trans k8).trans k9) cu9.toW
        refine ⟨some (.ref p), some v8, _, rfl, cu9.at, g1, fun y hy => ?_, fun j hj m' hm' x' hx' ho => ?_⟩
        · rcases (g2 y).mp hy with z | z
          · exact hin3 y z
          · obtain ⟨z1, z2⟩ := List.mem_filter.mp (setOf_mem.mp z)
            obtain ⟨x, hx, rfl⟩ := List.mem_map.mp z1
            obtain ⟨hx1, hx2⟩ := out_mem.mp hx
            obtain ⟨o1, o2⟩ := (Bool.and_eq_true _ _).mp z2
            refine ⟨.step hRm hx1 hx2 (of_decide_eq_true o1) (of_decide_eq_true o2), ?_⟩
            rw [pc_or hm8 (by omega) hx2, hpm]
        · rw [g2]
          by_cases z : j < i
          · exact .inl (hall j z m' hm' x' hx' ho)
          · have : j = i := by omega
            subst this
            rw [hmi] at hm'
            cases hm'
            exact .inr (setOf_mem.mpr (List.mem_filter.mpr ⟨List.mem_map_of_mem hx', ho⟩))
    · subst hσ
      have hd36 : upd H' dl (.dT (kvm kt yes ls)) d3 = some (.dT (kvm kt yes lt)) := by rw [upd_ne (fun z => n3l z.symm)]; exact hd3'
      refine z_asg (Φ := isv (.ref d3)) (ev_var rfl rfl) (cu7.toX (hx := by simp) hd36) (by decide) fun v7 H7 k7 cu8 p7 => ?_
      obtain rfl : v7 = .ref d3 := p7
      have k7' : Kp (eW e0 d3).B (upd H' dl (.dT (kvm kt yes ls))) H7 := k7
      have kF := kc5.dropW (k6.trans k7') hd3H
      refine ⟨_, ?_, k0 + 1, _, lt, d3, some (.ref d3), x7, x8, rfl, rfl, hfs.next hls, ⟨hnd3, fun y => ⟨hin3 y, fun hy => ?_⟩⟩, (k6.trans k7').1 d1 _ (fun z => z.elim id fun q => n31 (show d1 = d3 from q).symm) hc15, n3, hd3H, cu8.at, kF, cu8.rid.dn (fun a q => .inl (.inl q)) fun a q => q.elim⟩
      · omega
      · obtain ⟨m, x, h1, h2, h3, h4, rfl, h6, h7⟩ := hy.1.pred ok hy.2
        have hmem := (hls.m m).mpr ⟨h1, h2⟩
        obtain ⟨j, hj, hj2⟩ := List.mem_iff_getElem.mp hmem
        refine hall j (by rw [kvm_len]; exact hj) m (by rw [List.getElem?_eq_getElem hj, hj2]) x (out_mem.mpr ⟨h3, h4⟩) ?_
        unfold okW
        rw [decide_eq_true h6, decide_eq_true h7]
        rfl
theorem v_law_reached {e : Ef} {ta tb tc : TE} {σ : L2.St} {A : As} {H : Hp} {E : XK} {old : Nat} {rows : List (List Nat)} {b : Int} (ok : okR old rows) (h : Em e 0 ta σ A H (da (recD old rows))) (h2 : Em e 0 tb σ A H (holdsP (bitsR rows))) (h3 : Em e 0 tc σ A H (da (.int b))) : Em e 0 (tCall sp_law_reached [] E (tCons ta (tCons tb (tCons tc tNil)))) σ A H (rchP (bitsR rows) b) :=
  em_pm (c := 0) (eva_cons h (eva_cons h2 (eva_cons h3 eva_nil))) fun A' H' vs w p => by
    obtain ⟨x, y, z, rfl, q, q2, q3⟩ := pvs3 p
    obtain rfl := Rp.int_eq q3
    exact ⟨x, y, old, rows, b, rfl, q, ok, q2, rfl⟩
end
end SB
namespace SB
open PySem PySem.Spec PyProof.Rows L2 LamX
/-! == of lists of numbers -/
theorem eqvAll_nts : ∀ l k : List Nat, PyData.eqvAll (nts l) (nts k) = decide (l = k)
  | [], [] => by simp [PyData.eqvAll]
  | [], _ :: _ => by simp [PyData.eqvAll]
  | _ :: _, [] => by simp [PyData.eqvAll]
  | a :: l, b :: k => by
    have h := eqvAll_nts l k
    show (PyData.eqv (nat a) (nat b) && PyData.eqvAll (nts l) (nts k)) = _
    rw [h]
    have e1 : PyData.eqv (nat a) (nat b) = decide (a = b) := by
      show ((a : Int) == (b : Int)) = _
      by_cases z : a = b
      · subst z; simp
      · rw [decide_eq_false z]
        exact beq_eq_false_iff_ne.mpr (by omega)
    rw [e1]
    by_cases z : a = b
    · subst z; simp
    · simp [z]
theorem eqv_lists (l k : List Nat) : PyData.eqv (.list (nts l)) (.list (nts k)) = decide (l = k) := eqvAll_nts l k
theorem eqv_tlot {a b : Nat} (ha : a < 256) (hb : b < 256) : PyData.eqv (tlot a) (tlot b) = decide (a = b) := by
  have h : PyData.eqv (tlot a) (tlot b) = decide (blk a = blk b) := eqvAll_nts _ _
  rw [h]
  by_cases z : a = b
  · subst z; simp
  · rw [decide_eq_false z, decide_eq_false fun q => z (blk_inj ha hb q)]
theorem eqv_lot {a b : Nat} (ha : a < 256) (hb : b < 256) : PyData.eqv (lot a) (lot b) = decide (a = b) := by
  unfold lot
  rw [eqv_lists]
  by_cases z : a = b
  · subst z; simp
  · rw [decide_eq_false z, decide_eq_false fun q => z (blk_inj ha hb q)]
theorem any_tlot {m : Nat} {l : List Nat} (hm : m < 256) (hl : ∀ k ∈ l, k < 256) : ((l.map tlot).any fun z => PyData.eqv z (tlot m)) = decide (m ∈ l) := by
  rw [List.any_map]
  by_cases z : m ∈ l
  · rw [decide_eq_true z, List.any_eq_true]
    exact ⟨m, z, by show PyData.eqv (tlot m) (tlot m) = true; rw [eqv_tlot hm hm]; simp⟩
  · rw [decide_eq_false z, List.any_eq_false]
    intro k hk q
    have q : PyData.eqv (tlot k) (tlot m) = true := q
    rw [eqv_tlot (hl k hk) hm] at q
    exact z (of_decide_eq_true q ▸ hk)
theorem any_lot {m : Nat} {l : List Nat} (hm : m < 256) (hl : ∀ k ∈ l, k < 256) : ((l.map lot).any fun z => PyData.eqv z (lot m)) = decide (m ∈ l) := by
  rw [List.any_map]
  by_cases z : m ∈ l
  · rw [decide_eq_true z, List.any_eq_true]
    exact ⟨m, z, by show PyData.eqv (lot m) (lot m) = true; rw [eqv_lot hm hm]; simp⟩
  · rw [decide_eq_false z, List.any_eq_false]
    intro k hk q
    have q : PyData.eqv (lot k) (lot m) = true := q
    rw [eqv_lot (hl k hk) hm] at q
    exact z (of_decide_eq_true q ▸ hk)
theorem lay_tl : ∀ l : List Nat, PyData.canLayAll0 (l.map tlot) = true
  | [] => by simp [PyData.canLayAll0]
  | m :: ms => by
    have h := lay_tl ms
    have h2 := lay_nts (blk m)
    rw [List.map_cons, PyData.canLayAll0, Bool.and_eq_true]
    refine ⟨?_, h⟩
    rw [PyData.canLay0]
    exact h2
theorem dep_tl : ∀ l : List Nat, PyData.depthAll (l.map tlot) ≤ 3
  | [] => by simp [PyData.depthAll]
  | b :: l => by
    have := dep_tl l
    have h2 := dep_nts (blk b)
    simp only [List.map_cons, PyData.depthAll, PyData.depth]
    omega
theorem dep_ll : ∀ l : List Nat, PyData.depthAll (l.map lot) ≤ 3
  | [] => by simp [PyData.depthAll]
  | b :: l => by
    have := dep_ll l
    have h2 := dep_lot b
    simp only [List.map_cons, PyData.depthAll]
    omega
theorem shaped_tl (l : List Nat) : SeqAt.shaped (.list (l.map tlot)) = true := shaped_of (by simp only [PyData.canLay0]; exact lay_tl l) (by have := dep_tl l; simp only [PyData.depth]; omega)
theorem shaped_ll (l : List Nat) : SeqAt.shaped (.list (l.map lot)) = true := shaped_of (by simp only [PyData.canLay0]; exact lay_lots l) (by have := dep_ll l; simp only [PyData.depth]; omega)
theorem shaped_t (m : Nat) : SeqAt.shaped (tlot m) = true := shaped_of (by simp only [PyData.canLay0]; exact lay_nts _) (by have := dep_nts (blk m); simp only [PyData.depth]; omega)
theorem shaped_l (m : Nat) : SeqAt.shaped (lot m) = true := shaped_nts _
/-! numbers alone -/
def isI (d : PyData) : Bool := isInt d && !isBl d
def allIn : PyData → Bool
  | .list ds => (ds.map isI).all id
  | _ => false
theorem isI_int {d : PyData} (h : isI d = true) : ∃ i, d = .int i := by
  unfold isI at h
  rw [Bool.and_eq_true] at h
  exact isCnt_eq d h.1 h.2
theorem allIn_ints : ∀ {ds : List PyData}, ((ds.map isI).all id) = true → ∃ is : List Int, ds = is.map .int
  | [], _ => ⟨[], rfl⟩
  | d :: ds, h => by
    rw [List.map_cons, List.all_cons, Bool.and_eq_true] at h
    obtain ⟨i, rfl⟩ := isI_int h.1
    obtain ⟨is, rfl⟩ := allIn_ints h.2
    exact ⟨i :: is, rfl⟩
theorem isRis_allIn {n : Int} {d : PyData} (h : allIn d = false) : isRis n d = false := by
  cases d with
  | list ds =>
    cases q : isRis n (.list ds) with
    | false => rfl
    | true =>
      have q : (((ds.map (cntLt n)).all id) && asc ds) = true := q
      rw [Bool.and_eq_true, List.all_map, List.all_eq_true] at q
      have : allIn (.list ds) = true := by
        show ((ds.map isI).all id) = true
        rw [List.all_map, List.all_eq_true]
        intro d hd
        have h2 : (isCnt d && decide (iv d < n)) = true := q.1 d hd
        obtain ⟨k, rfl⟩ := isCnt_int ((Bool.and_eq_true _ _).mp h2).1
        rfl
      rw [this] at h
      cases h
  | _ => rfl
section
variable {e : Ef} {c c1 c2 ct ce : Nat} {K : PySem.W.Frag} {mg : Str → Option Value} {ta tb tc te tl tk td ty tv : TE} {tt tu : TT} {σ : L2.St} {A A' : As} {H H' : Hp} {Φ Ψ Θ : Pv} {ds es : List PyData} {n m : Nat} {E : XK} {D : Ends} {i j k : Int} {v x : V} {g : TG} {wi : TI}
theorem ev_chain {g g' : Int → Int → Bool} (h : Em e 0 ta σ A H (da (.int i))) (h2 : Em e 0 tb σ A H (da (.int j))) (h3 : Em e 0 tc σ A H (da (.int k))) : Em e 0 (tChain (rI0 fun i j => .bl (g i j)) (rI0 fun i j => .bl (g' i j)) ta tb tc) σ A H (da (.bool (g i j && g' j k))) := fun A' H' n w cu hn Q q =>
  h A' H' n w cu hn _ fun x H2 k2 j2 p2 => h2 A' H2 n (w.trans (cu.wl k2)) (cu.aft k2 j2) hn _ fun y H3 k3 j3 p3 => by
    obtain rfl := Rp.int_eq p2
    obtain rfl := Rp.int_eq p3
    refine ⟨i, j, rfl, rfl, g i j, rfl, ?_⟩
    cases z : g i j with
    | true =>
      rw [if_pos rfl]
      exact h3 A' H3 n ((w.trans (cu.wl k2)).trans ((cu.aft k2 j2).wl k3)) ((cu.aft k2 j2).aft k3 j3) hn _ fun u H4 k4 j4 p4 => by
        obtain rfl := Rp.int_eq p4
        exact ⟨j, k, rfl, rfl, q _ H4 ((k2.trans k3).trans k4) j4 (by rw [z, Bool.true_and]; exact .bl _)⟩
    | false =>
      rw [if_neg (by decide)]
      exact q _ H3 (k2.trans k3) j3 (by rw [z, Bool.false_and]; exact .bl _)
theorem em_lenDT {kvs : List (List Key × V)} (h : Em e c ta σ A H (dTv kvs)) : Em e c (tCB rLenT (tCons ta tNil)) σ A H (da (nat kvs.length)) := em_B1 h fun A' H' x _ p => by
  obtain ⟨a, rfl, na, ha⟩ := p
  exact rv_v _ (fun Q hq => ⟨a, kvs, rfl, ha, hq⟩) (.int _)
end
section
variable {K : PySem.W.Frag} {mg : Str → Option Value} {P : Program} {w : World} {base : Heap}
/-! _law_is_lot -/
abbrev sp_law_is_lot : Sp := Pm fun A H vs Θ => ∃ v x old rows d, vs = [v, x] ∧ Rp A H v (recD old rows) ∧ okR old rows ∧ Rp A H x d ∧ sml d ∧ Θ = da (.bool (isRis rows.length d))
abbrev s_law_is_lot : Stmt := top 55
abbrev N_law_is_lot : List Str := ["_law_recipe_here", "_law_value", "_law_block"]
theorem sc_law_is_lot : FnScope N_law_is_lot ["_law_recipe_here", "_law_value"] (defScope s_law_is_lot) := ⟨rfl, rfl, rfl, by decide +kernel, rfl, by decide +kernel, by decide +kernel⟩
theorem c_law_is_lot (T : Tx K mg) : C8.Cal P w K mg base 1 "_law_is_lot" sp_law_is_lot [] := by
  refine mkCal T 42 48 rfl rfl sc_law_is_lot (fun _ _ _ _ _ _ us hl => match us, hl with | [_, _], _ => rfl) (fun vs H Q E h => ?_) (fun f cdv A outer s H vs Q E hr h => ?_)
  · obtain ⟨A, Θ, _, ⟨v, _, _, _, _, rfl, _⟩, _⟩ := h
    rfl
  obtain ⟨A, Θ, lv, ⟨v, x, old, rows, d, rfl, hv, okr, hx, hs, rfl⟩, k⟩ := h
  refine ⟨_, (pss_cons (ps_if (PW.pt (pw_or (pt_not (pt_val (pe_callB (k_isi (K := K)) rfl T.isinstance_ bt_isinstance (pa_cons (pv 1) (pa_cons (pe_bltn (v := .ty "list") rfl T.list_ bt_list rfl) pa_nil))))) (pw_or1 (pt_not (pt_val (pe_callB (k_all (K := K) rfl) rfl T.all_ bt_all (pa_cons (pe_lc (own := [("_law_block", 2)]) rfl sc_law_is_lot.nd (kpi_list (K := K) (pv 1)) (blkOk_by (own := [("_law_block", 2)]) (N := N_law_is_lot) (sc := defScope s_law_is_lot) (by decide +kernel)) (fun _ _ _ _ _ => (pg_name (i := 2) sc_law_is_lot.nd rfl (Or.inl rfl))) (fun _ _ _ _ _ => pts_nil) (fun _ _ _ _ _ => (pe_and (pe_callB (k_isi (K := K)) rfl T.isinstance_ bt_isinstance (pa_cons (pv 2) (pa_cons (pe_bltn (v := .ty "int") rfl T.int_ bt_int rfl) pa_nil))) (pe_one (pe_not (pe_callB (k_isi (K := K)) rfl T.isinstance_ bt_isinstance (pa_cons (pv 2) (pa_cons (pe_bltn (v := .ty "bool") rfl T.bool_ bt_bool rfl) pa_nil)))))))) pa_nil))))))) (pss_one (ps_ret pe_bl)) pss_nil)
  (pss_one (ps_ret (pe_and (pe_callB (k_all (K := K) rfl) rfl T.all_ bt_all (pa_cons (pe_lc (own := [("_law_block", 2)]) rfl sc_law_is_lot.nd (kpi_list (K := K) (pv 1)) (blkOk_by (own := [("_law_block", 2)]) (N := N_law_is_lot) (sc := defScope s_law_is_lot) (by decide +kernel)) (fun _ _ _ _ _ => (pg_name (i := 2) sc_law_is_lot.nd rfl (Or.inl rfl))) (fun _ _ _ _ _ => pts_nil) (fun _ _ _ _ _ => (pe_chain op_le op_lt pe_int (pv 2) (pe_callB (k_len (K := K)) rfl T.len_ bt_len (pa_cons (pe_ix (kix_list (K := K)) (pv 0) pe_int (fun _ _ => rfl)) pa_nil))))) pa_nil)) (pe_one (pe_cmpR (kop_eqD (K := K) (Room.units hr)) (pv 1) (pe_callB (k_sortDI rfl) rfl T.sorted_ bt_sorted (pa_cons (pe_callTy (k_dictP (K := K) rfl) rfl T.dict_ bt_dict (pa_cons (pe_lc (own := [("_law_block", 2)]) rfl sc_law_is_lot.nd (kpi_list (K := K) (pv 1)) (blkOk_by (own := [("_law_block", 2)]) (N := N_law_is_lot) (sc := defScope s_law_is_lot) (by decide +kernel)) (fun _ _ _ _ _ => (pg_name (i := 2) sc_law_is_lot.nd rfl (Or.inl rfl))) (fun _ _ _ _ _ => pts_nil) (fun _ _ _ _ _ => (pe_tup (pa_cons (pv 2) (pa_cons pe_bl pa_nil))))) pa_nil)) pa_nil)) (nomark _))))))), ?_⟩
  have h7 := okr.n7
  refine p_if (T := ((!isLst d || !allIn d) = ·)) (vt_or1 (b := !allIn d) (vt_not1 (vt_v (ev_isLst (ev_var rfl hx)))) fun h1 => vt_not1 (b := allIn d) (vt_v ?_)) lv (fun h1 H1 k1 lv1 => ?_) (fun h1 H1 k1 lv1 => ?_)
  · obtain ⟨ds, rfl⟩ := isLst_eq (d := d) (by simpa using h1)
    refine ev_all (bs := ds.map isI) (ev_is (ev_lcL (f := fun d => .bool (isI d)) (ev_var rfl hx) hs (fun x => rfl) fun d A1 H1 x hd w1 hx => ev_andV (ev_isInt (ev_var rfl hx)) fun _ => ev_notV (ev_isBl (ev_var rfl hx))) (congrArg PyData.list (map_bools _)))
  · refine p_ret ev_bl lv1 fun v H2 k2 p => k v H2 (k1.trans k2) ?_
    have : isRis rows.length d = false := by
      cases d with
      | list ds => exact isRis_allIn (by simpa only [isLst, Bool.not_true, Bool.false_or, Bool.not_eq_true'] using h1)
      | _ => rfl
    rw [this]
    exact p
  · have h2 : isLst d = true ∧ allIn d = true := by simpa using h1
    obtain ⟨ds, rfl⟩ := isLst_eq h2.1
    obtain ⟨is, rfl⟩ := allIn_ints h2.2
    have hx1 := hx.up (.k0 k1)
    have hv1 := hv.up (.k0 k1)
    have hs : (is.map PyData.int).length ≤ 100000 := hs
    have ea : (is.map fun i => (decide (0 ≤ i) && decide (i < (rows.length : Int)))).all id = ((is.map PyData.int).map (cntLt rows.length)).all id := by
      rw [List.map_map]
      congr 1
    refine p_ret (Φ := da (.bool (isRis rows.length (.list (is.map .int))))) (ev_is (ev_andV (a := ((is.map PyData.int).map (cntLt rows.length)).all id) (b := isRis rows.length (.list (is.map .int))) (ev_is (ev_all (bs := is.map fun i => (decide (0 ≤ i) && decide (i < (rows.length : Int)))) (ev_is (ev_lcL (f := fun d => .bool (decide (0 ≤ iv d) && decide (iv d < (rows.length : Int)))) (ev_var rfl hx1) hs (fun x => rfl) fun d A1 H2 y hd w1 hy => ?_) ?_)) (by rw [ea])) fun ha => ?_) ?_) lv1 fun v H2 k2 p => k v H2 (k1.trans k2) p
    · obtain ⟨i, _, rfl⟩ := List.mem_map.mp hd
      exact ev_chain ev_int (ev_var rfl hy) (ev_is (ev_len (ev_ixL (ev_var rfl (hv1.up w1)) ev_int rec_rows)) (by rw [List.length_map]))
    · rw [List.map_map, List.map_map]
      rfl
    · obtain ⟨l, hl⟩ : ∃ l, is.map PyData.int = nts l := nts_of fun d hd => by
        rw [List.all_map, List.all_eq_true] at ha
        have h3 : (isCnt d && decide (iv d < (rows.length : Int))) = true := ha d hd
        exact ((Bool.and_eq_true _ _).mp h3).1
      rw [hl] at ha hx1 hs ⊢
      have l7 : ∀ b ∈ l, b < rows.length := fun b hb => by
        rw [List.all_map, List.all_eq_true] at ha
        have h3 : cntLt rows.length (nat b) = true := ha (nat b) (List.mem_map_of_mem hb)
        rw [cntLt_nat] at h3
        exact of_decide_eq_true h3
      have l8 : ∀ b ∈ l, b < 8 := fun b hb => by have := l7 b hb; omega
      rw [List.length_map] at hs
      refine ev_is (ev_eqD (ev_var rfl hx1) (em_sortDI (c := 0) (f := yes) (ms := setOf l) (m := bitsOf l) (em_dictN (c := 0) (l := l) (em_lcM (c := 0) (it := fun b => nat b) (g := fun b => .tuple [nat b, .bool true]) (sr_listM (ev_var rfl hx1)) hs (fun x => rfl) fun b A1 H5 x hb w px => ev_tupD (evd_cons (ev_var rfl px) (evd_cons ev_bl evd_nil)) (show (2 : Nat) ≤ 100000 by decide)) fun b hb => by have := l8 b hb; omega) ?_ (setOf_nd l) fun z => ?_) (shaped_nts l) (shaped_l _)) ?_
      · have := nd_le (setOf_nd l) fun m hm => l8 m (setOf_mem.mp hm)
        omega
      · rw [setOf_mem, blk_mem, bitsOf_bit, decide_eq_true_iff]
        exact ⟨fun h => ⟨l8 z h, h⟩, fun h => h.2⟩
      · unfold lot
        rw [eqv_lists]
        congr 1
        rw [Bool.eq_iff_iff, decide_eq_true_iff, isRis_nts]
        constructor
        · intro h
          rw [h]
          exact ⟨blk_asc _, fun b hb => by rw [← h] at hb; exact l7 b hb⟩
        · rintro ⟨h3, _⟩
          exact (blk_bitsOf h3 l8).symm
    · congr 1
      show (_ && ((((is.map PyData.int).map (cntLt rows.length)).all id) && asc (is.map .int))) = (((is.map PyData.int).map (cntLt rows.length)).all id && asc (is.map .int))
      cases ((is.map PyData.int).map (cntLt rows.length)).all id <;> rfl
theorem v_law_is_lot {e : Ef} {ta tb : TE} {σ : L2.St} {A : As} {H : Hp} {E : XK} {old : Nat} {rows : List (List Nat)} {d : PyData} (ok : okR old rows) (hs : sml d) (h : Em e 0 ta σ A H (da (recD old rows))) (h2 : Em e 0 tb σ A H (da d)) : Em e 0 (tCall sp_law_is_lot [] E (tCons ta (tCons tb tNil))) σ A H (da (.bool (isRis rows.length d))) :=
  em_pm (c := 0) (eva_cons h (eva_cons h2 eva_nil)) fun A' H' vs w p => by
    obtain ⟨x, y, rfl, q, q2⟩ := pvs2 p
    exact ⟨x, y, old, rows, d, rfl, q, ok, q2, hs, rfl⟩
/-! _law_bars -/
abbrev sp_law_bars : Sp := Pm fun A H vs Θ => ∃ v x y old rows d, ∃ b : Int, vs = [v, x, .int b, y] ∧ Rp A H v (recD old rows) ∧ okR old rows ∧ (holdsP (bitsR rows)).p A H x ∧ Rp A H y d ∧ sm2 d ∧ Θ = da (.bool (barsM (bitsR rows) b d))
theorem allRis_of {n : Nat} (hn : n ≤ 8) {ds : List PyData} (h : allRis n (.list ds) = true) : ∃ l : List Nat, ds = l.map lot ∧ ∀ m ∈ l, m < 2 ^ n := by
  have hl := allRis_lots hn h
  clear h
  induction ds with
  | nil => exact ⟨[], rfl, no_mem⟩
  | cons d ds ih =>
    obtain ⟨m, hm, rfl⟩ := hl d List.mem_cons_self
    obtain ⟨l, rfl, h2⟩ := ih fun x hx => hl x (List.mem_cons_of_mem _ hx)
    exact ⟨m :: l, rfl, fun x hx => (List.mem_cons.mp hx).elim (fun z => z ▸ hm) (h2 x)⟩
abbrev s_law_bars : Stmt := top 60
abbrev N_law_bars : List Str := ["_law_recipe_here", "_law_holds_here", "_law_bound", "_law_value", "_law_many", "_law_some", "_law_lot", "_law_block"]
theorem sc_law_bars : FnScope N_law_bars ["_law_recipe_here", "_law_holds_here", "_law_bound", "_law_value"] (defScope s_law_bars) := ⟨rfl, rfl, rfl, by decide +kernel, rfl, by decide +kernel, by decide +kernel⟩
theorem c_law_bars (T : Tx K mg) : C8.Cal P w K mg base 2 "_law_bars" sp_law_bars [] := by
  refine mkCal T 47 53 rfl rfl sc_law_bars (fun _ _ _ _ _ _ us hl => match us, hl with | [_, _, _, _], _ => rfl) (fun vs H Q E h => ?_) (fun f cdv A outer s H vs Q E hr h => ?_)
  · obtain ⟨A, Θ, _, ⟨v, _, _, _, _, _, _, rfl, _⟩, _⟩ := h
    rfl
  obtain ⟨A, Θ, lv, ⟨v, x, y, old, rows, d, b, rfl, hv, okr, hx, hy, hs, rfl⟩, k⟩ := h
  have c_law_is_lot := c_law_is_lot (P := P) (w := w) (base := base) T
  have c_law_wider := c_law_wider (P := P) (w := w) (base := base) T
  refine ⟨_, (pss_cons (ps_set (i := 4) sc_law_bars.nd rfl (Or.inl rfl) (pe_callB (k_len (K := K)) rfl T.len_ bt_len (pa_cons (pe_ix (kix_list (K := K)) (pv 0) pe_int (fun _ _ => rfl)) pa_nil)))
  (pss_cons (ps_if (PW.pt (pw_or (pt_not (pt_val (pe_callB (k_isi (K := K)) rfl T.isinstance_ bt_isinstance (pa_cons (pv 3) (pa_cons (pe_bltn (v := .ty "list") rfl T.list_ bt_list rfl) pa_nil))))) (pw_or1 (pt_not (pt_val (pe_callB (k_all (K := K) rfl) rfl T.all_ bt_all (pa_cons (pe_lc (own := [("_law_lot", 6)]) rfl sc_law_bars.nd (kpi_list (K := K) (pv 3)) (blkOk_by (own := [("_law_lot", 6)]) (N := N_law_bars) (sc := defScope s_law_bars) (by decide +kernel)) (fun _ _ _ _ _ => (pg_name (i := 6) sc_law_bars.nd rfl (Or.inl rfl))) (fun _ _ _ _ _ => pts_nil) (fun _ _ _ _ _ => (C8.pe_c c_law_is_lot hr (by decide) rfl (pa_cons (pv 0) (pa_cons (pv 6) pa_nil))))) pa_nil))))))) (pss_one (ps_ret pe_bl)) pss_nil)
  (pss_cons (ps_setLc (i := 5) (own := [("_law_lot", 6)]) rfl sc_law_bars.nd rfl rfl (sw_true rfl rfl rfl (by decide +kernel)) (kpi_list (K := K) (pv 3)) (blkOk_by (own := [("_law_lot", 6)]) (N := N_law_bars) (sc := defScope s_law_bars) (by decide +kernel)) (fun _ _ _ _ _ => (pg_name (i := 6) sc_law_bars.nd rfl (Or.inl rfl))) (fun _ _ _ _ _ => pts_nil) (fun _ _ _ _ _ => (pe_callTy (k_tuple (K := K)) rfl T.tuple_ bt_tuple (pa_cons (pv 6) pa_nil))))
  (pss_cons (ps_if (PW.pt (pw_or (pt_cmpR op_ne (pe_callB (call_len_dT) rfl T.len_ bt_len (pa_cons (pe_callTy (k_dictT (K := K) rfl (Room.units hr)) rfl T.dict_ bt_dict (pa_cons (pe_lc (own := [("_law_lot", 6)]) rfl sc_law_bars.nd (kpi_list (K := K) (pv 5)) (blkOk_by (own := [("_law_lot", 6)]) (N := N_law_bars) (sc := defScope s_law_bars) (by decide +kernel)) (fun _ _ _ _ _ => (pg_name (i := 6) sc_law_bars.nd rfl (Or.inl rfl))) (fun _ _ _ _ _ => pts_nil) (fun _ _ _ _ _ => (pe_tup (pa_cons (pv 6) (pa_cons pe_bl pa_nil))))) pa_nil)) pa_nil)) (pe_callB (k_len (K := K)) rfl T.len_ bt_len (pa_cons (pv 5) pa_nil)) (nomark _)) (pw_or1 (PW.pt (pw_and (pt_cmpR (kop_notInD (K := K) (u65 hr)) (pe_tup pa_nil) (pv 5) rfl) (pw_and1 (pt_cmpR op_le (pe_dget (u1 hr) (pv 1) (pe_tup pa_nil) (fun _ _ => rfl)) (pv 2) (nomark _)))))))) (pss_one (ps_ret pe_bl)) pss_nil)
  (pss_cons (ps_for PassesOwn.never rfl (kpi_list (K := K) (pv 5)) (pg_name (i := 6) sc_law_bars.nd rfl (Or.inl rfl)) (pss_cons (ps_if (PW.pt (pw_or (pt_cmpR op_gt (pe_dget (u1 hr) (pv 1) (pv 6) (fun _ _ => rfl)) (pv 2) (nomark _)) (pw_or1 (pt_cmpR op_gt (pe_callB (k_len (K := K)) rfl T.len_ bt_len (pa_cons (pv 6) pa_nil)) (pe_op op_sub (pv 4) pe_int) (nomark _))))) (pss_one (ps_ret pe_bl)) pss_nil)
  (pss_one (ps_for PassesOwn.never rfl (pi_range1 rfl T.range_ (pa_cons (pv 4) pa_nil)) (pg_name (i := 7) sc_law_bars.nd rfl (Or.inl rfl)) (pss_one (ps_if (PW.pt (pw_and (pt_cmpR (kop_notIn (K := K)) (pv 7) (pv 6) rfl) (pw_and (pt_cmpR (kop_notInD (K := K) (u65 hr)) (C8.pe_c c_law_wider hr (by decide) rfl (pa_cons (pv 6) (pa_cons (pv 7) pa_nil))) (pv 5) rfl) (pw_and1 (pt_cmpR op_le (pe_dget (u1 hr) (pv 1) (C8.pe_c c_law_wider hr (by decide) rfl (pa_cons (pv 6) (pa_cons (pv 7) pa_nil))) (fun _ _ => rfl)) (pv 2) (nomark _)))))) (pss_one (ps_ret pe_bl)) pss_nil))))))
  (pss_one (ps_ret pe_bl))))))), ?_⟩
  have ok := okr.b
  have h7 := okr.n7
  have h1n := okr.n1
  have eb : (bitsR rows).length = rows.length := List.length_map _
  generalize hbs : bitsR rows = bs at *
  have hpow : 2 ^ bs.length ≤ 2 ^ 7 := Nat.pow_le_pow_right (n := 2) (by decide) (by omega)
  obtain ⟨ms, hms, hxT⟩ := hx
  obtain ⟨dh, rfl, hdA, hdh⟩ := hxT
  have mm : ∀ m, m ∈ ms ↔ m < 2 ^ bs.length := fun m => by rw [hms.mem_iff, List.mem_range]
  have ms8 : ∀ m ∈ ms, m < 256 := fun m hm => by have := (mm m).mp hm; omega
  have z0 : 0 ∈ ms := (mm 0).mpr (Nat.two_pow_pos _)
  have hT : ∀ {A' H'}, Wl A H A' H' → (dTv (kvm kt (fH bs) ms)).p A' H' (.ref dh) := fun w => (dTv _).up w ⟨dh, rfl, hdA, hdh⟩
  refine p_asg (Φ := da (nat bs.length)) (ev_is (ev_len (ev_ixL (ev_var rfl hv) ev_int rec_rows)) (by rw [List.length_map, eb])) lv fun v4 H1 k1 lv1 p1 => ?_
  obtain rfl := Rp.int_eq p1
  have hy1 := hy.up (.k0 k1)
  have hv1 := hv.up (.k0 k1)
  refine p_if (T := ((!isLst d || !allRis bs.length d) = ·)) (vt_or1 (b := !allRis bs.length d) (vt_not1 (vt_v (ev_isLst (ev_var rfl hy1)))) fun h1 => vt_not1 (b := allRis bs.length d) (vt_v ?_)) lv1 (fun h1 H2 k2 lv2 => ?_) (fun h1 H2 k2 lv2 => ?_)
  · obtain ⟨ds, rfl⟩ := isLst_eq (d := d) (by simpa using h1)
    refine ev_all (bs := ds.map (isRis bs.length)) (ev_is (ev_lcL (f := fun d => .bool (isRis bs.length d)) (ev_var rfl hy1) hs.1 (fun x => rfl) fun d A1 H1 x hd w1 hx => ?_) (congrArg PyData.list (map_bools _)))
    have := v_law_is_lot (E := C8.E0) okr (hs.2 d hd) (ev_var (e := e0) (i := 0) (σ := [some v, some (.ref dh), some (.int b), some y, some (.int (bs.length : Int)), none, some x, none]) rfl (hv1.up w1)) (ev_var (i := 6) rfl hx)
    rw [← eb] at this
    exact this
  · refine p_ret ev_bl lv2 fun v H3 k3 p => k v H3 ((k1.trans k2).trans k3) ?_
    have : barsM bs b d = false := by
      unfold barsM lotsOk
      cases d with
      | list ds =>
        have : allRis bs.length (.list ds) = false := by simpa only [isLst, Bool.not_true, Bool.false_or, Bool.not_eq_true'] using h1
        rw [this, Bool.false_and, Bool.false_and]
      | _ => rfl
    rw [this]
    exact p
  refine to_next ?_
  dsimp only
  have h2 : isLst d = true ∧ allRis bs.length d = true := by simpa using h1
  obtain ⟨ds, rfl⟩ := isLst_eq h2.1
  obtain ⟨l, rfl, hl⟩ := allRis_of (by omega) h2.2
  have l8 : ∀ m ∈ l, m < 256 := fun m hm => ok.m (hl m hm)
  have hll : l.length ≤ 100000 := by have := hs.1; rwa [List.length_map] at this
  have emk : masks (.list (l.map lot)) = l := by
    show (l.map lot).map mk = l
    rw [List.map_map]
    have z : ∀ m ∈ l, (mk ∘ lot) m = id m := fun m hm => mk_lot (l8 m hm)
    rw [List.map_congr_left z, List.map_id]
  have hbar : barsM bs b (.list (l.map lot)) = (decide ((setOf l).length = l.length) && closedB bs b (setOf l)) := by
    unfold barsM lotsOk
    rw [emk, h2.2, Bool.true_and]
  have hy2 := hy1.up (.k0 k2)
  have kk2 := k1.trans k2
  refine p_asg (Φ := da (.list (l.map tlot))) (em_lcM (c := 0) (it := lot) (g := tlot) (sr_listM (ev_var rfl hy2)) hll (fun x => rfl) fun m A1 H3 x hm w px => ev_tuple (ev_var rfl px)) lv2 fun v5 H3 k3 lv3 p3 => ?_
  have kk3 := kk2.trans k3
  refine p_if (T := ((!decide (((setOf l).length : Int) = (l.length : Int)) || (!decide (0 ∈ l) && decide ((held bs 0 : Int) ≤ b))) = ·)) (vt_or1 (vt_B (ev_neI (ev_is (em_lenDT (c := 0) (em_dictT (c := 0) (f := fun _ => .bool true) (g := yes) (l := l) (fun A H m v r => Rp.bl_eq r) (em_lcM (c := 0) (it := tlot) (g := fun m => .tuple [tlot m, .bool true]) (sr_listM (ev_var rfl p3)) hll (fun x => rfl) fun m A1 H4 x hm w px => ev_tupD (evd_cons (ev_var rfl px) (evd_cons ev_bl evd_nil)) (show (2 : Nat) ≤ 100000 by decide)) l8)) (by rw [kvm_len])) (ev_is (ev_len (ev_var rfl p3)) (by rw [List.length_map])))) fun _ => vt_and1 (vt_B (ev_is (ev_notInD (d := tlot 0) (ev_tupD evd_nil (by decide)) (ev_var rfl p3) (shaped_t 0) (shaped_tl l)) (by rw [any_tlot (by decide) l8]))) fun _ => vt_B (ev_cmp (em_dGetT (c := 0) (c1 := 0) (m := 0) (Θ := da (.int (held bs 0 : Int))) (ev_var rfl (hT (.k0 kk3))) (ev_tupD evd_nil (by decide)) ms8 z0 fun _ _ => .int _) (ev_var rfl (.int b)))) lv3 (fun ht H4 k4 lv4 => ?_) (fun ht H4 k4 lv4 => ?_)
  · refine p_ret ev_bl lv4 fun v H5 k5 p => k v H5 ((kk3.trans k4).trans k5) ?_
    have : barsM bs b (.list (l.map lot)) = false := by
      rw [hbar]
      rcases (Bool.or_eq_true _ _).mp ht with z | z
      · have z : ¬ ((setOf l).length : Int) = (l.length : Int) := by simpa using z
        rw [decide_eq_false (by omega), Bool.false_and]
      · obtain ⟨z1, z2⟩ := (Bool.and_eq_true _ _).mp z
        have z1 : 0 ∉ l := by simpa using z1
        have z2 := of_decide_eq_true z2
        have : closedB bs b (setOf l) = false := by
          unfold closedB
          rw [decide_eq_false (fun q => z1 (setOf_mem.mp q)), decide_eq_false (by omega), Bool.or_false, Bool.and_false]
        rw [this, Bool.and_false]
    rw [this]
    exact p
  refine to_next ?_
  dsimp only
  have ht2 := ht
  rw [Bool.or_eq_false_iff] at ht2
  have hd1 : (setOf l).length = l.length := by
    have : ((setOf l).length : Int) = (l.length : Int) := by simpa using ht2.1
    omega
  have hz1 : (decide (0 ∈ setOf l) || decide ((held bs 0 : Int) > b)) = true := by
    by_cases z : 0 ∈ l
    · rw [decide_eq_true (setOf_mem.mpr z), Bool.true_or]
    · have := ht2.2
      rw [decide_eq_false z, Bool.not_false, Bool.true_and] at this
      have := of_decide_eq_false this
      rw [decide_eq_true (by omega : (held bs 0 : Int) > b), Bool.or_true]
  have kk4 := kk3.trans k4
  have p4 := p3.up (.k0 k4)
  refine p_forS (fun i σ' H' => ∃ x6 x7, σ' = [some v, some (.ref dh), some (.int b), some y, some (.int (bs.length : Int)), some v5, x6, x7] ∧ ∀ j, j < i → ∀ m, l[j]? = some m → okL bs b (setOf l) m = true) (sr_listM (it := tlot) (ev_var rfl p4)) lv4 (fun _ _ _ _ h _ => h) (fun _ _ => ⟨none, none, rfl, fun j hj => absurd hj (Nat.not_lt_zero j)⟩) (fun H5 i σ' H' z k5 hi ⟨x6, x7, hσ, hall⟩ k6 lv6 px => ?_) (fun σ' H' ⟨x6, x7, hσ, hall⟩ k5 lv5 => ?_)
  · subst hσ
    have hi2 : i < l.length := hi
    have hmi : l[i]? = some (l.getD i 0) := by rw [List.getD_eq_getElem?_getD, List.getElem?_eq_getElem hi2]; rfl
    have hmem : l.getD i 0 ∈ l := getD_mem hi2
    have px : Rp A H' z (tlot (l.getD i 0)) := px
    generalize l.getD i 0 = m at *
    have hm := hl m hmem
    have hm8 := l8 m hmem
    have kk6 : Kp no H H' := (kk4.trans k5).trans k6
    have fin : okL bs b (setOf l) m = false → ∀ u H7, Kp no H H7 → (da (.bool false)).p A H7 u → Q u H7 := fun ho u H7 k7 p7 => by
      refine k u H7 k7 ?_
      have : barsM bs b (.list (l.map lot)) = false := by
        rw [hbar]
        have : closedB bs b (setOf l) = false := by
          unfold closedB
          have : (setOf l).all (okL bs b (setOf l)) = false := by
            rw [List.all_eq_false]
            exact ⟨m, setOf_mem.mpr hmem, by rw [ho]; simp⟩
          rw [this, Bool.false_and]
        rw [this, Bool.and_false]
      rw [this]
      exact p7
    dsimp only
    refine p_if (T := ((decide ((held bs m : Int) > b) || decide ((pc m : Int) > (bs.length : Int) - 2)) = ·)) (vt_or1 (vt_B (ev_cmp (em_dGetT (c := 0) (c1 := 0) (m := m) (Θ := da (.int (held bs m : Int))) (ev_var rfl (hT (.k0 kk6))) (ev_var rfl px) ms8 ((mm m).mpr hm) fun _ _ => .int _) (ev_var rfl (.int b)))) fun _ => vt_B (ev_cmp (ev_is (ev_lenT (ev_var rfl px)) (by rw [List.length_map]; rfl)) (ev_bin (ev_var rfl (.int (bs.length : Int))) ev_int))) lv6 (fun hq H7 k7 lv7 => ?_) (fun hq H7 k7 lv7 => ?_)
    · refine p_ret ev_bl lv7 fun u H8 k8 p8 => fin ?_ u H8 ((kk6.trans k7).trans k8) p8
      unfold okL
      rcases (Bool.or_eq_true _ _).mp hq with z | z
      · have z := of_decide_eq_true z
        rw [decide_eq_false (by omega : ¬ (held bs m : Int) ≤ b), Bool.false_and, Bool.false_and]
      · have z := of_decide_eq_true z
        rw [decide_eq_false (by omega : ¬ pc m + 1 < bs.length), Bool.and_false, Bool.false_and]
    refine to_next ?_
    dsimp only
    rw [Bool.or_eq_false_iff] at hq
    have g1 := of_decide_eq_false hq.1
    have g2 := of_decide_eq_false hq.2
    have px7 := px.up (.k0 k7)
    have p7 := p4.up (.k0 ((k5.trans k6).trans k7))
    have kk7 := kk6.trans k7
    refine p_forS (fun i' σ' H'' => ∃ x7, σ' = [some v, some (.ref dh), some (.int b), some y, some (.int (bs.length : Int)), some v5, some z, x7] ∧ ∀ c, c < i' → m.testBit c = false → m ||| 2 ^ c ∈ l ∨ (held bs (m ||| 2 ^ c) : Int) > b) (sr_rngM (ev_var rfl (.int (bs.length : Int))) (by omega)) lv7 (fun _ _ _ _ h _ => h) (fun _ _ => ⟨x7, rfl, fun c hc => absurd hc (Nat.not_lt_zero c)⟩) (fun H8 i' σ' H'' u k8 hi' ⟨x7, hσ, hthis⟩ k9 lv9 pu => ?_) (fun σ' H'' ⟨x7, hσ, hthis⟩ k8 lv8 => ?_)
    · subst hσ
      rw [List.length_range] at hi'
      have pu : Rp A H'' u (nat ((List.range bs.length).getD i' 0)) := pu
      rw [show (List.range bs.length).getD i' 0 = i' by rw [List.getD_eq_getElem?_getD, List.getElem?_range hi']; rfl] at pu
      obtain rfl := Rp.int_eq pu
      have wz := px7.up (.k0 (k8.trans k9))
      have ws := p7.up (.k0 (k8.trans k9))
      have kk9 := (kk7.trans k8).trans k9
      have hy' : m.testBit i' = false → m ||| 2 ^ i' < 2 ^ bs.length := fun _ => or_lt2 hm hi'
      have hW : (!m.testBit i') = true → ∀ {e : Ef} {E : XK}, Em e 0 (tCall sp_law_wider [] E (tCons (tVar 6) (tCons (tVar 7) tNil))) [some v, some (.ref dh), some (.int b), some y, some (.int (bs.length : Int)), some v5, some z, some (.int (i' : Int))] A H'' (da (tlot (m ||| 2 ^ i'))) := fun hq {e E} => v_law_wider hm8 (by omega) (by simpa using hq) (ev_var (i := 6) rfl wz) (ev_var (i := 7) rfl (.int (i' : Int)))
      dsimp only
      refine p_if (T := ((!m.testBit i' && (!decide (m ||| 2 ^ i' ∈ l) && decide ((held bs (m ||| 2 ^ i') : Int) ≤ b))) = ·)) (vt_and1 (vt_B (ev_is (em_inNT (c1 := 0) (c2 := 0) (neg := true) (ev_var rfl (.int (i' : Int))) (ev_var rfl wz)) (by show PyData.bool (!decide (i' ∈ blk m)) = _; rw [blk_bit (by omega)]))) fun ha => vt_and1 (vt_B (ev_is (ev_notInD (hW ha) (ev_var rfl ws) (shaped_t _) (shaped_tl l)) (by rw [any_tlot (ok.m (or_lt2 hm hi')) l8]))) fun _ => vt_B (ev_cmp (em_dGetT (c := 0) (c1 := 0) (m := m ||| 2 ^ i') (Θ := da (.int (held bs (m ||| 2 ^ i') : Int))) (ev_var rfl (hT (.k0 kk9))) (hW ha) ms8 ((mm _).mpr (or_lt2 hm hi')) fun _ _ => .int _) (ev_var rfl (.int b)))) lv9 (fun hq2 H10 k10 lv10 => ?_) (fun hq2 H10 k10 lv10 => ?_)
      · refine p_ret ev_bl lv10 fun u H11 k11 p11 => fin ?_ u H11 ((kk9.trans k10).trans k11) p11
        obtain ⟨a1, a2⟩ := (Bool.and_eq_true _ _).mp hq2
        obtain ⟨a2, a3⟩ := (Bool.and_eq_true _ _).mp a2
        have a1 : m.testBit i' = false := by simpa using a1
        have a2 : m ||| 2 ^ i' ∉ l := by simpa using a2
        have a3 := of_decide_eq_true a3
        unfold okL
        have : ((out bs.length m).map fun x => decide (m ||| 2 ^ x ∈ setOf l) || decide ((held bs (m ||| 2 ^ x) : Int) > b)).all id = false := by
          rw [List.all_map, List.all_eq_false]
          refine ⟨i', out_mem.mpr ⟨hi', a1⟩, ?_⟩
          show ¬ (decide (m ||| 2 ^ i' ∈ setOf l) || decide ((held bs (m ||| 2 ^ i') : Int) > b)) = true
          rw [decide_eq_false (fun q => a2 (setOf_mem.mp q)), decide_eq_false (by omega : ¬ (held bs (m ||| 2 ^ i') : Int) > b)]
          decide
        rw [this, Bool.and_false]
      · refine Iw.p ⟨some (.int (i' : Int)), rfl, fun c hc hb => ?_⟩ (k9.trans k10) lv10
        by_cases z : c < i'
        · exact hthis c z hb
        · have : c = i' := by omega
          subst this
          rw [hb, Bool.not_false, Bool.true_and] at hq2
          by_cases z2 : m ||| 2 ^ c ∈ l
          · exact .inl z2
          · rw [decide_eq_false z2, Bool.not_false, Bool.true_and] at hq2
            have := of_decide_eq_false hq2
            exact .inr (by omega)
    · subst hσ
      rw [List.length_range] at hthis
      refine Iw.p ⟨some z, x7, rfl, fun j hj m2 hj2 => ?_⟩ ((k6.trans k7).trans k8) lv8
      by_cases z : j < i
      · exact hall j z m2 hj2
      · have : j = i := by omega
        subst this
        rw [hmi] at hj2
        cases hj2
        unfold okL
        rw [decide_eq_true (by omega : (held bs m : Int) ≤ b), decide_eq_true (by omega : pc m + 1 < bs.length), Bool.true_and, Bool.true_and, List.all_map, List.all_eq_true]
        intro x hx
        obtain ⟨hx1, hx2⟩ := out_mem.mp hx
        show (decide (m ||| 2 ^ x ∈ setOf l) || decide ((held bs (m ||| 2 ^ x) : Int) > b)) = true
        rcases hthis x hx1 hx2 with q | q
        · rw [decide_eq_true (setOf_mem.mpr q), Bool.true_or]
        · rw [decide_eq_true q, Bool.or_true]
  · subst hσ
    dsimp only
    refine p_ret (Φ := da (.bool true)) ev_bl lv5 fun v H6 k6 p => k v H6 ((kk4.trans k5).trans k6) ?_
    have : barsM bs b (.list (l.map lot)) = true := by
      rw [hbar, decide_eq_true hd1, Bool.true_and]
      unfold closedB
      rw [hz1, Bool.and_true, List.all_eq_true]
      intro m hm
      obtain ⟨j, hj, hj2⟩ := List.mem_iff_getElem.mp (setOf_mem.mp hm)
      exact hall j hj m (by rw [List.getElem?_eq_getElem hj, hj2])
    rw [this]
    exact p
theorem v_law_bars {e : Ef} {ta tb tc td : TE} {σ : L2.St} {A : As} {H : Hp} {E : XK} {old : Nat} {rows : List (List Nat)} {b : Int} {d : PyData} (ok : okR old rows) (hs : sm2 d) (h : Em e 0 ta σ A H (da (recD old rows))) (h2 : Em e 0 tb σ A H (holdsP (bitsR rows))) (h3 : Em e 0 tc σ A H (da (.int b))) (h4 : Em e 0 td σ A H (da d)) : Em e 0 (tCall sp_law_bars [] E (tCons ta (tCons tb (tCons tc (tCons td tNil))))) σ A H (da (.bool (barsM (bitsR rows) b d))) :=
  em_pm (c := 0) (eva_cons h (eva_cons h2 (eva_cons h3 (eva_cons h4 eva_nil)))) fun A' H' vs w p => by
    obtain ⟨x, y, z, u, rfl, q, q2, q3, q4⟩ := pvs4 p
    obtain rfl := Rp.int_eq q3
    exact ⟨x, y, u, old, rows, d, b, rfl, q, ok, q2, q4, hs, rfl⟩
end
end SB
namespace SB
open PySem PySem.Spec PyProof.Rows L2 LamX RZ
/-! ### data of a depth -/
def atom : PyData → Bool
  | .none => true
  | .bool _ => true
  | .int _ => true
  | _ => false
def okd (N : Nat) : Nat → PyData → Prop
  | 0, d => atom d = true
  | k + 1, d => atom d = true ∨ ∃ ds, (d = .list ds ∨ d = .tuple ds) ∧ ds.length ≤ N ∧ ∀ x ∈ ds, okd N k x
theorem okd.mono {N M : Nat} (h : N ≤ M) : ∀ {k : Nat} {d : PyData}, okd N k d → okd M k d
  | 0, _, q => q
  | k + 1, _, .inl q => .inl q
  | k + 1, _, .inr ⟨ds, h1, h2, h3⟩ => .inr ⟨ds, h1, by omega, fun x hx => okd.mono h (h3 x hx)⟩
theorem okd.succ {N : Nat} : ∀ {k : Nat} {d : PyData}, okd N k d → okd N (k + 1) d
  | 0, _, q => .inl q
  | k + 1, _, .inl q => .inl q
  | k + 1, _, .inr ⟨ds, h1, h2, h3⟩ => .inr ⟨ds, h1, h2, fun x hx => okd.succ (h3 x hx)⟩
theorem okd.noDc {N : Nat} : ∀ {k : Nat} {d : PyData}, okd N k d → isDc d = false
  | 0, d, q => by cases d <;> first | rfl | cases q
  | k + 1, d, .inl q => by cases d <;> first | rfl | cases q
  | k + 1, d, .inr ⟨ds, h1, _⟩ => by rcases h1 with rfl | rfl <;> rfl
theorem okd.len {N : Nat} : ∀ {k : Nat} {ds : List PyData}, okd N k (.list ds) → ds.length ≤ N ∧ ∃ j, k = j + 1 ∧ ∀ x ∈ ds, okd N j x
  | 0, _, q => by cases q
  | k + 1, _, .inl q => by cases q
  | k + 1, ds, .inr ⟨es, h1, h2, h3⟩ => by
    rcases h1 with z | z
    · cases z
      exact ⟨h2, k, rfl, h3⟩
    · cases z
theorem okd.lenT {N : Nat} : ∀ {k : Nat} {ds : List PyData}, okd N k (.tuple ds) → ds.length ≤ N ∧ ∃ j, k = j + 1 ∧ ∀ x ∈ ds, okd N j x
  | 0, _, q => by cases q
  | k + 1, _, .inl q => by cases q
  | k + 1, ds, .inr ⟨es, h1, h2, h3⟩ => by
    rcases h1 with z | z
    · cases z
    · cases z
      exact ⟨h2, k, rfl, h3⟩
theorem okd.sml {N k : Nat} {d : PyData} (hN : N ≤ 100000) (h : okd N k d) : sml d := by
  cases d with
  | list ds => exact Nat.le_trans h.len.1 hN
  | _ => trivial
theorem okd.sm2 {N k : Nat} {d : PyData} (hN : N ≤ 100000) (h : okd N k d) : sm2 d := by
  cases d with
  | list ds =>
    obtain ⟨h1, j, rfl, h2⟩ := h.len
    exact ⟨by omega, fun x hx => (h2 x hx).sml hN⟩
  | _ => trivial
section
variable {e : Ef} {c c1 c2 ct ce : Nat} {K : PySem.W.Frag} {mg : Str → Option Value} {ta tb tc te tl tk td ty tv : TE} {tt tu : TT} {σ : L2.St} {A A' : As} {H H' : Hp} {Φ Ψ Θ : Pv} {ds es : List PyData} {d : PyData} {n m : Nat} {E : XK} {D : Ends} {i j k : Int} {v x : V} {g : TG} {wi : TI} {a b : Bool}
theorem em_lcG {wi : TI} {G : TG} {S : Nat → As → Hp → L2.St → Prop} {N : Nat} {vs : List Nat} {It : Nat → Pv} {Tt : Nat → Bool → Prop} {Φ : Nat → Pv} (hs : Sr e c wi σ A H N It) (hN : N ≤ 100000) (hg : ∀ i A1 H1 x, i < N → Wl A H A1 H1 → (It i).p A1 H1 x → ∀ R : L2.St → Hp → Prop, (∀ σ1, wipe σ1 vs = wipe σ vs → S i A1 H1 σ1 → R σ1 H1) → G x (wipe σ vs) H1 R)
    (ht : ∀ i A1 H1 σ1, i < N → Wl A H A1 H1 → S i A1 H1 σ1 → EmT e ct tt σ1 A1 H1 (Tt i))
    (he : ∀ i A1 H1 σ1, i < N → Wl A H A1 H1 → S i A1 H1 σ1 → Tt i true → Em e ce te σ1 A1 H1 (Φ i)) :
    Em e (c + N * (ct + ce)) (tLc wi G tt te vs) σ A H (exv (fun f : Nat → Bool => ∀ i, i < N → Tt i (f i)) fun f => lsQ ((List.range N).filter f) Φ) := fun A' H' n w cu hn Q q =>
  hs A' H' n w cu (by omega) _ fun J H2 G Y k2 j2 wk hG hY D hD => by
    have cu2 : Cur e A' H2 (n + c) := cu.aft k2 j2
    have nB : ¬ e.B D := fun z => cu2.lv.fresh hD (cu2.sub D z)
    have c3 : Cur e (Ad A' D) (upd H2 D (.lst [])) (n + c) := cu2.push hD
    have w3 : Wl A' H2 (Ad A' D) (upd H2 D (.lst [])) := .push hD
    have subD : ∀ a, Ad e.B D a → Ad A' D a := fun a z => z.imp (cu.sub a) id
    have mono1 : ∀ i, i < N → (i + 1) * (ct + ce) ≤ N * (ct + ce) := fun i hi => Nat.mul_le_mul_right _ hi
    refine lc_it wk (fun i Hc => ∃ (f : Nat → Bool) (acc : List V), (∀ k, k < i → Tt k (f k)) ∧ Hc D = some (.lst acc) ∧ Paired (fun k x => (Φ k).p (Ad A' D) Hc x) ((List.range i).filter f) acc ∧ Kp (Ad e.B D) (upd H2 D (.lst [])) Hc ∧ e.J (n + c + i * (ct + ce)) Hc)
      ⟨fun _ => true, [], fun k hk => absurd hk (Nat.not_lt_zero k), upd_same, .nil, .refl _, by rw [Nat.zero_mul]; exact c3.j⟩ (fun i Hc _ ⟨f, acc, _, _, _, kk, _⟩ => hG (Ad A' D) Hc (w3.trans (.of kk subD))) ?_ ?_
    · rintro i x Hc H4 hi ⟨f, acc, hf, hacc, hp, kk, jj⟩ y
      have wc : Wl A' H2 (Ad A' D) Hc := w3.trans (.of kk subD)
      have lc : Lv (Ad A' D) Hc := c3.lv.kp kk
      obtain ⟨k4, p4⟩ := hY i (Ad A' D) Hc x H4 hi wc lc y
      have cuc : Cur e (Ad A' D) Hc (n + c + i * (ct + ce)) := ⟨c3.sub, lc, jj⟩
      have cu4 := cuc.keep k4
      have w4 : Wl A H (Ad A' D) H4 := (w.trans (cu.wl k2)).trans (wc.trans (.of0 k4))
      have m1 := mono1 i hi
      rw [Nat.succ_mul] at m1
      refine hg i (Ad A' D) H4 x hi w4 p4 _ fun σ1 hw1 s1 => ⟨hw1, ht i (Ad A' D) H4 σ1 hi w4 s1 (Ad A' D) H4 _ (.refl _ _) cu4 (by omega) _ fun b H5 k5 j5 t5 => ?_⟩
      have hacc5 : H5 D = some (.lst acc) := k5.1 D _ nB (k4.1 D _ id hacc)
      cases b with
      | true =>
        show te _ H5 _
        refine he i (Ad A' D) H4 σ1 hi w4 s1 t5 (Ad A' D) H5 _ (cu4.wl k5) (cu4.aft k5 j5) (by omega) _ fun y H6 k6 j6 p6 => ?_
        have hacc6 : H6 D = some (.lst acc) := k6.1 D _ nB hacc5
        have hl : acc.length ≤ i := by
          rw [← hp.length]
          refine Nat.le_trans (List.length_filter_le _ _) ?_
          rw [List.length_range]
          exact Nat.le_refl _
        have kf : Kp (Ad e.B D) Hc (upd H6 D (.lst (acc ++ [y]))) := ((k4.any.trans ((k5.trans k6).mono fun a z => .inl z))).trans (.mut (.inr rfl) (by rw [hacc6]; intro _ z; cases z))
        have wf : Wl (Ad A' D) Hc (Ad A' D) (upd H6 D (.lst (acc ++ [y]))) := .of kf subD
        refine ⟨acc, hacc6, sl5 (by omega), fun k => if k = i then true else f k, acc ++ [y], fun k hk => ?_, upd_same, ?_, kk.trans kf, ?_⟩
        · show Tt k (if k = i then _ else f k)
          by_cases z : k = i
          · rw [if_pos z, z]; exact t5
          · rw [if_neg z]; exact hf k (by omega)
        · rw [filter_succ, if_pos (by rw [if_pos rfl]), filter_congr (g := f) fun k hk => if_neg (by omega)]
          exact paired_snoc (Paired.mapP hp fun k x h => (Φ k).up wf h) ((Φ i).up (.of (B := Ad e.B D) (.mut (.inr rfl) (by rw [hacc6]; intro _ z; cases z)) subD) p6)
        · refine Ef.mut nB (fun φ z => by rw [hacc6] at z; cases z) ?_
          have e1 : n + c + (i + 1) * (ct + ce) = n + c + i * (ct + ce) + ct + ce := by rw [Nat.succ_mul]; omega
          rw [e1]
          exact j6
      | false =>
        have kf : Kp (Ad e.B D) Hc H5 := k4.any.trans (k5.mono fun a z => .inl z)
        have wf : Wl (Ad A' D) Hc (Ad A' D) H5 := .of kf subD
        refine ⟨fun k => if k = i then false else f k, acc, fun k hk => ?_, hacc5, ?_, kk.trans kf, ?_⟩
        · show Tt k (if k = i then _ else f k)
          by_cases z : k = i
          · rw [if_pos z, z]; exact t5
          · rw [if_neg z]; exact hf k (by omega)
        · rw [filter_succ, if_neg (by rw [if_pos rfl]; decide), List.append_nil, filter_congr (g := f) fun k hk => if_neg (by omega)]
          exact Paired.mapP hp fun k x h => (Φ k).up wf h
        · refine e.mono ?_ j5
          rw [Nat.succ_mul]
          omega
    · rintro Hc ⟨f, acc, hf, hacc, hp, kk, jj⟩
      have kQ : Kp e.B H2 Hc := ⟨fun a o na ha => kk.1 a o (fun z => z.elim na fun z2 => by rw [z2, hD] at ha; cases ha) (by rw [upd_ne (ne_of_none ha hD)]; exact ha), fun a ha => kk.2 a (by
        by_cases z : a = D
        · rw [z, upd_same]; simp
        · rw [upd_ne z]; exact ha), fun a xs ha => kk.3 a xs (by rw [upd_ne (ne_of_none ha hD)]; exact ha)⟩
      exact q (.ref D) Hc (k2.trans kQ) (by rw [← Nat.add_assoc]; exact jj) ⟨f, hf, D, acc, rfl, cu2.lv.fresh hD, hacc, Paired.mapP hp fun k x h => (Φ k).dn (fun a z => .inl z) h⟩
/-- over a tuple's items -/
theorem em_lcLT {j : Nat} {vs : List Nat} {f : PyData → PyData} (h : Em e c tl σ A H (da (.tuple ds))) (hN : ds.length ≤ 100000) (hw : ∀ x, wipe ((wipe σ vs).set j (some x)) vs = wipe σ vs)
    (he : ∀ d A1 H1 x, d ∈ ds → Wl A H A1 H1 → Rp A1 H1 x d → Em e ce te ((wipe σ vs).set j (some x)) A1 H1 (da (f d))) :
    Em e (c + ds.length * ce) (tLc (iTup K tl) (gName j) tYes te vs) σ A H (da (.list (ds.map f))) := by
  have := em_lcD (g := fun i => f (ds.getD i .none)) (sr_tup (K := K) h) hN hw fun i A1 H1 x hi w p => he _ A1 H1 x (by
    rw [List.getD_eq_getElem?_getD, List.getElem?_eq_getElem hi]
    exact List.getElem_mem hi) w p
  rw [range_map] at this
  exact this
theorem ev_lcLT {j : Nat} {vs : List Nat} {f : PyData → PyData} (h : Em e 0 tl σ A H (da (.tuple ds))) (hN : ds.length ≤ 100000) (hw : ∀ x, wipe ((wipe σ vs).set j (some x)) vs = wipe σ vs)
    (he : ∀ d A1 H1 x, d ∈ ds → Wl A H A1 H1 → Rp A1 H1 x d → Em e 0 te ((wipe σ vs).set j (some x)) A1 H1 (da (f d))) :
    Em e 0 (tLc (iTup K tl) (gName j) tYes te vs) σ A H (da (.list (ds.map f))) := by
  have h := em_lcLT (e := e) (K := K) (c := 0) (ce := 0) h hN hw he
  simp only [Nat.mul_zero, Nat.add_zero] at h
  exact h
theorem walk_zipT {xs ys : List V} {p q : Addr} {n : Nat} (hn : n = min xs.length ys.length) : Walk (ItzT K p q) n (fun H => SqT K H p xs ∧ SqT K H q ys) (YPair (fun i => xs[i]?) (fun i => ys[i]?)) := by
  subst hn
  refine ⟨fun i _ hi q => ?_, fun _ q => ⟨xs, ys, q.1, q.2, by omega⟩, fun i H v H' _ q y => ?_⟩
  · have h1 : i < xs.length := by omega
    have h2 : i < ys.length := by omega
    exact ⟨xs, ys, xs[i], ys[i], q.1, q.2, by simp [h1], by simp [h2]⟩
  · obtain ⟨T, x, z, h1, h2, h3, h4, h5⟩ := y
    exact ⟨T, x, z, h1, h2, h3, h4 xs q.1, h5 ys q.2⟩
/-- two of the same data, side by side -/
theorem sr_zip {ta : TA} (hd : (d = .list ds) ∨ d = .tuple ds) (h : EmA e 0 ta σ A H [da d, da d]) : Sr e 0 (iZipA K ta) σ A H ds.length (fun i => da (.tuple [ds.getD i .none, ds.getD i .none])) := fun A' H' n w cu hn R q =>
  h A' H' n w cu hn _ fun vs H2 k jj p => by
    obtain ⟨y1, y2, rfl, p1, p2⟩ := pvs2 p
    rcases hd with rfl | rfl
    · obtain ⟨a, xs, rfl, na, ha, r⟩ := Rp.list_eq p1
      obtain ⟨b, ys, rfl, nb, hb, s⟩ := Rp.list_eq p2
      refine ⟨a, b, xs, ys, rfl, .inl ⟨SqL.of ha, SqL.of hb, q (Itz K a b) H2 _ _ k jj (walk_zip (xs := xs) (ys := ys) (by rw [r.length, s.length, Nat.min_self])) (fun A3 H3 w3 => ⟨SqL.of (w3.f a _ na ha).2, SqL.of (w3.f b _ nb hb).2⟩) fun i A3 H3 x H4 hi w3 l3 y => ?_⟩⟩
      obtain ⟨T, x1, x2, rfl, hT, rfl, h1, h2⟩ := y
      obtain ⟨d1, hd1, r1⟩ := (r.up w3).get h1
      obtain ⟨d2, hd2, r2⟩ := (s.up w3).get h2
      have e1 : ds.getD i .none = d1 := by rw [List.getD_eq_getElem?_getD, hd1]; rfl
      have e2 : d2 = d1 := by rw [hd1] at hd2; exact (Option.some.inj hd2).symm
      subst e2
      refine ⟨.new hT, ?_⟩
      show Rp A3 _ _ (.tuple [ds.getD i .none, ds.getD i .none])
      rw [e1]
      exact .tup upd_same (.cons (r1.up (.of0 (.new hT))) (.cons (r2.up (.of0 (.new hT))) .nil))
    · obtain ⟨a, xs, rfl, ha, r⟩ := Rp.tuple_eq p1
      obtain ⟨b, ys, rfl, hb, s⟩ := Rp.tuple_eq p2
      refine ⟨a, b, xs, ys, rfl, .inr ⟨SqT.of ha, SqT.of hb, q (ItzT K a b) H2 _ _ k jj (walk_zipT (xs := xs) (ys := ys) (by rw [r.length, s.length, Nat.min_self])) (fun A3 H3 w3 => ⟨SqT.of (w3.kp.3 a _ ha), SqT.of (w3.kp.3 b _ hb)⟩) fun i A3 H3 x H4 hi w3 l3 y => ?_⟩⟩
      obtain ⟨T, x1, x2, rfl, hT, rfl, h1, h2⟩ := y
      obtain ⟨d1, hd1, r1⟩ := (r.up w3).get h1
      obtain ⟨d2, hd2, r2⟩ := (s.up w3).get h2
      have e1 : ds.getD i .none = d1 := by rw [List.getD_eq_getElem?_getD, hd1]; rfl
      have e2 : d2 = d1 := by rw [hd1] at hd2; exact (Option.some.inj hd2).symm
      subst e2
      refine ⟨.new hT, ?_⟩
      show Rp A3 _ _ (.tuple [ds.getD i .none, ds.getD i .none])
      rw [e1]
      exact .tup upd_same (.cons (r1.up (.of0 (.new hT))) (.cons (r2.up (.of0 (.new hT))) .nil))
end
section
variable {K : PySem.W.Frag} {mg : Str → Option Value} {P : Program} {w : World} {base : Heap}
/-! _law_same -/
def spS : Nat → Sp
  | 0 => fun _ _ _ _ => False
  | j + 1 => Pm fun A H vs Θ => ∃ v d, vs = [v] ∧ Rp A H v d ∧ okd 2000 j d ∧ Θ = da d
theorem v_law_same {e : Ef} {c : Nat} {ta : TE} {σ : L2.St} {A : As} {H : Hp} {E : XK} {j : Nat} {d : PyData} (hd : okd 2000 j d) (h : Em e c ta σ A H (da d)) : Em e c (tCall (spS (j + 1)) [] E (tCons ta tNil)) σ A H (da d) :=
  em_pm (ema_cons (c2 := 0) h ema_nil) fun A' H' vs w p => by
    obtain ⟨x, rfl, q⟩ := pvs1 p
    exact ⟨x, d, rfl, q, hd, rfl⟩
abbrev s_law_same : Stmt := top 42
abbrev N_law_same : List Str := ["_law_thing", "_law_key", "_law_item"]
theorem sc_law_same : FnScope N_law_same ["_law_thing"] (defScope s_law_same) := ⟨rfl, rfl, rfl, by decide +kernel, rfl, by decide +kernel, by decide +kernel⟩
theorem c_sameZ (T : Tx K mg) : C8.Cal P w K mg base 1 "_law_same" (spS 0) [] :=
  mkCal T 29 35 rfl rfl sc_law_same (fun _ _ _ _ _ _ us hl => match us, hl with | [_], _ => rfl) (fun vs H Q E h => h.elim) (fun f cdv A outer s H vs Q E hr h => h.elim)
theorem c_sameS (T : Tx K mg) (j : Nat) (c_law_same : C8.Cal P w K mg base (j + 1) "_law_same" (spS j) []) : C8.Cal P w K mg base (j + 2) "_law_same" (spS (j + 1)) [] := by
  refine mkCal T 29 35 rfl rfl sc_law_same (fun _ _ _ _ _ _ us hl => match us, hl with | [_], _ => rfl) (fun vs H Q E h => ?_) (fun f cdv A outer s H vs Q E hr h => ?_)
  · obtain ⟨A, Θ, _, ⟨v, _, rfl, _⟩, _⟩ := h
    rfl
  obtain ⟨A, Θ, lv, ⟨v, d, rfl, hv, hd, rfl⟩, k⟩ := h
  refine ⟨_, (pss_cons (ps_if (pt_val (pe_callB (k_isi (K := K)) rfl T.isinstance_ bt_isinstance (pa_cons (pv 0) (pa_cons (pe_bltn (v := .ty "dict") rfl T.dict_ bt_dict rfl) pa_nil)))) (pss_one (ps_ret (pe_callTy (k_dictP (K := K) rfl) rfl T.dict_ bt_dict (pa_cons (pe_lc (own := [("_law_key", 1)]) rfl sc_law_same.nd (kpi_list (K := K) (pv 0)) (blkOk_by (own := [("_law_key", 1)]) (N := N_law_same) (sc := defScope s_law_same) (by decide +kernel)) (fun _ _ _ _ _ => (pg_name (i := 1) sc_law_same.nd rfl (Or.inl rfl))) (fun _ _ _ _ _ => pts_nil) (fun _ _ _ _ _ => (pe_tup (pa_cons (pv 1) (pa_cons (C8.pe_c c_law_same hr (Nat.le_refl _) rfl (pa_cons (pe_ix (kix_list (K := K)) (pv 0) (pv 1) (fun _ _ => rfl)) pa_nil)) pa_nil))))) pa_nil)))) pss_nil)
  (pss_cons (ps_if (pt_val (pe_callB (k_isi (K := K)) rfl T.isinstance_ bt_isinstance (pa_cons (pv 0) (pa_cons (pe_bltn (v := .ty "list") rfl T.list_ bt_list rfl) pa_nil)))) (pss_one (ps_ret (pe_lc (own := [("_law_item", 2)]) rfl sc_law_same.nd (kpi_list (K := K) (pv 0)) (blkOk_by (own := [("_law_item", 2)]) (N := N_law_same) (sc := defScope s_law_same) (by decide +kernel)) (fun _ _ _ _ _ => (pg_name (i := 2) sc_law_same.nd rfl (Or.inl rfl))) (fun _ _ _ _ _ => pts_nil) (fun _ _ _ _ _ => (C8.pe_c c_law_same hr (Nat.le_refl _) rfl (pa_cons (pv 2) pa_nil)))))) pss_nil)
  (pss_one (ps_ret (pe_ifExp (pt_val (pe_callB (k_isi (K := K)) rfl T.isinstance_ bt_isinstance (pa_cons (pv 0) (pa_cons (pe_bltn (v := .ty "tuple") rfl T.tuple_ bt_tuple rfl) pa_nil)))) (pe_callTy (k_tuple (K := K)) rfl T.tuple_ bt_tuple (pa_cons (pe_lc (own := [("_law_item", 2)]) rfl sc_law_same.nd (kpi_tup (K := K) (pv 0)) (blkOk_by (own := [("_law_item", 2)]) (N := N_law_same) (sc := defScope s_law_same) (by decide +kernel)) (fun _ _ _ _ _ => (pg_name (i := 2) sc_law_same.nd rfl (Or.inl rfl))) (fun _ _ _ _ _ => pts_nil) (fun _ _ _ _ _ => (C8.pe_c c_law_same hr (Nat.le_refl _) rfl (pa_cons (pv 2) pa_nil)))) pa_nil)) (pv 0)))))), ?_⟩
  have e1 : ∀ {A' H'}, Wl A H A' H' → Ev (tVar 0) (L2.start N_law_same [v]) A' H' (da d) := fun w => ev_var rfl (hv.up w)
  refine p_if (T := (false = ·)) (vt_is (vt_v (ev_isDc (e1 (.refl _ _)))) hd.noDc) lv (fun h => by cases h) fun _ H1 k1 lv1 => ?_
  refine to_next ?_
  dsimp only
  refine p_if (T := (isLst d = ·)) (vt_v (ev_isLst (e1 (.k0 k1)))) lv1 (fun hl H2 k2 lv2 => ?_) (fun hl H2 k2 lv2 => ?_)
  · obtain ⟨ds, rfl⟩ := isLst_eq hl
    obtain ⟨h1, j, rfl, h2⟩ := hd.len
    refine p_ret (ev_is (ev_lcL (f := id) (e1 (.k0 (k1.trans k2))) (by omega) (fun x => rfl) fun d A1 H3 x hd2 w px => v_law_same (h2 d hd2) (ev_var rfl px)) (by rw [List.map_id])) lv2 fun v H3 k3 p3 => k v H3 ((k1.trans k2).trans k3) p3
  refine to_next ?_
  dsimp only
  refine p_ret (Φ := da d) (ev_if (T := (isTp d = ·)) (vt_v (ev_isTp (e1 (.k0 (k1.trans k2))))) (fun ht => ?_) fun ht => e1 (.k0 (k1.trans k2))) lv2 fun v H3 k3 p3 => k v H3 ((k1.trans k2).trans k3) p3
  obtain ⟨ds, rfl⟩ : ∃ ds, d = .tuple ds := by
    cases d with
    | tuple s => exact ⟨s, rfl⟩
    | _ => cases ht
  obtain ⟨h1, j, rfl, h2⟩ := hd.lenT
  exact ev_tuple (ev_is (ev_lcLT (f := id) (e1 (.k0 (k1.trans k2))) (by omega) (fun x => rfl) fun d A1 H3 x hd2 w px => v_law_same (h2 d hd2) (ev_var rfl px)) (by rw [List.map_id]))
theorem c_law_same (T : Tx K mg) : ∀ j, C8.Cal P w K mg base (j + 1) "_law_same" (spS j) []
  | 0 => c_sameZ T
  | j + 1 => c_sameS T j (c_law_same T j)
/-! _law_exact -/
def spE : Nat → Sp
  | 0 => fun _ _ _ _ => False
  | j + 1 => Pm fun A H vs Θ => ∃ v u d, vs = [v, u] ∧ Rp A H v d ∧ Rp A H u d ∧ okd 2000 j d ∧ Θ = da (.bool true)
theorem v_law_exact {e : Ef} {ta tb : TE} {σ : L2.St} {A : As} {H : Hp} {E : XK} {j : Nat} {d : PyData} (hd : okd 2000 j d) (h : Em e 0 ta σ A H (da d)) (h2 : Em e 0 tb σ A H (da d)) : Em e 0 (tCall (spE (j + 1)) [] E (tCons ta (tCons tb tNil))) σ A H (da (.bool true)) :=
  em_pm (c := 0) (eva_cons h (eva_cons h2 eva_nil)) fun A' H' vs w p => by
    obtain ⟨x, y, rfl, q, q2⟩ := pvs2 p
    exact ⟨x, y, d, rfl, q, q2, hd, rfl⟩
abbrev s_law_exact : Stmt := top 43
abbrev N_law_exact : List Str := ["_law_mine", "_law_theirs", "_law_alike", "_law_a", "_law_b", "_law_key"]
theorem sc_law_exact : FnScope N_law_exact ["_law_mine", "_law_theirs"] (defScope s_law_exact) := ⟨rfl, rfl, rfl, by decide +kernel, rfl, by decide +kernel, by decide +kernel⟩
theorem c_exactZ (T : Tx K mg) : C8.Cal P w K mg base 1 "_law_exact" (spE 0) [] :=
  mkCal T 30 36 rfl rfl sc_law_exact (fun _ _ _ _ _ _ us hl => match us, hl with | [_, _], _ => rfl) (fun vs H Q E h => h.elim) (fun f cdv A outer s H vs Q E hr h => h.elim)
theorem c_exactS (T : Tx K mg) (j : Nat) (c_law_exact : C8.Cal P w K mg base (j + 1) "_law_exact" (spE j) []) : C8.Cal P w K mg base (j + 2) "_law_exact" (spE (j + 1)) [] := by
  refine mkCal T 30 36 rfl rfl sc_law_exact (fun _ _ _ _ _ _ us hl => match us, hl with | [_, _], _ => rfl) (fun vs H Q E h => ?_) (fun f cdv A outer s H vs Q E hr h => ?_)
  · obtain ⟨A, Θ, _, ⟨v, _, _, rfl, _⟩, _⟩ := h
    rfl
  obtain ⟨A, Θ, lv, ⟨v, u, d, rfl, hv, hu, hd, rfl⟩, k⟩ := h
  refine ⟨_, (pss_cons (ps_if (pt_val (pe_callB (k_isiT (K := K)) rfl T.isinstance_ bt_isinstance (pa_cons (pv 0) (pa_cons (pe_tup (pa_cons (pe_bltn (v := .ty "list") rfl T.list_ bt_list rfl) (pa_cons (pe_bltn (v := .ty "tuple") rfl T.tuple_ bt_tuple rfl) pa_nil))) pa_nil)))) (pss_cons (ps_set (i := 2) sc_law_exact.nd rfl (Or.inl rfl) (pe_and (pe_cmpR op_eq (pe_callB (k_isi (K := K)) rfl T.isinstance_ bt_isinstance (pa_cons (pv 1) (pa_cons (pe_bltn (v := .ty "list") rfl T.list_ bt_list rfl) pa_nil))) (pe_callB (k_isi (K := K)) rfl T.isinstance_ bt_isinstance (pa_cons (pv 0) (pa_cons (pe_bltn (v := .ty "list") rfl T.list_ bt_list rfl) pa_nil))) (nomark _)) (pe_one (pe_cmpR op_eq (pe_callB (k_isi (K := K)) rfl T.isinstance_ bt_isinstance (pa_cons (pv 1) (pa_cons (pe_bltn (v := .ty "tuple") rfl T.tuple_ bt_tuple rfl) pa_nil))) (pe_callB (k_isi (K := K)) rfl T.isinstance_ bt_isinstance (pa_cons (pv 0) (pa_cons (pe_bltn (v := .ty "tuple") rfl T.tuple_ bt_tuple rfl) pa_nil))) (nomark _)))))
  (pss_one (ps_ret (pe_and (pv 2) (pe_and (pe_cmpR op_eq (pe_callB (k_len (K := K)) rfl T.len_ bt_len (pa_cons (pv 0) pa_nil)) (pe_callB (k_len (K := K)) rfl T.len_ bt_len (pa_cons (pv 1) pa_nil)) (nomark _)) (pe_one (pe_callB (k_all (K := K) rfl) rfl T.all_ bt_all (pa_cons (pe_lc (own := [("_law_a", 3), ("_law_b", 4)]) rfl sc_law_exact.nd (pi_zipA rfl T.zip_ (pa_cons (pv 0) (pa_cons (pv 1) pa_nil))) (blkOk_by (own := [("_law_a", 3), ("_law_b", 4)]) (N := N_law_exact) (sc := defScope s_law_exact) (by decide +kernel)) (fun _ _ _ _ _ => (kpg_tup (K := K) (n := 2) rfl (pgs_cons (pg_name (i := 3) sc_law_exact.nd rfl (Or.inl rfl)) (pgs_cons (pg_name (i := 4) sc_law_exact.nd rfl (Or.inl rfl)) pgs_nil)))) (fun _ _ _ _ _ => pts_nil) (fun _ _ _ _ _ => (C8.pe_c c_law_exact hr (Nat.le_refl _) rfl (pa_cons (pv 3) (pa_cons (pv 4) pa_nil))))) pa_nil)))))))) pss_nil)
  (pss_cons (ps_if (pt_val (pe_callB (k_isi (K := K)) rfl T.isinstance_ bt_isinstance (pa_cons (pv 0) (pa_cons (pe_bltn (v := .ty "dict") rfl T.dict_ bt_dict rfl) pa_nil)))) (pss_cons (ps_set (i := 2) sc_law_exact.nd rfl (Or.inl rfl) (pe_and (pe_callB (k_isi (K := K)) rfl T.isinstance_ bt_isinstance (pa_cons (pv 1) (pa_cons (pe_bltn (v := .ty "dict") rfl T.dict_ bt_dict rfl) pa_nil))) (pe_one (C8.pe_c c_law_exact hr (Nat.le_refl _) rfl (pa_cons (pe_callTy (k_list (K := K)) rfl T.list_ bt_list (pa_cons (pv 0) pa_nil)) (pa_cons (pe_callTy (k_list (K := K)) rfl T.list_ bt_list (pa_cons (pv 1) pa_nil)) pa_nil))))))
  (pss_one (ps_ret (pe_and (pv 2) (pe_one (pe_callB (k_all (K := K) rfl) rfl T.all_ bt_all (pa_cons (pe_lc (own := [("_law_key", 5)]) rfl sc_law_exact.nd (kpi_list (K := K) (pv 0)) (blkOk_by (own := [("_law_key", 5)]) (N := N_law_exact) (sc := defScope s_law_exact) (by decide +kernel)) (fun _ _ _ _ _ => (pg_name (i := 5) sc_law_exact.nd rfl (Or.inl rfl))) (fun _ _ _ _ _ => pts_nil) (fun _ _ _ _ _ => (C8.pe_c c_law_exact hr (Nat.le_refl _) rfl (pa_cons (pe_ix (kix_list (K := K)) (pv 0) (pv 5) (fun _ _ => rfl)) (pa_cons (pe_ix (kix_list (K := K)) (pv 1) (pv 5) (fun _ _ => rfl)) pa_nil))))) pa_nil))))))) pss_nil)
  (pss_cons (ps_set (i := 2) sc_law_exact.nd rfl (Or.inl rfl) (pe_cmpR op_eq (pe_callB (k_isi (K := K)) rfl T.isinstance_ bt_isinstance (pa_cons (pv 0) (pa_cons (pe_bltn (v := .ty "int") rfl T.int_ bt_int rfl) pa_nil))) (pe_callB (k_isi (K := K)) rfl T.isinstance_ bt_isinstance (pa_cons (pv 1) (pa_cons (pe_bltn (v := .ty "int") rfl T.int_ bt_int rfl) pa_nil))) (nomark _)))
  (pss_one (ps_ret (pe_and (pv 2) (pe_and (pe_cmpR op_eq (pe_callB (k_isi (K := K)) rfl T.isinstance_ bt_isinstance (pa_cons (pv 0) (pa_cons (pe_bltn (v := .ty "bool") rfl T.bool_ bt_bool rfl) pa_nil))) (pe_callB (k_isi (K := K)) rfl T.isinstance_ bt_isinstance (pa_cons (pv 1) (pa_cons (pe_bltn (v := .ty "bool") rfl T.bool_ bt_bool rfl) pa_nil))) (nomark _)) (pe_one (pe_cmpR op_eq (pv 0) (pv 1) (nomark _)))))))))), ?_⟩
  have one : ∀ {t : Option V} {A' H'}, Wl A H A' H' → Ev (tVar 0) [some v, some u, t, none, none, none] A' H' (da d) := fun w => ev_var rfl (hv.up w)
  have two : ∀ {t : Option V} {A' H'}, Wl A H A' H' → Ev (tVar 1) [some v, some u, t, none, none, none] A' H' (da d) := fun w => ev_var rfl (hu.up w)
  have tt : ∀ a : Bool, decide (a = a) = true := fun a => decide_eq_true rfl
  refine p_if (T := ((isLst d || isTp d) = ·)) (vt_v (ev_isLT (one (.refl _ _)))) lv (fun hl H1 k1 lv1 => ?_) (fun hl H1 k1 lv1 => ?_)
  · refine p_asg (Φ := da (.bool true)) (ev_is (ev_andV (ev_eqB (ev_isLst (two (.k0 k1))) (ev_isLst (one (.k0 k1)))) fun _ => ev_eqB (ev_isTp (two (.k0 k1))) (ev_isTp (one (.k0 k1)))) (by rw [tt, tt]; rfl)) lv1 fun v2 H2 k2 lv2 p2 => ?_
    obtain rfl := Rp.bl_eq p2
    obtain ⟨ds, hds⟩ : ∃ ds, d = .list ds ∨ d = .tuple ds := by
      cases d with
      | list s => exact ⟨s, .inl rfl⟩
      | tuple s => exact ⟨s, .inr rfl⟩
      | _ => cases hl
    obtain ⟨h1, j, rfl, h2⟩ : ds.length ≤ 2000 ∧ ∃ i, j = i + 1 ∧ ∀ x ∈ ds, okd 2000 i x := by
      rcases hds with rfl | rfl
      · exact hd.len
      · exact hd.lenT
    have kk := k1.trans k2
    have hlen : Ev (tOp rEq (tCB (r_len K) (tCons (tVar 0) tNil)) (tCB (r_len K) (tCons (tVar 1) tNil))) [some v, some u, some (.bl true), none, none, none] A H2 (da (.bool true)) := by
      rcases hds with rfl | rfl
      · exact ev_is (ev_eqI (ev_len (one (.k0 kk))) (ev_len (two (.k0 kk)))) (by rw [decide_eq_true rfl])
      · exact ev_is (ev_eqI (ev_lenT (one (.k0 kk))) (ev_lenT (two (.k0 kk)))) (by rw [decide_eq_true rfl])
    refine p_ret (Φ := da (.bool true)) (ev_is (ev_andV (a := true) (b := true) (ev_var rfl (.bl true)) fun _ => ev_is (ev_andV (a := true) (b := true) hlen fun _ => ?_) rfl) rfl) lv2 fun v H3 k3 p3 => k v H3 (kk.trans k3) p3
    have hL := em_lcG (e := e0) (c := 0) (ct := 0) (ce := 0) (σ := [some v, some u, some (.bl true), none, none, none]) (A := A) (H := H2) (G := gTup K 2 (gCons (gName 3) (gCons (gName 4) gNil))) (tt := tYes) (te := tCall (spE (j + 1)) [] C8.E0 (tCons (tVar 3) (tCons (tVar 4) tNil))) (vs := [3, 4]) (Tt := fun _ b => true = b) (Φ := fun _ => da (.bool true)) (S := fun i A1 H1 σ1 => ∃ x1 x2, σ1 = [some v, some u, some (.bl true), some x1, some x2, none] ∧ Rp A1 H1 x1 (ds.getD i .none) ∧ Rp A1 H1 x2 (ds.getD i .none))
      (sr_zip (K := K) hds (eva_cons (one (.k0 kk)) (eva_cons (two (.k0 kk)) eva_nil))) (by omega) (fun i A1 H1 x hi w px R hR => g_pair px fun x1 x2 q1 q2 => hR _ rfl ⟨x1, x2, rfl, q1, q2⟩) (fun i A1 H1 σ1 hi w s => et_yes) fun i A1 H1 σ1 hi w ⟨x1, x2, hs, q1, q2⟩ _ => by
        subst hs
        exact v_law_exact (h2 _ (by
          rw [List.getD_eq_getElem?_getD, List.getElem?_eq_getElem hi]
          exact List.getElem_mem hi)) (ev_var (i := 3) rfl q1) (ev_var (i := 4) rfl q2)
    rw [Nat.mul_zero, Nat.add_zero] at hL
    refine ev_is (ev_all (bs := (List.range ds.length).map fun _ => true) (hL.imp fun A' H' v _ ⟨ff, hf, p⟩ => ?_)) ?_
    · have p2 := lsQ_da p
      rw [filter_all hf] at p2
      show Rp _ _ _ (.list (((List.range ds.length).map fun _ => true).map .bool))
      rw [List.map_map]
      exact p2
    · have : ((List.range ds.length).map fun _ => true).all id = true := by
        rw [List.all_map, List.all_eq_true]
        exact fun _ _ => rfl
      rw [this]
  refine to_next ?_
  dsimp only
  refine p_if (T := (false = ·)) (vt_is (vt_v (ev_isDc (one (.k0 k1)))) hd.noDc) lv1 (fun h => by cases h) fun _ H2 k2 lv2 => ?_
  refine to_next ?_
  dsimp only
  have kk := k1.trans k2
  refine p_asg (Φ := da (.bool true)) (ev_is (ev_eqB (ev_isInt (one (.k0 kk))) (ev_isInt (two (.k0 kk)))) (by rw [tt])) lv2 fun v2 H3 k3 lv3 p2 => ?_
  obtain rfl := Rp.bl_eq p2
  have kk3 := kk.trans k3
  refine p_ret (Φ := da (.bool true)) (ev_is (ev_andV (a := true) (b := true) (ev_var rfl (.bl true)) fun _ => ev_is (ev_andV (a := true) (b := true) (ev_is (ev_eqB (ev_isBl (one (.k0 kk3))) (ev_isBl (two (.k0 kk3)))) (by rw [tt])) fun _ => ?_) rfl) rfl) lv3 fun v H4 k4 p4 => k v H4 (kk3.trans k4) p4
  refine ev_op (one (.k0 kk3)) (two (.k0 kk3)) fun A' H' x y _ p q => ?_
  have hat : atom d = true := by
    cases d with
    | none => rfl
    | bool _ => rfl
    | int _ => rfl
    | list s => cases hl
    | tuple s => cases hl
    | dict s => have := hd.noDc; cases this
    | str s =>
      cases j with
      | zero => exact hd
      | succ j =>
        rcases hd with q | ⟨ds, q, _⟩
        · exact q
        · rcases q with q | q <;> cases q
  cases d with
  | none =>
    obtain rfl := Rp.non_eq p
    obtain rfl := Rp.non_eq q
    exact rv_v (.bl true) (fun Q hq => ⟨rfl, hq⟩) (.bl true)
  | bool b =>
    obtain rfl := Rp.bl_eq p
    obtain rfl := Rp.bl_eq q
    exact rv_v (.bl true) (fun Q hq => ⟨rfl, by rw [decide_eq_true rfl]; exact hq⟩) (.bl true)
  | int b =>
    obtain rfl := Rp.int_eq p
    obtain rfl := Rp.int_eq q
    exact rv_v (.bl true) (fun Q hq => ⟨rfl, by rw [decide_eq_true rfl]; exact hq⟩) (.bl true)
  | _ => cases hat
theorem c_law_exact (T : Tx K mg) : ∀ j, C8.Cal P w K mg base (j + 1) "_law_exact" (spE j) []
  | 0 => c_exactZ T
  | j + 1 => c_exactS T j (c_law_exact T j)
end
end SB
namespace SB
open PySem PySem.Spec PyProof.Rows L2 LamX RZ
/-- a list of at most N things of a kind -/
def LB (N : Nat) (C : PyData → Prop) (d : PyData) : Prop := ∃ ds, d = .list ds ∧ ds.length ≤ N ∧ ∀ x ∈ ds, C x
def at1 (d : PyData) : Prop := atom d = true
theorem LB.mono {N M : Nat} {C C' : PyData → Prop} {d : PyData} (h : LB N C d) (hN : N ≤ M) (hC : ∀ x, C x → C' x) : LB M C' d := by
  obtain ⟨ds, rfl, h1, h2⟩ := h
  exact ⟨ds, rfl, by omega, fun x hx => hC x (h2 x hx)⟩
theorem LB.ok {N M k : Nat} {d : PyData} (h : LB N (okd M k) d) (hN : N ≤ M) : okd M (k + 1) d := by
  obtain ⟨ds, rfl, h1, h2⟩ := h
  exact .inr ⟨ds, .inl rfl, by omega, h2⟩
theorem LB.ok1 {N : Nat} {d : PyData} (h : LB N at1 d) (hN : N ≤ 2000) : okd 2000 1 d := LB.ok (k := 0) h hN
theorem LB.ok2 {N M : Nat} {d : PyData} (h : LB N (LB M at1) d) (hN : N ≤ 2000) (hM : M ≤ 2000) : okd 2000 2 d := LB.ok (k := 1) (h.mono (Nat.le_refl _) fun x hx => hx.ok1 hM) hN
theorem lot_LB (m : Nat) : LB 8 at1 (lot m) := ⟨_, rfl, lot_len m, fun x hx => by
  obtain ⟨b, _, rfl⟩ := List.mem_map.mp hx
  rfl⟩
theorem lots_LB {l : List Nat} {N : Nat} (h : l.length ≤ N) : LB N (LB 8 at1) (.list (l.map lot)) := ⟨_, rfl, by rw [List.length_map]; exact h, fun x hx => by
  obtain ⟨m, _, rfl⟩ := List.mem_map.mp hx
  exact lot_LB m⟩
section
variable {e : Ef} {c c1 c2 ct ce : Nat} {K : PySem.W.Frag} {mg : Str → Option Value} {ta tb tc te tl tk td ty tv : TE} {tt tu : TT} {σ : L2.St} {A A' : As} {H H' : Hp} {Φ Ψ Θ : Pv} {ds es : List PyData} {d : PyData} {n m N M : Nat} {E : XK} {D : Ends} {i j k : Int} {v x : V} {g : TG} {wi : TI} {a b : Bool} {C C' : PyData → Prop}
theorem em_dp (h : Em e c ta σ A H (da d)) (hd : C d) : Em e c ta σ A H (dp C) := h.imp fun A' H' v _ p => ⟨d, hd, p⟩
theorem em_catB (h : Em e c ta σ A H (dp (LB N C))) (h2 : Em e c1 tb σ A H (dp (LB M C))) (hN : N + M ≤ 100000) : Em e (c + c1) (tOp rCat ta tb) σ A H (dp (LB (N + M) C)) :=
  em_op (c3 := 0) h h2 fun A' H' x y _ ⟨_, ⟨ds, rfl, g1, g2⟩, p⟩ ⟨_, ⟨es, rfl, g3, g4⟩, q⟩ => by
    obtain ⟨a, xs, rfl, n, ha, r⟩ := Rp.list_eq p
    obtain ⟨b, ys, rfl, m, hb, s⟩ := Rp.list_eq q
    refine rv_new (.lst (xs ++ ys)) (fun Q hq => ⟨a, b, xs, ys, rfl, rfl, ha, hb, sz5 (by rw [r.length, s.length]; omega), hq⟩) fun l hl nl => ⟨_, ⟨ds ++ es, rfl, by rw [List.length_append]; omega, fun x hx => (List.mem_append.mp hx).elim (g2 x) (g4 x)⟩, .lst nl upd_same ((r.append s).up (.of0 (.new hl)))⟩
theorem em_slB {tlo thi : TO} {lo hi : Option Int} (h : Em e c ta σ A H (dp (LB N C))) (h2 : EmO e c1 tlo σ A H lo) (h3 : EmO e c2 thi σ A H hi) : Em e (c + c1 + c2) (tSl (rSlL K) ta tlo thi) σ A H (dp (LB N C)) :=
  em_sl h h2 h3 fun A' H' x _ ⟨_, ⟨ds, rfl, g1, g2⟩, p⟩ => by
    obtain ⟨a, xs, rfl, n, ha, r⟩ := Rp.list_eq p
    exact rv_new (.lst (cutV xs lo hi)) (fun Q hq => ⟨a, xs, rfl, SqL.of ha, hq⟩) fun l hl nl => ⟨_, ⟨cutD ds lo hi, rfl, Nat.le_trans (cutD_le _ _ _) g1, fun x hx => g2 x (cutD_mem hx)⟩, .lst nl upd_same (r.cut.up (.of0 (.new hl)))⟩
theorem em_revB (h : Em e c ta σ A H (dp (LB N C))) : Em e c (tRevL K ta) σ A H (dp (LB N C)) := fun A' H' n w cu hn Q q => h A' H' n w cu hn _ fun v H2 k jj ⟨_, ⟨ds, hd, g1, g2⟩, p⟩ => by
  subst hd
  obtain ⟨a, xs, rfl, na, ha, r⟩ := Rp.list_eq p
  exact ⟨a, xs, rfl, SqL.of ha, fun l hl => q _ _ (k.trans (.new hl)) ((cu.aft k jj).new hl).j ⟨_, ⟨ds.reverse, rfl, by rw [List.length_reverse]; exact g1, fun x hx => g2 x (List.mem_reverse.mp hx)⟩, .lst ((cu.lv.kp k).fresh hl) upd_same (r.rev.up (.of0 (.new hl)))⟩⟩
theorem em_listB (h : Em e c ta σ A H (dp (LB N C))) : Em e c (tCB (r_list K) (tCons ta tNil)) σ A H (dp (LB N C)) := em_B1 h fun A' H' x _ ⟨_, ⟨ds, hd, g1, g2⟩, p⟩ => by
  subst hd
  obtain ⟨a, xs, rfl, n, ha, r⟩ := Rp.list_eq p
  exact rv_new (.lst xs) (fun Q hq => ⟨a, xs, rfl, .inl (SqL.of ha), hq⟩) fun l hl nl => ⟨_, ⟨ds, rfl, g1, g2⟩, .lst nl upd_same (r.up (.of0 (.new hl)))⟩
theorem em_repB {bb : Bool} (h : Em e c ta σ A H (dp (LB N C))) (h2 : Em e c1 tb σ A H (da (.int (if bb then 1 else 0)))) (hN : N ≤ 100000) : Em e (c + c1) (tOp rRep ta tb) σ A H (dp (LB N C)) :=
  em_op (c3 := 0) h h2 fun A' H' x y _ ⟨_, ⟨ds, hd, g1, g2⟩, p⟩ q => by
    subst hd
    obtain ⟨a, xs, rfl, n, ha, r⟩ := Rp.list_eq p
    obtain rfl := Rp.int_eq q
    cases bb with
    | true =>
      refine rv_new (.lst (List.replicate (1 : Int).toNat xs).flatten) (fun Q hq => ⟨a, 1, xs, rfl, rfl, ha, by omega, by omega, sz5 (by rw [r.length]; show ds.length * 1 ≤ _; omega), hq⟩) fun l hl nl => ⟨_, ⟨(List.replicate 1 ds).flatten, rfl, by simp; exact g1, fun x hx => g2 x (by simpa using hx)⟩, .lst nl upd_same ((r.repl 1).up (.of0 (.new hl)))⟩
    | false =>
      refine rv_new (.lst (List.replicate (0 : Int).toNat xs).flatten) (fun Q hq => ⟨a, 0, xs, rfl, rfl, ha, by omega, by omega, sz5 (by show xs.length * 0 ≤ _; omega), hq⟩) fun l hl nl => ⟨_, ⟨[], rfl, Nat.zero_le _, no_mem⟩, .lst nl upd_same .nil⟩
theorem pvs_rep : ∀ {k : Nat} {vs : List V}, Pvs (List.replicate k (dp C)) A H vs → ∃ ds : List PyData, ds.length = k ∧ (∀ x ∈ ds, C x) ∧ RpA A H vs ds
  | 0, _, .nil => ⟨[], rfl, no_mem, .nil⟩
  | k + 1, _, .cons h t => by
    obtain ⟨ds, h1, h2, h3⟩ := pvs_rep (k := k) t
    obtain ⟨d, hd, p⟩ := h
    exact ⟨d :: ds, by rw [List.length_cons, h1], fun x hx => (List.mem_cons.mp hx).elim (fun z => z ▸ hd) (h2 x), .cons p h3⟩
/-- a display of k things of a kind -/
theorem em_lstB {ta : TA} {k : Nat} (h : EmA e c ta σ A H (List.replicate k (dp C))) (hk : k ≤ 100000) : Em e c (tLst ta) σ A H (dp (LB k C)) := em_lst h (by rw [List.length_replicate]; exact hk) fun A' H' vs a _ p n ha => by
  obtain ⟨ds, h1, h2, h3⟩ := pvs_rep p
  exact ⟨_, ⟨ds, rfl, by omega, h2⟩, .lst n ha h3⟩
/-- over a list of things of a kind -/
theorem em_lcB {j : Nat} {vs : List Nat} (h : Em e c tl σ A H (dp (LB N C))) (hN : N ≤ 100000) (hw : ∀ x, wipe ((wipe σ vs).set j (some x)) vs = wipe σ vs)
    (he : ∀ d A1 H1 x, C d → Wl A H A1 H1 → Rp A1 H1 x d → Em e 0 te ((wipe σ vs).set j (some x)) A1 H1 (dp C')) : Em e c (tLc (iList K tl) (gName j) tYes te vs) σ A H (dp (LB N C')) :=
  em_bind (c2 := 0) (F := fun x => tLc (iList K (tC x)) (gName j) tYes te vs) h fun A' H' x w ⟨_, ⟨ds, hd, g1, g2⟩, p⟩ => by
    subst hd
    have := ev_lcA (e := e) (Φ := fun _ => dp C') (vr_list (K := K) (e := e) (tl := tC x) (ev_c p)) (by omega) hw fun i A1 H1 y hi w1 py => he (ds.getD i .none) A1 H1 y (g2 _ (by
      rw [List.getD_eq_getElem?_getD, List.getElem?_eq_getElem hi]
      exact List.getElem_mem hi)) (w.trans w1) py
    refine this.imp fun A' H' v _ q => ?_
    obtain ⟨es, ⟨h1, h2⟩, q⟩ := lsQ_of q
    rw [List.length_range] at h1
    exact ⟨_, ⟨es, rfl, by omega, h2⟩, q⟩
/-- found.append(e) -/
theorem z_app {d : Addr} {xs : List V} {q : Nat} (hv : σ[q]? = some (some (.ref d))) (cu : Cur (eY e d (.lst xs)) A H n) (hn : n ≤ big) (ha : Em (eY e d (.lst xs)) 0 ta σ A H Φ) (hB : ¬ e.B d) (hl : xs.length < 100000)
    (k : ∀ y H1, Kp (eW e d).B H (upd H1 d (.lst (xs ++ [y]))) → Cur (eY e d (.lst (xs ++ [y]))) A (upd H1 d (.lst (xs ++ [y]))) n → Kp (eW e d).B H H1 → Kp (eW e d).B H1 (upd H1 d (.lst (xs ++ [y]))) → Φ.p A H1 y → D.nx σ (upd H1 d (.lst (xs ++ [y])))) : tDrop (tBM K "list" rAppend (tVar q) (tCons ta tNil)) D σ H := by
  refine ⟨_, hv, .inl ⟨rfl, _, SqL.of cu.at⟩, ha A H n (.refl _ _) cu hn _ fun y H1 k1 j1 p1 => ?_⟩
  have cu1 := cu.aft k1 j1
  have kM : Kp (eW e d).B H1 (upd H1 d (.lst (xs ++ [y]))) := .mut (.inr rfl) (by rw [cu1.at]; simp)
  exact ⟨d, xs, y, rfl, rfl, cu1.at, sl5 hl, k y H1 (k1.trans kM) (cu1.put hB) k1 kM p1⟩
theorem for_first {tb : TS} (h : te σ H fun v H1 => tFor (iList K (tC v)) g tb D σ H1) : tFor (iList K te) g tb D σ H := h
theorem lock_asg {i : Nat} (h : tAsg (tLockE te) (gName i) D σ H) : tLock (tAsg te (gName i)) D σ H := h
end
/-! lists alone -/
def okl (N : Nat) : Nat → PyData → Prop
  | 0, d => atom d = true
  | k + 1, d => atom d = true ∨ ∃ ds, d = .list ds ∧ ds.length ≤ N ∧ ∀ x ∈ ds, okl N k x
theorem okl.okd {N M : Nat} (h : N ≤ M) : ∀ {k : Nat} {d : PyData}, okl N k d → SB.okd M k d
  | 0, _, q => q
  | k + 1, _, .inl q => .inl q
  | k + 1, _, .inr ⟨ds, h1, h2, h3⟩ => .inr ⟨ds, .inl h1, by omega, fun x hx => okl.okd h (h3 x hx)⟩
theorem okl.at {N : Nat} : ∀ {k : Nat} {d : PyData}, okl N k d → atom d = true ∨ ∃ ds j, d = .list ds ∧ k = j + 1 ∧ ds.length ≤ N ∧ ∀ x ∈ ds, okl N j x
  | 0, _, q => .inl q
  | k + 1, _, .inl q => .inl q
  | k + 1, _, .inr ⟨ds, h1, h2, h3⟩ => .inr ⟨ds, k, h1, rfl, h2, h3⟩
def cc01 : PyData → Bool
  | .int i => !decide (i ∈ [(0 : Int), 1])
  | _ => true
section
variable {K : PySem.W.Frag} {mg : Str → Option Value} {P : Program} {w : World} {base : Heap}
/-! _law_twins_of -/
def spT : Nat → Sp
  | 0 => fun _ _ _ _ => False
  | j + 1 => Pm fun A H vs Θ => ∃ v d, vs = [v] ∧ Rp A H v d ∧ okl 130 j d ∧ j ≤ 2 ∧ Θ = dp (LB (130 ^ j) (okd 300 j))
theorem v_law_twins {e : Ef} {c : Nat} {ta : TE} {σ : L2.St} {A : As} {H : Hp} {E : XK} {j : Nat} {d : PyData} (hj : j ≤ 2) (hd : okl 130 j d) (h : Em e c ta σ A H (da d)) : Em e c (tCall (spT (j + 1)) [] E (tCons ta tNil)) σ A H (dp (LB (130 ^ j) (okd 300 j))) :=
  em_pm (ema_cons (c2 := 0) h ema_nil) fun A' H' vs w p => by
    obtain ⟨x, rfl, q⟩ := pvs1 p
    exact ⟨x, d, rfl, q, hd, hj, rfl⟩
abbrev s_law_twins_of : Stmt := top 57
abbrev N_law_twins_of : List Str := ["_law_thing", "_law_found", "_law_at", "_law_item", "_law_late", "_law_rest"]
theorem sc_law_twins_of : FnScope N_law_twins_of ["_law_thing"] (defScope s_law_twins_of) := ⟨rfl, rfl, rfl, by decide +kernel, rfl, by decide +kernel, by decide +kernel⟩
theorem c_twinsZ (T : Tx K mg) : C8.Cal P w K mg base 1 "_law_twins_of" (spT 0) [] :=
  mkCal T 44 50 rfl rfl sc_law_twins_of (fun _ _ _ _ _ _ us hl => match us, hl with | [_], _ => rfl) (fun vs H Q E h => h.elim) (fun f cdv A outer s H vs Q E hr h => h.elim)
theorem c_twinsS (T : Tx K mg) (j : Nat) (c_law_twins_of : C8.Cal P w K mg base (j + 1) "_law_twins_of" (spT j) []) : C8.Cal P w K mg base (j + 2) "_law_twins_of" (spT (j + 1)) [] := by
  refine mkCal T 44 50 rfl rfl sc_law_twins_of (fun _ _ _ _ _ _ us hl => match us, hl with | [_], _ => rfl) (fun vs H Q E h => ?_) (fun f cdv A outer s H vs Q E hr h => ?_)
  · obtain ⟨A, Θ, _, ⟨v, _, rfl, _⟩, _⟩ := h
    rfl
  obtain ⟨A, Θ, lv, ⟨v, d, rfl, hv, hd, hj, rfl⟩, k⟩ := h
  refine ⟨_, (pss_cons (ps_if (pt_val (pe_callB (k_isiT (K := K)) rfl T.isinstance_ bt_isinstance (pa_cons (pv 0) (pa_cons (pe_tup (pa_cons (pe_bltn (v := .ty "list") rfl T.list_ bt_list rfl) (pa_cons (pe_bltn (v := .ty "tuple") rfl T.tuple_ bt_tuple rfl) pa_nil))) pa_nil)))) (pss_cons (ps_set (i := 1) sc_law_twins_of.nd rfl (Or.inl rfl) (pe_lst pa_nil))
  (pss_cons (ps_for PassesOwn.never rfl (kpi_enum (K := K) rfl T.enumerate_ (pa_cons (pv 0) pa_nil)) (kpg_tup (K := K) rfl (pgs_cons (pg_name (i := 2) sc_law_twins_of.nd rfl (Or.inl rfl)) (pgs_cons (pg_name (i := 3) sc_law_twins_of.nd rfl (Or.inl rfl)) pgs_nil))) (pss_one (ps_for PassesOwn.never rfl (kpi_list (K := K) (C8.pe_c c_law_twins_of hr (Nat.le_refl _) rfl (pa_cons (pv 3) pa_nil))) (pg_name (i := 4) sc_law_twins_of.nd rfl (Or.inl rfl)) (pss_cons (ps_set (i := 5) sc_law_twins_of.nd rfl (Or.inl rfl) (pe_op op_cat (pe_op op_cat (pe_callTy (k_list (K := K)) rfl T.list_ bt_list (pa_cons (pe_slice (ksl_list (K := K)) (pv 0) po_none (po_some (pv 2))) pa_nil)) (pe_lst (pa_cons (pv 4) pa_nil))) (pe_callTy (k_list (K := K)) rfl T.list_ bt_list (pa_cons (pe_slice (ksl_list (K := K)) (pv 0) (po_some (pe_op op_add (pv 2) pe_int)) po_none) pa_nil))))
  (pss_one (ps_expr (pe_bm PySem.F.plainAttrs_list PySem.F.slot_list_append PySem.F.type_list_append (mt_append) (pv 1) (pa_cons (pe_ifExp (pt_val (pe_callB (k_isi (K := K)) rfl T.isinstance_ bt_isinstance (pa_cons (pv 0) (pa_cons (pe_bltn (v := .ty "list") rfl T.list_ bt_list rfl) pa_nil)))) (pv 5) (pe_callTy (k_tuple (K := K)) rfl T.tuple_ bt_tuple (pa_cons (pv 5) pa_nil))) pa_nil))))))))
  (pss_one (ps_ret (pv 1))))) pss_nil)
  (pss_cons (ps_if (PW.pt (pw_or (pt_val (pe_callB (k_isi (K := K)) rfl T.isinstance_ bt_isinstance (pa_cons (pv 0) (pa_cons (pe_bltn (v := .ty "bool") rfl T.bool_ bt_bool rfl) pa_nil)))) (pw_or (pt_not (pt_val (pe_callB (k_isi (K := K)) rfl T.isinstance_ bt_isinstance (pa_cons (pv 0) (pa_cons (pe_bltn (v := .ty "int") rfl T.int_ bt_int rfl) pa_nil))))) (pw_or1 (pt_cmpR (kop_notIn (K := K)) (pv 0) (pe_tup (pa_cons pe_int (pa_cons pe_int pa_nil))) rfl))))) (pss_one (ps_ret (pe_lst pa_nil))) pss_nil)
  (pss_one (ps_ret (pe_lst (pa_cons (pe_cmpR op_eq (pv 0) pe_int (nomark _)) pa_nil)))))), ?_⟩
  have hp1 : 1 ≤ 130 ^ j := Nat.one_le_pow _ _ (by decide)
  have one : ∀ {x1 x2 x3 x4 x5 : Option V} {A' H'}, Wl A H A' H' → Ev (tVar 0) [some v, x1, x2, x3, x4, x5] A' H' (da d) := fun w => ev_var rfl (hv.up w)
  refine p_if (T := ((isLst d || isTp d) = ·)) (vt_v (ev_isLT (one (.refl _ _)))) lv (fun hl H1 k1 lv1 => ?_) (fun hl H1 k1 lv1 => ?_)
  · rcases hd.at with q | ⟨ds, j, rfl, rfl, hlen, hds⟩
    · exfalso
      cases d <;> simp_all [atom, isLst, isTp]
    have hB : 130 ^ j ≤ 130 ^ 1 := Nat.pow_le_pow_right (by decide) (by omega)
    refine z_asg (e := e0) (n := 0) em_lstE (cur0 lv1) (by decide) fun v1 H2 k2 cu2 p2 => ?_
    obtain ⟨d, rfl, nd, hd0, hd2⟩ := p2
    have nB : ¬ e0.B d := id
    have hd00 : H d = none := k1.none hd0
    have w2 : Wl A H (Ad A d) H2 := (cur0 lv).wlN (k1.trans k2) hd00
    have cuY : Cur (eY e0 d (.lst [])) (Ad A d) H2 0 := (cu2.ad hd2).own (hx := by simp) hd2 (.inr rfl)
    have hv2 := hv.up w2
    refine z_forE (e1 := eY e0 d (.lst [])) (e := eW e0 d) (A := Ad A d) (n := 0) (fun i σ' H' => ∃ x2 x3 x4 x5 xs es, σ' = [some v, some (.ref d), x2, x3, x4, x5] ∧ H' d = some (.lst xs) ∧ RpA (Ad A d) H' xs es ∧ es.length ≤ i * 130 ^ j ∧ ∀ x ∈ es, okd 300 (j + 1) x)
      (sr_enum (c := 0) (ev_var rfl hv2)) cuY (by decide) (fun _ h => h) (fun _ _ _ _ ⟨x2, x3, x4, x5, xs, es, h1, h2, h3, h4⟩ kk => ⟨x2, x3, x4, x5, xs, es, h1, kk.1 d _ id h2, h3.up (.of0 kk), h4⟩) (fun H3 k3 c3 => ⟨⟨none, none, none, none, [], [], rfl, c3.at, .nil, by simp, no_mem⟩, c3.toW⟩)
      (fun H3 i σ' H' y k3 hi ⟨x2, x3, x4, x5, xs, es, hσ, hd', hr', hl', ho'⟩ k4 cu4 px => ?_) (fun σ' H' ⟨x2, x3, x4, x5, xs, es, hσ, hd', hr', hl', ho'⟩ k3 cu3 => ?_)
    · subst hσ
      have hi2 : i < ds.length := hi
      refine g_pair px fun y2 y3 q2 q3 => ?_
      obtain rfl := Rp.int_eq q2
      have hmem : ds.getD i .none ∈ ds := by
        rw [List.getD_eq_getElem?_getD, List.getElem?_eq_getElem hi2]
        exact List.getElem_mem hi2
      have cuX : Cur (eY e0 d (.lst xs)) (Ad A d) H' 0 := cu4.toX hd'
      have wX : Wl A H (Ad A d) H' := w2.trans (.of (k3.trans k4) cu4.sub)
      dsimp only
      refine for_first ?_
      refine v_law_twins (e := eY e0 d (.lst xs)) (c := 0) (by omega) (hds _ hmem) (ev_var (i := 3) rfl q3) (Ad A d) H' 0 (.refl _ _) cuX (by decide) _ fun v5 H5 k5 j5 ⟨_, ⟨ts, hts, ht1, ht2⟩, p5⟩ => ?_
      subst hts
      have cu5 := cuX.aft k5 j5
      have hr5 := hr'.up (cuX.wl k5)
      have w5 := wX.trans (cuX.wl k5)
      refine z_forE (e1 := eY e0 d (.lst xs)) (e := eW e0 d) (A := Ad A d) (n := 0) (fun i' σ' H' => ∃ x4 x5 xs es, σ' = [some v, some (.ref d), some (.int (i : Int)), some y3, x4, x5] ∧ H' d = some (.lst xs) ∧ RpA (Ad A d) H' xs es ∧ es.length ≤ i * 130 ^ j + i' ∧ ∀ x ∈ es, okd 300 (j + 1) x)
        (vr_list (ev_c p5)) cu5 (by decide) (fun _ h => h) (fun _ _ _ _ ⟨x4, x5, xs, es, h1, h2, h3, h4⟩ kk => ⟨x4, x5, xs, es, h1, kk.1 d _ id h2, h3.up (.of0 kk), h4⟩) (fun H6 k6 c6 => ⟨⟨x4, x5, xs, es, rfl, c6.at, hr5.up (cu5.wl k6), hl', ho'⟩, c6.toW⟩)
        (fun H6 i' σ' H'' z k6 hi' ⟨x4, x5, xs, es, hσ, hd'', hr'', hl'', ho''⟩ k7 cu7 pz => ?_) (fun σ' H'' ⟨x4, x5, xs, es, hσ, hd'', hr'', hl'', ho''⟩ k6 cu6 => ?_)
      · subst hσ
        have pz : Rp (Ad A d) H'' z (ts.getD i' .none) := pz
        have hz : okd 300 j (ts.getD i' .none) := ht2 _ (by
          rw [List.getD_eq_getElem?_getD, List.getElem?_eq_getElem hi']
          exact List.getElem_mem hi')
        have cu8 : Cur (eY e0 d (.lst xs)) (Ad A d) H'' 0 := cu7.toX hd''
        have w8 : Wl A H (Ad A d) H'' := w5.trans (.of (k6.trans k7) cu7.sub)
        have dsB : LB 130 (okd 300 j) (.list ds) := ⟨ds, rfl, hlen, fun x hx => (hds x hx).okd (by decide)⟩
        have h8 : ∀ {x4 x5 : Option V}, Em (eY e0 d (.lst xs)) 0 (tVar 0) [some v, some (.ref d), some (.int (i : Int)), some y3, x4, x5] (Ad A d) H'' (dp (LB 130 (okd 300 j))) := em_dp (ev_var rfl (hv.up w8)) dsB
        dsimp only
        refine z_asg (Φ := dp (LB (130 + 1 + 130) (okd 300 j))) (em_catB (c := 0) (c1 := 0) (em_catB (c := 0) (c1 := 0) (em_listB (em_slB (c := 0) (c1 := 0) (c2 := 0) h8 evo_none (evo_some (ev_var rfl (.int (i : Int)))))) (em_lstB (c := 0) (k := 1) (eva_cons (em_dp (ev_var rfl pz) hz) eva_nil) (by decide)) (by decide)) (em_listB (em_slB (c := 0) (c1 := 0) (c2 := 0) h8 (evo_some (ev_bin (ev_var rfl (.int (i : Int))) ev_int)) evo_none)) (by decide)) cu8 (by decide) fun v9 H9 k9 cu9 p9 => ?_
        have hxs : xs.length < 100000 := by
          rw [hr''.length]
          have h1 : i * 130 ^ j ≤ 129 * 130 := Nat.mul_le_mul (by omega) (by omega)
          have h2 : i' < ts.length := hi'
          omega
        refine z_app (Φ := dp (LB (130 + 1 + 130) (okd 300 j))) rfl cu9 (by decide) (ev_if (T := (true = ·)) (vt_v (ev_isLst (d := .list ds) (ev_var rfl (hv.up (w8.trans (cu8.wl k9)))))) (fun _ => ev_var rfl p9) fun h => by cases h) nB hxs fun y H10 k10 cu10 k11 k12 p10 => ?_
        obtain ⟨dy, hdy, p10⟩ := p10
        refine Iw.z ?_ ((k7.trans k9).trans k10) cu10.toW
        refine ⟨_, _, xs ++ [y], es ++ [dy], rfl, cu10.at, ?_, by rw [List.length_append]; show es.length + 1 ≤ _; omega, fun x hx => ?_⟩
        · have wA : Wl (Ad A d) H'' (Ad A d) H10 := (cu8.wl k9).trans (.of k11 cu9.sub)
          exact ((hr''.up wA).append (.cons p10 .nil)).up (.of k12 cu9.sub)
        · rcases List.mem_append.mp hx with q | q
          · exact ho'' x q
          · rw [List.mem_singleton.mp q]
            exact hdy.ok (by decide)
      · subst hσ
        refine Iw.z ?_ ((k4.trans (k5.mono fun a z => z)).trans k6) cu6
        refine ⟨_, _, x4, x5, xs, es, rfl, hd'', hr'', ?_, ho''⟩
        rw [Nat.succ_mul]
        omega
    · subst hσ
      have cuX : Cur (eY e0 d (.lst xs)) (Ad A d) H' 0 := cu3.toX hd'
      refine p_ret (A := A) (Φ := dp (LB (130 ^ (j + 1)) (okd 300 (j + 1)))) (ev_var rfl ⟨.list es, ⟨es, rfl, ?_, ho'⟩, .lst nd hd' (hr'.dn fun a q => .inl q)⟩) (fun a q => cu3.lv a (.inl q)) fun v4 H4 k4 p4 => k v4 H4 (((k1.trans k2).dropW k3 hd00).trans k4) p4
      rw [Nat.pow_succ, Nat.mul_comm]
      exact Nat.le_trans hl' (Nat.mul_le_mul hlen (Nat.le_refl _))
  refine to_next ?_
  dsimp only
  refine p_if (T := ((isBl d || (!isInt d || cc01 d)) = ·)) (vt_or1 (vt_v (ev_isBl (one (.k0 k1)))) fun h1 => vt_or1 (vt_not1 (vt_v (ev_isInt (one (.k0 k1))))) fun h2 => ?_) lv1 (fun ht H2 k2 lv2 => ?_) (fun ht H2 k2 lv2 => ?_)
  · obtain ⟨i, rfl⟩ := isCnt_eq d (by simpa using h2) (by simpa using h1)
    exact vt_B (ev_is (ev_inT (neg := true) (ns := [0, 1]) (one (.k0 k1)) (ev_tupD (evd_cons ev_int (evd_cons ev_int evd_nil)) (show (2 : Nat) ≤ 100000 by decide))) rfl)
  · exact p_ret (Φ := dp (LB (130 ^ j) (okd 300 j))) (em_dp (ev_lstD evd_nil (by decide)) ⟨[], rfl, Nat.zero_le _, no_mem⟩) lv2 fun v H3 k3 p3 => k v H3 ((k1.trans k2).trans k3) p3
  refine to_next ?_
  dsimp only
  have h3 : isBl d = false ∧ (isInt d = true ∧ cc01 d = false) := by simpa using ht
  obtain ⟨i, rfl⟩ := isCnt_eq d h3.2.1 (by rw [h3.1]; rfl)
  refine p_ret (Φ := dp (LB (130 ^ j) (okd 300 j))) (em_dp (ev_lstD (evd_cons (ev_eqI (one (.k0 (k1.trans k2))) ev_int) evd_nil) (show (1 : Nat) ≤ 100000 by decide)) ⟨_, rfl, hp1, fun x hx => ?_⟩) lv2 fun v H3 k3 p3 => k v H3 ((k1.trans k2).trans k3) p3
  rw [List.mem_singleton.mp hx]
  cases j with
  | zero => rfl
  | succ j => exact .inl rfl
theorem c_law_twins_of (T : Tx K mg) : ∀ j, C8.Cal P w K mg base (j + 1) "_law_twins_of" (spT j) []
  | 0 => c_twinsZ T
  | j + 1 => c_twinsS T j (c_law_twins_of T j)
end
end SB
namespace SB
open PySem PySem.Spec PyProof.Rows L2 LamX RZ
section
variable {K : PySem.W.Frag} {mg : Str → Option Value} {P : Program} {w : World} {base : Heap}
/-! _law_drawn_lot -/
abbrev sp_law_drawn_lot : Sp := Pe fun e A H vs c Θ => c = 10 ∧ ∃ p v old rows, e = eP p ∧ vs = [.ref p, v] ∧ Rp A H v (recD old rows) ∧ okR old rows ∧ Θ = dp (LB 8 at1)
abbrev s_law_drawn_lot : Stmt := top 56
abbrev N_law_drawn_lot : List Str := ["_law_purse_here", "_law_recipe_here", "_law_block"]
theorem sc_law_drawn_lot : FnScope N_law_drawn_lot ["_law_purse_here", "_law_recipe_here"] (defScope s_law_drawn_lot) := ⟨rfl, rfl, rfl, by decide +kernel, rfl, by decide +kernel, by decide +kernel⟩
theorem c_law_drawn_lot (T : Tx K mg) : C8.Cal P w K mg base 3 "_law_drawn_lot" sp_law_drawn_lot [] := by
  refine mkCal T 43 49 rfl rfl sc_law_drawn_lot (fun _ _ _ _ _ _ us hl => match us, hl with | [_, _], _ => rfl) (fun vs H Q E h => ?_) (fun f cdv A outer s H vs Q E hr h => ?_)
  · obtain ⟨_, _, _, _, _, _, _, ⟨_, _, _, _, _, _, rfl, _⟩, _⟩ := h
    rfl
  obtain ⟨e, A, n, c, Θ, cu, hn, ⟨rfl, p, v, old, rows, rfl, rfl, hv, ok, rfl⟩, k⟩ := h
  have c_law_draw := c_law_draw (P := P) (w := w) (base := base) T
  refine ⟨_, (pss_one (ps_ret (pe_lc (own := [("_law_block", 2)]) rfl sc_law_drawn_lot.nd (pi_range1 rfl T.range_ (pa_cons (pe_callB (k_len (K := K)) rfl T.len_ bt_len (pa_cons (pe_ix (kix_list (K := K)) (pv 1) pe_int (fun _ _ => rfl)) pa_nil)) pa_nil)) (blkOk_by (own := [("_law_block", 2)]) (N := N_law_drawn_lot) (sc := defScope s_law_drawn_lot) (by decide +kernel)) (fun _ _ _ _ _ => (pg_name (i := 2) sc_law_drawn_lot.nd rfl (Or.inl rfl))) (fun _ _ _ _ _ => pts_one (pt_cmpR op_eq (C8.pe_c c_law_draw hr (by decide) rfl (pa_cons (pv 0) (pa_cons pe_int pa_nil))) pe_int (nomark _))) (fun _ _ _ _ _ => (pv 2))))), ?_⟩
  have h7 := ok.n7
  refine s_ret (c := 10) (Φ := dp (LB 8 at1)) (Em.wk (c1 := 0 + (rows.length : Int).toNat * (1 + 0)) (Em.imp (em_lc (c := 0) (ct := 1) (ce := 0) (Tt := fun _ _ => True) (Φ := fun i => da (.int (i : Int))) (sr_rng1 (c := 0) (k := rows.length) (ev_is (ev_len (ev_ixL (ev_var (i := 1) rfl hv) ev_int rec_rows)) (by rw [List.length_map])) (by omega)) (by omega) (fun x => rfl) (fun i A1 H1 x hi w px => et_ex (em_eqx (v_law_draw (m := 2) (.refl _) (by decide) (by decide) (ev_var rfl rfl) ev_int))) fun i A1 H1 x hi w px _ => ev_var (i := 2) rfl px) fun A' H' v _ ⟨f, _, p⟩ => ?_) (by simp; omega)) cu hn k
  have p2 := lsQ_da p
  refine ⟨_, ⟨_, rfl, ?_, fun x hx => ?_⟩, p2⟩
  · rw [List.length_map]
    have := List.length_filter_le f (List.range (rows.length : Int).toNat)
    rw [List.length_range] at this
    exact Nat.le_trans this (by omega)
  · obtain ⟨b, _, rfl⟩ := List.mem_map.mp hx
    rfl
theorem v_law_drawn_lot {e : Ef} {ta tb : TE} {σ : L2.St} {A : As} {H : Hp} {E : XK} {p : Addr} {old : Nat} {rows : List (List Nat)} (S : Sube (eP p) e) (ok : okR old rows) (h : Em e 0 ta σ A H (isv (.ref p))) (h2 : Em e 0 tb σ A H (da (recD old rows))) : Em e 10 (tCall sp_law_drawn_lot [] E (tCons ta (tCons tb tNil))) σ A H (dp (LB 8 at1)) :=
  em_pe (c1 := 0) (c2 := 10) S (eva_cons h (eva_cons h2 eva_nil)) fun A' H' vs w _ q => by
    obtain ⟨x, y, rfl, q, q2⟩ := pvs2 q
    obtain rfl : x = .ref p := q
    exact ⟨rfl, p, y, old, rows, rfl, rfl, q2, ok, rfl⟩
/-! _law_bent_lots -/
abbrev sp_law_bent_lots : Sp := Pm fun A H vs Θ => ∃ v, ∃ l : List Nat, vs = [v] ∧ Rp A H v (.list (l.map lot)) ∧ l.length ≤ 128 ∧ Θ = dp (LB 384 (okd 2000 2))
abbrev s_law_bent_lots : Stmt := top 58
abbrev N_law_bent_lots : List Str := ["_law_lots_here", "_law_found", "_law_at", "_law_lot", "_law_some", "_law_late"]
theorem sc_law_bent_lots : FnScope N_law_bent_lots ["_law_lots_here"] (defScope s_law_bent_lots) := ⟨rfl, rfl, rfl, by decide +kernel, rfl, by decide +kernel, by decide +kernel⟩
theorem c_law_bent_lots (T : Tx K mg) : C8.Cal P w K mg base 1 "_law_bent_lots" sp_law_bent_lots [] := by
  refine mkCal T 45 51 rfl rfl sc_law_bent_lots (fun _ _ _ _ _ _ us hl => match us, hl with | [_], _ => rfl) (fun vs H Q E h => ?_) (fun f cdv A outer s H vs Q E hr h => ?_)
  · obtain ⟨A, Θ, _, ⟨v, _, rfl, _⟩, _⟩ := h
    rfl
  obtain ⟨A, Θ, lv, ⟨v, l, rfl, hv, hl, rfl⟩, k⟩ := h
  refine ⟨_, (pss_cons (ps_set (i := 1) sc_law_bent_lots.nd rfl (Or.inl rfl) (pe_lst pa_nil))
  (pss_cons (ps_for PassesOwn.never rfl (kpi_enum (K := K) rfl T.enumerate_ (pa_cons (pv 0) pa_nil)) (kpg_tup (K := K) rfl (pgs_cons (pg_name (i := 2) sc_law_bent_lots.nd rfl (Or.inr rfl)) (pgs_cons (pg_name (i := 3) sc_law_bent_lots.nd rfl (Or.inl rfl)) pgs_nil))) (pss_cons (ps_set (i := 4) sc_law_bent_lots.nd rfl (Or.inl rfl) (pe_op op_cat (pe_op op_rep (pe_lst (pa_cons (kpe_revL (K := K) (pv 3)) pa_nil)) (pe_callTy (k_int) rfl T.int_ bt_int (pa_cons (pe_cmpR op_gt (pe_callB (k_len (K := K)) rfl T.len_ bt_len (pa_cons (pv 3) pa_nil)) pe_int (nomark _)) pa_nil))) (pe_op op_rep (pe_lst (pa_cons (pe_op op_cat (pv 3) (pe_slice (ksl_list (K := K)) (pv 3) (po_some (pe_un un_neg pe_int)) po_none)) (pa_cons (pe_op op_cat (pe_slice (ksl_list (K := K)) (pv 3) po_none (po_some pe_int)) (pv 3)) pa_nil))) (pe_callTy (k_int) rfl T.int_ bt_int (pa_cons (pe_cmpR (kop_neD (K := K) (Room.units hr)) (pv 3) (pe_lst pa_nil) (nomark _)) pa_nil)))))
  (pss_one (ps_set (i := 1) sc_law_bent_lots.nd rfl (Or.inl rfl) (pe_op op_cat (pv 1) (pe_lc (own := [("_law_late", 5)]) rfl sc_law_bent_lots.nd (kpi_list (K := K) (pv 4)) (blkOk_by (own := [("_law_late", 5)]) (N := N_law_bent_lots) (sc := defScope s_law_bent_lots) (by decide +kernel)) (fun _ _ _ _ _ => (pg_name (i := 5) sc_law_bent_lots.nd rfl (Or.inl rfl))) (fun _ _ _ _ _ => pts_nil) (fun _ _ _ _ _ => (pe_op op_cat (pe_op op_cat (pe_slice (ksl_list (K := K)) (pv 0) po_none (po_some (pv 2))) (pe_lst (pa_cons (pv 5) pa_nil))) (pe_slice (ksl_list (K := K)) (pv 0) (po_some (pe_op op_add (pv 2) pe_int)) po_none)))))))))
  (pss_one (ps_ret (pv 1))))), ?_⟩
  refine p_asg (Φ := da (.list [])) (ev_lstD evd_nil (by decide)) lv fun v1 H1 k1 lv1 p1 => ?_
  refine p_forS (fun i σ' H' => ∃ v1 x2 x3 x4, σ' = [some v, some v1, x2, x3, x4, none] ∧ (dp (LB (i * 3) (okd 2000 2))).p A H' v1) (sr_enum (c := 0) (ev_var rfl (hv.up (.k0 k1)))) lv1 (fun _ _ _ _ ⟨v1, x2, x3, x4, h1, h2⟩ kk => ⟨v1, x2, x3, x4, h1, (dp _).up (.of0 kk) h2⟩) (fun H2 k2 => ⟨v1, none, none, none, rfl, _, ⟨[], rfl, Nat.zero_le _, no_mem⟩, p1.up (.of0 k2)⟩) (fun H2 i σ' H' x k2 hi ⟨v1, x2, x3, x4, hσ, hq⟩ k3 lv3 px => ?_) (fun σ' H' ⟨v1, x2, x3, x4, hσ, hq⟩ k2 lv2 => ?_)
  · subst hσ
    have hi2 : i < l.length := by simpa using hi
    have px : Rp A H' x (.tuple [nat i, (l.map lot).getD i .none]) := px
    rw [getD_map hi2] at px
    generalize l.getD i 0 = m at *
    refine g_pair px fun y2 y3 q2 q3 => ?_
    obtain rfl := Rp.int_eq q2
    have e3 : ∀ {σ : L2.St} {A' H'}, σ[3]? = some (some y3) → Rp A' H' y3 (lot m) → Em e0 0 (tVar 3) σ A' H' (dp (LB 8 at1)) := fun h r => em_dp (ev_var h r) (lot_LB m)
    have l16 : ∀ d, LB 8 at1 d → LB 16 at1 d := fun d h => h.mono (by decide) fun _ h => h
    dsimp only
    refine p_asg (Φ := dp (LB (1 + 2) (LB 16 at1))) (em_catB (c := 0) (c1 := 0) (em_repB (c := 0) (c1 := 0) (bb := decide (((nts (blk m)).length : Int) > 1)) (em_lstB (c := 0) (k := 1) (eva_cons (e := e0) (Φ := dp (LB 16 at1)) (Em.imp (em_revB (c := 0) (e3 rfl q3)) fun A' H' v _ ⟨d, hd, p⟩ => ⟨d, l16 d hd, p⟩) eva_nil) (by decide)) (ev_intB (ev_cmp (ev_len (ev_var rfl q3)) ev_int)) (by decide)) (em_repB (c := 0) (c1 := 0) (bb := !PyData.eqv (lot m) (.list [])) (em_lstB (c := 0) (k := 2) (eva_cons (e := e0) (Φ := dp (LB 16 at1)) (em_catB (c := 0) (c1 := 0) (e3 rfl q3) (em_slB (c := 0) (c1 := 0) (c2 := 0) (e3 rfl q3) (evo_some (ev_neg ev_int)) evo_none) (by decide)) (eva_cons (e := e0) (Φ := dp (LB 16 at1)) (em_catB (c := 0) (c1 := 0) (em_slB (c := 0) (c1 := 0) (c2 := 0) (e3 rfl q3) evo_none (evo_some ev_int)) (e3 rfl q3) (by decide)) eva_nil)) (by decide)) (ev_intB (ev_neD (ev_var rfl q3) (ev_lstD evd_nil (by decide)) (shaped_l m) (shaped_nts []))) (by decide)) (by decide)) lv3 fun v4 H4 k4 lv4 p4 => ?_
    have hv4 := hv.up (.k0 (((k1.trans k2).trans k3).trans k4))
    have hq4 := (dp _).up (.k0 k4) hq
    have eL : ∀ {σ : L2.St} {A' H'}, σ[0]? = some (some v) → Wl A H4 A' H' → Em e0 0 (tVar 0) σ A' H' (dp (LB 128 (LB 16 at1))) := fun h w => em_dp (ev_var h (hv4.up w)) ((lots_LB hl).mono (Nat.le_refl _) l16)
    refine p_asg (Φ := dp (LB (i * 3 + 3) (okd 2000 2))) (em_catB (c := 0) (c1 := 0) (ev_var rfl hq4) (em_lcB (c := 0) (C := LB 16 at1) (ev_var rfl p4) (by decide) (fun x => rfl) fun d A1 H5 x hd w px => Em.imp (em_catB (c := 0) (c1 := 0) (N := 128 + 1) (M := 128) (em_catB (c := 0) (c1 := 0) (em_slB (c := 0) (c1 := 0) (c2 := 0) (eL rfl w) evo_none (evo_some (ev_var rfl (.int (i : Int))))) (em_lstB (c := 0) (k := 1) (eva_cons (em_dp (ev_var rfl px) hd) eva_nil) (by decide)) (by decide)) (em_slB (c := 0) (c1 := 0) (c2 := 0) (eL rfl w) (evo_some (ev_bin (ev_var rfl (.int (i : Int))) ev_int)) evo_none) (by decide)) fun A' H' v _ ⟨d, hd, p⟩ => ⟨d, hd.ok2 (by decide) (by decide), p⟩) (by omega)) lv4 fun v5 H5 k5 lv5 p5 => ?_
    refine Iw.p ⟨v5, _, _, _, rfl, ?_⟩ ((k3.trans k4).trans k5) lv5
    rw [Nat.succ_mul]
    exact p5
  · subst hσ
    rw [List.length_map] at hq
    refine p_ret (Φ := dp (LB (l.length * 3) (okd 2000 2))) (ev_var rfl hq) lv2 fun v3 H3 k3 ⟨d, hd, p3⟩ => k v3 H3 ((k1.trans k2).trans k3) ⟨d, hd.mono (by omega) fun _ h => h, p3⟩
theorem v_law_bent_lots {e : Ef} {c : Nat} {ta : TE} {σ : L2.St} {A : As} {H : Hp} {E : XK} {l : List Nat} (hl : l.length ≤ 128) (h : Em e c ta σ A H (da (.list (l.map lot)))) : Em e c (tCall sp_law_bent_lots [] E (tCons ta tNil)) σ A H (dp (LB 384 (okd 2000 2))) :=
  em_pm (ema_cons (c2 := 0) h ema_nil) fun A' H' vs w p => by
    obtain ⟨x, rfl, q⟩ := pvs1 p
    exact ⟨x, l, rfl, q, hl, rfl⟩
/-! _law_far_blocks -/
abbrev sp_law_far_blocks : Sp := Pm fun A H vs Θ => ∃ v x old rows, vs = [v, x] ∧ Rp A H v (recD old rows) ∧ Rp A H x (.list [nat 0]) ∧ Θ = dp (LB 9 (okd 2000 1))
abbrev s_law_far_blocks : Stmt := top 59
abbrev N_law_far_blocks : List Str := ["_law_recipe_here", "_law_blocks", "_law_many", "_law_found", "_law_odd"]
theorem sc_law_far_blocks : FnScope N_law_far_blocks ["_law_recipe_here", "_law_blocks"] (defScope s_law_far_blocks) := ⟨rfl, rfl, rfl, by decide +kernel, rfl, by decide +kernel, by decide +kernel⟩
theorem c_law_far_blocks (T : Tx K mg) : C8.Cal P w K mg base 1 "_law_far_blocks" sp_law_far_blocks [] := by
  refine mkCal T 46 52 rfl rfl sc_law_far_blocks (fun _ _ _ _ _ _ us hl => match us, hl with | [_, _], _ => rfl) (fun vs H Q E h => ?_) (fun f cdv A outer s H vs Q E hr h => ?_)
  · obtain ⟨A, Θ, _, ⟨v, _, _, _, rfl, _⟩, _⟩ := h
    rfl
  obtain ⟨A, Θ, lv, ⟨v, x, old, rows, rfl, hv, hx, rfl⟩, k⟩ := h
  refine ⟨_, (pss_cons (ps_set (i := 2) sc_law_far_blocks.nd rfl (Or.inl rfl) (pe_callB (k_len (K := K)) rfl T.len_ bt_len (pa_cons (pe_ix (kix_list (K := K)) (pv 0) pe_int (fun _ _ => rfl)) pa_nil)))
  (pss_cons (ps_set (i := 3) sc_law_far_blocks.nd rfl (Or.inl rfl) (pe_lst pa_nil))
  (pss_cons (ps_for PassesOwn.never rfl (kpi_tup (K := K) (pe_tup (pa_cons (pe_un un_neg pe_int) (pa_cons (pv 2) (pa_cons pe_int pa_nil))))) (pg_name (i := 4) sc_law_far_blocks.nd rfl (Or.inl rfl)) (pss_one (ps_set (i := 3) sc_law_far_blocks.nd rfl (Or.inl rfl) (pe_op op_cat (pv 3) (pe_lst (pa_cons (pe_op op_cat (pv 1) (pe_lst (pa_cons (pv 4) pa_nil))) (pa_cons (pe_op op_cat (pe_lst (pa_cons (pv 4) pa_nil)) (pe_slice (ksl_list (K := K)) (pv 1) (po_some pe_int) po_none)) (pa_cons (pe_op op_cat (pe_slice (ksl_list (K := K)) (pv 1) po_none (po_some (pe_un un_neg pe_int))) (pe_lst (pa_cons (pv 4) pa_nil))) pa_nil))))))))
  (pss_one (ps_ret (pv 3)))))), ?_⟩
  refine p_asg (Φ := da (nat rows.length)) (ev_is (ev_len (ev_ixL (ev_var rfl hv) ev_int rec_rows)) (by rw [List.length_map])) lv fun v2 H1 k1 lv1 p1 => ?_
  obtain rfl := Rp.int_eq p1
  refine p_asg (Φ := da (.list [])) (ev_lstD evd_nil (by decide)) lv1 fun v3 H2 k2 lv2 p2 => ?_
  refine p_forS (fun i σ' H' => ∃ v3 x4, σ' = [some v, some x, some (.int (rows.length : Int)), some v3, x4] ∧ (dp (LB (i * 3) (okd 2000 1))).p A H' v3) (vr_tup (ds := [.int (-1), nat rows.length, .int 60]) (ev_tupD (evd_cons (ev_neg ev_int) (evd_cons (ev_var rfl (.int (rows.length : Int))) (evd_cons ev_int evd_nil))) (show (3 : Nat) ≤ 100000 by decide))) lv2 (fun _ _ _ _ ⟨v1, x4, h1, h2⟩ kk => ⟨v1, x4, h1, (dp _).up (.of0 kk) h2⟩) (fun H3 k3 => ⟨v3, none, rfl, _, ⟨[], rfl, Nat.zero_le _, no_mem⟩, p2.up (.of0 k3)⟩) (fun H3 i σ' H' y k3 hi ⟨v3, x4, hσ, hq⟩ k4 lv4 px => ?_) (fun σ' H' ⟨v3, x4, hσ, hq⟩ k3 lv3 => ?_)
  · subst hσ
    have hi : i < 3 := hi
    have hy : ∃ j : Int, Rp A H' y (.int j) := by
      have px : Rp A H' y (([.int (-1), nat rows.length, .int 60] : List PyData).getD i .none) := px
      match i, hi, px with
      | 0, _, px => exact ⟨_, px⟩
      | 1, _, px => exact ⟨_, px⟩
      | 2, _, px => exact ⟨_, px⟩
    obtain ⟨j, hy⟩ := hy
    obtain rfl := Rp.int_eq hy
    have hx4 := hx.up (.k0 (((k1.trans k2).trans k3).trans k4))
    have eB : Em e0 0 (tVar 1) [some v, some x, some (.int (rows.length : Int)), some v3, some (.int j)] A H' (dp (LB 1 at1)) := em_dp (ev_var rfl hx4) ⟨_, rfl, by decide, fun z hz => by rw [List.mem_singleton.mp hz]; rfl⟩
    have eO : Em e0 0 (tLst (tCons (tVar 4) tNil)) [some v, some x, some (.int (rows.length : Int)), some v3, some (.int j)] A H' (dp (LB 1 at1)) := em_dp (ev_lstD (evd_cons (ev_var rfl (.int j)) evd_nil) (show (1 : Nat) ≤ 100000 by decide)) ⟨_, rfl, Nat.le_refl _, fun z hz => by rw [List.mem_singleton.mp hz]; rfl⟩
    have up1 : ∀ {te : TE} {σ : L2.St}, Em e0 0 te σ A H' (dp (LB (1 + 1) at1)) → Em e0 0 te σ A H' (dp (okd 2000 1)) := fun h => h.imp fun A' H' v _ ⟨d, hd, p⟩ => ⟨d, hd.ok1 (by decide), p⟩
    refine p_asg (Φ := dp (LB (i * 3 + 3) (okd 2000 1))) (em_catB (c := 0) (c1 := 0) (ev_var rfl hq) (em_lstB (c := 0) (k := 3) (eva_cons (up1 (em_catB (c := 0) (c1 := 0) eB eO (by decide))) (eva_cons (up1 (em_catB (c := 0) (c1 := 0) eO (em_slB (c := 0) (c1 := 0) (c2 := 0) eB (evo_some ev_int) evo_none) (by decide))) (eva_cons (up1 (em_catB (c := 0) (c1 := 0) (em_slB (c := 0) (c1 := 0) (c2 := 0) eB evo_none (evo_some (ev_neg ev_int))) eO (by decide))) eva_nil))) (by decide)) (by omega)) lv4 fun v5 H5 k5 lv5 p5 => ?_
    refine Iw.p ⟨v5, _, rfl, ?_⟩ (k4.trans k5) lv5
    rw [Nat.succ_mul]
    exact p5
  · subst hσ
    exact p_ret (Φ := dp (LB 9 (okd 2000 1))) (ev_var rfl hq) lv3 fun u H4 k4 p4 => k u H4 (((k1.trans k2).trans k3).trans k4) p4
theorem v_law_far_blocks {e : Ef} {ta tb : TE} {σ : L2.St} {A : As} {H : Hp} {E : XK} {old : Nat} {rows : List (List Nat)} (h : Em e 0 ta σ A H (da (recD old rows))) (h2 : Em e 0 tb σ A H (da (.list [nat 0]))) : Em e 0 (tCall sp_law_far_blocks [] E (tCons ta (tCons tb tNil))) σ A H (dp (LB 9 (okd 2000 1))) :=
  em_pm (c := 0) (eva_cons h (eva_cons h2 eva_nil)) fun A' H' vs w p => by
    obtain ⟨x, y, rfl, q, q2⟩ := pvs2 p
    exact ⟨x, y, old, rows, rfl, q, q2, rfl⟩
end
end SB
namespace SB
open PySem PySem.Spec PyProof.Rows L2 LamX RZ
abbrev g2 : PyData → Prop := okd 2000 2
abbrev g1 : PyData → Prop := okd 2000 1
theorem lots_g1 {l : List Nat} (h : l.length ≤ 128) : LB 128 g1 (.list (l.map lot)) := (lots_LB h).mono (Nat.le_refl _) fun _ h => h.ok1 (by decide)
section
variable {e : Ef} {c c1 c2 : Nat} {ta : TE} {σ : L2.St} {A : As} {H : Hp} {N : Nat}
theorem em_g2 (h : Em e c ta σ A H (dp (LB N g1))) (hN : N ≤ 2000) : Em e c ta σ A H (dp g2) := h.imp fun A' H' v _ ⟨d, hd, p⟩ => ⟨d, hd.ok hN, p⟩
end
section
variable {K : PySem.W.Frag} {mg : Str → Option Value} {P : Program} {w : World} {base : Heap}
/-! _law_bent -/
abbrev sp_law_bent : Sp := Pe fun e A H vs c Θ => c = 300 ∧ ∃ p v x y old rows, ∃ l : List Nat, ∃ b : Int, e = eP p ∧ vs = [.ref p, v, x, .int b, y] ∧ Rp A H v (recD old rows) ∧ okR old rows ∧ (holdsP (bitsR rows)).p A H x ∧ Rp A H y (.list (l.map lot)) ∧ l.length ≤ 128 ∧ Θ = dp (LB 28 g2)
abbrev s_law_bent : Stmt := top 61
abbrev N_law_bent : List Str := ["_law_purse_here", "_law_recipe_here", "_law_holds_here", "_law_bound", "_law_lots_here", "_law_found", "_law_low", "_law_turn", "_law_at", "_law_extra", "_law_lot"]
theorem sc_law_bent : FnScope N_law_bent ["_law_purse_here", "_law_recipe_here", "_law_holds_here", "_law_bound", "_law_lots_here"] (defScope s_law_bent) := ⟨rfl, rfl, rfl, by decide +kernel, rfl, by decide +kernel, by decide +kernel⟩
theorem c_law_bent (T : Tx K mg) : C8.Cal P w K mg base 4 "_law_bent" sp_law_bent [] := by
  refine mkCal T 48 54 rfl rfl sc_law_bent (fun _ _ _ _ _ _ us hl => match us, hl with | [_, _, _, _, _], _ => rfl) (fun vs H Q E h => ?_) (fun f cdv A outer s H vs Q E hr h => ?_)
  · obtain ⟨_, _, _, _, _, _, _, ⟨_, _, _, _, _, _, _, _, _, _, rfl, _⟩, _⟩ := h
    rfl
  obtain ⟨e, A, n, c, Θ, cu, hn, ⟨rfl, p, v, x, y, old, rows, l, b, rfl, rfl, hv, okr, hx, hy, hl, rfl⟩, k⟩ := h
  have c_law_draw := c_law_draw (P := P) (w := w) (base := base) T
  have c_law_shuffled := c_law_shuffled (P := P) (w := w) (base := base) T
  have c_law_drawn_lot := c_law_drawn_lot (P := P) (w := w) (base := base) T
  refine ⟨_, (pss_cons (ps_set (i := 5) sc_law_bent.nd rfl (Or.inl rfl) (pe_lst (pa_cons (pe_lst pa_nil) (pa_cons (pe_slice (ksl_list (K := K)) (pv 4) (po_some pe_int) po_none) (pa_cons (pe_slice (ksl_list (K := K)) (pv 4) po_none (po_some (pe_un un_neg pe_int))) (pa_cons (kpe_revL (K := K) (pv 4)) (pa_cons (pe_op op_cat (pv 4) (pe_slice (ksl_list (K := K)) (pv 4) (po_some (pe_un un_neg pe_int)) po_none)) (pa_cons (pe_callTy (k_tuple (K := K)) rfl T.tuple_ bt_tuple (pa_cons (pv 4) pa_nil)) (pa_cons (pe_lc (own := [("_law_lot", 10)]) rfl sc_law_bent.nd (kpi_list (K := K) (pv 4)) (blkOk_by (own := [("_law_lot", 10)]) (N := N_law_bent) (sc := defScope s_law_bent) (by decide +kernel)) (fun _ _ _ _ _ => (pg_name (i := 10) sc_law_bent.nd rfl (Or.inl rfl))) (fun _ _ _ _ _ => pts_nil) (fun _ _ _ _ _ => (pe_callTy (k_tuple (K := K)) rfl T.tuple_ bt_tuple (pa_cons (pv 10) pa_nil)))) (pa_cons (pe_op op_cat (pv 4) (pe_lst (pa_cons pe_non pa_nil))) (pa_cons (pe_lst (pa_cons (pe_lst pa_nil) pa_nil)) (pa_cons (pe_op op_cat (pv 4) (pe_lst (pa_cons (pe_lst (pa_cons pe_int pa_nil)) pa_nil))) (pa_cons (C8.pe_c c_law_shuffled hr (by decide) rfl (pa_cons (pv 0) (pa_cons (pv 4) pa_nil))) pa_nil)))))))))))))
  (pss_cons (ps_lock (ps_setLc (i := 6) (own := [("_law_lot", 10)]) rfl sc_law_bent.nd rfl rfl (sw_true rfl rfl rfl (by decide +kernel)) (pi_keys (pv 2)) (blkOk_by (own := [("_law_lot", 10)]) (N := N_law_bent) (sc := defScope s_law_bent) (by decide +kernel)) (fun _ _ _ _ _ => (pg_name (i := 10) sc_law_bent.nd rfl (Or.inl rfl))) (fun _ _ _ _ _ => pts_one (pt_cmpR op_le (pe_dget (u1 hr) (pv 2) (pv 10) (fun _ _ => rfl)) (pv 3) (nomark _))) (fun _ _ _ _ _ => (pe_callTy (k_list (K := K)) rfl T.list_ bt_list (pa_cons (pv 10) pa_nil)))))
  (pss_cons (ps_set (i := 5) sc_law_bent.nd rfl (Or.inl rfl) (pe_op op_cat (pv 5) (pe_lst (pa_cons (pv 6) (pa_cons (pe_lc (own := [("_law_lot", 10)]) rfl sc_law_bent.nd (kpi_list (K := K) (pv 6)) (blkOk_by (own := [("_law_lot", 10)]) (N := N_law_bent) (sc := defScope s_law_bent) (by decide +kernel)) (fun _ _ _ _ _ => (pg_name (i := 10) sc_law_bent.nd rfl (Or.inl rfl))) (fun _ _ _ _ _ => pts_one (pt_cmpR op_lt (pe_callB (k_len (K := K)) rfl T.len_ bt_len (pa_cons (pv 10) pa_nil)) (pe_op op_sub (pe_callB (k_len (K := K)) rfl T.len_ bt_len (pa_cons (pe_ix (kix_list (K := K)) (pv 1) pe_int (fun _ _ => rfl)) pa_nil)) pe_int) (nomark _))) (fun _ _ _ _ _ => (pv 10))) pa_nil)))))
  (pss_cons (ps_for PassesOwn.never rfl (pi_range1 rfl T.range_ (pa_cons pe_int pa_nil)) (pg_name (i := 7) sc_law_bent.nd rfl (Or.inl rfl)) (pss_cons (ps_set (i := 8) sc_law_bent.nd rfl (Or.inl rfl) (pe_ifExp (pt_cmpR (kop_neD (K := K) (Room.units hr)) (pv 4) (pe_lst pa_nil) (nomark _)) (C8.pe_c c_law_draw hr (by decide) rfl (pa_cons (pv 0) (pa_cons (pe_callB (k_len (K := K)) rfl T.len_ bt_len (pa_cons (pv 4) pa_nil)) pa_nil))) pe_int))
  (pss_cons (ps_set (i := 9) sc_law_bent.nd rfl (Or.inl rfl) (pe_lst (pa_cons (C8.pe_c c_law_drawn_lot hr (by decide) rfl (pa_cons (pv 0) (pa_cons (pv 1) pa_nil))) pa_nil)))
  (pss_one (ps_set (i := 5) sc_law_bent.nd rfl (Or.inl rfl) (pe_op op_cat (pv 5) (pe_lst (pa_cons (pe_op op_cat (pe_slice (ksl_list (K := K)) (pv 4) po_none (po_some (pv 8))) (pe_slice (ksl_list (K := K)) (pv 4) (po_some (pe_op op_add (pv 8) pe_int)) po_none)) (pa_cons (pe_op op_cat (pv 4) (pv 9)) (pa_cons (pe_op op_cat (pe_op op_cat (pe_slice (ksl_list (K := K)) (pv 4) po_none (po_some (pv 8))) (pv 9)) (pe_slice (ksl_list (K := K)) (pv 4) (po_some (pe_op op_add (pv 8) pe_int)) po_none)) pa_nil))))))))))
  (pss_one (ps_ret (pv 5))))))), ?_⟩
  have hn3 : n + 300 ≤ big := hn
  have ok := okr.b
  have h7 := okr.n7
  have eb : (bitsR rows).length = rows.length := List.length_map _
  generalize hbs : bitsR rows = bs at *
  have hpow : 2 ^ bs.length ≤ 2 ^ 7 := Nat.pow_le_pow_right (n := 2) (by decide) (by omega)
  obtain ⟨ms, hms, hxT⟩ := hx
  obtain ⟨dh, rfl, hdA, hdh⟩ := hxT
  have mm : ∀ m, m ∈ ms ↔ m < 2 ^ bs.length := fun m => by rw [hms.mem_iff, List.mem_range]
  have ms8 : ∀ m ∈ ms, m < 256 := fun m hm => by have := (mm m).mp hm; omega
  have hml : ms.length ≤ 128 := by rw [hms.length_eq, List.length_range]; exact hpow
  have eL : ∀ {e : Ef} {σ : L2.St} {A' H'}, σ[4]? = some (some y) → Wl A H A' H' → Em e 0 (tVar 4) σ A' H' (dp (LB 128 g1)) := fun h w => em_dp (ev_var h (hy.up w)) (lots_g1 hl)
  have g1n : g1 (.list []) := .inr ⟨[], .inl rfl, by decide, no_mem⟩
  refine s_asg (c := 128) (Φ := dp (LB 11 g2)) (em_lstB (k := 11) (C := g2)
    (ema_cons (c1 := 0) (c2 := 128) (em_dp (ev_lstD evd_nil (by decide)) (.inr ⟨[], .inl rfl, by decide, no_mem⟩))
    (ema_cons (c1 := 0) (c2 := 128) (em_g2 (em_slB (c := 0) (c1 := 0) (c2 := 0) (eL rfl (.refl _ _)) (evo_some ev_int) evo_none) (by decide))
    (ema_cons (c1 := 0) (c2 := 128) (em_g2 (em_slB (c := 0) (c1 := 0) (c2 := 0) (eL rfl (.refl _ _)) evo_none (evo_some (ev_neg ev_int))) (by decide))
    (ema_cons (c1 := 0) (c2 := 128) (em_g2 (em_revB (c := 0) (eL rfl (.refl _ _))) (by decide))
    (ema_cons (c1 := 0) (c2 := 128) (em_g2 (em_catB (c := 0) (c1 := 0) (eL rfl (.refl _ _)) (em_slB (c := 0) (c1 := 0) (c2 := 0) (eL rfl (.refl _ _)) (evo_some (ev_neg ev_int)) evo_none) (by decide)) (by decide))
    (ema_cons (c1 := 0) (c2 := 128) (em_dp (ev_tuple (ev_var rfl hy)) ?_)
    (ema_cons (c1 := 0) (c2 := 128) (em_dp (em_lcM (c := 0) (it := lot) (g := tlot) (sr_listM (ev_var rfl hy)) (by omega) (fun x => rfl) fun m A1 H1 x hm w px => ev_tuple (ev_var rfl px)) ?_)
    (ema_cons (c1 := 0) (c2 := 128) (em_g2 (em_catB (c := 0) (c1 := 0) (eL rfl (.refl _ _)) (em_lstB (c := 0) (k := 1) (eva_cons (em_dp ev_non (.inl rfl)) eva_nil) (by decide)) (by decide)) (by decide))
    (ema_cons (c1 := 0) (c2 := 128) (em_g2 (em_lstB (c := 0) (k := 1) (eva_cons (em_dp (ev_lstD evd_nil (by decide)) g1n) eva_nil) (by decide)) (by decide))
    (ema_cons (c1 := 0) (c2 := 128) (em_g2 (em_catB (c := 0) (c1 := 0) (eL rfl (.refl _ _)) (em_lstB (c := 0) (k := 1) (eva_cons (em_dp (ev_lstD (ds := [.int 0]) (evd_cons ev_int evd_nil) (by decide)) (.inr ⟨_, .inl rfl, by decide, fun x hx => by rw [List.mem_singleton.mp hx]; rfl⟩)) eva_nil) (by decide)) (by decide)) (by decide))
    (ema_cons (c1 := 128) (c2 := 0) (Em.wk (c1 := (l.map lot).length) (Em.imp (v_law_shuffled (.refl _) (by rw [List.length_map]; omega) (ev_var rfl rfl) (ev_var rfl hy)) fun A' H' v _ ⟨es, hp, q⟩ => ?_) (by rw [List.length_map]; exact hl)) ema_nil)))))))))))
    (by decide)) cu (by omega) fun v5 H1 k1 cu1 p1 => ?_
  · exact .inr ⟨_, .inr rfl, by rw [List.length_map]; omega, fun x hx => by
      obtain ⟨m, _, rfl⟩ := List.mem_map.mp hx
      exact (lot_LB m).ok1 (by decide)⟩
  · refine .inr ⟨_, .inl rfl, by rw [List.length_map]; omega, fun x hx => ?_⟩
    obtain ⟨m, _, rfl⟩ := List.mem_map.mp hx
    refine .inr ⟨_, .inr rfl, Nat.le_trans (lot_len m) (by decide), fun z hz => ?_⟩
    obtain ⟨b, _, rfl⟩ := List.mem_map.mp hz
    rfl
  · refine ⟨_, .inr ⟨es, .inl rfl, by rw [hp.length_eq, List.length_map]; omega, fun x hx => ?_⟩, q⟩
    obtain ⟨m, _, rfl⟩ := List.mem_map.mp (hp.mem_iff.mp hx)
    exact (lot_LB m).ok1 (by decide)
  have w1 : Wl A H A H1 := cu.wl k1
  obtain ⟨hA1, hd1⟩ := w1.f dh _ hdA hdh
  refine lock_asg ?_
  refine s_asg (c := 0) (Φ := da (.list ((ms.filter fun m => decide ((held bs m : Int) ≤ b)).map lot))) (Em.em (ev_lcT (q := 2) (ms := ms) (f := fH bs) (qf := fun m => decide ((held bs m : Int) ≤ b)) (g := lot) rfl hA1 hd1 (by omega) (fun x => rfl) (fun od hx m A1 H2 x hm w px => vt_B (ev_cmp (em_dGetO (c := 0) (c1 := 0) (m := m) (Θ := da (.int (held bs m : Int))) (.refl _) (.inr ⟨od, rfl⟩) (ev_var rfl rfl) (ev_var rfl px) ms8 hm fun _ _ => .int _) (ev_var rfl (.int b)))) fun od hx m A1 H2 x hm w px _ => ev_listT (ev_var rfl px))) cu1 (by omega) fun v6 H2 k2 cu2 p2 => ?_
  have w2 : Wl A H A H2 := w1.trans (cu1.wl k2)
  have hfl : (ms.filter fun m => decide ((held bs m : Int) ≤ b)).length ≤ 128 := Nat.le_trans (List.length_filter_le _ _) hml
  generalize (ms.filter fun m => decide ((held bs m : Int) ≤ b)) = fl at *
  refine s_asg (c := 0) (Φ := dp (LB (11 + 2) g2)) (em_catB (c := 0) (c1 := 0) (ev_var rfl ((dp _).up (cu1.wl k2) p1)) (em_lstB (c := 0) (k := 2) (eva_cons (em_g2 (em_dp (ev_var rfl p2) (lots_g1 hfl)) (by decide)) (eva_cons (em_g2 (em_dp (em_lcF (c := 0) (it := lot) (g := lot) (q := fun m => decide ((pc m : Int) < (bs.length : Int) - 1)) (sr_listM (ev_var rfl p2)) (by omega) (fun x => rfl) (fun m A1 H3 x hm w px => vt_B (ev_cmp (ev_is (ev_len (ev_var rfl px)) (by rw [List.length_map]; rfl)) (ev_bin (ev_is (ev_len (ev_ixL (ev_var rfl (hv.up (w2.trans w))) ev_int rec_rows)) (by rw [List.length_map, eb])) ev_int))) fun m A1 H3 x hm w px _ => ev_var rfl px) (lots_g1 (Nat.le_trans (List.length_filter_le _ _) hfl))) (by decide)) eva_nil)) (by decide)) (by decide)) cu2 (by omega) fun v7 H3 k3 cu3 p3 => ?_
  have w3 : Wl A H A H3 := w2.trans (cu2.wl k3)
  refine s_forS (e := eP p) (c := 0) 11 (fun i σ' H' => ∃ v5 x7 x8 x9, σ' = [some (.ref p), some v, some (.ref dh), some (.int b), some y, some v5, some v6, x7, x8, x9, none] ∧ (dp (LB (13 + i * 3) g2)).p A H' v5) (sr_rng1 (c := 0) (k := 5) ev_int (by decide)) cu3 (by omega) (fun _ _ _ _ ⟨v5, x7, x8, x9, h1, h2⟩ kk => ⟨v5, x7, x8, x9, h1, (dp _).up (.of0 kk) h2⟩) (fun H4 k4 => ⟨v7, none, none, none, rfl, (dp _).up (.of k4 cu3.sub) p3⟩) (fun H4 i σ' H' z k4 hi ⟨v5', x7, x8, x9, hσ, hq⟩ k5 cu5 px => ?_) (fun σ' H' ⟨v5', x7, x8, x9, hσ, hq⟩ k4 cu4 => ?_)
  · subst hσ
    have hi : i < 5 := hi
    have w5 : Wl A H A H' := w3.trans (.of (k4.trans k5) cu5.sub)
    refine s_asg (c := 0 + 1) (Φ := someN) (em_if (c1 := 0) (c2 := 1) (T := ((!PyData.eqv (.list (l.map lot)) (.list [])) = ·)) (vt_B (ev_neD (ev_var rfl (hy.up w5)) (ev_lstD evd_nil (by decide)) (shaped_ll l) (shaped_nts []))) (fun h => Em.imp (v_law_draw (m := (l.map lot).length) (.refl _) ?_ (by rw [List.length_map]; omega) (ev_var rfl rfl) (ev_len (ev_var rfl (hy.up w5)))) fun A' H' v _ ⟨k, _, q⟩ => ⟨k, trivial, q⟩) fun h => Em.wk (c1 := 0) (Em.imp (ev_int (k := 0)) fun A' H' v _ q => ⟨0, trivial, q⟩) (by decide)) cu5 (by omega) fun v8 H6 k6 cu6 p6 => ?_
    · rw [List.length_map]
      cases l with
      | nil => simp [PyData.eqv, PyData.eqvAll] at h
      | cons m l => simp
    obtain ⟨at8, _, p6⟩ := p6
    obtain rfl := Rp.int_eq p6
    have w6 := w5.trans (cu5.wl k6)
    refine s_asg (c := 10) (Φ := dp (LB 1 g1)) (em_lstB (k := 1) (ema_cons (c1 := 10) (c2 := 0) (Em.imp (v_law_drawn_lot (.refl _) okr (ev_var rfl rfl) (ev_var rfl (hv.up w6))) fun A' H' v _ ⟨d, hd, q⟩ => ⟨d, hd.ok1 (by decide), q⟩) ema_nil) (by decide)) cu6 (by omega) fun v9 H7 k7 cu7 p7 => ?_
    have w7 := w6.trans (cu6.wl k7)
    have hq7 := (dp _).up ((cu5.wl k6).trans (cu6.wl k7)) hq
    have eA : ∀ {σ : L2.St}, σ[8]? = some (some (.int (at8 : Int))) → Em (eP p) 0 (tVar 8) σ A H7 (da (nat at8)) := fun h => ev_var h (.int (at8 : Int))
    refine s_asg (c := 0) (Φ := dp (LB (13 + i * 3 + 3) g2)) (em_catB (c := 0) (c1 := 0) (ev_var rfl hq7) (em_lstB (c := 0) (k := 3) (eva_cons (em_g2 (em_catB (c := 0) (c1 := 0) (em_slB (c := 0) (c1 := 0) (c2 := 0) (eL rfl w7) evo_none (evo_some (eA rfl))) (em_slB (c := 0) (c1 := 0) (c2 := 0) (eL rfl w7) (evo_some (ev_bin (eA rfl) ev_int)) evo_none) (by decide)) (by decide)) (eva_cons (em_g2 (em_catB (c := 0) (c1 := 0) (eL rfl w7) (ev_var rfl p7) (by decide)) (by decide)) (eva_cons (em_g2 (em_catB (c := 0) (c1 := 0) (em_catB (c := 0) (c1 := 0) (em_slB (c := 0) (c1 := 0) (c2 := 0) (eL rfl w7) evo_none (evo_some (eA rfl))) (ev_var rfl p7) (by decide)) (em_slB (c := 0) (c1 := 0) (c2 := 0) (eL rfl w7) (evo_some (ev_bin (eA rfl) ev_int)) evo_none) (by decide)) (by decide)) eva_nil))) (by decide)) (by omega)) cu7 (by omega) fun v10 H8 k8 cu8 p8 => ?_
    refine ⟨⟨v10, _, _, _, rfl, ?_⟩, ((k5.trans k6).trans k7).trans k8, ?_⟩
    · rw [Nat.succ_mul, ← Nat.add_assoc]
      exact p8
    · exact cu8.mono (by omega)
  · subst hσ
    refine s_ret (c := 0) (Φ := dp (LB 28 g2)) (ev_var rfl hq) cu4 (by omega) fun u H5 k5 j5 p5 => k u H5 ((((k1.trans k2).trans k3).trans k4).trans k5) ((eP p).mono (by omega) j5) p5
theorem v_law_bent {e : Ef} {ta tb tc td te : TE} {σ : L2.St} {A : As} {H : Hp} {E : XK} {p : Addr} {old : Nat} {rows : List (List Nat)} {l : List Nat} {b : Int} (S : Sube (eP p) e) (ok : okR old rows) (hl : l.length ≤ 128) (h : Em e 0 ta σ A H (isv (.ref p))) (h2 : Em e 0 tb σ A H (da (recD old rows))) (h3 : Em e 0 tc σ A H (holdsP (bitsR rows))) (h4 : Em e 0 td σ A H (da (.int b))) (h5 : Em e 0 te σ A H (da (.list (l.map lot)))) : Em e 300 (tCall sp_law_bent [] E (tCons ta (tCons tb (tCons tc (tCons td (tCons te tNil)))))) σ A H (dp (LB 28 g2)) :=
  em_pe (c1 := 0) (c2 := 300) S (eva_cons h (eva_cons h2 (eva_cons h3 (eva_cons h4 (eva_cons h5 eva_nil))))) fun A' H' vs w _ q => by
    obtain ⟨x, y, z, u, t, rfl, q, q2, q3, q4, q5⟩ := pvs5 q
    obtain rfl : x = .ref p := q
    obtain rfl := Rp.int_eq q4
    exact ⟨rfl, p, y, z, t, old, rows, l, b, rfl, rfl, q2, ok, q3, q5, hl, rfl⟩
end
end SB
namespace SB
open PySem PySem.Spec PyProof.Rows L2 LamX RZ
/-! ### what a barrier shows -/
theorem int_nat {h : Nat} {b : Int} (hb : 0 ≤ b) : (h : Int) ≤ b ↔ h ≤ b.toNat := by omega
theorem barsM_no {bs : List Nat} (ok : okB bs) {b : Int} (hb : 0 ≤ b) {d : PyData} (h : barsM bs b d = true) : ¬ Rb bs b.toNat 0 := by
  have h7 := ok.n7
  have h1 := ok.n1
  unfold barsM at h
  rw [Bool.and_eq_true] at h
  obtain ⟨hl, hc⟩ := h
  have hr : allRis bs.length d = true := ((Bool.and_eq_true _ _).mp hl).1
  obtain ⟨ds, rfl⟩ : ∃ ds, d = .list ds := by
    cases d with
    | list ds => exact ⟨ds, rfl⟩
    | _ => cases hr
  have hm : ∀ m ∈ setOf (masks (.list ds)), m < 2 ^ bs.length := fun m hm => by
    obtain ⟨d, hd, rfl⟩ := List.mem_map.mp (setOf_mem.mp hm)
    obtain ⟨k, hk, rfl⟩ := allRis_lots (by omega) hr d hd
    rw [mk_lot (ok.m hk)]
    exact hk
  generalize setOf (masks (.list ds)) = ms at *
  unfold closedB at hc
  rw [Bool.and_eq_true, List.all_eq_true] at hc
  obtain ⟨hc, h0⟩ := hc
  have key : ∀ m, Rb bs b.toNat m → m ∉ ms := fun m q => by
    induction q with
    | top =>
      intro hq
      have := hc _ hq
      unfold okL at this
      rw [Bool.and_eq_true, Bool.and_eq_true, decide_eq_true_iff, decide_eq_true_iff] at this
      have h2 := (pc_whole (n := bs.length) (m := 2 ^ bs.length - 1) (by omega) (hm _ hq)).mpr rfl
      omega
    | @step m x g1 g2 g3 g4 ih =>
      intro hq
      have hmm := hm _ hq
      have q2 := hc _ hq
      unfold okL at q2
      rw [Bool.and_eq_true, Bool.and_eq_true, decide_eq_true_iff, decide_eq_true_iff, List.all_map, List.all_eq_true] at q2
      have q3 : (decide (m ||| 2 ^ x ∈ ms) || decide ((held bs (m ||| 2 ^ x) : Int) > b)) = true := q2.2 x (out_mem.mpr ⟨g2, g3⟩)
      rcases (Bool.or_eq_true _ _).mp q3 with z | z
      · exact ih (of_decide_eq_true z)
      · have z := of_decide_eq_true z
        rcases g4.low with y | y
        · have e1 := pc_or (ok.m hmm) (by omega : x < 8) g3
          have e2 := (pc_whole (n := bs.length) (by omega) (or_lt2 hmm g2)).mpr y
          omega
        · omega
  intro q
  have hp := Nat.pow_le_pow_right (n := 2) (by decide) h1
  rcases q.low with z | z
  · omega
  · rcases (Bool.or_eq_true _ _).mp h0 with y | y
    · exact key 0 q (of_decide_eq_true y)
    · have y := of_decide_eq_true y
      omega
theorem Rc.low {bs : List Nat} {b : Int} {m : Nat} (h : Rc bs b m) : (held bs m : Int) ≤ b := by
  cases h with
  | zero h => exact h
  | step _ _ _ _ h => exact h
theorem Rc.back {bs : List Nat} {b : Int} (hb : 0 ≤ b) {m : Nat} (h : Rc bs b m) : Rb bs b.toNat m → Rb bs b.toNat 0 := by
  induction h with
  | zero h => exact id
  | @step m x h h1 h2 h3 h4 ih => exact fun q => ih (.step ((int_nat hb).mp h.low) h1 h2 q)
theorem Rc.ne {bs : List Nat} (h1 : 1 ≤ bs.length) {b : Int} {m : Nat} (h : Rc bs b m) : m ≠ 2 ^ bs.length - 1 := by
  have hp := Nat.pow_le_pow_right (n := 2) (by decide) h1
  cases h with
  | zero h => omega
  | step _ _ _ h _ => exact h
theorem barsM_rs {bs : List Nat} (ok : okB bs) {b : Int} (hb : 0 ≤ b) {l : List Nat} (h : Rs bs b l) (hn : ¬ Rb bs b.toNat 0) : barsM bs b (.list (l.map lot)) = true := by
  have h7 := ok.n7
  have l8 : ∀ m ∈ l, m < 256 := fun m hm => ok.m ((h.m m).mp hm).lt
  have emk : masks (.list (l.map lot)) = l := by
    show (l.map lot).map mk = l
    rw [List.map_map]
    have z : ∀ m ∈ l, (mk ∘ lot) m = id m := fun m hm => mk_lot (l8 m hm)
    rw [List.map_congr_left z, List.map_id]
  have hall : allRis bs.length (.list (l.map lot)) = true := by
    show (((l.map lot).map (isRis bs.length)).all id) = true
    rw [List.all_map, List.all_map, List.all_eq_true]
    exact fun m hm => (isRis_lot (n := bs.length) (by omega) (lot m)).mpr ⟨m, ((h.m m).mp hm).lt, rfl⟩
  unfold barsM lotsOk
  rw [emk, hall, setOf_id h.nd, decide_eq_true rfl, Bool.true_and, Bool.true_and]
  unfold closedB
  rw [Bool.and_eq_true, List.all_eq_true]
  constructor
  · intro m hm
    have hR := (h.m m).mp hm
    have hlow : pc m + 1 < bs.length := by
      rcases Nat.lt_or_ge (pc m + 1) bs.length with q | q
      · exact q
      · exfalso
        have h2 := pc_lt2 (by omega) hR.lt
        have h3 : pc m ≠ bs.length := fun z => hR.ne ok.n1 ((pc_whole (by omega) hR.lt).mp z)
        have hne := out_ne (n := bs.length) (m := m) (by have := hR.lt; have := hR.ne ok.n1; omega)
        cases z : out bs.length m with
        | nil => exact hne z
        | cons x r =>
          have hx : x ∈ out bs.length m := by rw [z]; exact List.mem_cons_self
          obtain ⟨hx1, hx2⟩ := out_mem.mp hx
          have e1 := pc_or (l8 m hm) (by omega : x < 8) hx2
          have e2 := (pc_whole (n := bs.length) (by omega) (or_lt2 hR.lt hx1)).mp (by omega)
          exact hn (hR.back hb (.step ((int_nat hb).mp hR.low) hx1 hx2 (by rw [e2]; exact .top)))
    unfold okL
    rw [decide_eq_true hR.low, decide_eq_true hlow, Bool.true_and, Bool.true_and, List.all_map, List.all_eq_true]
    intro x hx
    obtain ⟨hx1, hx2⟩ := out_mem.mp hx
    show (decide (m ||| 2 ^ x ∈ l) || decide ((held bs (m ||| 2 ^ x) : Int) > b)) = true
    by_cases z : (held bs (m ||| 2 ^ x) : Int) ≤ b
    · have e1 := pc_or (l8 m hm) (by omega : x < 8) hx2
      have : Rc bs b (m ||| 2 ^ x) := .step hR hx1 hx2 (fun q => by
        have := (pc_whole (n := bs.length) (by omega) (or_lt2 hR.lt hx1)).mpr q
        omega) z
      rw [decide_eq_true ((h.m _).mpr this), Bool.true_or]
    · rw [decide_eq_true (by omega : (held bs (m ||| 2 ^ x) : Int) > b), Bool.or_true]
  · by_cases z : (held bs 0 : Int) ≤ b
    · rw [decide_eq_true ((h.m 0).mpr (.zero z)), Bool.true_or]
    · rw [decide_eq_true (by omega : (held bs 0 : Int) > b), Bool.or_true]
theorem lots_okl {l : List Nat} (h : l.length ≤ 128) : okl 130 2 (.list (l.map lot)) := .inr ⟨_, rfl, by rw [List.length_map]; omega, fun x hx => by
  obtain ⟨m, _, rfl⟩ := List.mem_map.mp hx
  refine .inr ⟨_, rfl, Nat.le_trans (lot_len m) (by decide), fun z hz => ?_⟩
  obtain ⟨b, _, rfl⟩ := List.mem_map.mp hz
  rfl⟩
def orP (Φ Ψ : Pv) : Pv := ⟨fun A H v => Φ.p A H v ∨ Ψ.p A H v, fun w h => h.imp (Φ.up w) (Ψ.up w), fun w h => h.imp (Φ.dn w) (Ψ.dn w)⟩
section
variable {e : Ef} {c c1 c2 ct ce : Nat} {K : PySem.W.Frag} {mg : Str → Option Value} {ta tb tc te tl tk td ty tv : TE} {tt : TT} {tu : TS} {σ : L2.St} {A A' : As} {H H' : Hp} {Φ Ψ Θ : Pv} {ds es : List PyData} {d : PyData} {n m N M : Nat} {E : XK} {D : Ends} {i j k : Int} {v x : V} {a b : Bool} {C C' : PyData → Prop}
theorem em_v1 {i : Nat} {sp : Sp} {tr : TA} (h : σ[i]? = some (some v)) (k : Em e c (tCall sp [] E (tCons (tC v) tr)) σ A H Θ) : Em e c (tCall sp [] E (tCons (tVar i) tr)) σ A H Θ := fun A' H' n w cu hn Q q => ⟨v, h, k A' H' n w cu hn Q q⟩
/-- two ways that meet -/
theorem z_ifJ {T : Bool → Prop} {J : Hp → Prop} (h : EmT e 0 tt σ A H T) (cu : Cur e A H n) (hn : n ≤ big) (k : ∀ H', J H' → D.nx σ H') (h1 : T true → ∀ H1, Kp e.B H H1 → Cur e A H1 n → (∀ H', J H' → D.nx σ H') → tu D σ H1) (h2 : T false → ∀ H1, Kp e.B H H1 → Cur e A H1 n → J H1) : tIfS tt tu tNext D σ H :=
  h A H n (.refl _ _) cu hn _ fun b H1 k1 j1 p1 => by
    cases b with
    | true => exact h1 p1 H1 k1 (cu.aft k1 j1) k
    | false => exact k H1 (h2 p1 H1 k1 (cu.aft k1 j1))
theorem em_isN (h : Em e c ta σ A H (isv v)) : Em e (c + 0) (tOp (fun x y H Q => y = .non ∧ Q (.bl (decide (x = .non))) H) ta (tC .non)) σ A H (da (.bool (decide (v = .non)))) := em_op (c3 := 0) (Ψ := isv .non) h (em_c rfl) fun A' H' x y _ p q => by
  obtain rfl : x = v := p
  obtain rfl : y = .non := q
  exact rv_v _ (fun Q hq => ⟨rfl, hq⟩) (.bl _)
theorem em_notN (h : Em e c ta σ A H (isv v)) : Em e (c + 0) (tOp (fun x y H Q => y = .non ∧ Q (.bl (!decide (x = .non))) H) ta (tC .non)) σ A H (da (.bool (!decide (v = .non)))) := em_op (c3 := 0) (Ψ := isv .non) h (em_c rfl) fun A' H' x y _ p q => by
  obtain rfl : x = v := p
  obtain rfl : y = .non := q
  exact rv_v _ (fun Q hq => ⟨rfl, hq⟩) (.bl _)
theorem em_isntB (h : Em e c ta σ A H (da (.bool a))) : Em e (c + 0) (tOp (fun x y H Q => ∃ a b, x = .bl a ∧ y = .bl b ∧ Q (.bl (!decide (a = b))) H) ta (tC (.bl b))) σ A H (da (.bool (!decide (a = b)))) := em_op (c3 := 0) h em_bl fun A' H' x y _ p q => by
  obtain rfl := Rp.bl_eq p
  obtain rfl := Rp.bl_eq q
  exact rv_v _ (fun Q hq => ⟨_, _, rfl, rfl, hq⟩) (.bl _)
theorem em_shufB {i : Nat} {p : Addr} (S : Sube (eP p) e) (hv : σ[i]? = some (some (.ref p))) (h : Em e 0 tb σ A H (dp (LB N C))) (hN : N ≤ 50000) : Em e (0 + N) (tCall sp_law_shuffled [] E (tCons (tVar i) (tCons tb tNil))) σ A H (dp (LB N C)) :=
  em_v1 hv (em_bind (c1 := 0) (c2 := N) (F := fun y => tCall sp_law_shuffled [] E (tCons (tC (.ref p)) (tCons (tC y) tNil))) h fun A' H' x _ ⟨_, ⟨ds, hd, g1, g2⟩, q⟩ => by
    subst hd
    exact Em.wk (c1 := ds.length) (Em.imp (v_law_shuffled S (by omega) (ev_c rfl) (ev_c q)) fun A' H' v _ ⟨es, hp, r⟩ => ⟨_, ⟨es, rfl, by rw [hp.length_eq]; exact g1, fun x hx => g2 x (hp.mem_iff.mp hx)⟩, r⟩) g1)
end
section
variable {K : PySem.W.Frag} {mg : Str → Option Value} {P : Program} {w : World} {base : Heap}
theorem v_law_barsX {e : Ef} {ta tb tc td : TE} {σ : L2.St} {A : As} {H : Hp} {E : XK} {old : Nat} {rows : List (List Nat)} {b : Int} {C : PyData → Prop} (ok : okR old rows) (hs : ∀ d, C d → sm2 d ∧ barsM (bitsR rows) b d = true) (h : Em e 0 ta σ A H (da (recD old rows))) (h2 : Em e 0 tb σ A H (holdsP (bitsR rows))) (h3 : Em e 0 tc σ A H (da (.int b))) (h4 : Em e 0 td σ A H (dp C)) : Em e 0 (tCall sp_law_bars [] E (tCons ta (tCons tb (tCons tc (tCons td tNil))))) σ A H (da (.bool true)) :=
  em_pm (c := 0) (eva_cons h (eva_cons h2 (eva_cons h3 (eva_cons h4 eva_nil)))) fun A' H' vs w p => by
    obtain ⟨x, y, z, u, rfl, q, q2, q3, ⟨d, hd, q4⟩⟩ := pvs4 p
    obtain rfl := Rp.int_eq q3
    obtain ⟨g1, g2⟩ := hs d hd
    exact ⟨x, y, u, old, rows, d, b, rfl, q, ok, q2, q4, g1, by rw [g2]⟩
/-! _law_right -/
abbrev sp_law_right (K : PySem.W.Frag) : Sp := Pe fun e A H vs c Θ => c = 1000 ∧ ∃ p kn old rows v x, ∃ b : Int, Sube (eP p) e ∧ Sube (eKT K kn (bitsR rows)) e ∧ Sube (eK kn (bitsR rows)) e ∧ vs = [.ref p, v, x, .int b] ∧ Rp A H v (recD old rows) ∧ okR old rows ∧ (rc K kn (bitsR rows)).p A H x ∧ 0 ≤ b ∧ Θ = da (.bool true)
abbrev s_law_right : Stmt := top 62
abbrev N_law_right : List Str := ["_law_purse_here", "_law_recipe_here", "_law_made_here", "_law_bound", "_law_holds_here", "_law_least", "_law_lots_here", "_law_told", "_law_fresh", "_law_far", "_law_value", "_law_right_here", "_law_shown", "_law_lot", "_law_late"]
theorem sc_law_right : FnScope N_law_right ["_law_purse_here", "_law_recipe_here", "_law_made_here", "_law_bound"] (defScope s_law_right) := ⟨rfl, rfl, rfl, by decide +kernel, rfl, by decide +kernel, by decide +kernel⟩
theorem c_law_right (T : Tx K mg) (TB : TabB base mg (cB K) (tB K)) : C8.Cal P w K mg base 8 "_law_right" (sp_law_right K) [] := by
  refine mkCal T 49 55 rfl rfl sc_law_right (fun _ _ _ _ _ _ us hl => match us, hl with | [_, _, _, _], _ => rfl) (fun vs H Q E h => ?_) (fun f cdv A outer s H vs Q E hr h => ?_)
  · obtain ⟨_, _, _, _, _, _, _, ⟨_, _, _, _, _, _, _, _, _, _, _, rfl, _⟩, _⟩ := h
    rfl
  obtain ⟨e, A, n, c, Θ, cu, hn, ⟨rfl, p, kn, old, rows, v, x, b, SP, ST, SK, rfl, hv, okr, hx, hb, rfl⟩, k⟩ := h
  have c_law_holds := c_law_holds (P := P) (w := w) (base := base) T
  have c_law_least_width := c_law_least_width (P := P) (w := w) (base := base) T
  have c_law_reached := c_law_reached (P := P) (w := w) (base := base) T
  have c_barrier := c_barrier (P := P) (w := w) (base := base) T TB
  have c_law_bars := c_law_bars (P := P) (w := w) (base := base) T
  have c_is_barrier := c_is_barrier (P := P) (w := w) (base := base) T
  have c_law_draw := c_law_draw (P := P) (w := w) (base := base) T
  have c_law_made := c_law_made (P := P) (w := w) (base := base) T
  have c_law_far_blocks := c_law_far_blocks (P := P) (w := w) (base := base) T
  have c_law_shuffled := c_law_shuffled (P := P) (w := w) (base := base) T
  have c_law_bent_lots := c_law_bent_lots (P := P) (w := w) (base := base) T
  have c_law_bent := c_law_bent (P := P) (w := w) (base := base) T
  have c_law_twins_of := c_law_twins_of (P := P) (w := w) (base := base) T 3
  have c_law_same := c_law_same (P := P) (w := w) (base := base) T 3
  have c_law_exact := c_law_exact (P := P) (w := w) (base := base) T 4
  refine ⟨_, (pss_cons (ps_set (i := 4) sc_law_right.nd rfl (Or.inl rfl) (C8.pe_c c_law_holds hr (by decide) rfl (pa_cons (pv 1) pa_nil)))
  (pss_cons (ps_par (i := 5) (j := 6) rfl sc_law_right.nd rfl rfl (by decide) rfl rfl (pa_cons (C8.pe_c c_law_least_width hr (by decide) rfl (pa_cons (pv 1) (pa_cons (pv 4) pa_nil))) (pa_cons (pe_lc (own := [("_law_lot", 13)]) rfl sc_law_right.nd (kpi_list (K := K) (C8.pe_c c_law_reached hr (by decide) rfl (pa_cons (pv 1) (pa_cons (pv 4) (pa_cons (pv 3) pa_nil))))) (blkOk_by (own := [("_law_lot", 13)]) (N := N_law_right) (sc := defScope s_law_right) (by decide +kernel)) (fun _ _ _ _ _ => (pg_name (i := 13) sc_law_right.nd rfl (Or.inl rfl))) (fun _ _ _ _ _ => pts_nil) (fun _ _ _ _ _ => (pe_callTy (k_list (K := K)) rfl T.list_ bt_list (pa_cons (pv 13) pa_nil)))) pa_nil)) (by rfl))
  (pss_cons (ps_set (i := 7) sc_law_right.nd rfl (Or.inr rfl) (C8.pe_c c_barrier hr (by decide) rfl (pa_cons (pv 2) (pa_cons (pv 3) pa_nil))))
  (pss_cons (ps_if (pt_cmpR op_ne (pe_cmpR op_isN (pv 7) pe_non (nomark _)) (pe_cmpR op_le (pv 5) (pv 3) (nomark _)) (nomark _)) (pss_one (ps_ret pe_bl)) pss_nil)
  (pss_cons (ps_if (pt_cmpR op_notN (pv 7) pe_non (nomark _)) (pss_cons (ps_if (PW.pt (pw_or (pt_not (pt_val (C8.pe_c c_law_bars hr (by decide) rfl (pa_cons (pv 1) (pa_cons (pv 4) (pa_cons (pv 3) (pa_cons (pv 7) pa_nil))))))) (pw_or (pt_cmpR op_isnot_bl (C8.pe_c c_is_barrier hr (by decide) rfl (pa_cons (pv 2) (pa_cons (pv 3) (pa_cons (pv 7) pa_nil)))) pe_bl (nomark _)) (pw_or1 (pt_not (pt_val (pe_callB (k_all (K := K) rfl) rfl T.all_ bt_all (pa_cons (pe_lc (own := [("_law_lot", 13)]) rfl sc_law_right.nd (kpi_list (K := K) (pv 6)) (blkOk_by (own := [("_law_lot", 13)]) (N := N_law_right) (sc := defScope s_law_right) (by decide +kernel)) (fun _ _ _ _ _ => (pg_name (i := 13) sc_law_right.nd rfl (Or.inl rfl))) (fun _ _ _ _ _ => pts_nil) (fun _ _ _ _ _ => (pe_cmpR (kop_inD (K := K) (u65 hr)) (pv 13) (pv 7) rfl))) pa_nil)))))))) (pss_one (ps_ret pe_bl)) pss_nil)
  (pss_cons (ps_expr (pe_bm PySem.F.plainAttrs_list PySem.F.slot_list_append PySem.F.type_list_append (mt_append) (pv 7) (pa_cons pe_non pa_nil)))
  (pss_one (ps_if (pt_not (pt_val (C8.pe_c c_law_bars hr (by decide) rfl (pa_cons (pv 1) (pa_cons (pv 4) (pa_cons (pv 3) (pa_cons (C8.pe_c c_barrier hr (by decide) rfl (pa_cons (pv 2) (pa_cons (pv 3) pa_nil))) pa_nil))))))) (pss_one (ps_ret pe_bl)) pss_nil)))) pss_nil)
  (pss_cons (ps_set (i := 8) sc_law_right.nd rfl (Or.inl rfl) (pe_ifExp (pt_cmpR op_eq (C8.pe_c c_law_draw hr (by decide) rfl (pa_cons (pv 0) (pa_cons pe_int pa_nil))) pe_int (nomark _)) (C8.pe_c c_law_made hr (by decide) rfl (pa_cons (pv 1) pa_nil)) (pv 2)))
  (pss_cons (ps_set (i := 9) sc_law_right.nd rfl (Or.inl rfl) (pe_op op_cat (pe_lc (own := [("_law_late", 14)]) rfl sc_law_right.nd (kpi_list (K := K) (C8.pe_c c_law_far_blocks hr (by decide) rfl (pa_cons (pv 1) (pa_cons (pe_lst (pa_cons pe_int pa_nil)) pa_nil)))) (blkOk_by (own := [("_law_late", 14)]) (N := N_law_right) (sc := defScope s_law_right) (by decide +kernel)) (fun _ _ _ _ _ => (pg_name (i := 14) sc_law_right.nd rfl (Or.inl rfl))) (fun _ _ _ _ _ => pts_nil) (fun _ _ _ _ _ => (pe_lst (pa_cons (pv 14) pa_nil)))) (pe_slice (ksl_list (K := K)) (C8.pe_c c_law_shuffled hr (by decide) rfl (pa_cons (pv 0) (pa_cons (C8.pe_c c_law_bent_lots hr (by decide) rfl (pa_cons (pv 6) pa_nil)) pa_nil))) po_none (po_some pe_int))))
  (pss_cons (ps_for PassesOwn.never rfl (kpi_list (K := K) (pe_op op_cat (pe_op op_cat (pe_op op_cat (pe_lst (pa_cons (pv 6) pa_nil)) (C8.pe_c c_law_bent hr (by decide) rfl (pa_cons (pv 0) (pa_cons (pv 1) (pa_cons (pv 4) (pa_cons (pv 3) (pa_cons (pv 6) pa_nil))))))) (pe_slice (ksl_list (K := K)) (C8.pe_c c_law_twins_of hr (by decide) rfl (pa_cons (pv 6) pa_nil)) po_none (po_some pe_int))) (pv 9))) (pg_name (i := 10) sc_law_right.nd rfl (Or.inl rfl)) (pss_cons (ps_par (i := 11) (j := 12) rfl sc_law_right.nd rfl rfl (by decide) rfl rfl (pa_cons (C8.pe_c c_law_bars hr (by decide) rfl (pa_cons (pv 1) (pa_cons (pv 4) (pa_cons (pv 3) (pa_cons (pv 10) pa_nil))))) (pa_cons (C8.pe_c c_law_same hr (by decide) rfl (pa_cons (pv 10) pa_nil)) pa_nil)) (by rfl))
  (pss_one (ps_if (PW.pt (pw_or (pt_not (pt_val (C8.pe_c c_law_exact hr (by decide) rfl (pa_cons (pe_lst (pa_cons (C8.pe_c c_is_barrier hr (by decide) rfl (pa_cons (pv 8) (pa_cons (pv 3) (pa_cons (pv 10) pa_nil)))) (pa_cons (pv 10) pa_nil))) (pa_cons (pe_lst (pa_cons (pv 11) (pa_cons (pv 12) pa_nil))) pa_nil))))) (pw_or1 (PW.pt (pw_and (pt_val (pv 11)) (pw_and1 (pt_cmpR op_le (pv 5) (pv 3) (nomark _)))))))) (pss_one (ps_ret pe_bl)) pss_nil))))
  (pss_one (ps_ret pe_bl)))))))))), ?_⟩
  have hn3 : n + 1000 ≤ big := hn
  have hn0 : n ≤ big := by omega
  have ok := okr.b
  have h7 := okr.n7
  have NM : ∀ {l : List Nat}, Rs (bitsR rows) b l → sm2 (.list (l.map lot)) := fun h => ((lots_okl (h.le ok)).okd (M := 2000) (by decide)).sm2 (by decide)
  refine z_asg (v_law_holds okr (ev_var rfl hv)) cu hn0 fun v4 H1 k1 cu1 p4 => ?_
  refine z_par (Φ := wdP (bitsR rows)) (Ψ := exv (Rs (bitsR rows) b) fun l => da (.list (l.map lot))) (eva_cons (v_law_least_width okr (ev_var rfl (hv.up (cu.wl k1))) (ev_var rfl p4)) (eva_cons (em_bind (c1 := 0) (c2 := 0) (F := fun y => tLc (iList K (tC y)) (gName 13) tYes (tCB (r_list K) (tCons (tVar 13) tNil)) [13]) (v_law_reached okr (ev_var rfl (hv.up (cu.wl k1))) (ev_var rfl p4) (ev_var rfl (.int b))) fun A' H' y _ ⟨l, hl, q⟩ => (em_lcM (c := 0) (it := tlot) (g := lot) (sr_listM (ev_c q)) (by have := hl.le ok; omega) (fun x => rfl) fun m A1 H2 x hm w px => ev_listT (ev_var rfl px)).imp fun A' H' v _ p => ⟨l, hl, p⟩) eva_nil)) cu1 hn0 fun v5 v6 H2 k2 cu2 p5 p6 => ?_
  obtain ⟨wd, hw, p5⟩ := p5
  obtain rfl := Rp.int_eq p5
  obtain ⟨l, hl, p6⟩ := p6
  have w2 : Wl A H A H2 := (cu.wl k1).trans (cu1.wl k2)
  have hv2 := hv.up w2
  have hx2 := (rc K kn (bitsR rows)).up w2 hx
  have p42 := (holdsP (bitsR rows)).up (cu1.wl k2) p4
  refine z_asg (Φ := barP H2 (bitsR rows) b) (v_barrier (fun a z => z) ST ok hb (ev_var rfl hx2) (ev_var rfl (.int b))) cu2 hn0 fun v7 H3 k3 cu3 p7 => ?_
  obtain ⟨o, ho, p7⟩ := p7
  have hwb : (wd : Int) ≤ b ↔ Rb (bitsR rows) b.toNat 0 := by rw [← hw b.toNat]; exact int_nat hb
  have hq : v7 = .non ↔ (wd : Int) ≤ b := by
    rw [hwb]
    cases o with
    | none => exact ⟨fun _ => ho, fun _ => Rp.non_eq p7⟩
    | some l2 =>
      obtain ⟨⟨a, rfl, _⟩, _⟩ := p7
      exact ⟨(fun z => by cases z), fun z => absurd z ho.1⟩
  refine z_if (T := ((!decide (decide (v7 = .non) = decide ((wd : Int) ≤ b))) = ·)) (vt_B (ev_neB (em_isN (c := 0) (ev_var rfl rfl)) (ev_cmp (ev_var rfl (.int (wd : Int))) (ev_var rfl (.int b))))) cu3 hn0 (fun z => ?_) (fun _ H4 k4 cu4 => to_next ?_)
  · rw [decide_eq_decide.mpr hq, decide_eq_true rfl] at z
    cases z
  dsimp only
  refine z_ifJ (T := ((!decide (v7 = .non)) = ·)) (J := fun H' => Kp e.B H2 H' ∧ Cur e A H' n) (vt_B (em_notN (c := 0) (ev_var rfl rfl))) cu4 hn0 (fun H6 ⟨k6, cu6⟩ => ?_) (fun hT H5 k5 cu5 kk => ?_) (fun _ H5 k5 cu5 => ⟨(k3.trans k4).trans k5, cu5⟩)
  · dsimp only
    have w6 : Wl A H2 A H6 := cu2.wl k6
    have e2 : Em e 1 (tOp rEq (tCall sp_law_draw [] C8.E0 (tCons (tVar 0) (tCons (tC (.int 2)) tNil))) (tC (.int 0))) _ A H6 (exv (fun _ : Bool => True) fun t => da (.bool t)) := em_op (c1 := 1) (c2 := 0) (c3 := 0) (v_law_draw (m := 2) SP (by decide) (by decide) (ev_var (σ := [some (.ref p), some v, some x, some (.int b), some v4, some (.int (wd : Int)), some v6, some v7, none, none, none, none, none, none, none]) rfl rfl) (ev_int (k := 2))) (ev_int (k := 0)) fun A' H' y z _ ⟨r, hr, q⟩ q2 => by
      obtain rfl := Rp.int_eq q
      obtain rfl := Rp.int_eq q2
      exact rv_v (.bl (decide (V.int (r : Int) = V.int 0))) (fun Q hq => ⟨rfl, hq⟩) ⟨_, trivial, .bl _⟩
    refine s_asg (c := 1 + 0) (Φ := orP (rcNn K H6 (bitsR rows)) (rc K kn (bitsR rows))) (em_if (c1 := 1) (c2 := 0) (T := fun _ => True) (et_ex e2) (fun _ => (v_law_made (fun a z => z) okr (ev_var rfl (hv2.up w6))).imp fun A' H' v _ q => .inl q) fun _ => (ev_var rfl ((rc K kn (bitsR rows)).up w6 hx2)).imp fun A' H' v _ q => .inr q) cu6 (by omega) fun v8 H7 k7 cu7 p8 => ?_
    obtain ⟨e', A', kn', S1, S2, cu7', w7, q8, kb, jb⟩ : ∃ e' A' kn', Sube (eP p) e' ∧ Sube (eK kn' (bitsR rows)) e' ∧ Cur e' A' H7 (n + 1) ∧ Wl A H6 A' H7 ∧ (rc K kn' (bitsR rows)).p A' H7 v8 ∧ (∀ H8, Kp e'.B H7 H8 → Kp e.B H6 H8) ∧ (∀ m H8, e'.J m H8 → e.J m H8) := by
      rcases p8 with ⟨kn', h0, nA, hk, q⟩ | q
      · have dj : ∀ a, e.B a → ¬ (eK kn' (bitsR rows)).B a := fun a z z2 => nA ((show a = kn' from z2) ▸ cu7.sub a z)
        refine ⟨e.and (eK kn' (bitsR rows)), Ad A kn', kn', SP.trans (.l _ _ dj), .r _ _ dj, ⟨fun a z => z.imp (cu7.sub a) fun z => z, (cu7.ad hk).lv, cu7.j, eK.start hk⟩, cu6.wlN k7 h0, rc_push q hk, fun H8 kk => k7.dropW (d := kn') kk h0, fun m H8 j => j.1⟩
      · exact ⟨e, A, kn, SP, SK, cu7, cu6.wl k7, q, fun H8 kk => k7.trans kk, fun m H8 j => j⟩
    have w27 : Wl A H2 A' H7 := w6.trans w7
    have hv7 := hv2.up w27
    have p47 := (holdsP (bitsR rows)).up w27 p42
    have p67 := p6.up w27
    have hll := hl.le ok
    refine s_asg (c := 0 + (0 + 384 + 0 + 0)) (Φ := dp (LB (9 + 384) g2)) (em_catB (c := 0) (c1 := 0 + 384 + 0 + 0) (em_lcB (c := 0) (C := g1) (C' := g2) (v_law_far_blocks (ev_var rfl hv7) (ev_lstD (ds := [nat 0]) (evd_cons ev_int evd_nil) (show (1 : Nat) ≤ 100000 by decide))) (by decide) (fun x => rfl) fun d A1 H8 x hd w px => em_g2 (em_lstB (c := 0) (k := 1) (C := g1) (eva_cons (em_dp (ev_var rfl px) hd) eva_nil) (by decide)) (by decide)) (em_slB (c := 0 + 384) (c1 := 0) (c2 := 0) (em_shufB (C := g2) (N := 384) S1 rfl (v_law_bent_lots (c := 0) hll (ev_var rfl p67)) (by decide)) evo_none (evo_some ev_int)) (by decide)) cu7' (by omega) fun v9 H8 k8 cu8 p9 => ?_
    have w8 : Wl A' H7 A' H8 := cu7'.wl k8
    have hv8 := hv7.up w8
    have p48 := (holdsP (bitsR rows)).up w8 p47
    have p68 := p67.up w8
    have q88 := (rc K kn' (bitsR rows)).up w8 q8
    have g2l : g2 (.list (l.map lot)) := (lots_okl hll).okd (by decide)
    dsimp only
    refine seq_for ?_
    refine em_catB (e := e') (C := g2) (N := 1 + 28 + 130 ^ 2) (M := 9 + 384) (c := 0 + 300 + (0 + 0 + 0)) (c1 := 0) (em_catB (c := 0 + 300) (c1 := 0 + 0 + 0) (em_catB (c := 0) (c1 := 300) (em_lstB (c := 0) (k := 1) (C := g2) (eva_cons (em_dp (ev_var rfl p68) g2l) eva_nil) (by decide)) (v_law_bent S1 okr hll (ev_var rfl rfl) (ev_var rfl hv8) (ev_var rfl p48) (ev_var rfl (.int b)) (ev_var rfl p68)) (by decide)) (em_slB (c := 0) (c1 := 0) (c2 := 0) (Em.imp (v_law_twins (c := 0) (j := 2) (Nat.le_refl _) (lots_okl hll) (ev_var rfl p68)) fun A' H' v _ ⟨d, hd, q⟩ => ⟨d, hd.mono (Nat.le_refl _) fun x hx => okd.mono (show 300 ≤ 2000 by decide) hx, q⟩) evo_none (evo_some ev_int)) (by decide)) (ev_var rfl p9) (by decide) A' H8 _ (.refl _ _) cu8 (by omega) _ fun v10 H9 k9 j9 ⟨_, ⟨ds, hd, hlen, hds⟩, p10⟩ => ?_
    subst hd
    have cu9 := cu8.aft k9 j9
    have w9 : Wl A' H8 A' H9 := cu8.wl k9
    refine z_forS (fun i σ' H' => ∃ x10 x11 x12, σ' = [some (.ref p), some v, some x, some (.int b), some v4, some (.int (wd : Int)), some v6, some v7, some v8, some v9, x10, x11, x12, none, none]) (vr_list (ev_c p10)) cu9 (by omega) (fun _ _ _ _ h _ => h) (fun H10 k10 => ⟨none, none, none, rfl⟩) (fun H10 i σ' H' y k10 hi ⟨x10, x11, x12, hσ⟩ k11 cu11 py => ?_) (fun σ' H' ⟨x10, x11, x12, hσ⟩ k10 cu10 => ?_)
    · subst hσ
      have hdg : g2 (ds.getD i .none) := hds _ (by
        rw [List.getD_eq_getElem?_getD, List.getElem?_eq_getElem hi]
        exact List.getElem_mem hi)
      generalize ds.getD i .none = d at *
      have hs := okd.sm2 (by decide) hdg
      have w11 : Wl A' H8 A' H' := w9.trans (.of (k10.trans k11) cu11.sub)
      dsimp only
      refine z_par (Φ := da (.bool (barsM (bitsR rows) b d))) (Ψ := da d) (eva_cons (v_law_bars okr hs (ev_var rfl (hv8.up w11)) (ev_var rfl ((holdsP (bitsR rows)).up w11 p48)) (ev_var rfl (.int b)) (ev_var rfl py)) (eva_cons (v_law_same (c := 0) hdg (ev_var rfl py)) eva_nil)) cu11 (by omega) fun u1 u2 H12 k12 cu12 q1 q2 => ?_
      obtain rfl := Rp.bl_eq q1
      have w12 : Wl A' H' A' H12 := cu11.wl k12
      have py2 := py.up w12
      have hd3 : okd 2000 3 (.list [.bool (barsM (bitsR rows) b d), d]) := .inr ⟨_, .inl rfl, (show (2 : Nat) ≤ 2000 by decide), fun z hz => by
        rcases List.mem_cons.mp hz with z | z
        · rw [z]; exact .inl rfl
        · rw [List.mem_singleton.mp z]; exact hdg⟩
      refine z_if (T := (false = ·)) (vt_is (vt_or1 (a := !true) (b := barsM (bitsR rows) b d && decide ((wd : Int) ≤ b)) (vt_not1 (vt_v (v_law_exact (j := 3) hd3 (ev_lstD (evd_cons (v_is_barrier S2 ok hb hs (ev_var rfl ((rc K kn' (bitsR rows)).up (w11.trans w12) q88)) (ev_var rfl (.int b)) (ev_var rfl py2)) (evd_cons (ev_var rfl py2) evd_nil)) (show (2 : Nat) ≤ 100000 by decide)) (ev_lstD (evd_cons (ev_var rfl (.bl _)) (evd_cons (ev_var rfl q2) evd_nil)) (show (2 : Nat) ≤ 100000 by decide))))) fun _ => vt_and1 (vt_v (ev_var rfl (.bl _))) fun _ => vt_B (ev_cmp (ev_var rfl (.int (wd : Int))) (ev_var rfl (.int b)))) ?_) cu12 (by omega) (fun z => by cases z) (fun _ H13 k13 cu13 => to_next ?_)
      · by_cases z : barsM (bitsR rows) b d = true
        · rw [decide_eq_false fun z2 => barsM_no ok hb z (hwb.mp z2), z]
          rfl
        · rw [Bool.eq_false_iff.mpr z]
          rfl
      · dsimp only
        exact Iw.z ⟨_, _, _, rfl⟩ ((k11.trans k12).trans k13) cu13
    · subst hσ
      dsimp only
      refine z_ret ev_bl cu10 (by omega) fun u H11 k11 j11 p11 => ?_
      exact k u H11 (((k1.trans k2).trans k6).trans (kb _ (((k8.trans k9).trans k10).trans k11))) (e.mono (by omega) (jb _ _ j11)) (by obtain rfl := Rp.bl_eq p11; exact .bl _)
  · cases o with
    | none =>
      obtain rfl := Rp.non_eq p7
      cases hT
    | some l2 =>
      obtain ⟨⟨a, rfl, a0⟩, p7⟩ := p7
      obtain ⟨hnb, hl2⟩ := ho
      have w5 : Wl A H3 A H5 := (cu3.wl k4).trans (cu4.wl k5)
      have w25 : Wl A H2 A H5 := (cu2.wl k3).trans w5
      have hB := barsM_rs ok hb hl2 hnb
      have p75 := p7.up w5
      have eAll : Em e 0 (tCB (rAll K) (tCons (tLc (iList K (tVar 6)) (gName 13) tYes (tOp (rInD K) (tVar 13) (tVar 7)) [13]) tNil)) [some (.ref p), some v, some x, some (.int b), some v4, some (.int (wd : Int)), some v6, some (.ref a), none, none, none, none, none, none, none] A H5 (da (.bool true)) := by
        have := ev_all (K := K) (bs := l.map fun _ => true) (ev_is (em_lcM (e := e) (σ := [some (.ref p), some v, some x, some (.int b), some v4, some (.int (wd : Int)), some v6, some (.ref a), none, none, none, none, none, none, none]) (c := 0) (it := lot) (g := fun _ => .bool true) (j := 13) (vs := [13]) (te := tOp (rInD K) (tVar 13) (tVar 7)) (sr_listM (K := K) (ev_var (i := 6) rfl (p6.up w25))) (by have := hl.le ok; omega) (fun x => rfl) fun m A1 H6 x hm w px => ev_is (em_inD (c := 0) (c1 := 0) (ev_var rfl px) (ev_var rfl (p75.up w)) (shaped_l m) (shaped_ll l2)) (by
          have hmR := (hl.m m).mp hm
          rw [any_lot (ok.m hmR.lt) fun k hk => ok.m ((hl2.m k).mp hk).lt, decide_eq_true ((hl2.m m).mpr hmR)])) (by rw [List.map_map]; rfl))
        rwa [List.all_eq_true.mpr (fun z hz => by
          obtain ⟨_, _, rfl⟩ := List.mem_map.mp hz
          rfl)] at this
      refine z_if (T := (false = ·)) (vt_is (vt_or1 (vt_not1 (vt_v (v_law_bars okr (NM hl2) (ev_var rfl (hv2.up w25)) (ev_var rfl ((holdsP (bitsR rows)).up w25 p42)) (ev_var rfl (.int b)) (ev_var rfl p75)))) fun _ => vt_or1 (vt_B (em_isntB (c := 0) (v_is_barrier SK ok hb (NM hl2) (ev_var rfl ((rc K kn (bitsR rows)).up w25 hx2)) (ev_var rfl (.int b)) (ev_var rfl p75)))) fun _ => vt_not1 (vt_v eAll)) (by rw [hB]; rfl)) cu5 hn0 (fun z => by cases z) (fun _ H6 k6 cu6 => to_next ?_)
      dsimp only
      have p76 := p75.up (cu5.wl k6)
      obtain ⟨a', xs, ea, na, ha, r⟩ := Rp.list_eq p76
      cases ea
      have nB : ¬ e.B a := fun z => na (cu6.sub a z)
      have k26 : Kp e.B H2 H6 := ((k3.trans k4).trans k5).trans k6
      refine z_app (Φ := da .none) rfl ((cu6.ad ha).own (hx := by simp) ha (.inr rfl)) hn0 ev_non nB (by rw [r.length, List.length_map]; have := hl2.le ok; omega) fun y H7 k7 cu7 _ _ _ => ?_
      have k27 := k26.dropW k7 a0
      have cu8 := cu7.rid.pop cu.sub
      generalize upd H7 a (.lst (xs ++ [y])) = H8 at *
      have w28 : Wl A H2 A H8 := cu2.wl k27
      refine z_if (T := (false = ·)) (vt_is (vt_not1 (vt_v (v_law_barsX (C := fun d => ∃ l3, d = .list (l3.map lot) ∧ Rs (bitsR rows) b l3) okr (fun d ⟨l3, hd, h3⟩ => by
        subst hd
        exact ⟨NM h3, barsM_rs ok hb h3 hnb⟩) (ev_var rfl (hv2.up w28)) (ev_var rfl ((holdsP (bitsR rows)).up w28 p42)) (ev_var rfl (.int b)) ((v_barrier (H0 := H8) (fun a z => z) ST ok hb (ev_var rfl ((rc K kn (bitsR rows)).up w28 hx2)) (ev_var rfl (.int b))).imp fun A' H' v _ ⟨o, ho, q⟩ => by
          cases o with
          | none => exact absurd ho hnb
          | some l3 => exact ⟨_, ⟨l3, rfl, ho.2⟩, q.2⟩)))) rfl) cu8 hn0 (fun z => by cases z) (fun _ H9 k9 cu9 => to_next ?_)
      dsimp only
      exact kk H9 ⟨k27.trans k9, cu9⟩
end
end SB
namespace SB
open PySem PySem.Spec PyProof.Rows L2 LamX RZ
theorem Sube.comm (a b : Ef) : Sube (a.and b) (b.and a) := ⟨fun x h => Or.symm h, fun j => ⟨j.2, j.1⟩, fun _ _ _ _ q => ⟨q.2, q.1⟩⟩
def fixR : List (List Nat) := [[0, 1], [0, 1], [2, 3]]
def fixV : List PyData := [.list [], .list [.list [.int 2]], .list [.list [.int 2], .list [.int 2]], .list [.list []], .list [.tuple [.int 2]], .list [.list [.int 2, .int 0]], .list [.list [.int 2], .dict []], .list [.list [.int 0]], .tuple [.list [.int 2]]]
theorem fix3b : fixV.map (fun d => barsM (bitsR fixR) 3 d) = [true, true, false, false, false, false, false, false, false] := by decide +kernel
theorem fix4b : fixV.map (fun d => barsM (bitsR fixR) 4 d) = List.replicate 9 false := by decide +kernel
theorem fix3 : fixV.map (fun d => PyData.bool (barsM (bitsR fixR) 3 d)) = [.bool true, .bool true, .bool false, .bool false, .bool false, .bool false, .bool false, .bool false, .bool false] := by
  have := congrArg (List.map PyData.bool) fix3b
  rw [List.map_map] at this
  exact this
theorem fix4 : fixV.map (fun d => PyData.bool (barsM (bitsR fixR) 4 d)) = (List.replicate 9 false).map PyData.bool := by
  have := congrArg (List.map PyData.bool) fix4b
  rw [List.map_map] at this
  exact this
theorem fixRb : Rb (bitsR fixR) (4 : Int).toNat 0 := .step (x := 2) (by decide) (by decide) (by decide) (.step (x := 0) (by decide) (by decide) (by decide) (.step (x := 1) (by decide) (by decide) (by decide) .top))
theorem fixS : ∀ d ∈ fixV, sm2 d := fun d hd => by
  simp only [fixV, List.mem_cons, List.not_mem_nil, or_false] at hd
  rcases hd with rfl | rfl | rfl | rfl | rfl | rfl | rfl | rfl | rfl <;> simp [sm2, sml]
section
variable {e : Ef} {σ : L2.St} {A : As} {H : Hp}
theorem em_dic : Em e 0 tDNewK σ A H (da (.dict [])) := em_newK.imp fun A' H' v _ p => by
  obtain ⟨a, rfl, na, _, ha⟩ := p
  exact .dic na ha
end
/-- .. = first, second -/
theorem asg_two {g : TG} {D : Ends} {σ : L2.St} {H : Hp} {ta tb : TE} (h : ta σ H fun x H1 => tb σ H1 fun y H2 => [x, y].length ≤ sizeLine ∧ ∀ p, H2 p = none → g (.ref p) σ (upd H2 p (.tup [x, y])) D.nx) : tAsg (tTup (tCons ta (tCons tb tNil))) g D σ H := h
section
variable {K : PySem.W.Frag} {mg : Str → Option Value} {P : Program} {w : World} {base : Heap}
/-! _law_fixed_right -/
abbrev sp_law_fixed_right (K : PySem.W.Frag) : Sp := Pe fun e A H vs c Θ => c = 0 ∧ Sube (eT K) e ∧ vs = [] ∧ Θ = da (.bool true)
abbrev s_law_fixed_right : Stmt := top 63
abbrev N_law_fixed_right : List Str := ["_law_made_here", "_law_values", "_law_value"]
theorem sc_law_fixed_right : FnScope N_law_fixed_right [] (defScope s_law_fixed_right) := ⟨rfl, rfl, rfl, by decide +kernel, rfl, by decide +kernel, by decide +kernel⟩
theorem c_law_fixed_right (T : Tx K mg) (TB : TabB base mg (cB K) (tB K)) : C8.Cal P w K mg base 8 "_law_fixed_right" (sp_law_fixed_right K) [] := by
  refine mkCal T 50 56 rfl rfl sc_law_fixed_right (fun _ _ _ _ _ _ us hl => match us, hl with | [], _ => rfl) (fun vs H Q E h => ?_) (fun f cdv A outer s H vs Q E hr h => ?_)
  · obtain ⟨_, _, _, _, _, _, _, ⟨_, _, rfl, _⟩, _⟩ := h
    rfl
  obtain ⟨e, A, n, c, Θ, cu, hn, ⟨rfl, ST, rfl, rfl⟩, k⟩ := h
  have c_barrier := c_barrier (P := P) (w := w) (base := base) T TB
  have c_is_barrier := c_is_barrier (P := P) (w := w) (base := base) T
  have c_Recipe := c_Recipe (P := P) (w := w) (base := base) T
  have c_law_exact := c_law_exact (P := P) (w := w) (base := base) T 2
  refine ⟨_, (pss_cons (ps_asg (pe_tup (pa_cons (C8.pe_mk c_Recipe hr (by decide) rfl (pa_cons pe_int (pa_cons (pe_lst (pa_cons (pe_lst (pa_cons pe_int (pa_cons pe_int pa_nil))) (pa_cons (pe_lst (pa_cons pe_int (pa_cons pe_int pa_nil))) (pa_cons (pe_lst (pa_cons pe_int (pa_cons pe_int pa_nil))) pa_nil)))) pa_nil))) (pa_cons (pe_lst (pa_cons (pe_lst pa_nil) (pa_cons (pe_lst (pa_cons (pe_lst (pa_cons pe_int pa_nil)) pa_nil)) (pa_cons (pe_lst (pa_cons (pe_lst (pa_cons pe_int pa_nil)) (pa_cons (pe_lst (pa_cons pe_int pa_nil)) pa_nil))) (pa_cons (pe_lst (pa_cons (pe_lst pa_nil) pa_nil)) (pa_cons (pe_lst (pa_cons (pe_tup (pa_cons pe_int pa_nil)) pa_nil)) (pa_cons (pe_lst (pa_cons (pe_lst (pa_cons pe_int (pa_cons pe_int pa_nil))) pa_nil)) (pa_cons (pe_lst (pa_cons (pe_lst (pa_cons pe_int pa_nil)) (pa_cons pe_dnewK pa_nil))) (pa_cons (pe_lst (pa_cons (pe_lst (pa_cons pe_int pa_nil)) pa_nil)) (pa_cons (pe_tup (pa_cons (pe_lst (pa_cons pe_int pa_nil)) pa_nil)) pa_nil)))))))))) pa_nil))) (kpg_tup (K := K) rfl (pgs_cons (pg_name (i := 0) sc_law_fixed_right.nd rfl (Or.inr rfl)) (pgs_cons (pg_name (i := 1) sc_law_fixed_right.nd rfl (Or.inl rfl)) pgs_nil))))
  (pss_cons (ps_if (pt_not (pt_val (C8.pe_c c_law_exact hr (by decide) rfl (pa_cons (pe_lc (own := [("_law_value", 2)]) rfl sc_law_fixed_right.nd (kpi_list (K := K) (pv 1)) (blkOk_by (own := [("_law_value", 2)]) (N := N_law_fixed_right) (sc := defScope s_law_fixed_right) (by decide +kernel)) (fun _ _ _ _ _ => (pg_name (i := 2) sc_law_fixed_right.nd rfl (Or.inl rfl))) (fun _ _ _ _ _ => pts_nil) (fun _ _ _ _ _ => (C8.pe_c c_is_barrier hr (by decide) rfl (pa_cons (pv 0) (pa_cons pe_int (pa_cons (pv 2) pa_nil)))))) (pa_cons (pe_op op_cat (pe_lst (pa_cons pe_bl (pa_cons pe_bl pa_nil))) (pe_op op_rep (pe_lst (pa_cons pe_bl pa_nil)) pe_int)) pa_nil))))) (pss_one (ps_ret pe_bl)) pss_nil)
  (pss_one (ps_ret (pe_and (pe_cmpR op_isN (C8.pe_c c_barrier hr (by decide) rfl (pa_cons (pv 0) (pa_cons pe_int pa_nil))) pe_non (nomark _)) (pe_one (pe_not (pe_callB (k_any (K := K) rfl) rfl T.any_ bt_any (pa_cons (pe_lc (own := [("_law_value", 2)]) rfl sc_law_fixed_right.nd (kpi_list (K := K) (pv 1)) (blkOk_by (own := [("_law_value", 2)]) (N := N_law_fixed_right) (sc := defScope s_law_fixed_right) (by decide +kernel)) (fun _ _ _ _ _ => (pg_name (i := 2) sc_law_fixed_right.nd rfl (Or.inl rfl))) (fun _ _ _ _ _ => pts_nil) (fun _ _ _ _ _ => (C8.pe_c c_is_barrier hr (by decide) rfl (pa_cons (pv 0) (pa_cons pe_int (pa_cons (pv 2) pa_nil)))))) pa_nil))))))))), ?_⟩
  have hn0 : n ≤ big := hn
  have okr : okR 4 fixR := ⟨by decide, by decide, by decide, by decide, by decide⟩
  have ok := okr.b
  have two : ∀ {a b : Int}, Em e 0 (tLst (tCons (tC (.int a)) (tCons (tC (.int b)) tNil))) (L2.start N_law_fixed_right []) A H (da (.list [.int a, .int b])) := ev_lstD (evd_cons ev_int (evd_cons ev_int evd_nil)) (show (2 : Nat) ≤ 100000 by decide)
  refine asg_two ?_
  refine em_make (K := K) (c := 0) okr (eva_cons (Φ := da (nat 4)) (ev_is (d := .int 4) ev_int rfl) (eva_cons (Φ := da (rowsD fixR)) (ev_is (ev_lstD (evd_cons two (evd_cons two (evd_cons two evd_nil))) (show (3 : Nat) ≤ 100000 by decide)) rfl) eva_nil)) A H n (.refl _ _) cu hn0 _ fun v0 H1 k1 j1 ⟨kn, h0, nA, hk, q⟩ => ?_
  have cu1 : Cur e A H1 n := cu.aft k1 j1
  have dj : ∀ a, e.B a → ¬ (eK kn (bitsR fixR)).B a := fun a z z2 => nA ((show a = kn from z2) ▸ cu1.sub a z)
  have S1 : Sube (eK kn (bitsR fixR)) (e.and (eK kn (bitsR fixR))) := .r _ _ dj
  have S2 : Sube (eKT K kn (bitsR fixR)) (e.and (eK kn (bitsR fixR))) := (Sube.comm _ _).trans (ST.andR dj)
  have cu2 : Cur (e.and (eK kn (bitsR fixR))) (Ad A kn) H1 n := ⟨fun a z => z.imp (cu1.sub a) fun z => z, (cu1.ad hk).lv, cu1.j, eK.start hk⟩
  have q1 := rc_push q hk
  have kB : ∀ H8, Kp (e.and (eK kn (bitsR fixR))).B H1 H8 → Kp e.B H H8 := fun H8 kk => Kp.dropW (d := kn) k1 kk h0
  have jB : ∀ m H8, (e.and (eK kn (bitsR fixR))).J m H8 → e.J m H8 := fun m H8 j => j.1
  generalize (e.and (eK kn (bitsR fixR))) = e' at *
  have nn : ∀ {k : Nat}, k ≤ 9 → k ≤ 100000 := fun h => by omega
  have l1 : ∀ {a : Int}, Em e' 0 (tLst (tCons (tC (.int a)) tNil)) (L2.start N_law_fixed_right []) (Ad A kn) H1 (da (.list [.int a])) := ev_lstD (evd_cons ev_int evd_nil) (nn (show 1 ≤ 9 by decide))
  have l0 : Em e' 0 (tLst tNil) (L2.start N_law_fixed_right []) (Ad A kn) H1 (da (.list [])) := ev_lstD evd_nil (nn (show 0 ≤ 9 by decide))
  refine ev_lstD (ds := fixV) (evd_cons l0 (evd_cons (ev_lstD (evd_cons l1 evd_nil) (nn (show 1 ≤ 9 by decide))) (evd_cons (ev_lstD (evd_cons l1 (evd_cons l1 evd_nil)) (nn (show 2 ≤ 9 by decide))) (evd_cons (ev_lstD (evd_cons l0 evd_nil) (nn (show 1 ≤ 9 by decide))) (evd_cons (ev_lstD (evd_cons (ev_tupD (evd_cons ev_int evd_nil) (nn (show 1 ≤ 9 by decide))) evd_nil) (nn (show 1 ≤ 9 by decide))) (evd_cons (ev_lstD (evd_cons (ev_lstD (evd_cons ev_int (evd_cons ev_int evd_nil)) (nn (show 2 ≤ 9 by decide))) evd_nil) (nn (show 1 ≤ 9 by decide))) (evd_cons (ev_lstD (evd_cons l1 (evd_cons em_dic evd_nil)) (nn (show 2 ≤ 9 by decide))) (evd_cons (ev_lstD (evd_cons l1 evd_nil) (nn (show 1 ≤ 9 by decide))) (evd_cons (ev_tupD (evd_cons l1 evd_nil) (nn (show 1 ≤ 9 by decide))) evd_nil))))))))) (nn (show 9 ≤ 9 by decide)) (Ad A kn) H1 n (.refl _ _) cu2 hn0 _ fun v1 H2 k2 j2 p2 => ?_
  refine ⟨(show (2 : Nat) ≤ sizeLine by decide), fun p hp => ?_⟩
  refine ⟨p, [v0, v1], rfl, SqT.of upd_same, rfl, v0, [v1], rfl, v1, [], rfl, rfl, ?_⟩
  have cu3 : Cur e' (Ad A kn) (upd H2 p (.tup [v0, v1])) n := (cu2.aft k2 j2).new hp
  have k3 : Kp e'.B H1 (upd H2 p (.tup [v0, v1])) := k2.trans (.new hp)
  have w3 : Wl (Ad A kn) H1 (Ad A kn) (upd H2 p (.tup [v0, v1])) := cu2.wl k3
  have p3 := p2.up (.of0 (.new hp) : Wl (Ad A kn) H2 (Ad A kn) (upd H2 p (.tup [v0, v1])))
  have q3 := (rc K kn (bitsR fixR)).up w3 q1
  generalize upd H2 p (.tup [v0, v1]) = H3 at *
  have hd9 : okd 2000 1 (.list [.bool true, .bool true, .bool false, .bool false, .bool false, .bool false, .bool false, .bool false, .bool false]) := .inr ⟨_, .inl rfl, (show (9 : Nat) ≤ 2000 by decide), fun z hz => by
    rw [← fix3] at hz
    obtain ⟨_, _, rfl⟩ := List.mem_map.mp hz
    rfl⟩
  dsimp only
  refine z_if (T := (false = ·)) (vt_is (vt_not1 (vt_v (v_law_exact (j := 1) hd9 (ev_is (ev_lcL (f := fun d => .bool (barsM (bitsR fixR) 3 d)) (ev_var rfl p3) (show fixV.length ≤ 100000 by decide) (fun x => rfl) fun d A1 H4 x hd w px => v_is_barrier S1 ok (by decide) (fixS d hd) (ev_var rfl ((rc K kn (bitsR fixR)).up w q3)) ev_int (ev_var rfl px)) (congrArg PyData.list fix3)) (ev_is (ev_cat (ev_lstD (evd_cons ev_bl (evd_cons ev_bl evd_nil)) (nn (show 2 ≤ 9 by decide))) (ev_rep (ev_lstD (evd_cons ev_bl evd_nil) (nn (show 1 ≤ 9 by decide))) ev_int (by decide) (by decide)) (by decide)) rfl)))) rfl) cu3 hn0 (fun z => by cases z) (fun _ H4 k4 cu4 => to_next ?_)
  dsimp only
  have w4 : Wl (Ad A kn) H3 (Ad A kn) H4 := cu3.wl k4
  have p4 := p3.up w4
  have q4 := (rc K kn (bitsR fixR)).up w4 q3
  refine z_ret (Φ := da (.bool true)) (ev_is (ev_andV (a := true) (b := true) (ev_is (em_isN (c := 0) (v := .non) ((v_barrier (H0 := H4) (fun a z => z) S2 ok (by decide) (ev_var rfl q4) ev_int).imp fun A' H' v _ ⟨o, ho, q⟩ => by
    cases o with
    | none => exact Rp.non_eq q
    | some l => exact absurd fixRb ho.1)) (by rw [decide_eq_true rfl])) fun _ => ev_notV (a := false) (ev_is (ev_any (bs := List.replicate 9 false) (ev_is (ev_lcL (f := fun d => .bool (barsM (bitsR fixR) 4 d)) (ev_var rfl p4) (show fixV.length ≤ 100000 by decide) (fun x => rfl) fun d A1 H4 x hd w px => v_is_barrier S1 ok (by decide) (fixS d hd) (ev_var rfl ((rc K kn (bitsR fixR)).up w q4)) ev_int (ev_var rfl px)) (congrArg PyData.list fix4))) rfl)) rfl) cu4 hn0 fun u H5 k5 j5 p5 => ?_
  exact k u H5 (kB _ ((k3.trans k4).trans k5)) (jB _ _ j5) (by obtain rfl := Rp.bl_eq p5; exact .bl _)
end
end SB
namespace SB
open PySem PySem.Spec PyProof.Rows L2 LamX RZ
/-- no width is above 16 -/
theorem Rb.all {bs : List Nat} (ok : okB bs) : ∀ (k m : Nat), m < 2 ^ bs.length → bs.length ≤ pc m + k → Rb bs 16 m
  | 0, m, hm, hk => by
    have h7 := ok.n7
    rw [(pc_whole (n := bs.length) (by omega) hm).mp (by have := pc_lt2 (n := bs.length) (by omega) hm; omega)]
    exact .top
  | k + 1, m, hm, hk => by
    have h7 := ok.n7
    by_cases z : m = 2 ^ bs.length - 1
    · rw [z]
      exact .top
    · cases h : out bs.length m with
      | nil => exact absurd h (out_ne (by omega))
      | cons x r =>
        have hx : x ∈ out bs.length m := by rw [h]; exact List.mem_cons_self
        obtain ⟨hx1, hx2⟩ := out_mem.mp hx
        have e1 := pc_or (ok.m hm) (by omega : x < 8) hx2
        exact .step (held_le bs m) hx1 hx2 (Rb.all ok k _ (or_lt2 hm hx1) (by omega))
theorem IsW.le16 {bs : List Nat} (ok : okB bs) {m w : Nat} (hm : m < 2 ^ bs.length) (h : IsW bs m w) : w ≤ 16 := (h 16).mpr (Rb.all ok bs.length m hm (by omega))
/-! ### a comprehension of which the items know of each other -/
def lsR (N : Nat) (R : Nat → List V → Pv) : Pv := ⟨fun A H v => ∃ a xs, v = .ref a ∧ ¬ A a ∧ H a = some (.lst xs) ∧ xs.length = N ∧ (R N xs).p A H .non,
  fun w ⟨a, xs, h1, h2, h3, h4, h5⟩ => ⟨a, xs, h1, (w.f a _ h2 h3).1, (w.f a _ h2 h3).2, h4, (R N xs).up w h5⟩, fun w ⟨a, xs, h1, h2, h3, h4, h5⟩ => ⟨a, xs, h1, fun q => h2 (w a q), h3, h4, (R N xs).dn w h5⟩⟩
def nxR (R : Nat → List V → Pv) (i : Nat) (xs : List V) : Pv := ⟨fun A H v => (R (i + 1) (xs ++ [v])).p A H .non, fun w h => (R _ _).up w h, fun w h => (R _ _).dn w h⟩
section
variable {e : Ef} {c c1 c2 ct ce : Nat} {K : PySem.W.Frag} {ta tb tc te : TE} {σ : L2.St} {A A' : As} {H H' : Hp} {Φ Ψ Θ : Pv} {n m N M : Nat}
theorem em_lcR {wi : TI} {j N : Nat} {vs : List Nat} {It : Nat → Pv} {R : Nat → List V → Pv} (hs : Sr e c wi σ A H N It) (hN : N ≤ 100000) (hw : ∀ x, wipe ((wipe σ vs).set j (some x)) vs = wipe σ vs)
    (h0 : ∀ A1 H1, Wl A H A1 H1 → (R 0 []).p A1 H1 .non)
    (he : ∀ i A1 H1 x xs, i < N → xs.length = i → Wl A H A1 H1 → (It i).p A1 H1 x → (R i xs).p A1 H1 .non → Em e ce te ((wipe σ vs).set j (some x)) A1 H1 (nxR R i xs)) :
    Em e (c + N * ce) (tLc wi (gName j) tYes te vs) σ A H (lsR N R) := fun A' H' n w cu hn Q q =>
  hs A' H' n w cu (by omega) _ fun J H2 G Y k2 j2 wk hG hY D hD => by
    have cu2 : Cur e A' H2 (n + c) := cu.aft k2 j2
    have nB : ¬ e.B D := fun z => cu2.lv.fresh hD (cu2.sub D z)
    have c3 : Cur e (Ad A' D) (upd H2 D (.lst [])) (n + c) := cu2.push hD
    have w3 : Wl A' H2 (Ad A' D) (upd H2 D (.lst [])) := .push hD
    have subD : ∀ a, Ad e.B D a → Ad A' D a := fun a z => z.imp (cu.sub a) id
    have mono1 : ∀ i, i < N → (i + 1) * ce ≤ N * ce := fun i hi => Nat.mul_le_mul_right _ hi
    refine lc_it wk (fun i Hc => ∃ acc : List V, acc.length = i ∧ Hc D = some (.lst acc) ∧ (R i acc).p (Ad A' D) Hc .non ∧ Kp (Ad e.B D) (upd H2 D (.lst [])) Hc ∧ e.J (n + c + i * ce) Hc)
      ⟨[], rfl, upd_same, h0 _ _ ((w.trans (cu.wl k2)).trans w3), .refl _, by rw [Nat.zero_mul]; exact c3.j⟩ (fun i Hc _ ⟨acc, _, _, _, kk, _⟩ => hG (Ad A' D) Hc (w3.trans (.of kk subD))) ?_ ?_
    · rintro i x Hc H4 hi ⟨acc, hal, hacc, hp, kk, jj⟩ y
      have wc : Wl A' H2 (Ad A' D) Hc := w3.trans (.of kk subD)
      have lc : Lv (Ad A' D) Hc := c3.lv.kp kk
      obtain ⟨k4, p4⟩ := hY i (Ad A' D) Hc x H4 hi wc lc y
      have cuc : Cur e (Ad A' D) Hc (n + c + i * ce) := ⟨c3.sub, lc, jj⟩
      have cu4 := cuc.keep k4
      have w4 : Wl A H (Ad A' D) H4 := (w.trans (cu.wl k2)).trans (wc.trans (.of0 k4))
      have m1 := mono1 i hi
      rw [Nat.succ_mul] at m1
      refine ⟨hw x, et_yes (e := e) (Ad A' D) H4 _ (.refl _ _) cu4 (by omega) _ fun b H5 k5 j5 t5 => ?_⟩
      subst t5
      have hacc5 : H5 D = some (.lst acc) := k5.1 D _ nB (k4.1 D _ id hacc)
      show te _ H5 _
      refine he i (Ad A' D) H4 x acc hi hal w4 p4 ((R i acc).up (.of0 k4) hp) (Ad A' D) H5 _ (cu4.wl k5) (cu4.aft k5 j5) (by omega) _ fun y H6 k6 j6 p6 => ?_
      have hacc6 : H6 D = some (.lst acc) := k6.1 D _ nB hacc5
      have kf : Kp (Ad e.B D) Hc (upd H6 D (.lst (acc ++ [y]))) := ((k4.any.trans ((k5.trans k6).mono fun a z => .inl z))).trans (.mut (.inr rfl) (by rw [hacc6]; intro _ z; cases z))
      refine ⟨acc, hacc6, sl5 (by omega), acc ++ [y], by rw [List.length_append, hal]; rfl, upd_same, ?_, kk.trans kf, ?_⟩
      · exact (R (i + 1) (acc ++ [y])).up (.of (B := Ad e.B D) (.mut (.inr rfl) (by rw [hacc6]; intro _ z; cases z)) subD) p6
      · refine Ef.mut nB (fun φ z => by rw [hacc6] at z; cases z) ?_
        have e1 : n + c + (i + 1) * ce = n + c + i * ce + 0 + ce := by rw [Nat.succ_mul]; omega
        rw [e1]
        exact j6
    · rintro Hc ⟨acc, hal, hacc, hp, kk, jj⟩
      have kQ : Kp e.B H2 Hc := ⟨fun a o na ha => kk.1 a o (fun z => z.elim na fun z2 => by rw [z2, hD] at ha; cases ha) (by rw [upd_ne (ne_of_none ha hD)]; exact ha), fun a ha => kk.2 a (by
        by_cases z : a = D
        · rw [z, upd_same]; simp
        · rw [upd_ne z]; exact ha), fun a xs ha => kk.3 a xs (by rw [upd_ne (ne_of_none ha hD)]; exact ha)⟩
      exact q (.ref D) Hc (k2.trans kQ) (by rw [← Nat.add_assoc]; exact jj) ⟨D, acc, rfl, cu2.lv.fresh hD, hacc, hal, (R N acc).dn (fun a z => .inl z) hp⟩
end
/-! ### several recipes, the purse, the table -/
structure eLJ (K : PySem.W.Frag) (p : Addr) (kns : List Addr) (bss : List (List Nat)) (n : Nat) (H : Hp) : Prop where
  nd : kns.Nodup
  jP : (eP p).J n H
  jT : (eT K).J n H
  jK : ∀ (j : Nat) (kn : Addr), kns[j]? = some kn → ∃ bs, bss[j]? = some bs ∧ (eK kn bs).J n H
def eL (K : PySem.W.Frag) (p : Addr) (kns : List Addr) (bss : List (List Nat)) : Ef where
  B := fun a => a = p ∨ a = tB K ∨ a ∈ kns
  J := eLJ K p kns bss
  mono := fun h j => ⟨j.nd, (eP p).mono h j.jP, (eT K).mono h j.jT, fun i kn hk => (j.jK i kn hk).imp fun bs q => ⟨q.1, (eK kn bs).mono h q.2⟩⟩
  st := fun h1 h2 j => ⟨j.nd, (eP p).st (fun a z => h1 a (.inl z)) h2 j.jP, (eT K).st (fun a z => h1 a (.inr (.inl z))) h2 j.jT, fun i kn hk => (j.jK i kn hk).imp fun bs q => ⟨q.1, (eK kn bs).st (fun a z => h1 a (.inr (.inr ((show a = kn from z) ▸ List.mem_of_getElem? hk)))) h2 q.2⟩⟩
  nx := fun j q z => by
    rcases q with q | q | q
    · exact (eP _).nx j.jP q z
    · exact (eT _).nx j.jT q z
    · obtain ⟨i, hi⟩ := List.mem_iff_getElem?.mp q
      obtain ⟨bs, _, q2⟩ := j.jK i _ hi
      exact (eK _ bs).nx q2 rfl z
section
variable {K : PySem.W.Frag} {p kn : Addr} {kns : List Addr} {bss : List (List Nat)} {bs : List Nat} {n : Nat} {H : Hp} {jx : Nat}
theorem eLJ.pT (j : eLJ K p kns bss n H) : p ≠ tB K := fun z => by
  obtain ⟨_, _, _, _, h1, _⟩ := j.jP
  obtain ⟨_, h2, _⟩ := j.jT
  rw [z, h2] at h1
  cases h1
theorem eLJ.pK (j : eLJ K p kns bss n H) (h : kn ∈ kns) : p ≠ kn := fun z => by
  obtain ⟨_, _, _, _, h1, _⟩ := j.jP
  obtain ⟨i, hi⟩ := List.mem_iff_getElem?.mp h
  obtain ⟨bs, _, ⟨_, _, _, h2⟩⟩ := j.jK i _ hi
  rw [z, h2] at h1
  cases h1
theorem eLJ.TK (j : eLJ K p kns bss n H) (h : kn ∈ kns) : tB K ≠ kn := fun z => by
  obtain ⟨_, h1, _⟩ := j.jT
  obtain ⟨i, hi⟩ := List.mem_iff_getElem?.mp h
  obtain ⟨bs, _, ⟨_, _, _, h2⟩⟩ := j.jK i _ hi
  rw [z, h2] at h1
  cases h1
theorem eLJ.ne {i1 i2 : Nat} {k1 k2 : Addr} (j : eLJ K p kns bss n H) (h1 : kns[i1]? = some k1) (h2 : kns[i2]? = some k2) (hn : i1 ≠ i2) : k1 ≠ k2 := fun z => hn (by
  obtain ⟨hl, _⟩ := List.getElem?_eq_some_iff.mp h1
  exact (List.getElem?_inj hl j.nd).mp (by rw [h1, h2, z]))
theorem Sube.lP : Sube (eP p) (eL K p kns bss) := ⟨fun a h => .inl h, fun j => j.jP, fun {n m H H2} j eq ex hm q => ⟨j.nd, q, (eT K).mono hm ((eT K).st (fun a z => eq a (.inr (.inl z)) fun z2 => j.pT (by rw [← show a = p from z2, ← show a = tB K from z])) ex j.jT),
  fun i kn hk => (j.jK i kn hk).imp fun bs q => ⟨q.1, (eK kn bs).mono hm ((eK kn bs).st (fun a z => by
    have hm := List.mem_of_getElem? hk
    have z : a = kn := z
    subst z
    exact eq a (.inr (.inr hm)) fun z2 => j.pK hm (show a = p from z2).symm) ex q.2)⟩⟩⟩
theorem Sube.lKT (h1 : kns[jx]? = some kn) (h2 : bss[jx]? = some bs) : Sube (eKT K kn bs) (eL K p kns bss) := by
  have hmem := List.mem_of_getElem? h1
  refine ⟨fun a h => h.elim (fun z => .inr (.inr ((show a = kn from z) ▸ hmem))) fun z => .inr (.inl z), fun j => ⟨?_, j.jT⟩, fun {n m H H2} j eq ex hm q => ⟨j.nd, (eP p).mono hm ((eP p).st (fun a z => ?_) ex j.jP), q.2, fun i k hk => ?_⟩⟩
  · obtain ⟨bs', e1, q⟩ := j.jK jx kn h1
    rw [h2] at e1
    rw [Option.some.inj e1]
    exact q
  · have z : a = p := z
    subst z
    exact eq a (.inl rfl) fun z2 => z2.elim (fun z3 => j.pK hmem z3) fun z3 => j.pT z3
  · by_cases z : i = jx
    · subst z
      rw [h1] at hk
      cases hk
      exact ⟨bs, h2, q.1⟩
    · refine (j.jK i k hk).imp fun bs' q => ⟨q.1, (eK k bs').mono hm ((eK k bs').st (fun a z2 => ?_) ex q.2)⟩
      have z2 : a = k := z2
      subst z2
      have hm2 := List.mem_of_getElem? hk
      exact eq a (.inr (.inr hm2)) fun z3 => z3.elim (fun z4 => j.ne hk h1 z z4) fun z4 => j.TK hm2 (show a = tB K from z4).symm
theorem Sube.lK (h1 : kns[jx]? = some kn) (h2 : bss[jx]? = some bs) : Sube (eK kn bs) (eL K p kns bss) := by
  have S : Sube (eKT K kn bs) (eL K p kns bss) := .lKT h1 h2
  refine ⟨fun a h => S.b a (.inl h), fun j => (S.dn j).1, fun {n m H H2} j eq ex hm q => S.up j (fun a h z => eq a h fun z2 => z (.inl z2)) ex hm ⟨q, (eT K).mono hm ((eT K).st (fun a z => ?_) ex j.jT)⟩⟩
  have z : a = tB K := z
  subst z
  exact eq _ (.inr (.inl rfl)) fun z3 => j.TK (List.mem_of_getElem? h1) z3
end
/-- a list of recipes that stand -/
def mdP (K : PySem.W.Frag) (kns : List Addr) (bss : List (List Nat)) : Pv := ⟨fun A H v => ∃ a xs, v = .ref a ∧ ¬ A a ∧ H a = some (.lst xs) ∧ xs.length = kns.length ∧ ∀ (j : Nat) (x : V) (kn : Addr) (bs : List Nat), xs[j]? = some x → kns[j]? = some kn → bss[j]? = some bs → (rc K kn bs).p A H x,
  fun w ⟨a, xs, h1, h2, h3, h4, h5⟩ => ⟨a, xs, h1, (w.f a _ h2 h3).1, (w.f a _ h2 h3).2, h4, fun j x kn bs q1 q2 q3 => (rc K kn bs).up w (h5 j x kn bs q1 q2 q3)⟩, fun w ⟨a, xs, h1, h2, h3, h4, h5⟩ => ⟨a, xs, h1, fun q => h2 (w a q), h3, h4, fun j x kn bs q1 q2 q3 => (rc K kn bs).dn w (h5 j x kn bs q1 q2 q3)⟩⟩
/-- recipes just made -/
def mkR (K : PySem.W.Frag) (H0 : Hp) (bss : List (List Nat)) (i : Nat) (xs : List V) : Pv := ⟨fun A H _ => ∃ kns : List Addr, kns.length = i ∧ kns.Nodup ∧ (∀ kn ∈ kns, H0 kn = none ∧ ¬ A kn ∧ H kn = some (.dK [])) ∧ ∀ (j : Nat) (x : V) (kn : Addr) (bs : List Nat), xs[j]? = some x → kns[j]? = some kn → bss[j]? = some bs → (rc K kn bs).p A H x,
  fun w ⟨kns, h1, h2, h3, h4⟩ => ⟨kns, h1, h2, fun kn hk => ⟨(h3 kn hk).1, (w.f kn _ (h3 kn hk).2.1 (h3 kn hk).2.2).1, (w.f kn _ (h3 kn hk).2.1 (h3 kn hk).2.2).2⟩, fun j x kn bs q1 q2 q3 => (rc K kn bs).up w (h4 j x kn bs q1 q2 q3)⟩,
  fun w ⟨kns, h1, h2, h3, h4⟩ => ⟨kns, h1, h2, fun kn hk => ⟨(h3 kn hk).1, fun q => (h3 kn hk).2.1 (w kn q), (h3 kn hk).2.2⟩, fun j x kn bs q1 q2 q3 => (rc K kn bs).dn w (h4 j x kn bs q1 q2 q3)⟩⟩
section
variable {e : Ef} {c c1 : Nat} {K : PySem.W.Frag} {ta tb te : TE} {σ : L2.St} {A A' : As} {H H' H0 : Hp} {n m j : Nat} {kn p : Addr} {kns : List Addr} {bss : List (List Nat)} {bs : List Nat} {xs : List V} {v : V}
theorem em_ixM (h1 : Em e c ta σ A H (mdP K kns bss)) (h2 : Em e c1 tb σ A H (da (nat j))) (hk : kns[j]? = some kn) (hb : bss[j]? = some bs) : Em e (c + c1) (tOp (rIxL K) ta tb) σ A H (rc K kn bs) := em_op (c3 := 0) h1 h2 fun A' H' x y _ ⟨a, xs, hx, na, ha, hl, r⟩ q => by
  subst hx
  obtain rfl := Rp.int_eq q
  obtain ⟨hj, _⟩ := List.getElem?_eq_some_iff.mp hk
  have hz : xs[j]? = some (xs[j]'(by omega)) := List.getElem?_eq_getElem (by omega)
  exact rv_v _ (fun Q hq => ⟨a, xs, j, _, rfl, rfl, SqL.of ha, atI_nat hz, hq⟩) (r j _ kn bs hz hk hb)
theorem mkR.start (H0 : Hp) : (mkR K H0 bss 0 []).p A H v := ⟨[], rfl, .nil, no_mem, fun j x kn bs q1 _ _ => by cases q1⟩
theorem mkR.next {i : Nat} {x : V} (hl : xs.length = i) (hb : bss[i]? = some bs) (h0 : ∀ a, H a = none → H0 a = none) (w : Wl A H A' H') (h : (mkR K H0 bss i xs).p A H .non) (q : (rcNn K H bs).p A' H' x) : (nxR (mkR K H0 bss) i xs).p A' H' x := by
  obtain ⟨kns, h1, h2, h3, h4⟩ := h
  obtain ⟨kn, k0, k1, k2, k3⟩ := q
  refine ⟨kns ++ [kn], by rw [List.length_append, h1]; rfl, List.nodup_append.mpr ⟨h2, List.nodup_cons.mpr ⟨List.not_mem_nil, .nil⟩, fun a ha b hb z => ?_⟩, fun k hk => ?_, fun j y k bs' q1 q2 q3 => ?_⟩
  · rw [List.mem_singleton.mp hb] at z
    rw [z] at ha
    rw [(h3 kn ha).2.2] at k0
    cases k0
  · rcases List.mem_append.mp hk with z | z
    · obtain ⟨e1, e2, e3⟩ := h3 k z
      exact ⟨e1, (w.f k _ e2 e3).1, (w.f k _ e2 e3).2⟩
    · rw [List.mem_singleton.mp z]
      exact ⟨h0 kn k0, k1, k2⟩
  · rcases Nat.lt_trichotomy j i with z | z | z
    · rw [List.getElem?_append_left (by omega)] at q1 q2
      exact (rc K k bs').up w (h4 j y k bs' q1 q2 q3)
    · subst z
      rw [← hl, List.getElem?_concat_length] at q1
      rw [← h1, List.getElem?_concat_length] at q2
      rw [hb] at q3
      cases q1
      cases q2
      cases q3
      exact k3
    · rw [List.getElem?_eq_none (by rw [List.length_append, h1]; show i + 1 ≤ j; omega)] at q2
      cases q2
theorem rc_all (h : (rc K kn bs).p A H v) (hk : ∀ a ∈ kns, H a = some (.dK [])) : (rc K kn bs).p (fun a => A a ∨ a ∈ kns) H v := by
  obtain ⟨r, dx, o, xs, ar, ab, h1, h2, h3, h4, h5, h6, h7, h8⟩ := h
  have no : ∀ a u, ¬ A a → H a = some u → u ≠ .dK [] → ¬ (A a ∨ a ∈ kns) := fun a u na ha hu z => z.elim na fun z => hu (by
    rw [hk a z] at ha
    exact (Option.some.inj ha).symm)
  exact ⟨r, dx, o, xs, ar, ab, h1, no _ _ h2 h3 (by simp), h3, no _ _ h4 h5 (by simp), h5, h6, no _ _ h7 h8 (by simp), h8⟩
/-- the world of what was made -/
theorem mkR.use {i : Nat} {ma : Addr} {e : Ef} (hb : bss.length = i) (hl : xs.length = i) (cu : Cur e A H' n) (hp : (eP p).J n H') (hT : (eT K).J n H') (hs : ∀ a, e.B a ↔ a = p ∨ a = tB K) (k : Kp e.B H0 H') (nm : ¬ A ma) (hm : H' ma = some (.lst xs)) (h : (mkR K H0 bss i xs).p A H' .non) :
    ∃ kns A2, Cur (eL K p kns bss) A2 H' n ∧ Wl A H0 A2 H' ∧ (mdP K kns bss).p A2 H' (.ref ma) ∧ kns.length = i ∧ (∀ H8, Kp (eL K p kns bss).B H' H8 → Kp e.B H0 H8) := by
  obtain ⟨kns, h1, h2, h3, h4⟩ := h
  refine ⟨kns, fun a => A a ∨ a ∈ kns, ⟨fun a z => ?_, fun a z => ?_, h2, hp, hT, fun j kn hk => ?_⟩, ⟨k.mono fun a z => cu.sub a z, fun a z => z.imp id fun z => (h3 a z).1, fun a z => .inl z⟩, ⟨ma, xs, rfl, fun z => z.elim nm fun z => ?_, hm, by omega, fun j x kn bs q1 q2 q3 => rc_all (h4 j x kn bs q1 q2 q3) fun a ha => (h3 a ha).2.2⟩, h1, fun H8 kk => ⟨fun a o na ha => kk.1 a o (fun z => ?_) (k.1 a o na ha), fun a ha => kk.2 a (k.2 a ha), fun a xs ha => kk.3 a xs (k.3 a xs ha)⟩⟩
  · rcases z with z | z | z
    · exact .inl (cu.sub a ((hs a).mpr (.inl z)))
    · exact .inl (cu.sub a ((hs a).mpr (.inr z)))
    · exact .inr z
  · rcases z with z | z
    · exact cu.lv a z
    · rw [(h3 a z).2.2]; simp
  · obtain ⟨hj, _⟩ := List.getElem?_eq_some_iff.mp hk
    exact ⟨bss[j]'(by omega), List.getElem?_eq_getElem (by omega), eK.start (h3 kn (List.mem_of_getElem? hk)).2.2⟩
  · rw [(h3 ma z).2.2] at hm
    cases hm
  · rcases z with z | z | z
    · exact na ((hs a).mpr (.inl z))
    · exact na ((hs a).mpr (.inr z))
    · rw [(h3 a z).1] at ha
      cases ha
end
end SB
namespace SB
open PySem PySem.Spec PyProof.Rows L2 LamX RZ
section
variable {e : Ef} {c c1 c2 : Nat} {K : PySem.W.Frag} {ta tb tc td te : TE} {σ : L2.St} {A A' : As} {H H' : Hp} {Φ Ψ Θ : Pv} {n m N M : Nat} {E : XK} {D : Ends}
/-- over a list, each item itself -/
theorem sr_ref {la : Addr} {xs : List V} (nla : ¬ A la) (hla : H la = some (.lst xs)) : Sr e 0 (iList K (tC (.ref la))) σ A H xs.length (fun i => isv (xs.getD i .non)) := fun A' H' n w cu hn R q => by
  obtain ⟨na, ha⟩ := w.f la _ nla hla
  refine ⟨la, rfl, ⟨xs, SqL.of ha⟩, q (Itl K la) H' (fun H => SqL K H la xs) (YAt xs) (.refl _) cu.j walk_list (fun A3 H3 w3 => SqL.of (w3.f la _ na ha).2) fun i A3 H3 x H4 hi w3 _ y => ?_⟩
  obtain ⟨rfl, hx⟩ := y
  refine ⟨.refl _, ?_⟩
  show x = xs.getD i .non
  rw [List.getD_eq_getElem?_getD, hx]
  rfl
theorem for_firstT {g : TG} {tb : TS} (h : te σ H fun v H1 => tFor (iTup K (tC v)) g tb D σ H1) : tFor (iTup K te) g tb D σ H := h
theorem v_law_fixed_right (S : Sube (eT K) e) : Em e 0 (tCall (sp_law_fixed_right K) [] E tNil) σ A H (da (.bool true)) := em_pe (c1 := 0) (c2 := 0) (.refl e) eva_nil fun A' H' vs w _ p => by
  cases p
  exact ⟨rfl, S, rfl, rfl⟩
theorem v_law_right {p kn : Addr} {old : Nat} {rows : List (List Nat)} {b : Int} (SP : Sube (eP p) e) (ST : Sube (eKT K kn (bitsR rows)) e) (SK : Sube (eK kn (bitsR rows)) e) (okr : okR old rows) (hb : 0 ≤ b) (h : Em e 0 ta σ A H (isv (.ref p))) (h2 : Em e 0 tb σ A H (da (recD old rows))) (h3 : Em e 0 tc σ A H (rc K kn (bitsR rows))) (h4 : Em e 0 td σ A H (da (.int b))) :
    Em e 1000 (tCall (sp_law_right K) [] E (tCons ta (tCons tb (tCons tc (tCons td tNil))))) σ A H (da (.bool true)) := em_pe (c1 := 0) (c2 := 1000) (.refl e) (eva_cons h (eva_cons h2 (eva_cons h3 (eva_cons h4 eva_nil)))) fun A' H' vs w _ q => by
  obtain ⟨x, y, z, u, rfl, q1, q2, q3, q4⟩ := pvs4 q
  obtain rfl : x = .ref p := q1
  obtain rfl := Rp.int_eq q4
  exact ⟨rfl, p, kn, old, rows, y, z, b, SP, ST, SK, rfl, q2, okr, q3, hb, rfl⟩
end
theorem at_of {A : As} {H : Hp} {y : V} : ∀ {i : Nat}, i < 4 → Rp A H y (([.int 0, .int 1, .int 0, .int 2] : List PyData).getD i .none) → ∃ j : Nat, j < 3 ∧ y = .int (j : Int)
  | 0, _, h => ⟨0, by decide, Rp.int_eq (i := 0) h⟩
  | 1, _, h => ⟨1, by decide, Rp.int_eq (i := 1) h⟩
  | 2, _, h => ⟨0, by decide, Rp.int_eq (i := 0) h⟩
  | 3, _, h => ⟨2, by decide, Rp.int_eq (i := 2) h⟩
  | n + 4, h, _ => absurd h (by omega)
abbrev rdR (r : Nat × List (List Nat)) : PyData := recD r.1 r.2
abbrev lot3 : Pv := exv (fun L : List (Nat × List (List Nat)) => L.length = 3 ∧ ∀ r ∈ L, okR r.1 r.2) fun L => da (.list (L.map rdR))
section
variable {K : PySem.W.Frag} {mg : Str → Option Value} {P : Program} {w : World} {base : Heap}
/-- what the law is asked -/
abbrev sp_law (K : PySem.W.Frag) : Sp := fun vs H Q _ => ∃ a, ∃ ns : List Int, vs = [.ref a] ∧ ns.length ≤ 63 ∧ SqL K H a (ns.map V.int) ∧ H (tB K) = some (.tbl #[]) ∧ ∀ H', Q (.bl true) H'
abbrev s_law : Stmt := top 64
abbrev N_law : List Str := ["_law_script", "_law_purse_here", "_law_lot", "_law_made_here", "_law_at", "_law_least", "_law_bound", "_law_recipe_here"]
theorem sc_law : FnScope N_law ["_law_script"] (defScope s_law) := ⟨rfl, rfl, rfl, by decide +kernel, rfl, by decide +kernel, by decide +kernel⟩
theorem c_law (T : Tx K mg) (TB : TabB base mg (cB K) (tB K)) {f : Addr} {cdv : Value} {A : Around} {outer : List Env} {s : Shared} {H : Hp} {vs : List V} {Q : VK} {E : XK} (hr : Room 8 (A.deeper (envOfC "law" (defScope (top 64)) s.heap.objs.size f cdv))) (h : sp_law K vs H Q E) :
    ∃ t, PSs (cxOf CX0 P w K mg base N_law "law" (defScope (top 64)) f cdv A outer s H E).nox (defBody (top 64)) t ∧ t { nx := fun _ H' => Q .non H', rt := Q } (L2.start N_law vs) H := by
  obtain ⟨a, ns, rfl, hl, hS, hT, k⟩ := h
  have c_law_fixed_right := c_law_fixed_right (P := P) (w := w) (base := base) T TB
  have c_law_purses := c_law_purses (P := P) (w := w) (base := base) T
  have c_law_recipe := c_law_recipe (P := P) (w := w) (base := base) T
  have c_law_made := c_law_made (P := P) (w := w) (base := base) T
  have c_law_least_width := c_law_least_width (P := P) (w := w) (base := base) T
  have c_law_holds := c_law_holds (P := P) (w := w) (base := base) T
  have c_law_draw := c_law_draw (P := P) (w := w) (base := base) T
  have c_law_right := c_law_right (P := P) (w := w) (base := base) T TB
  refine ⟨_, (pss_cons (ps_if (pt_not (pt_val (pe_c0 c_law_fixed_right hr (by decide) rfl))) (pss_one (ps_ret pe_bl)) pss_nil)
  (pss_cons (ps_for PassesOwn.never rfl (kpi_list (K := K) (C8.pe_c c_law_purses hr (by decide) rfl (pa_cons (pv 0) (pa_cons pe_int pa_nil)))) (pg_name (i := 1) sc_law.nd rfl (Or.inl rfl)) (pss_cons (ps_set (i := 2) sc_law.nd rfl (Or.inl rfl) (pe_lst (pa_cons (C8.pe_c c_law_recipe hr (by decide) rfl (pa_cons (pv 1) (pa_cons pe_int (pa_cons pe_int pa_nil)))) (pa_cons (C8.pe_c c_law_recipe hr (by decide) rfl (pa_cons (pv 1) (pa_cons pe_int (pa_cons pe_int pa_nil)))) (pa_cons (C8.pe_c c_law_recipe hr (by decide) rfl (pa_cons (pv 1) (pa_cons pe_int (pa_cons pe_int pa_nil)))) pa_nil)))))
  (pss_cons (ps_setLc (i := 3) (own := [("_law_recipe_here", 7)]) rfl sc_law.nd rfl rfl (sw_true rfl rfl rfl (by decide +kernel)) (kpi_list (K := K) (pv 2)) (blkOk_by (own := [("_law_recipe_here", 7)]) (N := N_law) (sc := defScope s_law) (by decide +kernel)) (fun _ _ _ _ _ => (pg_name (i := 7) sc_law.nd rfl (Or.inl rfl))) (fun _ _ _ _ _ => pts_nil) (fun _ _ _ _ _ => (C8.pe_c c_law_made hr (by decide) rfl (pa_cons (pv 7) pa_nil))))
  (pss_one (ps_for PassesOwn.never rfl (kpi_tup (K := K) (pe_tup (pa_cons pe_int (pa_cons pe_int (pa_cons pe_int (pa_cons pe_int pa_nil)))))) (pg_name (i := 4) sc_law.nd rfl (Or.inl rfl)) (pss_cons (ps_set (i := 5) sc_law.nd rfl (Or.inl rfl) (C8.pe_c c_law_least_width hr (by decide) rfl (pa_cons (pe_ix (kix_list (K := K)) (pv 2) (pv 4) (fun _ _ => rfl)) (pa_cons (C8.pe_c c_law_holds hr (by decide) rfl (pa_cons (pe_ix (kix_list (K := K)) (pv 2) (pv 4) (fun _ _ => rfl)) pa_nil)) pa_nil))))
  (pss_one (ps_for PassesOwn.never rfl (kpi_tup (K := K) (pe_slice (ksl_tup (K := K)) (pe_tup (pa_cons (pe_callB (k_max2 rfl) rfl T.max_ bt_max (pa_cons pe_int (pa_cons (pe_op op_sub (pv 5) pe_int) pa_nil))) (pa_cons (pv 5) (pa_cons (C8.pe_c c_law_draw hr (by decide) rfl (pa_cons (pv 1) (pa_cons (pe_op op_add (pv 5) pe_int) pa_nil))) pa_nil)))) po_none (po_some (pe_ifExp (pt_cmpR op_eq (pv 4) pe_int (nomark _)) pe_int pe_int)))) (pg_name (i := 6) sc_law.nd rfl (Or.inl rfl)) (pss_one (ps_if (pt_not (pt_val (C8.pe_c c_law_right hr (by decide) rfl (pa_cons (pv 1) (pa_cons (pe_ix (kix_list (K := K)) (pv 2) (pv 4) (fun _ _ => rfl)) (pa_cons (pe_ix (kix_list (K := K)) (pv 3) (pv 4) (fun _ _ => rfl)) (pa_cons (pv 6) pa_nil))))))) (pss_one (ps_ret pe_bl)) pss_nil))))))))))
  (pss_one (ps_ret pe_bl)))), ?_⟩
  have hbig : big = 1000000000000 := rfl
  have cu0 : Cur (eT K) (fun b => b = tB K) H 0 := ⟨fun a z => z, fun a z => by rw [show a = tB K from z, hT]; simp, TabS.nil hT⟩
  have hsc : (scrP K).p (fun b => b = tB K) H (.ref a) := ⟨a, ns, rfl, hl, fun A' H' w => by
    rcases hS with (z | ⟨o, z⟩) | z
    · refine .inl (.inl (w.kp.1 a _ (fun z2 => ?_) z))
      rw [show a = tB K from z2, hT] at z
      cases z
    · refine .inl (.inr ⟨o, w.kp.1 a _ (fun z2 => ?_) z⟩)
      rw [show a = tB K from z2, hT] at z
      cases z
    · exact .inr z⟩
  refine z_if (T := (false = ·)) (vt_is (vt_not1 (vt_v (v_law_fixed_right (.refl _)))) rfl) cu0 (by decide) (fun z => by cases z) (fun _ H1 k1 cu1 => to_next ?_)
  dsimp only
  refine seq_for ?_
  refine v_law_purses (ev_var rfl ((scrP K).up (cu0.wl k1) hsc)) (fun b => b = tB K) H1 0 (.refl _ _) cu1 (by decide) _ fun v H2 k2 j2 p2 => ?_
  obtain ⟨la, xs, rfl, nla, hla, hp⟩ := p2
  obtain ⟨p, x0, x1, x3, rfl, np, hpp⟩ : ∃ p x0 x1 x3, xs = [.ref p] ∧ ¬ p = tB K ∧ H2 p = some (.lst (pl x0 x1 0 x3)) := by
    cases hp with
    | cons q t =>
      cases t
      obtain ⟨p, x0, x1, x3, rfl, q2, q3⟩ := q
      exact ⟨p, x0, x1, x3, rfl, q2, q3⟩
  have cu2 : Cur (eT K) (fun b => b = tB K) H2 0 := cu1.aft k2 j2
  have cuE : Cur ((eP p).and (eT K)) (Ad (fun b => b = tB K) p) H2 0 := ⟨fun a z => Or.symm z, (cu2.ad hpp).lv, ⟨x0, x1, 0, x3, hpp, Int.le_refl _, by decide⟩, cu2.j⟩
  have nlaA : ¬ Ad (fun b => b = tB K) p la := fun z => z.elim nla fun z => by
    rw [z, hpp] at hla
    cases hla
  have S1 : Sube (eP p) ((eP p).and (eT K)) := .l _ _ fun a z z2 => np (by rw [← show a = p from z, ← show a = tB K from z2])
  have fin : ∀ {e : Ef} {A : As} {σ : L2.St} {H5 : Hp} {n : Nat}, Cur e A H5 n → n ≤ big → tRet (tC (.bl true)) { nx := fun _ H' => Q .non H', rt := Q } σ H5 := fun cu hn => z_ret ev_bl cu hn fun u H6 _ _ p6 => by
    obtain rfl := Rp.bl_eq p6
    exact k H6
  refine s_forS (c := 0) (A := Ad (fun b => b = tB K) p) 20000 (fun i σ' H' => ∃ x1 x2 x3 x4 x5 x6, σ' = [some (.ref a), x1, x2, x3, x4, x5, x6, none]) (sr_ref nlaA hla) cuE (by omega) (fun _ _ _ _ h _ => h) (fun H3 k3 => ⟨none, none, none, none, none, none, rfl⟩) (fun H3 i σ' H' y k3 hi ⟨x1, x2, x3, x4, x5, x6, hσ⟩ k4 cu4 py => ?_) (fun σ' H' ⟨x1, x2, x3, x4, x5, x6, hσ⟩ k3 cu3 => ?_)
  · subst hσ
    obtain rfl : i = 0 := by
      have : i < 1 := hi
      omega
    obtain rfl : y = .ref p := py
    dsimp only
    refine s_asg (c := 400 + (400 + (400 + 0))) (Φ := lot3) (em_lst (c1 := 400 + (400 + (400 + 0))) (Φs := [recP 6, recP 4, recP 7]) (ema_cons (c1 := 400) (c2 := 400 + (400 + 0)) (v_law_recipe (mn := 6) (mo := 6) S1 (by decide) (by decide) (by decide) (ev_var rfl rfl) (ev_int (k := 6)) (ev_int (k := 6))) (ema_cons (c1 := 400) (c2 := 400 + 0) (v_law_recipe (mn := 4) (mo := 8) S1 (by decide) (by decide) (by decide) (ev_var rfl rfl) (ev_int (k := 4)) (ev_int (k := 8))) (ema_cons (c1 := 400) (c2 := 0) (v_law_recipe (mn := 7) (mo := 8) S1 (by decide) (by decide) (by decide) (ev_var rfl rfl) (ev_int (k := 7)) (ev_int (k := 8))) ema_nil))) (show (3 : Nat) ≤ 100000 by decide) fun A' H' vs a _ p na ha => ?_) cu4 (by omega) fun v2 H5 k5 cu5 p5 => ?_
    · obtain ⟨y1, y2, y3, rfl, ⟨r1, h1, q1⟩, ⟨r2, h2, q2⟩, ⟨r3, h3, q3⟩⟩ := pvs3 p
      refine ⟨[r1, r2, r3], ⟨rfl, fun r hr => ?_⟩, .lst na ha (.cons q1 (.cons q2 (.cons q3 .nil)))⟩
      rcases List.mem_cons.mp hr with rfl | hr
      · exact h1.1
      rcases List.mem_cons.mp hr with rfl | hr
      · exact h2.1
      rw [List.mem_singleton.mp hr]
      exact h3.1
    obtain ⟨L, ⟨hL3, hLok⟩, p5⟩ := p5
    have hlen : (L.map rdR).length = 3 := by rw [List.length_map, hL3]
    refine s_asg (c := 0 + (L.map rdR).length * 0) (Φ := lsR (L.map rdR).length (mkR K H5 (L.map fun r => bitsR r.2))) (em_lcR (vr_list (ev_var rfl p5)) (by omega) (fun x => rfl) (fun A1 H1 w => mkR.start H5) fun i A1 H6 x xs hi hxl w px hR => ?_) cu5 (by omega) fun v3 H6 k6 cu6 p6 => ?_
    · have hi2 : i < L.length := by rw [List.length_map] at hi; exact hi
      have e1 : (L.map rdR).getD i .none = rdR L[i] := by rw [List.getD_eq_getElem?_getD, List.getElem?_map, List.getElem?_eq_getElem hi2]; rfl
      have px : Rp A1 H6 x ((L.map rdR).getD i .none) := px
      rw [e1] at px
      have hb : (L.map fun r => bitsR r.2)[i]? = some (bitsR L[i].2) := by rw [List.getElem?_map, List.getElem?_eq_getElem hi2]; rfl
      exact (v_law_made (H0 := H6) (fun a z => z) (hLok _ (List.getElem_mem hi2)) (ev_var rfl px)).imp fun A' H' v w2 q => mkR.next hxl hb (fun a z => w.kp.none z) w2 hR q
    obtain ⟨ma, xs, rfl, nma, hma, hxl, hR⟩ := p6
    obtain ⟨kns, A2, cu7, w7, pM, hkl, kb⟩ := mkR.use (p := p) (by rw [List.length_map, List.length_map]) hxl cu6 cu6.j.1 cu6.j.2 (fun a => Iff.rfl) k6 nma hma hR
    have hkl : kns.length = 3 := by rw [hkl, hlen]
    have p57 := p5.up w7
    refine s_forS (e := eL K p kns (L.map fun r => bitsR r.2)) (c := 0) (A := A2) 4000 (fun i σ' H' => ∃ x4 x5 x6, σ' = [some (.ref a), some (.ref p), some v2, some (.ref ma), x4, x5, x6, none]) (N := 4) (It := fun i => da (([.int 0, .int 1, .int 0, .int 2] : List PyData).getD i .none)) (vr_tup (ds := [.int 0, .int 1, .int 0, .int 2]) (ev_tupD (evd_cons ev_int (evd_cons ev_int (evd_cons ev_int (evd_cons ev_int evd_nil)))) (show (4 : Nat) ≤ 100000 by decide))) cu7 (by omega) (fun _ _ _ _ h _ => h) (fun H8 k8 => ⟨_, _, _, rfl⟩) (fun H8 i σ' H' y k8 hi ⟨x4, x5, x6, hσ⟩ k9 cu9 py => ?_) (fun σ' H' ⟨x4, x5, x6, hσ⟩ k8 cu8 => ?_)
    · subst hσ
      obtain ⟨j, hj3, rfl⟩ := at_of hi py
      have hjL : j < L.length := by omega
      have okr := hLok _ (List.getElem_mem hjL)
      have hix : (L.map rdR)[j]? = some (recD L[j].1 L[j].2) := by rw [List.getElem?_map, List.getElem?_eq_getElem hjL]; rfl
      have hbs : (L.map fun r => bitsR r.2)[j]? = some (bitsR L[j].2) := by rw [List.getElem?_map, List.getElem?_eq_getElem hjL]; rfl
      have hkn : kns[j]? = some (kns[j]'(by omega)) := List.getElem?_eq_getElem (by omega)
      generalize kns[j]'(by omega) = kn at hkn
      generalize L[j] = r at *
      have S2 : Sube (eP p) (eL K p kns (L.map fun r => bitsR r.2)) := .lP
      have S3 : Sube (eKT K kn (bitsR r.2)) (eL K p kns (L.map fun r => bitsR r.2)) := .lKT hkn hbs
      have S4 : Sube (eK kn (bitsR r.2)) (eL K p kns (L.map fun r => bitsR r.2)) := .lK hkn hbs
      generalize (eL K p kns (L.map fun r => bitsR r.2)) = e3 at *
      have w9 : Wl A2 H6 A2 H' := cu7.wl (k8.trans k9)
      have hv9 := p57.up w9
      have pM9 := (mdP K kns _).up w9 pM
      have eLot : ∀ {σ : L2.St} {H9 : Hp}, σ[2]? = some (some v2) → σ[4]? = some (some (.int (j : Int))) → Wl A2 H' A2 H9 → Em e3 0 (tOp (rIxL K) (tVar 2) (tVar 4)) σ A2 H9 (da (recD r.1 r.2)) := fun h1 h2 w => ev_ixL (ev_var h1 (hv9.up w)) (ev_var h2 (.int (j : Int))) (atI_nat hix)
      dsimp only
      refine z_asg (Φ := wdP (bitsR r.2)) (v_law_least_width okr (eLot rfl rfl (.refl _ _)) (v_law_holds okr (eLot rfl rfl (.refl _ _)))) cu9 (by omega) fun v5 H10 k10 cu10 p10 => ?_
      obtain ⟨wd, hw, p10⟩ := p10
      obtain rfl := Rp.int_eq p10
      have hwd : wd ≤ 16 := hw.le16 okr.b (Nat.pow_pos (by decide))
      have w10 : Wl A2 H' A2 H10 := cu9.wl k10
      dsimp only
      refine for_firstT ?_
      refine em_bind (c1 := 0 + (0 + (1 + 0))) (c2 := 0) (F := fun y => tSl (rSlA K) (tC y) tNoPart (tPart (tIf (L2.tB (tOp rEq (tVar 4) (tC (.int 2)))) (tC (.int 1)) (tC (.int 3))))) (Θ := dp fun d => ∃ ts, d = .tuple ts ∧ ts.length ≤ 3 ∧ ∀ z ∈ ts, ∃ b : Int, 0 ≤ b ∧ z = .int b) (em_tup (c1 := 0 + (0 + (1 + 0))) (Φs := [da (.int (max 0 ((wd : Int) - 1))), da (.int (wd : Int)), belowP (wd + 2)]) (Θ := exv (fun i3 : Nat => True) fun i3 => da (.tuple [.int (max 0 ((wd : Int) - 1)), .int (wd : Int), nat i3])) (ema_cons (ev_max2 ev_int (ev_bin (ev_var rfl (.int (wd : Int))) ev_int)) (ema_cons (ev_var rfl (.int (wd : Int))) (ema_cons (c2 := 0) (v_law_draw S2 (by omega) (by omega) (ev_var rfl rfl) (ev_is (ev_bin (ev_var rfl (.int (wd : Int))) ev_int) (show PyData.int ((wd : Int) + 2) = nat (wd + 2) from rfl))) ema_nil))) (show (3 : Nat) ≤ 100000 by decide) fun A' H' vs a _ q na ha => ?_) (fun A' H' x w ⟨i3, _, q⟩ => ?_) A2 H10 _ (.refl _ _) cu10 (by omega) _ fun v11 H11 k11 j11 ⟨_, ⟨ts, hts, ht3, htb⟩, p11⟩ => ?_
      · obtain ⟨y1, y2, y3, rfl, q1, q2, ⟨i3, _, q3⟩⟩ := pvs3 q
        exact ⟨i3, trivial, .tup ha (.cons q1 (.cons q2 (.cons q3 .nil)))⟩
      · refine (ev_slT (ev_c q) evo_none (evo_some (i := if (j : Int) = 2 then 1 else 3) (ev_if (T := (decide ((j : Int) = 2) = ·)) (vt_B (ev_eqI (ev_var rfl (.int (j : Int))) ev_int)) (fun z => ev_is ev_int (by rw [if_pos (of_decide_eq_true z)])) fun z => ev_is ev_int (by rw [if_neg (of_decide_eq_false z)])))).imp fun A' H' v _ p => ⟨_, ⟨_, rfl, cutD_le _ _ _, fun z hz => ?_⟩, p⟩
        rcases List.mem_cons.mp (cutD_mem hz) with hz | hz
        · exact ⟨_, by omega, hz⟩
        rcases List.mem_cons.mp hz with hz | hz
        · exact ⟨_, by omega, hz⟩
        exact ⟨(i3 : Int), by omega, List.mem_singleton.mp hz⟩
      subst hts
      have cu11 := cu10.aft k11 j11
      refine s_forS (e := e3) (c := 0) (A := A2) 1000 (fun i σ' H' => ∃ x6, σ' = [some (.ref a), some (.ref p), some v2, some (.ref ma), some (.int (j : Int)), some (.int (wd : Int)), x6, none]) (vr_tup (ev_c p11)) cu11 (by omega) (fun _ _ _ _ h _ => h) (fun H12 k12 => ⟨_, rfl⟩) (fun H12 i2 σ' H13 y2 k12 hi2 ⟨x6', hσ⟩ k13 cu13 py2 => ?_) (fun σ' H12 ⟨x6', hσ⟩ k12 cu12 => ?_)
      · subst hσ
        obtain ⟨b, hb0, hb⟩ := htb _ (by
          rw [List.getD_eq_getElem?_getD, List.getElem?_eq_getElem hi2]
          exact List.getElem_mem hi2 : ts.getD i2 .none ∈ ts)
        have py2 : Rp A2 H13 y2 (ts.getD i2 .none) := py2
        rw [hb] at py2
        obtain rfl := Rp.int_eq py2
        have w13 : Wl A2 H' A2 H13 := (w10.trans (cu10.wl k11)).trans (cu11.wl (k12.trans k13))
        dsimp only
        refine s_if (c := 1000) (T := (false = ·)) (et_is (et_not1 (et_v (v_law_right S2 S3 S4 okr hb0 (ev_var rfl rfl) (eLot rfl rfl w13) (em_ixM (c := 0) (c1 := 0) (ev_var rfl ((mdP K kns _).up w13 pM9)) (ev_var rfl (.int (j : Int))) hkn hbs) (ev_var rfl (.int b))))) rfl) cu13 (by omega) (fun z => by cases z) (fun _ H14 k14 cu14 => to_next ?_)
        dsimp only
        exact ⟨⟨_, rfl⟩, k13.trans k14, cu14.mono (by rw [Nat.succ_mul]; omega)⟩
      · subst hσ
        dsimp only
        refine ⟨⟨_, _, _, rfl⟩, ((k9.trans k10).trans k11).trans k12, cu12.mono ?_⟩
        have : ts.length * 1000 ≤ 3 * 1000 := Nat.mul_le_mul_right _ ht3
        rw [Nat.succ_mul]
        omega
    · subst hσ
      dsimp only
      refine ⟨⟨_, _, _, _, _, _, rfl⟩, (k4.trans k5).trans (kb _ k8), ⟨cuE.sub, fun a z => cu8.lv a (w7.sub a z), ?_, cu8.j.jT⟩⟩
      exact (eP p).mono (by omega) cu8.j.jP
  · subst hσ
    dsimp only
    exact fin cu3 (by show 0 + 0 + 1 * 20000 ≤ big; omega)
end
end SB
set_option maxHeartbeats 0
namespace SB
open PySem PySem.Spec PyProof.Rows L2
def l1 : List Str := ["_wall", "CellsError", "InvalidCount", "InvalidNeeds", "InvalidRecipe", "InvalidBound", "Recipe", "is_count", "is_rising", "bits_of", "blocks_of", "size_of", "check_recipe", "is_lot_of", "needed_bits", "held_in", "all_bits", "lots_from", "check_bound", "outside", "behind_of", "width_in", "reached_in", "lacks_more", "check_bounded", "are_lots_of", "is_closed", "is_barrier", "barrier", "_law_purse"]
def l2 : List Str := ["_law_mixed", "_law_draw", "_law_purses", "_law_one_of", "_law_shuffled", "_law_same", "_law_exact", "_law_row", "_law_recipe", "_law_needed", "_law_held", "_law_lots", "_law_holds", "_law_wider", "_law_narrower", "_law_least_width", "_law_reached", "_law_made", "_law_is_lot", "_law_drawn_lot", "_law_twins_of", "_law_bent_lots", "_law_far_blocks", "_law_bars", "_law_bent", "_law_right", "_law_fixed_right"]
def loose : List Str := l1 ++ l2
theorem run (w : World) : HandSHeadRun.RunEq R (PySem.W.view R.prog [64]) hk ob 6000 loose w := by
  intro os
  kernel_rfl
end SB
namespace SB
open PySem PySem.Spec PyProof.Rows L2 LamX
/-- what the head tells is enough for the law -/
theorem facts {w : World} {K : PySem.W.Frag} {h : Heap} {mg : Str → Option Value} {f : Addr} (X : K.In h) (G : h.Ns mainGlobals mg) (hfa : mg ("law" : Str) = some (.ref f)) (c : He.SaysX fa fn [] tf ex w h K) :
    LawAtS PySem.Challenge.rw_sparecells_k14_whole_barriers_judged w K CX0 9 63 "_law_script" mg f h := by
  have T : Tx K mg := ⟨c.t.d, ⟨h, X, G⟩, c.more⟩
  obtain ⟨fd, F⟩ := c.t.d.def_ 51 (d := dd "law" 64) rfl
  have e := hfa.symm.trans (T.gl 57 rfl)
  cases e
  have hm : (("behind_of", none) : He.Defn) ∈ tf := List.mem_cons_self
  have one : ∀ q ∈ [(cB K, tB K)], q = (cB K, tB K) := fun q hq => List.mem_singleton.mp hq
  have b := FunD.bindsA (ps := ["_law_script"]) F fun _ _ _ _ _ _ us hl => match us, hl with | [_], _ => rfl
  refine ⟨fd, [(cB K, tB K)], sp_law K, fun q hq => ?_, fun q hq => ?_, fun q hq => ?_, fun s u => b s [u] rfl, fun H a ns hl _ hT hS => ⟨a, ns, rfl, hl, hS, hT _ (List.mem_singleton.mpr rfl), fun _ => rfl⟩, fun base _ _ hTB => ?_⟩
  · rw [one q hq]
    exact c.empty _ hm
  · rw [one q hq]
    exact c.out _ hm
  · rw [one q hq]
    exact PySem.W.codeHd_of_K X (c.hd _ hm)
  · have TB : TabB base mg (cB K) (tB K) := hTB _ (List.mem_singleton.mpr rfl)
    refine FunD.ok F sc_law (fun vs H Q E h => ?_) fun cdv A outer s H vs Q E hr h => ?_
    · obtain ⟨_, _, rfl, _⟩ := h
      rfl
    · obtain ⟨t, q1, q2⟩ := c_law T TB hr h
      exact ⟨t, q1.nox, q2⟩
end SB
open PySem PySem.W PySem.Calls PyProof.Rows
theorem PySem.Challenge.cw_sparecells_k14_whole_barriers_judged_holds : PySem.Challenge.rw_sparecells_k14_whole_barriers_judged.Holds := by
  w_on; o_law
  refine HandSHeadRun.head_any (r := OpenLaw.row PySem.Challenge.rw_sparecells_k14_whole_barriers_judged) (q := view (OpenLaw.row PySem.Challenge.rw_sparecells_k14_whole_barriers_judged).prog [64]) (H := SB.hk) (ob := SB.ob) (M := 6000) (loose := SB.loose) (d := HandSHeadRun.topDef (OpenLaw.row PySem.Challenge.rw_sparecells_k14_whole_barriers_judged).prog 64) (kwd := []) SB.ob_eq
    (by kernel_rfl) (fun s => by kernel_rfl) SB.run (by kernel_rfl) (by kernel_rfl) (by kernel_rfl) (by rfl) (by first | assumption | decide +kernel) (by decide +kernel) ⟨rfl, rfl, rfl, rfl, rfl, by decide +kernel⟩ ?hw ?hc
  case hw => w_witness2
  case hc =>
    refine LamX.walk_ofTsE (l := PySem.Challenge.rw_sparecells_k14_whole_barriers_judged) (n := 63) (k := 9) (x := "_law_script") (CX := fun _ => L2.CX0) rfl (by decide) (by kernel_rfl) ⟨rfl, by decide, by decide⟩ ?F (fun _ _ _ _ _ z => z)
    intro w mg fa h Y G hmg0
    obtain ⟨K, KX, c⟩ := Y
    have hmg : mg ("law" : PySem.Str) = some (.ref fa) := by
      have e : (HandSHeadRun.topDef (OpenLaw.row PySem.Challenge.rw_sparecells_k14_whole_barriers_judged).prog 64).name = ("law" : PySem.Str) := by kernel_rfl
      rw [← e]
      exact hmg0
    exact ⟨K, KX, SB.facts KX G hmg c⟩
