import PyProof.Rows.All
import Wide.All
import OpenK.AllK
import Wide.FinOn
import HandS.Lambda
import HandS.Nested
import HandS.NestedK
import HandS.SortKw
import HandS.EndTab
import PyProof.WalkInts
import HandS.ForMost
import HandS.ForExc
import HandS.Evl
import HandS.Steps
import HandS.Walk
import HandS.IsInst
import HandS.SortInts
import HandS.Defaults
import KE.KEqSeq
import HandS.More
import HandS.Iter
import PyProof.Draws
import HandS.SetFor
import HandS.Zip
import HandS.Rev
import HandS.RevTup
import HandS.Style
import HandS.Deep
import HandS.Dict
import HandS.Conv
import HandS.HotCalls
import HandS.ExcIs
import KE.KExcIs
import PySem.Challenge.RW_stripfold_k06_bench_deeds
set_option Elab.async false
set_option linter.all false
set_option maxRecDepth 100000
set_option maxHeartbeats 4000000
/-! FoldA -/
namespace Fo
open PySem L2 Evl

/-! ### a block of statements, at every later heap -/
def Go (ts : TS) (D : Ends) (σ : L2.St) (H : Hp) : Prop := ∀ H1, Ex H H1 → ts D σ H1
section
variable {K : PySem.W.Frag} {σ : L2.St} {H H' : Hp} {ta tb tc te tx : TE} {t u : TT} {x y z v : V} {D : Ends} {tu tw tz : TS} {g : TG} {i : Nat}
theorem Go.here (h : Go tz D σ H) : tz D σ H := h H (Ex.refl H)
theorem Go.mono (e : Ex H H') (h : Go tz D σ H) : Go tz D σ H' := fun H1 a => h H1 (e.trans a)
theorem Go.of_seq (h : Go tu { D with nx := tz D } σ H) : Go (tSeq tu tz) D σ H := h
theorem g_next (h : ∀ H1, Ex H H1 → D.nx σ H1) : Go tNext D σ H := h
theorem g_nextS {d : Ends} (h : Go tz d σ H) : Go tNext { D with nx := tz d } σ H := h
theorem g_asg (h : Ev te σ H v) (k : Go tz D (σ.set i (some v)) H) : Go (tSeq (tAsg te (gName i)) tz) D σ H := fun H1 e => q_asg (h.mono e) fun H2 e2 => k H2 (e.trans e2)
theorem g_asgL {xs : List V} (h : EvL te σ H xs) (k : ∀ p H1, H p = none → Ex H H1 → H1 p = some (.lst xs) → Go tz D (σ.set i (some (.ref p))) H1) : Go (tSeq (tAsg te (gName i)) tz) D σ H := fun H1 e =>
  q_asgL (h.mono e) fun p H2 hp e2 h2 => (k p H2 (fresh_back e hp) (e.trans e2) h2).here
theorem g_asgU {xs : List V} (h : EvU te σ H xs) (k : ∀ p H1, H p = none → Ex H H1 → H1 p = some (.tup xs) → Go tz D (σ.set i (some (.ref p))) H1) : Go (tSeq (tAsg te (gName i)) tz) D σ H := fun H1 e =>
  h H1 e _ fun p H2 hp e2 h2 => (k p H2 (fresh_back e hp) (e.trans e2) h2).here
theorem g_if {b : Bool} (h : EvT t σ H b) (h1 : b = true → Go tu { D with nx := tz D } σ H) (h2 : b = false → Go tw { D with nx := tz D } σ H) : Go (tSeq (tIfS t tu tw) tz) D σ H := fun H1 e =>
  q_if (h.mono e) (fun hb H2 e2 => h1 hb H2 (e.trans e2)) (fun hb H2 e2 => h2 hb H2 (e.trans e2))
theorem g_when {b : Bool} (h : EvT t σ H b) (h1 : b = true → Go tu { D with nx := tz D } σ H) (h2 : b = false → Go tz D σ H) : Go (tSeq (tIfS t tu tNext) tz) D σ H := g_if h h1 h2
/-- a test that is known -/
theorem g_yes (h : EvT t σ H true) (h1 : Go tu { D with nx := tz D } σ H) : Go (tSeq (tIfS t tu tw) tz) D σ H := g_if h (fun _ => h1) (fun e => Bool.noConfusion e)
theorem g_no (h : EvT t σ H false) (h2 : Go tw { D with nx := tz D } σ H) : Go (tSeq (tIfS t tu tw) tz) D σ H := g_if h (fun e => Bool.noConfusion e) (fun _ => h2)
theorem g_ret (h : Ev te σ H v) (k : ∀ H1, Ex H H1 → D.rt v H1) : Go (tSeq (tRet te) tz) D σ H := fun H1 e => s_ret (D := { D with nx := tz D }) (h.mono e) fun H2 e2 => k H2 (e.trans e2)
theorem g_retL {xs : List V} (h : EvL te σ H xs) (k : ∀ p H1, H p = none → Ex H H1 → H1 p = some (.lst xs) → D.rt (.ref p) H1) : Go (tSeq (tRet te) tz) D σ H := fun H1 e =>
  s_retL (D := { D with nx := tz D }) (h.mono e) fun p H2 hp e2 h2 => k p H2 (fresh_back e hp) (e.trans e2) h2
theorem g_retU {xs : List V} (h : EvU te σ H xs) (k : ∀ p H1, H p = none → Ex H H1 → H1 p = some (.tup xs) → D.rt (.ref p) H1) : Go (tSeq (tRet te) tz) D σ H := fun H1 e =>
  s_retU (D := { D with nx := tz D }) (fun H2 a Q q => h H2 (e.trans a) Q q) fun p H2 hp e2 h2 => k p H2 (fresh_back e hp) (e.trans e2) h2
theorem g_raise {E : XK} {c : Value} (k : ∀ H1, Ex H H1 → E c none H1) : Go (tSeq (tRaise E c) tz) D σ H := fun H1 e => k H1 e
theorem g_drop (h : Ev te σ H v) (k : Go tz D σ H) : Go (tSeq (tDrop te) tz) D σ H := fun H1 e => q_drop (h.mono e) fun H2 e2 => k H2 (e.trans e2)
theorem g_cutM (M : L2.St → Hp → Prop) (h : Go tu { D with nx := M } σ H) (k : ∀ σ' H', M σ' H' → Go tz D σ' H') : Go (tCut tu tz) D σ H := fun H1 e => ⟨M, h H1 e, fun σ' H' m => (k σ' H' m).here⟩
theorem g_cutS (M : L2.St → Hp → Prop) (h : Go (tSeq tu tNext) { D with nx := M } σ H) (k : ∀ σ' H', M σ' H' → Go tz D σ' H') : Go (tCut tu tz) D σ H := fun H1 e => ⟨M, h H1 e, fun σ' H' m => (k σ' H' m).here⟩
theorem g_ifC {b : Bool} (h : EvT t σ H b) (h1 : b = true → Go tu D σ H) (h2 : b = false → Go tw D σ H) : Go (tIfS t tu tw) D σ H := fun H1 e =>
  s_if (h.mono e) (fun hb H2 e2 => h1 hb H2 (e.trans e2)) (fun hb H2 e2 => h2 hb H2 (e.trans e2))
/-- a word between: what stands behind is shown once -/
theorem g_cut (M : L2.St → Hp → Prop) (h : Go tu { D with nx := M } σ H) (k : ∀ σ' H', M σ' H' → tz D σ' H') (mono : ∀ σ H, tu { D with nx := M } σ H → tu { D with nx := tz D } σ H) : Go (tSeq tu tz) D σ H := fun H1 e => mono σ H1 (h H1 e)
end

/-! ### values -/
section
variable {K : PySem.W.Frag} {σ : L2.St} {H H' : Hp} {ta tb tc te tx : TE} {t u : TT} {x y z v : V} {i j : Int}
/-- the i-th of a list of ints -/
def gi (ns : List Int) (i : Int) : Int := ns.getD i.toNat 0
theorem atI_get {α : Type} {xs : List α} {i : Int} {v : α} (h0 : 0 ≤ i) (h : xs[i.toNat]? = some v) : atI xs i = some v := by
  have e : i = ((i.toNat : Nat) : Int) := by omega
  rw [e]
  exact atI_nat h
theorem gi_at {ns : List Int} {i : Int} (h0 : 0 ≤ i) (h1 : i < (ns.length : Int)) : atI (ns.map V.int) i = some (.int (gi ns i)) := by
  refine atI_get h0 ?_
  have h2 : i.toNat < ns.length := by omega
  rw [List.getElem?_map, List.getElem?_eq_getElem h2]
  show some (V.int _) = some (V.int (ns.getD i.toNat 0))
  rw [List.getD_eq_getElem?_getD, List.getElem?_eq_getElem h2]
  rfl
theorem gi_of {ns : List Int} {k : Nat} {z : Int} (h : ns[k]? = some z) : gi ns (k : Int) = z := by
  show ns.getD (k : Int).toNat 0 = z
  rw [List.getD_eq_getElem?_getD, show (k : Int).toNat = k from rfl, h]
  rfl
theorem sq_lst {a : Addr} {xs : List V} (h : H a = some (.lst xs)) : SqL K H a xs := sq_of h
theorem ev_ixL {p : Addr} {xs : List V} (ha : Ev ta σ H (.ref p)) (hb : Ev tb σ H (.int i)) (hs : SqL K H p xs) (h : atI xs i = some v) : Ev (tOp (rIxL K) ta tb) σ H v := ev_op ha hb (rv_ixL hs h)
theorem ev_ixI {p : Addr} {ns : List Int} (ha : Ev ta σ H (.ref p)) (hb : Ev tb σ H (.int i)) (hs : SqL K H p (ns.map V.int)) (h0 : 0 ≤ i) (h1 : i < (ns.length : Int)) : Ev (tOp (rIxL K) ta tb) σ H (.int (gi ns i)) := ev_op ha hb (rv_ixL hs (gi_at h0 h1))
theorem ev_ixT {p : Addr} {xs : List V} (ha : Ev ta σ H (.ref p)) (hb : Ev tb σ H (.int i)) (hs : SqT K H p xs) (h : atI xs i = some v) : Ev (tOp (rIxT K) ta tb) σ H v := ev_op ha hb (rv_ixT hs h)
/-- an item of a list made on the way -/
theorem ev_ixNew {xs : List V} (ha : EvL ta σ H xs) (hb : Ev tb σ H (.int i)) (h : atI xs i = some v) : Ev (tOp (rIxL K) ta tb) σ H v := ev_opL1 ha (fun H1 e => hb.mono e) fun p H1 hp _ => rv_ixL (sq_of hp) h
theorem ev_add (ha : Ev ta σ H (.int i)) (hb : Ev tb σ H (.int j)) : Ev (tOp (rI0 fun i j => .int (i + j)) ta tb) σ H (.int (i + j)) := ev_op ha hb (rv_I0 (g := fun i j => V.int (i + j)))
theorem ev_sub (ha : Ev ta σ H (.int i)) (hb : Ev tb σ H (.int j)) : Ev (tOp (rI0 fun i j => .int (i - j)) ta tb) σ H (.int (i - j)) := ev_op ha hb (rv_I0 (g := fun i j => V.int (i - j)))
theorem ev_mul (ha : Ev ta σ H (.int i)) (hb : Ev tb σ H (.int j)) (hc : CMul i j) : Ev (tOp (rI CMul fun i j => .int (i * j)) ta tb) σ H (.int (i * j)) := ev_op ha hb (rv_I (g := fun i j => V.int (i * j)) hc)
theorem ev_mod (ha : Ev ta σ H (.int i)) (hb : Ev tb σ H (.int j)) (hc : 0 < j) : Ev (tOp (rI (fun _ j => 0 < j) fun i j => .int (i % j)) ta tb) σ H (.int (i % j)) := ev_op ha hb (rv_I (C := fun _ j => 0 < j) (g := fun i j => V.int (i % j)) hc)
theorem ev_div (ha : Ev ta σ H (.int i)) (hb : Ev tb σ H (.int j)) (hc : CDiv i j) : Ev (tOp (rI CDiv fun i j => .int (i / j)) ta tb) σ H (.int (i / j)) := ev_op ha hb (rv_I (g := fun i j => V.int (i / j)) hc)
theorem ev_pow (ha : Ev ta σ H (.int i)) (hb : Ev tb σ H (.int j)) (hc : CPow i j) : Ev (tOp (rI CPow fun i j => .int (i ^ j.toNat)) ta tb) σ H (.int (i ^ j.toNat)) := ev_op ha hb (rv_I (g := fun i j => V.int (i ^ j.toNat)) hc)
theorem ev_neg (ha : Ev ta σ H (.int i)) : Ev (tUn (rU fun i => .int (-i)) ta) σ H (.int (-i)) := ev_un ha ru_neg
theorem ev_lt (ha : Ev ta σ H (.int i)) (hb : Ev tb σ H (.int j)) : Ev (tOp (rI0 fun i j => .bl (decide (i < j))) ta tb) σ H (.bl (decide (i < j))) := ev_op ha hb (rv_I0 (g := fun i j => V.bl (decide (i < j))))
theorem ev_le (ha : Ev ta σ H (.int i)) (hb : Ev tb σ H (.int j)) : Ev (tOp (rI0 fun i j => .bl (decide (i ≤ j))) ta tb) σ H (.bl (decide (i ≤ j))) := ev_op ha hb (rv_I0 (g := fun i j => V.bl (decide (i ≤ j))))
theorem ev_gt (ha : Ev ta σ H (.int i)) (hb : Ev tb σ H (.int j)) : Ev (tOp (rI0 fun i j => .bl (decide (j < i))) ta tb) σ H (.bl (decide (j < i))) := ev_op ha hb (rv_I0 (g := fun i j => V.bl (decide (j < i))))
theorem ev_ge (ha : Ev ta σ H (.int i)) (hb : Ev tb σ H (.int j)) : Ev (tOp (rI0 fun i j => .bl (decide (j ≤ i))) ta tb) σ H (.bl (decide (j ≤ i))) := ev_op ha hb (rv_I0 (g := fun i j => V.bl (decide (j ≤ i))))
theorem dI : decide (V.int i = V.int j) = decide (i = j) := by
  by_cases h : i = j
  · subst h; rw [decide_eq_true rfl, decide_eq_true rfl]
  · rw [decide_eq_false h, decide_eq_false (fun e => h (V.int.inj e))]
theorem dB {a b : Bool} : decide (V.bl a = V.bl b) = (a == b) := by cases a <;> cases b <;> decide
theorem dS {a b : Str} : decide (V.str a = V.str b) = decide (a = b) := by
  by_cases h : a = b
  · subst h; rw [decide_eq_true rfl, decide_eq_true rfl]
  · rw [decide_eq_false h, decide_eq_false (fun e => h (V.str.inj e))]
theorem ev_eqI (ha : Ev ta σ H (.int i)) (hb : Ev tb σ H (.int j)) : Ev (tOp rEq ta tb) σ H (.bl (decide (i = j))) := by
  rw [← dI]; exact ev_op ha hb (rv_eq rfl)
theorem ev_neI (ha : Ev ta σ H (.int i)) (hb : Ev tb σ H (.int j)) : Ev (tOp rNe ta tb) σ H (.bl (!decide (i = j))) := by
  rw [← dI]; exact ev_op ha hb (rv_ne rfl)
theorem ev_eqB {a b : Bool} (ha : Ev ta σ H (.bl a)) (hb : Ev tb σ H (.bl b)) : Ev (tOp rEq ta tb) σ H (.bl (a == b)) := by
  rw [← dB]; exact ev_op ha hb (rv_eq rfl)
theorem ev_neB {a b : Bool} (ha : Ev ta σ H (.bl a)) (hb : Ev tb σ H (.bl b)) : Ev (tOp rNe ta tb) σ H (.bl (!(a == b))) := by
  rw [← dB]; exact ev_op ha hb (rv_ne rfl)
theorem ev_eqS {a b : Str} (ha : Ev ta σ H (.str a)) (hb : Ev tb σ H (.str b)) : Ev (tOp rEq ta tb) σ H (.bl (decide (a = b))) := by
  rw [← dS]; exact ev_op ha hb (rv_eq rfl)
theorem ev_neS {a b : Str} (ha : Ev ta σ H (.str a)) (hb : Ev tb σ H (.str b)) : Ev (tOp rNe ta tb) σ H (.bl (!decide (a = b))) := by
  rw [← dS]; exact ev_op ha hb (rv_ne rfl)
theorem rv_isN : RV rIsN x .non H (.bl (decide (x = .non))) := fun H1 _ _ q => ⟨rfl, q H1 (Ex.refl H1)⟩
theorem rv_notN : RV rNotN x .non H (.bl (!decide (x = .non))) := fun H1 _ _ q => ⟨rfl, q H1 (Ex.refl H1)⟩
theorem ev_isN (ha : Ev ta σ H x) : Ev (tOp rIsN ta (tC .non)) σ H (.bl (decide (x = .non))) := ev_op ha ev_c rv_isN
theorem ev_notN (ha : Ev ta σ H x) : Ev (tOp rNotN ta (tC .non)) σ H (.bl (!decide (x = .non))) := ev_op ha ev_c rv_notN
/-- a if t else b -/
theorem ev_ifV {b : Bool} {va vb : V} (h : EvT t σ H b) (h1 : b = true → Ev ta σ H va) (h2 : b = false → Ev tb σ H vb) : Ev (tIf t ta tb) σ H (if b = true then va else vb) := by
  cases b with
  | true => exact ev_if h (fun _ => h1 rfl) (fun e => Bool.noConfusion e)
  | false => exact ev_if h (fun e => Bool.noConfusion e) (fun _ => h2 rfl)
theorem ev_ifI {b : Bool} (h : EvT t σ H b) (h1 : b = true → Ev ta σ H (.int i)) (h2 : b = false → Ev tb σ H (.int j)) : Ev (tIf t ta tb) σ H (.int (if b = true then i else j)) := by
  cases b with
  | true => exact ev_if h (fun _ => h1 rfl) (fun e => Bool.noConfusion e)
  | false => exact ev_if h (fun e => Bool.noConfusion e) (fun _ => h2 rfl)
theorem ev_ifS {b : Bool} {p q : Str} (h : EvT t σ H b) (h1 : b = true → Ev ta σ H (.str p)) (h2 : b = false → Ev tb σ H (.str q)) : Ev (tIf t ta tb) σ H (.str (if b = true then p else q)) := by
  cases b with
  | true => exact ev_if h (fun _ => h1 rfl) (fun e => Bool.noConfusion e)
  | false => exact ev_if h (fun e => Bool.noConfusion e) (fun _ => h2 rfl)
/-- lists and slices -/
theorem el_mono {xs : List V} (e : Ex H H') (h : EvL te σ H xs) : EvL te σ H' xs := EvL.mono e h
theorem el_cat {xs ys : List V} (ha : EvL ta σ H xs) (hb : EvL tb σ H ys) (hz : xs.length + ys.length ≤ 100000) : EvL (tOp rCat ta tb) σ H (xs ++ ys) := fun H1 e Q q =>
  ha H1 e _ fun p H2 hp e2 h2 => hb H2 (e.trans e2) _ fun r H3 hr e3 h3 => ⟨p, r, xs, ys, rfl, rfl, e3 p _ h2, h3, sz_of hz, fun l hl => q l _ (fresh_back (e2.trans e3) hl) ((e2.trans e3).trans (Ex.new hl)) upd_same⟩
/-- the left one stands already -/
theorem el_catV {p : Addr} {xs ys : List V} (ha : Ev ta σ H (.ref p)) (hp : H p = some (.lst xs)) (hb : EvL tb σ H ys) (hz : xs.length + ys.length ≤ 100000) : EvL (tOp rCat ta tb) σ H (xs ++ ys) := fun H1 e Q q =>
  ha H1 e _ fun H2 e2 => hb H2 (e.trans e2) _ fun r H3 hr e3 h3 => ⟨p, r, xs, ys, rfl, rfl, ((e.trans e2).trans e3) p _ hp, h3, sz_of hz, fun l hl => q l _ (fresh_back (e2.trans e3) hl) ((e2.trans e3).trans (Ex.new hl)) upd_same⟩
theorem el_catW {p : Addr} {xs ys : List V} (ha : EvL ta σ H xs) (hb : Ev tb σ H (.ref p)) (hp : H p = some (.lst ys)) (hz : xs.length + ys.length ≤ 100000) : EvL (tOp rCat ta tb) σ H (xs ++ ys) := fun H1 e Q q =>
  ha H1 e _ fun r H2 hr e2 h2 => hb H2 (e.trans e2) _ fun H3 e3 => ⟨r, p, xs, ys, rfl, rfl, e3 r _ h2, ((e.trans e2).trans e3) p _ hp, sz_of hz, fun l hl => q l _ (fresh_back (e2.trans e3) hl) ((e2.trans e3).trans (Ex.new hl)) upd_same⟩
theorem el_catVV {p r : Addr} {xs ys : List V} (ha : Ev ta σ H (.ref p)) (hb : Ev tb σ H (.ref r)) (hp : H p = some (.lst xs)) (hr : H r = some (.lst ys)) (hz : xs.length + ys.length ≤ 100000) : EvL (tOp rCat ta tb) σ H (xs ++ ys) := fun H1 e Q q =>
  ha H1 e _ fun H2 e2 => hb H2 (e.trans e2) _ fun H3 e3 => ⟨p, r, xs, ys, rfl, rfl, ((e.trans e2).trans e3) p _ hp, ((e.trans e2).trans e3) r _ hr, sz_of hz, fun l hl => q l _ (fresh_back (e2.trans e3) hl) ((e2.trans e3).trans (Ex.new hl)) upd_same⟩
theorem el_rep {xs : List V} {k : Int} (ha : EvL ta σ H xs) (hb : Ev tb σ H (.int k)) (h0 : 0 ≤ k) (hk : k ≤ 100000) (hz : xs.length * k.toNat ≤ 100000) : EvL (tOp rRep ta tb) σ H (List.replicate k.toNat xs).flatten := fun H1 e Q q =>
  ha H1 e _ fun p H2 hp e2 h2 => hb H2 (e.trans e2) _ fun H3 e3 => ⟨p, k, xs, rfl, rfl, e3 p _ h2, by omega, by omega, sz_of hz, fun l hl => q l _ (fresh_back (e2.trans e3) hl) ((e2.trans e3).trans (Ex.new hl)) upd_same⟩
theorem flat_one {α : Type} (n : Nat) (x : α) : (List.replicate n [x]).flatten = List.replicate n x := by
  induction n with
  | zero => rfl
  | succ n ih =>
    rw [List.replicate_succ, List.flatten_cons, ih, List.replicate_succ]
    rfl
/-- [x] * k -/
theorem el_rep1 {k : Int} (ha : EvL ta σ H [x]) (hb : Ev tb σ H (.int k)) (h0 : 0 ≤ k) (hk : k ≤ 100000) : EvL (tOp rRep ta tb) σ H (List.replicate k.toNat x) := by
  have h := el_rep ha hb h0 hk (by show 1 * k.toNat ≤ 100000; omega)
  rw [flat_one] at h
  exact h
theorem cut_lo {xs : List V} {i : Int} (h0 : 0 ≤ i) (h1 : i ≤ (xs.length : Int)) : cutV xs (some i) none = xs.drop i.toNat := by
  obtain ⟨k, rfl⟩ : ∃ k : Nat, i = (k : Int) := ⟨i.toNat, by omega⟩
  unfold cutV
  rw [show HT.sIx xs.length 0 (some (k : Int)) = min k xs.length from HT.sIx_nat xs.length 0 k, HT.sIx_none]
  have e : min k xs.length = k := by omega
  rw [e, show ((k : Int)).toNat = k from rfl]
  exact List.take_of_length_le (by rw [List.length_drop]; exact Nat.le_refl _)
theorem cut_hi {xs : List V} {i : Int} (h0 : 0 ≤ i) (h1 : i ≤ (xs.length : Int)) : cutV xs none (some i) = xs.take i.toNat := by
  obtain ⟨k, rfl⟩ : ∃ k : Nat, i = (k : Int) := ⟨i.toNat, by omega⟩
  unfold cutV
  rw [show HT.sIx xs.length xs.length (some (k : Int)) = min k xs.length from HT.sIx_nat xs.length xs.length k, HT.sIx_none]
  have e : min k xs.length = k := by omega
  rw [e, show ((k : Int)).toNat = k from rfl, Nat.sub_zero]
  rfl
theorem el_from {p : Addr} {xs : List V} {tl : TO} (h : Ev te σ H (.ref p)) (h1 : EvO tl σ H (some i)) (hs : SqL K H p xs) (h0 : 0 ≤ i) (hl : i ≤ (xs.length : Int)) : EvL (tSl (rSlL K) te tl tNoPart) σ H (xs.drop i.toNat) := by
  rw [← cut_lo h0 hl]; exact el_sl h h1 eo_none hs
theorem el_upto {p : Addr} {xs : List V} {th : TO} (h : Ev te σ H (.ref p)) (h1 : EvO th σ H (some i)) (hs : SqL K H p xs) (h0 : 0 ≤ i) (hl : i ≤ (xs.length : Int)) : EvL (tSl (rSlL K) te tNoPart th) σ H (xs.take i.toNat) := by
  rw [← cut_hi h0 hl]; exact el_sl h eo_none h1 hs
/-- lengths -/
def rLenT : List V → Hp → VK → Prop := fun xs H Q => ∃ z, xs = [.str z] ∧ z.length ≤ sizeLine ∧ Q (.int z.length) H
theorem ev_lenS {z : Str} (ha : Ev ta σ H (.str z)) (hz : z.length ≤ 100000) : Ev (tCB rLenT (tCons ta tNil)) σ H (.int (z.length : Int)) := fun H1 e Q q => ha H1 e _ fun H2 e2 => ⟨z, rfl, sz_of hz, q H2 e2⟩
theorem ev_lenI {p : Addr} {ns : List Int} (ha : Ev ta σ H (.ref p)) (h : SqL K H p (ns.map V.int)) : Ev (tCB (rLenS K) (tCons ta tNil)) σ H (.int (ns.length : Int)) := by
  have q := ev_len ha h
  rw [List.length_map] at q
  exact q
theorem ev_lenT {p : Addr} {xs : List V} (ha : Ev ta σ H (.ref p)) (h : SqT K H p xs) : Ev (tCB (rLenS K) (tCons ta tNil)) σ H (.int (xs.length : Int)) := fun H1 e Q q =>
  ha H1 e _ fun H2 e2 => ⟨p, xs, rfl, Or.inr (ex_t (e.trans e2) h), q H2 e2⟩
/-- isinstance -/
theorem ev_isi {cn : String} {b : Bool} {tt : Value} (ha : Ev ta σ H x) (ty : ∀ H1, Ex H H1 → TyX K H1 x tt) (hk : PySem.W.kitOne K tt (.type cn) = some b) : Ev (tCB (rIsi K) (tCons ta (tCons (tC (.ty cn)) tNil))) σ H (.bl b) := fun H1 e Q q =>
  ha H1 e _ fun H2 e2 => ⟨x, .ty cn, tt, .type cn, b, rfl, ClsV.ty cn, ty H2 (e.trans e2), hk, q H2 e2⟩
/-- max, min of two, int of a bool, list(..), tuple(..) -/
def rMin2 : List V → Hp → VK → Prop := fun xs H Q => ∃ i j, xs = [.int i, .int j] ∧ Q (.int (if j < i then j else i)) H
theorem ev_min2 (ha : Ev ta σ H (.int i)) (hb : Ev tb σ H (.int j)) : Ev (tCB rMin2 (tCons ta (tCons tb tNil))) σ H (.int (if j < i then j else i)) := fun H1 e Q q =>
  ha H1 e _ fun H2 e2 => hb H2 (e.trans e2) _ fun H3 e3 => ⟨i, j, rfl, q H3 (e2.trans e3)⟩
def rInt1 : List V → Hp → VK → Prop := fun xs H Q => (∃ i, xs = [.int i] ∧ Q (.int i) H) ∨ ∃ k, xs = [.bl k] ∧ Q (.int (if k then 1 else 0)) H
theorem ev_intB {b : Bool} (ha : Ev ta σ H (.bl b)) : Ev (tCB rInt1 (tCons ta tNil)) σ H (.int (if b then 1 else 0)) := fun H1 e Q q => ha H1 e _ fun H2 e2 => .inr ⟨b, rfl, q H2 e2⟩
/-- sorted of a list made on the way -/
theorem el_sortedN {ns ms : List Int} (ha : EvL ta σ H (ns.map V.int)) (hm : ∀ ms', ms'.Perm ns → ms'.Pairwise (· ≤ ·) → ms' = ms) : EvL (tCB (rSortedI K) (tCons ta tNil)) σ H (ms.map V.int) := fun H1 e Q q =>
  ha H1 e _ fun p H2 hp e2 h2 => ⟨p, ns, rfl, sq_of h2, fun ms' l hP hO hl => by
    rw [hm ms' hP hO]
    exact q l _ (fresh_back e2 hl) (e2.trans (Ex.new hl)) upd_same⟩
theorem el_sortedL {p : Addr} {ns ms : List Int} (ha : Ev ta σ H (.ref p)) (hs : SqL K H p (ns.map V.int)) (hm : ∀ ms', ms'.Perm ns → ms'.Pairwise (· ≤ ·) → ms' = ms) : EvL (tCB (rSortedI K) (tCons ta tNil)) σ H (ms.map V.int) := fun H1 e Q q =>
  ha H1 e _ fun H2 e2 => ⟨p, ns, rfl, ex_l (e.trans e2) hs, fun ms' l hP hO hl => by
    rw [hm ms' hP hO]
    exact q l _ (fresh_back e2 hl) (e2.trans (Ex.new hl)) upd_same⟩
end

/-! ### promises -/
theorem spv {sp : Sp} {vs : List V} {H : Hp} {z : V} (h : ∀ H1, Ex H H1 → ∀ Q : VK, (∀ H2, Ex H1 H2 → Q z H2) → ∀ E : XK, sp vs H1 Q E) : SpV sp vs H z := h
theorem ev_callD {sp : Sp} {vs : List V} {E : XK} {ta : TA} {σ : L2.St} {H : Hp} {z : V} (h : EvA ta σ H vs) (hs : SpV sp vs H z) : Ev (tCall sp [] E ta) σ H z := ev_call h (by rw [List.append_nil]; exact hs)
theorem el_callD {sp : Sp} {vs xs : List V} {E : XK} {ta : TA} {σ : L2.St} {H : Hp} (h : EvA ta σ H vs) (hs : SpL sp vs H xs) : EvL (tCall sp [] E ta) σ H xs := el_call h (by rw [List.append_nil]; exact hs)
/-- a new list that keeps a word -/
def EvLP (te : TE) (σ : L2.St) (H : Hp) (P : List V → Prop) : Prop := ∀ H1, Ex H H1 → ∀ Q : VK, (∀ xs p H2, P xs → H1 p = none → Ex H1 H2 → H2 p = some (.lst xs) → Q (.ref p) H2) → te σ H1 Q
def SpLP (sp : Sp) (vs : List V) (H : Hp) (P : List V → Prop) : Prop := ∀ H1, Ex H H1 → ∀ Q : VK, (∀ xs p H2, P xs → H1 p = none → Ex H1 H2 → H2 p = some (.lst xs) → Q (.ref p) H2) → ∀ E : XK, sp vs H1 Q E
theorem elp_call {sp : Sp} {vs : List V} {E : XK} {ta : TA} {σ : L2.St} {H : Hp} {P : List V → Prop} (h : EvA ta σ H vs) (hs : SpLP sp vs H P) : EvLP (tCall sp [] E ta) σ H P := fun H1 e Q q =>
  h H1 e _ fun H2 e2 => by
    rw [List.append_nil]
    exact hs H2 (e.trans e2) Q (fun xs p H3 hP hp e3 h3 => q xs p H3 hP (fresh_back e2 hp) (e2.trans e3) h3) E
theorem EvLP.mono {te : TE} {σ : L2.St} {H H' : Hp} {P : List V → Prop} (e : Ex H H') (h : EvLP te σ H P) : EvLP te σ H' P := fun H1 a Q q => h H1 (e.trans a) Q q
theorem g_asgP {te : TE} {σ : L2.St} {H : Hp} {P : List V → Prop} {i : Nat} {D : Ends} {tz : TS} (h : EvLP te σ H P) (k : ∀ xs p H1, P xs → H p = none → Ex H H1 → H1 p = some (.lst xs) → Go tz D (σ.set i (some (.ref p))) H1) :
    Go (tSeq (tAsg te (gName i)) tz) D σ H := fun H1 e => h H1 e _ fun xs p H2 hP hp e2 h2 => (k xs p H2 hP (fresh_back e hp) (e.trans e2) h2).here
/-- the promise's shape: a list that keeps a word -/
def RetP (P : List V → Prop) (H : Hp) (Q : VK) : Prop := ∀ xs p H2, P xs → H p = none → Ex H H2 → H2 p = some (.lst xs) → Q (.ref p) H2

/-! ### loops -/
section
variable {K : PySem.W.Frag} {σ : L2.St} {H : Hp} {te tl : TE} {ta : TA} {D : Ends} {tu tz : TS} {g : TG}
/-- for j in range(n): the word Pv of the turn, the slots, the heap -/
theorem g_forR1 {j : Nat} {n : Int} (h : EvA ta σ H [.int n]) (hn : n ≤ 100000) (Pv : Nat → L2.St → Hp → Prop) (h0 : ∀ H1, Ex H H1 → Pv 0 σ H1)
    (hs : ∀ (i : Nat) σ' H', (i : Int) < n → Pv i σ' H' → Go tu { D with nx := Pv (i + 1), ct := Pv (i + 1), bk := tz D } (σ'.set j (some (.int (i : Int)))) H') (hd : ∀ σ' H', Pv n.toNat σ' H' → Go tz D σ' H') (hlo : -100000 ≤ n) : Go (tSeq (tFor (iRng1 ta) (gName j) tu) tz) D σ H := fun H0 e0 =>
  h H0 e0 _ fun H1 e => ⟨n, rfl, by omega, by omega, for_range (lo := 0) (n := n.toNat) Pv (h0 H1 (e0.trans e)) (fun i σ' H' hi p => by
    have e0 : (0 : Int) + (i : Int) = (i : Int) := Int.zero_add _
    show tu { D with nx := Pv (i + 1), ct := Pv (i + 1), bk := tz D } (σ'.set j (some (.int ((0 : Int) + (i : Int))))) H'
    rw [e0]
    exact (hs i σ' H' (by omega) p).here) (fun σ' H' p => (hd σ' H' p).here)⟩
theorem g_forR2 {j : Nat} {lo n : Int} (h : EvA ta σ H [.int lo, .int n]) (hn : -100000 ≤ lo ∧ lo ≤ 100000 ∧ -100000 ≤ n ∧ n ≤ 100000) (Pv : Nat → L2.St → Hp → Prop) (h0 : ∀ H1, Ex H H1 → Pv 0 σ H1)
    (hs : ∀ (i : Nat) σ' H', lo + (i : Int) < n → Pv i σ' H' → Go tu { D with nx := Pv (i + 1), ct := Pv (i + 1), bk := tz D } (σ'.set j (some (.int (lo + (i : Int))))) H') (hd : ∀ σ' H', Pv (n - lo).toNat σ' H' → Go tz D σ' H') : Go (tSeq (tFor (iRng2 ta) (gName j) tu) tz) D σ H := fun H0 e0 =>
  h H0 e0 _ fun H1 e => ⟨lo, n, rfl, ⟨by omega, by omega, by omega, by omega⟩, for_range (lo := lo) (n := (n - lo).toNat) Pv (h0 H1 (e0.trans e)) (fun i σ' H' hi p => (hs i σ' H' (by omega) p).here) (fun σ' H' p => (hd σ' H' p).here)⟩
theorem rangeSize_two {a b : Int} : Builtin.Range.rangeSize a b 2 = (((b - a + 1) / 2).toNat : Nat) := by
  unfold Builtin.Range.rangeSize
  split <;> split <;> omega
theorem small_two {a b : Int} (ha : -100000 ≤ a) (ha' : a ≤ 100000) (hb : -100000 ≤ b) (hb' : b ≤ 100000) : Builtin.Range.small a b 2 = true := by
  unfold Builtin.Range.small
  rw [rangeSize_two]
  simp only [Builtin.Range.rangeFitsLong, Bool.and_eq_true, Bool.or_eq_true, decide_eq_true_eq, beq_iff_eq, show (2 : Int) > 0 by decide, if_true]
  omega
/-- for j in range(lo, n, 2) -/
theorem g_forR3 {j : Nat} {lo n : Int} (h : EvA ta σ H [.int lo, .int n, .int 2]) (hn : -100000 ≤ lo ∧ lo ≤ 100000 ∧ -100000 ≤ n ∧ n ≤ 100000) (Pv : Nat → L2.St → Hp → Prop) (h0 : ∀ H1, Ex H H1 → Pv 0 σ H1)
    (hs : ∀ (i : Nat) σ' H', lo + (i : Int) * 2 < n → Pv i σ' H' → Go tu { D with nx := Pv (i + 1), ct := Pv (i + 1), bk := tz D } (σ'.set j (some (.int (lo + (i : Int) * 2)))) H') (hd : ∀ σ' H', Pv ((n - lo + 1) / 2).toNat σ' H' → Go tz D σ' H') : Go (tSeq (tFor (iRng3 ta) (gName j) tu) tz) D σ H := fun H0 e0 =>
  h H0 e0 _ fun H1 e => ⟨lo, n, 2, ((n - lo + 1) / 2).toNat, rfl, ⟨by decide, by decide, small_two hn.1 hn.2.1 hn.2.2.1 hn.2.2.2, rangeSize_two⟩, for_rangeC (lo := lo) (c := 2) (n := ((n - lo + 1) / 2).toNat) Pv (h0 H1 (e0.trans e)) (fun i σ' H' hi p => (hs i σ' H' (by omega) p).here) (fun σ' H' p => (hd σ' H' p).here)⟩
/-- for over a list that stands -/
theorem g_forL {j : Nat} {a : Addr} {xs : List V} (h : Ev tl σ H (.ref a)) (hx : SqL K H a xs) (Pv : Nat → L2.St → Hp → Prop) (h0 : ∀ H1, Ex H H1 → Pv 0 σ H1) (hl : ∀ i σ' H', i ≤ xs.length → Pv i σ' H' → SqL K H' a xs)
    (hs : ∀ (i : Nat) x σ' H', xs[i]? = some x → Pv i σ' H' → Go tu { D with nx := Pv (i + 1), ct := Pv (i + 1), bk := tz D } (σ'.set j (some x)) H') (hd : ∀ σ' H', Pv xs.length σ' H' → Go tz D σ' H') : Go (tSeq (tFor (iList K tl) (gName j) tu) tz) D σ H := fun H0 e0 =>
  h H0 e0 _ fun H1 e => ⟨a, rfl, ⟨xs, ex_l (e0.trans e) hx⟩, for_list Pv (h0 H1 (e0.trans e)) hl (fun i x σ' H' hi p => (hs i x σ' H' hi p).here) (fun σ' H' p => (hd σ' H' p).here)⟩
/-- for over a list made in the head -/
theorem g_forN {j : Nat} {xs : List V} (h : EvL tl σ H xs) (Pv : Addr → Nat → L2.St → Hp → Prop) (h0 : ∀ p H1, H p = none → Ex H H1 → H1 p = some (.lst xs) → Pv p 0 σ H1) (hl : ∀ p i σ' H', i ≤ xs.length → Pv p i σ' H' → SqL K H' p xs)
    (hs : ∀ p (i : Nat) x σ' H', xs[i]? = some x → Pv p i σ' H' → Go tu { D with nx := Pv p (i + 1), ct := Pv p (i + 1), bk := tz D } (σ'.set j (some x)) H') (hd : ∀ p σ' H', Pv p xs.length σ' H' → Go tz D σ' H') : Go (tSeq (tFor (iList K tl) (gName j) tu) tz) D σ H := fun H0 e0 =>
  h H0 e0 _ fun p H1 hp e h1 => ⟨p, rfl, ⟨xs, sq_of h1⟩, for_list (Pv p) (h0 p H1 (fresh_back e0 hp) (e0.trans e) h1) (hl p) (fun i x σ' H' hi pv => (hs p i x σ' H' hi pv).here) (fun σ' H' pv => (hd p σ' H' pv).here)⟩
/-- for i, x in enumerate(list) -/
theorem g_forE {j k : Nat} {a : Addr} {xs : List V} (h : EvA ta σ H [.ref a]) (hx : SqL K H a xs) (Pv : Nat → L2.St → Hp → Prop) (h0 : ∀ H1, Ex H H1 → Pv 0 σ H1) (hl : ∀ i σ' H', i ≤ xs.length → Pv i σ' H' → SqL K H' a xs)
    (hs : ∀ (i : Nat) x T σ' H', xs[i]? = some x → Pv i σ' H' → H' T = none → Go tu { D with nx := Pv (i + 1), ct := Pv (i + 1), bk := tz D } ((σ'.set j (some (.int (i : Int)))).set k (some x)) (upd H' T (.tup [.int (i : Int), x]))) (hd : ∀ σ' H', Pv xs.length σ' H' → Go tz D σ' H') :
    Go (tSeq (tFor (iEnum K ta) (gTup K 2 (gCons (gName j) (gCons (gName k) gNil))) tu) tz) D σ H := fun H0 e0 =>
  h H0 e0 _ fun H1 e => ⟨a, xs, rfl, ex_l (e0.trans e) hx, for_it walk_enum Pv (h0 H1 (e0.trans e)) hl (fun i x σ' H' H'' hi p y => by
    obtain ⟨T, u, w, rfl, hT, rfl, h4, h5⟩ := y
    cases h4
    exact ⟨T, [.int (i : Int), w], rfl, .inl (.inl upd_same), rfl, .int (i : Int), [w], rfl, w, [], rfl, rfl, (hs i w T σ' H' h5 p hT).here⟩) (fun σ' H' p => (hd σ' H' p).here)⟩
end

/-! ### writing a list of one's own -/
section
variable {K : PySem.W.Frag} {σ : L2.St} {H : Hp} {ta tb te : TE} {D : Ends} {tz : TS} {v : V}
theorem g_setL {l : Addr} {xs : List V} {j : Int} (hl : H l = some (.lst xs)) (h : Ev te σ H v) (ho : Ev ta σ H (.ref l)) (hi : Ev tb σ H (.int j)) (h0 : 0 ≤ j) (hj : j < (xs.length : Int)) (k : ∀ H1, Ex H H1 → tz D σ (upd H1 l (.lst (xs.set j.toNat v)))) :
    Go (tSeq (tAsg te (gSub ta tb rSetL)) tz) D σ H := fun H1 e1 => by
  have e : j = (j.toNat : Int) := by omega
  rw [e] at hi
  exact q_setL (e1 l _ hl) (h.mono e1) (ho.mono e1) (hi.mono e1) (by omega) fun H2 e2 => k H2 (e1.trans e2)
theorem g_app {l : Addr} {xs : List V} (hl : H l = some (.lst xs)) (ha : Ev ta σ H (.ref l)) (h : Ev te σ H v) (hz : xs.length < 100000) (k : ∀ H1, Ex H H1 → tz D σ (upd H1 l (.lst (xs ++ [v])))) :
    Go (tSeq (tDrop (tBM K "list" rAppend ta (tCons te tNil))) tz) D σ H := fun H1 e1 => q_app (e1 l _ hl) (ha.mono e1) (h.mono e1) hz fun H2 e2 => k H2 (e1.trans e2)
theorem g_appL {l : Addr} {xs ys : List V} (hl : H l = some (.lst xs)) (ha : Ev ta σ H (.ref l)) (h : EvL te σ H ys) (hz : xs.length < 100000) (k : ∀ p H1, H p = none → Ex H H1 → H1 p = some (.lst ys) → tz D σ (upd H1 l (.lst (xs ++ [.ref p])))) :
    Go (tSeq (tDrop (tBM K "list" rAppend ta (tCons te tNil))) tz) D σ H := fun H1 e1 => q_appL (e1 l _ hl) (ha.mono e1) (h.mono e1) hz fun p H2 hp e2 h2 => k p H2 (fresh_back e1 hp) (e1.trans e2) h2
end

/-! ### rules of one's own -/
open PyProof.Rows in
/-- an int is not True, is not False -/
def rNotIB : R2 := fun x y H Q => ∃ (i : Int) (b : Bool), x = .int i ∧ y = .bl b ∧ Q (.bl true) H
theorem op_notIB {X : Cx} : OpR X (compareOp .IsNot) rNotIB := by
  intro pins s σ H x y v u Q I rx ry h
  obtain ⟨i, b, rfl, rfl, q⟩ := h
  obtain ⟨t, rfl⟩ := (show ∃ t, v = Value.int i t from rx)
  obtain rfl := (show u = Value.bool b from ry)
  exact wpAny_isNot_other rfl (fun z => nomatch z) ⟨.bl true, H, I, rfl, q⟩
def rJoin (K : PySem.W.Frag) : V → List V → Hp → VK → Prop := fun x xs H Q => ∃ a p, ∃ ys : List Str, x = .str a ∧ xs = [.ref p] ∧ (SqL K H p (ys.map V.str) ∨ SqT K H p (ys.map V.str)) ∧
    (ys.map (·.length)).sum + ys.length * a.length ≤ 16777216 ∧ Q (.str (Txt.join a ys)) H
def rAbs : List V → Hp → VK → Prop := fun xs H Q => ∃ i, xs = [.int i] ∧ Q (.int (if i < 0 then -i else i)) H
def rTupS (K : PySem.W.Frag) : List V → Hp → VK → Prop := fun xs H Q => ∃ p ys, xs = [.ref p] ∧ ((SqL K H p ys ∧ ∀ l, H l = none → Q (.ref l) (upd H l (.tup ys))) ∨ (SqT K H p ys ∧ Q (.ref p) H))
def rCatS : R2 := fun x y H Q => ∃ i j, x = .str i ∧ y = .str j ∧ i.length + j.length ≤ sizeLine ∧ Q (.str (i ++ j)) H
section
variable {K : PySem.W.Frag} {σ : L2.St} {H H' : Hp} {ta tb te : TE} {i : Int} {b : Bool} {p : Addr}
theorem ev_notIB (ha : Ev ta σ H (.int i)) (hb : Ev tb σ H (.bl b)) : Ev (tOp rNotIB ta tb) σ H (.bl true) := ev_op ha hb fun H1 _ _ q => ⟨i, b, rfl, rfl, q H1 (Ex.refl H1)⟩
theorem dp_ints {K : PySem.W.Frag} {H : Hp} : ∀ ns : List Int, DpAll K H (ns.map V.int) (ns.map PyData.int)
  | [] => .nil
  | n :: r => .cons (.int n) (dp_ints r)
theorem eqv_ints : ∀ ns ms : List Int, PyData.eqvAll (ns.map PyData.int) (ms.map PyData.int) = decide (ns = ms)
  | [], [] => rfl
  | [], _ :: _ => rfl
  | _ :: _, [] => rfl
  | n :: r, m :: s => by
    show ((n == m) && PyData.eqvAll (r.map PyData.int) (s.map PyData.int)) = decide (n :: r = m :: s)
    rw [eqv_ints r s]
    by_cases h : n = m
    · subst h
      by_cases h2 : r = s
      · subst h2; simp
      · simp [h2]
    · simp [h]
/-- == of two lists of ints -/
theorem rv_eqL {a b : Addr} {ns ms : List Int} (h1 : SqL K H a (ns.map V.int)) (h2 : SqL K H b (ms.map V.int)) : RV (rEqD K) (.ref a) (.ref b) H (.bl (decide (ns = ms))) := fun H1 e _ q =>
  ⟨.list (ns.map PyData.int), .list (ms.map PyData.int), .lst (ex_l e h1) (dp_ints ns), .lst (ex_l e h2) (dp_ints ms), PySem.W.ke_shaped_ints ns, PySem.W.ke_shaped_ints ms, by
    rw [show PyData.eqv (.list (ns.map PyData.int)) (.list (ms.map PyData.int)) = decide (ns = ms) from eqv_ints ns ms]
    exact q H1 (Ex.refl H1)⟩
theorem rv_neL {a b : Addr} {ns ms : List Int} (h1 : SqL K H a (ns.map V.int)) (h2 : SqL K H b (ms.map V.int)) : RV (rNeD K) (.ref a) (.ref b) H (.bl (!decide (ns = ms))) := fun H1 e _ q =>
  ⟨.list (ns.map PyData.int), .list (ms.map PyData.int), .lst (ex_l e h1) (dp_ints ns), .lst (ex_l e h2) (dp_ints ms), PySem.W.ke_shaped_ints ns, PySem.W.ke_shaped_ints ms, by
    rw [show PyData.eqv (.list (ns.map PyData.int)) (.list (ms.map PyData.int)) = decide (ns = ms) from eqv_ints ns ms]
    exact q H1 (Ex.refl H1)⟩
theorem ev_eqL {a b : Addr} {ns ms : List Int} (ha : Ev ta σ H (.ref a)) (hb : Ev tb σ H (.ref b)) (h1 : SqL K H a (ns.map V.int)) (h2 : SqL K H b (ms.map V.int)) : Ev (tOp (rEqD K) ta tb) σ H (.bl (decide (ns = ms))) := ev_op ha hb (rv_eqL h1 h2)
theorem ev_neL {a b : Addr} {ns ms : List Int} (ha : Ev ta σ H (.ref a)) (hb : Ev tb σ H (.ref b)) (h1 : SqL K H a (ns.map V.int)) (h2 : SqL K H b (ms.map V.int)) : Ev (tOp (rNeD K) ta tb) σ H (.bl (!decide (ns = ms))) := ev_op ha hb (rv_neL h1 h2)
/-- xs != [] -/
theorem ev_neNil {a : Addr} {ns : List Int} (ha : Ev ta σ H (.ref a)) (h1 : SqL K H a (ns.map V.int)) : Ev (tOp (rNeD K) ta (tLst tNil)) σ H (.bl (!decide (ns = []))) :=
  ev_opL (xs := ([] : List Int).map V.int) ha (el_lst ea_nil (Nat.zero_le _)) fun q H1 hq e => rv_neL (ex_l e h1) (sq_of hq)
theorem ev_eqNil {a : Addr} {ns : List Int} (ha : Ev ta σ H (.ref a)) (h1 : SqL K H a (ns.map V.int)) : Ev (tOp (rEqD K) ta (tLst tNil)) σ H (.bl (decide (ns = []))) :=
  ev_opL (xs := ([] : List Int).map V.int) ha (el_lst ea_nil (Nat.zero_le _)) fun q H1 hq e => rv_eqL (ex_l e h1) (sq_of hq)
/-- signs joined -/
def txt (l : List Nat) : Str := ⟨l.toArray⟩
theorem txt_len (l : List Nat) : (txt l).length = l.length := by simp [txt, Str.length]
theorem joinL_one : ∀ l : List Nat, TL.joinL [] (l.map fun c => [c]) = l
  | [] => rfl
  | [_] => rfl
  | a :: b :: r => by
    show [a] ++ ([] ++ TL.joinL [] ((b :: r).map fun c => [c])) = a :: b :: r
    rw [joinL_one (b :: r)]
    rfl
theorem join_txt (l : List Nat) : Txt.join "" (l.map fun c => (⟨#[c]⟩ : Str)) = txt l := by
  rw [TL.join_eq]
  have h : TL.tl (Str.join "" (l.map fun c => (⟨#[c]⟩ : Str))) = l := by
    rw [TL.tl_join]
    have e : (l.map fun c => (⟨#[c]⟩ : Str)).map TL.tl = l.map fun c => [c] := by
      rw [List.map_map]
      rfl
    rw [e]
    exact joinL_one l
  have h2 : (Str.join "" (l.map fun c => (⟨#[c]⟩ : Str))) = ⟨(TL.tl (Str.join "" (l.map fun c => (⟨#[c]⟩ : Str)))).toArray⟩ := rfl
  rw [h2, h]
  rfl
theorem sum_one : ∀ l : List Nat, ((l.map fun c => (⟨#[c]⟩ : Str)).map (·.length)).sum = l.length
  | [] => rfl
  | a :: r => by
    show 1 + ((r.map fun c => (⟨#[c]⟩ : Str)).map (·.length)).sum = r.length + 1
    rw [sum_one r]
    omega
/-- "".join(signs) -/
theorem ev_join {l : List Nat} (hc : Ev tb σ H (.ref p)) (hp : SqL K H p ((l.map fun c => (⟨#[c]⟩ : Str)).map V.str)) (hz : l.length ≤ 100000) : Ev (tBM K "str" (rJoin K) (tC (.str "")) (tCons tb tNil)) σ H (.str (txt l)) := fun H1 e Q q => by
  refine ⟨rfl, hc H1 e _ fun H2 e2 => ⟨"", p, l.map fun c => (⟨#[c]⟩ : Str), rfl, rfl, .inl (ex_l (e.trans e2) hp), ?_, ?_⟩⟩
  · rw [sum_one, show (("" : Str)).length = 0 from rfl]
    omega
  · rw [join_txt]
    exact q H2 e2
end
section
variable {K : PySem.W.Frag} {σ : L2.St} {H H' : Hp} {ta tb te : TE} {i : Int} {b : Bool} {p : Addr}
theorem ev_isiL {xs : List V} (ha : Ev ta σ H (.ref p)) (hp : H p = some (.lst xs)) : Ev (tCB (rIsi K) (tCons ta (tCons (tC (.ty "list")) tNil))) σ H (.bl true) :=
  ev_isi (tt := .type "list") ha (fun H1 e => .base (.lst (e p _ hp))) (kit_ty (by decide +kernel))
theorem ev_isiU {xs : List V} (ha : Ev ta σ H (.ref p)) (hp : H p = some (.tup xs)) : Ev (tCB (rIsi K) (tCons ta (tCons (tC (.ty "tuple")) tNil))) σ H (.bl true) :=
  ev_isi (tt := .type "tuple") ha (fun H1 e => .base (.tup (e p _ hp))) (kit_ty (by decide +kernel))
theorem ev_isiI (ha : Ev ta σ H (.int i)) : Ev (tCB (rIsi K) (tCons ta (tCons (tC (.ty "int")) tNil))) σ H (.bl true) := ev_isi (tt := .type "int") ha (fun H1 e => .base (.int i)) (kit_ty (by decide +kernel))
theorem ev_isiS {z : Str} (ha : Ev ta σ H (.str z)) : Ev (tCB (rIsi K) (tCons ta (tCons (tC (.ty "str")) tNil))) σ H (.bl true) := ev_isi (tt := .type "str") ha (fun H1 e => .base (.str z)) (kit_ty (by decide +kernel))
theorem ev_isiB (ha : Ev ta σ H (.bl b)) : Ev (tCB (rIsi K) (tCons ta (tCons (tC (.ty "bool")) tNil))) σ H (.bl true) := ev_isi (tt := .type "bool") ha (fun H1 e => .base (.bl b)) (kit_ty (by decide +kernel))
theorem atI_txt {l : List Nat} (h0 : 0 ≤ i) (h1 : i < (l.length : Int)) : atI (txt l).cps.toList i = some (l.getD i.toNat 0) := by
  have h2 : i.toNat < l.length := by omega
  have e : (txt l).cps.toList = l := by simp [txt]
  rw [e]
  have e2 : i = ((i.toNat : Nat) : Int) := by omega
  rw [e2]
  refine atI_nat ?_
  rw [List.getD_eq_getElem?_getD, show ((i.toNat : Nat) : Int).toNat = i.toNat from rfl, List.getElem?_eq_getElem h2]
  rfl
/-- a sign of a text -/
theorem ev_ixTxt {l : List Nat} (ha : Ev ta σ H (.str (txt l))) (hb : Ev tb σ H (.int i)) (h0 : 0 ≤ i) (h1 : i < (l.length : Int)) (hz : l.length ≤ 100000) : Ev (tOp rIxS ta tb) σ H (.str ⟨#[l.getD i.toNat 0]⟩) :=
  ev_op ha hb (rv_ixS (by rw [txt_len]; exact hz) (atI_txt h0 h1))
/-- one of two written texts -/
theorem ev_ix2 {x y : Str} (hb : Ev tb σ H (.int (if b = true then 1 else 0))) : Ev (tOp (rIxL K) (tLst (tCons (tC (.str x)) (tCons (tC (.str y)) tNil))) tb) σ H (.str (if b = true then y else x)) :=
  ev_ixNew (xs := [.str x, .str y]) (el_lst (ea_cons ev_c (ea_cons ev_c ea_nil)) (Nat.le_of_ble_eq_true rfl)) hb (by cases b <;> rfl)
theorem ev_lenTxt {l : List Nat} (ha : Ev ta σ H (.str (txt l))) (hz : l.length ≤ 100000) : Ev (tCB rLenT (tCons ta tNil)) σ H (.int (l.length : Int)) := by
  have h := ev_lenS ha (by rw [txt_len]; exact hz)
  rw [txt_len] at h
  exact h
theorem sg_V : (Str.ofString "V") = (⟨#[86]⟩ : Str) := by decide +kernel
theorem sg_M : (Str.ofString "M") = (⟨#[77]⟩ : Str) := by decide +kernel
end
/-- the classes of the program, by their addresses; the sizes that the law draws of -/
structure Cs where
  np : Addr
  nc : Addr
  nl : Addr
  nn : Addr
  st : Addr
  cr : Addr
  se : Addr
  be : Addr
  tb : Addr
  sz : List Int
theorem passE {P : Program} {w : World} {K : PySem.W.Frag} {mg : Str → Option Value} {base : Heap} {N : List Str} {q : Str} {sc : Scope} {f : Addr} {cd : Value} {A : Around} {o : List Env} {s : Shared} {H : Hp} {E : XK} :
    Passes (L2.CX P w) (cxOf (L2.CX P w) P w K mg base N q sc f cd A o s H E) E := passes_call (takes_of rfl rfl rfl rfl) fun _ _ _ _ h => h
end Fo
/-! FoldM -/
namespace Fo
open PySem L2 Evl

/-! ### lists of ints by place -/
theorem gi_nat (ns : List Int) (k : Nat) : gi ns (k : Int) = ns.getD k 0 := rfl
theorem gi_get {ns : List Int} {k : Nat} (h : k < ns.length) : ns[k]? = some (gi ns (k : Int)) := by
  rw [gi_nat, List.getD_eq_getElem?_getD, List.getElem?_eq_getElem h]
  rfl
theorem gi_getI {ns : List Int} {i : Int} (h0 : 0 ≤ i) (h : i < (ns.length : Int)) : ns[i.toNat]? = some (gi ns i) := by
  have h2 : i.toNat < ns.length := by omega
  have e : i = ((i.toNat : Nat) : Int) := by omega
  rw [gi_get h2, ← e]
theorem gi_mem {ns : List Int} {i : Int} (h0 : 0 ≤ i) (h : i < (ns.length : Int)) : gi ns i ∈ ns := List.mem_of_getElem? (gi_getI h0 h)
theorem mem_gi {ns : List Int} {x : Int} (h : x ∈ ns) : ∃ k : Nat, k < ns.length ∧ gi ns (k : Int) = x := by
  obtain ⟨k, hk, e⟩ := List.mem_iff_getElem.mp h
  refine ⟨k, hk, ?_⟩
  have q := gi_get hk
  rw [List.getElem?_eq_getElem hk, e] at q
  exact (Option.some.inj q).symm
theorem gi_ext {xs ys : List Int} (hl : xs.length = ys.length) (h : ∀ k : Nat, k < xs.length → gi xs (k : Int) = gi ys (k : Int)) : xs = ys := by
  refine List.ext_getElem? fun k => ?_
  by_cases hk : k < xs.length
  · rw [gi_get hk, gi_get (by omega), h k hk]
  · rw [List.getElem?_eq_none (by omega), List.getElem?_eq_none (by omega)]
theorem gi_mapR {n : Nat} (f : Nat → Int) {k : Nat} (h : k < n) : gi ((List.range n).map f) (k : Int) = f k := by
  refine gi_of ?_
  rw [List.getElem?_map, List.getElem?_range h]
  rfl
theorem gi_set {xs : List Int} {j k : Nat} {y : Int} (hj : j < xs.length) : gi (xs.set j y) (k : Int) = if k = j then y else gi xs (k : Int) := by
  rw [gi_nat, gi_nat, List.getD_eq_getElem?_getD, List.getD_eq_getElem?_getD, List.getElem?_set]
  by_cases h : k = j
  · subst h
    rw [if_pos rfl, if_pos rfl, if_pos hj]
    rfl
  · rw [if_neg (fun e => h e.symm), if_neg h]

/-! ### many numbers below a bound -/
theorem php : ∀ (n : Nat) (l : List Int), l.Nodup → (∀ x ∈ l, 0 ≤ x ∧ x < (n : Int)) → l.length ≤ n
  | 0, l, _, h => by
    cases l with
    | nil => exact Nat.le_refl _
    | cons x r => have := h x List.mem_cons_self; omega
  | n + 1, l, nd, h => by
    have h1 : (l.erase (n : Int)).length ≤ n := php n _ (nd.erase _) fun x hx => by
      have hm := (nd.mem_erase_iff).mp hx
      have := h x hm.2
      have h2 := hm.1
      omega
    by_cases hm : (n : Int) ∈ l
    · rw [List.length_erase_of_mem hm] at h1
      omega
    · rw [List.erase_of_not_mem hm] at h1
      omega

/-! ### piles -/
structure IsPile (ns : List Int) : Prop where
  pos : 0 < ns.length
  bnd : ∀ x ∈ ns, 0 ≤ x ∧ x < (ns.length : Int)
  nd : ns.Nodup
instance (ns : List Int) : Decidable (IsPile ns) :=
  if h : 0 < ns.length ∧ (∀ x ∈ ns, 0 ≤ x ∧ x < (ns.length : Int)) ∧ ns.Nodup then isTrue ⟨h.1, h.2.1, h.2.2⟩ else isFalse fun p => h ⟨p.pos, p.bnd, p.nd⟩
theorem IsPile.all {ns : List Int} (p : IsPile ns) {s : Int} (h0 : 0 ≤ s) (h1 : s < (ns.length : Int)) : s ∈ ns := by
  by_cases h : s ∈ ns
  · exact h
  · have q := php ns.length (s :: ns) (List.nodup_cons.mpr ⟨h, p.nd⟩) fun x hx => by
      rcases List.mem_cons.mp hx with rfl | hx
      · exact ⟨h0, h1⟩
      · exact p.bnd x hx
    rw [List.length_cons] at q
    omega
/-- the place of each stamp -/
def pl (ns : List Int) : List Int := (List.range ns.length).map fun (s : Nat) => ((ns.idxOf (s : Int) : Nat) : Int)
theorem pl_len (ns : List Int) : (pl ns).length = ns.length := by simp [pl]
theorem pl_at {ns : List Int} {s : Nat} (h : s < ns.length) : gi (pl ns) (s : Int) = ((ns.idxOf (s : Int) : Nat) : Int) := gi_mapR _ h
theorem idx_lt {ns : List Int} {x : Int} (h : x ∈ ns) : ns.idxOf x < ns.length := List.idxOf_lt_length_iff.mpr h
theorem idx_gi {ns : List Int} {x : Int} (h : x ∈ ns) : gi ns ((ns.idxOf x : Nat) : Int) = x := by
  refine gi_of ?_
  rw [List.getElem?_eq_getElem (idx_lt h), List.getElem_idxOf]
theorem nd_inj {ns : List Int} (nd : ns.Nodup) {j k : Nat} (hj : j < ns.length) (hk : k < ns.length) (e : gi ns (j : Int) = gi ns (k : Int)) : j = k := by
  have a := gi_get hj
  have b := gi_get hk
  rw [e] at a
  exact nd_ix nd a b
theorem gi_idx {ns : List Int} (nd : ns.Nodup) {k : Nat} (h : k < ns.length) : ns.idxOf (gi ns (k : Int)) = k := by
  have hm : gi ns (k : Int) ∈ ns := gi_mem (by omega) (by omega)
  exact nd_inj nd (idx_lt hm) h (idx_gi hm)
theorem IsPile.at (p : IsPile ns) {s : Int} (h0 : 0 ≤ s) (h1 : s < (ns.length : Int)) : 0 ≤ gi (pl ns) s ∧ gi (pl ns) s < (ns.length : Int) ∧ gi ns (gi (pl ns) s) = s := by
  obtain ⟨k, rfl⟩ : ∃ k : Nat, s = (k : Int) := ⟨s.toNat, by omega⟩
  have hm := p.all h0 h1
  have hl := idx_lt hm
  rw [pl_at (by omega)]
  exact ⟨by omega, by omega, idx_gi hm⟩
theorem IsPile.st (p : IsPile ns) {k : Int} (h0 : 0 ≤ k) (h1 : k < (ns.length : Int)) : 0 ≤ gi ns k ∧ gi ns k < (ns.length : Int) ∧ gi (pl ns) (gi ns k) = k := by
  have hb := p.bnd _ (gi_mem h0 h1)
  refine ⟨hb.1, hb.2, ?_⟩
  obtain ⟨j, e⟩ : ∃ j : Nat, gi ns k = (j : Int) := ⟨(gi ns k).toNat, by omega⟩
  rw [e, pl_at (by omega), ← e]
  obtain ⟨i, rfl⟩ : ∃ i : Nat, k = (i : Int) := ⟨k.toNat, by omega⟩
  rw [gi_idx p.nd (by omega)]
theorem IsPile.ne (p : IsPile ns) {s t : Int} (h0 : 0 ≤ s) (h1 : s < (ns.length : Int)) (g0 : 0 ≤ t) (g1 : t < (ns.length : Int)) (h : s ≠ t) : gi (pl ns) s ≠ gi (pl ns) t := fun e => by
  have a := (p.at h0 h1).2.2
  rw [e, (p.at g0 g1).2.2] at a
  exact h a.symm

/-! ### the places as the program finds them: behind i stamps -/
def plD (d : Int) (ns : List Int) (i : Nat) : List Int := (List.range ns.length).map fun (s : Nat) => if ((s : Nat) : Int) ∈ ns.take i then ((ns.idxOf (s : Int) : Nat) : Int) else d
theorem plD_len (d : Int) (ns : List Int) (i : Nat) : (plD d ns i).length = ns.length := by simp [plD]
theorem plD_zero (d : Int) (ns : List Int) : plD d ns 0 = List.replicate ns.length d := by
  refine gi_ext (by simp [plD]) fun k hk => ?_
  rw [plD_len] at hk
  rw [plD, gi_mapR _ hk, if_neg (by simp), gi_nat, List.getD_eq_getElem?_getD, List.getElem?_replicate, if_pos hk]
  rfl
theorem plD_at {d : Int} {ns : List Int} {i : Nat} {s : Int} (h0 : 0 ≤ s) (h1 : s < (ns.length : Int)) : gi (plD d ns i) s = if s ∈ ns.take i then ((ns.idxOf s : Nat) : Int) else d := by
  obtain ⟨k, rfl⟩ : ∃ k : Nat, s = (k : Int) := ⟨s.toNat, by omega⟩
  exact gi_mapR _ (by omega)
abbrev plF (ns : List Int) (i : Nat) : List Int := plD (-1) ns i
theorem plF_len (ns : List Int) (i : Nat) : (plF ns i).length = ns.length := plD_len _ ns i
theorem plF_zero (ns : List Int) : plF ns 0 = List.replicate ns.length (-1) := plD_zero _ ns
theorem plF_neg {ns : List Int} {i : Nat} {s : Int} (h0 : 0 ≤ s) (h1 : s < (ns.length : Int)) : ¬ 0 ≤ gi (plF ns i) s ↔ s ∉ ns.take i := by
  rw [plD_at h0 h1]
  split
  · rename_i h
    exact ⟨fun q => absurd (by omega) q, fun q => absurd h q⟩
  · rename_i h
    exact ⟨fun _ => h, fun _ => by omega⟩
theorem take_more {α : Type} {l : List α} {i : Nat} {x : α} (h : l[i]? = some x) : l.take (i + 1) = l.take i ++ [x] := by
  rw [List.take_add_one, h]
  rfl
theorem plD_set {d : Int} {ns : List Int} {i : Nat} {x : Int} (hx : ns[i]? = some x) (h0 : 0 ≤ x) (h1 : x < (ns.length : Int)) (hn : x ∉ ns.take i) : (plD d ns i).set x.toNat (i : Int) = plD d ns (i + 1) := by
  have hi : i < ns.length := (List.getElem?_eq_some_iff.mp hx).1
  have hix : ns.idxOf x = i := by
    have hle : ns.idxOf x ≤ i := by
      by_cases h : ns.idxOf x ≤ i
      · exact h
      · have hm : x ∈ ns := List.mem_of_getElem? hx
        have e : ns.idxOf x = ns.findIdx (· == x) := rfl
        have q := List.not_of_lt_findIdx (p := (· == x)) (xs := ns) (i := i) (by rw [← e]; omega)
        have e2 : ns[i] = x := by
          have z := List.getElem?_eq_getElem hi
          rw [hx] at z
          exact (Option.some.inj z).symm
        rw [e2] at q
        simp at q
    have hm : x ∈ ns := List.mem_of_getElem? hx
    by_cases h : ns.idxOf x = i
    · exact h
    · refine absurd ?_ hn
      have hlt : ns.idxOf x < i := by omega
      have e := List.getElem?_take_of_lt (l := ns) hlt
      rw [List.getElem?_eq_getElem (idx_lt hm), List.getElem_idxOf] at e
      exact List.mem_of_getElem? e
  have hxn : x.toNat < (plD d ns i).length := by rw [plD_len]; omega
  refine gi_ext (by rw [List.length_set, plD_len, plD_len]) fun k hk => ?_
  rw [List.length_set, plD_len] at hk
  rw [gi_set hxn, plD_at (by omega) (by omega), plD_at (by omega) (by omega), take_more hx]
  by_cases h : k = x.toNat
  · have e : (k : Int) = x := by omega
    rw [if_pos h, e, if_pos (by simp), hix]
  · have e : (k : Int) ≠ x := by omega
    rw [if_neg h]
    by_cases h2 : (k : Int) ∈ ns.take i
    · rw [if_pos h2, if_pos (List.mem_append_left _ h2)]
    · rw [if_neg h2, if_neg (by
        intro z
        rcases List.mem_append.mp z with z | z
        · exact h2 z
        · exact e (List.mem_singleton.mp z))]
theorem plD_end {d : Int} {ns : List Int} (p : IsPile ns) : plD d ns ns.length = pl ns := by
  refine gi_ext (by rw [plD_len, pl_len]) fun k hk => ?_
  rw [plD_len] at hk
  rw [plD_at (by omega) (by omega), pl_at hk, List.take_length, if_pos (p.all (by omega) (by omega))]
theorem plF_set {ns : List Int} {i : Nat} {x : Int} (hx : ns[i]? = some x) (h0 : 0 ≤ x) (h1 : x < (ns.length : Int)) (hn : x ∉ ns.take i) : (plF ns i).set x.toNat (i : Int) = plF ns (i + 1) := plD_set hx h0 h1 hn
theorem plF_end {ns : List Int} (p : IsPile ns) : plF ns ns.length = pl ns := plD_end p
end Fo
/-! FoldM2 -/
namespace Fo
open PySem L2 Evl

/-! ### wrapping and crossing, by the places -/
def lo (x y : Int) : Int := if y < x then y else x
def hi (x y : Int) : Int := if y > x then y else x
def wrB (x y z : Int) : Bool := decide (lo x y < z) && decide (z < hi x y)
def wr (p : List Int) (c s : Int) : Bool := wrB (gi p c) (gi p (c + 1)) (gi p s)
theorem wrB_iff {x y z : Int} : wrB x y z = true ↔ (x < z ∧ z < y) ∨ (y < z ∧ z < x) := by
  unfold wrB lo hi
  rw [Bool.and_eq_true, decide_eq_true_eq, decide_eq_true_eq]
  split <;> split <;> omega
theorem sort2 {x y : Int} : ∀ ms' : List Int, ms'.Perm [x, y] → ms'.Pairwise (· ≤ ·) → ms' = [lo x y, hi x y] := by
  intro ms hp ho
  have hl := hp.length_eq
  match ms, hp, ho, hl with
  | [a, b], hp, ho, _ =>
    have hab : a ≤ b := by
      have := (List.pairwise_cons.mp ho).1 b (List.mem_singleton.mpr rfl)
      exact this
    have h1 : a = x ∨ a = y := by
      have := hp.mem_iff.mp (List.mem_cons_self (a := a) (l := [b]))
      simpa using this
    have h2 : x ∈ [a, b] := hp.mem_iff.mpr (by simp)
    have h3 : y ∈ [a, b] := hp.mem_iff.mpr (by simp)
    have h4 : b = x ∨ b = y := by
      have := hp.mem_iff.mp (show b ∈ [a, b] by simp)
      simpa using this
    simp only [List.mem_cons, List.not_mem_nil, or_false] at h2 h3
    have e1 : a = lo x y := by unfold lo; split <;> omega
    have e2 : b = hi x y := by unfold hi; split <;> omega
    rw [e1, e2]
/-- two creases on one side that cross, the lesser one first -/
structure XX (p : List Int) (i j : Int) : Prop where
  i0 : 0 ≤ i
  ij : i < j
  jn : j + 1 < (p.length : Int)
  even : (j - i) % 2 = 0
  ne : wr p i j ≠ wr p i (j + 1)
def NoX (p : List Int) : Prop := ∀ i j : Int, ¬ XX p i j
def noX (p : List Int) : Bool := (List.range p.length).all fun (i : Nat) => (List.range p.length).all fun (j : Nat) => !(decide (i < j) && decide (j + 1 < p.length) && decide (((j : Int) - (i : Int)) % 2 = 0) && (wr p (i : Int) (j : Int) != wr p (i : Int) ((j : Int) + 1)))
theorem noX_iff (p : List Int) : noX p = true ↔ NoX p := by
  unfold noX
  rw [List.all_eq_true]
  constructor
  · intro h i j x
    have hi : i.toNat < p.length := by have := x.ij; have := x.jn; have := x.i0; omega
    have hj : j.toNat < p.length := by have := x.ij; have := x.jn; have := x.i0; omega
    have q := List.all_eq_true.mp (h i.toNat (List.mem_range.mpr hi)) j.toNat (List.mem_range.mpr hj)
    have ei : ((i.toNat : Nat) : Int) = i := by have := x.i0; omega
    have ej : ((j.toNat : Nat) : Int) = j := by have := x.i0; have := x.ij; omega
    rw [ei, ej] at q
    have a1 : decide (i.toNat < j.toNat) = true := decide_eq_true (by have := x.ij; have := x.i0; omega)
    have a2 : decide (j.toNat + 1 < p.length) = true := decide_eq_true (by have := x.jn; omega)
    rw [a1, a2, decide_eq_true x.even, bne_iff_ne.mpr x.ne] at q
    exact Bool.noConfusion q
  · intro h i hi
    rw [List.all_eq_true]
    intro j hj
    rw [List.mem_range] at hi hj
    rw [Bool.not_eq_true', Bool.eq_false_iff]
    intro q
    simp only [Bool.and_eq_true, decide_eq_true_eq, bne_iff_ne] at q
    exact h (i : Int) (j : Int) ⟨by omega, by omega, by omega, q.1.2, q.2⟩
instance (p : List Int) : Decidable (NoX p) := decidable_of_iff _ (noX_iff p)

/-! ### the next stamp put in -/
theorem gi_app1 {xs ys : List Int} {k : Nat} (h : k < xs.length) : gi (xs ++ ys) (k : Int) = gi xs (k : Int) := by
  rw [gi_nat, gi_nat, List.getD_eq_getElem?_getD, List.getD_eq_getElem?_getD, List.getElem?_append_left h]
theorem gi_app2 {xs ys : List Int} {k : Nat} (h : xs.length ≤ k) : gi (xs ++ ys) (k : Int) = gi ys ((k - xs.length : Nat) : Int) := by
  rw [gi_nat, gi_nat, List.getD_eq_getElem?_getD, List.getD_eq_getElem?_getD, List.getElem?_append_right h]
theorem gi_cons0 (x : Int) (xs : List Int) : gi (x :: xs) 0 = x := rfl
theorem gi_consS (x : Int) (xs : List Int) (k : Nat) : gi (x :: xs) ((k + 1 : Nat) : Int) = gi xs (k : Int) := rfl
theorem gi_take {xs : List Int} {n k : Nat} (h : k < n) : gi (xs.take n) (k : Int) = gi xs (k : Int) := by
  rw [gi_nat, gi_nat, List.getD_eq_getElem?_getD, List.getD_eq_getElem?_getD, List.getElem?_take_of_lt h]
theorem gi_drop (xs : List Int) (n k : Nat) : gi (xs.drop n) (k : Int) = gi xs ((n + k : Nat) : Int) := by
  rw [gi_nat, gi_nat, List.getD_eq_getElem?_getD, List.getD_eq_getElem?_getD, List.getElem?_drop]
/-- so many stamps in any order -/
structure Per (i : Nat) (ps : List Int) : Prop where
  len : ps.length = i
  bnd : ∀ x ∈ ps, 0 ≤ x ∧ x < (i : Int)
  nd : ps.Nodup
theorem Per.pile {i : Nat} {ps : List Int} (h : Per i ps) (hi : 0 < i) : IsPile ps := ⟨by rw [h.len]; exact hi, fun x hx => by rw [h.len]; exact h.bnd x hx, h.nd⟩
theorem IsPile.per {ps : List Int} (h : IsPile ps) : Per ps.length ps := ⟨rfl, h.bnd, h.nd⟩
def put (ps : List Int) (g : Int) (x : Int) : List Int := ps.take g.toNat ++ [x] ++ ps.drop g.toNat
theorem put_perm (ps : List Int) (g x : Int) : (put ps g x).Perm (x :: ps) := by
  unfold put
  have h1 : (ps.take g.toNat ++ [x] ++ ps.drop g.toNat).Perm (x :: (ps.take g.toNat ++ ps.drop g.toNat)) := by
    rw [List.append_assoc]
    exact List.perm_middle
  rw [List.take_append_drop] at h1
  exact h1
theorem put_len (ps : List Int) (g x : Int) : (put ps g x).length = ps.length + 1 := by rw [(put_perm ps g x).length_eq, List.length_cons]
theorem Per.put {i : Nat} {ps : List Int} (h : Per i ps) (g : Int) : Per (i + 1) (put ps g (i : Int)) := by
  have hp := put_perm ps g (i : Int)
  refine ⟨by rw [put_len, h.len], fun x hx => ?_, hp.nodup_iff.mpr (List.nodup_cons.mpr ⟨fun hm => ?_, h.nd⟩)⟩
  · rcases List.mem_cons.mp (hp.mem_iff.mp hx) with rfl | hx
    · omega
    · have := h.bnd x hx
      omega
  · have := h.bnd _ hm
    omega
theorem put_map (ps : List Int) (g x : Int) : (ps.map V.int).take g.toNat ++ [V.int x] ++ (ps.map V.int).drop g.toNat = (put ps g x).map V.int := by
  unfold put
  rw [List.map_append, List.map_append, List.map_take, List.map_drop]
  rfl
theorem put_at {ps : List Int} {g x : Int} (g0 : 0 ≤ g) (g1 : g ≤ (ps.length : Int)) {k : Int} (k0 : 0 ≤ k) : gi (put ps g x) k = if k < g then gi ps k else if k = g then x else gi ps (k - 1) := by
  obtain ⟨m, rfl⟩ : ∃ m : Nat, g = (m : Int) := ⟨g.toNat, by omega⟩
  obtain ⟨j, rfl⟩ : ∃ j : Nat, k = (j : Int) := ⟨k.toNat, by omega⟩
  have hm : m ≤ ps.length := by omega
  have ht : (ps.take m).length = m := by rw [List.length_take]; omega
  unfold put
  rw [show ((m : Nat) : Int).toNat = m from rfl, List.append_assoc]
  by_cases h : j < m
  · rw [if_pos (by omega), gi_app1 (by omega), gi_take h]
  · rw [if_neg (by omega), gi_app2 (by omega), ht]
    by_cases h2 : j = m
    · subst h2
      rw [if_pos rfl, Nat.sub_self]
      rfl
    · rw [if_neg (by omega)]
      obtain ⟨d, hd⟩ : ∃ d, j - m = d + 1 := ⟨j - m - 1, by omega⟩
      rw [hd]
      show gi (x :: ps.drop m) ((d + 1 : Nat) : Int) = _
      rw [gi_consS, gi_drop, show ((m + d : Nat) : Int) = (j : Int) - 1 by omega]
/-- the places behind the next stamp -/
structure Next (p q : List Int) (g : Int) : Prop where
  g0 : 0 ≤ g
  g1 : g ≤ (p.length : Int)
  len : q.length = p.length + 1
  old : ∀ s : Int, 0 ≤ s → s < (p.length : Int) → gi q s = if gi p s < g then gi p s else gi p s + 1
  new : gi q (p.length : Int) = g
theorem next_put {i : Nat} {ps : List Int} (h : Per i ps) (hi : 0 < i) {g : Int} (g0 : 0 ≤ g) (g1 : g ≤ (i : Int)) : Next (pl ps) (pl (put ps g (i : Int))) g := by
  have pp := h.pile hi
  have pq : IsPile (put ps g (i : Int)) := (h.put g).pile (by omega)
  have hl := h.len
  have hlq : (put ps g (i : Int)).length = i + 1 := (h.put g).len
  refine ⟨g0, by rw [pl_len]; omega, by rw [pl_len, pl_len]; omega, fun s s0 s1 => ?_, ?_⟩
  · rw [pl_len] at s1
    obtain ⟨a0, a1, a2⟩ := pp.at s0 s1
    split
    · rename_i hlt
      have e : gi (put ps g (i : Int)) (gi (pl ps) s) = s := by rw [put_at g0 (by omega) a0, if_pos hlt, a2]
      have q := (pq.st a0 (by omega)).2.2
      rw [e] at q
      exact q
    · rename_i hge
      have e : gi (put ps g (i : Int)) (gi (pl ps) s + 1) = s := by rw [put_at g0 (by omega) (by omega), if_neg (by omega), if_neg (by omega), Int.add_sub_cancel, a2]
      have q := (pq.st (k := gi (pl ps) s + 1) (by omega) (by omega)).2.2
      rw [e] at q
      exact q
  · rw [pl_len, hl]
    have e : gi (put ps g (i : Int)) g = (i : Int) := by rw [put_at g0 (by omega) g0, if_neg (by omega), if_pos rfl]
    have q := (pq.st (k := g) (by omega) (by omega)).2.2
    rw [e] at q
    exact q
/-- the gap g takes the next stamp: no crease on its side is crossed -/
def fitB (p : List Int) (g c : Int) : Bool := wrB (gi p c) (gi p (c + 1)) (gi p ((p.length : Int) - 1)) == (decide (lo (gi p c) (gi p (c + 1)) < g) && decide (g ≤ hi (gi p c) (gi p (c + 1))))
def Fits (p : List Int) (g : Int) : Prop := ∀ c : Int, 0 ≤ c → c + 1 < (p.length : Int) - 1 → ((p.length : Int) - 1 - c) % 2 = 0 → fitB p g c = true
theorem wrB_next {x y z g : Int} : wrB (if x < g then x else x + 1) (if y < g then y else y + 1) (if z < g then z else z + 1) = wrB x y z := by
  rw [Bool.eq_iff_iff, wrB_iff, wrB_iff]
  split <;> split <;> split <;> omega
theorem wrB_new {x y g : Int} : wrB (if x < g then x else x + 1) (if y < g then y else y + 1) g = (decide (lo x y < g) && decide (g ≤ hi x y)) := by
  rw [Bool.eq_iff_iff, wrB_iff, Bool.and_eq_true, decide_eq_true_eq, decide_eq_true_eq]
  unfold lo hi
  split <;> split <;> split <;> split <;> omega
theorem noX_next {p q : List Int} {g : Int} (h : Next p q g) : NoX q ↔ NoX p ∧ Fits p g := by
  have hl := h.len
  have w1 : ∀ i s : Int, 0 ≤ i → i + 1 < (p.length : Int) → 0 ≤ s → s < (p.length : Int) → wr q i s = wr p i s := fun i s i0 i1 s0 s1 => by
    unfold wr
    rw [h.old i i0 (by omega), h.old (i + 1) (by omega) i1, h.old s s0 s1, wrB_next]
  constructor
  · intro hq
    refine ⟨fun i j x => hq i j ⟨x.i0, x.ij, by have := x.jn; omega, x.even, ?_⟩, fun c c0 c1 ce => ?_⟩
    · have := x.i0; have := x.ij; have := x.jn
      rw [w1 i j (by omega) (by omega) (by omega) (by omega), w1 i (j + 1) (by omega) (by omega) (by omega) (by omega)]
      exact x.ne
    · have z := hq c ((p.length : Int) - 1)
      unfold fitB
      rw [beq_iff_eq]
      refine Decidable.byContradiction fun ne => z ⟨c0, by omega, by omega, ce, ?_⟩
      rw [w1 c _ c0 (by omega) (by omega) (by omega), Int.sub_add_cancel]
      unfold wr
      rw [h.old c c0 (by omega), h.old (c + 1) (by omega) (by omega), h.new, wrB_new]
      exact ne
  · rintro ⟨hp, hf⟩ i j x
    have := x.i0; have := x.ij; have := x.jn
    by_cases hj : j + 1 < (p.length : Int)
    · refine hp i j ⟨x.i0, x.ij, hj, x.even, ?_⟩
      rw [← w1 i j (by omega) (by omega) (by omega) (by omega), ← w1 i (j + 1) (by omega) (by omega) (by omega) (by omega)]
      exact x.ne
    · have ej : j = (p.length : Int) - 1 := by omega
      subst ej
      have he := x.even
      have hc : i + 1 < (p.length : Int) - 1 := by omega
      have z := hf i x.i0 hc he
      unfold fitB at z
      rw [beq_iff_eq] at z
      refine x.ne ?_
      rw [w1 i _ x.i0 (by omega) (by omega) (by omega), Int.sub_add_cancel]
      unfold wr
      rw [h.old i x.i0 (by omega), h.old (i + 1) (by omega) (by omega), h.new, wrB_new]
      exact z
/-- beside the last stamp there is always room -/
theorem fits_beside {ps : List Int} (pp : IsPile ps) {g : Int} (hg : g = gi (pl ps) ((ps.length : Int) - 1) ∨ g = gi (pl ps) ((ps.length : Int) - 1) + 1) : Fits (pl ps) g := by
  intro c c0 c1 ce
  rw [pl_len] at c1 ce
  have n1 := pp.ne (s := c) (t := (ps.length : Int) - 1) c0 (by omega) (by omega) (by omega) (by omega)
  have n2 := pp.ne (s := c + 1) (t := (ps.length : Int) - 1) (by omega) (by omega) (by omega) (by omega) (by omega)
  unfold fitB
  rw [pl_len, beq_iff_eq, Bool.eq_iff_iff, wrB_iff, Bool.and_eq_true, decide_eq_true_eq, decide_eq_true_eq]
  unfold lo hi
  generalize gi (pl ps) ((ps.length : Int) - 1) = z at *
  generalize gi (pl ps) c = x at *
  generalize gi (pl ps) (c + 1) = y at *
  split <;> split <;> omega
end Fo
/-! FoldP -/
namespace Fo
open PySem L2 Evl

/-- what is kept where P holds; else the refusal at C -/
def OkOr (C : Addr) (P R : Prop) (H : Hp) (E : XK) : Prop := (P → R) ∧ (¬ P → ∀ H', Ex H H' → E (.ref C) none H')
theorem OkOr.yes {C : Addr} {P R : Prop} {H : Hp} {E : XK} (hp : P) (r : R) : OkOr C P R H E := ⟨fun _ => r, fun h => absurd hp h⟩
theorem OkOr.no {C : Addr} {P R : Prop} {H : Hp} {E : XK} (hp : ¬ P) (r : ∀ H', Ex H H' → E (.ref C) none H') : OkOr C P R H E := ⟨fun h => absurd h hp, fun _ => r⟩
/-- it never comes to a value -/
def EvX (te : TE) (σ : L2.St) (H : Hp) : Prop := ∀ H1, Ex H H1 → ∀ Q : VK, te σ H1 Q
theorem g_asgX {te : TE} {σ : L2.St} {H : Hp} {g : TG} {D : Ends} {tz : TS} (h : EvX te σ H) : Go (tSeq (tAsg te g) tz) D σ H := fun H1 e => h H1 e _
theorem evx_call {sp : Sp} {vs : List V} {E : XK} {ta : TA} {σ : L2.St} {H : Hp} (h : EvA ta σ H vs) (hs : ∀ H1, Ex H H1 → ∀ Q : VK, sp vs H1 Q E) : EvX (tCall sp [] E ta) σ H := fun H1 e Q =>
  h H1 e _ fun H2 e2 => by
    rw [List.append_nil]
    exact hs H2 (e.trans e2) Q

/-! ### places, letters -/
def sp_places (K : PySem.W.Frag) (c : Cs) : Sp := fun vs H Q E => ∃ (a : Addr) (ns : List Int), vs = [.ref a] ∧ SqL K H a (ns.map V.int) ∧ ns.length ≤ 1000 ∧ OkOr c.np (IsPile ns) (RetL ((pl ns).map V.int) H Q) H E
def lets (at' : List Int) : List Nat := (List.range (at'.length - 1)).map fun (k : Nat) => if (decide (gi at' (k : Int) < gi at' ((k : Int) + 1)) == decide ((k : Int) % 2 = 0)) = true then 86 else 77
def sp_letters (K : PySem.W.Frag) (c : Cs) : Sp := fun vs H Q E => ∃ (a : Addr) (ns : List Int), vs = [.ref a] ∧ SqL K H a (ns.map V.int) ∧ ns.length ≤ 1000 ∧ OkOr c.np (IsPile ns) (RetV (.str (txt (lets (pl ns)))) H Q) H E
section
variable {K : PySem.W.Frag} {c : Cs} {H : Hp} {a : Addr} {ns : List Int}
theorem v_places (hS : SqL K H a (ns.map V.int)) (hl : ns.length ≤ 1000) (hp : IsPile ns) : SpL (sp_places K c) [.ref a] H ((pl ns).map V.int) := fun H1 e Q q E => ⟨a, ns, rfl, ex_l e hS, hl, .yes hp q⟩
theorem x_places {E : XK} (hS : SqL K H a (ns.map V.int)) (hl : ns.length ≤ 1000) (hp : ¬ IsPile ns) (hx : ∀ H', Ex H H' → E (.ref c.np) none H') : ∀ H1, Ex H H1 → ∀ Q : VK, sp_places K c [.ref a] H1 Q E := fun H1 e Q =>
  ⟨a, ns, rfl, ex_l e hS, hl, .no hp fun H' e' => hx H' (e.trans e')⟩
theorem v_letters (hS : SqL K H a (ns.map V.int)) (hl : ns.length ≤ 1000) (hp : IsPile ns) : SpV (sp_letters K c) [.ref a] H (.str (txt (lets (pl ns)))) := fun H1 e Q q E => ⟨a, ns, rfl, ex_l e hS, hl, .yes hp q⟩
end
/-! ### what the laws draw -/
def sp_l_drawn (K : PySem.W.Frag) (c : Cs) : Sp := fun vs H Q _ => ∃ (a : Addr) (ns : List Int) (k : Int), vs = [.ref a, .int k] ∧ SqL K H a (ns.map V.int) ∧ 0 ≤ k ∧ RetV (.int (gi ns k)) H Q
def numb (ns : List Int) (k : Int) : Int := (if k < (ns.length : Int) then gi ns k else if ns = [] then k * k * 7919 + k else k * k * 7919 + k + gi ns (k % (ns.length : Int))) * 48271 % 2147483647
theorem numb_lo (ns : List Int) (k : Int) : 0 ≤ numb ns k := Int.emod_nonneg _ (by decide)
theorem numb_hi (ns : List Int) (k : Int) : numb ns k < 2147483647 := Int.emod_lt_of_pos _ (by decide)
def sp_l_number (K : PySem.W.Frag) (c : Cs) : Sp := fun vs H Q _ => ∃ (a : Addr) (ns : List Int) (k : Int), vs = [.ref a, .int k] ∧ SqL K H a (ns.map V.int) ∧ 0 ≤ k ∧ k ≤ 100000 ∧ RetV (.int (numb ns k)) H Q
def sp_l_counts (K : PySem.W.Frag) (c : Cs) : Sp := fun vs H Q _ => ∃ i : Int, vs = [.int i] ∧ RetV (.bl true) H Q
def szf (m : List Int) (x : Int) : Int := 1 + x / 8 % gi m (x % 8)
def sp_l_size (K : PySem.W.Frag) (c : Cs) : Sp := fun vs H Q _ => ∃ x : Int, vs = [.int x] ∧ RetV (.int (szf c.sz x)) H Q
structure SzOk (m : List Int) : Prop where
  len : m.length = 8
  bnd : ∀ x ∈ m, 1 ≤ x ∧ x ≤ 100
theorem szf_bnd {m : List Int} (h : SzOk m) (x : Int) : 1 ≤ szf m x ∧ szf m x ≤ 100 := by
  have h0 : 0 ≤ x % 8 := Int.emod_nonneg _ (by decide)
  have h1 : x % 8 < 8 := Int.emod_lt_of_pos _ (by decide)
  have hb := h.bnd _ (gi_mem h0 (by rw [h.len]; exact h1))
  have g0 : 0 ≤ x / 8 % gi m (x % 8) := Int.emod_nonneg _ (by omega)
  have g1 : x / 8 % gi m (x % 8) < gi m (x % 8) := Int.emod_lt_of_pos _ (by omega)
  unfold szf
  omega
def PileV (n : Int) (xs : List V) : Prop := ∃ ps : List Int, xs = ps.map V.int ∧ IsPile ps ∧ (ps.length : Int) = n
def sp_l_pile (K : PySem.W.Frag) (c : Cs) : Sp := fun vs H Q _ => ∃ (a : Addr) (ns : List Int) (s n : Int), vs = [.ref a, .int s, .int n] ∧ SqL K H a (ns.map V.int) ∧ 0 ≤ s ∧ s ≤ 1000 ∧ 1 ≤ n ∧ n ≤ 100 ∧ RetP (PileV n) H Q
theorem cx_no {P : Program} {w : World} {H : Hp} {s s' : Shared} {e : Value} (h : L2.CX P w [] H s (fun _ _ _ => False) e s') : False := by
  obtain ⟨_, _, _, _, _, _, _, _, _, _, _, _, z⟩ := h
  exact z
theorem szok {c : Cs} {m : List Int} (h : c.sz = m) (hm : SzOk m := by exact ⟨rfl, by decide⟩) : SzOk c.sz := by
  rw [h]
  exact hm
/-- a law keeps its word: True, at every script -/
def sp_law (K : PySem.W.Frag) (c : Cs) : Sp := fun vs H Q _ => ∃ (a : Addr) (ns : List Int), vs = [.ref a] ∧ SqL K H a (ns.map V.int) ∧ ns.length ≤ 63 ∧ ∀ H', Q (.bl true) H'
def spLaw (K : PySem.W.Frag) : Sp := sp_law K ⟨0, 0, 0, 0, 0, 0, 0, 0, 0, []⟩
section
variable {K : PySem.W.Frag} {c : Cs} {H : Hp} {a : Addr} {ns : List Int} {k s n : Int}
theorem v_drawn (hS : SqL K H a (ns.map V.int)) (h0 : 0 ≤ k) : SpV (sp_l_drawn K c) [.ref a, .int k] H (.int (gi ns k)) := fun H1 e Q q E => ⟨a, ns, k, rfl, ex_l e hS, h0, q⟩
theorem v_number (hS : SqL K H a (ns.map V.int)) (h0 : 0 ≤ k) (h1 : k ≤ 100000) : SpV (sp_l_number K c) [.ref a, .int k] H (.int (numb ns k)) := fun H1 e Q q E => ⟨a, ns, k, rfl, ex_l e hS, h0, h1, q⟩
theorem v_counts : SpV (sp_l_counts K c) [.int k] H (.bl true) := fun H1 e Q q E => ⟨k, rfl, q⟩
theorem v_size : SpV (sp_l_size K c) [.int k] H (.int (szf c.sz k)) := fun H1 e Q q E => ⟨k, rfl, q⟩
theorem v_pile (hS : SqL K H a (ns.map V.int)) (h0 : 0 ≤ s) (h1 : s ≤ 1000) (h2 : 1 ≤ n) (h3 : n ≤ 100) : SpLP (sp_l_pile K c) [.ref a, .int s, .int n] H (PileV n) := fun H1 e Q q E => ⟨a, ns, s, n, rfl, ex_l e hS, h0, h1, h2, h3, q⟩
end
end Fo
/-! FoldP2 -/
namespace Fo
open PySem L2 Evl

def RetU (xs : List V) (H : Hp) (Q : VK) : Prop := ∀ p H2, H p = none → Ex H H2 → H2 p = some (.tup xs) → Q (.ref p) H2
def sp_wraps (K : PySem.W.Frag) (c : Cs) : Sp := fun vs H Q _ => ∃ (a : Addr) (p : List Int) (i s : Int), vs = [.ref a, .int i, .int s] ∧ SqL K H a (p.map V.int) ∧ (0 ≤ i ∧ i + 1 < (p.length : Int)) ∧ (0 ≤ s ∧ s < (p.length : Int)) ∧ RetV (.bl (wr p i s)) H Q
def sp_l_wraps (K : PySem.W.Frag) (c : Cs) : Sp := sp_wraps K c
/-- None, or two that cross: any -/
def CrossR (p : List Int) (H : Hp) (Q : VK) : Prop := (NoX p → RetV .non H Q) ∧ ∀ i j : Int, XX p i j → RetU [.int i, .int j] H Q
def sp_crossing (K : PySem.W.Frag) (c : Cs) : Sp := fun vs H Q E => ∃ (a : Addr) (ns : List Int), vs = [.ref a] ∧ SqL K H a (ns.map V.int) ∧ ns.length ≤ 1000 ∧ OkOr c.np (IsPile ns) (CrossR (pl ns) H Q) H E
def sp_l_places (K : PySem.W.Frag) (c : Cs) : Sp := fun vs H Q _ => ∃ (a : Addr) (ns : List Int), vs = [.ref a] ∧ SqL K H a (ns.map V.int) ∧ ns.length ≤ 1000 ∧ IsPile ns ∧ RetL ((pl ns).map V.int) H Q
/-- fits, as the laws look at it -/
def fitsB (p : List Int) (g : Int) : Bool := (List.range p.length).all fun (k : Nat) => !(decide ((k : Int) + 1 < (p.length : Int) - 1) && decide (((p.length : Int) - 1 - (k : Int)) % 2 = 0)) || fitB p g (k : Int)
theorem fitsB_iff (p : List Int) (g : Int) : fitsB p g = true ↔ Fits p g := by
  unfold fitsB
  rw [List.all_eq_true]
  constructor
  · intro h c c0 c1 ce
    have hc : c.toNat < p.length := by omega
    have q := h c.toNat (List.mem_range.mpr hc)
    have ec : ((c.toNat : Nat) : Int) = c := by omega
    rw [ec, decide_eq_true c1, decide_eq_true ce] at q
    simpa using q
  · intro h k hk
    by_cases h1 : (k : Int) + 1 < (p.length : Int) - 1
    · by_cases h2 : ((p.length : Int) - 1 - (k : Int)) % 2 = 0
      · rw [h (k : Int) (by omega) h1 h2, Bool.or_true]
      · rw [decide_eq_false h2, Bool.and_false]
        rfl
    · rw [decide_eq_false h1]
      rfl
def sp_l_fits (K : PySem.W.Frag) (c : Cs) : Sp := fun vs H Q _ => ∃ (a : Addr) (p : List Int) (s g : Int), vs = [.ref a, .int s, .int g] ∧ SqL K H a (p.map V.int) ∧ (s = (p.length : Int) ∧ 1 ≤ s ∧ s ≤ 1000) ∧ RetV (.bl (fitsB p g)) H Q
def GoodV (n : Int) (xs : List V) : Prop := ∃ ps : List Int, xs = ps.map V.int ∧ IsPile ps ∧ (ps.length : Int) = n ∧ NoX (pl ps)
def sp_l_good (K : PySem.W.Frag) (c : Cs) : Sp := fun vs H Q _ => ∃ (a : Addr) (ns : List Int) (s n : Int), vs = [.ref a, .int s, .int n] ∧ SqL K H a (ns.map V.int) ∧ 0 ≤ s ∧ s ≤ 1000 ∧ 1 ≤ n ∧ n ≤ 100 ∧ RetP (GoodV n) H Q
def sp_l_moved (K : PySem.W.Frag) (c : Cs) : Sp := fun vs H Q _ => ∃ (a : Addr) (ps : List Int) (i j : Int), vs = [.ref a, .int i, .int j] ∧ SqL K H a (ps.map V.int) ∧ IsPile ps ∧ ps.length ≤ 1000 ∧ RetP (PileV (ps.length : Int)) H Q
def crB (p : List Int) (i j : Int) : Bool := if i = j ∨ (i - j) % 2 = 1 then false else !(wr p i j == wr p i (j + 1))
def sp_l_cross (K : PySem.W.Frag) (c : Cs) : Sp := fun vs H Q _ => ∃ (a : Addr) (p : List Int) (i j : Int), vs = [.ref a, .int i, .int j] ∧ SqL K H a (p.map V.int) ∧ (0 ≤ i ∧ i + 1 < (p.length : Int)) ∧ (0 ≤ j ∧ j + 1 < (p.length : Int)) ∧ RetV (.bl (crB p i j)) H Q
def sp_l_none_cross (K : PySem.W.Frag) (c : Cs) : Sp := fun vs H Q _ => ∃ (a : Addr) (p : List Int), vs = [.ref a] ∧ SqL K H a (p.map V.int) ∧ p.length ≤ 1000 ∧ 1 ≤ p.length ∧ RetV (.bl (noX p)) H Q
section
variable {K : PySem.W.Frag} {c : Cs} {H : Hp} {a : Addr} {ns p ps : List Int} {k s n i j g : Int}
theorem v_wraps (hS : SqL K H a (p.map V.int)) (i0 : 0 ≤ i) (i1 : i + 1 < (p.length : Int)) (s0 : 0 ≤ s) (s1 : s < (p.length : Int)) : SpV (sp_wraps K c) [.ref a, .int i, .int s] H (.bl (wr p i s)) := fun H1 e Q q E => ⟨a, p, i, s, rfl, ex_l e hS, ⟨i0, i1⟩, ⟨s0, s1⟩, q⟩
theorem v_l_wraps (hS : SqL K H a (p.map V.int)) (i0 : 0 ≤ i) (i1 : i + 1 < (p.length : Int)) (s0 : 0 ≤ s) (s1 : s < (p.length : Int)) : SpV (sp_l_wraps K c) [.ref a, .int i, .int s] H (.bl (wr p i s)) := v_wraps hS i0 i1 s0 s1
theorem v_l_places (hS : SqL K H a (ns.map V.int)) (hl : ns.length ≤ 1000) (hp : IsPile ns) : SpL (sp_l_places K c) [.ref a] H ((pl ns).map V.int) := fun H1 e Q q E => ⟨a, ns, rfl, ex_l e hS, hl, hp, q⟩
theorem v_fits (hS : SqL K H a (p.map V.int)) (hs : s = (p.length : Int)) (s1 : 1 ≤ s) (s2 : s ≤ 1000) : SpV (sp_l_fits K c) [.ref a, .int s, .int g] H (.bl (fitsB p g)) := fun H1 e Q q E => ⟨a, p, s, g, rfl, ex_l e hS, ⟨hs, s1, s2⟩, q⟩
theorem v_good (hS : SqL K H a (ns.map V.int)) (h0 : 0 ≤ s) (h1 : s ≤ 1000) (h2 : 1 ≤ n) (h3 : n ≤ 100) : SpLP (sp_l_good K c) [.ref a, .int s, .int n] H (GoodV n) := fun H1 e Q q E => ⟨a, ns, s, n, rfl, ex_l e hS, h0, h1, h2, h3, q⟩
theorem v_moved (hS : SqL K H a (ps.map V.int)) (hp : IsPile ps) (hl : ps.length ≤ 1000) : SpLP (sp_l_moved K c) [.ref a, .int i, .int j] H (PileV (ps.length : Int)) := fun H1 e Q q E => ⟨a, ps, i, j, rfl, ex_l e hS, hp, hl, q⟩
theorem v_cross (hS : SqL K H a (p.map V.int)) (i0 : 0 ≤ i) (i1 : i + 1 < (p.length : Int)) (s0 : 0 ≤ j) (s1 : j + 1 < (p.length : Int)) : SpV (sp_l_cross K c) [.ref a, .int i, .int j] H (.bl (crB p i j)) := fun H1 e Q q E => ⟨a, p, i, j, rfl, ex_l e hS, ⟨i0, i1⟩, ⟨s0, s1⟩, q⟩
theorem v_none (hS : SqL K H a (p.map V.int)) (hl : p.length ≤ 1000) (h1 : 1 ≤ p.length) : SpV (sp_l_none_cross K c) [.ref a] H (.bl (noX p)) := fun H1 e Q q E => ⟨a, p, rfl, ex_l e hS, hl, h1, q⟩
/-- found = crossing(..) -/
theorem g_cross {σ : L2.St} {ta : TA} {E : XK} {D : Ends} {tz : TS} {m : Nat} (h : EvA ta σ H [.ref a]) (hS : SqL K H a (ns.map V.int)) (hl : ns.length ≤ 1000) (hp : IsPile ns) (h1 : NoX (pl ns) → Go tz D (σ.set m (some .non)) H)
    (h2 : ∀ i j r H1, XX (pl ns) i j → H r = none → Ex H H1 → H1 r = some (.tup [.int i, .int j]) → Go tz D (σ.set m (some (.ref r))) H1) : Go (tSeq (tAsg (tCall (sp_crossing K c) [] E ta) (gName m)) tz) D σ H := fun H1 e => h H1 e _ fun H2 e2 => by
  rw [List.append_nil]
  exact ⟨a, ns, rfl, ex_l (e.trans e2) hS, hl, .yes hp ⟨fun hn H3 e3 => h1 hn H3 ((e.trans e2).trans e3), fun i j x r H3 hr e3 h3 => (h2 i j r H3 x (fresh_back (e.trans e2) hr) ((e.trans e2).trans e3) h3).here⟩⟩
end
end Fo
/-! FoldM3 -/
namespace Fo
open PySem L2 Evl

/-! ### turning -/
def rot (ps : List Int) (m : Int) : List Int := ps.drop m.toNat ++ ps.take m.toNat
theorem rot_perm (ps : List Int) (m : Int) : (rot ps m).Perm ps := by
  have h : (ps.drop m.toNat ++ ps.take m.toNat).Perm (ps.take m.toNat ++ ps.drop m.toNat) := List.perm_append_comm
  rw [List.take_append_drop] at h
  exact h
theorem rot_len (ps : List Int) (m : Int) : (rot ps m).length = ps.length := (rot_perm ps m).length_eq
theorem rot_pile {ps : List Int} (p : IsPile ps) (m : Int) : IsPile (rot ps m) :=
  ⟨by rw [rot_len]; exact p.pos, fun x hx => by rw [rot_len]; exact p.bnd x ((rot_perm ps m).mem_iff.mp hx), (rot_perm ps m).nodup_iff.mpr p.nd⟩
theorem rot_map (ps : List Int) (m : Int) : (ps.map V.int).drop m.toNat ++ (ps.map V.int).take m.toNat = (rot ps m).map V.int := by
  unfold rot
  rw [List.map_append, List.map_take, List.map_drop]
theorem rot_at {ps : List Int} {m : Int} (m0 : 0 ≤ m) (m1 : m ≤ (ps.length : Int)) {k : Int} (k0 : 0 ≤ k) (k1 : k < (ps.length : Int)) : gi (rot ps m) k = if k < (ps.length : Int) - m then gi ps (k + m) else gi ps (k + m - (ps.length : Int)) := by
  obtain ⟨i, rfl⟩ : ∃ i : Nat, m = (i : Int) := ⟨m.toNat, by omega⟩
  obtain ⟨j, rfl⟩ : ∃ j : Nat, k = (j : Int) := ⟨k.toNat, by omega⟩
  unfold rot
  rw [show ((i : Nat) : Int).toNat = i from rfl]
  have hd : (ps.drop i).length = ps.length - i := List.length_drop
  by_cases h : j < ps.length - i
  · rw [if_pos (by omega), gi_app1 (by omega), gi_drop, show ((i + j : Nat) : Int) = (j : Int) + (i : Int) by omega]
  · rw [if_neg (by omega), gi_app2 (by omega), hd, gi_take (by omega), show ((j - (ps.length - i) : Nat) : Int) = (j : Int) + (i : Int) - (ps.length : Int) by omega]
structure Rot (p q : List Int) (m : Int) : Prop where
  len : q.length = p.length
  at' : ∀ s : Int, 0 ≤ s → s < (p.length : Int) → gi q s = if gi p s < m then gi p s + (p.length : Int) - m else gi p s - m
theorem rot_rot {ps : List Int} (p : IsPile ps) {m : Int} (m0 : 0 ≤ m) (m1 : m < (ps.length : Int)) : Rot (pl ps) (pl (rot ps m)) m := by
  have pr := rot_pile p m
  have hl := rot_len ps m
  refine ⟨by rw [pl_len, pl_len, hl], fun s s0 s1 => ?_⟩
  rw [pl_len] at s1 ⊢
  obtain ⟨a0, a1, a2⟩ := p.at s0 s1
  split
  · rename_i h
    have e : gi (rot ps m) (gi (pl ps) s + (ps.length : Int) - m) = s := by
      rw [rot_at m0 (by omega) (by omega) (by omega), if_neg (by omega), show gi (pl ps) s + (ps.length : Int) - m + m - (ps.length : Int) = gi (pl ps) s by omega, a2]
    have q := (pr.st (k := gi (pl ps) s + (ps.length : Int) - m) (by omega) (by omega)).2.2
    rw [e] at q
    exact q
  · rename_i h
    have e : gi (rot ps m) (gi (pl ps) s - m) = s := by
      rw [rot_at m0 (by omega) (by omega) (by omega), if_pos (by omega), show gi (pl ps) s - m + m = gi (pl ps) s by omega, a2]
    have q := (pr.st (k := gi (pl ps) s - m) (by omega) (by omega)).2.2
    rw [e] at q
    exact q
def tn (n m x : Int) : Int := if x < m then x + n - m else x - m
theorem tn_lt {n m x y : Int} (x0 : 0 ≤ x) (x1 : x < n) (y0 : 0 ≤ y) (y1 : y < n) (m0 : 0 ≤ m) (m1 : m < n) : tn n m x < tn n m y ↔ ((x < y ↔ (x < m ↔ y < m)) ∧ x ≠ y) := by
  unfold tn
  split <;> split <;> omega
theorem turn_cross {n m x y z w : Int} (x0 : 0 ≤ x) (x1 : x < n) (y0 : 0 ≤ y) (y1 : y < n) (z0 : 0 ≤ z) (z1 : z < n) (w0 : 0 ≤ w) (w1 : w < n) (m0 : 0 ≤ m) (m1 : m < n)
    (xz : x ≠ z) (xw : x ≠ w) (yz : y ≠ z) (yw : y ≠ w) (h : wrB (tn n m x) (tn n m y) (tn n m z) = wrB (tn n m x) (tn n m y) (tn n m w)) : wrB x y z = wrB x y w := by
  rw [Bool.eq_iff_iff, wrB_iff, wrB_iff] at h ⊢
  unfold tn at h
  split at h <;> split at h <;> split at h <;> split at h <;> omega
theorem turn_cross' {n m x y z w : Int} (x0 : 0 ≤ x) (x1 : x < n) (y0 : 0 ≤ y) (y1 : y < n) (z0 : 0 ≤ z) (z1 : z < n) (w0 : 0 ≤ w) (w1 : w < n) (m0 : 0 ≤ m) (m1 : m < n)
    (xz : x ≠ z) (xw : x ≠ w) (yz : y ≠ z) (yw : y ≠ w) (h : wrB x y z = wrB x y w) : wrB (tn n m x) (tn n m y) (tn n m z) = wrB (tn n m x) (tn n m y) (tn n m w) := by
  rw [Bool.eq_iff_iff, wrB_iff, wrB_iff] at h ⊢
  unfold tn
  split <;> split <;> split <;> split <;> omega
theorem XX_rot {ps : List Int} (p : IsPile ps) {m : Int} (m0 : 0 ≤ m) (m1 : m < (ps.length : Int)) (i j : Int) : XX (pl (rot ps m)) i j ↔ XX (pl ps) i j := by
  have r := rot_rot p m0 m1
  have hl := r.len
  have key : ∀ i0 : 0 ≤ i, ∀ ij : i < j, ∀ jn : j + 1 < (ps.length : Int), (j - i) % 2 = 0 → (wr (pl (rot ps m)) i j = wr (pl (rot ps m)) i (j + 1) ↔ wr (pl ps) i j = wr (pl ps) i (j + 1)) := fun i0 ij jn ev => by
    obtain ⟨a0, a1, _⟩ := p.at (s := i) (by omega) (by omega)
    obtain ⟨b0, b1, _⟩ := p.at (s := i + 1) (by omega) (by omega)
    obtain ⟨c0, c1, _⟩ := p.at (s := j) (by omega) (by omega)
    obtain ⟨d0, d1, _⟩ := p.at (s := j + 1) (by omega) (by omega)
    have n1 := p.ne (s := i) (t := j) (by omega) (by omega) (by omega) (by omega) (by omega)
    have n2 := p.ne (s := i) (t := j + 1) (by omega) (by omega) (by omega) (by omega) (by omega)
    have n3 := p.ne (s := i + 1) (t := j) (by omega) (by omega) (by omega) (by omega) (by omega)
    have n4 := p.ne (s := i + 1) (t := j + 1) (by omega) (by omega) (by omega) (by omega) (by omega)
    have e : ∀ s : Int, 0 ≤ s → s < (ps.length : Int) → gi (pl (rot ps m)) s = tn (ps.length : Int) m (gi (pl ps) s) := fun s s0 s1 => by
      rw [r.at' s s0 (by rw [pl_len]; exact s1), pl_len]
      rfl
    unfold wr
    rw [e i (by omega) (by omega), e (i + 1) (by omega) (by omega), e j (by omega) (by omega), e (j + 1) (by omega) (by omega)]
    exact ⟨turn_cross a0 a1 b0 b1 c0 c1 d0 d1 m0 m1 n1 n2 n3 n4, turn_cross' a0 a1 b0 b1 c0 c1 d0 d1 m0 m1 n1 n2 n3 n4⟩
  rw [pl_len] at hl
  have hl2 := pl_len (rot ps m)
  have hl3 := pl_len ps
  constructor
  · intro x
    have h1 := x.jn
    exact ⟨x.i0, x.ij, by omega, x.even, fun z => x.ne ((key x.i0 x.ij (by omega) x.even).mpr z)⟩
  · intro x
    have h1 := x.jn
    exact ⟨x.i0, x.ij, by omega, x.even, fun z => x.ne ((key x.i0 x.ij (by omega) x.even).mp z)⟩
theorem noX_rot {ps : List Int} (p : IsPile ps) {m : Int} (m0 : 0 ≤ m) (m1 : m < (ps.length : Int)) : NoX (pl (rot ps m)) ↔ NoX (pl ps) :=
  ⟨fun h i j x => h i j ((XX_rot p m0 m1 i j).mpr x), fun h i j x => h i j ((XX_rot p m0 m1 i j).mp x)⟩
end Fo
/-! FoldP3 -/
namespace Fo
open PySem L2 Evl

def sp_turned (K : PySem.W.Frag) (c : Cs) : Sp := fun vs H Q E => ∃ (a : Addr) (ns : List Int) (by' : Int), vs = [.ref a, .int by'] ∧ SqL K H a (ns.map V.int) ∧ ns.length ≤ 1000 ∧ OkOr c.np (IsPile ns) (RetL ((rot ns (by' % (ns.length : Int))).map V.int) H Q) H E
def sp_l_same_row (K : PySem.W.Frag) (c : Cs) : Sp := fun vs H Q _ => ∃ (a b : Addr) (ns : List Int), vs = [.ref a, .ref b] ∧ H a = some (.lst (ns.map V.int)) ∧ SqL K H b (ns.map V.int) ∧ ns.length ≤ 1000 ∧ RetV (.bl true) H Q
def sp_l_cross_told (K : PySem.W.Frag) (c : Cs) : Sp := fun vs H Q _ => ∃ (a r : Addr) (p : List Int) (i j : Int), vs = [.ref a, .ref r] ∧ SqL K H a (p.map V.int) ∧ H r = some (.tup [.int i, .int j]) ∧ XX p i j ∧ RetV (.bl true) H Q
/-- the letters of a crease are two just where its stamps were parted -/
def Parted (p p' : List Int) (m : Int) : Prop := p'.length = p.length ∧ ∀ k : Int, 0 ≤ k → k + 1 < (p.length : Int) → (((gi p k < gi p (k + 1)) ↔ (gi p' k < gi p' (k + 1))) ↔ (gi p k < m ↔ gi p (k + 1) < m))
def sp_l_letters_turned (K : PySem.W.Frag) (c : Cs) : Sp := fun vs H Q _ => ∃ (a : Addr) (p p' : List Int) (m : Int), vs = [.ref a, .int m, .str (txt (lets p)), .str (txt (lets p'))] ∧ SqL K H a (p.map V.int) ∧ 1 ≤ p.length ∧ p.length ≤ 1000 ∧ Parted p p' m ∧ RetV (.bl true) H Q
theorem parted_rot {ps : List Int} (p : IsPile ps) {m : Int} (m0 : 0 ≤ m) (m1 : m < (ps.length : Int)) : Parted (pl ps) (pl (rot ps m)) m := by
  have r := rot_rot p m0 m1
  refine ⟨r.len, fun k k0 k1 => ?_⟩
  have hl := pl_len ps
  obtain ⟨a0, a1, _⟩ := p.at (s := k) (by omega) (by omega)
  obtain ⟨b0, b1, _⟩ := p.at (s := k + 1) (by omega) (by omega)
  have n1 := p.ne (s := k) (t := k + 1) (by omega) (by omega) (by omega) (by omega) (by omega)
  rw [r.at' k (by omega) (by omega), r.at' (k + 1) (by omega) (by omega), hl]
  split <;> split <;> omega
section
variable {K : PySem.W.Frag} {c : Cs} {H : Hp} {a b r : Addr} {ns p p' ps : List Int} {k s n i j g m : Int}
theorem v_turned (hS : SqL K H a (ns.map V.int)) (hl : ns.length ≤ 1000) (hp : IsPile ns) : SpL (sp_turned K c) [.ref a, .int k] H ((rot ns (k % (ns.length : Int))).map V.int) := fun H1 e Q q E => ⟨a, ns, k, rfl, ex_l e hS, hl, .yes hp q⟩
theorem v_same (h1 : H a = some (.lst (ns.map V.int))) (h2 : SqL K H b (ns.map V.int)) (hl : ns.length ≤ 1000) : SpV (sp_l_same_row K c) [.ref a, .ref b] H (.bl true) := fun H1 e Q q E => ⟨a, b, ns, rfl, e a _ h1, ex_l e h2, hl, q⟩
theorem v_told (hS : SqL K H a (p.map V.int)) (hr : H r = some (.tup [.int i, .int j])) (x : XX p i j) : SpV (sp_l_cross_told K c) [.ref a, .ref r] H (.bl true) := fun H1 e Q q E => ⟨a, r, p, i, j, rfl, ex_l e hS, e r _ hr, x, q⟩
theorem v_parted (hS : SqL K H a (p.map V.int)) (h1 : 1 ≤ p.length) (h2 : p.length ≤ 1000) (hp : Parted p p' m) : SpV (sp_l_letters_turned K c) [.ref a, .int m, .str (txt (lets p)), .str (txt (lets p'))] H (.bl true) := fun H1 e Q q E => ⟨a, p, p', m, rfl, ex_l e hS, h1, h2, hp, q⟩
/-- a call whose one argument is a new list -/
theorem ev_call1L {σ : L2.St} {sp : Sp} {E : XK} {te : TE} {xs : List V} {z : V} (h : EvL te σ H xs) (hs : ∀ q H1, H1 q = some (.lst xs) → Ex H H1 → SpV sp [.ref q] H1 z) : Ev (tCall sp [] E (tCons te tNil)) σ H z := fun H1 e Q k =>
  h H1 e _ fun q H2 hq e2 h2 => by
    show sp ([.ref q] ++ []) H2 Q E
    exact hs q H2 h2 (e.trans e2) H2 (Ex.refl H2) Q (fun H3 e3 => k H3 (e2.trans e3)) E
/-- found = crossing(a new list) -/
theorem g_crossN {σ : L2.St} {te : TE} {E : XK} {D : Ends} {tz : TS} {m : Nat} (h : EvL te σ H (ns.map V.int)) (hl : ns.length ≤ 1000) (hp : IsPile ns) (h1 : NoX (pl ns) → Go tz D (σ.set m (some .non)) H)
    (h2 : ∀ i j r H1, XX (pl ns) i j → H r = none → Ex H H1 → H1 r = some (.tup [.int i, .int j]) → Go tz D (σ.set m (some (.ref r))) H1) : Go (tSeq (tAsg (tCall (sp_crossing K c) [] E (tCons te tNil)) (gName m)) tz) D σ H := fun H1 e => h H1 e _ fun b H2 hb e2 hb2 => by
  show sp_crossing K c ([.ref b] ++ []) H2 _ E
  exact ⟨b, ns, rfl, sq_lst hb2, hl, .yes hp ⟨fun hn H3 e3 => h1 hn H3 ((e.trans e2).trans e3), fun i j x r H3 hr e3 h3 => (h2 i j r H3 x (fresh_back (e.trans e2) hr) ((e.trans e2).trans e3) h3).here⟩⟩
/-- ways that raise -/
theorem evx_op2 {σ : L2.St} {r : R2} {ta tb : TE} {x : V} (h1 : Ev ta σ H x) (h2 : EvX tb σ H) : EvX (tOp r ta tb) σ H := fun H1 e Q => h1 H1 e _ fun H2 e2 => h2 H2 (e.trans e2) _
theorem evx_cb1 {σ : L2.St} {r : List V → Hp → VK → Prop} {te : TE} (h : EvX te σ H) : EvX (tCB r (tCons te tNil)) σ H := fun H1 e Q => h H1 e _
end
end Fo
/-! FoldB -/
namespace Fo
open PySem PySem.Spec PyProof.Rows L2 Evl

/-! ### enumerate(a text): each sign in a new pair -/
def IteS (z : Str) : It :=
  ⟨fun i _ => i < z.cps.size, fun i H v H' => ∃ T c, v = .ref T ∧ H T = none ∧ H' = upd H T (.tup [.int (i : Nat), .str ⟨#[c]⟩]) ∧ z.cps[i]? = some c, fun i _ => z.cps.size ≤ i⟩
theorem turn_enumS {P : Program} {w : World} {K : PySem.W.Frag} {elts : List Expr} {kk : Nat} {tpos : Pos} (z : Str) (t : Tok) (ty : String) (hty : ty = "str_ascii_iterator" ∨ ty = "str_iterator") (e it : Addr) :
    Turn P w K (.Tuple elts kk tpos) (IteS z) [e, it] e (fun i h => (∃ old, IsEnum h e it ((i : Nat) : Int) old) ∧ h.IsStrIter it ty z t i ∧ e ≠ it ∧ i ≤ z.cps.size) where
  mem := by simp
  obj := fun i h st b hb => by
    obtain ⟨⟨old, he⟩, ⟨o, ho, hc, hd⟩, _⟩ := st
    have e' : b = e ∨ b = it := by simpa using hb
    rcases e' with y | y
    · rw [y]; exact ⟨_, he, fun v q => nomatch q⟩
    · rw [y]; exact ⟨o, ho, fun v q => by rw [hd] at q; cases q⟩
  keep := fun i h h' st k => by
    obtain ⟨⟨old, he⟩, ⟨o, ho, r⟩, hne⟩ := st
    exact ⟨⟨old, k e (by simp) _ he⟩, ⟨o, k it (by simp) o ho, r⟩, hne⟩
  item := by
    intro X hP hw hK hc i pins s σ H E I hf st hg
    subst hP hw hK
    obtain ⟨⟨old, he⟩, hit, hne, _⟩ := st
    have hel : e < s.heap.objs.size := Heap.lt_size he
    have hil : it < s.heap.objs.size := by obtain ⟨_, q, _⟩ := hit; exact Heap.lt_size q
    have D : Draws X.prog X.w X.A.in1 it [it] z.cps.size (fun i v => ∃ c u, z.cps[i]? = some c ∧ v = .str ⟨#[c]⟩ u) (fun i h => h.IsStrIter it ty z t i) := by
      rcases hty with y | y
      · rw [y]; exact Draws.strAscii (A := X.A.in1) (I.ok.hd hc) it z t
      · rw [y]; exact Draws.strWide (A := X.A.in1) (I.ok.hd hc) it z t
    refine wpAny_pyNext_enum_itemD D he hit hg hne (by simpa using hne) fun u h' tk hP ho hit' hT hsz hk => ?_
    obtain ⟨c, uu, hcx, rfl⟩ := hP
    refine ⟨_, rfl, wpAny_letOwnedTupleGo_enum (s := { s with heap := h', toks := tk + 1 }) ho fun h'' he' sb => ?_⟩
    have hT2 : h''.get? s.heap.objs.size = some { cls := .type "tuple", data := .seq #[.int i tk, .str ⟨#[c]⟩ uu] } := (sb.2 _ (Nat.ne_of_gt hel)).trans hT
    have new : ObjOk X.prog X.w (upd H s.heap.objs.size (.tup [.int (i : Nat), .str ⟨#[c]⟩])) h'' s.heap.objs.size (.tup [.int (i : Nat), .str ⟨#[c]⟩]) :=
      ⟨by show 2 ≤ sizeLine; decide, [.int i tk, .str ⟨#[c]⟩ uu], .cons ⟨_, rfl⟩ (.cons ⟨_, rfl⟩ .nil), ⟨_, hT2, rfl, _, rfl⟩⟩
    have I1 : Inv X pins σ (upd H s.heap.objs.size (.tup [.int (i : Nat), .str ⟨#[c]⟩])) { s with heap := h'', toks := tk + 1 } :=
      I.turnedNew (ch := [e, it]) (fun b ob hb q => (sb.2 b (fun y => hb (by simp [y]))).trans (hk b ob (fun y => hb (by simp [y])) (fun y => hb (by simp [y])) q)) hf (Nat.le_refl _) new
    refine ⟨.ref s.heap.objs.size, _, I1, rfl, ⟨_, c, rfl, I.hok.fresh (Nat.le_refl _), rfl, hcx⟩, ⟨⟨.str ⟨#[c]⟩ uu, ?_⟩, ?_, hne, hg⟩, fun b hb => ?_⟩
    · have e1 : ((i + 1 : Nat) : Int) = (i : Int) + 1 := by omega
      rw [e1]; exact he'
    · obtain ⟨o, ho2, r⟩ := hit'
      exact ⟨o, (sb.2 it (Ne.symm hne)).trans ho2, r⟩
    · have hb' : b < s.heap.objs.size := by
        have e' : b = e ∨ b = it := by simpa using hb
        rcases e' with y | y
        · rw [y]; exact hel
        · rw [y]; exact hil
      rw [upd_ne (Nat.ne_of_lt hb')]
      exact (hf b hb).1
  done := by
    intro X hP hw hK hc i pins s σ H E I hf st hg
    subst hP hw hK
    obtain ⟨⟨old, he⟩, hit, hne, hle⟩ := st
    obtain ⟨f0, f1, f2, f3, f4, f5⟩ := hf it (by simp)
    have D : Draws X.prog X.w X.A.in1 it [it] z.cps.size (fun i v => ∃ c u, z.cps[i]? = some c ∧ v = .str ⟨#[c]⟩ u) (fun i h => h.IsStrIter it ty z t i) := by
      rcases hty with y | y
      · rw [y]; exact Draws.strAscii (A := X.A.in1) (I.ok.hd hc) it z t
      · rw [y]; exact Draws.strWide (A := X.A.in1) (I.ok.hd hc) it z t
    have hi : i = z.cps.size := Nat.le_antisymm hle hg
    subst hi
    exact wpAny_pyNext_enum_endD D he hit fun h' eb => ⟨rfl, I.turned (t' := s.toks) (fun b o hb q => eb b o hb q) f0 f1 f3 f4 f5⟩
  self := fun A i s Q E st h => let ⟨⟨_, he⟩, _⟩ := st; wpAny_pyIter_enum he h
def iEnumS (ta : TA) : TI := fun σ H R => ta σ H fun vs H1 => ∃ z, vs = [.str z] ∧ R (IteS z) H1
theorem pi_enumS {X : Cx} {e : Expr} {ta : TA} {p pos tpos : Pos} {elts : List Expr} {kk : Nat} (hg : Gl X "enumerate") (hm : X.mg "enumerate" = none) (ha : PA X [e] ta) (hs : starEach [e] X.env = [(false, eval e X.env)] := by rfl) :
    PI X (.Tuple elts kk tpos) (.Call (.Name "enumerate" p) [e] [] pos) (iEnumS ta) := by
  refine ⟨fun pins s σ H R I h => ?_⟩
  refine Call_ (ld_blt I hg hm boot_enumerate (PyProof.Rows.callWith_type1 (thn (ha.run pos pins s σ H _ I h) fun us s1 ⟨vs, H1, I1, r1, q1⟩ => ?_) hs rfl))
  obtain ⟨z, ex, q⟩ := q1
  subst ex
  cases r1 with
  | cons r rr =>
    cases rr
    obtain ⟨t, rfl⟩ := r
    refine call_enumerate_str fun h' he hit hsz hk => wpAny_pyIter_enum he ?_
    have I2 : Inv X pins σ H1 { s1 with heap := h' } := I1.kept (t' := s1.toks) hk
    have hty : strIterType z = "str_ascii_iterator" ∨ strIterType z = "str_iterator" := by
      unfold strIterType
      split
      · exact .inl rfl
      · exact .inr rfl
    refine ⟨s1.heap.objs.size + 1, [s1.heap.objs.size + 1, s1.heap.objs.size], _, _, H1, rfl, I2, turn_enumS z t (strIterType z) hty (s1.heap.objs.size + 1) s1.heap.objs.size, ⟨⟨.none, he⟩, hit, Nat.succ_ne_self _, Nat.zero_le _⟩, fun b hb => ?_, q⟩
    have e' : b = s1.heap.objs.size + 1 ∨ b = s1.heap.objs.size := by simpa using hb
    have hle : s1.heap.objs.size ≤ b := by
      rcases e' with y | y
      · rw [y]; exact Nat.le_add_right _ _
      · rw [y]; exact Nat.le_refl _
    exact I1.fpOk hle (I1.hok.fresh hle)
theorem walk_enumS {z : Str} : Walk (IteS z) z.cps.size (fun _ => True) (YPair (fun i => some (.int (i : Nat))) (fun i => z.cps[i]?.map fun c => .str ⟨#[c]⟩)) := by
  refine ⟨fun i _ hi _ => hi, fun _ _ => Nat.le_refl _, fun i H v H' _ _ y => ?_⟩
  obtain ⟨T, c, h1, h2, h3, h4⟩ := y
  exact ⟨T, .int (i : Nat), .str ⟨#[c]⟩, h1, h2, h3, rfl, by show (z.cps[i]?.map fun c => V.str ⟨#[c]⟩) = _; rw [h4]; rfl⟩
section
variable {K : PySem.W.Frag} {σ : L2.St} {H : Hp} {ta tb te tl : TE} {D : Ends} {tu tz : TS} {v x : V}
/-- for i, x in enumerate(text) -/
theorem g_forES {j k : Nat} {l : List Nat} (h : Ev te σ H (.str (txt l))) (Pv : Nat → L2.St → Hp → Prop) (h0 : ∀ H1, Ex H H1 → Pv 0 σ H1)
    (hs : ∀ (i : Nat) c T σ' H', l[i]? = some c → Pv i σ' H' → H' T = none → Go tu { D with nx := Pv (i + 1), ct := Pv (i + 1), bk := tz D } ((σ'.set j (some (.int (i : Int)))).set k (some (.str ⟨#[c]⟩))) (upd H' T (.tup [.int (i : Int), .str ⟨#[c]⟩]))) (hd : ∀ σ' H', Pv l.length σ' H' → Go tz D σ' H') :
    Go (tSeq (tFor (iEnumS (tCons te tNil)) (gTup K 2 (gCons (gName j) (gCons (gName k) gNil))) tu) tz) D σ H := fun H0 e0 =>
  h H0 e0 _ fun H1 e => ⟨txt l, rfl, for_it walk_enumS Pv (h0 H1 (e0.trans e)) (fun _ _ _ _ _ => trivial) (fun i x σ' H' H'' hi p y => by
    obtain ⟨T, u, w, rfl, hT, rfl, h4, h5⟩ := y
    cases h4
    have h6 : (txt l).cps[i]? = l[i]? := by simp [txt]
    have h5 : ((txt l).cps[i]?.map fun c => V.str ⟨#[c]⟩) = some w := h5
    rw [h6] at h5
    cases hl : l[i]? with
    | none => rw [hl] at h5; cases h5
    | some c =>
      rw [hl] at h5
      cases h5
      exact ⟨T, [.int (i : Int), .str ⟨#[c]⟩], rfl, .inl (.inl upd_same), rfl, .int (i : Int), [.str ⟨#[c]⟩], rfl, .str ⟨#[c]⟩, [], rfl, rfl, (hs i c T σ' H' hl p hT).here⟩) (fun σ' H' p => (hd σ' H' (by have e9 : (txt l).cps.size = l.length := by { simp [txt] }; rw [e9] at p; exact p)).here)⟩
/-- for x in text -/
theorem g_forS {j : Nat} {l : List Nat} (h : Ev te σ H (.str (txt l))) (Pv : Nat → L2.St → Hp → Prop) (h0 : ∀ H1, Ex H H1 → Pv 0 σ H1)
    (hs : ∀ (i : Nat) c σ' H', l[i]? = some c → Pv i σ' H' → Go tu { D with nx := Pv (i + 1), ct := Pv (i + 1), bk := tz D } (σ'.set j (some (.str ⟨#[c]⟩))) H') (hd : ∀ σ' H', Pv l.length σ' H' → Go tz D σ' H') :
    Go (tSeq (tFor (iStr te) (gName j) tu) tz) D σ H := fun H0 e0 =>
  h H0 e0 _ fun H1 e => ⟨txt l, rfl, for_it walk_str Pv (h0 H1 (e0.trans e)) (fun _ _ _ _ _ => trivial) (fun i x σ' H' H'' hi p y => by
    obtain ⟨e7, c, h5, e8⟩ := y
    subst e8
    have h6 : (txt l).cps[i]? = l[i]? := by simp [txt]
    rw [h6] at h5
    rw [e7]
    exact (hs i c σ' H' h5 p).here) (fun σ' H' p => (hd σ' H' (by have e9 : (txt l).cps.size = l.length := by { simp [txt] }; rw [e9] at p; exact p)).here)⟩
/-! ### insert, index -/
def rInsert : V → List V → Hp → VK → Prop := fun x vs H Q => ∃ (l : Addr) (xs : List V) (i : Int) (y : V), x = .ref l ∧ vs = [.int i, y] ∧ H l = some (.lst xs) ∧ xs.length < sizeLine ∧ 0 ≤ i ∧ i < 2 ^ 63 ∧
    Q .non (upd H l (.lst (xs.take i.toNat ++ [y] ++ xs.drop i.toNat)))
theorem g_insert {l : Addr} {xs : List V} {i : Int} (hl : H l = some (.lst xs)) (ha : Ev ta σ H (.ref l)) (hb : Ev tb σ H (.int i)) (h : Ev te σ H v) (hz : xs.length < 100000) (h0 : 0 ≤ i) (h1 : i < 100000) (k : ∀ H1, Ex H H1 → tz D σ (upd H1 l (.lst (xs.take i.toNat ++ [v] ++ xs.drop i.toNat)))) :
    Go (tSeq (tDrop (tBM K "list" rInsert ta (tCons tb (tCons te tNil)))) tz) D σ H := fun H1 e1 => ha H1 e1 _ fun H2 e2 =>
  ⟨Or.inl ⟨rfl, xs, sq_of ((e1.trans e2) l _ hl)⟩, hb H2 (e1.trans e2) _ fun H3 e3 => h H3 ((e1.trans e2).trans e3) _ fun H4 e4 =>
    ⟨l, xs, i, v, rfl, rfl, (((e1.trans e2).trans e3).trans e4) l _ hl, sz_lt hz, h0, by omega, k H4 (((e1.trans e2).trans e3).trans e4)⟩⟩
theorem ev_index {p : Addr} {ns : List Int} {i : Int} (ha : Ev ta σ H (.ref p)) (hb : Ev tb σ H (.int i)) (hs : SqL K H p (ns.map V.int)) (hm : i ∈ ns) : Ev (tBM K "list" (rIndex K) ta (tCons tb tNil)) σ H (.int ((ns.idxOf i : Nat) : Int)) := fun H1 e Q q =>
  ha H1 e _ fun H2 e2 => ⟨Or.inl ⟨rfl, _, ex_l (e.trans e2) hs⟩, hb H2 (e.trans e2) _ fun H3 e3 =>
    ⟨p, ns.map V.int, .int i, ns.idxOf i, .int i, rfl, rfl, ex_l ((e.trans e2).trans e3) hs, rfl, List.all_eq_true.mpr fun y hy => by
        obtain ⟨z, _, rfl⟩ := List.mem_map.mp hy
        rfl, by
        rw [List.getElem?_map, List.getElem?_eq_getElem (List.idxOf_lt_length_iff.mpr hm), List.getElem_idxOf]
        rfl, by simp [eqV], fun m z' hlt hz => by
        have hm2 : m < ns.length := Nat.lt_trans hlt (List.idxOf_lt_length_iff.mpr hm)
        rw [List.getElem?_map, List.getElem?_eq_getElem hm2] at hz
        cases hz
        have h9 := List.not_of_lt_findIdx (p := (· == i)) (xs := ns) (i := m) hlt
        simpa [eqV] using h9, q H3 (e2.trans e3)⟩⟩
end
end Fo
/-! FoldP4 -/
namespace Fo
open PySem L2 Evl

def Letters (l : List Nat) : Prop := ∀ c ∈ l, c = 86 ∨ c = 77
def sp_look_at (K : PySem.W.Frag) (c : Cs) : Sp := fun vs H Q E => ∃ l : List Nat, vs = [.str (txt l)] ∧ l.length ≤ 1000 ∧ OkOr c.nl (Letters l) (RetV .non H Q) H E
def MadeV (l : List Nat) (xs : List V) : Prop := ∃ ps : List Int, xs = ps.map V.int ∧ IsPile ps ∧ ps.length = l.length + 1 ∧ NoX (pl ps) ∧ lets (pl ps) = l
def sp_pile_of (K : PySem.W.Frag) (c : Cs) : Sp := fun vs H Q E => ∃ l : List Nat, vs = [.str (txt l)] ∧ l.length ≤ 1000 ∧ OkOr c.nl (Letters l) (RetP (MadeV l) H Q) H E
def sp_l_is_pile (K : PySem.W.Frag) (c : Cs) : Sp := fun vs H Q _ => ∃ (a : Addr) (ns : List Int), vs = [.ref a, .int (ns.length : Int)] ∧ H a = some (.lst (ns.map V.int)) ∧ IsPile ns ∧ ns.length ≤ 1000 ∧ RetV (.bl true) H Q
/-- a value that keeps a word -/
def EvR (te : TE) (σ : L2.St) (H : Hp) (P : V → Prop) : Prop := ∀ H1, Ex H H1 → ∀ Q : VK, (∀ v H2, P v → Ex H1 H2 → Q v H2) → te σ H1 Q
def SpR (sp : Sp) (vs : List V) (H : Hp) (P : V → Prop) : Prop := ∀ H1, Ex H H1 → ∀ Q : VK, (∀ v H2, P v → Ex H1 H2 → Q v H2) → ∀ E : XK, sp vs H1 Q E
def RetR (P : V → Prop) (H : Hp) (Q : VK) : Prop := ∀ v H2, P v → Ex H H2 → Q v H2
theorem evr_call {sp : Sp} {vs : List V} {E : XK} {ta : TA} {σ : L2.St} {H : Hp} {P : V → Prop} (h : EvA ta σ H vs) (hs : SpR sp vs H P) : EvR (tCall sp [] E ta) σ H P := fun H1 e Q q =>
  h H1 e _ fun H2 e2 => by
    rw [List.append_nil]
    exact hs H2 (e.trans e2) Q (fun v H3 hP e3 => q v H3 hP (e2.trans e3)) E
theorem g_asgR {te : TE} {σ : L2.St} {H : Hp} {P : V → Prop} {i : Nat} {D : Ends} {tz : TS} (h : EvR te σ H P) (k : ∀ v H1, P v → Ex H H1 → Go tz D (σ.set i (some v)) H1) :
    Go (tSeq (tAsg te (gName i)) tz) D σ H := fun H1 e => h H1 e _ fun v H2 hP e2 => (k v H2 hP (e.trans e2)).here
theorem g_dropX {te : TE} {σ : L2.St} {H : Hp} {D : Ends} {tz : TS} (h : EvX te σ H) : Go (tSeq (tDrop te) tz) D σ H := fun H1 e => h H1 e _
theorem g_aug {σ : L2.St} {H : Hp} {D : Ends} {tz : TS} {te : TE} {i : Nat} {f : Int → Int → Int} {a b : Int} (hx : σ[i]? = some (some (.int a))) (h : Ev te σ H (.int b)) (k : Go tz D (σ.set i (some (.int (f a b)))) H) : Go (tSeq (tAug i te (ipI f)) tz) D σ H := fun H1 e =>
  q_aug hx (h.mono e) fun H2 e2 => k H2 (e.trans e2)
def RowV (n : Int) (v : V) : Prop := ∃ l : List Nat, v = .str (txt l) ∧ (l.length : Int) = n ∧ Letters l
def sp_l_row (K : PySem.W.Frag) (c : Cs) : Sp := fun vs H Q _ => ∃ (a : Addr) (ns : List Int) (n : Int), vs = [.ref a, .int n] ∧ SqL K H a (ns.map V.int) ∧ 0 ≤ n ∧ n ≤ 100 ∧ RetR (RowV n) H Q
section
variable {K : PySem.W.Frag} {c : Cs} {H : Hp} {a : Addr} {ns : List Int} {l : List Nat} {n : Int}
theorem v_look (hl : l.length ≤ 1000) (h : Letters l) : SpV (sp_look_at K c) [.str (txt l)] H .non := fun H1 e Q q E => ⟨l, rfl, hl, .yes h q⟩
theorem x_look {E : XK} (hl : l.length ≤ 1000) (h : ¬ Letters l) (hx : ∀ H', Ex H H' → E (.ref c.nl) none H') : ∀ H1, Ex H H1 → ∀ Q : VK, sp_look_at K c [.str (txt l)] H1 Q E := fun H1 e Q => ⟨l, rfl, hl, .no h fun H' e' => hx H' (e.trans e')⟩
theorem v_pile_of (hl : l.length ≤ 1000) (h : Letters l) : SpLP (sp_pile_of K c) [.str (txt l)] H (MadeV l) := fun H1 e Q q E => ⟨l, rfl, hl, .yes h q⟩
theorem v_is_pile (h1 : H a = some (.lst (ns.map V.int))) (hp : IsPile ns) (hl : ns.length ≤ 1000) (hn : n = (ns.length : Int)) : SpV (sp_l_is_pile K c) [.ref a, .int n] H (.bl true) := by
  subst hn
  exact fun H1 e Q q E => ⟨a, ns, rfl, e a _ h1, hp, hl, q⟩
theorem v_row (hS : SqL K H a (ns.map V.int)) (h0 : 0 ≤ n) (h1 : n ≤ 100) : SpR (sp_l_row K c) [.ref a, .int n] H (RowV n) := fun H1 e Q q E => ⟨a, ns, n, rfl, ex_l e hS, h0, h1, q⟩
end
/-! ### the letters behind the next stamp -/
theorem lets_len (l : List Int) : (lets l).length = l.length - 1 := by simp [lets]
theorem lets_get {l : List Int} {k : Nat} (h : k < l.length - 1) : (lets l)[k]? = some (if (decide (gi l (k : Int) < gi l ((k : Int) + 1)) == decide ((k : Int) % 2 = 0)) = true then 86 else 77) := by
  unfold lets
  rw [List.getElem?_map, List.getElem?_range h]
  rfl
theorem lets_getD {p : List Int} {k : Nat} (h : k < p.length - 1) : (lets p).getD k 0 = if (decide (gi p (k : Int) < gi p ((k : Int) + 1)) == decide ((k : Int) % 2 = 0)) = true then 86 else 77 := by
  rw [List.getD_eq_getElem?_getD, lets_get h]
  rfl
theorem lets_letters (p : List Int) : Letters (lets p) := fun c hc => by
  unfold lets at hc
  obtain ⟨k, _, rfl⟩ := List.mem_map.mp hc
  split
  · exact .inl rfl
  · exact .inr rfl
theorem lets_next {p q : List Int} {g : Int} (h : Next p q g) (hp : 1 ≤ p.length) : lets q = lets p ++ [if (decide (gi p ((p.length : Int) - 1) < g) == decide (((p.length : Int) - 1) % 2 = 0)) = true then 86 else 77] := by
  have hl := h.len
  refine List.ext_getElem? fun k => ?_
  have l1 := lets_len p
  have l2 := lets_len q
  by_cases hk : k < p.length - 1
  · rw [List.getElem?_append_left (by omega), lets_get hk, lets_get (by omega), h.old (k : Int) (by omega) (by omega), h.old ((k : Int) + 1) (by omega) (by omega)]
    have e : decide ((if gi p (k : Int) < g then gi p (k : Int) else gi p (k : Int) + 1) < (if gi p ((k : Int) + 1) < g then gi p ((k : Int) + 1) else gi p ((k : Int) + 1) + 1)) = decide (gi p (k : Int) < gi p ((k : Int) + 1)) := by
      rw [decide_eq_decide]
      split <;> split <;> omega
    rw [e]
  · by_cases hk2 : k = p.length - 1
    · have ek : (k : Int) = (p.length : Int) - 1 := by omega
      have ek2 : (k : Int) + 1 = (p.length : Int) := by omega
      rw [List.getElem?_append_right (by omega), lets_get (by omega), ek2, h.new, ek, h.old _ (by omega) (by omega), l1, hk2, Nat.sub_self]
      have e : decide ((if gi p ((p.length : Int) - 1) < g then gi p ((p.length : Int) - 1) else gi p ((p.length : Int) - 1) + 1) < g) = decide (gi p ((p.length : Int) - 1) < g) := by
        rw [decide_eq_decide]
        split <;> omega
      rw [e]
      rfl
    · rw [List.getElem?_eq_none (by rw [l2]; omega), List.getElem?_eq_none (by rw [List.length_append, l1]; simp; omega)]
end Fo
/-! FoldM4 -/
namespace Fo
open PySem L2 Evl

/-! ### sorted ints -/
def srt (ns : List Int) : List Int := ns.mergeSort (fun a b => decide (a ≤ b))
theorem srt_perm (ns : List Int) : (srt ns).Perm ns := List.mergeSort_perm ns _
theorem srt_asc (ns : List Int) : (srt ns).Pairwise (· ≤ ·) := by
  have h := List.pairwise_mergeSort (le := fun a b : Int => decide (a ≤ b)) (fun a b c h1 h2 => by
    have := of_decide_eq_true h1
    have := of_decide_eq_true h2
    exact decide_eq_true (by omega)) (fun a b => by
    rcases Int.le_total a b with h | h
    · rw [decide_eq_true h]; rfl
    · rw [decide_eq_true h, Bool.or_true]) ns
  exact h.imp fun h => of_decide_eq_true h
theorem srt_eq {ns ms : List Int} (hp : ms.Perm ns) (ho : ms.Pairwise (· ≤ ·)) : ms = srt ns :=
  List.Perm.eq_of_pairwise (fun a b _ _ h1 h2 => Int.le_antisymm h1 h2) ho (srt_asc ns) (hp.trans (srt_perm ns).symm)
theorem srt_congr {ns ms : List Int} (hp : ms.Perm ns) : srt ms = srt ns := srt_eq ((srt_perm ms).trans hp) (srt_asc ms)
theorem srt_len (ns : List Int) : (srt ns).length = ns.length := (srt_perm ns).length_eq

/-! ### what is drawn and what holds -/
def heldB (p : List Int) (f l c s : Int) : Bool := (List.range (l - f).toNat).any fun (k : Nat) => decide ((f + (k : Int) - c) % 2 = 0) && wr p (f + (k : Int)) s
def lieB (p : List Int) (f l : Int) : Bool := !(decide (0 < f) && (decide (l < (p.length : Int) - 1) && decide ((l - f) % 2 = 1))) && !(decide (0 < f) && heldB p f l (f - 1) f) && !(decide (l < (p.length : Int) - 1) && heldB p f l l l)
def firstOf (es : List Int) (i : Nat) : Int := if i = 0 then 0 else gi es ((i : Int) - 1) + 1
def partsOf (es : List Int) : List (Int × Int) := (List.range es.length).map fun (i : Nat) => (firstOf es i, gi es (i : Int))
def freeB (p : List Int) (es : List Int) : Bool := (List.range es.length).all fun (i : Nat) => lieB p (firstOf es i) (gi es (i : Int))
def endsOf (n : Int) (cs : List Int) : List Int := srt cs ++ [n - 1]
def freeAt (p : List Int) (cs : List Int) : Bool := freeB p (endsOf (p.length : Int) cs)
theorem freeAt_perm {p cs ds : List Int} (h : cs.Perm ds) : freeAt p cs = freeAt p ds := by
  unfold freeAt endsOf
  rw [srt_congr h]
structure Creases (n : Int) (cs : List Int) : Prop where
  bnd : ∀ x ∈ cs, 0 ≤ x ∧ x ≤ n - 2
  nd : cs.Nodup
theorem ends_len (n : Int) (cs : List Int) : (endsOf n cs).length = cs.length + 1 := by
  unfold endsOf
  rw [List.length_append, srt_len, List.length_singleton]
theorem ends_bnd {n : Int} {cs : List Int} (hn : 1 ≤ n) (h : ∀ x ∈ cs, 0 ≤ x ∧ x ≤ n - 2) {i : Nat} (hi : i < (endsOf n cs).length) : 0 ≤ firstOf (endsOf n cs) i ∧ firstOf (endsOf n cs) i ≤ n - 1 ∧ 0 ≤ gi (endsOf n cs) (i : Int) ∧ gi (endsOf n cs) (i : Int) ≤ n - 1 := by
  have hl := ends_len n cs
  have low : ∀ k : Nat, k < cs.length → 0 ≤ gi (endsOf n cs) (k : Int) ∧ gi (endsOf n cs) (k : Int) ≤ n - 2 := fun k hk => by
    have e : gi (endsOf n cs) (k : Int) = gi (srt cs) (k : Int) := gi_app1 (by rw [srt_len]; exact hk)
    rw [e]
    exact h _ ((srt_perm cs).mem_iff.mp (gi_mem (by omega) (by rw [srt_len]; omega)))
  have all : ∀ k : Nat, k < cs.length + 1 → 0 ≤ gi (endsOf n cs) (k : Int) ∧ gi (endsOf n cs) (k : Int) ≤ n - 1 := fun k hk => by
    by_cases hk2 : k < cs.length
    · have := low k hk2
      omega
    · have e : gi (endsOf n cs) (k : Int) = n - 1 := by
        unfold endsOf
        rw [gi_app2 (by rw [srt_len]; omega), srt_len, show k - cs.length = 0 by omega]
        rfl
      rw [e]
      omega
  have a := all i (by omega)
  refine ⟨?_, ?_, a.1, a.2⟩
  · unfold firstOf
    split
    · omega
    · have e : ((i : Int) - 1) = ((i - 1 : Nat) : Int) := by omega
      have := low (i - 1) (by omega)
      rw [e]
      omega
  · unfold firstOf
    split
    · omega
    · have e : ((i : Int) - 1) = ((i - 1 : Nat) : Int) := by omega
      have := low (i - 1) (by omega)
      rw [e]
      omega
theorem firstOf_succ (es : List Int) (i : Nat) : firstOf es (i + 1) = gi es (i : Int) + 1 := by
  unfold firstOf
  rw [if_neg (Nat.succ_ne_zero i), show (((i + 1 : Nat) : Int) - 1) = (i : Int) by omega]

/-! ### a set's length -/
theorem nd_le : ∀ {ks ns : List Int}, ks.Nodup → (∀ k ∈ ks, k ∈ ns) → ks.length ≤ ns.length
  | [], ns, _, _ => Nat.zero_le _
  | k :: ks, ns, nd, h => by
    have hk := h k List.mem_cons_self
    have nd2 := List.nodup_cons.mp nd
    have ih := nd_le (ks := ks) (ns := ns.erase k) nd2.2 fun x hx => by
      refine (List.mem_erase_of_ne fun e => ?_).mpr (h x (List.mem_cons_of_mem _ hx))
      subst e
      exact nd2.1 hx
    have hl := List.length_erase_of_mem hk
    have hp := List.length_pos_of_mem hk
    rw [List.length_cons]
    omega
theorem set_len {ks ns : List Int} (nd : ks.Nodup) (h : ∀ k, k ∈ ks ↔ k ∈ ns) : ks.length ≤ ns.length ∧ (ks.length = ns.length ↔ ns.Nodup) := by
  have h1 := nd_le nd fun k hk => (h k).mp hk
  refine ⟨h1, fun e => ?_, fun n2 => Nat.le_antisymm h1 (nd_le n2 fun k hk => (h k).mpr hk)⟩
  refine Classical.byContradiction fun hn => ?_
  have go : ∀ ms : List Int, ¬ ms.Nodup → ∃ ks : List Int, (∀ x ∈ ms, x ∈ ks) ∧ ks.length < ms.length := by
    intro ms
    induction ms with
    | nil => exact fun hx => absurd List.nodup_nil hx
    | cons m ms ih =>
      intro hx
      by_cases hm : m ∈ ms
      · exact ⟨ms, fun x hx' => by
          rcases List.mem_cons.mp hx' with rfl | hx'
          · exact hm
          · exact hx', by simp⟩
      · have hms : ¬ ms.Nodup := fun q => hx (List.nodup_cons.mpr ⟨hm, q⟩)
        obtain ⟨ks, k1, k2⟩ := ih hms
        exact ⟨m :: ks, fun x hx' => by
          rcases List.mem_cons.mp hx' with rfl | hx'
          · exact List.mem_cons_self
          · exact List.mem_cons_of_mem _ (k1 x hx'), by simpa using k2⟩
  obtain ⟨ls, l1, l2⟩ := go ns hn
  have := nd_le nd fun k hk => l1 k ((h k).mp hk)
  omega

/-! ### every second one, then the others -/
theorem two_halves : ∀ n : Nat, n ≤ 100 → ((sliceRange 1 (n : Int) 2 ++ sliceRange 0 (n : Int) 2).Perm (List.range n)) := by
  have h : ∀ n : Fin 101, ((sliceRange 1 ((n : Nat) : Int) 2 ++ sliceRange 0 ((n : Nat) : Int) 2).Perm (List.range (n : Nat))) := by decide +kernel
  exact fun n hn => h ⟨n, by omega⟩
end Fo
/-! FoldC -/
namespace Fo
open PySem PySem.Spec PyProof.Rows L2 Evl

/-! ### a loop over a list or a tuple -/
def iSeq (K : PySem.W.Frag) (tl : TE) : TI := fun σ H R => tl σ H fun x H1 => ∃ a, x = .ref a ∧ (((∃ xs, SqL K H1 a xs) ∧ R (Itl K a) H1) ∨ ((∃ xs, SqT K H1 a xs) ∧ R (Itt K a) H1))
theorem pi_seq {X : Cx} {tg l : Expr} {tl : TE} (hl : PE X l tl) : PI X tg l (iSeq X.K tl) := by
  refine ⟨fun pins s σ H R I h => ?_⟩
  refine thn (hl.run pins s σ H _ I h) fun v s1 ⟨x, H1, I1, r1, q1⟩ => ?_
  obtain ⟨a, e, q⟩ := q1
  subst e
  cases r1
  rcases q with ⟨⟨xs, hq⟩, q⟩ | ⟨⟨xs, hq⟩, q⟩
  · obtain ⟨its, rv, p, hz⟩ := I1.list hq
    refine wpAny_pyIter_list p.isList ?_
    refine ⟨s1.heap.objs.size, [s1.heap.objs.size], _, _, H1, rfl, I1.kept (t' := s1.toks) fun b o e => Heap.get?_push_of_some _ e, turn_list a _, ⟨_, Heap.get?_push_size _ rfl, rfl, rfl⟩, fun b hb => ?_, q⟩
    have e : b = s1.heap.objs.size := by simpa using hb
    subst e
    exact I1.fpOk (Nat.le_refl _) (I1.hok.fresh (Nat.le_refl _))
  · obtain ⟨its, rv, p, hz⟩ := I1.tuple hq
    refine wpAny_pyIter_tuple (show s1.heap.IsTuple a its.toArray from p) ?_
    refine ⟨s1.heap.objs.size, [s1.heap.objs.size], _, _, H1, rfl, I1.kept (t' := s1.toks) fun b o e => Heap.get?_push_of_some _ e, turn_tuple a _, ⟨_, Heap.get?_push_size _ rfl, rfl, rfl⟩, fun b hb => ?_, q⟩
    have e : b = s1.heap.objs.size := by simpa using hb
    subst e
    exact I1.fpOk (Nat.le_refl _) (I1.hok.fresh (Nat.le_refl _))

/-! ### sorted(list or tuple) -/
section
variable {prog : Program} {w : World} {A : Around} {E : Value → Shared → Prop} {s : Shared}
theorem sorted_seq {l : Addr} {T : String} {o : Obj} {vs : List Value} {n : Nat} {ns : List Int} {Q : Value → Shared → Prop} (hT : T = "list" ∨ T = "tuple") (ho : s.heap.get? l = some o) (hc : o.cls = .type T) (hd : o.data = .seq vs.toArray n) (hI : IntsAre vs ns) (hz : vs.length ≤ sizeLine)
    (h : ∀ (h1 h' : Heap) (a : Addr) (out : List Value) (e : Nat), (∀ b o', s.heap.get? b = some o' → h1.get? b = some o') → (∀ b o', h1.get? b = some o' → h'.get? b = some o') → h1.objs.size ≤ a → h'.get? a = some (seqObj "list" out.toArray e) → SrtO.Srtd SrtO.ltIv out → SrtO.Stb SrtO.ltIv out vs → Q (.ref a) { s with heap := h' }) :
    wpAny (model prog w) A (call (.builtin "sorted") [.ref l]) Q E s := by
  refine Calls.call_function_entry kind_sorted plain_sorted entry_sorted (args_sorted1 _) ?_
  unfold Builtin.«sorted»
  refine wpAny_bind (m := checkCount "sorted" 1 1 _) (wpAny_pure ?_)
  refine wpAny_bind (wpAny_collect_seq l hT ho hc hd (fun h1 hk => ?_) (by rw [List.size_toArray]; exact hz))
  rw [List.toList_toArray]
  refine wpAny_bind (wpAny_newList ?_ hz)
  have hoL : (h1.push (seqObj "list" vs.toArray 0)).get? h1.objs.size = some (seqObj "list" vs.toArray 0) := Heap.get?_push_size _ rfl
  show wpAny _ _ _ _ _ { s with heap := h1.push (seqObj "list" vs.toArray 0) }
  refine wpAny_bind (wpAny_holding (wpAny_call_entry slot_list_sort ⟨_, hoL, rfl⟩ entry_list_sort (SrtO.list_sort_ord SrtO.swo_int hoL hz (fun h2 => SrtO.ints_sortable hI h2) fun out hs hb => ⟨_, rfl, ?_⟩) (args_list_sort _)))
  obtain ⟨ep, he'⟩ := PyProof.Rows.sortedHeap_at (vs := vs) (out := out.toArray) hoL
  refine wpAny_pure ⟨_, rfl, h h1 _ _ out ep hk (fun b o' q => ?_) (Nat.le_refl _) he' hs hb⟩
  rw [PyProof.Rows.sortedHeap_old (Nat.ne_of_lt (Heap.lt_size q)) (by rw [Heap.size_push]; exact Nat.lt_succ_of_lt (Heap.lt_size q))]
  exact Heap.get?_push_of_some _ q
end
/-- sorted(xs), xs a list or a tuple of ints -/
def rSortedQ (K : PySem.W.Frag) : List V → Hp → VK → Prop := fun vs H Q => ∃ (a : Addr) (ns : List Int), vs = [V.ref a] ∧ (SqL K H a (ns.map V.int) ∨ SqT K H a (ns.map V.int)) ∧
  ∀ (ns' : List Int) (p : Addr), ns'.Perm ns → ns'.Pairwise (· ≤ ·) → H p = none → Q (.ref p) (upd H p (.lst (ns'.map V.int)))
theorem cr_sortedS2 {X : Cx} : CallR X (.builtin "sorted") (rSortedQ X.K) := by
  intro pins s σ H vs us Q I r h
  obtain ⟨a, ns, rfl, hs, q⟩ := h
  rw [Vals.ref1 r]
  obtain ⟨T, o, n, its, hT, ho, hc, hd, rv, hz⟩ : ∃ (T : String) (o : Obj) (n : Nat) (its : List Value), (T = "list" ∨ T = "tuple") ∧ s.heap.get? a = some o ∧ o.cls = .type T ∧ o.data = .seq its.toArray n ∧ Vals (ns.map V.int) its ∧ (ns.map V.int).length ≤ sizeLine := by
    rcases hs with hs | hs
    · obtain ⟨its, rv, p, hz⟩ := I.list hs
      obtain ⟨o, ho, hc, n, hd⟩ := p.isList
      exact ⟨"list", o, n, its, .inl rfl, ho, hc, hd, rv, hz⟩
    · obtain ⟨its, rv, p, hz⟩ := I.tuple hs
      obtain ⟨o, ho, hc, n, hd⟩ := id p
      exact ⟨"tuple", o, n, its, .inr rfl, ho, hc, hd, rv, hz⟩
  have hi := rv.ints
  refine sorted_seq hT ho hc hd hi (by rw [← rv.length]; exact hz) fun h1 h' p out e k1' k2' hle he' g1 g2 => ?_
  obtain ⟨k1, k2, k3⟩ := SrtO.ints_out hi g1 g2
  have I1 : Inv X pins σ H { s with heap := h1 } := I.kept (t' := s.toks) k1'
  have hlen : ((out.map SrtO.iv).map V.int).length ≤ sizeLine := by
    rw [List.length_map, k2.length_eq]
    rw [List.length_map] at hz
    exact hz
  exact ⟨.ref _, upd H p (.lst ((out.map SrtO.iv).map V.int)), I1.laid (t' := s.toks) k2' hle ⟨hlen, out, e, vals_of_ints k1, he'⟩, rfl, q _ _ k2 k3 (I1.hok.fresh hle)⟩

/-! ### len(set(xs)), xs a list or a tuple of ints -/
def tLenSet (K : PySem.W.Frag) (ta : TE) : TE := fun σ H Q => ta σ H fun x H1 => ∃ (l : Addr) (ns : List Int), x = .ref l ∧ (SqL K H1 l (ns.map V.int) ∨ SqT K H1 l (ns.map V.int)) ∧ ns.length ≤ 4000 ∧ ∀ ks : List Int, ks.Nodup → (∀ k, k ∈ ks ↔ k ∈ ns) → Q (.int (ks.length : Nat)) H1
theorem fm_nodup (val : Nat → Int) : ∀ i, (PyProof.Rows.firstMet val i).Nodup
  | 0 => List.nodup_nil
  | i + 1 => by
    have ih := fm_nodup val i
    rw [PyProof.Rows.firstMet_succ]
    unfold PyProof.Rows.step_dedup
    split
    · exact ih
    · rename_i h
      refine List.nodup_append.mpr ⟨ih, by simp, fun a ha b hb => ?_⟩
      have e : b = val i := by simpa using hb
      subst e
      intro e
      subst e
      exact h (List.any_eq_true.mpr ⟨_, ha, by simp⟩)
theorem fm_mem (ns : List Int) (k : Int) : k ∈ PyProof.Rows.firstMet (fun i => ns.getD i 0) ns.length ↔ k ∈ ns := by
  have h := PyProof.Rows.firstMet_any (fun i => ns.getD i 0) ns.length k
  have e : (List.range ns.length).map (fun i => ns.getD i 0) = ns := by
    refine List.ext_getElem (by simp) fun i h1 h2 => ?_
    simp [List.getD_eq_getElem?_getD, List.getElem?_eq_getElem h2]
  rw [e] at h
  have f : ∀ l : List Int, l.any (· == k) = true ↔ k ∈ l := fun l => by simp [List.any_eq_true]
  rw [← f, ← f, h]
theorem pe_lenSet {X : Cx} {a : Expr} {ta : TE} {p p2 q pos : Pos} (hg : Gl X "len") (hm : X.mg "len" = none) (hg2 : Gl X "set") (hm2 : X.mg "set" = none) (ha : PE X a ta) (hc : X.calm = true := by rfl)
    (na : starEach [a] X.env = (false, eval a X.env) :: starEach [] X.env := by rfl) : PE X (.Call (.Name "len" p) [.Call (.Name "set" p2) [a] [] q] [] pos) (tLenSet X.K ta) := by
  refine ⟨fun pins s σ H Q I h => ?_⟩
  refine Call_ (ld_blt I hg hm boot_len ?_)
  refine PyProof.Rows.callWith_builtin1 (PyProof.Rows.args_cons ?_ rfl) rfl rfl
  refine Call_ (ld_blt I hg2 hm2 boot_set ?_)
  refine PyProof.Rows.callWith_type1 (PyProof.Rows.args_cons (thn (ha.run pins s σ H _ I h) fun v s1 ⟨x, H1, I1, r1, q1⟩ => PyProof.Rows.args_nil ?_) na) na rfl
  obtain ⟨l, ns, rfl, hq, hl, q1⟩ := q1
  cases r1
  rcases hq with hq | hq
  · obtain ⟨its, r, pl, hz⟩ := I1.list hq
    have hlen : its.toArray.size = ns.length := by rw [List.size_toArray, ← r.length, List.length_map]
    refine call_set_list (I1.ok.hd hc) pl.isList (by simpa using RZ.intsAre_vals r) (by rw [hlen]; unfold scanBound; omega) fun h' tk hS hk => ?_
    refine PyProof.Rows.args_nil ?_
    rw [hlen] at hS
    obtain ⟨o, es, ep, t, ho, hex, hd, _, _, _, hf, hn⟩ := hS
    have I2 : Inv X pins σ H1 { s1 with heap := h', toks := tk } := I1.kept fun b o e => hk b o (Heap.lt_size e) e
    have hle := PyProof.Rows.firstMet_length_le (fun i => ns.getD i 0) ns.length
    exact call_len_set ho hex hd hf (by rw [hn] <;> omega) ⟨.int (PyProof.Rows.firstMet (fun i => ns.getD i 0) ns.length).length, H1, I2.tok _, ⟨_, by rw [hn]⟩, q1 _ (fm_nodup _ _) (fm_mem ns)⟩
  · obtain ⟨its, r, pl, hz⟩ := I1.tuple hq
    refine call_set_tupI ns (I1.ok.hd hc) (show s1.heap.IsTuple l its.toArray from pl) (by simpa using RZ.intsAre_vals r) (by unfold scanBound; omega) fun h' tk c hS hcn hk => ?_
    refine PyProof.Rows.args_nil ?_
    obtain ⟨o, es, ep, t, ho, hex, hd, hg, hnd, hmem, hsb, hf, hn, _, _⟩ := hS
    have I2 : Inv X pins σ H1 { s1 with heap := h', toks := tk } := I1.kept fun b o e => hk b o e
    have hks : (es.toList.map keyOf).length = es.size := by rw [List.length_map, Array.length_toList]
    exact call_len_set ho hex hd hf (by rw [hn] <;> omega) ⟨.int ((es.toList.map keyOf).length : Nat), H1, I2.tok _, ⟨_, by rw [hks]⟩, q1 _ hnd fun k => by
      rw [← hmem k, decide_eq_true_eq]⟩

/-! ### list(reversed(xs)) -/
section
variable {prog : Program} {w : World} {A : Around} {E : Value → Shared → Prop} {s : Shared}
theorem extend_rev {it l : Addr} {items : Array Value} {R : Result → Shared → Prop} (hh : A.handled = none) (hit : s.heap.IsRevIter it l ((items.size : Int) - 1)) (hl : s.heap.IsList l items) (hne : l ≠ it) (hn : items.size ≤ sizeLine) (S : Addr) (hSi : S ≠ it) (hSl : S ≠ l) (res : Value) (c₀ : Nat) (hS : s.heap.get? S = some { cls := .type "list", data := .seq #[] c₀ })
    (hR : ∀ h' tk acc' c', (∀ b o, b ≠ S → b ≠ it → s.heap.get? b = some o → h'.get? b = some o) → h'.get? S = some { cls := .type "list", dict := none, data := .seq acc' c', slots := #[] } →
      ItemsOf (fun i v => items[items.size - 1 - i]? = some v) acc' items.size → R (.ok (.ret res)) { s with heap := h', toks := tk }) :
    wpAny (model prog w) A.in1 (Builtin.List.listExtendWith (.ref S) (.ref it) res)
      (fun fin s' => match fin with | .done f => R (.ok f) s' | .again c' => c'.quiet = true ∧ codeAny (model prog w) A c' R s') (fun e s' => R (.error e) s') s := by
  have W := (Walks.listRev (prog := prog) (w := w) (A := A.in1) hh it l hne items).toS
  have hSf : S ∉ [it, l] := by simp only [List.mem_cons, List.not_mem_nil, or_false, not_or]; exact ⟨hSi, hSl⟩
  have hT : s.TypeIs (.ref it) "list_reverseiterator" := hit.typeIs
  have h1 : Builtin.List.listSameRef (.ref S) (.ref it) = false := by simp [Builtin.List.listSameRef, hSi]
  unfold Builtin.List.listExtendWith
  refine wpAny_bind (wpAny_typeOf hT ?_)
  rw [if_neg (by rw [h1]; decide)]
  refine wpAny_bind (wpAny_pyIter_revIter hit ?_)
  refine wpAny_bind (wpAny_holding ?_)
  unfold Builtin.List.listLengthHint
  refine wpAny_bind (wpAny_specialOf hT RT.nolen_lri ?_)
  show wpAny _ A.in1 (specialOf (Value.ref it) (Str.ofString "__length_hint__") >>= _) _ _ _
  refine wpAny_bind (wpAny_specialOf hT RT.hint_lri ?_)
  generalize hid : ("list_reverseiterator.__length_hint__" : String) = id0
  wp_delta
  rw [show splitId id0 = some ("list_reverseiterator", "__length_hint__") from by subst hid; decide +kernel]
  subst hid
  refine wpAny_bind (wpAny_isInstance (b := true) hT (by rw [isSubtype_type]; kernel_rfl) ?_)
  refine wpAny_pure ?_
  rw [if_neg (by decide)]
  have e0 : ((items.size : Nat) : Int) - 1 - ((0 : Nat) : Int) = (items.size : Int) - 1 := by omega
  refine wpAny_pure ⟨plainId_quiet F.plain_extend_loop _, codeAny_extend_loopS W hn _ hSf _ items.size 0 _ _ _ rfl (Nat.zero_le _) ⟨Nat.zero_le _, by rw [e0]; exact hit, hl⟩ hS (ItemsOf.nil _) fun s' acc' c' hm hS' hacc => ?_⟩
  rw [Moved.eq_with hm]
  refine hR s'.heap s'.toks acc' c' (fun b o hb hb2 e => hm.heap b o (fun hmem => ?_) e) hS' hacc
  rcases List.mem_cons.mp hmem with e' | hmem
  · exact hb e'
  · exact hb2 (List.mem_singleton.mp hmem)
theorem call_list_rev {it l : Addr} {items : Array Value} {Q : Value → Shared → Prop} (hh : A.handled = none) (hit : s.heap.IsRevIter it l ((items.size : Int) - 1)) (hl : s.heap.IsList l items) (hne : l ≠ it) (hn : items.size ≤ sizeLine)
    (hQ : ∀ h' tk acc' c', (∀ b o, b ≠ it → s.heap.get? b = some o → h'.get? b = some o) →
      h'.get? s.heap.objs.size = some { cls := .type "list", dict := none, data := .seq acc' c', slots := #[] } → ItemsOf (fun i v => items[items.size - 1 - i]? = some v) acc' items.size → Q (.ref s.heap.objs.size) { s with heap := h', toks := tk }) :
    wpAny (model prog w) A (call (.type "list") [.ref it]) Q E s := by
  obtain ⟨oi, hoi, _⟩ := id hit
  obtain ⟨ol, hol, _⟩ := id hl
  have hSi : s.heap.objs.size ≠ it := Nat.ne_of_gt (Heap.lt_size hoi)
  have hSl : s.heap.objs.size ≠ l := Nat.ne_of_gt (Heap.lt_size hol)
  refine callType_codes (Q₁ := fun obj s₁ => obj = .ref s.heap.objs.size ∧ s₁ = { s with heap := s.heap.push { cls := .type "list", data := .seq #[] } }) PySem.F.called_list (PySem.F.typeCall_list_1 _) PySem.F.entry_list_init
    (code_list_new _ ⟨rfl, rfl⟩) fun obj s₁ h₁ => ?_
  obtain ⟨rfl, rfl⟩ := h₁
  have hS : (s.heap.push { cls := .type "list", data := .seq #[] }).get? s.heap.objs.size = some { cls := .type "list", data := .seq #[] } := Heap.get?_push_size _ rfl
  refine ⟨⟨_, hS, rfl⟩, PySem.F.args_list_init_2 _ _, ?_⟩
  show wpAny _ _ (do let old ← Builtin.List.listItems (.ref s.heap.objs.size); Builtin.List.listUpdate (.ref s.heap.objs.size) (fun _ => #[]); letGo old.toList.reverse; Builtin.List.listExtendWith (.ref s.heap.objs.size) (.ref it) .none) _ _ _
  refine wpAny_bind ?_
  unfold Builtin.List.listItems
  refine wpAny_bind (wpAny_seqItems hS rfl (wpAny_pure ?_))
  show wpAny _ _ (updateSeq s.heap.objs.size (fun _ => #[]) >>= fun _ => letGo (#[] : Array Value).toList.reverse >>= fun _ => Builtin.List.listExtendWith (.ref s.heap.objs.size) (.ref it) .none) _ _ _
  refine wpAny_bind (wpAny_updateSeq hS rfl ?_)
  have hS₂ := Heap.get?_update_self (Obj.mapSeq (fun _ => (#[] : Array Value))) hS rfl
  have oth : ∀ b o, b ≠ s.heap.objs.size → s.heap.get? b = some o → ((s.heap.push { cls := .type "list", data := .seq #[] }).update s.heap.objs.size (Obj.mapSeq (fun _ => (#[] : Array Value)))).get? b = some o :=
    fun b o hb e => (Heap.get?_update_other _ _ (Ne.symm hb)).trans (Heap.get?_push_of_some _ e)
  refine wpAny_bind (wpAny_letGo ?_)
  have hit2 := hit.at fun o e => oth it o (Ne.symm hSi) e
  have hl2 : ((s.heap.push { cls := .type "list", data := .seq #[] }).update s.heap.objs.size (Obj.mapSeq (fun _ => (#[] : Array Value)))).IsList l items := by
    obtain ⟨o, ho, r⟩ := id hl
    exact ⟨o, oth l o (Ne.symm hSl) ho, r⟩
  refine extend_rev (A := A.in1) hh (hit := hit2) (hl := hl2) hne hn s.heap.objs.size hSi hSl .none _ hS₂ (fun h' tk acc' c' hk hS' hacc => ?_)
  exact ⟨rfl, hQ h' tk acc' c' (fun b o hb e => hk b o (Nat.ne_of_lt (Heap.lt_size e)) hb (oth b o (Nat.ne_of_lt (Heap.lt_size e)) e)) hS' hacc⟩
end
def tListRev (K : PySem.W.Frag) (te : TE) : TE := fun σ H Q => te σ H fun v H1 => ∃ (a : Addr) (xs : List V), v = .ref a ∧ SqL K H1 a xs ∧ ∀ q, H1 q = none → Q (.ref q) (upd H1 q (.lst xs.reverse))
theorem pe_listRev {X : Cx} {e : Expr} {te : TE} {p p2 pos pos2 : Pos} (hc : X.calm = true) (hg : Gl X "list") (hm : X.mg "list" = none) (hg2 : Gl X "reversed") (hm2 : X.mg "reversed" = none) (he : PE X e te)
    (hs : starEach [e] X.env = (false, eval e X.env) :: starEach [] X.env := by rfl)
    (hs2 : starEach [.Call (.Name "reversed" p2) [e] [] pos2] X.env = (false, eval (.Call (.Name "reversed" p2) [e] [] pos2) X.env) :: starEach [] X.env := by rfl) :
    PE X (.Call (.Name "list" p) [.Call (.Name "reversed" p2) [e] [] pos2] [] pos) (tListRev X.K te) := by
  refine ⟨fun pins s σ H Q I h => ?_⟩
  refine Call_ (ld_blt I hg hm boot_list (PyProof.Rows.callWith_type1 (args_cons (Call_ (ld_blt I hg2 hm2 PyProof.Rows.boot_reversed (PyProof.Rows.callWith_type1 (args_cons (thn (he.run pins s σ H _ I h) fun u s1 ⟨v, H1, I1, r1, q1⟩ => args_nil ?_) hs) hs rfl))) hs2) hs2 rfl))
  obtain ⟨a, xs, ev, hq, q⟩ := q1
  subst ev
  obtain rfl : u = Value.ref a := r1
  obtain ⟨its, rv, p', hz⟩ := I1.list hq
  refine call_reversed_list p'.isList (args_nil ?_)
  have k0 : ∀ b o, s1.heap.get? b = some o → (s1.heap.push (revObj a ((its.toArray.size : Int) - 1))).get? b = some o := fun b o e => Heap.get?_push_of_some _ e
  have I2 : Inv X pins σ H1 { s1 with heap := s1.heap.push (revObj a ((its.toArray.size : Int) - 1)) } := I1.kept (t' := s1.toks) k0
  obtain ⟨f0, f1, f2, f3, f4, f5⟩ := I1.fpOk (H' := H1) (b := s1.heap.objs.size) (Nat.le_refl _) (I1.hok.fresh (Nat.le_refl _))
  have hl := p'.isList
  obtain ⟨ol, hol, _⟩ := id hl
  have hne : a ≠ s1.heap.objs.size := Nat.ne_of_lt (Heap.lt_size hol)
  have hn : its.toArray.size ≤ sizeLine := by rw [List.size_toArray, ← rv.length]; exact hz
  refine call_list_rev (s := { s1 with heap := s1.heap.push (revObj a ((its.toArray.size : Int) - 1)) }) (I1.ok.hd hc) ⟨_, Heap.get?_push_size _ rfl, rfl, rfl⟩ (hl.push _) hne hn fun h' tk acc c' hk hS hi => ?_
  rw [show ({ s1 with heap := s1.heap.push (revObj a ((its.toArray.size : Int) - 1)) } : Shared).heap.objs.size = s1.heap.objs.size + 1 from by rw [Heap.size_push]] at hS ⊢
  have hrv := RT.vals_rev rv hi
  have fp := I1.fpOk (H' := H1) (b := s1.heap.objs.size) (Nat.le_refl _) (I1.hok.fresh (Nat.le_refl _))
  exact ⟨.ref (s1.heap.objs.size + 1), upd H1 (s1.heap.objs.size + 1) (.lst xs.reverse), I2.turnedNew (t' := tk) (ch := [s1.heap.objs.size]) (fun b o hb e => hk b o (fun z => hb (by rw [z]; exact List.mem_cons_self)) e) (fun b hb => by
    rw [List.mem_singleton.mp hb]
    exact fp) (by rw [Heap.size_push]; exact Nat.le_refl _) ⟨by rw [List.length_reverse]; exact hz, acc.toList, c', hrv, by rw [hS]⟩, rfl, q _ (I1.hok.fresh (Nat.le_succ _))⟩

/-! ### step slices -/
def pick2 (xs : List V) (lo hi st : Option Int) : List V := (sliceRange (sliceBounds lo hi st xs.length).1 (sliceBounds lo hi st xs.length).2.1 (sliceBounds lo hi st xs.length).2.2).filterMap (xs[·]?)
theorem vals_pick {xs : List V} {its : List Value} (r : Vals xs its) : ∀ ks : List Nat, Vals (ks.filterMap (xs[·]?)) (ks.filterMap (its[·]?))
  | [] => .nil
  | k :: ks => by
    have ih := vals_pick r ks
    by_cases hk : k < xs.length
    · obtain ⟨u, hu, ru⟩ := r.get (List.getElem?_eq_getElem hk)
      rw [List.filterMap_cons, List.filterMap_cons, List.getElem?_eq_getElem hk, hu]
      exact .cons ru ih
    · have hl := r.length
      rw [List.filterMap_cons, List.filterMap_cons, List.getElem?_eq_none (by omega), List.getElem?_eq_none (by omega)]
      exact ih
def tStep (K : PySem.W.Frag) (k : Int) (te : TE) (tl : TO) : TE := fun σ H Q => te σ H fun x H1 => tl σ H1 fun lo H2 => ∃ a xs, x = .ref a ∧ SqL K H2 a xs ∧ ∀ p, H2 p = none → Q (.ref p) (upd H2 p (.lst (pick2 xs lo none (some k))))
theorem pe_step {X : Cx} {e : Expr} {te : TE} {tl : TO} {lower : Option Expr} {k : Int} {kt : Nat} {p1 p3 pos : Pos} (hk : k ≠ 0) (he : PE X e te) (hl : PO X lower tl) : PE X (.Subscript e (.Slice lower none (some (.Constant (.int k) kt p1)) p3) pos) (tStep X.K k te tl) := by
  refine ⟨fun pins s σ H Q I h => ?_⟩
  refine Subscript_ (thn (he.run pins s σ H _ I h) fun v s1 ⟨x, H1, I1, r1, q1⟩ => ?_)
  have hst : PO X (some (.Constant (.int k) kt p1)) (tPart (tC (.int k))) := po_some pe_int
  refine wpAny_Slice (thn (hl.run pins s1 σ H1 _ I1 q1) fun vl s2 ⟨l, H2, I2, pl, q2⟩ => ?_)
  obtain ⟨a, xs, ex, hx, q⟩ := q2
  subst ex
  cases r1
  refine thn (po_none.run pins s2 σ H2 (fun o H3 => o = none ∧ H3 = H2) I2 ⟨rfl, rfl⟩) fun vu s3 ⟨u, H3, I3, pu, eu, e3⟩ => ?_
  subst eu e3
  refine thn (hst.run pins s3 σ H3 (fun o H4 => o = some k ∧ H4 = H3) I3 ⟨k, rfl, rfl, rfl⟩) fun vs s4 ⟨o, H4, I4, ps, eo, e4⟩ => ?_
  subst eo e4
  have I5 : Inv X pins σ H4 { s4 with heap := s4.heap.push { cls := .type "slice", data := .fields #[vl, vu, vs] } } := I4.kept (t' := s4.toks) fun b ob q => Heap.get?_push_of_some _ q
  obtain ⟨its, r, ht, hz⟩ := I5.list hx
  have hlen := r.length
  show wpAny (model X.prog X.w) X.A (subscriptTail e (.Slice lower none (some (.Constant (.int k) kt p1)) p3) (.ref a) (.ref s4.heap.objs.size)) (EP X pins σ Q) X.xe { s4 with heap := s4.heap.push { cls := .type "slice", data := .fields #[vl, vu, vs] } }
  refine tail_any (ops := [.ref a, .ref s4.heap.objs.size]) ht.isList.typeIs (PySem.slot_list_getitem.lookup) ?_ (by with_unfolding_all rfl)
  refine wpAny_getItem_list_slice ht.isList (Heap.IsSliceOf.new _ vl vu vs) pl pu ps (by simpa using hk) ?_ (by rw [List.size_toArray]; omega)
  have hzz : (slicePick its.toArray l none (some k)).size ≤ its.toArray.size := slicePick_size_le _ _ _ _
  have he : slicePick its.toArray l none (some k) = ((sliceRange (sliceBounds l none (some k) xs.length).1 (sliceBounds l none (some k) xs.length).2.1 (sliceBounds l none (some k) xs.length).2.2).filterMap (its[·]?)).toArray := by
    unfold slicePick
    rw [List.size_toArray, ← hlen]
    simp only [List.getElem?_toArray]
  have hv := vals_pick r (sliceRange (sliceBounds l none (some k) xs.length).1 (sliceBounds l none (some k) xs.length).2.1 (sliceBounds l none (some k) xs.length).2.2)
  refine ⟨.ref _, _, I5.laid (t' := s4.toks) (o := .lst (pick2 xs l none (some k))) (fun b ob q => Heap.get?_push_of_some _ q) (Nat.le_refl _) ?_, rfl, q _ (I5.hok.fresh (Nat.le_refl _))⟩
  have hl2 : (pick2 xs l none (some k)).length ≤ sizeLine := by
    have h1 := hv.length
    rw [he, List.size_toArray, List.size_toArray] at hzz
    show (List.filterMap _ _).length ≤ _
    rw [h1]
    omega
  refine ⟨hl2, _, 0, hv, ?_⟩
  rw [← he]
  exact Heap.get?_push_size _ rfl
end Fo
/-! FoldP5 -/
namespace Fo
open PySem L2 Evl

/-- a list or a tuple of ints -/
def Sq2 (K : PySem.W.Frag) (H : Hp) (a : Addr) (ns : List Int) : Prop := SqL K H a (ns.map V.int) ∨ SqT K H a (ns.map V.int)
theorem Sq2.mono {K : PySem.W.Frag} {H H' : Hp} {a : Addr} {ns : List Int} (e : Ex H H') (h : Sq2 K H a ns) : Sq2 K H' a ns := h.elim (fun q => .inl (ex_l e q)) (fun q => .inr (ex_t e q))
def Tups (H : Hp) (ts : List Addr) (ps : List (Int × Int)) : Prop := ts.length = ps.length ∧ ∀ (i : Nat) t q, ts[i]? = some t → ps[i]? = some q → H t = some (.tup [.int q.1, .int q.2])
theorem Tups.mono {H H' : Hp} {ts : List Addr} {ps : List (Int × Int)} (e : Ex H H') (h : Tups H ts ps) : Tups H' ts ps := ⟨h.1, fun i t q h1 h2 => e t _ (h.2 i t q h1 h2)⟩
/-- a new list of new pairs -/
def RetT (ps : List (Int × Int)) (H : Hp) (Q : VK) : Prop := ∀ p ts H2, H p = none → Ex H H2 → H2 p = some (.lst (ts.map V.ref)) → Tups H2 ts ps → Q (.ref p) H2
def EvTs (te : TE) (σ : L2.St) (H : Hp) (ps : List (Int × Int)) : Prop := ∀ H1, Ex H H1 → ∀ Q : VK, RetT ps H1 Q → te σ H1 Q
def SpTs (sp : Sp) (vs : List V) (H : Hp) (ps : List (Int × Int)) : Prop := ∀ H1, Ex H H1 → ∀ Q : VK, RetT ps H1 Q → ∀ E : XK, sp vs H1 Q E
section
variable {K : PySem.W.Frag} {σ : L2.St} {H : Hp} {ta tb te tl : TE} {D : Ends} {tu tz : TS} {v x y : V}
theorem ets_call {sp : Sp} {vs : List V} {E : XK} {ta : TA} {ps : List (Int × Int)} (h : EvA ta σ H vs) (hs : SpTs sp vs H ps) : EvTs (tCall sp [] E ta) σ H ps := fun H1 e Q q =>
  h H1 e _ fun H2 e2 => by
    rw [List.append_nil]
    exact hs H2 (e.trans e2) Q (fun p ts H3 hp e3 h3 t3 => q p ts H3 (fresh_back e2 hp) (e2.trans e3) h3 t3) E
/-- for t in a new list of new pairs -/
theorem g_forT {j : Nat} {ps : List (Int × Int)} (h : EvTs tl σ H ps) (Pv : Hp → Nat → L2.St → Hp → Prop) (h0 : ∀ B, Ex H B → Pv B 0 σ B) (hE : ∀ B i σ' H', Pv B i σ' H' → Ex B H')
    (hs : ∀ B (i : Nat) q t σ' H', ps[i]? = some q → H' t = some (.tup [.int q.1, .int q.2]) → Ex H B → Pv B i σ' H' → Go tu { D with nx := Pv B (i + 1), ct := Pv B (i + 1), bk := tz D } (σ'.set j (some (.ref t))) H') (hd : ∀ B σ' H', Ex H B → Pv B ps.length σ' H' → Go tz D σ' H') : Go (tSeq (tFor (iList K tl) (gName j) tu) tz) D σ H := fun H0 e0 =>
  h H0 e0 _ fun p ts H1 hp e h1 tq => ⟨p, rfl, ⟨_, sq_of h1⟩, for_list (xs := ts.map V.ref) (Pv H1) (h0 H1 (e0.trans e)) (fun i σ' H' _ pv => sq_of (hE H1 i σ' H' pv p _ h1)) (fun i x σ' H' hi pv => by
    rw [List.getElem?_map] at hi
    cases ht : ts[i]? with
    | none => rw [ht] at hi; cases hi
    | some t =>
      rw [ht] at hi
      cases hi
      have hlt : i < ps.length := by
        have := (List.getElem?_eq_some_iff.mp ht).1
        have := tq.1
        omega
      exact (hs H1 i ps[i] t σ' H' (List.getElem?_eq_getElem hlt) (hE H1 i σ' H' pv t _ (tq.2 i t _ ht (List.getElem?_eq_getElem hlt))) (e0.trans e) pv).here) (fun σ' H' pv => (hd H1 σ' H' (e0.trans e) (by
        have e9 : (ts.map V.ref).length = ps.length := by rw [List.length_map]; exact tq.1
        rw [e9] at pv
        exact pv)).here)⟩
/-- a, b = a tuple that stands -/
theorem g_unpack {j k : Nat} {t : Addr} (h : Ev te σ H (.ref t)) (ht : SqT K H t [x, y]) (kk : Go tz D ((σ.set j (some x)).set k (some y)) H) : Go (tSeq (tAsg te (gTup K 2 (gCons (gName j) (gCons (gName k) gNil)))) tz) D σ H := fun H1 e =>
  h H1 e _ fun H2 e2 => ⟨t, [x, y], rfl, ex_t (e.trans e2) ht, rfl, x, [y], rfl, y, [], rfl, rfl, kk H2 (e.trans e2)⟩
theorem g_appU {l : Addr} {xs ys : List V} (hl : H l = some (.lst xs)) (ha : Ev ta σ H (.ref l)) (h : EvU te σ H ys) (hz : xs.length < 100000) (k : ∀ p H1, H p = none → Ex H H1 → H1 p = some (.tup ys) → tz D σ (upd H1 l (.lst (xs ++ [.ref p])))) :
    Go (tSeq (tDrop (tBM K "list" rAppend ta (tCons te tNil))) tz) D σ H := fun H1 e1 => q_appU (e1 l _ hl) (ha.mono e1) (fun H2 e2 => h H2 (e1.trans e2)) hz fun p H2 hp e2 h2 => k p H2 (fresh_back e1 hp) (e1.trans e2) h2
/-- for x in a list or a tuple of ints -/
theorem g_forQ {j : Nat} {a : Addr} {ns : List Int} (h : Ev tl σ H (.ref a)) (hx : Sq2 K H a ns) (Pv : Nat → L2.St → Hp → Prop) (h0 : ∀ H1, Ex H H1 → Pv 0 σ H1) (hE : ∀ i σ' H', Pv i σ' H' → Ex H H')
    (hs : ∀ (i : Nat) x σ' H', ns[i]? = some x → Pv i σ' H' → Go tu { D with nx := Pv (i + 1), ct := Pv (i + 1), bk := tz D } (σ'.set j (some (.int x))) H') (hd : ∀ σ' H', Pv ns.length σ' H' → Go tz D σ' H') : Go (tSeq (tFor (iSeq K tl) (gName j) tu) tz) D σ H := fun H0 e0 =>
  h H0 e0 _ fun H1 e => by
    have step : ∀ (i : Nat) (x : V) σ' H', (ns.map V.int)[i]? = some x → Pv i σ' H' → gName j x σ' H' fun σ2 H2 => tu { D with nx := Pv (i + 1), ct := Pv (i + 1), bk := tz D } σ2 H2 := fun i x σ' H' hi p => by
      rw [List.getElem?_map] at hi
      cases hn : ns[i]? with
      | none => rw [hn] at hi; cases hi
      | some z =>
        rw [hn] at hi
        cases hi
        exact (hs i z σ' H' hn p).here
    have fin : ∀ σ' H', Pv (ns.map V.int).length σ' H' → tz D σ' H' := fun σ' H' p => (hd σ' H' (by rw [List.length_map] at p; exact p)).here
    refine ⟨a, rfl, ?_⟩
    rcases hx with hx | hx
    · exact .inl ⟨⟨_, ex_l (e0.trans e) hx⟩, for_list Pv (h0 H1 (e0.trans e)) (fun i σ' H' _ pv => ex_l (hE i σ' H' pv) hx) step fin⟩
    · exact .inr ⟨⟨_, ex_t (e0.trans e) hx⟩, for_tup Pv (h0 H1 (e0.trans e)) (fun i σ' H' _ pv => ex_t (hE i σ' H' pv) hx) step fin⟩
theorem ev_inI {p : Addr} {ns : List Int} {i : Int} (ha : Ev ta σ H (.int i)) (hb : Ev tb σ H (.ref p)) (hs : Sq2 K H p ns) : Ev (tOp (rIn K false) ta tb) σ H (.bl (decide (i ∈ ns))) := ev_op ha hb fun H1 e Q q => by
  refine ⟨p, _, rfl, Sq2.mono e hs, rfl, List.all_eq_true.mpr fun y hy => by
    obtain ⟨z, _, rfl⟩ := List.mem_map.mp hy
    rfl, ?_⟩
  have e : inV (.int i) (ns.map V.int) = decide (i ∈ ns) := by
    unfold inV
    rw [Bool.eq_iff_iff, List.any_eq_true, decide_eq_true_eq]
    constructor
    · rintro ⟨y, hy, h⟩
      obtain ⟨z, hz, rfl⟩ := List.mem_map.mp hy
      have : z = i := by simpa [eqV] using h
      rw [← this]
      exact hz
    · exact fun h => ⟨.int i, List.mem_map.mpr ⟨i, h, rfl⟩, by simp [eqV]⟩
  show Q (.bl (if false = true then _ else inV (.int i) (ns.map V.int))) H1
  rw [if_neg Bool.false_ne_true, e]
  exact q H1 (Ex.refl H1)
theorem ev_notInI {p : Addr} {ns : List Int} {i : Int} (ha : Ev ta σ H (.int i)) (hb : Ev tb σ H (.ref p)) (hs : Sq2 K H p ns) : Ev (tOp (rIn K true) ta tb) σ H (.bl (!decide (i ∈ ns))) := ev_op ha hb fun H1 e Q q => by
  refine ⟨p, _, rfl, Sq2.mono e hs, rfl, List.all_eq_true.mpr fun y hy => by
    obtain ⟨z, _, rfl⟩ := List.mem_map.mp hy
    rfl, ?_⟩
  have e : inV (.int i) (ns.map V.int) = decide (i ∈ ns) := by
    unfold inV
    rw [Bool.eq_iff_iff, List.any_eq_true, decide_eq_true_eq]
    constructor
    · rintro ⟨y, hy, h⟩
      obtain ⟨z, hz, rfl⟩ := List.mem_map.mp hy
      have : z = i := by simpa [eqV] using h
      rw [← this]
      exact hz
    · exact fun h => ⟨.int i, List.mem_map.mpr ⟨i, h, rfl⟩, by simp [eqV]⟩
  show Q (.bl (if true = true then !inV (.int i) (ns.map V.int) else _)) H1
  rw [if_pos rfl, e]
  exact q H1 (Ex.refl H1)
theorem ev_lenQ {p : Addr} {ns : List Int} (ha : Ev ta σ H (.ref p)) (h : Sq2 K H p ns) : Ev (tCB (rLenS K) (tCons ta tNil)) σ H (.int (ns.length : Int)) := fun H1 e Q q =>
  ha H1 e _ fun H2 e2 => ⟨p, ns.map V.int, rfl, Sq2.mono (e.trans e2) h, by
    rw [List.length_map]
    exact q H2 e2⟩
/-- how many the ints of ns are, each once -/
def dist (ns : List Int) : Nat := (PyProof.Rows.firstMet (fun i => ns.getD i 0) ns.length).length
theorem dist_set {ks ns : List Int} (nd : ks.Nodup) (h : ∀ k, k ∈ ks ↔ k ∈ ns) : ks.length = dist ns :=
  Nat.le_antisymm (nd_le nd fun k hk => (fm_mem ns k).mpr ((h k).mp hk)) (nd_le (fm_nodup _ _) fun k hk => (h k).mpr ((fm_mem ns k).mp hk))
theorem dist_le (ns : List Int) : dist ns ≤ ns.length := (set_len (fm_nodup _ _) (fm_mem ns)).1
theorem dist_iff (ns : List Int) : dist ns = ns.length ↔ ns.Nodup := (set_len (fm_nodup _ _) (fm_mem ns)).2
theorem ev_lenSet {p : Addr} {ns : List Int} (ha : Ev te σ H (.ref p)) (h : Sq2 K H p ns) (hz : ns.length ≤ 4000) : Ev (tLenSet K te) σ H (.int (dist ns : Int)) := fun H1 e Q q =>
  ha H1 e _ fun H2 e2 => ⟨p, ns, rfl, Sq2.mono (e.trans e2) h, hz, fun ks nd hk => by
    rw [dist_set nd hk]
    exact q H2 e2⟩
theorem el_sortedQ {p : Addr} {ns : List Int} (ha : Ev ta σ H (.ref p)) (hs : Sq2 K H p ns) : EvL (tCB (rSortedQ K) (tCons ta tNil)) σ H ((srt ns).map V.int) := fun H1 e Q q =>
  ha H1 e _ fun H2 e2 => ⟨p, ns, rfl, Sq2.mono (e.trans e2) hs, fun ms' l hP hO hl => by
    rw [srt_eq hP hO]
    exact q l _ (fresh_back e2 hl) (e2.trans (Ex.new hl)) upd_same⟩
theorem el_srt {p : Addr} {ns : List Int} (ha : Ev ta σ H (.ref p)) (hs : SqL K H p (ns.map V.int)) : EvL (tCB (rSortedI K) (tCons ta tNil)) σ H ((srt ns).map V.int) := el_sortedL ha hs fun ms hp ho => srt_eq hp ho
theorem el_rev {p : Addr} {xs : List V} (ha : Ev te σ H (.ref p)) (hs : SqL K H p xs) : EvL (tListRev K te) σ H xs.reverse := fun H1 e Q q =>
  ha H1 e _ fun H2 e2 => ⟨p, xs, rfl, ex_l (e.trans e2) hs, fun l hl => q l _ (fresh_back e2 hl) (e2.trans (Ex.new hl)) upd_same⟩
theorem el_step {p : Addr} {xs : List V} {tl : TO} {k : Int} {lo : Option Int} (ha : Ev te σ H (.ref p)) (ho : EvO tl σ H lo) (hs : SqL K H p xs) : EvL (tStep K k te tl) σ H (pick2 xs lo none (some k)) := fun H1 e Q q =>
  ha H1 e _ fun H2 e2 => ho H2 (e.trans e2) _ fun H3 e3 => ⟨p, xs, rfl, ex_l ((e.trans e2).trans e3) hs, fun l hl => q l _ (fresh_back (e2.trans e3) hl) ((e2.trans e3).trans (Ex.new hl)) upd_same⟩
theorem eu_of {p : Addr} {xs : List V} (ha : Ev ta σ H (.ref p)) (hs : SqL K H p xs) : EvU (tCB (rTupS K) (tCons ta tNil)) σ H xs := fun H1 e Q q =>
  ha H1 e _ fun H2 e2 => ⟨p, xs, rfl, .inl ⟨ex_l (e.trans e2) hs, fun l hl => q l _ (fresh_back e2 hl) (e2.trans (Ex.new hl)) upd_same⟩⟩
/-- a call: a value, then a new list or a new tuple -/
theorem ev_callVL {sp : Sp} {E : XK} {xs : List V} {z : V} (h1 : Ev ta σ H x) (h : EvL te σ H xs) (hs : ∀ q H1, H1 q = some (.lst xs) → Ex H H1 → SpV sp [x, .ref q] H1 z) : Ev (tCall sp [] E (tCons ta (tCons te tNil))) σ H z := fun H1 e Q k =>
  h1 H1 e _ fun H2 e2 => h H2 (e.trans e2) _ fun q H3 hq e3 h3 => by
    show sp ([x, .ref q] ++ []) H3 Q E
    exact hs q H3 h3 ((e.trans e2).trans e3) H3 (Ex.refl H3) Q (fun H4 e4 => k H4 ((e2.trans e3).trans e4)) E
theorem ev_callVU {sp : Sp} {E : XK} {xs : List V} {z : V} (h1 : Ev ta σ H x) (h : EvU te σ H xs) (hs : ∀ q H1, H1 q = some (.tup xs) → Ex H H1 → SpV sp [x, .ref q] H1 z) : Ev (tCall sp [] E (tCons ta (tCons te tNil))) σ H z := fun H1 e Q k =>
  h1 H1 e _ fun H2 e2 => h H2 (e.trans e2) _ fun q H3 hq e3 h3 => by
    show sp ([x, .ref q] ++ []) H3 Q E
    exact hs q H3 h3 ((e.trans e2).trans e3) H3 (Ex.refl H3) Q (fun H4 e4 => k H4 ((e2.trans e3).trans e4)) E
/-- a call: two values, a new list, a value -/
theorem ev_callVVLV {sp : Sp} {E : XK} {ta tb te td : TE} {x y w : V} {xs : List V} {z : V} (h1 : Ev ta σ H x) (h2 : Ev tb σ H y) (h : EvL te σ H xs) (h3 : Ev td σ H w) (hs : ∀ q H1, H1 q = some (.lst xs) → Ex H H1 → SpV sp [x, y, .ref q, w] H1 z) : Ev (tCall sp [] E (tCons ta (tCons tb (tCons te (tCons td tNil))))) σ H z := fun H1 e Q k =>
  h1 H1 e _ fun H2 e2 => h2 H2 (e.trans e2) _ fun H3 e3 => h H3 ((e.trans e2).trans e3) _ fun q H4 hq e4 h4 => h3 H4 (((e.trans e2).trans e3).trans e4) _ fun H5 e5 => by
    show sp ([x, y, .ref q, w] ++ []) H5 Q E
    exact hs q H5 (e5 q _ h4) ((((e.trans e2).trans e3).trans e4).trans e5) H5 (Ex.refl H5) Q (fun H6 e6 => k H6 ((((e2.trans e3).trans e4).trans e5).trans e6)) E
/-! ### [x for x in .. if ..] -/
def rangeI (m : Nat) : List Int := (List.range m).map fun (k : Nat) => (k : Int)
theorem rangeI_nd (m : Nat) : (rangeI m).Nodup := by
  unfold rangeI
  refine List.Pairwise.map _ (fun a b h => ?_) List.nodup_range
  omega
theorem rangeI_mem {m : Nat} {x : Int} : x ∈ rangeI m ↔ 0 ≤ x ∧ x < (m : Int) := by
  unfold rangeI
  rw [List.mem_map]
  constructor
  · rintro ⟨k, hk, rfl⟩
    have := List.mem_range.mp hk
    omega
  · exact fun ⟨h0, h1⟩ => ⟨x.toNat, List.mem_range.mpr (by omega), by omega⟩
theorem given_filt (ns : List Int) (q : Int → Bool) : given ns.length (fun k => q (gi ns (k : Int))) (fun k => V.int (gi ns (k : Int))) = (ns.filter q).map V.int := by
  have e : ns = (List.range ns.length).map fun (k : Nat) => gi ns (k : Int) := gi_ext (by simp) fun k hk => by rw [gi_mapR _ hk]
  unfold given
  conv => rhs; rw [e, List.filter_map, List.map_map]
  rfl
theorem el_filt {tl : TE} {t : TT} {a : Addr} {ns : List Int} {j : Nat} (q : Int → Bool) (h : Ev tl σ H (.ref a)) (hx : SqL K H a (ns.map V.int)) (hz : ns.length ≤ 40000) (hw : ∀ x, wipe ((wipe σ [j]).set j (some x)) [j] = wipe σ [j]) (hv : ∀ x, ((wipe σ [j]).set j (some x))[j]? = some (some x))
    (ht : ∀ (x : Int) H1, Ex H H1 → x ∈ ns → EvT t ((wipe σ [j]).set j (some (.int x))) H1 (q x)) : EvL (tLc (iList K tl) (gName j) t (tVar j) [j]) σ H ((ns.filter q).map V.int) := by
  rw [← given_filt]
  have key : ∀ (i : Nat) (x : V), (ns.map V.int)[i]? = some x → x = .int (gi ns (i : Int)) ∧ gi ns (i : Int) ∈ ns := fun i x hi => by
    rw [List.getElem?_map] at hi
    cases hn : ns[i]? with
    | none => rw [hn] at hi; cases hi
    | some z =>
      rw [hn] at hi
      cases hi
      rw [gi_of hn]
      exact ⟨rfl, List.mem_of_getElem? hn⟩
  have g := el_lcL (te := tVar j) (t := t) (j := j) (vs := [j]) (fun k => q (gi ns (k : Int))) (fun k => V.int (gi ns (k : Int))) h hx (by rw [List.length_map]; exact hz) hw
    (fun i x H1 e hi => by
      obtain ⟨r, hm⟩ := key i x hi
      rw [r]
      exact ht _ H1 e hm)
    (fun i x H1 e hi _ => by
      obtain ⟨r, hm⟩ := key i x hi
      rw [r]
      exact ev_var (hv _))
  rw [List.length_map] at g
  exact g
theorem el_filtR {ta : TA} {t : TT} {n : Int} {j : Nat} (q : Int → Bool) (h : EvA ta σ H [.int n]) (hn : 0 ≤ n ∧ n ≤ 40000) (hw : ∀ x, wipe ((wipe σ [j]).set j (some x)) [j] = wipe σ [j]) (hv : ∀ x, ((wipe σ [j]).set j (some x))[j]? = some (some x))
    (ht : ∀ (x : Int) H1, Ex H H1 → 0 ≤ x → x < n → EvT t ((wipe σ [j]).set j (some (.int x))) H1 (q x)) : EvL (tLc (iRng1 ta) (gName j) t (tVar j) [j]) σ H (((rangeI n.toNat).filter q).map V.int) := by
  have e : ((rangeI n.toNat).filter q).map V.int = given n.toNat (fun k => q (k : Int)) (fun k => V.int (k : Int)) := by
    unfold given rangeI
    rw [List.filter_map, List.map_map]
    rfl
  rw [e]
  exact el_lcR1 (fun k => q (k : Int)) (fun k => V.int (k : Int)) h hn hw (fun i H1 e hi => ht _ H1 e (by omega) hi) (fun i H1 e hi _ => ev_var (hv _))
end
theorem pick_two {ms : List Int} (hl : ms.length ≤ 100) : ∃ ks : List Int, pick2 (ms.map V.int) (some 1) none (some 2) ++ pick2 (ms.map V.int) none none (some 2) = ks.map V.int ∧ ks.Perm ms := by
  have hm : ∀ A : List Nat, A.filterMap ((ms.map V.int)[·]?) = (A.filterMap (ms[·]?)).map V.int := fun A => by
    rw [List.map_filterMap]
    refine congrFun (congrArg _ (funext fun k => ?_)) _
    rw [List.getElem?_map]
  by_cases h0 : ms = []
  · subst h0
    exact ⟨[], rfl, .refl _⟩
  have hp : 1 ≤ ms.length := List.length_pos_iff.mpr h0
  refine ⟨(sliceRange 1 (ms.length : Int) 2 ++ sliceRange 0 (ms.length : Int) 2).filterMap (ms[·]?), ?_, ?_⟩
  · rw [← hm, List.filterMap_append]
    have e1 : sliceBounds (some 1) none (some 2) (ms.map V.int).length = (1, (ms.length : Int), 2) := by
      rw [List.length_map]
      simp only [sliceBounds, Option.getD_some]
      have : max 0 (min (1 : Int) (ms.length : Int)) = 1 := by omega
      simp [this]
    have e2 : sliceBounds none none (some 2) (ms.map V.int).length = (0, (ms.length : Int), 2) := by
      rw [List.length_map]
      simp [sliceBounds]
    unfold pick2
    rw [e1, e2]
  · have h := (two_halves ms.length hl).filterMap (ms[·]?)
    refine h.trans (List.Perm.of_eq ?_)
    refine List.ext_getElem? fun k => ?_
    have e : (List.range ms.length).filterMap (ms[·]?) = ms := by
      have q : ∀ l : List Int, (List.range l.length).filterMap (l[·]?) = l := fun l => by
        induction l with
        | nil => rfl
        | cons x l ih =>
          rw [List.length_cons, List.range_succ_eq_map, List.filterMap_cons, List.filterMap_map]
          show x :: List.filterMap (fun k => (x :: l)[k + 1]?) (List.range l.length) = x :: l
          simp only [List.getElem?_cons_succ]
          rw [ih]
      exact q ms
    rw [e]
/-! ### promises -/
def sp_judged (K : PySem.W.Frag) (c : Cs) : Sp := fun vs H Q E => ∃ (a : Addr) (ns : List Int), vs = [.ref a] ∧ SqL K H a (ns.map V.int) ∧ ns.length ≤ 1000 ∧ NoX (pl ns) ∧ OkOr c.np (IsPile ns) (RetL ((pl ns).map V.int) H Q) H E
def sp_parts_of (K : PySem.W.Frag) (c : Cs) : Sp := fun vs H Q _ => ∃ (n : Int) (a : Addr) (cs : List Int), vs = [.int n, .ref a] ∧ Sq2 K H a cs ∧ cs.length ≤ 1000 ∧ RetT (partsOf (endsOf n cs)) H Q
def sp_held (K : PySem.W.Frag) (c : Cs) : Sp := fun vs H Q _ => ∃ (a t : Addr) (p : List Int) (f l cr s : Int), vs = [.ref a, .ref t, .int cr, .int s] ∧ SqL K H a (p.map V.int) ∧ SqT K H t [.int f, .int l] ∧ p.length ≤ 1000 ∧ (0 ≤ f ∧ f < (p.length : Int)) ∧ (0 ≤ l ∧ l < (p.length : Int)) ∧ (0 ≤ s ∧ s < (p.length : Int)) ∧ RetV (.bl (heldB p f l cr s)) H Q
def sp_lies_free (K : PySem.W.Frag) (c : Cs) : Sp := fun vs H Q _ => ∃ (a t : Addr) (p : List Int) (f l : Int), vs = [.ref a, .ref t] ∧ SqL K H a (p.map V.int) ∧ SqT K H t [.int f, .int l] ∧ p.length ≤ 1000 ∧ (0 ≤ f ∧ f < (p.length : Int)) ∧ (0 ≤ l ∧ l < (p.length : Int)) ∧ RetV (.bl (lieB p f l)) H Q
def sp_are_free (K : PySem.W.Frag) (c : Cs) : Sp := fun vs H Q _ => ∃ (a b : Addr) (p cs : List Int), vs = [.ref a, .ref b] ∧ SqL K H a (p.map V.int) ∧ Sq2 K H b cs ∧ 1 ≤ p.length ∧ p.length ≤ 1000 ∧ cs.length ≤ 1000 ∧ (∀ x ∈ cs, 0 ≤ x ∧ x ≤ (p.length : Int) - 2) ∧ RetV (.bl (freeAt p cs)) H Q
def sp_look_at_creases (K : PySem.W.Frag) (c : Cs) : Sp := fun vs H Q E => ∃ (n : Int) (b : Addr) (cs : List Int), vs = [.int n, .ref b] ∧ Sq2 K H b cs ∧ cs.length ≤ 1000 ∧ OkOr c.nc (Creases n cs) (RetV .non H Q) H E
def sp_free (K : PySem.W.Frag) (c : Cs) : Sp := fun vs H Q E => ∃ (a b : Addr) (ns cs : List Int), vs = [.ref a, .ref b] ∧ SqL K H a (ns.map V.int) ∧ Sq2 K H b cs ∧ ns.length ≤ 1000 ∧ cs.length ≤ 1000 ∧ IsPile ns ∧ NoX (pl ns) ∧ OkOr c.nc (Creases (ns.length : Int) cs) (RetV (.bl (freeAt (pl ns) cs)) H Q) H E
def sp_l_held (K : PySem.W.Frag) (c : Cs) : Sp := fun vs H Q _ => ∃ (a : Addr) (p : List Int) (f l cr s : Int), vs = [.ref a, .int f, .int l, .int cr, .int s] ∧ SqL K H a (p.map V.int) ∧ p.length ≤ 1000 ∧ (0 ≤ f ∧ f < (p.length : Int)) ∧ (0 ≤ l ∧ l < (p.length : Int)) ∧ (0 ≤ s ∧ s < (p.length : Int)) ∧ RetV (.bl (heldB p f l cr s)) H Q
def sp_l_free (K : PySem.W.Frag) (c : Cs) : Sp := fun vs H Q _ => ∃ (a b : Addr) (p cs : List Int), vs = [.ref a, .ref b] ∧ SqL K H a (p.map V.int) ∧ SqL K H b (cs.map V.int) ∧ 1 ≤ p.length ∧ p.length ≤ 1000 ∧ cs.length ≤ 1000 ∧ (∀ x ∈ cs, 0 ≤ x ∧ x ≤ (p.length : Int) - 2) ∧ RetV (.bl (freeAt p cs)) H Q
def LooseV (n : Int) (xs : List V) : Prop := ∃ cs : List Int, xs = cs.map V.int ∧ Creases n cs ∧ cs.length ≤ 100
def sp_l_grown (K : PySem.W.Frag) (c : Cs) : Sp := fun vs H Q _ => ∃ (a b : Addr) (p ns : List Int) (s : Int), vs = [.ref a, .ref b, .int s] ∧ SqL K H a (p.map V.int) ∧ SqL K H b (ns.map V.int) ∧ 2 ≤ p.length ∧ p.length ≤ 100 ∧ 0 ≤ s ∧ s ≤ 1000 ∧ RetP (LooseV (p.length : Int)) H Q
def sp_l_asked (K : PySem.W.Frag) (c : Cs) : Sp := fun vs H Q _ => ∃ (a b d : Addr) (ns cs : List Int) (way : Int), vs = [.ref a, .ref b, .ref d, .int way] ∧ SqL K H a (ns.map V.int) ∧ SqL K H b ((pl ns).map V.int) ∧ SqL K H d (cs.map V.int) ∧ IsPile ns ∧ NoX (pl ns) ∧ ns.length ≤ 100 ∧ cs.length ≤ 100 ∧ Creases (ns.length : Int) cs ∧ 0 ≤ way ∧ way < 6 ∧ RetV (.bl true) H Q
section
variable {K : PySem.W.Frag} {c : Cs} {H : Hp} {a b d t : Addr} {ns cs p : List Int} {f l cr s n way : Int}
theorem v_judged (hS : SqL K H a (ns.map V.int)) (hl : ns.length ≤ 1000) (hx : NoX (pl ns)) (hp : IsPile ns) : SpL (sp_judged K c) [.ref a] H ((pl ns).map V.int) := fun H1 e Q q E => ⟨a, ns, rfl, ex_l e hS, hl, hx, .yes hp q⟩
theorem v_parts_of (hS : Sq2 K H a cs) (hl : cs.length ≤ 1000) : SpTs (sp_parts_of K c) [.int n, .ref a] H (partsOf (endsOf n cs)) := fun H1 e Q q E => ⟨n, a, cs, rfl, hS.mono e, hl, q⟩
theorem v_held (hS : SqL K H a (p.map V.int)) (ht : SqT K H t [.int f, .int l]) (hl : p.length ≤ 1000) (h1 : 0 ≤ f ∧ f < (p.length : Int)) (h2 : 0 ≤ l ∧ l < (p.length : Int)) (h3 : 0 ≤ s ∧ s < (p.length : Int)) : SpV (sp_held K c) [.ref a, .ref t, .int cr, .int s] H (.bl (heldB p f l cr s)) := fun H1 e Q q E => ⟨a, t, p, f, l, cr, s, rfl, ex_l e hS, ex_t e ht, hl, h1, h2, h3, q⟩
theorem v_lies (hS : SqL K H a (p.map V.int)) (ht : SqT K H t [.int f, .int l]) (hl : p.length ≤ 1000) (h1 : 0 ≤ f ∧ f < (p.length : Int)) (h2 : 0 ≤ l ∧ l < (p.length : Int)) : SpV (sp_lies_free K c) [.ref a, .ref t] H (.bl (lieB p f l)) := fun H1 e Q q E => ⟨a, t, p, f, l, rfl, ex_l e hS, ex_t e ht, hl, h1, h2, q⟩
theorem v_are_free (hS : SqL K H a (p.map V.int)) (hb : Sq2 K H b cs) (h1 : 1 ≤ p.length) (hl : p.length ≤ 1000) (hc : cs.length ≤ 1000) (hk : ∀ x ∈ cs, 0 ≤ x ∧ x ≤ (p.length : Int) - 2) : SpV (sp_are_free K c) [.ref a, .ref b] H (.bl (freeAt p cs)) := fun H1 e Q q E => ⟨a, b, p, cs, rfl, ex_l e hS, hb.mono e, h1, hl, hc, hk, q⟩
theorem v_look_cr (hb : Sq2 K H b cs) (hc : cs.length ≤ 1000) (h : Creases n cs) : SpV (sp_look_at_creases K c) [.int n, .ref b] H .non := fun H1 e Q q E => ⟨n, b, cs, rfl, hb.mono e, hc, .yes h q⟩
theorem x_look_cr {E : XK} (hb : Sq2 K H b cs) (hc : cs.length ≤ 1000) (h : ¬ Creases n cs) (hx : ∀ H', Ex H H' → E (.ref c.nc) none H') : ∀ H1, Ex H H1 → ∀ Q : VK, sp_look_at_creases K c [.int n, .ref b] H1 Q E := fun H1 e Q => ⟨n, b, cs, rfl, hb.mono e, hc, .no h fun H' e' => hx H' (e.trans e')⟩
theorem v_free (hS : SqL K H a (ns.map V.int)) (hb : Sq2 K H b cs) (hl : ns.length ≤ 1000) (hc : cs.length ≤ 1000) (hp : IsPile ns) (hx : NoX (pl ns)) (hk : Creases (ns.length : Int) cs) : SpV (sp_free K c) [.ref a, .ref b] H (.bl (freeAt (pl ns) cs)) := fun H1 e Q q E => ⟨a, b, ns, cs, rfl, ex_l e hS, hb.mono e, hl, hc, hp, hx, .yes hk q⟩
theorem v_l_held (hS : SqL K H a (p.map V.int)) (hl : p.length ≤ 1000) (h1 : 0 ≤ f ∧ f < (p.length : Int)) (h2 : 0 ≤ l ∧ l < (p.length : Int)) (h3 : 0 ≤ s ∧ s < (p.length : Int)) : SpV (sp_l_held K c) [.ref a, .int f, .int l, .int cr, .int s] H (.bl (heldB p f l cr s)) := fun H1 e Q q E => ⟨a, p, f, l, cr, s, rfl, ex_l e hS, hl, h1, h2, h3, q⟩
theorem v_l_free (hS : SqL K H a (p.map V.int)) (hb : SqL K H b (cs.map V.int)) (h1 : 1 ≤ p.length) (hl : p.length ≤ 1000) (hc : cs.length ≤ 1000) (hk : ∀ x ∈ cs, 0 ≤ x ∧ x ≤ (p.length : Int) - 2) : SpV (sp_l_free K c) [.ref a, .ref b] H (.bl (freeAt p cs)) := fun H1 e Q q E => ⟨a, b, p, cs, rfl, ex_l e hS, ex_l e hb, h1, hl, hc, hk, q⟩
theorem v_grown (hS : SqL K H a (p.map V.int)) (hb : SqL K H b (ns.map V.int)) (h1 : 2 ≤ p.length) (hl : p.length ≤ 100) (s0 : 0 ≤ s) (s1 : s ≤ 1000) : SpLP (sp_l_grown K c) [.ref a, .ref b, .int s] H (LooseV (p.length : Int)) := fun H1 e Q q E => ⟨a, b, p, ns, s, rfl, ex_l e hS, ex_l e hb, h1, hl, s0, s1, q⟩
theorem v_asked (h1 : SqL K H a (ns.map V.int)) (h2 : SqL K H b ((pl ns).map V.int)) (h3 : SqL K H d (cs.map V.int)) (hp : IsPile ns) (hx : NoX (pl ns)) (hl : ns.length ≤ 100) (hc : cs.length ≤ 100) (hk : Creases (ns.length : Int) cs) (w0 : 0 ≤ way) (w1 : way < 6) : SpV (sp_l_asked K c) [.ref a, .ref b, .ref d, .int way] H (.bl true) := fun H1 e Q q E => ⟨a, b, d, ns, cs, way, rfl, ex_l e h1, ex_l e h2, ex_l e h3, hp, hx, hl, hc, hk, w0, w1, q⟩
end
end Fo
/-! FoldM5 -/
namespace Fo
open PySem L2 Evl

/-! ### all good piles of a length -/
def nextTo (ps : List Int) (m : Nat) : List (List Int) := ((rangeI m).filter fun g => noX (pl (put ps g (ps.length : Int)))).map fun g => put ps g (ps.length : Int)
def nextAll (ps : List Int) : List (List Int) := nextTo ps (ps.length + 1)
def goodP : Nat → List (List Int)
  | 0 => [[0]]
  | k + 1 => (goodP k).flatMap nextAll
def fc : Nat → Nat
  | 0 => 1
  | k + 1 => (k + 2) * fc k
theorem rangeI_succ (m : Nat) : rangeI (m + 1) = rangeI m ++ [(m : Int)] := by
  unfold rangeI
  rw [List.range_succ, List.map_append]
  rfl
theorem nextTo_succ (ps : List Int) (m : Nat) : nextTo ps (m + 1) = nextTo ps m ++ (if noX (pl (put ps (m : Int) (ps.length : Int))) = true then [put ps (m : Int) (ps.length : Int)] else []) := by
  unfold nextTo
  rw [rangeI_succ, List.filter_append, List.map_append]
  congr 1
  split <;> simp_all
theorem nextTo_len (ps : List Int) (m : Nat) : (nextTo ps m).length ≤ m := by
  unfold nextTo
  rw [List.length_map]
  have h := List.length_filter_le (fun g => noX (pl (put ps g (ps.length : Int)))) (rangeI m)
  have e : (rangeI m).length = m := by simp [rangeI]
  omega
theorem put_erase {ps : List Int} {g x : Int} (h : x ∉ ps) : (put ps g x).erase x = ps := by
  unfold put
  rw [List.append_assoc, List.erase_append_right _ (fun m => h (List.mem_of_mem_take m))]
  show _ ++ (x :: _).erase x = ps
  rw [List.erase_cons_head]
  exact List.take_append_drop _ _
theorem put_idx {ps : List Int} {g x : Int} (h : x ∉ ps) (g1 : g ≤ (ps.length : Int)) : (put ps g x).idxOf x = g.toNat := by
  unfold put
  rw [List.append_assoc, List.idxOf_append, if_neg (fun m => h (List.mem_of_mem_take m))]
  show List.idxOf x (x :: _) + _ = _
  rw [List.idxOf_cons_self, List.length_take]
  omega
theorem put_back {qs : List Int} {x : Int} (h : x ∈ qs) : put (qs.erase x) ((qs.idxOf x : Nat) : Int) x = qs := by
  have hi := List.idxOf_lt_length_iff.mpr h
  have hx : qs[qs.idxOf x] = x := List.getElem_idxOf hi
  unfold put
  rw [List.erase_eq_eraseIdx_of_idxOf rfl]
  rw [List.eraseIdx_eq_take_drop_succ, Int.toNat_natCast]
  have ht : (qs.take (qs.idxOf x)).length = qs.idxOf x := by rw [List.length_take]; omega
  rw [List.take_append_of_le_length (by omega), List.drop_append_of_le_length (by omega), List.take_of_length_le (by omega), List.drop_of_length_le (by omega), List.nil_append, List.append_assoc]
  show qs.take (qs.idxOf x) ++ (x :: qs.drop (qs.idxOf x + 1)) = qs
  conv => lhs; arg 2; arg 1; rw [← hx]
  rw [List.getElem_cons_drop hi, List.take_append_drop]
theorem per_not {i : Nat} {ps : List Int} (h : Per i ps) : (i : Int) ∉ ps := fun m => by
  have := (h.bnd _ m).2
  omega
theorem nextAll_of {i : Nat} {ps qs : List Int} (h : Per i ps) (hi : 0 < i) (m : qs ∈ nextAll ps) : Per (i + 1) qs ∧ NoX (pl qs) := by
  unfold nextAll nextTo at m
  rw [h.len] at m
  obtain ⟨g, hg, rfl⟩ := List.mem_map.mp m
  obtain ⟨hg1, hg2⟩ := List.mem_filter.mp hg
  exact ⟨h.put g, (noX_iff _).mp hg2⟩
theorem goodP_of : ∀ {k : Nat} {ps : List Int}, ps ∈ goodP k → Per (k + 1) ps ∧ NoX (pl ps)
  | 0, ps, m => by
    rw [List.mem_singleton.mp m]
    exact ⟨⟨rfl, by decide, by decide⟩, fun i j x => by
      have h1 := x.i0
      have h2 := x.ij
      have h3 := x.jn
      rw [pl_len] at h3
      simp at h3
      omega⟩
  | k + 1, ps, m => by
    obtain ⟨qs, hq, hm⟩ := List.mem_flatMap.mp m
    exact nextAll_of (goodP_of hq).1 (Nat.succ_pos k) hm
theorem goodP_all : ∀ {k : Nat} {ps : List Int}, IsPile ps → ps.length = k + 1 → NoX (pl ps) → ps ∈ goodP k
  | 0, ps, p, hl, _ => by
    match ps, hl with
    | [x], _ =>
      have := p.bnd x List.mem_cons_self
      have : x = 0 := by
        simp at this
        omega
      subst this
      exact List.mem_cons_self
  | k + 1, qs, p, hl, nx => by
    have hm : ((k + 1 : Nat) : Int) ∈ qs := p.all (by omega) (by omega)
    have per : Per (k + 1) (qs.erase ((k + 1 : Nat) : Int)) := by
      refine ⟨by rw [List.length_erase_of_mem hm]; omega, fun x hx => ?_, p.nd.erase _⟩
      obtain ⟨hx1, hx2⟩ := (List.Nodup.mem_erase_iff p.nd).mp hx
      have := p.bnd x hx2
      omega
    have hb := put_back hm
    have hil := List.idxOf_lt_length_iff.mpr hm
    have hnx := next_put per (Nat.succ_pos k) (g := ((qs.idxOf ((k + 1 : Nat) : Int) : Nat) : Int)) (by omega) (by omega)
    rw [hb] at hnx
    have h2 := (noX_next hnx).mp nx
    refine List.mem_flatMap.mpr ⟨_, goodP_all (per.pile (Nat.succ_pos k)) per.len h2.1, ?_⟩
    unfold nextAll nextTo
    refine List.mem_map.mpr ⟨((qs.idxOf ((k + 1 : Nat) : Int) : Nat) : Int), List.mem_filter.mpr ⟨rangeI_mem.mpr (by rw [per.len]; omega), ?_⟩, ?_⟩
    · rw [per.len, hb]
      exact (noX_iff _).mpr nx
    · rw [per.len]
      exact hb
theorem goodP_nd : ∀ k : Nat, (goodP k).Nodup
  | 0 => by simp [goodP]
  | k + 1 => by
    show ((goodP k).flatMap nextAll).Nodup
    refine List.pairwise_flatMap.mpr ⟨fun ps hp => ?_, ?_⟩
    · have per := (goodP_of hp).1
      unfold nextAll nextTo
      refine List.Pairwise.map _ (fun a b (h : a ≠ b ∧ (a ∈ rangeI (ps.length + 1) ∧ b ∈ rangeI (ps.length + 1))) e => ?_) (R := fun a b => a ≠ b ∧ (a ∈ rangeI (ps.length + 1) ∧ b ∈ rangeI (ps.length + 1))) ?_
      · obtain ⟨h1, h2, h3⟩ := h
        have a0 := rangeI_mem.mp h2
        have b0 := rangeI_mem.mp h3
        have hn := per_not per
        rw [← per.len] at hn
        have e1 := put_idx (g := a) hn (by omega)
        have e2 := put_idx (g := b) hn (by omega)
        rw [e] at e1
        omega
      · have nd : ((rangeI (ps.length + 1)).filter fun g => noX (pl (put ps g (ps.length : Int)))).Nodup := (rangeI_nd _).filter _
        exact List.Pairwise.imp_of_mem (fun {a b} ha hb h => ⟨h, (List.mem_filter.mp ha).1, (List.mem_filter.mp hb).1⟩) nd
    · refine List.Pairwise.imp_of_mem (fun {a b} ha hb h x hxa y hxb exy => h ?_) (goodP_nd k)
      have pa := (goodP_of ha).1
      have pb := (goodP_of hb).1
      subst exy
      unfold nextAll nextTo at hxa hxb
      obtain ⟨g, _, rfl⟩ := List.mem_map.mp hxa
      obtain ⟨g', _, e⟩ := List.mem_map.mp hxb
      have na := per_not pa
      have nb := per_not pb
      have e1 := put_erase (g := g) na
      have e2 := put_erase (g := g') nb
      rw [pa.len] at e
      rw [pb.len] at e
      rw [← e1, ← e2, e]
theorem goodP_len : ∀ k : Nat, (goodP k).length ≤ fc k
  | 0 => Nat.le_refl _
  | k + 1 => by
    have ih := goodP_len k
    have go : ∀ l : List (List Int), (∀ ps ∈ l, ps.length = k + 1) → (l.flatMap nextAll).length ≤ (k + 2) * l.length := by
      intro l
      induction l with
      | nil => exact fun _ => Nat.le_refl _
      | cons x l il =>
        intro h
        have h1 := nextTo_len x (x.length + 1)
        have h2 := il fun ps hp => h ps (List.mem_cons_of_mem _ hp)
        have h3 := h x List.mem_cons_self
        rw [List.flatMap_cons, List.length_append, List.length_cons, Nat.mul_succ]
        unfold nextAll at *
        omega
    have h1 := go (goodP k) fun ps hp => (goodP_of hp).1.len
    have h2 : (k + 2) * (goodP k).length ≤ (k + 2) * fc k := Nat.mul_le_mul_left _ ih
    exact Nat.le_trans h1 h2
theorem fc_le : ∀ {k : Nat}, k ≤ 6 → fc k ≤ 5040
  | 0, _ => by decide
  | 1, _ => by decide
  | 2, _ => by decide
  | 3, _ => by decide
  | 4, _ => by decide
  | 5, _ => by decide
  | 6, _ => by decide
/-- to each row of letters a good pile -/
theorem row_pile : ∀ (n : Nat) (l : List Nat), l.length = n → Letters l → ∃ ps : List Int, Per (n + 1) ps ∧ NoX (pl ps) ∧ lets (pl ps) = l
  | 0, l, hl, _ => by
    have e : l = [] := List.length_eq_zero_iff.mp hl
    subst e
    have h := goodP_of (k := 0) (ps := [0]) List.mem_cons_self
    exact ⟨[0], h.1, h.2, rfl⟩
  | n + 1, l, hl, hL => by
    have hne : l ≠ [] := fun e => by rw [e] at hl; cases hl
    obtain ⟨ps, per, nx, hlt⟩ := row_pile n l.dropLast (by rw [List.length_dropLast]; omega) fun c hc => hL c (List.dropLast_subset _ hc)
    have pp := per.pile (Nat.succ_pos n)
    have hpl := pl_len ps
    have hlen := per.len
    obtain ⟨a0, a1, _⟩ := pp.at (s := (n : Int)) (by omega) (by omega)
    have hlast := List.dropLast_concat_getLast hne
    have e5 : (ps.length : Int) - 1 = (n : Int) := by omega
    have hin : l.getLast hne = 86 ∨ l.getLast hne = 77 := hL _ (List.getLast_mem hne)
    have key : ∀ g : Int, (g = gi (pl ps) (n : Int) ∨ g = gi (pl ps) (n : Int) + 1) → (if (decide (gi (pl ps) (n : Int) < g) == decide ((n : Int) % 2 = 0)) = true then 86 else 77) = l.getLast hne → ∃ ps : List Int, Per (n + 1 + 1) ps ∧ NoX (pl ps) ∧ lets (pl ps) = l := fun g hg he => by
      have hnx := next_put per (Nat.succ_pos n) (g := g) (by omega) (by omega)
      refine ⟨put ps g ((n + 1 : Nat) : Int), per.put g, (noX_next hnx).mpr ⟨nx, fits_beside pp (by rw [e5]; exact hg)⟩, ?_⟩
      rw [lets_next hnx (by omega), hlt]
      have e6 : ((pl ps).length : Int) - 1 = (n : Int) := by omega
      rw [e6, he]
      exact hlast
    by_cases hpar : (n : Int) % 2 = 0
    · rcases hin with h | h
      · refine key (gi (pl ps) (n : Int) + 1) (.inr rfl) ?_
        rw [h, decide_eq_true hpar, decide_eq_true (by omega)]
        rfl
      · refine key (gi (pl ps) (n : Int)) (.inl rfl) ?_
        rw [h, decide_eq_true hpar, decide_eq_false (by omega)]
        rfl
    · rcases hin with h | h
      · refine key (gi (pl ps) (n : Int)) (.inl rfl) ?_
        rw [h, decide_eq_false hpar, decide_eq_false (by omega)]
        rfl
      · refine key (gi (pl ps) (n : Int) + 1) (.inr rfl) ?_
        rw [h, decide_eq_false hpar, decide_eq_true (by omega)]
        rfl
end Fo
/-! FoldP6 -/
namespace Fo
open PySem PySem.Spec PyProof.Rows L2 Evl

/-! ### lists of lists of ints -/
def Rows (H : Hp) (ts : List Addr) (pss : List (List Int)) : Prop := ts.length = pss.length ∧ ∀ (i : Nat) t ps, ts[i]? = some t → pss[i]? = some ps → H t = some (.lst (ps.map V.int))
theorem Rows.mono {H H' : Hp} {ts : List Addr} {pss : List (List Int)} (e : Ex H H') (h : Rows H ts pss) : Rows H' ts pss := ⟨h.1, fun i t q h1 h2 => e t _ (h.2 i t q h1 h2)⟩
theorem Rows.mut {H : Hp} {ts : List Addr} {pss : List (List Int)} {p : Addr} {o : HO} (h : Rows H ts pss) (hp : p ∉ ts) : Rows (upd H p o) ts pss := ⟨h.1, fun i t q h1 h2 => (upd_ne (fun z => hp (by rw [← z]; exact List.mem_of_getElem? h1))).trans (h.2 i t q h1 h2)⟩
theorem Rows.nil {H : Hp} : Rows H [] [] := ⟨rfl, fun i t q h1 _ => by cases h1⟩
theorem Rows.app {H : Hp} {ts us : List Addr} {pss qss : List (List Int)} (h : Rows H ts pss) (g : Rows H us qss) : Rows H (ts ++ us) (pss ++ qss) := by
  refine ⟨by rw [List.length_append, List.length_append, h.1, g.1], fun i t q h1 h2 => ?_⟩
  have hl := h.1
  by_cases hi : i < ts.length
  · rw [List.getElem?_append_left hi] at h1
    rw [List.getElem?_append_left (by omega)] at h2
    exact h.2 i t q h1 h2
  · rw [List.getElem?_append_right (by omega)] at h1
    rw [List.getElem?_append_right (by omega), ← hl] at h2
    exact g.2 _ t q h1 h2
theorem Rows.one {H : Hp} {t : Addr} {ps : List Int} (h : H t = some (.lst (ps.map V.int))) : Rows H [t] [ps] := ⟨rfl, fun i t' q h1 h2 => by
  have hi : i = 0 := by
    have := (List.getElem?_eq_some_iff.mp h1).1
    simpa using this
  subst hi
  cases h1
  cases h2
  exact h⟩
theorem Rows.get {H : Hp} {ts : List Addr} {pss : List (List Int)} (h : Rows H ts pss) {i : Nat} {ps : List Int} (hi : pss[i]? = some ps) : ∃ t, ts[i]? = some t ∧ H t = some (.lst (ps.map V.int)) := by
  have hl := h.1
  have hlt := (List.getElem?_eq_some_iff.mp hi).1
  have e : ts[i]? = some (ts[i]'(by omega)) := List.getElem?_eq_getElem (by omega)
  exact ⟨_, e, h.2 i _ ps e hi⟩
theorem Rows.getT {H : Hp} {ts : List Addr} {pss : List (List Int)} (h : Rows H ts pss) {i : Nat} {x : V} (hi : (ts.map V.ref)[i]? = some x) : ∃ t ps, x = .ref t ∧ ts[i]? = some t ∧ pss[i]? = some ps ∧ H t = some (.lst (ps.map V.int)) := by
  have hl := h.1
  rw [List.getElem?_map] at hi
  cases ht : ts[i]? with
  | none => rw [ht] at hi; cases hi
  | some t =>
    rw [ht] at hi
    cases hi
    have hlt := (List.getElem?_eq_some_iff.mp ht).1
    have e : pss[i]? = some (pss[i]'(by omega)) := List.getElem?_eq_getElem (by omega)
    exact ⟨t, _, rfl, rfl, e, h.2 i t _ ht e⟩
/-- a new list of new lists -/
def RetW (pss : List (List Int)) (H : Hp) (Q : VK) : Prop := ∀ p ts H2, H p = none → (∀ t ∈ ts, H t = none) → Ex H H2 → H2 p = some (.lst (ts.map V.ref)) → Rows H2 ts pss → Q (.ref p) H2
def EvW (te : TE) (σ : L2.St) (H : Hp) (pss : List (List Int)) : Prop := ∀ H1, Ex H H1 → ∀ Q : VK, RetW pss H1 Q → te σ H1 Q
def SpW (sp : Sp) (vs : List V) (H : Hp) (pss : List (List Int)) : Prop := ∀ H1, Ex H H1 → ∀ Q : VK, RetW pss H1 Q → ∀ E : XK, sp vs H1 Q E
section
variable {K : PySem.W.Frag} {σ : L2.St} {H : Hp} {ta tb te tl : TE} {D : Ends} {tu tz : TS} {v x y : V} {pss : List (List Int)}
theorem ew_call {sp : Sp} {vs : List V} {E : XK} {ta : TA} (h : EvA ta σ H vs) (hs : SpW sp vs H pss) : EvW (tCall sp [] E ta) σ H pss := fun H1 e Q q =>
  h H1 e _ fun H2 e2 => by
    rw [List.append_nil]
    exact hs H2 (e.trans e2) Q (fun p ts H3 hp ht e3 h3 t3 => q p ts H3 (fresh_back e2 hp) (fun t m => fresh_back e2 (ht t m)) (e2.trans e3) h3 t3) E
theorem g_asgW {i : Nat} (h : EvW te σ H pss) (k : ∀ p ts H1, H p = none → (∀ t ∈ ts, H t = none) → Ex H H1 → H1 p = some (.lst (ts.map V.ref)) → Rows H1 ts pss → Go tz D (σ.set i (some (.ref p))) H1) : Go (tSeq (tAsg te (gName i)) tz) D σ H := fun H1 e => h H1 e _ fun p ts H2 hp ht e2 h2 t2 => (k p ts H2 (fresh_back e hp) (fun t m => fresh_back e (ht t m)) (e.trans e2) h2 t2).here
theorem g_retW (h : EvW te σ H pss) (k : RetW pss H D.rt) : Go (tSeq (tRet te) tz) D σ H := fun H1 e => h H1 e _ fun p ts H2 hp ht e2 h2 t2 => k p ts H2 (fresh_back e hp) (fun t m => fresh_back e (ht t m)) (e.trans e2) h2 t2
/-- [a list] -/
theorem ew_one {ns : List Int} (h : EvL te σ H (ns.map V.int)) : EvW (tLst (tCons te tNil)) σ H [ns] := fun H1 e Q q =>
  h H1 e _ fun t H2 ht e2 h2 => ⟨sz_of (Nat.le_of_ble_eq_true rfl), fun p hp => q p [t] _ (fresh_back e2 hp) (fun u m => by rw [List.mem_singleton.mp m]; exact ht) (e2.trans (Ex.new hp)) upd_same (Rows.one (Ex.new hp t _ h2))⟩
/-- l.extend(a new list of new lists) -/
theorem g_extW {l : Addr} {xs : List V} (hl : H l = some (.lst xs)) (ha : Ev ta σ H (.ref l)) (h : EvW te σ H pss) (hz : xs.length + pss.length ≤ 100000) (k : ∀ ts H1, (∀ t ∈ ts, H t = none) → Ex H H1 → Rows H1 ts pss → tz D σ (upd H1 l (.lst (xs ++ ts.map V.ref)))) :
    Go (tSeq (tDrop (tBM K "list" rExtend ta (tCons te tNil))) tz) D σ H := fun H1 e1 => ha H1 e1 _ fun H2 e2 =>
  ⟨Or.inl ⟨rfl, xs, sq_of ((e1.trans e2) l _ hl)⟩, h H2 (e1.trans e2) _ fun p ts H3 hp ht e3 h3 t3 =>
    ⟨l, p, xs, ts.map V.ref, rfl, rfl, ((e1.trans e2).trans e3) l _ hl, h3, by rw [List.length_map, t3.1]; exact sz_of hz, k ts H3 (fun t m => fresh_back (e1.trans e2) (ht t m)) ((e1.trans e2).trans e3) t3⟩⟩
/-- [t for t in lists if ..] -/
theorem ew_lc {t : TT} {j : Nat} (q : List Int → Bool) (h : EvW tl σ H pss) (hz : pss.length ≤ 40000) (hw : ∀ x, wipe ((wipe σ [j]).set j (some x)) [j] = wipe σ [j]) (hv : ∀ x, ((wipe σ [j]).set j (some x))[j]? = some (some x))
    (ht : ∀ (u : Addr) ps H1, Ex H H1 → ps ∈ pss → H1 u = some (.lst (ps.map V.int)) → EvT t ((wipe σ [j]).set j (some (.ref u))) H1 (q ps)) : EvW (tLc (iList K tl) (gName j) t (tVar j) [j]) σ H (pss.filter q) := fun H0 e Q qq =>
  h H0 e _ fun a ts H1 ha hts e1 hx rw1 => by
    have hl := rw1.1
    have key : ∀ (i : Nat) (x : V), (ts.map V.ref)[i]? = some x → ∃ ps, pss[i]? = some ps ∧ x = .ref (ts.getD i 0) ∧ H1 (ts.getD i 0) = some (.lst (ps.map V.int)) ∧ pss.getD i [] = ps ∧ i < ts.length := fun i x hi => by
      obtain ⟨t, ps, rfl, h1, h2, h3⟩ := rw1.getT hi
      have e9 : ts.getD i 0 = t := by rw [List.getD_eq_getElem?_getD, h1]; rfl
      exact ⟨ps, h2, by rw [e9], by rw [e9]; exact h3, by rw [List.getD_eq_getElem?_getD, h2]; rfl, (List.getElem?_eq_some_iff.mp h1).1⟩
    refine ⟨a, rfl, ⟨_, sq_of hx⟩, fun Dl hD => lc_list (xs := ts.map V.ref) (Cw H1 (fun i => q (pss.getD i [])) (fun i => V.ref (ts.getD i 0)) Dl) ⟨hD, Ex.new hD, upd_same⟩ (fun i H' _ p => sq_of (p.2.1 a _ hx)) (fun i x H' hi p => ?_) (fun H' p => ?_)⟩
    · obtain ⟨ps, h1, h2, h3, h4, h5⟩ := key i x hi
      refine ⟨hw x, cw_turn p (by omega) ?_ (fun _ => ?_)⟩
      · rw [h2, h4]
        exact fun H2 e2 => ht _ ps H1 (e.trans e1) (List.mem_of_getElem? h1) h3 H2 e2
      · rw [h2]
        exact ev_var (hv _)
    · obtain ⟨p1, p2, p3⟩ := p
      rw [List.length_map] at p3
      have e8 : given ts.length (fun i => q (pss.getD i [])) (fun i => V.ref (ts.getD i 0)) = (((List.range ts.length).filter fun i => q (pss.getD i [])).map fun i => ts.getD i 0).map V.ref := by
        unfold given
        rw [List.map_map]
        rfl
      have e7 : pss.filter q = ((List.range ts.length).filter fun i => q (pss.getD i [])).map fun i => pss.getD i [] := by
        have e6 : pss = (List.range ts.length).map fun i => pss.getD i [] := by
          refine List.ext_getElem (by simp [hl]) fun i h1 h2 => ?_
          simp [List.getD_eq_getElem?_getD, List.getElem?_eq_getElem h1]
        conv => lhs; rw [e6, List.filter_map]
        rfl
      rw [e8] at p3
      refine qq Dl _ H' (fresh_back e1 p1) (fun t m => ?_) (e1.trans p2) p3 ?_
      · obtain ⟨i, hi, rfl⟩ := List.mem_map.mp m
        have hi2 := List.mem_range.mp (List.mem_filter.mp hi).1
        rw [List.getD_eq_getElem?_getD, List.getElem?_eq_getElem hi2]
        exact hts _ (List.getElem_mem hi2)
      · rw [e7]
        refine ⟨by rw [List.length_map, List.length_map], fun i t ps h1 h2 => ?_⟩
        rw [List.getElem?_map] at h1 h2
        cases hk : ((List.range ts.length).filter fun i => q (pss.getD i []))[i]? with
        | none => rw [hk] at h1; cases h1
        | some k =>
          rw [hk] at h1 h2
          cases h1
          cases h2
          have hk2 := List.mem_range.mp (List.mem_filter.mp (List.mem_of_getElem? hk)).1
          refine p2 _ _ ?_
          refine rw1.2 k _ _ ?_ ?_
          · show ts[k]? = some (ts.getD k 0)
            rw [List.getD_eq_getElem?_getD, List.getElem?_eq_getElem hk2]
            rfl
          · show pss[k]? = some (pss.getD k [])
            rw [List.getD_eq_getElem?_getD, List.getElem?_eq_getElem (by omega)]
            rfl
/-! ### in, == of lists of lists -/
theorem dp_rows {ts : List Addr} (h : Rows H ts pss) : DpAll K H (ts.map V.ref) (pss.map fun ns => PyData.list (ns.map PyData.int)) := by
  have go : ∀ (ts : List Addr) (pss : List (List Int)), Rows H ts pss → DpAll K H (ts.map V.ref) (pss.map fun ns => PyData.list (ns.map PyData.int)) := by
    intro ts
    induction ts with
    | nil =>
      intro pss h
      have e : pss = [] := List.length_eq_zero_iff.mp h.1.symm
      subst e
      exact .nil
    | cons t ts ih =>
      intro pss h
      match pss, h with
      | [], h => exact absurd h.1 (by simp)
      | ps :: pss, h =>
        refine .cons (.lst (sq_of (h.2 0 t ps rfl rfl)) (dp_ints ps)) (ih pss ⟨by have := h.1; simpa using this, fun i t q h1 h2 => h.2 (i + 1) t q (by simpa using h1) (by simpa using h2)⟩)
  exact go ts pss h
theorem sh_rows : ∀ pss : List (List Int), PyData.canLayAll0 (pss.map fun ns => PyData.list (ns.map PyData.int)) = true ∧ PyData.depthAll (pss.map fun ns => PyData.list (ns.map PyData.int)) ≤ 1
  | [] => by simp [PyData.canLayAll0, PyData.depthAll]
  | ns :: r => by
    have ih := sh_rows r
    have h1 : ∀ ns : List Int, PyData.canLayAll0 (ns.map PyData.int) = true := PySem.W.ke_canLayAll0
    have h2 : ∀ ns : List Int, PyData.depthAll (ns.map PyData.int) = 0 := PySem.W.ke_depthAll
    constructor
    · simp [PyData.canLayAll0, PyData.canLay0, h1, ih.1]
    · have h3 := ih.2
      simp only [List.map_cons, PyData.depthAll, PyData.depth, h2]
      omega
theorem shaped_rows (pss : List (List Int)) : SeqAt.shaped (.list (pss.map fun ns => PyData.list (ns.map PyData.int))) = true := by
  obtain ⟨h1, h2⟩ := sh_rows pss
  simp [SeqAt.shaped, PyData.canLay0, PyData.depth, h1]
  omega
theorem any_rows (pss : List (List Int)) (ns : List Int) : ((pss.map fun ns => PyData.list (ns.map PyData.int)).any fun z => PyData.eqv z (.list (ns.map PyData.int))) = decide (ns ∈ pss) := by
  rw [Bool.eq_iff_iff, List.any_eq_true, decide_eq_true_eq]
  constructor
  · rintro ⟨z, hz, h⟩
    obtain ⟨ms, hm, rfl⟩ := List.mem_map.mp hz
    have e : decide (ms = ns) = true := by
      rw [← eqv_ints]
      exact h
    rw [← of_decide_eq_true e]
    exact hm
  · intro h
    refine ⟨_, List.mem_map.mpr ⟨ns, h, rfl⟩, ?_⟩
    show PyData.eqvAll _ _ = true
    rw [eqv_ints]
    exact decide_eq_true rfl
theorem ev_inW {a p : Addr} {ts : List Addr} {ns : List Int} (ha : Ev ta σ H (.ref a)) (hb : Ev tb σ H (.ref p)) (h1 : SqL K H a (ns.map V.int)) (h2 : SqL K H p (ts.map V.ref)) (h3 : Rows H ts pss) : Ev (tOp (rInD K) ta tb) σ H (.bl (decide (ns ∈ pss))) := ev_op ha hb fun H1 e _ q =>
  ⟨.list (ns.map PyData.int), _, .lst (ex_l e h1) (dp_ints ns), .lst (ex_l e h2) (dp_rows (h3.mono e)), PySem.W.ke_shaped_ints ns, shaped_rows pss, by
    rw [any_rows]
    exact q H1 (Ex.refl H1)⟩
theorem ev_notInW {a p : Addr} {ts : List Addr} {ns : List Int} (ha : Ev ta σ H (.ref a)) (hb : Ev tb σ H (.ref p)) (h1 : SqL K H a (ns.map V.int)) (h2 : SqL K H p (ts.map V.ref)) (h3 : Rows H ts pss) : Ev (tOp (rNotInD K) ta tb) σ H (.bl (!decide (ns ∈ pss))) := ev_op ha hb fun H1 e _ q =>
  ⟨.list (ns.map PyData.int), _, .lst (ex_l e h1) (dp_ints ns), .lst (ex_l e h2) (dp_rows (h3.mono e)), PySem.W.ke_shaped_ints ns, shaped_rows pss, by
    rw [any_rows]
    exact q H1 (Ex.refl H1)⟩
theorem ev_eqNilW {p : Addr} {ts : List Addr} (ha : Ev ta σ H (.ref p)) (h2 : SqL K H p (ts.map V.ref)) (h3 : Rows H ts pss) : Ev (tOp (rEqD K) ta (tLst tNil)) σ H (.bl (decide (pss = []))) :=
  ev_opL (xs := ([] : List Int).map V.int) ha (el_lst ea_nil (Nat.zero_le _)) fun q H1 hq e => fun H2 e2 _ k =>
    ⟨_, .list (([] : List Int).map PyData.int), .lst (ex_l (e.trans e2) h2) (dp_rows (h3.mono (e.trans e2))), .lst (ex_l e2 (sq_of hq)) (dp_ints []), shaped_rows pss, PySem.W.ke_shaped_ints [], by
      have e9 : PyData.eqv (.list (pss.map fun ns => PyData.list (ns.map PyData.int))) (.list (([] : List Int).map PyData.int)) = decide (pss = []) := by
        cases pss with
        | nil => rfl
        | cons a b => rfl
      rw [e9]
      exact k H2 (Ex.refl H2)⟩
theorem ev_neNilW {p : Addr} {ts : List Addr} (ha : EvW te σ H pss) : Ev (tOp (rNeD K) te (tLst tNil)) σ H (.bl (!decide (pss = []))) := fun H1 e Q q =>
  ha H1 e _ fun p ts H2 hp ht e2 h2 r2 => el_lst (σ := σ) (H := H2) ea_nil (Nat.zero_le _) H2 (Ex.refl _) _ fun b H3 hb e3 h3 =>
    ⟨_, .list (([] : List Int).map PyData.int), .lst (sq_of (e3 p _ h2)) (dp_rows (r2.mono e3)), .lst (sq_of h3) (dp_ints []), shaped_rows pss, PySem.W.ke_shaped_ints [], by
      have e9 : PyData.eqv (.list (pss.map fun ns => PyData.list (ns.map PyData.int))) (.list (([] : List Int).map PyData.int)) = decide (pss = []) := by
        cases pss with
        | nil => rfl
        | cons a b => rfl
      rw [e9]
      exact q H3 (e2.trans e3)⟩
/-- found: is it None -/
theorem et_cross {a : Addr} {ta : TA} {E : XK} {c : Cs} {ns : List Int} (h : EvA ta σ H [.ref a]) (hS : SqL K H a (ns.map V.int)) (hl : ns.length ≤ 1000) (hp : IsPile ns) : EvT (tTest (tOp rIsN (tCall (sp_crossing K c) [] E ta) (tC .non))) σ H (noX (pl ns)) := fun H1 e Q q =>
  h H1 e _ fun H2 e2 => by
    rw [List.append_nil]
    by_cases nx : NoX (pl ns)
    · refine ⟨a, ns, rfl, ex_l (e.trans e2) hS, hl, .yes hp ⟨fun _ H3 e3 => ?_, fun i j x => absurd x (nx i j)⟩⟩
      rw [(noX_iff _).mpr nx] at q
      exact ⟨rfl, true, rfl, q H3 (e2.trans e3)⟩
    · refine ⟨a, ns, rfl, ex_l (e.trans e2) hS, hl, .yes hp ⟨fun n => absurd n nx, fun i j x r H3 hr e3 h3 => ?_⟩⟩
      have e9 : noX (pl ns) = false := by
        cases hh : noX (pl ns) with
        | false => rfl
        | true => exact absurd ((noX_iff _).mp hh) nx
      rw [e9] at q
      exact ⟨rfl, false, rfl, q H3 (e2.trans e3)⟩
end

/-! ### promises -/
theorem units1 {k : Nat} {A : Around} (r : Room k A) : A.units + 1 < cLine := by have := r.un; omega
theorem units65 {k : Nat} {A : Around} (r : Room k A) : A.units + 65 < cLine := by have := r.un; omega
def sp_with_next (K : PySem.W.Frag) (c : Cs) : Sp := fun vs H Q _ => ∃ (a : Addr) (ns : List Int), vs = [.ref a] ∧ SqL K H a (ns.map V.int) ∧ IsPile ns ∧ ns.length ≤ 100 ∧ RetW (nextAll ns) H Q
def sp_piles (K : PySem.W.Frag) (c : Cs) : Sp := fun vs H Q E => ∃ m : Int, vs = [.int m] ∧ OkOr c.nn (1 ≤ m ∧ m ≤ 7) (RetW (goodP (m - 1).toNat) H Q) H E
def withRow (l : List Nat) : List (List Int) := (goodP l.length).filter fun ps => decide (txt (lets (pl ps)) = txt l)
def sp_piles_with (K : PySem.W.Frag) (c : Cs) : Sp := fun vs H Q E => ∃ l : List Nat, vs = [.str (txt l)] ∧ l.length ≤ 1000 ∧ OkOr c.nl (Letters l) (OkOr c.nn (l.length + 1 ≤ 7) (RetW (withRow l) H Q) H E) H E
def sp_l_letters (K : PySem.W.Frag) (c : Cs) : Sp := fun vs H Q _ => ∃ (a : Addr) (p : List Int), vs = [.ref a] ∧ SqL K H a (p.map V.int) ∧ 1 ≤ p.length ∧ p.length ≤ 1000 ∧ RetV (.str (txt (lets p))) H Q
def sp_l_all_good (K : PySem.W.Frag) (c : Cs) : Sp := fun vs H Q _ => ∃ (a : Addr) (ts : List Addr) (pss : List (List Int)) (n : Int), vs = [.ref a, .int n] ∧ H a = some (.lst (ts.map V.ref)) ∧ Rows H ts pss ∧ pss.Nodup ∧ pss.length ≤ 10000 ∧ n ≤ 1000 ∧ (∀ ps ∈ pss, IsPile ps ∧ (ps.length : Int) = n ∧ NoX (pl ps)) ∧ RetV (.bl true) H Q
section
variable {K : PySem.W.Frag} {c : Cs} {H : Hp} {a : Addr} {ns p : List Int} {n m : Int} {l : List Nat} {ts : List Addr} {pss : List (List Int)}
theorem v_with_next (hS : SqL K H a (ns.map V.int)) (hp : IsPile ns) (hl : ns.length ≤ 100) : SpW (sp_with_next K c) [.ref a] H (nextAll ns) := fun H1 e Q q E => ⟨a, ns, rfl, ex_l e hS, hp, hl, q⟩
theorem v_piles (h : 1 ≤ m ∧ m ≤ 7) : SpW (sp_piles K c) [.int m] H (goodP (m - 1).toNat) := fun H1 e Q q E => ⟨m, rfl, .yes h q⟩
theorem v_piles_with (hl : l.length ≤ 1000) (h : Letters l) (h7 : l.length + 1 ≤ 7) : SpW (sp_piles_with K c) [.str (txt l)] H (withRow l) := fun H1 e Q q E => ⟨l, rfl, hl, .yes h (.yes h7 q)⟩
theorem v_l_letters (hS : SqL K H a (p.map V.int)) (h1 : 1 ≤ p.length) (hl : p.length ≤ 1000) : SpV (sp_l_letters K c) [.ref a] H (.str (txt (lets p))) := fun H1 e Q q E => ⟨a, p, rfl, ex_l e hS, h1, hl, q⟩
theorem v_all_good (hS : H a = some (.lst (ts.map V.ref))) (h1 : Rows H ts pss) (h2 : pss.Nodup) (h3 : pss.length ≤ 10000) (h4 : n ≤ 1000) (h5 : ∀ ps ∈ pss, IsPile ps ∧ (ps.length : Int) = n ∧ NoX (pl ps)) : SpV (sp_l_all_good K c) [.ref a, .int n] H (.bl true) := fun H1 e Q q E => ⟨a, ts, pss, n, rfl, e a _ hS, h1.mono e, h2, h3, h4, h5, q⟩
end
end Fo
/-! FoldP7 -/
namespace Fo
open PySem L2 Evl

/-! ### a bench: an object with the fields at, order, drawn -/
structure BenchC (K : PySem.W.Frag) (c : Cs) : Prop where
  cl : Cls K c.be
  nA : NoAttr K c.be "at"
  nO : NoAttr K c.be "order"
  nD : NoAttr K c.be "drawn"
theorem ao_ : ¬ (("at" : Str) = "order") := by decide +kernel
theorem ad_ : ¬ (("at" : Str) = "drawn") := by decide +kernel
theorem od_ : ¬ (("order" : Str) = "drawn") := by decide +kernel
def bf (la lo ld : Addr) : List (Str × V) := putF "drawn" (.ref ld) (putF "order" (.ref lo) (putF "at" (.ref la) []))
theorem bf_at (la lo ld : Addr) : (bf la lo ld).lookup ("at" : Str) = some (.ref la) := by
  unfold bf
  rw [lookup_putF, if_neg ad_, lookup_putF, if_neg ao_, lookup_putF, if_pos rfl]
theorem bf_order (la lo ld : Addr) : (bf la lo ld).lookup ("order" : Str) = some (.ref lo) := by
  unfold bf
  rw [lookup_putF, if_neg od_, lookup_putF, if_pos rfl]
theorem bf_drawn (la lo ld : Addr) : (bf la lo ld).lookup ("drawn" : Str) = some (.ref ld) := by
  unfold bf
  rw [lookup_putF, if_pos rfl]
theorem bf_no (la lo ld : Addr) {m : Str} (h1 : ¬ m = "at") (h2 : ¬ m = "order") (h3 : ¬ m = "drawn") : (bf la lo ld).lookup m = none := by
  unfold bf
  rw [lookup_putF, if_neg h3, lookup_putF, if_neg h2, lookup_putF, if_neg h1]
  rfl
theorem bf_len (la lo ld : Addr) : (bf la lo ld).length < 1000 := by
  have h1 := length_putF "drawn" (.ref ld) (putF "order" (.ref lo) (putF "at" (.ref la) []))
  have h2 := length_putF "order" (.ref lo) (putF "at" (.ref la) [])
  have h3 := length_putF "at" (.ref la) []
  unfold bf
  simp at h3
  omega
theorem putF_put (f : Str) (x y : V) : ∀ fs : List (Str × V), putF f y (putF f x fs) = putF f y fs
  | [] => by
    show putF f y [(f, x)] = _
    show (if f = f then (f, y) :: [] else _) = [(f, y)]
    rw [if_pos rfl]
  | (k, z) :: r => by
    have ih := putF_put f x y r
    show putF f y (if k = f then (k, x) :: r else (k, z) :: putF f x r) = (if k = f then (k, y) :: r else (k, z) :: putF f y r)
    by_cases h : k = f
    · rw [if_pos h, if_pos h]
      show (if k = f then (k, y) :: r else _) = _
      rw [if_pos h]
    · rw [if_neg h, if_neg h]
      show (if k = f then _ else (k, z) :: putF f y (putF f x r)) = _
      rw [if_neg h, ih]
theorem bf_put (la lo ld m : Addr) : putF "drawn" (.ref m) (bf la lo ld) = bf la lo m := putF_put _ _ _ _
/-- all but b stands -/
def OffB (b : Addr) (H H' : Hp) : Prop := ∀ a o, a ≠ b → H a = some o → H' a = some o
theorem OffB.of {b : Addr} {H H' : Hp} (e : Ex H H') : OffB b H H' := fun a o _ h => e a o h
theorem OffB.trans {b : Addr} {H H1 H2 : Hp} (x : OffB b H H1) (y : OffB b H1 H2) : OffB b H H2 := fun a o n h => y a o n (x a o n h)
def InsB (c : Cs) (H : Hp) (b la lo ld : Addr) : Prop := ∃ dx, H b = some (.ins c.be dx (bf la lo ld))
theorem InsB.mono {c : Cs} {H H' : Hp} {b la lo ld : Addr} (e : Ex H H') (h : InsB c H b la lo ld) : InsB c H' b la lo ld := h.imp fun dx q => e b _ q
theorem ne_ins {c : Cs} {H : Hp} {b la lo ld l : Addr} {xs : List V} (h : InsB c H b la lo ld) (hl : H l = some (.lst xs)) : l ≠ b := fun z => by
  obtain ⟨dx, q⟩ := h
  rw [z, q] at hl
  cases hl
section
variable {K : PySem.W.Frag} {c : Cs} {σ : L2.St} {H : Hp} {ta te : TE} {t : TA} {D : Ends} {tz : TS} {b la lo ld : Addr} {v : V} {sp : Sp} {E : XK}
theorem ev_at (hc : BenchC K c) (ha : Ev te σ H (.ref b)) (hb : InsB c H b la lo ld) : Ev (tFld K te "at") σ H (.ref la) := fun H1 e Q q => ha H1 e _ fun H2 e2 => by
  obtain ⟨dx, hx⟩ := hb.mono (e.trans e2)
  exact ⟨b, c.be, dx, _, _, rfl, hx, hc.cl, hc.nA, bf_at _ _ _, q H2 e2⟩
theorem ev_order (hc : BenchC K c) (ha : Ev te σ H (.ref b)) (hb : InsB c H b la lo ld) : Ev (tFld K te "order") σ H (.ref lo) := fun H1 e Q q => ha H1 e _ fun H2 e2 => by
  obtain ⟨dx, hx⟩ := hb.mono (e.trans e2)
  exact ⟨b, c.be, dx, _, _, rfl, hx, hc.cl, hc.nO, bf_order _ _ _, q H2 e2⟩
theorem ev_drawn (hc : BenchC K c) (ha : Ev te σ H (.ref b)) (hb : InsB c H b la lo ld) : Ev (tFld K te "drawn") σ H (.ref ld) := fun H1 e Q q => ha H1 e _ fun H2 e2 => by
  obtain ⟨dx, hx⟩ := hb.mono (e.trans e2)
  exact ⟨b, c.be, dx, _, _, rfl, hx, hc.cl, hc.nD, bf_drawn _ _ _, q H2 e2⟩
/-- o.m(..) that gives a new list of ints, of lists -/
theorem el_meth {m : Str} {xs : List V} (hm1 : ¬ m = "at") (hm2 : ¬ m = "order") (hm3 : ¬ m = "drawn") (ha : Ev te σ H (.ref b)) (hb : InsB c H b la lo ld) (hs : SpL sp [.ref b] H xs) : EvL (tMeth c.be m sp [] E te tNil) σ H xs := fun H1 e Q q => ha H1 e _ fun H2 e2 => by
  obtain ⟨dx, hx⟩ := hb.mono (e.trans e2)
  exact ⟨b, dx, _, rfl, hx, bf_no _ _ _ hm1 hm2 hm3, hs H2 (e.trans e2) Q (fun p H3 hp e3 h3 => q p H3 (fresh_back e2 hp) (e2.trans e3) h3) E⟩
theorem ew_meth {m : Str} {pss : List (List Int)} (hm1 : ¬ m = "at") (hm2 : ¬ m = "order") (hm3 : ¬ m = "drawn") (ha : Ev te σ H (.ref b)) (hb : InsB c H b la lo ld) (hs : SpW sp [.ref b] H pss) : EvW (tMeth c.be m sp [] E te tNil) σ H pss := fun H1 e Q q => ha H1 e _ fun H2 e2 => by
  obtain ⟨dx, hx⟩ := hb.mono (e.trans e2)
  exact ⟨b, dx, _, rfl, hx, bf_no _ _ _ hm1 hm2 hm3, hs H2 (e.trans e2) Q (fun p ts H3 hp ht e3 h3 t3 => q p ts H3 (fresh_back e2 hp) (fun t m => fresh_back e2 (ht t m)) (e2.trans e3) h3 t3) E⟩
/-- o.m(e) as a statement: what the promise asks is shown at each extension -/
theorem g_meth1 {m : Str} {x : V} (hm1 : ¬ m = "at") (hm2 : ¬ m = "order") (hm3 : ¬ m = "drawn") (ha : Ev te σ H (.ref b)) (hb : InsB c H b la lo ld) (hx : Ev ta σ H x) (hs : ∀ H1, Ex H H1 → sp [.ref b, x] H1 (fun _ H2 => tz D σ H2) E) : Go (tSeq (tDrop (tMeth c.be m sp [] E te (tCons ta tNil))) tz) D σ H := fun H1 e => ha H1 e _ fun H2 e2 => by
  obtain ⟨dx, hx'⟩ := hb.mono (e.trans e2)
  exact ⟨b, dx, _, rfl, hx', bf_no _ _ _ hm1 hm2 hm3, hx H2 (e.trans e2) _ fun H3 e3 => hs H3 ((e.trans e2).trans e3)⟩
theorem g_meth1L {m : Str} {xs : List V} (hm1 : ¬ m = "at") (hm2 : ¬ m = "order") (hm3 : ¬ m = "drawn") (ha : Ev te σ H (.ref b)) (hb : InsB c H b la lo ld) (hx : EvL ta σ H xs) (hs : ∀ q H1, H q = none → Ex H H1 → H1 q = some (.lst xs) → sp [.ref b, .ref q] H1 (fun _ H2 => tz D σ H2) E) : Go (tSeq (tDrop (tMeth c.be m sp [] E te (tCons ta tNil))) tz) D σ H := fun H1 e => ha H1 e _ fun H2 e2 => by
  obtain ⟨dx, hx'⟩ := hb.mono (e.trans e2)
  exact ⟨b, dx, _, rfl, hx', bf_no _ _ _ hm1 hm2 hm3, hx H2 (e.trans e2) _ fun q H3 hq e3 h3 => hs q H3 (fresh_back (e.trans e2) hq) ((e.trans e2).trans e3) h3⟩
/-- o.f = a value, a new list -/
theorem g_fld {f : Str} {fs : List (Str × V)} {dx : Addr} {C : Addr} (cl : Cls K C) (nf : NoAttr K C f) (hb : H b = some (.ins C dx fs)) (hl : fs.length < 1000) (hv : Ev ta σ H v) (ha : Ev te σ H (.ref b)) (k : ∀ H1, Ex H H1 → tz D σ (upd H1 b (.ins C dx (putF f v fs)))) : Go (tSeq (sFld K te ta f) tz) D σ H := fun H1 e =>
  hv H1 e _ fun H2 e2 => ha H2 (e.trans e2) _ fun H3 e3 => ⟨b, C, dx, fs, rfl, ((e.trans e2).trans e3) b _ hb, cl, nf, hl, k H3 ((e.trans e2).trans e3)⟩
theorem g_fldL {f : Str} {fs : List (Str × V)} {dx : Addr} {C : Addr} {xs : List V} (cl : Cls K C) (nf : NoAttr K C f) (hb : H b = some (.ins C dx fs)) (hl : fs.length < 1000) (hv : EvL ta σ H xs) (ha : Ev te σ H (.ref b)) (k : ∀ q H1, H q = none → Ex H H1 → H1 q = some (.lst xs) → tz D σ (upd H1 b (.ins C dx (putF f (.ref q) fs)))) : Go (tSeq (sFld K te ta f) tz) D σ H := fun H1 e =>
  hv H1 e _ fun q H2 hq e2 h2 => ha H2 (e.trans e2) _ fun H3 e3 => ⟨b, C, dx, fs, rfl, ((e.trans e2).trans e3) b _ hb, cl, nf, hl, k q H3 (fresh_back e hq) ((e.trans e2).trans e3) (e3 q _ h2)⟩
end

/-! ### promises -/
def sp_Bench_settle (K : PySem.W.Frag) (c : Cs) : Sp := fun vs H Q E => ∃ (b d la lo ld : Addr) (ps ms : List Int), vs = [.ref b, .ref d] ∧ BenchC K c ∧ InsB c H b la lo ld ∧ H la = some (.lst (ps.map V.int)) ∧ H d = some (.lst (ms.map V.int)) ∧ 1 ≤ ps.length ∧ ps.length ≤ 1000 ∧ ms.length ≤ 1000 ∧ (∀ x ∈ ms, 0 ≤ x ∧ x ≤ (ps.length : Int) - 2) ∧
  OkOr c.st (freeAt ps ms = true) (∀ H', OffB b H H' → InsB c H' b la lo d → Q .non H') H E
def sp_Bench_loose (K : PySem.W.Frag) (c : Cs) : Sp := fun vs H Q _ => ∃ (b la lo ld : Addr) (ds : List Int), vs = [.ref b] ∧ BenchC K c ∧ InsB c H b la lo ld ∧ H ld = some (.lst (ds.map V.int)) ∧ RetL ((srt ds).map V.int) H Q
def partRows (ns : List Int) (n : Int) (ds : List Int) : List (List Int) := (partsOf (endsOf n ds)).map fun q => ns.filter fun s => decide (q.1 ≤ s) && decide (s ≤ q.2)
def sp_Bench_parts (K : PySem.W.Frag) (c : Cs) : Sp := fun vs H Q _ => ∃ (b la lo ld : Addr) (ns ps ds : List Int), vs = [.ref b] ∧ BenchC K c ∧ InsB c H b la lo ld ∧ H la = some (.lst (ps.map V.int)) ∧ H lo = some (.lst (ns.map V.int)) ∧ H ld = some (.lst (ds.map V.int)) ∧ ps.length ≤ 1000 ∧ ns.length ≤ 1000 ∧ ds.length ≤ 1000 ∧ RetW (partRows ns (ps.length : Int) ds) H Q
def sp_Bench_init (K : PySem.W.Frag) (c : Cs) : Sp := fun vs H Q E => ∃ (b p dx : Addr) (ns : List Int), vs = [.ref b, .ref p] ∧ BenchC K c ∧ H b = some (.ins c.be dx []) ∧ H p = some (.lst (ns.map V.int)) ∧ ns.length ≤ 1000 ∧ NoX (pl ns) ∧
  OkOr c.np (IsPile ns) (∀ H' la lo ld, OffB b H H' → InsB c H' b la lo ld → H la = none → H lo = none → H ld = none → H' la = some (.lst ((pl ns).map V.int)) → H' lo = some (.lst (ns.map V.int)) → H' ld = some (.lst []) → Q .non H') H E
def sp_Bench_draw (K : PySem.W.Frag) (c : Cs) : Sp := fun vs H Q E => ∃ (b r la lo ld : Addr) (ps ds cs : List Int), vs = [.ref b, .ref r] ∧ BenchC K c ∧ InsB c H b la lo ld ∧ H la = some (.lst (ps.map V.int)) ∧ H ld = some (.lst (ds.map V.int)) ∧ Sq2 K H r cs ∧ 1 ≤ ps.length ∧ ps.length ≤ 1000 ∧ ds.length ≤ 500 ∧ cs.length ≤ 500 ∧ (∀ x ∈ ds, 0 ≤ x ∧ x ≤ (ps.length : Int) - 2) ∧
  OkOr c.nc (Creases (ps.length : Int) cs) (OkOr c.st ((∀ x ∈ cs, x ∉ ds) ∧ freeAt ps (ds ++ cs) = true) (∀ H' d, OffB b H H' → InsB c H' b la lo d → H d = none → H' d = some (.lst ((ds ++ cs).map V.int)) → Q .non H') H E) H E
def pressed (ds cs : List Int) : List Int := ds.filter fun x => !decide (x ∈ cs)
def sp_Bench_press (K : PySem.W.Frag) (c : Cs) : Sp := fun vs H Q E => ∃ (b r la lo ld : Addr) (ps ds cs : List Int), vs = [.ref b, .ref r] ∧ BenchC K c ∧ InsB c H b la lo ld ∧ H la = some (.lst (ps.map V.int)) ∧ H ld = some (.lst (ds.map V.int)) ∧ Sq2 K H r cs ∧ 1 ≤ ps.length ∧ ps.length ≤ 1000 ∧ ds.length ≤ 500 ∧ cs.length ≤ 500 ∧ (∀ x ∈ ds, 0 ≤ x ∧ x ≤ (ps.length : Int) - 2) ∧
  OkOr c.nc (Creases (ps.length : Int) cs) (OkOr c.st ((∀ x ∈ cs, x ∈ ds) ∧ freeAt ps (pressed ds cs) = true) (∀ H' d, OffB b H H' → InsB c H' b la lo d → H d = none → H' d = some (.lst ((pressed ds cs).map V.int)) → Q .non H') H E) H E
end Fo
/-! FoldM6 -/
namespace Fo
open PySem L2 Evl

/-! ### parts -/
structure PartOf (n : Int) (D : List Int) (f l : Int) : Prop where
  f0 : 0 ≤ f
  fl : f ≤ l
  ln : l ≤ n - 1
  fd : f = 0 ∨ f - 1 ∈ D
  ld : l = n - 1 ∨ l ∈ D
  no : ∀ x : Int, f ≤ x → x < l → x ∉ D
theorem ends_inc {n : Int} {D : List Int} (h : Creases n D) : (endsOf n D).Pairwise (· < ·) := by
  unfold endsOf
  have nd : (srt D).Nodup := (srt_perm D).nodup_iff.mpr h.nd
  have h1 : (srt D).Pairwise (· < ·) := by
    have := List.Pairwise.and (srt_asc D) nd
    exact this.imp fun {a b} hh => by
      obtain ⟨q1, q2⟩ := hh
      omega
  refine List.pairwise_append.mpr ⟨h1, List.pairwise_singleton _ _, fun a ha b hb => ?_⟩
  rw [List.mem_singleton.mp hb]
  have := (h.bnd a ((srt_perm D).mem_iff.mp ha)).2
  omega
theorem ends_lt {n : Int} {D : List Int} (h : Creases n D) {i j : Nat} (hij : i < j) (hj : j < (endsOf n D).length) : gi (endsOf n D) (i : Int) < gi (endsOf n D) (j : Int) := by
  have q := List.pairwise_iff_getElem.mp (ends_inc h) i j (by omega) hj hij
  have e1 : gi (endsOf n D) (i : Int) = (endsOf n D)[i] := gi_of (List.getElem?_eq_getElem (by omega))
  have e2 : gi (endsOf n D) (j : Int) = (endsOf n D)[j] := gi_of (List.getElem?_eq_getElem hj)
  rw [e1, e2]
  exact q
theorem ends_mem {n : Int} {D : List Int} {x : Int} : x ∈ endsOf n D ↔ x ∈ D ∨ x = n - 1 := by
  unfold endsOf
  rw [List.mem_append, List.mem_singleton, (srt_perm D).mem_iff]
theorem ends_low {n : Int} {D : List Int} (h : Creases n D) {i : Nat} (hi : i < D.length) : gi (endsOf n D) (i : Int) ∈ D := by
  have hl := ends_len n D
  have hm : gi (endsOf n D) (i : Int) ∈ endsOf n D := gi_mem (by omega) (by omega)
  rcases ends_mem.mp hm with q | q
  · exact q
  · have h1 := ends_lt h (i := i) (j := D.length) hi (by omega)
    have h2 : gi (endsOf n D) (D.length : Int) = n - 1 := by
      unfold endsOf
      rw [gi_app2 (by rw [srt_len]; exact Nat.le_refl _), srt_len, Nat.sub_self]
      rfl
    omega
theorem ends_last (n : Int) (D : List Int) : gi (endsOf n D) (D.length : Int) = n - 1 := by
  unfold endsOf
  rw [gi_app2 (by rw [srt_len]; exact Nat.le_refl _), srt_len, Nat.sub_self]
  rfl
theorem part_at {n : Int} {D : List Int} (hn : 1 ≤ n) (h : Creases n D) {i : Nat} (hi : i < (endsOf n D).length) : PartOf n D (firstOf (endsOf n D) i) (gi (endsOf n D) (i : Int)) := by
  have hl := ends_len n D
  obtain ⟨b1, b2, b3, b4⟩ := ends_bnd hn h.bnd hi
  have hprev : ∀ x : Int, firstOf (endsOf n D) i ≤ x → x < gi (endsOf n D) (i : Int) → x ∉ D := fun x h1 h2 hx => by
    obtain ⟨j, hj, ej⟩ := mem_gi (ends_mem.mpr (.inl hx) : x ∈ endsOf n D)
    have hji : j < i := by
      rcases Nat.lt_or_ge j i with q | q
      · exact q
      · rcases Nat.lt_or_eq_of_le q with q | q
        · have := ends_lt h q hj
          omega
        · rw [q] at h2
          omega
    have hf : firstOf (endsOf n D) i = gi (endsOf n D) ((i : Int) - 1) + 1 := by
      unfold firstOf
      rw [if_neg (by omega)]
    have e1 : ((i : Int) - 1) = ((i - 1 : Nat) : Int) := by omega
    rw [e1] at hf
    rcases Nat.lt_or_eq_of_le (show j ≤ i - 1 by omega) with q | q
    · have := ends_lt h q (by omega)
      omega
    · rw [← q] at hf
      omega
  refine ⟨b1, ?_, b4, ?_, ?_, hprev⟩
  · unfold firstOf
    split
    · exact b3
    · have e1 : ((i : Int) - 1) = ((i - 1 : Nat) : Int) := by omega
      have := ends_lt h (i := i - 1) (j := i) (by omega) hi
      rw [e1]
      omega
  · unfold firstOf
    split
    · exact .inl rfl
    · right
      have e1 : ((i : Int) - 1) = ((i - 1 : Nat) : Int) := by omega
      rw [e1]
      have := ends_low h (i := i - 1) (by omega)
      have e2 : gi (endsOf n D) ((i - 1 : Nat) : Int) + 1 - 1 = gi (endsOf n D) ((i - 1 : Nat) : Int) := by omega
      rw [e2]
      exact this
  · rcases Nat.lt_or_ge i D.length with q | q
    · exact .inr (ends_low h q)
    · have e : i = D.length := by omega
      rw [e, ends_last]
      exact .inl rfl
theorem part_is {n : Int} {D : List Int} (h : Creases n D) {f l : Int} (p : PartOf n D f l) : ∃ i : Nat, i < (endsOf n D).length ∧ firstOf (endsOf n D) i = f ∧ gi (endsOf n D) (i : Int) = l := by
  have hl := ends_len n D
  have hm : l ∈ endsOf n D := ends_mem.mpr (p.ld.elim .inr .inl)
  obtain ⟨i, hi, ei⟩ := mem_gi hm
  refine ⟨i, hi, ?_, ei⟩
  by_cases h0 : i = 0
  · unfold firstOf
    rw [if_pos h0]
    rcases p.fd with q | q
    · exact q.symm
    · obtain ⟨j, hj, ej⟩ := mem_gi (ends_mem.mpr (.inl q) : f - 1 ∈ endsOf n D)
      have hfl := p.fl
      rcases Nat.lt_or_eq_of_le (Nat.zero_le j) with q2 | q2
      · have := ends_lt h q2 hj
        rw [h0] at ei
        omega
      · rw [h0] at ei
        rw [← q2] at ej
        omega
  · have e1 : ((i : Int) - 1) = ((i - 1 : Nat) : Int) := by omega
    unfold firstOf
    rw [if_neg h0, e1]
    have hlt := ends_lt h (i := i - 1) (j := i) (by omega) hi
    have hlow := ends_low h (i := i - 1) (by omega)
    have hb := (h.bnd _ hlow).1
    have hnot : ¬ f ≤ gi (endsOf n D) ((i - 1 : Nat) : Int) := fun z => p.no _ z (by omega) hlow
    rcases p.fd with q | q
    · omega
    · obtain ⟨j, hj, ej⟩ := mem_gi (ends_mem.mpr (.inl q) : f - 1 ∈ endsOf n D)
      have hfl := p.fl
      rcases Nat.lt_trichotomy j (i - 1) with q2 | q2 | q2
      · have := ends_lt h q2 (by omega)
        omega
      · rw [q2] at ej
        omega
      · rcases Nat.lt_or_eq_of_le (show i ≤ j by omega) with q3 | q3
        · have := ends_lt h q3 hj
          omega
        · rw [← q3] at ej
          omega
theorem free_iff {p D : List Int} (hp : 1 ≤ p.length) (h : Creases (p.length : Int) D) : freeAt p D = true ↔ ∀ f l, PartOf (p.length : Int) D f l → lieB p f l = true := by
  unfold freeAt freeB
  rw [List.all_eq_true]
  constructor
  · intro hh f l q
    obtain ⟨i, hi, e1, e2⟩ := part_is h q
    have := hh i (List.mem_range.mpr hi)
    rw [e1, e2] at this
    exact this
  · intro hh i hi
    exact hh _ _ (part_at (by omega) h (List.mem_range.mp hi))

/-! ### the widest crease of a kind -/
def wid (p : List Int) (c : Int) : Int := if gi p (c + 1) - gi p c < 0 then -(gi p (c + 1) - gi p c) else gi p (c + 1) - gi p c
structure Wd (p : List Int) (f l like m : Int) : Prop where
  fm : f ≤ m
  ml : m < l
  par : (m - like) % 2 = 0
  top : ∀ c : Int, f ≤ c → c < l → (c - like) % 2 = 0 → wid p c ≤ wid p m
theorem widest_out {ps : List Int} (pp : IsPile ps) (nx : NoX (pl ps)) {f l like m : Int} (w : Wd (pl ps) f l like m) (f0 : 0 ≤ f) (ln : l ≤ (ps.length : Int) - 1) {o : Int} (of' : f ≤ o) (ol : o < l) (op : (o - m) % 2 = 0) : wr (pl ps) o m = false ∧ wr (pl ps) o (m + 1) = false := by
  have h1 := w.fm
  have h2 := w.ml
  have h3 := w.top o of' ol (by have := w.par; omega)
  unfold wid at h3
  have key : ∀ s, (s = m ∨ s = m + 1) → ¬ wr (pl ps) o s = true := by
    intro s hs hw
    by_cases hom : o = m
    · subst hom
      have q := wrB_iff.mp hw
      rcases hs with rfl | rfl <;> omega
    · have d1 := pp.ne (s := m) (t := m + 1) (by omega) (by omega) (by omega) (by omega) (by omega)
      have d2 := pp.ne (s := o) (t := o + 1) (by omega) (by omega) (by omega) (by omega) (by omega)
      have d3 := pp.ne (s := m) (t := o) (by omega) (by omega) (by omega) (by omega) (by omega)
      have d4 := pp.ne (s := m) (t := o + 1) (by omega) (by omega) (by omega) (by omega) (by omega)
      have d5 := pp.ne (s := m + 1) (t := o) (by omega) (by omega) (by omega) (by omega) (by omega)
      have d6 := pp.ne (s := m + 1) (t := o + 1) (by omega) (by omega) (by omega) (by omega) (by omega)
      have hpl := pl_len ps
      have nox : ∀ i j : Int, 0 ≤ i → i < j → (j - i) % 2 = 0 → j + 1 < (ps.length : Int) → wr (pl ps) i j = wr (pl ps) i (j + 1) := fun i j i0 ij he hj => Classical.byContradiction fun z => nx i j ⟨i0, ij, by omega, he, z⟩
      have hw2 := wrB_iff.mp hw
      rcases Int.lt_or_lt_of_ne hom with hlt | hlt
      · have q := nox o m (by omega) hlt (by omega) (by omega)
        have q1 : wr (pl ps) o m = true := by
          rcases hs with rfl | rfl
          · exact hw
          · rw [q]; exact hw
        have q2 : wr (pl ps) o (m + 1) = true := by rw [← q]; exact q1
        have a := wrB_iff.mp q1
        have b := wrB_iff.mp q2
        split at h3 <;> split at h3 <;> omega
      · have q := nox m o (by omega) hlt (by omega) (by omega)
        have hc : (wr (pl ps) m o = true ∧ wr (pl ps) m (o + 1) = true) ∨ (¬ wr (pl ps) m o = true ∧ ¬ wr (pl ps) m (o + 1) = true) := by
          rw [← q]
          cases wr (pl ps) m o <;> simp
        rcases hc with ⟨a, b⟩ | ⟨a, b⟩
        · have a := wrB_iff.mp a
          have b := wrB_iff.mp b
          rcases hs with rfl | rfl <;> omega
        · have a : ¬ _ := fun z => a (wrB_iff.mpr z)
          have b : ¬ _ := fun z => b (wrB_iff.mpr z)
          rcases hs with rfl | rfl <;> (split at h3 <;> split at h3 <;> omega)
  constructor
  · cases hh : wr (pl ps) o m with
    | false => rfl
    | true => exact absurd hh (key m (.inl rfl))
  · cases hh : wr (pl ps) o (m + 1) with
    | false => rfl
    | true => exact absurd hh (key (m + 1) (.inr rfl))
theorem held_no {p : List Int} {f l c s : Int} : heldB p f l c s = false ↔ ∀ o : Int, f ≤ o → o < l → (o - c) % 2 = 0 → wr p o s = false := by
  unfold heldB
  rw [List.any_eq_false]
  constructor
  · intro h o h1 h2 h3
    have q := h (o - f).toNat (List.mem_range.mpr (by omega))
    have e : f + (((o - f).toNat : Nat) : Int) = o := by omega
    rw [e, decide_eq_true h3] at q
    simpa using q
  · intro h k hk hh
    rw [Bool.and_eq_true, decide_eq_true_eq] at hh
    have := h (f + (k : Int)) (by omega) (by have := List.mem_range.mp hk; omega) hh.1
    rw [hh.2] at this
    cases this
theorem lie_iff {p : List Int} {f l : Int} : lieB p f l = true ↔ (0 < f → l < (p.length : Int) - 1 → (l - f) % 2 ≠ 1) ∧ (0 < f → heldB p f l (f - 1) f = false) ∧ (l < (p.length : Int) - 1 → heldB p f l l l = false) := by
  unfold lieB
  simp only [Bool.and_eq_true, Bool.not_eq_true', Bool.and_eq_false_iff, decide_eq_false_iff_not]
  constructor
  · rintro ⟨⟨h1, h2⟩, h3⟩
    refine ⟨fun a b c => ?_, fun a => ?_, fun a => ?_⟩
    · rcases h1 with q | q | q
      · exact q a
      · exact q b
      · exact q c
    · rcases h2 with q | q
      · exact absurd a q
      · exact q
    · rcases h3 with q | q
      · exact absurd a q
      · exact q
  · rintro ⟨h1, h2, h3⟩
    refine ⟨⟨?_, ?_⟩, ?_⟩
    · by_cases a : 0 < f
      · by_cases b : l < (p.length : Int) - 1
        · exact .inr (.inr (h1 a b))
        · exact .inr (.inl b)
      · exact .inl a
    · by_cases a : 0 < f
      · exact .inr (h2 a)
      · exact .inl a
    · by_cases b : l < (p.length : Int) - 1
      · exact .inr (h3 b)
      · exact .inl b
theorem held_sub {p : List Int} {f l f' l' c s : Int} (h : heldB p f l c s = false) (h1 : f ≤ f') (h2 : l' ≤ l) : heldB p f' l' c s = false :=
  held_no.mpr fun o a b e => held_no.mp h o (by omega) (by omega) e
theorem split_one {ps : List Int} (pp : IsPile ps) (nx : NoX (pl ps)) {f l like c : Int} (f0 : 0 ≤ f) (ln : l ≤ (ps.length : Int) - 1) (hl : lieB (pl ps) f l = true) (w : Wd (pl ps) f l like c) (p1 : 0 < f → (like - f) % 2 = 0) (p2 : l < (ps.length : Int) - 1 → (like - (l - 1)) % 2 = 0) :
    lieB (pl ps) f c = true ∧ lieB (pl ps) (c + 1) l = true := by
  have hpl := pl_len ps
  have h1 := w.fm
  have h2 := w.ml
  have h3 := w.par
  obtain ⟨a1, a2, a3⟩ := lie_iff.mp hl
  have out := fun {o : Int} q1 q2 q3 => widest_out pp nx w f0 ln (o := o) q1 q2 q3
  rw [hpl] at a1 a3
  constructor
  · refine lie_iff.mpr ⟨fun z _ => ?_, fun z => held_sub (a2 z) (Int.le_refl _) (by omega), fun _ => held_no.mpr fun o q1 q2 q3 => (out q1 (by omega) q3).1⟩
    have := p1 z
    omega
  · refine lie_iff.mpr ⟨fun _ z => ?_, fun _ => held_no.mpr fun o q1 q2 q3 => ?_, fun z => held_sub (a3 (by omega)) (by omega) (Int.le_refl _)⟩
    · rw [hpl] at z
      have := p2 z
      omega
    · exact (out (by omega) q2 (by omega)).2
theorem split_two {ps : List Int} (pp : IsPile ps) (nx : NoX (pl ps)) {f l c d : Int} (f0 : 0 < f) (ln : l < (ps.length : Int) - 1) (hl : lieB (pl ps) f l = true) (w : Wd (pl ps) f l f c) (v : Wd (pl ps) (c + 1) l (c + 1) d) :
    lieB (pl ps) f c = true ∧ lieB (pl ps) (c + 1) d = true ∧ lieB (pl ps) (d + 1) l = true := by
  have hpl := pl_len ps
  have h1 := w.fm
  have h2 := w.ml
  have h3 := w.par
  have k1 := v.fm
  have k2 := v.ml
  have k3 := v.par
  obtain ⟨a1, a2, a3⟩ := lie_iff.mp hl
  rw [hpl] at a1 a3
  have a1 := a1 f0 ln
  have out := fun {o : Int} q1 q2 q3 => widest_out pp nx w (by omega) (by omega) (o := o) q1 q2 q3
  have ouv := fun {o : Int} q1 q2 q3 => widest_out pp nx v (by omega) (by omega) (o := o) q1 q2 q3
  refine ⟨?_, ?_, ?_⟩
  · exact lie_iff.mpr ⟨fun z _ => by omega, fun z => held_sub (a2 z) (Int.le_refl _) (by omega), fun _ => held_no.mpr fun o q1 q2 q3 => (out q1 (by omega) q3).1⟩
  · exact lie_iff.mpr ⟨fun _ _ => by omega, fun _ => held_no.mpr fun o q1 q2 q3 => (out (by omega) (by omega) (by omega)).2, fun _ => held_no.mpr fun o q1 q2 q3 => (ouv q1 (by omega) q3).1⟩
  · exact lie_iff.mpr ⟨fun _ _ => by omega, fun _ => held_no.mpr fun o q1 q2 q3 => (ouv (by omega) q2 (by omega)).2, fun z => held_sub (a3 ln) (by omega) (Int.le_refl _)⟩
end Fo
/-! FoldM7 -/
namespace Fo
open PySem L2 Evl

theorem part_one {n : Int} {D : List Int} {f l f' l' c : Int} (p : PartOf n D f l) (q : PartOf n D f' l') (h1 : f ≤ c) (h2 : c < l) (g1 : f' ≤ c) (g2 : c < l') : f' = f ∧ l' = l := by
  have a : f' = f := by
    rcases Int.lt_trichotomy f' f with z | z | z
    · rcases p.fd with y | y
      · have := q.f0
        omega
      · exact absurd y (q.no _ (by omega) (by omega))
    · exact z
    · rcases q.fd with y | y
      · have := p.f0
        omega
      · exact absurd y (p.no _ (by omega) (by omega))
  have b : l' = l := by
    rcases Int.lt_trichotomy l' l with z | z | z
    · rcases q.ld with y | y
      · have := p.ln
        omega
      · exact absurd y (p.no _ (by omega) z)
    · exact z
    · rcases p.ld with y | y
      · have := q.ln
        omega
      · exact absurd y (q.no _ (by omega) z)
  exact ⟨a, b⟩
theorem part_cut {n : Int} {D : List Int} {f l c : Int} (p : PartOf n D f l) (h1 : f ≤ c) (h2 : c < l) {f' l' : Int} : PartOf n (D ++ [c]) f' l' ↔ (PartOf n D f' l' ∧ ¬ (f' = f ∧ l' = l)) ∨ (f' = f ∧ l' = c) ∨ (f' = c + 1 ∧ l' = l) := by
  have mem : ∀ x : Int, x ∈ D ++ [c] ↔ x ∈ D ∨ x = c := fun x => by rw [List.mem_append, List.mem_singleton]
  have hp0 := p.f0
  have hpn := p.ln
  constructor
  · intro q
    have q0 := q.f0
    have qn := q.ln
    have ql := q.fl
    have qno : ∀ x : Int, f' ≤ x → x < l' → x ∉ D := fun x a b hx => q.no x a b ((mem x).mpr (.inl hx))
    have cno : ¬ (f' ≤ c ∧ c < l') := fun z => q.no c z.1 z.2 ((mem c).mpr (.inr rfl))
    by_cases e1 : l' = c
    · right; left
      refine ⟨?_, e1⟩
      rcases Int.lt_trichotomy f' f with z | z | z
      · rcases p.fd with y | y
        · omega
        · exact absurd y (qno _ (by omega) (by omega))
      · exact z
      · rcases q.fd with y | y
        · omega
        · rcases (mem _).mp y with y | y
          · exact absurd y (p.no _ (by omega) (by omega))
          · omega
    · by_cases e2 : f' = c + 1
      · right; right
        refine ⟨e2, ?_⟩
        rcases Int.lt_trichotomy l' l with z | z | z
        · rcases q.ld with y | y
          · omega
          · rcases (mem _).mp y with y | y
            · exact absurd y (p.no _ (by omega) z)
            · exact absurd y e1
        · exact z
        · rcases p.ld with y | y
          · omega
          · exact absurd y (qno _ (by omega) z)
      · left
        refine ⟨⟨q0, ql, qn, ?_, ?_, qno⟩, fun z => cno ⟨by omega, by omega⟩⟩
        · rcases q.fd with y | y
          · exact .inl y
          · rcases (mem _).mp y with y | y
            · exact .inr y
            · omega
        · rcases q.ld with y | y
          · exact .inl y
          · rcases (mem _).mp y with y | y
            · exact .inr y
            · exact absurd y e1
  · rintro (⟨q, hne⟩ | ⟨rfl, rfl⟩ | ⟨rfl, rfl⟩)
    · refine ⟨q.f0, q.fl, q.ln, q.fd.imp id fun y => (mem _).mpr (.inl y), q.ld.imp id fun y => (mem _).mpr (.inl y), fun x a b hx => ?_⟩
      rcases (mem x).mp hx with hx | hx
      · exact q.no x a b hx
      · subst hx
        exact hne (part_one p q h1 h2 a b)
    · refine ⟨p.f0, h1, by omega, p.fd.imp id fun y => (mem _).mpr (.inl y), .inr ((mem _).mpr (.inr rfl)), fun x a b hx => ?_⟩
      rcases (mem x).mp hx with hx | hx
      · exact p.no x a (by omega) hx
      · omega
    · refine ⟨by omega, by omega, p.ln, .inr ((mem _).mpr (.inr (by omega))), p.ld.imp id fun y => (mem _).mpr (.inl y), fun x a b hx => ?_⟩
      rcases (mem x).mp hx with hx | hx
      · exact p.no x (by omega) b hx
      · omega
theorem creases_add {n : Int} {D : List Int} {f l c : Int} (h : Creases n D) (p : PartOf n D f l) (h1 : f ≤ c) (h2 : c < l) : Creases n (D ++ [c]) := by
  have hp0 := p.f0
  have hpn := p.ln
  refine ⟨fun x hx => ?_, List.nodup_append.mpr ⟨h.nd, by simp, fun a ha b hb => ?_⟩⟩
  · rcases List.mem_append.mp hx with hx | hx
    · exact h.bnd x hx
    · rw [List.mem_singleton.mp hx]
      omega
  · rw [List.mem_singleton.mp hb]
    rintro rfl
    exact p.no _ h1 h2 ha
/-- what stands on the pile of parts while a strip is opened: D is drawn -/
structure Opn (n : Int) (D : List Int) (S : List (Int × Int)) : Prop where
  cr : Creases n D
  inS : ∀ q ∈ S, PartOf n D q.1 q.2
  all : ∀ f l, PartOf n D f l → f < l → (f, l) ∈ S
  nd : S.Nodup
theorem Opn.start {n : Int} (hn : 1 ≤ n) : Opn n [] [(0, n - 1)] := by
  refine ⟨⟨by simp, List.nodup_nil⟩, fun q hq => ?_, fun f l p _ => ?_, by simp⟩
  · rw [List.mem_singleton.mp hq]
    exact ⟨Int.le_refl _, by show (0 : Int) ≤ n - 1; omega, Int.le_refl _, .inl rfl, .inl rfl, fun x _ _ h => by cases h⟩
  · have h1 := p.fd
    have h2 := p.ld
    simp only [List.not_mem_nil, or_false] at h1 h2
    rw [h1, h2]
    exact List.mem_cons_self
theorem Opn.drop {n : Int} {D : List Int} {S : List (Int × Int)} {f l : Int} (o : Opn n D (S ++ [(f, l)])) (h : ¬ f < l) : Opn n D S := by
  refine ⟨o.cr, fun q hq => o.inS q (List.mem_append_left _ hq), fun f' l' p hlt => ?_, (List.nodup_append.mp o.nd).1⟩
  rcases List.mem_append.mp (o.all f' l' p hlt) with z | z
  · exact z
  · have := List.mem_singleton.mp z
    cases this
    exact absurd hlt h
theorem Opn.one {n : Int} {D : List Int} {S : List (Int × Int)} {f l c : Int} (o : Opn n D (S ++ [(f, l)])) (h1 : f ≤ c) (h2 : c < l) : Opn n (D ++ [c]) (S ++ [(f, c), (c + 1, l)]) := by
  have p := o.inS (f, l) (List.mem_append_right _ List.mem_cons_self)
  obtain ⟨n1, n2, n3⟩ := List.nodup_append.mp o.nd
  have hne : ∀ q ∈ S, ¬ (q.1 = f ∧ q.2 = l) := fun q hq z => n3 q hq (f, l) List.mem_cons_self (by
    obtain ⟨a, b⟩ := q
    obtain ⟨rfl, rfl⟩ := z
    rfl)
  refine ⟨creases_add o.cr p h1 h2, fun q hq => ?_, fun f' l' q hlt => ?_, ?_⟩
  · rcases List.mem_append.mp hq with hq | hq
    · exact (part_cut p h1 h2).mpr (.inl ⟨o.inS q (List.mem_append_left _ hq), hne q hq⟩)
    · simp only [List.mem_cons, List.not_mem_nil, or_false] at hq
      rcases hq with rfl | rfl
      · exact (part_cut p h1 h2).mpr (.inr (.inl ⟨rfl, rfl⟩))
      · exact (part_cut p h1 h2).mpr (.inr (.inr ⟨rfl, rfl⟩))
  · rcases (part_cut p h1 h2).mp q with ⟨q, hn⟩ | ⟨rfl, rfl⟩ | ⟨rfl, rfl⟩
    · rcases List.mem_append.mp (o.all f' l' q hlt) with z | z
      · exact List.mem_append_left _ z
      · have := List.mem_singleton.mp z
        cases this
        exact absurd ⟨rfl, rfl⟩ hn
    · exact List.mem_append_right _ List.mem_cons_self
    · exact List.mem_append_right _ (List.mem_cons_of_mem _ List.mem_cons_self)
  · refine List.nodup_append.mpr ⟨n1, ?_, fun a ha b hb => ?_⟩
    · refine List.nodup_cons.mpr ⟨fun z => ?_, by simp⟩
      have := List.mem_singleton.mp z
      have e := congrArg Prod.fst this
      simp at e
      omega
    · rintro rfl
      have q := o.inS a (List.mem_append_left _ ha)
      simp only [List.mem_cons, List.not_mem_nil, or_false] at hb
      rcases hb with rfl | rfl
      · have hl := q.ld
        have pn := p.ln
        rcases hl with z | z
        · have z : c = n - 1 := z
          omega
        · exact p.no c h1 h2 z
      · have hl := q.fd
        have p0 := p.f0
        rcases hl with z | z
        · have z : c + 1 = 0 := z
          omega
        · have e : c + 1 - 1 = c := by omega
          have z : c + 1 - 1 ∈ D := z
          rw [e] at z
          exact p.no c h1 h2 z
theorem Opn.two {n : Int} {D : List Int} {S : List (Int × Int)} {f l c d : Int} (o : Opn n D (S ++ [(f, l)])) (h1 : f ≤ c) (h2 : c < d) (h3 : d < l) : Opn n (D ++ [c, d]) (S ++ [(f, c), (c + 1, d), (d + 1, l)]) := by
  have a := o.one h1 (by omega)
  have e1 : S ++ [(f, c), (c + 1, l)] = (S ++ [(f, c)]) ++ [(c + 1, l)] := by simp
  rw [e1] at a
  have b := a.one (c := d) (by omega) h3
  have e2 : D ++ [c] ++ [d] = D ++ [c, d] := by simp
  have e3 : S ++ [(f, c)] ++ [(c + 1, d), (d + 1, l)] = S ++ [(f, c), (c + 1, d), (d + 1, l)] := by simp
  rw [e2, e3] at b
  exact b
theorem free_one {p D : List Int} {f l c : Int} (hp : 1 ≤ p.length) (h : Creases (p.length : Int) D) (hf : freeAt p D = true) (q : PartOf (p.length : Int) D f l) (h1 : f ≤ c) (h2 : c < l) (a : lieB p f c = true) (b : lieB p (c + 1) l = true) : freeAt p (D ++ [c]) = true := by
  refine (free_iff hp (creases_add h q h1 h2)).mpr fun f' l' z => ?_
  rcases (part_cut q h1 h2).mp z with ⟨z, _⟩ | ⟨rfl, rfl⟩ | ⟨rfl, rfl⟩
  · exact (free_iff hp h).mp hf _ _ z
  · exact a
  · exact b
theorem free_two {p D : List Int} {f l c d : Int} (hp : 1 ≤ p.length) (h : Creases (p.length : Int) D) (hf : freeAt p D = true) (q : PartOf (p.length : Int) D f l) (h1 : f ≤ c) (h2 : c < d) (h3 : d < l) (a : lieB p f c = true) (b : lieB p (c + 1) d = true) (g : lieB p (d + 1) l = true) : freeAt p (D ++ [c, d]) = true := by
  have hc := creases_add h q h1 (by omega)
  have q2 : PartOf (p.length : Int) (D ++ [c]) (c + 1) l := (part_cut q h1 (by omega)).mpr (.inr (.inr ⟨rfl, rfl⟩))
  have hd := creases_add hc q2 (c := d) (by omega) h3
  have e2 : D ++ [c] ++ [d] = D ++ [c, d] := by simp
  rw [← e2]
  refine (free_iff hp hd).mpr fun f' l' z => ?_
  rcases (part_cut q2 (by omega) h3).mp z with ⟨z, hn⟩ | ⟨rfl, rfl⟩ | ⟨rfl, rfl⟩
  · rcases (part_cut q h1 (by omega)).mp z with ⟨z, _⟩ | ⟨rfl, rfl⟩ | ⟨rfl, rfl⟩
    · exact (free_iff hp h).mp hf _ _ z
    · exact a
    · exact absurd ⟨rfl, rfl⟩ hn
  · exact b
  · exact g
theorem free_none {p : List Int} (hp : 1 ≤ p.length) : freeAt p [] = true := by
  refine (free_iff hp ⟨by simp, List.nodup_nil⟩).mpr fun f l q => ?_
  have h1 := q.fd
  have h2 := q.ld
  simp only [List.not_mem_nil, or_false] at h1 h2
  rw [h1, h2]
  exact lie_iff.mpr ⟨fun z => by omega, fun z => by omega, fun z => by omega⟩
/-- nothing left: all creases are drawn -/
theorem Opn.done {n : Int} {D : List Int} (hn : 1 ≤ n) (o : Opn n D []) : (D.length : Int) = n - 1 := by
  have hl := ends_len n D
  have step : ∀ i : Nat, i < (endsOf n D).length → gi (endsOf n D) (i : Int) = (i : Int) := by
    intro i
    induction i with
    | zero =>
      intro hi
      have p := part_at hn o.cr hi
      have hnot : ¬ firstOf (endsOf n D) 0 < gi (endsOf n D) ((0 : Nat) : Int) := fun z => by cases o.all _ _ p z
      have h1 := p.fl
      have e : firstOf (endsOf n D) 0 = 0 := rfl
      rw [e] at hnot h1
      omega
    | succ i ih =>
      intro hi
      have p := part_at hn o.cr hi
      have hnot : ¬ firstOf (endsOf n D) (i + 1) < gi (endsOf n D) ((i + 1 : Nat) : Int) := fun z => by cases o.all _ _ p z
      have h1 := p.fl
      rw [firstOf_succ] at hnot h1
      have := ih (by omega)
      omega
  have := step D.length (by omega)
  rw [ends_last] at this
  omega
/-- the steps of an opening: each drawn set on the way is free -/
structure Steps (p : List Int) (ss : List (List Int)) : Prop where
  ok : ∀ k : Nat, k ≤ ss.length → Creases (p.length : Int) (ss.take k).flatten ∧ freeAt p (ss.take k).flatten = true
  kind : ∀ s ∈ ss, (∃ c, s = [c]) ∨ ∃ c d : Int, s = [c, d] ∧ c < d
theorem Steps.nil {p : List Int} (hp : 1 ≤ p.length) : Steps p [] := ⟨fun k hk => by
  have e : k = 0 := Nat.le_zero.mp hk
  subst e
  exact ⟨⟨by simp, List.nodup_nil⟩, free_none hp⟩, by simp⟩
theorem Steps.snoc {p : List Int} {ss : List (List Int)} {s : List Int} (h : Steps p ss) (hc : Creases (p.length : Int) (ss.flatten ++ s)) (hf : freeAt p (ss.flatten ++ s) = true) (hk : (∃ c, s = [c]) ∨ ∃ c d : Int, s = [c, d] ∧ c < d) : Steps p (ss ++ [s]) := by
  refine ⟨fun k hk => ?_, fun t ht => ?_⟩
  · by_cases e : k ≤ ss.length
    · rw [List.take_append_of_le_length e]
      exact h.ok k e
    · have e2 : (ss ++ [s]).take k = ss ++ [s] := List.take_of_length_le (by rw [List.length_append, List.length_singleton]; omega)
      rw [e2, List.flatten_append]
      simp only [List.flatten_cons, List.flatten_nil, List.append_nil]
      exact ⟨hc, hf⟩
  · rcases List.mem_append.mp ht with ht | ht
    · exact h.kind t ht
    · rw [List.mem_singleton.mp ht]
      exact hk
end Fo
/-! FoldK -/
namespace Fo
open PySem PySem.Spec PyProof.Rows L2 Evl LamX

/-! ### a lambda with one parameter -/
structure LamS1 (sc scope : Scope) (a : Str) : Prop where
  kind : scope.kind = .function
  co : scope.isCoroutine = false
  gen : scope.isGenerator = false
  noc : ∀ y ∈ scope.names, y.2 ≠ .cell
  loc : ∀ y ∈ scope.names, y.2 = .local → y.1 = a
  la : scope.names.lookup a = some .local
  free : ∀ y ∈ scope.names, y.2 = .free → sc.names.lookup y.1 = some .cell ∨ sc.names.lookup y.1 = some .free
theorem LamS1.has {X : Cx} {scope : Scope} {a : Str} (L : LamS1 X.env.scope scope a) (ok : X.Ok) : ∀ y ∈ scope.names, y.2 = .free → ∃ c, X.env.cells.lookup y.1 = some c := fun y hy e => by
  rcases L.free y hy e with k | k
  · exact ok.has _ (.inl k)
  · exact ok.has _ (.inr k)
section
variable {X : Cx} {pins : List (Addr × Obj)} {σ : L2.St} {H : Hp} {s : Shared}
theorem lam_start1 {A : Around} {outer : List Env} {E : XK} {scope : Scope} {f c' : Addr} {h₁ : Heap} {tk i : Nat} {a : Str} {v : V} {u : Value} (I : Inv X pins σ H s) (L : LamS1 X.env.scope scope a) (hN : X.N[i]? = some a) (nd : X.N.Nodup) (rv : RelV v u) (e0 : Env0 X.prog X.w X.K X.mg X.base A outer s H) (hd : A.handled = none)
    (hns : h₁.Ns s.heap.objs.size fun y => ([(a, u)] : List (Str × Value)).reverse.lookup y) (kp : ∀ b o, s.heap.get? b = some o → h₁.get? b = some o) :
    Inv (lamCx X A outer s H E scope f c') [] (σ.set i (some v)) H { s with heap := h₁, toks := tk } := by
  have hfree := L.has I.ok
  have cm : ∀ {y c}, (cloFrom X.env.cells scope.names []).lookup y = some c → X.env.cells.lookup y = some c := fun {y c} e => by
    rcases cloFrom_mem (PySem.mem_of_lookup e) with hm | ⟨h1, h2⟩
    · cases hm
    · obtain ⟨c1, hc⟩ := hfree _ h1 rfl
      have hc : X.env.cells.lookup y = some c1 := hc
      have e2 : c = c1 := by
        rw [h2, hc] <;> rfl
      rw [e2]
      exact hc
  have look : ∀ {y}, scope.names.lookup y = some .free → ∃ c, (cloFrom X.env.cells scope.names []).lookup y = some c := fun {y} hl => by
    have hy : (y, NameKind.free) ∈ scope.names := PySem.mem_of_lookup hl
    exact mem_lookup (cloFrom_has (cells := X.env.cells) (acc := []) hy)
  have cellK : ∀ {c : Addr} {v : Option Value}, s.heap.IsCell c v → h₁.IsCell c v := fun {c v} ⟨o, ho, hd⟩ => ⟨o, kp _ _ ho, hd⟩
  have noA : ∀ b : Addr, b ∉ (lamCx X A outer s H E scope f c').ex := fun b z => absurd (show b ∈ ([] : List Addr) from z) (by simp)
  refine ⟨⟨e0.mod, L.kind, rfl, rfl, Nat.le_refl _, fun y z c e1 e2 => I.ok.inj y z c (cm e1) (cm e2), fun y hy => ?_, fun y c z _ => ?_, fun _ => hd, Around.frames_deeper e0.frames, .inr ⟨rfl, rfl⟩, fun b z => absurd z (noA b), e0.bs, e0.bsz, fun b _ _ => noA b,
      fun b z => absurd z (noA b), e0.funs, e0.frf⟩,
    rfl, e0.bare, Un.kept kp, ⟨_, hns, fun j y w e1 e2 e3 => ?_⟩, fun y c e => ?_, e0.hok.fresh (Nat.le_refl _), fun y c e => ?_, fun q hq => absurd (show q ∈ ([] : List (Addr × Obj)) ++ [] from hq) (by simp), e0.hok.kept kp, by rw [List.length_set]; exact I.len⟩
  · have hy : scope.names.lookup y = some .cell ∨ scope.names.lookup y = some .free := hy
    rcases hy with hy | hy
    · exact absurd rfl (L.noc _ (PySem.mem_of_lookup hy))
    · exact look hy
  · have z : false = true := z
    cases z
  · have e3 : Vis scope y := e3
    have e1 : X.N[j]? = some y := e1
    rcases e3 with k | k | k
    · have hya : y = a := L.loc _ (PySem.mem_of_lookup k) rfl
      subst hya
      have hji : j = i := by
        obtain ⟨h1, h2⟩ := List.getElem?_eq_some_iff.mp e1
        obtain ⟨h3, h4⟩ := List.getElem?_eq_some_iff.mp hN
        exact (List.getElem_inj nd).mp (h2.trans h4.symm)
      subst hji
      have hjl : j < σ.length := by
        rw [I.len]
        exact (List.getElem?_eq_some_iff.mp hN).1
      rw [List.getElem?_set_self hjl] at e2
      cases e2
      refine ⟨u, rv, .inl ⟨k, ?_⟩⟩
      show List.lookup y ([(y, u)] : List (Str × Value)).reverse = some u
      simp [List.lookup]
    · exact absurd rfl (L.noc _ (PySem.mem_of_lookup k))
    · have hji : j ≠ i := fun z => by
        rw [z, hN] at e1
        cases e1
        rw [L.la] at k
        cases k
      rw [List.getElem?_set_ne (Ne.symm hji)] at e2
      obtain ⟨m, hn, hl⟩ := I.loc
      have hvis : Vis X.env.scope y := (L.free _ (PySem.mem_of_lookup k) rfl).elim (fun k => .inr (.inl k)) (fun k => .inr (.inr k))
      obtain ⟨w', r, q⟩ := hl j y w e1 e2 hvis
      obtain ⟨c2, h2⟩ := look k
      refine ⟨w', r, .inr ⟨.inr k, c2, h2, ?_⟩⟩
      have c1 := cm h2
      rcases q with ⟨k', _⟩ | ⟨_, c3, e', z⟩
      · have k' : X.env.scope.names.lookup y = some .local := k'
        rcases L.free _ (PySem.mem_of_lookup k) rfl with k2 | k2 <;> rw [show X.env.scope.names.lookup y = _ from k2] at k' <;> cases k'
      · rw [c1] at e'
        cases e'
        exact cellK z
  · obtain ⟨w', z⟩ := I.cell y c (cm e)
    exact ⟨w', cellK z⟩
  · exact I.freeC y c (cm e)
theorem cx_noO {P : Program} {w : World} {outer : List Env} {H : Hp} {s s' : Shared} {e : Value} (h : L2.CX P w outer H s (fun _ _ _ => False) e s') : False := by
  obtain ⟨_, _, _, _, _, _, _, _, _, _, _, _, z⟩ := h
  exact z
/-- the key is asked of an int -/
theorem key_call {A : Around} {scope : Scope} {f c' : Addr} {i : Nat} {a : Str} {params : Arguments} {body : Expr} {pm ctv : Value} {tb : TE} {x k : Int} {t : Tok} {Ex : Value → Shared → Prop} (I : Inv X pins σ H s) (L : LamS1 X.env.scope scope a) (hN : X.N[i]? = some a) (nd : X.N.Nodup)
    (hf : s.heap.get? f = some (PySem.W.kla_obj "<lambda>" (X.env.qual ++ "<lambda>") params body scope (cloFrom X.env.cells scope.names []) pm c' ctv)) (hco : H c' = some (CodeO c' (X.env.qual ++ "<lambda>")))
    (hbind : ∀ u, bindArgs (PySem.W.kla_fn "<lambda>" (X.env.qual ++ "<lambda>") params body scope (cloFrom X.env.cells scope.names []) pm (.ref c') ctv) ⟨[u], []⟩ = pure [(a, u)])
    (e0 : Env0 X.prog X.w X.K X.mg X.base A X.stack s H) (hd : A.handled = none) (hroom : A.depth < recursionLimit) (hbody : PE (lamCx X A X.stack s H (fun _ _ _ => False) scope f c') body tb)
    (ht : tb (σ.set i (some (.int x))) H fun v H' => v = .int k ∧ H' = H) :
    wpAny (model X.prog X.w) A (call (.ref f) [.int x t]) (fun r s' => Inv X pins σ H s' ∧ Un (frs X.stack) [] H H s.heap s'.heap ∧ ∃ t', r = .int k t') Ex s := by
  obtain ⟨⟨oc, vs, tq, hoc, hdc, hvc⟩, _, _⟩ := I.hok c' _ hco
  have rc : codeAny (model X.prog X.w) A (.call (.ref f) ⟨[.int x t], []⟩) (CR (L2.CX X.prog X.w) X.stack X.prog X.w H s (fun v H' => v = .int k ∧ H' = H) (fun _ _ _ => False)) s := by
    refine PySem.W.kla_callFunE hroom hf rfl L.co L.gen rfl ⟨c', oc, vs, tq, rfl, hoc, hdc, hvc⟩ ?_
    rw [hbind]
    refine wpAny_pure (wpAny_newFunctionEnv (fun y hy => L.noc y hy) (fun y hy => ?_) (fun h₁ hns hsb => ⟨I.nolimit.fresh _ hsb, ?_⟩) L.kind)
    · rw [List.mem_singleton.mp hy]
      exact L.la
    show codeAny _ _ (.expr body (lamEnv X scope s.heap.objs.size f c')) _ _
    have kp : ∀ b o, s.heap.get? b = some o → h₁.get? b = some o := fun b o e => hsb.extBut b o (Nat.ne_of_lt (Heap.lt_size e)) (Heap.get?_push_of_some _ e)
    have J : Inv (lamCx X A X.stack s H (fun _ _ _ => False) scope f c') [] (σ.set i (some (.int x))) H { s with heap := h₁, toks := s.toks + ([(a, Value.int x t)] : List (Str × Value)).length } :=
      lam_start1 I L hN nd ⟨t, rfl⟩ e0 hd hns kp
    refine PySem.W.kla_codeExpr (wpAny_mono (hbody.run [] _ _ H _ J ht) (fun v s' hq => ?_) fun e s' hq => hq)
    obtain ⟨w', H', J', rv, q⟩ := hq
    exact ⟨w', H', J'.os, J'.bare, J'.base, J'.hok, rv, q⟩
  refine wpAny_call (codeAny_mono rc fun r s' hq => ?_)
  cases r with
  | error e => exact (cx_noO hq).elim
  | ok fl =>
    cases fl with
    | ret u =>
      have hq0 : CE X.stack X.prog X.w H s (fun v H' => v = .int k ∧ H' = H) u s' := hq
      obtain ⟨v1, H1, I1, r1, q1, q2⟩ := I.after hq0
      obtain ⟨v, H', _, _, un, _, rv, e1, e2⟩ := hq0
      subst e1 e2 q2
      obtain ⟨t', rfl⟩ := rv
      exact ⟨I1, un, t', rfl⟩
    | next => exact False.elim hq
    | brk => exact False.elim hq
    | cont => exact False.elim hq

/-! ### max(xs, key=..) -/
theorem apart_frs {b : Addr} (I : Inv X pins σ H s) (fp : FpOk X pins H b) : b ∉ frs X.stack := fun z => by
  rcases List.mem_cons.mp (I.stkSub _ z) with e | e
  · exact fp.2.1 e
  · exact fp.2.2.1 e
theorem turned_at {b : Addr} {h' : Heap} {t' : Nat} (I : Inv X pins σ H s) (fp : FpOk X pins H b) (k : ∀ c o, c ≠ b → s.heap.get? c = some o → h'.get? c = some o) : Inv X pins σ H { s with heap := h', toks := t' } := by
  obtain ⟨f0, f1, f2, f3, f4, f5⟩ := fp
  exact I.turned k f0 f1 f3 f4 f5
/-- what max has met: the item and its key -/
def BestO (x : Int) (tx : Tok) (k : Int) (tk : Tok) (c : Nat) : Obj := { cls := .type "list", dict := none, data := .seq #[.int x tx, .int k tk] c, slots := #[] }
structure KeyAt (X : Cx) (pins : List (Addr × Obj)) (H : Hp) (s : Shared) (fo : Obj) (f it S l : Addr) (ns : List Int) (i : Nat) : Prop where
  fp_it : FpOk X pins H it
  fp_S : FpOk X pins H S
  fn : H f = none
  fr : f ∉ frs X.stack
  is : it ≠ S
  if' : it ≠ f
  sf : S ≠ f
  hl : H l = some (.lst (ns.map V.int))
  hf : s.heap.get? f = some fo
  hit : s.heap.IsListIter it l i
theorem max_key_loop {fo : Obj} {f it S l : Addr} {ns : List Int} {key : Int → Int} {R : Result → Shared → Prop} (hu : X.calm = true)
    (hkey : ∀ (s : Shared) (x : Int) (t : Tok) (Ex : Value → Shared → Prop), x ∈ ns → Inv X pins σ H s → s.heap.get? f = some fo → wpAny (model X.prog X.w) X.A.in1 (call (.ref f) [.int x t]) (fun r s' => Inv X pins σ H s' ∧ Un (frs X.stack) [] H H s.heap s'.heap ∧ ∃ t', r = .int (key x) t') Ex s)
    (hR : ∀ (s : Shared) (m : Int) (t : Tok), Inv X pins σ H s → m ∈ ns → (∀ y ∈ ns, key y ≤ key m) → R (.ok (.ret (.int m t))) s) :
    ∀ (k i : Nat) (s : Shared) (x : Int) (tx tk : Tok) (c : Nat), ns.length - i = k → i ≤ ns.length → Inv X pins σ H s → KeyAt X pins H s fo f it S l ns i → s.heap.get? S = some (BestO x tx (key x) tk c) → x ∈ ns → (∀ y ∈ ns.take i, key y ≤ key x) →
      codeAny (model X.prog X.w) X.A (.builtin "max.loop" ⟨[.ref it, .ref f, .ref S], []⟩) R s := by
  have hname : (toString "max" ++ toString ".loop" : String) = "max.loop" := by decide
  intro k
  induction k with
  | zero =>
    intro i s x tx tk c hk hi I C hS hx hb
    have hil : i = ns.length := by omega
    subst hil
    obtain ⟨its, rv, p, hz⟩ := I.list (.inl (.inl C.hl))
    have hlen := rv.length
    rw [List.length_map] at hlen
    refine codeAny_builtin F.entry_max_loop ?_
    rw [Around.under_plainId F.plain_max_loop _]
    show wpAny _ X.A.in1 (seqItems? (.ref S) >>= _) _ _ s
    refine wpAny_bind (wpAny_seqItems hS rfl ?_)
    show wpAny _ X.A.in1 (tryCatch (pyNext (.ref it)) _ >>= _) _ _ s
    refine wpAny_bind (wpAny_tryCatch (wpAny_pyNext_list_end (I.ok.hd hu) C.hit p.isList (by simp; omega) fun h' eb => ?_))
    have hS' := eb S _ (Ne.symm C.is) hS
    have I1 : Inv X pins σ H { s with heap := h' } := turned_at (t' := s.toks) I C.fp_it eb
    show wpAny _ X.A.in1 (updateSeq S (fun _ => #[]) >>= _) _ _ _
    refine wpAny_bind ?_
    refine wpAny_updateSeq hS' rfl (wpAny_bind (wpAny_letGo (wpAny_pure ?_)))
    rw [List.take_length] at hb
    exact hR _ x tx (turned_at (t' := s.toks) I1 C.fp_S fun b o hb e => (Heap.get?_update_other _ _ (Ne.symm hb)).trans e) hx hb
  | succ k ih =>
    intro i s x tx tk c hk hi I C hS hx hb
    have hlt : i < ns.length := by omega
    obtain ⟨its, rv, p, hz⟩ := I.list (.inl (.inl C.hl))
    obtain ⟨u, hu1, ru⟩ := rv.get (show (ns.map V.int)[i]? = some (V.int ns[i]) by rw [List.getElem?_map, List.getElem?_eq_getElem hlt]; rfl)
    obtain ⟨tv, rfl⟩ := ru
    have hmem : ns[i] ∈ ns := List.getElem_mem hlt
    refine codeAny_builtin F.entry_max_loop ?_
    rw [Around.under_plainId F.plain_max_loop _]
    show wpAny _ X.A.in1 (seqItems? (.ref S) >>= _) _ _ s
    refine wpAny_bind (wpAny_seqItems hS rfl ?_)
    show wpAny _ X.A.in1 (tryCatch (pyNext (.ref it)) _ >>= _) _ _ s
    refine wpAny_bind (wpAny_tryCatch (wpAny_pyNext_list_item C.hit p.isList (x := .int ns[i] tv) (by simpa using hu1) fun h' st' sb => ?_))
    have k1 : ∀ b o, b ≠ it → s.heap.get? b = some o → h'.get? b = some o := fun b o hb e => (sb.2 b hb).trans e
    have I1 : Inv X pins σ H { s with heap := h' } := turned_at (t' := s.toks) I C.fp_it k1
    have hS1 := k1 S _ (Ne.symm C.is) hS
    have hf1 := k1 f _ (Ne.symm C.if') C.hf
    show wpAny _ X.A.in1 (tryCatch (holding [Value.int ns[i] tv] (call (.ref f) [Value.int ns[i] tv])) _ >>= _) _ _ _
    refine wpAny_bind (wpAny_tryCatch (wpAny_holding (wpAny_mono (hkey { s with heap := h' } ns[i] tv _ hmem I1 hf1) (fun r s2 hq => ?_) fun _ _ z => z)))
    obtain ⟨I2, un, t', rfl⟩ := hq
    have hS2 := un.keep S _ hS1 C.fp_S.1 (apart_frs I1 C.fp_S) (by simp)
    have hf2 := un.keep f _ hf1 C.fn C.fr (by simp)
    have hit2 : s2.heap.IsListIter it l (i + 1) := st'.at fun o e => un.keep it o e C.fp_it.1 (apart_frs I1 C.fp_it) (by simp)
    show wpAny _ X.A.in1 (tryCatch (holding [Value.int ns[i] tv, Value.int (key ns[i]) t'] (richCompare .Gt (Value.int (key ns[i]) t') (Value.int (key x) tk) >>= _)) _ >>= _) _ _ _
    refine wpAny_bind (wpAny_tryCatch (wpAny_holding (wpAny_bind (richCompare_gives (op := .Gt) (typeIs_int s2 _ t') (typeIs_int s2 _ tk) F.slot_int_gt F.entry_int_gt (F.args_int_gt_2 _ _) (gives_int_gt _ _ t' tk) (fun x => nomatch x) ?_))))
    refine wpAny_bind (wpAny_holding (wpAny_truthy_bool ?_))
    refine wpAny_bind (wpAny_letGo (wpAny_pure ?_))
    by_cases hg : key ns[i] > key x
    · rw [decide_eq_true hg]
      simp only [if_true]
      refine wpAny_bind ?_
      refine wpAny_updateSeq hS2 rfl (wpAny_bind (wpAny_letGo ?_))
      rw [hname]
      have k2 : ∀ b o, b ≠ S → s2.heap.get? b = some o → (s2.heap.update S (Obj.mapSeq fun _ => #[Value.int ns[i] tv, Value.int (key ns[i]) t'])).get? b = some o := fun b o hb e => (Heap.get?_update_other _ _ (Ne.symm hb)).trans e
      refine wpAny_pure ⟨plainId_quiet F.plain_max_loop _, ih (i + 1) _ ns[i] tv t' _ (by omega) hlt (turned_at (t' := s2.toks) I2 C.fp_S k2) ⟨C.fp_it, C.fp_S, C.fn, C.fr, C.is, C.if', C.sf, C.hl, k2 f _ (Ne.symm C.sf) hf2, hit2.at fun o e => k2 it o C.is e⟩ (Heap.get?_update_self _ hS2 rfl) hmem fun y hy => ?_⟩
      rw [take_more (List.getElem?_eq_getElem hlt)] at hy
      rcases List.mem_append.mp hy with hy | hy
      · have := hb y hy
        omega
      · rw [List.mem_singleton.mp hy]
        exact Int.le_refl _
    · rw [decide_eq_false hg]
      simp only [Bool.false_eq_true, if_false]
      refine wpAny_bind (wpAny_letGo ?_)
      rw [hname]
      refine wpAny_pure ⟨plainId_quiet F.plain_max_loop _, ih (i + 1) _ x tx tk c (by omega) hlt I2 ⟨C.fp_it, C.fp_S, C.fn, C.fr, C.is, C.if', C.sf, C.hl, hf2, hit2⟩ hS2 hx fun y hy => ?_⟩
      rw [take_more (List.getElem?_eq_getElem hlt)] at hy
      rcases List.mem_append.mp hy with hy | hy
      · exact hb y hy
      · rw [List.mem_singleton.mp hy]
        omega
theorem max_key_first {fo : Obj} {f it S l : Addr} {ns : List Int} {key : Int → Int} {R : Result → Shared → Prop} (hu : X.calm = true) (hne : 0 < ns.length)
    (hkey : ∀ (s : Shared) (x : Int) (t : Tok) (Ex : Value → Shared → Prop), x ∈ ns → Inv X pins σ H s → s.heap.get? f = some fo → wpAny (model X.prog X.w) X.A.in1 (call (.ref f) [.int x t]) (fun r s' => Inv X pins σ H s' ∧ Un (frs X.stack) [] H H s.heap s'.heap ∧ ∃ t', r = .int (key x) t') Ex s)
    (hR : ∀ (s : Shared) (m : Int) (t : Tok), Inv X pins σ H s → m ∈ ns → (∀ y ∈ ns, key y ≤ key m) → R (.ok (.ret (.int m t))) s) {s : Shared} {c : Nat} (I : Inv X pins σ H s) (C : KeyAt X pins H s fo f it S l ns 0) (hS : s.heap.get? S = some { cls := .type "list", dict := none, data := .seq #[] c, slots := #[] }) :
      codeAny (model X.prog X.w) X.A (.builtin "max.loop" ⟨[.ref it, .ref f, .ref S], []⟩) R s := by
  have hname : (toString "max" ++ toString ".loop" : String) = "max.loop" := by decide
  obtain ⟨its, rv, p, hz⟩ := I.list (.inl (.inl C.hl))
  obtain ⟨u, hu1, ru⟩ := rv.get (show (ns.map V.int)[0]? = some (V.int ns[0]) by rw [List.getElem?_map, List.getElem?_eq_getElem hne]; rfl)
  obtain ⟨tv, rfl⟩ := ru
  have hmem : ns[0] ∈ ns := List.getElem_mem hne
  refine codeAny_builtin F.entry_max_loop ?_
  rw [Around.under_plainId F.plain_max_loop _]
  show wpAny _ X.A.in1 (seqItems? (.ref S) >>= _) _ _ s
  refine wpAny_bind (wpAny_seqItems hS rfl ?_)
  show wpAny _ X.A.in1 (tryCatch (pyNext (.ref it)) _ >>= _) _ _ s
  refine wpAny_bind (wpAny_tryCatch (wpAny_pyNext_list_item C.hit p.isList (x := .int ns[0] tv) (by simpa using hu1) fun h' st' sb => ?_))
  have k1 : ∀ b o, b ≠ it → s.heap.get? b = some o → h'.get? b = some o := fun b o hb e => (sb.2 b hb).trans e
  have I1 : Inv X pins σ H { s with heap := h' } := turned_at (t' := s.toks) I C.fp_it k1
  have hS1 := k1 S _ (Ne.symm C.is) hS
  have hf1 := k1 f _ (Ne.symm C.if') C.hf
  show wpAny _ X.A.in1 (tryCatch (holding [Value.int ns[0] tv] (call (.ref f) [Value.int ns[0] tv])) _ >>= _) _ _ _
  refine wpAny_bind (wpAny_tryCatch (wpAny_holding (wpAny_mono (hkey { s with heap := h' } ns[0] tv _ hmem I1 hf1) (fun r s2 hq => ?_) fun _ _ z => z)))
  obtain ⟨I2, un, t', rfl⟩ := hq
  have hS2 := un.keep S _ hS1 C.fp_S.1 (apart_frs I1 C.fp_S) (by simp)
  have hf2 := un.keep f _ hf1 C.fn C.fr (by simp)
  have hit2 : s2.heap.IsListIter it l (0 + 1) := st'.at fun o e => un.keep it o e C.fp_it.1 (apart_frs I1 C.fp_it) (by simp)
  show wpAny _ X.A.in1 (updateSeq S (fun _ => #[Value.int ns[0] tv, Value.int (key ns[0]) t']) >>= _) _ _ _
  refine wpAny_bind ?_
  refine wpAny_updateSeq hS2 rfl ?_
  rw [hname]
  have k2 : ∀ b o, b ≠ S → s2.heap.get? b = some o → (s2.heap.update S (Obj.mapSeq fun _ => #[Value.int ns[0] tv, Value.int (key ns[0]) t'])).get? b = some o := fun b o hb e => (Heap.get?_update_other _ _ (Ne.symm hb)).trans e
  refine wpAny_pure ⟨plainId_quiet F.plain_max_loop _, max_key_loop hu hkey hR _ (0 + 1) _ ns[0] tv t' _ rfl hne (turned_at (t' := s2.toks) I2 C.fp_S k2) ⟨C.fp_it, C.fp_S, C.fn, C.fr, C.is, C.if', C.sf, C.hl, k2 f _ (Ne.symm C.sf) hf2, hit2.at fun o e => k2 it o C.is e⟩ (Heap.get?_update_self _ hS2 rfl) hmem fun y hy => ?_⟩
  rw [take_more (List.getElem?_eq_getElem hne)] at hy
  simp only [List.take_zero, List.nil_append, List.mem_singleton] at hy
  rw [hy]
  exact Int.le_refl _
theorem call_function_treeK {prog : Program} {w : World} {A : Around} {E : Value → Shared → Prop} {s : Shared} {id : String} {b : Builtin} {args : List Value} {kw : List (Str × Value)} {Q : Value → Shared → Prop} (hk : builtinKind id = none) (hp : plainId id = true)
    (hb : entryFor table id = some b) (ha : argsOk id ⟨args, kw⟩)
    (hc : wpAny (model prog w) A.in1 (b ⟨args, kw⟩) (fun fin s' => match fin with
      | .done f => (match (Except.ok f : Result) with | .ok (.ret v) => Q v s' | .ok _ => False | .error e => E e s')
      | .again c' => c'.quiet = true ∧ codeAny (model prog w) A c' (fun r s' => match r with | .ok (.ret v) => Q v s' | .ok _ => False | .error e => E e s') s') E s) :
    wpAny (model prog w) A (call (.builtin id) args kw) Q E s := by
  refine wpAny_call (codeAny_call_builtin hp hb ?_)
  simp only [checkBuiltinCall, hk]
  cases hsig : Manifest.signature? id with
  | none => exact wpAny_pure hc
  | some sig =>
    simp only [argsOk, hsig] at ha
    have h2 : Bind.checkArgs id sig ⟨args, kw⟩ = pure () := ha
    show wpAny _ A.in1 (Bind.checkArgs id sig ⟨args, kw⟩) _ _ s
    rw [h2]; exact wpAny_pure hc
theorem call_max_key {fo : Obj} {f l : Addr} {ns : List Int} {key : Int → Int} {Q Ex : Value → Shared → Prop} (hu : X.calm = true) (hne : 0 < ns.length) (I : Inv X pins σ H s) (hl : H l = some (.lst (ns.map V.int))) (hf : s.heap.get? f = some fo) (fn : H f = none) (fr : f ∉ frs X.stack)
    (hkey : ∀ (s : Shared) (x : Int) (t : Tok) (Ex : Value → Shared → Prop), x ∈ ns → Inv X pins σ H s → s.heap.get? f = some fo → wpAny (model X.prog X.w) X.A.in1 (call (.ref f) [.int x t]) (fun r s' => Inv X pins σ H s' ∧ Un (frs X.stack) [] H H s.heap s'.heap ∧ ∃ t', r = .int (key x) t') Ex s)
    (hQ : ∀ (s : Shared) (m : Int) (t : Tok), Inv X pins σ H s → m ∈ ns → (∀ y ∈ ns, key y ≤ key m) → Q (.int m t) s) : wpAny (model X.prog X.w) X.A (call (.builtin "max") [.ref l] [(Str.ofString "key", .ref f)]) Q Ex s := by
  have hname : (toString "max" ++ toString ".loop" : String) = "max.loop" := by decide
  refine call_function_treeK F.kind_max F.plain_max F.entry_max (by unfold argsOk; kernel_rfl) ?_
  show wpAny _ X.A.in1 (Builtin.Builtins.bindParams "max" ["key", "default"] 0 ⟨[], [(Str.ofString "key", .ref f)]⟩ >>= _) _ _ s
  refine wpAny_bind (wpAny_of_eq (show Builtin.Builtins.bindParams "max" ["key", "default"] 0 ⟨[], [(Str.ofString "key", .ref f)]⟩ = pure [some (.ref f), none] from rfl) ?_)
  refine wpAny_bind (wpAny_pure ?_)
  obtain ⟨its, rv, p, hz⟩ := I.list (.inl (.inl hl))
  have hfl : f < s.heap.objs.size := Heap.lt_size hf
  have fp1 : FpOk X pins H s.heap.objs.size := I.fpOk (Nat.le_refl _) (I.hok.fresh (Nat.le_refl _))
  have fp2 : FpOk X pins H (s.heap.objs.size + 1) := I.fpOk (Nat.le_succ _) (I.hok.fresh (Nat.le_succ _))
  refine wpAny_bind (wpAny_pyIter_list p.isList ?_)
  refine wpAny_bind (wpAny_newObj_type ?_)
  rw [hname]
  have hsz : (s.heap.push { cls := .type "list_iterator", data := .fields #[.ref l, .int 0 0] }).objs.size = s.heap.objs.size + 1 := Heap.size_push ..
  have k1 : ∀ b o, s.heap.get? b = some o → ((s.heap.push { cls := .type "list_iterator", data := .fields #[.ref l, .int 0 0] }).push { cls := .type "list", data := .seq ([] : List Value).toArray }).get? b = some o := fun b o e => Heap.get?_push_of_some _ (Heap.get?_push_of_some _ e)
  have I1 : Inv X pins σ H { s with heap := (s.heap.push { cls := .type "list_iterator", data := .fields #[.ref l, .int 0 0] }).push { cls := .type "list", data := .seq ([] : List Value).toArray } } := I.kept (t' := s.toks) k1
  have hS : ((s.heap.push { cls := .type "list_iterator", data := .fields #[.ref l, .int 0 0] }).push { cls := .type "list", data := .seq ([] : List Value).toArray }).get? (s.heap.objs.size + 1) = some { cls := .type "list", data := .seq ([] : List Value).toArray } := by
    rw [← hsz]
    exact Heap.get?_push_size _ rfl
  refine wpAny_pure ⟨plainId_quiet F.plain_max_loop _, ?_⟩
  show codeAny _ _ (.builtin "max.loop" ⟨[.ref s.heap.objs.size, .ref f, .ref (s.heap.push { cls := .type "list_iterator", data := .fields #[.ref l, .int 0 0] }).objs.size], []⟩) _ _
  rw [hsz]
  refine max_key_first hu hne hkey (fun s' m t I' h1 h2 => hQ s' m t I' h1 h2) I1 ⟨fp1, fp2, fn, fr, Nat.ne_of_lt (Nat.lt_succ_self _), Nat.ne_of_gt hfl, Nat.ne_of_gt (Nat.lt_succ_of_lt hfl), hl, k1 f _ hf, ⟨_, Heap.get?_push_of_some _ (Heap.get?_push_size _ rfl), rfl, rfl⟩⟩ hS
def tMaxKey (T : List (Addr × Str)) (i : Nat) (te tb : TE) : TE := fun σ H Q => te σ H fun v H1 => ∃ (l : Addr) (ns : List Int), v = .ref l ∧ H1 l = some (.lst (ns.map V.int)) ∧ 0 < ns.length ∧ Tabs T H1 ∧
  ∀ H2, ExtN H1 H2 → Tabs T H2 → ∃ key : Int → Int, (∀ x ∈ ns, tb (σ.set i (some (.int x))) H2 fun v H' => v = .int (key x) ∧ H' = H2) ∧ ∀ m ∈ ns, (∀ y ∈ ns, key y ≤ key m) → Q (.int m) H2
end
section
variable {X : Cx}
theorem pe_maxKey {T : List (Addr × Str)} {c P : Addr} {e : Expr} {te tb : TE} {i : Nat} {a : Str} {params : Arguments} {body : Expr} {scope : Scope} {k : Nat} {p lpos kp pos : Pos} (hc : X.calm = true) (hg : Gl X "max") (hm : X.mg "max" = none) (he : PE X e te) (TB : TabB X.base X.mg c P) (hcode : X.env.code = .ref c)
    (hmT : (P, X.env.qual ++ "<lambda>") ∈ T) (hu : ∀ p ∈ T, p.1 = P → p.2 = X.env.qual ++ "<lambda>") (hr : Room k X.A) (L : LamS1 X.env.scope scope a) (hN : X.N[i]? = some a) (nd : X.N.Nodup) (hdef : defaultsOf params X.env = ([], []))
    (hbind : ∀ (q : Str) (cl : List (Str × Addr)) (pm cv ctv u : Value), bindArgs (PySem.W.kla_fn "<lambda>" q params body scope cl pm cv ctv) ⟨[u], []⟩ = pure [(a, u)])
    (hbody : ∀ (A : Around) (outer : List Env) (s : Shared) (H : Hp) (f c' : Addr), PE (lamCx X A outer s H (fun _ _ _ => False) scope f c') body tb)
    (hs : starEach [e] X.env = (false, eval e X.env) :: starEach [] X.env := by rfl)
    (hb1 : backTo pos (starEach [e] X.env) = (false, eval e X.env) :: backTo pos (starEach [] X.env) := by rfl) (hb2 : (backTo pos (starEach [e] X.env)).any (·.1) = false := by rfl) :
    PE X (.Call (.Name "max" p) [e] [⟨some "key", .Lambda params body scope lpos, kp⟩] pos) (tMaxKey T i te tb) := by
  refine ⟨fun pins s σ H Q I h => ?_⟩
  refine wpAny_Call_Name_kw (ld_blt I hg hm boot_max ?_)
  refine PyProof.Rows.callWith_kw (thn ((pa_cons he pa_nil hs).run pos pins s σ H (fun vs H1 => match vs with
    | [v] => ∃ (l : Addr) (ns : List Int), v = .ref l ∧ H1 l = some (.lst (ns.map V.int)) ∧ 0 < ns.length ∧ Tabs T H1 ∧
      ∀ H2, ExtN H1 H2 → Tabs T H2 → ∃ key : Int → Int, (∀ x ∈ ns, tb (σ.set i (some (.int x))) H2 fun v H' => v = .int (key x) ∧ H' = H2) ∧ ∀ m ∈ ns, (∀ y ∈ ns, key y ≤ key m) → Q (.int m) H2
    | _ => False) I h) fun us s1 ⟨vs, H1, I1, r1, q1⟩ => ?_) hb1 hb2 (by rfl) (by rfl)
  match vs, r1, q1 with
  | [v], r1, q1 =>
    obtain ⟨l, ns, rfl, hl, hne, hT, q⟩ := q1
    cases r1 with
    | cons ru rn =>
      cases rn
      cases ru
      show wpAny _ _ (evalAll [(do let v ← eval (.Lambda params body scope lpos) X.env; standAt pos; pure v)]) _ _ s1
      refine wpAny_evalAll_cons (wpAny_bind (lam_make2 I1 TB hcode hmT hu hT hdef (L.has I1.ok) fun f c' pm ctv H2 s2 I2 eN T2 hf fn fr hco => wpAny_bind (wpAny_standAt (wpAny_pure (wpAny_evalAll_nil ?_)))))
      obtain ⟨key, hk, hq⟩ := q H2 eN T2
      have hl2 : H2 l = some (.lst (ns.map V.int)) := eN l _ hl (fun ps z => by cases z)
      show wpAny _ _ (call (.builtin "max") [.ref l] [(Str.ofString "key", .ref f)]) _ _ s2
      refine call_max_key (key := key) hc hne I2 hl2 hf fn fr (fun s x t Ex hx I hf' => key_call I L hN nd hf' hco (hbind _ _ _ _ _) I.env0.in1 (I.ok.hd hc) (by have := hr.dp; show X.A.depth < _; omega) (hbody _ _ _ _ _ _) (hk x hx)) fun s m t I' h1 h2 => ⟨.int m, H2, I', ⟨t, rfl⟩, hq m h1 h2⟩
  | [], r1, q1 => exact False.elim q1
  | _ :: _ :: _, r1, q1 => exact False.elim q1
end
end Fo
/-! FoldP8 -/
namespace Fo
open PySem L2 Evl LamX

def wT (c : Cs) : List (Addr × Str) := [(c.tb, "widest.<locals>.<lambda>")]
theorem xn_ex {H H' : Hp} (e : Ex H H') : ExtN H H' := fun b o h _ => e b o h
theorem tb_ex {T : List (Addr × Str)} {H H' : Hp} (t : Tabs T H) (e : Ex H H') : Tabs T H' := t.ext e
theorem xn_mut {H H' : Hp} {p : Addr} {o : HO} (e : ExtN H H') (h : H p = none) : ExtN H (upd H' p o) := fun a u ha n => by
  rw [upd_ne (ne_of_none ha h)]
  exact e a u ha n
theorem xn_lst {H H' : Hp} {a : Addr} {xs : List V} (e : ExtN H H') (h : H a = some (.lst xs)) : H' a = some (.lst xs) := e a _ h fun ps z => by cases z
theorem xn_tup {H H' : Hp} {a : Addr} {xs : List V} (e : ExtN H H') (h : H a = some (.tup xs)) : H' a = some (.tup xs) := e a _ h fun ps z => by cases z
theorem xn_fresh {H H' : Hp} {p : Addr} (e : ExtN H H') (h : H' p = none) (n : ∀ ps, H p ≠ some (.tbl ps)) : H p = none := by
  cases q : H p with
  | none => rfl
  | some o =>
    rw [e p o q fun ps z => n ps (by rw [q, z])] at h
    cases h
/-- the table stands where no list, no tuple does -/
theorem tab_ne {c : Cs} {H : Hp} {a : Addr} {o : HO} (t : Tabs (wT c) H) (h : H a = some o) (n : ∀ ps, o ≠ .tbl ps) : a ≠ c.tb := fun z => by
  obtain ⟨ps, h1, _⟩ := t _ (List.mem_singleton.mpr rfl)
  rw [z, h1] at h
  exact n ps (Option.some.inj h).symm
theorem tab_mut {c : Cs} {H : Hp} {a : Addr} {o o' : HO} (t : Tabs (wT c) H) (h : H a = some o) (n : ∀ ps, o ≠ .tbl ps) (nc : ∀ c' q, o ≠ CodeO c' q) : Tabs (wT c) (upd H a o') := fun p hp => by
  have hne := tab_ne t h n
  have e := List.mem_singleton.mp hp
  subst e
  obtain ⟨ps, h1, h2, h3⟩ := t _ hp
  refine ⟨ps, (upd_ne (Ne.symm hne)).trans h1, h2, fun pos cv hc => ?_⟩
  obtain ⟨c', e1, e2⟩ := h3 pos cv hc
  refine ⟨c', e1, (upd_ne fun z => ?_).trans e2⟩
  rw [z, h] at e2
  exact nc _ _ (Option.some.inj e2)
theorem lst_code {xs : List V} (c' : Addr) (q : Str) : HO.lst xs ≠ CodeO c' q := fun z => by
  unfold CodeO at z
  cases z
theorem lst_tbl {xs : List V} (ps : Array Value) : HO.lst xs ≠ .tbl ps := fun z => by cases z
theorem ins_code {C dx : Addr} {fs : List (Str × V)} (c' : Addr) (q : Str) : HO.ins C dx fs ≠ CodeO c' q := fun z => by
  unfold CodeO at z
  cases z
theorem ins_tbl {C dx : Addr} {fs : List (Str × V)} (ps : Array Value) : HO.ins C dx fs ≠ .tbl ps := fun z => by cases z

def sp_widest (K : PySem.W.Frag) (c : Cs) : Sp := fun vs H Q _ => ∃ (a : Addr) (p : List Int) (f l like : Int), vs = [.ref a, .int f, .int l, .int like] ∧ H a = some (.lst (p.map V.int)) ∧ p.length ≤ 1000 ∧ 0 ≤ f ∧ l < (p.length : Int) ∧ (∃ x : Int, f ≤ x ∧ x < l ∧ (x - like) % 2 = 0) ∧ Tabs (wT c) H ∧
  ∀ m H', Wd p f l like m → ExtN H H' → Tabs (wT c) H' → Q (.int m) H'
def StepOf (p : List Int) (f l : Int) (s : List Int) : Prop := (0 < f ∧ l < (p.length : Int) - 1 ∧ ∃ x y : Int, s = [x, y] ∧ Wd p f l f x ∧ Wd p (x + 1) l (x + 1) y) ∨
  (∃ like x : Int, s = [x] ∧ Wd p f l like x ∧ (0 < f → (like - f) % 2 = 0) ∧ (l < (p.length : Int) - 1 → (like - (l - 1)) % 2 = 0))
def sp_step_of (K : PySem.W.Frag) (c : Cs) : Sp := fun vs H Q _ => ∃ (a : Addr) (p : List Int) (f l : Int), vs = [.ref a, .int f, .int l] ∧ H a = some (.lst (p.map V.int)) ∧ p.length ≤ 1000 ∧ 0 ≤ f ∧ f < l ∧ l < (p.length : Int) ∧ (0 < f → l < (p.length : Int) - 1 → (l - f) % 2 = 0) ∧ Tabs (wT c) H ∧
  ∀ s t H', StepOf p f l s → ExtN H H' → Tabs (wT c) H' → H' t = some (.tup (s.map V.int)) → Q (.ref t) H'
def StepT (H : Hp) (ts : List Addr) (ss : List (List Int)) : Prop := ts.length = ss.length ∧ ∀ (i : Nat) t s, ts[i]? = some t → ss[i]? = some s → H t = some (.tup (s.map V.int))
theorem StepT.ext {H H' : Hp} {ts : List Addr} {ss : List (List Int)} (e : ExtN H H') (h : StepT H ts ss) : StepT H' ts ss := ⟨h.1, fun i t q h1 h2 => xn_tup e (h.2 i t q h1 h2)⟩
def sp_opening (K : PySem.W.Frag) (c : Cs) : Sp := fun vs H Q E => ∃ (a : Addr) (ns : List Int), vs = [.ref a] ∧ SqL K H a (ns.map V.int) ∧ ns.length ≤ 1000 ∧ NoX (pl ns) ∧ Tabs (wT c) H ∧ OkOr c.np (IsPile ns) (∀ r ts ss H', Steps (pl ns) ss → (ss.flatten.length : Int) = (ns.length : Int) - 1 → ExtN H H' → Tabs (wT c) H' → H r = none → H' r = some (.lst (ts.map V.ref)) → StepT H' ts ss → Q (.ref r) H') H E
end Fo
/-! FoldP9 -/
namespace Fo
open PySem L2 Evl LamX

theorem rangeI_asc (m : Nat) : (rangeI m).Pairwise (· ≤ ·) := by
  unfold rangeI
  refine List.pairwise_map.mpr (List.pairwise_lt_range.imp fun {a b} h => ?_)
  omega
theorem srt_range {m : Nat} {D : List Int} (hn : D.Nodup) (hb : ∀ x ∈ D, 0 ≤ x ∧ x < (m : Int)) : srt D = (rangeI m).filter fun x => decide (x ∈ D) := by
  symm
  refine srt_eq ?_ ?_
  · refine (List.perm_ext_iff_of_nodup ((rangeI_nd m).filter _) hn).mpr fun x => ?_
    rw [List.mem_filter, rangeI_mem, decide_eq_true_eq]
    exact ⟨fun h => h.2, fun h => ⟨hb x h, h⟩⟩
  · exact (rangeI_asc m).filter _
theorem all_in {m : Nat} {D : List Int} (hn : D.Nodup) (hb : ∀ x ∈ D, 0 ≤ x ∧ x < (m : Int)) (hl : D.length = m) {x : Int} (h0 : 0 ≤ x) (h1 : x < (m : Int)) : x ∈ D :=
  IsPile.all ⟨by omega, fun y hy => by rw [hl]; exact hb y hy, hn⟩ h0 (by rw [hl]; exact h1)
theorem srt_full {m : Nat} {D : List Int} (hn : D.Nodup) (hb : ∀ x ∈ D, 0 ≤ x ∧ x < (m : Int)) (hl : D.length = m) : srt D = rangeI m := by
  rw [srt_range hn hb]
  refine List.filter_eq_self.mpr fun x hx => ?_
  have := rangeI_mem.mp hx
  exact decide_eq_true (all_in hn hb hl this.1 this.2)
theorem rangeI_len (m : Nat) : (rangeI m).length = m := by
  unfold rangeI
  rw [List.length_map, List.length_range]
theorem gi_rangeI {m i : Nat} (h : i < m) : gi (rangeI m) (i : Int) = (i : Int) := by
  refine gi_of ?_
  unfold rangeI
  rw [List.getElem?_map, List.getElem?_range h]
  rfl
theorem one_only {ns : List Int} (pp : IsPile ns) {k : Int} (h0 : 0 ≤ k) (h1 : k < (ns.length : Int)) (P : Int → Bool) (hP : ∀ s, P s = decide (s = k)) : ns.filter P = [k] := by
  have e : ns.filter P = ns.filter fun s => decide (s = k) := by
    congr 1
    exact funext hP
  rw [e]
  have hp : (ns.filter fun s => decide (s = k)).Perm [k] := (List.perm_ext_iff_of_nodup (pp.nd.filter _) (by simp)).mpr fun x => by
    rw [List.mem_filter, List.mem_singleton, decide_eq_true_eq]
    exact ⟨fun h => h.2, fun h => ⟨by rw [h]; exact pp.all h0 h1, h⟩⟩
  exact List.perm_singleton.mp hp
/-- all creases drawn: each part is one stamp -/
theorem rows_full {ns D : List Int} (pp : IsPile ns) (h : Creases (ns.length : Int) D) (hl : (D.length : Int) = (ns.length : Int) - 1) : partRows ns (ns.length : Int) D = (rangeI ns.length).map fun k => [k] := by
  have hps := pp.pos
  have es : endsOf (ns.length : Int) D = rangeI ns.length := by
    unfold endsOf
    rw [srt_full (m := D.length) h.nd (fun x hx => by have := h.bnd x hx; omega) rfl, show ns.length = D.length + 1 by omega, rangeI_succ]
    congr 2
    omega
  unfold partRows partsOf
  rw [es, rangeI_len, List.map_map]
  unfold rangeI
  rw [List.map_map]
  refine List.map_congr_left fun i hi => ?_
  have hi' : i < ns.length := List.mem_range.mp hi
  have e1 : gi (rangeI ns.length) (i : Int) = (i : Int) := gi_rangeI hi'
  have e2 : firstOf (rangeI ns.length) i = (i : Int) := by
    unfold firstOf
    by_cases z : i = 0
    · subst z
      simp
    · have e3 := gi_rangeI (m := ns.length) (i := i - 1) (by omega)
      have e4 : ((i - 1 : Nat) : Int) = (i : Int) - 1 := by omega
      rw [e4] at e3
      simp [z, e3]
  show ns.filter _ = [(i : Int)]
  refine one_only pp (by omega) (by omega) _ fun s => ?_
  show (decide (firstOf (rangeI ns.length) i ≤ s) && decide (s ≤ gi (rangeI ns.length) (i : Int))) = _
  rw [e1, e2]
  by_cases hs : s = (i : Int)
  · simp [hs]
  · rw [decide_eq_false hs]
    by_cases h2 : (i : Int) ≤ s
    · rw [decide_eq_false (show ¬ s ≤ (i : Int) by omega), Bool.and_false]
    · rw [decide_eq_false h2, Bool.false_and]
/-- no crease drawn: the whole pile -/
theorem rows_none {ns : List Int} (pp : IsPile ns) : partRows ns (ns.length : Int) [] = [ns] := by
  have hps := pp.pos
  have es : endsOf (ns.length : Int) [] = [(ns.length : Int) - 1] := by
    unfold endsOf
    have : srt [] = [] := List.eq_nil_of_length_eq_zero (srt_len [])
    rw [this]
    rfl
  unfold partRows partsOf
  rw [es]
  have ef : firstOf [(ns.length : Int) - 1] 0 = 0 := rfl
  have eg : gi [(ns.length : Int) - 1] ((0 : Nat) : Int) = (ns.length : Int) - 1 := gi_of rfl
  show [ns.filter _] = [ns]
  congr 1
  refine List.filter_eq_self.mpr fun x hx => ?_
  have := pp.bnd x hx
  show (decide (firstOf [(ns.length : Int) - 1] 0 ≤ x) && decide (x ≤ gi [(ns.length : Int) - 1] ((0 : Nat) : Int))) = true
  rw [ef, eg, decide_eq_true this.1, decide_eq_true (show x ≤ (ns.length : Int) - 1 by omega)]
  rfl

/-! ### promises -/
def sp_l_step (K : PySem.W.Frag) (c : Cs) : Sp := fun vs H Q _ => ∃ (t a : Addr) (s ds : List Int) (n : Int), vs = [.ref t, .int n, .ref a] ∧ H t = some (.tup (s.map V.int)) ∧ SqL K H a (ds.map V.int) ∧ ((∃ x, s = [x]) ∨ ∃ x y : Int, s = [x, y] ∧ x < y) ∧ (∀ x ∈ s, 0 ≤ x ∧ x ≤ n - 2 ∧ x ∉ ds) ∧ RetV (.bl true) H Q
def sp_l_found (K : PySem.W.Frag) (c : Cs) : Sp := fun vs H Q _ => ∃ (a b : Addr) (ns : List Int), vs = [.ref a, .ref b] ∧ H a = some (.lst (ns.map V.int)) ∧ SqL K H b (ns.map V.int) ∧ ns.length ≤ 1000 ∧ RetV (.bl true) H Q
def sp_l_apart (K : PySem.W.Frag) (c : Cs) : Sp := fun vs H Q _ => ∃ (b a r la lo ld : Addr) (ns : List Int) (ts : List Addr) (ss : List (List Int)), vs = [.ref b, .ref a, .ref r] ∧ BenchC K c ∧ InsB c H b la lo ld ∧ IsPile ns ∧ ns.length ≤ 100 ∧
  H la = some (.lst ((pl ns).map V.int)) ∧ H lo = some (.lst (ns.map V.int)) ∧ H ld = some (.lst []) ∧ H a = some (.lst ((pl ns).map V.int)) ∧ H r = some (.lst (ts.map V.ref)) ∧ StepT H ts ss ∧ Steps (pl ns) ss ∧ (ss.flatten.length : Int) = (ns.length : Int) - 1 ∧
  ∀ H' d, OffB b H H' → InsB c H' b la lo d → H' d = some (.lst (ss.flatten.map V.int)) → Q (.bl true) H'
def sp_l_pressed (K : PySem.W.Frag) (c : Cs) : Sp := fun vs H Q _ => ∃ (b a r la lo ld : Addr) (ns : List Int) (ts : List Addr) (ss : List (List Int)), vs = [.ref b, .ref a, .ref r] ∧ BenchC K c ∧ InsB c H b la lo ld ∧ IsPile ns ∧ ns.length ≤ 100 ∧
  H la = some (.lst ((pl ns).map V.int)) ∧ H lo = some (.lst (ns.map V.int)) ∧ H ld = some (.lst (ss.flatten.map V.int)) ∧ H a = some (.lst ((pl ns).map V.int)) ∧ H r = some (.lst (ts.map V.ref)) ∧ StepT H ts ss ∧ Steps (pl ns) ss ∧ (ss.flatten.length : Int) = (ns.length : Int) - 1 ∧
  ∀ H' d, OffB b H H' → InsB c H' b la lo d → H' d = some (.lst []) → Q (.bl true) H'
/-- the promise of a law that hands on the table of a lambda -/
def sp_lawT (K : PySem.W.Frag) (c : Cs) : Sp := fun vs H Q _ => ∃ (a : Addr) (ns : List Int), vs = [.ref a] ∧ SqL K H a (ns.map V.int) ∧ ns.length ≤ 63 ∧ Tabs (wT c) H ∧ ∀ H', Q (.bl true) H'
section
variable {K : PySem.W.Frag} {c : Cs} {H : Hp} {a b t : Addr} {s ds ns : List Int} {n : Int}
theorem v_l_step (h1 : H t = some (.tup (s.map V.int))) (h2 : SqL K H a (ds.map V.int)) (h3 : (∃ x, s = [x]) ∨ ∃ x y : Int, s = [x, y] ∧ x < y) (h4 : ∀ x ∈ s, 0 ≤ x ∧ x ≤ n - 2 ∧ x ∉ ds) : SpV (sp_l_step K c) [.ref t, .int n, .ref a] H (.bl true) := fun H1 e Q q E => ⟨t, a, s, ds, n, rfl, e t _ h1, ex_l e h2, h3, h4, q⟩
theorem v_found (h1 : H a = some (.lst (ns.map V.int))) (h2 : SqL K H b (ns.map V.int)) (hl : ns.length ≤ 1000) : SpV (sp_l_found K c) [.ref a, .ref b] H (.bl true) := fun H1 e Q q E => ⟨a, b, ns, rfl, e a _ h1, ex_l e h2, hl, q⟩
end
end Fo
/-! FoldI -/
namespace Fo
open PySem PySem.Spec PyProof.Rows L2 Evl

/-! ### a def called where an exception is handled: its promise knows that one's address, class and dict -/
abbrev SpX := Addr → Value → Option Addr → Sp
structure Got (cls : Value) (d : Option Addr) (o : Obj) : Prop where
  z : Zc cls d o
  f : ∃ fv, o.data = .fields fv
structure FnX (P : Program) (w : World) (K : PySem.W.Frag) (mg : Str → Option Value) (base : Heap) (k : Nat) (f : Addr) (fd : FuncData) (ps : List Str) (sp : SpX) : Prop where
  len : ∀ {a : Addr} {cls : Value} {d : Option Addr} {vs : List V} {H : Hp} {Q : VK} {E : XK}, sp a cls d vs H Q E → vs.length = ps.length
  run : ∀ {A : Around} {outer : List Env} {s : Shared} {H : Hp} {args : Args} {us : List Value} {vs : List V} {Q : VK} {E : XK} {p : Addr × Obj} {cls : Value} {d : Option Addr}, L2H.RoomH k A → L2H.PinOk outer H s p → Got cls d p.2 →
    Env0 P w K mg base A outer s H → BindsTo s fd args (ps.zip us) → Vals vs us → sp p.1 cls d vs H Q E → codeAny (model P w) A (.call (.ref f) args) (CR (L2.CX P w) outer P w H s Q E) s
abbrev cxX (P : Program) (w : World) (K : PySem.W.Frag) (mg : Str → Option Value) (base : Heap) (N : List Str) (q : Str) (sc : Scope) (f : Addr) (cd : Value) (A : Around) (o : List Env) (s : Shared) (H : Hp) (E : XK) (p : Addr × Obj) : Cx := L2H.cxH (L2.CX P w) P w K mg base N q sc f cd A o s H E p
theorem Fun.okZ {P : Program} {w : World} {K : PySem.W.Frag} {mg : Str → Option Value} {base : Heap} {x qual : Str} {st : Stmt} {f : Addr} {fd : FuncData} {N ps : List Str} {k : Nat} {sp : SpX} (F : L2.Fun K x qual st f fd) (S : FnScope N ps (defScope st)) (len : ∀ a cls d vs H Q E, sp a cls d vs H Q E → vs.length = ps.length)
    (hb : ∀ (cd : Value) (A : Around) (o : List Env) (s : Shared) (H : Hp) (vs : List V) (Q : VK) (E : XK) (p : Addr × Obj) (cls : Value) (d : Option Addr), L2H.RoomH k (A.deeper (envOfC qual (defScope st) s.heap.objs.size f cd)) → Got cls d p.2 → sp p.1 cls d vs H Q E →
      ∃ t, PSs (cxX P w K mg base N qual (defScope st) f cd A o s H E p) (defBody st) t ∧ t { nx := fun _ H' => Q .non H', rt := Q } (start N vs) H) : FnX P w K mg base (k + 1) f fd ps sp := by
  obtain ⟨oc, od, kV, doc, pm, an, cd, ct, osl, rfl, lk, hcd⟩ := F.ex
  refine ⟨fun {a cls d vs H Q E} h => len a cls d vs H Q E h, fun {A o s H args us vs Q E p cls d} room pin got e0 bind rv hsp => ?_⟩
  have keep := fun b u (e : base.get? b = some u) => (e0.bs b u e).1
  have kinds : ∀ y ∈ ps.zip us, (defScope st).names.lookup y.1 = some .local ∨ ((defScope st).names.lookup y.1 = some .cell ∧ ((cellsFrom (s.heap.objs.size + 1) (defScope st).names []).lookup y.1).isSome = true) := by
    rintro ⟨n, v⟩ hy
    exact (S.par n (List.of_mem_zip hy).1).imp id fun q => ⟨q, PySem.W.cellsFrom_some _ _ _ (.inl q)⟩
  refine codeAny_call_function room.depth ((e0.mod.kin.keeps keep) _ _ lk) rfl S.co S.gen rfl (PySem.W.codeRec_of (e0.mod.kin.keeps keep) hcd) (bind _ _ _ _ (wpAny_newFunctionEnv_cells S.kind kinds fun env he s1 x => ?_))
  subst he
  refine ⟨(e0.mod.nolimit.keeps keep).keeps x.toInCall.keep, codeAny_func ?_⟩
  obtain ⟨t, ht, hq⟩ := hb cd A o s H vs Q E p cls d (room.deeper _) got hsp
  have J0 := L2H.inv_startH (CX := L2.CX P w) (mg := mg) (E := E) S pin e0 (len _ _ _ _ _ _ _ hsp) rv x
  refine wpAny_mono (ht.run [] s1 (start N vs) H _ J0 hq) (fun r s' hr => ?_) fun _ _ z => z
  cases r with
  | next => obtain ⟨σ, H', J, q⟩ := hr; exact ⟨.non, H', J.os, J.bare, J.base, J.hok, rfl, q⟩
  | ret u => obtain ⟨v, σ, H', J, rv', q⟩ := hr; exact ⟨v, H', J.os, J.bare, J.base, J.hok, rv', q⟩
  | brk => obtain ⟨_, _, _, q⟩ := hr; exact q.elim
  | cont => obtain ⟨_, _, _, q⟩ := hr; exact q.elim
section
variable {X : Cx} {k : Nat} {f C : Addr} {fd : FuncData} {ps : List Str} {sp : Sp} {spx : SpX} {x m : Str} {q pos apos : Pos} {e o : Expr} {es : List Expr} {ta : TE} {t : TA} {p : Addr × Obj} {cls : Value} {d : Option Addr}
theorem roomX {j : Nat} {A : Around} {v : Option Value} (r : Room j A) : L2H.RoomH j (A.mark v) := ⟨r.dp, r.un⟩
/-- the reading of such a call -/
def tCallX (sp : SpX) (a : Addr) (cls : Value) (d : Option Addr) (t : TA) : TE := fun σ H Q => t σ H fun vs H1 => sp a cls d vs H1 Q fun _ _ _ => False
theorem pe_callX (F : FnX X.prog X.w X.K X.mg X.base k f fd ps spx) (hr : L2H.RoomH k X.A) (hp : p ∈ X.pn) (got : Got cls d p.2) (hg : Gl X x) (hm : X.mg x = some (.ref f)) (hk : PySem.W.keepIn X.K (.ref f) = true) (hb : Binds X.K fd ps [])
    (ha : PA X (e :: es) t) (hdb : (x == ("__debug__" : Str)) = false := by decide) (he : starEach (e :: es) X.env = (false, eval e X.env) :: starEach es X.env := by rfl) (hpl : (backTo pos (starEach es X.env)).any (·.1) = false := by rfl) :
    PE X (.Call (.Name x q) (e :: es) [] pos) (tCallX spx p.1 cls d t) := by
  refine ⟨fun pins s σ H Q I h => wpAny_Call_Name_kw (ld_glob I hg hm ?_ hdb)⟩
  refine PySem.W.callWith_K (h₀ := X.base) I.ok.mod.kin hk (thn (ha.run pos pins s σ H _ I h) fun us s1 ⟨vs, H1, J, rv, z⟩ => ⟨J.kIn, ?_⟩) he hpl
  have hl : us.length = ps.length := rv.length.symm.trans (F.len z)
  have bd := hb s1 us J.kIn (by rw [List.append_nil]; exact hl)
  rw [List.append_nil] at bd
  obtain ⟨P1, P2, P3, P4, P5⟩ := J.pin p (List.mem_append_left _ hp)
  have pin : L2H.PinOk X.stack H1 s1 p := ⟨P1, P2, fun hm => (List.mem_cons.mp (J.stkSub p.1 hm)).elim P3 P4, P5⟩
  refine wpAny_call (codeAny_mono (F.run hr pin got J.env0 bd rv z) fun r s' hq => ?_)
  cases r with
  | error u => obtain ⟨_, _, _, _, _, _, _, _, _, _, _, _, y⟩ := hq; exact y.elim
  | ok fl =>
    cases fl with
    | ret u => exact J.after hq
    | next => exact hq.elim
    | brk => exact hq.elim
    | cont => exact hq.elim
/-- o.m(..) in the body of a try -/
def tMethS (C : Addr) (m : Str) (sp : Sp) (E : L2.St → XK) (ta : TE) (t : TA) : TE := fun σ H Q => ta σ H fun x H1 => ∃ a dx fs, x = .ref a ∧ H1 a = some (.ins C dx fs) ∧ fs.lookup m = none ∧ t σ H1 fun vs H2 => sp (x :: vs) H2 Q (E σ)
theorem pe_methS {E : L2.St → XK} {pl : Sem Bool} (he : PE X o ta) (c : Cls X.K C) (hm : Meth X.K C m f) (F : FnOk X.prog X.w X.K X.mg X.base (L2.CX X.prog X.w) k f fd ps sp) (hr : Room k X.A) (hb : Binds X.K fd ps []) (hx : ∀ σ, PassesAt (L2.CX X.prog X.w) X σ (E σ)) (ha : PA X (e :: es) t)
    (hst : starEach (e :: es) X.env = (false, eval e X.env) :: starEach es X.env := by rfl) (hpl : (backTo pos (starEach es X.env)).any (·.1) = false := by rfl)
    (ht : eval (.Call (.Attribute o m apos) (e :: es) [] pos) X.env = (eval o X.env >>= fun ov => standAt apos.atName >>= fun _ => holding [ov] (getMethod ov m pl) >>= fun g => callWith pos g.1 g.2 (backTo pos (starEach (e :: es) X.env)) (backToKw pos (keywordEach [] X.env))) := by rfl) :
    PE X (.Call (.Attribute o m apos) (e :: es) [] pos) (tMethS C m sp E ta t) := by
  refine ⟨fun pins s σ H Q I h => PySem.W.methodCall_KW (pl := pl) (thn (he.run pins s σ H _ I h) fun u s1 ⟨y, H1, J, ry, a, dx, fs, ey, ea, lk, z⟩ => ?_) ht⟩
  subst ey
  cases ry
  refine getmeth_ok J ea c hm lk (PySem.W.callWith_K (first := [.ref a]) (h₀ := X.base) I.ok.mod.kin hm.kp (thn (ha.run pos pins s1 σ H1 _ J z) fun us s2 ⟨vs, H2, J2, rv, z2⟩ => ⟨J2.kIn, ?_⟩) hst hpl)
  exact run_fnS (us := .ref a :: us) (vs := .ref a :: vs) F hr hb (hx σ) J2 (.cons rfl rv) z2
/-- isinstance(e, c), e handled -/
def rIsX (K : PySem.W.Frag) (a : Addr) (cls : Value) (d : Option Addr) : List V → Hp → VK → Prop := fun xs H Q => ∃ (D : Addr) (c : V) (cv : Value) (b : Bool), xs = [.ref a, c] ∧ cls = .ref D ∧ ExcC K D ∧ (∀ dd, d = some dd → ∃ fs, H dd = some (.xd fs)) ∧ (∀ u, RelV c u → u = cv) ∧ PySem.W.kitOne K cls cv = some b ∧ Q (.bl b) H
theorem call_isX (hp : p ∈ X.pn) (got : Got cls d p.2) : CallR X (.builtin "isinstance") (rIsX X.K p.1 cls d) := by
  intro pins s σ H xs us Q I r h
  obtain ⟨D, c, cv, b, rfl, rfl, hC, hd, hcv, e, z⟩ := h
  obtain ⟨u1, u2, rfl, rfl, r2⟩ : ∃ u1 u2, us = [u1, u2] ∧ u1 = .ref p.1 ∧ RelV c u2 := by
    cases r with
    | cons ra rr =>
      cases rr with
      | cons rb rr =>
        cases rr
        exact ⟨_, _, rfl, ra, rb⟩
  obtain rfl := hcv _ r2
  have get := (I.pin p (List.mem_append.mpr (.inl hp))).1
  obtain ⟨od, J⟩ : ∃ od, PySem.W.InstAt s.heap p.1 p.2 D od := by
    obtain ⟨⟨h1, h2⟩, fv, h3⟩ := got
    obtain ⟨a, oc, oda, odt, osl⟩ := p
    dsimp only at h1 h2 h3 get ⊢
    subst h1 h2 h3
    cases oda with
    | none => exact ⟨none, get, rfl, rfl, trivial⟩
    | some dd =>
      obtain ⟨fs, hx⟩ := hd dd rfl
      obtain ⟨_, hns, _⟩ : ObjOk X.prog X.w H s.heap dd (.xd fs) := I.hok dd _ hx
      obtain ⟨o, ho, _⟩ := lookIn_ns hns
      exact ⟨some o, get, rfl, rfl, ho⟩
  have hcl : (PySem.W.clsIn X.K D).isSome = true := by
    obtain ⟨cd, q, _⟩ := PySem.W.any_some hC.hd
    rw [q]
    rfl
  exact PySem.W.kia_one (PySem.W.kitx_exc hcl hC.hg hC.hk hC.hs hC.ha hC.hn hC.ht hC.hm) I.kIn J e (fun y => nomatch y) fun tk => ⟨.bl b, H, I.kept (t' := tk) fun _ _ y => y, rfl, z⟩
end
/-- try: body; except C as n (slot i): suite -/
def tTry (K : PySem.W.Frag) (C : Value) (i : Nat) (tb : WX → TS) (ts : Addr → Value → Option Addr → TS) (E : XK) : TS := fun D σ H => tb (wAs K C i ts (fun cls d _ H => E cls d H) D) D σ H
theorem ps_tryX {X : Cx} {E : XK} {x n : Str} {c : Value} {i : Nat} {body suite : List Stmt} {b0 : Stmt} {np pos pos' : Pos} {tb : WX → TS} {ts : Addr → Value → Option Addr → TS} (hs : X.stack = X.env :: X.outer) (hf : X.env.frame = some X.env.locals) (hN : X.N.Nodup) (hi : X.N[i]? = some n) (hln : X.env.kindOf n = some .local) (hc : Names X x c) (tk : L2.Takes X fun cls d _ H => E cls d H)
    (hb : ∀ (W : WX) (pn : List (Addr × Obj)) (xe : Value → Shared → Prop), L2.Takes (X.tr pn xe) W → PSs (X.tr pn xe) body (tb W))
    (hsu : ∀ (a : Addr) (oe : Obj) (cls : Value) (d : Option Addr) (pn : List (Addr × Obj)), Got cls d oe → PSs (X.suite a ((a, oe) :: pn)) (b0 :: suite) (ts a cls d)) :
    PS X (.Try body [.ExceptHandler (some (.Name x np)) (some n) (b0 :: suite) pos'] [] [] pos) (tTry X.K c i tb ts E) :=
  L2.ps_try_as hs hf hN hi hln hc tk (fun W pn xe t _ => hb W pn xe t) fun a oe cls d pn z f => hsu a oe cls d pn ⟨z, f⟩
/-- what is known of one kind of refusal: the k-th of six -/
structure KindF (K : PySem.W.Frag) (c : Cs) (D : Addr) (k : Nat) : Prop where
  ex : ExcC K D
  k0 : PySem.W.kitOne K (.ref D) (.ref c.np) = some (decide (k = 0))
  k1 : PySem.W.kitOne K (.ref D) (.ref c.cr) = some (decide (k = 1))
  k2 : PySem.W.kitOne K (.ref D) (.ref c.nc) = some (decide (k = 2))
  k3 : PySem.W.kitOne K (.ref D) (.ref c.nl) = some (decide (k = 3))
  k4 : PySem.W.kitOne K (.ref D) (.ref c.nn) = some (decide (k = 4))
  k5 : PySem.W.kitOne K (.ref D) (.ref c.st) = some (decide (k = 5))
  ve : PySem.W.kitOne K (.ref D) (.type "ValueError") = some true
  se : PySem.W.exmOne K (.ref D) (.ref c.se) = some true
section
variable {K : PySem.W.Frag} {σ : L2.St} {H : Hp} {te : TE} {a D : Addr} {d : Option Addr} {b : Bool}
theorem ev_isX {C : Addr} (hx : ExcC K D) (hd : ∀ dd, d = some dd → ∃ fs, H dd = some (.xd fs)) (ha : Ev te σ H (.ref a)) (hk : PySem.W.kitOne K (.ref D) (.ref C) = some b) : Ev (tCB (rIsX K a (.ref D) d) (tCons te (tCons (tC (.ref C)) tNil))) σ H (.bl b) := fun H1 e Q q => ha H1 e _ fun H2 e2 =>
  ⟨D, .ref C, .ref C, b, rfl, rfl, hx, fun dd h => (hd dd h).imp fun fs h => (e.trans e2) dd _ h, fun u h => h, hk, q H2 e2⟩
theorem ev_isXt {T : String} (hx : ExcC K D) (hd : ∀ dd, d = some dd → ∃ fs, H dd = some (.xd fs)) (ha : Ev te σ H (.ref a)) (hk : PySem.W.kitOne K (.ref D) (.type T) = some b) : Ev (tCB (rIsX K a (.ref D) d) (tCons te (tCons (tC (.ty T)) tNil))) σ H (.bl b) := fun H1 e Q q => ha H1 e _ fun H2 e2 =>
  ⟨D, .ty T, .type T, b, rfl, rfl, hx, fun dd h => (hd dd h).imp fun fs h => (e.trans e2) dd _ h, fun u h => h, hk, q H2 e2⟩
/-- a call in the suite -/
theorem ev_callX {sp : SpX} {cls : Value} {ta : TA} {vs : List V} {z : V} (h : EvA ta σ H vs) (hs : SpV (sp a cls d) vs H z) : Ev (tCallX sp a cls d ta) σ H z := fun H1 e Q q => h H1 e _ fun H2 e2 => hs H2 (e.trans e2) Q (fun H3 e3 => q H3 (e2.trans e3)) _
end
end Fo
/-! FoldP10 -/
namespace Fo
open PySem L2 Evl

/-! ### what a deed is answered with -/
def after (ds cs : List Int) (dr : Bool) : List Int := if dr = true then ds ++ cs else pressed ds cs
def Okay (p ds cs : List Int) (dr : Bool) : Prop := (∀ x ∈ cs, decide (x ∈ ds) = !dr) ∧ freeAt p (after ds cs dr) = true
def Due (p ds cs : List Int) (dr : Bool) (w : Int) : Prop := (¬ Creases (p.length : Int) cs ∧ w = 1) ∨ (Creases (p.length : Int) cs ∧ ¬ Okay p ds cs dr ∧ w = 2) ∨ (Creases (p.length : Int) cs ∧ Okay p ds cs dr ∧ w = 0)
theorem Due.one {p ds cs : List Int} {dr : Bool} {w w' : Int} (h : Due p ds cs dr w) (h' : Due p ds cs dr w') : w = w' := by
  rcases h with ⟨a, e⟩ | ⟨a, b, e⟩ | ⟨a, b, e⟩ <;> rcases h' with ⟨a', e'⟩ | ⟨a', b', e'⟩ | ⟨a', b', e'⟩ <;> first | (exact e.trans e'.symm) | (exact absurd a' a) | (exact absurd a a') | (exact absurd b' b) | (exact absurd b b')
theorem after_perm {ds es cs : List Int} {dr : Bool} (h : ds.Perm es) : (after ds cs dr).Perm (after es cs dr) := by
  unfold after pressed
  cases dr with
  | true => exact h.append_right _
  | false => exact h.filter _
theorem Okay.perm {p ds es cs : List Int} {dr : Bool} (h : ds.Perm es) (o : Okay p ds cs dr) : Okay p es cs dr := ⟨fun x hx => by rw [← o.1 x hx, decide_eq_decide]; exact h.mem_iff.symm, by rw [← freeAt_perm (after_perm h)]; exact o.2⟩
theorem Due.perm {p ds es cs : List Int} {dr : Bool} {w : Int} (h : ds.Perm es) : Due p ds cs dr w → Due p es cs dr w := fun d => d.imp id fun d => d.imp (fun ⟨a, b, e⟩ => ⟨a, fun o => b (o.perm h.symm), e⟩) fun ⟨a, b, e⟩ => ⟨a, b.perm h, e⟩
theorem after_creases {n : Int} {p ds cs : List Int} {dr : Bool} (hd : Creases n ds) (hc : Creases n cs) (o : Okay p ds cs dr) : Creases n (after ds cs dr) := by
  unfold after
  cases dr with
  | true =>
    refine ⟨fun x hx => ?_, ?_⟩
    · rcases List.mem_append.mp hx with hx | hx
      · exact hd.bnd x hx
      · exact hc.bnd x hx
    · refine List.nodup_append.mpr ⟨hd.nd, hc.nd, fun a ha b hb e => ?_⟩
      have := o.1 b hb
      rw [← e] at this
      simp [ha] at this
  | false => exact ⟨fun x hx => hd.bnd x (List.mem_filter.mp hx).1, hd.nd.filter _⟩
theorem creases_len {n : Int} {ds : List Int} (h : Creases n ds) (hn : 1 ≤ n) : (ds.length : Int) ≤ n - 1 := by
  have := php (n - 1).toNat ds h.nd fun x hx => by have := h.bnd x hx; omega
  omega
theorem creases_nil (n : Int) : Creases n [] := ⟨fun x hx => by simp at hx, by simp⟩
theorem creases_perm {n : Int} {ds es : List Int} (h : ds.Perm es) (q : Creases n ds) : Creases n es := ⟨fun x hx => q.bnd x (h.mem_iff.mpr hx), h.nodup_iff.mp q.nd⟩

/-! ### promises -/
def CrV (xs : List V) : Prop := ∃ cs : List Int, xs = cs.map V.int ∧ cs.length ≤ 100
def sp_l_creases (K : PySem.W.Frag) (c : Cs) : Sp := fun vs H Q _ => ∃ (a : Addr) (ds : List Int) (n m : Int), vs = [.int n, .ref a, .int m] ∧ SqL K H a (ds.map V.int) ∧ ds.length ≤ 100 ∧ 1 ≤ n ∧ n ≤ 100 ∧ 0 ≤ m ∧ m < 4294967296 ∧ RetP CrV H Q
def sp_l_due (K : PySem.W.Frag) (c : Cs) : Sp := fun vs H Q _ => ∃ (a l r : Addr) (p ds cs : List Int) (dr : Bool), vs = [.ref a, .ref l, .ref r, .bl dr] ∧ SqL K H a (p.map V.int) ∧ H l = some (.lst (ds.map V.int)) ∧ H r = some (.lst (cs.map V.int)) ∧ 1 ≤ p.length ∧ p.length ≤ 100 ∧ ds.length ≤ 100 ∧ cs.length ≤ 100 ∧ (∀ x ∈ ds, 0 ≤ x ∧ x ≤ (p.length : Int) - 2) ∧
  ∀ w : Int, Due p ds cs dr w → RetV (.int w) H Q
/-- the kinds of refusal that a deed has -/
structure Kinds (K : PySem.W.Frag) (c : Cs) : Prop where
  nc : KindF K c c.nc 2
  st : KindF K c c.st 5
def sp_l_word_of (K : PySem.W.Frag) (c : Cs) : SpX := fun a cls d vs H Q _ => ∃ (D : Addr) (k : Nat), vs = [.ref a] ∧ cls = .ref D ∧ d = none ∧ KindF K c D k ∧ (k = 2 ∨ k = 5) ∧ RetV (.int (if k = 2 then 1 else 2)) H Q
def sp_l_done (K : PySem.W.Frag) (c : Cs) : Sp := fun vs H Q _ => ∃ (b r la lo ld : Addr) (ps ds cs : List Int) (dr : Bool), vs = [.ref b, .ref r, .bl dr] ∧ BenchC K c ∧ Kinds K c ∧ InsB c H b la lo ld ∧ H la = some (.lst (ps.map V.int)) ∧ H ld = some (.lst (ds.map V.int)) ∧ Sq2 K H r cs ∧ 1 ≤ ps.length ∧ ps.length ≤ 100 ∧ ds.length ≤ 100 ∧ cs.length ≤ 100 ∧ (∀ x ∈ ds, 0 ≤ x ∧ x ≤ (ps.length : Int) - 2) ∧
  ∀ (w : Int) H' d D', Due ps ds cs dr w → OffB b H H' → InsB c H' b la lo d → H' d = some (.lst (D'.map V.int)) → (w = 0 → D' = after ds cs dr) → (w ≠ 0 → D' = ds) → (d = ld ∨ H d = none) → Q (.int w) H'
def sp_l_behind (K : PySem.W.Frag) (c : Cs) : Sp := fun vs H Q _ => ∃ (b g l la lo ld : Addr) (ps D : List Int) (m : Int), vs = [.ref b, .ref g, .ref l, .int m] ∧ BenchC K c ∧ Kinds K c ∧ InsB c H b la lo ld ∧ H la = some (.lst (ps.map V.int)) ∧ H ld = some (.lst (D.map V.int)) ∧ H g = some (.lst (ps.map V.int)) ∧ H l = some (.lst ((srt D).map V.int)) ∧ Creases (ps.length : Int) D ∧ 1 ≤ ps.length ∧ ps.length ≤ 100 ∧ 0 ≤ m ∧ m < 4294967296 ∧
  ∀ H' l' d D', OffB b H H' → InsB c H' b la lo d → H' d = some (.lst (D'.map V.int)) → Creases (ps.length : Int) D' → H' l' = some (.lst ((srt D').map V.int)) → (d = ld ∨ H d = none) → (l' = l ∨ H l' = none) → Q (.ref l') H'
def sp_l_parts (K : PySem.W.Frag) (c : Cs) : Sp := fun vs H Q _ => ∃ (f r l : Addr) (ts : List Addr) (ns D : List Int), vs = [.ref f, .ref r, .ref l] ∧ H f = some (.lst (ts.map V.ref)) ∧ Rows H ts (partRows ns (ns.length : Int) D) ∧ H r = some (.lst (ns.map V.int)) ∧ H l = some (.lst ((srt D).map V.int)) ∧ 1 ≤ ns.length ∧ ns.length ≤ 1000 ∧ D.length ≤ 1000 ∧ RetV (.bl true) H Q
/-- two told lists that are alike, none of their parts in N -/
def Pair (N : Addr → Prop) (H : Hp) (u : Addr) : Prop := ∃ x y : Addr, H u = some (.tup [.ref x, .ref y]) ∧ ¬ N u ∧ ¬ N x ∧ ¬ N y ∧
  ((∃ ns : List Int, H x = some (.lst (ns.map V.int)) ∧ H y = some (.lst (ns.map V.int))) ∨ ∃ (xs ys : List Addr) (pss : List (List Int)), H x = some (.lst (xs.map V.ref)) ∧ H y = some (.lst (ys.map V.ref)) ∧ Rows H xs pss ∧ Rows H ys pss ∧ (∀ a ∈ xs, ¬ N a) ∧ ∀ a ∈ ys, ¬ N a)
theorem Pair.mono {N : Addr → Prop} {H H' : Hp} {u : Addr} (e : ∀ a o, ¬ N a → H a = some o → H' a = some o) : Pair N H u → Pair N H' u := by
  rintro ⟨x, y, hu, nu, nx, ny, h⟩
  refine ⟨x, y, e u _ nu hu, nu, nx, ny, ?_⟩
  rcases h with ⟨ns, h1, h2⟩ | ⟨xs, ys, pss, h1, h2, h3, h4, h5, h6⟩
  · exact .inl ⟨ns, e x _ nx h1, e y _ ny h2⟩
  · refine .inr ⟨xs, ys, pss, e x _ nx h1, e y _ ny h2, ⟨h3.1, fun i t ps a b => e t _ (h5 t (List.mem_of_getElem? a)) (h3.2 i t ps a b)⟩, ⟨h4.1, fun i t ps a b => e t _ (h6 t (List.mem_of_getElem? a)) (h4.2 i t ps a b)⟩, h5, h6⟩
theorem Pair.imp {N N' : Addr → Prop} {H : Hp} {u : Addr} (e : ∀ a, N' a → N a) : Pair N H u → Pair N' H u := by
  rintro ⟨x, y, hu, nu, nx, ny, h⟩
  refine ⟨x, y, hu, fun z => nu (e _ z), fun z => nx (e _ z), fun z => ny (e _ z), h.imp id ?_⟩
  rintro ⟨xs, ys, pss, h1, h2, h3, h4, h5, h6⟩
  exact ⟨xs, ys, pss, h1, h2, h3, h4, fun a ha z => h5 a ha (e _ z), fun a ha z => h6 a ha (e _ z)⟩
def sp_l_look (K : PySem.W.Frag) (c : Cs) : Sp := fun vs H Q _ => ∃ (b r l t la lo ld : Addr) (ns D : List Int) (us : List Addr) (m : Int), vs = [.ref b, .ref r, .ref l, .int m, .ref t] ∧ BenchC K c ∧ InsB c H b la lo ld ∧ H la = some (.lst ((pl ns).map V.int)) ∧ H lo = some (.lst (ns.map V.int)) ∧ H ld = some (.lst (D.map V.int)) ∧ H r = some (.lst (ns.map V.int)) ∧ H l = some (.lst ((srt D).map V.int)) ∧ 1 ≤ ns.length ∧ ns.length ≤ 100 ∧ D.length ≤ 100 ∧
  H t = some (.lst (us.map V.ref)) ∧ us.length ≤ 10000 ∧ ∀ H' vs', OffB t H H' → H' t = some (.lst ((us ++ vs').map V.ref)) → vs'.length ≤ 2 → (∀ v ∈ vs', Pair (fun a => H a ≠ none) H' v) → Q (.bl true) H'
section
variable {K : PySem.W.Frag} {c : Cs} {H : Hp} {a l r f : Addr} {p ds cs ns D : List Int} {ts : List Addr} {dr : Bool} {n m w : Int}
theorem v_creases (hS : SqL K H a (ds.map V.int)) (h1 : ds.length ≤ 100) (h2 : 1 ≤ n) (h3 : n ≤ 100) (h4 : 0 ≤ m) (h5 : m < 4294967296) : SpLP (sp_l_creases K c) [.int n, .ref a, .int m] H CrV := fun H1 e Q q E => ⟨a, ds, n, m, rfl, ex_l e hS, h1, h2, h3, h4, h5, q⟩
theorem v_due (hw : Due p ds cs dr w) (h1 : SqL K H a (p.map V.int)) (h2 : H l = some (.lst (ds.map V.int))) (h3 : H r = some (.lst (cs.map V.int))) (h4 : 1 ≤ p.length) (h5 : p.length ≤ 100) (h6 : ds.length ≤ 100) (h7 : cs.length ≤ 100) (h8 : ∀ x ∈ ds, 0 ≤ x ∧ x ≤ (p.length : Int) - 2) : SpV (sp_l_due K c) [.ref a, .ref l, .ref r, .bl dr] H (.int w) := fun H1 e Q q E =>
  ⟨a, l, r, p, ds, cs, dr, rfl, ex_l e h1, e l _ h2, e r _ h3, h4, h5, h6, h7, h8, fun w' hw' => by rw [hw'.one hw]; exact q⟩
theorem v_parts (h1 : H f = some (.lst (ts.map V.ref))) (h2 : Rows H ts (partRows ns (ns.length : Int) D)) (h3 : H r = some (.lst (ns.map V.int))) (h4 : H l = some (.lst ((srt D).map V.int))) (h5 : 1 ≤ ns.length) (h6 : ns.length ≤ 1000) (h7 : D.length ≤ 1000) : SpV (sp_l_parts K c) [.ref f, .ref r, .ref l] H (.bl true) := fun H1 e Q q E =>
  ⟨f, r, l, ts, ns, D, rfl, e f _ h1, h2.mono e, e r _ h3, e l _ h4, h5, h6, h7, q⟩
end
end Fo
/-! FoldT -/
namespace Fo
open PySem L2 Evl

def t_places (K : PySem.W.Frag) (c : Cs) (E : XK) : TS :=
 (tSeq (tAsg (tCB (rLenS K) (tCons (tVar 0) tNil)) (gName 1))
 (tSeq (tIfS (tTest (tOp rEq (tVar 1) (tC (.int 0)))) (tSeq (tRaise E (.ref c.np))
 tNext) tNext)
 (tSeq (tAsg (tOp rRep (tLst (tCons (tUn (rU fun i => .int (-i)) (tC (.int 1))) tNil)) (tVar 1)) (gName 2))
 (tSeq (tFor (iEnum K (tCons (tVar 0) tNil)) (gTup K 2 (gCons (gName 3) (gCons (gName 4) gNil))) (tSeq (tIfS (tOr (tTest (tOp (rI0 fun i j => .bl (decide (i < j))) (tVar 4) (tC (.int 0)))) (tOr (tTest (tOp (rI0 fun i j => .bl (decide (j ≤ i))) (tVar 4) (tVar 1))) (tTest (tOp (rI0 fun i j => .bl (decide (j ≤ i))) (tOp (rIxL K) (tVar 2) (tVar 4)) (tC (.int 0)))))) (tSeq (tRaise E (.ref c.np))
 tNext) tNext)
 (tSeq (tAsg (tVar 3) (gSub (tVar 2) (tVar 4) rSetL))
 tNext)))
 (tSeq (tRet (tVar 2))
 tNext)))))

def t_letters (K : PySem.W.Frag) (c : Cs) (E : XK) : TS :=
 (tSeq (tAsg (tCall (sp_places K c) [] E (tCons (tVar 0) tNil)) (gName 1))
 (tSeq (tAsg (tLst tNil) (gName 2))
 (tSeq (tFor (iRng1 (tCons (tOp (rI0 fun i j => .int (i - j)) (tCB (rLenS K) (tCons (tVar 1) tNil)) (tC (.int 1))) tNil)) (gName 3) (tSeq (tAsg (tOp (rI0 fun i j => .bl (decide (j < i))) (tOp (rIxL K) (tVar 1) (tOp (rI0 fun i j => .int (i + j)) (tVar 3) (tC (.int 1)))) (tOp (rIxL K) (tVar 1) (tVar 3))) (gName 4))
 (tSeq (tDrop (tBM K "list" rAppend (tVar 2) (tCons (tIf (tTest (tOp rEq (tVar 4) (tOp rEq (tOp (rI (fun _ j => 0 < j) fun i j => .int (i % j)) (tVar 3) (tC (.int 2))) (tC (.int 0))))) (tC (.str "V")) (tC (.str "M"))) tNil)))
 tNext)))
 (tSeq (tRet (tBM K "str" (rJoin K) (tC (.str "")) (tCons (tVar 2) tNil)))
 tNext))))

def t_l_drawn (K : PySem.W.Frag) (c : Cs) (E : XK) : TS :=
 (tSeq (tRet (tIf (tTest (tOp (rI0 fun i j => .bl (decide (i < j))) (tVar 1) (tCB (rLenS K) (tCons (tVar 0) tNil)))) (tOp (rIxL K) (tVar 0) (tVar 1)) (tC (.int 0))))
 tNext)

def t_l_number (K : PySem.W.Frag) (c : Cs) (E : XK) : TS :=
 (tSeq (tAsg (tOp (rI0 fun i j => .int (i + j)) (tOp (rI CMul fun i j => .int (i * j)) (tOp (rI CMul fun i j => .int (i * j)) (tVar 1) (tVar 1)) (tC (.int 7919))) (tVar 1)) (gName 2))
 (tSeq (tIfS (tTest (tOp (rI0 fun i j => .bl (decide (i < j))) (tVar 1) (tCB (rLenS K) (tCons (tVar 0) tNil)))) (tSeq (tAsg (tOp (rIxL K) (tVar 0) (tVar 1)) (gName 2))
 tNext) (tSeq (tIfS (tTest (tOp (rNeD K) (tVar 0) (tLst tNil))) (tSeq (tAsg (tOp (rI0 fun i j => .int (i + j)) (tVar 2) (tOp (rIxL K) (tVar 0) (tOp (rI (fun _ j => 0 < j) fun i j => .int (i % j)) (tVar 1) (tCB (rLenS K) (tCons (tVar 0) tNil))))) (gName 2))
 tNext) tNext)
 tNext))
 (tSeq (tRet (tOp (rI (fun _ j => 0 < j) fun i j => .int (i % j)) (tOp (rI CMul fun i j => .int (i * j)) (tVar 2) (tC (.int 48271))) (tC (.int 2147483647))))
 tNext)))

def t_l_counts (K : PySem.W.Frag) (c : Cs) (E : XK) : TS :=
 (tSeq (tRet (tAndV (tCB (rIsi K) (tCons (tVar 0) (tCons (tC (.ty "int")) tNil))) (tAndV (tOp rNotIB (tVar 0) (tC (.bl true))) (tOp rNotIB (tVar 0) (tC (.bl false))))))
 tNext)

def t_l_size (K : PySem.W.Frag) (c : Cs) (E : XK) : TS :=
 (tSeq (tRet (tOp (rI0 fun i j => .int (i + j)) (tC (.int 1)) (tOp (rI (fun _ j => 0 < j) fun i j => .int (i % j)) (tOp (rI CDiv fun i j => .int (i / j)) (tVar 0) (tC (.int 8))) (tOp (rIxL K) (tLst (tCons (tC (.int 6)) (tCons (tC (.int 9)) (tCons (tC (.int 17)) (tCons (tC (.int 9)) (tCons (tC (.int 17)) (tCons (tC (.int 12)) (tCons (tC (.int 30)) (tCons (tC (.int 100)) tNil))))))))) (tOp (rI (fun _ j => 0 < j) fun i j => .int (i % j)) (tVar 0) (tC (.int 8)))))))
 tNext)

def t_l_pile (K : PySem.W.Frag) (c : Cs) (E : XK) : TS :=
 (tSeq (tAsg (tLst tNil) (gName 3))
 (tSeq (tFor (iRng1 (tCons (tVar 2) tNil)) (gName 4) (tSeq (tAsg (tOp (rI (fun _ j => 0 < j) fun i j => .int (i % j)) (tCall (sp_l_number K c) [] E (tCons (tVar 0) (tCons (tOp (rI0 fun i j => .int (i + j)) (tVar 1) (tVar 4)) tNil))) (tOp (rI0 fun i j => .int (i + j)) (tVar 4) (tC (.int 1)))) (gName 5))
 (tSeq (tAsg (tOp rCat (tOp rCat (tSl (rSlL K) (tVar 3) tNoPart (tPart (tVar 5))) (tLst (tCons (tVar 4) tNil))) (tSl (rSlL K) (tVar 3) (tPart (tVar 5)) tNoPart)) (gName 3))
 tNext)))
 (tSeq (tRet (tVar 3))
 tNext)))

def t_law_k01 (K : PySem.W.Frag) (c : Cs) (E : XK) : TS :=
 (tSeq (tAsg (tCall (sp_l_size K c) [] E (tCons (tCall (sp_l_drawn K c) [] E (tCons (tVar 0) (tCons (tC (.int 0)) tNil))) tNil)) (gName 1))
 (tSeq (tAsg (tCall (sp_l_pile K c) [] E (tCons (tVar 0) (tCons (tC (.int 1)) (tCons (tVar 1) tNil)))) (gName 2))
 (tSeq (tAsg (tCB (rListS K) (tCons (tVar 2) tNil)) (gName 3))
 (tSeq (tAsg (tCall (sp_places K c) [] E (tCons (tVar 3) tNil)) (gName 4))
 (tSeq (tIfS (tOr (tNot (tB (tCB (rIsi K) (tCons (tVar 4) (tCons (tC (.ty "list")) tNil))))) (tTest (tOp rNe (tCB (rLenS K) (tCons (tVar 4) tNil)) (tVar 1)))) (tSeq (tRet (tC (.bl false)))
 tNext) tNext)
 (tSeq (tFor (iRng1 (tCons (tVar 1) tNil)) (gName 5) (tSeq (tIfS (tOr (tNot (tB (tCall (sp_l_counts K c) [] E (tCons (tOp (rIxL K) (tVar 4) (tVar 5)) tNil)))) (tOr (tTest (tOp (rI0 fun i j => .bl (decide (i < j))) (tOp (rIxL K) (tVar 4) (tVar 5)) (tC (.int 0)))) (tTest (tOp (rI0 fun i j => .bl (decide (j ≤ i))) (tOp (rIxL K) (tVar 4) (tVar 5)) (tVar 1))))) (tSeq (tRet (tC (.bl false)))
 tNext) tNext)
 (tSeq (tIfS (tTest (tOp rNe (tOp (rIxL K) (tVar 2) (tOp (rIxL K) (tVar 4) (tVar 5))) (tVar 5))) (tSeq (tRet (tC (.bl false)))
 tNext) tNext)
 tNext)))
 (tSeq (tAsg (tCall (sp_letters K c) [] E (tCons (tVar 3) tNil)) (gName 6))
 (tSeq (tIfS (tOr (tNot (tB (tCB (rIsi K) (tCons (tVar 6) (tCons (tC (.ty "str")) tNil))))) (tOr (tTest (tOp rNe (tCB rLenT (tCons (tVar 6) tNil)) (tOp (rI0 fun i j => .int (i - j)) (tVar 1) (tC (.int 1))))) (tTest (tOp (rNeD K) (tVar 3) (tVar 2))))) (tSeq (tRet (tC (.bl false)))
 tNext) tNext)
 (tSeq (tFor (iRng1 (tCons (tOp (rI0 fun i j => .int (i - j)) (tVar 1) (tC (.int 1))) tNil)) (gName 7) (tSeq (tAsg (tOp rEq (tOp (rI0 fun i j => .bl (decide (j < i))) (tOp (rIxL K) (tVar 4) (tOp (rI0 fun i j => .int (i + j)) (tVar 7) (tC (.int 1)))) (tOp (rIxL K) (tVar 4) (tVar 7))) (tOp rEq (tOp (rI (fun _ j => 0 < j) fun i j => .int (i % j)) (tVar 7) (tC (.int 2))) (tC (.int 0)))) (gName 8))
 (tSeq (tIfS (tTest (tOp rNe (tOp rIxS (tVar 6) (tVar 7)) (tOp (rIxL K) (tLst (tCons (tC (.str "M")) (tCons (tC (.str "V")) tNil))) (tCB rInt1 (tCons (tVar 8) tNil))))) (tSeq (tRet (tC (.bl false)))
 tNext) tNext)
 tNext)))
 (tSeq (tRet (tC (.bl true)))
 tNext))))))))))

def t_wraps (K : PySem.W.Frag) (c : Cs) (E : XK) : TS :=
 (tSeq (tAsg (tCB (rSortedI K) (tCons (tLst (tCons (tOp (rIxL K) (tVar 0) (tVar 1)) (tCons (tOp (rIxL K) (tVar 0) (tOp (rI0 fun i j => .int (i + j)) (tVar 1) (tC (.int 1)))) tNil))) tNil)) (gName 3))
 (tSeq (tRet (tAndV (tOp (rI0 fun i j => .bl (decide (i < j))) (tOp (rIxL K) (tVar 3) (tC (.int 0))) (tOp (rIxL K) (tVar 0) (tVar 2))) (tOp (rI0 fun i j => .bl (decide (i < j))) (tOp (rIxL K) (tVar 0) (tVar 2)) (tOp (rIxL K) (tVar 3) (tC (.int 1))))))
 tNext))

def t_crossing (K : PySem.W.Frag) (c : Cs) (E : XK) : TS :=
 (tSeq (tAsg (tCall (sp_places K c) [] E (tCons (tVar 0) tNil)) (gName 1))
 (tSeq (tFor (iRng1 (tCons (tOp (rI0 fun i j => .int (i - j)) (tCB (rLenS K) (tCons (tVar 1) tNil)) (tC (.int 1))) tNil)) (gName 2) (tSeq (tFor (iRng3 (tCons (tOp (rI0 fun i j => .int (i + j)) (tVar 2) (tC (.int 2))) (tCons (tOp (rI0 fun i j => .int (i - j)) (tCB (rLenS K) (tCons (tVar 1) tNil)) (tC (.int 1))) (tCons (tC (.int 2)) tNil)))) (gName 3) (tSeq (tIfS (tTest (tOp rNe (tCall (sp_wraps K c) [] E (tCons (tVar 1) (tCons (tVar 2) (tCons (tVar 3) tNil)))) (tCall (sp_wraps K c) [] E (tCons (tVar 1) (tCons (tVar 2) (tCons (tOp (rI0 fun i j => .int (i + j)) (tVar 3) (tC (.int 1))) tNil)))))) (tSeq (tRet (tTup (tCons (tVar 2) (tCons (tVar 3) tNil))))
 tNext) tNext)
 tNext))
 tNext))
 (tSeq (tRet (tC .non))
 tNext)))

def t_l_places (K : PySem.W.Frag) (c : Cs) (E : XK) : TS :=
 (tSeq (tAsg (tOp rRep (tLst (tCons (tC (.int 0)) tNil)) (tCB (rLenS K) (tCons (tVar 0) tNil))) (gName 1))
 (tSeq (tFor (iRng1 (tCons (tCB (rLenS K) (tCons (tVar 0) tNil)) tNil)) (gName 2) (tSeq (tAsg (tVar 2) (gSub (tVar 1) (tOp (rIxL K) (tVar 0) (tVar 2)) rSetL))
 tNext))
 (tSeq (tRet (tVar 1))
 tNext)))

def t_l_fits (K : PySem.W.Frag) (c : Cs) (E : XK) : TS :=
 (tSeq (tFor (iRng3 (tCons (tOp (rI (fun _ j => 0 < j) fun i j => .int (i % j)) (tOp (rI0 fun i j => .int (i + j)) (tVar 1) (tC (.int 1))) (tC (.int 2))) (tCons (tOp (rI0 fun i j => .int (i - j)) (tVar 1) (tC (.int 1))) (tCons (tC (.int 2)) tNil)))) (gName 3) (tSeq (tAsg (tCB rMin2 (tCons (tOp (rIxL K) (tVar 0) (tVar 3)) (tCons (tOp (rIxL K) (tVar 0) (tOp (rI0 fun i j => .int (i + j)) (tVar 3) (tC (.int 1)))) tNil))) (gName 4))
 (tSeq (tAsg (tCB rMax2 (tCons (tOp (rIxL K) (tVar 0) (tVar 3)) (tCons (tOp (rIxL K) (tVar 0) (tOp (rI0 fun i j => .int (i + j)) (tVar 3) (tC (.int 1)))) tNil))) (gName 5))
 (tSeq (tIfS (tTest (tOp rNe (tAndV (tOp (rI0 fun i j => .bl (decide (i < j))) (tVar 4) (tOp (rIxL K) (tVar 0) (tOp (rI0 fun i j => .int (i - j)) (tVar 1) (tC (.int 1))))) (tOp (rI0 fun i j => .bl (decide (i < j))) (tOp (rIxL K) (tVar 0) (tOp (rI0 fun i j => .int (i - j)) (tVar 1) (tC (.int 1)))) (tVar 5))) (tAndV (tOp (rI0 fun i j => .bl (decide (i < j))) (tVar 4) (tVar 2)) (tOp (rI0 fun i j => .bl (decide (i ≤ j))) (tVar 2) (tVar 5))))) (tSeq (tRet (tC (.bl false)))
 tNext) tNext)
 tNext))))
 (tSeq (tRet (tC (.bl true)))
 tNext))

def t_l_good (K : PySem.W.Frag) (c : Cs) (E : XK) : TS :=
 (tSeq (tAsg (tLst (tCons (tC (.int 0)) tNil)) (gName 3))
 (tSeq (tFor (iRng2 (tCons (tC (.int 1)) (tCons (tVar 2) tNil))) (gName 4) (tSeq (tAsg (tCall (sp_l_places K c) [] E (tCons (tVar 3) tNil)) (gName 5))
 (tSeq (tAsg (tCall (sp_l_number K c) [] E (tCons (tVar 0) (tCons (tOp (rI0 fun i j => .int (i + j)) (tVar 1) (tVar 4)) tNil))) (gName 6))
 (tSeq (tAsg (tOp (rI (fun _ j => 0 < j) fun i j => .int (i % j)) (tVar 6) (tOp (rI0 fun i j => .int (i + j)) (tVar 4) (tC (.int 1)))) (gName 7))
 (tSeq (tIfS (tNot (tB (tCall (sp_l_fits K c) [] E (tCons (tVar 5) (tCons (tVar 4) (tCons (tVar 7) tNil)))))) (tSeq (tAsg (tOp (rI0 fun i j => .int (i + j)) (tOp (rIxL K) (tVar 5) (tOp (rI0 fun i j => .int (i - j)) (tVar 4) (tC (.int 1)))) (tOp (rI (fun _ j => 0 < j) fun i j => .int (i % j)) (tOp (rI CDiv fun i j => .int (i / j)) (tVar 6) (tC (.int 64))) (tC (.int 2)))) (gName 7))
 tNext) tNext)
 (tSeq (tAsg (tOp rCat (tOp rCat (tSl (rSlL K) (tVar 3) tNoPart (tPart (tVar 7))) (tLst (tCons (tVar 4) tNil))) (tSl (rSlL K) (tVar 3) (tPart (tVar 7)) tNoPart)) (gName 3))
 tNext))))))
 (tSeq (tRet (tVar 3))
 tNext)))

def t_l_moved (K : PySem.W.Frag) (c : Cs) (E : XK) : TS :=
 (tSeq (tAsg (tOp (rI (fun _ j => 0 < j) fun i j => .int (i % j)) (tVar 1) (tCB (rLenS K) (tCons (tVar 0) tNil))) (gName 3))
 (tSeq (tAsg (tOp (rI (fun _ j => 0 < j) fun i j => .int (i % j)) (tVar 2) (tCB (rLenS K) (tCons (tVar 0) tNil))) (gName 4))
 (tSeq (tAsg (tOp rCat (tSl (rSlL K) (tVar 0) tNoPart (tPart (tVar 3))) (tSl (rSlL K) (tVar 0) (tPart (tOp (rI0 fun i j => .int (i + j)) (tVar 3) (tC (.int 1)))) tNoPart)) (gName 5))
 (tSeq (tRet (tOp rCat (tOp rCat (tSl (rSlL K) (tVar 5) tNoPart (tPart (tVar 4))) (tLst (tCons (tOp (rIxL K) (tVar 0) (tVar 3)) tNil))) (tSl (rSlL K) (tVar 5) (tPart (tVar 4)) tNoPart)))
 tNext))))

def t_l_wraps (K : PySem.W.Frag) (c : Cs) (E : XK) : TS :=
 (tSeq (tAsg (tCB rMin2 (tCons (tOp (rIxL K) (tVar 0) (tVar 1)) (tCons (tOp (rIxL K) (tVar 0) (tOp (rI0 fun i j => .int (i + j)) (tVar 1) (tC (.int 1)))) tNil))) (gName 3))
 (tSeq (tAsg (tCB rMax2 (tCons (tOp (rIxL K) (tVar 0) (tVar 1)) (tCons (tOp (rIxL K) (tVar 0) (tOp (rI0 fun i j => .int (i + j)) (tVar 1) (tC (.int 1)))) tNil))) (gName 4))
 (tSeq (tRet (tAndV (tOp (rI0 fun i j => .bl (decide (i < j))) (tVar 3) (tOp (rIxL K) (tVar 0) (tVar 2))) (tOp (rI0 fun i j => .bl (decide (i < j))) (tOp (rIxL K) (tVar 0) (tVar 2)) (tVar 4))))
 tNext)))

def t_l_cross (K : PySem.W.Frag) (c : Cs) (E : XK) : TS :=
 (tSeq (tIfS (tOr (tTest (tOp rEq (tVar 1) (tVar 2))) (tTest (tOp rEq (tOp (rI (fun _ j => 0 < j) fun i j => .int (i % j)) (tOp (rI0 fun i j => .int (i - j)) (tVar 1) (tVar 2)) (tC (.int 2))) (tC (.int 1))))) (tSeq (tRet (tC (.bl false)))
 tNext) tNext)
 (tSeq (tRet (tOp rNe (tCall (sp_l_wraps K c) [] E (tCons (tVar 0) (tCons (tVar 1) (tCons (tVar 2) tNil)))) (tCall (sp_l_wraps K c) [] E (tCons (tVar 0) (tCons (tVar 1) (tCons (tOp (rI0 fun i j => .int (i + j)) (tVar 2) (tC (.int 1))) tNil))))))
 tNext))

def t_l_none_cross2 (K : PySem.W.Frag) (c : Cs) (E : XK) : TS :=
 (tSeq (tFor (iRng1 (tCons (tOp (rI0 fun i j => .int (i - j)) (tCB (rLenS K) (tCons (tVar 0) tNil)) (tC (.int 1))) tNil)) (gName 1) (tSeq (tFor (iRng3 (tCons (tOp (rI0 fun i j => .int (i + j)) (tVar 1) (tC (.int 2))) (tCons (tOp (rI0 fun i j => .int (i - j)) (tCB (rLenS K) (tCons (tVar 0) tNil)) (tC (.int 1))) (tCons (tC (.int 2)) tNil)))) (gName 2) (tSeq (tIfS (tB (tCall (sp_l_cross K c) [] E (tCons (tVar 0) (tCons (tVar 1) (tCons (tVar 2) tNil))))) (tSeq (tRet (tC (.bl false)))
 tNext) tNext)
 tNext))
 tNext))
 (tSeq (tRet (tC (.bl true)))
 tNext))

def t_law_k02 (K : PySem.W.Frag) (c : Cs) (E : XK) : TS :=
 (tSeq (tAsg (tCall (sp_l_size K c) [] E (tCons (tCall (sp_l_drawn K c) [] E (tCons (tVar 0) (tCons (tC (.int 0)) tNil))) tNil)) (gName 1))
 (tSeq (tAsg (tOp (rI (fun _ j => 0 < j) fun i j => .int (i % j)) (tCall (sp_l_drawn K c) [] E (tCons (tVar 0) (tCons (tC (.int 1)) tNil))) (tC (.int 5))) (gName 2))
 (tCut (tIfS (tTest (tOp rEq (tVar 2) (tC (.int 0)))) (tSeq (tAsg (tCall (sp_l_pile K c) [] E (tCons (tVar 0) (tCons (tC (.int 2)) (tCons (tVar 1) tNil)))) (gName 3))
 tNext) (tSeq (tAsg (tCall (sp_l_good K c) [] E (tCons (tVar 0) (tCons (tC (.int 2)) (tCons (tVar 1) tNil)))) (gName 3))
 tNext))
 (tCut (tIfS (tTest (tOp (rI0 fun i j => .bl (decide (j < i))) (tVar 2) (tC (.int 2)))) (tSeq (tAsg (tCall (sp_l_moved K c) [] E (tCons (tVar 3) (tCons (tCall (sp_l_number K c) [] E (tCons (tVar 0) (tCons (tOp (rI0 fun i j => .int (i + j)) (tVar 1) (tC (.int 2))) tNil))) (tCons (tCall (sp_l_number K c) [] E (tCons (tVar 0) (tCons (tOp (rI0 fun i j => .int (i + j)) (tVar 1) (tC (.int 3))) tNil))) tNil)))) (gName 3))
 tNext) tNext)
 (tSeq (tAsg (tCB (rListS K) (tCons (tVar 3) tNil)) (gName 4))
 (tSeq (tAsg (tCall (sp_crossing K c) [] E (tCons (tVar 4) tNil)) (gName 5))
 (tSeq (tAsg (tCall (sp_l_places K c) [] E (tCons (tVar 3) tNil)) (gName 6))
 (tSeq (tIfS (tTest (tOp (rNeD K) (tVar 4) (tVar 3))) (tSeq (tRet (tC (.bl false)))
 tNext) tNext)
 (tSeq (tIfS (tTest (tOp rIsN (tVar 5) (tC .non))) (tSeq (tRet (tCall (sp_l_none_cross K c) [] E (tCons (tVar 6) tNil)))
 tNext) tNext)
 (tSeq (tIfS (tOr (tNot (tB (tCB (rIsi K) (tCons (tVar 5) (tCons (tC (.ty "tuple")) tNil))))) (tTest (tOp rNe (tCB (rLenS K) (tCons (tVar 5) tNil)) (tC (.int 2))))) (tSeq (tRet (tC (.bl false)))
 tNext) tNext)
 (tSeq (tIfS (tOr (tNot (tB (tCall (sp_l_counts K c) [] E (tCons (tOp (rIxT K) (tVar 5) (tC (.int 0))) tNil)))) (tNot (tB (tCall (sp_l_counts K c) [] E (tCons (tOp (rIxT K) (tVar 5) (tC (.int 1))) tNil))))) (tSeq (tRet (tC (.bl false)))
 tNext) tNext)
 (tSeq (tIfS (tOr (tTest (tOp (rI0 fun i j => .bl (decide (i < j))) (tOp (rIxT K) (tVar 5) (tC (.int 0))) (tC (.int 0)))) (tOr (tTest (tOp (rI0 fun i j => .bl (decide (j ≤ i))) (tOp (rIxT K) (tVar 5) (tC (.int 0))) (tOp (rIxT K) (tVar 5) (tC (.int 1))))) (tTest (tOp (rI0 fun i j => .bl (decide (j < i))) (tOp (rIxT K) (tVar 5) (tC (.int 1))) (tOp (rI0 fun i j => .int (i - j)) (tVar 1) (tC (.int 2))))))) (tSeq (tRet (tC (.bl false)))
 tNext) tNext)
 (tSeq (tRet (tCall (sp_l_cross K c) [] E (tCons (tVar 6) (tCons (tOp (rIxT K) (tVar 5) (tC (.int 0))) (tCons (tOp (rIxT K) (tVar 5) (tC (.int 1))) tNil)))))
 tNext)))))))))))))

def t_turned (K : PySem.W.Frag) (c : Cs) (E : XK) : TS :=
 (tSeq (tAsg (tOp (rI (fun _ j => 0 < j) fun i j => .int (i % j)) (tVar 1) (tCB (rLenS K) (tCons (tCall (sp_places K c) [] E (tCons (tVar 0) tNil)) tNil))) (gName 2))
 (tSeq (tRet (tOp rCat (tSl (rSlL K) (tVar 0) (tPart (tVar 2)) tNoPart) (tSl (rSlL K) (tVar 0) tNoPart (tPart (tVar 2)))))
 tNext))

def t_l_same_row (K : PySem.W.Frag) (c : Cs) (E : XK) : TS :=
 (tSeq (tIfS (tOr (tNot (tB (tCB (rIsi K) (tCons (tVar 0) (tCons (tC (.ty "list")) tNil))))) (tTest (tOp rNe (tCB (rLenS K) (tCons (tVar 0) tNil)) (tCB (rLenS K) (tCons (tVar 1) tNil))))) (tSeq (tRet (tC (.bl false)))
 tNext) tNext)
 (tSeq (tFor (iRng1 (tCons (tCB (rLenS K) (tCons (tVar 1) tNil)) tNil)) (gName 2) (tSeq (tIfS (tOr (tNot (tB (tCall (sp_l_counts K c) [] E (tCons (tOp (rIxL K) (tVar 0) (tVar 2)) tNil)))) (tTest (tOp rNe (tOp (rIxL K) (tVar 0) (tVar 2)) (tOp (rIxL K) (tVar 1) (tVar 2))))) (tSeq (tRet (tC (.bl false)))
 tNext) tNext)
 tNext))
 (tSeq (tRet (tC (.bl true)))
 tNext)))

def t_l_cross_told (K : PySem.W.Frag) (c : Cs) (E : XK) : TS :=
 (tSeq (tIfS (tOr (tNot (tB (tCB (rIsi K) (tCons (tVar 1) (tCons (tC (.ty "tuple")) tNil))))) (tTest (tOp rNe (tCB (rLenS K) (tCons (tVar 1) tNil)) (tC (.int 2))))) (tSeq (tRet (tC (.bl false)))
 tNext) tNext)
 (tSeq (tAsg (tOp (rIxT K) (tVar 1) (tC (.int 0))) (gName 2))
 (tSeq (tAsg (tOp (rIxT K) (tVar 1) (tC (.int 1))) (gName 3))
 (tSeq (tIfS (tOr (tNot (tB (tCall (sp_l_counts K c) [] E (tCons (tVar 2) tNil)))) (tOr (tNot (tB (tCall (sp_l_counts K c) [] E (tCons (tVar 3) tNil)))) (tOr (tTest (tOp (rI0 fun i j => .bl (decide (i < j))) (tVar 2) (tC (.int 0)))) (tOr (tTest (tOp (rI0 fun i j => .bl (decide (j ≤ i))) (tVar 2) (tVar 3))) (tTest (tOp (rI0 fun i j => .bl (decide (j < i))) (tVar 3) (tOp (rI0 fun i j => .int (i - j)) (tCB (rLenS K) (tCons (tVar 0) tNil)) (tC (.int 2))))))))) (tSeq (tRet (tC (.bl false)))
 tNext) tNext)
 (tSeq (tRet (tAndV (tOp rEq (tOp (rI (fun _ j => 0 < j) fun i j => .int (i % j)) (tOp (rI0 fun i j => .int (i - j)) (tVar 3) (tVar 2)) (tC (.int 2))) (tC (.int 0))) (tOp rNe (tCall (sp_l_wraps K c) [] E (tCons (tVar 0) (tCons (tVar 2) (tCons (tVar 3) tNil)))) (tCall (sp_l_wraps K c) [] E (tCons (tVar 0) (tCons (tVar 2) (tCons (tOp (rI0 fun i j => .int (i + j)) (tVar 3) (tC (.int 1))) tNil)))))))
 tNext)))))

def t_l_letters_turned (K : PySem.W.Frag) (c : Cs) (E : XK) : TS :=
 (tSeq (tIfS (tOr (tNot (tB (tCB (rIsi K) (tCons (tVar 2) (tCons (tC (.ty "str")) tNil))))) (tNot (tB (tCB (rIsi K) (tCons (tVar 3) (tCons (tC (.ty "str")) tNil)))))) (tSeq (tRet (tC (.bl false)))
 tNext) tNext)
 (tSeq (tIfS (tOr (tTest (tOp rNe (tCB rLenT (tCons (tVar 2) tNil)) (tOp (rI0 fun i j => .int (i - j)) (tCB (rLenS K) (tCons (tVar 0) tNil)) (tC (.int 1))))) (tTest (tOp rNe (tCB rLenT (tCons (tVar 3) tNil)) (tOp (rI0 fun i j => .int (i - j)) (tCB (rLenS K) (tCons (tVar 0) tNil)) (tC (.int 1)))))) (tSeq (tRet (tC (.bl false)))
 tNext) tNext)
 (tSeq (tFor (iRng1 (tCons (tOp (rI0 fun i j => .int (i - j)) (tCB (rLenS K) (tCons (tVar 0) tNil)) (tC (.int 1))) tNil)) (gName 4) (tSeq (tAsg (tOp rNe (tOp (rI0 fun i j => .bl (decide (i < j))) (tOp (rIxL K) (tVar 0) (tVar 4)) (tVar 1)) (tOp (rI0 fun i j => .bl (decide (i < j))) (tOp (rIxL K) (tVar 0) (tOp (rI0 fun i j => .int (i + j)) (tVar 4) (tC (.int 1)))) (tVar 1))) (gName 5))
 (tSeq (tIfS (tTest (tOp rNe (tOp rNe (tOp rIxS (tVar 2) (tVar 4)) (tOp rIxS (tVar 3) (tVar 4))) (tVar 5))) (tSeq (tRet (tC (.bl false)))
 tNext) tNext)
 tNext)))
 (tSeq (tRet (tC (.bl true)))
 tNext))))

def t_law_k03 (K : PySem.W.Frag) (c : Cs) (E : XK) : TS :=
 (tSeq (tAsg (tCall (sp_l_size K c) [] E (tCons (tCall (sp_l_drawn K c) [] E (tCons (tVar 0) (tCons (tC (.int 0)) tNil))) tNil)) (gName 1))
 (tSeq (tAsg (tOp (rI0 fun i j => .int (i - j)) (tOp (rI (fun _ j => 0 < j) fun i j => .int (i % j)) (tOp (rI CDiv fun i j => .int (i / j)) (tCall (sp_l_drawn K c) [] E (tCons (tVar 0) (tCons (tC (.int 1)) tNil))) (tC (.int 6))) (tC (.int 19))) (tC (.int 9))) (gName 2))
 (tCut (tIfS (tTest (tOp rEq (tOp (rI (fun _ j => 0 < j) fun i j => .int (i % j)) (tCall (sp_l_drawn K c) [] E (tCons (tVar 0) (tCons (tC (.int 1)) tNil))) (tC (.int 3))) (tC (.int 1)))) (tSeq (tAsg (tOp (rI0 fun i j => .int (i - j)) (tOp (rI (fun _ j => 0 < j) fun i j => .int (i % j)) (tCall (sp_l_drawn K c) [] E (tCons (tVar 0) (tCons (tC (.int 2)) tNil))) (tOp (rI0 fun i j => .int (i + j)) (tOp (rI CMul fun i j => .int (i * j)) (tC (.int 2)) (tOp (rI CPow fun i j => .int (i ^ j.toNat)) (tC (.int 10)) (tC (.int 60)))) (tC (.int 1)))) (tOp (rI CPow fun i j => .int (i ^ j.toNat)) (tC (.int 10)) (tC (.int 60)))) (gName 2))
 tNext) tNext)
 (tCut (tIfS (tTest (tOp rEq (tOp (rI (fun _ j => 0 < j) fun i j => .int (i % j)) (tOp (rI CDiv fun i j => .int (i / j)) (tCall (sp_l_drawn K c) [] E (tCons (tVar 0) (tCons (tC (.int 1)) tNil))) (tC (.int 3))) (tC (.int 2))) (tC (.int 0)))) (tSeq (tAsg (tCall (sp_l_pile K c) [] E (tCons (tVar 0) (tCons (tC (.int 3)) (tCons (tVar 1) tNil)))) (gName 3))
 tNext) (tSeq (tAsg (tCall (sp_l_good K c) [] E (tCons (tVar 0) (tCons (tC (.int 3)) (tCons (tVar 1) tNil)))) (gName 3))
 tNext))
 (tSeq (tAsg (tCB (rListS K) (tCons (tVar 3) tNil)) (gName 4))
 (tCut (tIfS (tTest (tOp rEq (tOp (rI (fun _ j => 0 < j) fun i j => .int (i % j)) (tCall (sp_l_drawn K c) [] E (tCons (tVar 0) (tCons (tC (.int 1)) tNil))) (tC (.int 3))) (tC (.int 2)))) (tSeq (tAsg (tC (.int 1)) (gName 2))
 (tSeq (tAsg (tCall (sp_turned K c) [.int 1] E (tCons (tVar 4) tNil)) (gName 5))
 tNext)) (tSeq (tAsg (tCall (sp_turned K c) [] E (tCons (tVar 4) (tCons (tVar 2) tNil))) (gName 5))
 tNext))
 (tSeq (tAsg (tOp (rI (fun _ j => 0 < j) fun i j => .int (i % j)) (tVar 2) (tVar 1)) (gName 6))
 (tSeq (tAsg (tOp rCat (tSl (rSlL K) (tVar 3) (tPart (tVar 6)) tNoPart) (tSl (rSlL K) (tVar 3) tNoPart (tPart (tVar 6)))) (gName 7))
 (tSeq (tIfS (tOr (tTest (tOp (rNeD K) (tVar 4) (tVar 3))) (tNot (tB (tCall (sp_l_same_row K c) [] E (tCons (tVar 5) (tCons (tVar 7) tNil)))))) (tSeq (tRet (tC (.bl false)))
 tNext) tNext)
 (tSeq (tAsg (tCall (sp_l_places K c) [] E (tCons (tVar 3) tNil)) (gName 8))
 (tCut (tAsg (tCall (sp_crossing K c) [] E (tCons (tVar 4) tNil)) (gName 9))
 (tCut (tAsg (tCall (sp_crossing K c) [] E (tCons (tCB (rListS K) (tCons (tVar 7) tNil)) tNil)) (gName 10))
 (tSeq (tIfS (tTest (tOp rNe (tOp rIsN (tVar 9) (tC .non)) (tOp rIsN (tVar 10) (tC .non)))) (tSeq (tRet (tC (.bl false)))
 tNext) tNext)
 (tSeq (tIfS (tAnd (tTest (tOp rNotN (tVar 10) (tC .non))) (tNot (tB (tCall (sp_l_cross_told K c) [] E (tCons (tVar 8) (tCons (tVar 10) tNil)))))) (tSeq (tRet (tC (.bl false)))
 tNext) tNext)
 (tSeq (tDrop (tBM K "list" rAppend (tVar 5) (tCons (tC (.int 0)) tNil)))
 (tSeq (tIfS (tTest (tOp (rNeD K) (tVar 4) (tVar 3))) (tSeq (tRet (tC (.bl false)))
 tNext) tNext)
 (tSeq (tRet (tCall (sp_l_letters_turned K c) [] E (tCons (tVar 8) (tCons (tVar 6) (tCons (tCall (sp_letters K c) [] E (tCons (tVar 4) tNil)) (tCons (tCall (sp_letters K c) [] E (tCons (tCB (rListS K) (tCons (tVar 7) tNil)) tNil)) tNil))))))
 tNext)))))))))))))))))

def t_look_at (K : PySem.W.Frag) (c : Cs) (E : XK) : TS :=
 (tSeq (tFor (iStr (tVar 0)) (gName 1) (tSeq (tIfS (tAnd (tTest (tOp rNe (tVar 1) (tC (.str "V")))) (tTest (tOp rNe (tVar 1) (tC (.str "M"))))) (tSeq (tRaise E (.ref c.nl))
 tNext) tNext)
 tNext))
 tNext)

def t_pile_of (K : PySem.W.Frag) (c : Cs) (E : XK) : TS :=
 (tSeq (tDrop (tCall (sp_look_at K c) [] E (tCons (tVar 0) tNil)))
 (tSeq (tAsg (tLst (tCons (tC (.int 0)) tNil)) (gName 1))
 (tSeq (tFor (iEnumS (tCons (tVar 0) tNil)) (gTup K 2 (gCons (gName 2) (gCons (gName 3) gNil))) (tSeq (tAsg (tBM K "list" (rIndex K) (tVar 1) (tCons (tVar 2) tNil)) (gName 4))
 (tCut (tIfS (tTest (tOp rEq (tOp rEq (tVar 3) (tC (.str "V"))) (tOp rEq (tOp (rI (fun _ j => 0 < j) fun i j => .int (i % j)) (tVar 2) (tC (.int 2))) (tC (.int 0))))) (tSeq (tAug 4 (tC (.int 1)) (ipI fun i j => i + j))
 tNext) tNext)
 (tSeq (tDrop (tBM K "list" rInsert (tVar 1) (tCons (tVar 4) (tCons (tOp (rI0 fun i j => .int (i + j)) (tVar 2) (tC (.int 1))) tNil))))
 tNext))))
 (tSeq (tRet (tVar 1))
 tNext))))

def t_l_is_pile (K : PySem.W.Frag) (c : Cs) (E : XK) : TS :=
 (tSeq (tIfS (tOr (tNot (tB (tCB (rIsi K) (tCons (tVar 0) (tCons (tC (.ty "list")) tNil))))) (tTest (tOp rNe (tCB (rLenS K) (tCons (tVar 0) tNil)) (tVar 1)))) (tSeq (tRet (tC (.bl false)))
 tNext) tNext)
 (tSeq (tAsg (tOp rRep (tLst (tCons (tC (.bl false)) tNil)) (tVar 1)) (gName 2))
 (tSeq (tFor (iList K (tVar 0)) (gName 3) (tSeq (tIfS (tOr (tNot (tB (tCall (sp_l_counts K c) [] E (tCons (tVar 3) tNil)))) (tOr (tTest (tOp (rI0 fun i j => .bl (decide (i < j))) (tVar 3) (tC (.int 0)))) (tOr (tTest (tOp (rI0 fun i j => .bl (decide (j ≤ i))) (tVar 3) (tVar 1))) (tB (tOp (rIxL K) (tVar 2) (tVar 3)))))) (tSeq (tRet (tC (.bl false)))
 tNext) tNext)
 (tSeq (tAsg (tC (.bl true)) (gSub (tVar 2) (tVar 3) rSetL))
 tNext)))
 (tSeq (tRet (tC (.bl true)))
 tNext))))

def t_l_none_cross (K : PySem.W.Frag) (c : Cs) (E : XK) : TS :=
 (tSeq (tFor (iRng1 (tCons (tOp (rI0 fun i j => .int (i - j)) (tCB (rLenS K) (tCons (tVar 0) tNil)) (tC (.int 1))) tNil)) (gName 1) (tSeq (tFor (iRng3 (tCons (tOp (rI0 fun i j => .int (i + j)) (tVar 1) (tC (.int 2))) (tCons (tOp (rI0 fun i j => .int (i - j)) (tCB (rLenS K) (tCons (tVar 0) tNil)) (tC (.int 1))) (tCons (tC (.int 2)) tNil)))) (gName 2) (tSeq (tIfS (tTest (tOp rNe (tCall (sp_l_wraps K c) [] E (tCons (tVar 0) (tCons (tVar 1) (tCons (tVar 2) tNil)))) (tCall (sp_l_wraps K c) [] E (tCons (tVar 0) (tCons (tVar 1) (tCons (tOp (rI0 fun i j => .int (i + j)) (tVar 2) (tC (.int 1))) tNil)))))) (tSeq (tRet (tC (.bl false)))
 tNext) tNext)
 tNext))
 tNext))
 (tSeq (tRet (tC (.bl true)))
 tNext))

def t_l_row (K : PySem.W.Frag) (c : Cs) (E : XK) : TS :=
 (tSeq (tAsg (tOp (rI (fun _ j => 0 < j) fun i j => .int (i % j)) (tCall (sp_l_drawn K c) [] E (tCons (tVar 0) (tCons (tC (.int 1)) tNil))) (tC (.int 4))) (gName 2))
 (tSeq (tAsg (tOp (rI CDiv fun i j => .int (i / j)) (tCall (sp_l_drawn K c) [] E (tCons (tVar 0) (tCons (tC (.int 1)) tNil))) (tC (.int 4))) (gName 3))
 (tSeq (tAsg (tLst tNil) (gName 4))
 (tSeq (tFor (iRng1 (tCons (tVar 1) tNil)) (gName 5) (tSeq (tAsg (tOp (rI (fun _ j => 0 < j) fun i j => .int (i % j)) (tCall (sp_l_number K c) [] E (tCons (tVar 0) (tCons (tOp (rI0 fun i j => .int (i + j)) (tC (.int 2)) (tVar 5)) tNil))) (tC (.int 2))) (gName 6))
 (tCut (tIfS (tTest (tOp rEq (tVar 2) (tC (.int 2)))) (tSeq (tAsg (tOp (rI (fun _ j => 0 < j) fun i j => .int (i % j)) (tVar 3) (tC (.int 2))) (gName 6))
 tNext) tNext)
 (tCut (tIfS (tTest (tOp rEq (tVar 2) (tC (.int 3)))) (tSeq (tAsg (tOp (rI (fun _ j => 0 < j) fun i j => .int (i % j)) (tOp (rI CDiv fun i j => .int (i / j)) (tVar 5) (tOp (rI0 fun i j => .int (i + j)) (tC (.int 1)) (tOp (rI (fun _ j => 0 < j) fun i j => .int (i % j)) (tVar 3) (tC (.int 9))))) (tC (.int 2))) (gName 6))
 tNext) tNext)
 (tSeq (tDrop (tBM K "list" rAppend (tVar 4) (tCons (tOp (rIxL K) (tLst (tCons (tC (.str "V")) (tCons (tC (.str "M")) tNil))) (tVar 6)) tNil)))
 tNext)))))
 (tSeq (tRet (tBM K "str" (rJoin K) (tC (.str "")) (tCons (tVar 4) tNil)))
 tNext)))))

def t_law_k04 (K : PySem.W.Frag) (c : Cs) (E : XK) : TS :=
 (tSeq (tAsg (tCall (sp_l_size K c) [] E (tCons (tCall (sp_l_drawn K c) [] E (tCons (tVar 0) (tCons (tC (.int 0)) tNil))) tNil)) (gName 1))
 (tSeq (tAsg (tCall (sp_l_row K c) [] E (tCons (tVar 0) (tCons (tOp (rI0 fun i j => .int (i - j)) (tVar 1) (tC (.int 1))) tNil))) (gName 2))
 (tSeq (tAsg (tCall (sp_pile_of K c) [] E (tCons (tVar 2) tNil)) (gName 3))
 (tSeq (tIfS (tNot (tB (tCall (sp_l_is_pile K c) [] E (tCons (tVar 3) (tCons (tVar 1) tNil))))) (tSeq (tRet (tC (.bl false)))
 tNext) tNext)
 (tSeq (tAsg (tCall (sp_l_places K c) [] E (tCons (tVar 3) tNil)) (gName 4))
 (tSeq (tFor (iRng1 (tCons (tOp (rI0 fun i j => .int (i - j)) (tVar 1) (tC (.int 1))) tNil)) (gName 5) (tSeq (tAsg (tOp rEq (tOp (rI0 fun i j => .bl (decide (j < i))) (tOp (rIxL K) (tVar 4) (tOp (rI0 fun i j => .int (i + j)) (tVar 5) (tC (.int 1)))) (tOp (rIxL K) (tVar 4) (tVar 5))) (tOp rEq (tOp (rI (fun _ j => 0 < j) fun i j => .int (i % j)) (tVar 5) (tC (.int 2))) (tC (.int 0)))) (gName 6))
 (tSeq (tIfS (tTest (tOp rNe (tVar 6) (tOp rEq (tOp rIxS (tVar 2) (tVar 5)) (tC (.str "V"))))) (tSeq (tRet (tC (.bl false)))
 tNext) tNext)
 tNext)))
 (tSeq (tRet (tCall (sp_l_none_cross K c) [] E (tCons (tVar 4) tNil)))
 tNext)))))))

def t_judged (K : PySem.W.Frag) (c : Cs) (E : XK) : TS :=
 (tSeq (tAsg (tCall (sp_crossing K c) [] E (tCons (tVar 0) tNil)) (gName 1))
 (tSeq (tIfS (tTest (tOp rNotN (tVar 1) (tC .non))) (tSeq tNever
 tNext) tNext)
 (tSeq (tRet (tCall (sp_places K c) [] E (tCons (tVar 0) tNil)))
 tNext)))

def t_parts_of (K : PySem.W.Frag) (c : Cs) (E : XK) : TS :=
 (tSeq (tAsg (tLst tNil) (gName 2))
 (tSeq (tAsg (tC (.int 0)) (gName 3))
 (tSeq (tFor (iList K (tOp rCat (tCB (rSortedQ K) (tCons (tVar 1) tNil)) (tLst (tCons (tOp (rI0 fun i j => .int (i - j)) (tVar 0) (tC (.int 1))) tNil)))) (gName 4) (tSeq (tDrop (tBM K "list" rAppend (tVar 2) (tCons (tTup (tCons (tVar 3) (tCons (tVar 4) tNil))) tNil)))
 (tSeq (tAsg (tOp (rI0 fun i j => .int (i + j)) (tVar 4) (tC (.int 1))) (gName 3))
 tNext)))
 (tSeq (tRet (tVar 2))
 tNext))))

def t_held (K : PySem.W.Frag) (c : Cs) (E : XK) : TS :=
 (tSeq (tFor (iRng2 (tCons (tOp (rIxT K) (tVar 1) (tC (.int 0))) (tCons (tOp (rIxT K) (tVar 1) (tC (.int 1))) tNil))) (gName 4) (tSeq (tIfS (tAnd (tTest (tOp rEq (tOp (rI (fun _ j => 0 < j) fun i j => .int (i % j)) (tOp (rI0 fun i j => .int (i - j)) (tVar 4) (tVar 2)) (tC (.int 2))) (tC (.int 0)))) (tB (tCall (sp_wraps K c) [] E (tCons (tVar 0) (tCons (tVar 4) (tCons (tVar 3) tNil)))))) (tSeq (tRet (tC (.bl true)))
 tNext) tNext)
 tNext))
 (tSeq (tRet (tC (.bl false)))
 tNext))

def t_lies_free (K : PySem.W.Frag) (c : Cs) (E : XK) : TS :=
 (tSeq (tAsg (tVar 1) (gTup K 2 (gCons (gName 2) (gCons (gName 3) gNil))))
 (tSeq (tAsg (tOp (rI0 fun i j => .bl (decide (j < i))) (tVar 2) (tC (.int 0))) (gName 4))
 (tSeq (tAsg (tOp (rI0 fun i j => .bl (decide (i < j))) (tVar 3) (tOp (rI0 fun i j => .int (i - j)) (tCB (rLenS K) (tCons (tVar 0) tNil)) (tC (.int 1)))) (gName 5))
 (tSeq (tIfS (tAnd (tB (tVar 4)) (tAnd (tB (tVar 5)) (tTest (tOp rEq (tOp (rI (fun _ j => 0 < j) fun i j => .int (i % j)) (tOp (rI0 fun i j => .int (i - j)) (tVar 3) (tVar 2)) (tC (.int 2))) (tC (.int 1)))))) (tSeq (tRet (tC (.bl false)))
 tNext) tNext)
 (tSeq (tIfS (tAnd (tB (tVar 4)) (tB (tCall (sp_held K c) [] E (tCons (tVar 0) (tCons (tVar 1) (tCons (tOp (rI0 fun i j => .int (i - j)) (tVar 2) (tC (.int 1))) (tCons (tVar 2) tNil))))))) (tSeq (tRet (tC (.bl false)))
 tNext) tNext)
 (tSeq (tRet (tNotV (tAndV (tVar 5) (tCall (sp_held K c) [] E (tCons (tVar 0) (tCons (tVar 1) (tCons (tVar 3) (tCons (tVar 3) tNil))))))))
 tNext))))))

def t_are_free (K : PySem.W.Frag) (c : Cs) (E : XK) : TS :=
 (tSeq (tFor (iList K (tCall (sp_parts_of K c) [] E (tCons (tCB (rLenS K) (tCons (tVar 0) tNil)) (tCons (tVar 1) tNil)))) (gName 2) (tSeq (tIfS (tNot (tB (tCall (sp_lies_free K c) [] E (tCons (tVar 0) (tCons (tVar 2) tNil))))) (tSeq (tRet (tC (.bl false)))
 tNext) tNext)
 tNext))
 (tSeq (tRet (tC (.bl true)))
 tNext))

def t_look_at_creases (K : PySem.W.Frag) (c : Cs) (E : XK) : TS :=
 (tSeq (tFor (iSeq K (tVar 1)) (gName 2) (tSeq (tIfS (tOr (tTest (tOp (rI0 fun i j => .bl (decide (i < j))) (tVar 2) (tC (.int 0)))) (tTest (tOp (rI0 fun i j => .bl (decide (j < i))) (tVar 2) (tOp (rI0 fun i j => .int (i - j)) (tVar 0) (tC (.int 2)))))) (tSeq (tRaise E (.ref c.nc))
 tNext) tNext)
 tNext))
 (tSeq (tIfS (tTest (tOp (rI0 fun i j => .bl (decide (i < j))) (tLenSet K (tVar 1)) (tCB (rLenS K) (tCons (tVar 1) tNil)))) (tSeq (tRaise E (.ref c.nc))
 tNext) tNext)
 tNext))

def t_free (K : PySem.W.Frag) (c : Cs) (E : XK) : TS :=
 (tSeq (tAsg (tCall (sp_judged K c) [] E (tCons (tVar 0) tNil)) (gName 2))
 (tSeq (tDrop (tCall (sp_look_at_creases K c) [] E (tCons (tCB (rLenS K) (tCons (tVar 2) tNil)) (tCons (tVar 1) tNil))))
 (tSeq (tRet (tCall (sp_are_free K c) [] E (tCons (tVar 2) (tCons (tVar 1) tNil))))
 tNext)))

def t_l_size60 (K : PySem.W.Frag) (c : Cs) (E : XK) : TS :=
 (tSeq (tRet (tOp (rI0 fun i j => .int (i + j)) (tC (.int 1)) (tOp (rI (fun _ j => 0 < j) fun i j => .int (i % j)) (tOp (rI CDiv fun i j => .int (i / j)) (tVar 0) (tC (.int 8))) (tOp (rIxL K) (tLst (tCons (tC (.int 6)) (tCons (tC (.int 9)) (tCons (tC (.int 17)) (tCons (tC (.int 9)) (tCons (tC (.int 17)) (tCons (tC (.int 12)) (tCons (tC (.int 30)) (tCons (tC (.int 60)) tNil))))))))) (tOp (rI (fun _ j => 0 < j) fun i j => .int (i % j)) (tVar 0) (tC (.int 8)))))))
 tNext)

def t_l_held (K : PySem.W.Frag) (c : Cs) (E : XK) : TS :=
 (tSeq (tFor (iRng2 (tCons (tVar 1) (tCons (tVar 2) tNil))) (gName 5) (tSeq (tIfS (tAnd (tTest (tOp rEq (tOp (rI (fun _ j => 0 < j) fun i j => .int (i % j)) (tOp (rI0 fun i j => .int (i - j)) (tVar 5) (tVar 3)) (tC (.int 2))) (tC (.int 0)))) (tB (tCall (sp_l_wraps K c) [] E (tCons (tVar 0) (tCons (tVar 5) (tCons (tVar 4) tNil)))))) (tSeq (tRet (tC (.bl true)))
 tNext) tNext)
 tNext))
 (tSeq (tRet (tC (.bl false)))
 tNext))

def t_l_free (K : PySem.W.Frag) (c : Cs) (E : XK) : TS :=
 (tSeq (tAsg (tOp (rI0 fun i j => .int (i - j)) (tCB (rLenS K) (tCons (tVar 0) tNil)) (tC (.int 1))) (gName 2))
 (tSeq (tAsg (tC (.int 0)) (gName 3))
 (tSeq (tFor (iList K (tOp rCat (tCB (rSortedI K) (tCons (tVar 1) tNil)) (tLst (tCons (tVar 2) tNil)))) (gName 4) (tSeq (tIfS (tAnd (tTest (tOp (rI0 fun i j => .bl (decide (j < i))) (tVar 3) (tC (.int 0)))) (tAnd (tTest (tOp (rI0 fun i j => .bl (decide (i < j))) (tVar 4) (tVar 2))) (tTest (tOp rEq (tOp (rI (fun _ j => 0 < j) fun i j => .int (i % j)) (tOp (rI0 fun i j => .int (i - j)) (tVar 4) (tVar 3)) (tC (.int 2))) (tC (.int 1)))))) (tSeq (tRet (tC (.bl false)))
 tNext) tNext)
 (tSeq (tIfS (tAnd (tTest (tOp (rI0 fun i j => .bl (decide (j < i))) (tVar 3) (tC (.int 0)))) (tB (tCall (sp_l_held K c) [] E (tCons (tVar 0) (tCons (tVar 3) (tCons (tVar 4) (tCons (tOp (rI0 fun i j => .int (i - j)) (tVar 3) (tC (.int 1))) (tCons (tVar 3) tNil)))))))) (tSeq (tRet (tC (.bl false)))
 tNext) tNext)
 (tSeq (tIfS (tAnd (tTest (tOp (rI0 fun i j => .bl (decide (i < j))) (tVar 4) (tVar 2))) (tB (tCall (sp_l_held K c) [] E (tCons (tVar 0) (tCons (tVar 3) (tCons (tVar 4) (tCons (tVar 4) (tCons (tVar 4) tNil)))))))) (tSeq (tRet (tC (.bl false)))
 tNext) tNext)
 (tSeq (tAsg (tOp (rI0 fun i j => .int (i + j)) (tVar 4) (tC (.int 1))) (gName 3))
 tNext)))))
 (tSeq (tRet (tC (.bl true)))
 tNext))))

def t_l_grown (K : PySem.W.Frag) (c : Cs) (E : XK) : TS :=
 (tSeq (tAsg (tOp (rI0 fun i j => .int (i - j)) (tCB (rLenS K) (tCons (tVar 0) tNil)) (tC (.int 1))) (gName 3))
 (tSeq (tAsg (tLst tNil) (gName 4))
 (tSeq (tFor (iRng1 (tCons (tC (.int 12)) tNil)) (gName 5) (tSeq (tAsg (tCall (sp_l_number K c) [] E (tCons (tVar 1) (tCons (tOp (rI0 fun i j => .int (i + j)) (tVar 2) (tVar 5)) tNil))) (gName 6))
 (tSeq (tAsg (tLst (tCons (tOp (rI (fun _ j => 0 < j) fun i j => .int (i % j)) (tOp (rI CDiv fun i j => .int (i / j)) (tVar 6) (tC (.int 3))) (tVar 3)) tNil)) (gName 7))
 (tCut (tIfS (tTest (tOp rEq (tOp (rI (fun _ j => 0 < j) fun i j => .int (i % j)) (tVar 6) (tC (.int 3))) (tC (.int 0)))) (tSeq (tDrop (tBM K "list" rAppend (tVar 7) (tCons (tOp (rI (fun _ j => 0 < j) fun i j => .int (i % j)) (tOp (rI CDiv fun i j => .int (i / j)) (tOp (rI (fun _ j => 0 < j) fun i j => .int (i % j)) (tOp (rI CMul fun i j => .int (i * j)) (tVar 6) (tC (.int 16807))) (tC (.int 2147483587))) (tC (.int 5))) (tVar 3)) tNil)))
 tNext) tNext)
 (tSeq (tAsg (tLc (iList K (tVar 7)) (gName 9) (tTest (tOp (rIn K false) (tVar 9) (tVar 4))) (tVar 9) [9]) (gName 8))
 (tSeq (tIfS (tAnd (tTest (tOp (rEqD K) (tVar 8) (tLst tNil))) (tAnd (tTest (tOp rEq (tLenSet K (tVar 7)) (tCB (rLenS K) (tCons (tVar 7) tNil)))) (tB (tCall (sp_l_free K c) [] E (tCons (tVar 0) (tCons (tOp rCat (tVar 4) (tVar 7)) tNil)))))) (tSeq (tAsg (tOp rCat (tVar 4) (tVar 7)) (gName 4))
 tNext) tNext)
 tNext))))))
 (tSeq (tRet (tVar 4))
 tNext))))

def t_l_asked (K : PySem.W.Frag) (c : Cs) (E : XK) : TS :=
 (tSeq (tAsg (tCB (rListS K) (tCons (tVar 0) tNil)) (gName 4))
 (tSeq (tAsg (tCB (rSortedI K) (tCons (tVar 2) tNil)) (gName 5))
 (tCut (tIfS (tTest (tOp rEq (tOp (rI (fun _ j => 0 < j) fun i j => .int (i % j)) (tVar 3) (tC (.int 3))) (tC (.int 1)))) (tSeq (tAsg (tListRev K (tVar 5)) (gName 5))
 tNext) tNext)
 (tCut (tIfS (tTest (tOp rEq (tOp (rI (fun _ j => 0 < j) fun i j => .int (i % j)) (tVar 3) (tC (.int 3))) (tC (.int 2)))) (tSeq (tAsg (tOp rCat (tStep K 2 (tVar 5) (tPart (tC (.int 1)))) (tStep K 2 (tVar 5) tNoPart)) (gName 5))
 tNext) tNext)
 (tSeq (tAsg (tCB (rListS K) (tCons (tVar 5) tNil)) (gName 6))
 (tCut (tIfS (tTest (tOp rEq (tOp (rI CDiv fun i j => .int (i / j)) (tVar 3) (tC (.int 3))) (tC (.int 1)))) (tSeq (tAsg (tCall (sp_free K c) [] E (tCons (tVar 4) (tCons (tCB (rTupS K) (tCons (tVar 5) tNil)) tNil))) (gName 7))
 tNext) (tSeq (tAsg (tCall (sp_free K c) [] E (tCons (tVar 4) (tCons (tVar 5) tNil))) (gName 7))
 tNext))
 (tSeq (tIfS (tOr (tTest (tOp (rNeD K) (tVar 4) (tVar 0))) (tTest (tOp (rNeD K) (tVar 5) (tVar 6)))) (tSeq (tRet (tC (.bl false)))
 tNext) tNext)
 (tSeq (tRet (tAndV (tCB (rIsi K) (tCons (tVar 7) (tCons (tC (.ty "bool")) tNil))) (tOp rEq (tVar 7) (tCall (sp_l_free K c) [] E (tCons (tVar 1) (tCons (tVar 2) tNil))))))
 tNext))))))))

def t_law_k05 (K : PySem.W.Frag) (c : Cs) (E : XK) : TS :=
 (tSeq (tAsg (tCall (sp_l_size K c) [] E (tCons (tCall (sp_l_drawn K c) [] E (tCons (tVar 0) (tCons (tC (.int 0)) tNil))) tNil)) (gName 1))
 (tSeq (tAsg (tCall (sp_l_good K c) [] E (tCons (tVar 0) (tCons (tC (.int 2)) (tCons (tVar 1) tNil)))) (gName 2))
 (tSeq (tAsg (tCall (sp_l_places K c) [] E (tCons (tVar 2) tNil)) (gName 3))
 (tSeq (tAsg (tOp (rI (fun _ j => 0 < j) fun i j => .int (i % j)) (tCall (sp_l_drawn K c) [] E (tCons (tVar 0) (tCons (tC (.int 1)) tNil))) (tC (.int 6))) (gName 4))
 (tSeq (tIfS (tTest (tOp rEq (tVar 1) (tC (.int 1)))) (tSeq (tRet (tCall (sp_l_asked K c) [] E (tCons (tVar 2) (tCons (tVar 3) (tCons (tLst tNil) (tCons (tVar 4) tNil))))))
 tNext) tNext)
 (tSeq (tAsg (tOp (rI0 fun i j => .int (i + j)) (tC (.int 1)) (tOp (rI (fun _ j => 0 < j) fun i j => .int (i % j)) (tOp (rI CDiv fun i j => .int (i / j)) (tCall (sp_l_drawn K c) [] E (tCons (tVar 0) (tCons (tC (.int 1)) tNil))) (tC (.int 6))) (tC (.int 4)))) (gName 5))
 (tSeq (tAsg (tLc (iRng1 (tCons (tOp (rI0 fun i j => .int (i - j)) (tVar 1) (tC (.int 1))) tNil)) (gName 9) (tTest (tOp rEq (tOp (rI (fun _ j => 0 < j) fun i j => .int (i % j)) (tOp (rI CDiv fun i j => .int (i / j)) (tCall (sp_l_number K c) [] E0 (tCons (tVar 0) (tCons (tOp (rI0 fun i j => .int (i + j)) (tOp (rI0 fun i j => .int (i + j)) (tVar 1) (tC (.int 2))) (tVar 9)) tNil))) (tC (.int 7))) (tVar 5)) (tC (.int 0)))) (tVar 9) [9]) (gName 6))
 (tSeq (tIfS (tNot (tB (tCall (sp_l_asked K c) [] E (tCons (tVar 2) (tCons (tVar 3) (tCons (tVar 6) (tCons (tVar 4) tNil))))))) (tSeq (tRet (tC (.bl false)))
 tNext) tNext)
 (tSeq (tAsg (tCall (sp_l_grown K c) [] E (tCons (tVar 3) (tCons (tVar 0) (tCons (tOp (rI0 fun i j => .int (i + j)) (tVar 1) (tC (.int 2))) tNil)))) (gName 7))
 (tSeq (tIfS (tNot (tB (tCall (sp_l_asked K c) [] E (tCons (tVar 2) (tCons (tVar 3) (tCons (tVar 7) (tCons (tVar 4) tNil))))))) (tSeq (tRet (tC (.bl false)))
 tNext) tNext)
 (tSeq (tAsg (tOp (rI (fun _ j => 0 < j) fun i j => .int (i % j)) (tOp (rI CDiv fun i j => .int (i / j)) (tCall (sp_l_number K c) [] E (tCons (tVar 0) (tCons (tOp (rI0 fun i j => .int (i + j)) (tVar 1) (tC (.int 14))) tNil))) (tC (.int 11))) (tOp (rI0 fun i j => .int (i - j)) (tVar 1) (tC (.int 1)))) (gName 8))
 (tSeq (tIfS (tTest (tOp (rIn K false) (tVar 8) (tVar 7))) (tSeq (tRet (tCall (sp_l_asked K c) [] E (tCons (tVar 2) (tCons (tVar 3) (tCons (tLc (iList K (tVar 7)) (gName 10) (tTest (tOp rNe (tVar 10) (tVar 8))) (tVar 10) [10]) (tCons (tVar 4) tNil))))))
 tNext) tNext)
 (tSeq (tRet (tCall (sp_l_asked K c) [] E (tCons (tVar 2) (tCons (tVar 3) (tCons (tOp rCat (tVar 7) (tLst (tCons (tVar 8) tNil))) (tCons (tVar 4) tNil))))))
 tNext)))))))))))))

def t_Bench_init (K : PySem.W.Frag) (c : Cs) (E : XK) : TS :=
 (tSeq (sFld K (tVar 0) (tCall (sp_judged K c) [] E (tCons (tVar 1) tNil)) "at")
 (tSeq (sFld K (tVar 0) (tCB (rListS K) (tCons (tVar 1) tNil)) "order")
 (tSeq (sFld K (tVar 0) (tLst tNil) "drawn")
 tNext)))

def t_Bench_loose (K : PySem.W.Frag) (c : Cs) (E : XK) : TS :=
 (tSeq (tRet (tCB (rSortedI K) (tCons (tFld K (tVar 0) "drawn") tNil)))
 tNext)

def t_Bench_parts (K : PySem.W.Frag) (c : Cs) (E : XK) : TS :=
 (tSeq (tAsg (tLst tNil) (gName 1))
 (tSeq (tFor (iList K (tCall (sp_parts_of K c) [] E (tCons (tCB (rLenS K) (tCons (tFld K (tVar 0) "at") tNil)) (tCons (tFld K (tVar 0) "drawn") tNil)))) (gTup K 2 (gCons (gName 2) (gCons (gName 3) gNil))) (tSeq (tDrop (tBM K "list" rAppend (tVar 1) (tCons (tLc (iList K (tFld K (tVar 0) "order")) (gName 4) (tAnd (tTest (tOp (rI0 fun i j => .bl (decide (i ≤ j))) (tVar 2) (tVar 4))) (tTest (tOp (rI0 fun i j => .bl (decide (i ≤ j))) (tVar 4) (tVar 3)))) (tVar 4) [4]) tNil)))
 tNext))
 (tSeq (tRet (tVar 1))
 tNext)))

def t_Bench_draw (K : PySem.W.Frag) (c : Cs) (E : XK) : TS :=
 (tSeq (tDrop (tCall (sp_look_at_creases K c) [] E (tCons (tCB (rLenS K) (tCons (tFld K (tVar 0) "at") tNil)) (tCons (tVar 1) tNil))))
 (tSeq (tFor (iSeq K (tVar 1)) (gName 2) (tSeq (tIfS (tTest (tOp (rIn K false) (tVar 2) (tFld K (tVar 0) "drawn"))) (tSeq (tRaise E (.ref c.st))
 tNext) tNext)
 tNext))
 (tSeq (tDrop (tMeth c.be "settle" (sp_Bench_settle K c) [] E (tVar 0) (tCons (tOp rCat (tFld K (tVar 0) "drawn") (tCB (rListS K) (tCons (tVar 1) tNil))) tNil)))
 tNext)))

def t_Bench_press (K : PySem.W.Frag) (c : Cs) (E : XK) : TS :=
 (tSeq (tDrop (tCall (sp_look_at_creases K c) [] E (tCons (tCB (rLenS K) (tCons (tFld K (tVar 0) "at") tNil)) (tCons (tVar 1) tNil))))
 (tSeq (tFor (iSeq K (tVar 1)) (gName 2) (tSeq (tIfS (tTest (tOp (rIn K true) (tVar 2) (tFld K (tVar 0) "drawn"))) (tSeq (tRaise E (.ref c.st))
 tNext) tNext)
 tNext))
 (tSeq (tDrop (tMeth c.be "settle" (sp_Bench_settle K c) [] E (tVar 0) (tCons (tLc (iList K (tFld K (tVar 0) "drawn")) (gName 2) (tTest (tOp (rIn K true) (tVar 2) (tVar 1))) (tVar 2) [2]) tNil)))
 tNext)))

def t_Bench_settle (K : PySem.W.Frag) (c : Cs) (E : XK) : TS :=
 (tSeq (tIfS (tNot (tB (tCall (sp_are_free K c) [] E (tCons (tFld K (tVar 0) "at") (tCons (tVar 1) tNil))))) (tSeq (tRaise E (.ref c.st))
 tNext) tNext)
 (tSeq (sFld K (tVar 0) (tVar 1) "drawn")
 tNext))

def t_l_size30 (K : PySem.W.Frag) (c : Cs) (E : XK) : TS :=
 (tSeq (tRet (tOp (rI0 fun i j => .int (i + j)) (tC (.int 1)) (tOp (rI (fun _ j => 0 < j) fun i j => .int (i % j)) (tOp (rI CDiv fun i j => .int (i / j)) (tVar 0) (tC (.int 8))) (tOp (rIxL K) (tLst (tCons (tC (.int 5)) (tCons (tC (.int 9)) (tCons (tC (.int 13)) (tCons (tC (.int 4)) (tCons (tC (.int 9)) (tCons (tC (.int 7)) (tCons (tC (.int 13)) (tCons (tC (.int 30)) tNil))))))))) (tOp (rI (fun _ j => 0 < j) fun i j => .int (i % j)) (tVar 0) (tC (.int 8)))))))
 tNext)

def t_l_creases (K : PySem.W.Frag) (c : Cs) (E : XK) : TS :=
 (tSeq (tAsg (tCB rMax2 (tCons (tC (.int 1)) (tCons (tOp (rI0 fun i j => .int (i - j)) (tVar 0) (tC (.int 1))) tNil))) (gName 3))
 (tSeq (tAsg (tOp (rI (fun _ j => 0 < j) fun i j => .int (i % j)) (tOp (rI CDiv fun i j => .int (i / j)) (tVar 2) (tC (.int 8))) (tVar 3)) (gName 4))
 (tSeq (tAsg (tOp (rI (fun _ j => 0 < j) fun i j => .int (i % j)) (tOp (rI CDiv fun i j => .int (i / j)) (tOp (rI (fun _ j => 0 < j) fun i j => .int (i % j)) (tOp (rI CMul fun i j => .int (i * j)) (tVar 2) (tC (.int 16807))) (tC (.int 2147483587))) (tC (.int 3))) (tVar 3)) (gName 5))
 (tSeq (tAsg (tOp (rI (fun _ j => 0 < j) fun i j => .int (i % j)) (tVar 2) (tC (.int 8))) (gName 6))
 (tSeq (tIfS (tTest (tOp rEq (tVar 6) (tC (.int 2)))) (tSeq (tRet (tLst (tCons (tVar 4) (tCons (tOp (rI0 fun i j => .int (i + j)) (tVar 4) (tC (.int 1))) tNil))))
 tNext) tNext)
 (tSeq (tIfS (tTest (tOp rEq (tVar 6) (tC (.int 3)))) (tSeq (tRet (tLst (tCons (tVar 5) (tCons (tVar 4) tNil))))
 tNext) tNext)
 (tSeq (tIfS (tTest (tOp rEq (tVar 6) (tC (.int 4)))) (tSeq (tRet (tLc (iRng1 (tCons (tOp (rI0 fun i j => .int (i - j)) (tVar 0) (tC (.int 1))) tNil)) (gName 8) (tTest (tOp (rIn K true) (tVar 8) (tVar 1))) (tVar 8) [8]))
 tNext) tNext)
 (tSeq (tIfS (tTest (tOp rEq (tVar 6) (tC (.int 5)))) (tSeq (tRet (tCB (rListS K) (tCons (tVar 1) tNil)))
 tNext) tNext)
 (tSeq (tIfS (tTest (tOp rEq (tVar 6) (tC (.int 6)))) (tSeq (tRet (tLst (tCons (tVar 4) (tCons (tVar 5) (tCons (tOp (rI (fun _ j => 0 < j) fun i j => .int (i % j)) (tOp (rI0 fun i j => .int (i + j)) (tVar 4) (tVar 5)) (tVar 3)) tNil)))))
 tNext) tNext)
 (tSeq (tIfS (tTest (tOp rEq (tVar 6) (tC (.int 7)))) (tSeq (tAsg (tOp (rI (fun _ j => 0 < j) fun i j => .int (i % j)) (tOp (rI CMul fun i j => .int (i * j)) (tOp (rI CMul fun i j => .int (i * j)) (tVar 2) (tC (.int 69621))) (tC (.int 69621))) (tOp (rI CPow fun i j => .int (i ^ j.toNat)) (tC (.int 10)) (tC (.int 60)))) (gName 7))
 (tSeq (tRet (tLst (tCons (tVar 4) (tCons (tOp (rIxL K) (tLst (tCons (tUn (rU fun i => .int (-i)) (tC (.int 1))) (tCons (tOp (rI0 fun i j => .int (i - j)) (tVar 0) (tC (.int 1))) (tCons (tOp (rI0 fun i j => .int (i + j)) (tVar 0) (tVar 7)) (tCons (tOp (rI0 fun i j => .int (i - j)) (tUn (rU fun i => .int (-i)) (tC (.int 1))) (tVar 7)) tNil))))) (tOp (rI (fun _ j => 0 < j) fun i j => .int (i % j)) (tOp (rI CDiv fun i j => .int (i / j)) (tVar 2) (tC (.int 8))) (tC (.int 4)))) tNil))))
 tNext)) tNext)
 (tSeq (tRet (tLst (tCons (tVar 4) tNil)))
 tNext)))))))))))

def t_l_due (K : PySem.W.Frag) (c : Cs) (E : XK) : TS :=
 (tSeq (tFor (iRng1 (tCons (tCB (rLenS K) (tCons (tVar 2) tNil)) tNil)) (gName 4) (tSeq (tIfS (tOr (tTest (tOp (rI0 fun i j => .bl (decide (i < j))) (tOp (rIxL K) (tVar 2) (tVar 4)) (tC (.int 0)))) (tOr (tTest (tOp (rI0 fun i j => .bl (decide (j < i))) (tOp (rIxL K) (tVar 2) (tVar 4)) (tOp (rI0 fun i j => .int (i - j)) (tCB (rLenS K) (tCons (tVar 0) tNil)) (tC (.int 2))))) (tTest (tOp (rIn K false) (tOp (rIxL K) (tVar 2) (tVar 4)) (tSl (rSlL K) (tVar 2) tNoPart (tPart (tVar 4))))))) (tSeq (tRet (tC (.int 1)))
 tNext) tNext)
 tNext))
 (tSeq (tFor (iList K (tVar 2)) (gName 5) (tSeq (tIfS (tTest (tOp rEq (tOp (rIn K false) (tVar 5) (tVar 1)) (tVar 3))) (tSeq (tRet (tC (.int 2)))
 tNext) tNext)
 tNext))
 (tSeq (tAsg (tLc (iList K (tVar 1)) (gName 5) (tTest (tOp (rIn K true) (tVar 5) (tVar 2))) (tVar 5) [5]) (gName 6))
 (tSeq (tIfS (tB (tVar 3)) (tSeq (tAsg (tOp rCat (tVar 1) (tVar 2)) (gName 6))
 tNext) tNext)
 (tSeq (tIfS (tNot (tB (tCall (sp_l_free K c) [] E (tCons (tVar 0) (tCons (tVar 6) tNil))))) (tSeq (tRet (tC (.int 2)))
 tNext) tNext)
 (tSeq (tRet (tC (.int 0)))
 tNext))))))

def t_l_word_of (K : PySem.W.Frag) (c : Cs) (E : XK) (a : Addr) (cls : Value) (d : Option Addr) : TS :=
 (tSeq (tAsg (tLst (tCons (tCB (rIsX K a cls d) (tCons (tVar 0) (tCons (tC (.ref c.np)) tNil))) (tCons (tCB (rIsX K a cls d) (tCons (tVar 0) (tCons (tC (.ref c.nl)) tNil))) (tCons (tCB (rIsX K a cls d) (tCons (tVar 0) (tCons (tC (.ref c.nn)) tNil))) (tCons (tCB (rIsX K a cls d) (tCons (tVar 0) (tCons (tC (.ref c.cr)) tNil))) tNil))))) (gName 1))
 (tSeq (tIfS (tOr (tTest (tOp (rIn K false) (tC (.bl true)) (tVar 1))) (tNot (tB (tCB (rIsX K a cls d) (tCons (tVar 0) (tCons (tC (.ty "ValueError")) tNil)))))) (tSeq (tRet (tC (.int 3)))
 tNext) tNext)
 (tSeq (tRet (tOp (rI0 fun i j => .int (i + j)) (tCB rInt1 (tCons (tCB (rIsX K a cls d) (tCons (tVar 0) (tCons (tC (.ref c.nc)) tNil))) tNil)) (tOp (rI CMul fun i j => .int (i * j)) (tC (.int 2)) (tCB rInt1 (tCons (tCB (rIsX K a cls d) (tCons (tVar 0) (tCons (tC (.ref c.st)) tNil))) tNil)))))
 tNext)))

def t_l_done (K : PySem.W.Frag) (c : Cs) (E : XK) : TS :=
 (tSeq (tAsg (tC (.int 0)) (gName 3))
 (tSeq (tTry K (.ref c.se) 4 (fun W => (tSeq (tIfS (tB (tVar 2)) (tSeq (tDrop (tMethS c.be "draw" (sp_Bench_draw K c) (WE W) (tVar 0) (tCons (tVar 1) tNil)))
 tNext) (tSeq (tDrop (tMethS c.be "press" (sp_Bench_press K c) (WE W) (tVar 0) (tCons (tVar 1) tNil)))
 tNext))
 tNext)) (fun a cls d => (tSeq (tAsg (tC (.int 4)) (gName 3))
 (tSeq (tIfS (tTest (tOp (rI0 fun i j => .bl (decide (j < i))) (tCallX (sp_l_word_of K c) a cls d (tCons (tVar 4) tNil)) (tC (.int 0)))) (tSeq (tAsg (tCallX (sp_l_word_of K c) a cls d (tCons (tVar 4) tNil)) (gName 3))
 tNext) tNext)
 tNext))) E)
 (tSeq (tRet (tVar 3))
 tNext)))

def t_l_behind (K : PySem.W.Frag) (c : Cs) (E : XK) : TS :=
 (tSeq (tAsg (tOp rEq (tOp (rI (fun _ j => 0 < j) fun i j => .int (i % j)) (tVar 3) (tC (.int 2))) (tC (.int 0))) (gName 4))
 (tSeq (tAsg (tCall (sp_l_creases K c) [] E (tCons (tCB (rLenS K) (tCons (tVar 1) tNil)) (tCons (tVar 2) (tCons (tOp (rI CDiv fun i j => .int (i / j)) (tVar 3) (tC (.int 4))) tNil)))) (gName 5))
 (tSeq (tAsg (tCB (rListS K) (tCons (tVar 5) tNil)) (gName 6))
 (tCut (tIfS (tTest (tOp rEq (tOp (rI (fun _ j => 0 < j) fun i j => .int (i % j)) (tOp (rI CDiv fun i j => .int (i / j)) (tVar 3) (tC (.int 2))) (tC (.int 2))) (tC (.int 1)))) (tSeq (tAsg (tCall (sp_l_done K c) [] E (tCons (tVar 0) (tCons (tCB (rTupS K) (tCons (tVar 5) tNil)) (tCons (tVar 4) tNil)))) (gName 7))
 tNext) (tSeq (tAsg (tCall (sp_l_done K c) [] E (tCons (tVar 0) (tCons (tVar 6) (tCons (tVar 4) tNil)))) (gName 7))
 tNext))
 (tSeq (tIfS (tOr (tTest (tOp rNe (tVar 7) (tCall (sp_l_due K c) [] E (tCons (tVar 1) (tCons (tVar 2) (tCons (tVar 5) (tCons (tVar 4) tNil))))))) (tTest (tOp (rNeD K) (tVar 6) (tVar 5)))) (tSeq (tRet (tC .non))
 tNext) tNext)
 (tSeq (tDrop (tBM K "list" rAppend (tVar 6) (tCons (tC (.int 0)) tNil)))
 (tSeq (tIfS (tTest (tOp rNe (tVar 7) (tC (.int 0)))) (tSeq (tRet (tVar 2))
 tNext) tNext)
 (tSeq (tIfS (tB (tVar 4)) (tSeq (tRet (tCB (rSortedI K) (tCons (tOp rCat (tVar 2) (tVar 5)) tNil)))
 tNext) tNext)
 (tSeq (tRet (tLc (iList K (tVar 2)) (gName 8) (tTest (tOp (rIn K true) (tVar 8) (tVar 5))) (tVar 8) [8]))
 tNext)))))))))

def t_l_found (K : PySem.W.Frag) (c : Cs) (E : XK) : TS :=
 (tSeq (tIfS (tOr (tNot (tB (tCB (rIsi K) (tCons (tVar 0) (tCons (tC (.ty "list")) tNil))))) (tTest (tOp rNe (tCB (rLenS K) (tCons (tVar 0) tNil)) (tCB (rLenS K) (tCons (tVar 1) tNil))))) (tSeq (tRet (tC (.bl false)))
 tNext) tNext)
 (tSeq (tFor (iRng1 (tCons (tCB (rLenS K) (tCons (tVar 1) tNil)) tNil)) (gName 2) (tSeq (tIfS (tOr (tNot (tB (tCall (sp_l_counts K c) [] E (tCons (tOp (rIxL K) (tVar 0) (tVar 2)) tNil)))) (tTest (tOp rNe (tOp (rIxL K) (tVar 0) (tVar 2)) (tOp (rIxL K) (tVar 1) (tVar 2))))) (tSeq (tRet (tC (.bl false)))
 tNext) tNext)
 tNext))
 (tSeq (tRet (tC (.bl true)))
 tNext)))

def t_l_parts (K : PySem.W.Frag) (c : Cs) (E : XK) : TS :=
 (tSeq (tAsg (tOp rCat (tVar 2) (tLst (tCons (tOp (rI0 fun i j => .int (i - j)) (tCB (rLenS K) (tCons (tVar 1) tNil)) (tC (.int 1))) tNil))) (gName 3))
 (tSeq (tIfS (tOr (tNot (tB (tCB (rIsi K) (tCons (tVar 0) (tCons (tC (.ty "list")) tNil))))) (tTest (tOp rNe (tCB (rLenS K) (tCons (tVar 0) tNil)) (tCB (rLenS K) (tCons (tVar 3) tNil))))) (tSeq (tRet (tC (.bl false)))
 tNext) tNext)
 (tSeq (tAsg (tC (.int 0)) (gName 4))
 (tSeq (tFor (iRng1 (tCons (tCB (rLenS K) (tCons (tVar 3) tNil)) tNil)) (gName 5) (tSeq (tIfS (tNot (tB (tCall (sp_l_found K c) [] E (tCons (tOp (rIxL K) (tVar 0) (tVar 5)) (tCons (tLc (iList K (tVar 1)) (gName 6) (tAnd (tTest (tOp (rI0 fun i j => .bl (decide (i ≤ j))) (tVar 4) (tVar 6))) (tTest (tOp (rI0 fun i j => .bl (decide (i ≤ j))) (tVar 6) (tOp (rIxL K) (tVar 3) (tVar 5))))) (tVar 6) [6]) tNil))))) (tSeq (tRet (tC (.bl false)))
 tNext) tNext)
 (tSeq (tAsg (tOp (rI0 fun i j => .int (i + j)) (tOp (rIxL K) (tVar 3) (tVar 5)) (tC (.int 1))) (gName 4))
 tNext)))
 (tSeq (tRet (tC (.bl true)))
 tNext)))))

def t_l_look (K : PySem.W.Frag) (c : Cs) (E : XK) : TS :=
 (tCut (tIfS (tTest (tOp rEq (tOp (rI (fun _ j => 0 < j) fun i j => .int (i % j)) (tVar 3) (tC (.int 2))) (tC (.int 0)))) (tSeq (tAsg (tMeth c.be "loose" (sp_Bench_loose K c) [] E (tVar 0) tNil) (gName 5))
 (tSeq (tAsg (tMeth c.be "parts" (sp_Bench_parts K c) [] E (tVar 0) tNil) (gName 6))
 tNext)) (tSeq (tAsg (tMeth c.be "parts" (sp_Bench_parts K c) [] E (tVar 0) tNil) (gName 6))
 (tSeq (tAsg (tMeth c.be "loose" (sp_Bench_loose K c) [] E (tVar 0) tNil) (gName 5))
 tNext)))
 (tSeq (tIfS (tOr (tNot (tB (tCall (sp_l_found K c) [] E (tCons (tVar 5) (tCons (tVar 2) tNil))))) (tNot (tB (tCall (sp_l_parts K c) [] E (tCons (tVar 6) (tCons (tVar 1) (tCons (tVar 2) tNil))))))) (tSeq (tRet (tC (.bl false)))
 tNext) tNext)
 (tCut (tIfS (tTest (tOp rEq (tOp (rI (fun _ j => 0 < j) fun i j => .int (i % j)) (tOp (rI CDiv fun i j => .int (i / j)) (tVar 3) (tC (.int 2))) (tC (.int 3))) (tC (.int 0)))) (tSeq (tDrop (tBM K "list" rAppend (tVar 4) (tCons (tTup (tCons (tVar 5) (tCons (tCB (rListS K) (tCons (tVar 5) tNil)) tNil))) tNil)))
 (tSeq (tDrop (tBM K "list" rAppend (tVar 4) (tCons (tTup (tCons (tVar 6) (tCons (tLc (iList K (tVar 6)) (gName 7) tYes (tCB (rListS K) (tCons (tVar 7) tNil)) [7]) tNil))) tNil)))
 tNext)) tNext)
 (tSeq (tIfS (tTest (tOp rEq (tOp (rI (fun _ j => 0 < j) fun i j => .int (i % j)) (tOp (rI CDiv fun i j => .int (i / j)) (tVar 3) (tC (.int 2))) (tC (.int 3))) (tC (.int 1)))) (tSeq (tDrop (tBM K "list" rAppend (tVar 5) (tCons (tC (.int 0)) tNil)))
 (tSeq (tDrop (tBM0 K "list" rClear (tOp (rIxL K) (tVar 6) (tC (.int 0)))))
 (tSeq (tDrop (tBM K "list" rAppend (tVar 6) (tCons (tLst (tCons (tC (.int 0)) tNil)) tNil)))
 tNext))) tNext)
 (tSeq (tRet (tC (.bl true)))
 tNext)))))

def t_law_k06 (K : PySem.W.Frag) (c : Cs) (E : XK) : TS :=
 (tSeq (tAsg (tLst (tCons (tCall (sp_l_size K c) [] E (tCons (tCall (sp_l_drawn K c) [] E (tCons (tVar 0) (tCons (tC (.int 0)) tNil))) tNil)) (tCons (tCall (sp_l_size K c) [] E (tCons (tCall (sp_l_drawn K c) [] E (tCons (tVar 0) (tCons (tC (.int 1)) tNil))) tNil)) tNil))) (gName 1))
 (tSeq (tAsg (tLst (tCons (tCall (sp_l_good K c) [] E (tCons (tVar 0) (tCons (tC (.int 2)) (tCons (tOp (rIxL K) (tVar 1) (tC (.int 0))) tNil)))) (tCons (tCall (sp_l_good K c) [] E (tCons (tVar 0) (tCons (tC (.int 7)) (tCons (tOp (rIxL K) (tVar 1) (tC (.int 1))) tNil)))) tNil))) (gName 2))
 (tSeq (tAsg (tLst (tCons (tCall (sp_l_places K c) [] E (tCons (tOp (rIxL K) (tVar 2) (tC (.int 0))) tNil)) (tCons (tCall (sp_l_places K c) [] E (tCons (tOp (rIxL K) (tVar 2) (tC (.int 1))) tNil)) tNil))) (gName 3))
 (tSeq (tAsg (tLst (tCons (tCB (rListS K) (tCons (tOp (rIxL K) (tVar 2) (tC (.int 0))) tNil)) (tCons (tCB (rListS K) (tCons (tOp (rIxL K) (tVar 2) (tC (.int 1))) tNil)) tNil))) (gName 4))
 (tSeq (tAsg (tLst (tCons (tMake c.be (sp_Bench_init K c) [] E (tCons (tOp (rIxL K) (tVar 4) (tC (.int 0))) tNil)) (tCons (tMake c.be (sp_Bench_init K c) [] E (tCons (tOp (rIxL K) (tVar 4) (tC (.int 1))) tNil)) tNil))) (gName 5))
 (tSeq (tIfS (tTest (tOp (rNeD K) (tVar 4) (tVar 2))) (tSeq (tRet (tC (.bl false)))
 tNext) tNext)
 (tSeq (tDrop (tBM0 K "list" rReverse (tOp (rIxL K) (tVar 4) (tC (.int 0)))))
 (tSeq (tDrop (tBM0 K "list" rClear (tOp (rIxL K) (tVar 4) (tC (.int 1)))))
 (tSeq (tAsg (tLst (tCons (tLst tNil) (tCons (tLst tNil) tNil))) (gName 6))
 (tSeq (tAsg (tLst tNil) (gName 7))
 (tSeq (tFor (iList K (tSl (rSlL K) (tVar 0) (tPart (tC (.int 2))) (tPart (tC (.int 62))))) (gName 8) (tSeq (tAsg (tOp (rI (fun _ j => 0 < j) fun i j => .int (i % j)) (tVar 8) (tC (.int 2))) (gName 9))
 (tSeq (tAsg (tOp (rI (fun _ j => 0 < j) fun i j => .int (i % j)) (tOp (rI CMul fun i j => .int (i * j)) (tOp (rI CDiv fun i j => .int (i / j)) (tVar 8) (tC (.int 2))) (tC (.int 69621))) (tC (.int 2147483629))) (gName 10))
 (tSeq (tAsg (tCall (sp_l_behind K c) [] E (tCons (tOp (rIxL K) (tVar 5) (tVar 9)) (tCons (tOp (rIxL K) (tVar 3) (tVar 9)) (tCons (tOp (rIxL K) (tVar 6) (tVar 9)) (tCons (tVar 10) tNil))))) (gName 11))
 (tSeq (tIfS (tTest (tOp rIsN (tVar 11) (tC .non))) (tSeq (tRet (tC (.bl false)))
 tNext) tNext)
 (tSeq (tAsg (tVar 11) (gSub (tVar 6) (tVar 9) rSetL))
 (tSeq (tAsg (tLst (tCons (tVar 9) tNil)) (gName 12))
 (tCut (tIfS (tTest (tOp rEq (tOp (rI (fun _ j => 0 < j) fun i j => .int (i % j)) (tOp (rI CDiv fun i j => .int (i / j)) (tVar 10) (tC (.int 5))) (tC (.int 4))) (tC (.int 1)))) (tSeq (tAsg (tLst (tCons (tOp (rI0 fun i j => .int (i - j)) (tC (.int 1)) (tVar 9)) (tCons (tVar 9) tNil))) (gName 12))
 tNext) tNext)
 (tSeq (tFor (iList K (tVar 12)) (gName 13) (tSeq (tIfS (tNot (tB (tCall (sp_l_look K c) [] E (tCons (tOp (rIxL K) (tVar 5) (tVar 13)) (tCons (tOp (rIxL K) (tVar 2) (tVar 13)) (tCons (tOp (rIxL K) (tVar 6) (tVar 13)) (tCons (tOp (rI CDiv fun i j => .int (i / j)) (tVar 10) (tC (.int 20))) (tCons (tVar 7) tNil)))))))) (tSeq (tRet (tC (.bl false)))
 tNext) tNext)
 tNext))
 tNext)))))))))
 (tSeq (tFor (iRng1 (tCons (tC (.int 2)) tNil)) (gName 13) (tSeq (tIfS (tNot (tB (tCall (sp_l_look K c) [] E (tCons (tOp (rIxL K) (tVar 5) (tVar 13)) (tCons (tOp (rIxL K) (tVar 2) (tVar 13)) (tCons (tOp (rIxL K) (tVar 6) (tVar 13)) (tCons (tC (.int 0)) (tCons (tVar 7) tNil)))))))) (tSeq (tRet (tC (.bl false)))
 tNext) tNext)
 tNext))
 (tSeq (tFor (iList K (tVar 7)) (gTup K 2 (gCons (gName 14) (gCons (gName 15) gNil))) (tSeq (tIfS (tTest (tOp (rNeD K) (tVar 14) (tVar 15))) (tSeq (tRet (tC (.bl false)))
 tNext) tNext)
 tNext))
 (tSeq (tRet (tC (.bl true)))
 tNext))))))))))))))

def t_widest (K : PySem.W.Frag) (c : Cs) (E : XK) : TS :=
 (tSeq (tAsg (tLc (iRng2 (tCons (tVar 1) (tCons (tVar 2) tNil))) (gName 5) (tTest (tOp rEq (tOp (rI (fun _ j => 0 < j) fun i j => .int (i % j)) (tOp (rI0 fun i j => .int (i - j)) (tVar 5) (tVar 3)) (tC (.int 2))) (tC (.int 0)))) (tVar 5) [5]) (gName 4))
 (tSeq (tRet (tMaxKey (wT c) 5 (tVar 4) (tCB rAbs (tCons (tOp (rI0 fun i j => .int (i - j)) (tOp (rIxL K) (tVar 0) (tOp (rI0 fun i j => .int (i + j)) (tVar 5) (tC (.int 1)))) (tOp (rIxL K) (tVar 0) (tVar 5))) tNil))))
 tNext))

def t_step_of (K : PySem.W.Frag) (c : Cs) (E : XK) : TS :=
 (tSeq (tIfS (tAnd (tTest (tOp (rI0 fun i j => .bl (decide (j < i))) (tVar 1) (tC (.int 0)))) (tTest (tOp (rI0 fun i j => .bl (decide (i < j))) (tVar 2) (tOp (rI0 fun i j => .int (i - j)) (tCB (rLenS K) (tCons (tVar 0) tNil)) (tC (.int 1)))))) (tSeq (tAsg (tCall (sp_widest K c) [] E (tCons (tVar 0) (tCons (tVar 1) (tCons (tVar 2) (tCons (tVar 1) tNil))))) (gName 3))
 (tSeq (tRet (tTup (tCons (tVar 3) (tCons (tCall (sp_widest K c) [] E (tCons (tVar 0) (tCons (tOp (rI0 fun i j => .int (i + j)) (tVar 3) (tC (.int 1))) (tCons (tVar 2) (tCons (tOp (rI0 fun i j => .int (i + j)) (tVar 3) (tC (.int 1))) tNil))))) tNil))))
 tNext)) tNext)
 (tSeq (tIfS (tAnd (tTest (tOp rEq (tVar 1) (tC (.int 0)))) (tTest (tOp (rI0 fun i j => .bl (decide (i < j))) (tVar 2) (tOp (rI0 fun i j => .int (i - j)) (tCB (rLenS K) (tCons (tVar 0) tNil)) (tC (.int 1)))))) (tSeq (tRet (tTup (tCons (tCall (sp_widest K c) [] E (tCons (tVar 0) (tCons (tVar 1) (tCons (tVar 2) (tCons (tOp (rI0 fun i j => .int (i - j)) (tVar 2) (tC (.int 1))) tNil))))) tNil)))
 tNext) tNext)
 (tSeq (tRet (tTup (tCons (tCall (sp_widest K c) [] E (tCons (tVar 0) (tCons (tVar 1) (tCons (tVar 2) (tCons (tVar 1) tNil))))) tNil)))
 tNext)))

def t_opening (K : PySem.W.Frag) (c : Cs) (E : XK) : TS :=
 (tSeq (tAsg (tCall (sp_judged K c) [] E (tCons (tVar 0) tNil)) (gName 1))
 (tSeq (tAsg (tLst (tCons (tTup (tCons (tC (.int 0)) (tCons (tOp (rI0 fun i j => .int (i - j)) (tCB (rLenS K) (tCons (tVar 1) tNil)) (tC (.int 1))) tNil))) tNil)) (gName 2))
 (tSeq (tAsg (tLst tNil) (gName 3))
 (tSeq (tWhile (tTest (tOp (rNeD K) (tVar 2) (tLst tNil))) (tSeq (tAsg (tBM0 K "list" rPop (tVar 2)) (gTup K 2 (gCons (gName 4) (gCons (gName 5) gNil))))
 (tSeq (tIfS (tTest (tOp (rI0 fun i j => .bl (decide (i < j))) (tVar 4) (tVar 5))) (tSeq (tAsg (tCall (sp_step_of K c) [] E (tCons (tVar 1) (tCons (tVar 4) (tCons (tVar 5) tNil)))) (gName 6))
 (tSeq (tDrop (tBM K "list" rAppend (tVar 3) (tCons (tVar 6) tNil)))
 (tSeq (tFor (iTup K (tVar 6)) (gName 7) (tSeq (tDrop (tBM K "list" rAppend (tVar 2) (tCons (tTup (tCons (tVar 4) (tCons (tVar 7) tNil))) tNil)))
 (tSeq (tAsg (tOp (rI0 fun i j => .int (i + j)) (tVar 7) (tC (.int 1))) (gName 4))
 tNext)))
 (tSeq (tDrop (tBM K "list" rAppend (tVar 2) (tCons (tTup (tCons (tVar 4) (tCons (tVar 5) tNil))) tNil)))
 tNext)))) tNext)
 tNext)))
 (tSeq (tRet (tVar 3))
 tNext)))))

def t_l_step (K : PySem.W.Frag) (c : Cs) (E : XK) : TS :=
 (tSeq (tIfS (tOr (tNot (tB (tCB (rIsi K) (tCons (tVar 0) (tCons (tC (.ty "tuple")) tNil))))) (tTest (tOp (rIn K true) (tCB (rLenS K) (tCons (tVar 0) tNil)) (tTup (tCons (tC (.int 1)) (tCons (tC (.int 2)) tNil)))))) (tSeq (tRet (tC (.bl false)))
 tNext) tNext)
 (tSeq (tFor (iTup K (tVar 0)) (gName 3) (tSeq (tIfS (tOr (tNot (tB (tCall (sp_l_counts K c) [] E (tCons (tVar 3) tNil)))) (tOr (tTest (tOp (rI0 fun i j => .bl (decide (i < j))) (tVar 3) (tC (.int 0)))) (tOr (tTest (tOp (rI0 fun i j => .bl (decide (j < i))) (tVar 3) (tOp (rI0 fun i j => .int (i - j)) (tVar 1) (tC (.int 2))))) (tTest (tOp (rIn K false) (tVar 3) (tVar 2)))))) (tSeq (tRet (tC (.bl false)))
 tNext) tNext)
 tNext))
 (tSeq (tRet (tOrV (tOp rEq (tCB (rLenS K) (tCons (tVar 0) tNil)) (tC (.int 1))) (tOp (rI0 fun i j => .bl (decide (i < j))) (tOp (rIxT K) (tVar 0) (tC (.int 0))) (tOp (rIxT K) (tVar 0) (tC (.int 1))))))
 tNext)))

def t_l_apart (K : PySem.W.Frag) (c : Cs) (E : XK) : TS :=
 (tSeq (tAsg (tLst tNil) (gName 3))
 (tSeq (tFor (iList K (tVar 2)) (gName 4) (tSeq (tIfS (tNot (tB (tCall (sp_l_step K c) [] E (tCons (tVar 4) (tCons (tCB (rLenS K) (tCons (tVar 1) tNil)) (tCons (tVar 3) tNil)))))) (tSeq (tRet (tC (.bl false)))
 tNext) tNext)
 (tSeq (tAsg (tOp rCat (tVar 3) (tCB (rListS K) (tCons (tVar 4) tNil))) (gName 3))
 (tSeq (tIfS (tNot (tB (tCall (sp_l_free K c) [] E (tCons (tVar 1) (tCons (tVar 3) tNil))))) (tSeq (tRet (tC (.bl false)))
 tNext) tNext)
 (tSeq (tDrop (tMeth c.be "draw" (sp_Bench_draw K c) [] E (tVar 0) (tCons (tVar 4) tNil)))
 (tSeq (tIfS (tNot (tB (tCall (sp_l_found K c) [] E (tCons (tMeth c.be "loose" (sp_Bench_loose K c) [] E (tVar 0) tNil) (tCons (tCB (rSortedI K) (tCons (tVar 3) tNil)) tNil))))) (tSeq (tRet (tC (.bl false)))
 tNext) tNext)
 tNext))))))
 (tSeq (tAsg (tMeth c.be "parts" (sp_Bench_parts K c) [] E (tVar 0) tNil) (gName 5))
 (tSeq (tIfS (tOr (tTest (tOp rNe (tCB (rLenS K) (tCons (tVar 3) tNil)) (tOp (rI0 fun i j => .int (i - j)) (tCB (rLenS K) (tCons (tVar 1) tNil)) (tC (.int 1))))) (tOr (tNot (tB (tCB (rIsi K) (tCons (tVar 5) (tCons (tC (.ty "list")) tNil))))) (tTest (tOp rNe (tCB (rLenS K) (tCons (tVar 5) tNil)) (tCB (rLenS K) (tCons (tVar 1) tNil)))))) (tSeq (tRet (tC (.bl false)))
 tNext) tNext)
 (tSeq (tFor (iRng1 (tCons (tCB (rLenS K) (tCons (tVar 1) tNil)) tNil)) (gName 6) (tSeq (tIfS (tNot (tB (tCall (sp_l_found K c) [] E (tCons (tOp (rIxL K) (tVar 5) (tVar 6)) (tCons (tLst (tCons (tVar 6) tNil)) tNil))))) (tSeq (tRet (tC (.bl false)))
 tNext) tNext)
 tNext))
 (tSeq (tRet (tC (.bl true)))
 tNext))))))

def t_l_pressed (K : PySem.W.Frag) (c : Cs) (E : XK) : TS :=
 (tSeq (tAsg (tLstRg (tRg1 (tOp (rI0 fun i j => .int (i - j)) (tCB (rLenS K) (tCons (tVar 1) tNil)) (tC (.int 1))))) (gName 3))
 (tSeq (tFor (iRev K (tCons (tVar 2) tNil)) (gName 4) (tSeq (tDrop (tMeth c.be "press" (sp_Bench_press K c) [] E (tVar 0) (tCons (tCB (rListS K) (tCons (tVar 4) tNil)) tNil)))
 (tSeq (tAsg (tLc (iList K (tVar 3)) (gName 5) (tTest (tOp (rIn K true) (tVar 5) (tVar 4))) (tVar 5) [5]) (gName 3))
 (tSeq (tIfS (tNot (tB (tCall (sp_l_found K c) [] E (tCons (tMeth c.be "loose" (sp_Bench_loose K c) [] E (tVar 0) tNil) (tCons (tVar 3) tNil))))) (tSeq (tRet (tC (.bl false)))
 tNext) tNext)
 tNext))))
 (tSeq (tRet (tOp (rEqD K) (tVar 3) (tLst tNil)))
 tNext)))

def t_law_k07 (K : PySem.W.Frag) (c : Cs) (E : XK) : TS :=
 (tSeq (tAsg (tCall (sp_l_size K c) [] E (tCons (tCall (sp_l_drawn K c) [] E (tCons (tVar 0) (tCons (tC (.int 0)) tNil))) tNil)) (gName 1))
 (tSeq (tAsg (tCall (sp_l_good K c) [] E (tCons (tVar 0) (tCons (tC (.int 2)) (tCons (tVar 1) tNil)))) (gName 2))
 (tSeq (tAsg (tOp (rI (fun _ j => 0 < j) fun i j => .int (i % j)) (tCall (sp_l_drawn K c) [] E (tCons (tVar 0) (tCons (tC (.int 1)) tNil))) (tVar 1)) (gName 3))
 (tSeq (tAsg (tOp rCat (tSl (rSlL K) (tVar 2) (tPart (tVar 3)) tNoPart) (tSl (rSlL K) (tVar 2) tNoPart (tPart (tVar 3)))) (gName 2))
 (tSeq (tAsg (tCall (sp_l_places K c) [] E (tCons (tVar 2) tNil)) (gName 4))
 (tSeq (tAsg (tCB (rListS K) (tCons (tVar 2) tNil)) (gName 5))
 (tSeq (tAsg (tCall (sp_opening K c) [] E (tCons (tVar 5) tNil)) (gName 6))
 (tSeq (tIfS (tOr (tTest (tOp (rNeD K) (tVar 5) (tVar 2))) (tNot (tB (tCB (rIsi K) (tCons (tVar 6) (tCons (tC (.ty "list")) tNil)))))) (tSeq (tRet (tC (.bl false)))
 tNext) tNext)
 (tSeq (tAsg (tMake c.be (sp_Bench_init K c) [] E (tCons (tVar 5) tNil)) (gName 7))
 (tSeq (tIfS (tOr (tNot (tB (tCall (sp_l_apart K c) [] E (tCons (tVar 7) (tCons (tVar 4) (tCons (tVar 6) tNil)))))) (tNot (tB (tCall (sp_l_pressed K c) [] E (tCons (tVar 7) (tCons (tVar 4) (tCons (tVar 6) tNil))))))) (tSeq (tRet (tC (.bl false)))
 tNext) tNext)
 (tSeq (tAsg (tMeth c.be "parts" (sp_Bench_parts K c) [] E (tVar 7) tNil) (gName 8))
 (tSeq (tRet (tAndV (tCB (rIsi K) (tCons (tVar 8) (tCons (tC (.ty "list")) tNil))) (tAndV (tOp rEq (tCB (rLenS K) (tCons (tVar 8) tNil)) (tC (.int 1))) (tCall (sp_l_found K c) [] E (tCons (tOp (rIxL K) (tVar 8) (tC (.int 0))) (tCons (tVar 2) tNil))))))
 tNext))))))))))))

def t_with_next (K : PySem.W.Frag) (c : Cs) (E : XK) : TS :=
 (tSeq (tAsg (tCB (rLenS K) (tCons (tVar 0) tNil)) (gName 1))
 (tSeq (tAsg (tLst tNil) (gName 2))
 (tSeq (tFor (iRng1 (tCons (tOp (rI0 fun i j => .int (i + j)) (tVar 1) (tC (.int 1))) tNil)) (gName 3) (tSeq (tAsg (tOp rCat (tOp rCat (tSl (rSlL K) (tVar 0) tNoPart (tPart (tVar 3))) (tLst (tCons (tVar 1) tNil))) (tSl (rSlL K) (tVar 0) (tPart (tVar 3)) tNoPart)) (gName 4))
 (tSeq (tIfS (tTest (tOp rIsN (tCall (sp_crossing K c) [] E (tCons (tVar 4) tNil)) (tC .non))) (tSeq (tDrop (tBM K "list" rAppend (tVar 2) (tCons (tVar 4) tNil)))
 tNext) tNext)
 tNext)))
 (tSeq (tRet (tVar 2))
 tNext))))

def t_piles (K : PySem.W.Frag) (c : Cs) (E : XK) : TS :=
 (tSeq (tIfS (tOr (tTest (tOp (rI0 fun i j => .bl (decide (i < j))) (tVar 0) (tC (.int 1)))) (tTest (tOp (rI0 fun i j => .bl (decide (j < i))) (tVar 0) (tC (.int 7))))) (tSeq (tRaise E (.ref c.nn))
 tNext) tNext)
 (tSeq (tAsg (tLst (tCons (tLst (tCons (tC (.int 0)) tNil)) tNil)) (gName 1))
 (tSeq (tFor (iRng1 (tCons (tOp (rI0 fun i j => .int (i - j)) (tVar 0) (tC (.int 1))) tNil)) (gName 2) (tSeq (tAsg (tLst tNil) (gName 3))
 (tSeq (tFor (iList K (tVar 1)) (gName 4) (tSeq (tDrop (tBM K "list" rExtend (tVar 3) (tCons (tCall (sp_with_next K c) [] E (tCons (tVar 4) tNil)) tNil)))
 tNext))
 (tSeq (tAsg (tVar 3) (gName 1))
 tNext))))
 (tSeq (tRet (tVar 1))
 tNext))))

def t_piles_with (K : PySem.W.Frag) (c : Cs) (E : XK) : TS :=
 (tSeq (tDrop (tCall (sp_look_at K c) [] E (tCons (tVar 0) tNil)))
 (tSeq (tRet (tLc (iList K (tCall (sp_piles K c) [] E (tCons (tOp (rI0 fun i j => .int (i + j)) (tCB rLenT (tCons (tVar 0) tNil)) (tC (.int 1))) tNil))) (gName 1) (tTest (tOp rEq (tCall (sp_letters K c) [] E0 (tCons (tVar 1) tNil)) (tVar 0))) (tVar 1) [1]))
 tNext))

def t_l_letters (K : PySem.W.Frag) (c : Cs) (E : XK) : TS :=
 (tSeq (tAsg (tLst tNil) (gName 1))
 (tSeq (tFor (iRng1 (tCons (tOp (rI0 fun i j => .int (i - j)) (tCB (rLenS K) (tCons (tVar 0) tNil)) (tC (.int 1))) tNil)) (gName 2) (tSeq (tAsg (tOp rEq (tOp (rI0 fun i j => .bl (decide (j < i))) (tOp (rIxL K) (tVar 0) (tOp (rI0 fun i j => .int (i + j)) (tVar 2) (tC (.int 1)))) (tOp (rIxL K) (tVar 0) (tVar 2))) (tOp rEq (tOp (rI (fun _ j => 0 < j) fun i j => .int (i % j)) (tVar 2) (tC (.int 2))) (tC (.int 0)))) (gName 3))
 (tSeq (tDrop (tBM K "list" rAppend (tVar 1) (tCons (tOp (rIxL K) (tLst (tCons (tC (.str "M")) (tCons (tC (.str "V")) tNil))) (tCB rInt1 (tCons (tVar 3) tNil))) tNil)))
 tNext)))
 (tSeq (tRet (tBM K "str" (rJoin K) (tC (.str "")) (tCons (tVar 1) tNil)))
 tNext)))

def t_l_all_good (K : PySem.W.Frag) (c : Cs) (E : XK) : TS :=
 (tSeq (tIfS (tNot (tB (tCB (rIsi K) (tCons (tVar 0) (tCons (tC (.ty "list")) tNil))))) (tSeq (tRet (tC (.bl false)))
 tNext) tNext)
 (tSeq (tAsg tDNewT (gName 2))
 (tSeq (tFor (iList K (tVar 0)) (gName 3) (tSeq (tIfS (tOr (tNot (tB (tCall (sp_l_is_pile K c) [] E (tCons (tVar 3) (tCons (tVar 1) tNil))))) (tOr (tB (tDIn (tCB (rTupS K) (tCons (tVar 3) tNil)) (tVar 2))) (tNot (tB (tCall (sp_l_none_cross K c) [] E (tCons (tCall (sp_l_places K c) [] E (tCons (tVar 3) tNil)) tNil)))))) (tSeq (tRet (tC (.bl false)))
 tNext) tNext)
 (tSeq (sDPut (tVar 2) (tCB (rTupS K) (tCons (tVar 3) tNil)) (tC (.bl true)))
 tNext)))
 (tSeq (tRet (tC (.bl true)))
 tNext))))

def t_law_k08 (K : PySem.W.Frag) (c : Cs) (E : XK) : TS :=
 (tSeq (tAsg (tOp (rIxL K) (tLst (tCons (tC (.int 1)) (tCons (tC (.int 2)) (tCons (tC (.int 3)) (tCons (tC (.int 4)) (tCons (tC (.int 5)) (tCons (tC (.int 3)) (tCons (tC (.int 4)) (tCons (tC (.int 5)) (tCons (tC (.int 4)) (tCons (tC (.int 5)) (tCons (tC (.int 2)) (tCons (tC (.int 3)) (tCons (tC (.int 6)) (tCons (tC (.int 4)) (tCons (tC (.int 6)) (tCons (tC (.int 7)) tNil))))))))))))))))) (tOp (rI (fun _ j => 0 < j) fun i j => .int (i % j)) (tCall (sp_l_drawn K c) [] E (tCons (tVar 0) (tCons (tC (.int 0)) tNil))) (tC (.int 16)))) (gName 1))
 (tSeq (tAsg (tCall (sp_l_pile K c) [] E (tCons (tVar 0) (tCons (tC (.int 2)) (tCons (tVar 1) tNil)))) (gName 2))
 (tSeq (tAsg (tCall (sp_l_good K c) [] E (tCons (tVar 0) (tCons (tOp (rI0 fun i j => .int (i + j)) (tC (.int 2)) (tVar 1)) (tCons (tVar 1) tNil)))) (gName 3))
 (tSeq (tAsg (tOp (rI (fun _ j => 0 < j) fun i j => .int (i % j)) (tCall (sp_l_drawn K c) [] E (tCons (tVar 0) (tCons (tC (.int 1)) tNil))) (tC (.int 4))) (gName 4))
 (tCut (tIfS (tOr (tTest (tOp (rI0 fun i j => .bl (decide (i < j))) (tVar 1) (tC (.int 7)))) (tTest (tOp (rI0 fun i j => .bl (decide (i < j))) (tVar 4) (tC (.int 2))))) (tSeq (tAsg (tCall (sp_piles K c) [] E (tCons (tVar 1) tNil)) (gName 5))
 (tSeq (tIfS (tOr (tNot (tB (tCall (sp_l_all_good K c) [] E (tCons (tVar 5) (tCons (tVar 1) tNil))))) (tTest (tOp (rNotInD K) (tVar 3) (tVar 5)))) (tSeq (tRet (tC (.bl false)))
 tNext) tNext)
 (tSeq (tIfS (tTest (tOp rNe (tOp (rInD K) (tVar 2) (tVar 5)) (tCall (sp_l_none_cross K c) [] E (tCons (tCall (sp_l_places K c) [] E (tCons (tVar 2) tNil)) tNil)))) (tSeq (tRet (tC (.bl false)))
 tNext) tNext)
 (tSeq (tIfS (tTest (tOp rEq (tVar 1) (tC (.int 7)))) (tSeq (tRet (tC (.bl true)))
 tNext) tNext)
 tNext)))) tNext)
 (tSeq (tAsg (tCall (sp_l_letters K c) [] E (tCons (tCall (sp_l_places K c) [] E (tCons (tVar 3) tNil)) tNil)) (gName 6))
 (tCut (tIfS (tTest (tOp rEq (tOp (rI (fun _ j => 0 < j) fun i j => .int (i % j)) (tVar 4) (tC (.int 2))) (tC (.int 1)))) (tSeq (tAsg (tBM K "str" (rJoin K) (tC (.str "")) (tCons (tLc (iRng1 (tCons (tOp (rI0 fun i j => .int (i - j)) (tVar 1) (tC (.int 1))) tNil)) (gName 10) tYes (tOp (rIxL K) (tLst (tCons (tC (.str "V")) (tCons (tC (.str "M")) tNil))) (tOp (rI (fun _ j => 0 < j) fun i j => .int (i % j)) (tOp (rI CDiv fun i j => .int (i / j)) (tCall (sp_l_drawn K c) [] E0 (tCons (tVar 0) (tCons (tC (.int 1)) tNil))) (tOp (rI0 fun i j => .int (i + j)) (tOp (rI CMul fun i j => .int (i * j)) (tVar 10) (tVar 10)) (tC (.int 4)))) (tC (.int 2)))) [10]) tNil)) (gName 6))
 tNext) tNext)
 (tSeq (tAsg (tCall (sp_piles_with K c) [] E (tCons (tVar 6) tNil)) (gName 7))
 (tSeq (tIfS (tOr (tNot (tB (tCall (sp_l_all_good K c) [] E (tCons (tVar 7) (tCons (tVar 1) tNil))))) (tTest (tOp (rEqD K) (tVar 7) (tLst tNil)))) (tSeq (tRet (tC (.bl false)))
 tNext) tNext)
 (tSeq (tIfS (tTest (tOp (rNeD K) (tLc (iList K (tVar 7)) (gName 8) (tTest (tOp rNe (tCall (sp_l_letters K c) [] E0 (tCons (tCall (sp_l_places K c) [] E0 (tCons (tVar 8) tNil)) tNil)) (tVar 6))) (tVar 8) [8]) (tLst tNil))) (tSeq (tRet (tC (.bl false)))
 tNext) tNext)
 (tSeq (tFor (iList K (tLst (tCons (tVar 2) (tCons (tVar 3) tNil)))) (gName 8) (tSeq (tAsg (tCall (sp_l_places K c) [] E (tCons (tVar 8) tNil)) (gName 9))
 (tSeq (tIfS (tTest (tOp rNe (tOp (rInD K) (tVar 8) (tVar 7)) (tAndV (tCall (sp_l_none_cross K c) [] E (tCons (tVar 9) tNil)) (tOp rEq (tCall (sp_l_letters K c) [] E (tCons (tVar 9) tNil)) (tVar 6))))) (tSeq (tRet (tC (.bl false)))
 tNext) tNext)
 tNext)))
 (tSeq (tRet (tC (.bl true)))
 tNext))))))))))))

def t_l_size17 (K : PySem.W.Frag) (c : Cs) (E : XK) : TS :=
 (tSeq (tRet (tOp (rI0 fun i j => .int (i + j)) (tC (.int 1)) (tOp (rI (fun _ j => 0 < j) fun i j => .int (i % j)) (tOp (rI CDiv fun i j => .int (i / j)) (tVar 0) (tC (.int 8))) (tOp (rIxL K) (tLst (tCons (tC (.int 6)) (tCons (tC (.int 9)) (tCons (tC (.int 17)) (tCons (tC (.int 9)) (tCons (tC (.int 17)) (tCons (tC (.int 12)) (tCons (tC (.int 3)) (tCons (tC (.int 2)) tNil))))))))) (tOp (rI (fun _ j => 0 < j) fun i j => .int (i % j)) (tVar 0) (tC (.int 8)))))))
 tNext)

def t_l_is_pile9 (K : PySem.W.Frag) (c : Cs) (E : XK) : TS :=
 (tSeq (tAsg (tOp rRep (tLst (tCons (tC (.bl false)) tNil)) (tCB (rLenS K) (tCons (tVar 0) tNil))) (gName 1))
 (tSeq (tFor (iList K (tVar 0)) (gName 2) (tSeq (tIfS (tOr (tTest (tOp (rI0 fun i j => .bl (decide (i < j))) (tVar 2) (tC (.int 0)))) (tOr (tTest (tOp (rI0 fun i j => .bl (decide (j ≤ i))) (tVar 2) (tCB (rLenS K) (tCons (tVar 0) tNil)))) (tB (tOp (rIxL K) (tVar 1) (tVar 2))))) (tSeq (tRet (tC (.bl false)))
 tNext) tNext)
 (tSeq (tAsg (tC (.bl true)) (gSub (tVar 1) (tVar 2) rSetL))
 tNext)))
 (tSeq (tRet (tOp (rNeD K) (tVar 0) (tLst tNil)))
 tNext)))

def t_l_spoiled (K : PySem.W.Frag) (c : Cs) (E : XK) : TS :=
 (tSeq (tAsg (tOp (rI (fun _ j => 0 < j) fun i j => .int (i % j)) (tOp (rI CDiv fun i j => .int (i / j)) (tVar 1) (tC (.int 6))) (tCB (rLenS K) (tCons (tVar 0) tNil))) (gName 3))
 (tSeq (tAsg (tOp (rI (fun _ j => 0 < j) fun i j => .int (i % j)) (tOp (rI CDiv fun i j => .int (i / j)) (tOp (rI (fun _ j => 0 < j) fun i j => .int (i % j)) (tOp (rI CMul fun i j => .int (i * j)) (tVar 1) (tC (.int 16807))) (tC (.int 2147483587))) (tC (.int 3))) (tCB (rLenS K) (tCons (tVar 0) tNil))) (gName 4))
 (tSeq (tIfS (tTest (tOp rEq (tOp (rI (fun _ j => 0 < j) fun i j => .int (i % j)) (tVar 1) (tC (.int 6))) (tC (.int 1)))) (tSeq (tRet (tLst tNil))
 tNext) tNext)
 (tSeq (tIfS (tTest (tOp rEq (tOp (rI (fun _ j => 0 < j) fun i j => .int (i % j)) (tVar 1) (tC (.int 6))) (tC (.int 2)))) (tSeq (tRet (tOp rCat (tOp rCat (tSl (rSlL K) (tVar 0) tNoPart (tPart (tVar 3))) (tLst (tCons (tOp (rIxL K) (tVar 0) (tVar 4)) tNil))) (tSl (rSlL K) (tVar 0) (tPart (tOp (rI0 fun i j => .int (i + j)) (tVar 3) (tC (.int 1)))) tNoPart)))
 tNext) tNext)
 (tSeq (tIfS (tTest (tOp rEq (tOp (rI (fun _ j => 0 < j) fun i j => .int (i % j)) (tVar 1) (tC (.int 6))) (tC (.int 3)))) (tSeq (tRet (tOp rCat (tOp rCat (tSl (rSlL K) (tVar 0) tNoPart (tPart (tVar 3))) (tLst (tCons (tOp (rI0 fun i j => .int (i + j)) (tCB (rLenS K) (tCons (tVar 0) tNil)) (tVar 2)) tNil))) (tSl (rSlL K) (tVar 0) (tPart (tOp (rI0 fun i j => .int (i + j)) (tVar 3) (tC (.int 1)))) tNoPart)))
 tNext) tNext)
 (tSeq (tIfS (tTest (tOp rEq (tOp (rI (fun _ j => 0 < j) fun i j => .int (i % j)) (tVar 1) (tC (.int 6))) (tC (.int 4)))) (tSeq (tRet (tOp rCat (tOp rCat (tSl (rSlL K) (tVar 0) tNoPart (tPart (tVar 3))) (tLst (tCons (tOp (rI0 fun i j => .int (i - j)) (tUn (rU fun i => .int (-i)) (tC (.int 1))) (tVar 2)) tNil))) (tSl (rSlL K) (tVar 0) (tPart (tOp (rI0 fun i j => .int (i + j)) (tVar 3) (tC (.int 1)))) tNoPart)))
 tNext) tNext)
 (tSeq (tIfS (tTest (tOp rEq (tOp (rI (fun _ j => 0 < j) fun i j => .int (i % j)) (tVar 1) (tC (.int 6))) (tC (.int 5)))) (tSeq (tRet (tOp rCat (tSl (rSlL K) (tVar 0) tNoPart (tPart (tVar 3))) (tSl (rSlL K) (tVar 0) (tPart (tOp (rI0 fun i j => .int (i + j)) (tVar 3) (tC (.int 1)))) tNoPart)))
 tNext) tNext)
 (tSeq (tRet (tVar 0))
 tNext))))))))

def t_l_creases9 (K : PySem.W.Frag) (c : Cs) (E : XK) : TS :=
 (tSeq (tAsg (tCB rMax2 (tCons (tC (.int 1)) (tCons (tOp (rI0 fun i j => .int (i - j)) (tVar 0) (tC (.int 1))) tNil))) (gName 3))
 (tSeq (tAsg (tOp (rI (fun _ j => 0 < j) fun i j => .int (i % j)) (tOp (rI CDiv fun i j => .int (i / j)) (tVar 1) (tC (.int 6))) (tVar 3)) (gName 4))
 (tSeq (tAsg (tOp (rI (fun _ j => 0 < j) fun i j => .int (i % j)) (tOp (rI CDiv fun i j => .int (i / j)) (tOp (rI (fun _ j => 0 < j) fun i j => .int (i % j)) (tOp (rI CMul fun i j => .int (i * j)) (tVar 1) (tC (.int 16807))) (tC (.int 2147483587))) (tC (.int 3))) (tVar 3)) (gName 5))
 (tSeq (tIfS (tTest (tOp rEq (tOp (rI (fun _ j => 0 < j) fun i j => .int (i % j)) (tVar 1) (tC (.int 6))) (tC (.int 0)))) (tSeq (tRet (tLst tNil))
 tNext) tNext)
 (tSeq (tIfS (tTest (tOp rEq (tOp (rI (fun _ j => 0 < j) fun i j => .int (i % j)) (tVar 1) (tC (.int 6))) (tC (.int 1)))) (tSeq (tRet (tLst (tCons (tVar 4) tNil)))
 tNext) tNext)
 (tSeq (tIfS (tTest (tOp rEq (tOp (rI (fun _ j => 0 < j) fun i j => .int (i % j)) (tVar 1) (tC (.int 6))) (tC (.int 2)))) (tSeq (tRet (tLst (tCons (tVar 4) (tCons (tVar 5) tNil))))
 tNext) tNext)
 (tSeq (tIfS (tTest (tOp rEq (tOp (rI (fun _ j => 0 < j) fun i j => .int (i % j)) (tVar 1) (tC (.int 6))) (tC (.int 3)))) (tSeq (tRet (tLst (tCons (tVar 4) (tCons (tVar 5) (tCons (tVar 4) tNil)))))
 tNext) tNext)
 (tSeq (tIfS (tTest (tOp rEq (tOp (rI (fun _ j => 0 < j) fun i j => .int (i % j)) (tVar 1) (tC (.int 6))) (tC (.int 4)))) (tSeq (tRet (tLst (tCons (tVar 4) (tCons (tOp (rI0 fun i j => .int (i + j)) (tOp (rI0 fun i j => .int (i - j)) (tVar 0) (tC (.int 1))) (tVar 2)) tNil))))
 tNext) tNext)
 (tSeq (tRet (tLst (tCons (tOp (rI0 fun i j => .int (i - j)) (tUn (rU fun i => .int (-i)) (tC (.int 1))) (tVar 2)) (tCons (tVar 4) tNil))))
 tNext)))))))))

def t_l_creases_good (K : PySem.W.Frag) (c : Cs) (E : XK) : TS :=
 (tSeq (tIfS (tTest (tOp (rI0 fun i j => .bl (decide (i < j))) (tLenSet K (tVar 1)) (tCB (rLenS K) (tCons (tVar 1) tNil)))) (tSeq (tRet (tC (.bl false)))
 tNext) tNext)
 (tSeq (tRet (tOp (rEqD K) (tLc (iList K (tVar 1)) (gName 2) (tOr (tTest (tOp (rI0 fun i j => .bl (decide (i < j))) (tVar 2) (tC (.int 0)))) (tTest (tOp (rI0 fun i j => .bl (decide (j < i))) (tVar 2) (tOp (rI0 fun i j => .int (i - j)) (tVar 0) (tC (.int 2)))))) (tVar 2) [2]) (tLst tNil)))
 tNext))

def t_l_asked9 (K : PySem.W.Frag) (c : Cs) (E : XK) : TS :=
 (tCut (tIfS (tTest (tOp rEq (tVar 0) (tC (.int 0)))) (tSeq (tDrop (tCall (sp_places K c) [] E (tCons (tVar 1) tNil)))
 tNext) tNext)
 (tCut (tIfS (tTest (tOp rEq (tVar 0) (tC (.int 1)))) (tSeq (tDrop (tCall (sp_letters K c) [] E (tCons (tVar 1) tNil)))
 tNext) tNext)
 (tCut (tIfS (tTest (tOp rEq (tVar 0) (tC (.int 2)))) (tSeq (tDrop (tCall (sp_turned K c) [] E (tCons (tVar 1) (tCons (tOp (rI CMul fun i j => .int (i * j)) (tOp (rI (fun _ j => 0 < j) fun i j => .int (i % j)) (tCB (rLenS K) (tCons (tVar 2) tNil)) (tC (.int 2))) (tC (.int 2))) tNil))))
 tNext) tNext)
 (tCut (tIfS (tTest (tOp rEq (tVar 0) (tC (.int 3)))) (tSeq (tDrop (tCall (sp_crossing K c) [] E (tCons (tVar 1) tNil)))
 tNext) tNext)
 (tCut (tIfS (tTest (tOp rEq (tVar 0) (tC (.int 4)))) (tSeq (tDrop (tCall (sp_free K c) [] E (tCons (tVar 1) (tCons (tVar 2) tNil))))
 tNext) tNext)
 (tCut (tIfS (tTest (tOp rEq (tVar 0) (tC (.int 5)))) (tSeq (tDrop (tCall (sp_opening K c) [] E (tCons (tVar 1) tNil)))
 tNext) tNext)
 (tCut (tIfS (tTest (tOp rEq (tVar 0) (tC (.int 6)))) (tSeq (tDrop (tMake c.be (sp_Bench_init K c) [] E (tCons (tVar 1) tNil)))
 tNext) tNext)
 tNext)))))))

def t_l_kinds (K : PySem.W.Frag) (c : Cs) (E : XK) (a : Addr) (cls : Value) (d : Option Addr) : TS :=
 (tSeq (tAsg (tLst (tCons (tCB (rIsX K a cls d) (tCons (tVar 0) (tCons (tC (.ref c.np)) tNil))) (tCons (tCB (rIsX K a cls d) (tCons (tVar 0) (tCons (tC (.ref c.cr)) tNil))) (tCons (tCB (rIsX K a cls d) (tCons (tVar 0) (tCons (tC (.ref c.nc)) tNil))) (tCons (tCB (rIsX K a cls d) (tCons (tVar 0) (tCons (tC (.ref c.nl)) tNil))) tNil))))) (gName 1))
 (tSeq (tRet (tOp rCat (tVar 1) (tLst (tCons (tCB (rIsX K a cls d) (tCons (tVar 0) (tCons (tC (.ref c.nn)) tNil))) (tCons (tCB (rIsX K a cls d) (tCons (tVar 0) (tCons (tC (.ref c.st)) tNil))) (tCons (tNotV (tCB (rIsX K a cls d) (tCons (tVar 0) (tCons (tC (.ty "ValueError")) tNil)))) tNil))))))
 tNext))

def t_l_due_kinds (K : PySem.W.Frag) (c : Cs) (E : XK) : TS :=
 (tSeq (tRet (tLc (iRng1 (tCons (tC (.int 7)) tNil)) (gName 1) tYes (tOp rEq (tVar 1) (tVar 0)) [1]))
 tNext)

def t_l_row9 (K : PySem.W.Frag) (c : Cs) (E : XK) : TS :=
 (tSeq (tAsg (tCall (sp_l_number K c) [] E (tCons (tVar 0) (tCons (tC (.int 5)) tNil))) (gName 1))
 (tSeq (tAsg (tLst tNil) (gName 2))
 (tSeq (tFor (iRng1 (tCons (tOp (rI (fun _ j => 0 < j) fun i j => .int (i % j)) (tVar 1) (tC (.int 13))) tNil)) (gName 3) (tSeq (tDrop (tBM K "list" rAppend (tVar 2) (tCons (tOp (rIxL K) (tLst (tCons (tC (.str "V")) (tCons (tC (.str "M")) tNil))) (tOp (rI (fun _ j => 0 < j) fun i j => .int (i % j)) (tOp (rI CDiv fun i j => .int (i / j)) (tCall (sp_l_number K c) [] E (tCons (tVar 0) (tCons (tOp (rI0 fun i j => .int (i + j)) (tC (.int 8)) (tVar 3)) tNil))) (tC (.int 5))) (tC (.int 2)))) tNil)))
 tNext))
 (tSeq (tIfS (tAnd (tTest (tOp rEq (tOp (rI (fun _ j => 0 < j) fun i j => .int (i % j)) (tOp (rI CDiv fun i j => .int (i / j)) (tVar 1) (tC (.int 13))) (tC (.int 2))) (tC (.int 1)))) (tTest (tOp (rNeD K) (tVar 2) (tLst tNil)))) (tSeq (tAsg (tOp rIxS (tC (.str " !0AvmNWLU^_\"'-.~")) (tOp (rI (fun _ j => 0 < j) fun i j => .int (i % j)) (tCall (sp_l_number K c) [] E (tCons (tVar 0) (tCons (tC (.int 6)) tNil))) (tC (.int 17)))) (gSub (tVar 2) (tOp (rI (fun _ j => 0 < j) fun i j => .int (i % j)) (tOp (rI CDiv fun i j => .int (i / j)) (tVar 1) (tC (.int 26))) (tCB (rLenS K) (tCons (tVar 2) tNil))) rSetL))
 tNext) tNext)
 (tSeq (tRet (tBM K "str" (rJoin K) (tC (.str "")) (tCons (tVar 2) tNil)))
 tNext)))))
end Fo
/-! FoldR1 -/
namespace Fo
open PySem L2 Evl
local macro_rules | `(tactic| walk_at "hl") => `(tactic| first
  | assumption
  | exact upd_same
  | (refine (by assumption : Ex _ _) _ _ ?_; walk_at "hl"))
local macro_rules | `(tactic| walk_at "sq") => `(tactic| first
  | assumption
  | (refine sq_lst ?_; walk_at "hl")
  | (refine ex_l (by assumption) ?_; walk_at "sq"))
local macro_rules | `(tactic| walk_at "st") => `(tactic| first
  | assumption
  | (refine st_of ?_; walk_at "hl")
  | (refine ex_t (by assumption) ?_; walk_at "st"))
local macro_rules | `(tactic| walk_at "sq2") => `(tactic| first
  | assumption
  | (refine Or.inl ?_; walk_at "sq")
  | (refine Or.inr ?_; walk_at "st")
  | (refine Sq2.mono (by assumption) ?_; walk_at "sq2"))
local macro_rules | `(tactic| walk_at "ar") => `(tactic| first
  | assumption
  | omega
  | decide)
local macro_rules | `(tactic| walk_at "lar") => `(tactic| first
  | omega
  | (simp only [List.length_append, List.length_map, List.length_take, List.length_drop, List.length_cons, List.length_nil, List.length_replicate]; omega))
local macro_rules | `(tactic| walk_at "hb") => `(tactic| first
  | skip)
local macro_rules | `(tactic| walk_at "mul") => `(tactic| first
  | (exact Or.inr ⟨by decide, by decide⟩)
  | (exact Or.inl ⟨by decide, by decide⟩)
  | (exact Or.inl ⟨by omega, by omega⟩)
  | (exact Or.inr ⟨by omega, by omega⟩))
local macro_rules | `(tactic| walk_at "div") => `(tactic| first
  | (exact ⟨by decide, by decide⟩)
  | (exact ⟨by omega, by omega⟩))
local macro_rules | `(tactic| walk_at "ea") => `(tactic| first
  | exact ea_nil
  | ((with_reducible refine' ea_cons ?k0 ?k1); (case k0 => walk_at "ev"); (case k1 => walk_at "ea")))
local macro_rules | `(tactic| walk_at "eo") => `(tactic| first
  | exact eo_none
  | ((with_reducible refine' eo_some ?k0); (case k0 => walk_at "ev")))
local macro_rules | `(tactic| walk_at "el") => `(tactic| first
  | ((with_reducible refine' el_lst ?k0 ?k1); (case k0 => walk_at "ea"); (case k1 => (exact Nat.le_of_ble_eq_true rfl)))
  | ((with_reducible refine' el_from ?k0 ?k1 ?k2 ?k3 ?k4); (case k0 => walk_at "ev"); (case k1 => walk_at "eo"); (case k2 => walk_at "sq"); (case k3 => walk_at "ar"); (case k4 => walk_at "lar"))
  | ((with_reducible refine' el_upto ?k0 ?k1 ?k2 ?k3 ?k4); (case k0 => walk_at "ev"); (case k1 => walk_at "eo"); (case k2 => walk_at "sq"); (case k3 => walk_at "ar"); (case k4 => walk_at "lar"))
  | ((with_reducible refine' el_rep1 ?k0 ?k1 ?k2 ?k3); (case k0 => walk_at "el"); (case k1 => walk_at "ev"); (case k2 => walk_at "ar"); (case k3 => walk_at "ar"))
  | ((with_reducible refine' el_cat ?k0 ?k1 ?k2); (case k0 => walk_at "el"); (case k1 => walk_at "el"); (case k2 => walk_at "lar"))
  | ((with_reducible refine' el_callD ?k0 ?k1); (case k0 => walk_at "ea"); (case k1 => walk_at "sp"))
  | ((with_reducible refine' el_list ?k0 ?k1); (case k0 => walk_at "ev"); (case k1 => walk_at "sq"))
  | ((with_reducible refine' el_srt ?k0 ?k1); (case k0 => walk_at "ev"); (case k1 => walk_at "sq"))
  | ((with_reducible refine' el_sortedQ ?k0 ?k1); (case k0 => walk_at "ev"); (case k1 => walk_at "sq2"))
  | ((with_reducible refine' el_rev ?k0 ?k1); (case k0 => walk_at "ev"); (case k1 => walk_at "sq"))
  | ((with_reducible refine' el_step ?k0 ?k1 ?k2); (case k0 => walk_at "ev"); (case k1 => walk_at "eo"); (case k2 => walk_at "sq")))
local macro_rules | `(tactic| walk_at "et") => `(tactic| first
  | ((with_reducible refine' et_test ?k0); (case k0 => walk_at "ev"))
  | ((with_reducible refine' et_B ?k0); (case k0 => walk_at "ev"))
  | ((with_reducible refine' et_not ?k0); (case k0 => walk_at "et"))
  | ((with_reducible refine' et_and ?k0 (fun hb => ?k1)); (case k0 => walk_at "et"); (case k1 => (walk_at "hb"; walk_at "et")))
  | ((with_reducible refine' et_or ?k0 (fun hb => ?k1)); (case k0 => walk_at "et"); (case k1 => (walk_at "hb"; walk_at "et"))))
local macro_rules | `(tactic| walk_at "ev") => `(tactic| first
  | ((with_reducible refine' ev_var ?k0); (case k0 => rfl))
  | exact ev_c
  | ((with_reducible refine' ev_add ?k0 ?k1); (case k0 => walk_at "ev"); (case k1 => walk_at "ev"))
  | ((with_reducible refine' ev_sub ?k0 ?k1); (case k0 => walk_at "ev"); (case k1 => walk_at "ev"))
  | ((with_reducible refine' ev_ixI ?k0 ?k1 ?k2 ?k3 ?k4); (case k0 => walk_at "ev"); (case k1 => walk_at "ev"); (case k2 => walk_at "sq"); (case k3 => walk_at "ar"); (case k4 => walk_at "ar"))
  | ((with_reducible refine' ev_ixT ?k0 ?k1 ?k2 ?k3); (case k0 => walk_at "ev"); (case k1 => walk_at "ev"); (case k2 => walk_at "st"); (case k3 => rfl))
  | ((with_reducible refine' ev_lt ?k0 ?k1); (case k0 => walk_at "ev"); (case k1 => walk_at "ev"))
  | ((with_reducible refine' ev_gt ?k0 ?k1); (case k0 => walk_at "ev"); (case k1 => walk_at "ev"))
  | ((with_reducible refine' ev_le ?k0 ?k1); (case k0 => walk_at "ev"); (case k1 => walk_at "ev"))
  | ((with_reducible refine' ev_ge ?k0 ?k1); (case k0 => walk_at "ev"); (case k1 => walk_at "ev"))
  | ((with_reducible refine' ev_eqI ?k0 ?k1); (case k0 => walk_at "ev"); (case k1 => walk_at "ev"))
  | ((with_reducible refine' ev_neI ?k0 ?k1); (case k0 => walk_at "ev"); (case k1 => walk_at "ev"))
  | ((with_reducible refine' ev_eqB ?k0 ?k1); (case k0 => walk_at "ev"); (case k1 => walk_at "ev"))
  | ((with_reducible refine' ev_neB ?k0 ?k1); (case k0 => walk_at "ev"); (case k1 => walk_at "ev"))
  | ((with_reducible refine' ev_eqS ?k0 ?k1); (case k0 => walk_at "ev"); (case k1 => walk_at "ev"))
  | ((with_reducible refine' ev_neS ?k0 ?k1); (case k0 => walk_at "ev"); (case k1 => walk_at "ev"))
  | ((with_reducible refine' ev_mod ?k0 ?k1 ?k2); (case k0 => walk_at "ev"); (case k1 => walk_at "ev"); (case k2 => walk_at "ar"))
  | ((with_reducible refine' ev_mul ?k0 ?k1 ?k2); (case k0 => walk_at "ev"); (case k1 => walk_at "ev"); (case k2 => walk_at "mul"))
  | ((with_reducible refine' ev_div ?k0 ?k1 ?k2); (case k0 => walk_at "ev"); (case k1 => walk_at "ev"); (case k2 => walk_at "div"))
  | ((with_reducible refine' ev_neg ?k0); (case k0 => walk_at "ev"))
  | ((with_reducible refine' ev_callD ?k0 ?k1); (case k0 => walk_at "ea"); (case k1 => walk_at "sp"))
  | ((with_reducible refine' ev_lenI ?k0 ?k1); (case k0 => walk_at "ev"); (case k1 => walk_at "sq"))
  | ((with_reducible refine' ev_lenQ ?k0 ?k1); (case k0 => walk_at "ev"); (case k1 => walk_at "sq2"))
  | ((with_reducible refine' ev_lenSet ?k0 ?k1 ?k2); (case k0 => walk_at "ev"); (case k1 => walk_at "sq2"); (case k2 => walk_at "ar"))
  | ((with_reducible refine' ev_inI ?k0 ?k1 ?k2); (case k0 => walk_at "ev"); (case k1 => walk_at "ev"); (case k2 => walk_at "sq2"))
  | ((with_reducible refine' ev_notInI ?k0 ?k1 ?k2); (case k0 => walk_at "ev"); (case k1 => walk_at "ev"); (case k2 => walk_at "sq2"))
  | ((with_reducible refine' ev_lenTxt ?k0 ?k1); (case k0 => walk_at "ev"); (case k1 => walk_at "ar"))
  | ((with_reducible refine' ev_lenS ?k0 ?k1); (case k0 => walk_at "ev"); (case k1 => walk_at "ar"))
  | ((with_reducible refine' ev_ixTxt ?k0 ?k1 ?k2 ?k3 ?k4); (case k0 => walk_at "ev"); (case k1 => walk_at "ev"); (case k2 => walk_at "ar"); (case k3 => walk_at "ar"); (case k4 => walk_at "ar"))
  | ((with_reducible refine' ev_ix2 ?k0); (case k0 => walk_at "ev"))
  | ((with_reducible refine' ev_isiI ?k0); (case k0 => walk_at "ev"))
  | ((with_reducible refine' ev_isiL ?k0 ?k1); (case k0 => walk_at "ev"); (case k1 => walk_at "hl"))
  | ((with_reducible refine' ev_isiU ?k0 ?k1); (case k0 => walk_at "ev"); (case k1 => walk_at "hl"))
  | ((with_reducible refine' ev_isiS ?k0); (case k0 => walk_at "ev"))
  | ((with_reducible refine' ev_isiB ?k0); (case k0 => walk_at "ev"))
  | ((with_reducible refine' ev_isN ?k0); (case k0 => walk_at "ev"))
  | ((with_reducible refine' ev_notN ?k0); (case k0 => walk_at "ev"))
  | ((with_reducible refine' ev_notIB ?k0 ?k1); (case k0 => walk_at "ev"); (case k1 => walk_at "ev"))
  | ((with_reducible refine' ev_neNil ?k0 ?k1); (case k0 => walk_at "ev"); (case k1 => walk_at "sq"))
  | ((with_reducible refine' ev_eqNil ?k0 ?k1); (case k0 => walk_at "ev"); (case k1 => walk_at "sq"))
  | ((with_reducible refine' ev_eqL ?k0 ?k1 ?k2 ?k3); (case k0 => walk_at "ev"); (case k1 => walk_at "ev"); (case k2 => walk_at "sq"); (case k3 => walk_at "sq"))
  | ((with_reducible refine' ev_neL ?k0 ?k1 ?k2 ?k3); (case k0 => walk_at "ev"); (case k1 => walk_at "ev"); (case k2 => walk_at "sq"); (case k3 => walk_at "sq"))
  | ((with_reducible refine' ev_min2 ?k0 ?k1); (case k0 => walk_at "ev"); (case k1 => walk_at "ev"))
  | ((with_reducible refine' ev_max2 ?k0 ?k1); (case k0 => walk_at "ev"); (case k1 => walk_at "ev"))
  | ((with_reducible refine' ev_intB ?k0); (case k0 => walk_at "ev"))
  | ((with_reducible refine' ev_andV ?k0 (fun hb => ?k1)); (case k0 => walk_at "ev"); (case k1 => (walk_at "hb"; walk_at "ev")))
  | ((with_reducible refine' ev_orV ?k0 (fun hb => ?k1)); (case k0 => walk_at "ev"); (case k1 => (walk_at "hb"; walk_at "ev")))
  | ((with_reducible refine' ev_notV ?k0); (case k0 => walk_at "ev"))
  | ((with_reducible refine' ev_ifI ?k0 (fun hb => ?k1) (fun hb => ?k2)); (case k0 => walk_at "et"); (case k1 => (walk_at "hb"; walk_at "ev")); (case k2 => (walk_at "hb"; walk_at "ev")))
  | ((with_reducible refine' ev_ifS ?k0 (fun hb => ?k1) (fun hb => ?k2)); (case k0 => walk_at "et"); (case k1 => (walk_at "hb"; walk_at "ev")); (case k2 => (walk_at "hb"; walk_at "ev"))))
local macro_rules | `(tactic| walk_at "hb") => `(tactic| (try simp only [decide_eq_true_eq, decide_eq_false_iff_not, Bool.and_eq_true, Bool.or_eq_true, Bool.or_eq_false_iff, Bool.not_eq_true', Bool.not_eq_false', beq_iff_eq] at *))
local macro_rules | `(tactic| walk_at "sp") => `(tactic| first
  | (refine' v_number ?k0 ?k1 ?k2; (case k0 => walk_at "sq"); (case k1 => walk_at "ar"); (case k2 => walk_at "ar"))
  | (refine' v_drawn ?k0 ?k1; (case k0 => walk_at "sq"); (case k1 => walk_at "ar"))
  | exact v_size
  | exact v_counts
  | (refine' v_wraps ?k0 ?k1 ?k2 ?k3 ?k4; (case k0 => walk_at "sq"); (case k1 => walk_at "ar"); (case k2 => walk_at "ar"); (case k3 => walk_at "ar"); (case k4 => walk_at "ar"))
  | (refine' v_l_wraps ?k0 ?k1 ?k2 ?k3 ?k4; (case k0 => walk_at "sq"); (case k1 => walk_at "ar"); (case k2 => walk_at "ar"); (case k3 => walk_at "ar"); (case k4 => walk_at "ar"))
  | (refine' v_cross ?k0 ?k1 ?k2 ?k3 ?k4; (case k0 => walk_at "sq"); (case k1 => walk_at "ar"); (case k2 => walk_at "ar"); (case k3 => walk_at "ar"); (case k4 => walk_at "ar"))
  | (refine' v_places ?k0 ?k1 ?k2; (case k0 => walk_at "sq"); (case k1 => walk_at "ar"); (case k2 => assumption))
  | (refine' v_letters ?k0 ?k1 ?k2; (case k0 => walk_at "sq"); (case k1 => walk_at "ar"); (case k2 => assumption))
  | (refine' v_l_places ?k0 ?k1 ?k2; (case k0 => walk_at "sq"); (case k1 => walk_at "ar"); (case k2 => assumption))
  | (refine' v_fits ?k0 ?k1 ?k2 ?k3; (case k0 => walk_at "sq"); (case k1 => walk_at "ar"); (case k2 => walk_at "ar"); (case k3 => walk_at "ar"))
  | (refine' v_none ?k0 ?k1 ?k2; (case k0 => walk_at "sq"); (case k1 => walk_at "ar"); (case k2 => walk_at "ar")))
local macro_rules | `(tactic| walk_at "sp") => `(tactic| first
  | (refine' v_turned ?k0 ?k1 ?k2; (case k0 => walk_at "sq"); (case k1 => walk_at "ar"); (case k2 => assumption))
  | (refine' v_same ?k0 ?k1 ?k2; (case k0 => walk_at "hl"); (case k1 => walk_at "sq"); (case k2 => walk_at "ar"))
  | (refine' v_told ?k0 ?k1 ?k2; (case k0 => walk_at "sq"); (case k1 => walk_at "hl"); (case k2 => assumption))
  | (refine' v_parted ?k0 ?k1 ?k2 ?k3; (case k0 => walk_at "sq"); (case k1 => walk_at "ar"); (case k2 => walk_at "ar"); (case k3 => assumption)))
local macro_rules | `(tactic| walk_at "sp") => `(tactic| first
  | (refine' v_is_pile ?k0 ?k1 ?k2 ?k3; (case k0 => walk_at "hl"); (case k1 => assumption); (case k2 => walk_at "ar"); (case k3 => walk_at "ar")))
local macro_rules | `(tactic| walk_at "sp") => `(tactic| first
  | (refine' v_held ?k0 ?k1 ?k2 ?k3 ?k4 ?k5; (case k0 => walk_at "sq"); (case k1 => walk_at "st"); (case k2 => walk_at "ar"); (case k3 => (refine ⟨?_, ?_⟩ <;> walk_at "ar")); (case k4 => (refine ⟨?_, ?_⟩ <;> walk_at "ar")); (case k5 => (refine ⟨?_, ?_⟩ <;> walk_at "ar")))
  | (refine' v_l_held ?k0 ?k1 ?k2 ?k3 ?k4; (case k0 => walk_at "sq"); (case k1 => walk_at "ar"); (case k2 => (refine ⟨?_, ?_⟩ <;> walk_at "ar")); (case k3 => (refine ⟨?_, ?_⟩ <;> walk_at "ar")); (case k4 => (refine ⟨?_, ?_⟩ <;> walk_at "ar")))
  | (refine' v_lies ?k0 ?k1 ?k2 ?k3 ?k4; (case k0 => walk_at "sq"); (case k1 => walk_at "st"); (case k2 => walk_at "ar"); (case k3 => (refine ⟨?_, ?_⟩ <;> walk_at "ar")); (case k4 => (refine ⟨?_, ?_⟩ <;> walk_at "ar")))
  | (refine' v_judged ?k0 ?k1 ?k2 ?k3; (case k0 => walk_at "sq"); (case k1 => walk_at "ar"); (case k2 => assumption); (case k3 => assumption))
  | (refine' v_l_free ?k0 ?k1 ?k2 ?k3 ?k4 ?k5; (case k0 => walk_at "sq"); (case k1 => walk_at "sq"); (case k2 => walk_at "ar"); (case k3 => walk_at "ar"); (case k4 => walk_at "ar"); (case k5 => assumption))
  | (refine' v_are_free ?k0 ?k1 ?k2 ?k3 ?k4 ?k5; (case k0 => walk_at "sq"); (case k1 => walk_at "sq2"); (case k2 => walk_at "ar"); (case k3 => walk_at "ar"); (case k4 => walk_at "ar"); (case k5 => assumption)))
section
variable {K : PySem.W.Frag} {c : Cs}
local macro_rules | `(tactic| walk_at "hb") => `(tactic| (try simp only [decide_eq_true_eq, decide_eq_false_iff_not, Bool.and_eq_true, Bool.or_eq_true, Bool.or_eq_false_iff, Bool.not_eq_true', Bool.not_eq_false', beq_iff_eq] at *))

theorem read_l_drawn (vs : List V) (H : Hp) (Q : VK) (E : XK) (h : sp_l_drawn K c vs H Q E) : t_l_drawn K c E { nx := fun _ H' => Q .non H', rt := Q } (start ["_law_script", "_law_k"] vs) H := by
  obtain ⟨a, ns, k, rfl, hS, h0, q⟩ := h
  refine Go.here (g_ret (v := .int (gi ns k)) ?_ q)
  have e : gi ns k = (if decide (k < (ns.length : Int)) = true then gi ns k else 0) := by
    by_cases hk : k < (ns.length : Int)
    · rw [if_pos (decide_eq_true hk)]
    · rw [if_neg (by rw [decide_eq_false hk]; decide)]
      unfold gi
      rw [List.getD_eq_getElem?_getD, List.getElem?_eq_none (by omega)]
      rfl
  rw [e]
  walk_at "ev"

theorem read_l_number (vs : List V) (H : Hp) (Q : VK) (E : XK) (h : sp_l_number K c vs H Q E) : t_l_number K c E { nx := fun _ H' => Q .non H', rt := Q } (start ["_law_script", "_law_k", "_law_cell"] vs) H := by
  obtain ⟨a, ns, k, rfl, hS, h0, h1, q⟩ := h
  have hk : k * k * 7919 + k = k * k * 7919 + k := rfl
  refine Go.here (g_asg (v := .int (k * k * 7919 + k)) (ev_add (ev_mul (ev_mul (ev_var rfl) (ev_var rfl) (.inl ⟨by omega, by omega⟩)) ev_c (.inr ⟨by decide, by decide⟩)) (ev_var rfl)) ?_)
  refine g_if (b := decide (k < (ns.length : Int))) (by walk_at "et") (fun hb => ?_) (fun hb => ?_)
  · have hb' := of_decide_eq_true hb
    refine g_asg (v := .int (gi ns k)) (by walk_at "ev") (g_nextS ?_)
    refine g_ret (v := .int (numb ns k)) ?_ q
    unfold numb
    rw [if_pos hb']
    exact ev_mod (ev_mul (ev_var rfl) ev_c (.inr ⟨by decide, by decide⟩)) ev_c (by decide)
  · have hb' := of_decide_eq_false hb
    refine g_when (b := !decide (ns = [])) (by walk_at "et") (fun hn => ?_) (fun hn => ?_)
    · have hn' : ns ≠ [] := by simpa using hn
      have hl : 0 < ns.length := List.length_pos_iff.mpr hn'
      refine g_asg (v := .int (k * k * 7919 + k + gi ns (k % (ns.length : Int)))) ?_ (g_nextS (g_nextS ?_))
      · have m0 : 0 ≤ k % (ns.length : Int) := Int.emod_nonneg _ (by omega)
        have m1 : k % (ns.length : Int) < (ns.length : Int) := Int.emod_lt_of_pos _ (by omega)
        walk_at "ev"
      · refine g_ret (v := .int (numb ns k)) ?_ q
        unfold numb
        rw [if_neg hb', if_neg hn']
        exact ev_mod (ev_mul (ev_var rfl) ev_c (.inr ⟨by decide, by decide⟩)) ev_c (by decide)
    · have hn' : ns = [] := by simpa using hn
      refine g_nextS ?_
      refine g_ret (v := .int (numb ns k)) ?_ q
      unfold numb
      rw [if_neg hb', if_pos hn']
      exact ev_mod (ev_mul (ev_var rfl) ev_c (.inr ⟨by decide, by decide⟩)) ev_c (by decide)

theorem read_l_counts (vs : List V) (H : Hp) (Q : VK) (E : XK) (h : sp_l_counts K c vs H Q E) : t_l_counts K c E { nx := fun _ H' => Q .non H', rt := Q } (start ["_law_thing"] vs) H := by
  obtain ⟨i, rfl, q⟩ := h
  refine Go.here (g_ret (v := .bl (true && (true && true))) (ev_andV (ev_isi (tt := .type "int") (x := .int i) (ev_var rfl) (fun H1 _ => .base (.int i)) (kit_ty (by decide +kernel))) (fun _ => ev_andV (ev_notIB (ev_var rfl) ev_c) fun _ => ev_notIB (ev_var rfl) ev_c)) q)

theorem read_l_size (hc : c.sz = [6, 9, 17, 9, 17, 12, 30, 100]) (vs : List V) (H : Hp) (Q : VK) (E : XK) (h : sp_l_size K c vs H Q E) : t_l_size K c E { nx := fun _ H' => Q .non H', rt := Q } (start ["_law_cell"] vs) H := by
  obtain ⟨x, rfl, q⟩ := h
  have h0 : 0 ≤ x % 8 := Int.emod_nonneg _ (by decide)
  have h1 : x % 8 < 8 := Int.emod_lt_of_pos _ (by decide)
  have hb : 0 < gi c.sz (x % 8) := by
    rw [hc]
    have hm := gi_mem (ns := [6, 9, 17, 9, 17, 12, 30, 100]) h0 (by show x % 8 < 8; exact h1)
    simp only [List.mem_cons, List.not_mem_nil, or_false] at hm
    omega
  have hd : Ev (tOp (rIxL K) (tLst (tCons (tC (.int 6)) (tCons (tC (.int 9)) (tCons (tC (.int 17)) (tCons (tC (.int 9)) (tCons (tC (.int 17)) (tCons (tC (.int 12)) (tCons (tC (.int 30)) (tCons (tC (.int 100)) tNil))))))))) (tOp (rI (fun _ j => 0 < j) fun i j => .int (i % j)) (tVar 0) (tC (.int 8)))) (start ["_law_cell"] [.int x]) H (.int (gi c.sz (x % 8))) := by
    rw [hc]
    refine ev_ixNew (xs := [.int 6, .int 9, .int 17, .int 9, .int 17, .int 12, .int 30, .int 100]) (el_lst (by walk_at "ea") (by decide)) (ev_mod (ev_var rfl) ev_c (by decide)) (gi_at (ns := [6, 9, 17, 9, 17, 12, 30, 100]) h0 ?_)
    show x % 8 < 8
    exact h1
  exact Go.here (g_ret (v := .int (szf c.sz x)) (ev_add ev_c (ev_mod (ev_div (ev_var rfl) ev_c ⟨by decide, by decide⟩) hd hb)) q)
end
end Fo
/-! FoldR2 -/
namespace Fo
open PySem L2 Evl
local macro_rules | `(tactic| walk_at "hl") => `(tactic| first
  | assumption
  | exact upd_same
  | (refine (by assumption : Ex _ _) _ _ ?_; walk_at "hl"))
local macro_rules | `(tactic| walk_at "sq") => `(tactic| first
  | assumption
  | (refine sq_lst ?_; walk_at "hl")
  | (refine ex_l (by assumption) ?_; walk_at "sq"))
local macro_rules | `(tactic| walk_at "st") => `(tactic| first
  | assumption
  | (refine st_of ?_; walk_at "hl")
  | (refine ex_t (by assumption) ?_; walk_at "st"))
local macro_rules | `(tactic| walk_at "sq2") => `(tactic| first
  | assumption
  | (refine Or.inl ?_; walk_at "sq")
  | (refine Or.inr ?_; walk_at "st")
  | (refine Sq2.mono (by assumption) ?_; walk_at "sq2"))
local macro_rules | `(tactic| walk_at "ar") => `(tactic| first
  | assumption
  | omega
  | decide)
local macro_rules | `(tactic| walk_at "lar") => `(tactic| first
  | omega
  | (simp only [List.length_append, List.length_map, List.length_take, List.length_drop, List.length_cons, List.length_nil, List.length_replicate]; omega))
local macro_rules | `(tactic| walk_at "hb") => `(tactic| first
  | skip)
local macro_rules | `(tactic| walk_at "mul") => `(tactic| first
  | (exact Or.inr ⟨by decide, by decide⟩)
  | (exact Or.inl ⟨by decide, by decide⟩)
  | (exact Or.inl ⟨by omega, by omega⟩)
  | (exact Or.inr ⟨by omega, by omega⟩))
local macro_rules | `(tactic| walk_at "div") => `(tactic| first
  | (exact ⟨by decide, by decide⟩)
  | (exact ⟨by omega, by omega⟩))
local macro_rules | `(tactic| walk_at "ea") => `(tactic| first
  | exact ea_nil
  | ((with_reducible refine' ea_cons ?k0 ?k1); (case k0 => walk_at "ev"); (case k1 => walk_at "ea")))
local macro_rules | `(tactic| walk_at "eo") => `(tactic| first
  | exact eo_none
  | ((with_reducible refine' eo_some ?k0); (case k0 => walk_at "ev")))
local macro_rules | `(tactic| walk_at "el") => `(tactic| first
  | ((with_reducible refine' el_lst ?k0 ?k1); (case k0 => walk_at "ea"); (case k1 => (exact Nat.le_of_ble_eq_true rfl)))
  | ((with_reducible refine' el_from ?k0 ?k1 ?k2 ?k3 ?k4); (case k0 => walk_at "ev"); (case k1 => walk_at "eo"); (case k2 => walk_at "sq"); (case k3 => walk_at "ar"); (case k4 => walk_at "lar"))
  | ((with_reducible refine' el_upto ?k0 ?k1 ?k2 ?k3 ?k4); (case k0 => walk_at "ev"); (case k1 => walk_at "eo"); (case k2 => walk_at "sq"); (case k3 => walk_at "ar"); (case k4 => walk_at "lar"))
  | ((with_reducible refine' el_rep1 ?k0 ?k1 ?k2 ?k3); (case k0 => walk_at "el"); (case k1 => walk_at "ev"); (case k2 => walk_at "ar"); (case k3 => walk_at "ar"))
  | ((with_reducible refine' el_cat ?k0 ?k1 ?k2); (case k0 => walk_at "el"); (case k1 => walk_at "el"); (case k2 => walk_at "lar"))
  | ((with_reducible refine' el_callD ?k0 ?k1); (case k0 => walk_at "ea"); (case k1 => walk_at "sp"))
  | ((with_reducible refine' el_list ?k0 ?k1); (case k0 => walk_at "ev"); (case k1 => walk_at "sq"))
  | ((with_reducible refine' el_srt ?k0 ?k1); (case k0 => walk_at "ev"); (case k1 => walk_at "sq"))
  | ((with_reducible refine' el_sortedQ ?k0 ?k1); (case k0 => walk_at "ev"); (case k1 => walk_at "sq2"))
  | ((with_reducible refine' el_rev ?k0 ?k1); (case k0 => walk_at "ev"); (case k1 => walk_at "sq"))
  | ((with_reducible refine' el_step ?k0 ?k1 ?k2); (case k0 => walk_at "ev"); (case k1 => walk_at "eo"); (case k2 => walk_at "sq")))
local macro_rules | `(tactic| walk_at "et") => `(tactic| first
  | ((with_reducible refine' et_test ?k0); (case k0 => walk_at "ev"))
  | ((with_reducible refine' et_B ?k0); (case k0 => walk_at "ev"))
  | ((with_reducible refine' et_not ?k0); (case k0 => walk_at "et"))
  | ((with_reducible refine' et_and ?k0 (fun hb => ?k1)); (case k0 => walk_at "et"); (case k1 => (walk_at "hb"; walk_at "et")))
  | ((with_reducible refine' et_or ?k0 (fun hb => ?k1)); (case k0 => walk_at "et"); (case k1 => (walk_at "hb"; walk_at "et"))))
local macro_rules | `(tactic| walk_at "ev") => `(tactic| first
  | ((with_reducible refine' ev_var ?k0); (case k0 => rfl))
  | exact ev_c
  | ((with_reducible refine' ev_add ?k0 ?k1); (case k0 => walk_at "ev"); (case k1 => walk_at "ev"))
  | ((with_reducible refine' ev_sub ?k0 ?k1); (case k0 => walk_at "ev"); (case k1 => walk_at "ev"))
  | ((with_reducible refine' ev_ixI ?k0 ?k1 ?k2 ?k3 ?k4); (case k0 => walk_at "ev"); (case k1 => walk_at "ev"); (case k2 => walk_at "sq"); (case k3 => walk_at "ar"); (case k4 => walk_at "ar"))
  | ((with_reducible refine' ev_ixT ?k0 ?k1 ?k2 ?k3); (case k0 => walk_at "ev"); (case k1 => walk_at "ev"); (case k2 => walk_at "st"); (case k3 => rfl))
  | ((with_reducible refine' ev_lt ?k0 ?k1); (case k0 => walk_at "ev"); (case k1 => walk_at "ev"))
  | ((with_reducible refine' ev_gt ?k0 ?k1); (case k0 => walk_at "ev"); (case k1 => walk_at "ev"))
  | ((with_reducible refine' ev_le ?k0 ?k1); (case k0 => walk_at "ev"); (case k1 => walk_at "ev"))
  | ((with_reducible refine' ev_ge ?k0 ?k1); (case k0 => walk_at "ev"); (case k1 => walk_at "ev"))
  | ((with_reducible refine' ev_eqI ?k0 ?k1); (case k0 => walk_at "ev"); (case k1 => walk_at "ev"))
  | ((with_reducible refine' ev_neI ?k0 ?k1); (case k0 => walk_at "ev"); (case k1 => walk_at "ev"))
  | ((with_reducible refine' ev_eqB ?k0 ?k1); (case k0 => walk_at "ev"); (case k1 => walk_at "ev"))
  | ((with_reducible refine' ev_neB ?k0 ?k1); (case k0 => walk_at "ev"); (case k1 => walk_at "ev"))
  | ((with_reducible refine' ev_eqS ?k0 ?k1); (case k0 => walk_at "ev"); (case k1 => walk_at "ev"))
  | ((with_reducible refine' ev_neS ?k0 ?k1); (case k0 => walk_at "ev"); (case k1 => walk_at "ev"))
  | ((with_reducible refine' ev_mod ?k0 ?k1 ?k2); (case k0 => walk_at "ev"); (case k1 => walk_at "ev"); (case k2 => walk_at "ar"))
  | ((with_reducible refine' ev_mul ?k0 ?k1 ?k2); (case k0 => walk_at "ev"); (case k1 => walk_at "ev"); (case k2 => walk_at "mul"))
  | ((with_reducible refine' ev_div ?k0 ?k1 ?k2); (case k0 => walk_at "ev"); (case k1 => walk_at "ev"); (case k2 => walk_at "div"))
  | ((with_reducible refine' ev_neg ?k0); (case k0 => walk_at "ev"))
  | ((with_reducible refine' ev_callD ?k0 ?k1); (case k0 => walk_at "ea"); (case k1 => walk_at "sp"))
  | ((with_reducible refine' ev_lenI ?k0 ?k1); (case k0 => walk_at "ev"); (case k1 => walk_at "sq"))
  | ((with_reducible refine' ev_lenQ ?k0 ?k1); (case k0 => walk_at "ev"); (case k1 => walk_at "sq2"))
  | ((with_reducible refine' ev_lenSet ?k0 ?k1 ?k2); (case k0 => walk_at "ev"); (case k1 => walk_at "sq2"); (case k2 => walk_at "ar"))
  | ((with_reducible refine' ev_inI ?k0 ?k1 ?k2); (case k0 => walk_at "ev"); (case k1 => walk_at "ev"); (case k2 => walk_at "sq2"))
  | ((with_reducible refine' ev_notInI ?k0 ?k1 ?k2); (case k0 => walk_at "ev"); (case k1 => walk_at "ev"); (case k2 => walk_at "sq2"))
  | ((with_reducible refine' ev_lenTxt ?k0 ?k1); (case k0 => walk_at "ev"); (case k1 => walk_at "ar"))
  | ((with_reducible refine' ev_lenS ?k0 ?k1); (case k0 => walk_at "ev"); (case k1 => walk_at "ar"))
  | ((with_reducible refine' ev_ixTxt ?k0 ?k1 ?k2 ?k3 ?k4); (case k0 => walk_at "ev"); (case k1 => walk_at "ev"); (case k2 => walk_at "ar"); (case k3 => walk_at "ar"); (case k4 => walk_at "ar"))
  | ((with_reducible refine' ev_ix2 ?k0); (case k0 => walk_at "ev"))
  | ((with_reducible refine' ev_isiI ?k0); (case k0 => walk_at "ev"))
  | ((with_reducible refine' ev_isiL ?k0 ?k1); (case k0 => walk_at "ev"); (case k1 => walk_at "hl"))
  | ((with_reducible refine' ev_isiU ?k0 ?k1); (case k0 => walk_at "ev"); (case k1 => walk_at "hl"))
  | ((with_reducible refine' ev_isiS ?k0); (case k0 => walk_at "ev"))
  | ((with_reducible refine' ev_isiB ?k0); (case k0 => walk_at "ev"))
  | ((with_reducible refine' ev_isN ?k0); (case k0 => walk_at "ev"))
  | ((with_reducible refine' ev_notN ?k0); (case k0 => walk_at "ev"))
  | ((with_reducible refine' ev_notIB ?k0 ?k1); (case k0 => walk_at "ev"); (case k1 => walk_at "ev"))
  | ((with_reducible refine' ev_neNil ?k0 ?k1); (case k0 => walk_at "ev"); (case k1 => walk_at "sq"))
  | ((with_reducible refine' ev_eqNil ?k0 ?k1); (case k0 => walk_at "ev"); (case k1 => walk_at "sq"))
  | ((with_reducible refine' ev_eqL ?k0 ?k1 ?k2 ?k3); (case k0 => walk_at "ev"); (case k1 => walk_at "ev"); (case k2 => walk_at "sq"); (case k3 => walk_at "sq"))
  | ((with_reducible refine' ev_neL ?k0 ?k1 ?k2 ?k3); (case k0 => walk_at "ev"); (case k1 => walk_at "ev"); (case k2 => walk_at "sq"); (case k3 => walk_at "sq"))
  | ((with_reducible refine' ev_min2 ?k0 ?k1); (case k0 => walk_at "ev"); (case k1 => walk_at "ev"))
  | ((with_reducible refine' ev_max2 ?k0 ?k1); (case k0 => walk_at "ev"); (case k1 => walk_at "ev"))
  | ((with_reducible refine' ev_intB ?k0); (case k0 => walk_at "ev"))
  | ((with_reducible refine' ev_andV ?k0 (fun hb => ?k1)); (case k0 => walk_at "ev"); (case k1 => (walk_at "hb"; walk_at "ev")))
  | ((with_reducible refine' ev_orV ?k0 (fun hb => ?k1)); (case k0 => walk_at "ev"); (case k1 => (walk_at "hb"; walk_at "ev")))
  | ((with_reducible refine' ev_notV ?k0); (case k0 => walk_at "ev"))
  | ((with_reducible refine' ev_ifI ?k0 (fun hb => ?k1) (fun hb => ?k2)); (case k0 => walk_at "et"); (case k1 => (walk_at "hb"; walk_at "ev")); (case k2 => (walk_at "hb"; walk_at "ev")))
  | ((with_reducible refine' ev_ifS ?k0 (fun hb => ?k1) (fun hb => ?k2)); (case k0 => walk_at "et"); (case k1 => (walk_at "hb"; walk_at "ev")); (case k2 => (walk_at "hb"; walk_at "ev"))))
local macro_rules | `(tactic| walk_at "hb") => `(tactic| (try simp only [decide_eq_true_eq, decide_eq_false_iff_not, Bool.and_eq_true, Bool.or_eq_true, Bool.or_eq_false_iff, Bool.not_eq_true', Bool.not_eq_false', beq_iff_eq] at *))
local macro_rules | `(tactic| walk_at "sp") => `(tactic| first
  | (refine' v_number ?k0 ?k1 ?k2; (case k0 => walk_at "sq"); (case k1 => walk_at "ar"); (case k2 => walk_at "ar"))
  | (refine' v_drawn ?k0 ?k1; (case k0 => walk_at "sq"); (case k1 => walk_at "ar"))
  | exact v_size
  | exact v_counts
  | (refine' v_wraps ?k0 ?k1 ?k2 ?k3 ?k4; (case k0 => walk_at "sq"); (case k1 => walk_at "ar"); (case k2 => walk_at "ar"); (case k3 => walk_at "ar"); (case k4 => walk_at "ar"))
  | (refine' v_l_wraps ?k0 ?k1 ?k2 ?k3 ?k4; (case k0 => walk_at "sq"); (case k1 => walk_at "ar"); (case k2 => walk_at "ar"); (case k3 => walk_at "ar"); (case k4 => walk_at "ar"))
  | (refine' v_cross ?k0 ?k1 ?k2 ?k3 ?k4; (case k0 => walk_at "sq"); (case k1 => walk_at "ar"); (case k2 => walk_at "ar"); (case k3 => walk_at "ar"); (case k4 => walk_at "ar"))
  | (refine' v_places ?k0 ?k1 ?k2; (case k0 => walk_at "sq"); (case k1 => walk_at "ar"); (case k2 => assumption))
  | (refine' v_letters ?k0 ?k1 ?k2; (case k0 => walk_at "sq"); (case k1 => walk_at "ar"); (case k2 => assumption))
  | (refine' v_l_places ?k0 ?k1 ?k2; (case k0 => walk_at "sq"); (case k1 => walk_at "ar"); (case k2 => assumption))
  | (refine' v_fits ?k0 ?k1 ?k2 ?k3; (case k0 => walk_at "sq"); (case k1 => walk_at "ar"); (case k2 => walk_at "ar"); (case k3 => walk_at "ar"))
  | (refine' v_none ?k0 ?k1 ?k2; (case k0 => walk_at "sq"); (case k1 => walk_at "ar"); (case k2 => walk_at "ar")))
local macro_rules | `(tactic| walk_at "sp") => `(tactic| first
  | (refine' v_turned ?k0 ?k1 ?k2; (case k0 => walk_at "sq"); (case k1 => walk_at "ar"); (case k2 => assumption))
  | (refine' v_same ?k0 ?k1 ?k2; (case k0 => walk_at "hl"); (case k1 => walk_at "sq"); (case k2 => walk_at "ar"))
  | (refine' v_told ?k0 ?k1 ?k2; (case k0 => walk_at "sq"); (case k1 => walk_at "hl"); (case k2 => assumption))
  | (refine' v_parted ?k0 ?k1 ?k2 ?k3; (case k0 => walk_at "sq"); (case k1 => walk_at "ar"); (case k2 => walk_at "ar"); (case k3 => assumption)))
local macro_rules | `(tactic| walk_at "sp") => `(tactic| first
  | (refine' v_is_pile ?k0 ?k1 ?k2 ?k3; (case k0 => walk_at "hl"); (case k1 => assumption); (case k2 => walk_at "ar"); (case k3 => walk_at "ar")))
local macro_rules | `(tactic| walk_at "sp") => `(tactic| first
  | (refine' v_held ?k0 ?k1 ?k2 ?k3 ?k4 ?k5; (case k0 => walk_at "sq"); (case k1 => walk_at "st"); (case k2 => walk_at "ar"); (case k3 => (refine ⟨?_, ?_⟩ <;> walk_at "ar")); (case k4 => (refine ⟨?_, ?_⟩ <;> walk_at "ar")); (case k5 => (refine ⟨?_, ?_⟩ <;> walk_at "ar")))
  | (refine' v_l_held ?k0 ?k1 ?k2 ?k3 ?k4; (case k0 => walk_at "sq"); (case k1 => walk_at "ar"); (case k2 => (refine ⟨?_, ?_⟩ <;> walk_at "ar")); (case k3 => (refine ⟨?_, ?_⟩ <;> walk_at "ar")); (case k4 => (refine ⟨?_, ?_⟩ <;> walk_at "ar")))
  | (refine' v_lies ?k0 ?k1 ?k2 ?k3 ?k4; (case k0 => walk_at "sq"); (case k1 => walk_at "st"); (case k2 => walk_at "ar"); (case k3 => (refine ⟨?_, ?_⟩ <;> walk_at "ar")); (case k4 => (refine ⟨?_, ?_⟩ <;> walk_at "ar")))
  | (refine' v_judged ?k0 ?k1 ?k2 ?k3; (case k0 => walk_at "sq"); (case k1 => walk_at "ar"); (case k2 => assumption); (case k3 => assumption))
  | (refine' v_l_free ?k0 ?k1 ?k2 ?k3 ?k4 ?k5; (case k0 => walk_at "sq"); (case k1 => walk_at "sq"); (case k2 => walk_at "ar"); (case k3 => walk_at "ar"); (case k4 => walk_at "ar"); (case k5 => assumption))
  | (refine' v_are_free ?k0 ?k1 ?k2 ?k3 ?k4 ?k5; (case k0 => walk_at "sq"); (case k1 => walk_at "sq2"); (case k2 => walk_at "ar"); (case k3 => walk_at "ar"); (case k4 => walk_at "ar"); (case k5 => assumption)))
section
variable {K : PySem.W.Frag} {c : Cs}
local macro_rules | `(tactic| walk_at "hb") => `(tactic| (try simp only [decide_eq_true_eq, decide_eq_false_iff_not, Bool.and_eq_true, Bool.or_eq_true, Bool.or_eq_false_iff, Bool.not_eq_true', Bool.not_eq_false', beq_iff_eq] at *))
local macro_rules | `(tactic| walk_at "sp") => `(tactic| (refine' v_number ?k0 ?k1 ?k2; (case k0 => walk_at "sq"); (case k1 => walk_at "ar"); (case k2 => walk_at "ar")))

theorem read_l_pile (vs : List V) (H : Hp) (Q : VK) (E : XK) (h : sp_l_pile K c vs H Q E) : t_l_pile K c E { nx := fun _ H' => Q .non H', rt := Q } (start ["_law_script", "_law_start", "_law_size_here", "_law_pile_here", "_law_stamp", "_law_gap"] vs) H := by
  obtain ⟨a, ns, s, n, rfl, hS, h0, h1, h2, h3, q⟩ := h
  refine Go.here (g_asgL (xs := []) (by walk_at "el") fun p H1 hp e1 hl => ?_)
  refine g_forR1 (n := n) (by walk_at "ea") (by omega) (fun i σ H' => ∃ (p : Addr) (ps : List Int) (y4 y5 : Option V), σ = [some (.ref a), some (.int s), some (.int n), some (.ref p), y4, y5] ∧ Ex H H' ∧ H p = none ∧ H' p = some (.lst (ps.map V.int)) ∧ Per i ps)
    (fun H2 e2 => ⟨p, [], none, none, rfl, e1.trans e2, hp, e2 p _ hl, ⟨rfl, fun x hx => (nomatch hx), List.nodup_nil⟩⟩) (fun i σ H' hi hP => ?_) (fun σ H' hP => ?_) (by omega)
  · obtain ⟨p, ps, y4, y5, rfl, e, hp, hl, per⟩ := hP
    have hn0 := numb_lo ns (s + (i : Int))
    refine g_asg (v := .int (numb ns (s + (i : Int)) % ((i : Int) + 1))) (by walk_at "ev") ?_
    have g0 : 0 ≤ numb ns (s + (i : Int)) % ((i : Int) + 1) := Int.emod_nonneg _ (by omega)
    have g1 : numb ns (s + (i : Int)) % ((i : Int) + 1) < (i : Int) + 1 := Int.emod_lt_of_pos _ (by omega)
    generalize numb ns (s + (i : Int)) % ((i : Int) + 1) = g at g0 g1 ⊢
    have hlen := per.len
    refine g_asgL (xs := (ps.map V.int).take g.toNat ++ [V.int (i : Int)] ++ (ps.map V.int).drop g.toNat) (by walk_at "el") fun p' H2 hp' e2 hl' => ?_
    refine g_next fun H3 e3 => ?_
    rw [put_map] at hl'
    exact ⟨p', put ps g (i : Int), some (.int (i : Int)), some (.int g), rfl, e.trans (e2.trans e3), fresh_back e hp', e3 p' _ hl', per.put g⟩
  · obtain ⟨p, ps, y4, y5, rfl, e, hp, hl, per⟩ := hP
    refine g_ret (v := .ref p) (by walk_at "ev") fun H2 e2 => ?_
    exact q _ p H2 ⟨ps, rfl, per.pile (by omega), by rw [per.len]; omega⟩ hp (e.trans e2) (e2 p _ hl)

theorem read_places (vs : List V) (H : Hp) (Q : VK) (E : XK) (h : sp_places K c vs H Q E) : t_places K c E { nx := fun _ H' => Q .non H', rt := Q } (start ["pile", "size", "found", "place", "stamp"] vs) H := by
  obtain ⟨a, ns, rfl, hS, hlen, q, x⟩ := h
  refine Go.here (g_asg (v := .int (ns.length : Int)) (by walk_at "ev") ?_)
  refine g_when (b := decide ((ns.length : Int) = 0)) (by walk_at "et") (fun hb => ?_) (fun hb => ?_)
  · have hb' := of_decide_eq_true hb
    exact g_raise (x fun p => by have := p.pos; omega)
  have hb' := of_decide_eq_false hb
  refine g_asgL (xs := List.replicate (ns.length : Int).toNat (.int (-1))) (by walk_at "el") fun p H1 hp e1 hl => ?_
  have e0 : List.replicate (ns.length : Int).toNat (V.int (-1)) = (plF ns 0).map V.int := by rw [plF_zero, List.map_replicate]; rfl
  rw [e0] at hl
  refine g_forE (xs := ns.map V.int) (by walk_at "ea") (by walk_at "sq") (fun i σ H' => ∃ (y3 y4 : Option V), σ = [some (.ref a), some (.int (ns.length : Int)), some (.ref p), y3, y4] ∧ Ex H H' ∧ H' p = some (.lst ((plF ns i).map V.int)) ∧ (∀ x ∈ ns.take i, 0 ≤ x ∧ x < (ns.length : Int)) ∧ (ns.take i).Nodup)
    (fun H2 e2 => ⟨none, none, rfl, e1.trans e2, e2 p _ hl, fun x hx => (by rw [List.take_zero] at hx; exact (nomatch hx)), by rw [List.take_zero]; exact List.nodup_nil⟩) (fun i σ H' hi hP => ?_) (fun i v T σ H' hi hP hT => ?_) (fun σ H' hP => ?_)
  · obtain ⟨y3, y4, rfl, e, hl', hb1, hnd⟩ := hP
    walk_at "sq"
  · obtain ⟨y3, y4, rfl, e, hl', hb1, hnd⟩ := hP
    have hin : i < ns.length := by
      have := (List.getElem?_eq_some_iff.mp hi).1
      rw [List.length_map] at this
      exact this
    obtain ⟨z, hz, rfl⟩ : ∃ z, ns[i]? = some z ∧ v = .int z := by
      rw [List.getElem?_map, List.getElem?_eq_getElem hin] at hi
      exact ⟨ns[i], List.getElem?_eq_getElem hin, (Option.some.inj hi).symm⟩
    have eT : Ex H' (upd H' T (.tup [.int (i : Int), .int z])) := Ex.new hT
    have hl2 : (upd H' T (.tup [.int (i : Int), .int z])) p = some (.lst ((plF ns i).map V.int)) := eT p _ hl'
    have hlF := plF_len ns i
    refine g_when (b := (decide (z < 0) || (decide ((ns.length : Int) ≤ z) || decide (0 ≤ gi (plF ns i) z)))) (by walk_at "et") (fun hb => ?_) (fun hb => ?_)
    · refine g_raise fun H2 e2 => x (fun pp => ?_) H2 (e.trans (eT.trans e2))
      have hzm := pp.bnd z (List.mem_of_getElem? hz)
      have hb2 : 0 ≤ gi (plF ns i) z := by
        simp only [Bool.or_eq_true, decide_eq_true_eq] at hb
        omega
      by_cases hin2 : z ∈ ns.take i
      · have nd2 := pp.nd
        rw [← List.take_append_drop i ns] at nd2
        have hd : z ∈ ns.drop i := by
          have : (ns.drop i)[0]? = some z := by rw [List.getElem?_drop]; exact hz
          exact List.mem_of_getElem? this
        exact (List.nodup_append.mp nd2).2.2 z hin2 z hd rfl
      · exact (plF_neg hzm.1 hzm.2).mpr hin2 hb2
    · simp only [Bool.or_eq_false_iff, decide_eq_false_iff_not] at hb
      have z0 : 0 ≤ z := by omega
      have z1 : z < (ns.length : Int) := by omega
      have hnew := (plF_neg z0 z1).mp hb.2.2
      refine g_setL (xs := (plF ns i).map V.int) hl2 (v := .int (i : Int)) (by walk_at "ev") (by walk_at "ev") (by walk_at "ev") z0 (by rw [List.length_map, hlF]; exact z1) fun H2 e2 => ?_
      refine g_next (D := _) (fun H3 e3 => ?_) _ (Ex.refl _)
      have e4 : ((plF ns i).map V.int).set z.toNat (V.int (i : Int)) = (plF ns (i + 1)).map V.int := by rw [← plF_set hz z0 z1 hnew, List.map_set]
      have hp2 : H p = none := hp
      refine ⟨some (.int (i : Int)), some (.int z), rfl, (Ex.mut ((e.trans eT).trans e2) hp2).trans e3, ?_, ?_, ?_⟩
      · rw [← e4]
        exact e3 p _ upd_same
      · rw [take_more hz]
        intro y hy
        rcases List.mem_append.mp hy with hy | hy
        · exact hb1 y hy
        · rw [List.mem_singleton.mp hy]
          exact ⟨z0, z1⟩
      · rw [take_more hz]
        exact List.nodup_append.mpr ⟨hnd, List.nodup_cons.mpr ⟨List.not_mem_nil, List.nodup_nil⟩, fun u hu w hw => by
          rw [List.mem_singleton.mp hw]
          exact fun e5 => hnew (e5 ▸ hu)⟩
  · obtain ⟨y3, y4, rfl, e, hl', hb1, hnd⟩ := hP
    rw [List.length_map] at hl' hb1 hnd
    rw [List.take_length] at hb1 hnd
    have pp : IsPile ns := ⟨by omega, hb1, hnd⟩
    rw [plF_end pp] at hl'
    exact g_ret (v := .ref p) (by walk_at "ev") fun H2 e2 => q pp p H2 hp (e.trans e2) (e2 p _ hl')
end
end Fo
/-! FoldR4 -/
namespace Fo
open PySem L2 Evl
local macro_rules | `(tactic| walk_at "hl") => `(tactic| first
  | assumption
  | exact upd_same
  | (refine (by assumption : Ex _ _) _ _ ?_; walk_at "hl"))
local macro_rules | `(tactic| walk_at "sq") => `(tactic| first
  | assumption
  | (refine sq_lst ?_; walk_at "hl")
  | (refine ex_l (by assumption) ?_; walk_at "sq"))
local macro_rules | `(tactic| walk_at "st") => `(tactic| first
  | assumption
  | (refine st_of ?_; walk_at "hl")
  | (refine ex_t (by assumption) ?_; walk_at "st"))
local macro_rules | `(tactic| walk_at "sq2") => `(tactic| first
  | assumption
  | (refine Or.inl ?_; walk_at "sq")
  | (refine Or.inr ?_; walk_at "st")
  | (refine Sq2.mono (by assumption) ?_; walk_at "sq2"))
local macro_rules | `(tactic| walk_at "ar") => `(tactic| first
  | assumption
  | omega
  | decide)
local macro_rules | `(tactic| walk_at "lar") => `(tactic| first
  | omega
  | (simp only [List.length_append, List.length_map, List.length_take, List.length_drop, List.length_cons, List.length_nil, List.length_replicate]; omega))
local macro_rules | `(tactic| walk_at "hb") => `(tactic| first
  | skip)
local macro_rules | `(tactic| walk_at "mul") => `(tactic| first
  | (exact Or.inr ⟨by decide, by decide⟩)
  | (exact Or.inl ⟨by decide, by decide⟩)
  | (exact Or.inl ⟨by omega, by omega⟩)
  | (exact Or.inr ⟨by omega, by omega⟩))
local macro_rules | `(tactic| walk_at "div") => `(tactic| first
  | (exact ⟨by decide, by decide⟩)
  | (exact ⟨by omega, by omega⟩))
local macro_rules | `(tactic| walk_at "ea") => `(tactic| first
  | exact ea_nil
  | ((with_reducible refine' ea_cons ?k0 ?k1); (case k0 => walk_at "ev"); (case k1 => walk_at "ea")))
local macro_rules | `(tactic| walk_at "eo") => `(tactic| first
  | exact eo_none
  | ((with_reducible refine' eo_some ?k0); (case k0 => walk_at "ev")))
local macro_rules | `(tactic| walk_at "el") => `(tactic| first
  | ((with_reducible refine' el_lst ?k0 ?k1); (case k0 => walk_at "ea"); (case k1 => (exact Nat.le_of_ble_eq_true rfl)))
  | ((with_reducible refine' el_from ?k0 ?k1 ?k2 ?k3 ?k4); (case k0 => walk_at "ev"); (case k1 => walk_at "eo"); (case k2 => walk_at "sq"); (case k3 => walk_at "ar"); (case k4 => walk_at "lar"))
  | ((with_reducible refine' el_upto ?k0 ?k1 ?k2 ?k3 ?k4); (case k0 => walk_at "ev"); (case k1 => walk_at "eo"); (case k2 => walk_at "sq"); (case k3 => walk_at "ar"); (case k4 => walk_at "lar"))
  | ((with_reducible refine' el_rep1 ?k0 ?k1 ?k2 ?k3); (case k0 => walk_at "el"); (case k1 => walk_at "ev"); (case k2 => walk_at "ar"); (case k3 => walk_at "ar"))
  | ((with_reducible refine' el_cat ?k0 ?k1 ?k2); (case k0 => walk_at "el"); (case k1 => walk_at "el"); (case k2 => walk_at "lar"))
  | ((with_reducible refine' el_callD ?k0 ?k1); (case k0 => walk_at "ea"); (case k1 => walk_at "sp"))
  | ((with_reducible refine' el_list ?k0 ?k1); (case k0 => walk_at "ev"); (case k1 => walk_at "sq"))
  | ((with_reducible refine' el_srt ?k0 ?k1); (case k0 => walk_at "ev"); (case k1 => walk_at "sq"))
  | ((with_reducible refine' el_sortedQ ?k0 ?k1); (case k0 => walk_at "ev"); (case k1 => walk_at "sq2"))
  | ((with_reducible refine' el_rev ?k0 ?k1); (case k0 => walk_at "ev"); (case k1 => walk_at "sq"))
  | ((with_reducible refine' el_step ?k0 ?k1 ?k2); (case k0 => walk_at "ev"); (case k1 => walk_at "eo"); (case k2 => walk_at "sq")))
local macro_rules | `(tactic| walk_at "et") => `(tactic| first
  | ((with_reducible refine' et_test ?k0); (case k0 => walk_at "ev"))
  | ((with_reducible refine' et_B ?k0); (case k0 => walk_at "ev"))
  | ((with_reducible refine' et_not ?k0); (case k0 => walk_at "et"))
  | ((with_reducible refine' et_and ?k0 (fun hb => ?k1)); (case k0 => walk_at "et"); (case k1 => (walk_at "hb"; walk_at "et")))
  | ((with_reducible refine' et_or ?k0 (fun hb => ?k1)); (case k0 => walk_at "et"); (case k1 => (walk_at "hb"; walk_at "et"))))
local macro_rules | `(tactic| walk_at "ev") => `(tactic| first
  | ((with_reducible refine' ev_var ?k0); (case k0 => rfl))
  | exact ev_c
  | ((with_reducible refine' ev_add ?k0 ?k1); (case k0 => walk_at "ev"); (case k1 => walk_at "ev"))
  | ((with_reducible refine' ev_sub ?k0 ?k1); (case k0 => walk_at "ev"); (case k1 => walk_at "ev"))
  | ((with_reducible refine' ev_ixI ?k0 ?k1 ?k2 ?k3 ?k4); (case k0 => walk_at "ev"); (case k1 => walk_at "ev"); (case k2 => walk_at "sq"); (case k3 => walk_at "ar"); (case k4 => walk_at "ar"))
  | ((with_reducible refine' ev_ixT ?k0 ?k1 ?k2 ?k3); (case k0 => walk_at "ev"); (case k1 => walk_at "ev"); (case k2 => walk_at "st"); (case k3 => rfl))
  | ((with_reducible refine' ev_lt ?k0 ?k1); (case k0 => walk_at "ev"); (case k1 => walk_at "ev"))
  | ((with_reducible refine' ev_gt ?k0 ?k1); (case k0 => walk_at "ev"); (case k1 => walk_at "ev"))
  | ((with_reducible refine' ev_le ?k0 ?k1); (case k0 => walk_at "ev"); (case k1 => walk_at "ev"))
  | ((with_reducible refine' ev_ge ?k0 ?k1); (case k0 => walk_at "ev"); (case k1 => walk_at "ev"))
  | ((with_reducible refine' ev_eqI ?k0 ?k1); (case k0 => walk_at "ev"); (case k1 => walk_at "ev"))
  | ((with_reducible refine' ev_neI ?k0 ?k1); (case k0 => walk_at "ev"); (case k1 => walk_at "ev"))
  | ((with_reducible refine' ev_eqB ?k0 ?k1); (case k0 => walk_at "ev"); (case k1 => walk_at "ev"))
  | ((with_reducible refine' ev_neB ?k0 ?k1); (case k0 => walk_at "ev"); (case k1 => walk_at "ev"))
  | ((with_reducible refine' ev_eqS ?k0 ?k1); (case k0 => walk_at "ev"); (case k1 => walk_at "ev"))
  | ((with_reducible refine' ev_neS ?k0 ?k1); (case k0 => walk_at "ev"); (case k1 => walk_at "ev"))
  | ((with_reducible refine' ev_mod ?k0 ?k1 ?k2); (case k0 => walk_at "ev"); (case k1 => walk_at "ev"); (case k2 => walk_at "ar"))
  | ((with_reducible refine' ev_mul ?k0 ?k1 ?k2); (case k0 => walk_at "ev"); (case k1 => walk_at "ev"); (case k2 => walk_at "mul"))
  | ((with_reducible refine' ev_div ?k0 ?k1 ?k2); (case k0 => walk_at "ev"); (case k1 => walk_at "ev"); (case k2 => walk_at "div"))
  | ((with_reducible refine' ev_neg ?k0); (case k0 => walk_at "ev"))
  | ((with_reducible refine' ev_callD ?k0 ?k1); (case k0 => walk_at "ea"); (case k1 => walk_at "sp"))
  | ((with_reducible refine' ev_lenI ?k0 ?k1); (case k0 => walk_at "ev"); (case k1 => walk_at "sq"))
  | ((with_reducible refine' ev_lenQ ?k0 ?k1); (case k0 => walk_at "ev"); (case k1 => walk_at "sq2"))
  | ((with_reducible refine' ev_lenSet ?k0 ?k1 ?k2); (case k0 => walk_at "ev"); (case k1 => walk_at "sq2"); (case k2 => walk_at "ar"))
  | ((with_reducible refine' ev_inI ?k0 ?k1 ?k2); (case k0 => walk_at "ev"); (case k1 => walk_at "ev"); (case k2 => walk_at "sq2"))
  | ((with_reducible refine' ev_notInI ?k0 ?k1 ?k2); (case k0 => walk_at "ev"); (case k1 => walk_at "ev"); (case k2 => walk_at "sq2"))
  | ((with_reducible refine' ev_lenTxt ?k0 ?k1); (case k0 => walk_at "ev"); (case k1 => walk_at "ar"))
  | ((with_reducible refine' ev_lenS ?k0 ?k1); (case k0 => walk_at "ev"); (case k1 => walk_at "ar"))
  | ((with_reducible refine' ev_ixTxt ?k0 ?k1 ?k2 ?k3 ?k4); (case k0 => walk_at "ev"); (case k1 => walk_at "ev"); (case k2 => walk_at "ar"); (case k3 => walk_at "ar"); (case k4 => walk_at "ar"))
  | ((with_reducible refine' ev_ix2 ?k0); (case k0 => walk_at "ev"))
  | ((with_reducible refine' ev_isiI ?k0); (case k0 => walk_at "ev"))
  | ((with_reducible refine' ev_isiL ?k0 ?k1); (case k0 => walk_at "ev"); (case k1 => walk_at "hl"))
  | ((with_reducible refine' ev_isiU ?k0 ?k1); (case k0 => walk_at "ev"); (case k1 => walk_at "hl"))
  | ((with_reducible refine' ev_isiS ?k0); (case k0 => walk_at "ev"))
  | ((with_reducible refine' ev_isiB ?k0); (case k0 => walk_at "ev"))
  | ((with_reducible refine' ev_isN ?k0); (case k0 => walk_at "ev"))
  | ((with_reducible refine' ev_notN ?k0); (case k0 => walk_at "ev"))
  | ((with_reducible refine' ev_notIB ?k0 ?k1); (case k0 => walk_at "ev"); (case k1 => walk_at "ev"))
  | ((with_reducible refine' ev_neNil ?k0 ?k1); (case k0 => walk_at "ev"); (case k1 => walk_at "sq"))
  | ((with_reducible refine' ev_eqNil ?k0 ?k1); (case k0 => walk_at "ev"); (case k1 => walk_at "sq"))
  | ((with_reducible refine' ev_eqL ?k0 ?k1 ?k2 ?k3); (case k0 => walk_at "ev"); (case k1 => walk_at "ev"); (case k2 => walk_at "sq"); (case k3 => walk_at "sq"))
  | ((with_reducible refine' ev_neL ?k0 ?k1 ?k2 ?k3); (case k0 => walk_at "ev"); (case k1 => walk_at "ev"); (case k2 => walk_at "sq"); (case k3 => walk_at "sq"))
  | ((with_reducible refine' ev_min2 ?k0 ?k1); (case k0 => walk_at "ev"); (case k1 => walk_at "ev"))
  | ((with_reducible refine' ev_max2 ?k0 ?k1); (case k0 => walk_at "ev"); (case k1 => walk_at "ev"))
  | ((with_reducible refine' ev_intB ?k0); (case k0 => walk_at "ev"))
  | ((with_reducible refine' ev_andV ?k0 (fun hb => ?k1)); (case k0 => walk_at "ev"); (case k1 => (walk_at "hb"; walk_at "ev")))
  | ((with_reducible refine' ev_orV ?k0 (fun hb => ?k1)); (case k0 => walk_at "ev"); (case k1 => (walk_at "hb"; walk_at "ev")))
  | ((with_reducible refine' ev_notV ?k0); (case k0 => walk_at "ev"))
  | ((with_reducible refine' ev_ifI ?k0 (fun hb => ?k1) (fun hb => ?k2)); (case k0 => walk_at "et"); (case k1 => (walk_at "hb"; walk_at "ev")); (case k2 => (walk_at "hb"; walk_at "ev")))
  | ((with_reducible refine' ev_ifS ?k0 (fun hb => ?k1) (fun hb => ?k2)); (case k0 => walk_at "et"); (case k1 => (walk_at "hb"; walk_at "ev")); (case k2 => (walk_at "hb"; walk_at "ev"))))
local macro_rules | `(tactic| walk_at "hb") => `(tactic| (try simp only [decide_eq_true_eq, decide_eq_false_iff_not, Bool.and_eq_true, Bool.or_eq_true, Bool.or_eq_false_iff, Bool.not_eq_true', Bool.not_eq_false', beq_iff_eq] at *))
local macro_rules | `(tactic| walk_at "sp") => `(tactic| first
  | (refine' v_number ?k0 ?k1 ?k2; (case k0 => walk_at "sq"); (case k1 => walk_at "ar"); (case k2 => walk_at "ar"))
  | (refine' v_drawn ?k0 ?k1; (case k0 => walk_at "sq"); (case k1 => walk_at "ar"))
  | exact v_size
  | exact v_counts
  | (refine' v_wraps ?k0 ?k1 ?k2 ?k3 ?k4; (case k0 => walk_at "sq"); (case k1 => walk_at "ar"); (case k2 => walk_at "ar"); (case k3 => walk_at "ar"); (case k4 => walk_at "ar"))
  | (refine' v_l_wraps ?k0 ?k1 ?k2 ?k3 ?k4; (case k0 => walk_at "sq"); (case k1 => walk_at "ar"); (case k2 => walk_at "ar"); (case k3 => walk_at "ar"); (case k4 => walk_at "ar"))
  | (refine' v_cross ?k0 ?k1 ?k2 ?k3 ?k4; (case k0 => walk_at "sq"); (case k1 => walk_at "ar"); (case k2 => walk_at "ar"); (case k3 => walk_at "ar"); (case k4 => walk_at "ar"))
  | (refine' v_places ?k0 ?k1 ?k2; (case k0 => walk_at "sq"); (case k1 => walk_at "ar"); (case k2 => assumption))
  | (refine' v_letters ?k0 ?k1 ?k2; (case k0 => walk_at "sq"); (case k1 => walk_at "ar"); (case k2 => assumption))
  | (refine' v_l_places ?k0 ?k1 ?k2; (case k0 => walk_at "sq"); (case k1 => walk_at "ar"); (case k2 => assumption))
  | (refine' v_fits ?k0 ?k1 ?k2 ?k3; (case k0 => walk_at "sq"); (case k1 => walk_at "ar"); (case k2 => walk_at "ar"); (case k3 => walk_at "ar"))
  | (refine' v_none ?k0 ?k1 ?k2; (case k0 => walk_at "sq"); (case k1 => walk_at "ar"); (case k2 => walk_at "ar")))
local macro_rules | `(tactic| walk_at "sp") => `(tactic| first
  | (refine' v_turned ?k0 ?k1 ?k2; (case k0 => walk_at "sq"); (case k1 => walk_at "ar"); (case k2 => assumption))
  | (refine' v_same ?k0 ?k1 ?k2; (case k0 => walk_at "hl"); (case k1 => walk_at "sq"); (case k2 => walk_at "ar"))
  | (refine' v_told ?k0 ?k1 ?k2; (case k0 => walk_at "sq"); (case k1 => walk_at "hl"); (case k2 => assumption))
  | (refine' v_parted ?k0 ?k1 ?k2 ?k3; (case k0 => walk_at "sq"); (case k1 => walk_at "ar"); (case k2 => walk_at "ar"); (case k3 => assumption)))
local macro_rules | `(tactic| walk_at "sp") => `(tactic| first
  | (refine' v_is_pile ?k0 ?k1 ?k2 ?k3; (case k0 => walk_at "hl"); (case k1 => assumption); (case k2 => walk_at "ar"); (case k3 => walk_at "ar")))
local macro_rules | `(tactic| walk_at "sp") => `(tactic| first
  | (refine' v_held ?k0 ?k1 ?k2 ?k3 ?k4 ?k5; (case k0 => walk_at "sq"); (case k1 => walk_at "st"); (case k2 => walk_at "ar"); (case k3 => (refine ⟨?_, ?_⟩ <;> walk_at "ar")); (case k4 => (refine ⟨?_, ?_⟩ <;> walk_at "ar")); (case k5 => (refine ⟨?_, ?_⟩ <;> walk_at "ar")))
  | (refine' v_l_held ?k0 ?k1 ?k2 ?k3 ?k4; (case k0 => walk_at "sq"); (case k1 => walk_at "ar"); (case k2 => (refine ⟨?_, ?_⟩ <;> walk_at "ar")); (case k3 => (refine ⟨?_, ?_⟩ <;> walk_at "ar")); (case k4 => (refine ⟨?_, ?_⟩ <;> walk_at "ar")))
  | (refine' v_lies ?k0 ?k1 ?k2 ?k3 ?k4; (case k0 => walk_at "sq"); (case k1 => walk_at "st"); (case k2 => walk_at "ar"); (case k3 => (refine ⟨?_, ?_⟩ <;> walk_at "ar")); (case k4 => (refine ⟨?_, ?_⟩ <;> walk_at "ar")))
  | (refine' v_judged ?k0 ?k1 ?k2 ?k3; (case k0 => walk_at "sq"); (case k1 => walk_at "ar"); (case k2 => assumption); (case k3 => assumption))
  | (refine' v_l_free ?k0 ?k1 ?k2 ?k3 ?k4 ?k5; (case k0 => walk_at "sq"); (case k1 => walk_at "sq"); (case k2 => walk_at "ar"); (case k3 => walk_at "ar"); (case k4 => walk_at "ar"); (case k5 => assumption))
  | (refine' v_are_free ?k0 ?k1 ?k2 ?k3 ?k4 ?k5; (case k0 => walk_at "sq"); (case k1 => walk_at "sq2"); (case k2 => walk_at "ar"); (case k3 => walk_at "ar"); (case k4 => walk_at "ar"); (case k5 => assumption)))
section
variable {K : PySem.W.Frag} {c : Cs}
local macro_rules | `(tactic| walk_at "hb") => `(tactic| (try simp only [decide_eq_true_eq, decide_eq_false_iff_not, Bool.and_eq_true, Bool.or_eq_true, Bool.or_eq_false_iff, Bool.not_eq_true', Bool.not_eq_false', beq_iff_eq] at *))
local macro_rules | `(tactic| walk_at "sp") => `(tactic| first
  | (refine' v_number ?k0 ?k1 ?k2; (case k0 => walk_at "sq"); (case k1 => walk_at "ar"); (case k2 => walk_at "ar"))
  | (refine' v_wraps ?k0 ?k1 ?k2 ?k3 ?k4; (case k0 => walk_at "sq"); (case k1 => walk_at "ar"); (case k2 => walk_at "ar"); (case k3 => walk_at "ar"); (case k4 => walk_at "ar"))
  | (refine' v_l_wraps ?k0 ?k1 ?k2 ?k3 ?k4; (case k0 => walk_at "sq"); (case k1 => walk_at "ar"); (case k2 => walk_at "ar"); (case k3 => walk_at "ar"); (case k4 => walk_at "ar"))
  | (refine' v_cross ?k0 ?k1 ?k2 ?k3 ?k4; (case k0 => walk_at "sq"); (case k1 => walk_at "ar"); (case k2 => walk_at "ar"); (case k3 => walk_at "ar"); (case k4 => walk_at "ar"))
  | (refine' v_places ?k0 ?k1 ?k2; (case k0 => walk_at "sq"); (case k1 => walk_at "ar"); (case k2 => assumption))
  | (refine' v_l_places ?k0 ?k1 ?k2; (case k0 => walk_at "sq"); (case k1 => walk_at "ar"); (case k2 => assumption))
  | (refine' v_fits ?k0 ?k1 ?k2 ?k3; (case k0 => walk_at "sq"); (case k1 => walk_at "ar"); (case k2 => walk_at "ar"); (case k3 => walk_at "ar")))

theorem read_wraps (vs : List V) (H : Hp) (Q : VK) (E : XK) (h : sp_wraps K c vs H Q E) : t_wraps K c E { nx := fun _ H' => Q .non H', rt := Q } (start ["at", "crease", "stamp", "ends"] vs) H := by
  obtain ⟨a, p, i, s, rfl, hS, ⟨i0, i1⟩, ⟨s0, s1⟩, q⟩ := h
  refine Go.here (g_asgL (xs := [lo (gi p i) (gi p (i + 1)), hi (gi p i) (gi p (i + 1))].map V.int) (el_sortedN (ns := [gi p i, gi p (i + 1)]) (el_lst (vs := [.int (gi p i), .int (gi p (i + 1))]) (by walk_at "ea") (Nat.le_of_ble_eq_true rfl)) sort2) fun r H1 hr e1 hl => ?_)
  have hE : SqL K H1 r ([lo (gi p i) (gi p (i + 1)), hi (gi p i) (gi p (i + 1))].map V.int) := sq_lst hl
  refine g_ret (v := .bl (wr p i s)) ?_ fun H2 e2 => q H2 (e1.trans e2)
  have hS1 : SqL K H1 a (p.map V.int) := ex_l e1 hS
  have x0 : Ev (tOp (rIxL K) (tVar 3) (tC (.int 0))) [some (.ref a), some (.int i), some (.int s), some (.ref r)] H1 (.int (lo (gi p i) (gi p (i + 1)))) := ev_ixL (ev_var rfl) ev_c hE rfl
  have x1 : Ev (tOp (rIxL K) (tVar 3) (tC (.int 1))) [some (.ref a), some (.int i), some (.int s), some (.ref r)] H1 (.int (hi (gi p i) (gi p (i + 1)))) := ev_ixL (ev_var rfl) ev_c hE rfl
  have x2 : Ev (tOp (rIxL K) (tVar 0) (tVar 2)) [some (.ref a), some (.int i), some (.int s), some (.ref r)] H1 (.int (gi p s)) := by walk_at "ev"
  exact ev_andV (ev_lt x0 x2) fun _ => ev_lt x2 x1

theorem read_l_wraps (vs : List V) (H : Hp) (Q : VK) (E : XK) (h : sp_l_wraps K c vs H Q E) : t_l_wraps K c E { nx := fun _ H' => Q .non H', rt := Q } (start ["_law_at", "_law_crease", "_law_stamp", "_law_low", "_law_high"] vs) H := by
  obtain ⟨a, p, i, s, rfl, hS, ⟨i0, i1⟩, ⟨s0, s1⟩, q⟩ := h
  refine Go.here (g_asg (v := .int (lo (gi p i) (gi p (i + 1)))) (ev_min2 (by walk_at "ev") (by walk_at "ev")) ?_)
  refine g_asg (v := .int (hi (gi p i) (gi p (i + 1)))) (ev_max2 (by walk_at "ev") (by walk_at "ev")) ?_
  exact g_ret (v := .bl (wr p i s)) (by unfold wr wrB; walk_at "ev") q

theorem read_crossing (vs : List V) (H : Hp) (Q : VK) (E : XK) (h : sp_crossing K c vs H Q E) : t_crossing K c E { nx := fun _ H' => Q .non H', rt := Q } (start ["pile", "at", "one", "other"] vs) H := by
  obtain ⟨a, ns, rfl, hS, hlen, q, x⟩ := h
  by_cases hp : IsPile ns
  · refine Go.here (g_asgL (xs := (pl ns).map V.int) (el_callD (by walk_at "ea") (v_places hS hlen hp)) fun r H1 hr e1 hl => ?_)
    have hpl := pl_len ns
    have hps := hp.pos
    obtain ⟨q1, q2⟩ := q hp
    generalize hgp : pl ns = p at *
    refine g_forR1 (n := (p.length : Int) - 1) (by walk_at "ea") (by omega) (fun k σ H' => ∃ (y2 y3 : Option V), σ = [some (.ref a), some (.ref r), y2, y3] ∧ Ex H1 H' ∧ ∀ i j : Int, i < (k : Int) → ¬ XX p i j)
      (fun H2 e2 => ⟨none, none, rfl, e2, fun i j hi x => by have := x.i0; omega⟩) (fun k σ H' hk hP => ?_) (fun σ H' hP => ?_) (by omega)
    · obtain ⟨y2, y3, rfl, e, hn⟩ := hP
      refine g_forR3 (lo := (k : Int) + 2) (n := (p.length : Int) - 1) (by walk_at "ea") (by omega) (fun m σ H' => ∃ y3 : Option V, σ = [some (.ref a), some (.ref r), some (.int (k : Int)), y3] ∧ Ex H1 H' ∧ ∀ j : Int, j < (k : Int) + 2 + (m : Int) * 2 → ¬ XX p (k : Int) j)
        (fun H2 e2 => ⟨y3, rfl, e.trans e2, fun j hj x => by have := x.ij; have := x.even; omega⟩) (fun m σ H' hm hP => ?_) (fun σ H' hP => ?_)
      · obtain ⟨y3, rfl, e, hn2⟩ := hP
        refine g_when (b := !(wr p (k : Int) ((k : Int) + 2 + (m : Int) * 2) == wr p (k : Int) ((k : Int) + 2 + (m : Int) * 2 + 1))) (by walk_at "et") (fun hb => ?_) (fun hb => ?_)
        · rw [Bool.not_eq_true', beq_eq_false_iff_ne] at hb
          exact g_retU (xs := [.int (k : Int), .int ((k : Int) + 2 + (m : Int) * 2)]) (eu_tup (by walk_at "ea") (Nat.le_of_ble_eq_true rfl)) fun u H3 hu e3 hl3 =>
            q2 _ _ ⟨by omega, by omega, by omega, by omega, hb⟩ u H3 (fresh_back (e1.trans e) hu) ((e1.trans e).trans e3) hl3
        · rw [Bool.not_eq_false', beq_iff_eq] at hb
          refine g_next fun H3 e3 => ⟨_, rfl, e.trans e3, fun j hj xx => ?_⟩
          have h1 := xx.even
          have h2 := xx.ij
          by_cases h3 : j = (k : Int) + 2 + (m : Int) * 2
          · rw [h3] at xx
            exact xx.ne hb
          · exact hn2 j (by omega) xx
      · obtain ⟨y3, rfl, e, hn2⟩ := hP
        refine g_next fun H3 e3 => ⟨_, _, rfl, e.trans e3, fun i j hij xx => ?_⟩
        by_cases h3 : i = (k : Int)
        · subst h3
          have h1 := xx.jn
          have h2 := xx.even
          exact hn2 j (by omega) xx
        · exact hn i j (by omega) xx
    · obtain ⟨y2, y3, rfl, e, hn⟩ := hP
      refine g_ret (v := .non) ev_c fun H3 e3 => q1 (fun i j xx => ?_) H3 ((e1.trans e).trans e3)
      have h1 := xx.jn
      have h2 := xx.ij
      exact hn i j (by omega) xx
  · exact Go.here (g_asgX (evx_call (by walk_at "ea") (x_places hS hlen hp (x hp))))

theorem read_l_none_cross2 (vs : List V) (H : Hp) (Q : VK) (E : XK) (h : sp_l_none_cross K c vs H Q E) : t_l_none_cross2 K c E { nx := fun _ H' => Q .non H', rt := Q } (start ["_law_at", "_law_one", "_law_other"] vs) H := by
  obtain ⟨a, p, rfl, hS, hlen, hl1, q⟩ := h
  refine Go.here ?_
  refine g_forR1 (n := (p.length : Int) - 1) (by walk_at "ea") (by omega) (fun k σ H' => ∃ (y2 y3 : Option V), σ = [some (.ref a), y2, y3] ∧ Ex H H' ∧ ∀ i j : Int, i < (k : Int) → ¬ XX p i j)
    (fun H2 e2 => ⟨none, none, rfl, e2, fun i j hi x => by have := x.i0; omega⟩) (fun k σ H' hk hP => ?_) (fun σ H' hP => ?_) (by omega)
  · obtain ⟨y2, y3, rfl, e, hn⟩ := hP
    refine g_forR3 (lo := (k : Int) + 2) (n := (p.length : Int) - 1) (by walk_at "ea") (by omega) (fun m σ H' => ∃ y3 : Option V, σ = [some (.ref a), some (.int (k : Int)), y3] ∧ Ex H H' ∧ ∀ j : Int, j < (k : Int) + 2 + (m : Int) * 2 → ¬ XX p (k : Int) j)
      (fun H2 e2 => ⟨y3, rfl, e.trans e2, fun j hj x => by have := x.ij; have := x.even; omega⟩) (fun m σ H' hm hP => ?_) (fun σ H' hP => ?_)
    · obtain ⟨y3, rfl, e, hn2⟩ := hP
      refine g_when (b := crB p (k : Int) ((k : Int) + 2 + (m : Int) * 2)) (by walk_at "et") (fun hb => ?_) (fun hb => ?_)
      · refine g_ret (v := .bl false) ev_c fun H3 e3 => ?_
        have hx : XX p (k : Int) ((k : Int) + 2 + (m : Int) * 2) := ⟨by omega, by omega, by omega, by omega, by
          unfold crB at hb
          rw [if_neg (by omega), Bool.not_eq_true', beq_eq_false_iff_ne] at hb
          exact hb⟩
        have hf : noX p = false := by
          rw [Bool.eq_false_iff]
          exact fun z => (noX_iff p).mp z _ _ hx
        rw [← hf]
        exact q H3 (e.trans e3)
      · refine g_next fun H3 e3 => ⟨_, rfl, e.trans e3, fun j hj xx => ?_⟩
        have h1 := xx.even
        have h2 := xx.ij
        by_cases h3 : j = (k : Int) + 2 + (m : Int) * 2
        · rw [h3] at xx
          unfold crB at hb
          rw [if_neg (by omega), Bool.not_eq_false', beq_iff_eq] at hb
          exact xx.ne hb
        · exact hn2 j (by omega) xx
    · obtain ⟨y3, rfl, e, hn2⟩ := hP
      refine g_next fun H3 e3 => ⟨_, _, rfl, e.trans e3, fun i j hij xx => ?_⟩
      by_cases h3 : i = (k : Int)
      · subst h3
        have h1 := xx.jn
        have h2 := xx.even
        exact hn2 j (by omega) xx
      · exact hn i j (by omega) xx
  · obtain ⟨y2, y3, rfl, e, hn⟩ := hP
    refine g_ret (v := .bl true) ev_c fun H3 e3 => ?_
    have ht : noX p = true := (noX_iff p).mpr fun i j xx => by
      have h1 := xx.jn
      have h2 := xx.ij
      exact hn i j (by omega) xx
    rw [← ht]
    exact q H3 (e.trans e3)

theorem read_l_cross (vs : List V) (H : Hp) (Q : VK) (E : XK) (h : sp_l_cross K c vs H Q E) : t_l_cross K c E { nx := fun _ H' => Q .non H', rt := Q } (start ["_law_at", "_law_one", "_law_other"] vs) H := by
  obtain ⟨a, p, i, j, rfl, hS, ⟨i0, i1⟩, ⟨j0, j1⟩, q⟩ := h
  refine Go.here (g_when (b := decide (i = j) || decide ((i - j) % 2 = 1)) (by walk_at "et") (fun hb => ?_) (fun hb => ?_))
  · refine g_ret (v := .bl false) ev_c ?_
    have e : crB p i j = false := by
      unfold crB
      rw [if_pos (by simpa using hb)]
    rw [← e]
    exact q
  · refine g_ret (v := .bl (crB p i j)) ?_ q
    unfold crB
    rw [if_neg (by simpa using hb)]
    walk_at "ev"
end
end Fo
/-! FoldR5 -/
namespace Fo
open PySem L2 Evl
local macro_rules | `(tactic| walk_at "hl") => `(tactic| first
  | assumption
  | exact upd_same
  | (refine (by assumption : Ex _ _) _ _ ?_; walk_at "hl"))
local macro_rules | `(tactic| walk_at "sq") => `(tactic| first
  | assumption
  | (refine sq_lst ?_; walk_at "hl")
  | (refine ex_l (by assumption) ?_; walk_at "sq"))
local macro_rules | `(tactic| walk_at "st") => `(tactic| first
  | assumption
  | (refine st_of ?_; walk_at "hl")
  | (refine ex_t (by assumption) ?_; walk_at "st"))
local macro_rules | `(tactic| walk_at "sq2") => `(tactic| first
  | assumption
  | (refine Or.inl ?_; walk_at "sq")
  | (refine Or.inr ?_; walk_at "st")
  | (refine Sq2.mono (by assumption) ?_; walk_at "sq2"))
local macro_rules | `(tactic| walk_at "ar") => `(tactic| first
  | assumption
  | omega
  | decide)
local macro_rules | `(tactic| walk_at "lar") => `(tactic| first
  | omega
  | (simp only [List.length_append, List.length_map, List.length_take, List.length_drop, List.length_cons, List.length_nil, List.length_replicate]; omega))
local macro_rules | `(tactic| walk_at "hb") => `(tactic| first
  | skip)
local macro_rules | `(tactic| walk_at "mul") => `(tactic| first
  | (exact Or.inr ⟨by decide, by decide⟩)
  | (exact Or.inl ⟨by decide, by decide⟩)
  | (exact Or.inl ⟨by omega, by omega⟩)
  | (exact Or.inr ⟨by omega, by omega⟩))
local macro_rules | `(tactic| walk_at "div") => `(tactic| first
  | (exact ⟨by decide, by decide⟩)
  | (exact ⟨by omega, by omega⟩))
local macro_rules | `(tactic| walk_at "ea") => `(tactic| first
  | exact ea_nil
  | ((with_reducible refine' ea_cons ?k0 ?k1); (case k0 => walk_at "ev"); (case k1 => walk_at "ea")))
local macro_rules | `(tactic| walk_at "eo") => `(tactic| first
  | exact eo_none
  | ((with_reducible refine' eo_some ?k0); (case k0 => walk_at "ev")))
local macro_rules | `(tactic| walk_at "el") => `(tactic| first
  | ((with_reducible refine' el_lst ?k0 ?k1); (case k0 => walk_at "ea"); (case k1 => (exact Nat.le_of_ble_eq_true rfl)))
  | ((with_reducible refine' el_from ?k0 ?k1 ?k2 ?k3 ?k4); (case k0 => walk_at "ev"); (case k1 => walk_at "eo"); (case k2 => walk_at "sq"); (case k3 => walk_at "ar"); (case k4 => walk_at "lar"))
  | ((with_reducible refine' el_upto ?k0 ?k1 ?k2 ?k3 ?k4); (case k0 => walk_at "ev"); (case k1 => walk_at "eo"); (case k2 => walk_at "sq"); (case k3 => walk_at "ar"); (case k4 => walk_at "lar"))
  | ((with_reducible refine' el_rep1 ?k0 ?k1 ?k2 ?k3); (case k0 => walk_at "el"); (case k1 => walk_at "ev"); (case k2 => walk_at "ar"); (case k3 => walk_at "ar"))
  | ((with_reducible refine' el_cat ?k0 ?k1 ?k2); (case k0 => walk_at "el"); (case k1 => walk_at "el"); (case k2 => walk_at "lar"))
  | ((with_reducible refine' el_callD ?k0 ?k1); (case k0 => walk_at "ea"); (case k1 => walk_at "sp"))
  | ((with_reducible refine' el_list ?k0 ?k1); (case k0 => walk_at "ev"); (case k1 => walk_at "sq"))
  | ((with_reducible refine' el_srt ?k0 ?k1); (case k0 => walk_at "ev"); (case k1 => walk_at "sq"))
  | ((with_reducible refine' el_sortedQ ?k0 ?k1); (case k0 => walk_at "ev"); (case k1 => walk_at "sq2"))
  | ((with_reducible refine' el_rev ?k0 ?k1); (case k0 => walk_at "ev"); (case k1 => walk_at "sq"))
  | ((with_reducible refine' el_step ?k0 ?k1 ?k2); (case k0 => walk_at "ev"); (case k1 => walk_at "eo"); (case k2 => walk_at "sq")))
local macro_rules | `(tactic| walk_at "et") => `(tactic| first
  | ((with_reducible refine' et_test ?k0); (case k0 => walk_at "ev"))
  | ((with_reducible refine' et_B ?k0); (case k0 => walk_at "ev"))
  | ((with_reducible refine' et_not ?k0); (case k0 => walk_at "et"))
  | ((with_reducible refine' et_and ?k0 (fun hb => ?k1)); (case k0 => walk_at "et"); (case k1 => (walk_at "hb"; walk_at "et")))
  | ((with_reducible refine' et_or ?k0 (fun hb => ?k1)); (case k0 => walk_at "et"); (case k1 => (walk_at "hb"; walk_at "et"))))
local macro_rules | `(tactic| walk_at "ev") => `(tactic| first
  | ((with_reducible refine' ev_var ?k0); (case k0 => rfl))
  | exact ev_c
  | ((with_reducible refine' ev_add ?k0 ?k1); (case k0 => walk_at "ev"); (case k1 => walk_at "ev"))
  | ((with_reducible refine' ev_sub ?k0 ?k1); (case k0 => walk_at "ev"); (case k1 => walk_at "ev"))
  | ((with_reducible refine' ev_ixI ?k0 ?k1 ?k2 ?k3 ?k4); (case k0 => walk_at "ev"); (case k1 => walk_at "ev"); (case k2 => walk_at "sq"); (case k3 => walk_at "ar"); (case k4 => walk_at "ar"))
  | ((with_reducible refine' ev_ixT ?k0 ?k1 ?k2 ?k3); (case k0 => walk_at "ev"); (case k1 => walk_at "ev"); (case k2 => walk_at "st"); (case k3 => rfl))
  | ((with_reducible refine' ev_lt ?k0 ?k1); (case k0 => walk_at "ev"); (case k1 => walk_at "ev"))
  | ((with_reducible refine' ev_gt ?k0 ?k1); (case k0 => walk_at "ev"); (case k1 => walk_at "ev"))
  | ((with_reducible refine' ev_le ?k0 ?k1); (case k0 => walk_at "ev"); (case k1 => walk_at "ev"))
  | ((with_reducible refine' ev_ge ?k0 ?k1); (case k0 => walk_at "ev"); (case k1 => walk_at "ev"))
  | ((with_reducible refine' ev_eqI ?k0 ?k1); (case k0 => walk_at "ev"); (case k1 => walk_at "ev"))
  | ((with_reducible refine' ev_neI ?k0 ?k1); (case k0 => walk_at "ev"); (case k1 => walk_at "ev"))
  | ((with_reducible refine' ev_eqB ?k0 ?k1); (case k0 => walk_at "ev"); (case k1 => walk_at "ev"))
  | ((with_reducible refine' ev_neB ?k0 ?k1); (case k0 => walk_at "ev"); (case k1 => walk_at "ev"))
  | ((with_reducible refine' ev_eqS ?k0 ?k1); (case k0 => walk_at "ev"); (case k1 => walk_at "ev"))
  | ((with_reducible refine' ev_neS ?k0 ?k1); (case k0 => walk_at "ev"); (case k1 => walk_at "ev"))
  | ((with_reducible refine' ev_mod ?k0 ?k1 ?k2); (case k0 => walk_at "ev"); (case k1 => walk_at "ev"); (case k2 => walk_at "ar"))
  | ((with_reducible refine' ev_mul ?k0 ?k1 ?k2); (case k0 => walk_at "ev"); (case k1 => walk_at "ev"); (case k2 => walk_at "mul"))
  | ((with_reducible refine' ev_div ?k0 ?k1 ?k2); (case k0 => walk_at "ev"); (case k1 => walk_at "ev"); (case k2 => walk_at "div"))
  | ((with_reducible refine' ev_neg ?k0); (case k0 => walk_at "ev"))
  | ((with_reducible refine' ev_callD ?k0 ?k1); (case k0 => walk_at "ea"); (case k1 => walk_at "sp"))
  | ((with_reducible refine' ev_lenI ?k0 ?k1); (case k0 => walk_at "ev"); (case k1 => walk_at "sq"))
  | ((with_reducible refine' ev_lenQ ?k0 ?k1); (case k0 => walk_at "ev"); (case k1 => walk_at "sq2"))
  | ((with_reducible refine' ev_lenSet ?k0 ?k1 ?k2); (case k0 => walk_at "ev"); (case k1 => walk_at "sq2"); (case k2 => walk_at "ar"))
  | ((with_reducible refine' ev_inI ?k0 ?k1 ?k2); (case k0 => walk_at "ev"); (case k1 => walk_at "ev"); (case k2 => walk_at "sq2"))
  | ((with_reducible refine' ev_notInI ?k0 ?k1 ?k2); (case k0 => walk_at "ev"); (case k1 => walk_at "ev"); (case k2 => walk_at "sq2"))
  | ((with_reducible refine' ev_lenTxt ?k0 ?k1); (case k0 => walk_at "ev"); (case k1 => walk_at "ar"))
  | ((with_reducible refine' ev_lenS ?k0 ?k1); (case k0 => walk_at "ev"); (case k1 => walk_at "ar"))
  | ((with_reducible refine' ev_ixTxt ?k0 ?k1 ?k2 ?k3 ?k4); (case k0 => walk_at "ev"); (case k1 => walk_at "ev"); (case k2 => walk_at "ar"); (case k3 => walk_at "ar"); (case k4 => walk_at "ar"))
  | ((with_reducible refine' ev_ix2 ?k0); (case k0 => walk_at "ev"))
  | ((with_reducible refine' ev_isiI ?k0); (case k0 => walk_at "ev"))
  | ((with_reducible refine' ev_isiL ?k0 ?k1); (case k0 => walk_at "ev"); (case k1 => walk_at "hl"))
  | ((with_reducible refine' ev_isiU ?k0 ?k1); (case k0 => walk_at "ev"); (case k1 => walk_at "hl"))
  | ((with_reducible refine' ev_isiS ?k0); (case k0 => walk_at "ev"))
  | ((with_reducible refine' ev_isiB ?k0); (case k0 => walk_at "ev"))
  | ((with_reducible refine' ev_isN ?k0); (case k0 => walk_at "ev"))
  | ((with_reducible refine' ev_notN ?k0); (case k0 => walk_at "ev"))
  | ((with_reducible refine' ev_notIB ?k0 ?k1); (case k0 => walk_at "ev"); (case k1 => walk_at "ev"))
  | ((with_reducible refine' ev_neNil ?k0 ?k1); (case k0 => walk_at "ev"); (case k1 => walk_at "sq"))
  | ((with_reducible refine' ev_eqNil ?k0 ?k1); (case k0 => walk_at "ev"); (case k1 => walk_at "sq"))
  | ((with_reducible refine' ev_eqL ?k0 ?k1 ?k2 ?k3); (case k0 => walk_at "ev"); (case k1 => walk_at "ev"); (case k2 => walk_at "sq"); (case k3 => walk_at "sq"))
  | ((with_reducible refine' ev_neL ?k0 ?k1 ?k2 ?k3); (case k0 => walk_at "ev"); (case k1 => walk_at "ev"); (case k2 => walk_at "sq"); (case k3 => walk_at "sq"))
  | ((with_reducible refine' ev_min2 ?k0 ?k1); (case k0 => walk_at "ev"); (case k1 => walk_at "ev"))
  | ((with_reducible refine' ev_max2 ?k0 ?k1); (case k0 => walk_at "ev"); (case k1 => walk_at "ev"))
  | ((with_reducible refine' ev_intB ?k0); (case k0 => walk_at "ev"))
  | ((with_reducible refine' ev_andV ?k0 (fun hb => ?k1)); (case k0 => walk_at "ev"); (case k1 => (walk_at "hb"; walk_at "ev")))
  | ((with_reducible refine' ev_orV ?k0 (fun hb => ?k1)); (case k0 => walk_at "ev"); (case k1 => (walk_at "hb"; walk_at "ev")))
  | ((with_reducible refine' ev_notV ?k0); (case k0 => walk_at "ev"))
  | ((with_reducible refine' ev_ifI ?k0 (fun hb => ?k1) (fun hb => ?k2)); (case k0 => walk_at "et"); (case k1 => (walk_at "hb"; walk_at "ev")); (case k2 => (walk_at "hb"; walk_at "ev")))
  | ((with_reducible refine' ev_ifS ?k0 (fun hb => ?k1) (fun hb => ?k2)); (case k0 => walk_at "et"); (case k1 => (walk_at "hb"; walk_at "ev")); (case k2 => (walk_at "hb"; walk_at "ev"))))
local macro_rules | `(tactic| walk_at "hb") => `(tactic| (try simp only [decide_eq_true_eq, decide_eq_false_iff_not, Bool.and_eq_true, Bool.or_eq_true, Bool.or_eq_false_iff, Bool.not_eq_true', Bool.not_eq_false', beq_iff_eq] at *))
local macro_rules | `(tactic| walk_at "sp") => `(tactic| first
  | (refine' v_number ?k0 ?k1 ?k2; (case k0 => walk_at "sq"); (case k1 => walk_at "ar"); (case k2 => walk_at "ar"))
  | (refine' v_drawn ?k0 ?k1; (case k0 => walk_at "sq"); (case k1 => walk_at "ar"))
  | exact v_size
  | exact v_counts
  | (refine' v_wraps ?k0 ?k1 ?k2 ?k3 ?k4; (case k0 => walk_at "sq"); (case k1 => walk_at "ar"); (case k2 => walk_at "ar"); (case k3 => walk_at "ar"); (case k4 => walk_at "ar"))
  | (refine' v_l_wraps ?k0 ?k1 ?k2 ?k3 ?k4; (case k0 => walk_at "sq"); (case k1 => walk_at "ar"); (case k2 => walk_at "ar"); (case k3 => walk_at "ar"); (case k4 => walk_at "ar"))
  | (refine' v_cross ?k0 ?k1 ?k2 ?k3 ?k4; (case k0 => walk_at "sq"); (case k1 => walk_at "ar"); (case k2 => walk_at "ar"); (case k3 => walk_at "ar"); (case k4 => walk_at "ar"))
  | (refine' v_places ?k0 ?k1 ?k2; (case k0 => walk_at "sq"); (case k1 => walk_at "ar"); (case k2 => assumption))
  | (refine' v_letters ?k0 ?k1 ?k2; (case k0 => walk_at "sq"); (case k1 => walk_at "ar"); (case k2 => assumption))
  | (refine' v_l_places ?k0 ?k1 ?k2; (case k0 => walk_at "sq"); (case k1 => walk_at "ar"); (case k2 => assumption))
  | (refine' v_fits ?k0 ?k1 ?k2 ?k3; (case k0 => walk_at "sq"); (case k1 => walk_at "ar"); (case k2 => walk_at "ar"); (case k3 => walk_at "ar"))
  | (refine' v_none ?k0 ?k1 ?k2; (case k0 => walk_at "sq"); (case k1 => walk_at "ar"); (case k2 => walk_at "ar")))
local macro_rules | `(tactic| walk_at "sp") => `(tactic| first
  | (refine' v_turned ?k0 ?k1 ?k2; (case k0 => walk_at "sq"); (case k1 => walk_at "ar"); (case k2 => assumption))
  | (refine' v_same ?k0 ?k1 ?k2; (case k0 => walk_at "hl"); (case k1 => walk_at "sq"); (case k2 => walk_at "ar"))
  | (refine' v_told ?k0 ?k1 ?k2; (case k0 => walk_at "sq"); (case k1 => walk_at "hl"); (case k2 => assumption))
  | (refine' v_parted ?k0 ?k1 ?k2 ?k3; (case k0 => walk_at "sq"); (case k1 => walk_at "ar"); (case k2 => walk_at "ar"); (case k3 => assumption)))
local macro_rules | `(tactic| walk_at "sp") => `(tactic| first
  | (refine' v_is_pile ?k0 ?k1 ?k2 ?k3; (case k0 => walk_at "hl"); (case k1 => assumption); (case k2 => walk_at "ar"); (case k3 => walk_at "ar")))
local macro_rules | `(tactic| walk_at "sp") => `(tactic| first
  | (refine' v_held ?k0 ?k1 ?k2 ?k3 ?k4 ?k5; (case k0 => walk_at "sq"); (case k1 => walk_at "st"); (case k2 => walk_at "ar"); (case k3 => (refine ⟨?_, ?_⟩ <;> walk_at "ar")); (case k4 => (refine ⟨?_, ?_⟩ <;> walk_at "ar")); (case k5 => (refine ⟨?_, ?_⟩ <;> walk_at "ar")))
  | (refine' v_l_held ?k0 ?k1 ?k2 ?k3 ?k4; (case k0 => walk_at "sq"); (case k1 => walk_at "ar"); (case k2 => (refine ⟨?_, ?_⟩ <;> walk_at "ar")); (case k3 => (refine ⟨?_, ?_⟩ <;> walk_at "ar")); (case k4 => (refine ⟨?_, ?_⟩ <;> walk_at "ar")))
  | (refine' v_lies ?k0 ?k1 ?k2 ?k3 ?k4; (case k0 => walk_at "sq"); (case k1 => walk_at "st"); (case k2 => walk_at "ar"); (case k3 => (refine ⟨?_, ?_⟩ <;> walk_at "ar")); (case k4 => (refine ⟨?_, ?_⟩ <;> walk_at "ar")))
  | (refine' v_judged ?k0 ?k1 ?k2 ?k3; (case k0 => walk_at "sq"); (case k1 => walk_at "ar"); (case k2 => assumption); (case k3 => assumption))
  | (refine' v_l_free ?k0 ?k1 ?k2 ?k3 ?k4 ?k5; (case k0 => walk_at "sq"); (case k1 => walk_at "sq"); (case k2 => walk_at "ar"); (case k3 => walk_at "ar"); (case k4 => walk_at "ar"); (case k5 => assumption))
  | (refine' v_are_free ?k0 ?k1 ?k2 ?k3 ?k4 ?k5; (case k0 => walk_at "sq"); (case k1 => walk_at "sq2"); (case k2 => walk_at "ar"); (case k3 => walk_at "ar"); (case k4 => walk_at "ar"); (case k5 => assumption)))
section
variable {K : PySem.W.Frag} {c : Cs}
theorem read_l_places (vs : List V) (H : Hp) (Q : VK) (E : XK) (h : sp_l_places K c vs H Q E) : t_l_places K c E { nx := fun _ H' => Q .non H', rt := Q } (start ["_law_pile_here", "_law_at", "_law_k"] vs) H := by
  obtain ⟨a, ns, rfl, hS, hlen, pp, q⟩ := h
  have hps := pp.pos
  refine Go.here (g_asgL (xs := List.replicate (ns.length : Int).toNat (.int 0)) (by walk_at "el") fun p H1 hp e1 hl => ?_)
  have e0 : List.replicate (ns.length : Int).toNat (V.int 0) = (plD 0 ns 0).map V.int := by rw [plD_zero, List.map_replicate]; rfl
  rw [e0] at hl
  refine g_forR1 (n := (ns.length : Int)) (by walk_at "ea") (by omega) (fun i σ H' => ∃ y2 : Option V, σ = [some (.ref a), some (.ref p), y2] ∧ Ex H H' ∧ H' p = some (.lst ((plD 0 ns i).map V.int)))
    (fun H2 e2 => ⟨none, rfl, e1.trans e2, e2 p _ hl⟩) (fun i σ H' hi hP => ?_) (fun σ H' hP => ?_) (by omega)
  · obtain ⟨y2, rfl, e, hl'⟩ := hP
    have hin : i < ns.length := by omega
    obtain ⟨z0, z1, _⟩ := pp.st (k := (i : Int)) (by omega) (by omega)
    have hz := gi_get hin
    have hlF := plD_len 0 ns i
    have hnew : gi ns (i : Int) ∉ ns.take i := fun hm => by
      have nd2 := pp.nd
      rw [← List.take_append_drop i ns] at nd2
      have hd : gi ns (i : Int) ∈ ns.drop i := by
        have : (ns.drop i)[0]? = some (gi ns (i : Int)) := by rw [List.getElem?_drop]; exact hz
        exact List.mem_of_getElem? this
      exact (List.nodup_append.mp nd2).2.2 _ hm _ hd rfl
    refine g_setL (xs := (plD 0 ns i).map V.int) hl' (v := .int (i : Int)) (j := gi ns (i : Int)) (by walk_at "ev") (by walk_at "ev") (by walk_at "ev") z0 (by rw [List.length_map, hlF]; exact z1) fun H2 e2 => ?_
    refine g_next (D := _) (fun H3 e3 => ?_) _ (Ex.refl _)
    have e4 : ((plD 0 ns i).map V.int).set (gi ns (i : Int)).toNat (V.int (i : Int)) = (plD 0 ns (i + 1)).map V.int := by rw [← plD_set hz z0 z1 hnew, List.map_set]
    refine ⟨some (.int (i : Int)), rfl, (Ex.mut (e.trans e2) hp).trans e3, ?_⟩
    rw [← e4]
    exact e3 p _ upd_same
  · obtain ⟨y2, rfl, e, hl'⟩ := hP
    rw [show ((ns.length : Nat) : Int).toNat = ns.length from rfl, plD_end pp] at hl'
    exact g_ret (v := .ref p) (by walk_at "ev") fun H2 e2 => q p H2 hp (e.trans e2) (e2 p _ hl')

theorem read_l_fits (vs : List V) (H : Hp) (Q : VK) (E : XK) (h : sp_l_fits K c vs H Q E) : t_l_fits K c E { nx := fun _ H' => Q .non H', rt := Q } (start ["_law_at", "_law_stamp", "_law_gap", "_law_crease", "_law_low", "_law_high"] vs) H := by
  obtain ⟨a, p, s, g, rfl, hS, ⟨hs, s1, s2⟩, q⟩ := h
  subst hs
  have m0 : 0 ≤ ((p.length : Int) + 1) % 2 := Int.emod_nonneg _ (by decide)
  have m1 : ((p.length : Int) + 1) % 2 < 2 := Int.emod_lt_of_pos _ (by decide)
  refine Go.here ?_
  refine g_forR3 (lo := ((p.length : Int) + 1) % 2) (n := (p.length : Int) - 1) (by walk_at "ea") (by omega) (fun m σ H' => ∃ y3 y4 y5 : Option V, σ = [some (.ref a), some (.int (p.length : Int)), some (.int g), y3, y4, y5] ∧ Ex H H' ∧ ∀ c : Int, 0 ≤ c → c < ((p.length : Int) + 1) % 2 + (m : Int) * 2 → ((p.length : Int) - 1 - c) % 2 = 0 → c + 1 < (p.length : Int) - 1 → fitB p g c = true)
    (fun H2 e2 => ⟨none, none, none, rfl, e2, fun c c0 c1 c2 c3 => by omega⟩) (fun m σ H' hm hP => ?_) (fun σ H' hP => ?_)
  · obtain ⟨y3, y4, y5, rfl, e, hn⟩ := hP
    generalize hk : ((p.length : Int) + 1) % 2 + (m : Int) * 2 = k at *
    have k0 : 0 ≤ k := by omega
    refine g_asg (v := .int (lo (gi p k) (gi p (k + 1)))) (ev_min2 (by walk_at "ev") (by walk_at "ev")) ?_
    refine g_asg (v := .int (hi (gi p k) (gi p (k + 1)))) (ev_max2 (by walk_at "ev") (by walk_at "ev")) ?_
    refine g_when (b := !(fitB p g k)) (by unfold fitB wrB; walk_at "et") (fun hb => ?_) (fun hb => ?_)
    · refine g_ret (v := .bl false) ev_c fun H3 e3 => ?_
      have hf : fitsB p g = false := by
        rw [Bool.eq_false_iff]
        intro z
        have hz := (fitsB_iff p g).mp z k k0 (by omega) (by omega)
        rw [hz] at hb
        exact Bool.noConfusion hb
      rw [← hf]
      exact q H3 (e.trans e3)
    · refine g_next fun H3 e3 => ⟨_, _, _, rfl, e.trans e3, fun c c0 c1 c2 c3 => ?_⟩
      by_cases h : c = k
      · rw [h]
        simpa using hb
      · exact hn c c0 (by omega) c2 c3
  · obtain ⟨y3, y4, y5, rfl, e, hn⟩ := hP
    refine g_ret (v := .bl true) ev_c fun H3 e3 => ?_
    have ht : fitsB p g = true := (fitsB_iff p g).mpr fun c c0 c1 c2 => hn c c0 (by omega) c2 c1
    rw [← ht]
    exact q H3 (e.trans e3)

theorem one_pile : IsPile [0] := ⟨by decide, by decide, by decide⟩
theorem one_noX : NoX (pl [0]) := fun i j x => by
  have h1 := x.i0
  have h2 := x.ij
  have h3 := x.jn
  rw [pl_len] at h3
  simp at h3
  omega
theorem read_l_good (vs : List V) (H : Hp) (Q : VK) (E : XK) (h : sp_l_good K c vs H Q E) : t_l_good K c E { nx := fun _ H' => Q .non H', rt := Q } (start ["_law_script", "_law_start", "_law_size_here", "_law_pile_here", "_law_stamp", "_law_at", "_law_number_here", "_law_gap"] vs) H := by
  obtain ⟨a, ns, s, n, rfl, hS, h0, h1, h2, h3, q⟩ := h
  refine Go.here (g_asgL (xs := [.int 0]) (by walk_at "el") fun p H1 hp e1 hl => ?_)
  refine g_forR2 (lo := 1) (n := n) (by walk_at "ea") (by omega) (fun i σ H' => ∃ (p : Addr) (ps : List Int) (y4 y5 y6 y7 : Option V), σ = [some (.ref a), some (.int s), some (.int n), some (.ref p), y4, y5, y6, y7] ∧ Ex H H' ∧ H p = none ∧ H' p = some (.lst (ps.map V.int)) ∧ Per (i + 1) ps ∧ NoX (pl ps))
    (fun H2 e2 => ⟨p, [0], none, none, none, none, rfl, e1.trans e2, hp, e2 p _ hl, one_pile.per, one_noX⟩) (fun i σ H' hi hP => ?_) (fun σ H' hP => ?_)
  · obtain ⟨p, ps, y4, y5, y6, y7, rfl, e, hp, hl, per, nx⟩ := hP
    have pp := per.pile (by omega)
    have hlen := per.len
    have hpl := pl_len ps
    have e1i : (1 : Int) + (i : Int) = ((i + 1 : Nat) : Int) := by omega
    refine g_asgL (xs := (pl ps).map V.int) (by walk_at "el") fun r H2 hr e2 hl2 => ?_
    refine g_asg (v := .int (numb ns (s + (1 + (i : Int))))) (by walk_at "ev") ?_
    have hn0 := numb_lo ns (s + (1 + (i : Int)))
    generalize numb ns (s + (1 + (i : Int))) = nu at hn0 ⊢
    refine g_asg (v := .int (nu % (1 + (i : Int) + 1))) (by walk_at "ev") ?_
    have g0 : 0 ≤ nu % (1 + (i : Int) + 1) := Int.emod_nonneg _ (by omega)
    have g1 : nu % (1 + (i : Int) + 1) < 1 + (i : Int) + 1 := Int.emod_lt_of_pos _ (by omega)
    generalize nu % (1 + (i : Int) + 1) = g at g0 g1 ⊢
    have fin : ∀ (g' : Int), 0 ≤ g' → g' ≤ 1 + (i : Int) → Fits (pl ps) g' → ∀ H3, Ex H2 H3 → Go (tSeq (tAsg (tOp rCat (tOp rCat (tSl (rSlL K) (tVar 3) tNoPart (tPart (tVar 7))) (tLst (tCons (tVar 4) tNil))) (tSl (rSlL K) (tVar 3) (tPart (tVar 7)) tNoPart)) (gName 3)) tNext)
        { nx := fun σ H' => ∃ (p : Addr) (ps : List Int) (y4 y5 y6 y7 : Option V), σ = [some (.ref a), some (.int s), some (.int n), some (.ref p), y4, y5, y6, y7] ∧ Ex H H' ∧ H p = none ∧ H' p = some (.lst (ps.map V.int)) ∧ Per (i + 1 + 1) ps ∧ NoX (pl ps),
          rt := Q, bk := (tSeq (tRet (tVar 3)) tNext { nx := fun _ H' => Q .non H', rt := Q }), ct := fun σ H' => ∃ (p : Addr) (ps : List Int) (y4 y5 y6 y7 : Option V), σ = [some (.ref a), some (.int s), some (.int n), some (.ref p), y4, y5, y6, y7] ∧ Ex H H' ∧ H p = none ∧ H' p = some (.lst (ps.map V.int)) ∧ Per (i + 1 + 1) ps ∧ NoX (pl ps) }
        [some (.ref a), some (.int s), some (.int n), some (.ref p), some (.int (1 + (i : Int))), some (.ref r), some (.int nu), some (.int g')] H3 := fun g' g0' g1' hf H3 e3 => by
      refine g_asgL (xs := (ps.map V.int).take g'.toNat ++ [V.int (1 + (i : Int))] ++ (ps.map V.int).drop g'.toNat) (by walk_at "el") fun p' H4 hp' e4 hl' => ?_
      refine g_next fun H5 e5 => ?_
      rw [put_map, e1i] at hl'
      refine ⟨p', put ps g' ((i + 1 : Nat) : Int), _, _, _, _, rfl, ((e.trans e2).trans e3).trans (e4.trans e5), fresh_back ((e.trans e2).trans e3) hp', e5 p' _ hl', per.put g', ?_⟩
      exact (noX_next (next_put per (by omega) g0' (by omega))).mpr ⟨nx, hf⟩
    obtain ⟨z0, z1, _⟩ := pp.at (s := (i : Int)) (by omega) (by omega)
    have ez : (1 : Int) + (i : Int) - 1 = (i : Int) := by omega
    refine g_when (b := !(fitsB (pl ps) g)) (by walk_at "et") (fun hb => ?_) (fun hb => ?_)
    · have w0 : 0 ≤ nu / 64 % 2 := Int.emod_nonneg _ (by decide)
      have w1 : nu / 64 % 2 < 2 := Int.emod_lt_of_pos _ (by decide)
      refine g_asg (v := .int (gi (pl ps) (1 + (i : Int) - 1) + nu / 64 % 2)) (by walk_at "ev") (g_nextS ?_)
      rw [ez]
      refine fin _ (by omega) (by omega) (fits_beside pp ?_) H2 (Ex.refl _)
      have e5 : (ps.length : Int) - 1 = (i : Int) := by omega
      rw [e5]
      omega
    · refine fin g g0 (by omega) ((fitsB_iff _ _).mp (by simpa using hb)) H2 (Ex.refl _)
  · obtain ⟨p, ps, y4, y5, y6, y7, rfl, e, hp, hl, per, nx⟩ := hP
    refine g_ret (v := .ref p) (by walk_at "ev") fun H2 e2 => ?_
    exact q _ p H2 ⟨ps, rfl, per.pile (by omega), by rw [per.len]; omega, nx⟩ hp (e.trans e2) (e2 p _ hl)
end
end Fo
/-! FoldR10 -/
namespace Fo
open PySem L2 Evl
local macro_rules | `(tactic| walk_at "hl") => `(tactic| first
  | assumption
  | exact upd_same
  | (refine (by assumption : Ex _ _) _ _ ?_; walk_at "hl"))
local macro_rules | `(tactic| walk_at "sq") => `(tactic| first
  | assumption
  | (refine sq_lst ?_; walk_at "hl")
  | (refine ex_l (by assumption) ?_; walk_at "sq"))
local macro_rules | `(tactic| walk_at "st") => `(tactic| first
  | assumption
  | (refine st_of ?_; walk_at "hl")
  | (refine ex_t (by assumption) ?_; walk_at "st"))
local macro_rules | `(tactic| walk_at "sq2") => `(tactic| first
  | assumption
  | (refine Or.inl ?_; walk_at "sq")
  | (refine Or.inr ?_; walk_at "st")
  | (refine Sq2.mono (by assumption) ?_; walk_at "sq2"))
local macro_rules | `(tactic| walk_at "ar") => `(tactic| first
  | assumption
  | omega
  | decide)
local macro_rules | `(tactic| walk_at "lar") => `(tactic| first
  | omega
  | (simp only [List.length_append, List.length_map, List.length_take, List.length_drop, List.length_cons, List.length_nil, List.length_replicate]; omega))
local macro_rules | `(tactic| walk_at "hb") => `(tactic| first
  | skip)
local macro_rules | `(tactic| walk_at "mul") => `(tactic| first
  | (exact Or.inr ⟨by decide, by decide⟩)
  | (exact Or.inl ⟨by decide, by decide⟩)
  | (exact Or.inl ⟨by omega, by omega⟩)
  | (exact Or.inr ⟨by omega, by omega⟩))
local macro_rules | `(tactic| walk_at "div") => `(tactic| first
  | (exact ⟨by decide, by decide⟩)
  | (exact ⟨by omega, by omega⟩))
local macro_rules | `(tactic| walk_at "ea") => `(tactic| first
  | exact ea_nil
  | ((with_reducible refine' ea_cons ?k0 ?k1); (case k0 => walk_at "ev"); (case k1 => walk_at "ea")))
local macro_rules | `(tactic| walk_at "eo") => `(tactic| first
  | exact eo_none
  | ((with_reducible refine' eo_some ?k0); (case k0 => walk_at "ev")))
local macro_rules | `(tactic| walk_at "el") => `(tactic| first
  | ((with_reducible refine' el_lst ?k0 ?k1); (case k0 => walk_at "ea"); (case k1 => (exact Nat.le_of_ble_eq_true rfl)))
  | ((with_reducible refine' el_from ?k0 ?k1 ?k2 ?k3 ?k4); (case k0 => walk_at "ev"); (case k1 => walk_at "eo"); (case k2 => walk_at "sq"); (case k3 => walk_at "ar"); (case k4 => walk_at "lar"))
  | ((with_reducible refine' el_upto ?k0 ?k1 ?k2 ?k3 ?k4); (case k0 => walk_at "ev"); (case k1 => walk_at "eo"); (case k2 => walk_at "sq"); (case k3 => walk_at "ar"); (case k4 => walk_at "lar"))
  | ((with_reducible refine' el_rep1 ?k0 ?k1 ?k2 ?k3); (case k0 => walk_at "el"); (case k1 => walk_at "ev"); (case k2 => walk_at "ar"); (case k3 => walk_at "ar"))
  | ((with_reducible refine' el_cat ?k0 ?k1 ?k2); (case k0 => walk_at "el"); (case k1 => walk_at "el"); (case k2 => walk_at "lar"))
  | ((with_reducible refine' el_callD ?k0 ?k1); (case k0 => walk_at "ea"); (case k1 => walk_at "sp"))
  | ((with_reducible refine' el_list ?k0 ?k1); (case k0 => walk_at "ev"); (case k1 => walk_at "sq"))
  | ((with_reducible refine' el_srt ?k0 ?k1); (case k0 => walk_at "ev"); (case k1 => walk_at "sq"))
  | ((with_reducible refine' el_sortedQ ?k0 ?k1); (case k0 => walk_at "ev"); (case k1 => walk_at "sq2"))
  | ((with_reducible refine' el_rev ?k0 ?k1); (case k0 => walk_at "ev"); (case k1 => walk_at "sq"))
  | ((with_reducible refine' el_step ?k0 ?k1 ?k2); (case k0 => walk_at "ev"); (case k1 => walk_at "eo"); (case k2 => walk_at "sq")))
local macro_rules | `(tactic| walk_at "et") => `(tactic| first
  | ((with_reducible refine' et_test ?k0); (case k0 => walk_at "ev"))
  | ((with_reducible refine' et_B ?k0); (case k0 => walk_at "ev"))
  | ((with_reducible refine' et_not ?k0); (case k0 => walk_at "et"))
  | ((with_reducible refine' et_and ?k0 (fun hb => ?k1)); (case k0 => walk_at "et"); (case k1 => (walk_at "hb"; walk_at "et")))
  | ((with_reducible refine' et_or ?k0 (fun hb => ?k1)); (case k0 => walk_at "et"); (case k1 => (walk_at "hb"; walk_at "et"))))
local macro_rules | `(tactic| walk_at "ev") => `(tactic| first
  | ((with_reducible refine' ev_var ?k0); (case k0 => rfl))
  | exact ev_c
  | ((with_reducible refine' ev_add ?k0 ?k1); (case k0 => walk_at "ev"); (case k1 => walk_at "ev"))
  | ((with_reducible refine' ev_sub ?k0 ?k1); (case k0 => walk_at "ev"); (case k1 => walk_at "ev"))
  | ((with_reducible refine' ev_ixI ?k0 ?k1 ?k2 ?k3 ?k4); (case k0 => walk_at "ev"); (case k1 => walk_at "ev"); (case k2 => walk_at "sq"); (case k3 => walk_at "ar"); (case k4 => walk_at "ar"))
  | ((with_reducible refine' ev_ixT ?k0 ?k1 ?k2 ?k3); (case k0 => walk_at "ev"); (case k1 => walk_at "ev"); (case k2 => walk_at "st"); (case k3 => rfl))
  | ((with_reducible refine' ev_lt ?k0 ?k1); (case k0 => walk_at "ev"); (case k1 => walk_at "ev"))
  | ((with_reducible refine' ev_gt ?k0 ?k1); (case k0 => walk_at "ev"); (case k1 => walk_at "ev"))
  | ((with_reducible refine' ev_le ?k0 ?k1); (case k0 => walk_at "ev"); (case k1 => walk_at "ev"))
  | ((with_reducible refine' ev_ge ?k0 ?k1); (case k0 => walk_at "ev"); (case k1 => walk_at "ev"))
  | ((with_reducible refine' ev_eqI ?k0 ?k1); (case k0 => walk_at "ev"); (case k1 => walk_at "ev"))
  | ((with_reducible refine' ev_neI ?k0 ?k1); (case k0 => walk_at "ev"); (case k1 => walk_at "ev"))
  | ((with_reducible refine' ev_eqB ?k0 ?k1); (case k0 => walk_at "ev"); (case k1 => walk_at "ev"))
  | ((with_reducible refine' ev_neB ?k0 ?k1); (case k0 => walk_at "ev"); (case k1 => walk_at "ev"))
  | ((with_reducible refine' ev_eqS ?k0 ?k1); (case k0 => walk_at "ev"); (case k1 => walk_at "ev"))
  | ((with_reducible refine' ev_neS ?k0 ?k1); (case k0 => walk_at "ev"); (case k1 => walk_at "ev"))
  | ((with_reducible refine' ev_mod ?k0 ?k1 ?k2); (case k0 => walk_at "ev"); (case k1 => walk_at "ev"); (case k2 => walk_at "ar"))
  | ((with_reducible refine' ev_mul ?k0 ?k1 ?k2); (case k0 => walk_at "ev"); (case k1 => walk_at "ev"); (case k2 => walk_at "mul"))
  | ((with_reducible refine' ev_div ?k0 ?k1 ?k2); (case k0 => walk_at "ev"); (case k1 => walk_at "ev"); (case k2 => walk_at "div"))
  | ((with_reducible refine' ev_neg ?k0); (case k0 => walk_at "ev"))
  | ((with_reducible refine' ev_callD ?k0 ?k1); (case k0 => walk_at "ea"); (case k1 => walk_at "sp"))
  | ((with_reducible refine' ev_lenI ?k0 ?k1); (case k0 => walk_at "ev"); (case k1 => walk_at "sq"))
  | ((with_reducible refine' ev_lenQ ?k0 ?k1); (case k0 => walk_at "ev"); (case k1 => walk_at "sq2"))
  | ((with_reducible refine' ev_lenSet ?k0 ?k1 ?k2); (case k0 => walk_at "ev"); (case k1 => walk_at "sq2"); (case k2 => walk_at "ar"))
  | ((with_reducible refine' ev_inI ?k0 ?k1 ?k2); (case k0 => walk_at "ev"); (case k1 => walk_at "ev"); (case k2 => walk_at "sq2"))
  | ((with_reducible refine' ev_notInI ?k0 ?k1 ?k2); (case k0 => walk_at "ev"); (case k1 => walk_at "ev"); (case k2 => walk_at "sq2"))
  | ((with_reducible refine' ev_lenTxt ?k0 ?k1); (case k0 => walk_at "ev"); (case k1 => walk_at "ar"))
  | ((with_reducible refine' ev_lenS ?k0 ?k1); (case k0 => walk_at "ev"); (case k1 => walk_at "ar"))
  | ((with_reducible refine' ev_ixTxt ?k0 ?k1 ?k2 ?k3 ?k4); (case k0 => walk_at "ev"); (case k1 => walk_at "ev"); (case k2 => walk_at "ar"); (case k3 => walk_at "ar"); (case k4 => walk_at "ar"))
  | ((with_reducible refine' ev_ix2 ?k0); (case k0 => walk_at "ev"))
  | ((with_reducible refine' ev_isiI ?k0); (case k0 => walk_at "ev"))
  | ((with_reducible refine' ev_isiL ?k0 ?k1); (case k0 => walk_at "ev"); (case k1 => walk_at "hl"))
  | ((with_reducible refine' ev_isiU ?k0 ?k1); (case k0 => walk_at "ev"); (case k1 => walk_at "hl"))
  | ((with_reducible refine' ev_isiS ?k0); (case k0 => walk_at "ev"))
  | ((with_reducible refine' ev_isiB ?k0); (case k0 => walk_at "ev"))
  | ((with_reducible refine' ev_isN ?k0); (case k0 => walk_at "ev"))
  | ((with_reducible refine' ev_notN ?k0); (case k0 => walk_at "ev"))
  | ((with_reducible refine' ev_notIB ?k0 ?k1); (case k0 => walk_at "ev"); (case k1 => walk_at "ev"))
  | ((with_reducible refine' ev_neNil ?k0 ?k1); (case k0 => walk_at "ev"); (case k1 => walk_at "sq"))
  | ((with_reducible refine' ev_eqNil ?k0 ?k1); (case k0 => walk_at "ev"); (case k1 => walk_at "sq"))
  | ((with_reducible refine' ev_eqL ?k0 ?k1 ?k2 ?k3); (case k0 => walk_at "ev"); (case k1 => walk_at "ev"); (case k2 => walk_at "sq"); (case k3 => walk_at "sq"))
  | ((with_reducible refine' ev_neL ?k0 ?k1 ?k2 ?k3); (case k0 => walk_at "ev"); (case k1 => walk_at "ev"); (case k2 => walk_at "sq"); (case k3 => walk_at "sq"))
  | ((with_reducible refine' ev_min2 ?k0 ?k1); (case k0 => walk_at "ev"); (case k1 => walk_at "ev"))
  | ((with_reducible refine' ev_max2 ?k0 ?k1); (case k0 => walk_at "ev"); (case k1 => walk_at "ev"))
  | ((with_reducible refine' ev_intB ?k0); (case k0 => walk_at "ev"))
  | ((with_reducible refine' ev_andV ?k0 (fun hb => ?k1)); (case k0 => walk_at "ev"); (case k1 => (walk_at "hb"; walk_at "ev")))
  | ((with_reducible refine' ev_orV ?k0 (fun hb => ?k1)); (case k0 => walk_at "ev"); (case k1 => (walk_at "hb"; walk_at "ev")))
  | ((with_reducible refine' ev_notV ?k0); (case k0 => walk_at "ev"))
  | ((with_reducible refine' ev_ifI ?k0 (fun hb => ?k1) (fun hb => ?k2)); (case k0 => walk_at "et"); (case k1 => (walk_at "hb"; walk_at "ev")); (case k2 => (walk_at "hb"; walk_at "ev")))
  | ((with_reducible refine' ev_ifS ?k0 (fun hb => ?k1) (fun hb => ?k2)); (case k0 => walk_at "et"); (case k1 => (walk_at "hb"; walk_at "ev")); (case k2 => (walk_at "hb"; walk_at "ev"))))
local macro_rules | `(tactic| walk_at "hb") => `(tactic| (try simp only [decide_eq_true_eq, decide_eq_false_iff_not, Bool.and_eq_true, Bool.or_eq_true, Bool.or_eq_false_iff, Bool.not_eq_true', Bool.not_eq_false', beq_iff_eq] at *))
local macro_rules | `(tactic| walk_at "sp") => `(tactic| first
  | (refine' v_number ?k0 ?k1 ?k2; (case k0 => walk_at "sq"); (case k1 => walk_at "ar"); (case k2 => walk_at "ar"))
  | (refine' v_drawn ?k0 ?k1; (case k0 => walk_at "sq"); (case k1 => walk_at "ar"))
  | exact v_size
  | exact v_counts
  | (refine' v_wraps ?k0 ?k1 ?k2 ?k3 ?k4; (case k0 => walk_at "sq"); (case k1 => walk_at "ar"); (case k2 => walk_at "ar"); (case k3 => walk_at "ar"); (case k4 => walk_at "ar"))
  | (refine' v_l_wraps ?k0 ?k1 ?k2 ?k3 ?k4; (case k0 => walk_at "sq"); (case k1 => walk_at "ar"); (case k2 => walk_at "ar"); (case k3 => walk_at "ar"); (case k4 => walk_at "ar"))
  | (refine' v_cross ?k0 ?k1 ?k2 ?k3 ?k4; (case k0 => walk_at "sq"); (case k1 => walk_at "ar"); (case k2 => walk_at "ar"); (case k3 => walk_at "ar"); (case k4 => walk_at "ar"))
  | (refine' v_places ?k0 ?k1 ?k2; (case k0 => walk_at "sq"); (case k1 => walk_at "ar"); (case k2 => assumption))
  | (refine' v_letters ?k0 ?k1 ?k2; (case k0 => walk_at "sq"); (case k1 => walk_at "ar"); (case k2 => assumption))
  | (refine' v_l_places ?k0 ?k1 ?k2; (case k0 => walk_at "sq"); (case k1 => walk_at "ar"); (case k2 => assumption))
  | (refine' v_fits ?k0 ?k1 ?k2 ?k3; (case k0 => walk_at "sq"); (case k1 => walk_at "ar"); (case k2 => walk_at "ar"); (case k3 => walk_at "ar"))
  | (refine' v_none ?k0 ?k1 ?k2; (case k0 => walk_at "sq"); (case k1 => walk_at "ar"); (case k2 => walk_at "ar")))
local macro_rules | `(tactic| walk_at "sp") => `(tactic| first
  | (refine' v_turned ?k0 ?k1 ?k2; (case k0 => walk_at "sq"); (case k1 => walk_at "ar"); (case k2 => assumption))
  | (refine' v_same ?k0 ?k1 ?k2; (case k0 => walk_at "hl"); (case k1 => walk_at "sq"); (case k2 => walk_at "ar"))
  | (refine' v_told ?k0 ?k1 ?k2; (case k0 => walk_at "sq"); (case k1 => walk_at "hl"); (case k2 => assumption))
  | (refine' v_parted ?k0 ?k1 ?k2 ?k3; (case k0 => walk_at "sq"); (case k1 => walk_at "ar"); (case k2 => walk_at "ar"); (case k3 => assumption)))
local macro_rules | `(tactic| walk_at "sp") => `(tactic| first
  | (refine' v_is_pile ?k0 ?k1 ?k2 ?k3; (case k0 => walk_at "hl"); (case k1 => assumption); (case k2 => walk_at "ar"); (case k3 => walk_at "ar")))
local macro_rules | `(tactic| walk_at "sp") => `(tactic| first
  | (refine' v_held ?k0 ?k1 ?k2 ?k3 ?k4 ?k5; (case k0 => walk_at "sq"); (case k1 => walk_at "st"); (case k2 => walk_at "ar"); (case k3 => (refine ⟨?_, ?_⟩ <;> walk_at "ar")); (case k4 => (refine ⟨?_, ?_⟩ <;> walk_at "ar")); (case k5 => (refine ⟨?_, ?_⟩ <;> walk_at "ar")))
  | (refine' v_l_held ?k0 ?k1 ?k2 ?k3 ?k4; (case k0 => walk_at "sq"); (case k1 => walk_at "ar"); (case k2 => (refine ⟨?_, ?_⟩ <;> walk_at "ar")); (case k3 => (refine ⟨?_, ?_⟩ <;> walk_at "ar")); (case k4 => (refine ⟨?_, ?_⟩ <;> walk_at "ar")))
  | (refine' v_lies ?k0 ?k1 ?k2 ?k3 ?k4; (case k0 => walk_at "sq"); (case k1 => walk_at "st"); (case k2 => walk_at "ar"); (case k3 => (refine ⟨?_, ?_⟩ <;> walk_at "ar")); (case k4 => (refine ⟨?_, ?_⟩ <;> walk_at "ar")))
  | (refine' v_judged ?k0 ?k1 ?k2 ?k3; (case k0 => walk_at "sq"); (case k1 => walk_at "ar"); (case k2 => assumption); (case k3 => assumption))
  | (refine' v_l_free ?k0 ?k1 ?k2 ?k3 ?k4 ?k5; (case k0 => walk_at "sq"); (case k1 => walk_at "sq"); (case k2 => walk_at "ar"); (case k3 => walk_at "ar"); (case k4 => walk_at "ar"); (case k5 => assumption))
  | (refine' v_are_free ?k0 ?k1 ?k2 ?k3 ?k4 ?k5; (case k0 => walk_at "sq"); (case k1 => walk_at "sq2"); (case k2 => walk_at "ar"); (case k3 => walk_at "ar"); (case k4 => walk_at "ar"); (case k5 => assumption)))
section
variable {K : PySem.W.Frag} {c : Cs}
theorem read_judged (vs : List V) (H : Hp) (Q : VK) (E : XK) (h : sp_judged K c vs H Q E) : t_judged K c E { nx := fun _ H' => Q .non H', rt := Q } (start ["pile", "found"] vs) H := by
  obtain ⟨a, ns, rfl, hS, hlen, nx, q, x⟩ := h
  by_cases hp : IsPile ns
  · refine Go.here (g_cross (ns := ns) (by walk_at "ea") hS hlen hp (fun _ => ?_) (fun i j r H1 xx => absurd xx (nx i j)))
    refine g_no (et_is (by walk_at "et") (by simp)) (g_nextS ?_)
    exact g_retL (xs := (pl ns).map V.int) (by walk_at "el") fun p H1 h1 e1 hl => q hp p H1 h1 e1 hl
  · refine Go.here (g_asgX ?_)
    refine evx_call (vs := [.ref a]) (by walk_at "ea") fun H1 e Q' => ?_
    exact ⟨a, ns, rfl, ex_l e hS, hlen, .no hp fun H' e' => x hp H' (e.trans e')⟩

theorem read_parts_of (vs : List V) (H : Hp) (Q : VK) (E : XK) (h : sp_parts_of K c vs H Q E) : t_parts_of K c E { nx := fun _ H' => Q .non H', rt := Q } (start ["size", "creases", "parts", "first", "crease"] vs) H := by
  obtain ⟨n, a, cs, rfl, hS, hlen, q⟩ := h
  have hel := ends_len n cs
  refine Go.here (g_asgL (xs := []) (by walk_at "el") fun p H1 hp e1 hl => ?_)
  refine g_asg (v := .int 0) ev_c ?_
  have hes : EvL (tOp rCat (tCB (rSortedQ K) (tCons (tVar 1) tNil)) (tLst (tCons (tOp (rI0 fun i j => .int (i - j)) (tVar 0) (tC (.int 1))) tNil))) [some (.int n), some (.ref a), some (.ref p), some (.int 0), none] H1 ((endsOf n cs).map V.int) := by
    have e : (endsOf n cs).map V.int = (srt cs).map V.int ++ [.int (n - 1)] := by unfold endsOf; rw [List.map_append]; rfl
    rw [e]
    have hsl := srt_len cs
    exact el_cat (el_sortedQ (ev_var rfl) (hS.mono e1)) (by walk_at "el") (by simp only [List.length_map, List.length_cons, List.length_nil]; omega)
  refine g_forN hes (fun r i σ H' => ∃ (ts : List Addr) (y : Option V), σ = [some (.int n), some (.ref a), some (.ref p), some (.int (firstOf (endsOf n cs) i)), y] ∧ Ex H H' ∧ H' r = some (.lst ((endsOf n cs).map V.int)) ∧ r ≠ p ∧ H' p = some (.lst (ts.map V.ref)) ∧ p ∉ ts ∧ Tups H' ts ((partsOf (endsOf n cs)).take i))
    (fun r H2 hr e2 h2 => ⟨[], none, rfl, e1.trans e2, h2, (fun z => by rw [z, hl] at hr; cases hr), e2 p _ hl, by simp, by simp [Tups]⟩) (fun r i σ H' _ hP => ?_) (fun r i x σ H' hx hP => ?_) (fun r σ H' hP => ?_)
  · obtain ⟨ts, y, _, _, h2, _⟩ := hP
    exact sq_lst h2
  · obtain ⟨ts, y, rfl, e, hr, hne, hl', hpt, ht⟩ := hP
    have hi : i < (endsOf n cs).length := by
      have := (List.getElem?_eq_some_iff.mp hx).1
      rwa [List.length_map] at this
    have ex : x = .int (gi (endsOf n cs) (i : Int)) := by
      rw [List.getElem?_map, gi_get hi] at hx
      exact (Option.some.inj hx).symm
    subst ex
    have htl : ts.length = i := by
      have := ht.1
      rw [List.length_take] at this
      have e9 : (partsOf (endsOf n cs)).length = (endsOf n cs).length := by simp [partsOf]
      omega
    refine g_appU (ys := [.int (firstOf (endsOf n cs) i), .int (gi (endsOf n cs) (i : Int))]) hl' (ev_var rfl) (eu_tup (by walk_at "ea") (Nat.le_of_ble_eq_true rfl)) (by rw [List.length_map, htl]; omega) fun t H2 h2 e2 ht2 => ?_
    have htp : t ≠ p := fun z => by rw [z, hl'] at h2; cases h2
    refine g_asg (D := _) (v := .int (gi (endsOf n cs) (i : Int) + 1)) (by walk_at "ev") (g_next fun H3 e3 => ?_) _ (Ex.refl _)
    rw [← firstOf_succ]
    refine ⟨ts ++ [t], _, rfl, (Ex.mut (e.trans e2) hp).trans e3, ?_, hne, ?_, ?_, ?_, ?_⟩
    · exact e3 r _ ((upd_ne hne).trans (e2 r _ hr))
    · rw [List.map_append]
      exact e3 p _ upd_same
    · simp only [List.mem_append, List.mem_singleton, not_or]
      exact ⟨hpt, fun z => htp z.symm⟩
    · have e9 : (partsOf (endsOf n cs)).length = (endsOf n cs).length := by simp [partsOf]
      rw [List.length_append, List.length_take, htl, List.length_singleton]
      omega
    · intro k t' q' h1' h2'
      by_cases hk : k < i
      · rw [List.getElem?_append_left (by omega)] at h1'
        have h3 : ((partsOf (endsOf n cs)).take i)[k]? = some q' := by
          rw [List.getElem?_take, if_pos hk]
          rw [List.getElem?_take, if_pos (by omega)] at h2'
          exact h2'
        have h4 := ht.2 k t' q' h1' h3
        have hn : t' ≠ p := fun z => hpt (by rw [← z]; exact List.mem_of_getElem? h1')
        exact e3 t' _ ((upd_ne hn).trans (e2 t' _ h4))
      · rw [List.getElem?_append_right (by omega), htl] at h1'
        have hk2 : k = i := by
          rcases Nat.lt_or_ge (k - i) 1 with q | q
          · omega
          · rw [List.getElem?_eq_none (by simpa using q)] at h1'
            cases h1'
        subst hk2
        rw [Nat.sub_self] at h1'
        cases h1'
        rw [List.getElem?_take, if_pos (Nat.lt_succ_self _)] at h2'
        unfold partsOf at h2'
        rw [List.getElem?_map, List.getElem?_range hi] at h2'
        cases h2'
        exact e3 t _ ((upd_ne htp).trans ht2)
  · obtain ⟨ts, y, rfl, e, hr, hne, hl', hpt, ht⟩ := hP
    refine g_ret (v := .ref p) (ev_var rfl) fun H2 e2 => ?_
    have e9 : (partsOf (endsOf n cs)).take (((endsOf n cs).map V.int).length) = partsOf (endsOf n cs) := List.take_of_length_le (by simp [partsOf])
    rw [e9] at ht
    exact q p ts H2 hp (e.trans e2) (e2 p _ hl') (ht.mono e2)

theorem read_held (vs : List V) (H : Hp) (Q : VK) (E : XK) (h : sp_held K c vs H Q E) : t_held K c E { nx := fun _ H' => Q .non H', rt := Q } (start ["at", "part", "crease", "stamp", "other"] vs) H := by
  obtain ⟨a, t, p, f, l, cr, s, rfl, hS, hT, hlen, ⟨f0, f1⟩, ⟨l0, l1⟩, ⟨s0, s1⟩, q⟩ := h
  refine Go.here (g_forR2 (lo := f) (n := l) (by walk_at "ea") (by omega) (fun i σ H' => ∃ y : Option V, σ = [some (.ref a), some (.ref t), some (.int cr), some (.int s), y] ∧ Ex H H' ∧ ∀ k : Nat, k < i → (decide ((f + (k : Int) - cr) % 2 = 0) && wr p (f + (k : Int)) s) = false)
    (fun H2 e2 => ⟨none, rfl, e2, fun k hk => by omega⟩) (fun i σ H' hi hP => ?_) (fun σ H' hP => ?_))
  · obtain ⟨y, rfl, e, hn⟩ := hP
    refine g_when (b := decide ((f + (i : Int) - cr) % 2 = 0) && wr p (f + (i : Int)) s) (by walk_at "et") (fun hb => ?_) (fun hb => ?_)
    · refine g_ret (v := .bl true) ev_c fun H3 e3 => ?_
      have e9 : heldB p f l cr s = true := List.any_eq_true.mpr ⟨i, List.mem_range.mpr (by omega), hb⟩
      rw [← e9]
      exact q H3 (e.trans e3)
    · refine g_next fun H3 e3 => ⟨_, rfl, e.trans e3, fun k hk => ?_⟩
      rcases Nat.lt_or_eq_of_le (Nat.le_of_lt_succ hk) with z | z
      · exact hn k z
      · rw [z]
        exact hb
  · obtain ⟨y, rfl, e, hn⟩ := hP
    refine g_ret (v := .bl false) ev_c fun H3 e3 => ?_
    have e9 : heldB p f l cr s = false := List.any_eq_false.mpr fun k hk => by rw [hn k (List.mem_range.mp hk)]; exact Bool.false_ne_true
    rw [← e9]
    exact q H3 (e.trans e3)

theorem read_l_held (vs : List V) (H : Hp) (Q : VK) (E : XK) (h : sp_l_held K c vs H Q E) : t_l_held K c E { nx := fun _ H' => Q .non H', rt := Q } (start ["_law_at", "_law_first", "_law_last", "_law_crease", "_law_stamp", "_law_other"] vs) H := by
  obtain ⟨a, p, f, l, cr, s, rfl, hS, hlen, ⟨f0, f1⟩, ⟨l0, l1⟩, ⟨s0, s1⟩, q⟩ := h
  refine Go.here (g_forR2 (lo := f) (n := l) (by walk_at "ea") (by omega) (fun i σ H' => ∃ y : Option V, σ = [some (.ref a), some (.int f), some (.int l), some (.int cr), some (.int s), y] ∧ Ex H H' ∧ ∀ k : Nat, k < i → (decide ((f + (k : Int) - cr) % 2 = 0) && wr p (f + (k : Int)) s) = false)
    (fun H2 e2 => ⟨none, rfl, e2, fun k hk => by omega⟩) (fun i σ H' hi hP => ?_) (fun σ H' hP => ?_))
  · obtain ⟨y, rfl, e, hn⟩ := hP
    refine g_when (b := decide ((f + (i : Int) - cr) % 2 = 0) && wr p (f + (i : Int)) s) (by walk_at "et") (fun hb => ?_) (fun hb => ?_)
    · refine g_ret (v := .bl true) ev_c fun H3 e3 => ?_
      have e9 : heldB p f l cr s = true := List.any_eq_true.mpr ⟨i, List.mem_range.mpr (by omega), hb⟩
      rw [← e9]
      exact q H3 (e.trans e3)
    · refine g_next fun H3 e3 => ⟨_, rfl, e.trans e3, fun k hk => ?_⟩
      rcases Nat.lt_or_eq_of_le (Nat.le_of_lt_succ hk) with z | z
      · exact hn k z
      · rw [z]
        exact hb
  · obtain ⟨y, rfl, e, hn⟩ := hP
    refine g_ret (v := .bl false) ev_c fun H3 e3 => ?_
    have e9 : heldB p f l cr s = false := List.any_eq_false.mpr fun k hk => by rw [hn k (List.mem_range.mp hk)]; exact Bool.false_ne_true
    rw [← e9]
    exact q H3 (e.trans e3)

theorem read_lies_free (vs : List V) (H : Hp) (Q : VK) (E : XK) (h : sp_lies_free K c vs H Q E) : t_lies_free K c E { nx := fun _ H' => Q .non H', rt := Q } (start ["at", "part", "first", "last", "begun", "goes_on"] vs) H := by
  obtain ⟨a, t, p, f, l, rfl, hS, hT, hlen, ⟨f0, f1⟩, ⟨l0, l1⟩, q⟩ := h
  refine Go.here (g_unpack (ev_var rfl) hT ?_)
  refine g_asg (v := .bl (decide (0 < f))) (by walk_at "ev") ?_
  refine g_asg (v := .bl (decide (l < (p.length : Int) - 1))) (by walk_at "ev") ?_
  refine g_when (b := decide (0 < f) && (decide (l < (p.length : Int) - 1) && decide ((l - f) % 2 = 1))) (by walk_at "et") (fun hb => ?_) (fun hb => ?_)
  · refine g_ret (v := .bl false) ev_c fun H3 e3 => ?_
    have e9 : lieB p f l = false := by
      unfold lieB
      rw [hb]
      simp
    rw [← e9]
    exact q H3 e3
  · refine g_when (b := decide (0 < f) && heldB p f l (f - 1) f) (by walk_at "et") (fun hb2 => ?_) (fun hb2 => ?_)
    · refine g_ret (v := .bl false) ev_c fun H3 e3 => ?_
      have e9 : lieB p f l = false := by
        unfold lieB
        rw [hb2]
        simp
      rw [← e9]
      exact q H3 e3
    · refine g_ret (v := .bl (!(decide (l < (p.length : Int) - 1) && heldB p f l l l))) (by walk_at "ev") fun H3 e3 => ?_
      have e9 : lieB p f l = !(decide (l < (p.length : Int) - 1) && heldB p f l l l) := by
        unfold lieB
        rw [hb2, hb]
        simp
      rw [← e9]
      exact q H3 e3

theorem read_are_free (vs : List V) (H : Hp) (Q : VK) (E : XK) (h : sp_are_free K c vs H Q E) : t_are_free K c E { nx := fun _ H' => Q .non H', rt := Q } (start ["at", "creases", "part"] vs) H := by
  obtain ⟨a, b, p, cs, rfl, hS, hB, hp1, hlen, hcl, hk, q⟩ := h
  have hel := ends_len (p.length : Int) cs
  have hbn := fun i hi => ends_bnd (n := (p.length : Int)) (cs := cs) (by omega) hk (i := i) hi
  have epl : (partsOf (endsOf (p.length : Int) cs)).length = (endsOf (p.length : Int) cs).length := by simp [partsOf]
  refine Go.here (g_forT (ps := partsOf (endsOf (p.length : Int) cs)) (ets_call (vs := [.int (p.length : Int), .ref b]) (by walk_at "ea") (v_parts_of hB hcl)) (fun B i σ H' => ∃ y : Option V, σ = [some (.ref a), some (.ref b), y] ∧ Ex B H' ∧ ∀ k : Nat, k < i → lieB p (firstOf (endsOf (p.length : Int) cs) k) (gi (endsOf (p.length : Int) cs) (k : Int)) = true)
    (fun B e => ⟨none, rfl, Ex.refl B, fun k hk => by omega⟩) (fun B i σ H' hP => ?_) (fun B i qq t σ H' hq ht eB hP => ?_) (fun B σ H' eB hP => ?_))
  · obtain ⟨_, _, e, _⟩ := hP
    exact e
  · obtain ⟨y, rfl, e, hn⟩ := hP
    have hi : i < (endsOf (p.length : Int) cs).length := by
      have := (List.getElem?_eq_some_iff.mp hq).1
      omega
    have eq : qq = (firstOf (endsOf (p.length : Int) cs) i, gi (endsOf (p.length : Int) cs) (i : Int)) := by
      unfold partsOf at hq
      rw [List.getElem?_map, List.getElem?_range hi] at hq
      exact (Option.some.inj hq).symm
    subst eq
    obtain ⟨b1, b2, b3, b4⟩ := hbn i hi
    have eH := eB.trans e
    refine g_when (b := !(lieB p (firstOf (endsOf (p.length : Int) cs) i) (gi (endsOf (p.length : Int) cs) (i : Int)))) (et_not (et_B (ev_callD (vs := [.ref a, .ref t]) (by walk_at "ea") (v_lies (ex_l eH hS) (st_of ht) hlen ⟨b1, by omega⟩ ⟨b3, by omega⟩)))) (fun hb => ?_) (fun hb => ?_)
    · refine g_ret (v := .bl false) ev_c fun H3 e3 => ?_
      have e9 : freeAt p cs = false := List.all_eq_false.mpr ⟨i, List.mem_range.mpr hi, by simpa using hb⟩
      rw [← e9]
      exact q H3 (eH.trans e3)
    · refine g_next fun H3 e3 => ⟨_, rfl, e.trans e3, fun k hk => ?_⟩
      rcases Nat.lt_or_eq_of_le (Nat.le_of_lt_succ hk) with z | z
      · exact hn k z
      · rw [z]
        simpa using hb
  · obtain ⟨y, rfl, e, hn⟩ := hP
    refine g_ret (v := .bl true) ev_c fun H3 e3 => ?_
    have e9 : freeAt p cs = true := List.all_eq_true.mpr fun k hk => hn k (by rw [epl]; exact List.mem_range.mp hk)
    rw [← e9]
    exact q H3 ((eB.trans e).trans e3)

theorem read_look_at_creases (vs : List V) (H : Hp) (Q : VK) (E : XK) (h : sp_look_at_creases K c vs H Q E) : t_look_at_creases K c E { nx := fun _ H' => Q .non H', rt := Q } (start ["size", "creases", "crease"] vs) H := by
  obtain ⟨n, b, cs, rfl, hB, hcl, q, x⟩ := h
  refine Go.here (g_forQ (ns := cs) (ev_var rfl) hB (fun i σ H' => ∃ y : Option V, σ = [some (.int n), some (.ref b), y] ∧ Ex H H' ∧ ∀ z ∈ cs.take i, 0 ≤ z ∧ z ≤ n - 2)
    (fun H1 e => ⟨none, rfl, e, fun z hz => by simp at hz⟩) (fun i σ H' hP => ?_) (fun i z σ H' hz hP => ?_) (fun σ H' hP => ?_))
  · obtain ⟨_, _, e, _⟩ := hP
    exact e
  · obtain ⟨y, rfl, e, hn⟩ := hP
    refine g_when (b := decide (z < 0) || decide (n - 2 < z)) (by walk_at "et") (fun hb => ?_) (fun hb => ?_)
    · refine g_raise fun H1 e1 => x (fun hc => ?_) H1 (e.trans e1)
      have := hc.bnd z (List.mem_of_getElem? hz)
      simp at hb
      omega
    · refine g_next fun H3 e3 => ⟨_, rfl, e.trans e3, fun w hw => ?_⟩
      rw [take_more hz] at hw
      rcases List.mem_append.mp hw with hw | hw
      · exact hn w hw
      · rw [List.mem_singleton.mp hw]
        simp at hb
        omega
  · obtain ⟨y, rfl, e, hn⟩ := hP
    rw [List.take_length] at hn
    have hd := dist_le cs
    have hi := dist_iff cs
    refine g_when (b := decide ((dist cs : Int) < (cs.length : Int))) (by walk_at "et") (fun hb => ?_) (fun hb => ?_)
    · refine g_raise fun H1 e1 => x (fun hc => ?_) H1 (e.trans e1)
      have := hi.mpr hc.nd
      simp at hb
      omega
    · refine g_next fun H3 e3 => q ⟨hn, hi.mp ?_⟩ H3 (e.trans e3)
      simp at hb
      omega

theorem read_free (vs : List V) (H : Hp) (Q : VK) (E : XK) (h : sp_free K c vs H Q E) : t_free K c E { nx := fun _ H' => Q .non H', rt := Q } (start ["pile", "creases", "at"] vs) H := by
  obtain ⟨a, b, ns, cs, rfl, hS, hB, hl, hcl, hp, nx, q, x⟩ := h
  have hpl := pl_len ns
  have hps := hp.pos
  refine Go.here (g_asgL (xs := (pl ns).map V.int) (by walk_at "el") fun r H1 hr e1 hl1 => ?_)
  have hla : Ev (tCB (rLenS K) (tCons (tVar 2) tNil)) [some (.ref a), some (.ref b), some (.ref r)] H1 (.int (ns.length : Int)) := by
    rw [← hpl]
    exact ev_lenI (ev_var rfl) (sq_lst hl1)
  by_cases hc : Creases (ns.length : Int) cs
  · refine g_drop (v := .non) (ev_callD (vs := [.int (ns.length : Int), .ref b]) (ea_cons hla (by walk_at "ea")) (v_look_cr (hB.mono e1) hcl hc)) ?_
    refine g_ret (v := .bl (freeAt (pl ns) cs)) (ev_callD (vs := [.ref r, .ref b]) (by walk_at "ea") (v_are_free (sq_lst hl1) (hB.mono e1) (by omega) (by omega) hcl (by rw [hpl]; exact hc.bnd))) fun H2 e2 => q hc H2 (e1.trans e2)
  · exact g_dropX (evx_call (vs := [.int (ns.length : Int), .ref b]) (ea_cons hla (by walk_at "ea")) (x_look_cr (hB.mono e1) hcl hc fun H' e' => x hc H' (e1.trans e')))

theorem read_l_free (vs : List V) (H : Hp) (Q : VK) (E : XK) (h : sp_l_free K c vs H Q E) : t_l_free K c E { nx := fun _ H' => Q .non H', rt := Q } (start ["_law_at", "_law_loose", "_law_end", "_law_first", "_law_last"] vs) H := by
  obtain ⟨a, b, p, cs, rfl, hS, hB, hp1, hlen, hcl, hk, q⟩ := h
  have hel := ends_len (p.length : Int) cs
  have hbn := fun i hi => ends_bnd (n := (p.length : Int)) (cs := cs) (by omega) hk (i := i) hi
  refine Go.here (g_asg (v := .int ((p.length : Int) - 1)) (by walk_at "ev") ?_)
  refine g_asg (v := .int 0) ev_c ?_
  have hes : EvL (tOp rCat (tCB (rSortedI K) (tCons (tVar 1) tNil)) (tLst (tCons (tVar 2) tNil))) [some (.ref a), some (.ref b), some (.int ((p.length : Int) - 1)), some (.int 0), none] H ((endsOf (p.length : Int) cs).map V.int) := by
    have e : (endsOf (p.length : Int) cs).map V.int = (srt cs).map V.int ++ [.int ((p.length : Int) - 1)] := by unfold endsOf; rw [List.map_append]; rfl
    rw [e]
    have hsl := srt_len cs
    exact el_cat (el_srt (ev_var rfl) hB) (by walk_at "el") (by simp only [List.length_map, List.length_cons, List.length_nil]; omega)
  refine g_forN hes (fun r i σ H' => ∃ (y : Option V), σ = [some (.ref a), some (.ref b), some (.int ((p.length : Int) - 1)), some (.int (firstOf (endsOf (p.length : Int) cs) i)), y] ∧ Ex H H' ∧ H' r = some (.lst ((endsOf (p.length : Int) cs).map V.int)) ∧ ∀ k : Nat, k < i → lieB p (firstOf (endsOf (p.length : Int) cs) k) (gi (endsOf (p.length : Int) cs) (k : Int)) = true)
    (fun r H2 hr e2 h2 => ⟨none, rfl, e2, h2, fun k hk => by omega⟩) (fun r i σ H' _ hP => ?_) (fun r i x σ H' hx hP => ?_) (fun r σ H' hP => ?_)
  · obtain ⟨y, _, _, h2, _⟩ := hP
    exact sq_lst h2
  · obtain ⟨y, rfl, e, hr, hn⟩ := hP
    have hi : i < (endsOf (p.length : Int) cs).length := by
      have := (List.getElem?_eq_some_iff.mp hx).1
      rwa [List.length_map] at this
    have ex : x = .int (gi (endsOf (p.length : Int) cs) (i : Int)) := by
      rw [List.getElem?_map, gi_get hi] at hx
      exact (Option.some.inj hx).symm
    subst ex
    obtain ⟨b1, b2, b3, b4⟩ := hbn i hi
    have hnx := firstOf_succ (endsOf (p.length : Int) cs) i
    have hno : lieB p (firstOf (endsOf (p.length : Int) cs) i) (gi (endsOf (p.length : Int) cs) (i : Int)) = false → freeAt p cs = false := fun z => List.all_eq_false.mpr ⟨i, List.mem_range.mpr hi, by rw [z]; exact Bool.false_ne_true⟩
    generalize hf : firstOf (endsOf (p.length : Int) cs) i = f at *
    generalize hg : gi (endsOf (p.length : Int) cs) (i : Int) = l at *
    refine g_when (b := decide (0 < f) && (decide (l < (p.length : Int) - 1) && decide ((l - f) % 2 = 1))) (by walk_at "et") (fun hb => ?_) (fun hb => ?_)
    · refine g_ret (v := .bl false) ev_c fun H3 e3 => ?_
      rw [← hno (by unfold lieB; rw [hb]; simp)]
      exact q H3 (e.trans e3)
    refine g_when (b := decide (0 < f) && heldB p f l (f - 1) f) (by walk_at "et") (fun hb2 => ?_) (fun hb2 => ?_)
    · refine g_ret (v := .bl false) ev_c fun H3 e3 => ?_
      rw [← hno (by unfold lieB; rw [hb2]; simp)]
      exact q H3 (e.trans e3)
    refine g_when (b := decide (l < (p.length : Int) - 1) && heldB p f l l l) (by walk_at "et") (fun hb3 => ?_) (fun hb3 => ?_)
    · refine g_ret (v := .bl false) ev_c fun H3 e3 => ?_
      rw [← hno (by unfold lieB; rw [hb3]; simp)]
      exact q H3 (e.trans e3)
    refine g_asg (v := .int (l + 1)) (by walk_at "ev") (g_next fun H3 e3 => ?_)
    refine ⟨_, by rw [hnx]; rfl, e.trans e3, e3 r _ hr, fun k hk => ?_⟩
    rcases Nat.lt_or_eq_of_le (Nat.le_of_lt_succ hk) with z | z
    · exact hn k z
    · rw [z, hf, hg]
      unfold lieB
      rw [hb, hb2, hb3]
      rfl
  · obtain ⟨y, rfl, e, hr, hn⟩ := hP
    refine g_ret (v := .bl true) ev_c fun H3 e3 => ?_
    have e9 : freeAt p cs = true := List.all_eq_true.mpr fun k hk => hn k (by rw [List.length_map]; exact List.mem_range.mp hk)
    rw [← e9]
    exact q H3 (e.trans e3)
end
end Fo
/-! FoldR11 -/
namespace Fo
open PySem L2 Evl
local macro_rules | `(tactic| walk_at "hl") => `(tactic| first
  | assumption
  | exact upd_same
  | (refine (by assumption : Ex _ _) _ _ ?_; walk_at "hl"))
local macro_rules | `(tactic| walk_at "sq") => `(tactic| first
  | assumption
  | (refine sq_lst ?_; walk_at "hl")
  | (refine ex_l (by assumption) ?_; walk_at "sq"))
local macro_rules | `(tactic| walk_at "st") => `(tactic| first
  | assumption
  | (refine st_of ?_; walk_at "hl")
  | (refine ex_t (by assumption) ?_; walk_at "st"))
local macro_rules | `(tactic| walk_at "sq2") => `(tactic| first
  | assumption
  | (refine Or.inl ?_; walk_at "sq")
  | (refine Or.inr ?_; walk_at "st")
  | (refine Sq2.mono (by assumption) ?_; walk_at "sq2"))
local macro_rules | `(tactic| walk_at "ar") => `(tactic| first
  | assumption
  | omega
  | decide)
local macro_rules | `(tactic| walk_at "lar") => `(tactic| first
  | omega
  | (simp only [List.length_append, List.length_map, List.length_take, List.length_drop, List.length_cons, List.length_nil, List.length_replicate]; omega))
local macro_rules | `(tactic| walk_at "hb") => `(tactic| first
  | skip)
local macro_rules | `(tactic| walk_at "mul") => `(tactic| first
  | (exact Or.inr ⟨by decide, by decide⟩)
  | (exact Or.inl ⟨by decide, by decide⟩)
  | (exact Or.inl ⟨by omega, by omega⟩)
  | (exact Or.inr ⟨by omega, by omega⟩))
local macro_rules | `(tactic| walk_at "div") => `(tactic| first
  | (exact ⟨by decide, by decide⟩)
  | (exact ⟨by omega, by omega⟩))
local macro_rules | `(tactic| walk_at "ea") => `(tactic| first
  | exact ea_nil
  | ((with_reducible refine' ea_cons ?k0 ?k1); (case k0 => walk_at "ev"); (case k1 => walk_at "ea")))
local macro_rules | `(tactic| walk_at "eo") => `(tactic| first
  | exact eo_none
  | ((with_reducible refine' eo_some ?k0); (case k0 => walk_at "ev")))
local macro_rules | `(tactic| walk_at "el") => `(tactic| first
  | ((with_reducible refine' el_lst ?k0 ?k1); (case k0 => walk_at "ea"); (case k1 => (exact Nat.le_of_ble_eq_true rfl)))
  | ((with_reducible refine' el_from ?k0 ?k1 ?k2 ?k3 ?k4); (case k0 => walk_at "ev"); (case k1 => walk_at "eo"); (case k2 => walk_at "sq"); (case k3 => walk_at "ar"); (case k4 => walk_at "lar"))
  | ((with_reducible refine' el_upto ?k0 ?k1 ?k2 ?k3 ?k4); (case k0 => walk_at "ev"); (case k1 => walk_at "eo"); (case k2 => walk_at "sq"); (case k3 => walk_at "ar"); (case k4 => walk_at "lar"))
  | ((with_reducible refine' el_rep1 ?k0 ?k1 ?k2 ?k3); (case k0 => walk_at "el"); (case k1 => walk_at "ev"); (case k2 => walk_at "ar"); (case k3 => walk_at "ar"))
  | ((with_reducible refine' el_cat ?k0 ?k1 ?k2); (case k0 => walk_at "el"); (case k1 => walk_at "el"); (case k2 => walk_at "lar"))
  | ((with_reducible refine' el_callD ?k0 ?k1); (case k0 => walk_at "ea"); (case k1 => walk_at "sp"))
  | ((with_reducible refine' el_list ?k0 ?k1); (case k0 => walk_at "ev"); (case k1 => walk_at "sq"))
  | ((with_reducible refine' el_srt ?k0 ?k1); (case k0 => walk_at "ev"); (case k1 => walk_at "sq"))
  | ((with_reducible refine' el_sortedQ ?k0 ?k1); (case k0 => walk_at "ev"); (case k1 => walk_at "sq2"))
  | ((with_reducible refine' el_rev ?k0 ?k1); (case k0 => walk_at "ev"); (case k1 => walk_at "sq"))
  | ((with_reducible refine' el_step ?k0 ?k1 ?k2); (case k0 => walk_at "ev"); (case k1 => walk_at "eo"); (case k2 => walk_at "sq")))
local macro_rules | `(tactic| walk_at "et") => `(tactic| first
  | ((with_reducible refine' et_test ?k0); (case k0 => walk_at "ev"))
  | ((with_reducible refine' et_B ?k0); (case k0 => walk_at "ev"))
  | ((with_reducible refine' et_not ?k0); (case k0 => walk_at "et"))
  | ((with_reducible refine' et_and ?k0 (fun hb => ?k1)); (case k0 => walk_at "et"); (case k1 => (walk_at "hb"; walk_at "et")))
  | ((with_reducible refine' et_or ?k0 (fun hb => ?k1)); (case k0 => walk_at "et"); (case k1 => (walk_at "hb"; walk_at "et"))))
local macro_rules | `(tactic| walk_at "ev") => `(tactic| first
  | ((with_reducible refine' ev_var ?k0); (case k0 => rfl))
  | exact ev_c
  | ((with_reducible refine' ev_add ?k0 ?k1); (case k0 => walk_at "ev"); (case k1 => walk_at "ev"))
  | ((with_reducible refine' ev_sub ?k0 ?k1); (case k0 => walk_at "ev"); (case k1 => walk_at "ev"))
  | ((with_reducible refine' ev_ixI ?k0 ?k1 ?k2 ?k3 ?k4); (case k0 => walk_at "ev"); (case k1 => walk_at "ev"); (case k2 => walk_at "sq"); (case k3 => walk_at "ar"); (case k4 => walk_at "ar"))
  | ((with_reducible refine' ev_ixT ?k0 ?k1 ?k2 ?k3); (case k0 => walk_at "ev"); (case k1 => walk_at "ev"); (case k2 => walk_at "st"); (case k3 => rfl))
  | ((with_reducible refine' ev_lt ?k0 ?k1); (case k0 => walk_at "ev"); (case k1 => walk_at "ev"))
  | ((with_reducible refine' ev_gt ?k0 ?k1); (case k0 => walk_at "ev"); (case k1 => walk_at "ev"))
  | ((with_reducible refine' ev_le ?k0 ?k1); (case k0 => walk_at "ev"); (case k1 => walk_at "ev"))
  | ((with_reducible refine' ev_ge ?k0 ?k1); (case k0 => walk_at "ev"); (case k1 => walk_at "ev"))
  | ((with_reducible refine' ev_eqI ?k0 ?k1); (case k0 => walk_at "ev"); (case k1 => walk_at "ev"))
  | ((with_reducible refine' ev_neI ?k0 ?k1); (case k0 => walk_at "ev"); (case k1 => walk_at "ev"))
  | ((with_reducible refine' ev_eqB ?k0 ?k1); (case k0 => walk_at "ev"); (case k1 => walk_at "ev"))
  | ((with_reducible refine' ev_neB ?k0 ?k1); (case k0 => walk_at "ev"); (case k1 => walk_at "ev"))
  | ((with_reducible refine' ev_eqS ?k0 ?k1); (case k0 => walk_at "ev"); (case k1 => walk_at "ev"))
  | ((with_reducible refine' ev_neS ?k0 ?k1); (case k0 => walk_at "ev"); (case k1 => walk_at "ev"))
  | ((with_reducible refine' ev_mod ?k0 ?k1 ?k2); (case k0 => walk_at "ev"); (case k1 => walk_at "ev"); (case k2 => walk_at "ar"))
  | ((with_reducible refine' ev_mul ?k0 ?k1 ?k2); (case k0 => walk_at "ev"); (case k1 => walk_at "ev"); (case k2 => walk_at "mul"))
  | ((with_reducible refine' ev_div ?k0 ?k1 ?k2); (case k0 => walk_at "ev"); (case k1 => walk_at "ev"); (case k2 => walk_at "div"))
  | ((with_reducible refine' ev_neg ?k0); (case k0 => walk_at "ev"))
  | ((with_reducible refine' ev_callD ?k0 ?k1); (case k0 => walk_at "ea"); (case k1 => walk_at "sp"))
  | ((with_reducible refine' ev_lenI ?k0 ?k1); (case k0 => walk_at "ev"); (case k1 => walk_at "sq"))
  | ((with_reducible refine' ev_lenQ ?k0 ?k1); (case k0 => walk_at "ev"); (case k1 => walk_at "sq2"))
  | ((with_reducible refine' ev_lenSet ?k0 ?k1 ?k2); (case k0 => walk_at "ev"); (case k1 => walk_at "sq2"); (case k2 => walk_at "ar"))
  | ((with_reducible refine' ev_inI ?k0 ?k1 ?k2); (case k0 => walk_at "ev"); (case k1 => walk_at "ev"); (case k2 => walk_at "sq2"))
  | ((with_reducible refine' ev_notInI ?k0 ?k1 ?k2); (case k0 => walk_at "ev"); (case k1 => walk_at "ev"); (case k2 => walk_at "sq2"))
  | ((with_reducible refine' ev_lenTxt ?k0 ?k1); (case k0 => walk_at "ev"); (case k1 => walk_at "ar"))
  | ((with_reducible refine' ev_lenS ?k0 ?k1); (case k0 => walk_at "ev"); (case k1 => walk_at "ar"))
  | ((with_reducible refine' ev_ixTxt ?k0 ?k1 ?k2 ?k3 ?k4); (case k0 => walk_at "ev"); (case k1 => walk_at "ev"); (case k2 => walk_at "ar"); (case k3 => walk_at "ar"); (case k4 => walk_at "ar"))
  | ((with_reducible refine' ev_ix2 ?k0); (case k0 => walk_at "ev"))
  | ((with_reducible refine' ev_isiI ?k0); (case k0 => walk_at "ev"))
  | ((with_reducible refine' ev_isiL ?k0 ?k1); (case k0 => walk_at "ev"); (case k1 => walk_at "hl"))
  | ((with_reducible refine' ev_isiU ?k0 ?k1); (case k0 => walk_at "ev"); (case k1 => walk_at "hl"))
  | ((with_reducible refine' ev_isiS ?k0); (case k0 => walk_at "ev"))
  | ((with_reducible refine' ev_isiB ?k0); (case k0 => walk_at "ev"))
  | ((with_reducible refine' ev_isN ?k0); (case k0 => walk_at "ev"))
  | ((with_reducible refine' ev_notN ?k0); (case k0 => walk_at "ev"))
  | ((with_reducible refine' ev_notIB ?k0 ?k1); (case k0 => walk_at "ev"); (case k1 => walk_at "ev"))
  | ((with_reducible refine' ev_neNil ?k0 ?k1); (case k0 => walk_at "ev"); (case k1 => walk_at "sq"))
  | ((with_reducible refine' ev_eqNil ?k0 ?k1); (case k0 => walk_at "ev"); (case k1 => walk_at "sq"))
  | ((with_reducible refine' ev_eqL ?k0 ?k1 ?k2 ?k3); (case k0 => walk_at "ev"); (case k1 => walk_at "ev"); (case k2 => walk_at "sq"); (case k3 => walk_at "sq"))
  | ((with_reducible refine' ev_neL ?k0 ?k1 ?k2 ?k3); (case k0 => walk_at "ev"); (case k1 => walk_at "ev"); (case k2 => walk_at "sq"); (case k3 => walk_at "sq"))
  | ((with_reducible refine' ev_min2 ?k0 ?k1); (case k0 => walk_at "ev"); (case k1 => walk_at "ev"))
  | ((with_reducible refine' ev_max2 ?k0 ?k1); (case k0 => walk_at "ev"); (case k1 => walk_at "ev"))
  | ((with_reducible refine' ev_intB ?k0); (case k0 => walk_at "ev"))
  | ((with_reducible refine' ev_andV ?k0 (fun hb => ?k1)); (case k0 => walk_at "ev"); (case k1 => (walk_at "hb"; walk_at "ev")))
  | ((with_reducible refine' ev_orV ?k0 (fun hb => ?k1)); (case k0 => walk_at "ev"); (case k1 => (walk_at "hb"; walk_at "ev")))
  | ((with_reducible refine' ev_notV ?k0); (case k0 => walk_at "ev"))
  | ((with_reducible refine' ev_ifI ?k0 (fun hb => ?k1) (fun hb => ?k2)); (case k0 => walk_at "et"); (case k1 => (walk_at "hb"; walk_at "ev")); (case k2 => (walk_at "hb"; walk_at "ev")))
  | ((with_reducible refine' ev_ifS ?k0 (fun hb => ?k1) (fun hb => ?k2)); (case k0 => walk_at "et"); (case k1 => (walk_at "hb"; walk_at "ev")); (case k2 => (walk_at "hb"; walk_at "ev"))))
local macro_rules | `(tactic| walk_at "hb") => `(tactic| (try simp only [decide_eq_true_eq, decide_eq_false_iff_not, Bool.and_eq_true, Bool.or_eq_true, Bool.or_eq_false_iff, Bool.not_eq_true', Bool.not_eq_false', beq_iff_eq] at *))
local macro_rules | `(tactic| walk_at "sp") => `(tactic| first
  | (refine' v_number ?k0 ?k1 ?k2; (case k0 => walk_at "sq"); (case k1 => walk_at "ar"); (case k2 => walk_at "ar"))
  | (refine' v_drawn ?k0 ?k1; (case k0 => walk_at "sq"); (case k1 => walk_at "ar"))
  | exact v_size
  | exact v_counts
  | (refine' v_wraps ?k0 ?k1 ?k2 ?k3 ?k4; (case k0 => walk_at "sq"); (case k1 => walk_at "ar"); (case k2 => walk_at "ar"); (case k3 => walk_at "ar"); (case k4 => walk_at "ar"))
  | (refine' v_l_wraps ?k0 ?k1 ?k2 ?k3 ?k4; (case k0 => walk_at "sq"); (case k1 => walk_at "ar"); (case k2 => walk_at "ar"); (case k3 => walk_at "ar"); (case k4 => walk_at "ar"))
  | (refine' v_cross ?k0 ?k1 ?k2 ?k3 ?k4; (case k0 => walk_at "sq"); (case k1 => walk_at "ar"); (case k2 => walk_at "ar"); (case k3 => walk_at "ar"); (case k4 => walk_at "ar"))
  | (refine' v_places ?k0 ?k1 ?k2; (case k0 => walk_at "sq"); (case k1 => walk_at "ar"); (case k2 => assumption))
  | (refine' v_letters ?k0 ?k1 ?k2; (case k0 => walk_at "sq"); (case k1 => walk_at "ar"); (case k2 => assumption))
  | (refine' v_l_places ?k0 ?k1 ?k2; (case k0 => walk_at "sq"); (case k1 => walk_at "ar"); (case k2 => assumption))
  | (refine' v_fits ?k0 ?k1 ?k2 ?k3; (case k0 => walk_at "sq"); (case k1 => walk_at "ar"); (case k2 => walk_at "ar"); (case k3 => walk_at "ar"))
  | (refine' v_none ?k0 ?k1 ?k2; (case k0 => walk_at "sq"); (case k1 => walk_at "ar"); (case k2 => walk_at "ar")))
local macro_rules | `(tactic| walk_at "sp") => `(tactic| first
  | (refine' v_turned ?k0 ?k1 ?k2; (case k0 => walk_at "sq"); (case k1 => walk_at "ar"); (case k2 => assumption))
  | (refine' v_same ?k0 ?k1 ?k2; (case k0 => walk_at "hl"); (case k1 => walk_at "sq"); (case k2 => walk_at "ar"))
  | (refine' v_told ?k0 ?k1 ?k2; (case k0 => walk_at "sq"); (case k1 => walk_at "hl"); (case k2 => assumption))
  | (refine' v_parted ?k0 ?k1 ?k2 ?k3; (case k0 => walk_at "sq"); (case k1 => walk_at "ar"); (case k2 => walk_at "ar"); (case k3 => assumption)))
local macro_rules | `(tactic| walk_at "sp") => `(tactic| first
  | (refine' v_is_pile ?k0 ?k1 ?k2 ?k3; (case k0 => walk_at "hl"); (case k1 => assumption); (case k2 => walk_at "ar"); (case k3 => walk_at "ar")))
local macro_rules | `(tactic| walk_at "sp") => `(tactic| first
  | (refine' v_held ?k0 ?k1 ?k2 ?k3 ?k4 ?k5; (case k0 => walk_at "sq"); (case k1 => walk_at "st"); (case k2 => walk_at "ar"); (case k3 => (refine ⟨?_, ?_⟩ <;> walk_at "ar")); (case k4 => (refine ⟨?_, ?_⟩ <;> walk_at "ar")); (case k5 => (refine ⟨?_, ?_⟩ <;> walk_at "ar")))
  | (refine' v_l_held ?k0 ?k1 ?k2 ?k3 ?k4; (case k0 => walk_at "sq"); (case k1 => walk_at "ar"); (case k2 => (refine ⟨?_, ?_⟩ <;> walk_at "ar")); (case k3 => (refine ⟨?_, ?_⟩ <;> walk_at "ar")); (case k4 => (refine ⟨?_, ?_⟩ <;> walk_at "ar")))
  | (refine' v_lies ?k0 ?k1 ?k2 ?k3 ?k4; (case k0 => walk_at "sq"); (case k1 => walk_at "st"); (case k2 => walk_at "ar"); (case k3 => (refine ⟨?_, ?_⟩ <;> walk_at "ar")); (case k4 => (refine ⟨?_, ?_⟩ <;> walk_at "ar")))
  | (refine' v_judged ?k0 ?k1 ?k2 ?k3; (case k0 => walk_at "sq"); (case k1 => walk_at "ar"); (case k2 => assumption); (case k3 => assumption))
  | (refine' v_l_free ?k0 ?k1 ?k2 ?k3 ?k4 ?k5; (case k0 => walk_at "sq"); (case k1 => walk_at "sq"); (case k2 => walk_at "ar"); (case k3 => walk_at "ar"); (case k4 => walk_at "ar"); (case k5 => assumption))
  | (refine' v_are_free ?k0 ?k1 ?k2 ?k3 ?k4 ?k5; (case k0 => walk_at "sq"); (case k1 => walk_at "sq2"); (case k2 => walk_at "ar"); (case k3 => walk_at "ar"); (case k4 => walk_at "ar"); (case k5 => assumption)))
section
variable {K : PySem.W.Frag} {c : Cs}
theorem read_l_size60 (hc : c.sz = [6, 9, 17, 9, 17, 12, 30, 60]) (vs : List V) (H : Hp) (Q : VK) (E : XK) (h : sp_l_size K c vs H Q E) : t_l_size60 K c E { nx := fun _ H' => Q .non H', rt := Q } (start ["_law_cell"] vs) H := by
  obtain ⟨x, rfl, q⟩ := h
  have h0 : 0 ≤ x % 8 := Int.emod_nonneg _ (by decide)
  have h1 : x % 8 < 8 := Int.emod_lt_of_pos _ (by decide)
  have hb : 0 < gi c.sz (x % 8) := by
    rw [hc]
    have hm := gi_mem (ns := [6, 9, 17, 9, 17, 12, 30, 60]) h0 (by show x % 8 < 8; exact h1)
    simp only [List.mem_cons, List.not_mem_nil, or_false] at hm
    omega
  have hd : Ev (tOp (rIxL K) (tLst (tCons (tC (.int 6)) (tCons (tC (.int 9)) (tCons (tC (.int 17)) (tCons (tC (.int 9)) (tCons (tC (.int 17)) (tCons (tC (.int 12)) (tCons (tC (.int 30)) (tCons (tC (.int 60)) tNil))))))))) (tOp (rI (fun _ j => 0 < j) fun i j => .int (i % j)) (tVar 0) (tC (.int 8)))) (start ["_law_cell"] [.int x]) H (.int (gi c.sz (x % 8))) := by
    rw [hc]
    refine ev_ixNew (xs := [.int 6, .int 9, .int 17, .int 9, .int 17, .int 12, .int 30, .int 60]) (el_lst (by walk_at "ea") (by decide)) (ev_mod (ev_var rfl) ev_c (by decide)) (gi_at (ns := [6, 9, 17, 9, 17, 12, 30, 60]) h0 ?_)
    show x % 8 < 8
    exact h1
  exact Go.here (g_ret (v := .int (szf c.sz x)) (ev_add ev_c (ev_mod (ev_div (ev_var rfl) ev_c ⟨by decide, by decide⟩) hd hb)) q)

theorem read_l_grown (vs : List V) (H : Hp) (Q : VK) (E : XK) (h : sp_l_grown K c vs H Q E) : t_l_grown K c E { nx := fun _ H' => Q .non H', rt := Q } (start ["_law_at", "_law_script", "_law_start", "_law_many", "_law_loose", "_law_k", "_law_number_here", "_law_tried", "_law_kept", "_law_crease"] vs) H := by
  obtain ⟨a, b, p, ns, s, rfl, hS, hB, hp1, hlen, s0, s1, q⟩ := h
  refine Go.here (g_asg (v := .int ((p.length : Int) - 1)) (by walk_at "ev") ?_)
  refine g_asgL (xs := []) (by walk_at "el") fun r H1 hr e1 hl => ?_
  generalize hn : (p.length : Int) = n at *
  refine g_forR1 (n := 12) (by walk_at "ea") (by omega) (fun i σ H' => ∃ (r : Addr) (cs : List Int) (y5 y6 y7 y8 : Option V), σ = [some (.ref a), some (.ref b), some (.int s), some (.int (n - 1)), some (.ref r), y5, y6, y7, y8, none] ∧ Ex H H' ∧ H r = none ∧ H' r = some (.lst (cs.map V.int)) ∧ Creases n cs ∧ cs.length ≤ 2 * i)
    (fun H2 e2 => ⟨r, [], none, none, none, none, rfl, e1.trans e2, hr, e2 r _ hl, ⟨by simp, List.nodup_nil⟩, Nat.le_refl _⟩) (fun i σ H' hi hP => ?_) (fun σ H' hP => ?_) (by omega)
  · obtain ⟨r, cs, y5, y6, y7, y8, rfl, e, hr, hl, hk, hcl⟩ := hP
    refine g_asg (v := .int (numb ns (s + (i : Int)))) (by walk_at "ev") ?_
    have hn0 := numb_lo ns (s + (i : Int))
    have hn1 := numb_hi ns (s + (i : Int))
    generalize numb ns (s + (i : Int)) = nu at hn0 hn1 ⊢
    have m0 : 0 ≤ nu / 3 % (n - 1) := Int.emod_nonneg _ (by omega)
    have m1 : nu / 3 % (n - 1) < n - 1 := Int.emod_lt_of_pos _ (by omega)
    refine g_asgL (xs := [.int (nu / 3 % (n - 1))]) (by walk_at "el") fun t H2 ht e2 hlt => ?_
    have m2 : 0 ≤ nu * 16807 % 2147483587 / 5 % (n - 1) := Int.emod_nonneg _ (by omega)
    have m3 : nu * 16807 % 2147483587 / 5 % (n - 1) < n - 1 := Int.emod_lt_of_pos _ (by omega)
    have m4 : 0 ≤ nu * 16807 % 2147483587 := Int.emod_nonneg _ (by omega)
    have m5 : nu * 16807 % 2147483587 < 2147483587 := Int.emod_lt_of_pos _ (by omega)
    refine g_cutM (fun σ H3 => ∃ ts : List Int, σ = [some (.ref a), some (.ref b), some (.int s), some (.int (n - 1)), some (.ref r), some (.int (i : Int)), some (.int nu), some (.ref t), y8, none] ∧ Ex H' H3 ∧ H3 t = some (.lst (ts.map V.int)) ∧ (∀ x ∈ ts, 0 ≤ x ∧ x ≤ n - 2) ∧ ts.length ≤ 2) ?_ ?_
    · refine g_ifC (b := decide (nu % 3 = 0)) (by walk_at "et") (fun hb => ?_) (fun hb => ?_)
      · refine g_app (xs := [.int (nu / 3 % (n - 1))]) (v := .int (nu * 16807 % 2147483587 / 5 % (n - 1))) hlt (ev_var rfl) (by walk_at "ev") (by simp) fun H3 e3 => ?_
        refine g_next (D := _) (fun H4 e4 => ?_) _ (Ex.refl _)
        refine ⟨[nu / 3 % (n - 1), nu * 16807 % 2147483587 / 5 % (n - 1)], rfl, (Ex.mut (e2.trans e3) ht).trans e4, e4 t _ upd_same, fun x hx => ?_, by simp⟩
        simp only [List.mem_cons, List.not_mem_nil, or_false] at hx
        omega
      · refine g_next fun H4 e4 => ⟨[nu / 3 % (n - 1)], rfl, e2.trans e4, e4 t _ hlt, fun x hx => ?_, by simp⟩
        simp only [List.mem_cons, List.not_mem_nil, or_false] at hx
        omega
    rintro σ H3 ⟨ts, rfl, e3, hlt3, hts, htl⟩
    have hl3 := e3 r _ hl
    refine g_asgL (xs := (ts.filter fun x => decide (x ∈ cs)).map V.int) (el_filt (fun x => decide (x ∈ cs)) (ev_var rfl) (sq_lst hlt3) (by omega) (fun _ => rfl) (fun _ => rfl) (fun x H4 e4 hx => et_test (ev_inI (ev_var rfl) (ev_var rfl) (.inl (sq_lst (e4 r _ hl3)))))) fun u H4 hu e4 hlu => ?_
    refine g_when (b := decide ((ts.filter fun x => decide (x ∈ cs)) = []) && (decide ((dist ts : Int) = (ts.length : Int)) && freeAt p (cs ++ ts))) ?_ (fun hb => ?_) (fun hb => ?_)
    · refine et_and (et_test (ev_eqNil (ev_var rfl) (sq_lst hlu))) fun _ => et_and (et_test (ev_eqI (ev_lenSet (ev_var rfl) (.inl (sq_lst (e4 t _ hlt3))) (by omega)) (ev_lenI (ev_var rfl) (sq_lst (e4 t _ hlt3))))) fun _ => et_B ?_
      refine ev_callVL (x := .ref a) (ev_var rfl) (el_catVV (ev_var rfl) (ev_var rfl) (e4 r _ hl3) (e4 t _ hlt3) (by simp only [List.length_map]; omega)) fun z H5 hz e5 => ?_
      rw [← List.map_append] at hz
      refine v_l_free (ex_l (((e.trans e3).trans e4).trans e5) hS) (sq_lst hz) (by omega) (by omega) (by rw [List.length_append]; omega) fun x hx => ?_
      rw [hn]
      rcases List.mem_append.mp hx with hx | hx
      · exact hk.bnd x hx
      · exact hts x hx
    · refine g_asgL (el_catVV (ev_var rfl) (ev_var rfl) (e4 r _ hl3) (e4 t _ hlt3) (by simp only [List.length_map]; omega)) fun z H5 hz e5 hlz => ?_
      rw [← List.map_append] at hlz
      rw [Bool.and_eq_true, Bool.and_eq_true, decide_eq_true_eq, decide_eq_true_eq] at hb
      obtain ⟨hb1, hb2, _⟩ := hb
      refine g_next fun H6 e6 => ⟨z, cs ++ ts, _, _, _, _, rfl, ((e.trans e3).trans e4).trans (e5.trans e6), fresh_back ((e.trans e3).trans e4) hz, e6 z _ hlz, ⟨fun x hx => ?_, ?_⟩, by rw [List.length_append]; omega⟩
      · rcases List.mem_append.mp hx with hx | hx
        · exact hk.bnd x hx
        · exact hts x hx
      · refine List.nodup_append.mpr ⟨hk.nd, (dist_iff ts).mp (by omega), fun x hx y hy => ?_⟩
        rintro rfl
        have := List.filter_eq_nil_iff.mp hb1 x hy
        exact this (decide_eq_true hx)
    · exact g_next fun H6 e6 => ⟨r, cs, _, _, _, _, rfl, ((e.trans e3).trans e4).trans e6, hr, e6 r _ (e4 r _ hl3), hk, by omega⟩
  · obtain ⟨r, cs, y5, y6, y7, y8, rfl, e, hr, hl, hk, hcl⟩ := hP
    exact g_ret (v := .ref r) (ev_var rfl) fun H2 e2 => q _ r H2 ⟨cs, rfl, hk, by
      have : (12 : Int).toNat = 12 := rfl
      omega⟩ hr (e.trans e2) (e2 r _ hl)

theorem Creases.perm {n : Int} {cs ms : List Int} (h : Creases n cs) (p : ms.Perm cs) : Creases n ms := ⟨fun x hx => h.bnd x (p.mem_iff.mp hx), p.nodup_iff.mpr h.nd⟩
theorem read_l_asked (vs : List V) (H : Hp) (Q : VK) (E : XK) (h : sp_l_asked K c vs H Q E) : t_l_asked K c E { nx := fun _ H' => Q .non H', rt := Q } (start ["_law_pile_here", "_law_at", "_law_loose", "_law_way", "_law_handed", "_law_some", "_law_kept", "_law_found"] vs) H := by
  obtain ⟨a, b, d, ns, cs, way, rfl, hA, hB, hD, hp, nx, hl, hcl, hk, w0, w1, q⟩ := h
  have hps := hp.pos
  have hpl := pl_len ns
  refine Go.here (g_asgL (xs := ns.map V.int) (by walk_at "el") fun u H1 hu e1 hlu => ?_)
  refine g_asgL (xs := (srt cs).map V.int) (el_srt (ev_var rfl) (ex_l e1 hD)) fun r H2 hr e2 hlr => ?_
  have hlu2 := e2 u _ hlu
  have e12 := e1.trans e2
  refine g_cutM (fun σ H3 => ∃ (r : Addr) (ms : List Int), σ = [some (.ref a), some (.ref b), some (.ref d), some (.int way), some (.ref u), some (.ref r), none, none] ∧ Ex H2 H3 ∧ H3 r = some (.lst (ms.map V.int)) ∧ ms.Perm cs) ?_ ?_
  · refine g_ifC (b := decide (way % 3 = 1)) (by walk_at "et") (fun hb => ?_) (fun hb => ?_)
    · refine g_asgL (xs := ((srt cs).map V.int).reverse) (el_rev (ev_var rfl) (sq_lst hlr)) fun v H3 hv e3 hlv => ?_
      rw [← List.map_reverse] at hlv
      exact g_next fun H4 e4 => ⟨v, _, rfl, e3.trans e4, e4 v _ hlv, (List.reverse_perm _).trans (srt_perm cs)⟩
    · exact g_next fun H4 e4 => ⟨r, _, rfl, e4, e4 r _ hlr, srt_perm cs⟩
  clear hlr hr r
  rintro σ H3 ⟨r, ms, rfl, e3, hlr, hms⟩
  have hmz := hms.length_eq
  refine g_cutM (fun σ H4 => ∃ (r : Addr) (ms : List Int), σ = [some (.ref a), some (.ref b), some (.ref d), some (.int way), some (.ref u), some (.ref r), none, none] ∧ Ex H2 H4 ∧ H4 r = some (.lst (ms.map V.int)) ∧ ms.Perm cs) ?_ ?_
  · refine g_ifC (b := decide (way % 3 = 2)) (by walk_at "et") (fun hb => ?_) (fun hb => ?_)
    · obtain ⟨ks, hks, hkp⟩ := pick_two (ms := ms) (by omega)
      have hkz := congrArg List.length hks
      rw [List.length_append, List.length_map, hkp.length_eq] at hkz
      refine g_asgL (xs := ks.map V.int) (by rw [← hks]; exact el_cat (el_step (ev_var rfl) (eo_some ev_c) (sq_lst hlr)) (el_step (ev_var rfl) eo_none (sq_lst hlr)) (by omega)) fun v H4 hv e4 hlv => ?_
      exact g_next fun H5 e5 => ⟨v, _, rfl, (e3.trans e4).trans e5, e5 v _ hlv, hkp.trans hms⟩
    · exact g_next fun H5 e5 => ⟨r, _, rfl, e3.trans e5, e5 r _ hlr, hms⟩
  clear hlr hmz hms e3 ms r
  rintro σ H4 ⟨r, ms, rfl, e4, hlr, hms⟩
  have hmz := hms.length_eq
  have hf := freeAt_perm (p := pl ns) hms
  refine g_asgL (xs := ms.map V.int) (el_list (ev_var rfl) (sq_lst hlr)) fun v H5 hv e5 hlv => ?_
  have hlu5 := e5 u _ (e4 u _ hlu2)
  have hlr5 := e5 r _ hlr
  have hA5 : SqL K H5 a (ns.map V.int) := ex_l ((e12.trans e4).trans e5) hA
  refine g_cutM (fun σ H6 => σ = [some (.ref a), some (.ref b), some (.ref d), some (.int way), some (.ref u), some (.ref r), some (.ref v), some (.bl (freeAt (pl ns) cs))] ∧ Ex H5 H6) ?_ ?_
  · refine g_ifC (b := decide (way / 3 = 1)) (by walk_at "et") (fun hb => ?_) (fun hb => ?_)
    · refine g_asg (v := .bl (freeAt (pl ns) ms)) (ev_callVU (x := .ref u) (ev_var rfl) (eu_of (ev_var rfl) (sq_lst hlr5)) fun z H6 hz e6 => v_free (sq_lst (e6 u _ hlu5)) (.inr (st_of hz)) (by omega) (by omega) hp nx (hk.perm hms)) ?_
      rw [hf]
      exact g_next fun H6 e6 => ⟨rfl, e6⟩
    · refine g_asg (v := .bl (freeAt (pl ns) ms)) (ev_callD (vs := [.ref u, .ref r]) (by walk_at "ea") (v_free (sq_lst hlu5) (.inl (sq_lst hlr5)) (by omega) (by omega) hp nx (hk.perm hms))) ?_
      rw [hf]
      exact g_next fun H6 e6 => ⟨rfl, e6⟩
  rintro σ H6 ⟨rfl, e6⟩
  have eH6 := ((e12.trans e4).trans e5).trans e6
  refine g_no (et_is (et_or (et_test (ev_neL (ev_var rfl) (ev_var rfl) (sq_lst (e6 u _ hlu5)) (ex_l e6 hA5))) fun _ => et_test (ev_neL (ev_var rfl) (ev_var rfl) (sq_lst (e6 r _ hlr5)) (sq_lst (e6 v _ hlv)))) (by simp)) (g_nextS ?_)
  refine g_ret (v := .bl true) (ev_is (ev_andV (ev_isiB (ev_var rfl)) fun _ => ev_eqB (ev_var rfl) (ev_callD (vs := [.ref b, .ref d]) (by walk_at "ea") (v_l_free (ex_l eH6 hB) (ex_l eH6 hD) (by omega) (by omega) (by omega) (by rw [hpl]; exact hk.bnd)))) (by simp)) fun H7 e7 => q H7 (eH6.trans e7)

theorem read_law_k05 (hc : SzOk c.sz) (vs : List V) (H : Hp) (Q : VK) (E : XK) (h : sp_law K c vs H Q E) : t_law_k05 K c E { nx := fun _ H' => Q .non H', rt := Q } (start ["_law_script", "_law_size_here", "_law_pile_here", "_law_at", "_law_way", "_law_share", "_law_some", "_law_grown_here", "_law_one", "_law_k", "_law_crease"] vs) H := by
  obtain ⟨a, ns, rfl, hS, hlen, q⟩ := h
  refine Go.here (g_asg (v := .int (szf c.sz (gi ns 0))) (by walk_at "ev") ?_)
  obtain ⟨hn0, hn1⟩ := szf_bnd hc (gi ns 0)
  generalize szf c.sz (gi ns 0) = n at hn0 hn1 ⊢
  refine g_asgP (elp_call (by walk_at "ea") (v_good hS (by omega) (by omega) hn0 hn1)) fun xs p H1 hP hp e1 hl => ?_
  obtain ⟨ps, rfl, pp, hpl, nx⟩ := hP
  have hpp := pl_len ps
  refine g_asgL (xs := (pl ps).map V.int) (by walk_at "el") fun r H2 hr e2 hlr => ?_
  have w0 : 0 ≤ gi ns 1 % 6 := Int.emod_nonneg _ (by decide)
  have w1 : gi ns 1 % 6 < 6 := Int.emod_lt_of_pos _ (by decide)
  have hS2 := ex_l (e1.trans e2) hS
  refine g_asg (v := .int (gi ns 1 % 6)) (by walk_at "ev") ?_
  generalize hw : gi ns 1 % 6 = way at w0 w1 ⊢
  have hlp := e2 p _ hl
  have ask : ∀ (cs : List Int) (H3 : Hp) (z : Addr), Ex H2 H3 → H3 z = some (.lst (cs.map V.int)) → Creases n cs → cs.length ≤ 100 → SpV (sp_l_asked K c) [.ref p, .ref r, .ref z, .int way] H3 (.bl true) := fun cs H3 z e3 hz hk hcl =>
    v_asked (sq_lst (e3 p _ hlp)) (sq_lst (e3 r _ hlr)) (sq_lst hz) pp nx (by omega) hcl (by rw [hpl]; exact hk) w0 w1
  refine g_when (b := decide (n = 1)) (by walk_at "et") (fun hb => ?_) (fun hb => ?_)
  · exact g_ret (v := .bl true) (ev_callVVLV (x := .ref p) (y := .ref r) (w := .int way) (xs := ([] : List Int).map V.int) (ev_var rfl) (ev_var rfl) (by walk_at "el") (ev_var rfl) fun z H3 hz e3 => ask [] H3 z e3 hz ⟨by simp, List.nodup_nil⟩ (by simp)) fun H3 _ => q H3
  have hn2 : 2 ≤ n := by simp at hb; omega
  have s0 : 1 ≤ 1 + gi ns 1 / 6 % 4 := by
    have : 0 ≤ gi ns 1 / 6 % 4 := Int.emod_nonneg _ (by decide)
    omega
  refine g_asg (v := .int (1 + gi ns 1 / 6 % 4)) (by walk_at "ev") ?_
  generalize 1 + gi ns 1 / 6 % 4 = share at s0 ⊢
  refine g_asgL (xs := ((rangeI (n - 1).toNat).filter fun k => decide (numb ns (n + 2 + k) / 7 % share = 0)).map V.int) (el_filtR (n := n - 1) (fun k => decide (numb ns (n + 2 + k) / 7 % share = 0)) (by walk_at "ea") (by omega) (fun _ => rfl) (fun _ => rfl) (fun k H3 e3 k0 k1 => ?_)) fun z H3 hz e3 hlz => ?_
  · refine et_test (ev_eqI (ev_mod (ev_div (ev_callD (vs := [.ref a, .int (n + 2 + k)]) (by walk_at "ea") (v_number (ex_l e3 hS2) (by omega) (by omega))) ev_c ⟨by decide, by decide⟩) (ev_var rfl) (by omega)) ev_c)
  have hk1 : Creases n ((rangeI (n - 1).toNat).filter fun k => decide (numb ns (n + 2 + k) / 7 % share = 0)) := ⟨fun x hx => by
    have := rangeI_mem.mp (List.mem_filter.mp hx).1
    omega, (rangeI_nd _).filter _⟩
  have hl1 : ((rangeI (n - 1).toNat).filter fun k => decide (numb ns (n + 2 + k) / 7 % share = 0)).length ≤ 100 := by
    have := List.length_filter_le (fun k => decide (numb ns (n + 2 + k) / 7 % share = 0)) (rangeI (n - 1).toNat)
    have e9 : (rangeI (n - 1).toNat).length = (n - 1).toNat := by simp [rangeI]
    omega
  refine g_no (et_is (et_not (et_B (ev_callD (vs := [.ref p, .ref r, .ref z, .int way]) (by walk_at "ea") (ask _ H3 z e3 hlz hk1 hl1)))) rfl) (g_nextS ?_)
  refine g_asgP (elp_call (vs := [.ref r, .ref a, .int (n + 2)]) (by walk_at "ea") (v_grown (sq_lst (e3 r _ hlr)) (ex_l e3 hS2) (by omega) (by omega) (by omega) (by omega))) fun xs g H4 hP hg e4 hlg => ?_
  obtain ⟨gs, rfl, hgk, hgl⟩ := hP
  have hgn : ((pl ps).length : Int) = n := by omega
  rw [hgn] at hgk
  have e34 := e3.trans e4
  refine g_no (et_is (et_not (et_B (ev_callD (vs := [.ref p, .ref r, .ref g, .int way]) (by walk_at "ea") (ask _ H4 g e34 hlg hgk hgl)))) rfl) (g_nextS ?_)
  have hS4 := ex_l e34 hS2
  refine g_asg (v := .int (numb ns (n + 14) / 11 % (n - 1))) (by walk_at "ev") ?_
  have o0 : 0 ≤ numb ns (n + 14) / 11 % (n - 1) := Int.emod_nonneg _ (by omega)
  have o1 : numb ns (n + 14) / 11 % (n - 1) < n - 1 := Int.emod_lt_of_pos _ (by omega)
  generalize numb ns (n + 14) / 11 % (n - 1) = one at o0 o1 ⊢
  have hgb := fun x hx => hgk.bnd x hx
  have hgl2 : gs.length ≤ (n - 1).toNat := php _ _ hgk.nd fun x hx => by
    have := hgb x hx
    omega
  refine g_when (b := decide (one ∈ gs)) (et_test (ev_inI (ev_var rfl) (ev_var rfl) (.inl (sq_lst hlg)))) (fun hb => ?_) (fun hb => ?_)
  · refine g_ret (v := .bl true) (ev_callVVLV (x := .ref p) (y := .ref r) (w := .int way) (ev_var rfl) (ev_var rfl) (el_filt (fun x => !decide (x = one)) (ev_var rfl) (sq_lst hlg) (by omega) (fun _ => rfl) (fun _ => rfl) (fun x H5 e5 hx => et_test (ev_neI (ev_var rfl) (ev_var rfl)))) (ev_var rfl) fun y H5 hy e5 => ask _ H5 y (e34.trans e5) hy ⟨fun x hx => hgb x (List.mem_filter.mp hx).1, hgk.nd.filter _⟩ ?_) fun H5 _ => q H5
    have := List.length_filter_le (fun x => !decide (x = one)) gs
    omega
  · refine g_ret (v := .bl true) (ev_callVVLV (x := .ref p) (y := .ref r) (w := .int way) (xs := gs.map V.int ++ [.int one]) (ev_var rfl) (ev_var rfl) (el_catV (ev_var rfl) hlg (by walk_at "el") (by simp only [List.length_map, List.length_cons, List.length_nil]; omega)) (ev_var rfl) fun y H5 hy e5 => ask (gs ++ [one]) H5 y (e34.trans e5) (by rw [List.map_append]; exact hy) ⟨fun x hx => ?_, ?_⟩ (by rw [List.length_append, List.length_singleton]; omega)) fun H5 _ => q H5
    · rcases List.mem_append.mp hx with hx | hx
      · exact hgb x hx
      · rw [List.mem_singleton.mp hx]
        omega
    · refine List.nodup_append.mpr ⟨hgk.nd, by simp, fun x hx y hy => ?_⟩
      rw [List.mem_singleton.mp hy]
      rintro rfl
      simp at hb
      exact hb hx
end
end Fo
/-! FoldR14 -/
namespace Fo
open PySem L2 Evl
local macro_rules | `(tactic| walk_at "hl") => `(tactic| first
  | assumption
  | exact upd_same
  | (refine (by assumption : Ex _ _) _ _ ?_; walk_at "hl"))
local macro_rules | `(tactic| walk_at "sq") => `(tactic| first
  | assumption
  | (refine sq_lst ?_; walk_at "hl")
  | (refine ex_l (by assumption) ?_; walk_at "sq"))
local macro_rules | `(tactic| walk_at "st") => `(tactic| first
  | assumption
  | (refine st_of ?_; walk_at "hl")
  | (refine ex_t (by assumption) ?_; walk_at "st"))
local macro_rules | `(tactic| walk_at "sq2") => `(tactic| first
  | assumption
  | (refine Or.inl ?_; walk_at "sq")
  | (refine Or.inr ?_; walk_at "st")
  | (refine Sq2.mono (by assumption) ?_; walk_at "sq2"))
local macro_rules | `(tactic| walk_at "ar") => `(tactic| first
  | assumption
  | omega
  | decide)
local macro_rules | `(tactic| walk_at "lar") => `(tactic| first
  | omega
  | (simp only [List.length_append, List.length_map, List.length_take, List.length_drop, List.length_cons, List.length_nil, List.length_replicate]; omega))
local macro_rules | `(tactic| walk_at "hb") => `(tactic| first
  | skip)
local macro_rules | `(tactic| walk_at "mul") => `(tactic| first
  | (exact Or.inr ⟨by decide, by decide⟩)
  | (exact Or.inl ⟨by decide, by decide⟩)
  | (exact Or.inl ⟨by omega, by omega⟩)
  | (exact Or.inr ⟨by omega, by omega⟩))
local macro_rules | `(tactic| walk_at "div") => `(tactic| first
  | (exact ⟨by decide, by decide⟩)
  | (exact ⟨by omega, by omega⟩))
local macro_rules | `(tactic| walk_at "ea") => `(tactic| first
  | exact ea_nil
  | ((with_reducible refine' ea_cons ?k0 ?k1); (case k0 => walk_at "ev"); (case k1 => walk_at "ea")))
local macro_rules | `(tactic| walk_at "eo") => `(tactic| first
  | exact eo_none
  | ((with_reducible refine' eo_some ?k0); (case k0 => walk_at "ev")))
local macro_rules | `(tactic| walk_at "el") => `(tactic| first
  | ((with_reducible refine' el_lst ?k0 ?k1); (case k0 => walk_at "ea"); (case k1 => (exact Nat.le_of_ble_eq_true rfl)))
  | ((with_reducible refine' el_from ?k0 ?k1 ?k2 ?k3 ?k4); (case k0 => walk_at "ev"); (case k1 => walk_at "eo"); (case k2 => walk_at "sq"); (case k3 => walk_at "ar"); (case k4 => walk_at "lar"))
  | ((with_reducible refine' el_upto ?k0 ?k1 ?k2 ?k3 ?k4); (case k0 => walk_at "ev"); (case k1 => walk_at "eo"); (case k2 => walk_at "sq"); (case k3 => walk_at "ar"); (case k4 => walk_at "lar"))
  | ((with_reducible refine' el_rep1 ?k0 ?k1 ?k2 ?k3); (case k0 => walk_at "el"); (case k1 => walk_at "ev"); (case k2 => walk_at "ar"); (case k3 => walk_at "ar"))
  | ((with_reducible refine' el_cat ?k0 ?k1 ?k2); (case k0 => walk_at "el"); (case k1 => walk_at "el"); (case k2 => walk_at "lar"))
  | ((with_reducible refine' el_callD ?k0 ?k1); (case k0 => walk_at "ea"); (case k1 => walk_at "sp"))
  | ((with_reducible refine' el_list ?k0 ?k1); (case k0 => walk_at "ev"); (case k1 => walk_at "sq"))
  | ((with_reducible refine' el_srt ?k0 ?k1); (case k0 => walk_at "ev"); (case k1 => walk_at "sq"))
  | ((with_reducible refine' el_sortedQ ?k0 ?k1); (case k0 => walk_at "ev"); (case k1 => walk_at "sq2"))
  | ((with_reducible refine' el_rev ?k0 ?k1); (case k0 => walk_at "ev"); (case k1 => walk_at "sq"))
  | ((with_reducible refine' el_step ?k0 ?k1 ?k2); (case k0 => walk_at "ev"); (case k1 => walk_at "eo"); (case k2 => walk_at "sq")))
local macro_rules | `(tactic| walk_at "et") => `(tactic| first
  | ((with_reducible refine' et_test ?k0); (case k0 => walk_at "ev"))
  | ((with_reducible refine' et_B ?k0); (case k0 => walk_at "ev"))
  | ((with_reducible refine' et_not ?k0); (case k0 => walk_at "et"))
  | ((with_reducible refine' et_and ?k0 (fun hb => ?k1)); (case k0 => walk_at "et"); (case k1 => (walk_at "hb"; walk_at "et")))
  | ((with_reducible refine' et_or ?k0 (fun hb => ?k1)); (case k0 => walk_at "et"); (case k1 => (walk_at "hb"; walk_at "et"))))
local macro_rules | `(tactic| walk_at "ev") => `(tactic| first
  | ((with_reducible refine' ev_var ?k0); (case k0 => rfl))
  | exact ev_c
  | ((with_reducible refine' ev_add ?k0 ?k1); (case k0 => walk_at "ev"); (case k1 => walk_at "ev"))
  | ((with_reducible refine' ev_sub ?k0 ?k1); (case k0 => walk_at "ev"); (case k1 => walk_at "ev"))
  | ((with_reducible refine' ev_ixI ?k0 ?k1 ?k2 ?k3 ?k4); (case k0 => walk_at "ev"); (case k1 => walk_at "ev"); (case k2 => walk_at "sq"); (case k3 => walk_at "ar"); (case k4 => walk_at "ar"))
  | ((with_reducible refine' ev_ixT ?k0 ?k1 ?k2 ?k3); (case k0 => walk_at "ev"); (case k1 => walk_at "ev"); (case k2 => walk_at "st"); (case k3 => rfl))
  | ((with_reducible refine' ev_lt ?k0 ?k1); (case k0 => walk_at "ev"); (case k1 => walk_at "ev"))
  | ((with_reducible refine' ev_gt ?k0 ?k1); (case k0 => walk_at "ev"); (case k1 => walk_at "ev"))
  | ((with_reducible refine' ev_le ?k0 ?k1); (case k0 => walk_at "ev"); (case k1 => walk_at "ev"))
  | ((with_reducible refine' ev_ge ?k0 ?k1); (case k0 => walk_at "ev"); (case k1 => walk_at "ev"))
  | ((with_reducible refine' ev_eqI ?k0 ?k1); (case k0 => walk_at "ev"); (case k1 => walk_at "ev"))
  | ((with_reducible refine' ev_neI ?k0 ?k1); (case k0 => walk_at "ev"); (case k1 => walk_at "ev"))
  | ((with_reducible refine' ev_eqB ?k0 ?k1); (case k0 => walk_at "ev"); (case k1 => walk_at "ev"))
  | ((with_reducible refine' ev_neB ?k0 ?k1); (case k0 => walk_at "ev"); (case k1 => walk_at "ev"))
  | ((with_reducible refine' ev_eqS ?k0 ?k1); (case k0 => walk_at "ev"); (case k1 => walk_at "ev"))
  | ((with_reducible refine' ev_neS ?k0 ?k1); (case k0 => walk_at "ev"); (case k1 => walk_at "ev"))
  | ((with_reducible refine' ev_mod ?k0 ?k1 ?k2); (case k0 => walk_at "ev"); (case k1 => walk_at "ev"); (case k2 => walk_at "ar"))
  | ((with_reducible refine' ev_mul ?k0 ?k1 ?k2); (case k0 => walk_at "ev"); (case k1 => walk_at "ev"); (case k2 => walk_at "mul"))
  | ((with_reducible refine' ev_div ?k0 ?k1 ?k2); (case k0 => walk_at "ev"); (case k1 => walk_at "ev"); (case k2 => walk_at "div"))
  | ((with_reducible refine' ev_neg ?k0); (case k0 => walk_at "ev"))
  | ((with_reducible refine' ev_callD ?k0 ?k1); (case k0 => walk_at "ea"); (case k1 => walk_at "sp"))
  | ((with_reducible refine' ev_lenI ?k0 ?k1); (case k0 => walk_at "ev"); (case k1 => walk_at "sq"))
  | ((with_reducible refine' ev_lenQ ?k0 ?k1); (case k0 => walk_at "ev"); (case k1 => walk_at "sq2"))
  | ((with_reducible refine' ev_lenSet ?k0 ?k1 ?k2); (case k0 => walk_at "ev"); (case k1 => walk_at "sq2"); (case k2 => walk_at "ar"))
  | ((with_reducible refine' ev_inI ?k0 ?k1 ?k2); (case k0 => walk_at "ev"); (case k1 => walk_at "ev"); (case k2 => walk_at "sq2"))
  | ((with_reducible refine' ev_notInI ?k0 ?k1 ?k2); (case k0 => walk_at "ev"); (case k1 => walk_at "ev"); (case k2 => walk_at "sq2"))
  | ((with_reducible refine' ev_lenTxt ?k0 ?k1); (case k0 => walk_at "ev"); (case k1 => walk_at "ar"))
  | ((with_reducible refine' ev_lenS ?k0 ?k1); (case k0 => walk_at "ev"); (case k1 => walk_at "ar"))
  | ((with_reducible refine' ev_ixTxt ?k0 ?k1 ?k2 ?k3 ?k4); (case k0 => walk_at "ev"); (case k1 => walk_at "ev"); (case k2 => walk_at "ar"); (case k3 => walk_at "ar"); (case k4 => walk_at "ar"))
  | ((with_reducible refine' ev_ix2 ?k0); (case k0 => walk_at "ev"))
  | ((with_reducible refine' ev_isiI ?k0); (case k0 => walk_at "ev"))
  | ((with_reducible refine' ev_isiL ?k0 ?k1); (case k0 => walk_at "ev"); (case k1 => walk_at "hl"))
  | ((with_reducible refine' ev_isiU ?k0 ?k1); (case k0 => walk_at "ev"); (case k1 => walk_at "hl"))
  | ((with_reducible refine' ev_isiS ?k0); (case k0 => walk_at "ev"))
  | ((with_reducible refine' ev_isiB ?k0); (case k0 => walk_at "ev"))
  | ((with_reducible refine' ev_isN ?k0); (case k0 => walk_at "ev"))
  | ((with_reducible refine' ev_notN ?k0); (case k0 => walk_at "ev"))
  | ((with_reducible refine' ev_notIB ?k0 ?k1); (case k0 => walk_at "ev"); (case k1 => walk_at "ev"))
  | ((with_reducible refine' ev_neNil ?k0 ?k1); (case k0 => walk_at "ev"); (case k1 => walk_at "sq"))
  | ((with_reducible refine' ev_eqNil ?k0 ?k1); (case k0 => walk_at "ev"); (case k1 => walk_at "sq"))
  | ((with_reducible refine' ev_eqL ?k0 ?k1 ?k2 ?k3); (case k0 => walk_at "ev"); (case k1 => walk_at "ev"); (case k2 => walk_at "sq"); (case k3 => walk_at "sq"))
  | ((with_reducible refine' ev_neL ?k0 ?k1 ?k2 ?k3); (case k0 => walk_at "ev"); (case k1 => walk_at "ev"); (case k2 => walk_at "sq"); (case k3 => walk_at "sq"))
  | ((with_reducible refine' ev_min2 ?k0 ?k1); (case k0 => walk_at "ev"); (case k1 => walk_at "ev"))
  | ((with_reducible refine' ev_max2 ?k0 ?k1); (case k0 => walk_at "ev"); (case k1 => walk_at "ev"))
  | ((with_reducible refine' ev_intB ?k0); (case k0 => walk_at "ev"))
  | ((with_reducible refine' ev_andV ?k0 (fun hb => ?k1)); (case k0 => walk_at "ev"); (case k1 => (walk_at "hb"; walk_at "ev")))
  | ((with_reducible refine' ev_orV ?k0 (fun hb => ?k1)); (case k0 => walk_at "ev"); (case k1 => (walk_at "hb"; walk_at "ev")))
  | ((with_reducible refine' ev_notV ?k0); (case k0 => walk_at "ev"))
  | ((with_reducible refine' ev_ifI ?k0 (fun hb => ?k1) (fun hb => ?k2)); (case k0 => walk_at "et"); (case k1 => (walk_at "hb"; walk_at "ev")); (case k2 => (walk_at "hb"; walk_at "ev")))
  | ((with_reducible refine' ev_ifS ?k0 (fun hb => ?k1) (fun hb => ?k2)); (case k0 => walk_at "et"); (case k1 => (walk_at "hb"; walk_at "ev")); (case k2 => (walk_at "hb"; walk_at "ev"))))
local macro_rules | `(tactic| walk_at "hb") => `(tactic| (try simp only [decide_eq_true_eq, decide_eq_false_iff_not, Bool.and_eq_true, Bool.or_eq_true, Bool.or_eq_false_iff, Bool.not_eq_true', Bool.not_eq_false', beq_iff_eq] at *))
local macro_rules | `(tactic| walk_at "sp") => `(tactic| first
  | (refine' v_number ?k0 ?k1 ?k2; (case k0 => walk_at "sq"); (case k1 => walk_at "ar"); (case k2 => walk_at "ar"))
  | (refine' v_drawn ?k0 ?k1; (case k0 => walk_at "sq"); (case k1 => walk_at "ar"))
  | exact v_size
  | exact v_counts
  | (refine' v_wraps ?k0 ?k1 ?k2 ?k3 ?k4; (case k0 => walk_at "sq"); (case k1 => walk_at "ar"); (case k2 => walk_at "ar"); (case k3 => walk_at "ar"); (case k4 => walk_at "ar"))
  | (refine' v_l_wraps ?k0 ?k1 ?k2 ?k3 ?k4; (case k0 => walk_at "sq"); (case k1 => walk_at "ar"); (case k2 => walk_at "ar"); (case k3 => walk_at "ar"); (case k4 => walk_at "ar"))
  | (refine' v_cross ?k0 ?k1 ?k2 ?k3 ?k4; (case k0 => walk_at "sq"); (case k1 => walk_at "ar"); (case k2 => walk_at "ar"); (case k3 => walk_at "ar"); (case k4 => walk_at "ar"))
  | (refine' v_places ?k0 ?k1 ?k2; (case k0 => walk_at "sq"); (case k1 => walk_at "ar"); (case k2 => assumption))
  | (refine' v_letters ?k0 ?k1 ?k2; (case k0 => walk_at "sq"); (case k1 => walk_at "ar"); (case k2 => assumption))
  | (refine' v_l_places ?k0 ?k1 ?k2; (case k0 => walk_at "sq"); (case k1 => walk_at "ar"); (case k2 => assumption))
  | (refine' v_fits ?k0 ?k1 ?k2 ?k3; (case k0 => walk_at "sq"); (case k1 => walk_at "ar"); (case k2 => walk_at "ar"); (case k3 => walk_at "ar"))
  | (refine' v_none ?k0 ?k1 ?k2; (case k0 => walk_at "sq"); (case k1 => walk_at "ar"); (case k2 => walk_at "ar")))
local macro_rules | `(tactic| walk_at "sp") => `(tactic| first
  | (refine' v_turned ?k0 ?k1 ?k2; (case k0 => walk_at "sq"); (case k1 => walk_at "ar"); (case k2 => assumption))
  | (refine' v_same ?k0 ?k1 ?k2; (case k0 => walk_at "hl"); (case k1 => walk_at "sq"); (case k2 => walk_at "ar"))
  | (refine' v_told ?k0 ?k1 ?k2; (case k0 => walk_at "sq"); (case k1 => walk_at "hl"); (case k2 => assumption))
  | (refine' v_parted ?k0 ?k1 ?k2 ?k3; (case k0 => walk_at "sq"); (case k1 => walk_at "ar"); (case k2 => walk_at "ar"); (case k3 => assumption)))
local macro_rules | `(tactic| walk_at "sp") => `(tactic| first
  | (refine' v_is_pile ?k0 ?k1 ?k2 ?k3; (case k0 => walk_at "hl"); (case k1 => assumption); (case k2 => walk_at "ar"); (case k3 => walk_at "ar")))
local macro_rules | `(tactic| walk_at "sp") => `(tactic| first
  | (refine' v_held ?k0 ?k1 ?k2 ?k3 ?k4 ?k5; (case k0 => walk_at "sq"); (case k1 => walk_at "st"); (case k2 => walk_at "ar"); (case k3 => (refine ⟨?_, ?_⟩ <;> walk_at "ar")); (case k4 => (refine ⟨?_, ?_⟩ <;> walk_at "ar")); (case k5 => (refine ⟨?_, ?_⟩ <;> walk_at "ar")))
  | (refine' v_l_held ?k0 ?k1 ?k2 ?k3 ?k4; (case k0 => walk_at "sq"); (case k1 => walk_at "ar"); (case k2 => (refine ⟨?_, ?_⟩ <;> walk_at "ar")); (case k3 => (refine ⟨?_, ?_⟩ <;> walk_at "ar")); (case k4 => (refine ⟨?_, ?_⟩ <;> walk_at "ar")))
  | (refine' v_lies ?k0 ?k1 ?k2 ?k3 ?k4; (case k0 => walk_at "sq"); (case k1 => walk_at "st"); (case k2 => walk_at "ar"); (case k3 => (refine ⟨?_, ?_⟩ <;> walk_at "ar")); (case k4 => (refine ⟨?_, ?_⟩ <;> walk_at "ar")))
  | (refine' v_judged ?k0 ?k1 ?k2 ?k3; (case k0 => walk_at "sq"); (case k1 => walk_at "ar"); (case k2 => assumption); (case k3 => assumption))
  | (refine' v_l_free ?k0 ?k1 ?k2 ?k3 ?k4 ?k5; (case k0 => walk_at "sq"); (case k1 => walk_at "sq"); (case k2 => walk_at "ar"); (case k3 => walk_at "ar"); (case k4 => walk_at "ar"); (case k5 => assumption))
  | (refine' v_are_free ?k0 ?k1 ?k2 ?k3 ?k4 ?k5; (case k0 => walk_at "sq"); (case k1 => walk_at "sq2"); (case k2 => walk_at "ar"); (case k3 => walk_at "ar"); (case k4 => walk_at "ar"); (case k5 => assumption)))
section
variable {K : PySem.W.Frag} {c : Cs}
theorem el_listQ {σ : L2.St} {H : Hp} {ta : TE} {p : Addr} {ns : List Int} (ha : Ev ta σ H (.ref p)) (h : Sq2 K H p ns) : EvL (tCB (rListS K) (tCons ta tNil)) σ H (ns.map V.int) := fun H1 e Q q =>
  ha H1 e _ fun H2 e2 => ⟨p, ns.map V.int, rfl, Sq2.mono (e.trans e2) h, fun l hl => q l _ (fresh_back e2 hl) (e2.trans (Ex.new hl)) upd_same⟩
theorem read_Bench_settle (vs : List V) (H : Hp) (Q : VK) (E : XK) (h : sp_Bench_settle K c vs H Q E) : t_Bench_settle K c E { nx := fun _ H' => Q .non H', rt := Q } (start ["self", "drawn"] vs) H := by
  obtain ⟨b, d, la, lo, ld, ps, ms, rfl, hc, hb, hla, hd, h1, h2, h3, h4, q, x⟩ := h
  have hf : Ev (tCall (sp_are_free K c) [] E (tCons (tFld K (tVar 0) "at") (tCons (tVar 1) tNil))) [some (.ref b), some (.ref d)] H (.bl (freeAt ps ms)) :=
    ev_callD (vs := [.ref la, .ref d]) (ea_cons (ev_at hc (ev_var rfl) hb) (ea_cons (ev_var rfl) ea_nil)) (v_are_free (sq_lst hla) (.inl (sq_lst hd)) h1 h2 h3 h4)
  refine Go.here (g_when (et_not (et_B hf)) (fun hb2 => ?_) (fun hb2 => ?_))
  · refine g_raise fun H1 e1 => x (fun z => ?_) H1 e1
    rw [z] at hb2
    exact Bool.noConfusion hb2
  · obtain ⟨dx, hx⟩ := hb
    refine g_fld (v := .ref d) hc.cl hc.nD hx (bf_len _ _ _) (ev_var rfl) (ev_var rfl) fun H1 e1 => ?_
    refine g_next (D := _) (fun H2 e2 => ?_) _ (Ex.refl _)
    refine q (by simpa using hb2) H2 (fun a o ha ho => e2 a o ((upd_ne ha).trans (e1 a o ho))) ⟨dx, e2 b _ ?_⟩
    rw [upd_same, bf_put]

theorem read_Bench_loose (vs : List V) (H : Hp) (Q : VK) (E : XK) (h : sp_Bench_loose K c vs H Q E) : t_Bench_loose K c E { nx := fun _ H' => Q .non H', rt := Q } (start ["self"] vs) H := by
  obtain ⟨b, la, lo, ld, ds, rfl, hc, hb, hd, q⟩ := h
  exact Go.here (g_retL (el_srt (ev_drawn hc (ev_var rfl) hb) (sq_lst hd)) q)

/-- for a, b in a new list of new pairs; the list at r may grow -/
theorem g_forT2 {σ : L2.St} {H : Hp} {tl : TE} {D : Ends} {tu tz : TS} {j k : Nat} {ps : List (Int × Int)} {r : Addr} {zs : List V} (hr : H r = some (.lst zs)) (h : EvTs tl σ H ps) (Pv : Hp → Nat → L2.St → Hp → Prop) (h0 : ∀ B, Ex H B → Pv B 0 σ B) (hE : ∀ B i σ' H', Ex H B → Pv B i σ' H' → OffB r B H')
    (hs : ∀ B (i : Nat) q σ' H', ps[i]? = some q → Ex H B → Pv B i σ' H' → Go tu { D with nx := Pv B (i + 1), ct := Pv B (i + 1), bk := tz D } ((σ'.set j (some (.int q.1))).set k (some (.int q.2))) H') (hd : ∀ B σ' H', Ex H B → Pv B ps.length σ' H' → Go tz D σ' H') : Go (tSeq (tFor (iList K tl) (gTup K 2 (gCons (gName j) (gCons (gName k) gNil))) tu) tz) D σ H := fun H0 e0 =>
  h H0 e0 _ fun p ts H1 hp e h1 tq => by
    have hpr : p ≠ r := fun z => by
      rw [z, e0 r _ hr] at hp
      cases hp
    refine ⟨p, rfl, ⟨_, sq_of h1⟩, for_list (xs := ts.map V.ref) (Pv H1) (h0 H1 (e0.trans e)) (fun i σ' H' _ pv => sq_of (hE H1 i σ' H' (e0.trans e) pv p _ hpr h1)) (fun i x σ' H' hi pv => ?_) (fun σ' H' pv => (hd H1 σ' H' (e0.trans e) (by
        have e9 : (ts.map V.ref).length = ps.length := by rw [List.length_map]; exact tq.1
        rw [e9] at pv
        exact pv)).here)⟩
    rw [List.getElem?_map] at hi
    cases ht : ts[i]? with
    | none => rw [ht] at hi; cases hi
    | some t =>
      rw [ht] at hi
      cases hi
      have hlt : i < ps.length := by
        have := (List.getElem?_eq_some_iff.mp ht).1
        have := tq.1
        omega
      have htt := tq.2 i t _ ht (List.getElem?_eq_getElem hlt)
      have htr : t ≠ r := fun z => by
        rw [z, (e0.trans e) r _ hr] at htt
        cases htt
      exact ⟨t, _, rfl, st_of (hE H1 i σ' H' (e0.trans e) pv t _ htr htt), rfl, _, _, rfl, _, _, rfl, rfl, (hs H1 i ps[i] σ' H' (List.getElem?_eq_getElem hlt) (e0.trans e) pv).here⟩
theorem read_Bench_parts (vs : List V) (H : Hp) (Q : VK) (E : XK) (h : sp_Bench_parts K c vs H Q E) : t_Bench_parts K c E { nx := fun _ H' => Q .non H', rt := Q } (start ["self", "found", "first", "last", "stamp"] vs) H := by
  obtain ⟨b, la, lo, ld, ns, ps, ds, rfl, hc, hb, hla, hlo, hld, h1, h2, h3, q⟩ := h
  refine Go.here (g_asgL (xs := []) (by walk_at "el") fun r H1 hr e1 hl => ?_)
  have hb1 := hb.mono e1
  have epl : (partsOf (endsOf (ps.length : Int) ds)).length = ds.length + 1 := by
    unfold partsOf
    rw [List.length_map, List.length_range, ends_len]
  have hcall : EvTs (tCall (sp_parts_of K c) [] E (tCons (tCB (rLenS K) (tCons (tFld K (tVar 0) "at") tNil)) (tCons (tFld K (tVar 0) "drawn") tNil))) [some (.ref b), some (.ref r), none, none, none] H1 (partsOf (endsOf (ps.length : Int) ds)) :=
    ets_call (vs := [.int (ps.length : Int), .ref ld]) (ea_cons (ev_lenI (ev_at hc (ev_var rfl) hb1) (sq_lst (e1 la _ hla))) (ea_cons (ev_drawn hc (ev_var rfl) hb1) ea_nil)) (v_parts_of (.inl (sq_lst (e1 ld _ hld))) h3)
  refine g_forT2 (K := K) hl hcall (fun B i σ H' => ∃ (ts : List Addr) (y2 y3 : Option V), σ = [some (.ref b), some (.ref r), y2, y3, none] ∧ Ex H H' ∧ OffB r B H' ∧ H' r = some (.lst (ts.map V.ref)) ∧ r ∉ ts ∧ (∀ t ∈ ts, H t = none) ∧ Rows H' ts ((partRows ns (ps.length : Int) ds).take i))
    (fun B eB => ⟨[], none, none, rfl, e1.trans eB, OffB.of (Ex.refl B), eB r _ hl, by simp, by simp, by simpa using Rows.nil⟩) (fun B i σ' H' _ hP => ?_) (fun B i qq σ' H' hq eB hP => ?_) (fun B σ' H' eB hP => ?_)
  · obtain ⟨_, _, _, _, _, e, _⟩ := hP
    exact e
  · obtain ⟨ts, y2, y3, rfl, e, eo, hl', hrt, hft, hrw⟩ := hP
    have hi : i < ds.length + 1 := by
      have := (List.getElem?_eq_some_iff.mp hq).1
      omega
    have hrow : (partRows ns (ps.length : Int) ds)[i]? = some (ns.filter fun s => decide (qq.1 ≤ s) && decide (s ≤ qq.2)) := by
      unfold partRows
      rw [List.getElem?_map, hq]
      rfl
    have htl : ts.length ≤ i := by
      have := hrw.1
      rw [List.length_take] at this
      omega
    refine g_appL (xs := ts.map V.ref) (ys := (ns.filter fun s => decide (qq.1 ≤ s) && decide (s ≤ qq.2)).map V.int) hl' (ev_var rfl) (el_filt (fun s => decide (qq.1 ≤ s) && decide (s ≤ qq.2)) (ev_order hc (ev_var rfl) (hb.mono e)) (sq_lst (e lo _ hlo)) (by omega) (fun _ => rfl) (fun _ => rfl) (fun s H2 e2 hs => et_and (et_test (ev_le (ev_var rfl) (ev_var rfl))) fun _ => et_test (ev_le (ev_var rfl) (ev_var rfl)))) (by rw [List.length_map]; omega) fun t H2 ht e2 hlt => ?_
    refine g_next (D := _) (fun H3 e3 => ?_) _ (Ex.refl _)
    have htr : t ≠ r := fun z => by
      rw [z, hl'] at ht
      cases ht
    refine ⟨ts ++ [t], _, _, rfl, (Ex.mut (e.trans e2) hr).trans e3, fun a o ha ho => e3 a o ((upd_ne ha).trans (e2 a o (eo a o ha ho))), ?_, ?_, fun u hu => ?_, ?_⟩
    · rw [List.map_append]
      exact e3 r _ upd_same
    · simp only [List.mem_append, List.mem_singleton, not_or]
      exact ⟨hrt, fun z => htr z.symm⟩
    · rcases List.mem_append.mp hu with hu | hu
      · exact hft u hu
      · rw [List.mem_singleton.mp hu]
        exact fresh_back e ht
    · rw [take_more hrow]
      exact Rows.mono e3 (Rows.app ((hrw.mono e2).mut hrt) (Rows.one ((upd_ne htr).trans hlt)))
  · obtain ⟨ts, y2, y3, rfl, e, eo, hl', hrt, hft, hrw⟩ := hP
    have e9 : (partRows ns (ps.length : Int) ds).take (partsOf (endsOf (ps.length : Int) ds)).length = partRows ns (ps.length : Int) ds := List.take_of_length_le (by unfold partRows; rw [List.length_map]; exact Nat.le_refl _)
    rw [e9] at hrw
    exact g_ret (v := .ref r) (ev_var rfl) fun H2 e2 => q r ts H2 hr hft (e.trans e2) (e2 r _ hl') (hrw.mono e2)

theorem g_fldX {σ : L2.St} {H : Hp} {te to : TE} {D : Ends} {tz : TS} {f : Str} (h : EvX te σ H) : Go (tSeq (sFld K to te f) tz) D σ H := fun H1 e => h H1 e _
theorem read_Bench_init (vs : List V) (H : Hp) (Q : VK) (E : XK) (h : sp_Bench_init K c vs H Q E) : t_Bench_init K c E { nx := fun _ H' => Q .non H', rt := Q } (start ["self", "pile"] vs) H := by
  obtain ⟨b, p, dx, ns, rfl, hc, hb, hp, hl, nx, q, x⟩ := h
  have hpb : p ≠ b := fun z => by
    rw [z, hb] at hp
    cases hp
  by_cases pp : IsPile ns
  · replace q := q pp
    refine Go.here (g_fldL (xs := (pl ns).map V.int) hc.cl hc.nA hb (by show 0 < 1000; decide) (el_callD (vs := [.ref p]) (ea_cons (ev_var rfl) ea_nil) (v_judged (sq_lst hp) hl nx pp)) (ev_var rfl) fun la H1 ha e1 hla => ?_)
    have hla_b : la ≠ b := fun z => by
      rw [z, hb] at ha
      cases ha
    have hp1 : (upd H1 b (.ins c.be dx (putF "at" (.ref la) []))) p = some (.lst (ns.map V.int)) := (upd_ne hpb).trans (e1 p _ hp)
    refine Go.here (g_fldL (xs := ns.map V.int) (fs := putF "at" (.ref la) []) (dx := dx) hc.cl hc.nO upd_same (by have := length_putF "at" (.ref la) []; simp at this; omega) (el_list (ev_var rfl) (sq_lst hp1)) (ev_var rfl) fun lo H2 ho e2 hlo => ?_)
    have hlo_b : lo ≠ b := fun z => by
      rw [z, upd_same] at ho
      cases ho
    have hlo_a : lo ≠ la := fun z => by
      rw [z, upd_ne hla_b, hla] at ho
      cases ho
    refine Go.here (g_fldL (xs := []) (fs := putF "order" (.ref lo) (putF "at" (.ref la) [])) (dx := dx) hc.cl hc.nD upd_same (by have := length_putF "at" (.ref la) []; have := length_putF "order" (.ref lo) (putF "at" (.ref la) []); simp at *; omega) (el_lst ea_nil (Nat.zero_le _)) (ev_var rfl) fun ld H3 hd e3 hld => ?_)
    have hld_b : ld ≠ b := fun z => by
      rw [z, upd_same] at hd
      cases hd
    refine g_next (D := _) (fun H4 e4 => ?_) _ (Ex.refl _)
    have hoff : OffB b H H4 := fun a o hab h => e4 a o ((upd_ne hab).trans (e3 a o ((upd_ne hab).trans (e2 a o ((upd_ne hab).trans (e1 a o h))))))
    have hloH : H lo = none := by
      cases hh : H lo with
      | none => rfl
      | some o =>
        rw [upd_ne hlo_b, e1 lo o hh] at ho
        cases ho
    have hldH : H ld = none := by
      cases hh : H ld with
      | none => rfl
      | some o =>
        rw [upd_ne hld_b, e2 ld o ((upd_ne hld_b).trans (e1 ld o hh))] at hd
        cases hd
    exact q H4 la lo ld hoff ⟨dx, e4 b _ upd_same⟩ ha hloH hldH
      (e4 la _ ((upd_ne hla_b).trans (e3 la _ ((upd_ne hla_b).trans (e2 la _ ((upd_ne hla_b).trans hla))))))
      (e4 lo _ ((upd_ne hlo_b).trans (e3 lo _ ((upd_ne hlo_b).trans hlo))))
      (e4 ld _ ((upd_ne hld_b).trans hld))
  · refine Go.here (g_fldX (evx_call (vs := [.ref p]) (ea_cons (ev_var rfl) ea_nil) fun H1 e Q' => ?_))
    exact ⟨p, ns, rfl, sq_lst (e p _ hp), hl, nx, .no pp fun H' e' => x pp H' (e.trans e')⟩

theorem read_Bench_draw (vs : List V) (H : Hp) (Q : VK) (E : XK) (h : sp_Bench_draw K c vs H Q E) : t_Bench_draw K c E { nx := fun _ H' => Q .non H', rt := Q } (start ["self", "creases", "crease"] vs) H := by
  obtain ⟨b, r, la, lo, ld, ps, ds, cs, rfl, hc, hb, hla, hld, hcr, h1, h2, h3, h4, h5, q, x⟩ := h
  have hlen : ∀ H1, Ex H H1 → Ev (tCB (rLenS K) (tCons (tFld K (tVar 0) "at") tNil)) [some (.ref b), some (.ref r), none] H1 (.int (ps.length : Int)) := fun H1 e1 => ev_lenI (ev_at hc (ev_var rfl) (hb.mono e1)) (sq_lst (e1 la _ hla))
  by_cases hk : Creases (ps.length : Int) cs
  · replace q := q hk
    obtain ⟨q, x2⟩ := q
    refine Go.here (g_drop (v := .non) (ev_callD (vs := [.int (ps.length : Int), .ref r]) (ea_cons (hlen H (Ex.refl H)) (ea_cons (ev_var rfl) ea_nil)) (v_look_cr hcr (by omega) hk)) ?_)
    refine g_forQ (K := K) (ns := cs) (ev_var rfl) hcr (fun i σ H' => ∃ y : Option V, σ = [some (.ref b), some (.ref r), y] ∧ Ex H H' ∧ ∀ z ∈ cs.take i, z ∉ ds)
      (fun H1 e => ⟨none, rfl, e, fun z hz => by simp at hz⟩) (fun i σ H' hP => ?_) (fun i z σ H' hz hP => ?_) (fun σ H' hP => ?_)
    · obtain ⟨_, _, e, _⟩ := hP
      exact e
    · obtain ⟨y, rfl, e, hn⟩ := hP
      refine g_when (b := decide (z ∈ ds)) (et_test (ev_inI (ev_var rfl) (ev_drawn hc (ev_var rfl) (hb.mono e)) (.inl (sq_lst (e ld _ hld))))) (fun hb2 => ?_) (fun hb2 => ?_)
      · refine g_raise fun H1 e1 => x2 (fun hh => ?_) H1 (e.trans e1)
        exact hh.1 z (List.mem_of_getElem? hz) (of_decide_eq_true hb2)
      · refine g_next fun H3 e3 => ⟨_, rfl, e.trans e3, fun w hw => ?_⟩
        rw [take_more hz] at hw
        rcases List.mem_append.mp hw with hw | hw
        · exact hn w hw
        · rw [List.mem_singleton.mp hw]
          exact of_decide_eq_false hb2
    · obtain ⟨y, rfl, e, hn⟩ := hP
      rw [List.take_length] at hn
      have hlc : ∀ H1, Ex H H1 → EvL (tCB (rListS K) (tCons (tVar 1) tNil)) [some (.ref b), some (.ref r), y] H1 (cs.map V.int) := fun H1 e1 => el_listQ (ev_var rfl) (hcr.mono e1)
      refine g_meth1L (m := "settle") (xs := ds.map V.int ++ cs.map V.int) (by decide +kernel) (by decide +kernel) (by decide +kernel) (ev_var rfl) (hb.mono e) (el_catV (ev_drawn hc (ev_var rfl) (hb.mono e)) (e ld _ hld) (hlc H' e) (by simp only [List.length_map]; omega)) fun d H1 hd e1 hd1 => ?_
      rw [← List.map_append] at hd1
      have eH := e.trans e1
      refine ⟨b, d, la, lo, ld, ps, ds ++ cs, rfl, hc, hb.mono eH, eH la _ hla, hd1, h1, h2, by rw [List.length_append]; omega, fun z hz => ?_, fun hf H2 o2 i2 => ?_, fun hf H2 e2 => x2 (fun hh => hf hh.2) H2 (eH.trans e2)⟩
      · rcases List.mem_append.mp hz with hz | hz
        · exact h5 z hz
        · exact hk.bnd z hz
      · refine g_next (D := _) (fun H3 e3 => ?_) _ (Ex.refl _)
        have hdb := ne_ins (hb.mono eH) hd1
        exact q ⟨hn, hf⟩ H3 d (fun a o hab ho => e3 a o (o2 a o hab (eH a o ho))) (i2.mono e3) (fresh_back e hd) (e3 d _ (o2 d _ hdb hd1))
  · refine Go.here (g_dropX (evx_call (vs := [.int (ps.length : Int), .ref r]) (ea_cons (hlen H (Ex.refl H)) (ea_cons (ev_var rfl) ea_nil)) (x_look_cr hcr (by omega) hk (x hk))))

theorem read_Bench_press (vs : List V) (H : Hp) (Q : VK) (E : XK) (h : sp_Bench_press K c vs H Q E) : t_Bench_press K c E { nx := fun _ H' => Q .non H', rt := Q } (start ["self", "creases", "crease"] vs) H := by
  obtain ⟨b, r, la, lo, ld, ps, ds, cs, rfl, hc, hb, hla, hld, hcr, h1, h2, h3, h4, h5, q, x⟩ := h
  have hlen : ∀ H1, Ex H H1 → Ev (tCB (rLenS K) (tCons (tFld K (tVar 0) "at") tNil)) [some (.ref b), some (.ref r), none] H1 (.int (ps.length : Int)) := fun H1 e1 => ev_lenI (ev_at hc (ev_var rfl) (hb.mono e1)) (sq_lst (e1 la _ hla))
  by_cases hk : Creases (ps.length : Int) cs
  · replace q := q hk
    obtain ⟨q, x2⟩ := q
    refine Go.here (g_drop (v := .non) (ev_callD (vs := [.int (ps.length : Int), .ref r]) (ea_cons (hlen H (Ex.refl H)) (ea_cons (ev_var rfl) ea_nil)) (v_look_cr hcr (by omega) hk)) ?_)
    refine g_forQ (K := K) (ns := cs) (ev_var rfl) hcr (fun i σ H' => ∃ y : Option V, σ = [some (.ref b), some (.ref r), y] ∧ Ex H H' ∧ ∀ z ∈ cs.take i, z ∈ ds)
      (fun H1 e => ⟨none, rfl, e, fun z hz => by simp at hz⟩) (fun i σ H' hP => ?_) (fun i z σ H' hz hP => ?_) (fun σ H' hP => ?_)
    · obtain ⟨_, _, e, _⟩ := hP
      exact e
    · obtain ⟨y, rfl, e, hn⟩ := hP
      refine g_when (b := !decide (z ∈ ds)) (et_test (ev_notInI (ev_var rfl) (ev_drawn hc (ev_var rfl) (hb.mono e)) (.inl (sq_lst (e ld _ hld))))) (fun hb2 => ?_) (fun hb2 => ?_)
      · refine g_raise fun H1 e1 => x2 (fun hh => ?_) H1 (e.trans e1)
        have := hh.1 z (List.mem_of_getElem? hz)
        simp [this] at hb2
      · refine g_next fun H3 e3 => ⟨_, rfl, e.trans e3, fun w hw => ?_⟩
        rw [take_more hz] at hw
        rcases List.mem_append.mp hw with hw | hw
        · exact hn w hw
        · rw [List.mem_singleton.mp hw]
          simpa using hb2
    · obtain ⟨y, rfl, e, hn⟩ := hP
      rw [List.take_length] at hn
      have hfl : (pressed ds cs).length ≤ ds.length := List.length_filter_le _ _
      refine g_meth1L (m := "settle") (xs := (pressed ds cs).map V.int) (by decide +kernel) (by decide +kernel) (by decide +kernel) (ev_var rfl) (hb.mono e) (el_filt (fun z => !decide (z ∈ cs)) (ev_drawn hc (ev_var rfl) (hb.mono e)) (sq_lst (e ld _ hld)) (by omega) (fun _ => rfl) (fun _ => rfl) (fun z H1 e1 hz => et_test (ev_notInI (ev_var rfl) (ev_var rfl) (hcr.mono (e.trans e1))))) fun d H1 hd e1 hd1 => ?_
      have eH := e.trans e1
      refine ⟨b, d, la, lo, ld, ps, pressed ds cs, rfl, hc, hb.mono eH, eH la _ hla, hd1, h1, h2, by omega, fun z hz => h5 z (List.mem_filter.mp hz).1, fun hf H2 o2 i2 => ?_, fun hf H2 e2 => x2 (fun hh => hf hh.2) H2 (eH.trans e2)⟩
      refine g_next (D := _) (fun H3 e3 => ?_) _ (Ex.refl _)
      have hdb := ne_ins (hb.mono eH) hd1
      exact q ⟨hn, hf⟩ H3 d (fun a o hab ho => e3 a o (o2 a o hab (eH a o ho))) (i2.mono e3) (fresh_back e hd) (e3 d _ (o2 d _ hdb hd1))
  · refine Go.here (g_dropX (evx_call (vs := [.int (ps.length : Int), .ref r]) (ea_cons (hlen H (Ex.refl H)) (ea_cons (ev_var rfl) ea_nil)) (x_look_cr hcr (by omega) hk (x hk))))
end
end Fo
/-! FoldR15 -/
namespace Fo
open PySem L2 Evl
local macro_rules | `(tactic| walk_at "hl") => `(tactic| first
  | assumption
  | exact upd_same
  | (refine (by assumption : Ex _ _) _ _ ?_; walk_at "hl"))
local macro_rules | `(tactic| walk_at "sq") => `(tactic| first
  | assumption
  | (refine sq_lst ?_; walk_at "hl")
  | (refine ex_l (by assumption) ?_; walk_at "sq"))
local macro_rules | `(tactic| walk_at "st") => `(tactic| first
  | assumption
  | (refine st_of ?_; walk_at "hl")
  | (refine ex_t (by assumption) ?_; walk_at "st"))
local macro_rules | `(tactic| walk_at "sq2") => `(tactic| first
  | assumption
  | (refine Or.inl ?_; walk_at "sq")
  | (refine Or.inr ?_; walk_at "st")
  | (refine Sq2.mono (by assumption) ?_; walk_at "sq2"))
local macro_rules | `(tactic| walk_at "ar") => `(tactic| first
  | assumption
  | omega
  | decide)
local macro_rules | `(tactic| walk_at "lar") => `(tactic| first
  | omega
  | (simp only [List.length_append, List.length_map, List.length_take, List.length_drop, List.length_cons, List.length_nil, List.length_replicate]; omega))
local macro_rules | `(tactic| walk_at "hb") => `(tactic| first
  | skip)
local macro_rules | `(tactic| walk_at "mul") => `(tactic| first
  | (exact Or.inr ⟨by decide, by decide⟩)
  | (exact Or.inl ⟨by decide, by decide⟩)
  | (exact Or.inl ⟨by omega, by omega⟩)
  | (exact Or.inr ⟨by omega, by omega⟩))
local macro_rules | `(tactic| walk_at "div") => `(tactic| first
  | (exact ⟨by decide, by decide⟩)
  | (exact ⟨by omega, by omega⟩))
local macro_rules | `(tactic| walk_at "ea") => `(tactic| first
  | exact ea_nil
  | ((with_reducible refine' ea_cons ?k0 ?k1); (case k0 => walk_at "ev"); (case k1 => walk_at "ea")))
local macro_rules | `(tactic| walk_at "eo") => `(tactic| first
  | exact eo_none
  | ((with_reducible refine' eo_some ?k0); (case k0 => walk_at "ev")))
local macro_rules | `(tactic| walk_at "el") => `(tactic| first
  | ((with_reducible refine' el_lst ?k0 ?k1); (case k0 => walk_at "ea"); (case k1 => (exact Nat.le_of_ble_eq_true rfl)))
  | ((with_reducible refine' el_from ?k0 ?k1 ?k2 ?k3 ?k4); (case k0 => walk_at "ev"); (case k1 => walk_at "eo"); (case k2 => walk_at "sq"); (case k3 => walk_at "ar"); (case k4 => walk_at "lar"))
  | ((with_reducible refine' el_upto ?k0 ?k1 ?k2 ?k3 ?k4); (case k0 => walk_at "ev"); (case k1 => walk_at "eo"); (case k2 => walk_at "sq"); (case k3 => walk_at "ar"); (case k4 => walk_at "lar"))
  | ((with_reducible refine' el_rep1 ?k0 ?k1 ?k2 ?k3); (case k0 => walk_at "el"); (case k1 => walk_at "ev"); (case k2 => walk_at "ar"); (case k3 => walk_at "ar"))
  | ((with_reducible refine' el_cat ?k0 ?k1 ?k2); (case k0 => walk_at "el"); (case k1 => walk_at "el"); (case k2 => walk_at "lar"))
  | ((with_reducible refine' el_callD ?k0 ?k1); (case k0 => walk_at "ea"); (case k1 => walk_at "sp"))
  | ((with_reducible refine' el_list ?k0 ?k1); (case k0 => walk_at "ev"); (case k1 => walk_at "sq"))
  | ((with_reducible refine' el_srt ?k0 ?k1); (case k0 => walk_at "ev"); (case k1 => walk_at "sq"))
  | ((with_reducible refine' el_sortedQ ?k0 ?k1); (case k0 => walk_at "ev"); (case k1 => walk_at "sq2"))
  | ((with_reducible refine' el_rev ?k0 ?k1); (case k0 => walk_at "ev"); (case k1 => walk_at "sq"))
  | ((with_reducible refine' el_step ?k0 ?k1 ?k2); (case k0 => walk_at "ev"); (case k1 => walk_at "eo"); (case k2 => walk_at "sq")))
local macro_rules | `(tactic| walk_at "et") => `(tactic| first
  | ((with_reducible refine' et_test ?k0); (case k0 => walk_at "ev"))
  | ((with_reducible refine' et_B ?k0); (case k0 => walk_at "ev"))
  | ((with_reducible refine' et_not ?k0); (case k0 => walk_at "et"))
  | ((with_reducible refine' et_and ?k0 (fun hb => ?k1)); (case k0 => walk_at "et"); (case k1 => (walk_at "hb"; walk_at "et")))
  | ((with_reducible refine' et_or ?k0 (fun hb => ?k1)); (case k0 => walk_at "et"); (case k1 => (walk_at "hb"; walk_at "et"))))
local macro_rules | `(tactic| walk_at "ev") => `(tactic| first
  | ((with_reducible refine' ev_var ?k0); (case k0 => rfl))
  | exact ev_c
  | ((with_reducible refine' ev_add ?k0 ?k1); (case k0 => walk_at "ev"); (case k1 => walk_at "ev"))
  | ((with_reducible refine' ev_sub ?k0 ?k1); (case k0 => walk_at "ev"); (case k1 => walk_at "ev"))
  | ((with_reducible refine' ev_ixI ?k0 ?k1 ?k2 ?k3 ?k4); (case k0 => walk_at "ev"); (case k1 => walk_at "ev"); (case k2 => walk_at "sq"); (case k3 => walk_at "ar"); (case k4 => walk_at "ar"))
  | ((with_reducible refine' ev_ixT ?k0 ?k1 ?k2 ?k3); (case k0 => walk_at "ev"); (case k1 => walk_at "ev"); (case k2 => walk_at "st"); (case k3 => rfl))
  | ((with_reducible refine' ev_lt ?k0 ?k1); (case k0 => walk_at "ev"); (case k1 => walk_at "ev"))
  | ((with_reducible refine' ev_gt ?k0 ?k1); (case k0 => walk_at "ev"); (case k1 => walk_at "ev"))
  | ((with_reducible refine' ev_le ?k0 ?k1); (case k0 => walk_at "ev"); (case k1 => walk_at "ev"))
  | ((with_reducible refine' ev_ge ?k0 ?k1); (case k0 => walk_at "ev"); (case k1 => walk_at "ev"))
  | ((with_reducible refine' ev_eqI ?k0 ?k1); (case k0 => walk_at "ev"); (case k1 => walk_at "ev"))
  | ((with_reducible refine' ev_neI ?k0 ?k1); (case k0 => walk_at "ev"); (case k1 => walk_at "ev"))
  | ((with_reducible refine' ev_eqB ?k0 ?k1); (case k0 => walk_at "ev"); (case k1 => walk_at "ev"))
  | ((with_reducible refine' ev_neB ?k0 ?k1); (case k0 => walk_at "ev"); (case k1 => walk_at "ev"))
  | ((with_reducible refine' ev_eqS ?k0 ?k1); (case k0 => walk_at "ev"); (case k1 => walk_at "ev"))
  | ((with_reducible refine' ev_neS ?k0 ?k1); (case k0 => walk_at "ev"); (case k1 => walk_at "ev"))
  | ((with_reducible refine' ev_mod ?k0 ?k1 ?k2); (case k0 => walk_at "ev"); (case k1 => walk_at "ev"); (case k2 => walk_at "ar"))
  | ((with_reducible refine' ev_mul ?k0 ?k1 ?k2); (case k0 => walk_at "ev"); (case k1 => walk_at "ev"); (case k2 => walk_at "mul"))
  | ((with_reducible refine' ev_div ?k0 ?k1 ?k2); (case k0 => walk_at "ev"); (case k1 => walk_at "ev"); (case k2 => walk_at "div"))
  | ((with_reducible refine' ev_neg ?k0); (case k0 => walk_at "ev"))
  | ((with_reducible refine' ev_callD ?k0 ?k1); (case k0 => walk_at "ea"); (case k1 => walk_at "sp"))
  | ((with_reducible refine' ev_lenI ?k0 ?k1); (case k0 => walk_at "ev"); (case k1 => walk_at "sq"))
  | ((with_reducible refine' ev_lenQ ?k0 ?k1); (case k0 => walk_at "ev"); (case k1 => walk_at "sq2"))
  | ((with_reducible refine' ev_lenSet ?k0 ?k1 ?k2); (case k0 => walk_at "ev"); (case k1 => walk_at "sq2"); (case k2 => walk_at "ar"))
  | ((with_reducible refine' ev_inI ?k0 ?k1 ?k2); (case k0 => walk_at "ev"); (case k1 => walk_at "ev"); (case k2 => walk_at "sq2"))
  | ((with_reducible refine' ev_notInI ?k0 ?k1 ?k2); (case k0 => walk_at "ev"); (case k1 => walk_at "ev"); (case k2 => walk_at "sq2"))
  | ((with_reducible refine' ev_lenTxt ?k0 ?k1); (case k0 => walk_at "ev"); (case k1 => walk_at "ar"))
  | ((with_reducible refine' ev_lenS ?k0 ?k1); (case k0 => walk_at "ev"); (case k1 => walk_at "ar"))
  | ((with_reducible refine' ev_ixTxt ?k0 ?k1 ?k2 ?k3 ?k4); (case k0 => walk_at "ev"); (case k1 => walk_at "ev"); (case k2 => walk_at "ar"); (case k3 => walk_at "ar"); (case k4 => walk_at "ar"))
  | ((with_reducible refine' ev_ix2 ?k0); (case k0 => walk_at "ev"))
  | ((with_reducible refine' ev_isiI ?k0); (case k0 => walk_at "ev"))
  | ((with_reducible refine' ev_isiL ?k0 ?k1); (case k0 => walk_at "ev"); (case k1 => walk_at "hl"))
  | ((with_reducible refine' ev_isiU ?k0 ?k1); (case k0 => walk_at "ev"); (case k1 => walk_at "hl"))
  | ((with_reducible refine' ev_isiS ?k0); (case k0 => walk_at "ev"))
  | ((with_reducible refine' ev_isiB ?k0); (case k0 => walk_at "ev"))
  | ((with_reducible refine' ev_isN ?k0); (case k0 => walk_at "ev"))
  | ((with_reducible refine' ev_notN ?k0); (case k0 => walk_at "ev"))
  | ((with_reducible refine' ev_notIB ?k0 ?k1); (case k0 => walk_at "ev"); (case k1 => walk_at "ev"))
  | ((with_reducible refine' ev_neNil ?k0 ?k1); (case k0 => walk_at "ev"); (case k1 => walk_at "sq"))
  | ((with_reducible refine' ev_eqNil ?k0 ?k1); (case k0 => walk_at "ev"); (case k1 => walk_at "sq"))
  | ((with_reducible refine' ev_eqL ?k0 ?k1 ?k2 ?k3); (case k0 => walk_at "ev"); (case k1 => walk_at "ev"); (case k2 => walk_at "sq"); (case k3 => walk_at "sq"))
  | ((with_reducible refine' ev_neL ?k0 ?k1 ?k2 ?k3); (case k0 => walk_at "ev"); (case k1 => walk_at "ev"); (case k2 => walk_at "sq"); (case k3 => walk_at "sq"))
  | ((with_reducible refine' ev_min2 ?k0 ?k1); (case k0 => walk_at "ev"); (case k1 => walk_at "ev"))
  | ((with_reducible refine' ev_max2 ?k0 ?k1); (case k0 => walk_at "ev"); (case k1 => walk_at "ev"))
  | ((with_reducible refine' ev_intB ?k0); (case k0 => walk_at "ev"))
  | ((with_reducible refine' ev_andV ?k0 (fun hb => ?k1)); (case k0 => walk_at "ev"); (case k1 => (walk_at "hb"; walk_at "ev")))
  | ((with_reducible refine' ev_orV ?k0 (fun hb => ?k1)); (case k0 => walk_at "ev"); (case k1 => (walk_at "hb"; walk_at "ev")))
  | ((with_reducible refine' ev_notV ?k0); (case k0 => walk_at "ev"))
  | ((with_reducible refine' ev_ifI ?k0 (fun hb => ?k1) (fun hb => ?k2)); (case k0 => walk_at "et"); (case k1 => (walk_at "hb"; walk_at "ev")); (case k2 => (walk_at "hb"; walk_at "ev")))
  | ((with_reducible refine' ev_ifS ?k0 (fun hb => ?k1) (fun hb => ?k2)); (case k0 => walk_at "et"); (case k1 => (walk_at "hb"; walk_at "ev")); (case k2 => (walk_at "hb"; walk_at "ev"))))
local macro_rules | `(tactic| walk_at "hb") => `(tactic| (try simp only [decide_eq_true_eq, decide_eq_false_iff_not, Bool.and_eq_true, Bool.or_eq_true, Bool.or_eq_false_iff, Bool.not_eq_true', Bool.not_eq_false', beq_iff_eq] at *))
local macro_rules | `(tactic| walk_at "sp") => `(tactic| first
  | (refine' v_number ?k0 ?k1 ?k2; (case k0 => walk_at "sq"); (case k1 => walk_at "ar"); (case k2 => walk_at "ar"))
  | (refine' v_drawn ?k0 ?k1; (case k0 => walk_at "sq"); (case k1 => walk_at "ar"))
  | exact v_size
  | exact v_counts
  | (refine' v_wraps ?k0 ?k1 ?k2 ?k3 ?k4; (case k0 => walk_at "sq"); (case k1 => walk_at "ar"); (case k2 => walk_at "ar"); (case k3 => walk_at "ar"); (case k4 => walk_at "ar"))
  | (refine' v_l_wraps ?k0 ?k1 ?k2 ?k3 ?k4; (case k0 => walk_at "sq"); (case k1 => walk_at "ar"); (case k2 => walk_at "ar"); (case k3 => walk_at "ar"); (case k4 => walk_at "ar"))
  | (refine' v_cross ?k0 ?k1 ?k2 ?k3 ?k4; (case k0 => walk_at "sq"); (case k1 => walk_at "ar"); (case k2 => walk_at "ar"); (case k3 => walk_at "ar"); (case k4 => walk_at "ar"))
  | (refine' v_places ?k0 ?k1 ?k2; (case k0 => walk_at "sq"); (case k1 => walk_at "ar"); (case k2 => assumption))
  | (refine' v_letters ?k0 ?k1 ?k2; (case k0 => walk_at "sq"); (case k1 => walk_at "ar"); (case k2 => assumption))
  | (refine' v_l_places ?k0 ?k1 ?k2; (case k0 => walk_at "sq"); (case k1 => walk_at "ar"); (case k2 => assumption))
  | (refine' v_fits ?k0 ?k1 ?k2 ?k3; (case k0 => walk_at "sq"); (case k1 => walk_at "ar"); (case k2 => walk_at "ar"); (case k3 => walk_at "ar"))
  | (refine' v_none ?k0 ?k1 ?k2; (case k0 => walk_at "sq"); (case k1 => walk_at "ar"); (case k2 => walk_at "ar")))
local macro_rules | `(tactic| walk_at "sp") => `(tactic| first
  | (refine' v_turned ?k0 ?k1 ?k2; (case k0 => walk_at "sq"); (case k1 => walk_at "ar"); (case k2 => assumption))
  | (refine' v_same ?k0 ?k1 ?k2; (case k0 => walk_at "hl"); (case k1 => walk_at "sq"); (case k2 => walk_at "ar"))
  | (refine' v_told ?k0 ?k1 ?k2; (case k0 => walk_at "sq"); (case k1 => walk_at "hl"); (case k2 => assumption))
  | (refine' v_parted ?k0 ?k1 ?k2 ?k3; (case k0 => walk_at "sq"); (case k1 => walk_at "ar"); (case k2 => walk_at "ar"); (case k3 => assumption)))
local macro_rules | `(tactic| walk_at "sp") => `(tactic| first
  | (refine' v_is_pile ?k0 ?k1 ?k2 ?k3; (case k0 => walk_at "hl"); (case k1 => assumption); (case k2 => walk_at "ar"); (case k3 => walk_at "ar")))
local macro_rules | `(tactic| walk_at "sp") => `(tactic| first
  | (refine' v_held ?k0 ?k1 ?k2 ?k3 ?k4 ?k5; (case k0 => walk_at "sq"); (case k1 => walk_at "st"); (case k2 => walk_at "ar"); (case k3 => (refine ⟨?_, ?_⟩ <;> walk_at "ar")); (case k4 => (refine ⟨?_, ?_⟩ <;> walk_at "ar")); (case k5 => (refine ⟨?_, ?_⟩ <;> walk_at "ar")))
  | (refine' v_l_held ?k0 ?k1 ?k2 ?k3 ?k4; (case k0 => walk_at "sq"); (case k1 => walk_at "ar"); (case k2 => (refine ⟨?_, ?_⟩ <;> walk_at "ar")); (case k3 => (refine ⟨?_, ?_⟩ <;> walk_at "ar")); (case k4 => (refine ⟨?_, ?_⟩ <;> walk_at "ar")))
  | (refine' v_lies ?k0 ?k1 ?k2 ?k3 ?k4; (case k0 => walk_at "sq"); (case k1 => walk_at "st"); (case k2 => walk_at "ar"); (case k3 => (refine ⟨?_, ?_⟩ <;> walk_at "ar")); (case k4 => (refine ⟨?_, ?_⟩ <;> walk_at "ar")))
  | (refine' v_judged ?k0 ?k1 ?k2 ?k3; (case k0 => walk_at "sq"); (case k1 => walk_at "ar"); (case k2 => assumption); (case k3 => assumption))
  | (refine' v_l_free ?k0 ?k1 ?k2 ?k3 ?k4 ?k5; (case k0 => walk_at "sq"); (case k1 => walk_at "sq"); (case k2 => walk_at "ar"); (case k3 => walk_at "ar"); (case k4 => walk_at "ar"); (case k5 => assumption))
  | (refine' v_are_free ?k0 ?k1 ?k2 ?k3 ?k4 ?k5; (case k0 => walk_at "sq"); (case k1 => walk_at "sq2"); (case k2 => walk_at "ar"); (case k3 => walk_at "ar"); (case k4 => walk_at "ar"); (case k5 => assumption)))
open LamX
section
variable {K : PySem.W.Frag} {c : Cs}
theorem lcw_range {ta : TA} {te : TE} {t : TT} {σ : L2.St} {H : Hp} {j : Nat} {vs : List Nat} {lo n : Int} (f : Nat → Bool) (v : Nat → V) (h : EvA ta σ H [.int lo, .int n]) (hn : -100000 ≤ lo ∧ lo ≤ 100000 ∧ -100000 ≤ n ∧ n ≤ 40000 ∧ n - lo ≤ 40000) (hw : ∀ x, wipe ((wipe σ vs).set j (some x)) vs = wipe σ vs)
    (ht : ∀ (i : Nat) H1, Ex H H1 → lo + (i : Int) < n → EvT t ((wipe σ vs).set j (some (.int (lo + (i : Int))))) H1 (f i)) (he : ∀ (i : Nat) H1, Ex H H1 → lo + (i : Int) < n → f i = true → Ev te ((wipe σ vs).set j (some (.int (lo + (i : Int))))) H1 (v i)) :
    EvL (tLc (iRng2 ta) (gName j) t te vs) σ H (given (n - lo).toNat f v) := fun H0 e Q q => h H0 e _ fun H1 e1 => ⟨lo, n, rfl, ⟨by omega, by omega, by omega, by omega⟩, fun Dl hD =>
  lc_range (lo := lo) (n := (n - lo).toNat) (Cw H1 f v Dl) ⟨hD, Ex.new hD, upd_same⟩ (fun i H' hi p => ⟨hw _, cw_turn p (by omega) (ht i H1 (e.trans e1) (by omega)) (fun hf => he i H1 (e.trans e1) (by omega) hf)⟩) (fun H' p => q Dl H' (fresh_back e1 p.1) (e1.trans p.2.1) p.2.2)⟩
theorem ev_abs {ta : TE} {σ : L2.St} {H : Hp} {i : Int} (ha : Ev ta σ H (.int i)) : Ev (tCB rAbs (tCons ta tNil)) σ H (.int (if i < 0 then -i else i)) := fun H1 e Q q => ha H1 e _ fun H2 e2 => ⟨i, rfl, q H2 e2⟩
theorem read_widest (vs : List V) (H : Hp) (Q : VK) (E : XK) (h : sp_widest K c vs H Q E) : t_widest K c E { nx := fun _ H' => Q .non H', rt := Q } (start ["at", "first", "last", "like", "some", "crease"] vs) H := by
  obtain ⟨a, p, f, l, like, rfl, hA, hlen, f0, ln, ⟨x, x1, x2, x3⟩, hT, q⟩ := h
  have hgi : ∀ i : Nat, i < (((List.range (l - f).toNat).filter fun (k : Nat) => decide ((f + (k : Int) - like) % 2 = 0)).map fun (k : Nat) => f + (k : Int)).length → True := fun _ _ => trivial
  have e0 : given (l - f).toNat (fun (k : Nat) => decide ((f + (k : Int) - like) % 2 = 0)) (fun (k : Nat) => V.int (f + (k : Int))) = (((List.range (l - f).toNat).filter fun (k : Nat) => decide ((f + (k : Int) - like) % 2 = 0)).map fun (k : Nat) => f + (k : Int)).map V.int := by
    unfold given
    rw [List.map_map]
    rfl
  have mem : ∀ y : Int, y ∈ (((List.range (l - f).toNat).filter fun (k : Nat) => decide ((f + (k : Int) - like) % 2 = 0)).map fun (k : Nat) => f + (k : Int)) ↔ f ≤ y ∧ y < l ∧ (y - like) % 2 = 0 := fun y => by
    rw [List.mem_map]
    constructor
    · rintro ⟨k, hk, rfl⟩
      obtain ⟨h1, h2⟩ := List.mem_filter.mp hk
      have := List.mem_range.mp h1
      have h2 := of_decide_eq_true h2
      omega
    · rintro ⟨h1, h2, h3⟩
      refine ⟨(y - f).toNat, List.mem_filter.mpr ⟨List.mem_range.mpr (by omega), decide_eq_true ?_⟩, by omega⟩
      have e : f + (((y - f).toNat : Nat) : Int) = y := by omega
      rw [e]
      exact h3
  refine Go.here (g_asgL (xs := given (l - f).toNat (fun (k : Nat) => decide ((f + (k : Int) - like) % 2 = 0)) (fun (k : Nat) => V.int (f + (k : Int)))) (lcw_range _ _ (by walk_at "ea") (by omega) (fun _ => rfl) (fun i H1 e1 hi => et_test (by walk_at "ev")) (fun i H1 e1 hi _ => ev_var rfl)) fun r H1 hr e1 hl => ?_)
  rw [e0] at hl
  generalize (((List.range (l - f).toNat).filter fun (k : Nat) => decide ((f + (k : Int) - like) % 2 = 0)).map fun (k : Nat) => f + (k : Int)) = ms at hl mem
  intro H2 e2
  refine ⟨.ref r, rfl, r, ms, rfl, e2 r _ hl, List.length_pos_of_mem ((mem x).mpr ⟨x1, x2, x3⟩), tb_ex hT (e1.trans e2), fun H3 eN T3 => ⟨wid p, fun y hy => ?_, fun m hm hmax => ?_⟩⟩
  · obtain ⟨y1, y2, y3⟩ := (mem y).mp hy
    have hA3 : SqL K H3 a (p.map V.int) := sq_lst (xn_lst eN ((e1.trans e2) a _ hA))
    exact ⟨.ref a, rfl, .int y, rfl, y, 1, rfl, rfl, a, _, _, _, rfl, rfl, hA3, gi_at (by omega) (by omega), .ref a, rfl, .int y, rfl, a, _, _, _, rfl, rfl, hA3, gi_at (by omega) (by omega), _, _, rfl, rfl, _, rfl, rfl, rfl⟩
  · obtain ⟨m1, m2, m3⟩ := (mem m).mp hm
    exact q m H3 ⟨m1, m2, m3, fun c c1 c2 c3 => hmax c ((mem c).mpr ⟨c1, c2, c3⟩)⟩ (fun b o hb hn => eN b o ((e1.trans e2) b o hb) hn) T3

/-- the facts of a call of widest -/
theorem wd_call {σ : L2.St} {H : Hp} {ta : TA} {E : XK} {a : Addr} {p : List Int} {f l like : Int} (h : EvA ta σ H [.ref a, .int f, .int l, .int like]) (hA : H a = some (.lst (p.map V.int))) (hlen : p.length ≤ 1000) (f0 : 0 ≤ f) (ln : l < (p.length : Int)) (hx : ∃ x : Int, f ≤ x ∧ x < l ∧ (x - like) % 2 = 0) (hT : Tabs (wT c) H) {Q : VK} (q : ∀ m H', Wd p f l like m → ExtN H H' → Tabs (wT c) H' → Q (.int m) H') : ∀ H1, Ex H H1 → tCall (sp_widest K c) [] E ta σ H1 Q := fun H1 e => h H1 e _ fun H2 e2 => by
  rw [List.append_nil]
  exact ⟨a, p, f, l, like, rfl, (e.trans e2) a _ hA, hlen, f0, ln, hx, tb_ex hT (e.trans e2), fun m H' w eN T' => q m H' w (fun b o hb hn => eN b o ((e.trans e2) b o hb) hn) T'⟩
theorem xn_trans {H H1 H2 : Hp} (a : ExtN H H1) (b : ExtN H1 H2) : ExtN H H2 := fun c o h n => b c o (a c o h n) n
theorem read_step_of (vs : List V) (H : Hp) (Q : VK) (E : XK) (h : sp_step_of K c vs H Q E) : t_step_of K c E { nx := fun _ H' => Q .non H', rt := Q } (start ["at", "first", "last", "one"] vs) H := by
  obtain ⟨a, p, f, l, rfl, hA, hlen, f0, fl, ln, hev, hT, q⟩ := h
  have one : ∀ (like : Int) (te : TE) (H0 : Hp) (D : Ends) (tz : TS), D.rt = Q → Ex H H0 → Ev te [some (.ref a), some (.int f), some (.int l), none] H0 (.int like) → (∃ x : Int, f ≤ x ∧ x < l ∧ (x - like) % 2 = 0) → (0 < f → (like - f) % 2 = 0) → (l < (p.length : Int) - 1 → (like - (l - 1)) % 2 = 0) → Go (tSeq (tRet (tTup (tCons (tCall (sp_widest K c) [] E (tCons (tVar 0) (tCons (tVar 1) (tCons (tVar 2) (tCons te tNil))))) tNil))) tz) D [some (.ref a), some (.int f), some (.int l), none] H0 := fun like te H0 D tz hD e0 hlike hx h1 h2 => by
    intro H1 e1
    refine wd_call (K := K) (c := c) (ea_cons (ev_var rfl) (ea_cons (ev_var rfl) (ea_cons (ev_var rfl) (ea_cons hlike ea_nil)))) (e0 a _ hA) hlen f0 ln hx (tb_ex hT e0) (fun m H' w eN T' => ?_) H1 e1
    refine ⟨sz_of (Nat.le_of_ble_eq_true rfl), fun t ht => ?_⟩
    rw [hD]
    exact q [m] t _ (.inr ⟨like, m, rfl, w, h1, h2⟩) (xn_trans (xn_ex e0) (xn_trans eN (xn_ex (Ex.new ht)))) (tb_ex T' (Ex.new ht)) upd_same
  refine Go.here (g_when (b := decide (0 < f) && decide (l < (p.length : Int) - 1)) (et_and (et_test (ev_gt (ev_var rfl) ev_c)) fun _ => et_test (ev_lt (ev_var rfl) (ev_sub (ev_lenI (ev_var rfl) (sq_lst hA)) ev_c))) (fun hb => ?_) (fun hb => ?_))
  · rw [Bool.and_eq_true, decide_eq_true_eq, decide_eq_true_eq] at hb
    obtain ⟨b1, b2⟩ := hb
    have hpar := hev b1 b2
    intro H1 e1
    refine wd_call (K := K) (c := c) (by walk_at "ea") hA hlen f0 ln ⟨f, Int.le_refl _, fl, by omega⟩ hT (fun m H2 w eN T2 => ?_) H1 e1
    have w1 := w.fm
    have w2 := w.ml
    have w3 := w.par
    show tSeq _ _ _ _ _
    refine ⟨.int m, rfl, ?_⟩
    refine wd_call (K := K) (c := c) (σ := [some (.ref a), some (.int f), some (.int l), some (.int m)]) (H := H2) (f := m + 1) (l := l) (like := m + 1) (ea_cons (ev_var rfl) (ea_cons (ev_add (ev_var rfl) ev_c) (ea_cons (ev_var rfl) (ea_cons (ev_add (ev_var rfl) ev_c) ea_nil)))) (xn_lst eN hA) hlen (by omega) ln ⟨m + 1, Int.le_refl _, by omega, by omega⟩ T2 (fun d H3 v eN3 T3 => ?_) H2 (Ex.refl H2)
    refine ⟨sz_of (Nat.le_of_ble_eq_true rfl), fun t ht => ?_⟩
    exact q [m, d] t _ (.inl ⟨b1, b2, m, d, rfl, w, v⟩) (xn_trans eN (xn_trans eN3 (xn_ex (Ex.new ht)))) (tb_ex T3 (Ex.new ht)) upd_same
  · refine g_when (b := decide (f = 0) && decide (l < (p.length : Int) - 1)) (et_and (et_test (ev_eqI (ev_var rfl) ev_c)) fun _ => et_test (ev_lt (ev_var rfl) (ev_sub (ev_lenI (ev_var rfl) (sq_lst hA)) ev_c))) (fun hb2 => ?_) (fun hb2 => ?_)
    · rw [Bool.and_eq_true, decide_eq_true_eq, decide_eq_true_eq] at hb2
      exact one (l - 1) _ H _ _ rfl (Ex.refl H) (ev_sub (ev_var rfl) ev_c) ⟨l - 1, by omega, by omega, by omega⟩ (fun z => by omega) (fun _ => by omega)
    · have n1 : ¬ (0 < f ∧ l < (p.length : Int) - 1) := fun z => by
        rw [decide_eq_true z.1, decide_eq_true z.2] at hb
        exact Bool.noConfusion hb
      have n2 : ¬ (f = 0 ∧ l < (p.length : Int) - 1) := fun z => by
        rw [decide_eq_true z.1, decide_eq_true z.2] at hb2
        exact Bool.noConfusion hb2
      exact one f _ H _ _ rfl (Ex.refl H) (ev_var rfl) ⟨f, Int.le_refl _, fl, by omega⟩ (fun z => by omega) (fun z => by omega)
end
end Fo
/-! FoldR16 -/
namespace Fo
open PySem L2 Evl
local macro_rules | `(tactic| walk_at "hl") => `(tactic| first
  | assumption
  | exact upd_same
  | (refine (by assumption : Ex _ _) _ _ ?_; walk_at "hl"))
local macro_rules | `(tactic| walk_at "sq") => `(tactic| first
  | assumption
  | (refine sq_lst ?_; walk_at "hl")
  | (refine ex_l (by assumption) ?_; walk_at "sq"))
local macro_rules | `(tactic| walk_at "st") => `(tactic| first
  | assumption
  | (refine st_of ?_; walk_at "hl")
  | (refine ex_t (by assumption) ?_; walk_at "st"))
local macro_rules | `(tactic| walk_at "sq2") => `(tactic| first
  | assumption
  | (refine Or.inl ?_; walk_at "sq")
  | (refine Or.inr ?_; walk_at "st")
  | (refine Sq2.mono (by assumption) ?_; walk_at "sq2"))
local macro_rules | `(tactic| walk_at "ar") => `(tactic| first
  | assumption
  | omega
  | decide)
local macro_rules | `(tactic| walk_at "lar") => `(tactic| first
  | omega
  | (simp only [List.length_append, List.length_map, List.length_take, List.length_drop, List.length_cons, List.length_nil, List.length_replicate]; omega))
local macro_rules | `(tactic| walk_at "hb") => `(tactic| first
  | skip)
local macro_rules | `(tactic| walk_at "mul") => `(tactic| first
  | (exact Or.inr ⟨by decide, by decide⟩)
  | (exact Or.inl ⟨by decide, by decide⟩)
  | (exact Or.inl ⟨by omega, by omega⟩)
  | (exact Or.inr ⟨by omega, by omega⟩))
local macro_rules | `(tactic| walk_at "div") => `(tactic| first
  | (exact ⟨by decide, by decide⟩)
  | (exact ⟨by omega, by omega⟩))
local macro_rules | `(tactic| walk_at "ea") => `(tactic| first
  | exact ea_nil
  | ((with_reducible refine' ea_cons ?k0 ?k1); (case k0 => walk_at "ev"); (case k1 => walk_at "ea")))
local macro_rules | `(tactic| walk_at "eo") => `(tactic| first
  | exact eo_none
  | ((with_reducible refine' eo_some ?k0); (case k0 => walk_at "ev")))
local macro_rules | `(tactic| walk_at "el") => `(tactic| first
  | ((with_reducible refine' el_lst ?k0 ?k1); (case k0 => walk_at "ea"); (case k1 => (exact Nat.le_of_ble_eq_true rfl)))
  | ((with_reducible refine' el_from ?k0 ?k1 ?k2 ?k3 ?k4); (case k0 => walk_at "ev"); (case k1 => walk_at "eo"); (case k2 => walk_at "sq"); (case k3 => walk_at "ar"); (case k4 => walk_at "lar"))
  | ((with_reducible refine' el_upto ?k0 ?k1 ?k2 ?k3 ?k4); (case k0 => walk_at "ev"); (case k1 => walk_at "eo"); (case k2 => walk_at "sq"); (case k3 => walk_at "ar"); (case k4 => walk_at "lar"))
  | ((with_reducible refine' el_rep1 ?k0 ?k1 ?k2 ?k3); (case k0 => walk_at "el"); (case k1 => walk_at "ev"); (case k2 => walk_at "ar"); (case k3 => walk_at "ar"))
  | ((with_reducible refine' el_cat ?k0 ?k1 ?k2); (case k0 => walk_at "el"); (case k1 => walk_at "el"); (case k2 => walk_at "lar"))
  | ((with_reducible refine' el_callD ?k0 ?k1); (case k0 => walk_at "ea"); (case k1 => walk_at "sp"))
  | ((with_reducible refine' el_list ?k0 ?k1); (case k0 => walk_at "ev"); (case k1 => walk_at "sq"))
  | ((with_reducible refine' el_srt ?k0 ?k1); (case k0 => walk_at "ev"); (case k1 => walk_at "sq"))
  | ((with_reducible refine' el_sortedQ ?k0 ?k1); (case k0 => walk_at "ev"); (case k1 => walk_at "sq2"))
  | ((with_reducible refine' el_rev ?k0 ?k1); (case k0 => walk_at "ev"); (case k1 => walk_at "sq"))
  | ((with_reducible refine' el_step ?k0 ?k1 ?k2); (case k0 => walk_at "ev"); (case k1 => walk_at "eo"); (case k2 => walk_at "sq")))
local macro_rules | `(tactic| walk_at "et") => `(tactic| first
  | ((with_reducible refine' et_test ?k0); (case k0 => walk_at "ev"))
  | ((with_reducible refine' et_B ?k0); (case k0 => walk_at "ev"))
  | ((with_reducible refine' et_not ?k0); (case k0 => walk_at "et"))
  | ((with_reducible refine' et_and ?k0 (fun hb => ?k1)); (case k0 => walk_at "et"); (case k1 => (walk_at "hb"; walk_at "et")))
  | ((with_reducible refine' et_or ?k0 (fun hb => ?k1)); (case k0 => walk_at "et"); (case k1 => (walk_at "hb"; walk_at "et"))))
local macro_rules | `(tactic| walk_at "ev") => `(tactic| first
  | ((with_reducible refine' ev_var ?k0); (case k0 => rfl))
  | exact ev_c
  | ((with_reducible refine' ev_add ?k0 ?k1); (case k0 => walk_at "ev"); (case k1 => walk_at "ev"))
  | ((with_reducible refine' ev_sub ?k0 ?k1); (case k0 => walk_at "ev"); (case k1 => walk_at "ev"))
  | ((with_reducible refine' ev_ixI ?k0 ?k1 ?k2 ?k3 ?k4); (case k0 => walk_at "ev"); (case k1 => walk_at "ev"); (case k2 => walk_at "sq"); (case k3 => walk_at "ar"); (case k4 => walk_at "ar"))
  | ((with_reducible refine' ev_ixT ?k0 ?k1 ?k2 ?k3); (case k0 => walk_at "ev"); (case k1 => walk_at "ev"); (case k2 => walk_at "st"); (case k3 => rfl))
  | ((with_reducible refine' ev_lt ?k0 ?k1); (case k0 => walk_at "ev"); (case k1 => walk_at "ev"))
  | ((with_reducible refine' ev_gt ?k0 ?k1); (case k0 => walk_at "ev"); (case k1 => walk_at "ev"))
  | ((with_reducible refine' ev_le ?k0 ?k1); (case k0 => walk_at "ev"); (case k1 => walk_at "ev"))
  | ((with_reducible refine' ev_ge ?k0 ?k1); (case k0 => walk_at "ev"); (case k1 => walk_at "ev"))
  | ((with_reducible refine' ev_eqI ?k0 ?k1); (case k0 => walk_at "ev"); (case k1 => walk_at "ev"))
  | ((with_reducible refine' ev_neI ?k0 ?k1); (case k0 => walk_at "ev"); (case k1 => walk_at "ev"))
  | ((with_reducible refine' ev_eqB ?k0 ?k1); (case k0 => walk_at "ev"); (case k1 => walk_at "ev"))
  | ((with_reducible refine' ev_neB ?k0 ?k1); (case k0 => walk_at "ev"); (case k1 => walk_at "ev"))
  | ((with_reducible refine' ev_eqS ?k0 ?k1); (case k0 => walk_at "ev"); (case k1 => walk_at "ev"))
  | ((with_reducible refine' ev_neS ?k0 ?k1); (case k0 => walk_at "ev"); (case k1 => walk_at "ev"))
  | ((with_reducible refine' ev_mod ?k0 ?k1 ?k2); (case k0 => walk_at "ev"); (case k1 => walk_at "ev"); (case k2 => walk_at "ar"))
  | ((with_reducible refine' ev_mul ?k0 ?k1 ?k2); (case k0 => walk_at "ev"); (case k1 => walk_at "ev"); (case k2 => walk_at "mul"))
  | ((with_reducible refine' ev_div ?k0 ?k1 ?k2); (case k0 => walk_at "ev"); (case k1 => walk_at "ev"); (case k2 => walk_at "div"))
  | ((with_reducible refine' ev_neg ?k0); (case k0 => walk_at "ev"))
  | ((with_reducible refine' ev_callD ?k0 ?k1); (case k0 => walk_at "ea"); (case k1 => walk_at "sp"))
  | ((with_reducible refine' ev_lenI ?k0 ?k1); (case k0 => walk_at "ev"); (case k1 => walk_at "sq"))
  | ((with_reducible refine' ev_lenQ ?k0 ?k1); (case k0 => walk_at "ev"); (case k1 => walk_at "sq2"))
  | ((with_reducible refine' ev_lenSet ?k0 ?k1 ?k2); (case k0 => walk_at "ev"); (case k1 => walk_at "sq2"); (case k2 => walk_at "ar"))
  | ((with_reducible refine' ev_inI ?k0 ?k1 ?k2); (case k0 => walk_at "ev"); (case k1 => walk_at "ev"); (case k2 => walk_at "sq2"))
  | ((with_reducible refine' ev_notInI ?k0 ?k1 ?k2); (case k0 => walk_at "ev"); (case k1 => walk_at "ev"); (case k2 => walk_at "sq2"))
  | ((with_reducible refine' ev_lenTxt ?k0 ?k1); (case k0 => walk_at "ev"); (case k1 => walk_at "ar"))
  | ((with_reducible refine' ev_lenS ?k0 ?k1); (case k0 => walk_at "ev"); (case k1 => walk_at "ar"))
  | ((with_reducible refine' ev_ixTxt ?k0 ?k1 ?k2 ?k3 ?k4); (case k0 => walk_at "ev"); (case k1 => walk_at "ev"); (case k2 => walk_at "ar"); (case k3 => walk_at "ar"); (case k4 => walk_at "ar"))
  | ((with_reducible refine' ev_ix2 ?k0); (case k0 => walk_at "ev"))
  | ((with_reducible refine' ev_isiI ?k0); (case k0 => walk_at "ev"))
  | ((with_reducible refine' ev_isiL ?k0 ?k1); (case k0 => walk_at "ev"); (case k1 => walk_at "hl"))
  | ((with_reducible refine' ev_isiU ?k0 ?k1); (case k0 => walk_at "ev"); (case k1 => walk_at "hl"))
  | ((with_reducible refine' ev_isiS ?k0); (case k0 => walk_at "ev"))
  | ((with_reducible refine' ev_isiB ?k0); (case k0 => walk_at "ev"))
  | ((with_reducible refine' ev_isN ?k0); (case k0 => walk_at "ev"))
  | ((with_reducible refine' ev_notN ?k0); (case k0 => walk_at "ev"))
  | ((with_reducible refine' ev_notIB ?k0 ?k1); (case k0 => walk_at "ev"); (case k1 => walk_at "ev"))
  | ((with_reducible refine' ev_neNil ?k0 ?k1); (case k0 => walk_at "ev"); (case k1 => walk_at "sq"))
  | ((with_reducible refine' ev_eqNil ?k0 ?k1); (case k0 => walk_at "ev"); (case k1 => walk_at "sq"))
  | ((with_reducible refine' ev_eqL ?k0 ?k1 ?k2 ?k3); (case k0 => walk_at "ev"); (case k1 => walk_at "ev"); (case k2 => walk_at "sq"); (case k3 => walk_at "sq"))
  | ((with_reducible refine' ev_neL ?k0 ?k1 ?k2 ?k3); (case k0 => walk_at "ev"); (case k1 => walk_at "ev"); (case k2 => walk_at "sq"); (case k3 => walk_at "sq"))
  | ((with_reducible refine' ev_min2 ?k0 ?k1); (case k0 => walk_at "ev"); (case k1 => walk_at "ev"))
  | ((with_reducible refine' ev_max2 ?k0 ?k1); (case k0 => walk_at "ev"); (case k1 => walk_at "ev"))
  | ((with_reducible refine' ev_intB ?k0); (case k0 => walk_at "ev"))
  | ((with_reducible refine' ev_andV ?k0 (fun hb => ?k1)); (case k0 => walk_at "ev"); (case k1 => (walk_at "hb"; walk_at "ev")))
  | ((with_reducible refine' ev_orV ?k0 (fun hb => ?k1)); (case k0 => walk_at "ev"); (case k1 => (walk_at "hb"; walk_at "ev")))
  | ((with_reducible refine' ev_notV ?k0); (case k0 => walk_at "ev"))
  | ((with_reducible refine' ev_ifI ?k0 (fun hb => ?k1) (fun hb => ?k2)); (case k0 => walk_at "et"); (case k1 => (walk_at "hb"; walk_at "ev")); (case k2 => (walk_at "hb"; walk_at "ev")))
  | ((with_reducible refine' ev_ifS ?k0 (fun hb => ?k1) (fun hb => ?k2)); (case k0 => walk_at "et"); (case k1 => (walk_at "hb"; walk_at "ev")); (case k2 => (walk_at "hb"; walk_at "ev"))))
local macro_rules | `(tactic| walk_at "hb") => `(tactic| (try simp only [decide_eq_true_eq, decide_eq_false_iff_not, Bool.and_eq_true, Bool.or_eq_true, Bool.or_eq_false_iff, Bool.not_eq_true', Bool.not_eq_false', beq_iff_eq] at *))
local macro_rules | `(tactic| walk_at "sp") => `(tactic| first
  | (refine' v_number ?k0 ?k1 ?k2; (case k0 => walk_at "sq"); (case k1 => walk_at "ar"); (case k2 => walk_at "ar"))
  | (refine' v_drawn ?k0 ?k1; (case k0 => walk_at "sq"); (case k1 => walk_at "ar"))
  | exact v_size
  | exact v_counts
  | (refine' v_wraps ?k0 ?k1 ?k2 ?k3 ?k4; (case k0 => walk_at "sq"); (case k1 => walk_at "ar"); (case k2 => walk_at "ar"); (case k3 => walk_at "ar"); (case k4 => walk_at "ar"))
  | (refine' v_l_wraps ?k0 ?k1 ?k2 ?k3 ?k4; (case k0 => walk_at "sq"); (case k1 => walk_at "ar"); (case k2 => walk_at "ar"); (case k3 => walk_at "ar"); (case k4 => walk_at "ar"))
  | (refine' v_cross ?k0 ?k1 ?k2 ?k3 ?k4; (case k0 => walk_at "sq"); (case k1 => walk_at "ar"); (case k2 => walk_at "ar"); (case k3 => walk_at "ar"); (case k4 => walk_at "ar"))
  | (refine' v_places ?k0 ?k1 ?k2; (case k0 => walk_at "sq"); (case k1 => walk_at "ar"); (case k2 => assumption))
  | (refine' v_letters ?k0 ?k1 ?k2; (case k0 => walk_at "sq"); (case k1 => walk_at "ar"); (case k2 => assumption))
  | (refine' v_l_places ?k0 ?k1 ?k2; (case k0 => walk_at "sq"); (case k1 => walk_at "ar"); (case k2 => assumption))
  | (refine' v_fits ?k0 ?k1 ?k2 ?k3; (case k0 => walk_at "sq"); (case k1 => walk_at "ar"); (case k2 => walk_at "ar"); (case k3 => walk_at "ar"))
  | (refine' v_none ?k0 ?k1 ?k2; (case k0 => walk_at "sq"); (case k1 => walk_at "ar"); (case k2 => walk_at "ar")))
local macro_rules | `(tactic| walk_at "sp") => `(tactic| first
  | (refine' v_turned ?k0 ?k1 ?k2; (case k0 => walk_at "sq"); (case k1 => walk_at "ar"); (case k2 => assumption))
  | (refine' v_same ?k0 ?k1 ?k2; (case k0 => walk_at "hl"); (case k1 => walk_at "sq"); (case k2 => walk_at "ar"))
  | (refine' v_told ?k0 ?k1 ?k2; (case k0 => walk_at "sq"); (case k1 => walk_at "hl"); (case k2 => assumption))
  | (refine' v_parted ?k0 ?k1 ?k2 ?k3; (case k0 => walk_at "sq"); (case k1 => walk_at "ar"); (case k2 => walk_at "ar"); (case k3 => assumption)))
local macro_rules | `(tactic| walk_at "sp") => `(tactic| first
  | (refine' v_is_pile ?k0 ?k1 ?k2 ?k3; (case k0 => walk_at "hl"); (case k1 => assumption); (case k2 => walk_at "ar"); (case k3 => walk_at "ar")))
local macro_rules | `(tactic| walk_at "sp") => `(tactic| first
  | (refine' v_held ?k0 ?k1 ?k2 ?k3 ?k4 ?k5; (case k0 => walk_at "sq"); (case k1 => walk_at "st"); (case k2 => walk_at "ar"); (case k3 => (refine ⟨?_, ?_⟩ <;> walk_at "ar")); (case k4 => (refine ⟨?_, ?_⟩ <;> walk_at "ar")); (case k5 => (refine ⟨?_, ?_⟩ <;> walk_at "ar")))
  | (refine' v_l_held ?k0 ?k1 ?k2 ?k3 ?k4; (case k0 => walk_at "sq"); (case k1 => walk_at "ar"); (case k2 => (refine ⟨?_, ?_⟩ <;> walk_at "ar")); (case k3 => (refine ⟨?_, ?_⟩ <;> walk_at "ar")); (case k4 => (refine ⟨?_, ?_⟩ <;> walk_at "ar")))
  | (refine' v_lies ?k0 ?k1 ?k2 ?k3 ?k4; (case k0 => walk_at "sq"); (case k1 => walk_at "st"); (case k2 => walk_at "ar"); (case k3 => (refine ⟨?_, ?_⟩ <;> walk_at "ar")); (case k4 => (refine ⟨?_, ?_⟩ <;> walk_at "ar")))
  | (refine' v_judged ?k0 ?k1 ?k2 ?k3; (case k0 => walk_at "sq"); (case k1 => walk_at "ar"); (case k2 => assumption); (case k3 => assumption))
  | (refine' v_l_free ?k0 ?k1 ?k2 ?k3 ?k4 ?k5; (case k0 => walk_at "sq"); (case k1 => walk_at "sq"); (case k2 => walk_at "ar"); (case k3 => walk_at "ar"); (case k4 => walk_at "ar"); (case k5 => assumption))
  | (refine' v_are_free ?k0 ?k1 ?k2 ?k3 ?k4 ?k5; (case k0 => walk_at "sq"); (case k1 => walk_at "sq2"); (case k2 => walk_at "ar"); (case k3 => walk_at "ar"); (case k4 => walk_at "ar"); (case k5 => assumption)))
open LamX
section
variable {K : PySem.W.Frag} {c : Cs}
theorem tups_mut {H : Hp} {rs : List Addr} {S : List (Int × Int)} {r : Addr} {zs : List V} {o : HO} (h : Tups H rs S) (hr : H r = some (.lst zs)) : Tups (upd H r o) rs S := ⟨h.1, fun i t q h1 h2 => by
  have ht := h.2 i t q h1 h2
  exact (upd_ne fun z => by rw [z, hr] at ht; cases ht).trans ht⟩
theorem steps_mut {H : Hp} {ts : List Addr} {ss : List (List Int)} {r : Addr} {zs : List V} {o : HO} (h : StepT H ts ss) (hr : H r = some (.lst zs)) : StepT (upd H r o) ts ss := ⟨h.1, fun i t q h1 h2 => by
  have ht := h.2 i t q h1 h2
  exact (upd_ne fun z => by rw [z, hr] at ht; cases ht).trans ht⟩
theorem tups_ext {H H' : Hp} {rs : List Addr} {S : List (Int × Int)} (e : ExtN H H') (h : Tups H rs S) : Tups H' rs S := ⟨h.1, fun i t q h1 h2 => xn_tup e (h.2 i t q h1 h2)⟩
theorem tups_snoc {H : Hp} {rs : List Addr} {S : List (Int × Int)} {t : Addr} {f l : Int} (h : Tups H rs S) (ht : H t = some (.tup [.int f, .int l])) : Tups H (rs ++ [t]) (S ++ [(f, l)]) := by
  refine ⟨by rw [List.length_append, List.length_append, h.1]; rfl, fun i u q h1 h2 => ?_⟩
  have hl := h.1
  by_cases hi : i < rs.length
  · rw [List.getElem?_append_left hi] at h1
    rw [List.getElem?_append_left (by omega)] at h2
    exact h.2 i u q h1 h2
  · rw [List.getElem?_append_right (by omega)] at h1
    rw [List.getElem?_append_right (by omega), ← hl] at h2
    have h0 : i - rs.length = 0 := by
      have := (List.getElem?_eq_some_iff.mp h1).1
      simp at this
      omega
    rw [h0] at h1 h2
    cases h1
    cases h2
    exact ht
theorem steps_snoc {H : Hp} {ts : List Addr} {ss : List (List Int)} {t : Addr} {s : List Int} (h : StepT H ts ss) (ht : H t = some (.tup (s.map V.int))) : StepT H (ts ++ [t]) (ss ++ [s]) := by
  refine ⟨by rw [List.length_append, List.length_append, h.1]; rfl, fun i u q h1 h2 => ?_⟩
  have hl := h.1
  by_cases hi : i < ts.length
  · rw [List.getElem?_append_left hi] at h1
    rw [List.getElem?_append_left (by omega)] at h2
    exact h.2 i u q h1 h2
  · rw [List.getElem?_append_right (by omega)] at h1
    rw [List.getElem?_append_right (by omega), ← hl] at h2
    have h0 : i - ts.length = 0 := by
      have := (List.getElem?_eq_some_iff.mp h1).1
      simp at this
      omega
    rw [h0] at h1 h2
    cases h1
    cases h2
    exact ht
theorem tups_split {H : Hp} {rs : List Addr} {S : List (Int × Int)} (h : Tups H rs S) (hn : S ≠ []) : ∃ rs0 t S0 f l, rs = rs0 ++ [t] ∧ S = S0 ++ [(f, l)] ∧ Tups H rs0 S0 ∧ H t = some (.tup [.int f, .int l]) := by
  have hl := h.1
  have hr : rs ≠ [] := fun e => by
    rw [e] at hl
    exact hn (List.length_eq_zero_iff.mp hl.symm)
  have e1 := List.dropLast_concat_getLast hr
  have e2 := List.dropLast_concat_getLast hn
  have hpos := List.length_pos_iff.mpr hr
  refine ⟨rs.dropLast, rs.getLast hr, S.dropLast, (S.getLast hn).1, (S.getLast hn).2, e1.symm, e2.symm, ⟨by rw [List.length_dropLast, List.length_dropLast, hl], fun i t q h1 h2 => ?_⟩, ?_⟩
  · rw [List.getElem?_dropLast] at h1 h2
    split at h1
    · split at h2
      · exact h.2 i t q h1 h2
      · cases h2
    · cases h1
  · refine h.2 (rs.length - 1) _ _ ?_ ?_
    · rw [List.getLast_eq_getElem, List.getElem?_eq_getElem (by omega)]
    · rw [hl, List.getLast_eq_getElem, List.getElem?_eq_getElem (by omega)]
/-! ### parts != [] -/
theorem dp_tups {H : Hp} : ∀ (rs : List Addr) (S : List (Int × Int)), Tups H rs S → DpAll K H (rs.map V.ref) (S.map fun q => PyData.tuple ([q.1, q.2].map PyData.int))
  | [], S, h => by
    have e : S = [] := List.length_eq_zero_iff.mp h.1.symm
    subst e
    exact .nil
  | t :: rs, [], h => absurd h.1 (by simp)
  | t :: rs, q :: S, h => .cons (.tup (st_of (h.2 0 t q rfl rfl)) (dp_ints [q.1, q.2])) (dp_tups rs S ⟨by have := h.1; simpa using this, fun i u x h1 h2 => h.2 (i + 1) u x (by simpa using h1) (by simpa using h2)⟩)
theorem sh_tups : ∀ S : List (Int × Int), PyData.canLayAll0 (S.map fun q => PyData.tuple ([q.1, q.2].map PyData.int)) = true ∧ PyData.depthAll (S.map fun q => PyData.tuple ([q.1, q.2].map PyData.int)) ≤ 1
  | [] => by simp [PyData.canLayAll0, PyData.depthAll]
  | q :: r => by
    have ih := sh_tups r
    have h1 : ∀ ns : List Int, PyData.canLayAll0 (ns.map PyData.int) = true := PySem.W.ke_canLayAll0
    have h2 : ∀ ns : List Int, PyData.depthAll (ns.map PyData.int) = 0 := PySem.W.ke_depthAll
    constructor
    · have a := h1 [q.1, q.2]
      simp only [List.map_cons, PyData.canLayAll0, PyData.canLay0, Bool.and_eq_true] at *
      exact ⟨a, ih.1⟩
    · have a := h2 [q.1, q.2]
      have h3 := ih.2
      simp only [List.map_cons, PyData.depthAll, PyData.depth] at *
      omega
theorem shaped_tups (S : List (Int × Int)) : SeqAt.shaped (.list (S.map fun q => PyData.tuple ([q.1, q.2].map PyData.int))) = true := by
  obtain ⟨h1, h2⟩ := sh_tups S
  unfold SeqAt.shaped
  rw [Bool.and_eq_true]
  refine ⟨by simp only [PyData.canLay0]; exact h1, decide_eq_true ?_⟩
  simp only [PyData.depth]
  omega
theorem ev_neNilT {te : TE} {σ : L2.St} {H : Hp} {p : Addr} {rs : List Addr} {S : List (Int × Int)} (ha : Ev te σ H (.ref p)) (h2 : SqL K H p (rs.map V.ref)) (h3 : Tups H rs S) : Ev (tOp (rNeD K) te (tLst tNil)) σ H (.bl (!decide (S = []))) :=
  ev_opL (xs := ([] : List Int).map V.int) ha (el_lst ea_nil (Nat.zero_le _)) fun q H1 hq e => fun H2 e2 _ k =>
    ⟨_, .list (([] : List Int).map PyData.int), .lst (ex_l (e.trans e2) h2) (dp_tups rs S (h3.mono (e.trans e2))), .lst (ex_l e2 (sq_of hq)) (dp_ints []), shaped_tups S, PySem.W.ke_shaped_ints [], by
      have e9 : PyData.eqv (.list (S.map fun q => PyData.tuple ([q.1, q.2].map PyData.int))) (.list (([] : List Int).map PyData.int)) = decide (S = []) := by
        cases S with
        | nil => rfl
        | cons a b => rfl
      rw [e9]
      exact k H2 (Ex.refl H2)⟩
/-- a, b = l.pop() -/
theorem g_popT {te : TE} {σ : L2.St} {H : Hp} {D : Ends} {tz : TS} {r t : Addr} {rs0 : List Addr} {x y : V} {j k : Nat} (ha : Ev te σ H (.ref r)) (hr : H r = some (.lst ((rs0 ++ [t]).map V.ref))) (ht : H t = some (.tup [x, y])) (kk : ∀ H1, Ex H H1 → tz D ((σ.set j (some x)).set k (some y)) (upd H1 r (.lst (rs0.map V.ref)))) :
    Go (tSeq (tAsg (tBM0 K "list" rPop te) (gTup K 2 (gCons (gName j) (gCons (gName k) gNil)))) tz) D σ H := fun H1 e => ha H1 e _ fun H2 e2 => by
  have hr2 := (e.trans e2) r _ hr
  have ht2 := (e.trans e2) t _ ht
  have htr : t ≠ r := fun z => by
    rw [z, hr2] at ht2
    cases ht2
  refine ⟨Or.inl ⟨rfl, _, sq_of hr2⟩, r, _, .ref t, rfl, rfl, hr2, ?_, ?_⟩
  · rw [List.map_append, List.length_append]
    simp
  · have e9 : ((rs0 ++ [t]).map V.ref).dropLast = rs0.map V.ref := by
      rw [List.map_append]
      exact List.dropLast_concat
    rw [e9]
    exact ⟨t, [x, y], rfl, st_of ((upd_ne htr).trans ht2), rfl, x, [y], rfl, y, [], rfl, rfl, kk H2 (e.trans e2)⟩
/-- for x in a tuple of ints that stands -/
theorem g_forU {tl : TE} {σ : L2.St} {H : Hp} {D : Ends} {tu tz : TS} {j : Nat} {a : Addr} {ns : List Int} (h : Ev tl σ H (.ref a)) (hx : H a = some (.tup (ns.map V.int))) (Pv : Nat → L2.St → Hp → Prop) (h0 : ∀ H1, Ex H H1 → Pv 0 σ H1) (hE : ∀ i σ' H', Pv i σ' H' → H' a = some (.tup (ns.map V.int)))
    (hs : ∀ (i : Nat) x σ' H', ns[i]? = some x → Pv i σ' H' → Go tu { D with nx := Pv (i + 1), ct := Pv (i + 1), bk := tz D } (σ'.set j (some (.int x))) H') (hd : ∀ σ' H', Pv ns.length σ' H' → Go tz D σ' H') : Go (tSeq (tFor (iTup K tl) (gName j) tu) tz) D σ H := fun H0 e0 =>
  h H0 e0 _ fun H1 e => ⟨a, rfl, ⟨_, st_of ((e0.trans e) a _ hx)⟩, for_tup Pv (h0 H1 (e0.trans e)) (fun i σ' H' _ pv => st_of (hE i σ' H' pv)) (fun i x σ' H' hi p => by
    rw [List.getElem?_map] at hi
    cases hn : ns[i]? with
    | none => rw [hn] at hi; cases hi
    | some z =>
      rw [hn] at hi
      cases hi
      exact (hs i z σ' H' hn p).here) (fun σ' H' p => (hd σ' H' (by rw [List.length_map] at p; exact p)).here)⟩
/-! ### a part cut at its creases -/
def cutP : Int → List Int → List (Int × Int)
  | _, [] => []
  | f, x :: r => (f, x) :: cutP (x + 1) r
def lastF : Int → List Int → Int
  | f, [] => f
  | _, x :: r => lastF (x + 1) r
theorem cutP_snoc : ∀ (f : Int) (xs : List Int) (y : Int), cutP f (xs ++ [y]) = cutP f xs ++ [(lastF f xs, y)] ∧ lastF f (xs ++ [y]) = y + 1
  | f, [], y => ⟨rfl, rfl⟩
  | f, x :: r, y => by
    obtain ⟨h1, h2⟩ := cutP_snoc (x + 1) r y
    exact ⟨by show (f, x) :: cutP (x + 1) (r ++ [y]) = _; rw [h1]; rfl, h2⟩
theorem even_part {p D : List Int} {f l : Int} (hp : 1 ≤ p.length) (h : Creases (p.length : Int) D) (hf : freeAt p D = true) (q : PartOf (p.length : Int) D f l) (h1 : 0 < f) (h2 : l < (p.length : Int) - 1) : (l - f) % 2 = 0 := by
  have := (lie_iff.mp ((free_iff hp h).mp hf f l q)).1 h1 h2
  omega
theorem step_next {ps D : List Int} {S0 : List (Int × Int)} {f l : Int} {s : List Int} (pp : IsPile ps) (nx : NoX (pl ps)) (o : Opn (ps.length : Int) D (S0 ++ [(f, l)])) (hf : freeAt (pl ps) D = true) (h : StepOf (pl ps) f l s) :
    Opn (ps.length : Int) (D ++ s) (S0 ++ cutP f s ++ [(lastF f s, l)]) ∧ freeAt (pl ps) (D ++ s) = true ∧ ((∃ x, s = [x]) ∨ ∃ x y : Int, s = [x, y] ∧ x < y) := by
  have hpl := pl_len ps
  have hps := pp.pos
  have q := o.inS (f, l) (List.mem_append_right _ List.mem_cons_self)
  have q0 := q.f0
  have qn := q.ln
  have cr := o.cr
  rw [← hpl] at q cr
  have lie := (free_iff (by omega) cr).mp hf _ _ q
  rcases h with ⟨f0, ln, x, y, rfl, w, v⟩ | ⟨like, x, rfl, w, p1, p2⟩
  · rw [hpl] at ln
    obtain ⟨a, b, g⟩ := split_two pp nx f0 ln lie w v
    have w1 := w.fm
    have v1 := v.fm
    have v2 := v.ml
    refine ⟨?_, free_two (by omega) cr hf q w1 (by omega) v2 a b g, .inr ⟨x, y, rfl, by omega⟩⟩
    have := o.two w1 (show x < y by omega) v2
    simpa [cutP, lastF] using this
  · rw [hpl] at p2
    obtain ⟨a, b⟩ := split_one pp nx q0 (show l ≤ (ps.length : Int) - 1 from qn) lie w p1 p2
    have w1 := w.fm
    have w2 := w.ml
    refine ⟨?_, free_one (by omega) cr hf q w1 w2 a b, .inl ⟨x, rfl⟩⟩
    have := o.one w1 w2
    simpa [cutP, lastF] using this
end
end Fo
/-! FoldR17 -/
namespace Fo
open PySem L2 Evl
local macro_rules | `(tactic| walk_at "hl") => `(tactic| first
  | assumption
  | exact upd_same
  | (refine (by assumption : Ex _ _) _ _ ?_; walk_at "hl"))
local macro_rules | `(tactic| walk_at "sq") => `(tactic| first
  | assumption
  | (refine sq_lst ?_; walk_at "hl")
  | (refine ex_l (by assumption) ?_; walk_at "sq"))
local macro_rules | `(tactic| walk_at "st") => `(tactic| first
  | assumption
  | (refine st_of ?_; walk_at "hl")
  | (refine ex_t (by assumption) ?_; walk_at "st"))
local macro_rules | `(tactic| walk_at "sq2") => `(tactic| first
  | assumption
  | (refine Or.inl ?_; walk_at "sq")
  | (refine Or.inr ?_; walk_at "st")
  | (refine Sq2.mono (by assumption) ?_; walk_at "sq2"))
local macro_rules | `(tactic| walk_at "ar") => `(tactic| first
  | assumption
  | omega
  | decide)
local macro_rules | `(tactic| walk_at "lar") => `(tactic| first
  | omega
  | (simp only [List.length_append, List.length_map, List.length_take, List.length_drop, List.length_cons, List.length_nil, List.length_replicate]; omega))
local macro_rules | `(tactic| walk_at "hb") => `(tactic| first
  | skip)
local macro_rules | `(tactic| walk_at "mul") => `(tactic| first
  | (exact Or.inr ⟨by decide, by decide⟩)
  | (exact Or.inl ⟨by decide, by decide⟩)
  | (exact Or.inl ⟨by omega, by omega⟩)
  | (exact Or.inr ⟨by omega, by omega⟩))
local macro_rules | `(tactic| walk_at "div") => `(tactic| first
  | (exact ⟨by decide, by decide⟩)
  | (exact ⟨by omega, by omega⟩))
local macro_rules | `(tactic| walk_at "ea") => `(tactic| first
  | exact ea_nil
  | ((with_reducible refine' ea_cons ?k0 ?k1); (case k0 => walk_at "ev"); (case k1 => walk_at "ea")))
local macro_rules | `(tactic| walk_at "eo") => `(tactic| first
  | exact eo_none
  | ((with_reducible refine' eo_some ?k0); (case k0 => walk_at "ev")))
local macro_rules | `(tactic| walk_at "el") => `(tactic| first
  | ((with_reducible refine' el_lst ?k0 ?k1); (case k0 => walk_at "ea"); (case k1 => (exact Nat.le_of_ble_eq_true rfl)))
  | ((with_reducible refine' el_from ?k0 ?k1 ?k2 ?k3 ?k4); (case k0 => walk_at "ev"); (case k1 => walk_at "eo"); (case k2 => walk_at "sq"); (case k3 => walk_at "ar"); (case k4 => walk_at "lar"))
  | ((with_reducible refine' el_upto ?k0 ?k1 ?k2 ?k3 ?k4); (case k0 => walk_at "ev"); (case k1 => walk_at "eo"); (case k2 => walk_at "sq"); (case k3 => walk_at "ar"); (case k4 => walk_at "lar"))
  | ((with_reducible refine' el_rep1 ?k0 ?k1 ?k2 ?k3); (case k0 => walk_at "el"); (case k1 => walk_at "ev"); (case k2 => walk_at "ar"); (case k3 => walk_at "ar"))
  | ((with_reducible refine' el_cat ?k0 ?k1 ?k2); (case k0 => walk_at "el"); (case k1 => walk_at "el"); (case k2 => walk_at "lar"))
  | ((with_reducible refine' el_callD ?k0 ?k1); (case k0 => walk_at "ea"); (case k1 => walk_at "sp"))
  | ((with_reducible refine' el_list ?k0 ?k1); (case k0 => walk_at "ev"); (case k1 => walk_at "sq"))
  | ((with_reducible refine' el_srt ?k0 ?k1); (case k0 => walk_at "ev"); (case k1 => walk_at "sq"))
  | ((with_reducible refine' el_sortedQ ?k0 ?k1); (case k0 => walk_at "ev"); (case k1 => walk_at "sq2"))
  | ((with_reducible refine' el_rev ?k0 ?k1); (case k0 => walk_at "ev"); (case k1 => walk_at "sq"))
  | ((with_reducible refine' el_step ?k0 ?k1 ?k2); (case k0 => walk_at "ev"); (case k1 => walk_at "eo"); (case k2 => walk_at "sq")))
local macro_rules | `(tactic| walk_at "et") => `(tactic| first
  | ((with_reducible refine' et_test ?k0); (case k0 => walk_at "ev"))
  | ((with_reducible refine' et_B ?k0); (case k0 => walk_at "ev"))
  | ((with_reducible refine' et_not ?k0); (case k0 => walk_at "et"))
  | ((with_reducible refine' et_and ?k0 (fun hb => ?k1)); (case k0 => walk_at "et"); (case k1 => (walk_at "hb"; walk_at "et")))
  | ((with_reducible refine' et_or ?k0 (fun hb => ?k1)); (case k0 => walk_at "et"); (case k1 => (walk_at "hb"; walk_at "et"))))
local macro_rules | `(tactic| walk_at "ev") => `(tactic| first
  | ((with_reducible refine' ev_var ?k0); (case k0 => rfl))
  | exact ev_c
  | ((with_reducible refine' ev_add ?k0 ?k1); (case k0 => walk_at "ev"); (case k1 => walk_at "ev"))
  | ((with_reducible refine' ev_sub ?k0 ?k1); (case k0 => walk_at "ev"); (case k1 => walk_at "ev"))
  | ((with_reducible refine' ev_ixI ?k0 ?k1 ?k2 ?k3 ?k4); (case k0 => walk_at "ev"); (case k1 => walk_at "ev"); (case k2 => walk_at "sq"); (case k3 => walk_at "ar"); (case k4 => walk_at "ar"))
  | ((with_reducible refine' ev_ixT ?k0 ?k1 ?k2 ?k3); (case k0 => walk_at "ev"); (case k1 => walk_at "ev"); (case k2 => walk_at "st"); (case k3 => rfl))
  | ((with_reducible refine' ev_lt ?k0 ?k1); (case k0 => walk_at "ev"); (case k1 => walk_at "ev"))
  | ((with_reducible refine' ev_gt ?k0 ?k1); (case k0 => walk_at "ev"); (case k1 => walk_at "ev"))
  | ((with_reducible refine' ev_le ?k0 ?k1); (case k0 => walk_at "ev"); (case k1 => walk_at "ev"))
  | ((with_reducible refine' ev_ge ?k0 ?k1); (case k0 => walk_at "ev"); (case k1 => walk_at "ev"))
  | ((with_reducible refine' ev_eqI ?k0 ?k1); (case k0 => walk_at "ev"); (case k1 => walk_at "ev"))
  | ((with_reducible refine' ev_neI ?k0 ?k1); (case k0 => walk_at "ev"); (case k1 => walk_at "ev"))
  | ((with_reducible refine' ev_eqB ?k0 ?k1); (case k0 => walk_at "ev"); (case k1 => walk_at "ev"))
  | ((with_reducible refine' ev_neB ?k0 ?k1); (case k0 => walk_at "ev"); (case k1 => walk_at "ev"))
  | ((with_reducible refine' ev_eqS ?k0 ?k1); (case k0 => walk_at "ev"); (case k1 => walk_at "ev"))
  | ((with_reducible refine' ev_neS ?k0 ?k1); (case k0 => walk_at "ev"); (case k1 => walk_at "ev"))
  | ((with_reducible refine' ev_mod ?k0 ?k1 ?k2); (case k0 => walk_at "ev"); (case k1 => walk_at "ev"); (case k2 => walk_at "ar"))
  | ((with_reducible refine' ev_mul ?k0 ?k1 ?k2); (case k0 => walk_at "ev"); (case k1 => walk_at "ev"); (case k2 => walk_at "mul"))
  | ((with_reducible refine' ev_div ?k0 ?k1 ?k2); (case k0 => walk_at "ev"); (case k1 => walk_at "ev"); (case k2 => walk_at "div"))
  | ((with_reducible refine' ev_neg ?k0); (case k0 => walk_at "ev"))
  | ((with_reducible refine' ev_callD ?k0 ?k1); (case k0 => walk_at "ea"); (case k1 => walk_at "sp"))
  | ((with_reducible refine' ev_lenI ?k0 ?k1); (case k0 => walk_at "ev"); (case k1 => walk_at "sq"))
  | ((with_reducible refine' ev_lenQ ?k0 ?k1); (case k0 => walk_at "ev"); (case k1 => walk_at "sq2"))
  | ((with_reducible refine' ev_lenSet ?k0 ?k1 ?k2); (case k0 => walk_at "ev"); (case k1 => walk_at "sq2"); (case k2 => walk_at "ar"))
  | ((with_reducible refine' ev_inI ?k0 ?k1 ?k2); (case k0 => walk_at "ev"); (case k1 => walk_at "ev"); (case k2 => walk_at "sq2"))
  | ((with_reducible refine' ev_notInI ?k0 ?k1 ?k2); (case k0 => walk_at "ev"); (case k1 => walk_at "ev"); (case k2 => walk_at "sq2"))
  | ((with_reducible refine' ev_lenTxt ?k0 ?k1); (case k0 => walk_at "ev"); (case k1 => walk_at "ar"))
  | ((with_reducible refine' ev_lenS ?k0 ?k1); (case k0 => walk_at "ev"); (case k1 => walk_at "ar"))
  | ((with_reducible refine' ev_ixTxt ?k0 ?k1 ?k2 ?k3 ?k4); (case k0 => walk_at "ev"); (case k1 => walk_at "ev"); (case k2 => walk_at "ar"); (case k3 => walk_at "ar"); (case k4 => walk_at "ar"))
  | ((with_reducible refine' ev_ix2 ?k0); (case k0 => walk_at "ev"))
  | ((with_reducible refine' ev_isiI ?k0); (case k0 => walk_at "ev"))
  | ((with_reducible refine' ev_isiL ?k0 ?k1); (case k0 => walk_at "ev"); (case k1 => walk_at "hl"))
  | ((with_reducible refine' ev_isiU ?k0 ?k1); (case k0 => walk_at "ev"); (case k1 => walk_at "hl"))
  | ((with_reducible refine' ev_isiS ?k0); (case k0 => walk_at "ev"))
  | ((with_reducible refine' ev_isiB ?k0); (case k0 => walk_at "ev"))
  | ((with_reducible refine' ev_isN ?k0); (case k0 => walk_at "ev"))
  | ((with_reducible refine' ev_notN ?k0); (case k0 => walk_at "ev"))
  | ((with_reducible refine' ev_notIB ?k0 ?k1); (case k0 => walk_at "ev"); (case k1 => walk_at "ev"))
  | ((with_reducible refine' ev_neNil ?k0 ?k1); (case k0 => walk_at "ev"); (case k1 => walk_at "sq"))
  | ((with_reducible refine' ev_eqNil ?k0 ?k1); (case k0 => walk_at "ev"); (case k1 => walk_at "sq"))
  | ((with_reducible refine' ev_eqL ?k0 ?k1 ?k2 ?k3); (case k0 => walk_at "ev"); (case k1 => walk_at "ev"); (case k2 => walk_at "sq"); (case k3 => walk_at "sq"))
  | ((with_reducible refine' ev_neL ?k0 ?k1 ?k2 ?k3); (case k0 => walk_at "ev"); (case k1 => walk_at "ev"); (case k2 => walk_at "sq"); (case k3 => walk_at "sq"))
  | ((with_reducible refine' ev_min2 ?k0 ?k1); (case k0 => walk_at "ev"); (case k1 => walk_at "ev"))
  | ((with_reducible refine' ev_max2 ?k0 ?k1); (case k0 => walk_at "ev"); (case k1 => walk_at "ev"))
  | ((with_reducible refine' ev_intB ?k0); (case k0 => walk_at "ev"))
  | ((with_reducible refine' ev_andV ?k0 (fun hb => ?k1)); (case k0 => walk_at "ev"); (case k1 => (walk_at "hb"; walk_at "ev")))
  | ((with_reducible refine' ev_orV ?k0 (fun hb => ?k1)); (case k0 => walk_at "ev"); (case k1 => (walk_at "hb"; walk_at "ev")))
  | ((with_reducible refine' ev_notV ?k0); (case k0 => walk_at "ev"))
  | ((with_reducible refine' ev_ifI ?k0 (fun hb => ?k1) (fun hb => ?k2)); (case k0 => walk_at "et"); (case k1 => (walk_at "hb"; walk_at "ev")); (case k2 => (walk_at "hb"; walk_at "ev")))
  | ((with_reducible refine' ev_ifS ?k0 (fun hb => ?k1) (fun hb => ?k2)); (case k0 => walk_at "et"); (case k1 => (walk_at "hb"; walk_at "ev")); (case k2 => (walk_at "hb"; walk_at "ev"))))
local macro_rules | `(tactic| walk_at "hb") => `(tactic| (try simp only [decide_eq_true_eq, decide_eq_false_iff_not, Bool.and_eq_true, Bool.or_eq_true, Bool.or_eq_false_iff, Bool.not_eq_true', Bool.not_eq_false', beq_iff_eq] at *))
local macro_rules | `(tactic| walk_at "sp") => `(tactic| first
  | (refine' v_number ?k0 ?k1 ?k2; (case k0 => walk_at "sq"); (case k1 => walk_at "ar"); (case k2 => walk_at "ar"))
  | (refine' v_drawn ?k0 ?k1; (case k0 => walk_at "sq"); (case k1 => walk_at "ar"))
  | exact v_size
  | exact v_counts
  | (refine' v_wraps ?k0 ?k1 ?k2 ?k3 ?k4; (case k0 => walk_at "sq"); (case k1 => walk_at "ar"); (case k2 => walk_at "ar"); (case k3 => walk_at "ar"); (case k4 => walk_at "ar"))
  | (refine' v_l_wraps ?k0 ?k1 ?k2 ?k3 ?k4; (case k0 => walk_at "sq"); (case k1 => walk_at "ar"); (case k2 => walk_at "ar"); (case k3 => walk_at "ar"); (case k4 => walk_at "ar"))
  | (refine' v_cross ?k0 ?k1 ?k2 ?k3 ?k4; (case k0 => walk_at "sq"); (case k1 => walk_at "ar"); (case k2 => walk_at "ar"); (case k3 => walk_at "ar"); (case k4 => walk_at "ar"))
  | (refine' v_places ?k0 ?k1 ?k2; (case k0 => walk_at "sq"); (case k1 => walk_at "ar"); (case k2 => assumption))
  | (refine' v_letters ?k0 ?k1 ?k2; (case k0 => walk_at "sq"); (case k1 => walk_at "ar"); (case k2 => assumption))
  | (refine' v_l_places ?k0 ?k1 ?k2; (case k0 => walk_at "sq"); (case k1 => walk_at "ar"); (case k2 => assumption))
  | (refine' v_fits ?k0 ?k1 ?k2 ?k3; (case k0 => walk_at "sq"); (case k1 => walk_at "ar"); (case k2 => walk_at "ar"); (case k3 => walk_at "ar"))
  | (refine' v_none ?k0 ?k1 ?k2; (case k0 => walk_at "sq"); (case k1 => walk_at "ar"); (case k2 => walk_at "ar")))
local macro_rules | `(tactic| walk_at "sp") => `(tactic| first
  | (refine' v_turned ?k0 ?k1 ?k2; (case k0 => walk_at "sq"); (case k1 => walk_at "ar"); (case k2 => assumption))
  | (refine' v_same ?k0 ?k1 ?k2; (case k0 => walk_at "hl"); (case k1 => walk_at "sq"); (case k2 => walk_at "ar"))
  | (refine' v_told ?k0 ?k1 ?k2; (case k0 => walk_at "sq"); (case k1 => walk_at "hl"); (case k2 => assumption))
  | (refine' v_parted ?k0 ?k1 ?k2 ?k3; (case k0 => walk_at "sq"); (case k1 => walk_at "ar"); (case k2 => walk_at "ar"); (case k3 => assumption)))
local macro_rules | `(tactic| walk_at "sp") => `(tactic| first
  | (refine' v_is_pile ?k0 ?k1 ?k2 ?k3; (case k0 => walk_at "hl"); (case k1 => assumption); (case k2 => walk_at "ar"); (case k3 => walk_at "ar")))
local macro_rules | `(tactic| walk_at "sp") => `(tactic| first
  | (refine' v_held ?k0 ?k1 ?k2 ?k3 ?k4 ?k5; (case k0 => walk_at "sq"); (case k1 => walk_at "st"); (case k2 => walk_at "ar"); (case k3 => (refine ⟨?_, ?_⟩ <;> walk_at "ar")); (case k4 => (refine ⟨?_, ?_⟩ <;> walk_at "ar")); (case k5 => (refine ⟨?_, ?_⟩ <;> walk_at "ar")))
  | (refine' v_l_held ?k0 ?k1 ?k2 ?k3 ?k4; (case k0 => walk_at "sq"); (case k1 => walk_at "ar"); (case k2 => (refine ⟨?_, ?_⟩ <;> walk_at "ar")); (case k3 => (refine ⟨?_, ?_⟩ <;> walk_at "ar")); (case k4 => (refine ⟨?_, ?_⟩ <;> walk_at "ar")))
  | (refine' v_lies ?k0 ?k1 ?k2 ?k3 ?k4; (case k0 => walk_at "sq"); (case k1 => walk_at "st"); (case k2 => walk_at "ar"); (case k3 => (refine ⟨?_, ?_⟩ <;> walk_at "ar")); (case k4 => (refine ⟨?_, ?_⟩ <;> walk_at "ar")))
  | (refine' v_judged ?k0 ?k1 ?k2 ?k3; (case k0 => walk_at "sq"); (case k1 => walk_at "ar"); (case k2 => assumption); (case k3 => assumption))
  | (refine' v_l_free ?k0 ?k1 ?k2 ?k3 ?k4 ?k5; (case k0 => walk_at "sq"); (case k1 => walk_at "sq"); (case k2 => walk_at "ar"); (case k3 => walk_at "ar"); (case k4 => walk_at "ar"); (case k5 => assumption))
  | (refine' v_are_free ?k0 ?k1 ?k2 ?k3 ?k4 ?k5; (case k0 => walk_at "sq"); (case k1 => walk_at "sq2"); (case k2 => walk_at "ar"); (case k3 => walk_at "ar"); (case k4 => walk_at "ar"); (case k5 => assumption)))
open LamX
section
variable {K : PySem.W.Frag} {c : Cs}
/-- what stands beside the pile of parts -/
structure OpH (c : Cs) (H0 H : Hp) (t u : Addr) (ns : List Int) (ts : List Addr) (ss : List (List Int)) : Prop where
  xn : ExtN H0 H
  tb : Tabs (wT c) H
  at_ : H t = some (.lst ((pl ns).map V.int))
  st : H u = some (.lst (ts.map V.ref))
  so : StepT H ts ss
theorem OpH.ext {H0 H H' : Hp} {t u : Addr} {ns : List Int} {ts : List Addr} {ss : List (List Int)} (o : OpH c H0 H t u ns ts ss) (e : Ex H H') : OpH c H0 H' t u ns ts ss :=
  ⟨xn_trans o.xn (xn_ex e), tb_ex o.tb e, e t _ o.at_, e u _ o.st, o.so.ext (xn_ex e)⟩
theorem OpH.mut {H0 H : Hp} {t u r : Addr} {ns : List Int} {ts : List Addr} {ss : List (List Int)} {zs xs : List V} (o : OpH c H0 H t u ns ts ss) (hr : H r = some (.lst zs)) (h0 : H0 r = none) (htr : t ≠ r) (hur : u ≠ r) : OpH c H0 (upd H r (.lst xs)) t u ns ts ss :=
  ⟨xn_mut o.xn h0, tab_mut o.tb hr lst_tbl lst_code, (upd_ne htr).trans o.at_, (upd_ne hur).trans o.st, steps_mut o.so hr⟩
theorem ets_one {σ : L2.St} {H : Hp} {ta : TA} {i j : Int} (h : EvA ta σ H [.int i, .int j]) : EvTs (tLst (tCons (tTup ta) tNil)) σ H [(i, j)] := fun H1 e Q q =>
  h H1 e _ fun H2 e2 => ⟨sz_of (Nat.le_of_ble_eq_true rfl), fun t ht => ⟨sz_of (Nat.le_of_ble_eq_true rfl), fun r hr => q r [t] _ (fresh_back (e2.trans (Ex.new ht)) hr) ((e2.trans (Ex.new ht)).trans (Ex.new hr)) upd_same ⟨rfl, fun k u p h1 h2 => by
    have hk : k = 0 := by
      have := (List.getElem?_eq_some_iff.mp h1).1
      simpa using this
    subst hk
    cases h1
    cases h2
    exact Ex.new hr t _ upd_same⟩⟩⟩
theorem g_asgTs {σ : L2.St} {H : Hp} {te : TE} {D : Ends} {tz : TS} {i : Nat} {S : List (Int × Int)} (h : EvTs te σ H S) (k : ∀ p ts H1, H p = none → Ex H H1 → H1 p = some (.lst (ts.map V.ref)) → Tups H1 ts S → Go tz D (σ.set i (some (.ref p))) H1) : Go (tSeq (tAsg te (gName i)) tz) D σ H := fun H1 e => h H1 e _ fun p ts H2 hp e2 h2 t2 => (k p ts H2 (fresh_back e hp) (e.trans e2) h2 t2).here
theorem g_asgC {σ : L2.St} {H : Hp} {sp : Sp} {vs : List V} {E : XK} {ta : TA} {i : Nat} {D : Ends} {tz : TS} (h : EvA ta σ H vs) (hs : ∀ H1, Ex H H1 → sp vs H1 (fun v H2 => tz D (σ.set i (some v)) H2) E) : Go (tSeq (tAsg (tCall sp [] E ta) (gName i)) tz) D σ H := fun H1 e =>
  h H1 e _ fun H2 e2 => by
    rw [List.append_nil]
    exact hs H2 (e.trans e2)
theorem g_while {σ : L2.St} {H : Hp} {t : TT} {tu tz : TS} {D : Ends} (W : Nat → L2.St → Hp → Prop) (m0 : Nat) (h0 : ∀ H1, Ex H H1 → W m0 σ H1)
    (hs : ∀ m σ' H', W m σ' H' → ∃ b, EvT t σ' H' b ∧ (b = true → Go tu { D with nx := fun σ2 H2 => ∃ m', m' < m ∧ W m' σ2 H2, ct := fun σ2 H2 => ∃ m', m' < m ∧ W m' σ2 H2, bk := tz D } σ' H') ∧ (b = false → Go tz D σ' H')) : Go (tSeq (tWhile t tu) tz) D σ H := fun H1 e =>
  q_while W m0 (h0 H1 e) fun m σ' H' hw => by
    obtain ⟨b, hb, h1, h2⟩ := hs m σ' H' hw
    exact ⟨b, hb, fun e1 H2 e2 => ⟨_, fun σ2 H2 z => z, h1 e1 H2 e2⟩, fun e1 H2 e2 => h2 e1 H2 e2⟩
theorem cutP_len (f : Int) (s : List Int) : (cutP f s).length = s.length := by
  induction s generalizing f with
  | nil => rfl
  | cons z s ih => simp [cutP, ih]
theorem read_opening (vs : List V) (H : Hp) (Q : VK) (E : XK) (h : sp_opening K c vs H Q E) : t_opening K c E { nx := fun _ H' => Q .non H', rt := Q } (start ["pile", "at", "parts", "steps", "first", "last", "step", "crease"] vs) H := by
  obtain ⟨a, ns, rfl, hS, hlen, nx, hT, q, x⟩ := h
  by_cases pp : IsPile ns
  · replace q := q pp
    have hpl := pl_len ns
    have hps := pp.pos
    refine Go.here (g_asgL (xs := (pl ns).map V.int) (el_callD (vs := [.ref a]) (by walk_at "ea") (v_judged hS hlen nx pp)) fun t H1 ht e1 hlt => ?_)
    refine g_asgTs (S := [(0, (ns.length : Int) - 1)]) (ets_one (by rw [← hpl]; exact ea_cons ev_c (ea_cons (ev_sub (ev_lenI (ev_var rfl) (sq_lst hlt)) ev_c) ea_nil))) fun r rs H2 hr e2 hlr htp => ?_
    refine g_asgL (xs := []) (el_lst ea_nil (Nat.zero_le _)) fun u H3 hu e3 hlu => ?_
    have hrH : H r = none := fresh_back e1 hr
    have huH : H u = none := fresh_back (e1.trans e2) hu
    have htr : t ≠ r := fun z => by
      rw [← z, hlt] at hr
      cases hr
    have hur : u ≠ r := fun z => by
      rw [z, hlr] at hu
      cases hu
    have htu : t ≠ u := fun z => by
      rw [← z, e2 t _ hlt] at hu
      cases hu
    refine g_while (fun m σ H' => ∃ (y4 y5 y6 y7 : Option V) (rs : List Addr) (S : List (Int × Int)) (ts : List Addr) (ss : List (List Int)), σ = [some (.ref a), some (.ref t), some (.ref r), some (.ref u), y4, y5, y6, y7] ∧ OpH c H H' t u ns ts ss ∧ H' r = some (.lst (rs.map V.ref)) ∧ Tups H' rs S ∧ Opn (ns.length : Int) ss.flatten S ∧ Steps (pl ns) ss ∧ S.length ≤ 2 * ss.flatten.length + 1 ∧ m = 3 * (ns.length - ss.flatten.length) + S.length)
      (3 * (ns.length - 0) + 1) (fun H4 e4 => ⟨none, none, none, none, rs, [(0, (ns.length : Int) - 1)], [], [], rfl, ⟨xn_ex (((e1.trans e2).trans e3).trans e4), tb_ex hT (((e1.trans e2).trans e3).trans e4), e4 t _ (e3 t _ (e2 t _ hlt)), e4 u _ hlu, ⟨rfl, fun i t s h1 _ => by cases h1⟩⟩, e4 r _ (e3 r _ hlr), htp.mono (e3.trans e4), Opn.start (by omega), Steps.nil (by omega), by simp, rfl⟩) (fun m σ H4 hW => ?_)
    obtain ⟨y4, y5, y6, y7, rs, S, ts, ss, rfl, o, hr4, htp4, op, st, hSb, rfl⟩ := hW
    refine ⟨!decide (S = []), et_test (ev_neNilT (ev_var rfl) (sq_lst hr4) htp4), fun hb => ?_, fun hb => ?_⟩
    · have hne : S ≠ [] := fun z => by
        rw [z] at hb
        exact Bool.noConfusion hb
      obtain ⟨rs0, t0, S0, f, l, rfl, rfl, htp0, ht0⟩ := tups_split htp4 hne
      have hpart := op.inS (f, l) (List.mem_append_right _ List.mem_cons_self)
      have pf0 := hpart.f0
      have pln := hpart.ln
      have hfree := (st.ok ss.length (Nat.le_refl _))
      rw [List.take_length] at hfree
      obtain ⟨hcr, hfr⟩ := hfree
      refine g_popT (x := .int f) (y := .int l) (ev_var rfl) hr4 ht0 fun H5 e5 => ?_
      have hr5 := e5 r _ hr4
      have o5 := (o.ext e5).mut (xs := rs0.map V.ref) hr5 hrH htr hur
      have tp5 := tups_mut (o := .lst (rs0.map V.ref)) (htp0.mono e5) hr5
      have r5 : (upd H5 r (.lst (rs0.map V.ref))) r = some (.lst (rs0.map V.ref)) := upd_same
      refine Go.here ?_
      generalize upd H5 r (.lst (rs0.map V.ref)) = H6 at o5 tp5 r5
      refine g_when (b := decide (f < l)) (et_test (ev_lt (ev_var rfl) (ev_var rfl))) (fun hb2 => ?_) (fun hb2 => ?_)
      · have hfl := of_decide_eq_true hb2
        -- step = step_of(at, first, last)
        refine g_asgC (vs := [.ref t, .int f, .int l]) (ea_cons (ev_var rfl) (ea_cons (ev_var rfl) (ea_cons (ev_var rfl) ea_nil))) fun H8 e8 => ?_
        have o8 := o5.ext e8
        refine ⟨t, pl ns, f, l, rfl, o8.at_, by omega, pf0, hfl, by omega, fun h1 h2 => ?_, o8.tb, fun s tt H9 hs eN T9 htt => ?_⟩
        · exact even_part (by omega) hcr hfr (by rw [hpl]; exact hpart) h1 h2
        obtain ⟨op2, fr2, kind⟩ := step_next pp nx op hfr hs
        have o9 : OpH c H H9 t u ns ts ss := ⟨xn_trans o8.xn eN, T9, xn_lst eN o8.at_, xn_lst eN o8.st, o8.so.ext eN⟩
        have r9 : H9 r = some (.lst (rs0.map V.ref)) := xn_lst eN (e8 r _ r5)
        have tp9 : Tups H9 rs0 S0 := tups_ext eN (tp5.mono e8)
        have hslen : s.length ≤ 2 := by
          rcases kind with ⟨x, rfl⟩ | ⟨x, y, rfl, _⟩ <;> simp
        have hcr2 := op2.cr
        have hflat : ss.flatten.length ≤ ns.length := by
          have := php ns.length _ hcr.nd fun x hx => by
            have := hcr.bnd x hx
            omega
          exact this
        have hflat2 : (ss.flatten ++ s).length ≤ ns.length := by
          have := php ns.length _ hcr2.nd fun x hx => by
            have := hcr2.bnd x hx
            omega
          exact this
        have hssl : ss.length ≤ ss.flatten.length := by
          have go : ∀ l : List (List Int), (∀ s ∈ l, 1 ≤ s.length) → l.length ≤ l.flatten.length := by
            intro l
            induction l with
            | nil => exact fun _ => Nat.le_refl _
            | cons z l ih =>
              intro hh
              have h1 := hh z List.mem_cons_self
              have h2 := ih fun s hs => hh s (List.mem_cons_of_mem _ hs)
              simp only [List.flatten_cons, List.length_append, List.length_cons]
              omega
          refine go ss fun s hs => ?_
          rcases st.kind s hs with ⟨x, rfl⟩ | ⟨x, y, rfl, _⟩ <;> simp
        have htsl := o9.so.1
        -- steps.append(step)
        refine Go.here (g_app (xs := ts.map V.ref) o9.st (v := .ref tt) (ev_var rfl) (ev_var rfl) (by rw [List.length_map]; omega) fun H10 e10 => ?_)
        have o10 := o9.ext e10
        have u10 := o10.st
        have r10 := e10 r _ r9
        have tp10 := tp9.mono e10
        have tt10 := e10 tt _ htt
        have ttu : tt ≠ u := fun z => by
          rw [z, u10] at tt10
          cases tt10
        have ttr : tt ≠ r := fun z => by
          rw [z, r10] at tt10
          cases tt10
        have hut : tt ≠ u := ttu
        have so11 : StepT (upd H10 u (.lst (ts.map V.ref ++ [.ref tt]))) (ts ++ [tt]) (ss ++ [s]) := by
          have := steps_mut (o := .lst (ts.map V.ref ++ [.ref tt])) (steps_snoc o10.so tt10) u10
          exact this
        have o11 : OpH c H (upd H10 u (.lst (ts.map V.ref ++ [.ref tt]))) t u ns (ts ++ [tt]) (ss ++ [s]) :=
          ⟨xn_mut o10.xn huH, tab_mut o10.tb u10 lst_tbl lst_code, (upd_ne htu).trans o10.at_, by rw [List.map_append]; exact upd_same, so11⟩
        have r11 : (upd H10 u (.lst (ts.map V.ref ++ [.ref tt]))) r = some (.lst (rs0.map V.ref)) := (upd_ne (Ne.symm hur)).trans r10
        have tp11 := tups_mut (o := .lst (ts.map V.ref ++ [.ref tt])) tp10 u10
        have tt11 : (upd H10 u (.lst (ts.map V.ref ++ [.ref tt]))) tt = some (.tup (s.map V.int)) := (upd_ne ttu).trans tt10
        refine Go.here ?_
        generalize upd H10 u (.lst (ts.map V.ref ++ [.ref tt])) = H11 at o11 r11 tp11 tt11
        -- for crease in step: ..
        refine g_forU (ns := s) (a := tt) (ev_var rfl) tt11 (fun i σ H' => ∃ (y7 : Option V) (rs : List Addr), σ = [some (.ref a), some (.ref t), some (.ref r), some (.ref u), some (.int (lastF f (s.take i))), some (.int l), some (.ref tt), y7] ∧ OpH c H H' t u ns (ts ++ [tt]) (ss ++ [s]) ∧ H' r = some (.lst (rs.map V.ref)) ∧ Tups H' rs (S0 ++ cutP f (s.take i)) ∧ H' tt = some (.tup (s.map V.int)))
          (fun H12 e12 => ⟨y7, rs0, rfl, o11.ext e12, e12 r _ r11, by simpa [cutP] using tp11.mono e12, e12 tt _ tt11⟩) (fun i σ H' hP => ?_) (fun i z σ H' hz hP => ?_) (fun σ H' hP => ?_)
        · obtain ⟨_, _, _, _, _, _, h6⟩ := hP
          exact h6
        · obtain ⟨y7, rs, rfl, o', r', tp', tt'⟩ := hP
          have htl := tp'.1
          have hil := (List.getElem?_eq_some_iff.mp hz).1
          have hcl := cutP_len f (s.take i)
          have htk : (s.take i).length ≤ 2 := by rw [List.length_take]; omega
          refine g_appU (xs := rs.map V.ref) (ys := [.int (lastF f (s.take i)), .int z]) r' (ev_var rfl) (eu_tup (ea_cons (ev_var rfl) (ea_cons (ev_var rfl) ea_nil)) (Nat.le_of_ble_eq_true rfl)) (by simp only [List.length_append, List.length_singleton, List.length_map] at *; omega) fun w H12 hw e12 hw12 => ?_
          have r12 := e12 r _ r'
          have wr' : w ≠ r := fun z => by
            rw [z, r12] at hw12
            cases hw12
          have tp12 : Tups (upd H12 r (.lst (rs.map V.ref ++ [.ref w]))) (rs ++ [w]) (S0 ++ cutP f (s.take i) ++ [(lastF f (s.take i), z)]) := tups_mut (o := .lst (rs.map V.ref ++ [.ref w])) (tups_snoc (tp'.mono e12) hw12) r12
          have o12 := (o'.ext e12).mut (xs := rs.map V.ref ++ [.ref w]) r12 hrH htr hur
          have tt12 : (upd H12 r (.lst (rs.map V.ref ++ [.ref w]))) tt = some (.tup (s.map V.int)) := (upd_ne ttr).trans (e12 tt _ tt')
          have r13 : (upd H12 r (.lst (rs.map V.ref ++ [.ref w]))) r = some (.lst ((rs ++ [w]).map V.ref)) := by rw [List.map_append]; exact upd_same
          refine Go.here ?_
          generalize upd H12 r (.lst (rs.map V.ref ++ [.ref w])) = H13 at tp12 o12 tt12 r13
          refine g_asg (v := .int (z + 1)) (ev_add (ev_var rfl) ev_c) (g_next fun H14 e14 => ?_)
          obtain ⟨c1, c2⟩ := cutP_snoc f (s.take i) z
          refine ⟨some (.int z), rs ++ [w], ?_, o12.ext e14, e14 r _ r13, ?_, e14 tt _ tt12⟩
          · rw [take_more hz, c2]
            rfl
          · rw [take_more hz, c1, ← List.append_assoc]
            exact tp12.mono e14
        · obtain ⟨y7, rs, rfl, o', r', tp', tt'⟩ := hP
          rw [List.take_length] at tp' ⊢
          refine g_appU (xs := rs.map V.ref) (ys := [.int (lastF f s), .int l]) r' (ev_var rfl) (eu_tup (ea_cons (ev_var rfl) (ea_cons (ev_var rfl) ea_nil)) (Nat.le_of_ble_eq_true rfl)) (by have htl := tp'.1; have hcl := cutP_len f s; simp only [List.length_append, List.length_singleton, List.length_map] at *; omega) fun w H12 hw e12 hw12 => ?_
          have r12 := e12 r _ r'
          have tp12 : Tups (upd H12 r (.lst (rs.map V.ref ++ [.ref w]))) (rs ++ [w]) (S0 ++ cutP f s ++ [(lastF f s, l)]) := tups_mut (o := .lst (rs.map V.ref ++ [.ref w])) (tups_snoc (tp'.mono e12) hw12) r12
          have o12 := (o'.ext e12).mut (xs := rs.map V.ref ++ [.ref w]) r12 hrH htr hur
          have r13 : (upd H12 r (.lst (rs.map V.ref ++ [.ref w]))) r = some (.lst ((rs ++ [w]).map V.ref)) := by rw [List.map_append]; exact upd_same
          have efl : (ss ++ [s]).flatten = ss.flatten ++ s := by simp
          refine Go.here ?_
          generalize upd H12 r (.lst (rs.map V.ref ++ [.ref w])) = H13 at tp12 o12 r13
          refine g_next fun H14 e14 => g_next (D := _) (fun H15 e15 => ?_) _ (Ex.refl _)
          have e145 := e14.trans e15
          refine ⟨3 * (ns.length - (ss ++ [s]).flatten.length) + (S0 ++ cutP f s ++ [(lastF f s, l)]).length, ?_, _, _, _, _, rs ++ [w], S0 ++ cutP f s ++ [(lastF f s, l)], ts ++ [tt], ss ++ [s], rfl, o12.ext e145, e145 r _ r13, tp12.mono e145, by rw [efl]; exact op2, ?_, by have hcl := cutP_len f s; simp only [efl, List.length_append, List.length_singleton] at *; omega, rfl⟩
          · rw [efl]
            rcases kind with ⟨x, rfl⟩ | ⟨x, y, rfl, _⟩
            · simp only [List.length_append, List.length_singleton, cutP, List.length_cons, List.length_nil] at *
              omega
            · simp only [List.length_append, List.length_singleton, cutP, List.length_cons, List.length_nil] at *
              omega
          · refine st.snoc ?_ fr2 kind
            rw [hpl]
            exact hcr2
      · have hS := op.drop (of_decide_eq_false hb2)
        refine g_next fun H7 e7 => ⟨3 * (ns.length - ss.flatten.length) + S0.length, by simp only [List.length_append, List.length_singleton]; omega, _, _, _, _, rs0, S0, ts, ss, rfl, o5.ext e7, e7 r _ r5, tp5.mono e7, hS, st, by simp only [List.length_append, List.length_singleton] at hSb; omega, rfl⟩
    · have he : S = [] := by simpa using hb
      subst he
      have hd := op.done (by omega)
      refine g_ret (v := .ref u) (ev_var rfl) fun H5 e5 => ?_
      have o5 := o.ext e5
      exact q u ts ss H5 st hd o5.xn o5.tb huH o5.st o5.so
  · refine Go.here (g_asgX (evx_call (vs := [.ref a]) (by walk_at "ea") fun H1 e Q' => ?_))
    exact ⟨a, ns, rfl, ex_l e hS, hlen, nx, .no pp fun H' e' => x pp H' (e.trans e')⟩
end
end Fo
/-! FoldR18 -/
namespace Fo
open PySem L2 Evl
local macro_rules | `(tactic| walk_at "hl") => `(tactic| first
  | assumption
  | exact upd_same
  | (refine (by assumption : Ex _ _) _ _ ?_; walk_at "hl"))
local macro_rules | `(tactic| walk_at "sq") => `(tactic| first
  | assumption
  | (refine sq_lst ?_; walk_at "hl")
  | (refine ex_l (by assumption) ?_; walk_at "sq"))
local macro_rules | `(tactic| walk_at "st") => `(tactic| first
  | assumption
  | (refine st_of ?_; walk_at "hl")
  | (refine ex_t (by assumption) ?_; walk_at "st"))
local macro_rules | `(tactic| walk_at "sq2") => `(tactic| first
  | assumption
  | (refine Or.inl ?_; walk_at "sq")
  | (refine Or.inr ?_; walk_at "st")
  | (refine Sq2.mono (by assumption) ?_; walk_at "sq2"))
local macro_rules | `(tactic| walk_at "ar") => `(tactic| first
  | assumption
  | omega
  | decide)
local macro_rules | `(tactic| walk_at "lar") => `(tactic| first
  | omega
  | (simp only [List.length_append, List.length_map, List.length_take, List.length_drop, List.length_cons, List.length_nil, List.length_replicate]; omega))
local macro_rules | `(tactic| walk_at "hb") => `(tactic| first
  | skip)
local macro_rules | `(tactic| walk_at "mul") => `(tactic| first
  | (exact Or.inr ⟨by decide, by decide⟩)
  | (exact Or.inl ⟨by decide, by decide⟩)
  | (exact Or.inl ⟨by omega, by omega⟩)
  | (exact Or.inr ⟨by omega, by omega⟩))
local macro_rules | `(tactic| walk_at "div") => `(tactic| first
  | (exact ⟨by decide, by decide⟩)
  | (exact ⟨by omega, by omega⟩))
local macro_rules | `(tactic| walk_at "ea") => `(tactic| first
  | exact ea_nil
  | ((with_reducible refine' ea_cons ?k0 ?k1); (case k0 => walk_at "ev"); (case k1 => walk_at "ea")))
local macro_rules | `(tactic| walk_at "eo") => `(tactic| first
  | exact eo_none
  | ((with_reducible refine' eo_some ?k0); (case k0 => walk_at "ev")))
local macro_rules | `(tactic| walk_at "el") => `(tactic| first
  | ((with_reducible refine' el_lst ?k0 ?k1); (case k0 => walk_at "ea"); (case k1 => (exact Nat.le_of_ble_eq_true rfl)))
  | ((with_reducible refine' el_from ?k0 ?k1 ?k2 ?k3 ?k4); (case k0 => walk_at "ev"); (case k1 => walk_at "eo"); (case k2 => walk_at "sq"); (case k3 => walk_at "ar"); (case k4 => walk_at "lar"))
  | ((with_reducible refine' el_upto ?k0 ?k1 ?k2 ?k3 ?k4); (case k0 => walk_at "ev"); (case k1 => walk_at "eo"); (case k2 => walk_at "sq"); (case k3 => walk_at "ar"); (case k4 => walk_at "lar"))
  | ((with_reducible refine' el_rep1 ?k0 ?k1 ?k2 ?k3); (case k0 => walk_at "el"); (case k1 => walk_at "ev"); (case k2 => walk_at "ar"); (case k3 => walk_at "ar"))
  | ((with_reducible refine' el_cat ?k0 ?k1 ?k2); (case k0 => walk_at "el"); (case k1 => walk_at "el"); (case k2 => walk_at "lar"))
  | ((with_reducible refine' el_callD ?k0 ?k1); (case k0 => walk_at "ea"); (case k1 => walk_at "sp"))
  | ((with_reducible refine' el_list ?k0 ?k1); (case k0 => walk_at "ev"); (case k1 => walk_at "sq"))
  | ((with_reducible refine' el_srt ?k0 ?k1); (case k0 => walk_at "ev"); (case k1 => walk_at "sq"))
  | ((with_reducible refine' el_sortedQ ?k0 ?k1); (case k0 => walk_at "ev"); (case k1 => walk_at "sq2"))
  | ((with_reducible refine' el_rev ?k0 ?k1); (case k0 => walk_at "ev"); (case k1 => walk_at "sq"))
  | ((with_reducible refine' el_step ?k0 ?k1 ?k2); (case k0 => walk_at "ev"); (case k1 => walk_at "eo"); (case k2 => walk_at "sq")))
local macro_rules | `(tactic| walk_at "et") => `(tactic| first
  | ((with_reducible refine' et_test ?k0); (case k0 => walk_at "ev"))
  | ((with_reducible refine' et_B ?k0); (case k0 => walk_at "ev"))
  | ((with_reducible refine' et_not ?k0); (case k0 => walk_at "et"))
  | ((with_reducible refine' et_and ?k0 (fun hb => ?k1)); (case k0 => walk_at "et"); (case k1 => (walk_at "hb"; walk_at "et")))
  | ((with_reducible refine' et_or ?k0 (fun hb => ?k1)); (case k0 => walk_at "et"); (case k1 => (walk_at "hb"; walk_at "et"))))
local macro_rules | `(tactic| walk_at "ev") => `(tactic| first
  | ((with_reducible refine' ev_var ?k0); (case k0 => rfl))
  | exact ev_c
  | ((with_reducible refine' ev_add ?k0 ?k1); (case k0 => walk_at "ev"); (case k1 => walk_at "ev"))
  | ((with_reducible refine' ev_sub ?k0 ?k1); (case k0 => walk_at "ev"); (case k1 => walk_at "ev"))
  | ((with_reducible refine' ev_ixI ?k0 ?k1 ?k2 ?k3 ?k4); (case k0 => walk_at "ev"); (case k1 => walk_at "ev"); (case k2 => walk_at "sq"); (case k3 => walk_at "ar"); (case k4 => walk_at "ar"))
  | ((with_reducible refine' ev_ixT ?k0 ?k1 ?k2 ?k3); (case k0 => walk_at "ev"); (case k1 => walk_at "ev"); (case k2 => walk_at "st"); (case k3 => rfl))
  | ((with_reducible refine' ev_lt ?k0 ?k1); (case k0 => walk_at "ev"); (case k1 => walk_at "ev"))
  | ((with_reducible refine' ev_gt ?k0 ?k1); (case k0 => walk_at "ev"); (case k1 => walk_at "ev"))
  | ((with_reducible refine' ev_le ?k0 ?k1); (case k0 => walk_at "ev"); (case k1 => walk_at "ev"))
  | ((with_reducible refine' ev_ge ?k0 ?k1); (case k0 => walk_at "ev"); (case k1 => walk_at "ev"))
  | ((with_reducible refine' ev_eqI ?k0 ?k1); (case k0 => walk_at "ev"); (case k1 => walk_at "ev"))
  | ((with_reducible refine' ev_neI ?k0 ?k1); (case k0 => walk_at "ev"); (case k1 => walk_at "ev"))
  | ((with_reducible refine' ev_eqB ?k0 ?k1); (case k0 => walk_at "ev"); (case k1 => walk_at "ev"))
  | ((with_reducible refine' ev_neB ?k0 ?k1); (case k0 => walk_at "ev"); (case k1 => walk_at "ev"))
  | ((with_reducible refine' ev_eqS ?k0 ?k1); (case k0 => walk_at "ev"); (case k1 => walk_at "ev"))
  | ((with_reducible refine' ev_neS ?k0 ?k1); (case k0 => walk_at "ev"); (case k1 => walk_at "ev"))
  | ((with_reducible refine' ev_mod ?k0 ?k1 ?k2); (case k0 => walk_at "ev"); (case k1 => walk_at "ev"); (case k2 => walk_at "ar"))
  | ((with_reducible refine' ev_mul ?k0 ?k1 ?k2); (case k0 => walk_at "ev"); (case k1 => walk_at "ev"); (case k2 => walk_at "mul"))
  | ((with_reducible refine' ev_div ?k0 ?k1 ?k2); (case k0 => walk_at "ev"); (case k1 => walk_at "ev"); (case k2 => walk_at "div"))
  | ((with_reducible refine' ev_neg ?k0); (case k0 => walk_at "ev"))
  | ((with_reducible refine' ev_callD ?k0 ?k1); (case k0 => walk_at "ea"); (case k1 => walk_at "sp"))
  | ((with_reducible refine' ev_lenI ?k0 ?k1); (case k0 => walk_at "ev"); (case k1 => walk_at "sq"))
  | ((with_reducible refine' ev_lenQ ?k0 ?k1); (case k0 => walk_at "ev"); (case k1 => walk_at "sq2"))
  | ((with_reducible refine' ev_lenSet ?k0 ?k1 ?k2); (case k0 => walk_at "ev"); (case k1 => walk_at "sq2"); (case k2 => walk_at "ar"))
  | ((with_reducible refine' ev_inI ?k0 ?k1 ?k2); (case k0 => walk_at "ev"); (case k1 => walk_at "ev"); (case k2 => walk_at "sq2"))
  | ((with_reducible refine' ev_notInI ?k0 ?k1 ?k2); (case k0 => walk_at "ev"); (case k1 => walk_at "ev"); (case k2 => walk_at "sq2"))
  | ((with_reducible refine' ev_lenTxt ?k0 ?k1); (case k0 => walk_at "ev"); (case k1 => walk_at "ar"))
  | ((with_reducible refine' ev_lenS ?k0 ?k1); (case k0 => walk_at "ev"); (case k1 => walk_at "ar"))
  | ((with_reducible refine' ev_ixTxt ?k0 ?k1 ?k2 ?k3 ?k4); (case k0 => walk_at "ev"); (case k1 => walk_at "ev"); (case k2 => walk_at "ar"); (case k3 => walk_at "ar"); (case k4 => walk_at "ar"))
  | ((with_reducible refine' ev_ix2 ?k0); (case k0 => walk_at "ev"))
  | ((with_reducible refine' ev_isiI ?k0); (case k0 => walk_at "ev"))
  | ((with_reducible refine' ev_isiL ?k0 ?k1); (case k0 => walk_at "ev"); (case k1 => walk_at "hl"))
  | ((with_reducible refine' ev_isiU ?k0 ?k1); (case k0 => walk_at "ev"); (case k1 => walk_at "hl"))
  | ((with_reducible refine' ev_isiS ?k0); (case k0 => walk_at "ev"))
  | ((with_reducible refine' ev_isiB ?k0); (case k0 => walk_at "ev"))
  | ((with_reducible refine' ev_isN ?k0); (case k0 => walk_at "ev"))
  | ((with_reducible refine' ev_notN ?k0); (case k0 => walk_at "ev"))
  | ((with_reducible refine' ev_notIB ?k0 ?k1); (case k0 => walk_at "ev"); (case k1 => walk_at "ev"))
  | ((with_reducible refine' ev_neNil ?k0 ?k1); (case k0 => walk_at "ev"); (case k1 => walk_at "sq"))
  | ((with_reducible refine' ev_eqNil ?k0 ?k1); (case k0 => walk_at "ev"); (case k1 => walk_at "sq"))
  | ((with_reducible refine' ev_eqL ?k0 ?k1 ?k2 ?k3); (case k0 => walk_at "ev"); (case k1 => walk_at "ev"); (case k2 => walk_at "sq"); (case k3 => walk_at "sq"))
  | ((with_reducible refine' ev_neL ?k0 ?k1 ?k2 ?k3); (case k0 => walk_at "ev"); (case k1 => walk_at "ev"); (case k2 => walk_at "sq"); (case k3 => walk_at "sq"))
  | ((with_reducible refine' ev_min2 ?k0 ?k1); (case k0 => walk_at "ev"); (case k1 => walk_at "ev"))
  | ((with_reducible refine' ev_max2 ?k0 ?k1); (case k0 => walk_at "ev"); (case k1 => walk_at "ev"))
  | ((with_reducible refine' ev_intB ?k0); (case k0 => walk_at "ev"))
  | ((with_reducible refine' ev_andV ?k0 (fun hb => ?k1)); (case k0 => walk_at "ev"); (case k1 => (walk_at "hb"; walk_at "ev")))
  | ((with_reducible refine' ev_orV ?k0 (fun hb => ?k1)); (case k0 => walk_at "ev"); (case k1 => (walk_at "hb"; walk_at "ev")))
  | ((with_reducible refine' ev_notV ?k0); (case k0 => walk_at "ev"))
  | ((with_reducible refine' ev_ifI ?k0 (fun hb => ?k1) (fun hb => ?k2)); (case k0 => walk_at "et"); (case k1 => (walk_at "hb"; walk_at "ev")); (case k2 => (walk_at "hb"; walk_at "ev")))
  | ((with_reducible refine' ev_ifS ?k0 (fun hb => ?k1) (fun hb => ?k2)); (case k0 => walk_at "et"); (case k1 => (walk_at "hb"; walk_at "ev")); (case k2 => (walk_at "hb"; walk_at "ev"))))
local macro_rules | `(tactic| walk_at "hb") => `(tactic| (try simp only [decide_eq_true_eq, decide_eq_false_iff_not, Bool.and_eq_true, Bool.or_eq_true, Bool.or_eq_false_iff, Bool.not_eq_true', Bool.not_eq_false', beq_iff_eq] at *))
local macro_rules | `(tactic| walk_at "sp") => `(tactic| first
  | (refine' v_number ?k0 ?k1 ?k2; (case k0 => walk_at "sq"); (case k1 => walk_at "ar"); (case k2 => walk_at "ar"))
  | (refine' v_drawn ?k0 ?k1; (case k0 => walk_at "sq"); (case k1 => walk_at "ar"))
  | exact v_size
  | exact v_counts
  | (refine' v_wraps ?k0 ?k1 ?k2 ?k3 ?k4; (case k0 => walk_at "sq"); (case k1 => walk_at "ar"); (case k2 => walk_at "ar"); (case k3 => walk_at "ar"); (case k4 => walk_at "ar"))
  | (refine' v_l_wraps ?k0 ?k1 ?k2 ?k3 ?k4; (case k0 => walk_at "sq"); (case k1 => walk_at "ar"); (case k2 => walk_at "ar"); (case k3 => walk_at "ar"); (case k4 => walk_at "ar"))
  | (refine' v_cross ?k0 ?k1 ?k2 ?k3 ?k4; (case k0 => walk_at "sq"); (case k1 => walk_at "ar"); (case k2 => walk_at "ar"); (case k3 => walk_at "ar"); (case k4 => walk_at "ar"))
  | (refine' v_places ?k0 ?k1 ?k2; (case k0 => walk_at "sq"); (case k1 => walk_at "ar"); (case k2 => assumption))
  | (refine' v_letters ?k0 ?k1 ?k2; (case k0 => walk_at "sq"); (case k1 => walk_at "ar"); (case k2 => assumption))
  | (refine' v_l_places ?k0 ?k1 ?k2; (case k0 => walk_at "sq"); (case k1 => walk_at "ar"); (case k2 => assumption))
  | (refine' v_fits ?k0 ?k1 ?k2 ?k3; (case k0 => walk_at "sq"); (case k1 => walk_at "ar"); (case k2 => walk_at "ar"); (case k3 => walk_at "ar"))
  | (refine' v_none ?k0 ?k1 ?k2; (case k0 => walk_at "sq"); (case k1 => walk_at "ar"); (case k2 => walk_at "ar")))
local macro_rules | `(tactic| walk_at "sp") => `(tactic| first
  | (refine' v_turned ?k0 ?k1 ?k2; (case k0 => walk_at "sq"); (case k1 => walk_at "ar"); (case k2 => assumption))
  | (refine' v_same ?k0 ?k1 ?k2; (case k0 => walk_at "hl"); (case k1 => walk_at "sq"); (case k2 => walk_at "ar"))
  | (refine' v_told ?k0 ?k1 ?k2; (case k0 => walk_at "sq"); (case k1 => walk_at "hl"); (case k2 => assumption))
  | (refine' v_parted ?k0 ?k1 ?k2 ?k3; (case k0 => walk_at "sq"); (case k1 => walk_at "ar"); (case k2 => walk_at "ar"); (case k3 => assumption)))
local macro_rules | `(tactic| walk_at "sp") => `(tactic| first
  | (refine' v_is_pile ?k0 ?k1 ?k2 ?k3; (case k0 => walk_at "hl"); (case k1 => assumption); (case k2 => walk_at "ar"); (case k3 => walk_at "ar")))
local macro_rules | `(tactic| walk_at "sp") => `(tactic| first
  | (refine' v_held ?k0 ?k1 ?k2 ?k3 ?k4 ?k5; (case k0 => walk_at "sq"); (case k1 => walk_at "st"); (case k2 => walk_at "ar"); (case k3 => (refine ⟨?_, ?_⟩ <;> walk_at "ar")); (case k4 => (refine ⟨?_, ?_⟩ <;> walk_at "ar")); (case k5 => (refine ⟨?_, ?_⟩ <;> walk_at "ar")))
  | (refine' v_l_held ?k0 ?k1 ?k2 ?k3 ?k4; (case k0 => walk_at "sq"); (case k1 => walk_at "ar"); (case k2 => (refine ⟨?_, ?_⟩ <;> walk_at "ar")); (case k3 => (refine ⟨?_, ?_⟩ <;> walk_at "ar")); (case k4 => (refine ⟨?_, ?_⟩ <;> walk_at "ar")))
  | (refine' v_lies ?k0 ?k1 ?k2 ?k3 ?k4; (case k0 => walk_at "sq"); (case k1 => walk_at "st"); (case k2 => walk_at "ar"); (case k3 => (refine ⟨?_, ?_⟩ <;> walk_at "ar")); (case k4 => (refine ⟨?_, ?_⟩ <;> walk_at "ar")))
  | (refine' v_judged ?k0 ?k1 ?k2 ?k3; (case k0 => walk_at "sq"); (case k1 => walk_at "ar"); (case k2 => assumption); (case k3 => assumption))
  | (refine' v_l_free ?k0 ?k1 ?k2 ?k3 ?k4 ?k5; (case k0 => walk_at "sq"); (case k1 => walk_at "sq"); (case k2 => walk_at "ar"); (case k3 => walk_at "ar"); (case k4 => walk_at "ar"); (case k5 => assumption))
  | (refine' v_are_free ?k0 ?k1 ?k2 ?k3 ?k4 ?k5; (case k0 => walk_at "sq"); (case k1 => walk_at "sq2"); (case k2 => walk_at "ar"); (case k3 => walk_at "ar"); (case k4 => walk_at "ar"); (case k5 => assumption)))
section
variable {K : PySem.W.Frag} {c : Cs}
theorem ev_notInIU {σ : L2.St} {H : Hp} {ta tb : TE} {ns : List Int} {i : Int} (ha : Ev ta σ H (.int i)) (hb : EvU tb σ H (ns.map V.int)) : Ev (tOp (rIn K true) ta tb) σ H (.bl (!decide (i ∈ ns))) := fun H1 e Q q =>
  ha H1 e _ fun H2 e2 => hb H2 (e.trans e2) _ fun p H3 hp e3 h3 =>
    ev_notInI (K := K) (ta := tC (.int i)) (tb := tC (.ref p)) (σ := σ) (H := H3) ev_c ev_c (.inr (st_of h3)) H3 (Ex.refl H3) Q fun H4 e4 => q H4 ((e2.trans e3).trans e4)
theorem ev_callLL {sp : Sp} {E : XK} {ta te : TE} {σ : L2.St} {H : Hp} {xs ys : List V} {z : V} (h1 : EvL ta σ H xs) (h : EvL te σ H ys) (hs : ∀ p q H1, H1 p = some (.lst xs) → H1 q = some (.lst ys) → Ex H H1 → SpV sp [.ref p, .ref q] H1 z) : Ev (tCall sp [] E (tCons ta (tCons te tNil))) σ H z := fun H1 e Q k =>
  h1 H1 e _ fun p H2 hp e2 h2 => h H2 (e.trans e2) _ fun q H3 hq e3 h3 => by
    show sp ([.ref p, .ref q] ++ []) H3 Q E
    exact hs p q H3 (e3 p _ h2) h3 ((e.trans e2).trans e3) H3 (Ex.refl H3) Q (fun H4 e4 => k H4 ((e2.trans e3).trans e4)) E
theorem ev_callLV {sp : Sp} {E : XK} {ta te : TE} {σ : L2.St} {H : Hp} {xs : List V} {y z : V} (h1 : EvL ta σ H xs) (h : Ev te σ H y) (hs : ∀ p H1, H1 p = some (.lst xs) → Ex H H1 → SpV sp [.ref p, y] H1 z) : Ev (tCall sp [] E (tCons ta (tCons te tNil))) σ H z := fun H1 e Q k =>
  h1 H1 e _ fun p H2 hp e2 h2 => h H2 (e.trans e2) _ fun H3 e3 => by
    show sp ([.ref p, y] ++ []) H3 Q E
    exact hs p H3 (e3 p _ h2) ((e.trans e2).trans e3) H3 (Ex.refl H3) Q (fun H4 e4 => k H4 ((e2.trans e3).trans e4)) E
theorem read_l_step (vs : List V) (H : Hp) (Q : VK) (E : XK) (h : sp_l_step K c vs H Q E) : t_l_step K c E { nx := fun _ H' => Q .non H', rt := Q } (start ["_law_step_here", "_law_size_here", "_law_loose", "_law_crease"] vs) H := by
  obtain ⟨t, a, s, ds, n, rfl, ht, ha, hk, hb, q⟩ := h
  have hsl : s.length = 1 ∨ s.length = 2 := by
    rcases hk with ⟨x, rfl⟩ | ⟨x, y, rfl, _⟩ <;> simp
  have e1 : (s.map V.int).length = s.length := List.length_map _
  refine Go.here (g_no (et_is (et_or (et_not (et_B (ev_isiU (ev_var rfl) ht))) fun _ => et_test (ev_notInIU (ns := [1, 2]) (i := ((s.map V.int).length : Int)) (ev_lenT (ev_var rfl) (st_of ht)) (eu_tup (ea_cons ev_c (ea_cons ev_c ea_nil)) (Nat.le_of_ble_eq_true rfl)))) ?_) (g_nextS ?_))
  · rw [e1]
    rcases hsl with z | z <;> rw [z] <;> rfl
  refine g_forU (ns := s) (ev_var rfl) ht (fun i σ H' => ∃ y : Option V, σ = [some (.ref t), some (.int n), some (.ref a), y] ∧ Ex H H') (fun H1 e => ⟨none, rfl, e⟩) (fun i σ H' hP => ?_) (fun i x σ H' hx hP => ?_) (fun σ H' hP => ?_)
  · obtain ⟨_, _, e⟩ := hP
    exact e t _ ht
  · obtain ⟨y, rfl, e⟩ := hP
    obtain ⟨b0, b1, b2⟩ := hb x (List.mem_of_getElem? hx)
    refine g_no (et_is (et_or (et_not (et_B (ev_callD (vs := [.int x]) (ea_cons (ev_var rfl) ea_nil) v_counts))) fun _ => et_or (et_test (ev_lt (ev_var rfl) ev_c)) fun _ => et_or (et_test (ev_gt (ev_var rfl) (ev_sub (ev_var rfl) ev_c))) fun _ => et_test (ev_inI (ev_var rfl) (ev_var rfl) (.inl (ex_l e ha)))) ?_) (g_nextS ?_)
    · simp only [Bool.not_true, Bool.false_or, Bool.or_eq_false_iff, decide_eq_false_iff_not]
      exact ⟨by omega, by omega, b2⟩
    · exact g_next fun H4 e4 => ⟨_, rfl, e.trans e4⟩
  · obtain ⟨y, rfl, e⟩ := hP
    rcases hk with ⟨x, rfl⟩ | ⟨x, z, rfl, hxz⟩
    · refine g_ret (v := .bl true) (ev_is (ev_orV (a := true) (b := true) (ev_eqI (ev_lenT (ev_var rfl) (st_of (e t _ ht))) ev_c) fun hb => ?_) ?_) fun H1 e1 => q H1 (e.trans e1)
      · exact Bool.noConfusion hb
      · rfl
    · refine g_ret (v := .bl true) (ev_is (ev_orV (ev_eqI (ev_lenT (ev_var rfl) (st_of (e t _ ht))) ev_c) fun hb => ev_lt (ev_ixT (ev_var rfl) ev_c (st_of (e t _ ht)) rfl) (ev_ixT (ev_var rfl) ev_c (st_of (e t _ ht)) rfl)) ?_) fun H1 e1 => q H1 (e.trans e1)
      simp [hxz]
theorem read_l_found (vs : List V) (H : Hp) (Q : VK) (E : XK) (h : sp_l_found K c vs H Q E) : t_l_found K c E { nx := fun _ H' => Q .non H', rt := Q } (start ["_law_found", "_law_due", "_law_k"] vs) H := by
  obtain ⟨a, b, ns, rfl, ha, hb, hlen, q⟩ := h
  refine Go.here (g_no (et_is (by walk_at "et") (by simp)) (g_nextS ?_))
  refine g_forR1 (n := (ns.length : Int)) (by walk_at "ea") (by omega) (fun k σ H' => ∃ y : Option V, σ = [some (.ref a), some (.ref b), y] ∧ Ex H H') (fun H2 e2 => ⟨none, rfl, e2⟩) (fun k σ H' hk hP => ?_) (fun σ H' hP => ?_) (by omega)
  · obtain ⟨y, rfl, e⟩ := hP
    refine g_no (et_is (by walk_at "et") (by simp)) (g_nextS ?_)
    exact g_next fun H4 e4 => ⟨_, rfl, e.trans e4⟩
  · obtain ⟨y, rfl, e⟩ := hP
    exact g_ret (v := .bl true) ev_c fun H4 e4 => q H4 (e.trans e4)
/-- a loop over reversed(a list that stands) -/
theorem g_forRv {tl : TE} {σ : L2.St} {H : Hp} {D : Ends} {tu tz : TS} {j : Nat} {a : Addr} {xs : List V} (h : Ev tl σ H (.ref a)) (hx : SqL K H a xs) (Pv : Nat → L2.St → Hp → Prop) (h0 : ∀ H1, Ex H H1 → Pv 0 σ H1) (hl : ∀ i σ' H', Pv i σ' H' → SqL K H' a xs)
    (hs : ∀ (i : Nat) x σ' H', i < xs.length → xs[xs.length - 1 - i]? = some x → Pv i σ' H' → Go tu { D with nx := Pv (i + 1), ct := Pv (i + 1), bk := tz D } (σ'.set j (some x)) H') (hd : ∀ σ' H', Pv xs.length σ' H' → Go tz D σ' H') : Go (tSeq (tFor (iRev K (tCons tl tNil)) (gName j) tu) tz) D σ H := fun H0 e0 =>
  h H0 e0 _ fun H1 e => ⟨a, xs, rfl, ex_l (e0.trans e) hx, RT.for_Itv Pv (h0 H1 (e0.trans e)) hl (fun i x σ' H' hi hx' p => (hs i x σ' H' hi hx' p).here) (fun σ' H' p => (hd σ' H' p).here)⟩
end
end Fo
/-! FoldR19 -/
namespace Fo
open PySem L2 Evl
local macro_rules | `(tactic| walk_at "hl") => `(tactic| first
  | assumption
  | exact upd_same
  | (refine (by assumption : Ex _ _) _ _ ?_; walk_at "hl"))
local macro_rules | `(tactic| walk_at "sq") => `(tactic| first
  | assumption
  | (refine sq_lst ?_; walk_at "hl")
  | (refine ex_l (by assumption) ?_; walk_at "sq"))
local macro_rules | `(tactic| walk_at "st") => `(tactic| first
  | assumption
  | (refine st_of ?_; walk_at "hl")
  | (refine ex_t (by assumption) ?_; walk_at "st"))
local macro_rules | `(tactic| walk_at "sq2") => `(tactic| first
  | assumption
  | (refine Or.inl ?_; walk_at "sq")
  | (refine Or.inr ?_; walk_at "st")
  | (refine Sq2.mono (by assumption) ?_; walk_at "sq2"))
local macro_rules | `(tactic| walk_at "ar") => `(tactic| first
  | assumption
  | omega
  | decide)
local macro_rules | `(tactic| walk_at "lar") => `(tactic| first
  | omega
  | (simp only [List.length_append, List.length_map, List.length_take, List.length_drop, List.length_cons, List.length_nil, List.length_replicate]; omega))
local macro_rules | `(tactic| walk_at "hb") => `(tactic| first
  | skip)
local macro_rules | `(tactic| walk_at "mul") => `(tactic| first
  | (exact Or.inr ⟨by decide, by decide⟩)
  | (exact Or.inl ⟨by decide, by decide⟩)
  | (exact Or.inl ⟨by omega, by omega⟩)
  | (exact Or.inr ⟨by omega, by omega⟩))
local macro_rules | `(tactic| walk_at "div") => `(tactic| first
  | (exact ⟨by decide, by decide⟩)
  | (exact ⟨by omega, by omega⟩))
local macro_rules | `(tactic| walk_at "ea") => `(tactic| first
  | exact ea_nil
  | ((with_reducible refine' ea_cons ?k0 ?k1); (case k0 => walk_at "ev"); (case k1 => walk_at "ea")))
local macro_rules | `(tactic| walk_at "eo") => `(tactic| first
  | exact eo_none
  | ((with_reducible refine' eo_some ?k0); (case k0 => walk_at "ev")))
local macro_rules | `(tactic| walk_at "el") => `(tactic| first
  | ((with_reducible refine' el_lst ?k0 ?k1); (case k0 => walk_at "ea"); (case k1 => (exact Nat.le_of_ble_eq_true rfl)))
  | ((with_reducible refine' el_from ?k0 ?k1 ?k2 ?k3 ?k4); (case k0 => walk_at "ev"); (case k1 => walk_at "eo"); (case k2 => walk_at "sq"); (case k3 => walk_at "ar"); (case k4 => walk_at "lar"))
  | ((with_reducible refine' el_upto ?k0 ?k1 ?k2 ?k3 ?k4); (case k0 => walk_at "ev"); (case k1 => walk_at "eo"); (case k2 => walk_at "sq"); (case k3 => walk_at "ar"); (case k4 => walk_at "lar"))
  | ((with_reducible refine' el_rep1 ?k0 ?k1 ?k2 ?k3); (case k0 => walk_at "el"); (case k1 => walk_at "ev"); (case k2 => walk_at "ar"); (case k3 => walk_at "ar"))
  | ((with_reducible refine' el_cat ?k0 ?k1 ?k2); (case k0 => walk_at "el"); (case k1 => walk_at "el"); (case k2 => walk_at "lar"))
  | ((with_reducible refine' el_callD ?k0 ?k1); (case k0 => walk_at "ea"); (case k1 => walk_at "sp"))
  | ((with_reducible refine' el_list ?k0 ?k1); (case k0 => walk_at "ev"); (case k1 => walk_at "sq"))
  | ((with_reducible refine' el_srt ?k0 ?k1); (case k0 => walk_at "ev"); (case k1 => walk_at "sq"))
  | ((with_reducible refine' el_sortedQ ?k0 ?k1); (case k0 => walk_at "ev"); (case k1 => walk_at "sq2"))
  | ((with_reducible refine' el_rev ?k0 ?k1); (case k0 => walk_at "ev"); (case k1 => walk_at "sq"))
  | ((with_reducible refine' el_step ?k0 ?k1 ?k2); (case k0 => walk_at "ev"); (case k1 => walk_at "eo"); (case k2 => walk_at "sq")))
local macro_rules | `(tactic| walk_at "et") => `(tactic| first
  | ((with_reducible refine' et_test ?k0); (case k0 => walk_at "ev"))
  | ((with_reducible refine' et_B ?k0); (case k0 => walk_at "ev"))
  | ((with_reducible refine' et_not ?k0); (case k0 => walk_at "et"))
  | ((with_reducible refine' et_and ?k0 (fun hb => ?k1)); (case k0 => walk_at "et"); (case k1 => (walk_at "hb"; walk_at "et")))
  | ((with_reducible refine' et_or ?k0 (fun hb => ?k1)); (case k0 => walk_at "et"); (case k1 => (walk_at "hb"; walk_at "et"))))
local macro_rules | `(tactic| walk_at "ev") => `(tactic| first
  | ((with_reducible refine' ev_var ?k0); (case k0 => rfl))
  | exact ev_c
  | ((with_reducible refine' ev_add ?k0 ?k1); (case k0 => walk_at "ev"); (case k1 => walk_at "ev"))
  | ((with_reducible refine' ev_sub ?k0 ?k1); (case k0 => walk_at "ev"); (case k1 => walk_at "ev"))
  | ((with_reducible refine' ev_ixI ?k0 ?k1 ?k2 ?k3 ?k4); (case k0 => walk_at "ev"); (case k1 => walk_at "ev"); (case k2 => walk_at "sq"); (case k3 => walk_at "ar"); (case k4 => walk_at "ar"))
  | ((with_reducible refine' ev_ixT ?k0 ?k1 ?k2 ?k3); (case k0 => walk_at "ev"); (case k1 => walk_at "ev"); (case k2 => walk_at "st"); (case k3 => rfl))
  | ((with_reducible refine' ev_lt ?k0 ?k1); (case k0 => walk_at "ev"); (case k1 => walk_at "ev"))
  | ((with_reducible refine' ev_gt ?k0 ?k1); (case k0 => walk_at "ev"); (case k1 => walk_at "ev"))
  | ((with_reducible refine' ev_le ?k0 ?k1); (case k0 => walk_at "ev"); (case k1 => walk_at "ev"))
  | ((with_reducible refine' ev_ge ?k0 ?k1); (case k0 => walk_at "ev"); (case k1 => walk_at "ev"))
  | ((with_reducible refine' ev_eqI ?k0 ?k1); (case k0 => walk_at "ev"); (case k1 => walk_at "ev"))
  | ((with_reducible refine' ev_neI ?k0 ?k1); (case k0 => walk_at "ev"); (case k1 => walk_at "ev"))
  | ((with_reducible refine' ev_eqB ?k0 ?k1); (case k0 => walk_at "ev"); (case k1 => walk_at "ev"))
  | ((with_reducible refine' ev_neB ?k0 ?k1); (case k0 => walk_at "ev"); (case k1 => walk_at "ev"))
  | ((with_reducible refine' ev_eqS ?k0 ?k1); (case k0 => walk_at "ev"); (case k1 => walk_at "ev"))
  | ((with_reducible refine' ev_neS ?k0 ?k1); (case k0 => walk_at "ev"); (case k1 => walk_at "ev"))
  | ((with_reducible refine' ev_mod ?k0 ?k1 ?k2); (case k0 => walk_at "ev"); (case k1 => walk_at "ev"); (case k2 => walk_at "ar"))
  | ((with_reducible refine' ev_mul ?k0 ?k1 ?k2); (case k0 => walk_at "ev"); (case k1 => walk_at "ev"); (case k2 => walk_at "mul"))
  | ((with_reducible refine' ev_div ?k0 ?k1 ?k2); (case k0 => walk_at "ev"); (case k1 => walk_at "ev"); (case k2 => walk_at "div"))
  | ((with_reducible refine' ev_neg ?k0); (case k0 => walk_at "ev"))
  | ((with_reducible refine' ev_callD ?k0 ?k1); (case k0 => walk_at "ea"); (case k1 => walk_at "sp"))
  | ((with_reducible refine' ev_lenI ?k0 ?k1); (case k0 => walk_at "ev"); (case k1 => walk_at "sq"))
  | ((with_reducible refine' ev_lenQ ?k0 ?k1); (case k0 => walk_at "ev"); (case k1 => walk_at "sq2"))
  | ((with_reducible refine' ev_lenSet ?k0 ?k1 ?k2); (case k0 => walk_at "ev"); (case k1 => walk_at "sq2"); (case k2 => walk_at "ar"))
  | ((with_reducible refine' ev_inI ?k0 ?k1 ?k2); (case k0 => walk_at "ev"); (case k1 => walk_at "ev"); (case k2 => walk_at "sq2"))
  | ((with_reducible refine' ev_notInI ?k0 ?k1 ?k2); (case k0 => walk_at "ev"); (case k1 => walk_at "ev"); (case k2 => walk_at "sq2"))
  | ((with_reducible refine' ev_lenTxt ?k0 ?k1); (case k0 => walk_at "ev"); (case k1 => walk_at "ar"))
  | ((with_reducible refine' ev_lenS ?k0 ?k1); (case k0 => walk_at "ev"); (case k1 => walk_at "ar"))
  | ((with_reducible refine' ev_ixTxt ?k0 ?k1 ?k2 ?k3 ?k4); (case k0 => walk_at "ev"); (case k1 => walk_at "ev"); (case k2 => walk_at "ar"); (case k3 => walk_at "ar"); (case k4 => walk_at "ar"))
  | ((with_reducible refine' ev_ix2 ?k0); (case k0 => walk_at "ev"))
  | ((with_reducible refine' ev_isiI ?k0); (case k0 => walk_at "ev"))
  | ((with_reducible refine' ev_isiL ?k0 ?k1); (case k0 => walk_at "ev"); (case k1 => walk_at "hl"))
  | ((with_reducible refine' ev_isiU ?k0 ?k1); (case k0 => walk_at "ev"); (case k1 => walk_at "hl"))
  | ((with_reducible refine' ev_isiS ?k0); (case k0 => walk_at "ev"))
  | ((with_reducible refine' ev_isiB ?k0); (case k0 => walk_at "ev"))
  | ((with_reducible refine' ev_isN ?k0); (case k0 => walk_at "ev"))
  | ((with_reducible refine' ev_notN ?k0); (case k0 => walk_at "ev"))
  | ((with_reducible refine' ev_notIB ?k0 ?k1); (case k0 => walk_at "ev"); (case k1 => walk_at "ev"))
  | ((with_reducible refine' ev_neNil ?k0 ?k1); (case k0 => walk_at "ev"); (case k1 => walk_at "sq"))
  | ((with_reducible refine' ev_eqNil ?k0 ?k1); (case k0 => walk_at "ev"); (case k1 => walk_at "sq"))
  | ((with_reducible refine' ev_eqL ?k0 ?k1 ?k2 ?k3); (case k0 => walk_at "ev"); (case k1 => walk_at "ev"); (case k2 => walk_at "sq"); (case k3 => walk_at "sq"))
  | ((with_reducible refine' ev_neL ?k0 ?k1 ?k2 ?k3); (case k0 => walk_at "ev"); (case k1 => walk_at "ev"); (case k2 => walk_at "sq"); (case k3 => walk_at "sq"))
  | ((with_reducible refine' ev_min2 ?k0 ?k1); (case k0 => walk_at "ev"); (case k1 => walk_at "ev"))
  | ((with_reducible refine' ev_max2 ?k0 ?k1); (case k0 => walk_at "ev"); (case k1 => walk_at "ev"))
  | ((with_reducible refine' ev_intB ?k0); (case k0 => walk_at "ev"))
  | ((with_reducible refine' ev_andV ?k0 (fun hb => ?k1)); (case k0 => walk_at "ev"); (case k1 => (walk_at "hb"; walk_at "ev")))
  | ((with_reducible refine' ev_orV ?k0 (fun hb => ?k1)); (case k0 => walk_at "ev"); (case k1 => (walk_at "hb"; walk_at "ev")))
  | ((with_reducible refine' ev_notV ?k0); (case k0 => walk_at "ev"))
  | ((with_reducible refine' ev_ifI ?k0 (fun hb => ?k1) (fun hb => ?k2)); (case k0 => walk_at "et"); (case k1 => (walk_at "hb"; walk_at "ev")); (case k2 => (walk_at "hb"; walk_at "ev")))
  | ((with_reducible refine' ev_ifS ?k0 (fun hb => ?k1) (fun hb => ?k2)); (case k0 => walk_at "et"); (case k1 => (walk_at "hb"; walk_at "ev")); (case k2 => (walk_at "hb"; walk_at "ev"))))
local macro_rules | `(tactic| walk_at "hb") => `(tactic| (try simp only [decide_eq_true_eq, decide_eq_false_iff_not, Bool.and_eq_true, Bool.or_eq_true, Bool.or_eq_false_iff, Bool.not_eq_true', Bool.not_eq_false', beq_iff_eq] at *))
local macro_rules | `(tactic| walk_at "sp") => `(tactic| first
  | (refine' v_number ?k0 ?k1 ?k2; (case k0 => walk_at "sq"); (case k1 => walk_at "ar"); (case k2 => walk_at "ar"))
  | (refine' v_drawn ?k0 ?k1; (case k0 => walk_at "sq"); (case k1 => walk_at "ar"))
  | exact v_size
  | exact v_counts
  | (refine' v_wraps ?k0 ?k1 ?k2 ?k3 ?k4; (case k0 => walk_at "sq"); (case k1 => walk_at "ar"); (case k2 => walk_at "ar"); (case k3 => walk_at "ar"); (case k4 => walk_at "ar"))
  | (refine' v_l_wraps ?k0 ?k1 ?k2 ?k3 ?k4; (case k0 => walk_at "sq"); (case k1 => walk_at "ar"); (case k2 => walk_at "ar"); (case k3 => walk_at "ar"); (case k4 => walk_at "ar"))
  | (refine' v_cross ?k0 ?k1 ?k2 ?k3 ?k4; (case k0 => walk_at "sq"); (case k1 => walk_at "ar"); (case k2 => walk_at "ar"); (case k3 => walk_at "ar"); (case k4 => walk_at "ar"))
  | (refine' v_places ?k0 ?k1 ?k2; (case k0 => walk_at "sq"); (case k1 => walk_at "ar"); (case k2 => assumption))
  | (refine' v_letters ?k0 ?k1 ?k2; (case k0 => walk_at "sq"); (case k1 => walk_at "ar"); (case k2 => assumption))
  | (refine' v_l_places ?k0 ?k1 ?k2; (case k0 => walk_at "sq"); (case k1 => walk_at "ar"); (case k2 => assumption))
  | (refine' v_fits ?k0 ?k1 ?k2 ?k3; (case k0 => walk_at "sq"); (case k1 => walk_at "ar"); (case k2 => walk_at "ar"); (case k3 => walk_at "ar"))
  | (refine' v_none ?k0 ?k1 ?k2; (case k0 => walk_at "sq"); (case k1 => walk_at "ar"); (case k2 => walk_at "ar")))
local macro_rules | `(tactic| walk_at "sp") => `(tactic| first
  | (refine' v_turned ?k0 ?k1 ?k2; (case k0 => walk_at "sq"); (case k1 => walk_at "ar"); (case k2 => assumption))
  | (refine' v_same ?k0 ?k1 ?k2; (case k0 => walk_at "hl"); (case k1 => walk_at "sq"); (case k2 => walk_at "ar"))
  | (refine' v_told ?k0 ?k1 ?k2; (case k0 => walk_at "sq"); (case k1 => walk_at "hl"); (case k2 => assumption))
  | (refine' v_parted ?k0 ?k1 ?k2 ?k3; (case k0 => walk_at "sq"); (case k1 => walk_at "ar"); (case k2 => walk_at "ar"); (case k3 => assumption)))
local macro_rules | `(tactic| walk_at "sp") => `(tactic| first
  | (refine' v_is_pile ?k0 ?k1 ?k2 ?k3; (case k0 => walk_at "hl"); (case k1 => assumption); (case k2 => walk_at "ar"); (case k3 => walk_at "ar")))
local macro_rules | `(tactic| walk_at "sp") => `(tactic| first
  | (refine' v_held ?k0 ?k1 ?k2 ?k3 ?k4 ?k5; (case k0 => walk_at "sq"); (case k1 => walk_at "st"); (case k2 => walk_at "ar"); (case k3 => (refine ⟨?_, ?_⟩ <;> walk_at "ar")); (case k4 => (refine ⟨?_, ?_⟩ <;> walk_at "ar")); (case k5 => (refine ⟨?_, ?_⟩ <;> walk_at "ar")))
  | (refine' v_l_held ?k0 ?k1 ?k2 ?k3 ?k4; (case k0 => walk_at "sq"); (case k1 => walk_at "ar"); (case k2 => (refine ⟨?_, ?_⟩ <;> walk_at "ar")); (case k3 => (refine ⟨?_, ?_⟩ <;> walk_at "ar")); (case k4 => (refine ⟨?_, ?_⟩ <;> walk_at "ar")))
  | (refine' v_lies ?k0 ?k1 ?k2 ?k3 ?k4; (case k0 => walk_at "sq"); (case k1 => walk_at "st"); (case k2 => walk_at "ar"); (case k3 => (refine ⟨?_, ?_⟩ <;> walk_at "ar")); (case k4 => (refine ⟨?_, ?_⟩ <;> walk_at "ar")))
  | (refine' v_judged ?k0 ?k1 ?k2 ?k3; (case k0 => walk_at "sq"); (case k1 => walk_at "ar"); (case k2 => assumption); (case k3 => assumption))
  | (refine' v_l_free ?k0 ?k1 ?k2 ?k3 ?k4 ?k5; (case k0 => walk_at "sq"); (case k1 => walk_at "sq"); (case k2 => walk_at "ar"); (case k3 => walk_at "ar"); (case k4 => walk_at "ar"); (case k5 => assumption))
  | (refine' v_are_free ?k0 ?k1 ?k2 ?k3 ?k4 ?k5; (case k0 => walk_at "sq"); (case k1 => walk_at "sq2"); (case k2 => walk_at "ar"); (case k3 => walk_at "ar"); (case k4 => walk_at "ar"); (case k5 => assumption)))
section
variable {K : PySem.W.Frag} {c : Cs}
theorem s_loose {H : Hp} {b la lo ld : Addr} {ds : List Int} (hc : BenchC K c) (hb : InsB c H b la lo ld) (hd : H ld = some (.lst (ds.map V.int))) : SpL (sp_Bench_loose K c) [.ref b] H ((srt ds).map V.int) := fun H1 e Q q E => ⟨b, la, lo, ld, ds, rfl, hc, hb.mono e, e ld _ hd, q⟩
theorem s_parts {H : Hp} {b la lo ld : Addr} {ns ps ds : List Int} (hc : BenchC K c) (hb : InsB c H b la lo ld) (ha : H la = some (.lst (ps.map V.int))) (ho : H lo = some (.lst (ns.map V.int))) (hd : H ld = some (.lst (ds.map V.int))) (h1 : ps.length ≤ 1000) (h2 : ns.length ≤ 1000) (h3 : ds.length ≤ 1000) : SpW (sp_Bench_parts K c) [.ref b] H (partRows ns (ps.length : Int) ds) := fun H1 e Q q E => ⟨b, la, lo, ld, ns, ps, ds, rfl, hc, hb.mono e, e la _ ha, e lo _ ho, e ld _ hd, h1, h2, h3, q⟩
theorem st_get {H : Hp} {ts : List Addr} {ss : List (List Int)} (h : StepT H ts ss) {i : Nat} {x : V} (hx : (ts.map V.ref)[i]? = some x) : ∃ t s, x = .ref t ∧ ts[i]? = some t ∧ ss[i]? = some s ∧ H t = some (.tup (s.map V.int)) := by
  rw [List.getElem?_map] at hx
  cases ht : ts[i]? with
  | none =>
    rw [ht] at hx
    cases hx
  | some t =>
    rw [ht] at hx
    cases hx
    have h1 := (List.getElem?_eq_some_iff.mp ht).1
    have h2 := h.1
    have hs : ss[i]? = some (ss[i]'(by omega)) := List.getElem?_eq_getElem (by omega)
    exact ⟨t, _, rfl, rfl, hs, h.2 i t _ ht hs⟩
theorem ne_insT {H : Hp} {b la lo ld l : Addr} {xs : List V} (h : InsB c H b la lo ld) (hl : H l = some (.tup xs)) : l ≠ b := fun z => by
  obtain ⟨dx, q⟩ := h
  rw [z, q] at hl
  cases hl
theorem read_l_apart (vs : List V) (H : Hp) (Q : VK) (E : XK) (h : sp_l_apart K c vs H Q E) : t_l_apart K c E { nx := fun _ H' => Q .non H', rt := Q } (start ["_law_bench", "_law_at", "_law_steps", "_law_loose", "_law_step_here", "_law_parts", "_law_k"] vs) H := by
  obtain ⟨b, a, r, la, lo, ld, ns, ts, ss, rfl, hc, hb, pp, hl, hla, hlo, hld, ha, hr, hst, st, hfl, q⟩ := h
  have hpl := pl_len ns
  have hps := pp.pos
  have nab := ne_ins hb ha
  have nrb := ne_ins hb hr
  have nlab := ne_ins hb hla
  have nlob := ne_ins hb hlo
  refine Go.here (g_asgL (xs := []) (el_lst ea_nil (Nat.zero_le _)) fun l0 H1 hl0 e1 hll0 => ?_)
  refine g_forL (K := K) (a := r) (xs := ts.map V.ref) (ev_var rfl) (sq_lst (e1 r _ hr)) (fun i σ H' => ∃ (y4 : Option V) (w d : Addr), σ = [some (.ref b), some (.ref a), some (.ref r), some (.ref w), y4, none, none] ∧ OffB b H H' ∧ InsB c H' b la lo d ∧ H' d = some (.lst ((ss.take i).flatten.map V.int)) ∧ H' w = some (.lst ((ss.take i).flatten.map V.int)))
    (fun H2 e2 => ⟨none, l0, ld, rfl, OffB.of (e1.trans e2), hb.mono (e1.trans e2), (e1.trans e2) ld _ hld, e2 l0 _ hll0⟩) (fun i σ H' _ hP => ?_) (fun i x σ H' hx hP => ?_) (fun σ H' hP => ?_)
  · obtain ⟨_, _, _, _, o, _⟩ := hP
    exact sq_lst (o r _ nrb hr)
  · obtain ⟨y4, w, d, rfl, o, hi, hd, hw⟩ := hP
    obtain ⟨t, s, rfl, hti, hsi, htt⟩ := st_get hst hx
    have ht := o t _ (ne_insT hb htt) htt
    have hst1 := st.ok (i + 1) (by have := (List.getElem?_eq_some_iff.mp hsi).1; omega)
    have hk0 := (st.ok i (by have := (List.getElem?_eq_some_iff.mp hsi).1; omega)).1
    have efl : (ss.take (i + 1)).flatten = (ss.take i).flatten ++ s := by
      rw [take_more hsi]
      simp
    rw [efl] at hst1
    obtain ⟨hcr, hfr⟩ := hst1
    have hkind := st.kind s (List.mem_of_getElem? hsi)
    have hll : ((ss.take i).flatten ++ s).length ≤ ns.length := php ns.length _ hcr.nd fun x hx => by
      have := hcr.bnd x hx
      omega
    have hsp := List.nodup_append.mp hcr.nd
    have hbs : ∀ x ∈ s, 0 ≤ x ∧ x ≤ ((pl ns).length : Int) - 2 ∧ x ∉ (ss.take i).flatten := fun x hx => ⟨(hcr.bnd x (List.mem_append_right _ hx)).1, (hcr.bnd x (List.mem_append_right _ hx)).2, fun hy => hsp.2.2 x hy x hx rfl⟩
    generalize (ss.take i).flatten = D0 at *
    rw [List.length_append] at hll
    have ha' := o a _ nab ha
    have hla' := o la _ nlab hla
    refine g_no (et_is (et_not (et_B (ev_callD (vs := [.ref t, .int ((pl ns).length : Int), .ref w]) (ea_cons (ev_var rfl) (ea_cons (ev_lenI (ev_var rfl) (sq_lst ha')) (ea_cons (ev_var rfl) ea_nil))) (v_l_step ht (sq_lst hw) hkind hbs)))) rfl) (g_nextS ?_)
    refine g_asgL (xs := D0.map V.int ++ s.map V.int) (el_catV (ev_var rfl) hw (el_listQ (ev_var rfl) (.inr (st_of ht))) (by simp only [List.length_map]; omega)) fun w2 H2 hw2 e2 hlw2 => ?_
    rw [← List.map_append] at hlw2
    refine g_no (et_is (et_not (et_B (ev_callD (vs := [.ref a, .ref w2]) (ea_cons (ev_var rfl) (ea_cons (ev_var rfl) ea_nil)) (v_l_free (sq_lst (e2 a _ ha')) (sq_lst hlw2) (by omega) (by omega) (by rw [List.length_append]; omega) hcr.bnd)))) (by rw [hfr]; rfl)) (g_nextS ?_)
    refine g_meth1 (m := "draw") (x := .ref t) (by decide +kernel) (by decide +kernel) (by decide +kernel) (ev_var rfl) (hi.mono e2) (ev_var rfl) fun H3 e3 => ?_
    have e23 := e2.trans e3
    refine ⟨b, t, la, lo, d, pl ns, D0, s, rfl, hc, hi.mono e23, e23 la _ hla', e23 d _ hd, .inr (st_of (e23 t _ ht)), by omega, by omega, by omega, by omega, hk0.bnd, .yes ⟨fun x hx => ⟨(hbs x hx).1, (hbs x hx).2.1⟩, hsp.2.1⟩ (.yes ⟨fun x hx => (hbs x hx).2.2, hfr⟩ fun H4 d2 o4 i4 hdn hd4 => ?_)⟩
    have nw2 : w2 ≠ b := ne_ins (hi.mono e2) hlw2
    have hw4 := o4 w2 _ nw2 (e3 w2 _ hlw2)
    refine Go.here (g_no (et_is (et_not (et_B (ev_callLL (xs := (srt (D0 ++ s)).map V.int) (ys := (srt (D0 ++ s)).map V.int) (el_meth (by decide +kernel) (by decide +kernel) (by decide +kernel) (ev_var rfl) i4 (s_loose hc i4 hd4)) (el_srt (ev_var rfl) (sq_lst hw4)) fun p q H5 hp hq e5 => v_found hp (sq_lst hq) (by rw [srt_len, List.length_append]; omega)))) rfl) (g_nextS ?_))
    refine g_next fun H6 e6 => ⟨_, w2, d2, rfl, fun a2 o2 h1 h2 => e6 a2 o2 (o4 a2 o2 h1 (e23 a2 o2 (o a2 o2 h1 h2))), i4.mono e6, ?_, ?_⟩
    · rw [efl]
      exact e6 d2 _ hd4
    · rw [efl]
      exact e6 w2 _ hw4
  · obtain ⟨y4, w, d, rfl, o, hi, hd, hw⟩ := hP
    have etk : ss.take (ts.map V.ref).length = ss := List.take_of_length_le (by rw [List.length_map, hst.1]; exact Nat.le_refl _)
    rw [etk] at hd hw
    have hok := (st.ok ss.length (Nat.le_refl _)).1
    rw [List.take_length] at hok
    have ha' := o a _ nab ha
    have hla' := o la _ nlab hla
    have hlo' := o lo _ nlob hlo
    have erow : partRows ns ((pl ns).length : Int) ss.flatten = (rangeI ns.length).map fun k => [k] := by
      rw [hpl]
      exact rows_full pp (by rw [← hpl]; exact hok) hfl
    refine g_asgW (pss := partRows ns ((pl ns).length : Int) ss.flatten) (ew_meth (by decide +kernel) (by decide +kernel) (by decide +kernel) (ev_var rfl) hi (s_parts hc hi hla' hlo' hd (by omega) (by omega) (by omega))) fun p us H2 hp hus e2 hlp hrw => ?_
    rw [erow] at hrw
    have hul : us.length = ns.length := by
      have := hrw.1
      rw [List.length_map, rangeI_len] at this
      exact this
    refine g_no (et_is (et_or (et_test (ev_neI (ev_lenI (ev_var rfl) (sq_lst (e2 w _ hw))) (ev_sub (ev_lenI (ev_var rfl) (sq_lst (e2 a _ ha'))) ev_c))) fun _ => et_or (et_not (et_B (ev_isiL (ev_var rfl) hlp))) fun _ => et_test (ev_neI (ev_len (ev_var rfl) (sq_lst hlp)) (ev_lenI (ev_var rfl) (sq_lst (e2 a _ ha'))))) ?_) (g_nextS ?_)
    · simp only [Bool.or_eq_false_iff, Bool.not_true, Bool.not_eq_false', decide_eq_true_eq, List.length_map]
      exact ⟨by omega, trivial, by omega⟩
    refine g_forR1 (n := ((pl ns).length : Int)) (ea_cons (ev_lenI (ev_var rfl) (sq_lst (e2 a _ ha'))) ea_nil) (by omega) (fun k σ H' => ∃ y : Option V, σ = [some (.ref b), some (.ref a), some (.ref r), some (.ref w), y4, some (.ref p), y] ∧ Ex H2 H') (fun H3 e3 => ⟨none, rfl, e3⟩) (fun k σ H' hk hP => ?_) (fun σ H' hP => ?_) (by omega)
    · obtain ⟨y, rfl, e3⟩ := hP
      have hki : ((rangeI ns.length).map fun k => [k])[k]? = some [(k : Int)] := by
        unfold rangeI
        rw [List.getElem?_map, List.getElem?_map, List.getElem?_range (by omega)]
        rfl
      obtain ⟨t, hti, htt⟩ := hrw.get hki
      refine g_no (et_is (et_not (et_B (ev_callVL (x := .ref t) (xs := [.int (k : Int)]) (ev_ixL (ev_var rfl) (ev_var rfl) (sq_lst (e3 p _ hlp)) (atI_get (by omega) (by rw [Int.toNat_natCast, List.getElem?_map, hti]; rfl))) (el_lst (ea_cons (ev_var rfl) ea_nil) (Nat.le_of_ble_eq_true rfl)) fun q2 H4 hq2 e4 => v_found (ns := [(k : Int)]) ((e3.trans e4) t _ htt) (sq_lst hq2) (by simp)))) rfl) (g_nextS ?_)
      exact g_next fun H4 e4 => ⟨_, rfl, e3.trans e4⟩
    · obtain ⟨y, rfl, e3⟩ := hP
      refine g_ret (v := .bl true) ev_c fun H4 e4 => ?_
      have eH := (e2.trans e3).trans e4
      exact q H4 d (fun a2 o2 h1 h2 => eH a2 o2 (o a2 o2 h1 h2)) (hi.mono eH) (eH d _ hd)
end
end Fo
/-! FoldR22 -/
namespace Fo
open PySem L2 Evl
local macro_rules | `(tactic| walk_at "hl") => `(tactic| first
  | assumption
  | exact upd_same
  | (refine (by assumption : Ex _ _) _ _ ?_; walk_at "hl"))
local macro_rules | `(tactic| walk_at "sq") => `(tactic| first
  | assumption
  | (refine sq_lst ?_; walk_at "hl")
  | (refine ex_l (by assumption) ?_; walk_at "sq"))
local macro_rules | `(tactic| walk_at "st") => `(tactic| first
  | assumption
  | (refine st_of ?_; walk_at "hl")
  | (refine ex_t (by assumption) ?_; walk_at "st"))
local macro_rules | `(tactic| walk_at "sq2") => `(tactic| first
  | assumption
  | (refine Or.inl ?_; walk_at "sq")
  | (refine Or.inr ?_; walk_at "st")
  | (refine Sq2.mono (by assumption) ?_; walk_at "sq2"))
local macro_rules | `(tactic| walk_at "ar") => `(tactic| first
  | assumption
  | omega
  | decide)
local macro_rules | `(tactic| walk_at "lar") => `(tactic| first
  | omega
  | (simp only [List.length_append, List.length_map, List.length_take, List.length_drop, List.length_cons, List.length_nil, List.length_replicate]; omega))
local macro_rules | `(tactic| walk_at "hb") => `(tactic| first
  | skip)
local macro_rules | `(tactic| walk_at "mul") => `(tactic| first
  | (exact Or.inr ⟨by decide, by decide⟩)
  | (exact Or.inl ⟨by decide, by decide⟩)
  | (exact Or.inl ⟨by omega, by omega⟩)
  | (exact Or.inr ⟨by omega, by omega⟩))
local macro_rules | `(tactic| walk_at "div") => `(tactic| first
  | (exact ⟨by decide, by decide⟩)
  | (exact ⟨by omega, by omega⟩))
local macro_rules | `(tactic| walk_at "ea") => `(tactic| first
  | exact ea_nil
  | ((with_reducible refine' ea_cons ?k0 ?k1); (case k0 => walk_at "ev"); (case k1 => walk_at "ea")))
local macro_rules | `(tactic| walk_at "eo") => `(tactic| first
  | exact eo_none
  | ((with_reducible refine' eo_some ?k0); (case k0 => walk_at "ev")))
local macro_rules | `(tactic| walk_at "el") => `(tactic| first
  | ((with_reducible refine' el_lst ?k0 ?k1); (case k0 => walk_at "ea"); (case k1 => (exact Nat.le_of_ble_eq_true rfl)))
  | ((with_reducible refine' el_from ?k0 ?k1 ?k2 ?k3 ?k4); (case k0 => walk_at "ev"); (case k1 => walk_at "eo"); (case k2 => walk_at "sq"); (case k3 => walk_at "ar"); (case k4 => walk_at "lar"))
  | ((with_reducible refine' el_upto ?k0 ?k1 ?k2 ?k3 ?k4); (case k0 => walk_at "ev"); (case k1 => walk_at "eo"); (case k2 => walk_at "sq"); (case k3 => walk_at "ar"); (case k4 => walk_at "lar"))
  | ((with_reducible refine' el_rep1 ?k0 ?k1 ?k2 ?k3); (case k0 => walk_at "el"); (case k1 => walk_at "ev"); (case k2 => walk_at "ar"); (case k3 => walk_at "ar"))
  | ((with_reducible refine' el_cat ?k0 ?k1 ?k2); (case k0 => walk_at "el"); (case k1 => walk_at "el"); (case k2 => walk_at "lar"))
  | ((with_reducible refine' el_callD ?k0 ?k1); (case k0 => walk_at "ea"); (case k1 => walk_at "sp"))
  | ((with_reducible refine' el_list ?k0 ?k1); (case k0 => walk_at "ev"); (case k1 => walk_at "sq"))
  | ((with_reducible refine' el_srt ?k0 ?k1); (case k0 => walk_at "ev"); (case k1 => walk_at "sq"))
  | ((with_reducible refine' el_sortedQ ?k0 ?k1); (case k0 => walk_at "ev"); (case k1 => walk_at "sq2"))
  | ((with_reducible refine' el_rev ?k0 ?k1); (case k0 => walk_at "ev"); (case k1 => walk_at "sq"))
  | ((with_reducible refine' el_step ?k0 ?k1 ?k2); (case k0 => walk_at "ev"); (case k1 => walk_at "eo"); (case k2 => walk_at "sq")))
local macro_rules | `(tactic| walk_at "et") => `(tactic| first
  | ((with_reducible refine' et_test ?k0); (case k0 => walk_at "ev"))
  | ((with_reducible refine' et_B ?k0); (case k0 => walk_at "ev"))
  | ((with_reducible refine' et_not ?k0); (case k0 => walk_at "et"))
  | ((with_reducible refine' et_and ?k0 (fun hb => ?k1)); (case k0 => walk_at "et"); (case k1 => (walk_at "hb"; walk_at "et")))
  | ((with_reducible refine' et_or ?k0 (fun hb => ?k1)); (case k0 => walk_at "et"); (case k1 => (walk_at "hb"; walk_at "et"))))
local macro_rules | `(tactic| walk_at "ev") => `(tactic| first
  | ((with_reducible refine' ev_var ?k0); (case k0 => rfl))
  | exact ev_c
  | ((with_reducible refine' ev_add ?k0 ?k1); (case k0 => walk_at "ev"); (case k1 => walk_at "ev"))
  | ((with_reducible refine' ev_sub ?k0 ?k1); (case k0 => walk_at "ev"); (case k1 => walk_at "ev"))
  | ((with_reducible refine' ev_ixI ?k0 ?k1 ?k2 ?k3 ?k4); (case k0 => walk_at "ev"); (case k1 => walk_at "ev"); (case k2 => walk_at "sq"); (case k3 => walk_at "ar"); (case k4 => walk_at "ar"))
  | ((with_reducible refine' ev_ixT ?k0 ?k1 ?k2 ?k3); (case k0 => walk_at "ev"); (case k1 => walk_at "ev"); (case k2 => walk_at "st"); (case k3 => rfl))
  | ((with_reducible refine' ev_lt ?k0 ?k1); (case k0 => walk_at "ev"); (case k1 => walk_at "ev"))
  | ((with_reducible refine' ev_gt ?k0 ?k1); (case k0 => walk_at "ev"); (case k1 => walk_at "ev"))
  | ((with_reducible refine' ev_le ?k0 ?k1); (case k0 => walk_at "ev"); (case k1 => walk_at "ev"))
  | ((with_reducible refine' ev_ge ?k0 ?k1); (case k0 => walk_at "ev"); (case k1 => walk_at "ev"))
  | ((with_reducible refine' ev_eqI ?k0 ?k1); (case k0 => walk_at "ev"); (case k1 => walk_at "ev"))
  | ((with_reducible refine' ev_neI ?k0 ?k1); (case k0 => walk_at "ev"); (case k1 => walk_at "ev"))
  | ((with_reducible refine' ev_eqB ?k0 ?k1); (case k0 => walk_at "ev"); (case k1 => walk_at "ev"))
  | ((with_reducible refine' ev_neB ?k0 ?k1); (case k0 => walk_at "ev"); (case k1 => walk_at "ev"))
  | ((with_reducible refine' ev_eqS ?k0 ?k1); (case k0 => walk_at "ev"); (case k1 => walk_at "ev"))
  | ((with_reducible refine' ev_neS ?k0 ?k1); (case k0 => walk_at "ev"); (case k1 => walk_at "ev"))
  | ((with_reducible refine' ev_mod ?k0 ?k1 ?k2); (case k0 => walk_at "ev"); (case k1 => walk_at "ev"); (case k2 => walk_at "ar"))
  | ((with_reducible refine' ev_mul ?k0 ?k1 ?k2); (case k0 => walk_at "ev"); (case k1 => walk_at "ev"); (case k2 => walk_at "mul"))
  | ((with_reducible refine' ev_div ?k0 ?k1 ?k2); (case k0 => walk_at "ev"); (case k1 => walk_at "ev"); (case k2 => walk_at "div"))
  | ((with_reducible refine' ev_neg ?k0); (case k0 => walk_at "ev"))
  | ((with_reducible refine' ev_callD ?k0 ?k1); (case k0 => walk_at "ea"); (case k1 => walk_at "sp"))
  | ((with_reducible refine' ev_lenI ?k0 ?k1); (case k0 => walk_at "ev"); (case k1 => walk_at "sq"))
  | ((with_reducible refine' ev_lenQ ?k0 ?k1); (case k0 => walk_at "ev"); (case k1 => walk_at "sq2"))
  | ((with_reducible refine' ev_lenSet ?k0 ?k1 ?k2); (case k0 => walk_at "ev"); (case k1 => walk_at "sq2"); (case k2 => walk_at "ar"))
  | ((with_reducible refine' ev_inI ?k0 ?k1 ?k2); (case k0 => walk_at "ev"); (case k1 => walk_at "ev"); (case k2 => walk_at "sq2"))
  | ((with_reducible refine' ev_notInI ?k0 ?k1 ?k2); (case k0 => walk_at "ev"); (case k1 => walk_at "ev"); (case k2 => walk_at "sq2"))
  | ((with_reducible refine' ev_lenTxt ?k0 ?k1); (case k0 => walk_at "ev"); (case k1 => walk_at "ar"))
  | ((with_reducible refine' ev_lenS ?k0 ?k1); (case k0 => walk_at "ev"); (case k1 => walk_at "ar"))
  | ((with_reducible refine' ev_ixTxt ?k0 ?k1 ?k2 ?k3 ?k4); (case k0 => walk_at "ev"); (case k1 => walk_at "ev"); (case k2 => walk_at "ar"); (case k3 => walk_at "ar"); (case k4 => walk_at "ar"))
  | ((with_reducible refine' ev_ix2 ?k0); (case k0 => walk_at "ev"))
  | ((with_reducible refine' ev_isiI ?k0); (case k0 => walk_at "ev"))
  | ((with_reducible refine' ev_isiL ?k0 ?k1); (case k0 => walk_at "ev"); (case k1 => walk_at "hl"))
  | ((with_reducible refine' ev_isiU ?k0 ?k1); (case k0 => walk_at "ev"); (case k1 => walk_at "hl"))
  | ((with_reducible refine' ev_isiS ?k0); (case k0 => walk_at "ev"))
  | ((with_reducible refine' ev_isiB ?k0); (case k0 => walk_at "ev"))
  | ((with_reducible refine' ev_isN ?k0); (case k0 => walk_at "ev"))
  | ((with_reducible refine' ev_notN ?k0); (case k0 => walk_at "ev"))
  | ((with_reducible refine' ev_notIB ?k0 ?k1); (case k0 => walk_at "ev"); (case k1 => walk_at "ev"))
  | ((with_reducible refine' ev_neNil ?k0 ?k1); (case k0 => walk_at "ev"); (case k1 => walk_at "sq"))
  | ((with_reducible refine' ev_eqNil ?k0 ?k1); (case k0 => walk_at "ev"); (case k1 => walk_at "sq"))
  | ((with_reducible refine' ev_eqL ?k0 ?k1 ?k2 ?k3); (case k0 => walk_at "ev"); (case k1 => walk_at "ev"); (case k2 => walk_at "sq"); (case k3 => walk_at "sq"))
  | ((with_reducible refine' ev_neL ?k0 ?k1 ?k2 ?k3); (case k0 => walk_at "ev"); (case k1 => walk_at "ev"); (case k2 => walk_at "sq"); (case k3 => walk_at "sq"))
  | ((with_reducible refine' ev_min2 ?k0 ?k1); (case k0 => walk_at "ev"); (case k1 => walk_at "ev"))
  | ((with_reducible refine' ev_max2 ?k0 ?k1); (case k0 => walk_at "ev"); (case k1 => walk_at "ev"))
  | ((with_reducible refine' ev_intB ?k0); (case k0 => walk_at "ev"))
  | ((with_reducible refine' ev_andV ?k0 (fun hb => ?k1)); (case k0 => walk_at "ev"); (case k1 => (walk_at "hb"; walk_at "ev")))
  | ((with_reducible refine' ev_orV ?k0 (fun hb => ?k1)); (case k0 => walk_at "ev"); (case k1 => (walk_at "hb"; walk_at "ev")))
  | ((with_reducible refine' ev_notV ?k0); (case k0 => walk_at "ev"))
  | ((with_reducible refine' ev_ifI ?k0 (fun hb => ?k1) (fun hb => ?k2)); (case k0 => walk_at "et"); (case k1 => (walk_at "hb"; walk_at "ev")); (case k2 => (walk_at "hb"; walk_at "ev")))
  | ((with_reducible refine' ev_ifS ?k0 (fun hb => ?k1) (fun hb => ?k2)); (case k0 => walk_at "et"); (case k1 => (walk_at "hb"; walk_at "ev")); (case k2 => (walk_at "hb"; walk_at "ev"))))
local macro_rules | `(tactic| walk_at "hb") => `(tactic| (try simp only [decide_eq_true_eq, decide_eq_false_iff_not, Bool.and_eq_true, Bool.or_eq_true, Bool.or_eq_false_iff, Bool.not_eq_true', Bool.not_eq_false', beq_iff_eq] at *))
local macro_rules | `(tactic| walk_at "sp") => `(tactic| first
  | (refine' v_number ?k0 ?k1 ?k2; (case k0 => walk_at "sq"); (case k1 => walk_at "ar"); (case k2 => walk_at "ar"))
  | (refine' v_drawn ?k0 ?k1; (case k0 => walk_at "sq"); (case k1 => walk_at "ar"))
  | exact v_size
  | exact v_counts
  | (refine' v_wraps ?k0 ?k1 ?k2 ?k3 ?k4; (case k0 => walk_at "sq"); (case k1 => walk_at "ar"); (case k2 => walk_at "ar"); (case k3 => walk_at "ar"); (case k4 => walk_at "ar"))
  | (refine' v_l_wraps ?k0 ?k1 ?k2 ?k3 ?k4; (case k0 => walk_at "sq"); (case k1 => walk_at "ar"); (case k2 => walk_at "ar"); (case k3 => walk_at "ar"); (case k4 => walk_at "ar"))
  | (refine' v_cross ?k0 ?k1 ?k2 ?k3 ?k4; (case k0 => walk_at "sq"); (case k1 => walk_at "ar"); (case k2 => walk_at "ar"); (case k3 => walk_at "ar"); (case k4 => walk_at "ar"))
  | (refine' v_places ?k0 ?k1 ?k2; (case k0 => walk_at "sq"); (case k1 => walk_at "ar"); (case k2 => assumption))
  | (refine' v_letters ?k0 ?k1 ?k2; (case k0 => walk_at "sq"); (case k1 => walk_at "ar"); (case k2 => assumption))
  | (refine' v_l_places ?k0 ?k1 ?k2; (case k0 => walk_at "sq"); (case k1 => walk_at "ar"); (case k2 => assumption))
  | (refine' v_fits ?k0 ?k1 ?k2 ?k3; (case k0 => walk_at "sq"); (case k1 => walk_at "ar"); (case k2 => walk_at "ar"); (case k3 => walk_at "ar"))
  | (refine' v_none ?k0 ?k1 ?k2; (case k0 => walk_at "sq"); (case k1 => walk_at "ar"); (case k2 => walk_at "ar")))
local macro_rules | `(tactic| walk_at "sp") => `(tactic| first
  | (refine' v_turned ?k0 ?k1 ?k2; (case k0 => walk_at "sq"); (case k1 => walk_at "ar"); (case k2 => assumption))
  | (refine' v_same ?k0 ?k1 ?k2; (case k0 => walk_at "hl"); (case k1 => walk_at "sq"); (case k2 => walk_at "ar"))
  | (refine' v_told ?k0 ?k1 ?k2; (case k0 => walk_at "sq"); (case k1 => walk_at "hl"); (case k2 => assumption))
  | (refine' v_parted ?k0 ?k1 ?k2 ?k3; (case k0 => walk_at "sq"); (case k1 => walk_at "ar"); (case k2 => walk_at "ar"); (case k3 => assumption)))
local macro_rules | `(tactic| walk_at "sp") => `(tactic| first
  | (refine' v_is_pile ?k0 ?k1 ?k2 ?k3; (case k0 => walk_at "hl"); (case k1 => assumption); (case k2 => walk_at "ar"); (case k3 => walk_at "ar")))
local macro_rules | `(tactic| walk_at "sp") => `(tactic| first
  | (refine' v_held ?k0 ?k1 ?k2 ?k3 ?k4 ?k5; (case k0 => walk_at "sq"); (case k1 => walk_at "st"); (case k2 => walk_at "ar"); (case k3 => (refine ⟨?_, ?_⟩ <;> walk_at "ar")); (case k4 => (refine ⟨?_, ?_⟩ <;> walk_at "ar")); (case k5 => (refine ⟨?_, ?_⟩ <;> walk_at "ar")))
  | (refine' v_l_held ?k0 ?k1 ?k2 ?k3 ?k4; (case k0 => walk_at "sq"); (case k1 => walk_at "ar"); (case k2 => (refine ⟨?_, ?_⟩ <;> walk_at "ar")); (case k3 => (refine ⟨?_, ?_⟩ <;> walk_at "ar")); (case k4 => (refine ⟨?_, ?_⟩ <;> walk_at "ar")))
  | (refine' v_lies ?k0 ?k1 ?k2 ?k3 ?k4; (case k0 => walk_at "sq"); (case k1 => walk_at "st"); (case k2 => walk_at "ar"); (case k3 => (refine ⟨?_, ?_⟩ <;> walk_at "ar")); (case k4 => (refine ⟨?_, ?_⟩ <;> walk_at "ar")))
  | (refine' v_judged ?k0 ?k1 ?k2 ?k3; (case k0 => walk_at "sq"); (case k1 => walk_at "ar"); (case k2 => assumption); (case k3 => assumption))
  | (refine' v_l_free ?k0 ?k1 ?k2 ?k3 ?k4 ?k5; (case k0 => walk_at "sq"); (case k1 => walk_at "sq"); (case k2 => walk_at "ar"); (case k3 => walk_at "ar"); (case k4 => walk_at "ar"); (case k5 => assumption))
  | (refine' v_are_free ?k0 ?k1 ?k2 ?k3 ?k4 ?k5; (case k0 => walk_at "sq"); (case k1 => walk_at "sq2"); (case k2 => walk_at "ar"); (case k3 => walk_at "ar"); (case k4 => walk_at "ar"); (case k5 => assumption)))
section
variable {K : PySem.W.Frag} {c : Cs}
/-- in a new list -/
theorem ev_inIL {σ : L2.St} {H : Hp} {ta tb : TE} {ns : List Int} {i : Int} (ha : Ev ta σ H (.int i)) (hb : EvL tb σ H (ns.map V.int)) : Ev (tOp (rIn K false) ta tb) σ H (.bl (decide (i ∈ ns))) := fun H1 e Q q =>
  ha H1 e _ fun H2 e2 => hb H2 (e.trans e2) _ fun p H3 hp e3 h3 =>
    ev_inI (K := K) (ta := tC (.int i)) (tb := tC (.ref p)) (σ := σ) (H := H3) ev_c ev_c (.inl (sq_lst h3)) H3 (Ex.refl H3) Q fun H4 e4 => q H4 ((e2.trans e3).trans e4)
theorem read_l_creases (vs : List V) (H : Hp) (Q : VK) (E : XK) (h : sp_l_creases K c vs H Q E) : t_l_creases K c E { nx := fun _ H' => Q .non H', rt := Q } (start ["_law_size_here", "_law_loose", "_law_number_here", "_law_many", "_law_one", "_law_other", "_law_way", "_law_far", "_law_crease"] vs) H := by
  obtain ⟨a, ds, n, m, rfl, hS, h1, h2, h3, h4, h5, q⟩ := h
  have fin : ∀ cs : List Int, cs.length ≤ 100 → ∀ p H1, H p = none → Ex H H1 → H1 p = some (.lst (cs.map V.int)) → Q (.ref p) H1 := fun cs hl p H1 hp e h => q _ p H1 ⟨cs, rfl, hl⟩ hp e h
  refine Go.here (g_asg (v := .int (if (1 : Int) < n - 1 then n - 1 else 1)) (ev_max2 ev_c (ev_sub (ev_var rfl) ev_c)) ?_)
  have hM : 1 ≤ (if (1 : Int) < n - 1 then n - 1 else 1) ∧ (if (1 : Int) < n - 1 then n - 1 else 1) ≤ 100 := by split <;> omega
  generalize (if (1 : Int) < n - 1 then n - 1 else 1) = M at hM ⊢
  obtain ⟨m1, m2⟩ := hM
  refine g_asg (v := .int (m / 8 % M)) (ev_mod (ev_div (ev_var rfl) ev_c ⟨by decide, by decide⟩) (ev_var rfl) (by omega)) ?_
  generalize m / 8 % M = x
  refine g_asg (v := .int (m * 16807 % 2147483587 / 3 % M)) (ev_mod (ev_div (ev_mod (ev_mul (ev_var rfl) ev_c (Or.inr ⟨by decide, by decide⟩)) ev_c (by decide)) ev_c ⟨by decide, by decide⟩) (ev_var rfl) (by omega)) ?_
  generalize m * 16807 % 2147483587 / 3 % M = y
  refine g_asg (v := .int (m % 8)) (ev_mod (ev_var rfl) ev_c (by decide)) ?_
  refine g_when (b := decide (m % 8 = 2)) (et_test (ev_eqI (ev_var rfl) ev_c)) (fun _ => ?_) (fun _ => ?_)
  · exact g_retL (xs := [x, x + 1].map V.int) (el_lst (vs := [.int x, .int (x + 1)]) (ea_cons (ev_var rfl) (ea_cons (ev_add (ev_var rfl) ev_c) ea_nil)) (Nat.le_of_ble_eq_true rfl)) (fin [x, x + 1] (Nat.le_of_ble_eq_true rfl))
  refine g_when (b := decide (m % 8 = 3)) (et_test (ev_eqI (ev_var rfl) ev_c)) (fun _ => ?_) (fun _ => ?_)
  · exact g_retL (xs := [y, x].map V.int) (el_lst (vs := [.int y, .int x]) (ea_cons (ev_var rfl) (ea_cons (ev_var rfl) ea_nil)) (Nat.le_of_ble_eq_true rfl)) (fin [y, x] (Nat.le_of_ble_eq_true rfl))
  refine g_when (b := decide (m % 8 = 4)) (et_test (ev_eqI (ev_var rfl) ev_c)) (fun _ => ?_) (fun _ => ?_)
  · refine g_retL (xs := ((rangeI (n - 1).toNat).filter fun z => !decide (z ∈ ds)).map V.int) (el_filtR (fun z => !decide (z ∈ ds)) (ea_cons (ev_sub (ev_var rfl) ev_c) ea_nil) (by omega) (fun _ => rfl) (fun _ => rfl) (fun z H1 e1 _ _ => et_test (ev_notInI (ev_var rfl) (ev_var rfl) (.inl (ex_l e1 hS))))) (fin _ ?_)
    have := List.length_filter_le (fun z => !decide (z ∈ ds)) (rangeI (n - 1).toNat)
    rw [rangeI_len] at this
    omega
  refine g_when (b := decide (m % 8 = 5)) (et_test (ev_eqI (ev_var rfl) ev_c)) (fun _ => ?_) (fun _ => ?_)
  · exact g_retL (xs := ds.map V.int) (el_list (ev_var rfl) hS) (fin ds h1)
  refine g_when (b := decide (m % 8 = 6)) (et_test (ev_eqI (ev_var rfl) ev_c)) (fun _ => ?_) (fun _ => ?_)
  · exact g_retL (xs := [x, y, (x + y) % M].map V.int) (el_lst (vs := [.int x, .int y, .int ((x + y) % M)]) (ea_cons (ev_var rfl) (ea_cons (ev_var rfl) (ea_cons (ev_mod (ev_add (ev_var rfl) (ev_var rfl)) (ev_var rfl) (by omega)) ea_nil))) (Nat.le_of_ble_eq_true rfl)) (fin [x, y, (x + y) % M] (Nat.le_of_ble_eq_true rfl))
  refine g_when (b := decide (m % 8 = 7)) (et_test (ev_eqI (ev_var rfl) ev_c)) (fun _ => ?_) (fun _ => ?_)
  · refine g_asg (v := .int (m * 69621 * 69621 % 10 ^ (60 : Int).toNat)) (ev_mod (ev_mul (ev_mul (ev_var rfl) ev_c (Or.inr ⟨by decide, by decide⟩)) ev_c (Or.inr ⟨by decide, by decide⟩)) (ev_pow ev_c ev_c ⟨by decide, by decide, by decide⟩) (by decide +kernel)) ?_
    generalize m * 69621 * 69621 % 10 ^ (60 : Int).toNat = f
    have i0 : 0 ≤ m / 8 % 4 := Int.emod_nonneg _ (by decide)
    have i1 : m / 8 % 4 < 4 := Int.emod_lt_of_pos _ (by decide)
    obtain ⟨z, hz⟩ : ∃ z : Int, atI [V.int (-1), V.int (n - 1), V.int (n + f), V.int (-1 - f)] (m / 8 % 4) = some (.int z) := by
      have : m / 8 % 4 = 0 ∨ m / 8 % 4 = 1 ∨ m / 8 % 4 = 2 ∨ m / 8 % 4 = 3 := by omega
      rcases this with h | h | h | h <;> rw [h] <;> exact ⟨_, rfl⟩
    exact g_retL (xs := [x, z].map V.int) (el_lst (vs := [.int x, .int z]) (ea_cons (ev_var rfl) (ea_cons (ev_ixNew (xs := [V.int (-1), V.int (n - 1), V.int (n + f), V.int (-1 - f)]) (el_lst (ea_cons (ev_neg ev_c) (ea_cons (ev_sub (ev_var rfl) ev_c) (ea_cons (ev_add (ev_var rfl) (ev_var rfl)) (ea_cons (ev_sub (ev_neg ev_c) (ev_var rfl)) ea_nil)))) (Nat.le_of_ble_eq_true rfl)) (ev_mod (ev_div (ev_var rfl) ev_c ⟨by decide, by decide⟩) ev_c (by decide)) hz) ea_nil)) (Nat.le_of_ble_eq_true rfl)) (fin [x, z] (Nat.le_of_ble_eq_true rfl))
  · exact g_retL (xs := [x].map V.int) (el_lst (vs := [.int x]) (ea_cons (ev_var rfl) ea_nil) (Nat.le_of_ble_eq_true rfl)) (fin [x] (Nat.le_of_ble_eq_true rfl))
theorem read_l_due (vs : List V) (H : Hp) (Q : VK) (E : XK) (h : sp_l_due K c vs H Q E) : t_l_due K c E { nx := fun _ H' => Q .non H', rt := Q } (start ["_law_at", "_law_loose", "_law_creases_here", "_law_drawing", "_law_k", "_law_crease", "_law_behind_here"] vs) H := by
  obtain ⟨a, l, r, p, ds, cs, dr, rfl, ha, hl, hr, h1, h2, h3, h4, h5, q⟩ := h
  refine Go.here (g_forR1 (n := (cs.length : Int)) (by walk_at "ea") (by omega) (fun k σ H' => ∃ y : Option V, σ = [some (.ref a), some (.ref l), some (.ref r), some (.bl dr), y, none, none] ∧ Ex H H' ∧ (∀ x ∈ cs.take k, 0 ≤ x ∧ x ≤ (p.length : Int) - 2) ∧ (cs.take k).Nodup)
    (fun H1 e => ⟨none, rfl, e, fun x hx => by simp at hx, by simp⟩) (fun k σ H' hk hP => ?_) (fun σ H' hP => ?_) (by omega))
  · obtain ⟨y, rfl, e, hb, hn⟩ := hP
    have hk' : k < cs.length := by omega
    have hg := gi_get hk'
    have ev : Ev (tOp (rIxL K) (tVar 2) (tVar 4)) [some (.ref a), some (.ref l), some (.ref r), some (.bl dr), some (.int (k : Int)), none, none] H' (.int (gi cs (k : Int))) := ev_ixI (ev_var rfl) (ev_var rfl) (sq_lst (e r _ hr)) (by omega) (by omega)
    generalize gi cs (k : Int) = x at hg ev
    refine g_when (b := decide (x < 0) || (decide ((p.length : Int) - 2 < x) || decide (x ∈ cs.take k))) (et_or (et_test (ev_lt ev ev_c)) fun _ => et_or (et_test (ev_gt ev (ev_sub (ev_lenI (ev_var rfl) (ex_l e ha)) ev_c))) fun _ => et_test (ev_inIL ev ?_)) (fun hb2 => ?_) (fun hb2 => ?_)
    · rw [List.map_take]
      exact el_upto (i := (k : Int)) (ev_var rfl) (eo_some (ev_var rfl)) (sq_lst (e r _ hr)) (by omega) (by rw [List.length_map]; omega)
    · refine g_ret (v := .int 1) ev_c fun H1 e1 => q 1 (.inl ⟨fun hc => ?_, rfl⟩) H1 (e.trans e1)
      have hm := List.mem_of_getElem? hg
      have := hc.bnd x hm
      have nd : (cs.take (k + 1)).Nodup := hc.nd.sublist (List.take_sublist _ _)
      rw [take_more hg] at nd
      have hx : x ∉ cs.take k := fun hx => (List.nodup_append.mp nd).2.2 x hx x (by simp) rfl
      rw [decide_eq_false (show ¬ x < 0 by omega), decide_eq_false (show ¬ (p.length : Int) - 2 < x by omega), decide_eq_false hx] at hb2
      exact Bool.noConfusion hb2
    · simp only [Bool.or_eq_false_iff, decide_eq_false_iff_not] at hb2
      refine g_next fun H3 e3 => ⟨_, rfl, e.trans e3, fun z hz => ?_, ?_⟩
      · rw [take_more hg] at hz
        rcases List.mem_append.mp hz with hz | hz
        · exact hb z hz
        · rw [List.mem_singleton.mp hz]
          omega
      · rw [take_more hg]
        refine List.nodup_append.mpr ⟨hn, by simp, fun u hu v hv => ?_⟩
        rw [List.mem_singleton.mp hv]
        exact fun z => hb2.2.2 (z ▸ hu)
  · obtain ⟨y, rfl, e, hb, hn⟩ := hP
    rw [show (cs.length : Int).toNat = cs.length from rfl, List.take_length] at hb hn
    have hcr : Creases (p.length : Int) cs := ⟨hb, hn⟩
    refine g_forL (a := r) (xs := cs.map V.int) (ev_var rfl) (sq_lst (e r _ hr)) (fun i σ H' => ∃ y5 : Option V, σ = [some (.ref a), some (.ref l), some (.ref r), some (.bl dr), y, y5, none] ∧ Ex H H' ∧ ∀ x ∈ cs.take i, decide (x ∈ ds) = !dr)
      (fun H1 e1 => ⟨none, rfl, e.trans e1, fun x hx => by simp at hx⟩) (fun i σ H' _ hP => ?_) (fun i x σ H' hi hP => ?_) (fun σ H' hP => ?_)
    · obtain ⟨_, _, e, _⟩ := hP
      exact sq_lst (e r _ hr)
    · obtain ⟨y5, rfl, e, hd⟩ := hP
      rw [List.getElem?_map] at hi
      cases hz : cs[i]? with
      | none => rw [hz] at hi; cases hi
      | some z =>
        rw [hz] at hi
        cases hi
        refine g_when (b := decide (z ∈ ds) == dr) (et_test (ev_eqB (ev_inI (ev_var rfl) (ev_var rfl) (.inl (sq_lst (e l _ hl)))) (ev_var rfl))) (fun hb2 => ?_) (fun hb2 => ?_)
        · refine g_ret (v := .int 2) ev_c fun H1 e1 => q 2 (.inr (.inl ⟨hcr, fun o => ?_, rfl⟩)) H1 (e.trans e1)
          have := o.1 z (List.mem_of_getElem? hz)
          rw [this] at hb2
          cases dr <;> exact Bool.noConfusion hb2
        · refine g_next fun H3 e3 => ⟨_, rfl, e.trans e3, fun u hu => ?_⟩
          rw [take_more hz] at hu
          rcases List.mem_append.mp hu with hu | hu
          · exact hd u hu
          · rw [List.mem_singleton.mp hu]
            revert hb2
            cases decide (z ∈ ds) <;> cases dr <;> decide
    · obtain ⟨y5, rfl, e, hd⟩ := hP
      rw [List.length_map, List.take_length] at hd
      have hfl : (pressed ds cs).length ≤ ds.length := List.length_filter_le _ _
      refine g_asgL (xs := (pressed ds cs).map V.int) (el_filt (fun z => !decide (z ∈ cs)) (ev_var rfl) (sq_lst (e l _ hl)) (by omega) (fun _ => rfl) (fun _ => rfl) (fun z H1 e1 hz => et_test (ev_notInI (ev_var rfl) (ev_var rfl) (.inl (sq_lst ((e.trans e1) r _ hr)))))) fun u H1 hu e1 hlu => ?_
      have eH := e.trans e1
      cases dr with
      | true =>
        refine g_yes (et_B (ev_var rfl)) (g_asgL (xs := ds.map V.int ++ cs.map V.int) (el_catVV (ev_var rfl) (ev_var rfl) (eH l _ hl) (eH r _ hr) (by simp only [List.length_map]; omega)) fun u2 H2 hu2 e2 hlu2 => g_nextS ?_)
        rw [← List.map_append] at hlu2
        refine g_when (b := !freeAt p (ds ++ cs)) (et_not (et_B (ev_callD (vs := [.ref a, .ref u2]) (ea_cons (ev_var rfl) (ea_cons (ev_var rfl) ea_nil)) (v_l_free (ex_l (eH.trans e2) ha) (sq_lst hlu2) h1 (by omega) (by rw [List.length_append]; omega) (fun x hx => ?_))))) (fun hb2 => ?_) (fun hb2 => ?_)
        · rcases List.mem_append.mp hx with hx | hx
          · exact h5 x hx
          · exact hcr.bnd x hx
        · refine g_ret (v := .int 2) ev_c fun H3 e3 => q 2 (.inr (.inl ⟨hcr, fun o => ?_, rfl⟩)) H3 ((eH.trans e2).trans e3)
          rw [show freeAt p (ds ++ cs) = true from o.2] at hb2
          exact Bool.noConfusion hb2
        · exact g_ret (v := .int 0) ev_c fun H3 e3 => q 0 (.inr (.inr ⟨hcr, ⟨hd, by simpa [after] using hb2⟩, rfl⟩)) H3 ((eH.trans e2).trans e3)
      | false =>
        refine g_no (et_B (ev_var rfl)) (g_nextS ?_)
        refine g_when (b := !freeAt p (pressed ds cs)) (et_not (et_B (ev_callD (vs := [.ref a, .ref u]) (ea_cons (ev_var rfl) (ea_cons (ev_var rfl) ea_nil)) (v_l_free (ex_l eH ha) (sq_lst hlu) h1 (by omega) (by omega) (fun x hx => h5 x (List.mem_filter.mp hx).1))))) (fun hb2 => ?_) (fun hb2 => ?_)
        · refine g_ret (v := .int 2) ev_c fun H3 e3 => q 2 (.inr (.inl ⟨hcr, fun o => ?_, rfl⟩)) H3 (eH.trans e3)
          rw [show freeAt p (pressed ds cs) = true from o.2] at hb2
          exact Bool.noConfusion hb2
        · exact g_ret (v := .int 0) ev_c fun H3 e3 => q 0 (.inr (.inr ⟨hcr, ⟨hd, by simpa [after] using hb2⟩, rfl⟩)) H3 (eH.trans e3)
end
end Fo
/-! FoldR23 -/
namespace Fo
open PySem L2 Evl
local macro_rules | `(tactic| walk_at "hl") => `(tactic| first
  | assumption
  | exact upd_same
  | (refine (by assumption : Ex _ _) _ _ ?_; walk_at "hl"))
local macro_rules | `(tactic| walk_at "sq") => `(tactic| first
  | assumption
  | (refine sq_lst ?_; walk_at "hl")
  | (refine ex_l (by assumption) ?_; walk_at "sq"))
local macro_rules | `(tactic| walk_at "st") => `(tactic| first
  | assumption
  | (refine st_of ?_; walk_at "hl")
  | (refine ex_t (by assumption) ?_; walk_at "st"))
local macro_rules | `(tactic| walk_at "sq2") => `(tactic| first
  | assumption
  | (refine Or.inl ?_; walk_at "sq")
  | (refine Or.inr ?_; walk_at "st")
  | (refine Sq2.mono (by assumption) ?_; walk_at "sq2"))
local macro_rules | `(tactic| walk_at "ar") => `(tactic| first
  | assumption
  | omega
  | decide)
local macro_rules | `(tactic| walk_at "lar") => `(tactic| first
  | omega
  | (simp only [List.length_append, List.length_map, List.length_take, List.length_drop, List.length_cons, List.length_nil, List.length_replicate]; omega))
local macro_rules | `(tactic| walk_at "hb") => `(tactic| first
  | skip)
local macro_rules | `(tactic| walk_at "mul") => `(tactic| first
  | (exact Or.inr ⟨by decide, by decide⟩)
  | (exact Or.inl ⟨by decide, by decide⟩)
  | (exact Or.inl ⟨by omega, by omega⟩)
  | (exact Or.inr ⟨by omega, by omega⟩))
local macro_rules | `(tactic| walk_at "div") => `(tactic| first
  | (exact ⟨by decide, by decide⟩)
  | (exact ⟨by omega, by omega⟩))
local macro_rules | `(tactic| walk_at "ea") => `(tactic| first
  | exact ea_nil
  | ((with_reducible refine' ea_cons ?k0 ?k1); (case k0 => walk_at "ev"); (case k1 => walk_at "ea")))
local macro_rules | `(tactic| walk_at "eo") => `(tactic| first
  | exact eo_none
  | ((with_reducible refine' eo_some ?k0); (case k0 => walk_at "ev")))
local macro_rules | `(tactic| walk_at "el") => `(tactic| first
  | ((with_reducible refine' el_lst ?k0 ?k1); (case k0 => walk_at "ea"); (case k1 => (exact Nat.le_of_ble_eq_true rfl)))
  | ((with_reducible refine' el_from ?k0 ?k1 ?k2 ?k3 ?k4); (case k0 => walk_at "ev"); (case k1 => walk_at "eo"); (case k2 => walk_at "sq"); (case k3 => walk_at "ar"); (case k4 => walk_at "lar"))
  | ((with_reducible refine' el_upto ?k0 ?k1 ?k2 ?k3 ?k4); (case k0 => walk_at "ev"); (case k1 => walk_at "eo"); (case k2 => walk_at "sq"); (case k3 => walk_at "ar"); (case k4 => walk_at "lar"))
  | ((with_reducible refine' el_rep1 ?k0 ?k1 ?k2 ?k3); (case k0 => walk_at "el"); (case k1 => walk_at "ev"); (case k2 => walk_at "ar"); (case k3 => walk_at "ar"))
  | ((with_reducible refine' el_cat ?k0 ?k1 ?k2); (case k0 => walk_at "el"); (case k1 => walk_at "el"); (case k2 => walk_at "lar"))
  | ((with_reducible refine' el_callD ?k0 ?k1); (case k0 => walk_at "ea"); (case k1 => walk_at "sp"))
  | ((with_reducible refine' el_list ?k0 ?k1); (case k0 => walk_at "ev"); (case k1 => walk_at "sq"))
  | ((with_reducible refine' el_srt ?k0 ?k1); (case k0 => walk_at "ev"); (case k1 => walk_at "sq"))
  | ((with_reducible refine' el_sortedQ ?k0 ?k1); (case k0 => walk_at "ev"); (case k1 => walk_at "sq2"))
  | ((with_reducible refine' el_rev ?k0 ?k1); (case k0 => walk_at "ev"); (case k1 => walk_at "sq"))
  | ((with_reducible refine' el_step ?k0 ?k1 ?k2); (case k0 => walk_at "ev"); (case k1 => walk_at "eo"); (case k2 => walk_at "sq")))
local macro_rules | `(tactic| walk_at "et") => `(tactic| first
  | ((with_reducible refine' et_test ?k0); (case k0 => walk_at "ev"))
  | ((with_reducible refine' et_B ?k0); (case k0 => walk_at "ev"))
  | ((with_reducible refine' et_not ?k0); (case k0 => walk_at "et"))
  | ((with_reducible refine' et_and ?k0 (fun hb => ?k1)); (case k0 => walk_at "et"); (case k1 => (walk_at "hb"; walk_at "et")))
  | ((with_reducible refine' et_or ?k0 (fun hb => ?k1)); (case k0 => walk_at "et"); (case k1 => (walk_at "hb"; walk_at "et"))))
local macro_rules | `(tactic| walk_at "ev") => `(tactic| first
  | ((with_reducible refine' ev_var ?k0); (case k0 => rfl))
  | exact ev_c
  | ((with_reducible refine' ev_add ?k0 ?k1); (case k0 => walk_at "ev"); (case k1 => walk_at "ev"))
  | ((with_reducible refine' ev_sub ?k0 ?k1); (case k0 => walk_at "ev"); (case k1 => walk_at "ev"))
  | ((with_reducible refine' ev_ixI ?k0 ?k1 ?k2 ?k3 ?k4); (case k0 => walk_at "ev"); (case k1 => walk_at "ev"); (case k2 => walk_at "sq"); (case k3 => walk_at "ar"); (case k4 => walk_at "ar"))
  | ((with_reducible refine' ev_ixT ?k0 ?k1 ?k2 ?k3); (case k0 => walk_at "ev"); (case k1 => walk_at "ev"); (case k2 => walk_at "st"); (case k3 => rfl))
  | ((with_reducible refine' ev_lt ?k0 ?k1); (case k0 => walk_at "ev"); (case k1 => walk_at "ev"))
  | ((with_reducible refine' ev_gt ?k0 ?k1); (case k0 => walk_at "ev"); (case k1 => walk_at "ev"))
  | ((with_reducible refine' ev_le ?k0 ?k1); (case k0 => walk_at "ev"); (case k1 => walk_at "ev"))
  | ((with_reducible refine' ev_ge ?k0 ?k1); (case k0 => walk_at "ev"); (case k1 => walk_at "ev"))
  | ((with_reducible refine' ev_eqI ?k0 ?k1); (case k0 => walk_at "ev"); (case k1 => walk_at "ev"))
  | ((with_reducible refine' ev_neI ?k0 ?k1); (case k0 => walk_at "ev"); (case k1 => walk_at "ev"))
  | ((with_reducible refine' ev_eqB ?k0 ?k1); (case k0 => walk_at "ev"); (case k1 => walk_at "ev"))
  | ((with_reducible refine' ev_neB ?k0 ?k1); (case k0 => walk_at "ev"); (case k1 => walk_at "ev"))
  | ((with_reducible refine' ev_eqS ?k0 ?k1); (case k0 => walk_at "ev"); (case k1 => walk_at "ev"))
  | ((with_reducible refine' ev_neS ?k0 ?k1); (case k0 => walk_at "ev"); (case k1 => walk_at "ev"))
  | ((with_reducible refine' ev_mod ?k0 ?k1 ?k2); (case k0 => walk_at "ev"); (case k1 => walk_at "ev"); (case k2 => walk_at "ar"))
  | ((with_reducible refine' ev_mul ?k0 ?k1 ?k2); (case k0 => walk_at "ev"); (case k1 => walk_at "ev"); (case k2 => walk_at "mul"))
  | ((with_reducible refine' ev_div ?k0 ?k1 ?k2); (case k0 => walk_at "ev"); (case k1 => walk_at "ev"); (case k2 => walk_at "div"))
  | ((with_reducible refine' ev_neg ?k0); (case k0 => walk_at "ev"))
  | ((with_reducible refine' ev_callD ?k0 ?k1); (case k0 => walk_at "ea"); (case k1 => walk_at "sp"))
  | ((with_reducible refine' ev_lenI ?k0 ?k1); (case k0 => walk_at "ev"); (case k1 => walk_at "sq"))
  | ((with_reducible refine' ev_lenQ ?k0 ?k1); (case k0 => walk_at "ev"); (case k1 => walk_at "sq2"))
  | ((with_reducible refine' ev_lenSet ?k0 ?k1 ?k2); (case k0 => walk_at "ev"); (case k1 => walk_at "sq2"); (case k2 => walk_at "ar"))
  | ((with_reducible refine' ev_inI ?k0 ?k1 ?k2); (case k0 => walk_at "ev"); (case k1 => walk_at "ev"); (case k2 => walk_at "sq2"))
  | ((with_reducible refine' ev_notInI ?k0 ?k1 ?k2); (case k0 => walk_at "ev"); (case k1 => walk_at "ev"); (case k2 => walk_at "sq2"))
  | ((with_reducible refine' ev_lenTxt ?k0 ?k1); (case k0 => walk_at "ev"); (case k1 => walk_at "ar"))
  | ((with_reducible refine' ev_lenS ?k0 ?k1); (case k0 => walk_at "ev"); (case k1 => walk_at "ar"))
  | ((with_reducible refine' ev_ixTxt ?k0 ?k1 ?k2 ?k3 ?k4); (case k0 => walk_at "ev"); (case k1 => walk_at "ev"); (case k2 => walk_at "ar"); (case k3 => walk_at "ar"); (case k4 => walk_at "ar"))
  | ((with_reducible refine' ev_ix2 ?k0); (case k0 => walk_at "ev"))
  | ((with_reducible refine' ev_isiI ?k0); (case k0 => walk_at "ev"))
  | ((with_reducible refine' ev_isiL ?k0 ?k1); (case k0 => walk_at "ev"); (case k1 => walk_at "hl"))
  | ((with_reducible refine' ev_isiU ?k0 ?k1); (case k0 => walk_at "ev"); (case k1 => walk_at "hl"))
  | ((with_reducible refine' ev_isiS ?k0); (case k0 => walk_at "ev"))
  | ((with_reducible refine' ev_isiB ?k0); (case k0 => walk_at "ev"))
  | ((with_reducible refine' ev_isN ?k0); (case k0 => walk_at "ev"))
  | ((with_reducible refine' ev_notN ?k0); (case k0 => walk_at "ev"))
  | ((with_reducible refine' ev_notIB ?k0 ?k1); (case k0 => walk_at "ev"); (case k1 => walk_at "ev"))
  | ((with_reducible refine' ev_neNil ?k0 ?k1); (case k0 => walk_at "ev"); (case k1 => walk_at "sq"))
  | ((with_reducible refine' ev_eqNil ?k0 ?k1); (case k0 => walk_at "ev"); (case k1 => walk_at "sq"))
  | ((with_reducible refine' ev_eqL ?k0 ?k1 ?k2 ?k3); (case k0 => walk_at "ev"); (case k1 => walk_at "ev"); (case k2 => walk_at "sq"); (case k3 => walk_at "sq"))
  | ((with_reducible refine' ev_neL ?k0 ?k1 ?k2 ?k3); (case k0 => walk_at "ev"); (case k1 => walk_at "ev"); (case k2 => walk_at "sq"); (case k3 => walk_at "sq"))
  | ((with_reducible refine' ev_min2 ?k0 ?k1); (case k0 => walk_at "ev"); (case k1 => walk_at "ev"))
  | ((with_reducible refine' ev_max2 ?k0 ?k1); (case k0 => walk_at "ev"); (case k1 => walk_at "ev"))
  | ((with_reducible refine' ev_intB ?k0); (case k0 => walk_at "ev"))
  | ((with_reducible refine' ev_andV ?k0 (fun hb => ?k1)); (case k0 => walk_at "ev"); (case k1 => (walk_at "hb"; walk_at "ev")))
  | ((with_reducible refine' ev_orV ?k0 (fun hb => ?k1)); (case k0 => walk_at "ev"); (case k1 => (walk_at "hb"; walk_at "ev")))
  | ((with_reducible refine' ev_notV ?k0); (case k0 => walk_at "ev"))
  | ((with_reducible refine' ev_ifI ?k0 (fun hb => ?k1) (fun hb => ?k2)); (case k0 => walk_at "et"); (case k1 => (walk_at "hb"; walk_at "ev")); (case k2 => (walk_at "hb"; walk_at "ev")))
  | ((with_reducible refine' ev_ifS ?k0 (fun hb => ?k1) (fun hb => ?k2)); (case k0 => walk_at "et"); (case k1 => (walk_at "hb"; walk_at "ev")); (case k2 => (walk_at "hb"; walk_at "ev"))))
local macro_rules | `(tactic| walk_at "hb") => `(tactic| (try simp only [decide_eq_true_eq, decide_eq_false_iff_not, Bool.and_eq_true, Bool.or_eq_true, Bool.or_eq_false_iff, Bool.not_eq_true', Bool.not_eq_false', beq_iff_eq] at *))
local macro_rules | `(tactic| walk_at "sp") => `(tactic| first
  | (refine' v_number ?k0 ?k1 ?k2; (case k0 => walk_at "sq"); (case k1 => walk_at "ar"); (case k2 => walk_at "ar"))
  | (refine' v_drawn ?k0 ?k1; (case k0 => walk_at "sq"); (case k1 => walk_at "ar"))
  | exact v_size
  | exact v_counts
  | (refine' v_wraps ?k0 ?k1 ?k2 ?k3 ?k4; (case k0 => walk_at "sq"); (case k1 => walk_at "ar"); (case k2 => walk_at "ar"); (case k3 => walk_at "ar"); (case k4 => walk_at "ar"))
  | (refine' v_l_wraps ?k0 ?k1 ?k2 ?k3 ?k4; (case k0 => walk_at "sq"); (case k1 => walk_at "ar"); (case k2 => walk_at "ar"); (case k3 => walk_at "ar"); (case k4 => walk_at "ar"))
  | (refine' v_cross ?k0 ?k1 ?k2 ?k3 ?k4; (case k0 => walk_at "sq"); (case k1 => walk_at "ar"); (case k2 => walk_at "ar"); (case k3 => walk_at "ar"); (case k4 => walk_at "ar"))
  | (refine' v_places ?k0 ?k1 ?k2; (case k0 => walk_at "sq"); (case k1 => walk_at "ar"); (case k2 => assumption))
  | (refine' v_letters ?k0 ?k1 ?k2; (case k0 => walk_at "sq"); (case k1 => walk_at "ar"); (case k2 => assumption))
  | (refine' v_l_places ?k0 ?k1 ?k2; (case k0 => walk_at "sq"); (case k1 => walk_at "ar"); (case k2 => assumption))
  | (refine' v_fits ?k0 ?k1 ?k2 ?k3; (case k0 => walk_at "sq"); (case k1 => walk_at "ar"); (case k2 => walk_at "ar"); (case k3 => walk_at "ar"))
  | (refine' v_none ?k0 ?k1 ?k2; (case k0 => walk_at "sq"); (case k1 => walk_at "ar"); (case k2 => walk_at "ar")))
local macro_rules | `(tactic| walk_at "sp") => `(tactic| first
  | (refine' v_turned ?k0 ?k1 ?k2; (case k0 => walk_at "sq"); (case k1 => walk_at "ar"); (case k2 => assumption))
  | (refine' v_same ?k0 ?k1 ?k2; (case k0 => walk_at "hl"); (case k1 => walk_at "sq"); (case k2 => walk_at "ar"))
  | (refine' v_told ?k0 ?k1 ?k2; (case k0 => walk_at "sq"); (case k1 => walk_at "hl"); (case k2 => assumption))
  | (refine' v_parted ?k0 ?k1 ?k2 ?k3; (case k0 => walk_at "sq"); (case k1 => walk_at "ar"); (case k2 => walk_at "ar"); (case k3 => assumption)))
local macro_rules | `(tactic| walk_at "sp") => `(tactic| first
  | (refine' v_is_pile ?k0 ?k1 ?k2 ?k3; (case k0 => walk_at "hl"); (case k1 => assumption); (case k2 => walk_at "ar"); (case k3 => walk_at "ar")))
local macro_rules | `(tactic| walk_at "sp") => `(tactic| first
  | (refine' v_held ?k0 ?k1 ?k2 ?k3 ?k4 ?k5; (case k0 => walk_at "sq"); (case k1 => walk_at "st"); (case k2 => walk_at "ar"); (case k3 => (refine ⟨?_, ?_⟩ <;> walk_at "ar")); (case k4 => (refine ⟨?_, ?_⟩ <;> walk_at "ar")); (case k5 => (refine ⟨?_, ?_⟩ <;> walk_at "ar")))
  | (refine' v_l_held ?k0 ?k1 ?k2 ?k3 ?k4; (case k0 => walk_at "sq"); (case k1 => walk_at "ar"); (case k2 => (refine ⟨?_, ?_⟩ <;> walk_at "ar")); (case k3 => (refine ⟨?_, ?_⟩ <;> walk_at "ar")); (case k4 => (refine ⟨?_, ?_⟩ <;> walk_at "ar")))
  | (refine' v_lies ?k0 ?k1 ?k2 ?k3 ?k4; (case k0 => walk_at "sq"); (case k1 => walk_at "st"); (case k2 => walk_at "ar"); (case k3 => (refine ⟨?_, ?_⟩ <;> walk_at "ar")); (case k4 => (refine ⟨?_, ?_⟩ <;> walk_at "ar")))
  | (refine' v_judged ?k0 ?k1 ?k2 ?k3; (case k0 => walk_at "sq"); (case k1 => walk_at "ar"); (case k2 => assumption); (case k3 => assumption))
  | (refine' v_l_free ?k0 ?k1 ?k2 ?k3 ?k4 ?k5; (case k0 => walk_at "sq"); (case k1 => walk_at "sq"); (case k2 => walk_at "ar"); (case k3 => walk_at "ar"); (case k4 => walk_at "ar"); (case k5 => assumption))
  | (refine' v_are_free ?k0 ?k1 ?k2 ?k3 ?k4 ?k5; (case k0 => walk_at "sq"); (case k1 => walk_at "sq2"); (case k2 => walk_at "ar"); (case k3 => walk_at "ar"); (case k4 => walk_at "ar"); (case k5 => assumption)))
section
variable {K : PySem.W.Frag} {c : Cs}
theorem ev_inB {σ : L2.St} {H : Hp} {ta tb : TE} {p : Addr} {bs : List Bool} {b : Bool} (ha : Ev ta σ H (.bl b)) (hb : Ev tb σ H (.ref p)) (hs : H p = some (.lst (bs.map V.bl))) : Ev (tOp (rIn K false) ta tb) σ H (.bl (decide (b ∈ bs))) := ev_op ha hb fun H1 e Q q => by
  refine ⟨p, _, rfl, .inl (sq_lst (e p _ hs)), rfl, List.all_eq_true.mpr fun y hy => by
    obtain ⟨z, _, rfl⟩ := List.mem_map.mp hy
    rfl, ?_⟩
  have e9 : inV (.bl b) (bs.map V.bl) = decide (b ∈ bs) := by
    unfold inV
    rw [Bool.eq_iff_iff, List.any_eq_true, decide_eq_true_eq]
    constructor
    · rintro ⟨y, hy, h⟩
      obtain ⟨z, hz, rfl⟩ := List.mem_map.mp hy
      have : z = b := by simpa [eqV] using h
      rw [← this]
      exact hz
    · exact fun h => ⟨.bl b, List.mem_map.mpr ⟨b, h, rfl⟩, by simp [eqV]⟩
  show Q (.bl (if false = true then _ else inV (.bl b) (bs.map V.bl))) H1
  rw [if_neg Bool.false_ne_true, e9]
  exact q H1 (Ex.refl H1)
theorem read_l_word_of (a : Addr) (cls : Value) (d : Option Addr) (vs : List V) (H : Hp) (Q : VK) (E : XK) (h : sp_l_word_of K c a cls d vs H Q E) : t_l_word_of K c E a cls d { nx := fun _ H' => Q .non H', rt := Q } (start ["_law_e", "_law_others"] vs) H := by
  obtain ⟨D, k, rfl, rfl, rfl, hk, hk2, q⟩ := h
  have nd : ∀ dd : Addr, (none : Option Addr) = some dd → ∃ fs, H dd = some (.xd fs) := fun dd h => nomatch h
  have e0 : decide (k = 0) = false := decide_eq_false (by omega)
  have e1' : decide (k = 1) = false := decide_eq_false (by omega)
  have e3 : decide (k = 3) = false := decide_eq_false (by omega)
  have e4 : decide (k = 4) = false := decide_eq_false (by omega)
  refine Go.here (g_asgL (xs := [false, false, false, false].map V.bl) (el_lst (vs := [.bl false, .bl false, .bl false, .bl false]) (ea_cons (ev_isX hk.ex nd (ev_var rfl) (by rw [hk.k0, e0])) (ea_cons (ev_isX hk.ex nd (ev_var rfl) (by rw [hk.k3, e3])) (ea_cons (ev_isX hk.ex nd (ev_var rfl) (by rw [hk.k4, e4])) (ea_cons (ev_isX hk.ex nd (ev_var rfl) (by rw [hk.k1, e1'])) ea_nil)))) (Nat.le_of_ble_eq_true rfl)) fun r H1 hr e1 hlr => ?_)
  have nd1 : ∀ dd : Addr, (none : Option Addr) = some dd → ∃ fs, H1 dd = some (.xd fs) := fun dd h => nomatch h
  refine g_no (et_is (et_or (et_test (ev_inB (bs := [false, false, false, false]) ev_c (ev_var rfl) hlr)) fun _ => et_not (et_B (ev_isXt hk.ex nd1 (ev_var rfl) hk.ve))) (by decide)) (g_nextS ?_)
  refine g_ret (v := .int (if k = 2 then 1 else 2)) (ev_is (ev_add (ev_intB (ev_isX hk.ex nd1 (ev_var rfl) hk.k2)) (ev_mul ev_c (ev_intB (ev_isX hk.ex nd1 (ev_var rfl) hk.k5)) (Or.inl ⟨by decide, by decide⟩))) ?_) fun H2 e2 => q H2 (e1.trans e2)
  rcases hk2 with rfl | rfl <;> rfl
theorem v_word {H : Hp} {a D : Addr} {k : Nat} (hk : KindF K c D k) (h : k = 2 ∨ k = 5) : SpV (sp_l_word_of K c a (.ref D) none) [.ref a] H (.int (if k = 2 then 1 else 2)) := fun H1 e Q q E => ⟨D, k, rfl, rfl, rfl, hk, h, q⟩
/-- the suite -/
theorem suite_done {D : Ends} {a C : Addr} {k : Nat} {H : Hp} {x0 x1 x2 x3 : Option V} (hk : KindF K c C k) (h : k = 2 ∨ k = 5) (q : ∀ H2, Ex H H2 → D.nx [x0, x1, x2, some (.int (if k = 2 then 1 else 2)), some (.ref a)] H2) :
    (tSeq (tAsg (tC (.int 4)) (gName 3))
     (tSeq (tIfS (tTest (tOp (rI0 fun i j => .bl (decide (j < i))) (tCallX (sp_l_word_of K c) a (.ref C) none (tCons (tVar 4) tNil)) (tC (.int 0)))) (tSeq (tAsg (tCallX (sp_l_word_of K c) a (.ref C) none (tCons (tVar 4) tNil)) (gName 3))
     tNext) tNext)
     tNext)) D [x0, x1, x2, x3, some (.ref a)] H := by
  refine Go.here (g_asg (v := .int 4) ev_c (g_yes (et_is (et_test (ev_gt (ev_callX (vs := [.ref a]) (ea_cons (ev_var rfl) ea_nil) (v_word hk h)) ev_c)) ?_) (g_asg (v := .int (if k = 2 then 1 else 2)) (ev_callX (vs := [.ref a]) (ea_cons (ev_var rfl) ea_nil) (v_word hk h)) (g_nextS (g_next fun H2 e2 => q H2 e2)))))
  rcases h with rfl | rfl <;> rfl
theorem g_try {C : Value} {i : Nat} {tb : WX → TS} {ts : Addr → Value → Option Addr → TS} {E : XK} {D : Ends} {tz : TS} {σ : L2.St} {H : Hp} (h : Go (tb (wAs K C i ts (fun cls d _ H => E cls d H) { D with nx := tz D })) { D with nx := tz D } σ H) : Go (tSeq (tTry K C i tb ts E) tz) D σ H := h
theorem g_methS1 {σ : L2.St} {H : Hp} {ta te : TE} {D : Ends} {tz : TS} {b la lo ld : Addr} {sp : Sp} {E : L2.St → XK} {m : Str} {x : V} (hm1 : ¬ m = "at") (hm2 : ¬ m = "order") (hm3 : ¬ m = "drawn") (ha : Ev te σ H (.ref b)) (hb : InsB c H b la lo ld) (hx : Ev ta σ H x) (hs : ∀ H1, Ex H H1 → sp [.ref b, x] H1 (fun _ H2 => tz D σ H2) (E σ)) : Go (tSeq (tDrop (tMethS c.be m sp E te (tCons ta tNil))) tz) D σ H := fun H1 e => ha H1 e _ fun H2 e2 => by
  obtain ⟨dx, hx'⟩ := hb.mono (e.trans e2)
  exact ⟨b, dx, _, rfl, hx', bf_no _ _ _ hm1 hm2 hm3, hx H2 (e.trans e2) _ fun H3 e3 => hs H3 ((e.trans e2).trans e3)⟩
theorem read_l_done (vs : List V) (H : Hp) (Q : VK) (E : XK) (h : sp_l_done K c vs H Q E) : t_l_done K c E { nx := fun _ H' => Q .non H', rt := Q } (start ["_law_bench", "_law_creases_here", "_law_drawing", "_law_word", "_law_e"] vs) H := by
  obtain ⟨b, r, la, lo, ld, ps, ds, cs, dr, rfl, hc, kn, hb, hla, hld, hcr, h1, h2, h3, h4, h5, q⟩ := h
  refine Go.here (g_asg (v := .int 0) ev_c (g_try ?_))
  refine g_if (b := dr) (et_B (ev_var rfl)) (fun hd => ?_) (fun hd => ?_)
  · subst hd
    refine g_methS1 (m := "draw") (by decide +kernel) (by decide +kernel) (by decide +kernel) (ev_var rfl) hb (ev_var rfl) fun H1 e1 => ?_
    have same : ∀ {w : Int} {H2 : Hp}, Due ps ds cs true w → w ≠ 0 → Ex H H2 → Q (.int w) H2 := fun {w H2} hw hn e2 => q w H2 ld ds hw (OffB.of e2) (hb.mono e2) (e2 ld _ hld) (fun z => absurd z hn) (fun _ => rfl) (.inl rfl)
    refine ⟨b, r, la, lo, ld, ps, ds, cs, rfl, hc, hb.mono e1, e1 la _ hla, e1 ld _ hld, hcr.mono e1, h1, by omega, by omega, by omega, h5, ?_⟩
    by_cases hk : Creases (ps.length : Int) cs
    · refine .yes hk ?_
      by_cases ho : (∀ x ∈ cs, x ∉ ds) ∧ freeAt ps (ds ++ cs) = true
      · refine .yes ho fun H2 d o2 i2 hd hd2 => ?_
        refine Go.here (g_next fun H3 e3 => Go.here (g_ret (v := .int 0) (ev_var rfl) fun H4 e4 => ?_))
        have e34 := e3.trans e4
        exact q 0 H4 d (ds ++ cs) (.inr (.inr ⟨hk, ⟨fun x hx => by simpa using ho.1 x hx, ho.2⟩, rfl⟩)) (fun a o ha hao => e34 a o (o2 a o ha (e1 a o hao))) (i2.mono e34) (e34 d _ hd2) (fun _ => rfl) (fun z => absurd rfl z) (.inr (fresh_back e1 hd))
      · refine .no ho fun H2 e2 => ⟨true, kn.st.se, fun _ a ha => suite_done kn.st (.inr rfl) fun H3 e3 => Go.here (g_ret (v := .int 2) (ev_var rfl) fun H4 e4 => ?_), fun z => nomatch z⟩
        exact same (.inr (.inl ⟨hk, fun o => ho ⟨fun x hx => by simpa using o.1 x hx, o.2⟩, rfl⟩)) (by decide) (((e1.trans e2).trans e3).trans e4)
    · refine .no hk fun H2 e2 => ⟨true, kn.nc.se, fun _ a ha => suite_done kn.nc (.inl rfl) fun H3 e3 => Go.here (g_ret (v := .int 1) (ev_var rfl) fun H4 e4 => ?_), fun z => nomatch z⟩
      exact same (.inl ⟨hk, rfl⟩) (by decide) (((e1.trans e2).trans e3).trans e4)
  · subst hd
    refine g_methS1 (m := "press") (by decide +kernel) (by decide +kernel) (by decide +kernel) (ev_var rfl) hb (ev_var rfl) fun H1 e1 => ?_
    have same : ∀ {w : Int} {H2 : Hp}, Due ps ds cs false w → w ≠ 0 → Ex H H2 → Q (.int w) H2 := fun {w H2} hw hn e2 => q w H2 ld ds hw (OffB.of e2) (hb.mono e2) (e2 ld _ hld) (fun z => absurd z hn) (fun _ => rfl) (.inl rfl)
    refine ⟨b, r, la, lo, ld, ps, ds, cs, rfl, hc, hb.mono e1, e1 la _ hla, e1 ld _ hld, hcr.mono e1, h1, by omega, by omega, by omega, h5, ?_⟩
    by_cases hk : Creases (ps.length : Int) cs
    · refine .yes hk ?_
      by_cases ho : (∀ x ∈ cs, x ∈ ds) ∧ freeAt ps (pressed ds cs) = true
      · refine .yes ho fun H2 d o2 i2 hd hd2 => ?_
        refine Go.here (g_next fun H3 e3 => Go.here (g_ret (v := .int 0) (ev_var rfl) fun H4 e4 => ?_))
        have e34 := e3.trans e4
        exact q 0 H4 d (pressed ds cs) (.inr (.inr ⟨hk, ⟨fun x hx => by simpa using ho.1 x hx, ho.2⟩, rfl⟩)) (fun a o ha hao => e34 a o (o2 a o ha (e1 a o hao))) (i2.mono e34) (e34 d _ hd2) (fun _ => rfl) (fun z => absurd rfl z) (.inr (fresh_back e1 hd))
      · refine .no ho fun H2 e2 => ⟨true, kn.st.se, fun _ a ha => suite_done kn.st (.inr rfl) fun H3 e3 => Go.here (g_ret (v := .int 2) (ev_var rfl) fun H4 e4 => ?_), fun z => nomatch z⟩
        exact same (.inr (.inl ⟨hk, fun o => ho ⟨fun x hx => by simpa using o.1 x hx, o.2⟩, rfl⟩)) (by decide) (((e1.trans e2).trans e3).trans e4)
    · refine .no hk fun H2 e2 => ⟨true, kn.nc.se, fun _ a ha => suite_done kn.nc (.inl rfl) fun H3 e3 => Go.here (g_ret (v := .int 1) (ev_var rfl) fun H4 e4 => ?_), fun z => nomatch z⟩
      exact same (.inl ⟨hk, rfl⟩) (by decide) (((e1.trans e2).trans e3).trans e4)
end
end Fo
/-! FoldR24 -/
namespace Fo
open PySem L2 Evl
local macro_rules | `(tactic| walk_at "hl") => `(tactic| first
  | assumption
  | exact upd_same
  | (refine (by assumption : Ex _ _) _ _ ?_; walk_at "hl"))
local macro_rules | `(tactic| walk_at "sq") => `(tactic| first
  | assumption
  | (refine sq_lst ?_; walk_at "hl")
  | (refine ex_l (by assumption) ?_; walk_at "sq"))
local macro_rules | `(tactic| walk_at "st") => `(tactic| first
  | assumption
  | (refine st_of ?_; walk_at "hl")
  | (refine ex_t (by assumption) ?_; walk_at "st"))
local macro_rules | `(tactic| walk_at "sq2") => `(tactic| first
  | assumption
  | (refine Or.inl ?_; walk_at "sq")
  | (refine Or.inr ?_; walk_at "st")
  | (refine Sq2.mono (by assumption) ?_; walk_at "sq2"))
local macro_rules | `(tactic| walk_at "ar") => `(tactic| first
  | assumption
  | omega
  | decide)
local macro_rules | `(tactic| walk_at "lar") => `(tactic| first
  | omega
  | (simp only [List.length_append, List.length_map, List.length_take, List.length_drop, List.length_cons, List.length_nil, List.length_replicate]; omega))
local macro_rules | `(tactic| walk_at "hb") => `(tactic| first
  | skip)
local macro_rules | `(tactic| walk_at "mul") => `(tactic| first
  | (exact Or.inr ⟨by decide, by decide⟩)
  | (exact Or.inl ⟨by decide, by decide⟩)
  | (exact Or.inl ⟨by omega, by omega⟩)
  | (exact Or.inr ⟨by omega, by omega⟩))
local macro_rules | `(tactic| walk_at "div") => `(tactic| first
  | (exact ⟨by decide, by decide⟩)
  | (exact ⟨by omega, by omega⟩))
local macro_rules | `(tactic| walk_at "ea") => `(tactic| first
  | exact ea_nil
  | ((with_reducible refine' ea_cons ?k0 ?k1); (case k0 => walk_at "ev"); (case k1 => walk_at "ea")))
local macro_rules | `(tactic| walk_at "eo") => `(tactic| first
  | exact eo_none
  | ((with_reducible refine' eo_some ?k0); (case k0 => walk_at "ev")))
local macro_rules | `(tactic| walk_at "el") => `(tactic| first
  | ((with_reducible refine' el_lst ?k0 ?k1); (case k0 => walk_at "ea"); (case k1 => (exact Nat.le_of_ble_eq_true rfl)))
  | ((with_reducible refine' el_from ?k0 ?k1 ?k2 ?k3 ?k4); (case k0 => walk_at "ev"); (case k1 => walk_at "eo"); (case k2 => walk_at "sq"); (case k3 => walk_at "ar"); (case k4 => walk_at "lar"))
  | ((with_reducible refine' el_upto ?k0 ?k1 ?k2 ?k3 ?k4); (case k0 => walk_at "ev"); (case k1 => walk_at "eo"); (case k2 => walk_at "sq"); (case k3 => walk_at "ar"); (case k4 => walk_at "lar"))
  | ((with_reducible refine' el_rep1 ?k0 ?k1 ?k2 ?k3); (case k0 => walk_at "el"); (case k1 => walk_at "ev"); (case k2 => walk_at "ar"); (case k3 => walk_at "ar"))
  | ((with_reducible refine' el_cat ?k0 ?k1 ?k2); (case k0 => walk_at "el"); (case k1 => walk_at "el"); (case k2 => walk_at "lar"))
  | ((with_reducible refine' el_callD ?k0 ?k1); (case k0 => walk_at "ea"); (case k1 => walk_at "sp"))
  | ((with_reducible refine' el_list ?k0 ?k1); (case k0 => walk_at "ev"); (case k1 => walk_at "sq"))
  | ((with_reducible refine' el_srt ?k0 ?k1); (case k0 => walk_at "ev"); (case k1 => walk_at "sq"))
  | ((with_reducible refine' el_sortedQ ?k0 ?k1); (case k0 => walk_at "ev"); (case k1 => walk_at "sq2"))
  | ((with_reducible refine' el_rev ?k0 ?k1); (case k0 => walk_at "ev"); (case k1 => walk_at "sq"))
  | ((with_reducible refine' el_step ?k0 ?k1 ?k2); (case k0 => walk_at "ev"); (case k1 => walk_at "eo"); (case k2 => walk_at "sq")))
local macro_rules | `(tactic| walk_at "et") => `(tactic| first
  | ((with_reducible refine' et_test ?k0); (case k0 => walk_at "ev"))
  | ((with_reducible refine' et_B ?k0); (case k0 => walk_at "ev"))
  | ((with_reducible refine' et_not ?k0); (case k0 => walk_at "et"))
  | ((with_reducible refine' et_and ?k0 (fun hb => ?k1)); (case k0 => walk_at "et"); (case k1 => (walk_at "hb"; walk_at "et")))
  | ((with_reducible refine' et_or ?k0 (fun hb => ?k1)); (case k0 => walk_at "et"); (case k1 => (walk_at "hb"; walk_at "et"))))
local macro_rules | `(tactic| walk_at "ev") => `(tactic| first
  | ((with_reducible refine' ev_var ?k0); (case k0 => rfl))
  | exact ev_c
  | ((with_reducible refine' ev_add ?k0 ?k1); (case k0 => walk_at "ev"); (case k1 => walk_at "ev"))
  | ((with_reducible refine' ev_sub ?k0 ?k1); (case k0 => walk_at "ev"); (case k1 => walk_at "ev"))
  | ((with_reducible refine' ev_ixI ?k0 ?k1 ?k2 ?k3 ?k4); (case k0 => walk_at "ev"); (case k1 => walk_at "ev"); (case k2 => walk_at "sq"); (case k3 => walk_at "ar"); (case k4 => walk_at "ar"))
  | ((with_reducible refine' ev_ixT ?k0 ?k1 ?k2 ?k3); (case k0 => walk_at "ev"); (case k1 => walk_at "ev"); (case k2 => walk_at "st"); (case k3 => rfl))
  | ((with_reducible refine' ev_lt ?k0 ?k1); (case k0 => walk_at "ev"); (case k1 => walk_at "ev"))
  | ((with_reducible refine' ev_gt ?k0 ?k1); (case k0 => walk_at "ev"); (case k1 => walk_at "ev"))
  | ((with_reducible refine' ev_le ?k0 ?k1); (case k0 => walk_at "ev"); (case k1 => walk_at "ev"))
  | ((with_reducible refine' ev_ge ?k0 ?k1); (case k0 => walk_at "ev"); (case k1 => walk_at "ev"))
  | ((with_reducible refine' ev_eqI ?k0 ?k1); (case k0 => walk_at "ev"); (case k1 => walk_at "ev"))
  | ((with_reducible refine' ev_neI ?k0 ?k1); (case k0 => walk_at "ev"); (case k1 => walk_at "ev"))
  | ((with_reducible refine' ev_eqB ?k0 ?k1); (case k0 => walk_at "ev"); (case k1 => walk_at "ev"))
  | ((with_reducible refine' ev_neB ?k0 ?k1); (case k0 => walk_at "ev"); (case k1 => walk_at "ev"))
  | ((with_reducible refine' ev_eqS ?k0 ?k1); (case k0 => walk_at "ev"); (case k1 => walk_at "ev"))
  | ((with_reducible refine' ev_neS ?k0 ?k1); (case k0 => walk_at "ev"); (case k1 => walk_at "ev"))
  | ((with_reducible refine' ev_mod ?k0 ?k1 ?k2); (case k0 => walk_at "ev"); (case k1 => walk_at "ev"); (case k2 => walk_at "ar"))
  | ((with_reducible refine' ev_mul ?k0 ?k1 ?k2); (case k0 => walk_at "ev"); (case k1 => walk_at "ev"); (case k2 => walk_at "mul"))
  | ((with_reducible refine' ev_div ?k0 ?k1 ?k2); (case k0 => walk_at "ev"); (case k1 => walk_at "ev"); (case k2 => walk_at "div"))
  | ((with_reducible refine' ev_neg ?k0); (case k0 => walk_at "ev"))
  | ((with_reducible refine' ev_callD ?k0 ?k1); (case k0 => walk_at "ea"); (case k1 => walk_at "sp"))
  | ((with_reducible refine' ev_lenI ?k0 ?k1); (case k0 => walk_at "ev"); (case k1 => walk_at "sq"))
  | ((with_reducible refine' ev_lenQ ?k0 ?k1); (case k0 => walk_at "ev"); (case k1 => walk_at "sq2"))
  | ((with_reducible refine' ev_lenSet ?k0 ?k1 ?k2); (case k0 => walk_at "ev"); (case k1 => walk_at "sq2"); (case k2 => walk_at "ar"))
  | ((with_reducible refine' ev_inI ?k0 ?k1 ?k2); (case k0 => walk_at "ev"); (case k1 => walk_at "ev"); (case k2 => walk_at "sq2"))
  | ((with_reducible refine' ev_notInI ?k0 ?k1 ?k2); (case k0 => walk_at "ev"); (case k1 => walk_at "ev"); (case k2 => walk_at "sq2"))
  | ((with_reducible refine' ev_lenTxt ?k0 ?k1); (case k0 => walk_at "ev"); (case k1 => walk_at "ar"))
  | ((with_reducible refine' ev_lenS ?k0 ?k1); (case k0 => walk_at "ev"); (case k1 => walk_at "ar"))
  | ((with_reducible refine' ev_ixTxt ?k0 ?k1 ?k2 ?k3 ?k4); (case k0 => walk_at "ev"); (case k1 => walk_at "ev"); (case k2 => walk_at "ar"); (case k3 => walk_at "ar"); (case k4 => walk_at "ar"))
  | ((with_reducible refine' ev_ix2 ?k0); (case k0 => walk_at "ev"))
  | ((with_reducible refine' ev_isiI ?k0); (case k0 => walk_at "ev"))
  | ((with_reducible refine' ev_isiL ?k0 ?k1); (case k0 => walk_at "ev"); (case k1 => walk_at "hl"))
  | ((with_reducible refine' ev_isiU ?k0 ?k1); (case k0 => walk_at "ev"); (case k1 => walk_at "hl"))
  | ((with_reducible refine' ev_isiS ?k0); (case k0 => walk_at "ev"))
  | ((with_reducible refine' ev_isiB ?k0); (case k0 => walk_at "ev"))
  | ((with_reducible refine' ev_isN ?k0); (case k0 => walk_at "ev"))
  | ((with_reducible refine' ev_notN ?k0); (case k0 => walk_at "ev"))
  | ((with_reducible refine' ev_notIB ?k0 ?k1); (case k0 => walk_at "ev"); (case k1 => walk_at "ev"))
  | ((with_reducible refine' ev_neNil ?k0 ?k1); (case k0 => walk_at "ev"); (case k1 => walk_at "sq"))
  | ((with_reducible refine' ev_eqNil ?k0 ?k1); (case k0 => walk_at "ev"); (case k1 => walk_at "sq"))
  | ((with_reducible refine' ev_eqL ?k0 ?k1 ?k2 ?k3); (case k0 => walk_at "ev"); (case k1 => walk_at "ev"); (case k2 => walk_at "sq"); (case k3 => walk_at "sq"))
  | ((with_reducible refine' ev_neL ?k0 ?k1 ?k2 ?k3); (case k0 => walk_at "ev"); (case k1 => walk_at "ev"); (case k2 => walk_at "sq"); (case k3 => walk_at "sq"))
  | ((with_reducible refine' ev_min2 ?k0 ?k1); (case k0 => walk_at "ev"); (case k1 => walk_at "ev"))
  | ((with_reducible refine' ev_max2 ?k0 ?k1); (case k0 => walk_at "ev"); (case k1 => walk_at "ev"))
  | ((with_reducible refine' ev_intB ?k0); (case k0 => walk_at "ev"))
  | ((with_reducible refine' ev_andV ?k0 (fun hb => ?k1)); (case k0 => walk_at "ev"); (case k1 => (walk_at "hb"; walk_at "ev")))
  | ((with_reducible refine' ev_orV ?k0 (fun hb => ?k1)); (case k0 => walk_at "ev"); (case k1 => (walk_at "hb"; walk_at "ev")))
  | ((with_reducible refine' ev_notV ?k0); (case k0 => walk_at "ev"))
  | ((with_reducible refine' ev_ifI ?k0 (fun hb => ?k1) (fun hb => ?k2)); (case k0 => walk_at "et"); (case k1 => (walk_at "hb"; walk_at "ev")); (case k2 => (walk_at "hb"; walk_at "ev")))
  | ((with_reducible refine' ev_ifS ?k0 (fun hb => ?k1) (fun hb => ?k2)); (case k0 => walk_at "et"); (case k1 => (walk_at "hb"; walk_at "ev")); (case k2 => (walk_at "hb"; walk_at "ev"))))
local macro_rules | `(tactic| walk_at "hb") => `(tactic| (try simp only [decide_eq_true_eq, decide_eq_false_iff_not, Bool.and_eq_true, Bool.or_eq_true, Bool.or_eq_false_iff, Bool.not_eq_true', Bool.not_eq_false', beq_iff_eq] at *))
local macro_rules | `(tactic| walk_at "sp") => `(tactic| first
  | (refine' v_number ?k0 ?k1 ?k2; (case k0 => walk_at "sq"); (case k1 => walk_at "ar"); (case k2 => walk_at "ar"))
  | (refine' v_drawn ?k0 ?k1; (case k0 => walk_at "sq"); (case k1 => walk_at "ar"))
  | exact v_size
  | exact v_counts
  | (refine' v_wraps ?k0 ?k1 ?k2 ?k3 ?k4; (case k0 => walk_at "sq"); (case k1 => walk_at "ar"); (case k2 => walk_at "ar"); (case k3 => walk_at "ar"); (case k4 => walk_at "ar"))
  | (refine' v_l_wraps ?k0 ?k1 ?k2 ?k3 ?k4; (case k0 => walk_at "sq"); (case k1 => walk_at "ar"); (case k2 => walk_at "ar"); (case k3 => walk_at "ar"); (case k4 => walk_at "ar"))
  | (refine' v_cross ?k0 ?k1 ?k2 ?k3 ?k4; (case k0 => walk_at "sq"); (case k1 => walk_at "ar"); (case k2 => walk_at "ar"); (case k3 => walk_at "ar"); (case k4 => walk_at "ar"))
  | (refine' v_places ?k0 ?k1 ?k2; (case k0 => walk_at "sq"); (case k1 => walk_at "ar"); (case k2 => assumption))
  | (refine' v_letters ?k0 ?k1 ?k2; (case k0 => walk_at "sq"); (case k1 => walk_at "ar"); (case k2 => assumption))
  | (refine' v_l_places ?k0 ?k1 ?k2; (case k0 => walk_at "sq"); (case k1 => walk_at "ar"); (case k2 => assumption))
  | (refine' v_fits ?k0 ?k1 ?k2 ?k3; (case k0 => walk_at "sq"); (case k1 => walk_at "ar"); (case k2 => walk_at "ar"); (case k3 => walk_at "ar"))
  | (refine' v_none ?k0 ?k1 ?k2; (case k0 => walk_at "sq"); (case k1 => walk_at "ar"); (case k2 => walk_at "ar")))
local macro_rules | `(tactic| walk_at "sp") => `(tactic| first
  | (refine' v_turned ?k0 ?k1 ?k2; (case k0 => walk_at "sq"); (case k1 => walk_at "ar"); (case k2 => assumption))
  | (refine' v_same ?k0 ?k1 ?k2; (case k0 => walk_at "hl"); (case k1 => walk_at "sq"); (case k2 => walk_at "ar"))
  | (refine' v_told ?k0 ?k1 ?k2; (case k0 => walk_at "sq"); (case k1 => walk_at "hl"); (case k2 => assumption))
  | (refine' v_parted ?k0 ?k1 ?k2 ?k3; (case k0 => walk_at "sq"); (case k1 => walk_at "ar"); (case k2 => walk_at "ar"); (case k3 => assumption)))
local macro_rules | `(tactic| walk_at "sp") => `(tactic| first
  | (refine' v_is_pile ?k0 ?k1 ?k2 ?k3; (case k0 => walk_at "hl"); (case k1 => assumption); (case k2 => walk_at "ar"); (case k3 => walk_at "ar")))
local macro_rules | `(tactic| walk_at "sp") => `(tactic| first
  | (refine' v_held ?k0 ?k1 ?k2 ?k3 ?k4 ?k5; (case k0 => walk_at "sq"); (case k1 => walk_at "st"); (case k2 => walk_at "ar"); (case k3 => (refine ⟨?_, ?_⟩ <;> walk_at "ar")); (case k4 => (refine ⟨?_, ?_⟩ <;> walk_at "ar")); (case k5 => (refine ⟨?_, ?_⟩ <;> walk_at "ar")))
  | (refine' v_l_held ?k0 ?k1 ?k2 ?k3 ?k4; (case k0 => walk_at "sq"); (case k1 => walk_at "ar"); (case k2 => (refine ⟨?_, ?_⟩ <;> walk_at "ar")); (case k3 => (refine ⟨?_, ?_⟩ <;> walk_at "ar")); (case k4 => (refine ⟨?_, ?_⟩ <;> walk_at "ar")))
  | (refine' v_lies ?k0 ?k1 ?k2 ?k3 ?k4; (case k0 => walk_at "sq"); (case k1 => walk_at "st"); (case k2 => walk_at "ar"); (case k3 => (refine ⟨?_, ?_⟩ <;> walk_at "ar")); (case k4 => (refine ⟨?_, ?_⟩ <;> walk_at "ar")))
  | (refine' v_judged ?k0 ?k1 ?k2 ?k3; (case k0 => walk_at "sq"); (case k1 => walk_at "ar"); (case k2 => assumption); (case k3 => assumption))
  | (refine' v_l_free ?k0 ?k1 ?k2 ?k3 ?k4 ?k5; (case k0 => walk_at "sq"); (case k1 => walk_at "sq"); (case k2 => walk_at "ar"); (case k3 => walk_at "ar"); (case k4 => walk_at "ar"); (case k5 => assumption))
  | (refine' v_are_free ?k0 ?k1 ?k2 ?k3 ?k4 ?k5; (case k0 => walk_at "sq"); (case k1 => walk_at "sq2"); (case k2 => walk_at "ar"); (case k3 => walk_at "ar"); (case k4 => walk_at "ar"); (case k5 => assumption)))
section
variable {K : PySem.W.Frag} {c : Cs}
theorem srt_filter (D : List Int) (f : Int → Bool) : (srt D).filter f = srt (D.filter f) := srt_eq ((srt_perm D).filter f) ((srt_asc D).filter f)
theorem g_asgC3U {σ : L2.St} {H : Hp} {sp : Sp} {E : XK} {ta tb tc : TE} {i : Nat} {D : Ends} {tz : TS} {x z : V} {xs : List V} (h1 : Ev ta σ H x) (h2 : EvU tb σ H xs) (h3 : Ev tc σ H z) (hs : ∀ t H1, H t = none → Ex H H1 → H1 t = some (.tup xs) → sp [x, .ref t, z] H1 (fun v H2 => tz D (σ.set i (some v)) H2) E) :
    Go (tSeq (tAsg (tCall sp [] E (tCons ta (tCons tb (tCons tc tNil)))) (gName i)) tz) D σ H := fun H1 e => h1 H1 e _ fun H2 e2 => h2 H2 (e.trans e2) _ fun t H3 ht e3 h3' => h3 H3 ((e.trans e2).trans e3) _ fun H4 e4 => by
  show sp ([x, .ref t, z] ++ []) H4 _ E
  exact hs t H4 (fresh_back (e.trans e2) ht) (((e.trans e2).trans e3).trans e4) (e4 t _ h3')
theorem read_l_behind (vs : List V) (H : Hp) (Q : VK) (E : XK) (h : sp_l_behind K c vs H Q E) : t_l_behind K c E { nx := fun _ H' => Q .non H', rt := Q } (start ["_law_bench", "_law_at", "_law_loose", "_law_number_here", "_law_drawing", "_law_creases_here", "_law_given", "_law_word", "_law_crease"] vs) H := by
  obtain ⟨b, g, l, la, lo, ld, ps, D, m, rfl, hc, kn, hb, hla, hld, hg, hl, hk, h1, h2, m0, m1, q⟩ := h
  have hDl : D.length ≤ 100 := by have := creases_len hk (by omega); omega
  have hsl := srt_len D
  refine Go.here (g_asg (v := .bl (decide (m % 2 = 0))) (ev_eqI (ev_mod (ev_var rfl) ev_c (by decide)) ev_c) ?_)
  generalize decide (m % 2 = 0) = dr
  refine g_asgP (elp_call (vs := [.int (ps.length : Int), .ref l, .int (m / 4)]) (ea_cons (ev_lenI (ev_var rfl) (sq_lst hg)) (ea_cons (ev_var rfl) (ea_cons (ev_div (ev_var rfl) ev_c ⟨by decide, by decide⟩) ea_nil))) (v_creases (sq_lst hl) (by omega) (by omega) (by omega) (by omega) (by omega))) fun xs r H1 hP hr e1 hlr => ?_
  obtain ⟨cs, rfl, hcl⟩ := hP
  refine g_asgL (xs := cs.map V.int) (el_list (ev_var rfl) (sq_lst hlr)) fun gv H2 hgv e2 hlg => ?_
  have e02 := e1.trans e2
  refine g_cutM (fun σ H' => ∃ (w : Int) (d : Addr) (D' : List Int), σ = [some (.ref b), some (.ref g), some (.ref l), some (.int m), some (.bl dr), some (.ref r), some (.ref gv), some (.int w), none] ∧ Due ps D cs dr w ∧ OffB b H2 H' ∧ InsB c H' b la lo d ∧ H' d = some (.lst (D'.map V.int)) ∧ (w = 0 → D' = after D cs dr) ∧ (w ≠ 0 → D' = D) ∧ (d = ld ∨ H2 d = none)) ?_ (fun σ H' hM => ?_)
  · refine g_ifC (b := decide (m / 2 % 2 = 1)) (et_test (ev_eqI (ev_mod (ev_div (ev_var rfl) ev_c ⟨by decide, by decide⟩) ev_c (by decide)) ev_c)) (fun _ => ?_) (fun _ => ?_)
    · refine g_asgC3U (x := .ref b) (z := .bl dr) (ev_var rfl) (eu_of (ev_var rfl) (sq_lst (e2 r _ hlr))) (ev_var rfl) fun t H3 ht e3 hlt => ?_
      have e03 := e02.trans e3
      exact ⟨b, t, la, lo, ld, ps, D, cs, dr, rfl, hc, kn, hb.mono e03, e03 la _ hla, e03 ld _ hld, .inr (st_of hlt), h1, h2, hDl, hcl, hk.bnd, fun w H' d D' hw o i hd z0 z1 hn => Go.here (g_next fun H4 e4 =>
        ⟨w, d, D', rfl, hw, fun a u ha hu => e4 a u (o a u ha (e3 a u hu)), i.mono e4, e4 d _ hd, z0, z1, hn.imp id fun z => fresh_back e3 z⟩)⟩
    · refine g_asgC (vs := [.ref b, .ref gv, .bl dr]) (ea_cons (ev_var rfl) (ea_cons (ev_var rfl) (ea_cons (ev_var rfl) ea_nil))) fun H3 e3 => ?_
      have e03 := e02.trans e3
      exact ⟨b, gv, la, lo, ld, ps, D, cs, dr, rfl, hc, kn, hb.mono e03, e03 la _ hla, e03 ld _ hld, .inl (sq_lst (e3 gv _ hlg)), h1, h2, hDl, hcl, hk.bnd, fun w H' d D' hw o i hd z0 z1 hn => Go.here (g_next fun H4 e4 =>
        ⟨w, d, D', rfl, hw, fun a u ha hu => e4 a u (o a u ha (e3 a u hu)), i.mono e4, e4 d _ hd, z0, z1, hn.imp id fun z => fresh_back e3 z⟩)⟩
  · obtain ⟨w, d, D', rfl, hw, o, i, hd, z0, z1, hn⟩ := hM
    have hb2 := hb.mono e02
    have hg' := o g _ (ne_ins hb2 (e02 g _ hg)) (e02 g _ hg)
    have hl' := o l _ (ne_ins hb2 (e02 l _ hl)) (e02 l _ hl)
    have hr' := o r _ (ne_ins hb2 (e2 r _ hlr)) (e2 r _ hlr)
    have hgv' := o gv _ (ne_ins hb2 hlg) hlg
    have hdue := Due.perm (srt_perm D).symm hw
    refine g_no (et_is (et_or (et_test (ev_neI (ev_var rfl) (ev_callD (vs := [.ref g, .ref l, .ref r, .bl dr]) (ea_cons (ev_var rfl) (ea_cons (ev_var rfl) (ea_cons (ev_var rfl) (ea_cons (ev_var rfl) ea_nil)))) (v_due hdue (sq_lst hg') hl' hr' h1 h2 (by omega) hcl (fun x hx => hk.bnd x ((srt_perm D).mem_iff.mp hx)))))) fun _ => et_test (ev_neL (ev_var rfl) (ev_var rfl) (sq_lst hgv') (sq_lst hr'))) (by simp)) (g_nextS ?_)
    refine g_app (xs := cs.map V.int) hgv' (ev_var rfl) ev_c (by rw [List.length_map]; omega) fun H4 e4 => ?_
    have ngv : ∀ (a : Addr) (u : HO), H1 a = some u → a ≠ gv := fun a u ha z => by
      rw [z, hgv] at ha
      cases ha
    have nb : b ≠ gv := by
      obtain ⟨dx, hx⟩ := hb.mono e1
      exact ngv b _ hx
    have nd : d ≠ gv := by
      rcases hn with rfl | hn
      · exact ngv _ _ (e1 _ _ hld)
      · intro z
        rw [z, hlg] at hn
        cases hn
    have nl : l ≠ gv := ngv _ _ (e1 _ _ hl)
    have nr : r ≠ gv := ngv _ _ hlr
    generalize hH5 : upd H4 gv (.lst (cs.map V.int ++ [.int 0])) = H5
    have up : ∀ a u, a ≠ gv → H' a = some u → H5 a = some u := fun a u ha hu => by
      rw [← hH5, upd_ne ha]
      exact e4 a u hu
    have off : ∀ {H6 : Hp}, Ex H5 H6 → OffB b H H6 := fun {H6} e6 a u ha hu => e6 a u (up a u (ngv a u (e1 a u hu)) (o a u ha (e02 a u hu)))
    have ins5 : InsB c H5 b la lo d := by
      obtain ⟨dx, hx⟩ := i
      exact ⟨dx, up b _ nb hx⟩
    have hnd : d = ld ∨ H d = none := hn.imp id fun z => fresh_back e02 z
    have hd5 := up d _ nd hd
    have hl5 := up l _ nl hl'
    have hr5 := up r _ nr hr'
    refine Go.here (g_when (b := !decide (w = 0)) (et_test (ev_neI (ev_var rfl) ev_c)) (fun hwz => ?_) (fun hwz => ?_))
    · have hw0 : w ≠ 0 := by simpa using hwz
      have := z1 hw0
      subst this
      exact g_ret (v := .ref l) (ev_var rfl) fun H6 e6 => q H6 l d D' (off e6) (ins5.mono e6) (e6 d _ hd5) hk (e6 l _ hl5) hnd (.inl rfl)
    · have hw0 : w = 0 := by simpa using hwz
      have hD' := z0 hw0
      subst hw0
      obtain ⟨hcr, hok⟩ : Creases (ps.length : Int) cs ∧ Okay ps D cs dr := by
        rcases hw with ⟨_, z⟩ | ⟨_, _, z⟩ | ⟨x, y, _⟩
        · exact absurd z (by decide)
        · exact absurd z (by decide)
        · exact ⟨x, y⟩
      have hk' : Creases (ps.length : Int) D' := by
        rw [hD']
        exact after_creases hk hcr hok
      cases dr with
      | true =>
        have hD2 : D' = D ++ cs := hD'
        refine g_yes (et_B (ev_var rfl)) (g_retL (xs := (srt D').map V.int) (el_sortedN (ns := srt D ++ cs) (ms := srt D') ?_ (fun ms hp ho => ?_)) fun p H6 hp e6 hlp => q H6 p d D' (off e6) (ins5.mono e6) (e6 d _ hd5) hk' hlp hnd (.inr ?_))
        · rw [List.map_append]
          exact el_catVV (ev_var rfl) (ev_var rfl) hl5 hr5 (by simp only [List.length_map]; omega)
        · rw [hD2]
          exact srt_eq (hp.trans ((srt_perm D).append_right _)) ho
        · cases hh : H p with
          | none => rfl
          | some u =>
            by_cases hpb : p = b
            · obtain ⟨dx, hx⟩ := ins5
              rw [hpb, hx] at hp
              cases hp
            · rw [off (Ex.refl H5) p u hpb hh] at hp
              cases hp
      | false =>
        have hD2 : D' = pressed D cs := hD'
        refine g_no (et_B (ev_var rfl)) (g_nextS (g_retL (xs := ((srt D).filter fun x => !decide (x ∈ cs)).map V.int) (el_filt (fun x => !decide (x ∈ cs)) (ev_var rfl) (sq_lst hl5) (by omega) (fun _ => rfl) (fun _ => rfl) (fun x H6 e6 hx => et_test (ev_notInI (ev_var rfl) (ev_var rfl) (.inl (sq_lst (e6 r _ hr5)))))) fun p H6 hp e6 hlp => q H6 p d D' (off e6) (ins5.mono e6) (e6 d _ hd5) hk' ?_ hnd (.inr ?_)))
        · rw [hD2]
          unfold pressed
          rw [← srt_filter]
          exact hlp
        · cases hh : H p with
          | none => rfl
          | some u =>
            by_cases hpb : p = b
            · obtain ⟨dx, hx⟩ := ins5
              rw [hpb, hx] at hp
              cases hp
            · rw [off (Ex.refl H5) p u hpb hh] at hp
              cases hp
end
end Fo
/-! FoldR25 -/
namespace Fo
open PySem L2 Evl
local macro_rules | `(tactic| walk_at "hl") => `(tactic| first
  | assumption
  | exact upd_same
  | (refine (by assumption : Ex _ _) _ _ ?_; walk_at "hl"))
local macro_rules | `(tactic| walk_at "sq") => `(tactic| first
  | assumption
  | (refine sq_lst ?_; walk_at "hl")
  | (refine ex_l (by assumption) ?_; walk_at "sq"))
local macro_rules | `(tactic| walk_at "st") => `(tactic| first
  | assumption
  | (refine st_of ?_; walk_at "hl")
  | (refine ex_t (by assumption) ?_; walk_at "st"))
local macro_rules | `(tactic| walk_at "sq2") => `(tactic| first
  | assumption
  | (refine Or.inl ?_; walk_at "sq")
  | (refine Or.inr ?_; walk_at "st")
  | (refine Sq2.mono (by assumption) ?_; walk_at "sq2"))
local macro_rules | `(tactic| walk_at "ar") => `(tactic| first
  | assumption
  | omega
  | decide)
local macro_rules | `(tactic| walk_at "lar") => `(tactic| first
  | omega
  | (simp only [List.length_append, List.length_map, List.length_take, List.length_drop, List.length_cons, List.length_nil, List.length_replicate]; omega))
local macro_rules | `(tactic| walk_at "hb") => `(tactic| first
  | skip)
local macro_rules | `(tactic| walk_at "mul") => `(tactic| first
  | (exact Or.inr ⟨by decide, by decide⟩)
  | (exact Or.inl ⟨by decide, by decide⟩)
  | (exact Or.inl ⟨by omega, by omega⟩)
  | (exact Or.inr ⟨by omega, by omega⟩))
local macro_rules | `(tactic| walk_at "div") => `(tactic| first
  | (exact ⟨by decide, by decide⟩)
  | (exact ⟨by omega, by omega⟩))
local macro_rules | `(tactic| walk_at "ea") => `(tactic| first
  | exact ea_nil
  | ((with_reducible refine' ea_cons ?k0 ?k1); (case k0 => walk_at "ev"); (case k1 => walk_at "ea")))
local macro_rules | `(tactic| walk_at "eo") => `(tactic| first
  | exact eo_none
  | ((with_reducible refine' eo_some ?k0); (case k0 => walk_at "ev")))
local macro_rules | `(tactic| walk_at "el") => `(tactic| first
  | ((with_reducible refine' el_lst ?k0 ?k1); (case k0 => walk_at "ea"); (case k1 => (exact Nat.le_of_ble_eq_true rfl)))
  | ((with_reducible refine' el_from ?k0 ?k1 ?k2 ?k3 ?k4); (case k0 => walk_at "ev"); (case k1 => walk_at "eo"); (case k2 => walk_at "sq"); (case k3 => walk_at "ar"); (case k4 => walk_at "lar"))
  | ((with_reducible refine' el_upto ?k0 ?k1 ?k2 ?k3 ?k4); (case k0 => walk_at "ev"); (case k1 => walk_at "eo"); (case k2 => walk_at "sq"); (case k3 => walk_at "ar"); (case k4 => walk_at "lar"))
  | ((with_reducible refine' el_rep1 ?k0 ?k1 ?k2 ?k3); (case k0 => walk_at "el"); (case k1 => walk_at "ev"); (case k2 => walk_at "ar"); (case k3 => walk_at "ar"))
  | ((with_reducible refine' el_cat ?k0 ?k1 ?k2); (case k0 => walk_at "el"); (case k1 => walk_at "el"); (case k2 => walk_at "lar"))
  | ((with_reducible refine' el_callD ?k0 ?k1); (case k0 => walk_at "ea"); (case k1 => walk_at "sp"))
  | ((with_reducible refine' el_list ?k0 ?k1); (case k0 => walk_at "ev"); (case k1 => walk_at "sq"))
  | ((with_reducible refine' el_srt ?k0 ?k1); (case k0 => walk_at "ev"); (case k1 => walk_at "sq"))
  | ((with_reducible refine' el_sortedQ ?k0 ?k1); (case k0 => walk_at "ev"); (case k1 => walk_at "sq2"))
  | ((with_reducible refine' el_rev ?k0 ?k1); (case k0 => walk_at "ev"); (case k1 => walk_at "sq"))
  | ((with_reducible refine' el_step ?k0 ?k1 ?k2); (case k0 => walk_at "ev"); (case k1 => walk_at "eo"); (case k2 => walk_at "sq")))
local macro_rules | `(tactic| walk_at "et") => `(tactic| first
  | ((with_reducible refine' et_test ?k0); (case k0 => walk_at "ev"))
  | ((with_reducible refine' et_B ?k0); (case k0 => walk_at "ev"))
  | ((with_reducible refine' et_not ?k0); (case k0 => walk_at "et"))
  | ((with_reducible refine' et_and ?k0 (fun hb => ?k1)); (case k0 => walk_at "et"); (case k1 => (walk_at "hb"; walk_at "et")))
  | ((with_reducible refine' et_or ?k0 (fun hb => ?k1)); (case k0 => walk_at "et"); (case k1 => (walk_at "hb"; walk_at "et"))))
local macro_rules | `(tactic| walk_at "ev") => `(tactic| first
  | ((with_reducible refine' ev_var ?k0); (case k0 => rfl))
  | exact ev_c
  | ((with_reducible refine' ev_add ?k0 ?k1); (case k0 => walk_at "ev"); (case k1 => walk_at "ev"))
  | ((with_reducible refine' ev_sub ?k0 ?k1); (case k0 => walk_at "ev"); (case k1 => walk_at "ev"))
  | ((with_reducible refine' ev_ixI ?k0 ?k1 ?k2 ?k3 ?k4); (case k0 => walk_at "ev"); (case k1 => walk_at "ev"); (case k2 => walk_at "sq"); (case k3 => walk_at "ar"); (case k4 => walk_at "ar"))
  | ((with_reducible refine' ev_ixT ?k0 ?k1 ?k2 ?k3); (case k0 => walk_at "ev"); (case k1 => walk_at "ev"); (case k2 => walk_at "st"); (case k3 => rfl))
  | ((with_reducible refine' ev_lt ?k0 ?k1); (case k0 => walk_at "ev"); (case k1 => walk_at "ev"))
  | ((with_reducible refine' ev_gt ?k0 ?k1); (case k0 => walk_at "ev"); (case k1 => walk_at "ev"))
  | ((with_reducible refine' ev_le ?k0 ?k1); (case k0 => walk_at "ev"); (case k1 => walk_at "ev"))
  | ((with_reducible refine' ev_ge ?k0 ?k1); (case k0 => walk_at "ev"); (case k1 => walk_at "ev"))
  | ((with_reducible refine' ev_eqI ?k0 ?k1); (case k0 => walk_at "ev"); (case k1 => walk_at "ev"))
  | ((with_reducible refine' ev_neI ?k0 ?k1); (case k0 => walk_at "ev"); (case k1 => walk_at "ev"))
  | ((with_reducible refine' ev_eqB ?k0 ?k1); (case k0 => walk_at "ev"); (case k1 => walk_at "ev"))
  | ((with_reducible refine' ev_neB ?k0 ?k1); (case k0 => walk_at "ev"); (case k1 => walk_at "ev"))
  | ((with_reducible refine' ev_eqS ?k0 ?k1); (case k0 => walk_at "ev"); (case k1 => walk_at "ev"))
  | ((with_reducible refine' ev_neS ?k0 ?k1); (case k0 => walk_at "ev"); (case k1 => walk_at "ev"))
  | ((with_reducible refine' ev_mod ?k0 ?k1 ?k2); (case k0 => walk_at "ev"); (case k1 => walk_at "ev"); (case k2 => walk_at "ar"))
  | ((with_reducible refine' ev_mul ?k0 ?k1 ?k2); (case k0 => walk_at "ev"); (case k1 => walk_at "ev"); (case k2 => walk_at "mul"))
  | ((with_reducible refine' ev_div ?k0 ?k1 ?k2); (case k0 => walk_at "ev"); (case k1 => walk_at "ev"); (case k2 => walk_at "div"))
  | ((with_reducible refine' ev_neg ?k0); (case k0 => walk_at "ev"))
  | ((with_reducible refine' ev_callD ?k0 ?k1); (case k0 => walk_at "ea"); (case k1 => walk_at "sp"))
  | ((with_reducible refine' ev_lenI ?k0 ?k1); (case k0 => walk_at "ev"); (case k1 => walk_at "sq"))
  | ((with_reducible refine' ev_lenQ ?k0 ?k1); (case k0 => walk_at "ev"); (case k1 => walk_at "sq2"))
  | ((with_reducible refine' ev_lenSet ?k0 ?k1 ?k2); (case k0 => walk_at "ev"); (case k1 => walk_at "sq2"); (case k2 => walk_at "ar"))
  | ((with_reducible refine' ev_inI ?k0 ?k1 ?k2); (case k0 => walk_at "ev"); (case k1 => walk_at "ev"); (case k2 => walk_at "sq2"))
  | ((with_reducible refine' ev_notInI ?k0 ?k1 ?k2); (case k0 => walk_at "ev"); (case k1 => walk_at "ev"); (case k2 => walk_at "sq2"))
  | ((with_reducible refine' ev_lenTxt ?k0 ?k1); (case k0 => walk_at "ev"); (case k1 => walk_at "ar"))
  | ((with_reducible refine' ev_lenS ?k0 ?k1); (case k0 => walk_at "ev"); (case k1 => walk_at "ar"))
  | ((with_reducible refine' ev_ixTxt ?k0 ?k1 ?k2 ?k3 ?k4); (case k0 => walk_at "ev"); (case k1 => walk_at "ev"); (case k2 => walk_at "ar"); (case k3 => walk_at "ar"); (case k4 => walk_at "ar"))
  | ((with_reducible refine' ev_ix2 ?k0); (case k0 => walk_at "ev"))
  | ((with_reducible refine' ev_isiI ?k0); (case k0 => walk_at "ev"))
  | ((with_reducible refine' ev_isiL ?k0 ?k1); (case k0 => walk_at "ev"); (case k1 => walk_at "hl"))
  | ((with_reducible refine' ev_isiU ?k0 ?k1); (case k0 => walk_at "ev"); (case k1 => walk_at "hl"))
  | ((with_reducible refine' ev_isiS ?k0); (case k0 => walk_at "ev"))
  | ((with_reducible refine' ev_isiB ?k0); (case k0 => walk_at "ev"))
  | ((with_reducible refine' ev_isN ?k0); (case k0 => walk_at "ev"))
  | ((with_reducible refine' ev_notN ?k0); (case k0 => walk_at "ev"))
  | ((with_reducible refine' ev_notIB ?k0 ?k1); (case k0 => walk_at "ev"); (case k1 => walk_at "ev"))
  | ((with_reducible refine' ev_neNil ?k0 ?k1); (case k0 => walk_at "ev"); (case k1 => walk_at "sq"))
  | ((with_reducible refine' ev_eqNil ?k0 ?k1); (case k0 => walk_at "ev"); (case k1 => walk_at "sq"))
  | ((with_reducible refine' ev_eqL ?k0 ?k1 ?k2 ?k3); (case k0 => walk_at "ev"); (case k1 => walk_at "ev"); (case k2 => walk_at "sq"); (case k3 => walk_at "sq"))
  | ((with_reducible refine' ev_neL ?k0 ?k1 ?k2 ?k3); (case k0 => walk_at "ev"); (case k1 => walk_at "ev"); (case k2 => walk_at "sq"); (case k3 => walk_at "sq"))
  | ((with_reducible refine' ev_min2 ?k0 ?k1); (case k0 => walk_at "ev"); (case k1 => walk_at "ev"))
  | ((with_reducible refine' ev_max2 ?k0 ?k1); (case k0 => walk_at "ev"); (case k1 => walk_at "ev"))
  | ((with_reducible refine' ev_intB ?k0); (case k0 => walk_at "ev"))
  | ((with_reducible refine' ev_andV ?k0 (fun hb => ?k1)); (case k0 => walk_at "ev"); (case k1 => (walk_at "hb"; walk_at "ev")))
  | ((with_reducible refine' ev_orV ?k0 (fun hb => ?k1)); (case k0 => walk_at "ev"); (case k1 => (walk_at "hb"; walk_at "ev")))
  | ((with_reducible refine' ev_notV ?k0); (case k0 => walk_at "ev"))
  | ((with_reducible refine' ev_ifI ?k0 (fun hb => ?k1) (fun hb => ?k2)); (case k0 => walk_at "et"); (case k1 => (walk_at "hb"; walk_at "ev")); (case k2 => (walk_at "hb"; walk_at "ev")))
  | ((with_reducible refine' ev_ifS ?k0 (fun hb => ?k1) (fun hb => ?k2)); (case k0 => walk_at "et"); (case k1 => (walk_at "hb"; walk_at "ev")); (case k2 => (walk_at "hb"; walk_at "ev"))))
local macro_rules | `(tactic| walk_at "hb") => `(tactic| (try simp only [decide_eq_true_eq, decide_eq_false_iff_not, Bool.and_eq_true, Bool.or_eq_true, Bool.or_eq_false_iff, Bool.not_eq_true', Bool.not_eq_false', beq_iff_eq] at *))
local macro_rules | `(tactic| walk_at "sp") => `(tactic| first
  | (refine' v_number ?k0 ?k1 ?k2; (case k0 => walk_at "sq"); (case k1 => walk_at "ar"); (case k2 => walk_at "ar"))
  | (refine' v_drawn ?k0 ?k1; (case k0 => walk_at "sq"); (case k1 => walk_at "ar"))
  | exact v_size
  | exact v_counts
  | (refine' v_wraps ?k0 ?k1 ?k2 ?k3 ?k4; (case k0 => walk_at "sq"); (case k1 => walk_at "ar"); (case k2 => walk_at "ar"); (case k3 => walk_at "ar"); (case k4 => walk_at "ar"))
  | (refine' v_l_wraps ?k0 ?k1 ?k2 ?k3 ?k4; (case k0 => walk_at "sq"); (case k1 => walk_at "ar"); (case k2 => walk_at "ar"); (case k3 => walk_at "ar"); (case k4 => walk_at "ar"))
  | (refine' v_cross ?k0 ?k1 ?k2 ?k3 ?k4; (case k0 => walk_at "sq"); (case k1 => walk_at "ar"); (case k2 => walk_at "ar"); (case k3 => walk_at "ar"); (case k4 => walk_at "ar"))
  | (refine' v_places ?k0 ?k1 ?k2; (case k0 => walk_at "sq"); (case k1 => walk_at "ar"); (case k2 => assumption))
  | (refine' v_letters ?k0 ?k1 ?k2; (case k0 => walk_at "sq"); (case k1 => walk_at "ar"); (case k2 => assumption))
  | (refine' v_l_places ?k0 ?k1 ?k2; (case k0 => walk_at "sq"); (case k1 => walk_at "ar"); (case k2 => assumption))
  | (refine' v_fits ?k0 ?k1 ?k2 ?k3; (case k0 => walk_at "sq"); (case k1 => walk_at "ar"); (case k2 => walk_at "ar"); (case k3 => walk_at "ar"))
  | (refine' v_none ?k0 ?k1 ?k2; (case k0 => walk_at "sq"); (case k1 => walk_at "ar"); (case k2 => walk_at "ar")))
local macro_rules | `(tactic| walk_at "sp") => `(tactic| first
  | (refine' v_turned ?k0 ?k1 ?k2; (case k0 => walk_at "sq"); (case k1 => walk_at "ar"); (case k2 => assumption))
  | (refine' v_same ?k0 ?k1 ?k2; (case k0 => walk_at "hl"); (case k1 => walk_at "sq"); (case k2 => walk_at "ar"))
  | (refine' v_told ?k0 ?k1 ?k2; (case k0 => walk_at "sq"); (case k1 => walk_at "hl"); (case k2 => assumption))
  | (refine' v_parted ?k0 ?k1 ?k2 ?k3; (case k0 => walk_at "sq"); (case k1 => walk_at "ar"); (case k2 => walk_at "ar"); (case k3 => assumption)))
local macro_rules | `(tactic| walk_at "sp") => `(tactic| first
  | (refine' v_is_pile ?k0 ?k1 ?k2 ?k3; (case k0 => walk_at "hl"); (case k1 => assumption); (case k2 => walk_at "ar"); (case k3 => walk_at "ar")))
local macro_rules | `(tactic| walk_at "sp") => `(tactic| first
  | (refine' v_held ?k0 ?k1 ?k2 ?k3 ?k4 ?k5; (case k0 => walk_at "sq"); (case k1 => walk_at "st"); (case k2 => walk_at "ar"); (case k3 => (refine ⟨?_, ?_⟩ <;> walk_at "ar")); (case k4 => (refine ⟨?_, ?_⟩ <;> walk_at "ar")); (case k5 => (refine ⟨?_, ?_⟩ <;> walk_at "ar")))
  | (refine' v_l_held ?k0 ?k1 ?k2 ?k3 ?k4; (case k0 => walk_at "sq"); (case k1 => walk_at "ar"); (case k2 => (refine ⟨?_, ?_⟩ <;> walk_at "ar")); (case k3 => (refine ⟨?_, ?_⟩ <;> walk_at "ar")); (case k4 => (refine ⟨?_, ?_⟩ <;> walk_at "ar")))
  | (refine' v_lies ?k0 ?k1 ?k2 ?k3 ?k4; (case k0 => walk_at "sq"); (case k1 => walk_at "st"); (case k2 => walk_at "ar"); (case k3 => (refine ⟨?_, ?_⟩ <;> walk_at "ar")); (case k4 => (refine ⟨?_, ?_⟩ <;> walk_at "ar")))
  | (refine' v_judged ?k0 ?k1 ?k2 ?k3; (case k0 => walk_at "sq"); (case k1 => walk_at "ar"); (case k2 => assumption); (case k3 => assumption))
  | (refine' v_l_free ?k0 ?k1 ?k2 ?k3 ?k4 ?k5; (case k0 => walk_at "sq"); (case k1 => walk_at "sq"); (case k2 => walk_at "ar"); (case k3 => walk_at "ar"); (case k4 => walk_at "ar"); (case k5 => assumption))
  | (refine' v_are_free ?k0 ?k1 ?k2 ?k3 ?k4 ?k5; (case k0 => walk_at "sq"); (case k1 => walk_at "sq2"); (case k2 => walk_at "ar"); (case k3 => walk_at "ar"); (case k4 => walk_at "ar"); (case k5 => assumption)))
section
variable {K : PySem.W.Frag} {c : Cs} {σ : L2.St} {H : Hp} {ta tb te tl tx ty : TE} {D : Ends} {tu tz : TS} {pss : List (List Int)}
/-- [list(x) for x in lists] -/
theorem ew_copy {a : Addr} {ts : List Addr} {j : Nat} (h : Ev tl σ H (.ref a)) (hx : H a = some (.lst (ts.map V.ref))) (hr : Rows H ts pss) (hz : pss.length ≤ 40000) (hw : ∀ x, wipe ((wipe σ [j]).set j (some x)) [j] = wipe σ [j]) (hv : ∀ x, ((wipe σ [j]).set j (some x))[j]? = some (some x)) :
    EvW (tLc (iList K tl) (gName j) tYes (tCB (rListS K) (tCons (tVar j) tNil)) [j]) σ H pss := fun H0 e Q qq => h H0 e _ fun H1 e1 => by
  have eH := e.trans e1
  refine ⟨a, rfl, ⟨_, sq_of (eH a _ hx)⟩, fun Dl hD => lc_list (xs := ts.map V.ref) (fun i H' => ∃ us : List Addr, Ex H1 H' ∧ H' Dl = some (.lst (us.map V.ref)) ∧ Dl ∉ us ∧ (∀ t ∈ us, H1 t = none) ∧ Rows H' us (pss.take i)) ⟨[], Ex.new hD, upd_same, by simp, by simp, Rows.nil⟩ (fun i H' _ p => ?_) (fun i x H' hi p => ⟨hw x, ?_⟩) (fun H' p => ?_)⟩
  · obtain ⟨_, e2, _⟩ := p
    exact sq_of (e2 a _ (eH a _ hx))
  · obtain ⟨us, e2, p2, p3, p4, p5⟩ := p
    obtain ⟨t, ps, rfl, h1, h2, h3⟩ := hr.getT hi
    refine el_list (K := K) (ta := tVar j) (σ := (wipe σ [j]).set j (some (.ref t))) (H := H') (ev_var (hv _)) (sq_of (e2 t _ (eH t _ h3))) H' (Ex.refl _) _ fun q H4 hq e4 h4 => ⟨us.map V.ref, e4 Dl _ p2, ?_, us ++ [q], (Ex.mut (e2.trans e4) hD), ?_, ?_, fun t' ht' => ?_, ?_⟩
    · have h9 := p5.1
      rw [List.length_take] at h9
      rw [List.length_map]
      exact sz_lt (by omega)
    · rw [List.map_append]
      exact upd_same
    · simp only [List.mem_append, List.mem_singleton, not_or]
      refine ⟨p3, fun z => ?_⟩
      rw [← z, p2] at hq
      cases hq
    · rcases List.mem_append.mp ht' with m | m
      · exact p4 t' m
      · rw [List.mem_singleton.mp m]
        exact fresh_back e2 hq
    · rw [take_more h2]
      refine Rows.app ((p5.mono e4).mut p3) (Rows.one ((upd_ne fun z => ?_).trans h4))
      rw [z, p2] at hq
      cases hq
  · obtain ⟨us, e2, p2, p3, p4, p5⟩ := p
    rw [List.length_map, hr.1, List.take_length] at p5
    exact qq Dl us H' (fresh_back e1 hD) (fun t m => fresh_back e1 (p4 t m)) (e1.trans e2) p2 p5
/-- l.append((x, a new list)) -/
theorem g_appPL {l : Addr} {x : V} {us ys : List V} (hl : H l = some (.lst us)) (ha : Ev ta σ H (.ref l)) (hx : Ev tx σ H x) (hy : EvL ty σ H ys) (hz : us.length < 100000) (k : ∀ u y H1, H u = none → H y = none → Ex H H1 → H1 y = some (.lst ys) → H1 u = some (.tup [x, .ref y]) → tz D σ (upd H1 l (.lst (us ++ [.ref u])))) :
    Go (tSeq (tDrop (tBM K "list" rAppend ta (tCons (tTup (tCons tx (tCons ty tNil))) tNil))) tz) D σ H := fun H1 e1 => ha H1 e1 _ fun H2 e2 =>
  ⟨Or.inl ⟨rfl, us, sq_of ((e1.trans e2) l _ hl)⟩, hx H2 (e1.trans e2) _ fun H3 e3 => hy H3 ((e1.trans e2).trans e3) _ fun y H4 hy4 e4 h4 => ⟨sz_of (Nat.le_of_ble_eq_true rfl), fun u hu => by
    have e04 := ((e1.trans e2).trans e3).trans e4
    exact ⟨l, us, .ref u, rfl, rfl, (Ex.new hu) l _ (e04 l _ hl), sz_lt hz, k u y _ (fresh_back e04 hu) (fresh_back ((e1.trans e2).trans e3) hy4) (e04.trans (Ex.new hu)) ((Ex.new hu) y _ h4) upd_same⟩⟩⟩
theorem g_appPW {l : Addr} {x : V} {us : List V} (hl : H l = some (.lst us)) (ha : Ev ta σ H (.ref l)) (hx : Ev tx σ H x) (hy : EvW ty σ H pss) (hz : us.length < 100000) (k : ∀ u y zs H1, H u = none → H y = none → (∀ z ∈ zs, H z = none) → Ex H H1 → H1 y = some (.lst (zs.map V.ref)) → Rows H1 zs pss → H1 u = some (.tup [x, .ref y]) → tz D σ (upd H1 l (.lst (us ++ [.ref u])))) :
    Go (tSeq (tDrop (tBM K "list" rAppend ta (tCons (tTup (tCons tx (tCons ty tNil))) tNil))) tz) D σ H := fun H1 e1 => ha H1 e1 _ fun H2 e2 =>
  ⟨Or.inl ⟨rfl, us, sq_of ((e1.trans e2) l _ hl)⟩, hx H2 (e1.trans e2) _ fun H3 e3 => hy H3 ((e1.trans e2).trans e3) _ fun y zs H4 hy4 hzs e4 h4 r4 => ⟨sz_of (Nat.le_of_ble_eq_true rfl), fun u hu => by
    have e03 := (e1.trans e2).trans e3
    have e04 := e03.trans e4
    exact ⟨l, us, .ref u, rfl, rfl, (Ex.new hu) l _ (e04 l _ hl), sz_lt hz, k u y zs _ (fresh_back e04 hu) (fresh_back e03 hy4) (fun z m => fresh_back e03 (hzs z m)) (e04.trans (Ex.new hu)) ((Ex.new hu) y _ h4) (r4.mono (Ex.new hu)) upd_same⟩⟩⟩
theorem g_clear {l : Addr} {xs : List V} (hl : H l = some (.lst xs)) (ha : Ev ta σ H (.ref l)) (k : ∀ H1, Ex H H1 → tz D σ (upd H1 l (.lst []))) : Go (tSeq (tDrop (tBM0 K "list" rClear ta)) tz) D σ H := fun H1 e1 => ha H1 e1 _ fun H2 e2 =>
  ⟨Or.inl ⟨rfl, xs, sq_of ((e1.trans e2) l _ hl)⟩, l, xs, rfl, rfl, (e1.trans e2) l _ hl, k H2 (e1.trans e2)⟩
theorem g_reverse {l : Addr} {xs : List V} (hl : H l = some (.lst xs)) (ha : Ev ta σ H (.ref l)) (k : ∀ H1, Ex H H1 → tz D σ (upd H1 l (.lst xs.reverse))) : Go (tSeq (tDrop (tBM0 K "list" rReverse ta)) tz) D σ H := fun H1 e1 => ha H1 e1 _ fun H2 e2 =>
  ⟨Or.inl ⟨rfl, xs, sq_of ((e1.trans e2) l _ hl)⟩, l, xs, rfl, rfl, (e1.trans e2) l _ hl, k H2 (e1.trans e2)⟩
end
section
variable {K : PySem.W.Frag} {c : Cs}
theorem partRows_len (ns : List Int) (n : Int) (D : List Int) : (partRows ns n D).length = D.length + 1 := by
  unfold partRows partsOf
  rw [List.length_map, List.length_map, List.length_range, ends_len]
theorem partRows_get {ns : List Int} {n : Int} {D : List Int} {k : Nat} (hk : k < D.length + 1) : (partRows ns n D)[k]? = some (ns.filter fun s => decide (firstOf (endsOf n D) k ≤ s) && decide (s ≤ gi (endsOf n D) (k : Int))) := by
  unfold partRows partsOf
  rw [List.getElem?_map, List.getElem?_map, List.getElem?_range (by rw [ends_len]; exact hk)]
  rfl
theorem read_l_parts (vs : List V) (H : Hp) (Q : VK) (E : XK) (h : sp_l_parts K c vs H Q E) : t_l_parts K c E { nx := fun _ H' => Q .non H', rt := Q } (start ["_law_found", "_law_pile", "_law_loose", "_law_ends", "_law_first", "_law_k", "_law_stamp"] vs) H := by
  obtain ⟨f, r, l, ts, ns, D, rfl, hf, hrw, hr, hl, h1, h2, h3, q⟩ := h
  have hsl := srt_len D
  have hel := ends_len (ns.length : Int) D
  have htl : ts.length = D.length + 1 := by rw [hrw.1, partRows_len]
  refine Go.here (g_asgL (xs := (srt D).map V.int ++ [V.int ((ns.length : Int) - 1)]) (el_catV (ev_var rfl) hl (el_lst (vs := [.int ((ns.length : Int) - 1)]) (ea_cons (ev_sub (ev_lenI (ev_var rfl) (sq_lst hr)) ev_c) ea_nil) (Nat.le_of_ble_eq_true rfl)) (by simp only [List.length_map, List.length_cons, List.length_nil]; omega)) fun e H1 he e1 hle => ?_)
  have hle : H1 e = some (.lst ((endsOf (ns.length : Int) D).map V.int)) := by
    rw [hle]
    unfold endsOf
    rw [List.map_append]
    rfl
  generalize hes : endsOf (ns.length : Int) D = es at hle hel
  refine g_no (et_is (et_or (et_not (et_B (ev_isiL (ev_var rfl) (e1 f _ hf)))) fun _ => et_test (ev_neI (ev_len (ev_var rfl) (sq_lst (e1 f _ hf))) (ev_lenI (ev_var rfl) (sq_lst hle)))) ?_) (g_nextS (g_asg (v := .int 0) ev_c ?_))
  · rw [List.length_map, htl, hel]
    simp
  refine g_forR1 (n := (es.length : Int)) (ea_cons (ev_lenI (ev_var rfl) (sq_lst hle)) ea_nil) (by omega) (fun k σ H' => ∃ y : Option V, σ = [some (.ref f), some (.ref r), some (.ref l), some (.ref e), some (.int (firstOf es k)), y, none] ∧ Ex H1 H')
    (fun H2 e2 => ⟨none, rfl, e2⟩) (fun k σ H' hk hP => ?_) (fun σ H' hP => ?_) (by omega)
  · obtain ⟨y, rfl, e2⟩ := hP
    have e02 := e1.trans e2
    have hrow := partRows_get (ns := ns) (n := (ns.length : Int)) (D := D) (k := k) (by omega)
    rw [hes] at hrow
    obtain ⟨t, hti, htt⟩ := hrw.get hrow
    refine g_no (et_is (et_not (et_B (ev_callVL (x := .ref t) (xs := (ns.filter fun s => decide (firstOf es k ≤ s) && decide (s ≤ gi es (k : Int))).map V.int) (ev_ixL (ev_var rfl) (ev_var rfl) (sq_lst (e02 f _ hf)) (atI_get (by omega) (by rw [List.getElem?_map]; show (ts[k]?).map V.ref = _; rw [hti]; rfl)))
      (el_filt (fun s => decide (firstOf es k ≤ s) && decide (s ≤ gi es (k : Int))) (ev_var rfl) (sq_lst (e02 r _ hr)) (by omega) (fun _ => rfl) (fun _ => rfl) (fun s H3 e3 hs => et_and (et_test (ev_le (ev_var rfl) (ev_var rfl))) fun _ => et_test (ev_le (ev_var rfl) (ev_ixI (ev_var rfl) (ev_var rfl) (sq_lst (e3 e _ (e2 e _ hle))) (by omega) (by omega))))) fun q2 H3 h3 e3 => v_found (e3 t _ (e02 t _ htt)) (sq_lst h3) ?_))) rfl) (g_nextS ?_)
    · have := List.length_filter_le (fun s => decide (firstOf es k ≤ s) && decide (s ≤ gi es (k : Int))) ns
      omega
    · refine g_asg (v := .int (gi es (k : Int) + 1)) (ev_add (ev_ixI (ev_var rfl) (ev_var rfl) (sq_lst (e2 e _ hle)) (by omega) (by omega)) ev_c) (g_next fun H4 e4 => ⟨some (.int (k : Int)), ?_, e2.trans e4⟩)
      rw [firstOf_succ]
      rfl
  · obtain ⟨y, rfl, e2⟩ := hP
    exact g_ret (v := .bl true) ev_c fun H4 e4 => q H4 ((e1.trans e2).trans e4)
theorem rows_ne {H : Hp} {p : Addr} {ts : List Addr} {pss : List (List Int)} (h : H p = some (.lst (ts.map V.ref))) (hr : Rows H ts pss) : p ∉ ts := fun m => by
  obtain ⟨i, hi⟩ := List.mem_iff_getElem?.mp m
  obtain ⟨t, ps, ht, _, _, h3⟩ := hr.getT (i := i) (x := .ref p) (by rw [List.getElem?_map, hi]; rfl)
  cases ht
  rw [h] at h3
  have e := HO.lst.inj (Option.some.inj h3)
  have e2 : (ts.map V.ref)[i]? = (ps.map V.int)[i]? := by rw [e]
  rw [List.getElem?_map, hi, List.getElem?_map] at e2
  cases hp : ps[i]? with
  | none => rw [hp] at e2; cases e2
  | some z => rw [hp] at e2; cases e2
theorem read_l_look (vs : List V) (H : Hp) (Q : VK) (E : XK) (h : sp_l_look K c vs H Q E) : t_l_look K c E { nx := fun _ H' => Q .non H', rt := Q } (start ["_law_bench", "_law_pile", "_law_loose", "_law_number_here", "_law_told", "_law_some", "_law_parts_here", "_law_part"] vs) H := by
  obtain ⟨b, r, l, t, la, lo, ld, ns, D, us, m, rfl, hc, hb, hla, hlo, hld, hr, hl, h1, h2, h3, ht, hu, q⟩ := h
  have hpl := pl_len ns
  have hsl := srt_len D
  have hplr := partRows_len ns (ns.length : Int) D
  refine Go.here (g_cutM (fun σ H' => ∃ (s f : Addr) (ts : List Addr), σ = [some (.ref b), some (.ref r), some (.ref l), some (.int m), some (.ref t), some (.ref s), some (.ref f), none] ∧ Ex H H' ∧ H s = none ∧ H f = none ∧ (∀ a ∈ ts, H a = none) ∧ f ≠ s ∧ s ∉ ts ∧ H' s = some (.lst ((srt D).map V.int)) ∧ H' f = some (.lst (ts.map V.ref)) ∧ Rows H' ts (partRows ns (ns.length : Int) D)) ?_ (fun σ H' hM => ?_))
  · refine g_ifC (b := decide (m % 2 = 0)) (et_test (ev_eqI (ev_mod (ev_var rfl) ev_c (by decide)) ev_c)) (fun _ => ?_) (fun _ => ?_)
    · refine g_asgL (xs := (srt D).map V.int) (el_meth (by decide +kernel) (by decide +kernel) (by decide +kernel) (ev_var rfl) hb (s_loose hc hb hld)) fun s H1 hs e1 hls => ?_
      refine g_asgW (pss := partRows ns ((pl ns).length : Int) D) (ew_meth (by decide +kernel) (by decide +kernel) (by decide +kernel) (ev_var rfl) (hb.mono e1) (s_parts hc (hb.mono e1) (e1 la _ hla) (e1 lo _ hlo) (e1 ld _ hld) (by omega) (by omega) (by omega))) fun f ts H2 hf hts e2 hlf hrw => ?_
      rw [hpl] at hrw
      refine g_next fun H3 e3 => ⟨s, f, ts, rfl, (e1.trans e2).trans e3, hs, fresh_back e1 hf, fun a ha => fresh_back e1 (hts a ha), fun z => ?_, fun z => ?_, e3 s _ (e2 s _ hls), e3 f _ hlf, hrw.mono e3⟩
      · rw [z, hls] at hf
        cases hf
      · have := hts s z
        rw [hls] at this
        cases this
    · refine g_asgW (pss := partRows ns ((pl ns).length : Int) D) (ew_meth (by decide +kernel) (by decide +kernel) (by decide +kernel) (ev_var rfl) hb (s_parts hc hb hla hlo hld (by omega) (by omega) (by omega))) fun f ts H1 hf hts e1 hlf hrw => ?_
      rw [hpl] at hrw
      refine g_asgL (xs := (srt D).map V.int) (el_meth (by decide +kernel) (by decide +kernel) (by decide +kernel) (ev_var rfl) (hb.mono e1) (s_loose hc (hb.mono e1) (e1 ld _ hld))) fun s H2 hs e2 hls => ?_
      refine g_next fun H3 e3 => ⟨s, f, ts, rfl, (e1.trans e2).trans e3, fresh_back e1 hs, hf, hts, fun z => ?_, fun z => ?_, e3 s _ hls, e3 f _ (e2 f _ hlf), (hrw.mono e2).mono e3⟩
      · rw [← z, hlf] at hs
        cases hs
      · obtain ⟨i, hi⟩ := List.mem_iff_getElem?.mp z
        obtain ⟨t', ps, ht', _, _, h3⟩ := hrw.getT (i := i) (x := .ref s) (by rw [List.getElem?_map, hi]; rfl)
        cases ht'
        rw [hs] at h3
        cases h3
  · obtain ⟨s, f, ts, rfl, e, hs, hf, hts, nfs, nst, hls, hlf, hrw⟩ := hM
    have htl : ts.length = D.length + 1 := by rw [hrw.1, hplr]
    refine g_no (et_is (et_or (et_not (et_B (ev_callD (vs := [.ref s, .ref l]) (ea_cons (ev_var rfl) (ea_cons (ev_var rfl) ea_nil)) (v_found hls (sq_lst (e l _ hl)) (by omega))))) fun _ => et_not (et_B (ev_callD (vs := [.ref f, .ref r, .ref l]) (ea_cons (ev_var rfl) (ea_cons (ev_var rfl) (ea_cons (ev_var rfl) ea_nil))) (v_parts hlf hrw (e r _ hr) (e l _ hl) h1 (by omega) (by omega))))) rfl) (g_nextS ?_)
    have live : ∀ {a : Addr} {o : HO}, H a = some o → ∀ {x : Addr}, H x = none → x ≠ a := fun {a o} ha {x} hx z => by
      rw [z, ha] at hx
      cases hx
    have nt := fun {x : Addr} (hx : H x = none) => live ht hx
    have q' : ∀ (a : Addr) (o : HO), a ≠ t → H a = some o → H' a = some o := fun a o _ h => e a o h
    refine g_cutM (fun σ H'' => ∃ vs' : List Addr, σ = [some (.ref b), some (.ref r), some (.ref l), some (.int m), some (.ref t), some (.ref s), some (.ref f), none] ∧ OffB t H H'' ∧ H'' t = some (.lst ((us ++ vs').map V.ref)) ∧ vs'.length ≤ 2 ∧ (∀ v ∈ vs', Pair (fun a => H a ≠ none) H'' v) ∧ (m / 2 % 3 ≠ 0 → vs' = []) ∧ H'' s = some (.lst ((srt D).map V.int)) ∧ H'' f = some (.lst (ts.map V.ref)) ∧ Rows H'' ts (partRows ns (ns.length : Int) D)) ?_ (fun σ H'' hM => ?_)
    · refine g_ifC (b := decide (m / 2 % 3 = 0)) (et_test (ev_eqI (ev_mod (ev_div (ev_var rfl) ev_c ⟨by decide, by decide⟩) ev_c (by decide)) ev_c)) (fun hb0 => ?_) (fun hb0 => ?_)
      · have hm0 : m / 2 % 3 = 0 := by simpa using hb0
        refine g_appPL (e t _ ht) (ev_var rfl) (ev_var rfl) (el_list (ev_var rfl) (sq_lst hls)) (by rw [List.length_map]; omega) fun u1 y1 H1 hu1 hy1 e1 hly1 hlu1 => ?_
        have hu1' := fresh_back e hu1
        have hy1' := fresh_back e hy1
        generalize hH2 : upd H1 t (.lst (us.map V.ref ++ [V.ref u1])) = H2
        have k2 : ∀ a o, a ≠ t → H1 a = some o → H2 a = some o := fun a o ha h => by rw [← hH2, upd_ne ha]; exact h
        have ht2 : H2 t = some (.lst (us.map V.ref ++ [V.ref u1])) := by rw [← hH2]; exact upd_same
        have r2 : Rows H2 ts (partRows ns (ns.length : Int) D) := by rw [← hH2]; exact (hrw.mono e1).mut (fun z => nt (hts t z) rfl)
        refine Go.here (g_appPW (pss := partRows ns (ns.length : Int) D) ht2 (ev_var rfl) (ev_var rfl) (ew_copy (ev_var rfl) (k2 f _ (nt hf) (e1 f _ hlf)) r2 (by omega) (fun _ => rfl) (fun _ => rfl)) (by simp only [List.length_append, List.length_map, List.length_cons, List.length_nil]; omega) fun u2 y2 zs H3 hu2 hy2 hzs e3 hly2 hrz hlu2 => ?_)
        have back : ∀ {x : Addr}, H2 x = none → H x = none := fun {x} hx => by
          cases hh : H x with
          | none => rfl
          | some o =>
            by_cases hxt : x = t
            · rw [hxt, ht2] at hx
              cases hx
            · rw [k2 x o hxt (e1 x o (e x o hh))] at hx
              cases hx
        generalize hH4 : upd H3 t (.lst (us.map V.ref ++ [V.ref u1] ++ [V.ref u2])) = H4
        have k4 : ∀ a o, a ≠ t → H3 a = some o → H4 a = some o := fun a o ha h => by rw [← hH4, upd_ne ha]; exact h
        have k14 : ∀ a o, a ≠ t → H1 a = some o → H4 a = some o := fun a o ha h => k4 a o ha (e3 a o (k2 a o ha h))
        have ht4 : H4 t = some (.lst ((us ++ [u1, u2]).map V.ref)) := by
          rw [← hH4, upd_same]
          simp
        refine g_next (D := _) (fun H5 e5 => ?_) _ (Ex.refl _)
        refine ⟨[u1, u2], rfl, fun a o ha h => e5 a o (k14 a o ha (e1 a o (e a o h))), e5 t _ ht4, Nat.le_refl _, fun v hv => ?_, fun z => absurd hm0 z, e5 s _ (k14 s _ (nt hs) (e1 s _ hls)), e5 f _ (k14 f _ (nt hf) (e1 f _ hlf)), ?_⟩
        · rcases List.mem_cons.mp hv with rfl | hv
          · exact ⟨s, y1, e5 _ _ (k14 _ _ (nt hu1') hlu1), fun z => z hu1', fun z => z hs, fun z => z hy1', .inl ⟨srt D, e5 _ _ (k14 _ _ (nt hs) (e1 s _ hls)), e5 _ _ (k14 _ _ (nt hy1') hly1)⟩⟩
          · rw [List.mem_singleton.mp hv]
            have r4 : Rows H4 zs (partRows ns (ns.length : Int) D) := by rw [← hH4]; exact hrz.mut (fun z => nt (back (hzs t z)) rfl)
            have r4' : Rows H4 ts (partRows ns (ns.length : Int) D) := by rw [← hH4]; exact (r2.mono e3).mut (fun z => nt (hts t z) rfl)
            exact ⟨f, y2, e5 _ _ (k4 _ _ (nt (back hu2)) hlu2), fun z => z (back hu2), fun z => z hf, fun z => z (back hy2), .inr ⟨ts, zs, _, e5 _ _ (k14 _ _ (nt hf) (e1 f _ hlf)), e5 _ _ (k4 _ _ (nt (back hy2)) hly2), r4'.mono e5, r4.mono e5, fun a ha z => z (hts a ha), fun a ha z => z (back (hzs a ha))⟩⟩
        · have r4' : Rows H4 ts (partRows ns (ns.length : Int) D) := by rw [← hH4]; exact (r2.mono e3).mut (fun z => nt (hts t z) rfl)
          exact r4'.mono e5
      · refine g_next fun H1 e1 => ⟨[], rfl, OffB.of (e.trans e1), ?_, Nat.zero_le _, fun v hv => by simp at hv, fun _ => rfl, e1 s _ hls, e1 f _ hlf, hrw.mono e1⟩
        rw [List.append_nil]
        exact e1 t _ (e t _ ht)
    · obtain ⟨vs', rfl, o, ht', hv2, hpr, hno, hls', hlf', hrw'⟩ := hM
      refine g_when (b := decide (m / 2 % 3 = 1)) (et_test (ev_eqI (ev_mod (ev_div (ev_var rfl) ev_c ⟨by decide, by decide⟩) ev_c (by decide)) ev_c)) (fun hb1 => ?_) (fun hb1 => ?_)
      · have hm1 : m / 2 % 3 = 1 := by simpa using hb1
        have := hno (by omega)
        subst this
        rw [List.append_nil] at ht'
        obtain ⟨t0, h0i, h0⟩ := hrw'.get (partRows_get (ns := ns) (n := (ns.length : Int)) (D := D) (k := 0) (by omega))
        have ht0 := List.mem_of_getElem? h0i
        have nft := rows_ne hlf' hrw'
        have n0s : t0 ≠ s := fun z => nst (z ▸ ht0)
        have n0f : t0 ≠ f := fun z => nft (z ▸ ht0)
        refine g_app (xs := (srt D).map V.int) hls' (ev_var rfl) ev_c (by rw [List.length_map]; omega) fun H1 e1 => ?_
        refine Go.here (g_clear (l := t0) ((upd_ne n0s).trans (e1 t0 _ h0)) (ev_ixL (ev_var rfl) ev_c (sq_lst ((upd_ne nfs).trans (e1 f _ hlf'))) (atI_get (by decide) (by rw [List.getElem?_map]; show (ts[0]?).map V.ref = _; rw [h0i]; rfl))) fun H2 e2 => ?_)
        refine Go.here (g_appL (xs := ts.map V.ref) (ys := [.int 0]) ((upd_ne (Ne.symm n0f)).trans (e2 f _ ((upd_ne nfs).trans (e1 f _ hlf')))) (ev_var rfl) (el_lst (ea_cons ev_c ea_nil) (Nat.le_of_ble_eq_true rfl)) (by rw [List.length_map]; omega) fun p H3 hp e3 hlp => ?_)
        refine Go.here (g_nextS (g_ret (v := .bl true) ev_c fun H4 e4 => ?_))
        have keep : ∀ a o', a ≠ s → a ≠ t0 → a ≠ f → H'' a = some o' → H4 a = some o' := fun a o' n1 n2 n3 h => e4 a o' ((upd_ne n3).trans (e3 a o' ((upd_ne n2).trans (e2 a o' ((upd_ne n1).trans (e1 a o' h))))))
        have lv : ∀ a o', H a = some o' → a ≠ s ∧ a ≠ t0 ∧ a ≠ f := fun a o' h => ⟨(live h hs).symm, (live h (hts t0 ht0)).symm, (live h hf).symm⟩
        refine q H4 [] (fun a o' ha h => ?_) ?_ (Nat.zero_le _) (fun v hv => by simp at hv)
        · obtain ⟨n1, n2, n3⟩ := lv a o' h
          exact keep a o' n1 n2 n3 (o a o' ha h)
        · obtain ⟨n1, n2, n3⟩ := lv t _ ht
          rw [List.append_nil]
          exact keep t _ n1 n2 n3 ht'
      · exact g_ret (v := .bl true) ev_c fun H4 e4 => q H4 vs' (fun a o' ha h => e4 a o' (o a o' ha h)) (e4 t _ ht') hv2 fun v hv => (hpr v hv).mono fun a o' _ h => e4 a o' h
end
end Fo
/-! FoldR26 -/
namespace Fo
open PySem L2 Evl
local macro_rules | `(tactic| walk_at "hl") => `(tactic| first
  | assumption
  | exact upd_same
  | (refine (by assumption : Ex _ _) _ _ ?_; walk_at "hl"))
local macro_rules | `(tactic| walk_at "sq") => `(tactic| first
  | assumption
  | (refine sq_lst ?_; walk_at "hl")
  | (refine ex_l (by assumption) ?_; walk_at "sq"))
local macro_rules | `(tactic| walk_at "st") => `(tactic| first
  | assumption
  | (refine st_of ?_; walk_at "hl")
  | (refine ex_t (by assumption) ?_; walk_at "st"))
local macro_rules | `(tactic| walk_at "sq2") => `(tactic| first
  | assumption
  | (refine Or.inl ?_; walk_at "sq")
  | (refine Or.inr ?_; walk_at "st")
  | (refine Sq2.mono (by assumption) ?_; walk_at "sq2"))
local macro_rules | `(tactic| walk_at "ar") => `(tactic| first
  | assumption
  | omega
  | decide)
local macro_rules | `(tactic| walk_at "lar") => `(tactic| first
  | omega
  | (simp only [List.length_append, List.length_map, List.length_take, List.length_drop, List.length_cons, List.length_nil, List.length_replicate]; omega))
local macro_rules | `(tactic| walk_at "hb") => `(tactic| first
  | skip)
local macro_rules | `(tactic| walk_at "mul") => `(tactic| first
  | (exact Or.inr ⟨by decide, by decide⟩)
  | (exact Or.inl ⟨by decide, by decide⟩)
  | (exact Or.inl ⟨by omega, by omega⟩)
  | (exact Or.inr ⟨by omega, by omega⟩))
local macro_rules | `(tactic| walk_at "div") => `(tactic| first
  | (exact ⟨by decide, by decide⟩)
  | (exact ⟨by omega, by omega⟩))
local macro_rules | `(tactic| walk_at "ea") => `(tactic| first
  | exact ea_nil
  | ((with_reducible refine' ea_cons ?k0 ?k1); (case k0 => walk_at "ev"); (case k1 => walk_at "ea")))
local macro_rules | `(tactic| walk_at "eo") => `(tactic| first
  | exact eo_none
  | ((with_reducible refine' eo_some ?k0); (case k0 => walk_at "ev")))
local macro_rules | `(tactic| walk_at "el") => `(tactic| first
  | ((with_reducible refine' el_lst ?k0 ?k1); (case k0 => walk_at "ea"); (case k1 => (exact Nat.le_of_ble_eq_true rfl)))
  | ((with_reducible refine' el_from ?k0 ?k1 ?k2 ?k3 ?k4); (case k0 => walk_at "ev"); (case k1 => walk_at "eo"); (case k2 => walk_at "sq"); (case k3 => walk_at "ar"); (case k4 => walk_at "lar"))
  | ((with_reducible refine' el_upto ?k0 ?k1 ?k2 ?k3 ?k4); (case k0 => walk_at "ev"); (case k1 => walk_at "eo"); (case k2 => walk_at "sq"); (case k3 => walk_at "ar"); (case k4 => walk_at "lar"))
  | ((with_reducible refine' el_rep1 ?k0 ?k1 ?k2 ?k3); (case k0 => walk_at "el"); (case k1 => walk_at "ev"); (case k2 => walk_at "ar"); (case k3 => walk_at "ar"))
  | ((with_reducible refine' el_cat ?k0 ?k1 ?k2); (case k0 => walk_at "el"); (case k1 => walk_at "el"); (case k2 => walk_at "lar"))
  | ((with_reducible refine' el_callD ?k0 ?k1); (case k0 => walk_at "ea"); (case k1 => walk_at "sp"))
  | ((with_reducible refine' el_list ?k0 ?k1); (case k0 => walk_at "ev"); (case k1 => walk_at "sq"))
  | ((with_reducible refine' el_srt ?k0 ?k1); (case k0 => walk_at "ev"); (case k1 => walk_at "sq"))
  | ((with_reducible refine' el_sortedQ ?k0 ?k1); (case k0 => walk_at "ev"); (case k1 => walk_at "sq2"))
  | ((with_reducible refine' el_rev ?k0 ?k1); (case k0 => walk_at "ev"); (case k1 => walk_at "sq"))
  | ((with_reducible refine' el_step ?k0 ?k1 ?k2); (case k0 => walk_at "ev"); (case k1 => walk_at "eo"); (case k2 => walk_at "sq")))
local macro_rules | `(tactic| walk_at "et") => `(tactic| first
  | ((with_reducible refine' et_test ?k0); (case k0 => walk_at "ev"))
  | ((with_reducible refine' et_B ?k0); (case k0 => walk_at "ev"))
  | ((with_reducible refine' et_not ?k0); (case k0 => walk_at "et"))
  | ((with_reducible refine' et_and ?k0 (fun hb => ?k1)); (case k0 => walk_at "et"); (case k1 => (walk_at "hb"; walk_at "et")))
  | ((with_reducible refine' et_or ?k0 (fun hb => ?k1)); (case k0 => walk_at "et"); (case k1 => (walk_at "hb"; walk_at "et"))))
local macro_rules | `(tactic| walk_at "ev") => `(tactic| first
  | ((with_reducible refine' ev_var ?k0); (case k0 => rfl))
  | exact ev_c
  | ((with_reducible refine' ev_add ?k0 ?k1); (case k0 => walk_at "ev"); (case k1 => walk_at "ev"))
  | ((with_reducible refine' ev_sub ?k0 ?k1); (case k0 => walk_at "ev"); (case k1 => walk_at "ev"))
  | ((with_reducible refine' ev_ixI ?k0 ?k1 ?k2 ?k3 ?k4); (case k0 => walk_at "ev"); (case k1 => walk_at "ev"); (case k2 => walk_at "sq"); (case k3 => walk_at "ar"); (case k4 => walk_at "ar"))
  | ((with_reducible refine' ev_ixT ?k0 ?k1 ?k2 ?k3); (case k0 => walk_at "ev"); (case k1 => walk_at "ev"); (case k2 => walk_at "st"); (case k3 => rfl))
  | ((with_reducible refine' ev_lt ?k0 ?k1); (case k0 => walk_at "ev"); (case k1 => walk_at "ev"))
  | ((with_reducible refine' ev_gt ?k0 ?k1); (case k0 => walk_at "ev"); (case k1 => walk_at "ev"))
  | ((with_reducible refine' ev_le ?k0 ?k1); (case k0 => walk_at "ev"); (case k1 => walk_at "ev"))
  | ((with_reducible refine' ev_ge ?k0 ?k1); (case k0 => walk_at "ev"); (case k1 => walk_at "ev"))
  | ((with_reducible refine' ev_eqI ?k0 ?k1); (case k0 => walk_at "ev"); (case k1 => walk_at "ev"))
  | ((with_reducible refine' ev_neI ?k0 ?k1); (case k0 => walk_at "ev"); (case k1 => walk_at "ev"))
  | ((with_reducible refine' ev_eqB ?k0 ?k1); (case k0 => walk_at "ev"); (case k1 => walk_at "ev"))
  | ((with_reducible refine' ev_neB ?k0 ?k1); (case k0 => walk_at "ev"); (case k1 => walk_at "ev"))
  | ((with_reducible refine' ev_eqS ?k0 ?k1); (case k0 => walk_at "ev"); (case k1 => walk_at "ev"))
  | ((with_reducible refine' ev_neS ?k0 ?k1); (case k0 => walk_at "ev"); (case k1 => walk_at "ev"))
  | ((with_reducible refine' ev_mod ?k0 ?k1 ?k2); (case k0 => walk_at "ev"); (case k1 => walk_at "ev"); (case k2 => walk_at "ar"))
  | ((with_reducible refine' ev_mul ?k0 ?k1 ?k2); (case k0 => walk_at "ev"); (case k1 => walk_at "ev"); (case k2 => walk_at "mul"))
  | ((with_reducible refine' ev_div ?k0 ?k1 ?k2); (case k0 => walk_at "ev"); (case k1 => walk_at "ev"); (case k2 => walk_at "div"))
  | ((with_reducible refine' ev_neg ?k0); (case k0 => walk_at "ev"))
  | ((with_reducible refine' ev_callD ?k0 ?k1); (case k0 => walk_at "ea"); (case k1 => walk_at "sp"))
  | ((with_reducible refine' ev_lenI ?k0 ?k1); (case k0 => walk_at "ev"); (case k1 => walk_at "sq"))
  | ((with_reducible refine' ev_lenQ ?k0 ?k1); (case k0 => walk_at "ev"); (case k1 => walk_at "sq2"))
  | ((with_reducible refine' ev_lenSet ?k0 ?k1 ?k2); (case k0 => walk_at "ev"); (case k1 => walk_at "sq2"); (case k2 => walk_at "ar"))
  | ((with_reducible refine' ev_inI ?k0 ?k1 ?k2); (case k0 => walk_at "ev"); (case k1 => walk_at "ev"); (case k2 => walk_at "sq2"))
  | ((with_reducible refine' ev_notInI ?k0 ?k1 ?k2); (case k0 => walk_at "ev"); (case k1 => walk_at "ev"); (case k2 => walk_at "sq2"))
  | ((with_reducible refine' ev_lenTxt ?k0 ?k1); (case k0 => walk_at "ev"); (case k1 => walk_at "ar"))
  | ((with_reducible refine' ev_lenS ?k0 ?k1); (case k0 => walk_at "ev"); (case k1 => walk_at "ar"))
  | ((with_reducible refine' ev_ixTxt ?k0 ?k1 ?k2 ?k3 ?k4); (case k0 => walk_at "ev"); (case k1 => walk_at "ev"); (case k2 => walk_at "ar"); (case k3 => walk_at "ar"); (case k4 => walk_at "ar"))
  | ((with_reducible refine' ev_ix2 ?k0); (case k0 => walk_at "ev"))
  | ((with_reducible refine' ev_isiI ?k0); (case k0 => walk_at "ev"))
  | ((with_reducible refine' ev_isiL ?k0 ?k1); (case k0 => walk_at "ev"); (case k1 => walk_at "hl"))
  | ((with_reducible refine' ev_isiU ?k0 ?k1); (case k0 => walk_at "ev"); (case k1 => walk_at "hl"))
  | ((with_reducible refine' ev_isiS ?k0); (case k0 => walk_at "ev"))
  | ((with_reducible refine' ev_isiB ?k0); (case k0 => walk_at "ev"))
  | ((with_reducible refine' ev_isN ?k0); (case k0 => walk_at "ev"))
  | ((with_reducible refine' ev_notN ?k0); (case k0 => walk_at "ev"))
  | ((with_reducible refine' ev_notIB ?k0 ?k1); (case k0 => walk_at "ev"); (case k1 => walk_at "ev"))
  | ((with_reducible refine' ev_neNil ?k0 ?k1); (case k0 => walk_at "ev"); (case k1 => walk_at "sq"))
  | ((with_reducible refine' ev_eqNil ?k0 ?k1); (case k0 => walk_at "ev"); (case k1 => walk_at "sq"))
  | ((with_reducible refine' ev_eqL ?k0 ?k1 ?k2 ?k3); (case k0 => walk_at "ev"); (case k1 => walk_at "ev"); (case k2 => walk_at "sq"); (case k3 => walk_at "sq"))
  | ((with_reducible refine' ev_neL ?k0 ?k1 ?k2 ?k3); (case k0 => walk_at "ev"); (case k1 => walk_at "ev"); (case k2 => walk_at "sq"); (case k3 => walk_at "sq"))
  | ((with_reducible refine' ev_min2 ?k0 ?k1); (case k0 => walk_at "ev"); (case k1 => walk_at "ev"))
  | ((with_reducible refine' ev_max2 ?k0 ?k1); (case k0 => walk_at "ev"); (case k1 => walk_at "ev"))
  | ((with_reducible refine' ev_intB ?k0); (case k0 => walk_at "ev"))
  | ((with_reducible refine' ev_andV ?k0 (fun hb => ?k1)); (case k0 => walk_at "ev"); (case k1 => (walk_at "hb"; walk_at "ev")))
  | ((with_reducible refine' ev_orV ?k0 (fun hb => ?k1)); (case k0 => walk_at "ev"); (case k1 => (walk_at "hb"; walk_at "ev")))
  | ((with_reducible refine' ev_notV ?k0); (case k0 => walk_at "ev"))
  | ((with_reducible refine' ev_ifI ?k0 (fun hb => ?k1) (fun hb => ?k2)); (case k0 => walk_at "et"); (case k1 => (walk_at "hb"; walk_at "ev")); (case k2 => (walk_at "hb"; walk_at "ev")))
  | ((with_reducible refine' ev_ifS ?k0 (fun hb => ?k1) (fun hb => ?k2)); (case k0 => walk_at "et"); (case k1 => (walk_at "hb"; walk_at "ev")); (case k2 => (walk_at "hb"; walk_at "ev"))))
local macro_rules | `(tactic| walk_at "hb") => `(tactic| (try simp only [decide_eq_true_eq, decide_eq_false_iff_not, Bool.and_eq_true, Bool.or_eq_true, Bool.or_eq_false_iff, Bool.not_eq_true', Bool.not_eq_false', beq_iff_eq] at *))
local macro_rules | `(tactic| walk_at "sp") => `(tactic| first
  | (refine' v_number ?k0 ?k1 ?k2; (case k0 => walk_at "sq"); (case k1 => walk_at "ar"); (case k2 => walk_at "ar"))
  | (refine' v_drawn ?k0 ?k1; (case k0 => walk_at "sq"); (case k1 => walk_at "ar"))
  | exact v_size
  | exact v_counts
  | (refine' v_wraps ?k0 ?k1 ?k2 ?k3 ?k4; (case k0 => walk_at "sq"); (case k1 => walk_at "ar"); (case k2 => walk_at "ar"); (case k3 => walk_at "ar"); (case k4 => walk_at "ar"))
  | (refine' v_l_wraps ?k0 ?k1 ?k2 ?k3 ?k4; (case k0 => walk_at "sq"); (case k1 => walk_at "ar"); (case k2 => walk_at "ar"); (case k3 => walk_at "ar"); (case k4 => walk_at "ar"))
  | (refine' v_cross ?k0 ?k1 ?k2 ?k3 ?k4; (case k0 => walk_at "sq"); (case k1 => walk_at "ar"); (case k2 => walk_at "ar"); (case k3 => walk_at "ar"); (case k4 => walk_at "ar"))
  | (refine' v_places ?k0 ?k1 ?k2; (case k0 => walk_at "sq"); (case k1 => walk_at "ar"); (case k2 => assumption))
  | (refine' v_letters ?k0 ?k1 ?k2; (case k0 => walk_at "sq"); (case k1 => walk_at "ar"); (case k2 => assumption))
  | (refine' v_l_places ?k0 ?k1 ?k2; (case k0 => walk_at "sq"); (case k1 => walk_at "ar"); (case k2 => assumption))
  | (refine' v_fits ?k0 ?k1 ?k2 ?k3; (case k0 => walk_at "sq"); (case k1 => walk_at "ar"); (case k2 => walk_at "ar"); (case k3 => walk_at "ar"))
  | (refine' v_none ?k0 ?k1 ?k2; (case k0 => walk_at "sq"); (case k1 => walk_at "ar"); (case k2 => walk_at "ar")))
local macro_rules | `(tactic| walk_at "sp") => `(tactic| first
  | (refine' v_turned ?k0 ?k1 ?k2; (case k0 => walk_at "sq"); (case k1 => walk_at "ar"); (case k2 => assumption))
  | (refine' v_same ?k0 ?k1 ?k2; (case k0 => walk_at "hl"); (case k1 => walk_at "sq"); (case k2 => walk_at "ar"))
  | (refine' v_told ?k0 ?k1 ?k2; (case k0 => walk_at "sq"); (case k1 => walk_at "hl"); (case k2 => assumption))
  | (refine' v_parted ?k0 ?k1 ?k2 ?k3; (case k0 => walk_at "sq"); (case k1 => walk_at "ar"); (case k2 => walk_at "ar"); (case k3 => assumption)))
local macro_rules | `(tactic| walk_at "sp") => `(tactic| first
  | (refine' v_is_pile ?k0 ?k1 ?k2 ?k3; (case k0 => walk_at "hl"); (case k1 => assumption); (case k2 => walk_at "ar"); (case k3 => walk_at "ar")))
local macro_rules | `(tactic| walk_at "sp") => `(tactic| first
  | (refine' v_held ?k0 ?k1 ?k2 ?k3 ?k4 ?k5; (case k0 => walk_at "sq"); (case k1 => walk_at "st"); (case k2 => walk_at "ar"); (case k3 => (refine ⟨?_, ?_⟩ <;> walk_at "ar")); (case k4 => (refine ⟨?_, ?_⟩ <;> walk_at "ar")); (case k5 => (refine ⟨?_, ?_⟩ <;> walk_at "ar")))
  | (refine' v_l_held ?k0 ?k1 ?k2 ?k3 ?k4; (case k0 => walk_at "sq"); (case k1 => walk_at "ar"); (case k2 => (refine ⟨?_, ?_⟩ <;> walk_at "ar")); (case k3 => (refine ⟨?_, ?_⟩ <;> walk_at "ar")); (case k4 => (refine ⟨?_, ?_⟩ <;> walk_at "ar")))
  | (refine' v_lies ?k0 ?k1 ?k2 ?k3 ?k4; (case k0 => walk_at "sq"); (case k1 => walk_at "st"); (case k2 => walk_at "ar"); (case k3 => (refine ⟨?_, ?_⟩ <;> walk_at "ar")); (case k4 => (refine ⟨?_, ?_⟩ <;> walk_at "ar")))
  | (refine' v_judged ?k0 ?k1 ?k2 ?k3; (case k0 => walk_at "sq"); (case k1 => walk_at "ar"); (case k2 => assumption); (case k3 => assumption))
  | (refine' v_l_free ?k0 ?k1 ?k2 ?k3 ?k4 ?k5; (case k0 => walk_at "sq"); (case k1 => walk_at "sq"); (case k2 => walk_at "ar"); (case k3 => walk_at "ar"); (case k4 => walk_at "ar"); (case k5 => assumption))
  | (refine' v_are_free ?k0 ?k1 ?k2 ?k3 ?k4 ?k5; (case k0 => walk_at "sq"); (case k1 => walk_at "sq2"); (case k2 => walk_at "ar"); (case k3 => walk_at "ar"); (case k4 => walk_at "ar"); (case k5 => assumption)))
/-! ### two benches, their loose lists, what was told -/
structure Fx where
  b : Bool → Addr
  la : Bool → Addr
  lo : Bool → Addr
  g : Bool → Addr
  r : Bool → Addr
  ns : Bool → List Int
  B : Addr
  P : Addr
  A : Addr
  L : Addr
  T : Addr
def Fx.Mut (X : Fx) (a : Addr) : Prop := (∃ i, a = X.b i) ∨ a = X.L ∨ a = X.T
structure FxOk (X : Fx) : Prop where
  nb : ∀ i j, i ≠ j → X.b i ≠ X.b j
  lt : X.L ≠ X.T
  bL : ∀ i, X.b i ≠ X.L
  bT : ∀ i, X.b i ≠ X.T
  len : ∀ i, 1 ≤ (X.ns i).length ∧ (X.ns i).length ≤ 100
  nla : ∀ i, ¬ X.Mut (X.la i)
  nlo : ∀ i, ¬ X.Mut (X.lo i)
  ng : ∀ i, ¬ X.Mut (X.g i)
  nr : ∀ i, ¬ X.Mut (X.r i)
  nB : ¬ X.Mut X.B
  nP : ¬ X.Mut X.P
  nA : ¬ X.Mut X.A
def two (f : Bool → Addr) : List V := [.ref (f false), .ref (f true)]
structure At (c : Cs) (X : Fx) (d l : Bool → Addr) (D : Bool → List Int) (us : List Addr) (H : Hp) : Prop where
  ins : ∀ i, InsB c H (X.b i) (X.la i) (X.lo i) (d i)
  at_ : ∀ i, H (X.la i) = some (.lst ((pl (X.ns i)).map V.int))
  ord : ∀ i, H (X.lo i) = some (.lst ((X.ns i).map V.int))
  dr : ∀ i, H (d i) = some (.lst ((D i).map V.int))
  g : ∀ i, H (X.g i) = some (.lst ((pl (X.ns i)).map V.int))
  r : ∀ i, H (X.r i) = some (.lst ((X.ns i).map V.int))
  ls : ∀ i, H (l i) = some (.lst ((srt (D i)).map V.int))
  cr : ∀ i, Creases ((X.ns i).length : Int) (D i)
  B : H X.B = some (.lst (two X.b))
  P : H X.P = some (.lst (two X.r))
  A : H X.A = some (.lst (two X.g))
  L : H X.L = some (.lst (two l))
  T : H X.T = some (.lst (us.map V.ref))
  us : ∀ u ∈ us, Pair X.Mut H u
  nd : ∀ i, ¬ X.Mut (d i)
  nl : ∀ i, ¬ X.Mut (l i)
/-- all that may not change stands -/
def Still (X : Fx) (H H' : Hp) : Prop := ∀ a o, ¬ X.Mut a → H a = some o → H' a = some o
section
variable {c : Cs} {X : Fx} {d l : Bool → Addr} {D : Bool → List Int} {us : List Addr} {H H' H2 : Hp}
theorem Still.trans (a : Still X H H') (b : Still X H' H2) : Still X H H2 := fun x o n h => b x o n (a x o n h)
theorem Still.of (e : Ex H H') : Still X H H' := fun a o _ h => e a o h
theorem Still.off {i : Bool} (e : OffB (X.b i) H H') : Still X H H' := fun a o n h => e a o (fun z => n (.inl ⟨i, z⟩)) h
theorem Still.offT (e : OffB X.T H H') : Still X H H' := fun a o n h => e a o (fun z => n (.inr (.inr z))) h
theorem At.live (A : At c X d l D us H) {a : Addr} (m : X.Mut a) : H a ≠ none := by
  rcases m with ⟨i, rfl⟩ | rfl | rfl
  · obtain ⟨dx, h⟩ := A.ins i
    rw [h]
    exact fun z => nomatch z
  · rw [A.L]
    exact fun z => nomatch z
  · rw [A.T]
    exact fun z => nomatch z
theorem At.fresh (A : At c X d l D us H) {a : Addr} (h : H a = none) : ¬ X.Mut a := fun m => A.live m h
theorem At.ext (A : At c X d l D us H) (e : Ex H H') : At c X d l D us H' :=
  ⟨fun i => (A.ins i).mono e, fun i => e _ _ (A.at_ i), fun i => e _ _ (A.ord i), fun i => e _ _ (A.dr i), fun i => e _ _ (A.g i), fun i => e _ _ (A.r i), fun i => e _ _ (A.ls i), A.cr, e _ _ A.B, e _ _ A.P, e _ _ A.A, e _ _ A.L, e _ _ A.T, fun u hu => (A.us u hu).mono fun a o _ h => e a o h, A.nd, A.nl⟩
def upB {α : Type} (f : Bool → α) (i : Bool) (v : α) : Bool → α := fun j => if j = i then v else f j
theorem upB_same {α : Type} {f : Bool → α} {i : Bool} {v : α} : upB f i v i = v := if_pos rfl
theorem upB_ne {α : Type} {f : Bool → α} {i j : Bool} {v : α} (h : j ≠ i) : upB f i v j = f j := if_neg h
theorem upB_all {α : Type} {P : Bool → α → Prop} {f : Bool → α} {i : Bool} {v : α} (h1 : P i v) (h2 : ∀ j, j ≠ i → P j (f j)) : ∀ j, P j (upB f i v j) := fun j => by
  by_cases h : j = i
  · subst h
    rw [upB_same]
    exact h1
  · rw [upB_ne h]
    exact h2 j h
/-- a deed at bench i, and its loose list put down -/
theorem At.deed (ok : FxOk X) (A : At c X d l D us H) {i : Bool} {d' l' : Addr} {D' : List Int} (o : OffB (X.b i) H H') (hi : InsB c H' (X.b i) (X.la i) (X.lo i) d') (hd : H' d' = some (.lst (D'.map V.int))) (hk : Creases ((X.ns i).length : Int) D') (hl : H' l' = some (.lst ((srt D').map V.int))) (hd2 : d' = d i ∨ H d' = none) (hl2 : l' = l i ∨ H l' = none) (e : Ex H' H2) :
    At c X (upB d i d') (upB l i l') (upB D i D') us (upd H2 X.L (.lst (two (upB l i l')))) ∧ Still X H (upd H2 X.L (.lst (two (upB l i l')))) := by
  have ndd : ¬ X.Mut d' := by
    rcases hd2 with rfl | hd2
    · exact A.nd i
    · exact A.fresh hd2
  have nll : ¬ X.Mut l' := by
    rcases hl2 with rfl | hl2
    · exact A.nl i
    · exact A.fresh hl2
  have up : ∀ a u, a ≠ X.L → H' a = some u → (upd H2 X.L (.lst (two (upB l i l')))) a = some u := fun a u n h => (upd_ne n).trans (e a u h)
  have still : Still X H (upd H2 X.L (.lst (two (upB l i l')))) := fun a u n h => up a u (fun z => n (.inr (.inl z))) (o a u (fun z => n (.inl ⟨i, z⟩)) h)
  refine ⟨⟨?_, fun j => still _ _ (ok.nla j) (A.at_ j), fun j => still _ _ (ok.nlo j) (A.ord j), ?_, fun j => still _ _ (ok.ng j) (A.g j), fun j => still _ _ (ok.nr j) (A.r j), ?_, ?_, still _ _ ok.nB A.B, still _ _ ok.nP A.P, still _ _ ok.nA A.A, upd_same, ?_, fun u hu => (A.us u hu).mono still, ?_, ?_⟩, still⟩
  · refine upB_all (P := fun j x => InsB c _ (X.b j) (X.la j) (X.lo j) x) ?_ fun j hj => ?_
    · obtain ⟨dx, h⟩ := hi
      exact ⟨dx, up _ _ (ok.bL i) h⟩
    · obtain ⟨dx, h⟩ := A.ins j
      exact ⟨dx, up _ _ (ok.bL j) (o _ _ (ok.nb j i hj) h)⟩
  · intro j
    by_cases h : j = i
    · subst h
      rw [upB_same, upB_same]
      exact up _ _ (fun z => ndd (.inr (.inl z))) hd
    · rw [upB_ne h, upB_ne h]
      exact still _ _ (A.nd j) (A.dr j)
  · intro j
    by_cases h : j = i
    · subst h
      rw [upB_same, upB_same]
      exact up _ _ (fun z => nll (.inr (.inl z))) hl
    · rw [upB_ne h, upB_ne h]
      exact still _ _ (A.nl j) (A.ls j)
  · exact upB_all (P := fun j x => Creases ((X.ns j).length : Int) x) hk fun j _ => A.cr j
  · exact up _ _ ok.lt.symm (o _ _ (fun z => ok.bT i z.symm) A.T)
  · exact upB_all (P := fun _ x => ¬ X.Mut x) ndd fun j _ => A.nd j
  · exact upB_all (P := fun _ x => ¬ X.Mut x) nll fun j _ => A.nl j
theorem At.told (ok : FxOk X) (A : At c X d l D us H) {vs : List Addr} (o : OffB X.T H H') (ht : H' X.T = some (.lst ((us ++ vs).map V.ref))) (hp : ∀ v ∈ vs, Pair (fun a => H a ≠ none) H' v) : At c X d l D (us ++ vs) H' := by
  have still : Still X H H' := Still.offT o
  refine ⟨fun i => ?_, fun j => still _ _ (ok.nla j) (A.at_ j), fun j => still _ _ (ok.nlo j) (A.ord j), fun j => still _ _ (A.nd j) (A.dr j), fun j => still _ _ (ok.ng j) (A.g j), fun j => still _ _ (ok.nr j) (A.r j), fun j => still _ _ (A.nl j) (A.ls j), A.cr, still _ _ ok.nB A.B, still _ _ ok.nP A.P, still _ _ ok.nA A.A, o _ _ ok.lt A.L, ht, fun u hu => ?_, A.nd, A.nl⟩
  · obtain ⟨dx, h⟩ := A.ins i
    exact ⟨dx, o _ _ (ok.bT i) h⟩
  · rcases List.mem_append.mp hu with hu | hu
    · exact (A.us u hu).mono still
    · exact (hp u hu).imp fun a m => A.live m
theorem at2 {f : Bool → Addr} {k : Int} (h : k = 0 ∨ k = 1) : atI (two f) k = some (.ref (f (decide (k = 1)))) := by
  rcases h with rfl | rfl <;> rfl
theorem set2 {f : Bool → Addr} {k : Int} {v : Addr} (h : k = 0 ∨ k = 1) : (two f).set k.toNat (.ref v) = two (upB f (decide (k = 1)) v) := by
  rcases h with rfl | rfl <;> rfl
end
/-! ### two new things in a list -/
def EvG (te : TE) (σ : L2.St) (H : Hp) (P : Addr → Hp → Prop) : Prop := ∀ H1, Ex H H1 → ∀ Q : VK, (∀ p H2, H1 p = none → Ex H1 H2 → P p H2 → Q (.ref p) H2) → te σ H1 Q
section
variable {K : PySem.W.Frag} {c : Cs} {σ : L2.St} {H : Hp} {te tf : TE} {ta : TA} {D : Ends} {tz tu : TS} {P1 P2 : Addr → Hp → Prop}
theorem eg_l {xs : List V} (h : EvL te σ H xs) : EvG te σ H fun p H2 => H2 p = some (.lst xs) := fun H1 e Q q => h H1 e Q fun p H2 hp e2 h2 => q p H2 hp e2 h2
theorem eg_p {P : List V → Prop} (h : EvLP te σ H P) : EvG te σ H fun p H2 => ∃ xs, P xs ∧ H2 p = some (.lst xs) := fun H1 e Q q => h H1 e Q fun xs p H2 hP hp e2 h2 => q p H2 hp e2 ⟨xs, hP, h2⟩
theorem g_asgG2 {i : Nat} (h1 : EvG te σ H P1) (m1 : ∀ p H1 H2, Ex H1 H2 → P1 p H1 → P1 p H2) (n1 : ∀ p H1, P1 p H1 → H1 p ≠ none) (h2 : EvG tf σ H P2) (m2 : ∀ p H1 H2, Ex H1 H2 → P2 p H1 → P2 p H2) (n2 : ∀ p H1, P2 p H1 → H1 p ≠ none)
    (k : ∀ p q a H1, H p = none → H q = none → H a = none → p ≠ q → a ≠ p → a ≠ q → Ex H H1 → P1 p H1 → P2 q H1 → H1 a = some (.lst [.ref p, .ref q]) → Go tz D (σ.set i (some (.ref a))) H1) : Go (tSeq (tAsg (tLst (tCons te (tCons tf tNil))) (gName i)) tz) D σ H := fun H1 e1 =>
  h1 H1 e1 _ fun p H2 hp e2 p2 => h2 H2 (e1.trans e2) _ fun q H3 hq e3 q3 => ⟨sz_of (Nat.le_of_ble_eq_true rfl), fun a ha => by
    have p3 := m1 p _ _ e3 p2
    have e03 := (e1.trans e2).trans e3
    exact (k p q a _ (fresh_back e1 hp) (fresh_back (e1.trans e2) hq) (fresh_back e03 ha) (fun z => n1 p _ p2 (by rw [z]; exact hq)) (fun z => n1 p _ p3 (by rw [← z]; exact ha)) (fun z => n2 q _ q3 (by rw [← z]; exact ha)) (e03.trans (Ex.new ha)) (m1 p _ _ (Ex.new ha) p3) (m2 q _ _ (Ex.new ha) q3) upd_same).here⟩
/-- a new bench -/
def NewB (c : Cs) (H : Hp) (ns : List Int) (x : Addr) (H2 : Hp) : Prop := ∃ la lo ld, InsB c H2 x la lo ld ∧ H la = none ∧ H lo = none ∧ H ld = none ∧ H2 la = some (.lst ((pl ns).map V.int)) ∧ H2 lo = some (.lst (ns.map V.int)) ∧ H2 ld = some (.lst [])
theorem eg_make {E : XK} {p : Addr} {ns : List Int} (hc : BenchC K c) (h : EvA ta σ H [.ref p]) (hp : H p = some (.lst (ns.map V.int))) (pp : IsPile ns) (nx : NoX (pl ns)) (hl : ns.length ≤ 1000) : EvG (tMake c.be (sp_Bench_init K c) [] E ta) σ H (NewB c H ns) := fun H1 e Q q => h H1 e _ fun H2 e2 x dx hx hdx hne => by
  have hx' : (upd H2 dx (.own x)) x = none := (upd_ne (Ne.symm hne)).trans hx
  have e3 : Ex H2 (upd (upd H2 dx (.own x)) x (.ins c.be dx [])) := (Ex.new hdx).trans (Ex.new hx')
  have e03 := (e.trans e2).trans e3
  refine ⟨x, p, dx, ns, rfl, hc, upd_same, e03 p _ hp, hl, nx, .yes pp fun H4 la lo ld o4 i4 f1 f2 f3 h1 h2 h3 => ⟨rfl, q x H4 (fresh_back e2 hx) (fun a u ha => ?_) ⟨la, lo, ld, i4, fresh_back e03 f1, fresh_back e03 f2, fresh_back e03 f3, h1, h2, h3⟩⟩⟩
  have nax : a ≠ x := fun z => by
    have := e2 a u ha
    rw [z, hx] at this
    cases this
  exact o4 a u nax (e3 a u (e2 a u ha))
theorem NewB.mono {ns : List Int} {x : Addr} {H1 H2 : Hp} (e : Ex H1 H2) (h : NewB c H ns x H1) : NewB c H ns x H2 := by
  obtain ⟨la, lo, ld, i, f1, f2, f3, h1, h2, h3⟩ := h
  exact ⟨la, lo, ld, i.mono e, f1, f2, f3, e _ _ h1, e _ _ h2, e _ _ h3⟩
theorem NewB.live {ns : List Int} {x : Addr} {H1 : Hp} (h : NewB c H ns x H1) : H1 x ≠ none := by
  obtain ⟨la, lo, ld, ⟨dx, i⟩, _⟩ := h
  rw [i]
  exact fun z => nomatch z
/-- != of lists of lists that are alike -/
theorem eqv_rows : ∀ pss : List (List Int), PyData.eqvAll (pss.map fun ns => PyData.list (ns.map PyData.int)) (pss.map fun ns => PyData.list (ns.map PyData.int)) = true
  | [] => by simp only [List.map_nil, PyData.eqvAll]
  | ns :: r => by
    simp only [List.map_cons, PyData.eqvAll, PyData.eqv]
    rw [eqv_rows r, eqv_ints]
    simp
theorem ev_neWW {a b : Addr} {ts us : List Addr} {pss : List (List Int)} (ha : Ev te σ H (.ref a)) (hb : Ev tf σ H (.ref b)) (h1 : H a = some (.lst (ts.map V.ref))) (h2 : H b = some (.lst (us.map V.ref))) (r1 : Rows H ts pss) (r2 : Rows H us pss) : Ev (tOp (rNeD K) te tf) σ H (.bl false) := ev_op ha hb fun H1 e Q q =>
  ⟨_, _, .lst (sq_of (e a _ h1)) (dp_rows (r1.mono e)), .lst (sq_of (e b _ h2)) (dp_rows (r2.mono e)), shaped_rows pss, shaped_rows pss, by
    have e9 : PyData.eqv (.list (pss.map fun ns => PyData.list (ns.map PyData.int))) (.list (pss.map fun ns => PyData.list (ns.map PyData.int))) = true := by
      rw [PyData.eqv]
      exact eqv_rows pss
    rw [e9]
    exact q H1 (Ex.refl H1)⟩
/-- if not f(..): f tells True -/
theorem g_notC {sp : Sp} {E : XK} {vs : List V} (h : EvA ta σ H vs) (hs : ∀ H1, Ex H H1 → sp vs H1 (fun x H2 => ∃ b : Bool, x = .bl b ∧ (if (!b) = true then tu { D with nx := tz D } σ H2 else tz D σ H2)) E) : Go (tSeq (tIfS (tNot (tB (tCall sp [] E ta))) tu tNext) tz) D σ H := fun H1 e => h H1 e _ fun H2 e2 => by
  rw [List.append_nil]
  exact hs H2 (e.trans e2)
theorem cut_ints (ns : List Int) (i j : Nat) : ∃ ms : List Int, cutV (ns.map V.int) (some (i : Int)) (some (j : Int)) = ms.map V.int ∧ ms.length ≤ j - i := by
  unfold cutV
  rw [HT.sIx_nat, HT.sIx_nat, ← List.map_drop, ← List.map_take]
  refine ⟨_, rfl, ?_⟩
  rw [List.length_take, List.length_drop, List.length_map]
  omega
/-- for a, b in a list of tuples -/
theorem g_forPr {tl : TE} {j k : Nat} {a : Addr} {us : List Addr} {f : Addr → V × V} (h : Ev tl σ H (.ref a)) (hx : H a = some (.lst (us.map V.ref))) (hu : ∀ u ∈ us, H u = some (.tup [(f u).1, (f u).2])) (Pv : Nat → L2.St → Hp → Prop) (h0 : ∀ H1, Ex H H1 → Pv 0 σ H1) (hE : ∀ i σ' H', Pv i σ' H' → Ex H H')
    (hs : ∀ (i : Nat) u σ' H', us[i]? = some u → Pv i σ' H' → Go tu { D with nx := Pv (i + 1), ct := Pv (i + 1), bk := tz D } ((σ'.set j (some (f u).1)).set k (some (f u).2)) H') (hd : ∀ σ' H', Pv us.length σ' H' → Go tz D σ' H') : Go (tSeq (tFor (iList K tl) (gTup K 2 (gCons (gName j) (gCons (gName k) gNil))) tu) tz) D σ H := fun H0 e0 =>
  h H0 e0 _ fun H1 e1 => ⟨a, rfl, ⟨_, sq_of ((e0.trans e1) a _ hx)⟩, for_list (xs := us.map V.ref) Pv (h0 H1 (e0.trans e1)) (fun i σ' H' _ pv => sq_of (hE i σ' H' pv a _ hx)) (fun i x σ' H' hi pv => by
    rw [List.getElem?_map] at hi
    cases ht : us[i]? with
    | none => rw [ht] at hi; cases hi
    | some u =>
      rw [ht] at hi
      cases hi
      exact ⟨u, _, rfl, st_of (hE i σ' H' pv u _ (hu u (List.mem_of_getElem? ht))), rfl, _, _, rfl, _, _, rfl, rfl, (hs i u σ' H' ht pv).here⟩) (fun σ' H' pv => (hd σ' H' (by rw [List.length_map] at pv; exact pv)).here)⟩
end
end Fo
/-! FoldR27 -/
namespace Fo
open PySem L2 Evl
local macro_rules | `(tactic| walk_at "hl") => `(tactic| first
  | assumption
  | exact upd_same
  | (refine (by assumption : Ex _ _) _ _ ?_; walk_at "hl"))
local macro_rules | `(tactic| walk_at "sq") => `(tactic| first
  | assumption
  | (refine sq_lst ?_; walk_at "hl")
  | (refine ex_l (by assumption) ?_; walk_at "sq"))
local macro_rules | `(tactic| walk_at "st") => `(tactic| first
  | assumption
  | (refine st_of ?_; walk_at "hl")
  | (refine ex_t (by assumption) ?_; walk_at "st"))
local macro_rules | `(tactic| walk_at "sq2") => `(tactic| first
  | assumption
  | (refine Or.inl ?_; walk_at "sq")
  | (refine Or.inr ?_; walk_at "st")
  | (refine Sq2.mono (by assumption) ?_; walk_at "sq2"))
local macro_rules | `(tactic| walk_at "ar") => `(tactic| first
  | assumption
  | omega
  | decide)
local macro_rules | `(tactic| walk_at "lar") => `(tactic| first
  | omega
  | (simp only [List.length_append, List.length_map, List.length_take, List.length_drop, List.length_cons, List.length_nil, List.length_replicate]; omega))
local macro_rules | `(tactic| walk_at "hb") => `(tactic| first
  | skip)
local macro_rules | `(tactic| walk_at "mul") => `(tactic| first
  | (exact Or.inr ⟨by decide, by decide⟩)
  | (exact Or.inl ⟨by decide, by decide⟩)
  | (exact Or.inl ⟨by omega, by omega⟩)
  | (exact Or.inr ⟨by omega, by omega⟩))
local macro_rules | `(tactic| walk_at "div") => `(tactic| first
  | (exact ⟨by decide, by decide⟩)
  | (exact ⟨by omega, by omega⟩))
local macro_rules | `(tactic| walk_at "ea") => `(tactic| first
  | exact ea_nil
  | ((with_reducible refine' ea_cons ?k0 ?k1); (case k0 => walk_at "ev"); (case k1 => walk_at "ea")))
local macro_rules | `(tactic| walk_at "eo") => `(tactic| first
  | exact eo_none
  | ((with_reducible refine' eo_some ?k0); (case k0 => walk_at "ev")))
local macro_rules | `(tactic| walk_at "el") => `(tactic| first
  | ((with_reducible refine' el_lst ?k0 ?k1); (case k0 => walk_at "ea"); (case k1 => (exact Nat.le_of_ble_eq_true rfl)))
  | ((with_reducible refine' el_from ?k0 ?k1 ?k2 ?k3 ?k4); (case k0 => walk_at "ev"); (case k1 => walk_at "eo"); (case k2 => walk_at "sq"); (case k3 => walk_at "ar"); (case k4 => walk_at "lar"))
  | ((with_reducible refine' el_upto ?k0 ?k1 ?k2 ?k3 ?k4); (case k0 => walk_at "ev"); (case k1 => walk_at "eo"); (case k2 => walk_at "sq"); (case k3 => walk_at "ar"); (case k4 => walk_at "lar"))
  | ((with_reducible refine' el_rep1 ?k0 ?k1 ?k2 ?k3); (case k0 => walk_at "el"); (case k1 => walk_at "ev"); (case k2 => walk_at "ar"); (case k3 => walk_at "ar"))
  | ((with_reducible refine' el_cat ?k0 ?k1 ?k2); (case k0 => walk_at "el"); (case k1 => walk_at "el"); (case k2 => walk_at "lar"))
  | ((with_reducible refine' el_callD ?k0 ?k1); (case k0 => walk_at "ea"); (case k1 => walk_at "sp"))
  | ((with_reducible refine' el_list ?k0 ?k1); (case k0 => walk_at "ev"); (case k1 => walk_at "sq"))
  | ((with_reducible refine' el_srt ?k0 ?k1); (case k0 => walk_at "ev"); (case k1 => walk_at "sq"))
  | ((with_reducible refine' el_sortedQ ?k0 ?k1); (case k0 => walk_at "ev"); (case k1 => walk_at "sq2"))
  | ((with_reducible refine' el_rev ?k0 ?k1); (case k0 => walk_at "ev"); (case k1 => walk_at "sq"))
  | ((with_reducible refine' el_step ?k0 ?k1 ?k2); (case k0 => walk_at "ev"); (case k1 => walk_at "eo"); (case k2 => walk_at "sq")))
local macro_rules | `(tactic| walk_at "et") => `(tactic| first
  | ((with_reducible refine' et_test ?k0); (case k0 => walk_at "ev"))
  | ((with_reducible refine' et_B ?k0); (case k0 => walk_at "ev"))
  | ((with_reducible refine' et_not ?k0); (case k0 => walk_at "et"))
  | ((with_reducible refine' et_and ?k0 (fun hb => ?k1)); (case k0 => walk_at "et"); (case k1 => (walk_at "hb"; walk_at "et")))
  | ((with_reducible refine' et_or ?k0 (fun hb => ?k1)); (case k0 => walk_at "et"); (case k1 => (walk_at "hb"; walk_at "et"))))
local macro_rules | `(tactic| walk_at "ev") => `(tactic| first
  | ((with_reducible refine' ev_var ?k0); (case k0 => rfl))
  | exact ev_c
  | ((with_reducible refine' ev_add ?k0 ?k1); (case k0 => walk_at "ev"); (case k1 => walk_at "ev"))
  | ((with_reducible refine' ev_sub ?k0 ?k1); (case k0 => walk_at "ev"); (case k1 => walk_at "ev"))
  | ((with_reducible refine' ev_ixI ?k0 ?k1 ?k2 ?k3 ?k4); (case k0 => walk_at "ev"); (case k1 => walk_at "ev"); (case k2 => walk_at "sq"); (case k3 => walk_at "ar"); (case k4 => walk_at "ar"))
  | ((with_reducible refine' ev_ixT ?k0 ?k1 ?k2 ?k3); (case k0 => walk_at "ev"); (case k1 => walk_at "ev"); (case k2 => walk_at "st"); (case k3 => rfl))
  | ((with_reducible refine' ev_lt ?k0 ?k1); (case k0 => walk_at "ev"); (case k1 => walk_at "ev"))
  | ((with_reducible refine' ev_gt ?k0 ?k1); (case k0 => walk_at "ev"); (case k1 => walk_at "ev"))
  | ((with_reducible refine' ev_le ?k0 ?k1); (case k0 => walk_at "ev"); (case k1 => walk_at "ev"))
  | ((with_reducible refine' ev_ge ?k0 ?k1); (case k0 => walk_at "ev"); (case k1 => walk_at "ev"))
  | ((with_reducible refine' ev_eqI ?k0 ?k1); (case k0 => walk_at "ev"); (case k1 => walk_at "ev"))
  | ((with_reducible refine' ev_neI ?k0 ?k1); (case k0 => walk_at "ev"); (case k1 => walk_at "ev"))
  | ((with_reducible refine' ev_eqB ?k0 ?k1); (case k0 => walk_at "ev"); (case k1 => walk_at "ev"))
  | ((with_reducible refine' ev_neB ?k0 ?k1); (case k0 => walk_at "ev"); (case k1 => walk_at "ev"))
  | ((with_reducible refine' ev_eqS ?k0 ?k1); (case k0 => walk_at "ev"); (case k1 => walk_at "ev"))
  | ((with_reducible refine' ev_neS ?k0 ?k1); (case k0 => walk_at "ev"); (case k1 => walk_at "ev"))
  | ((with_reducible refine' ev_mod ?k0 ?k1 ?k2); (case k0 => walk_at "ev"); (case k1 => walk_at "ev"); (case k2 => walk_at "ar"))
  | ((with_reducible refine' ev_mul ?k0 ?k1 ?k2); (case k0 => walk_at "ev"); (case k1 => walk_at "ev"); (case k2 => walk_at "mul"))
  | ((with_reducible refine' ev_div ?k0 ?k1 ?k2); (case k0 => walk_at "ev"); (case k1 => walk_at "ev"); (case k2 => walk_at "div"))
  | ((with_reducible refine' ev_neg ?k0); (case k0 => walk_at "ev"))
  | ((with_reducible refine' ev_callD ?k0 ?k1); (case k0 => walk_at "ea"); (case k1 => walk_at "sp"))
  | ((with_reducible refine' ev_lenI ?k0 ?k1); (case k0 => walk_at "ev"); (case k1 => walk_at "sq"))
  | ((with_reducible refine' ev_lenQ ?k0 ?k1); (case k0 => walk_at "ev"); (case k1 => walk_at "sq2"))
  | ((with_reducible refine' ev_lenSet ?k0 ?k1 ?k2); (case k0 => walk_at "ev"); (case k1 => walk_at "sq2"); (case k2 => walk_at "ar"))
  | ((with_reducible refine' ev_inI ?k0 ?k1 ?k2); (case k0 => walk_at "ev"); (case k1 => walk_at "ev"); (case k2 => walk_at "sq2"))
  | ((with_reducible refine' ev_notInI ?k0 ?k1 ?k2); (case k0 => walk_at "ev"); (case k1 => walk_at "ev"); (case k2 => walk_at "sq2"))
  | ((with_reducible refine' ev_lenTxt ?k0 ?k1); (case k0 => walk_at "ev"); (case k1 => walk_at "ar"))
  | ((with_reducible refine' ev_lenS ?k0 ?k1); (case k0 => walk_at "ev"); (case k1 => walk_at "ar"))
  | ((with_reducible refine' ev_ixTxt ?k0 ?k1 ?k2 ?k3 ?k4); (case k0 => walk_at "ev"); (case k1 => walk_at "ev"); (case k2 => walk_at "ar"); (case k3 => walk_at "ar"); (case k4 => walk_at "ar"))
  | ((with_reducible refine' ev_ix2 ?k0); (case k0 => walk_at "ev"))
  | ((with_reducible refine' ev_isiI ?k0); (case k0 => walk_at "ev"))
  | ((with_reducible refine' ev_isiL ?k0 ?k1); (case k0 => walk_at "ev"); (case k1 => walk_at "hl"))
  | ((with_reducible refine' ev_isiU ?k0 ?k1); (case k0 => walk_at "ev"); (case k1 => walk_at "hl"))
  | ((with_reducible refine' ev_isiS ?k0); (case k0 => walk_at "ev"))
  | ((with_reducible refine' ev_isiB ?k0); (case k0 => walk_at "ev"))
  | ((with_reducible refine' ev_isN ?k0); (case k0 => walk_at "ev"))
  | ((with_reducible refine' ev_notN ?k0); (case k0 => walk_at "ev"))
  | ((with_reducible refine' ev_notIB ?k0 ?k1); (case k0 => walk_at "ev"); (case k1 => walk_at "ev"))
  | ((with_reducible refine' ev_neNil ?k0 ?k1); (case k0 => walk_at "ev"); (case k1 => walk_at "sq"))
  | ((with_reducible refine' ev_eqNil ?k0 ?k1); (case k0 => walk_at "ev"); (case k1 => walk_at "sq"))
  | ((with_reducible refine' ev_eqL ?k0 ?k1 ?k2 ?k3); (case k0 => walk_at "ev"); (case k1 => walk_at "ev"); (case k2 => walk_at "sq"); (case k3 => walk_at "sq"))
  | ((with_reducible refine' ev_neL ?k0 ?k1 ?k2 ?k3); (case k0 => walk_at "ev"); (case k1 => walk_at "ev"); (case k2 => walk_at "sq"); (case k3 => walk_at "sq"))
  | ((with_reducible refine' ev_min2 ?k0 ?k1); (case k0 => walk_at "ev"); (case k1 => walk_at "ev"))
  | ((with_reducible refine' ev_max2 ?k0 ?k1); (case k0 => walk_at "ev"); (case k1 => walk_at "ev"))
  | ((with_reducible refine' ev_intB ?k0); (case k0 => walk_at "ev"))
  | ((with_reducible refine' ev_andV ?k0 (fun hb => ?k1)); (case k0 => walk_at "ev"); (case k1 => (walk_at "hb"; walk_at "ev")))
  | ((with_reducible refine' ev_orV ?k0 (fun hb => ?k1)); (case k0 => walk_at "ev"); (case k1 => (walk_at "hb"; walk_at "ev")))
  | ((with_reducible refine' ev_notV ?k0); (case k0 => walk_at "ev"))
  | ((with_reducible refine' ev_ifI ?k0 (fun hb => ?k1) (fun hb => ?k2)); (case k0 => walk_at "et"); (case k1 => (walk_at "hb"; walk_at "ev")); (case k2 => (walk_at "hb"; walk_at "ev")))
  | ((with_reducible refine' ev_ifS ?k0 (fun hb => ?k1) (fun hb => ?k2)); (case k0 => walk_at "et"); (case k1 => (walk_at "hb"; walk_at "ev")); (case k2 => (walk_at "hb"; walk_at "ev"))))
local macro_rules | `(tactic| walk_at "hb") => `(tactic| (try simp only [decide_eq_true_eq, decide_eq_false_iff_not, Bool.and_eq_true, Bool.or_eq_true, Bool.or_eq_false_iff, Bool.not_eq_true', Bool.not_eq_false', beq_iff_eq] at *))
local macro_rules | `(tactic| walk_at "sp") => `(tactic| first
  | (refine' v_number ?k0 ?k1 ?k2; (case k0 => walk_at "sq"); (case k1 => walk_at "ar"); (case k2 => walk_at "ar"))
  | (refine' v_drawn ?k0 ?k1; (case k0 => walk_at "sq"); (case k1 => walk_at "ar"))
  | exact v_size
  | exact v_counts
  | (refine' v_wraps ?k0 ?k1 ?k2 ?k3 ?k4; (case k0 => walk_at "sq"); (case k1 => walk_at "ar"); (case k2 => walk_at "ar"); (case k3 => walk_at "ar"); (case k4 => walk_at "ar"))
  | (refine' v_l_wraps ?k0 ?k1 ?k2 ?k3 ?k4; (case k0 => walk_at "sq"); (case k1 => walk_at "ar"); (case k2 => walk_at "ar"); (case k3 => walk_at "ar"); (case k4 => walk_at "ar"))
  | (refine' v_cross ?k0 ?k1 ?k2 ?k3 ?k4; (case k0 => walk_at "sq"); (case k1 => walk_at "ar"); (case k2 => walk_at "ar"); (case k3 => walk_at "ar"); (case k4 => walk_at "ar"))
  | (refine' v_places ?k0 ?k1 ?k2; (case k0 => walk_at "sq"); (case k1 => walk_at "ar"); (case k2 => assumption))
  | (refine' v_letters ?k0 ?k1 ?k2; (case k0 => walk_at "sq"); (case k1 => walk_at "ar"); (case k2 => assumption))
  | (refine' v_l_places ?k0 ?k1 ?k2; (case k0 => walk_at "sq"); (case k1 => walk_at "ar"); (case k2 => assumption))
  | (refine' v_fits ?k0 ?k1 ?k2 ?k3; (case k0 => walk_at "sq"); (case k1 => walk_at "ar"); (case k2 => walk_at "ar"); (case k3 => walk_at "ar"))
  | (refine' v_none ?k0 ?k1 ?k2; (case k0 => walk_at "sq"); (case k1 => walk_at "ar"); (case k2 => walk_at "ar")))
local macro_rules | `(tactic| walk_at "sp") => `(tactic| first
  | (refine' v_turned ?k0 ?k1 ?k2; (case k0 => walk_at "sq"); (case k1 => walk_at "ar"); (case k2 => assumption))
  | (refine' v_same ?k0 ?k1 ?k2; (case k0 => walk_at "hl"); (case k1 => walk_at "sq"); (case k2 => walk_at "ar"))
  | (refine' v_told ?k0 ?k1 ?k2; (case k0 => walk_at "sq"); (case k1 => walk_at "hl"); (case k2 => assumption))
  | (refine' v_parted ?k0 ?k1 ?k2 ?k3; (case k0 => walk_at "sq"); (case k1 => walk_at "ar"); (case k2 => walk_at "ar"); (case k3 => assumption)))
local macro_rules | `(tactic| walk_at "sp") => `(tactic| first
  | (refine' v_is_pile ?k0 ?k1 ?k2 ?k3; (case k0 => walk_at "hl"); (case k1 => assumption); (case k2 => walk_at "ar"); (case k3 => walk_at "ar")))
local macro_rules | `(tactic| walk_at "sp") => `(tactic| first
  | (refine' v_held ?k0 ?k1 ?k2 ?k3 ?k4 ?k5; (case k0 => walk_at "sq"); (case k1 => walk_at "st"); (case k2 => walk_at "ar"); (case k3 => (refine ⟨?_, ?_⟩ <;> walk_at "ar")); (case k4 => (refine ⟨?_, ?_⟩ <;> walk_at "ar")); (case k5 => (refine ⟨?_, ?_⟩ <;> walk_at "ar")))
  | (refine' v_l_held ?k0 ?k1 ?k2 ?k3 ?k4; (case k0 => walk_at "sq"); (case k1 => walk_at "ar"); (case k2 => (refine ⟨?_, ?_⟩ <;> walk_at "ar")); (case k3 => (refine ⟨?_, ?_⟩ <;> walk_at "ar")); (case k4 => (refine ⟨?_, ?_⟩ <;> walk_at "ar")))
  | (refine' v_lies ?k0 ?k1 ?k2 ?k3 ?k4; (case k0 => walk_at "sq"); (case k1 => walk_at "st"); (case k2 => walk_at "ar"); (case k3 => (refine ⟨?_, ?_⟩ <;> walk_at "ar")); (case k4 => (refine ⟨?_, ?_⟩ <;> walk_at "ar")))
  | (refine' v_judged ?k0 ?k1 ?k2 ?k3; (case k0 => walk_at "sq"); (case k1 => walk_at "ar"); (case k2 => assumption); (case k3 => assumption))
  | (refine' v_l_free ?k0 ?k1 ?k2 ?k3 ?k4 ?k5; (case k0 => walk_at "sq"); (case k1 => walk_at "sq"); (case k2 => walk_at "ar"); (case k3 => walk_at "ar"); (case k4 => walk_at "ar"); (case k5 => assumption))
  | (refine' v_are_free ?k0 ?k1 ?k2 ?k3 ?k4 ?k5; (case k0 => walk_at "sq"); (case k1 => walk_at "sq2"); (case k2 => walk_at "ar"); (case k3 => walk_at "ar"); (case k4 => walk_at "ar"); (case k5 => assumption)))
def sel {α : Type} (x y : α) : Bool → α := fun i => match i with | false => x | true => y
theorem sel_all {α : Type} {P : Bool → α → Prop} {x y : α} (h0 : P false x) (h1 : P true y) : ∀ i, P i (sel x y i) := fun i => match i with | false => h0 | true => h1
def prOf (H : Hp) (u : Addr) : V × V := match H u with
  | some (.tup [x, y]) => (x, y)
  | _ => (.non, .non)
section
variable {K : PySem.W.Frag} {c : Cs}
theorem look_ok {X : Fx} (ok : FxOk X) {d l : Bool → Addr} {D' : Bool → List Int} {us : List Addr} {H : Hp} {σ : L2.St} {D : Ends} {E : XK} {ta : TA} {tz tu : TS} {i : Bool} {m : Int} (hbc : BenchC K c) (A : At c X d l D' us H) (hul : us.length ≤ 10000) (ha : EvA ta σ H [.ref (X.b i), .ref (X.r i), .ref (l i), .int m, .ref X.T])
    (k : ∀ (us' : List Addr) H1, us'.length ≤ us.length + 2 → At c X d l D' us' H1 → Still X H H1 → Go tz D σ H1) : Go (tSeq (tIfS (tNot (tB (tCall (sp_l_look K c) [] E ta))) tu tNext) tz) D σ H :=
  g_notC ha fun H1 e1 => by
    have A1 := A.ext e1
    obtain ⟨l1, l2⟩ := ok.len i
    have hDl := creases_len (A.cr i) (by omega)
    exact ⟨X.b i, X.r i, l i, X.T, X.la i, X.lo i, d i, X.ns i, D' i, us, m, rfl, hbc, A1.ins i, A1.at_ i, A1.ord i, A1.dr i, A1.r i, A1.ls i, l1, l2, by omega, A1.T, hul, fun H' vs' o ht hv hp => ⟨true, rfl, by
      rw [if_neg (by decide)]
      exact (k (us ++ vs') H' (by rw [List.length_append]; omega) (A1.told ok o ht hp) ((Still.of e1).trans (Still.offT o))).here⟩⟩
theorem read_law_k06 (hz : SzOk c.sz) (hbc : BenchC K c) (kn : Kinds K c) (vs : List V) (H : Hp) (Q : VK) (E : XK) (h : sp_law K c vs H Q E) : t_law_k06 K c E { nx := fun _ H' => Q .non H', rt := Q } (start ["_law_script", "_law_sizes", "_law_both", "_law_ats", "_law_handed", "_law_benches", "_law_loose", "_law_told", "_law_cell", "_law_k", "_law_number_here", "_law_behind_here", "_law_order", "_law_j", "_law_one", "_law_kept"] vs) H := by
  obtain ⟨a, ns, rfl, hS, hlen, q⟩ := h
  refine Go.here (g_asgL (xs := [.int (szf c.sz (gi ns 0)), .int (szf c.sz (gi ns 1))]) (el_lst (ea_cons (ev_callD (vs := [.int (gi ns 0)]) (ea_cons (ev_callD (vs := [.ref a, .int 0]) (ea_cons (ev_var rfl) (ea_cons ev_c ea_nil)) (v_drawn hS (by decide))) ea_nil) v_size) (ea_cons (ev_callD (vs := [.int (gi ns 1)]) (ea_cons (ev_callD (vs := [.ref a, .int 1]) (ea_cons (ev_var rfl) (ea_cons ev_c ea_nil)) (v_drawn hS (by decide))) ea_nil) v_size) ea_nil)) (Nat.le_of_ble_eq_true rfl)) fun sz H1 hsz e1 hlsz => ?_)
  obtain ⟨n00, n01⟩ := szf_bnd hz (gi ns 0)
  obtain ⟨n10, n11⟩ := szf_bnd hz (gi ns 1)
  generalize szf c.sz (gi ns 0) = n0 at *
  generalize szf c.sz (gi ns 1) = n1 at *
  have hS1 := ex_l e1 hS
  have mP : ∀ {n : Int} (p : Addr) (H1 H2 : Hp), Ex H1 H2 → (∃ xs, GoodV n xs ∧ H1 p = some (.lst xs)) → ∃ xs, GoodV n xs ∧ H2 p = some (.lst xs) := fun {n} p H1 H2 e ⟨xs, h, h'⟩ => ⟨xs, h, e p _ h'⟩
  have nP : ∀ {n : Int} (p : Addr) (H1 : Hp), (∃ xs, GoodV n xs ∧ H1 p = some (.lst xs)) → H1 p ≠ none := fun {n} p H1 ⟨xs, h, h'⟩ => by rw [h']; exact fun z => nomatch z
  have mL : ∀ {xs : List V} (p : Addr) (H1 H2 : Hp), Ex H1 H2 → H1 p = some (.lst xs) → H2 p = some (.lst xs) := fun {xs} p H1 H2 e h => e p _ h
  have nL : ∀ {xs : List V} (p : Addr) (H1 : Hp), H1 p = some (.lst xs) → H1 p ≠ none := fun {xs} p H1 h => by rw [h]; exact fun z => nomatch z
  refine g_asgG2 (eg_p (elp_call (vs := [.ref a, .int 2, .int n0]) (ea_cons (ev_var rfl) (ea_cons ev_c (ea_cons (ev_ixL (ev_var rfl) ev_c (sq_lst hlsz) rfl) ea_nil))) (v_good hS1 (by decide) (by decide) n00 n01))) mP nP (eg_p (elp_call (vs := [.ref a, .int 7, .int n1]) (ea_cons (ev_var rfl) (ea_cons ev_c (ea_cons (ev_ixL (ev_var rfl) ev_c (sq_lst hlsz) rfl) ea_nil))) (v_good hS1 (by decide) (by decide) n10 n11))) mP nP fun r0 r1 pb H2 hr0 hr1 hpb nrr npr0 npr1 e2 hP0 hP1 hlp => ?_
  obtain ⟨_, ⟨ps0, rfl, pp0, hl0, nx0⟩, hlr0⟩ := hP0
  obtain ⟨_, ⟨ps1, rfl, pp1, hl1, nx1⟩, hlr1⟩ := hP1
  refine g_asgG2 (eg_l (el_callD (vs := [.ref r0]) (ea_cons (ev_ixL (ev_var rfl) ev_c (sq_lst hlp) rfl) ea_nil) (v_l_places (sq_lst hlr0) (by omega) pp0))) mL nL (eg_l (el_callD (vs := [.ref r1]) (ea_cons (ev_ixL (ev_var rfl) ev_c (sq_lst hlp) rfl) ea_nil) (v_l_places (sq_lst hlr1) (by omega) pp1))) mL nL fun g0 g1 pa H3 hg0 hg1 hpa ngg npg0 npg1 e3 hlg0 hlg1 hlpa => ?_
  refine g_asgG2 (eg_l (el_list (ev_ixL (ev_var rfl) ev_c (sq_lst (e3 _ _ hlp)) rfl) (sq_lst (e3 _ _ hlr0)))) mL nL (eg_l (el_list (ev_ixL (ev_var rfl) ev_c (sq_lst (e3 _ _ hlp)) rfl) (sq_lst (e3 _ _ hlr1)))) mL nL fun h0 h1 ph H4 hh0 hh1 hph nhh nph0 nph1 e4 hlh0 hlh1 hlph => ?_
  refine g_asgG2 (eg_make hbc (ea_cons (ev_ixL (ev_var rfl) ev_c (sq_lst hlph) rfl) ea_nil) hlh0 pp0 nx0 (by omega)) (fun _ _ _ => NewB.mono) (fun _ _ => NewB.live) (eg_make hbc (ea_cons (ev_ixL (ev_var rfl) ev_c (sq_lst hlph) rfl) ea_nil) hlh1 pp1 nx1 (by omega)) (fun _ _ _ => NewB.mono) (fun _ _ => NewB.live) fun b0 b1 pB H5 hb0 hb1 hpB nbb npB0 npB1 e5 hB0 hB1 hlpB => ?_
  obtain ⟨la0, lo0, ld0, i0, fa0, fo0, fd0, ha0, ho0, hd0⟩ := hB0
  obtain ⟨la1, lo1, ld1, i1, fa1, fo1, fd1, ha1, ho1, hd1⟩ := hB1
  have e35 := e4.trans e5
  have e25 := e3.trans e35
  refine g_no (et_test (ev_neWW (ts := [h0, h1]) (us := [r0, r1]) (pss := [ps0, ps1]) (ev_var rfl) (ev_var rfl) (e5 _ _ hlph) (e25 _ _ hlp) ((Rows.one (e5 _ _ hlh0)).app (Rows.one (e5 _ _ hlh1))) ((Rows.one (e25 _ _ hlr0)).app (Rows.one (e25 _ _ hlr1))))) (g_nextS ?_)
  refine g_reverse (l := h0) (e5 _ _ hlh0) (ev_ixL (ev_var rfl) ev_c (sq_lst (e5 _ _ hlph)) rfl) fun H6 e6 => ?_
  refine Go.here (g_clear (l := h1) ((upd_ne nhh.symm).trans (e6 _ _ (e5 _ _ hlh1))) (ev_ixL (ev_var rfl) ev_c (sq_lst ((upd_ne nph0).trans (e6 _ _ (e5 _ _ hlph)))) rfl) fun H7 e7 => ?_)
  generalize hHb : upd H7 h1 (.lst []) = Hb
  have kb : ∀ x o, x ≠ h0 → x ≠ h1 → H5 x = some o → Hb x = some o := fun x o n0 n1 h => by
    rw [← hHb, upd_ne n1]
    exact e7 x o ((upd_ne n0).trans (e6 x o h))
  have live : ∀ {Hx : Hp} {x y : Addr} {o : HO}, Hx x = some o → Hx y = none → x ≠ y := fun {Hx x y o} hx hy z => by
    rw [z, hy] at hx
    cases hx
  -- what stands from H3, what came behind H4
  have k3 : ∀ x o, H3 x = some o → Hb x = some o := fun x o h => kb x o (live h hh0) (live h hh1) (e35 x o h)
  have k4 : ∀ x o, H4 x = none → H5 x = some o → Hb x = some o := fun x o n h => kb x o (live hlh0 n).symm (live hlh1 n).symm h
  have eb : Ex H Hb := fun x o h => k3 x o (e3 x o (e2 x o (e1 x o h)))
  refine Go.here (g_asgG2 (eg_l (xs := []) (el_lst ea_nil (Nat.zero_le _))) mL nL (eg_l (xs := []) (el_lst ea_nil (Nat.zero_le _))) mL nL fun l0 l1 pL H8 hl0' hl1' hpL nll npl0 npl1 e8 hll0 hll1 hlL => ?_)
  refine g_asgL (xs := []) (el_lst ea_nil (Nat.zero_le _)) fun pT H9 hpT e9 hlT => ?_
  have e89 := e8.trans e9
  have esrt : srt [] = [] := List.eq_nil_of_length_eq_zero (srt_len [])
  have ib0 : InsB c H9 b0 la0 lo0 ld0 := by
    obtain ⟨dx, hx⟩ := i0
    exact ⟨dx, e89 _ _ (k4 _ _ hb0 hx)⟩
  have ib1 : InsB c H9 b1 la1 lo1 ld1 := by
    obtain ⟨dx, hx⟩ := i1
    exact ⟨dx, e89 _ _ (k4 _ _ hb1 hx)⟩
  obtain ⟨X, hX⟩ : ∃ X : Fx, X = ⟨sel b0 b1, sel la0 la1, sel lo0 lo1, sel g0 g1, sel r0 r1, sel ps0 ps1, pB, pb, pa, pL, pT⟩ := ⟨_, rfl⟩
  have nm9 : ∀ {x : Addr} {xs : List V}, H9 x = some (.lst xs) → x ≠ pL → x ≠ pT → ¬ X.Mut x := fun {x xs} h n1 n2 m => by
    rw [hX] at m
    rcases m with ⟨i, m⟩ | m | m
    · cases i with
      | false => exact ne_ins ib0 h m
      | true => exact ne_ins ib1 h m
    · exact n1 m
    · exact n2 m
  have nmb : ∀ {x : Addr} {xs : List V}, Hb x = some (.lst xs) → ¬ X.Mut x := fun {x xs} h => nm9 (e89 _ _ h) (live h hpL) (live (e8 _ _ h) hpT)
  have ok : FxOk X := by
    subst hX
    refine ⟨fun i j hij => ?_, live hlL hpT, fun i => ?_, fun i => ?_, fun i => (match i with | false => ⟨pp0.pos, show ps0.length ≤ 100 by omega⟩ | true => ⟨pp1.pos, show ps1.length ≤ 100 by omega⟩), fun i => (match i with | false => nmb (k4 _ _ fa0 ha0) | true => nmb (k4 _ _ fa1 ha1)), fun i => (match i with | false => nmb (k4 _ _ fo0 ho0) | true => nmb (k4 _ _ fo1 ho1)), fun i => (match i with | false => nmb (k3 _ _ hlg0) | true => nmb (k3 _ _ hlg1)), fun i => (match i with | false => nmb (k3 _ _ (e3 _ _ hlr0)) | true => nmb (k3 _ _ (e3 _ _ hlr1))), nmb (k4 _ _ hpB hlpB), nmb (k3 _ _ (e3 _ _ hlp)), nmb (k3 _ _ hlpa)⟩
    · cases i <;> cases j
      · exact absurd rfl hij
      · exact nbb
      · exact nbb.symm
      · exact absurd rfl hij
    · cases i
      · exact (ne_ins ib0 (e9 _ _ hlL)).symm
      · exact (ne_ins ib1 (e9 _ _ hlL)).symm
    · cases i
      · exact (ne_ins ib0 hlT).symm
      · exact (ne_ins ib1 hlT).symm
  have A9 : At c X (sel ld0 ld1) (sel l0 l1) (fun _ => []) [] H9 := by
    subst hX
    refine ⟨fun i => ?_, sel_all (P := fun i x => H9 x = some (.lst ((pl (sel ps0 ps1 i)).map V.int))) (e89 _ _ (k4 _ _ fa0 ha0)) (e89 _ _ (k4 _ _ fa1 ha1)), sel_all (P := fun i x => H9 x = some (.lst ((sel ps0 ps1 i).map V.int))) (e89 _ _ (k4 _ _ fo0 ho0)) (e89 _ _ (k4 _ _ fo1 ho1)), sel_all (P := fun _ x => H9 x = some (.lst (([] : List Int).map V.int))) (e89 _ _ (k4 _ _ fd0 hd0)) (e89 _ _ (k4 _ _ fd1 hd1)), sel_all (P := fun i x => H9 x = some (.lst ((pl (sel ps0 ps1 i)).map V.int))) (e89 _ _ (k3 _ _ hlg0)) (e89 _ _ (k3 _ _ hlg1)), sel_all (P := fun i x => H9 x = some (.lst ((sel ps0 ps1 i).map V.int))) (e89 _ _ (k3 _ _ (e3 _ _ hlr0))) (e89 _ _ (k3 _ _ (e3 _ _ hlr1))), fun i => ?_, fun i => creases_nil _, e89 _ _ (k4 _ _ hpB hlpB), e89 _ _ (k3 _ _ (e3 _ _ hlp)), e89 _ _ (k3 _ _ hlpa), e9 _ _ hlL, hlT, fun u hu => by simp at hu, sel_all (P := fun _ x => ¬ Fx.Mut _ x) (nmb (k4 _ _ fd0 hd0)) (nmb (k4 _ _ fd1 hd1)), sel_all (P := fun _ x => ¬ Fx.Mut _ x) (nm9 (e9 _ _ hll0) npl0.symm (live hll0 hpT)) (nm9 (e9 _ _ hll1) npl1.symm (live hll1 hpT))⟩
    · cases i
      · exact ib0
      · exact ib1
    · rw [esrt]
      cases i
      · exact e9 _ _ hll0
      · exact e9 _ _ hll1
  have hS9 := ex_l (eb.trans e89) hS
  have eB : pB = X.B := by rw [hX]
  have eP : pb = X.P := by rw [hX]
  have eA : pa = X.A := by rw [hX]
  have eL : pL = X.L := by rw [hX]
  have eT : pT = X.T := by rw [hX]
  rw [eB, eP, eA, eL, eT]
  obtain ⟨ms, hms, hml⟩ := cut_ints ns 2 62
  refine g_forN (K := K) (j := 8) (xs := ms.map V.int) (by rw [← hms]; exact el_sl (ev_var rfl) (eo_some ev_c) (eo_some ev_c) hS9) (fun p i σ H' => ∃ (y8 y9 y10 y11 y12 y13 : Option V) (d l : Bool → Addr) (D' : Bool → List Int) (us : List Addr), σ = [some (.ref a), some (.ref sz), some (.ref X.P), some (.ref X.A), some (.ref ph), some (.ref X.B), some (.ref X.L), some (.ref X.T), y8, y9, y10, y11, y12, y13, none, none] ∧ At c X d l D' us H' ∧ us.length ≤ 4 * i ∧ H' p = some (.lst (ms.map V.int)) ∧ ¬ X.Mut p)
    (fun p H1 hp e1 hlp' => ⟨none, none, none, none, none, none, _, _, _, [], rfl, A9.ext e1, Nat.zero_le _, hlp', A9.fresh hp⟩) (fun p i σ H' _ hP => ?_) (fun p i x σ H' hx hP => ?_) (fun p σ H' hP => ?_)
  · obtain ⟨_, _, _, _, _, _, _, _, _, _, _, _, _, hp, _⟩ := hP
    exact sq_lst hp
  · obtain ⟨y8, y9, y10, y11, y12, y13, d, l, D', us, rfl, A, hul, hp, np⟩ := hP
    rw [List.getElem?_map] at hx
    cases hmx : ms[i]? with
    | none => rw [hmx] at hx; cases hx
    | some z =>
      rw [hmx] at hx
      cases hx
      have hi : i < ms.length := (List.getElem?_eq_some_iff.mp hmx).1
      refine g_asg (v := .int (z % 2)) (ev_mod (ev_var rfl) ev_c (by decide)) ?_
      refine g_asg (v := .int (z / 2 * 69621 % 2147483629)) (ev_mod (ev_mul (ev_div (ev_var rfl) ev_c ⟨by decide, by decide⟩) ev_c (Or.inr ⟨by decide, by decide⟩)) ev_c (by decide)) ?_
      have m0 : 0 ≤ z / 2 * 69621 % 2147483629 := Int.emod_nonneg _ (by decide)
      have m1 : z / 2 * 69621 % 2147483629 < 2147483629 := Int.emod_lt_of_pos _ (by decide)
      generalize z / 2 * 69621 % 2147483629 = m at m0 m1 ⊢
      have hk : z % 2 = 0 ∨ z % 2 = 1 := by omega
      generalize z % 2 = k at hk ⊢
      refine g_asgC (vs := [.ref (X.b (decide (k = 1))), .ref (X.g (decide (k = 1))), .ref (l (decide (k = 1))), .int m]) (ea_cons (ev_ixL (ev_var rfl) (ev_var rfl) (sq_lst A.B) (at2 hk)) (ea_cons (ev_ixL (ev_var rfl) (ev_var rfl) (sq_lst A.A) (at2 hk)) (ea_cons (ev_ixL (ev_var rfl) (ev_var rfl) (sq_lst A.L) (at2 hk)) (ea_cons (ev_var rfl) ea_nil)))) fun H1 e1 => ?_
      have A1 := A.ext e1
      have hp1 := e1 _ _ hp
      obtain ⟨len1, len2⟩ := ok.len (decide (k = 1))
      generalize hkb : decide (k = 1) = kb at len1 len2
      have hpl := pl_len (X.ns kb)
      refine ⟨X.b kb, X.g kb, l kb, X.la kb, X.lo kb, d kb, pl (X.ns kb), D' kb, m, rfl, hbc, kn, A1.ins kb, A1.at_ kb, A1.dr kb, A1.g kb, A1.ls kb, by rw [hpl]; exact A1.cr kb, by omega, by omega, m0, by omega, fun H2 l' d' E' o i' hd' hk' hl' hdn hln => ?_⟩
      rw [hpl] at hk'
      refine Go.here (g_no (et_is (et_test (ev_isN (ev_var rfl))) (by simp)) (g_nextS ?_))
      refine g_setL (l := X.L) (xs := two l) (j := k) (o _ _ (ok.bL kb).symm A1.L) (ev_var rfl) (ev_var rfl) (ev_var rfl) (by omega) (by show k < 2; omega) fun H3 e3 => ?_
      rw [set2 hk, hkb]
      obtain ⟨A3, st3⟩ := A1.deed ok o i' hd' hk' hl' hdn hln e3
      generalize upd H3 X.L (.lst (two (upB l kb l'))) = H4 at A3 st3 ⊢
      generalize upB l kb l' = l2 at A3 ⊢
      generalize upB d kb d' = d2 at A3
      generalize upB D' kb E' = D2 at A3
      have hp4 := st3 _ _ np hp1
      refine Go.here (g_asgL (xs := [k].map V.int) (el_lst (vs := [.int k]) (ea_cons (ev_var rfl) ea_nil) (Nat.le_of_ble_eq_true rfl)) fun po H5 hpo e5 hlpo => ?_)
      refine g_cutM (fun σ H' => ∃ (po : Addr) (zs : List Int), σ = [some (.ref a), some (.ref sz), some (.ref X.P), some (.ref X.A), some (.ref ph), some (.ref X.B), some (.ref X.L), some (.ref X.T), some (.int z), some (.int k), some (.int m), some (.ref l'), some (.ref po), y13, none, none] ∧ At c X d2 l2 D2 us H' ∧ H' p = some (.lst (ms.map V.int)) ∧ H' po = some (.lst (zs.map V.int)) ∧ ¬ X.Mut po ∧ (∀ u ∈ zs, u = 0 ∨ u = 1) ∧ zs.length ≤ 2) ?_ (fun σ H6 hM => ?_)
      · refine g_ifC (b := decide (m / 5 % 4 = 1)) (et_test (ev_eqI (ev_mod (ev_div (ev_var rfl) ev_c ⟨by decide, by decide⟩) ev_c (by decide)) ev_c)) (fun _ => ?_) (fun _ => ?_)
        · refine g_asgL (xs := [1 - k, k].map V.int) (el_lst (vs := [.int (1 - k), .int k]) (ea_cons (ev_sub ev_c (ev_var rfl)) (ea_cons (ev_var rfl) ea_nil)) (Nat.le_of_ble_eq_true rfl)) fun po2 H6 hpo2 e6 hlpo2 => ?_
          refine g_next fun H7 e7 => ⟨po2, [1 - k, k], rfl, A3.ext ((e5.trans e6).trans e7), e7 _ _ (e6 _ _ (e5 _ _ hp4)), e7 _ _ hlpo2, A3.fresh (fresh_back e5 hpo2), fun u hu => ?_, Nat.le_refl _⟩
          rcases List.mem_cons.mp hu with rfl | hu
          · omega
          · rw [List.mem_singleton.mp hu]
            exact hk
        · refine g_next fun H7 e7 => ⟨po, [k], rfl, A3.ext (e5.trans e7), e7 _ _ (e5 _ _ hp4), e7 _ _ hlpo, A3.fresh hpo, fun u hu => ?_, Nat.le_succ _⟩
          rw [List.mem_singleton.mp hu]
          exact hk
      · obtain ⟨po, zs, rfl, A6, hp6, hpo6, npo, hzs, hzl⟩ := hM
        refine g_forL (a := po) (xs := zs.map V.int) (ev_var rfl) (sq_lst hpo6) (fun j σ H' => ∃ (y13 : Option V) (us' : List Addr), σ = [some (.ref a), some (.ref sz), some (.ref X.P), some (.ref X.A), some (.ref ph), some (.ref X.B), some (.ref X.L), some (.ref X.T), some (.int z), some (.int k), some (.int m), some (.ref l'), some (.ref po), y13, none, none] ∧ At c X d2 l2 D2 us' H' ∧ us'.length ≤ us.length + 2 * j ∧ Still X H6 H')
          (fun H7 e7 => ⟨y13, us, rfl, A6.ext e7, by omega, Still.of e7⟩) (fun j σ H' _ hP => ?_) (fun j x σ H' hx hP => ?_) (fun σ H' hP => ?_)
        · obtain ⟨_, _, _, _, _, st⟩ := hP
          exact sq_lst (st _ _ npo hpo6)
        · obtain ⟨y, us', rfl, A7, hul7, st⟩ := hP
          rw [List.getElem?_map] at hx
          cases hzx : zs[j]? with
          | none => rw [hzx] at hx; cases hx
          | some w =>
            rw [hzx] at hx
            cases hx
            have hw := hzs w (List.mem_of_getElem? hzx)
            have hj : j < zs.length := (List.getElem?_eq_some_iff.mp hzx).1
            exact look_ok ok (i := decide (w = 1)) hbc A7 (by omega) (ea_cons (ev_ixL (ev_var rfl) (ev_var rfl) (sq_lst A7.B) (at2 hw)) (ea_cons (ev_ixL (ev_var rfl) (ev_var rfl) (sq_lst A7.P) (at2 hw)) (ea_cons (ev_ixL (ev_var rfl) (ev_var rfl) (sq_lst A7.L) (at2 hw)) (ea_cons (ev_div (ev_var rfl) ev_c ⟨by decide, by decide⟩) (ea_cons (ev_var rfl) ea_nil))))) fun us8 H8 hul8 A8 st8 =>
              g_next fun H9 e9 => ⟨_, us8, rfl, A8.ext e9, by omega, (st.trans st8).trans (Still.of e9)⟩
        · obtain ⟨y, us', rfl, A7, hul7, st⟩ := hP
          rw [List.length_map] at hul7
          exact g_next fun H9 e9 => ⟨_, _, _, _, _, _, d2, l2, D2, us', rfl, A7.ext e9, by omega, e9 _ _ (st _ _ np hp6), np⟩
  · obtain ⟨y8, y9, y10, y11, y12, y13, d, l, D', us, rfl, A, hul, _, _⟩ := hP
    rw [List.length_map] at hul
    refine g_forR1 (n := 2) (ea_cons ev_c ea_nil) (by decide) (fun j σ H' => ∃ (y13 : Option V) (us' : List Addr), σ = [some (.ref a), some (.ref sz), some (.ref X.P), some (.ref X.A), some (.ref ph), some (.ref X.B), some (.ref X.L), some (.ref X.T), y8, y9, y10, y11, y12, y13, none, none] ∧ At c X d l D' us' H' ∧ us'.length ≤ us.length + 2 * j)
      (fun H1 e1 => ⟨y13, us, rfl, A.ext e1, by omega⟩) (fun j σ H' hj hP => ?_) (fun σ H' hP => ?_) (by decide)
    · obtain ⟨y, us', rfl, A7, hul7⟩ := hP
      have hw : (j : Int) = 0 ∨ (j : Int) = 1 := by omega
      exact look_ok ok (i := decide ((j : Int) = 1)) hbc A7 (by omega) (ea_cons (ev_ixL (ev_var rfl) (ev_var rfl) (sq_lst A7.B) (at2 hw)) (ea_cons (ev_ixL (ev_var rfl) (ev_var rfl) (sq_lst A7.P) (at2 hw)) (ea_cons (ev_ixL (ev_var rfl) (ev_var rfl) (sq_lst A7.L) (at2 hw)) (ea_cons ev_c (ea_cons (ev_var rfl) ea_nil))))) fun us8 H8 hul8 A8 st8 =>
        g_next fun H9 e9 => ⟨_, us8, rfl, A8.ext e9, by omega⟩
    · obtain ⟨y, us', rfl, A7, hul7⟩ := hP
      have hpr : ∀ u ∈ us', ∃ x z : Addr, H' u = some (.tup [.ref x, .ref z]) ∧ prOf H' u = (.ref x, .ref z) ∧ ((∃ ns : List Int, H' x = some (.lst (ns.map V.int)) ∧ H' z = some (.lst (ns.map V.int))) ∨ ∃ (xs ys : List Addr) (pss : List (List Int)), H' x = some (.lst (xs.map V.ref)) ∧ H' z = some (.lst (ys.map V.ref)) ∧ Rows H' xs pss ∧ Rows H' ys pss) := fun u hu => by
        obtain ⟨x, z, hx, _, _, _, h⟩ := A7.us u hu
        refine ⟨x, z, hx, by unfold prOf; rw [hx], h.imp id fun ⟨xs, ys, pss, h1, h2, h3, h4, _⟩ => ⟨xs, ys, pss, h1, h2, h3, h4⟩⟩
      refine g_forPr (f := prOf H') (ev_var rfl) A7.T (fun u hu => ?_) (fun i σ H2 => ∃ y14 y15 : Option V, σ = [some (.ref a), some (.ref sz), some (.ref X.P), some (.ref X.A), some (.ref ph), some (.ref X.B), some (.ref X.L), some (.ref X.T), y8, y9, y10, y11, y12, y, y14, y15] ∧ Ex H' H2) (fun H1 e1 => ⟨none, none, rfl, e1⟩) (fun i σ H2 hP => ?_) (fun i u σ H2 hu hP => ?_) (fun σ H2 hP => ?_)
      · obtain ⟨x, z, h1, h2, _⟩ := hpr u hu
        rw [h2]
        exact h1
      · obtain ⟨_, _, _, e⟩ := hP
        exact e
      · obtain ⟨y14, y15, rfl, e⟩ := hP
        obtain ⟨x, z, h1, h2, h3⟩ := hpr u (List.mem_of_getElem? hu)
        rw [h2]
        refine g_no ?_ (g_nextS (g_next fun H3 e3 => ⟨_, _, rfl, e.trans e3⟩))
        rcases h3 with ⟨ns', hx, hz'⟩ | ⟨xs, ys, pss, hx, hz', r1, r2⟩
        · exact et_is (et_test (ev_neL (ns := ns') (ms := ns') (ev_var rfl) (ev_var rfl) (sq_lst (e _ _ hx)) (sq_lst (e _ _ hz')))) (by simp)
        · exact et_test (ev_neWW (ev_var rfl) (ev_var rfl) (e _ _ hx) (e _ _ hz') (r1.mono e) (r2.mono e))
      · obtain ⟨y14, y15, rfl, e⟩ := hP
        exact g_ret (v := .bl true) ev_c fun H3 e3 => q H3
end
end Fo
/-! FoldR28 -/
namespace Fo
open PySem L2 Evl
local macro_rules | `(tactic| walk_at "hl") => `(tactic| first
  | assumption
  | exact upd_same
  | (refine (by assumption : Ex _ _) _ _ ?_; walk_at "hl"))
local macro_rules | `(tactic| walk_at "sq") => `(tactic| first
  | assumption
  | (refine sq_lst ?_; walk_at "hl")
  | (refine ex_l (by assumption) ?_; walk_at "sq"))
local macro_rules | `(tactic| walk_at "st") => `(tactic| first
  | assumption
  | (refine st_of ?_; walk_at "hl")
  | (refine ex_t (by assumption) ?_; walk_at "st"))
local macro_rules | `(tactic| walk_at "sq2") => `(tactic| first
  | assumption
  | (refine Or.inl ?_; walk_at "sq")
  | (refine Or.inr ?_; walk_at "st")
  | (refine Sq2.mono (by assumption) ?_; walk_at "sq2"))
local macro_rules | `(tactic| walk_at "ar") => `(tactic| first
  | assumption
  | omega
  | decide)
local macro_rules | `(tactic| walk_at "lar") => `(tactic| first
  | omega
  | (simp only [List.length_append, List.length_map, List.length_take, List.length_drop, List.length_cons, List.length_nil, List.length_replicate]; omega))
local macro_rules | `(tactic| walk_at "hb") => `(tactic| first
  | skip)
local macro_rules | `(tactic| walk_at "mul") => `(tactic| first
  | (exact Or.inr ⟨by decide, by decide⟩)
  | (exact Or.inl ⟨by decide, by decide⟩)
  | (exact Or.inl ⟨by omega, by omega⟩)
  | (exact Or.inr ⟨by omega, by omega⟩))
local macro_rules | `(tactic| walk_at "div") => `(tactic| first
  | (exact ⟨by decide, by decide⟩)
  | (exact ⟨by omega, by omega⟩))
local macro_rules | `(tactic| walk_at "ea") => `(tactic| first
  | exact ea_nil
  | ((with_reducible refine' ea_cons ?k0 ?k1); (case k0 => walk_at "ev"); (case k1 => walk_at "ea")))
local macro_rules | `(tactic| walk_at "eo") => `(tactic| first
  | exact eo_none
  | ((with_reducible refine' eo_some ?k0); (case k0 => walk_at "ev")))
local macro_rules | `(tactic| walk_at "el") => `(tactic| first
  | ((with_reducible refine' el_lst ?k0 ?k1); (case k0 => walk_at "ea"); (case k1 => (exact Nat.le_of_ble_eq_true rfl)))
  | ((with_reducible refine' el_from ?k0 ?k1 ?k2 ?k3 ?k4); (case k0 => walk_at "ev"); (case k1 => walk_at "eo"); (case k2 => walk_at "sq"); (case k3 => walk_at "ar"); (case k4 => walk_at "lar"))
  | ((with_reducible refine' el_upto ?k0 ?k1 ?k2 ?k3 ?k4); (case k0 => walk_at "ev"); (case k1 => walk_at "eo"); (case k2 => walk_at "sq"); (case k3 => walk_at "ar"); (case k4 => walk_at "lar"))
  | ((with_reducible refine' el_rep1 ?k0 ?k1 ?k2 ?k3); (case k0 => walk_at "el"); (case k1 => walk_at "ev"); (case k2 => walk_at "ar"); (case k3 => walk_at "ar"))
  | ((with_reducible refine' el_cat ?k0 ?k1 ?k2); (case k0 => walk_at "el"); (case k1 => walk_at "el"); (case k2 => walk_at "lar"))
  | ((with_reducible refine' el_callD ?k0 ?k1); (case k0 => walk_at "ea"); (case k1 => walk_at "sp"))
  | ((with_reducible refine' el_list ?k0 ?k1); (case k0 => walk_at "ev"); (case k1 => walk_at "sq"))
  | ((with_reducible refine' el_srt ?k0 ?k1); (case k0 => walk_at "ev"); (case k1 => walk_at "sq"))
  | ((with_reducible refine' el_sortedQ ?k0 ?k1); (case k0 => walk_at "ev"); (case k1 => walk_at "sq2"))
  | ((with_reducible refine' el_rev ?k0 ?k1); (case k0 => walk_at "ev"); (case k1 => walk_at "sq"))
  | ((with_reducible refine' el_step ?k0 ?k1 ?k2); (case k0 => walk_at "ev"); (case k1 => walk_at "eo"); (case k2 => walk_at "sq")))
local macro_rules | `(tactic| walk_at "et") => `(tactic| first
  | ((with_reducible refine' et_test ?k0); (case k0 => walk_at "ev"))
  | ((with_reducible refine' et_B ?k0); (case k0 => walk_at "ev"))
  | ((with_reducible refine' et_not ?k0); (case k0 => walk_at "et"))
  | ((with_reducible refine' et_and ?k0 (fun hb => ?k1)); (case k0 => walk_at "et"); (case k1 => (walk_at "hb"; walk_at "et")))
  | ((with_reducible refine' et_or ?k0 (fun hb => ?k1)); (case k0 => walk_at "et"); (case k1 => (walk_at "hb"; walk_at "et"))))
local macro_rules | `(tactic| walk_at "ev") => `(tactic| first
  | ((with_reducible refine' ev_var ?k0); (case k0 => rfl))
  | exact ev_c
  | ((with_reducible refine' ev_add ?k0 ?k1); (case k0 => walk_at "ev"); (case k1 => walk_at "ev"))
  | ((with_reducible refine' ev_sub ?k0 ?k1); (case k0 => walk_at "ev"); (case k1 => walk_at "ev"))
  | ((with_reducible refine' ev_ixI ?k0 ?k1 ?k2 ?k3 ?k4); (case k0 => walk_at "ev"); (case k1 => walk_at "ev"); (case k2 => walk_at "sq"); (case k3 => walk_at "ar"); (case k4 => walk_at "ar"))
  | ((with_reducible refine' ev_ixT ?k0 ?k1 ?k2 ?k3); (case k0 => walk_at "ev"); (case k1 => walk_at "ev"); (case k2 => walk_at "st"); (case k3 => rfl))
  | ((with_reducible refine' ev_lt ?k0 ?k1); (case k0 => walk_at "ev"); (case k1 => walk_at "ev"))
  | ((with_reducible refine' ev_gt ?k0 ?k1); (case k0 => walk_at "ev"); (case k1 => walk_at "ev"))
  | ((with_reducible refine' ev_le ?k0 ?k1); (case k0 => walk_at "ev"); (case k1 => walk_at "ev"))
  | ((with_reducible refine' ev_ge ?k0 ?k1); (case k0 => walk_at "ev"); (case k1 => walk_at "ev"))
  | ((with_reducible refine' ev_eqI ?k0 ?k1); (case k0 => walk_at "ev"); (case k1 => walk_at "ev"))
  | ((with_reducible refine' ev_neI ?k0 ?k1); (case k0 => walk_at "ev"); (case k1 => walk_at "ev"))
  | ((with_reducible refine' ev_eqB ?k0 ?k1); (case k0 => walk_at "ev"); (case k1 => walk_at "ev"))
  | ((with_reducible refine' ev_neB ?k0 ?k1); (case k0 => walk_at "ev"); (case k1 => walk_at "ev"))
  | ((with_reducible refine' ev_eqS ?k0 ?k1); (case k0 => walk_at "ev"); (case k1 => walk_at "ev"))
  | ((with_reducible refine' ev_neS ?k0 ?k1); (case k0 => walk_at "ev"); (case k1 => walk_at "ev"))
  | ((with_reducible refine' ev_mod ?k0 ?k1 ?k2); (case k0 => walk_at "ev"); (case k1 => walk_at "ev"); (case k2 => walk_at "ar"))
  | ((with_reducible refine' ev_mul ?k0 ?k1 ?k2); (case k0 => walk_at "ev"); (case k1 => walk_at "ev"); (case k2 => walk_at "mul"))
  | ((with_reducible refine' ev_div ?k0 ?k1 ?k2); (case k0 => walk_at "ev"); (case k1 => walk_at "ev"); (case k2 => walk_at "div"))
  | ((with_reducible refine' ev_neg ?k0); (case k0 => walk_at "ev"))
  | ((with_reducible refine' ev_callD ?k0 ?k1); (case k0 => walk_at "ea"); (case k1 => walk_at "sp"))
  | ((with_reducible refine' ev_lenI ?k0 ?k1); (case k0 => walk_at "ev"); (case k1 => walk_at "sq"))
  | ((with_reducible refine' ev_lenQ ?k0 ?k1); (case k0 => walk_at "ev"); (case k1 => walk_at "sq2"))
  | ((with_reducible refine' ev_lenSet ?k0 ?k1 ?k2); (case k0 => walk_at "ev"); (case k1 => walk_at "sq2"); (case k2 => walk_at "ar"))
  | ((with_reducible refine' ev_inI ?k0 ?k1 ?k2); (case k0 => walk_at "ev"); (case k1 => walk_at "ev"); (case k2 => walk_at "sq2"))
  | ((with_reducible refine' ev_notInI ?k0 ?k1 ?k2); (case k0 => walk_at "ev"); (case k1 => walk_at "ev"); (case k2 => walk_at "sq2"))
  | ((with_reducible refine' ev_lenTxt ?k0 ?k1); (case k0 => walk_at "ev"); (case k1 => walk_at "ar"))
  | ((with_reducible refine' ev_lenS ?k0 ?k1); (case k0 => walk_at "ev"); (case k1 => walk_at "ar"))
  | ((with_reducible refine' ev_ixTxt ?k0 ?k1 ?k2 ?k3 ?k4); (case k0 => walk_at "ev"); (case k1 => walk_at "ev"); (case k2 => walk_at "ar"); (case k3 => walk_at "ar"); (case k4 => walk_at "ar"))
  | ((with_reducible refine' ev_ix2 ?k0); (case k0 => walk_at "ev"))
  | ((with_reducible refine' ev_isiI ?k0); (case k0 => walk_at "ev"))
  | ((with_reducible refine' ev_isiL ?k0 ?k1); (case k0 => walk_at "ev"); (case k1 => walk_at "hl"))
  | ((with_reducible refine' ev_isiU ?k0 ?k1); (case k0 => walk_at "ev"); (case k1 => walk_at "hl"))
  | ((with_reducible refine' ev_isiS ?k0); (case k0 => walk_at "ev"))
  | ((with_reducible refine' ev_isiB ?k0); (case k0 => walk_at "ev"))
  | ((with_reducible refine' ev_isN ?k0); (case k0 => walk_at "ev"))
  | ((with_reducible refine' ev_notN ?k0); (case k0 => walk_at "ev"))
  | ((with_reducible refine' ev_notIB ?k0 ?k1); (case k0 => walk_at "ev"); (case k1 => walk_at "ev"))
  | ((with_reducible refine' ev_neNil ?k0 ?k1); (case k0 => walk_at "ev"); (case k1 => walk_at "sq"))
  | ((with_reducible refine' ev_eqNil ?k0 ?k1); (case k0 => walk_at "ev"); (case k1 => walk_at "sq"))
  | ((with_reducible refine' ev_eqL ?k0 ?k1 ?k2 ?k3); (case k0 => walk_at "ev"); (case k1 => walk_at "ev"); (case k2 => walk_at "sq"); (case k3 => walk_at "sq"))
  | ((with_reducible refine' ev_neL ?k0 ?k1 ?k2 ?k3); (case k0 => walk_at "ev"); (case k1 => walk_at "ev"); (case k2 => walk_at "sq"); (case k3 => walk_at "sq"))
  | ((with_reducible refine' ev_min2 ?k0 ?k1); (case k0 => walk_at "ev"); (case k1 => walk_at "ev"))
  | ((with_reducible refine' ev_max2 ?k0 ?k1); (case k0 => walk_at "ev"); (case k1 => walk_at "ev"))
  | ((with_reducible refine' ev_intB ?k0); (case k0 => walk_at "ev"))
  | ((with_reducible refine' ev_andV ?k0 (fun hb => ?k1)); (case k0 => walk_at "ev"); (case k1 => (walk_at "hb"; walk_at "ev")))
  | ((with_reducible refine' ev_orV ?k0 (fun hb => ?k1)); (case k0 => walk_at "ev"); (case k1 => (walk_at "hb"; walk_at "ev")))
  | ((with_reducible refine' ev_notV ?k0); (case k0 => walk_at "ev"))
  | ((with_reducible refine' ev_ifI ?k0 (fun hb => ?k1) (fun hb => ?k2)); (case k0 => walk_at "et"); (case k1 => (walk_at "hb"; walk_at "ev")); (case k2 => (walk_at "hb"; walk_at "ev")))
  | ((with_reducible refine' ev_ifS ?k0 (fun hb => ?k1) (fun hb => ?k2)); (case k0 => walk_at "et"); (case k1 => (walk_at "hb"; walk_at "ev")); (case k2 => (walk_at "hb"; walk_at "ev"))))
local macro_rules | `(tactic| walk_at "hb") => `(tactic| (try simp only [decide_eq_true_eq, decide_eq_false_iff_not, Bool.and_eq_true, Bool.or_eq_true, Bool.or_eq_false_iff, Bool.not_eq_true', Bool.not_eq_false', beq_iff_eq] at *))
local macro_rules | `(tactic| walk_at "sp") => `(tactic| first
  | (refine' v_number ?k0 ?k1 ?k2; (case k0 => walk_at "sq"); (case k1 => walk_at "ar"); (case k2 => walk_at "ar"))
  | (refine' v_drawn ?k0 ?k1; (case k0 => walk_at "sq"); (case k1 => walk_at "ar"))
  | exact v_size
  | exact v_counts
  | (refine' v_wraps ?k0 ?k1 ?k2 ?k3 ?k4; (case k0 => walk_at "sq"); (case k1 => walk_at "ar"); (case k2 => walk_at "ar"); (case k3 => walk_at "ar"); (case k4 => walk_at "ar"))
  | (refine' v_l_wraps ?k0 ?k1 ?k2 ?k3 ?k4; (case k0 => walk_at "sq"); (case k1 => walk_at "ar"); (case k2 => walk_at "ar"); (case k3 => walk_at "ar"); (case k4 => walk_at "ar"))
  | (refine' v_cross ?k0 ?k1 ?k2 ?k3 ?k4; (case k0 => walk_at "sq"); (case k1 => walk_at "ar"); (case k2 => walk_at "ar"); (case k3 => walk_at "ar"); (case k4 => walk_at "ar"))
  | (refine' v_places ?k0 ?k1 ?k2; (case k0 => walk_at "sq"); (case k1 => walk_at "ar"); (case k2 => assumption))
  | (refine' v_letters ?k0 ?k1 ?k2; (case k0 => walk_at "sq"); (case k1 => walk_at "ar"); (case k2 => assumption))
  | (refine' v_l_places ?k0 ?k1 ?k2; (case k0 => walk_at "sq"); (case k1 => walk_at "ar"); (case k2 => assumption))
  | (refine' v_fits ?k0 ?k1 ?k2 ?k3; (case k0 => walk_at "sq"); (case k1 => walk_at "ar"); (case k2 => walk_at "ar"); (case k3 => walk_at "ar"))
  | (refine' v_none ?k0 ?k1 ?k2; (case k0 => walk_at "sq"); (case k1 => walk_at "ar"); (case k2 => walk_at "ar")))
local macro_rules | `(tactic| walk_at "sp") => `(tactic| first
  | (refine' v_turned ?k0 ?k1 ?k2; (case k0 => walk_at "sq"); (case k1 => walk_at "ar"); (case k2 => assumption))
  | (refine' v_same ?k0 ?k1 ?k2; (case k0 => walk_at "hl"); (case k1 => walk_at "sq"); (case k2 => walk_at "ar"))
  | (refine' v_told ?k0 ?k1 ?k2; (case k0 => walk_at "sq"); (case k1 => walk_at "hl"); (case k2 => assumption))
  | (refine' v_parted ?k0 ?k1 ?k2 ?k3; (case k0 => walk_at "sq"); (case k1 => walk_at "ar"); (case k2 => walk_at "ar"); (case k3 => assumption)))
local macro_rules | `(tactic| walk_at "sp") => `(tactic| first
  | (refine' v_is_pile ?k0 ?k1 ?k2 ?k3; (case k0 => walk_at "hl"); (case k1 => assumption); (case k2 => walk_at "ar"); (case k3 => walk_at "ar")))
local macro_rules | `(tactic| walk_at "sp") => `(tactic| first
  | (refine' v_held ?k0 ?k1 ?k2 ?k3 ?k4 ?k5; (case k0 => walk_at "sq"); (case k1 => walk_at "st"); (case k2 => walk_at "ar"); (case k3 => (refine ⟨?_, ?_⟩ <;> walk_at "ar")); (case k4 => (refine ⟨?_, ?_⟩ <;> walk_at "ar")); (case k5 => (refine ⟨?_, ?_⟩ <;> walk_at "ar")))
  | (refine' v_l_held ?k0 ?k1 ?k2 ?k3 ?k4; (case k0 => walk_at "sq"); (case k1 => walk_at "ar"); (case k2 => (refine ⟨?_, ?_⟩ <;> walk_at "ar")); (case k3 => (refine ⟨?_, ?_⟩ <;> walk_at "ar")); (case k4 => (refine ⟨?_, ?_⟩ <;> walk_at "ar")))
  | (refine' v_lies ?k0 ?k1 ?k2 ?k3 ?k4; (case k0 => walk_at "sq"); (case k1 => walk_at "st"); (case k2 => walk_at "ar"); (case k3 => (refine ⟨?_, ?_⟩ <;> walk_at "ar")); (case k4 => (refine ⟨?_, ?_⟩ <;> walk_at "ar")))
  | (refine' v_judged ?k0 ?k1 ?k2 ?k3; (case k0 => walk_at "sq"); (case k1 => walk_at "ar"); (case k2 => assumption); (case k3 => assumption))
  | (refine' v_l_free ?k0 ?k1 ?k2 ?k3 ?k4 ?k5; (case k0 => walk_at "sq"); (case k1 => walk_at "sq"); (case k2 => walk_at "ar"); (case k3 => walk_at "ar"); (case k4 => walk_at "ar"); (case k5 => assumption))
  | (refine' v_are_free ?k0 ?k1 ?k2 ?k3 ?k4 ?k5; (case k0 => walk_at "sq"); (case k1 => walk_at "sq2"); (case k2 => walk_at "ar"); (case k3 => walk_at "ar"); (case k4 => walk_at "ar"); (case k5 => assumption)))
section
variable {K : PySem.W.Frag} {c : Cs}
theorem read_l_size30 (hc : c.sz = [5, 9, 13, 4, 9, 7, 13, 30]) (vs : List V) (H : Hp) (Q : VK) (E : XK) (h : sp_l_size K c vs H Q E) : t_l_size30 K c E { nx := fun _ H' => Q .non H', rt := Q } (start ["_law_cell"] vs) H := by
  obtain ⟨x, rfl, q⟩ := h
  have h0 : 0 ≤ x % 8 := Int.emod_nonneg _ (by decide)
  have h1 : x % 8 < 8 := Int.emod_lt_of_pos _ (by decide)
  have hb : 0 < gi c.sz (x % 8) := by
    rw [hc]
    have hm := gi_mem (ns := [5, 9, 13, 4, 9, 7, 13, 30]) h0 (by show x % 8 < 8; exact h1)
    simp only [List.mem_cons, List.not_mem_nil, or_false] at hm
    omega
  have hd : Ev (tOp (rIxL K) (tLst (tCons (tC (.int 5)) (tCons (tC (.int 9)) (tCons (tC (.int 13)) (tCons (tC (.int 4)) (tCons (tC (.int 9)) (tCons (tC (.int 7)) (tCons (tC (.int 13)) (tCons (tC (.int 30)) tNil))))))))) (tOp (rI (fun _ j => 0 < j) fun i j => .int (i % j)) (tVar 0) (tC (.int 8)))) (start ["_law_cell"] [.int x]) H (.int (gi c.sz (x % 8))) := by
    rw [hc]
    refine ev_ixNew (xs := [.int 5, .int 9, .int 13, .int 4, .int 9, .int 7, .int 13, .int 30]) (el_lst (by walk_at "ea") (by decide)) (ev_mod (ev_var rfl) ev_c (by decide)) (gi_at (ns := [5, 9, 13, 4, 9, 7, 13, 30]) h0 ?_)
    show x % 8 < 8
    exact h1
  exact Go.here (g_ret (v := .int (szf c.sz x)) (ev_add ev_c (ev_mod (ev_div (ev_var rfl) ev_c ⟨by decide, by decide⟩) hd hb)) q)
theorem read_l_size17 (hc : c.sz = [6, 9, 17, 9, 17, 12, 3, 2]) (vs : List V) (H : Hp) (Q : VK) (E : XK) (h : sp_l_size K c vs H Q E) : t_l_size17 K c E { nx := fun _ H' => Q .non H', rt := Q } (start ["_law_cell"] vs) H := by
  obtain ⟨x, rfl, q⟩ := h
  have h0 : 0 ≤ x % 8 := Int.emod_nonneg _ (by decide)
  have h1 : x % 8 < 8 := Int.emod_lt_of_pos _ (by decide)
  have hb : 0 < gi c.sz (x % 8) := by
    rw [hc]
    have hm := gi_mem (ns := [6, 9, 17, 9, 17, 12, 3, 2]) h0 (by show x % 8 < 8; exact h1)
    simp only [List.mem_cons, List.not_mem_nil, or_false] at hm
    omega
  have hd : Ev (tOp (rIxL K) (tLst (tCons (tC (.int 6)) (tCons (tC (.int 9)) (tCons (tC (.int 17)) (tCons (tC (.int 9)) (tCons (tC (.int 17)) (tCons (tC (.int 12)) (tCons (tC (.int 3)) (tCons (tC (.int 2)) tNil))))))))) (tOp (rI (fun _ j => 0 < j) fun i j => .int (i % j)) (tVar 0) (tC (.int 8)))) (start ["_law_cell"] [.int x]) H (.int (gi c.sz (x % 8))) := by
    rw [hc]
    refine ev_ixNew (xs := [.int 6, .int 9, .int 17, .int 9, .int 17, .int 12, .int 3, .int 2]) (el_lst (by walk_at "ea") (by decide)) (ev_mod (ev_var rfl) ev_c (by decide)) (gi_at (ns := [6, 9, 17, 9, 17, 12, 3, 2]) h0 ?_)
    show x % 8 < 8
    exact h1
  exact Go.here (g_ret (v := .int (szf c.sz x)) (ev_add ev_c (ev_mod (ev_div (ev_var rfl) ev_c ⟨by decide, by decide⟩) hd hb)) q)
end
end Fo
/-! FoldKB -/
namespace Fo
open PySem PySem.Spec PyProof.Rows L2 Evl

/-! ### the kinds of refusal, asked of the written part by one look -/
def excB (K : PySem.W.Frag) (D : Addr) : Bool := decide (PySem.W.findIn K (.ref D) "__getattribute__" = some (some (.builtin "BaseException.__getattribute__"))) && (decide (PySem.W.findIn K (.ref D) "__getattr__" = some none) && (decide (PySem.W.subIn K (.ref D) (.type "BaseException") = some true) && (PySem.W.hasDictIn K D && (decide (PySem.W.findIn K (.ref D) "__class__" = some (some (.builtin "object.__class__"))) &&
  (decide (PySem.W.specialIn K (.builtin "object.__class__") "__get__" = some (some (.builtin "getset_descriptor.__get__"))) && (decide (PySem.W.takesIn K (.builtin "object.__class__") = some true) && decide (PySem.W.mroIn K D (.type "object") = some true)))))))
theorem excB_ok {K : PySem.W.Frag} {D : Addr} (h : excB K D = true) : ExcC K D := by
  unfold excB at h
  simp only [Bool.and_eq_true, decide_eq_true_eq] at h
  obtain ⟨h1, h2, h3, h4, h5, h6, h7, h8⟩ := h
  exact ⟨h1, h2, h3, h4, h5, h6, h7, h8⟩
def kindB (K : PySem.W.Frag) (np cr nc nl nn st se D : Addr) (k : Nat) : Bool := excB K D && (decide (PySem.W.kitOne K (.ref D) (.ref np) = some (decide (k = 0))) && (decide (PySem.W.kitOne K (.ref D) (.ref cr) = some (decide (k = 1))) && (decide (PySem.W.kitOne K (.ref D) (.ref nc) = some (decide (k = 2))) && (decide (PySem.W.kitOne K (.ref D) (.ref nl) = some (decide (k = 3))) &&
  (decide (PySem.W.kitOne K (.ref D) (.ref nn) = some (decide (k = 4))) && (decide (PySem.W.kitOne K (.ref D) (.ref st) = some (decide (k = 5))) && (decide (PySem.W.kitOne K (.ref D) (.type "ValueError") = some true) && decide (PySem.W.exmOne K (.ref D) (.ref se) = some true))))))))
theorem kindB_ok {K : PySem.W.Frag} {c : Cs} {D : Addr} {k : Nat} (h : kindB K c.np c.cr c.nc c.nl c.nn c.st c.se D k = true) : KindF K c D k := by
  unfold kindB at h
  simp only [Bool.and_eq_true, decide_eq_true_eq] at h
  obtain ⟨h0, h1, h2, h3, h4, h5, h6, h7, h8⟩ := h
  exact ⟨excB_ok h0, h1, h2, h3, h4, h5, h6, h7, h8⟩
end Fo
/-! Law_k06 -/
namespace Fo
open PySem PySem.Spec PyProof.Rows L2 Evl LamX
/-! ### the text -/
def topS (i : Nat) : Stmt := PySem.Challenge.pw_stripfold_k06_bench_deeds.main.body.getD i (.Pass ⟨0, 0, 0, 0⟩)
abbrev s_places : Stmt := topS 9
theorem sc_places : FnScope ["pile", "size", "found", "place", "stamp"] ["pile"] (defScope s_places) := ⟨rfl, rfl, rfl, by decide +kernel, rfl, by decide +kernel, by decide +kernel⟩
abbrev s_wraps : Stmt := topS 11
theorem sc_wraps : FnScope ["at", "crease", "stamp", "ends"] ["at", "crease", "stamp"] (defScope s_wraps) := ⟨rfl, rfl, rfl, by decide +kernel, rfl, by decide +kernel, by decide +kernel⟩
abbrev s_crossing : Stmt := topS 12
theorem sc_crossing : FnScope ["pile", "at", "one", "other"] ["pile"] (defScope s_crossing) := ⟨rfl, rfl, rfl, by decide +kernel, rfl, by decide +kernel, by decide +kernel⟩
abbrev s_judged : Stmt := topS 13
theorem sc_judged : FnScope ["pile", "found"] ["pile"] (defScope s_judged) := ⟨rfl, rfl, rfl, by decide +kernel, rfl, by decide +kernel, by decide +kernel⟩
abbrev s_Bench_init : Stmt := inClass (topS 21) 0
theorem sc_Bench_init : FnScope ["self", "pile"] ["self", "pile"] (defScope s_Bench_init) := ⟨rfl, rfl, rfl, by decide +kernel, rfl, by decide +kernel, by decide +kernel⟩
abbrev s_l_creases : Stmt := topS 33
theorem sc_l_creases : FnScope ["_law_size_here", "_law_loose", "_law_number_here", "_law_many", "_law_one", "_law_other", "_law_way", "_law_far", "_law_crease"] ["_law_size_here", "_law_loose", "_law_number_here"] (defScope s_l_creases) := ⟨rfl, rfl, rfl, by decide +kernel, rfl, by decide +kernel, by decide +kernel⟩
abbrev s_held : Stmt := topS 16
theorem sc_held : FnScope ["at", "part", "crease", "stamp", "other"] ["at", "part", "crease", "stamp"] (defScope s_held) := ⟨rfl, rfl, rfl, by decide +kernel, rfl, by decide +kernel, by decide +kernel⟩
abbrev s_lies_free : Stmt := topS 17
theorem sc_lies_free : FnScope ["at", "part", "first", "last", "begun", "goes_on"] ["at", "part"] (defScope s_lies_free) := ⟨rfl, rfl, rfl, by decide +kernel, rfl, by decide +kernel, by decide +kernel⟩
abbrev s_parts_of : Stmt := topS 15
theorem sc_parts_of : FnScope ["size", "creases", "parts", "first", "crease"] ["size", "creases"] (defScope s_parts_of) := ⟨rfl, rfl, rfl, by decide +kernel, rfl, by decide +kernel, by decide +kernel⟩
abbrev s_are_free : Stmt := topS 18
theorem sc_are_free : FnScope ["at", "creases", "part"] ["at", "creases"] (defScope s_are_free) := ⟨rfl, rfl, rfl, by decide +kernel, rfl, by decide +kernel, by decide +kernel⟩
abbrev s_Bench_settle : Stmt := inClass (topS 21) 5
theorem sc_Bench_settle : FnScope ["self", "drawn"] ["self", "drawn"] (defScope s_Bench_settle) := ⟨rfl, rfl, rfl, by decide +kernel, rfl, by decide +kernel, by decide +kernel⟩
abbrev s_look_at_creases : Stmt := topS 19
theorem sc_look_at_creases : FnScope ["size", "creases", "crease"] ["size", "creases"] (defScope s_look_at_creases) := ⟨rfl, rfl, rfl, by decide +kernel, rfl, by decide +kernel, by decide +kernel⟩
abbrev s_Bench_draw : Stmt := inClass (topS 21) 3
theorem sc_Bench_draw : FnScope ["self", "creases", "crease"] ["self", "creases"] (defScope s_Bench_draw) := ⟨rfl, rfl, rfl, by decide +kernel, rfl, by decide +kernel, by decide +kernel⟩
abbrev s_Bench_press : Stmt := inClass (topS 21) 4
theorem sc_Bench_press : FnScope ["self", "creases", "crease"] ["self", "creases"] (defScope s_Bench_press) := ⟨rfl, rfl, rfl, by decide +kernel, rfl, by decide +kernel, by decide +kernel⟩
abbrev s_l_word_of : Stmt := topS 35
theorem sc_l_word_of : FnScope ["_law_e", "_law_others"] ["_law_e"] (defScope s_l_word_of) := ⟨rfl, rfl, rfl, by decide +kernel, rfl, by decide +kernel, by decide +kernel⟩
abbrev s_l_done : Stmt := topS 36
theorem sc_l_done : FnScope ["_law_bench", "_law_creases_here", "_law_drawing", "_law_word", "_law_e"] ["_law_bench", "_law_creases_here", "_law_drawing"] (defScope s_l_done) := ⟨rfl, rfl, rfl, by decide +kernel, rfl, by decide +kernel, by decide +kernel⟩
abbrev s_l_wraps : Stmt := topS 30
theorem sc_l_wraps : FnScope ["_law_at", "_law_crease", "_law_stamp", "_law_low", "_law_high"] ["_law_at", "_law_crease", "_law_stamp"] (defScope s_l_wraps) := ⟨rfl, rfl, rfl, by decide +kernel, rfl, by decide +kernel, by decide +kernel⟩
abbrev s_l_held : Stmt := topS 31
theorem sc_l_held : FnScope ["_law_at", "_law_first", "_law_last", "_law_crease", "_law_stamp", "_law_other"] ["_law_at", "_law_first", "_law_last", "_law_crease", "_law_stamp"] (defScope s_l_held) := ⟨rfl, rfl, rfl, by decide +kernel, rfl, by decide +kernel, by decide +kernel⟩
abbrev s_l_free : Stmt := topS 32
theorem sc_l_free : FnScope ["_law_at", "_law_loose", "_law_end", "_law_first", "_law_last"] ["_law_at", "_law_loose"] (defScope s_l_free) := ⟨rfl, rfl, rfl, by decide +kernel, rfl, by decide +kernel, by decide +kernel⟩
abbrev s_l_due : Stmt := topS 34
theorem sc_l_due : FnScope ["_law_at", "_law_loose", "_law_creases_here", "_law_drawing", "_law_k", "_law_crease", "_law_behind_here"] ["_law_at", "_law_loose", "_law_creases_here", "_law_drawing"] (defScope s_l_due) := ⟨rfl, rfl, rfl, by decide +kernel, rfl, by decide +kernel, by decide +kernel⟩
abbrev s_l_behind : Stmt := topS 37
theorem sc_l_behind : FnScope ["_law_bench", "_law_at", "_law_loose", "_law_number_here", "_law_drawing", "_law_creases_here", "_law_given", "_law_word", "_law_crease"] ["_law_bench", "_law_at", "_law_loose", "_law_number_here"] (defScope s_l_behind) := ⟨rfl, rfl, rfl, by decide +kernel, rfl, by decide +kernel, by decide +kernel⟩
abbrev s_l_drawn : Stmt := topS 23
theorem sc_l_drawn : FnScope ["_law_script", "_law_k"] ["_law_script", "_law_k"] (defScope s_l_drawn) := ⟨rfl, rfl, rfl, by decide +kernel, rfl, by decide +kernel, by decide +kernel⟩
abbrev s_l_fits : Stmt := topS 28
theorem sc_l_fits : FnScope ["_law_at", "_law_stamp", "_law_gap", "_law_crease", "_law_low", "_law_high"] ["_law_at", "_law_stamp", "_law_gap"] (defScope s_l_fits) := ⟨rfl, rfl, rfl, by decide +kernel, rfl, by decide +kernel, by decide +kernel⟩
abbrev s_l_number : Stmt := topS 24
theorem sc_l_number : FnScope ["_law_script", "_law_k", "_law_cell"] ["_law_script", "_law_k"] (defScope s_l_number) := ⟨rfl, rfl, rfl, by decide +kernel, rfl, by decide +kernel, by decide +kernel⟩
abbrev s_l_places : Stmt := topS 27
theorem sc_l_places : FnScope ["_law_pile", "_law_at", "_law_k"] ["_law_pile"] (defScope s_l_places) := ⟨rfl, rfl, rfl, by decide +kernel, rfl, by decide +kernel, by decide +kernel⟩
abbrev s_l_good : Stmt := topS 29
theorem sc_l_good : FnScope ["_law_script", "_law_start", "_law_size_here", "_law_pile", "_law_stamp", "_law_at", "_law_number_here", "_law_gap"] ["_law_script", "_law_start", "_law_size_here"] (defScope s_l_good) := ⟨rfl, rfl, rfl, by decide +kernel, rfl, by decide +kernel, by decide +kernel⟩
abbrev s_Bench_loose : Stmt := inClass (topS 21) 1
theorem sc_Bench_loose : FnScope ["self"] ["self"] (defScope s_Bench_loose) := ⟨rfl, rfl, rfl, by decide +kernel, rfl, by decide +kernel, by decide +kernel⟩
abbrev s_Bench_parts : Stmt := inClass (topS 21) 2
theorem sc_Bench_parts : FnScope ["self", "found", "first", "last", "stamp"] ["self"] (defScope s_Bench_parts) := ⟨rfl, rfl, rfl, by decide +kernel, rfl, by decide +kernel, by decide +kernel⟩
abbrev s_l_counts : Stmt := topS 25
theorem sc_l_counts : FnScope ["_law_thing"] ["_law_thing"] (defScope s_l_counts) := ⟨rfl, rfl, rfl, by decide +kernel, rfl, by decide +kernel, by decide +kernel⟩
abbrev s_l_found : Stmt := topS 38
theorem sc_l_found : FnScope ["_law_found", "_law_due_here", "_law_k"] ["_law_found", "_law_due_here"] (defScope s_l_found) := ⟨rfl, rfl, rfl, by decide +kernel, rfl, by decide +kernel, by decide +kernel⟩
abbrev s_l_parts : Stmt := topS 39
theorem sc_l_parts : FnScope ["_law_found", "_law_pile", "_law_loose", "_law_ends", "_law_first", "_law_k", "_law_stamp"] ["_law_found", "_law_pile", "_law_loose"] (defScope s_l_parts) := ⟨rfl, rfl, rfl, by decide +kernel, rfl, by decide +kernel, by decide +kernel⟩
abbrev s_l_look : Stmt := topS 40
theorem sc_l_look : FnScope ["_law_bench", "_law_pile", "_law_loose", "_law_number_here", "_law_told", "_law_some", "_law_parts_here", "_law_part"] ["_law_bench", "_law_pile", "_law_loose", "_law_number_here", "_law_told"] (defScope s_l_look) := ⟨rfl, rfl, rfl, by decide +kernel, rfl, by decide +kernel, by decide +kernel⟩
abbrev s_l_size : Stmt := topS 26
theorem sc_l_size : FnScope ["_law_cell"] ["_law_cell"] (defScope s_l_size) := ⟨rfl, rfl, rfl, by decide +kernel, rfl, by decide +kernel, by decide +kernel⟩
abbrev s_law : Stmt := topS 41
theorem sc_law : FnScope ["_law_script", "_law_sizes", "_law_both", "_law_ats", "_law_handed", "_law_benches", "_law_loose", "_law_told", "_law_cell", "_law_k", "_law_number_here", "_law_behind_here", "_law_order", "_law_j", "_law_one", "_law_kept"] ["_law_script"] (defScope s_law) := ⟨rfl, rfl, rfl, by decide +kernel, rfl, by decide +kernel, by decide +kernel⟩
/-- where the defs stand -/
structure Ad where
  f_places : Addr
  d_places : FuncData
  f_wraps : Addr
  d_wraps : FuncData
  f_crossing : Addr
  d_crossing : FuncData
  f_judged : Addr
  d_judged : FuncData
  f_Bench_init : Addr
  d_Bench_init : FuncData
  f_l_creases : Addr
  d_l_creases : FuncData
  f_held : Addr
  d_held : FuncData
  f_lies_free : Addr
  d_lies_free : FuncData
  f_parts_of : Addr
  d_parts_of : FuncData
  f_are_free : Addr
  d_are_free : FuncData
  f_Bench_settle : Addr
  d_Bench_settle : FuncData
  f_look_at_creases : Addr
  d_look_at_creases : FuncData
  f_Bench_draw : Addr
  d_Bench_draw : FuncData
  f_Bench_press : Addr
  d_Bench_press : FuncData
  f_l_word_of : Addr
  d_l_word_of : FuncData
  f_l_done : Addr
  d_l_done : FuncData
  f_l_wraps : Addr
  d_l_wraps : FuncData
  f_l_held : Addr
  d_l_held : FuncData
  f_l_free : Addr
  d_l_free : FuncData
  f_l_due : Addr
  d_l_due : FuncData
  f_l_behind : Addr
  d_l_behind : FuncData
  f_l_drawn : Addr
  d_l_drawn : FuncData
  f_l_fits : Addr
  d_l_fits : FuncData
  f_l_number : Addr
  d_l_number : FuncData
  f_l_places : Addr
  d_l_places : FuncData
  f_l_good : Addr
  d_l_good : FuncData
  f_Bench_loose : Addr
  d_Bench_loose : FuncData
  f_Bench_parts : Addr
  d_Bench_parts : FuncData
  f_l_counts : Addr
  d_l_counts : FuncData
  f_l_found : Addr
  d_l_found : FuncData
  f_l_parts : Addr
  d_l_parts : FuncData
  f_l_look : Addr
  d_l_look : FuncData
  f_l_size : Addr
  d_l_size : FuncData
  f_law : Addr
  d_law : FuncData
/-- what the top has written -/
structure Txt (K : PySem.W.Frag) (mg : Str → Option Value) (c : Cs) (A : Ad) : Prop where
  sz : c.sz = [5, 9, 13, 4, 9, 7, 13, 30]
  F_places : Fun K "places" "places" s_places A.f_places A.d_places
  g_places : mg "places" = some (.ref A.f_places)
  k_places : PySem.W.keepIn K (.ref A.f_places) = true
  b_places : Binds K A.d_places ["pile"] []
  F_wraps : Fun K "wraps" "wraps" s_wraps A.f_wraps A.d_wraps
  g_wraps : mg "wraps" = some (.ref A.f_wraps)
  k_wraps : PySem.W.keepIn K (.ref A.f_wraps) = true
  b_wraps : Binds K A.d_wraps ["at", "crease", "stamp"] []
  F_crossing : Fun K "crossing" "crossing" s_crossing A.f_crossing A.d_crossing
  g_crossing : mg "crossing" = some (.ref A.f_crossing)
  k_crossing : PySem.W.keepIn K (.ref A.f_crossing) = true
  b_crossing : Binds K A.d_crossing ["pile"] []
  F_judged : Fun K "judged" "judged" s_judged A.f_judged A.d_judged
  g_judged : mg "judged" = some (.ref A.f_judged)
  k_judged : PySem.W.keepIn K (.ref A.f_judged) = true
  b_judged : Binds K A.d_judged ["pile"] []
  F_Bench_init : Fun K "__init__" "Bench.__init__" s_Bench_init A.f_Bench_init A.d_Bench_init
  mkB : Mk K c.be A.f_Bench_init
  b_Bench_init : Binds K A.d_Bench_init ["self", "pile"] []
  F_l_creases : Fun K "_law_creases" "_law_creases" s_l_creases A.f_l_creases A.d_l_creases
  g_l_creases : mg "_law_creases" = some (.ref A.f_l_creases)
  k_l_creases : PySem.W.keepIn K (.ref A.f_l_creases) = true
  b_l_creases : Binds K A.d_l_creases ["_law_size_here", "_law_loose", "_law_number_here"] []
  F_held : Fun K "held" "held" s_held A.f_held A.d_held
  g_held : mg "held" = some (.ref A.f_held)
  k_held : PySem.W.keepIn K (.ref A.f_held) = true
  b_held : Binds K A.d_held ["at", "part", "crease", "stamp"] []
  F_lies_free : Fun K "lies_free" "lies_free" s_lies_free A.f_lies_free A.d_lies_free
  g_lies_free : mg "lies_free" = some (.ref A.f_lies_free)
  k_lies_free : PySem.W.keepIn K (.ref A.f_lies_free) = true
  b_lies_free : Binds K A.d_lies_free ["at", "part"] []
  F_parts_of : Fun K "parts_of" "parts_of" s_parts_of A.f_parts_of A.d_parts_of
  g_parts_of : mg "parts_of" = some (.ref A.f_parts_of)
  k_parts_of : PySem.W.keepIn K (.ref A.f_parts_of) = true
  b_parts_of : Binds K A.d_parts_of ["size", "creases"] []
  F_are_free : Fun K "are_free" "are_free" s_are_free A.f_are_free A.d_are_free
  g_are_free : mg "are_free" = some (.ref A.f_are_free)
  k_are_free : PySem.W.keepIn K (.ref A.f_are_free) = true
  b_are_free : Binds K A.d_are_free ["at", "creases"] []
  F_Bench_settle : Fun K "settle" "Bench.settle" s_Bench_settle A.f_Bench_settle A.d_Bench_settle
  me_Bench_settle : Meth K c.be "settle" A.f_Bench_settle
  b_Bench_settle : Binds K A.d_Bench_settle ["self", "drawn"] []
  F_look_at_creases : Fun K "look_at_creases" "look_at_creases" s_look_at_creases A.f_look_at_creases A.d_look_at_creases
  g_look_at_creases : mg "look_at_creases" = some (.ref A.f_look_at_creases)
  k_look_at_creases : PySem.W.keepIn K (.ref A.f_look_at_creases) = true
  b_look_at_creases : Binds K A.d_look_at_creases ["size", "creases"] []
  F_Bench_draw : Fun K "draw" "Bench.draw" s_Bench_draw A.f_Bench_draw A.d_Bench_draw
  me_Bench_draw : Meth K c.be "draw" A.f_Bench_draw
  b_Bench_draw : Binds K A.d_Bench_draw ["self", "creases"] []
  F_Bench_press : Fun K "press" "Bench.press" s_Bench_press A.f_Bench_press A.d_Bench_press
  me_Bench_press : Meth K c.be "press" A.f_Bench_press
  b_Bench_press : Binds K A.d_Bench_press ["self", "creases"] []
  F_l_word_of : Fun K "_law_word_of" "_law_word_of" s_l_word_of A.f_l_word_of A.d_l_word_of
  g_l_word_of : mg "_law_word_of" = some (.ref A.f_l_word_of)
  k_l_word_of : PySem.W.keepIn K (.ref A.f_l_word_of) = true
  b_l_word_of : Binds K A.d_l_word_of ["_law_e"] []
  F_l_done : Fun K "_law_done" "_law_done" s_l_done A.f_l_done A.d_l_done
  g_l_done : mg "_law_done" = some (.ref A.f_l_done)
  k_l_done : PySem.W.keepIn K (.ref A.f_l_done) = true
  b_l_done : Binds K A.d_l_done ["_law_bench", "_law_creases_here", "_law_drawing"] []
  F_l_wraps : Fun K "_law_wraps" "_law_wraps" s_l_wraps A.f_l_wraps A.d_l_wraps
  g_l_wraps : mg "_law_wraps" = some (.ref A.f_l_wraps)
  k_l_wraps : PySem.W.keepIn K (.ref A.f_l_wraps) = true
  b_l_wraps : Binds K A.d_l_wraps ["_law_at", "_law_crease", "_law_stamp"] []
  F_l_held : Fun K "_law_held" "_law_held" s_l_held A.f_l_held A.d_l_held
  g_l_held : mg "_law_held" = some (.ref A.f_l_held)
  k_l_held : PySem.W.keepIn K (.ref A.f_l_held) = true
  b_l_held : Binds K A.d_l_held ["_law_at", "_law_first", "_law_last", "_law_crease", "_law_stamp"] []
  F_l_free : Fun K "_law_free" "_law_free" s_l_free A.f_l_free A.d_l_free
  g_l_free : mg "_law_free" = some (.ref A.f_l_free)
  k_l_free : PySem.W.keepIn K (.ref A.f_l_free) = true
  b_l_free : Binds K A.d_l_free ["_law_at", "_law_loose"] []
  F_l_due : Fun K "_law_due" "_law_due" s_l_due A.f_l_due A.d_l_due
  g_l_due : mg "_law_due" = some (.ref A.f_l_due)
  k_l_due : PySem.W.keepIn K (.ref A.f_l_due) = true
  b_l_due : Binds K A.d_l_due ["_law_at", "_law_loose", "_law_creases_here", "_law_drawing"] []
  F_l_behind : Fun K "_law_behind" "_law_behind" s_l_behind A.f_l_behind A.d_l_behind
  g_l_behind : mg "_law_behind" = some (.ref A.f_l_behind)
  k_l_behind : PySem.W.keepIn K (.ref A.f_l_behind) = true
  b_l_behind : Binds K A.d_l_behind ["_law_bench", "_law_at", "_law_loose", "_law_number_here"] []
  F_l_drawn : Fun K "_law_drawn" "_law_drawn" s_l_drawn A.f_l_drawn A.d_l_drawn
  g_l_drawn : mg "_law_drawn" = some (.ref A.f_l_drawn)
  k_l_drawn : PySem.W.keepIn K (.ref A.f_l_drawn) = true
  b_l_drawn : Binds K A.d_l_drawn ["_law_script", "_law_k"] []
  F_l_fits : Fun K "_law_fits" "_law_fits" s_l_fits A.f_l_fits A.d_l_fits
  g_l_fits : mg "_law_fits" = some (.ref A.f_l_fits)
  k_l_fits : PySem.W.keepIn K (.ref A.f_l_fits) = true
  b_l_fits : Binds K A.d_l_fits ["_law_at", "_law_stamp", "_law_gap"] []
  F_l_number : Fun K "_law_number" "_law_number" s_l_number A.f_l_number A.d_l_number
  g_l_number : mg "_law_number" = some (.ref A.f_l_number)
  k_l_number : PySem.W.keepIn K (.ref A.f_l_number) = true
  b_l_number : Binds K A.d_l_number ["_law_script", "_law_k"] []
  F_l_places : Fun K "_law_places" "_law_places" s_l_places A.f_l_places A.d_l_places
  g_l_places : mg "_law_places" = some (.ref A.f_l_places)
  k_l_places : PySem.W.keepIn K (.ref A.f_l_places) = true
  b_l_places : Binds K A.d_l_places ["_law_pile"] []
  F_l_good : Fun K "_law_good" "_law_good" s_l_good A.f_l_good A.d_l_good
  g_l_good : mg "_law_good" = some (.ref A.f_l_good)
  k_l_good : PySem.W.keepIn K (.ref A.f_l_good) = true
  b_l_good : Binds K A.d_l_good ["_law_script", "_law_start", "_law_size_here"] []
  F_Bench_loose : Fun K "loose" "Bench.loose" s_Bench_loose A.f_Bench_loose A.d_Bench_loose
  me_Bench_loose : Meth K c.be "loose" A.f_Bench_loose
  b_Bench_loose : Binds K A.d_Bench_loose ["self"] []
  F_Bench_parts : Fun K "parts" "Bench.parts" s_Bench_parts A.f_Bench_parts A.d_Bench_parts
  me_Bench_parts : Meth K c.be "parts" A.f_Bench_parts
  b_Bench_parts : Binds K A.d_Bench_parts ["self"] []
  F_l_counts : Fun K "_law_counts" "_law_counts" s_l_counts A.f_l_counts A.d_l_counts
  g_l_counts : mg "_law_counts" = some (.ref A.f_l_counts)
  k_l_counts : PySem.W.keepIn K (.ref A.f_l_counts) = true
  b_l_counts : Binds K A.d_l_counts ["_law_thing"] []
  F_l_found : Fun K "_law_row" "_law_row" s_l_found A.f_l_found A.d_l_found
  g_l_found : mg "_law_row" = some (.ref A.f_l_found)
  k_l_found : PySem.W.keepIn K (.ref A.f_l_found) = true
  b_l_found : Binds K A.d_l_found ["_law_found", "_law_due_here"] []
  F_l_parts : Fun K "_law_parts" "_law_parts" s_l_parts A.f_l_parts A.d_l_parts
  g_l_parts : mg "_law_parts" = some (.ref A.f_l_parts)
  k_l_parts : PySem.W.keepIn K (.ref A.f_l_parts) = true
  b_l_parts : Binds K A.d_l_parts ["_law_found", "_law_pile", "_law_loose"] []
  F_l_look : Fun K "_law_look" "_law_look" s_l_look A.f_l_look A.d_l_look
  g_l_look : mg "_law_look" = some (.ref A.f_l_look)
  k_l_look : PySem.W.keepIn K (.ref A.f_l_look) = true
  b_l_look : Binds K A.d_l_look ["_law_bench", "_law_pile", "_law_loose", "_law_number_here", "_law_told"] []
  F_l_size : Fun K "_law_size" "_law_size" s_l_size A.f_l_size A.d_l_size
  g_l_size : mg "_law_size" = some (.ref A.f_l_size)
  k_l_size : PySem.W.keepIn K (.ref A.f_l_size) = true
  b_l_size : Binds K A.d_l_size ["_law_cell"] []
  F_law : Fun K "law" "law" s_law A.f_law A.d_law
  bc : BenchC K c
  g_Bench : mg "Bench" = some (.ref c.be)
  m_ValueError : mg "ValueError" = none
  m_enumerate : mg "enumerate" = none
  m_int : mg "int" = none
  m_isinstance : mg "isinstance" = none
  m_len : mg "len" = none
  m_list : mg "list" = none
  m_max : mg "max" = none
  m_min : mg "min" = none
  m_range : mg "range" = none
  m_set : mg "set" = none
  m_sorted : mg "sorted" = none
  m_tuple : mg "tuple" = none
  x_NoCrease : PySem.W.excIn K c.nc [.type "ValueError", .type "Exception", .type "BaseException", .type "object"] "ValueError.__new__" = true
  g_NoCrease : mg "NoCrease" = some (.ref c.nc)
  k_NoCrease : PySem.W.keepIn K (.ref c.nc) = true
  bx_NoCrease : PySem.W.subIn K (.ref c.nc) (.type "BaseException") = some true
  ty_NoCrease : PySem.W.typeIn K (.ref c.nc) = some (.type "type")
  x_NoPile : PySem.W.excIn K c.np [.type "ValueError", .type "Exception", .type "BaseException", .type "object"] "ValueError.__new__" = true
  g_NoPile : mg "NoPile" = some (.ref c.np)
  k_NoPile : PySem.W.keepIn K (.ref c.np) = true
  bx_NoPile : PySem.W.subIn K (.ref c.np) (.type "BaseException") = some true
  ty_NoPile : PySem.W.typeIn K (.ref c.np) = some (.type "type")
  x_Stuck : PySem.W.excIn K c.st [.type "ValueError", .type "Exception", .type "BaseException", .type "object"] "ValueError.__new__" = true
  g_Stuck : mg "Stuck" = some (.ref c.st)
  k_Stuck : PySem.W.keepIn K (.ref c.st) = true
  bx_Stuck : PySem.W.subIn K (.ref c.st) (.type "BaseException") = some true
  ty_Stuck : PySem.W.typeIn K (.ref c.st) = some (.type "type")
  g_Crossing : mg "Crossing" = some (.ref c.cr)
  g_NoCount : mg "NoCount" = some (.ref c.nn)
  g_NoLetters : mg "NoLetters" = some (.ref c.nl)
  g_StripError : mg "StripError" = some (.ref c.se)
  kn : Kinds K c
section
variable {P : Program} {w : World} {K : PySem.W.Frag} {mg : Str → Option Value} {base : Heap} {c : Cs} {A0 : Ad}
theorem ok_places (T : Txt K mg c A0) : FnOk P w K mg base (L2.CX P w) 1 A0.f_places A0.d_places ["pile"] (sp_places K c) := by
  refine T.F_places.okX sc_places (fun vs H Q E h => by first | (obtain ⟨_, rfl, _⟩ := h; rfl) | (obtain ⟨_, _, rfl, _⟩ := h; rfl) | (obtain ⟨_, _, _, rfl, _⟩ := h; rfl) | (obtain ⟨_, _, _, _, rfl, _⟩ := h; rfl) | (obtain ⟨_, _, _, _, _, rfl, _⟩ := h; rfl) | (obtain ⟨_, _, _, _, _, _, rfl, _⟩ := h; rfl) | (obtain ⟨_, _, _, _, _, _, _, rfl, _⟩ := h; rfl) | (obtain ⟨_, _, _, _, _, _, _, _, rfl, _⟩ := h; rfl) | (obtain ⟨_, _, _, _, _, _, _, _, _, rfl, _⟩ := h; rfl) | (obtain ⟨_, _, _, _, _, _, _, _, _, _, rfl, _⟩ := h; rfl) | (obtain ⟨_, _, _, _, _, _, _, _, _, _, _, rfl, _⟩ := h; rfl) | (obtain ⟨_, _, _, _, _, _, _, _, _, _, _, _, rfl, _⟩ := h; rfl) | (obtain ⟨_, _, _, _, _, _, _, _, _, _, _, _, _, rfl, _⟩ := h; rfl) | (obtain ⟨_, _, _, _, _, _, _, _, _, _, _, _, _, _, rfl, _⟩ := h; rfl) | (obtain ⟨_, _, _, _, _, _, _, _, _, _, _, _, _, _, _, rfl, _⟩ := h; rfl)) (fun cdv A outer s H vs Q E hr h => ⟨t_places K c E, ?_, read_places vs H Q E h⟩)
  exact (pss_cons (ps_set (i := 1) sc_places.nd rfl (.inl rfl) (pe_callB call_len_seq (by rfl) T.m_len (by decide +kernel) (pa_cons (pv 0) pa_nil)))
 (pss_cons (ps_if (pt_cmpR op_eq (pv 1) pe_int (nomark _)) (pss_cons (ps_raise rfl (takes_of rfl rfl rfl rfl) (pmk_own PySem.F.excBase_ValueError T.x_NoPile T.g_NoPile T.k_NoPile (raises_own T.bx_NoPile T.ty_NoPile) (by rfl)))
 pss_nil) pss_nil)
 (pss_cons (ps_set (i := 2) sc_places.nd rfl (.inl rfl) (pe_op op_rep (pe_lst (pa_cons (pe_un un_neg pe_int) pa_nil)) (pv 1)))
 (pss_cons (ps_for (passes_of rfl) rfl (pi_enum (by rfl) T.m_enumerate (pa_cons (pv 0) pa_nil)) (pg_tup rfl (pgs_cons (pg_name (i := 3) sc_places.nd rfl (.inl rfl)) (pgs_cons (pg_name (i := 4) sc_places.nd rfl (.inl rfl)) pgs_nil))) (pss_cons (ps_if (PW.pt (pw_or (pt_cmpR op_lt (pv 4) pe_int (nomark _)) (pw_or (pt_cmpR op_ge (pv 4) (pv 1) (nomark _)) (pw_or1 (pt_cmpR op_ge (pe_ix ix_list (pv 2) (pv 4) (fun _ _ => rfl)) pe_int (nomark _)))))) (pss_cons (ps_raise rfl (takes_of rfl rfl rfl rfl) (pmk_own PySem.F.excBase_ValueError T.x_NoPile T.g_NoPile T.k_NoPile (raises_own T.bx_NoPile T.ty_NoPile) (by rfl)))
 pss_nil) pss_nil)
 (pss_cons (ps_asg (pv 3) (pg_sub (pv 2) (pv 4) set_list))
 pss_nil)))
 (pss_cons (ps_ret (pv 2))
 pss_nil)))))
theorem ok_wraps (T : Txt K mg c A0) : FnOk P w K mg base (L2.CX P w) 1 A0.f_wraps A0.d_wraps ["at", "crease", "stamp"] (sp_wraps K c) := by
  refine T.F_wraps.okX sc_wraps (fun vs H Q E h => by first | (obtain ⟨_, rfl, _⟩ := h; rfl) | (obtain ⟨_, _, rfl, _⟩ := h; rfl) | (obtain ⟨_, _, _, rfl, _⟩ := h; rfl) | (obtain ⟨_, _, _, _, rfl, _⟩ := h; rfl) | (obtain ⟨_, _, _, _, _, rfl, _⟩ := h; rfl) | (obtain ⟨_, _, _, _, _, _, rfl, _⟩ := h; rfl) | (obtain ⟨_, _, _, _, _, _, _, rfl, _⟩ := h; rfl) | (obtain ⟨_, _, _, _, _, _, _, _, rfl, _⟩ := h; rfl) | (obtain ⟨_, _, _, _, _, _, _, _, _, rfl, _⟩ := h; rfl) | (obtain ⟨_, _, _, _, _, _, _, _, _, _, rfl, _⟩ := h; rfl) | (obtain ⟨_, _, _, _, _, _, _, _, _, _, _, rfl, _⟩ := h; rfl) | (obtain ⟨_, _, _, _, _, _, _, _, _, _, _, _, rfl, _⟩ := h; rfl) | (obtain ⟨_, _, _, _, _, _, _, _, _, _, _, _, _, rfl, _⟩ := h; rfl) | (obtain ⟨_, _, _, _, _, _, _, _, _, _, _, _, _, _, rfl, _⟩ := h; rfl) | (obtain ⟨_, _, _, _, _, _, _, _, _, _, _, _, _, _, _, rfl, _⟩ := h; rfl)) (fun cdv A outer s H vs Q E hr h => ⟨t_wraps K c E, ?_, read_wraps vs H Q E h⟩)
  exact (pss_cons (ps_set (i := 3) sc_wraps.nd rfl (.inl rfl) (pe_callB cr_sortedI (by rfl) T.m_sorted (by decide +kernel) (pa_cons (pe_lst (pa_cons (pe_ix ix_list (pv 0) (pv 1) (fun _ _ => rfl)) (pa_cons (pe_ix ix_list (pv 0) (pe_op op_add (pv 1) pe_int) (fun _ _ => rfl)) pa_nil))) pa_nil)))
 (pss_cons (ps_ret (pe_and (pe_cmpR op_lt (pe_ix ix_list (pv 3) pe_int (fun _ _ => rfl)) (pe_ix ix_list (pv 0) (pv 2) (fun _ _ => rfl)) (nomark _)) (pe_one (pe_cmpR op_lt (pe_ix ix_list (pv 0) (pv 2) (fun _ _ => rfl)) (pe_ix ix_list (pv 3) pe_int (fun _ _ => rfl)) (nomark _)))))
 pss_nil))
theorem ok_crossing (T : Txt K mg c A0) : FnOk P w K mg base (L2.CX P w) 2 A0.f_crossing A0.d_crossing ["pile"] (sp_crossing K c) := by
  have G_places := ok_places (P := P) (w := w) (base := base) T
  have G_wraps := ok_wraps (P := P) (w := w) (base := base) T
  refine T.F_crossing.okX sc_crossing (fun vs H Q E h => by first | (obtain ⟨_, rfl, _⟩ := h; rfl) | (obtain ⟨_, _, rfl, _⟩ := h; rfl) | (obtain ⟨_, _, _, rfl, _⟩ := h; rfl) | (obtain ⟨_, _, _, _, rfl, _⟩ := h; rfl) | (obtain ⟨_, _, _, _, _, rfl, _⟩ := h; rfl) | (obtain ⟨_, _, _, _, _, _, rfl, _⟩ := h; rfl) | (obtain ⟨_, _, _, _, _, _, _, rfl, _⟩ := h; rfl) | (obtain ⟨_, _, _, _, _, _, _, _, rfl, _⟩ := h; rfl) | (obtain ⟨_, _, _, _, _, _, _, _, _, rfl, _⟩ := h; rfl) | (obtain ⟨_, _, _, _, _, _, _, _, _, _, rfl, _⟩ := h; rfl) | (obtain ⟨_, _, _, _, _, _, _, _, _, _, _, rfl, _⟩ := h; rfl) | (obtain ⟨_, _, _, _, _, _, _, _, _, _, _, _, rfl, _⟩ := h; rfl) | (obtain ⟨_, _, _, _, _, _, _, _, _, _, _, _, _, rfl, _⟩ := h; rfl) | (obtain ⟨_, _, _, _, _, _, _, _, _, _, _, _, _, _, rfl, _⟩ := h; rfl) | (obtain ⟨_, _, _, _, _, _, _, _, _, _, _, _, _, _, _, rfl, _⟩ := h; rfl)) (fun cdv A outer s H vs Q E hr h => ⟨t_crossing K c E, ?_, read_crossing vs H Q E h⟩)
  exact (pss_cons (ps_set (i := 1) sc_crossing.nd rfl (.inl rfl) (pe_call G_places (hr.mono (by decide)) (by rfl) T.g_places T.k_places T.b_places .nil passE (pa_cons (pv 0) pa_nil)))
 (pss_cons (ps_for (passes_of rfl) rfl (pi_range1 (by rfl) T.m_range (pa_cons (pe_op op_sub (pe_callB call_len_seq (by rfl) T.m_len (by decide +kernel) (pa_cons (pv 1) pa_nil)) pe_int) pa_nil)) (pg_name (i := 2) sc_crossing.nd rfl (.inl rfl)) (pss_cons (ps_for (passes_of rfl) rfl (pi_range3 (by rfl) T.m_range (pa_cons (pe_op op_add (pv 2) pe_int) (pa_cons (pe_op op_sub (pe_callB call_len_seq (by rfl) T.m_len (by decide +kernel) (pa_cons (pv 1) pa_nil)) pe_int) (pa_cons pe_int pa_nil)))) (pg_name (i := 3) sc_crossing.nd rfl (.inl rfl)) (pss_cons (ps_if (pt_cmpR op_ne (pe_call G_wraps (hr.mono (by decide)) (by rfl) T.g_wraps T.k_wraps T.b_wraps .nil passE (pa_cons (pv 1) (pa_cons (pv 2) (pa_cons (pv 3) pa_nil)))) (pe_call G_wraps (hr.mono (by decide)) (by rfl) T.g_wraps T.k_wraps T.b_wraps .nil passE (pa_cons (pv 1) (pa_cons (pv 2) (pa_cons (pe_op op_add (pv 3) pe_int) pa_nil)))) (nomark _)) (pss_cons (ps_ret (pe_tup (pa_cons (pv 2) (pa_cons (pv 3) pa_nil))))
 pss_nil) pss_nil)
 pss_nil))
 pss_nil))
 (pss_cons (ps_ret pe_non)
 pss_nil)))
theorem ok_judged (T : Txt K mg c A0) : FnOk P w K mg base (L2.CX P w) 3 A0.f_judged A0.d_judged ["pile"] (sp_judged K c) := by
  have G_crossing := ok_crossing (P := P) (w := w) (base := base) T
  have G_places := ok_places (P := P) (w := w) (base := base) T
  refine T.F_judged.okX sc_judged (fun vs H Q E h => by first | (obtain ⟨_, rfl, _⟩ := h; rfl) | (obtain ⟨_, _, rfl, _⟩ := h; rfl) | (obtain ⟨_, _, _, rfl, _⟩ := h; rfl) | (obtain ⟨_, _, _, _, rfl, _⟩ := h; rfl) | (obtain ⟨_, _, _, _, _, rfl, _⟩ := h; rfl) | (obtain ⟨_, _, _, _, _, _, rfl, _⟩ := h; rfl) | (obtain ⟨_, _, _, _, _, _, _, rfl, _⟩ := h; rfl) | (obtain ⟨_, _, _, _, _, _, _, _, rfl, _⟩ := h; rfl) | (obtain ⟨_, _, _, _, _, _, _, _, _, rfl, _⟩ := h; rfl) | (obtain ⟨_, _, _, _, _, _, _, _, _, _, rfl, _⟩ := h; rfl) | (obtain ⟨_, _, _, _, _, _, _, _, _, _, _, rfl, _⟩ := h; rfl) | (obtain ⟨_, _, _, _, _, _, _, _, _, _, _, _, rfl, _⟩ := h; rfl) | (obtain ⟨_, _, _, _, _, _, _, _, _, _, _, _, _, rfl, _⟩ := h; rfl) | (obtain ⟨_, _, _, _, _, _, _, _, _, _, _, _, _, _, rfl, _⟩ := h; rfl) | (obtain ⟨_, _, _, _, _, _, _, _, _, _, _, _, _, _, _, rfl, _⟩ := h; rfl)) (fun cdv A outer s H vs Q E hr h => ⟨t_judged K c E, ?_, read_judged vs H Q E h⟩)
  exact (pss_cons (ps_set (i := 1) sc_judged.nd rfl (.inl rfl) (pe_call G_crossing (hr.mono (by decide)) (by rfl) T.g_crossing T.k_crossing T.b_crossing .nil passE (pa_cons (pv 0) pa_nil)))
 (pss_cons (ps_if (pt_cmpR op_notN1 (pv 1) pe_non (nomark _)) (pss_cons ps_never
 pss_nil) pss_nil)
 (pss_cons (ps_ret (pe_call G_places (hr.mono (by decide)) (by rfl) T.g_places T.k_places T.b_places .nil passE (pa_cons (pv 0) pa_nil)))
 pss_nil)))
theorem ok_Bench_init (T : Txt K mg c A0) : FnOk P w K mg base (L2.CX P w) 4 A0.f_Bench_init A0.d_Bench_init ["self", "pile"] (sp_Bench_init K c) := by
  have G_judged := ok_judged (P := P) (w := w) (base := base) T
  refine T.F_Bench_init.okX sc_Bench_init (fun vs H Q E h => by first | (obtain ⟨_, rfl, _⟩ := h; rfl) | (obtain ⟨_, _, rfl, _⟩ := h; rfl) | (obtain ⟨_, _, _, rfl, _⟩ := h; rfl) | (obtain ⟨_, _, _, _, rfl, _⟩ := h; rfl) | (obtain ⟨_, _, _, _, _, rfl, _⟩ := h; rfl) | (obtain ⟨_, _, _, _, _, _, rfl, _⟩ := h; rfl) | (obtain ⟨_, _, _, _, _, _, _, rfl, _⟩ := h; rfl) | (obtain ⟨_, _, _, _, _, _, _, _, rfl, _⟩ := h; rfl) | (obtain ⟨_, _, _, _, _, _, _, _, _, rfl, _⟩ := h; rfl) | (obtain ⟨_, _, _, _, _, _, _, _, _, _, rfl, _⟩ := h; rfl) | (obtain ⟨_, _, _, _, _, _, _, _, _, _, _, rfl, _⟩ := h; rfl) | (obtain ⟨_, _, _, _, _, _, _, _, _, _, _, _, rfl, _⟩ := h; rfl) | (obtain ⟨_, _, _, _, _, _, _, _, _, _, _, _, _, rfl, _⟩ := h; rfl) | (obtain ⟨_, _, _, _, _, _, _, _, _, _, _, _, _, _, rfl, _⟩ := h; rfl) | (obtain ⟨_, _, _, _, _, _, _, _, _, _, _, _, _, _, _, rfl, _⟩ := h; rfl)) (fun cdv A outer s H vs Q E hr h => ⟨t_Bench_init K c E, ?_, read_Bench_init vs H Q E h⟩)
  exact (pss_cons (ps_fld (pv 0) (pe_call G_judged (hr.mono (by decide)) (by rfl) T.g_judged T.k_judged T.b_judged .nil passE (pa_cons (pv 1) pa_nil)) rfl)
 (pss_cons (ps_fld (pv 0) (pe_callTy call_list_of (by rfl) T.m_list (by decide +kernel) (pa_cons (pv 1) pa_nil)) rfl)
 (pss_cons (ps_fld (pv 0) (pe_lst pa_nil) rfl)
 pss_nil)))
theorem ok_l_creases (T : Txt K mg c A0) : FnOk P w K mg base (L2.CX P w) 1 A0.f_l_creases A0.d_l_creases ["_law_size_here", "_law_loose", "_law_number_here"] (sp_l_creases K c) := by
  refine T.F_l_creases.okX sc_l_creases (fun vs H Q E h => by first | (obtain ⟨_, rfl, _⟩ := h; rfl) | (obtain ⟨_, _, rfl, _⟩ := h; rfl) | (obtain ⟨_, _, _, rfl, _⟩ := h; rfl) | (obtain ⟨_, _, _, _, rfl, _⟩ := h; rfl) | (obtain ⟨_, _, _, _, _, rfl, _⟩ := h; rfl) | (obtain ⟨_, _, _, _, _, _, rfl, _⟩ := h; rfl) | (obtain ⟨_, _, _, _, _, _, _, rfl, _⟩ := h; rfl) | (obtain ⟨_, _, _, _, _, _, _, _, rfl, _⟩ := h; rfl) | (obtain ⟨_, _, _, _, _, _, _, _, _, rfl, _⟩ := h; rfl) | (obtain ⟨_, _, _, _, _, _, _, _, _, _, rfl, _⟩ := h; rfl) | (obtain ⟨_, _, _, _, _, _, _, _, _, _, _, rfl, _⟩ := h; rfl) | (obtain ⟨_, _, _, _, _, _, _, _, _, _, _, _, rfl, _⟩ := h; rfl) | (obtain ⟨_, _, _, _, _, _, _, _, _, _, _, _, _, rfl, _⟩ := h; rfl) | (obtain ⟨_, _, _, _, _, _, _, _, _, _, _, _, _, _, rfl, _⟩ := h; rfl) | (obtain ⟨_, _, _, _, _, _, _, _, _, _, _, _, _, _, _, rfl, _⟩ := h; rfl)) (fun cdv A outer s H vs Q E hr h => ⟨t_l_creases K c E, ?_, read_l_creases vs H Q E h⟩)
  exact (pss_cons (ps_set (i := 3) sc_l_creases.nd rfl (.inl rfl) (pe_callB (call_max2 rfl) (by rfl) T.m_max (by decide +kernel) (pa_cons pe_int (pa_cons (pe_op op_sub (pv 0) pe_int) pa_nil))))
 (pss_cons (ps_set (i := 4) sc_l_creases.nd rfl (.inl rfl) (pe_op op_mod (pe_op op_fdiv (pv 2) pe_int) (pv 3)))
 (pss_cons (ps_set (i := 5) sc_l_creases.nd rfl (.inl rfl) (pe_op op_mod (pe_op op_fdiv (pe_op op_mod (pe_op op_mul (pv 2) pe_int) pe_int) pe_int) (pv 3)))
 (pss_cons (ps_set (i := 6) sc_l_creases.nd rfl (.inl rfl) (pe_op op_mod (pv 2) pe_int))
 (pss_cons (ps_if (pt_cmpR op_eq (pv 6) pe_int (nomark _)) (pss_cons (ps_ret (pe_lst (pa_cons (pv 4) (pa_cons (pe_op op_add (pv 4) pe_int) pa_nil))))
 pss_nil) pss_nil)
 (pss_cons (ps_if (pt_cmpR op_eq (pv 6) pe_int (nomark _)) (pss_cons (ps_ret (pe_lst (pa_cons (pv 5) (pa_cons (pv 4) pa_nil))))
 pss_nil) pss_nil)
 (pss_cons (ps_if (pt_cmpR op_eq (pv 6) pe_int (nomark _)) (pss_cons (ps_ret (pe_lc (own := [("_law_crease", 8)]) (g := (gName 8)) (tt := (tTest (tOp (rIn K true) (tVar 8) (tVar 1)))) rfl sc_l_creases.nd (pi_range1 (by rfl) T.m_range (pa_cons (pe_op op_sub (pv 0) pe_int) pa_nil)) (blkOk_by (N := ["_law_size_here", "_law_loose", "_law_number_here", "_law_many", "_law_one", "_law_other", "_law_way", "_law_far", "_law_crease"]) (sc := defScope s_l_creases) (by decide +kernel)) (fun _ _ _ _ _ => (pg_name (i := 8) sc_l_creases.nd rfl (.inl rfl))) (fun _ _ _ _ _ => (pts_one (pt_cmpR op_notIn_seq (pv 8) (pv 1) (by rfl)))) (fun _ _ _ _ _ => (pv 8))))
 pss_nil) pss_nil)
 (pss_cons (ps_if (pt_cmpR op_eq (pv 6) pe_int (nomark _)) (pss_cons (ps_ret (pe_callTy call_list_of (by rfl) T.m_list (by decide +kernel) (pa_cons (pv 1) pa_nil)))
 pss_nil) pss_nil)
 (pss_cons (ps_if (pt_cmpR op_eq (pv 6) pe_int (nomark _)) (pss_cons (ps_ret (pe_lst (pa_cons (pv 4) (pa_cons (pv 5) (pa_cons (pe_op op_mod (pe_op op_add (pv 4) (pv 5)) (pv 3)) pa_nil)))))
 pss_nil) pss_nil)
 (pss_cons (ps_if (pt_cmpR op_eq (pv 6) pe_int (nomark _)) (pss_cons (ps_set (i := 7) sc_l_creases.nd rfl (.inl rfl) (pe_op op_mod (pe_op op_mul (pe_op op_mul (pv 2) pe_int) pe_int) (pe_op op_pow pe_int pe_int)))
 (pss_cons (ps_ret (pe_lst (pa_cons (pv 4) (pa_cons (pe_ix ix_list (pe_lst (pa_cons (pe_un un_neg pe_int) (pa_cons (pe_op op_sub (pv 0) pe_int) (pa_cons (pe_op op_add (pv 0) (pv 7)) (pa_cons (pe_op op_sub (pe_un un_neg pe_int) (pv 7)) pa_nil))))) (pe_op op_mod (pe_op op_fdiv (pv 2) pe_int) pe_int) (fun _ _ => rfl)) pa_nil))))
 pss_nil)) pss_nil)
 (pss_cons (ps_ret (pe_lst (pa_cons (pv 4) pa_nil)))
 pss_nil)))))))))))
theorem ok_held (T : Txt K mg c A0) : FnOk P w K mg base (L2.CX P w) 2 A0.f_held A0.d_held ["at", "part", "crease", "stamp"] (sp_held K c) := by
  have G_wraps := ok_wraps (P := P) (w := w) (base := base) T
  refine T.F_held.okX sc_held (fun vs H Q E h => by first | (obtain ⟨_, rfl, _⟩ := h; rfl) | (obtain ⟨_, _, rfl, _⟩ := h; rfl) | (obtain ⟨_, _, _, rfl, _⟩ := h; rfl) | (obtain ⟨_, _, _, _, rfl, _⟩ := h; rfl) | (obtain ⟨_, _, _, _, _, rfl, _⟩ := h; rfl) | (obtain ⟨_, _, _, _, _, _, rfl, _⟩ := h; rfl) | (obtain ⟨_, _, _, _, _, _, _, rfl, _⟩ := h; rfl) | (obtain ⟨_, _, _, _, _, _, _, _, rfl, _⟩ := h; rfl) | (obtain ⟨_, _, _, _, _, _, _, _, _, rfl, _⟩ := h; rfl) | (obtain ⟨_, _, _, _, _, _, _, _, _, _, rfl, _⟩ := h; rfl) | (obtain ⟨_, _, _, _, _, _, _, _, _, _, _, rfl, _⟩ := h; rfl) | (obtain ⟨_, _, _, _, _, _, _, _, _, _, _, _, rfl, _⟩ := h; rfl) | (obtain ⟨_, _, _, _, _, _, _, _, _, _, _, _, _, rfl, _⟩ := h; rfl) | (obtain ⟨_, _, _, _, _, _, _, _, _, _, _, _, _, _, rfl, _⟩ := h; rfl) | (obtain ⟨_, _, _, _, _, _, _, _, _, _, _, _, _, _, _, rfl, _⟩ := h; rfl)) (fun cdv A outer s H vs Q E hr h => ⟨t_held K c E, ?_, read_held vs H Q E h⟩)
  exact (pss_cons (ps_for (passes_of rfl) rfl (pi_range2 (by rfl) T.m_range (pa_cons (pe_ix ix_tup (pv 1) pe_int (fun _ _ => rfl)) (pa_cons (pe_ix ix_tup (pv 1) pe_int (fun _ _ => rfl)) pa_nil))) (pg_name (i := 4) sc_held.nd rfl (.inl rfl)) (pss_cons (ps_if (PW.pt (pw_and (pt_cmpR op_eq (pe_op op_mod (pe_op op_sub (pv 4) (pv 2)) pe_int) pe_int (nomark _)) (pw_and1 (pt_val (pe_call G_wraps (hr.mono (by decide)) (by rfl) T.g_wraps T.k_wraps T.b_wraps .nil passE (pa_cons (pv 0) (pa_cons (pv 4) (pa_cons (pv 3) pa_nil)))))))) (pss_cons (ps_ret pe_bl)
 pss_nil) pss_nil)
 pss_nil))
 (pss_cons (ps_ret pe_bl)
 pss_nil))
theorem ok_lies_free (T : Txt K mg c A0) : FnOk P w K mg base (L2.CX P w) 3 A0.f_lies_free A0.d_lies_free ["at", "part"] (sp_lies_free K c) := by
  have G_held := ok_held (P := P) (w := w) (base := base) T
  refine T.F_lies_free.okX sc_lies_free (fun vs H Q E h => by first | (obtain ⟨_, rfl, _⟩ := h; rfl) | (obtain ⟨_, _, rfl, _⟩ := h; rfl) | (obtain ⟨_, _, _, rfl, _⟩ := h; rfl) | (obtain ⟨_, _, _, _, rfl, _⟩ := h; rfl) | (obtain ⟨_, _, _, _, _, rfl, _⟩ := h; rfl) | (obtain ⟨_, _, _, _, _, _, rfl, _⟩ := h; rfl) | (obtain ⟨_, _, _, _, _, _, _, rfl, _⟩ := h; rfl) | (obtain ⟨_, _, _, _, _, _, _, _, rfl, _⟩ := h; rfl) | (obtain ⟨_, _, _, _, _, _, _, _, _, rfl, _⟩ := h; rfl) | (obtain ⟨_, _, _, _, _, _, _, _, _, _, rfl, _⟩ := h; rfl) | (obtain ⟨_, _, _, _, _, _, _, _, _, _, _, rfl, _⟩ := h; rfl) | (obtain ⟨_, _, _, _, _, _, _, _, _, _, _, _, rfl, _⟩ := h; rfl) | (obtain ⟨_, _, _, _, _, _, _, _, _, _, _, _, _, rfl, _⟩ := h; rfl) | (obtain ⟨_, _, _, _, _, _, _, _, _, _, _, _, _, _, rfl, _⟩ := h; rfl) | (obtain ⟨_, _, _, _, _, _, _, _, _, _, _, _, _, _, _, rfl, _⟩ := h; rfl)) (fun cdv A outer s H vs Q E hr h => ⟨t_lies_free K c E, ?_, read_lies_free vs H Q E h⟩)
  exact (pss_cons (ps_asg (pv 1) (pg_tup rfl (pgs_cons (pg_name (i := 2) sc_lies_free.nd rfl (.inl rfl)) (pgs_cons (pg_name (i := 3) sc_lies_free.nd rfl (.inl rfl)) pgs_nil))))
 (pss_cons (ps_set (i := 4) sc_lies_free.nd rfl (.inl rfl) (pe_cmpR op_gt (pv 2) pe_int (nomark _)))
 (pss_cons (ps_set (i := 5) sc_lies_free.nd rfl (.inl rfl) (pe_cmpR op_lt (pv 3) (pe_op op_sub (pe_callB call_len_seq (by rfl) T.m_len (by decide +kernel) (pa_cons (pv 0) pa_nil)) pe_int) (nomark _)))
 (pss_cons (ps_if (PW.pt (pw_and (pt_val (pv 4)) (pw_and (pt_val (pv 5)) (pw_and1 (pt_cmpR op_eq (pe_op op_mod (pe_op op_sub (pv 3) (pv 2)) pe_int) pe_int (nomark _)))))) (pss_cons (ps_ret pe_bl)
 pss_nil) pss_nil)
 (pss_cons (ps_if (PW.pt (pw_and (pt_val (pv 4)) (pw_and1 (pt_val (pe_call G_held (hr.mono (by decide)) (by rfl) T.g_held T.k_held T.b_held .nil passE (pa_cons (pv 0) (pa_cons (pv 1) (pa_cons (pe_op op_sub (pv 2) pe_int) (pa_cons (pv 2) pa_nil))))))))) (pss_cons (ps_ret pe_bl)
 pss_nil) pss_nil)
 (pss_cons (ps_ret (pe_not (pe_and (pv 5) (pe_one (pe_call G_held (hr.mono (by decide)) (by rfl) T.g_held T.k_held T.b_held .nil passE (pa_cons (pv 0) (pa_cons (pv 1) (pa_cons (pv 3) (pa_cons (pv 3) pa_nil)))))))))
 pss_nil))))))
theorem ok_parts_of (T : Txt K mg c A0) : FnOk P w K mg base (L2.CX P w) 1 A0.f_parts_of A0.d_parts_of ["size", "creases"] (sp_parts_of K c) := by
  refine T.F_parts_of.okX sc_parts_of (fun vs H Q E h => by first | (obtain ⟨_, rfl, _⟩ := h; rfl) | (obtain ⟨_, _, rfl, _⟩ := h; rfl) | (obtain ⟨_, _, _, rfl, _⟩ := h; rfl) | (obtain ⟨_, _, _, _, rfl, _⟩ := h; rfl) | (obtain ⟨_, _, _, _, _, rfl, _⟩ := h; rfl) | (obtain ⟨_, _, _, _, _, _, rfl, _⟩ := h; rfl) | (obtain ⟨_, _, _, _, _, _, _, rfl, _⟩ := h; rfl) | (obtain ⟨_, _, _, _, _, _, _, _, rfl, _⟩ := h; rfl) | (obtain ⟨_, _, _, _, _, _, _, _, _, rfl, _⟩ := h; rfl) | (obtain ⟨_, _, _, _, _, _, _, _, _, _, rfl, _⟩ := h; rfl) | (obtain ⟨_, _, _, _, _, _, _, _, _, _, _, rfl, _⟩ := h; rfl) | (obtain ⟨_, _, _, _, _, _, _, _, _, _, _, _, rfl, _⟩ := h; rfl) | (obtain ⟨_, _, _, _, _, _, _, _, _, _, _, _, _, rfl, _⟩ := h; rfl) | (obtain ⟨_, _, _, _, _, _, _, _, _, _, _, _, _, _, rfl, _⟩ := h; rfl) | (obtain ⟨_, _, _, _, _, _, _, _, _, _, _, _, _, _, _, rfl, _⟩ := h; rfl)) (fun cdv A outer s H vs Q E hr h => ⟨t_parts_of K c E, ?_, read_parts_of vs H Q E h⟩)
  exact (pss_cons (ps_set (i := 2) sc_parts_of.nd rfl (.inl rfl) (pe_lst pa_nil))
 (pss_cons (ps_set (i := 3) sc_parts_of.nd rfl (.inl rfl) pe_int)
 (pss_cons (ps_for (passes_of rfl) rfl (pi_list (pe_op op_cat (pe_callB cr_sortedS2 (by rfl) T.m_sorted (by decide +kernel) (pa_cons (pv 1) pa_nil)) (pe_lst (pa_cons (pe_op op_sub (pv 0) pe_int) pa_nil)))) (pg_name (i := 4) sc_parts_of.nd rfl (.inl rfl)) (pss_cons (ps_expr (pe_bm PySem.F.plainAttrs_list PySem.F.slot_list_append PySem.F.type_list_append mt_append (pv 2) (pa_cons (pe_tup (pa_cons (pv 3) (pa_cons (pv 4) pa_nil))) pa_nil)))
 (pss_cons (ps_set (i := 3) sc_parts_of.nd rfl (.inl rfl) (pe_op op_add (pv 4) pe_int))
 pss_nil)))
 (pss_cons (ps_ret (pv 2))
 pss_nil))))
theorem ok_are_free (T : Txt K mg c A0) : FnOk P w K mg base (L2.CX P w) 4 A0.f_are_free A0.d_are_free ["at", "creases"] (sp_are_free K c) := by
  have G_lies_free := ok_lies_free (P := P) (w := w) (base := base) T
  have G_parts_of := ok_parts_of (P := P) (w := w) (base := base) T
  refine T.F_are_free.okX sc_are_free (fun vs H Q E h => by first | (obtain ⟨_, rfl, _⟩ := h; rfl) | (obtain ⟨_, _, rfl, _⟩ := h; rfl) | (obtain ⟨_, _, _, rfl, _⟩ := h; rfl) | (obtain ⟨_, _, _, _, rfl, _⟩ := h; rfl) | (obtain ⟨_, _, _, _, _, rfl, _⟩ := h; rfl) | (obtain ⟨_, _, _, _, _, _, rfl, _⟩ := h; rfl) | (obtain ⟨_, _, _, _, _, _, _, rfl, _⟩ := h; rfl) | (obtain ⟨_, _, _, _, _, _, _, _, rfl, _⟩ := h; rfl) | (obtain ⟨_, _, _, _, _, _, _, _, _, rfl, _⟩ := h; rfl) | (obtain ⟨_, _, _, _, _, _, _, _, _, _, rfl, _⟩ := h; rfl) | (obtain ⟨_, _, _, _, _, _, _, _, _, _, _, rfl, _⟩ := h; rfl) | (obtain ⟨_, _, _, _, _, _, _, _, _, _, _, _, rfl, _⟩ := h; rfl) | (obtain ⟨_, _, _, _, _, _, _, _, _, _, _, _, _, rfl, _⟩ := h; rfl) | (obtain ⟨_, _, _, _, _, _, _, _, _, _, _, _, _, _, rfl, _⟩ := h; rfl) | (obtain ⟨_, _, _, _, _, _, _, _, _, _, _, _, _, _, _, rfl, _⟩ := h; rfl)) (fun cdv A outer s H vs Q E hr h => ⟨t_are_free K c E, ?_, read_are_free vs H Q E h⟩)
  exact (pss_cons (ps_for (passes_of rfl) rfl (pi_list (pe_call G_parts_of (hr.mono (by decide)) (by rfl) T.g_parts_of T.k_parts_of T.b_parts_of .nil passE (pa_cons (pe_callB call_len_seq (by rfl) T.m_len (by decide +kernel) (pa_cons (pv 0) pa_nil)) (pa_cons (pv 1) pa_nil)))) (pg_name (i := 2) sc_are_free.nd rfl (.inl rfl)) (pss_cons (ps_if (pt_not (pt_val (pe_call G_lies_free (hr.mono (by decide)) (by rfl) T.g_lies_free T.k_lies_free T.b_lies_free .nil passE (pa_cons (pv 0) (pa_cons (pv 2) pa_nil))))) (pss_cons (ps_ret pe_bl)
 pss_nil) pss_nil)
 pss_nil))
 (pss_cons (ps_ret pe_bl)
 pss_nil))
theorem ok_Bench_settle (T : Txt K mg c A0) : FnOk P w K mg base (L2.CX P w) 5 A0.f_Bench_settle A0.d_Bench_settle ["self", "drawn"] (sp_Bench_settle K c) := by
  have G_are_free := ok_are_free (P := P) (w := w) (base := base) T
  refine T.F_Bench_settle.okX sc_Bench_settle (fun vs H Q E h => by first | (obtain ⟨_, rfl, _⟩ := h; rfl) | (obtain ⟨_, _, rfl, _⟩ := h; rfl) | (obtain ⟨_, _, _, rfl, _⟩ := h; rfl) | (obtain ⟨_, _, _, _, rfl, _⟩ := h; rfl) | (obtain ⟨_, _, _, _, _, rfl, _⟩ := h; rfl) | (obtain ⟨_, _, _, _, _, _, rfl, _⟩ := h; rfl) | (obtain ⟨_, _, _, _, _, _, _, rfl, _⟩ := h; rfl) | (obtain ⟨_, _, _, _, _, _, _, _, rfl, _⟩ := h; rfl) | (obtain ⟨_, _, _, _, _, _, _, _, _, rfl, _⟩ := h; rfl) | (obtain ⟨_, _, _, _, _, _, _, _, _, _, rfl, _⟩ := h; rfl) | (obtain ⟨_, _, _, _, _, _, _, _, _, _, _, rfl, _⟩ := h; rfl) | (obtain ⟨_, _, _, _, _, _, _, _, _, _, _, _, rfl, _⟩ := h; rfl) | (obtain ⟨_, _, _, _, _, _, _, _, _, _, _, _, _, rfl, _⟩ := h; rfl) | (obtain ⟨_, _, _, _, _, _, _, _, _, _, _, _, _, _, rfl, _⟩ := h; rfl) | (obtain ⟨_, _, _, _, _, _, _, _, _, _, _, _, _, _, _, rfl, _⟩ := h; rfl)) (fun cdv A outer s H vs Q E hr h => ⟨t_Bench_settle K c E, ?_, read_Bench_settle vs H Q E h⟩)
  exact (pss_cons (ps_if (pt_not (pt_val (pe_call G_are_free (hr.mono (by decide)) (by rfl) T.g_are_free T.k_are_free T.b_are_free .nil passE (pa_cons (pe_fld (pv 0) rfl) (pa_cons (pv 1) pa_nil))))) (pss_cons (ps_raise rfl (takes_of rfl rfl rfl rfl) (pmk_own PySem.F.excBase_ValueError T.x_Stuck T.g_Stuck T.k_Stuck (raises_own T.bx_Stuck T.ty_Stuck) (by rfl)))
 pss_nil) pss_nil)
 (pss_cons (ps_fld (pv 0) (pv 1) rfl)
 pss_nil))
theorem ok_look_at_creases (T : Txt K mg c A0) : FnOk P w K mg base (L2.CX P w) 1 A0.f_look_at_creases A0.d_look_at_creases ["size", "creases"] (sp_look_at_creases K c) := by
  refine T.F_look_at_creases.okX sc_look_at_creases (fun vs H Q E h => by first | (obtain ⟨_, rfl, _⟩ := h; rfl) | (obtain ⟨_, _, rfl, _⟩ := h; rfl) | (obtain ⟨_, _, _, rfl, _⟩ := h; rfl) | (obtain ⟨_, _, _, _, rfl, _⟩ := h; rfl) | (obtain ⟨_, _, _, _, _, rfl, _⟩ := h; rfl) | (obtain ⟨_, _, _, _, _, _, rfl, _⟩ := h; rfl) | (obtain ⟨_, _, _, _, _, _, _, rfl, _⟩ := h; rfl) | (obtain ⟨_, _, _, _, _, _, _, _, rfl, _⟩ := h; rfl) | (obtain ⟨_, _, _, _, _, _, _, _, _, rfl, _⟩ := h; rfl) | (obtain ⟨_, _, _, _, _, _, _, _, _, _, rfl, _⟩ := h; rfl) | (obtain ⟨_, _, _, _, _, _, _, _, _, _, _, rfl, _⟩ := h; rfl) | (obtain ⟨_, _, _, _, _, _, _, _, _, _, _, _, rfl, _⟩ := h; rfl) | (obtain ⟨_, _, _, _, _, _, _, _, _, _, _, _, _, rfl, _⟩ := h; rfl) | (obtain ⟨_, _, _, _, _, _, _, _, _, _, _, _, _, _, rfl, _⟩ := h; rfl) | (obtain ⟨_, _, _, _, _, _, _, _, _, _, _, _, _, _, _, rfl, _⟩ := h; rfl)) (fun cdv A outer s H vs Q E hr h => ⟨t_look_at_creases K c E, ?_, read_look_at_creases vs H Q E h⟩)
  exact (pss_cons (ps_for (passes_of rfl) rfl (pi_seq (pv 1)) (pg_name (i := 2) sc_look_at_creases.nd rfl (.inl rfl)) (pss_cons (ps_if (PW.pt (pw_or (pt_cmpR op_lt (pv 2) pe_int (nomark _)) (pw_or1 (pt_cmpR op_gt (pv 2) (pe_op op_sub (pv 0) pe_int) (nomark _))))) (pss_cons (ps_raise rfl (takes_of rfl rfl rfl rfl) (pmk_own PySem.F.excBase_ValueError T.x_NoCrease T.g_NoCrease T.k_NoCrease (raises_own T.bx_NoCrease T.ty_NoCrease) (by rfl)))
 pss_nil) pss_nil)
 pss_nil))
 (pss_cons (ps_if (pt_cmpR op_lt (pe_lenSet (by rfl) T.m_len (by rfl) T.m_set (pv 1)) (pe_callB call_len_seq (by rfl) T.m_len (by decide +kernel) (pa_cons (pv 1) pa_nil)) (nomark _)) (pss_cons (ps_raise rfl (takes_of rfl rfl rfl rfl) (pmk_own PySem.F.excBase_ValueError T.x_NoCrease T.g_NoCrease T.k_NoCrease (raises_own T.bx_NoCrease T.ty_NoCrease) (by rfl)))
 pss_nil) pss_nil)
 pss_nil))
theorem ok_Bench_draw (T : Txt K mg c A0) : FnOk P w K mg base (L2.CX P w) 6 A0.f_Bench_draw A0.d_Bench_draw ["self", "creases"] (sp_Bench_draw K c) := by
  have G_Bench_settle := ok_Bench_settle (P := P) (w := w) (base := base) T
  have G_look_at_creases := ok_look_at_creases (P := P) (w := w) (base := base) T
  refine T.F_Bench_draw.okX sc_Bench_draw (fun vs H Q E h => by first | (obtain ⟨_, rfl, _⟩ := h; rfl) | (obtain ⟨_, _, rfl, _⟩ := h; rfl) | (obtain ⟨_, _, _, rfl, _⟩ := h; rfl) | (obtain ⟨_, _, _, _, rfl, _⟩ := h; rfl) | (obtain ⟨_, _, _, _, _, rfl, _⟩ := h; rfl) | (obtain ⟨_, _, _, _, _, _, rfl, _⟩ := h; rfl) | (obtain ⟨_, _, _, _, _, _, _, rfl, _⟩ := h; rfl) | (obtain ⟨_, _, _, _, _, _, _, _, rfl, _⟩ := h; rfl) | (obtain ⟨_, _, _, _, _, _, _, _, _, rfl, _⟩ := h; rfl) | (obtain ⟨_, _, _, _, _, _, _, _, _, _, rfl, _⟩ := h; rfl) | (obtain ⟨_, _, _, _, _, _, _, _, _, _, _, rfl, _⟩ := h; rfl) | (obtain ⟨_, _, _, _, _, _, _, _, _, _, _, _, rfl, _⟩ := h; rfl) | (obtain ⟨_, _, _, _, _, _, _, _, _, _, _, _, _, rfl, _⟩ := h; rfl) | (obtain ⟨_, _, _, _, _, _, _, _, _, _, _, _, _, _, rfl, _⟩ := h; rfl) | (obtain ⟨_, _, _, _, _, _, _, _, _, _, _, _, _, _, _, rfl, _⟩ := h; rfl)) (fun cdv A outer s H vs Q E hr h => ⟨t_Bench_draw K c E, ?_, read_Bench_draw vs H Q E h⟩)
  exact (pss_cons (ps_expr (pe_call G_look_at_creases (hr.mono (by decide)) (by rfl) T.g_look_at_creases T.k_look_at_creases T.b_look_at_creases .nil passE (pa_cons (pe_callB call_len_seq (by rfl) T.m_len (by decide +kernel) (pa_cons (pe_fld (pv 0) rfl) pa_nil)) (pa_cons (pv 1) pa_nil))))
 (pss_cons (ps_for (passes_of rfl) rfl (pi_seq (pv 1)) (pg_name (i := 2) sc_Bench_draw.nd rfl (.inl rfl)) (pss_cons (ps_if (pt_cmpR op_in_seq (pv 2) (pe_fld (pv 0) rfl) (by rfl)) (pss_cons (ps_raise rfl (takes_of rfl rfl rfl rfl) (pmk_own PySem.F.excBase_ValueError T.x_Stuck T.g_Stuck T.k_Stuck (raises_own T.bx_Stuck T.ty_Stuck) (by rfl)))
 pss_nil) pss_nil)
 pss_nil))
 (pss_cons (ps_expr (pe_meth (pv 0) T.bc.cl T.me_Bench_settle G_Bench_settle (hr.mono (by decide)) T.b_Bench_settle .nil passE (pa_cons (pe_op op_cat (pe_fld (pv 0) rfl) (pe_callTy call_list_of (by rfl) T.m_list (by decide +kernel) (pa_cons (pv 1) pa_nil))) pa_nil)))
 pss_nil)))
theorem ok_Bench_press (T : Txt K mg c A0) : FnOk P w K mg base (L2.CX P w) 6 A0.f_Bench_press A0.d_Bench_press ["self", "creases"] (sp_Bench_press K c) := by
  have G_Bench_settle := ok_Bench_settle (P := P) (w := w) (base := base) T
  have G_look_at_creases := ok_look_at_creases (P := P) (w := w) (base := base) T
  refine T.F_Bench_press.okX sc_Bench_press (fun vs H Q E h => by first | (obtain ⟨_, rfl, _⟩ := h; rfl) | (obtain ⟨_, _, rfl, _⟩ := h; rfl) | (obtain ⟨_, _, _, rfl, _⟩ := h; rfl) | (obtain ⟨_, _, _, _, rfl, _⟩ := h; rfl) | (obtain ⟨_, _, _, _, _, rfl, _⟩ := h; rfl) | (obtain ⟨_, _, _, _, _, _, rfl, _⟩ := h; rfl) | (obtain ⟨_, _, _, _, _, _, _, rfl, _⟩ := h; rfl) | (obtain ⟨_, _, _, _, _, _, _, _, rfl, _⟩ := h; rfl) | (obtain ⟨_, _, _, _, _, _, _, _, _, rfl, _⟩ := h; rfl) | (obtain ⟨_, _, _, _, _, _, _, _, _, _, rfl, _⟩ := h; rfl) | (obtain ⟨_, _, _, _, _, _, _, _, _, _, _, rfl, _⟩ := h; rfl) | (obtain ⟨_, _, _, _, _, _, _, _, _, _, _, _, rfl, _⟩ := h; rfl) | (obtain ⟨_, _, _, _, _, _, _, _, _, _, _, _, _, rfl, _⟩ := h; rfl) | (obtain ⟨_, _, _, _, _, _, _, _, _, _, _, _, _, _, rfl, _⟩ := h; rfl) | (obtain ⟨_, _, _, _, _, _, _, _, _, _, _, _, _, _, _, rfl, _⟩ := h; rfl)) (fun cdv A outer s H vs Q E hr h => ⟨t_Bench_press K c E, ?_, read_Bench_press vs H Q E h⟩)
  exact (pss_cons (ps_expr (pe_call G_look_at_creases (hr.mono (by decide)) (by rfl) T.g_look_at_creases T.k_look_at_creases T.b_look_at_creases .nil passE (pa_cons (pe_callB call_len_seq (by rfl) T.m_len (by decide +kernel) (pa_cons (pe_fld (pv 0) rfl) pa_nil)) (pa_cons (pv 1) pa_nil))))
 (pss_cons (ps_for (passes_of rfl) rfl (pi_seq (pv 1)) (pg_name (i := 2) sc_Bench_press.nd rfl (.inl rfl)) (pss_cons (ps_if (pt_cmpR op_notIn_seq (pv 2) (pe_fld (pv 0) rfl) (by rfl)) (pss_cons (ps_raise rfl (takes_of rfl rfl rfl rfl) (pmk_own PySem.F.excBase_ValueError T.x_Stuck T.g_Stuck T.k_Stuck (raises_own T.bx_Stuck T.ty_Stuck) (by rfl)))
 pss_nil) pss_nil)
 pss_nil))
 (pss_cons (ps_expr (pe_meth (pv 0) T.bc.cl T.me_Bench_settle G_Bench_settle (hr.mono (by decide)) T.b_Bench_settle .nil passE (pa_cons (pe_lc (own := [("crease", 2)]) (g := (gName 2)) (tt := (tTest (tOp (rIn K true) (tVar 2) (tVar 1)))) rfl sc_Bench_press.nd (pi_list (pe_fld (pv 0) rfl)) (blkOk_by (N := ["self", "creases", "crease"]) (sc := defScope s_Bench_press) (by decide +kernel)) (fun _ _ _ _ _ => (pg_name (i := 2) sc_Bench_press.nd rfl (.inl rfl))) (fun _ _ _ _ _ => (pts_one (pt_cmpR op_notIn_seq (pv 2) (pv 1) (by rfl)))) (fun _ _ _ _ _ => (pv 2))) pa_nil)))
 pss_nil)))
theorem ok_l_word_of (T : Txt K mg c A0) : FnX P w K mg base 1 A0.f_l_word_of A0.d_l_word_of ["_law_e"] (sp_l_word_of K c) := by
  refine Fun.okZ T.F_l_word_of sc_l_word_of (fun a cls d vs H Q E h => by first | (obtain ⟨_, rfl, _⟩ := h; rfl) | (obtain ⟨_, _, rfl, _⟩ := h; rfl) | (obtain ⟨_, _, _, rfl, _⟩ := h; rfl) | (obtain ⟨_, _, _, _, rfl, _⟩ := h; rfl) | (obtain ⟨_, _, _, _, _, rfl, _⟩ := h; rfl) | (obtain ⟨_, _, _, _, _, _, rfl, _⟩ := h; rfl) | (obtain ⟨_, _, _, _, _, _, _, rfl, _⟩ := h; rfl) | (obtain ⟨_, _, _, _, _, _, _, _, rfl, _⟩ := h; rfl) | (obtain ⟨_, _, _, _, _, _, _, _, _, rfl, _⟩ := h; rfl) | (obtain ⟨_, _, _, _, _, _, _, _, _, _, rfl, _⟩ := h; rfl) | (obtain ⟨_, _, _, _, _, _, _, _, _, _, _, rfl, _⟩ := h; rfl) | (obtain ⟨_, _, _, _, _, _, _, _, _, _, _, _, rfl, _⟩ := h; rfl) | (obtain ⟨_, _, _, _, _, _, _, _, _, _, _, _, _, rfl, _⟩ := h; rfl) | (obtain ⟨_, _, _, _, _, _, _, _, _, _, _, _, _, _, rfl, _⟩ := h; rfl) | (obtain ⟨_, _, _, _, _, _, _, _, _, _, _, _, _, _, _, rfl, _⟩ := h; rfl)) (fun cdv A outer s H vs Q E p cls d hr got h => ⟨t_l_word_of K c E p.1 cls d, ?_, read_l_word_of p.1 cls d vs H Q E h⟩)
  exact (pss_cons (ps_set (i := 1) sc_l_word_of.nd rfl (.inl rfl) (pe_lst (pa_cons (pe_callB (call_isX (p := p) List.mem_cons_self got) (by rfl) T.m_isinstance (by decide +kernel) (pa_cons (pv 0) (pa_cons (pe_glob (by rfl) T.g_NoPile rfl) pa_nil))) (pa_cons (pe_callB (call_isX (p := p) List.mem_cons_self got) (by rfl) T.m_isinstance (by decide +kernel) (pa_cons (pv 0) (pa_cons (pe_glob (by rfl) T.g_NoLetters rfl) pa_nil))) (pa_cons (pe_callB (call_isX (p := p) List.mem_cons_self got) (by rfl) T.m_isinstance (by decide +kernel) (pa_cons (pv 0) (pa_cons (pe_glob (by rfl) T.g_NoCount rfl) pa_nil))) (pa_cons (pe_callB (call_isX (p := p) List.mem_cons_self got) (by rfl) T.m_isinstance (by decide +kernel) (pa_cons (pv 0) (pa_cons (pe_glob (by rfl) T.g_Crossing rfl) pa_nil))) pa_nil))))))
 (pss_cons (ps_if (PW.pt (pw_or (pt_cmpR op_in_seq pe_bl (pv 1) (by rfl)) (pw_or1 (pt_not (pt_val (pe_callB (call_isX (p := p) List.mem_cons_self got) (by rfl) T.m_isinstance (by decide +kernel) (pa_cons (pv 0) (pa_cons (pe_bltn (by rfl) T.m_ValueError (by decide +kernel) rfl) pa_nil)))))))) (pss_cons (ps_ret pe_int)
 pss_nil) pss_nil)
 (pss_cons (ps_ret (pe_op op_add (pe_callTy call_int1 (by rfl) T.m_int (by decide +kernel) (pa_cons (pe_callB (call_isX (p := p) List.mem_cons_self got) (by rfl) T.m_isinstance (by decide +kernel) (pa_cons (pv 0) (pa_cons (pe_glob (by rfl) T.g_NoCrease rfl) pa_nil))) pa_nil)) (pe_op op_mul pe_int (pe_callTy call_int1 (by rfl) T.m_int (by decide +kernel) (pa_cons (pe_callB (call_isX (p := p) List.mem_cons_self got) (by rfl) T.m_isinstance (by decide +kernel) (pa_cons (pv 0) (pa_cons (pe_glob (by rfl) T.g_Stuck rfl) pa_nil))) pa_nil)))))
 pss_nil)))
theorem ok_l_done (T : Txt K mg c A0) : FnOk P w K mg base (L2.CX P w) 7 A0.f_l_done A0.d_l_done ["_law_bench", "_law_creases_here", "_law_drawing"] (sp_l_done K c) := by
  have G_Bench_draw := ok_Bench_draw (P := P) (w := w) (base := base) T
  have G_Bench_press := ok_Bench_press (P := P) (w := w) (base := base) T
  have G_l_word_of := ok_l_word_of (P := P) (w := w) (base := base) T
  refine T.F_l_done.okX sc_l_done (fun vs H Q E h => by first | (obtain ⟨_, rfl, _⟩ := h; rfl) | (obtain ⟨_, _, rfl, _⟩ := h; rfl) | (obtain ⟨_, _, _, rfl, _⟩ := h; rfl) | (obtain ⟨_, _, _, _, rfl, _⟩ := h; rfl) | (obtain ⟨_, _, _, _, _, rfl, _⟩ := h; rfl) | (obtain ⟨_, _, _, _, _, _, rfl, _⟩ := h; rfl) | (obtain ⟨_, _, _, _, _, _, _, rfl, _⟩ := h; rfl) | (obtain ⟨_, _, _, _, _, _, _, _, rfl, _⟩ := h; rfl) | (obtain ⟨_, _, _, _, _, _, _, _, _, rfl, _⟩ := h; rfl) | (obtain ⟨_, _, _, _, _, _, _, _, _, _, rfl, _⟩ := h; rfl) | (obtain ⟨_, _, _, _, _, _, _, _, _, _, _, rfl, _⟩ := h; rfl) | (obtain ⟨_, _, _, _, _, _, _, _, _, _, _, _, rfl, _⟩ := h; rfl) | (obtain ⟨_, _, _, _, _, _, _, _, _, _, _, _, _, rfl, _⟩ := h; rfl) | (obtain ⟨_, _, _, _, _, _, _, _, _, _, _, _, _, _, rfl, _⟩ := h; rfl) | (obtain ⟨_, _, _, _, _, _, _, _, _, _, _, _, _, _, _, rfl, _⟩ := h; rfl)) (fun cdv A outer s H vs Q E hr h => ⟨t_l_done K c E, ?_, read_l_done vs H Q E h⟩)
  exact (pss_cons (ps_set (i := 3) sc_l_done.nd rfl (.inl rfl) pe_int)
 (pss_cons (ps_tryX rfl rfl sc_l_done.nd rfl rfl ⟨by rfl, by decide, .inl T.g_StripError⟩ (takes_of rfl rfl rfl rfl) (fun W pn xe tk => (pss_cons (ps_if (pt_val (pv 2)) (pss_cons (ps_expr (pe_methS (pv 0) T.bc.cl T.me_Bench_draw G_Bench_draw (hr.mono (by decide)) T.b_Bench_draw (fun σ => passAt tk σ) (pa_cons (pv 1) pa_nil)))
 pss_nil) (pss_cons (ps_expr (pe_methS (pv 0) T.bc.cl T.me_Bench_press G_Bench_press (hr.mono (by decide)) T.b_Bench_press (fun σ => passAt tk σ) (pa_cons (pv 1) pa_nil)))
 pss_nil))
 pss_nil)) (fun a oe cls d pn got => (pss_cons (ps_set (i := 3) sc_l_done.nd rfl (.inl rfl) pe_int)
 (pss_cons (ps_if (pt_cmpR op_gt (pe_callX (p := (a, oe)) G_l_word_of (roomX (hr.mono (by decide))) List.mem_cons_self got (by rfl) T.g_l_word_of T.k_l_word_of T.b_l_word_of (pa_cons (pv 4) pa_nil)) pe_int (nomark _)) (pss_cons (ps_set (i := 3) sc_l_done.nd rfl (.inl rfl) (pe_callX (p := (a, oe)) G_l_word_of (roomX (hr.mono (by decide))) List.mem_cons_self got (by rfl) T.g_l_word_of T.k_l_word_of T.b_l_word_of (pa_cons (pv 4) pa_nil)))
 pss_nil) pss_nil)
 pss_nil))))
 (pss_cons (ps_ret (pv 3))
 pss_nil)))
theorem ok_l_wraps (T : Txt K mg c A0) : FnOk P w K mg base (L2.CX P w) 1 A0.f_l_wraps A0.d_l_wraps ["_law_at", "_law_crease", "_law_stamp"] (sp_l_wraps K c) := by
  refine T.F_l_wraps.okX sc_l_wraps (fun vs H Q E h => by first | (obtain ⟨_, rfl, _⟩ := h; rfl) | (obtain ⟨_, _, rfl, _⟩ := h; rfl) | (obtain ⟨_, _, _, rfl, _⟩ := h; rfl) | (obtain ⟨_, _, _, _, rfl, _⟩ := h; rfl) | (obtain ⟨_, _, _, _, _, rfl, _⟩ := h; rfl) | (obtain ⟨_, _, _, _, _, _, rfl, _⟩ := h; rfl) | (obtain ⟨_, _, _, _, _, _, _, rfl, _⟩ := h; rfl) | (obtain ⟨_, _, _, _, _, _, _, _, rfl, _⟩ := h; rfl) | (obtain ⟨_, _, _, _, _, _, _, _, _, rfl, _⟩ := h; rfl) | (obtain ⟨_, _, _, _, _, _, _, _, _, _, rfl, _⟩ := h; rfl) | (obtain ⟨_, _, _, _, _, _, _, _, _, _, _, rfl, _⟩ := h; rfl) | (obtain ⟨_, _, _, _, _, _, _, _, _, _, _, _, rfl, _⟩ := h; rfl) | (obtain ⟨_, _, _, _, _, _, _, _, _, _, _, _, _, rfl, _⟩ := h; rfl) | (obtain ⟨_, _, _, _, _, _, _, _, _, _, _, _, _, _, rfl, _⟩ := h; rfl) | (obtain ⟨_, _, _, _, _, _, _, _, _, _, _, _, _, _, _, rfl, _⟩ := h; rfl)) (fun cdv A outer s H vs Q E hr h => ⟨t_l_wraps K c E, ?_, read_l_wraps vs H Q E h⟩)
  exact (pss_cons (ps_set (i := 3) sc_l_wraps.nd rfl (.inl rfl) (pe_callB (call_min2 rfl) (by rfl) T.m_min (by decide +kernel) (pa_cons (pe_ix ix_list (pv 0) (pv 1) (fun _ _ => rfl)) (pa_cons (pe_ix ix_list (pv 0) (pe_op op_add (pv 1) pe_int) (fun _ _ => rfl)) pa_nil))))
 (pss_cons (ps_set (i := 4) sc_l_wraps.nd rfl (.inl rfl) (pe_callB (call_max2 rfl) (by rfl) T.m_max (by decide +kernel) (pa_cons (pe_ix ix_list (pv 0) (pv 1) (fun _ _ => rfl)) (pa_cons (pe_ix ix_list (pv 0) (pe_op op_add (pv 1) pe_int) (fun _ _ => rfl)) pa_nil))))
 (pss_cons (ps_ret (pe_and (pe_cmpR op_lt (pv 3) (pe_ix ix_list (pv 0) (pv 2) (fun _ _ => rfl)) (nomark _)) (pe_one (pe_cmpR op_lt (pe_ix ix_list (pv 0) (pv 2) (fun _ _ => rfl)) (pv 4) (nomark _)))))
 pss_nil)))
theorem ok_l_held (T : Txt K mg c A0) : FnOk P w K mg base (L2.CX P w) 2 A0.f_l_held A0.d_l_held ["_law_at", "_law_first", "_law_last", "_law_crease", "_law_stamp"] (sp_l_held K c) := by
  have G_l_wraps := ok_l_wraps (P := P) (w := w) (base := base) T
  refine T.F_l_held.okX sc_l_held (fun vs H Q E h => by first | (obtain ⟨_, rfl, _⟩ := h; rfl) | (obtain ⟨_, _, rfl, _⟩ := h; rfl) | (obtain ⟨_, _, _, rfl, _⟩ := h; rfl) | (obtain ⟨_, _, _, _, rfl, _⟩ := h; rfl) | (obtain ⟨_, _, _, _, _, rfl, _⟩ := h; rfl) | (obtain ⟨_, _, _, _, _, _, rfl, _⟩ := h; rfl) | (obtain ⟨_, _, _, _, _, _, _, rfl, _⟩ := h; rfl) | (obtain ⟨_, _, _, _, _, _, _, _, rfl, _⟩ := h; rfl) | (obtain ⟨_, _, _, _, _, _, _, _, _, rfl, _⟩ := h; rfl) | (obtain ⟨_, _, _, _, _, _, _, _, _, _, rfl, _⟩ := h; rfl) | (obtain ⟨_, _, _, _, _, _, _, _, _, _, _, rfl, _⟩ := h; rfl) | (obtain ⟨_, _, _, _, _, _, _, _, _, _, _, _, rfl, _⟩ := h; rfl) | (obtain ⟨_, _, _, _, _, _, _, _, _, _, _, _, _, rfl, _⟩ := h; rfl) | (obtain ⟨_, _, _, _, _, _, _, _, _, _, _, _, _, _, rfl, _⟩ := h; rfl) | (obtain ⟨_, _, _, _, _, _, _, _, _, _, _, _, _, _, _, rfl, _⟩ := h; rfl)) (fun cdv A outer s H vs Q E hr h => ⟨t_l_held K c E, ?_, read_l_held vs H Q E h⟩)
  exact (pss_cons (ps_for (passes_of rfl) rfl (pi_range2 (by rfl) T.m_range (pa_cons (pv 1) (pa_cons (pv 2) pa_nil))) (pg_name (i := 5) sc_l_held.nd rfl (.inl rfl)) (pss_cons (ps_if (PW.pt (pw_and (pt_cmpR op_eq (pe_op op_mod (pe_op op_sub (pv 5) (pv 3)) pe_int) pe_int (nomark _)) (pw_and1 (pt_val (pe_call G_l_wraps (hr.mono (by decide)) (by rfl) T.g_l_wraps T.k_l_wraps T.b_l_wraps .nil passE (pa_cons (pv 0) (pa_cons (pv 5) (pa_cons (pv 4) pa_nil)))))))) (pss_cons (ps_ret pe_bl)
 pss_nil) pss_nil)
 pss_nil))
 (pss_cons (ps_ret pe_bl)
 pss_nil))
theorem ok_l_free (T : Txt K mg c A0) : FnOk P w K mg base (L2.CX P w) 3 A0.f_l_free A0.d_l_free ["_law_at", "_law_loose"] (sp_l_free K c) := by
  have G_l_held := ok_l_held (P := P) (w := w) (base := base) T
  refine T.F_l_free.okX sc_l_free (fun vs H Q E h => by first | (obtain ⟨_, rfl, _⟩ := h; rfl) | (obtain ⟨_, _, rfl, _⟩ := h; rfl) | (obtain ⟨_, _, _, rfl, _⟩ := h; rfl) | (obtain ⟨_, _, _, _, rfl, _⟩ := h; rfl) | (obtain ⟨_, _, _, _, _, rfl, _⟩ := h; rfl) | (obtain ⟨_, _, _, _, _, _, rfl, _⟩ := h; rfl) | (obtain ⟨_, _, _, _, _, _, _, rfl, _⟩ := h; rfl) | (obtain ⟨_, _, _, _, _, _, _, _, rfl, _⟩ := h; rfl) | (obtain ⟨_, _, _, _, _, _, _, _, _, rfl, _⟩ := h; rfl) | (obtain ⟨_, _, _, _, _, _, _, _, _, _, rfl, _⟩ := h; rfl) | (obtain ⟨_, _, _, _, _, _, _, _, _, _, _, rfl, _⟩ := h; rfl) | (obtain ⟨_, _, _, _, _, _, _, _, _, _, _, _, rfl, _⟩ := h; rfl) | (obtain ⟨_, _, _, _, _, _, _, _, _, _, _, _, _, rfl, _⟩ := h; rfl) | (obtain ⟨_, _, _, _, _, _, _, _, _, _, _, _, _, _, rfl, _⟩ := h; rfl) | (obtain ⟨_, _, _, _, _, _, _, _, _, _, _, _, _, _, _, rfl, _⟩ := h; rfl)) (fun cdv A outer s H vs Q E hr h => ⟨t_l_free K c E, ?_, read_l_free vs H Q E h⟩)
  exact (pss_cons (ps_set (i := 2) sc_l_free.nd rfl (.inl rfl) (pe_op op_sub (pe_callB call_len_seq (by rfl) T.m_len (by decide +kernel) (pa_cons (pv 0) pa_nil)) pe_int))
 (pss_cons (ps_set (i := 3) sc_l_free.nd rfl (.inl rfl) pe_int)
 (pss_cons (ps_for (passes_of rfl) rfl (pi_list (pe_op op_cat (pe_callB cr_sortedI (by rfl) T.m_sorted (by decide +kernel) (pa_cons (pv 1) pa_nil)) (pe_lst (pa_cons (pv 2) pa_nil)))) (pg_name (i := 4) sc_l_free.nd rfl (.inl rfl)) (pss_cons (ps_if (PW.pt (pw_and (pt_cmpR op_gt (pv 3) pe_int (nomark _)) (pw_and (pt_cmpR op_lt (pv 4) (pv 2) (nomark _)) (pw_and1 (pt_cmpR op_eq (pe_op op_mod (pe_op op_sub (pv 4) (pv 3)) pe_int) pe_int (nomark _)))))) (pss_cons (ps_ret pe_bl)
 pss_nil) pss_nil)
 (pss_cons (ps_if (PW.pt (pw_and (pt_cmpR op_gt (pv 3) pe_int (nomark _)) (pw_and1 (pt_val (pe_call G_l_held (hr.mono (by decide)) (by rfl) T.g_l_held T.k_l_held T.b_l_held .nil passE (pa_cons (pv 0) (pa_cons (pv 3) (pa_cons (pv 4) (pa_cons (pe_op op_sub (pv 3) pe_int) (pa_cons (pv 3) pa_nil)))))))))) (pss_cons (ps_ret pe_bl)
 pss_nil) pss_nil)
 (pss_cons (ps_if (PW.pt (pw_and (pt_cmpR op_lt (pv 4) (pv 2) (nomark _)) (pw_and1 (pt_val (pe_call G_l_held (hr.mono (by decide)) (by rfl) T.g_l_held T.k_l_held T.b_l_held .nil passE (pa_cons (pv 0) (pa_cons (pv 3) (pa_cons (pv 4) (pa_cons (pv 4) (pa_cons (pv 4) pa_nil)))))))))) (pss_cons (ps_ret pe_bl)
 pss_nil) pss_nil)
 (pss_cons (ps_set (i := 3) sc_l_free.nd rfl (.inl rfl) (pe_op op_add (pv 4) pe_int))
 pss_nil)))))
 (pss_cons (ps_ret pe_bl)
 pss_nil))))
theorem ok_l_due (T : Txt K mg c A0) : FnOk P w K mg base (L2.CX P w) 4 A0.f_l_due A0.d_l_due ["_law_at", "_law_loose", "_law_creases_here", "_law_drawing"] (sp_l_due K c) := by
  have G_l_free := ok_l_free (P := P) (w := w) (base := base) T
  refine T.F_l_due.okX sc_l_due (fun vs H Q E h => by first | (obtain ⟨_, rfl, _⟩ := h; rfl) | (obtain ⟨_, _, rfl, _⟩ := h; rfl) | (obtain ⟨_, _, _, rfl, _⟩ := h; rfl) | (obtain ⟨_, _, _, _, rfl, _⟩ := h; rfl) | (obtain ⟨_, _, _, _, _, rfl, _⟩ := h; rfl) | (obtain ⟨_, _, _, _, _, _, rfl, _⟩ := h; rfl) | (obtain ⟨_, _, _, _, _, _, _, rfl, _⟩ := h; rfl) | (obtain ⟨_, _, _, _, _, _, _, _, rfl, _⟩ := h; rfl) | (obtain ⟨_, _, _, _, _, _, _, _, _, rfl, _⟩ := h; rfl) | (obtain ⟨_, _, _, _, _, _, _, _, _, _, rfl, _⟩ := h; rfl) | (obtain ⟨_, _, _, _, _, _, _, _, _, _, _, rfl, _⟩ := h; rfl) | (obtain ⟨_, _, _, _, _, _, _, _, _, _, _, _, rfl, _⟩ := h; rfl) | (obtain ⟨_, _, _, _, _, _, _, _, _, _, _, _, _, rfl, _⟩ := h; rfl) | (obtain ⟨_, _, _, _, _, _, _, _, _, _, _, _, _, _, rfl, _⟩ := h; rfl) | (obtain ⟨_, _, _, _, _, _, _, _, _, _, _, _, _, _, _, rfl, _⟩ := h; rfl)) (fun cdv A outer s H vs Q E hr h => ⟨t_l_due K c E, ?_, read_l_due vs H Q E h⟩)
  exact (pss_cons (ps_for (passes_of rfl) rfl (pi_range1 (by rfl) T.m_range (pa_cons (pe_callB call_len_seq (by rfl) T.m_len (by decide +kernel) (pa_cons (pv 2) pa_nil)) pa_nil)) (pg_name (i := 4) sc_l_due.nd rfl (.inl rfl)) (pss_cons (ps_if (PW.pt (pw_or (pt_cmpR op_lt (pe_ix ix_list (pv 2) (pv 4) (fun _ _ => rfl)) pe_int (nomark _)) (pw_or (pt_cmpR op_gt (pe_ix ix_list (pv 2) (pv 4) (fun _ _ => rfl)) (pe_op op_sub (pe_callB call_len_seq (by rfl) T.m_len (by decide +kernel) (pa_cons (pv 0) pa_nil)) pe_int) (nomark _)) (pw_or1 (pt_cmpR op_in_seq (pe_ix ix_list (pv 2) (pv 4) (fun _ _ => rfl)) (pe_slice sl_list (pv 2) po_none (po_some (pv 4))) (by rfl)))))) (pss_cons (ps_ret pe_int)
 pss_nil) pss_nil)
 pss_nil))
 (pss_cons (ps_for (passes_of rfl) rfl (pi_list (pv 2)) (pg_name (i := 5) sc_l_due.nd rfl (.inl rfl)) (pss_cons (ps_if (pt_cmpR op_eq (pe_cmpR op_in_seq (pv 5) (pv 1) (by rfl)) (pv 3) (nomark _)) (pss_cons (ps_ret pe_int)
 pss_nil) pss_nil)
 pss_nil))
 (pss_cons (ps_setLc (own := [("_law_crease", 5)]) (g := (gName 5)) (tt := (tTest (tOp (rIn K true) (tVar 5) (tVar 2)))) (i := 6) rfl sc_l_due.nd rfl rfl (sw_true rfl rfl rfl (by decide +kernel)) (pi_list (pv 1)) (blkOk_by (N := ["_law_at", "_law_loose", "_law_creases_here", "_law_drawing", "_law_k", "_law_crease", "_law_behind_here"]) (sc := defScope s_l_due) (by decide +kernel)) (fun _ _ _ _ _ => (pg_name (i := 5) sc_l_due.nd rfl (.inl rfl))) (fun _ _ _ _ _ => (pts_one (pt_cmpR op_notIn_seq (pv 5) (pv 2) (by rfl)))) (fun _ _ _ _ _ => (pv 5)))
 (pss_cons (ps_if (pt_val (pv 3)) (pss_cons (ps_set (i := 6) sc_l_due.nd rfl (.inl rfl) (pe_op op_cat (pv 1) (pv 2)))
 pss_nil) pss_nil)
 (pss_cons (ps_if (pt_not (pt_val (pe_call G_l_free (hr.mono (by decide)) (by rfl) T.g_l_free T.k_l_free T.b_l_free .nil passE (pa_cons (pv 0) (pa_cons (pv 6) pa_nil))))) (pss_cons (ps_ret pe_int)
 pss_nil) pss_nil)
 (pss_cons (ps_ret pe_int)
 pss_nil))))))
theorem ok_l_behind (T : Txt K mg c A0) : FnOk P w K mg base (L2.CX P w) 8 A0.f_l_behind A0.d_l_behind ["_law_bench", "_law_at", "_law_loose", "_law_number_here"] (sp_l_behind K c) := by
  have G_l_creases := ok_l_creases (P := P) (w := w) (base := base) T
  have G_l_done := ok_l_done (P := P) (w := w) (base := base) T
  have G_l_due := ok_l_due (P := P) (w := w) (base := base) T
  refine T.F_l_behind.okX sc_l_behind (fun vs H Q E h => by first | (obtain ⟨_, rfl, _⟩ := h; rfl) | (obtain ⟨_, _, rfl, _⟩ := h; rfl) | (obtain ⟨_, _, _, rfl, _⟩ := h; rfl) | (obtain ⟨_, _, _, _, rfl, _⟩ := h; rfl) | (obtain ⟨_, _, _, _, _, rfl, _⟩ := h; rfl) | (obtain ⟨_, _, _, _, _, _, rfl, _⟩ := h; rfl) | (obtain ⟨_, _, _, _, _, _, _, rfl, _⟩ := h; rfl) | (obtain ⟨_, _, _, _, _, _, _, _, rfl, _⟩ := h; rfl) | (obtain ⟨_, _, _, _, _, _, _, _, _, rfl, _⟩ := h; rfl) | (obtain ⟨_, _, _, _, _, _, _, _, _, _, rfl, _⟩ := h; rfl) | (obtain ⟨_, _, _, _, _, _, _, _, _, _, _, rfl, _⟩ := h; rfl) | (obtain ⟨_, _, _, _, _, _, _, _, _, _, _, _, rfl, _⟩ := h; rfl) | (obtain ⟨_, _, _, _, _, _, _, _, _, _, _, _, _, rfl, _⟩ := h; rfl) | (obtain ⟨_, _, _, _, _, _, _, _, _, _, _, _, _, _, rfl, _⟩ := h; rfl) | (obtain ⟨_, _, _, _, _, _, _, _, _, _, _, _, _, _, _, rfl, _⟩ := h; rfl)) (fun cdv A outer s H vs Q E hr h => ⟨t_l_behind K c E, ?_, read_l_behind vs H Q E h⟩)
  exact (pss_cons (ps_set (i := 4) sc_l_behind.nd rfl (.inl rfl) (pe_cmpR op_eq (pe_op op_mod (pv 3) pe_int) pe_int (nomark _)))
 (pss_cons (ps_set (i := 5) sc_l_behind.nd rfl (.inr rfl) (pe_call G_l_creases (hr.mono (by decide)) (by rfl) T.g_l_creases T.k_l_creases T.b_l_creases .nil passE (pa_cons (pe_callB call_len_seq (by rfl) T.m_len (by decide +kernel) (pa_cons (pv 1) pa_nil)) (pa_cons (pv 2) (pa_cons (pe_op op_fdiv (pv 3) pe_int) pa_nil)))))
 (pss_cons (ps_set (i := 6) sc_l_behind.nd rfl (.inl rfl) (pe_callTy call_list_of (by rfl) T.m_list (by decide +kernel) (pa_cons (pv 5) pa_nil)))
 (pss_cut (ps_if (pt_cmpR op_eq (pe_op op_mod (pe_op op_fdiv (pv 3) pe_int) pe_int) pe_int (nomark _)) (pss_cons (ps_set (i := 7) sc_l_behind.nd rfl (.inl rfl) (pe_call G_l_done (hr.mono (by decide)) (by rfl) T.g_l_done T.k_l_done T.b_l_done .nil passE (pa_cons (pv 0) (pa_cons (pe_callTy call_tuple_of (by rfl) T.m_tuple (by decide +kernel) (pa_cons (pv 5) pa_nil)) (pa_cons (pv 4) pa_nil)))))
 pss_nil) (pss_cons (ps_set (i := 7) sc_l_behind.nd rfl (.inl rfl) (pe_call G_l_done (hr.mono (by decide)) (by rfl) T.g_l_done T.k_l_done T.b_l_done .nil passE (pa_cons (pv 0) (pa_cons (pv 6) (pa_cons (pv 4) pa_nil)))))
 pss_nil))
 (pss_cons (ps_if (PW.pt (pw_or (pt_cmpR op_ne (pv 7) (pe_call G_l_due (hr.mono (by decide)) (by rfl) T.g_l_due T.k_l_due T.b_l_due .nil passE (pa_cons (pv 1) (pa_cons (pv 2) (pa_cons (pv 5) (pa_cons (pv 4) pa_nil))))) (nomark _)) (pw_or1 (pt_cmpR (op_neD hr.units) (pv 6) (pv 5) (nomark _))))) (pss_cons (ps_ret pe_non)
 pss_nil) pss_nil)
 (pss_cons (ps_expr (pe_bm PySem.F.plainAttrs_list PySem.F.slot_list_append PySem.F.type_list_append mt_append (pv 6) (pa_cons pe_int pa_nil)))
 (pss_cons (ps_if (pt_cmpR op_ne (pv 7) pe_int (nomark _)) (pss_cons (ps_ret (pv 2))
 pss_nil) pss_nil)
 (pss_cons (ps_if (pt_val (pv 4)) (pss_cons (ps_ret (pe_callB cr_sortedI (by rfl) T.m_sorted (by decide +kernel) (pa_cons (pe_op op_cat (pv 2) (pv 5)) pa_nil)))
 pss_nil) pss_nil)
 (pss_cons (ps_ret (pe_lc (own := [("_law_crease", 8)]) (g := (gName 8)) (tt := (tTest (tOp (rIn K true) (tVar 8) (tVar 5)))) rfl sc_l_behind.nd (pi_list (pv 2)) (blkOk_by (N := ["_law_bench", "_law_at", "_law_loose", "_law_number_here", "_law_drawing", "_law_creases_here", "_law_given", "_law_word", "_law_crease"]) (sc := defScope s_l_behind) (by decide +kernel)) (fun _ _ _ _ _ => (pg_name (i := 8) sc_l_behind.nd rfl (.inl rfl))) (fun _ _ _ _ _ => (pts_one (pt_cmpR op_notIn_seq (pv 8) (pv 5) (by rfl)))) (fun _ _ _ _ _ => (pv 8))))
 pss_nil)))))))))
theorem ok_l_drawn (T : Txt K mg c A0) : FnOk P w K mg base (L2.CX P w) 1 A0.f_l_drawn A0.d_l_drawn ["_law_script", "_law_k"] (sp_l_drawn K c) := by
  refine T.F_l_drawn.okX sc_l_drawn (fun vs H Q E h => by first | (obtain ⟨_, rfl, _⟩ := h; rfl) | (obtain ⟨_, _, rfl, _⟩ := h; rfl) | (obtain ⟨_, _, _, rfl, _⟩ := h; rfl) | (obtain ⟨_, _, _, _, rfl, _⟩ := h; rfl) | (obtain ⟨_, _, _, _, _, rfl, _⟩ := h; rfl) | (obtain ⟨_, _, _, _, _, _, rfl, _⟩ := h; rfl) | (obtain ⟨_, _, _, _, _, _, _, rfl, _⟩ := h; rfl) | (obtain ⟨_, _, _, _, _, _, _, _, rfl, _⟩ := h; rfl) | (obtain ⟨_, _, _, _, _, _, _, _, _, rfl, _⟩ := h; rfl) | (obtain ⟨_, _, _, _, _, _, _, _, _, _, rfl, _⟩ := h; rfl) | (obtain ⟨_, _, _, _, _, _, _, _, _, _, _, rfl, _⟩ := h; rfl) | (obtain ⟨_, _, _, _, _, _, _, _, _, _, _, _, rfl, _⟩ := h; rfl) | (obtain ⟨_, _, _, _, _, _, _, _, _, _, _, _, _, rfl, _⟩ := h; rfl) | (obtain ⟨_, _, _, _, _, _, _, _, _, _, _, _, _, _, rfl, _⟩ := h; rfl) | (obtain ⟨_, _, _, _, _, _, _, _, _, _, _, _, _, _, _, rfl, _⟩ := h; rfl)) (fun cdv A outer s H vs Q E hr h => ⟨t_l_drawn K c E, ?_, read_l_drawn vs H Q E h⟩)
  exact (pss_cons (ps_ret (pe_ifExp (pt_cmpR op_lt (pv 1) (pe_callB call_len_seq (by rfl) T.m_len (by decide +kernel) (pa_cons (pv 0) pa_nil)) (nomark _)) (pe_ix ix_list (pv 0) (pv 1) (fun _ _ => rfl)) pe_int))
 pss_nil)
theorem ok_l_fits (T : Txt K mg c A0) : FnOk P w K mg base (L2.CX P w) 1 A0.f_l_fits A0.d_l_fits ["_law_at", "_law_stamp", "_law_gap"] (sp_l_fits K c) := by
  refine T.F_l_fits.okX sc_l_fits (fun vs H Q E h => by first | (obtain ⟨_, rfl, _⟩ := h; rfl) | (obtain ⟨_, _, rfl, _⟩ := h; rfl) | (obtain ⟨_, _, _, rfl, _⟩ := h; rfl) | (obtain ⟨_, _, _, _, rfl, _⟩ := h; rfl) | (obtain ⟨_, _, _, _, _, rfl, _⟩ := h; rfl) | (obtain ⟨_, _, _, _, _, _, rfl, _⟩ := h; rfl) | (obtain ⟨_, _, _, _, _, _, _, rfl, _⟩ := h; rfl) | (obtain ⟨_, _, _, _, _, _, _, _, rfl, _⟩ := h; rfl) | (obtain ⟨_, _, _, _, _, _, _, _, _, rfl, _⟩ := h; rfl) | (obtain ⟨_, _, _, _, _, _, _, _, _, _, rfl, _⟩ := h; rfl) | (obtain ⟨_, _, _, _, _, _, _, _, _, _, _, rfl, _⟩ := h; rfl) | (obtain ⟨_, _, _, _, _, _, _, _, _, _, _, _, rfl, _⟩ := h; rfl) | (obtain ⟨_, _, _, _, _, _, _, _, _, _, _, _, _, rfl, _⟩ := h; rfl) | (obtain ⟨_, _, _, _, _, _, _, _, _, _, _, _, _, _, rfl, _⟩ := h; rfl) | (obtain ⟨_, _, _, _, _, _, _, _, _, _, _, _, _, _, _, rfl, _⟩ := h; rfl)) (fun cdv A outer s H vs Q E hr h => ⟨t_l_fits K c E, ?_, read_l_fits vs H Q E h⟩)
  exact (pss_cons (ps_for (passes_of rfl) rfl (pi_range3 (by rfl) T.m_range (pa_cons (pe_op op_mod (pe_op op_add (pv 1) pe_int) pe_int) (pa_cons (pe_op op_sub (pv 1) pe_int) (pa_cons pe_int pa_nil)))) (pg_name (i := 3) sc_l_fits.nd rfl (.inl rfl)) (pss_cons (ps_set (i := 4) sc_l_fits.nd rfl (.inl rfl) (pe_callB (call_min2 rfl) (by rfl) T.m_min (by decide +kernel) (pa_cons (pe_ix ix_list (pv 0) (pv 3) (fun _ _ => rfl)) (pa_cons (pe_ix ix_list (pv 0) (pe_op op_add (pv 3) pe_int) (fun _ _ => rfl)) pa_nil))))
 (pss_cons (ps_set (i := 5) sc_l_fits.nd rfl (.inl rfl) (pe_callB (call_max2 rfl) (by rfl) T.m_max (by decide +kernel) (pa_cons (pe_ix ix_list (pv 0) (pv 3) (fun _ _ => rfl)) (pa_cons (pe_ix ix_list (pv 0) (pe_op op_add (pv 3) pe_int) (fun _ _ => rfl)) pa_nil))))
 (pss_cons (ps_if (pt_cmpR op_ne (pe_and (pe_cmpR op_lt (pv 4) (pe_ix ix_list (pv 0) (pe_op op_sub (pv 1) pe_int) (fun _ _ => rfl)) (nomark _)) (pe_one (pe_cmpR op_lt (pe_ix ix_list (pv 0) (pe_op op_sub (pv 1) pe_int) (fun _ _ => rfl)) (pv 5) (nomark _)))) (pe_and (pe_cmpR op_lt (pv 4) (pv 2) (nomark _)) (pe_one (pe_cmpR op_le (pv 2) (pv 5) (nomark _)))) (nomark _)) (pss_cons (ps_ret pe_bl)
 pss_nil) pss_nil)
 pss_nil))))
 (pss_cons (ps_ret pe_bl)
 pss_nil))
theorem ok_l_number (T : Txt K mg c A0) : FnOk P w K mg base (L2.CX P w) 1 A0.f_l_number A0.d_l_number ["_law_script", "_law_k"] (sp_l_number K c) := by
  refine T.F_l_number.okX sc_l_number (fun vs H Q E h => by first | (obtain ⟨_, rfl, _⟩ := h; rfl) | (obtain ⟨_, _, rfl, _⟩ := h; rfl) | (obtain ⟨_, _, _, rfl, _⟩ := h; rfl) | (obtain ⟨_, _, _, _, rfl, _⟩ := h; rfl) | (obtain ⟨_, _, _, _, _, rfl, _⟩ := h; rfl) | (obtain ⟨_, _, _, _, _, _, rfl, _⟩ := h; rfl) | (obtain ⟨_, _, _, _, _, _, _, rfl, _⟩ := h; rfl) | (obtain ⟨_, _, _, _, _, _, _, _, rfl, _⟩ := h; rfl) | (obtain ⟨_, _, _, _, _, _, _, _, _, rfl, _⟩ := h; rfl) | (obtain ⟨_, _, _, _, _, _, _, _, _, _, rfl, _⟩ := h; rfl) | (obtain ⟨_, _, _, _, _, _, _, _, _, _, _, rfl, _⟩ := h; rfl) | (obtain ⟨_, _, _, _, _, _, _, _, _, _, _, _, rfl, _⟩ := h; rfl) | (obtain ⟨_, _, _, _, _, _, _, _, _, _, _, _, _, rfl, _⟩ := h; rfl) | (obtain ⟨_, _, _, _, _, _, _, _, _, _, _, _, _, _, rfl, _⟩ := h; rfl) | (obtain ⟨_, _, _, _, _, _, _, _, _, _, _, _, _, _, _, rfl, _⟩ := h; rfl)) (fun cdv A outer s H vs Q E hr h => ⟨t_l_number K c E, ?_, read_l_number vs H Q E h⟩)
  exact (pss_cons (ps_set (i := 2) sc_l_number.nd rfl (.inl rfl) (pe_op op_add (pe_op op_mul (pe_op op_mul (pv 1) (pv 1)) pe_int) (pv 1)))
 (pss_cons (ps_if (pt_cmpR op_lt (pv 1) (pe_callB call_len_seq (by rfl) T.m_len (by decide +kernel) (pa_cons (pv 0) pa_nil)) (nomark _)) (pss_cons (ps_set (i := 2) sc_l_number.nd rfl (.inl rfl) (pe_ix ix_list (pv 0) (pv 1) (fun _ _ => rfl)))
 pss_nil) (pss_cons (ps_if (pt_cmpR (op_neD hr.units) (pv 0) (pe_lst pa_nil) (nomark _)) (pss_cons (ps_set (i := 2) sc_l_number.nd rfl (.inl rfl) (pe_op op_add (pv 2) (pe_ix ix_list (pv 0) (pe_op op_mod (pv 1) (pe_callB call_len_seq (by rfl) T.m_len (by decide +kernel) (pa_cons (pv 0) pa_nil))) (fun _ _ => rfl))))
 pss_nil) pss_nil)
 pss_nil))
 (pss_cons (ps_ret (pe_op op_mod (pe_op op_mul (pv 2) pe_int) pe_int))
 pss_nil)))
theorem ok_l_places (T : Txt K mg c A0) : FnOk P w K mg base (L2.CX P w) 1 A0.f_l_places A0.d_l_places ["_law_pile"] (sp_l_places K c) := by
  refine T.F_l_places.okX sc_l_places (fun vs H Q E h => by first | (obtain ⟨_, rfl, _⟩ := h; rfl) | (obtain ⟨_, _, rfl, _⟩ := h; rfl) | (obtain ⟨_, _, _, rfl, _⟩ := h; rfl) | (obtain ⟨_, _, _, _, rfl, _⟩ := h; rfl) | (obtain ⟨_, _, _, _, _, rfl, _⟩ := h; rfl) | (obtain ⟨_, _, _, _, _, _, rfl, _⟩ := h; rfl) | (obtain ⟨_, _, _, _, _, _, _, rfl, _⟩ := h; rfl) | (obtain ⟨_, _, _, _, _, _, _, _, rfl, _⟩ := h; rfl) | (obtain ⟨_, _, _, _, _, _, _, _, _, rfl, _⟩ := h; rfl) | (obtain ⟨_, _, _, _, _, _, _, _, _, _, rfl, _⟩ := h; rfl) | (obtain ⟨_, _, _, _, _, _, _, _, _, _, _, rfl, _⟩ := h; rfl) | (obtain ⟨_, _, _, _, _, _, _, _, _, _, _, _, rfl, _⟩ := h; rfl) | (obtain ⟨_, _, _, _, _, _, _, _, _, _, _, _, _, rfl, _⟩ := h; rfl) | (obtain ⟨_, _, _, _, _, _, _, _, _, _, _, _, _, _, rfl, _⟩ := h; rfl) | (obtain ⟨_, _, _, _, _, _, _, _, _, _, _, _, _, _, _, rfl, _⟩ := h; rfl)) (fun cdv A outer s H vs Q E hr h => ⟨t_l_places K c E, ?_, read_l_places vs H Q E h⟩)
  exact (pss_cons (ps_set (i := 1) sc_l_places.nd rfl (.inl rfl) (pe_op op_rep (pe_lst (pa_cons pe_int pa_nil)) (pe_callB call_len_seq (by rfl) T.m_len (by decide +kernel) (pa_cons (pv 0) pa_nil))))
 (pss_cons (ps_for (passes_of rfl) rfl (pi_range1 (by rfl) T.m_range (pa_cons (pe_callB call_len_seq (by rfl) T.m_len (by decide +kernel) (pa_cons (pv 0) pa_nil)) pa_nil)) (pg_name (i := 2) sc_l_places.nd rfl (.inl rfl)) (pss_cons (ps_asg (pv 2) (pg_sub (pv 1) (pe_ix ix_list (pv 0) (pv 2) (fun _ _ => rfl)) set_list))
 pss_nil))
 (pss_cons (ps_ret (pv 1))
 pss_nil)))
theorem ok_l_good (T : Txt K mg c A0) : FnOk P w K mg base (L2.CX P w) 2 A0.f_l_good A0.d_l_good ["_law_script", "_law_start", "_law_size_here"] (sp_l_good K c) := by
  have G_l_fits := ok_l_fits (P := P) (w := w) (base := base) T
  have G_l_number := ok_l_number (P := P) (w := w) (base := base) T
  have G_l_places := ok_l_places (P := P) (w := w) (base := base) T
  refine T.F_l_good.okX sc_l_good (fun vs H Q E h => by first | (obtain ⟨_, rfl, _⟩ := h; rfl) | (obtain ⟨_, _, rfl, _⟩ := h; rfl) | (obtain ⟨_, _, _, rfl, _⟩ := h; rfl) | (obtain ⟨_, _, _, _, rfl, _⟩ := h; rfl) | (obtain ⟨_, _, _, _, _, rfl, _⟩ := h; rfl) | (obtain ⟨_, _, _, _, _, _, rfl, _⟩ := h; rfl) | (obtain ⟨_, _, _, _, _, _, _, rfl, _⟩ := h; rfl) | (obtain ⟨_, _, _, _, _, _, _, _, rfl, _⟩ := h; rfl) | (obtain ⟨_, _, _, _, _, _, _, _, _, rfl, _⟩ := h; rfl) | (obtain ⟨_, _, _, _, _, _, _, _, _, _, rfl, _⟩ := h; rfl) | (obtain ⟨_, _, _, _, _, _, _, _, _, _, _, rfl, _⟩ := h; rfl) | (obtain ⟨_, _, _, _, _, _, _, _, _, _, _, _, rfl, _⟩ := h; rfl) | (obtain ⟨_, _, _, _, _, _, _, _, _, _, _, _, _, rfl, _⟩ := h; rfl) | (obtain ⟨_, _, _, _, _, _, _, _, _, _, _, _, _, _, rfl, _⟩ := h; rfl) | (obtain ⟨_, _, _, _, _, _, _, _, _, _, _, _, _, _, _, rfl, _⟩ := h; rfl)) (fun cdv A outer s H vs Q E hr h => ⟨t_l_good K c E, ?_, read_l_good vs H Q E h⟩)
  exact (pss_cons (ps_set (i := 3) sc_l_good.nd rfl (.inl rfl) (pe_lst (pa_cons pe_int pa_nil)))
 (pss_cons (ps_for (passes_of rfl) rfl (pi_range2 (by rfl) T.m_range (pa_cons pe_int (pa_cons (pv 2) pa_nil))) (pg_name (i := 4) sc_l_good.nd rfl (.inl rfl)) (pss_cons (ps_set (i := 5) sc_l_good.nd rfl (.inl rfl) (pe_call G_l_places (hr.mono (by decide)) (by rfl) T.g_l_places T.k_l_places T.b_l_places .nil passE (pa_cons (pv 3) pa_nil)))
 (pss_cons (ps_set (i := 6) sc_l_good.nd rfl (.inl rfl) (pe_call G_l_number (hr.mono (by decide)) (by rfl) T.g_l_number T.k_l_number T.b_l_number .nil passE (pa_cons (pv 0) (pa_cons (pe_op op_add (pv 1) (pv 4)) pa_nil))))
 (pss_cons (ps_set (i := 7) sc_l_good.nd rfl (.inl rfl) (pe_op op_mod (pv 6) (pe_op op_add (pv 4) pe_int)))
 (pss_cons (ps_if (pt_not (pt_val (pe_call G_l_fits (hr.mono (by decide)) (by rfl) T.g_l_fits T.k_l_fits T.b_l_fits .nil passE (pa_cons (pv 5) (pa_cons (pv 4) (pa_cons (pv 7) pa_nil)))))) (pss_cons (ps_set (i := 7) sc_l_good.nd rfl (.inl rfl) (pe_op op_add (pe_ix ix_list (pv 5) (pe_op op_sub (pv 4) pe_int) (fun _ _ => rfl)) (pe_op op_mod (pe_op op_fdiv (pv 6) pe_int) pe_int)))
 pss_nil) pss_nil)
 (pss_cons (ps_set (i := 3) sc_l_good.nd rfl (.inl rfl) (pe_op op_cat (pe_op op_cat (pe_slice sl_list (pv 3) po_none (po_some (pv 7))) (pe_lst (pa_cons (pv 4) pa_nil))) (pe_slice sl_list (pv 3) (po_some (pv 7)) po_none)))
 pss_nil))))))
 (pss_cons (ps_ret (pv 3))
 pss_nil)))
theorem ok_Bench_loose (T : Txt K mg c A0) : FnOk P w K mg base (L2.CX P w) 1 A0.f_Bench_loose A0.d_Bench_loose ["self"] (sp_Bench_loose K c) := by
  refine T.F_Bench_loose.okX sc_Bench_loose (fun vs H Q E h => by first | (obtain ⟨_, rfl, _⟩ := h; rfl) | (obtain ⟨_, _, rfl, _⟩ := h; rfl) | (obtain ⟨_, _, _, rfl, _⟩ := h; rfl) | (obtain ⟨_, _, _, _, rfl, _⟩ := h; rfl) | (obtain ⟨_, _, _, _, _, rfl, _⟩ := h; rfl) | (obtain ⟨_, _, _, _, _, _, rfl, _⟩ := h; rfl) | (obtain ⟨_, _, _, _, _, _, _, rfl, _⟩ := h; rfl) | (obtain ⟨_, _, _, _, _, _, _, _, rfl, _⟩ := h; rfl) | (obtain ⟨_, _, _, _, _, _, _, _, _, rfl, _⟩ := h; rfl) | (obtain ⟨_, _, _, _, _, _, _, _, _, _, rfl, _⟩ := h; rfl) | (obtain ⟨_, _, _, _, _, _, _, _, _, _, _, rfl, _⟩ := h; rfl) | (obtain ⟨_, _, _, _, _, _, _, _, _, _, _, _, rfl, _⟩ := h; rfl) | (obtain ⟨_, _, _, _, _, _, _, _, _, _, _, _, _, rfl, _⟩ := h; rfl) | (obtain ⟨_, _, _, _, _, _, _, _, _, _, _, _, _, _, rfl, _⟩ := h; rfl) | (obtain ⟨_, _, _, _, _, _, _, _, _, _, _, _, _, _, _, rfl, _⟩ := h; rfl)) (fun cdv A outer s H vs Q E hr h => ⟨t_Bench_loose K c E, ?_, read_Bench_loose vs H Q E h⟩)
  exact (pss_cons (ps_ret (pe_callB cr_sortedI (by rfl) T.m_sorted (by decide +kernel) (pa_cons (pe_fld (pv 0) rfl) pa_nil)))
 pss_nil)
theorem ok_Bench_parts (T : Txt K mg c A0) : FnOk P w K mg base (L2.CX P w) 2 A0.f_Bench_parts A0.d_Bench_parts ["self"] (sp_Bench_parts K c) := by
  have G_parts_of := ok_parts_of (P := P) (w := w) (base := base) T
  refine T.F_Bench_parts.okX sc_Bench_parts (fun vs H Q E h => by first | (obtain ⟨_, rfl, _⟩ := h; rfl) | (obtain ⟨_, _, rfl, _⟩ := h; rfl) | (obtain ⟨_, _, _, rfl, _⟩ := h; rfl) | (obtain ⟨_, _, _, _, rfl, _⟩ := h; rfl) | (obtain ⟨_, _, _, _, _, rfl, _⟩ := h; rfl) | (obtain ⟨_, _, _, _, _, _, rfl, _⟩ := h; rfl) | (obtain ⟨_, _, _, _, _, _, _, rfl, _⟩ := h; rfl) | (obtain ⟨_, _, _, _, _, _, _, _, rfl, _⟩ := h; rfl) | (obtain ⟨_, _, _, _, _, _, _, _, _, rfl, _⟩ := h; rfl) | (obtain ⟨_, _, _, _, _, _, _, _, _, _, rfl, _⟩ := h; rfl) | (obtain ⟨_, _, _, _, _, _, _, _, _, _, _, rfl, _⟩ := h; rfl) | (obtain ⟨_, _, _, _, _, _, _, _, _, _, _, _, rfl, _⟩ := h; rfl) | (obtain ⟨_, _, _, _, _, _, _, _, _, _, _, _, _, rfl, _⟩ := h; rfl) | (obtain ⟨_, _, _, _, _, _, _, _, _, _, _, _, _, _, rfl, _⟩ := h; rfl) | (obtain ⟨_, _, _, _, _, _, _, _, _, _, _, _, _, _, _, rfl, _⟩ := h; rfl)) (fun cdv A outer s H vs Q E hr h => ⟨t_Bench_parts K c E, ?_, read_Bench_parts vs H Q E h⟩)
  exact (pss_cons (ps_set (i := 1) sc_Bench_parts.nd rfl (.inl rfl) (pe_lst pa_nil))
 (pss_cons (ps_for (passes_of rfl) rfl (pi_list (pe_call G_parts_of (hr.mono (by decide)) (by rfl) T.g_parts_of T.k_parts_of T.b_parts_of .nil passE (pa_cons (pe_callB call_len_seq (by rfl) T.m_len (by decide +kernel) (pa_cons (pe_fld (pv 0) rfl) pa_nil)) (pa_cons (pe_fld (pv 0) rfl) pa_nil)))) (pg_tup rfl (pgs_cons (pg_name (i := 2) sc_Bench_parts.nd rfl (.inr rfl)) (pgs_cons (pg_name (i := 3) sc_Bench_parts.nd rfl (.inr rfl)) pgs_nil))) (pss_cons (ps_expr (pe_bm PySem.F.plainAttrs_list PySem.F.slot_list_append PySem.F.type_list_append mt_append (pv 1) (pa_cons (pe_lc (own := [("stamp", 4)]) (g := (gName 4)) (tt := (tAnd (tTest (tOp (rI0 fun i j => .bl (decide (i ≤ j))) (tVar 2) (tVar 4))) (tTest (tOp (rI0 fun i j => .bl (decide (i ≤ j))) (tVar 4) (tVar 3))))) rfl sc_Bench_parts.nd (pi_list (pe_fld (pv 0) rfl)) (blkOk_by (N := ["self", "found", "first", "last", "stamp"]) (sc := defScope s_Bench_parts) (by decide +kernel)) (fun _ _ _ _ _ => (pg_name (i := 4) sc_Bench_parts.nd rfl (.inl rfl))) (fun _ _ _ _ _ => (pts_one (PW.pt (pw_and (pt_cmpR op_le (pv 2) (pv 4) (nomark _)) (pw_and1 (pt_cmpR op_le (pv 4) (pv 3) (nomark _))))))) (fun _ _ _ _ _ => (pv 4))) pa_nil)))
 pss_nil))
 (pss_cons (ps_ret (pv 1))
 pss_nil)))
theorem ok_l_counts (T : Txt K mg c A0) : FnOk P w K mg base (L2.CX P w) 1 A0.f_l_counts A0.d_l_counts ["_law_thing"] (sp_l_counts K c) := by
  refine T.F_l_counts.okX sc_l_counts (fun vs H Q E h => by first | (obtain ⟨_, rfl, _⟩ := h; rfl) | (obtain ⟨_, _, rfl, _⟩ := h; rfl) | (obtain ⟨_, _, _, rfl, _⟩ := h; rfl) | (obtain ⟨_, _, _, _, rfl, _⟩ := h; rfl) | (obtain ⟨_, _, _, _, _, rfl, _⟩ := h; rfl) | (obtain ⟨_, _, _, _, _, _, rfl, _⟩ := h; rfl) | (obtain ⟨_, _, _, _, _, _, _, rfl, _⟩ := h; rfl) | (obtain ⟨_, _, _, _, _, _, _, _, rfl, _⟩ := h; rfl) | (obtain ⟨_, _, _, _, _, _, _, _, _, rfl, _⟩ := h; rfl) | (obtain ⟨_, _, _, _, _, _, _, _, _, _, rfl, _⟩ := h; rfl) | (obtain ⟨_, _, _, _, _, _, _, _, _, _, _, rfl, _⟩ := h; rfl) | (obtain ⟨_, _, _, _, _, _, _, _, _, _, _, _, rfl, _⟩ := h; rfl) | (obtain ⟨_, _, _, _, _, _, _, _, _, _, _, _, _, rfl, _⟩ := h; rfl) | (obtain ⟨_, _, _, _, _, _, _, _, _, _, _, _, _, _, rfl, _⟩ := h; rfl) | (obtain ⟨_, _, _, _, _, _, _, _, _, _, _, _, _, _, _, rfl, _⟩ := h; rfl)) (fun cdv A outer s H vs Q E hr h => ⟨t_l_counts K c E, ?_, read_l_counts vs H Q E h⟩)
  exact (pss_cons (ps_ret (pe_and (pe_callB call_isi (by rfl) T.m_isinstance (by decide +kernel) (pa_cons (pv 0) (pa_cons (pe_bltn (by rfl) T.m_int (by decide +kernel) rfl) pa_nil))) (pe_and (pe_cmpR op_notIB (pv 0) pe_bl (nomark _)) (pe_one (pe_cmpR op_notIB (pv 0) pe_bl (nomark _))))))
 pss_nil)
theorem ok_l_found (T : Txt K mg c A0) : FnOk P w K mg base (L2.CX P w) 2 A0.f_l_found A0.d_l_found ["_law_found", "_law_due_here"] (sp_l_found K c) := by
  have G_l_counts := ok_l_counts (P := P) (w := w) (base := base) T
  refine T.F_l_found.okX sc_l_found (fun vs H Q E h => by first | (obtain ⟨_, rfl, _⟩ := h; rfl) | (obtain ⟨_, _, rfl, _⟩ := h; rfl) | (obtain ⟨_, _, _, rfl, _⟩ := h; rfl) | (obtain ⟨_, _, _, _, rfl, _⟩ := h; rfl) | (obtain ⟨_, _, _, _, _, rfl, _⟩ := h; rfl) | (obtain ⟨_, _, _, _, _, _, rfl, _⟩ := h; rfl) | (obtain ⟨_, _, _, _, _, _, _, rfl, _⟩ := h; rfl) | (obtain ⟨_, _, _, _, _, _, _, _, rfl, _⟩ := h; rfl) | (obtain ⟨_, _, _, _, _, _, _, _, _, rfl, _⟩ := h; rfl) | (obtain ⟨_, _, _, _, _, _, _, _, _, _, rfl, _⟩ := h; rfl) | (obtain ⟨_, _, _, _, _, _, _, _, _, _, _, rfl, _⟩ := h; rfl) | (obtain ⟨_, _, _, _, _, _, _, _, _, _, _, _, rfl, _⟩ := h; rfl) | (obtain ⟨_, _, _, _, _, _, _, _, _, _, _, _, _, rfl, _⟩ := h; rfl) | (obtain ⟨_, _, _, _, _, _, _, _, _, _, _, _, _, _, rfl, _⟩ := h; rfl) | (obtain ⟨_, _, _, _, _, _, _, _, _, _, _, _, _, _, _, rfl, _⟩ := h; rfl)) (fun cdv A outer s H vs Q E hr h => ⟨t_l_found K c E, ?_, read_l_found vs H Q E h⟩)
  exact (pss_cons (ps_if (PW.pt (pw_or (pt_not (pt_val (pe_callB call_isi (by rfl) T.m_isinstance (by decide +kernel) (pa_cons (pv 0) (pa_cons (pe_bltn (by rfl) T.m_list (by decide +kernel) rfl) pa_nil))))) (pw_or1 (pt_cmpR op_ne (pe_callB call_len_seq (by rfl) T.m_len (by decide +kernel) (pa_cons (pv 0) pa_nil)) (pe_callB call_len_seq (by rfl) T.m_len (by decide +kernel) (pa_cons (pv 1) pa_nil)) (nomark _))))) (pss_cons (ps_ret pe_bl)
 pss_nil) pss_nil)
 (pss_cons (ps_for (passes_of rfl) rfl (pi_range1 (by rfl) T.m_range (pa_cons (pe_callB call_len_seq (by rfl) T.m_len (by decide +kernel) (pa_cons (pv 1) pa_nil)) pa_nil)) (pg_name (i := 2) sc_l_found.nd rfl (.inl rfl)) (pss_cons (ps_if (PW.pt (pw_or (pt_not (pt_val (pe_call G_l_counts (hr.mono (by decide)) (by rfl) T.g_l_counts T.k_l_counts T.b_l_counts .nil passE (pa_cons (pe_ix ix_list (pv 0) (pv 2) (fun _ _ => rfl)) pa_nil)))) (pw_or1 (pt_cmpR op_ne (pe_ix ix_list (pv 0) (pv 2) (fun _ _ => rfl)) (pe_ix ix_list (pv 1) (pv 2) (fun _ _ => rfl)) (nomark _))))) (pss_cons (ps_ret pe_bl)
 pss_nil) pss_nil)
 pss_nil))
 (pss_cons (ps_ret pe_bl)
 pss_nil)))
theorem ok_l_parts (T : Txt K mg c A0) : FnOk P w K mg base (L2.CX P w) 3 A0.f_l_parts A0.d_l_parts ["_law_found", "_law_pile", "_law_loose"] (sp_l_parts K c) := by
  have G_l_found := ok_l_found (P := P) (w := w) (base := base) T
  refine T.F_l_parts.okX sc_l_parts (fun vs H Q E h => by first | (obtain ⟨_, rfl, _⟩ := h; rfl) | (obtain ⟨_, _, rfl, _⟩ := h; rfl) | (obtain ⟨_, _, _, rfl, _⟩ := h; rfl) | (obtain ⟨_, _, _, _, rfl, _⟩ := h; rfl) | (obtain ⟨_, _, _, _, _, rfl, _⟩ := h; rfl) | (obtain ⟨_, _, _, _, _, _, rfl, _⟩ := h; rfl) | (obtain ⟨_, _, _, _, _, _, _, rfl, _⟩ := h; rfl) | (obtain ⟨_, _, _, _, _, _, _, _, rfl, _⟩ := h; rfl) | (obtain ⟨_, _, _, _, _, _, _, _, _, rfl, _⟩ := h; rfl) | (obtain ⟨_, _, _, _, _, _, _, _, _, _, rfl, _⟩ := h; rfl) | (obtain ⟨_, _, _, _, _, _, _, _, _, _, _, rfl, _⟩ := h; rfl) | (obtain ⟨_, _, _, _, _, _, _, _, _, _, _, _, rfl, _⟩ := h; rfl) | (obtain ⟨_, _, _, _, _, _, _, _, _, _, _, _, _, rfl, _⟩ := h; rfl) | (obtain ⟨_, _, _, _, _, _, _, _, _, _, _, _, _, _, rfl, _⟩ := h; rfl) | (obtain ⟨_, _, _, _, _, _, _, _, _, _, _, _, _, _, _, rfl, _⟩ := h; rfl)) (fun cdv A outer s H vs Q E hr h => ⟨t_l_parts K c E, ?_, read_l_parts vs H Q E h⟩)
  exact (pss_cons (ps_set (i := 3) sc_l_parts.nd rfl (.inr rfl) (pe_op op_cat (pv 2) (pe_lst (pa_cons (pe_op op_sub (pe_callB call_len_seq (by rfl) T.m_len (by decide +kernel) (pa_cons (pv 1) pa_nil)) pe_int) pa_nil))))
 (pss_cons (ps_if (PW.pt (pw_or (pt_not (pt_val (pe_callB call_isi (by rfl) T.m_isinstance (by decide +kernel) (pa_cons (pv 0) (pa_cons (pe_bltn (by rfl) T.m_list (by decide +kernel) rfl) pa_nil))))) (pw_or1 (pt_cmpR op_ne (pe_callB call_len_seq (by rfl) T.m_len (by decide +kernel) (pa_cons (pv 0) pa_nil)) (pe_callB call_len_seq (by rfl) T.m_len (by decide +kernel) (pa_cons (pv 3) pa_nil)) (nomark _))))) (pss_cons (ps_ret pe_bl)
 pss_nil) pss_nil)
 (pss_cons (ps_set (i := 4) sc_l_parts.nd rfl (.inr rfl) pe_int)
 (pss_cons (ps_for (passes_of rfl) rfl (pi_range1 (by rfl) T.m_range (pa_cons (pe_callB call_len_seq (by rfl) T.m_len (by decide +kernel) (pa_cons (pv 3) pa_nil)) pa_nil)) (pg_name (i := 5) sc_l_parts.nd rfl (.inr rfl)) (pss_cons (ps_if (pt_not (pt_val (pe_call G_l_found (hr.mono (by decide)) (by rfl) T.g_l_found T.k_l_found T.b_l_found .nil passE (pa_cons (pe_ix ix_list (pv 0) (pv 5) (fun _ _ => rfl)) (pa_cons (pe_lc (own := [("_law_stamp", 6)]) (g := (gName 6)) (tt := (tAnd (tTest (tOp (rI0 fun i j => .bl (decide (i ≤ j))) (tVar 4) (tVar 6))) (tTest (tOp (rI0 fun i j => .bl (decide (i ≤ j))) (tVar 6) (tOp (rIxL K) (tVar 3) (tVar 5)))))) rfl sc_l_parts.nd (pi_list (pv 1)) (blkOk_by (N := ["_law_found", "_law_pile", "_law_loose", "_law_ends", "_law_first", "_law_k", "_law_stamp"]) (sc := defScope s_l_parts) (by decide +kernel)) (fun _ _ _ _ _ => (pg_name (i := 6) sc_l_parts.nd rfl (.inl rfl))) (fun _ _ _ _ _ => (pts_one (PW.pt (pw_and (pt_cmpR op_le (pv 4) (pv 6) (nomark _)) (pw_and1 (pt_cmpR op_le (pv 6) (pe_ix ix_list (pv 3) (pv 5) (fun _ _ => rfl)) (nomark _))))))) (fun _ _ _ _ _ => (pv 6))) pa_nil))))) (pss_cons (ps_ret pe_bl)
 pss_nil) pss_nil)
 (pss_cons (ps_set (i := 4) sc_l_parts.nd rfl (.inr rfl) (pe_op op_add (pe_ix ix_list (pv 3) (pv 5) (fun _ _ => rfl)) pe_int))
 pss_nil)))
 (pss_cons (ps_ret pe_bl)
 pss_nil)))))
theorem ok_l_look (T : Txt K mg c A0) : FnOk P w K mg base (L2.CX P w) 4 A0.f_l_look A0.d_l_look ["_law_bench", "_law_pile", "_law_loose", "_law_number_here", "_law_told"] (sp_l_look K c) := by
  have G_Bench_loose := ok_Bench_loose (P := P) (w := w) (base := base) T
  have G_Bench_parts := ok_Bench_parts (P := P) (w := w) (base := base) T
  have G_l_parts := ok_l_parts (P := P) (w := w) (base := base) T
  have G_l_found := ok_l_found (P := P) (w := w) (base := base) T
  refine T.F_l_look.okX sc_l_look (fun vs H Q E h => by first | (obtain ⟨_, rfl, _⟩ := h; rfl) | (obtain ⟨_, _, rfl, _⟩ := h; rfl) | (obtain ⟨_, _, _, rfl, _⟩ := h; rfl) | (obtain ⟨_, _, _, _, rfl, _⟩ := h; rfl) | (obtain ⟨_, _, _, _, _, rfl, _⟩ := h; rfl) | (obtain ⟨_, _, _, _, _, _, rfl, _⟩ := h; rfl) | (obtain ⟨_, _, _, _, _, _, _, rfl, _⟩ := h; rfl) | (obtain ⟨_, _, _, _, _, _, _, _, rfl, _⟩ := h; rfl) | (obtain ⟨_, _, _, _, _, _, _, _, _, rfl, _⟩ := h; rfl) | (obtain ⟨_, _, _, _, _, _, _, _, _, _, rfl, _⟩ := h; rfl) | (obtain ⟨_, _, _, _, _, _, _, _, _, _, _, rfl, _⟩ := h; rfl) | (obtain ⟨_, _, _, _, _, _, _, _, _, _, _, _, rfl, _⟩ := h; rfl) | (obtain ⟨_, _, _, _, _, _, _, _, _, _, _, _, _, rfl, _⟩ := h; rfl) | (obtain ⟨_, _, _, _, _, _, _, _, _, _, _, _, _, _, rfl, _⟩ := h; rfl) | (obtain ⟨_, _, _, _, _, _, _, _, _, _, _, _, _, _, _, rfl, _⟩ := h; rfl)) (fun cdv A outer s H vs Q E hr h => ⟨t_l_look K c E, ?_, read_l_look vs H Q E h⟩)
  exact (pss_cut (ps_if (pt_cmpR op_eq (pe_op op_mod (pv 3) pe_int) pe_int (nomark _)) (pss_cons (ps_set (i := 5) sc_l_look.nd rfl (.inl rfl) (pe_meth0 (pv 0) T.bc.cl T.me_Bench_loose G_Bench_loose (hr.mono (by decide)) T.b_Bench_loose .nil passE))
 (pss_cons (ps_set (i := 6) sc_l_look.nd rfl (.inl rfl) (pe_meth0 (pv 0) T.bc.cl T.me_Bench_parts G_Bench_parts (hr.mono (by decide)) T.b_Bench_parts .nil passE))
 pss_nil)) (pss_cons (ps_set (i := 6) sc_l_look.nd rfl (.inl rfl) (pe_meth0 (pv 0) T.bc.cl T.me_Bench_parts G_Bench_parts (hr.mono (by decide)) T.b_Bench_parts .nil passE))
 (pss_cons (ps_set (i := 5) sc_l_look.nd rfl (.inl rfl) (pe_meth0 (pv 0) T.bc.cl T.me_Bench_loose G_Bench_loose (hr.mono (by decide)) T.b_Bench_loose .nil passE))
 pss_nil)))
 (pss_cons (ps_if (PW.pt (pw_or (pt_not (pt_val (pe_call G_l_found (hr.mono (by decide)) (by rfl) T.g_l_found T.k_l_found T.b_l_found .nil passE (pa_cons (pv 5) (pa_cons (pv 2) pa_nil))))) (pw_or1 (pt_not (pt_val (pe_call G_l_parts (hr.mono (by decide)) (by rfl) T.g_l_parts T.k_l_parts T.b_l_parts .nil passE (pa_cons (pv 6) (pa_cons (pv 1) (pa_cons (pv 2) pa_nil))))))))) (pss_cons (ps_ret pe_bl)
 pss_nil) pss_nil)
 (pss_cut (ps_if (pt_cmpR op_eq (pe_op op_mod (pe_op op_fdiv (pv 3) pe_int) pe_int) pe_int (nomark _)) (pss_cons (ps_expr (pe_bm PySem.F.plainAttrs_list PySem.F.slot_list_append PySem.F.type_list_append mt_append (pv 4) (pa_cons (pe_tup (pa_cons (pv 5) (pa_cons (pe_callTy call_list_of (by rfl) T.m_list (by decide +kernel) (pa_cons (pv 5) pa_nil)) pa_nil))) pa_nil)))
 (pss_cons (ps_expr (pe_bm PySem.F.plainAttrs_list PySem.F.slot_list_append PySem.F.type_list_append mt_append (pv 4) (pa_cons (pe_tup (pa_cons (pv 6) (pa_cons (pe_lc (own := [("_law_part", 7)]) (g := (gName 7)) (tt := tYes) rfl sc_l_look.nd (pi_list (pv 6)) (blkOk_by (N := ["_law_bench", "_law_pile", "_law_loose", "_law_number_here", "_law_told", "_law_some", "_law_parts_here", "_law_part"]) (sc := defScope s_l_look) (by decide +kernel)) (fun _ _ _ _ _ => (pg_name (i := 7) sc_l_look.nd rfl (.inl rfl))) (fun _ _ _ _ _ => pts_nil) (fun _ _ _ _ _ => (pe_callTy call_list_of (by rfl) T.m_list (by decide +kernel) (pa_cons (pv 7) pa_nil)))) pa_nil))) pa_nil)))
 pss_nil)) pss_nil)
 (pss_cons (ps_if (pt_cmpR op_eq (pe_op op_mod (pe_op op_fdiv (pv 3) pe_int) pe_int) pe_int (nomark _)) (pss_cons (ps_expr (pe_bm PySem.F.plainAttrs_list PySem.F.slot_list_append PySem.F.type_list_append mt_append (pv 5) (pa_cons pe_int pa_nil)))
 (pss_cons (ps_expr (pe_bm0 PySem.F.plainAttrs_list PySem.F.slot_list_clear PySem.F.type_list_clear mt_clear (pe_ix ix_list (pv 6) pe_int (fun _ _ => rfl))))
 (pss_cons (ps_expr (pe_bm PySem.F.plainAttrs_list PySem.F.slot_list_append PySem.F.type_list_append mt_append (pv 6) (pa_cons (pe_lst (pa_cons pe_int pa_nil)) pa_nil)))
 pss_nil))) pss_nil)
 (pss_cons (ps_ret pe_bl)
 pss_nil)))))
theorem ok_l_size (T : Txt K mg c A0) : FnOk P w K mg base (L2.CX P w) 1 A0.f_l_size A0.d_l_size ["_law_cell"] (sp_l_size K c) := by
  refine T.F_l_size.okX sc_l_size (fun vs H Q E h => by first | (obtain ⟨_, rfl, _⟩ := h; rfl) | (obtain ⟨_, _, rfl, _⟩ := h; rfl) | (obtain ⟨_, _, _, rfl, _⟩ := h; rfl) | (obtain ⟨_, _, _, _, rfl, _⟩ := h; rfl) | (obtain ⟨_, _, _, _, _, rfl, _⟩ := h; rfl) | (obtain ⟨_, _, _, _, _, _, rfl, _⟩ := h; rfl) | (obtain ⟨_, _, _, _, _, _, _, rfl, _⟩ := h; rfl) | (obtain ⟨_, _, _, _, _, _, _, _, rfl, _⟩ := h; rfl) | (obtain ⟨_, _, _, _, _, _, _, _, _, rfl, _⟩ := h; rfl) | (obtain ⟨_, _, _, _, _, _, _, _, _, _, rfl, _⟩ := h; rfl) | (obtain ⟨_, _, _, _, _, _, _, _, _, _, _, rfl, _⟩ := h; rfl) | (obtain ⟨_, _, _, _, _, _, _, _, _, _, _, _, rfl, _⟩ := h; rfl) | (obtain ⟨_, _, _, _, _, _, _, _, _, _, _, _, _, rfl, _⟩ := h; rfl) | (obtain ⟨_, _, _, _, _, _, _, _, _, _, _, _, _, _, rfl, _⟩ := h; rfl) | (obtain ⟨_, _, _, _, _, _, _, _, _, _, _, _, _, _, _, rfl, _⟩ := h; rfl)) (fun cdv A outer s H vs Q E hr h => ⟨t_l_size30 K c E, ?_, read_l_size30 T.sz vs H Q E h⟩)
  exact (pss_cons (ps_ret (pe_op op_add pe_int (pe_op op_mod (pe_op op_fdiv (pv 0) pe_int) (pe_ix ix_list (pe_lst (pa_cons pe_int (pa_cons pe_int (pa_cons pe_int (pa_cons pe_int (pa_cons pe_int (pa_cons pe_int (pa_cons pe_int (pa_cons pe_int pa_nil))))))))) (pe_op op_mod (pv 0) pe_int) (fun _ _ => rfl)))))
 pss_nil)
theorem ok_law (T : Txt K mg c A0) : FnOk P w K mg base (L2.CX P w) 9 A0.f_law A0.d_law ["_law_script"] (sp_law K c) := by
  have G_Bench_init := ok_Bench_init (P := P) (w := w) (base := base) T
  have G_l_behind := ok_l_behind (P := P) (w := w) (base := base) T
  have G_l_drawn := ok_l_drawn (P := P) (w := w) (base := base) T
  have G_l_good := ok_l_good (P := P) (w := w) (base := base) T
  have G_l_look := ok_l_look (P := P) (w := w) (base := base) T
  have G_l_places := ok_l_places (P := P) (w := w) (base := base) T
  have G_l_size := ok_l_size (P := P) (w := w) (base := base) T
  refine T.F_law.okX sc_law (fun vs H Q E h => by first | (obtain ⟨_, rfl, _⟩ := h; rfl) | (obtain ⟨_, _, rfl, _⟩ := h; rfl) | (obtain ⟨_, _, _, rfl, _⟩ := h; rfl) | (obtain ⟨_, _, _, _, rfl, _⟩ := h; rfl) | (obtain ⟨_, _, _, _, _, rfl, _⟩ := h; rfl) | (obtain ⟨_, _, _, _, _, _, rfl, _⟩ := h; rfl) | (obtain ⟨_, _, _, _, _, _, _, rfl, _⟩ := h; rfl) | (obtain ⟨_, _, _, _, _, _, _, _, rfl, _⟩ := h; rfl) | (obtain ⟨_, _, _, _, _, _, _, _, _, rfl, _⟩ := h; rfl) | (obtain ⟨_, _, _, _, _, _, _, _, _, _, rfl, _⟩ := h; rfl) | (obtain ⟨_, _, _, _, _, _, _, _, _, _, _, rfl, _⟩ := h; rfl) | (obtain ⟨_, _, _, _, _, _, _, _, _, _, _, _, rfl, _⟩ := h; rfl) | (obtain ⟨_, _, _, _, _, _, _, _, _, _, _, _, _, rfl, _⟩ := h; rfl) | (obtain ⟨_, _, _, _, _, _, _, _, _, _, _, _, _, _, rfl, _⟩ := h; rfl) | (obtain ⟨_, _, _, _, _, _, _, _, _, _, _, _, _, _, _, rfl, _⟩ := h; rfl)) (fun cdv A outer s H vs Q E hr h => ⟨t_law_k06 K c E, ?_, read_law_k06 (szok T.sz) T.bc T.kn vs H Q E h⟩)
  exact (pss_cons (ps_set (i := 1) sc_law.nd rfl (.inl rfl) (pe_lst (pa_cons (pe_call G_l_size (hr.mono (by decide)) (by rfl) T.g_l_size T.k_l_size T.b_l_size .nil passE (pa_cons (pe_call G_l_drawn (hr.mono (by decide)) (by rfl) T.g_l_drawn T.k_l_drawn T.b_l_drawn .nil passE (pa_cons (pv 0) (pa_cons pe_int pa_nil))) pa_nil)) (pa_cons (pe_call G_l_size (hr.mono (by decide)) (by rfl) T.g_l_size T.k_l_size T.b_l_size .nil passE (pa_cons (pe_call G_l_drawn (hr.mono (by decide)) (by rfl) T.g_l_drawn T.k_l_drawn T.b_l_drawn .nil passE (pa_cons (pv 0) (pa_cons pe_int pa_nil))) pa_nil)) pa_nil))))
 (pss_cons (ps_set (i := 2) sc_law.nd rfl (.inl rfl) (pe_lst (pa_cons (pe_call G_l_good (hr.mono (by decide)) (by rfl) T.g_l_good T.k_l_good T.b_l_good .nil passE (pa_cons (pv 0) (pa_cons pe_int (pa_cons (pe_ix ix_list (pv 1) pe_int (fun _ _ => rfl)) pa_nil)))) (pa_cons (pe_call G_l_good (hr.mono (by decide)) (by rfl) T.g_l_good T.k_l_good T.b_l_good .nil passE (pa_cons (pv 0) (pa_cons pe_int (pa_cons (pe_ix ix_list (pv 1) pe_int (fun _ _ => rfl)) pa_nil)))) pa_nil))))
 (pss_cons (ps_set (i := 3) sc_law.nd rfl (.inl rfl) (pe_lst (pa_cons (pe_call G_l_places (hr.mono (by decide)) (by rfl) T.g_l_places T.k_l_places T.b_l_places .nil passE (pa_cons (pe_ix ix_list (pv 2) pe_int (fun _ _ => rfl)) pa_nil)) (pa_cons (pe_call G_l_places (hr.mono (by decide)) (by rfl) T.g_l_places T.k_l_places T.b_l_places .nil passE (pa_cons (pe_ix ix_list (pv 2) pe_int (fun _ _ => rfl)) pa_nil)) pa_nil))))
 (pss_cons (ps_set (i := 4) sc_law.nd rfl (.inl rfl) (pe_lst (pa_cons (pe_callTy call_list_of (by rfl) T.m_list (by decide +kernel) (pa_cons (pe_ix ix_list (pv 2) pe_int (fun _ _ => rfl)) pa_nil)) (pa_cons (pe_callTy call_list_of (by rfl) T.m_list (by decide +kernel) (pa_cons (pe_ix ix_list (pv 2) pe_int (fun _ _ => rfl)) pa_nil)) pa_nil))))
 (pss_cons (ps_set (i := 5) sc_law.nd rfl (.inl rfl) (pe_lst (pa_cons (pe_make T.mkB G_Bench_init (hr.mono (by decide)) (by rfl) T.g_Bench T.b_Bench_init .nil passE (pa_cons (pe_ix ix_list (pv 4) pe_int (fun _ _ => rfl)) pa_nil)) (pa_cons (pe_make T.mkB G_Bench_init (hr.mono (by decide)) (by rfl) T.g_Bench T.b_Bench_init .nil passE (pa_cons (pe_ix ix_list (pv 4) pe_int (fun _ _ => rfl)) pa_nil)) pa_nil))))
 (pss_cons (ps_if (pt_cmpR (op_neD hr.units) (pv 4) (pv 2) (nomark _)) (pss_cons (ps_ret pe_bl)
 pss_nil) pss_nil)
 (pss_cons (ps_expr (pe_bm0 PySem.F.plainAttrs_list PySem.F.slot_list_reverse PySem.F.type_list_reverse mt_reverse (pe_ix ix_list (pv 4) pe_int (fun _ _ => rfl))))
 (pss_cons (ps_expr (pe_bm0 PySem.F.plainAttrs_list PySem.F.slot_list_clear PySem.F.type_list_clear mt_clear (pe_ix ix_list (pv 4) pe_int (fun _ _ => rfl))))
 (pss_cons (ps_set (i := 6) sc_law.nd rfl (.inl rfl) (pe_lst (pa_cons (pe_lst pa_nil) (pa_cons (pe_lst pa_nil) pa_nil))))
 (pss_cons (ps_set (i := 7) sc_law.nd rfl (.inl rfl) (pe_lst pa_nil))
 (pss_cons (ps_for (passes_of rfl) rfl (pi_list (pe_slice sl_list (pv 0) (po_some pe_int) (po_some pe_int))) (pg_name (i := 8) sc_law.nd rfl (.inl rfl)) (pss_cons (ps_set (i := 9) sc_law.nd rfl (.inl rfl) (pe_op op_mod (pv 8) pe_int))
 (pss_cons (ps_set (i := 10) sc_law.nd rfl (.inl rfl) (pe_op op_mod (pe_op op_mul (pe_op op_fdiv (pv 8) pe_int) pe_int) pe_int))
 (pss_cons (ps_set (i := 11) sc_law.nd rfl (.inl rfl) (pe_call G_l_behind (hr.mono (by decide)) (by rfl) T.g_l_behind T.k_l_behind T.b_l_behind .nil passE (pa_cons (pe_ix ix_list (pv 5) (pv 9) (fun _ _ => rfl)) (pa_cons (pe_ix ix_list (pv 3) (pv 9) (fun _ _ => rfl)) (pa_cons (pe_ix ix_list (pv 6) (pv 9) (fun _ _ => rfl)) (pa_cons (pv 10) pa_nil))))))
 (pss_cons (ps_if (pt_cmpR op_isN1 (pv 11) pe_non (nomark _)) (pss_cons (ps_ret pe_bl)
 pss_nil) pss_nil)
 (pss_cons (ps_asg (pv 11) (pg_sub (pv 6) (pv 9) set_list))
 (pss_cons (ps_set (i := 12) sc_law.nd rfl (.inl rfl) (pe_lst (pa_cons (pv 9) pa_nil)))
 (pss_cut (ps_if (pt_cmpR op_eq (pe_op op_mod (pe_op op_fdiv (pv 10) pe_int) pe_int) pe_int (nomark _)) (pss_cons (ps_set (i := 12) sc_law.nd rfl (.inl rfl) (pe_lst (pa_cons (pe_op op_sub pe_int (pv 9)) (pa_cons (pv 9) pa_nil))))
 pss_nil) pss_nil)
 (pss_cons (ps_for (passes_of rfl) rfl (pi_list (pv 12)) (pg_name (i := 13) sc_law.nd rfl (.inl rfl)) (pss_cons (ps_if (pt_not (pt_val (pe_call G_l_look (hr.mono (by decide)) (by rfl) T.g_l_look T.k_l_look T.b_l_look .nil passE (pa_cons (pe_ix ix_list (pv 5) (pv 13) (fun _ _ => rfl)) (pa_cons (pe_ix ix_list (pv 2) (pv 13) (fun _ _ => rfl)) (pa_cons (pe_ix ix_list (pv 6) (pv 13) (fun _ _ => rfl)) (pa_cons (pe_op op_fdiv (pv 10) pe_int) (pa_cons (pv 7) pa_nil)))))))) (pss_cons (ps_ret pe_bl)
 pss_nil) pss_nil)
 pss_nil))
 pss_nil)))))))))
 (pss_cons (ps_for (passes_of rfl) rfl (pi_range1 (by rfl) T.m_range (pa_cons pe_int pa_nil)) (pg_name (i := 13) sc_law.nd rfl (.inl rfl)) (pss_cons (ps_if (pt_not (pt_val (pe_call G_l_look (hr.mono (by decide)) (by rfl) T.g_l_look T.k_l_look T.b_l_look .nil passE (pa_cons (pe_ix ix_list (pv 5) (pv 13) (fun _ _ => rfl)) (pa_cons (pe_ix ix_list (pv 2) (pv 13) (fun _ _ => rfl)) (pa_cons (pe_ix ix_list (pv 6) (pv 13) (fun _ _ => rfl)) (pa_cons pe_int (pa_cons (pv 7) pa_nil)))))))) (pss_cons (ps_ret pe_bl)
 pss_nil) pss_nil)
 pss_nil))
 (pss_cons (ps_for (passes_of rfl) rfl (pi_list (pv 7)) (pg_tup rfl (pgs_cons (pg_name (i := 14) sc_law.nd rfl (.inl rfl)) (pgs_cons (pg_name (i := 15) sc_law.nd rfl (.inl rfl)) pgs_nil))) (pss_cons (ps_if (pt_cmpR (op_neD hr.units) (pv 14) (pv 15) (nomark _)) (pss_cons (ps_ret pe_bl)
 pss_nil) pss_nil)
 pss_nil))
 (pss_cons (ps_ret pe_bl)
 pss_nil))))))))))))))
end
theorem all_mk {l : PySem.W.OpenLaw} {w : World} {K : PySem.W.Frag} {h : Heap} {mg : Str → Option Value} {fa : Addr} (X : K.In h) (G : h.Ns mainGlobals mg) (hfa : mg "law" = some (.ref fa))
    {Be : Addr}
    {f0 : Addr} {od0 an0 : Option Addr} {sl0 : Array (Option Value)} {oc0 kV0 dc0 pm0 cd0 ct0 : Value}
    (a0 : PySem.W.nsIn K mainGlobals "places" = some (some (.ref f0))) (l0 : K.lookup f0 = some ⟨oc0, od0, .func (PySem.W.fnOf "places" "places" (defArgs s_places) (defBody s_places) (defScope s_places) .none kV0 dc0 pm0 an0 cd0 ct0), sl0⟩) (c0 : PySem.W.codeIn K cd0 "places" = true) (k0 : PySem.W.keepIn K (.ref f0) = true)
    {f1 : Addr} {od1 an1 : Option Addr} {sl1 : Array (Option Value)} {oc1 kV1 dc1 pm1 cd1 ct1 : Value}
    (a1 : PySem.W.nsIn K mainGlobals "wraps" = some (some (.ref f1))) (l1 : K.lookup f1 = some ⟨oc1, od1, .func (PySem.W.fnOf "wraps" "wraps" (defArgs s_wraps) (defBody s_wraps) (defScope s_wraps) .none kV1 dc1 pm1 an1 cd1 ct1), sl1⟩) (c1 : PySem.W.codeIn K cd1 "wraps" = true) (k1 : PySem.W.keepIn K (.ref f1) = true)
    {f2 : Addr} {od2 an2 : Option Addr} {sl2 : Array (Option Value)} {oc2 kV2 dc2 pm2 cd2 ct2 : Value}
    (a2 : PySem.W.nsIn K mainGlobals "crossing" = some (some (.ref f2))) (l2 : K.lookup f2 = some ⟨oc2, od2, .func (PySem.W.fnOf "crossing" "crossing" (defArgs s_crossing) (defBody s_crossing) (defScope s_crossing) .none kV2 dc2 pm2 an2 cd2 ct2), sl2⟩) (c2 : PySem.W.codeIn K cd2 "crossing" = true) (k2 : PySem.W.keepIn K (.ref f2) = true)
    {f3 : Addr} {od3 an3 : Option Addr} {sl3 : Array (Option Value)} {oc3 kV3 dc3 pm3 cd3 ct3 : Value}
    (a3 : PySem.W.nsIn K mainGlobals "judged" = some (some (.ref f3))) (l3 : K.lookup f3 = some ⟨oc3, od3, .func (PySem.W.fnOf "judged" "judged" (defArgs s_judged) (defBody s_judged) (defScope s_judged) .none kV3 dc3 pm3 an3 cd3 ct3), sl3⟩) (c3 : PySem.W.codeIn K cd3 "judged" = true) (k3 : PySem.W.keepIn K (.ref f3) = true)
    {f4 : Addr} {od4 an4 : Option Addr} {sl4 : Array (Option Value)} {oc4 kV4 dc4 pm4 cd4 ct4 : Value}
    (a4 : PySem.W.findIn K (.ref Be) "__init__" = some (some (.ref f4))) (l4 : K.lookup f4 = some ⟨oc4, od4, .func (PySem.W.fnOf "__init__" "Bench.__init__" (defArgs s_Bench_init) (defBody s_Bench_init) (defScope s_Bench_init) .none kV4 dc4 pm4 an4 cd4 ct4), sl4⟩) (c4 : PySem.W.codeIn K cd4 "Bench.__init__" = true) (k4 : PySem.W.keepIn K (.ref f4) = true)
    (i4 : PySem.W.isFn K (.ref f4) = true)
    {f5 : Addr} {od5 an5 : Option Addr} {sl5 : Array (Option Value)} {oc5 kV5 dc5 pm5 cd5 ct5 : Value}
    (a5 : PySem.W.nsIn K mainGlobals "_law_creases" = some (some (.ref f5))) (l5 : K.lookup f5 = some ⟨oc5, od5, .func (PySem.W.fnOf "_law_creases" "_law_creases" (defArgs s_l_creases) (defBody s_l_creases) (defScope s_l_creases) .none kV5 dc5 pm5 an5 cd5 ct5), sl5⟩) (c5 : PySem.W.codeIn K cd5 "_law_creases" = true) (k5 : PySem.W.keepIn K (.ref f5) = true)
    {f6 : Addr} {od6 an6 : Option Addr} {sl6 : Array (Option Value)} {oc6 kV6 dc6 pm6 cd6 ct6 : Value}
    (a6 : PySem.W.nsIn K mainGlobals "held" = some (some (.ref f6))) (l6 : K.lookup f6 = some ⟨oc6, od6, .func (PySem.W.fnOf "held" "held" (defArgs s_held) (defBody s_held) (defScope s_held) .none kV6 dc6 pm6 an6 cd6 ct6), sl6⟩) (c6 : PySem.W.codeIn K cd6 "held" = true) (k6 : PySem.W.keepIn K (.ref f6) = true)
    {f7 : Addr} {od7 an7 : Option Addr} {sl7 : Array (Option Value)} {oc7 kV7 dc7 pm7 cd7 ct7 : Value}
    (a7 : PySem.W.nsIn K mainGlobals "lies_free" = some (some (.ref f7))) (l7 : K.lookup f7 = some ⟨oc7, od7, .func (PySem.W.fnOf "lies_free" "lies_free" (defArgs s_lies_free) (defBody s_lies_free) (defScope s_lies_free) .none kV7 dc7 pm7 an7 cd7 ct7), sl7⟩) (c7 : PySem.W.codeIn K cd7 "lies_free" = true) (k7 : PySem.W.keepIn K (.ref f7) = true)
    {f8 : Addr} {od8 an8 : Option Addr} {sl8 : Array (Option Value)} {oc8 kV8 dc8 pm8 cd8 ct8 : Value}
    (a8 : PySem.W.nsIn K mainGlobals "parts_of" = some (some (.ref f8))) (l8 : K.lookup f8 = some ⟨oc8, od8, .func (PySem.W.fnOf "parts_of" "parts_of" (defArgs s_parts_of) (defBody s_parts_of) (defScope s_parts_of) .none kV8 dc8 pm8 an8 cd8 ct8), sl8⟩) (c8 : PySem.W.codeIn K cd8 "parts_of" = true) (k8 : PySem.W.keepIn K (.ref f8) = true)
    {f9 : Addr} {od9 an9 : Option Addr} {sl9 : Array (Option Value)} {oc9 kV9 dc9 pm9 cd9 ct9 : Value}
    (a9 : PySem.W.nsIn K mainGlobals "are_free" = some (some (.ref f9))) (l9 : K.lookup f9 = some ⟨oc9, od9, .func (PySem.W.fnOf "are_free" "are_free" (defArgs s_are_free) (defBody s_are_free) (defScope s_are_free) .none kV9 dc9 pm9 an9 cd9 ct9), sl9⟩) (c9 : PySem.W.codeIn K cd9 "are_free" = true) (k9 : PySem.W.keepIn K (.ref f9) = true)
    {f10 : Addr} {od10 an10 : Option Addr} {sl10 : Array (Option Value)} {oc10 kV10 dc10 pm10 cd10 ct10 : Value}
    (a10 : PySem.W.findIn K (.ref Be) "settle" = some (some (.ref f10))) (l10 : K.lookup f10 = some ⟨oc10, od10, .func (PySem.W.fnOf "settle" "Bench.settle" (defArgs s_Bench_settle) (defBody s_Bench_settle) (defScope s_Bench_settle) .none kV10 dc10 pm10 an10 cd10 ct10), sl10⟩) (c10 : PySem.W.codeIn K cd10 "Bench.settle" = true) (k10 : PySem.W.keepIn K (.ref f10) = true)
    (i10 : PySem.W.isFn K (.ref f10) = true)
    {f11 : Addr} {od11 an11 : Option Addr} {sl11 : Array (Option Value)} {oc11 kV11 dc11 pm11 cd11 ct11 : Value}
    (a11 : PySem.W.nsIn K mainGlobals "look_at_creases" = some (some (.ref f11))) (l11 : K.lookup f11 = some ⟨oc11, od11, .func (PySem.W.fnOf "look_at_creases" "look_at_creases" (defArgs s_look_at_creases) (defBody s_look_at_creases) (defScope s_look_at_creases) .none kV11 dc11 pm11 an11 cd11 ct11), sl11⟩) (c11 : PySem.W.codeIn K cd11 "look_at_creases" = true) (k11 : PySem.W.keepIn K (.ref f11) = true)
    {f12 : Addr} {od12 an12 : Option Addr} {sl12 : Array (Option Value)} {oc12 kV12 dc12 pm12 cd12 ct12 : Value}
    (a12 : PySem.W.findIn K (.ref Be) "draw" = some (some (.ref f12))) (l12 : K.lookup f12 = some ⟨oc12, od12, .func (PySem.W.fnOf "draw" "Bench.draw" (defArgs s_Bench_draw) (defBody s_Bench_draw) (defScope s_Bench_draw) .none kV12 dc12 pm12 an12 cd12 ct12), sl12⟩) (c12 : PySem.W.codeIn K cd12 "Bench.draw" = true) (k12 : PySem.W.keepIn K (.ref f12) = true)
    (i12 : PySem.W.isFn K (.ref f12) = true)
    {f13 : Addr} {od13 an13 : Option Addr} {sl13 : Array (Option Value)} {oc13 kV13 dc13 pm13 cd13 ct13 : Value}
    (a13 : PySem.W.findIn K (.ref Be) "press" = some (some (.ref f13))) (l13 : K.lookup f13 = some ⟨oc13, od13, .func (PySem.W.fnOf "press" "Bench.press" (defArgs s_Bench_press) (defBody s_Bench_press) (defScope s_Bench_press) .none kV13 dc13 pm13 an13 cd13 ct13), sl13⟩) (c13 : PySem.W.codeIn K cd13 "Bench.press" = true) (k13 : PySem.W.keepIn K (.ref f13) = true)
    (i13 : PySem.W.isFn K (.ref f13) = true)
    {f14 : Addr} {od14 an14 : Option Addr} {sl14 : Array (Option Value)} {oc14 kV14 dc14 pm14 cd14 ct14 : Value}
    (a14 : PySem.W.nsIn K mainGlobals "_law_word_of" = some (some (.ref f14))) (l14 : K.lookup f14 = some ⟨oc14, od14, .func (PySem.W.fnOf "_law_word_of" "_law_word_of" (defArgs s_l_word_of) (defBody s_l_word_of) (defScope s_l_word_of) .none kV14 dc14 pm14 an14 cd14 ct14), sl14⟩) (c14 : PySem.W.codeIn K cd14 "_law_word_of" = true) (k14 : PySem.W.keepIn K (.ref f14) = true)
    {f15 : Addr} {od15 an15 : Option Addr} {sl15 : Array (Option Value)} {oc15 kV15 dc15 pm15 cd15 ct15 : Value}
    (a15 : PySem.W.nsIn K mainGlobals "_law_done" = some (some (.ref f15))) (l15 : K.lookup f15 = some ⟨oc15, od15, .func (PySem.W.fnOf "_law_done" "_law_done" (defArgs s_l_done) (defBody s_l_done) (defScope s_l_done) .none kV15 dc15 pm15 an15 cd15 ct15), sl15⟩) (c15 : PySem.W.codeIn K cd15 "_law_done" = true) (k15 : PySem.W.keepIn K (.ref f15) = true)
    {f16 : Addr} {od16 an16 : Option Addr} {sl16 : Array (Option Value)} {oc16 kV16 dc16 pm16 cd16 ct16 : Value}
    (a16 : PySem.W.nsIn K mainGlobals "_law_wraps" = some (some (.ref f16))) (l16 : K.lookup f16 = some ⟨oc16, od16, .func (PySem.W.fnOf "_law_wraps" "_law_wraps" (defArgs s_l_wraps) (defBody s_l_wraps) (defScope s_l_wraps) .none kV16 dc16 pm16 an16 cd16 ct16), sl16⟩) (c16 : PySem.W.codeIn K cd16 "_law_wraps" = true) (k16 : PySem.W.keepIn K (.ref f16) = true)
    {f17 : Addr} {od17 an17 : Option Addr} {sl17 : Array (Option Value)} {oc17 kV17 dc17 pm17 cd17 ct17 : Value}
    (a17 : PySem.W.nsIn K mainGlobals "_law_held" = some (some (.ref f17))) (l17 : K.lookup f17 = some ⟨oc17, od17, .func (PySem.W.fnOf "_law_held" "_law_held" (defArgs s_l_held) (defBody s_l_held) (defScope s_l_held) .none kV17 dc17 pm17 an17 cd17 ct17), sl17⟩) (c17 : PySem.W.codeIn K cd17 "_law_held" = true) (k17 : PySem.W.keepIn K (.ref f17) = true)
    {f18 : Addr} {od18 an18 : Option Addr} {sl18 : Array (Option Value)} {oc18 kV18 dc18 pm18 cd18 ct18 : Value}
    (a18 : PySem.W.nsIn K mainGlobals "_law_free" = some (some (.ref f18))) (l18 : K.lookup f18 = some ⟨oc18, od18, .func (PySem.W.fnOf "_law_free" "_law_free" (defArgs s_l_free) (defBody s_l_free) (defScope s_l_free) .none kV18 dc18 pm18 an18 cd18 ct18), sl18⟩) (c18 : PySem.W.codeIn K cd18 "_law_free" = true) (k18 : PySem.W.keepIn K (.ref f18) = true)
    {f19 : Addr} {od19 an19 : Option Addr} {sl19 : Array (Option Value)} {oc19 kV19 dc19 pm19 cd19 ct19 : Value}
    (a19 : PySem.W.nsIn K mainGlobals "_law_due" = some (some (.ref f19))) (l19 : K.lookup f19 = some ⟨oc19, od19, .func (PySem.W.fnOf "_law_due" "_law_due" (defArgs s_l_due) (defBody s_l_due) (defScope s_l_due) .none kV19 dc19 pm19 an19 cd19 ct19), sl19⟩) (c19 : PySem.W.codeIn K cd19 "_law_due" = true) (k19 : PySem.W.keepIn K (.ref f19) = true)
    {f20 : Addr} {od20 an20 : Option Addr} {sl20 : Array (Option Value)} {oc20 kV20 dc20 pm20 cd20 ct20 : Value}
    (a20 : PySem.W.nsIn K mainGlobals "_law_behind" = some (some (.ref f20))) (l20 : K.lookup f20 = some ⟨oc20, od20, .func (PySem.W.fnOf "_law_behind" "_law_behind" (defArgs s_l_behind) (defBody s_l_behind) (defScope s_l_behind) .none kV20 dc20 pm20 an20 cd20 ct20), sl20⟩) (c20 : PySem.W.codeIn K cd20 "_law_behind" = true) (k20 : PySem.W.keepIn K (.ref f20) = true)
    {f21 : Addr} {od21 an21 : Option Addr} {sl21 : Array (Option Value)} {oc21 kV21 dc21 pm21 cd21 ct21 : Value}
    (a21 : PySem.W.nsIn K mainGlobals "_law_drawn" = some (some (.ref f21))) (l21 : K.lookup f21 = some ⟨oc21, od21, .func (PySem.W.fnOf "_law_drawn" "_law_drawn" (defArgs s_l_drawn) (defBody s_l_drawn) (defScope s_l_drawn) .none kV21 dc21 pm21 an21 cd21 ct21), sl21⟩) (c21 : PySem.W.codeIn K cd21 "_law_drawn" = true) (k21 : PySem.W.keepIn K (.ref f21) = true)
    {f22 : Addr} {od22 an22 : Option Addr} {sl22 : Array (Option Value)} {oc22 kV22 dc22 pm22 cd22 ct22 : Value}
    (a22 : PySem.W.nsIn K mainGlobals "_law_fits" = some (some (.ref f22))) (l22 : K.lookup f22 = some ⟨oc22, od22, .func (PySem.W.fnOf "_law_fits" "_law_fits" (defArgs s_l_fits) (defBody s_l_fits) (defScope s_l_fits) .none kV22 dc22 pm22 an22 cd22 ct22), sl22⟩) (c22 : PySem.W.codeIn K cd22 "_law_fits" = true) (k22 : PySem.W.keepIn K (.ref f22) = true)
    {f23 : Addr} {od23 an23 : Option Addr} {sl23 : Array (Option Value)} {oc23 kV23 dc23 pm23 cd23 ct23 : Value}
    (a23 : PySem.W.nsIn K mainGlobals "_law_number" = some (some (.ref f23))) (l23 : K.lookup f23 = some ⟨oc23, od23, .func (PySem.W.fnOf "_law_number" "_law_number" (defArgs s_l_number) (defBody s_l_number) (defScope s_l_number) .none kV23 dc23 pm23 an23 cd23 ct23), sl23⟩) (c23 : PySem.W.codeIn K cd23 "_law_number" = true) (k23 : PySem.W.keepIn K (.ref f23) = true)
    {f24 : Addr} {od24 an24 : Option Addr} {sl24 : Array (Option Value)} {oc24 kV24 dc24 pm24 cd24 ct24 : Value}
    (a24 : PySem.W.nsIn K mainGlobals "_law_places" = some (some (.ref f24))) (l24 : K.lookup f24 = some ⟨oc24, od24, .func (PySem.W.fnOf "_law_places" "_law_places" (defArgs s_l_places) (defBody s_l_places) (defScope s_l_places) .none kV24 dc24 pm24 an24 cd24 ct24), sl24⟩) (c24 : PySem.W.codeIn K cd24 "_law_places" = true) (k24 : PySem.W.keepIn K (.ref f24) = true)
    {f25 : Addr} {od25 an25 : Option Addr} {sl25 : Array (Option Value)} {oc25 kV25 dc25 pm25 cd25 ct25 : Value}
    (a25 : PySem.W.nsIn K mainGlobals "_law_good" = some (some (.ref f25))) (l25 : K.lookup f25 = some ⟨oc25, od25, .func (PySem.W.fnOf "_law_good" "_law_good" (defArgs s_l_good) (defBody s_l_good) (defScope s_l_good) .none kV25 dc25 pm25 an25 cd25 ct25), sl25⟩) (c25 : PySem.W.codeIn K cd25 "_law_good" = true) (k25 : PySem.W.keepIn K (.ref f25) = true)
    {f26 : Addr} {od26 an26 : Option Addr} {sl26 : Array (Option Value)} {oc26 kV26 dc26 pm26 cd26 ct26 : Value}
    (a26 : PySem.W.findIn K (.ref Be) "loose" = some (some (.ref f26))) (l26 : K.lookup f26 = some ⟨oc26, od26, .func (PySem.W.fnOf "loose" "Bench.loose" (defArgs s_Bench_loose) (defBody s_Bench_loose) (defScope s_Bench_loose) .none kV26 dc26 pm26 an26 cd26 ct26), sl26⟩) (c26 : PySem.W.codeIn K cd26 "Bench.loose" = true) (k26 : PySem.W.keepIn K (.ref f26) = true)
    (i26 : PySem.W.isFn K (.ref f26) = true)
    {f27 : Addr} {od27 an27 : Option Addr} {sl27 : Array (Option Value)} {oc27 kV27 dc27 pm27 cd27 ct27 : Value}
    (a27 : PySem.W.findIn K (.ref Be) "parts" = some (some (.ref f27))) (l27 : K.lookup f27 = some ⟨oc27, od27, .func (PySem.W.fnOf "parts" "Bench.parts" (defArgs s_Bench_parts) (defBody s_Bench_parts) (defScope s_Bench_parts) .none kV27 dc27 pm27 an27 cd27 ct27), sl27⟩) (c27 : PySem.W.codeIn K cd27 "Bench.parts" = true) (k27 : PySem.W.keepIn K (.ref f27) = true)
    (i27 : PySem.W.isFn K (.ref f27) = true)
    {f28 : Addr} {od28 an28 : Option Addr} {sl28 : Array (Option Value)} {oc28 kV28 dc28 pm28 cd28 ct28 : Value}
    (a28 : PySem.W.nsIn K mainGlobals "_law_counts" = some (some (.ref f28))) (l28 : K.lookup f28 = some ⟨oc28, od28, .func (PySem.W.fnOf "_law_counts" "_law_counts" (defArgs s_l_counts) (defBody s_l_counts) (defScope s_l_counts) .none kV28 dc28 pm28 an28 cd28 ct28), sl28⟩) (c28 : PySem.W.codeIn K cd28 "_law_counts" = true) (k28 : PySem.W.keepIn K (.ref f28) = true)
    {f29 : Addr} {od29 an29 : Option Addr} {sl29 : Array (Option Value)} {oc29 kV29 dc29 pm29 cd29 ct29 : Value}
    (a29 : PySem.W.nsIn K mainGlobals "_law_row" = some (some (.ref f29))) (l29 : K.lookup f29 = some ⟨oc29, od29, .func (PySem.W.fnOf "_law_row" "_law_row" (defArgs s_l_found) (defBody s_l_found) (defScope s_l_found) .none kV29 dc29 pm29 an29 cd29 ct29), sl29⟩) (c29 : PySem.W.codeIn K cd29 "_law_row" = true) (k29 : PySem.W.keepIn K (.ref f29) = true)
    {f30 : Addr} {od30 an30 : Option Addr} {sl30 : Array (Option Value)} {oc30 kV30 dc30 pm30 cd30 ct30 : Value}
    (a30 : PySem.W.nsIn K mainGlobals "_law_parts" = some (some (.ref f30))) (l30 : K.lookup f30 = some ⟨oc30, od30, .func (PySem.W.fnOf "_law_parts" "_law_parts" (defArgs s_l_parts) (defBody s_l_parts) (defScope s_l_parts) .none kV30 dc30 pm30 an30 cd30 ct30), sl30⟩) (c30 : PySem.W.codeIn K cd30 "_law_parts" = true) (k30 : PySem.W.keepIn K (.ref f30) = true)
    {f31 : Addr} {od31 an31 : Option Addr} {sl31 : Array (Option Value)} {oc31 kV31 dc31 pm31 cd31 ct31 : Value}
    (a31 : PySem.W.nsIn K mainGlobals "_law_look" = some (some (.ref f31))) (l31 : K.lookup f31 = some ⟨oc31, od31, .func (PySem.W.fnOf "_law_look" "_law_look" (defArgs s_l_look) (defBody s_l_look) (defScope s_l_look) .none kV31 dc31 pm31 an31 cd31 ct31), sl31⟩) (c31 : PySem.W.codeIn K cd31 "_law_look" = true) (k31 : PySem.W.keepIn K (.ref f31) = true)
    {f32 : Addr} {od32 an32 : Option Addr} {sl32 : Array (Option Value)} {oc32 kV32 dc32 pm32 cd32 ct32 : Value}
    (a32 : PySem.W.nsIn K mainGlobals "_law_size" = some (some (.ref f32))) (l32 : K.lookup f32 = some ⟨oc32, od32, .func (PySem.W.fnOf "_law_size" "_law_size" (defArgs s_l_size) (defBody s_l_size) (defScope s_l_size) .none kV32 dc32 pm32 an32 cd32 ct32), sl32⟩) (c32 : PySem.W.codeIn K cd32 "_law_size" = true) (k32 : PySem.W.keepIn K (.ref f32) = true)
    {f33 : Addr} {od33 an33 : Option Addr} {sl33 : Array (Option Value)} {oc33 kV33 dc33 pm33 cd33 ct33 : Value}
    (a33 : PySem.W.nsIn K mainGlobals "law" = some (some (.ref f33))) (l33 : K.lookup f33 = some ⟨oc33, od33, .func (PySem.W.fnOf "law" "law" (defArgs s_law) (defBody s_law) (defScope s_law) .none kV33 dc33 pm33 an33 cd33 ct33), sl33⟩) (c33 : PySem.W.codeIn K cd33 "law" = true) (k33 : PySem.W.keepIn K (.ref f33) = true)
    (bpg : PySem.W.plainGet K Be Str.empty = true) (bhd : PySem.W.hasDictIn K Be = true) (bpo : PySem.W.plainOver K Be = true) (bsa : PySem.W.findIn K (.ref Be) "__setattr__" = some (some (.builtin "object.__setattr__"))) (bmk : PySem.W.makesIn K Be = true) (bkc : PySem.W.keepIn K (.ref Be) = true)
    (bnA : PySem.W.findIn K (.ref Be) "at" = some none) (bnO : PySem.W.findIn K (.ref Be) "order" = some none) (bnD : PySem.W.findIn K (.ref Be) "drawn" = some none) (baC : PySem.W.nsIn K mainGlobals "Bench" = some (some (.ref Be)))
    (z_ValueError : PySem.W.nsIn K mainGlobals "ValueError" = some none)
    (z_enumerate : PySem.W.nsIn K mainGlobals "enumerate" = some none)
    (z_int : PySem.W.nsIn K mainGlobals "int" = some none)
    (z_isinstance : PySem.W.nsIn K mainGlobals "isinstance" = some none)
    (z_len : PySem.W.nsIn K mainGlobals "len" = some none)
    (z_list : PySem.W.nsIn K mainGlobals "list" = some none)
    (z_max : PySem.W.nsIn K mainGlobals "max" = some none)
    (z_min : PySem.W.nsIn K mainGlobals "min" = some none)
    (z_range : PySem.W.nsIn K mainGlobals "range" = some none)
    (z_set : PySem.W.nsIn K mainGlobals "set" = some none)
    (z_sorted : PySem.W.nsIn K mainGlobals "sorted" = some none)
    (z_tuple : PySem.W.nsIn K mainGlobals "tuple" = some none)
    {C_NoCrease : Addr} (e_NoCrease : PySem.W.nsIn K mainGlobals "NoCrease" = some (some (.ref C_NoCrease))) (x_NoCrease : PySem.W.excIn K C_NoCrease [.type "ValueError", .type "Exception", .type "BaseException", .type "object"] "ValueError.__new__" = true) (kx_NoCrease : PySem.W.keepIn K (.ref C_NoCrease) = true) (bx_NoCrease : PySem.W.subIn K (.ref C_NoCrease) (.type "BaseException") = some true) (ty_NoCrease : PySem.W.typeIn K (.ref C_NoCrease) = some (.type "type"))
    {C_NoPile : Addr} (e_NoPile : PySem.W.nsIn K mainGlobals "NoPile" = some (some (.ref C_NoPile))) (x_NoPile : PySem.W.excIn K C_NoPile [.type "ValueError", .type "Exception", .type "BaseException", .type "object"] "ValueError.__new__" = true) (kx_NoPile : PySem.W.keepIn K (.ref C_NoPile) = true) (bx_NoPile : PySem.W.subIn K (.ref C_NoPile) (.type "BaseException") = some true) (ty_NoPile : PySem.W.typeIn K (.ref C_NoPile) = some (.type "type"))
    {C_Stuck : Addr} (e_Stuck : PySem.W.nsIn K mainGlobals "Stuck" = some (some (.ref C_Stuck))) (x_Stuck : PySem.W.excIn K C_Stuck [.type "ValueError", .type "Exception", .type "BaseException", .type "object"] "ValueError.__new__" = true) (kx_Stuck : PySem.W.keepIn K (.ref C_Stuck) = true) (bx_Stuck : PySem.W.subIn K (.ref C_Stuck) (.type "BaseException") = some true) (ty_Stuck : PySem.W.typeIn K (.ref C_Stuck) = some (.type "type"))
    {C_Crossing : Addr} (e_Crossing : PySem.W.nsIn K mainGlobals "Crossing" = some (some (.ref C_Crossing)))
    {C_NoCount : Addr} (e_NoCount : PySem.W.nsIn K mainGlobals "NoCount" = some (some (.ref C_NoCount)))
    {C_NoLetters : Addr} (e_NoLetters : PySem.W.nsIn K mainGlobals "NoLetters" = some (some (.ref C_NoLetters)))
    {C_StripError : Addr} (e_StripError : PySem.W.nsIn K mainGlobals "StripError" = some (some (.ref C_StripError)))
    (q_NoCrease : kindB K C_NoPile C_Crossing C_NoCrease C_NoLetters C_NoCount C_Stuck C_StripError C_NoCrease 2 = true)
    (q_Stuck : kindB K C_NoPile C_Crossing C_NoCrease C_NoLetters C_NoCount C_Stuck C_StripError C_Stuck 5 = true)
    : ∃ fd : FuncData, (∀ (s : Shared) (v : Value), BindsTo s fd ⟨[v], []⟩ [("_law_script", v)]) ∧ ∀ base : Heap, K.In base → base.Ns mainGlobals mg → FnOk l.prog w K mg base (L2.CX l.prog w) 9 fa fd ["_law_script"] (spLaw K) := by
  have e := hfa.symm.trans (PySem.W.mg_of X G a33)
  cases e
  let c : Cs := { np := C_NoPile, nc := C_NoCrease, nl := C_NoLetters, nn := C_NoCount, st := C_Stuck, cr := C_Crossing, se := C_StripError, sz := [5, 9, 13, 4, 9, 7, 13, 30], be := Be, tb := 0 }
  let A : Ad := { f_places := f0, d_places := PySem.W.fnOf "places" "places" (defArgs s_places) (defBody s_places) (defScope s_places) .none kV0 dc0 pm0 an0 cd0 ct0, f_wraps := f1, d_wraps := PySem.W.fnOf "wraps" "wraps" (defArgs s_wraps) (defBody s_wraps) (defScope s_wraps) .none kV1 dc1 pm1 an1 cd1 ct1, f_crossing := f2, d_crossing := PySem.W.fnOf "crossing" "crossing" (defArgs s_crossing) (defBody s_crossing) (defScope s_crossing) .none kV2 dc2 pm2 an2 cd2 ct2, f_judged := f3, d_judged := PySem.W.fnOf "judged" "judged" (defArgs s_judged) (defBody s_judged) (defScope s_judged) .none kV3 dc3 pm3 an3 cd3 ct3, f_Bench_init := f4, d_Bench_init := PySem.W.fnOf "__init__" "Bench.__init__" (defArgs s_Bench_init) (defBody s_Bench_init) (defScope s_Bench_init) .none kV4 dc4 pm4 an4 cd4 ct4, f_l_creases := f5, d_l_creases := PySem.W.fnOf "_law_creases" "_law_creases" (defArgs s_l_creases) (defBody s_l_creases) (defScope s_l_creases) .none kV5 dc5 pm5 an5 cd5 ct5, f_held := f6, d_held := PySem.W.fnOf "held" "held" (defArgs s_held) (defBody s_held) (defScope s_held) .none kV6 dc6 pm6 an6 cd6 ct6, f_lies_free := f7, d_lies_free := PySem.W.fnOf "lies_free" "lies_free" (defArgs s_lies_free) (defBody s_lies_free) (defScope s_lies_free) .none kV7 dc7 pm7 an7 cd7 ct7, f_parts_of := f8, d_parts_of := PySem.W.fnOf "parts_of" "parts_of" (defArgs s_parts_of) (defBody s_parts_of) (defScope s_parts_of) .none kV8 dc8 pm8 an8 cd8 ct8, f_are_free := f9, d_are_free := PySem.W.fnOf "are_free" "are_free" (defArgs s_are_free) (defBody s_are_free) (defScope s_are_free) .none kV9 dc9 pm9 an9 cd9 ct9, f_Bench_settle := f10, d_Bench_settle := PySem.W.fnOf "settle" "Bench.settle" (defArgs s_Bench_settle) (defBody s_Bench_settle) (defScope s_Bench_settle) .none kV10 dc10 pm10 an10 cd10 ct10, f_look_at_creases := f11, d_look_at_creases := PySem.W.fnOf "look_at_creases" "look_at_creases" (defArgs s_look_at_creases) (defBody s_look_at_creases) (defScope s_look_at_creases) .none kV11 dc11 pm11 an11 cd11 ct11, f_Bench_draw := f12, d_Bench_draw := PySem.W.fnOf "draw" "Bench.draw" (defArgs s_Bench_draw) (defBody s_Bench_draw) (defScope s_Bench_draw) .none kV12 dc12 pm12 an12 cd12 ct12, f_Bench_press := f13, d_Bench_press := PySem.W.fnOf "press" "Bench.press" (defArgs s_Bench_press) (defBody s_Bench_press) (defScope s_Bench_press) .none kV13 dc13 pm13 an13 cd13 ct13, f_l_word_of := f14, d_l_word_of := PySem.W.fnOf "_law_word_of" "_law_word_of" (defArgs s_l_word_of) (defBody s_l_word_of) (defScope s_l_word_of) .none kV14 dc14 pm14 an14 cd14 ct14, f_l_done := f15, d_l_done := PySem.W.fnOf "_law_done" "_law_done" (defArgs s_l_done) (defBody s_l_done) (defScope s_l_done) .none kV15 dc15 pm15 an15 cd15 ct15, f_l_wraps := f16, d_l_wraps := PySem.W.fnOf "_law_wraps" "_law_wraps" (defArgs s_l_wraps) (defBody s_l_wraps) (defScope s_l_wraps) .none kV16 dc16 pm16 an16 cd16 ct16, f_l_held := f17, d_l_held := PySem.W.fnOf "_law_held" "_law_held" (defArgs s_l_held) (defBody s_l_held) (defScope s_l_held) .none kV17 dc17 pm17 an17 cd17 ct17, f_l_free := f18, d_l_free := PySem.W.fnOf "_law_free" "_law_free" (defArgs s_l_free) (defBody s_l_free) (defScope s_l_free) .none kV18 dc18 pm18 an18 cd18 ct18, f_l_due := f19, d_l_due := PySem.W.fnOf "_law_due" "_law_due" (defArgs s_l_due) (defBody s_l_due) (defScope s_l_due) .none kV19 dc19 pm19 an19 cd19 ct19, f_l_behind := f20, d_l_behind := PySem.W.fnOf "_law_behind" "_law_behind" (defArgs s_l_behind) (defBody s_l_behind) (defScope s_l_behind) .none kV20 dc20 pm20 an20 cd20 ct20, f_l_drawn := f21, d_l_drawn := PySem.W.fnOf "_law_drawn" "_law_drawn" (defArgs s_l_drawn) (defBody s_l_drawn) (defScope s_l_drawn) .none kV21 dc21 pm21 an21 cd21 ct21, f_l_fits := f22, d_l_fits := PySem.W.fnOf "_law_fits" "_law_fits" (defArgs s_l_fits) (defBody s_l_fits) (defScope s_l_fits) .none kV22 dc22 pm22 an22 cd22 ct22, f_l_number := f23, d_l_number := PySem.W.fnOf "_law_number" "_law_number" (defArgs s_l_number) (defBody s_l_number) (defScope s_l_number) .none kV23 dc23 pm23 an23 cd23 ct23, f_l_places := f24, d_l_places := PySem.W.fnOf "_law_places" "_law_places" (defArgs s_l_places) (defBody s_l_places) (defScope s_l_places) .none kV24 dc24 pm24 an24 cd24 ct24, f_l_good := f25, d_l_good := PySem.W.fnOf "_law_good" "_law_good" (defArgs s_l_good) (defBody s_l_good) (defScope s_l_good) .none kV25 dc25 pm25 an25 cd25 ct25, f_Bench_loose := f26, d_Bench_loose := PySem.W.fnOf "loose" "Bench.loose" (defArgs s_Bench_loose) (defBody s_Bench_loose) (defScope s_Bench_loose) .none kV26 dc26 pm26 an26 cd26 ct26, f_Bench_parts := f27, d_Bench_parts := PySem.W.fnOf "parts" "Bench.parts" (defArgs s_Bench_parts) (defBody s_Bench_parts) (defScope s_Bench_parts) .none kV27 dc27 pm27 an27 cd27 ct27, f_l_counts := f28, d_l_counts := PySem.W.fnOf "_law_counts" "_law_counts" (defArgs s_l_counts) (defBody s_l_counts) (defScope s_l_counts) .none kV28 dc28 pm28 an28 cd28 ct28, f_l_found := f29, d_l_found := PySem.W.fnOf "_law_row" "_law_row" (defArgs s_l_found) (defBody s_l_found) (defScope s_l_found) .none kV29 dc29 pm29 an29 cd29 ct29, f_l_parts := f30, d_l_parts := PySem.W.fnOf "_law_parts" "_law_parts" (defArgs s_l_parts) (defBody s_l_parts) (defScope s_l_parts) .none kV30 dc30 pm30 an30 cd30 ct30, f_l_look := f31, d_l_look := PySem.W.fnOf "_law_look" "_law_look" (defArgs s_l_look) (defBody s_l_look) (defScope s_l_look) .none kV31 dc31 pm31 an31 cd31 ct31, f_l_size := f32, d_l_size := PySem.W.fnOf "_law_size" "_law_size" (defArgs s_l_size) (defBody s_l_size) (defScope s_l_size) .none kV32 dc32 pm32 an32 cd32 ct32, f_law := fa, d_law := PySem.W.fnOf "law" "law" (defArgs s_law) (defBody s_law) (defScope s_law) .none kV33 dc33 pm33 an33 cd33 ct33 }
  have T : Txt K mg c A := {
    sz := rfl
    F_places := fun_mk (st := s_places) l0 c0 k0
    g_places := PySem.W.mg_of X G a0
    k_places := k0
    b_places := (fun_mk (st := s_places) l0 c0 k0).binds fun _ _ _ _ _ _ us hl => match us, hl with | [_], _ => rfl
    F_wraps := fun_mk (st := s_wraps) l1 c1 k1
    g_wraps := PySem.W.mg_of X G a1
    k_wraps := k1
    b_wraps := (fun_mk (st := s_wraps) l1 c1 k1).binds fun _ _ _ _ _ _ us hl => match us, hl with | [_, _, _], _ => rfl
    F_crossing := fun_mk (st := s_crossing) l2 c2 k2
    g_crossing := PySem.W.mg_of X G a2
    k_crossing := k2
    b_crossing := (fun_mk (st := s_crossing) l2 c2 k2).binds fun _ _ _ _ _ _ us hl => match us, hl with | [_], _ => rfl
    F_judged := fun_mk (st := s_judged) l3 c3 k3
    g_judged := PySem.W.mg_of X G a3
    k_judged := k3
    b_judged := (fun_mk (st := s_judged) l3 c3 k3).binds fun _ _ _ _ _ _ us hl => match us, hl with | [_], _ => rfl
    F_Bench_init := fun_mk (st := s_Bench_init) l4 c4 k4
    mkB := ⟨bmk, a4, i4, bkc⟩
    b_Bench_init := (fun_mk (st := s_Bench_init) l4 c4 k4).binds fun _ _ _ _ _ _ us hl => match us, hl with | [_, _], _ => rfl
    F_l_creases := fun_mk (st := s_l_creases) l5 c5 k5
    g_l_creases := PySem.W.mg_of X G a5
    k_l_creases := k5
    b_l_creases := (fun_mk (st := s_l_creases) l5 c5 k5).binds fun _ _ _ _ _ _ us hl => match us, hl with | [_, _, _], _ => rfl
    F_held := fun_mk (st := s_held) l6 c6 k6
    g_held := PySem.W.mg_of X G a6
    k_held := k6
    b_held := (fun_mk (st := s_held) l6 c6 k6).binds fun _ _ _ _ _ _ us hl => match us, hl with | [_, _, _, _], _ => rfl
    F_lies_free := fun_mk (st := s_lies_free) l7 c7 k7
    g_lies_free := PySem.W.mg_of X G a7
    k_lies_free := k7
    b_lies_free := (fun_mk (st := s_lies_free) l7 c7 k7).binds fun _ _ _ _ _ _ us hl => match us, hl with | [_, _], _ => rfl
    F_parts_of := fun_mk (st := s_parts_of) l8 c8 k8
    g_parts_of := PySem.W.mg_of X G a8
    k_parts_of := k8
    b_parts_of := (fun_mk (st := s_parts_of) l8 c8 k8).binds fun _ _ _ _ _ _ us hl => match us, hl with | [_, _], _ => rfl
    F_are_free := fun_mk (st := s_are_free) l9 c9 k9
    g_are_free := PySem.W.mg_of X G a9
    k_are_free := k9
    b_are_free := (fun_mk (st := s_are_free) l9 c9 k9).binds fun _ _ _ _ _ _ us hl => match us, hl with | [_, _], _ => rfl
    F_Bench_settle := fun_mk (st := s_Bench_settle) l10 c10 k10
    me_Bench_settle := ⟨a10, i10, k10⟩
    b_Bench_settle := (fun_mk (st := s_Bench_settle) l10 c10 k10).binds fun _ _ _ _ _ _ us hl => match us, hl with | [_, _], _ => rfl
    F_look_at_creases := fun_mk (st := s_look_at_creases) l11 c11 k11
    g_look_at_creases := PySem.W.mg_of X G a11
    k_look_at_creases := k11
    b_look_at_creases := (fun_mk (st := s_look_at_creases) l11 c11 k11).binds fun _ _ _ _ _ _ us hl => match us, hl with | [_, _], _ => rfl
    F_Bench_draw := fun_mk (st := s_Bench_draw) l12 c12 k12
    me_Bench_draw := ⟨a12, i12, k12⟩
    b_Bench_draw := (fun_mk (st := s_Bench_draw) l12 c12 k12).binds fun _ _ _ _ _ _ us hl => match us, hl with | [_, _], _ => rfl
    F_Bench_press := fun_mk (st := s_Bench_press) l13 c13 k13
    me_Bench_press := ⟨a13, i13, k13⟩
    b_Bench_press := (fun_mk (st := s_Bench_press) l13 c13 k13).binds fun _ _ _ _ _ _ us hl => match us, hl with | [_, _], _ => rfl
    F_l_word_of := fun_mk (st := s_l_word_of) l14 c14 k14
    g_l_word_of := PySem.W.mg_of X G a14
    k_l_word_of := k14
    b_l_word_of := (fun_mk (st := s_l_word_of) l14 c14 k14).binds fun _ _ _ _ _ _ us hl => match us, hl with | [_], _ => rfl
    F_l_done := fun_mk (st := s_l_done) l15 c15 k15
    g_l_done := PySem.W.mg_of X G a15
    k_l_done := k15
    b_l_done := (fun_mk (st := s_l_done) l15 c15 k15).binds fun _ _ _ _ _ _ us hl => match us, hl with | [_, _, _], _ => rfl
    F_l_wraps := fun_mk (st := s_l_wraps) l16 c16 k16
    g_l_wraps := PySem.W.mg_of X G a16
    k_l_wraps := k16
    b_l_wraps := (fun_mk (st := s_l_wraps) l16 c16 k16).binds fun _ _ _ _ _ _ us hl => match us, hl with | [_, _, _], _ => rfl
    F_l_held := fun_mk (st := s_l_held) l17 c17 k17
    g_l_held := PySem.W.mg_of X G a17
    k_l_held := k17
    b_l_held := (fun_mk (st := s_l_held) l17 c17 k17).binds fun _ _ _ _ _ _ us hl => match us, hl with | [_, _, _, _, _], _ => rfl
    F_l_free := fun_mk (st := s_l_free) l18 c18 k18
    g_l_free := PySem.W.mg_of X G a18
    k_l_free := k18
    b_l_free := (fun_mk (st := s_l_free) l18 c18 k18).binds fun _ _ _ _ _ _ us hl => match us, hl with | [_, _], _ => rfl
    F_l_due := fun_mk (st := s_l_due) l19 c19 k19
    g_l_due := PySem.W.mg_of X G a19
    k_l_due := k19
    b_l_due := (fun_mk (st := s_l_due) l19 c19 k19).binds fun _ _ _ _ _ _ us hl => match us, hl with | [_, _, _, _], _ => rfl
    F_l_behind := fun_mk (st := s_l_behind) l20 c20 k20
    g_l_behind := PySem.W.mg_of X G a20
    k_l_behind := k20
    b_l_behind := (fun_mk (st := s_l_behind) l20 c20 k20).binds fun _ _ _ _ _ _ us hl => match us, hl with | [_, _, _, _], _ => rfl
    F_l_drawn := fun_mk (st := s_l_drawn) l21 c21 k21
    g_l_drawn := PySem.W.mg_of X G a21
    k_l_drawn := k21
    b_l_drawn := (fun_mk (st := s_l_drawn) l21 c21 k21).binds fun _ _ _ _ _ _ us hl => match us, hl with | [_, _], _ => rfl
    F_l_fits := fun_mk (st := s_l_fits) l22 c22 k22
    g_l_fits := PySem.W.mg_of X G a22
    k_l_fits := k22
    b_l_fits := (fun_mk (st := s_l_fits) l22 c22 k22).binds fun _ _ _ _ _ _ us hl => match us, hl with | [_, _, _], _ => rfl
    F_l_number := fun_mk (st := s_l_number) l23 c23 k23
    g_l_number := PySem.W.mg_of X G a23
    k_l_number := k23
    b_l_number := (fun_mk (st := s_l_number) l23 c23 k23).binds fun _ _ _ _ _ _ us hl => match us, hl with | [_, _], _ => rfl
    F_l_places := fun_mk (st := s_l_places) l24 c24 k24
    g_l_places := PySem.W.mg_of X G a24
    k_l_places := k24
    b_l_places := (fun_mk (st := s_l_places) l24 c24 k24).binds fun _ _ _ _ _ _ us hl => match us, hl with | [_], _ => rfl
    F_l_good := fun_mk (st := s_l_good) l25 c25 k25
    g_l_good := PySem.W.mg_of X G a25
    k_l_good := k25
    b_l_good := (fun_mk (st := s_l_good) l25 c25 k25).binds fun _ _ _ _ _ _ us hl => match us, hl with | [_, _, _], _ => rfl
    F_Bench_loose := fun_mk (st := s_Bench_loose) l26 c26 k26
    me_Bench_loose := ⟨a26, i26, k26⟩
    b_Bench_loose := (fun_mk (st := s_Bench_loose) l26 c26 k26).binds fun _ _ _ _ _ _ us hl => match us, hl with | [_], _ => rfl
    F_Bench_parts := fun_mk (st := s_Bench_parts) l27 c27 k27
    me_Bench_parts := ⟨a27, i27, k27⟩
    b_Bench_parts := (fun_mk (st := s_Bench_parts) l27 c27 k27).binds fun _ _ _ _ _ _ us hl => match us, hl with | [_], _ => rfl
    F_l_counts := fun_mk (st := s_l_counts) l28 c28 k28
    g_l_counts := PySem.W.mg_of X G a28
    k_l_counts := k28
    b_l_counts := (fun_mk (st := s_l_counts) l28 c28 k28).binds fun _ _ _ _ _ _ us hl => match us, hl with | [_], _ => rfl
    F_l_found := fun_mk (st := s_l_found) l29 c29 k29
    g_l_found := PySem.W.mg_of X G a29
    k_l_found := k29
    b_l_found := (fun_mk (st := s_l_found) l29 c29 k29).binds fun _ _ _ _ _ _ us hl => match us, hl with | [_, _], _ => rfl
    F_l_parts := fun_mk (st := s_l_parts) l30 c30 k30
    g_l_parts := PySem.W.mg_of X G a30
    k_l_parts := k30
    b_l_parts := (fun_mk (st := s_l_parts) l30 c30 k30).binds fun _ _ _ _ _ _ us hl => match us, hl with | [_, _, _], _ => rfl
    F_l_look := fun_mk (st := s_l_look) l31 c31 k31
    g_l_look := PySem.W.mg_of X G a31
    k_l_look := k31
    b_l_look := (fun_mk (st := s_l_look) l31 c31 k31).binds fun _ _ _ _ _ _ us hl => match us, hl with | [_, _, _, _, _], _ => rfl
    F_l_size := fun_mk (st := s_l_size) l32 c32 k32
    g_l_size := PySem.W.mg_of X G a32
    k_l_size := k32
    b_l_size := (fun_mk (st := s_l_size) l32 c32 k32).binds fun _ _ _ _ _ _ us hl => match us, hl with | [_], _ => rfl
    F_law := fun_mk (st := s_law) l33 c33 k33
    bc := ⟨⟨bpg, bhd, bpo, bsa⟩, bnA, bnO, bnD⟩
    g_Bench := PySem.W.mg_of X G baC
    m_ValueError := PySem.W.mg_none_of X G z_ValueError
    m_enumerate := PySem.W.mg_none_of X G z_enumerate
    m_int := PySem.W.mg_none_of X G z_int
    m_isinstance := PySem.W.mg_none_of X G z_isinstance
    m_len := PySem.W.mg_none_of X G z_len
    m_list := PySem.W.mg_none_of X G z_list
    m_max := PySem.W.mg_none_of X G z_max
    m_min := PySem.W.mg_none_of X G z_min
    m_range := PySem.W.mg_none_of X G z_range
    m_set := PySem.W.mg_none_of X G z_set
    m_sorted := PySem.W.mg_none_of X G z_sorted
    m_tuple := PySem.W.mg_none_of X G z_tuple
    x_NoCrease := x_NoCrease
    g_NoCrease := PySem.W.mg_of X G e_NoCrease
    k_NoCrease := kx_NoCrease
    bx_NoCrease := bx_NoCrease
    ty_NoCrease := ty_NoCrease
    x_NoPile := x_NoPile
    g_NoPile := PySem.W.mg_of X G e_NoPile
    k_NoPile := kx_NoPile
    bx_NoPile := bx_NoPile
    ty_NoPile := ty_NoPile
    x_Stuck := x_Stuck
    g_Stuck := PySem.W.mg_of X G e_Stuck
    k_Stuck := kx_Stuck
    bx_Stuck := bx_Stuck
    ty_Stuck := ty_Stuck
    g_Crossing := PySem.W.mg_of X G e_Crossing
    g_NoCount := PySem.W.mg_of X G e_NoCount
    g_NoLetters := PySem.W.mg_of X G e_NoLetters
    g_StripError := PySem.W.mg_of X G e_StripError
    kn := ⟨kindB_ok (c := c) q_NoCrease, kindB_ok (c := c) q_Stuck⟩
  }
  exact ⟨_, fun s v => .of_eq rfl, fun base _ _ => ok_law T⟩
end Fo
open PySem PySem.W PyProof.Rows
set_option maxHeartbeats 0 in
theorem PySem.Challenge.cw_stripfold_k06_bench_deeds_holds : PySem.Challenge.rw_stripfold_k06_bench_deeds.Holds := by
  w_on; o_law; k_head; (case hw => w_witness2)
  k_fill
  refine L2.walk_of (l := PySem.Challenge.rw_stripfold_k06_bench_deeds) (n := 63) (k := 9) (x := "_law_script") (CX := fun w => L2.CX (PySem.Challenge.rw_stripfold_k06_bench_deeds).prog w) (sp := fun w => Fo.spLaw _) rfl (by decide) rfl ⟨rfl, by decide, by decide⟩ (fun w h Y => PySem.W.kIn_of Y) ?F (fun _ _ a ns hl _ hS => ⟨a, ns, rfl, hS, hl, fun _ => rfl⟩) (fun _ _ _ _ _ h => Fo.cx_no h)
  case F =>
    intro w mg fa h KX G hmg
    refine' Fo.all_mk KX G hmg (baC := ?baC) (a0 := ?a0) (l0 := ?l0) (c0 := ?c0) (k0 := ?k0) (a1 := ?a1) (l1 := ?l1) (c1 := ?c1) (k1 := ?k1) (a2 := ?a2) (l2 := ?l2) (c2 := ?c2) (k2 := ?k2) (a3 := ?a3) (l3 := ?l3) (c3 := ?c3) (k3 := ?k3) (a4 := ?a4) (l4 := ?l4) (c4 := ?c4) (k4 := ?k4) (i4 := ?i4) (a5 := ?a5) (l5 := ?l5) (c5 := ?c5) (k5 := ?k5) (a6 := ?a6) (l6 := ?l6) (c6 := ?c6) (k6 := ?k6) (a7 := ?a7) (l7 := ?l7) (c7 := ?c7) (k7 := ?k7) (a8 := ?a8) (l8 := ?l8) (c8 := ?c8) (k8 := ?k8) (a9 := ?a9) (l9 := ?l9) (c9 := ?c9) (k9 := ?k9) (a10 := ?a10) (l10 := ?l10) (c10 := ?c10) (k10 := ?k10) (i10 := ?i10) (a11 := ?a11) (l11 := ?l11) (c11 := ?c11) (k11 := ?k11) (a12 := ?a12) (l12 := ?l12) (c12 := ?c12) (k12 := ?k12) (i12 := ?i12) (a13 := ?a13) (l13 := ?l13) (c13 := ?c13) (k13 := ?k13) (i13 := ?i13) (a14 := ?a14) (l14 := ?l14) (c14 := ?c14) (k14 := ?k14) (a15 := ?a15) (l15 := ?l15) (c15 := ?c15) (k15 := ?k15) (a16 := ?a16) (l16 := ?l16) (c16 := ?c16) (k16 := ?k16) (a17 := ?a17) (l17 := ?l17) (c17 := ?c17) (k17 := ?k17) (a18 := ?a18) (l18 := ?l18) (c18 := ?c18) (k18 := ?k18) (a19 := ?a19) (l19 := ?l19) (c19 := ?c19) (k19 := ?k19) (a20 := ?a20) (l20 := ?l20) (c20 := ?c20) (k20 := ?k20) (a21 := ?a21) (l21 := ?l21) (c21 := ?c21) (k21 := ?k21) (a22 := ?a22) (l22 := ?l22) (c22 := ?c22) (k22 := ?k22) (a23 := ?a23) (l23 := ?l23) (c23 := ?c23) (k23 := ?k23) (a24 := ?a24) (l24 := ?l24) (c24 := ?c24) (k24 := ?k24) (a25 := ?a25) (l25 := ?l25) (c25 := ?c25) (k25 := ?k25) (a26 := ?a26) (l26 := ?l26) (c26 := ?c26) (k26 := ?k26) (i26 := ?i26) (a27 := ?a27) (l27 := ?l27) (c27 := ?c27) (k27 := ?k27) (i27 := ?i27) (a28 := ?a28) (l28 := ?l28) (c28 := ?c28) (k28 := ?k28) (a29 := ?a29) (l29 := ?l29) (c29 := ?c29) (k29 := ?k29) (a30 := ?a30) (l30 := ?l30) (c30 := ?c30) (k30 := ?k30) (a31 := ?a31) (l31 := ?l31) (c31 := ?c31) (k31 := ?k31) (a32 := ?a32) (l32 := ?l32) (c32 := ?c32) (k32 := ?k32) (a33 := ?a33) (l33 := ?l33) (c33 := ?c33) (k33 := ?k33) (bpg := ?bpg) (bhd := ?bhd) (bpo := ?bpo) (bsa := ?bsa) (bmk := ?bmk) (bkc := ?bkc) (bnA := ?bnA) (bnO := ?bnO) (bnD := ?bnD) (z_ValueError := ?z_ValueError) (z_enumerate := ?z_enumerate) (z_int := ?z_int) (z_isinstance := ?z_isinstance) (z_len := ?z_len) (z_list := ?z_list) (z_max := ?z_max) (z_min := ?z_min) (z_range := ?z_range) (z_set := ?z_set) (z_sorted := ?z_sorted) (z_tuple := ?z_tuple) (e_NoCrease := ?e_NoCrease) (x_NoCrease := ?x_NoCrease) (kx_NoCrease := ?kx_NoCrease) (bx_NoCrease := ?bx_NoCrease) (ty_NoCrease := ?ty_NoCrease) (e_NoPile := ?e_NoPile) (x_NoPile := ?x_NoPile) (kx_NoPile := ?kx_NoPile) (bx_NoPile := ?bx_NoPile) (ty_NoPile := ?ty_NoPile) (e_Stuck := ?e_Stuck) (x_Stuck := ?x_Stuck) (kx_Stuck := ?kx_Stuck) (bx_Stuck := ?bx_Stuck) (ty_Stuck := ?ty_Stuck) (e_Crossing := ?e_Crossing) (e_NoCount := ?e_NoCount) (e_NoLetters := ?e_NoLetters) (e_StripError := ?e_StripError) (q_NoCrease := ?q_NoCrease) (q_Stuck := ?q_Stuck)
    (case baC => k_is)
    (case a0 => k_is)
    (case l0 => k_is)
    (case c0 => k_is)
    (case k0 => k_is)
    (case a1 => k_is)
    (case l1 => k_is)
    (case c1 => k_is)
    (case k1 => k_is)
    (case a2 => k_is)
    (case l2 => k_is)
    (case c2 => k_is)
    (case k2 => k_is)
    (case a3 => k_is)
    (case l3 => k_is)
    (case c3 => k_is)
    (case k3 => k_is)
    (case a4 => k_is)
    (case l4 => k_is)
    (case c4 => k_is)
    (case k4 => k_is)
    (case i4 => k_is)
    (case a5 => k_is)
    (case l5 => k_is)
    (case c5 => k_is)
    (case k5 => k_is)
    (case a6 => k_is)
    (case l6 => k_is)
    (case c6 => k_is)
    (case k6 => k_is)
    (case a7 => k_is)
    (case l7 => k_is)
    (case c7 => k_is)
    (case k7 => k_is)
    (case a8 => k_is)
    (case l8 => k_is)
    (case c8 => k_is)
    (case k8 => k_is)
    (case a9 => k_is)
    (case l9 => k_is)
    (case c9 => k_is)
    (case k9 => k_is)
    (case a10 => k_is)
    (case l10 => k_is)
    (case c10 => k_is)
    (case k10 => k_is)
    (case i10 => k_is)
    (case a11 => k_is)
    (case l11 => k_is)
    (case c11 => k_is)
    (case k11 => k_is)
    (case a12 => k_is)
    (case l12 => k_is)
    (case c12 => k_is)
    (case k12 => k_is)
    (case i12 => k_is)
    (case a13 => k_is)
    (case l13 => k_is)
    (case c13 => k_is)
    (case k13 => k_is)
    (case i13 => k_is)
    (case a14 => k_is)
    (case l14 => k_is)
    (case c14 => k_is)
    (case k14 => k_is)
    (case a15 => k_is)
    (case l15 => k_is)
    (case c15 => k_is)
    (case k15 => k_is)
    (case a16 => k_is)
    (case l16 => k_is)
    (case c16 => k_is)
    (case k16 => k_is)
    (case a17 => k_is)
    (case l17 => k_is)
    (case c17 => k_is)
    (case k17 => k_is)
    (case a18 => k_is)
    (case l18 => k_is)
    (case c18 => k_is)
    (case k18 => k_is)
    (case a19 => k_is)
    (case l19 => k_is)
    (case c19 => k_is)
    (case k19 => k_is)
    (case a20 => k_is)
    (case l20 => k_is)
    (case c20 => k_is)
    (case k20 => k_is)
    (case a21 => k_is)
    (case l21 => k_is)
    (case c21 => k_is)
    (case k21 => k_is)
    (case a22 => k_is)
    (case l22 => k_is)
    (case c22 => k_is)
    (case k22 => k_is)
    (case a23 => k_is)
    (case l23 => k_is)
    (case c23 => k_is)
    (case k23 => k_is)
    (case a24 => k_is)
    (case l24 => k_is)
    (case c24 => k_is)
    (case k24 => k_is)
    (case a25 => k_is)
    (case l25 => k_is)
    (case c25 => k_is)
    (case k25 => k_is)
    (case a26 => k_is)
    (case l26 => k_is)
    (case c26 => k_is)
    (case k26 => k_is)
    (case i26 => k_is)
    (case a27 => k_is)
    (case l27 => k_is)
    (case c27 => k_is)
    (case k27 => k_is)
    (case i27 => k_is)
    (case a28 => k_is)
    (case l28 => k_is)
    (case c28 => k_is)
    (case k28 => k_is)
    (case a29 => k_is)
    (case l29 => k_is)
    (case c29 => k_is)
    (case k29 => k_is)
    (case a30 => k_is)
    (case l30 => k_is)
    (case c30 => k_is)
    (case k30 => k_is)
    (case a31 => k_is)
    (case l31 => k_is)
    (case c31 => k_is)
    (case k31 => k_is)
    (case a32 => k_is)
    (case l32 => k_is)
    (case c32 => k_is)
    (case k32 => k_is)
    (case a33 => k_is)
    (case l33 => k_is)
    (case c33 => k_is)
    (case k33 => k_is)
    (case bpg => k_is)
    (case bhd => k_is)
    (case bpo => k_is)
    (case bsa => k_is)
    (case bmk => k_is)
    (case bkc => k_is)
    (case bnA => k_is)
    (case bnO => k_is)
    (case bnD => k_is)
    (case z_ValueError => k_is)
    (case z_enumerate => k_is)
    (case z_int => k_is)
    (case z_isinstance => k_is)
    (case z_len => k_is)
    (case z_list => k_is)
    (case z_max => k_is)
    (case z_min => k_is)
    (case z_range => k_is)
    (case z_set => k_is)
    (case z_sorted => k_is)
    (case z_tuple => k_is)
    (case e_NoCrease => k_is)
    (case x_NoCrease => k_exc)
    (case kx_NoCrease => k_is)
    (case bx_NoCrease => k_is)
    (case ty_NoCrease => k_is)
    (case e_NoPile => k_is)
    (case x_NoPile => k_exc)
    (case kx_NoPile => k_is)
    (case bx_NoPile => k_is)
    (case ty_NoPile => k_is)
    (case e_Stuck => k_is)
    (case x_Stuck => k_exc)
    (case kx_Stuck => k_is)
    (case bx_Stuck => k_is)
    (case ty_Stuck => k_is)
    (case e_Crossing => k_is)
    (case e_NoCount => k_is)
    (case e_NoLetters => k_is)
    (case e_StripError => k_is)
    (case q_NoCrease => kernel_rfl)
    (case q_Stuck => kernel_rfl)
