import PyProof.Rows.All
import Wide.All
import OpenK.AllK
import Wide.FinOn
import HandS.ForMost
import HandS.ForExc
import HandS.Evl
import HandS.Steps
import HandS.Walk
import HandS.IsInst
import HandS.SortInts
import HandS.Defaults
import KE.KEqSeq
import HandS.More
import HandS.Iter
import PyProof.Draws
import HandS.SetFor
import HandS.Zip
import HandS.Rev
import HandS.RevTup
import HandS.Style
import HandS.Deep
import HandS.Dict
import PySem.Challenge.RW_stripfold_k08_whole_listed
set_option Elab.async false
set_option linter.all false
set_option maxRecDepth 100000
set_option maxHeartbeats 4000000
/-! FoldA -/
namespace Fo
open PySem L2 Evl

/-! ### a block of statements, at every later heap -/
def Go (ts : TS) (D : Ends) (σ : L2.St) (H : Hp) : Prop := ∀ H1, Ex H H1 → ts D σ H1
section
variable {K : PySem.W.Frag} {σ : L2.St} {H H' : Hp} {ta tb tc te tx : TE} {t u : TT} {x y z v : V} {D : Ends} {tu tw tz : TS} {g : TG} {i : Nat}
theorem Go.here (h : Go tz D σ H) : tz D σ H := h H (Ex.refl H)
theorem Go.mono (e : Ex H H') (h : Go tz D σ H) : Go tz D σ H' := fun H1 a => h H1 (e.trans a)
theorem Go.of_seq (h : Go tu { D with nx := tz D } σ H) : Go (tSeq tu tz) D σ H := h
theorem g_next (h : ∀ H1, Ex H H1 → D.nx σ H1) : Go tNext D σ H := h
theorem g_nextS {d : Ends} (h : Go tz d σ H) : Go tNext { D with nx := tz d } σ H := h
theorem g_asg (h : Ev te σ H v) (k : Go tz D (σ.set i (some v)) H) : Go (tSeq (tAsg te (gName i)) tz) D σ H := fun H1 e => q_asg (h.mono e) fun H2 e2 => k H2 (e.trans e2)
theorem g_asgL {xs : List V} (h : EvL te σ H xs) (k : ∀ p H1, H p = none → Ex H H1 → H1 p = some (.lst xs) → Go tz D (σ.set i (some (.ref p))) H1) : Go (tSeq (tAsg te (gName i)) tz) D σ H := fun H1 e =>
  q_asgL (h.mono e) fun p H2 hp e2 h2 => (k p H2 (fresh_back e hp) (e.trans e2) h2).here
theorem g_asgU {xs : List V} (h : EvU te σ H xs) (k : ∀ p H1, H p = none → Ex H H1 → H1 p = some (.tup xs) → Go tz D (σ.set i (some (.ref p))) H1) : Go (tSeq (tAsg te (gName i)) tz) D σ H := fun H1 e =>
  h H1 e _ fun p H2 hp e2 h2 => (k p H2 (fresh_back e hp) (e.trans e2) h2).here
theorem g_if {b : Bool} (h : EvT t σ H b) (h1 : b = true → Go tu { D with nx := tz D } σ H) (h2 : b = false → Go tw { D with nx := tz D } σ H) : Go (tSeq (tIfS t tu tw) tz) D σ H := fun H1 e =>
  q_if (h.mono e) (fun hb H2 e2 => h1 hb H2 (e.trans e2)) (fun hb H2 e2 => h2 hb H2 (e.trans e2))
theorem g_when {b : Bool} (h : EvT t σ H b) (h1 : b = true → Go tu { D with nx := tz D } σ H) (h2 : b = false → Go tz D σ H) : Go (tSeq (tIfS t tu tNext) tz) D σ H := g_if h h1 h2
/-- a test that is known -/
theorem g_yes (h : EvT t σ H true) (h1 : Go tu { D with nx := tz D } σ H) : Go (tSeq (tIfS t tu tw) tz) D σ H := g_if h (fun _ => h1) (fun e => Bool.noConfusion e)
theorem g_no (h : EvT t σ H false) (h2 : Go tw { D with nx := tz D } σ H) : Go (tSeq (tIfS t tu tw) tz) D σ H := g_if h (fun e => Bool.noConfusion e) (fun _ => h2)
theorem g_ret (h : Ev te σ H v) (k : ∀ H1, Ex H H1 → D.rt v H1) : Go (tSeq (tRet te) tz) D σ H := fun H1 e => s_ret (D := { D with nx := tz D }) (h.mono e) fun H2 e2 => k H2 (e.trans e2)
theorem g_retL {xs : List V} (h : EvL te σ H xs) (k : ∀ p H1, H p = none → Ex H H1 → H1 p = some (.lst xs) → D.rt (.ref p) H1) : Go (tSeq (tRet te) tz) D σ H := fun H1 e =>
  s_retL (D := { D with nx := tz D }) (h.mono e) fun p H2 hp e2 h2 => k p H2 (fresh_back e hp) (e.trans e2) h2
theorem g_retU {xs : List V} (h : EvU te σ H xs) (k : ∀ p H1, H p = none → Ex H H1 → H1 p = some (.tup xs) → D.rt (.ref p) H1) : Go (tSeq (tRet te) tz) D σ H := fun H1 e =>
  s_retU (D := { D with nx := tz D }) (fun H2 a Q q => h H2 (e.trans a) Q q) fun p H2 hp e2 h2 => k p H2 (fresh_back e hp) (e.trans e2) h2
theorem g_raise {E : XK} {c : Value} (k : ∀ H1, Ex H H1 → E c none H1) : Go (tSeq (tRaise E c) tz) D σ H := fun H1 e => k H1 e
theorem g_drop (h : Ev te σ H v) (k : Go tz D σ H) : Go (tSeq (tDrop te) tz) D σ H := fun H1 e => q_drop (h.mono e) fun H2 e2 => k H2 (e.trans e2)
theorem g_cutM (M : L2.St → Hp → Prop) (h : Go tu { D with nx := M } σ H) (k : ∀ σ' H', M σ' H' → Go tz D σ' H') : Go (tCut tu tz) D σ H := fun H1 e => ⟨M, h H1 e, fun σ' H' m => (k σ' H' m).here⟩
theorem g_cutS (M : L2.St → Hp → Prop) (h : Go (tSeq tu tNext) { D with nx := M } σ H) (k : ∀ σ' H', M σ' H' → Go tz D σ' H') : Go (tCut tu tz) D σ H := fun H1 e => ⟨M, h H1 e, fun σ' H' m => (k σ' H' m).here⟩
theorem g_ifC {b : Bool} (h : EvT t σ H b) (h1 : b = true → Go tu D σ H) (h2 : b = false → Go tw D σ H) : Go (tIfS t tu tw) D σ H := fun H1 e =>
  s_if (h.mono e) (fun hb H2 e2 => h1 hb H2 (e.trans e2)) (fun hb H2 e2 => h2 hb H2 (e.trans e2))
/-- a word between: what stands behind is shown once -/
theorem g_cut (M : L2.St → Hp → Prop) (h : Go tu { D with nx := M } σ H) (k : ∀ σ' H', M σ' H' → tz D σ' H') (mono : ∀ σ H, tu { D with nx := M } σ H → tu { D with nx := tz D } σ H) : Go (tSeq tu tz) D σ H := fun H1 e => mono σ H1 (h H1 e)
end

/-! ### values -/
section
variable {K : PySem.W.Frag} {σ : L2.St} {H H' : Hp} {ta tb tc te tx : TE} {t u : TT} {x y z v : V} {i j : Int}
/-- the i-th of a list of ints -/
def gi (ns : List Int) (i : Int) : Int := ns.getD i.toNat 0
theorem atI_get {α : Type} {xs : List α} {i : Int} {v : α} (h0 : 0 ≤ i) (h : xs[i.toNat]? = some v) : atI xs i = some v := by
  have e : i = ((i.toNat : Nat) : Int) := by omega
  rw [e]
  exact atI_nat h
theorem gi_at {ns : List Int} {i : Int} (h0 : 0 ≤ i) (h1 : i < (ns.length : Int)) : atI (ns.map V.int) i = some (.int (gi ns i)) := by
  refine atI_get h0 ?_
  have h2 : i.toNat < ns.length := by omega
  rw [List.getElem?_map, List.getElem?_eq_getElem h2]
  show some (V.int _) = some (V.int (ns.getD i.toNat 0))
  rw [List.getD_eq_getElem?_getD, List.getElem?_eq_getElem h2]
  rfl
theorem gi_of {ns : List Int} {k : Nat} {z : Int} (h : ns[k]? = some z) : gi ns (k : Int) = z := by
  show ns.getD (k : Int).toNat 0 = z
  rw [List.getD_eq_getElem?_getD, show (k : Int).toNat = k from rfl, h]
  rfl
theorem sq_lst {a : Addr} {xs : List V} (h : H a = some (.lst xs)) : SqL K H a xs := sq_of h
theorem ev_ixL {p : Addr} {xs : List V} (ha : Ev ta σ H (.ref p)) (hb : Ev tb σ H (.int i)) (hs : SqL K H p xs) (h : atI xs i = some v) : Ev (tOp (rIxL K) ta tb) σ H v := ev_op ha hb (rv_ixL hs h)
theorem ev_ixI {p : Addr} {ns : List Int} (ha : Ev ta σ H (.ref p)) (hb : Ev tb σ H (.int i)) (hs : SqL K H p (ns.map V.int)) (h0 : 0 ≤ i) (h1 : i < (ns.length : Int)) : Ev (tOp (rIxL K) ta tb) σ H (.int (gi ns i)) := ev_op ha hb (rv_ixL hs (gi_at h0 h1))
theorem ev_ixT {p : Addr} {xs : List V} (ha : Ev ta σ H (.ref p)) (hb : Ev tb σ H (.int i)) (hs : SqT K H p xs) (h : atI xs i = some v) : Ev (tOp (rIxT K) ta tb) σ H v := ev_op ha hb (rv_ixT hs h)
/-- an item of a list made on the way -/
theorem ev_ixNew {xs : List V} (ha : EvL ta σ H xs) (hb : Ev tb σ H (.int i)) (h : atI xs i = some v) : Ev (tOp (rIxL K) ta tb) σ H v := ev_opL1 ha (fun H1 e => hb.mono e) fun p H1 hp _ => rv_ixL (sq_of hp) h
theorem ev_add (ha : Ev ta σ H (.int i)) (hb : Ev tb σ H (.int j)) : Ev (tOp (rI0 fun i j => .int (i + j)) ta tb) σ H (.int (i + j)) := ev_op ha hb (rv_I0 (g := fun i j => V.int (i + j)))
theorem ev_sub (ha : Ev ta σ H (.int i)) (hb : Ev tb σ H (.int j)) : Ev (tOp (rI0 fun i j => .int (i - j)) ta tb) σ H (.int (i - j)) := ev_op ha hb (rv_I0 (g := fun i j => V.int (i - j)))
theorem ev_mul (ha : Ev ta σ H (.int i)) (hb : Ev tb σ H (.int j)) (hc : CMul i j) : Ev (tOp (rI CMul fun i j => .int (i * j)) ta tb) σ H (.int (i * j)) := ev_op ha hb (rv_I (g := fun i j => V.int (i * j)) hc)
theorem ev_mod (ha : Ev ta σ H (.int i)) (hb : Ev tb σ H (.int j)) (hc : 0 < j) : Ev (tOp (rI (fun _ j => 0 < j) fun i j => .int (i % j)) ta tb) σ H (.int (i % j)) := ev_op ha hb (rv_I (C := fun _ j => 0 < j) (g := fun i j => V.int (i % j)) hc)
theorem ev_div (ha : Ev ta σ H (.int i)) (hb : Ev tb σ H (.int j)) (hc : CDiv i j) : Ev (tOp (rI CDiv fun i j => .int (i / j)) ta tb) σ H (.int (i / j)) := ev_op ha hb (rv_I (g := fun i j => V.int (i / j)) hc)
theorem ev_pow (ha : Ev ta σ H (.int i)) (hb : Ev tb σ H (.int j)) (hc : CPow i j) : Ev (tOp (rI CPow fun i j => .int (i ^ j.toNat)) ta tb) σ H (.int (i ^ j.toNat)) := ev_op ha hb (rv_I (g := fun i j => V.int (i ^ j.toNat)) hc)
theorem ev_neg (ha : Ev ta σ H (.int i)) : Ev (tUn (rU fun i => .int (-i)) ta) σ H (.int (-i)) := ev_un ha ru_neg
theorem ev_lt (ha : Ev ta σ H (.int i)) (hb : Ev tb σ H (.int j)) : Ev (tOp (rI0 fun i j => .bl (decide (i < j))) ta tb) σ H (.bl (decide (i < j))) := ev_op ha hb (rv_I0 (g := fun i j => V.bl (decide (i < j))))
theorem ev_le (ha : Ev ta σ H (.int i)) (hb : Ev tb σ H (.int j)) : Ev (tOp (rI0 fun i j => .bl (decide (i ≤ j))) ta tb) σ H (.bl (decide (i ≤ j))) := ev_op ha hb (rv_I0 (g := fun i j => V.bl (decide (i ≤ j))))
theorem ev_gt (ha : Ev ta σ H (.int i)) (hb : Ev tb σ H (.int j)) : Ev (tOp (rI0 fun i j => .bl (decide (j < i))) ta tb) σ H (.bl (decide (j < i))) := ev_op ha hb (rv_I0 (g := fun i j => V.bl (decide (j < i))))
theorem ev_ge (ha : Ev ta σ H (.int i)) (hb : Ev tb σ H (.int j)) : Ev (tOp (rI0 fun i j => .bl (decide (j ≤ i))) ta tb) σ H (.bl (decide (j ≤ i))) := ev_op ha hb (rv_I0 (g := fun i j => V.bl (decide (j ≤ i))))
theorem dI : decide (V.int i = V.int j) = decide (i = j) := by
  by_cases h : i = j
  · subst h; rw [decide_eq_true rfl, decide_eq_true rfl]
  · rw [decide_eq_false h, decide_eq_false (fun e => h (V.int.inj e))]
theorem dB {a b : Bool} : decide (V.bl a = V.bl b) = (a == b) := by cases a <;> cases b <;> decide
theorem dS {a b : Str} : decide (V.str a = V.str b) = decide (a = b) := by
  by_cases h : a = b
  · subst h; rw [decide_eq_true rfl, decide_eq_true rfl]
  · rw [decide_eq_false h, decide_eq_false (fun e => h (V.str.inj e))]
theorem ev_eqI (ha : Ev ta σ H (.int i)) (hb : Ev tb σ H (.int j)) : Ev (tOp rEq ta tb) σ H (.bl (decide (i = j))) := by
  rw [← dI]; exact ev_op ha hb (rv_eq rfl)
theorem ev_neI (ha : Ev ta σ H (.int i)) (hb : Ev tb σ H (.int j)) : Ev (tOp rNe ta tb) σ H (.bl (!decide (i = j))) := by
  rw [← dI]; exact ev_op ha hb (rv_ne rfl)
theorem ev_eqB {a b : Bool} (ha : Ev ta σ H (.bl a)) (hb : Ev tb σ H (.bl b)) : Ev (tOp rEq ta tb) σ H (.bl (a == b)) := by
  rw [← dB]; exact ev_op ha hb (rv_eq rfl)
theorem ev_neB {a b : Bool} (ha : Ev ta σ H (.bl a)) (hb : Ev tb σ H (.bl b)) : Ev (tOp rNe ta tb) σ H (.bl (!(a == b))) := by
  rw [← dB]; exact ev_op ha hb (rv_ne rfl)
theorem ev_eqS {a b : Str} (ha : Ev ta σ H (.str a)) (hb : Ev tb σ H (.str b)) : Ev (tOp rEq ta tb) σ H (.bl (decide (a = b))) := by
  rw [← dS]; exact ev_op ha hb (rv_eq rfl)
theorem ev_neS {a b : Str} (ha : Ev ta σ H (.str a)) (hb : Ev tb σ H (.str b)) : Ev (tOp rNe ta tb) σ H (.bl (!decide (a = b))) := by
  rw [← dS]; exact ev_op ha hb (rv_ne rfl)
theorem rv_isN : RV rIsN x .non H (.bl (decide (x = .non))) := fun H1 _ _ q => ⟨rfl, q H1 (Ex.refl H1)⟩
theorem rv_notN : RV rNotN x .non H (.bl (!decide (x = .non))) := fun H1 _ _ q => ⟨rfl, q H1 (Ex.refl H1)⟩
theorem ev_isN (ha : Ev ta σ H x) : Ev (tOp rIsN ta (tC .non)) σ H (.bl (decide (x = .non))) := ev_op ha ev_c rv_isN
theorem ev_notN (ha : Ev ta σ H x) : Ev (tOp rNotN ta (tC .non)) σ H (.bl (!decide (x = .non))) := ev_op ha ev_c rv_notN
/-- a if t else b -/
theorem ev_ifV {b : Bool} {va vb : V} (h : EvT t σ H b) (h1 : b = true → Ev ta σ H va) (h2 : b = false → Ev tb σ H vb) : Ev (tIf t ta tb) σ H (if b = true then va else vb) := by
  cases b with
  | true => exact ev_if h (fun _ => h1 rfl) (fun e => Bool.noConfusion e)
  | false => exact ev_if h (fun e => Bool.noConfusion e) (fun _ => h2 rfl)
theorem ev_ifI {b : Bool} (h : EvT t σ H b) (h1 : b = true → Ev ta σ H (.int i)) (h2 : b = false → Ev tb σ H (.int j)) : Ev (tIf t ta tb) σ H (.int (if b = true then i else j)) := by
  cases b with
  | true => exact ev_if h (fun _ => h1 rfl) (fun e => Bool.noConfusion e)
  | false => exact ev_if h (fun e => Bool.noConfusion e) (fun _ => h2 rfl)
theorem ev_ifS {b : Bool} {p q : Str} (h : EvT t σ H b) (h1 : b = true → Ev ta σ H (.str p)) (h2 : b = false → Ev tb σ H (.str q)) : Ev (tIf t ta tb) σ H (.str (if b = true then p else q)) := by
  cases b with
  | true => exact ev_if h (fun _ => h1 rfl) (fun e => Bool.noConfusion e)
  | false => exact ev_if h (fun e => Bool.noConfusion e) (fun _ => h2 rfl)
/-- lists and slices -/
theorem el_mono {xs : List V} (e : Ex H H') (h : EvL te σ H xs) : EvL te σ H' xs := EvL.mono e h
theorem el_cat {xs ys : List V} (ha : EvL ta σ H xs) (hb : EvL tb σ H ys) (hz : xs.length + ys.length ≤ 100000) : EvL (tOp rCat ta tb) σ H (xs ++ ys) := fun H1 e Q q =>
  ha H1 e _ fun p H2 hp e2 h2 => hb H2 (e.trans e2) _ fun r H3 hr e3 h3 => ⟨p, r, xs, ys, rfl, rfl, e3 p _ h2, h3, sz_of hz, fun l hl => q l _ (fresh_back (e2.trans e3) hl) ((e2.trans e3).trans (Ex.new hl)) upd_same⟩
/-- the left one stands already -/
theorem el_catV {p : Addr} {xs ys : List V} (ha : Ev ta σ H (.ref p)) (hp : H p = some (.lst xs)) (hb : EvL tb σ H ys) (hz : xs.length + ys.length ≤ 100000) : EvL (tOp rCat ta tb) σ H (xs ++ ys) := fun H1 e Q q =>
  ha H1 e _ fun H2 e2 => hb H2 (e.trans e2) _ fun r H3 hr e3 h3 => ⟨p, r, xs, ys, rfl, rfl, ((e.trans e2).trans e3) p _ hp, h3, sz_of hz, fun l hl => q l _ (fresh_back (e2.trans e3) hl) ((e2.trans e3).trans (Ex.new hl)) upd_same⟩
theorem el_catW {p : Addr} {xs ys : List V} (ha : EvL ta σ H xs) (hb : Ev tb σ H (.ref p)) (hp : H p = some (.lst ys)) (hz : xs.length + ys.length ≤ 100000) : EvL (tOp rCat ta tb) σ H (xs ++ ys) := fun H1 e Q q =>
  ha H1 e _ fun r H2 hr e2 h2 => hb H2 (e.trans e2) _ fun H3 e3 => ⟨r, p, xs, ys, rfl, rfl, e3 r _ h2, ((e.trans e2).trans e3) p _ hp, sz_of hz, fun l hl => q l _ (fresh_back (e2.trans e3) hl) ((e2.trans e3).trans (Ex.new hl)) upd_same⟩
theorem el_catVV {p r : Addr} {xs ys : List V} (ha : Ev ta σ H (.ref p)) (hb : Ev tb σ H (.ref r)) (hp : H p = some (.lst xs)) (hr : H r = some (.lst ys)) (hz : xs.length + ys.length ≤ 100000) : EvL (tOp rCat ta tb) σ H (xs ++ ys) := fun H1 e Q q =>
  ha H1 e _ fun H2 e2 => hb H2 (e.trans e2) _ fun H3 e3 => ⟨p, r, xs, ys, rfl, rfl, ((e.trans e2).trans e3) p _ hp, ((e.trans e2).trans e3) r _ hr, sz_of hz, fun l hl => q l _ (fresh_back (e2.trans e3) hl) ((e2.trans e3).trans (Ex.new hl)) upd_same⟩
theorem el_rep {xs : List V} {k : Int} (ha : EvL ta σ H xs) (hb : Ev tb σ H (.int k)) (h0 : 0 ≤ k) (hk : k ≤ 100000) (hz : xs.length * k.toNat ≤ 100000) : EvL (tOp rRep ta tb) σ H (List.replicate k.toNat xs).flatten := fun H1 e Q q =>
  ha H1 e _ fun p H2 hp e2 h2 => hb H2 (e.trans e2) _ fun H3 e3 => ⟨p, k, xs, rfl, rfl, e3 p _ h2, by omega, by omega, sz_of hz, fun l hl => q l _ (fresh_back (e2.trans e3) hl) ((e2.trans e3).trans (Ex.new hl)) upd_same⟩
theorem flat_one {α : Type} (n : Nat) (x : α) : (List.replicate n [x]).flatten = List.replicate n x := by
  induction n with
  | zero => rfl
  | succ n ih =>
    rw [List.replicate_succ, List.flatten_cons, ih, List.replicate_succ]
    rfl
/-- [x] * k -/
theorem el_rep1 {k : Int} (ha : EvL ta σ H [x]) (hb : Ev tb σ H (.int k)) (h0 : 0 ≤ k) (hk : k ≤ 100000) : EvL (tOp rRep ta tb) σ H (List.replicate k.toNat x) := by
  have h := el_rep ha hb h0 hk (by show 1 * k.toNat ≤ 100000; omega)
  rw [flat_one] at h
  exact h
theorem cut_lo {xs : List V} {i : Int} (h0 : 0 ≤ i) (h1 : i ≤ (xs.length : Int)) : cutV xs (some i) none = xs.drop i.toNat := by
  obtain ⟨k, rfl⟩ : ∃ k : Nat, i = (k : Int) := ⟨i.toNat, by omega⟩
  unfold cutV
  rw [show HT.sIx xs.length 0 (some (k : Int)) = min k xs.length from HT.sIx_nat xs.length 0 k, HT.sIx_none]
  have e : min k xs.length = k := by omega
  rw [e, show ((k : Int)).toNat = k from rfl]
  exact List.take_of_length_le (by rw [List.length_drop]; exact Nat.le_refl _)
theorem cut_hi {xs : List V} {i : Int} (h0 : 0 ≤ i) (h1 : i ≤ (xs.length : Int)) : cutV xs none (some i) = xs.take i.toNat := by
  obtain ⟨k, rfl⟩ : ∃ k : Nat, i = (k : Int) := ⟨i.toNat, by omega⟩
  unfold cutV
  rw [show HT.sIx xs.length xs.length (some (k : Int)) = min k xs.length from HT.sIx_nat xs.length xs.length k, HT.sIx_none]
  have e : min k xs.length = k := by omega
  rw [e, show ((k : Int)).toNat = k from rfl, Nat.sub_zero]
  rfl
theorem el_from {p : Addr} {xs : List V} {tl : TO} (h : Ev te σ H (.ref p)) (h1 : EvO tl σ H (some i)) (hs : SqL K H p xs) (h0 : 0 ≤ i) (hl : i ≤ (xs.length : Int)) : EvL (tSl (rSlL K) te tl tNoPart) σ H (xs.drop i.toNat) := by
  rw [← cut_lo h0 hl]; exact el_sl h h1 eo_none hs
theorem el_upto {p : Addr} {xs : List V} {th : TO} (h : Ev te σ H (.ref p)) (h1 : EvO th σ H (some i)) (hs : SqL K H p xs) (h0 : 0 ≤ i) (hl : i ≤ (xs.length : Int)) : EvL (tSl (rSlL K) te tNoPart th) σ H (xs.take i.toNat) := by
  rw [← cut_hi h0 hl]; exact el_sl h eo_none h1 hs
/-- lengths -/
def rLenT : List V → Hp → VK → Prop := fun xs H Q => ∃ z, xs = [.str z] ∧ z.length ≤ sizeLine ∧ Q (.int z.length) H
theorem ev_lenS {z : Str} (ha : Ev ta σ H (.str z)) (hz : z.length ≤ 100000) : Ev (tCB rLenT (tCons ta tNil)) σ H (.int (z.length : Int)) := fun H1 e Q q => ha H1 e _ fun H2 e2 => ⟨z, rfl, sz_of hz, q H2 e2⟩
theorem ev_lenI {p : Addr} {ns : List Int} (ha : Ev ta σ H (.ref p)) (h : SqL K H p (ns.map V.int)) : Ev (tCB (rLenS K) (tCons ta tNil)) σ H (.int (ns.length : Int)) := by
  have q := ev_len ha h
  rw [List.length_map] at q
  exact q
theorem ev_lenT {p : Addr} {xs : List V} (ha : Ev ta σ H (.ref p)) (h : SqT K H p xs) : Ev (tCB (rLenS K) (tCons ta tNil)) σ H (.int (xs.length : Int)) := fun H1 e Q q =>
  ha H1 e _ fun H2 e2 => ⟨p, xs, rfl, Or.inr (ex_t (e.trans e2) h), q H2 e2⟩
/-- isinstance -/
theorem ev_isi {cn : String} {b : Bool} {tt : Value} (ha : Ev ta σ H x) (ty : ∀ H1, Ex H H1 → TyX K H1 x tt) (hk : PySem.W.kitOne K tt (.type cn) = some b) : Ev (tCB (rIsi K) (tCons ta (tCons (tC (.ty cn)) tNil))) σ H (.bl b) := fun H1 e Q q =>
  ha H1 e _ fun H2 e2 => ⟨x, .ty cn, tt, .type cn, b, rfl, ClsV.ty cn, ty H2 (e.trans e2), hk, q H2 e2⟩
/-- max, min of two, int of a bool, list(..), tuple(..) -/
def rMin2 : List V → Hp → VK → Prop := fun xs H Q => ∃ i j, xs = [.int i, .int j] ∧ Q (.int (if j < i then j else i)) H
theorem ev_min2 (ha : Ev ta σ H (.int i)) (hb : Ev tb σ H (.int j)) : Ev (tCB rMin2 (tCons ta (tCons tb tNil))) σ H (.int (if j < i then j else i)) := fun H1 e Q q =>
  ha H1 e _ fun H2 e2 => hb H2 (e.trans e2) _ fun H3 e3 => ⟨i, j, rfl, q H3 (e2.trans e3)⟩
def rInt1 : List V → Hp → VK → Prop := fun xs H Q => (∃ i, xs = [.int i] ∧ Q (.int i) H) ∨ ∃ k, xs = [.bl k] ∧ Q (.int (if k then 1 else 0)) H
theorem ev_intB {b : Bool} (ha : Ev ta σ H (.bl b)) : Ev (tCB rInt1 (tCons ta tNil)) σ H (.int (if b then 1 else 0)) := fun H1 e Q q => ha H1 e _ fun H2 e2 => .inr ⟨b, rfl, q H2 e2⟩
/-- sorted of a list made on the way -/
theorem el_sortedN {ns ms : List Int} (ha : EvL ta σ H (ns.map V.int)) (hm : ∀ ms', ms'.Perm ns → ms'.Pairwise (· ≤ ·) → ms' = ms) : EvL (tCB (rSortedI K) (tCons ta tNil)) σ H (ms.map V.int) := fun H1 e Q q =>
  ha H1 e _ fun p H2 hp e2 h2 => ⟨p, ns, rfl, sq_of h2, fun ms' l hP hO hl => by
    rw [hm ms' hP hO]
    exact q l _ (fresh_back e2 hl) (e2.trans (Ex.new hl)) upd_same⟩
theorem el_sortedL {p : Addr} {ns ms : List Int} (ha : Ev ta σ H (.ref p)) (hs : SqL K H p (ns.map V.int)) (hm : ∀ ms', ms'.Perm ns → ms'.Pairwise (· ≤ ·) → ms' = ms) : EvL (tCB (rSortedI K) (tCons ta tNil)) σ H (ms.map V.int) := fun H1 e Q q =>
  ha H1 e _ fun H2 e2 => ⟨p, ns, rfl, ex_l (e.trans e2) hs, fun ms' l hP hO hl => by
    rw [hm ms' hP hO]
    exact q l _ (fresh_back e2 hl) (e2.trans (Ex.new hl)) upd_same⟩
end

/-! ### promises -/
theorem spv {sp : Sp} {vs : List V} {H : Hp} {z : V} (h : ∀ H1, Ex H H1 → ∀ Q : VK, (∀ H2, Ex H1 H2 → Q z H2) → ∀ E : XK, sp vs H1 Q E) : SpV sp vs H z := h
theorem ev_callD {sp : Sp} {vs : List V} {E : XK} {ta : TA} {σ : L2.St} {H : Hp} {z : V} (h : EvA ta σ H vs) (hs : SpV sp vs H z) : Ev (tCall sp [] E ta) σ H z := ev_call h (by rw [List.append_nil]; exact hs)
theorem el_callD {sp : Sp} {vs xs : List V} {E : XK} {ta : TA} {σ : L2.St} {H : Hp} (h : EvA ta σ H vs) (hs : SpL sp vs H xs) : EvL (tCall sp [] E ta) σ H xs := el_call h (by rw [List.append_nil]; exact hs)
/-- a new list that keeps a word -/
def EvLP (te : TE) (σ : L2.St) (H : Hp) (P : List V → Prop) : Prop := ∀ H1, Ex H H1 → ∀ Q : VK, (∀ xs p H2, P xs → H1 p = none → Ex H1 H2 → H2 p = some (.lst xs) → Q (.ref p) H2) → te σ H1 Q
def SpLP (sp : Sp) (vs : List V) (H : Hp) (P : List V → Prop) : Prop := ∀ H1, Ex H H1 → ∀ Q : VK, (∀ xs p H2, P xs → H1 p = none → Ex H1 H2 → H2 p = some (.lst xs) → Q (.ref p) H2) → ∀ E : XK, sp vs H1 Q E
theorem elp_call {sp : Sp} {vs : List V} {E : XK} {ta : TA} {σ : L2.St} {H : Hp} {P : List V → Prop} (h : EvA ta σ H vs) (hs : SpLP sp vs H P) : EvLP (tCall sp [] E ta) σ H P := fun H1 e Q q =>
  h H1 e _ fun H2 e2 => by
    rw [List.append_nil]
    exact hs H2 (e.trans e2) Q (fun xs p H3 hP hp e3 h3 => q xs p H3 hP (fresh_back e2 hp) (e2.trans e3) h3) E
theorem EvLP.mono {te : TE} {σ : L2.St} {H H' : Hp} {P : List V → Prop} (e : Ex H H') (h : EvLP te σ H P) : EvLP te σ H' P := fun H1 a Q q => h H1 (e.trans a) Q q
theorem g_asgP {te : TE} {σ : L2.St} {H : Hp} {P : List V → Prop} {i : Nat} {D : Ends} {tz : TS} (h : EvLP te σ H P) (k : ∀ xs p H1, P xs → H p = none → Ex H H1 → H1 p = some (.lst xs) → Go tz D (σ.set i (some (.ref p))) H1) :
    Go (tSeq (tAsg te (gName i)) tz) D σ H := fun H1 e => h H1 e _ fun xs p H2 hP hp e2 h2 => (k xs p H2 hP (fresh_back e hp) (e.trans e2) h2).here
/-- the promise's shape: a list that keeps a word -/
def RetP (P : List V → Prop) (H : Hp) (Q : VK) : Prop := ∀ xs p H2, P xs → H p = none → Ex H H2 → H2 p = some (.lst xs) → Q (.ref p) H2

/-! ### loops -/
section
variable {K : PySem.W.Frag} {σ : L2.St} {H : Hp} {te tl : TE} {ta : TA} {D : Ends} {tu tz : TS} {g : TG}
/-- for j in range(n): the word Pv of the turn, the slots, the heap -/
theorem g_forR1 {j : Nat} {n : Int} (h : EvA ta σ H [.int n]) (hn : n ≤ 100000) (Pv : Nat → L2.St → Hp → Prop) (h0 : ∀ H1, Ex H H1 → Pv 0 σ H1)
    (hs : ∀ (i : Nat) σ' H', (i : Int) < n → Pv i σ' H' → Go tu { D with nx := Pv (i + 1), ct := Pv (i + 1), bk := tz D } (σ'.set j (some (.int (i : Int)))) H') (hd : ∀ σ' H', Pv n.toNat σ' H' → Go tz D σ' H') (hlo : -100000 ≤ n) : Go (tSeq (tFor (iRng1 ta) (gName j) tu) tz) D σ H := fun H0 e0 =>
  h H0 e0 _ fun H1 e => ⟨n, rfl, by omega, by omega, for_range (lo := 0) (n := n.toNat) Pv (h0 H1 (e0.trans e)) (fun i σ' H' hi p => by
    have e0 : (0 : Int) + (i : Int) = (i : Int) := Int.zero_add _
    show tu { D with nx := Pv (i + 1), ct := Pv (i + 1), bk := tz D } (σ'.set j (some (.int ((0 : Int) + (i : Int))))) H'
    rw [e0]
    exact (hs i σ' H' (by omega) p).here) (fun σ' H' p => (hd σ' H' p).here)⟩
theorem g_forR2 {j : Nat} {lo n : Int} (h : EvA ta σ H [.int lo, .int n]) (hn : -100000 ≤ lo ∧ lo ≤ 100000 ∧ -100000 ≤ n ∧ n ≤ 100000) (Pv : Nat → L2.St → Hp → Prop) (h0 : ∀ H1, Ex H H1 → Pv 0 σ H1)
    (hs : ∀ (i : Nat) σ' H', lo + (i : Int) < n → Pv i σ' H' → Go tu { D with nx := Pv (i + 1), ct := Pv (i + 1), bk := tz D } (σ'.set j (some (.int (lo + (i : Int))))) H') (hd : ∀ σ' H', Pv (n - lo).toNat σ' H' → Go tz D σ' H') : Go (tSeq (tFor (iRng2 ta) (gName j) tu) tz) D σ H := fun H0 e0 =>
  h H0 e0 _ fun H1 e => ⟨lo, n, rfl, ⟨by omega, by omega, by omega, by omega⟩, for_range (lo := lo) (n := (n - lo).toNat) Pv (h0 H1 (e0.trans e)) (fun i σ' H' hi p => (hs i σ' H' (by omega) p).here) (fun σ' H' p => (hd σ' H' p).here)⟩
theorem rangeSize_two {a b : Int} : Builtin.Range.rangeSize a b 2 = (((b - a + 1) / 2).toNat : Nat) := by
  unfold Builtin.Range.rangeSize
  split <;> split <;> omega
theorem small_two {a b : Int} (ha : -100000 ≤ a) (ha' : a ≤ 100000) (hb : -100000 ≤ b) (hb' : b ≤ 100000) : Builtin.Range.small a b 2 = true := by
  unfold Builtin.Range.small
  rw [rangeSize_two]
  simp only [Builtin.Range.rangeFitsLong, Bool.and_eq_true, Bool.or_eq_true, decide_eq_true_eq, beq_iff_eq, show (2 : Int) > 0 by decide, if_true]
  omega
/-- for j in range(lo, n, 2) -/
theorem g_forR3 {j : Nat} {lo n : Int} (h : EvA ta σ H [.int lo, .int n, .int 2]) (hn : -100000 ≤ lo ∧ lo ≤ 100000 ∧ -100000 ≤ n ∧ n ≤ 100000) (Pv : Nat → L2.St → Hp → Prop) (h0 : ∀ H1, Ex H H1 → Pv 0 σ H1)
    (hs : ∀ (i : Nat) σ' H', lo + (i : Int) * 2 < n → Pv i σ' H' → Go tu { D with nx := Pv (i + 1), ct := Pv (i + 1), bk := tz D } (σ'.set j (some (.int (lo + (i : Int) * 2)))) H') (hd : ∀ σ' H', Pv ((n - lo + 1) / 2).toNat σ' H' → Go tz D σ' H') : Go (tSeq (tFor (iRng3 ta) (gName j) tu) tz) D σ H := fun H0 e0 =>
  h H0 e0 _ fun H1 e => ⟨lo, n, 2, ((n - lo + 1) / 2).toNat, rfl, ⟨by decide, by decide, small_two hn.1 hn.2.1 hn.2.2.1 hn.2.2.2, rangeSize_two⟩, for_rangeC (lo := lo) (c := 2) (n := ((n - lo + 1) / 2).toNat) Pv (h0 H1 (e0.trans e)) (fun i σ' H' hi p => (hs i σ' H' (by omega) p).here) (fun σ' H' p => (hd σ' H' p).here)⟩
/-- for over a list that stands -/
theorem g_forL {j : Nat} {a : Addr} {xs : List V} (h : Ev tl σ H (.ref a)) (hx : SqL K H a xs) (Pv : Nat → L2.St → Hp → Prop) (h0 : ∀ H1, Ex H H1 → Pv 0 σ H1) (hl : ∀ i σ' H', i ≤ xs.length → Pv i σ' H' → SqL K H' a xs)
    (hs : ∀ (i : Nat) x σ' H', xs[i]? = some x → Pv i σ' H' → Go tu { D with nx := Pv (i + 1), ct := Pv (i + 1), bk := tz D } (σ'.set j (some x)) H') (hd : ∀ σ' H', Pv xs.length σ' H' → Go tz D σ' H') : Go (tSeq (tFor (iList K tl) (gName j) tu) tz) D σ H := fun H0 e0 =>
  h H0 e0 _ fun H1 e => ⟨a, rfl, ⟨xs, ex_l (e0.trans e) hx⟩, for_list Pv (h0 H1 (e0.trans e)) hl (fun i x σ' H' hi p => (hs i x σ' H' hi p).here) (fun σ' H' p => (hd σ' H' p).here)⟩
/-- for over a list made in the head -/
theorem g_forN {j : Nat} {xs : List V} (h : EvL tl σ H xs) (Pv : Addr → Nat → L2.St → Hp → Prop) (h0 : ∀ p H1, H p = none → Ex H H1 → H1 p = some (.lst xs) → Pv p 0 σ H1) (hl : ∀ p i σ' H', i ≤ xs.length → Pv p i σ' H' → SqL K H' p xs)
    (hs : ∀ p (i : Nat) x σ' H', xs[i]? = some x → Pv p i σ' H' → Go tu { D with nx := Pv p (i + 1), ct := Pv p (i + 1), bk := tz D } (σ'.set j (some x)) H') (hd : ∀ p σ' H', Pv p xs.length σ' H' → Go tz D σ' H') : Go (tSeq (tFor (iList K tl) (gName j) tu) tz) D σ H := fun H0 e0 =>
  h H0 e0 _ fun p H1 hp e h1 => ⟨p, rfl, ⟨xs, sq_of h1⟩, for_list (Pv p) (h0 p H1 (fresh_back e0 hp) (e0.trans e) h1) (hl p) (fun i x σ' H' hi pv => (hs p i x σ' H' hi pv).here) (fun σ' H' pv => (hd p σ' H' pv).here)⟩
/-- for i, x in enumerate(list) -/
theorem g_forE {j k : Nat} {a : Addr} {xs : List V} (h : EvA ta σ H [.ref a]) (hx : SqL K H a xs) (Pv : Nat → L2.St → Hp → Prop) (h0 : ∀ H1, Ex H H1 → Pv 0 σ H1) (hl : ∀ i σ' H', i ≤ xs.length → Pv i σ' H' → SqL K H' a xs)
    (hs : ∀ (i : Nat) x T σ' H', xs[i]? = some x → Pv i σ' H' → H' T = none → Go tu { D with nx := Pv (i + 1), ct := Pv (i + 1), bk := tz D } ((σ'.set j (some (.int (i : Int)))).set k (some x)) (upd H' T (.tup [.int (i : Int), x]))) (hd : ∀ σ' H', Pv xs.length σ' H' → Go tz D σ' H') :
    Go (tSeq (tFor (iEnum K ta) (gTup K 2 (gCons (gName j) (gCons (gName k) gNil))) tu) tz) D σ H := fun H0 e0 =>
  h H0 e0 _ fun H1 e => ⟨a, xs, rfl, ex_l (e0.trans e) hx, for_it walk_enum Pv (h0 H1 (e0.trans e)) hl (fun i x σ' H' H'' hi p y => by
    obtain ⟨T, u, w, rfl, hT, rfl, h4, h5⟩ := y
    cases h4
    exact ⟨T, [.int (i : Int), w], rfl, .inl (.inl upd_same), rfl, .int (i : Int), [w], rfl, w, [], rfl, rfl, (hs i w T σ' H' h5 p hT).here⟩) (fun σ' H' p => (hd σ' H' p).here)⟩
end

/-! ### writing a list of one's own -/
section
variable {K : PySem.W.Frag} {σ : L2.St} {H : Hp} {ta tb te : TE} {D : Ends} {tz : TS} {v : V}
theorem g_setL {l : Addr} {xs : List V} {j : Int} (hl : H l = some (.lst xs)) (h : Ev te σ H v) (ho : Ev ta σ H (.ref l)) (hi : Ev tb σ H (.int j)) (h0 : 0 ≤ j) (hj : j < (xs.length : Int)) (k : ∀ H1, Ex H H1 → tz D σ (upd H1 l (.lst (xs.set j.toNat v)))) :
    Go (tSeq (tAsg te (gSub ta tb rSetL)) tz) D σ H := fun H1 e1 => by
  have e : j = (j.toNat : Int) := by omega
  rw [e] at hi
  exact q_setL (e1 l _ hl) (h.mono e1) (ho.mono e1) (hi.mono e1) (by omega) fun H2 e2 => k H2 (e1.trans e2)
theorem g_app {l : Addr} {xs : List V} (hl : H l = some (.lst xs)) (ha : Ev ta σ H (.ref l)) (h : Ev te σ H v) (hz : xs.length < 100000) (k : ∀ H1, Ex H H1 → tz D σ (upd H1 l (.lst (xs ++ [v])))) :
    Go (tSeq (tDrop (tBM K "list" rAppend ta (tCons te tNil))) tz) D σ H := fun H1 e1 => q_app (e1 l _ hl) (ha.mono e1) (h.mono e1) hz fun H2 e2 => k H2 (e1.trans e2)
theorem g_appL {l : Addr} {xs ys : List V} (hl : H l = some (.lst xs)) (ha : Ev ta σ H (.ref l)) (h : EvL te σ H ys) (hz : xs.length < 100000) (k : ∀ p H1, H p = none → Ex H H1 → H1 p = some (.lst ys) → tz D σ (upd H1 l (.lst (xs ++ [.ref p])))) :
    Go (tSeq (tDrop (tBM K "list" rAppend ta (tCons te tNil))) tz) D σ H := fun H1 e1 => q_appL (e1 l _ hl) (ha.mono e1) (h.mono e1) hz fun p H2 hp e2 h2 => k p H2 (fresh_back e1 hp) (e1.trans e2) h2
end

/-! ### rules of one's own -/
open PyProof.Rows in
/-- an int is not True, is not False -/
def rNotIB : R2 := fun x y H Q => ∃ (i : Int) (b : Bool), x = .int i ∧ y = .bl b ∧ Q (.bl true) H
theorem op_notIB {X : Cx} : OpR X (compareOp .IsNot) rNotIB := by
  intro pins s σ H x y v u Q I rx ry h
  obtain ⟨i, b, rfl, rfl, q⟩ := h
  obtain ⟨t, rfl⟩ := (show ∃ t, v = Value.int i t from rx)
  obtain rfl := (show u = Value.bool b from ry)
  exact wpAny_isNot_other rfl (fun z => nomatch z) ⟨.bl true, H, I, rfl, q⟩
def rJoin (K : PySem.W.Frag) : V → List V → Hp → VK → Prop := fun x xs H Q => ∃ a p, ∃ ys : List Str, x = .str a ∧ xs = [.ref p] ∧ (SqL K H p (ys.map V.str) ∨ SqT K H p (ys.map V.str)) ∧
    (ys.map (·.length)).sum + ys.length * a.length ≤ 16777216 ∧ Q (.str (Txt.join a ys)) H
def rAbs : List V → Hp → VK → Prop := fun xs H Q => ∃ i, xs = [.int i] ∧ Q (.int (if i < 0 then -i else i)) H
def rTupS (K : PySem.W.Frag) : List V → Hp → VK → Prop := fun xs H Q => ∃ p ys, xs = [.ref p] ∧ ((SqL K H p ys ∧ ∀ l, H l = none → Q (.ref l) (upd H l (.tup ys))) ∨ (SqT K H p ys ∧ Q (.ref p) H))
def rCatS : R2 := fun x y H Q => ∃ i j, x = .str i ∧ y = .str j ∧ i.length + j.length ≤ sizeLine ∧ Q (.str (i ++ j)) H
section
variable {K : PySem.W.Frag} {σ : L2.St} {H H' : Hp} {ta tb te : TE} {i : Int} {b : Bool} {p : Addr}
theorem ev_notIB (ha : Ev ta σ H (.int i)) (hb : Ev tb σ H (.bl b)) : Ev (tOp rNotIB ta tb) σ H (.bl true) := ev_op ha hb fun H1 _ _ q => ⟨i, b, rfl, rfl, q H1 (Ex.refl H1)⟩
theorem dp_ints {K : PySem.W.Frag} {H : Hp} : ∀ ns : List Int, DpAll K H (ns.map V.int) (ns.map PyData.int)
  | [] => .nil
  | n :: r => .cons (.int n) (dp_ints r)
theorem eqv_ints : ∀ ns ms : List Int, PyData.eqvAll (ns.map PyData.int) (ms.map PyData.int) = decide (ns = ms)
  | [], [] => rfl
  | [], _ :: _ => rfl
  | _ :: _, [] => rfl
  | n :: r, m :: s => by
    show ((n == m) && PyData.eqvAll (r.map PyData.int) (s.map PyData.int)) = decide (n :: r = m :: s)
    rw [eqv_ints r s]
    by_cases h : n = m
    · subst h
      by_cases h2 : r = s
      · subst h2; simp
      · simp [h2]
    · simp [h]
/-- == of two lists of ints -/
theorem rv_eqL {a b : Addr} {ns ms : List Int} (h1 : SqL K H a (ns.map V.int)) (h2 : SqL K H b (ms.map V.int)) : RV (rEqD K) (.ref a) (.ref b) H (.bl (decide (ns = ms))) := fun H1 e _ q =>
  ⟨.list (ns.map PyData.int), .list (ms.map PyData.int), .lst (ex_l e h1) (dp_ints ns), .lst (ex_l e h2) (dp_ints ms), PySem.W.ke_shaped_ints ns, PySem.W.ke_shaped_ints ms, by
    rw [show PyData.eqv (.list (ns.map PyData.int)) (.list (ms.map PyData.int)) = decide (ns = ms) from eqv_ints ns ms]
    exact q H1 (Ex.refl H1)⟩
theorem rv_neL {a b : Addr} {ns ms : List Int} (h1 : SqL K H a (ns.map V.int)) (h2 : SqL K H b (ms.map V.int)) : RV (rNeD K) (.ref a) (.ref b) H (.bl (!decide (ns = ms))) := fun H1 e _ q =>
  ⟨.list (ns.map PyData.int), .list (ms.map PyData.int), .lst (ex_l e h1) (dp_ints ns), .lst (ex_l e h2) (dp_ints ms), PySem.W.ke_shaped_ints ns, PySem.W.ke_shaped_ints ms, by
    rw [show PyData.eqv (.list (ns.map PyData.int)) (.list (ms.map PyData.int)) = decide (ns = ms) from eqv_ints ns ms]
    exact q H1 (Ex.refl H1)⟩
theorem ev_eqL {a b : Addr} {ns ms : List Int} (ha : Ev ta σ H (.ref a)) (hb : Ev tb σ H (.ref b)) (h1 : SqL K H a (ns.map V.int)) (h2 : SqL K H b (ms.map V.int)) : Ev (tOp (rEqD K) ta tb) σ H (.bl (decide (ns = ms))) := ev_op ha hb (rv_eqL h1 h2)
theorem ev_neL {a b : Addr} {ns ms : List Int} (ha : Ev ta σ H (.ref a)) (hb : Ev tb σ H (.ref b)) (h1 : SqL K H a (ns.map V.int)) (h2 : SqL K H b (ms.map V.int)) : Ev (tOp (rNeD K) ta tb) σ H (.bl (!decide (ns = ms))) := ev_op ha hb (rv_neL h1 h2)
/-- xs != [] -/
theorem ev_neNil {a : Addr} {ns : List Int} (ha : Ev ta σ H (.ref a)) (h1 : SqL K H a (ns.map V.int)) : Ev (tOp (rNeD K) ta (tLst tNil)) σ H (.bl (!decide (ns = []))) :=
  ev_opL (xs := ([] : List Int).map V.int) ha (el_lst ea_nil (Nat.zero_le _)) fun q H1 hq e => rv_neL (ex_l e h1) (sq_of hq)
theorem ev_eqNil {a : Addr} {ns : List Int} (ha : Ev ta σ H (.ref a)) (h1 : SqL K H a (ns.map V.int)) : Ev (tOp (rEqD K) ta (tLst tNil)) σ H (.bl (decide (ns = []))) :=
  ev_opL (xs := ([] : List Int).map V.int) ha (el_lst ea_nil (Nat.zero_le _)) fun q H1 hq e => rv_eqL (ex_l e h1) (sq_of hq)
/-- signs joined -/
def txt (l : List Nat) : Str := ⟨l.toArray⟩
theorem txt_len (l : List Nat) : (txt l).length = l.length := by simp [txt, Str.length]
theorem joinL_one : ∀ l : List Nat, TL.joinL [] (l.map fun c => [c]) = l
  | [] => rfl
  | [_] => rfl
  | a :: b :: r => by
    show [a] ++ ([] ++ TL.joinL [] ((b :: r).map fun c => [c])) = a :: b :: r
    rw [joinL_one (b :: r)]
    rfl
theorem join_txt (l : List Nat) : Txt.join "" (l.map fun c => (⟨#[c]⟩ : Str)) = txt l := by
  rw [TL.join_eq]
  have h : TL.tl (Str.join "" (l.map fun c => (⟨#[c]⟩ : Str))) = l := by
    rw [TL.tl_join]
    have e : (l.map fun c => (⟨#[c]⟩ : Str)).map TL.tl = l.map fun c => [c] := by
      rw [List.map_map]
      rfl
    rw [e]
    exact joinL_one l
  have h2 : (Str.join "" (l.map fun c => (⟨#[c]⟩ : Str))) = ⟨(TL.tl (Str.join "" (l.map fun c => (⟨#[c]⟩ : Str)))).toArray⟩ := rfl
  rw [h2, h]
  rfl
theorem sum_one : ∀ l : List Nat, ((l.map fun c => (⟨#[c]⟩ : Str)).map (·.length)).sum = l.length
  | [] => rfl
  | a :: r => by
    show 1 + ((r.map fun c => (⟨#[c]⟩ : Str)).map (·.length)).sum = r.length + 1
    rw [sum_one r]
    omega
/-- "".join(signs) -/
theorem ev_join {l : List Nat} (hc : Ev tb σ H (.ref p)) (hp : SqL K H p ((l.map fun c => (⟨#[c]⟩ : Str)).map V.str)) (hz : l.length ≤ 100000) : Ev (tBM K "str" (rJoin K) (tC (.str "")) (tCons tb tNil)) σ H (.str (txt l)) := fun H1 e Q q => by
  refine ⟨rfl, hc H1 e _ fun H2 e2 => ⟨"", p, l.map fun c => (⟨#[c]⟩ : Str), rfl, rfl, .inl (ex_l (e.trans e2) hp), ?_, ?_⟩⟩
  · rw [sum_one, show (("" : Str)).length = 0 from rfl]
    omega
  · rw [join_txt]
    exact q H2 e2
end
section
variable {K : PySem.W.Frag} {σ : L2.St} {H H' : Hp} {ta tb te : TE} {i : Int} {b : Bool} {p : Addr}
theorem ev_isiL {xs : List V} (ha : Ev ta σ H (.ref p)) (hp : H p = some (.lst xs)) : Ev (tCB (rIsi K) (tCons ta (tCons (tC (.ty "list")) tNil))) σ H (.bl true) :=
  ev_isi (tt := .type "list") ha (fun H1 e => .base (.lst (e p _ hp))) (kit_ty (by decide +kernel))
theorem ev_isiU {xs : List V} (ha : Ev ta σ H (.ref p)) (hp : H p = some (.tup xs)) : Ev (tCB (rIsi K) (tCons ta (tCons (tC (.ty "tuple")) tNil))) σ H (.bl true) :=
  ev_isi (tt := .type "tuple") ha (fun H1 e => .base (.tup (e p _ hp))) (kit_ty (by decide +kernel))
theorem ev_isiI (ha : Ev ta σ H (.int i)) : Ev (tCB (rIsi K) (tCons ta (tCons (tC (.ty "int")) tNil))) σ H (.bl true) := ev_isi (tt := .type "int") ha (fun H1 e => .base (.int i)) (kit_ty (by decide +kernel))
theorem ev_isiS {z : Str} (ha : Ev ta σ H (.str z)) : Ev (tCB (rIsi K) (tCons ta (tCons (tC (.ty "str")) tNil))) σ H (.bl true) := ev_isi (tt := .type "str") ha (fun H1 e => .base (.str z)) (kit_ty (by decide +kernel))
theorem ev_isiB (ha : Ev ta σ H (.bl b)) : Ev (tCB (rIsi K) (tCons ta (tCons (tC (.ty "bool")) tNil))) σ H (.bl true) := ev_isi (tt := .type "bool") ha (fun H1 e => .base (.bl b)) (kit_ty (by decide +kernel))
theorem atI_txt {l : List Nat} (h0 : 0 ≤ i) (h1 : i < (l.length : Int)) : atI (txt l).cps.toList i = some (l.getD i.toNat 0) := by
  have h2 : i.toNat < l.length := by omega
  have e : (txt l).cps.toList = l := by simp [txt]
  rw [e]
  have e2 : i = ((i.toNat : Nat) : Int) := by omega
  rw [e2]
  refine atI_nat ?_
  rw [List.getD_eq_getElem?_getD, show ((i.toNat : Nat) : Int).toNat = i.toNat from rfl, List.getElem?_eq_getElem h2]
  rfl
/-- a sign of a text -/
theorem ev_ixTxt {l : List Nat} (ha : Ev ta σ H (.str (txt l))) (hb : Ev tb σ H (.int i)) (h0 : 0 ≤ i) (h1 : i < (l.length : Int)) (hz : l.length ≤ 100000) : Ev (tOp rIxS ta tb) σ H (.str ⟨#[l.getD i.toNat 0]⟩) :=
  ev_op ha hb (rv_ixS (by rw [txt_len]; exact hz) (atI_txt h0 h1))
/-- one of two written texts -/
theorem ev_ix2 {x y : Str} (hb : Ev tb σ H (.int (if b = true then 1 else 0))) : Ev (tOp (rIxL K) (tLst (tCons (tC (.str x)) (tCons (tC (.str y)) tNil))) tb) σ H (.str (if b = true then y else x)) :=
  ev_ixNew (xs := [.str x, .str y]) (el_lst (ea_cons ev_c (ea_cons ev_c ea_nil)) (Nat.le_of_ble_eq_true rfl)) hb (by cases b <;> rfl)
theorem ev_lenTxt {l : List Nat} (ha : Ev ta σ H (.str (txt l))) (hz : l.length ≤ 100000) : Ev (tCB rLenT (tCons ta tNil)) σ H (.int (l.length : Int)) := by
  have h := ev_lenS ha (by rw [txt_len]; exact hz)
  rw [txt_len] at h
  exact h
theorem sg_V : (Str.ofString "V") = (⟨#[86]⟩ : Str) := by decide +kernel
theorem sg_M : (Str.ofString "M") = (⟨#[77]⟩ : Str) := by decide +kernel
end
/-- the classes of the program, by their addresses; the sizes that the law draws of -/
structure Cs where
  np : Addr
  nc : Addr
  nl : Addr
  nn : Addr
  st : Addr
  cr : Addr
  se : Addr
  sz : List Int
theorem passE {P : Program} {w : World} {K : PySem.W.Frag} {mg : Str → Option Value} {base : Heap} {N : List Str} {q : Str} {sc : Scope} {f : Addr} {cd : Value} {A : Around} {o : List Env} {s : Shared} {H : Hp} {E : XK} :
    Passes (L2.CX P w) (cxOf (L2.CX P w) P w K mg base N q sc f cd A o s H E) E := passes_call (takes_of rfl rfl rfl rfl) fun _ _ _ _ h => h
end Fo
/-! FoldM -/
namespace Fo
open PySem L2 Evl

/-! ### lists of ints by place -/
theorem gi_nat (ns : List Int) (k : Nat) : gi ns (k : Int) = ns.getD k 0 := rfl
theorem gi_get {ns : List Int} {k : Nat} (h : k < ns.length) : ns[k]? = some (gi ns (k : Int)) := by
  rw [gi_nat, List.getD_eq_getElem?_getD, List.getElem?_eq_getElem h]
  rfl
theorem gi_getI {ns : List Int} {i : Int} (h0 : 0 ≤ i) (h : i < (ns.length : Int)) : ns[i.toNat]? = some (gi ns i) := by
  have h2 : i.toNat < ns.length := by omega
  have e : i = ((i.toNat : Nat) : Int) := by omega
  rw [gi_get h2, ← e]
theorem gi_mem {ns : List Int} {i : Int} (h0 : 0 ≤ i) (h : i < (ns.length : Int)) : gi ns i ∈ ns := List.mem_of_getElem? (gi_getI h0 h)
theorem mem_gi {ns : List Int} {x : Int} (h : x ∈ ns) : ∃ k : Nat, k < ns.length ∧ gi ns (k : Int) = x := by
  obtain ⟨k, hk, e⟩ := List.mem_iff_getElem.mp h
  refine ⟨k, hk, ?_⟩
  have q := gi_get hk
  rw [List.getElem?_eq_getElem hk, e] at q
  exact (Option.some.inj q).symm
theorem gi_ext {xs ys : List Int} (hl : xs.length = ys.length) (h : ∀ k : Nat, k < xs.length → gi xs (k : Int) = gi ys (k : Int)) : xs = ys := by
  refine List.ext_getElem? fun k => ?_
  by_cases hk : k < xs.length
  · rw [gi_get hk, gi_get (by omega), h k hk]
  · rw [List.getElem?_eq_none (by omega), List.getElem?_eq_none (by omega)]
theorem gi_mapR {n : Nat} (f : Nat → Int) {k : Nat} (h : k < n) : gi ((List.range n).map f) (k : Int) = f k := by
  refine gi_of ?_
  rw [List.getElem?_map, List.getElem?_range h]
  rfl
theorem gi_set {xs : List Int} {j k : Nat} {y : Int} (hj : j < xs.length) : gi (xs.set j y) (k : Int) = if k = j then y else gi xs (k : Int) := by
  rw [gi_nat, gi_nat, List.getD_eq_getElem?_getD, List.getD_eq_getElem?_getD, List.getElem?_set]
  by_cases h : k = j
  · subst h
    rw [if_pos rfl, if_pos rfl, if_pos hj]
    rfl
  · rw [if_neg (fun e => h e.symm), if_neg h]

/-! ### many numbers below a bound -/
theorem php : ∀ (n : Nat) (l : List Int), l.Nodup → (∀ x ∈ l, 0 ≤ x ∧ x < (n : Int)) → l.length ≤ n
  | 0, l, _, h => by
    cases l with
    | nil => exact Nat.le_refl _
    | cons x r => have := h x List.mem_cons_self; omega
  | n + 1, l, nd, h => by
    have h1 : (l.erase (n : Int)).length ≤ n := php n _ (nd.erase _) fun x hx => by
      have hm := (nd.mem_erase_iff).mp hx
      have := h x hm.2
      have h2 := hm.1
      omega
    by_cases hm : (n : Int) ∈ l
    · rw [List.length_erase_of_mem hm] at h1
      omega
    · rw [List.erase_of_not_mem hm] at h1
      omega

/-! ### piles -/
structure IsPile (ns : List Int) : Prop where
  pos : 0 < ns.length
  bnd : ∀ x ∈ ns, 0 ≤ x ∧ x < (ns.length : Int)
  nd : ns.Nodup
instance (ns : List Int) : Decidable (IsPile ns) :=
  if h : 0 < ns.length ∧ (∀ x ∈ ns, 0 ≤ x ∧ x < (ns.length : Int)) ∧ ns.Nodup then isTrue ⟨h.1, h.2.1, h.2.2⟩ else isFalse fun p => h ⟨p.pos, p.bnd, p.nd⟩
theorem IsPile.all {ns : List Int} (p : IsPile ns) {s : Int} (h0 : 0 ≤ s) (h1 : s < (ns.length : Int)) : s ∈ ns := by
  by_cases h : s ∈ ns
  · exact h
  · have q := php ns.length (s :: ns) (List.nodup_cons.mpr ⟨h, p.nd⟩) fun x hx => by
      rcases List.mem_cons.mp hx with rfl | hx
      · exact ⟨h0, h1⟩
      · exact p.bnd x hx
    rw [List.length_cons] at q
    omega
/-- the place of each stamp -/
def pl (ns : List Int) : List Int := (List.range ns.length).map fun (s : Nat) => ((ns.idxOf (s : Int) : Nat) : Int)
theorem pl_len (ns : List Int) : (pl ns).length = ns.length := by simp [pl]
theorem pl_at {ns : List Int} {s : Nat} (h : s < ns.length) : gi (pl ns) (s : Int) = ((ns.idxOf (s : Int) : Nat) : Int) := gi_mapR _ h
theorem idx_lt {ns : List Int} {x : Int} (h : x ∈ ns) : ns.idxOf x < ns.length := List.idxOf_lt_length_iff.mpr h
theorem idx_gi {ns : List Int} {x : Int} (h : x ∈ ns) : gi ns ((ns.idxOf x : Nat) : Int) = x := by
  refine gi_of ?_
  rw [List.getElem?_eq_getElem (idx_lt h), List.getElem_idxOf]
theorem nd_inj {ns : List Int} (nd : ns.Nodup) {j k : Nat} (hj : j < ns.length) (hk : k < ns.length) (e : gi ns (j : Int) = gi ns (k : Int)) : j = k := by
  have a := gi_get hj
  have b := gi_get hk
  rw [e] at a
  exact nd_ix nd a b
theorem gi_idx {ns : List Int} (nd : ns.Nodup) {k : Nat} (h : k < ns.length) : ns.idxOf (gi ns (k : Int)) = k := by
  have hm : gi ns (k : Int) ∈ ns := gi_mem (by omega) (by omega)
  exact nd_inj nd (idx_lt hm) h (idx_gi hm)
theorem IsPile.at (p : IsPile ns) {s : Int} (h0 : 0 ≤ s) (h1 : s < (ns.length : Int)) : 0 ≤ gi (pl ns) s ∧ gi (pl ns) s < (ns.length : Int) ∧ gi ns (gi (pl ns) s) = s := by
  obtain ⟨k, rfl⟩ : ∃ k : Nat, s = (k : Int) := ⟨s.toNat, by omega⟩
  have hm := p.all h0 h1
  have hl := idx_lt hm
  rw [pl_at (by omega)]
  exact ⟨by omega, by omega, idx_gi hm⟩
theorem IsPile.st (p : IsPile ns) {k : Int} (h0 : 0 ≤ k) (h1 : k < (ns.length : Int)) : 0 ≤ gi ns k ∧ gi ns k < (ns.length : Int) ∧ gi (pl ns) (gi ns k) = k := by
  have hb := p.bnd _ (gi_mem h0 h1)
  refine ⟨hb.1, hb.2, ?_⟩
  obtain ⟨j, e⟩ : ∃ j : Nat, gi ns k = (j : Int) := ⟨(gi ns k).toNat, by omega⟩
  rw [e, pl_at (by omega), ← e]
  obtain ⟨i, rfl⟩ : ∃ i : Nat, k = (i : Int) := ⟨k.toNat, by omega⟩
  rw [gi_idx p.nd (by omega)]
theorem IsPile.ne (p : IsPile ns) {s t : Int} (h0 : 0 ≤ s) (h1 : s < (ns.length : Int)) (g0 : 0 ≤ t) (g1 : t < (ns.length : Int)) (h : s ≠ t) : gi (pl ns) s ≠ gi (pl ns) t := fun e => by
  have a := (p.at h0 h1).2.2
  rw [e, (p.at g0 g1).2.2] at a
  exact h a.symm

/-! ### the places as the program finds them: behind i stamps -/
def plD (d : Int) (ns : List Int) (i : Nat) : List Int := (List.range ns.length).map fun (s : Nat) => if ((s : Nat) : Int) ∈ ns.take i then ((ns.idxOf (s : Int) : Nat) : Int) else d
theorem plD_len (d : Int) (ns : List Int) (i : Nat) : (plD d ns i).length = ns.length := by simp [plD]
theorem plD_zero (d : Int) (ns : List Int) : plD d ns 0 = List.replicate ns.length d := by
  refine gi_ext (by simp [plD]) fun k hk => ?_
  rw [plD_len] at hk
  rw [plD, gi_mapR _ hk, if_neg (by simp), gi_nat, List.getD_eq_getElem?_getD, List.getElem?_replicate, if_pos hk]
  rfl
theorem plD_at {d : Int} {ns : List Int} {i : Nat} {s : Int} (h0 : 0 ≤ s) (h1 : s < (ns.length : Int)) : gi (plD d ns i) s = if s ∈ ns.take i then ((ns.idxOf s : Nat) : Int) else d := by
  obtain ⟨k, rfl⟩ : ∃ k : Nat, s = (k : Int) := ⟨s.toNat, by omega⟩
  exact gi_mapR _ (by omega)
abbrev plF (ns : List Int) (i : Nat) : List Int := plD (-1) ns i
theorem plF_len (ns : List Int) (i : Nat) : (plF ns i).length = ns.length := plD_len _ ns i
theorem plF_zero (ns : List Int) : plF ns 0 = List.replicate ns.length (-1) := plD_zero _ ns
theorem plF_neg {ns : List Int} {i : Nat} {s : Int} (h0 : 0 ≤ s) (h1 : s < (ns.length : Int)) : ¬ 0 ≤ gi (plF ns i) s ↔ s ∉ ns.take i := by
  rw [plD_at h0 h1]
  split
  · rename_i h
    exact ⟨fun q => absurd (by omega) q, fun q => absurd h q⟩
  · rename_i h
    exact ⟨fun _ => h, fun _ => by omega⟩
theorem take_more {α : Type} {l : List α} {i : Nat} {x : α} (h : l[i]? = some x) : l.take (i + 1) = l.take i ++ [x] := by
  rw [List.take_add_one, h]
  rfl
theorem plD_set {d : Int} {ns : List Int} {i : Nat} {x : Int} (hx : ns[i]? = some x) (h0 : 0 ≤ x) (h1 : x < (ns.length : Int)) (hn : x ∉ ns.take i) : (plD d ns i).set x.toNat (i : Int) = plD d ns (i + 1) := by
  have hi : i < ns.length := (List.getElem?_eq_some_iff.mp hx).1
  have hix : ns.idxOf x = i := by
    have hle : ns.idxOf x ≤ i := by
      by_cases h : ns.idxOf x ≤ i
      · exact h
      · have hm : x ∈ ns := List.mem_of_getElem? hx
        have e : ns.idxOf x = ns.findIdx (· == x) := rfl
        have q := List.not_of_lt_findIdx (p := (· == x)) (xs := ns) (i := i) (by rw [← e]; omega)
        have e2 : ns[i] = x := by
          have z := List.getElem?_eq_getElem hi
          rw [hx] at z
          exact (Option.some.inj z).symm
        rw [e2] at q
        simp at q
    have hm : x ∈ ns := List.mem_of_getElem? hx
    by_cases h : ns.idxOf x = i
    · exact h
    · refine absurd ?_ hn
      have hlt : ns.idxOf x < i := by omega
      have e := List.getElem?_take_of_lt (l := ns) hlt
      rw [List.getElem?_eq_getElem (idx_lt hm), List.getElem_idxOf] at e
      exact List.mem_of_getElem? e
  have hxn : x.toNat < (plD d ns i).length := by rw [plD_len]; omega
  refine gi_ext (by rw [List.length_set, plD_len, plD_len]) fun k hk => ?_
  rw [List.length_set, plD_len] at hk
  rw [gi_set hxn, plD_at (by omega) (by omega), plD_at (by omega) (by omega), take_more hx]
  by_cases h : k = x.toNat
  · have e : (k : Int) = x := by omega
    rw [if_pos h, e, if_pos (by simp), hix]
  · have e : (k : Int) ≠ x := by omega
    rw [if_neg h]
    by_cases h2 : (k : Int) ∈ ns.take i
    · rw [if_pos h2, if_pos (List.mem_append_left _ h2)]
    · rw [if_neg h2, if_neg (by
        intro z
        rcases List.mem_append.mp z with z | z
        · exact h2 z
        · exact e (List.mem_singleton.mp z))]
theorem plD_end {d : Int} {ns : List Int} (p : IsPile ns) : plD d ns ns.length = pl ns := by
  refine gi_ext (by rw [plD_len, pl_len]) fun k hk => ?_
  rw [plD_len] at hk
  rw [plD_at (by omega) (by omega), pl_at hk, List.take_length, if_pos (p.all (by omega) (by omega))]
theorem plF_set {ns : List Int} {i : Nat} {x : Int} (hx : ns[i]? = some x) (h0 : 0 ≤ x) (h1 : x < (ns.length : Int)) (hn : x ∉ ns.take i) : (plF ns i).set x.toNat (i : Int) = plF ns (i + 1) := plD_set hx h0 h1 hn
theorem plF_end {ns : List Int} (p : IsPile ns) : plF ns ns.length = pl ns := plD_end p
end Fo
/-! FoldM2 -/
namespace Fo
open PySem L2 Evl

/-! ### wrapping and crossing, by the places -/
def lo (x y : Int) : Int := if y < x then y else x
def hi (x y : Int) : Int := if y > x then y else x
def wrB (x y z : Int) : Bool := decide (lo x y < z) && decide (z < hi x y)
def wr (p : List Int) (c s : Int) : Bool := wrB (gi p c) (gi p (c + 1)) (gi p s)
theorem wrB_iff {x y z : Int} : wrB x y z = true ↔ (x < z ∧ z < y) ∨ (y < z ∧ z < x) := by
  unfold wrB lo hi
  rw [Bool.and_eq_true, decide_eq_true_eq, decide_eq_true_eq]
  split <;> split <;> omega
theorem sort2 {x y : Int} : ∀ ms' : List Int, ms'.Perm [x, y] → ms'.Pairwise (· ≤ ·) → ms' = [lo x y, hi x y] := by
  intro ms hp ho
  have hl := hp.length_eq
  match ms, hp, ho, hl with
  | [a, b], hp, ho, _ =>
    have hab : a ≤ b := by
      have := (List.pairwise_cons.mp ho).1 b (List.mem_singleton.mpr rfl)
      exact this
    have h1 : a = x ∨ a = y := by
      have := hp.mem_iff.mp (List.mem_cons_self (a := a) (l := [b]))
      simpa using this
    have h2 : x ∈ [a, b] := hp.mem_iff.mpr (by simp)
    have h3 : y ∈ [a, b] := hp.mem_iff.mpr (by simp)
    have h4 : b = x ∨ b = y := by
      have := hp.mem_iff.mp (show b ∈ [a, b] by simp)
      simpa using this
    simp only [List.mem_cons, List.not_mem_nil, or_false] at h2 h3
    have e1 : a = lo x y := by unfold lo; split <;> omega
    have e2 : b = hi x y := by unfold hi; split <;> omega
    rw [e1, e2]
/-- two creases on one side that cross, the lesser one first -/
structure XX (p : List Int) (i j : Int) : Prop where
  i0 : 0 ≤ i
  ij : i < j
  jn : j + 1 < (p.length : Int)
  even : (j - i) % 2 = 0
  ne : wr p i j ≠ wr p i (j + 1)
def NoX (p : List Int) : Prop := ∀ i j : Int, ¬ XX p i j
def noX (p : List Int) : Bool := (List.range p.length).all fun (i : Nat) => (List.range p.length).all fun (j : Nat) => !(decide (i < j) && decide (j + 1 < p.length) && decide (((j : Int) - (i : Int)) % 2 = 0) && (wr p (i : Int) (j : Int) != wr p (i : Int) ((j : Int) + 1)))
theorem noX_iff (p : List Int) : noX p = true ↔ NoX p := by
  unfold noX
  rw [List.all_eq_true]
  constructor
  · intro h i j x
    have hi : i.toNat < p.length := by have := x.ij; have := x.jn; have := x.i0; omega
    have hj : j.toNat < p.length := by have := x.ij; have := x.jn; have := x.i0; omega
    have q := List.all_eq_true.mp (h i.toNat (List.mem_range.mpr hi)) j.toNat (List.mem_range.mpr hj)
    have ei : ((i.toNat : Nat) : Int) = i := by have := x.i0; omega
    have ej : ((j.toNat : Nat) : Int) = j := by have := x.i0; have := x.ij; omega
    rw [ei, ej] at q
    have a1 : decide (i.toNat < j.toNat) = true := decide_eq_true (by have := x.ij; have := x.i0; omega)
    have a2 : decide (j.toNat + 1 < p.length) = true := decide_eq_true (by have := x.jn; omega)
    rw [a1, a2, decide_eq_true x.even, bne_iff_ne.mpr x.ne] at q
    exact Bool.noConfusion q
  · intro h i hi
    rw [List.all_eq_true]
    intro j hj
    rw [List.mem_range] at hi hj
    rw [Bool.not_eq_true', Bool.eq_false_iff]
    intro q
    simp only [Bool.and_eq_true, decide_eq_true_eq, bne_iff_ne] at q
    exact h (i : Int) (j : Int) ⟨by omega, by omega, by omega, q.1.2, q.2⟩
instance (p : List Int) : Decidable (NoX p) := decidable_of_iff _ (noX_iff p)

/-! ### the next stamp put in -/
theorem gi_app1 {xs ys : List Int} {k : Nat} (h : k < xs.length) : gi (xs ++ ys) (k : Int) = gi xs (k : Int) := by
  rw [gi_nat, gi_nat, List.getD_eq_getElem?_getD, List.getD_eq_getElem?_getD, List.getElem?_append_left h]
theorem gi_app2 {xs ys : List Int} {k : Nat} (h : xs.length ≤ k) : gi (xs ++ ys) (k : Int) = gi ys ((k - xs.length : Nat) : Int) := by
  rw [gi_nat, gi_nat, List.getD_eq_getElem?_getD, List.getD_eq_getElem?_getD, List.getElem?_append_right h]
theorem gi_cons0 (x : Int) (xs : List Int) : gi (x :: xs) 0 = x := rfl
theorem gi_consS (x : Int) (xs : List Int) (k : Nat) : gi (x :: xs) ((k + 1 : Nat) : Int) = gi xs (k : Int) := rfl
theorem gi_take {xs : List Int} {n k : Nat} (h : k < n) : gi (xs.take n) (k : Int) = gi xs (k : Int) := by
  rw [gi_nat, gi_nat, List.getD_eq_getElem?_getD, List.getD_eq_getElem?_getD, List.getElem?_take_of_lt h]
theorem gi_drop (xs : List Int) (n k : Nat) : gi (xs.drop n) (k : Int) = gi xs ((n + k : Nat) : Int) := by
  rw [gi_nat, gi_nat, List.getD_eq_getElem?_getD, List.getD_eq_getElem?_getD, List.getElem?_drop]
/-- so many stamps in any order -/
structure Per (i : Nat) (ps : List Int) : Prop where
  len : ps.length = i
  bnd : ∀ x ∈ ps, 0 ≤ x ∧ x < (i : Int)
  nd : ps.Nodup
theorem Per.pile {i : Nat} {ps : List Int} (h : Per i ps) (hi : 0 < i) : IsPile ps := ⟨by rw [h.len]; exact hi, fun x hx => by rw [h.len]; exact h.bnd x hx, h.nd⟩
theorem IsPile.per {ps : List Int} (h : IsPile ps) : Per ps.length ps := ⟨rfl, h.bnd, h.nd⟩
def put (ps : List Int) (g : Int) (x : Int) : List Int := ps.take g.toNat ++ [x] ++ ps.drop g.toNat
theorem put_perm (ps : List Int) (g x : Int) : (put ps g x).Perm (x :: ps) := by
  unfold put
  have h1 : (ps.take g.toNat ++ [x] ++ ps.drop g.toNat).Perm (x :: (ps.take g.toNat ++ ps.drop g.toNat)) := by
    rw [List.append_assoc]
    exact List.perm_middle
  rw [List.take_append_drop] at h1
  exact h1
theorem put_len (ps : List Int) (g x : Int) : (put ps g x).length = ps.length + 1 := by rw [(put_perm ps g x).length_eq, List.length_cons]
theorem Per.put {i : Nat} {ps : List Int} (h : Per i ps) (g : Int) : Per (i + 1) (put ps g (i : Int)) := by
  have hp := put_perm ps g (i : Int)
  refine ⟨by rw [put_len, h.len], fun x hx => ?_, hp.nodup_iff.mpr (List.nodup_cons.mpr ⟨fun hm => ?_, h.nd⟩)⟩
  · rcases List.mem_cons.mp (hp.mem_iff.mp hx) with rfl | hx
    · omega
    · have := h.bnd x hx
      omega
  · have := h.bnd _ hm
    omega
theorem put_map (ps : List Int) (g x : Int) : (ps.map V.int).take g.toNat ++ [V.int x] ++ (ps.map V.int).drop g.toNat = (put ps g x).map V.int := by
  unfold put
  rw [List.map_append, List.map_append, List.map_take, List.map_drop]
  rfl
theorem put_at {ps : List Int} {g x : Int} (g0 : 0 ≤ g) (g1 : g ≤ (ps.length : Int)) {k : Int} (k0 : 0 ≤ k) : gi (put ps g x) k = if k < g then gi ps k else if k = g then x else gi ps (k - 1) := by
  obtain ⟨m, rfl⟩ : ∃ m : Nat, g = (m : Int) := ⟨g.toNat, by omega⟩
  obtain ⟨j, rfl⟩ : ∃ j : Nat, k = (j : Int) := ⟨k.toNat, by omega⟩
  have hm : m ≤ ps.length := by omega
  have ht : (ps.take m).length = m := by rw [List.length_take]; omega
  unfold put
  rw [show ((m : Nat) : Int).toNat = m from rfl, List.append_assoc]
  by_cases h : j < m
  · rw [if_pos (by omega), gi_app1 (by omega), gi_take h]
  · rw [if_neg (by omega), gi_app2 (by omega), ht]
    by_cases h2 : j = m
    · subst h2
      rw [if_pos rfl, Nat.sub_self]
      rfl
    · rw [if_neg (by omega)]
      obtain ⟨d, hd⟩ : ∃ d, j - m = d + 1 := ⟨j - m - 1, by omega⟩
      rw [hd]
      show gi (x :: ps.drop m) ((d + 1 : Nat) : Int) = _
      rw [gi_consS, gi_drop, show ((m + d : Nat) : Int) = (j : Int) - 1 by omega]
/-- the places behind the next stamp -/
structure Next (p q : List Int) (g : Int) : Prop where
  g0 : 0 ≤ g
  g1 : g ≤ (p.length : Int)
  len : q.length = p.length + 1
  old : ∀ s : Int, 0 ≤ s → s < (p.length : Int) → gi q s = if gi p s < g then gi p s else gi p s + 1
  new : gi q (p.length : Int) = g
theorem next_put {i : Nat} {ps : List Int} (h : Per i ps) (hi : 0 < i) {g : Int} (g0 : 0 ≤ g) (g1 : g ≤ (i : Int)) : Next (pl ps) (pl (put ps g (i : Int))) g := by
  have pp := h.pile hi
  have pq : IsPile (put ps g (i : Int)) := (h.put g).pile (by omega)
  have hl := h.len
  have hlq : (put ps g (i : Int)).length = i + 1 := (h.put g).len
  refine ⟨g0, by rw [pl_len]; omega, by rw [pl_len, pl_len]; omega, fun s s0 s1 => ?_, ?_⟩
  · rw [pl_len] at s1
    obtain ⟨a0, a1, a2⟩ := pp.at s0 s1
    split
    · rename_i hlt
      have e : gi (put ps g (i : Int)) (gi (pl ps) s) = s := by rw [put_at g0 (by omega) a0, if_pos hlt, a2]
      have q := (pq.st a0 (by omega)).2.2
      rw [e] at q
      exact q
    · rename_i hge
      have e : gi (put ps g (i : Int)) (gi (pl ps) s + 1) = s := by rw [put_at g0 (by omega) (by omega), if_neg (by omega), if_neg (by omega), Int.add_sub_cancel, a2]
      have q := (pq.st (k := gi (pl ps) s + 1) (by omega) (by omega)).2.2
      rw [e] at q
      exact q
  · rw [pl_len, hl]
    have e : gi (put ps g (i : Int)) g = (i : Int) := by rw [put_at g0 (by omega) g0, if_neg (by omega), if_pos rfl]
    have q := (pq.st (k := g) (by omega) (by omega)).2.2
    rw [e] at q
    exact q
/-- the gap g takes the next stamp: no crease on its side is crossed -/
def fitB (p : List Int) (g c : Int) : Bool := wrB (gi p c) (gi p (c + 1)) (gi p ((p.length : Int) - 1)) == (decide (lo (gi p c) (gi p (c + 1)) < g) && decide (g ≤ hi (gi p c) (gi p (c + 1))))
def Fits (p : List Int) (g : Int) : Prop := ∀ c : Int, 0 ≤ c → c + 1 < (p.length : Int) - 1 → ((p.length : Int) - 1 - c) % 2 = 0 → fitB p g c = true
theorem wrB_next {x y z g : Int} : wrB (if x < g then x else x + 1) (if y < g then y else y + 1) (if z < g then z else z + 1) = wrB x y z := by
  rw [Bool.eq_iff_iff, wrB_iff, wrB_iff]
  split <;> split <;> split <;> omega
theorem wrB_new {x y g : Int} : wrB (if x < g then x else x + 1) (if y < g then y else y + 1) g = (decide (lo x y < g) && decide (g ≤ hi x y)) := by
  rw [Bool.eq_iff_iff, wrB_iff, Bool.and_eq_true, decide_eq_true_eq, decide_eq_true_eq]
  unfold lo hi
  split <;> split <;> split <;> split <;> omega
theorem noX_next {p q : List Int} {g : Int} (h : Next p q g) : NoX q ↔ NoX p ∧ Fits p g := by
  have hl := h.len
  have w1 : ∀ i s : Int, 0 ≤ i → i + 1 < (p.length : Int) → 0 ≤ s → s < (p.length : Int) → wr q i s = wr p i s := fun i s i0 i1 s0 s1 => by
    unfold wr
    rw [h.old i i0 (by omega), h.old (i + 1) (by omega) i1, h.old s s0 s1, wrB_next]
  constructor
  · intro hq
    refine ⟨fun i j x => hq i j ⟨x.i0, x.ij, by have := x.jn; omega, x.even, ?_⟩, fun c c0 c1 ce => ?_⟩
    · have := x.i0; have := x.ij; have := x.jn
      rw [w1 i j (by omega) (by omega) (by omega) (by omega), w1 i (j + 1) (by omega) (by omega) (by omega) (by omega)]
      exact x.ne
    · have z := hq c ((p.length : Int) - 1)
      unfold fitB
      rw [beq_iff_eq]
      refine Decidable.byContradiction fun ne => z ⟨c0, by omega, by omega, ce, ?_⟩
      rw [w1 c _ c0 (by omega) (by omega) (by omega), Int.sub_add_cancel]
      unfold wr
      rw [h.old c c0 (by omega), h.old (c + 1) (by omega) (by omega), h.new, wrB_new]
      exact ne
  · rintro ⟨hp, hf⟩ i j x
    have := x.i0; have := x.ij; have := x.jn
    by_cases hj : j + 1 < (p.length : Int)
    · refine hp i j ⟨x.i0, x.ij, hj, x.even, ?_⟩
      rw [← w1 i j (by omega) (by omega) (by omega) (by omega), ← w1 i (j + 1) (by omega) (by omega) (by omega) (by omega)]
      exact x.ne
    · have ej : j = (p.length : Int) - 1 := by omega
      subst ej
      have he := x.even
      have hc : i + 1 < (p.length : Int) - 1 := by omega
      have z := hf i x.i0 hc he
      unfold fitB at z
      rw [beq_iff_eq] at z
      refine x.ne ?_
      rw [w1 i _ x.i0 (by omega) (by omega) (by omega), Int.sub_add_cancel]
      unfold wr
      rw [h.old i x.i0 (by omega), h.old (i + 1) (by omega) (by omega), h.new, wrB_new]
      exact z
/-- beside the last stamp there is always room -/
theorem fits_beside {ps : List Int} (pp : IsPile ps) {g : Int} (hg : g = gi (pl ps) ((ps.length : Int) - 1) ∨ g = gi (pl ps) ((ps.length : Int) - 1) + 1) : Fits (pl ps) g := by
  intro c c0 c1 ce
  rw [pl_len] at c1 ce
  have n1 := pp.ne (s := c) (t := (ps.length : Int) - 1) c0 (by omega) (by omega) (by omega) (by omega)
  have n2 := pp.ne (s := c + 1) (t := (ps.length : Int) - 1) (by omega) (by omega) (by omega) (by omega) (by omega)
  unfold fitB
  rw [pl_len, beq_iff_eq, Bool.eq_iff_iff, wrB_iff, Bool.and_eq_true, decide_eq_true_eq, decide_eq_true_eq]
  unfold lo hi
  generalize gi (pl ps) ((ps.length : Int) - 1) = z at *
  generalize gi (pl ps) c = x at *
  generalize gi (pl ps) (c + 1) = y at *
  split <;> split <;> omega
end Fo
/-! FoldP -/
namespace Fo
open PySem L2 Evl

/-- what is kept where P holds; else the refusal at C -/
def OkOr (C : Addr) (P R : Prop) (H : Hp) (E : XK) : Prop := (P → R) ∧ (¬ P → ∀ H', Ex H H' → E (.ref C) none H')
theorem OkOr.yes {C : Addr} {P R : Prop} {H : Hp} {E : XK} (hp : P) (r : R) : OkOr C P R H E := ⟨fun _ => r, fun h => absurd hp h⟩
theorem OkOr.no {C : Addr} {P R : Prop} {H : Hp} {E : XK} (hp : ¬ P) (r : ∀ H', Ex H H' → E (.ref C) none H') : OkOr C P R H E := ⟨fun h => absurd h hp, fun _ => r⟩
/-- it never comes to a value -/
def EvX (te : TE) (σ : L2.St) (H : Hp) : Prop := ∀ H1, Ex H H1 → ∀ Q : VK, te σ H1 Q
theorem g_asgX {te : TE} {σ : L2.St} {H : Hp} {g : TG} {D : Ends} {tz : TS} (h : EvX te σ H) : Go (tSeq (tAsg te g) tz) D σ H := fun H1 e => h H1 e _
theorem evx_call {sp : Sp} {vs : List V} {E : XK} {ta : TA} {σ : L2.St} {H : Hp} (h : EvA ta σ H vs) (hs : ∀ H1, Ex H H1 → ∀ Q : VK, sp vs H1 Q E) : EvX (tCall sp [] E ta) σ H := fun H1 e Q =>
  h H1 e _ fun H2 e2 => by
    rw [List.append_nil]
    exact hs H2 (e.trans e2) Q

/-! ### places, letters -/
def sp_places (K : PySem.W.Frag) (c : Cs) : Sp := fun vs H Q E => ∃ (a : Addr) (ns : List Int), vs = [.ref a] ∧ SqL K H a (ns.map V.int) ∧ ns.length ≤ 1000 ∧ OkOr c.np (IsPile ns) (RetL ((pl ns).map V.int) H Q) H E
def lets (at' : List Int) : List Nat := (List.range (at'.length - 1)).map fun (k : Nat) => if (decide (gi at' (k : Int) < gi at' ((k : Int) + 1)) == decide ((k : Int) % 2 = 0)) = true then 86 else 77
def sp_letters (K : PySem.W.Frag) (c : Cs) : Sp := fun vs H Q E => ∃ (a : Addr) (ns : List Int), vs = [.ref a] ∧ SqL K H a (ns.map V.int) ∧ ns.length ≤ 1000 ∧ OkOr c.np (IsPile ns) (RetV (.str (txt (lets (pl ns)))) H Q) H E
section
variable {K : PySem.W.Frag} {c : Cs} {H : Hp} {a : Addr} {ns : List Int}
theorem v_places (hS : SqL K H a (ns.map V.int)) (hl : ns.length ≤ 1000) (hp : IsPile ns) : SpL (sp_places K c) [.ref a] H ((pl ns).map V.int) := fun H1 e Q q E => ⟨a, ns, rfl, ex_l e hS, hl, .yes hp q⟩
theorem x_places {E : XK} (hS : SqL K H a (ns.map V.int)) (hl : ns.length ≤ 1000) (hp : ¬ IsPile ns) (hx : ∀ H', Ex H H' → E (.ref c.np) none H') : ∀ H1, Ex H H1 → ∀ Q : VK, sp_places K c [.ref a] H1 Q E := fun H1 e Q =>
  ⟨a, ns, rfl, ex_l e hS, hl, .no hp fun H' e' => hx H' (e.trans e')⟩
theorem v_letters (hS : SqL K H a (ns.map V.int)) (hl : ns.length ≤ 1000) (hp : IsPile ns) : SpV (sp_letters K c) [.ref a] H (.str (txt (lets (pl ns)))) := fun H1 e Q q E => ⟨a, ns, rfl, ex_l e hS, hl, .yes hp q⟩
end
/-! ### what the laws draw -/
def sp_l_drawn (K : PySem.W.Frag) (c : Cs) : Sp := fun vs H Q _ => ∃ (a : Addr) (ns : List Int) (k : Int), vs = [.ref a, .int k] ∧ SqL K H a (ns.map V.int) ∧ 0 ≤ k ∧ RetV (.int (gi ns k)) H Q
def numb (ns : List Int) (k : Int) : Int := (if k < (ns.length : Int) then gi ns k else if ns = [] then k * k * 7919 + k else k * k * 7919 + k + gi ns (k % (ns.length : Int))) * 48271 % 2147483647
theorem numb_lo (ns : List Int) (k : Int) : 0 ≤ numb ns k := Int.emod_nonneg _ (by decide)
theorem numb_hi (ns : List Int) (k : Int) : numb ns k < 2147483647 := Int.emod_lt_of_pos _ (by decide)
def sp_l_number (K : PySem.W.Frag) (c : Cs) : Sp := fun vs H Q _ => ∃ (a : Addr) (ns : List Int) (k : Int), vs = [.ref a, .int k] ∧ SqL K H a (ns.map V.int) ∧ 0 ≤ k ∧ k ≤ 100000 ∧ RetV (.int (numb ns k)) H Q
def sp_l_counts (K : PySem.W.Frag) (c : Cs) : Sp := fun vs H Q _ => ∃ i : Int, vs = [.int i] ∧ RetV (.bl true) H Q
def szf (m : List Int) (x : Int) : Int := 1 + x / 8 % gi m (x % 8)
def sp_l_size (K : PySem.W.Frag) (c : Cs) : Sp := fun vs H Q _ => ∃ x : Int, vs = [.int x] ∧ RetV (.int (szf c.sz x)) H Q
structure SzOk (m : List Int) : Prop where
  len : m.length = 8
  bnd : ∀ x ∈ m, 1 ≤ x ∧ x ≤ 100
theorem szf_bnd {m : List Int} (h : SzOk m) (x : Int) : 1 ≤ szf m x ∧ szf m x ≤ 100 := by
  have h0 : 0 ≤ x % 8 := Int.emod_nonneg _ (by decide)
  have h1 : x % 8 < 8 := Int.emod_lt_of_pos _ (by decide)
  have hb := h.bnd _ (gi_mem h0 (by rw [h.len]; exact h1))
  have g0 : 0 ≤ x / 8 % gi m (x % 8) := Int.emod_nonneg _ (by omega)
  have g1 : x / 8 % gi m (x % 8) < gi m (x % 8) := Int.emod_lt_of_pos _ (by omega)
  unfold szf
  omega
def PileV (n : Int) (xs : List V) : Prop := ∃ ps : List Int, xs = ps.map V.int ∧ IsPile ps ∧ (ps.length : Int) = n
def sp_l_pile (K : PySem.W.Frag) (c : Cs) : Sp := fun vs H Q _ => ∃ (a : Addr) (ns : List Int) (s n : Int), vs = [.ref a, .int s, .int n] ∧ SqL K H a (ns.map V.int) ∧ 0 ≤ s ∧ s ≤ 1000 ∧ 1 ≤ n ∧ n ≤ 100 ∧ RetP (PileV n) H Q
theorem cx_no {P : Program} {w : World} {H : Hp} {s s' : Shared} {e : Value} (h : L2.CX P w [] H s (fun _ _ _ => False) e s') : False := by
  obtain ⟨_, _, _, _, _, _, _, _, _, _, _, _, z⟩ := h
  exact z
theorem szok {c : Cs} {m : List Int} (h : c.sz = m) (hm : SzOk m := by exact ⟨rfl, by decide⟩) : SzOk c.sz := by
  rw [h]
  exact hm
/-- a law keeps its word: True, at every script -/
def sp_law (K : PySem.W.Frag) (c : Cs) : Sp := fun vs H Q _ => ∃ (a : Addr) (ns : List Int), vs = [.ref a] ∧ SqL K H a (ns.map V.int) ∧ ns.length ≤ 63 ∧ ∀ H', Q (.bl true) H'
def spLaw (K : PySem.W.Frag) : Sp := sp_law K ⟨0, 0, 0, 0, 0, 0, 0, []⟩
section
variable {K : PySem.W.Frag} {c : Cs} {H : Hp} {a : Addr} {ns : List Int} {k s n : Int}
theorem v_drawn (hS : SqL K H a (ns.map V.int)) (h0 : 0 ≤ k) : SpV (sp_l_drawn K c) [.ref a, .int k] H (.int (gi ns k)) := fun H1 e Q q E => ⟨a, ns, k, rfl, ex_l e hS, h0, q⟩
theorem v_number (hS : SqL K H a (ns.map V.int)) (h0 : 0 ≤ k) (h1 : k ≤ 100000) : SpV (sp_l_number K c) [.ref a, .int k] H (.int (numb ns k)) := fun H1 e Q q E => ⟨a, ns, k, rfl, ex_l e hS, h0, h1, q⟩
theorem v_counts : SpV (sp_l_counts K c) [.int k] H (.bl true) := fun H1 e Q q E => ⟨k, rfl, q⟩
theorem v_size : SpV (sp_l_size K c) [.int k] H (.int (szf c.sz k)) := fun H1 e Q q E => ⟨k, rfl, q⟩
theorem v_pile (hS : SqL K H a (ns.map V.int)) (h0 : 0 ≤ s) (h1 : s ≤ 1000) (h2 : 1 ≤ n) (h3 : n ≤ 100) : SpLP (sp_l_pile K c) [.ref a, .int s, .int n] H (PileV n) := fun H1 e Q q E => ⟨a, ns, s, n, rfl, ex_l e hS, h0, h1, h2, h3, q⟩
end
end Fo
/-! FoldP2 -/
namespace Fo
open PySem L2 Evl

def RetU (xs : List V) (H : Hp) (Q : VK) : Prop := ∀ p H2, H p = none → Ex H H2 → H2 p = some (.tup xs) → Q (.ref p) H2
def sp_wraps (K : PySem.W.Frag) (c : Cs) : Sp := fun vs H Q _ => ∃ (a : Addr) (p : List Int) (i s : Int), vs = [.ref a, .int i, .int s] ∧ SqL K H a (p.map V.int) ∧ (0 ≤ i ∧ i + 1 < (p.length : Int)) ∧ (0 ≤ s ∧ s < (p.length : Int)) ∧ RetV (.bl (wr p i s)) H Q
def sp_l_wraps (K : PySem.W.Frag) (c : Cs) : Sp := sp_wraps K c
/-- None, or two that cross: any -/
def CrossR (p : List Int) (H : Hp) (Q : VK) : Prop := (NoX p → RetV .non H Q) ∧ ∀ i j : Int, XX p i j → RetU [.int i, .int j] H Q
def sp_crossing (K : PySem.W.Frag) (c : Cs) : Sp := fun vs H Q E => ∃ (a : Addr) (ns : List Int), vs = [.ref a] ∧ SqL K H a (ns.map V.int) ∧ ns.length ≤ 1000 ∧ OkOr c.np (IsPile ns) (CrossR (pl ns) H Q) H E
def sp_l_places (K : PySem.W.Frag) (c : Cs) : Sp := fun vs H Q _ => ∃ (a : Addr) (ns : List Int), vs = [.ref a] ∧ SqL K H a (ns.map V.int) ∧ ns.length ≤ 1000 ∧ IsPile ns ∧ RetL ((pl ns).map V.int) H Q
/-- fits, as the laws look at it -/
def fitsB (p : List Int) (g : Int) : Bool := (List.range p.length).all fun (k : Nat) => !(decide ((k : Int) + 1 < (p.length : Int) - 1) && decide (((p.length : Int) - 1 - (k : Int)) % 2 = 0)) || fitB p g (k : Int)
theorem fitsB_iff (p : List Int) (g : Int) : fitsB p g = true ↔ Fits p g := by
  unfold fitsB
  rw [List.all_eq_true]
  constructor
  · intro h c c0 c1 ce
    have hc : c.toNat < p.length := by omega
    have q := h c.toNat (List.mem_range.mpr hc)
    have ec : ((c.toNat : Nat) : Int) = c := by omega
    rw [ec, decide_eq_true c1, decide_eq_true ce] at q
    simpa using q
  · intro h k hk
    by_cases h1 : (k : Int) + 1 < (p.length : Int) - 1
    · by_cases h2 : ((p.length : Int) - 1 - (k : Int)) % 2 = 0
      · rw [h (k : Int) (by omega) h1 h2, Bool.or_true]
      · rw [decide_eq_false h2, Bool.and_false]
        rfl
    · rw [decide_eq_false h1]
      rfl
def sp_l_fits (K : PySem.W.Frag) (c : Cs) : Sp := fun vs H Q _ => ∃ (a : Addr) (p : List Int) (s g : Int), vs = [.ref a, .int s, .int g] ∧ SqL K H a (p.map V.int) ∧ (s = (p.length : Int) ∧ 1 ≤ s ∧ s ≤ 1000) ∧ RetV (.bl (fitsB p g)) H Q
def GoodV (n : Int) (xs : List V) : Prop := ∃ ps : List Int, xs = ps.map V.int ∧ IsPile ps ∧ (ps.length : Int) = n ∧ NoX (pl ps)
def sp_l_good (K : PySem.W.Frag) (c : Cs) : Sp := fun vs H Q _ => ∃ (a : Addr) (ns : List Int) (s n : Int), vs = [.ref a, .int s, .int n] ∧ SqL K H a (ns.map V.int) ∧ 0 ≤ s ∧ s ≤ 1000 ∧ 1 ≤ n ∧ n ≤ 100 ∧ RetP (GoodV n) H Q
def sp_l_moved (K : PySem.W.Frag) (c : Cs) : Sp := fun vs H Q _ => ∃ (a : Addr) (ps : List Int) (i j : Int), vs = [.ref a, .int i, .int j] ∧ SqL K H a (ps.map V.int) ∧ IsPile ps ∧ ps.length ≤ 1000 ∧ RetP (PileV (ps.length : Int)) H Q
def crB (p : List Int) (i j : Int) : Bool := if i = j ∨ (i - j) % 2 = 1 then false else !(wr p i j == wr p i (j + 1))
def sp_l_cross (K : PySem.W.Frag) (c : Cs) : Sp := fun vs H Q _ => ∃ (a : Addr) (p : List Int) (i j : Int), vs = [.ref a, .int i, .int j] ∧ SqL K H a (p.map V.int) ∧ (0 ≤ i ∧ i + 1 < (p.length : Int)) ∧ (0 ≤ j ∧ j + 1 < (p.length : Int)) ∧ RetV (.bl (crB p i j)) H Q
def sp_l_none_cross (K : PySem.W.Frag) (c : Cs) : Sp := fun vs H Q _ => ∃ (a : Addr) (p : List Int), vs = [.ref a] ∧ SqL K H a (p.map V.int) ∧ p.length ≤ 1000 ∧ 1 ≤ p.length ∧ RetV (.bl (noX p)) H Q
section
variable {K : PySem.W.Frag} {c : Cs} {H : Hp} {a : Addr} {ns p ps : List Int} {k s n i j g : Int}
theorem v_wraps (hS : SqL K H a (p.map V.int)) (i0 : 0 ≤ i) (i1 : i + 1 < (p.length : Int)) (s0 : 0 ≤ s) (s1 : s < (p.length : Int)) : SpV (sp_wraps K c) [.ref a, .int i, .int s] H (.bl (wr p i s)) := fun H1 e Q q E => ⟨a, p, i, s, rfl, ex_l e hS, ⟨i0, i1⟩, ⟨s0, s1⟩, q⟩
theorem v_l_wraps (hS : SqL K H a (p.map V.int)) (i0 : 0 ≤ i) (i1 : i + 1 < (p.length : Int)) (s0 : 0 ≤ s) (s1 : s < (p.length : Int)) : SpV (sp_l_wraps K c) [.ref a, .int i, .int s] H (.bl (wr p i s)) := v_wraps hS i0 i1 s0 s1
theorem v_l_places (hS : SqL K H a (ns.map V.int)) (hl : ns.length ≤ 1000) (hp : IsPile ns) : SpL (sp_l_places K c) [.ref a] H ((pl ns).map V.int) := fun H1 e Q q E => ⟨a, ns, rfl, ex_l e hS, hl, hp, q⟩
theorem v_fits (hS : SqL K H a (p.map V.int)) (hs : s = (p.length : Int)) (s1 : 1 ≤ s) (s2 : s ≤ 1000) : SpV (sp_l_fits K c) [.ref a, .int s, .int g] H (.bl (fitsB p g)) := fun H1 e Q q E => ⟨a, p, s, g, rfl, ex_l e hS, ⟨hs, s1, s2⟩, q⟩
theorem v_good (hS : SqL K H a (ns.map V.int)) (h0 : 0 ≤ s) (h1 : s ≤ 1000) (h2 : 1 ≤ n) (h3 : n ≤ 100) : SpLP (sp_l_good K c) [.ref a, .int s, .int n] H (GoodV n) := fun H1 e Q q E => ⟨a, ns, s, n, rfl, ex_l e hS, h0, h1, h2, h3, q⟩
theorem v_moved (hS : SqL K H a (ps.map V.int)) (hp : IsPile ps) (hl : ps.length ≤ 1000) : SpLP (sp_l_moved K c) [.ref a, .int i, .int j] H (PileV (ps.length : Int)) := fun H1 e Q q E => ⟨a, ps, i, j, rfl, ex_l e hS, hp, hl, q⟩
theorem v_cross (hS : SqL K H a (p.map V.int)) (i0 : 0 ≤ i) (i1 : i + 1 < (p.length : Int)) (s0 : 0 ≤ j) (s1 : j + 1 < (p.length : Int)) : SpV (sp_l_cross K c) [.ref a, .int i, .int j] H (.bl (crB p i j)) := fun H1 e Q q E => ⟨a, p, i, j, rfl, ex_l e hS, ⟨i0, i1⟩, ⟨s0, s1⟩, q⟩
theorem v_none (hS : SqL K H a (p.map V.int)) (hl : p.length ≤ 1000) (h1 : 1 ≤ p.length) : SpV (sp_l_none_cross K c) [.ref a] H (.bl (noX p)) := fun H1 e Q q E => ⟨a, p, rfl, ex_l e hS, hl, h1, q⟩
/-- found = crossing(..) -/
theorem g_cross {σ : L2.St} {ta : TA} {E : XK} {D : Ends} {tz : TS} {m : Nat} (h : EvA ta σ H [.ref a]) (hS : SqL K H a (ns.map V.int)) (hl : ns.length ≤ 1000) (hp : IsPile ns) (h1 : NoX (pl ns) → Go tz D (σ.set m (some .non)) H)
    (h2 : ∀ i j r H1, XX (pl ns) i j → H r = none → Ex H H1 → H1 r = some (.tup [.int i, .int j]) → Go tz D (σ.set m (some (.ref r))) H1) : Go (tSeq (tAsg (tCall (sp_crossing K c) [] E ta) (gName m)) tz) D σ H := fun H1 e => h H1 e _ fun H2 e2 => by
  rw [List.append_nil]
  exact ⟨a, ns, rfl, ex_l (e.trans e2) hS, hl, .yes hp ⟨fun hn H3 e3 => h1 hn H3 ((e.trans e2).trans e3), fun i j x r H3 hr e3 h3 => (h2 i j r H3 x (fresh_back (e.trans e2) hr) ((e.trans e2).trans e3) h3).here⟩⟩
end
end Fo
/-! FoldM3 -/
namespace Fo
open PySem L2 Evl

/-! ### turning -/
def rot (ps : List Int) (m : Int) : List Int := ps.drop m.toNat ++ ps.take m.toNat
theorem rot_perm (ps : List Int) (m : Int) : (rot ps m).Perm ps := by
  have h : (ps.drop m.toNat ++ ps.take m.toNat).Perm (ps.take m.toNat ++ ps.drop m.toNat) := List.perm_append_comm
  rw [List.take_append_drop] at h
  exact h
theorem rot_len (ps : List Int) (m : Int) : (rot ps m).length = ps.length := (rot_perm ps m).length_eq
theorem rot_pile {ps : List Int} (p : IsPile ps) (m : Int) : IsPile (rot ps m) :=
  ⟨by rw [rot_len]; exact p.pos, fun x hx => by rw [rot_len]; exact p.bnd x ((rot_perm ps m).mem_iff.mp hx), (rot_perm ps m).nodup_iff.mpr p.nd⟩
theorem rot_map (ps : List Int) (m : Int) : (ps.map V.int).drop m.toNat ++ (ps.map V.int).take m.toNat = (rot ps m).map V.int := by
  unfold rot
  rw [List.map_append, List.map_take, List.map_drop]
theorem rot_at {ps : List Int} {m : Int} (m0 : 0 ≤ m) (m1 : m ≤ (ps.length : Int)) {k : Int} (k0 : 0 ≤ k) (k1 : k < (ps.length : Int)) : gi (rot ps m) k = if k < (ps.length : Int) - m then gi ps (k + m) else gi ps (k + m - (ps.length : Int)) := by
  obtain ⟨i, rfl⟩ : ∃ i : Nat, m = (i : Int) := ⟨m.toNat, by omega⟩
  obtain ⟨j, rfl⟩ : ∃ j : Nat, k = (j : Int) := ⟨k.toNat, by omega⟩
  unfold rot
  rw [show ((i : Nat) : Int).toNat = i from rfl]
  have hd : (ps.drop i).length = ps.length - i := List.length_drop
  by_cases h : j < ps.length - i
  · rw [if_pos (by omega), gi_app1 (by omega), gi_drop, show ((i + j : Nat) : Int) = (j : Int) + (i : Int) by omega]
  · rw [if_neg (by omega), gi_app2 (by omega), hd, gi_take (by omega), show ((j - (ps.length - i) : Nat) : Int) = (j : Int) + (i : Int) - (ps.length : Int) by omega]
structure Rot (p q : List Int) (m : Int) : Prop where
  len : q.length = p.length
  at' : ∀ s : Int, 0 ≤ s → s < (p.length : Int) → gi q s = if gi p s < m then gi p s + (p.length : Int) - m else gi p s - m
theorem rot_rot {ps : List Int} (p : IsPile ps) {m : Int} (m0 : 0 ≤ m) (m1 : m < (ps.length : Int)) : Rot (pl ps) (pl (rot ps m)) m := by
  have pr := rot_pile p m
  have hl := rot_len ps m
  refine ⟨by rw [pl_len, pl_len, hl], fun s s0 s1 => ?_⟩
  rw [pl_len] at s1 ⊢
  obtain ⟨a0, a1, a2⟩ := p.at s0 s1
  split
  · rename_i h
    have e : gi (rot ps m) (gi (pl ps) s + (ps.length : Int) - m) = s := by
      rw [rot_at m0 (by omega) (by omega) (by omega), if_neg (by omega), show gi (pl ps) s + (ps.length : Int) - m + m - (ps.length : Int) = gi (pl ps) s by omega, a2]
    have q := (pr.st (k := gi (pl ps) s + (ps.length : Int) - m) (by omega) (by omega)).2.2
    rw [e] at q
    exact q
  · rename_i h
    have e : gi (rot ps m) (gi (pl ps) s - m) = s := by
      rw [rot_at m0 (by omega) (by omega) (by omega), if_pos (by omega), show gi (pl ps) s - m + m = gi (pl ps) s by omega, a2]
    have q := (pr.st (k := gi (pl ps) s - m) (by omega) (by omega)).2.2
    rw [e] at q
    exact q
def tn (n m x : Int) : Int := if x < m then x + n - m else x - m
theorem tn_lt {n m x y : Int} (x0 : 0 ≤ x) (x1 : x < n) (y0 : 0 ≤ y) (y1 : y < n) (m0 : 0 ≤ m) (m1 : m < n) : tn n m x < tn n m y ↔ ((x < y ↔ (x < m ↔ y < m)) ∧ x ≠ y) := by
  unfold tn
  split <;> split <;> omega
theorem turn_cross {n m x y z w : Int} (x0 : 0 ≤ x) (x1 : x < n) (y0 : 0 ≤ y) (y1 : y < n) (z0 : 0 ≤ z) (z1 : z < n) (w0 : 0 ≤ w) (w1 : w < n) (m0 : 0 ≤ m) (m1 : m < n)
    (xz : x ≠ z) (xw : x ≠ w) (yz : y ≠ z) (yw : y ≠ w) (h : wrB (tn n m x) (tn n m y) (tn n m z) = wrB (tn n m x) (tn n m y) (tn n m w)) : wrB x y z = wrB x y w := by
  rw [Bool.eq_iff_iff, wrB_iff, wrB_iff] at h ⊢
  unfold tn at h
  split at h <;> split at h <;> split at h <;> split at h <;> omega
theorem turn_cross' {n m x y z w : Int} (x0 : 0 ≤ x) (x1 : x < n) (y0 : 0 ≤ y) (y1 : y < n) (z0 : 0 ≤ z) (z1 : z < n) (w0 : 0 ≤ w) (w1 : w < n) (m0 : 0 ≤ m) (m1 : m < n)
    (xz : x ≠ z) (xw : x ≠ w) (yz : y ≠ z) (yw : y ≠ w) (h : wrB x y z = wrB x y w) : wrB (tn n m x) (tn n m y) (tn n m z) = wrB (tn n m x) (tn n m y) (tn n m w) := by
  rw [Bool.eq_iff_iff, wrB_iff, wrB_iff] at h ⊢
  unfold tn
  split <;> split <;> split <;> split <;> omega
theorem XX_rot {ps : List Int} (p : IsPile ps) {m : Int} (m0 : 0 ≤ m) (m1 : m < (ps.length : Int)) (i j : Int) : XX (pl (rot ps m)) i j ↔ XX (pl ps) i j := by
  have r := rot_rot p m0 m1
  have hl := r.len
  have key : ∀ i0 : 0 ≤ i, ∀ ij : i < j, ∀ jn : j + 1 < (ps.length : Int), (j - i) % 2 = 0 → (wr (pl (rot ps m)) i j = wr (pl (rot ps m)) i (j + 1) ↔ wr (pl ps) i j = wr (pl ps) i (j + 1)) := fun i0 ij jn ev => by
    obtain ⟨a0, a1, _⟩ := p.at (s := i) (by omega) (by omega)
    obtain ⟨b0, b1, _⟩ := p.at (s := i + 1) (by omega) (by omega)
    obtain ⟨c0, c1, _⟩ := p.at (s := j) (by omega) (by omega)
    obtain ⟨d0, d1, _⟩ := p.at (s := j + 1) (by omega) (by omega)
    have n1 := p.ne (s := i) (t := j) (by omega) (by omega) (by omega) (by omega) (by omega)
    have n2 := p.ne (s := i) (t := j + 1) (by omega) (by omega) (by omega) (by omega) (by omega)
    have n3 := p.ne (s := i + 1) (t := j) (by omega) (by omega) (by omega) (by omega) (by omega)
    have n4 := p.ne (s := i + 1) (t := j + 1) (by omega) (by omega) (by omega) (by omega) (by omega)
    have e : ∀ s : Int, 0 ≤ s → s < (ps.length : Int) → gi (pl (rot ps m)) s = tn (ps.length : Int) m (gi (pl ps) s) := fun s s0 s1 => by
      rw [r.at' s s0 (by rw [pl_len]; exact s1), pl_len]
      rfl
    unfold wr
    rw [e i (by omega) (by omega), e (i + 1) (by omega) (by omega), e j (by omega) (by omega), e (j + 1) (by omega) (by omega)]
    exact ⟨turn_cross a0 a1 b0 b1 c0 c1 d0 d1 m0 m1 n1 n2 n3 n4, turn_cross' a0 a1 b0 b1 c0 c1 d0 d1 m0 m1 n1 n2 n3 n4⟩
  rw [pl_len] at hl
  have hl2 := pl_len (rot ps m)
  have hl3 := pl_len ps
  constructor
  · intro x
    have h1 := x.jn
    exact ⟨x.i0, x.ij, by omega, x.even, fun z => x.ne ((key x.i0 x.ij (by omega) x.even).mpr z)⟩
  · intro x
    have h1 := x.jn
    exact ⟨x.i0, x.ij, by omega, x.even, fun z => x.ne ((key x.i0 x.ij (by omega) x.even).mp z)⟩
theorem noX_rot {ps : List Int} (p : IsPile ps) {m : Int} (m0 : 0 ≤ m) (m1 : m < (ps.length : Int)) : NoX (pl (rot ps m)) ↔ NoX (pl ps) :=
  ⟨fun h i j x => h i j ((XX_rot p m0 m1 i j).mpr x), fun h i j x => h i j ((XX_rot p m0 m1 i j).mp x)⟩
end Fo
/-! FoldP3 -/
namespace Fo
open PySem L2 Evl

def sp_turned (K : PySem.W.Frag) (c : Cs) : Sp := fun vs H Q E => ∃ (a : Addr) (ns : List Int) (by' : Int), vs = [.ref a, .int by'] ∧ SqL K H a (ns.map V.int) ∧ ns.length ≤ 1000 ∧ OkOr c.np (IsPile ns) (RetL ((rot ns (by' % (ns.length : Int))).map V.int) H Q) H E
def sp_l_same_row (K : PySem.W.Frag) (c : Cs) : Sp := fun vs H Q _ => ∃ (a b : Addr) (ns : List Int), vs = [.ref a, .ref b] ∧ H a = some (.lst (ns.map V.int)) ∧ SqL K H b (ns.map V.int) ∧ ns.length ≤ 1000 ∧ RetV (.bl true) H Q
def sp_l_cross_told (K : PySem.W.Frag) (c : Cs) : Sp := fun vs H Q _ => ∃ (a r : Addr) (p : List Int) (i j : Int), vs = [.ref a, .ref r] ∧ SqL K H a (p.map V.int) ∧ H r = some (.tup [.int i, .int j]) ∧ XX p i j ∧ RetV (.bl true) H Q
/-- the letters of a crease are two just where its stamps were parted -/
def Parted (p p' : List Int) (m : Int) : Prop := p'.length = p.length ∧ ∀ k : Int, 0 ≤ k → k + 1 < (p.length : Int) → (((gi p k < gi p (k + 1)) ↔ (gi p' k < gi p' (k + 1))) ↔ (gi p k < m ↔ gi p (k + 1) < m))
def sp_l_letters_turned (K : PySem.W.Frag) (c : Cs) : Sp := fun vs H Q _ => ∃ (a : Addr) (p p' : List Int) (m : Int), vs = [.ref a, .int m, .str (txt (lets p)), .str (txt (lets p'))] ∧ SqL K H a (p.map V.int) ∧ 1 ≤ p.length ∧ p.length ≤ 1000 ∧ Parted p p' m ∧ RetV (.bl true) H Q
theorem parted_rot {ps : List Int} (p : IsPile ps) {m : Int} (m0 : 0 ≤ m) (m1 : m < (ps.length : Int)) : Parted (pl ps) (pl (rot ps m)) m := by
  have r := rot_rot p m0 m1
  refine ⟨r.len, fun k k0 k1 => ?_⟩
  have hl := pl_len ps
  obtain ⟨a0, a1, _⟩ := p.at (s := k) (by omega) (by omega)
  obtain ⟨b0, b1, _⟩ := p.at (s := k + 1) (by omega) (by omega)
  have n1 := p.ne (s := k) (t := k + 1) (by omega) (by omega) (by omega) (by omega) (by omega)
  rw [r.at' k (by omega) (by omega), r.at' (k + 1) (by omega) (by omega), hl]
  split <;> split <;> omega
section
variable {K : PySem.W.Frag} {c : Cs} {H : Hp} {a b r : Addr} {ns p p' ps : List Int} {k s n i j g m : Int}
theorem v_turned (hS : SqL K H a (ns.map V.int)) (hl : ns.length ≤ 1000) (hp : IsPile ns) : SpL (sp_turned K c) [.ref a, .int k] H ((rot ns (k % (ns.length : Int))).map V.int) := fun H1 e Q q E => ⟨a, ns, k, rfl, ex_l e hS, hl, .yes hp q⟩
theorem v_same (h1 : H a = some (.lst (ns.map V.int))) (h2 : SqL K H b (ns.map V.int)) (hl : ns.length ≤ 1000) : SpV (sp_l_same_row K c) [.ref a, .ref b] H (.bl true) := fun H1 e Q q E => ⟨a, b, ns, rfl, e a _ h1, ex_l e h2, hl, q⟩
theorem v_told (hS : SqL K H a (p.map V.int)) (hr : H r = some (.tup [.int i, .int j])) (x : XX p i j) : SpV (sp_l_cross_told K c) [.ref a, .ref r] H (.bl true) := fun H1 e Q q E => ⟨a, r, p, i, j, rfl, ex_l e hS, e r _ hr, x, q⟩
theorem v_parted (hS : SqL K H a (p.map V.int)) (h1 : 1 ≤ p.length) (h2 : p.length ≤ 1000) (hp : Parted p p' m) : SpV (sp_l_letters_turned K c) [.ref a, .int m, .str (txt (lets p)), .str (txt (lets p'))] H (.bl true) := fun H1 e Q q E => ⟨a, p, p', m, rfl, ex_l e hS, h1, h2, hp, q⟩
/-- a call whose one argument is a new list -/
theorem ev_call1L {σ : L2.St} {sp : Sp} {E : XK} {te : TE} {xs : List V} {z : V} (h : EvL te σ H xs) (hs : ∀ q H1, H1 q = some (.lst xs) → Ex H H1 → SpV sp [.ref q] H1 z) : Ev (tCall sp [] E (tCons te tNil)) σ H z := fun H1 e Q k =>
  h H1 e _ fun q H2 hq e2 h2 => by
    show sp ([.ref q] ++ []) H2 Q E
    exact hs q H2 h2 (e.trans e2) H2 (Ex.refl H2) Q (fun H3 e3 => k H3 (e2.trans e3)) E
/-- found = crossing(a new list) -/
theorem g_crossN {σ : L2.St} {te : TE} {E : XK} {D : Ends} {tz : TS} {m : Nat} (h : EvL te σ H (ns.map V.int)) (hl : ns.length ≤ 1000) (hp : IsPile ns) (h1 : NoX (pl ns) → Go tz D (σ.set m (some .non)) H)
    (h2 : ∀ i j r H1, XX (pl ns) i j → H r = none → Ex H H1 → H1 r = some (.tup [.int i, .int j]) → Go tz D (σ.set m (some (.ref r))) H1) : Go (tSeq (tAsg (tCall (sp_crossing K c) [] E (tCons te tNil)) (gName m)) tz) D σ H := fun H1 e => h H1 e _ fun b H2 hb e2 hb2 => by
  show sp_crossing K c ([.ref b] ++ []) H2 _ E
  exact ⟨b, ns, rfl, sq_lst hb2, hl, .yes hp ⟨fun hn H3 e3 => h1 hn H3 ((e.trans e2).trans e3), fun i j x r H3 hr e3 h3 => (h2 i j r H3 x (fresh_back (e.trans e2) hr) ((e.trans e2).trans e3) h3).here⟩⟩
/-- ways that raise -/
theorem evx_op2 {σ : L2.St} {r : R2} {ta tb : TE} {x : V} (h1 : Ev ta σ H x) (h2 : EvX tb σ H) : EvX (tOp r ta tb) σ H := fun H1 e Q => h1 H1 e _ fun H2 e2 => h2 H2 (e.trans e2) _
theorem evx_cb1 {σ : L2.St} {r : List V → Hp → VK → Prop} {te : TE} (h : EvX te σ H) : EvX (tCB r (tCons te tNil)) σ H := fun H1 e Q => h H1 e _
end
end Fo
/-! FoldB -/
namespace Fo
open PySem PySem.Spec PyProof.Rows L2 Evl

/-! ### enumerate(a text): each sign in a new pair -/
def IteS (z : Str) : It :=
  ⟨fun i _ => i < z.cps.size, fun i H v H' => ∃ T c, v = .ref T ∧ H T = none ∧ H' = upd H T (.tup [.int (i : Nat), .str ⟨#[c]⟩]) ∧ z.cps[i]? = some c, fun i _ => z.cps.size ≤ i⟩
theorem turn_enumS {P : Program} {w : World} {K : PySem.W.Frag} {elts : List Expr} {kk : Nat} {tpos : Pos} (z : Str) (t : Tok) (ty : String) (hty : ty = "str_ascii_iterator" ∨ ty = "str_iterator") (e it : Addr) :
    Turn P w K (.Tuple elts kk tpos) (IteS z) [e, it] e (fun i h => (∃ old, IsEnum h e it ((i : Nat) : Int) old) ∧ h.IsStrIter it ty z t i ∧ e ≠ it ∧ i ≤ z.cps.size) where
  mem := by simp
  obj := fun i h st b hb => by
    obtain ⟨⟨old, he⟩, ⟨o, ho, hc, hd⟩, _⟩ := st
    have e' : b = e ∨ b = it := by simpa using hb
    rcases e' with y | y
    · rw [y]; exact ⟨_, he, fun v q => nomatch q⟩
    · rw [y]; exact ⟨o, ho, fun v q => by rw [hd] at q; cases q⟩
  keep := fun i h h' st k => by
    obtain ⟨⟨old, he⟩, ⟨o, ho, r⟩, hne⟩ := st
    exact ⟨⟨old, k e (by simp) _ he⟩, ⟨o, k it (by simp) o ho, r⟩, hne⟩
  item := by
    intro X hP hw hK hc i pins s σ H E I hf st hg
    subst hP hw hK
    obtain ⟨⟨old, he⟩, hit, hne, _⟩ := st
    have hel : e < s.heap.objs.size := Heap.lt_size he
    have hil : it < s.heap.objs.size := by obtain ⟨_, q, _⟩ := hit; exact Heap.lt_size q
    have D : Draws X.prog X.w X.A.in1 it [it] z.cps.size (fun i v => ∃ c u, z.cps[i]? = some c ∧ v = .str ⟨#[c]⟩ u) (fun i h => h.IsStrIter it ty z t i) := by
      rcases hty with y | y
      · rw [y]; exact Draws.strAscii (A := X.A.in1) (I.ok.hd hc) it z t
      · rw [y]; exact Draws.strWide (A := X.A.in1) (I.ok.hd hc) it z t
    refine wpAny_pyNext_enum_itemD D he hit hg hne (by simpa using hne) fun u h' tk hP ho hit' hT hsz hk => ?_
    obtain ⟨c, uu, hcx, rfl⟩ := hP
    refine ⟨_, rfl, wpAny_letOwnedTupleGo_enum (s := { s with heap := h', toks := tk + 1 }) ho fun h'' he' sb => ?_⟩
    have hT2 : h''.get? s.heap.objs.size = some { cls := .type "tuple", data := .seq #[.int i tk, .str ⟨#[c]⟩ uu] } := (sb.2 _ (Nat.ne_of_gt hel)).trans hT
    have new : ObjOk X.prog X.w (upd H s.heap.objs.size (.tup [.int (i : Nat), .str ⟨#[c]⟩])) h'' s.heap.objs.size (.tup [.int (i : Nat), .str ⟨#[c]⟩]) :=
      ⟨by show 2 ≤ sizeLine; decide, [.int i tk, .str ⟨#[c]⟩ uu], .cons ⟨_, rfl⟩ (.cons ⟨_, rfl⟩ .nil), ⟨_, hT2, rfl, _, rfl⟩⟩
    have I1 : Inv X pins σ (upd H s.heap.objs.size (.tup [.int (i : Nat), .str ⟨#[c]⟩])) { s with heap := h'', toks := tk + 1 } :=
      I.turnedNew (ch := [e, it]) (fun b ob hb q => (sb.2 b (fun y => hb (by simp [y]))).trans (hk b ob (fun y => hb (by simp [y])) (fun y => hb (by simp [y])) q)) hf (Nat.le_refl _) new
    refine ⟨.ref s.heap.objs.size, _, I1, rfl, ⟨_, c, rfl, I.hok.fresh (Nat.le_refl _), rfl, hcx⟩, ⟨⟨.str ⟨#[c]⟩ uu, ?_⟩, ?_, hne, hg⟩, fun b hb => ?_⟩
    · have e1 : ((i + 1 : Nat) : Int) = (i : Int) + 1 := by omega
      rw [e1]; exact he'
    · obtain ⟨o, ho2, r⟩ := hit'
      exact ⟨o, (sb.2 it (Ne.symm hne)).trans ho2, r⟩
    · have hb' : b < s.heap.objs.size := by
        have e' : b = e ∨ b = it := by simpa using hb
        rcases e' with y | y
        · rw [y]; exact hel
        · rw [y]; exact hil
      rw [upd_ne (Nat.ne_of_lt hb')]
      exact (hf b hb).1
  done := by
    intro X hP hw hK hc i pins s σ H E I hf st hg
    subst hP hw hK
    obtain ⟨⟨old, he⟩, hit, hne, hle⟩ := st
    obtain ⟨f0, f1, f2, f3, f4, f5⟩ := hf it (by simp)
    have D : Draws X.prog X.w X.A.in1 it [it] z.cps.size (fun i v => ∃ c u, z.cps[i]? = some c ∧ v = .str ⟨#[c]⟩ u) (fun i h => h.IsStrIter it ty z t i) := by
      rcases hty with y | y
      · rw [y]; exact Draws.strAscii (A := X.A.in1) (I.ok.hd hc) it z t
      · rw [y]; exact Draws.strWide (A := X.A.in1) (I.ok.hd hc) it z t
    have hi : i = z.cps.size := Nat.le_antisymm hle hg
    subst hi
    exact wpAny_pyNext_enum_endD D he hit fun h' eb => ⟨rfl, I.turned (t' := s.toks) (fun b o hb q => eb b o hb q) f0 f1 f3 f4 f5⟩
  self := fun A i s Q E st h => let ⟨⟨_, he⟩, _⟩ := st; wpAny_pyIter_enum he h
def iEnumS (ta : TA) : TI := fun σ H R => ta σ H fun vs H1 => ∃ z, vs = [.str z] ∧ R (IteS z) H1
theorem pi_enumS {X : Cx} {e : Expr} {ta : TA} {p pos tpos : Pos} {elts : List Expr} {kk : Nat} (hg : Gl X "enumerate") (hm : X.mg "enumerate" = none) (ha : PA X [e] ta) (hs : starEach [e] X.env = [(false, eval e X.env)] := by rfl) :
    PI X (.Tuple elts kk tpos) (.Call (.Name "enumerate" p) [e] [] pos) (iEnumS ta) := by
  refine ⟨fun pins s σ H R I h => ?_⟩
  refine Call_ (ld_blt I hg hm boot_enumerate (PyProof.Rows.callWith_type1 (thn (ha.run pos pins s σ H _ I h) fun us s1 ⟨vs, H1, I1, r1, q1⟩ => ?_) hs rfl))
  obtain ⟨z, ex, q⟩ := q1
  subst ex
  cases r1 with
  | cons r rr =>
    cases rr
    obtain ⟨t, rfl⟩ := r
    refine call_enumerate_str fun h' he hit hsz hk => wpAny_pyIter_enum he ?_
    have I2 : Inv X pins σ H1 { s1 with heap := h' } := I1.kept (t' := s1.toks) hk
    have hty : strIterType z = "str_ascii_iterator" ∨ strIterType z = "str_iterator" := by
      unfold strIterType
      split
      · exact .inl rfl
      · exact .inr rfl
    refine ⟨s1.heap.objs.size + 1, [s1.heap.objs.size + 1, s1.heap.objs.size], _, _, H1, rfl, I2, turn_enumS z t (strIterType z) hty (s1.heap.objs.size + 1) s1.heap.objs.size, ⟨⟨.none, he⟩, hit, Nat.succ_ne_self _, Nat.zero_le _⟩, fun b hb => ?_, q⟩
    have e' : b = s1.heap.objs.size + 1 ∨ b = s1.heap.objs.size := by simpa using hb
    have hle : s1.heap.objs.size ≤ b := by
      rcases e' with y | y
      · rw [y]; exact Nat.le_add_right _ _
      · rw [y]; exact Nat.le_refl _
    exact I1.fpOk hle (I1.hok.fresh hle)
theorem walk_enumS {z : Str} : Walk (IteS z) z.cps.size (fun _ => True) (YPair (fun i => some (.int (i : Nat))) (fun i => z.cps[i]?.map fun c => .str ⟨#[c]⟩)) := by
  refine ⟨fun i _ hi _ => hi, fun _ _ => Nat.le_refl _, fun i H v H' _ _ y => ?_⟩
  obtain ⟨T, c, h1, h2, h3, h4⟩ := y
  exact ⟨T, .int (i : Nat), .str ⟨#[c]⟩, h1, h2, h3, rfl, by show (z.cps[i]?.map fun c => V.str ⟨#[c]⟩) = _; rw [h4]; rfl⟩
section
variable {K : PySem.W.Frag} {σ : L2.St} {H : Hp} {ta tb te tl : TE} {D : Ends} {tu tz : TS} {v x : V}
/-- for i, x in enumerate(text) -/
theorem g_forES {j k : Nat} {l : List Nat} (h : Ev te σ H (.str (txt l))) (Pv : Nat → L2.St → Hp → Prop) (h0 : ∀ H1, Ex H H1 → Pv 0 σ H1)
    (hs : ∀ (i : Nat) c T σ' H', l[i]? = some c → Pv i σ' H' → H' T = none → Go tu { D with nx := Pv (i + 1), ct := Pv (i + 1), bk := tz D } ((σ'.set j (some (.int (i : Int)))).set k (some (.str ⟨#[c]⟩))) (upd H' T (.tup [.int (i : Int), .str ⟨#[c]⟩]))) (hd : ∀ σ' H', Pv l.length σ' H' → Go tz D σ' H') :
    Go (tSeq (tFor (iEnumS (tCons te tNil)) (gTup K 2 (gCons (gName j) (gCons (gName k) gNil))) tu) tz) D σ H := fun H0 e0 =>
  h H0 e0 _ fun H1 e => ⟨txt l, rfl, for_it walk_enumS Pv (h0 H1 (e0.trans e)) (fun _ _ _ _ _ => trivial) (fun i x σ' H' H'' hi p y => by
    obtain ⟨T, u, w, rfl, hT, rfl, h4, h5⟩ := y
    cases h4
    have h6 : (txt l).cps[i]? = l[i]? := by simp [txt]
    have h5 : ((txt l).cps[i]?.map fun c => V.str ⟨#[c]⟩) = some w := h5
    rw [h6] at h5
    cases hl : l[i]? with
    | none => rw [hl] at h5; cases h5
    | some c =>
      rw [hl] at h5
      cases h5
      exact ⟨T, [.int (i : Int), .str ⟨#[c]⟩], rfl, .inl (.inl upd_same), rfl, .int (i : Int), [.str ⟨#[c]⟩], rfl, .str ⟨#[c]⟩, [], rfl, rfl, (hs i c T σ' H' hl p hT).here⟩) (fun σ' H' p => (hd σ' H' (by have e9 : (txt l).cps.size = l.length := by { simp [txt] }; rw [e9] at p; exact p)).here)⟩
/-- for x in text -/
theorem g_forS {j : Nat} {l : List Nat} (h : Ev te σ H (.str (txt l))) (Pv : Nat → L2.St → Hp → Prop) (h0 : ∀ H1, Ex H H1 → Pv 0 σ H1)
    (hs : ∀ (i : Nat) c σ' H', l[i]? = some c → Pv i σ' H' → Go tu { D with nx := Pv (i + 1), ct := Pv (i + 1), bk := tz D } (σ'.set j (some (.str ⟨#[c]⟩))) H') (hd : ∀ σ' H', Pv l.length σ' H' → Go tz D σ' H') :
    Go (tSeq (tFor (iStr te) (gName j) tu) tz) D σ H := fun H0 e0 =>
  h H0 e0 _ fun H1 e => ⟨txt l, rfl, for_it walk_str Pv (h0 H1 (e0.trans e)) (fun _ _ _ _ _ => trivial) (fun i x σ' H' H'' hi p y => by
    obtain ⟨e7, c, h5, e8⟩ := y
    subst e8
    have h6 : (txt l).cps[i]? = l[i]? := by simp [txt]
    rw [h6] at h5
    rw [e7]
    exact (hs i c σ' H' h5 p).here) (fun σ' H' p => (hd σ' H' (by have e9 : (txt l).cps.size = l.length := by { simp [txt] }; rw [e9] at p; exact p)).here)⟩
/-! ### insert, index -/
def rInsert : V → List V → Hp → VK → Prop := fun x vs H Q => ∃ (l : Addr) (xs : List V) (i : Int) (y : V), x = .ref l ∧ vs = [.int i, y] ∧ H l = some (.lst xs) ∧ xs.length < sizeLine ∧ 0 ≤ i ∧ i < 2 ^ 63 ∧
    Q .non (upd H l (.lst (xs.take i.toNat ++ [y] ++ xs.drop i.toNat)))
theorem g_insert {l : Addr} {xs : List V} {i : Int} (hl : H l = some (.lst xs)) (ha : Ev ta σ H (.ref l)) (hb : Ev tb σ H (.int i)) (h : Ev te σ H v) (hz : xs.length < 100000) (h0 : 0 ≤ i) (h1 : i < 100000) (k : ∀ H1, Ex H H1 → tz D σ (upd H1 l (.lst (xs.take i.toNat ++ [v] ++ xs.drop i.toNat)))) :
    Go (tSeq (tDrop (tBM K "list" rInsert ta (tCons tb (tCons te tNil)))) tz) D σ H := fun H1 e1 => ha H1 e1 _ fun H2 e2 =>
  ⟨Or.inl ⟨rfl, xs, sq_of ((e1.trans e2) l _ hl)⟩, hb H2 (e1.trans e2) _ fun H3 e3 => h H3 ((e1.trans e2).trans e3) _ fun H4 e4 =>
    ⟨l, xs, i, v, rfl, rfl, (((e1.trans e2).trans e3).trans e4) l _ hl, sz_lt hz, h0, by omega, k H4 (((e1.trans e2).trans e3).trans e4)⟩⟩
theorem ev_index {p : Addr} {ns : List Int} {i : Int} (ha : Ev ta σ H (.ref p)) (hb : Ev tb σ H (.int i)) (hs : SqL K H p (ns.map V.int)) (hm : i ∈ ns) : Ev (tBM K "list" (rIndex K) ta (tCons tb tNil)) σ H (.int ((ns.idxOf i : Nat) : Int)) := fun H1 e Q q =>
  ha H1 e _ fun H2 e2 => ⟨Or.inl ⟨rfl, _, ex_l (e.trans e2) hs⟩, hb H2 (e.trans e2) _ fun H3 e3 =>
    ⟨p, ns.map V.int, .int i, ns.idxOf i, .int i, rfl, rfl, ex_l ((e.trans e2).trans e3) hs, rfl, List.all_eq_true.mpr fun y hy => by
        obtain ⟨z, _, rfl⟩ := List.mem_map.mp hy
        rfl, by
        rw [List.getElem?_map, List.getElem?_eq_getElem (List.idxOf_lt_length_iff.mpr hm), List.getElem_idxOf]
        rfl, by simp [eqV], fun m z' hlt hz => by
        have hm2 : m < ns.length := Nat.lt_trans hlt (List.idxOf_lt_length_iff.mpr hm)
        rw [List.getElem?_map, List.getElem?_eq_getElem hm2] at hz
        cases hz
        have h9 := List.not_of_lt_findIdx (p := (· == i)) (xs := ns) (i := m) hlt
        simpa [eqV] using h9, q H3 (e2.trans e3)⟩⟩
end
end Fo
/-! FoldP4 -/
namespace Fo
open PySem L2 Evl

def Letters (l : List Nat) : Prop := ∀ c ∈ l, c = 86 ∨ c = 77
def sp_look_at (K : PySem.W.Frag) (c : Cs) : Sp := fun vs H Q E => ∃ l : List Nat, vs = [.str (txt l)] ∧ l.length ≤ 1000 ∧ OkOr c.nl (Letters l) (RetV .non H Q) H E
def MadeV (l : List Nat) (xs : List V) : Prop := ∃ ps : List Int, xs = ps.map V.int ∧ IsPile ps ∧ ps.length = l.length + 1 ∧ NoX (pl ps) ∧ lets (pl ps) = l
def sp_pile_of (K : PySem.W.Frag) (c : Cs) : Sp := fun vs H Q E => ∃ l : List Nat, vs = [.str (txt l)] ∧ l.length ≤ 1000 ∧ OkOr c.nl (Letters l) (RetP (MadeV l) H Q) H E
def sp_l_is_pile (K : PySem.W.Frag) (c : Cs) : Sp := fun vs H Q _ => ∃ (a : Addr) (ns : List Int), vs = [.ref a, .int (ns.length : Int)] ∧ H a = some (.lst (ns.map V.int)) ∧ IsPile ns ∧ ns.length ≤ 1000 ∧ RetV (.bl true) H Q
/-- a value that keeps a word -/
def EvR (te : TE) (σ : L2.St) (H : Hp) (P : V → Prop) : Prop := ∀ H1, Ex H H1 → ∀ Q : VK, (∀ v H2, P v → Ex H1 H2 → Q v H2) → te σ H1 Q
def SpR (sp : Sp) (vs : List V) (H : Hp) (P : V → Prop) : Prop := ∀ H1, Ex H H1 → ∀ Q : VK, (∀ v H2, P v → Ex H1 H2 → Q v H2) → ∀ E : XK, sp vs H1 Q E
def RetR (P : V → Prop) (H : Hp) (Q : VK) : Prop := ∀ v H2, P v → Ex H H2 → Q v H2
theorem evr_call {sp : Sp} {vs : List V} {E : XK} {ta : TA} {σ : L2.St} {H : Hp} {P : V → Prop} (h : EvA ta σ H vs) (hs : SpR sp vs H P) : EvR (tCall sp [] E ta) σ H P := fun H1 e Q q =>
  h H1 e _ fun H2 e2 => by
    rw [List.append_nil]
    exact hs H2 (e.trans e2) Q (fun v H3 hP e3 => q v H3 hP (e2.trans e3)) E
theorem g_asgR {te : TE} {σ : L2.St} {H : Hp} {P : V → Prop} {i : Nat} {D : Ends} {tz : TS} (h : EvR te σ H P) (k : ∀ v H1, P v → Ex H H1 → Go tz D (σ.set i (some v)) H1) :
    Go (tSeq (tAsg te (gName i)) tz) D σ H := fun H1 e => h H1 e _ fun v H2 hP e2 => (k v H2 hP (e.trans e2)).here
theorem g_dropX {te : TE} {σ : L2.St} {H : Hp} {D : Ends} {tz : TS} (h : EvX te σ H) : Go (tSeq (tDrop te) tz) D σ H := fun H1 e => h H1 e _
theorem g_aug {σ : L2.St} {H : Hp} {D : Ends} {tz : TS} {te : TE} {i : Nat} {f : Int → Int → Int} {a b : Int} (hx : σ[i]? = some (some (.int a))) (h : Ev te σ H (.int b)) (k : Go tz D (σ.set i (some (.int (f a b)))) H) : Go (tSeq (tAug i te (ipI f)) tz) D σ H := fun H1 e =>
  q_aug hx (h.mono e) fun H2 e2 => k H2 (e.trans e2)
def RowV (n : Int) (v : V) : Prop := ∃ l : List Nat, v = .str (txt l) ∧ (l.length : Int) = n ∧ Letters l
def sp_l_row (K : PySem.W.Frag) (c : Cs) : Sp := fun vs H Q _ => ∃ (a : Addr) (ns : List Int) (n : Int), vs = [.ref a, .int n] ∧ SqL K H a (ns.map V.int) ∧ 0 ≤ n ∧ n ≤ 100 ∧ RetR (RowV n) H Q
section
variable {K : PySem.W.Frag} {c : Cs} {H : Hp} {a : Addr} {ns : List Int} {l : List Nat} {n : Int}
theorem v_look (hl : l.length ≤ 1000) (h : Letters l) : SpV (sp_look_at K c) [.str (txt l)] H .non := fun H1 e Q q E => ⟨l, rfl, hl, .yes h q⟩
theorem x_look {E : XK} (hl : l.length ≤ 1000) (h : ¬ Letters l) (hx : ∀ H', Ex H H' → E (.ref c.nl) none H') : ∀ H1, Ex H H1 → ∀ Q : VK, sp_look_at K c [.str (txt l)] H1 Q E := fun H1 e Q => ⟨l, rfl, hl, .no h fun H' e' => hx H' (e.trans e')⟩
theorem v_pile_of (hl : l.length ≤ 1000) (h : Letters l) : SpLP (sp_pile_of K c) [.str (txt l)] H (MadeV l) := fun H1 e Q q E => ⟨l, rfl, hl, .yes h q⟩
theorem v_is_pile (h1 : H a = some (.lst (ns.map V.int))) (hp : IsPile ns) (hl : ns.length ≤ 1000) (hn : n = (ns.length : Int)) : SpV (sp_l_is_pile K c) [.ref a, .int n] H (.bl true) := by
  subst hn
  exact fun H1 e Q q E => ⟨a, ns, rfl, e a _ h1, hp, hl, q⟩
theorem v_row (hS : SqL K H a (ns.map V.int)) (h0 : 0 ≤ n) (h1 : n ≤ 100) : SpR (sp_l_row K c) [.ref a, .int n] H (RowV n) := fun H1 e Q q E => ⟨a, ns, n, rfl, ex_l e hS, h0, h1, q⟩
end
/-! ### the letters behind the next stamp -/
theorem lets_len (l : List Int) : (lets l).length = l.length - 1 := by simp [lets]
theorem lets_get {l : List Int} {k : Nat} (h : k < l.length - 1) : (lets l)[k]? = some (if (decide (gi l (k : Int) < gi l ((k : Int) + 1)) == decide ((k : Int) % 2 = 0)) = true then 86 else 77) := by
  unfold lets
  rw [List.getElem?_map, List.getElem?_range h]
  rfl
theorem lets_getD {p : List Int} {k : Nat} (h : k < p.length - 1) : (lets p).getD k 0 = if (decide (gi p (k : Int) < gi p ((k : Int) + 1)) == decide ((k : Int) % 2 = 0)) = true then 86 else 77 := by
  rw [List.getD_eq_getElem?_getD, lets_get h]
  rfl
theorem lets_letters (p : List Int) : Letters (lets p) := fun c hc => by
  unfold lets at hc
  obtain ⟨k, _, rfl⟩ := List.mem_map.mp hc
  split
  · exact .inl rfl
  · exact .inr rfl
theorem lets_next {p q : List Int} {g : Int} (h : Next p q g) (hp : 1 ≤ p.length) : lets q = lets p ++ [if (decide (gi p ((p.length : Int) - 1) < g) == decide (((p.length : Int) - 1) % 2 = 0)) = true then 86 else 77] := by
  have hl := h.len
  refine List.ext_getElem? fun k => ?_
  have l1 := lets_len p
  have l2 := lets_len q
  by_cases hk : k < p.length - 1
  · rw [List.getElem?_append_left (by omega), lets_get hk, lets_get (by omega), h.old (k : Int) (by omega) (by omega), h.old ((k : Int) + 1) (by omega) (by omega)]
    have e : decide ((if gi p (k : Int) < g then gi p (k : Int) else gi p (k : Int) + 1) < (if gi p ((k : Int) + 1) < g then gi p ((k : Int) + 1) else gi p ((k : Int) + 1) + 1)) = decide (gi p (k : Int) < gi p ((k : Int) + 1)) := by
      rw [decide_eq_decide]
      split <;> split <;> omega
    rw [e]
  · by_cases hk2 : k = p.length - 1
    · have ek : (k : Int) = (p.length : Int) - 1 := by omega
      have ek2 : (k : Int) + 1 = (p.length : Int) := by omega
      rw [List.getElem?_append_right (by omega), lets_get (by omega), ek2, h.new, ek, h.old _ (by omega) (by omega), l1, hk2, Nat.sub_self]
      have e : decide ((if gi p ((p.length : Int) - 1) < g then gi p ((p.length : Int) - 1) else gi p ((p.length : Int) - 1) + 1) < g) = decide (gi p ((p.length : Int) - 1) < g) := by
        rw [decide_eq_decide]
        split <;> omega
      rw [e]
      rfl
    · rw [List.getElem?_eq_none (by rw [l2]; omega), List.getElem?_eq_none (by rw [List.length_append, l1]; simp; omega)]
end Fo
/-! FoldM4 -/
namespace Fo
open PySem L2 Evl

/-! ### sorted ints -/
def srt (ns : List Int) : List Int := ns.mergeSort (fun a b => decide (a ≤ b))
theorem srt_perm (ns : List Int) : (srt ns).Perm ns := List.mergeSort_perm ns _
theorem srt_asc (ns : List Int) : (srt ns).Pairwise (· ≤ ·) := by
  have h := List.pairwise_mergeSort (le := fun a b : Int => decide (a ≤ b)) (fun a b c h1 h2 => by
    have := of_decide_eq_true h1
    have := of_decide_eq_true h2
    exact decide_eq_true (by omega)) (fun a b => by
    rcases Int.le_total a b with h | h
    · rw [decide_eq_true h]; rfl
    · rw [decide_eq_true h, Bool.or_true]) ns
  exact h.imp fun h => of_decide_eq_true h
theorem srt_eq {ns ms : List Int} (hp : ms.Perm ns) (ho : ms.Pairwise (· ≤ ·)) : ms = srt ns :=
  List.Perm.eq_of_pairwise (fun a b _ _ h1 h2 => Int.le_antisymm h1 h2) ho (srt_asc ns) (hp.trans (srt_perm ns).symm)
theorem srt_congr {ns ms : List Int} (hp : ms.Perm ns) : srt ms = srt ns := srt_eq ((srt_perm ms).trans hp) (srt_asc ms)
theorem srt_len (ns : List Int) : (srt ns).length = ns.length := (srt_perm ns).length_eq

/-! ### what is drawn and what holds -/
def heldB (p : List Int) (f l c s : Int) : Bool := (List.range (l - f).toNat).any fun (k : Nat) => decide ((f + (k : Int) - c) % 2 = 0) && wr p (f + (k : Int)) s
def lieB (p : List Int) (f l : Int) : Bool := !(decide (0 < f) && (decide (l < (p.length : Int) - 1) && decide ((l - f) % 2 = 1))) && !(decide (0 < f) && heldB p f l (f - 1) f) && !(decide (l < (p.length : Int) - 1) && heldB p f l l l)
def firstOf (es : List Int) (i : Nat) : Int := if i = 0 then 0 else gi es ((i : Int) - 1) + 1
def partsOf (es : List Int) : List (Int × Int) := (List.range es.length).map fun (i : Nat) => (firstOf es i, gi es (i : Int))
def freeB (p : List Int) (es : List Int) : Bool := (List.range es.length).all fun (i : Nat) => lieB p (firstOf es i) (gi es (i : Int))
def endsOf (n : Int) (cs : List Int) : List Int := srt cs ++ [n - 1]
def freeAt (p : List Int) (cs : List Int) : Bool := freeB p (endsOf (p.length : Int) cs)
theorem freeAt_perm {p cs ds : List Int} (h : cs.Perm ds) : freeAt p cs = freeAt p ds := by
  unfold freeAt endsOf
  rw [srt_congr h]
structure Creases (n : Int) (cs : List Int) : Prop where
  bnd : ∀ x ∈ cs, 0 ≤ x ∧ x ≤ n - 2
  nd : cs.Nodup
theorem ends_len (n : Int) (cs : List Int) : (endsOf n cs).length = cs.length + 1 := by
  unfold endsOf
  rw [List.length_append, srt_len, List.length_singleton]
theorem ends_bnd {n : Int} {cs : List Int} (hn : 1 ≤ n) (h : ∀ x ∈ cs, 0 ≤ x ∧ x ≤ n - 2) {i : Nat} (hi : i < (endsOf n cs).length) : 0 ≤ firstOf (endsOf n cs) i ∧ firstOf (endsOf n cs) i ≤ n - 1 ∧ 0 ≤ gi (endsOf n cs) (i : Int) ∧ gi (endsOf n cs) (i : Int) ≤ n - 1 := by
  have hl := ends_len n cs
  have low : ∀ k : Nat, k < cs.length → 0 ≤ gi (endsOf n cs) (k : Int) ∧ gi (endsOf n cs) (k : Int) ≤ n - 2 := fun k hk => by
    have e : gi (endsOf n cs) (k : Int) = gi (srt cs) (k : Int) := gi_app1 (by rw [srt_len]; exact hk)
    rw [e]
    exact h _ ((srt_perm cs).mem_iff.mp (gi_mem (by omega) (by rw [srt_len]; omega)))
  have all : ∀ k : Nat, k < cs.length + 1 → 0 ≤ gi (endsOf n cs) (k : Int) ∧ gi (endsOf n cs) (k : Int) ≤ n - 1 := fun k hk => by
    by_cases hk2 : k < cs.length
    · have := low k hk2
      omega
    · have e : gi (endsOf n cs) (k : Int) = n - 1 := by
        unfold endsOf
        rw [gi_app2 (by rw [srt_len]; omega), srt_len, show k - cs.length = 0 by omega]
        rfl
      rw [e]
      omega
  have a := all i (by omega)
  refine ⟨?_, ?_, a.1, a.2⟩
  · unfold firstOf
    split
    · omega
    · have e : ((i : Int) - 1) = ((i - 1 : Nat) : Int) := by omega
      have := low (i - 1) (by omega)
      rw [e]
      omega
  · unfold firstOf
    split
    · omega
    · have e : ((i : Int) - 1) = ((i - 1 : Nat) : Int) := by omega
      have := low (i - 1) (by omega)
      rw [e]
      omega
theorem firstOf_succ (es : List Int) (i : Nat) : firstOf es (i + 1) = gi es (i : Int) + 1 := by
  unfold firstOf
  rw [if_neg (Nat.succ_ne_zero i), show (((i + 1 : Nat) : Int) - 1) = (i : Int) by omega]

/-! ### a set's length -/
theorem nd_le : ∀ {ks ns : List Int}, ks.Nodup → (∀ k ∈ ks, k ∈ ns) → ks.length ≤ ns.length
  | [], ns, _, _ => Nat.zero_le _
  | k :: ks, ns, nd, h => by
    have hk := h k List.mem_cons_self
    have nd2 := List.nodup_cons.mp nd
    have ih := nd_le (ks := ks) (ns := ns.erase k) nd2.2 fun x hx => by
      refine (List.mem_erase_of_ne fun e => ?_).mpr (h x (List.mem_cons_of_mem _ hx))
      subst e
      exact nd2.1 hx
    have hl := List.length_erase_of_mem hk
    have hp := List.length_pos_of_mem hk
    rw [List.length_cons]
    omega
theorem set_len {ks ns : List Int} (nd : ks.Nodup) (h : ∀ k, k ∈ ks ↔ k ∈ ns) : ks.length ≤ ns.length ∧ (ks.length = ns.length ↔ ns.Nodup) := by
  have h1 := nd_le nd fun k hk => (h k).mp hk
  refine ⟨h1, fun e => ?_, fun n2 => Nat.le_antisymm h1 (nd_le n2 fun k hk => (h k).mpr hk)⟩
  refine Classical.byContradiction fun hn => ?_
  have go : ∀ ms : List Int, ¬ ms.Nodup → ∃ ks : List Int, (∀ x ∈ ms, x ∈ ks) ∧ ks.length < ms.length := by
    intro ms
    induction ms with
    | nil => exact fun hx => absurd List.nodup_nil hx
    | cons m ms ih =>
      intro hx
      by_cases hm : m ∈ ms
      · exact ⟨ms, fun x hx' => by
          rcases List.mem_cons.mp hx' with rfl | hx'
          · exact hm
          · exact hx', by simp⟩
      · have hms : ¬ ms.Nodup := fun q => hx (List.nodup_cons.mpr ⟨hm, q⟩)
        obtain ⟨ks, k1, k2⟩ := ih hms
        exact ⟨m :: ks, fun x hx' => by
          rcases List.mem_cons.mp hx' with rfl | hx'
          · exact List.mem_cons_self
          · exact List.mem_cons_of_mem _ (k1 x hx'), by simpa using k2⟩
  obtain ⟨ls, l1, l2⟩ := go ns hn
  have := nd_le nd fun k hk => l1 k ((h k).mp hk)
  omega

/-! ### every second one, then the others -/
theorem two_halves : ∀ n : Nat, n ≤ 100 → ((sliceRange 1 (n : Int) 2 ++ sliceRange 0 (n : Int) 2).Perm (List.range n)) := by
  have h : ∀ n : Fin 101, ((sliceRange 1 ((n : Nat) : Int) 2 ++ sliceRange 0 ((n : Nat) : Int) 2).Perm (List.range (n : Nat))) := by decide +kernel
  exact fun n hn => h ⟨n, by omega⟩
end Fo
/-! FoldC -/
namespace Fo
open PySem PySem.Spec PyProof.Rows L2 Evl

/-! ### a loop over a list or a tuple -/
def iSeq (K : PySem.W.Frag) (tl : TE) : TI := fun σ H R => tl σ H fun x H1 => ∃ a, x = .ref a ∧ (((∃ xs, SqL K H1 a xs) ∧ R (Itl K a) H1) ∨ ((∃ xs, SqT K H1 a xs) ∧ R (Itt K a) H1))
theorem pi_seq {X : Cx} {tg l : Expr} {tl : TE} (hl : PE X l tl) : PI X tg l (iSeq X.K tl) := by
  refine ⟨fun pins s σ H R I h => ?_⟩
  refine thn (hl.run pins s σ H _ I h) fun v s1 ⟨x, H1, I1, r1, q1⟩ => ?_
  obtain ⟨a, e, q⟩ := q1
  subst e
  cases r1
  rcases q with ⟨⟨xs, hq⟩, q⟩ | ⟨⟨xs, hq⟩, q⟩
  · obtain ⟨its, rv, p, hz⟩ := I1.list hq
    refine wpAny_pyIter_list p.isList ?_
    refine ⟨s1.heap.objs.size, [s1.heap.objs.size], _, _, H1, rfl, I1.kept (t' := s1.toks) fun b o e => Heap.get?_push_of_some _ e, turn_list a _, ⟨_, Heap.get?_push_size _ rfl, rfl, rfl⟩, fun b hb => ?_, q⟩
    have e : b = s1.heap.objs.size := by simpa using hb
    subst e
    exact I1.fpOk (Nat.le_refl _) (I1.hok.fresh (Nat.le_refl _))
  · obtain ⟨its, rv, p, hz⟩ := I1.tuple hq
    refine wpAny_pyIter_tuple (show s1.heap.IsTuple a its.toArray from p) ?_
    refine ⟨s1.heap.objs.size, [s1.heap.objs.size], _, _, H1, rfl, I1.kept (t' := s1.toks) fun b o e => Heap.get?_push_of_some _ e, turn_tuple a _, ⟨_, Heap.get?_push_size _ rfl, rfl, rfl⟩, fun b hb => ?_, q⟩
    have e : b = s1.heap.objs.size := by simpa using hb
    subst e
    exact I1.fpOk (Nat.le_refl _) (I1.hok.fresh (Nat.le_refl _))

/-! ### sorted(list or tuple) -/
section
variable {prog : Program} {w : World} {A : Around} {E : Value → Shared → Prop} {s : Shared}
theorem sorted_seq {l : Addr} {T : String} {o : Obj} {vs : List Value} {n : Nat} {ns : List Int} {Q : Value → Shared → Prop} (hT : T = "list" ∨ T = "tuple") (ho : s.heap.get? l = some o) (hc : o.cls = .type T) (hd : o.data = .seq vs.toArray n) (hI : IntsAre vs ns) (hz : vs.length ≤ sizeLine)
    (h : ∀ (h1 h' : Heap) (a : Addr) (out : List Value) (e : Nat), (∀ b o', s.heap.get? b = some o' → h1.get? b = some o') → (∀ b o', h1.get? b = some o' → h'.get? b = some o') → h1.objs.size ≤ a → h'.get? a = some (seqObj "list" out.toArray e) → SrtO.Srtd SrtO.ltIv out → SrtO.Stb SrtO.ltIv out vs → Q (.ref a) { s with heap := h' }) :
    wpAny (model prog w) A (call (.builtin "sorted") [.ref l]) Q E s := by
  refine Calls.call_function_entry kind_sorted plain_sorted entry_sorted (args_sorted1 _) ?_
  unfold Builtin.«sorted»
  refine wpAny_bind (m := checkCount "sorted" 1 1 _) (wpAny_pure ?_)
  refine wpAny_bind (wpAny_collect_seq l hT ho hc hd (fun h1 hk => ?_) (by rw [List.size_toArray]; exact hz))
  rw [List.toList_toArray]
  refine wpAny_bind (wpAny_newList ?_ hz)
  have hoL : (h1.push (seqObj "list" vs.toArray 0)).get? h1.objs.size = some (seqObj "list" vs.toArray 0) := Heap.get?_push_size _ rfl
  show wpAny _ _ _ _ _ { s with heap := h1.push (seqObj "list" vs.toArray 0) }
  refine wpAny_bind (wpAny_holding (wpAny_call_entry slot_list_sort ⟨_, hoL, rfl⟩ entry_list_sort (SrtO.list_sort_ord SrtO.swo_int hoL hz (fun h2 => SrtO.ints_sortable hI h2) fun out hs hb => ⟨_, rfl, ?_⟩) (args_list_sort _)))
  obtain ⟨ep, he'⟩ := PyProof.Rows.sortedHeap_at (vs := vs) (out := out.toArray) hoL
  refine wpAny_pure ⟨_, rfl, h h1 _ _ out ep hk (fun b o' q => ?_) (Nat.le_refl _) he' hs hb⟩
  rw [PyProof.Rows.sortedHeap_old (Nat.ne_of_lt (Heap.lt_size q)) (by rw [Heap.size_push]; exact Nat.lt_succ_of_lt (Heap.lt_size q))]
  exact Heap.get?_push_of_some _ q
end
/-- sorted(xs), xs a list or a tuple of ints -/
def rSortedQ (K : PySem.W.Frag) : List V → Hp → VK → Prop := fun vs H Q => ∃ (a : Addr) (ns : List Int), vs = [V.ref a] ∧ (SqL K H a (ns.map V.int) ∨ SqT K H a (ns.map V.int)) ∧
  ∀ (ns' : List Int) (p : Addr), ns'.Perm ns → ns'.Pairwise (· ≤ ·) → H p = none → Q (.ref p) (upd H p (.lst (ns'.map V.int)))
theorem cr_sortedS2 {X : Cx} : CallR X (.builtin "sorted") (rSortedQ X.K) := by
  intro pins s σ H vs us Q I r h
  obtain ⟨a, ns, rfl, hs, q⟩ := h
  rw [Vals.ref1 r]
  obtain ⟨T, o, n, its, hT, ho, hc, hd, rv, hz⟩ : ∃ (T : String) (o : Obj) (n : Nat) (its : List Value), (T = "list" ∨ T = "tuple") ∧ s.heap.get? a = some o ∧ o.cls = .type T ∧ o.data = .seq its.toArray n ∧ Vals (ns.map V.int) its ∧ (ns.map V.int).length ≤ sizeLine := by
    rcases hs with hs | hs
    · obtain ⟨its, rv, p, hz⟩ := I.list hs
      obtain ⟨o, ho, hc, n, hd⟩ := p.isList
      exact ⟨"list", o, n, its, .inl rfl, ho, hc, hd, rv, hz⟩
    · obtain ⟨its, rv, p, hz⟩ := I.tuple hs
      obtain ⟨o, ho, hc, n, hd⟩ := id p
      exact ⟨"tuple", o, n, its, .inr rfl, ho, hc, hd, rv, hz⟩
  have hi := rv.ints
  refine sorted_seq hT ho hc hd hi (by rw [← rv.length]; exact hz) fun h1 h' p out e k1' k2' hle he' g1 g2 => ?_
  obtain ⟨k1, k2, k3⟩ := SrtO.ints_out hi g1 g2
  have I1 : Inv X pins σ H { s with heap := h1 } := I.kept (t' := s.toks) k1'
  have hlen : ((out.map SrtO.iv).map V.int).length ≤ sizeLine := by
    rw [List.length_map, k2.length_eq]
    rw [List.length_map] at hz
    exact hz
  exact ⟨.ref _, upd H p (.lst ((out.map SrtO.iv).map V.int)), I1.laid (t' := s.toks) k2' hle ⟨hlen, out, e, vals_of_ints k1, he'⟩, rfl, q _ _ k2 k3 (I1.hok.fresh hle)⟩

/-! ### len(set(xs)), xs a list or a tuple of ints -/
def tLenSet (K : PySem.W.Frag) (ta : TE) : TE := fun σ H Q => ta σ H fun x H1 => ∃ (l : Addr) (ns : List Int), x = .ref l ∧ (SqL K H1 l (ns.map V.int) ∨ SqT K H1 l (ns.map V.int)) ∧ ns.length ≤ 4000 ∧ ∀ ks : List Int, ks.Nodup → (∀ k, k ∈ ks ↔ k ∈ ns) → Q (.int (ks.length : Nat)) H1
theorem fm_nodup (val : Nat → Int) : ∀ i, (PyProof.Rows.firstMet val i).Nodup
  | 0 => List.nodup_nil
  | i + 1 => by
    have ih := fm_nodup val i
    rw [PyProof.Rows.firstMet_succ]
    unfold PyProof.Rows.step_dedup
    split
    · exact ih
    · rename_i h
      refine List.nodup_append.mpr ⟨ih, by simp, fun a ha b hb => ?_⟩
      have e : b = val i := by simpa using hb
      subst e
      intro e
      subst e
      exact h (List.any_eq_true.mpr ⟨_, ha, by simp⟩)
theorem fm_mem (ns : List Int) (k : Int) : k ∈ PyProof.Rows.firstMet (fun i => ns.getD i 0) ns.length ↔ k ∈ ns := by
  have h := PyProof.Rows.firstMet_any (fun i => ns.getD i 0) ns.length k
  have e : (List.range ns.length).map (fun i => ns.getD i 0) = ns := by
    refine List.ext_getElem (by simp) fun i h1 h2 => ?_
    simp [List.getD_eq_getElem?_getD, List.getElem?_eq_getElem h2]
  rw [e] at h
  have f : ∀ l : List Int, l.any (· == k) = true ↔ k ∈ l := fun l => by simp [List.any_eq_true]
  rw [← f, ← f, h]
theorem pe_lenSet {X : Cx} {a : Expr} {ta : TE} {p p2 q pos : Pos} (hg : Gl X "len") (hm : X.mg "len" = none) (hg2 : Gl X "set") (hm2 : X.mg "set" = none) (ha : PE X a ta) (hc : X.calm = true := by rfl)
    (na : starEach [a] X.env = (false, eval a X.env) :: starEach [] X.env := by rfl) : PE X (.Call (.Name "len" p) [.Call (.Name "set" p2) [a] [] q] [] pos) (tLenSet X.K ta) := by
  refine ⟨fun pins s σ H Q I h => ?_⟩
  refine Call_ (ld_blt I hg hm boot_len ?_)
  refine PyProof.Rows.callWith_builtin1 (PyProof.Rows.args_cons ?_ rfl) rfl rfl
  refine Call_ (ld_blt I hg2 hm2 boot_set ?_)
  refine PyProof.Rows.callWith_type1 (PyProof.Rows.args_cons (thn (ha.run pins s σ H _ I h) fun v s1 ⟨x, H1, I1, r1, q1⟩ => PyProof.Rows.args_nil ?_) na) na rfl
  obtain ⟨l, ns, rfl, hq, hl, q1⟩ := q1
  cases r1
  rcases hq with hq | hq
  · obtain ⟨its, r, pl, hz⟩ := I1.list hq
    have hlen : its.toArray.size = ns.length := by rw [List.size_toArray, ← r.length, List.length_map]
    refine call_set_list (I1.ok.hd hc) pl.isList (by simpa using RZ.intsAre_vals r) (by rw [hlen]; unfold scanBound; omega) fun h' tk hS hk => ?_
    refine PyProof.Rows.args_nil ?_
    rw [hlen] at hS
    obtain ⟨o, es, ep, t, ho, hex, hd, _, _, _, hf, hn⟩ := hS
    have I2 : Inv X pins σ H1 { s1 with heap := h', toks := tk } := I1.kept fun b o e => hk b o (Heap.lt_size e) e
    have hle := PyProof.Rows.firstMet_length_le (fun i => ns.getD i 0) ns.length
    exact call_len_set ho hex hd hf (by rw [hn] <;> omega) ⟨.int (PyProof.Rows.firstMet (fun i => ns.getD i 0) ns.length).length, H1, I2.tok _, ⟨_, by rw [hn]⟩, q1 _ (fm_nodup _ _) (fm_mem ns)⟩
  · obtain ⟨its, r, pl, hz⟩ := I1.tuple hq
    refine call_set_tupI ns (I1.ok.hd hc) (show s1.heap.IsTuple l its.toArray from pl) (by simpa using RZ.intsAre_vals r) (by unfold scanBound; omega) fun h' tk c hS hcn hk => ?_
    refine PyProof.Rows.args_nil ?_
    obtain ⟨o, es, ep, t, ho, hex, hd, hg, hnd, hmem, hsb, hf, hn, _, _⟩ := hS
    have I2 : Inv X pins σ H1 { s1 with heap := h', toks := tk } := I1.kept fun b o e => hk b o e
    have hks : (es.toList.map keyOf).length = es.size := by rw [List.length_map, Array.length_toList]
    exact call_len_set ho hex hd hf (by rw [hn] <;> omega) ⟨.int ((es.toList.map keyOf).length : Nat), H1, I2.tok _, ⟨_, by rw [hks]⟩, q1 _ hnd fun k => by
      rw [← hmem k, decide_eq_true_eq]⟩

/-! ### list(reversed(xs)) -/
section
variable {prog : Program} {w : World} {A : Around} {E : Value → Shared → Prop} {s : Shared}
theorem extend_rev {it l : Addr} {items : Array Value} {R : Result → Shared → Prop} (hh : A.handled = none) (hit : s.heap.IsRevIter it l ((items.size : Int) - 1)) (hl : s.heap.IsList l items) (hne : l ≠ it) (hn : items.size ≤ sizeLine) (S : Addr) (hSi : S ≠ it) (hSl : S ≠ l) (res : Value) (c₀ : Nat) (hS : s.heap.get? S = some { cls := .type "list", data := .seq #[] c₀ })
    (hR : ∀ h' tk acc' c', (∀ b o, b ≠ S → b ≠ it → s.heap.get? b = some o → h'.get? b = some o) → h'.get? S = some { cls := .type "list", dict := none, data := .seq acc' c', slots := #[] } →
      ItemsOf (fun i v => items[items.size - 1 - i]? = some v) acc' items.size → R (.ok (.ret res)) { s with heap := h', toks := tk }) :
    wpAny (model prog w) A.in1 (Builtin.List.listExtendWith (.ref S) (.ref it) res)
      (fun fin s' => match fin with | .done f => R (.ok f) s' | .again c' => c'.quiet = true ∧ codeAny (model prog w) A c' R s') (fun e s' => R (.error e) s') s := by
  have W := (Walks.listRev (prog := prog) (w := w) (A := A.in1) hh it l hne items).toS
  have hSf : S ∉ [it, l] := by simp only [List.mem_cons, List.not_mem_nil, or_false, not_or]; exact ⟨hSi, hSl⟩
  have hT : s.TypeIs (.ref it) "list_reverseiterator" := hit.typeIs
  have h1 : Builtin.List.listSameRef (.ref S) (.ref it) = false := by simp [Builtin.List.listSameRef, hSi]
  unfold Builtin.List.listExtendWith
  refine wpAny_bind (wpAny_typeOf hT ?_)
  rw [if_neg (by rw [h1]; decide)]
  refine wpAny_bind (wpAny_pyIter_revIter hit ?_)
  refine wpAny_bind (wpAny_holding ?_)
  unfold Builtin.List.listLengthHint
  refine wpAny_bind (wpAny_specialOf hT RT.nolen_lri ?_)
  show wpAny _ A.in1 (specialOf (Value.ref it) (Str.ofString "__length_hint__") >>= _) _ _ _
  refine wpAny_bind (wpAny_specialOf hT RT.hint_lri ?_)
  generalize hid : ("list_reverseiterator.__length_hint__" : String) = id0
  wp_delta
  rw [show splitId id0 = some ("list_reverseiterator", "__length_hint__") from by subst hid; decide +kernel]
  subst hid
  refine wpAny_bind (wpAny_isInstance (b := true) hT (by rw [isSubtype_type]; kernel_rfl) ?_)
  refine wpAny_pure ?_
  rw [if_neg (by decide)]
  have e0 : ((items.size : Nat) : Int) - 1 - ((0 : Nat) : Int) = (items.size : Int) - 1 := by omega
  refine wpAny_pure ⟨plainId_quiet F.plain_extend_loop _, codeAny_extend_loopS W hn _ hSf _ items.size 0 _ _ _ rfl (Nat.zero_le _) ⟨Nat.zero_le _, by rw [e0]; exact hit, hl⟩ hS (ItemsOf.nil _) fun s' acc' c' hm hS' hacc => ?_⟩
  rw [Moved.eq_with hm]
  refine hR s'.heap s'.toks acc' c' (fun b o hb hb2 e => hm.heap b o (fun hmem => ?_) e) hS' hacc
  rcases List.mem_cons.mp hmem with e' | hmem
  · exact hb e'
  · exact hb2 (List.mem_singleton.mp hmem)
theorem call_list_rev {it l : Addr} {items : Array Value} {Q : Value → Shared → Prop} (hh : A.handled = none) (hit : s.heap.IsRevIter it l ((items.size : Int) - 1)) (hl : s.heap.IsList l items) (hne : l ≠ it) (hn : items.size ≤ sizeLine)
    (hQ : ∀ h' tk acc' c', (∀ b o, b ≠ it → s.heap.get? b = some o → h'.get? b = some o) →
      h'.get? s.heap.objs.size = some { cls := .type "list", dict := none, data := .seq acc' c', slots := #[] } → ItemsOf (fun i v => items[items.size - 1 - i]? = some v) acc' items.size → Q (.ref s.heap.objs.size) { s with heap := h', toks := tk }) :
    wpAny (model prog w) A (call (.type "list") [.ref it]) Q E s := by
  obtain ⟨oi, hoi, _⟩ := id hit
  obtain ⟨ol, hol, _⟩ := id hl
  have hSi : s.heap.objs.size ≠ it := Nat.ne_of_gt (Heap.lt_size hoi)
  have hSl : s.heap.objs.size ≠ l := Nat.ne_of_gt (Heap.lt_size hol)
  refine callType_codes (Q₁ := fun obj s₁ => obj = .ref s.heap.objs.size ∧ s₁ = { s with heap := s.heap.push { cls := .type "list", data := .seq #[] } }) PySem.F.called_list (PySem.F.typeCall_list_1 _) PySem.F.entry_list_init
    (code_list_new _ ⟨rfl, rfl⟩) fun obj s₁ h₁ => ?_
  obtain ⟨rfl, rfl⟩ := h₁
  have hS : (s.heap.push { cls := .type "list", data := .seq #[] }).get? s.heap.objs.size = some { cls := .type "list", data := .seq #[] } := Heap.get?_push_size _ rfl
  refine ⟨⟨_, hS, rfl⟩, PySem.F.args_list_init_2 _ _, ?_⟩
  show wpAny _ _ (do let old ← Builtin.List.listItems (.ref s.heap.objs.size); Builtin.List.listUpdate (.ref s.heap.objs.size) (fun _ => #[]); letGo old.toList.reverse; Builtin.List.listExtendWith (.ref s.heap.objs.size) (.ref it) .none) _ _ _
  refine wpAny_bind ?_
  unfold Builtin.List.listItems
  refine wpAny_bind (wpAny_seqItems hS rfl (wpAny_pure ?_))
  show wpAny _ _ (updateSeq s.heap.objs.size (fun _ => #[]) >>= fun _ => letGo (#[] : Array Value).toList.reverse >>= fun _ => Builtin.List.listExtendWith (.ref s.heap.objs.size) (.ref it) .none) _ _ _
  refine wpAny_bind (wpAny_updateSeq hS rfl ?_)
  have hS₂ := Heap.get?_update_self (Obj.mapSeq (fun _ => (#[] : Array Value))) hS rfl
  have oth : ∀ b o, b ≠ s.heap.objs.size → s.heap.get? b = some o → ((s.heap.push { cls := .type "list", data := .seq #[] }).update s.heap.objs.size (Obj.mapSeq (fun _ => (#[] : Array Value)))).get? b = some o :=
    fun b o hb e => (Heap.get?_update_other _ _ (Ne.symm hb)).trans (Heap.get?_push_of_some _ e)
  refine wpAny_bind (wpAny_letGo ?_)
  have hit2 := hit.at fun o e => oth it o (Ne.symm hSi) e
  have hl2 : ((s.heap.push { cls := .type "list", data := .seq #[] }).update s.heap.objs.size (Obj.mapSeq (fun _ => (#[] : Array Value)))).IsList l items := by
    obtain ⟨o, ho, r⟩ := id hl
    exact ⟨o, oth l o (Ne.symm hSl) ho, r⟩
  refine extend_rev (A := A.in1) hh (hit := hit2) (hl := hl2) hne hn s.heap.objs.size hSi hSl .none _ hS₂ (fun h' tk acc' c' hk hS' hacc => ?_)
  exact ⟨rfl, hQ h' tk acc' c' (fun b o hb e => hk b o (Nat.ne_of_lt (Heap.lt_size e)) hb (oth b o (Nat.ne_of_lt (Heap.lt_size e)) e)) hS' hacc⟩
end
def tListRev (K : PySem.W.Frag) (te : TE) : TE := fun σ H Q => te σ H fun v H1 => ∃ (a : Addr) (xs : List V), v = .ref a ∧ SqL K H1 a xs ∧ ∀ q, H1 q = none → Q (.ref q) (upd H1 q (.lst xs.reverse))
theorem pe_listRev {X : Cx} {e : Expr} {te : TE} {p p2 pos pos2 : Pos} (hc : X.calm = true) (hg : Gl X "list") (hm : X.mg "list" = none) (hg2 : Gl X "reversed") (hm2 : X.mg "reversed" = none) (he : PE X e te)
    (hs : starEach [e] X.env = (false, eval e X.env) :: starEach [] X.env := by rfl)
    (hs2 : starEach [.Call (.Name "reversed" p2) [e] [] pos2] X.env = (false, eval (.Call (.Name "reversed" p2) [e] [] pos2) X.env) :: starEach [] X.env := by rfl) :
    PE X (.Call (.Name "list" p) [.Call (.Name "reversed" p2) [e] [] pos2] [] pos) (tListRev X.K te) := by
  refine ⟨fun pins s σ H Q I h => ?_⟩
  refine Call_ (ld_blt I hg hm boot_list (PyProof.Rows.callWith_type1 (args_cons (Call_ (ld_blt I hg2 hm2 PyProof.Rows.boot_reversed (PyProof.Rows.callWith_type1 (args_cons (thn (he.run pins s σ H _ I h) fun u s1 ⟨v, H1, I1, r1, q1⟩ => args_nil ?_) hs) hs rfl))) hs2) hs2 rfl))
  obtain ⟨a, xs, ev, hq, q⟩ := q1
  subst ev
  obtain rfl : u = Value.ref a := r1
  obtain ⟨its, rv, p', hz⟩ := I1.list hq
  refine call_reversed_list p'.isList (args_nil ?_)
  have k0 : ∀ b o, s1.heap.get? b = some o → (s1.heap.push (revObj a ((its.toArray.size : Int) - 1))).get? b = some o := fun b o e => Heap.get?_push_of_some _ e
  have I2 : Inv X pins σ H1 { s1 with heap := s1.heap.push (revObj a ((its.toArray.size : Int) - 1)) } := I1.kept (t' := s1.toks) k0
  obtain ⟨f0, f1, f2, f3, f4, f5⟩ := I1.fpOk (H' := H1) (b := s1.heap.objs.size) (Nat.le_refl _) (I1.hok.fresh (Nat.le_refl _))
  have hl := p'.isList
  obtain ⟨ol, hol, _⟩ := id hl
  have hne : a ≠ s1.heap.objs.size := Nat.ne_of_lt (Heap.lt_size hol)
  have hn : its.toArray.size ≤ sizeLine := by rw [List.size_toArray, ← rv.length]; exact hz
  refine call_list_rev (s := { s1 with heap := s1.heap.push (revObj a ((its.toArray.size : Int) - 1)) }) (I1.ok.hd hc) ⟨_, Heap.get?_push_size _ rfl, rfl, rfl⟩ (hl.push _) hne hn fun h' tk acc c' hk hS hi => ?_
  rw [show ({ s1 with heap := s1.heap.push (revObj a ((its.toArray.size : Int) - 1)) } : Shared).heap.objs.size = s1.heap.objs.size + 1 from by rw [Heap.size_push]] at hS ⊢
  have hrv := RT.vals_rev rv hi
  have fp := I1.fpOk (H' := H1) (b := s1.heap.objs.size) (Nat.le_refl _) (I1.hok.fresh (Nat.le_refl _))
  exact ⟨.ref (s1.heap.objs.size + 1), upd H1 (s1.heap.objs.size + 1) (.lst xs.reverse), I2.turnedNew (t' := tk) (ch := [s1.heap.objs.size]) (fun b o hb e => hk b o (fun z => hb (by rw [z]; exact List.mem_cons_self)) e) (fun b hb => by
    rw [List.mem_singleton.mp hb]
    exact fp) (by rw [Heap.size_push]; exact Nat.le_refl _) ⟨by rw [List.length_reverse]; exact hz, acc.toList, c', hrv, by rw [hS]⟩, rfl, q _ (I1.hok.fresh (Nat.le_succ _))⟩

/-! ### step slices -/
def pick2 (xs : List V) (lo hi st : Option Int) : List V := (sliceRange (sliceBounds lo hi st xs.length).1 (sliceBounds lo hi st xs.length).2.1 (sliceBounds lo hi st xs.length).2.2).filterMap (xs[·]?)
theorem vals_pick {xs : List V} {its : List Value} (r : Vals xs its) : ∀ ks : List Nat, Vals (ks.filterMap (xs[·]?)) (ks.filterMap (its[·]?))
  | [] => .nil
  | k :: ks => by
    have ih := vals_pick r ks
    by_cases hk : k < xs.length
    · obtain ⟨u, hu, ru⟩ := r.get (List.getElem?_eq_getElem hk)
      rw [List.filterMap_cons, List.filterMap_cons, List.getElem?_eq_getElem hk, hu]
      exact .cons ru ih
    · have hl := r.length
      rw [List.filterMap_cons, List.filterMap_cons, List.getElem?_eq_none (by omega), List.getElem?_eq_none (by omega)]
      exact ih
def tStep (K : PySem.W.Frag) (k : Int) (te : TE) (tl : TO) : TE := fun σ H Q => te σ H fun x H1 => tl σ H1 fun lo H2 => ∃ a xs, x = .ref a ∧ SqL K H2 a xs ∧ ∀ p, H2 p = none → Q (.ref p) (upd H2 p (.lst (pick2 xs lo none (some k))))
theorem pe_step {X : Cx} {e : Expr} {te : TE} {tl : TO} {lower : Option Expr} {k : Int} {kt : Nat} {p1 p3 pos : Pos} (hk : k ≠ 0) (he : PE X e te) (hl : PO X lower tl) : PE X (.Subscript e (.Slice lower none (some (.Constant (.int k) kt p1)) p3) pos) (tStep X.K k te tl) := by
  refine ⟨fun pins s σ H Q I h => ?_⟩
  refine Subscript_ (thn (he.run pins s σ H _ I h) fun v s1 ⟨x, H1, I1, r1, q1⟩ => ?_)
  have hst : PO X (some (.Constant (.int k) kt p1)) (tPart (tC (.int k))) := po_some pe_int
  refine wpAny_Slice (thn (hl.run pins s1 σ H1 _ I1 q1) fun vl s2 ⟨l, H2, I2, pl, q2⟩ => ?_)
  obtain ⟨a, xs, ex, hx, q⟩ := q2
  subst ex
  cases r1
  refine thn (po_none.run pins s2 σ H2 (fun o H3 => o = none ∧ H3 = H2) I2 ⟨rfl, rfl⟩) fun vu s3 ⟨u, H3, I3, pu, eu, e3⟩ => ?_
  subst eu e3
  refine thn (hst.run pins s3 σ H3 (fun o H4 => o = some k ∧ H4 = H3) I3 ⟨k, rfl, rfl, rfl⟩) fun vs s4 ⟨o, H4, I4, ps, eo, e4⟩ => ?_
  subst eo e4
  have I5 : Inv X pins σ H4 { s4 with heap := s4.heap.push { cls := .type "slice", data := .fields #[vl, vu, vs] } } := I4.kept (t' := s4.toks) fun b ob q => Heap.get?_push_of_some _ q
  obtain ⟨its, r, ht, hz⟩ := I5.list hx
  have hlen := r.length
  show wpAny (model X.prog X.w) X.A (subscriptTail e (.Slice lower none (some (.Constant (.int k) kt p1)) p3) (.ref a) (.ref s4.heap.objs.size)) (EP X pins σ Q) X.xe { s4 with heap := s4.heap.push { cls := .type "slice", data := .fields #[vl, vu, vs] } }
  refine tail_any (ops := [.ref a, .ref s4.heap.objs.size]) ht.isList.typeIs (PySem.slot_list_getitem.lookup) ?_ (by with_unfolding_all rfl)
  refine wpAny_getItem_list_slice ht.isList (Heap.IsSliceOf.new _ vl vu vs) pl pu ps (by simpa using hk) ?_ (by rw [List.size_toArray]; omega)
  have hzz : (slicePick its.toArray l none (some k)).size ≤ its.toArray.size := slicePick_size_le _ _ _ _
  have he : slicePick its.toArray l none (some k) = ((sliceRange (sliceBounds l none (some k) xs.length).1 (sliceBounds l none (some k) xs.length).2.1 (sliceBounds l none (some k) xs.length).2.2).filterMap (its[·]?)).toArray := by
    unfold slicePick
    rw [List.size_toArray, ← hlen]
    simp only [List.getElem?_toArray]
  have hv := vals_pick r (sliceRange (sliceBounds l none (some k) xs.length).1 (sliceBounds l none (some k) xs.length).2.1 (sliceBounds l none (some k) xs.length).2.2)
  refine ⟨.ref _, _, I5.laid (t' := s4.toks) (o := .lst (pick2 xs l none (some k))) (fun b ob q => Heap.get?_push_of_some _ q) (Nat.le_refl _) ?_, rfl, q _ (I5.hok.fresh (Nat.le_refl _))⟩
  have hl2 : (pick2 xs l none (some k)).length ≤ sizeLine := by
    have h1 := hv.length
    rw [he, List.size_toArray, List.size_toArray] at hzz
    show (List.filterMap _ _).length ≤ _
    rw [h1]
    omega
  refine ⟨hl2, _, 0, hv, ?_⟩
  rw [← he]
  exact Heap.get?_push_size _ rfl
end Fo
/-! FoldP5 -/
namespace Fo
open PySem L2 Evl

/-- a list or a tuple of ints -/
def Sq2 (K : PySem.W.Frag) (H : Hp) (a : Addr) (ns : List Int) : Prop := SqL K H a (ns.map V.int) ∨ SqT K H a (ns.map V.int)
theorem Sq2.mono {K : PySem.W.Frag} {H H' : Hp} {a : Addr} {ns : List Int} (e : Ex H H') (h : Sq2 K H a ns) : Sq2 K H' a ns := h.elim (fun q => .inl (ex_l e q)) (fun q => .inr (ex_t e q))
def Tups (H : Hp) (ts : List Addr) (ps : List (Int × Int)) : Prop := ts.length = ps.length ∧ ∀ (i : Nat) t q, ts[i]? = some t → ps[i]? = some q → H t = some (.tup [.int q.1, .int q.2])
theorem Tups.mono {H H' : Hp} {ts : List Addr} {ps : List (Int × Int)} (e : Ex H H') (h : Tups H ts ps) : Tups H' ts ps := ⟨h.1, fun i t q h1 h2 => e t _ (h.2 i t q h1 h2)⟩
/-- a new list of new pairs -/
def RetT (ps : List (Int × Int)) (H : Hp) (Q : VK) : Prop := ∀ p ts H2, H p = none → Ex H H2 → H2 p = some (.lst (ts.map V.ref)) → Tups H2 ts ps → Q (.ref p) H2
def EvTs (te : TE) (σ : L2.St) (H : Hp) (ps : List (Int × Int)) : Prop := ∀ H1, Ex H H1 → ∀ Q : VK, RetT ps H1 Q → te σ H1 Q
def SpTs (sp : Sp) (vs : List V) (H : Hp) (ps : List (Int × Int)) : Prop := ∀ H1, Ex H H1 → ∀ Q : VK, RetT ps H1 Q → ∀ E : XK, sp vs H1 Q E
section
variable {K : PySem.W.Frag} {σ : L2.St} {H : Hp} {ta tb te tl : TE} {D : Ends} {tu tz : TS} {v x y : V}
theorem ets_call {sp : Sp} {vs : List V} {E : XK} {ta : TA} {ps : List (Int × Int)} (h : EvA ta σ H vs) (hs : SpTs sp vs H ps) : EvTs (tCall sp [] E ta) σ H ps := fun H1 e Q q =>
  h H1 e _ fun H2 e2 => by
    rw [List.append_nil]
    exact hs H2 (e.trans e2) Q (fun p ts H3 hp e3 h3 t3 => q p ts H3 (fresh_back e2 hp) (e2.trans e3) h3 t3) E
/-- for t in a new list of new pairs -/
theorem g_forT {j : Nat} {ps : List (Int × Int)} (h : EvTs tl σ H ps) (Pv : Hp → Nat → L2.St → Hp → Prop) (h0 : ∀ B, Ex H B → Pv B 0 σ B) (hE : ∀ B i σ' H', Pv B i σ' H' → Ex B H')
    (hs : ∀ B (i : Nat) q t σ' H', ps[i]? = some q → H' t = some (.tup [.int q.1, .int q.2]) → Ex H B → Pv B i σ' H' → Go tu { D with nx := Pv B (i + 1), ct := Pv B (i + 1), bk := tz D } (σ'.set j (some (.ref t))) H') (hd : ∀ B σ' H', Ex H B → Pv B ps.length σ' H' → Go tz D σ' H') : Go (tSeq (tFor (iList K tl) (gName j) tu) tz) D σ H := fun H0 e0 =>
  h H0 e0 _ fun p ts H1 hp e h1 tq => ⟨p, rfl, ⟨_, sq_of h1⟩, for_list (xs := ts.map V.ref) (Pv H1) (h0 H1 (e0.trans e)) (fun i σ' H' _ pv => sq_of (hE H1 i σ' H' pv p _ h1)) (fun i x σ' H' hi pv => by
    rw [List.getElem?_map] at hi
    cases ht : ts[i]? with
    | none => rw [ht] at hi; cases hi
    | some t =>
      rw [ht] at hi
      cases hi
      have hlt : i < ps.length := by
        have := (List.getElem?_eq_some_iff.mp ht).1
        have := tq.1
        omega
      exact (hs H1 i ps[i] t σ' H' (List.getElem?_eq_getElem hlt) (hE H1 i σ' H' pv t _ (tq.2 i t _ ht (List.getElem?_eq_getElem hlt))) (e0.trans e) pv).here) (fun σ' H' pv => (hd H1 σ' H' (e0.trans e) (by
        have e9 : (ts.map V.ref).length = ps.length := by rw [List.length_map]; exact tq.1
        rw [e9] at pv
        exact pv)).here)⟩
/-- a, b = a tuple that stands -/
theorem g_unpack {j k : Nat} {t : Addr} (h : Ev te σ H (.ref t)) (ht : SqT K H t [x, y]) (kk : Go tz D ((σ.set j (some x)).set k (some y)) H) : Go (tSeq (tAsg te (gTup K 2 (gCons (gName j) (gCons (gName k) gNil)))) tz) D σ H := fun H1 e =>
  h H1 e _ fun H2 e2 => ⟨t, [x, y], rfl, ex_t (e.trans e2) ht, rfl, x, [y], rfl, y, [], rfl, rfl, kk H2 (e.trans e2)⟩
theorem g_appU {l : Addr} {xs ys : List V} (hl : H l = some (.lst xs)) (ha : Ev ta σ H (.ref l)) (h : EvU te σ H ys) (hz : xs.length < 100000) (k : ∀ p H1, H p = none → Ex H H1 → H1 p = some (.tup ys) → tz D σ (upd H1 l (.lst (xs ++ [.ref p])))) :
    Go (tSeq (tDrop (tBM K "list" rAppend ta (tCons te tNil))) tz) D σ H := fun H1 e1 => q_appU (e1 l _ hl) (ha.mono e1) (fun H2 e2 => h H2 (e1.trans e2)) hz fun p H2 hp e2 h2 => k p H2 (fresh_back e1 hp) (e1.trans e2) h2
/-- for x in a list or a tuple of ints -/
theorem g_forQ {j : Nat} {a : Addr} {ns : List Int} (h : Ev tl σ H (.ref a)) (hx : Sq2 K H a ns) (Pv : Nat → L2.St → Hp → Prop) (h0 : ∀ H1, Ex H H1 → Pv 0 σ H1) (hE : ∀ i σ' H', Pv i σ' H' → Ex H H')
    (hs : ∀ (i : Nat) x σ' H', ns[i]? = some x → Pv i σ' H' → Go tu { D with nx := Pv (i + 1), ct := Pv (i + 1), bk := tz D } (σ'.set j (some (.int x))) H') (hd : ∀ σ' H', Pv ns.length σ' H' → Go tz D σ' H') : Go (tSeq (tFor (iSeq K tl) (gName j) tu) tz) D σ H := fun H0 e0 =>
  h H0 e0 _ fun H1 e => by
    have step : ∀ (i : Nat) (x : V) σ' H', (ns.map V.int)[i]? = some x → Pv i σ' H' → gName j x σ' H' fun σ2 H2 => tu { D with nx := Pv (i + 1), ct := Pv (i + 1), bk := tz D } σ2 H2 := fun i x σ' H' hi p => by
      rw [List.getElem?_map] at hi
      cases hn : ns[i]? with
      | none => rw [hn] at hi; cases hi
      | some z =>
        rw [hn] at hi
        cases hi
        exact (hs i z σ' H' hn p).here
    have fin : ∀ σ' H', Pv (ns.map V.int).length σ' H' → tz D σ' H' := fun σ' H' p => (hd σ' H' (by rw [List.length_map] at p; exact p)).here
    refine ⟨a, rfl, ?_⟩
    rcases hx with hx | hx
    · exact .inl ⟨⟨_, ex_l (e0.trans e) hx⟩, for_list Pv (h0 H1 (e0.trans e)) (fun i σ' H' _ pv => ex_l (hE i σ' H' pv) hx) step fin⟩
    · exact .inr ⟨⟨_, ex_t (e0.trans e) hx⟩, for_tup Pv (h0 H1 (e0.trans e)) (fun i σ' H' _ pv => ex_t (hE i σ' H' pv) hx) step fin⟩
theorem ev_inI {p : Addr} {ns : List Int} {i : Int} (ha : Ev ta σ H (.int i)) (hb : Ev tb σ H (.ref p)) (hs : Sq2 K H p ns) : Ev (tOp (rIn K false) ta tb) σ H (.bl (decide (i ∈ ns))) := ev_op ha hb fun H1 e Q q => by
  refine ⟨p, _, rfl, Sq2.mono e hs, rfl, List.all_eq_true.mpr fun y hy => by
    obtain ⟨z, _, rfl⟩ := List.mem_map.mp hy
    rfl, ?_⟩
  have e : inV (.int i) (ns.map V.int) = decide (i ∈ ns) := by
    unfold inV
    rw [Bool.eq_iff_iff, List.any_eq_true, decide_eq_true_eq]
    constructor
    · rintro ⟨y, hy, h⟩
      obtain ⟨z, hz, rfl⟩ := List.mem_map.mp hy
      have : z = i := by simpa [eqV] using h
      rw [← this]
      exact hz
    · exact fun h => ⟨.int i, List.mem_map.mpr ⟨i, h, rfl⟩, by simp [eqV]⟩
  show Q (.bl (if false = true then _ else inV (.int i) (ns.map V.int))) H1
  rw [if_neg Bool.false_ne_true, e]
  exact q H1 (Ex.refl H1)
theorem ev_notInI {p : Addr} {ns : List Int} {i : Int} (ha : Ev ta σ H (.int i)) (hb : Ev tb σ H (.ref p)) (hs : Sq2 K H p ns) : Ev (tOp (rIn K true) ta tb) σ H (.bl (!decide (i ∈ ns))) := ev_op ha hb fun H1 e Q q => by
  refine ⟨p, _, rfl, Sq2.mono e hs, rfl, List.all_eq_true.mpr fun y hy => by
    obtain ⟨z, _, rfl⟩ := List.mem_map.mp hy
    rfl, ?_⟩
  have e : inV (.int i) (ns.map V.int) = decide (i ∈ ns) := by
    unfold inV
    rw [Bool.eq_iff_iff, List.any_eq_true, decide_eq_true_eq]
    constructor
    · rintro ⟨y, hy, h⟩
      obtain ⟨z, hz, rfl⟩ := List.mem_map.mp hy
      have : z = i := by simpa [eqV] using h
      rw [← this]
      exact hz
    · exact fun h => ⟨.int i, List.mem_map.mpr ⟨i, h, rfl⟩, by simp [eqV]⟩
  show Q (.bl (if true = true then !inV (.int i) (ns.map V.int) else _)) H1
  rw [if_pos rfl, e]
  exact q H1 (Ex.refl H1)
theorem ev_lenQ {p : Addr} {ns : List Int} (ha : Ev ta σ H (.ref p)) (h : Sq2 K H p ns) : Ev (tCB (rLenS K) (tCons ta tNil)) σ H (.int (ns.length : Int)) := fun H1 e Q q =>
  ha H1 e _ fun H2 e2 => ⟨p, ns.map V.int, rfl, Sq2.mono (e.trans e2) h, by
    rw [List.length_map]
    exact q H2 e2⟩
/-- how many the ints of ns are, each once -/
def dist (ns : List Int) : Nat := (PyProof.Rows.firstMet (fun i => ns.getD i 0) ns.length).length
theorem dist_set {ks ns : List Int} (nd : ks.Nodup) (h : ∀ k, k ∈ ks ↔ k ∈ ns) : ks.length = dist ns :=
  Nat.le_antisymm (nd_le nd fun k hk => (fm_mem ns k).mpr ((h k).mp hk)) (nd_le (fm_nodup _ _) fun k hk => (h k).mpr ((fm_mem ns k).mp hk))
theorem dist_le (ns : List Int) : dist ns ≤ ns.length := (set_len (fm_nodup _ _) (fm_mem ns)).1
theorem dist_iff (ns : List Int) : dist ns = ns.length ↔ ns.Nodup := (set_len (fm_nodup _ _) (fm_mem ns)).2
theorem ev_lenSet {p : Addr} {ns : List Int} (ha : Ev te σ H (.ref p)) (h : Sq2 K H p ns) (hz : ns.length ≤ 4000) : Ev (tLenSet K te) σ H (.int (dist ns : Int)) := fun H1 e Q q =>
  ha H1 e _ fun H2 e2 => ⟨p, ns, rfl, Sq2.mono (e.trans e2) h, hz, fun ks nd hk => by
    rw [dist_set nd hk]
    exact q H2 e2⟩
theorem el_sortedQ {p : Addr} {ns : List Int} (ha : Ev ta σ H (.ref p)) (hs : Sq2 K H p ns) : EvL (tCB (rSortedQ K) (tCons ta tNil)) σ H ((srt ns).map V.int) := fun H1 e Q q =>
  ha H1 e _ fun H2 e2 => ⟨p, ns, rfl, Sq2.mono (e.trans e2) hs, fun ms' l hP hO hl => by
    rw [srt_eq hP hO]
    exact q l _ (fresh_back e2 hl) (e2.trans (Ex.new hl)) upd_same⟩
theorem el_srt {p : Addr} {ns : List Int} (ha : Ev ta σ H (.ref p)) (hs : SqL K H p (ns.map V.int)) : EvL (tCB (rSortedI K) (tCons ta tNil)) σ H ((srt ns).map V.int) := el_sortedL ha hs fun ms hp ho => srt_eq hp ho
theorem el_rev {p : Addr} {xs : List V} (ha : Ev te σ H (.ref p)) (hs : SqL K H p xs) : EvL (tListRev K te) σ H xs.reverse := fun H1 e Q q =>
  ha H1 e _ fun H2 e2 => ⟨p, xs, rfl, ex_l (e.trans e2) hs, fun l hl => q l _ (fresh_back e2 hl) (e2.trans (Ex.new hl)) upd_same⟩
theorem el_step {p : Addr} {xs : List V} {tl : TO} {k : Int} {lo : Option Int} (ha : Ev te σ H (.ref p)) (ho : EvO tl σ H lo) (hs : SqL K H p xs) : EvL (tStep K k te tl) σ H (pick2 xs lo none (some k)) := fun H1 e Q q =>
  ha H1 e _ fun H2 e2 => ho H2 (e.trans e2) _ fun H3 e3 => ⟨p, xs, rfl, ex_l ((e.trans e2).trans e3) hs, fun l hl => q l _ (fresh_back (e2.trans e3) hl) ((e2.trans e3).trans (Ex.new hl)) upd_same⟩
theorem eu_of {p : Addr} {xs : List V} (ha : Ev ta σ H (.ref p)) (hs : SqL K H p xs) : EvU (tCB (rTupS K) (tCons ta tNil)) σ H xs := fun H1 e Q q =>
  ha H1 e _ fun H2 e2 => ⟨p, xs, rfl, .inl ⟨ex_l (e.trans e2) hs, fun l hl => q l _ (fresh_back e2 hl) (e2.trans (Ex.new hl)) upd_same⟩⟩
/-- a call: a value, then a new list or a new tuple -/
theorem ev_callVL {sp : Sp} {E : XK} {xs : List V} {z : V} (h1 : Ev ta σ H x) (h : EvL te σ H xs) (hs : ∀ q H1, H1 q = some (.lst xs) → Ex H H1 → SpV sp [x, .ref q] H1 z) : Ev (tCall sp [] E (tCons ta (tCons te tNil))) σ H z := fun H1 e Q k =>
  h1 H1 e _ fun H2 e2 => h H2 (e.trans e2) _ fun q H3 hq e3 h3 => by
    show sp ([x, .ref q] ++ []) H3 Q E
    exact hs q H3 h3 ((e.trans e2).trans e3) H3 (Ex.refl H3) Q (fun H4 e4 => k H4 ((e2.trans e3).trans e4)) E
theorem ev_callVU {sp : Sp} {E : XK} {xs : List V} {z : V} (h1 : Ev ta σ H x) (h : EvU te σ H xs) (hs : ∀ q H1, H1 q = some (.tup xs) → Ex H H1 → SpV sp [x, .ref q] H1 z) : Ev (tCall sp [] E (tCons ta (tCons te tNil))) σ H z := fun H1 e Q k =>
  h1 H1 e _ fun H2 e2 => h H2 (e.trans e2) _ fun q H3 hq e3 h3 => by
    show sp ([x, .ref q] ++ []) H3 Q E
    exact hs q H3 h3 ((e.trans e2).trans e3) H3 (Ex.refl H3) Q (fun H4 e4 => k H4 ((e2.trans e3).trans e4)) E
/-- a call: two values, a new list, a value -/
theorem ev_callVVLV {sp : Sp} {E : XK} {ta tb te td : TE} {x y w : V} {xs : List V} {z : V} (h1 : Ev ta σ H x) (h2 : Ev tb σ H y) (h : EvL te σ H xs) (h3 : Ev td σ H w) (hs : ∀ q H1, H1 q = some (.lst xs) → Ex H H1 → SpV sp [x, y, .ref q, w] H1 z) : Ev (tCall sp [] E (tCons ta (tCons tb (tCons te (tCons td tNil))))) σ H z := fun H1 e Q k =>
  h1 H1 e _ fun H2 e2 => h2 H2 (e.trans e2) _ fun H3 e3 => h H3 ((e.trans e2).trans e3) _ fun q H4 hq e4 h4 => h3 H4 (((e.trans e2).trans e3).trans e4) _ fun H5 e5 => by
    show sp ([x, y, .ref q, w] ++ []) H5 Q E
    exact hs q H5 (e5 q _ h4) ((((e.trans e2).trans e3).trans e4).trans e5) H5 (Ex.refl H5) Q (fun H6 e6 => k H6 ((((e2.trans e3).trans e4).trans e5).trans e6)) E
/-! ### [x for x in .. if ..] -/
def rangeI (m : Nat) : List Int := (List.range m).map fun (k : Nat) => (k : Int)
theorem rangeI_nd (m : Nat) : (rangeI m).Nodup := by
  unfold rangeI
  refine List.Pairwise.map _ (fun a b h => ?_) List.nodup_range
  omega
theorem rangeI_mem {m : Nat} {x : Int} : x ∈ rangeI m ↔ 0 ≤ x ∧ x < (m : Int) := by
  unfold rangeI
  rw [List.mem_map]
  constructor
  · rintro ⟨k, hk, rfl⟩
    have := List.mem_range.mp hk
    omega
  · exact fun ⟨h0, h1⟩ => ⟨x.toNat, List.mem_range.mpr (by omega), by omega⟩
theorem given_filt (ns : List Int) (q : Int → Bool) : given ns.length (fun k => q (gi ns (k : Int))) (fun k => V.int (gi ns (k : Int))) = (ns.filter q).map V.int := by
  have e : ns = (List.range ns.length).map fun (k : Nat) => gi ns (k : Int) := gi_ext (by simp) fun k hk => by rw [gi_mapR _ hk]
  unfold given
  conv => rhs; rw [e, List.filter_map, List.map_map]
  rfl
theorem el_filt {tl : TE} {t : TT} {a : Addr} {ns : List Int} {j : Nat} (q : Int → Bool) (h : Ev tl σ H (.ref a)) (hx : SqL K H a (ns.map V.int)) (hz : ns.length ≤ 40000) (hw : ∀ x, wipe ((wipe σ [j]).set j (some x)) [j] = wipe σ [j]) (hv : ∀ x, ((wipe σ [j]).set j (some x))[j]? = some (some x))
    (ht : ∀ (x : Int) H1, Ex H H1 → x ∈ ns → EvT t ((wipe σ [j]).set j (some (.int x))) H1 (q x)) : EvL (tLc (iList K tl) (gName j) t (tVar j) [j]) σ H ((ns.filter q).map V.int) := by
  rw [← given_filt]
  have key : ∀ (i : Nat) (x : V), (ns.map V.int)[i]? = some x → x = .int (gi ns (i : Int)) ∧ gi ns (i : Int) ∈ ns := fun i x hi => by
    rw [List.getElem?_map] at hi
    cases hn : ns[i]? with
    | none => rw [hn] at hi; cases hi
    | some z =>
      rw [hn] at hi
      cases hi
      rw [gi_of hn]
      exact ⟨rfl, List.mem_of_getElem? hn⟩
  have g := el_lcL (te := tVar j) (t := t) (j := j) (vs := [j]) (fun k => q (gi ns (k : Int))) (fun k => V.int (gi ns (k : Int))) h hx (by rw [List.length_map]; exact hz) hw
    (fun i x H1 e hi => by
      obtain ⟨r, hm⟩ := key i x hi
      rw [r]
      exact ht _ H1 e hm)
    (fun i x H1 e hi _ => by
      obtain ⟨r, hm⟩ := key i x hi
      rw [r]
      exact ev_var (hv _))
  rw [List.length_map] at g
  exact g
theorem el_filtR {ta : TA} {t : TT} {n : Int} {j : Nat} (q : Int → Bool) (h : EvA ta σ H [.int n]) (hn : 0 ≤ n ∧ n ≤ 40000) (hw : ∀ x, wipe ((wipe σ [j]).set j (some x)) [j] = wipe σ [j]) (hv : ∀ x, ((wipe σ [j]).set j (some x))[j]? = some (some x))
    (ht : ∀ (x : Int) H1, Ex H H1 → 0 ≤ x → x < n → EvT t ((wipe σ [j]).set j (some (.int x))) H1 (q x)) : EvL (tLc (iRng1 ta) (gName j) t (tVar j) [j]) σ H (((rangeI n.toNat).filter q).map V.int) := by
  have e : ((rangeI n.toNat).filter q).map V.int = given n.toNat (fun k => q (k : Int)) (fun k => V.int (k : Int)) := by
    unfold given rangeI
    rw [List.filter_map, List.map_map]
    rfl
  rw [e]
  exact el_lcR1 (fun k => q (k : Int)) (fun k => V.int (k : Int)) h hn hw (fun i H1 e hi => ht _ H1 e (by omega) hi) (fun i H1 e hi _ => ev_var (hv _))
end
theorem pick_two {ms : List Int} (hl : ms.length ≤ 100) : ∃ ks : List Int, pick2 (ms.map V.int) (some 1) none (some 2) ++ pick2 (ms.map V.int) none none (some 2) = ks.map V.int ∧ ks.Perm ms := by
  have hm : ∀ A : List Nat, A.filterMap ((ms.map V.int)[·]?) = (A.filterMap (ms[·]?)).map V.int := fun A => by
    rw [List.map_filterMap]
    refine congrFun (congrArg _ (funext fun k => ?_)) _
    rw [List.getElem?_map]
  by_cases h0 : ms = []
  · subst h0
    exact ⟨[], rfl, .refl _⟩
  have hp : 1 ≤ ms.length := List.length_pos_iff.mpr h0
  refine ⟨(sliceRange 1 (ms.length : Int) 2 ++ sliceRange 0 (ms.length : Int) 2).filterMap (ms[·]?), ?_, ?_⟩
  · rw [← hm, List.filterMap_append]
    have e1 : sliceBounds (some 1) none (some 2) (ms.map V.int).length = (1, (ms.length : Int), 2) := by
      rw [List.length_map]
      simp only [sliceBounds, Option.getD_some]
      have : max 0 (min (1 : Int) (ms.length : Int)) = 1 := by omega
      simp [this]
    have e2 : sliceBounds none none (some 2) (ms.map V.int).length = (0, (ms.length : Int), 2) := by
      rw [List.length_map]
      simp [sliceBounds]
    unfold pick2
    rw [e1, e2]
  · have h := (two_halves ms.length hl).filterMap (ms[·]?)
    refine h.trans (List.Perm.of_eq ?_)
    refine List.ext_getElem? fun k => ?_
    have e : (List.range ms.length).filterMap (ms[·]?) = ms := by
      have q : ∀ l : List Int, (List.range l.length).filterMap (l[·]?) = l := fun l => by
        induction l with
        | nil => rfl
        | cons x l ih =>
          rw [List.length_cons, List.range_succ_eq_map, List.filterMap_cons, List.filterMap_map]
          show x :: List.filterMap (fun k => (x :: l)[k + 1]?) (List.range l.length) = x :: l
          simp only [List.getElem?_cons_succ]
          rw [ih]
      exact q ms
    rw [e]
/-! ### promises -/
def sp_judged (K : PySem.W.Frag) (c : Cs) : Sp := fun vs H Q E => ∃ (a : Addr) (ns : List Int), vs = [.ref a] ∧ SqL K H a (ns.map V.int) ∧ ns.length ≤ 1000 ∧ NoX (pl ns) ∧ OkOr c.np (IsPile ns) (RetL ((pl ns).map V.int) H Q) H E
def sp_parts_of (K : PySem.W.Frag) (c : Cs) : Sp := fun vs H Q _ => ∃ (n : Int) (a : Addr) (cs : List Int), vs = [.int n, .ref a] ∧ Sq2 K H a cs ∧ cs.length ≤ 1000 ∧ RetT (partsOf (endsOf n cs)) H Q
def sp_held (K : PySem.W.Frag) (c : Cs) : Sp := fun vs H Q _ => ∃ (a t : Addr) (p : List Int) (f l cr s : Int), vs = [.ref a, .ref t, .int cr, .int s] ∧ SqL K H a (p.map V.int) ∧ SqT K H t [.int f, .int l] ∧ p.length ≤ 1000 ∧ (0 ≤ f ∧ f < (p.length : Int)) ∧ (0 ≤ l ∧ l < (p.length : Int)) ∧ (0 ≤ s ∧ s < (p.length : Int)) ∧ RetV (.bl (heldB p f l cr s)) H Q
def sp_lies_free (K : PySem.W.Frag) (c : Cs) : Sp := fun vs H Q _ => ∃ (a t : Addr) (p : List Int) (f l : Int), vs = [.ref a, .ref t] ∧ SqL K H a (p.map V.int) ∧ SqT K H t [.int f, .int l] ∧ p.length ≤ 1000 ∧ (0 ≤ f ∧ f < (p.length : Int)) ∧ (0 ≤ l ∧ l < (p.length : Int)) ∧ RetV (.bl (lieB p f l)) H Q
def sp_are_free (K : PySem.W.Frag) (c : Cs) : Sp := fun vs H Q _ => ∃ (a b : Addr) (p cs : List Int), vs = [.ref a, .ref b] ∧ SqL K H a (p.map V.int) ∧ Sq2 K H b cs ∧ 1 ≤ p.length ∧ p.length ≤ 1000 ∧ cs.length ≤ 1000 ∧ (∀ x ∈ cs, 0 ≤ x ∧ x ≤ (p.length : Int) - 2) ∧ RetV (.bl (freeAt p cs)) H Q
def sp_look_at_creases (K : PySem.W.Frag) (c : Cs) : Sp := fun vs H Q E => ∃ (n : Int) (b : Addr) (cs : List Int), vs = [.int n, .ref b] ∧ Sq2 K H b cs ∧ cs.length ≤ 1000 ∧ OkOr c.nc (Creases n cs) (RetV .non H Q) H E
def sp_free (K : PySem.W.Frag) (c : Cs) : Sp := fun vs H Q E => ∃ (a b : Addr) (ns cs : List Int), vs = [.ref a, .ref b] ∧ SqL K H a (ns.map V.int) ∧ Sq2 K H b cs ∧ ns.length ≤ 1000 ∧ cs.length ≤ 1000 ∧ IsPile ns ∧ NoX (pl ns) ∧ OkOr c.nc (Creases (ns.length : Int) cs) (RetV (.bl (freeAt (pl ns) cs)) H Q) H E
def sp_l_held (K : PySem.W.Frag) (c : Cs) : Sp := fun vs H Q _ => ∃ (a : Addr) (p : List Int) (f l cr s : Int), vs = [.ref a, .int f, .int l, .int cr, .int s] ∧ SqL K H a (p.map V.int) ∧ p.length ≤ 1000 ∧ (0 ≤ f ∧ f < (p.length : Int)) ∧ (0 ≤ l ∧ l < (p.length : Int)) ∧ (0 ≤ s ∧ s < (p.length : Int)) ∧ RetV (.bl (heldB p f l cr s)) H Q
def sp_l_free (K : PySem.W.Frag) (c : Cs) : Sp := fun vs H Q _ => ∃ (a b : Addr) (p cs : List Int), vs = [.ref a, .ref b] ∧ SqL K H a (p.map V.int) ∧ SqL K H b (cs.map V.int) ∧ 1 ≤ p.length ∧ p.length ≤ 1000 ∧ cs.length ≤ 1000 ∧ (∀ x ∈ cs, 0 ≤ x ∧ x ≤ (p.length : Int) - 2) ∧ RetV (.bl (freeAt p cs)) H Q
def LooseV (n : Int) (xs : List V) : Prop := ∃ cs : List Int, xs = cs.map V.int ∧ Creases n cs ∧ cs.length ≤ 100
def sp_l_grown (K : PySem.W.Frag) (c : Cs) : Sp := fun vs H Q _ => ∃ (a b : Addr) (p ns : List Int) (s : Int), vs = [.ref a, .ref b, .int s] ∧ SqL K H a (p.map V.int) ∧ SqL K H b (ns.map V.int) ∧ 2 ≤ p.length ∧ p.length ≤ 100 ∧ 0 ≤ s ∧ s ≤ 1000 ∧ RetP (LooseV (p.length : Int)) H Q
def sp_l_asked (K : PySem.W.Frag) (c : Cs) : Sp := fun vs H Q _ => ∃ (a b d : Addr) (ns cs : List Int) (way : Int), vs = [.ref a, .ref b, .ref d, .int way] ∧ SqL K H a (ns.map V.int) ∧ SqL K H b ((pl ns).map V.int) ∧ SqL K H d (cs.map V.int) ∧ IsPile ns ∧ NoX (pl ns) ∧ ns.length ≤ 100 ∧ cs.length ≤ 100 ∧ Creases (ns.length : Int) cs ∧ 0 ≤ way ∧ way < 6 ∧ RetV (.bl true) H Q
section
variable {K : PySem.W.Frag} {c : Cs} {H : Hp} {a b d t : Addr} {ns cs p : List Int} {f l cr s n way : Int}
theorem v_judged (hS : SqL K H a (ns.map V.int)) (hl : ns.length ≤ 1000) (hx : NoX (pl ns)) (hp : IsPile ns) : SpL (sp_judged K c) [.ref a] H ((pl ns).map V.int) := fun H1 e Q q E => ⟨a, ns, rfl, ex_l e hS, hl, hx, .yes hp q⟩
theorem v_parts_of (hS : Sq2 K H a cs) (hl : cs.length ≤ 1000) : SpTs (sp_parts_of K c) [.int n, .ref a] H (partsOf (endsOf n cs)) := fun H1 e Q q E => ⟨n, a, cs, rfl, hS.mono e, hl, q⟩
theorem v_held (hS : SqL K H a (p.map V.int)) (ht : SqT K H t [.int f, .int l]) (hl : p.length ≤ 1000) (h1 : 0 ≤ f ∧ f < (p.length : Int)) (h2 : 0 ≤ l ∧ l < (p.length : Int)) (h3 : 0 ≤ s ∧ s < (p.length : Int)) : SpV (sp_held K c) [.ref a, .ref t, .int cr, .int s] H (.bl (heldB p f l cr s)) := fun H1 e Q q E => ⟨a, t, p, f, l, cr, s, rfl, ex_l e hS, ex_t e ht, hl, h1, h2, h3, q⟩
theorem v_lies (hS : SqL K H a (p.map V.int)) (ht : SqT K H t [.int f, .int l]) (hl : p.length ≤ 1000) (h1 : 0 ≤ f ∧ f < (p.length : Int)) (h2 : 0 ≤ l ∧ l < (p.length : Int)) : SpV (sp_lies_free K c) [.ref a, .ref t] H (.bl (lieB p f l)) := fun H1 e Q q E => ⟨a, t, p, f, l, rfl, ex_l e hS, ex_t e ht, hl, h1, h2, q⟩
theorem v_are_free (hS : SqL K H a (p.map V.int)) (hb : Sq2 K H b cs) (h1 : 1 ≤ p.length) (hl : p.length ≤ 1000) (hc : cs.length ≤ 1000) (hk : ∀ x ∈ cs, 0 ≤ x ∧ x ≤ (p.length : Int) - 2) : SpV (sp_are_free K c) [.ref a, .ref b] H (.bl (freeAt p cs)) := fun H1 e Q q E => ⟨a, b, p, cs, rfl, ex_l e hS, hb.mono e, h1, hl, hc, hk, q⟩
theorem v_look_cr (hb : Sq2 K H b cs) (hc : cs.length ≤ 1000) (h : Creases n cs) : SpV (sp_look_at_creases K c) [.int n, .ref b] H .non := fun H1 e Q q E => ⟨n, b, cs, rfl, hb.mono e, hc, .yes h q⟩
theorem x_look_cr {E : XK} (hb : Sq2 K H b cs) (hc : cs.length ≤ 1000) (h : ¬ Creases n cs) (hx : ∀ H', Ex H H' → E (.ref c.nc) none H') : ∀ H1, Ex H H1 → ∀ Q : VK, sp_look_at_creases K c [.int n, .ref b] H1 Q E := fun H1 e Q => ⟨n, b, cs, rfl, hb.mono e, hc, .no h fun H' e' => hx H' (e.trans e')⟩
theorem v_free (hS : SqL K H a (ns.map V.int)) (hb : Sq2 K H b cs) (hl : ns.length ≤ 1000) (hc : cs.length ≤ 1000) (hp : IsPile ns) (hx : NoX (pl ns)) (hk : Creases (ns.length : Int) cs) : SpV (sp_free K c) [.ref a, .ref b] H (.bl (freeAt (pl ns) cs)) := fun H1 e Q q E => ⟨a, b, ns, cs, rfl, ex_l e hS, hb.mono e, hl, hc, hp, hx, .yes hk q⟩
theorem v_l_held (hS : SqL K H a (p.map V.int)) (hl : p.length ≤ 1000) (h1 : 0 ≤ f ∧ f < (p.length : Int)) (h2 : 0 ≤ l ∧ l < (p.length : Int)) (h3 : 0 ≤ s ∧ s < (p.length : Int)) : SpV (sp_l_held K c) [.ref a, .int f, .int l, .int cr, .int s] H (.bl (heldB p f l cr s)) := fun H1 e Q q E => ⟨a, p, f, l, cr, s, rfl, ex_l e hS, hl, h1, h2, h3, q⟩
theorem v_l_free (hS : SqL K H a (p.map V.int)) (hb : SqL K H b (cs.map V.int)) (h1 : 1 ≤ p.length) (hl : p.length ≤ 1000) (hc : cs.length ≤ 1000) (hk : ∀ x ∈ cs, 0 ≤ x ∧ x ≤ (p.length : Int) - 2) : SpV (sp_l_free K c) [.ref a, .ref b] H (.bl (freeAt p cs)) := fun H1 e Q q E => ⟨a, b, p, cs, rfl, ex_l e hS, ex_l e hb, h1, hl, hc, hk, q⟩
theorem v_grown (hS : SqL K H a (p.map V.int)) (hb : SqL K H b (ns.map V.int)) (h1 : 2 ≤ p.length) (hl : p.length ≤ 100) (s0 : 0 ≤ s) (s1 : s ≤ 1000) : SpLP (sp_l_grown K c) [.ref a, .ref b, .int s] H (LooseV (p.length : Int)) := fun H1 e Q q E => ⟨a, b, p, ns, s, rfl, ex_l e hS, ex_l e hb, h1, hl, s0, s1, q⟩
theorem v_asked (h1 : SqL K H a (ns.map V.int)) (h2 : SqL K H b ((pl ns).map V.int)) (h3 : SqL K H d (cs.map V.int)) (hp : IsPile ns) (hx : NoX (pl ns)) (hl : ns.length ≤ 100) (hc : cs.length ≤ 100) (hk : Creases (ns.length : Int) cs) (w0 : 0 ≤ way) (w1 : way < 6) : SpV (sp_l_asked K c) [.ref a, .ref b, .ref d, .int way] H (.bl true) := fun H1 e Q q E => ⟨a, b, d, ns, cs, way, rfl, ex_l e h1, ex_l e h2, ex_l e h3, hp, hx, hl, hc, hk, w0, w1, q⟩
end
end Fo
/-! FoldM5 -/
namespace Fo
open PySem L2 Evl

/-! ### all good piles of a length -/
def nextTo (ps : List Int) (m : Nat) : List (List Int) := ((rangeI m).filter fun g => noX (pl (put ps g (ps.length : Int)))).map fun g => put ps g (ps.length : Int)
def nextAll (ps : List Int) : List (List Int) := nextTo ps (ps.length + 1)
def goodP : Nat → List (List Int)
  | 0 => [[0]]
  | k + 1 => (goodP k).flatMap nextAll
def fc : Nat → Nat
  | 0 => 1
  | k + 1 => (k + 2) * fc k
theorem rangeI_succ (m : Nat) : rangeI (m + 1) = rangeI m ++ [(m : Int)] := by
  unfold rangeI
  rw [List.range_succ, List.map_append]
  rfl
theorem nextTo_succ (ps : List Int) (m : Nat) : nextTo ps (m + 1) = nextTo ps m ++ (if noX (pl (put ps (m : Int) (ps.length : Int))) = true then [put ps (m : Int) (ps.length : Int)] else []) := by
  unfold nextTo
  rw [rangeI_succ, List.filter_append, List.map_append]
  congr 1
  split <;> simp_all
theorem nextTo_len (ps : List Int) (m : Nat) : (nextTo ps m).length ≤ m := by
  unfold nextTo
  rw [List.length_map]
  have h := List.length_filter_le (fun g => noX (pl (put ps g (ps.length : Int)))) (rangeI m)
  have e : (rangeI m).length = m := by simp [rangeI]
  omega
theorem put_erase {ps : List Int} {g x : Int} (h : x ∉ ps) : (put ps g x).erase x = ps := by
  unfold put
  rw [List.append_assoc, List.erase_append_right _ (fun m => h (List.mem_of_mem_take m))]
  show _ ++ (x :: _).erase x = ps
  rw [List.erase_cons_head]
  exact List.take_append_drop _ _
theorem put_idx {ps : List Int} {g x : Int} (h : x ∉ ps) (g1 : g ≤ (ps.length : Int)) : (put ps g x).idxOf x = g.toNat := by
  unfold put
  rw [List.append_assoc, List.idxOf_append, if_neg (fun m => h (List.mem_of_mem_take m))]
  show List.idxOf x (x :: _) + _ = _
  rw [List.idxOf_cons_self, List.length_take]
  omega
theorem put_back {qs : List Int} {x : Int} (h : x ∈ qs) : put (qs.erase x) ((qs.idxOf x : Nat) : Int) x = qs := by
  have hi := List.idxOf_lt_length_iff.mpr h
  have hx : qs[qs.idxOf x] = x := List.getElem_idxOf hi
  unfold put
  rw [List.erase_eq_eraseIdx_of_idxOf rfl]
  rw [List.eraseIdx_eq_take_drop_succ, Int.toNat_natCast]
  have ht : (qs.take (qs.idxOf x)).length = qs.idxOf x := by rw [List.length_take]; omega
  rw [List.take_append_of_le_length (by omega), List.drop_append_of_le_length (by omega), List.take_of_length_le (by omega), List.drop_of_length_le (by omega), List.nil_append, List.append_assoc]
  show qs.take (qs.idxOf x) ++ (x :: qs.drop (qs.idxOf x + 1)) = qs
  conv => lhs; arg 2; arg 1; rw [← hx]
  rw [List.getElem_cons_drop hi, List.take_append_drop]
theorem per_not {i : Nat} {ps : List Int} (h : Per i ps) : (i : Int) ∉ ps := fun m => by
  have := (h.bnd _ m).2
  omega
theorem nextAll_of {i : Nat} {ps qs : List Int} (h : Per i ps) (hi : 0 < i) (m : qs ∈ nextAll ps) : Per (i + 1) qs ∧ NoX (pl qs) := by
  unfold nextAll nextTo at m
  rw [h.len] at m
  obtain ⟨g, hg, rfl⟩ := List.mem_map.mp m
  obtain ⟨hg1, hg2⟩ := List.mem_filter.mp hg
  exact ⟨h.put g, (noX_iff _).mp hg2⟩
theorem goodP_of : ∀ {k : Nat} {ps : List Int}, ps ∈ goodP k → Per (k + 1) ps ∧ NoX (pl ps)
  | 0, ps, m => by
    rw [List.mem_singleton.mp m]
    exact ⟨⟨rfl, by decide, by decide⟩, fun i j x => by
      have h1 := x.i0
      have h2 := x.ij
      have h3 := x.jn
      rw [pl_len] at h3
      simp at h3
      omega⟩
  | k + 1, ps, m => by
    obtain ⟨qs, hq, hm⟩ := List.mem_flatMap.mp m
    exact nextAll_of (goodP_of hq).1 (Nat.succ_pos k) hm
theorem goodP_all : ∀ {k : Nat} {ps : List Int}, IsPile ps → ps.length = k + 1 → NoX (pl ps) → ps ∈ goodP k
  | 0, ps, p, hl, _ => by
    match ps, hl with
    | [x], _ =>
      have := p.bnd x List.mem_cons_self
      have : x = 0 := by
        simp at this
        omega
      subst this
      exact List.mem_cons_self
  | k + 1, qs, p, hl, nx => by
    have hm : ((k + 1 : Nat) : Int) ∈ qs := p.all (by omega) (by omega)
    have per : Per (k + 1) (qs.erase ((k + 1 : Nat) : Int)) := by
      refine ⟨by rw [List.length_erase_of_mem hm]; omega, fun x hx => ?_, p.nd.erase _⟩
      obtain ⟨hx1, hx2⟩ := (List.Nodup.mem_erase_iff p.nd).mp hx
      have := p.bnd x hx2
      omega
    have hb := put_back hm
    have hil := List.idxOf_lt_length_iff.mpr hm
    have hnx := next_put per (Nat.succ_pos k) (g := ((qs.idxOf ((k + 1 : Nat) : Int) : Nat) : Int)) (by omega) (by omega)
    rw [hb] at hnx
    have h2 := (noX_next hnx).mp nx
    refine List.mem_flatMap.mpr ⟨_, goodP_all (per.pile (Nat.succ_pos k)) per.len h2.1, ?_⟩
    unfold nextAll nextTo
    refine List.mem_map.mpr ⟨((qs.idxOf ((k + 1 : Nat) : Int) : Nat) : Int), List.mem_filter.mpr ⟨rangeI_mem.mpr (by rw [per.len]; omega), ?_⟩, ?_⟩
    · rw [per.len, hb]
      exact (noX_iff _).mpr nx
    · rw [per.len]
      exact hb
theorem goodP_nd : ∀ k : Nat, (goodP k).Nodup
  | 0 => by simp [goodP]
  | k + 1 => by
    show ((goodP k).flatMap nextAll).Nodup
    refine List.pairwise_flatMap.mpr ⟨fun ps hp => ?_, ?_⟩
    · have per := (goodP_of hp).1
      unfold nextAll nextTo
      refine List.Pairwise.map _ (fun a b (h : a ≠ b ∧ (a ∈ rangeI (ps.length + 1) ∧ b ∈ rangeI (ps.length + 1))) e => ?_) (R := fun a b => a ≠ b ∧ (a ∈ rangeI (ps.length + 1) ∧ b ∈ rangeI (ps.length + 1))) ?_
      · obtain ⟨h1, h2, h3⟩ := h
        have a0 := rangeI_mem.mp h2
        have b0 := rangeI_mem.mp h3
        have hn := per_not per
        rw [← per.len] at hn
        have e1 := put_idx (g := a) hn (by omega)
        have e2 := put_idx (g := b) hn (by omega)
        rw [e] at e1
        omega
      · have nd : ((rangeI (ps.length + 1)).filter fun g => noX (pl (put ps g (ps.length : Int)))).Nodup := (rangeI_nd _).filter _
        exact List.Pairwise.imp_of_mem (fun {a b} ha hb h => ⟨h, (List.mem_filter.mp ha).1, (List.mem_filter.mp hb).1⟩) nd
    · refine List.Pairwise.imp_of_mem (fun {a b} ha hb h x hxa y hxb exy => h ?_) (goodP_nd k)
      have pa := (goodP_of ha).1
      have pb := (goodP_of hb).1
      subst exy
      unfold nextAll nextTo at hxa hxb
      obtain ⟨g, _, rfl⟩ := List.mem_map.mp hxa
      obtain ⟨g', _, e⟩ := List.mem_map.mp hxb
      have na := per_not pa
      have nb := per_not pb
      have e1 := put_erase (g := g) na
      have e2 := put_erase (g := g') nb
      rw [pa.len] at e
      rw [pb.len] at e
      rw [← e1, ← e2, e]
theorem goodP_len : ∀ k : Nat, (goodP k).length ≤ fc k
  | 0 => Nat.le_refl _
  | k + 1 => by
    have ih := goodP_len k
    have go : ∀ l : List (List Int), (∀ ps ∈ l, ps.length = k + 1) → (l.flatMap nextAll).length ≤ (k + 2) * l.length := by
      intro l
      induction l with
      | nil => exact fun _ => Nat.le_refl _
      | cons x l il =>
        intro h
        have h1 := nextTo_len x (x.length + 1)
        have h2 := il fun ps hp => h ps (List.mem_cons_of_mem _ hp)
        have h3 := h x List.mem_cons_self
        rw [List.flatMap_cons, List.length_append, List.length_cons, Nat.mul_succ]
        unfold nextAll at *
        omega
    have h1 := go (goodP k) fun ps hp => (goodP_of hp).1.len
    have h2 : (k + 2) * (goodP k).length ≤ (k + 2) * fc k := Nat.mul_le_mul_left _ ih
    exact Nat.le_trans h1 h2
theorem fc_le : ∀ {k : Nat}, k ≤ 6 → fc k ≤ 5040
  | 0, _ => by decide
  | 1, _ => by decide
  | 2, _ => by decide
  | 3, _ => by decide
  | 4, _ => by decide
  | 5, _ => by decide
  | 6, _ => by decide
/-- to each row of letters a good pile -/
theorem row_pile : ∀ (n : Nat) (l : List Nat), l.length = n → Letters l → ∃ ps : List Int, Per (n + 1) ps ∧ NoX (pl ps) ∧ lets (pl ps) = l
  | 0, l, hl, _ => by
    have e : l = [] := List.length_eq_zero_iff.mp hl
    subst e
    have h := goodP_of (k := 0) (ps := [0]) List.mem_cons_self
    exact ⟨[0], h.1, h.2, rfl⟩
  | n + 1, l, hl, hL => by
    have hne : l ≠ [] := fun e => by rw [e] at hl; cases hl
    obtain ⟨ps, per, nx, hlt⟩ := row_pile n l.dropLast (by rw [List.length_dropLast]; omega) fun c hc => hL c (List.dropLast_subset _ hc)
    have pp := per.pile (Nat.succ_pos n)
    have hpl := pl_len ps
    have hlen := per.len
    obtain ⟨a0, a1, _⟩ := pp.at (s := (n : Int)) (by omega) (by omega)
    have hlast := List.dropLast_concat_getLast hne
    have e5 : (ps.length : Int) - 1 = (n : Int) := by omega
    have hin : l.getLast hne = 86 ∨ l.getLast hne = 77 := hL _ (List.getLast_mem hne)
    have key : ∀ g : Int, (g = gi (pl ps) (n : Int) ∨ g = gi (pl ps) (n : Int) + 1) → (if (decide (gi (pl ps) (n : Int) < g) == decide ((n : Int) % 2 = 0)) = true then 86 else 77) = l.getLast hne → ∃ ps : List Int, Per (n + 1 + 1) ps ∧ NoX (pl ps) ∧ lets (pl ps) = l := fun g hg he => by
      have hnx := next_put per (Nat.succ_pos n) (g := g) (by omega) (by omega)
      refine ⟨put ps g ((n + 1 : Nat) : Int), per.put g, (noX_next hnx).mpr ⟨nx, fits_beside pp (by rw [e5]; exact hg)⟩, ?_⟩
      rw [lets_next hnx (by omega), hlt]
      have e6 : ((pl ps).length : Int) - 1 = (n : Int) := by omega
      rw [e6, he]
      exact hlast
    by_cases hpar : (n : Int) % 2 = 0
    · rcases hin with h | h
      · refine key (gi (pl ps) (n : Int) + 1) (.inr rfl) ?_
        rw [h, decide_eq_true hpar, decide_eq_true (by omega)]
        rfl
      · refine key (gi (pl ps) (n : Int)) (.inl rfl) ?_
        rw [h, decide_eq_true hpar, decide_eq_false (by omega)]
        rfl
    · rcases hin with h | h
      · refine key (gi (pl ps) (n : Int)) (.inl rfl) ?_
        rw [h, decide_eq_false hpar, decide_eq_false (by omega)]
        rfl
      · refine key (gi (pl ps) (n : Int) + 1) (.inr rfl) ?_
        rw [h, decide_eq_false hpar, decide_eq_true (by omega)]
        rfl
end Fo
/-! FoldP6 -/
namespace Fo
open PySem PySem.Spec PyProof.Rows L2 Evl

/-! ### lists of lists of ints -/
def Rows (H : Hp) (ts : List Addr) (pss : List (List Int)) : Prop := ts.length = pss.length ∧ ∀ (i : Nat) t ps, ts[i]? = some t → pss[i]? = some ps → H t = some (.lst (ps.map V.int))
theorem Rows.mono {H H' : Hp} {ts : List Addr} {pss : List (List Int)} (e : Ex H H') (h : Rows H ts pss) : Rows H' ts pss := ⟨h.1, fun i t q h1 h2 => e t _ (h.2 i t q h1 h2)⟩
theorem Rows.mut {H : Hp} {ts : List Addr} {pss : List (List Int)} {p : Addr} {o : HO} (h : Rows H ts pss) (hp : p ∉ ts) : Rows (upd H p o) ts pss := ⟨h.1, fun i t q h1 h2 => (upd_ne (fun z => hp (by rw [← z]; exact List.mem_of_getElem? h1))).trans (h.2 i t q h1 h2)⟩
theorem Rows.nil {H : Hp} : Rows H [] [] := ⟨rfl, fun i t q h1 _ => by cases h1⟩
theorem Rows.app {H : Hp} {ts us : List Addr} {pss qss : List (List Int)} (h : Rows H ts pss) (g : Rows H us qss) : Rows H (ts ++ us) (pss ++ qss) := by
  refine ⟨by rw [List.length_append, List.length_append, h.1, g.1], fun i t q h1 h2 => ?_⟩
  have hl := h.1
  by_cases hi : i < ts.length
  · rw [List.getElem?_append_left hi] at h1
    rw [List.getElem?_append_left (by omega)] at h2
    exact h.2 i t q h1 h2
  · rw [List.getElem?_append_right (by omega)] at h1
    rw [List.getElem?_append_right (by omega), ← hl] at h2
    exact g.2 _ t q h1 h2
theorem Rows.one {H : Hp} {t : Addr} {ps : List Int} (h : H t = some (.lst (ps.map V.int))) : Rows H [t] [ps] := ⟨rfl, fun i t' q h1 h2 => by
  have hi : i = 0 := by
    have := (List.getElem?_eq_some_iff.mp h1).1
    simpa using this
  subst hi
  cases h1
  cases h2
  exact h⟩
theorem Rows.get {H : Hp} {ts : List Addr} {pss : List (List Int)} (h : Rows H ts pss) {i : Nat} {ps : List Int} (hi : pss[i]? = some ps) : ∃ t, ts[i]? = some t ∧ H t = some (.lst (ps.map V.int)) := by
  have hl := h.1
  have hlt := (List.getElem?_eq_some_iff.mp hi).1
  have e : ts[i]? = some (ts[i]'(by omega)) := List.getElem?_eq_getElem (by omega)
  exact ⟨_, e, h.2 i _ ps e hi⟩
theorem Rows.getT {H : Hp} {ts : List Addr} {pss : List (List Int)} (h : Rows H ts pss) {i : Nat} {x : V} (hi : (ts.map V.ref)[i]? = some x) : ∃ t ps, x = .ref t ∧ ts[i]? = some t ∧ pss[i]? = some ps ∧ H t = some (.lst (ps.map V.int)) := by
  have hl := h.1
  rw [List.getElem?_map] at hi
  cases ht : ts[i]? with
  | none => rw [ht] at hi; cases hi
  | some t =>
    rw [ht] at hi
    cases hi
    have hlt := (List.getElem?_eq_some_iff.mp ht).1
    have e : pss[i]? = some (pss[i]'(by omega)) := List.getElem?_eq_getElem (by omega)
    exact ⟨t, _, rfl, rfl, e, h.2 i t _ ht e⟩
/-- a new list of new lists -/
def RetW (pss : List (List Int)) (H : Hp) (Q : VK) : Prop := ∀ p ts H2, H p = none → (∀ t ∈ ts, H t = none) → Ex H H2 → H2 p = some (.lst (ts.map V.ref)) → Rows H2 ts pss → Q (.ref p) H2
def EvW (te : TE) (σ : L2.St) (H : Hp) (pss : List (List Int)) : Prop := ∀ H1, Ex H H1 → ∀ Q : VK, RetW pss H1 Q → te σ H1 Q
def SpW (sp : Sp) (vs : List V) (H : Hp) (pss : List (List Int)) : Prop := ∀ H1, Ex H H1 → ∀ Q : VK, RetW pss H1 Q → ∀ E : XK, sp vs H1 Q E
section
variable {K : PySem.W.Frag} {σ : L2.St} {H : Hp} {ta tb te tl : TE} {D : Ends} {tu tz : TS} {v x y : V} {pss : List (List Int)}
theorem ew_call {sp : Sp} {vs : List V} {E : XK} {ta : TA} (h : EvA ta σ H vs) (hs : SpW sp vs H pss) : EvW (tCall sp [] E ta) σ H pss := fun H1 e Q q =>
  h H1 e _ fun H2 e2 => by
    rw [List.append_nil]
    exact hs H2 (e.trans e2) Q (fun p ts H3 hp ht e3 h3 t3 => q p ts H3 (fresh_back e2 hp) (fun t m => fresh_back e2 (ht t m)) (e2.trans e3) h3 t3) E
theorem g_asgW {i : Nat} (h : EvW te σ H pss) (k : ∀ p ts H1, H p = none → (∀ t ∈ ts, H t = none) → Ex H H1 → H1 p = some (.lst (ts.map V.ref)) → Rows H1 ts pss → Go tz D (σ.set i (some (.ref p))) H1) : Go (tSeq (tAsg te (gName i)) tz) D σ H := fun H1 e => h H1 e _ fun p ts H2 hp ht e2 h2 t2 => (k p ts H2 (fresh_back e hp) (fun t m => fresh_back e (ht t m)) (e.trans e2) h2 t2).here
theorem g_retW (h : EvW te σ H pss) (k : RetW pss H D.rt) : Go (tSeq (tRet te) tz) D σ H := fun H1 e => h H1 e _ fun p ts H2 hp ht e2 h2 t2 => k p ts H2 (fresh_back e hp) (fun t m => fresh_back e (ht t m)) (e.trans e2) h2 t2
/-- [a list] -/
theorem ew_one {ns : List Int} (h : EvL te σ H (ns.map V.int)) : EvW (tLst (tCons te tNil)) σ H [ns] := fun H1 e Q q =>
  h H1 e _ fun t H2 ht e2 h2 => ⟨sz_of (Nat.le_of_ble_eq_true rfl), fun p hp => q p [t] _ (fresh_back e2 hp) (fun u m => by rw [List.mem_singleton.mp m]; exact ht) (e2.trans (Ex.new hp)) upd_same (Rows.one (Ex.new hp t _ h2))⟩
/-- l.extend(a new list of new lists) -/
theorem g_extW {l : Addr} {xs : List V} (hl : H l = some (.lst xs)) (ha : Ev ta σ H (.ref l)) (h : EvW te σ H pss) (hz : xs.length + pss.length ≤ 100000) (k : ∀ ts H1, (∀ t ∈ ts, H t = none) → Ex H H1 → Rows H1 ts pss → tz D σ (upd H1 l (.lst (xs ++ ts.map V.ref)))) :
    Go (tSeq (tDrop (tBM K "list" rExtend ta (tCons te tNil))) tz) D σ H := fun H1 e1 => ha H1 e1 _ fun H2 e2 =>
  ⟨Or.inl ⟨rfl, xs, sq_of ((e1.trans e2) l _ hl)⟩, h H2 (e1.trans e2) _ fun p ts H3 hp ht e3 h3 t3 =>
    ⟨l, p, xs, ts.map V.ref, rfl, rfl, ((e1.trans e2).trans e3) l _ hl, h3, by rw [List.length_map, t3.1]; exact sz_of hz, k ts H3 (fun t m => fresh_back (e1.trans e2) (ht t m)) ((e1.trans e2).trans e3) t3⟩⟩
/-- [t for t in lists if ..] -/
theorem ew_lc {t : TT} {j : Nat} (q : List Int → Bool) (h : EvW tl σ H pss) (hz : pss.length ≤ 40000) (hw : ∀ x, wipe ((wipe σ [j]).set j (some x)) [j] = wipe σ [j]) (hv : ∀ x, ((wipe σ [j]).set j (some x))[j]? = some (some x))
    (ht : ∀ (u : Addr) ps H1, Ex H H1 → ps ∈ pss → H1 u = some (.lst (ps.map V.int)) → EvT t ((wipe σ [j]).set j (some (.ref u))) H1 (q ps)) : EvW (tLc (iList K tl) (gName j) t (tVar j) [j]) σ H (pss.filter q) := fun H0 e Q qq =>
  h H0 e _ fun a ts H1 ha hts e1 hx rw1 => by
    have hl := rw1.1
    have key : ∀ (i : Nat) (x : V), (ts.map V.ref)[i]? = some x → ∃ ps, pss[i]? = some ps ∧ x = .ref (ts.getD i 0) ∧ H1 (ts.getD i 0) = some (.lst (ps.map V.int)) ∧ pss.getD i [] = ps ∧ i < ts.length := fun i x hi => by
      obtain ⟨t, ps, rfl, h1, h2, h3⟩ := rw1.getT hi
      have e9 : ts.getD i 0 = t := by rw [List.getD_eq_getElem?_getD, h1]; rfl
      exact ⟨ps, h2, by rw [e9], by rw [e9]; exact h3, by rw [List.getD_eq_getElem?_getD, h2]; rfl, (List.getElem?_eq_some_iff.mp h1).1⟩
    refine ⟨a, rfl, ⟨_, sq_of hx⟩, fun Dl hD => lc_list (xs := ts.map V.ref) (Cw H1 (fun i => q (pss.getD i [])) (fun i => V.ref (ts.getD i 0)) Dl) ⟨hD, Ex.new hD, upd_same⟩ (fun i H' _ p => sq_of (p.2.1 a _ hx)) (fun i x H' hi p => ?_) (fun H' p => ?_)⟩
    · obtain ⟨ps, h1, h2, h3, h4, h5⟩ := key i x hi
      refine ⟨hw x, cw_turn p (by omega) ?_ (fun _ => ?_)⟩
      · rw [h2, h4]
        exact fun H2 e2 => ht _ ps H1 (e.trans e1) (List.mem_of_getElem? h1) h3 H2 e2
      · rw [h2]
        exact ev_var (hv _)
    · obtain ⟨p1, p2, p3⟩ := p
      rw [List.length_map] at p3
      have e8 : given ts.length (fun i => q (pss.getD i [])) (fun i => V.ref (ts.getD i 0)) = (((List.range ts.length).filter fun i => q (pss.getD i [])).map fun i => ts.getD i 0).map V.ref := by
        unfold given
        rw [List.map_map]
        rfl
      have e7 : pss.filter q = ((List.range ts.length).filter fun i => q (pss.getD i [])).map fun i => pss.getD i [] := by
        have e6 : pss = (List.range ts.length).map fun i => pss.getD i [] := by
          refine List.ext_getElem (by simp [hl]) fun i h1 h2 => ?_
          simp [List.getD_eq_getElem?_getD, List.getElem?_eq_getElem h1]
        conv => lhs; rw [e6, List.filter_map]
        rfl
      rw [e8] at p3
      refine qq Dl _ H' (fresh_back e1 p1) (fun t m => ?_) (e1.trans p2) p3 ?_
      · obtain ⟨i, hi, rfl⟩ := List.mem_map.mp m
        have hi2 := List.mem_range.mp (List.mem_filter.mp hi).1
        rw [List.getD_eq_getElem?_getD, List.getElem?_eq_getElem hi2]
        exact hts _ (List.getElem_mem hi2)
      · rw [e7]
        refine ⟨by rw [List.length_map, List.length_map], fun i t ps h1 h2 => ?_⟩
        rw [List.getElem?_map] at h1 h2
        cases hk : ((List.range ts.length).filter fun i => q (pss.getD i []))[i]? with
        | none => rw [hk] at h1; cases h1
        | some k =>
          rw [hk] at h1 h2
          cases h1
          cases h2
          have hk2 := List.mem_range.mp (List.mem_filter.mp (List.mem_of_getElem? hk)).1
          refine p2 _ _ ?_
          refine rw1.2 k _ _ ?_ ?_
          · show ts[k]? = some (ts.getD k 0)
            rw [List.getD_eq_getElem?_getD, List.getElem?_eq_getElem hk2]
            rfl
          · show pss[k]? = some (pss.getD k [])
            rw [List.getD_eq_getElem?_getD, List.getElem?_eq_getElem (by omega)]
            rfl
/-! ### in, == of lists of lists -/
theorem dp_rows {ts : List Addr} (h : Rows H ts pss) : DpAll K H (ts.map V.ref) (pss.map fun ns => PyData.list (ns.map PyData.int)) := by
  have go : ∀ (ts : List Addr) (pss : List (List Int)), Rows H ts pss → DpAll K H (ts.map V.ref) (pss.map fun ns => PyData.list (ns.map PyData.int)) := by
    intro ts
    induction ts with
    | nil =>
      intro pss h
      have e : pss = [] := List.length_eq_zero_iff.mp h.1.symm
      subst e
      exact .nil
    | cons t ts ih =>
      intro pss h
      match pss, h with
      | [], h => exact absurd h.1 (by simp)
      | ps :: pss, h =>
        refine .cons (.lst (sq_of (h.2 0 t ps rfl rfl)) (dp_ints ps)) (ih pss ⟨by have := h.1; simpa using this, fun i t q h1 h2 => h.2 (i + 1) t q (by simpa using h1) (by simpa using h2)⟩)
  exact go ts pss h
theorem sh_rows : ∀ pss : List (List Int), PyData.canLayAll0 (pss.map fun ns => PyData.list (ns.map PyData.int)) = true ∧ PyData.depthAll (pss.map fun ns => PyData.list (ns.map PyData.int)) ≤ 1
  | [] => by simp [PyData.canLayAll0, PyData.depthAll]
  | ns :: r => by
    have ih := sh_rows r
    have h1 : ∀ ns : List Int, PyData.canLayAll0 (ns.map PyData.int) = true := PySem.W.ke_canLayAll0
    have h2 : ∀ ns : List Int, PyData.depthAll (ns.map PyData.int) = 0 := PySem.W.ke_depthAll
    constructor
    · simp [PyData.canLayAll0, PyData.canLay0, h1, ih.1]
    · have h3 := ih.2
      simp only [List.map_cons, PyData.depthAll, PyData.depth, h2]
      omega
theorem shaped_rows (pss : List (List Int)) : SeqAt.shaped (.list (pss.map fun ns => PyData.list (ns.map PyData.int))) = true := by
  obtain ⟨h1, h2⟩ := sh_rows pss
  simp [SeqAt.shaped, PyData.canLay0, PyData.depth, h1]
  omega
theorem any_rows (pss : List (List Int)) (ns : List Int) : ((pss.map fun ns => PyData.list (ns.map PyData.int)).any fun z => PyData.eqv z (.list (ns.map PyData.int))) = decide (ns ∈ pss) := by
  rw [Bool.eq_iff_iff, List.any_eq_true, decide_eq_true_eq]
  constructor
  · rintro ⟨z, hz, h⟩
    obtain ⟨ms, hm, rfl⟩ := List.mem_map.mp hz
    have e : decide (ms = ns) = true := by
      rw [← eqv_ints]
      exact h
    rw [← of_decide_eq_true e]
    exact hm
  · intro h
    refine ⟨_, List.mem_map.mpr ⟨ns, h, rfl⟩, ?_⟩
    show PyData.eqvAll _ _ = true
    rw [eqv_ints]
    exact decide_eq_true rfl
theorem ev_inW {a p : Addr} {ts : List Addr} {ns : List Int} (ha : Ev ta σ H (.ref a)) (hb : Ev tb σ H (.ref p)) (h1 : SqL K H a (ns.map V.int)) (h2 : SqL K H p (ts.map V.ref)) (h3 : Rows H ts pss) : Ev (tOp (rInD K) ta tb) σ H (.bl (decide (ns ∈ pss))) := ev_op ha hb fun H1 e _ q =>
  ⟨.list (ns.map PyData.int), _, .lst (ex_l e h1) (dp_ints ns), .lst (ex_l e h2) (dp_rows (h3.mono e)), PySem.W.ke_shaped_ints ns, shaped_rows pss, by
    rw [any_rows]
    exact q H1 (Ex.refl H1)⟩
theorem ev_notInW {a p : Addr} {ts : List Addr} {ns : List Int} (ha : Ev ta σ H (.ref a)) (hb : Ev tb σ H (.ref p)) (h1 : SqL K H a (ns.map V.int)) (h2 : SqL K H p (ts.map V.ref)) (h3 : Rows H ts pss) : Ev (tOp (rNotInD K) ta tb) σ H (.bl (!decide (ns ∈ pss))) := ev_op ha hb fun H1 e _ q =>
  ⟨.list (ns.map PyData.int), _, .lst (ex_l e h1) (dp_ints ns), .lst (ex_l e h2) (dp_rows (h3.mono e)), PySem.W.ke_shaped_ints ns, shaped_rows pss, by
    rw [any_rows]
    exact q H1 (Ex.refl H1)⟩
theorem ev_eqNilW {p : Addr} {ts : List Addr} (ha : Ev ta σ H (.ref p)) (h2 : SqL K H p (ts.map V.ref)) (h3 : Rows H ts pss) : Ev (tOp (rEqD K) ta (tLst tNil)) σ H (.bl (decide (pss = []))) :=
  ev_opL (xs := ([] : List Int).map V.int) ha (el_lst ea_nil (Nat.zero_le _)) fun q H1 hq e => fun H2 e2 _ k =>
    ⟨_, .list (([] : List Int).map PyData.int), .lst (ex_l (e.trans e2) h2) (dp_rows (h3.mono (e.trans e2))), .lst (ex_l e2 (sq_of hq)) (dp_ints []), shaped_rows pss, PySem.W.ke_shaped_ints [], by
      have e9 : PyData.eqv (.list (pss.map fun ns => PyData.list (ns.map PyData.int))) (.list (([] : List Int).map PyData.int)) = decide (pss = []) := by
        cases pss with
        | nil => rfl
        | cons a b => rfl
      rw [e9]
      exact k H2 (Ex.refl H2)⟩
theorem ev_neNilW {p : Addr} {ts : List Addr} (ha : EvW te σ H pss) : Ev (tOp (rNeD K) te (tLst tNil)) σ H (.bl (!decide (pss = []))) := fun H1 e Q q =>
  ha H1 e _ fun p ts H2 hp ht e2 h2 r2 => el_lst (σ := σ) (H := H2) ea_nil (Nat.zero_le _) H2 (Ex.refl _) _ fun b H3 hb e3 h3 =>
    ⟨_, .list (([] : List Int).map PyData.int), .lst (sq_of (e3 p _ h2)) (dp_rows (r2.mono e3)), .lst (sq_of h3) (dp_ints []), shaped_rows pss, PySem.W.ke_shaped_ints [], by
      have e9 : PyData.eqv (.list (pss.map fun ns => PyData.list (ns.map PyData.int))) (.list (([] : List Int).map PyData.int)) = decide (pss = []) := by
        cases pss with
        | nil => rfl
        | cons a b => rfl
      rw [e9]
      exact q H3 (e2.trans e3)⟩
/-- found: is it None -/
theorem et_cross {a : Addr} {ta : TA} {E : XK} {c : Cs} {ns : List Int} (h : EvA ta σ H [.ref a]) (hS : SqL K H a (ns.map V.int)) (hl : ns.length ≤ 1000) (hp : IsPile ns) : EvT (tTest (tOp rIsN (tCall (sp_crossing K c) [] E ta) (tC .non))) σ H (noX (pl ns)) := fun H1 e Q q =>
  h H1 e _ fun H2 e2 => by
    rw [List.append_nil]
    by_cases nx : NoX (pl ns)
    · refine ⟨a, ns, rfl, ex_l (e.trans e2) hS, hl, .yes hp ⟨fun _ H3 e3 => ?_, fun i j x => absurd x (nx i j)⟩⟩
      rw [(noX_iff _).mpr nx] at q
      exact ⟨rfl, true, rfl, q H3 (e2.trans e3)⟩
    · refine ⟨a, ns, rfl, ex_l (e.trans e2) hS, hl, .yes hp ⟨fun n => absurd n nx, fun i j x r H3 hr e3 h3 => ?_⟩⟩
      have e9 : noX (pl ns) = false := by
        cases hh : noX (pl ns) with
        | false => rfl
        | true => exact absurd ((noX_iff _).mp hh) nx
      rw [e9] at q
      exact ⟨rfl, false, rfl, q H3 (e2.trans e3)⟩
end

/-! ### promises -/
theorem units1 {k : Nat} {A : Around} (r : Room k A) : A.units + 1 < cLine := by have := r.un; omega
theorem units65 {k : Nat} {A : Around} (r : Room k A) : A.units + 65 < cLine := by have := r.un; omega
def sp_with_next (K : PySem.W.Frag) (c : Cs) : Sp := fun vs H Q _ => ∃ (a : Addr) (ns : List Int), vs = [.ref a] ∧ SqL K H a (ns.map V.int) ∧ IsPile ns ∧ ns.length ≤ 100 ∧ RetW (nextAll ns) H Q
def sp_piles (K : PySem.W.Frag) (c : Cs) : Sp := fun vs H Q E => ∃ m : Int, vs = [.int m] ∧ OkOr c.nn (1 ≤ m ∧ m ≤ 7) (RetW (goodP (m - 1).toNat) H Q) H E
def withRow (l : List Nat) : List (List Int) := (goodP l.length).filter fun ps => decide (txt (lets (pl ps)) = txt l)
def sp_piles_with (K : PySem.W.Frag) (c : Cs) : Sp := fun vs H Q E => ∃ l : List Nat, vs = [.str (txt l)] ∧ l.length ≤ 1000 ∧ OkOr c.nl (Letters l) (OkOr c.nn (l.length + 1 ≤ 7) (RetW (withRow l) H Q) H E) H E
def sp_l_letters (K : PySem.W.Frag) (c : Cs) : Sp := fun vs H Q _ => ∃ (a : Addr) (p : List Int), vs = [.ref a] ∧ SqL K H a (p.map V.int) ∧ 1 ≤ p.length ∧ p.length ≤ 1000 ∧ RetV (.str (txt (lets p))) H Q
def sp_l_all_good (K : PySem.W.Frag) (c : Cs) : Sp := fun vs H Q _ => ∃ (a : Addr) (ts : List Addr) (pss : List (List Int)) (n : Int), vs = [.ref a, .int n] ∧ H a = some (.lst (ts.map V.ref)) ∧ Rows H ts pss ∧ pss.Nodup ∧ pss.length ≤ 10000 ∧ n ≤ 1000 ∧ (∀ ps ∈ pss, IsPile ps ∧ (ps.length : Int) = n ∧ NoX (pl ps)) ∧ RetV (.bl true) H Q
section
variable {K : PySem.W.Frag} {c : Cs} {H : Hp} {a : Addr} {ns p : List Int} {n m : Int} {l : List Nat} {ts : List Addr} {pss : List (List Int)}
theorem v_with_next (hS : SqL K H a (ns.map V.int)) (hp : IsPile ns) (hl : ns.length ≤ 100) : SpW (sp_with_next K c) [.ref a] H (nextAll ns) := fun H1 e Q q E => ⟨a, ns, rfl, ex_l e hS, hp, hl, q⟩
theorem v_piles (h : 1 ≤ m ∧ m ≤ 7) : SpW (sp_piles K c) [.int m] H (goodP (m - 1).toNat) := fun H1 e Q q E => ⟨m, rfl, .yes h q⟩
theorem v_piles_with (hl : l.length ≤ 1000) (h : Letters l) (h7 : l.length + 1 ≤ 7) : SpW (sp_piles_with K c) [.str (txt l)] H (withRow l) := fun H1 e Q q E => ⟨l, rfl, hl, .yes h (.yes h7 q)⟩
theorem v_l_letters (hS : SqL K H a (p.map V.int)) (h1 : 1 ≤ p.length) (hl : p.length ≤ 1000) : SpV (sp_l_letters K c) [.ref a] H (.str (txt (lets p))) := fun H1 e Q q E => ⟨a, p, rfl, ex_l e hS, h1, hl, q⟩
theorem v_all_good (hS : H a = some (.lst (ts.map V.ref))) (h1 : Rows H ts pss) (h2 : pss.Nodup) (h3 : pss.length ≤ 10000) (h4 : n ≤ 1000) (h5 : ∀ ps ∈ pss, IsPile ps ∧ (ps.length : Int) = n ∧ NoX (pl ps)) : SpV (sp_l_all_good K c) [.ref a, .int n] H (.bl true) := fun H1 e Q q E => ⟨a, ts, pss, n, rfl, e a _ hS, h1.mono e, h2, h3, h4, h5, q⟩
end
end Fo
/-! FoldT -/
namespace Fo
open PySem L2 Evl

def t_places (K : PySem.W.Frag) (c : Cs) (E : XK) : TS :=
 (tSeq (tAsg (tCB (rLenS K) (tCons (tVar 0) tNil)) (gName 1))
 (tSeq (tIfS (tTest (tOp rEq (tVar 1) (tC (.int 0)))) (tSeq (tRaise E (.ref c.np))
 tNext) tNext)
 (tSeq (tAsg (tOp rRep (tLst (tCons (tUn (rU fun i => .int (-i)) (tC (.int 1))) tNil)) (tVar 1)) (gName 2))
 (tSeq (tFor (iEnum K (tCons (tVar 0) tNil)) (gTup K 2 (gCons (gName 3) (gCons (gName 4) gNil))) (tSeq (tIfS (tOr (tTest (tOp (rI0 fun i j => .bl (decide (i < j))) (tVar 4) (tC (.int 0)))) (tOr (tTest (tOp (rI0 fun i j => .bl (decide (j ≤ i))) (tVar 4) (tVar 1))) (tTest (tOp (rI0 fun i j => .bl (decide (j ≤ i))) (tOp (rIxL K) (tVar 2) (tVar 4)) (tC (.int 0)))))) (tSeq (tRaise E (.ref c.np))
 tNext) tNext)
 (tSeq (tAsg (tVar 3) (gSub (tVar 2) (tVar 4) rSetL))
 tNext)))
 (tSeq (tRet (tVar 2))
 tNext)))))

def t_letters (K : PySem.W.Frag) (c : Cs) (E : XK) : TS :=
 (tSeq (tAsg (tCall (sp_places K c) [] E (tCons (tVar 0) tNil)) (gName 1))
 (tSeq (tAsg (tLst tNil) (gName 2))
 (tSeq (tFor (iRng1 (tCons (tOp (rI0 fun i j => .int (i - j)) (tCB (rLenS K) (tCons (tVar 1) tNil)) (tC (.int 1))) tNil)) (gName 3) (tSeq (tAsg (tOp (rI0 fun i j => .bl (decide (j < i))) (tOp (rIxL K) (tVar 1) (tOp (rI0 fun i j => .int (i + j)) (tVar 3) (tC (.int 1)))) (tOp (rIxL K) (tVar 1) (tVar 3))) (gName 4))
 (tSeq (tDrop (tBM K "list" rAppend (tVar 2) (tCons (tIf (tTest (tOp rEq (tVar 4) (tOp rEq (tOp (rI (fun _ j => 0 < j) fun i j => .int (i % j)) (tVar 3) (tC (.int 2))) (tC (.int 0))))) (tC (.str "V")) (tC (.str "M"))) tNil)))
 tNext)))
 (tSeq (tRet (tBM K "str" (rJoin K) (tC (.str "")) (tCons (tVar 2) tNil)))
 tNext))))

def t_l_drawn (K : PySem.W.Frag) (c : Cs) (E : XK) : TS :=
 (tSeq (tRet (tIf (tTest (tOp (rI0 fun i j => .bl (decide (i < j))) (tVar 1) (tCB (rLenS K) (tCons (tVar 0) tNil)))) (tOp (rIxL K) (tVar 0) (tVar 1)) (tC (.int 0))))
 tNext)

def t_l_number (K : PySem.W.Frag) (c : Cs) (E : XK) : TS :=
 (tSeq (tAsg (tOp (rI0 fun i j => .int (i + j)) (tOp (rI CMul fun i j => .int (i * j)) (tOp (rI CMul fun i j => .int (i * j)) (tVar 1) (tVar 1)) (tC (.int 7919))) (tVar 1)) (gName 2))
 (tSeq (tIfS (tTest (tOp (rI0 fun i j => .bl (decide (i < j))) (tVar 1) (tCB (rLenS K) (tCons (tVar 0) tNil)))) (tSeq (tAsg (tOp (rIxL K) (tVar 0) (tVar 1)) (gName 2))
 tNext) (tSeq (tIfS (tTest (tOp (rNeD K) (tVar 0) (tLst tNil))) (tSeq (tAsg (tOp (rI0 fun i j => .int (i + j)) (tVar 2) (tOp (rIxL K) (tVar 0) (tOp (rI (fun _ j => 0 < j) fun i j => .int (i % j)) (tVar 1) (tCB (rLenS K) (tCons (tVar 0) tNil))))) (gName 2))
 tNext) tNext)
 tNext))
 (tSeq (tRet (tOp (rI (fun _ j => 0 < j) fun i j => .int (i % j)) (tOp (rI CMul fun i j => .int (i * j)) (tVar 2) (tC (.int 48271))) (tC (.int 2147483647))))
 tNext)))

def t_l_counts (K : PySem.W.Frag) (c : Cs) (E : XK) : TS :=
 (tSeq (tRet (tAndV (tCB (rIsi K) (tCons (tVar 0) (tCons (tC (.ty "int")) tNil))) (tAndV (tOp rNotIB (tVar 0) (tC (.bl true))) (tOp rNotIB (tVar 0) (tC (.bl false))))))
 tNext)

def t_l_size (K : PySem.W.Frag) (c : Cs) (E : XK) : TS :=
 (tSeq (tRet (tOp (rI0 fun i j => .int (i + j)) (tC (.int 1)) (tOp (rI (fun _ j => 0 < j) fun i j => .int (i % j)) (tOp (rI CDiv fun i j => .int (i / j)) (tVar 0) (tC (.int 8))) (tOp (rIxL K) (tLst (tCons (tC (.int 6)) (tCons (tC (.int 9)) (tCons (tC (.int 17)) (tCons (tC (.int 9)) (tCons (tC (.int 17)) (tCons (tC (.int 12)) (tCons (tC (.int 30)) (tCons (tC (.int 100)) tNil))))))))) (tOp (rI (fun _ j => 0 < j) fun i j => .int (i % j)) (tVar 0) (tC (.int 8)))))))
 tNext)

def t_l_pile (K : PySem.W.Frag) (c : Cs) (E : XK) : TS :=
 (tSeq (tAsg (tLst tNil) (gName 3))
 (tSeq (tFor (iRng1 (tCons (tVar 2) tNil)) (gName 4) (tSeq (tAsg (tOp (rI (fun _ j => 0 < j) fun i j => .int (i % j)) (tCall (sp_l_number K c) [] E (tCons (tVar 0) (tCons (tOp (rI0 fun i j => .int (i + j)) (tVar 1) (tVar 4)) tNil))) (tOp (rI0 fun i j => .int (i + j)) (tVar 4) (tC (.int 1)))) (gName 5))
 (tSeq (tAsg (tOp rCat (tOp rCat (tSl (rSlL K) (tVar 3) tNoPart (tPart (tVar 5))) (tLst (tCons (tVar 4) tNil))) (tSl (rSlL K) (tVar 3) (tPart (tVar 5)) tNoPart)) (gName 3))
 tNext)))
 (tSeq (tRet (tVar 3))
 tNext)))

def t_law_k01 (K : PySem.W.Frag) (c : Cs) (E : XK) : TS :=
 (tSeq (tAsg (tCall (sp_l_size K c) [] E (tCons (tCall (sp_l_drawn K c) [] E (tCons (tVar 0) (tCons (tC (.int 0)) tNil))) tNil)) (gName 1))
 (tSeq (tAsg (tCall (sp_l_pile K c) [] E (tCons (tVar 0) (tCons (tC (.int 1)) (tCons (tVar 1) tNil)))) (gName 2))
 (tSeq (tAsg (tCB (rListS K) (tCons (tVar 2) tNil)) (gName 3))
 (tSeq (tAsg (tCall (sp_places K c) [] E (tCons (tVar 3) tNil)) (gName 4))
 (tSeq (tIfS (tOr (tNot (tB (tCB (rIsi K) (tCons (tVar 4) (tCons (tC (.ty "list")) tNil))))) (tTest (tOp rNe (tCB (rLenS K) (tCons (tVar 4) tNil)) (tVar 1)))) (tSeq (tRet (tC (.bl false)))
 tNext) tNext)
 (tSeq (tFor (iRng1 (tCons (tVar 1) tNil)) (gName 5) (tSeq (tIfS (tOr (tNot (tB (tCall (sp_l_counts K c) [] E (tCons (tOp (rIxL K) (tVar 4) (tVar 5)) tNil)))) (tOr (tTest (tOp (rI0 fun i j => .bl (decide (i < j))) (tOp (rIxL K) (tVar 4) (tVar 5)) (tC (.int 0)))) (tTest (tOp (rI0 fun i j => .bl (decide (j ≤ i))) (tOp (rIxL K) (tVar 4) (tVar 5)) (tVar 1))))) (tSeq (tRet (tC (.bl false)))
 tNext) tNext)
 (tSeq (tIfS (tTest (tOp rNe (tOp (rIxL K) (tVar 2) (tOp (rIxL K) (tVar 4) (tVar 5))) (tVar 5))) (tSeq (tRet (tC (.bl false)))
 tNext) tNext)
 tNext)))
 (tSeq (tAsg (tCall (sp_letters K c) [] E (tCons (tVar 3) tNil)) (gName 6))
 (tSeq (tIfS (tOr (tNot (tB (tCB (rIsi K) (tCons (tVar 6) (tCons (tC (.ty "str")) tNil))))) (tOr (tTest (tOp rNe (tCB rLenT (tCons (tVar 6) tNil)) (tOp (rI0 fun i j => .int (i - j)) (tVar 1) (tC (.int 1))))) (tTest (tOp (rNeD K) (tVar 3) (tVar 2))))) (tSeq (tRet (tC (.bl false)))
 tNext) tNext)
 (tSeq (tFor (iRng1 (tCons (tOp (rI0 fun i j => .int (i - j)) (tVar 1) (tC (.int 1))) tNil)) (gName 7) (tSeq (tAsg (tOp rEq (tOp (rI0 fun i j => .bl (decide (j < i))) (tOp (rIxL K) (tVar 4) (tOp (rI0 fun i j => .int (i + j)) (tVar 7) (tC (.int 1)))) (tOp (rIxL K) (tVar 4) (tVar 7))) (tOp rEq (tOp (rI (fun _ j => 0 < j) fun i j => .int (i % j)) (tVar 7) (tC (.int 2))) (tC (.int 0)))) (gName 8))
 (tSeq (tIfS (tTest (tOp rNe (tOp rIxS (tVar 6) (tVar 7)) (tOp (rIxL K) (tLst (tCons (tC (.str "M")) (tCons (tC (.str "V")) tNil))) (tCB rInt1 (tCons (tVar 8) tNil))))) (tSeq (tRet (tC (.bl false)))
 tNext) tNext)
 tNext)))
 (tSeq (tRet (tC (.bl true)))
 tNext))))))))))

def t_wraps (K : PySem.W.Frag) (c : Cs) (E : XK) : TS :=
 (tSeq (tAsg (tCB (rSortedI K) (tCons (tLst (tCons (tOp (rIxL K) (tVar 0) (tVar 1)) (tCons (tOp (rIxL K) (tVar 0) (tOp (rI0 fun i j => .int (i + j)) (tVar 1) (tC (.int 1)))) tNil))) tNil)) (gName 3))
 (tSeq (tRet (tAndV (tOp (rI0 fun i j => .bl (decide (i < j))) (tOp (rIxL K) (tVar 3) (tC (.int 0))) (tOp (rIxL K) (tVar 0) (tVar 2))) (tOp (rI0 fun i j => .bl (decide (i < j))) (tOp (rIxL K) (tVar 0) (tVar 2)) (tOp (rIxL K) (tVar 3) (tC (.int 1))))))
 tNext))

def t_crossing (K : PySem.W.Frag) (c : Cs) (E : XK) : TS :=
 (tSeq (tAsg (tCall (sp_places K c) [] E (tCons (tVar 0) tNil)) (gName 1))
 (tSeq (tFor (iRng1 (tCons (tOp (rI0 fun i j => .int (i - j)) (tCB (rLenS K) (tCons (tVar 1) tNil)) (tC (.int 1))) tNil)) (gName 2) (tSeq (tFor (iRng3 (tCons (tOp (rI0 fun i j => .int (i + j)) (tVar 2) (tC (.int 2))) (tCons (tOp (rI0 fun i j => .int (i - j)) (tCB (rLenS K) (tCons (tVar 1) tNil)) (tC (.int 1))) (tCons (tC (.int 2)) tNil)))) (gName 3) (tSeq (tIfS (tTest (tOp rNe (tCall (sp_wraps K c) [] E (tCons (tVar 1) (tCons (tVar 2) (tCons (tVar 3) tNil)))) (tCall (sp_wraps K c) [] E (tCons (tVar 1) (tCons (tVar 2) (tCons (tOp (rI0 fun i j => .int (i + j)) (tVar 3) (tC (.int 1))) tNil)))))) (tSeq (tRet (tTup (tCons (tVar 2) (tCons (tVar 3) tNil))))
 tNext) tNext)
 tNext))
 tNext))
 (tSeq (tRet (tC .non))
 tNext)))

def t_l_places (K : PySem.W.Frag) (c : Cs) (E : XK) : TS :=
 (tSeq (tAsg (tOp rRep (tLst (tCons (tC (.int 0)) tNil)) (tCB (rLenS K) (tCons (tVar 0) tNil))) (gName 1))
 (tSeq (tFor (iRng1 (tCons (tCB (rLenS K) (tCons (tVar 0) tNil)) tNil)) (gName 2) (tSeq (tAsg (tVar 2) (gSub (tVar 1) (tOp (rIxL K) (tVar 0) (tVar 2)) rSetL))
 tNext))
 (tSeq (tRet (tVar 1))
 tNext)))

def t_l_fits (K : PySem.W.Frag) (c : Cs) (E : XK) : TS :=
 (tSeq (tFor (iRng3 (tCons (tOp (rI (fun _ j => 0 < j) fun i j => .int (i % j)) (tOp (rI0 fun i j => .int (i + j)) (tVar 1) (tC (.int 1))) (tC (.int 2))) (tCons (tOp (rI0 fun i j => .int (i - j)) (tVar 1) (tC (.int 1))) (tCons (tC (.int 2)) tNil)))) (gName 3) (tSeq (tAsg (tCB rMin2 (tCons (tOp (rIxL K) (tVar 0) (tVar 3)) (tCons (tOp (rIxL K) (tVar 0) (tOp (rI0 fun i j => .int (i + j)) (tVar 3) (tC (.int 1)))) tNil))) (gName 4))
 (tSeq (tAsg (tCB rMax2 (tCons (tOp (rIxL K) (tVar 0) (tVar 3)) (tCons (tOp (rIxL K) (tVar 0) (tOp (rI0 fun i j => .int (i + j)) (tVar 3) (tC (.int 1)))) tNil))) (gName 5))
 (tSeq (tIfS (tTest (tOp rNe (tAndV (tOp (rI0 fun i j => .bl (decide (i < j))) (tVar 4) (tOp (rIxL K) (tVar 0) (tOp (rI0 fun i j => .int (i - j)) (tVar 1) (tC (.int 1))))) (tOp (rI0 fun i j => .bl (decide (i < j))) (tOp (rIxL K) (tVar 0) (tOp (rI0 fun i j => .int (i - j)) (tVar 1) (tC (.int 1)))) (tVar 5))) (tAndV (tOp (rI0 fun i j => .bl (decide (i < j))) (tVar 4) (tVar 2)) (tOp (rI0 fun i j => .bl (decide (i ≤ j))) (tVar 2) (tVar 5))))) (tSeq (tRet (tC (.bl false)))
 tNext) tNext)
 tNext))))
 (tSeq (tRet (tC (.bl true)))
 tNext))

def t_l_good (K : PySem.W.Frag) (c : Cs) (E : XK) : TS :=
 (tSeq (tAsg (tLst (tCons (tC (.int 0)) tNil)) (gName 3))
 (tSeq (tFor (iRng2 (tCons (tC (.int 1)) (tCons (tVar 2) tNil))) (gName 4) (tSeq (tAsg (tCall (sp_l_places K c) [] E (tCons (tVar 3) tNil)) (gName 5))
 (tSeq (tAsg (tCall (sp_l_number K c) [] E (tCons (tVar 0) (tCons (tOp (rI0 fun i j => .int (i + j)) (tVar 1) (tVar 4)) tNil))) (gName 6))
 (tSeq (tAsg (tOp (rI (fun _ j => 0 < j) fun i j => .int (i % j)) (tVar 6) (tOp (rI0 fun i j => .int (i + j)) (tVar 4) (tC (.int 1)))) (gName 7))
 (tSeq (tIfS (tNot (tB (tCall (sp_l_fits K c) [] E (tCons (tVar 5) (tCons (tVar 4) (tCons (tVar 7) tNil)))))) (tSeq (tAsg (tOp (rI0 fun i j => .int (i + j)) (tOp (rIxL K) (tVar 5) (tOp (rI0 fun i j => .int (i - j)) (tVar 4) (tC (.int 1)))) (tOp (rI (fun _ j => 0 < j) fun i j => .int (i % j)) (tOp (rI CDiv fun i j => .int (i / j)) (tVar 6) (tC (.int 64))) (tC (.int 2)))) (gName 7))
 tNext) tNext)
 (tSeq (tAsg (tOp rCat (tOp rCat (tSl (rSlL K) (tVar 3) tNoPart (tPart (tVar 7))) (tLst (tCons (tVar 4) tNil))) (tSl (rSlL K) (tVar 3) (tPart (tVar 7)) tNoPart)) (gName 3))
 tNext))))))
 (tSeq (tRet (tVar 3))
 tNext)))

def t_l_moved (K : PySem.W.Frag) (c : Cs) (E : XK) : TS :=
 (tSeq (tAsg (tOp (rI (fun _ j => 0 < j) fun i j => .int (i % j)) (tVar 1) (tCB (rLenS K) (tCons (tVar 0) tNil))) (gName 3))
 (tSeq (tAsg (tOp (rI (fun _ j => 0 < j) fun i j => .int (i % j)) (tVar 2) (tCB (rLenS K) (tCons (tVar 0) tNil))) (gName 4))
 (tSeq (tAsg (tOp rCat (tSl (rSlL K) (tVar 0) tNoPart (tPart (tVar 3))) (tSl (rSlL K) (tVar 0) (tPart (tOp (rI0 fun i j => .int (i + j)) (tVar 3) (tC (.int 1)))) tNoPart)) (gName 5))
 (tSeq (tRet (tOp rCat (tOp rCat (tSl (rSlL K) (tVar 5) tNoPart (tPart (tVar 4))) (tLst (tCons (tOp (rIxL K) (tVar 0) (tVar 3)) tNil))) (tSl (rSlL K) (tVar 5) (tPart (tVar 4)) tNoPart)))
 tNext))))

def t_l_wraps (K : PySem.W.Frag) (c : Cs) (E : XK) : TS :=
 (tSeq (tAsg (tCB rMin2 (tCons (tOp (rIxL K) (tVar 0) (tVar 1)) (tCons (tOp (rIxL K) (tVar 0) (tOp (rI0 fun i j => .int (i + j)) (tVar 1) (tC (.int 1)))) tNil))) (gName 3))
 (tSeq (tAsg (tCB rMax2 (tCons (tOp (rIxL K) (tVar 0) (tVar 1)) (tCons (tOp (rIxL K) (tVar 0) (tOp (rI0 fun i j => .int (i + j)) (tVar 1) (tC (.int 1)))) tNil))) (gName 4))
 (tSeq (tRet (tAndV (tOp (rI0 fun i j => .bl (decide (i < j))) (tVar 3) (tOp (rIxL K) (tVar 0) (tVar 2))) (tOp (rI0 fun i j => .bl (decide (i < j))) (tOp (rIxL K) (tVar 0) (tVar 2)) (tVar 4))))
 tNext)))

def t_l_cross (K : PySem.W.Frag) (c : Cs) (E : XK) : TS :=
 (tSeq (tIfS (tOr (tTest (tOp rEq (tVar 1) (tVar 2))) (tTest (tOp rEq (tOp (rI (fun _ j => 0 < j) fun i j => .int (i % j)) (tOp (rI0 fun i j => .int (i - j)) (tVar 1) (tVar 2)) (tC (.int 2))) (tC (.int 1))))) (tSeq (tRet (tC (.bl false)))
 tNext) tNext)
 (tSeq (tRet (tOp rNe (tCall (sp_l_wraps K c) [] E (tCons (tVar 0) (tCons (tVar 1) (tCons (tVar 2) tNil)))) (tCall (sp_l_wraps K c) [] E (tCons (tVar 0) (tCons (tVar 1) (tCons (tOp (rI0 fun i j => .int (i + j)) (tVar 2) (tC (.int 1))) tNil))))))
 tNext))

def t_l_none_cross2 (K : PySem.W.Frag) (c : Cs) (E : XK) : TS :=
 (tSeq (tFor (iRng1 (tCons (tOp (rI0 fun i j => .int (i - j)) (tCB (rLenS K) (tCons (tVar 0) tNil)) (tC (.int 1))) tNil)) (gName 1) (tSeq (tFor (iRng3 (tCons (tOp (rI0 fun i j => .int (i + j)) (tVar 1) (tC (.int 2))) (tCons (tOp (rI0 fun i j => .int (i - j)) (tCB (rLenS K) (tCons (tVar 0) tNil)) (tC (.int 1))) (tCons (tC (.int 2)) tNil)))) (gName 2) (tSeq (tIfS (tB (tCall (sp_l_cross K c) [] E (tCons (tVar 0) (tCons (tVar 1) (tCons (tVar 2) tNil))))) (tSeq (tRet (tC (.bl false)))
 tNext) tNext)
 tNext))
 tNext))
 (tSeq (tRet (tC (.bl true)))
 tNext))

def t_law_k02 (K : PySem.W.Frag) (c : Cs) (E : XK) : TS :=
 (tSeq (tAsg (tCall (sp_l_size K c) [] E (tCons (tCall (sp_l_drawn K c) [] E (tCons (tVar 0) (tCons (tC (.int 0)) tNil))) tNil)) (gName 1))
 (tSeq (tAsg (tOp (rI (fun _ j => 0 < j) fun i j => .int (i % j)) (tCall (sp_l_drawn K c) [] E (tCons (tVar 0) (tCons (tC (.int 1)) tNil))) (tC (.int 5))) (gName 2))
 (tCut (tIfS (tTest (tOp rEq (tVar 2) (tC (.int 0)))) (tSeq (tAsg (tCall (sp_l_pile K c) [] E (tCons (tVar 0) (tCons (tC (.int 2)) (tCons (tVar 1) tNil)))) (gName 3))
 tNext) (tSeq (tAsg (tCall (sp_l_good K c) [] E (tCons (tVar 0) (tCons (tC (.int 2)) (tCons (tVar 1) tNil)))) (gName 3))
 tNext))
 (tCut (tIfS (tTest (tOp (rI0 fun i j => .bl (decide (j < i))) (tVar 2) (tC (.int 2)))) (tSeq (tAsg (tCall (sp_l_moved K c) [] E (tCons (tVar 3) (tCons (tCall (sp_l_number K c) [] E (tCons (tVar 0) (tCons (tOp (rI0 fun i j => .int (i + j)) (tVar 1) (tC (.int 2))) tNil))) (tCons (tCall (sp_l_number K c) [] E (tCons (tVar 0) (tCons (tOp (rI0 fun i j => .int (i + j)) (tVar 1) (tC (.int 3))) tNil))) tNil)))) (gName 3))
 tNext) tNext)
 (tSeq (tAsg (tCB (rListS K) (tCons (tVar 3) tNil)) (gName 4))
 (tSeq (tAsg (tCall (sp_crossing K c) [] E (tCons (tVar 4) tNil)) (gName 5))
 (tSeq (tAsg (tCall (sp_l_places K c) [] E (tCons (tVar 3) tNil)) (gName 6))
 (tSeq (tIfS (tTest (tOp (rNeD K) (tVar 4) (tVar 3))) (tSeq (tRet (tC (.bl false)))
 tNext) tNext)
 (tSeq (tIfS (tTest (tOp rIsN (tVar 5) (tC .non))) (tSeq (tRet (tCall (sp_l_none_cross K c) [] E (tCons (tVar 6) tNil)))
 tNext) tNext)
 (tSeq (tIfS (tOr (tNot (tB (tCB (rIsi K) (tCons (tVar 5) (tCons (tC (.ty "tuple")) tNil))))) (tTest (tOp rNe (tCB (rLenS K) (tCons (tVar 5) tNil)) (tC (.int 2))))) (tSeq (tRet (tC (.bl false)))
 tNext) tNext)
 (tSeq (tIfS (tOr (tNot (tB (tCall (sp_l_counts K c) [] E (tCons (tOp (rIxT K) (tVar 5) (tC (.int 0))) tNil)))) (tNot (tB (tCall (sp_l_counts K c) [] E (tCons (tOp (rIxT K) (tVar 5) (tC (.int 1))) tNil))))) (tSeq (tRet (tC (.bl false)))
 tNext) tNext)
 (tSeq (tIfS (tOr (tTest (tOp (rI0 fun i j => .bl (decide (i < j))) (tOp (rIxT K) (tVar 5) (tC (.int 0))) (tC (.int 0)))) (tOr (tTest (tOp (rI0 fun i j => .bl (decide (j ≤ i))) (tOp (rIxT K) (tVar 5) (tC (.int 0))) (tOp (rIxT K) (tVar 5) (tC (.int 1))))) (tTest (tOp (rI0 fun i j => .bl (decide (j < i))) (tOp (rIxT K) (tVar 5) (tC (.int 1))) (tOp (rI0 fun i j => .int (i - j)) (tVar 1) (tC (.int 2))))))) (tSeq (tRet (tC (.bl false)))
 tNext) tNext)
 (tSeq (tRet (tCall (sp_l_cross K c) [] E (tCons (tVar 6) (tCons (tOp (rIxT K) (tVar 5) (tC (.int 0))) (tCons (tOp (rIxT K) (tVar 5) (tC (.int 1))) tNil)))))
 tNext)))))))))))))

def t_turned (K : PySem.W.Frag) (c : Cs) (E : XK) : TS :=
 (tSeq (tAsg (tOp (rI (fun _ j => 0 < j) fun i j => .int (i % j)) (tVar 1) (tCB (rLenS K) (tCons (tCall (sp_places K c) [] E (tCons (tVar 0) tNil)) tNil))) (gName 2))
 (tSeq (tRet (tOp rCat (tSl (rSlL K) (tVar 0) (tPart (tVar 2)) tNoPart) (tSl (rSlL K) (tVar 0) tNoPart (tPart (tVar 2)))))
 tNext))

def t_l_same_row (K : PySem.W.Frag) (c : Cs) (E : XK) : TS :=
 (tSeq (tIfS (tOr (tNot (tB (tCB (rIsi K) (tCons (tVar 0) (tCons (tC (.ty "list")) tNil))))) (tTest (tOp rNe (tCB (rLenS K) (tCons (tVar 0) tNil)) (tCB (rLenS K) (tCons (tVar 1) tNil))))) (tSeq (tRet (tC (.bl false)))
 tNext) tNext)
 (tSeq (tFor (iRng1 (tCons (tCB (rLenS K) (tCons (tVar 1) tNil)) tNil)) (gName 2) (tSeq (tIfS (tOr (tNot (tB (tCall (sp_l_counts K c) [] E (tCons (tOp (rIxL K) (tVar 0) (tVar 2)) tNil)))) (tTest (tOp rNe (tOp (rIxL K) (tVar 0) (tVar 2)) (tOp (rIxL K) (tVar 1) (tVar 2))))) (tSeq (tRet (tC (.bl false)))
 tNext) tNext)
 tNext))
 (tSeq (tRet (tC (.bl true)))
 tNext)))

def t_l_cross_told (K : PySem.W.Frag) (c : Cs) (E : XK) : TS :=
 (tSeq (tIfS (tOr (tNot (tB (tCB (rIsi K) (tCons (tVar 1) (tCons (tC (.ty "tuple")) tNil))))) (tTest (tOp rNe (tCB (rLenS K) (tCons (tVar 1) tNil)) (tC (.int 2))))) (tSeq (tRet (tC (.bl false)))
 tNext) tNext)
 (tSeq (tAsg (tOp (rIxT K) (tVar 1) (tC (.int 0))) (gName 2))
 (tSeq (tAsg (tOp (rIxT K) (tVar 1) (tC (.int 1))) (gName 3))
 (tSeq (tIfS (tOr (tNot (tB (tCall (sp_l_counts K c) [] E (tCons (tVar 2) tNil)))) (tOr (tNot (tB (tCall (sp_l_counts K c) [] E (tCons (tVar 3) tNil)))) (tOr (tTest (tOp (rI0 fun i j => .bl (decide (i < j))) (tVar 2) (tC (.int 0)))) (tOr (tTest (tOp (rI0 fun i j => .bl (decide (j ≤ i))) (tVar 2) (tVar 3))) (tTest (tOp (rI0 fun i j => .bl (decide (j < i))) (tVar 3) (tOp (rI0 fun i j => .int (i - j)) (tCB (rLenS K) (tCons (tVar 0) tNil)) (tC (.int 2))))))))) (tSeq (tRet (tC (.bl false)))
 tNext) tNext)
 (tSeq (tRet (tAndV (tOp rEq (tOp (rI (fun _ j => 0 < j) fun i j => .int (i % j)) (tOp (rI0 fun i j => .int (i - j)) (tVar 3) (tVar 2)) (tC (.int 2))) (tC (.int 0))) (tOp rNe (tCall (sp_l_wraps K c) [] E (tCons (tVar 0) (tCons (tVar 2) (tCons (tVar 3) tNil)))) (tCall (sp_l_wraps K c) [] E (tCons (tVar 0) (tCons (tVar 2) (tCons (tOp (rI0 fun i j => .int (i + j)) (tVar 3) (tC (.int 1))) tNil)))))))
 tNext)))))

def t_l_letters_turned (K : PySem.W.Frag) (c : Cs) (E : XK) : TS :=
 (tSeq (tIfS (tOr (tNot (tB (tCB (rIsi K) (tCons (tVar 2) (tCons (tC (.ty "str")) tNil))))) (tNot (tB (tCB (rIsi K) (tCons (tVar 3) (tCons (tC (.ty "str")) tNil)))))) (tSeq (tRet (tC (.bl false)))
 tNext) tNext)
 (tSeq (tIfS (tOr (tTest (tOp rNe (tCB rLenT (tCons (tVar 2) tNil)) (tOp (rI0 fun i j => .int (i - j)) (tCB (rLenS K) (tCons (tVar 0) tNil)) (tC (.int 1))))) (tTest (tOp rNe (tCB rLenT (tCons (tVar 3) tNil)) (tOp (rI0 fun i j => .int (i - j)) (tCB (rLenS K) (tCons (tVar 0) tNil)) (tC (.int 1)))))) (tSeq (tRet (tC (.bl false)))
 tNext) tNext)
 (tSeq (tFor (iRng1 (tCons (tOp (rI0 fun i j => .int (i - j)) (tCB (rLenS K) (tCons (tVar 0) tNil)) (tC (.int 1))) tNil)) (gName 4) (tSeq (tAsg (tOp rNe (tOp (rI0 fun i j => .bl (decide (i < j))) (tOp (rIxL K) (tVar 0) (tVar 4)) (tVar 1)) (tOp (rI0 fun i j => .bl (decide (i < j))) (tOp (rIxL K) (tVar 0) (tOp (rI0 fun i j => .int (i + j)) (tVar 4) (tC (.int 1)))) (tVar 1))) (gName 5))
 (tSeq (tIfS (tTest (tOp rNe (tOp rNe (tOp rIxS (tVar 2) (tVar 4)) (tOp rIxS (tVar 3) (tVar 4))) (tVar 5))) (tSeq (tRet (tC (.bl false)))
 tNext) tNext)
 tNext)))
 (tSeq (tRet (tC (.bl true)))
 tNext))))

def t_law_k03 (K : PySem.W.Frag) (c : Cs) (E : XK) : TS :=
 (tSeq (tAsg (tCall (sp_l_size K c) [] E (tCons (tCall (sp_l_drawn K c) [] E (tCons (tVar 0) (tCons (tC (.int 0)) tNil))) tNil)) (gName 1))
 (tSeq (tAsg (tOp (rI0 fun i j => .int (i - j)) (tOp (rI (fun _ j => 0 < j) fun i j => .int (i % j)) (tOp (rI CDiv fun i j => .int (i / j)) (tCall (sp_l_drawn K c) [] E (tCons (tVar 0) (tCons (tC (.int 1)) tNil))) (tC (.int 6))) (tC (.int 19))) (tC (.int 9))) (gName 2))
 (tCut (tIfS (tTest (tOp rEq (tOp (rI (fun _ j => 0 < j) fun i j => .int (i % j)) (tCall (sp_l_drawn K c) [] E (tCons (tVar 0) (tCons (tC (.int 1)) tNil))) (tC (.int 3))) (tC (.int 1)))) (tSeq (tAsg (tOp (rI0 fun i j => .int (i - j)) (tOp (rI (fun _ j => 0 < j) fun i j => .int (i % j)) (tCall (sp_l_drawn K c) [] E (tCons (tVar 0) (tCons (tC (.int 2)) tNil))) (tOp (rI0 fun i j => .int (i + j)) (tOp (rI CMul fun i j => .int (i * j)) (tC (.int 2)) (tOp (rI CPow fun i j => .int (i ^ j.toNat)) (tC (.int 10)) (tC (.int 60)))) (tC (.int 1)))) (tOp (rI CPow fun i j => .int (i ^ j.toNat)) (tC (.int 10)) (tC (.int 60)))) (gName 2))
 tNext) tNext)
 (tCut (tIfS (tTest (tOp rEq (tOp (rI (fun _ j => 0 < j) fun i j => .int (i % j)) (tOp (rI CDiv fun i j => .int (i / j)) (tCall (sp_l_drawn K c) [] E (tCons (tVar 0) (tCons (tC (.int 1)) tNil))) (tC (.int 3))) (tC (.int 2))) (tC (.int 0)))) (tSeq (tAsg (tCall (sp_l_pile K c) [] E (tCons (tVar 0) (tCons (tC (.int 3)) (tCons (tVar 1) tNil)))) (gName 3))
 tNext) (tSeq (tAsg (tCall (sp_l_good K c) [] E (tCons (tVar 0) (tCons (tC (.int 3)) (tCons (tVar 1) tNil)))) (gName 3))
 tNext))
 (tSeq (tAsg (tCB (rListS K) (tCons (tVar 3) tNil)) (gName 4))
 (tCut (tIfS (tTest (tOp rEq (tOp (rI (fun _ j => 0 < j) fun i j => .int (i % j)) (tCall (sp_l_drawn K c) [] E (tCons (tVar 0) (tCons (tC (.int 1)) tNil))) (tC (.int 3))) (tC (.int 2)))) (tSeq (tAsg (tC (.int 1)) (gName 2))
 (tSeq (tAsg (tCall (sp_turned K c) [.int 1] E (tCons (tVar 4) tNil)) (gName 5))
 tNext)) (tSeq (tAsg (tCall (sp_turned K c) [] E (tCons (tVar 4) (tCons (tVar 2) tNil))) (gName 5))
 tNext))
 (tSeq (tAsg (tOp (rI (fun _ j => 0 < j) fun i j => .int (i % j)) (tVar 2) (tVar 1)) (gName 6))
 (tSeq (tAsg (tOp rCat (tSl (rSlL K) (tVar 3) (tPart (tVar 6)) tNoPart) (tSl (rSlL K) (tVar 3) tNoPart (tPart (tVar 6)))) (gName 7))
 (tSeq (tIfS (tOr (tTest (tOp (rNeD K) (tVar 4) (tVar 3))) (tNot (tB (tCall (sp_l_same_row K c) [] E (tCons (tVar 5) (tCons (tVar 7) tNil)))))) (tSeq (tRet (tC (.bl false)))
 tNext) tNext)
 (tSeq (tAsg (tCall (sp_l_places K c) [] E (tCons (tVar 3) tNil)) (gName 8))
 (tCut (tAsg (tCall (sp_crossing K c) [] E (tCons (tVar 4) tNil)) (gName 9))
 (tCut (tAsg (tCall (sp_crossing K c) [] E (tCons (tCB (rListS K) (tCons (tVar 7) tNil)) tNil)) (gName 10))
 (tSeq (tIfS (tTest (tOp rNe (tOp rIsN (tVar 9) (tC .non)) (tOp rIsN (tVar 10) (tC .non)))) (tSeq (tRet (tC (.bl false)))
 tNext) tNext)
 (tSeq (tIfS (tAnd (tTest (tOp rNotN (tVar 10) (tC .non))) (tNot (tB (tCall (sp_l_cross_told K c) [] E (tCons (tVar 8) (tCons (tVar 10) tNil)))))) (tSeq (tRet (tC (.bl false)))
 tNext) tNext)
 (tSeq (tDrop (tBM K "list" rAppend (tVar 5) (tCons (tC (.int 0)) tNil)))
 (tSeq (tIfS (tTest (tOp (rNeD K) (tVar 4) (tVar 3))) (tSeq (tRet (tC (.bl false)))
 tNext) tNext)
 (tSeq (tRet (tCall (sp_l_letters_turned K c) [] E (tCons (tVar 8) (tCons (tVar 6) (tCons (tCall (sp_letters K c) [] E (tCons (tVar 4) tNil)) (tCons (tCall (sp_letters K c) [] E (tCons (tCB (rListS K) (tCons (tVar 7) tNil)) tNil)) tNil))))))
 tNext)))))))))))))))))

def t_look_at (K : PySem.W.Frag) (c : Cs) (E : XK) : TS :=
 (tSeq (tFor (iStr (tVar 0)) (gName 1) (tSeq (tIfS (tAnd (tTest (tOp rNe (tVar 1) (tC (.str "V")))) (tTest (tOp rNe (tVar 1) (tC (.str "M"))))) (tSeq (tRaise E (.ref c.nl))
 tNext) tNext)
 tNext))
 tNext)

def t_pile_of (K : PySem.W.Frag) (c : Cs) (E : XK) : TS :=
 (tSeq (tDrop (tCall (sp_look_at K c) [] E (tCons (tVar 0) tNil)))
 (tSeq (tAsg (tLst (tCons (tC (.int 0)) tNil)) (gName 1))
 (tSeq (tFor (iEnumS (tCons (tVar 0) tNil)) (gTup K 2 (gCons (gName 2) (gCons (gName 3) gNil))) (tSeq (tAsg (tBM K "list" (rIndex K) (tVar 1) (tCons (tVar 2) tNil)) (gName 4))
 (tCut (tIfS (tTest (tOp rEq (tOp rEq (tVar 3) (tC (.str "V"))) (tOp rEq (tOp (rI (fun _ j => 0 < j) fun i j => .int (i % j)) (tVar 2) (tC (.int 2))) (tC (.int 0))))) (tSeq (tAug 4 (tC (.int 1)) (ipI fun i j => i + j))
 tNext) tNext)
 (tSeq (tDrop (tBM K "list" rInsert (tVar 1) (tCons (tVar 4) (tCons (tOp (rI0 fun i j => .int (i + j)) (tVar 2) (tC (.int 1))) tNil))))
 tNext))))
 (tSeq (tRet (tVar 1))
 tNext))))

def t_l_is_pile (K : PySem.W.Frag) (c : Cs) (E : XK) : TS :=
 (tSeq (tIfS (tOr (tNot (tB (tCB (rIsi K) (tCons (tVar 0) (tCons (tC (.ty "list")) tNil))))) (tTest (tOp rNe (tCB (rLenS K) (tCons (tVar 0) tNil)) (tVar 1)))) (tSeq (tRet (tC (.bl false)))
 tNext) tNext)
 (tSeq (tAsg (tOp rRep (tLst (tCons (tC (.bl false)) tNil)) (tVar 1)) (gName 2))
 (tSeq (tFor (iList K (tVar 0)) (gName 3) (tSeq (tIfS (tOr (tNot (tB (tCall (sp_l_counts K c) [] E (tCons (tVar 3) tNil)))) (tOr (tTest (tOp (rI0 fun i j => .bl (decide (i < j))) (tVar 3) (tC (.int 0)))) (tOr (tTest (tOp (rI0 fun i j => .bl (decide (j ≤ i))) (tVar 3) (tVar 1))) (tB (tOp (rIxL K) (tVar 2) (tVar 3)))))) (tSeq (tRet (tC (.bl false)))
 tNext) tNext)
 (tSeq (tAsg (tC (.bl true)) (gSub (tVar 2) (tVar 3) rSetL))
 tNext)))
 (tSeq (tRet (tC (.bl true)))
 tNext))))

def t_l_none_cross (K : PySem.W.Frag) (c : Cs) (E : XK) : TS :=
 (tSeq (tFor (iRng1 (tCons (tOp (rI0 fun i j => .int (i - j)) (tCB (rLenS K) (tCons (tVar 0) tNil)) (tC (.int 1))) tNil)) (gName 1) (tSeq (tFor (iRng3 (tCons (tOp (rI0 fun i j => .int (i + j)) (tVar 1) (tC (.int 2))) (tCons (tOp (rI0 fun i j => .int (i - j)) (tCB (rLenS K) (tCons (tVar 0) tNil)) (tC (.int 1))) (tCons (tC (.int 2)) tNil)))) (gName 2) (tSeq (tIfS (tTest (tOp rNe (tCall (sp_l_wraps K c) [] E (tCons (tVar 0) (tCons (tVar 1) (tCons (tVar 2) tNil)))) (tCall (sp_l_wraps K c) [] E (tCons (tVar 0) (tCons (tVar 1) (tCons (tOp (rI0 fun i j => .int (i + j)) (tVar 2) (tC (.int 1))) tNil)))))) (tSeq (tRet (tC (.bl false)))
 tNext) tNext)
 tNext))
 tNext))
 (tSeq (tRet (tC (.bl true)))
 tNext))

def t_l_row (K : PySem.W.Frag) (c : Cs) (E : XK) : TS :=
 (tSeq (tAsg (tOp (rI (fun _ j => 0 < j) fun i j => .int (i % j)) (tCall (sp_l_drawn K c) [] E (tCons (tVar 0) (tCons (tC (.int 1)) tNil))) (tC (.int 4))) (gName 2))
 (tSeq (tAsg (tOp (rI CDiv fun i j => .int (i / j)) (tCall (sp_l_drawn K c) [] E (tCons (tVar 0) (tCons (tC (.int 1)) tNil))) (tC (.int 4))) (gName 3))
 (tSeq (tAsg (tLst tNil) (gName 4))
 (tSeq (tFor (iRng1 (tCons (tVar 1) tNil)) (gName 5) (tSeq (tAsg (tOp (rI (fun _ j => 0 < j) fun i j => .int (i % j)) (tCall (sp_l_number K c) [] E (tCons (tVar 0) (tCons (tOp (rI0 fun i j => .int (i + j)) (tC (.int 2)) (tVar 5)) tNil))) (tC (.int 2))) (gName 6))
 (tCut (tIfS (tTest (tOp rEq (tVar 2) (tC (.int 2)))) (tSeq (tAsg (tOp (rI (fun _ j => 0 < j) fun i j => .int (i % j)) (tVar 3) (tC (.int 2))) (gName 6))
 tNext) tNext)
 (tCut (tIfS (tTest (tOp rEq (tVar 2) (tC (.int 3)))) (tSeq (tAsg (tOp (rI (fun _ j => 0 < j) fun i j => .int (i % j)) (tOp (rI CDiv fun i j => .int (i / j)) (tVar 5) (tOp (rI0 fun i j => .int (i + j)) (tC (.int 1)) (tOp (rI (fun _ j => 0 < j) fun i j => .int (i % j)) (tVar 3) (tC (.int 9))))) (tC (.int 2))) (gName 6))
 tNext) tNext)
 (tSeq (tDrop (tBM K "list" rAppend (tVar 4) (tCons (tOp (rIxL K) (tLst (tCons (tC (.str "V")) (tCons (tC (.str "M")) tNil))) (tVar 6)) tNil)))
 tNext)))))
 (tSeq (tRet (tBM K "str" (rJoin K) (tC (.str "")) (tCons (tVar 4) tNil)))
 tNext)))))

def t_law_k04 (K : PySem.W.Frag) (c : Cs) (E : XK) : TS :=
 (tSeq (tAsg (tCall (sp_l_size K c) [] E (tCons (tCall (sp_l_drawn K c) [] E (tCons (tVar 0) (tCons (tC (.int 0)) tNil))) tNil)) (gName 1))
 (tSeq (tAsg (tCall (sp_l_row K c) [] E (tCons (tVar 0) (tCons (tOp (rI0 fun i j => .int (i - j)) (tVar 1) (tC (.int 1))) tNil))) (gName 2))
 (tSeq (tAsg (tCall (sp_pile_of K c) [] E (tCons (tVar 2) tNil)) (gName 3))
 (tSeq (tIfS (tNot (tB (tCall (sp_l_is_pile K c) [] E (tCons (tVar 3) (tCons (tVar 1) tNil))))) (tSeq (tRet (tC (.bl false)))
 tNext) tNext)
 (tSeq (tAsg (tCall (sp_l_places K c) [] E (tCons (tVar 3) tNil)) (gName 4))
 (tSeq (tFor (iRng1 (tCons (tOp (rI0 fun i j => .int (i - j)) (tVar 1) (tC (.int 1))) tNil)) (gName 5) (tSeq (tAsg (tOp rEq (tOp (rI0 fun i j => .bl (decide (j < i))) (tOp (rIxL K) (tVar 4) (tOp (rI0 fun i j => .int (i + j)) (tVar 5) (tC (.int 1)))) (tOp (rIxL K) (tVar 4) (tVar 5))) (tOp rEq (tOp (rI (fun _ j => 0 < j) fun i j => .int (i % j)) (tVar 5) (tC (.int 2))) (tC (.int 0)))) (gName 6))
 (tSeq (tIfS (tTest (tOp rNe (tVar 6) (tOp rEq (tOp rIxS (tVar 2) (tVar 5)) (tC (.str "V"))))) (tSeq (tRet (tC (.bl false)))
 tNext) tNext)
 tNext)))
 (tSeq (tRet (tCall (sp_l_none_cross K c) [] E (tCons (tVar 4) tNil)))
 tNext)))))))

def t_judged (K : PySem.W.Frag) (c : Cs) (E : XK) : TS :=
 (tSeq (tAsg (tCall (sp_crossing K c) [] E (tCons (tVar 0) tNil)) (gName 1))
 (tSeq (tIfS (tTest (tOp rNotN (tVar 1) (tC .non))) (tSeq tNever
 tNext) tNext)
 (tSeq (tRet (tCall (sp_places K c) [] E (tCons (tVar 0) tNil)))
 tNext)))

def t_parts_of (K : PySem.W.Frag) (c : Cs) (E : XK) : TS :=
 (tSeq (tAsg (tLst tNil) (gName 2))
 (tSeq (tAsg (tC (.int 0)) (gName 3))
 (tSeq (tFor (iList K (tOp rCat (tCB (rSortedQ K) (tCons (tVar 1) tNil)) (tLst (tCons (tOp (rI0 fun i j => .int (i - j)) (tVar 0) (tC (.int 1))) tNil)))) (gName 4) (tSeq (tDrop (tBM K "list" rAppend (tVar 2) (tCons (tTup (tCons (tVar 3) (tCons (tVar 4) tNil))) tNil)))
 (tSeq (tAsg (tOp (rI0 fun i j => .int (i + j)) (tVar 4) (tC (.int 1))) (gName 3))
 tNext)))
 (tSeq (tRet (tVar 2))
 tNext))))

def t_held (K : PySem.W.Frag) (c : Cs) (E : XK) : TS :=
 (tSeq (tFor (iRng2 (tCons (tOp (rIxT K) (tVar 1) (tC (.int 0))) (tCons (tOp (rIxT K) (tVar 1) (tC (.int 1))) tNil))) (gName 4) (tSeq (tIfS (tAnd (tTest (tOp rEq (tOp (rI (fun _ j => 0 < j) fun i j => .int (i % j)) (tOp (rI0 fun i j => .int (i - j)) (tVar 4) (tVar 2)) (tC (.int 2))) (tC (.int 0)))) (tB (tCall (sp_wraps K c) [] E (tCons (tVar 0) (tCons (tVar 4) (tCons (tVar 3) tNil)))))) (tSeq (tRet (tC (.bl true)))
 tNext) tNext)
 tNext))
 (tSeq (tRet (tC (.bl false)))
 tNext))

def t_lies_free (K : PySem.W.Frag) (c : Cs) (E : XK) : TS :=
 (tSeq (tAsg (tVar 1) (gTup K 2 (gCons (gName 2) (gCons (gName 3) gNil))))
 (tSeq (tAsg (tOp (rI0 fun i j => .bl (decide (j < i))) (tVar 2) (tC (.int 0))) (gName 4))
 (tSeq (tAsg (tOp (rI0 fun i j => .bl (decide (i < j))) (tVar 3) (tOp (rI0 fun i j => .int (i - j)) (tCB (rLenS K) (tCons (tVar 0) tNil)) (tC (.int 1)))) (gName 5))
 (tSeq (tIfS (tAnd (tB (tVar 4)) (tAnd (tB (tVar 5)) (tTest (tOp rEq (tOp (rI (fun _ j => 0 < j) fun i j => .int (i % j)) (tOp (rI0 fun i j => .int (i - j)) (tVar 3) (tVar 2)) (tC (.int 2))) (tC (.int 1)))))) (tSeq (tRet (tC (.bl false)))
 tNext) tNext)
 (tSeq (tIfS (tAnd (tB (tVar 4)) (tB (tCall (sp_held K c) [] E (tCons (tVar 0) (tCons (tVar 1) (tCons (tOp (rI0 fun i j => .int (i - j)) (tVar 2) (tC (.int 1))) (tCons (tVar 2) tNil))))))) (tSeq (tRet (tC (.bl false)))
 tNext) tNext)
 (tSeq (tRet (tNotV (tAndV (tVar 5) (tCall (sp_held K c) [] E (tCons (tVar 0) (tCons (tVar 1) (tCons (tVar 3) (tCons (tVar 3) tNil))))))))
 tNext))))))

def t_are_free (K : PySem.W.Frag) (c : Cs) (E : XK) : TS :=
 (tSeq (tFor (iList K (tCall (sp_parts_of K c) [] E (tCons (tCB (rLenS K) (tCons (tVar 0) tNil)) (tCons (tVar 1) tNil)))) (gName 2) (tSeq (tIfS (tNot (tB (tCall (sp_lies_free K c) [] E (tCons (tVar 0) (tCons (tVar 2) tNil))))) (tSeq (tRet (tC (.bl false)))
 tNext) tNext)
 tNext))
 (tSeq (tRet (tC (.bl true)))
 tNext))

def t_look_at_creases (K : PySem.W.Frag) (c : Cs) (E : XK) : TS :=
 (tSeq (tFor (iSeq K (tVar 1)) (gName 2) (tSeq (tIfS (tOr (tTest (tOp (rI0 fun i j => .bl (decide (i < j))) (tVar 2) (tC (.int 0)))) (tTest (tOp (rI0 fun i j => .bl (decide (j < i))) (tVar 2) (tOp (rI0 fun i j => .int (i - j)) (tVar 0) (tC (.int 2)))))) (tSeq (tRaise E (.ref c.nc))
 tNext) tNext)
 tNext))
 (tSeq (tIfS (tTest (tOp (rI0 fun i j => .bl (decide (i < j))) (tLenSet K (tVar 1)) (tCB (rLenS K) (tCons (tVar 1) tNil)))) (tSeq (tRaise E (.ref c.nc))
 tNext) tNext)
 tNext))

def t_free (K : PySem.W.Frag) (c : Cs) (E : XK) : TS :=
 (tSeq (tAsg (tCall (sp_judged K c) [] E (tCons (tVar 0) tNil)) (gName 2))
 (tSeq (tDrop (tCall (sp_look_at_creases K c) [] E (tCons (tCB (rLenS K) (tCons (tVar 2) tNil)) (tCons (tVar 1) tNil))))
 (tSeq (tRet (tCall (sp_are_free K c) [] E (tCons (tVar 2) (tCons (tVar 1) tNil))))
 tNext)))

def t_l_size60 (K : PySem.W.Frag) (c : Cs) (E : XK) : TS :=
 (tSeq (tRet (tOp (rI0 fun i j => .int (i + j)) (tC (.int 1)) (tOp (rI (fun _ j => 0 < j) fun i j => .int (i % j)) (tOp (rI CDiv fun i j => .int (i / j)) (tVar 0) (tC (.int 8))) (tOp (rIxL K) (tLst (tCons (tC (.int 6)) (tCons (tC (.int 9)) (tCons (tC (.int 17)) (tCons (tC (.int 9)) (tCons (tC (.int 17)) (tCons (tC (.int 12)) (tCons (tC (.int 30)) (tCons (tC (.int 60)) tNil))))))))) (tOp (rI (fun _ j => 0 < j) fun i j => .int (i % j)) (tVar 0) (tC (.int 8)))))))
 tNext)

def t_l_held (K : PySem.W.Frag) (c : Cs) (E : XK) : TS :=
 (tSeq (tFor (iRng2 (tCons (tVar 1) (tCons (tVar 2) tNil))) (gName 5) (tSeq (tIfS (tAnd (tTest (tOp rEq (tOp (rI (fun _ j => 0 < j) fun i j => .int (i % j)) (tOp (rI0 fun i j => .int (i - j)) (tVar 5) (tVar 3)) (tC (.int 2))) (tC (.int 0)))) (tB (tCall (sp_l_wraps K c) [] E (tCons (tVar 0) (tCons (tVar 5) (tCons (tVar 4) tNil)))))) (tSeq (tRet (tC (.bl true)))
 tNext) tNext)
 tNext))
 (tSeq (tRet (tC (.bl false)))
 tNext))

def t_l_free (K : PySem.W.Frag) (c : Cs) (E : XK) : TS :=
 (tSeq (tAsg (tOp (rI0 fun i j => .int (i - j)) (tCB (rLenS K) (tCons (tVar 0) tNil)) (tC (.int 1))) (gName 2))
 (tSeq (tAsg (tC (.int 0)) (gName 3))
 (tSeq (tFor (iList K (tOp rCat (tCB (rSortedI K) (tCons (tVar 1) tNil)) (tLst (tCons (tVar 2) tNil)))) (gName 4) (tSeq (tIfS (tAnd (tTest (tOp (rI0 fun i j => .bl (decide (j < i))) (tVar 3) (tC (.int 0)))) (tAnd (tTest (tOp (rI0 fun i j => .bl (decide (i < j))) (tVar 4) (tVar 2))) (tTest (tOp rEq (tOp (rI (fun _ j => 0 < j) fun i j => .int (i % j)) (tOp (rI0 fun i j => .int (i - j)) (tVar 4) (tVar 3)) (tC (.int 2))) (tC (.int 1)))))) (tSeq (tRet (tC (.bl false)))
 tNext) tNext)
 (tSeq (tIfS (tAnd (tTest (tOp (rI0 fun i j => .bl (decide (j < i))) (tVar 3) (tC (.int 0)))) (tB (tCall (sp_l_held K c) [] E (tCons (tVar 0) (tCons (tVar 3) (tCons (tVar 4) (tCons (tOp (rI0 fun i j => .int (i - j)) (tVar 3) (tC (.int 1))) (tCons (tVar 3) tNil)))))))) (tSeq (tRet (tC (.bl false)))
 tNext) tNext)
 (tSeq (tIfS (tAnd (tTest (tOp (rI0 fun i j => .bl (decide (i < j))) (tVar 4) (tVar 2))) (tB (tCall (sp_l_held K c) [] E (tCons (tVar 0) (tCons (tVar 3) (tCons (tVar 4) (tCons (tVar 4) (tCons (tVar 4) tNil)))))))) (tSeq (tRet (tC (.bl false)))
 tNext) tNext)
 (tSeq (tAsg (tOp (rI0 fun i j => .int (i + j)) (tVar 4) (tC (.int 1))) (gName 3))
 tNext)))))
 (tSeq (tRet (tC (.bl true)))
 tNext))))

def t_l_grown (K : PySem.W.Frag) (c : Cs) (E : XK) : TS :=
 (tSeq (tAsg (tOp (rI0 fun i j => .int (i - j)) (tCB (rLenS K) (tCons (tVar 0) tNil)) (tC (.int 1))) (gName 3))
 (tSeq (tAsg (tLst tNil) (gName 4))
 (tSeq (tFor (iRng1 (tCons (tC (.int 12)) tNil)) (gName 5) (tSeq (tAsg (tCall (sp_l_number K c) [] E (tCons (tVar 1) (tCons (tOp (rI0 fun i j => .int (i + j)) (tVar 2) (tVar 5)) tNil))) (gName 6))
 (tSeq (tAsg (tLst (tCons (tOp (rI (fun _ j => 0 < j) fun i j => .int (i % j)) (tOp (rI CDiv fun i j => .int (i / j)) (tVar 6) (tC (.int 3))) (tVar 3)) tNil)) (gName 7))
 (tCut (tIfS (tTest (tOp rEq (tOp (rI (fun _ j => 0 < j) fun i j => .int (i % j)) (tVar 6) (tC (.int 3))) (tC (.int 0)))) (tSeq (tDrop (tBM K "list" rAppend (tVar 7) (tCons (tOp (rI (fun _ j => 0 < j) fun i j => .int (i % j)) (tOp (rI CDiv fun i j => .int (i / j)) (tOp (rI (fun _ j => 0 < j) fun i j => .int (i % j)) (tOp (rI CMul fun i j => .int (i * j)) (tVar 6) (tC (.int 16807))) (tC (.int 2147483587))) (tC (.int 5))) (tVar 3)) tNil)))
 tNext) tNext)
 (tSeq (tAsg (tLc (iList K (tVar 7)) (gName 9) (tTest (tOp (rIn K false) (tVar 9) (tVar 4))) (tVar 9) [9]) (gName 8))
 (tSeq (tIfS (tAnd (tTest (tOp (rEqD K) (tVar 8) (tLst tNil))) (tAnd (tTest (tOp rEq (tLenSet K (tVar 7)) (tCB (rLenS K) (tCons (tVar 7) tNil)))) (tB (tCall (sp_l_free K c) [] E (tCons (tVar 0) (tCons (tOp rCat (tVar 4) (tVar 7)) tNil)))))) (tSeq (tAsg (tOp rCat (tVar 4) (tVar 7)) (gName 4))
 tNext) tNext)
 tNext))))))
 (tSeq (tRet (tVar 4))
 tNext))))

def t_l_asked (K : PySem.W.Frag) (c : Cs) (E : XK) : TS :=
 (tSeq (tAsg (tCB (rListS K) (tCons (tVar 0) tNil)) (gName 4))
 (tSeq (tAsg (tCB (rSortedI K) (tCons (tVar 2) tNil)) (gName 5))
 (tCut (tIfS (tTest (tOp rEq (tOp (rI (fun _ j => 0 < j) fun i j => .int (i % j)) (tVar 3) (tC (.int 3))) (tC (.int 1)))) (tSeq (tAsg (tListRev K (tVar 5)) (gName 5))
 tNext) tNext)
 (tCut (tIfS (tTest (tOp rEq (tOp (rI (fun _ j => 0 < j) fun i j => .int (i % j)) (tVar 3) (tC (.int 3))) (tC (.int 2)))) (tSeq (tAsg (tOp rCat (tStep K 2 (tVar 5) (tPart (tC (.int 1)))) (tStep K 2 (tVar 5) tNoPart)) (gName 5))
 tNext) tNext)
 (tSeq (tAsg (tCB (rListS K) (tCons (tVar 5) tNil)) (gName 6))
 (tCut (tIfS (tTest (tOp rEq (tOp (rI CDiv fun i j => .int (i / j)) (tVar 3) (tC (.int 3))) (tC (.int 1)))) (tSeq (tAsg (tCall (sp_free K c) [] E (tCons (tVar 4) (tCons (tCB (rTupS K) (tCons (tVar 5) tNil)) tNil))) (gName 7))
 tNext) (tSeq (tAsg (tCall (sp_free K c) [] E (tCons (tVar 4) (tCons (tVar 5) tNil))) (gName 7))
 tNext))
 (tSeq (tIfS (tOr (tTest (tOp (rNeD K) (tVar 4) (tVar 0))) (tTest (tOp (rNeD K) (tVar 5) (tVar 6)))) (tSeq (tRet (tC (.bl false)))
 tNext) tNext)
 (tSeq (tRet (tAndV (tCB (rIsi K) (tCons (tVar 7) (tCons (tC (.ty "bool")) tNil))) (tOp rEq (tVar 7) (tCall (sp_l_free K c) [] E (tCons (tVar 1) (tCons (tVar 2) tNil))))))
 tNext))))))))

def t_law_k05 (K : PySem.W.Frag) (c : Cs) (E : XK) : TS :=
 (tSeq (tAsg (tCall (sp_l_size K c) [] E (tCons (tCall (sp_l_drawn K c) [] E (tCons (tVar 0) (tCons (tC (.int 0)) tNil))) tNil)) (gName 1))
 (tSeq (tAsg (tCall (sp_l_good K c) [] E (tCons (tVar 0) (tCons (tC (.int 2)) (tCons (tVar 1) tNil)))) (gName 2))
 (tSeq (tAsg (tCall (sp_l_places K c) [] E (tCons (tVar 2) tNil)) (gName 3))
 (tSeq (tAsg (tOp (rI (fun _ j => 0 < j) fun i j => .int (i % j)) (tCall (sp_l_drawn K c) [] E (tCons (tVar 0) (tCons (tC (.int 1)) tNil))) (tC (.int 6))) (gName 4))
 (tSeq (tIfS (tTest (tOp rEq (tVar 1) (tC (.int 1)))) (tSeq (tRet (tCall (sp_l_asked K c) [] E (tCons (tVar 2) (tCons (tVar 3) (tCons (tLst tNil) (tCons (tVar 4) tNil))))))
 tNext) tNext)
 (tSeq (tAsg (tOp (rI0 fun i j => .int (i + j)) (tC (.int 1)) (tOp (rI (fun _ j => 0 < j) fun i j => .int (i % j)) (tOp (rI CDiv fun i j => .int (i / j)) (tCall (sp_l_drawn K c) [] E (tCons (tVar 0) (tCons (tC (.int 1)) tNil))) (tC (.int 6))) (tC (.int 4)))) (gName 5))
 (tSeq (tAsg (tLc (iRng1 (tCons (tOp (rI0 fun i j => .int (i - j)) (tVar 1) (tC (.int 1))) tNil)) (gName 9) (tTest (tOp rEq (tOp (rI (fun _ j => 0 < j) fun i j => .int (i % j)) (tOp (rI CDiv fun i j => .int (i / j)) (tCall (sp_l_number K c) [] E0 (tCons (tVar 0) (tCons (tOp (rI0 fun i j => .int (i + j)) (tOp (rI0 fun i j => .int (i + j)) (tVar 1) (tC (.int 2))) (tVar 9)) tNil))) (tC (.int 7))) (tVar 5)) (tC (.int 0)))) (tVar 9) [9]) (gName 6))
 (tSeq (tIfS (tNot (tB (tCall (sp_l_asked K c) [] E (tCons (tVar 2) (tCons (tVar 3) (tCons (tVar 6) (tCons (tVar 4) tNil))))))) (tSeq (tRet (tC (.bl false)))
 tNext) tNext)
 (tSeq (tAsg (tCall (sp_l_grown K c) [] E (tCons (tVar 3) (tCons (tVar 0) (tCons (tOp (rI0 fun i j => .int (i + j)) (tVar 1) (tC (.int 2))) tNil)))) (gName 7))
 (tSeq (tIfS (tNot (tB (tCall (sp_l_asked K c) [] E (tCons (tVar 2) (tCons (tVar 3) (tCons (tVar 7) (tCons (tVar 4) tNil))))))) (tSeq (tRet (tC (.bl false)))
 tNext) tNext)
 (tSeq (tAsg (tOp (rI (fun _ j => 0 < j) fun i j => .int (i % j)) (tOp (rI CDiv fun i j => .int (i / j)) (tCall (sp_l_number K c) [] E (tCons (tVar 0) (tCons (tOp (rI0 fun i j => .int (i + j)) (tVar 1) (tC (.int 14))) tNil))) (tC (.int 11))) (tOp (rI0 fun i j => .int (i - j)) (tVar 1) (tC (.int 1)))) (gName 8))
 (tSeq (tIfS (tTest (tOp (rIn K false) (tVar 8) (tVar 7))) (tSeq (tRet (tCall (sp_l_asked K c) [] E (tCons (tVar 2) (tCons (tVar 3) (tCons (tLc (iList K (tVar 7)) (gName 10) (tTest (tOp rNe (tVar 10) (tVar 8))) (tVar 10) [10]) (tCons (tVar 4) tNil))))))
 tNext) tNext)
 (tSeq (tRet (tCall (sp_l_asked K c) [] E (tCons (tVar 2) (tCons (tVar 3) (tCons (tOp rCat (tVar 7) (tLst (tCons (tVar 8) tNil))) (tCons (tVar 4) tNil))))))
 tNext)))))))))))))

def t_with_next (K : PySem.W.Frag) (c : Cs) (E : XK) : TS :=
 (tSeq (tAsg (tCB (rLenS K) (tCons (tVar 0) tNil)) (gName 1))
 (tSeq (tAsg (tLst tNil) (gName 2))
 (tSeq (tFor (iRng1 (tCons (tOp (rI0 fun i j => .int (i + j)) (tVar 1) (tC (.int 1))) tNil)) (gName 3) (tSeq (tAsg (tOp rCat (tOp rCat (tSl (rSlL K) (tVar 0) tNoPart (tPart (tVar 3))) (tLst (tCons (tVar 1) tNil))) (tSl (rSlL K) (tVar 0) (tPart (tVar 3)) tNoPart)) (gName 4))
 (tSeq (tIfS (tTest (tOp rIsN (tCall (sp_crossing K c) [] E (tCons (tVar 4) tNil)) (tC .non))) (tSeq (tDrop (tBM K "list" rAppend (tVar 2) (tCons (tVar 4) tNil)))
 tNext) tNext)
 tNext)))
 (tSeq (tRet (tVar 2))
 tNext))))

def t_piles (K : PySem.W.Frag) (c : Cs) (E : XK) : TS :=
 (tSeq (tIfS (tOr (tTest (tOp (rI0 fun i j => .bl (decide (i < j))) (tVar 0) (tC (.int 1)))) (tTest (tOp (rI0 fun i j => .bl (decide (j < i))) (tVar 0) (tC (.int 7))))) (tSeq (tRaise E (.ref c.nn))
 tNext) tNext)
 (tSeq (tAsg (tLst (tCons (tLst (tCons (tC (.int 0)) tNil)) tNil)) (gName 1))
 (tSeq (tFor (iRng1 (tCons (tOp (rI0 fun i j => .int (i - j)) (tVar 0) (tC (.int 1))) tNil)) (gName 2) (tSeq (tAsg (tLst tNil) (gName 3))
 (tSeq (tFor (iList K (tVar 1)) (gName 4) (tSeq (tDrop (tBM K "list" rExtend (tVar 3) (tCons (tCall (sp_with_next K c) [] E (tCons (tVar 4) tNil)) tNil)))
 tNext))
 (tSeq (tAsg (tVar 3) (gName 1))
 tNext))))
 (tSeq (tRet (tVar 1))
 tNext))))

def t_piles_with (K : PySem.W.Frag) (c : Cs) (E : XK) : TS :=
 (tSeq (tDrop (tCall (sp_look_at K c) [] E (tCons (tVar 0) tNil)))
 (tSeq (tRet (tLc (iList K (tCall (sp_piles K c) [] E (tCons (tOp (rI0 fun i j => .int (i + j)) (tCB rLenT (tCons (tVar 0) tNil)) (tC (.int 1))) tNil))) (gName 1) (tTest (tOp rEq (tCall (sp_letters K c) [] E0 (tCons (tVar 1) tNil)) (tVar 0))) (tVar 1) [1]))
 tNext))

def t_l_letters (K : PySem.W.Frag) (c : Cs) (E : XK) : TS :=
 (tSeq (tAsg (tLst tNil) (gName 1))
 (tSeq (tFor (iRng1 (tCons (tOp (rI0 fun i j => .int (i - j)) (tCB (rLenS K) (tCons (tVar 0) tNil)) (tC (.int 1))) tNil)) (gName 2) (tSeq (tAsg (tOp rEq (tOp (rI0 fun i j => .bl (decide (j < i))) (tOp (rIxL K) (tVar 0) (tOp (rI0 fun i j => .int (i + j)) (tVar 2) (tC (.int 1)))) (tOp (rIxL K) (tVar 0) (tVar 2))) (tOp rEq (tOp (rI (fun _ j => 0 < j) fun i j => .int (i % j)) (tVar 2) (tC (.int 2))) (tC (.int 0)))) (gName 3))
 (tSeq (tDrop (tBM K "list" rAppend (tVar 1) (tCons (tOp (rIxL K) (tLst (tCons (tC (.str "M")) (tCons (tC (.str "V")) tNil))) (tCB rInt1 (tCons (tVar 3) tNil))) tNil)))
 tNext)))
 (tSeq (tRet (tBM K "str" (rJoin K) (tC (.str "")) (tCons (tVar 1) tNil)))
 tNext)))

def t_l_all_good (K : PySem.W.Frag) (c : Cs) (E : XK) : TS :=
 (tSeq (tIfS (tNot (tB (tCB (rIsi K) (tCons (tVar 0) (tCons (tC (.ty "list")) tNil))))) (tSeq (tRet (tC (.bl false)))
 tNext) tNext)
 (tSeq (tAsg tDNewT (gName 2))
 (tSeq (tFor (iList K (tVar 0)) (gName 3) (tSeq (tIfS (tOr (tNot (tB (tCall (sp_l_is_pile K c) [] E (tCons (tVar 3) (tCons (tVar 1) tNil))))) (tOr (tB (tDIn (tCB (rTupS K) (tCons (tVar 3) tNil)) (tVar 2))) (tNot (tB (tCall (sp_l_none_cross K c) [] E (tCons (tCall (sp_l_places K c) [] E (tCons (tVar 3) tNil)) tNil)))))) (tSeq (tRet (tC (.bl false)))
 tNext) tNext)
 (tSeq (sDPut (tVar 2) (tCB (rTupS K) (tCons (tVar 3) tNil)) (tC (.bl true)))
 tNext)))
 (tSeq (tRet (tC (.bl true)))
 tNext))))

def t_law_k08 (K : PySem.W.Frag) (c : Cs) (E : XK) : TS :=
 (tSeq (tAsg (tOp (rIxL K) (tLst (tCons (tC (.int 1)) (tCons (tC (.int 2)) (tCons (tC (.int 3)) (tCons (tC (.int 4)) (tCons (tC (.int 5)) (tCons (tC (.int 3)) (tCons (tC (.int 4)) (tCons (tC (.int 5)) (tCons (tC (.int 4)) (tCons (tC (.int 5)) (tCons (tC (.int 2)) (tCons (tC (.int 3)) (tCons (tC (.int 6)) (tCons (tC (.int 4)) (tCons (tC (.int 6)) (tCons (tC (.int 7)) tNil))))))))))))))))) (tOp (rI (fun _ j => 0 < j) fun i j => .int (i % j)) (tCall (sp_l_drawn K c) [] E (tCons (tVar 0) (tCons (tC (.int 0)) tNil))) (tC (.int 16)))) (gName 1))
 (tSeq (tAsg (tCall (sp_l_pile K c) [] E (tCons (tVar 0) (tCons (tC (.int 2)) (tCons (tVar 1) tNil)))) (gName 2))
 (tSeq (tAsg (tCall (sp_l_good K c) [] E (tCons (tVar 0) (tCons (tOp (rI0 fun i j => .int (i + j)) (tC (.int 2)) (tVar 1)) (tCons (tVar 1) tNil)))) (gName 3))
 (tSeq (tAsg (tOp (rI (fun _ j => 0 < j) fun i j => .int (i % j)) (tCall (sp_l_drawn K c) [] E (tCons (tVar 0) (tCons (tC (.int 1)) tNil))) (tC (.int 4))) (gName 4))
 (tCut (tIfS (tOr (tTest (tOp (rI0 fun i j => .bl (decide (i < j))) (tVar 1) (tC (.int 7)))) (tTest (tOp (rI0 fun i j => .bl (decide (i < j))) (tVar 4) (tC (.int 2))))) (tSeq (tAsg (tCall (sp_piles K c) [] E (tCons (tVar 1) tNil)) (gName 5))
 (tSeq (tIfS (tOr (tNot (tB (tCall (sp_l_all_good K c) [] E (tCons (tVar 5) (tCons (tVar 1) tNil))))) (tTest (tOp (rNotInD K) (tVar 3) (tVar 5)))) (tSeq (tRet (tC (.bl false)))
 tNext) tNext)
 (tSeq (tIfS (tTest (tOp rNe (tOp (rInD K) (tVar 2) (tVar 5)) (tCall (sp_l_none_cross K c) [] E (tCons (tCall (sp_l_places K c) [] E (tCons (tVar 2) tNil)) tNil)))) (tSeq (tRet (tC (.bl false)))
 tNext) tNext)
 (tSeq (tIfS (tTest (tOp rEq (tVar 1) (tC (.int 7)))) (tSeq (tRet (tC (.bl true)))
 tNext) tNext)
 tNext)))) tNext)
 (tSeq (tAsg (tCall (sp_l_letters K c) [] E (tCons (tCall (sp_l_places K c) [] E (tCons (tVar 3) tNil)) tNil)) (gName 6))
 (tCut (tIfS (tTest (tOp rEq (tOp (rI (fun _ j => 0 < j) fun i j => .int (i % j)) (tVar 4) (tC (.int 2))) (tC (.int 1)))) (tSeq (tAsg (tBM K "str" (rJoin K) (tC (.str "")) (tCons (tLc (iRng1 (tCons (tOp (rI0 fun i j => .int (i - j)) (tVar 1) (tC (.int 1))) tNil)) (gName 10) tYes (tOp (rIxL K) (tLst (tCons (tC (.str "V")) (tCons (tC (.str "M")) tNil))) (tOp (rI (fun _ j => 0 < j) fun i j => .int (i % j)) (tOp (rI CDiv fun i j => .int (i / j)) (tCall (sp_l_drawn K c) [] E0 (tCons (tVar 0) (tCons (tC (.int 1)) tNil))) (tOp (rI0 fun i j => .int (i + j)) (tOp (rI CMul fun i j => .int (i * j)) (tVar 10) (tVar 10)) (tC (.int 4)))) (tC (.int 2)))) [10]) tNil)) (gName 6))
 tNext) tNext)
 (tSeq (tAsg (tCall (sp_piles_with K c) [] E (tCons (tVar 6) tNil)) (gName 7))
 (tSeq (tIfS (tOr (tNot (tB (tCall (sp_l_all_good K c) [] E (tCons (tVar 7) (tCons (tVar 1) tNil))))) (tTest (tOp (rEqD K) (tVar 7) (tLst tNil)))) (tSeq (tRet (tC (.bl false)))
 tNext) tNext)
 (tSeq (tIfS (tTest (tOp (rNeD K) (tLc (iList K (tVar 7)) (gName 8) (tTest (tOp rNe (tCall (sp_l_letters K c) [] E0 (tCons (tCall (sp_l_places K c) [] E0 (tCons (tVar 8) tNil)) tNil)) (tVar 6))) (tVar 8) [8]) (tLst tNil))) (tSeq (tRet (tC (.bl false)))
 tNext) tNext)
 (tSeq (tFor (iList K (tLst (tCons (tVar 2) (tCons (tVar 3) tNil)))) (gName 8) (tSeq (tAsg (tCall (sp_l_places K c) [] E (tCons (tVar 8) tNil)) (gName 9))
 (tSeq (tIfS (tTest (tOp rNe (tOp (rInD K) (tVar 8) (tVar 7)) (tAndV (tCall (sp_l_none_cross K c) [] E (tCons (tVar 9) tNil)) (tOp rEq (tCall (sp_l_letters K c) [] E (tCons (tVar 9) tNil)) (tVar 6))))) (tSeq (tRet (tC (.bl false)))
 tNext) tNext)
 tNext)))
 (tSeq (tRet (tC (.bl true)))
 tNext))))))))))))
end Fo
/-! FoldR1 -/
namespace Fo
open PySem L2 Evl
local macro_rules | `(tactic| walk_at "hl") => `(tactic| first
  | assumption
  | exact upd_same
  | (refine (by assumption : Ex _ _) _ _ ?_; walk_at "hl"))
local macro_rules | `(tactic| walk_at "sq") => `(tactic| first
  | assumption
  | (refine sq_lst ?_; walk_at "hl")
  | (refine ex_l (by assumption) ?_; walk_at "sq"))
local macro_rules | `(tactic| walk_at "st") => `(tactic| first
  | assumption
  | (refine st_of ?_; walk_at "hl")
  | (refine ex_t (by assumption) ?_; walk_at "st"))
local macro_rules | `(tactic| walk_at "sq2") => `(tactic| first
  | assumption
  | (refine Or.inl ?_; walk_at "sq")
  | (refine Or.inr ?_; walk_at "st")
  | (refine Sq2.mono (by assumption) ?_; walk_at "sq2"))
local macro_rules | `(tactic| walk_at "ar") => `(tactic| first
  | assumption
  | omega
  | decide)
local macro_rules | `(tactic| walk_at "lar") => `(tactic| first
  | omega
  | (simp only [List.length_append, List.length_map, List.length_take, List.length_drop, List.length_cons, List.length_nil, List.length_replicate]; omega))
local macro_rules | `(tactic| walk_at "hb") => `(tactic| first
  | skip)
local macro_rules | `(tactic| walk_at "mul") => `(tactic| first
  | (exact Or.inr ⟨by decide, by decide⟩)
  | (exact Or.inl ⟨by decide, by decide⟩)
  | (exact Or.inl ⟨by omega, by omega⟩)
  | (exact Or.inr ⟨by omega, by omega⟩))
local macro_rules | `(tactic| walk_at "div") => `(tactic| first
  | (exact ⟨by decide, by decide⟩)
  | (exact ⟨by omega, by omega⟩))
local macro_rules | `(tactic| walk_at "ea") => `(tactic| first
  | exact ea_nil
  | ((with_reducible refine' ea_cons ?k0 ?k1); (case k0 => walk_at "ev"); (case k1 => walk_at "ea")))
local macro_rules | `(tactic| walk_at "eo") => `(tactic| first
  | exact eo_none
  | ((with_reducible refine' eo_some ?k0); (case k0 => walk_at "ev")))
local macro_rules | `(tactic| walk_at "el") => `(tactic| first
  | ((with_reducible refine' el_lst ?k0 ?k1); (case k0 => walk_at "ea"); (case k1 => (exact Nat.le_of_ble_eq_true rfl)))
  | ((with_reducible refine' el_from ?k0 ?k1 ?k2 ?k3 ?k4); (case k0 => walk_at "ev"); (case k1 => walk_at "eo"); (case k2 => walk_at "sq"); (case k3 => walk_at "ar"); (case k4 => walk_at "lar"))
  | ((with_reducible refine' el_upto ?k0 ?k1 ?k2 ?k3 ?k4); (case k0 => walk_at "ev"); (case k1 => walk_at "eo"); (case k2 => walk_at "sq"); (case k3 => walk_at "ar"); (case k4 => walk_at "lar"))
  | ((with_reducible refine' el_rep1 ?k0 ?k1 ?k2 ?k3); (case k0 => walk_at "el"); (case k1 => walk_at "ev"); (case k2 => walk_at "ar"); (case k3 => walk_at "ar"))
  | ((with_reducible refine' el_cat ?k0 ?k1 ?k2); (case k0 => walk_at "el"); (case k1 => walk_at "el"); (case k2 => walk_at "lar"))
  | ((with_reducible refine' el_callD ?k0 ?k1); (case k0 => walk_at "ea"); (case k1 => walk_at "sp"))
  | ((with_reducible refine' el_list ?k0 ?k1); (case k0 => walk_at "ev"); (case k1 => walk_at "sq"))
  | ((with_reducible refine' el_srt ?k0 ?k1); (case k0 => walk_at "ev"); (case k1 => walk_at "sq"))
  | ((with_reducible refine' el_sortedQ ?k0 ?k1); (case k0 => walk_at "ev"); (case k1 => walk_at "sq2"))
  | ((with_reducible refine' el_rev ?k0 ?k1); (case k0 => walk_at "ev"); (case k1 => walk_at "sq"))
  | ((with_reducible refine' el_step ?k0 ?k1 ?k2); (case k0 => walk_at "ev"); (case k1 => walk_at "eo"); (case k2 => walk_at "sq")))
local macro_rules | `(tactic| walk_at "et") => `(tactic| first
  | ((with_reducible refine' et_test ?k0); (case k0 => walk_at "ev"))
  | ((with_reducible refine' et_B ?k0); (case k0 => walk_at "ev"))
  | ((with_reducible refine' et_not ?k0); (case k0 => walk_at "et"))
  | ((with_reducible refine' et_and ?k0 (fun hb => ?k1)); (case k0 => walk_at "et"); (case k1 => (walk_at "hb"; walk_at "et")))
  | ((with_reducible refine' et_or ?k0 (fun hb => ?k1)); (case k0 => walk_at "et"); (case k1 => (walk_at "hb"; walk_at "et"))))
local macro_rules | `(tactic| walk_at "ev") => `(tactic| first
  | ((with_reducible refine' ev_var ?k0); (case k0 => rfl))
  | exact ev_c
  | ((with_reducible refine' ev_add ?k0 ?k1); (case k0 => walk_at "ev"); (case k1 => walk_at "ev"))
  | ((with_reducible refine' ev_sub ?k0 ?k1); (case k0 => walk_at "ev"); (case k1 => walk_at "ev"))
  | ((with_reducible refine' ev_ixI ?k0 ?k1 ?k2 ?k3 ?k4); (case k0 => walk_at "ev"); (case k1 => walk_at "ev"); (case k2 => walk_at "sq"); (case k3 => walk_at "ar"); (case k4 => walk_at "ar"))
  | ((with_reducible refine' ev_ixT ?k0 ?k1 ?k2 ?k3); (case k0 => walk_at "ev"); (case k1 => walk_at "ev"); (case k2 => walk_at "st"); (case k3 => rfl))
  | ((with_reducible refine' ev_lt ?k0 ?k1); (case k0 => walk_at "ev"); (case k1 => walk_at "ev"))
  | ((with_reducible refine' ev_gt ?k0 ?k1); (case k0 => walk_at "ev"); (case k1 => walk_at "ev"))
  | ((with_reducible refine' ev_le ?k0 ?k1); (case k0 => walk_at "ev"); (case k1 => walk_at "ev"))
  | ((with_reducible refine' ev_ge ?k0 ?k1); (case k0 => walk_at "ev"); (case k1 => walk_at "ev"))
  | ((with_reducible refine' ev_eqI ?k0 ?k1); (case k0 => walk_at "ev"); (case k1 => walk_at "ev"))
  | ((with_reducible refine' ev_neI ?k0 ?k1); (case k0 => walk_at "ev"); (case k1 => walk_at "ev"))
  | ((with_reducible refine' ev_eqB ?k0 ?k1); (case k0 => walk_at "ev"); (case k1 => walk_at "ev"))
  | ((with_reducible refine' ev_neB ?k0 ?k1); (case k0 => walk_at "ev"); (case k1 => walk_at "ev"))
  | ((with_reducible refine' ev_eqS ?k0 ?k1); (case k0 => walk_at "ev"); (case k1 => walk_at "ev"))
  | ((with_reducible refine' ev_neS ?k0 ?k1); (case k0 => walk_at "ev"); (case k1 => walk_at "ev"))
  | ((with_reducible refine' ev_mod ?k0 ?k1 ?k2); (case k0 => walk_at "ev"); (case k1 => walk_at "ev"); (case k2 => walk_at "ar"))
  | ((with_reducible refine' ev_mul ?k0 ?k1 ?k2); (case k0 => walk_at "ev"); (case k1 => walk_at "ev"); (case k2 => walk_at "mul"))
  | ((with_reducible refine' ev_div ?k0 ?k1 ?k2); (case k0 => walk_at "ev"); (case k1 => walk_at "ev"); (case k2 => walk_at "div"))
  | ((with_reducible refine' ev_neg ?k0); (case k0 => walk_at "ev"))
  | ((with_reducible refine' ev_callD ?k0 ?k1); (case k0 => walk_at "ea"); (case k1 => walk_at "sp"))
  | ((with_reducible refine' ev_lenI ?k0 ?k1); (case k0 => walk_at "ev"); (case k1 => walk_at "sq"))
  | ((with_reducible refine' ev_lenQ ?k0 ?k1); (case k0 => walk_at "ev"); (case k1 => walk_at "sq2"))
  | ((with_reducible refine' ev_lenSet ?k0 ?k1 ?k2); (case k0 => walk_at "ev"); (case k1 => walk_at "sq2"); (case k2 => walk_at "ar"))
  | ((with_reducible refine' ev_inI ?k0 ?k1 ?k2); (case k0 => walk_at "ev"); (case k1 => walk_at "ev"); (case k2 => walk_at "sq2"))
  | ((with_reducible refine' ev_notInI ?k0 ?k1 ?k2); (case k0 => walk_at "ev"); (case k1 => walk_at "ev"); (case k2 => walk_at "sq2"))
  | ((with_reducible refine' ev_lenTxt ?k0 ?k1); (case k0 => walk_at "ev"); (case k1 => walk_at "ar"))
  | ((with_reducible refine' ev_lenS ?k0 ?k1); (case k0 => walk_at "ev"); (case k1 => walk_at "ar"))
  | ((with_reducible refine' ev_ixTxt ?k0 ?k1 ?k2 ?k3 ?k4); (case k0 => walk_at "ev"); (case k1 => walk_at "ev"); (case k2 => walk_at "ar"); (case k3 => walk_at "ar"); (case k4 => walk_at "ar"))
  | ((with_reducible refine' ev_ix2 ?k0); (case k0 => walk_at "ev"))
  | ((with_reducible refine' ev_isiI ?k0); (case k0 => walk_at "ev"))
  | ((with_reducible refine' ev_isiL ?k0 ?k1); (case k0 => walk_at "ev"); (case k1 => walk_at "hl"))
  | ((with_reducible refine' ev_isiU ?k0 ?k1); (case k0 => walk_at "ev"); (case k1 => walk_at "hl"))
  | ((with_reducible refine' ev_isiS ?k0); (case k0 => walk_at "ev"))
  | ((with_reducible refine' ev_isiB ?k0); (case k0 => walk_at "ev"))
  | ((with_reducible refine' ev_isN ?k0); (case k0 => walk_at "ev"))
  | ((with_reducible refine' ev_notN ?k0); (case k0 => walk_at "ev"))
  | ((with_reducible refine' ev_notIB ?k0 ?k1); (case k0 => walk_at "ev"); (case k1 => walk_at "ev"))
  | ((with_reducible refine' ev_neNil ?k0 ?k1); (case k0 => walk_at "ev"); (case k1 => walk_at "sq"))
  | ((with_reducible refine' ev_eqNil ?k0 ?k1); (case k0 => walk_at "ev"); (case k1 => walk_at "sq"))
  | ((with_reducible refine' ev_eqL ?k0 ?k1 ?k2 ?k3); (case k0 => walk_at "ev"); (case k1 => walk_at "ev"); (case k2 => walk_at "sq"); (case k3 => walk_at "sq"))
  | ((with_reducible refine' ev_neL ?k0 ?k1 ?k2 ?k3); (case k0 => walk_at "ev"); (case k1 => walk_at "ev"); (case k2 => walk_at "sq"); (case k3 => walk_at "sq"))
  | ((with_reducible refine' ev_min2 ?k0 ?k1); (case k0 => walk_at "ev"); (case k1 => walk_at "ev"))
  | ((with_reducible refine' ev_max2 ?k0 ?k1); (case k0 => walk_at "ev"); (case k1 => walk_at "ev"))
  | ((with_reducible refine' ev_intB ?k0); (case k0 => walk_at "ev"))
  | ((with_reducible refine' ev_andV ?k0 (fun hb => ?k1)); (case k0 => walk_at "ev"); (case k1 => (walk_at "hb"; walk_at "ev")))
  | ((with_reducible refine' ev_orV ?k0 (fun hb => ?k1)); (case k0 => walk_at "ev"); (case k1 => (walk_at "hb"; walk_at "ev")))
  | ((with_reducible refine' ev_notV ?k0); (case k0 => walk_at "ev"))
  | ((with_reducible refine' ev_ifI ?k0 (fun hb => ?k1) (fun hb => ?k2)); (case k0 => walk_at "et"); (case k1 => (walk_at "hb"; walk_at "ev")); (case k2 => (walk_at "hb"; walk_at "ev")))
  | ((with_reducible refine' ev_ifS ?k0 (fun hb => ?k1) (fun hb => ?k2)); (case k0 => walk_at "et"); (case k1 => (walk_at "hb"; walk_at "ev")); (case k2 => (walk_at "hb"; walk_at "ev"))))
local macro_rules | `(tactic| walk_at "hb") => `(tactic| (try simp only [decide_eq_true_eq, decide_eq_false_iff_not, Bool.and_eq_true, Bool.or_eq_true, Bool.or_eq_false_iff, Bool.not_eq_true', Bool.not_eq_false', beq_iff_eq] at *))
local macro_rules | `(tactic| walk_at "sp") => `(tactic| first
  | (refine' v_number ?k0 ?k1 ?k2; (case k0 => walk_at "sq"); (case k1 => walk_at "ar"); (case k2 => walk_at "ar"))
  | (refine' v_drawn ?k0 ?k1; (case k0 => walk_at "sq"); (case k1 => walk_at "ar"))
  | exact v_size
  | exact v_counts
  | (refine' v_wraps ?k0 ?k1 ?k2 ?k3 ?k4; (case k0 => walk_at "sq"); (case k1 => walk_at "ar"); (case k2 => walk_at "ar"); (case k3 => walk_at "ar"); (case k4 => walk_at "ar"))
  | (refine' v_l_wraps ?k0 ?k1 ?k2 ?k3 ?k4; (case k0 => walk_at "sq"); (case k1 => walk_at "ar"); (case k2 => walk_at "ar"); (case k3 => walk_at "ar"); (case k4 => walk_at "ar"))
  | (refine' v_cross ?k0 ?k1 ?k2 ?k3 ?k4; (case k0 => walk_at "sq"); (case k1 => walk_at "ar"); (case k2 => walk_at "ar"); (case k3 => walk_at "ar"); (case k4 => walk_at "ar"))
  | (refine' v_places ?k0 ?k1 ?k2; (case k0 => walk_at "sq"); (case k1 => walk_at "ar"); (case k2 => assumption))
  | (refine' v_letters ?k0 ?k1 ?k2; (case k0 => walk_at "sq"); (case k1 => walk_at "ar"); (case k2 => assumption))
  | (refine' v_l_places ?k0 ?k1 ?k2; (case k0 => walk_at "sq"); (case k1 => walk_at "ar"); (case k2 => assumption))
  | (refine' v_fits ?k0 ?k1 ?k2 ?k3; (case k0 => walk_at "sq"); (case k1 => walk_at "ar"); (case k2 => walk_at "ar"); (case k3 => walk_at "ar"))
  | (refine' v_none ?k0 ?k1 ?k2; (case k0 => walk_at "sq"); (case k1 => walk_at "ar"); (case k2 => walk_at "ar")))
local macro_rules | `(tactic| walk_at "sp") => `(tactic| first
  | (refine' v_turned ?k0 ?k1 ?k2; (case k0 => walk_at "sq"); (case k1 => walk_at "ar"); (case k2 => assumption))
  | (refine' v_same ?k0 ?k1 ?k2; (case k0 => walk_at "hl"); (case k1 => walk_at "sq"); (case k2 => walk_at "ar"))
  | (refine' v_told ?k0 ?k1 ?k2; (case k0 => walk_at "sq"); (case k1 => walk_at "hl"); (case k2 => assumption))
  | (refine' v_parted ?k0 ?k1 ?k2 ?k3; (case k0 => walk_at "sq"); (case k1 => walk_at "ar"); (case k2 => walk_at "ar"); (case k3 => assumption)))
local macro_rules | `(tactic| walk_at "sp") => `(tactic| first
  | (refine' v_is_pile ?k0 ?k1 ?k2 ?k3; (case k0 => walk_at "hl"); (case k1 => assumption); (case k2 => walk_at "ar"); (case k3 => walk_at "ar")))
local macro_rules | `(tactic| walk_at "sp") => `(tactic| first
  | (refine' v_held ?k0 ?k1 ?k2 ?k3 ?k4 ?k5; (case k0 => walk_at "sq"); (case k1 => walk_at "st"); (case k2 => walk_at "ar"); (case k3 => (refine ⟨?_, ?_⟩ <;> walk_at "ar")); (case k4 => (refine ⟨?_, ?_⟩ <;> walk_at "ar")); (case k5 => (refine ⟨?_, ?_⟩ <;> walk_at "ar")))
  | (refine' v_l_held ?k0 ?k1 ?k2 ?k3 ?k4; (case k0 => walk_at "sq"); (case k1 => walk_at "ar"); (case k2 => (refine ⟨?_, ?_⟩ <;> walk_at "ar")); (case k3 => (refine ⟨?_, ?_⟩ <;> walk_at "ar")); (case k4 => (refine ⟨?_, ?_⟩ <;> walk_at "ar")))
  | (refine' v_lies ?k0 ?k1 ?k2 ?k3 ?k4; (case k0 => walk_at "sq"); (case k1 => walk_at "st"); (case k2 => walk_at "ar"); (case k3 => (refine ⟨?_, ?_⟩ <;> walk_at "ar")); (case k4 => (refine ⟨?_, ?_⟩ <;> walk_at "ar")))
  | (refine' v_judged ?k0 ?k1 ?k2 ?k3; (case k0 => walk_at "sq"); (case k1 => walk_at "ar"); (case k2 => assumption); (case k3 => assumption))
  | (refine' v_l_free ?k0 ?k1 ?k2 ?k3 ?k4 ?k5; (case k0 => walk_at "sq"); (case k1 => walk_at "sq"); (case k2 => walk_at "ar"); (case k3 => walk_at "ar"); (case k4 => walk_at "ar"); (case k5 => assumption))
  | (refine' v_are_free ?k0 ?k1 ?k2 ?k3 ?k4 ?k5; (case k0 => walk_at "sq"); (case k1 => walk_at "sq2"); (case k2 => walk_at "ar"); (case k3 => walk_at "ar"); (case k4 => walk_at "ar"); (case k5 => assumption)))
section
variable {K : PySem.W.Frag} {c : Cs}
local macro_rules | `(tactic| walk_at "hb") => `(tactic| (try simp only [decide_eq_true_eq, decide_eq_false_iff_not, Bool.and_eq_true, Bool.or_eq_true, Bool.or_eq_false_iff, Bool.not_eq_true', Bool.not_eq_false', beq_iff_eq] at *))

theorem read_l_drawn (vs : List V) (H : Hp) (Q : VK) (E : XK) (h : sp_l_drawn K c vs H Q E) : t_l_drawn K c E { nx := fun _ H' => Q .non H', rt := Q } (start ["_law_script", "_law_k"] vs) H := by
  obtain ⟨a, ns, k, rfl, hS, h0, q⟩ := h
  refine Go.here (g_ret (v := .int (gi ns k)) ?_ q)
  have e : gi ns k = (if decide (k < (ns.length : Int)) = true then gi ns k else 0) := by
    by_cases hk : k < (ns.length : Int)
    · rw [if_pos (decide_eq_true hk)]
    · rw [if_neg (by rw [decide_eq_false hk]; decide)]
      unfold gi
      rw [List.getD_eq_getElem?_getD, List.getElem?_eq_none (by omega)]
      rfl
  rw [e]
  walk_at "ev"

theorem read_l_number (vs : List V) (H : Hp) (Q : VK) (E : XK) (h : sp_l_number K c vs H Q E) : t_l_number K c E { nx := fun _ H' => Q .non H', rt := Q } (start ["_law_script", "_law_k", "_law_cell"] vs) H := by
  obtain ⟨a, ns, k, rfl, hS, h0, h1, q⟩ := h
  have hk : k * k * 7919 + k = k * k * 7919 + k := rfl
  refine Go.here (g_asg (v := .int (k * k * 7919 + k)) (ev_add (ev_mul (ev_mul (ev_var rfl) (ev_var rfl) (.inl ⟨by omega, by omega⟩)) ev_c (.inr ⟨by decide, by decide⟩)) (ev_var rfl)) ?_)
  refine g_if (b := decide (k < (ns.length : Int))) (by walk_at "et") (fun hb => ?_) (fun hb => ?_)
  · have hb' := of_decide_eq_true hb
    refine g_asg (v := .int (gi ns k)) (by walk_at "ev") (g_nextS ?_)
    refine g_ret (v := .int (numb ns k)) ?_ q
    unfold numb
    rw [if_pos hb']
    exact ev_mod (ev_mul (ev_var rfl) ev_c (.inr ⟨by decide, by decide⟩)) ev_c (by decide)
  · have hb' := of_decide_eq_false hb
    refine g_when (b := !decide (ns = [])) (by walk_at "et") (fun hn => ?_) (fun hn => ?_)
    · have hn' : ns ≠ [] := by simpa using hn
      have hl : 0 < ns.length := List.length_pos_iff.mpr hn'
      refine g_asg (v := .int (k * k * 7919 + k + gi ns (k % (ns.length : Int)))) ?_ (g_nextS (g_nextS ?_))
      · have m0 : 0 ≤ k % (ns.length : Int) := Int.emod_nonneg _ (by omega)
        have m1 : k % (ns.length : Int) < (ns.length : Int) := Int.emod_lt_of_pos _ (by omega)
        walk_at "ev"
      · refine g_ret (v := .int (numb ns k)) ?_ q
        unfold numb
        rw [if_neg hb', if_neg hn']
        exact ev_mod (ev_mul (ev_var rfl) ev_c (.inr ⟨by decide, by decide⟩)) ev_c (by decide)
    · have hn' : ns = [] := by simpa using hn
      refine g_nextS ?_
      refine g_ret (v := .int (numb ns k)) ?_ q
      unfold numb
      rw [if_neg hb', if_pos hn']
      exact ev_mod (ev_mul (ev_var rfl) ev_c (.inr ⟨by decide, by decide⟩)) ev_c (by decide)

theorem read_l_counts (vs : List V) (H : Hp) (Q : VK) (E : XK) (h : sp_l_counts K c vs H Q E) : t_l_counts K c E { nx := fun _ H' => Q .non H', rt := Q } (start ["_law_thing"] vs) H := by
  obtain ⟨i, rfl, q⟩ := h
  refine Go.here (g_ret (v := .bl (true && (true && true))) (ev_andV (ev_isi (tt := .type "int") (x := .int i) (ev_var rfl) (fun H1 _ => .base (.int i)) (kit_ty (by decide +kernel))) (fun _ => ev_andV (ev_notIB (ev_var rfl) ev_c) fun _ => ev_notIB (ev_var rfl) ev_c)) q)

theorem read_l_size (hc : c.sz = [6, 9, 17, 9, 17, 12, 30, 100]) (vs : List V) (H : Hp) (Q : VK) (E : XK) (h : sp_l_size K c vs H Q E) : t_l_size K c E { nx := fun _ H' => Q .non H', rt := Q } (start ["_law_cell"] vs) H := by
  obtain ⟨x, rfl, q⟩ := h
  have h0 : 0 ≤ x % 8 := Int.emod_nonneg _ (by decide)
  have h1 : x % 8 < 8 := Int.emod_lt_of_pos _ (by decide)
  have hb : 0 < gi c.sz (x % 8) := by
    rw [hc]
    have hm := gi_mem (ns := [6, 9, 17, 9, 17, 12, 30, 100]) h0 (by show x % 8 < 8; exact h1)
    simp only [List.mem_cons, List.not_mem_nil, or_false] at hm
    omega
  have hd : Ev (tOp (rIxL K) (tLst (tCons (tC (.int 6)) (tCons (tC (.int 9)) (tCons (tC (.int 17)) (tCons (tC (.int 9)) (tCons (tC (.int 17)) (tCons (tC (.int 12)) (tCons (tC (.int 30)) (tCons (tC (.int 100)) tNil))))))))) (tOp (rI (fun _ j => 0 < j) fun i j => .int (i % j)) (tVar 0) (tC (.int 8)))) (start ["_law_cell"] [.int x]) H (.int (gi c.sz (x % 8))) := by
    rw [hc]
    refine ev_ixNew (xs := [.int 6, .int 9, .int 17, .int 9, .int 17, .int 12, .int 30, .int 100]) (el_lst (by walk_at "ea") (by decide)) (ev_mod (ev_var rfl) ev_c (by decide)) (gi_at (ns := [6, 9, 17, 9, 17, 12, 30, 100]) h0 ?_)
    show x % 8 < 8
    exact h1
  exact Go.here (g_ret (v := .int (szf c.sz x)) (ev_add ev_c (ev_mod (ev_div (ev_var rfl) ev_c ⟨by decide, by decide⟩) hd hb)) q)
end
end Fo
/-! FoldR2 -/
namespace Fo
open PySem L2 Evl
local macro_rules | `(tactic| walk_at "hl") => `(tactic| first
  | assumption
  | exact upd_same
  | (refine (by assumption : Ex _ _) _ _ ?_; walk_at "hl"))
local macro_rules | `(tactic| walk_at "sq") => `(tactic| first
  | assumption
  | (refine sq_lst ?_; walk_at "hl")
  | (refine ex_l (by assumption) ?_; walk_at "sq"))
local macro_rules | `(tactic| walk_at "st") => `(tactic| first
  | assumption
  | (refine st_of ?_; walk_at "hl")
  | (refine ex_t (by assumption) ?_; walk_at "st"))
local macro_rules | `(tactic| walk_at "sq2") => `(tactic| first
  | assumption
  | (refine Or.inl ?_; walk_at "sq")
  | (refine Or.inr ?_; walk_at "st")
  | (refine Sq2.mono (by assumption) ?_; walk_at "sq2"))
local macro_rules | `(tactic| walk_at "ar") => `(tactic| first
  | assumption
  | omega
  | decide)
local macro_rules | `(tactic| walk_at "lar") => `(tactic| first
  | omega
  | (simp only [List.length_append, List.length_map, List.length_take, List.length_drop, List.length_cons, List.length_nil, List.length_replicate]; omega))
local macro_rules | `(tactic| walk_at "hb") => `(tactic| first
  | skip)
local macro_rules | `(tactic| walk_at "mul") => `(tactic| first
  | (exact Or.inr ⟨by decide, by decide⟩)
  | (exact Or.inl ⟨by decide, by decide⟩)
  | (exact Or.inl ⟨by omega, by omega⟩)
  | (exact Or.inr ⟨by omega, by omega⟩))
local macro_rules | `(tactic| walk_at "div") => `(tactic| first
  | (exact ⟨by decide, by decide⟩)
  | (exact ⟨by omega, by omega⟩))
local macro_rules | `(tactic| walk_at "ea") => `(tactic| first
  | exact ea_nil
  | ((with_reducible refine' ea_cons ?k0 ?k1); (case k0 => walk_at "ev"); (case k1 => walk_at "ea")))
local macro_rules | `(tactic| walk_at "eo") => `(tactic| first
  | exact eo_none
  | ((with_reducible refine' eo_some ?k0); (case k0 => walk_at "ev")))
local macro_rules | `(tactic| walk_at "el") => `(tactic| first
  | ((with_reducible refine' el_lst ?k0 ?k1); (case k0 => walk_at "ea"); (case k1 => (exact Nat.le_of_ble_eq_true rfl)))
  | ((with_reducible refine' el_from ?k0 ?k1 ?k2 ?k3 ?k4); (case k0 => walk_at "ev"); (case k1 => walk_at "eo"); (case k2 => walk_at "sq"); (case k3 => walk_at "ar"); (case k4 => walk_at "lar"))
  | ((with_reducible refine' el_upto ?k0 ?k1 ?k2 ?k3 ?k4); (case k0 => walk_at "ev"); (case k1 => walk_at "eo"); (case k2 => walk_at "sq"); (case k3 => walk_at "ar"); (case k4 => walk_at "lar"))
  | ((with_reducible refine' el_rep1 ?k0 ?k1 ?k2 ?k3); (case k0 => walk_at "el"); (case k1 => walk_at "ev"); (case k2 => walk_at "ar"); (case k3 => walk_at "ar"))
  | ((with_reducible refine' el_cat ?k0 ?k1 ?k2); (case k0 => walk_at "el"); (case k1 => walk_at "el"); (case k2 => walk_at "lar"))
  | ((with_reducible refine' el_callD ?k0 ?k1); (case k0 => walk_at "ea"); (case k1 => walk_at "sp"))
  | ((with_reducible refine' el_list ?k0 ?k1); (case k0 => walk_at "ev"); (case k1 => walk_at "sq"))
  | ((with_reducible refine' el_srt ?k0 ?k1); (case k0 => walk_at "ev"); (case k1 => walk_at "sq"))
  | ((with_reducible refine' el_sortedQ ?k0 ?k1); (case k0 => walk_at "ev"); (case k1 => walk_at "sq2"))
  | ((with_reducible refine' el_rev ?k0 ?k1); (case k0 => walk_at "ev"); (case k1 => walk_at "sq"))
  | ((with_reducible refine' el_step ?k0 ?k1 ?k2); (case k0 => walk_at "ev"); (case k1 => walk_at "eo"); (case k2 => walk_at "sq")))
local macro_rules | `(tactic| walk_at "et") => `(tactic| first
  | ((with_reducible refine' et_test ?k0); (case k0 => walk_at "ev"))
  | ((with_reducible refine' et_B ?k0); (case k0 => walk_at "ev"))
  | ((with_reducible refine' et_not ?k0); (case k0 => walk_at "et"))
  | ((with_reducible refine' et_and ?k0 (fun hb => ?k1)); (case k0 => walk_at "et"); (case k1 => (walk_at "hb"; walk_at "et")))
  | ((with_reducible refine' et_or ?k0 (fun hb => ?k1)); (case k0 => walk_at "et"); (case k1 => (walk_at "hb"; walk_at "et"))))
local macro_rules | `(tactic| walk_at "ev") => `(tactic| first
  | ((with_reducible refine' ev_var ?k0); (case k0 => rfl))
  | exact ev_c
  | ((with_reducible refine' ev_add ?k0 ?k1); (case k0 => walk_at "ev"); (case k1 => walk_at "ev"))
  | ((with_reducible refine' ev_sub ?k0 ?k1); (case k0 => walk_at "ev"); (case k1 => walk_at "ev"))
  | ((with_reducible refine' ev_ixI ?k0 ?k1 ?k2 ?k3 ?k4); (case k0 => walk_at "ev"); (case k1 => walk_at "ev"); (case k2 => walk_at "sq"); (case k3 => walk_at "ar"); (case k4 => walk_at "ar"))
  | ((with_reducible refine' ev_ixT ?k0 ?k1 ?k2 ?k3); (case k0 => walk_at "ev"); (case k1 => walk_at "ev"); (case k2 => walk_at "st"); (case k3 => rfl))
  | ((with_reducible refine' ev_lt ?k0 ?k1); (case k0 => walk_at "ev"); (case k1 => walk_at "ev"))
  | ((with_reducible refine' ev_gt ?k0 ?k1); (case k0 => walk_at "ev"); (case k1 => walk_at "ev"))
  | ((with_reducible refine' ev_le ?k0 ?k1); (case k0 => walk_at "ev"); (case k1 => walk_at "ev"))
  | ((with_reducible refine' ev_ge ?k0 ?k1); (case k0 => walk_at "ev"); (case k1 => walk_at "ev"))
  | ((with_reducible refine' ev_eqI ?k0 ?k1); (case k0 => walk_at "ev"); (case k1 => walk_at "ev"))
  | ((with_reducible refine' ev_neI ?k0 ?k1); (case k0 => walk_at "ev"); (case k1 => walk_at "ev"))
  | ((with_reducible refine' ev_eqB ?k0 ?k1); (case k0 => walk_at "ev"); (case k1 => walk_at "ev"))
  | ((with_reducible refine' ev_neB ?k0 ?k1); (case k0 => walk_at "ev"); (case k1 => walk_at "ev"))
  | ((with_reducible refine' ev_eqS ?k0 ?k1); (case k0 => walk_at "ev"); (case k1 => walk_at "ev"))
  | ((with_reducible refine' ev_neS ?k0 ?k1); (case k0 => walk_at "ev"); (case k1 => walk_at "ev"))
  | ((with_reducible refine' ev_mod ?k0 ?k1 ?k2); (case k0 => walk_at "ev"); (case k1 => walk_at "ev"); (case k2 => walk_at "ar"))
  | ((with_reducible refine' ev_mul ?k0 ?k1 ?k2); (case k0 => walk_at "ev"); (case k1 => walk_at "ev"); (case k2 => walk_at "mul"))
  | ((with_reducible refine' ev_div ?k0 ?k1 ?k2); (case k0 => walk_at "ev"); (case k1 => walk_at "ev"); (case k2 => walk_at "div"))
  | ((with_reducible refine' ev_neg ?k0); (case k0 => walk_at "ev"))
  | ((with_reducible refine' ev_callD ?k0 ?k1); (case k0 => walk_at "ea"); (case k1 => walk_at "sp"))
  | ((with_reducible refine' ev_lenI ?k0 ?k1); (case k0 => walk_at "ev"); (case k1 => walk_at "sq"))
  | ((with_reducible refine' ev_lenQ ?k0 ?k1); (case k0 => walk_at "ev"); (case k1 => walk_at "sq2"))
  | ((with_reducible refine' ev_lenSet ?k0 ?k1 ?k2); (case k0 => walk_at "ev"); (case k1 => walk_at "sq2"); (case k2 => walk_at "ar"))
  | ((with_reducible refine' ev_inI ?k0 ?k1 ?k2); (case k0 => walk_at "ev"); (case k1 => walk_at "ev"); (case k2 => walk_at "sq2"))
  | ((with_reducible refine' ev_notInI ?k0 ?k1 ?k2); (case k0 => walk_at "ev"); (case k1 => walk_at "ev"); (case k2 => walk_at "sq2"))
  | ((with_reducible refine' ev_lenTxt ?k0 ?k1); (case k0 => walk_at "ev"); (case k1 => walk_at "ar"))
  | ((with_reducible refine' ev_lenS ?k0 ?k1); (case k0 => walk_at "ev"); (case k1 => walk_at "ar"))
  | ((with_reducible refine' ev_ixTxt ?k0 ?k1 ?k2 ?k3 ?k4); (case k0 => walk_at "ev"); (case k1 => walk_at "ev"); (case k2 => walk_at "ar"); (case k3 => walk_at "ar"); (case k4 => walk_at "ar"))
  | ((with_reducible refine' ev_ix2 ?k0); (case k0 => walk_at "ev"))
  | ((with_reducible refine' ev_isiI ?k0); (case k0 => walk_at "ev"))
  | ((with_reducible refine' ev_isiL ?k0 ?k1); (case k0 => walk_at "ev"); (case k1 => walk_at "hl"))
  | ((with_reducible refine' ev_isiU ?k0 ?k1); (case k0 => walk_at "ev"); (case k1 => walk_at "hl"))
  | ((with_reducible refine' ev_isiS ?k0); (case k0 => walk_at "ev"))
  | ((with_reducible refine' ev_isiB ?k0); (case k0 => walk_at "ev"))
  | ((with_reducible refine' ev_isN ?k0); (case k0 => walk_at "ev"))
  | ((with_reducible refine' ev_notN ?k0); (case k0 => walk_at "ev"))
  | ((with_reducible refine' ev_notIB ?k0 ?k1); (case k0 => walk_at "ev"); (case k1 => walk_at "ev"))
  | ((with_reducible refine' ev_neNil ?k0 ?k1); (case k0 => walk_at "ev"); (case k1 => walk_at "sq"))
  | ((with_reducible refine' ev_eqNil ?k0 ?k1); (case k0 => walk_at "ev"); (case k1 => walk_at "sq"))
  | ((with_reducible refine' ev_eqL ?k0 ?k1 ?k2 ?k3); (case k0 => walk_at "ev"); (case k1 => walk_at "ev"); (case k2 => walk_at "sq"); (case k3 => walk_at "sq"))
  | ((with_reducible refine' ev_neL ?k0 ?k1 ?k2 ?k3); (case k0 => walk_at "ev"); (case k1 => walk_at "ev"); (case k2 => walk_at "sq"); (case k3 => walk_at "sq"))
  | ((with_reducible refine' ev_min2 ?k0 ?k1); (case k0 => walk_at "ev"); (case k1 => walk_at "ev"))
  | ((with_reducible refine' ev_max2 ?k0 ?k1); (case k0 => walk_at "ev"); (case k1 => walk_at "ev"))
  | ((with_reducible refine' ev_intB ?k0); (case k0 => walk_at "ev"))
  | ((with_reducible refine' ev_andV ?k0 (fun hb => ?k1)); (case k0 => walk_at "ev"); (case k1 => (walk_at "hb"; walk_at "ev")))
  | ((with_reducible refine' ev_orV ?k0 (fun hb => ?k1)); (case k0 => walk_at "ev"); (case k1 => (walk_at "hb"; walk_at "ev")))
  | ((with_reducible refine' ev_notV ?k0); (case k0 => walk_at "ev"))
  | ((with_reducible refine' ev_ifI ?k0 (fun hb => ?k1) (fun hb => ?k2)); (case k0 => walk_at "et"); (case k1 => (walk_at "hb"; walk_at "ev")); (case k2 => (walk_at "hb"; walk_at "ev")))
  | ((with_reducible refine' ev_ifS ?k0 (fun hb => ?k1) (fun hb => ?k2)); (case k0 => walk_at "et"); (case k1 => (walk_at "hb"; walk_at "ev")); (case k2 => (walk_at "hb"; walk_at "ev"))))
local macro_rules | `(tactic| walk_at "hb") => `(tactic| (try simp only [decide_eq_true_eq, decide_eq_false_iff_not, Bool.and_eq_true, Bool.or_eq_true, Bool.or_eq_false_iff, Bool.not_eq_true', Bool.not_eq_false', beq_iff_eq] at *))
local macro_rules | `(tactic| walk_at "sp") => `(tactic| first
  | (refine' v_number ?k0 ?k1 ?k2; (case k0 => walk_at "sq"); (case k1 => walk_at "ar"); (case k2 => walk_at "ar"))
  | (refine' v_drawn ?k0 ?k1; (case k0 => walk_at "sq"); (case k1 => walk_at "ar"))
  | exact v_size
  | exact v_counts
  | (refine' v_wraps ?k0 ?k1 ?k2 ?k3 ?k4; (case k0 => walk_at "sq"); (case k1 => walk_at "ar"); (case k2 => walk_at "ar"); (case k3 => walk_at "ar"); (case k4 => walk_at "ar"))
  | (refine' v_l_wraps ?k0 ?k1 ?k2 ?k3 ?k4; (case k0 => walk_at "sq"); (case k1 => walk_at "ar"); (case k2 => walk_at "ar"); (case k3 => walk_at "ar"); (case k4 => walk_at "ar"))
  | (refine' v_cross ?k0 ?k1 ?k2 ?k3 ?k4; (case k0 => walk_at "sq"); (case k1 => walk_at "ar"); (case k2 => walk_at "ar"); (case k3 => walk_at "ar"); (case k4 => walk_at "ar"))
  | (refine' v_places ?k0 ?k1 ?k2; (case k0 => walk_at "sq"); (case k1 => walk_at "ar"); (case k2 => assumption))
  | (refine' v_letters ?k0 ?k1 ?k2; (case k0 => walk_at "sq"); (case k1 => walk_at "ar"); (case k2 => assumption))
  | (refine' v_l_places ?k0 ?k1 ?k2; (case k0 => walk_at "sq"); (case k1 => walk_at "ar"); (case k2 => assumption))
  | (refine' v_fits ?k0 ?k1 ?k2 ?k3; (case k0 => walk_at "sq"); (case k1 => walk_at "ar"); (case k2 => walk_at "ar"); (case k3 => walk_at "ar"))
  | (refine' v_none ?k0 ?k1 ?k2; (case k0 => walk_at "sq"); (case k1 => walk_at "ar"); (case k2 => walk_at "ar")))
local macro_rules | `(tactic| walk_at "sp") => `(tactic| first
  | (refine' v_turned ?k0 ?k1 ?k2; (case k0 => walk_at "sq"); (case k1 => walk_at "ar"); (case k2 => assumption))
  | (refine' v_same ?k0 ?k1 ?k2; (case k0 => walk_at "hl"); (case k1 => walk_at "sq"); (case k2 => walk_at "ar"))
  | (refine' v_told ?k0 ?k1 ?k2; (case k0 => walk_at "sq"); (case k1 => walk_at "hl"); (case k2 => assumption))
  | (refine' v_parted ?k0 ?k1 ?k2 ?k3; (case k0 => walk_at "sq"); (case k1 => walk_at "ar"); (case k2 => walk_at "ar"); (case k3 => assumption)))
local macro_rules | `(tactic| walk_at "sp") => `(tactic| first
  | (refine' v_is_pile ?k0 ?k1 ?k2 ?k3; (case k0 => walk_at "hl"); (case k1 => assumption); (case k2 => walk_at "ar"); (case k3 => walk_at "ar")))
local macro_rules | `(tactic| walk_at "sp") => `(tactic| first
  | (refine' v_held ?k0 ?k1 ?k2 ?k3 ?k4 ?k5; (case k0 => walk_at "sq"); (case k1 => walk_at "st"); (case k2 => walk_at "ar"); (case k3 => (refine ⟨?_, ?_⟩ <;> walk_at "ar")); (case k4 => (refine ⟨?_, ?_⟩ <;> walk_at "ar")); (case k5 => (refine ⟨?_, ?_⟩ <;> walk_at "ar")))
  | (refine' v_l_held ?k0 ?k1 ?k2 ?k3 ?k4; (case k0 => walk_at "sq"); (case k1 => walk_at "ar"); (case k2 => (refine ⟨?_, ?_⟩ <;> walk_at "ar")); (case k3 => (refine ⟨?_, ?_⟩ <;> walk_at "ar")); (case k4 => (refine ⟨?_, ?_⟩ <;> walk_at "ar")))
  | (refine' v_lies ?k0 ?k1 ?k2 ?k3 ?k4; (case k0 => walk_at "sq"); (case k1 => walk_at "st"); (case k2 => walk_at "ar"); (case k3 => (refine ⟨?_, ?_⟩ <;> walk_at "ar")); (case k4 => (refine ⟨?_, ?_⟩ <;> walk_at "ar")))
  | (refine' v_judged ?k0 ?k1 ?k2 ?k3; (case k0 => walk_at "sq"); (case k1 => walk_at "ar"); (case k2 => assumption); (case k3 => assumption))
  | (refine' v_l_free ?k0 ?k1 ?k2 ?k3 ?k4 ?k5; (case k0 => walk_at "sq"); (case k1 => walk_at "sq"); (case k2 => walk_at "ar"); (case k3 => walk_at "ar"); (case k4 => walk_at "ar"); (case k5 => assumption))
  | (refine' v_are_free ?k0 ?k1 ?k2 ?k3 ?k4 ?k5; (case k0 => walk_at "sq"); (case k1 => walk_at "sq2"); (case k2 => walk_at "ar"); (case k3 => walk_at "ar"); (case k4 => walk_at "ar"); (case k5 => assumption)))
section
variable {K : PySem.W.Frag} {c : Cs}
local macro_rules | `(tactic| walk_at "hb") => `(tactic| (try simp only [decide_eq_true_eq, decide_eq_false_iff_not, Bool.and_eq_true, Bool.or_eq_true, Bool.or_eq_false_iff, Bool.not_eq_true', Bool.not_eq_false', beq_iff_eq] at *))
local macro_rules | `(tactic| walk_at "sp") => `(tactic| (refine' v_number ?k0 ?k1 ?k2; (case k0 => walk_at "sq"); (case k1 => walk_at "ar"); (case k2 => walk_at "ar")))

theorem read_l_pile (vs : List V) (H : Hp) (Q : VK) (E : XK) (h : sp_l_pile K c vs H Q E) : t_l_pile K c E { nx := fun _ H' => Q .non H', rt := Q } (start ["_law_script", "_law_start", "_law_size_here", "_law_pile_here", "_law_stamp", "_law_gap"] vs) H := by
  obtain ⟨a, ns, s, n, rfl, hS, h0, h1, h2, h3, q⟩ := h
  refine Go.here (g_asgL (xs := []) (by walk_at "el") fun p H1 hp e1 hl => ?_)
  refine g_forR1 (n := n) (by walk_at "ea") (by omega) (fun i σ H' => ∃ (p : Addr) (ps : List Int) (y4 y5 : Option V), σ = [some (.ref a), some (.int s), some (.int n), some (.ref p), y4, y5] ∧ Ex H H' ∧ H p = none ∧ H' p = some (.lst (ps.map V.int)) ∧ Per i ps)
    (fun H2 e2 => ⟨p, [], none, none, rfl, e1.trans e2, hp, e2 p _ hl, ⟨rfl, fun x hx => (nomatch hx), List.nodup_nil⟩⟩) (fun i σ H' hi hP => ?_) (fun σ H' hP => ?_) (by omega)
  · obtain ⟨p, ps, y4, y5, rfl, e, hp, hl, per⟩ := hP
    have hn0 := numb_lo ns (s + (i : Int))
    refine g_asg (v := .int (numb ns (s + (i : Int)) % ((i : Int) + 1))) (by walk_at "ev") ?_
    have g0 : 0 ≤ numb ns (s + (i : Int)) % ((i : Int) + 1) := Int.emod_nonneg _ (by omega)
    have g1 : numb ns (s + (i : Int)) % ((i : Int) + 1) < (i : Int) + 1 := Int.emod_lt_of_pos _ (by omega)
    generalize numb ns (s + (i : Int)) % ((i : Int) + 1) = g at g0 g1 ⊢
    have hlen := per.len
    refine g_asgL (xs := (ps.map V.int).take g.toNat ++ [V.int (i : Int)] ++ (ps.map V.int).drop g.toNat) (by walk_at "el") fun p' H2 hp' e2 hl' => ?_
    refine g_next fun H3 e3 => ?_
    rw [put_map] at hl'
    exact ⟨p', put ps g (i : Int), some (.int (i : Int)), some (.int g), rfl, e.trans (e2.trans e3), fresh_back e hp', e3 p' _ hl', per.put g⟩
  · obtain ⟨p, ps, y4, y5, rfl, e, hp, hl, per⟩ := hP
    refine g_ret (v := .ref p) (by walk_at "ev") fun H2 e2 => ?_
    exact q _ p H2 ⟨ps, rfl, per.pile (by omega), by rw [per.len]; omega⟩ hp (e.trans e2) (e2 p _ hl)

theorem read_places (vs : List V) (H : Hp) (Q : VK) (E : XK) (h : sp_places K c vs H Q E) : t_places K c E { nx := fun _ H' => Q .non H', rt := Q } (start ["pile", "size", "found", "place", "stamp"] vs) H := by
  obtain ⟨a, ns, rfl, hS, hlen, q, x⟩ := h
  refine Go.here (g_asg (v := .int (ns.length : Int)) (by walk_at "ev") ?_)
  refine g_when (b := decide ((ns.length : Int) = 0)) (by walk_at "et") (fun hb => ?_) (fun hb => ?_)
  · have hb' := of_decide_eq_true hb
    exact g_raise (x fun p => by have := p.pos; omega)
  have hb' := of_decide_eq_false hb
  refine g_asgL (xs := List.replicate (ns.length : Int).toNat (.int (-1))) (by walk_at "el") fun p H1 hp e1 hl => ?_
  have e0 : List.replicate (ns.length : Int).toNat (V.int (-1)) = (plF ns 0).map V.int := by rw [plF_zero, List.map_replicate]; rfl
  rw [e0] at hl
  refine g_forE (xs := ns.map V.int) (by walk_at "ea") (by walk_at "sq") (fun i σ H' => ∃ (y3 y4 : Option V), σ = [some (.ref a), some (.int (ns.length : Int)), some (.ref p), y3, y4] ∧ Ex H H' ∧ H' p = some (.lst ((plF ns i).map V.int)) ∧ (∀ x ∈ ns.take i, 0 ≤ x ∧ x < (ns.length : Int)) ∧ (ns.take i).Nodup)
    (fun H2 e2 => ⟨none, none, rfl, e1.trans e2, e2 p _ hl, fun x hx => (by rw [List.take_zero] at hx; exact (nomatch hx)), by rw [List.take_zero]; exact List.nodup_nil⟩) (fun i σ H' hi hP => ?_) (fun i v T σ H' hi hP hT => ?_) (fun σ H' hP => ?_)
  · obtain ⟨y3, y4, rfl, e, hl', hb1, hnd⟩ := hP
    walk_at "sq"
  · obtain ⟨y3, y4, rfl, e, hl', hb1, hnd⟩ := hP
    have hin : i < ns.length := by
      have := (List.getElem?_eq_some_iff.mp hi).1
      rw [List.length_map] at this
      exact this
    obtain ⟨z, hz, rfl⟩ : ∃ z, ns[i]? = some z ∧ v = .int z := by
      rw [List.getElem?_map, List.getElem?_eq_getElem hin] at hi
      exact ⟨ns[i], List.getElem?_eq_getElem hin, (Option.some.inj hi).symm⟩
    have eT : Ex H' (upd H' T (.tup [.int (i : Int), .int z])) := Ex.new hT
    have hl2 : (upd H' T (.tup [.int (i : Int), .int z])) p = some (.lst ((plF ns i).map V.int)) := eT p _ hl'
    have hlF := plF_len ns i
    refine g_when (b := (decide (z < 0) || (decide ((ns.length : Int) ≤ z) || decide (0 ≤ gi (plF ns i) z)))) (by walk_at "et") (fun hb => ?_) (fun hb => ?_)
    · refine g_raise fun H2 e2 => x (fun pp => ?_) H2 (e.trans (eT.trans e2))
      have hzm := pp.bnd z (List.mem_of_getElem? hz)
      have hb2 : 0 ≤ gi (plF ns i) z := by
        simp only [Bool.or_eq_true, decide_eq_true_eq] at hb
        omega
      by_cases hin2 : z ∈ ns.take i
      · have nd2 := pp.nd
        rw [← List.take_append_drop i ns] at nd2
        have hd : z ∈ ns.drop i := by
          have : (ns.drop i)[0]? = some z := by rw [List.getElem?_drop]; exact hz
          exact List.mem_of_getElem? this
        exact (List.nodup_append.mp nd2).2.2 z hin2 z hd rfl
      · exact (plF_neg hzm.1 hzm.2).mpr hin2 hb2
    · simp only [Bool.or_eq_false_iff, decide_eq_false_iff_not] at hb
      have z0 : 0 ≤ z := by omega
      have z1 : z < (ns.length : Int) := by omega
      have hnew := (plF_neg z0 z1).mp hb.2.2
      refine g_setL (xs := (plF ns i).map V.int) hl2 (v := .int (i : Int)) (by walk_at "ev") (by walk_at "ev") (by walk_at "ev") z0 (by rw [List.length_map, hlF]; exact z1) fun H2 e2 => ?_
      refine g_next (D := _) (fun H3 e3 => ?_) _ (Ex.refl _)
      have e4 : ((plF ns i).map V.int).set z.toNat (V.int (i : Int)) = (plF ns (i + 1)).map V.int := by rw [← plF_set hz z0 z1 hnew, List.map_set]
      have hp2 : H p = none := hp
      refine ⟨some (.int (i : Int)), some (.int z), rfl, (Ex.mut ((e.trans eT).trans e2) hp2).trans e3, ?_, ?_, ?_⟩
      · rw [← e4]
        exact e3 p _ upd_same
      · rw [take_more hz]
        intro y hy
        rcases List.mem_append.mp hy with hy | hy
        · exact hb1 y hy
        · rw [List.mem_singleton.mp hy]
          exact ⟨z0, z1⟩
      · rw [take_more hz]
        exact List.nodup_append.mpr ⟨hnd, List.nodup_cons.mpr ⟨List.not_mem_nil, List.nodup_nil⟩, fun u hu w hw => by
          rw [List.mem_singleton.mp hw]
          exact fun e5 => hnew (e5 ▸ hu)⟩
  · obtain ⟨y3, y4, rfl, e, hl', hb1, hnd⟩ := hP
    rw [List.length_map] at hl' hb1 hnd
    rw [List.take_length] at hb1 hnd
    have pp : IsPile ns := ⟨by omega, hb1, hnd⟩
    rw [plF_end pp] at hl'
    exact g_ret (v := .ref p) (by walk_at "ev") fun H2 e2 => q pp p H2 hp (e.trans e2) (e2 p _ hl')
end
end Fo
/-! FoldR3 -/
namespace Fo
open PySem L2 Evl
local macro_rules | `(tactic| walk_at "hl") => `(tactic| first
  | assumption
  | exact upd_same
  | (refine (by assumption : Ex _ _) _ _ ?_; walk_at "hl"))
local macro_rules | `(tactic| walk_at "sq") => `(tactic| first
  | assumption
  | (refine sq_lst ?_; walk_at "hl")
  | (refine ex_l (by assumption) ?_; walk_at "sq"))
local macro_rules | `(tactic| walk_at "st") => `(tactic| first
  | assumption
  | (refine st_of ?_; walk_at "hl")
  | (refine ex_t (by assumption) ?_; walk_at "st"))
local macro_rules | `(tactic| walk_at "sq2") => `(tactic| first
  | assumption
  | (refine Or.inl ?_; walk_at "sq")
  | (refine Or.inr ?_; walk_at "st")
  | (refine Sq2.mono (by assumption) ?_; walk_at "sq2"))
local macro_rules | `(tactic| walk_at "ar") => `(tactic| first
  | assumption
  | omega
  | decide)
local macro_rules | `(tactic| walk_at "lar") => `(tactic| first
  | omega
  | (simp only [List.length_append, List.length_map, List.length_take, List.length_drop, List.length_cons, List.length_nil, List.length_replicate]; omega))
local macro_rules | `(tactic| walk_at "hb") => `(tactic| first
  | skip)
local macro_rules | `(tactic| walk_at "mul") => `(tactic| first
  | (exact Or.inr ⟨by decide, by decide⟩)
  | (exact Or.inl ⟨by decide, by decide⟩)
  | (exact Or.inl ⟨by omega, by omega⟩)
  | (exact Or.inr ⟨by omega, by omega⟩))
local macro_rules | `(tactic| walk_at "div") => `(tactic| first
  | (exact ⟨by decide, by decide⟩)
  | (exact ⟨by omega, by omega⟩))
local macro_rules | `(tactic| walk_at "ea") => `(tactic| first
  | exact ea_nil
  | ((with_reducible refine' ea_cons ?k0 ?k1); (case k0 => walk_at "ev"); (case k1 => walk_at "ea")))
local macro_rules | `(tactic| walk_at "eo") => `(tactic| first
  | exact eo_none
  | ((with_reducible refine' eo_some ?k0); (case k0 => walk_at "ev")))
local macro_rules | `(tactic| walk_at "el") => `(tactic| first
  | ((with_reducible refine' el_lst ?k0 ?k1); (case k0 => walk_at "ea"); (case k1 => (exact Nat.le_of_ble_eq_true rfl)))
  | ((with_reducible refine' el_from ?k0 ?k1 ?k2 ?k3 ?k4); (case k0 => walk_at "ev"); (case k1 => walk_at "eo"); (case k2 => walk_at "sq"); (case k3 => walk_at "ar"); (case k4 => walk_at "lar"))
  | ((with_reducible refine' el_upto ?k0 ?k1 ?k2 ?k3 ?k4); (case k0 => walk_at "ev"); (case k1 => walk_at "eo"); (case k2 => walk_at "sq"); (case k3 => walk_at "ar"); (case k4 => walk_at "lar"))
  | ((with_reducible refine' el_rep1 ?k0 ?k1 ?k2 ?k3); (case k0 => walk_at "el"); (case k1 => walk_at "ev"); (case k2 => walk_at "ar"); (case k3 => walk_at "ar"))
  | ((with_reducible refine' el_cat ?k0 ?k1 ?k2); (case k0 => walk_at "el"); (case k1 => walk_at "el"); (case k2 => walk_at "lar"))
  | ((with_reducible refine' el_callD ?k0 ?k1); (case k0 => walk_at "ea"); (case k1 => walk_at "sp"))
  | ((with_reducible refine' el_list ?k0 ?k1); (case k0 => walk_at "ev"); (case k1 => walk_at "sq"))
  | ((with_reducible refine' el_srt ?k0 ?k1); (case k0 => walk_at "ev"); (case k1 => walk_at "sq"))
  | ((with_reducible refine' el_sortedQ ?k0 ?k1); (case k0 => walk_at "ev"); (case k1 => walk_at "sq2"))
  | ((with_reducible refine' el_rev ?k0 ?k1); (case k0 => walk_at "ev"); (case k1 => walk_at "sq"))
  | ((with_reducible refine' el_step ?k0 ?k1 ?k2); (case k0 => walk_at "ev"); (case k1 => walk_at "eo"); (case k2 => walk_at "sq")))
local macro_rules | `(tactic| walk_at "et") => `(tactic| first
  | ((with_reducible refine' et_test ?k0); (case k0 => walk_at "ev"))
  | ((with_reducible refine' et_B ?k0); (case k0 => walk_at "ev"))
  | ((with_reducible refine' et_not ?k0); (case k0 => walk_at "et"))
  | ((with_reducible refine' et_and ?k0 (fun hb => ?k1)); (case k0 => walk_at "et"); (case k1 => (walk_at "hb"; walk_at "et")))
  | ((with_reducible refine' et_or ?k0 (fun hb => ?k1)); (case k0 => walk_at "et"); (case k1 => (walk_at "hb"; walk_at "et"))))
local macro_rules | `(tactic| walk_at "ev") => `(tactic| first
  | ((with_reducible refine' ev_var ?k0); (case k0 => rfl))
  | exact ev_c
  | ((with_reducible refine' ev_add ?k0 ?k1); (case k0 => walk_at "ev"); (case k1 => walk_at "ev"))
  | ((with_reducible refine' ev_sub ?k0 ?k1); (case k0 => walk_at "ev"); (case k1 => walk_at "ev"))
  | ((with_reducible refine' ev_ixI ?k0 ?k1 ?k2 ?k3 ?k4); (case k0 => walk_at "ev"); (case k1 => walk_at "ev"); (case k2 => walk_at "sq"); (case k3 => walk_at "ar"); (case k4 => walk_at "ar"))
  | ((with_reducible refine' ev_ixT ?k0 ?k1 ?k2 ?k3); (case k0 => walk_at "ev"); (case k1 => walk_at "ev"); (case k2 => walk_at "st"); (case k3 => rfl))
  | ((with_reducible refine' ev_lt ?k0 ?k1); (case k0 => walk_at "ev"); (case k1 => walk_at "ev"))
  | ((with_reducible refine' ev_gt ?k0 ?k1); (case k0 => walk_at "ev"); (case k1 => walk_at "ev"))
  | ((with_reducible refine' ev_le ?k0 ?k1); (case k0 => walk_at "ev"); (case k1 => walk_at "ev"))
  | ((with_reducible refine' ev_ge ?k0 ?k1); (case k0 => walk_at "ev"); (case k1 => walk_at "ev"))
  | ((with_reducible refine' ev_eqI ?k0 ?k1); (case k0 => walk_at "ev"); (case k1 => walk_at "ev"))
  | ((with_reducible refine' ev_neI ?k0 ?k1); (case k0 => walk_at "ev"); (case k1 => walk_at "ev"))
  | ((with_reducible refine' ev_eqB ?k0 ?k1); (case k0 => walk_at "ev"); (case k1 => walk_at "ev"))
  | ((with_reducible refine' ev_neB ?k0 ?k1); (case k0 => walk_at "ev"); (case k1 => walk_at "ev"))
  | ((with_reducible refine' ev_eqS ?k0 ?k1); (case k0 => walk_at "ev"); (case k1 => walk_at "ev"))
  | ((with_reducible refine' ev_neS ?k0 ?k1); (case k0 => walk_at "ev"); (case k1 => walk_at "ev"))
  | ((with_reducible refine' ev_mod ?k0 ?k1 ?k2); (case k0 => walk_at "ev"); (case k1 => walk_at "ev"); (case k2 => walk_at "ar"))
  | ((with_reducible refine' ev_mul ?k0 ?k1 ?k2); (case k0 => walk_at "ev"); (case k1 => walk_at "ev"); (case k2 => walk_at "mul"))
  | ((with_reducible refine' ev_div ?k0 ?k1 ?k2); (case k0 => walk_at "ev"); (case k1 => walk_at "ev"); (case k2 => walk_at "div"))
  | ((with_reducible refine' ev_neg ?k0); (case k0 => walk_at "ev"))
  | ((with_reducible refine' ev_callD ?k0 ?k1); (case k0 => walk_at "ea"); (case k1 => walk_at "sp"))
  | ((with_reducible refine' ev_lenI ?k0 ?k1); (case k0 => walk_at "ev"); (case k1 => walk_at "sq"))
  | ((with_reducible refine' ev_lenQ ?k0 ?k1); (case k0 => walk_at "ev"); (case k1 => walk_at "sq2"))
  | ((with_reducible refine' ev_lenSet ?k0 ?k1 ?k2); (case k0 => walk_at "ev"); (case k1 => walk_at "sq2"); (case k2 => walk_at "ar"))
  | ((with_reducible refine' ev_inI ?k0 ?k1 ?k2); (case k0 => walk_at "ev"); (case k1 => walk_at "ev"); (case k2 => walk_at "sq2"))
  | ((with_reducible refine' ev_notInI ?k0 ?k1 ?k2); (case k0 => walk_at "ev"); (case k1 => walk_at "ev"); (case k2 => walk_at "sq2"))
  | ((with_reducible refine' ev_lenTxt ?k0 ?k1); (case k0 => walk_at "ev"); (case k1 => walk_at "ar"))
  | ((with_reducible refine' ev_lenS ?k0 ?k1); (case k0 => walk_at "ev"); (case k1 => walk_at "ar"))
  | ((with_reducible refine' ev_ixTxt ?k0 ?k1 ?k2 ?k3 ?k4); (case k0 => walk_at "ev"); (case k1 => walk_at "ev"); (case k2 => walk_at "ar"); (case k3 => walk_at "ar"); (case k4 => walk_at "ar"))
  | ((with_reducible refine' ev_ix2 ?k0); (case k0 => walk_at "ev"))
  | ((with_reducible refine' ev_isiI ?k0); (case k0 => walk_at "ev"))
  | ((with_reducible refine' ev_isiL ?k0 ?k1); (case k0 => walk_at "ev"); (case k1 => walk_at "hl"))
  | ((with_reducible refine' ev_isiU ?k0 ?k1); (case k0 => walk_at "ev"); (case k1 => walk_at "hl"))
  | ((with_reducible refine' ev_isiS ?k0); (case k0 => walk_at "ev"))
  | ((with_reducible refine' ev_isiB ?k0); (case k0 => walk_at "ev"))
  | ((with_reducible refine' ev_isN ?k0); (case k0 => walk_at "ev"))
  | ((with_reducible refine' ev_notN ?k0); (case k0 => walk_at "ev"))
  | ((with_reducible refine' ev_notIB ?k0 ?k1); (case k0 => walk_at "ev"); (case k1 => walk_at "ev"))
  | ((with_reducible refine' ev_neNil ?k0 ?k1); (case k0 => walk_at "ev"); (case k1 => walk_at "sq"))
  | ((with_reducible refine' ev_eqNil ?k0 ?k1); (case k0 => walk_at "ev"); (case k1 => walk_at "sq"))
  | ((with_reducible refine' ev_eqL ?k0 ?k1 ?k2 ?k3); (case k0 => walk_at "ev"); (case k1 => walk_at "ev"); (case k2 => walk_at "sq"); (case k3 => walk_at "sq"))
  | ((with_reducible refine' ev_neL ?k0 ?k1 ?k2 ?k3); (case k0 => walk_at "ev"); (case k1 => walk_at "ev"); (case k2 => walk_at "sq"); (case k3 => walk_at "sq"))
  | ((with_reducible refine' ev_min2 ?k0 ?k1); (case k0 => walk_at "ev"); (case k1 => walk_at "ev"))
  | ((with_reducible refine' ev_max2 ?k0 ?k1); (case k0 => walk_at "ev"); (case k1 => walk_at "ev"))
  | ((with_reducible refine' ev_intB ?k0); (case k0 => walk_at "ev"))
  | ((with_reducible refine' ev_andV ?k0 (fun hb => ?k1)); (case k0 => walk_at "ev"); (case k1 => (walk_at "hb"; walk_at "ev")))
  | ((with_reducible refine' ev_orV ?k0 (fun hb => ?k1)); (case k0 => walk_at "ev"); (case k1 => (walk_at "hb"; walk_at "ev")))
  | ((with_reducible refine' ev_notV ?k0); (case k0 => walk_at "ev"))
  | ((with_reducible refine' ev_ifI ?k0 (fun hb => ?k1) (fun hb => ?k2)); (case k0 => walk_at "et"); (case k1 => (walk_at "hb"; walk_at "ev")); (case k2 => (walk_at "hb"; walk_at "ev")))
  | ((with_reducible refine' ev_ifS ?k0 (fun hb => ?k1) (fun hb => ?k2)); (case k0 => walk_at "et"); (case k1 => (walk_at "hb"; walk_at "ev")); (case k2 => (walk_at "hb"; walk_at "ev"))))
local macro_rules | `(tactic| walk_at "hb") => `(tactic| (try simp only [decide_eq_true_eq, decide_eq_false_iff_not, Bool.and_eq_true, Bool.or_eq_true, Bool.or_eq_false_iff, Bool.not_eq_true', Bool.not_eq_false', beq_iff_eq] at *))
local macro_rules | `(tactic| walk_at "sp") => `(tactic| first
  | (refine' v_number ?k0 ?k1 ?k2; (case k0 => walk_at "sq"); (case k1 => walk_at "ar"); (case k2 => walk_at "ar"))
  | (refine' v_drawn ?k0 ?k1; (case k0 => walk_at "sq"); (case k1 => walk_at "ar"))
  | exact v_size
  | exact v_counts
  | (refine' v_wraps ?k0 ?k1 ?k2 ?k3 ?k4; (case k0 => walk_at "sq"); (case k1 => walk_at "ar"); (case k2 => walk_at "ar"); (case k3 => walk_at "ar"); (case k4 => walk_at "ar"))
  | (refine' v_l_wraps ?k0 ?k1 ?k2 ?k3 ?k4; (case k0 => walk_at "sq"); (case k1 => walk_at "ar"); (case k2 => walk_at "ar"); (case k3 => walk_at "ar"); (case k4 => walk_at "ar"))
  | (refine' v_cross ?k0 ?k1 ?k2 ?k3 ?k4; (case k0 => walk_at "sq"); (case k1 => walk_at "ar"); (case k2 => walk_at "ar"); (case k3 => walk_at "ar"); (case k4 => walk_at "ar"))
  | (refine' v_places ?k0 ?k1 ?k2; (case k0 => walk_at "sq"); (case k1 => walk_at "ar"); (case k2 => assumption))
  | (refine' v_letters ?k0 ?k1 ?k2; (case k0 => walk_at "sq"); (case k1 => walk_at "ar"); (case k2 => assumption))
  | (refine' v_l_places ?k0 ?k1 ?k2; (case k0 => walk_at "sq"); (case k1 => walk_at "ar"); (case k2 => assumption))
  | (refine' v_fits ?k0 ?k1 ?k2 ?k3; (case k0 => walk_at "sq"); (case k1 => walk_at "ar"); (case k2 => walk_at "ar"); (case k3 => walk_at "ar"))
  | (refine' v_none ?k0 ?k1 ?k2; (case k0 => walk_at "sq"); (case k1 => walk_at "ar"); (case k2 => walk_at "ar")))
local macro_rules | `(tactic| walk_at "sp") => `(tactic| first
  | (refine' v_turned ?k0 ?k1 ?k2; (case k0 => walk_at "sq"); (case k1 => walk_at "ar"); (case k2 => assumption))
  | (refine' v_same ?k0 ?k1 ?k2; (case k0 => walk_at "hl"); (case k1 => walk_at "sq"); (case k2 => walk_at "ar"))
  | (refine' v_told ?k0 ?k1 ?k2; (case k0 => walk_at "sq"); (case k1 => walk_at "hl"); (case k2 => assumption))
  | (refine' v_parted ?k0 ?k1 ?k2 ?k3; (case k0 => walk_at "sq"); (case k1 => walk_at "ar"); (case k2 => walk_at "ar"); (case k3 => assumption)))
local macro_rules | `(tactic| walk_at "sp") => `(tactic| first
  | (refine' v_is_pile ?k0 ?k1 ?k2 ?k3; (case k0 => walk_at "hl"); (case k1 => assumption); (case k2 => walk_at "ar"); (case k3 => walk_at "ar")))
local macro_rules | `(tactic| walk_at "sp") => `(tactic| first
  | (refine' v_held ?k0 ?k1 ?k2 ?k3 ?k4 ?k5; (case k0 => walk_at "sq"); (case k1 => walk_at "st"); (case k2 => walk_at "ar"); (case k3 => (refine ⟨?_, ?_⟩ <;> walk_at "ar")); (case k4 => (refine ⟨?_, ?_⟩ <;> walk_at "ar")); (case k5 => (refine ⟨?_, ?_⟩ <;> walk_at "ar")))
  | (refine' v_l_held ?k0 ?k1 ?k2 ?k3 ?k4; (case k0 => walk_at "sq"); (case k1 => walk_at "ar"); (case k2 => (refine ⟨?_, ?_⟩ <;> walk_at "ar")); (case k3 => (refine ⟨?_, ?_⟩ <;> walk_at "ar")); (case k4 => (refine ⟨?_, ?_⟩ <;> walk_at "ar")))
  | (refine' v_lies ?k0 ?k1 ?k2 ?k3 ?k4; (case k0 => walk_at "sq"); (case k1 => walk_at "st"); (case k2 => walk_at "ar"); (case k3 => (refine ⟨?_, ?_⟩ <;> walk_at "ar")); (case k4 => (refine ⟨?_, ?_⟩ <;> walk_at "ar")))
  | (refine' v_judged ?k0 ?k1 ?k2 ?k3; (case k0 => walk_at "sq"); (case k1 => walk_at "ar"); (case k2 => assumption); (case k3 => assumption))
  | (refine' v_l_free ?k0 ?k1 ?k2 ?k3 ?k4 ?k5; (case k0 => walk_at "sq"); (case k1 => walk_at "sq"); (case k2 => walk_at "ar"); (case k3 => walk_at "ar"); (case k4 => walk_at "ar"); (case k5 => assumption))
  | (refine' v_are_free ?k0 ?k1 ?k2 ?k3 ?k4 ?k5; (case k0 => walk_at "sq"); (case k1 => walk_at "sq2"); (case k2 => walk_at "ar"); (case k3 => walk_at "ar"); (case k4 => walk_at "ar"); (case k5 => assumption)))
section
variable {K : PySem.W.Frag} {c : Cs}
local macro_rules | `(tactic| walk_at "hb") => `(tactic| (try simp only [decide_eq_true_eq, decide_eq_false_iff_not, Bool.and_eq_true, Bool.or_eq_true, Bool.or_eq_false_iff, Bool.not_eq_true', Bool.not_eq_false', beq_iff_eq] at *))
theorem read_letters (vs : List V) (H : Hp) (Q : VK) (E : XK) (h : sp_letters K c vs H Q E) : t_letters K c E { nx := fun _ H' => Q .non H', rt := Q } (start ["pile", "at", "told", "crease", "higher"] vs) H := by
  obtain ⟨a, ns, rfl, hS, hlen, q, x⟩ := h
  by_cases hp : IsPile ns
  · refine Go.here (g_asgL (xs := (pl ns).map V.int) (el_callD (by walk_at "ea") (v_places hS hlen hp)) fun p H1 hp1 e1 hl => ?_)
    have hpl := pl_len ns
    have hps := hp.pos
    refine g_asgL (xs := []) (by walk_at "el") fun r H2 hr e2 hr2 => ?_
    refine g_forR1 (n := (ns.length : Int) - 1) (by rw [← hpl]; walk_at "ea") (by omega) (fun i σ H' => ∃ (y3 y4 : Option V), σ = [some (.ref a), some (.ref p), some (.ref r), y3, y4] ∧ Ex H1 H' ∧ H' r = some (.lst ((((lets (pl ns)).take i).map fun c => (⟨#[c]⟩ : Str)).map V.str)))
      (fun H3 e3 => ⟨none, none, rfl, e2.trans e3, by rw [e3 r _ hr2]; rfl⟩) (fun i σ H' hi hP => ?_) (fun σ H' hP => ?_) (by omega)
    · obtain ⟨y3, y4, rfl, e, hr3⟩ := hP
      refine g_asg (v := .bl (decide (gi (pl ns) (i : Int) < gi (pl ns) ((i : Int) + 1)))) (by walk_at "ev") ?_
      have hg := lets_get (l := pl ns) (k := i) (by omega)
      refine g_app (xs := (((lets (pl ns)).take i).map fun c => (⟨#[c]⟩ : Str)).map V.str) hr3 (v := .str (if (decide (gi (pl ns) (i : Int) < gi (pl ns) ((i : Int) + 1)) == decide ((i : Int) % 2 = 0)) = true then Str.ofString "V" else Str.ofString "M")) (by walk_at "ev") (by walk_at "ev") (by simp only [List.length_map, List.length_take]; have := lets_len (pl ns); omega) fun H4 e4 => ?_
      refine g_next (D := _) (fun H5 e5 => ?_) _ (Ex.refl _)
      refine ⟨some (.int (i : Int)), _, rfl, (Ex.mut (e.trans e4) hr).trans e5, ?_⟩
      rw [e5 r _ upd_same, take_more hg, List.map_append, List.map_append]
      congr 3
      show [V.str _] = [V.str (⟨#[_]⟩ : Str)]
      rw [sg_V, sg_M]
      split <;> rfl
    · obtain ⟨y3, y4, rfl, e, hr3⟩ := hP
      have hn : ((ns.length : Int) - 1).toNat = (lets (pl ns)).length := by rw [lets_len, hpl]; omega
      rw [hn, List.take_length] at hr3
      exact g_ret (v := .str (txt (lets (pl ns)))) (ev_join (ev_var rfl) (sq_lst hr3) (by rw [lets_len]; omega)) fun H4 e4 => q hp H4 ((e1.trans e).trans e4)
  · exact Go.here (g_asgX (evx_call (by walk_at "ea") (x_places hS hlen hp (x hp))))
end
end Fo
/-! FoldR4 -/
namespace Fo
open PySem L2 Evl
local macro_rules | `(tactic| walk_at "hl") => `(tactic| first
  | assumption
  | exact upd_same
  | (refine (by assumption : Ex _ _) _ _ ?_; walk_at "hl"))
local macro_rules | `(tactic| walk_at "sq") => `(tactic| first
  | assumption
  | (refine sq_lst ?_; walk_at "hl")
  | (refine ex_l (by assumption) ?_; walk_at "sq"))
local macro_rules | `(tactic| walk_at "st") => `(tactic| first
  | assumption
  | (refine st_of ?_; walk_at "hl")
  | (refine ex_t (by assumption) ?_; walk_at "st"))
local macro_rules | `(tactic| walk_at "sq2") => `(tactic| first
  | assumption
  | (refine Or.inl ?_; walk_at "sq")
  | (refine Or.inr ?_; walk_at "st")
  | (refine Sq2.mono (by assumption) ?_; walk_at "sq2"))
local macro_rules | `(tactic| walk_at "ar") => `(tactic| first
  | assumption
  | omega
  | decide)
local macro_rules | `(tactic| walk_at "lar") => `(tactic| first
  | omega
  | (simp only [List.length_append, List.length_map, List.length_take, List.length_drop, List.length_cons, List.length_nil, List.length_replicate]; omega))
local macro_rules | `(tactic| walk_at "hb") => `(tactic| first
  | skip)
local macro_rules | `(tactic| walk_at "mul") => `(tactic| first
  | (exact Or.inr ⟨by decide, by decide⟩)
  | (exact Or.inl ⟨by decide, by decide⟩)
  | (exact Or.inl ⟨by omega, by omega⟩)
  | (exact Or.inr ⟨by omega, by omega⟩))
local macro_rules | `(tactic| walk_at "div") => `(tactic| first
  | (exact ⟨by decide, by decide⟩)
  | (exact ⟨by omega, by omega⟩))
local macro_rules | `(tactic| walk_at "ea") => `(tactic| first
  | exact ea_nil
  | ((with_reducible refine' ea_cons ?k0 ?k1); (case k0 => walk_at "ev"); (case k1 => walk_at "ea")))
local macro_rules | `(tactic| walk_at "eo") => `(tactic| first
  | exact eo_none
  | ((with_reducible refine' eo_some ?k0); (case k0 => walk_at "ev")))
local macro_rules | `(tactic| walk_at "el") => `(tactic| first
  | ((with_reducible refine' el_lst ?k0 ?k1); (case k0 => walk_at "ea"); (case k1 => (exact Nat.le_of_ble_eq_true rfl)))
  | ((with_reducible refine' el_from ?k0 ?k1 ?k2 ?k3 ?k4); (case k0 => walk_at "ev"); (case k1 => walk_at "eo"); (case k2 => walk_at "sq"); (case k3 => walk_at "ar"); (case k4 => walk_at "lar"))
  | ((with_reducible refine' el_upto ?k0 ?k1 ?k2 ?k3 ?k4); (case k0 => walk_at "ev"); (case k1 => walk_at "eo"); (case k2 => walk_at "sq"); (case k3 => walk_at "ar"); (case k4 => walk_at "lar"))
  | ((with_reducible refine' el_rep1 ?k0 ?k1 ?k2 ?k3); (case k0 => walk_at "el"); (case k1 => walk_at "ev"); (case k2 => walk_at "ar"); (case k3 => walk_at "ar"))
  | ((with_reducible refine' el_cat ?k0 ?k1 ?k2); (case k0 => walk_at "el"); (case k1 => walk_at "el"); (case k2 => walk_at "lar"))
  | ((with_reducible refine' el_callD ?k0 ?k1); (case k0 => walk_at "ea"); (case k1 => walk_at "sp"))
  | ((with_reducible refine' el_list ?k0 ?k1); (case k0 => walk_at "ev"); (case k1 => walk_at "sq"))
  | ((with_reducible refine' el_srt ?k0 ?k1); (case k0 => walk_at "ev"); (case k1 => walk_at "sq"))
  | ((with_reducible refine' el_sortedQ ?k0 ?k1); (case k0 => walk_at "ev"); (case k1 => walk_at "sq2"))
  | ((with_reducible refine' el_rev ?k0 ?k1); (case k0 => walk_at "ev"); (case k1 => walk_at "sq"))
  | ((with_reducible refine' el_step ?k0 ?k1 ?k2); (case k0 => walk_at "ev"); (case k1 => walk_at "eo"); (case k2 => walk_at "sq")))
local macro_rules | `(tactic| walk_at "et") => `(tactic| first
  | ((with_reducible refine' et_test ?k0); (case k0 => walk_at "ev"))
  | ((with_reducible refine' et_B ?k0); (case k0 => walk_at "ev"))
  | ((with_reducible refine' et_not ?k0); (case k0 => walk_at "et"))
  | ((with_reducible refine' et_and ?k0 (fun hb => ?k1)); (case k0 => walk_at "et"); (case k1 => (walk_at "hb"; walk_at "et")))
  | ((with_reducible refine' et_or ?k0 (fun hb => ?k1)); (case k0 => walk_at "et"); (case k1 => (walk_at "hb"; walk_at "et"))))
local macro_rules | `(tactic| walk_at "ev") => `(tactic| first
  | ((with_reducible refine' ev_var ?k0); (case k0 => rfl))
  | exact ev_c
  | ((with_reducible refine' ev_add ?k0 ?k1); (case k0 => walk_at "ev"); (case k1 => walk_at "ev"))
  | ((with_reducible refine' ev_sub ?k0 ?k1); (case k0 => walk_at "ev"); (case k1 => walk_at "ev"))
  | ((with_reducible refine' ev_ixI ?k0 ?k1 ?k2 ?k3 ?k4); (case k0 => walk_at "ev"); (case k1 => walk_at "ev"); (case k2 => walk_at "sq"); (case k3 => walk_at "ar"); (case k4 => walk_at "ar"))
  | ((with_reducible refine' ev_ixT ?k0 ?k1 ?k2 ?k3); (case k0 => walk_at "ev"); (case k1 => walk_at "ev"); (case k2 => walk_at "st"); (case k3 => rfl))
  | ((with_reducible refine' ev_lt ?k0 ?k1); (case k0 => walk_at "ev"); (case k1 => walk_at "ev"))
  | ((with_reducible refine' ev_gt ?k0 ?k1); (case k0 => walk_at "ev"); (case k1 => walk_at "ev"))
  | ((with_reducible refine' ev_le ?k0 ?k1); (case k0 => walk_at "ev"); (case k1 => walk_at "ev"))
  | ((with_reducible refine' ev_ge ?k0 ?k1); (case k0 => walk_at "ev"); (case k1 => walk_at "ev"))
  | ((with_reducible refine' ev_eqI ?k0 ?k1); (case k0 => walk_at "ev"); (case k1 => walk_at "ev"))
  | ((with_reducible refine' ev_neI ?k0 ?k1); (case k0 => walk_at "ev"); (case k1 => walk_at "ev"))
  | ((with_reducible refine' ev_eqB ?k0 ?k1); (case k0 => walk_at "ev"); (case k1 => walk_at "ev"))
  | ((with_reducible refine' ev_neB ?k0 ?k1); (case k0 => walk_at "ev"); (case k1 => walk_at "ev"))
  | ((with_reducible refine' ev_eqS ?k0 ?k1); (case k0 => walk_at "ev"); (case k1 => walk_at "ev"))
  | ((with_reducible refine' ev_neS ?k0 ?k1); (case k0 => walk_at "ev"); (case k1 => walk_at "ev"))
  | ((with_reducible refine' ev_mod ?k0 ?k1 ?k2); (case k0 => walk_at "ev"); (case k1 => walk_at "ev"); (case k2 => walk_at "ar"))
  | ((with_reducible refine' ev_mul ?k0 ?k1 ?k2); (case k0 => walk_at "ev"); (case k1 => walk_at "ev"); (case k2 => walk_at "mul"))
  | ((with_reducible refine' ev_div ?k0 ?k1 ?k2); (case k0 => walk_at "ev"); (case k1 => walk_at "ev"); (case k2 => walk_at "div"))
  | ((with_reducible refine' ev_neg ?k0); (case k0 => walk_at "ev"))
  | ((with_reducible refine' ev_callD ?k0 ?k1); (case k0 => walk_at "ea"); (case k1 => walk_at "sp"))
  | ((with_reducible refine' ev_lenI ?k0 ?k1); (case k0 => walk_at "ev"); (case k1 => walk_at "sq"))
  | ((with_reducible refine' ev_lenQ ?k0 ?k1); (case k0 => walk_at "ev"); (case k1 => walk_at "sq2"))
  | ((with_reducible refine' ev_lenSet ?k0 ?k1 ?k2); (case k0 => walk_at "ev"); (case k1 => walk_at "sq2"); (case k2 => walk_at "ar"))
  | ((with_reducible refine' ev_inI ?k0 ?k1 ?k2); (case k0 => walk_at "ev"); (case k1 => walk_at "ev"); (case k2 => walk_at "sq2"))
  | ((with_reducible refine' ev_notInI ?k0 ?k1 ?k2); (case k0 => walk_at "ev"); (case k1 => walk_at "ev"); (case k2 => walk_at "sq2"))
  | ((with_reducible refine' ev_lenTxt ?k0 ?k1); (case k0 => walk_at "ev"); (case k1 => walk_at "ar"))
  | ((with_reducible refine' ev_lenS ?k0 ?k1); (case k0 => walk_at "ev"); (case k1 => walk_at "ar"))
  | ((with_reducible refine' ev_ixTxt ?k0 ?k1 ?k2 ?k3 ?k4); (case k0 => walk_at "ev"); (case k1 => walk_at "ev"); (case k2 => walk_at "ar"); (case k3 => walk_at "ar"); (case k4 => walk_at "ar"))
  | ((with_reducible refine' ev_ix2 ?k0); (case k0 => walk_at "ev"))
  | ((with_reducible refine' ev_isiI ?k0); (case k0 => walk_at "ev"))
  | ((with_reducible refine' ev_isiL ?k0 ?k1); (case k0 => walk_at "ev"); (case k1 => walk_at "hl"))
  | ((with_reducible refine' ev_isiU ?k0 ?k1); (case k0 => walk_at "ev"); (case k1 => walk_at "hl"))
  | ((with_reducible refine' ev_isiS ?k0); (case k0 => walk_at "ev"))
  | ((with_reducible refine' ev_isiB ?k0); (case k0 => walk_at "ev"))
  | ((with_reducible refine' ev_isN ?k0); (case k0 => walk_at "ev"))
  | ((with_reducible refine' ev_notN ?k0); (case k0 => walk_at "ev"))
  | ((with_reducible refine' ev_notIB ?k0 ?k1); (case k0 => walk_at "ev"); (case k1 => walk_at "ev"))
  | ((with_reducible refine' ev_neNil ?k0 ?k1); (case k0 => walk_at "ev"); (case k1 => walk_at "sq"))
  | ((with_reducible refine' ev_eqNil ?k0 ?k1); (case k0 => walk_at "ev"); (case k1 => walk_at "sq"))
  | ((with_reducible refine' ev_eqL ?k0 ?k1 ?k2 ?k3); (case k0 => walk_at "ev"); (case k1 => walk_at "ev"); (case k2 => walk_at "sq"); (case k3 => walk_at "sq"))
  | ((with_reducible refine' ev_neL ?k0 ?k1 ?k2 ?k3); (case k0 => walk_at "ev"); (case k1 => walk_at "ev"); (case k2 => walk_at "sq"); (case k3 => walk_at "sq"))
  | ((with_reducible refine' ev_min2 ?k0 ?k1); (case k0 => walk_at "ev"); (case k1 => walk_at "ev"))
  | ((with_reducible refine' ev_max2 ?k0 ?k1); (case k0 => walk_at "ev"); (case k1 => walk_at "ev"))
  | ((with_reducible refine' ev_intB ?k0); (case k0 => walk_at "ev"))
  | ((with_reducible refine' ev_andV ?k0 (fun hb => ?k1)); (case k0 => walk_at "ev"); (case k1 => (walk_at "hb"; walk_at "ev")))
  | ((with_reducible refine' ev_orV ?k0 (fun hb => ?k1)); (case k0 => walk_at "ev"); (case k1 => (walk_at "hb"; walk_at "ev")))
  | ((with_reducible refine' ev_notV ?k0); (case k0 => walk_at "ev"))
  | ((with_reducible refine' ev_ifI ?k0 (fun hb => ?k1) (fun hb => ?k2)); (case k0 => walk_at "et"); (case k1 => (walk_at "hb"; walk_at "ev")); (case k2 => (walk_at "hb"; walk_at "ev")))
  | ((with_reducible refine' ev_ifS ?k0 (fun hb => ?k1) (fun hb => ?k2)); (case k0 => walk_at "et"); (case k1 => (walk_at "hb"; walk_at "ev")); (case k2 => (walk_at "hb"; walk_at "ev"))))
local macro_rules | `(tactic| walk_at "hb") => `(tactic| (try simp only [decide_eq_true_eq, decide_eq_false_iff_not, Bool.and_eq_true, Bool.or_eq_true, Bool.or_eq_false_iff, Bool.not_eq_true', Bool.not_eq_false', beq_iff_eq] at *))
local macro_rules | `(tactic| walk_at "sp") => `(tactic| first
  | (refine' v_number ?k0 ?k1 ?k2; (case k0 => walk_at "sq"); (case k1 => walk_at "ar"); (case k2 => walk_at "ar"))
  | (refine' v_drawn ?k0 ?k1; (case k0 => walk_at "sq"); (case k1 => walk_at "ar"))
  | exact v_size
  | exact v_counts
  | (refine' v_wraps ?k0 ?k1 ?k2 ?k3 ?k4; (case k0 => walk_at "sq"); (case k1 => walk_at "ar"); (case k2 => walk_at "ar"); (case k3 => walk_at "ar"); (case k4 => walk_at "ar"))
  | (refine' v_l_wraps ?k0 ?k1 ?k2 ?k3 ?k4; (case k0 => walk_at "sq"); (case k1 => walk_at "ar"); (case k2 => walk_at "ar"); (case k3 => walk_at "ar"); (case k4 => walk_at "ar"))
  | (refine' v_cross ?k0 ?k1 ?k2 ?k3 ?k4; (case k0 => walk_at "sq"); (case k1 => walk_at "ar"); (case k2 => walk_at "ar"); (case k3 => walk_at "ar"); (case k4 => walk_at "ar"))
  | (refine' v_places ?k0 ?k1 ?k2; (case k0 => walk_at "sq"); (case k1 => walk_at "ar"); (case k2 => assumption))
  | (refine' v_letters ?k0 ?k1 ?k2; (case k0 => walk_at "sq"); (case k1 => walk_at "ar"); (case k2 => assumption))
  | (refine' v_l_places ?k0 ?k1 ?k2; (case k0 => walk_at "sq"); (case k1 => walk_at "ar"); (case k2 => assumption))
  | (refine' v_fits ?k0 ?k1 ?k2 ?k3; (case k0 => walk_at "sq"); (case k1 => walk_at "ar"); (case k2 => walk_at "ar"); (case k3 => walk_at "ar"))
  | (refine' v_none ?k0 ?k1 ?k2; (case k0 => walk_at "sq"); (case k1 => walk_at "ar"); (case k2 => walk_at "ar")))
local macro_rules | `(tactic| walk_at "sp") => `(tactic| first
  | (refine' v_turned ?k0 ?k1 ?k2; (case k0 => walk_at "sq"); (case k1 => walk_at "ar"); (case k2 => assumption))
  | (refine' v_same ?k0 ?k1 ?k2; (case k0 => walk_at "hl"); (case k1 => walk_at "sq"); (case k2 => walk_at "ar"))
  | (refine' v_told ?k0 ?k1 ?k2; (case k0 => walk_at "sq"); (case k1 => walk_at "hl"); (case k2 => assumption))
  | (refine' v_parted ?k0 ?k1 ?k2 ?k3; (case k0 => walk_at "sq"); (case k1 => walk_at "ar"); (case k2 => walk_at "ar"); (case k3 => assumption)))
local macro_rules | `(tactic| walk_at "sp") => `(tactic| first
  | (refine' v_is_pile ?k0 ?k1 ?k2 ?k3; (case k0 => walk_at "hl"); (case k1 => assumption); (case k2 => walk_at "ar"); (case k3 => walk_at "ar")))
local macro_rules | `(tactic| walk_at "sp") => `(tactic| first
  | (refine' v_held ?k0 ?k1 ?k2 ?k3 ?k4 ?k5; (case k0 => walk_at "sq"); (case k1 => walk_at "st"); (case k2 => walk_at "ar"); (case k3 => (refine ⟨?_, ?_⟩ <;> walk_at "ar")); (case k4 => (refine ⟨?_, ?_⟩ <;> walk_at "ar")); (case k5 => (refine ⟨?_, ?_⟩ <;> walk_at "ar")))
  | (refine' v_l_held ?k0 ?k1 ?k2 ?k3 ?k4; (case k0 => walk_at "sq"); (case k1 => walk_at "ar"); (case k2 => (refine ⟨?_, ?_⟩ <;> walk_at "ar")); (case k3 => (refine ⟨?_, ?_⟩ <;> walk_at "ar")); (case k4 => (refine ⟨?_, ?_⟩ <;> walk_at "ar")))
  | (refine' v_lies ?k0 ?k1 ?k2 ?k3 ?k4; (case k0 => walk_at "sq"); (case k1 => walk_at "st"); (case k2 => walk_at "ar"); (case k3 => (refine ⟨?_, ?_⟩ <;> walk_at "ar")); (case k4 => (refine ⟨?_, ?_⟩ <;> walk_at "ar")))
  | (refine' v_judged ?k0 ?k1 ?k2 ?k3; (case k0 => walk_at "sq"); (case k1 => walk_at "ar"); (case k2 => assumption); (case k3 => assumption))
  | (refine' v_l_free ?k0 ?k1 ?k2 ?k3 ?k4 ?k5; (case k0 => walk_at "sq"); (case k1 => walk_at "sq"); (case k2 => walk_at "ar"); (case k3 => walk_at "ar"); (case k4 => walk_at "ar"); (case k5 => assumption))
  | (refine' v_are_free ?k0 ?k1 ?k2 ?k3 ?k4 ?k5; (case k0 => walk_at "sq"); (case k1 => walk_at "sq2"); (case k2 => walk_at "ar"); (case k3 => walk_at "ar"); (case k4 => walk_at "ar"); (case k5 => assumption)))
section
variable {K : PySem.W.Frag} {c : Cs}
local macro_rules | `(tactic| walk_at "hb") => `(tactic| (try simp only [decide_eq_true_eq, decide_eq_false_iff_not, Bool.and_eq_true, Bool.or_eq_true, Bool.or_eq_false_iff, Bool.not_eq_true', Bool.not_eq_false', beq_iff_eq] at *))
local macro_rules | `(tactic| walk_at "sp") => `(tactic| first
  | (refine' v_number ?k0 ?k1 ?k2; (case k0 => walk_at "sq"); (case k1 => walk_at "ar"); (case k2 => walk_at "ar"))
  | (refine' v_wraps ?k0 ?k1 ?k2 ?k3 ?k4; (case k0 => walk_at "sq"); (case k1 => walk_at "ar"); (case k2 => walk_at "ar"); (case k3 => walk_at "ar"); (case k4 => walk_at "ar"))
  | (refine' v_l_wraps ?k0 ?k1 ?k2 ?k3 ?k4; (case k0 => walk_at "sq"); (case k1 => walk_at "ar"); (case k2 => walk_at "ar"); (case k3 => walk_at "ar"); (case k4 => walk_at "ar"))
  | (refine' v_cross ?k0 ?k1 ?k2 ?k3 ?k4; (case k0 => walk_at "sq"); (case k1 => walk_at "ar"); (case k2 => walk_at "ar"); (case k3 => walk_at "ar"); (case k4 => walk_at "ar"))
  | (refine' v_places ?k0 ?k1 ?k2; (case k0 => walk_at "sq"); (case k1 => walk_at "ar"); (case k2 => assumption))
  | (refine' v_l_places ?k0 ?k1 ?k2; (case k0 => walk_at "sq"); (case k1 => walk_at "ar"); (case k2 => assumption))
  | (refine' v_fits ?k0 ?k1 ?k2 ?k3; (case k0 => walk_at "sq"); (case k1 => walk_at "ar"); (case k2 => walk_at "ar"); (case k3 => walk_at "ar")))

theorem read_wraps (vs : List V) (H : Hp) (Q : VK) (E : XK) (h : sp_wraps K c vs H Q E) : t_wraps K c E { nx := fun _ H' => Q .non H', rt := Q } (start ["at", "crease", "stamp", "ends"] vs) H := by
  obtain ⟨a, p, i, s, rfl, hS, ⟨i0, i1⟩, ⟨s0, s1⟩, q⟩ := h
  refine Go.here (g_asgL (xs := [lo (gi p i) (gi p (i + 1)), hi (gi p i) (gi p (i + 1))].map V.int) (el_sortedN (ns := [gi p i, gi p (i + 1)]) (el_lst (vs := [.int (gi p i), .int (gi p (i + 1))]) (by walk_at "ea") (Nat.le_of_ble_eq_true rfl)) sort2) fun r H1 hr e1 hl => ?_)
  have hE : SqL K H1 r ([lo (gi p i) (gi p (i + 1)), hi (gi p i) (gi p (i + 1))].map V.int) := sq_lst hl
  refine g_ret (v := .bl (wr p i s)) ?_ fun H2 e2 => q H2 (e1.trans e2)
  have hS1 : SqL K H1 a (p.map V.int) := ex_l e1 hS
  have x0 : Ev (tOp (rIxL K) (tVar 3) (tC (.int 0))) [some (.ref a), some (.int i), some (.int s), some (.ref r)] H1 (.int (lo (gi p i) (gi p (i + 1)))) := ev_ixL (ev_var rfl) ev_c hE rfl
  have x1 : Ev (tOp (rIxL K) (tVar 3) (tC (.int 1))) [some (.ref a), some (.int i), some (.int s), some (.ref r)] H1 (.int (hi (gi p i) (gi p (i + 1)))) := ev_ixL (ev_var rfl) ev_c hE rfl
  have x2 : Ev (tOp (rIxL K) (tVar 0) (tVar 2)) [some (.ref a), some (.int i), some (.int s), some (.ref r)] H1 (.int (gi p s)) := by walk_at "ev"
  exact ev_andV (ev_lt x0 x2) fun _ => ev_lt x2 x1

theorem read_l_wraps (vs : List V) (H : Hp) (Q : VK) (E : XK) (h : sp_l_wraps K c vs H Q E) : t_l_wraps K c E { nx := fun _ H' => Q .non H', rt := Q } (start ["_law_at", "_law_crease", "_law_stamp", "_law_low", "_law_high"] vs) H := by
  obtain ⟨a, p, i, s, rfl, hS, ⟨i0, i1⟩, ⟨s0, s1⟩, q⟩ := h
  refine Go.here (g_asg (v := .int (lo (gi p i) (gi p (i + 1)))) (ev_min2 (by walk_at "ev") (by walk_at "ev")) ?_)
  refine g_asg (v := .int (hi (gi p i) (gi p (i + 1)))) (ev_max2 (by walk_at "ev") (by walk_at "ev")) ?_
  exact g_ret (v := .bl (wr p i s)) (by unfold wr wrB; walk_at "ev") q

theorem read_crossing (vs : List V) (H : Hp) (Q : VK) (E : XK) (h : sp_crossing K c vs H Q E) : t_crossing K c E { nx := fun _ H' => Q .non H', rt := Q } (start ["pile", "at", "one", "other"] vs) H := by
  obtain ⟨a, ns, rfl, hS, hlen, q, x⟩ := h
  by_cases hp : IsPile ns
  · refine Go.here (g_asgL (xs := (pl ns).map V.int) (el_callD (by walk_at "ea") (v_places hS hlen hp)) fun r H1 hr e1 hl => ?_)
    have hpl := pl_len ns
    have hps := hp.pos
    obtain ⟨q1, q2⟩ := q hp
    generalize hgp : pl ns = p at *
    refine g_forR1 (n := (p.length : Int) - 1) (by walk_at "ea") (by omega) (fun k σ H' => ∃ (y2 y3 : Option V), σ = [some (.ref a), some (.ref r), y2, y3] ∧ Ex H1 H' ∧ ∀ i j : Int, i < (k : Int) → ¬ XX p i j)
      (fun H2 e2 => ⟨none, none, rfl, e2, fun i j hi x => by have := x.i0; omega⟩) (fun k σ H' hk hP => ?_) (fun σ H' hP => ?_) (by omega)
    · obtain ⟨y2, y3, rfl, e, hn⟩ := hP
      refine g_forR3 (lo := (k : Int) + 2) (n := (p.length : Int) - 1) (by walk_at "ea") (by omega) (fun m σ H' => ∃ y3 : Option V, σ = [some (.ref a), some (.ref r), some (.int (k : Int)), y3] ∧ Ex H1 H' ∧ ∀ j : Int, j < (k : Int) + 2 + (m : Int) * 2 → ¬ XX p (k : Int) j)
        (fun H2 e2 => ⟨y3, rfl, e.trans e2, fun j hj x => by have := x.ij; have := x.even; omega⟩) (fun m σ H' hm hP => ?_) (fun σ H' hP => ?_)
      · obtain ⟨y3, rfl, e, hn2⟩ := hP
        refine g_when (b := !(wr p (k : Int) ((k : Int) + 2 + (m : Int) * 2) == wr p (k : Int) ((k : Int) + 2 + (m : Int) * 2 + 1))) (by walk_at "et") (fun hb => ?_) (fun hb => ?_)
        · rw [Bool.not_eq_true', beq_eq_false_iff_ne] at hb
          exact g_retU (xs := [.int (k : Int), .int ((k : Int) + 2 + (m : Int) * 2)]) (eu_tup (by walk_at "ea") (Nat.le_of_ble_eq_true rfl)) fun u H3 hu e3 hl3 =>
            q2 _ _ ⟨by omega, by omega, by omega, by omega, hb⟩ u H3 (fresh_back (e1.trans e) hu) ((e1.trans e).trans e3) hl3
        · rw [Bool.not_eq_false', beq_iff_eq] at hb
          refine g_next fun H3 e3 => ⟨_, rfl, e.trans e3, fun j hj xx => ?_⟩
          have h1 := xx.even
          have h2 := xx.ij
          by_cases h3 : j = (k : Int) + 2 + (m : Int) * 2
          · rw [h3] at xx
            exact xx.ne hb
          · exact hn2 j (by omega) xx
      · obtain ⟨y3, rfl, e, hn2⟩ := hP
        refine g_next fun H3 e3 => ⟨_, _, rfl, e.trans e3, fun i j hij xx => ?_⟩
        by_cases h3 : i = (k : Int)
        · subst h3
          have h1 := xx.jn
          have h2 := xx.even
          exact hn2 j (by omega) xx
        · exact hn i j (by omega) xx
    · obtain ⟨y2, y3, rfl, e, hn⟩ := hP
      refine g_ret (v := .non) ev_c fun H3 e3 => q1 (fun i j xx => ?_) H3 ((e1.trans e).trans e3)
      have h1 := xx.jn
      have h2 := xx.ij
      exact hn i j (by omega) xx
  · exact Go.here (g_asgX (evx_call (by walk_at "ea") (x_places hS hlen hp (x hp))))

theorem read_l_none_cross2 (vs : List V) (H : Hp) (Q : VK) (E : XK) (h : sp_l_none_cross K c vs H Q E) : t_l_none_cross2 K c E { nx := fun _ H' => Q .non H', rt := Q } (start ["_law_at", "_law_one", "_law_other"] vs) H := by
  obtain ⟨a, p, rfl, hS, hlen, hl1, q⟩ := h
  refine Go.here ?_
  refine g_forR1 (n := (p.length : Int) - 1) (by walk_at "ea") (by omega) (fun k σ H' => ∃ (y2 y3 : Option V), σ = [some (.ref a), y2, y3] ∧ Ex H H' ∧ ∀ i j : Int, i < (k : Int) → ¬ XX p i j)
    (fun H2 e2 => ⟨none, none, rfl, e2, fun i j hi x => by have := x.i0; omega⟩) (fun k σ H' hk hP => ?_) (fun σ H' hP => ?_) (by omega)
  · obtain ⟨y2, y3, rfl, e, hn⟩ := hP
    refine g_forR3 (lo := (k : Int) + 2) (n := (p.length : Int) - 1) (by walk_at "ea") (by omega) (fun m σ H' => ∃ y3 : Option V, σ = [some (.ref a), some (.int (k : Int)), y3] ∧ Ex H H' ∧ ∀ j : Int, j < (k : Int) + 2 + (m : Int) * 2 → ¬ XX p (k : Int) j)
      (fun H2 e2 => ⟨y3, rfl, e.trans e2, fun j hj x => by have := x.ij; have := x.even; omega⟩) (fun m σ H' hm hP => ?_) (fun σ H' hP => ?_)
    · obtain ⟨y3, rfl, e, hn2⟩ := hP
      refine g_when (b := crB p (k : Int) ((k : Int) + 2 + (m : Int) * 2)) (by walk_at "et") (fun hb => ?_) (fun hb => ?_)
      · refine g_ret (v := .bl false) ev_c fun H3 e3 => ?_
        have hx : XX p (k : Int) ((k : Int) + 2 + (m : Int) * 2) := ⟨by omega, by omega, by omega, by omega, by
          unfold crB at hb
          rw [if_neg (by omega), Bool.not_eq_true', beq_eq_false_iff_ne] at hb
          exact hb⟩
        have hf : noX p = false := by
          rw [Bool.eq_false_iff]
          exact fun z => (noX_iff p).mp z _ _ hx
        rw [← hf]
        exact q H3 (e.trans e3)
      · refine g_next fun H3 e3 => ⟨_, rfl, e.trans e3, fun j hj xx => ?_⟩
        have h1 := xx.even
        have h2 := xx.ij
        by_cases h3 : j = (k : Int) + 2 + (m : Int) * 2
        · rw [h3] at xx
          unfold crB at hb
          rw [if_neg (by omega), Bool.not_eq_false', beq_iff_eq] at hb
          exact xx.ne hb
        · exact hn2 j (by omega) xx
    · obtain ⟨y3, rfl, e, hn2⟩ := hP
      refine g_next fun H3 e3 => ⟨_, _, rfl, e.trans e3, fun i j hij xx => ?_⟩
      by_cases h3 : i = (k : Int)
      · subst h3
        have h1 := xx.jn
        have h2 := xx.even
        exact hn2 j (by omega) xx
      · exact hn i j (by omega) xx
  · obtain ⟨y2, y3, rfl, e, hn⟩ := hP
    refine g_ret (v := .bl true) ev_c fun H3 e3 => ?_
    have ht : noX p = true := (noX_iff p).mpr fun i j xx => by
      have h1 := xx.jn
      have h2 := xx.ij
      exact hn i j (by omega) xx
    rw [← ht]
    exact q H3 (e.trans e3)

theorem read_l_cross (vs : List V) (H : Hp) (Q : VK) (E : XK) (h : sp_l_cross K c vs H Q E) : t_l_cross K c E { nx := fun _ H' => Q .non H', rt := Q } (start ["_law_at", "_law_one", "_law_other"] vs) H := by
  obtain ⟨a, p, i, j, rfl, hS, ⟨i0, i1⟩, ⟨j0, j1⟩, q⟩ := h
  refine Go.here (g_when (b := decide (i = j) || decide ((i - j) % 2 = 1)) (by walk_at "et") (fun hb => ?_) (fun hb => ?_))
  · refine g_ret (v := .bl false) ev_c ?_
    have e : crB p i j = false := by
      unfold crB
      rw [if_pos (by simpa using hb)]
    rw [← e]
    exact q
  · refine g_ret (v := .bl (crB p i j)) ?_ q
    unfold crB
    rw [if_neg (by simpa using hb)]
    walk_at "ev"
end
end Fo
/-! FoldR5 -/
namespace Fo
open PySem L2 Evl
local macro_rules | `(tactic| walk_at "hl") => `(tactic| first
  | assumption
  | exact upd_same
  | (refine (by assumption : Ex _ _) _ _ ?_; walk_at "hl"))
local macro_rules | `(tactic| walk_at "sq") => `(tactic| first
  | assumption
  | (refine sq_lst ?_; walk_at "hl")
  | (refine ex_l (by assumption) ?_; walk_at "sq"))
local macro_rules | `(tactic| walk_at "st") => `(tactic| first
  | assumption
  | (refine st_of ?_; walk_at "hl")
  | (refine ex_t (by assumption) ?_; walk_at "st"))
local macro_rules | `(tactic| walk_at "sq2") => `(tactic| first
  | assumption
  | (refine Or.inl ?_; walk_at "sq")
  | (refine Or.inr ?_; walk_at "st")
  | (refine Sq2.mono (by assumption) ?_; walk_at "sq2"))
local macro_rules | `(tactic| walk_at "ar") => `(tactic| first
  | assumption
  | omega
  | decide)
local macro_rules | `(tactic| walk_at "lar") => `(tactic| first
  | omega
  | (simp only [List.length_append, List.length_map, List.length_take, List.length_drop, List.length_cons, List.length_nil, List.length_replicate]; omega))
local macro_rules | `(tactic| walk_at "hb") => `(tactic| first
  | skip)
local macro_rules | `(tactic| walk_at "mul") => `(tactic| first
  | (exact Or.inr ⟨by decide, by decide⟩)
  | (exact Or.inl ⟨by decide, by decide⟩)
  | (exact Or.inl ⟨by omega, by omega⟩)
  | (exact Or.inr ⟨by omega, by omega⟩))
local macro_rules | `(tactic| walk_at "div") => `(tactic| first
  | (exact ⟨by decide, by decide⟩)
  | (exact ⟨by omega, by omega⟩))
local macro_rules | `(tactic| walk_at "ea") => `(tactic| first
  | exact ea_nil
  | ((with_reducible refine' ea_cons ?k0 ?k1); (case k0 => walk_at "ev"); (case k1 => walk_at "ea")))
local macro_rules | `(tactic| walk_at "eo") => `(tactic| first
  | exact eo_none
  | ((with_reducible refine' eo_some ?k0); (case k0 => walk_at "ev")))
local macro_rules | `(tactic| walk_at "el") => `(tactic| first
  | ((with_reducible refine' el_lst ?k0 ?k1); (case k0 => walk_at "ea"); (case k1 => (exact Nat.le_of_ble_eq_true rfl)))
  | ((with_reducible refine' el_from ?k0 ?k1 ?k2 ?k3 ?k4); (case k0 => walk_at "ev"); (case k1 => walk_at "eo"); (case k2 => walk_at "sq"); (case k3 => walk_at "ar"); (case k4 => walk_at "lar"))
  | ((with_reducible refine' el_upto ?k0 ?k1 ?k2 ?k3 ?k4); (case k0 => walk_at "ev"); (case k1 => walk_at "eo"); (case k2 => walk_at "sq"); (case k3 => walk_at "ar"); (case k4 => walk_at "lar"))
  | ((with_reducible refine' el_rep1 ?k0 ?k1 ?k2 ?k3); (case k0 => walk_at "el"); (case k1 => walk_at "ev"); (case k2 => walk_at "ar"); (case k3 => walk_at "ar"))
  | ((with_reducible refine' el_cat ?k0 ?k1 ?k2); (case k0 => walk_at "el"); (case k1 => walk_at "el"); (case k2 => walk_at "lar"))
  | ((with_reducible refine' el_callD ?k0 ?k1); (case k0 => walk_at "ea"); (case k1 => walk_at "sp"))
  | ((with_reducible refine' el_list ?k0 ?k1); (case k0 => walk_at "ev"); (case k1 => walk_at "sq"))
  | ((with_reducible refine' el_srt ?k0 ?k1); (case k0 => walk_at "ev"); (case k1 => walk_at "sq"))
  | ((with_reducible refine' el_sortedQ ?k0 ?k1); (case k0 => walk_at "ev"); (case k1 => walk_at "sq2"))
  | ((with_reducible refine' el_rev ?k0 ?k1); (case k0 => walk_at "ev"); (case k1 => walk_at "sq"))
  | ((with_reducible refine' el_step ?k0 ?k1 ?k2); (case k0 => walk_at "ev"); (case k1 => walk_at "eo"); (case k2 => walk_at "sq")))
local macro_rules | `(tactic| walk_at "et") => `(tactic| first
  | ((with_reducible refine' et_test ?k0); (case k0 => walk_at "ev"))
  | ((with_reducible refine' et_B ?k0); (case k0 => walk_at "ev"))
  | ((with_reducible refine' et_not ?k0); (case k0 => walk_at "et"))
  | ((with_reducible refine' et_and ?k0 (fun hb => ?k1)); (case k0 => walk_at "et"); (case k1 => (walk_at "hb"; walk_at "et")))
  | ((with_reducible refine' et_or ?k0 (fun hb => ?k1)); (case k0 => walk_at "et"); (case k1 => (walk_at "hb"; walk_at "et"))))
local macro_rules | `(tactic| walk_at "ev") => `(tactic| first
  | ((with_reducible refine' ev_var ?k0); (case k0 => rfl))
  | exact ev_c
  | ((with_reducible refine' ev_add ?k0 ?k1); (case k0 => walk_at "ev"); (case k1 => walk_at "ev"))
  | ((with_reducible refine' ev_sub ?k0 ?k1); (case k0 => walk_at "ev"); (case k1 => walk_at "ev"))
  | ((with_reducible refine' ev_ixI ?k0 ?k1 ?k2 ?k3 ?k4); (case k0 => walk_at "ev"); (case k1 => walk_at "ev"); (case k2 => walk_at "sq"); (case k3 => walk_at "ar"); (case k4 => walk_at "ar"))
  | ((with_reducible refine' ev_ixT ?k0 ?k1 ?k2 ?k3); (case k0 => walk_at "ev"); (case k1 => walk_at "ev"); (case k2 => walk_at "st"); (case k3 => rfl))
  | ((with_reducible refine' ev_lt ?k0 ?k1); (case k0 => walk_at "ev"); (case k1 => walk_at "ev"))
  | ((with_reducible refine' ev_gt ?k0 ?k1); (case k0 => walk_at "ev"); (case k1 => walk_at "ev"))
  | ((with_reducible refine' ev_le ?k0 ?k1); (case k0 => walk_at "ev"); (case k1 => walk_at "ev"))
  | ((with_reducible refine' ev_ge ?k0 ?k1); (case k0 => walk_at "ev"); (case k1 => walk_at "ev"))
  | ((with_reducible refine' ev_eqI ?k0 ?k1); (case k0 => walk_at "ev"); (case k1 => walk_at "ev"))
  | ((with_reducible refine' ev_neI ?k0 ?k1); (case k0 => walk_at "ev"); (case k1 => walk_at "ev"))
  | ((with_reducible refine' ev_eqB ?k0 ?k1); (case k0 => walk_at "ev"); (case k1 => walk_at "ev"))
  | ((with_reducible refine' ev_neB ?k0 ?k1); (case k0 => walk_at "ev"); (case k1 => walk_at "ev"))
  | ((with_reducible refine' ev_eqS ?k0 ?k1); (case k0 => walk_at "ev"); (case k1 => walk_at "ev"))
  | ((with_reducible refine' ev_neS ?k0 ?k1); (case k0 => walk_at "ev"); (case k1 => walk_at "ev"))
  | ((with_reducible refine' ev_mod ?k0 ?k1 ?k2); (case k0 => walk_at "ev"); (case k1 => walk_at "ev"); (case k2 => walk_at "ar"))
  | ((with_reducible refine' ev_mul ?k0 ?k1 ?k2); (case k0 => walk_at "ev"); (case k1 => walk_at "ev"); (case k2 => walk_at "mul"))
  | ((with_reducible refine' ev_div ?k0 ?k1 ?k2); (case k0 => walk_at "ev"); (case k1 => walk_at "ev"); (case k2 => walk_at "div"))
  | ((with_reducible refine' ev_neg ?k0); (case k0 => walk_at "ev"))
  | ((with_reducible refine' ev_callD ?k0 ?k1); (case k0 => walk_at "ea"); (case k1 => walk_at "sp"))
  | ((with_reducible refine' ev_lenI ?k0 ?k1); (case k0 => walk_at "ev"); (case k1 => walk_at "sq"))
  | ((with_reducible refine' ev_lenQ ?k0 ?k1); (case k0 => walk_at "ev"); (case k1 => walk_at "sq2"))
  | ((with_reducible refine' ev_lenSet ?k0 ?k1 ?k2); (case k0 => walk_at "ev"); (case k1 => walk_at "sq2"); (case k2 => walk_at "ar"))
  | ((with_reducible refine' ev_inI ?k0 ?k1 ?k2); (case k0 => walk_at "ev"); (case k1 => walk_at "ev"); (case k2 => walk_at "sq2"))
  | ((with_reducible refine' ev_notInI ?k0 ?k1 ?k2); (case k0 => walk_at "ev"); (case k1 => walk_at "ev"); (case k2 => walk_at "sq2"))
  | ((with_reducible refine' ev_lenTxt ?k0 ?k1); (case k0 => walk_at "ev"); (case k1 => walk_at "ar"))
  | ((with_reducible refine' ev_lenS ?k0 ?k1); (case k0 => walk_at "ev"); (case k1 => walk_at "ar"))
  | ((with_reducible refine' ev_ixTxt ?k0 ?k1 ?k2 ?k3 ?k4); (case k0 => walk_at "ev"); (case k1 => walk_at "ev"); (case k2 => walk_at "ar"); (case k3 => walk_at "ar"); (case k4 => walk_at "ar"))
  | ((with_reducible refine' ev_ix2 ?k0); (case k0 => walk_at "ev"))
  | ((with_reducible refine' ev_isiI ?k0); (case k0 => walk_at "ev"))
  | ((with_reducible refine' ev_isiL ?k0 ?k1); (case k0 => walk_at "ev"); (case k1 => walk_at "hl"))
  | ((with_reducible refine' ev_isiU ?k0 ?k1); (case k0 => walk_at "ev"); (case k1 => walk_at "hl"))
  | ((with_reducible refine' ev_isiS ?k0); (case k0 => walk_at "ev"))
  | ((with_reducible refine' ev_isiB ?k0); (case k0 => walk_at "ev"))
  | ((with_reducible refine' ev_isN ?k0); (case k0 => walk_at "ev"))
  | ((with_reducible refine' ev_notN ?k0); (case k0 => walk_at "ev"))
  | ((with_reducible refine' ev_notIB ?k0 ?k1); (case k0 => walk_at "ev"); (case k1 => walk_at "ev"))
  | ((with_reducible refine' ev_neNil ?k0 ?k1); (case k0 => walk_at "ev"); (case k1 => walk_at "sq"))
  | ((with_reducible refine' ev_eqNil ?k0 ?k1); (case k0 => walk_at "ev"); (case k1 => walk_at "sq"))
  | ((with_reducible refine' ev_eqL ?k0 ?k1 ?k2 ?k3); (case k0 => walk_at "ev"); (case k1 => walk_at "ev"); (case k2 => walk_at "sq"); (case k3 => walk_at "sq"))
  | ((with_reducible refine' ev_neL ?k0 ?k1 ?k2 ?k3); (case k0 => walk_at "ev"); (case k1 => walk_at "ev"); (case k2 => walk_at "sq"); (case k3 => walk_at "sq"))
  | ((with_reducible refine' ev_min2 ?k0 ?k1); (case k0 => walk_at "ev"); (case k1 => walk_at "ev"))
  | ((with_reducible refine' ev_max2 ?k0 ?k1); (case k0 => walk_at "ev"); (case k1 => walk_at "ev"))
  | ((with_reducible refine' ev_intB ?k0); (case k0 => walk_at "ev"))
  | ((with_reducible refine' ev_andV ?k0 (fun hb => ?k1)); (case k0 => walk_at "ev"); (case k1 => (walk_at "hb"; walk_at "ev")))
  | ((with_reducible refine' ev_orV ?k0 (fun hb => ?k1)); (case k0 => walk_at "ev"); (case k1 => (walk_at "hb"; walk_at "ev")))
  | ((with_reducible refine' ev_notV ?k0); (case k0 => walk_at "ev"))
  | ((with_reducible refine' ev_ifI ?k0 (fun hb => ?k1) (fun hb => ?k2)); (case k0 => walk_at "et"); (case k1 => (walk_at "hb"; walk_at "ev")); (case k2 => (walk_at "hb"; walk_at "ev")))
  | ((with_reducible refine' ev_ifS ?k0 (fun hb => ?k1) (fun hb => ?k2)); (case k0 => walk_at "et"); (case k1 => (walk_at "hb"; walk_at "ev")); (case k2 => (walk_at "hb"; walk_at "ev"))))
local macro_rules | `(tactic| walk_at "hb") => `(tactic| (try simp only [decide_eq_true_eq, decide_eq_false_iff_not, Bool.and_eq_true, Bool.or_eq_true, Bool.or_eq_false_iff, Bool.not_eq_true', Bool.not_eq_false', beq_iff_eq] at *))
local macro_rules | `(tactic| walk_at "sp") => `(tactic| first
  | (refine' v_number ?k0 ?k1 ?k2; (case k0 => walk_at "sq"); (case k1 => walk_at "ar"); (case k2 => walk_at "ar"))
  | (refine' v_drawn ?k0 ?k1; (case k0 => walk_at "sq"); (case k1 => walk_at "ar"))
  | exact v_size
  | exact v_counts
  | (refine' v_wraps ?k0 ?k1 ?k2 ?k3 ?k4; (case k0 => walk_at "sq"); (case k1 => walk_at "ar"); (case k2 => walk_at "ar"); (case k3 => walk_at "ar"); (case k4 => walk_at "ar"))
  | (refine' v_l_wraps ?k0 ?k1 ?k2 ?k3 ?k4; (case k0 => walk_at "sq"); (case k1 => walk_at "ar"); (case k2 => walk_at "ar"); (case k3 => walk_at "ar"); (case k4 => walk_at "ar"))
  | (refine' v_cross ?k0 ?k1 ?k2 ?k3 ?k4; (case k0 => walk_at "sq"); (case k1 => walk_at "ar"); (case k2 => walk_at "ar"); (case k3 => walk_at "ar"); (case k4 => walk_at "ar"))
  | (refine' v_places ?k0 ?k1 ?k2; (case k0 => walk_at "sq"); (case k1 => walk_at "ar"); (case k2 => assumption))
  | (refine' v_letters ?k0 ?k1 ?k2; (case k0 => walk_at "sq"); (case k1 => walk_at "ar"); (case k2 => assumption))
  | (refine' v_l_places ?k0 ?k1 ?k2; (case k0 => walk_at "sq"); (case k1 => walk_at "ar"); (case k2 => assumption))
  | (refine' v_fits ?k0 ?k1 ?k2 ?k3; (case k0 => walk_at "sq"); (case k1 => walk_at "ar"); (case k2 => walk_at "ar"); (case k3 => walk_at "ar"))
  | (refine' v_none ?k0 ?k1 ?k2; (case k0 => walk_at "sq"); (case k1 => walk_at "ar"); (case k2 => walk_at "ar")))
local macro_rules | `(tactic| walk_at "sp") => `(tactic| first
  | (refine' v_turned ?k0 ?k1 ?k2; (case k0 => walk_at "sq"); (case k1 => walk_at "ar"); (case k2 => assumption))
  | (refine' v_same ?k0 ?k1 ?k2; (case k0 => walk_at "hl"); (case k1 => walk_at "sq"); (case k2 => walk_at "ar"))
  | (refine' v_told ?k0 ?k1 ?k2; (case k0 => walk_at "sq"); (case k1 => walk_at "hl"); (case k2 => assumption))
  | (refine' v_parted ?k0 ?k1 ?k2 ?k3; (case k0 => walk_at "sq"); (case k1 => walk_at "ar"); (case k2 => walk_at "ar"); (case k3 => assumption)))
local macro_rules | `(tactic| walk_at "sp") => `(tactic| first
  | (refine' v_is_pile ?k0 ?k1 ?k2 ?k3; (case k0 => walk_at "hl"); (case k1 => assumption); (case k2 => walk_at "ar"); (case k3 => walk_at "ar")))
local macro_rules | `(tactic| walk_at "sp") => `(tactic| first
  | (refine' v_held ?k0 ?k1 ?k2 ?k3 ?k4 ?k5; (case k0 => walk_at "sq"); (case k1 => walk_at "st"); (case k2 => walk_at "ar"); (case k3 => (refine ⟨?_, ?_⟩ <;> walk_at "ar")); (case k4 => (refine ⟨?_, ?_⟩ <;> walk_at "ar")); (case k5 => (refine ⟨?_, ?_⟩ <;> walk_at "ar")))
  | (refine' v_l_held ?k0 ?k1 ?k2 ?k3 ?k4; (case k0 => walk_at "sq"); (case k1 => walk_at "ar"); (case k2 => (refine ⟨?_, ?_⟩ <;> walk_at "ar")); (case k3 => (refine ⟨?_, ?_⟩ <;> walk_at "ar")); (case k4 => (refine ⟨?_, ?_⟩ <;> walk_at "ar")))
  | (refine' v_lies ?k0 ?k1 ?k2 ?k3 ?k4; (case k0 => walk_at "sq"); (case k1 => walk_at "st"); (case k2 => walk_at "ar"); (case k3 => (refine ⟨?_, ?_⟩ <;> walk_at "ar")); (case k4 => (refine ⟨?_, ?_⟩ <;> walk_at "ar")))
  | (refine' v_judged ?k0 ?k1 ?k2 ?k3; (case k0 => walk_at "sq"); (case k1 => walk_at "ar"); (case k2 => assumption); (case k3 => assumption))
  | (refine' v_l_free ?k0 ?k1 ?k2 ?k3 ?k4 ?k5; (case k0 => walk_at "sq"); (case k1 => walk_at "sq"); (case k2 => walk_at "ar"); (case k3 => walk_at "ar"); (case k4 => walk_at "ar"); (case k5 => assumption))
  | (refine' v_are_free ?k0 ?k1 ?k2 ?k3 ?k4 ?k5; (case k0 => walk_at "sq"); (case k1 => walk_at "sq2"); (case k2 => walk_at "ar"); (case k3 => walk_at "ar"); (case k4 => walk_at "ar"); (case k5 => assumption)))
section
variable {K : PySem.W.Frag} {c : Cs}
theorem read_l_places (vs : List V) (H : Hp) (Q : VK) (E : XK) (h : sp_l_places K c vs H Q E) : t_l_places K c E { nx := fun _ H' => Q .non H', rt := Q } (start ["_law_pile_here", "_law_at", "_law_k"] vs) H := by
  obtain ⟨a, ns, rfl, hS, hlen, pp, q⟩ := h
  have hps := pp.pos
  refine Go.here (g_asgL (xs := List.replicate (ns.length : Int).toNat (.int 0)) (by walk_at "el") fun p H1 hp e1 hl => ?_)
  have e0 : List.replicate (ns.length : Int).toNat (V.int 0) = (plD 0 ns 0).map V.int := by rw [plD_zero, List.map_replicate]; rfl
  rw [e0] at hl
  refine g_forR1 (n := (ns.length : Int)) (by walk_at "ea") (by omega) (fun i σ H' => ∃ y2 : Option V, σ = [some (.ref a), some (.ref p), y2] ∧ Ex H H' ∧ H' p = some (.lst ((plD 0 ns i).map V.int)))
    (fun H2 e2 => ⟨none, rfl, e1.trans e2, e2 p _ hl⟩) (fun i σ H' hi hP => ?_) (fun σ H' hP => ?_) (by omega)
  · obtain ⟨y2, rfl, e, hl'⟩ := hP
    have hin : i < ns.length := by omega
    obtain ⟨z0, z1, _⟩ := pp.st (k := (i : Int)) (by omega) (by omega)
    have hz := gi_get hin
    have hlF := plD_len 0 ns i
    have hnew : gi ns (i : Int) ∉ ns.take i := fun hm => by
      have nd2 := pp.nd
      rw [← List.take_append_drop i ns] at nd2
      have hd : gi ns (i : Int) ∈ ns.drop i := by
        have : (ns.drop i)[0]? = some (gi ns (i : Int)) := by rw [List.getElem?_drop]; exact hz
        exact List.mem_of_getElem? this
      exact (List.nodup_append.mp nd2).2.2 _ hm _ hd rfl
    refine g_setL (xs := (plD 0 ns i).map V.int) hl' (v := .int (i : Int)) (j := gi ns (i : Int)) (by walk_at "ev") (by walk_at "ev") (by walk_at "ev") z0 (by rw [List.length_map, hlF]; exact z1) fun H2 e2 => ?_
    refine g_next (D := _) (fun H3 e3 => ?_) _ (Ex.refl _)
    have e4 : ((plD 0 ns i).map V.int).set (gi ns (i : Int)).toNat (V.int (i : Int)) = (plD 0 ns (i + 1)).map V.int := by rw [← plD_set hz z0 z1 hnew, List.map_set]
    refine ⟨some (.int (i : Int)), rfl, (Ex.mut (e.trans e2) hp).trans e3, ?_⟩
    rw [← e4]
    exact e3 p _ upd_same
  · obtain ⟨y2, rfl, e, hl'⟩ := hP
    rw [show ((ns.length : Nat) : Int).toNat = ns.length from rfl, plD_end pp] at hl'
    exact g_ret (v := .ref p) (by walk_at "ev") fun H2 e2 => q p H2 hp (e.trans e2) (e2 p _ hl')

theorem read_l_fits (vs : List V) (H : Hp) (Q : VK) (E : XK) (h : sp_l_fits K c vs H Q E) : t_l_fits K c E { nx := fun _ H' => Q .non H', rt := Q } (start ["_law_at", "_law_stamp", "_law_gap", "_law_crease", "_law_low", "_law_high"] vs) H := by
  obtain ⟨a, p, s, g, rfl, hS, ⟨hs, s1, s2⟩, q⟩ := h
  subst hs
  have m0 : 0 ≤ ((p.length : Int) + 1) % 2 := Int.emod_nonneg _ (by decide)
  have m1 : ((p.length : Int) + 1) % 2 < 2 := Int.emod_lt_of_pos _ (by decide)
  refine Go.here ?_
  refine g_forR3 (lo := ((p.length : Int) + 1) % 2) (n := (p.length : Int) - 1) (by walk_at "ea") (by omega) (fun m σ H' => ∃ y3 y4 y5 : Option V, σ = [some (.ref a), some (.int (p.length : Int)), some (.int g), y3, y4, y5] ∧ Ex H H' ∧ ∀ c : Int, 0 ≤ c → c < ((p.length : Int) + 1) % 2 + (m : Int) * 2 → ((p.length : Int) - 1 - c) % 2 = 0 → c + 1 < (p.length : Int) - 1 → fitB p g c = true)
    (fun H2 e2 => ⟨none, none, none, rfl, e2, fun c c0 c1 c2 c3 => by omega⟩) (fun m σ H' hm hP => ?_) (fun σ H' hP => ?_)
  · obtain ⟨y3, y4, y5, rfl, e, hn⟩ := hP
    generalize hk : ((p.length : Int) + 1) % 2 + (m : Int) * 2 = k at *
    have k0 : 0 ≤ k := by omega
    refine g_asg (v := .int (lo (gi p k) (gi p (k + 1)))) (ev_min2 (by walk_at "ev") (by walk_at "ev")) ?_
    refine g_asg (v := .int (hi (gi p k) (gi p (k + 1)))) (ev_max2 (by walk_at "ev") (by walk_at "ev")) ?_
    refine g_when (b := !(fitB p g k)) (by unfold fitB wrB; walk_at "et") (fun hb => ?_) (fun hb => ?_)
    · refine g_ret (v := .bl false) ev_c fun H3 e3 => ?_
      have hf : fitsB p g = false := by
        rw [Bool.eq_false_iff]
        intro z
        have hz := (fitsB_iff p g).mp z k k0 (by omega) (by omega)
        rw [hz] at hb
        exact Bool.noConfusion hb
      rw [← hf]
      exact q H3 (e.trans e3)
    · refine g_next fun H3 e3 => ⟨_, _, _, rfl, e.trans e3, fun c c0 c1 c2 c3 => ?_⟩
      by_cases h : c = k
      · rw [h]
        simpa using hb
      · exact hn c c0 (by omega) c2 c3
  · obtain ⟨y3, y4, y5, rfl, e, hn⟩ := hP
    refine g_ret (v := .bl true) ev_c fun H3 e3 => ?_
    have ht : fitsB p g = true := (fitsB_iff p g).mpr fun c c0 c1 c2 => hn c c0 (by omega) c2 c1
    rw [← ht]
    exact q H3 (e.trans e3)

theorem one_pile : IsPile [0] := ⟨by decide, by decide, by decide⟩
theorem one_noX : NoX (pl [0]) := fun i j x => by
  have h1 := x.i0
  have h2 := x.ij
  have h3 := x.jn
  rw [pl_len] at h3
  simp at h3
  omega
theorem read_l_good (vs : List V) (H : Hp) (Q : VK) (E : XK) (h : sp_l_good K c vs H Q E) : t_l_good K c E { nx := fun _ H' => Q .non H', rt := Q } (start ["_law_script", "_law_start", "_law_size_here", "_law_pile_here", "_law_stamp", "_law_at", "_law_number_here", "_law_gap"] vs) H := by
  obtain ⟨a, ns, s, n, rfl, hS, h0, h1, h2, h3, q⟩ := h
  refine Go.here (g_asgL (xs := [.int 0]) (by walk_at "el") fun p H1 hp e1 hl => ?_)
  refine g_forR2 (lo := 1) (n := n) (by walk_at "ea") (by omega) (fun i σ H' => ∃ (p : Addr) (ps : List Int) (y4 y5 y6 y7 : Option V), σ = [some (.ref a), some (.int s), some (.int n), some (.ref p), y4, y5, y6, y7] ∧ Ex H H' ∧ H p = none ∧ H' p = some (.lst (ps.map V.int)) ∧ Per (i + 1) ps ∧ NoX (pl ps))
    (fun H2 e2 => ⟨p, [0], none, none, none, none, rfl, e1.trans e2, hp, e2 p _ hl, one_pile.per, one_noX⟩) (fun i σ H' hi hP => ?_) (fun σ H' hP => ?_)
  · obtain ⟨p, ps, y4, y5, y6, y7, rfl, e, hp, hl, per, nx⟩ := hP
    have pp := per.pile (by omega)
    have hlen := per.len
    have hpl := pl_len ps
    have e1i : (1 : Int) + (i : Int) = ((i + 1 : Nat) : Int) := by omega
    refine g_asgL (xs := (pl ps).map V.int) (by walk_at "el") fun r H2 hr e2 hl2 => ?_
    refine g_asg (v := .int (numb ns (s + (1 + (i : Int))))) (by walk_at "ev") ?_
    have hn0 := numb_lo ns (s + (1 + (i : Int)))
    generalize numb ns (s + (1 + (i : Int))) = nu at hn0 ⊢
    refine g_asg (v := .int (nu % (1 + (i : Int) + 1))) (by walk_at "ev") ?_
    have g0 : 0 ≤ nu % (1 + (i : Int) + 1) := Int.emod_nonneg _ (by omega)
    have g1 : nu % (1 + (i : Int) + 1) < 1 + (i : Int) + 1 := Int.emod_lt_of_pos _ (by omega)
    generalize nu % (1 + (i : Int) + 1) = g at g0 g1 ⊢
    have fin : ∀ (g' : Int), 0 ≤ g' → g' ≤ 1 + (i : Int) → Fits (pl ps) g' → ∀ H3, Ex H2 H3 → Go (tSeq (tAsg (tOp rCat (tOp rCat (tSl (rSlL K) (tVar 3) tNoPart (tPart (tVar 7))) (tLst (tCons (tVar 4) tNil))) (tSl (rSlL K) (tVar 3) (tPart (tVar 7)) tNoPart)) (gName 3)) tNext)
        { nx := fun σ H' => ∃ (p : Addr) (ps : List Int) (y4 y5 y6 y7 : Option V), σ = [some (.ref a), some (.int s), some (.int n), some (.ref p), y4, y5, y6, y7] ∧ Ex H H' ∧ H p = none ∧ H' p = some (.lst (ps.map V.int)) ∧ Per (i + 1 + 1) ps ∧ NoX (pl ps),
          rt := Q, bk := (tSeq (tRet (tVar 3)) tNext { nx := fun _ H' => Q .non H', rt := Q }), ct := fun σ H' => ∃ (p : Addr) (ps : List Int) (y4 y5 y6 y7 : Option V), σ = [some (.ref a), some (.int s), some (.int n), some (.ref p), y4, y5, y6, y7] ∧ Ex H H' ∧ H p = none ∧ H' p = some (.lst (ps.map V.int)) ∧ Per (i + 1 + 1) ps ∧ NoX (pl ps) }
        [some (.ref a), some (.int s), some (.int n), some (.ref p), some (.int (1 + (i : Int))), some (.ref r), some (.int nu), some (.int g')] H3 := fun g' g0' g1' hf H3 e3 => by
      refine g_asgL (xs := (ps.map V.int).take g'.toNat ++ [V.int (1 + (i : Int))] ++ (ps.map V.int).drop g'.toNat) (by walk_at "el") fun p' H4 hp' e4 hl' => ?_
      refine g_next fun H5 e5 => ?_
      rw [put_map, e1i] at hl'
      refine ⟨p', put ps g' ((i + 1 : Nat) : Int), _, _, _, _, rfl, ((e.trans e2).trans e3).trans (e4.trans e5), fresh_back ((e.trans e2).trans e3) hp', e5 p' _ hl', per.put g', ?_⟩
      exact (noX_next (next_put per (by omega) g0' (by omega))).mpr ⟨nx, hf⟩
    obtain ⟨z0, z1, _⟩ := pp.at (s := (i : Int)) (by omega) (by omega)
    have ez : (1 : Int) + (i : Int) - 1 = (i : Int) := by omega
    refine g_when (b := !(fitsB (pl ps) g)) (by walk_at "et") (fun hb => ?_) (fun hb => ?_)
    · have w0 : 0 ≤ nu / 64 % 2 := Int.emod_nonneg _ (by decide)
      have w1 : nu / 64 % 2 < 2 := Int.emod_lt_of_pos _ (by decide)
      refine g_asg (v := .int (gi (pl ps) (1 + (i : Int) - 1) + nu / 64 % 2)) (by walk_at "ev") (g_nextS ?_)
      rw [ez]
      refine fin _ (by omega) (by omega) (fits_beside pp ?_) H2 (Ex.refl _)
      have e5 : (ps.length : Int) - 1 = (i : Int) := by omega
      rw [e5]
      omega
    · refine fin g g0 (by omega) ((fitsB_iff _ _).mp (by simpa using hb)) H2 (Ex.refl _)
  · obtain ⟨p, ps, y4, y5, y6, y7, rfl, e, hp, hl, per, nx⟩ := hP
    refine g_ret (v := .ref p) (by walk_at "ev") fun H2 e2 => ?_
    exact q _ p H2 ⟨ps, rfl, per.pile (by omega), by rw [per.len]; omega, nx⟩ hp (e.trans e2) (e2 p _ hl)
end
end Fo
/-! FoldR8 -/
namespace Fo
open PySem L2 Evl
local macro_rules | `(tactic| walk_at "hl") => `(tactic| first
  | assumption
  | exact upd_same
  | (refine (by assumption : Ex _ _) _ _ ?_; walk_at "hl"))
local macro_rules | `(tactic| walk_at "sq") => `(tactic| first
  | assumption
  | (refine sq_lst ?_; walk_at "hl")
  | (refine ex_l (by assumption) ?_; walk_at "sq"))
local macro_rules | `(tactic| walk_at "st") => `(tactic| first
  | assumption
  | (refine st_of ?_; walk_at "hl")
  | (refine ex_t (by assumption) ?_; walk_at "st"))
local macro_rules | `(tactic| walk_at "sq2") => `(tactic| first
  | assumption
  | (refine Or.inl ?_; walk_at "sq")
  | (refine Or.inr ?_; walk_at "st")
  | (refine Sq2.mono (by assumption) ?_; walk_at "sq2"))
local macro_rules | `(tactic| walk_at "ar") => `(tactic| first
  | assumption
  | omega
  | decide)
local macro_rules | `(tactic| walk_at "lar") => `(tactic| first
  | omega
  | (simp only [List.length_append, List.length_map, List.length_take, List.length_drop, List.length_cons, List.length_nil, List.length_replicate]; omega))
local macro_rules | `(tactic| walk_at "hb") => `(tactic| first
  | skip)
local macro_rules | `(tactic| walk_at "mul") => `(tactic| first
  | (exact Or.inr ⟨by decide, by decide⟩)
  | (exact Or.inl ⟨by decide, by decide⟩)
  | (exact Or.inl ⟨by omega, by omega⟩)
  | (exact Or.inr ⟨by omega, by omega⟩))
local macro_rules | `(tactic| walk_at "div") => `(tactic| first
  | (exact ⟨by decide, by decide⟩)
  | (exact ⟨by omega, by omega⟩))
local macro_rules | `(tactic| walk_at "ea") => `(tactic| first
  | exact ea_nil
  | ((with_reducible refine' ea_cons ?k0 ?k1); (case k0 => walk_at "ev"); (case k1 => walk_at "ea")))
local macro_rules | `(tactic| walk_at "eo") => `(tactic| first
  | exact eo_none
  | ((with_reducible refine' eo_some ?k0); (case k0 => walk_at "ev")))
local macro_rules | `(tactic| walk_at "el") => `(tactic| first
  | ((with_reducible refine' el_lst ?k0 ?k1); (case k0 => walk_at "ea"); (case k1 => (exact Nat.le_of_ble_eq_true rfl)))
  | ((with_reducible refine' el_from ?k0 ?k1 ?k2 ?k3 ?k4); (case k0 => walk_at "ev"); (case k1 => walk_at "eo"); (case k2 => walk_at "sq"); (case k3 => walk_at "ar"); (case k4 => walk_at "lar"))
  | ((with_reducible refine' el_upto ?k0 ?k1 ?k2 ?k3 ?k4); (case k0 => walk_at "ev"); (case k1 => walk_at "eo"); (case k2 => walk_at "sq"); (case k3 => walk_at "ar"); (case k4 => walk_at "lar"))
  | ((with_reducible refine' el_rep1 ?k0 ?k1 ?k2 ?k3); (case k0 => walk_at "el"); (case k1 => walk_at "ev"); (case k2 => walk_at "ar"); (case k3 => walk_at "ar"))
  | ((with_reducible refine' el_cat ?k0 ?k1 ?k2); (case k0 => walk_at "el"); (case k1 => walk_at "el"); (case k2 => walk_at "lar"))
  | ((with_reducible refine' el_callD ?k0 ?k1); (case k0 => walk_at "ea"); (case k1 => walk_at "sp"))
  | ((with_reducible refine' el_list ?k0 ?k1); (case k0 => walk_at "ev"); (case k1 => walk_at "sq"))
  | ((with_reducible refine' el_srt ?k0 ?k1); (case k0 => walk_at "ev"); (case k1 => walk_at "sq"))
  | ((with_reducible refine' el_sortedQ ?k0 ?k1); (case k0 => walk_at "ev"); (case k1 => walk_at "sq2"))
  | ((with_reducible refine' el_rev ?k0 ?k1); (case k0 => walk_at "ev"); (case k1 => walk_at "sq"))
  | ((with_reducible refine' el_step ?k0 ?k1 ?k2); (case k0 => walk_at "ev"); (case k1 => walk_at "eo"); (case k2 => walk_at "sq")))
local macro_rules | `(tactic| walk_at "et") => `(tactic| first
  | ((with_reducible refine' et_test ?k0); (case k0 => walk_at "ev"))
  | ((with_reducible refine' et_B ?k0); (case k0 => walk_at "ev"))
  | ((with_reducible refine' et_not ?k0); (case k0 => walk_at "et"))
  | ((with_reducible refine' et_and ?k0 (fun hb => ?k1)); (case k0 => walk_at "et"); (case k1 => (walk_at "hb"; walk_at "et")))
  | ((with_reducible refine' et_or ?k0 (fun hb => ?k1)); (case k0 => walk_at "et"); (case k1 => (walk_at "hb"; walk_at "et"))))
local macro_rules | `(tactic| walk_at "ev") => `(tactic| first
  | ((with_reducible refine' ev_var ?k0); (case k0 => rfl))
  | exact ev_c
  | ((with_reducible refine' ev_add ?k0 ?k1); (case k0 => walk_at "ev"); (case k1 => walk_at "ev"))
  | ((with_reducible refine' ev_sub ?k0 ?k1); (case k0 => walk_at "ev"); (case k1 => walk_at "ev"))
  | ((with_reducible refine' ev_ixI ?k0 ?k1 ?k2 ?k3 ?k4); (case k0 => walk_at "ev"); (case k1 => walk_at "ev"); (case k2 => walk_at "sq"); (case k3 => walk_at "ar"); (case k4 => walk_at "ar"))
  | ((with_reducible refine' ev_ixT ?k0 ?k1 ?k2 ?k3); (case k0 => walk_at "ev"); (case k1 => walk_at "ev"); (case k2 => walk_at "st"); (case k3 => rfl))
  | ((with_reducible refine' ev_lt ?k0 ?k1); (case k0 => walk_at "ev"); (case k1 => walk_at "ev"))
  | ((with_reducible refine' ev_gt ?k0 ?k1); (case k0 => walk_at "ev"); (case k1 => walk_at "ev"))
  | ((with_reducible refine' ev_le ?k0 ?k1); (case k0 => walk_at "ev"); (case k1 => walk_at "ev"))
  | ((with_reducible refine' ev_ge ?k0 ?k1); (case k0 => walk_at "ev"); (case k1 => walk_at "ev"))
  | ((with_reducible refine' ev_eqI ?k0 ?k1); (case k0 => walk_at "ev"); (case k1 => walk_at "ev"))
  | ((with_reducible refine' ev_neI ?k0 ?k1); (case k0 => walk_at "ev"); (case k1 => walk_at "ev"))
  | ((with_reducible refine' ev_eqB ?k0 ?k1); (case k0 => walk_at "ev"); (case k1 => walk_at "ev"))
  | ((with_reducible refine' ev_neB ?k0 ?k1); (case k0 => walk_at "ev"); (case k1 => walk_at "ev"))
  | ((with_reducible refine' ev_eqS ?k0 ?k1); (case k0 => walk_at "ev"); (case k1 => walk_at "ev"))
  | ((with_reducible refine' ev_neS ?k0 ?k1); (case k0 => walk_at "ev"); (case k1 => walk_at "ev"))
  | ((with_reducible refine' ev_mod ?k0 ?k1 ?k2); (case k0 => walk_at "ev"); (case k1 => walk_at "ev"); (case k2 => walk_at "ar"))
  | ((with_reducible refine' ev_mul ?k0 ?k1 ?k2); (case k0 => walk_at "ev"); (case k1 => walk_at "ev"); (case k2 => walk_at "mul"))
  | ((with_reducible refine' ev_div ?k0 ?k1 ?k2); (case k0 => walk_at "ev"); (case k1 => walk_at "ev"); (case k2 => walk_at "div"))
  | ((with_reducible refine' ev_neg ?k0); (case k0 => walk_at "ev"))
  | ((with_reducible refine' ev_callD ?k0 ?k1); (case k0 => walk_at "ea"); (case k1 => walk_at "sp"))
  | ((with_reducible refine' ev_lenI ?k0 ?k1); (case k0 => walk_at "ev"); (case k1 => walk_at "sq"))
  | ((with_reducible refine' ev_lenQ ?k0 ?k1); (case k0 => walk_at "ev"); (case k1 => walk_at "sq2"))
  | ((with_reducible refine' ev_lenSet ?k0 ?k1 ?k2); (case k0 => walk_at "ev"); (case k1 => walk_at "sq2"); (case k2 => walk_at "ar"))
  | ((with_reducible refine' ev_inI ?k0 ?k1 ?k2); (case k0 => walk_at "ev"); (case k1 => walk_at "ev"); (case k2 => walk_at "sq2"))
  | ((with_reducible refine' ev_notInI ?k0 ?k1 ?k2); (case k0 => walk_at "ev"); (case k1 => walk_at "ev"); (case k2 => walk_at "sq2"))
  | ((with_reducible refine' ev_lenTxt ?k0 ?k1); (case k0 => walk_at "ev"); (case k1 => walk_at "ar"))
  | ((with_reducible refine' ev_lenS ?k0 ?k1); (case k0 => walk_at "ev"); (case k1 => walk_at "ar"))
  | ((with_reducible refine' ev_ixTxt ?k0 ?k1 ?k2 ?k3 ?k4); (case k0 => walk_at "ev"); (case k1 => walk_at "ev"); (case k2 => walk_at "ar"); (case k3 => walk_at "ar"); (case k4 => walk_at "ar"))
  | ((with_reducible refine' ev_ix2 ?k0); (case k0 => walk_at "ev"))
  | ((with_reducible refine' ev_isiI ?k0); (case k0 => walk_at "ev"))
  | ((with_reducible refine' ev_isiL ?k0 ?k1); (case k0 => walk_at "ev"); (case k1 => walk_at "hl"))
  | ((with_reducible refine' ev_isiU ?k0 ?k1); (case k0 => walk_at "ev"); (case k1 => walk_at "hl"))
  | ((with_reducible refine' ev_isiS ?k0); (case k0 => walk_at "ev"))
  | ((with_reducible refine' ev_isiB ?k0); (case k0 => walk_at "ev"))
  | ((with_reducible refine' ev_isN ?k0); (case k0 => walk_at "ev"))
  | ((with_reducible refine' ev_notN ?k0); (case k0 => walk_at "ev"))
  | ((with_reducible refine' ev_notIB ?k0 ?k1); (case k0 => walk_at "ev"); (case k1 => walk_at "ev"))
  | ((with_reducible refine' ev_neNil ?k0 ?k1); (case k0 => walk_at "ev"); (case k1 => walk_at "sq"))
  | ((with_reducible refine' ev_eqNil ?k0 ?k1); (case k0 => walk_at "ev"); (case k1 => walk_at "sq"))
  | ((with_reducible refine' ev_eqL ?k0 ?k1 ?k2 ?k3); (case k0 => walk_at "ev"); (case k1 => walk_at "ev"); (case k2 => walk_at "sq"); (case k3 => walk_at "sq"))
  | ((with_reducible refine' ev_neL ?k0 ?k1 ?k2 ?k3); (case k0 => walk_at "ev"); (case k1 => walk_at "ev"); (case k2 => walk_at "sq"); (case k3 => walk_at "sq"))
  | ((with_reducible refine' ev_min2 ?k0 ?k1); (case k0 => walk_at "ev"); (case k1 => walk_at "ev"))
  | ((with_reducible refine' ev_max2 ?k0 ?k1); (case k0 => walk_at "ev"); (case k1 => walk_at "ev"))
  | ((with_reducible refine' ev_intB ?k0); (case k0 => walk_at "ev"))
  | ((with_reducible refine' ev_andV ?k0 (fun hb => ?k1)); (case k0 => walk_at "ev"); (case k1 => (walk_at "hb"; walk_at "ev")))
  | ((with_reducible refine' ev_orV ?k0 (fun hb => ?k1)); (case k0 => walk_at "ev"); (case k1 => (walk_at "hb"; walk_at "ev")))
  | ((with_reducible refine' ev_notV ?k0); (case k0 => walk_at "ev"))
  | ((with_reducible refine' ev_ifI ?k0 (fun hb => ?k1) (fun hb => ?k2)); (case k0 => walk_at "et"); (case k1 => (walk_at "hb"; walk_at "ev")); (case k2 => (walk_at "hb"; walk_at "ev")))
  | ((with_reducible refine' ev_ifS ?k0 (fun hb => ?k1) (fun hb => ?k2)); (case k0 => walk_at "et"); (case k1 => (walk_at "hb"; walk_at "ev")); (case k2 => (walk_at "hb"; walk_at "ev"))))
local macro_rules | `(tactic| walk_at "hb") => `(tactic| (try simp only [decide_eq_true_eq, decide_eq_false_iff_not, Bool.and_eq_true, Bool.or_eq_true, Bool.or_eq_false_iff, Bool.not_eq_true', Bool.not_eq_false', beq_iff_eq] at *))
local macro_rules | `(tactic| walk_at "sp") => `(tactic| first
  | (refine' v_number ?k0 ?k1 ?k2; (case k0 => walk_at "sq"); (case k1 => walk_at "ar"); (case k2 => walk_at "ar"))
  | (refine' v_drawn ?k0 ?k1; (case k0 => walk_at "sq"); (case k1 => walk_at "ar"))
  | exact v_size
  | exact v_counts
  | (refine' v_wraps ?k0 ?k1 ?k2 ?k3 ?k4; (case k0 => walk_at "sq"); (case k1 => walk_at "ar"); (case k2 => walk_at "ar"); (case k3 => walk_at "ar"); (case k4 => walk_at "ar"))
  | (refine' v_l_wraps ?k0 ?k1 ?k2 ?k3 ?k4; (case k0 => walk_at "sq"); (case k1 => walk_at "ar"); (case k2 => walk_at "ar"); (case k3 => walk_at "ar"); (case k4 => walk_at "ar"))
  | (refine' v_cross ?k0 ?k1 ?k2 ?k3 ?k4; (case k0 => walk_at "sq"); (case k1 => walk_at "ar"); (case k2 => walk_at "ar"); (case k3 => walk_at "ar"); (case k4 => walk_at "ar"))
  | (refine' v_places ?k0 ?k1 ?k2; (case k0 => walk_at "sq"); (case k1 => walk_at "ar"); (case k2 => assumption))
  | (refine' v_letters ?k0 ?k1 ?k2; (case k0 => walk_at "sq"); (case k1 => walk_at "ar"); (case k2 => assumption))
  | (refine' v_l_places ?k0 ?k1 ?k2; (case k0 => walk_at "sq"); (case k1 => walk_at "ar"); (case k2 => assumption))
  | (refine' v_fits ?k0 ?k1 ?k2 ?k3; (case k0 => walk_at "sq"); (case k1 => walk_at "ar"); (case k2 => walk_at "ar"); (case k3 => walk_at "ar"))
  | (refine' v_none ?k0 ?k1 ?k2; (case k0 => walk_at "sq"); (case k1 => walk_at "ar"); (case k2 => walk_at "ar")))
local macro_rules | `(tactic| walk_at "sp") => `(tactic| first
  | (refine' v_turned ?k0 ?k1 ?k2; (case k0 => walk_at "sq"); (case k1 => walk_at "ar"); (case k2 => assumption))
  | (refine' v_same ?k0 ?k1 ?k2; (case k0 => walk_at "hl"); (case k1 => walk_at "sq"); (case k2 => walk_at "ar"))
  | (refine' v_told ?k0 ?k1 ?k2; (case k0 => walk_at "sq"); (case k1 => walk_at "hl"); (case k2 => assumption))
  | (refine' v_parted ?k0 ?k1 ?k2 ?k3; (case k0 => walk_at "sq"); (case k1 => walk_at "ar"); (case k2 => walk_at "ar"); (case k3 => assumption)))
local macro_rules | `(tactic| walk_at "sp") => `(tactic| first
  | (refine' v_is_pile ?k0 ?k1 ?k2 ?k3; (case k0 => walk_at "hl"); (case k1 => assumption); (case k2 => walk_at "ar"); (case k3 => walk_at "ar")))
local macro_rules | `(tactic| walk_at "sp") => `(tactic| first
  | (refine' v_held ?k0 ?k1 ?k2 ?k3 ?k4 ?k5; (case k0 => walk_at "sq"); (case k1 => walk_at "st"); (case k2 => walk_at "ar"); (case k3 => (refine ⟨?_, ?_⟩ <;> walk_at "ar")); (case k4 => (refine ⟨?_, ?_⟩ <;> walk_at "ar")); (case k5 => (refine ⟨?_, ?_⟩ <;> walk_at "ar")))
  | (refine' v_l_held ?k0 ?k1 ?k2 ?k3 ?k4; (case k0 => walk_at "sq"); (case k1 => walk_at "ar"); (case k2 => (refine ⟨?_, ?_⟩ <;> walk_at "ar")); (case k3 => (refine ⟨?_, ?_⟩ <;> walk_at "ar")); (case k4 => (refine ⟨?_, ?_⟩ <;> walk_at "ar")))
  | (refine' v_lies ?k0 ?k1 ?k2 ?k3 ?k4; (case k0 => walk_at "sq"); (case k1 => walk_at "st"); (case k2 => walk_at "ar"); (case k3 => (refine ⟨?_, ?_⟩ <;> walk_at "ar")); (case k4 => (refine ⟨?_, ?_⟩ <;> walk_at "ar")))
  | (refine' v_judged ?k0 ?k1 ?k2 ?k3; (case k0 => walk_at "sq"); (case k1 => walk_at "ar"); (case k2 => assumption); (case k3 => assumption))
  | (refine' v_l_free ?k0 ?k1 ?k2 ?k3 ?k4 ?k5; (case k0 => walk_at "sq"); (case k1 => walk_at "sq"); (case k2 => walk_at "ar"); (case k3 => walk_at "ar"); (case k4 => walk_at "ar"); (case k5 => assumption))
  | (refine' v_are_free ?k0 ?k1 ?k2 ?k3 ?k4 ?k5; (case k0 => walk_at "sq"); (case k1 => walk_at "sq2"); (case k2 => walk_at "ar"); (case k3 => walk_at "ar"); (case k4 => walk_at "ar"); (case k5 => assumption)))
section
variable {K : PySem.W.Frag} {c : Cs}
theorem sgn_V {z : Nat} : decide ((⟨#[z]⟩ : Str) = Str.ofString "V") = decide (z = 86) := by
  rw [sg_V]
  by_cases h : z = 86
  · subst h; simp
  · rw [decide_eq_false h, decide_eq_false (fun e => h (by injection e with e; simpa using e))]
theorem sgn_M {z : Nat} : decide ((⟨#[z]⟩ : Str) = Str.ofString "M") = decide (z = 77) := by
  rw [sg_M]
  by_cases h : z = 77
  · subst h; simp
  · rw [decide_eq_false h, decide_eq_false (fun e => h (by injection e with e; simpa using e))]
theorem read_look_at (vs : List V) (H : Hp) (Q : VK) (E : XK) (h : sp_look_at K c vs H Q E) : t_look_at K c E { nx := fun _ H' => Q .non H', rt := Q } (start ["row", "letter"] vs) H := by
  obtain ⟨l, rfl, hlen, q, x⟩ := h
  refine Go.here ?_
  refine g_forS (l := l) (ev_var rfl) (fun i σ H' => ∃ y : Option V, σ = [some (.str (txt l)), y] ∧ Ex H H' ∧ Letters (l.take i)) (fun H2 e2 => ⟨none, rfl, e2, fun c hc => by rw [List.take_zero] at hc; cases hc⟩) (fun i z σ H' hi hP => ?_) (fun σ H' hP => ?_)
  · obtain ⟨y, rfl, e, hL⟩ := hP
    refine g_when (b := !(decide (z = 86)) && !(decide (z = 77))) ?_ (fun hb => ?_) (fun hb => ?_)
    · rw [← sgn_V, ← sgn_M]
      exact et_and (et_test (ev_neS (ev_var rfl) ev_c)) fun _ => et_test (ev_neS (ev_var rfl) ev_c)
    · refine g_raise fun H2 e2 => x (fun hl => ?_) H2 (e.trans e2)
      have := hl z (List.mem_of_getElem? hi)
      simp at hb
      omega
    · refine g_next fun H2 e2 => ⟨_, rfl, e.trans e2, ?_⟩
      rw [take_more hi]
      intro c hc
      rcases List.mem_append.mp hc with hc | hc
      · exact hL c hc
      · rw [List.mem_singleton.mp hc]
        simp at hb
        omega
  · obtain ⟨y, rfl, e, hL⟩ := hP
    rw [List.take_length] at hL
    exact g_next fun H2 e2 => q hL H2 (e.trans e2)

theorem read_pile_of (vs : List V) (H : Hp) (Q : VK) (E : XK) (h : sp_pile_of K c vs H Q E) : t_pile_of K c E { nx := fun _ H' => Q .non H', rt := Q } (start ["row", "pile", "crease", "letter", "place"] vs) H := by
  obtain ⟨l, rfl, hlen, q, x⟩ := h
  by_cases hL : Letters l
  · refine Go.here (g_drop (v := .non) (ev_callD (by walk_at "ea") (v_look hlen hL)) ?_)
    refine g_asgL (xs := [.int 0]) (by walk_at "el") fun p H1 hp e1 hl => ?_
    refine g_forES (l := l) (ev_var rfl) (fun i σ H' => ∃ (ps : List Int) (y2 y3 y4 : Option V), σ = [some (.str (txt l)), some (.ref p), y2, y3, y4] ∧ Ex H H' ∧ H' p = some (.lst (ps.map V.int)) ∧ Per (i + 1) ps ∧ NoX (pl ps) ∧ lets (pl ps) = l.take i)
      (fun H2 e2 => ⟨[0], none, none, none, rfl, e1.trans e2, e2 p _ hl, one_pile.per, one_noX, rfl⟩) (fun i z T σ H' hi hP hT => ?_) (fun σ H' hP => ?_)
    · obtain ⟨ps, y2, y3, y4, rfl, e, hl, per, nx, hlet⟩ := hP
      have pp := per.pile (by omega)
      have hplen := per.len
      have hpl := pl_len ps
      have hzl := hL z (List.mem_of_getElem? hi)
      have hil : i < l.length := (List.getElem?_eq_some_iff.mp hi).1
      have eT : Ex H' (upd H' T (.tup [.int (i : Int), .str ⟨#[z]⟩])) := Ex.new hT
      have hl2 : (upd H' T (.tup [.int (i : Int), .str ⟨#[z]⟩])) p = some (.lst (ps.map V.int)) := eT p _ hl
      generalize upd H' T (.tup [.int (i : Int), .str ⟨#[z]⟩]) = H2 at eT hl2
      have him : (i : Int) ∈ ps := pp.all (by omega) (by omega)
      obtain ⟨z0, z1, _⟩ := pp.at (s := (i : Int)) (by omega) (by omega)
      have eidx : ((ps.idxOf (i : Int) : Nat) : Int) = gi (pl ps) (i : Int) := (pl_at (by omega)).symm
      refine g_asg (v := .int (gi (pl ps) (i : Int))) (by rw [← eidx]; exact ev_index (ev_var rfl) (ev_var rfl) (sq_lst hl2) him) ?_
      refine g_cutM (fun σ H3 => ∃ g : Int, σ = [some (.str (txt l)), some (.ref p), some (.int (i : Int)), some (.str ⟨#[z]⟩), some (.int g)] ∧ Ex H2 H3 ∧ ((g = gi (pl ps) (i : Int) ∧ ¬ (z = 86 ↔ (i : Int) % 2 = 0)) ∨ (g = gi (pl ps) (i : Int) + 1 ∧ (z = 86 ↔ (i : Int) % 2 = 0)))) ?_ ?_
      · refine g_ifC (b := (decide (z = 86) == decide ((i : Int) % 2 = 0))) (by rw [← sgn_V]; exact et_test (ev_eqB (ev_eqS (ev_var rfl) ev_c) (ev_eqI (ev_mod (ev_var rfl) ev_c (by decide)) ev_c))) (fun hb => ?_) (fun hb => ?_)
        · refine g_aug (a := gi (pl ps) (i : Int)) rfl ev_c (g_next fun H3 e3 => ⟨_, rfl, e3, .inr ⟨rfl, ?_⟩⟩)
          rw [beq_iff_eq, decide_eq_decide] at hb
          exact hb
        · refine g_next fun H3 e3 => ⟨_, rfl, e3, .inl ⟨rfl, ?_⟩⟩
          rw [beq_eq_false_iff_ne, ne_eq, decide_eq_decide] at hb
          exact hb
      · rintro σ H3 ⟨g, rfl, e3, hg⟩
        have ei : (i : Int) + 1 = ((i + 1 : Nat) : Int) := by omega
        refine g_insert (xs := ps.map V.int) (i := g) (v := .int ((i : Int) + 1)) (e3 p _ hl2) (ev_var rfl) (ev_var rfl) (by walk_at "ev") (by rw [List.length_map]; omega) (by omega) (by omega) fun H4 e4 => ?_
        refine g_next (D := _) (fun H5 e5 => ?_) _ (Ex.refl _)
        have hfit : Fits (pl ps) g := fits_beside pp (by
          have e5 : (ps.length : Int) - 1 = (i : Int) := by omega
          rw [e5]
          omega)
        have hnext := next_put per (by omega) (g := g) (by omega) (by omega)
        refine ⟨put ps g ((i + 1 : Nat) : Int), _, _, _, rfl, (Ex.mut ((e.trans eT).trans (e3.trans e4)) hp).trans e5, ?_, per.put g, (noX_next hnext).mpr ⟨nx, hfit⟩, ?_⟩
        · rw [← put_map, ← ei]
          exact e5 p _ upd_same
        · rw [lets_next hnext (by omega), hlet, take_more hi]
          congr 2
          rw [hpl, show (ps.length : Int) - 1 = (i : Int) by omega]
          rcases hg with ⟨rfl, hg⟩ | ⟨rfl, hg⟩
          · rw [show decide (gi (pl ps) (i : Int) < gi (pl ps) (i : Int)) = false from decide_eq_false (by omega)]
            by_cases h2 : (i : Int) % 2 = 0
            · rw [decide_eq_true h2, if_neg (by decide)]
              omega
            · rw [decide_eq_false h2, if_pos (by decide)]
              omega
          · rw [show decide (gi (pl ps) (i : Int) < gi (pl ps) (i : Int) + 1) = true from decide_eq_true (by omega)]
            by_cases h2 : (i : Int) % 2 = 0
            · rw [decide_eq_true h2, if_pos (by decide)]
              omega
            · rw [decide_eq_false h2, if_neg (by decide)]
              omega
    · obtain ⟨ps, y2, y3, y4, rfl, e, hl, per, nx, hlet⟩ := hP
      rw [List.take_length] at hlet
      exact g_ret (v := .ref p) (by walk_at "ev") fun H2 e2 => q hL _ p H2 ⟨ps, rfl, per.pile (by omega), per.len, nx, hlet⟩ hp (e.trans e2) (e2 p _ hl)
  · exact Go.here (g_dropX (evx_call (by walk_at "ea") (x_look hlen hL (x hL))))
end
end Fo
/-! FoldR9 -/
namespace Fo
open PySem L2 Evl
local macro_rules | `(tactic| walk_at "hl") => `(tactic| first
  | assumption
  | exact upd_same
  | (refine (by assumption : Ex _ _) _ _ ?_; walk_at "hl"))
local macro_rules | `(tactic| walk_at "sq") => `(tactic| first
  | assumption
  | (refine sq_lst ?_; walk_at "hl")
  | (refine ex_l (by assumption) ?_; walk_at "sq"))
local macro_rules | `(tactic| walk_at "st") => `(tactic| first
  | assumption
  | (refine st_of ?_; walk_at "hl")
  | (refine ex_t (by assumption) ?_; walk_at "st"))
local macro_rules | `(tactic| walk_at "sq2") => `(tactic| first
  | assumption
  | (refine Or.inl ?_; walk_at "sq")
  | (refine Or.inr ?_; walk_at "st")
  | (refine Sq2.mono (by assumption) ?_; walk_at "sq2"))
local macro_rules | `(tactic| walk_at "ar") => `(tactic| first
  | assumption
  | omega
  | decide)
local macro_rules | `(tactic| walk_at "lar") => `(tactic| first
  | omega
  | (simp only [List.length_append, List.length_map, List.length_take, List.length_drop, List.length_cons, List.length_nil, List.length_replicate]; omega))
local macro_rules | `(tactic| walk_at "hb") => `(tactic| first
  | skip)
local macro_rules | `(tactic| walk_at "mul") => `(tactic| first
  | (exact Or.inr ⟨by decide, by decide⟩)
  | (exact Or.inl ⟨by decide, by decide⟩)
  | (exact Or.inl ⟨by omega, by omega⟩)
  | (exact Or.inr ⟨by omega, by omega⟩))
local macro_rules | `(tactic| walk_at "div") => `(tactic| first
  | (exact ⟨by decide, by decide⟩)
  | (exact ⟨by omega, by omega⟩))
local macro_rules | `(tactic| walk_at "ea") => `(tactic| first
  | exact ea_nil
  | ((with_reducible refine' ea_cons ?k0 ?k1); (case k0 => walk_at "ev"); (case k1 => walk_at "ea")))
local macro_rules | `(tactic| walk_at "eo") => `(tactic| first
  | exact eo_none
  | ((with_reducible refine' eo_some ?k0); (case k0 => walk_at "ev")))
local macro_rules | `(tactic| walk_at "el") => `(tactic| first
  | ((with_reducible refine' el_lst ?k0 ?k1); (case k0 => walk_at "ea"); (case k1 => (exact Nat.le_of_ble_eq_true rfl)))
  | ((with_reducible refine' el_from ?k0 ?k1 ?k2 ?k3 ?k4); (case k0 => walk_at "ev"); (case k1 => walk_at "eo"); (case k2 => walk_at "sq"); (case k3 => walk_at "ar"); (case k4 => walk_at "lar"))
  | ((with_reducible refine' el_upto ?k0 ?k1 ?k2 ?k3 ?k4); (case k0 => walk_at "ev"); (case k1 => walk_at "eo"); (case k2 => walk_at "sq"); (case k3 => walk_at "ar"); (case k4 => walk_at "lar"))
  | ((with_reducible refine' el_rep1 ?k0 ?k1 ?k2 ?k3); (case k0 => walk_at "el"); (case k1 => walk_at "ev"); (case k2 => walk_at "ar"); (case k3 => walk_at "ar"))
  | ((with_reducible refine' el_cat ?k0 ?k1 ?k2); (case k0 => walk_at "el"); (case k1 => walk_at "el"); (case k2 => walk_at "lar"))
  | ((with_reducible refine' el_callD ?k0 ?k1); (case k0 => walk_at "ea"); (case k1 => walk_at "sp"))
  | ((with_reducible refine' el_list ?k0 ?k1); (case k0 => walk_at "ev"); (case k1 => walk_at "sq"))
  | ((with_reducible refine' el_srt ?k0 ?k1); (case k0 => walk_at "ev"); (case k1 => walk_at "sq"))
  | ((with_reducible refine' el_sortedQ ?k0 ?k1); (case k0 => walk_at "ev"); (case k1 => walk_at "sq2"))
  | ((with_reducible refine' el_rev ?k0 ?k1); (case k0 => walk_at "ev"); (case k1 => walk_at "sq"))
  | ((with_reducible refine' el_step ?k0 ?k1 ?k2); (case k0 => walk_at "ev"); (case k1 => walk_at "eo"); (case k2 => walk_at "sq")))
local macro_rules | `(tactic| walk_at "et") => `(tactic| first
  | ((with_reducible refine' et_test ?k0); (case k0 => walk_at "ev"))
  | ((with_reducible refine' et_B ?k0); (case k0 => walk_at "ev"))
  | ((with_reducible refine' et_not ?k0); (case k0 => walk_at "et"))
  | ((with_reducible refine' et_and ?k0 (fun hb => ?k1)); (case k0 => walk_at "et"); (case k1 => (walk_at "hb"; walk_at "et")))
  | ((with_reducible refine' et_or ?k0 (fun hb => ?k1)); (case k0 => walk_at "et"); (case k1 => (walk_at "hb"; walk_at "et"))))
local macro_rules | `(tactic| walk_at "ev") => `(tactic| first
  | ((with_reducible refine' ev_var ?k0); (case k0 => rfl))
  | exact ev_c
  | ((with_reducible refine' ev_add ?k0 ?k1); (case k0 => walk_at "ev"); (case k1 => walk_at "ev"))
  | ((with_reducible refine' ev_sub ?k0 ?k1); (case k0 => walk_at "ev"); (case k1 => walk_at "ev"))
  | ((with_reducible refine' ev_ixI ?k0 ?k1 ?k2 ?k3 ?k4); (case k0 => walk_at "ev"); (case k1 => walk_at "ev"); (case k2 => walk_at "sq"); (case k3 => walk_at "ar"); (case k4 => walk_at "ar"))
  | ((with_reducible refine' ev_ixT ?k0 ?k1 ?k2 ?k3); (case k0 => walk_at "ev"); (case k1 => walk_at "ev"); (case k2 => walk_at "st"); (case k3 => rfl))
  | ((with_reducible refine' ev_lt ?k0 ?k1); (case k0 => walk_at "ev"); (case k1 => walk_at "ev"))
  | ((with_reducible refine' ev_gt ?k0 ?k1); (case k0 => walk_at "ev"); (case k1 => walk_at "ev"))
  | ((with_reducible refine' ev_le ?k0 ?k1); (case k0 => walk_at "ev"); (case k1 => walk_at "ev"))
  | ((with_reducible refine' ev_ge ?k0 ?k1); (case k0 => walk_at "ev"); (case k1 => walk_at "ev"))
  | ((with_reducible refine' ev_eqI ?k0 ?k1); (case k0 => walk_at "ev"); (case k1 => walk_at "ev"))
  | ((with_reducible refine' ev_neI ?k0 ?k1); (case k0 => walk_at "ev"); (case k1 => walk_at "ev"))
  | ((with_reducible refine' ev_eqB ?k0 ?k1); (case k0 => walk_at "ev"); (case k1 => walk_at "ev"))
  | ((with_reducible refine' ev_neB ?k0 ?k1); (case k0 => walk_at "ev"); (case k1 => walk_at "ev"))
  | ((with_reducible refine' ev_eqS ?k0 ?k1); (case k0 => walk_at "ev"); (case k1 => walk_at "ev"))
  | ((with_reducible refine' ev_neS ?k0 ?k1); (case k0 => walk_at "ev"); (case k1 => walk_at "ev"))
  | ((with_reducible refine' ev_mod ?k0 ?k1 ?k2); (case k0 => walk_at "ev"); (case k1 => walk_at "ev"); (case k2 => walk_at "ar"))
  | ((with_reducible refine' ev_mul ?k0 ?k1 ?k2); (case k0 => walk_at "ev"); (case k1 => walk_at "ev"); (case k2 => walk_at "mul"))
  | ((with_reducible refine' ev_div ?k0 ?k1 ?k2); (case k0 => walk_at "ev"); (case k1 => walk_at "ev"); (case k2 => walk_at "div"))
  | ((with_reducible refine' ev_neg ?k0); (case k0 => walk_at "ev"))
  | ((with_reducible refine' ev_callD ?k0 ?k1); (case k0 => walk_at "ea"); (case k1 => walk_at "sp"))
  | ((with_reducible refine' ev_lenI ?k0 ?k1); (case k0 => walk_at "ev"); (case k1 => walk_at "sq"))
  | ((with_reducible refine' ev_lenQ ?k0 ?k1); (case k0 => walk_at "ev"); (case k1 => walk_at "sq2"))
  | ((with_reducible refine' ev_lenSet ?k0 ?k1 ?k2); (case k0 => walk_at "ev"); (case k1 => walk_at "sq2"); (case k2 => walk_at "ar"))
  | ((with_reducible refine' ev_inI ?k0 ?k1 ?k2); (case k0 => walk_at "ev"); (case k1 => walk_at "ev"); (case k2 => walk_at "sq2"))
  | ((with_reducible refine' ev_notInI ?k0 ?k1 ?k2); (case k0 => walk_at "ev"); (case k1 => walk_at "ev"); (case k2 => walk_at "sq2"))
  | ((with_reducible refine' ev_lenTxt ?k0 ?k1); (case k0 => walk_at "ev"); (case k1 => walk_at "ar"))
  | ((with_reducible refine' ev_lenS ?k0 ?k1); (case k0 => walk_at "ev"); (case k1 => walk_at "ar"))
  | ((with_reducible refine' ev_ixTxt ?k0 ?k1 ?k2 ?k3 ?k4); (case k0 => walk_at "ev"); (case k1 => walk_at "ev"); (case k2 => walk_at "ar"); (case k3 => walk_at "ar"); (case k4 => walk_at "ar"))
  | ((with_reducible refine' ev_ix2 ?k0); (case k0 => walk_at "ev"))
  | ((with_reducible refine' ev_isiI ?k0); (case k0 => walk_at "ev"))
  | ((with_reducible refine' ev_isiL ?k0 ?k1); (case k0 => walk_at "ev"); (case k1 => walk_at "hl"))
  | ((with_reducible refine' ev_isiU ?k0 ?k1); (case k0 => walk_at "ev"); (case k1 => walk_at "hl"))
  | ((with_reducible refine' ev_isiS ?k0); (case k0 => walk_at "ev"))
  | ((with_reducible refine' ev_isiB ?k0); (case k0 => walk_at "ev"))
  | ((with_reducible refine' ev_isN ?k0); (case k0 => walk_at "ev"))
  | ((with_reducible refine' ev_notN ?k0); (case k0 => walk_at "ev"))
  | ((with_reducible refine' ev_notIB ?k0 ?k1); (case k0 => walk_at "ev"); (case k1 => walk_at "ev"))
  | ((with_reducible refine' ev_neNil ?k0 ?k1); (case k0 => walk_at "ev"); (case k1 => walk_at "sq"))
  | ((with_reducible refine' ev_eqNil ?k0 ?k1); (case k0 => walk_at "ev"); (case k1 => walk_at "sq"))
  | ((with_reducible refine' ev_eqL ?k0 ?k1 ?k2 ?k3); (case k0 => walk_at "ev"); (case k1 => walk_at "ev"); (case k2 => walk_at "sq"); (case k3 => walk_at "sq"))
  | ((with_reducible refine' ev_neL ?k0 ?k1 ?k2 ?k3); (case k0 => walk_at "ev"); (case k1 => walk_at "ev"); (case k2 => walk_at "sq"); (case k3 => walk_at "sq"))
  | ((with_reducible refine' ev_min2 ?k0 ?k1); (case k0 => walk_at "ev"); (case k1 => walk_at "ev"))
  | ((with_reducible refine' ev_max2 ?k0 ?k1); (case k0 => walk_at "ev"); (case k1 => walk_at "ev"))
  | ((with_reducible refine' ev_intB ?k0); (case k0 => walk_at "ev"))
  | ((with_reducible refine' ev_andV ?k0 (fun hb => ?k1)); (case k0 => walk_at "ev"); (case k1 => (walk_at "hb"; walk_at "ev")))
  | ((with_reducible refine' ev_orV ?k0 (fun hb => ?k1)); (case k0 => walk_at "ev"); (case k1 => (walk_at "hb"; walk_at "ev")))
  | ((with_reducible refine' ev_notV ?k0); (case k0 => walk_at "ev"))
  | ((with_reducible refine' ev_ifI ?k0 (fun hb => ?k1) (fun hb => ?k2)); (case k0 => walk_at "et"); (case k1 => (walk_at "hb"; walk_at "ev")); (case k2 => (walk_at "hb"; walk_at "ev")))
  | ((with_reducible refine' ev_ifS ?k0 (fun hb => ?k1) (fun hb => ?k2)); (case k0 => walk_at "et"); (case k1 => (walk_at "hb"; walk_at "ev")); (case k2 => (walk_at "hb"; walk_at "ev"))))
local macro_rules | `(tactic| walk_at "hb") => `(tactic| (try simp only [decide_eq_true_eq, decide_eq_false_iff_not, Bool.and_eq_true, Bool.or_eq_true, Bool.or_eq_false_iff, Bool.not_eq_true', Bool.not_eq_false', beq_iff_eq] at *))
local macro_rules | `(tactic| walk_at "sp") => `(tactic| first
  | (refine' v_number ?k0 ?k1 ?k2; (case k0 => walk_at "sq"); (case k1 => walk_at "ar"); (case k2 => walk_at "ar"))
  | (refine' v_drawn ?k0 ?k1; (case k0 => walk_at "sq"); (case k1 => walk_at "ar"))
  | exact v_size
  | exact v_counts
  | (refine' v_wraps ?k0 ?k1 ?k2 ?k3 ?k4; (case k0 => walk_at "sq"); (case k1 => walk_at "ar"); (case k2 => walk_at "ar"); (case k3 => walk_at "ar"); (case k4 => walk_at "ar"))
  | (refine' v_l_wraps ?k0 ?k1 ?k2 ?k3 ?k4; (case k0 => walk_at "sq"); (case k1 => walk_at "ar"); (case k2 => walk_at "ar"); (case k3 => walk_at "ar"); (case k4 => walk_at "ar"))
  | (refine' v_cross ?k0 ?k1 ?k2 ?k3 ?k4; (case k0 => walk_at "sq"); (case k1 => walk_at "ar"); (case k2 => walk_at "ar"); (case k3 => walk_at "ar"); (case k4 => walk_at "ar"))
  | (refine' v_places ?k0 ?k1 ?k2; (case k0 => walk_at "sq"); (case k1 => walk_at "ar"); (case k2 => assumption))
  | (refine' v_letters ?k0 ?k1 ?k2; (case k0 => walk_at "sq"); (case k1 => walk_at "ar"); (case k2 => assumption))
  | (refine' v_l_places ?k0 ?k1 ?k2; (case k0 => walk_at "sq"); (case k1 => walk_at "ar"); (case k2 => assumption))
  | (refine' v_fits ?k0 ?k1 ?k2 ?k3; (case k0 => walk_at "sq"); (case k1 => walk_at "ar"); (case k2 => walk_at "ar"); (case k3 => walk_at "ar"))
  | (refine' v_none ?k0 ?k1 ?k2; (case k0 => walk_at "sq"); (case k1 => walk_at "ar"); (case k2 => walk_at "ar")))
local macro_rules | `(tactic| walk_at "sp") => `(tactic| first
  | (refine' v_turned ?k0 ?k1 ?k2; (case k0 => walk_at "sq"); (case k1 => walk_at "ar"); (case k2 => assumption))
  | (refine' v_same ?k0 ?k1 ?k2; (case k0 => walk_at "hl"); (case k1 => walk_at "sq"); (case k2 => walk_at "ar"))
  | (refine' v_told ?k0 ?k1 ?k2; (case k0 => walk_at "sq"); (case k1 => walk_at "hl"); (case k2 => assumption))
  | (refine' v_parted ?k0 ?k1 ?k2 ?k3; (case k0 => walk_at "sq"); (case k1 => walk_at "ar"); (case k2 => walk_at "ar"); (case k3 => assumption)))
local macro_rules | `(tactic| walk_at "sp") => `(tactic| first
  | (refine' v_is_pile ?k0 ?k1 ?k2 ?k3; (case k0 => walk_at "hl"); (case k1 => assumption); (case k2 => walk_at "ar"); (case k3 => walk_at "ar")))
local macro_rules | `(tactic| walk_at "sp") => `(tactic| first
  | (refine' v_held ?k0 ?k1 ?k2 ?k3 ?k4 ?k5; (case k0 => walk_at "sq"); (case k1 => walk_at "st"); (case k2 => walk_at "ar"); (case k3 => (refine ⟨?_, ?_⟩ <;> walk_at "ar")); (case k4 => (refine ⟨?_, ?_⟩ <;> walk_at "ar")); (case k5 => (refine ⟨?_, ?_⟩ <;> walk_at "ar")))
  | (refine' v_l_held ?k0 ?k1 ?k2 ?k3 ?k4; (case k0 => walk_at "sq"); (case k1 => walk_at "ar"); (case k2 => (refine ⟨?_, ?_⟩ <;> walk_at "ar")); (case k3 => (refine ⟨?_, ?_⟩ <;> walk_at "ar")); (case k4 => (refine ⟨?_, ?_⟩ <;> walk_at "ar")))
  | (refine' v_lies ?k0 ?k1 ?k2 ?k3 ?k4; (case k0 => walk_at "sq"); (case k1 => walk_at "st"); (case k2 => walk_at "ar"); (case k3 => (refine ⟨?_, ?_⟩ <;> walk_at "ar")); (case k4 => (refine ⟨?_, ?_⟩ <;> walk_at "ar")))
  | (refine' v_judged ?k0 ?k1 ?k2 ?k3; (case k0 => walk_at "sq"); (case k1 => walk_at "ar"); (case k2 => assumption); (case k3 => assumption))
  | (refine' v_l_free ?k0 ?k1 ?k2 ?k3 ?k4 ?k5; (case k0 => walk_at "sq"); (case k1 => walk_at "sq"); (case k2 => walk_at "ar"); (case k3 => walk_at "ar"); (case k4 => walk_at "ar"); (case k5 => assumption))
  | (refine' v_are_free ?k0 ?k1 ?k2 ?k3 ?k4 ?k5; (case k0 => walk_at "sq"); (case k1 => walk_at "sq2"); (case k2 => walk_at "ar"); (case k3 => walk_at "ar"); (case k4 => walk_at "ar"); (case k5 => assumption)))
section
variable {K : PySem.W.Frag} {c : Cs}
/-- which stamps were seen in i of them -/
def seen (ns : List Int) (i : Nat) : List V := (List.range ns.length).map fun (s : Nat) => V.bl (decide ((s : Int) ∈ ns.take i))
theorem seen_len (ns : List Int) (i : Nat) : (seen ns i).length = ns.length := by simp [seen]
theorem seen_get {ns : List Int} {i k : Nat} (h : k < ns.length) : (seen ns i)[k]? = some (.bl (decide ((k : Int) ∈ ns.take i))) := by
  unfold seen
  rw [List.getElem?_map, List.getElem?_range h]
  rfl
theorem seen_set {ns : List Int} {i : Nat} {x : Int} (hx : ns[i]? = some x) (h0 : 0 ≤ x) (h1 : x < (ns.length : Int)) : (seen ns i).set x.toNat (.bl true) = seen ns (i + 1) := by
  refine List.ext_getElem? fun k => ?_
  by_cases hk : k < ns.length
  · rw [List.getElem?_set, seen_len, seen_get hk, seen_get hk, take_more hx]
    by_cases h : x.toNat = k
    · rw [if_pos h, if_pos (by omega)]
      have e : (k : Int) = x := by omega
      rw [e, decide_eq_true (by simp)]
    · rw [if_neg h]
      have e : (k : Int) ≠ x := by omega
      have e2 : decide ((k : Int) ∈ ns.take i ++ [x]) = decide ((k : Int) ∈ ns.take i) := by
        rw [decide_eq_decide]
        simp [e]
      rw [e2]
  · rw [List.getElem?_eq_none (by rw [List.length_set, seen_len]; omega), List.getElem?_eq_none (by rw [seen_len]; omega)]
theorem nd_new {ns : List Int} (nd : ns.Nodup) {i : Nat} {x : Int} (hx : ns[i]? = some x) : x ∉ ns.take i := fun hm => by
  have nd2 := nd
  rw [← List.take_append_drop i ns] at nd2
  have hd : x ∈ ns.drop i := by
    have : (ns.drop i)[0]? = some x := by rw [List.getElem?_drop]; exact hx
    exact List.mem_of_getElem? this
  exact (List.nodup_append.mp nd2).2.2 _ hm _ hd rfl
theorem read_l_is_pile (vs : List V) (H : Hp) (Q : VK) (E : XK) (h : sp_l_is_pile K c vs H Q E) : t_l_is_pile K c E { nx := fun _ H' => Q .non H', rt := Q } (start ["_law_found", "_law_size_here", "_law_seen", "_law_stamp"] vs) H := by
  obtain ⟨a, ns, rfl, ha, pp, hlen, q⟩ := h
  have hps := pp.pos
  refine Go.here (g_no (et_is (by walk_at "et") (by simp)) (g_nextS ?_))
  refine g_asgL (xs := List.replicate (ns.length : Int).toNat (.bl false)) (by walk_at "el") fun p H1 hp e1 hl => ?_
  have e0 : List.replicate (ns.length : Int).toNat (V.bl false) = seen ns 0 := by
    refine List.ext_getElem? fun k => ?_
    rw [List.getElem?_replicate]
    by_cases hk : k < ns.length
    · rw [if_pos (by omega), seen_get hk, List.take_zero]
      rfl
    · rw [if_neg (by omega), List.getElem?_eq_none (by rw [seen_len]; omega)]
  rw [e0] at hl
  refine g_forL (xs := ns.map V.int) (ev_var rfl) (by walk_at "sq") (fun i σ H' => ∃ y : Option V, σ = [some (.ref a), some (.int (ns.length : Int)), some (.ref p), y] ∧ Ex H H' ∧ H' p = some (.lst (seen ns i))) (fun H2 e2 => ⟨none, rfl, e1.trans e2, e2 p _ hl⟩) (fun i σ H' hi hP => ?_) (fun i v σ H' hi hP => ?_) (fun σ H' hP => ?_)
  · obtain ⟨y, rfl, e, hl'⟩ := hP
    walk_at "sq"
  · obtain ⟨y, rfl, e, hl'⟩ := hP
    obtain ⟨z, hz, rfl⟩ : ∃ z, ns[i]? = some z ∧ v = .int z := by
      rw [List.getElem?_map] at hi
      cases h9 : ns[i]? with
      | none => rw [h9] at hi; cases hi
      | some z => rw [h9] at hi; exact ⟨z, rfl, (Option.some.inj hi).symm⟩
    obtain ⟨z0, z1⟩ := pp.bnd z (List.mem_of_getElem? hz)
    have hnew := nd_new pp.nd hz
    have hsn : Ev (tOp (rIxL K) (tVar 2) (tVar 3)) [some (.ref a), some (.int (ns.length : Int)), some (.ref p), some (.int z)] H' (.bl false) := by
      refine ev_ixL (ev_var rfl) (ev_var rfl) (sq_lst hl') (atI_get z0 ?_)
      rw [seen_get (by omega), show ((z.toNat : Nat) : Int) = z by omega, decide_eq_false hnew]
    refine g_no (et_is (et_or (et_not (et_B (by walk_at "ev"))) fun _ => et_or (et_test (by walk_at "ev")) fun _ => et_or (et_test (by walk_at "ev")) fun _ => et_B hsn) (by simp; omega)) (g_nextS ?_)
    refine g_setL (xs := seen ns i) hl' (v := .bl true) (j := z) ev_c (ev_var rfl) (ev_var rfl) z0 (by rw [seen_len]; exact z1) fun H2 e2 => ?_
    refine g_next (D := _) (fun H3 e3 => ?_) _ (Ex.refl _)
    refine ⟨_, rfl, (Ex.mut (e.trans e2) hp).trans e3, ?_⟩
    rw [← seen_set hz z0 z1]
    exact e3 p _ upd_same
  · obtain ⟨y, rfl, e, hl'⟩ := hP
    exact g_ret (v := .bl true) ev_c fun H2 e2 => q H2 (e.trans e2)

theorem read_l_none_cross (vs : List V) (H : Hp) (Q : VK) (E : XK) (h : sp_l_none_cross K c vs H Q E) : t_l_none_cross K c E { nx := fun _ H' => Q .non H', rt := Q } (start ["_law_at", "_law_one", "_law_other"] vs) H := by
  obtain ⟨a, p, rfl, hS, hlen, hl1, q⟩ := h
  refine Go.here ?_
  refine g_forR1 (n := (p.length : Int) - 1) (by walk_at "ea") (by omega) (fun k σ H' => ∃ (y2 y3 : Option V), σ = [some (.ref a), y2, y3] ∧ Ex H H' ∧ ∀ i j : Int, i < (k : Int) → ¬ XX p i j)
    (fun H2 e2 => ⟨none, none, rfl, e2, fun i j hi x => by have := x.i0; omega⟩) (fun k σ H' hk hP => ?_) (fun σ H' hP => ?_) (by omega)
  · obtain ⟨y2, y3, rfl, e, hn⟩ := hP
    refine g_forR3 (lo := (k : Int) + 2) (n := (p.length : Int) - 1) (by walk_at "ea") (by omega) (fun m σ H' => ∃ y3 : Option V, σ = [some (.ref a), some (.int (k : Int)), y3] ∧ Ex H H' ∧ ∀ j : Int, j < (k : Int) + 2 + (m : Int) * 2 → ¬ XX p (k : Int) j)
      (fun H2 e2 => ⟨y3, rfl, e.trans e2, fun j hj x => by have := x.ij; have := x.even; omega⟩) (fun m σ H' hm hP => ?_) (fun σ H' hP => ?_)
    · obtain ⟨y3, rfl, e, hn2⟩ := hP
      refine g_when (b := !(wr p (k : Int) ((k : Int) + 2 + (m : Int) * 2) == wr p (k : Int) ((k : Int) + 2 + (m : Int) * 2 + 1))) (by walk_at "et") (fun hb => ?_) (fun hb => ?_)
      · refine g_ret (v := .bl false) ev_c fun H3 e3 => ?_
        rw [Bool.not_eq_true', beq_eq_false_iff_ne] at hb
        have hx : XX p (k : Int) ((k : Int) + 2 + (m : Int) * 2) := ⟨by omega, by omega, by omega, by omega, hb⟩
        have hf : noX p = false := by
          rw [Bool.eq_false_iff]
          exact fun z => (noX_iff p).mp z _ _ hx
        rw [← hf]
        exact q H3 (e.trans e3)
      · rw [Bool.not_eq_false', beq_iff_eq] at hb
        refine g_next fun H3 e3 => ⟨_, rfl, e.trans e3, fun j hj xx => ?_⟩
        have h1 := xx.even
        have h2 := xx.ij
        by_cases h3 : j = (k : Int) + 2 + (m : Int) * 2
        · rw [h3] at xx
          exact xx.ne hb
        · exact hn2 j (by omega) xx
    · obtain ⟨y3, rfl, e, hn2⟩ := hP
      refine g_next fun H3 e3 => ⟨_, _, rfl, e.trans e3, fun i j hij xx => ?_⟩
      by_cases h3 : i = (k : Int)
      · subst h3
        have h1 := xx.jn
        have h2 := xx.even
        exact hn2 j (by omega) xx
      · exact hn i j (by omega) xx
  · obtain ⟨y2, y3, rfl, e, hn⟩ := hP
    refine g_ret (v := .bl true) ev_c fun H3 e3 => ?_
    have ht : noX p = true := (noX_iff p).mpr fun i j xx => by
      have h1 := xx.jn
      have h2 := xx.ij
      exact hn i j (by omega) xx
    rw [← ht]
    exact q H3 (e.trans e3)

theorem read_l_row (vs : List V) (H : Hp) (Q : VK) (E : XK) (h : sp_l_row K c vs H Q E) : t_l_row K c E { nx := fun _ H' => Q .non H', rt := Q } (start ["_law_script", "_law_many", "_law_way", "_law_number_here", "_law_told", "_law_k", "_law_which"] vs) H := by
  obtain ⟨a, ns, n, rfl, hS, h0, h1, q⟩ := h
  refine Go.here (g_asg (v := .int (gi ns 1 % 4)) (by walk_at "ev") ?_)
  refine g_asg (v := .int (gi ns 1 / 4)) (by walk_at "ev") ?_
  generalize gi ns 1 % 4 = w
  generalize gi ns 1 / 4 = nu
  refine g_asgL (xs := []) (by walk_at "el") fun r H2 hr e2 hr2 => ?_
  refine g_forR1 (n := n) (by walk_at "ea") (by omega) (fun i σ H' => ∃ (l : List Nat) (y5 y6 : Option V), σ = [some (.ref a), some (.int n), some (.int w), some (.int nu), some (.ref r), y5, y6] ∧ Ex H H' ∧ H' r = some (.lst ((l.map fun c => (⟨#[c]⟩ : Str)).map V.str)) ∧ l.length = i ∧ Letters l)
      (fun H3 e3 => ⟨[], none, none, rfl, e2.trans e3, e3 r _ hr2, rfl, fun c hc => (nomatch hc)⟩) (fun i σ H' hi hP => ?_) (fun σ H' hP => ?_) (by omega)
  · obtain ⟨l, y5, y6, rfl, e, hl, hli, hL⟩ := hP
    refine g_asg (v := .int (numb ns (2 + (i : Int)) % 2)) (by walk_at "ev") ?_
    have w0 : 0 ≤ numb ns (2 + (i : Int)) % 2 := Int.emod_nonneg _ (by decide)
    have w1 : numb ns (2 + (i : Int)) % 2 < 2 := Int.emod_lt_of_pos _ (by decide)
    generalize numb ns (2 + (i : Int)) % 2 = x at w0 w1 ⊢
    refine g_cutM (fun σ H3 => ∃ x : Int, σ = [some (.ref a), some (.int n), some (.int w), some (.int nu), some (.ref r), some (.int (i : Int)), some (.int x)] ∧ Ex H' H3 ∧ 0 ≤ x ∧ x < 2) ?_ ?_
    · refine g_ifC (b := decide (w = 2)) (by walk_at "et") (fun hb => ?_) (fun hb => ?_)
      · refine g_asg (v := .int (nu % 2)) (by walk_at "ev") (g_next fun H3 e3 => ⟨_, rfl, e3, Int.emod_nonneg _ (by decide), Int.emod_lt_of_pos _ (by decide)⟩)
      · exact g_next fun H3 e3 => ⟨x, rfl, e3, w0, w1⟩
    clear w0 w1
    rintro σ H3 ⟨x, rfl, e3, w0, w1⟩
    refine g_cutM (fun σ H3 => ∃ x : Int, σ = [some (.ref a), some (.int n), some (.int w), some (.int nu), some (.ref r), some (.int (i : Int)), some (.int x)] ∧ Ex H' H3 ∧ 0 ≤ x ∧ x < 2) ?_ ?_
    · refine g_ifC (b := decide (w = 3)) (by walk_at "et") (fun hb => ?_) (fun hb => ?_)
      · have m0 : 0 ≤ nu % 9 := Int.emod_nonneg _ (by decide)
        have m1 : nu % 9 < 9 := Int.emod_lt_of_pos _ (by decide)
        refine g_asg (v := .int ((i : Int) / (1 + nu % 9) % 2)) (by walk_at "ev") (g_next fun H4 e4 => ⟨_, rfl, e3.trans e4, Int.emod_nonneg _ (by decide), Int.emod_lt_of_pos _ (by decide)⟩)
      · exact g_next fun H4 e4 => ⟨x, rfl, e3.trans e4, w0, w1⟩
    clear w0 w1 e3
    rintro σ H4 ⟨x, rfl, e4, w0, w1⟩
    have hx : Ev (tOp (rIxL K) (tLst (tCons (tC (.str "V")) (tCons (tC (.str "M")) tNil))) (tVar 6)) [some (.ref a), some (.int n), some (.int w), some (.int nu), some (.ref r), some (.int (i : Int)), some (.int x)] H4 (.str ⟨#[if x = 0 then 86 else 77]⟩) := by
      rcases (show x = 0 ∨ x = 1 by omega) with rfl | rfl
      · exact ev_is (ev_ixNew (i := 0) (xs := [.str (Str.ofString "V"), .str (Str.ofString "M")]) (el_lst (ea_cons ev_c (ea_cons ev_c ea_nil)) (Nat.le_of_ble_eq_true rfl)) (ev_var rfl) rfl) (by rw [sg_V]; rfl)
      · exact ev_is (ev_ixNew (i := 1) (xs := [.str (Str.ofString "V"), .str (Str.ofString "M")]) (el_lst (ea_cons ev_c (ea_cons ev_c ea_nil)) (Nat.le_of_ble_eq_true rfl)) (ev_var rfl) rfl) (by rw [sg_M]; rfl)
    refine g_app (xs := (l.map fun c => (⟨#[c]⟩ : Str)).map V.str) (e4 r _ hl) (ev_var rfl) hx (by simp only [List.length_map]; omega) fun H5 e5 => ?_
    refine g_next (D := _) (fun H6 e6 => ?_) _ (Ex.refl _)
    refine ⟨l ++ [if x = 0 then 86 else 77], _, _, rfl, (Ex.mut (e.trans (e4.trans e5)) hr).trans e6, ?_, by rw [List.length_append, hli]; rfl, fun z hz => ?_⟩
    · rw [List.map_append, List.map_append]
      exact e6 r _ upd_same
    · rcases List.mem_append.mp hz with hz | hz
      · exact hL z hz
      · rw [List.mem_singleton.mp hz]
        split
        · exact .inl rfl
        · exact .inr rfl
  · obtain ⟨l, y5, y6, rfl, e, hl, hli, hL⟩ := hP
    exact g_ret (v := .str (txt l)) (ev_join (ev_var rfl) (sq_lst hl) (by omega)) fun H4 e4 => q _ H4 ⟨l, rfl, by omega, hL⟩ (e.trans e4)

theorem read_law_k04 (hc : SzOk c.sz) (vs : List V) (H : Hp) (Q : VK) (E : XK) (h : sp_law K c vs H Q E) : t_law_k04 K c E { nx := fun _ H' => Q .non H', rt := Q } (start ["_law_script", "_law_size_here", "_law_row_here", "_law_found", "_law_at", "_law_crease", "_law_inward"] vs) H := by
  obtain ⟨a, ns, rfl, hS, hlen, q⟩ := h
  refine Go.here (g_asg (v := .int (szf c.sz (gi ns 0))) (by walk_at "ev") ?_)
  obtain ⟨hn0, hn1⟩ := szf_bnd hc (gi ns 0)
  generalize szf c.sz (gi ns 0) = n at hn0 hn1 ⊢
  refine g_asgR (evr_call (by walk_at "ea") (v_row hS (by omega) (by omega))) fun v H1 hv e1 => ?_
  obtain ⟨l, rfl, hll, hL⟩ := hv
  refine g_asgP (elp_call (by walk_at "ea") (v_pile_of (by omega) hL)) fun xs p H2 hP hp e2 hl => ?_
  obtain ⟨ps, rfl, pp, hpl, nx, hlet⟩ := hP
  have hpp := pl_len ps
  refine g_no (et_is (by walk_at "et") (by simp)) (g_nextS ?_)
  refine g_asgL (xs := (pl ps).map V.int) (by walk_at "el") fun r H3 hr e3 hr3 => ?_
  refine g_forR1 (n := n - 1) (by walk_at "ea") (by omega) (fun i σ H' => ∃ y5 y6 : Option V, σ = [some (.ref a), some (.int n), some (.str (txt l)), some (.ref p), some (.ref r), y5, y6] ∧ Ex H3 H') (fun H4 e4 => ⟨none, none, rfl, e4⟩) (fun i σ H' hi hP => ?_) (fun σ H' hP => ?_) (by omega)
  · obtain ⟨y5, y6, rfl, e⟩ := hP
    refine g_asg (v := .bl (decide (gi (pl ps) (i : Int) < gi (pl ps) ((i : Int) + 1)) == decide ((i : Int) % 2 = 0))) (by walk_at "ev") ?_
    refine g_no (et_is (by walk_at "et") ?_) (g_nextS ?_)
    · rw [sgn_V, show ((i : Nat) : Int).toNat = i from rfl, ← hlet, lets_getD (by omega)]
      cases (decide (gi (pl ps) (i : Int) < gi (pl ps) ((i : Int) + 1)) == decide ((i : Int) % 2 = 0)) <;> rfl
    · exact g_next fun H4 e4 => ⟨_, _, rfl, e.trans e4⟩
  · obtain ⟨y5, y6, rfl, e⟩ := hP
    refine g_ret (v := .bl (noX (pl ps))) (by walk_at "ev") fun H4 _ => ?_
    rw [(noX_iff _).mpr nx]
    exact q H4
end
end Fo
/-! FoldR12 -/
namespace Fo
open PySem L2 Evl
local macro_rules | `(tactic| walk_at "hl") => `(tactic| first
  | assumption
  | exact upd_same
  | (refine (by assumption : Ex _ _) _ _ ?_; walk_at "hl"))
local macro_rules | `(tactic| walk_at "sq") => `(tactic| first
  | assumption
  | (refine sq_lst ?_; walk_at "hl")
  | (refine ex_l (by assumption) ?_; walk_at "sq"))
local macro_rules | `(tactic| walk_at "st") => `(tactic| first
  | assumption
  | (refine st_of ?_; walk_at "hl")
  | (refine ex_t (by assumption) ?_; walk_at "st"))
local macro_rules | `(tactic| walk_at "sq2") => `(tactic| first
  | assumption
  | (refine Or.inl ?_; walk_at "sq")
  | (refine Or.inr ?_; walk_at "st")
  | (refine Sq2.mono (by assumption) ?_; walk_at "sq2"))
local macro_rules | `(tactic| walk_at "ar") => `(tactic| first
  | assumption
  | omega
  | decide)
local macro_rules | `(tactic| walk_at "lar") => `(tactic| first
  | omega
  | (simp only [List.length_append, List.length_map, List.length_take, List.length_drop, List.length_cons, List.length_nil, List.length_replicate]; omega))
local macro_rules | `(tactic| walk_at "hb") => `(tactic| first
  | skip)
local macro_rules | `(tactic| walk_at "mul") => `(tactic| first
  | (exact Or.inr ⟨by decide, by decide⟩)
  | (exact Or.inl ⟨by decide, by decide⟩)
  | (exact Or.inl ⟨by omega, by omega⟩)
  | (exact Or.inr ⟨by omega, by omega⟩))
local macro_rules | `(tactic| walk_at "div") => `(tactic| first
  | (exact ⟨by decide, by decide⟩)
  | (exact ⟨by omega, by omega⟩))
local macro_rules | `(tactic| walk_at "ea") => `(tactic| first
  | exact ea_nil
  | ((with_reducible refine' ea_cons ?k0 ?k1); (case k0 => walk_at "ev"); (case k1 => walk_at "ea")))
local macro_rules | `(tactic| walk_at "eo") => `(tactic| first
  | exact eo_none
  | ((with_reducible refine' eo_some ?k0); (case k0 => walk_at "ev")))
local macro_rules | `(tactic| walk_at "el") => `(tactic| first
  | ((with_reducible refine' el_lst ?k0 ?k1); (case k0 => walk_at "ea"); (case k1 => (exact Nat.le_of_ble_eq_true rfl)))
  | ((with_reducible refine' el_from ?k0 ?k1 ?k2 ?k3 ?k4); (case k0 => walk_at "ev"); (case k1 => walk_at "eo"); (case k2 => walk_at "sq"); (case k3 => walk_at "ar"); (case k4 => walk_at "lar"))
  | ((with_reducible refine' el_upto ?k0 ?k1 ?k2 ?k3 ?k4); (case k0 => walk_at "ev"); (case k1 => walk_at "eo"); (case k2 => walk_at "sq"); (case k3 => walk_at "ar"); (case k4 => walk_at "lar"))
  | ((with_reducible refine' el_rep1 ?k0 ?k1 ?k2 ?k3); (case k0 => walk_at "el"); (case k1 => walk_at "ev"); (case k2 => walk_at "ar"); (case k3 => walk_at "ar"))
  | ((with_reducible refine' el_cat ?k0 ?k1 ?k2); (case k0 => walk_at "el"); (case k1 => walk_at "el"); (case k2 => walk_at "lar"))
  | ((with_reducible refine' el_callD ?k0 ?k1); (case k0 => walk_at "ea"); (case k1 => walk_at "sp"))
  | ((with_reducible refine' el_list ?k0 ?k1); (case k0 => walk_at "ev"); (case k1 => walk_at "sq"))
  | ((with_reducible refine' el_srt ?k0 ?k1); (case k0 => walk_at "ev"); (case k1 => walk_at "sq"))
  | ((with_reducible refine' el_sortedQ ?k0 ?k1); (case k0 => walk_at "ev"); (case k1 => walk_at "sq2"))
  | ((with_reducible refine' el_rev ?k0 ?k1); (case k0 => walk_at "ev"); (case k1 => walk_at "sq"))
  | ((with_reducible refine' el_step ?k0 ?k1 ?k2); (case k0 => walk_at "ev"); (case k1 => walk_at "eo"); (case k2 => walk_at "sq")))
local macro_rules | `(tactic| walk_at "et") => `(tactic| first
  | ((with_reducible refine' et_test ?k0); (case k0 => walk_at "ev"))
  | ((with_reducible refine' et_B ?k0); (case k0 => walk_at "ev"))
  | ((with_reducible refine' et_not ?k0); (case k0 => walk_at "et"))
  | ((with_reducible refine' et_and ?k0 (fun hb => ?k1)); (case k0 => walk_at "et"); (case k1 => (walk_at "hb"; walk_at "et")))
  | ((with_reducible refine' et_or ?k0 (fun hb => ?k1)); (case k0 => walk_at "et"); (case k1 => (walk_at "hb"; walk_at "et"))))
local macro_rules | `(tactic| walk_at "ev") => `(tactic| first
  | ((with_reducible refine' ev_var ?k0); (case k0 => rfl))
  | exact ev_c
  | ((with_reducible refine' ev_add ?k0 ?k1); (case k0 => walk_at "ev"); (case k1 => walk_at "ev"))
  | ((with_reducible refine' ev_sub ?k0 ?k1); (case k0 => walk_at "ev"); (case k1 => walk_at "ev"))
  | ((with_reducible refine' ev_ixI ?k0 ?k1 ?k2 ?k3 ?k4); (case k0 => walk_at "ev"); (case k1 => walk_at "ev"); (case k2 => walk_at "sq"); (case k3 => walk_at "ar"); (case k4 => walk_at "ar"))
  | ((with_reducible refine' ev_ixT ?k0 ?k1 ?k2 ?k3); (case k0 => walk_at "ev"); (case k1 => walk_at "ev"); (case k2 => walk_at "st"); (case k3 => rfl))
  | ((with_reducible refine' ev_lt ?k0 ?k1); (case k0 => walk_at "ev"); (case k1 => walk_at "ev"))
  | ((with_reducible refine' ev_gt ?k0 ?k1); (case k0 => walk_at "ev"); (case k1 => walk_at "ev"))
  | ((with_reducible refine' ev_le ?k0 ?k1); (case k0 => walk_at "ev"); (case k1 => walk_at "ev"))
  | ((with_reducible refine' ev_ge ?k0 ?k1); (case k0 => walk_at "ev"); (case k1 => walk_at "ev"))
  | ((with_reducible refine' ev_eqI ?k0 ?k1); (case k0 => walk_at "ev"); (case k1 => walk_at "ev"))
  | ((with_reducible refine' ev_neI ?k0 ?k1); (case k0 => walk_at "ev"); (case k1 => walk_at "ev"))
  | ((with_reducible refine' ev_eqB ?k0 ?k1); (case k0 => walk_at "ev"); (case k1 => walk_at "ev"))
  | ((with_reducible refine' ev_neB ?k0 ?k1); (case k0 => walk_at "ev"); (case k1 => walk_at "ev"))
  | ((with_reducible refine' ev_eqS ?k0 ?k1); (case k0 => walk_at "ev"); (case k1 => walk_at "ev"))
  | ((with_reducible refine' ev_neS ?k0 ?k1); (case k0 => walk_at "ev"); (case k1 => walk_at "ev"))
  | ((with_reducible refine' ev_mod ?k0 ?k1 ?k2); (case k0 => walk_at "ev"); (case k1 => walk_at "ev"); (case k2 => walk_at "ar"))
  | ((with_reducible refine' ev_mul ?k0 ?k1 ?k2); (case k0 => walk_at "ev"); (case k1 => walk_at "ev"); (case k2 => walk_at "mul"))
  | ((with_reducible refine' ev_div ?k0 ?k1 ?k2); (case k0 => walk_at "ev"); (case k1 => walk_at "ev"); (case k2 => walk_at "div"))
  | ((with_reducible refine' ev_neg ?k0); (case k0 => walk_at "ev"))
  | ((with_reducible refine' ev_callD ?k0 ?k1); (case k0 => walk_at "ea"); (case k1 => walk_at "sp"))
  | ((with_reducible refine' ev_lenI ?k0 ?k1); (case k0 => walk_at "ev"); (case k1 => walk_at "sq"))
  | ((with_reducible refine' ev_lenQ ?k0 ?k1); (case k0 => walk_at "ev"); (case k1 => walk_at "sq2"))
  | ((with_reducible refine' ev_lenSet ?k0 ?k1 ?k2); (case k0 => walk_at "ev"); (case k1 => walk_at "sq2"); (case k2 => walk_at "ar"))
  | ((with_reducible refine' ev_inI ?k0 ?k1 ?k2); (case k0 => walk_at "ev"); (case k1 => walk_at "ev"); (case k2 => walk_at "sq2"))
  | ((with_reducible refine' ev_notInI ?k0 ?k1 ?k2); (case k0 => walk_at "ev"); (case k1 => walk_at "ev"); (case k2 => walk_at "sq2"))
  | ((with_reducible refine' ev_lenTxt ?k0 ?k1); (case k0 => walk_at "ev"); (case k1 => walk_at "ar"))
  | ((with_reducible refine' ev_lenS ?k0 ?k1); (case k0 => walk_at "ev"); (case k1 => walk_at "ar"))
  | ((with_reducible refine' ev_ixTxt ?k0 ?k1 ?k2 ?k3 ?k4); (case k0 => walk_at "ev"); (case k1 => walk_at "ev"); (case k2 => walk_at "ar"); (case k3 => walk_at "ar"); (case k4 => walk_at "ar"))
  | ((with_reducible refine' ev_ix2 ?k0); (case k0 => walk_at "ev"))
  | ((with_reducible refine' ev_isiI ?k0); (case k0 => walk_at "ev"))
  | ((with_reducible refine' ev_isiL ?k0 ?k1); (case k0 => walk_at "ev"); (case k1 => walk_at "hl"))
  | ((with_reducible refine' ev_isiU ?k0 ?k1); (case k0 => walk_at "ev"); (case k1 => walk_at "hl"))
  | ((with_reducible refine' ev_isiS ?k0); (case k0 => walk_at "ev"))
  | ((with_reducible refine' ev_isiB ?k0); (case k0 => walk_at "ev"))
  | ((with_reducible refine' ev_isN ?k0); (case k0 => walk_at "ev"))
  | ((with_reducible refine' ev_notN ?k0); (case k0 => walk_at "ev"))
  | ((with_reducible refine' ev_notIB ?k0 ?k1); (case k0 => walk_at "ev"); (case k1 => walk_at "ev"))
  | ((with_reducible refine' ev_neNil ?k0 ?k1); (case k0 => walk_at "ev"); (case k1 => walk_at "sq"))
  | ((with_reducible refine' ev_eqNil ?k0 ?k1); (case k0 => walk_at "ev"); (case k1 => walk_at "sq"))
  | ((with_reducible refine' ev_eqL ?k0 ?k1 ?k2 ?k3); (case k0 => walk_at "ev"); (case k1 => walk_at "ev"); (case k2 => walk_at "sq"); (case k3 => walk_at "sq"))
  | ((with_reducible refine' ev_neL ?k0 ?k1 ?k2 ?k3); (case k0 => walk_at "ev"); (case k1 => walk_at "ev"); (case k2 => walk_at "sq"); (case k3 => walk_at "sq"))
  | ((with_reducible refine' ev_min2 ?k0 ?k1); (case k0 => walk_at "ev"); (case k1 => walk_at "ev"))
  | ((with_reducible refine' ev_max2 ?k0 ?k1); (case k0 => walk_at "ev"); (case k1 => walk_at "ev"))
  | ((with_reducible refine' ev_intB ?k0); (case k0 => walk_at "ev"))
  | ((with_reducible refine' ev_andV ?k0 (fun hb => ?k1)); (case k0 => walk_at "ev"); (case k1 => (walk_at "hb"; walk_at "ev")))
  | ((with_reducible refine' ev_orV ?k0 (fun hb => ?k1)); (case k0 => walk_at "ev"); (case k1 => (walk_at "hb"; walk_at "ev")))
  | ((with_reducible refine' ev_notV ?k0); (case k0 => walk_at "ev"))
  | ((with_reducible refine' ev_ifI ?k0 (fun hb => ?k1) (fun hb => ?k2)); (case k0 => walk_at "et"); (case k1 => (walk_at "hb"; walk_at "ev")); (case k2 => (walk_at "hb"; walk_at "ev")))
  | ((with_reducible refine' ev_ifS ?k0 (fun hb => ?k1) (fun hb => ?k2)); (case k0 => walk_at "et"); (case k1 => (walk_at "hb"; walk_at "ev")); (case k2 => (walk_at "hb"; walk_at "ev"))))
local macro_rules | `(tactic| walk_at "hb") => `(tactic| (try simp only [decide_eq_true_eq, decide_eq_false_iff_not, Bool.and_eq_true, Bool.or_eq_true, Bool.or_eq_false_iff, Bool.not_eq_true', Bool.not_eq_false', beq_iff_eq] at *))
local macro_rules | `(tactic| walk_at "sp") => `(tactic| first
  | (refine' v_number ?k0 ?k1 ?k2; (case k0 => walk_at "sq"); (case k1 => walk_at "ar"); (case k2 => walk_at "ar"))
  | (refine' v_drawn ?k0 ?k1; (case k0 => walk_at "sq"); (case k1 => walk_at "ar"))
  | exact v_size
  | exact v_counts
  | (refine' v_wraps ?k0 ?k1 ?k2 ?k3 ?k4; (case k0 => walk_at "sq"); (case k1 => walk_at "ar"); (case k2 => walk_at "ar"); (case k3 => walk_at "ar"); (case k4 => walk_at "ar"))
  | (refine' v_l_wraps ?k0 ?k1 ?k2 ?k3 ?k4; (case k0 => walk_at "sq"); (case k1 => walk_at "ar"); (case k2 => walk_at "ar"); (case k3 => walk_at "ar"); (case k4 => walk_at "ar"))
  | (refine' v_cross ?k0 ?k1 ?k2 ?k3 ?k4; (case k0 => walk_at "sq"); (case k1 => walk_at "ar"); (case k2 => walk_at "ar"); (case k3 => walk_at "ar"); (case k4 => walk_at "ar"))
  | (refine' v_places ?k0 ?k1 ?k2; (case k0 => walk_at "sq"); (case k1 => walk_at "ar"); (case k2 => assumption))
  | (refine' v_letters ?k0 ?k1 ?k2; (case k0 => walk_at "sq"); (case k1 => walk_at "ar"); (case k2 => assumption))
  | (refine' v_l_places ?k0 ?k1 ?k2; (case k0 => walk_at "sq"); (case k1 => walk_at "ar"); (case k2 => assumption))
  | (refine' v_fits ?k0 ?k1 ?k2 ?k3; (case k0 => walk_at "sq"); (case k1 => walk_at "ar"); (case k2 => walk_at "ar"); (case k3 => walk_at "ar"))
  | (refine' v_none ?k0 ?k1 ?k2; (case k0 => walk_at "sq"); (case k1 => walk_at "ar"); (case k2 => walk_at "ar")))
local macro_rules | `(tactic| walk_at "sp") => `(tactic| first
  | (refine' v_turned ?k0 ?k1 ?k2; (case k0 => walk_at "sq"); (case k1 => walk_at "ar"); (case k2 => assumption))
  | (refine' v_same ?k0 ?k1 ?k2; (case k0 => walk_at "hl"); (case k1 => walk_at "sq"); (case k2 => walk_at "ar"))
  | (refine' v_told ?k0 ?k1 ?k2; (case k0 => walk_at "sq"); (case k1 => walk_at "hl"); (case k2 => assumption))
  | (refine' v_parted ?k0 ?k1 ?k2 ?k3; (case k0 => walk_at "sq"); (case k1 => walk_at "ar"); (case k2 => walk_at "ar"); (case k3 => assumption)))
local macro_rules | `(tactic| walk_at "sp") => `(tactic| first
  | (refine' v_is_pile ?k0 ?k1 ?k2 ?k3; (case k0 => walk_at "hl"); (case k1 => assumption); (case k2 => walk_at "ar"); (case k3 => walk_at "ar")))
local macro_rules | `(tactic| walk_at "sp") => `(tactic| first
  | (refine' v_held ?k0 ?k1 ?k2 ?k3 ?k4 ?k5; (case k0 => walk_at "sq"); (case k1 => walk_at "st"); (case k2 => walk_at "ar"); (case k3 => (refine ⟨?_, ?_⟩ <;> walk_at "ar")); (case k4 => (refine ⟨?_, ?_⟩ <;> walk_at "ar")); (case k5 => (refine ⟨?_, ?_⟩ <;> walk_at "ar")))
  | (refine' v_l_held ?k0 ?k1 ?k2 ?k3 ?k4; (case k0 => walk_at "sq"); (case k1 => walk_at "ar"); (case k2 => (refine ⟨?_, ?_⟩ <;> walk_at "ar")); (case k3 => (refine ⟨?_, ?_⟩ <;> walk_at "ar")); (case k4 => (refine ⟨?_, ?_⟩ <;> walk_at "ar")))
  | (refine' v_lies ?k0 ?k1 ?k2 ?k3 ?k4; (case k0 => walk_at "sq"); (case k1 => walk_at "st"); (case k2 => walk_at "ar"); (case k3 => (refine ⟨?_, ?_⟩ <;> walk_at "ar")); (case k4 => (refine ⟨?_, ?_⟩ <;> walk_at "ar")))
  | (refine' v_judged ?k0 ?k1 ?k2 ?k3; (case k0 => walk_at "sq"); (case k1 => walk_at "ar"); (case k2 => assumption); (case k3 => assumption))
  | (refine' v_l_free ?k0 ?k1 ?k2 ?k3 ?k4 ?k5; (case k0 => walk_at "sq"); (case k1 => walk_at "sq"); (case k2 => walk_at "ar"); (case k3 => walk_at "ar"); (case k4 => walk_at "ar"); (case k5 => assumption))
  | (refine' v_are_free ?k0 ?k1 ?k2 ?k3 ?k4 ?k5; (case k0 => walk_at "sq"); (case k1 => walk_at "sq2"); (case k2 => walk_at "ar"); (case k3 => walk_at "ar"); (case k4 => walk_at "ar"); (case k5 => assumption)))
section
variable {K : PySem.W.Frag} {c : Cs}
theorem g_retX {te : TE} {σ : L2.St} {H : Hp} {D : Ends} {tz : TS} (h : EvX te σ H) : Go (tSeq (tRet te) tz) D σ H := fun H1 e => h H1 e _
theorem evx_lc {tl te : TE} {g : TG} {t : TT} {vs : List Nat} {σ : L2.St} {H : Hp} (h : EvX tl σ H) : EvX (tLc (iList K tl) g t te vs) σ H := fun H1 e Q => h H1 e _
theorem read_with_next (vs : List V) (H : Hp) (Q : VK) (E : XK) (h : sp_with_next K c vs H Q E) : t_with_next K c E { nx := fun _ H' => Q .non H', rt := Q } (start ["pile", "stamp", "found", "place", "longer"] vs) H := by
  obtain ⟨a, ns, rfl, hS, pp, hlen, q⟩ := h
  have per := pp.per
  have hps := pp.pos
  refine Go.here (g_asg (v := .int (ns.length : Int)) (by walk_at "ev") ?_)
  refine g_asgL (xs := []) (by walk_at "el") fun r H1 hr e1 hl => ?_
  refine g_forR1 (n := (ns.length : Int) + 1) (by walk_at "ea") (by omega) (fun i σ H' => ∃ (ts : List Addr) (y3 y4 : Option V), σ = [some (.ref a), some (.int (ns.length : Int)), some (.ref r), y3, y4] ∧ Ex H H' ∧ H' r = some (.lst (ts.map V.ref)) ∧ r ∉ ts ∧ (∀ t ∈ ts, H t = none) ∧ Rows H' ts (nextTo ns i))
    (fun H2 e2 => ⟨[], none, none, rfl, e1.trans e2, e2 r _ hl, by simp, by simp, Rows.nil⟩) (fun i σ H' hi hP => ?_) (fun σ H' hP => ?_) (by omega)
  · obtain ⟨ts, y3, y4, rfl, e, hl', hrt, hft, hrw⟩ := hP
    have htl := hrw.1
    have hnl := nextTo_len ns i
    refine g_asgL (xs := (ns.map V.int).take (i : Int).toNat ++ [V.int (ns.length : Int)] ++ (ns.map V.int).drop (i : Int).toNat) (by walk_at "el") fun t H2 ht e2 hlt => ?_
    rw [put_map] at hlt
    have pn := (per.put (i : Int)).pile (Nat.succ_pos _)
    have hpl := put_len ns (i : Int) (ns.length : Int)
    have hsucc := nextTo_succ ns i
    have hl2 := e2 r _ hl'
    have hrw2 := hrw.mono e2
    have htr : t ≠ r := fun z => by rw [z, hl'] at ht; cases ht
    have hft2 : H t = none := fresh_back e ht
    refine g_when (b := noX (pl (put ns (i : Int) (ns.length : Int)))) (et_cross (by walk_at "ea") (sq_lst hlt) (by omega) pn) (fun hb => ?_) (fun hb => ?_)
    · refine g_app (xs := ts.map V.ref) hl2 (v := .ref t) (ev_var rfl) (ev_var rfl) (by rw [List.length_map]; omega) fun H3 e3 => ?_
      refine g_next (D := _) (fun H4 e4 => ?_) _ (Ex.refl _)
      refine ⟨ts ++ [t], _, _, rfl, (Ex.mut ((e.trans e2).trans e3) hr).trans e4, ?_, ?_, fun u hu => ?_, ?_⟩
      · rw [List.map_append]
        exact e4 r _ upd_same
      · simp only [List.mem_append, List.mem_singleton, not_or]
        exact ⟨hrt, fun z => htr z.symm⟩
      · rcases List.mem_append.mp hu with hu | hu
        · exact hft u hu
        · rw [List.mem_singleton.mp hu]
          exact hft2
      · rw [hsucc, if_pos hb]
        refine Rows.mono e4 (Rows.app ?_ ?_)
        · exact (hrw2.mono e3).mut hrt
        · exact Rows.one ((upd_ne htr).trans (e3 t _ hlt))
    · refine g_next fun H4 e4 => ⟨ts, _, _, rfl, (e.trans e2).trans e4, e4 r _ hl2, hrt, hft, ?_⟩
      rw [hsucc, if_neg (by rw [hb]; exact Bool.false_ne_true), List.append_nil]
      exact hrw2.mono e4
  · obtain ⟨ts, y3, y4, rfl, e, hl', hrt, hft, hrw⟩ := hP
    have e9 : ((ns.length : Int) + 1).toNat = ns.length + 1 := by omega
    rw [e9] at hrw
    exact g_ret (v := .ref r) (ev_var rfl) fun H2 e2 => q r ts H2 hr hft (e.trans e2) (e2 r _ hl') (hrw.mono e2)

theorem read_piles (vs : List V) (H : Hp) (Q : VK) (E : XK) (h : sp_piles K c vs H Q E) : t_piles K c E { nx := fun _ H' => Q .non H', rt := Q } (start ["many", "found", "k", "longer", "pile"] vs) H := by
  obtain ⟨m, rfl, q, x⟩ := h
  refine Go.here (g_when (b := decide (m < 1) || decide (7 < m)) (by walk_at "et") (fun hb => ?_) (fun hb => ?_))
  · refine g_raise fun H1 e1 => x (fun hc => ?_) H1 e1
    simp at hb
    omega
  have hm : 1 ≤ m ∧ m ≤ 7 := by
    simp at hb
    omega
  replace q := q hm
  refine g_asgW (pss := [[0]]) (ew_one (ns := [0]) (el_lst (vs := [.int 0]) (by walk_at "ea") (Nat.le_of_ble_eq_true rfl))) fun p ts H1 hp hts e1 hl hrw => ?_
  refine g_forR1 (n := m - 1) (by walk_at "ea") (by omega) (fun k σ H' => ∃ (p : Addr) (ts : List Addr) (y2 y3 y4 : Option V), σ = [some (.int m), some (.ref p), y2, y3, y4] ∧ Ex H H' ∧ H p = none ∧ H' p = some (.lst (ts.map V.ref)) ∧ (∀ t ∈ ts, H t = none) ∧ Rows H' ts (goodP k))
    (fun H2 e2 => ⟨p, ts, none, none, none, rfl, e1.trans e2, hp, e2 p _ hl, hts, hrw.mono e2⟩) (fun k σ H' hk hP => ?_) (fun σ H' hP => ?_) (by omega)
  · obtain ⟨p, ts, y2, y3, y4, rfl, e, hp, hl, hts, hrw⟩ := hP
    have hlen := goodP_len k
    have hfc := fc_le (k := k) (by omega)
    have hlen2 := goodP_len (k + 1)
    have hfc2 := fc_le (k := k + 1) (by omega)
    refine g_asgL (xs := []) (by walk_at "el") fun r H2 hr e2 hlr => ?_
    refine g_forL (a := p) (xs := ts.map V.ref) (ev_var rfl) (sq_lst (e2 p _ hl)) (fun i σ H3 => ∃ (us : List Addr) (y4 : Option V), σ = [some (.int m), some (.ref p), some (.int (k : Int)), some (.ref r), y4] ∧ Ex H' H3 ∧ H3 r = some (.lst (us.map V.ref)) ∧ r ∉ us ∧ (∀ t ∈ us, H t = none) ∧ Rows H3 us (((goodP k).take i).flatMap nextAll))
      (fun H3 e3 => ⟨[], y4, rfl, e2.trans e3, e3 r _ hlr, by simp, by simp, by simpa using Rows.nil⟩) (fun i σ H3 hi hP => ?_) (fun i v σ H3 hv hP => ?_) (fun σ H3 hP => ?_)
    · obtain ⟨_, _, _, e3, _⟩ := hP
      exact sq_lst (e3 p _ hl)
    · obtain ⟨us, y4, rfl, e3, hlr3, hru, hus, hrw3⟩ := hP
      obtain ⟨t, ps, rfl, ht1, ht2, ht3⟩ := hrw.getT hv
      have hgp := goodP_of (List.mem_of_getElem? ht2)
      have hstep : ((goodP k).take (i + 1)).flatMap nextAll = ((goodP k).take i).flatMap nextAll ++ nextAll ps := by
        rw [take_more ht2, List.flatMap_append, List.flatMap_singleton]
      have htot : (((goodP k).take (i + 1)).flatMap nextAll).length ≤ 5040 := by
        have e9 : (goodP (k + 1)).length = (((goodP k).take (i + 1)).flatMap nextAll).length + (((goodP k).drop (i + 1)).flatMap nextAll).length := by
          rw [← List.length_append, ← List.flatMap_append, List.take_append_drop]
          rfl
        omega
      rw [hstep, List.length_append] at htot
      have hul := hrw3.1
      refine g_extW (pss := nextAll ps) hlr3 (ev_var rfl) (ew_call (vs := [.ref t]) (by walk_at "ea") (v_with_next (sq_lst (e3 t _ ht3)) (hgp.1.pile (Nat.succ_pos k)) (by rw [hgp.1.len]; omega))) (by rw [List.length_map, hul]; omega) fun ws H4 hws e4 hrw4 => ?_
      refine g_next (D := _) (fun H5 e5 => ?_) _ (Ex.refl _)
      have hrw' : r ∉ ws := fun z => by
        have := hws r z
        rw [hlr3] at this
        cases this
      refine ⟨us ++ ws, _, rfl, (Ex.mut (e3.trans e4) hr).trans e5, ?_, ?_, fun u hu => ?_, ?_⟩
      · rw [List.map_append]
        exact e5 r _ upd_same
      · simp only [List.mem_append, not_or]
        exact ⟨hru, hrw'⟩
      · rcases List.mem_append.mp hu with hu | hu
        · exact hus u hu
        · exact fresh_back (e.trans e3) (hws u hu)
      · rw [hstep]
        exact Rows.mono e5 (Rows.app ((hrw3.mono e4).mut hru) (hrw4.mut hrw'))
    · obtain ⟨us, y4, rfl, e3, hlr3, hru, hus, hrw3⟩ := hP
      refine g_asg (v := .ref r) (ev_var rfl) (g_next fun H4 e4 => ⟨r, us, _, _, _, rfl, (e.trans e3).trans e4, fresh_back e hr, e4 r _ hlr3, hus, ?_⟩)
      have e9 : (goodP k).take (ts.map V.ref).length = goodP k := List.take_of_length_le (by rw [List.length_map, hrw.1]; exact Nat.le_refl _)
      rw [e9] at hrw3
      exact hrw3.mono e4
  · obtain ⟨p, ts, y2, y3, y4, rfl, e, hp, hl, hts, hrw⟩ := hP
    exact g_ret (v := .ref p) (ev_var rfl) fun H2 e2 => q p ts H2 hp hts (e.trans e2) (e2 p _ hl) (hrw.mono e2)

theorem read_piles_with (vs : List V) (H : Hp) (Q : VK) (E : XK) (h : sp_piles_with K c vs H Q E) : t_piles_with K c E { nx := fun _ H' => Q .non H', rt := Q } (start ["row", "pile"] vs) H := by
  obtain ⟨l, rfl, hl, q, x⟩ := h
  by_cases hL : Letters l
  · refine Go.here (g_drop (v := .non) (ev_callD (vs := [.str (txt l)]) (by walk_at "ea") (v_look hl hL)) ?_)
    obtain ⟨q, x⟩ := q hL
    have ha : ∀ H, EvA (tCons (tOp (rI0 fun i j => .int (i + j)) (tCB rLenT (tCons (tVar 0) tNil)) (tC (.int 1))) tNil) [some (.str (txt l)), none] H [.int ((l.length : Int) + 1)] := fun H => ea_cons (ev_add (ev_lenTxt (ev_var rfl) (by omega)) ev_c) ea_nil
    by_cases h7 : l.length + 1 ≤ 7
    · have e9 : ((l.length : Int) + 1 - 1).toNat = l.length := by omega
      refine g_retW (pss := withRow l) ?_ (q h7)
      unfold withRow
      have hp := v_piles (K := K) (c := c) (H := H) (m := (l.length : Int) + 1) ⟨by omega, by omega⟩
      rw [e9] at hp
      have h1 := goodP_len l.length
      have h2 := fc_le (k := l.length) (by omega)
      refine ew_lc (fun ps => decide (txt (lets (pl ps)) = txt l)) (ew_call (ha _) hp) (by omega) (fun _ => rfl) (fun _ => rfl) fun u ps H1 e1 hm hu => ?_
      have hg := goodP_of hm
      refine et_test (ev_eqS (ev_callD (vs := [.ref u]) (by walk_at "ea") (v_letters (sq_lst hu) (by rw [hg.1.len]; omega) (hg.1.pile (Nat.succ_pos _)))) (ev_var rfl))
    · exact g_retX (evx_lc (evx_call (ha _) fun H1 e1 Q' => ⟨(l.length : Int) + 1, rfl, .no (by omega) fun H3 e3 => x h7 H3 (e1.trans e3)⟩))
  · exact Go.here (g_dropX (evx_call (vs := [.str (txt l)]) (by walk_at "ea") (x_look hl hL fun H' e' => x hL H' e')))

theorem read_l_letters (vs : List V) (H : Hp) (Q : VK) (E : XK) (h : sp_l_letters K c vs H Q E) : t_l_letters K c E { nx := fun _ H' => Q .non H', rt := Q } (start ["_law_at", "_law_told", "_law_crease", "_law_inward"] vs) H := by
  obtain ⟨a, p, rfl, hS, h1, hlen, q⟩ := h
  refine Go.here (g_asgL (xs := []) (by walk_at "el") fun r H2 hr e2 hr2 => ?_)
  refine g_forR1 (n := (p.length : Int) - 1) (by walk_at "ea") (by omega) (fun i σ H' => ∃ (y3 y4 : Option V), σ = [some (.ref a), some (.ref r), y3, y4] ∧ Ex H H' ∧ H' r = some (.lst ((((lets p).take i).map fun c => (⟨#[c]⟩ : Str)).map V.str)))
    (fun H3 e3 => ⟨none, none, rfl, e2.trans e3, by rw [e3 r _ hr2]; rfl⟩) (fun i σ H' hi hP => ?_) (fun σ H' hP => ?_) (by omega)
  · obtain ⟨y3, y4, rfl, e, hr3⟩ := hP
    refine g_asg (v := .bl (decide (gi p (i : Int) < gi p ((i : Int) + 1)) == decide ((i : Int) % 2 = 0))) (by walk_at "ev") ?_
    have hg := lets_get (l := p) (k := i) (by omega)
    refine g_app (xs := (((lets p).take i).map fun c => (⟨#[c]⟩ : Str)).map V.str) hr3 (v := .str (if (decide (gi p (i : Int) < gi p ((i : Int) + 1)) == decide ((i : Int) % 2 = 0)) = true then Str.ofString "V" else Str.ofString "M")) (by walk_at "ev") (ev_ix2 (ev_intB (ev_var rfl))) (by simp only [List.length_map, List.length_take]; have := lets_len p; omega) fun H4 e4 => ?_
    refine g_next (D := _) (fun H5 e5 => ?_) _ (Ex.refl _)
    refine ⟨some (.int (i : Int)), _, rfl, (Ex.mut (e.trans e4) hr).trans e5, ?_⟩
    rw [e5 r _ upd_same, take_more hg, List.map_append, List.map_append]
    congr 3
    show [V.str _] = [V.str (⟨#[_]⟩ : Str)]
    rw [sg_V, sg_M]
    split <;> rfl
  · obtain ⟨y3, y4, rfl, e, hr3⟩ := hP
    have hn : ((p.length : Int) - 1).toNat = (lets p).length := by rw [lets_len]; omega
    rw [hn, List.take_length] at hr3
    exact g_ret (v := .str (txt (lets p))) (ev_join (ev_var rfl) (sq_lst hr3) (by rw [lets_len]; omega)) fun H4 e4 => q H4 (e.trans e4)

/-! ### the dict of the piles met -/
def metK (pss : List (List Int)) : List (List L2.Key × V) := pss.map fun ps => (ps.map Sum.inl, V.bl true)
theorem key_ints (ps : List Int) : (ps.map (Sum.inl : Int → L2.Key)).map kV = ps.map V.int := by
  rw [List.map_map]
  rfl
theorem key_inj {ps qs : List Int} (h : (ps.map (Sum.inl : Int → L2.Key)) = qs.map Sum.inl) : ps = qs := List.map_inj_right (fun a b e => Sum.inl.inj e) |>.mp h
theorem met_no {pss : List (List Int)} {ps : List Int} (h : ps ∉ pss) : valV (metK pss) (ps.map Sum.inl) = none := by
  have e := valV_any (ps.map (Sum.inl : Int → L2.Key)) (metK pss)
  cases hv : valV (metK pss) (ps.map Sum.inl) with
  | none => rfl
  | some z =>
    rw [hv] at e
    obtain ⟨y, hy, h2⟩ := List.any_eq_true.mp e
    obtain ⟨qs, hq, rfl⟩ := List.mem_map.mp hy
    have := key_inj (of_decide_eq_true h2)
    rw [← this] at h
    exact absurd hq h
theorem met_put {pss : List (List Int)} {ps : List Int} (h : ps ∉ pss) : putK (metK pss) (ps.map Sum.inl) (.bl true) = metK (pss ++ [ps]) := by
  unfold putK
  rw [valV_any, met_no h, if_neg (by decide)]
  unfold metK
  rw [List.map_append]
  rfl
theorem ev_din {ta td : TE} {σ : L2.St} {H : Hp} {d : Addr} {kvs : List (List L2.Key × V)} {ps : List Int} (h : EvU ta σ H (ps.map V.int)) (hd : Ev td σ H (.ref d)) (hk : H d = some (.dT kvs)) : Ev (tDIn ta td) σ H (.bl (valV kvs (ps.map Sum.inl)).isSome) := fun H1 e Q q =>
  h H1 e _ fun u H2 hu e2 h2 => hd H2 (e.trans e2) _ fun H3 e3 => ⟨d, _, rfl, DGet.t (((e.trans e2).trans e3) d _ hk) (by rw [key_ints]; exact e3 u _ h2), q H3 (e2.trans e3)⟩
theorem g_dput {ta td tv : TE} {σ : L2.St} {H : Hp} {D : Ends} {tz : TS} {d : Addr} {kvs : List (List L2.Key × V)} {ps : List Int} {v : V} (hv : Ev tv σ H v) (hd : Ev td σ H (.ref d)) (h : EvU ta σ H (ps.map V.int)) (hk : H d = some (.dT kvs)) (hz : kvs.length < 100000) (k : ∀ H1, Ex H H1 → tz D σ (upd H1 d (.dT (putK kvs (ps.map Sum.inl) v)))) : Go (tSeq (sDPut td ta tv) tz) D σ H := fun H1 e =>
  hv H1 e _ fun H2 e2 => hd H2 (e.trans e2) _ fun H3 e3 => h H3 ((e.trans e2).trans e3) _ fun u H4 hu e4 h4 => ⟨d, _, rfl, DPut.t ((((e.trans e2).trans e3).trans e4) d _ hk) (by rw [key_ints]; exact h4) (sz_lt hz), k H4 (((e.trans e2).trans e3).trans e4)⟩
theorem g_asgD {i : Nat} {σ : L2.St} {H : Hp} {D : Ends} {tz : TS} (k : ∀ d H1, H d = none → Ex H H1 → H1 d = some (.dT []) → Go tz D (σ.set i (some (.ref d))) H1) : Go (tSeq (tAsg tDNewT (gName i)) tz) D σ H := fun H1 e d hd => (k d (upd H1 d (.dT [])) (fresh_back e hd) (e.trans (Ex.new hd)) upd_same).here
theorem read_l_all_good (vs : List V) (H : Hp) (Q : VK) (E : XK) (h : sp_l_all_good K c vs H Q E) : t_l_all_good K c E { nx := fun _ H' => Q .non H', rt := Q } (start ["_law_found", "_law_size", "_law_seen", "_law_pile_here"] vs) H := by
  obtain ⟨a, ts, pss, n, rfl, hA, hrw, hnd, hpl, hn, hall, q⟩ := h
  refine Go.here (g_no (et_is (et_not (et_B (ev_isiL (ev_var rfl) hA))) rfl) (g_nextS ?_))
  have htl := hrw.1
  refine g_asgD fun d H1 hdH e1 hd1 => ?_
  refine g_forL (a := a) (xs := ts.map V.ref) (ev_var rfl) (sq_lst (e1 a _ hA)) (fun i σ H' => ∃ (y3 : Option V), σ = [some (.ref a), some (.int n), some (.ref d), y3] ∧ Ex H H' ∧ H' d = some (.dT (metK (pss.take i))))
    (fun H2 e2 => ⟨none, rfl, e1.trans e2, e2 d _ hd1⟩) (fun i σ H' hi hP => ?_) (fun i v σ H' hv hP => ?_) (fun σ H' hP => ?_)
  · obtain ⟨_, _, e, _⟩ := hP
    exact sq_lst (e a _ hA)
  · obtain ⟨y3, rfl, e, hd'⟩ := hP
    obtain ⟨t, ps, rfl, ht1, ht2, ht3⟩ := hrw.getT hv
    obtain ⟨pp, pn, nx⟩ := hall ps (List.mem_of_getElem? ht2)
    have hti := e t _ ht3
    have hno : ps ∉ pss.take i := fun hm => by
      obtain ⟨j, hj⟩ := List.mem_iff_getElem?.mp hm
      rw [List.getElem?_take] at hj
      by_cases hji : j < i
      · rw [if_pos hji] at hj
        obtain ⟨hj1, hj2⟩ := List.getElem?_eq_some_iff.mp hj
        obtain ⟨hi1, hi2⟩ := List.getElem?_eq_some_iff.mp ht2
        exact absurd (hj2.trans hi2.symm) (List.pairwise_iff_getElem.mp hnd j i hj1 hi1 hji)
      · rw [if_neg hji] at hj
        cases hj
    have hpsl : ps.length ≤ 1000 := by omega
    have hml : (metK (pss.take i)).length ≤ 10000 := by
      unfold metK
      rw [List.length_map, List.length_take]
      omega
    have hEu : EvU (tCB (rTupS K) (tCons (tVar 3) tNil)) [some (.ref a), some (.int n), some (.ref d), some (.ref t)] H' (ps.map V.int) := eu_of (ev_var rfl) (sq_lst hti)
    have z1 : SpV (sp_l_is_pile K c) [.ref t, .int n] H' (.bl true) := v_is_pile hti pp hpsl pn.symm
    have z2 : EvA (tCons (tVar 3) (tCons (tVar 1) tNil)) [some (.ref a), some (.int n), some (.ref d), some (.ref t)] H' [.ref t, .int n] := ea_cons (ev_var rfl) (ea_cons (ev_var rfl) ea_nil)
    have z3 : Ev (tCall (sp_l_is_pile K c) [] E (tCons (tVar 3) (tCons (tVar 1) tNil))) [some (.ref a), some (.int n), some (.ref d), some (.ref t)] H' (.bl true) := ev_callD z2 z1
    have t1 : EvT (tNot (tB (tCall (sp_l_is_pile K c) [] E (tCons (tVar 3) (tCons (tVar 1) tNil))))) [some (.ref a), some (.int n), some (.ref d), some (.ref t)] H' false := et_not (et_B z3)
    have t2 : EvT (tB (tDIn (tCB (rTupS K) (tCons (tVar 3) tNil)) (tVar 2))) [some (.ref a), some (.int n), some (.ref d), some (.ref t)] H' false := by
      have z := et_B (ev_din (td := tVar 2) hEu (ev_var rfl) hd')
      rw [met_no hno] at z
      exact z
    have t3 : EvT (tNot (tB (tCall (sp_l_none_cross K c) [] E (tCons (tCall (sp_l_places K c) [] E (tCons (tVar 3) tNil)) tNil)))) [some (.ref a), some (.int n), some (.ref d), some (.ref t)] H' false := by
      have z := et_not (et_B (ev_call1L (xs := (pl ps).map V.int) (sp := sp_l_none_cross K c) (E := E) (z := .bl (noX (pl ps))) (el_callD (sp := sp_l_places K c) (E := E) (ta := tCons (tVar 3) tNil) (σ := [some (.ref a), some (.int n), some (.ref d), some (.ref t)]) (vs := [.ref t]) (by walk_at "ea") (v_l_places (sq_lst hti) hpsl pp)) fun z H4 hz e4 => v_none (sq_lst hz) (by rw [pl_len]; exact hpsl) (by rw [pl_len]; exact pp.pos)))
      rw [(noX_iff _).mpr nx] at z
      exact z
    refine g_no (et_or t1 fun _ => et_or t2 fun _ => t3) (g_nextS ?_)
    refine g_dput (v := .bl true) (td := tVar 2) ev_c (ev_var rfl) hEu hd' (by omega) fun H3 e3 => ?_
    refine g_next (D := _) (fun H4 e4 => ?_) _ (Ex.refl _)
    refine ⟨_, rfl, (Ex.mut (e.trans e3) hdH).trans e4, ?_⟩
    rw [take_more ht2, ← met_put hno]
    exact e4 d _ upd_same
  · obtain ⟨y3, rfl, e, hd'⟩ := hP
    exact g_ret (v := .bl true) ev_c fun H3 e3 => q H3 (e.trans e3)
end
end Fo
/-! FoldR13 -/
namespace Fo
open PySem L2 Evl
local macro_rules | `(tactic| walk_at "hl") => `(tactic| first
  | assumption
  | exact upd_same
  | (refine (by assumption : Ex _ _) _ _ ?_; walk_at "hl"))
local macro_rules | `(tactic| walk_at "sq") => `(tactic| first
  | assumption
  | (refine sq_lst ?_; walk_at "hl")
  | (refine ex_l (by assumption) ?_; walk_at "sq"))
local macro_rules | `(tactic| walk_at "st") => `(tactic| first
  | assumption
  | (refine st_of ?_; walk_at "hl")
  | (refine ex_t (by assumption) ?_; walk_at "st"))
local macro_rules | `(tactic| walk_at "sq2") => `(tactic| first
  | assumption
  | (refine Or.inl ?_; walk_at "sq")
  | (refine Or.inr ?_; walk_at "st")
  | (refine Sq2.mono (by assumption) ?_; walk_at "sq2"))
local macro_rules | `(tactic| walk_at "ar") => `(tactic| first
  | assumption
  | omega
  | decide)
local macro_rules | `(tactic| walk_at "lar") => `(tactic| first
  | omega
  | (simp only [List.length_append, List.length_map, List.length_take, List.length_drop, List.length_cons, List.length_nil, List.length_replicate]; omega))
local macro_rules | `(tactic| walk_at "hb") => `(tactic| first
  | skip)
local macro_rules | `(tactic| walk_at "mul") => `(tactic| first
  | (exact Or.inr ⟨by decide, by decide⟩)
  | (exact Or.inl ⟨by decide, by decide⟩)
  | (exact Or.inl ⟨by omega, by omega⟩)
  | (exact Or.inr ⟨by omega, by omega⟩))
local macro_rules | `(tactic| walk_at "div") => `(tactic| first
  | (exact ⟨by decide, by decide⟩)
  | (exact ⟨by omega, by omega⟩))
local macro_rules | `(tactic| walk_at "ea") => `(tactic| first
  | exact ea_nil
  | ((with_reducible refine' ea_cons ?k0 ?k1); (case k0 => walk_at "ev"); (case k1 => walk_at "ea")))
local macro_rules | `(tactic| walk_at "eo") => `(tactic| first
  | exact eo_none
  | ((with_reducible refine' eo_some ?k0); (case k0 => walk_at "ev")))
local macro_rules | `(tactic| walk_at "el") => `(tactic| first
  | ((with_reducible refine' el_lst ?k0 ?k1); (case k0 => walk_at "ea"); (case k1 => (exact Nat.le_of_ble_eq_true rfl)))
  | ((with_reducible refine' el_from ?k0 ?k1 ?k2 ?k3 ?k4); (case k0 => walk_at "ev"); (case k1 => walk_at "eo"); (case k2 => walk_at "sq"); (case k3 => walk_at "ar"); (case k4 => walk_at "lar"))
  | ((with_reducible refine' el_upto ?k0 ?k1 ?k2 ?k3 ?k4); (case k0 => walk_at "ev"); (case k1 => walk_at "eo"); (case k2 => walk_at "sq"); (case k3 => walk_at "ar"); (case k4 => walk_at "lar"))
  | ((with_reducible refine' el_rep1 ?k0 ?k1 ?k2 ?k3); (case k0 => walk_at "el"); (case k1 => walk_at "ev"); (case k2 => walk_at "ar"); (case k3 => walk_at "ar"))
  | ((with_reducible refine' el_cat ?k0 ?k1 ?k2); (case k0 => walk_at "el"); (case k1 => walk_at "el"); (case k2 => walk_at "lar"))
  | ((with_reducible refine' el_callD ?k0 ?k1); (case k0 => walk_at "ea"); (case k1 => walk_at "sp"))
  | ((with_reducible refine' el_list ?k0 ?k1); (case k0 => walk_at "ev"); (case k1 => walk_at "sq"))
  | ((with_reducible refine' el_srt ?k0 ?k1); (case k0 => walk_at "ev"); (case k1 => walk_at "sq"))
  | ((with_reducible refine' el_sortedQ ?k0 ?k1); (case k0 => walk_at "ev"); (case k1 => walk_at "sq2"))
  | ((with_reducible refine' el_rev ?k0 ?k1); (case k0 => walk_at "ev"); (case k1 => walk_at "sq"))
  | ((with_reducible refine' el_step ?k0 ?k1 ?k2); (case k0 => walk_at "ev"); (case k1 => walk_at "eo"); (case k2 => walk_at "sq")))
local macro_rules | `(tactic| walk_at "et") => `(tactic| first
  | ((with_reducible refine' et_test ?k0); (case k0 => walk_at "ev"))
  | ((with_reducible refine' et_B ?k0); (case k0 => walk_at "ev"))
  | ((with_reducible refine' et_not ?k0); (case k0 => walk_at "et"))
  | ((with_reducible refine' et_and ?k0 (fun hb => ?k1)); (case k0 => walk_at "et"); (case k1 => (walk_at "hb"; walk_at "et")))
  | ((with_reducible refine' et_or ?k0 (fun hb => ?k1)); (case k0 => walk_at "et"); (case k1 => (walk_at "hb"; walk_at "et"))))
local macro_rules | `(tactic| walk_at "ev") => `(tactic| first
  | ((with_reducible refine' ev_var ?k0); (case k0 => rfl))
  | exact ev_c
  | ((with_reducible refine' ev_add ?k0 ?k1); (case k0 => walk_at "ev"); (case k1 => walk_at "ev"))
  | ((with_reducible refine' ev_sub ?k0 ?k1); (case k0 => walk_at "ev"); (case k1 => walk_at "ev"))
  | ((with_reducible refine' ev_ixI ?k0 ?k1 ?k2 ?k3 ?k4); (case k0 => walk_at "ev"); (case k1 => walk_at "ev"); (case k2 => walk_at "sq"); (case k3 => walk_at "ar"); (case k4 => walk_at "ar"))
  | ((with_reducible refine' ev_ixT ?k0 ?k1 ?k2 ?k3); (case k0 => walk_at "ev"); (case k1 => walk_at "ev"); (case k2 => walk_at "st"); (case k3 => rfl))
  | ((with_reducible refine' ev_lt ?k0 ?k1); (case k0 => walk_at "ev"); (case k1 => walk_at "ev"))
  | ((with_reducible refine' ev_gt ?k0 ?k1); (case k0 => walk_at "ev"); (case k1 => walk_at "ev"))
  | ((with_reducible refine' ev_le ?k0 ?k1); (case k0 => walk_at "ev"); (case k1 => walk_at "ev"))
  | ((with_reducible refine' ev_ge ?k0 ?k1); (case k0 => walk_at "ev"); (case k1 => walk_at "ev"))
  | ((with_reducible refine' ev_eqI ?k0 ?k1); (case k0 => walk_at "ev"); (case k1 => walk_at "ev"))
  | ((with_reducible refine' ev_neI ?k0 ?k1); (case k0 => walk_at "ev"); (case k1 => walk_at "ev"))
  | ((with_reducible refine' ev_eqB ?k0 ?k1); (case k0 => walk_at "ev"); (case k1 => walk_at "ev"))
  | ((with_reducible refine' ev_neB ?k0 ?k1); (case k0 => walk_at "ev"); (case k1 => walk_at "ev"))
  | ((with_reducible refine' ev_eqS ?k0 ?k1); (case k0 => walk_at "ev"); (case k1 => walk_at "ev"))
  | ((with_reducible refine' ev_neS ?k0 ?k1); (case k0 => walk_at "ev"); (case k1 => walk_at "ev"))
  | ((with_reducible refine' ev_mod ?k0 ?k1 ?k2); (case k0 => walk_at "ev"); (case k1 => walk_at "ev"); (case k2 => walk_at "ar"))
  | ((with_reducible refine' ev_mul ?k0 ?k1 ?k2); (case k0 => walk_at "ev"); (case k1 => walk_at "ev"); (case k2 => walk_at "mul"))
  | ((with_reducible refine' ev_div ?k0 ?k1 ?k2); (case k0 => walk_at "ev"); (case k1 => walk_at "ev"); (case k2 => walk_at "div"))
  | ((with_reducible refine' ev_neg ?k0); (case k0 => walk_at "ev"))
  | ((with_reducible refine' ev_callD ?k0 ?k1); (case k0 => walk_at "ea"); (case k1 => walk_at "sp"))
  | ((with_reducible refine' ev_lenI ?k0 ?k1); (case k0 => walk_at "ev"); (case k1 => walk_at "sq"))
  | ((with_reducible refine' ev_lenQ ?k0 ?k1); (case k0 => walk_at "ev"); (case k1 => walk_at "sq2"))
  | ((with_reducible refine' ev_lenSet ?k0 ?k1 ?k2); (case k0 => walk_at "ev"); (case k1 => walk_at "sq2"); (case k2 => walk_at "ar"))
  | ((with_reducible refine' ev_inI ?k0 ?k1 ?k2); (case k0 => walk_at "ev"); (case k1 => walk_at "ev"); (case k2 => walk_at "sq2"))
  | ((with_reducible refine' ev_notInI ?k0 ?k1 ?k2); (case k0 => walk_at "ev"); (case k1 => walk_at "ev"); (case k2 => walk_at "sq2"))
  | ((with_reducible refine' ev_lenTxt ?k0 ?k1); (case k0 => walk_at "ev"); (case k1 => walk_at "ar"))
  | ((with_reducible refine' ev_lenS ?k0 ?k1); (case k0 => walk_at "ev"); (case k1 => walk_at "ar"))
  | ((with_reducible refine' ev_ixTxt ?k0 ?k1 ?k2 ?k3 ?k4); (case k0 => walk_at "ev"); (case k1 => walk_at "ev"); (case k2 => walk_at "ar"); (case k3 => walk_at "ar"); (case k4 => walk_at "ar"))
  | ((with_reducible refine' ev_ix2 ?k0); (case k0 => walk_at "ev"))
  | ((with_reducible refine' ev_isiI ?k0); (case k0 => walk_at "ev"))
  | ((with_reducible refine' ev_isiL ?k0 ?k1); (case k0 => walk_at "ev"); (case k1 => walk_at "hl"))
  | ((with_reducible refine' ev_isiU ?k0 ?k1); (case k0 => walk_at "ev"); (case k1 => walk_at "hl"))
  | ((with_reducible refine' ev_isiS ?k0); (case k0 => walk_at "ev"))
  | ((with_reducible refine' ev_isiB ?k0); (case k0 => walk_at "ev"))
  | ((with_reducible refine' ev_isN ?k0); (case k0 => walk_at "ev"))
  | ((with_reducible refine' ev_notN ?k0); (case k0 => walk_at "ev"))
  | ((with_reducible refine' ev_notIB ?k0 ?k1); (case k0 => walk_at "ev"); (case k1 => walk_at "ev"))
  | ((with_reducible refine' ev_neNil ?k0 ?k1); (case k0 => walk_at "ev"); (case k1 => walk_at "sq"))
  | ((with_reducible refine' ev_eqNil ?k0 ?k1); (case k0 => walk_at "ev"); (case k1 => walk_at "sq"))
  | ((with_reducible refine' ev_eqL ?k0 ?k1 ?k2 ?k3); (case k0 => walk_at "ev"); (case k1 => walk_at "ev"); (case k2 => walk_at "sq"); (case k3 => walk_at "sq"))
  | ((with_reducible refine' ev_neL ?k0 ?k1 ?k2 ?k3); (case k0 => walk_at "ev"); (case k1 => walk_at "ev"); (case k2 => walk_at "sq"); (case k3 => walk_at "sq"))
  | ((with_reducible refine' ev_min2 ?k0 ?k1); (case k0 => walk_at "ev"); (case k1 => walk_at "ev"))
  | ((with_reducible refine' ev_max2 ?k0 ?k1); (case k0 => walk_at "ev"); (case k1 => walk_at "ev"))
  | ((with_reducible refine' ev_intB ?k0); (case k0 => walk_at "ev"))
  | ((with_reducible refine' ev_andV ?k0 (fun hb => ?k1)); (case k0 => walk_at "ev"); (case k1 => (walk_at "hb"; walk_at "ev")))
  | ((with_reducible refine' ev_orV ?k0 (fun hb => ?k1)); (case k0 => walk_at "ev"); (case k1 => (walk_at "hb"; walk_at "ev")))
  | ((with_reducible refine' ev_notV ?k0); (case k0 => walk_at "ev"))
  | ((with_reducible refine' ev_ifI ?k0 (fun hb => ?k1) (fun hb => ?k2)); (case k0 => walk_at "et"); (case k1 => (walk_at "hb"; walk_at "ev")); (case k2 => (walk_at "hb"; walk_at "ev")))
  | ((with_reducible refine' ev_ifS ?k0 (fun hb => ?k1) (fun hb => ?k2)); (case k0 => walk_at "et"); (case k1 => (walk_at "hb"; walk_at "ev")); (case k2 => (walk_at "hb"; walk_at "ev"))))
local macro_rules | `(tactic| walk_at "hb") => `(tactic| (try simp only [decide_eq_true_eq, decide_eq_false_iff_not, Bool.and_eq_true, Bool.or_eq_true, Bool.or_eq_false_iff, Bool.not_eq_true', Bool.not_eq_false', beq_iff_eq] at *))
local macro_rules | `(tactic| walk_at "sp") => `(tactic| first
  | (refine' v_number ?k0 ?k1 ?k2; (case k0 => walk_at "sq"); (case k1 => walk_at "ar"); (case k2 => walk_at "ar"))
  | (refine' v_drawn ?k0 ?k1; (case k0 => walk_at "sq"); (case k1 => walk_at "ar"))
  | exact v_size
  | exact v_counts
  | (refine' v_wraps ?k0 ?k1 ?k2 ?k3 ?k4; (case k0 => walk_at "sq"); (case k1 => walk_at "ar"); (case k2 => walk_at "ar"); (case k3 => walk_at "ar"); (case k4 => walk_at "ar"))
  | (refine' v_l_wraps ?k0 ?k1 ?k2 ?k3 ?k4; (case k0 => walk_at "sq"); (case k1 => walk_at "ar"); (case k2 => walk_at "ar"); (case k3 => walk_at "ar"); (case k4 => walk_at "ar"))
  | (refine' v_cross ?k0 ?k1 ?k2 ?k3 ?k4; (case k0 => walk_at "sq"); (case k1 => walk_at "ar"); (case k2 => walk_at "ar"); (case k3 => walk_at "ar"); (case k4 => walk_at "ar"))
  | (refine' v_places ?k0 ?k1 ?k2; (case k0 => walk_at "sq"); (case k1 => walk_at "ar"); (case k2 => assumption))
  | (refine' v_letters ?k0 ?k1 ?k2; (case k0 => walk_at "sq"); (case k1 => walk_at "ar"); (case k2 => assumption))
  | (refine' v_l_places ?k0 ?k1 ?k2; (case k0 => walk_at "sq"); (case k1 => walk_at "ar"); (case k2 => assumption))
  | (refine' v_fits ?k0 ?k1 ?k2 ?k3; (case k0 => walk_at "sq"); (case k1 => walk_at "ar"); (case k2 => walk_at "ar"); (case k3 => walk_at "ar"))
  | (refine' v_none ?k0 ?k1 ?k2; (case k0 => walk_at "sq"); (case k1 => walk_at "ar"); (case k2 => walk_at "ar")))
local macro_rules | `(tactic| walk_at "sp") => `(tactic| first
  | (refine' v_turned ?k0 ?k1 ?k2; (case k0 => walk_at "sq"); (case k1 => walk_at "ar"); (case k2 => assumption))
  | (refine' v_same ?k0 ?k1 ?k2; (case k0 => walk_at "hl"); (case k1 => walk_at "sq"); (case k2 => walk_at "ar"))
  | (refine' v_told ?k0 ?k1 ?k2; (case k0 => walk_at "sq"); (case k1 => walk_at "hl"); (case k2 => assumption))
  | (refine' v_parted ?k0 ?k1 ?k2 ?k3; (case k0 => walk_at "sq"); (case k1 => walk_at "ar"); (case k2 => walk_at "ar"); (case k3 => assumption)))
local macro_rules | `(tactic| walk_at "sp") => `(tactic| first
  | (refine' v_is_pile ?k0 ?k1 ?k2 ?k3; (case k0 => walk_at "hl"); (case k1 => assumption); (case k2 => walk_at "ar"); (case k3 => walk_at "ar")))
local macro_rules | `(tactic| walk_at "sp") => `(tactic| first
  | (refine' v_held ?k0 ?k1 ?k2 ?k3 ?k4 ?k5; (case k0 => walk_at "sq"); (case k1 => walk_at "st"); (case k2 => walk_at "ar"); (case k3 => (refine ⟨?_, ?_⟩ <;> walk_at "ar")); (case k4 => (refine ⟨?_, ?_⟩ <;> walk_at "ar")); (case k5 => (refine ⟨?_, ?_⟩ <;> walk_at "ar")))
  | (refine' v_l_held ?k0 ?k1 ?k2 ?k3 ?k4; (case k0 => walk_at "sq"); (case k1 => walk_at "ar"); (case k2 => (refine ⟨?_, ?_⟩ <;> walk_at "ar")); (case k3 => (refine ⟨?_, ?_⟩ <;> walk_at "ar")); (case k4 => (refine ⟨?_, ?_⟩ <;> walk_at "ar")))
  | (refine' v_lies ?k0 ?k1 ?k2 ?k3 ?k4; (case k0 => walk_at "sq"); (case k1 => walk_at "st"); (case k2 => walk_at "ar"); (case k3 => (refine ⟨?_, ?_⟩ <;> walk_at "ar")); (case k4 => (refine ⟨?_, ?_⟩ <;> walk_at "ar")))
  | (refine' v_judged ?k0 ?k1 ?k2 ?k3; (case k0 => walk_at "sq"); (case k1 => walk_at "ar"); (case k2 => assumption); (case k3 => assumption))
  | (refine' v_l_free ?k0 ?k1 ?k2 ?k3 ?k4 ?k5; (case k0 => walk_at "sq"); (case k1 => walk_at "sq"); (case k2 => walk_at "ar"); (case k3 => walk_at "ar"); (case k4 => walk_at "ar"); (case k5 => assumption))
  | (refine' v_are_free ?k0 ?k1 ?k2 ?k3 ?k4 ?k5; (case k0 => walk_at "sq"); (case k1 => walk_at "sq2"); (case k2 => walk_at "ar"); (case k3 => walk_at "ar"); (case k4 => walk_at "ar"); (case k5 => assumption)))
section
variable {K : PySem.W.Frag} {c : Cs}
theorem ev_joinN {tb : TE} {σ : L2.St} {H : Hp} {l : List Nat} (hc : EvL tb σ H ((l.map fun c => (⟨#[c]⟩ : Str)).map V.str)) (hz : l.length ≤ 100000) : Ev (tBM K "str" (rJoin K) (tC (.str "")) (tCons tb tNil)) σ H (.str (txt l)) := fun H1 e Q q => by
  refine ⟨rfl, hc H1 e _ fun p H2 hp e2 h2 => ⟨"", p, l.map fun c => (⟨#[c]⟩ : Str), rfl, rfl, .inl (sq_lst h2), ?_, ?_⟩⟩
  · rw [sum_one, show (("" : Str)).length = 0 from rfl]
    have := sz_of (n := l.length) hz
    omega
  · rw [join_txt]
    exact q H2 e2
theorem ev_neNilE {te : TE} {σ : L2.St} {H : Hp} (ha : EvL te σ H (([] : List Int).map V.int)) : Ev (tOp (rNeD K) te (tLst tNil)) σ H (.bl false) := fun H1 e Q q =>
  ha H1 e _ fun p H2 hp e2 h2 => el_lst (σ := σ) (H := H2) ea_nil (Nat.zero_le _) H2 (Ex.refl _) _ fun b H3 hb e3 h3 =>
    ⟨.list (([] : List Int).map PyData.int), .list (([] : List Int).map PyData.int), .lst (sq_of (e3 p _ h2)) (dp_ints []), .lst (sq_of h3) (dp_ints []), PySem.W.ke_shaped_ints [], PySem.W.ke_shaped_ints [], q H3 (e2.trans e3)⟩
theorem txt_inj {l m : List Nat} (h : txt l = txt m) : l = m := by
  have := congrArg (fun z : Str => z.cps.toList) h
  simpa [txt] using this
theorem withRow_mem {l : List Nat} {ps : List Int} : ps ∈ withRow l ↔ ps ∈ goodP l.length ∧ lets (pl ps) = l := by
  unfold withRow
  rw [List.mem_filter, decide_eq_true_eq]
  exact ⟨fun h => ⟨h.1, txt_inj h.2⟩, fun h => ⟨h.1, by rw [h.2]⟩⟩
theorem read_law_k08 (vs : List V) (H : Hp) (Q : VK) (E : XK) (h : sp_law K c vs H Q E) : t_law_k08 K c E { nx := fun _ H' => Q .non H', rt := Q } (start ["_law_script", "_law_size", "_law_some", "_law_good_here", "_law_way", "_law_found", "_law_row", "_law_told", "_law_pile_here", "_law_at", "_law_k"] vs) H := by
  obtain ⟨a, ns, rfl, hS, hlen, q⟩ := h
  have i0 : 0 ≤ gi ns 0 % 16 := Int.emod_nonneg _ (by decide)
  have i1 : gi ns 0 % 16 < 16 := Int.emod_lt_of_pos _ (by decide)
  refine Go.here (g_asg (v := .int (gi [1, 2, 3, 4, 5, 3, 4, 5, 4, 5, 2, 3, 6, 4, 6, 7] (gi ns 0 % 16))) (ev_ixNew (i := gi ns 0 % 16) (xs := [1, 2, 3, 4, 5, 3, 4, 5, 4, 5, 2, 3, 6, 4, 6, 7].map V.int) (el_lst (vs := [.int 1, .int 2, .int 3, .int 4, .int 5, .int 3, .int 4, .int 5, .int 4, .int 5, .int 2, .int 3, .int 6, .int 4, .int 6, .int 7]) (by walk_at "ea") (Nat.le_of_ble_eq_true rfl)) (by walk_at "ev") (gi_at i0 i1)) ?_)
  have hn : 1 ≤ gi [1, 2, 3, 4, 5, 3, 4, 5, 4, 5, 2, 3, 6, 4, 6, 7] (gi ns 0 % 16) ∧ gi [1, 2, 3, 4, 5, 3, 4, 5, 4, 5, 2, 3, 6, 4, 6, 7] (gi ns 0 % 16) ≤ 7 := by
    have hm := gi_mem (ns := [1, 2, 3, 4, 5, 3, 4, 5, 4, 5, 2, 3, 6, 4, 6, 7]) i0 i1
    simp only [List.mem_cons, List.not_mem_nil, or_false] at hm
    omega
  generalize gi [1, 2, 3, 4, 5, 3, 4, 5, 4, 5, 2, 3, 6, 4, 6, 7] (gi ns 0 % 16) = n at hn ⊢
  obtain ⟨n1, n7⟩ := hn
  refine g_asgP (elp_call (vs := [.ref a, .int 2, .int n]) (by walk_at "ea") (v_pile hS (by omega) (by omega) n1 (by omega))) fun xs p H1 hP hp e1 hl => ?_
  obtain ⟨ps, rfl, pp, hpn⟩ := hP
  refine g_asgP (elp_call (vs := [.ref a, .int (2 + n), .int n]) (by walk_at "ea") (v_good (ex_l e1 hS) (by omega) (by omega) n1 (by omega))) fun xs g H2 hP hg e2 hlg => ?_
  obtain ⟨gs, rfl, gp, hgn, gx⟩ := hP
  have e12 := e1.trans e2
  have hS2 := ex_l e12 hS
  have hlp := e2 p _ hl
  have w0 : 0 ≤ gi ns 1 % 4 := Int.emod_nonneg _ (by decide)
  have w1 : gi ns 1 % 4 < 4 := Int.emod_lt_of_pos _ (by decide)
  refine g_asg (v := .int (gi ns 1 % 4)) (by walk_at "ev") ?_
  generalize gi ns 1 % 4 = way at w0 w1 ⊢
  have hk : (n - 1).toNat ≤ 6 := by omega
  have hmem : ∀ qs : List Int, IsPile qs → (qs.length : Int) = n → (qs ∈ goodP (n - 1).toNat ↔ NoX (pl qs)) := fun qs h1 h2 => ⟨fun h => (goodP_of h).2, fun h => goodP_all h1 (by omega) h⟩
  have hgl := goodP_len (n - 1).toNat
  have hfc := fc_le hk
  have hplc : ∀ (z : Addr) (qs : List Int) (σ : L2.St) (H3 : Hp) (E : XK) (te : TE), Ev te σ H3 (.ref z) → H3 z = some (.lst (qs.map V.int)) → IsPile qs → (qs.length : Int) = n → EvL (tCall (sp_l_places K c) [] E (tCons te tNil)) σ H3 ((pl qs).map V.int) := fun z qs σ H3 E te h1 h2 h3 h4 =>
    el_callD (vs := [.ref z]) (ea_cons h1 ea_nil) (v_l_places (sq_lst h2) (by omega) h3)
  refine g_cutM (fun σ H' => ∃ y5 : Option V, σ = [some (.ref a), some (.int n), some (.ref p), some (.ref g), some (.int way), y5, none, none, none, none, none] ∧ Ex H2 H') ?_ ?_
  · refine g_ifC (b := decide (n < 7) || decide (way < 2)) (by walk_at "et") (fun hb => ?_) (fun hb => ?_)
    · refine g_asgW (ew_call (vs := [.int n]) (by walk_at "ea") (v_piles ⟨n1, n7⟩)) fun f ts H3 hf hts e3 hlf hrw => ?_
      have z1 : Ev (tCall (sp_l_all_good K c) [] E (tCons (tVar 5) (tCons (tVar 1) tNil))) [some (.ref a), some (.int n), some (.ref p), some (.ref g), some (.int way), some (.ref f), none, none, none, none, none] H3 (.bl true) :=
        ev_callD (vs := [.ref f, .int n]) (ea_cons (ev_var rfl) (ea_cons (ev_var rfl) ea_nil)) (v_all_good hlf hrw (goodP_nd _) (by omega) (by omega) fun qs hq => by
          have hgo := goodP_of hq
          exact ⟨hgo.1.pile (Nat.succ_pos _), by rw [hgo.1.len]; omega, hgo.2⟩)
      have z2 : Ev (tOp (rNotInD K) (tVar 3) (tVar 5)) [some (.ref a), some (.int n), some (.ref p), some (.ref g), some (.int way), some (.ref f), none, none, none, none, none] H3 (.bl (!decide (gs ∈ goodP (n - 1).toNat))) := ev_notInW (ev_var rfl) (ev_var rfl) (sq_lst (e3 g _ hlg)) (sq_lst hlf) hrw
      rw [decide_eq_true ((hmem gs gp hgn).mpr gx)] at z2
      refine g_no (et_or (et_not (et_B z1)) fun _ => et_test z2) (g_nextS ?_)
      have z3 : Ev (tOp (rInD K) (tVar 2) (tVar 5)) [some (.ref a), some (.int n), some (.ref p), some (.ref g), some (.int way), some (.ref f), none, none, none, none, none] H3 (.bl (decide (ps ∈ goodP (n - 1).toNat))) := ev_inW (ev_var rfl) (ev_var rfl) (sq_lst (e3 p _ hlp)) (sq_lst hlf) hrw
      have z4 : Ev (tCall (sp_l_none_cross K c) [] E (tCons (tCall (sp_l_places K c) [] E (tCons (tVar 2) tNil)) tNil)) [some (.ref a), some (.int n), some (.ref p), some (.ref g), some (.int way), some (.ref f), none, none, none, none, none] H3 (.bl (noX (pl ps))) :=
        ev_call1L (hplc p ps _ H3 E (tVar 2) (ev_var rfl) (e3 p _ hlp) pp hpn) fun z H4 hz e4 => v_none (sq_lst hz) (by rw [pl_len]; omega) (by rw [pl_len]; exact pp.pos)
      have e9 : noX (pl ps) = decide (ps ∈ goodP (n - 1).toNat) := by
        rw [Bool.eq_iff_iff, decide_eq_true_eq, noX_iff]
        exact (hmem ps pp hpn).symm
      rw [e9] at z4
      refine g_no (et_is (et_test (ev_neB z3 z4)) (by simp)) (g_nextS ?_)
      refine g_when (b := decide (n = 7)) (by walk_at "et") (fun hb => ?_) (fun hb => ?_)
      · exact g_ret (v := .bl true) ev_c fun H4 _ => q H4
      · exact g_next fun H4 e4 => ⟨_, rfl, e3.trans e4⟩
    · exact g_next fun H4 e4 => ⟨_, rfl, e4⟩
  rintro σ H3 ⟨y5, rfl, e3⟩
  have hg3 := e3 g _ hlg
  refine g_asg (v := .str (txt (lets (pl gs)))) (ev_call1L (hplc g gs _ H3 E (tVar 3) (ev_var rfl) hg3 gp hgn) fun z H4 hz e4 => v_l_letters (sq_lst hz) (by rw [pl_len]; exact gp.pos) (by rw [pl_len]; omega)) ?_
  refine g_cutM (fun σ H' => ∃ l : List Nat, σ = [some (.ref a), some (.int n), some (.ref p), some (.ref g), some (.int way), y5, some (.str (txt l)), none, none, none, none] ∧ Ex H3 H' ∧ Letters l ∧ l.length = (n - 1).toNat) ?_ ?_
  · refine g_ifC (b := decide (way % 2 = 1)) (by walk_at "et") (fun hb => ?_) (fun hb => ?_)
    · have hbit : ∀ k : Nat, gi ns 1 / ((k : Int) * (k : Int) + 4) % 2 = 0 ∨ gi ns 1 / ((k : Int) * (k : Int) + 4) % 2 = 1 := fun k => by
        have b0 : 0 ≤ gi ns 1 / ((k : Int) * (k : Int) + 4) % 2 := Int.emod_nonneg _ (by decide)
        have b1 : gi ns 1 / ((k : Int) * (k : Int) + 4) % 2 < 2 := Int.emod_lt_of_pos _ (by decide)
        omega
      refine g_asg (v := .str (txt ((List.range (n - 1).toNat).map fun (k : Nat) => if gi ns 1 / ((k : Int) * (k : Int) + 4) % 2 = 0 then 86 else 77))) (ev_joinN ?_ (by simp; omega)) ?_
      · have e9 : ((((List.range (n - 1).toNat).map fun (k : Nat) => if gi ns 1 / ((k : Int) * (k : Int) + 4) % 2 = 0 then 86 else 77).map fun c => (⟨#[c]⟩ : Str)).map V.str) = given (n - 1).toNat (fun _ => true) (fun k => V.str (⟨#[if gi ns 1 / ((k : Int) * (k : Int) + 4) % 2 = 0 then 86 else 77]⟩ : Str)) := by
          unfold given
          rw [List.filter_eq_self.mpr fun _ _ => rfl, List.map_map, List.map_map]
          rfl
        rw [e9]
        refine el_lcR1 (fun _ => true) _ (n := n - 1) (by walk_at "ea") (by omega) (fun _ => rfl) (fun i H4 e4 hi => fun H5 e5 Q2 q2 => q2 H5 (Ex.refl _)) fun i H4 e4 hi _ => ?_
        have hi6 : (i : Int) < 7 := by omega
        have hii : (i : Int) * (i : Int) ≤ 49 := by
          have : i * i ≤ 7 * 7 := Nat.mul_le_mul (by omega) (by omega)
          have h2 : ((i * i : Nat) : Int) = (i : Int) * (i : Int) := by push_cast; rfl
          omega
        have hi0 : 0 ≤ (i : Int) * (i : Int) := Int.mul_nonneg (by omega) (by omega)
        have hS4 : SqL K H4 a (ns.map V.int) := ex_l (e3.trans e4) hS2
        have zi : Ev (tOp (rI (fun _ j => 0 < j) fun i j => .int (i % j)) (tOp (rI CDiv fun i j => .int (i / j)) (tCall (sp_l_drawn K c) [] E0 (tCons (tVar 0) (tCons (tC (.int 1)) tNil))) (tOp (rI0 fun i j => .int (i + j)) (tOp (rI CMul fun i j => .int (i * j)) (tVar 10) (tVar 10)) (tC (.int 4)))) (tC (.int 2))) [some (.ref a), some (.int n), some (.ref p), some (.ref g), some (.int way), y5, some (.str (txt (lets (pl gs)))), none, none, none, some (.int (i : Int))] H4 (.int (gi ns 1 / ((i : Int) * (i : Int) + 4) % 2)) :=
          ev_mod (ev_div (ev_callD (vs := [.ref a, .int 1]) (ea_cons (ev_var rfl) (ea_cons ev_c ea_nil)) (v_drawn hS4 (by decide))) (ev_add (ev_mul (ev_var rfl) (ev_var rfl) (Or.inl ⟨by omega, by omega⟩)) ev_c) ⟨by omega, by omega⟩) ev_c (by decide)
        rcases hbit i with hh | hh
        · rw [hh] at zi
          exact ev_is (ev_ixNew (i := 0) (xs := [.str (Str.ofString "V"), .str (Str.ofString "M")]) (el_lst (ea_cons ev_c (ea_cons ev_c ea_nil)) (Nat.le_of_ble_eq_true rfl)) zi rfl) (by rw [sg_V, hh]; rfl)
        · rw [hh] at zi
          exact ev_is (ev_ixNew (i := 1) (xs := [.str (Str.ofString "V"), .str (Str.ofString "M")]) (el_lst (ea_cons ev_c (ea_cons ev_c ea_nil)) (Nat.le_of_ble_eq_true rfl)) zi rfl) (by rw [sg_M, hh]; rfl)
      · refine g_next fun H4 e4 => ⟨_, rfl, e4, fun c hc => ?_, by simp⟩
        obtain ⟨k, _, rfl⟩ := List.mem_map.mp hc
        split
        · exact .inl rfl
        · exact .inr rfl
    · exact g_next fun H4 e4 => ⟨_, rfl, e4, lets_letters _, by rw [lets_len, pl_len]; omega⟩
  rintro σ H4 ⟨l, rfl, e4, hL, hll⟩
  have e34 := e3.trans e4
  refine g_asgW (ew_call (vs := [.str (txt l)]) (by walk_at "ea") (v_piles_with (by omega) hL (by omega))) fun u ws H5 hu hws e5 hlu hrw => ?_
  have hall : ∀ qs ∈ withRow l, IsPile qs ∧ (qs.length : Int) = n ∧ NoX (pl qs) := fun qs hq => by
    have hgo := goodP_of (withRow_mem.mp hq).1
    exact ⟨hgo.1.pile (Nat.succ_pos _), by rw [hgo.1.len]; omega, hgo.2⟩
  have hwl : (withRow l).length ≤ (goodP l.length).length := List.length_filter_le _ _
  have hne : withRow l ≠ [] := fun e => by
    obtain ⟨qs, q1, q2, q3⟩ := row_pile l.length l rfl hL
    have : qs ∈ withRow l := withRow_mem.mpr ⟨goodP_all (q1.pile (Nat.succ_pos _)) q1.len q2, q3⟩
    rw [e] at this
    cases this
  rw [hll] at hwl
  have z1 : Ev (tCall (sp_l_all_good K c) [] E (tCons (tVar 7) (tCons (tVar 1) tNil))) [some (.ref a), some (.int n), some (.ref p), some (.ref g), some (.int way), y5, some (.str (txt l)), some (.ref u), none, none, none] H5 (.bl true) :=
    ev_callD (vs := [.ref u, .int n]) (ea_cons (ev_var rfl) (ea_cons (ev_var rfl) ea_nil)) (v_all_good hlu hrw ((goodP_nd _).filter _) (by omega) (by omega) hall)
  have z2 : Ev (tOp (rEqD K) (tVar 7) (tLst tNil)) [some (.ref a), some (.int n), some (.ref p), some (.ref g), some (.int way), y5, some (.str (txt l)), some (.ref u), none, none, none] H5 (.bl (decide (withRow l = []))) := ev_eqNilW (ev_var rfl) (sq_lst hlu) hrw
  rw [decide_eq_false hne] at z2
  refine g_no (et_or (et_not (et_B z1)) fun _ => et_test z2) (g_nextS ?_)
  have hbad : ∀ qs ∈ withRow l, ∀ (t : Addr) (σ : L2.St) (H6 : Hp) (E : XK) (te tr : TE), Ev te σ H6 (.ref t) → Ev tr σ H6 (.str (txt l)) → H6 t = some (.lst (qs.map V.int)) → Ev (tOp rNe (tCall (sp_l_letters K c) [] E (tCons (tCall (sp_l_places K c) [] E (tCons te tNil)) tNil)) tr) σ H6 (.bl false) := fun qs hq t σ H6 E te tr h1 h2 h3 => by
    obtain ⟨b1, b2, b3⟩ := hall qs hq
    have z := ev_neS (ev_call1L (sp := sp_l_letters K c) (E := E) (hplc t qs σ H6 E te h1 h3 b1 b2) fun z H4 hz e4 => v_l_letters (sq_lst hz) (by rw [pl_len]; exact b1.pos) (by rw [pl_len]; omega)) h2
    rw [(withRow_mem.mp hq).2, decide_eq_true rfl] at z
    exact z
  have z3 := el_lcL (K := K) (H := H5) (σ := [some (.ref a), some (.int n), some (.ref p), some (.ref g), some (.int way), y5, some (.str (txt l)), some (.ref u), none, none, none]) (tl := tVar 7) (j := 8) (vs := [8]) (te := tVar 8) (t := tTest (tOp rNe (tCall (sp_l_letters K c) [] E0 (tCons (tCall (sp_l_places K c) [] E0 (tCons (tVar 8) tNil)) tNil)) (tVar 6))) (xs := ws.map V.ref) (fun _ => false) (fun _ => V.non) (ev_var rfl) (sq_lst hlu) (by rw [List.length_map, hrw.1]; omega) (fun _ => rfl) (fun i x H6 e6 hx => by
    obtain ⟨t, qs, rfl, h1, h2, h3⟩ := hrw.getT hx
    exact et_test (hbad qs (List.mem_of_getElem? h2) t _ H6 E0 (tVar 8) (tVar 6) (ev_var rfl) (ev_var rfl) (e6 t _ h3))) (fun i x H6 e6 hx hf => Bool.noConfusion hf)
  have e8 : given (ws.map V.ref).length (fun _ => false) (fun _ => V.non) = ([] : List Int).map V.int := by
    unfold given
    rw [List.filter_eq_nil_iff.mpr fun _ _ => Bool.false_ne_true]
    rfl
  rw [e8] at z3
  refine g_no (et_test (ev_neNilE z3)) (g_nextS ?_)
  refine g_forN (xs := [.ref p, .ref g]) (el_lst (ea_cons (ev_var rfl) (ea_cons (ev_var rfl) ea_nil)) (Nat.le_of_ble_eq_true rfl)) (fun r i σ H' => ∃ y8 y9 : Option V, σ = [some (.ref a), some (.int n), some (.ref p), some (.ref g), some (.int way), y5, some (.str (txt l)), some (.ref u), y8, y9, none] ∧ Ex H5 H' ∧ H' r = some (.lst [.ref p, .ref g]))
    (fun r H6 hr e6 h6 => ⟨none, none, rfl, e6, h6⟩) (fun r i σ H' _ hP => ?_) (fun r i x σ H' hx hP => ?_) (fun r σ H' hP => ?_)
  · obtain ⟨_, _, _, _, h2⟩ := hP
    exact sq_lst h2
  · obtain ⟨y8, y9, rfl, e6, hr⟩ := hP
    have e56 := e5.trans e6
    obtain ⟨t, qs, rfl, ht, tp, tn⟩ : ∃ t qs, x = .ref t ∧ H' t = some (.lst (qs.map V.int)) ∧ IsPile qs ∧ (qs.length : Int) = n := by
      match i, hx with
      | 0, hx =>
        cases hx
        exact ⟨p, ps, rfl, e56 p _ (e34 p _ hlp), pp, hpn⟩
      | 1, hx =>
        cases hx
        exact ⟨g, gs, rfl, e56 g _ (e34 g _ hlg), gp, hgn⟩
      | i + 2, hx => simp at hx
    refine g_asgL (hplc t qs _ H' E (tVar 8) (ev_var rfl) ht tp tn) fun v H7 hv e7 hlv => ?_
    have z4 : Ev (tOp (rInD K) (tVar 8) (tVar 7)) [some (.ref a), some (.int n), some (.ref p), some (.ref g), some (.int way), y5, some (.str (txt l)), some (.ref u), some (.ref t), some (.ref v), none] H7 (.bl (decide (qs ∈ withRow l))) := ev_inW (ev_var rfl) (ev_var rfl) (sq_lst (e7 t _ ht)) (sq_lst (e7 u _ (e6 u _ hlu))) (hrw.mono (e6.trans e7))
    have z5 : Ev (tAndV (tCall (sp_l_none_cross K c) [] E (tCons (tVar 9) tNil)) (tOp rEq (tCall (sp_l_letters K c) [] E (tCons (tVar 9) tNil)) (tVar 6))) [some (.ref a), some (.int n), some (.ref p), some (.ref g), some (.int way), y5, some (.str (txt l)), some (.ref u), some (.ref t), some (.ref v), none] H7 (.bl (noX (pl qs) && decide (txt (lets (pl qs)) = txt l))) :=
      ev_andV (ev_callD (vs := [.ref v]) (ea_cons (ev_var rfl) ea_nil) (v_none (sq_lst hlv) (by rw [pl_len]; omega) (by rw [pl_len]; exact tp.pos))) fun _ => ev_eqS (ev_callD (vs := [.ref v]) (ea_cons (ev_var rfl) ea_nil) (v_l_letters (sq_lst hlv) (by rw [pl_len]; exact tp.pos) (by rw [pl_len]; omega))) (ev_var rfl)
    have e9 : (noX (pl qs) && decide (txt (lets (pl qs)) = txt l)) = decide (qs ∈ withRow l) := by
      rw [Bool.eq_iff_iff, Bool.and_eq_true, decide_eq_true_eq, decide_eq_true_eq, noX_iff, withRow_mem, hll, hmem qs tp tn]
      exact ⟨fun h => ⟨h.1, txt_inj h.2⟩, fun h => ⟨h.1, by rw [h.2]⟩⟩
    rw [e9] at z5
    refine g_no (et_is (et_test (ev_neB z4 z5)) (by simp)) (g_nextS ?_)
    exact g_next fun H8 e8 => ⟨_, _, rfl, (e6.trans e7).trans e8, e8 r _ (e7 r _ hr)⟩
  · obtain ⟨y8, y9, rfl, e6, hr⟩ := hP
    exact g_ret (v := .bl true) ev_c fun H8 _ => q H8
end
end Fo
/-! Law_k08 -/
namespace Fo
open PySem PySem.Spec PyProof.Rows L2 Evl
/-! ### the text -/
def topS (i : Nat) : Stmt := PySem.Challenge.pw_stripfold_k08_whole_listed.main.body.getD i (.Pass ⟨0, 0, 0, 0⟩)
abbrev s_l_counts : Stmt := topS 20
theorem sc_l_counts : FnScope ["_law_thing"] ["_law_thing"] (defScope s_l_counts) := ⟨rfl, rfl, rfl, by decide +kernel, rfl, by decide +kernel, by decide +kernel⟩
abbrev s_l_is_pile : Stmt := topS 21
theorem sc_l_is_pile : FnScope ["_law_found", "_law_size", "_law_seen", "_law_stamp"] ["_law_found", "_law_size"] (defScope s_l_is_pile) := ⟨rfl, rfl, rfl, by decide +kernel, rfl, by decide +kernel, by decide +kernel⟩
abbrev s_l_wraps : Stmt := topS 26
theorem sc_l_wraps : FnScope ["_law_at", "_law_crease", "_law_stamp", "_law_low", "_law_high"] ["_law_at", "_law_crease", "_law_stamp"] (defScope s_l_wraps) := ⟨rfl, rfl, rfl, by decide +kernel, rfl, by decide +kernel, by decide +kernel⟩
abbrev s_l_none_cross : Stmt := topS 27
theorem sc_l_none_cross : FnScope ["_law_at", "_law_one", "_law_other"] ["_law_at"] (defScope s_l_none_cross) := ⟨rfl, rfl, rfl, by decide +kernel, rfl, by decide +kernel, by decide +kernel⟩
abbrev s_l_places : Stmt := topS 22
theorem sc_l_places : FnScope ["_law_pile_here", "_law_at", "_law_k"] ["_law_pile_here"] (defScope s_l_places) := ⟨rfl, rfl, rfl, by decide +kernel, rfl, by decide +kernel, by decide +kernel⟩
abbrev s_l_all_good : Stmt := topS 29
theorem sc_l_all_good : FnScope ["_law_found", "_law_size", "_law_seen", "_law_pile_here"] ["_law_found", "_law_size"] (defScope s_l_all_good) := ⟨rfl, rfl, rfl, by decide +kernel, rfl, by decide +kernel, by decide +kernel⟩
abbrev s_l_drawn : Stmt := topS 18
theorem sc_l_drawn : FnScope ["_law_script", "_law_k"] ["_law_script", "_law_k"] (defScope s_l_drawn) := ⟨rfl, rfl, rfl, by decide +kernel, rfl, by decide +kernel, by decide +kernel⟩
abbrev s_l_fits : Stmt := topS 24
theorem sc_l_fits : FnScope ["_law_at", "_law_stamp", "_law_gap", "_law_crease", "_law_low", "_law_high"] ["_law_at", "_law_stamp", "_law_gap"] (defScope s_l_fits) := ⟨rfl, rfl, rfl, by decide +kernel, rfl, by decide +kernel, by decide +kernel⟩
abbrev s_l_number : Stmt := topS 19
theorem sc_l_number : FnScope ["_law_script", "_law_k", "_law_cell"] ["_law_script", "_law_k"] (defScope s_l_number) := ⟨rfl, rfl, rfl, by decide +kernel, rfl, by decide +kernel, by decide +kernel⟩
abbrev s_l_good : Stmt := topS 25
theorem sc_l_good : FnScope ["_law_script", "_law_start", "_law_size", "_law_pile_here", "_law_stamp", "_law_at", "_law_number_here", "_law_gap"] ["_law_script", "_law_start", "_law_size"] (defScope s_l_good) := ⟨rfl, rfl, rfl, by decide +kernel, rfl, by decide +kernel, by decide +kernel⟩
abbrev s_l_letters : Stmt := topS 28
theorem sc_l_letters : FnScope ["_law_at", "_law_told", "_law_crease", "_law_inward"] ["_law_at"] (defScope s_l_letters) := ⟨rfl, rfl, rfl, by decide +kernel, rfl, by decide +kernel, by decide +kernel⟩
abbrev s_l_pile : Stmt := topS 23
theorem sc_l_pile : FnScope ["_law_script", "_law_start", "_law_size", "_law_pile_here", "_law_stamp", "_law_gap"] ["_law_script", "_law_start", "_law_size"] (defScope s_l_pile) := ⟨rfl, rfl, rfl, by decide +kernel, rfl, by decide +kernel, by decide +kernel⟩
abbrev s_places : Stmt := topS 6
theorem sc_places : FnScope ["pile", "size", "found", "place", "stamp"] ["pile"] (defScope s_places) := ⟨rfl, rfl, rfl, by decide +kernel, rfl, by decide +kernel, by decide +kernel⟩
abbrev s_wraps : Stmt := topS 9
theorem sc_wraps : FnScope ["at", "crease", "stamp", "ends"] ["at", "crease", "stamp"] (defScope s_wraps) := ⟨rfl, rfl, rfl, by decide +kernel, rfl, by decide +kernel, by decide +kernel⟩
abbrev s_crossing : Stmt := topS 10
theorem sc_crossing : FnScope ["pile", "at", "one", "other"] ["pile"] (defScope s_crossing) := ⟨rfl, rfl, rfl, by decide +kernel, rfl, by decide +kernel, by decide +kernel⟩
abbrev s_with_next : Stmt := topS 14
theorem sc_with_next : FnScope ["pile", "stamp", "found", "place", "longer"] ["pile"] (defScope s_with_next) := ⟨rfl, rfl, rfl, by decide +kernel, rfl, by decide +kernel, by decide +kernel⟩
abbrev s_piles : Stmt := topS 15
theorem sc_piles : FnScope ["many", "found", "k", "longer", "pile"] ["many"] (defScope s_piles) := ⟨rfl, rfl, rfl, by decide +kernel, rfl, by decide +kernel, by decide +kernel⟩
abbrev s_letters : Stmt := topS 7
theorem sc_letters : FnScope ["pile", "at", "told", "crease", "higher"] ["pile"] (defScope s_letters) := ⟨rfl, rfl, rfl, by decide +kernel, rfl, by decide +kernel, by decide +kernel⟩
abbrev s_look_at : Stmt := topS 13
theorem sc_look_at : FnScope ["row", "letter"] ["row"] (defScope s_look_at) := ⟨rfl, rfl, rfl, by decide +kernel, rfl, by decide +kernel, by decide +kernel⟩
abbrev s_piles_with : Stmt := topS 16
theorem sc_piles_with : FnScope ["row", "pile"] ["row"] (defScope s_piles_with) := ⟨rfl, rfl, rfl, by decide +kernel, rfl, by decide +kernel, by decide +kernel⟩
abbrev s_law : Stmt := topS 30
theorem sc_law : FnScope ["_law_script", "_law_size", "_law_some", "_law_good_here", "_law_way", "_law_found", "_law_row", "_law_told", "_law_pile_here", "_law_at", "_law_k"] ["_law_script"] (defScope s_law) := ⟨rfl, rfl, rfl, by decide +kernel, rfl, by decide +kernel, by decide +kernel⟩
/-- where the defs stand -/
structure Ad where
  f_l_counts : Addr
  d_l_counts : FuncData
  f_l_is_pile : Addr
  d_l_is_pile : FuncData
  f_l_wraps : Addr
  d_l_wraps : FuncData
  f_l_none_cross : Addr
  d_l_none_cross : FuncData
  f_l_places : Addr
  d_l_places : FuncData
  f_l_all_good : Addr
  d_l_all_good : FuncData
  f_l_drawn : Addr
  d_l_drawn : FuncData
  f_l_fits : Addr
  d_l_fits : FuncData
  f_l_number : Addr
  d_l_number : FuncData
  f_l_good : Addr
  d_l_good : FuncData
  f_l_letters : Addr
  d_l_letters : FuncData
  f_l_pile : Addr
  d_l_pile : FuncData
  f_places : Addr
  d_places : FuncData
  f_wraps : Addr
  d_wraps : FuncData
  f_crossing : Addr
  d_crossing : FuncData
  f_with_next : Addr
  d_with_next : FuncData
  f_piles : Addr
  d_piles : FuncData
  f_letters : Addr
  d_letters : FuncData
  f_look_at : Addr
  d_look_at : FuncData
  f_piles_with : Addr
  d_piles_with : FuncData
  f_law : Addr
  d_law : FuncData
/-- what the top has written -/
structure Txt (K : PySem.W.Frag) (mg : Str → Option Value) (c : Cs) (A : Ad) : Prop where
  sz : True
  F_l_counts : Fun K "_law_counts" "_law_counts" s_l_counts A.f_l_counts A.d_l_counts
  g_l_counts : mg "_law_counts" = some (.ref A.f_l_counts)
  k_l_counts : PySem.W.keepIn K (.ref A.f_l_counts) = true
  b_l_counts : Binds K A.d_l_counts ["_law_thing"] []
  F_l_is_pile : Fun K "_law_is_pile" "_law_is_pile" s_l_is_pile A.f_l_is_pile A.d_l_is_pile
  g_l_is_pile : mg "_law_is_pile" = some (.ref A.f_l_is_pile)
  k_l_is_pile : PySem.W.keepIn K (.ref A.f_l_is_pile) = true
  b_l_is_pile : Binds K A.d_l_is_pile ["_law_found", "_law_size"] []
  F_l_wraps : Fun K "_law_wraps" "_law_wraps" s_l_wraps A.f_l_wraps A.d_l_wraps
  g_l_wraps : mg "_law_wraps" = some (.ref A.f_l_wraps)
  k_l_wraps : PySem.W.keepIn K (.ref A.f_l_wraps) = true
  b_l_wraps : Binds K A.d_l_wraps ["_law_at", "_law_crease", "_law_stamp"] []
  F_l_none_cross : Fun K "_law_none_cross" "_law_none_cross" s_l_none_cross A.f_l_none_cross A.d_l_none_cross
  g_l_none_cross : mg "_law_none_cross" = some (.ref A.f_l_none_cross)
  k_l_none_cross : PySem.W.keepIn K (.ref A.f_l_none_cross) = true
  b_l_none_cross : Binds K A.d_l_none_cross ["_law_at"] []
  F_l_places : Fun K "_law_places" "_law_places" s_l_places A.f_l_places A.d_l_places
  g_l_places : mg "_law_places" = some (.ref A.f_l_places)
  k_l_places : PySem.W.keepIn K (.ref A.f_l_places) = true
  b_l_places : Binds K A.d_l_places ["_law_pile_here"] []
  F_l_all_good : Fun K "_law_all_good" "_law_all_good" s_l_all_good A.f_l_all_good A.d_l_all_good
  g_l_all_good : mg "_law_all_good" = some (.ref A.f_l_all_good)
  k_l_all_good : PySem.W.keepIn K (.ref A.f_l_all_good) = true
  b_l_all_good : Binds K A.d_l_all_good ["_law_found", "_law_size"] []
  F_l_drawn : Fun K "_law_drawn" "_law_drawn" s_l_drawn A.f_l_drawn A.d_l_drawn
  g_l_drawn : mg "_law_drawn" = some (.ref A.f_l_drawn)
  k_l_drawn : PySem.W.keepIn K (.ref A.f_l_drawn) = true
  b_l_drawn : Binds K A.d_l_drawn ["_law_script", "_law_k"] []
  F_l_fits : Fun K "_law_fits" "_law_fits" s_l_fits A.f_l_fits A.d_l_fits
  g_l_fits : mg "_law_fits" = some (.ref A.f_l_fits)
  k_l_fits : PySem.W.keepIn K (.ref A.f_l_fits) = true
  b_l_fits : Binds K A.d_l_fits ["_law_at", "_law_stamp", "_law_gap"] []
  F_l_number : Fun K "_law_number" "_law_number" s_l_number A.f_l_number A.d_l_number
  g_l_number : mg "_law_number" = some (.ref A.f_l_number)
  k_l_number : PySem.W.keepIn K (.ref A.f_l_number) = true
  b_l_number : Binds K A.d_l_number ["_law_script", "_law_k"] []
  F_l_good : Fun K "_law_good" "_law_good" s_l_good A.f_l_good A.d_l_good
  g_l_good : mg "_law_good" = some (.ref A.f_l_good)
  k_l_good : PySem.W.keepIn K (.ref A.f_l_good) = true
  b_l_good : Binds K A.d_l_good ["_law_script", "_law_start", "_law_size"] []
  F_l_letters : Fun K "_law_letters" "_law_letters" s_l_letters A.f_l_letters A.d_l_letters
  g_l_letters : mg "_law_letters" = some (.ref A.f_l_letters)
  k_l_letters : PySem.W.keepIn K (.ref A.f_l_letters) = true
  b_l_letters : Binds K A.d_l_letters ["_law_at"] []
  F_l_pile : Fun K "_law_pile" "_law_pile" s_l_pile A.f_l_pile A.d_l_pile
  g_l_pile : mg "_law_pile" = some (.ref A.f_l_pile)
  k_l_pile : PySem.W.keepIn K (.ref A.f_l_pile) = true
  b_l_pile : Binds K A.d_l_pile ["_law_script", "_law_start", "_law_size"] []
  F_places : Fun K "places" "places" s_places A.f_places A.d_places
  g_places : mg "places" = some (.ref A.f_places)
  k_places : PySem.W.keepIn K (.ref A.f_places) = true
  b_places : Binds K A.d_places ["pile"] []
  F_wraps : Fun K "wraps" "wraps" s_wraps A.f_wraps A.d_wraps
  g_wraps : mg "wraps" = some (.ref A.f_wraps)
  k_wraps : PySem.W.keepIn K (.ref A.f_wraps) = true
  b_wraps : Binds K A.d_wraps ["at", "crease", "stamp"] []
  F_crossing : Fun K "crossing" "crossing" s_crossing A.f_crossing A.d_crossing
  g_crossing : mg "crossing" = some (.ref A.f_crossing)
  k_crossing : PySem.W.keepIn K (.ref A.f_crossing) = true
  b_crossing : Binds K A.d_crossing ["pile"] []
  F_with_next : Fun K "with_next" "with_next" s_with_next A.f_with_next A.d_with_next
  g_with_next : mg "with_next" = some (.ref A.f_with_next)
  k_with_next : PySem.W.keepIn K (.ref A.f_with_next) = true
  b_with_next : Binds K A.d_with_next ["pile"] []
  F_piles : Fun K "piles" "piles" s_piles A.f_piles A.d_piles
  g_piles : mg "piles" = some (.ref A.f_piles)
  k_piles : PySem.W.keepIn K (.ref A.f_piles) = true
  b_piles : Binds K A.d_piles ["many"] []
  F_letters : Fun K "letters" "letters" s_letters A.f_letters A.d_letters
  g_letters : mg "letters" = some (.ref A.f_letters)
  k_letters : PySem.W.keepIn K (.ref A.f_letters) = true
  b_letters : Binds K A.d_letters ["pile"] []
  F_look_at : Fun K "look_at" "look_at" s_look_at A.f_look_at A.d_look_at
  g_look_at : mg "look_at" = some (.ref A.f_look_at)
  k_look_at : PySem.W.keepIn K (.ref A.f_look_at) = true
  b_look_at : Binds K A.d_look_at ["row"] []
  F_piles_with : Fun K "piles_with" "piles_with" s_piles_with A.f_piles_with A.d_piles_with
  g_piles_with : mg "piles_with" = some (.ref A.f_piles_with)
  k_piles_with : PySem.W.keepIn K (.ref A.f_piles_with) = true
  b_piles_with : Binds K A.d_piles_with ["row"] []
  F_law : Fun K "law" "law" s_law A.f_law A.d_law
  m_enumerate : mg "enumerate" = none
  m_int : mg "int" = none
  m_isinstance : mg "isinstance" = none
  m_len : mg "len" = none
  m_list : mg "list" = none
  m_max : mg "max" = none
  m_min : mg "min" = none
  m_range : mg "range" = none
  m_sorted : mg "sorted" = none
  m_tuple : mg "tuple" = none
  gc_MOST : ∃ tk, mg "MOST" = some (.int 7 tk)
  x_NoCount : PySem.W.excIn K c.nn [.type "ValueError", .type "Exception", .type "BaseException", .type "object"] "ValueError.__new__" = true
  g_NoCount : mg "NoCount" = some (.ref c.nn)
  k_NoCount : PySem.W.keepIn K (.ref c.nn) = true
  bx_NoCount : PySem.W.subIn K (.ref c.nn) (.type "BaseException") = some true
  ty_NoCount : PySem.W.typeIn K (.ref c.nn) = some (.type "type")
  x_NoLetters : PySem.W.excIn K c.nl [.type "ValueError", .type "Exception", .type "BaseException", .type "object"] "ValueError.__new__" = true
  g_NoLetters : mg "NoLetters" = some (.ref c.nl)
  k_NoLetters : PySem.W.keepIn K (.ref c.nl) = true
  bx_NoLetters : PySem.W.subIn K (.ref c.nl) (.type "BaseException") = some true
  ty_NoLetters : PySem.W.typeIn K (.ref c.nl) = some (.type "type")
  x_NoPile : PySem.W.excIn K c.np [.type "ValueError", .type "Exception", .type "BaseException", .type "object"] "ValueError.__new__" = true
  g_NoPile : mg "NoPile" = some (.ref c.np)
  k_NoPile : PySem.W.keepIn K (.ref c.np) = true
  bx_NoPile : PySem.W.subIn K (.ref c.np) (.type "BaseException") = some true
  ty_NoPile : PySem.W.typeIn K (.ref c.np) = some (.type "type")
section
variable {P : Program} {w : World} {K : PySem.W.Frag} {mg : Str → Option Value} {base : Heap} {c : Cs} {A0 : Ad}
theorem ok_l_counts (T : Txt K mg c A0) : FnOk P w K mg base (L2.CX P w) 1 A0.f_l_counts A0.d_l_counts ["_law_thing"] (sp_l_counts K c) := by
  refine T.F_l_counts.okX sc_l_counts (fun vs H Q E h => by first | (obtain ⟨_, rfl, _⟩ := h; rfl) | (obtain ⟨_, _, rfl, _⟩ := h; rfl) | (obtain ⟨_, _, _, rfl, _⟩ := h; rfl) | (obtain ⟨_, _, _, _, rfl, _⟩ := h; rfl) | (obtain ⟨_, _, _, _, _, rfl, _⟩ := h; rfl) | (obtain ⟨_, _, _, _, _, _, rfl, _⟩ := h; rfl) | (obtain ⟨_, _, _, _, _, _, _, rfl, _⟩ := h; rfl) | (obtain ⟨_, _, _, _, _, _, _, _, rfl, _⟩ := h; rfl)) (fun cdv A outer s H vs Q E hr h => ⟨t_l_counts K c E, ?_, read_l_counts vs H Q E h⟩)
  exact (pss_cons (ps_ret (pe_and (pe_callB call_isi (by rfl) T.m_isinstance (by decide +kernel) (pa_cons (pv 0) (pa_cons (pe_bltn (by rfl) T.m_int (by decide +kernel) rfl) pa_nil))) (pe_and (pe_cmpR op_notIB (pv 0) pe_bl (nomark _)) (pe_one (pe_cmpR op_notIB (pv 0) pe_bl (nomark _))))))
 pss_nil)
theorem ok_l_is_pile (T : Txt K mg c A0) : FnOk P w K mg base (L2.CX P w) 2 A0.f_l_is_pile A0.d_l_is_pile ["_law_found", "_law_size"] (sp_l_is_pile K c) := by
  have G_l_counts := ok_l_counts (P := P) (w := w) (base := base) T
  refine T.F_l_is_pile.okX sc_l_is_pile (fun vs H Q E h => by first | (obtain ⟨_, rfl, _⟩ := h; rfl) | (obtain ⟨_, _, rfl, _⟩ := h; rfl) | (obtain ⟨_, _, _, rfl, _⟩ := h; rfl) | (obtain ⟨_, _, _, _, rfl, _⟩ := h; rfl) | (obtain ⟨_, _, _, _, _, rfl, _⟩ := h; rfl) | (obtain ⟨_, _, _, _, _, _, rfl, _⟩ := h; rfl) | (obtain ⟨_, _, _, _, _, _, _, rfl, _⟩ := h; rfl) | (obtain ⟨_, _, _, _, _, _, _, _, rfl, _⟩ := h; rfl)) (fun cdv A outer s H vs Q E hr h => ⟨t_l_is_pile K c E, ?_, read_l_is_pile vs H Q E h⟩)
  exact (pss_cons (ps_if (PW.pt (pw_or (pt_not (pt_val (pe_callB call_isi (by rfl) T.m_isinstance (by decide +kernel) (pa_cons (pv 0) (pa_cons (pe_bltn (by rfl) T.m_list (by decide +kernel) rfl) pa_nil))))) (pw_or1 (pt_cmpR op_ne (pe_callB call_len_seq (by rfl) T.m_len (by decide +kernel) (pa_cons (pv 0) pa_nil)) (pv 1) (nomark _))))) (pss_cons (ps_ret pe_bl)
 pss_nil) pss_nil)
 (pss_cons (ps_set (i := 2) sc_l_is_pile.nd rfl (.inl rfl) (pe_op op_rep (pe_lst (pa_cons pe_bl pa_nil)) (pv 1)))
 (pss_cons (ps_for (passes_of rfl) rfl (pi_list (pv 0)) (pg_name (i := 3) sc_l_is_pile.nd rfl (.inl rfl)) (pss_cons (ps_if (PW.pt (pw_or (pt_not (pt_val (pe_call G_l_counts (hr.mono (by decide)) (by rfl) T.g_l_counts T.k_l_counts T.b_l_counts .nil passE (pa_cons (pv 3) pa_nil)))) (pw_or (pt_cmpR op_lt (pv 3) pe_int (nomark _)) (pw_or (pt_cmpR op_ge (pv 3) (pv 1) (nomark _)) (pw_or1 (pt_val (pe_ix ix_list (pv 2) (pv 3) (fun _ _ => rfl)))))))) (pss_cons (ps_ret pe_bl)
 pss_nil) pss_nil)
 (pss_cons (ps_asg pe_bl (pg_sub (pv 2) (pv 3) set_list))
 pss_nil)))
 (pss_cons (ps_ret pe_bl)
 pss_nil))))
theorem ok_l_wraps (T : Txt K mg c A0) : FnOk P w K mg base (L2.CX P w) 1 A0.f_l_wraps A0.d_l_wraps ["_law_at", "_law_crease", "_law_stamp"] (sp_l_wraps K c) := by
  refine T.F_l_wraps.okX sc_l_wraps (fun vs H Q E h => by first | (obtain ⟨_, rfl, _⟩ := h; rfl) | (obtain ⟨_, _, rfl, _⟩ := h; rfl) | (obtain ⟨_, _, _, rfl, _⟩ := h; rfl) | (obtain ⟨_, _, _, _, rfl, _⟩ := h; rfl) | (obtain ⟨_, _, _, _, _, rfl, _⟩ := h; rfl) | (obtain ⟨_, _, _, _, _, _, rfl, _⟩ := h; rfl) | (obtain ⟨_, _, _, _, _, _, _, rfl, _⟩ := h; rfl) | (obtain ⟨_, _, _, _, _, _, _, _, rfl, _⟩ := h; rfl)) (fun cdv A outer s H vs Q E hr h => ⟨t_l_wraps K c E, ?_, read_l_wraps vs H Q E h⟩)
  exact (pss_cons (ps_set (i := 3) sc_l_wraps.nd rfl (.inl rfl) (pe_callB (call_min2 rfl) (by rfl) T.m_min (by decide +kernel) (pa_cons (pe_ix ix_list (pv 0) (pv 1) (fun _ _ => rfl)) (pa_cons (pe_ix ix_list (pv 0) (pe_op op_add (pv 1) pe_int) (fun _ _ => rfl)) pa_nil))))
 (pss_cons (ps_set (i := 4) sc_l_wraps.nd rfl (.inl rfl) (pe_callB (call_max2 rfl) (by rfl) T.m_max (by decide +kernel) (pa_cons (pe_ix ix_list (pv 0) (pv 1) (fun _ _ => rfl)) (pa_cons (pe_ix ix_list (pv 0) (pe_op op_add (pv 1) pe_int) (fun _ _ => rfl)) pa_nil))))
 (pss_cons (ps_ret (pe_and (pe_cmpR op_lt (pv 3) (pe_ix ix_list (pv 0) (pv 2) (fun _ _ => rfl)) (nomark _)) (pe_one (pe_cmpR op_lt (pe_ix ix_list (pv 0) (pv 2) (fun _ _ => rfl)) (pv 4) (nomark _)))))
 pss_nil)))
theorem ok_l_none_cross (T : Txt K mg c A0) : FnOk P w K mg base (L2.CX P w) 2 A0.f_l_none_cross A0.d_l_none_cross ["_law_at"] (sp_l_none_cross K c) := by
  have G_l_wraps := ok_l_wraps (P := P) (w := w) (base := base) T
  refine T.F_l_none_cross.okX sc_l_none_cross (fun vs H Q E h => by first | (obtain ⟨_, rfl, _⟩ := h; rfl) | (obtain ⟨_, _, rfl, _⟩ := h; rfl) | (obtain ⟨_, _, _, rfl, _⟩ := h; rfl) | (obtain ⟨_, _, _, _, rfl, _⟩ := h; rfl) | (obtain ⟨_, _, _, _, _, rfl, _⟩ := h; rfl) | (obtain ⟨_, _, _, _, _, _, rfl, _⟩ := h; rfl) | (obtain ⟨_, _, _, _, _, _, _, rfl, _⟩ := h; rfl) | (obtain ⟨_, _, _, _, _, _, _, _, rfl, _⟩ := h; rfl)) (fun cdv A outer s H vs Q E hr h => ⟨t_l_none_cross K c E, ?_, read_l_none_cross vs H Q E h⟩)
  exact (pss_cons (ps_for (passes_of rfl) rfl (pi_range1 (by rfl) T.m_range (pa_cons (pe_op op_sub (pe_callB call_len_seq (by rfl) T.m_len (by decide +kernel) (pa_cons (pv 0) pa_nil)) pe_int) pa_nil)) (pg_name (i := 1) sc_l_none_cross.nd rfl (.inl rfl)) (pss_cons (ps_for (passes_of rfl) rfl (pi_range3 (by rfl) T.m_range (pa_cons (pe_op op_add (pv 1) pe_int) (pa_cons (pe_op op_sub (pe_callB call_len_seq (by rfl) T.m_len (by decide +kernel) (pa_cons (pv 0) pa_nil)) pe_int) (pa_cons pe_int pa_nil)))) (pg_name (i := 2) sc_l_none_cross.nd rfl (.inl rfl)) (pss_cons (ps_if (pt_cmpR op_ne (pe_call G_l_wraps (hr.mono (by decide)) (by rfl) T.g_l_wraps T.k_l_wraps T.b_l_wraps .nil passE (pa_cons (pv 0) (pa_cons (pv 1) (pa_cons (pv 2) pa_nil)))) (pe_call G_l_wraps (hr.mono (by decide)) (by rfl) T.g_l_wraps T.k_l_wraps T.b_l_wraps .nil passE (pa_cons (pv 0) (pa_cons (pv 1) (pa_cons (pe_op op_add (pv 2) pe_int) pa_nil)))) (nomark _)) (pss_cons (ps_ret pe_bl)
 pss_nil) pss_nil)
 pss_nil))
 pss_nil))
 (pss_cons (ps_ret pe_bl)
 pss_nil))
theorem ok_l_places (T : Txt K mg c A0) : FnOk P w K mg base (L2.CX P w) 1 A0.f_l_places A0.d_l_places ["_law_pile_here"] (sp_l_places K c) := by
  refine T.F_l_places.okX sc_l_places (fun vs H Q E h => by first | (obtain ⟨_, rfl, _⟩ := h; rfl) | (obtain ⟨_, _, rfl, _⟩ := h; rfl) | (obtain ⟨_, _, _, rfl, _⟩ := h; rfl) | (obtain ⟨_, _, _, _, rfl, _⟩ := h; rfl) | (obtain ⟨_, _, _, _, _, rfl, _⟩ := h; rfl) | (obtain ⟨_, _, _, _, _, _, rfl, _⟩ := h; rfl) | (obtain ⟨_, _, _, _, _, _, _, rfl, _⟩ := h; rfl) | (obtain ⟨_, _, _, _, _, _, _, _, rfl, _⟩ := h; rfl)) (fun cdv A outer s H vs Q E hr h => ⟨t_l_places K c E, ?_, read_l_places vs H Q E h⟩)
  exact (pss_cons (ps_set (i := 1) sc_l_places.nd rfl (.inl rfl) (pe_op op_rep (pe_lst (pa_cons pe_int pa_nil)) (pe_callB call_len_seq (by rfl) T.m_len (by decide +kernel) (pa_cons (pv 0) pa_nil))))
 (pss_cons (ps_for (passes_of rfl) rfl (pi_range1 (by rfl) T.m_range (pa_cons (pe_callB call_len_seq (by rfl) T.m_len (by decide +kernel) (pa_cons (pv 0) pa_nil)) pa_nil)) (pg_name (i := 2) sc_l_places.nd rfl (.inl rfl)) (pss_cons (ps_asg (pv 2) (pg_sub (pv 1) (pe_ix ix_list (pv 0) (pv 2) (fun _ _ => rfl)) set_list))
 pss_nil))
 (pss_cons (ps_ret (pv 1))
 pss_nil)))
theorem ok_l_all_good (T : Txt K mg c A0) : FnOk P w K mg base (L2.CX P w) 3 A0.f_l_all_good A0.d_l_all_good ["_law_found", "_law_size"] (sp_l_all_good K c) := by
  have G_l_is_pile := ok_l_is_pile (P := P) (w := w) (base := base) T
  have G_l_none_cross := ok_l_none_cross (P := P) (w := w) (base := base) T
  have G_l_places := ok_l_places (P := P) (w := w) (base := base) T
  refine T.F_l_all_good.okX sc_l_all_good (fun vs H Q E h => by first | (obtain ⟨_, rfl, _⟩ := h; rfl) | (obtain ⟨_, _, rfl, _⟩ := h; rfl) | (obtain ⟨_, _, _, rfl, _⟩ := h; rfl) | (obtain ⟨_, _, _, _, rfl, _⟩ := h; rfl) | (obtain ⟨_, _, _, _, _, rfl, _⟩ := h; rfl) | (obtain ⟨_, _, _, _, _, _, rfl, _⟩ := h; rfl) | (obtain ⟨_, _, _, _, _, _, _, rfl, _⟩ := h; rfl) | (obtain ⟨_, _, _, _, _, _, _, _, rfl, _⟩ := h; rfl)) (fun cdv A outer s H vs Q E hr h => ⟨t_l_all_good K c E, ?_, read_l_all_good vs H Q E h⟩)
  exact (pss_cons (ps_if (pt_not (pt_val (pe_callB call_isi (by rfl) T.m_isinstance (by decide +kernel) (pa_cons (pv 0) (pa_cons (pe_bltn (by rfl) T.m_list (by decide +kernel) rfl) pa_nil))))) (pss_cons (ps_ret pe_bl)
 pss_nil) pss_nil)
 (pss_cons (ps_set (i := 2) sc_l_all_good.nd rfl (.inl rfl) pe_dnewT)
 (pss_cons (ps_for (passes_of rfl) rfl (pi_list (pv 0)) (pg_name (i := 3) sc_l_all_good.nd rfl (.inl rfl)) (pss_cons (ps_if (PW.pt (pw_or (pt_not (pt_val (pe_call G_l_is_pile (hr.mono (by decide)) (by rfl) T.g_l_is_pile T.k_l_is_pile T.b_l_is_pile .nil passE (pa_cons (pv 3) (pa_cons (pv 1) pa_nil))))) (pw_or (pt_cmp (pc_din (units1 hr) (pe_callTy call_tuple_of (by rfl) T.m_tuple (by decide +kernel) (pa_cons (pv 3) pa_nil)) (pv 2)) (by rfl)) (pw_or1 (pt_not (pt_val (pe_call G_l_none_cross (hr.mono (by decide)) (by rfl) T.g_l_none_cross T.k_l_none_cross T.b_l_none_cross .nil passE (pa_cons (pe_call G_l_places (hr.mono (by decide)) (by rfl) T.g_l_places T.k_l_places T.b_l_places .nil passE (pa_cons (pv 3) pa_nil)) pa_nil)))))))) (pss_cons (ps_ret pe_bl)
 pss_nil) pss_nil)
 (pss_cons (ps_dput (units1 hr) (pv 2) (pe_callTy call_tuple_of (by rfl) T.m_tuple (by decide +kernel) (pa_cons (pv 3) pa_nil)) pe_bl (by rfl))
 pss_nil)))
 (pss_cons (ps_ret pe_bl)
 pss_nil))))
theorem ok_l_drawn (T : Txt K mg c A0) : FnOk P w K mg base (L2.CX P w) 1 A0.f_l_drawn A0.d_l_drawn ["_law_script", "_law_k"] (sp_l_drawn K c) := by
  refine T.F_l_drawn.okX sc_l_drawn (fun vs H Q E h => by first | (obtain ⟨_, rfl, _⟩ := h; rfl) | (obtain ⟨_, _, rfl, _⟩ := h; rfl) | (obtain ⟨_, _, _, rfl, _⟩ := h; rfl) | (obtain ⟨_, _, _, _, rfl, _⟩ := h; rfl) | (obtain ⟨_, _, _, _, _, rfl, _⟩ := h; rfl) | (obtain ⟨_, _, _, _, _, _, rfl, _⟩ := h; rfl) | (obtain ⟨_, _, _, _, _, _, _, rfl, _⟩ := h; rfl) | (obtain ⟨_, _, _, _, _, _, _, _, rfl, _⟩ := h; rfl)) (fun cdv A outer s H vs Q E hr h => ⟨t_l_drawn K c E, ?_, read_l_drawn vs H Q E h⟩)
  exact (pss_cons (ps_ret (pe_ifExp (pt_cmpR op_lt (pv 1) (pe_callB call_len_seq (by rfl) T.m_len (by decide +kernel) (pa_cons (pv 0) pa_nil)) (nomark _)) (pe_ix ix_list (pv 0) (pv 1) (fun _ _ => rfl)) pe_int))
 pss_nil)
theorem ok_l_fits (T : Txt K mg c A0) : FnOk P w K mg base (L2.CX P w) 1 A0.f_l_fits A0.d_l_fits ["_law_at", "_law_stamp", "_law_gap"] (sp_l_fits K c) := by
  refine T.F_l_fits.okX sc_l_fits (fun vs H Q E h => by first | (obtain ⟨_, rfl, _⟩ := h; rfl) | (obtain ⟨_, _, rfl, _⟩ := h; rfl) | (obtain ⟨_, _, _, rfl, _⟩ := h; rfl) | (obtain ⟨_, _, _, _, rfl, _⟩ := h; rfl) | (obtain ⟨_, _, _, _, _, rfl, _⟩ := h; rfl) | (obtain ⟨_, _, _, _, _, _, rfl, _⟩ := h; rfl) | (obtain ⟨_, _, _, _, _, _, _, rfl, _⟩ := h; rfl) | (obtain ⟨_, _, _, _, _, _, _, _, rfl, _⟩ := h; rfl)) (fun cdv A outer s H vs Q E hr h => ⟨t_l_fits K c E, ?_, read_l_fits vs H Q E h⟩)
  exact (pss_cons (ps_for (passes_of rfl) rfl (pi_range3 (by rfl) T.m_range (pa_cons (pe_op op_mod (pe_op op_add (pv 1) pe_int) pe_int) (pa_cons (pe_op op_sub (pv 1) pe_int) (pa_cons pe_int pa_nil)))) (pg_name (i := 3) sc_l_fits.nd rfl (.inl rfl)) (pss_cons (ps_set (i := 4) sc_l_fits.nd rfl (.inl rfl) (pe_callB (call_min2 rfl) (by rfl) T.m_min (by decide +kernel) (pa_cons (pe_ix ix_list (pv 0) (pv 3) (fun _ _ => rfl)) (pa_cons (pe_ix ix_list (pv 0) (pe_op op_add (pv 3) pe_int) (fun _ _ => rfl)) pa_nil))))
 (pss_cons (ps_set (i := 5) sc_l_fits.nd rfl (.inl rfl) (pe_callB (call_max2 rfl) (by rfl) T.m_max (by decide +kernel) (pa_cons (pe_ix ix_list (pv 0) (pv 3) (fun _ _ => rfl)) (pa_cons (pe_ix ix_list (pv 0) (pe_op op_add (pv 3) pe_int) (fun _ _ => rfl)) pa_nil))))
 (pss_cons (ps_if (pt_cmpR op_ne (pe_and (pe_cmpR op_lt (pv 4) (pe_ix ix_list (pv 0) (pe_op op_sub (pv 1) pe_int) (fun _ _ => rfl)) (nomark _)) (pe_one (pe_cmpR op_lt (pe_ix ix_list (pv 0) (pe_op op_sub (pv 1) pe_int) (fun _ _ => rfl)) (pv 5) (nomark _)))) (pe_and (pe_cmpR op_lt (pv 4) (pv 2) (nomark _)) (pe_one (pe_cmpR op_le (pv 2) (pv 5) (nomark _)))) (nomark _)) (pss_cons (ps_ret pe_bl)
 pss_nil) pss_nil)
 pss_nil))))
 (pss_cons (ps_ret pe_bl)
 pss_nil))
theorem ok_l_number (T : Txt K mg c A0) : FnOk P w K mg base (L2.CX P w) 1 A0.f_l_number A0.d_l_number ["_law_script", "_law_k"] (sp_l_number K c) := by
  refine T.F_l_number.okX sc_l_number (fun vs H Q E h => by first | (obtain ⟨_, rfl, _⟩ := h; rfl) | (obtain ⟨_, _, rfl, _⟩ := h; rfl) | (obtain ⟨_, _, _, rfl, _⟩ := h; rfl) | (obtain ⟨_, _, _, _, rfl, _⟩ := h; rfl) | (obtain ⟨_, _, _, _, _, rfl, _⟩ := h; rfl) | (obtain ⟨_, _, _, _, _, _, rfl, _⟩ := h; rfl) | (obtain ⟨_, _, _, _, _, _, _, rfl, _⟩ := h; rfl) | (obtain ⟨_, _, _, _, _, _, _, _, rfl, _⟩ := h; rfl)) (fun cdv A outer s H vs Q E hr h => ⟨t_l_number K c E, ?_, read_l_number vs H Q E h⟩)
  exact (pss_cons (ps_set (i := 2) sc_l_number.nd rfl (.inl rfl) (pe_op op_add (pe_op op_mul (pe_op op_mul (pv 1) (pv 1)) pe_int) (pv 1)))
 (pss_cons (ps_if (pt_cmpR op_lt (pv 1) (pe_callB call_len_seq (by rfl) T.m_len (by decide +kernel) (pa_cons (pv 0) pa_nil)) (nomark _)) (pss_cons (ps_set (i := 2) sc_l_number.nd rfl (.inl rfl) (pe_ix ix_list (pv 0) (pv 1) (fun _ _ => rfl)))
 pss_nil) (pss_cons (ps_if (pt_cmpR (op_neD hr.units) (pv 0) (pe_lst pa_nil) (nomark _)) (pss_cons (ps_set (i := 2) sc_l_number.nd rfl (.inl rfl) (pe_op op_add (pv 2) (pe_ix ix_list (pv 0) (pe_op op_mod (pv 1) (pe_callB call_len_seq (by rfl) T.m_len (by decide +kernel) (pa_cons (pv 0) pa_nil))) (fun _ _ => rfl))))
 pss_nil) pss_nil)
 pss_nil))
 (pss_cons (ps_ret (pe_op op_mod (pe_op op_mul (pv 2) pe_int) pe_int))
 pss_nil)))
theorem ok_l_good (T : Txt K mg c A0) : FnOk P w K mg base (L2.CX P w) 2 A0.f_l_good A0.d_l_good ["_law_script", "_law_start", "_law_size"] (sp_l_good K c) := by
  have G_l_fits := ok_l_fits (P := P) (w := w) (base := base) T
  have G_l_number := ok_l_number (P := P) (w := w) (base := base) T
  have G_l_places := ok_l_places (P := P) (w := w) (base := base) T
  refine T.F_l_good.okX sc_l_good (fun vs H Q E h => by first | (obtain ⟨_, rfl, _⟩ := h; rfl) | (obtain ⟨_, _, rfl, _⟩ := h; rfl) | (obtain ⟨_, _, _, rfl, _⟩ := h; rfl) | (obtain ⟨_, _, _, _, rfl, _⟩ := h; rfl) | (obtain ⟨_, _, _, _, _, rfl, _⟩ := h; rfl) | (obtain ⟨_, _, _, _, _, _, rfl, _⟩ := h; rfl) | (obtain ⟨_, _, _, _, _, _, _, rfl, _⟩ := h; rfl) | (obtain ⟨_, _, _, _, _, _, _, _, rfl, _⟩ := h; rfl)) (fun cdv A outer s H vs Q E hr h => ⟨t_l_good K c E, ?_, read_l_good vs H Q E h⟩)
  exact (pss_cons (ps_set (i := 3) sc_l_good.nd rfl (.inl rfl) (pe_lst (pa_cons pe_int pa_nil)))
 (pss_cons (ps_for (passes_of rfl) rfl (pi_range2 (by rfl) T.m_range (pa_cons pe_int (pa_cons (pv 2) pa_nil))) (pg_name (i := 4) sc_l_good.nd rfl (.inl rfl)) (pss_cons (ps_set (i := 5) sc_l_good.nd rfl (.inl rfl) (pe_call G_l_places (hr.mono (by decide)) (by rfl) T.g_l_places T.k_l_places T.b_l_places .nil passE (pa_cons (pv 3) pa_nil)))
 (pss_cons (ps_set (i := 6) sc_l_good.nd rfl (.inl rfl) (pe_call G_l_number (hr.mono (by decide)) (by rfl) T.g_l_number T.k_l_number T.b_l_number .nil passE (pa_cons (pv 0) (pa_cons (pe_op op_add (pv 1) (pv 4)) pa_nil))))
 (pss_cons (ps_set (i := 7) sc_l_good.nd rfl (.inl rfl) (pe_op op_mod (pv 6) (pe_op op_add (pv 4) pe_int)))
 (pss_cons (ps_if (pt_not (pt_val (pe_call G_l_fits (hr.mono (by decide)) (by rfl) T.g_l_fits T.k_l_fits T.b_l_fits .nil passE (pa_cons (pv 5) (pa_cons (pv 4) (pa_cons (pv 7) pa_nil)))))) (pss_cons (ps_set (i := 7) sc_l_good.nd rfl (.inl rfl) (pe_op op_add (pe_ix ix_list (pv 5) (pe_op op_sub (pv 4) pe_int) (fun _ _ => rfl)) (pe_op op_mod (pe_op op_fdiv (pv 6) pe_int) pe_int)))
 pss_nil) pss_nil)
 (pss_cons (ps_set (i := 3) sc_l_good.nd rfl (.inl rfl) (pe_op op_cat (pe_op op_cat (pe_slice sl_list (pv 3) po_none (po_some (pv 7))) (pe_lst (pa_cons (pv 4) pa_nil))) (pe_slice sl_list (pv 3) (po_some (pv 7)) po_none)))
 pss_nil))))))
 (pss_cons (ps_ret (pv 3))
 pss_nil)))
theorem ok_l_letters (T : Txt K mg c A0) : FnOk P w K mg base (L2.CX P w) 1 A0.f_l_letters A0.d_l_letters ["_law_at"] (sp_l_letters K c) := by
  refine T.F_l_letters.okX sc_l_letters (fun vs H Q E h => by first | (obtain ⟨_, rfl, _⟩ := h; rfl) | (obtain ⟨_, _, rfl, _⟩ := h; rfl) | (obtain ⟨_, _, _, rfl, _⟩ := h; rfl) | (obtain ⟨_, _, _, _, rfl, _⟩ := h; rfl) | (obtain ⟨_, _, _, _, _, rfl, _⟩ := h; rfl) | (obtain ⟨_, _, _, _, _, _, rfl, _⟩ := h; rfl) | (obtain ⟨_, _, _, _, _, _, _, rfl, _⟩ := h; rfl) | (obtain ⟨_, _, _, _, _, _, _, _, rfl, _⟩ := h; rfl)) (fun cdv A outer s H vs Q E hr h => ⟨t_l_letters K c E, ?_, read_l_letters vs H Q E h⟩)
  exact (pss_cons (ps_set (i := 1) sc_l_letters.nd rfl (.inl rfl) (pe_lst pa_nil))
 (pss_cons (ps_for (passes_of rfl) rfl (pi_range1 (by rfl) T.m_range (pa_cons (pe_op op_sub (pe_callB call_len_seq (by rfl) T.m_len (by decide +kernel) (pa_cons (pv 0) pa_nil)) pe_int) pa_nil)) (pg_name (i := 2) sc_l_letters.nd rfl (.inl rfl)) (pss_cons (ps_set (i := 3) sc_l_letters.nd rfl (.inl rfl) (pe_cmpR op_eq (pe_cmpR op_gt (pe_ix ix_list (pv 0) (pe_op op_add (pv 2) pe_int) (fun _ _ => rfl)) (pe_ix ix_list (pv 0) (pv 2) (fun _ _ => rfl)) (nomark _)) (pe_cmpR op_eq (pe_op op_mod (pv 2) pe_int) pe_int (nomark _)) (nomark _)))
 (pss_cons (ps_expr (pe_bm PySem.F.plainAttrs_list PySem.F.slot_list_append PySem.F.type_list_append mt_append (pv 1) (pa_cons (pe_ix ix_list (pe_lst (pa_cons pe_str (pa_cons pe_str pa_nil))) (pe_callTy call_int1 (by rfl) T.m_int (by decide +kernel) (pa_cons (pv 3) pa_nil)) (fun _ _ => rfl)) pa_nil)))
 pss_nil)))
 (pss_cons (ps_ret (pe_bm PySem.F.plainAttrs_str PySem.F.slot_str_join PySem.F.type_str_join mt_join pe_str (pa_cons (pv 1) pa_nil)))
 pss_nil)))
theorem ok_l_pile (T : Txt K mg c A0) : FnOk P w K mg base (L2.CX P w) 2 A0.f_l_pile A0.d_l_pile ["_law_script", "_law_start", "_law_size"] (sp_l_pile K c) := by
  have G_l_number := ok_l_number (P := P) (w := w) (base := base) T
  refine T.F_l_pile.okX sc_l_pile (fun vs H Q E h => by first | (obtain ⟨_, rfl, _⟩ := h; rfl) | (obtain ⟨_, _, rfl, _⟩ := h; rfl) | (obtain ⟨_, _, _, rfl, _⟩ := h; rfl) | (obtain ⟨_, _, _, _, rfl, _⟩ := h; rfl) | (obtain ⟨_, _, _, _, _, rfl, _⟩ := h; rfl) | (obtain ⟨_, _, _, _, _, _, rfl, _⟩ := h; rfl) | (obtain ⟨_, _, _, _, _, _, _, rfl, _⟩ := h; rfl) | (obtain ⟨_, _, _, _, _, _, _, _, rfl, _⟩ := h; rfl)) (fun cdv A outer s H vs Q E hr h => ⟨t_l_pile K c E, ?_, read_l_pile vs H Q E h⟩)
  exact (pss_cons (ps_set (i := 3) sc_l_pile.nd rfl (.inl rfl) (pe_lst pa_nil))
 (pss_cons (ps_for (passes_of rfl) rfl (pi_range1 (by rfl) T.m_range (pa_cons (pv 2) pa_nil)) (pg_name (i := 4) sc_l_pile.nd rfl (.inl rfl)) (pss_cons (ps_set (i := 5) sc_l_pile.nd rfl (.inl rfl) (pe_op op_mod (pe_call G_l_number (hr.mono (by decide)) (by rfl) T.g_l_number T.k_l_number T.b_l_number .nil passE (pa_cons (pv 0) (pa_cons (pe_op op_add (pv 1) (pv 4)) pa_nil))) (pe_op op_add (pv 4) pe_int)))
 (pss_cons (ps_set (i := 3) sc_l_pile.nd rfl (.inl rfl) (pe_op op_cat (pe_op op_cat (pe_slice sl_list (pv 3) po_none (po_some (pv 5))) (pe_lst (pa_cons (pv 4) pa_nil))) (pe_slice sl_list (pv 3) (po_some (pv 5)) po_none)))
 pss_nil)))
 (pss_cons (ps_ret (pv 3))
 pss_nil)))
theorem ok_places (T : Txt K mg c A0) : FnOk P w K mg base (L2.CX P w) 1 A0.f_places A0.d_places ["pile"] (sp_places K c) := by
  refine T.F_places.okX sc_places (fun vs H Q E h => by first | (obtain ⟨_, rfl, _⟩ := h; rfl) | (obtain ⟨_, _, rfl, _⟩ := h; rfl) | (obtain ⟨_, _, _, rfl, _⟩ := h; rfl) | (obtain ⟨_, _, _, _, rfl, _⟩ := h; rfl) | (obtain ⟨_, _, _, _, _, rfl, _⟩ := h; rfl) | (obtain ⟨_, _, _, _, _, _, rfl, _⟩ := h; rfl) | (obtain ⟨_, _, _, _, _, _, _, rfl, _⟩ := h; rfl) | (obtain ⟨_, _, _, _, _, _, _, _, rfl, _⟩ := h; rfl)) (fun cdv A outer s H vs Q E hr h => ⟨t_places K c E, ?_, read_places vs H Q E h⟩)
  exact (pss_cons (ps_set (i := 1) sc_places.nd rfl (.inl rfl) (pe_callB call_len_seq (by rfl) T.m_len (by decide +kernel) (pa_cons (pv 0) pa_nil)))
 (pss_cons (ps_if (pt_cmpR op_eq (pv 1) pe_int (nomark _)) (pss_cons (ps_raise rfl (takes_of rfl rfl rfl rfl) (pmk_own PySem.F.excBase_ValueError T.x_NoPile T.g_NoPile T.k_NoPile (raises_own T.bx_NoPile T.ty_NoPile) (by rfl)))
 pss_nil) pss_nil)
 (pss_cons (ps_set (i := 2) sc_places.nd rfl (.inl rfl) (pe_op op_rep (pe_lst (pa_cons (pe_un un_neg pe_int) pa_nil)) (pv 1)))
 (pss_cons (ps_for (passes_of rfl) rfl (pi_enum (by rfl) T.m_enumerate (pa_cons (pv 0) pa_nil)) (pg_tup rfl (pgs_cons (pg_name (i := 3) sc_places.nd rfl (.inl rfl)) (pgs_cons (pg_name (i := 4) sc_places.nd rfl (.inl rfl)) pgs_nil))) (pss_cons (ps_if (PW.pt (pw_or (pt_cmpR op_lt (pv 4) pe_int (nomark _)) (pw_or (pt_cmpR op_ge (pv 4) (pv 1) (nomark _)) (pw_or1 (pt_cmpR op_ge (pe_ix ix_list (pv 2) (pv 4) (fun _ _ => rfl)) pe_int (nomark _)))))) (pss_cons (ps_raise rfl (takes_of rfl rfl rfl rfl) (pmk_own PySem.F.excBase_ValueError T.x_NoPile T.g_NoPile T.k_NoPile (raises_own T.bx_NoPile T.ty_NoPile) (by rfl)))
 pss_nil) pss_nil)
 (pss_cons (ps_asg (pv 3) (pg_sub (pv 2) (pv 4) set_list))
 pss_nil)))
 (pss_cons (ps_ret (pv 2))
 pss_nil)))))
theorem ok_wraps (T : Txt K mg c A0) : FnOk P w K mg base (L2.CX P w) 1 A0.f_wraps A0.d_wraps ["at", "crease", "stamp"] (sp_wraps K c) := by
  refine T.F_wraps.okX sc_wraps (fun vs H Q E h => by first | (obtain ⟨_, rfl, _⟩ := h; rfl) | (obtain ⟨_, _, rfl, _⟩ := h; rfl) | (obtain ⟨_, _, _, rfl, _⟩ := h; rfl) | (obtain ⟨_, _, _, _, rfl, _⟩ := h; rfl) | (obtain ⟨_, _, _, _, _, rfl, _⟩ := h; rfl) | (obtain ⟨_, _, _, _, _, _, rfl, _⟩ := h; rfl) | (obtain ⟨_, _, _, _, _, _, _, rfl, _⟩ := h; rfl) | (obtain ⟨_, _, _, _, _, _, _, _, rfl, _⟩ := h; rfl)) (fun cdv A outer s H vs Q E hr h => ⟨t_wraps K c E, ?_, read_wraps vs H Q E h⟩)
  exact (pss_cons (ps_set (i := 3) sc_wraps.nd rfl (.inl rfl) (pe_callB cr_sortedI (by rfl) T.m_sorted (by decide +kernel) (pa_cons (pe_lst (pa_cons (pe_ix ix_list (pv 0) (pv 1) (fun _ _ => rfl)) (pa_cons (pe_ix ix_list (pv 0) (pe_op op_add (pv 1) pe_int) (fun _ _ => rfl)) pa_nil))) pa_nil)))
 (pss_cons (ps_ret (pe_and (pe_cmpR op_lt (pe_ix ix_list (pv 3) pe_int (fun _ _ => rfl)) (pe_ix ix_list (pv 0) (pv 2) (fun _ _ => rfl)) (nomark _)) (pe_one (pe_cmpR op_lt (pe_ix ix_list (pv 0) (pv 2) (fun _ _ => rfl)) (pe_ix ix_list (pv 3) pe_int (fun _ _ => rfl)) (nomark _)))))
 pss_nil))
theorem ok_crossing (T : Txt K mg c A0) : FnOk P w K mg base (L2.CX P w) 2 A0.f_crossing A0.d_crossing ["pile"] (sp_crossing K c) := by
  have G_places := ok_places (P := P) (w := w) (base := base) T
  have G_wraps := ok_wraps (P := P) (w := w) (base := base) T
  refine T.F_crossing.okX sc_crossing (fun vs H Q E h => by first | (obtain ⟨_, rfl, _⟩ := h; rfl) | (obtain ⟨_, _, rfl, _⟩ := h; rfl) | (obtain ⟨_, _, _, rfl, _⟩ := h; rfl) | (obtain ⟨_, _, _, _, rfl, _⟩ := h; rfl) | (obtain ⟨_, _, _, _, _, rfl, _⟩ := h; rfl) | (obtain ⟨_, _, _, _, _, _, rfl, _⟩ := h; rfl) | (obtain ⟨_, _, _, _, _, _, _, rfl, _⟩ := h; rfl) | (obtain ⟨_, _, _, _, _, _, _, _, rfl, _⟩ := h; rfl)) (fun cdv A outer s H vs Q E hr h => ⟨t_crossing K c E, ?_, read_crossing vs H Q E h⟩)
  exact (pss_cons (ps_set (i := 1) sc_crossing.nd rfl (.inl rfl) (pe_call G_places (hr.mono (by decide)) (by rfl) T.g_places T.k_places T.b_places .nil passE (pa_cons (pv 0) pa_nil)))
 (pss_cons (ps_for (passes_of rfl) rfl (pi_range1 (by rfl) T.m_range (pa_cons (pe_op op_sub (pe_callB call_len_seq (by rfl) T.m_len (by decide +kernel) (pa_cons (pv 1) pa_nil)) pe_int) pa_nil)) (pg_name (i := 2) sc_crossing.nd rfl (.inl rfl)) (pss_cons (ps_for (passes_of rfl) rfl (pi_range3 (by rfl) T.m_range (pa_cons (pe_op op_add (pv 2) pe_int) (pa_cons (pe_op op_sub (pe_callB call_len_seq (by rfl) T.m_len (by decide +kernel) (pa_cons (pv 1) pa_nil)) pe_int) (pa_cons pe_int pa_nil)))) (pg_name (i := 3) sc_crossing.nd rfl (.inl rfl)) (pss_cons (ps_if (pt_cmpR op_ne (pe_call G_wraps (hr.mono (by decide)) (by rfl) T.g_wraps T.k_wraps T.b_wraps .nil passE (pa_cons (pv 1) (pa_cons (pv 2) (pa_cons (pv 3) pa_nil)))) (pe_call G_wraps (hr.mono (by decide)) (by rfl) T.g_wraps T.k_wraps T.b_wraps .nil passE (pa_cons (pv 1) (pa_cons (pv 2) (pa_cons (pe_op op_add (pv 3) pe_int) pa_nil)))) (nomark _)) (pss_cons (ps_ret (pe_tup (pa_cons (pv 2) (pa_cons (pv 3) pa_nil))))
 pss_nil) pss_nil)
 pss_nil))
 pss_nil))
 (pss_cons (ps_ret pe_non)
 pss_nil)))
theorem ok_with_next (T : Txt K mg c A0) : FnOk P w K mg base (L2.CX P w) 3 A0.f_with_next A0.d_with_next ["pile"] (sp_with_next K c) := by
  have G_crossing := ok_crossing (P := P) (w := w) (base := base) T
  refine T.F_with_next.okX sc_with_next (fun vs H Q E h => by first | (obtain ⟨_, rfl, _⟩ := h; rfl) | (obtain ⟨_, _, rfl, _⟩ := h; rfl) | (obtain ⟨_, _, _, rfl, _⟩ := h; rfl) | (obtain ⟨_, _, _, _, rfl, _⟩ := h; rfl) | (obtain ⟨_, _, _, _, _, rfl, _⟩ := h; rfl) | (obtain ⟨_, _, _, _, _, _, rfl, _⟩ := h; rfl) | (obtain ⟨_, _, _, _, _, _, _, rfl, _⟩ := h; rfl) | (obtain ⟨_, _, _, _, _, _, _, _, rfl, _⟩ := h; rfl)) (fun cdv A outer s H vs Q E hr h => ⟨t_with_next K c E, ?_, read_with_next vs H Q E h⟩)
  exact (pss_cons (ps_set (i := 1) sc_with_next.nd rfl (.inl rfl) (pe_callB call_len_seq (by rfl) T.m_len (by decide +kernel) (pa_cons (pv 0) pa_nil)))
 (pss_cons (ps_set (i := 2) sc_with_next.nd rfl (.inl rfl) (pe_lst pa_nil))
 (pss_cons (ps_for (passes_of rfl) rfl (pi_range1 (by rfl) T.m_range (pa_cons (pe_op op_add (pv 1) pe_int) pa_nil)) (pg_name (i := 3) sc_with_next.nd rfl (.inl rfl)) (pss_cons (ps_set (i := 4) sc_with_next.nd rfl (.inl rfl) (pe_op op_cat (pe_op op_cat (pe_slice sl_list (pv 0) po_none (po_some (pv 3))) (pe_lst (pa_cons (pv 1) pa_nil))) (pe_slice sl_list (pv 0) (po_some (pv 3)) po_none)))
 (pss_cons (ps_if (pt_cmpR op_isN1 (pe_call G_crossing (hr.mono (by decide)) (by rfl) T.g_crossing T.k_crossing T.b_crossing .nil passE (pa_cons (pv 4) pa_nil)) pe_non (nomark _)) (pss_cons (ps_expr (pe_bm PySem.F.plainAttrs_list PySem.F.slot_list_append PySem.F.type_list_append mt_append (pv 2) (pa_cons (pv 4) pa_nil)))
 pss_nil) pss_nil)
 pss_nil)))
 (pss_cons (ps_ret (pv 2))
 pss_nil))))
theorem ok_piles (T : Txt K mg c A0) : FnOk P w K mg base (L2.CX P w) 4 A0.f_piles A0.d_piles ["many"] (sp_piles K c) := by
  have G_with_next := ok_with_next (P := P) (w := w) (base := base) T
  obtain ⟨tk_MOST, gc_MOST⟩ := T.gc_MOST
  refine T.F_piles.okX sc_piles (fun vs H Q E h => by first | (obtain ⟨_, rfl, _⟩ := h; rfl) | (obtain ⟨_, _, rfl, _⟩ := h; rfl) | (obtain ⟨_, _, _, rfl, _⟩ := h; rfl) | (obtain ⟨_, _, _, _, rfl, _⟩ := h; rfl) | (obtain ⟨_, _, _, _, _, rfl, _⟩ := h; rfl) | (obtain ⟨_, _, _, _, _, _, rfl, _⟩ := h; rfl) | (obtain ⟨_, _, _, _, _, _, _, rfl, _⟩ := h; rfl) | (obtain ⟨_, _, _, _, _, _, _, _, rfl, _⟩ := h; rfl)) (fun cdv A outer s H vs Q E hr h => ⟨t_piles K c E, ?_, read_piles vs H Q E h⟩)
  exact (pss_cons (ps_if (PW.pt (pw_or (pt_cmpR op_lt (pv 0) pe_int (nomark _)) (pw_or1 (pt_cmpR op_gt (pv 0) (pe_glob (by rfl) gc_MOST ⟨_, rfl⟩) (nomark _))))) (pss_cons (ps_raise rfl (takes_of rfl rfl rfl rfl) (pmk_own PySem.F.excBase_ValueError T.x_NoCount T.g_NoCount T.k_NoCount (raises_own T.bx_NoCount T.ty_NoCount) (by rfl)))
 pss_nil) pss_nil)
 (pss_cons (ps_set (i := 1) sc_piles.nd rfl (.inl rfl) (pe_lst (pa_cons (pe_lst (pa_cons pe_int pa_nil)) pa_nil)))
 (pss_cons (ps_for (passes_of rfl) rfl (pi_range1 (by rfl) T.m_range (pa_cons (pe_op op_sub (pv 0) pe_int) pa_nil)) (pg_name (i := 2) sc_piles.nd rfl (.inl rfl)) (pss_cons (ps_set (i := 3) sc_piles.nd rfl (.inl rfl) (pe_lst pa_nil))
 (pss_cons (ps_for (passes_of rfl) rfl (pi_list (pv 1)) (pg_name (i := 4) sc_piles.nd rfl (.inl rfl)) (pss_cons (ps_expr (pe_bm PySem.F.plainAttrs_list PySem.F.slot_list_extend PySem.F.type_list_extend mt_extend (pv 3) (pa_cons (pe_call G_with_next (hr.mono (by decide)) (by rfl) T.g_with_next T.k_with_next T.b_with_next .nil passE (pa_cons (pv 4) pa_nil)) pa_nil)))
 pss_nil))
 (pss_cons (ps_set (i := 1) sc_piles.nd rfl (.inl rfl) (pv 3))
 pss_nil))))
 (pss_cons (ps_ret (pv 1))
 pss_nil))))
theorem ok_letters (T : Txt K mg c A0) : FnOk P w K mg base (L2.CX P w) 2 A0.f_letters A0.d_letters ["pile"] (sp_letters K c) := by
  have G_places := ok_places (P := P) (w := w) (base := base) T
  refine T.F_letters.okX sc_letters (fun vs H Q E h => by first | (obtain ⟨_, rfl, _⟩ := h; rfl) | (obtain ⟨_, _, rfl, _⟩ := h; rfl) | (obtain ⟨_, _, _, rfl, _⟩ := h; rfl) | (obtain ⟨_, _, _, _, rfl, _⟩ := h; rfl) | (obtain ⟨_, _, _, _, _, rfl, _⟩ := h; rfl) | (obtain ⟨_, _, _, _, _, _, rfl, _⟩ := h; rfl) | (obtain ⟨_, _, _, _, _, _, _, rfl, _⟩ := h; rfl) | (obtain ⟨_, _, _, _, _, _, _, _, rfl, _⟩ := h; rfl)) (fun cdv A outer s H vs Q E hr h => ⟨t_letters K c E, ?_, read_letters vs H Q E h⟩)
  exact (pss_cons (ps_set (i := 1) sc_letters.nd rfl (.inl rfl) (pe_call G_places (hr.mono (by decide)) (by rfl) T.g_places T.k_places T.b_places .nil passE (pa_cons (pv 0) pa_nil)))
 (pss_cons (ps_set (i := 2) sc_letters.nd rfl (.inl rfl) (pe_lst pa_nil))
 (pss_cons (ps_for (passes_of rfl) rfl (pi_range1 (by rfl) T.m_range (pa_cons (pe_op op_sub (pe_callB call_len_seq (by rfl) T.m_len (by decide +kernel) (pa_cons (pv 1) pa_nil)) pe_int) pa_nil)) (pg_name (i := 3) sc_letters.nd rfl (.inl rfl)) (pss_cons (ps_set (i := 4) sc_letters.nd rfl (.inl rfl) (pe_cmpR op_gt (pe_ix ix_list (pv 1) (pe_op op_add (pv 3) pe_int) (fun _ _ => rfl)) (pe_ix ix_list (pv 1) (pv 3) (fun _ _ => rfl)) (nomark _)))
 (pss_cons (ps_expr (pe_bm PySem.F.plainAttrs_list PySem.F.slot_list_append PySem.F.type_list_append mt_append (pv 2) (pa_cons (pe_ifExp (pt_cmpR op_eq (pv 4) (pe_cmpR op_eq (pe_op op_mod (pv 3) pe_int) pe_int (nomark _)) (nomark _)) pe_str pe_str) pa_nil)))
 pss_nil)))
 (pss_cons (ps_ret (pe_bm PySem.F.plainAttrs_str PySem.F.slot_str_join PySem.F.type_str_join mt_join pe_str (pa_cons (pv 2) pa_nil)))
 pss_nil))))
theorem ok_look_at (T : Txt K mg c A0) : FnOk P w K mg base (L2.CX P w) 1 A0.f_look_at A0.d_look_at ["row"] (sp_look_at K c) := by
  refine T.F_look_at.okX sc_look_at (fun vs H Q E h => by first | (obtain ⟨_, rfl, _⟩ := h; rfl) | (obtain ⟨_, _, rfl, _⟩ := h; rfl) | (obtain ⟨_, _, _, rfl, _⟩ := h; rfl) | (obtain ⟨_, _, _, _, rfl, _⟩ := h; rfl) | (obtain ⟨_, _, _, _, _, rfl, _⟩ := h; rfl) | (obtain ⟨_, _, _, _, _, _, rfl, _⟩ := h; rfl) | (obtain ⟨_, _, _, _, _, _, _, rfl, _⟩ := h; rfl) | (obtain ⟨_, _, _, _, _, _, _, _, rfl, _⟩ := h; rfl)) (fun cdv A outer s H vs Q E hr h => ⟨t_look_at K c E, ?_, read_look_at vs H Q E h⟩)
  exact (pss_cons (ps_for (passes_of rfl) rfl (pi_str (pv 0)) (pg_name (i := 1) sc_look_at.nd rfl (.inl rfl)) (pss_cons (ps_if (PW.pt (pw_and (pt_cmpR op_ne (pv 1) pe_str (nomark _)) (pw_and1 (pt_cmpR op_ne (pv 1) pe_str (nomark _))))) (pss_cons (ps_raise rfl (takes_of rfl rfl rfl rfl) (pmk_own PySem.F.excBase_ValueError T.x_NoLetters T.g_NoLetters T.k_NoLetters (raises_own T.bx_NoLetters T.ty_NoLetters) (by rfl)))
 pss_nil) pss_nil)
 pss_nil))
 pss_nil)
theorem ok_piles_with (T : Txt K mg c A0) : FnOk P w K mg base (L2.CX P w) 5 A0.f_piles_with A0.d_piles_with ["row"] (sp_piles_with K c) := by
  have G_letters := ok_letters (P := P) (w := w) (base := base) T
  have G_look_at := ok_look_at (P := P) (w := w) (base := base) T
  have G_piles := ok_piles (P := P) (w := w) (base := base) T
  refine T.F_piles_with.okX sc_piles_with (fun vs H Q E h => by first | (obtain ⟨_, rfl, _⟩ := h; rfl) | (obtain ⟨_, _, rfl, _⟩ := h; rfl) | (obtain ⟨_, _, _, rfl, _⟩ := h; rfl) | (obtain ⟨_, _, _, _, rfl, _⟩ := h; rfl) | (obtain ⟨_, _, _, _, _, rfl, _⟩ := h; rfl) | (obtain ⟨_, _, _, _, _, _, rfl, _⟩ := h; rfl) | (obtain ⟨_, _, _, _, _, _, _, rfl, _⟩ := h; rfl) | (obtain ⟨_, _, _, _, _, _, _, _, rfl, _⟩ := h; rfl)) (fun cdv A outer s H vs Q E hr h => ⟨t_piles_with K c E, ?_, read_piles_with vs H Q E h⟩)
  exact (pss_cons (ps_expr (pe_call G_look_at (hr.mono (by decide)) (by rfl) T.g_look_at T.k_look_at T.b_look_at .nil passE (pa_cons (pv 0) pa_nil)))
 (pss_cons (ps_ret (pe_lc (own := [("pile", 1)]) (g := (gName 1)) (tt := (tTest (tOp rEq (tCall (sp_letters K c) [] E0 (tCons (tVar 1) tNil)) (tVar 0)))) rfl sc_piles_with.nd (pi_list (pe_call G_piles (hr.mono (by decide)) (by rfl) T.g_piles T.k_piles T.b_piles .nil passE (pa_cons (pe_op op_add (pe_callB call_len_str (by rfl) T.m_len (by decide +kernel) (pa_cons (pv 0) pa_nil)) pe_int) pa_nil))) (blkOk_by (N := ["row", "pile"]) (sc := defScope s_piles_with) (by decide +kernel)) (fun _ _ _ _ _ => (pg_name (i := 1) sc_piles_with.nd rfl (.inl rfl))) (fun _ _ _ _ _ => (pts_one (pt_cmpR op_eq (pe_call G_letters (hr.mono (by decide)) (by rfl) T.g_letters T.k_letters T.b_letters .nil passL (pa_cons (pv 1) pa_nil)) (pv 0) (nomark _)))) (fun _ _ _ _ _ => (pv 1))))
 pss_nil))
theorem ok_law (T : Txt K mg c A0) : FnOk P w K mg base (L2.CX P w) 6 A0.f_law A0.d_law ["_law_script"] (sp_law K c) := by
  have G_l_all_good := ok_l_all_good (P := P) (w := w) (base := base) T
  have G_l_drawn := ok_l_drawn (P := P) (w := w) (base := base) T
  have G_l_good := ok_l_good (P := P) (w := w) (base := base) T
  have G_l_letters := ok_l_letters (P := P) (w := w) (base := base) T
  have G_l_none_cross := ok_l_none_cross (P := P) (w := w) (base := base) T
  have G_l_pile := ok_l_pile (P := P) (w := w) (base := base) T
  have G_l_places := ok_l_places (P := P) (w := w) (base := base) T
  have G_piles := ok_piles (P := P) (w := w) (base := base) T
  have G_piles_with := ok_piles_with (P := P) (w := w) (base := base) T
  refine T.F_law.okX sc_law (fun vs H Q E h => by first | (obtain ⟨_, rfl, _⟩ := h; rfl) | (obtain ⟨_, _, rfl, _⟩ := h; rfl) | (obtain ⟨_, _, _, rfl, _⟩ := h; rfl) | (obtain ⟨_, _, _, _, rfl, _⟩ := h; rfl) | (obtain ⟨_, _, _, _, _, rfl, _⟩ := h; rfl) | (obtain ⟨_, _, _, _, _, _, rfl, _⟩ := h; rfl) | (obtain ⟨_, _, _, _, _, _, _, rfl, _⟩ := h; rfl) | (obtain ⟨_, _, _, _, _, _, _, _, rfl, _⟩ := h; rfl)) (fun cdv A outer s H vs Q E hr h => ⟨t_law_k08 K c E, ?_, read_law_k08 vs H Q E h⟩)
  exact (pss_cons (ps_set (i := 1) sc_law.nd rfl (.inl rfl) (pe_ix ix_list (pe_lst (pa_cons pe_int (pa_cons pe_int (pa_cons pe_int (pa_cons pe_int (pa_cons pe_int (pa_cons pe_int (pa_cons pe_int (pa_cons pe_int (pa_cons pe_int (pa_cons pe_int (pa_cons pe_int (pa_cons pe_int (pa_cons pe_int (pa_cons pe_int (pa_cons pe_int (pa_cons pe_int pa_nil))))))))))))))))) (pe_op op_mod (pe_call G_l_drawn (hr.mono (by decide)) (by rfl) T.g_l_drawn T.k_l_drawn T.b_l_drawn .nil passE (pa_cons (pv 0) (pa_cons pe_int pa_nil))) pe_int) (fun _ _ => rfl)))
 (pss_cons (ps_set (i := 2) sc_law.nd rfl (.inl rfl) (pe_call G_l_pile (hr.mono (by decide)) (by rfl) T.g_l_pile T.k_l_pile T.b_l_pile .nil passE (pa_cons (pv 0) (pa_cons pe_int (pa_cons (pv 1) pa_nil)))))
 (pss_cons (ps_set (i := 3) sc_law.nd rfl (.inl rfl) (pe_call G_l_good (hr.mono (by decide)) (by rfl) T.g_l_good T.k_l_good T.b_l_good .nil passE (pa_cons (pv 0) (pa_cons (pe_op op_add pe_int (pv 1)) (pa_cons (pv 1) pa_nil)))))
 (pss_cons (ps_set (i := 4) sc_law.nd rfl (.inl rfl) (pe_op op_mod (pe_call G_l_drawn (hr.mono (by decide)) (by rfl) T.g_l_drawn T.k_l_drawn T.b_l_drawn .nil passE (pa_cons (pv 0) (pa_cons pe_int pa_nil))) pe_int))
 (pss_cut (ps_if (PW.pt (pw_or (pt_cmpR op_lt (pv 1) pe_int (nomark _)) (pw_or1 (pt_cmpR op_lt (pv 4) pe_int (nomark _))))) (pss_cons (ps_set (i := 5) sc_law.nd rfl (.inl rfl) (pe_call G_piles (hr.mono (by decide)) (by rfl) T.g_piles T.k_piles T.b_piles .nil passE (pa_cons (pv 1) pa_nil)))
 (pss_cons (ps_if (PW.pt (pw_or (pt_not (pt_val (pe_call G_l_all_good (hr.mono (by decide)) (by rfl) T.g_l_all_good T.k_l_all_good T.b_l_all_good .nil passE (pa_cons (pv 5) (pa_cons (pv 1) pa_nil))))) (pw_or1 (pt_cmpR (op_notInD (units65 hr)) (pv 3) (pv 5) (by rfl))))) (pss_cons (ps_ret pe_bl)
 pss_nil) pss_nil)
 (pss_cons (ps_if (pt_cmpR op_ne (pe_cmpR (op_inD (units65 hr)) (pv 2) (pv 5) (by rfl)) (pe_call G_l_none_cross (hr.mono (by decide)) (by rfl) T.g_l_none_cross T.k_l_none_cross T.b_l_none_cross .nil passE (pa_cons (pe_call G_l_places (hr.mono (by decide)) (by rfl) T.g_l_places T.k_l_places T.b_l_places .nil passE (pa_cons (pv 2) pa_nil)) pa_nil)) (nomark _)) (pss_cons (ps_ret pe_bl)
 pss_nil) pss_nil)
 (pss_cons (ps_if (pt_cmpR op_eq (pv 1) pe_int (nomark _)) (pss_cons (ps_ret pe_bl)
 pss_nil) pss_nil)
 pss_nil)))) pss_nil)
 (pss_cons (ps_set (i := 6) sc_law.nd rfl (.inr rfl) (pe_call G_l_letters (hr.mono (by decide)) (by rfl) T.g_l_letters T.k_l_letters T.b_l_letters .nil passE (pa_cons (pe_call G_l_places (hr.mono (by decide)) (by rfl) T.g_l_places T.k_l_places T.b_l_places .nil passE (pa_cons (pv 3) pa_nil)) pa_nil)))
 (pss_cut (ps_if (pt_cmpR op_eq (pe_op op_mod (pv 4) pe_int) pe_int (nomark _)) (pss_cons (ps_set (i := 6) sc_law.nd rfl (.inr rfl) (pe_bm PySem.F.plainAttrs_str PySem.F.slot_str_join PySem.F.type_str_join mt_join pe_str (pa_cons (pe_lc (own := [("_law_k", 10)]) (g := (gName 10)) (tt := tYes) rfl sc_law.nd (pi_range1 (by rfl) T.m_range (pa_cons (pe_op op_sub (pv 1) pe_int) pa_nil)) (blkOk_by (N := ["_law_script", "_law_size", "_law_some", "_law_good_here", "_law_way", "_law_found", "_law_row", "_law_told", "_law_pile_here", "_law_at", "_law_k"]) (sc := defScope s_law) (by decide +kernel)) (fun _ _ _ _ _ => (pg_name (i := 10) sc_law.nd rfl (.inl rfl))) (fun _ _ _ _ _ => pts_nil) (fun _ _ _ _ _ => (pe_ix ix_list (pe_lst (pa_cons pe_str (pa_cons pe_str pa_nil))) (pe_op op_mod (pe_op op_fdiv (pe_call G_l_drawn (hr.mono (by decide)) (by rfl) T.g_l_drawn T.k_l_drawn T.b_l_drawn .nil passL (pa_cons (pv 0) (pa_cons pe_int pa_nil))) (pe_op op_add (pe_op op_mul (pv 10) (pv 10)) pe_int)) pe_int) (fun _ _ => rfl)))) pa_nil)))
 pss_nil) pss_nil)
 (pss_cons (ps_set (i := 7) sc_law.nd rfl (.inl rfl) (pe_call G_piles_with (hr.mono (by decide)) (by rfl) T.g_piles_with T.k_piles_with T.b_piles_with .nil passE (pa_cons (pv 6) pa_nil)))
 (pss_cons (ps_if (PW.pt (pw_or (pt_not (pt_val (pe_call G_l_all_good (hr.mono (by decide)) (by rfl) T.g_l_all_good T.k_l_all_good T.b_l_all_good .nil passE (pa_cons (pv 7) (pa_cons (pv 1) pa_nil))))) (pw_or1 (pt_cmpR (op_eqD hr.units) (pv 7) (pe_lst pa_nil) (nomark _))))) (pss_cons (ps_ret pe_bl)
 pss_nil) pss_nil)
 (pss_cons (ps_if (pt_cmpR (op_neD hr.units) (pe_lc (own := [("_law_pile_here", 8)]) (g := (gName 8)) (tt := (tTest (tOp rNe (tCall (sp_l_letters K c) [] E0 (tCons (tCall (sp_l_places K c) [] E0 (tCons (tVar 8) tNil)) tNil)) (tVar 6)))) rfl sc_law.nd (pi_list (pv 7)) (blkOk_by (N := ["_law_script", "_law_size", "_law_some", "_law_good_here", "_law_way", "_law_found", "_law_row", "_law_told", "_law_pile_here", "_law_at", "_law_k"]) (sc := defScope s_law) (by decide +kernel)) (fun _ _ _ _ _ => (pg_name (i := 8) sc_law.nd rfl (.inl rfl))) (fun _ _ _ _ _ => (pts_one (pt_cmpR op_ne (pe_call G_l_letters (hr.mono (by decide)) (by rfl) T.g_l_letters T.k_l_letters T.b_l_letters .nil passL (pa_cons (pe_call G_l_places (hr.mono (by decide)) (by rfl) T.g_l_places T.k_l_places T.b_l_places .nil passL (pa_cons (pv 8) pa_nil)) pa_nil)) (pv 6) (nomark _)))) (fun _ _ _ _ _ => (pv 8))) (pe_lst pa_nil) (nomark _)) (pss_cons (ps_ret pe_bl)
 pss_nil) pss_nil)
 (pss_cons (ps_for (passes_of rfl) rfl (pi_list (pe_lst (pa_cons (pv 2) (pa_cons (pv 3) pa_nil)))) (pg_name (i := 8) sc_law.nd rfl (.inl rfl)) (pss_cons (ps_set (i := 9) sc_law.nd rfl (.inl rfl) (pe_call G_l_places (hr.mono (by decide)) (by rfl) T.g_l_places T.k_l_places T.b_l_places .nil passE (pa_cons (pv 8) pa_nil)))
 (pss_cons (ps_if (pt_cmpR op_ne (pe_cmpR (op_inD (units65 hr)) (pv 8) (pv 7) (by rfl)) (pe_and (pe_call G_l_none_cross (hr.mono (by decide)) (by rfl) T.g_l_none_cross T.k_l_none_cross T.b_l_none_cross .nil passE (pa_cons (pv 9) pa_nil)) (pe_one (pe_cmpR op_eq (pe_call G_l_letters (hr.mono (by decide)) (by rfl) T.g_l_letters T.k_l_letters T.b_l_letters .nil passE (pa_cons (pv 9) pa_nil)) (pv 6) (nomark _)))) (nomark _)) (pss_cons (ps_ret pe_bl)
 pss_nil) pss_nil)
 pss_nil)))
 (pss_cons (ps_ret pe_bl)
 pss_nil))))))))))))
end
theorem all_mk {l : PySem.W.OpenLaw} {w : World} {K : PySem.W.Frag} {h : Heap} {mg : Str → Option Value} {fa : Addr} (X : K.In h) (G : h.Ns mainGlobals mg) (hfa : mg "law" = some (.ref fa))
    {f0 : Addr} {od0 an0 : Option Addr} {sl0 : Array (Option Value)} {oc0 kV0 dc0 pm0 cd0 ct0 : Value}
    (a0 : PySem.W.nsIn K mainGlobals "_law_counts" = some (some (.ref f0))) (l0 : K.lookup f0 = some ⟨oc0, od0, .func (PySem.W.fnOf "_law_counts" "_law_counts" (defArgs s_l_counts) (defBody s_l_counts) (defScope s_l_counts) .none kV0 dc0 pm0 an0 cd0 ct0), sl0⟩) (c0 : PySem.W.codeIn K cd0 "_law_counts" = true) (k0 : PySem.W.keepIn K (.ref f0) = true)
    {f1 : Addr} {od1 an1 : Option Addr} {sl1 : Array (Option Value)} {oc1 kV1 dc1 pm1 cd1 ct1 : Value}
    (a1 : PySem.W.nsIn K mainGlobals "_law_is_pile" = some (some (.ref f1))) (l1 : K.lookup f1 = some ⟨oc1, od1, .func (PySem.W.fnOf "_law_is_pile" "_law_is_pile" (defArgs s_l_is_pile) (defBody s_l_is_pile) (defScope s_l_is_pile) .none kV1 dc1 pm1 an1 cd1 ct1), sl1⟩) (c1 : PySem.W.codeIn K cd1 "_law_is_pile" = true) (k1 : PySem.W.keepIn K (.ref f1) = true)
    {f2 : Addr} {od2 an2 : Option Addr} {sl2 : Array (Option Value)} {oc2 kV2 dc2 pm2 cd2 ct2 : Value}
    (a2 : PySem.W.nsIn K mainGlobals "_law_wraps" = some (some (.ref f2))) (l2 : K.lookup f2 = some ⟨oc2, od2, .func (PySem.W.fnOf "_law_wraps" "_law_wraps" (defArgs s_l_wraps) (defBody s_l_wraps) (defScope s_l_wraps) .none kV2 dc2 pm2 an2 cd2 ct2), sl2⟩) (c2 : PySem.W.codeIn K cd2 "_law_wraps" = true) (k2 : PySem.W.keepIn K (.ref f2) = true)
    {f3 : Addr} {od3 an3 : Option Addr} {sl3 : Array (Option Value)} {oc3 kV3 dc3 pm3 cd3 ct3 : Value}
    (a3 : PySem.W.nsIn K mainGlobals "_law_none_cross" = some (some (.ref f3))) (l3 : K.lookup f3 = some ⟨oc3, od3, .func (PySem.W.fnOf "_law_none_cross" "_law_none_cross" (defArgs s_l_none_cross) (defBody s_l_none_cross) (defScope s_l_none_cross) .none kV3 dc3 pm3 an3 cd3 ct3), sl3⟩) (c3 : PySem.W.codeIn K cd3 "_law_none_cross" = true) (k3 : PySem.W.keepIn K (.ref f3) = true)
    {f4 : Addr} {od4 an4 : Option Addr} {sl4 : Array (Option Value)} {oc4 kV4 dc4 pm4 cd4 ct4 : Value}
    (a4 : PySem.W.nsIn K mainGlobals "_law_places" = some (some (.ref f4))) (l4 : K.lookup f4 = some ⟨oc4, od4, .func (PySem.W.fnOf "_law_places" "_law_places" (defArgs s_l_places) (defBody s_l_places) (defScope s_l_places) .none kV4 dc4 pm4 an4 cd4 ct4), sl4⟩) (c4 : PySem.W.codeIn K cd4 "_law_places" = true) (k4 : PySem.W.keepIn K (.ref f4) = true)
    {f5 : Addr} {od5 an5 : Option Addr} {sl5 : Array (Option Value)} {oc5 kV5 dc5 pm5 cd5 ct5 : Value}
    (a5 : PySem.W.nsIn K mainGlobals "_law_all_good" = some (some (.ref f5))) (l5 : K.lookup f5 = some ⟨oc5, od5, .func (PySem.W.fnOf "_law_all_good" "_law_all_good" (defArgs s_l_all_good) (defBody s_l_all_good) (defScope s_l_all_good) .none kV5 dc5 pm5 an5 cd5 ct5), sl5⟩) (c5 : PySem.W.codeIn K cd5 "_law_all_good" = true) (k5 : PySem.W.keepIn K (.ref f5) = true)
    {f6 : Addr} {od6 an6 : Option Addr} {sl6 : Array (Option Value)} {oc6 kV6 dc6 pm6 cd6 ct6 : Value}
    (a6 : PySem.W.nsIn K mainGlobals "_law_drawn" = some (some (.ref f6))) (l6 : K.lookup f6 = some ⟨oc6, od6, .func (PySem.W.fnOf "_law_drawn" "_law_drawn" (defArgs s_l_drawn) (defBody s_l_drawn) (defScope s_l_drawn) .none kV6 dc6 pm6 an6 cd6 ct6), sl6⟩) (c6 : PySem.W.codeIn K cd6 "_law_drawn" = true) (k6 : PySem.W.keepIn K (.ref f6) = true)
    {f7 : Addr} {od7 an7 : Option Addr} {sl7 : Array (Option Value)} {oc7 kV7 dc7 pm7 cd7 ct7 : Value}
    (a7 : PySem.W.nsIn K mainGlobals "_law_fits" = some (some (.ref f7))) (l7 : K.lookup f7 = some ⟨oc7, od7, .func (PySem.W.fnOf "_law_fits" "_law_fits" (defArgs s_l_fits) (defBody s_l_fits) (defScope s_l_fits) .none kV7 dc7 pm7 an7 cd7 ct7), sl7⟩) (c7 : PySem.W.codeIn K cd7 "_law_fits" = true) (k7 : PySem.W.keepIn K (.ref f7) = true)
    {f8 : Addr} {od8 an8 : Option Addr} {sl8 : Array (Option Value)} {oc8 kV8 dc8 pm8 cd8 ct8 : Value}
    (a8 : PySem.W.nsIn K mainGlobals "_law_number" = some (some (.ref f8))) (l8 : K.lookup f8 = some ⟨oc8, od8, .func (PySem.W.fnOf "_law_number" "_law_number" (defArgs s_l_number) (defBody s_l_number) (defScope s_l_number) .none kV8 dc8 pm8 an8 cd8 ct8), sl8⟩) (c8 : PySem.W.codeIn K cd8 "_law_number" = true) (k8 : PySem.W.keepIn K (.ref f8) = true)
    {f9 : Addr} {od9 an9 : Option Addr} {sl9 : Array (Option Value)} {oc9 kV9 dc9 pm9 cd9 ct9 : Value}
    (a9 : PySem.W.nsIn K mainGlobals "_law_good" = some (some (.ref f9))) (l9 : K.lookup f9 = some ⟨oc9, od9, .func (PySem.W.fnOf "_law_good" "_law_good" (defArgs s_l_good) (defBody s_l_good) (defScope s_l_good) .none kV9 dc9 pm9 an9 cd9 ct9), sl9⟩) (c9 : PySem.W.codeIn K cd9 "_law_good" = true) (k9 : PySem.W.keepIn K (.ref f9) = true)
    {f10 : Addr} {od10 an10 : Option Addr} {sl10 : Array (Option Value)} {oc10 kV10 dc10 pm10 cd10 ct10 : Value}
    (a10 : PySem.W.nsIn K mainGlobals "_law_letters" = some (some (.ref f10))) (l10 : K.lookup f10 = some ⟨oc10, od10, .func (PySem.W.fnOf "_law_letters" "_law_letters" (defArgs s_l_letters) (defBody s_l_letters) (defScope s_l_letters) .none kV10 dc10 pm10 an10 cd10 ct10), sl10⟩) (c10 : PySem.W.codeIn K cd10 "_law_letters" = true) (k10 : PySem.W.keepIn K (.ref f10) = true)
    {f11 : Addr} {od11 an11 : Option Addr} {sl11 : Array (Option Value)} {oc11 kV11 dc11 pm11 cd11 ct11 : Value}
    (a11 : PySem.W.nsIn K mainGlobals "_law_pile" = some (some (.ref f11))) (l11 : K.lookup f11 = some ⟨oc11, od11, .func (PySem.W.fnOf "_law_pile" "_law_pile" (defArgs s_l_pile) (defBody s_l_pile) (defScope s_l_pile) .none kV11 dc11 pm11 an11 cd11 ct11), sl11⟩) (c11 : PySem.W.codeIn K cd11 "_law_pile" = true) (k11 : PySem.W.keepIn K (.ref f11) = true)
    {f12 : Addr} {od12 an12 : Option Addr} {sl12 : Array (Option Value)} {oc12 kV12 dc12 pm12 cd12 ct12 : Value}
    (a12 : PySem.W.nsIn K mainGlobals "places" = some (some (.ref f12))) (l12 : K.lookup f12 = some ⟨oc12, od12, .func (PySem.W.fnOf "places" "places" (defArgs s_places) (defBody s_places) (defScope s_places) .none kV12 dc12 pm12 an12 cd12 ct12), sl12⟩) (c12 : PySem.W.codeIn K cd12 "places" = true) (k12 : PySem.W.keepIn K (.ref f12) = true)
    {f13 : Addr} {od13 an13 : Option Addr} {sl13 : Array (Option Value)} {oc13 kV13 dc13 pm13 cd13 ct13 : Value}
    (a13 : PySem.W.nsIn K mainGlobals "wraps" = some (some (.ref f13))) (l13 : K.lookup f13 = some ⟨oc13, od13, .func (PySem.W.fnOf "wraps" "wraps" (defArgs s_wraps) (defBody s_wraps) (defScope s_wraps) .none kV13 dc13 pm13 an13 cd13 ct13), sl13⟩) (c13 : PySem.W.codeIn K cd13 "wraps" = true) (k13 : PySem.W.keepIn K (.ref f13) = true)
    {f14 : Addr} {od14 an14 : Option Addr} {sl14 : Array (Option Value)} {oc14 kV14 dc14 pm14 cd14 ct14 : Value}
    (a14 : PySem.W.nsIn K mainGlobals "crossing" = some (some (.ref f14))) (l14 : K.lookup f14 = some ⟨oc14, od14, .func (PySem.W.fnOf "crossing" "crossing" (defArgs s_crossing) (defBody s_crossing) (defScope s_crossing) .none kV14 dc14 pm14 an14 cd14 ct14), sl14⟩) (c14 : PySem.W.codeIn K cd14 "crossing" = true) (k14 : PySem.W.keepIn K (.ref f14) = true)
    {f15 : Addr} {od15 an15 : Option Addr} {sl15 : Array (Option Value)} {oc15 kV15 dc15 pm15 cd15 ct15 : Value}
    (a15 : PySem.W.nsIn K mainGlobals "with_next" = some (some (.ref f15))) (l15 : K.lookup f15 = some ⟨oc15, od15, .func (PySem.W.fnOf "with_next" "with_next" (defArgs s_with_next) (defBody s_with_next) (defScope s_with_next) .none kV15 dc15 pm15 an15 cd15 ct15), sl15⟩) (c15 : PySem.W.codeIn K cd15 "with_next" = true) (k15 : PySem.W.keepIn K (.ref f15) = true)
    {f16 : Addr} {od16 an16 : Option Addr} {sl16 : Array (Option Value)} {oc16 kV16 dc16 pm16 cd16 ct16 : Value}
    (a16 : PySem.W.nsIn K mainGlobals "piles" = some (some (.ref f16))) (l16 : K.lookup f16 = some ⟨oc16, od16, .func (PySem.W.fnOf "piles" "piles" (defArgs s_piles) (defBody s_piles) (defScope s_piles) .none kV16 dc16 pm16 an16 cd16 ct16), sl16⟩) (c16 : PySem.W.codeIn K cd16 "piles" = true) (k16 : PySem.W.keepIn K (.ref f16) = true)
    {f17 : Addr} {od17 an17 : Option Addr} {sl17 : Array (Option Value)} {oc17 kV17 dc17 pm17 cd17 ct17 : Value}
    (a17 : PySem.W.nsIn K mainGlobals "letters" = some (some (.ref f17))) (l17 : K.lookup f17 = some ⟨oc17, od17, .func (PySem.W.fnOf "letters" "letters" (defArgs s_letters) (defBody s_letters) (defScope s_letters) .none kV17 dc17 pm17 an17 cd17 ct17), sl17⟩) (c17 : PySem.W.codeIn K cd17 "letters" = true) (k17 : PySem.W.keepIn K (.ref f17) = true)
    {f18 : Addr} {od18 an18 : Option Addr} {sl18 : Array (Option Value)} {oc18 kV18 dc18 pm18 cd18 ct18 : Value}
    (a18 : PySem.W.nsIn K mainGlobals "look_at" = some (some (.ref f18))) (l18 : K.lookup f18 = some ⟨oc18, od18, .func (PySem.W.fnOf "look_at" "look_at" (defArgs s_look_at) (defBody s_look_at) (defScope s_look_at) .none kV18 dc18 pm18 an18 cd18 ct18), sl18⟩) (c18 : PySem.W.codeIn K cd18 "look_at" = true) (k18 : PySem.W.keepIn K (.ref f18) = true)
    {f19 : Addr} {od19 an19 : Option Addr} {sl19 : Array (Option Value)} {oc19 kV19 dc19 pm19 cd19 ct19 : Value}
    (a19 : PySem.W.nsIn K mainGlobals "piles_with" = some (some (.ref f19))) (l19 : K.lookup f19 = some ⟨oc19, od19, .func (PySem.W.fnOf "piles_with" "piles_with" (defArgs s_piles_with) (defBody s_piles_with) (defScope s_piles_with) .none kV19 dc19 pm19 an19 cd19 ct19), sl19⟩) (c19 : PySem.W.codeIn K cd19 "piles_with" = true) (k19 : PySem.W.keepIn K (.ref f19) = true)
    {f20 : Addr} {od20 an20 : Option Addr} {sl20 : Array (Option Value)} {oc20 kV20 dc20 pm20 cd20 ct20 : Value}
    (a20 : PySem.W.nsIn K mainGlobals "law" = some (some (.ref f20))) (l20 : K.lookup f20 = some ⟨oc20, od20, .func (PySem.W.fnOf "law" "law" (defArgs s_law) (defBody s_law) (defScope s_law) .none kV20 dc20 pm20 an20 cd20 ct20), sl20⟩) (c20 : PySem.W.codeIn K cd20 "law" = true) (k20 : PySem.W.keepIn K (.ref f20) = true)
    {tk_MOST : Tok} (zc_MOST : PySem.W.nsIn K mainGlobals "MOST" = some (some (.int 7 tk_MOST)))
    (z_enumerate : PySem.W.nsIn K mainGlobals "enumerate" = some none)
    (z_int : PySem.W.nsIn K mainGlobals "int" = some none)
    (z_isinstance : PySem.W.nsIn K mainGlobals "isinstance" = some none)
    (z_len : PySem.W.nsIn K mainGlobals "len" = some none)
    (z_list : PySem.W.nsIn K mainGlobals "list" = some none)
    (z_max : PySem.W.nsIn K mainGlobals "max" = some none)
    (z_min : PySem.W.nsIn K mainGlobals "min" = some none)
    (z_range : PySem.W.nsIn K mainGlobals "range" = some none)
    (z_sorted : PySem.W.nsIn K mainGlobals "sorted" = some none)
    (z_tuple : PySem.W.nsIn K mainGlobals "tuple" = some none)
    {C_NoCount : Addr} (e_NoCount : PySem.W.nsIn K mainGlobals "NoCount" = some (some (.ref C_NoCount))) (x_NoCount : PySem.W.excIn K C_NoCount [.type "ValueError", .type "Exception", .type "BaseException", .type "object"] "ValueError.__new__" = true) (kx_NoCount : PySem.W.keepIn K (.ref C_NoCount) = true) (bx_NoCount : PySem.W.subIn K (.ref C_NoCount) (.type "BaseException") = some true) (ty_NoCount : PySem.W.typeIn K (.ref C_NoCount) = some (.type "type"))
    {C_NoLetters : Addr} (e_NoLetters : PySem.W.nsIn K mainGlobals "NoLetters" = some (some (.ref C_NoLetters))) (x_NoLetters : PySem.W.excIn K C_NoLetters [.type "ValueError", .type "Exception", .type "BaseException", .type "object"] "ValueError.__new__" = true) (kx_NoLetters : PySem.W.keepIn K (.ref C_NoLetters) = true) (bx_NoLetters : PySem.W.subIn K (.ref C_NoLetters) (.type "BaseException") = some true) (ty_NoLetters : PySem.W.typeIn K (.ref C_NoLetters) = some (.type "type"))
    {C_NoPile : Addr} (e_NoPile : PySem.W.nsIn K mainGlobals "NoPile" = some (some (.ref C_NoPile))) (x_NoPile : PySem.W.excIn K C_NoPile [.type "ValueError", .type "Exception", .type "BaseException", .type "object"] "ValueError.__new__" = true) (kx_NoPile : PySem.W.keepIn K (.ref C_NoPile) = true) (bx_NoPile : PySem.W.subIn K (.ref C_NoPile) (.type "BaseException") = some true) (ty_NoPile : PySem.W.typeIn K (.ref C_NoPile) = some (.type "type"))
    : ∃ fd : FuncData, (∀ (s : Shared) (v : Value), BindsTo s fd ⟨[v], []⟩ [("_law_script", v)]) ∧ ∀ base : Heap, K.In base → base.Ns mainGlobals mg → FnOk l.prog w K mg base (L2.CX l.prog w) 6 fa fd ["_law_script"] (spLaw K) := by
  have e := hfa.symm.trans (PySem.W.mg_of X G a20)
  cases e
  let c : Cs := { np := C_NoPile, nc := 0, nl := C_NoLetters, nn := C_NoCount, st := 0, cr := 0, se := 0, sz := [] }
  let A : Ad := { f_l_counts := f0, d_l_counts := PySem.W.fnOf "_law_counts" "_law_counts" (defArgs s_l_counts) (defBody s_l_counts) (defScope s_l_counts) .none kV0 dc0 pm0 an0 cd0 ct0, f_l_is_pile := f1, d_l_is_pile := PySem.W.fnOf "_law_is_pile" "_law_is_pile" (defArgs s_l_is_pile) (defBody s_l_is_pile) (defScope s_l_is_pile) .none kV1 dc1 pm1 an1 cd1 ct1, f_l_wraps := f2, d_l_wraps := PySem.W.fnOf "_law_wraps" "_law_wraps" (defArgs s_l_wraps) (defBody s_l_wraps) (defScope s_l_wraps) .none kV2 dc2 pm2 an2 cd2 ct2, f_l_none_cross := f3, d_l_none_cross := PySem.W.fnOf "_law_none_cross" "_law_none_cross" (defArgs s_l_none_cross) (defBody s_l_none_cross) (defScope s_l_none_cross) .none kV3 dc3 pm3 an3 cd3 ct3, f_l_places := f4, d_l_places := PySem.W.fnOf "_law_places" "_law_places" (defArgs s_l_places) (defBody s_l_places) (defScope s_l_places) .none kV4 dc4 pm4 an4 cd4 ct4, f_l_all_good := f5, d_l_all_good := PySem.W.fnOf "_law_all_good" "_law_all_good" (defArgs s_l_all_good) (defBody s_l_all_good) (defScope s_l_all_good) .none kV5 dc5 pm5 an5 cd5 ct5, f_l_drawn := f6, d_l_drawn := PySem.W.fnOf "_law_drawn" "_law_drawn" (defArgs s_l_drawn) (defBody s_l_drawn) (defScope s_l_drawn) .none kV6 dc6 pm6 an6 cd6 ct6, f_l_fits := f7, d_l_fits := PySem.W.fnOf "_law_fits" "_law_fits" (defArgs s_l_fits) (defBody s_l_fits) (defScope s_l_fits) .none kV7 dc7 pm7 an7 cd7 ct7, f_l_number := f8, d_l_number := PySem.W.fnOf "_law_number" "_law_number" (defArgs s_l_number) (defBody s_l_number) (defScope s_l_number) .none kV8 dc8 pm8 an8 cd8 ct8, f_l_good := f9, d_l_good := PySem.W.fnOf "_law_good" "_law_good" (defArgs s_l_good) (defBody s_l_good) (defScope s_l_good) .none kV9 dc9 pm9 an9 cd9 ct9, f_l_letters := f10, d_l_letters := PySem.W.fnOf "_law_letters" "_law_letters" (defArgs s_l_letters) (defBody s_l_letters) (defScope s_l_letters) .none kV10 dc10 pm10 an10 cd10 ct10, f_l_pile := f11, d_l_pile := PySem.W.fnOf "_law_pile" "_law_pile" (defArgs s_l_pile) (defBody s_l_pile) (defScope s_l_pile) .none kV11 dc11 pm11 an11 cd11 ct11, f_places := f12, d_places := PySem.W.fnOf "places" "places" (defArgs s_places) (defBody s_places) (defScope s_places) .none kV12 dc12 pm12 an12 cd12 ct12, f_wraps := f13, d_wraps := PySem.W.fnOf "wraps" "wraps" (defArgs s_wraps) (defBody s_wraps) (defScope s_wraps) .none kV13 dc13 pm13 an13 cd13 ct13, f_crossing := f14, d_crossing := PySem.W.fnOf "crossing" "crossing" (defArgs s_crossing) (defBody s_crossing) (defScope s_crossing) .none kV14 dc14 pm14 an14 cd14 ct14, f_with_next := f15, d_with_next := PySem.W.fnOf "with_next" "with_next" (defArgs s_with_next) (defBody s_with_next) (defScope s_with_next) .none kV15 dc15 pm15 an15 cd15 ct15, f_piles := f16, d_piles := PySem.W.fnOf "piles" "piles" (defArgs s_piles) (defBody s_piles) (defScope s_piles) .none kV16 dc16 pm16 an16 cd16 ct16, f_letters := f17, d_letters := PySem.W.fnOf "letters" "letters" (defArgs s_letters) (defBody s_letters) (defScope s_letters) .none kV17 dc17 pm17 an17 cd17 ct17, f_look_at := f18, d_look_at := PySem.W.fnOf "look_at" "look_at" (defArgs s_look_at) (defBody s_look_at) (defScope s_look_at) .none kV18 dc18 pm18 an18 cd18 ct18, f_piles_with := f19, d_piles_with := PySem.W.fnOf "piles_with" "piles_with" (defArgs s_piles_with) (defBody s_piles_with) (defScope s_piles_with) .none kV19 dc19 pm19 an19 cd19 ct19, f_law := fa, d_law := PySem.W.fnOf "law" "law" (defArgs s_law) (defBody s_law) (defScope s_law) .none kV20 dc20 pm20 an20 cd20 ct20 }
  have T : Txt K mg c A := {
    sz := trivial
    F_l_counts := fun_mk (st := s_l_counts) l0 c0 k0
    g_l_counts := PySem.W.mg_of X G a0
    k_l_counts := k0
    b_l_counts := (fun_mk (st := s_l_counts) l0 c0 k0).binds fun _ _ _ _ _ _ us hl => match us, hl with | [_], _ => rfl
    F_l_is_pile := fun_mk (st := s_l_is_pile) l1 c1 k1
    g_l_is_pile := PySem.W.mg_of X G a1
    k_l_is_pile := k1
    b_l_is_pile := (fun_mk (st := s_l_is_pile) l1 c1 k1).binds fun _ _ _ _ _ _ us hl => match us, hl with | [_, _], _ => rfl
    F_l_wraps := fun_mk (st := s_l_wraps) l2 c2 k2
    g_l_wraps := PySem.W.mg_of X G a2
    k_l_wraps := k2
    b_l_wraps := (fun_mk (st := s_l_wraps) l2 c2 k2).binds fun _ _ _ _ _ _ us hl => match us, hl with | [_, _, _], _ => rfl
    F_l_none_cross := fun_mk (st := s_l_none_cross) l3 c3 k3
    g_l_none_cross := PySem.W.mg_of X G a3
    k_l_none_cross := k3
    b_l_none_cross := (fun_mk (st := s_l_none_cross) l3 c3 k3).binds fun _ _ _ _ _ _ us hl => match us, hl with | [_], _ => rfl
    F_l_places := fun_mk (st := s_l_places) l4 c4 k4
    g_l_places := PySem.W.mg_of X G a4
    k_l_places := k4
    b_l_places := (fun_mk (st := s_l_places) l4 c4 k4).binds fun _ _ _ _ _ _ us hl => match us, hl with | [_], _ => rfl
    F_l_all_good := fun_mk (st := s_l_all_good) l5 c5 k5
    g_l_all_good := PySem.W.mg_of X G a5
    k_l_all_good := k5
    b_l_all_good := (fun_mk (st := s_l_all_good) l5 c5 k5).binds fun _ _ _ _ _ _ us hl => match us, hl with | [_, _], _ => rfl
    F_l_drawn := fun_mk (st := s_l_drawn) l6 c6 k6
    g_l_drawn := PySem.W.mg_of X G a6
    k_l_drawn := k6
    b_l_drawn := (fun_mk (st := s_l_drawn) l6 c6 k6).binds fun _ _ _ _ _ _ us hl => match us, hl with | [_, _], _ => rfl
    F_l_fits := fun_mk (st := s_l_fits) l7 c7 k7
    g_l_fits := PySem.W.mg_of X G a7
    k_l_fits := k7
    b_l_fits := (fun_mk (st := s_l_fits) l7 c7 k7).binds fun _ _ _ _ _ _ us hl => match us, hl with | [_, _, _], _ => rfl
    F_l_number := fun_mk (st := s_l_number) l8 c8 k8
    g_l_number := PySem.W.mg_of X G a8
    k_l_number := k8
    b_l_number := (fun_mk (st := s_l_number) l8 c8 k8).binds fun _ _ _ _ _ _ us hl => match us, hl with | [_, _], _ => rfl
    F_l_good := fun_mk (st := s_l_good) l9 c9 k9
    g_l_good := PySem.W.mg_of X G a9
    k_l_good := k9
    b_l_good := (fun_mk (st := s_l_good) l9 c9 k9).binds fun _ _ _ _ _ _ us hl => match us, hl with | [_, _, _], _ => rfl
    F_l_letters := fun_mk (st := s_l_letters) l10 c10 k10
    g_l_letters := PySem.W.mg_of X G a10
    k_l_letters := k10
    b_l_letters := (fun_mk (st := s_l_letters) l10 c10 k10).binds fun _ _ _ _ _ _ us hl => match us, hl with | [_], _ => rfl
    F_l_pile := fun_mk (st := s_l_pile) l11 c11 k11
    g_l_pile := PySem.W.mg_of X G a11
    k_l_pile := k11
    b_l_pile := (fun_mk (st := s_l_pile) l11 c11 k11).binds fun _ _ _ _ _ _ us hl => match us, hl with | [_, _, _], _ => rfl
    F_places := fun_mk (st := s_places) l12 c12 k12
    g_places := PySem.W.mg_of X G a12
    k_places := k12
    b_places := (fun_mk (st := s_places) l12 c12 k12).binds fun _ _ _ _ _ _ us hl => match us, hl with | [_], _ => rfl
    F_wraps := fun_mk (st := s_wraps) l13 c13 k13
    g_wraps := PySem.W.mg_of X G a13
    k_wraps := k13
    b_wraps := (fun_mk (st := s_wraps) l13 c13 k13).binds fun _ _ _ _ _ _ us hl => match us, hl with | [_, _, _], _ => rfl
    F_crossing := fun_mk (st := s_crossing) l14 c14 k14
    g_crossing := PySem.W.mg_of X G a14
    k_crossing := k14
    b_crossing := (fun_mk (st := s_crossing) l14 c14 k14).binds fun _ _ _ _ _ _ us hl => match us, hl with | [_], _ => rfl
    F_with_next := fun_mk (st := s_with_next) l15 c15 k15
    g_with_next := PySem.W.mg_of X G a15
    k_with_next := k15
    b_with_next := (fun_mk (st := s_with_next) l15 c15 k15).binds fun _ _ _ _ _ _ us hl => match us, hl with | [_], _ => rfl
    F_piles := fun_mk (st := s_piles) l16 c16 k16
    g_piles := PySem.W.mg_of X G a16
    k_piles := k16
    b_piles := (fun_mk (st := s_piles) l16 c16 k16).binds fun _ _ _ _ _ _ us hl => match us, hl with | [_], _ => rfl
    F_letters := fun_mk (st := s_letters) l17 c17 k17
    g_letters := PySem.W.mg_of X G a17
    k_letters := k17
    b_letters := (fun_mk (st := s_letters) l17 c17 k17).binds fun _ _ _ _ _ _ us hl => match us, hl with | [_], _ => rfl
    F_look_at := fun_mk (st := s_look_at) l18 c18 k18
    g_look_at := PySem.W.mg_of X G a18
    k_look_at := k18
    b_look_at := (fun_mk (st := s_look_at) l18 c18 k18).binds fun _ _ _ _ _ _ us hl => match us, hl with | [_], _ => rfl
    F_piles_with := fun_mk (st := s_piles_with) l19 c19 k19
    g_piles_with := PySem.W.mg_of X G a19
    k_piles_with := k19
    b_piles_with := (fun_mk (st := s_piles_with) l19 c19 k19).binds fun _ _ _ _ _ _ us hl => match us, hl with | [_], _ => rfl
    F_law := fun_mk (st := s_law) l20 c20 k20
    gc_MOST := ⟨_, PySem.W.mg_of X G zc_MOST⟩
    m_enumerate := PySem.W.mg_none_of X G z_enumerate
    m_int := PySem.W.mg_none_of X G z_int
    m_isinstance := PySem.W.mg_none_of X G z_isinstance
    m_len := PySem.W.mg_none_of X G z_len
    m_list := PySem.W.mg_none_of X G z_list
    m_max := PySem.W.mg_none_of X G z_max
    m_min := PySem.W.mg_none_of X G z_min
    m_range := PySem.W.mg_none_of X G z_range
    m_sorted := PySem.W.mg_none_of X G z_sorted
    m_tuple := PySem.W.mg_none_of X G z_tuple
    x_NoCount := x_NoCount
    g_NoCount := PySem.W.mg_of X G e_NoCount
    k_NoCount := kx_NoCount
    bx_NoCount := bx_NoCount
    ty_NoCount := ty_NoCount
    x_NoLetters := x_NoLetters
    g_NoLetters := PySem.W.mg_of X G e_NoLetters
    k_NoLetters := kx_NoLetters
    bx_NoLetters := bx_NoLetters
    ty_NoLetters := ty_NoLetters
    x_NoPile := x_NoPile
    g_NoPile := PySem.W.mg_of X G e_NoPile
    k_NoPile := kx_NoPile
    bx_NoPile := bx_NoPile
    ty_NoPile := ty_NoPile
  }
  exact ⟨_, fun s v => .of_eq rfl, fun base _ _ => ok_law T⟩
end Fo
open PySem PySem.W PyProof.Rows
set_option maxHeartbeats 0 in
theorem PySem.Challenge.cw_stripfold_k08_whole_listed_holds : PySem.Challenge.rw_stripfold_k08_whole_listed.Holds := by
  w_on; o_law; k_head; (case hw => w_witness2)
  k_fill
  refine L2.walk_of (l := PySem.Challenge.rw_stripfold_k08_whole_listed) (n := 63) (k := 6) (x := "_law_script") (CX := fun w => L2.CX (PySem.Challenge.rw_stripfold_k08_whole_listed).prog w) (sp := fun w => Fo.spLaw _) rfl (by decide) rfl ⟨rfl, by decide, by decide⟩ (fun w h Y => PySem.W.kIn_of Y) ?F (fun _ _ a ns hl _ hS => ⟨a, ns, rfl, hS, hl, fun _ => rfl⟩) (fun _ _ _ _ _ h => Fo.cx_no h)
  case F =>
    intro w mg fa h KX G hmg
    refine' Fo.all_mk KX G hmg ?a0 ?l0 ?c0 ?k0 ?a1 ?l1 ?c1 ?k1 ?a2 ?l2 ?c2 ?k2 ?a3 ?l3 ?c3 ?k3 ?a4 ?l4 ?c4 ?k4 ?a5 ?l5 ?c5 ?k5 ?a6 ?l6 ?c6 ?k6 ?a7 ?l7 ?c7 ?k7 ?a8 ?l8 ?c8 ?k8 ?a9 ?l9 ?c9 ?k9 ?a10 ?l10 ?c10 ?k10 ?a11 ?l11 ?c11 ?k11 ?a12 ?l12 ?c12 ?k12 ?a13 ?l13 ?c13 ?k13 ?a14 ?l14 ?c14 ?k14 ?a15 ?l15 ?c15 ?k15 ?a16 ?l16 ?c16 ?k16 ?a17 ?l17 ?c17 ?k17 ?a18 ?l18 ?c18 ?k18 ?a19 ?l19 ?c19 ?k19 ?a20 ?l20 ?c20 ?k20 ?zc_MOST ?z_enumerate ?z_int ?z_isinstance ?z_len ?z_list ?z_max ?z_min ?z_range ?z_sorted ?z_tuple ?e_NoCount ?x_NoCount ?kx_NoCount ?bx_NoCount ?ty_NoCount ?e_NoLetters ?x_NoLetters ?kx_NoLetters ?bx_NoLetters ?ty_NoLetters ?e_NoPile ?x_NoPile ?kx_NoPile ?bx_NoPile ?ty_NoPile
    (case a0 => k_is)
    (case l0 => k_is)
    (case c0 => k_is)
    (case k0 => k_is)
    (case a1 => k_is)
    (case l1 => k_is)
    (case c1 => k_is)
    (case k1 => k_is)
    (case a2 => k_is)
    (case l2 => k_is)
    (case c2 => k_is)
    (case k2 => k_is)
    (case a3 => k_is)
    (case l3 => k_is)
    (case c3 => k_is)
    (case k3 => k_is)
    (case a4 => k_is)
    (case l4 => k_is)
    (case c4 => k_is)
    (case k4 => k_is)
    (case a5 => k_is)
    (case l5 => k_is)
    (case c5 => k_is)
    (case k5 => k_is)
    (case a6 => k_is)
    (case l6 => k_is)
    (case c6 => k_is)
    (case k6 => k_is)
    (case a7 => k_is)
    (case l7 => k_is)
    (case c7 => k_is)
    (case k7 => k_is)
    (case a8 => k_is)
    (case l8 => k_is)
    (case c8 => k_is)
    (case k8 => k_is)
    (case a9 => k_is)
    (case l9 => k_is)
    (case c9 => k_is)
    (case k9 => k_is)
    (case a10 => k_is)
    (case l10 => k_is)
    (case c10 => k_is)
    (case k10 => k_is)
    (case a11 => k_is)
    (case l11 => k_is)
    (case c11 => k_is)
    (case k11 => k_is)
    (case a12 => k_is)
    (case l12 => k_is)
    (case c12 => k_is)
    (case k12 => k_is)
    (case a13 => k_is)
    (case l13 => k_is)
    (case c13 => k_is)
    (case k13 => k_is)
    (case a14 => k_is)
    (case l14 => k_is)
    (case c14 => k_is)
    (case k14 => k_is)
    (case a15 => k_is)
    (case l15 => k_is)
    (case c15 => k_is)
    (case k15 => k_is)
    (case a16 => k_is)
    (case l16 => k_is)
    (case c16 => k_is)
    (case k16 => k_is)
    (case a17 => k_is)
    (case l17 => k_is)
    (case c17 => k_is)
    (case k17 => k_is)
    (case a18 => k_is)
    (case l18 => k_is)
    (case c18 => k_is)
    (case k18 => k_is)
    (case a19 => k_is)
    (case l19 => k_is)
    (case c19 => k_is)
    (case k19 => k_is)
    (case a20 => k_is)
    (case l20 => k_is)
    (case c20 => k_is)
    (case k20 => k_is)
    (case zc_MOST => k_is)
    (case z_enumerate => k_is)
    (case z_int => k_is)
    (case z_isinstance => k_is)
    (case z_len => k_is)
    (case z_list => k_is)
    (case z_max => k_is)
    (case z_min => k_is)
    (case z_range => k_is)
    (case z_sorted => k_is)
    (case z_tuple => k_is)
    (case e_NoCount => k_is)
    (case x_NoCount => k_exc)
    (case kx_NoCount => k_is)
    (case bx_NoCount => k_is)
    (case ty_NoCount => k_is)
    (case e_NoLetters => k_is)
    (case x_NoLetters => k_exc)
    (case kx_NoLetters => k_is)
    (case bx_NoLetters => k_is)
    (case ty_NoLetters => k_is)
    (case e_NoPile => k_is)
    (case x_NoPile => k_exc)
    (case kx_NoPile => k_is)
    (case bx_NoPile => k_is)
    (case ty_NoPile => k_is)
