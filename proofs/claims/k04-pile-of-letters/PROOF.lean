import PyProof.Rows.All
import Wide.All
import OpenK.AllK
import Wide.FinOn
import HandS.ForMost
import HandS.ForExc
import HandS.Evl
import HandS.Steps
import HandS.Walk
import HandS.IsInst
import HandS.SortInts
import HandS.Defaults
import KE.KEqSeq
import HandS.More
import HandS.Iter
import PyProof.Draws
import PySem.Challenge.RW_stripfold_k04_pile_of_letters
set_option Elab.async false
set_option linter.all false
set_option maxRecDepth 100000
set_option maxHeartbeats 4000000
/-! FoldA -/
namespace Fo
open PySem L2 Evl

/-! ### a block of statements, at every later heap -/
def Go (ts : TS) (D : Ends) (σ : L2.St) (H : Hp) : Prop := ∀ H1, Ex H H1 → ts D σ H1
section
variable {K : PySem.W.Frag} {σ : L2.St} {H H' : Hp} {ta tb tc te tx : TE} {t u : TT} {x y z v : V} {D : Ends} {tu tw tz : TS} {g : TG} {i : Nat}
theorem Go.here (h : Go tz D σ H) : tz D σ H := h H (Ex.refl H)
theorem Go.mono (e : Ex H H') (h : Go tz D σ H) : Go tz D σ H' := fun H1 a => h H1 (e.trans a)
theorem Go.of_seq (h : Go tu { D with nx := tz D } σ H) : Go (tSeq tu tz) D σ H := h
theorem g_next (h : ∀ H1, Ex H H1 → D.nx σ H1) : Go tNext D σ H := h
theorem g_nextS {d : Ends} (h : Go tz d σ H) : Go tNext { D with nx := tz d } σ H := h
theorem g_asg (h : Ev te σ H v) (k : Go tz D (σ.set i (some v)) H) : Go (tSeq (tAsg te (gName i)) tz) D σ H := fun H1 e => q_asg (h.mono e) fun H2 e2 => k H2 (e.trans e2)
theorem g_asgL {xs : List V} (h : EvL te σ H xs) (k : ∀ p H1, H p = none → Ex H H1 → H1 p = some (.lst xs) → Go tz D (σ.set i (some (.ref p))) H1) : Go (tSeq (tAsg te (gName i)) tz) D σ H := fun H1 e =>
  q_asgL (h.mono e) fun p H2 hp e2 h2 => (k p H2 (fresh_back e hp) (e.trans e2) h2).here
theorem g_asgU {xs : List V} (h : EvU te σ H xs) (k : ∀ p H1, H p = none → Ex H H1 → H1 p = some (.tup xs) → Go tz D (σ.set i (some (.ref p))) H1) : Go (tSeq (tAsg te (gName i)) tz) D σ H := fun H1 e =>
  h H1 e _ fun p H2 hp e2 h2 => (k p H2 (fresh_back e hp) (e.trans e2) h2).here
theorem g_if {b : Bool} (h : EvT t σ H b) (h1 : b = true → Go tu { D with nx := tz D } σ H) (h2 : b = false → Go tw { D with nx := tz D } σ H) : Go (tSeq (tIfS t tu tw) tz) D σ H := fun H1 e =>
  q_if (h.mono e) (fun hb H2 e2 => h1 hb H2 (e.trans e2)) (fun hb H2 e2 => h2 hb H2 (e.trans e2))
theorem g_when {b : Bool} (h : EvT t σ H b) (h1 : b = true → Go tu { D with nx := tz D } σ H) (h2 : b = false → Go tz D σ H) : Go (tSeq (tIfS t tu tNext) tz) D σ H := g_if h h1 h2
/-- a test that is known -/
theorem g_yes (h : EvT t σ H true) (h1 : Go tu { D with nx := tz D } σ H) : Go (tSeq (tIfS t tu tw) tz) D σ H := g_if h (fun _ => h1) (fun e => Bool.noConfusion e)
theorem g_no (h : EvT t σ H false) (h2 : Go tw { D with nx := tz D } σ H) : Go (tSeq (tIfS t tu tw) tz) D σ H := g_if h (fun e => Bool.noConfusion e) (fun _ => h2)
theorem g_ret (h : Ev te σ H v) (k : ∀ H1, Ex H H1 → D.rt v H1) : Go (tSeq (tRet te) tz) D σ H := fun H1 e => s_ret (D := { D with nx := tz D }) (h.mono e) fun H2 e2 => k H2 (e.trans e2)
theorem g_retL {xs : List V} (h : EvL te σ H xs) (k : ∀ p H1, H p = none → Ex H H1 → H1 p = some (.lst xs) → D.rt (.ref p) H1) : Go (tSeq (tRet te) tz) D σ H := fun H1 e =>
  s_retL (D := { D with nx := tz D }) (h.mono e) fun p H2 hp e2 h2 => k p H2 (fresh_back e hp) (e.trans e2) h2
theorem g_retU {xs : List V} (h : EvU te σ H xs) (k : ∀ p H1, H p = none → Ex H H1 → H1 p = some (.tup xs) → D.rt (.ref p) H1) : Go (tSeq (tRet te) tz) D σ H := fun H1 e =>
  s_retU (D := { D with nx := tz D }) (fun H2 a Q q => h H2 (e.trans a) Q q) fun p H2 hp e2 h2 => k p H2 (fresh_back e hp) (e.trans e2) h2
theorem g_raise {E : XK} {c : Value} (k : ∀ H1, Ex H H1 → E c none H1) : Go (tSeq (tRaise E c) tz) D σ H := fun H1 e => k H1 e
theorem g_drop (h : Ev te σ H v) (k : Go tz D σ H) : Go (tSeq (tDrop te) tz) D σ H := fun H1 e => q_drop (h.mono e) fun H2 e2 => k H2 (e.trans e2)
theorem g_cutM (M : L2.St → Hp → Prop) (h : Go tu { D with nx := M } σ H) (k : ∀ σ' H', M σ' H' → Go tz D σ' H') : Go (tCut tu tz) D σ H := fun H1 e => ⟨M, h H1 e, fun σ' H' m => (k σ' H' m).here⟩
theorem g_cutS (M : L2.St → Hp → Prop) (h : Go (tSeq tu tNext) { D with nx := M } σ H) (k : ∀ σ' H', M σ' H' → Go tz D σ' H') : Go (tCut tu tz) D σ H := fun H1 e => ⟨M, h H1 e, fun σ' H' m => (k σ' H' m).here⟩
theorem g_ifC {b : Bool} (h : EvT t σ H b) (h1 : b = true → Go tu D σ H) (h2 : b = false → Go tw D σ H) : Go (tIfS t tu tw) D σ H := fun H1 e =>
  s_if (h.mono e) (fun hb H2 e2 => h1 hb H2 (e.trans e2)) (fun hb H2 e2 => h2 hb H2 (e.trans e2))
/-- a word between: what stands behind is shown once -/
theorem g_cut (M : L2.St → Hp → Prop) (h : Go tu { D with nx := M } σ H) (k : ∀ σ' H', M σ' H' → tz D σ' H') (mono : ∀ σ H, tu { D with nx := M } σ H → tu { D with nx := tz D } σ H) : Go (tSeq tu tz) D σ H := fun H1 e => mono σ H1 (h H1 e)
end

/-! ### values -/
section
variable {K : PySem.W.Frag} {σ : L2.St} {H H' : Hp} {ta tb tc te tx : TE} {t u : TT} {x y z v : V} {i j : Int}
/-- the i-th of a list of ints -/
def gi (ns : List Int) (i : Int) : Int := ns.getD i.toNat 0
theorem atI_get {α : Type} {xs : List α} {i : Int} {v : α} (h0 : 0 ≤ i) (h : xs[i.toNat]? = some v) : atI xs i = some v := by
  have e : i = ((i.toNat : Nat) : Int) := by omega
  rw [e]
  exact atI_nat h
theorem gi_at {ns : List Int} {i : Int} (h0 : 0 ≤ i) (h1 : i < (ns.length : Int)) : atI (ns.map V.int) i = some (.int (gi ns i)) := by
  refine atI_get h0 ?_
  have h2 : i.toNat < ns.length := by omega
  rw [List.getElem?_map, List.getElem?_eq_getElem h2]
  show some (V.int _) = some (V.int (ns.getD i.toNat 0))
  rw [List.getD_eq_getElem?_getD, List.getElem?_eq_getElem h2]
  rfl
theorem gi_of {ns : List Int} {k : Nat} {z : Int} (h : ns[k]? = some z) : gi ns (k : Int) = z := by
  show ns.getD (k : Int).toNat 0 = z
  rw [List.getD_eq_getElem?_getD, show (k : Int).toNat = k from rfl, h]
  rfl
theorem sq_lst {a : Addr} {xs : List V} (h : H a = some (.lst xs)) : SqL K H a xs := sq_of h
theorem ev_ixL {p : Addr} {xs : List V} (ha : Ev ta σ H (.ref p)) (hb : Ev tb σ H (.int i)) (hs : SqL K H p xs) (h : atI xs i = some v) : Ev (tOp (rIxL K) ta tb) σ H v := ev_op ha hb (rv_ixL hs h)
theorem ev_ixI {p : Addr} {ns : List Int} (ha : Ev ta σ H (.ref p)) (hb : Ev tb σ H (.int i)) (hs : SqL K H p (ns.map V.int)) (h0 : 0 ≤ i) (h1 : i < (ns.length : Int)) : Ev (tOp (rIxL K) ta tb) σ H (.int (gi ns i)) := ev_op ha hb (rv_ixL hs (gi_at h0 h1))
theorem ev_ixT {p : Addr} {xs : List V} (ha : Ev ta σ H (.ref p)) (hb : Ev tb σ H (.int i)) (hs : SqT K H p xs) (h : atI xs i = some v) : Ev (tOp (rIxT K) ta tb) σ H v := ev_op ha hb (rv_ixT hs h)
/-- an item of a list made on the way -/
theorem ev_ixNew {xs : List V} (ha : EvL ta σ H xs) (hb : Ev tb σ H (.int i)) (h : atI xs i = some v) : Ev (tOp (rIxL K) ta tb) σ H v := ev_opL1 ha (fun H1 e => hb.mono e) fun p H1 hp _ => rv_ixL (sq_of hp) h
theorem ev_add (ha : Ev ta σ H (.int i)) (hb : Ev tb σ H (.int j)) : Ev (tOp (rI0 fun i j => .int (i + j)) ta tb) σ H (.int (i + j)) := ev_op ha hb (rv_I0 (g := fun i j => V.int (i + j)))
theorem ev_sub (ha : Ev ta σ H (.int i)) (hb : Ev tb σ H (.int j)) : Ev (tOp (rI0 fun i j => .int (i - j)) ta tb) σ H (.int (i - j)) := ev_op ha hb (rv_I0 (g := fun i j => V.int (i - j)))
theorem ev_mul (ha : Ev ta σ H (.int i)) (hb : Ev tb σ H (.int j)) (hc : CMul i j) : Ev (tOp (rI CMul fun i j => .int (i * j)) ta tb) σ H (.int (i * j)) := ev_op ha hb (rv_I (g := fun i j => V.int (i * j)) hc)
theorem ev_mod (ha : Ev ta σ H (.int i)) (hb : Ev tb σ H (.int j)) (hc : 0 < j) : Ev (tOp (rI (fun _ j => 0 < j) fun i j => .int (i % j)) ta tb) σ H (.int (i % j)) := ev_op ha hb (rv_I (C := fun _ j => 0 < j) (g := fun i j => V.int (i % j)) hc)
theorem ev_div (ha : Ev ta σ H (.int i)) (hb : Ev tb σ H (.int j)) (hc : CDiv i j) : Ev (tOp (rI CDiv fun i j => .int (i / j)) ta tb) σ H (.int (i / j)) := ev_op ha hb (rv_I (g := fun i j => V.int (i / j)) hc)
theorem ev_pow (ha : Ev ta σ H (.int i)) (hb : Ev tb σ H (.int j)) (hc : CPow i j) : Ev (tOp (rI CPow fun i j => .int (i ^ j.toNat)) ta tb) σ H (.int (i ^ j.toNat)) := ev_op ha hb (rv_I (g := fun i j => V.int (i ^ j.toNat)) hc)
theorem ev_neg (ha : Ev ta σ H (.int i)) : Ev (tUn (rU fun i => .int (-i)) ta) σ H (.int (-i)) := ev_un ha ru_neg
theorem ev_lt (ha : Ev ta σ H (.int i)) (hb : Ev tb σ H (.int j)) : Ev (tOp (rI0 fun i j => .bl (decide (i < j))) ta tb) σ H (.bl (decide (i < j))) := ev_op ha hb (rv_I0 (g := fun i j => V.bl (decide (i < j))))
theorem ev_le (ha : Ev ta σ H (.int i)) (hb : Ev tb σ H (.int j)) : Ev (tOp (rI0 fun i j => .bl (decide (i ≤ j))) ta tb) σ H (.bl (decide (i ≤ j))) := ev_op ha hb (rv_I0 (g := fun i j => V.bl (decide (i ≤ j))))
theorem ev_gt (ha : Ev ta σ H (.int i)) (hb : Ev tb σ H (.int j)) : Ev (tOp (rI0 fun i j => .bl (decide (j < i))) ta tb) σ H (.bl (decide (j < i))) := ev_op ha hb (rv_I0 (g := fun i j => V.bl (decide (j < i))))
theorem ev_ge (ha : Ev ta σ H (.int i)) (hb : Ev tb σ H (.int j)) : Ev (tOp (rI0 fun i j => .bl (decide (j ≤ i))) ta tb) σ H (.bl (decide (j ≤ i))) := ev_op ha hb (rv_I0 (g := fun i j => V.bl (decide (j ≤ i))))
theorem dI : decide (V.int i = V.int j) = decide (i = j) := by
  by_cases h : i = j
  · subst h; rw [decide_eq_true rfl, decide_eq_true rfl]
  · rw [decide_eq_false h, decide_eq_false (fun e => h (V.int.inj e))]
theorem dB {a b : Bool} : decide (V.bl a = V.bl b) = (a == b) := by cases a <;> cases b <;> decide
theorem dS {a b : Str} : decide (V.str a = V.str b) = decide (a = b) := by
  by_cases h : a = b
  · subst h; rw [decide_eq_true rfl, decide_eq_true rfl]
  · rw [decide_eq_false h, decide_eq_false (fun e => h (V.str.inj e))]
theorem ev_eqI (ha : Ev ta σ H (.int i)) (hb : Ev tb σ H (.int j)) : Ev (tOp rEq ta tb) σ H (.bl (decide (i = j))) := by
  rw [← dI]; exact ev_op ha hb (rv_eq rfl)
theorem ev_neI (ha : Ev ta σ H (.int i)) (hb : Ev tb σ H (.int j)) : Ev (tOp rNe ta tb) σ H (.bl (!decide (i = j))) := by
  rw [← dI]; exact ev_op ha hb (rv_ne rfl)
theorem ev_eqB {a b : Bool} (ha : Ev ta σ H (.bl a)) (hb : Ev tb σ H (.bl b)) : Ev (tOp rEq ta tb) σ H (.bl (a == b)) := by
  rw [← dB]; exact ev_op ha hb (rv_eq rfl)
theorem ev_neB {a b : Bool} (ha : Ev ta σ H (.bl a)) (hb : Ev tb σ H (.bl b)) : Ev (tOp rNe ta tb) σ H (.bl (!(a == b))) := by
  rw [← dB]; exact ev_op ha hb (rv_ne rfl)
theorem ev_eqS {a b : Str} (ha : Ev ta σ H (.str a)) (hb : Ev tb σ H (.str b)) : Ev (tOp rEq ta tb) σ H (.bl (decide (a = b))) := by
  rw [← dS]; exact ev_op ha hb (rv_eq rfl)
theorem ev_neS {a b : Str} (ha : Ev ta σ H (.str a)) (hb : Ev tb σ H (.str b)) : Ev (tOp rNe ta tb) σ H (.bl (!decide (a = b))) := by
  rw [← dS]; exact ev_op ha hb (rv_ne rfl)
theorem rv_isN : RV rIsN x .non H (.bl (decide (x = .non))) := fun H1 _ _ q => ⟨rfl, q H1 (Ex.refl H1)⟩
theorem rv_notN : RV rNotN x .non H (.bl (!decide (x = .non))) := fun H1 _ _ q => ⟨rfl, q H1 (Ex.refl H1)⟩
theorem ev_isN (ha : Ev ta σ H x) : Ev (tOp rIsN ta (tC .non)) σ H (.bl (decide (x = .non))) := ev_op ha ev_c rv_isN
theorem ev_notN (ha : Ev ta σ H x) : Ev (tOp rNotN ta (tC .non)) σ H (.bl (!decide (x = .non))) := ev_op ha ev_c rv_notN
/-- a if t else b -/
theorem ev_ifV {b : Bool} {va vb : V} (h : EvT t σ H b) (h1 : b = true → Ev ta σ H va) (h2 : b = false → Ev tb σ H vb) : Ev (tIf t ta tb) σ H (if b = true then va else vb) := by
  cases b with
  | true => exact ev_if h (fun _ => h1 rfl) (fun e => Bool.noConfusion e)
  | false => exact ev_if h (fun e => Bool.noConfusion e) (fun _ => h2 rfl)
theorem ev_ifI {b : Bool} (h : EvT t σ H b) (h1 : b = true → Ev ta σ H (.int i)) (h2 : b = false → Ev tb σ H (.int j)) : Ev (tIf t ta tb) σ H (.int (if b = true then i else j)) := by
  cases b with
  | true => exact ev_if h (fun _ => h1 rfl) (fun e => Bool.noConfusion e)
  | false => exact ev_if h (fun e => Bool.noConfusion e) (fun _ => h2 rfl)
theorem ev_ifS {b : Bool} {p q : Str} (h : EvT t σ H b) (h1 : b = true → Ev ta σ H (.str p)) (h2 : b = false → Ev tb σ H (.str q)) : Ev (tIf t ta tb) σ H (.str (if b = true then p else q)) := by
  cases b with
  | true => exact ev_if h (fun _ => h1 rfl) (fun e => Bool.noConfusion e)
  | false => exact ev_if h (fun e => Bool.noConfusion e) (fun _ => h2 rfl)
/-- lists and slices -/
theorem el_mono {xs : List V} (e : Ex H H') (h : EvL te σ H xs) : EvL te σ H' xs := EvL.mono e h
theorem el_cat {xs ys : List V} (ha : EvL ta σ H xs) (hb : EvL tb σ H ys) (hz : xs.length + ys.length ≤ 100000) : EvL (tOp rCat ta tb) σ H (xs ++ ys) := fun H1 e Q q =>
  ha H1 e _ fun p H2 hp e2 h2 => hb H2 (e.trans e2) _ fun r H3 hr e3 h3 => ⟨p, r, xs, ys, rfl, rfl, e3 p _ h2, h3, sz_of hz, fun l hl => q l _ (fresh_back (e2.trans e3) hl) ((e2.trans e3).trans (Ex.new hl)) upd_same⟩
/-- the left one stands already -/
theorem el_catV {p : Addr} {xs ys : List V} (ha : Ev ta σ H (.ref p)) (hp : H p = some (.lst xs)) (hb : EvL tb σ H ys) (hz : xs.length + ys.length ≤ 100000) : EvL (tOp rCat ta tb) σ H (xs ++ ys) := fun H1 e Q q =>
  ha H1 e _ fun H2 e2 => hb H2 (e.trans e2) _ fun r H3 hr e3 h3 => ⟨p, r, xs, ys, rfl, rfl, ((e.trans e2).trans e3) p _ hp, h3, sz_of hz, fun l hl => q l _ (fresh_back (e2.trans e3) hl) ((e2.trans e3).trans (Ex.new hl)) upd_same⟩
theorem el_catW {p : Addr} {xs ys : List V} (ha : EvL ta σ H xs) (hb : Ev tb σ H (.ref p)) (hp : H p = some (.lst ys)) (hz : xs.length + ys.length ≤ 100000) : EvL (tOp rCat ta tb) σ H (xs ++ ys) := fun H1 e Q q =>
  ha H1 e _ fun r H2 hr e2 h2 => hb H2 (e.trans e2) _ fun H3 e3 => ⟨r, p, xs, ys, rfl, rfl, e3 r _ h2, ((e.trans e2).trans e3) p _ hp, sz_of hz, fun l hl => q l _ (fresh_back (e2.trans e3) hl) ((e2.trans e3).trans (Ex.new hl)) upd_same⟩
theorem el_catVV {p r : Addr} {xs ys : List V} (ha : Ev ta σ H (.ref p)) (hb : Ev tb σ H (.ref r)) (hp : H p = some (.lst xs)) (hr : H r = some (.lst ys)) (hz : xs.length + ys.length ≤ 100000) : EvL (tOp rCat ta tb) σ H (xs ++ ys) := fun H1 e Q q =>
  ha H1 e _ fun H2 e2 => hb H2 (e.trans e2) _ fun H3 e3 => ⟨p, r, xs, ys, rfl, rfl, ((e.trans e2).trans e3) p _ hp, ((e.trans e2).trans e3) r _ hr, sz_of hz, fun l hl => q l _ (fresh_back (e2.trans e3) hl) ((e2.trans e3).trans (Ex.new hl)) upd_same⟩
theorem el_rep {xs : List V} {k : Int} (ha : EvL ta σ H xs) (hb : Ev tb σ H (.int k)) (h0 : 0 ≤ k) (hk : k ≤ 100000) (hz : xs.length * k.toNat ≤ 100000) : EvL (tOp rRep ta tb) σ H (List.replicate k.toNat xs).flatten := fun H1 e Q q =>
  ha H1 e _ fun p H2 hp e2 h2 => hb H2 (e.trans e2) _ fun H3 e3 => ⟨p, k, xs, rfl, rfl, e3 p _ h2, by omega, by omega, sz_of hz, fun l hl => q l _ (fresh_back (e2.trans e3) hl) ((e2.trans e3).trans (Ex.new hl)) upd_same⟩
theorem flat_one {α : Type} (n : Nat) (x : α) : (List.replicate n [x]).flatten = List.replicate n x := by
  induction n with
  | zero => rfl
  | succ n ih =>
    rw [List.replicate_succ, List.flatten_cons, ih, List.replicate_succ]
    rfl
/-- [x] * k -/
theorem el_rep1 {k : Int} (ha : EvL ta σ H [x]) (hb : Ev tb σ H (.int k)) (h0 : 0 ≤ k) (hk : k ≤ 100000) : EvL (tOp rRep ta tb) σ H (List.replicate k.toNat x) := by
  have h := el_rep ha hb h0 hk (by show 1 * k.toNat ≤ 100000; omega)
  rw [flat_one] at h
  exact h
theorem cut_lo {xs : List V} {i : Int} (h0 : 0 ≤ i) (h1 : i ≤ (xs.length : Int)) : cutV xs (some i) none = xs.drop i.toNat := by
  obtain ⟨k, rfl⟩ : ∃ k : Nat, i = (k : Int) := ⟨i.toNat, by omega⟩
  unfold cutV
  rw [show HT.sIx xs.length 0 (some (k : Int)) = min k xs.length from HT.sIx_nat xs.length 0 k, HT.sIx_none]
  have e : min k xs.length = k := by omega
  rw [e, show ((k : Int)).toNat = k from rfl]
  exact List.take_of_length_le (by rw [List.length_drop]; exact Nat.le_refl _)
theorem cut_hi {xs : List V} {i : Int} (h0 : 0 ≤ i) (h1 : i ≤ (xs.length : Int)) : cutV xs none (some i) = xs.take i.toNat := by
  obtain ⟨k, rfl⟩ : ∃ k : Nat, i = (k : Int) := ⟨i.toNat, by omega⟩
  unfold cutV
  rw [show HT.sIx xs.length xs.length (some (k : Int)) = min k xs.length from HT.sIx_nat xs.length xs.length k, HT.sIx_none]
  have e : min k xs.length = k := by omega
  rw [e, show ((k : Int)).toNat = k from rfl, Nat.sub_zero]
  rfl
theorem el_from {p : Addr} {xs : List V} {tl : TO} (h : Ev te σ H (.ref p)) (h1 : EvO tl σ H (some i)) (hs : SqL K H p xs) (h0 : 0 ≤ i) (hl : i ≤ (xs.length : Int)) : EvL (tSl (rSlL K) te tl tNoPart) σ H (xs.drop i.toNat) := by
  rw [← cut_lo h0 hl]; exact el_sl h h1 eo_none hs
theorem el_upto {p : Addr} {xs : List V} {th : TO} (h : Ev te σ H (.ref p)) (h1 : EvO th σ H (some i)) (hs : SqL K H p xs) (h0 : 0 ≤ i) (hl : i ≤ (xs.length : Int)) : EvL (tSl (rSlL K) te tNoPart th) σ H (xs.take i.toNat) := by
  rw [← cut_hi h0 hl]; exact el_sl h eo_none h1 hs
/-- lengths -/
def rLenT : List V → Hp → VK → Prop := fun xs H Q => ∃ z, xs = [.str z] ∧ z.length ≤ sizeLine ∧ Q (.int z.length) H
theorem ev_lenS {z : Str} (ha : Ev ta σ H (.str z)) (hz : z.length ≤ 100000) : Ev (tCB rLenT (tCons ta tNil)) σ H (.int (z.length : Int)) := fun H1 e Q q => ha H1 e _ fun H2 e2 => ⟨z, rfl, sz_of hz, q H2 e2⟩
theorem ev_lenI {p : Addr} {ns : List Int} (ha : Ev ta σ H (.ref p)) (h : SqL K H p (ns.map V.int)) : Ev (tCB (rLenS K) (tCons ta tNil)) σ H (.int (ns.length : Int)) := by
  have q := ev_len ha h
  rw [List.length_map] at q
  exact q
theorem ev_lenT {p : Addr} {xs : List V} (ha : Ev ta σ H (.ref p)) (h : SqT K H p xs) : Ev (tCB (rLenS K) (tCons ta tNil)) σ H (.int (xs.length : Int)) := fun H1 e Q q =>
  ha H1 e _ fun H2 e2 => ⟨p, xs, rfl, Or.inr (ex_t (e.trans e2) h), q H2 e2⟩
/-- isinstance -/
theorem ev_isi {cn : String} {b : Bool} {tt : Value} (ha : Ev ta σ H x) (ty : ∀ H1, Ex H H1 → TyX K H1 x tt) (hk : PySem.W.kitOne K tt (.type cn) = some b) : Ev (tCB (rIsi K) (tCons ta (tCons (tC (.ty cn)) tNil))) σ H (.bl b) := fun H1 e Q q =>
  ha H1 e _ fun H2 e2 => ⟨x, .ty cn, tt, .type cn, b, rfl, ClsV.ty cn, ty H2 (e.trans e2), hk, q H2 e2⟩
/-- max, min of two, int of a bool, list(..), tuple(..) -/
def rMin2 : List V → Hp → VK → Prop := fun xs H Q => ∃ i j, xs = [.int i, .int j] ∧ Q (.int (if j < i then j else i)) H
theorem ev_min2 (ha : Ev ta σ H (.int i)) (hb : Ev tb σ H (.int j)) : Ev (tCB rMin2 (tCons ta (tCons tb tNil))) σ H (.int (if j < i then j else i)) := fun H1 e Q q =>
  ha H1 e _ fun H2 e2 => hb H2 (e.trans e2) _ fun H3 e3 => ⟨i, j, rfl, q H3 (e2.trans e3)⟩
def rInt1 : List V → Hp → VK → Prop := fun xs H Q => (∃ i, xs = [.int i] ∧ Q (.int i) H) ∨ ∃ k, xs = [.bl k] ∧ Q (.int (if k then 1 else 0)) H
theorem ev_intB {b : Bool} (ha : Ev ta σ H (.bl b)) : Ev (tCB rInt1 (tCons ta tNil)) σ H (.int (if b then 1 else 0)) := fun H1 e Q q => ha H1 e _ fun H2 e2 => .inr ⟨b, rfl, q H2 e2⟩
/-- sorted of a list made on the way -/
theorem el_sortedN {ns ms : List Int} (ha : EvL ta σ H (ns.map V.int)) (hm : ∀ ms', ms'.Perm ns → ms'.Pairwise (· ≤ ·) → ms' = ms) : EvL (tCB (rSortedI K) (tCons ta tNil)) σ H (ms.map V.int) := fun H1 e Q q =>
  ha H1 e _ fun p H2 hp e2 h2 => ⟨p, ns, rfl, sq_of h2, fun ms' l hP hO hl => by
    rw [hm ms' hP hO]
    exact q l _ (fresh_back e2 hl) (e2.trans (Ex.new hl)) upd_same⟩
theorem el_sortedL {p : Addr} {ns ms : List Int} (ha : Ev ta σ H (.ref p)) (hs : SqL K H p (ns.map V.int)) (hm : ∀ ms', ms'.Perm ns → ms'.Pairwise (· ≤ ·) → ms' = ms) : EvL (tCB (rSortedI K) (tCons ta tNil)) σ H (ms.map V.int) := fun H1 e Q q =>
  ha H1 e _ fun H2 e2 => ⟨p, ns, rfl, ex_l (e.trans e2) hs, fun ms' l hP hO hl => by
    rw [hm ms' hP hO]
    exact q l _ (fresh_back e2 hl) (e2.trans (Ex.new hl)) upd_same⟩
end

/-! ### promises -/
theorem spv {sp : Sp} {vs : List V} {H : Hp} {z : V} (h : ∀ H1, Ex H H1 → ∀ Q : VK, (∀ H2, Ex H1 H2 → Q z H2) → ∀ E : XK, sp vs H1 Q E) : SpV sp vs H z := h
theorem ev_callD {sp : Sp} {vs : List V} {E : XK} {ta : TA} {σ : L2.St} {H : Hp} {z : V} (h : EvA ta σ H vs) (hs : SpV sp vs H z) : Ev (tCall sp [] E ta) σ H z := ev_call h (by rw [List.append_nil]; exact hs)
theorem el_callD {sp : Sp} {vs xs : List V} {E : XK} {ta : TA} {σ : L2.St} {H : Hp} (h : EvA ta σ H vs) (hs : SpL sp vs H xs) : EvL (tCall sp [] E ta) σ H xs := el_call h (by rw [List.append_nil]; exact hs)
/-- a new list that keeps a word -/
def EvLP (te : TE) (σ : L2.St) (H : Hp) (P : List V → Prop) : Prop := ∀ H1, Ex H H1 → ∀ Q : VK, (∀ xs p H2, P xs → H1 p = none → Ex H1 H2 → H2 p = some (.lst xs) → Q (.ref p) H2) → te σ H1 Q
def SpLP (sp : Sp) (vs : List V) (H : Hp) (P : List V → Prop) : Prop := ∀ H1, Ex H H1 → ∀ Q : VK, (∀ xs p H2, P xs → H1 p = none → Ex H1 H2 → H2 p = some (.lst xs) → Q (.ref p) H2) → ∀ E : XK, sp vs H1 Q E
theorem elp_call {sp : Sp} {vs : List V} {E : XK} {ta : TA} {σ : L2.St} {H : Hp} {P : List V → Prop} (h : EvA ta σ H vs) (hs : SpLP sp vs H P) : EvLP (tCall sp [] E ta) σ H P := fun H1 e Q q =>
  h H1 e _ fun H2 e2 => by
    rw [List.append_nil]
    exact hs H2 (e.trans e2) Q (fun xs p H3 hP hp e3 h3 => q xs p H3 hP (fresh_back e2 hp) (e2.trans e3) h3) E
theorem EvLP.mono {te : TE} {σ : L2.St} {H H' : Hp} {P : List V → Prop} (e : Ex H H') (h : EvLP te σ H P) : EvLP te σ H' P := fun H1 a Q q => h H1 (e.trans a) Q q
theorem g_asgP {te : TE} {σ : L2.St} {H : Hp} {P : List V → Prop} {i : Nat} {D : Ends} {tz : TS} (h : EvLP te σ H P) (k : ∀ xs p H1, P xs → H p = none → Ex H H1 → H1 p = some (.lst xs) → Go tz D (σ.set i (some (.ref p))) H1) :
    Go (tSeq (tAsg te (gName i)) tz) D σ H := fun H1 e => h H1 e _ fun xs p H2 hP hp e2 h2 => (k xs p H2 hP (fresh_back e hp) (e.trans e2) h2).here
/-- the promise's shape: a list that keeps a word -/
def RetP (P : List V → Prop) (H : Hp) (Q : VK) : Prop := ∀ xs p H2, P xs → H p = none → Ex H H2 → H2 p = some (.lst xs) → Q (.ref p) H2

/-! ### loops -/
section
variable {K : PySem.W.Frag} {σ : L2.St} {H : Hp} {te tl : TE} {ta : TA} {D : Ends} {tu tz : TS} {g : TG}
/-- for j in range(n): the word Pv of the turn, the slots, the heap -/
theorem g_forR1 {j : Nat} {n : Int} (h : EvA ta σ H [.int n]) (hn : n ≤ 100000) (Pv : Nat → L2.St → Hp → Prop) (h0 : ∀ H1, Ex H H1 → Pv 0 σ H1)
    (hs : ∀ (i : Nat) σ' H', (i : Int) < n → Pv i σ' H' → Go tu { D with nx := Pv (i + 1), ct := Pv (i + 1), bk := tz D } (σ'.set j (some (.int (i : Int)))) H') (hd : ∀ σ' H', Pv n.toNat σ' H' → Go tz D σ' H') (hlo : -100000 ≤ n) : Go (tSeq (tFor (iRng1 ta) (gName j) tu) tz) D σ H := fun H0 e0 =>
  h H0 e0 _ fun H1 e => ⟨n, rfl, by omega, by omega, for_range (lo := 0) (n := n.toNat) Pv (h0 H1 (e0.trans e)) (fun i σ' H' hi p => by
    have e0 : (0 : Int) + (i : Int) = (i : Int) := Int.zero_add _
    show tu { D with nx := Pv (i + 1), ct := Pv (i + 1), bk := tz D } (σ'.set j (some (.int ((0 : Int) + (i : Int))))) H'
    rw [e0]
    exact (hs i σ' H' (by omega) p).here) (fun σ' H' p => (hd σ' H' p).here)⟩
theorem g_forR2 {j : Nat} {lo n : Int} (h : EvA ta σ H [.int lo, .int n]) (hn : -100000 ≤ lo ∧ lo ≤ 100000 ∧ -100000 ≤ n ∧ n ≤ 100000) (Pv : Nat → L2.St → Hp → Prop) (h0 : ∀ H1, Ex H H1 → Pv 0 σ H1)
    (hs : ∀ (i : Nat) σ' H', lo + (i : Int) < n → Pv i σ' H' → Go tu { D with nx := Pv (i + 1), ct := Pv (i + 1), bk := tz D } (σ'.set j (some (.int (lo + (i : Int))))) H') (hd : ∀ σ' H', Pv (n - lo).toNat σ' H' → Go tz D σ' H') : Go (tSeq (tFor (iRng2 ta) (gName j) tu) tz) D σ H := fun H0 e0 =>
  h H0 e0 _ fun H1 e => ⟨lo, n, rfl, ⟨by omega, by omega, by omega, by omega⟩, for_range (lo := lo) (n := (n - lo).toNat) Pv (h0 H1 (e0.trans e)) (fun i σ' H' hi p => (hs i σ' H' (by omega) p).here) (fun σ' H' p => (hd σ' H' p).here)⟩
theorem rangeSize_two {a b : Int} : Builtin.Range.rangeSize a b 2 = (((b - a + 1) / 2).toNat : Nat) := by
  unfold Builtin.Range.rangeSize
  split <;> split <;> omega
theorem small_two {a b : Int} (ha : -100000 ≤ a) (ha' : a ≤ 100000) (hb : -100000 ≤ b) (hb' : b ≤ 100000) : Builtin.Range.small a b 2 = true := by
  unfold Builtin.Range.small
  rw [rangeSize_two]
  simp only [Builtin.Range.rangeFitsLong, Bool.and_eq_true, Bool.or_eq_true, decide_eq_true_eq, beq_iff_eq, show (2 : Int) > 0 by decide, if_true]
  omega
/-- for j in range(lo, n, 2) -/
theorem g_forR3 {j : Nat} {lo n : Int} (h : EvA ta σ H [.int lo, .int n, .int 2]) (hn : -100000 ≤ lo ∧ lo ≤ 100000 ∧ -100000 ≤ n ∧ n ≤ 100000) (Pv : Nat → L2.St → Hp → Prop) (h0 : ∀ H1, Ex H H1 → Pv 0 σ H1)
    (hs : ∀ (i : Nat) σ' H', lo + (i : Int) * 2 < n → Pv i σ' H' → Go tu { D with nx := Pv (i + 1), ct := Pv (i + 1), bk := tz D } (σ'.set j (some (.int (lo + (i : Int) * 2)))) H') (hd : ∀ σ' H', Pv ((n - lo + 1) / 2).toNat σ' H' → Go tz D σ' H') : Go (tSeq (tFor (iRng3 ta) (gName j) tu) tz) D σ H := fun H0 e0 =>
  h H0 e0 _ fun H1 e => ⟨lo, n, 2, ((n - lo + 1) / 2).toNat, rfl, ⟨by decide, by decide, small_two hn.1 hn.2.1 hn.2.2.1 hn.2.2.2, rangeSize_two⟩, for_rangeC (lo := lo) (c := 2) (n := ((n - lo + 1) / 2).toNat) Pv (h0 H1 (e0.trans e)) (fun i σ' H' hi p => (hs i σ' H' (by omega) p).here) (fun σ' H' p => (hd σ' H' p).here)⟩
/-- for over a list that stands -/
theorem g_forL {j : Nat} {a : Addr} {xs : List V} (h : Ev tl σ H (.ref a)) (hx : SqL K H a xs) (Pv : Nat → L2.St → Hp → Prop) (h0 : ∀ H1, Ex H H1 → Pv 0 σ H1) (hl : ∀ i σ' H', i ≤ xs.length → Pv i σ' H' → SqL K H' a xs)
    (hs : ∀ (i : Nat) x σ' H', xs[i]? = some x → Pv i σ' H' → Go tu { D with nx := Pv (i + 1), ct := Pv (i + 1), bk := tz D } (σ'.set j (some x)) H') (hd : ∀ σ' H', Pv xs.length σ' H' → Go tz D σ' H') : Go (tSeq (tFor (iList K tl) (gName j) tu) tz) D σ H := fun H0 e0 =>
  h H0 e0 _ fun H1 e => ⟨a, rfl, ⟨xs, ex_l (e0.trans e) hx⟩, for_list Pv (h0 H1 (e0.trans e)) hl (fun i x σ' H' hi p => (hs i x σ' H' hi p).here) (fun σ' H' p => (hd σ' H' p).here)⟩
/-- for over a list made in the head -/
theorem g_forN {j : Nat} {xs : List V} (h : EvL tl σ H xs) (Pv : Addr → Nat → L2.St → Hp → Prop) (h0 : ∀ p H1, H p = none → Ex H H1 → H1 p = some (.lst xs) → Pv p 0 σ H1) (hl : ∀ p i σ' H', i ≤ xs.length → Pv p i σ' H' → SqL K H' p xs)
    (hs : ∀ p (i : Nat) x σ' H', xs[i]? = some x → Pv p i σ' H' → Go tu { D with nx := Pv p (i + 1), ct := Pv p (i + 1), bk := tz D } (σ'.set j (some x)) H') (hd : ∀ p σ' H', Pv p xs.length σ' H' → Go tz D σ' H') : Go (tSeq (tFor (iList K tl) (gName j) tu) tz) D σ H := fun H0 e0 =>
  h H0 e0 _ fun p H1 hp e h1 => ⟨p, rfl, ⟨xs, sq_of h1⟩, for_list (Pv p) (h0 p H1 (fresh_back e0 hp) (e0.trans e) h1) (hl p) (fun i x σ' H' hi pv => (hs p i x σ' H' hi pv).here) (fun σ' H' pv => (hd p σ' H' pv).here)⟩
/-- for i, x in enumerate(list) -/
theorem g_forE {j k : Nat} {a : Addr} {xs : List V} (h : EvA ta σ H [.ref a]) (hx : SqL K H a xs) (Pv : Nat → L2.St → Hp → Prop) (h0 : ∀ H1, Ex H H1 → Pv 0 σ H1) (hl : ∀ i σ' H', i ≤ xs.length → Pv i σ' H' → SqL K H' a xs)
    (hs : ∀ (i : Nat) x T σ' H', xs[i]? = some x → Pv i σ' H' → H' T = none → Go tu { D with nx := Pv (i + 1), ct := Pv (i + 1), bk := tz D } ((σ'.set j (some (.int (i : Int)))).set k (some x)) (upd H' T (.tup [.int (i : Int), x]))) (hd : ∀ σ' H', Pv xs.length σ' H' → Go tz D σ' H') :
    Go (tSeq (tFor (iEnum K ta) (gTup K 2 (gCons (gName j) (gCons (gName k) gNil))) tu) tz) D σ H := fun H0 e0 =>
  h H0 e0 _ fun H1 e => ⟨a, xs, rfl, ex_l (e0.trans e) hx, for_it walk_enum Pv (h0 H1 (e0.trans e)) hl (fun i x σ' H' H'' hi p y => by
    obtain ⟨T, u, w, rfl, hT, rfl, h4, h5⟩ := y
    cases h4
    exact ⟨T, [.int (i : Int), w], rfl, .inl (.inl upd_same), rfl, .int (i : Int), [w], rfl, w, [], rfl, rfl, (hs i w T σ' H' h5 p hT).here⟩) (fun σ' H' p => (hd σ' H' p).here)⟩
end

/-! ### writing a list of one's own -/
section
variable {K : PySem.W.Frag} {σ : L2.St} {H : Hp} {ta tb te : TE} {D : Ends} {tz : TS} {v : V}
theorem g_setL {l : Addr} {xs : List V} {j : Int} (hl : H l = some (.lst xs)) (h : Ev te σ H v) (ho : Ev ta σ H (.ref l)) (hi : Ev tb σ H (.int j)) (h0 : 0 ≤ j) (hj : j < (xs.length : Int)) (k : ∀ H1, Ex H H1 → tz D σ (upd H1 l (.lst (xs.set j.toNat v)))) :
    Go (tSeq (tAsg te (gSub ta tb rSetL)) tz) D σ H := fun H1 e1 => by
  have e : j = (j.toNat : Int) := by omega
  rw [e] at hi
  exact q_setL (e1 l _ hl) (h.mono e1) (ho.mono e1) (hi.mono e1) (by omega) fun H2 e2 => k H2 (e1.trans e2)
theorem g_app {l : Addr} {xs : List V} (hl : H l = some (.lst xs)) (ha : Ev ta σ H (.ref l)) (h : Ev te σ H v) (hz : xs.length < 100000) (k : ∀ H1, Ex H H1 → tz D σ (upd H1 l (.lst (xs ++ [v])))) :
    Go (tSeq (tDrop (tBM K "list" rAppend ta (tCons te tNil))) tz) D σ H := fun H1 e1 => q_app (e1 l _ hl) (ha.mono e1) (h.mono e1) hz fun H2 e2 => k H2 (e1.trans e2)
theorem g_appL {l : Addr} {xs ys : List V} (hl : H l = some (.lst xs)) (ha : Ev ta σ H (.ref l)) (h : EvL te σ H ys) (hz : xs.length < 100000) (k : ∀ p H1, H p = none → Ex H H1 → H1 p = some (.lst ys) → tz D σ (upd H1 l (.lst (xs ++ [.ref p])))) :
    Go (tSeq (tDrop (tBM K "list" rAppend ta (tCons te tNil))) tz) D σ H := fun H1 e1 => q_appL (e1 l _ hl) (ha.mono e1) (h.mono e1) hz fun p H2 hp e2 h2 => k p H2 (fresh_back e1 hp) (e1.trans e2) h2
end

/-! ### rules of one's own -/
open PyProof.Rows in
/-- an int is not True, is not False -/
def rNotIB : R2 := fun x y H Q => ∃ (i : Int) (b : Bool), x = .int i ∧ y = .bl b ∧ Q (.bl true) H
theorem op_notIB {X : Cx} : OpR X (compareOp .IsNot) rNotIB := by
  intro pins s σ H x y v u Q I rx ry h
  obtain ⟨i, b, rfl, rfl, q⟩ := h
  obtain ⟨t, rfl⟩ := (show ∃ t, v = Value.int i t from rx)
  obtain rfl := (show u = Value.bool b from ry)
  exact wpAny_isNot_other rfl (fun z => nomatch z) ⟨.bl true, H, I, rfl, q⟩
def rJoin (K : PySem.W.Frag) : V → List V → Hp → VK → Prop := fun x xs H Q => ∃ a p, ∃ ys : List Str, x = .str a ∧ xs = [.ref p] ∧ (SqL K H p (ys.map V.str) ∨ SqT K H p (ys.map V.str)) ∧
    (ys.map (·.length)).sum + ys.length * a.length ≤ 16777216 ∧ Q (.str (Txt.join a ys)) H
def rAbs : List V → Hp → VK → Prop := fun xs H Q => ∃ i, xs = [.int i] ∧ Q (.int (if i < 0 then -i else i)) H
def rTupS (K : PySem.W.Frag) : List V → Hp → VK → Prop := fun xs H Q => ∃ p ys, xs = [.ref p] ∧ ((SqL K H p ys ∧ ∀ l, H l = none → Q (.ref l) (upd H l (.tup ys))) ∨ (SqT K H p ys ∧ Q (.ref p) H))
def rCatS : R2 := fun x y H Q => ∃ i j, x = .str i ∧ y = .str j ∧ i.length + j.length ≤ sizeLine ∧ Q (.str (i ++ j)) H
section
variable {K : PySem.W.Frag} {σ : L2.St} {H H' : Hp} {ta tb te : TE} {i : Int} {b : Bool} {p : Addr}
theorem ev_notIB (ha : Ev ta σ H (.int i)) (hb : Ev tb σ H (.bl b)) : Ev (tOp rNotIB ta tb) σ H (.bl true) := ev_op ha hb fun H1 _ _ q => ⟨i, b, rfl, rfl, q H1 (Ex.refl H1)⟩
theorem dp_ints {K : PySem.W.Frag} {H : Hp} : ∀ ns : List Int, DpAll K H (ns.map V.int) (ns.map PyData.int)
  | [] => .nil
  | n :: r => .cons (.int n) (dp_ints r)
theorem eqv_ints : ∀ ns ms : List Int, PyData.eqvAll (ns.map PyData.int) (ms.map PyData.int) = decide (ns = ms)
  | [], [] => rfl
  | [], _ :: _ => rfl
  | _ :: _, [] => rfl
  | n :: r, m :: s => by
    show ((n == m) && PyData.eqvAll (r.map PyData.int) (s.map PyData.int)) = decide (n :: r = m :: s)
    rw [eqv_ints r s]
    by_cases h : n = m
    · subst h
      by_cases h2 : r = s
      · subst h2; simp
      · simp [h2]
    · simp [h]
/-- == of two lists of ints -/
theorem rv_eqL {a b : Addr} {ns ms : List Int} (h1 : SqL K H a (ns.map V.int)) (h2 : SqL K H b (ms.map V.int)) : RV (rEqD K) (.ref a) (.ref b) H (.bl (decide (ns = ms))) := fun H1 e _ q =>
  ⟨.list (ns.map PyData.int), .list (ms.map PyData.int), .lst (ex_l e h1) (dp_ints ns), .lst (ex_l e h2) (dp_ints ms), PySem.W.ke_shaped_ints ns, PySem.W.ke_shaped_ints ms, by
    rw [show PyData.eqv (.list (ns.map PyData.int)) (.list (ms.map PyData.int)) = decide (ns = ms) from eqv_ints ns ms]
    exact q H1 (Ex.refl H1)⟩
theorem rv_neL {a b : Addr} {ns ms : List Int} (h1 : SqL K H a (ns.map V.int)) (h2 : SqL K H b (ms.map V.int)) : RV (rNeD K) (.ref a) (.ref b) H (.bl (!decide (ns = ms))) := fun H1 e _ q =>
  ⟨.list (ns.map PyData.int), .list (ms.map PyData.int), .lst (ex_l e h1) (dp_ints ns), .lst (ex_l e h2) (dp_ints ms), PySem.W.ke_shaped_ints ns, PySem.W.ke_shaped_ints ms, by
    rw [show PyData.eqv (.list (ns.map PyData.int)) (.list (ms.map PyData.int)) = decide (ns = ms) from eqv_ints ns ms]
    exact q H1 (Ex.refl H1)⟩
theorem ev_eqL {a b : Addr} {ns ms : List Int} (ha : Ev ta σ H (.ref a)) (hb : Ev tb σ H (.ref b)) (h1 : SqL K H a (ns.map V.int)) (h2 : SqL K H b (ms.map V.int)) : Ev (tOp (rEqD K) ta tb) σ H (.bl (decide (ns = ms))) := ev_op ha hb (rv_eqL h1 h2)
theorem ev_neL {a b : Addr} {ns ms : List Int} (ha : Ev ta σ H (.ref a)) (hb : Ev tb σ H (.ref b)) (h1 : SqL K H a (ns.map V.int)) (h2 : SqL K H b (ms.map V.int)) : Ev (tOp (rNeD K) ta tb) σ H (.bl (!decide (ns = ms))) := ev_op ha hb (rv_neL h1 h2)
/-- xs != [] -/
theorem ev_neNil {a : Addr} {ns : List Int} (ha : Ev ta σ H (.ref a)) (h1 : SqL K H a (ns.map V.int)) : Ev (tOp (rNeD K) ta (tLst tNil)) σ H (.bl (!decide (ns = []))) :=
  ev_opL (xs := ([] : List Int).map V.int) ha (el_lst ea_nil (Nat.zero_le _)) fun q H1 hq e => rv_neL (ex_l e h1) (sq_of hq)
theorem ev_eqNil {a : Addr} {ns : List Int} (ha : Ev ta σ H (.ref a)) (h1 : SqL K H a (ns.map V.int)) : Ev (tOp (rEqD K) ta (tLst tNil)) σ H (.bl (decide (ns = []))) :=
  ev_opL (xs := ([] : List Int).map V.int) ha (el_lst ea_nil (Nat.zero_le _)) fun q H1 hq e => rv_eqL (ex_l e h1) (sq_of hq)
/-- signs joined -/
def txt (l : List Nat) : Str := ⟨l.toArray⟩
theorem txt_len (l : List Nat) : (txt l).length = l.length := by simp [txt, Str.length]
theorem joinL_one : ∀ l : List Nat, TL.joinL [] (l.map fun c => [c]) = l
  | [] => rfl
  | [_] => rfl
  | a :: b :: r => by
    show [a] ++ ([] ++ TL.joinL [] ((b :: r).map fun c => [c])) = a :: b :: r
    rw [joinL_one (b :: r)]
    rfl
theorem join_txt (l : List Nat) : Txt.join "" (l.map fun c => (⟨#[c]⟩ : Str)) = txt l := by
  rw [TL.join_eq]
  have h : TL.tl (Str.join "" (l.map fun c => (⟨#[c]⟩ : Str))) = l := by
    rw [TL.tl_join]
    have e : (l.map fun c => (⟨#[c]⟩ : Str)).map TL.tl = l.map fun c => [c] := by
      rw [List.map_map]
      rfl
    rw [e]
    exact joinL_one l
  have h2 : (Str.join "" (l.map fun c => (⟨#[c]⟩ : Str))) = ⟨(TL.tl (Str.join "" (l.map fun c => (⟨#[c]⟩ : Str)))).toArray⟩ := rfl
  rw [h2, h]
  rfl
theorem sum_one : ∀ l : List Nat, ((l.map fun c => (⟨#[c]⟩ : Str)).map (·.length)).sum = l.length
  | [] => rfl
  | a :: r => by
    show 1 + ((r.map fun c => (⟨#[c]⟩ : Str)).map (·.length)).sum = r.length + 1
    rw [sum_one r]
    omega
/-- "".join(signs) -/
theorem ev_join {l : List Nat} (hc : Ev tb σ H (.ref p)) (hp : SqL K H p ((l.map fun c => (⟨#[c]⟩ : Str)).map V.str)) (hz : l.length ≤ 100000) : Ev (tBM K "str" (rJoin K) (tC (.str "")) (tCons tb tNil)) σ H (.str (txt l)) := fun H1 e Q q => by
  refine ⟨rfl, hc H1 e _ fun H2 e2 => ⟨"", p, l.map fun c => (⟨#[c]⟩ : Str), rfl, rfl, .inl (ex_l (e.trans e2) hp), ?_, ?_⟩⟩
  · rw [sum_one, show (("" : Str)).length = 0 from rfl]
    omega
  · rw [join_txt]
    exact q H2 e2
end
section
variable {K : PySem.W.Frag} {σ : L2.St} {H H' : Hp} {ta tb te : TE} {i : Int} {b : Bool} {p : Addr}
theorem ev_isiL {xs : List V} (ha : Ev ta σ H (.ref p)) (hp : H p = some (.lst xs)) : Ev (tCB (rIsi K) (tCons ta (tCons (tC (.ty "list")) tNil))) σ H (.bl true) :=
  ev_isi (tt := .type "list") ha (fun H1 e => .base (.lst (e p _ hp))) (kit_ty (by decide +kernel))
theorem ev_isiU {xs : List V} (ha : Ev ta σ H (.ref p)) (hp : H p = some (.tup xs)) : Ev (tCB (rIsi K) (tCons ta (tCons (tC (.ty "tuple")) tNil))) σ H (.bl true) :=
  ev_isi (tt := .type "tuple") ha (fun H1 e => .base (.tup (e p _ hp))) (kit_ty (by decide +kernel))
theorem ev_isiI (ha : Ev ta σ H (.int i)) : Ev (tCB (rIsi K) (tCons ta (tCons (tC (.ty "int")) tNil))) σ H (.bl true) := ev_isi (tt := .type "int") ha (fun H1 e => .base (.int i)) (kit_ty (by decide +kernel))
theorem ev_isiS {z : Str} (ha : Ev ta σ H (.str z)) : Ev (tCB (rIsi K) (tCons ta (tCons (tC (.ty "str")) tNil))) σ H (.bl true) := ev_isi (tt := .type "str") ha (fun H1 e => .base (.str z)) (kit_ty (by decide +kernel))
theorem ev_isiB (ha : Ev ta σ H (.bl b)) : Ev (tCB (rIsi K) (tCons ta (tCons (tC (.ty "bool")) tNil))) σ H (.bl true) := ev_isi (tt := .type "bool") ha (fun H1 e => .base (.bl b)) (kit_ty (by decide +kernel))
theorem atI_txt {l : List Nat} (h0 : 0 ≤ i) (h1 : i < (l.length : Int)) : atI (txt l).cps.toList i = some (l.getD i.toNat 0) := by
  have h2 : i.toNat < l.length := by omega
  have e : (txt l).cps.toList = l := by simp [txt]
  rw [e]
  have e2 : i = ((i.toNat : Nat) : Int) := by omega
  rw [e2]
  refine atI_nat ?_
  rw [List.getD_eq_getElem?_getD, show ((i.toNat : Nat) : Int).toNat = i.toNat from rfl, List.getElem?_eq_getElem h2]
  rfl
/-- a sign of a text -/
theorem ev_ixTxt {l : List Nat} (ha : Ev ta σ H (.str (txt l))) (hb : Ev tb σ H (.int i)) (h0 : 0 ≤ i) (h1 : i < (l.length : Int)) (hz : l.length ≤ 100000) : Ev (tOp rIxS ta tb) σ H (.str ⟨#[l.getD i.toNat 0]⟩) :=
  ev_op ha hb (rv_ixS (by rw [txt_len]; exact hz) (atI_txt h0 h1))
/-- one of two written texts -/
theorem ev_ix2 {x y : Str} (hb : Ev tb σ H (.int (if b = true then 1 else 0))) : Ev (tOp (rIxL K) (tLst (tCons (tC (.str x)) (tCons (tC (.str y)) tNil))) tb) σ H (.str (if b = true then y else x)) :=
  ev_ixNew (xs := [.str x, .str y]) (el_lst (ea_cons ev_c (ea_cons ev_c ea_nil)) (Nat.le_of_ble_eq_true rfl)) hb (by cases b <;> rfl)
theorem ev_lenTxt {l : List Nat} (ha : Ev ta σ H (.str (txt l))) (hz : l.length ≤ 100000) : Ev (tCB rLenT (tCons ta tNil)) σ H (.int (l.length : Int)) := by
  have h := ev_lenS ha (by rw [txt_len]; exact hz)
  rw [txt_len] at h
  exact h
theorem sg_V : (Str.ofString "V") = (⟨#[86]⟩ : Str) := by decide +kernel
theorem sg_M : (Str.ofString "M") = (⟨#[77]⟩ : Str) := by decide +kernel
end
/-- the classes of the program, by their addresses; the sizes that the law draws of -/
structure Cs where
  np : Addr
  nc : Addr
  nl : Addr
  nn : Addr
  st : Addr
  cr : Addr
  se : Addr
  sz : List Int
theorem passE {P : Program} {w : World} {K : PySem.W.Frag} {mg : Str → Option Value} {base : Heap} {N : List Str} {q : Str} {sc : Scope} {f : Addr} {cd : Value} {A : Around} {o : List Env} {s : Shared} {H : Hp} {E : XK} :
    Passes (L2.CX P w) (cxOf (L2.CX P w) P w K mg base N q sc f cd A o s H E) E := passes_call (takes_of rfl rfl rfl rfl) fun _ _ _ _ h => h
end Fo
/-! FoldM -/
namespace Fo
open PySem L2 Evl

/-! ### lists of ints by place -/
theorem gi_nat (ns : List Int) (k : Nat) : gi ns (k : Int) = ns.getD k 0 := rfl
theorem gi_get {ns : List Int} {k : Nat} (h : k < ns.length) : ns[k]? = some (gi ns (k : Int)) := by
  rw [gi_nat, List.getD_eq_getElem?_getD, List.getElem?_eq_getElem h]
  rfl
theorem gi_getI {ns : List Int} {i : Int} (h0 : 0 ≤ i) (h : i < (ns.length : Int)) : ns[i.toNat]? = some (gi ns i) := by
  have h2 : i.toNat < ns.length := by omega
  have e : i = ((i.toNat : Nat) : Int) := by omega
  rw [gi_get h2, ← e]
theorem gi_mem {ns : List Int} {i : Int} (h0 : 0 ≤ i) (h : i < (ns.length : Int)) : gi ns i ∈ ns := List.mem_of_getElem? (gi_getI h0 h)
theorem mem_gi {ns : List Int} {x : Int} (h : x ∈ ns) : ∃ k : Nat, k < ns.length ∧ gi ns (k : Int) = x := by
  obtain ⟨k, hk, e⟩ := List.mem_iff_getElem.mp h
  refine ⟨k, hk, ?_⟩
  have q := gi_get hk
  rw [List.getElem?_eq_getElem hk, e] at q
  exact (Option.some.inj q).symm
theorem gi_ext {xs ys : List Int} (hl : xs.length = ys.length) (h : ∀ k : Nat, k < xs.length → gi xs (k : Int) = gi ys (k : Int)) : xs = ys := by
  refine List.ext_getElem? fun k => ?_
  by_cases hk : k < xs.length
  · rw [gi_get hk, gi_get (by omega), h k hk]
  · rw [List.getElem?_eq_none (by omega), List.getElem?_eq_none (by omega)]
theorem gi_mapR {n : Nat} (f : Nat → Int) {k : Nat} (h : k < n) : gi ((List.range n).map f) (k : Int) = f k := by
  refine gi_of ?_
  rw [List.getElem?_map, List.getElem?_range h]
  rfl
theorem gi_set {xs : List Int} {j k : Nat} {y : Int} (hj : j < xs.length) : gi (xs.set j y) (k : Int) = if k = j then y else gi xs (k : Int) := by
  rw [gi_nat, gi_nat, List.getD_eq_getElem?_getD, List.getD_eq_getElem?_getD, List.getElem?_set]
  by_cases h : k = j
  · subst h
    rw [if_pos rfl, if_pos rfl, if_pos hj]
    rfl
  · rw [if_neg (fun e => h e.symm), if_neg h]

/-! ### many numbers below a bound -/
theorem php : ∀ (n : Nat) (l : List Int), l.Nodup → (∀ x ∈ l, 0 ≤ x ∧ x < (n : Int)) → l.length ≤ n
  | 0, l, _, h => by
    cases l with
    | nil => exact Nat.le_refl _
    | cons x r => have := h x List.mem_cons_self; omega
  | n + 1, l, nd, h => by
    have h1 : (l.erase (n : Int)).length ≤ n := php n _ (nd.erase _) fun x hx => by
      have hm := (nd.mem_erase_iff).mp hx
      have := h x hm.2
      have h2 := hm.1
      omega
    by_cases hm : (n : Int) ∈ l
    · rw [List.length_erase_of_mem hm] at h1
      omega
    · rw [List.erase_of_not_mem hm] at h1
      omega

/-! ### piles -/
structure IsPile (ns : List Int) : Prop where
  pos : 0 < ns.length
  bnd : ∀ x ∈ ns, 0 ≤ x ∧ x < (ns.length : Int)
  nd : ns.Nodup
instance (ns : List Int) : Decidable (IsPile ns) :=
  if h : 0 < ns.length ∧ (∀ x ∈ ns, 0 ≤ x ∧ x < (ns.length : Int)) ∧ ns.Nodup then isTrue ⟨h.1, h.2.1, h.2.2⟩ else isFalse fun p => h ⟨p.pos, p.bnd, p.nd⟩
theorem IsPile.all {ns : List Int} (p : IsPile ns) {s : Int} (h0 : 0 ≤ s) (h1 : s < (ns.length : Int)) : s ∈ ns := by
  by_cases h : s ∈ ns
  · exact h
  · have q := php ns.length (s :: ns) (List.nodup_cons.mpr ⟨h, p.nd⟩) fun x hx => by
      rcases List.mem_cons.mp hx with rfl | hx
      · exact ⟨h0, h1⟩
      · exact p.bnd x hx
    rw [List.length_cons] at q
    omega
/-- the place of each stamp -/
def pl (ns : List Int) : List Int := (List.range ns.length).map fun (s : Nat) => ((ns.idxOf (s : Int) : Nat) : Int)
theorem pl_len (ns : List Int) : (pl ns).length = ns.length := by simp [pl]
theorem pl_at {ns : List Int} {s : Nat} (h : s < ns.length) : gi (pl ns) (s : Int) = ((ns.idxOf (s : Int) : Nat) : Int) := gi_mapR _ h
theorem idx_lt {ns : List Int} {x : Int} (h : x ∈ ns) : ns.idxOf x < ns.length := List.idxOf_lt_length_iff.mpr h
theorem idx_gi {ns : List Int} {x : Int} (h : x ∈ ns) : gi ns ((ns.idxOf x : Nat) : Int) = x := by
  refine gi_of ?_
  rw [List.getElem?_eq_getElem (idx_lt h), List.getElem_idxOf]
theorem nd_inj {ns : List Int} (nd : ns.Nodup) {j k : Nat} (hj : j < ns.length) (hk : k < ns.length) (e : gi ns (j : Int) = gi ns (k : Int)) : j = k := by
  have a := gi_get hj
  have b := gi_get hk
  rw [e] at a
  exact nd_ix nd a b
theorem gi_idx {ns : List Int} (nd : ns.Nodup) {k : Nat} (h : k < ns.length) : ns.idxOf (gi ns (k : Int)) = k := by
  have hm : gi ns (k : Int) ∈ ns := gi_mem (by omega) (by omega)
  exact nd_inj nd (idx_lt hm) h (idx_gi hm)
theorem IsPile.at (p : IsPile ns) {s : Int} (h0 : 0 ≤ s) (h1 : s < (ns.length : Int)) : 0 ≤ gi (pl ns) s ∧ gi (pl ns) s < (ns.length : Int) ∧ gi ns (gi (pl ns) s) = s := by
  obtain ⟨k, rfl⟩ : ∃ k : Nat, s = (k : Int) := ⟨s.toNat, by omega⟩
  have hm := p.all h0 h1
  have hl := idx_lt hm
  rw [pl_at (by omega)]
  exact ⟨by omega, by omega, idx_gi hm⟩
theorem IsPile.st (p : IsPile ns) {k : Int} (h0 : 0 ≤ k) (h1 : k < (ns.length : Int)) : 0 ≤ gi ns k ∧ gi ns k < (ns.length : Int) ∧ gi (pl ns) (gi ns k) = k := by
  have hb := p.bnd _ (gi_mem h0 h1)
  refine ⟨hb.1, hb.2, ?_⟩
  obtain ⟨j, e⟩ : ∃ j : Nat, gi ns k = (j : Int) := ⟨(gi ns k).toNat, by omega⟩
  rw [e, pl_at (by omega), ← e]
  obtain ⟨i, rfl⟩ : ∃ i : Nat, k = (i : Int) := ⟨k.toNat, by omega⟩
  rw [gi_idx p.nd (by omega)]
theorem IsPile.ne (p : IsPile ns) {s t : Int} (h0 : 0 ≤ s) (h1 : s < (ns.length : Int)) (g0 : 0 ≤ t) (g1 : t < (ns.length : Int)) (h : s ≠ t) : gi (pl ns) s ≠ gi (pl ns) t := fun e => by
  have a := (p.at h0 h1).2.2
  rw [e, (p.at g0 g1).2.2] at a
  exact h a.symm

/-! ### the places as the program finds them: behind i stamps -/
def plD (d : Int) (ns : List Int) (i : Nat) : List Int := (List.range ns.length).map fun (s : Nat) => if ((s : Nat) : Int) ∈ ns.take i then ((ns.idxOf (s : Int) : Nat) : Int) else d
theorem plD_len (d : Int) (ns : List Int) (i : Nat) : (plD d ns i).length = ns.length := by simp [plD]
theorem plD_zero (d : Int) (ns : List Int) : plD d ns 0 = List.replicate ns.length d := by
  refine gi_ext (by simp [plD]) fun k hk => ?_
  rw [plD_len] at hk
  rw [plD, gi_mapR _ hk, if_neg (by simp), gi_nat, List.getD_eq_getElem?_getD, List.getElem?_replicate, if_pos hk]
  rfl
theorem plD_at {d : Int} {ns : List Int} {i : Nat} {s : Int} (h0 : 0 ≤ s) (h1 : s < (ns.length : Int)) : gi (plD d ns i) s = if s ∈ ns.take i then ((ns.idxOf s : Nat) : Int) else d := by
  obtain ⟨k, rfl⟩ : ∃ k : Nat, s = (k : Int) := ⟨s.toNat, by omega⟩
  exact gi_mapR _ (by omega)
abbrev plF (ns : List Int) (i : Nat) : List Int := plD (-1) ns i
theorem plF_len (ns : List Int) (i : Nat) : (plF ns i).length = ns.length := plD_len _ ns i
theorem plF_zero (ns : List Int) : plF ns 0 = List.replicate ns.length (-1) := plD_zero _ ns
theorem plF_neg {ns : List Int} {i : Nat} {s : Int} (h0 : 0 ≤ s) (h1 : s < (ns.length : Int)) : ¬ 0 ≤ gi (plF ns i) s ↔ s ∉ ns.take i := by
  rw [plD_at h0 h1]
  split
  · rename_i h
    exact ⟨fun q => absurd (by omega) q, fun q => absurd h q⟩
  · rename_i h
    exact ⟨fun _ => h, fun _ => by omega⟩
theorem take_more {α : Type} {l : List α} {i : Nat} {x : α} (h : l[i]? = some x) : l.take (i + 1) = l.take i ++ [x] := by
  rw [List.take_add_one, h]
  rfl
theorem plD_set {d : Int} {ns : List Int} {i : Nat} {x : Int} (hx : ns[i]? = some x) (h0 : 0 ≤ x) (h1 : x < (ns.length : Int)) (hn : x ∉ ns.take i) : (plD d ns i).set x.toNat (i : Int) = plD d ns (i + 1) := by
  have hi : i < ns.length := (List.getElem?_eq_some_iff.mp hx).1
  have hix : ns.idxOf x = i := by
    have hle : ns.idxOf x ≤ i := by
      by_cases h : ns.idxOf x ≤ i
      · exact h
      · have hm : x ∈ ns := List.mem_of_getElem? hx
        have e : ns.idxOf x = ns.findIdx (· == x) := rfl
        have q := List.not_of_lt_findIdx (p := (· == x)) (xs := ns) (i := i) (by rw [← e]; omega)
        have e2 : ns[i] = x := by
          have z := List.getElem?_eq_getElem hi
          rw [hx] at z
          exact (Option.some.inj z).symm
        rw [e2] at q
        simp at q
    have hm : x ∈ ns := List.mem_of_getElem? hx
    by_cases h : ns.idxOf x = i
    · exact h
    · refine absurd ?_ hn
      have hlt : ns.idxOf x < i := by omega
      have e := List.getElem?_take_of_lt (l := ns) hlt
      rw [List.getElem?_eq_getElem (idx_lt hm), List.getElem_idxOf] at e
      exact List.mem_of_getElem? e
  have hxn : x.toNat < (plD d ns i).length := by rw [plD_len]; omega
  refine gi_ext (by rw [List.length_set, plD_len, plD_len]) fun k hk => ?_
  rw [List.length_set, plD_len] at hk
  rw [gi_set hxn, plD_at (by omega) (by omega), plD_at (by omega) (by omega), take_more hx]
  by_cases h : k = x.toNat
  · have e : (k : Int) = x := by omega
    rw [if_pos h, e, if_pos (by simp), hix]
  · have e : (k : Int) ≠ x := by omega
    rw [if_neg h]
    by_cases h2 : (k : Int) ∈ ns.take i
    · rw [if_pos h2, if_pos (List.mem_append_left _ h2)]
    · rw [if_neg h2, if_neg (by
        intro z
        rcases List.mem_append.mp z with z | z
        · exact h2 z
        · exact e (List.mem_singleton.mp z))]
theorem plD_end {d : Int} {ns : List Int} (p : IsPile ns) : plD d ns ns.length = pl ns := by
  refine gi_ext (by rw [plD_len, pl_len]) fun k hk => ?_
  rw [plD_len] at hk
  rw [plD_at (by omega) (by omega), pl_at hk, List.take_length, if_pos (p.all (by omega) (by omega))]
theorem plF_set {ns : List Int} {i : Nat} {x : Int} (hx : ns[i]? = some x) (h0 : 0 ≤ x) (h1 : x < (ns.length : Int)) (hn : x ∉ ns.take i) : (plF ns i).set x.toNat (i : Int) = plF ns (i + 1) := plD_set hx h0 h1 hn
theorem plF_end {ns : List Int} (p : IsPile ns) : plF ns ns.length = pl ns := plD_end p
end Fo
/-! FoldM2 -/
namespace Fo
open PySem L2 Evl

/-! ### wrapping and crossing, by the places -/
def lo (x y : Int) : Int := if y < x then y else x
def hi (x y : Int) : Int := if y > x then y else x
def wrB (x y z : Int) : Bool := decide (lo x y < z) && decide (z < hi x y)
def wr (p : List Int) (c s : Int) : Bool := wrB (gi p c) (gi p (c + 1)) (gi p s)
theorem wrB_iff {x y z : Int} : wrB x y z = true ↔ (x < z ∧ z < y) ∨ (y < z ∧ z < x) := by
  unfold wrB lo hi
  rw [Bool.and_eq_true, decide_eq_true_eq, decide_eq_true_eq]
  split <;> split <;> omega
theorem sort2 {x y : Int} : ∀ ms' : List Int, ms'.Perm [x, y] → ms'.Pairwise (· ≤ ·) → ms' = [lo x y, hi x y] := by
  intro ms hp ho
  have hl := hp.length_eq
  match ms, hp, ho, hl with
  | [a, b], hp, ho, _ =>
    have hab : a ≤ b := by
      have := (List.pairwise_cons.mp ho).1 b (List.mem_singleton.mpr rfl)
      exact this
    have h1 : a = x ∨ a = y := by
      have := hp.mem_iff.mp (List.mem_cons_self (a := a) (l := [b]))
      simpa using this
    have h2 : x ∈ [a, b] := hp.mem_iff.mpr (by simp)
    have h3 : y ∈ [a, b] := hp.mem_iff.mpr (by simp)
    have h4 : b = x ∨ b = y := by
      have := hp.mem_iff.mp (show b ∈ [a, b] by simp)
      simpa using this
    simp only [List.mem_cons, List.not_mem_nil, or_false] at h2 h3
    have e1 : a = lo x y := by unfold lo; split <;> omega
    have e2 : b = hi x y := by unfold hi; split <;> omega
    rw [e1, e2]
/-- two creases on one side that cross, the lesser one first -/
structure XX (p : List Int) (i j : Int) : Prop where
  i0 : 0 ≤ i
  ij : i < j
  jn : j + 1 < (p.length : Int)
  even : (j - i) % 2 = 0
  ne : wr p i j ≠ wr p i (j + 1)
def NoX (p : List Int) : Prop := ∀ i j : Int, ¬ XX p i j
def noX (p : List Int) : Bool := (List.range p.length).all fun (i : Nat) => (List.range p.length).all fun (j : Nat) => !(decide (i < j) && decide (j + 1 < p.length) && decide (((j : Int) - (i : Int)) % 2 = 0) && (wr p (i : Int) (j : Int) != wr p (i : Int) ((j : Int) + 1)))
theorem noX_iff (p : List Int) : noX p = true ↔ NoX p := by
  unfold noX
  rw [List.all_eq_true]
  constructor
  · intro h i j x
    have hi : i.toNat < p.length := by have := x.ij; have := x.jn; have := x.i0; omega
    have hj : j.toNat < p.length := by have := x.ij; have := x.jn; have := x.i0; omega
    have q := List.all_eq_true.mp (h i.toNat (List.mem_range.mpr hi)) j.toNat (List.mem_range.mpr hj)
    have ei : ((i.toNat : Nat) : Int) = i := by have := x.i0; omega
    have ej : ((j.toNat : Nat) : Int) = j := by have := x.i0; have := x.ij; omega
    rw [ei, ej] at q
    have a1 : decide (i.toNat < j.toNat) = true := decide_eq_true (by have := x.ij; have := x.i0; omega)
    have a2 : decide (j.toNat + 1 < p.length) = true := decide_eq_true (by have := x.jn; omega)
    rw [a1, a2, decide_eq_true x.even, bne_iff_ne.mpr x.ne] at q
    exact Bool.noConfusion q
  · intro h i hi
    rw [List.all_eq_true]
    intro j hj
    rw [List.mem_range] at hi hj
    rw [Bool.not_eq_true', Bool.eq_false_iff]
    intro q
    simp only [Bool.and_eq_true, decide_eq_true_eq, bne_iff_ne] at q
    exact h (i : Int) (j : Int) ⟨by omega, by omega, by omega, q.1.2, q.2⟩
instance (p : List Int) : Decidable (NoX p) := decidable_of_iff _ (noX_iff p)

/-! ### the next stamp put in -/
theorem gi_app1 {xs ys : List Int} {k : Nat} (h : k < xs.length) : gi (xs ++ ys) (k : Int) = gi xs (k : Int) := by
  rw [gi_nat, gi_nat, List.getD_eq_getElem?_getD, List.getD_eq_getElem?_getD, List.getElem?_append_left h]
theorem gi_app2 {xs ys : List Int} {k : Nat} (h : xs.length ≤ k) : gi (xs ++ ys) (k : Int) = gi ys ((k - xs.length : Nat) : Int) := by
  rw [gi_nat, gi_nat, List.getD_eq_getElem?_getD, List.getD_eq_getElem?_getD, List.getElem?_append_right h]
theorem gi_cons0 (x : Int) (xs : List Int) : gi (x :: xs) 0 = x := rfl
theorem gi_consS (x : Int) (xs : List Int) (k : Nat) : gi (x :: xs) ((k + 1 : Nat) : Int) = gi xs (k : Int) := rfl
theorem gi_take {xs : List Int} {n k : Nat} (h : k < n) : gi (xs.take n) (k : Int) = gi xs (k : Int) := by
  rw [gi_nat, gi_nat, List.getD_eq_getElem?_getD, List.getD_eq_getElem?_getD, List.getElem?_take_of_lt h]
theorem gi_drop (xs : List Int) (n k : Nat) : gi (xs.drop n) (k : Int) = gi xs ((n + k : Nat) : Int) := by
  rw [gi_nat, gi_nat, List.getD_eq_getElem?_getD, List.getD_eq_getElem?_getD, List.getElem?_drop]
/-- so many stamps in any order -/
structure Per (i : Nat) (ps : List Int) : Prop where
  len : ps.length = i
  bnd : ∀ x ∈ ps, 0 ≤ x ∧ x < (i : Int)
  nd : ps.Nodup
theorem Per.pile {i : Nat} {ps : List Int} (h : Per i ps) (hi : 0 < i) : IsPile ps := ⟨by rw [h.len]; exact hi, fun x hx => by rw [h.len]; exact h.bnd x hx, h.nd⟩
theorem IsPile.per {ps : List Int} (h : IsPile ps) : Per ps.length ps := ⟨rfl, h.bnd, h.nd⟩
def put (ps : List Int) (g : Int) (x : Int) : List Int := ps.take g.toNat ++ [x] ++ ps.drop g.toNat
theorem put_perm (ps : List Int) (g x : Int) : (put ps g x).Perm (x :: ps) := by
  unfold put
  have h1 : (ps.take g.toNat ++ [x] ++ ps.drop g.toNat).Perm (x :: (ps.take g.toNat ++ ps.drop g.toNat)) := by
    rw [List.append_assoc]
    exact List.perm_middle
  rw [List.take_append_drop] at h1
  exact h1
theorem put_len (ps : List Int) (g x : Int) : (put ps g x).length = ps.length + 1 := by rw [(put_perm ps g x).length_eq, List.length_cons]
theorem Per.put {i : Nat} {ps : List Int} (h : Per i ps) (g : Int) : Per (i + 1) (put ps g (i : Int)) := by
  have hp := put_perm ps g (i : Int)
  refine ⟨by rw [put_len, h.len], fun x hx => ?_, hp.nodup_iff.mpr (List.nodup_cons.mpr ⟨fun hm => ?_, h.nd⟩)⟩
  · rcases List.mem_cons.mp (hp.mem_iff.mp hx) with rfl | hx
    · omega
    · have := h.bnd x hx
      omega
  · have := h.bnd _ hm
    omega
theorem put_map (ps : List Int) (g x : Int) : (ps.map V.int).take g.toNat ++ [V.int x] ++ (ps.map V.int).drop g.toNat = (put ps g x).map V.int := by
  unfold put
  rw [List.map_append, List.map_append, List.map_take, List.map_drop]
  rfl
theorem put_at {ps : List Int} {g x : Int} (g0 : 0 ≤ g) (g1 : g ≤ (ps.length : Int)) {k : Int} (k0 : 0 ≤ k) : gi (put ps g x) k = if k < g then gi ps k else if k = g then x else gi ps (k - 1) := by
  obtain ⟨m, rfl⟩ : ∃ m : Nat, g = (m : Int) := ⟨g.toNat, by omega⟩
  obtain ⟨j, rfl⟩ : ∃ j : Nat, k = (j : Int) := ⟨k.toNat, by omega⟩
  have hm : m ≤ ps.length := by omega
  have ht : (ps.take m).length = m := by rw [List.length_take]; omega
  unfold put
  rw [show ((m : Nat) : Int).toNat = m from rfl, List.append_assoc]
  by_cases h : j < m
  · rw [if_pos (by omega), gi_app1 (by omega), gi_take h]
  · rw [if_neg (by omega), gi_app2 (by omega), ht]
    by_cases h2 : j = m
    · subst h2
      rw [if_pos rfl, Nat.sub_self]
      rfl
    · rw [if_neg (by omega)]
      obtain ⟨d, hd⟩ : ∃ d, j - m = d + 1 := ⟨j - m - 1, by omega⟩
      rw [hd]
      show gi (x :: ps.drop m) ((d + 1 : Nat) : Int) = _
      rw [gi_consS, gi_drop, show ((m + d : Nat) : Int) = (j : Int) - 1 by omega]
/-- the places behind the next stamp -/
structure Next (p q : List Int) (g : Int) : Prop where
  g0 : 0 ≤ g
  g1 : g ≤ (p.length : Int)
  len : q.length = p.length + 1
  old : ∀ s : Int, 0 ≤ s → s < (p.length : Int) → gi q s = if gi p s < g then gi p s else gi p s + 1
  new : gi q (p.length : Int) = g
theorem next_put {i : Nat} {ps : List Int} (h : Per i ps) (hi : 0 < i) {g : Int} (g0 : 0 ≤ g) (g1 : g ≤ (i : Int)) : Next (pl ps) (pl (put ps g (i : Int))) g := by
  have pp := h.pile hi
  have pq : IsPile (put ps g (i : Int)) := (h.put g).pile (by omega)
  have hl := h.len
  have hlq : (put ps g (i : Int)).length = i + 1 := (h.put g).len
  refine ⟨g0, by rw [pl_len]; omega, by rw [pl_len, pl_len]; omega, fun s s0 s1 => ?_, ?_⟩
  · rw [pl_len] at s1
    obtain ⟨a0, a1, a2⟩ := pp.at s0 s1
    split
    · rename_i hlt
      have e : gi (put ps g (i : Int)) (gi (pl ps) s) = s := by rw [put_at g0 (by omega) a0, if_pos hlt, a2]
      have q := (pq.st a0 (by omega)).2.2
      rw [e] at q
      exact q
    · rename_i hge
      have e : gi (put ps g (i : Int)) (gi (pl ps) s + 1) = s := by rw [put_at g0 (by omega) (by omega), if_neg (by omega), if_neg (by omega), Int.add_sub_cancel, a2]
      have q := (pq.st (k := gi (pl ps) s + 1) (by omega) (by omega)).2.2
      rw [e] at q
      exact q
  · rw [pl_len, hl]
    have e : gi (put ps g (i : Int)) g = (i : Int) := by rw [put_at g0 (by omega) g0, if_neg (by omega), if_pos rfl]
    have q := (pq.st (k := g) (by omega) (by omega)).2.2
    rw [e] at q
    exact q
/-- the gap g takes the next stamp: no crease on its side is crossed -/
def fitB (p : List Int) (g c : Int) : Bool := wrB (gi p c) (gi p (c + 1)) (gi p ((p.length : Int) - 1)) == (decide (lo (gi p c) (gi p (c + 1)) < g) && decide (g ≤ hi (gi p c) (gi p (c + 1))))
def Fits (p : List Int) (g : Int) : Prop := ∀ c : Int, 0 ≤ c → c + 1 < (p.length : Int) - 1 → ((p.length : Int) - 1 - c) % 2 = 0 → fitB p g c = true
theorem wrB_next {x y z g : Int} : wrB (if x < g then x else x + 1) (if y < g then y else y + 1) (if z < g then z else z + 1) = wrB x y z := by
  rw [Bool.eq_iff_iff, wrB_iff, wrB_iff]
  split <;> split <;> split <;> omega
theorem wrB_new {x y g : Int} : wrB (if x < g then x else x + 1) (if y < g then y else y + 1) g = (decide (lo x y < g) && decide (g ≤ hi x y)) := by
  rw [Bool.eq_iff_iff, wrB_iff, Bool.and_eq_true, decide_eq_true_eq, decide_eq_true_eq]
  unfold lo hi
  split <;> split <;> split <;> split <;> omega
theorem noX_next {p q : List Int} {g : Int} (h : Next p q g) : NoX q ↔ NoX p ∧ Fits p g := by
  have hl := h.len
  have w1 : ∀ i s : Int, 0 ≤ i → i + 1 < (p.length : Int) → 0 ≤ s → s < (p.length : Int) → wr q i s = wr p i s := fun i s i0 i1 s0 s1 => by
    unfold wr
    rw [h.old i i0 (by omega), h.old (i + 1) (by omega) i1, h.old s s0 s1, wrB_next]
  constructor
  · intro hq
    refine ⟨fun i j x => hq i j ⟨x.i0, x.ij, by have := x.jn; omega, x.even, ?_⟩, fun c c0 c1 ce => ?_⟩
    · have := x.i0; have := x.ij; have := x.jn
      rw [w1 i j (by omega) (by omega) (by omega) (by omega), w1 i (j + 1) (by omega) (by omega) (by omega) (by omega)]
      exact x.ne
    · have z := hq c ((p.length : Int) - 1)
      unfold fitB
      rw [beq_iff_eq]
      refine Decidable.byContradiction fun ne => z ⟨c0, by omega, by omega, ce, ?_⟩
      rw [w1 c _ c0 (by omega) (by omega) (by omega), Int.sub_add_cancel]
      unfold wr
      rw [h.old c c0 (by omega), h.old (c + 1) (by omega) (by omega), h.new, wrB_new]
      exact ne
  · rintro ⟨hp, hf⟩ i j x
    have := x.i0; have := x.ij; have := x.jn
    by_cases hj : j + 1 < (p.length : Int)
    · refine hp i j ⟨x.i0, x.ij, hj, x.even, ?_⟩
      rw [← w1 i j (by omega) (by omega) (by omega) (by omega), ← w1 i (j + 1) (by omega) (by omega) (by omega) (by omega)]
      exact x.ne
    · have ej : j = (p.length : Int) - 1 := by omega
      subst ej
      have he := x.even
      have hc : i + 1 < (p.length : Int) - 1 := by omega
      have z := hf i x.i0 hc he
      unfold fitB at z
      rw [beq_iff_eq] at z
      refine x.ne ?_
      rw [w1 i _ x.i0 (by omega) (by omega) (by omega), Int.sub_add_cancel]
      unfold wr
      rw [h.old i x.i0 (by omega), h.old (i + 1) (by omega) (by omega), h.new, wrB_new]
      exact z
/-- beside the last stamp there is always room -/
theorem fits_beside {ps : List Int} (pp : IsPile ps) {g : Int} (hg : g = gi (pl ps) ((ps.length : Int) - 1) ∨ g = gi (pl ps) ((ps.length : Int) - 1) + 1) : Fits (pl ps) g := by
  intro c c0 c1 ce
  rw [pl_len] at c1 ce
  have n1 := pp.ne (s := c) (t := (ps.length : Int) - 1) c0 (by omega) (by omega) (by omega) (by omega)
  have n2 := pp.ne (s := c + 1) (t := (ps.length : Int) - 1) (by omega) (by omega) (by omega) (by omega) (by omega)
  unfold fitB
  rw [pl_len, beq_iff_eq, Bool.eq_iff_iff, wrB_iff, Bool.and_eq_true, decide_eq_true_eq, decide_eq_true_eq]
  unfold lo hi
  generalize gi (pl ps) ((ps.length : Int) - 1) = z at *
  generalize gi (pl ps) c = x at *
  generalize gi (pl ps) (c + 1) = y at *
  split <;> split <;> omega
end Fo
/-! FoldP -/
namespace Fo
open PySem L2 Evl

/-- what is kept where P holds; else the refusal at C -/
def OkOr (C : Addr) (P R : Prop) (H : Hp) (E : XK) : Prop := (P → R) ∧ (¬ P → ∀ H', Ex H H' → E (.ref C) none H')
theorem OkOr.yes {C : Addr} {P R : Prop} {H : Hp} {E : XK} (hp : P) (r : R) : OkOr C P R H E := ⟨fun _ => r, fun h => absurd hp h⟩
theorem OkOr.no {C : Addr} {P R : Prop} {H : Hp} {E : XK} (hp : ¬ P) (r : ∀ H', Ex H H' → E (.ref C) none H') : OkOr C P R H E := ⟨fun h => absurd h hp, fun _ => r⟩
/-- it never comes to a value -/
def EvX (te : TE) (σ : L2.St) (H : Hp) : Prop := ∀ H1, Ex H H1 → ∀ Q : VK, te σ H1 Q
theorem g_asgX {te : TE} {σ : L2.St} {H : Hp} {g : TG} {D : Ends} {tz : TS} (h : EvX te σ H) : Go (tSeq (tAsg te g) tz) D σ H := fun H1 e => h H1 e _
theorem evx_call {sp : Sp} {vs : List V} {E : XK} {ta : TA} {σ : L2.St} {H : Hp} (h : EvA ta σ H vs) (hs : ∀ H1, Ex H H1 → ∀ Q : VK, sp vs H1 Q E) : EvX (tCall sp [] E ta) σ H := fun H1 e Q =>
  h H1 e _ fun H2 e2 => by
    rw [List.append_nil]
    exact hs H2 (e.trans e2) Q

/-! ### places, letters -/
def sp_places (K : PySem.W.Frag) (c : Cs) : Sp := fun vs H Q E => ∃ (a : Addr) (ns : List Int), vs = [.ref a] ∧ SqL K H a (ns.map V.int) ∧ ns.length ≤ 1000 ∧ OkOr c.np (IsPile ns) (RetL ((pl ns).map V.int) H Q) H E
def lets (at' : List Int) : List Nat := (List.range (at'.length - 1)).map fun (k : Nat) => if (decide (gi at' (k : Int) < gi at' ((k : Int) + 1)) == decide ((k : Int) % 2 = 0)) = true then 86 else 77
def sp_letters (K : PySem.W.Frag) (c : Cs) : Sp := fun vs H Q E => ∃ (a : Addr) (ns : List Int), vs = [.ref a] ∧ SqL K H a (ns.map V.int) ∧ ns.length ≤ 1000 ∧ OkOr c.np (IsPile ns) (RetV (.str (txt (lets (pl ns)))) H Q) H E
section
variable {K : PySem.W.Frag} {c : Cs} {H : Hp} {a : Addr} {ns : List Int}
theorem v_places (hS : SqL K H a (ns.map V.int)) (hl : ns.length ≤ 1000) (hp : IsPile ns) : SpL (sp_places K c) [.ref a] H ((pl ns).map V.int) := fun H1 e Q q E => ⟨a, ns, rfl, ex_l e hS, hl, .yes hp q⟩
theorem x_places {E : XK} (hS : SqL K H a (ns.map V.int)) (hl : ns.length ≤ 1000) (hp : ¬ IsPile ns) (hx : ∀ H', Ex H H' → E (.ref c.np) none H') : ∀ H1, Ex H H1 → ∀ Q : VK, sp_places K c [.ref a] H1 Q E := fun H1 e Q =>
  ⟨a, ns, rfl, ex_l e hS, hl, .no hp fun H' e' => hx H' (e.trans e')⟩
theorem v_letters (hS : SqL K H a (ns.map V.int)) (hl : ns.length ≤ 1000) (hp : IsPile ns) : SpV (sp_letters K c) [.ref a] H (.str (txt (lets (pl ns)))) := fun H1 e Q q E => ⟨a, ns, rfl, ex_l e hS, hl, .yes hp q⟩
end
/-! ### what the laws draw -/
def sp_l_drawn (K : PySem.W.Frag) (c : Cs) : Sp := fun vs H Q _ => ∃ (a : Addr) (ns : List Int) (k : Int), vs = [.ref a, .int k] ∧ SqL K H a (ns.map V.int) ∧ 0 ≤ k ∧ RetV (.int (gi ns k)) H Q
def numb (ns : List Int) (k : Int) : Int := (if k < (ns.length : Int) then gi ns k else if ns = [] then k * k * 7919 + k else k * k * 7919 + k + gi ns (k % (ns.length : Int))) * 48271 % 2147483647
theorem numb_lo (ns : List Int) (k : Int) : 0 ≤ numb ns k := Int.emod_nonneg _ (by decide)
theorem numb_hi (ns : List Int) (k : Int) : numb ns k < 2147483647 := Int.emod_lt_of_pos _ (by decide)
def sp_l_number (K : PySem.W.Frag) (c : Cs) : Sp := fun vs H Q _ => ∃ (a : Addr) (ns : List Int) (k : Int), vs = [.ref a, .int k] ∧ SqL K H a (ns.map V.int) ∧ 0 ≤ k ∧ k ≤ 100000 ∧ RetV (.int (numb ns k)) H Q
def sp_l_counts (K : PySem.W.Frag) (c : Cs) : Sp := fun vs H Q _ => ∃ i : Int, vs = [.int i] ∧ RetV (.bl true) H Q
def szf (m : List Int) (x : Int) : Int := 1 + x / 8 % gi m (x % 8)
def sp_l_size (K : PySem.W.Frag) (c : Cs) : Sp := fun vs H Q _ => ∃ x : Int, vs = [.int x] ∧ RetV (.int (szf c.sz x)) H Q
structure SzOk (m : List Int) : Prop where
  len : m.length = 8
  bnd : ∀ x ∈ m, 1 ≤ x ∧ x ≤ 100
theorem szf_bnd {m : List Int} (h : SzOk m) (x : Int) : 1 ≤ szf m x ∧ szf m x ≤ 100 := by
  have h0 : 0 ≤ x % 8 := Int.emod_nonneg _ (by decide)
  have h1 : x % 8 < 8 := Int.emod_lt_of_pos _ (by decide)
  have hb := h.bnd _ (gi_mem h0 (by rw [h.len]; exact h1))
  have g0 : 0 ≤ x / 8 % gi m (x % 8) := Int.emod_nonneg _ (by omega)
  have g1 : x / 8 % gi m (x % 8) < gi m (x % 8) := Int.emod_lt_of_pos _ (by omega)
  unfold szf
  omega
def PileV (n : Int) (xs : List V) : Prop := ∃ ps : List Int, xs = ps.map V.int ∧ IsPile ps ∧ (ps.length : Int) = n
def sp_l_pile (K : PySem.W.Frag) (c : Cs) : Sp := fun vs H Q _ => ∃ (a : Addr) (ns : List Int) (s n : Int), vs = [.ref a, .int s, .int n] ∧ SqL K H a (ns.map V.int) ∧ 0 ≤ s ∧ s ≤ 1000 ∧ 1 ≤ n ∧ n ≤ 100 ∧ RetP (PileV n) H Q
theorem cx_no {P : Program} {w : World} {H : Hp} {s s' : Shared} {e : Value} (h : L2.CX P w [] H s (fun _ _ _ => False) e s') : False := by
  obtain ⟨_, _, _, _, _, _, _, _, _, _, _, _, z⟩ := h
  exact z
theorem szok {c : Cs} {m : List Int} (h : c.sz = m) (hm : SzOk m := by exact ⟨rfl, by decide⟩) : SzOk c.sz := by
  rw [h]
  exact hm
/-- a law keeps its word: True, at every script -/
def sp_law (K : PySem.W.Frag) (c : Cs) : Sp := fun vs H Q _ => ∃ (a : Addr) (ns : List Int), vs = [.ref a] ∧ SqL K H a (ns.map V.int) ∧ ns.length ≤ 63 ∧ ∀ H', Q (.bl true) H'
def spLaw (K : PySem.W.Frag) : Sp := sp_law K ⟨0, 0, 0, 0, 0, 0, 0, []⟩
section
variable {K : PySem.W.Frag} {c : Cs} {H : Hp} {a : Addr} {ns : List Int} {k s n : Int}
theorem v_drawn (hS : SqL K H a (ns.map V.int)) (h0 : 0 ≤ k) : SpV (sp_l_drawn K c) [.ref a, .int k] H (.int (gi ns k)) := fun H1 e Q q E => ⟨a, ns, k, rfl, ex_l e hS, h0, q⟩
theorem v_number (hS : SqL K H a (ns.map V.int)) (h0 : 0 ≤ k) (h1 : k ≤ 100000) : SpV (sp_l_number K c) [.ref a, .int k] H (.int (numb ns k)) := fun H1 e Q q E => ⟨a, ns, k, rfl, ex_l e hS, h0, h1, q⟩
theorem v_counts : SpV (sp_l_counts K c) [.int k] H (.bl true) := fun H1 e Q q E => ⟨k, rfl, q⟩
theorem v_size : SpV (sp_l_size K c) [.int k] H (.int (szf c.sz k)) := fun H1 e Q q E => ⟨k, rfl, q⟩
theorem v_pile (hS : SqL K H a (ns.map V.int)) (h0 : 0 ≤ s) (h1 : s ≤ 1000) (h2 : 1 ≤ n) (h3 : n ≤ 100) : SpLP (sp_l_pile K c) [.ref a, .int s, .int n] H (PileV n) := fun H1 e Q q E => ⟨a, ns, s, n, rfl, ex_l e hS, h0, h1, h2, h3, q⟩
end
end Fo
/-! FoldP2 -/
namespace Fo
open PySem L2 Evl

def RetU (xs : List V) (H : Hp) (Q : VK) : Prop := ∀ p H2, H p = none → Ex H H2 → H2 p = some (.tup xs) → Q (.ref p) H2
def sp_wraps (K : PySem.W.Frag) (c : Cs) : Sp := fun vs H Q _ => ∃ (a : Addr) (p : List Int) (i s : Int), vs = [.ref a, .int i, .int s] ∧ SqL K H a (p.map V.int) ∧ (0 ≤ i ∧ i + 1 < (p.length : Int)) ∧ (0 ≤ s ∧ s < (p.length : Int)) ∧ RetV (.bl (wr p i s)) H Q
def sp_l_wraps (K : PySem.W.Frag) (c : Cs) : Sp := sp_wraps K c
/-- None, or two that cross: any -/
def CrossR (p : List Int) (H : Hp) (Q : VK) : Prop := (NoX p → RetV .non H Q) ∧ ∀ i j : Int, XX p i j → RetU [.int i, .int j] H Q
def sp_crossing (K : PySem.W.Frag) (c : Cs) : Sp := fun vs H Q E => ∃ (a : Addr) (ns : List Int), vs = [.ref a] ∧ SqL K H a (ns.map V.int) ∧ ns.length ≤ 1000 ∧ OkOr c.np (IsPile ns) (CrossR (pl ns) H Q) H E
def sp_l_places (K : PySem.W.Frag) (c : Cs) : Sp := fun vs H Q _ => ∃ (a : Addr) (ns : List Int), vs = [.ref a] ∧ SqL K H a (ns.map V.int) ∧ ns.length ≤ 1000 ∧ IsPile ns ∧ RetL ((pl ns).map V.int) H Q
/-- fits, as the laws look at it -/
def fitsB (p : List Int) (g : Int) : Bool := (List.range p.length).all fun (k : Nat) => !(decide ((k : Int) + 1 < (p.length : Int) - 1) && decide (((p.length : Int) - 1 - (k : Int)) % 2 = 0)) || fitB p g (k : Int)
theorem fitsB_iff (p : List Int) (g : Int) : fitsB p g = true ↔ Fits p g := by
  unfold fitsB
  rw [List.all_eq_true]
  constructor
  · intro h c c0 c1 ce
    have hc : c.toNat < p.length := by omega
    have q := h c.toNat (List.mem_range.mpr hc)
    have ec : ((c.toNat : Nat) : Int) = c := by omega
    rw [ec, decide_eq_true c1, decide_eq_true ce] at q
    simpa using q
  · intro h k hk
    by_cases h1 : (k : Int) + 1 < (p.length : Int) - 1
    · by_cases h2 : ((p.length : Int) - 1 - (k : Int)) % 2 = 0
      · rw [h (k : Int) (by omega) h1 h2, Bool.or_true]
      · rw [decide_eq_false h2, Bool.and_false]
        rfl
    · rw [decide_eq_false h1]
      rfl
def sp_l_fits (K : PySem.W.Frag) (c : Cs) : Sp := fun vs H Q _ => ∃ (a : Addr) (p : List Int) (s g : Int), vs = [.ref a, .int s, .int g] ∧ SqL K H a (p.map V.int) ∧ (s = (p.length : Int) ∧ 1 ≤ s ∧ s ≤ 1000) ∧ RetV (.bl (fitsB p g)) H Q
def GoodV (n : Int) (xs : List V) : Prop := ∃ ps : List Int, xs = ps.map V.int ∧ IsPile ps ∧ (ps.length : Int) = n ∧ NoX (pl ps)
def sp_l_good (K : PySem.W.Frag) (c : Cs) : Sp := fun vs H Q _ => ∃ (a : Addr) (ns : List Int) (s n : Int), vs = [.ref a, .int s, .int n] ∧ SqL K H a (ns.map V.int) ∧ 0 ≤ s ∧ s ≤ 1000 ∧ 1 ≤ n ∧ n ≤ 100 ∧ RetP (GoodV n) H Q
def sp_l_moved (K : PySem.W.Frag) (c : Cs) : Sp := fun vs H Q _ => ∃ (a : Addr) (ps : List Int) (i j : Int), vs = [.ref a, .int i, .int j] ∧ SqL K H a (ps.map V.int) ∧ IsPile ps ∧ ps.length ≤ 1000 ∧ RetP (PileV (ps.length : Int)) H Q
def crB (p : List Int) (i j : Int) : Bool := if i = j ∨ (i - j) % 2 = 1 then false else !(wr p i j == wr p i (j + 1))
def sp_l_cross (K : PySem.W.Frag) (c : Cs) : Sp := fun vs H Q _ => ∃ (a : Addr) (p : List Int) (i j : Int), vs = [.ref a, .int i, .int j] ∧ SqL K H a (p.map V.int) ∧ (0 ≤ i ∧ i + 1 < (p.length : Int)) ∧ (0 ≤ j ∧ j + 1 < (p.length : Int)) ∧ RetV (.bl (crB p i j)) H Q
def sp_l_none_cross (K : PySem.W.Frag) (c : Cs) : Sp := fun vs H Q _ => ∃ (a : Addr) (p : List Int), vs = [.ref a] ∧ SqL K H a (p.map V.int) ∧ p.length ≤ 1000 ∧ 1 ≤ p.length ∧ RetV (.bl (noX p)) H Q
section
variable {K : PySem.W.Frag} {c : Cs} {H : Hp} {a : Addr} {ns p ps : List Int} {k s n i j g : Int}
theorem v_wraps (hS : SqL K H a (p.map V.int)) (i0 : 0 ≤ i) (i1 : i + 1 < (p.length : Int)) (s0 : 0 ≤ s) (s1 : s < (p.length : Int)) : SpV (sp_wraps K c) [.ref a, .int i, .int s] H (.bl (wr p i s)) := fun H1 e Q q E => ⟨a, p, i, s, rfl, ex_l e hS, ⟨i0, i1⟩, ⟨s0, s1⟩, q⟩
theorem v_l_wraps (hS : SqL K H a (p.map V.int)) (i0 : 0 ≤ i) (i1 : i + 1 < (p.length : Int)) (s0 : 0 ≤ s) (s1 : s < (p.length : Int)) : SpV (sp_l_wraps K c) [.ref a, .int i, .int s] H (.bl (wr p i s)) := v_wraps hS i0 i1 s0 s1
theorem v_l_places (hS : SqL K H a (ns.map V.int)) (hl : ns.length ≤ 1000) (hp : IsPile ns) : SpL (sp_l_places K c) [.ref a] H ((pl ns).map V.int) := fun H1 e Q q E => ⟨a, ns, rfl, ex_l e hS, hl, hp, q⟩
theorem v_fits (hS : SqL K H a (p.map V.int)) (hs : s = (p.length : Int)) (s1 : 1 ≤ s) (s2 : s ≤ 1000) : SpV (sp_l_fits K c) [.ref a, .int s, .int g] H (.bl (fitsB p g)) := fun H1 e Q q E => ⟨a, p, s, g, rfl, ex_l e hS, ⟨hs, s1, s2⟩, q⟩
theorem v_good (hS : SqL K H a (ns.map V.int)) (h0 : 0 ≤ s) (h1 : s ≤ 1000) (h2 : 1 ≤ n) (h3 : n ≤ 100) : SpLP (sp_l_good K c) [.ref a, .int s, .int n] H (GoodV n) := fun H1 e Q q E => ⟨a, ns, s, n, rfl, ex_l e hS, h0, h1, h2, h3, q⟩
theorem v_moved (hS : SqL K H a (ps.map V.int)) (hp : IsPile ps) (hl : ps.length ≤ 1000) : SpLP (sp_l_moved K c) [.ref a, .int i, .int j] H (PileV (ps.length : Int)) := fun H1 e Q q E => ⟨a, ps, i, j, rfl, ex_l e hS, hp, hl, q⟩
theorem v_cross (hS : SqL K H a (p.map V.int)) (i0 : 0 ≤ i) (i1 : i + 1 < (p.length : Int)) (s0 : 0 ≤ j) (s1 : j + 1 < (p.length : Int)) : SpV (sp_l_cross K c) [.ref a, .int i, .int j] H (.bl (crB p i j)) := fun H1 e Q q E => ⟨a, p, i, j, rfl, ex_l e hS, ⟨i0, i1⟩, ⟨s0, s1⟩, q⟩
theorem v_none (hS : SqL K H a (p.map V.int)) (hl : p.length ≤ 1000) (h1 : 1 ≤ p.length) : SpV (sp_l_none_cross K c) [.ref a] H (.bl (noX p)) := fun H1 e Q q E => ⟨a, p, rfl, ex_l e hS, hl, h1, q⟩
/-- found = crossing(..) -/
theorem g_cross {σ : L2.St} {ta : TA} {E : XK} {D : Ends} {tz : TS} {m : Nat} (h : EvA ta σ H [.ref a]) (hS : SqL K H a (ns.map V.int)) (hl : ns.length ≤ 1000) (hp : IsPile ns) (h1 : NoX (pl ns) → Go tz D (σ.set m (some .non)) H)
    (h2 : ∀ i j r H1, XX (pl ns) i j → H r = none → Ex H H1 → H1 r = some (.tup [.int i, .int j]) → Go tz D (σ.set m (some (.ref r))) H1) : Go (tSeq (tAsg (tCall (sp_crossing K c) [] E ta) (gName m)) tz) D σ H := fun H1 e => h H1 e _ fun H2 e2 => by
  rw [List.append_nil]
  exact ⟨a, ns, rfl, ex_l (e.trans e2) hS, hl, .yes hp ⟨fun hn H3 e3 => h1 hn H3 ((e.trans e2).trans e3), fun i j x r H3 hr e3 h3 => (h2 i j r H3 x (fresh_back (e.trans e2) hr) ((e.trans e2).trans e3) h3).here⟩⟩
end
end Fo
/-! FoldM3 -/
namespace Fo
open PySem L2 Evl

/-! ### turning -/
def rot (ps : List Int) (m : Int) : List Int := ps.drop m.toNat ++ ps.take m.toNat
theorem rot_perm (ps : List Int) (m : Int) : (rot ps m).Perm ps := by
  have h : (ps.drop m.toNat ++ ps.take m.toNat).Perm (ps.take m.toNat ++ ps.drop m.toNat) := List.perm_append_comm
  rw [List.take_append_drop] at h
  exact h
theorem rot_len (ps : List Int) (m : Int) : (rot ps m).length = ps.length := (rot_perm ps m).length_eq
theorem rot_pile {ps : List Int} (p : IsPile ps) (m : Int) : IsPile (rot ps m) :=
  ⟨by rw [rot_len]; exact p.pos, fun x hx => by rw [rot_len]; exact p.bnd x ((rot_perm ps m).mem_iff.mp hx), (rot_perm ps m).nodup_iff.mpr p.nd⟩
theorem rot_map (ps : List Int) (m : Int) : (ps.map V.int).drop m.toNat ++ (ps.map V.int).take m.toNat = (rot ps m).map V.int := by
  unfold rot
  rw [List.map_append, List.map_take, List.map_drop]
theorem rot_at {ps : List Int} {m : Int} (m0 : 0 ≤ m) (m1 : m ≤ (ps.length : Int)) {k : Int} (k0 : 0 ≤ k) (k1 : k < (ps.length : Int)) : gi (rot ps m) k = if k < (ps.length : Int) - m then gi ps (k + m) else gi ps (k + m - (ps.length : Int)) := by
  obtain ⟨i, rfl⟩ : ∃ i : Nat, m = (i : Int) := ⟨m.toNat, by omega⟩
  obtain ⟨j, rfl⟩ : ∃ j : Nat, k = (j : Int) := ⟨k.toNat, by omega⟩
  unfold rot
  rw [show ((i : Nat) : Int).toNat = i from rfl]
  have hd : (ps.drop i).length = ps.length - i := List.length_drop
  by_cases h : j < ps.length - i
  · rw [if_pos (by omega), gi_app1 (by omega), gi_drop, show ((i + j : Nat) : Int) = (j : Int) + (i : Int) by omega]
  · rw [if_neg (by omega), gi_app2 (by omega), hd, gi_take (by omega), show ((j - (ps.length - i) : Nat) : Int) = (j : Int) + (i : Int) - (ps.length : Int) by omega]
structure Rot (p q : List Int) (m : Int) : Prop where
  len : q.length = p.length
  at' : ∀ s : Int, 0 ≤ s → s < (p.length : Int) → gi q s = if gi p s < m then gi p s + (p.length : Int) - m else gi p s - m
theorem rot_rot {ps : List Int} (p : IsPile ps) {m : Int} (m0 : 0 ≤ m) (m1 : m < (ps.length : Int)) : Rot (pl ps) (pl (rot ps m)) m := by
  have pr := rot_pile p m
  have hl := rot_len ps m
  refine ⟨by rw [pl_len, pl_len, hl], fun s s0 s1 => ?_⟩
  rw [pl_len] at s1 ⊢
  obtain ⟨a0, a1, a2⟩ := p.at s0 s1
  split
  · rename_i h
    have e : gi (rot ps m) (gi (pl ps) s + (ps.length : Int) - m) = s := by
      rw [rot_at m0 (by omega) (by omega) (by omega), if_neg (by omega), show gi (pl ps) s + (ps.length : Int) - m + m - (ps.length : Int) = gi (pl ps) s by omega, a2]
    have q := (pr.st (k := gi (pl ps) s + (ps.length : Int) - m) (by omega) (by omega)).2.2
    rw [e] at q
    exact q
  · rename_i h
    have e : gi (rot ps m) (gi (pl ps) s - m) = s := by
      rw [rot_at m0 (by omega) (by omega) (by omega), if_pos (by omega), show gi (pl ps) s - m + m = gi (pl ps) s by omega, a2]
    have q := (pr.st (k := gi (pl ps) s - m) (by omega) (by omega)).2.2
    rw [e] at q
    exact q
def tn (n m x : Int) : Int := if x < m then x + n - m else x - m
theorem tn_lt {n m x y : Int} (x0 : 0 ≤ x) (x1 : x < n) (y0 : 0 ≤ y) (y1 : y < n) (m0 : 0 ≤ m) (m1 : m < n) : tn n m x < tn n m y ↔ ((x < y ↔ (x < m ↔ y < m)) ∧ x ≠ y) := by
  unfold tn
  split <;> split <;> omega
theorem turn_cross {n m x y z w : Int} (x0 : 0 ≤ x) (x1 : x < n) (y0 : 0 ≤ y) (y1 : y < n) (z0 : 0 ≤ z) (z1 : z < n) (w0 : 0 ≤ w) (w1 : w < n) (m0 : 0 ≤ m) (m1 : m < n)
    (xz : x ≠ z) (xw : x ≠ w) (yz : y ≠ z) (yw : y ≠ w) (h : wrB (tn n m x) (tn n m y) (tn n m z) = wrB (tn n m x) (tn n m y) (tn n m w)) : wrB x y z = wrB x y w := by
  rw [Bool.eq_iff_iff, wrB_iff, wrB_iff] at h ⊢
  unfold tn at h
  split at h <;> split at h <;> split at h <;> split at h <;> omega
theorem turn_cross' {n m x y z w : Int} (x0 : 0 ≤ x) (x1 : x < n) (y0 : 0 ≤ y) (y1 : y < n) (z0 : 0 ≤ z) (z1 : z < n) (w0 : 0 ≤ w) (w1 : w < n) (m0 : 0 ≤ m) (m1 : m < n)
    (xz : x ≠ z) (xw : x ≠ w) (yz : y ≠ z) (yw : y ≠ w) (h : wrB x y z = wrB x y w) : wrB (tn n m x) (tn n m y) (tn n m z) = wrB (tn n m x) (tn n m y) (tn n m w) := by
  rw [Bool.eq_iff_iff, wrB_iff, wrB_iff] at h ⊢
  unfold tn
  split <;> split <;> split <;> split <;> omega
theorem XX_rot {ps : List Int} (p : IsPile ps) {m : Int} (m0 : 0 ≤ m) (m1 : m < (ps.length : Int)) (i j : Int) : XX (pl (rot ps m)) i j ↔ XX (pl ps) i j := by
  have r := rot_rot p m0 m1
  have hl := r.len
  have key : ∀ i0 : 0 ≤ i, ∀ ij : i < j, ∀ jn : j + 1 < (ps.length : Int), (j - i) % 2 = 0 → (wr (pl (rot ps m)) i j = wr (pl (rot ps m)) i (j + 1) ↔ wr (pl ps) i j = wr (pl ps) i (j + 1)) := fun i0 ij jn ev => by
    obtain ⟨a0, a1, _⟩ := p.at (s := i) (by omega) (by omega)
    obtain ⟨b0, b1, _⟩ := p.at (s := i + 1) (by omega) (by omega)
    obtain ⟨c0, c1, _⟩ := p.at (s := j) (by omega) (by omega)
    obtain ⟨d0, d1, _⟩ := p.at (s := j + 1) (by omega) (by omega)
    have n1 := p.ne (s := i) (t := j) (by omega) (by omega) (by omega) (by omega) (by omega)
    have n2 := p.ne (s := i) (t := j + 1) (by omega) (by omega) (by omega) (by omega) (by omega)
    have n3 := p.ne (s := i + 1) (t := j) (by omega) (by omega) (by omega) (by omega) (by omega)
    have n4 := p.ne (s := i + 1) (t := j + 1) (by omega) (by omega) (by omega) (by omega) (by omega)
    have e : ∀ s : Int, 0 ≤ s → s < (ps.length : Int) → gi (pl (rot ps m)) s = tn (ps.length : Int) m (gi (pl ps) s) := fun s s0 s1 => by
      rw [r.at' s s0 (by rw [pl_len]; exact s1), pl_len]
      rfl
    unfold wr
    rw [e i (by omega) (by omega), e (i + 1) (by omega) (by omega), e j (by omega) (by omega), e (j + 1) (by omega) (by omega)]
    exact ⟨turn_cross a0 a1 b0 b1 c0 c1 d0 d1 m0 m1 n1 n2 n3 n4, turn_cross' a0 a1 b0 b1 c0 c1 d0 d1 m0 m1 n1 n2 n3 n4⟩
  rw [pl_len] at hl
  have hl2 := pl_len (rot ps m)
  have hl3 := pl_len ps
  constructor
  · intro x
    have h1 := x.jn
    exact ⟨x.i0, x.ij, by omega, x.even, fun z => x.ne ((key x.i0 x.ij (by omega) x.even).mpr z)⟩
  · intro x
    have h1 := x.jn
    exact ⟨x.i0, x.ij, by omega, x.even, fun z => x.ne ((key x.i0 x.ij (by omega) x.even).mp z)⟩
theorem noX_rot {ps : List Int} (p : IsPile ps) {m : Int} (m0 : 0 ≤ m) (m1 : m < (ps.length : Int)) : NoX (pl (rot ps m)) ↔ NoX (pl ps) :=
  ⟨fun h i j x => h i j ((XX_rot p m0 m1 i j).mpr x), fun h i j x => h i j ((XX_rot p m0 m1 i j).mp x)⟩
end Fo
/-! FoldP3 -/
namespace Fo
open PySem L2 Evl

def sp_turned (K : PySem.W.Frag) (c : Cs) : Sp := fun vs H Q E => ∃ (a : Addr) (ns : List Int) (by' : Int), vs = [.ref a, .int by'] ∧ SqL K H a (ns.map V.int) ∧ ns.length ≤ 1000 ∧ OkOr c.np (IsPile ns) (RetL ((rot ns (by' % (ns.length : Int))).map V.int) H Q) H E
def sp_l_same_row (K : PySem.W.Frag) (c : Cs) : Sp := fun vs H Q _ => ∃ (a b : Addr) (ns : List Int), vs = [.ref a, .ref b] ∧ H a = some (.lst (ns.map V.int)) ∧ SqL K H b (ns.map V.int) ∧ ns.length ≤ 1000 ∧ RetV (.bl true) H Q
def sp_l_cross_told (K : PySem.W.Frag) (c : Cs) : Sp := fun vs H Q _ => ∃ (a r : Addr) (p : List Int) (i j : Int), vs = [.ref a, .ref r] ∧ SqL K H a (p.map V.int) ∧ H r = some (.tup [.int i, .int j]) ∧ XX p i j ∧ RetV (.bl true) H Q
/-- the letters of a crease are two just where its stamps were parted -/
def Parted (p p' : List Int) (m : Int) : Prop := p'.length = p.length ∧ ∀ k : Int, 0 ≤ k → k + 1 < (p.length : Int) → (((gi p k < gi p (k + 1)) ↔ (gi p' k < gi p' (k + 1))) ↔ (gi p k < m ↔ gi p (k + 1) < m))
def sp_l_letters_turned (K : PySem.W.Frag) (c : Cs) : Sp := fun vs H Q _ => ∃ (a : Addr) (p p' : List Int) (m : Int), vs = [.ref a, .int m, .str (txt (lets p)), .str (txt (lets p'))] ∧ SqL K H a (p.map V.int) ∧ 1 ≤ p.length ∧ p.length ≤ 1000 ∧ Parted p p' m ∧ RetV (.bl true) H Q
theorem parted_rot {ps : List Int} (p : IsPile ps) {m : Int} (m0 : 0 ≤ m) (m1 : m < (ps.length : Int)) : Parted (pl ps) (pl (rot ps m)) m := by
  have r := rot_rot p m0 m1
  refine ⟨r.len, fun k k0 k1 => ?_⟩
  have hl := pl_len ps
  obtain ⟨a0, a1, _⟩ := p.at (s := k) (by omega) (by omega)
  obtain ⟨b0, b1, _⟩ := p.at (s := k + 1) (by omega) (by omega)
  have n1 := p.ne (s := k) (t := k + 1) (by omega) (by omega) (by omega) (by omega) (by omega)
  rw [r.at' k (by omega) (by omega), r.at' (k + 1) (by omega) (by omega), hl]
  split <;> split <;> omega
section
variable {K : PySem.W.Frag} {c : Cs} {H : Hp} {a b r : Addr} {ns p p' ps : List Int} {k s n i j g m : Int}
theorem v_turned (hS : SqL K H a (ns.map V.int)) (hl : ns.length ≤ 1000) (hp : IsPile ns) : SpL (sp_turned K c) [.ref a, .int k] H ((rot ns (k % (ns.length : Int))).map V.int) := fun H1 e Q q E => ⟨a, ns, k, rfl, ex_l e hS, hl, .yes hp q⟩
theorem v_same (h1 : H a = some (.lst (ns.map V.int))) (h2 : SqL K H b (ns.map V.int)) (hl : ns.length ≤ 1000) : SpV (sp_l_same_row K c) [.ref a, .ref b] H (.bl true) := fun H1 e Q q E => ⟨a, b, ns, rfl, e a _ h1, ex_l e h2, hl, q⟩
theorem v_told (hS : SqL K H a (p.map V.int)) (hr : H r = some (.tup [.int i, .int j])) (x : XX p i j) : SpV (sp_l_cross_told K c) [.ref a, .ref r] H (.bl true) := fun H1 e Q q E => ⟨a, r, p, i, j, rfl, ex_l e hS, e r _ hr, x, q⟩
theorem v_parted (hS : SqL K H a (p.map V.int)) (h1 : 1 ≤ p.length) (h2 : p.length ≤ 1000) (hp : Parted p p' m) : SpV (sp_l_letters_turned K c) [.ref a, .int m, .str (txt (lets p)), .str (txt (lets p'))] H (.bl true) := fun H1 e Q q E => ⟨a, p, p', m, rfl, ex_l e hS, h1, h2, hp, q⟩
/-- a call whose one argument is a new list -/
theorem ev_call1L {σ : L2.St} {sp : Sp} {E : XK} {te : TE} {xs : List V} {z : V} (h : EvL te σ H xs) (hs : ∀ q H1, H1 q = some (.lst xs) → Ex H H1 → SpV sp [.ref q] H1 z) : Ev (tCall sp [] E (tCons te tNil)) σ H z := fun H1 e Q k =>
  h H1 e _ fun q H2 hq e2 h2 => by
    show sp ([.ref q] ++ []) H2 Q E
    exact hs q H2 h2 (e.trans e2) H2 (Ex.refl H2) Q (fun H3 e3 => k H3 (e2.trans e3)) E
/-- found = crossing(a new list) -/
theorem g_crossN {σ : L2.St} {te : TE} {E : XK} {D : Ends} {tz : TS} {m : Nat} (h : EvL te σ H (ns.map V.int)) (hl : ns.length ≤ 1000) (hp : IsPile ns) (h1 : NoX (pl ns) → Go tz D (σ.set m (some .non)) H)
    (h2 : ∀ i j r H1, XX (pl ns) i j → H r = none → Ex H H1 → H1 r = some (.tup [.int i, .int j]) → Go tz D (σ.set m (some (.ref r))) H1) : Go (tSeq (tAsg (tCall (sp_crossing K c) [] E (tCons te tNil)) (gName m)) tz) D σ H := fun H1 e => h H1 e _ fun b H2 hb e2 hb2 => by
  show sp_crossing K c ([.ref b] ++ []) H2 _ E
  exact ⟨b, ns, rfl, sq_lst hb2, hl, .yes hp ⟨fun hn H3 e3 => h1 hn H3 ((e.trans e2).trans e3), fun i j x r H3 hr e3 h3 => (h2 i j r H3 x (fresh_back (e.trans e2) hr) ((e.trans e2).trans e3) h3).here⟩⟩
/-- ways that raise -/
theorem evx_op2 {σ : L2.St} {r : R2} {ta tb : TE} {x : V} (h1 : Ev ta σ H x) (h2 : EvX tb σ H) : EvX (tOp r ta tb) σ H := fun H1 e Q => h1 H1 e _ fun H2 e2 => h2 H2 (e.trans e2) _
theorem evx_cb1 {σ : L2.St} {r : List V → Hp → VK → Prop} {te : TE} (h : EvX te σ H) : EvX (tCB r (tCons te tNil)) σ H := fun H1 e Q => h H1 e _
end
end Fo
/-! FoldB -/
namespace Fo
open PySem PySem.Spec PyProof.Rows L2 Evl

/-! ### enumerate(a text): each sign in a new pair -/
def IteS (z : Str) : It :=
  ⟨fun i _ => i < z.cps.size, fun i H v H' => ∃ T c, v = .ref T ∧ H T = none ∧ H' = upd H T (.tup [.int (i : Nat), .str ⟨#[c]⟩]) ∧ z.cps[i]? = some c, fun i _ => z.cps.size ≤ i⟩
theorem turn_enumS {P : Program} {w : World} {K : PySem.W.Frag} {elts : List Expr} {kk : Nat} {tpos : Pos} (z : Str) (t : Tok) (ty : String) (hty : ty = "str_ascii_iterator" ∨ ty = "str_iterator") (e it : Addr) :
    Turn P w K (.Tuple elts kk tpos) (IteS z) [e, it] e (fun i h => (∃ old, IsEnum h e it ((i : Nat) : Int) old) ∧ h.IsStrIter it ty z t i ∧ e ≠ it ∧ i ≤ z.cps.size) where
  mem := by simp
  obj := fun i h st b hb => by
    obtain ⟨⟨old, he⟩, ⟨o, ho, hc, hd⟩, _⟩ := st
    have e' : b = e ∨ b = it := by simpa using hb
    rcases e' with y | y
    · rw [y]; exact ⟨_, he, fun v q => nomatch q⟩
    · rw [y]; exact ⟨o, ho, fun v q => by rw [hd] at q; cases q⟩
  keep := fun i h h' st k => by
    obtain ⟨⟨old, he⟩, ⟨o, ho, r⟩, hne⟩ := st
    exact ⟨⟨old, k e (by simp) _ he⟩, ⟨o, k it (by simp) o ho, r⟩, hne⟩
  item := by
    intro X hP hw hK hc i pins s σ H E I hf st hg
    subst hP hw hK
    obtain ⟨⟨old, he⟩, hit, hne, _⟩ := st
    have hel : e < s.heap.objs.size := Heap.lt_size he
    have hil : it < s.heap.objs.size := by obtain ⟨_, q, _⟩ := hit; exact Heap.lt_size q
    have D : Draws X.prog X.w X.A.in1 it [it] z.cps.size (fun i v => ∃ c u, z.cps[i]? = some c ∧ v = .str ⟨#[c]⟩ u) (fun i h => h.IsStrIter it ty z t i) := by
      rcases hty with y | y
      · rw [y]; exact Draws.strAscii (A := X.A.in1) (I.ok.hd hc) it z t
      · rw [y]; exact Draws.strWide (A := X.A.in1) (I.ok.hd hc) it z t
    refine wpAny_pyNext_enum_itemD D he hit hg hne (by simpa using hne) fun u h' tk hP ho hit' hT hsz hk => ?_
    obtain ⟨c, uu, hcx, rfl⟩ := hP
    refine ⟨_, rfl, wpAny_letOwnedTupleGo_enum (s := { s with heap := h', toks := tk + 1 }) ho fun h'' he' sb => ?_⟩
    have hT2 : h''.get? s.heap.objs.size = some { cls := .type "tuple", data := .seq #[.int i tk, .str ⟨#[c]⟩ uu] } := (sb.2 _ (Nat.ne_of_gt hel)).trans hT
    have new : ObjOk X.prog X.w (upd H s.heap.objs.size (.tup [.int (i : Nat), .str ⟨#[c]⟩])) h'' s.heap.objs.size (.tup [.int (i : Nat), .str ⟨#[c]⟩]) :=
      ⟨by show 2 ≤ sizeLine; decide, [.int i tk, .str ⟨#[c]⟩ uu], .cons ⟨_, rfl⟩ (.cons ⟨_, rfl⟩ .nil), ⟨_, hT2, rfl, _, rfl⟩⟩
    have I1 : Inv X pins σ (upd H s.heap.objs.size (.tup [.int (i : Nat), .str ⟨#[c]⟩])) { s with heap := h'', toks := tk + 1 } :=
      I.turnedNew (ch := [e, it]) (fun b ob hb q => (sb.2 b (fun y => hb (by simp [y]))).trans (hk b ob (fun y => hb (by simp [y])) (fun y => hb (by simp [y])) q)) hf (Nat.le_refl _) new
    refine ⟨.ref s.heap.objs.size, _, I1, rfl, ⟨_, c, rfl, I.hok.fresh (Nat.le_refl _), rfl, hcx⟩, ⟨⟨.str ⟨#[c]⟩ uu, ?_⟩, ?_, hne, hg⟩, fun b hb => ?_⟩
    · have e1 : ((i + 1 : Nat) : Int) = (i : Int) + 1 := by omega
      rw [e1]; exact he'
    · obtain ⟨o, ho2, r⟩ := hit'
      exact ⟨o, (sb.2 it (Ne.symm hne)).trans ho2, r⟩
    · have hb' : b < s.heap.objs.size := by
        have e' : b = e ∨ b = it := by simpa using hb
        rcases e' with y | y
        · rw [y]; exact hel
        · rw [y]; exact hil
      rw [upd_ne (Nat.ne_of_lt hb')]
      exact (hf b hb).1
  done := by
    intro X hP hw hK hc i pins s σ H E I hf st hg
    subst hP hw hK
    obtain ⟨⟨old, he⟩, hit, hne, hle⟩ := st
    obtain ⟨f0, f1, f2, f3, f4, f5⟩ := hf it (by simp)
    have D : Draws X.prog X.w X.A.in1 it [it] z.cps.size (fun i v => ∃ c u, z.cps[i]? = some c ∧ v = .str ⟨#[c]⟩ u) (fun i h => h.IsStrIter it ty z t i) := by
      rcases hty with y | y
      · rw [y]; exact Draws.strAscii (A := X.A.in1) (I.ok.hd hc) it z t
      · rw [y]; exact Draws.strWide (A := X.A.in1) (I.ok.hd hc) it z t
    have hi : i = z.cps.size := Nat.le_antisymm hle hg
    subst hi
    exact wpAny_pyNext_enum_endD D he hit fun h' eb => ⟨rfl, I.turned (t' := s.toks) (fun b o hb q => eb b o hb q) f0 f1 f3 f4 f5⟩
  self := fun A i s Q E st h => let ⟨⟨_, he⟩, _⟩ := st; wpAny_pyIter_enum he h
def iEnumS (ta : TA) : TI := fun σ H R => ta σ H fun vs H1 => ∃ z, vs = [.str z] ∧ R (IteS z) H1
theorem pi_enumS {X : Cx} {e : Expr} {ta : TA} {p pos tpos : Pos} {elts : List Expr} {kk : Nat} (hg : Gl X "enumerate") (hm : X.mg "enumerate" = none) (ha : PA X [e] ta) (hs : starEach [e] X.env = [(false, eval e X.env)] := by rfl) :
    PI X (.Tuple elts kk tpos) (.Call (.Name "enumerate" p) [e] [] pos) (iEnumS ta) := by
  refine ⟨fun pins s σ H R I h => ?_⟩
  refine Call_ (ld_blt I hg hm boot_enumerate (PyProof.Rows.callWith_type1 (thn (ha.run pos pins s σ H _ I h) fun us s1 ⟨vs, H1, I1, r1, q1⟩ => ?_) hs rfl))
  obtain ⟨z, ex, q⟩ := q1
  subst ex
  cases r1 with
  | cons r rr =>
    cases rr
    obtain ⟨t, rfl⟩ := r
    refine call_enumerate_str fun h' he hit hsz hk => wpAny_pyIter_enum he ?_
    have I2 : Inv X pins σ H1 { s1 with heap := h' } := I1.kept (t' := s1.toks) hk
    have hty : strIterType z = "str_ascii_iterator" ∨ strIterType z = "str_iterator" := by
      unfold strIterType
      split
      · exact .inl rfl
      · exact .inr rfl
    refine ⟨s1.heap.objs.size + 1, [s1.heap.objs.size + 1, s1.heap.objs.size], _, _, H1, rfl, I2, turn_enumS z t (strIterType z) hty (s1.heap.objs.size + 1) s1.heap.objs.size, ⟨⟨.none, he⟩, hit, Nat.succ_ne_self _, Nat.zero_le _⟩, fun b hb => ?_, q⟩
    have e' : b = s1.heap.objs.size + 1 ∨ b = s1.heap.objs.size := by simpa using hb
    have hle : s1.heap.objs.size ≤ b := by
      rcases e' with y | y
      · rw [y]; exact Nat.le_add_right _ _
      · rw [y]; exact Nat.le_refl _
    exact I1.fpOk hle (I1.hok.fresh hle)
theorem walk_enumS {z : Str} : Walk (IteS z) z.cps.size (fun _ => True) (YPair (fun i => some (.int (i : Nat))) (fun i => z.cps[i]?.map fun c => .str ⟨#[c]⟩)) := by
  refine ⟨fun i _ hi _ => hi, fun _ _ => Nat.le_refl _, fun i H v H' _ _ y => ?_⟩
  obtain ⟨T, c, h1, h2, h3, h4⟩ := y
  exact ⟨T, .int (i : Nat), .str ⟨#[c]⟩, h1, h2, h3, rfl, by show (z.cps[i]?.map fun c => V.str ⟨#[c]⟩) = _; rw [h4]; rfl⟩
section
variable {K : PySem.W.Frag} {σ : L2.St} {H : Hp} {ta tb te tl : TE} {D : Ends} {tu tz : TS} {v x : V}
/-- for i, x in enumerate(text) -/
theorem g_forES {j k : Nat} {l : List Nat} (h : Ev te σ H (.str (txt l))) (Pv : Nat → L2.St → Hp → Prop) (h0 : ∀ H1, Ex H H1 → Pv 0 σ H1)
    (hs : ∀ (i : Nat) c T σ' H', l[i]? = some c → Pv i σ' H' → H' T = none → Go tu { D with nx := Pv (i + 1), ct := Pv (i + 1), bk := tz D } ((σ'.set j (some (.int (i : Int)))).set k (some (.str ⟨#[c]⟩))) (upd H' T (.tup [.int (i : Int), .str ⟨#[c]⟩]))) (hd : ∀ σ' H', Pv l.length σ' H' → Go tz D σ' H') :
    Go (tSeq (tFor (iEnumS (tCons te tNil)) (gTup K 2 (gCons (gName j) (gCons (gName k) gNil))) tu) tz) D σ H := fun H0 e0 =>
  h H0 e0 _ fun H1 e => ⟨txt l, rfl, for_it walk_enumS Pv (h0 H1 (e0.trans e)) (fun _ _ _ _ _ => trivial) (fun i x σ' H' H'' hi p y => by
    obtain ⟨T, u, w, rfl, hT, rfl, h4, h5⟩ := y
    cases h4
    have h6 : (txt l).cps[i]? = l[i]? := by simp [txt]
    have h5 : ((txt l).cps[i]?.map fun c => V.str ⟨#[c]⟩) = some w := h5
    rw [h6] at h5
    cases hl : l[i]? with
    | none => rw [hl] at h5; cases h5
    | some c =>
      rw [hl] at h5
      cases h5
      exact ⟨T, [.int (i : Int), .str ⟨#[c]⟩], rfl, .inl (.inl upd_same), rfl, .int (i : Int), [.str ⟨#[c]⟩], rfl, .str ⟨#[c]⟩, [], rfl, rfl, (hs i c T σ' H' hl p hT).here⟩) (fun σ' H' p => (hd σ' H' (by have e9 : (txt l).cps.size = l.length := by { simp [txt] }; rw [e9] at p; exact p)).here)⟩
/-- for x in text -/
theorem g_forS {j : Nat} {l : List Nat} (h : Ev te σ H (.str (txt l))) (Pv : Nat → L2.St → Hp → Prop) (h0 : ∀ H1, Ex H H1 → Pv 0 σ H1)
    (hs : ∀ (i : Nat) c σ' H', l[i]? = some c → Pv i σ' H' → Go tu { D with nx := Pv (i + 1), ct := Pv (i + 1), bk := tz D } (σ'.set j (some (.str ⟨#[c]⟩))) H') (hd : ∀ σ' H', Pv l.length σ' H' → Go tz D σ' H') :
    Go (tSeq (tFor (iStr te) (gName j) tu) tz) D σ H := fun H0 e0 =>
  h H0 e0 _ fun H1 e => ⟨txt l, rfl, for_it walk_str Pv (h0 H1 (e0.trans e)) (fun _ _ _ _ _ => trivial) (fun i x σ' H' H'' hi p y => by
    obtain ⟨e7, c, h5, e8⟩ := y
    subst e8
    have h6 : (txt l).cps[i]? = l[i]? := by simp [txt]
    rw [h6] at h5
    rw [e7]
    exact (hs i c σ' H' h5 p).here) (fun σ' H' p => (hd σ' H' (by have e9 : (txt l).cps.size = l.length := by { simp [txt] }; rw [e9] at p; exact p)).here)⟩
/-! ### insert, index -/
def rInsert : V → List V → Hp → VK → Prop := fun x vs H Q => ∃ (l : Addr) (xs : List V) (i : Int) (y : V), x = .ref l ∧ vs = [.int i, y] ∧ H l = some (.lst xs) ∧ xs.length < sizeLine ∧ 0 ≤ i ∧ i < 2 ^ 63 ∧
    Q .non (upd H l (.lst (xs.take i.toNat ++ [y] ++ xs.drop i.toNat)))
theorem g_insert {l : Addr} {xs : List V} {i : Int} (hl : H l = some (.lst xs)) (ha : Ev ta σ H (.ref l)) (hb : Ev tb σ H (.int i)) (h : Ev te σ H v) (hz : xs.length < 100000) (h0 : 0 ≤ i) (h1 : i < 100000) (k : ∀ H1, Ex H H1 → tz D σ (upd H1 l (.lst (xs.take i.toNat ++ [v] ++ xs.drop i.toNat)))) :
    Go (tSeq (tDrop (tBM K "list" rInsert ta (tCons tb (tCons te tNil)))) tz) D σ H := fun H1 e1 => ha H1 e1 _ fun H2 e2 =>
  ⟨Or.inl ⟨rfl, xs, sq_of ((e1.trans e2) l _ hl)⟩, hb H2 (e1.trans e2) _ fun H3 e3 => h H3 ((e1.trans e2).trans e3) _ fun H4 e4 =>
    ⟨l, xs, i, v, rfl, rfl, (((e1.trans e2).trans e3).trans e4) l _ hl, sz_lt hz, h0, by omega, k H4 (((e1.trans e2).trans e3).trans e4)⟩⟩
theorem ev_index {p : Addr} {ns : List Int} {i : Int} (ha : Ev ta σ H (.ref p)) (hb : Ev tb σ H (.int i)) (hs : SqL K H p (ns.map V.int)) (hm : i ∈ ns) : Ev (tBM K "list" (rIndex K) ta (tCons tb tNil)) σ H (.int ((ns.idxOf i : Nat) : Int)) := fun H1 e Q q =>
  ha H1 e _ fun H2 e2 => ⟨Or.inl ⟨rfl, _, ex_l (e.trans e2) hs⟩, hb H2 (e.trans e2) _ fun H3 e3 =>
    ⟨p, ns.map V.int, .int i, ns.idxOf i, .int i, rfl, rfl, ex_l ((e.trans e2).trans e3) hs, rfl, List.all_eq_true.mpr fun y hy => by
        obtain ⟨z, _, rfl⟩ := List.mem_map.mp hy
        rfl, by
        rw [List.getElem?_map, List.getElem?_eq_getElem (List.idxOf_lt_length_iff.mpr hm), List.getElem_idxOf]
        rfl, by simp [eqV], fun m z' hlt hz => by
        have hm2 : m < ns.length := Nat.lt_trans hlt (List.idxOf_lt_length_iff.mpr hm)
        rw [List.getElem?_map, List.getElem?_eq_getElem hm2] at hz
        cases hz
        have h9 := List.not_of_lt_findIdx (p := (· == i)) (xs := ns) (i := m) hlt
        simpa [eqV] using h9, q H3 (e2.trans e3)⟩⟩
end
end Fo
/-! FoldP4 -/
namespace Fo
open PySem L2 Evl

def Letters (l : List Nat) : Prop := ∀ c ∈ l, c = 86 ∨ c = 77
def sp_look_at (K : PySem.W.Frag) (c : Cs) : Sp := fun vs H Q E => ∃ l : List Nat, vs = [.str (txt l)] ∧ l.length ≤ 1000 ∧ OkOr c.nl (Letters l) (RetV .non H Q) H E
def MadeV (l : List Nat) (xs : List V) : Prop := ∃ ps : List Int, xs = ps.map V.int ∧ IsPile ps ∧ ps.length = l.length + 1 ∧ NoX (pl ps) ∧ lets (pl ps) = l
def sp_pile_of (K : PySem.W.Frag) (c : Cs) : Sp := fun vs H Q E => ∃ l : List Nat, vs = [.str (txt l)] ∧ l.length ≤ 1000 ∧ OkOr c.nl (Letters l) (RetP (MadeV l) H Q) H E
def sp_l_is_pile (K : PySem.W.Frag) (c : Cs) : Sp := fun vs H Q _ => ∃ (a : Addr) (ns : List Int), vs = [.ref a, .int (ns.length : Int)] ∧ H a = some (.lst (ns.map V.int)) ∧ IsPile ns ∧ ns.length ≤ 1000 ∧ RetV (.bl true) H Q
/-- a value that keeps a word -/
def EvR (te : TE) (σ : L2.St) (H : Hp) (P : V → Prop) : Prop := ∀ H1, Ex H H1 → ∀ Q : VK, (∀ v H2, P v → Ex H1 H2 → Q v H2) → te σ H1 Q
def SpR (sp : Sp) (vs : List V) (H : Hp) (P : V → Prop) : Prop := ∀ H1, Ex H H1 → ∀ Q : VK, (∀ v H2, P v → Ex H1 H2 → Q v H2) → ∀ E : XK, sp vs H1 Q E
def RetR (P : V → Prop) (H : Hp) (Q : VK) : Prop := ∀ v H2, P v → Ex H H2 → Q v H2
theorem evr_call {sp : Sp} {vs : List V} {E : XK} {ta : TA} {σ : L2.St} {H : Hp} {P : V → Prop} (h : EvA ta σ H vs) (hs : SpR sp vs H P) : EvR (tCall sp [] E ta) σ H P := fun H1 e Q q =>
  h H1 e _ fun H2 e2 => by
    rw [List.append_nil]
    exact hs H2 (e.trans e2) Q (fun v H3 hP e3 => q v H3 hP (e2.trans e3)) E
theorem g_asgR {te : TE} {σ : L2.St} {H : Hp} {P : V → Prop} {i : Nat} {D : Ends} {tz : TS} (h : EvR te σ H P) (k : ∀ v H1, P v → Ex H H1 → Go tz D (σ.set i (some v)) H1) :
    Go (tSeq (tAsg te (gName i)) tz) D σ H := fun H1 e => h H1 e _ fun v H2 hP e2 => (k v H2 hP (e.trans e2)).here
theorem g_dropX {te : TE} {σ : L2.St} {H : Hp} {D : Ends} {tz : TS} (h : EvX te σ H) : Go (tSeq (tDrop te) tz) D σ H := fun H1 e => h H1 e _
theorem g_aug {σ : L2.St} {H : Hp} {D : Ends} {tz : TS} {te : TE} {i : Nat} {f : Int → Int → Int} {a b : Int} (hx : σ[i]? = some (some (.int a))) (h : Ev te σ H (.int b)) (k : Go tz D (σ.set i (some (.int (f a b)))) H) : Go (tSeq (tAug i te (ipI f)) tz) D σ H := fun H1 e =>
  q_aug hx (h.mono e) fun H2 e2 => k H2 (e.trans e2)
def RowV (n : Int) (v : V) : Prop := ∃ l : List Nat, v = .str (txt l) ∧ (l.length : Int) = n ∧ Letters l
def sp_l_row (K : PySem.W.Frag) (c : Cs) : Sp := fun vs H Q _ => ∃ (a : Addr) (ns : List Int) (n : Int), vs = [.ref a, .int n] ∧ SqL K H a (ns.map V.int) ∧ 0 ≤ n ∧ n ≤ 100 ∧ RetR (RowV n) H Q
section
variable {K : PySem.W.Frag} {c : Cs} {H : Hp} {a : Addr} {ns : List Int} {l : List Nat} {n : Int}
theorem v_look (hl : l.length ≤ 1000) (h : Letters l) : SpV (sp_look_at K c) [.str (txt l)] H .non := fun H1 e Q q E => ⟨l, rfl, hl, .yes h q⟩
theorem x_look {E : XK} (hl : l.length ≤ 1000) (h : ¬ Letters l) (hx : ∀ H', Ex H H' → E (.ref c.nl) none H') : ∀ H1, Ex H H1 → ∀ Q : VK, sp_look_at K c [.str (txt l)] H1 Q E := fun H1 e Q => ⟨l, rfl, hl, .no h fun H' e' => hx H' (e.trans e')⟩
theorem v_pile_of (hl : l.length ≤ 1000) (h : Letters l) : SpLP (sp_pile_of K c) [.str (txt l)] H (MadeV l) := fun H1 e Q q E => ⟨l, rfl, hl, .yes h q⟩
theorem v_is_pile (h1 : H a = some (.lst (ns.map V.int))) (hp : IsPile ns) (hl : ns.length ≤ 1000) (hn : n = (ns.length : Int)) : SpV (sp_l_is_pile K c) [.ref a, .int n] H (.bl true) := by
  subst hn
  exact fun H1 e Q q E => ⟨a, ns, rfl, e a _ h1, hp, hl, q⟩
theorem v_row (hS : SqL K H a (ns.map V.int)) (h0 : 0 ≤ n) (h1 : n ≤ 100) : SpR (sp_l_row K c) [.ref a, .int n] H (RowV n) := fun H1 e Q q E => ⟨a, ns, n, rfl, ex_l e hS, h0, h1, q⟩
end
/-! ### the letters behind the next stamp -/
theorem lets_len (l : List Int) : (lets l).length = l.length - 1 := by simp [lets]
theorem lets_get {l : List Int} {k : Nat} (h : k < l.length - 1) : (lets l)[k]? = some (if (decide (gi l (k : Int) < gi l ((k : Int) + 1)) == decide ((k : Int) % 2 = 0)) = true then 86 else 77) := by
  unfold lets
  rw [List.getElem?_map, List.getElem?_range h]
  rfl
theorem lets_getD {p : List Int} {k : Nat} (h : k < p.length - 1) : (lets p).getD k 0 = if (decide (gi p (k : Int) < gi p ((k : Int) + 1)) == decide ((k : Int) % 2 = 0)) = true then 86 else 77 := by
  rw [List.getD_eq_getElem?_getD, lets_get h]
  rfl
theorem lets_letters (p : List Int) : Letters (lets p) := fun c hc => by
  unfold lets at hc
  obtain ⟨k, _, rfl⟩ := List.mem_map.mp hc
  split
  · exact .inl rfl
  · exact .inr rfl
theorem lets_next {p q : List Int} {g : Int} (h : Next p q g) (hp : 1 ≤ p.length) : lets q = lets p ++ [if (decide (gi p ((p.length : Int) - 1) < g) == decide (((p.length : Int) - 1) % 2 = 0)) = true then 86 else 77] := by
  have hl := h.len
  refine List.ext_getElem? fun k => ?_
  have l1 := lets_len p
  have l2 := lets_len q
  by_cases hk : k < p.length - 1
  · rw [List.getElem?_append_left (by omega), lets_get hk, lets_get (by omega), h.old (k : Int) (by omega) (by omega), h.old ((k : Int) + 1) (by omega) (by omega)]
    have e : decide ((if gi p (k : Int) < g then gi p (k : Int) else gi p (k : Int) + 1) < (if gi p ((k : Int) + 1) < g then gi p ((k : Int) + 1) else gi p ((k : Int) + 1) + 1)) = decide (gi p (k : Int) < gi p ((k : Int) + 1)) := by
      rw [decide_eq_decide]
      split <;> split <;> omega
    rw [e]
  · by_cases hk2 : k = p.length - 1
    · have ek : (k : Int) = (p.length : Int) - 1 := by omega
      have ek2 : (k : Int) + 1 = (p.length : Int) := by omega
      rw [List.getElem?_append_right (by omega), lets_get (by omega), ek2, h.new, ek, h.old _ (by omega) (by omega), l1, hk2, Nat.sub_self]
      have e : decide ((if gi p ((p.length : Int) - 1) < g then gi p ((p.length : Int) - 1) else gi p ((p.length : Int) - 1) + 1) < g) = decide (gi p ((p.length : Int) - 1) < g) := by
        rw [decide_eq_decide]
        split <;> omega
      rw [e]
      rfl
    · rw [List.getElem?_eq_none (by rw [l2]; omega), List.getElem?_eq_none (by rw [List.length_append, l1]; simp; omega)]
end Fo
/-! FoldT -/
namespace Fo
open PySem L2 Evl

def t_places (K : PySem.W.Frag) (c : Cs) (E : XK) : TS :=
 (tSeq (tAsg (tCB (rLenS K) (tCons (tVar 0) tNil)) (gName 1))
 (tSeq (tIfS (tTest (tOp rEq (tVar 1) (tC (.int 0)))) (tSeq (tRaise E (.ref c.np))
 tNext) tNext)
 (tSeq (tAsg (tOp rRep (tLst (tCons (tUn (rU fun i => .int (-i)) (tC (.int 1))) tNil)) (tVar 1)) (gName 2))
 (tSeq (tFor (iEnum K (tCons (tVar 0) tNil)) (gTup K 2 (gCons (gName 3) (gCons (gName 4) gNil))) (tSeq (tIfS (tOr (tTest (tOp (rI0 fun i j => .bl (decide (i < j))) (tVar 4) (tC (.int 0)))) (tOr (tTest (tOp (rI0 fun i j => .bl (decide (j ≤ i))) (tVar 4) (tVar 1))) (tTest (tOp (rI0 fun i j => .bl (decide (j ≤ i))) (tOp (rIxL K) (tVar 2) (tVar 4)) (tC (.int 0)))))) (tSeq (tRaise E (.ref c.np))
 tNext) tNext)
 (tSeq (tAsg (tVar 3) (gSub (tVar 2) (tVar 4) rSetL))
 tNext)))
 (tSeq (tRet (tVar 2))
 tNext)))))

def t_letters (K : PySem.W.Frag) (c : Cs) (E : XK) : TS :=
 (tSeq (tAsg (tCall (sp_places K c) [] E (tCons (tVar 0) tNil)) (gName 1))
 (tSeq (tAsg (tLst tNil) (gName 2))
 (tSeq (tFor (iRng1 (tCons (tOp (rI0 fun i j => .int (i - j)) (tCB (rLenS K) (tCons (tVar 1) tNil)) (tC (.int 1))) tNil)) (gName 3) (tSeq (tAsg (tOp (rI0 fun i j => .bl (decide (j < i))) (tOp (rIxL K) (tVar 1) (tOp (rI0 fun i j => .int (i + j)) (tVar 3) (tC (.int 1)))) (tOp (rIxL K) (tVar 1) (tVar 3))) (gName 4))
 (tSeq (tDrop (tBM K "list" rAppend (tVar 2) (tCons (tIf (tTest (tOp rEq (tVar 4) (tOp rEq (tOp (rI (fun _ j => 0 < j) fun i j => .int (i % j)) (tVar 3) (tC (.int 2))) (tC (.int 0))))) (tC (.str "V")) (tC (.str "M"))) tNil)))
 tNext)))
 (tSeq (tRet (tBM K "str" (rJoin K) (tC (.str "")) (tCons (tVar 2) tNil)))
 tNext))))

def t_l_drawn (K : PySem.W.Frag) (c : Cs) (E : XK) : TS :=
 (tSeq (tRet (tIf (tTest (tOp (rI0 fun i j => .bl (decide (i < j))) (tVar 1) (tCB (rLenS K) (tCons (tVar 0) tNil)))) (tOp (rIxL K) (tVar 0) (tVar 1)) (tC (.int 0))))
 tNext)

def t_l_number (K : PySem.W.Frag) (c : Cs) (E : XK) : TS :=
 (tSeq (tAsg (tOp (rI0 fun i j => .int (i + j)) (tOp (rI CMul fun i j => .int (i * j)) (tOp (rI CMul fun i j => .int (i * j)) (tVar 1) (tVar 1)) (tC (.int 7919))) (tVar 1)) (gName 2))
 (tSeq (tIfS (tTest (tOp (rI0 fun i j => .bl (decide (i < j))) (tVar 1) (tCB (rLenS K) (tCons (tVar 0) tNil)))) (tSeq (tAsg (tOp (rIxL K) (tVar 0) (tVar 1)) (gName 2))
 tNext) (tSeq (tIfS (tTest (tOp (rNeD K) (tVar 0) (tLst tNil))) (tSeq (tAsg (tOp (rI0 fun i j => .int (i + j)) (tVar 2) (tOp (rIxL K) (tVar 0) (tOp (rI (fun _ j => 0 < j) fun i j => .int (i % j)) (tVar 1) (tCB (rLenS K) (tCons (tVar 0) tNil))))) (gName 2))
 tNext) tNext)
 tNext))
 (tSeq (tRet (tOp (rI (fun _ j => 0 < j) fun i j => .int (i % j)) (tOp (rI CMul fun i j => .int (i * j)) (tVar 2) (tC (.int 48271))) (tC (.int 2147483647))))
 tNext)))

def t_l_counts (K : PySem.W.Frag) (c : Cs) (E : XK) : TS :=
 (tSeq (tRet (tAndV (tCB (rIsi K) (tCons (tVar 0) (tCons (tC (.ty "int")) tNil))) (tAndV (tOp rNotIB (tVar 0) (tC (.bl true))) (tOp rNotIB (tVar 0) (tC (.bl false))))))
 tNext)

def t_l_size (K : PySem.W.Frag) (c : Cs) (E : XK) : TS :=
 (tSeq (tRet (tOp (rI0 fun i j => .int (i + j)) (tC (.int 1)) (tOp (rI (fun _ j => 0 < j) fun i j => .int (i % j)) (tOp (rI CDiv fun i j => .int (i / j)) (tVar 0) (tC (.int 8))) (tOp (rIxL K) (tLst (tCons (tC (.int 6)) (tCons (tC (.int 9)) (tCons (tC (.int 17)) (tCons (tC (.int 9)) (tCons (tC (.int 17)) (tCons (tC (.int 12)) (tCons (tC (.int 30)) (tCons (tC (.int 100)) tNil))))))))) (tOp (rI (fun _ j => 0 < j) fun i j => .int (i % j)) (tVar 0) (tC (.int 8)))))))
 tNext)

def t_l_pile (K : PySem.W.Frag) (c : Cs) (E : XK) : TS :=
 (tSeq (tAsg (tLst tNil) (gName 3))
 (tSeq (tFor (iRng1 (tCons (tVar 2) tNil)) (gName 4) (tSeq (tAsg (tOp (rI (fun _ j => 0 < j) fun i j => .int (i % j)) (tCall (sp_l_number K c) [] E (tCons (tVar 0) (tCons (tOp (rI0 fun i j => .int (i + j)) (tVar 1) (tVar 4)) tNil))) (tOp (rI0 fun i j => .int (i + j)) (tVar 4) (tC (.int 1)))) (gName 5))
 (tSeq (tAsg (tOp rCat (tOp rCat (tSl (rSlL K) (tVar 3) tNoPart (tPart (tVar 5))) (tLst (tCons (tVar 4) tNil))) (tSl (rSlL K) (tVar 3) (tPart (tVar 5)) tNoPart)) (gName 3))
 tNext)))
 (tSeq (tRet (tVar 3))
 tNext)))

def t_law_k01 (K : PySem.W.Frag) (c : Cs) (E : XK) : TS :=
 (tSeq (tAsg (tCall (sp_l_size K c) [] E (tCons (tCall (sp_l_drawn K c) [] E (tCons (tVar 0) (tCons (tC (.int 0)) tNil))) tNil)) (gName 1))
 (tSeq (tAsg (tCall (sp_l_pile K c) [] E (tCons (tVar 0) (tCons (tC (.int 1)) (tCons (tVar 1) tNil)))) (gName 2))
 (tSeq (tAsg (tCB (rListS K) (tCons (tVar 2) tNil)) (gName 3))
 (tSeq (tAsg (tCall (sp_places K c) [] E (tCons (tVar 3) tNil)) (gName 4))
 (tSeq (tIfS (tOr (tNot (tB (tCB (rIsi K) (tCons (tVar 4) (tCons (tC (.ty "list")) tNil))))) (tTest (tOp rNe (tCB (rLenS K) (tCons (tVar 4) tNil)) (tVar 1)))) (tSeq (tRet (tC (.bl false)))
 tNext) tNext)
 (tSeq (tFor (iRng1 (tCons (tVar 1) tNil)) (gName 5) (tSeq (tIfS (tOr (tNot (tB (tCall (sp_l_counts K c) [] E (tCons (tOp (rIxL K) (tVar 4) (tVar 5)) tNil)))) (tOr (tTest (tOp (rI0 fun i j => .bl (decide (i < j))) (tOp (rIxL K) (tVar 4) (tVar 5)) (tC (.int 0)))) (tTest (tOp (rI0 fun i j => .bl (decide (j ≤ i))) (tOp (rIxL K) (tVar 4) (tVar 5)) (tVar 1))))) (tSeq (tRet (tC (.bl false)))
 tNext) tNext)
 (tSeq (tIfS (tTest (tOp rNe (tOp (rIxL K) (tVar 2) (tOp (rIxL K) (tVar 4) (tVar 5))) (tVar 5))) (tSeq (tRet (tC (.bl false)))
 tNext) tNext)
 tNext)))
 (tSeq (tAsg (tCall (sp_letters K c) [] E (tCons (tVar 3) tNil)) (gName 6))
 (tSeq (tIfS (tOr (tNot (tB (tCB (rIsi K) (tCons (tVar 6) (tCons (tC (.ty "str")) tNil))))) (tOr (tTest (tOp rNe (tCB rLenT (tCons (tVar 6) tNil)) (tOp (rI0 fun i j => .int (i - j)) (tVar 1) (tC (.int 1))))) (tTest (tOp (rNeD K) (tVar 3) (tVar 2))))) (tSeq (tRet (tC (.bl false)))
 tNext) tNext)
 (tSeq (tFor (iRng1 (tCons (tOp (rI0 fun i j => .int (i - j)) (tVar 1) (tC (.int 1))) tNil)) (gName 7) (tSeq (tAsg (tOp rEq (tOp (rI0 fun i j => .bl (decide (j < i))) (tOp (rIxL K) (tVar 4) (tOp (rI0 fun i j => .int (i + j)) (tVar 7) (tC (.int 1)))) (tOp (rIxL K) (tVar 4) (tVar 7))) (tOp rEq (tOp (rI (fun _ j => 0 < j) fun i j => .int (i % j)) (tVar 7) (tC (.int 2))) (tC (.int 0)))) (gName 8))
 (tSeq (tIfS (tTest (tOp rNe (tOp rIxS (tVar 6) (tVar 7)) (tOp (rIxL K) (tLst (tCons (tC (.str "M")) (tCons (tC (.str "V")) tNil))) (tCB rInt1 (tCons (tVar 8) tNil))))) (tSeq (tRet (tC (.bl false)))
 tNext) tNext)
 tNext)))
 (tSeq (tRet (tC (.bl true)))
 tNext))))))))))

def t_wraps (K : PySem.W.Frag) (c : Cs) (E : XK) : TS :=
 (tSeq (tAsg (tCB (rSortedI K) (tCons (tLst (tCons (tOp (rIxL K) (tVar 0) (tVar 1)) (tCons (tOp (rIxL K) (tVar 0) (tOp (rI0 fun i j => .int (i + j)) (tVar 1) (tC (.int 1)))) tNil))) tNil)) (gName 3))
 (tSeq (tRet (tAndV (tOp (rI0 fun i j => .bl (decide (i < j))) (tOp (rIxL K) (tVar 3) (tC (.int 0))) (tOp (rIxL K) (tVar 0) (tVar 2))) (tOp (rI0 fun i j => .bl (decide (i < j))) (tOp (rIxL K) (tVar 0) (tVar 2)) (tOp (rIxL K) (tVar 3) (tC (.int 1))))))
 tNext))

def t_crossing (K : PySem.W.Frag) (c : Cs) (E : XK) : TS :=
 (tSeq (tAsg (tCall (sp_places K c) [] E (tCons (tVar 0) tNil)) (gName 1))
 (tSeq (tFor (iRng1 (tCons (tOp (rI0 fun i j => .int (i - j)) (tCB (rLenS K) (tCons (tVar 1) tNil)) (tC (.int 1))) tNil)) (gName 2) (tSeq (tFor (iRng3 (tCons (tOp (rI0 fun i j => .int (i + j)) (tVar 2) (tC (.int 2))) (tCons (tOp (rI0 fun i j => .int (i - j)) (tCB (rLenS K) (tCons (tVar 1) tNil)) (tC (.int 1))) (tCons (tC (.int 2)) tNil)))) (gName 3) (tSeq (tIfS (tTest (tOp rNe (tCall (sp_wraps K c) [] E (tCons (tVar 1) (tCons (tVar 2) (tCons (tVar 3) tNil)))) (tCall (sp_wraps K c) [] E (tCons (tVar 1) (tCons (tVar 2) (tCons (tOp (rI0 fun i j => .int (i + j)) (tVar 3) (tC (.int 1))) tNil)))))) (tSeq (tRet (tTup (tCons (tVar 2) (tCons (tVar 3) tNil))))
 tNext) tNext)
 tNext))
 tNext))
 (tSeq (tRet (tC .non))
 tNext)))

def t_l_places (K : PySem.W.Frag) (c : Cs) (E : XK) : TS :=
 (tSeq (tAsg (tOp rRep (tLst (tCons (tC (.int 0)) tNil)) (tCB (rLenS K) (tCons (tVar 0) tNil))) (gName 1))
 (tSeq (tFor (iRng1 (tCons (tCB (rLenS K) (tCons (tVar 0) tNil)) tNil)) (gName 2) (tSeq (tAsg (tVar 2) (gSub (tVar 1) (tOp (rIxL K) (tVar 0) (tVar 2)) rSetL))
 tNext))
 (tSeq (tRet (tVar 1))
 tNext)))

def t_l_fits (K : PySem.W.Frag) (c : Cs) (E : XK) : TS :=
 (tSeq (tFor (iRng3 (tCons (tOp (rI (fun _ j => 0 < j) fun i j => .int (i % j)) (tOp (rI0 fun i j => .int (i + j)) (tVar 1) (tC (.int 1))) (tC (.int 2))) (tCons (tOp (rI0 fun i j => .int (i - j)) (tVar 1) (tC (.int 1))) (tCons (tC (.int 2)) tNil)))) (gName 3) (tSeq (tAsg (tCB rMin2 (tCons (tOp (rIxL K) (tVar 0) (tVar 3)) (tCons (tOp (rIxL K) (tVar 0) (tOp (rI0 fun i j => .int (i + j)) (tVar 3) (tC (.int 1)))) tNil))) (gName 4))
 (tSeq (tAsg (tCB rMax2 (tCons (tOp (rIxL K) (tVar 0) (tVar 3)) (tCons (tOp (rIxL K) (tVar 0) (tOp (rI0 fun i j => .int (i + j)) (tVar 3) (tC (.int 1)))) tNil))) (gName 5))
 (tSeq (tIfS (tTest (tOp rNe (tAndV (tOp (rI0 fun i j => .bl (decide (i < j))) (tVar 4) (tOp (rIxL K) (tVar 0) (tOp (rI0 fun i j => .int (i - j)) (tVar 1) (tC (.int 1))))) (tOp (rI0 fun i j => .bl (decide (i < j))) (tOp (rIxL K) (tVar 0) (tOp (rI0 fun i j => .int (i - j)) (tVar 1) (tC (.int 1)))) (tVar 5))) (tAndV (tOp (rI0 fun i j => .bl (decide (i < j))) (tVar 4) (tVar 2)) (tOp (rI0 fun i j => .bl (decide (i ≤ j))) (tVar 2) (tVar 5))))) (tSeq (tRet (tC (.bl false)))
 tNext) tNext)
 tNext))))
 (tSeq (tRet (tC (.bl true)))
 tNext))

def t_l_good (K : PySem.W.Frag) (c : Cs) (E : XK) : TS :=
 (tSeq (tAsg (tLst (tCons (tC (.int 0)) tNil)) (gName 3))
 (tSeq (tFor (iRng2 (tCons (tC (.int 1)) (tCons (tVar 2) tNil))) (gName 4) (tSeq (tAsg (tCall (sp_l_places K c) [] E (tCons (tVar 3) tNil)) (gName 5))
 (tSeq (tAsg (tCall (sp_l_number K c) [] E (tCons (tVar 0) (tCons (tOp (rI0 fun i j => .int (i + j)) (tVar 1) (tVar 4)) tNil))) (gName 6))
 (tSeq (tAsg (tOp (rI (fun _ j => 0 < j) fun i j => .int (i % j)) (tVar 6) (tOp (rI0 fun i j => .int (i + j)) (tVar 4) (tC (.int 1)))) (gName 7))
 (tSeq (tIfS (tNot (tB (tCall (sp_l_fits K c) [] E (tCons (tVar 5) (tCons (tVar 4) (tCons (tVar 7) tNil)))))) (tSeq (tAsg (tOp (rI0 fun i j => .int (i + j)) (tOp (rIxL K) (tVar 5) (tOp (rI0 fun i j => .int (i - j)) (tVar 4) (tC (.int 1)))) (tOp (rI (fun _ j => 0 < j) fun i j => .int (i % j)) (tOp (rI CDiv fun i j => .int (i / j)) (tVar 6) (tC (.int 64))) (tC (.int 2)))) (gName 7))
 tNext) tNext)
 (tSeq (tAsg (tOp rCat (tOp rCat (tSl (rSlL K) (tVar 3) tNoPart (tPart (tVar 7))) (tLst (tCons (tVar 4) tNil))) (tSl (rSlL K) (tVar 3) (tPart (tVar 7)) tNoPart)) (gName 3))
 tNext))))))
 (tSeq (tRet (tVar 3))
 tNext)))

def t_l_moved (K : PySem.W.Frag) (c : Cs) (E : XK) : TS :=
 (tSeq (tAsg (tOp (rI (fun _ j => 0 < j) fun i j => .int (i % j)) (tVar 1) (tCB (rLenS K) (tCons (tVar 0) tNil))) (gName 3))
 (tSeq (tAsg (tOp (rI (fun _ j => 0 < j) fun i j => .int (i % j)) (tVar 2) (tCB (rLenS K) (tCons (tVar 0) tNil))) (gName 4))
 (tSeq (tAsg (tOp rCat (tSl (rSlL K) (tVar 0) tNoPart (tPart (tVar 3))) (tSl (rSlL K) (tVar 0) (tPart (tOp (rI0 fun i j => .int (i + j)) (tVar 3) (tC (.int 1)))) tNoPart)) (gName 5))
 (tSeq (tRet (tOp rCat (tOp rCat (tSl (rSlL K) (tVar 5) tNoPart (tPart (tVar 4))) (tLst (tCons (tOp (rIxL K) (tVar 0) (tVar 3)) tNil))) (tSl (rSlL K) (tVar 5) (tPart (tVar 4)) tNoPart)))
 tNext))))

def t_l_wraps (K : PySem.W.Frag) (c : Cs) (E : XK) : TS :=
 (tSeq (tAsg (tCB rMin2 (tCons (tOp (rIxL K) (tVar 0) (tVar 1)) (tCons (tOp (rIxL K) (tVar 0) (tOp (rI0 fun i j => .int (i + j)) (tVar 1) (tC (.int 1)))) tNil))) (gName 3))
 (tSeq (tAsg (tCB rMax2 (tCons (tOp (rIxL K) (tVar 0) (tVar 1)) (tCons (tOp (rIxL K) (tVar 0) (tOp (rI0 fun i j => .int (i + j)) (tVar 1) (tC (.int 1)))) tNil))) (gName 4))
 (tSeq (tRet (tAndV (tOp (rI0 fun i j => .bl (decide (i < j))) (tVar 3) (tOp (rIxL K) (tVar 0) (tVar 2))) (tOp (rI0 fun i j => .bl (decide (i < j))) (tOp (rIxL K) (tVar 0) (tVar 2)) (tVar 4))))
 tNext)))

def t_l_cross (K : PySem.W.Frag) (c : Cs) (E : XK) : TS :=
 (tSeq (tIfS (tOr (tTest (tOp rEq (tVar 1) (tVar 2))) (tTest (tOp rEq (tOp (rI (fun _ j => 0 < j) fun i j => .int (i % j)) (tOp (rI0 fun i j => .int (i - j)) (tVar 1) (tVar 2)) (tC (.int 2))) (tC (.int 1))))) (tSeq (tRet (tC (.bl false)))
 tNext) tNext)
 (tSeq (tRet (tOp rNe (tCall (sp_l_wraps K c) [] E (tCons (tVar 0) (tCons (tVar 1) (tCons (tVar 2) tNil)))) (tCall (sp_l_wraps K c) [] E (tCons (tVar 0) (tCons (tVar 1) (tCons (tOp (rI0 fun i j => .int (i + j)) (tVar 2) (tC (.int 1))) tNil))))))
 tNext))

def t_l_none_cross2 (K : PySem.W.Frag) (c : Cs) (E : XK) : TS :=
 (tSeq (tFor (iRng1 (tCons (tOp (rI0 fun i j => .int (i - j)) (tCB (rLenS K) (tCons (tVar 0) tNil)) (tC (.int 1))) tNil)) (gName 1) (tSeq (tFor (iRng3 (tCons (tOp (rI0 fun i j => .int (i + j)) (tVar 1) (tC (.int 2))) (tCons (tOp (rI0 fun i j => .int (i - j)) (tCB (rLenS K) (tCons (tVar 0) tNil)) (tC (.int 1))) (tCons (tC (.int 2)) tNil)))) (gName 2) (tSeq (tIfS (tB (tCall (sp_l_cross K c) [] E (tCons (tVar 0) (tCons (tVar 1) (tCons (tVar 2) tNil))))) (tSeq (tRet (tC (.bl false)))
 tNext) tNext)
 tNext))
 tNext))
 (tSeq (tRet (tC (.bl true)))
 tNext))

def t_law_k02 (K : PySem.W.Frag) (c : Cs) (E : XK) : TS :=
 (tSeq (tAsg (tCall (sp_l_size K c) [] E (tCons (tCall (sp_l_drawn K c) [] E (tCons (tVar 0) (tCons (tC (.int 0)) tNil))) tNil)) (gName 1))
 (tSeq (tAsg (tOp (rI (fun _ j => 0 < j) fun i j => .int (i % j)) (tCall (sp_l_drawn K c) [] E (tCons (tVar 0) (tCons (tC (.int 1)) tNil))) (tC (.int 5))) (gName 2))
 (tCut (tIfS (tTest (tOp rEq (tVar 2) (tC (.int 0)))) (tSeq (tAsg (tCall (sp_l_pile K c) [] E (tCons (tVar 0) (tCons (tC (.int 2)) (tCons (tVar 1) tNil)))) (gName 3))
 tNext) (tSeq (tAsg (tCall (sp_l_good K c) [] E (tCons (tVar 0) (tCons (tC (.int 2)) (tCons (tVar 1) tNil)))) (gName 3))
 tNext))
 (tCut (tIfS (tTest (tOp (rI0 fun i j => .bl (decide (j < i))) (tVar 2) (tC (.int 2)))) (tSeq (tAsg (tCall (sp_l_moved K c) [] E (tCons (tVar 3) (tCons (tCall (sp_l_number K c) [] E (tCons (tVar 0) (tCons (tOp (rI0 fun i j => .int (i + j)) (tVar 1) (tC (.int 2))) tNil))) (tCons (tCall (sp_l_number K c) [] E (tCons (tVar 0) (tCons (tOp (rI0 fun i j => .int (i + j)) (tVar 1) (tC (.int 3))) tNil))) tNil)))) (gName 3))
 tNext) tNext)
 (tSeq (tAsg (tCB (rListS K) (tCons (tVar 3) tNil)) (gName 4))
 (tSeq (tAsg (tCall (sp_crossing K c) [] E (tCons (tVar 4) tNil)) (gName 5))
 (tSeq (tAsg (tCall (sp_l_places K c) [] E (tCons (tVar 3) tNil)) (gName 6))
 (tSeq (tIfS (tTest (tOp (rNeD K) (tVar 4) (tVar 3))) (tSeq (tRet (tC (.bl false)))
 tNext) tNext)
 (tSeq (tIfS (tTest (tOp rIsN (tVar 5) (tC .non))) (tSeq (tRet (tCall (sp_l_none_cross K c) [] E (tCons (tVar 6) tNil)))
 tNext) tNext)
 (tSeq (tIfS (tOr (tNot (tB (tCB (rIsi K) (tCons (tVar 5) (tCons (tC (.ty "tuple")) tNil))))) (tTest (tOp rNe (tCB (rLenS K) (tCons (tVar 5) tNil)) (tC (.int 2))))) (tSeq (tRet (tC (.bl false)))
 tNext) tNext)
 (tSeq (tIfS (tOr (tNot (tB (tCall (sp_l_counts K c) [] E (tCons (tOp (rIxT K) (tVar 5) (tC (.int 0))) tNil)))) (tNot (tB (tCall (sp_l_counts K c) [] E (tCons (tOp (rIxT K) (tVar 5) (tC (.int 1))) tNil))))) (tSeq (tRet (tC (.bl false)))
 tNext) tNext)
 (tSeq (tIfS (tOr (tTest (tOp (rI0 fun i j => .bl (decide (i < j))) (tOp (rIxT K) (tVar 5) (tC (.int 0))) (tC (.int 0)))) (tOr (tTest (tOp (rI0 fun i j => .bl (decide (j ≤ i))) (tOp (rIxT K) (tVar 5) (tC (.int 0))) (tOp (rIxT K) (tVar 5) (tC (.int 1))))) (tTest (tOp (rI0 fun i j => .bl (decide (j < i))) (tOp (rIxT K) (tVar 5) (tC (.int 1))) (tOp (rI0 fun i j => .int (i - j)) (tVar 1) (tC (.int 2))))))) (tSeq (tRet (tC (.bl false)))
 tNext) tNext)
 (tSeq (tRet (tCall (sp_l_cross K c) [] E (tCons (tVar 6) (tCons (tOp (rIxT K) (tVar 5) (tC (.int 0))) (tCons (tOp (rIxT K) (tVar 5) (tC (.int 1))) tNil)))))
 tNext)))))))))))))

def t_turned (K : PySem.W.Frag) (c : Cs) (E : XK) : TS :=
 (tSeq (tAsg (tOp (rI (fun _ j => 0 < j) fun i j => .int (i % j)) (tVar 1) (tCB (rLenS K) (tCons (tCall (sp_places K c) [] E (tCons (tVar 0) tNil)) tNil))) (gName 2))
 (tSeq (tRet (tOp rCat (tSl (rSlL K) (tVar 0) (tPart (tVar 2)) tNoPart) (tSl (rSlL K) (tVar 0) tNoPart (tPart (tVar 2)))))
 tNext))

def t_l_same_row (K : PySem.W.Frag) (c : Cs) (E : XK) : TS :=
 (tSeq (tIfS (tOr (tNot (tB (tCB (rIsi K) (tCons (tVar 0) (tCons (tC (.ty "list")) tNil))))) (tTest (tOp rNe (tCB (rLenS K) (tCons (tVar 0) tNil)) (tCB (rLenS K) (tCons (tVar 1) tNil))))) (tSeq (tRet (tC (.bl false)))
 tNext) tNext)
 (tSeq (tFor (iRng1 (tCons (tCB (rLenS K) (tCons (tVar 1) tNil)) tNil)) (gName 2) (tSeq (tIfS (tOr (tNot (tB (tCall (sp_l_counts K c) [] E (tCons (tOp (rIxL K) (tVar 0) (tVar 2)) tNil)))) (tTest (tOp rNe (tOp (rIxL K) (tVar 0) (tVar 2)) (tOp (rIxL K) (tVar 1) (tVar 2))))) (tSeq (tRet (tC (.bl false)))
 tNext) tNext)
 tNext))
 (tSeq (tRet (tC (.bl true)))
 tNext)))

def t_l_cross_told (K : PySem.W.Frag) (c : Cs) (E : XK) : TS :=
 (tSeq (tIfS (tOr (tNot (tB (tCB (rIsi K) (tCons (tVar 1) (tCons (tC (.ty "tuple")) tNil))))) (tTest (tOp rNe (tCB (rLenS K) (tCons (tVar 1) tNil)) (tC (.int 2))))) (tSeq (tRet (tC (.bl false)))
 tNext) tNext)
 (tSeq (tAsg (tOp (rIxT K) (tVar 1) (tC (.int 0))) (gName 2))
 (tSeq (tAsg (tOp (rIxT K) (tVar 1) (tC (.int 1))) (gName 3))
 (tSeq (tIfS (tOr (tNot (tB (tCall (sp_l_counts K c) [] E (tCons (tVar 2) tNil)))) (tOr (tNot (tB (tCall (sp_l_counts K c) [] E (tCons (tVar 3) tNil)))) (tOr (tTest (tOp (rI0 fun i j => .bl (decide (i < j))) (tVar 2) (tC (.int 0)))) (tOr (tTest (tOp (rI0 fun i j => .bl (decide (j ≤ i))) (tVar 2) (tVar 3))) (tTest (tOp (rI0 fun i j => .bl (decide (j < i))) (tVar 3) (tOp (rI0 fun i j => .int (i - j)) (tCB (rLenS K) (tCons (tVar 0) tNil)) (tC (.int 2))))))))) (tSeq (tRet (tC (.bl false)))
 tNext) tNext)
 (tSeq (tRet (tAndV (tOp rEq (tOp (rI (fun _ j => 0 < j) fun i j => .int (i % j)) (tOp (rI0 fun i j => .int (i - j)) (tVar 3) (tVar 2)) (tC (.int 2))) (tC (.int 0))) (tOp rNe (tCall (sp_l_wraps K c) [] E (tCons (tVar 0) (tCons (tVar 2) (tCons (tVar 3) tNil)))) (tCall (sp_l_wraps K c) [] E (tCons (tVar 0) (tCons (tVar 2) (tCons (tOp (rI0 fun i j => .int (i + j)) (tVar 3) (tC (.int 1))) tNil)))))))
 tNext)))))

def t_l_letters_turned (K : PySem.W.Frag) (c : Cs) (E : XK) : TS :=
 (tSeq (tIfS (tOr (tNot (tB (tCB (rIsi K) (tCons (tVar 2) (tCons (tC (.ty "str")) tNil))))) (tNot (tB (tCB (rIsi K) (tCons (tVar 3) (tCons (tC (.ty "str")) tNil)))))) (tSeq (tRet (tC (.bl false)))
 tNext) tNext)
 (tSeq (tIfS (tOr (tTest (tOp rNe (tCB rLenT (tCons (tVar 2) tNil)) (tOp (rI0 fun i j => .int (i - j)) (tCB (rLenS K) (tCons (tVar 0) tNil)) (tC (.int 1))))) (tTest (tOp rNe (tCB rLenT (tCons (tVar 3) tNil)) (tOp (rI0 fun i j => .int (i - j)) (tCB (rLenS K) (tCons (tVar 0) tNil)) (tC (.int 1)))))) (tSeq (tRet (tC (.bl false)))
 tNext) tNext)
 (tSeq (tFor (iRng1 (tCons (tOp (rI0 fun i j => .int (i - j)) (tCB (rLenS K) (tCons (tVar 0) tNil)) (tC (.int 1))) tNil)) (gName 4) (tSeq (tAsg (tOp rNe (tOp (rI0 fun i j => .bl (decide (i < j))) (tOp (rIxL K) (tVar 0) (tVar 4)) (tVar 1)) (tOp (rI0 fun i j => .bl (decide (i < j))) (tOp (rIxL K) (tVar 0) (tOp (rI0 fun i j => .int (i + j)) (tVar 4) (tC (.int 1)))) (tVar 1))) (gName 5))
 (tSeq (tIfS (tTest (tOp rNe (tOp rNe (tOp rIxS (tVar 2) (tVar 4)) (tOp rIxS (tVar 3) (tVar 4))) (tVar 5))) (tSeq (tRet (tC (.bl false)))
 tNext) tNext)
 tNext)))
 (tSeq (tRet (tC (.bl true)))
 tNext))))

def t_law_k03 (K : PySem.W.Frag) (c : Cs) (E : XK) : TS :=
 (tSeq (tAsg (tCall (sp_l_size K c) [] E (tCons (tCall (sp_l_drawn K c) [] E (tCons (tVar 0) (tCons (tC (.int 0)) tNil))) tNil)) (gName 1))
 (tSeq (tAsg (tOp (rI0 fun i j => .int (i - j)) (tOp (rI (fun _ j => 0 < j) fun i j => .int (i % j)) (tOp (rI CDiv fun i j => .int (i / j)) (tCall (sp_l_drawn K c) [] E (tCons (tVar 0) (tCons (tC (.int 1)) tNil))) (tC (.int 6))) (tC (.int 19))) (tC (.int 9))) (gName 2))
 (tCut (tIfS (tTest (tOp rEq (tOp (rI (fun _ j => 0 < j) fun i j => .int (i % j)) (tCall (sp_l_drawn K c) [] E (tCons (tVar 0) (tCons (tC (.int 1)) tNil))) (tC (.int 3))) (tC (.int 1)))) (tSeq (tAsg (tOp (rI0 fun i j => .int (i - j)) (tOp (rI (fun _ j => 0 < j) fun i j => .int (i % j)) (tCall (sp_l_drawn K c) [] E (tCons (tVar 0) (tCons (tC (.int 2)) tNil))) (tOp (rI0 fun i j => .int (i + j)) (tOp (rI CMul fun i j => .int (i * j)) (tC (.int 2)) (tOp (rI CPow fun i j => .int (i ^ j.toNat)) (tC (.int 10)) (tC (.int 60)))) (tC (.int 1)))) (tOp (rI CPow fun i j => .int (i ^ j.toNat)) (tC (.int 10)) (tC (.int 60)))) (gName 2))
 tNext) tNext)
 (tCut (tIfS (tTest (tOp rEq (tOp (rI (fun _ j => 0 < j) fun i j => .int (i % j)) (tOp (rI CDiv fun i j => .int (i / j)) (tCall (sp_l_drawn K c) [] E (tCons (tVar 0) (tCons (tC (.int 1)) tNil))) (tC (.int 3))) (tC (.int 2))) (tC (.int 0)))) (tSeq (tAsg (tCall (sp_l_pile K c) [] E (tCons (tVar 0) (tCons (tC (.int 3)) (tCons (tVar 1) tNil)))) (gName 3))
 tNext) (tSeq (tAsg (tCall (sp_l_good K c) [] E (tCons (tVar 0) (tCons (tC (.int 3)) (tCons (tVar 1) tNil)))) (gName 3))
 tNext))
 (tSeq (tAsg (tCB (rListS K) (tCons (tVar 3) tNil)) (gName 4))
 (tCut (tIfS (tTest (tOp rEq (tOp (rI (fun _ j => 0 < j) fun i j => .int (i % j)) (tCall (sp_l_drawn K c) [] E (tCons (tVar 0) (tCons (tC (.int 1)) tNil))) (tC (.int 3))) (tC (.int 2)))) (tSeq (tAsg (tC (.int 1)) (gName 2))
 (tSeq (tAsg (tCall (sp_turned K c) [.int 1] E (tCons (tVar 4) tNil)) (gName 5))
 tNext)) (tSeq (tAsg (tCall (sp_turned K c) [] E (tCons (tVar 4) (tCons (tVar 2) tNil))) (gName 5))
 tNext))
 (tSeq (tAsg (tOp (rI (fun _ j => 0 < j) fun i j => .int (i % j)) (tVar 2) (tVar 1)) (gName 6))
 (tSeq (tAsg (tOp rCat (tSl (rSlL K) (tVar 3) (tPart (tVar 6)) tNoPart) (tSl (rSlL K) (tVar 3) tNoPart (tPart (tVar 6)))) (gName 7))
 (tSeq (tIfS (tOr (tTest (tOp (rNeD K) (tVar 4) (tVar 3))) (tNot (tB (tCall (sp_l_same_row K c) [] E (tCons (tVar 5) (tCons (tVar 7) tNil)))))) (tSeq (tRet (tC (.bl false)))
 tNext) tNext)
 (tSeq (tAsg (tCall (sp_l_places K c) [] E (tCons (tVar 3) tNil)) (gName 8))
 (tCut (tAsg (tCall (sp_crossing K c) [] E (tCons (tVar 4) tNil)) (gName 9))
 (tCut (tAsg (tCall (sp_crossing K c) [] E (tCons (tCB (rListS K) (tCons (tVar 7) tNil)) tNil)) (gName 10))
 (tSeq (tIfS (tTest (tOp rNe (tOp rIsN (tVar 9) (tC .non)) (tOp rIsN (tVar 10) (tC .non)))) (tSeq (tRet (tC (.bl false)))
 tNext) tNext)
 (tSeq (tIfS (tAnd (tTest (tOp rNotN (tVar 10) (tC .non))) (tNot (tB (tCall (sp_l_cross_told K c) [] E (tCons (tVar 8) (tCons (tVar 10) tNil)))))) (tSeq (tRet (tC (.bl false)))
 tNext) tNext)
 (tSeq (tDrop (tBM K "list" rAppend (tVar 5) (tCons (tC (.int 0)) tNil)))
 (tSeq (tIfS (tTest (tOp (rNeD K) (tVar 4) (tVar 3))) (tSeq (tRet (tC (.bl false)))
 tNext) tNext)
 (tSeq (tRet (tCall (sp_l_letters_turned K c) [] E (tCons (tVar 8) (tCons (tVar 6) (tCons (tCall (sp_letters K c) [] E (tCons (tVar 4) tNil)) (tCons (tCall (sp_letters K c) [] E (tCons (tCB (rListS K) (tCons (tVar 7) tNil)) tNil)) tNil))))))
 tNext)))))))))))))))))

def t_look_at (K : PySem.W.Frag) (c : Cs) (E : XK) : TS :=
 (tSeq (tFor (iStr (tVar 0)) (gName 1) (tSeq (tIfS (tAnd (tTest (tOp rNe (tVar 1) (tC (.str "V")))) (tTest (tOp rNe (tVar 1) (tC (.str "M"))))) (tSeq (tRaise E (.ref c.nl))
 tNext) tNext)
 tNext))
 tNext)

def t_pile_of (K : PySem.W.Frag) (c : Cs) (E : XK) : TS :=
 (tSeq (tDrop (tCall (sp_look_at K c) [] E (tCons (tVar 0) tNil)))
 (tSeq (tAsg (tLst (tCons (tC (.int 0)) tNil)) (gName 1))
 (tSeq (tFor (iEnumS (tCons (tVar 0) tNil)) (gTup K 2 (gCons (gName 2) (gCons (gName 3) gNil))) (tSeq (tAsg (tBM K "list" (rIndex K) (tVar 1) (tCons (tVar 2) tNil)) (gName 4))
 (tCut (tIfS (tTest (tOp rEq (tOp rEq (tVar 3) (tC (.str "V"))) (tOp rEq (tOp (rI (fun _ j => 0 < j) fun i j => .int (i % j)) (tVar 2) (tC (.int 2))) (tC (.int 0))))) (tSeq (tAug 4 (tC (.int 1)) (ipI fun i j => i + j))
 tNext) tNext)
 (tSeq (tDrop (tBM K "list" rInsert (tVar 1) (tCons (tVar 4) (tCons (tOp (rI0 fun i j => .int (i + j)) (tVar 2) (tC (.int 1))) tNil))))
 tNext))))
 (tSeq (tRet (tVar 1))
 tNext))))

def t_l_is_pile (K : PySem.W.Frag) (c : Cs) (E : XK) : TS :=
 (tSeq (tIfS (tOr (tNot (tB (tCB (rIsi K) (tCons (tVar 0) (tCons (tC (.ty "list")) tNil))))) (tTest (tOp rNe (tCB (rLenS K) (tCons (tVar 0) tNil)) (tVar 1)))) (tSeq (tRet (tC (.bl false)))
 tNext) tNext)
 (tSeq (tAsg (tOp rRep (tLst (tCons (tC (.bl false)) tNil)) (tVar 1)) (gName 2))
 (tSeq (tFor (iList K (tVar 0)) (gName 3) (tSeq (tIfS (tOr (tNot (tB (tCall (sp_l_counts K c) [] E (tCons (tVar 3) tNil)))) (tOr (tTest (tOp (rI0 fun i j => .bl (decide (i < j))) (tVar 3) (tC (.int 0)))) (tOr (tTest (tOp (rI0 fun i j => .bl (decide (j ≤ i))) (tVar 3) (tVar 1))) (tB (tOp (rIxL K) (tVar 2) (tVar 3)))))) (tSeq (tRet (tC (.bl false)))
 tNext) tNext)
 (tSeq (tAsg (tC (.bl true)) (gSub (tVar 2) (tVar 3) rSetL))
 tNext)))
 (tSeq (tRet (tC (.bl true)))
 tNext))))

def t_l_none_cross (K : PySem.W.Frag) (c : Cs) (E : XK) : TS :=
 (tSeq (tFor (iRng1 (tCons (tOp (rI0 fun i j => .int (i - j)) (tCB (rLenS K) (tCons (tVar 0) tNil)) (tC (.int 1))) tNil)) (gName 1) (tSeq (tFor (iRng3 (tCons (tOp (rI0 fun i j => .int (i + j)) (tVar 1) (tC (.int 2))) (tCons (tOp (rI0 fun i j => .int (i - j)) (tCB (rLenS K) (tCons (tVar 0) tNil)) (tC (.int 1))) (tCons (tC (.int 2)) tNil)))) (gName 2) (tSeq (tIfS (tTest (tOp rNe (tCall (sp_l_wraps K c) [] E (tCons (tVar 0) (tCons (tVar 1) (tCons (tVar 2) tNil)))) (tCall (sp_l_wraps K c) [] E (tCons (tVar 0) (tCons (tVar 1) (tCons (tOp (rI0 fun i j => .int (i + j)) (tVar 2) (tC (.int 1))) tNil)))))) (tSeq (tRet (tC (.bl false)))
 tNext) tNext)
 tNext))
 tNext))
 (tSeq (tRet (tC (.bl true)))
 tNext))

def t_l_row (K : PySem.W.Frag) (c : Cs) (E : XK) : TS :=
 (tSeq (tAsg (tOp (rI (fun _ j => 0 < j) fun i j => .int (i % j)) (tCall (sp_l_drawn K c) [] E (tCons (tVar 0) (tCons (tC (.int 1)) tNil))) (tC (.int 4))) (gName 2))
 (tSeq (tAsg (tOp (rI CDiv fun i j => .int (i / j)) (tCall (sp_l_drawn K c) [] E (tCons (tVar 0) (tCons (tC (.int 1)) tNil))) (tC (.int 4))) (gName 3))
 (tSeq (tAsg (tLst tNil) (gName 4))
 (tSeq (tFor (iRng1 (tCons (tVar 1) tNil)) (gName 5) (tSeq (tAsg (tOp (rI (fun _ j => 0 < j) fun i j => .int (i % j)) (tCall (sp_l_number K c) [] E (tCons (tVar 0) (tCons (tOp (rI0 fun i j => .int (i + j)) (tC (.int 2)) (tVar 5)) tNil))) (tC (.int 2))) (gName 6))
 (tCut (tIfS (tTest (tOp rEq (tVar 2) (tC (.int 2)))) (tSeq (tAsg (tOp (rI (fun _ j => 0 < j) fun i j => .int (i % j)) (tVar 3) (tC (.int 2))) (gName 6))
 tNext) tNext)
 (tCut (tIfS (tTest (tOp rEq (tVar 2) (tC (.int 3)))) (tSeq (tAsg (tOp (rI (fun _ j => 0 < j) fun i j => .int (i % j)) (tOp (rI CDiv fun i j => .int (i / j)) (tVar 5) (tOp (rI0 fun i j => .int (i + j)) (tC (.int 1)) (tOp (rI (fun _ j => 0 < j) fun i j => .int (i % j)) (tVar 3) (tC (.int 9))))) (tC (.int 2))) (gName 6))
 tNext) tNext)
 (tSeq (tDrop (tBM K "list" rAppend (tVar 4) (tCons (tOp (rIxL K) (tLst (tCons (tC (.str "V")) (tCons (tC (.str "M")) tNil))) (tVar 6)) tNil)))
 tNext)))))
 (tSeq (tRet (tBM K "str" (rJoin K) (tC (.str "")) (tCons (tVar 4) tNil)))
 tNext)))))

def t_law_k04 (K : PySem.W.Frag) (c : Cs) (E : XK) : TS :=
 (tSeq (tAsg (tCall (sp_l_size K c) [] E (tCons (tCall (sp_l_drawn K c) [] E (tCons (tVar 0) (tCons (tC (.int 0)) tNil))) tNil)) (gName 1))
 (tSeq (tAsg (tCall (sp_l_row K c) [] E (tCons (tVar 0) (tCons (tOp (rI0 fun i j => .int (i - j)) (tVar 1) (tC (.int 1))) tNil))) (gName 2))
 (tSeq (tAsg (tCall (sp_pile_of K c) [] E (tCons (tVar 2) tNil)) (gName 3))
 (tSeq (tIfS (tNot (tB (tCall (sp_l_is_pile K c) [] E (tCons (tVar 3) (tCons (tVar 1) tNil))))) (tSeq (tRet (tC (.bl false)))
 tNext) tNext)
 (tSeq (tAsg (tCall (sp_l_places K c) [] E (tCons (tVar 3) tNil)) (gName 4))
 (tSeq (tFor (iRng1 (tCons (tOp (rI0 fun i j => .int (i - j)) (tVar 1) (tC (.int 1))) tNil)) (gName 5) (tSeq (tAsg (tOp rEq (tOp (rI0 fun i j => .bl (decide (j < i))) (tOp (rIxL K) (tVar 4) (tOp (rI0 fun i j => .int (i + j)) (tVar 5) (tC (.int 1)))) (tOp (rIxL K) (tVar 4) (tVar 5))) (tOp rEq (tOp (rI (fun _ j => 0 < j) fun i j => .int (i % j)) (tVar 5) (tC (.int 2))) (tC (.int 0)))) (gName 6))
 (tSeq (tIfS (tTest (tOp rNe (tVar 6) (tOp rEq (tOp rIxS (tVar 2) (tVar 5)) (tC (.str "V"))))) (tSeq (tRet (tC (.bl false)))
 tNext) tNext)
 tNext)))
 (tSeq (tRet (tCall (sp_l_none_cross K c) [] E (tCons (tVar 4) tNil)))
 tNext)))))))
end Fo
/-! FoldR1 -/
namespace Fo
open PySem L2 Evl
local macro_rules | `(tactic| walk_at "hl") => `(tactic| first
  | assumption
  | exact upd_same
  | (refine (by assumption : Ex _ _) _ _ ?_; walk_at "hl"))
local macro_rules | `(tactic| walk_at "sq") => `(tactic| first
  | assumption
  | (refine sq_lst ?_; walk_at "hl")
  | (refine ex_l (by assumption) ?_; walk_at "sq"))
local macro_rules | `(tactic| walk_at "st") => `(tactic| first
  | assumption
  | (refine st_of ?_; walk_at "hl")
  | (refine ex_t (by assumption) ?_; walk_at "st"))
local macro_rules | `(tactic| walk_at "ar") => `(tactic| first
  | assumption
  | omega
  | decide)
local macro_rules | `(tactic| walk_at "lar") => `(tactic| first
  | omega
  | (simp only [List.length_append, List.length_map, List.length_take, List.length_drop, List.length_cons, List.length_nil, List.length_replicate]; omega))
local macro_rules | `(tactic| walk_at "hb") => `(tactic| first
  | skip)
local macro_rules | `(tactic| walk_at "mul") => `(tactic| first
  | (exact Or.inr ⟨by decide, by decide⟩)
  | (exact Or.inl ⟨by decide, by decide⟩)
  | (exact Or.inl ⟨by omega, by omega⟩)
  | (exact Or.inr ⟨by omega, by omega⟩))
local macro_rules | `(tactic| walk_at "div") => `(tactic| first
  | (exact ⟨by decide, by decide⟩)
  | (exact ⟨by omega, by omega⟩))
local macro_rules | `(tactic| walk_at "ea") => `(tactic| first
  | exact ea_nil
  | ((with_reducible refine' ea_cons ?k0 ?k1); (case k0 => walk_at "ev"); (case k1 => walk_at "ea")))
local macro_rules | `(tactic| walk_at "eo") => `(tactic| first
  | exact eo_none
  | ((with_reducible refine' eo_some ?k0); (case k0 => walk_at "ev")))
local macro_rules | `(tactic| walk_at "el") => `(tactic| first
  | ((with_reducible refine' el_lst ?k0 ?k1); (case k0 => walk_at "ea"); (case k1 => (exact Nat.le_of_ble_eq_true rfl)))
  | ((with_reducible refine' el_from ?k0 ?k1 ?k2 ?k3 ?k4); (case k0 => walk_at "ev"); (case k1 => walk_at "eo"); (case k2 => walk_at "sq"); (case k3 => walk_at "ar"); (case k4 => walk_at "lar"))
  | ((with_reducible refine' el_upto ?k0 ?k1 ?k2 ?k3 ?k4); (case k0 => walk_at "ev"); (case k1 => walk_at "eo"); (case k2 => walk_at "sq"); (case k3 => walk_at "ar"); (case k4 => walk_at "lar"))
  | ((with_reducible refine' el_rep1 ?k0 ?k1 ?k2 ?k3); (case k0 => walk_at "el"); (case k1 => walk_at "ev"); (case k2 => walk_at "ar"); (case k3 => walk_at "ar"))
  | ((with_reducible refine' el_cat ?k0 ?k1 ?k2); (case k0 => walk_at "el"); (case k1 => walk_at "el"); (case k2 => walk_at "lar"))
  | ((with_reducible refine' el_callD ?k0 ?k1); (case k0 => walk_at "ea"); (case k1 => walk_at "sp"))
  | ((with_reducible refine' el_list ?k0 ?k1); (case k0 => walk_at "ev"); (case k1 => walk_at "sq")))
local macro_rules | `(tactic| walk_at "et") => `(tactic| first
  | ((with_reducible refine' et_test ?k0); (case k0 => walk_at "ev"))
  | ((with_reducible refine' et_B ?k0); (case k0 => walk_at "ev"))
  | ((with_reducible refine' et_not ?k0); (case k0 => walk_at "et"))
  | ((with_reducible refine' et_and ?k0 (fun hb => ?k1)); (case k0 => walk_at "et"); (case k1 => (walk_at "hb"; walk_at "et")))
  | ((with_reducible refine' et_or ?k0 (fun hb => ?k1)); (case k0 => walk_at "et"); (case k1 => (walk_at "hb"; walk_at "et"))))
local macro_rules | `(tactic| walk_at "ev") => `(tactic| first
  | ((with_reducible refine' ev_var ?k0); (case k0 => rfl))
  | exact ev_c
  | ((with_reducible refine' ev_add ?k0 ?k1); (case k0 => walk_at "ev"); (case k1 => walk_at "ev"))
  | ((with_reducible refine' ev_sub ?k0 ?k1); (case k0 => walk_at "ev"); (case k1 => walk_at "ev"))
  | ((with_reducible refine' ev_ixI ?k0 ?k1 ?k2 ?k3 ?k4); (case k0 => walk_at "ev"); (case k1 => walk_at "ev"); (case k2 => walk_at "sq"); (case k3 => walk_at "ar"); (case k4 => walk_at "ar"))
  | ((with_reducible refine' ev_lt ?k0 ?k1); (case k0 => walk_at "ev"); (case k1 => walk_at "ev"))
  | ((with_reducible refine' ev_gt ?k0 ?k1); (case k0 => walk_at "ev"); (case k1 => walk_at "ev"))
  | ((with_reducible refine' ev_le ?k0 ?k1); (case k0 => walk_at "ev"); (case k1 => walk_at "ev"))
  | ((with_reducible refine' ev_ge ?k0 ?k1); (case k0 => walk_at "ev"); (case k1 => walk_at "ev"))
  | ((with_reducible refine' ev_eqI ?k0 ?k1); (case k0 => walk_at "ev"); (case k1 => walk_at "ev"))
  | ((with_reducible refine' ev_neI ?k0 ?k1); (case k0 => walk_at "ev"); (case k1 => walk_at "ev"))
  | ((with_reducible refine' ev_eqB ?k0 ?k1); (case k0 => walk_at "ev"); (case k1 => walk_at "ev"))
  | ((with_reducible refine' ev_neB ?k0 ?k1); (case k0 => walk_at "ev"); (case k1 => walk_at "ev"))
  | ((with_reducible refine' ev_eqS ?k0 ?k1); (case k0 => walk_at "ev"); (case k1 => walk_at "ev"))
  | ((with_reducible refine' ev_neS ?k0 ?k1); (case k0 => walk_at "ev"); (case k1 => walk_at "ev"))
  | ((with_reducible refine' ev_mod ?k0 ?k1 ?k2); (case k0 => walk_at "ev"); (case k1 => walk_at "ev"); (case k2 => walk_at "ar"))
  | ((with_reducible refine' ev_mul ?k0 ?k1 ?k2); (case k0 => walk_at "ev"); (case k1 => walk_at "ev"); (case k2 => walk_at "mul"))
  | ((with_reducible refine' ev_div ?k0 ?k1 ?k2); (case k0 => walk_at "ev"); (case k1 => walk_at "ev"); (case k2 => walk_at "div"))
  | ((with_reducible refine' ev_neg ?k0); (case k0 => walk_at "ev"))
  | ((with_reducible refine' ev_callD ?k0 ?k1); (case k0 => walk_at "ea"); (case k1 => walk_at "sp"))
  | ((with_reducible refine' ev_lenI ?k0 ?k1); (case k0 => walk_at "ev"); (case k1 => walk_at "sq"))
  | ((with_reducible refine' ev_lenTxt ?k0 ?k1); (case k0 => walk_at "ev"); (case k1 => walk_at "ar"))
  | ((with_reducible refine' ev_lenS ?k0 ?k1); (case k0 => walk_at "ev"); (case k1 => walk_at "ar"))
  | ((with_reducible refine' ev_ixTxt ?k0 ?k1 ?k2 ?k3 ?k4); (case k0 => walk_at "ev"); (case k1 => walk_at "ev"); (case k2 => walk_at "ar"); (case k3 => walk_at "ar"); (case k4 => walk_at "ar"))
  | ((with_reducible refine' ev_ix2 ?k0); (case k0 => walk_at "ev"))
  | ((with_reducible refine' ev_isiI ?k0); (case k0 => walk_at "ev"))
  | ((with_reducible refine' ev_isiL ?k0 ?k1); (case k0 => walk_at "ev"); (case k1 => walk_at "hl"))
  | ((with_reducible refine' ev_isiU ?k0 ?k1); (case k0 => walk_at "ev"); (case k1 => walk_at "hl"))
  | ((with_reducible refine' ev_isiS ?k0); (case k0 => walk_at "ev"))
  | ((with_reducible refine' ev_isiB ?k0); (case k0 => walk_at "ev"))
  | ((with_reducible refine' ev_isN ?k0); (case k0 => walk_at "ev"))
  | ((with_reducible refine' ev_notN ?k0); (case k0 => walk_at "ev"))
  | ((with_reducible refine' ev_notIB ?k0 ?k1); (case k0 => walk_at "ev"); (case k1 => walk_at "ev"))
  | ((with_reducible refine' ev_neNil ?k0 ?k1); (case k0 => walk_at "ev"); (case k1 => walk_at "sq"))
  | ((with_reducible refine' ev_eqNil ?k0 ?k1); (case k0 => walk_at "ev"); (case k1 => walk_at "sq"))
  | ((with_reducible refine' ev_eqL ?k0 ?k1 ?k2 ?k3); (case k0 => walk_at "ev"); (case k1 => walk_at "ev"); (case k2 => walk_at "sq"); (case k3 => walk_at "sq"))
  | ((with_reducible refine' ev_neL ?k0 ?k1 ?k2 ?k3); (case k0 => walk_at "ev"); (case k1 => walk_at "ev"); (case k2 => walk_at "sq"); (case k3 => walk_at "sq"))
  | ((with_reducible refine' ev_min2 ?k0 ?k1); (case k0 => walk_at "ev"); (case k1 => walk_at "ev"))
  | ((with_reducible refine' ev_max2 ?k0 ?k1); (case k0 => walk_at "ev"); (case k1 => walk_at "ev"))
  | ((with_reducible refine' ev_intB ?k0); (case k0 => walk_at "ev"))
  | ((with_reducible refine' ev_andV ?k0 (fun hb => ?k1)); (case k0 => walk_at "ev"); (case k1 => (walk_at "hb"; walk_at "ev")))
  | ((with_reducible refine' ev_orV ?k0 (fun hb => ?k1)); (case k0 => walk_at "ev"); (case k1 => (walk_at "hb"; walk_at "ev")))
  | ((with_reducible refine' ev_notV ?k0); (case k0 => walk_at "ev"))
  | ((with_reducible refine' ev_ifI ?k0 (fun hb => ?k1) (fun hb => ?k2)); (case k0 => walk_at "et"); (case k1 => (walk_at "hb"; walk_at "ev")); (case k2 => (walk_at "hb"; walk_at "ev")))
  | ((with_reducible refine' ev_ifS ?k0 (fun hb => ?k1) (fun hb => ?k2)); (case k0 => walk_at "et"); (case k1 => (walk_at "hb"; walk_at "ev")); (case k2 => (walk_at "hb"; walk_at "ev"))))
local macro_rules | `(tactic| walk_at "hb") => `(tactic| (try simp only [decide_eq_true_eq, decide_eq_false_iff_not, Bool.and_eq_true, Bool.or_eq_true, Bool.or_eq_false_iff, Bool.not_eq_true', Bool.not_eq_false', beq_iff_eq] at *))
local macro_rules | `(tactic| walk_at "sp") => `(tactic| first
  | (refine' v_number ?k0 ?k1 ?k2; (case k0 => walk_at "sq"); (case k1 => walk_at "ar"); (case k2 => walk_at "ar"))
  | (refine' v_drawn ?k0 ?k1; (case k0 => walk_at "sq"); (case k1 => walk_at "ar"))
  | exact v_size
  | exact v_counts
  | (refine' v_wraps ?k0 ?k1 ?k2 ?k3 ?k4; (case k0 => walk_at "sq"); (case k1 => walk_at "ar"); (case k2 => walk_at "ar"); (case k3 => walk_at "ar"); (case k4 => walk_at "ar"))
  | (refine' v_l_wraps ?k0 ?k1 ?k2 ?k3 ?k4; (case k0 => walk_at "sq"); (case k1 => walk_at "ar"); (case k2 => walk_at "ar"); (case k3 => walk_at "ar"); (case k4 => walk_at "ar"))
  | (refine' v_cross ?k0 ?k1 ?k2 ?k3 ?k4; (case k0 => walk_at "sq"); (case k1 => walk_at "ar"); (case k2 => walk_at "ar"); (case k3 => walk_at "ar"); (case k4 => walk_at "ar"))
  | (refine' v_places ?k0 ?k1 ?k2; (case k0 => walk_at "sq"); (case k1 => walk_at "ar"); (case k2 => assumption))
  | (refine' v_letters ?k0 ?k1 ?k2; (case k0 => walk_at "sq"); (case k1 => walk_at "ar"); (case k2 => assumption))
  | (refine' v_l_places ?k0 ?k1 ?k2; (case k0 => walk_at "sq"); (case k1 => walk_at "ar"); (case k2 => assumption))
  | (refine' v_fits ?k0 ?k1 ?k2 ?k3; (case k0 => walk_at "sq"); (case k1 => walk_at "ar"); (case k2 => walk_at "ar"); (case k3 => walk_at "ar"))
  | (refine' v_none ?k0 ?k1 ?k2; (case k0 => walk_at "sq"); (case k1 => walk_at "ar"); (case k2 => walk_at "ar")))
local macro_rules | `(tactic| walk_at "sp") => `(tactic| first
  | (refine' v_turned ?k0 ?k1 ?k2; (case k0 => walk_at "sq"); (case k1 => walk_at "ar"); (case k2 => assumption))
  | (refine' v_same ?k0 ?k1 ?k2; (case k0 => walk_at "hl"); (case k1 => walk_at "sq"); (case k2 => walk_at "ar"))
  | (refine' v_told ?k0 ?k1 ?k2; (case k0 => walk_at "sq"); (case k1 => walk_at "hl"); (case k2 => assumption))
  | (refine' v_parted ?k0 ?k1 ?k2 ?k3; (case k0 => walk_at "sq"); (case k1 => walk_at "ar"); (case k2 => walk_at "ar"); (case k3 => assumption)))
local macro_rules | `(tactic| walk_at "sp") => `(tactic| first
  | (refine' v_is_pile ?k0 ?k1 ?k2 ?k3; (case k0 => walk_at "hl"); (case k1 => assumption); (case k2 => walk_at "ar"); (case k3 => walk_at "ar")))
section
variable {K : PySem.W.Frag} {c : Cs}
local macro_rules | `(tactic| walk_at "hb") => `(tactic| (try simp only [decide_eq_true_eq, decide_eq_false_iff_not, Bool.and_eq_true, Bool.or_eq_true, Bool.or_eq_false_iff, Bool.not_eq_true', Bool.not_eq_false', beq_iff_eq] at *))

theorem read_l_drawn (vs : List V) (H : Hp) (Q : VK) (E : XK) (h : sp_l_drawn K c vs H Q E) : t_l_drawn K c E { nx := fun _ H' => Q .non H', rt := Q } (start ["_law_script", "_law_k"] vs) H := by
  obtain ⟨a, ns, k, rfl, hS, h0, q⟩ := h
  refine Go.here (g_ret (v := .int (gi ns k)) ?_ q)
  have e : gi ns k = (if decide (k < (ns.length : Int)) = true then gi ns k else 0) := by
    by_cases hk : k < (ns.length : Int)
    · rw [if_pos (decide_eq_true hk)]
    · rw [if_neg (by rw [decide_eq_false hk]; decide)]
      unfold gi
      rw [List.getD_eq_getElem?_getD, List.getElem?_eq_none (by omega)]
      rfl
  rw [e]
  walk_at "ev"

theorem read_l_number (vs : List V) (H : Hp) (Q : VK) (E : XK) (h : sp_l_number K c vs H Q E) : t_l_number K c E { nx := fun _ H' => Q .non H', rt := Q } (start ["_law_script", "_law_k", "_law_cell"] vs) H := by
  obtain ⟨a, ns, k, rfl, hS, h0, h1, q⟩ := h
  have hk : k * k * 7919 + k = k * k * 7919 + k := rfl
  refine Go.here (g_asg (v := .int (k * k * 7919 + k)) (ev_add (ev_mul (ev_mul (ev_var rfl) (ev_var rfl) (.inl ⟨by omega, by omega⟩)) ev_c (.inr ⟨by decide, by decide⟩)) (ev_var rfl)) ?_)
  refine g_if (b := decide (k < (ns.length : Int))) (by walk_at "et") (fun hb => ?_) (fun hb => ?_)
  · have hb' := of_decide_eq_true hb
    refine g_asg (v := .int (gi ns k)) (by walk_at "ev") (g_nextS ?_)
    refine g_ret (v := .int (numb ns k)) ?_ q
    unfold numb
    rw [if_pos hb']
    exact ev_mod (ev_mul (ev_var rfl) ev_c (.inr ⟨by decide, by decide⟩)) ev_c (by decide)
  · have hb' := of_decide_eq_false hb
    refine g_when (b := !decide (ns = [])) (by walk_at "et") (fun hn => ?_) (fun hn => ?_)
    · have hn' : ns ≠ [] := by simpa using hn
      have hl : 0 < ns.length := List.length_pos_iff.mpr hn'
      refine g_asg (v := .int (k * k * 7919 + k + gi ns (k % (ns.length : Int)))) ?_ (g_nextS (g_nextS ?_))
      · have m0 : 0 ≤ k % (ns.length : Int) := Int.emod_nonneg _ (by omega)
        have m1 : k % (ns.length : Int) < (ns.length : Int) := Int.emod_lt_of_pos _ (by omega)
        walk_at "ev"
      · refine g_ret (v := .int (numb ns k)) ?_ q
        unfold numb
        rw [if_neg hb', if_neg hn']
        exact ev_mod (ev_mul (ev_var rfl) ev_c (.inr ⟨by decide, by decide⟩)) ev_c (by decide)
    · have hn' : ns = [] := by simpa using hn
      refine g_nextS ?_
      refine g_ret (v := .int (numb ns k)) ?_ q
      unfold numb
      rw [if_neg hb', if_pos hn']
      exact ev_mod (ev_mul (ev_var rfl) ev_c (.inr ⟨by decide, by decide⟩)) ev_c (by decide)

theorem read_l_counts (vs : List V) (H : Hp) (Q : VK) (E : XK) (h : sp_l_counts K c vs H Q E) : t_l_counts K c E { nx := fun _ H' => Q .non H', rt := Q } (start ["_law_thing"] vs) H := by
  obtain ⟨i, rfl, q⟩ := h
  refine Go.here (g_ret (v := .bl (true && (true && true))) (ev_andV (ev_isi (tt := .type "int") (x := .int i) (ev_var rfl) (fun H1 _ => .base (.int i)) (kit_ty (by decide +kernel))) (fun _ => ev_andV (ev_notIB (ev_var rfl) ev_c) fun _ => ev_notIB (ev_var rfl) ev_c)) q)

theorem read_l_size (hc : c.sz = [6, 9, 17, 9, 17, 12, 30, 100]) (vs : List V) (H : Hp) (Q : VK) (E : XK) (h : sp_l_size K c vs H Q E) : t_l_size K c E { nx := fun _ H' => Q .non H', rt := Q } (start ["_law_cell"] vs) H := by
  obtain ⟨x, rfl, q⟩ := h
  have h0 : 0 ≤ x % 8 := Int.emod_nonneg _ (by decide)
  have h1 : x % 8 < 8 := Int.emod_lt_of_pos _ (by decide)
  have hb : 0 < gi c.sz (x % 8) := by
    rw [hc]
    have hm := gi_mem (ns := [6, 9, 17, 9, 17, 12, 30, 100]) h0 (by show x % 8 < 8; exact h1)
    simp only [List.mem_cons, List.not_mem_nil, or_false] at hm
    omega
  have hd : Ev (tOp (rIxL K) (tLst (tCons (tC (.int 6)) (tCons (tC (.int 9)) (tCons (tC (.int 17)) (tCons (tC (.int 9)) (tCons (tC (.int 17)) (tCons (tC (.int 12)) (tCons (tC (.int 30)) (tCons (tC (.int 100)) tNil))))))))) (tOp (rI (fun _ j => 0 < j) fun i j => .int (i % j)) (tVar 0) (tC (.int 8)))) (start ["_law_cell"] [.int x]) H (.int (gi c.sz (x % 8))) := by
    rw [hc]
    refine ev_ixNew (xs := [.int 6, .int 9, .int 17, .int 9, .int 17, .int 12, .int 30, .int 100]) (el_lst (by walk_at "ea") (by decide)) (ev_mod (ev_var rfl) ev_c (by decide)) (gi_at (ns := [6, 9, 17, 9, 17, 12, 30, 100]) h0 ?_)
    show x % 8 < 8
    exact h1
  exact Go.here (g_ret (v := .int (szf c.sz x)) (ev_add ev_c (ev_mod (ev_div (ev_var rfl) ev_c ⟨by decide, by decide⟩) hd hb)) q)
end
end Fo
/-! FoldR5 -/
namespace Fo
open PySem L2 Evl
local macro_rules | `(tactic| walk_at "hl") => `(tactic| first
  | assumption
  | exact upd_same
  | (refine (by assumption : Ex _ _) _ _ ?_; walk_at "hl"))
local macro_rules | `(tactic| walk_at "sq") => `(tactic| first
  | assumption
  | (refine sq_lst ?_; walk_at "hl")
  | (refine ex_l (by assumption) ?_; walk_at "sq"))
local macro_rules | `(tactic| walk_at "st") => `(tactic| first
  | assumption
  | (refine st_of ?_; walk_at "hl")
  | (refine ex_t (by assumption) ?_; walk_at "st"))
local macro_rules | `(tactic| walk_at "ar") => `(tactic| first
  | assumption
  | omega
  | decide)
local macro_rules | `(tactic| walk_at "lar") => `(tactic| first
  | omega
  | (simp only [List.length_append, List.length_map, List.length_take, List.length_drop, List.length_cons, List.length_nil, List.length_replicate]; omega))
local macro_rules | `(tactic| walk_at "hb") => `(tactic| first
  | skip)
local macro_rules | `(tactic| walk_at "mul") => `(tactic| first
  | (exact Or.inr ⟨by decide, by decide⟩)
  | (exact Or.inl ⟨by decide, by decide⟩)
  | (exact Or.inl ⟨by omega, by omega⟩)
  | (exact Or.inr ⟨by omega, by omega⟩))
local macro_rules | `(tactic| walk_at "div") => `(tactic| first
  | (exact ⟨by decide, by decide⟩)
  | (exact ⟨by omega, by omega⟩))
local macro_rules | `(tactic| walk_at "ea") => `(tactic| first
  | exact ea_nil
  | ((with_reducible refine' ea_cons ?k0 ?k1); (case k0 => walk_at "ev"); (case k1 => walk_at "ea")))
local macro_rules | `(tactic| walk_at "eo") => `(tactic| first
  | exact eo_none
  | ((with_reducible refine' eo_some ?k0); (case k0 => walk_at "ev")))
local macro_rules | `(tactic| walk_at "el") => `(tactic| first
  | ((with_reducible refine' el_lst ?k0 ?k1); (case k0 => walk_at "ea"); (case k1 => (exact Nat.le_of_ble_eq_true rfl)))
  | ((with_reducible refine' el_from ?k0 ?k1 ?k2 ?k3 ?k4); (case k0 => walk_at "ev"); (case k1 => walk_at "eo"); (case k2 => walk_at "sq"); (case k3 => walk_at "ar"); (case k4 => walk_at "lar"))
  | ((with_reducible refine' el_upto ?k0 ?k1 ?k2 ?k3 ?k4); (case k0 => walk_at "ev"); (case k1 => walk_at "eo"); (case k2 => walk_at "sq"); (case k3 => walk_at "ar"); (case k4 => walk_at "lar"))
  | ((with_reducible refine' el_rep1 ?k0 ?k1 ?k2 ?k3); (case k0 => walk_at "el"); (case k1 => walk_at "ev"); (case k2 => walk_at "ar"); (case k3 => walk_at "ar"))
  | ((with_reducible refine' el_cat ?k0 ?k1 ?k2); (case k0 => walk_at "el"); (case k1 => walk_at "el"); (case k2 => walk_at "lar"))
  | ((with_reducible refine' el_callD ?k0 ?k1); (case k0 => walk_at "ea"); (case k1 => walk_at "sp"))
  | ((with_reducible refine' el_list ?k0 ?k1); (case k0 => walk_at "ev"); (case k1 => walk_at "sq")))
local macro_rules | `(tactic| walk_at "et") => `(tactic| first
  | ((with_reducible refine' et_test ?k0); (case k0 => walk_at "ev"))
  | ((with_reducible refine' et_B ?k0); (case k0 => walk_at "ev"))
  | ((with_reducible refine' et_not ?k0); (case k0 => walk_at "et"))
  | ((with_reducible refine' et_and ?k0 (fun hb => ?k1)); (case k0 => walk_at "et"); (case k1 => (walk_at "hb"; walk_at "et")))
  | ((with_reducible refine' et_or ?k0 (fun hb => ?k1)); (case k0 => walk_at "et"); (case k1 => (walk_at "hb"; walk_at "et"))))
local macro_rules | `(tactic| walk_at "ev") => `(tactic| first
  | ((with_reducible refine' ev_var ?k0); (case k0 => rfl))
  | exact ev_c
  | ((with_reducible refine' ev_add ?k0 ?k1); (case k0 => walk_at "ev"); (case k1 => walk_at "ev"))
  | ((with_reducible refine' ev_sub ?k0 ?k1); (case k0 => walk_at "ev"); (case k1 => walk_at "ev"))
  | ((with_reducible refine' ev_ixI ?k0 ?k1 ?k2 ?k3 ?k4); (case k0 => walk_at "ev"); (case k1 => walk_at "ev"); (case k2 => walk_at "sq"); (case k3 => walk_at "ar"); (case k4 => walk_at "ar"))
  | ((with_reducible refine' ev_lt ?k0 ?k1); (case k0 => walk_at "ev"); (case k1 => walk_at "ev"))
  | ((with_reducible refine' ev_gt ?k0 ?k1); (case k0 => walk_at "ev"); (case k1 => walk_at "ev"))
  | ((with_reducible refine' ev_le ?k0 ?k1); (case k0 => walk_at "ev"); (case k1 => walk_at "ev"))
  | ((with_reducible refine' ev_ge ?k0 ?k1); (case k0 => walk_at "ev"); (case k1 => walk_at "ev"))
  | ((with_reducible refine' ev_eqI ?k0 ?k1); (case k0 => walk_at "ev"); (case k1 => walk_at "ev"))
  | ((with_reducible refine' ev_neI ?k0 ?k1); (case k0 => walk_at "ev"); (case k1 => walk_at "ev"))
  | ((with_reducible refine' ev_eqB ?k0 ?k1); (case k0 => walk_at "ev"); (case k1 => walk_at "ev"))
  | ((with_reducible refine' ev_neB ?k0 ?k1); (case k0 => walk_at "ev"); (case k1 => walk_at "ev"))
  | ((with_reducible refine' ev_eqS ?k0 ?k1); (case k0 => walk_at "ev"); (case k1 => walk_at "ev"))
  | ((with_reducible refine' ev_neS ?k0 ?k1); (case k0 => walk_at "ev"); (case k1 => walk_at "ev"))
  | ((with_reducible refine' ev_mod ?k0 ?k1 ?k2); (case k0 => walk_at "ev"); (case k1 => walk_at "ev"); (case k2 => walk_at "ar"))
  | ((with_reducible refine' ev_mul ?k0 ?k1 ?k2); (case k0 => walk_at "ev"); (case k1 => walk_at "ev"); (case k2 => walk_at "mul"))
  | ((with_reducible refine' ev_div ?k0 ?k1 ?k2); (case k0 => walk_at "ev"); (case k1 => walk_at "ev"); (case k2 => walk_at "div"))
  | ((with_reducible refine' ev_neg ?k0); (case k0 => walk_at "ev"))
  | ((with_reducible refine' ev_callD ?k0 ?k1); (case k0 => walk_at "ea"); (case k1 => walk_at "sp"))
  | ((with_reducible refine' ev_lenI ?k0 ?k1); (case k0 => walk_at "ev"); (case k1 => walk_at "sq"))
  | ((with_reducible refine' ev_lenTxt ?k0 ?k1); (case k0 => walk_at "ev"); (case k1 => walk_at "ar"))
  | ((with_reducible refine' ev_lenS ?k0 ?k1); (case k0 => walk_at "ev"); (case k1 => walk_at "ar"))
  | ((with_reducible refine' ev_ixTxt ?k0 ?k1 ?k2 ?k3 ?k4); (case k0 => walk_at "ev"); (case k1 => walk_at "ev"); (case k2 => walk_at "ar"); (case k3 => walk_at "ar"); (case k4 => walk_at "ar"))
  | ((with_reducible refine' ev_ix2 ?k0); (case k0 => walk_at "ev"))
  | ((with_reducible refine' ev_isiI ?k0); (case k0 => walk_at "ev"))
  | ((with_reducible refine' ev_isiL ?k0 ?k1); (case k0 => walk_at "ev"); (case k1 => walk_at "hl"))
  | ((with_reducible refine' ev_isiU ?k0 ?k1); (case k0 => walk_at "ev"); (case k1 => walk_at "hl"))
  | ((with_reducible refine' ev_isiS ?k0); (case k0 => walk_at "ev"))
  | ((with_reducible refine' ev_isiB ?k0); (case k0 => walk_at "ev"))
  | ((with_reducible refine' ev_isN ?k0); (case k0 => walk_at "ev"))
  | ((with_reducible refine' ev_notN ?k0); (case k0 => walk_at "ev"))
  | ((with_reducible refine' ev_notIB ?k0 ?k1); (case k0 => walk_at "ev"); (case k1 => walk_at "ev"))
  | ((with_reducible refine' ev_neNil ?k0 ?k1); (case k0 => walk_at "ev"); (case k1 => walk_at "sq"))
  | ((with_reducible refine' ev_eqNil ?k0 ?k1); (case k0 => walk_at "ev"); (case k1 => walk_at "sq"))
  | ((with_reducible refine' ev_eqL ?k0 ?k1 ?k2 ?k3); (case k0 => walk_at "ev"); (case k1 => walk_at "ev"); (case k2 => walk_at "sq"); (case k3 => walk_at "sq"))
  | ((with_reducible refine' ev_neL ?k0 ?k1 ?k2 ?k3); (case k0 => walk_at "ev"); (case k1 => walk_at "ev"); (case k2 => walk_at "sq"); (case k3 => walk_at "sq"))
  | ((with_reducible refine' ev_min2 ?k0 ?k1); (case k0 => walk_at "ev"); (case k1 => walk_at "ev"))
  | ((with_reducible refine' ev_max2 ?k0 ?k1); (case k0 => walk_at "ev"); (case k1 => walk_at "ev"))
  | ((with_reducible refine' ev_intB ?k0); (case k0 => walk_at "ev"))
  | ((with_reducible refine' ev_andV ?k0 (fun hb => ?k1)); (case k0 => walk_at "ev"); (case k1 => (walk_at "hb"; walk_at "ev")))
  | ((with_reducible refine' ev_orV ?k0 (fun hb => ?k1)); (case k0 => walk_at "ev"); (case k1 => (walk_at "hb"; walk_at "ev")))
  | ((with_reducible refine' ev_notV ?k0); (case k0 => walk_at "ev"))
  | ((with_reducible refine' ev_ifI ?k0 (fun hb => ?k1) (fun hb => ?k2)); (case k0 => walk_at "et"); (case k1 => (walk_at "hb"; walk_at "ev")); (case k2 => (walk_at "hb"; walk_at "ev")))
  | ((with_reducible refine' ev_ifS ?k0 (fun hb => ?k1) (fun hb => ?k2)); (case k0 => walk_at "et"); (case k1 => (walk_at "hb"; walk_at "ev")); (case k2 => (walk_at "hb"; walk_at "ev"))))
local macro_rules | `(tactic| walk_at "hb") => `(tactic| (try simp only [decide_eq_true_eq, decide_eq_false_iff_not, Bool.and_eq_true, Bool.or_eq_true, Bool.or_eq_false_iff, Bool.not_eq_true', Bool.not_eq_false', beq_iff_eq] at *))
local macro_rules | `(tactic| walk_at "sp") => `(tactic| first
  | (refine' v_number ?k0 ?k1 ?k2; (case k0 => walk_at "sq"); (case k1 => walk_at "ar"); (case k2 => walk_at "ar"))
  | (refine' v_drawn ?k0 ?k1; (case k0 => walk_at "sq"); (case k1 => walk_at "ar"))
  | exact v_size
  | exact v_counts
  | (refine' v_wraps ?k0 ?k1 ?k2 ?k3 ?k4; (case k0 => walk_at "sq"); (case k1 => walk_at "ar"); (case k2 => walk_at "ar"); (case k3 => walk_at "ar"); (case k4 => walk_at "ar"))
  | (refine' v_l_wraps ?k0 ?k1 ?k2 ?k3 ?k4; (case k0 => walk_at "sq"); (case k1 => walk_at "ar"); (case k2 => walk_at "ar"); (case k3 => walk_at "ar"); (case k4 => walk_at "ar"))
  | (refine' v_cross ?k0 ?k1 ?k2 ?k3 ?k4; (case k0 => walk_at "sq"); (case k1 => walk_at "ar"); (case k2 => walk_at "ar"); (case k3 => walk_at "ar"); (case k4 => walk_at "ar"))
  | (refine' v_places ?k0 ?k1 ?k2; (case k0 => walk_at "sq"); (case k1 => walk_at "ar"); (case k2 => assumption))
  | (refine' v_letters ?k0 ?k1 ?k2; (case k0 => walk_at "sq"); (case k1 => walk_at "ar"); (case k2 => assumption))
  | (refine' v_l_places ?k0 ?k1 ?k2; (case k0 => walk_at "sq"); (case k1 => walk_at "ar"); (case k2 => assumption))
  | (refine' v_fits ?k0 ?k1 ?k2 ?k3; (case k0 => walk_at "sq"); (case k1 => walk_at "ar"); (case k2 => walk_at "ar"); (case k3 => walk_at "ar"))
  | (refine' v_none ?k0 ?k1 ?k2; (case k0 => walk_at "sq"); (case k1 => walk_at "ar"); (case k2 => walk_at "ar")))
local macro_rules | `(tactic| walk_at "sp") => `(tactic| first
  | (refine' v_turned ?k0 ?k1 ?k2; (case k0 => walk_at "sq"); (case k1 => walk_at "ar"); (case k2 => assumption))
  | (refine' v_same ?k0 ?k1 ?k2; (case k0 => walk_at "hl"); (case k1 => walk_at "sq"); (case k2 => walk_at "ar"))
  | (refine' v_told ?k0 ?k1 ?k2; (case k0 => walk_at "sq"); (case k1 => walk_at "hl"); (case k2 => assumption))
  | (refine' v_parted ?k0 ?k1 ?k2 ?k3; (case k0 => walk_at "sq"); (case k1 => walk_at "ar"); (case k2 => walk_at "ar"); (case k3 => assumption)))
local macro_rules | `(tactic| walk_at "sp") => `(tactic| first
  | (refine' v_is_pile ?k0 ?k1 ?k2 ?k3; (case k0 => walk_at "hl"); (case k1 => assumption); (case k2 => walk_at "ar"); (case k3 => walk_at "ar")))
section
variable {K : PySem.W.Frag} {c : Cs}
theorem read_l_places (vs : List V) (H : Hp) (Q : VK) (E : XK) (h : sp_l_places K c vs H Q E) : t_l_places K c E { nx := fun _ H' => Q .non H', rt := Q } (start ["_law_pile_here", "_law_at", "_law_k"] vs) H := by
  obtain ⟨a, ns, rfl, hS, hlen, pp, q⟩ := h
  have hps := pp.pos
  refine Go.here (g_asgL (xs := List.replicate (ns.length : Int).toNat (.int 0)) (by walk_at "el") fun p H1 hp e1 hl => ?_)
  have e0 : List.replicate (ns.length : Int).toNat (V.int 0) = (plD 0 ns 0).map V.int := by rw [plD_zero, List.map_replicate]; rfl
  rw [e0] at hl
  refine g_forR1 (n := (ns.length : Int)) (by walk_at "ea") (by omega) (fun i σ H' => ∃ y2 : Option V, σ = [some (.ref a), some (.ref p), y2] ∧ Ex H H' ∧ H' p = some (.lst ((plD 0 ns i).map V.int)))
    (fun H2 e2 => ⟨none, rfl, e1.trans e2, e2 p _ hl⟩) (fun i σ H' hi hP => ?_) (fun σ H' hP => ?_) (by omega)
  · obtain ⟨y2, rfl, e, hl'⟩ := hP
    have hin : i < ns.length := by omega
    obtain ⟨z0, z1, _⟩ := pp.st (k := (i : Int)) (by omega) (by omega)
    have hz := gi_get hin
    have hlF := plD_len 0 ns i
    have hnew : gi ns (i : Int) ∉ ns.take i := fun hm => by
      have nd2 := pp.nd
      rw [← List.take_append_drop i ns] at nd2
      have hd : gi ns (i : Int) ∈ ns.drop i := by
        have : (ns.drop i)[0]? = some (gi ns (i : Int)) := by rw [List.getElem?_drop]; exact hz
        exact List.mem_of_getElem? this
      exact (List.nodup_append.mp nd2).2.2 _ hm _ hd rfl
    refine g_setL (xs := (plD 0 ns i).map V.int) hl' (v := .int (i : Int)) (j := gi ns (i : Int)) (by walk_at "ev") (by walk_at "ev") (by walk_at "ev") z0 (by rw [List.length_map, hlF]; exact z1) fun H2 e2 => ?_
    refine g_next (D := _) (fun H3 e3 => ?_) _ (Ex.refl _)
    have e4 : ((plD 0 ns i).map V.int).set (gi ns (i : Int)).toNat (V.int (i : Int)) = (plD 0 ns (i + 1)).map V.int := by rw [← plD_set hz z0 z1 hnew, List.map_set]
    refine ⟨some (.int (i : Int)), rfl, (Ex.mut (e.trans e2) hp).trans e3, ?_⟩
    rw [← e4]
    exact e3 p _ upd_same
  · obtain ⟨y2, rfl, e, hl'⟩ := hP
    rw [show ((ns.length : Nat) : Int).toNat = ns.length from rfl, plD_end pp] at hl'
    exact g_ret (v := .ref p) (by walk_at "ev") fun H2 e2 => q p H2 hp (e.trans e2) (e2 p _ hl')

theorem read_l_fits (vs : List V) (H : Hp) (Q : VK) (E : XK) (h : sp_l_fits K c vs H Q E) : t_l_fits K c E { nx := fun _ H' => Q .non H', rt := Q } (start ["_law_at", "_law_stamp", "_law_gap", "_law_crease", "_law_low", "_law_high"] vs) H := by
  obtain ⟨a, p, s, g, rfl, hS, ⟨hs, s1, s2⟩, q⟩ := h
  subst hs
  have m0 : 0 ≤ ((p.length : Int) + 1) % 2 := Int.emod_nonneg _ (by decide)
  have m1 : ((p.length : Int) + 1) % 2 < 2 := Int.emod_lt_of_pos _ (by decide)
  refine Go.here ?_
  refine g_forR3 (lo := ((p.length : Int) + 1) % 2) (n := (p.length : Int) - 1) (by walk_at "ea") (by omega) (fun m σ H' => ∃ y3 y4 y5 : Option V, σ = [some (.ref a), some (.int (p.length : Int)), some (.int g), y3, y4, y5] ∧ Ex H H' ∧ ∀ c : Int, 0 ≤ c → c < ((p.length : Int) + 1) % 2 + (m : Int) * 2 → ((p.length : Int) - 1 - c) % 2 = 0 → c + 1 < (p.length : Int) - 1 → fitB p g c = true)
    (fun H2 e2 => ⟨none, none, none, rfl, e2, fun c c0 c1 c2 c3 => by omega⟩) (fun m σ H' hm hP => ?_) (fun σ H' hP => ?_)
  · obtain ⟨y3, y4, y5, rfl, e, hn⟩ := hP
    generalize hk : ((p.length : Int) + 1) % 2 + (m : Int) * 2 = k at *
    have k0 : 0 ≤ k := by omega
    refine g_asg (v := .int (lo (gi p k) (gi p (k + 1)))) (ev_min2 (by walk_at "ev") (by walk_at "ev")) ?_
    refine g_asg (v := .int (hi (gi p k) (gi p (k + 1)))) (ev_max2 (by walk_at "ev") (by walk_at "ev")) ?_
    refine g_when (b := !(fitB p g k)) (by unfold fitB wrB; walk_at "et") (fun hb => ?_) (fun hb => ?_)
    · refine g_ret (v := .bl false) ev_c fun H3 e3 => ?_
      have hf : fitsB p g = false := by
        rw [Bool.eq_false_iff]
        intro z
        have hz := (fitsB_iff p g).mp z k k0 (by omega) (by omega)
        rw [hz] at hb
        exact Bool.noConfusion hb
      rw [← hf]
      exact q H3 (e.trans e3)
    · refine g_next fun H3 e3 => ⟨_, _, _, rfl, e.trans e3, fun c c0 c1 c2 c3 => ?_⟩
      by_cases h : c = k
      · rw [h]
        simpa using hb
      · exact hn c c0 (by omega) c2 c3
  · obtain ⟨y3, y4, y5, rfl, e, hn⟩ := hP
    refine g_ret (v := .bl true) ev_c fun H3 e3 => ?_
    have ht : fitsB p g = true := (fitsB_iff p g).mpr fun c c0 c1 c2 => hn c c0 (by omega) c2 c1
    rw [← ht]
    exact q H3 (e.trans e3)

theorem one_pile : IsPile [0] := ⟨by decide, by decide, by decide⟩
theorem one_noX : NoX (pl [0]) := fun i j x => by
  have h1 := x.i0
  have h2 := x.ij
  have h3 := x.jn
  rw [pl_len] at h3
  simp at h3
  omega
theorem read_l_good (vs : List V) (H : Hp) (Q : VK) (E : XK) (h : sp_l_good K c vs H Q E) : t_l_good K c E { nx := fun _ H' => Q .non H', rt := Q } (start ["_law_script", "_law_start", "_law_size_here", "_law_pile_here", "_law_stamp", "_law_at", "_law_number_here", "_law_gap"] vs) H := by
  obtain ⟨a, ns, s, n, rfl, hS, h0, h1, h2, h3, q⟩ := h
  refine Go.here (g_asgL (xs := [.int 0]) (by walk_at "el") fun p H1 hp e1 hl => ?_)
  refine g_forR2 (lo := 1) (n := n) (by walk_at "ea") (by omega) (fun i σ H' => ∃ (p : Addr) (ps : List Int) (y4 y5 y6 y7 : Option V), σ = [some (.ref a), some (.int s), some (.int n), some (.ref p), y4, y5, y6, y7] ∧ Ex H H' ∧ H p = none ∧ H' p = some (.lst (ps.map V.int)) ∧ Per (i + 1) ps ∧ NoX (pl ps))
    (fun H2 e2 => ⟨p, [0], none, none, none, none, rfl, e1.trans e2, hp, e2 p _ hl, one_pile.per, one_noX⟩) (fun i σ H' hi hP => ?_) (fun σ H' hP => ?_)
  · obtain ⟨p, ps, y4, y5, y6, y7, rfl, e, hp, hl, per, nx⟩ := hP
    have pp := per.pile (by omega)
    have hlen := per.len
    have hpl := pl_len ps
    have e1i : (1 : Int) + (i : Int) = ((i + 1 : Nat) : Int) := by omega
    refine g_asgL (xs := (pl ps).map V.int) (by walk_at "el") fun r H2 hr e2 hl2 => ?_
    refine g_asg (v := .int (numb ns (s + (1 + (i : Int))))) (by walk_at "ev") ?_
    have hn0 := numb_lo ns (s + (1 + (i : Int)))
    generalize numb ns (s + (1 + (i : Int))) = nu at hn0 ⊢
    refine g_asg (v := .int (nu % (1 + (i : Int) + 1))) (by walk_at "ev") ?_
    have g0 : 0 ≤ nu % (1 + (i : Int) + 1) := Int.emod_nonneg _ (by omega)
    have g1 : nu % (1 + (i : Int) + 1) < 1 + (i : Int) + 1 := Int.emod_lt_of_pos _ (by omega)
    generalize nu % (1 + (i : Int) + 1) = g at g0 g1 ⊢
    have fin : ∀ (g' : Int), 0 ≤ g' → g' ≤ 1 + (i : Int) → Fits (pl ps) g' → ∀ H3, Ex H2 H3 → Go (tSeq (tAsg (tOp rCat (tOp rCat (tSl (rSlL K) (tVar 3) tNoPart (tPart (tVar 7))) (tLst (tCons (tVar 4) tNil))) (tSl (rSlL K) (tVar 3) (tPart (tVar 7)) tNoPart)) (gName 3)) tNext)
        { nx := fun σ H' => ∃ (p : Addr) (ps : List Int) (y4 y5 y6 y7 : Option V), σ = [some (.ref a), some (.int s), some (.int n), some (.ref p), y4, y5, y6, y7] ∧ Ex H H' ∧ H p = none ∧ H' p = some (.lst (ps.map V.int)) ∧ Per (i + 1 + 1) ps ∧ NoX (pl ps),
          rt := Q, bk := (tSeq (tRet (tVar 3)) tNext { nx := fun _ H' => Q .non H', rt := Q }), ct := fun σ H' => ∃ (p : Addr) (ps : List Int) (y4 y5 y6 y7 : Option V), σ = [some (.ref a), some (.int s), some (.int n), some (.ref p), y4, y5, y6, y7] ∧ Ex H H' ∧ H p = none ∧ H' p = some (.lst (ps.map V.int)) ∧ Per (i + 1 + 1) ps ∧ NoX (pl ps) }
        [some (.ref a), some (.int s), some (.int n), some (.ref p), some (.int (1 + (i : Int))), some (.ref r), some (.int nu), some (.int g')] H3 := fun g' g0' g1' hf H3 e3 => by
      refine g_asgL (xs := (ps.map V.int).take g'.toNat ++ [V.int (1 + (i : Int))] ++ (ps.map V.int).drop g'.toNat) (by walk_at "el") fun p' H4 hp' e4 hl' => ?_
      refine g_next fun H5 e5 => ?_
      rw [put_map, e1i] at hl'
      refine ⟨p', put ps g' ((i + 1 : Nat) : Int), _, _, _, _, rfl, ((e.trans e2).trans e3).trans (e4.trans e5), fresh_back ((e.trans e2).trans e3) hp', e5 p' _ hl', per.put g', ?_⟩
      exact (noX_next (next_put per (by omega) g0' (by omega))).mpr ⟨nx, hf⟩
    obtain ⟨z0, z1, _⟩ := pp.at (s := (i : Int)) (by omega) (by omega)
    have ez : (1 : Int) + (i : Int) - 1 = (i : Int) := by omega
    refine g_when (b := !(fitsB (pl ps) g)) (by walk_at "et") (fun hb => ?_) (fun hb => ?_)
    · have w0 : 0 ≤ nu / 64 % 2 := Int.emod_nonneg _ (by decide)
      have w1 : nu / 64 % 2 < 2 := Int.emod_lt_of_pos _ (by decide)
      refine g_asg (v := .int (gi (pl ps) (1 + (i : Int) - 1) + nu / 64 % 2)) (by walk_at "ev") (g_nextS ?_)
      rw [ez]
      refine fin _ (by omega) (by omega) (fits_beside pp ?_) H2 (Ex.refl _)
      have e5 : (ps.length : Int) - 1 = (i : Int) := by omega
      rw [e5]
      omega
    · refine fin g g0 (by omega) ((fitsB_iff _ _).mp (by simpa using hb)) H2 (Ex.refl _)
  · obtain ⟨p, ps, y4, y5, y6, y7, rfl, e, hp, hl, per, nx⟩ := hP
    refine g_ret (v := .ref p) (by walk_at "ev") fun H2 e2 => ?_
    exact q _ p H2 ⟨ps, rfl, per.pile (by omega), by rw [per.len]; omega, nx⟩ hp (e.trans e2) (e2 p _ hl)
end
end Fo
/-! FoldR8 -/
namespace Fo
open PySem L2 Evl
local macro_rules | `(tactic| walk_at "hl") => `(tactic| first
  | assumption
  | exact upd_same
  | (refine (by assumption : Ex _ _) _ _ ?_; walk_at "hl"))
local macro_rules | `(tactic| walk_at "sq") => `(tactic| first
  | assumption
  | (refine sq_lst ?_; walk_at "hl")
  | (refine ex_l (by assumption) ?_; walk_at "sq"))
local macro_rules | `(tactic| walk_at "st") => `(tactic| first
  | assumption
  | (refine st_of ?_; walk_at "hl")
  | (refine ex_t (by assumption) ?_; walk_at "st"))
local macro_rules | `(tactic| walk_at "ar") => `(tactic| first
  | assumption
  | omega
  | decide)
local macro_rules | `(tactic| walk_at "lar") => `(tactic| first
  | omega
  | (simp only [List.length_append, List.length_map, List.length_take, List.length_drop, List.length_cons, List.length_nil, List.length_replicate]; omega))
local macro_rules | `(tactic| walk_at "hb") => `(tactic| first
  | skip)
local macro_rules | `(tactic| walk_at "mul") => `(tactic| first
  | (exact Or.inr ⟨by decide, by decide⟩)
  | (exact Or.inl ⟨by decide, by decide⟩)
  | (exact Or.inl ⟨by omega, by omega⟩)
  | (exact Or.inr ⟨by omega, by omega⟩))
local macro_rules | `(tactic| walk_at "div") => `(tactic| first
  | (exact ⟨by decide, by decide⟩)
  | (exact ⟨by omega, by omega⟩))
local macro_rules | `(tactic| walk_at "ea") => `(tactic| first
  | exact ea_nil
  | ((with_reducible refine' ea_cons ?k0 ?k1); (case k0 => walk_at "ev"); (case k1 => walk_at "ea")))
local macro_rules | `(tactic| walk_at "eo") => `(tactic| first
  | exact eo_none
  | ((with_reducible refine' eo_some ?k0); (case k0 => walk_at "ev")))
local macro_rules | `(tactic| walk_at "el") => `(tactic| first
  | ((with_reducible refine' el_lst ?k0 ?k1); (case k0 => walk_at "ea"); (case k1 => (exact Nat.le_of_ble_eq_true rfl)))
  | ((with_reducible refine' el_from ?k0 ?k1 ?k2 ?k3 ?k4); (case k0 => walk_at "ev"); (case k1 => walk_at "eo"); (case k2 => walk_at "sq"); (case k3 => walk_at "ar"); (case k4 => walk_at "lar"))
  | ((with_reducible refine' el_upto ?k0 ?k1 ?k2 ?k3 ?k4); (case k0 => walk_at "ev"); (case k1 => walk_at "eo"); (case k2 => walk_at "sq"); (case k3 => walk_at "ar"); (case k4 => walk_at "lar"))
  | ((with_reducible refine' el_rep1 ?k0 ?k1 ?k2 ?k3); (case k0 => walk_at "el"); (case k1 => walk_at "ev"); (case k2 => walk_at "ar"); (case k3 => walk_at "ar"))
  | ((with_reducible refine' el_cat ?k0 ?k1 ?k2); (case k0 => walk_at "el"); (case k1 => walk_at "el"); (case k2 => walk_at "lar"))
  | ((with_reducible refine' el_callD ?k0 ?k1); (case k0 => walk_at "ea"); (case k1 => walk_at "sp"))
  | ((with_reducible refine' el_list ?k0 ?k1); (case k0 => walk_at "ev"); (case k1 => walk_at "sq")))
local macro_rules | `(tactic| walk_at "et") => `(tactic| first
  | ((with_reducible refine' et_test ?k0); (case k0 => walk_at "ev"))
  | ((with_reducible refine' et_B ?k0); (case k0 => walk_at "ev"))
  | ((with_reducible refine' et_not ?k0); (case k0 => walk_at "et"))
  | ((with_reducible refine' et_and ?k0 (fun hb => ?k1)); (case k0 => walk_at "et"); (case k1 => (walk_at "hb"; walk_at "et")))
  | ((with_reducible refine' et_or ?k0 (fun hb => ?k1)); (case k0 => walk_at "et"); (case k1 => (walk_at "hb"; walk_at "et"))))
local macro_rules | `(tactic| walk_at "ev") => `(tactic| first
  | ((with_reducible refine' ev_var ?k0); (case k0 => rfl))
  | exact ev_c
  | ((with_reducible refine' ev_add ?k0 ?k1); (case k0 => walk_at "ev"); (case k1 => walk_at "ev"))
  | ((with_reducible refine' ev_sub ?k0 ?k1); (case k0 => walk_at "ev"); (case k1 => walk_at "ev"))
  | ((with_reducible refine' ev_ixI ?k0 ?k1 ?k2 ?k3 ?k4); (case k0 => walk_at "ev"); (case k1 => walk_at "ev"); (case k2 => walk_at "sq"); (case k3 => walk_at "ar"); (case k4 => walk_at "ar"))
  | ((with_reducible refine' ev_lt ?k0 ?k1); (case k0 => walk_at "ev"); (case k1 => walk_at "ev"))
  | ((with_reducible refine' ev_gt ?k0 ?k1); (case k0 => walk_at "ev"); (case k1 => walk_at "ev"))
  | ((with_reducible refine' ev_le ?k0 ?k1); (case k0 => walk_at "ev"); (case k1 => walk_at "ev"))
  | ((with_reducible refine' ev_ge ?k0 ?k1); (case k0 => walk_at "ev"); (case k1 => walk_at "ev"))
  | ((with_reducible refine' ev_eqI ?k0 ?k1); (case k0 => walk_at "ev"); (case k1 => walk_at "ev"))
  | ((with_reducible refine' ev_neI ?k0 ?k1); (case k0 => walk_at "ev"); (case k1 => walk_at "ev"))
  | ((with_reducible refine' ev_eqB ?k0 ?k1); (case k0 => walk_at "ev"); (case k1 => walk_at "ev"))
  | ((with_reducible refine' ev_neB ?k0 ?k1); (case k0 => walk_at "ev"); (case k1 => walk_at "ev"))
  | ((with_reducible refine' ev_eqS ?k0 ?k1); (case k0 => walk_at "ev"); (case k1 => walk_at "ev"))
  | ((with_reducible refine' ev_neS ?k0 ?k1); (case k0 => walk_at "ev"); (case k1 => walk_at "ev"))
  | ((with_reducible refine' ev_mod ?k0 ?k1 ?k2); (case k0 => walk_at "ev"); (case k1 => walk_at "ev"); (case k2 => walk_at "ar"))
  | ((with_reducible refine' ev_mul ?k0 ?k1 ?k2); (case k0 => walk_at "ev"); (case k1 => walk_at "ev"); (case k2 => walk_at "mul"))
  | ((with_reducible refine' ev_div ?k0 ?k1 ?k2); (case k0 => walk_at "ev"); (case k1 => walk_at "ev"); (case k2 => walk_at "div"))
  | ((with_reducible refine' ev_neg ?k0); (case k0 => walk_at "ev"))
  | ((with_reducible refine' ev_callD ?k0 ?k1); (case k0 => walk_at "ea"); (case k1 => walk_at "sp"))
  | ((with_reducible refine' ev_lenI ?k0 ?k1); (case k0 => walk_at "ev"); (case k1 => walk_at "sq"))
  | ((with_reducible refine' ev_lenTxt ?k0 ?k1); (case k0 => walk_at "ev"); (case k1 => walk_at "ar"))
  | ((with_reducible refine' ev_lenS ?k0 ?k1); (case k0 => walk_at "ev"); (case k1 => walk_at "ar"))
  | ((with_reducible refine' ev_ixTxt ?k0 ?k1 ?k2 ?k3 ?k4); (case k0 => walk_at "ev"); (case k1 => walk_at "ev"); (case k2 => walk_at "ar"); (case k3 => walk_at "ar"); (case k4 => walk_at "ar"))
  | ((with_reducible refine' ev_ix2 ?k0); (case k0 => walk_at "ev"))
  | ((with_reducible refine' ev_isiI ?k0); (case k0 => walk_at "ev"))
  | ((with_reducible refine' ev_isiL ?k0 ?k1); (case k0 => walk_at "ev"); (case k1 => walk_at "hl"))
  | ((with_reducible refine' ev_isiU ?k0 ?k1); (case k0 => walk_at "ev"); (case k1 => walk_at "hl"))
  | ((with_reducible refine' ev_isiS ?k0); (case k0 => walk_at "ev"))
  | ((with_reducible refine' ev_isiB ?k0); (case k0 => walk_at "ev"))
  | ((with_reducible refine' ev_isN ?k0); (case k0 => walk_at "ev"))
  | ((with_reducible refine' ev_notN ?k0); (case k0 => walk_at "ev"))
  | ((with_reducible refine' ev_notIB ?k0 ?k1); (case k0 => walk_at "ev"); (case k1 => walk_at "ev"))
  | ((with_reducible refine' ev_neNil ?k0 ?k1); (case k0 => walk_at "ev"); (case k1 => walk_at "sq"))
  | ((with_reducible refine' ev_eqNil ?k0 ?k1); (case k0 => walk_at "ev"); (case k1 => walk_at "sq"))
  | ((with_reducible refine' ev_eqL ?k0 ?k1 ?k2 ?k3); (case k0 => walk_at "ev"); (case k1 => walk_at "ev"); (case k2 => walk_at "sq"); (case k3 => walk_at "sq"))
  | ((with_reducible refine' ev_neL ?k0 ?k1 ?k2 ?k3); (case k0 => walk_at "ev"); (case k1 => walk_at "ev"); (case k2 => walk_at "sq"); (case k3 => walk_at "sq"))
  | ((with_reducible refine' ev_min2 ?k0 ?k1); (case k0 => walk_at "ev"); (case k1 => walk_at "ev"))
  | ((with_reducible refine' ev_max2 ?k0 ?k1); (case k0 => walk_at "ev"); (case k1 => walk_at "ev"))
  | ((with_reducible refine' ev_intB ?k0); (case k0 => walk_at "ev"))
  | ((with_reducible refine' ev_andV ?k0 (fun hb => ?k1)); (case k0 => walk_at "ev"); (case k1 => (walk_at "hb"; walk_at "ev")))
  | ((with_reducible refine' ev_orV ?k0 (fun hb => ?k1)); (case k0 => walk_at "ev"); (case k1 => (walk_at "hb"; walk_at "ev")))
  | ((with_reducible refine' ev_notV ?k0); (case k0 => walk_at "ev"))
  | ((with_reducible refine' ev_ifI ?k0 (fun hb => ?k1) (fun hb => ?k2)); (case k0 => walk_at "et"); (case k1 => (walk_at "hb"; walk_at "ev")); (case k2 => (walk_at "hb"; walk_at "ev")))
  | ((with_reducible refine' ev_ifS ?k0 (fun hb => ?k1) (fun hb => ?k2)); (case k0 => walk_at "et"); (case k1 => (walk_at "hb"; walk_at "ev")); (case k2 => (walk_at "hb"; walk_at "ev"))))
local macro_rules | `(tactic| walk_at "hb") => `(tactic| (try simp only [decide_eq_true_eq, decide_eq_false_iff_not, Bool.and_eq_true, Bool.or_eq_true, Bool.or_eq_false_iff, Bool.not_eq_true', Bool.not_eq_false', beq_iff_eq] at *))
local macro_rules | `(tactic| walk_at "sp") => `(tactic| first
  | (refine' v_number ?k0 ?k1 ?k2; (case k0 => walk_at "sq"); (case k1 => walk_at "ar"); (case k2 => walk_at "ar"))
  | (refine' v_drawn ?k0 ?k1; (case k0 => walk_at "sq"); (case k1 => walk_at "ar"))
  | exact v_size
  | exact v_counts
  | (refine' v_wraps ?k0 ?k1 ?k2 ?k3 ?k4; (case k0 => walk_at "sq"); (case k1 => walk_at "ar"); (case k2 => walk_at "ar"); (case k3 => walk_at "ar"); (case k4 => walk_at "ar"))
  | (refine' v_l_wraps ?k0 ?k1 ?k2 ?k3 ?k4; (case k0 => walk_at "sq"); (case k1 => walk_at "ar"); (case k2 => walk_at "ar"); (case k3 => walk_at "ar"); (case k4 => walk_at "ar"))
  | (refine' v_cross ?k0 ?k1 ?k2 ?k3 ?k4; (case k0 => walk_at "sq"); (case k1 => walk_at "ar"); (case k2 => walk_at "ar"); (case k3 => walk_at "ar"); (case k4 => walk_at "ar"))
  | (refine' v_places ?k0 ?k1 ?k2; (case k0 => walk_at "sq"); (case k1 => walk_at "ar"); (case k2 => assumption))
  | (refine' v_letters ?k0 ?k1 ?k2; (case k0 => walk_at "sq"); (case k1 => walk_at "ar"); (case k2 => assumption))
  | (refine' v_l_places ?k0 ?k1 ?k2; (case k0 => walk_at "sq"); (case k1 => walk_at "ar"); (case k2 => assumption))
  | (refine' v_fits ?k0 ?k1 ?k2 ?k3; (case k0 => walk_at "sq"); (case k1 => walk_at "ar"); (case k2 => walk_at "ar"); (case k3 => walk_at "ar"))
  | (refine' v_none ?k0 ?k1 ?k2; (case k0 => walk_at "sq"); (case k1 => walk_at "ar"); (case k2 => walk_at "ar")))
local macro_rules | `(tactic| walk_at "sp") => `(tactic| first
  | (refine' v_turned ?k0 ?k1 ?k2; (case k0 => walk_at "sq"); (case k1 => walk_at "ar"); (case k2 => assumption))
  | (refine' v_same ?k0 ?k1 ?k2; (case k0 => walk_at "hl"); (case k1 => walk_at "sq"); (case k2 => walk_at "ar"))
  | (refine' v_told ?k0 ?k1 ?k2; (case k0 => walk_at "sq"); (case k1 => walk_at "hl"); (case k2 => assumption))
  | (refine' v_parted ?k0 ?k1 ?k2 ?k3; (case k0 => walk_at "sq"); (case k1 => walk_at "ar"); (case k2 => walk_at "ar"); (case k3 => assumption)))
local macro_rules | `(tactic| walk_at "sp") => `(tactic| first
  | (refine' v_is_pile ?k0 ?k1 ?k2 ?k3; (case k0 => walk_at "hl"); (case k1 => assumption); (case k2 => walk_at "ar"); (case k3 => walk_at "ar")))
section
variable {K : PySem.W.Frag} {c : Cs}
theorem sgn_V {z : Nat} : decide ((⟨#[z]⟩ : Str) = Str.ofString "V") = decide (z = 86) := by
  rw [sg_V]
  by_cases h : z = 86
  · subst h; simp
  · rw [decide_eq_false h, decide_eq_false (fun e => h (by injection e with e; simpa using e))]
theorem sgn_M {z : Nat} : decide ((⟨#[z]⟩ : Str) = Str.ofString "M") = decide (z = 77) := by
  rw [sg_M]
  by_cases h : z = 77
  · subst h; simp
  · rw [decide_eq_false h, decide_eq_false (fun e => h (by injection e with e; simpa using e))]
theorem read_look_at (vs : List V) (H : Hp) (Q : VK) (E : XK) (h : sp_look_at K c vs H Q E) : t_look_at K c E { nx := fun _ H' => Q .non H', rt := Q } (start ["row", "letter"] vs) H := by
  obtain ⟨l, rfl, hlen, q, x⟩ := h
  refine Go.here ?_
  refine g_forS (l := l) (ev_var rfl) (fun i σ H' => ∃ y : Option V, σ = [some (.str (txt l)), y] ∧ Ex H H' ∧ Letters (l.take i)) (fun H2 e2 => ⟨none, rfl, e2, fun c hc => by rw [List.take_zero] at hc; cases hc⟩) (fun i z σ H' hi hP => ?_) (fun σ H' hP => ?_)
  · obtain ⟨y, rfl, e, hL⟩ := hP
    refine g_when (b := !(decide (z = 86)) && !(decide (z = 77))) ?_ (fun hb => ?_) (fun hb => ?_)
    · rw [← sgn_V, ← sgn_M]
      exact et_and (et_test (ev_neS (ev_var rfl) ev_c)) fun _ => et_test (ev_neS (ev_var rfl) ev_c)
    · refine g_raise fun H2 e2 => x (fun hl => ?_) H2 (e.trans e2)
      have := hl z (List.mem_of_getElem? hi)
      simp at hb
      omega
    · refine g_next fun H2 e2 => ⟨_, rfl, e.trans e2, ?_⟩
      rw [take_more hi]
      intro c hc
      rcases List.mem_append.mp hc with hc | hc
      · exact hL c hc
      · rw [List.mem_singleton.mp hc]
        simp at hb
        omega
  · obtain ⟨y, rfl, e, hL⟩ := hP
    rw [List.take_length] at hL
    exact g_next fun H2 e2 => q hL H2 (e.trans e2)

theorem read_pile_of (vs : List V) (H : Hp) (Q : VK) (E : XK) (h : sp_pile_of K c vs H Q E) : t_pile_of K c E { nx := fun _ H' => Q .non H', rt := Q } (start ["row", "pile", "crease", "letter", "place"] vs) H := by
  obtain ⟨l, rfl, hlen, q, x⟩ := h
  by_cases hL : Letters l
  · refine Go.here (g_drop (v := .non) (ev_callD (by walk_at "ea") (v_look hlen hL)) ?_)
    refine g_asgL (xs := [.int 0]) (by walk_at "el") fun p H1 hp e1 hl => ?_
    refine g_forES (l := l) (ev_var rfl) (fun i σ H' => ∃ (ps : List Int) (y2 y3 y4 : Option V), σ = [some (.str (txt l)), some (.ref p), y2, y3, y4] ∧ Ex H H' ∧ H' p = some (.lst (ps.map V.int)) ∧ Per (i + 1) ps ∧ NoX (pl ps) ∧ lets (pl ps) = l.take i)
      (fun H2 e2 => ⟨[0], none, none, none, rfl, e1.trans e2, e2 p _ hl, one_pile.per, one_noX, rfl⟩) (fun i z T σ H' hi hP hT => ?_) (fun σ H' hP => ?_)
    · obtain ⟨ps, y2, y3, y4, rfl, e, hl, per, nx, hlet⟩ := hP
      have pp := per.pile (by omega)
      have hplen := per.len
      have hpl := pl_len ps
      have hzl := hL z (List.mem_of_getElem? hi)
      have hil : i < l.length := (List.getElem?_eq_some_iff.mp hi).1
      have eT : Ex H' (upd H' T (.tup [.int (i : Int), .str ⟨#[z]⟩])) := Ex.new hT
      have hl2 : (upd H' T (.tup [.int (i : Int), .str ⟨#[z]⟩])) p = some (.lst (ps.map V.int)) := eT p _ hl
      generalize upd H' T (.tup [.int (i : Int), .str ⟨#[z]⟩]) = H2 at eT hl2
      have him : (i : Int) ∈ ps := pp.all (by omega) (by omega)
      obtain ⟨z0, z1, _⟩ := pp.at (s := (i : Int)) (by omega) (by omega)
      have eidx : ((ps.idxOf (i : Int) : Nat) : Int) = gi (pl ps) (i : Int) := (pl_at (by omega)).symm
      refine g_asg (v := .int (gi (pl ps) (i : Int))) (by rw [← eidx]; exact ev_index (ev_var rfl) (ev_var rfl) (sq_lst hl2) him) ?_
      refine g_cutM (fun σ H3 => ∃ g : Int, σ = [some (.str (txt l)), some (.ref p), some (.int (i : Int)), some (.str ⟨#[z]⟩), some (.int g)] ∧ Ex H2 H3 ∧ ((g = gi (pl ps) (i : Int) ∧ ¬ (z = 86 ↔ (i : Int) % 2 = 0)) ∨ (g = gi (pl ps) (i : Int) + 1 ∧ (z = 86 ↔ (i : Int) % 2 = 0)))) ?_ ?_
      · refine g_ifC (b := (decide (z = 86) == decide ((i : Int) % 2 = 0))) (by rw [← sgn_V]; exact et_test (ev_eqB (ev_eqS (ev_var rfl) ev_c) (ev_eqI (ev_mod (ev_var rfl) ev_c (by decide)) ev_c))) (fun hb => ?_) (fun hb => ?_)
        · refine g_aug (a := gi (pl ps) (i : Int)) rfl ev_c (g_next fun H3 e3 => ⟨_, rfl, e3, .inr ⟨rfl, ?_⟩⟩)
          rw [beq_iff_eq, decide_eq_decide] at hb
          exact hb
        · refine g_next fun H3 e3 => ⟨_, rfl, e3, .inl ⟨rfl, ?_⟩⟩
          rw [beq_eq_false_iff_ne, ne_eq, decide_eq_decide] at hb
          exact hb
      · rintro σ H3 ⟨g, rfl, e3, hg⟩
        have ei : (i : Int) + 1 = ((i + 1 : Nat) : Int) := by omega
        refine g_insert (xs := ps.map V.int) (i := g) (v := .int ((i : Int) + 1)) (e3 p _ hl2) (ev_var rfl) (ev_var rfl) (by walk_at "ev") (by rw [List.length_map]; omega) (by omega) (by omega) fun H4 e4 => ?_
        refine g_next (D := _) (fun H5 e5 => ?_) _ (Ex.refl _)
        have hfit : Fits (pl ps) g := fits_beside pp (by
          have e5 : (ps.length : Int) - 1 = (i : Int) := by omega
          rw [e5]
          omega)
        have hnext := next_put per (by omega) (g := g) (by omega) (by omega)
        refine ⟨put ps g ((i + 1 : Nat) : Int), _, _, _, rfl, (Ex.mut ((e.trans eT).trans (e3.trans e4)) hp).trans e5, ?_, per.put g, (noX_next hnext).mpr ⟨nx, hfit⟩, ?_⟩
        · rw [← put_map, ← ei]
          exact e5 p _ upd_same
        · rw [lets_next hnext (by omega), hlet, take_more hi]
          congr 2
          rw [hpl, show (ps.length : Int) - 1 = (i : Int) by omega]
          rcases hg with ⟨rfl, hg⟩ | ⟨rfl, hg⟩
          · rw [show decide (gi (pl ps) (i : Int) < gi (pl ps) (i : Int)) = false from decide_eq_false (by omega)]
            by_cases h2 : (i : Int) % 2 = 0
            · rw [decide_eq_true h2, if_neg (by decide)]
              omega
            · rw [decide_eq_false h2, if_pos (by decide)]
              omega
          · rw [show decide (gi (pl ps) (i : Int) < gi (pl ps) (i : Int) + 1) = true from decide_eq_true (by omega)]
            by_cases h2 : (i : Int) % 2 = 0
            · rw [decide_eq_true h2, if_pos (by decide)]
              omega
            · rw [decide_eq_false h2, if_neg (by decide)]
              omega
    · obtain ⟨ps, y2, y3, y4, rfl, e, hl, per, nx, hlet⟩ := hP
      rw [List.take_length] at hlet
      exact g_ret (v := .ref p) (by walk_at "ev") fun H2 e2 => q hL _ p H2 ⟨ps, rfl, per.pile (by omega), per.len, nx, hlet⟩ hp (e.trans e2) (e2 p _ hl)
  · exact Go.here (g_dropX (evx_call (by walk_at "ea") (x_look hlen hL (x hL))))
end
end Fo
/-! FoldR9 -/
namespace Fo
open PySem L2 Evl
local macro_rules | `(tactic| walk_at "hl") => `(tactic| first
  | assumption
  | exact upd_same
  | (refine (by assumption : Ex _ _) _ _ ?_; walk_at "hl"))
local macro_rules | `(tactic| walk_at "sq") => `(tactic| first
  | assumption
  | (refine sq_lst ?_; walk_at "hl")
  | (refine ex_l (by assumption) ?_; walk_at "sq"))
local macro_rules | `(tactic| walk_at "st") => `(tactic| first
  | assumption
  | (refine st_of ?_; walk_at "hl")
  | (refine ex_t (by assumption) ?_; walk_at "st"))
local macro_rules | `(tactic| walk_at "ar") => `(tactic| first
  | assumption
  | omega
  | decide)
local macro_rules | `(tactic| walk_at "lar") => `(tactic| first
  | omega
  | (simp only [List.length_append, List.length_map, List.length_take, List.length_drop, List.length_cons, List.length_nil, List.length_replicate]; omega))
local macro_rules | `(tactic| walk_at "hb") => `(tactic| first
  | skip)
local macro_rules | `(tactic| walk_at "mul") => `(tactic| first
  | (exact Or.inr ⟨by decide, by decide⟩)
  | (exact Or.inl ⟨by decide, by decide⟩)
  | (exact Or.inl ⟨by omega, by omega⟩)
  | (exact Or.inr ⟨by omega, by omega⟩))
local macro_rules | `(tactic| walk_at "div") => `(tactic| first
  | (exact ⟨by decide, by decide⟩)
  | (exact ⟨by omega, by omega⟩))
local macro_rules | `(tactic| walk_at "ea") => `(tactic| first
  | exact ea_nil
  | ((with_reducible refine' ea_cons ?k0 ?k1); (case k0 => walk_at "ev"); (case k1 => walk_at "ea")))
local macro_rules | `(tactic| walk_at "eo") => `(tactic| first
  | exact eo_none
  | ((with_reducible refine' eo_some ?k0); (case k0 => walk_at "ev")))
local macro_rules | `(tactic| walk_at "el") => `(tactic| first
  | ((with_reducible refine' el_lst ?k0 ?k1); (case k0 => walk_at "ea"); (case k1 => (exact Nat.le_of_ble_eq_true rfl)))
  | ((with_reducible refine' el_from ?k0 ?k1 ?k2 ?k3 ?k4); (case k0 => walk_at "ev"); (case k1 => walk_at "eo"); (case k2 => walk_at "sq"); (case k3 => walk_at "ar"); (case k4 => walk_at "lar"))
  | ((with_reducible refine' el_upto ?k0 ?k1 ?k2 ?k3 ?k4); (case k0 => walk_at "ev"); (case k1 => walk_at "eo"); (case k2 => walk_at "sq"); (case k3 => walk_at "ar"); (case k4 => walk_at "lar"))
  | ((with_reducible refine' el_rep1 ?k0 ?k1 ?k2 ?k3); (case k0 => walk_at "el"); (case k1 => walk_at "ev"); (case k2 => walk_at "ar"); (case k3 => walk_at "ar"))
  | ((with_reducible refine' el_cat ?k0 ?k1 ?k2); (case k0 => walk_at "el"); (case k1 => walk_at "el"); (case k2 => walk_at "lar"))
  | ((with_reducible refine' el_callD ?k0 ?k1); (case k0 => walk_at "ea"); (case k1 => walk_at "sp"))
  | ((with_reducible refine' el_list ?k0 ?k1); (case k0 => walk_at "ev"); (case k1 => walk_at "sq")))
local macro_rules | `(tactic| walk_at "et") => `(tactic| first
  | ((with_reducible refine' et_test ?k0); (case k0 => walk_at "ev"))
  | ((with_reducible refine' et_B ?k0); (case k0 => walk_at "ev"))
  | ((with_reducible refine' et_not ?k0); (case k0 => walk_at "et"))
  | ((with_reducible refine' et_and ?k0 (fun hb => ?k1)); (case k0 => walk_at "et"); (case k1 => (walk_at "hb"; walk_at "et")))
  | ((with_reducible refine' et_or ?k0 (fun hb => ?k1)); (case k0 => walk_at "et"); (case k1 => (walk_at "hb"; walk_at "et"))))
local macro_rules | `(tactic| walk_at "ev") => `(tactic| first
  | ((with_reducible refine' ev_var ?k0); (case k0 => rfl))
  | exact ev_c
  | ((with_reducible refine' ev_add ?k0 ?k1); (case k0 => walk_at "ev"); (case k1 => walk_at "ev"))
  | ((with_reducible refine' ev_sub ?k0 ?k1); (case k0 => walk_at "ev"); (case k1 => walk_at "ev"))
  | ((with_reducible refine' ev_ixI ?k0 ?k1 ?k2 ?k3 ?k4); (case k0 => walk_at "ev"); (case k1 => walk_at "ev"); (case k2 => walk_at "sq"); (case k3 => walk_at "ar"); (case k4 => walk_at "ar"))
  | ((with_reducible refine' ev_lt ?k0 ?k1); (case k0 => walk_at "ev"); (case k1 => walk_at "ev"))
  | ((with_reducible refine' ev_gt ?k0 ?k1); (case k0 => walk_at "ev"); (case k1 => walk_at "ev"))
  | ((with_reducible refine' ev_le ?k0 ?k1); (case k0 => walk_at "ev"); (case k1 => walk_at "ev"))
  | ((with_reducible refine' ev_ge ?k0 ?k1); (case k0 => walk_at "ev"); (case k1 => walk_at "ev"))
  | ((with_reducible refine' ev_eqI ?k0 ?k1); (case k0 => walk_at "ev"); (case k1 => walk_at "ev"))
  | ((with_reducible refine' ev_neI ?k0 ?k1); (case k0 => walk_at "ev"); (case k1 => walk_at "ev"))
  | ((with_reducible refine' ev_eqB ?k0 ?k1); (case k0 => walk_at "ev"); (case k1 => walk_at "ev"))
  | ((with_reducible refine' ev_neB ?k0 ?k1); (case k0 => walk_at "ev"); (case k1 => walk_at "ev"))
  | ((with_reducible refine' ev_eqS ?k0 ?k1); (case k0 => walk_at "ev"); (case k1 => walk_at "ev"))
  | ((with_reducible refine' ev_neS ?k0 ?k1); (case k0 => walk_at "ev"); (case k1 => walk_at "ev"))
  | ((with_reducible refine' ev_mod ?k0 ?k1 ?k2); (case k0 => walk_at "ev"); (case k1 => walk_at "ev"); (case k2 => walk_at "ar"))
  | ((with_reducible refine' ev_mul ?k0 ?k1 ?k2); (case k0 => walk_at "ev"); (case k1 => walk_at "ev"); (case k2 => walk_at "mul"))
  | ((with_reducible refine' ev_div ?k0 ?k1 ?k2); (case k0 => walk_at "ev"); (case k1 => walk_at "ev"); (case k2 => walk_at "div"))
  | ((with_reducible refine' ev_neg ?k0); (case k0 => walk_at "ev"))
  | ((with_reducible refine' ev_callD ?k0 ?k1); (case k0 => walk_at "ea"); (case k1 => walk_at "sp"))
  | ((with_reducible refine' ev_lenI ?k0 ?k1); (case k0 => walk_at "ev"); (case k1 => walk_at "sq"))
  | ((with_reducible refine' ev_lenTxt ?k0 ?k1); (case k0 => walk_at "ev"); (case k1 => walk_at "ar"))
  | ((with_reducible refine' ev_lenS ?k0 ?k1); (case k0 => walk_at "ev"); (case k1 => walk_at "ar"))
  | ((with_reducible refine' ev_ixTxt ?k0 ?k1 ?k2 ?k3 ?k4); (case k0 => walk_at "ev"); (case k1 => walk_at "ev"); (case k2 => walk_at "ar"); (case k3 => walk_at "ar"); (case k4 => walk_at "ar"))
  | ((with_reducible refine' ev_ix2 ?k0); (case k0 => walk_at "ev"))
  | ((with_reducible refine' ev_isiI ?k0); (case k0 => walk_at "ev"))
  | ((with_reducible refine' ev_isiL ?k0 ?k1); (case k0 => walk_at "ev"); (case k1 => walk_at "hl"))
  | ((with_reducible refine' ev_isiU ?k0 ?k1); (case k0 => walk_at "ev"); (case k1 => walk_at "hl"))
  | ((with_reducible refine' ev_isiS ?k0); (case k0 => walk_at "ev"))
  | ((with_reducible refine' ev_isiB ?k0); (case k0 => walk_at "ev"))
  | ((with_reducible refine' ev_isN ?k0); (case k0 => walk_at "ev"))
  | ((with_reducible refine' ev_notN ?k0); (case k0 => walk_at "ev"))
  | ((with_reducible refine' ev_notIB ?k0 ?k1); (case k0 => walk_at "ev"); (case k1 => walk_at "ev"))
  | ((with_reducible refine' ev_neNil ?k0 ?k1); (case k0 => walk_at "ev"); (case k1 => walk_at "sq"))
  | ((with_reducible refine' ev_eqNil ?k0 ?k1); (case k0 => walk_at "ev"); (case k1 => walk_at "sq"))
  | ((with_reducible refine' ev_eqL ?k0 ?k1 ?k2 ?k3); (case k0 => walk_at "ev"); (case k1 => walk_at "ev"); (case k2 => walk_at "sq"); (case k3 => walk_at "sq"))
  | ((with_reducible refine' ev_neL ?k0 ?k1 ?k2 ?k3); (case k0 => walk_at "ev"); (case k1 => walk_at "ev"); (case k2 => walk_at "sq"); (case k3 => walk_at "sq"))
  | ((with_reducible refine' ev_min2 ?k0 ?k1); (case k0 => walk_at "ev"); (case k1 => walk_at "ev"))
  | ((with_reducible refine' ev_max2 ?k0 ?k1); (case k0 => walk_at "ev"); (case k1 => walk_at "ev"))
  | ((with_reducible refine' ev_intB ?k0); (case k0 => walk_at "ev"))
  | ((with_reducible refine' ev_andV ?k0 (fun hb => ?k1)); (case k0 => walk_at "ev"); (case k1 => (walk_at "hb"; walk_at "ev")))
  | ((with_reducible refine' ev_orV ?k0 (fun hb => ?k1)); (case k0 => walk_at "ev"); (case k1 => (walk_at "hb"; walk_at "ev")))
  | ((with_reducible refine' ev_notV ?k0); (case k0 => walk_at "ev"))
  | ((with_reducible refine' ev_ifI ?k0 (fun hb => ?k1) (fun hb => ?k2)); (case k0 => walk_at "et"); (case k1 => (walk_at "hb"; walk_at "ev")); (case k2 => (walk_at "hb"; walk_at "ev")))
  | ((with_reducible refine' ev_ifS ?k0 (fun hb => ?k1) (fun hb => ?k2)); (case k0 => walk_at "et"); (case k1 => (walk_at "hb"; walk_at "ev")); (case k2 => (walk_at "hb"; walk_at "ev"))))
local macro_rules | `(tactic| walk_at "hb") => `(tactic| (try simp only [decide_eq_true_eq, decide_eq_false_iff_not, Bool.and_eq_true, Bool.or_eq_true, Bool.or_eq_false_iff, Bool.not_eq_true', Bool.not_eq_false', beq_iff_eq] at *))
local macro_rules | `(tactic| walk_at "sp") => `(tactic| first
  | (refine' v_number ?k0 ?k1 ?k2; (case k0 => walk_at "sq"); (case k1 => walk_at "ar"); (case k2 => walk_at "ar"))
  | (refine' v_drawn ?k0 ?k1; (case k0 => walk_at "sq"); (case k1 => walk_at "ar"))
  | exact v_size
  | exact v_counts
  | (refine' v_wraps ?k0 ?k1 ?k2 ?k3 ?k4; (case k0 => walk_at "sq"); (case k1 => walk_at "ar"); (case k2 => walk_at "ar"); (case k3 => walk_at "ar"); (case k4 => walk_at "ar"))
  | (refine' v_l_wraps ?k0 ?k1 ?k2 ?k3 ?k4; (case k0 => walk_at "sq"); (case k1 => walk_at "ar"); (case k2 => walk_at "ar"); (case k3 => walk_at "ar"); (case k4 => walk_at "ar"))
  | (refine' v_cross ?k0 ?k1 ?k2 ?k3 ?k4; (case k0 => walk_at "sq"); (case k1 => walk_at "ar"); (case k2 => walk_at "ar"); (case k3 => walk_at "ar"); (case k4 => walk_at "ar"))
  | (refine' v_places ?k0 ?k1 ?k2; (case k0 => walk_at "sq"); (case k1 => walk_at "ar"); (case k2 => assumption))
  | (refine' v_letters ?k0 ?k1 ?k2; (case k0 => walk_at "sq"); (case k1 => walk_at "ar"); (case k2 => assumption))
  | (refine' v_l_places ?k0 ?k1 ?k2; (case k0 => walk_at "sq"); (case k1 => walk_at "ar"); (case k2 => assumption))
  | (refine' v_fits ?k0 ?k1 ?k2 ?k3; (case k0 => walk_at "sq"); (case k1 => walk_at "ar"); (case k2 => walk_at "ar"); (case k3 => walk_at "ar"))
  | (refine' v_none ?k0 ?k1 ?k2; (case k0 => walk_at "sq"); (case k1 => walk_at "ar"); (case k2 => walk_at "ar")))
local macro_rules | `(tactic| walk_at "sp") => `(tactic| first
  | (refine' v_turned ?k0 ?k1 ?k2; (case k0 => walk_at "sq"); (case k1 => walk_at "ar"); (case k2 => assumption))
  | (refine' v_same ?k0 ?k1 ?k2; (case k0 => walk_at "hl"); (case k1 => walk_at "sq"); (case k2 => walk_at "ar"))
  | (refine' v_told ?k0 ?k1 ?k2; (case k0 => walk_at "sq"); (case k1 => walk_at "hl"); (case k2 => assumption))
  | (refine' v_parted ?k0 ?k1 ?k2 ?k3; (case k0 => walk_at "sq"); (case k1 => walk_at "ar"); (case k2 => walk_at "ar"); (case k3 => assumption)))
local macro_rules | `(tactic| walk_at "sp") => `(tactic| first
  | (refine' v_is_pile ?k0 ?k1 ?k2 ?k3; (case k0 => walk_at "hl"); (case k1 => assumption); (case k2 => walk_at "ar"); (case k3 => walk_at "ar")))
section
variable {K : PySem.W.Frag} {c : Cs}
/-- which stamps were seen in i of them -/
def seen (ns : List Int) (i : Nat) : List V := (List.range ns.length).map fun (s : Nat) => V.bl (decide ((s : Int) ∈ ns.take i))
theorem seen_len (ns : List Int) (i : Nat) : (seen ns i).length = ns.length := by simp [seen]
theorem seen_get {ns : List Int} {i k : Nat} (h : k < ns.length) : (seen ns i)[k]? = some (.bl (decide ((k : Int) ∈ ns.take i))) := by
  unfold seen
  rw [List.getElem?_map, List.getElem?_range h]
  rfl
theorem seen_set {ns : List Int} {i : Nat} {x : Int} (hx : ns[i]? = some x) (h0 : 0 ≤ x) (h1 : x < (ns.length : Int)) : (seen ns i).set x.toNat (.bl true) = seen ns (i + 1) := by
  refine List.ext_getElem? fun k => ?_
  by_cases hk : k < ns.length
  · rw [List.getElem?_set, seen_len, seen_get hk, seen_get hk, take_more hx]
    by_cases h : x.toNat = k
    · rw [if_pos h, if_pos (by omega)]
      have e : (k : Int) = x := by omega
      rw [e, decide_eq_true (by simp)]
    · rw [if_neg h]
      have e : (k : Int) ≠ x := by omega
      have e2 : decide ((k : Int) ∈ ns.take i ++ [x]) = decide ((k : Int) ∈ ns.take i) := by
        rw [decide_eq_decide]
        simp [e]
      rw [e2]
  · rw [List.getElem?_eq_none (by rw [List.length_set, seen_len]; omega), List.getElem?_eq_none (by rw [seen_len]; omega)]
theorem nd_new {ns : List Int} (nd : ns.Nodup) {i : Nat} {x : Int} (hx : ns[i]? = some x) : x ∉ ns.take i := fun hm => by
  have nd2 := nd
  rw [← List.take_append_drop i ns] at nd2
  have hd : x ∈ ns.drop i := by
    have : (ns.drop i)[0]? = some x := by rw [List.getElem?_drop]; exact hx
    exact List.mem_of_getElem? this
  exact (List.nodup_append.mp nd2).2.2 _ hm _ hd rfl
theorem read_l_is_pile (vs : List V) (H : Hp) (Q : VK) (E : XK) (h : sp_l_is_pile K c vs H Q E) : t_l_is_pile K c E { nx := fun _ H' => Q .non H', rt := Q } (start ["_law_found", "_law_size_here", "_law_seen", "_law_stamp"] vs) H := by
  obtain ⟨a, ns, rfl, ha, pp, hlen, q⟩ := h
  have hps := pp.pos
  refine Go.here (g_no (et_is (by walk_at "et") (by simp)) (g_nextS ?_))
  refine g_asgL (xs := List.replicate (ns.length : Int).toNat (.bl false)) (by walk_at "el") fun p H1 hp e1 hl => ?_
  have e0 : List.replicate (ns.length : Int).toNat (V.bl false) = seen ns 0 := by
    refine List.ext_getElem? fun k => ?_
    rw [List.getElem?_replicate]
    by_cases hk : k < ns.length
    · rw [if_pos (by omega), seen_get hk, List.take_zero]
      rfl
    · rw [if_neg (by omega), List.getElem?_eq_none (by rw [seen_len]; omega)]
  rw [e0] at hl
  refine g_forL (xs := ns.map V.int) (ev_var rfl) (by walk_at "sq") (fun i σ H' => ∃ y : Option V, σ = [some (.ref a), some (.int (ns.length : Int)), some (.ref p), y] ∧ Ex H H' ∧ H' p = some (.lst (seen ns i))) (fun H2 e2 => ⟨none, rfl, e1.trans e2, e2 p _ hl⟩) (fun i σ H' hi hP => ?_) (fun i v σ H' hi hP => ?_) (fun σ H' hP => ?_)
  · obtain ⟨y, rfl, e, hl'⟩ := hP
    walk_at "sq"
  · obtain ⟨y, rfl, e, hl'⟩ := hP
    obtain ⟨z, hz, rfl⟩ : ∃ z, ns[i]? = some z ∧ v = .int z := by
      rw [List.getElem?_map] at hi
      cases h9 : ns[i]? with
      | none => rw [h9] at hi; cases hi
      | some z => rw [h9] at hi; exact ⟨z, rfl, (Option.some.inj hi).symm⟩
    obtain ⟨z0, z1⟩ := pp.bnd z (List.mem_of_getElem? hz)
    have hnew := nd_new pp.nd hz
    have hsn : Ev (tOp (rIxL K) (tVar 2) (tVar 3)) [some (.ref a), some (.int (ns.length : Int)), some (.ref p), some (.int z)] H' (.bl false) := by
      refine ev_ixL (ev_var rfl) (ev_var rfl) (sq_lst hl') (atI_get z0 ?_)
      rw [seen_get (by omega), show ((z.toNat : Nat) : Int) = z by omega, decide_eq_false hnew]
    refine g_no (et_is (et_or (et_not (et_B (by walk_at "ev"))) fun _ => et_or (et_test (by walk_at "ev")) fun _ => et_or (et_test (by walk_at "ev")) fun _ => et_B hsn) (by simp; omega)) (g_nextS ?_)
    refine g_setL (xs := seen ns i) hl' (v := .bl true) (j := z) ev_c (ev_var rfl) (ev_var rfl) z0 (by rw [seen_len]; exact z1) fun H2 e2 => ?_
    refine g_next (D := _) (fun H3 e3 => ?_) _ (Ex.refl _)
    refine ⟨_, rfl, (Ex.mut (e.trans e2) hp).trans e3, ?_⟩
    rw [← seen_set hz z0 z1]
    exact e3 p _ upd_same
  · obtain ⟨y, rfl, e, hl'⟩ := hP
    exact g_ret (v := .bl true) ev_c fun H2 e2 => q H2 (e.trans e2)

theorem read_l_none_cross (vs : List V) (H : Hp) (Q : VK) (E : XK) (h : sp_l_none_cross K c vs H Q E) : t_l_none_cross K c E { nx := fun _ H' => Q .non H', rt := Q } (start ["_law_at", "_law_one", "_law_other"] vs) H := by
  obtain ⟨a, p, rfl, hS, hlen, hl1, q⟩ := h
  refine Go.here ?_
  refine g_forR1 (n := (p.length : Int) - 1) (by walk_at "ea") (by omega) (fun k σ H' => ∃ (y2 y3 : Option V), σ = [some (.ref a), y2, y3] ∧ Ex H H' ∧ ∀ i j : Int, i < (k : Int) → ¬ XX p i j)
    (fun H2 e2 => ⟨none, none, rfl, e2, fun i j hi x => by have := x.i0; omega⟩) (fun k σ H' hk hP => ?_) (fun σ H' hP => ?_) (by omega)
  · obtain ⟨y2, y3, rfl, e, hn⟩ := hP
    refine g_forR3 (lo := (k : Int) + 2) (n := (p.length : Int) - 1) (by walk_at "ea") (by omega) (fun m σ H' => ∃ y3 : Option V, σ = [some (.ref a), some (.int (k : Int)), y3] ∧ Ex H H' ∧ ∀ j : Int, j < (k : Int) + 2 + (m : Int) * 2 → ¬ XX p (k : Int) j)
      (fun H2 e2 => ⟨y3, rfl, e.trans e2, fun j hj x => by have := x.ij; have := x.even; omega⟩) (fun m σ H' hm hP => ?_) (fun σ H' hP => ?_)
    · obtain ⟨y3, rfl, e, hn2⟩ := hP
      refine g_when (b := !(wr p (k : Int) ((k : Int) + 2 + (m : Int) * 2) == wr p (k : Int) ((k : Int) + 2 + (m : Int) * 2 + 1))) (by walk_at "et") (fun hb => ?_) (fun hb => ?_)
      · refine g_ret (v := .bl false) ev_c fun H3 e3 => ?_
        rw [Bool.not_eq_true', beq_eq_false_iff_ne] at hb
        have hx : XX p (k : Int) ((k : Int) + 2 + (m : Int) * 2) := ⟨by omega, by omega, by omega, by omega, hb⟩
        have hf : noX p = false := by
          rw [Bool.eq_false_iff]
          exact fun z => (noX_iff p).mp z _ _ hx
        rw [← hf]
        exact q H3 (e.trans e3)
      · rw [Bool.not_eq_false', beq_iff_eq] at hb
        refine g_next fun H3 e3 => ⟨_, rfl, e.trans e3, fun j hj xx => ?_⟩
        have h1 := xx.even
        have h2 := xx.ij
        by_cases h3 : j = (k : Int) + 2 + (m : Int) * 2
        · rw [h3] at xx
          exact xx.ne hb
        · exact hn2 j (by omega) xx
    · obtain ⟨y3, rfl, e, hn2⟩ := hP
      refine g_next fun H3 e3 => ⟨_, _, rfl, e.trans e3, fun i j hij xx => ?_⟩
      by_cases h3 : i = (k : Int)
      · subst h3
        have h1 := xx.jn
        have h2 := xx.even
        exact hn2 j (by omega) xx
      · exact hn i j (by omega) xx
  · obtain ⟨y2, y3, rfl, e, hn⟩ := hP
    refine g_ret (v := .bl true) ev_c fun H3 e3 => ?_
    have ht : noX p = true := (noX_iff p).mpr fun i j xx => by
      have h1 := xx.jn
      have h2 := xx.ij
      exact hn i j (by omega) xx
    rw [← ht]
    exact q H3 (e.trans e3)

theorem read_l_row (vs : List V) (H : Hp) (Q : VK) (E : XK) (h : sp_l_row K c vs H Q E) : t_l_row K c E { nx := fun _ H' => Q .non H', rt := Q } (start ["_law_script", "_law_many", "_law_way", "_law_number_here", "_law_told", "_law_k", "_law_which"] vs) H := by
  obtain ⟨a, ns, n, rfl, hS, h0, h1, q⟩ := h
  refine Go.here (g_asg (v := .int (gi ns 1 % 4)) (by walk_at "ev") ?_)
  refine g_asg (v := .int (gi ns 1 / 4)) (by walk_at "ev") ?_
  generalize gi ns 1 % 4 = w
  generalize gi ns 1 / 4 = nu
  refine g_asgL (xs := []) (by walk_at "el") fun r H2 hr e2 hr2 => ?_
  refine g_forR1 (n := n) (by walk_at "ea") (by omega) (fun i σ H' => ∃ (l : List Nat) (y5 y6 : Option V), σ = [some (.ref a), some (.int n), some (.int w), some (.int nu), some (.ref r), y5, y6] ∧ Ex H H' ∧ H' r = some (.lst ((l.map fun c => (⟨#[c]⟩ : Str)).map V.str)) ∧ l.length = i ∧ Letters l)
      (fun H3 e3 => ⟨[], none, none, rfl, e2.trans e3, e3 r _ hr2, rfl, fun c hc => (nomatch hc)⟩) (fun i σ H' hi hP => ?_) (fun σ H' hP => ?_) (by omega)
  · obtain ⟨l, y5, y6, rfl, e, hl, hli, hL⟩ := hP
    refine g_asg (v := .int (numb ns (2 + (i : Int)) % 2)) (by walk_at "ev") ?_
    have w0 : 0 ≤ numb ns (2 + (i : Int)) % 2 := Int.emod_nonneg _ (by decide)
    have w1 : numb ns (2 + (i : Int)) % 2 < 2 := Int.emod_lt_of_pos _ (by decide)
    generalize numb ns (2 + (i : Int)) % 2 = x at w0 w1 ⊢
    refine g_cutM (fun σ H3 => ∃ x : Int, σ = [some (.ref a), some (.int n), some (.int w), some (.int nu), some (.ref r), some (.int (i : Int)), some (.int x)] ∧ Ex H' H3 ∧ 0 ≤ x ∧ x < 2) ?_ ?_
    · refine g_ifC (b := decide (w = 2)) (by walk_at "et") (fun hb => ?_) (fun hb => ?_)
      · refine g_asg (v := .int (nu % 2)) (by walk_at "ev") (g_next fun H3 e3 => ⟨_, rfl, e3, Int.emod_nonneg _ (by decide), Int.emod_lt_of_pos _ (by decide)⟩)
      · exact g_next fun H3 e3 => ⟨x, rfl, e3, w0, w1⟩
    clear w0 w1
    rintro σ H3 ⟨x, rfl, e3, w0, w1⟩
    refine g_cutM (fun σ H3 => ∃ x : Int, σ = [some (.ref a), some (.int n), some (.int w), some (.int nu), some (.ref r), some (.int (i : Int)), some (.int x)] ∧ Ex H' H3 ∧ 0 ≤ x ∧ x < 2) ?_ ?_
    · refine g_ifC (b := decide (w = 3)) (by walk_at "et") (fun hb => ?_) (fun hb => ?_)
      · have m0 : 0 ≤ nu % 9 := Int.emod_nonneg _ (by decide)
        have m1 : nu % 9 < 9 := Int.emod_lt_of_pos _ (by decide)
        refine g_asg (v := .int ((i : Int) / (1 + nu % 9) % 2)) (by walk_at "ev") (g_next fun H4 e4 => ⟨_, rfl, e3.trans e4, Int.emod_nonneg _ (by decide), Int.emod_lt_of_pos _ (by decide)⟩)
      · exact g_next fun H4 e4 => ⟨x, rfl, e3.trans e4, w0, w1⟩
    clear w0 w1 e3
    rintro σ H4 ⟨x, rfl, e4, w0, w1⟩
    have hx : Ev (tOp (rIxL K) (tLst (tCons (tC (.str "V")) (tCons (tC (.str "M")) tNil))) (tVar 6)) [some (.ref a), some (.int n), some (.int w), some (.int nu), some (.ref r), some (.int (i : Int)), some (.int x)] H4 (.str ⟨#[if x = 0 then 86 else 77]⟩) := by
      rcases (show x = 0 ∨ x = 1 by omega) with rfl | rfl
      · exact ev_is (ev_ixNew (i := 0) (xs := [.str (Str.ofString "V"), .str (Str.ofString "M")]) (el_lst (ea_cons ev_c (ea_cons ev_c ea_nil)) (Nat.le_of_ble_eq_true rfl)) (ev_var rfl) rfl) (by rw [sg_V]; rfl)
      · exact ev_is (ev_ixNew (i := 1) (xs := [.str (Str.ofString "V"), .str (Str.ofString "M")]) (el_lst (ea_cons ev_c (ea_cons ev_c ea_nil)) (Nat.le_of_ble_eq_true rfl)) (ev_var rfl) rfl) (by rw [sg_M]; rfl)
    refine g_app (xs := (l.map fun c => (⟨#[c]⟩ : Str)).map V.str) (e4 r _ hl) (ev_var rfl) hx (by simp only [List.length_map]; omega) fun H5 e5 => ?_
    refine g_next (D := _) (fun H6 e6 => ?_) _ (Ex.refl _)
    refine ⟨l ++ [if x = 0 then 86 else 77], _, _, rfl, (Ex.mut (e.trans (e4.trans e5)) hr).trans e6, ?_, by rw [List.length_append, hli]; rfl, fun z hz => ?_⟩
    · rw [List.map_append, List.map_append]
      exact e6 r _ upd_same
    · rcases List.mem_append.mp hz with hz | hz
      · exact hL z hz
      · rw [List.mem_singleton.mp hz]
        split
        · exact .inl rfl
        · exact .inr rfl
  · obtain ⟨l, y5, y6, rfl, e, hl, hli, hL⟩ := hP
    exact g_ret (v := .str (txt l)) (ev_join (ev_var rfl) (sq_lst hl) (by omega)) fun H4 e4 => q _ H4 ⟨l, rfl, by omega, hL⟩ (e.trans e4)

theorem read_law_k04 (hc : SzOk c.sz) (vs : List V) (H : Hp) (Q : VK) (E : XK) (h : sp_law K c vs H Q E) : t_law_k04 K c E { nx := fun _ H' => Q .non H', rt := Q } (start ["_law_script", "_law_size_here", "_law_row_here", "_law_found", "_law_at", "_law_crease", "_law_inward"] vs) H := by
  obtain ⟨a, ns, rfl, hS, hlen, q⟩ := h
  refine Go.here (g_asg (v := .int (szf c.sz (gi ns 0))) (by walk_at "ev") ?_)
  obtain ⟨hn0, hn1⟩ := szf_bnd hc (gi ns 0)
  generalize szf c.sz (gi ns 0) = n at hn0 hn1 ⊢
  refine g_asgR (evr_call (by walk_at "ea") (v_row hS (by omega) (by omega))) fun v H1 hv e1 => ?_
  obtain ⟨l, rfl, hll, hL⟩ := hv
  refine g_asgP (elp_call (by walk_at "ea") (v_pile_of (by omega) hL)) fun xs p H2 hP hp e2 hl => ?_
  obtain ⟨ps, rfl, pp, hpl, nx, hlet⟩ := hP
  have hpp := pl_len ps
  refine g_no (et_is (by walk_at "et") (by simp)) (g_nextS ?_)
  refine g_asgL (xs := (pl ps).map V.int) (by walk_at "el") fun r H3 hr e3 hr3 => ?_
  refine g_forR1 (n := n - 1) (by walk_at "ea") (by omega) (fun i σ H' => ∃ y5 y6 : Option V, σ = [some (.ref a), some (.int n), some (.str (txt l)), some (.ref p), some (.ref r), y5, y6] ∧ Ex H3 H') (fun H4 e4 => ⟨none, none, rfl, e4⟩) (fun i σ H' hi hP => ?_) (fun σ H' hP => ?_) (by omega)
  · obtain ⟨y5, y6, rfl, e⟩ := hP
    refine g_asg (v := .bl (decide (gi (pl ps) (i : Int) < gi (pl ps) ((i : Int) + 1)) == decide ((i : Int) % 2 = 0))) (by walk_at "ev") ?_
    refine g_no (et_is (by walk_at "et") ?_) (g_nextS ?_)
    · rw [sgn_V, show ((i : Nat) : Int).toNat = i from rfl, ← hlet, lets_getD (by omega)]
      cases (decide (gi (pl ps) (i : Int) < gi (pl ps) ((i : Int) + 1)) == decide ((i : Int) % 2 = 0)) <;> rfl
    · exact g_next fun H4 e4 => ⟨_, _, rfl, e.trans e4⟩
  · obtain ⟨y5, y6, rfl, e⟩ := hP
    refine g_ret (v := .bl (noX (pl ps))) (by walk_at "ev") fun H4 _ => ?_
    rw [(noX_iff _).mpr nx]
    exact q H4
end
end Fo
/-! FoldR4 -/
namespace Fo
open PySem L2 Evl
local macro_rules | `(tactic| walk_at "hl") => `(tactic| first
  | assumption
  | exact upd_same
  | (refine (by assumption : Ex _ _) _ _ ?_; walk_at "hl"))
local macro_rules | `(tactic| walk_at "sq") => `(tactic| first
  | assumption
  | (refine sq_lst ?_; walk_at "hl")
  | (refine ex_l (by assumption) ?_; walk_at "sq"))
local macro_rules | `(tactic| walk_at "st") => `(tactic| first
  | assumption
  | (refine st_of ?_; walk_at "hl")
  | (refine ex_t (by assumption) ?_; walk_at "st"))
local macro_rules | `(tactic| walk_at "ar") => `(tactic| first
  | assumption
  | omega
  | decide)
local macro_rules | `(tactic| walk_at "lar") => `(tactic| first
  | omega
  | (simp only [List.length_append, List.length_map, List.length_take, List.length_drop, List.length_cons, List.length_nil, List.length_replicate]; omega))
local macro_rules | `(tactic| walk_at "hb") => `(tactic| first
  | skip)
local macro_rules | `(tactic| walk_at "mul") => `(tactic| first
  | (exact Or.inr ⟨by decide, by decide⟩)
  | (exact Or.inl ⟨by decide, by decide⟩)
  | (exact Or.inl ⟨by omega, by omega⟩)
  | (exact Or.inr ⟨by omega, by omega⟩))
local macro_rules | `(tactic| walk_at "div") => `(tactic| first
  | (exact ⟨by decide, by decide⟩)
  | (exact ⟨by omega, by omega⟩))
local macro_rules | `(tactic| walk_at "ea") => `(tactic| first
  | exact ea_nil
  | ((with_reducible refine' ea_cons ?k0 ?k1); (case k0 => walk_at "ev"); (case k1 => walk_at "ea")))
local macro_rules | `(tactic| walk_at "eo") => `(tactic| first
  | exact eo_none
  | ((with_reducible refine' eo_some ?k0); (case k0 => walk_at "ev")))
local macro_rules | `(tactic| walk_at "el") => `(tactic| first
  | ((with_reducible refine' el_lst ?k0 ?k1); (case k0 => walk_at "ea"); (case k1 => (exact Nat.le_of_ble_eq_true rfl)))
  | ((with_reducible refine' el_from ?k0 ?k1 ?k2 ?k3 ?k4); (case k0 => walk_at "ev"); (case k1 => walk_at "eo"); (case k2 => walk_at "sq"); (case k3 => walk_at "ar"); (case k4 => walk_at "lar"))
  | ((with_reducible refine' el_upto ?k0 ?k1 ?k2 ?k3 ?k4); (case k0 => walk_at "ev"); (case k1 => walk_at "eo"); (case k2 => walk_at "sq"); (case k3 => walk_at "ar"); (case k4 => walk_at "lar"))
  | ((with_reducible refine' el_rep1 ?k0 ?k1 ?k2 ?k3); (case k0 => walk_at "el"); (case k1 => walk_at "ev"); (case k2 => walk_at "ar"); (case k3 => walk_at "ar"))
  | ((with_reducible refine' el_cat ?k0 ?k1 ?k2); (case k0 => walk_at "el"); (case k1 => walk_at "el"); (case k2 => walk_at "lar"))
  | ((with_reducible refine' el_callD ?k0 ?k1); (case k0 => walk_at "ea"); (case k1 => walk_at "sp"))
  | ((with_reducible refine' el_list ?k0 ?k1); (case k0 => walk_at "ev"); (case k1 => walk_at "sq")))
local macro_rules | `(tactic| walk_at "et") => `(tactic| first
  | ((with_reducible refine' et_test ?k0); (case k0 => walk_at "ev"))
  | ((with_reducible refine' et_B ?k0); (case k0 => walk_at "ev"))
  | ((with_reducible refine' et_not ?k0); (case k0 => walk_at "et"))
  | ((with_reducible refine' et_and ?k0 (fun hb => ?k1)); (case k0 => walk_at "et"); (case k1 => (walk_at "hb"; walk_at "et")))
  | ((with_reducible refine' et_or ?k0 (fun hb => ?k1)); (case k0 => walk_at "et"); (case k1 => (walk_at "hb"; walk_at "et"))))
local macro_rules | `(tactic| walk_at "ev") => `(tactic| first
  | ((with_reducible refine' ev_var ?k0); (case k0 => rfl))
  | exact ev_c
  | ((with_reducible refine' ev_add ?k0 ?k1); (case k0 => walk_at "ev"); (case k1 => walk_at "ev"))
  | ((with_reducible refine' ev_sub ?k0 ?k1); (case k0 => walk_at "ev"); (case k1 => walk_at "ev"))
  | ((with_reducible refine' ev_ixI ?k0 ?k1 ?k2 ?k3 ?k4); (case k0 => walk_at "ev"); (case k1 => walk_at "ev"); (case k2 => walk_at "sq"); (case k3 => walk_at "ar"); (case k4 => walk_at "ar"))
  | ((with_reducible refine' ev_lt ?k0 ?k1); (case k0 => walk_at "ev"); (case k1 => walk_at "ev"))
  | ((with_reducible refine' ev_gt ?k0 ?k1); (case k0 => walk_at "ev"); (case k1 => walk_at "ev"))
  | ((with_reducible refine' ev_le ?k0 ?k1); (case k0 => walk_at "ev"); (case k1 => walk_at "ev"))
  | ((with_reducible refine' ev_ge ?k0 ?k1); (case k0 => walk_at "ev"); (case k1 => walk_at "ev"))
  | ((with_reducible refine' ev_eqI ?k0 ?k1); (case k0 => walk_at "ev"); (case k1 => walk_at "ev"))
  | ((with_reducible refine' ev_neI ?k0 ?k1); (case k0 => walk_at "ev"); (case k1 => walk_at "ev"))
  | ((with_reducible refine' ev_eqB ?k0 ?k1); (case k0 => walk_at "ev"); (case k1 => walk_at "ev"))
  | ((with_reducible refine' ev_neB ?k0 ?k1); (case k0 => walk_at "ev"); (case k1 => walk_at "ev"))
  | ((with_reducible refine' ev_eqS ?k0 ?k1); (case k0 => walk_at "ev"); (case k1 => walk_at "ev"))
  | ((with_reducible refine' ev_neS ?k0 ?k1); (case k0 => walk_at "ev"); (case k1 => walk_at "ev"))
  | ((with_reducible refine' ev_mod ?k0 ?k1 ?k2); (case k0 => walk_at "ev"); (case k1 => walk_at "ev"); (case k2 => walk_at "ar"))
  | ((with_reducible refine' ev_mul ?k0 ?k1 ?k2); (case k0 => walk_at "ev"); (case k1 => walk_at "ev"); (case k2 => walk_at "mul"))
  | ((with_reducible refine' ev_div ?k0 ?k1 ?k2); (case k0 => walk_at "ev"); (case k1 => walk_at "ev"); (case k2 => walk_at "div"))
  | ((with_reducible refine' ev_neg ?k0); (case k0 => walk_at "ev"))
  | ((with_reducible refine' ev_callD ?k0 ?k1); (case k0 => walk_at "ea"); (case k1 => walk_at "sp"))
  | ((with_reducible refine' ev_lenI ?k0 ?k1); (case k0 => walk_at "ev"); (case k1 => walk_at "sq"))
  | ((with_reducible refine' ev_lenTxt ?k0 ?k1); (case k0 => walk_at "ev"); (case k1 => walk_at "ar"))
  | ((with_reducible refine' ev_lenS ?k0 ?k1); (case k0 => walk_at "ev"); (case k1 => walk_at "ar"))
  | ((with_reducible refine' ev_ixTxt ?k0 ?k1 ?k2 ?k3 ?k4); (case k0 => walk_at "ev"); (case k1 => walk_at "ev"); (case k2 => walk_at "ar"); (case k3 => walk_at "ar"); (case k4 => walk_at "ar"))
  | ((with_reducible refine' ev_ix2 ?k0); (case k0 => walk_at "ev"))
  | ((with_reducible refine' ev_isiI ?k0); (case k0 => walk_at "ev"))
  | ((with_reducible refine' ev_isiL ?k0 ?k1); (case k0 => walk_at "ev"); (case k1 => walk_at "hl"))
  | ((with_reducible refine' ev_isiU ?k0 ?k1); (case k0 => walk_at "ev"); (case k1 => walk_at "hl"))
  | ((with_reducible refine' ev_isiS ?k0); (case k0 => walk_at "ev"))
  | ((with_reducible refine' ev_isiB ?k0); (case k0 => walk_at "ev"))
  | ((with_reducible refine' ev_isN ?k0); (case k0 => walk_at "ev"))
  | ((with_reducible refine' ev_notN ?k0); (case k0 => walk_at "ev"))
  | ((with_reducible refine' ev_notIB ?k0 ?k1); (case k0 => walk_at "ev"); (case k1 => walk_at "ev"))
  | ((with_reducible refine' ev_neNil ?k0 ?k1); (case k0 => walk_at "ev"); (case k1 => walk_at "sq"))
  | ((with_reducible refine' ev_eqNil ?k0 ?k1); (case k0 => walk_at "ev"); (case k1 => walk_at "sq"))
  | ((with_reducible refine' ev_eqL ?k0 ?k1 ?k2 ?k3); (case k0 => walk_at "ev"); (case k1 => walk_at "ev"); (case k2 => walk_at "sq"); (case k3 => walk_at "sq"))
  | ((with_reducible refine' ev_neL ?k0 ?k1 ?k2 ?k3); (case k0 => walk_at "ev"); (case k1 => walk_at "ev"); (case k2 => walk_at "sq"); (case k3 => walk_at "sq"))
  | ((with_reducible refine' ev_min2 ?k0 ?k1); (case k0 => walk_at "ev"); (case k1 => walk_at "ev"))
  | ((with_reducible refine' ev_max2 ?k0 ?k1); (case k0 => walk_at "ev"); (case k1 => walk_at "ev"))
  | ((with_reducible refine' ev_intB ?k0); (case k0 => walk_at "ev"))
  | ((with_reducible refine' ev_andV ?k0 (fun hb => ?k1)); (case k0 => walk_at "ev"); (case k1 => (walk_at "hb"; walk_at "ev")))
  | ((with_reducible refine' ev_orV ?k0 (fun hb => ?k1)); (case k0 => walk_at "ev"); (case k1 => (walk_at "hb"; walk_at "ev")))
  | ((with_reducible refine' ev_notV ?k0); (case k0 => walk_at "ev"))
  | ((with_reducible refine' ev_ifI ?k0 (fun hb => ?k1) (fun hb => ?k2)); (case k0 => walk_at "et"); (case k1 => (walk_at "hb"; walk_at "ev")); (case k2 => (walk_at "hb"; walk_at "ev")))
  | ((with_reducible refine' ev_ifS ?k0 (fun hb => ?k1) (fun hb => ?k2)); (case k0 => walk_at "et"); (case k1 => (walk_at "hb"; walk_at "ev")); (case k2 => (walk_at "hb"; walk_at "ev"))))
local macro_rules | `(tactic| walk_at "hb") => `(tactic| (try simp only [decide_eq_true_eq, decide_eq_false_iff_not, Bool.and_eq_true, Bool.or_eq_true, Bool.or_eq_false_iff, Bool.not_eq_true', Bool.not_eq_false', beq_iff_eq] at *))
local macro_rules | `(tactic| walk_at "sp") => `(tactic| first
  | (refine' v_number ?k0 ?k1 ?k2; (case k0 => walk_at "sq"); (case k1 => walk_at "ar"); (case k2 => walk_at "ar"))
  | (refine' v_drawn ?k0 ?k1; (case k0 => walk_at "sq"); (case k1 => walk_at "ar"))
  | exact v_size
  | exact v_counts
  | (refine' v_wraps ?k0 ?k1 ?k2 ?k3 ?k4; (case k0 => walk_at "sq"); (case k1 => walk_at "ar"); (case k2 => walk_at "ar"); (case k3 => walk_at "ar"); (case k4 => walk_at "ar"))
  | (refine' v_l_wraps ?k0 ?k1 ?k2 ?k3 ?k4; (case k0 => walk_at "sq"); (case k1 => walk_at "ar"); (case k2 => walk_at "ar"); (case k3 => walk_at "ar"); (case k4 => walk_at "ar"))
  | (refine' v_cross ?k0 ?k1 ?k2 ?k3 ?k4; (case k0 => walk_at "sq"); (case k1 => walk_at "ar"); (case k2 => walk_at "ar"); (case k3 => walk_at "ar"); (case k4 => walk_at "ar"))
  | (refine' v_places ?k0 ?k1 ?k2; (case k0 => walk_at "sq"); (case k1 => walk_at "ar"); (case k2 => assumption))
  | (refine' v_letters ?k0 ?k1 ?k2; (case k0 => walk_at "sq"); (case k1 => walk_at "ar"); (case k2 => assumption))
  | (refine' v_l_places ?k0 ?k1 ?k2; (case k0 => walk_at "sq"); (case k1 => walk_at "ar"); (case k2 => assumption))
  | (refine' v_fits ?k0 ?k1 ?k2 ?k3; (case k0 => walk_at "sq"); (case k1 => walk_at "ar"); (case k2 => walk_at "ar"); (case k3 => walk_at "ar"))
  | (refine' v_none ?k0 ?k1 ?k2; (case k0 => walk_at "sq"); (case k1 => walk_at "ar"); (case k2 => walk_at "ar")))
local macro_rules | `(tactic| walk_at "sp") => `(tactic| first
  | (refine' v_turned ?k0 ?k1 ?k2; (case k0 => walk_at "sq"); (case k1 => walk_at "ar"); (case k2 => assumption))
  | (refine' v_same ?k0 ?k1 ?k2; (case k0 => walk_at "hl"); (case k1 => walk_at "sq"); (case k2 => walk_at "ar"))
  | (refine' v_told ?k0 ?k1 ?k2; (case k0 => walk_at "sq"); (case k1 => walk_at "hl"); (case k2 => assumption))
  | (refine' v_parted ?k0 ?k1 ?k2 ?k3; (case k0 => walk_at "sq"); (case k1 => walk_at "ar"); (case k2 => walk_at "ar"); (case k3 => assumption)))
local macro_rules | `(tactic| walk_at "sp") => `(tactic| first
  | (refine' v_is_pile ?k0 ?k1 ?k2 ?k3; (case k0 => walk_at "hl"); (case k1 => assumption); (case k2 => walk_at "ar"); (case k3 => walk_at "ar")))
section
variable {K : PySem.W.Frag} {c : Cs}
local macro_rules | `(tactic| walk_at "hb") => `(tactic| (try simp only [decide_eq_true_eq, decide_eq_false_iff_not, Bool.and_eq_true, Bool.or_eq_true, Bool.or_eq_false_iff, Bool.not_eq_true', Bool.not_eq_false', beq_iff_eq] at *))
local macro_rules | `(tactic| walk_at "sp") => `(tactic| first
  | (refine' v_number ?k0 ?k1 ?k2; (case k0 => walk_at "sq"); (case k1 => walk_at "ar"); (case k2 => walk_at "ar"))
  | (refine' v_wraps ?k0 ?k1 ?k2 ?k3 ?k4; (case k0 => walk_at "sq"); (case k1 => walk_at "ar"); (case k2 => walk_at "ar"); (case k3 => walk_at "ar"); (case k4 => walk_at "ar"))
  | (refine' v_l_wraps ?k0 ?k1 ?k2 ?k3 ?k4; (case k0 => walk_at "sq"); (case k1 => walk_at "ar"); (case k2 => walk_at "ar"); (case k3 => walk_at "ar"); (case k4 => walk_at "ar"))
  | (refine' v_cross ?k0 ?k1 ?k2 ?k3 ?k4; (case k0 => walk_at "sq"); (case k1 => walk_at "ar"); (case k2 => walk_at "ar"); (case k3 => walk_at "ar"); (case k4 => walk_at "ar"))
  | (refine' v_places ?k0 ?k1 ?k2; (case k0 => walk_at "sq"); (case k1 => walk_at "ar"); (case k2 => assumption))
  | (refine' v_l_places ?k0 ?k1 ?k2; (case k0 => walk_at "sq"); (case k1 => walk_at "ar"); (case k2 => assumption))
  | (refine' v_fits ?k0 ?k1 ?k2 ?k3; (case k0 => walk_at "sq"); (case k1 => walk_at "ar"); (case k2 => walk_at "ar"); (case k3 => walk_at "ar")))

theorem read_wraps (vs : List V) (H : Hp) (Q : VK) (E : XK) (h : sp_wraps K c vs H Q E) : t_wraps K c E { nx := fun _ H' => Q .non H', rt := Q } (start ["at", "crease", "stamp", "ends"] vs) H := by
  obtain ⟨a, p, i, s, rfl, hS, ⟨i0, i1⟩, ⟨s0, s1⟩, q⟩ := h
  refine Go.here (g_asgL (xs := [lo (gi p i) (gi p (i + 1)), hi (gi p i) (gi p (i + 1))].map V.int) (el_sortedN (ns := [gi p i, gi p (i + 1)]) (el_lst (vs := [.int (gi p i), .int (gi p (i + 1))]) (by walk_at "ea") (Nat.le_of_ble_eq_true rfl)) sort2) fun r H1 hr e1 hl => ?_)
  have hE : SqL K H1 r ([lo (gi p i) (gi p (i + 1)), hi (gi p i) (gi p (i + 1))].map V.int) := sq_lst hl
  refine g_ret (v := .bl (wr p i s)) ?_ fun H2 e2 => q H2 (e1.trans e2)
  have hS1 : SqL K H1 a (p.map V.int) := ex_l e1 hS
  have x0 : Ev (tOp (rIxL K) (tVar 3) (tC (.int 0))) [some (.ref a), some (.int i), some (.int s), some (.ref r)] H1 (.int (lo (gi p i) (gi p (i + 1)))) := ev_ixL (ev_var rfl) ev_c hE rfl
  have x1 : Ev (tOp (rIxL K) (tVar 3) (tC (.int 1))) [some (.ref a), some (.int i), some (.int s), some (.ref r)] H1 (.int (hi (gi p i) (gi p (i + 1)))) := ev_ixL (ev_var rfl) ev_c hE rfl
  have x2 : Ev (tOp (rIxL K) (tVar 0) (tVar 2)) [some (.ref a), some (.int i), some (.int s), some (.ref r)] H1 (.int (gi p s)) := by walk_at "ev"
  exact ev_andV (ev_lt x0 x2) fun _ => ev_lt x2 x1

theorem read_l_wraps (vs : List V) (H : Hp) (Q : VK) (E : XK) (h : sp_l_wraps K c vs H Q E) : t_l_wraps K c E { nx := fun _ H' => Q .non H', rt := Q } (start ["_law_at", "_law_crease", "_law_stamp", "_law_low", "_law_high"] vs) H := by
  obtain ⟨a, p, i, s, rfl, hS, ⟨i0, i1⟩, ⟨s0, s1⟩, q⟩ := h
  refine Go.here (g_asg (v := .int (lo (gi p i) (gi p (i + 1)))) (ev_min2 (by walk_at "ev") (by walk_at "ev")) ?_)
  refine g_asg (v := .int (hi (gi p i) (gi p (i + 1)))) (ev_max2 (by walk_at "ev") (by walk_at "ev")) ?_
  exact g_ret (v := .bl (wr p i s)) (by unfold wr wrB; walk_at "ev") q

theorem read_crossing (vs : List V) (H : Hp) (Q : VK) (E : XK) (h : sp_crossing K c vs H Q E) : t_crossing K c E { nx := fun _ H' => Q .non H', rt := Q } (start ["pile", "at", "one", "other"] vs) H := by
  obtain ⟨a, ns, rfl, hS, hlen, q, x⟩ := h
  by_cases hp : IsPile ns
  · refine Go.here (g_asgL (xs := (pl ns).map V.int) (el_callD (by walk_at "ea") (v_places hS hlen hp)) fun r H1 hr e1 hl => ?_)
    have hpl := pl_len ns
    have hps := hp.pos
    obtain ⟨q1, q2⟩ := q hp
    generalize hgp : pl ns = p at *
    refine g_forR1 (n := (p.length : Int) - 1) (by walk_at "ea") (by omega) (fun k σ H' => ∃ (y2 y3 : Option V), σ = [some (.ref a), some (.ref r), y2, y3] ∧ Ex H1 H' ∧ ∀ i j : Int, i < (k : Int) → ¬ XX p i j)
      (fun H2 e2 => ⟨none, none, rfl, e2, fun i j hi x => by have := x.i0; omega⟩) (fun k σ H' hk hP => ?_) (fun σ H' hP => ?_) (by omega)
    · obtain ⟨y2, y3, rfl, e, hn⟩ := hP
      refine g_forR3 (lo := (k : Int) + 2) (n := (p.length : Int) - 1) (by walk_at "ea") (by omega) (fun m σ H' => ∃ y3 : Option V, σ = [some (.ref a), some (.ref r), some (.int (k : Int)), y3] ∧ Ex H1 H' ∧ ∀ j : Int, j < (k : Int) + 2 + (m : Int) * 2 → ¬ XX p (k : Int) j)
        (fun H2 e2 => ⟨y3, rfl, e.trans e2, fun j hj x => by have := x.ij; have := x.even; omega⟩) (fun m σ H' hm hP => ?_) (fun σ H' hP => ?_)
      · obtain ⟨y3, rfl, e, hn2⟩ := hP
        refine g_when (b := !(wr p (k : Int) ((k : Int) + 2 + (m : Int) * 2) == wr p (k : Int) ((k : Int) + 2 + (m : Int) * 2 + 1))) (by walk_at "et") (fun hb => ?_) (fun hb => ?_)
        · rw [Bool.not_eq_true', beq_eq_false_iff_ne] at hb
          exact g_retU (xs := [.int (k : Int), .int ((k : Int) + 2 + (m : Int) * 2)]) (eu_tup (by walk_at "ea") (Nat.le_of_ble_eq_true rfl)) fun u H3 hu e3 hl3 =>
            q2 _ _ ⟨by omega, by omega, by omega, by omega, hb⟩ u H3 (fresh_back (e1.trans e) hu) ((e1.trans e).trans e3) hl3
        · rw [Bool.not_eq_false', beq_iff_eq] at hb
          refine g_next fun H3 e3 => ⟨_, rfl, e.trans e3, fun j hj xx => ?_⟩
          have h1 := xx.even
          have h2 := xx.ij
          by_cases h3 : j = (k : Int) + 2 + (m : Int) * 2
          · rw [h3] at xx
            exact xx.ne hb
          · exact hn2 j (by omega) xx
      · obtain ⟨y3, rfl, e, hn2⟩ := hP
        refine g_next fun H3 e3 => ⟨_, _, rfl, e.trans e3, fun i j hij xx => ?_⟩
        by_cases h3 : i = (k : Int)
        · subst h3
          have h1 := xx.jn
          have h2 := xx.even
          exact hn2 j (by omega) xx
        · exact hn i j (by omega) xx
    · obtain ⟨y2, y3, rfl, e, hn⟩ := hP
      refine g_ret (v := .non) ev_c fun H3 e3 => q1 (fun i j xx => ?_) H3 ((e1.trans e).trans e3)
      have h1 := xx.jn
      have h2 := xx.ij
      exact hn i j (by omega) xx
  · exact Go.here (g_asgX (evx_call (by walk_at "ea") (x_places hS hlen hp (x hp))))

theorem read_l_none_cross2 (vs : List V) (H : Hp) (Q : VK) (E : XK) (h : sp_l_none_cross K c vs H Q E) : t_l_none_cross2 K c E { nx := fun _ H' => Q .non H', rt := Q } (start ["_law_at", "_law_one", "_law_other"] vs) H := by
  obtain ⟨a, p, rfl, hS, hlen, hl1, q⟩ := h
  refine Go.here ?_
  refine g_forR1 (n := (p.length : Int) - 1) (by walk_at "ea") (by omega) (fun k σ H' => ∃ (y2 y3 : Option V), σ = [some (.ref a), y2, y3] ∧ Ex H H' ∧ ∀ i j : Int, i < (k : Int) → ¬ XX p i j)
    (fun H2 e2 => ⟨none, none, rfl, e2, fun i j hi x => by have := x.i0; omega⟩) (fun k σ H' hk hP => ?_) (fun σ H' hP => ?_) (by omega)
  · obtain ⟨y2, y3, rfl, e, hn⟩ := hP
    refine g_forR3 (lo := (k : Int) + 2) (n := (p.length : Int) - 1) (by walk_at "ea") (by omega) (fun m σ H' => ∃ y3 : Option V, σ = [some (.ref a), some (.int (k : Int)), y3] ∧ Ex H H' ∧ ∀ j : Int, j < (k : Int) + 2 + (m : Int) * 2 → ¬ XX p (k : Int) j)
      (fun H2 e2 => ⟨y3, rfl, e.trans e2, fun j hj x => by have := x.ij; have := x.even; omega⟩) (fun m σ H' hm hP => ?_) (fun σ H' hP => ?_)
    · obtain ⟨y3, rfl, e, hn2⟩ := hP
      refine g_when (b := crB p (k : Int) ((k : Int) + 2 + (m : Int) * 2)) (by walk_at "et") (fun hb => ?_) (fun hb => ?_)
      · refine g_ret (v := .bl false) ev_c fun H3 e3 => ?_
        have hx : XX p (k : Int) ((k : Int) + 2 + (m : Int) * 2) := ⟨by omega, by omega, by omega, by omega, by
          unfold crB at hb
          rw [if_neg (by omega), Bool.not_eq_true', beq_eq_false_iff_ne] at hb
          exact hb⟩
        have hf : noX p = false := by
          rw [Bool.eq_false_iff]
          exact fun z => (noX_iff p).mp z _ _ hx
        rw [← hf]
        exact q H3 (e.trans e3)
      · refine g_next fun H3 e3 => ⟨_, rfl, e.trans e3, fun j hj xx => ?_⟩
        have h1 := xx.even
        have h2 := xx.ij
        by_cases h3 : j = (k : Int) + 2 + (m : Int) * 2
        · rw [h3] at xx
          unfold crB at hb
          rw [if_neg (by omega), Bool.not_eq_false', beq_iff_eq] at hb
          exact xx.ne hb
        · exact hn2 j (by omega) xx
    · obtain ⟨y3, rfl, e, hn2⟩ := hP
      refine g_next fun H3 e3 => ⟨_, _, rfl, e.trans e3, fun i j hij xx => ?_⟩
      by_cases h3 : i = (k : Int)
      · subst h3
        have h1 := xx.jn
        have h2 := xx.even
        exact hn2 j (by omega) xx
      · exact hn i j (by omega) xx
  · obtain ⟨y2, y3, rfl, e, hn⟩ := hP
    refine g_ret (v := .bl true) ev_c fun H3 e3 => ?_
    have ht : noX p = true := (noX_iff p).mpr fun i j xx => by
      have h1 := xx.jn
      have h2 := xx.ij
      exact hn i j (by omega) xx
    rw [← ht]
    exact q H3 (e.trans e3)

theorem read_l_cross (vs : List V) (H : Hp) (Q : VK) (E : XK) (h : sp_l_cross K c vs H Q E) : t_l_cross K c E { nx := fun _ H' => Q .non H', rt := Q } (start ["_law_at", "_law_one", "_law_other"] vs) H := by
  obtain ⟨a, p, i, j, rfl, hS, ⟨i0, i1⟩, ⟨j0, j1⟩, q⟩ := h
  refine Go.here (g_when (b := decide (i = j) || decide ((i - j) % 2 = 1)) (by walk_at "et") (fun hb => ?_) (fun hb => ?_))
  · refine g_ret (v := .bl false) ev_c ?_
    have e : crB p i j = false := by
      unfold crB
      rw [if_pos (by simpa using hb)]
    rw [← e]
    exact q
  · refine g_ret (v := .bl (crB p i j)) ?_ q
    unfold crB
    rw [if_neg (by simpa using hb)]
    walk_at "ev"
end
end Fo
/-! Law_k04 -/
namespace Fo
open PySem PySem.Spec PyProof.Rows L2 Evl
/-! ### the text -/
def topS (i : Nat) : Stmt := PySem.Challenge.pw_stripfold_k04_pile_of_letters.main.body.getD i (.Pass ⟨0, 0, 0, 0⟩)
abbrev s_l_drawn : Stmt := topS 7
theorem sc_l_drawn : FnScope ["_law_script", "_law_k"] ["_law_script", "_law_k"] (defScope s_l_drawn) := ⟨rfl, rfl, rfl, by decide +kernel, rfl, by decide +kernel, by decide +kernel⟩
abbrev s_l_counts : Stmt := topS 9
theorem sc_l_counts : FnScope ["_law_thing"] ["_law_thing"] (defScope s_l_counts) := ⟨rfl, rfl, rfl, by decide +kernel, rfl, by decide +kernel, by decide +kernel⟩
abbrev s_l_is_pile : Stmt := topS 11
theorem sc_l_is_pile : FnScope ["_law_found", "_law_size_here", "_law_seen", "_law_stamp"] ["_law_found", "_law_size_here"] (defScope s_l_is_pile) := ⟨rfl, rfl, rfl, by decide +kernel, rfl, by decide +kernel, by decide +kernel⟩
abbrev s_l_wraps : Stmt := topS 13
theorem sc_l_wraps : FnScope ["_law_at", "_law_crease", "_law_stamp", "_law_low", "_law_high"] ["_law_at", "_law_crease", "_law_stamp"] (defScope s_l_wraps) := ⟨rfl, rfl, rfl, by decide +kernel, rfl, by decide +kernel, by decide +kernel⟩
abbrev s_l_none_cross : Stmt := topS 14
theorem sc_l_none_cross : FnScope ["_law_at", "_law_one", "_law_other"] ["_law_at"] (defScope s_l_none_cross) := ⟨rfl, rfl, rfl, by decide +kernel, rfl, by decide +kernel, by decide +kernel⟩
abbrev s_l_places : Stmt := topS 12
theorem sc_l_places : FnScope ["_law_pile", "_law_at", "_law_k"] ["_law_pile"] (defScope s_l_places) := ⟨rfl, rfl, rfl, by decide +kernel, rfl, by decide +kernel, by decide +kernel⟩
abbrev s_l_number : Stmt := topS 8
theorem sc_l_number : FnScope ["_law_script", "_law_k", "_law_cell"] ["_law_script", "_law_k"] (defScope s_l_number) := ⟨rfl, rfl, rfl, by decide +kernel, rfl, by decide +kernel, by decide +kernel⟩
abbrev s_l_row : Stmt := topS 15
theorem sc_l_row : FnScope ["_law_script", "_law_many", "_law_way", "_law_number_here", "_law_told", "_law_k", "_law_which"] ["_law_script", "_law_many"] (defScope s_l_row) := ⟨rfl, rfl, rfl, by decide +kernel, rfl, by decide +kernel, by decide +kernel⟩
abbrev s_l_size : Stmt := topS 10
theorem sc_l_size : FnScope ["_law_cell"] ["_law_cell"] (defScope s_l_size) := ⟨rfl, rfl, rfl, by decide +kernel, rfl, by decide +kernel, by decide +kernel⟩
abbrev s_look_at : Stmt := topS 4
theorem sc_look_at : FnScope ["row", "letter"] ["row"] (defScope s_look_at) := ⟨rfl, rfl, rfl, by decide +kernel, rfl, by decide +kernel, by decide +kernel⟩
abbrev s_pile_of : Stmt := topS 5
theorem sc_pile_of : FnScope ["row", "pile", "crease", "letter", "place"] ["row"] (defScope s_pile_of) := ⟨rfl, rfl, rfl, by decide +kernel, rfl, by decide +kernel, by decide +kernel⟩
abbrev s_law : Stmt := topS 16
theorem sc_law : FnScope ["_law_script", "_law_size_here", "_law_row_here", "_law_found", "_law_at", "_law_crease", "_law_inward"] ["_law_script"] (defScope s_law) := ⟨rfl, rfl, rfl, by decide +kernel, rfl, by decide +kernel, by decide +kernel⟩
/-- where the defs stand -/
structure Ad where
  f_l_drawn : Addr
  d_l_drawn : FuncData
  f_l_counts : Addr
  d_l_counts : FuncData
  f_l_is_pile : Addr
  d_l_is_pile : FuncData
  f_l_wraps : Addr
  d_l_wraps : FuncData
  f_l_none_cross : Addr
  d_l_none_cross : FuncData
  f_l_places : Addr
  d_l_places : FuncData
  f_l_number : Addr
  d_l_number : FuncData
  f_l_row : Addr
  d_l_row : FuncData
  f_l_size : Addr
  d_l_size : FuncData
  f_look_at : Addr
  d_look_at : FuncData
  f_pile_of : Addr
  d_pile_of : FuncData
  f_law : Addr
  d_law : FuncData
/-- what the top has written -/
structure Txt (K : PySem.W.Frag) (mg : Str → Option Value) (c : Cs) (A : Ad) : Prop where
  sz : c.sz = [6, 9, 17, 9, 17, 12, 30, 100]
  F_l_drawn : Fun K "_law_drawn" "_law_drawn" s_l_drawn A.f_l_drawn A.d_l_drawn
  g_l_drawn : mg "_law_drawn" = some (.ref A.f_l_drawn)
  k_l_drawn : PySem.W.keepIn K (.ref A.f_l_drawn) = true
  b_l_drawn : Binds K A.d_l_drawn ["_law_script", "_law_k"] []
  F_l_counts : Fun K "_law_counts" "_law_counts" s_l_counts A.f_l_counts A.d_l_counts
  g_l_counts : mg "_law_counts" = some (.ref A.f_l_counts)
  k_l_counts : PySem.W.keepIn K (.ref A.f_l_counts) = true
  b_l_counts : Binds K A.d_l_counts ["_law_thing"] []
  F_l_is_pile : Fun K "_law_is_pile" "_law_is_pile" s_l_is_pile A.f_l_is_pile A.d_l_is_pile
  g_l_is_pile : mg "_law_is_pile" = some (.ref A.f_l_is_pile)
  k_l_is_pile : PySem.W.keepIn K (.ref A.f_l_is_pile) = true
  b_l_is_pile : Binds K A.d_l_is_pile ["_law_found", "_law_size_here"] []
  F_l_wraps : Fun K "_law_wraps" "_law_wraps" s_l_wraps A.f_l_wraps A.d_l_wraps
  g_l_wraps : mg "_law_wraps" = some (.ref A.f_l_wraps)
  k_l_wraps : PySem.W.keepIn K (.ref A.f_l_wraps) = true
  b_l_wraps : Binds K A.d_l_wraps ["_law_at", "_law_crease", "_law_stamp"] []
  F_l_none_cross : Fun K "_law_none_cross" "_law_none_cross" s_l_none_cross A.f_l_none_cross A.d_l_none_cross
  g_l_none_cross : mg "_law_none_cross" = some (.ref A.f_l_none_cross)
  k_l_none_cross : PySem.W.keepIn K (.ref A.f_l_none_cross) = true
  b_l_none_cross : Binds K A.d_l_none_cross ["_law_at"] []
  F_l_places : Fun K "_law_places" "_law_places" s_l_places A.f_l_places A.d_l_places
  g_l_places : mg "_law_places" = some (.ref A.f_l_places)
  k_l_places : PySem.W.keepIn K (.ref A.f_l_places) = true
  b_l_places : Binds K A.d_l_places ["_law_pile"] []
  F_l_number : Fun K "_law_number" "_law_number" s_l_number A.f_l_number A.d_l_number
  g_l_number : mg "_law_number" = some (.ref A.f_l_number)
  k_l_number : PySem.W.keepIn K (.ref A.f_l_number) = true
  b_l_number : Binds K A.d_l_number ["_law_script", "_law_k"] []
  F_l_row : Fun K "_law_row" "_law_row" s_l_row A.f_l_row A.d_l_row
  g_l_row : mg "_law_row" = some (.ref A.f_l_row)
  k_l_row : PySem.W.keepIn K (.ref A.f_l_row) = true
  b_l_row : Binds K A.d_l_row ["_law_script", "_law_many"] []
  F_l_size : Fun K "_law_size" "_law_size" s_l_size A.f_l_size A.d_l_size
  g_l_size : mg "_law_size" = some (.ref A.f_l_size)
  k_l_size : PySem.W.keepIn K (.ref A.f_l_size) = true
  b_l_size : Binds K A.d_l_size ["_law_cell"] []
  F_look_at : Fun K "look_at" "look_at" s_look_at A.f_look_at A.d_look_at
  g_look_at : mg "look_at" = some (.ref A.f_look_at)
  k_look_at : PySem.W.keepIn K (.ref A.f_look_at) = true
  b_look_at : Binds K A.d_look_at ["row"] []
  F_pile_of : Fun K "pile_of" "pile_of" s_pile_of A.f_pile_of A.d_pile_of
  g_pile_of : mg "pile_of" = some (.ref A.f_pile_of)
  k_pile_of : PySem.W.keepIn K (.ref A.f_pile_of) = true
  b_pile_of : Binds K A.d_pile_of ["row"] []
  F_law : Fun K "law" "law" s_law A.f_law A.d_law
  m_enumerate : mg "enumerate" = none
  m_int : mg "int" = none
  m_isinstance : mg "isinstance" = none
  m_len : mg "len" = none
  m_list : mg "list" = none
  m_max : mg "max" = none
  m_min : mg "min" = none
  m_range : mg "range" = none
  x_NoLetters : PySem.W.excIn K c.nl [.type "ValueError", .type "Exception", .type "BaseException", .type "object"] "ValueError.__new__" = true
  g_NoLetters : mg "NoLetters" = some (.ref c.nl)
  k_NoLetters : PySem.W.keepIn K (.ref c.nl) = true
  bx_NoLetters : PySem.W.subIn K (.ref c.nl) (.type "BaseException") = some true
  ty_NoLetters : PySem.W.typeIn K (.ref c.nl) = some (.type "type")
section
variable {P : Program} {w : World} {K : PySem.W.Frag} {mg : Str → Option Value} {base : Heap} {c : Cs} {A0 : Ad}
theorem ok_l_drawn (T : Txt K mg c A0) : FnOk P w K mg base (L2.CX P w) 1 A0.f_l_drawn A0.d_l_drawn ["_law_script", "_law_k"] (sp_l_drawn K c) := by
  refine T.F_l_drawn.okX sc_l_drawn (fun vs H Q E h => by first | (obtain ⟨_, rfl, _⟩ := h; rfl) | (obtain ⟨_, _, rfl, _⟩ := h; rfl) | (obtain ⟨_, _, _, rfl, _⟩ := h; rfl) | (obtain ⟨_, _, _, _, rfl, _⟩ := h; rfl) | (obtain ⟨_, _, _, _, _, rfl, _⟩ := h; rfl) | (obtain ⟨_, _, _, _, _, _, rfl, _⟩ := h; rfl)) (fun cdv A outer s H vs Q E hr h => ⟨t_l_drawn K c E, ?_, read_l_drawn vs H Q E h⟩)
  exact (pss_cons (ps_ret (pe_ifExp (pt_cmpR op_lt (pv 1) (pe_callB call_len_seq (by rfl) T.m_len (by decide +kernel) (pa_cons (pv 0) pa_nil)) (nomark _)) (pe_ix ix_list (pv 0) (pv 1) (fun _ _ => rfl)) pe_int))
 pss_nil)
theorem ok_l_counts (T : Txt K mg c A0) : FnOk P w K mg base (L2.CX P w) 1 A0.f_l_counts A0.d_l_counts ["_law_thing"] (sp_l_counts K c) := by
  refine T.F_l_counts.okX sc_l_counts (fun vs H Q E h => by first | (obtain ⟨_, rfl, _⟩ := h; rfl) | (obtain ⟨_, _, rfl, _⟩ := h; rfl) | (obtain ⟨_, _, _, rfl, _⟩ := h; rfl) | (obtain ⟨_, _, _, _, rfl, _⟩ := h; rfl) | (obtain ⟨_, _, _, _, _, rfl, _⟩ := h; rfl) | (obtain ⟨_, _, _, _, _, _, rfl, _⟩ := h; rfl)) (fun cdv A outer s H vs Q E hr h => ⟨t_l_counts K c E, ?_, read_l_counts vs H Q E h⟩)
  exact (pss_cons (ps_ret (pe_and (pe_callB call_isi (by rfl) T.m_isinstance (by decide +kernel) (pa_cons (pv 0) (pa_cons (pe_bltn (by rfl) T.m_int (by decide +kernel) rfl) pa_nil))) (pe_and (pe_cmpR op_notIB (pv 0) pe_bl (nomark _)) (pe_one (pe_cmpR op_notIB (pv 0) pe_bl (nomark _))))))
 pss_nil)
theorem ok_l_is_pile (T : Txt K mg c A0) : FnOk P w K mg base (L2.CX P w) 2 A0.f_l_is_pile A0.d_l_is_pile ["_law_found", "_law_size_here"] (sp_l_is_pile K c) := by
  have G_l_counts := ok_l_counts (P := P) (w := w) (base := base) T
  refine T.F_l_is_pile.okX sc_l_is_pile (fun vs H Q E h => by first | (obtain ⟨_, rfl, _⟩ := h; rfl) | (obtain ⟨_, _, rfl, _⟩ := h; rfl) | (obtain ⟨_, _, _, rfl, _⟩ := h; rfl) | (obtain ⟨_, _, _, _, rfl, _⟩ := h; rfl) | (obtain ⟨_, _, _, _, _, rfl, _⟩ := h; rfl) | (obtain ⟨_, _, _, _, _, _, rfl, _⟩ := h; rfl)) (fun cdv A outer s H vs Q E hr h => ⟨t_l_is_pile K c E, ?_, read_l_is_pile vs H Q E h⟩)
  exact (pss_cons (ps_if (PW.pt (pw_or (pt_not (pt_val (pe_callB call_isi (by rfl) T.m_isinstance (by decide +kernel) (pa_cons (pv 0) (pa_cons (pe_bltn (by rfl) T.m_list (by decide +kernel) rfl) pa_nil))))) (pw_or1 (pt_cmpR op_ne (pe_callB call_len_seq (by rfl) T.m_len (by decide +kernel) (pa_cons (pv 0) pa_nil)) (pv 1) (nomark _))))) (pss_cons (ps_ret pe_bl)
 pss_nil) pss_nil)
 (pss_cons (ps_set (i := 2) sc_l_is_pile.nd rfl (.inl rfl) (pe_op op_rep (pe_lst (pa_cons pe_bl pa_nil)) (pv 1)))
 (pss_cons (ps_for (passes_of rfl) rfl (pi_list (pv 0)) (pg_name (i := 3) sc_l_is_pile.nd rfl (.inl rfl)) (pss_cons (ps_if (PW.pt (pw_or (pt_not (pt_val (pe_call G_l_counts (hr.mono (by decide)) (by rfl) T.g_l_counts T.k_l_counts T.b_l_counts .nil passE (pa_cons (pv 3) pa_nil)))) (pw_or (pt_cmpR op_lt (pv 3) pe_int (nomark _)) (pw_or (pt_cmpR op_ge (pv 3) (pv 1) (nomark _)) (pw_or1 (pt_val (pe_ix ix_list (pv 2) (pv 3) (fun _ _ => rfl)))))))) (pss_cons (ps_ret pe_bl)
 pss_nil) pss_nil)
 (pss_cons (ps_asg pe_bl (pg_sub (pv 2) (pv 3) set_list))
 pss_nil)))
 (pss_cons (ps_ret pe_bl)
 pss_nil))))
theorem ok_l_wraps (T : Txt K mg c A0) : FnOk P w K mg base (L2.CX P w) 1 A0.f_l_wraps A0.d_l_wraps ["_law_at", "_law_crease", "_law_stamp"] (sp_l_wraps K c) := by
  refine T.F_l_wraps.okX sc_l_wraps (fun vs H Q E h => by first | (obtain ⟨_, rfl, _⟩ := h; rfl) | (obtain ⟨_, _, rfl, _⟩ := h; rfl) | (obtain ⟨_, _, _, rfl, _⟩ := h; rfl) | (obtain ⟨_, _, _, _, rfl, _⟩ := h; rfl) | (obtain ⟨_, _, _, _, _, rfl, _⟩ := h; rfl) | (obtain ⟨_, _, _, _, _, _, rfl, _⟩ := h; rfl)) (fun cdv A outer s H vs Q E hr h => ⟨t_l_wraps K c E, ?_, read_l_wraps vs H Q E h⟩)
  exact (pss_cons (ps_set (i := 3) sc_l_wraps.nd rfl (.inl rfl) (pe_callB (call_min2 rfl) (by rfl) T.m_min (by decide +kernel) (pa_cons (pe_ix ix_list (pv 0) (pv 1) (fun _ _ => rfl)) (pa_cons (pe_ix ix_list (pv 0) (pe_op op_add (pv 1) pe_int) (fun _ _ => rfl)) pa_nil))))
 (pss_cons (ps_set (i := 4) sc_l_wraps.nd rfl (.inl rfl) (pe_callB (call_max2 rfl) (by rfl) T.m_max (by decide +kernel) (pa_cons (pe_ix ix_list (pv 0) (pv 1) (fun _ _ => rfl)) (pa_cons (pe_ix ix_list (pv 0) (pe_op op_add (pv 1) pe_int) (fun _ _ => rfl)) pa_nil))))
 (pss_cons (ps_ret (pe_and (pe_cmpR op_lt (pv 3) (pe_ix ix_list (pv 0) (pv 2) (fun _ _ => rfl)) (nomark _)) (pe_one (pe_cmpR op_lt (pe_ix ix_list (pv 0) (pv 2) (fun _ _ => rfl)) (pv 4) (nomark _)))))
 pss_nil)))
theorem ok_l_none_cross (T : Txt K mg c A0) : FnOk P w K mg base (L2.CX P w) 2 A0.f_l_none_cross A0.d_l_none_cross ["_law_at"] (sp_l_none_cross K c) := by
  have G_l_wraps := ok_l_wraps (P := P) (w := w) (base := base) T
  refine T.F_l_none_cross.okX sc_l_none_cross (fun vs H Q E h => by first | (obtain ⟨_, rfl, _⟩ := h; rfl) | (obtain ⟨_, _, rfl, _⟩ := h; rfl) | (obtain ⟨_, _, _, rfl, _⟩ := h; rfl) | (obtain ⟨_, _, _, _, rfl, _⟩ := h; rfl) | (obtain ⟨_, _, _, _, _, rfl, _⟩ := h; rfl) | (obtain ⟨_, _, _, _, _, _, rfl, _⟩ := h; rfl)) (fun cdv A outer s H vs Q E hr h => ⟨t_l_none_cross K c E, ?_, read_l_none_cross vs H Q E h⟩)
  exact (pss_cons (ps_for (passes_of rfl) rfl (pi_range1 (by rfl) T.m_range (pa_cons (pe_op op_sub (pe_callB call_len_seq (by rfl) T.m_len (by decide +kernel) (pa_cons (pv 0) pa_nil)) pe_int) pa_nil)) (pg_name (i := 1) sc_l_none_cross.nd rfl (.inl rfl)) (pss_cons (ps_for (passes_of rfl) rfl (pi_range3 (by rfl) T.m_range (pa_cons (pe_op op_add (pv 1) pe_int) (pa_cons (pe_op op_sub (pe_callB call_len_seq (by rfl) T.m_len (by decide +kernel) (pa_cons (pv 0) pa_nil)) pe_int) (pa_cons pe_int pa_nil)))) (pg_name (i := 2) sc_l_none_cross.nd rfl (.inl rfl)) (pss_cons (ps_if (pt_cmpR op_ne (pe_call G_l_wraps (hr.mono (by decide)) (by rfl) T.g_l_wraps T.k_l_wraps T.b_l_wraps .nil passE (pa_cons (pv 0) (pa_cons (pv 1) (pa_cons (pv 2) pa_nil)))) (pe_call G_l_wraps (hr.mono (by decide)) (by rfl) T.g_l_wraps T.k_l_wraps T.b_l_wraps .nil passE (pa_cons (pv 0) (pa_cons (pv 1) (pa_cons (pe_op op_add (pv 2) pe_int) pa_nil)))) (nomark _)) (pss_cons (ps_ret pe_bl)
 pss_nil) pss_nil)
 pss_nil))
 pss_nil))
 (pss_cons (ps_ret pe_bl)
 pss_nil))
theorem ok_l_places (T : Txt K mg c A0) : FnOk P w K mg base (L2.CX P w) 1 A0.f_l_places A0.d_l_places ["_law_pile"] (sp_l_places K c) := by
  refine T.F_l_places.okX sc_l_places (fun vs H Q E h => by first | (obtain ⟨_, rfl, _⟩ := h; rfl) | (obtain ⟨_, _, rfl, _⟩ := h; rfl) | (obtain ⟨_, _, _, rfl, _⟩ := h; rfl) | (obtain ⟨_, _, _, _, rfl, _⟩ := h; rfl) | (obtain ⟨_, _, _, _, _, rfl, _⟩ := h; rfl) | (obtain ⟨_, _, _, _, _, _, rfl, _⟩ := h; rfl)) (fun cdv A outer s H vs Q E hr h => ⟨t_l_places K c E, ?_, read_l_places vs H Q E h⟩)
  exact (pss_cons (ps_set (i := 1) sc_l_places.nd rfl (.inl rfl) (pe_op op_rep (pe_lst (pa_cons pe_int pa_nil)) (pe_callB call_len_seq (by rfl) T.m_len (by decide +kernel) (pa_cons (pv 0) pa_nil))))
 (pss_cons (ps_for (passes_of rfl) rfl (pi_range1 (by rfl) T.m_range (pa_cons (pe_callB call_len_seq (by rfl) T.m_len (by decide +kernel) (pa_cons (pv 0) pa_nil)) pa_nil)) (pg_name (i := 2) sc_l_places.nd rfl (.inl rfl)) (pss_cons (ps_asg (pv 2) (pg_sub (pv 1) (pe_ix ix_list (pv 0) (pv 2) (fun _ _ => rfl)) set_list))
 pss_nil))
 (pss_cons (ps_ret (pv 1))
 pss_nil)))
theorem ok_l_number (T : Txt K mg c A0) : FnOk P w K mg base (L2.CX P w) 1 A0.f_l_number A0.d_l_number ["_law_script", "_law_k"] (sp_l_number K c) := by
  refine T.F_l_number.okX sc_l_number (fun vs H Q E h => by first | (obtain ⟨_, rfl, _⟩ := h; rfl) | (obtain ⟨_, _, rfl, _⟩ := h; rfl) | (obtain ⟨_, _, _, rfl, _⟩ := h; rfl) | (obtain ⟨_, _, _, _, rfl, _⟩ := h; rfl) | (obtain ⟨_, _, _, _, _, rfl, _⟩ := h; rfl) | (obtain ⟨_, _, _, _, _, _, rfl, _⟩ := h; rfl)) (fun cdv A outer s H vs Q E hr h => ⟨t_l_number K c E, ?_, read_l_number vs H Q E h⟩)
  exact (pss_cons (ps_set (i := 2) sc_l_number.nd rfl (.inl rfl) (pe_op op_add (pe_op op_mul (pe_op op_mul (pv 1) (pv 1)) pe_int) (pv 1)))
 (pss_cons (ps_if (pt_cmpR op_lt (pv 1) (pe_callB call_len_seq (by rfl) T.m_len (by decide +kernel) (pa_cons (pv 0) pa_nil)) (nomark _)) (pss_cons (ps_set (i := 2) sc_l_number.nd rfl (.inl rfl) (pe_ix ix_list (pv 0) (pv 1) (fun _ _ => rfl)))
 pss_nil) (pss_cons (ps_if (pt_cmpR (op_neD hr.units) (pv 0) (pe_lst pa_nil) (nomark _)) (pss_cons (ps_set (i := 2) sc_l_number.nd rfl (.inl rfl) (pe_op op_add (pv 2) (pe_ix ix_list (pv 0) (pe_op op_mod (pv 1) (pe_callB call_len_seq (by rfl) T.m_len (by decide +kernel) (pa_cons (pv 0) pa_nil))) (fun _ _ => rfl))))
 pss_nil) pss_nil)
 pss_nil))
 (pss_cons (ps_ret (pe_op op_mod (pe_op op_mul (pv 2) pe_int) pe_int))
 pss_nil)))
theorem ok_l_row (T : Txt K mg c A0) : FnOk P w K mg base (L2.CX P w) 2 A0.f_l_row A0.d_l_row ["_law_script", "_law_many"] (sp_l_row K c) := by
  have G_l_drawn := ok_l_drawn (P := P) (w := w) (base := base) T
  have G_l_number := ok_l_number (P := P) (w := w) (base := base) T
  refine T.F_l_row.okX sc_l_row (fun vs H Q E h => by first | (obtain ⟨_, rfl, _⟩ := h; rfl) | (obtain ⟨_, _, rfl, _⟩ := h; rfl) | (obtain ⟨_, _, _, rfl, _⟩ := h; rfl) | (obtain ⟨_, _, _, _, rfl, _⟩ := h; rfl) | (obtain ⟨_, _, _, _, _, rfl, _⟩ := h; rfl) | (obtain ⟨_, _, _, _, _, _, rfl, _⟩ := h; rfl)) (fun cdv A outer s H vs Q E hr h => ⟨t_l_row K c E, ?_, read_l_row vs H Q E h⟩)
  exact (pss_cons (ps_set (i := 2) sc_l_row.nd rfl (.inl rfl) (pe_op op_mod (pe_call G_l_drawn (hr.mono (by decide)) (by rfl) T.g_l_drawn T.k_l_drawn T.b_l_drawn .nil passE (pa_cons (pv 0) (pa_cons pe_int pa_nil))) pe_int))
 (pss_cons (ps_set (i := 3) sc_l_row.nd rfl (.inl rfl) (pe_op op_fdiv (pe_call G_l_drawn (hr.mono (by decide)) (by rfl) T.g_l_drawn T.k_l_drawn T.b_l_drawn .nil passE (pa_cons (pv 0) (pa_cons pe_int pa_nil))) pe_int))
 (pss_cons (ps_set (i := 4) sc_l_row.nd rfl (.inl rfl) (pe_lst pa_nil))
 (pss_cons (ps_for (passes_of rfl) rfl (pi_range1 (by rfl) T.m_range (pa_cons (pv 1) pa_nil)) (pg_name (i := 5) sc_l_row.nd rfl (.inl rfl)) (pss_cons (ps_set (i := 6) sc_l_row.nd rfl (.inl rfl) (pe_op op_mod (pe_call G_l_number (hr.mono (by decide)) (by rfl) T.g_l_number T.k_l_number T.b_l_number .nil passE (pa_cons (pv 0) (pa_cons (pe_op op_add pe_int (pv 5)) pa_nil))) pe_int))
 (pss_cut (ps_if (pt_cmpR op_eq (pv 2) pe_int (nomark _)) (pss_cons (ps_set (i := 6) sc_l_row.nd rfl (.inl rfl) (pe_op op_mod (pv 3) pe_int))
 pss_nil) pss_nil)
 (pss_cut (ps_if (pt_cmpR op_eq (pv 2) pe_int (nomark _)) (pss_cons (ps_set (i := 6) sc_l_row.nd rfl (.inl rfl) (pe_op op_mod (pe_op op_fdiv (pv 5) (pe_op op_add pe_int (pe_op op_mod (pv 3) pe_int))) pe_int))
 pss_nil) pss_nil)
 (pss_cons (ps_expr (pe_bm PySem.F.plainAttrs_list PySem.F.slot_list_append PySem.F.type_list_append mt_append (pv 4) (pa_cons (pe_ix ix_list (pe_lst (pa_cons pe_str (pa_cons pe_str pa_nil))) (pv 6) (fun _ _ => rfl)) pa_nil)))
 pss_nil)))))
 (pss_cons (ps_ret (pe_bm PySem.F.plainAttrs_str PySem.F.slot_str_join PySem.F.type_str_join mt_join pe_str (pa_cons (pv 4) pa_nil)))
 pss_nil)))))
theorem ok_l_size (T : Txt K mg c A0) : FnOk P w K mg base (L2.CX P w) 1 A0.f_l_size A0.d_l_size ["_law_cell"] (sp_l_size K c) := by
  refine T.F_l_size.okX sc_l_size (fun vs H Q E h => by first | (obtain ⟨_, rfl, _⟩ := h; rfl) | (obtain ⟨_, _, rfl, _⟩ := h; rfl) | (obtain ⟨_, _, _, rfl, _⟩ := h; rfl) | (obtain ⟨_, _, _, _, rfl, _⟩ := h; rfl) | (obtain ⟨_, _, _, _, _, rfl, _⟩ := h; rfl) | (obtain ⟨_, _, _, _, _, _, rfl, _⟩ := h; rfl)) (fun cdv A outer s H vs Q E hr h => ⟨t_l_size K c E, ?_, read_l_size T.sz vs H Q E h⟩)
  exact (pss_cons (ps_ret (pe_op op_add pe_int (pe_op op_mod (pe_op op_fdiv (pv 0) pe_int) (pe_ix ix_list (pe_lst (pa_cons pe_int (pa_cons pe_int (pa_cons pe_int (pa_cons pe_int (pa_cons pe_int (pa_cons pe_int (pa_cons pe_int (pa_cons pe_int pa_nil))))))))) (pe_op op_mod (pv 0) pe_int) (fun _ _ => rfl)))))
 pss_nil)
theorem ok_look_at (T : Txt K mg c A0) : FnOk P w K mg base (L2.CX P w) 1 A0.f_look_at A0.d_look_at ["row"] (sp_look_at K c) := by
  refine T.F_look_at.okX sc_look_at (fun vs H Q E h => by first | (obtain ⟨_, rfl, _⟩ := h; rfl) | (obtain ⟨_, _, rfl, _⟩ := h; rfl) | (obtain ⟨_, _, _, rfl, _⟩ := h; rfl) | (obtain ⟨_, _, _, _, rfl, _⟩ := h; rfl) | (obtain ⟨_, _, _, _, _, rfl, _⟩ := h; rfl) | (obtain ⟨_, _, _, _, _, _, rfl, _⟩ := h; rfl)) (fun cdv A outer s H vs Q E hr h => ⟨t_look_at K c E, ?_, read_look_at vs H Q E h⟩)
  exact (pss_cons (ps_for (passes_of rfl) rfl (pi_str (pv 0)) (pg_name (i := 1) sc_look_at.nd rfl (.inl rfl)) (pss_cons (ps_if (PW.pt (pw_and (pt_cmpR op_ne (pv 1) pe_str (nomark _)) (pw_and1 (pt_cmpR op_ne (pv 1) pe_str (nomark _))))) (pss_cons (ps_raise rfl (takes_of rfl rfl rfl rfl) (pmk_own PySem.F.excBase_ValueError T.x_NoLetters T.g_NoLetters T.k_NoLetters (raises_own T.bx_NoLetters T.ty_NoLetters) (by rfl)))
 pss_nil) pss_nil)
 pss_nil))
 pss_nil)
theorem ok_pile_of (T : Txt K mg c A0) : FnOk P w K mg base (L2.CX P w) 2 A0.f_pile_of A0.d_pile_of ["row"] (sp_pile_of K c) := by
  have G_look_at := ok_look_at (P := P) (w := w) (base := base) T
  refine T.F_pile_of.okX sc_pile_of (fun vs H Q E h => by first | (obtain ⟨_, rfl, _⟩ := h; rfl) | (obtain ⟨_, _, rfl, _⟩ := h; rfl) | (obtain ⟨_, _, _, rfl, _⟩ := h; rfl) | (obtain ⟨_, _, _, _, rfl, _⟩ := h; rfl) | (obtain ⟨_, _, _, _, _, rfl, _⟩ := h; rfl) | (obtain ⟨_, _, _, _, _, _, rfl, _⟩ := h; rfl)) (fun cdv A outer s H vs Q E hr h => ⟨t_pile_of K c E, ?_, read_pile_of vs H Q E h⟩)
  exact (pss_cons (ps_expr (pe_call G_look_at (hr.mono (by decide)) (by rfl) T.g_look_at T.k_look_at T.b_look_at .nil passE (pa_cons (pv 0) pa_nil)))
 (pss_cons (ps_set (i := 1) sc_pile_of.nd rfl (.inl rfl) (pe_lst (pa_cons pe_int pa_nil)))
 (pss_cons (ps_for (passes_of rfl) rfl (pi_enumS (by rfl) T.m_enumerate (pa_cons (pv 0) pa_nil)) (pg_tup rfl (pgs_cons (pg_name (i := 2) sc_pile_of.nd rfl (.inl rfl)) (pgs_cons (pg_name (i := 3) sc_pile_of.nd rfl (.inl rfl)) pgs_nil))) (pss_cons (ps_set (i := 4) sc_pile_of.nd rfl (.inl rfl) (pe_bm PySem.F.plainAttrs_list PySem.F.slot_list_index PySem.F.type_list_index mt_index (pv 1) (pa_cons (pv 2) pa_nil)))
 (pss_cut (ps_if (pt_cmpR op_eq (pe_cmpR op_eq (pv 3) pe_str (nomark _)) (pe_cmpR op_eq (pe_op op_mod (pv 2) pe_int) pe_int (nomark _)) (nomark _)) (pss_cons (ps_aug (i := 4) sc_pile_of.nd rfl (.inl rfl) pe_int ip_add)
 pss_nil) pss_nil)
 (pss_cons (ps_expr (pe_bm PySem.F.plainAttrs_list PySem.F.slot_list_insert PySem.F.type_list_insert mt_insert (pv 1) (pa_cons (pv 4) (pa_cons (pe_op op_add (pv 2) pe_int) pa_nil))))
 pss_nil))))
 (pss_cons (ps_ret (pv 1))
 pss_nil))))
theorem ok_law (T : Txt K mg c A0) : FnOk P w K mg base (L2.CX P w) 3 A0.f_law A0.d_law ["_law_script"] (sp_law K c) := by
  have G_l_drawn := ok_l_drawn (P := P) (w := w) (base := base) T
  have G_l_is_pile := ok_l_is_pile (P := P) (w := w) (base := base) T
  have G_l_none_cross := ok_l_none_cross (P := P) (w := w) (base := base) T
  have G_l_places := ok_l_places (P := P) (w := w) (base := base) T
  have G_l_row := ok_l_row (P := P) (w := w) (base := base) T
  have G_l_size := ok_l_size (P := P) (w := w) (base := base) T
  have G_pile_of := ok_pile_of (P := P) (w := w) (base := base) T
  refine T.F_law.okX sc_law (fun vs H Q E h => by first | (obtain ⟨_, rfl, _⟩ := h; rfl) | (obtain ⟨_, _, rfl, _⟩ := h; rfl) | (obtain ⟨_, _, _, rfl, _⟩ := h; rfl) | (obtain ⟨_, _, _, _, rfl, _⟩ := h; rfl) | (obtain ⟨_, _, _, _, _, rfl, _⟩ := h; rfl) | (obtain ⟨_, _, _, _, _, _, rfl, _⟩ := h; rfl)) (fun cdv A outer s H vs Q E hr h => ⟨t_law_k04 K c E, ?_, read_law_k04 (szok T.sz) vs H Q E h⟩)
  exact (pss_cons (ps_set (i := 1) sc_law.nd rfl (.inl rfl) (pe_call G_l_size (hr.mono (by decide)) (by rfl) T.g_l_size T.k_l_size T.b_l_size .nil passE (pa_cons (pe_call G_l_drawn (hr.mono (by decide)) (by rfl) T.g_l_drawn T.k_l_drawn T.b_l_drawn .nil passE (pa_cons (pv 0) (pa_cons pe_int pa_nil))) pa_nil)))
 (pss_cons (ps_set (i := 2) sc_law.nd rfl (.inl rfl) (pe_call G_l_row (hr.mono (by decide)) (by rfl) T.g_l_row T.k_l_row T.b_l_row .nil passE (pa_cons (pv 0) (pa_cons (pe_op op_sub (pv 1) pe_int) pa_nil))))
 (pss_cons (ps_set (i := 3) sc_law.nd rfl (.inl rfl) (pe_call G_pile_of (hr.mono (by decide)) (by rfl) T.g_pile_of T.k_pile_of T.b_pile_of .nil passE (pa_cons (pv 2) pa_nil)))
 (pss_cons (ps_if (pt_not (pt_val (pe_call G_l_is_pile (hr.mono (by decide)) (by rfl) T.g_l_is_pile T.k_l_is_pile T.b_l_is_pile .nil passE (pa_cons (pv 3) (pa_cons (pv 1) pa_nil))))) (pss_cons (ps_ret pe_bl)
 pss_nil) pss_nil)
 (pss_cons (ps_set (i := 4) sc_law.nd rfl (.inl rfl) (pe_call G_l_places (hr.mono (by decide)) (by rfl) T.g_l_places T.k_l_places T.b_l_places .nil passE (pa_cons (pv 3) pa_nil)))
 (pss_cons (ps_for (passes_of rfl) rfl (pi_range1 (by rfl) T.m_range (pa_cons (pe_op op_sub (pv 1) pe_int) pa_nil)) (pg_name (i := 5) sc_law.nd rfl (.inl rfl)) (pss_cons (ps_set (i := 6) sc_law.nd rfl (.inl rfl) (pe_cmpR op_eq (pe_cmpR op_gt (pe_ix ix_list (pv 4) (pe_op op_add (pv 5) pe_int) (fun _ _ => rfl)) (pe_ix ix_list (pv 4) (pv 5) (fun _ _ => rfl)) (nomark _)) (pe_cmpR op_eq (pe_op op_mod (pv 5) pe_int) pe_int (nomark _)) (nomark _)))
 (pss_cons (ps_if (pt_cmpR op_ne (pv 6) (pe_cmpR op_eq (pe_ix ix_str (pv 2) (pv 5) (fun _ _ => rfl)) pe_str (nomark _)) (nomark _)) (pss_cons (ps_ret pe_bl)
 pss_nil) pss_nil)
 pss_nil)))
 (pss_cons (ps_ret (pe_call G_l_none_cross (hr.mono (by decide)) (by rfl) T.g_l_none_cross T.k_l_none_cross T.b_l_none_cross .nil passE (pa_cons (pv 4) pa_nil)))
 pss_nil)))))))
end
theorem all_mk {l : PySem.W.OpenLaw} {w : World} {K : PySem.W.Frag} {h : Heap} {mg : Str → Option Value} {fa : Addr} (X : K.In h) (G : h.Ns mainGlobals mg) (hfa : mg "law" = some (.ref fa))
    {f0 : Addr} {od0 an0 : Option Addr} {sl0 : Array (Option Value)} {oc0 kV0 dc0 pm0 cd0 ct0 : Value}
    (a0 : PySem.W.nsIn K mainGlobals "_law_drawn" = some (some (.ref f0))) (l0 : K.lookup f0 = some ⟨oc0, od0, .func (PySem.W.fnOf "_law_drawn" "_law_drawn" (defArgs s_l_drawn) (defBody s_l_drawn) (defScope s_l_drawn) .none kV0 dc0 pm0 an0 cd0 ct0), sl0⟩) (c0 : PySem.W.codeIn K cd0 "_law_drawn" = true) (k0 : PySem.W.keepIn K (.ref f0) = true)
    {f1 : Addr} {od1 an1 : Option Addr} {sl1 : Array (Option Value)} {oc1 kV1 dc1 pm1 cd1 ct1 : Value}
    (a1 : PySem.W.nsIn K mainGlobals "_law_counts" = some (some (.ref f1))) (l1 : K.lookup f1 = some ⟨oc1, od1, .func (PySem.W.fnOf "_law_counts" "_law_counts" (defArgs s_l_counts) (defBody s_l_counts) (defScope s_l_counts) .none kV1 dc1 pm1 an1 cd1 ct1), sl1⟩) (c1 : PySem.W.codeIn K cd1 "_law_counts" = true) (k1 : PySem.W.keepIn K (.ref f1) = true)
    {f2 : Addr} {od2 an2 : Option Addr} {sl2 : Array (Option Value)} {oc2 kV2 dc2 pm2 cd2 ct2 : Value}
    (a2 : PySem.W.nsIn K mainGlobals "_law_is_pile" = some (some (.ref f2))) (l2 : K.lookup f2 = some ⟨oc2, od2, .func (PySem.W.fnOf "_law_is_pile" "_law_is_pile" (defArgs s_l_is_pile) (defBody s_l_is_pile) (defScope s_l_is_pile) .none kV2 dc2 pm2 an2 cd2 ct2), sl2⟩) (c2 : PySem.W.codeIn K cd2 "_law_is_pile" = true) (k2 : PySem.W.keepIn K (.ref f2) = true)
    {f3 : Addr} {od3 an3 : Option Addr} {sl3 : Array (Option Value)} {oc3 kV3 dc3 pm3 cd3 ct3 : Value}
    (a3 : PySem.W.nsIn K mainGlobals "_law_wraps" = some (some (.ref f3))) (l3 : K.lookup f3 = some ⟨oc3, od3, .func (PySem.W.fnOf "_law_wraps" "_law_wraps" (defArgs s_l_wraps) (defBody s_l_wraps) (defScope s_l_wraps) .none kV3 dc3 pm3 an3 cd3 ct3), sl3⟩) (c3 : PySem.W.codeIn K cd3 "_law_wraps" = true) (k3 : PySem.W.keepIn K (.ref f3) = true)
    {f4 : Addr} {od4 an4 : Option Addr} {sl4 : Array (Option Value)} {oc4 kV4 dc4 pm4 cd4 ct4 : Value}
    (a4 : PySem.W.nsIn K mainGlobals "_law_none_cross" = some (some (.ref f4))) (l4 : K.lookup f4 = some ⟨oc4, od4, .func (PySem.W.fnOf "_law_none_cross" "_law_none_cross" (defArgs s_l_none_cross) (defBody s_l_none_cross) (defScope s_l_none_cross) .none kV4 dc4 pm4 an4 cd4 ct4), sl4⟩) (c4 : PySem.W.codeIn K cd4 "_law_none_cross" = true) (k4 : PySem.W.keepIn K (.ref f4) = true)
    {f5 : Addr} {od5 an5 : Option Addr} {sl5 : Array (Option Value)} {oc5 kV5 dc5 pm5 cd5 ct5 : Value}
    (a5 : PySem.W.nsIn K mainGlobals "_law_places" = some (some (.ref f5))) (l5 : K.lookup f5 = some ⟨oc5, od5, .func (PySem.W.fnOf "_law_places" "_law_places" (defArgs s_l_places) (defBody s_l_places) (defScope s_l_places) .none kV5 dc5 pm5 an5 cd5 ct5), sl5⟩) (c5 : PySem.W.codeIn K cd5 "_law_places" = true) (k5 : PySem.W.keepIn K (.ref f5) = true)
    {f6 : Addr} {od6 an6 : Option Addr} {sl6 : Array (Option Value)} {oc6 kV6 dc6 pm6 cd6 ct6 : Value}
    (a6 : PySem.W.nsIn K mainGlobals "_law_number" = some (some (.ref f6))) (l6 : K.lookup f6 = some ⟨oc6, od6, .func (PySem.W.fnOf "_law_number" "_law_number" (defArgs s_l_number) (defBody s_l_number) (defScope s_l_number) .none kV6 dc6 pm6 an6 cd6 ct6), sl6⟩) (c6 : PySem.W.codeIn K cd6 "_law_number" = true) (k6 : PySem.W.keepIn K (.ref f6) = true)
    {f7 : Addr} {od7 an7 : Option Addr} {sl7 : Array (Option Value)} {oc7 kV7 dc7 pm7 cd7 ct7 : Value}
    (a7 : PySem.W.nsIn K mainGlobals "_law_row" = some (some (.ref f7))) (l7 : K.lookup f7 = some ⟨oc7, od7, .func (PySem.W.fnOf "_law_row" "_law_row" (defArgs s_l_row) (defBody s_l_row) (defScope s_l_row) .none kV7 dc7 pm7 an7 cd7 ct7), sl7⟩) (c7 : PySem.W.codeIn K cd7 "_law_row" = true) (k7 : PySem.W.keepIn K (.ref f7) = true)
    {f8 : Addr} {od8 an8 : Option Addr} {sl8 : Array (Option Value)} {oc8 kV8 dc8 pm8 cd8 ct8 : Value}
    (a8 : PySem.W.nsIn K mainGlobals "_law_size" = some (some (.ref f8))) (l8 : K.lookup f8 = some ⟨oc8, od8, .func (PySem.W.fnOf "_law_size" "_law_size" (defArgs s_l_size) (defBody s_l_size) (defScope s_l_size) .none kV8 dc8 pm8 an8 cd8 ct8), sl8⟩) (c8 : PySem.W.codeIn K cd8 "_law_size" = true) (k8 : PySem.W.keepIn K (.ref f8) = true)
    {f9 : Addr} {od9 an9 : Option Addr} {sl9 : Array (Option Value)} {oc9 kV9 dc9 pm9 cd9 ct9 : Value}
    (a9 : PySem.W.nsIn K mainGlobals "look_at" = some (some (.ref f9))) (l9 : K.lookup f9 = some ⟨oc9, od9, .func (PySem.W.fnOf "look_at" "look_at" (defArgs s_look_at) (defBody s_look_at) (defScope s_look_at) .none kV9 dc9 pm9 an9 cd9 ct9), sl9⟩) (c9 : PySem.W.codeIn K cd9 "look_at" = true) (k9 : PySem.W.keepIn K (.ref f9) = true)
    {f10 : Addr} {od10 an10 : Option Addr} {sl10 : Array (Option Value)} {oc10 kV10 dc10 pm10 cd10 ct10 : Value}
    (a10 : PySem.W.nsIn K mainGlobals "pile_of" = some (some (.ref f10))) (l10 : K.lookup f10 = some ⟨oc10, od10, .func (PySem.W.fnOf "pile_of" "pile_of" (defArgs s_pile_of) (defBody s_pile_of) (defScope s_pile_of) .none kV10 dc10 pm10 an10 cd10 ct10), sl10⟩) (c10 : PySem.W.codeIn K cd10 "pile_of" = true) (k10 : PySem.W.keepIn K (.ref f10) = true)
    {f11 : Addr} {od11 an11 : Option Addr} {sl11 : Array (Option Value)} {oc11 kV11 dc11 pm11 cd11 ct11 : Value}
    (a11 : PySem.W.nsIn K mainGlobals "law" = some (some (.ref f11))) (l11 : K.lookup f11 = some ⟨oc11, od11, .func (PySem.W.fnOf "law" "law" (defArgs s_law) (defBody s_law) (defScope s_law) .none kV11 dc11 pm11 an11 cd11 ct11), sl11⟩) (c11 : PySem.W.codeIn K cd11 "law" = true) (k11 : PySem.W.keepIn K (.ref f11) = true)
    (z_enumerate : PySem.W.nsIn K mainGlobals "enumerate" = some none)
    (z_int : PySem.W.nsIn K mainGlobals "int" = some none)
    (z_isinstance : PySem.W.nsIn K mainGlobals "isinstance" = some none)
    (z_len : PySem.W.nsIn K mainGlobals "len" = some none)
    (z_list : PySem.W.nsIn K mainGlobals "list" = some none)
    (z_max : PySem.W.nsIn K mainGlobals "max" = some none)
    (z_min : PySem.W.nsIn K mainGlobals "min" = some none)
    (z_range : PySem.W.nsIn K mainGlobals "range" = some none)
    {C_NoLetters : Addr} (e_NoLetters : PySem.W.nsIn K mainGlobals "NoLetters" = some (some (.ref C_NoLetters))) (x_NoLetters : PySem.W.excIn K C_NoLetters [.type "ValueError", .type "Exception", .type "BaseException", .type "object"] "ValueError.__new__" = true) (kx_NoLetters : PySem.W.keepIn K (.ref C_NoLetters) = true) (bx_NoLetters : PySem.W.subIn K (.ref C_NoLetters) (.type "BaseException") = some true) (ty_NoLetters : PySem.W.typeIn K (.ref C_NoLetters) = some (.type "type"))
    : ∃ fd : FuncData, (∀ (s : Shared) (v : Value), BindsTo s fd ⟨[v], []⟩ [("_law_script", v)]) ∧ ∀ base : Heap, K.In base → base.Ns mainGlobals mg → FnOk l.prog w K mg base (L2.CX l.prog w) 3 fa fd ["_law_script"] (spLaw K) := by
  have e := hfa.symm.trans (PySem.W.mg_of X G a11)
  cases e
  let c : Cs := { np := 0, nc := 0, nl := C_NoLetters, nn := 0, st := 0, cr := 0, se := 0, sz := [6, 9, 17, 9, 17, 12, 30, 100] }
  let A : Ad := { f_l_drawn := f0, d_l_drawn := PySem.W.fnOf "_law_drawn" "_law_drawn" (defArgs s_l_drawn) (defBody s_l_drawn) (defScope s_l_drawn) .none kV0 dc0 pm0 an0 cd0 ct0, f_l_counts := f1, d_l_counts := PySem.W.fnOf "_law_counts" "_law_counts" (defArgs s_l_counts) (defBody s_l_counts) (defScope s_l_counts) .none kV1 dc1 pm1 an1 cd1 ct1, f_l_is_pile := f2, d_l_is_pile := PySem.W.fnOf "_law_is_pile" "_law_is_pile" (defArgs s_l_is_pile) (defBody s_l_is_pile) (defScope s_l_is_pile) .none kV2 dc2 pm2 an2 cd2 ct2, f_l_wraps := f3, d_l_wraps := PySem.W.fnOf "_law_wraps" "_law_wraps" (defArgs s_l_wraps) (defBody s_l_wraps) (defScope s_l_wraps) .none kV3 dc3 pm3 an3 cd3 ct3, f_l_none_cross := f4, d_l_none_cross := PySem.W.fnOf "_law_none_cross" "_law_none_cross" (defArgs s_l_none_cross) (defBody s_l_none_cross) (defScope s_l_none_cross) .none kV4 dc4 pm4 an4 cd4 ct4, f_l_places := f5, d_l_places := PySem.W.fnOf "_law_places" "_law_places" (defArgs s_l_places) (defBody s_l_places) (defScope s_l_places) .none kV5 dc5 pm5 an5 cd5 ct5, f_l_number := f6, d_l_number := PySem.W.fnOf "_law_number" "_law_number" (defArgs s_l_number) (defBody s_l_number) (defScope s_l_number) .none kV6 dc6 pm6 an6 cd6 ct6, f_l_row := f7, d_l_row := PySem.W.fnOf "_law_row" "_law_row" (defArgs s_l_row) (defBody s_l_row) (defScope s_l_row) .none kV7 dc7 pm7 an7 cd7 ct7, f_l_size := f8, d_l_size := PySem.W.fnOf "_law_size" "_law_size" (defArgs s_l_size) (defBody s_l_size) (defScope s_l_size) .none kV8 dc8 pm8 an8 cd8 ct8, f_look_at := f9, d_look_at := PySem.W.fnOf "look_at" "look_at" (defArgs s_look_at) (defBody s_look_at) (defScope s_look_at) .none kV9 dc9 pm9 an9 cd9 ct9, f_pile_of := f10, d_pile_of := PySem.W.fnOf "pile_of" "pile_of" (defArgs s_pile_of) (defBody s_pile_of) (defScope s_pile_of) .none kV10 dc10 pm10 an10 cd10 ct10, f_law := fa, d_law := PySem.W.fnOf "law" "law" (defArgs s_law) (defBody s_law) (defScope s_law) .none kV11 dc11 pm11 an11 cd11 ct11 }
  have T : Txt K mg c A := {
    sz := rfl
    F_l_drawn := fun_mk (st := s_l_drawn) l0 c0 k0
    g_l_drawn := PySem.W.mg_of X G a0
    k_l_drawn := k0
    b_l_drawn := (fun_mk (st := s_l_drawn) l0 c0 k0).binds fun _ _ _ _ _ _ us hl => match us, hl with | [_, _], _ => rfl
    F_l_counts := fun_mk (st := s_l_counts) l1 c1 k1
    g_l_counts := PySem.W.mg_of X G a1
    k_l_counts := k1
    b_l_counts := (fun_mk (st := s_l_counts) l1 c1 k1).binds fun _ _ _ _ _ _ us hl => match us, hl with | [_], _ => rfl
    F_l_is_pile := fun_mk (st := s_l_is_pile) l2 c2 k2
    g_l_is_pile := PySem.W.mg_of X G a2
    k_l_is_pile := k2
    b_l_is_pile := (fun_mk (st := s_l_is_pile) l2 c2 k2).binds fun _ _ _ _ _ _ us hl => match us, hl with | [_, _], _ => rfl
    F_l_wraps := fun_mk (st := s_l_wraps) l3 c3 k3
    g_l_wraps := PySem.W.mg_of X G a3
    k_l_wraps := k3
    b_l_wraps := (fun_mk (st := s_l_wraps) l3 c3 k3).binds fun _ _ _ _ _ _ us hl => match us, hl with | [_, _, _], _ => rfl
    F_l_none_cross := fun_mk (st := s_l_none_cross) l4 c4 k4
    g_l_none_cross := PySem.W.mg_of X G a4
    k_l_none_cross := k4
    b_l_none_cross := (fun_mk (st := s_l_none_cross) l4 c4 k4).binds fun _ _ _ _ _ _ us hl => match us, hl with | [_], _ => rfl
    F_l_places := fun_mk (st := s_l_places) l5 c5 k5
    g_l_places := PySem.W.mg_of X G a5
    k_l_places := k5
    b_l_places := (fun_mk (st := s_l_places) l5 c5 k5).binds fun _ _ _ _ _ _ us hl => match us, hl with | [_], _ => rfl
    F_l_number := fun_mk (st := s_l_number) l6 c6 k6
    g_l_number := PySem.W.mg_of X G a6
    k_l_number := k6
    b_l_number := (fun_mk (st := s_l_number) l6 c6 k6).binds fun _ _ _ _ _ _ us hl => match us, hl with | [_, _], _ => rfl
    F_l_row := fun_mk (st := s_l_row) l7 c7 k7
    g_l_row := PySem.W.mg_of X G a7
    k_l_row := k7
    b_l_row := (fun_mk (st := s_l_row) l7 c7 k7).binds fun _ _ _ _ _ _ us hl => match us, hl with | [_, _], _ => rfl
    F_l_size := fun_mk (st := s_l_size) l8 c8 k8
    g_l_size := PySem.W.mg_of X G a8
    k_l_size := k8
    b_l_size := (fun_mk (st := s_l_size) l8 c8 k8).binds fun _ _ _ _ _ _ us hl => match us, hl with | [_], _ => rfl
    F_look_at := fun_mk (st := s_look_at) l9 c9 k9
    g_look_at := PySem.W.mg_of X G a9
    k_look_at := k9
    b_look_at := (fun_mk (st := s_look_at) l9 c9 k9).binds fun _ _ _ _ _ _ us hl => match us, hl with | [_], _ => rfl
    F_pile_of := fun_mk (st := s_pile_of) l10 c10 k10
    g_pile_of := PySem.W.mg_of X G a10
    k_pile_of := k10
    b_pile_of := (fun_mk (st := s_pile_of) l10 c10 k10).binds fun _ _ _ _ _ _ us hl => match us, hl with | [_], _ => rfl
    F_law := fun_mk (st := s_law) l11 c11 k11
    m_enumerate := PySem.W.mg_none_of X G z_enumerate
    m_int := PySem.W.mg_none_of X G z_int
    m_isinstance := PySem.W.mg_none_of X G z_isinstance
    m_len := PySem.W.mg_none_of X G z_len
    m_list := PySem.W.mg_none_of X G z_list
    m_max := PySem.W.mg_none_of X G z_max
    m_min := PySem.W.mg_none_of X G z_min
    m_range := PySem.W.mg_none_of X G z_range
    x_NoLetters := x_NoLetters
    g_NoLetters := PySem.W.mg_of X G e_NoLetters
    k_NoLetters := kx_NoLetters
    bx_NoLetters := bx_NoLetters
    ty_NoLetters := ty_NoLetters
  }
  exact ⟨_, fun s v => .of_eq rfl, fun base _ _ => ok_law T⟩
end Fo
open PySem PySem.W PyProof.Rows
set_option maxHeartbeats 0 in
theorem PySem.Challenge.cw_stripfold_k04_pile_of_letters_holds : PySem.Challenge.rw_stripfold_k04_pile_of_letters.Holds := by
  w_on; o_law; k_head; (case hw => w_witness2)
  k_fill
  refine L2.walk_of (l := PySem.Challenge.rw_stripfold_k04_pile_of_letters) (n := 63) (k := 3) (x := "_law_script") (CX := fun w => L2.CX (PySem.Challenge.rw_stripfold_k04_pile_of_letters).prog w) (sp := fun w => Fo.spLaw _) rfl (by decide) rfl ⟨rfl, by decide, by decide⟩ (fun w h Y => PySem.W.kIn_of Y) ?F (fun _ _ a ns hl _ hS => ⟨a, ns, rfl, hS, hl, fun _ => rfl⟩) (fun _ _ _ _ _ h => Fo.cx_no h)
  case F =>
    intro w mg fa h KX G hmg
    refine' Fo.all_mk KX G hmg ?a0 ?l0 ?c0 ?k0 ?a1 ?l1 ?c1 ?k1 ?a2 ?l2 ?c2 ?k2 ?a3 ?l3 ?c3 ?k3 ?a4 ?l4 ?c4 ?k4 ?a5 ?l5 ?c5 ?k5 ?a6 ?l6 ?c6 ?k6 ?a7 ?l7 ?c7 ?k7 ?a8 ?l8 ?c8 ?k8 ?a9 ?l9 ?c9 ?k9 ?a10 ?l10 ?c10 ?k10 ?a11 ?l11 ?c11 ?k11 ?z_enumerate ?z_int ?z_isinstance ?z_len ?z_list ?z_max ?z_min ?z_range ?e_NoLetters ?x_NoLetters ?kx_NoLetters ?bx_NoLetters ?ty_NoLetters
    (case a0 => k_is)
    (case l0 => k_is)
    (case c0 => k_is)
    (case k0 => k_is)
    (case a1 => k_is)
    (case l1 => k_is)
    (case c1 => k_is)
    (case k1 => k_is)
    (case a2 => k_is)
    (case l2 => k_is)
    (case c2 => k_is)
    (case k2 => k_is)
    (case a3 => k_is)
    (case l3 => k_is)
    (case c3 => k_is)
    (case k3 => k_is)
    (case a4 => k_is)
    (case l4 => k_is)
    (case c4 => k_is)
    (case k4 => k_is)
    (case a5 => k_is)
    (case l5 => k_is)
    (case c5 => k_is)
    (case k5 => k_is)
    (case a6 => k_is)
    (case l6 => k_is)
    (case c6 => k_is)
    (case k6 => k_is)
    (case a7 => k_is)
    (case l7 => k_is)
    (case c7 => k_is)
    (case k7 => k_is)
    (case a8 => k_is)
    (case l8 => k_is)
    (case c8 => k_is)
    (case k8 => k_is)
    (case a9 => k_is)
    (case l9 => k_is)
    (case c9 => k_is)
    (case k9 => k_is)
    (case a10 => k_is)
    (case l10 => k_is)
    (case c10 => k_is)
    (case k10 => k_is)
    (case a11 => k_is)
    (case l11 => k_is)
    (case c11 => k_is)
    (case k11 => k_is)
    (case z_enumerate => k_is)
    (case z_int => k_is)
    (case z_isinstance => k_is)
    (case z_len => k_is)
    (case z_list => k_is)
    (case z_max => k_is)
    (case z_min => k_is)
    (case z_range => k_is)
    (case e_NoLetters => k_is)
    (case x_NoLetters => k_exc)
    (case kx_NoLetters => k_is)
    (case bx_NoLetters => k_is)
    (case ty_NoLetters => k_is)
