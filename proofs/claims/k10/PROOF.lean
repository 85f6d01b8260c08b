import PyProof.Rows.All
import Wide.All
import OpenK.AllK
import Wide.FinOn
import KE.KStateDown
import HandS.ForMost
import HandS.Defaults
import HandS.Head0
import HandS.Head1
import HandS.Head2
import HandS.HeadEnd
import HandS.HeadHook1
import HandS.HeadHook2
import HandS.Steps
import HandS.Codes
import HandS.IsInst
import HandS.Walk
import PySem.Challenge.RW_corehouse_k10_whole_machine_runs
set_option Elab.async false
set_option linter.all false
set_option maxRecDepth 100000
set_option maxHeartbeats 4000000
namespace Ch
open PySem PySem.Spec PyProof.Rows L2
def top (i : Nat) : Stmt := PySem.Challenge.pw_corehouse_k10_whole_machine_runs.main.body.getD i (.Pass ⟨0, 0, 0, 0⟩)
abbrev s_parts : Stmt := top 1
abbrev s_skip : Stmt := top 4
abbrev s_added : Stmt := top 5
abbrev s_aim : Stmt := top 6
abbrev s_moved : Stmt := top 7
abbrev s_rolled : Stmt := top 8
abbrev s_changed : Stmt := top 9
abbrev s_tested : Stmt := top 10
abbrev s_deed : Stmt := top 11
abbrev s_law_cell : Stmt := top 13
abbrev s_law_mix : Stmt := top 14
abbrev s_law_fill : Stmt := top 15
abbrev s_law_more : Stmt := top 16
abbrev s_law_aim : Stmt := top 17
abbrev s_law_past : Stmt := top 18
abbrev s_law_move : Stmt := top 19
abbrev s_law_change : Stmt := top 20
abbrev s_law_test : Stmt := top 21
abbrev s_law_deed : Stmt := top 22
abbrev s_law_new : Stmt := top 23
abbrev s_law_cells : Stmt := top 24
abbrev s_law : Stmt := top 25
abbrev s_Machine___init__ : Stmt := inClass (top 3) 0
namespace Hd
def d_parts : He.DefD := ⟨("parts", none), "parts", "parts", defArgs s_parts, defBody s_parts, defScope s_parts, [], []⟩
def d_skip : He.DefD := ⟨("skip", none), "skip", "skip", defArgs s_skip, defBody s_skip, defScope s_skip, [], []⟩
def d_added : He.DefD := ⟨("added", none), "added", "added", defArgs s_added, defBody s_added, defScope s_added, [], []⟩
def d_aim : He.DefD := ⟨("aim", none), "aim", "aim", defArgs s_aim, defBody s_aim, defScope s_aim, [], []⟩
def d_moved : He.DefD := ⟨("moved", none), "moved", "moved", defArgs s_moved, defBody s_moved, defScope s_moved, [], []⟩
def d_rolled : He.DefD := ⟨("rolled", none), "rolled", "rolled", defArgs s_rolled, defBody s_rolled, defScope s_rolled, [], []⟩
def d_changed : He.DefD := ⟨("changed", none), "changed", "changed", defArgs s_changed, defBody s_changed, defScope s_changed, [], []⟩
def d_tested : He.DefD := ⟨("tested", none), "tested", "tested", defArgs s_tested, defBody s_tested, defScope s_tested, [], []⟩
def d_deed : He.DefD := ⟨("deed", none), "deed", "deed", defArgs s_deed, defBody s_deed, defScope s_deed, [], []⟩
def d_law_cell : He.DefD := ⟨("_law_cell", none), "_law_cell", "_law_cell", defArgs s_law_cell, defBody s_law_cell, defScope s_law_cell, [], []⟩
def d_law_mix : He.DefD := ⟨("_law_mix", none), "_law_mix", "_law_mix", defArgs s_law_mix, defBody s_law_mix, defScope s_law_mix, [], []⟩
def d_law_fill : He.DefD := ⟨("_law_fill", none), "_law_fill", "_law_fill", defArgs s_law_fill, defBody s_law_fill, defScope s_law_fill, [], []⟩
def d_law_more : He.DefD := ⟨("_law_more", none), "_law_more", "_law_more", defArgs s_law_more, defBody s_law_more, defScope s_law_more, [], []⟩
def d_law_aim : He.DefD := ⟨("_law_aim", none), "_law_aim", "_law_aim", defArgs s_law_aim, defBody s_law_aim, defScope s_law_aim, [], []⟩
def d_law_past : He.DefD := ⟨("_law_past", none), "_law_past", "_law_past", defArgs s_law_past, defBody s_law_past, defScope s_law_past, [], []⟩
def d_law_move : He.DefD := ⟨("_law_move", none), "_law_move", "_law_move", defArgs s_law_move, defBody s_law_move, defScope s_law_move, [], []⟩
def d_law_change : He.DefD := ⟨("_law_change", none), "_law_change", "_law_change", defArgs s_law_change, defBody s_law_change, defScope s_law_change, [], []⟩
def d_law_test : He.DefD := ⟨("_law_test", none), "_law_test", "_law_test", defArgs s_law_test, defBody s_law_test, defScope s_law_test, [], []⟩
def d_law_deed : He.DefD := ⟨("_law_deed", none), "_law_deed", "_law_deed", defArgs s_law_deed, defBody s_law_deed, defScope s_law_deed, [], []⟩
def d_law_new : He.DefD := ⟨("_law_new", none), "_law_new", "_law_new", defArgs s_law_new, defBody s_law_new, defScope s_law_new, [], []⟩
def d_law_cells : He.DefD := ⟨("_law_cells", none), "_law_cells", "_law_cells", defArgs s_law_cells, defBody s_law_cells, defScope s_law_cells, [], []⟩
def d_law : He.DefD := ⟨("law", none), "law", "law", defArgs s_law, defBody s_law, defScope s_law, [], []⟩
def d_Machine___init__ : He.DefD := ⟨("Machine", some "__init__"), "__init__", "Machine.__init__", defArgs s_Machine___init__, defBody s_Machine___init__, defScope s_Machine___init__, [], []⟩
def fn : List He.DefD := [d_parts, d_skip, d_added, d_aim, d_moved, d_rolled, d_changed, d_tested, d_deed, d_law_cell, d_law_mix, d_law_fill, d_law_more, d_law_aim, d_law_past, d_law_move, d_law_change, d_law_test, d_law_deed, d_law_new, d_law_cells, d_law, d_Machine___init__]
def fa : List He.Fa := [.glo "parts", .glo "skip", .glo "added", .glo "aim", .glo "moved", .glo "rolled", .glo "changed", .glo "tested", .glo "deed", .glo "_law_cell", .glo "_law_mix", .glo "_law_fill", .glo "_law_more", .glo "_law_aim", .glo "_law_past", .glo "_law_move", .glo "_law_change", .glo "_law_test", .glo "_law_deed", .glo "_law_new", .glo "_law_cells", .glo "law", .free "len", .free "list", .free "range", .free "enumerate", .free "sum", .glo "Machine", .cls "Machine", .mkr "Machine", .noat "Machine" "cells", .noat "Machine" "total", .noat "Machine" "mark", .noat "Machine" "at"]
abbrev R : PySem.W.OpenRow := PySem.W.OpenLaw.row PySem.Challenge.rw_corehouse_k10_whole_machine_runs
abbrev hk : PySem.W.Hook := He.hookD 4 fa fn
def ob (s : PySem.W.SharedT) : He.AlD := He.obsDG 4 fa fn (HandSHeadRun.getT s)
theorem ob_eq (s : PySem.W.SharedT) : ob s = hk.obs s.abs := He.obsDG_eq (HandSHeadRun.getT_eq s)
def loose0 : List PySem.Str := ["parts", "Machine", "skip", "added", "aim", "moved", "rolled", "changed", "tested", "deed", "_law_cell", "_law_mix", "_law_fill", "_law_more", "_law_aim", "_law_past", "_law_move", "_law_change", "_law_test", "_law_deed", "_law_new", "_law_cells"]
def loose : List PySem.Str := loose0
theorem run (w : World) : HandSHeadRun.RunEq R (PySem.W.view R.prog [25]) hk ob 6000 loose w := by
  intro os
  kernel_rfl
end Hd
/-! ### Prelude: what a reading evaluates to (over HandS) -/
section prelude
variable {σ : L2.St} {H H' : Hp} {i j : Int} {n : Nat} {v x y z : V} {ta tb tc te tv : TE} {b c : Bool} {K : PySem.W.Frag} {a : Addr} {t u w : TT} {N : L2.St → Hp → Prop} {R : VK} {B C' : L2.St → Hp → Prop} {tz t1 t2 : TS} {tl : TA}
/-- an argument list evaluates to vs, the heap as it is -/
def ValA (t : TA) (σ : L2.St) (H : Hp) (vs : List V) : Prop := ∀ Q : List V → Hp → Prop, Q vs H → t σ H Q
theorem va_nil : ValA tNil σ H [] := fun _ q => q
theorem va_cons {vs : List V} (h : Val ta σ H x) (hr : ValA tl σ H vs) : ValA (tCons ta tl) σ H (x :: vs) := fun Q q => h _ (hr _ q)
theorem v_eqv (h : Val te σ H x) (e : x = y) : Val te σ H y := e ▸ h
theorem v_var {k : Nat} (h : σ[k]? = some (some v)) : Val (tVar k) σ H v := val_var h
theorem v_c : Val (tC v) σ H v := val_c
theorem v_add (ha : Val ta σ H (.int i)) (hb : Val tb σ H (.int j)) : Val (tOp (rI0 fun i j => .int (i + j)) ta tb) σ H (.int (i + j)) := val_op ha hb fun _ q => ⟨_, _, rfl, rfl, q⟩
theorem v_sub (ha : Val ta σ H (.int i)) (hb : Val tb σ H (.int j)) : Val (tOp (rI0 fun i j => .int (i - j)) ta tb) σ H (.int (i - j)) := val_op ha hb fun _ q => ⟨_, _, rfl, rfl, q⟩
theorem v_band (ha : Val ta σ H (.int i)) (hb : Val tb σ H (.int j)) : Val (tOp (rI0 fun i j => .int (Builtin.bitAnd i j)) ta tb) σ H (.int (Builtin.bitAnd i j)) := val_op ha hb fun _ q => ⟨_, _, rfl, rfl, q⟩
theorem v_mul (ha : Val ta σ H (.int i)) (hb : Val tb σ H (.int j)) (hc : CMul i j) : Val (tOp (rI CMul fun i j => .int (i * j)) ta tb) σ H (.int (i * j)) := val_op ha hb fun _ q => ⟨_, _, rfl, rfl, hc, q⟩
theorem v_mod (ha : Val ta σ H (.int i)) (hb : Val tb σ H (.int j)) (hc : 0 < j) : Val (tOp (rI (fun _ j => 0 < j) fun i j => .int (i % j)) ta tb) σ H (.int (i % j)) := val_op ha hb fun _ q => ⟨_, _, rfl, rfl, hc, q⟩
theorem v_fdiv (ha : Val ta σ H (.int i)) (hb : Val tb σ H (.int j)) (hc : CDiv i j) : Val (tOp (rI CDiv fun i j => .int (i / j)) ta tb) σ H (.int (i / j)) := val_op ha hb fun _ q => ⟨_, _, rfl, rfl, hc, q⟩
theorem v_neg (ha : Val ta σ H (.int i)) : Val (tUn (rU fun i => .int (-i)) ta) σ H (.int (-i)) := fun _ q => ha _ ⟨_, rfl, q⟩
theorem v_lt (ha : Val ta σ H (.int i)) (hb : Val tb σ H (.int j)) : Val (tOp (rI0 fun i j => .bl (decide (i < j))) ta tb) σ H (.bl (decide (i < j))) := val_op ha hb fun _ q => ⟨_, _, rfl, rfl, q⟩
theorem v_le (ha : Val ta σ H (.int i)) (hb : Val tb σ H (.int j)) : Val (tOp (rI0 fun i j => .bl (decide (i ≤ j))) ta tb) σ H (.bl (decide (i ≤ j))) := val_op ha hb fun _ q => ⟨_, _, rfl, rfl, q⟩
theorem v_gt (ha : Val ta σ H (.int i)) (hb : Val tb σ H (.int j)) : Val (tOp (rI0 fun i j => .bl (decide (j < i))) ta tb) σ H (.bl (decide (j < i))) := val_op ha hb fun _ q => ⟨_, _, rfl, rfl, q⟩
theorem v_ge (ha : Val ta σ H (.int i)) (hb : Val tb σ H (.int j)) : Val (tOp (rI0 fun i j => .bl (decide (j ≤ i))) ta tb) σ H (.bl (decide (j ≤ i))) := val_op ha hb fun _ q => ⟨_, _, rfl, rfl, q⟩
theorem dec_vint : decide (V.int i = V.int j) = decide (i = j) := by
  by_cases h : i = j
  · subst h; simp
  · have : ¬ V.int i = V.int j := fun e => h (V.int.inj e)
    simp [h]
theorem dec_vstr {p q : Str} : decide (V.str p = V.str q) = decide (p = q) := by
  by_cases h : p = q
  · subst h; simp
  · have : ¬ V.str p = V.str q := fun e => h (V.str.inj e)
    simp [h]
theorem dec_vbl : decide (V.bl b = V.bl c) = (b == c) := by cases b <;> cases c <;> rfl
theorem v_eqI (ha : Val ta σ H (.int i)) (hb : Val tb σ H (.int j)) : Val (tOp rEq ta tb) σ H (.bl (decide (i = j))) := val_op ha hb fun _ q => ⟨rfl, by rw [dec_vint]; exact q⟩
theorem v_neI (ha : Val ta σ H (.int i)) (hb : Val tb σ H (.int j)) : Val (tOp rNe ta tb) σ H (.bl (!decide (i = j))) := val_op ha hb fun _ q => ⟨rfl, by rw [dec_vint]; exact q⟩
theorem v_eqS {p r : Str} (ha : Val ta σ H (.str p)) (hb : Val tb σ H (.str r)) : Val (tOp rEq ta tb) σ H (.bl (decide (p = r))) := val_op ha hb fun _ q => ⟨rfl, by rw [dec_vstr]; exact q⟩
theorem v_neS {p r : Str} (ha : Val ta σ H (.str p)) (hb : Val tb σ H (.str r)) : Val (tOp rNe ta tb) σ H (.bl (!decide (p = r))) := val_op ha hb fun _ q => ⟨rfl, by rw [dec_vstr]; exact q⟩
theorem v_eqB (ha : Val ta σ H (.bl b)) (hb : Val tb σ H (.bl c)) : Val (tOp rEq ta tb) σ H (.bl (b == c)) := val_op ha hb fun _ q => ⟨rfl, by rw [dec_vbl]; exact q⟩
theorem v_neB (ha : Val ta σ H (.bl b)) (hb : Val tb σ H (.bl c)) : Val (tOp rNe ta tb) σ H (.bl (!(b == c))) := val_op ha hb fun _ q => ⟨rfl, by rw [dec_vbl]; exact q⟩
theorem v_eqV (ha : Val ta σ H x) (hb : Val tb σ H y) (hs : scal x y = true) : Val (tOp rEq ta tb) σ H (.bl (decide (x = y))) := val_op ha hb fun _ q => ⟨hs, q⟩
theorem v_neV (ha : Val ta σ H x) (hb : Val tb σ H y) (hs : scal x y = true) : Val (tOp rNe ta tb) σ H (.bl (!decide (x = y))) := val_op ha hb fun _ q => ⟨hs, q⟩
theorem v_isN (ha : Val ta σ H x) (hb : Val tb σ H .non) : Val (tOp rIsN ta tb) σ H (.bl (decide (x = .non))) := val_op ha hb fun _ q => ⟨rfl, q⟩
theorem v_notN (ha : Val ta σ H x) (hb : Val tb σ H .non) : Val (tOp rNotN ta tb) σ H (.bl (!decide (x = .non))) := val_op ha hb fun _ q => ⟨rfl, q⟩
/-- an item of a list, of a tuple -/
theorem v_ixL {p : Addr} {xs : List V} (ha : Val ta σ H (.ref p)) (hb : Val tb σ H (.int i)) (h : SqL K H p xs) (h0 : 0 ≤ i) (hx : xs[i.toNat]? = some v) : Val (tOp (rIxL K) ta tb) σ H v :=
  val_op ha hb fun _ q => ⟨_, _, _, _, rfl, rfl, h, at_of (j := i.toNat) (by omega) hx, q⟩
theorem v_ixT {p : Addr} {xs : List V} (ha : Val ta σ H (.ref p)) (hb : Val tb σ H (.int i)) (h : SqT K H p xs) (h0 : 0 ≤ i) (hx : xs[i.toNat]? = some v) : Val (tOp (rIxT K) ta tb) σ H v :=
  val_op ha hb fun _ q => ⟨_, _, _, _, rfl, rfl, h, at_of (j := i.toNat) (by omega) hx, q⟩
theorem v_ixLI {p : Addr} {ns : List Int} (ha : Val ta σ H (.ref p)) (hb : Val tb σ H (.int i)) (h : SqL K H p (ns.map V.int)) (h0 : 0 ≤ i) (hx : i < (ns.length : Int)) : Val (tOp (rIxL K) ta tb) σ H (.int (ns.getD i.toNat 0)) :=
  v_ixL ha hb h h0 (by
    have hl : i.toNat < ns.length := by omega
    rw [List.getElem?_map, List.getElem?_eq_getElem hl]
    simp [List.getD_eq_getElem?_getD, List.getElem?_eq_getElem hl])
theorem v_ixTI {p : Addr} {ns : List Int} (ha : Val ta σ H (.ref p)) (hb : Val tb σ H (.int i)) (h : SqT K H p (ns.map V.int)) (h0 : 0 ≤ i) (hx : i < (ns.length : Int)) : Val (tOp (rIxT K) ta tb) σ H (.int (ns.getD i.toNat 0)) :=
  v_ixT ha hb h h0 (by
    have hl : i.toNat < ns.length := by omega
    rw [List.getElem?_map, List.getElem?_eq_getElem hl]
    simp [List.getD_eq_getElem?_getD, List.getElem?_eq_getElem hl])
/-- a chain a < b <= c -/
theorem v_chain {r r' : R2} (ha : Val ta σ H x) (hb : Val tb σ H y) (h1 : ∀ Q : VK, Q (.bl b) H → r x y H Q) (hc : Val tc σ H z) (h2 : ∀ Q : VK, Q (.bl c) H → r' y z H Q) : Val (tChain r r' ta tb tc) σ H (.bl (b && c)) := fun Q q =>
  ha _ (hb _ (h1 _ ⟨b, rfl, by
    cases b with
    | true => exact (show _ from (show (if true = true then _ else _) from by rw [if_pos rfl]; exact hc _ (h2 _ q)))
    | false => exact (show (if false = true then _ else _) from by rw [if_neg Bool.false_ne_true]; exact q)⟩))
theorem rr_lt {Q : VK} (q : Q (.bl (decide (i < j))) H) : (rI0 fun i j => V.bl (decide (i < j))) (.int i) (.int j) H Q := ⟨_, _, rfl, rfl, q⟩
theorem rr_le {Q : VK} (q : Q (.bl (decide (i ≤ j))) H) : (rI0 fun i j => V.bl (decide (i ≤ j))) (.int i) (.int j) H Q := ⟨_, _, rfl, rfl, q⟩
theorem v_andV (ha : Val ta σ H (.bl b)) (hb : b = true → Val tb σ H (.bl c)) : Val (tAndV ta tb) σ H (.bl (b && c)) := fun Q q => ha _ ⟨b, rfl, by
  cases b with
  | true => exact (show (if true = true then _ else _) from by rw [if_pos rfl]; exact hb rfl _ q)
  | false => exact (show (if false = true then _ else _) from by rw [if_neg Bool.false_ne_true]; exact q)⟩
theorem v_orV (ha : Val ta σ H (.bl b)) (hb : b = false → Val tb σ H (.bl c)) : Val (tOrV ta tb) σ H (.bl (b || c)) := fun Q q => ha _ ⟨b, rfl, by
  cases b with
  | true => exact (show (if true = true then _ else _) from by rw [if_pos rfl]; exact q)
  | false => exact (show (if false = true then _ else _) from by rw [if_neg Bool.false_ne_true]; exact hb rfl _ q)⟩
theorem v_notV (ha : Val ta σ H (.bl b)) : Val (tNotV ta) σ H (.bl (!b)) := fun Q q => ha _ ⟨b, rfl, q⟩
theorem v_if (h : Ans t σ H b) (h1 : b = true → Val ta σ H v) (h2 : b = false → Val tb σ H v) : Val (tIf t ta tb) σ H v := fun Q q => h _ (by
  cases b with
  | true => exact (show (if true = true then _ else _) from by rw [if_pos rfl]; exact h1 rfl _ q)
  | false => exact (show (if false = true then _ else _) from by rw [if_neg Bool.false_ne_true]; exact h2 rfl _ q))
/-- a call that leaves the heap -/
theorem v_call {sp : Sp} {vs : List V} (h : ValA tl σ H vs) (hs : ∀ Q : VK, Q v H → sp vs H Q E0) : Val (tCall sp [] E0 tl) σ H v := fun Q q => h _ (show sp (vs ++ []) H Q E0 from by rw [List.append_nil]; exact hs Q q)
theorem v_cb {r : List V → Hp → VK → Prop} {vs : List V} (h : ValA tl σ H vs) (hs : ∀ Q : VK, Q v H → r vs H Q) : Val (tCB r tl) σ H v := fun Q q => h _ (hs Q q)
/-! tests -/
theorem a_t (h : Val te σ H (.bl b)) : Ans (tTest te) σ H b := fun _ q => h _ ⟨b, rfl, q⟩
theorem a_B (h : Val te σ H (.bl b)) : Ans (tB te) σ H b := fun _ q => h _ ⟨b, rfl, q⟩
theorem a_and (h1 : Ans t σ H b) (h2 : b = true → Ans u σ H c) : Ans (tAnd t u) σ H (b && c) := fun Q q => h1 _ (by
  cases b with
  | true => exact (show (if true = true then _ else _) from by rw [if_pos rfl]; exact h2 rfl Q q)
  | false => exact (show (if false = true then _ else _) from by rw [if_neg Bool.false_ne_true]; exact q))
theorem a_or (h1 : Ans t σ H b) (h2 : b = false → Ans u σ H c) : Ans (tOr t u) σ H (b || c) := fun Q q => h1 _ (by
  cases b with
  | true => exact (show (if true = true then _ else _) from by rw [if_pos rfl]; exact q)
  | false => exact (show (if false = true then _ else _) from by rw [if_neg Bool.false_ne_true]; exact h2 rfl Q q))
theorem a_not (h1 : Ans t σ H b) : Ans (tNot t) σ H (!b) := fun Q q => h1 _ q
theorem a_tru (ha : Val ta σ H x) (ht : TruV K x H b) : Ans (fun σ H Q => ta σ H fun x H' => ∃ k, TruV K x H' k ∧ Q k H') σ H b := ans_tru ha ht
/-! statements: q_ with something behind, s_ at a block's end -/
theorem q_set {k : Nat} (h : Val te σ H v) (q : tz ⟨N, R, B, C'⟩ (σ.set k (some v)) H) : tSeq (tAsg te (gName k)) tz ⟨N, R, B, C'⟩ σ H := h _ q
theorem s_set {k : Nat} (h : Val te σ H v) (q : N (σ.set k (some v)) H) : tAsg te (gName k) ⟨N, R, B, C'⟩ σ H := h _ q
theorem s_next (q : N σ H) : tNext ⟨N, R, B, C'⟩ σ H := q
theorem s_ret (h : Val te σ H v) (q : R v H) : tRet te ⟨N, R, B, C'⟩ σ H := h _ q
theorem q_drop (h : Val te σ H v) (q : tz ⟨N, R, B, C'⟩ σ H) : tSeq (tDrop te) tz ⟨N, R, B, C'⟩ σ H := h _ q
theorem q_if (h : Ans t σ H b) (h1 : b = true → t1 ⟨tz ⟨N, R, B, C'⟩, R, B, C'⟩ σ H) (h2 : b = false → t2 ⟨tz ⟨N, R, B, C'⟩, R, B, C'⟩ σ H) : tSeq (tIfS t t1 t2) tz ⟨N, R, B, C'⟩ σ H := h _ (by
  cases b with
  | true => exact (show (if true = true then _ else _) from by rw [if_pos rfl]; exact h1 rfl)
  | false => exact (show (if false = true then _ else _) from by rw [if_neg Bool.false_ne_true]; exact h2 rfl))
theorem s_if (h : Ans t σ H b) (h1 : b = true → t1 ⟨N, R, B, C'⟩ σ H) (h2 : b = false → t2 ⟨N, R, B, C'⟩ σ H) : tIfS t t1 t2 ⟨N, R, B, C'⟩ σ H := h _ (by
  cases b with
  | true => exact (show (if true = true then _ else _) from by rw [if_pos rfl]; exact h1 rfl)
  | false => exact (show (if false = true then _ else _) from by rw [if_neg Bool.false_ne_true]; exact h2 rfl))
theorem q_ifT (h : Ans t σ H b) (e : b = true) (q : t1 ⟨tz ⟨N, R, B, C'⟩, R, B, C'⟩ σ H) : tSeq (tIfS t t1 t2) tz ⟨N, R, B, C'⟩ σ H := q_if h (fun _ => q) (fun e' => by rw [e] at e'; cases e')
theorem q_ifF (h : Ans t σ H b) (e : b = false) (q : t2 ⟨tz ⟨N, R, B, C'⟩, R, B, C'⟩ σ H) : tSeq (tIfS t t1 t2) tz ⟨N, R, B, C'⟩ σ H := q_if h (fun e' => by rw [e] at e'; cases e') (fun _ => q)
theorem q_ifF0 (h : Ans t σ H b) (e : b = false) (q : tz ⟨N, R, B, C'⟩ σ H) : tSeq (tIfS t t1 tNext) tz ⟨N, R, B, C'⟩ σ H := q_ifF h e q
theorem s_ifT (h : Ans t σ H b) (e : b = true) (q : t1 ⟨N, R, B, C'⟩ σ H) : tIfS t t1 t2 ⟨N, R, B, C'⟩ σ H := s_if h (fun _ => q) (fun e' => by rw [e] at e'; cases e')
theorem s_ifF (h : Ans t σ H b) (e : b = false) (q : t2 ⟨N, R, B, C'⟩ σ H) : tIfS t t1 t2 ⟨N, R, B, C'⟩ σ H := s_if h (fun e' => by rw [e] at e'; cases e') (fun _ => q)
theorem s_ifF0 (h : Ans t σ H b) (e : b = false) (q : N σ H) : tIfS t t1 tNext ⟨N, R, B, C'⟩ σ H := s_ifF h e q
/-- a call as a statement; its value in a slot -/
theorem q_do {sp : Sp} {vs : List V} (h : ValA tl σ H vs) (hs : sp vs H (fun _ H' => tz ⟨N, R, B, C'⟩ σ H') E0) : tSeq (tDrop (tCall sp [] E0 tl)) tz ⟨N, R, B, C'⟩ σ H := h _ (show sp (vs ++ []) H _ E0 from by rw [List.append_nil]; exact hs)
theorem s_do {sp : Sp} {vs : List V} (h : ValA tl σ H vs) (hs : sp vs H (fun _ H' => N σ H') E0) : tDrop (tCall sp [] E0 tl) ⟨N, R, B, C'⟩ σ H := h _ (show sp (vs ++ []) H _ E0 from by rw [List.append_nil]; exact hs)
theorem q_setc {k : Nat} {sp : Sp} {vs : List V} (h : ValA tl σ H vs) (hs : sp vs H (fun v H' => tz ⟨N, R, B, C'⟩ (σ.set k (some v)) H') E0) : tSeq (tAsg (tCall sp [] E0 tl) (gName k)) tz ⟨N, R, B, C'⟩ σ H := h _ (show sp (vs ++ []) H _ E0 from by rw [List.append_nil]; exact hs)
theorem s_setc {k : Nat} {sp : Sp} {vs : List V} (h : ValA tl σ H vs) (hs : sp vs H (fun v H' => N (σ.set k (some v)) H') E0) : tAsg (tCall sp [] E0 tl) (gName k) ⟨N, R, B, C'⟩ σ H := h _ (show sp (vs ++ []) H _ E0 from by rw [List.append_nil]; exact hs)
theorem s_retc {sp : Sp} {vs : List V} (h : ValA tl σ H vs) (hs : sp vs H R E0) : tRet (tCall sp [] E0 tl) ⟨N, R, B, C'⟩ σ H := h _ (show sp (vs ++ []) H _ E0 from by rw [List.append_nil]; exact hs)
/-- new objects -/
theorem q_setL {k : Nat} {vs : List V} (h : ValA tl σ H vs) (hl : vs.length ≤ 100000) (q : ∀ p, H p = none → tz ⟨N, R, B, C'⟩ (σ.set k (some (.ref p))) (upd H p (.lst vs))) : tSeq (tAsg (tLst tl) (gName k)) tz ⟨N, R, B, C'⟩ σ H := h _ ⟨Nat.le_trans hl (by decide), fun p hp => q p hp⟩
theorem q_setT {k : Nat} {vs : List V} (h : ValA tl σ H vs) (hl : vs.length ≤ 100000) (q : ∀ p, H p = none → tz ⟨N, R, B, C'⟩ (σ.set k (some (.ref p))) (upd H p (.tup vs))) : tSeq (tAsg (tTup tl) (gName k)) tz ⟨N, R, B, C'⟩ σ H := h _ ⟨Nat.le_trans hl (by decide), fun p hp => q p hp⟩
theorem s_retT {vs : List V} (h : ValA tl σ H vs) (hl : vs.length ≤ 100000) (q : ∀ p, H p = none → R (.ref p) (upd H p (.tup vs))) : tRet (tTup tl) ⟨N, R, B, C'⟩ σ H := h _ ⟨Nat.le_trans hl (by decide), fun p hp => q p hp⟩
theorem s_retL {vs : List V} (h : ValA tl σ H vs) (hl : vs.length ≤ 100000) (q : ∀ p, H p = none → R (.ref p) (upd H p (.lst vs))) : tRet (tLst tl) ⟨N, R, B, C'⟩ σ H := h _ ⟨Nat.le_trans hl (by decide), fun p hp => q p hp⟩
end prelude
def rLenQ (K : PySem.W.Frag) : List V → Hp → VK → Prop := fun xs H Q => ∃ p ys, xs = [.ref p] ∧ (SqL K H p ys ∨ SqT K H p ys) ∧ Q (.int ys.length) H
/-! ### facts of the top, defs as they are called -/
structure Tx (K : PySem.W.Frag) (mg : Str → Option Value) : Prop where
  ex : ∃ h, K.In h ∧ h.Ns mainGlobals mg
  says : He.SaysD Hd.fa Hd.fn K
section
variable {K : PySem.W.Frag} {mg : Str → Option Value}
theorem Tx.glo (T : Tx K mg) (i : Nat) {x : Str} (h : Hd.fa[i]? = some (.glo x) := by rfl) : mg x = some (.ref (He.ga K x)) := by
  obtain ⟨hp, X, G⟩ := T.ex
  exact He.glo_ok X G (T.says.fact i h)
theorem Tx.free (T : Tx K mg) (i : Nat) {x : Str} (h : Hd.fa[i]? = some (.free x) := by rfl) : mg x = none := by
  obtain ⟨hp, X, G⟩ := T.ex
  exact He.free_ok X G (T.says.fact i h)
theorem Tx.int (T : Tx K mg) (i : Nat) {x : Str} {z : Int} (h : Hd.fa[i]? = some (.int x z) := by rfl) : ∃ t, mg x = some (.int z t) := by
  obtain ⟨hp, X, G⟩ := T.ex
  exact He.int_ok X G (T.says.fact i h)
theorem Tx.cls (T : Tx K mg) (i : Nat) {x : Str} (h : Hd.fa[i]? = some (.cls x) := by rfl) : Cls K (He.ga K x) := He.cls_ok (T.says.fact i h)
theorem Tx.no (T : Tx K mg) (i : Nat) {x f : Str} (h : Hd.fa[i]? = some (.noat x f) := by rfl) : NoAttr K (He.ga K x) f := He.noat_ok (T.says.fact i h)
theorem Tx.mkr (T : Tx K mg) (i : Nat) {x : Str} (h : Hd.fa[i]? = some (.mkr x) := by rfl) : Mk K (He.ga K x) (He.ma K (He.ga K x) "__init__") := He.mkr_ok (T.says.fact i h)
end
/-- the def x as it may be called: by at most level k, its promise sp -/
structure Cal (P : Program) (w : World) (K : PySem.W.Frag) (mg : Str → Option Value) (base : Heap) (k : Nat) (x : Str) (ps : List Str) (sp : Sp) : Prop where
  ex : ∃ f fd, FnOk P w K mg base CX0 k f fd ps sp ∧ mg x = some (.ref f) ∧ PySem.W.keepIn K (.ref f) = true ∧ Binds K fd ps []
/-- a class x by its __init__ -/
structure CalC (P : Program) (w : World) (K : PySem.W.Frag) (mg : Str → Option Value) (base : Heap) (k : Nat) (x : Str) (ps : List Str) (sp : Sp) : Prop where
  ex : ∃ f fd, FnOk P w K mg base CX0 k f fd ps sp ∧ mg x = some (.ref (He.ga K x)) ∧ Mk K (He.ga K x) f ∧ Binds K fd ps []
section
variable {X : Cx} {x : Str} {ps : List Str} {sp : Sp} {k j : Nat} {e : Expr} {es : List Expr} {p pos : Pos} {t : TA}
theorem pe_cal (C : Cal X.prog X.w X.K X.mg X.base k x ps sp) (hr : Room j X.A) (hk : k ≤ j) (hg : Gl X x) (ha : PA X (e :: es) t) (hdb : (x == ("__debug__" : Str)) = false := by decide)
    (he : starEach (e :: es) X.env = (false, eval e X.env) :: starEach es X.env := by rfl) (hpl : (backTo pos (starEach es X.env)).any (·.1) = false := by rfl) : PE X (.Call (.Name x p) (e :: es) [] pos) (tCall sp [] E0 t) := by
  obtain ⟨f, fd, F, hm, hkp, hb⟩ := C.ex
  exact pe_call F (hr.mono hk) hg hm hkp hb .nil pass0 ha hdb he hpl
theorem pe_cal0 (C : Cal X.prog X.w X.K X.mg X.base k x ps sp) (hr : Room j X.A) (hk : k ≤ j) (hg : Gl X x) (hdb : (x == ("__debug__" : Str)) = false := by decide) : PE X (.Call (.Name x p) [] [] pos) (tCall sp [] E0 tNil) := by
  obtain ⟨f, fd, F, hm, hkp, hb⟩ := C.ex
  exact pe_call0 F (hr.mono hk) hg hm hkp hb .nil pass0 hdb
theorem pe_new (C : CalC X.prog X.w X.K X.mg X.base k x ps sp) (hr : Room j X.A) (hk : k + 1 ≤ j) (hg : Gl X x) (ha : PA X (e :: es) t) (hdb : (x == ("__debug__" : Str)) = false := by decide)
    (he : starEach (e :: es) X.env = (false, eval e X.env) :: starEach es X.env := by rfl) (hpl : (backTo pos (starEach es X.env)).any (·.1) = false := by rfl) : PE X (.Call (.Name x p) (e :: es) [] pos) (tMake (He.ga X.K x) sp [] E0 t) := by
  obtain ⟨f, fd, F, hm, M, hb⟩ := C.ex
  exact pe_make M F (hr.mono hk) hg hm hb .nil pass0 ha hdb he hpl
theorem pe_globI (hg : Gl X x) {z : Int} (h : ∃ t, X.mg x = some (.int z t)) (hdb : (x == ("__debug__" : Str)) = false := by decide) : PE X (.Name x p) (tC (.int z)) := by
  obtain ⟨t, e⟩ := h
  exact pe_glob hg e ⟨_, rfl⟩ hdb
end
theorem cal_mk {P : Program} {w : World} {K : PySem.W.Frag} {mg : Str → Option Value} {base : Heap} (T : Tx K mg) {k : Nat} {x : Str} {N ps : List Str} {st : Stmt} {sp : Sp} (i j : Nat)
    (hd : Hd.fn[i]? = some ⟨(x, none), x, x, defArgs st, defBody st, defScope st, [], []⟩) (hj : Hd.fa[j]? = some (.glo x)) (S : FnScope N ps (defScope st))
    (hb : ∀ (kV doc pm : Value) (an : Option Addr) (cdv ct : Value) (us : List Value), us.length = ps.length → bindArgs (PySem.W.fnOf x x (defArgs st) (defBody st) (defScope st) .none kV doc pm an cdv ct) ⟨us, []⟩ = pure (ps.zip us))
    (len : ∀ vs H Q E, sp vs H Q E → vs.length = ps.length)
    (body : ∀ (f : Addr) (cdv : Value) (A : Around) (outer : List Env) (s : Shared) (H : Hp) (vs : List V) (Q : VK) (E : XK), Room k (A.deeper (envOfC x (defScope st) s.heap.objs.size f cdv)) → sp vs H Q E →
      ∃ t, PSs (cxOf CX0 P w K mg base N x (defScope st) f cdv A outer s H E).nox (defBody st) t ∧ t { nx := fun _ H' => Q .non H', rt := Q } (start N vs) H) : Cal P w K mg base (k + 1) x ps sp := by
  obtain ⟨fd, F⟩ := T.says.def_ i hd
  refine ⟨_, fd, F.ok S len fun cdv A outer s H vs Q E hr h => ?_, T.glo j hj, F.kp, F.bindsN hb⟩
  obtain ⟨t, h1, h2⟩ := body _ cdv A outer s H vs Q E hr h
  exact ⟨t, h1.nox, h2⟩
theorem calC_mk {P : Program} {w : World} {K : PySem.W.Frag} {mg : Str → Option Value} {base : Heap} (T : Tx K mg) {k : Nat} {x q : Str} {N ps : List Str} {st : Stmt} {sp : Sp} (i j m : Nat)
    (hd : Hd.fn[i]? = some ⟨(x, some "__init__"), "__init__", q, defArgs st, defBody st, defScope st, [], []⟩) (hj : Hd.fa[j]? = some (.glo x)) (hm : Hd.fa[m]? = some (.mkr x)) (S : FnScope N ps (defScope st))
    (hb : ∀ (kV doc pm : Value) (an : Option Addr) (cdv ct : Value) (us : List Value), us.length = ps.length → bindArgs (PySem.W.fnOf "__init__" q (defArgs st) (defBody st) (defScope st) .none kV doc pm an cdv ct) ⟨us, []⟩ = pure (ps.zip us))
    (len : ∀ vs H Q E, sp vs H Q E → vs.length = ps.length)
    (body : ∀ (f : Addr) (cdv : Value) (A : Around) (outer : List Env) (s : Shared) (H : Hp) (vs : List V) (Q : VK) (E : XK), Room k (A.deeper (envOfC q (defScope st) s.heap.objs.size f cdv)) → sp vs H Q E →
      ∃ t, PSs (cxOf CX0 P w K mg base N q (defScope st) f cdv A outer s H E).nox (defBody st) t ∧ t { nx := fun _ H' => Q .non H', rt := Q } (start N vs) H) : CalC P w K mg base (k + 1) x ps sp := by
  obtain ⟨fd, F⟩ := T.says.def_ i hd
  refine ⟨_, fd, F.ok S len fun cdv A outer s H vs Q E hr h => ?_, T.glo j hj, T.mkr m hm, F.bindsN hb⟩
  obtain ⟨t, h1, h2⟩ := body _ cdv A outer s H vs Q E hr h
  exact ⟨t, h1.nox, h2⟩
/-! ### The machine: its mirror -/
structure Mc where
  cells : List Int
  total : Int
  mark : Int
  pc : Int
def getC (m : Mc) (i : Int) : Int := m.cells.getD i.toNat 0
def setC (m : Mc) (i v : Int) : Mc := { m with cells := m.cells.set i.toNat v }
def skipM (m : Mc) : Mc := { m with pc := (m.pc + 1) % 64 }
def addedM (m : Mc) (n : Int) : Mc := if 1024 ≤ m.total + n then { m with total := m.total + n - 1024, mark := 1 - m.mark } else { m with total := m.total + n }
def riseM (m : Mc) (i : Int) : Mc := setC m i ((getC m i + 1) % 1024)
def aimP (m : Mc) (far place : Int) : Mc := if far = 0 then m else if (decide (8 ≤ place) && decide (place < 12)) = true then riseM m place else m
def aimV (m : Mc) (far place : Int) : Int := if far = 0 then place else getC (aimP m far place) place % 64
def movedM (m : Mc) (kind place : Int) : Mc :=
  if kind = 0 then { m with total := Builtin.bitAnd m.total (getC m place) }
  else if kind = 1 then addedM m (getC m place)
  else if kind = 2 then (if getC (riseM m place) place = 0 then skipM (riseM m place) else riseM m place)
  else if kind = 3 then { setC m place m.total with total := 0 }
  else if kind = 4 then { setC m place m.pc with pc := (place + 1) % 64 }
  else { m with pc := place }
def rolled1 (m : Mc) (bits : Int) : Mc := if bits % 4 = 2 then { m with mark := m.total / 512, total := 2 * m.total % 1024 + m.mark } else m
def rolledM (m : Mc) (bits : Int) : Mc := if bits % 4 = 1 then { rolled1 m bits with mark := (rolled1 m bits).total % 2, total := (rolled1 m bits).total / 2 + 512 * m.mark } else rolled1 m bits
def chg1 (m : Mc) (bits : Int) : Mc := if bits / 32 = 1 then { m with total := 0 } else m
def chg2 (m : Mc) (bits : Int) : Mc := if bits / 16 % 2 = 1 then { m with total := 1023 - m.total } else m
def chg3 (m : Mc) (bits : Int) : Mc := if bits / 8 % 2 = 1 then { m with mark := 1 - m.mark } else m
def chg4 (m : Mc) (bits : Int) : Mc := if bits / 4 % 2 = 1 then addedM m 1 else m
def changedM (m : Mc) (bits : Int) : Mc := rolledM (chg4 (chg3 (chg2 (chg1 m bits) bits) bits) bits) bits
def foundM (m : Mc) (bits : Int) : Bool := (decide (bits / 32 = 1) && decide (512 ≤ m.total)) || (decide (bits / 16 % 2 = 1) && decide (m.total = 0)) || (decide (bits / 8 % 2 = 1) && decide (m.mark = 1))
def tst1 (m : Mc) (bits : Int) : Mc := if (!(foundM m bits == decide (bits / 4 % 2 = 1))) = true then skipM m else m
def tst2 (m : Mc) (bits : Int) : Mc := if bits / 2 % 2 = 1 then { m with total := 0 } else m
def tst3 (m : Mc) (bits : Int) : Mc := if bits % 2 = 1 then { m with mark := 0 } else m
def testedM (m : Mc) (bits : Int) : Mc := tst3 (tst2 (tst1 m bits) bits) bits
def deedM (m : Mc) : Mc :=
  let n := getC m m.pc
  let m1 := skipM m
  if n / 128 < 6 then movedM (aimP m1 (n / 64 % 2) (n % 64)) (n / 128) (aimV m1 (n / 64 % 2) (n % 64))
  else if n / 128 = 6 then m1
  else if n / 64 % 2 = 0 then changedM m1 (n % 64) else testedM m1 (n % 64)
def deedV (m : Mc) : V := if getC m m.pc / 128 = 6 then .int (getC m m.pc % 64) else .non
/-- what the walk needs: 64 cells, the at a place -/
structure Wm (m : Mc) : Prop where
  len : m.cells.length = 64
  lo : 0 ≤ m.pc
  hi : m.pc < 64
/-- words everywhere -/
structure WfM (m : Mc) : Prop extends Wm m where
  cell : ∀ c ∈ m.cells, 0 ≤ c ∧ c < 1024
  tlo : 0 ≤ m.total
  thi : m.total < 1024
  bit : m.mark = 0 ∨ m.mark = 1
/-! ### The machine in the heap -/
def mfs (l : Addr) (m : Mc) : List (Str × V) := [("cells", .ref l), ("total", .int m.total), ("mark", .int m.mark), ("at", .int m.pc)]
def mput (C : Addr) (H : Hp) (p dx l : Addr) (m : Mc) : Hp := upd (upd H l (.lst (m.cells.map V.int))) p (.ins C dx (mfs l m))
structure MTx (K : PySem.W.Frag) (C : Addr) : Prop where
  cl : Cls K C
  nCells : NoAttr K C "cells"
  nTotal : NoAttr K C "total"
  nMark : NoAttr K C "mark"
  nAt : NoAttr K C "at"
section
variable {K : PySem.W.Frag} {C : Addr} {H : Hp} {p dx l a : Addr} {m m' : Mc} {σ : L2.St} {ta tv ti : TE} {N : L2.St → Hp → Prop} {R : VK} {B C' : L2.St → Hp → Prop} {tz : TS} {z i : Int}
theorem mput_p : mput C H p dx l m p = some (.ins C dx (mfs l m)) := upd_same
theorem mput_l (h : l ≠ p) : mput C H p dx l m l = some (.lst (m.cells.map V.int)) := by unfold mput; rw [upd_ne h, upd_same]
theorem mput_ne (h1 : a ≠ p) (h2 : a ≠ l) : mput C H p dx l m a = H a := by unfold mput; rw [upd_ne h1, upd_ne h2]
theorem mput_mput : mput C (mput C H p dx l m) p dx l m' = mput C H p dx l m' := by
  funext b; unfold mput upd
  by_cases h1 : b = p <;> by_cases h2 : b = l <;> simp [h1, h2]
theorem mput_id (h1 : H p = some (.ins C dx (mfs l m))) (h2 : H l = some (.lst (m.cells.map V.int))) : mput C H p dx l m = H := by
  funext b; unfold mput upd
  by_cases e1 : b = p
  · subst e1; rw [if_pos rfl, h1]
  · rw [if_neg e1]
    by_cases e2 : b = l
    · subst e2; rw [if_pos rfl, h2]
    · rw [if_neg e2]
theorem mput_ins (h : m'.cells = m.cells) : upd (mput C H p dx l m) p (.ins C dx (mfs l m')) = mput C H p dx l m' := by
  unfold mput; rw [h, upd_upd]
theorem mput_lst (h : l ≠ p) {cs : List Int} : upd (mput C H p dx l m) l (.lst (cs.map V.int)) = mput C H p dx l { m with cells := cs } := by
  funext b; unfold mput upd
  by_cases h2 : b = l
  · subst h2; rw [if_pos rfl, if_neg h, if_pos rfl]
  · rw [if_neg h2]
    by_cases h1 : b = p
    · rw [if_pos h1, if_pos h1]; rfl
    · rw [if_neg h1, if_neg h2, if_neg h1, if_neg h2]
theorem mput_new {o : HO} {q : Addr} (hq : mput C H p dx l m q = none) : upd (mput C H p dx l m) q o = mput C (upd H q o) p dx l m ∧ H q = none := by
  have n1 : q ≠ p := fun e => by subst e; rw [mput_p] at hq; cases hq
  have n2 : q ≠ l := fun e => by
    subst e
    unfold mput at hq
    rw [upd_ne n1, upd_same] at hq
    cases hq
  refine ⟨?_, by rwa [mput_ne n1 n2] at hq⟩
  funext b; unfold mput upd
  by_cases h1 : b = q
  · subst h1; simp [n1, n2]
  · simp [h1]
theorem mput_same {H' : Hp} (h : Same H H') : Same (mput C H p dx l m) (mput C H' p dx l m) := fun b o e => by
  unfold mput upd at *
  by_cases h1 : b = p
  · simpa [h1] using e
  · by_cases h2 : b = l
    · simpa [h1, h2] using e
    · simp [h1, h2] at *; exact h b o e
theorem mf_cells : (mfs l m).lookup ("cells" : Str) = some (V.ref l) := by kernel_rfl
theorem mf_total : (mfs l m).lookup ("total" : Str) = some (V.int m.total) := by kernel_rfl
theorem mf_mark : (mfs l m).lookup ("mark" : Str) = some (V.int m.mark) := by kernel_rfl
theorem mf_at : (mfs l m).lookup ("at" : Str) = some (V.int m.pc) := by kernel_rfl
theorem mq_total : putF "total" (.int z) (mfs l m) = mfs l { m with total := z } := by kernel_rfl
theorem mq_mark : putF "mark" (.int z) (mfs l m) = mfs l { m with mark := z } := by kernel_rfl
theorem mq_at : putF "at" (.int z) (mfs l m) = mfs l { m with pc := z } := by kernel_rfl
theorem mq_cells : putF "cells" (.ref a) (mfs l m) = mfs a m := by kernel_rfl
theorem vm_cells (M : MTx K C) (h : Val ta σ (mput C H p dx l m) (.ref p)) : Val (tFld K ta "cells") σ (mput C H p dx l m) (.ref l) := val_fld h mput_p M.cl M.nCells mf_cells
theorem vm_total (M : MTx K C) (h : Val ta σ (mput C H p dx l m) (.ref p)) : Val (tFld K ta "total") σ (mput C H p dx l m) (.int m.total) := val_fld h mput_p M.cl M.nTotal mf_total
theorem vm_mark (M : MTx K C) (h : Val ta σ (mput C H p dx l m) (.ref p)) : Val (tFld K ta "mark") σ (mput C H p dx l m) (.int m.mark) := val_fld h mput_p M.cl M.nMark mf_mark
theorem vm_at (M : MTx K C) (h : Val ta σ (mput C H p dx l m) (.ref p)) : Val (tFld K ta "at") σ (mput C H p dx l m) (.int m.pc) := val_fld h mput_p M.cl M.nAt mf_at
theorem vm_item (M : MTx K C) (hne : l ≠ p) (h : Val ta σ (mput C H p dx l m) (.ref p)) (hi : Val ti σ (mput C H p dx l m) (.int i)) (h0 : 0 ≤ i) (h1 : i < (m.cells.length : Int)) : Val (tOp (rIxL K) (tFld K ta "cells") ti) σ (mput C H p dx l m) (.int (getC m i)) :=
  v_ixLI (vm_cells M h) hi (SqL.of (mput_l hne)) h0 h1
theorem sm_total (M : MTx K C) (hv : Val tv σ (mput C H p dx l m) (.int z)) (ha : Val ta σ (mput C H p dx l m) (.ref p)) (q : N σ (mput C H p dx l { m with total := z })) : sFld K ta tv "total" ⟨N, R, B, C'⟩ σ (mput C H p dx l m) :=
  st_fld hv ha mput_p M.cl M.nTotal (by show 4 < 1000; decide) (by rw [mq_total, mput_ins (m := m) (m' := { m with total := z }) rfl]; exact q)
theorem sm_mark (M : MTx K C) (hv : Val tv σ (mput C H p dx l m) (.int z)) (ha : Val ta σ (mput C H p dx l m) (.ref p)) (q : N σ (mput C H p dx l { m with mark := z })) : sFld K ta tv "mark" ⟨N, R, B, C'⟩ σ (mput C H p dx l m) :=
  st_fld hv ha mput_p M.cl M.nMark (by show 4 < 1000; decide) (by rw [mq_mark, mput_ins (m := m) (m' := { m with mark := z }) rfl]; exact q)
theorem sm_at (M : MTx K C) (hv : Val tv σ (mput C H p dx l m) (.int z)) (ha : Val ta σ (mput C H p dx l m) (.ref p)) (q : N σ (mput C H p dx l { m with pc := z })) : sFld K ta tv "at" ⟨N, R, B, C'⟩ σ (mput C H p dx l m) :=
  st_fld hv ha mput_p M.cl M.nAt (by show 4 < 1000; decide) (by rw [mq_at, mput_ins (m := m) (m' := { m with pc := z }) rfl]; exact q)
theorem ixN_int {n : Nat} (h0 : 0 ≤ i) (h1 : i < (n : Int)) : ixN n i = some i.toNat := by
  unfold ixN; rw [if_pos h0, if_pos h1]
theorem sm_item (M : MTx K C) (hne : l ≠ p) (hv : Val tv σ (mput C H p dx l m) (.int z)) (ha : Val ta σ (mput C H p dx l m) (.ref p)) (hi : Val ti σ (mput C H p dx l m) (.int i)) (h0 : 0 ≤ i) (h1 : i < (m.cells.length : Int))
    (q : N σ (mput C H p dx l (setC m i z))) : tAsg tv (gSub (tFld K ta "cells") ti rSetL) ⟨N, R, B, C'⟩ σ (mput C H p dx l m) :=
  hv _ (vm_cells M ha _ (hi _ ⟨l, _, i, i.toNat, rfl, rfl, mput_l hne, ixN_int h0 (by rw [List.length_map]; exact h1), by
    rw [← List.map_set, mput_lst hne]; exact q⟩))
theorem qm_total (M : MTx K C) (hv : Val tv σ (mput C H p dx l m) (.int z)) (ha : Val ta σ (mput C H p dx l m) (.ref p)) (q : tz ⟨N, R, B, C'⟩ σ (mput C H p dx l { m with total := z })) : tSeq (sFld K ta tv "total") tz ⟨N, R, B, C'⟩ σ (mput C H p dx l m) := sm_total (N := tz ⟨N, R, B, C'⟩) (R := R) (B := B) (C' := C') M hv ha q
theorem qm_mark (M : MTx K C) (hv : Val tv σ (mput C H p dx l m) (.int z)) (ha : Val ta σ (mput C H p dx l m) (.ref p)) (q : tz ⟨N, R, B, C'⟩ σ (mput C H p dx l { m with mark := z })) : tSeq (sFld K ta tv "mark") tz ⟨N, R, B, C'⟩ σ (mput C H p dx l m) := sm_mark (N := tz ⟨N, R, B, C'⟩) (R := R) (B := B) (C' := C') M hv ha q
theorem qm_at (M : MTx K C) (hv : Val tv σ (mput C H p dx l m) (.int z)) (ha : Val ta σ (mput C H p dx l m) (.ref p)) (q : tz ⟨N, R, B, C'⟩ σ (mput C H p dx l { m with pc := z })) : tSeq (sFld K ta tv "at") tz ⟨N, R, B, C'⟩ σ (mput C H p dx l m) := sm_at (N := tz ⟨N, R, B, C'⟩) (R := R) (B := B) (C' := C') M hv ha q
theorem qm_item (M : MTx K C) (hne : l ≠ p) (hv : Val tv σ (mput C H p dx l m) (.int z)) (ha : Val ta σ (mput C H p dx l m) (.ref p)) (hi : Val ti σ (mput C H p dx l m) (.int i)) (h0 : 0 ≤ i) (h1 : i < (m.cells.length : Int))
    (q : tz ⟨N, R, B, C'⟩ σ (mput C H p dx l (setC m i z))) : tSeq (tAsg tv (gSub (tFld K ta "cells") ti rSetL)) tz ⟨N, R, B, C'⟩ σ (mput C H p dx l m) := sm_item (N := tz ⟨N, R, B, C'⟩) (R := R) (B := B) (C' := C') M hne hv ha hi h0 h1 q
end
theorem not_dec {p : Prop} [Decidable p] {b : Bool} : ((!decide p) = b) = (decide p = !b) := by cases b <;> simp
theorem q_cutH {σ : L2.St} {H H1 : Hp} {N : L2.St → Hp → Prop} {R : VK} {B C' : L2.St → Hp → Prop} {t1 tz : TS} (h : t1 ⟨fun σ' H' => σ' = σ ∧ H' = H1, R, B, C'⟩ σ H) (k : tz ⟨N, R, B, C'⟩ σ H1) : C8.tCut t1 tz ⟨N, R, B, C'⟩ σ H := ⟨_, h, by rintro _ _ ⟨rfl, rfl⟩; exact k⟩
/-! promises of the machine's defs: on the machine at p with its cells at l, in the heap H0 else -/
def spParts : Sp := fun vs H Q _ => ∃ n : Int, vs = [.int n] ∧ ∀ p, H p = none → Q (.ref p) (upd H p (.tup [.int (n / 128), .int (n / 64 % 2), .int (n % 64)]))
def spSkip (C : Addr) : Sp := fun vs H Q _ => ∃ (H0 : Hp) (p dx l : Addr) (m : Mc), vs = [.ref p] ∧ H = mput C H0 p dx l m ∧ Q .non (mput C H0 p dx l (skipM m))
def spAdded (C : Addr) : Sp := fun vs H Q _ => ∃ (H0 : Hp) (p dx l : Addr) (m : Mc) (n : Int), vs = [.ref p, .int n] ∧ H = mput C H0 p dx l m ∧ Q .non (mput C H0 p dx l (addedM m n))
def spAim (C : Addr) : Sp := fun vs H Q _ => ∃ (H0 : Hp) (p dx l : Addr) (m : Mc) (far place : Int), vs = [.ref p, .int far, .int place] ∧ l ≠ p ∧ m.cells.length = 64 ∧ 0 ≤ place ∧ place < 64 ∧ H = mput C H0 p dx l m ∧ Q (.int (aimV m far place)) (mput C H0 p dx l (aimP m far place))
def spMoved (C : Addr) : Sp := fun vs H Q _ => ∃ (H0 : Hp) (p dx l : Addr) (m : Mc) (kind place : Int), vs = [.ref p, .int kind, .int place] ∧ l ≠ p ∧ m.cells.length = 64 ∧ 0 ≤ place ∧ place < 64 ∧ H = mput C H0 p dx l m ∧ Q .non (mput C H0 p dx l (movedM m kind place))
def spBits (C : Addr) (f : Mc → Int → Mc) : Sp := fun vs H Q _ => ∃ (H0 : Hp) (p dx l : Addr) (m : Mc) (bits : Int), vs = [.ref p, .int bits] ∧ H = mput C H0 p dx l m ∧ Q .non (mput C H0 p dx l (f m bits))
def spDeed (C : Addr) : Sp := fun vs H Q _ => ∃ (H0 : Hp) (p dx l : Addr) (m : Mc), vs = [.ref p] ∧ l ≠ p ∧ Wm m ∧ H = mput C H0 p dx l m ∧ ∀ H1, Same H0 H1 → Q (deedV m) (mput C H1 p dx l (deedM m))
def spMachine (K : PySem.W.Frag) (C : Addr) : Sp := fun vs H Q _ => ∃ (x dx a : Addr) (cs : List Int) (t mk pc : Int), vs = [.ref x, .ref a, .int t, .int mk, .int pc] ∧ H x = some (.ins C dx []) ∧ (SqL K H a (cs.map V.int) ∨ SqT K H a (cs.map V.int)) ∧ ∀ l, H l = none → Q .non (mput C H x dx l ⟨cs, t, mk, pc⟩)
theorem aimP_len {m : Mc} {f p : Int} : (aimP m f p).cells.length = m.cells.length := by
  unfold aimP riseM setC; split <;> (try split) <;> simp
theorem aimV_lo {m : Mc} {f p : Int} (h : 0 ≤ p) : 0 ≤ aimV m f p := by unfold aimV; split <;> omega
theorem aimV_hi {m : Mc} {f p : Int} (h : p < 64) : aimV m f p < 64 := by unfold aimV; split <;> omega
theorem getC_at {m : Mc} {i : Int} (h0 : 0 ≤ i) (h1 : i < (m.cells.length : Int)) {v : Int} : getC (setC m i v) i = v := by
  unfold getC setC
  have : i.toNat < m.cells.length := by omega
  simp [List.getD_eq_getElem?_getD, this]
theorem skip_len {m : Mc} : (skipM m).cells.length = m.cells.length := rfl
theorem setC_setC {m : Mc} {i v w : Int} : setC (setC m i v) i w = setC m i w := by unfold setC; simp
theorem Tx.mt {K : PySem.W.Frag} {mg : Str → Option Value} (T : Tx K mg) : MTx K (He.ga K "Machine") := ⟨T.cls 28, T.no 30, T.no 31, T.no 32, T.no 33⟩

section
variable {P : Program} {w : World} {K : PySem.W.Frag} {mg : Str → Option Value} {base : Heap}

theorem sc_parts : FnScope ["number"] ["number"] (defScope s_parts) := ⟨rfl, rfl, rfl, by decide +kernel, rfl, by decide +kernel, by decide +kernel⟩
theorem cal_parts (T : Tx K mg) : Cal P w K mg base 1 "parts" ["number"] spParts := by
  refine cal_mk T 0 0 rfl rfl sc_parts (fun _ _ _ _ _ _ us hl => match us, hl with | [_], _ => rfl) (fun vs H Q E h => ?_) (fun f cdv A outer s H vs Q E hr h => ?_)
  · obtain ⟨n, rfl, k⟩ := h
    rfl
  · obtain ⟨n, rfl, k⟩ := h
    refine ⟨_, (pss_one (ps_ret (pe_tup (pa_cons (pe_op op_fdiv (pv 0) pe_int) (pa_cons (pe_op op_mod (pe_op op_fdiv (pv 0) pe_int) pe_int) (pa_cons (pe_op op_mod (pv 0) pe_int) pa_nil)))))), ?_⟩
    refine s_retT (va_cons (v_fdiv (v_var rfl) v_c ⟨by decide, by decide⟩) (va_cons (v_mod (v_fdiv (v_var rfl) v_c ⟨by decide, by decide⟩) v_c (by decide)) (va_cons (v_mod (v_var rfl) v_c (by decide)) va_nil))) (by simp) (fun rp hrp => ?_)
    exact k rp hrp

theorem sc_skip : FnScope ["machine"] ["machine"] (defScope s_skip) := ⟨rfl, rfl, rfl, by decide +kernel, rfl, by decide +kernel, by decide +kernel⟩
theorem cal_skip (T : Tx K mg) : Cal P w K mg base 1 "skip" ["machine"] (spSkip (He.ga K "Machine")) := by
  refine cal_mk T 1 1 rfl rfl sc_skip (fun _ _ _ _ _ _ us hl => match us, hl with | [_], _ => rfl) (fun vs H Q E h => ?_) (fun f cdv A outer s H vs Q E hr h => ?_)
  · obtain ⟨H0, p, dx, l, m, rfl, rfl, k⟩ := h
    rfl
  · obtain ⟨H0, p, dx, l, m, rfl, rfl, k⟩ := h
    have M := T.mt
    refine ⟨_, (pss_one (ps_fld (pv 0) (pe_op op_mod (pe_op op_add (pe_fld (pv 0) rfl) pe_int) pe_int) rfl)), ?_⟩
    refine sm_at M (v_mod (v_add (vm_at M (v_var rfl)) v_c) v_c (by decide)) (v_var rfl) ?_
    exact k

theorem sc_added : FnScope ["machine", "number", "amount"] ["machine", "number"] (defScope s_added) := ⟨rfl, rfl, rfl, by decide +kernel, rfl, by decide +kernel, by decide +kernel⟩
theorem cal_added (T : Tx K mg) : Cal P w K mg base 1 "added" ["machine", "number"] (spAdded (He.ga K "Machine")) := by
  refine cal_mk T 2 2 rfl rfl sc_added (fun _ _ _ _ _ _ us hl => match us, hl with | [_, _], _ => rfl) (fun vs H Q E h => ?_) (fun f cdv A outer s H vs Q E hr h => ?_)
  · obtain ⟨H0, p, dx, l, m, n, rfl, rfl, k⟩ := h
    rfl
  · obtain ⟨H0, p, dx, l, m, n, rfl, rfl, k⟩ := h
    have M := T.mt
    refine ⟨_, (pss_cons (ps_set (i := 2) sc_added.nd rfl (Or.inl rfl) (pe_op op_add (pe_fld (pv 0) rfl) (pv 1))) (pss_cons (ps_if (pt_cmpR op_ge (pv 2) pe_int (nomark _)) (pss_cons (ps_set (i := 2) sc_added.nd rfl (Or.inl rfl) (pe_op op_sub (pv 2) pe_int)) (pss_one (ps_fld (pv 0) (pe_op op_sub pe_int (pe_fld (pv 0) rfl)) rfl))) pss_nil) (pss_one (ps_fld (pv 0) (pv 2) rfl)))), ?_⟩
    refine q_set (v_add (vm_total M (v_var rfl)) (v_var rfl)) ?_
    refine q_if (a_t (v_ge (v_var rfl) v_c)) (fun h1 => ?_) (fun h1 => ?_)
    · refine q_set (v_sub (v_var rfl) v_c) ?_
      refine sm_mark M (v_sub v_c (vm_mark M (v_var rfl))) (v_var rfl) ?_
      refine sm_total M (v_var rfl) (v_var rfl) ?_
      try simp only [decide_eq_true_eq, decide_eq_false_iff_not, not_dec] at h1
      simp only [addedM, h1, if_true, if_false, if_pos, if_neg, not_false_eq_true, reduceIte, Bool.false_eq_true] at k ⊢
      exact k
    · refine s_next ?_
      refine sm_total M (v_var rfl) (v_var rfl) ?_
      try simp only [decide_eq_true_eq, decide_eq_false_iff_not, not_dec] at h1
      simp only [addedM, h1, if_true, if_false, if_pos, if_neg, not_false_eq_true, reduceIte, Bool.false_eq_true] at k ⊢
      exact k

theorem sc_aim : FnScope ["machine", "far", "place"] ["machine", "far", "place"] (defScope s_aim) := ⟨rfl, rfl, rfl, by decide +kernel, rfl, by decide +kernel, by decide +kernel⟩
theorem cal_aim (T : Tx K mg) : Cal P w K mg base 1 "aim" ["machine", "far", "place"] (spAim (He.ga K "Machine")) := by
  refine cal_mk T 3 3 rfl rfl sc_aim (fun _ _ _ _ _ _ us hl => match us, hl with | [_, _, _], _ => rfl) (fun vs H Q E h => ?_) (fun f cdv A outer s H vs Q E hr h => ?_)
  · obtain ⟨H0, p, dx, l, m, far, place, rfl, hne, hl, p0, p1, rfl, k⟩ := h
    rfl
  · obtain ⟨H0, p, dx, l, m, far, place, rfl, hne, hl, p0, p1, rfl, k⟩ := h
    have M := T.mt
    refine ⟨_, (pss_cons (ps_if (pt_cmpR op_eq (pv 1) pe_int (nomark _)) (pss_one (ps_ret (pv 2))) pss_nil) (pss_cons (ps_if (pt_chain op_le op_lt pe_int (pv 2) pe_int) (pss_one (ps_asg (pe_op op_mod (pe_op op_add (pe_ix ix_list (pe_fld (pv 0) rfl) (pv 2) (fun _ _ => rfl)) pe_int) pe_int) (pg_sub (pe_fld (pv 0) rfl) (pv 2) set_list))) pss_nil) (pss_one (ps_ret (pe_op op_mod (pe_ix ix_list (pe_fld (pv 0) rfl) (pv 2) (fun _ _ => rfl)) pe_int))))), ?_⟩
    refine q_if (a_t (v_eqI (v_var rfl) v_c)) (fun h1 => ?_) (fun h1 => ?_)
    · refine s_ret (v_var rfl) ?_
      try simp only [decide_eq_true_eq, decide_eq_false_iff_not, not_dec] at h1
      simp only [aimV, aimP, riseM, h1, if_true, if_false, if_pos, if_neg, not_false_eq_true, reduceIte, Bool.false_eq_true] at k ⊢
      exact k
    · refine s_next ?_
      refine q_if (a_t (v_chain v_c (v_var rfl) (fun _ q => rr_le q) v_c (fun _ q => rr_lt q))) (fun h2 => ?_) (fun h2 => ?_)
      · refine sm_item M hne (v_mod (v_add (vm_item M hne (v_var rfl) (v_var rfl) (by first | omega | (simp only [setC, List.length_set, skip_len, aimP_len] at *; omega)) (by first | omega | (simp only [setC, List.length_set, skip_len, aimP_len] at *; omega))) v_c) v_c (by decide)) (v_var rfl) (v_var rfl) (by first | omega | (simp only [setC, List.length_set, skip_len, aimP_len] at *; omega)) (by first | omega | (simp only [setC, List.length_set, skip_len, aimP_len] at *; omega)) ?_
        refine s_ret (v_mod (vm_item M hne (v_var rfl) (v_var rfl) (by first | omega | (simp only [setC, List.length_set, skip_len, aimP_len] at *; omega)) (by first | omega | (simp only [setC, List.length_set, skip_len, aimP_len] at *; omega))) v_c (by decide)) ?_
        try simp only [decide_eq_true_eq, decide_eq_false_iff_not, not_dec] at h1 h2
        simp only [aimV, aimP, riseM, h1, h2, if_true, if_false, if_pos, if_neg, not_false_eq_true, reduceIte, Bool.false_eq_true] at k ⊢
        exact k
      · refine s_next ?_
        refine s_ret (v_mod (vm_item M hne (v_var rfl) (v_var rfl) (by first | omega | (simp only [setC, List.length_set, skip_len, aimP_len] at *; omega)) (by first | omega | (simp only [setC, List.length_set, skip_len, aimP_len] at *; omega))) v_c (by decide)) ?_
        try simp only [decide_eq_true_eq, decide_eq_false_iff_not, not_dec] at h1 h2
        simp only [aimV, aimP, riseM, h1, h2, if_true, if_false, if_pos, if_neg, not_false_eq_true, reduceIte, Bool.false_eq_true] at k ⊢
        exact k

theorem sc_moved : FnScope ["machine", "kind", "place"] ["machine", "kind", "place"] (defScope s_moved) := ⟨rfl, rfl, rfl, by decide +kernel, rfl, by decide +kernel, by decide +kernel⟩
theorem cal_moved (T : Tx K mg) : Cal P w K mg base 2 "moved" ["machine", "kind", "place"] (spMoved (He.ga K "Machine")) := by
  refine cal_mk T 4 4 rfl rfl sc_moved (fun _ _ _ _ _ _ us hl => match us, hl with | [_, _, _], _ => rfl) (fun vs H Q E h => ?_) (fun f cdv A outer s H vs Q E hr h => ?_)
  · obtain ⟨H0, p, dx, l, m, kind, place, rfl, hne, hl, p0, p1, rfl, k⟩ := h
    rfl
  · obtain ⟨H0, p, dx, l, m, kind, place, rfl, hne, hl, p0, p1, rfl, k⟩ := h
    have M := T.mt
    refine ⟨_, (pss_one (ps_if (pt_cmpR op_eq (pv 1) pe_int (nomark _)) (pss_one (ps_fld (pv 0) (pe_op op_and (pe_fld (pv 0) rfl) (pe_ix ix_list (pe_fld (pv 0) rfl) (pv 2) (fun _ _ => rfl))) rfl)) (pss_one (ps_if (pt_cmpR op_eq (pv 1) pe_int (nomark _)) (pss_one (ps_expr (pe_cal (cal_added (K := K) T) hr (by decide) rfl (pa_cons (pv 0) (pa_cons (pe_ix ix_list (pe_fld (pv 0) rfl) (pv 2) (fun _ _ => rfl)) pa_nil))))) (pss_one (ps_if (pt_cmpR op_eq (pv 1) pe_int (nomark _)) (pss_cons (ps_asg (pe_op op_mod (pe_op op_add (pe_ix ix_list (pe_fld (pv 0) rfl) (pv 2) (fun _ _ => rfl)) pe_int) pe_int) (pg_sub (pe_fld (pv 0) rfl) (pv 2) set_list)) (pss_one (ps_if (pt_cmpR op_eq (pe_ix ix_list (pe_fld (pv 0) rfl) (pv 2) (fun _ _ => rfl)) pe_int (nomark _)) (pss_one (ps_expr (pe_cal (cal_skip (K := K) T) hr (by decide) rfl (pa_cons (pv 0) pa_nil)))) pss_nil))) (pss_one (ps_if (pt_cmpR op_eq (pv 1) pe_int (nomark _)) (pss_cons (ps_asg (pe_fld (pv 0) rfl) (pg_sub (pe_fld (pv 0) rfl) (pv 2) set_list)) (pss_one (ps_fld (pv 0) pe_int rfl))) (pss_one (ps_if (pt_cmpR op_eq (pv 1) pe_int (nomark _)) (pss_cons (ps_asg (pe_fld (pv 0) rfl) (pg_sub (pe_fld (pv 0) rfl) (pv 2) set_list)) (pss_one (ps_fld (pv 0) (pe_op op_mod (pe_op op_add (pv 2) pe_int) pe_int) rfl))) (pss_one (ps_fld (pv 0) (pv 2) rfl)))))))))))), ?_⟩
    refine s_if (a_t (v_eqI (v_var rfl) v_c)) (fun h1 => ?_) (fun h1 => ?_)
    · refine sm_total M (v_band (vm_total M (v_var rfl)) (vm_item M hne (v_var rfl) (v_var rfl) (by first | omega | (simp only [setC, List.length_set, skip_len, aimP_len] at *; omega)) (by first | omega | (simp only [setC, List.length_set, skip_len, aimP_len] at *; omega)))) (v_var rfl) ?_
      try simp only [decide_eq_true_eq, decide_eq_false_iff_not, not_dec] at h1
      simp only [movedM, riseM, h1, if_true, if_false, if_pos, if_neg, not_false_eq_true, reduceIte, Bool.false_eq_true] at k ⊢
      exact k
    · refine s_if (a_t (v_eqI (v_var rfl) v_c)) (fun h2 => ?_) (fun h2 => ?_)
      · refine s_do (va_cons (v_var rfl) (va_cons (vm_item M hne (v_var rfl) (v_var rfl) (by first | omega | (simp only [setC, List.length_set, skip_len, aimP_len] at *; omega)) (by first | omega | (simp only [setC, List.length_set, skip_len, aimP_len] at *; omega))) va_nil)) ⟨H0, p, dx, l, m, _, rfl, rfl, ?_⟩
        try dsimp only
        try simp only [decide_eq_true_eq, decide_eq_false_iff_not, not_dec] at h1 h2
        simp only [movedM, riseM, h1, h2, if_true, if_false, if_pos, if_neg, not_false_eq_true, reduceIte, Bool.false_eq_true] at k ⊢
        exact k
      · refine s_if (a_t (v_eqI (v_var rfl) v_c)) (fun h3 => ?_) (fun h3 => ?_)
        · refine qm_item M hne (v_mod (v_add (vm_item M hne (v_var rfl) (v_var rfl) (by first | omega | (simp only [setC, List.length_set, skip_len, aimP_len] at *; omega)) (by first | omega | (simp only [setC, List.length_set, skip_len, aimP_len] at *; omega))) v_c) v_c (by decide)) (v_var rfl) (v_var rfl) (by first | omega | (simp only [setC, List.length_set, skip_len, aimP_len] at *; omega)) (by first | omega | (simp only [setC, List.length_set, skip_len, aimP_len] at *; omega)) ?_
          refine s_if (a_t (v_eqI (vm_item M hne (v_var rfl) (v_var rfl) (by first | omega | (simp only [setC, List.length_set, skip_len, aimP_len] at *; omega)) (by first | omega | (simp only [setC, List.length_set, skip_len, aimP_len] at *; omega))) v_c)) (fun h4 => ?_) (fun h4 => ?_)
          · refine s_do (va_cons (v_var rfl) va_nil) ⟨H0, p, dx, l, _, rfl, rfl, ?_⟩
            try dsimp only
            try simp only [decide_eq_true_eq, decide_eq_false_iff_not, not_dec] at h1 h2 h3 h4
            simp only [movedM, riseM, h1, h2, h3, h4, if_true, if_false, if_pos, if_neg, not_false_eq_true, reduceIte, Bool.false_eq_true] at k ⊢
            exact k
          · refine s_next ?_
            try simp only [decide_eq_true_eq, decide_eq_false_iff_not, not_dec] at h1 h2 h3 h4
            simp only [movedM, riseM, h1, h2, h3, h4, if_true, if_false, if_pos, if_neg, not_false_eq_true, reduceIte, Bool.false_eq_true] at k ⊢
            exact k
        · refine s_if (a_t (v_eqI (v_var rfl) v_c)) (fun h5 => ?_) (fun h5 => ?_)
          · refine qm_item M hne (vm_total M (v_var rfl)) (v_var rfl) (v_var rfl) (by first | omega | (simp only [setC, List.length_set, skip_len, aimP_len] at *; omega)) (by first | omega | (simp only [setC, List.length_set, skip_len, aimP_len] at *; omega)) ?_
            refine sm_total M v_c (v_var rfl) ?_
            try simp only [decide_eq_true_eq, decide_eq_false_iff_not, not_dec] at h1 h2 h3 h5
            simp only [movedM, riseM, h1, h2, h3, h5, if_true, if_false, if_pos, if_neg, not_false_eq_true, reduceIte, Bool.false_eq_true] at k ⊢
            exact k
          · refine s_if (a_t (v_eqI (v_var rfl) v_c)) (fun h6 => ?_) (fun h6 => ?_)
            · refine qm_item M hne (vm_at M (v_var rfl)) (v_var rfl) (v_var rfl) (by first | omega | (simp only [setC, List.length_set, skip_len, aimP_len] at *; omega)) (by first | omega | (simp only [setC, List.length_set, skip_len, aimP_len] at *; omega)) ?_
              refine sm_at M (v_mod (v_add (v_var rfl) v_c) v_c (by decide)) (v_var rfl) ?_
              try simp only [decide_eq_true_eq, decide_eq_false_iff_not, not_dec] at h1 h2 h3 h5 h6
              simp only [movedM, riseM, h1, h2, h3, h5, h6, if_true, if_false, if_pos, if_neg, not_false_eq_true, reduceIte, Bool.false_eq_true] at k ⊢
              exact k
            · refine sm_at M (v_var rfl) (v_var rfl) ?_
              try simp only [decide_eq_true_eq, decide_eq_false_iff_not, not_dec] at h1 h2 h3 h5 h6
              simp only [movedM, riseM, h1, h2, h3, h5, h6, if_true, if_false, if_pos, if_neg, not_false_eq_true, reduceIte, Bool.false_eq_true] at k ⊢
              exact k

theorem sc_rolled : FnScope ["machine", "bits", "carried"] ["machine", "bits"] (defScope s_rolled) := ⟨rfl, rfl, rfl, by decide +kernel, rfl, by decide +kernel, by decide +kernel⟩
theorem cal_rolled (T : Tx K mg) : Cal P w K mg base 1 "rolled" ["machine", "bits"] (spBits (He.ga K "Machine") rolledM) := by
  refine cal_mk T 5 5 rfl rfl sc_rolled (fun _ _ _ _ _ _ us hl => match us, hl with | [_, _], _ => rfl) (fun vs H Q E h => ?_) (fun f cdv A outer s H vs Q E hr h => ?_)
  · obtain ⟨H0, p, dx, l, m, bits, rfl, rfl, k⟩ := h
    rfl
  · obtain ⟨H0, p, dx, l, m, bits, rfl, rfl, k⟩ := h
    have M := T.mt
    refine ⟨_, (pss_cons (ps_set (i := 2) sc_rolled.nd rfl (Or.inl rfl) (pe_fld (pv 0) rfl)) (C8.pss_cut (ps_if (pt_cmpR op_eq (pe_op op_mod (pv 1) pe_int) pe_int (nomark _)) (pss_cons (ps_fld (pv 0) (pe_op op_fdiv (pe_fld (pv 0) rfl) pe_int) rfl) (pss_one (ps_fld (pv 0) (pe_op op_add (pe_op op_mod (pe_op op_mul pe_int (pe_fld (pv 0) rfl)) pe_int) (pv 2)) rfl))) pss_nil) (pss_one (ps_if (pt_cmpR op_eq (pe_op op_mod (pv 1) pe_int) pe_int (nomark _)) (pss_cons (ps_fld (pv 0) (pe_op op_mod (pe_fld (pv 0) rfl) pe_int) rfl) (pss_one (ps_fld (pv 0) (pe_op op_add (pe_op op_fdiv (pe_fld (pv 0) rfl) pe_int) (pe_op op_mul pe_int (pv 2))) rfl))) pss_nil)))), ?_⟩
    refine q_set (vm_mark M (v_var rfl)) ?_
    refine q_cutH (H1 := mput (He.ga K "Machine") H0 p dx l (rolled1 m bits)) (s_if (a_t (v_eqI (v_mod (v_var rfl) v_c (by decide)) v_c)) (fun h1 => ?_) (fun h1 => ?_)) ?_
    · refine qm_mark M (v_fdiv (vm_total M (v_var rfl)) v_c ⟨by decide, by decide⟩) (v_var rfl) ?_
      refine sm_total M (v_add (v_mod (v_mul v_c (vm_total M (v_var rfl)) (.inl ⟨by decide, by decide⟩)) v_c (by decide)) (v_var rfl)) (v_var rfl) ?_
      try simp only [decide_eq_true_eq, decide_eq_false_iff_not, not_dec] at h1
      exact ⟨rfl, by simp only [rolled1, h1, if_true, if_false, reduceIte, Bool.false_eq_true]⟩
    · refine s_next ?_
      try simp only [decide_eq_true_eq, decide_eq_false_iff_not, not_dec] at h1
      exact ⟨rfl, by simp only [rolled1, h1, if_true, if_false, reduceIte, Bool.false_eq_true]⟩
    refine s_if (a_t (v_eqI (v_mod (v_var rfl) v_c (by decide)) v_c)) (fun h2 => ?_) (fun h2 => ?_)
    · refine qm_mark M (v_mod (vm_total M (v_var rfl)) v_c (by decide)) (v_var rfl) ?_
      refine sm_total M (v_add (v_fdiv (vm_total M (v_var rfl)) v_c ⟨by decide, by decide⟩) (v_mul v_c (v_var rfl) (.inl ⟨by decide, by decide⟩))) (v_var rfl) ?_
      try simp only [decide_eq_true_eq, decide_eq_false_iff_not, not_dec] at h2
      simp only [rolledM, h2, if_true, if_false, if_pos, if_neg, not_false_eq_true, reduceIte, Bool.false_eq_true] at k ⊢
      exact k
    · refine s_next ?_
      try simp only [decide_eq_true_eq, decide_eq_false_iff_not, not_dec] at h2
      simp only [rolledM, h2, if_true, if_false, if_pos, if_neg, not_false_eq_true, reduceIte, Bool.false_eq_true] at k ⊢
      exact k

theorem sc_changed : FnScope ["machine", "bits"] ["machine", "bits"] (defScope s_changed) := ⟨rfl, rfl, rfl, by decide +kernel, rfl, by decide +kernel, by decide +kernel⟩
theorem cal_changed (T : Tx K mg) : Cal P w K mg base 2 "changed" ["machine", "bits"] (spBits (He.ga K "Machine") changedM) := by
  refine cal_mk T 6 6 rfl rfl sc_changed (fun _ _ _ _ _ _ us hl => match us, hl with | [_, _], _ => rfl) (fun vs H Q E h => ?_) (fun f cdv A outer s H vs Q E hr h => ?_)
  · obtain ⟨H0, p, dx, l, m, bits, rfl, rfl, k⟩ := h
    rfl
  · obtain ⟨H0, p, dx, l, m, bits, rfl, rfl, k⟩ := h
    have M := T.mt
    refine ⟨_, (C8.pss_cut (ps_if (pt_cmpR op_eq (pe_op op_fdiv (pv 1) pe_int) pe_int (nomark _)) (pss_one (ps_fld (pv 0) pe_int rfl)) pss_nil) (C8.pss_cut (ps_if (pt_cmpR op_eq (pe_op op_mod (pe_op op_fdiv (pv 1) pe_int) pe_int) pe_int (nomark _)) (pss_one (ps_fld (pv 0) (pe_op op_sub pe_int (pe_fld (pv 0) rfl)) rfl)) pss_nil) (C8.pss_cut (ps_if (pt_cmpR op_eq (pe_op op_mod (pe_op op_fdiv (pv 1) pe_int) pe_int) pe_int (nomark _)) (pss_one (ps_fld (pv 0) (pe_op op_sub pe_int (pe_fld (pv 0) rfl)) rfl)) pss_nil) (C8.pss_cut (ps_if (pt_cmpR op_eq (pe_op op_mod (pe_op op_fdiv (pv 1) pe_int) pe_int) pe_int (nomark _)) (pss_one (ps_expr (pe_cal (cal_added (K := K) T) hr (by decide) rfl (pa_cons (pv 0) (pa_cons pe_int pa_nil))))) pss_nil) (pss_one (ps_expr (pe_cal (cal_rolled (K := K) T) hr (by decide) rfl (pa_cons (pv 0) (pa_cons (pv 1) pa_nil))))))))), ?_⟩
    refine q_cutH (H1 := mput (He.ga K "Machine") H0 p dx l (chg1 m bits)) (s_if (a_t (v_eqI (v_fdiv (v_var rfl) v_c ⟨by decide, by decide⟩) v_c)) (fun h1 => ?_) (fun h1 => ?_)) ?_
    · refine sm_total M v_c (v_var rfl) ?_
      try simp only [decide_eq_true_eq, decide_eq_false_iff_not, not_dec] at h1
      exact ⟨rfl, by simp only [chg1, h1, if_true, if_false, reduceIte, Bool.false_eq_true]⟩
    · refine s_next ?_
      try simp only [decide_eq_true_eq, decide_eq_false_iff_not, not_dec] at h1
      exact ⟨rfl, by simp only [chg1, h1, if_true, if_false, reduceIte, Bool.false_eq_true]⟩
    refine q_cutH (H1 := mput (He.ga K "Machine") H0 p dx l (chg2 (chg1 m bits) bits)) (s_if (a_t (v_eqI (v_mod (v_fdiv (v_var rfl) v_c ⟨by decide, by decide⟩) v_c (by decide)) v_c)) (fun h2 => ?_) (fun h2 => ?_)) ?_
    · refine sm_total M (v_sub v_c (vm_total M (v_var rfl))) (v_var rfl) ?_
      try simp only [decide_eq_true_eq, decide_eq_false_iff_not, not_dec] at h2
      exact ⟨rfl, by simp only [chg2, h2, if_true, if_false, reduceIte, Bool.false_eq_true]⟩
    · refine s_next ?_
      try simp only [decide_eq_true_eq, decide_eq_false_iff_not, not_dec] at h2
      exact ⟨rfl, by simp only [chg2, h2, if_true, if_false, reduceIte, Bool.false_eq_true]⟩
    refine q_cutH (H1 := mput (He.ga K "Machine") H0 p dx l (chg3 (chg2 (chg1 m bits) bits) bits)) (s_if (a_t (v_eqI (v_mod (v_fdiv (v_var rfl) v_c ⟨by decide, by decide⟩) v_c (by decide)) v_c)) (fun h3 => ?_) (fun h3 => ?_)) ?_
    · refine sm_mark M (v_sub v_c (vm_mark M (v_var rfl))) (v_var rfl) ?_
      try simp only [decide_eq_true_eq, decide_eq_false_iff_not, not_dec] at h3
      exact ⟨rfl, by simp only [chg3, h3, if_true, if_false, reduceIte, Bool.false_eq_true]⟩
    · refine s_next ?_
      try simp only [decide_eq_true_eq, decide_eq_false_iff_not, not_dec] at h3
      exact ⟨rfl, by simp only [chg3, h3, if_true, if_false, reduceIte, Bool.false_eq_true]⟩
    refine q_cutH (H1 := mput (He.ga K "Machine") H0 p dx l (chg4 (chg3 (chg2 (chg1 m bits) bits) bits) bits)) (s_if (a_t (v_eqI (v_mod (v_fdiv (v_var rfl) v_c ⟨by decide, by decide⟩) v_c (by decide)) v_c)) (fun h4 => ?_) (fun h4 => ?_)) ?_
    · refine s_do (va_cons (v_var rfl) (va_cons v_c va_nil)) ⟨H0, p, dx, l, _, _, rfl, rfl, ?_⟩
      try dsimp only
      try simp only [decide_eq_true_eq, decide_eq_false_iff_not, not_dec] at h4
      exact ⟨rfl, by simp only [chg4, h4, if_true, if_false, reduceIte, Bool.false_eq_true]⟩
    · refine s_next ?_
      try simp only [decide_eq_true_eq, decide_eq_false_iff_not, not_dec] at h4
      exact ⟨rfl, by simp only [chg4, h4, if_true, if_false, reduceIte, Bool.false_eq_true]⟩
    refine s_do (va_cons (v_var rfl) (va_cons (v_var rfl) va_nil)) ⟨H0, p, dx, l, _, _, rfl, rfl, ?_⟩
    try dsimp only
    exact k

theorem sc_tested : FnScope ["machine", "bits", "found"] ["machine", "bits"] (defScope s_tested) := ⟨rfl, rfl, rfl, by decide +kernel, rfl, by decide +kernel, by decide +kernel⟩
theorem cal_tested (T : Tx K mg) : Cal P w K mg base 2 "tested" ["machine", "bits"] (spBits (He.ga K "Machine") testedM) := by
  refine cal_mk T 7 7 rfl rfl sc_tested (fun _ _ _ _ _ _ us hl => match us, hl with | [_, _], _ => rfl) (fun vs H Q E h => ?_) (fun f cdv A outer s H vs Q E hr h => ?_)
  · obtain ⟨H0, p, dx, l, m, bits, rfl, rfl, k⟩ := h
    rfl
  · obtain ⟨H0, p, dx, l, m, bits, rfl, rfl, k⟩ := h
    have M := T.mt
    refine ⟨_, (pss_cons (ps_set (i := 2) sc_tested.nd rfl (Or.inl rfl) (pe_and (pe_cmpR op_eq (pe_op op_fdiv (pv 1) pe_int) pe_int (nomark _)) (pe_one (pe_cmpR op_ge (pe_fld (pv 0) rfl) pe_int (nomark _))))) (pss_cons (ps_set (i := 2) sc_tested.nd rfl (Or.inl rfl) (pe_or (pv 2) (pe_one (pe_and (pe_cmpR op_eq (pe_op op_mod (pe_op op_fdiv (pv 1) pe_int) pe_int) pe_int (nomark _)) (pe_one (pe_cmpR op_eq (pe_fld (pv 0) rfl) pe_int (nomark _))))))) (pss_cons (ps_set (i := 2) sc_tested.nd rfl (Or.inl rfl) (pe_or (pv 2) (pe_one (pe_and (pe_cmpR op_eq (pe_op op_mod (pe_op op_fdiv (pv 1) pe_int) pe_int) pe_int (nomark _)) (pe_one (pe_cmpR op_eq (pe_fld (pv 0) rfl) pe_int (nomark _))))))) (C8.pss_cut (ps_if (pt_cmpR op_ne (pv 2) (pe_cmpR op_eq (pe_op op_mod (pe_op op_fdiv (pv 1) pe_int) pe_int) pe_int (nomark _)) (nomark _)) (pss_one (ps_expr (pe_cal (cal_skip (K := K) T) hr (by decide) rfl (pa_cons (pv 0) pa_nil)))) pss_nil) (C8.pss_cut (ps_if (pt_cmpR op_eq (pe_op op_mod (pe_op op_fdiv (pv 1) pe_int) pe_int) pe_int (nomark _)) (pss_one (ps_fld (pv 0) pe_int rfl)) pss_nil) (pss_one (ps_if (pt_cmpR op_eq (pe_op op_mod (pv 1) pe_int) pe_int (nomark _)) (pss_one (ps_fld (pv 0) pe_int rfl)) pss_nil))))))), ?_⟩
    refine q_set (v_andV (v_eqI (v_fdiv (v_var rfl) v_c ⟨by decide, by decide⟩) v_c) (fun hv1 => (v_ge (vm_total M (v_var rfl)) v_c))) ?_
    refine q_set (v_orV (v_var rfl) (fun hv3 => (v_andV (v_eqI (v_mod (v_fdiv (v_var rfl) v_c ⟨by decide, by decide⟩) v_c (by decide)) v_c) (fun hv2 => (v_eqI (vm_total M (v_var rfl)) v_c))))) ?_
    refine q_set (v_orV (v_var rfl) (fun hv5 => (v_andV (v_eqI (v_mod (v_fdiv (v_var rfl) v_c ⟨by decide, by decide⟩) v_c (by decide)) v_c) (fun hv4 => (v_eqI (vm_mark M (v_var rfl)) v_c))))) ?_
    refine q_cutH (H1 := mput (He.ga K "Machine") H0 p dx l (tst1 m bits)) (s_if (a_t (v_neB (v_var rfl) (v_eqI (v_mod (v_fdiv (v_var rfl) v_c ⟨by decide, by decide⟩) v_c (by decide)) v_c))) (fun h6 => ?_) (fun h6 => ?_)) ?_
    · refine s_do (va_cons (v_var rfl) va_nil) ⟨H0, p, dx, l, _, rfl, rfl, ?_⟩
      try dsimp only
      try simp only [decide_eq_true_eq, decide_eq_false_iff_not, not_dec] at h6
      exact ⟨rfl, by simp only [tst1, foundM, h6, if_true, if_false, reduceIte, Bool.false_eq_true]⟩
    · refine s_next ?_
      try simp only [decide_eq_true_eq, decide_eq_false_iff_not, not_dec] at h6
      exact ⟨rfl, by simp only [tst1, foundM, h6, if_true, if_false, reduceIte, Bool.false_eq_true]⟩
    refine q_cutH (H1 := mput (He.ga K "Machine") H0 p dx l (tst2 (tst1 m bits) bits)) (s_if (a_t (v_eqI (v_mod (v_fdiv (v_var rfl) v_c ⟨by decide, by decide⟩) v_c (by decide)) v_c)) (fun h7 => ?_) (fun h7 => ?_)) ?_
    · refine sm_total M v_c (v_var rfl) ?_
      try simp only [decide_eq_true_eq, decide_eq_false_iff_not, not_dec] at h7
      exact ⟨rfl, by simp only [tst2, h7, if_true, if_false, reduceIte, Bool.false_eq_true]⟩
    · refine s_next ?_
      try simp only [decide_eq_true_eq, decide_eq_false_iff_not, not_dec] at h7
      exact ⟨rfl, by simp only [tst2, h7, if_true, if_false, reduceIte, Bool.false_eq_true]⟩
    refine s_if (a_t (v_eqI (v_mod (v_var rfl) v_c (by decide)) v_c)) (fun h8 => ?_) (fun h8 => ?_)
    · refine sm_mark M v_c (v_var rfl) ?_
      try simp only [decide_eq_true_eq, decide_eq_false_iff_not, not_dec] at h8
      simp only [testedM, tst3, h8, if_true, if_false, if_pos, if_neg, not_false_eq_true, reduceIte, Bool.false_eq_true] at k ⊢
      exact k
    · refine s_next ?_
      try simp only [decide_eq_true_eq, decide_eq_false_iff_not, not_dec] at h8
      simp only [testedM, tst3, h8, if_true, if_false, if_pos, if_neg, not_false_eq_true, reduceIte, Bool.false_eq_true] at k ⊢
      exact k

theorem sc_deed : FnScope ["machine", "kind", "far", "place"] ["machine"] (defScope s_deed) := ⟨rfl, rfl, rfl, by decide +kernel, rfl, by decide +kernel, by decide +kernel⟩
theorem cal_deed (T : Tx K mg) : Cal P w K mg base 3 "deed" ["machine"] (spDeed (He.ga K "Machine")) := by
  refine cal_mk T 8 8 rfl rfl sc_deed (fun _ _ _ _ _ _ us hl => match us, hl with | [_], _ => rfl) (fun vs H Q E h => ?_) (fun f cdv A outer s H vs Q E hr h => ?_)
  · obtain ⟨H0, p, dx, l, m, rfl, hne, hw, rfl, k⟩ := h
    rfl
  · obtain ⟨H0, p, dx, l, m, rfl, hne, hw, rfl, k⟩ := h
    have M := T.mt
    refine ⟨_, (pss_cons (ps_asg (pe_cal (cal_parts (K := K) T) hr (by decide) rfl (pa_cons (pe_ix ix_list (pe_fld (pv 0) rfl) (pe_fld (pv 0) rfl) (fun _ _ => rfl)) pa_nil)) (pg_tup (by rfl) (pgs_cons (pg_name (i := 1) sc_deed.nd rfl (Or.inl rfl)) (pgs_cons (pg_name (i := 2) sc_deed.nd rfl (Or.inl rfl)) (pgs_cons (pg_name (i := 3) sc_deed.nd rfl (Or.inl rfl)) pgs_nil))))) (pss_cons (ps_expr (pe_cal (cal_skip (K := K) T) hr (by decide) rfl (pa_cons (pv 0) pa_nil))) (pss_cons (ps_if (pt_cmpR op_lt (pv 1) pe_int (nomark _)) (pss_cons (ps_expr (pe_cal (cal_moved (K := K) T) hr (by decide) rfl (pa_cons (pv 0) (pa_cons (pv 1) (pa_cons (pe_cal (cal_aim (K := K) T) hr (by decide) rfl (pa_cons (pv 0) (pa_cons (pv 2) (pa_cons (pv 3) pa_nil)))) pa_nil))))) (pss_one (ps_ret pe_non))) pss_nil) (pss_cons (ps_if (pt_cmpR op_eq (pv 1) pe_int (nomark _)) (pss_one (ps_ret (pv 3))) pss_nil) (pss_cons (ps_if (pt_cmpR op_eq (pv 2) pe_int (nomark _)) (pss_one (ps_expr (pe_cal (cal_changed (K := K) T) hr (by decide) rfl (pa_cons (pv 0) (pa_cons (pv 3) pa_nil))))) (pss_one (ps_expr (pe_cal (cal_tested (K := K) T) hr (by decide) rfl (pa_cons (pv 0) (pa_cons (pv 3) pa_nil)))))) (pss_one (ps_ret pe_non))))))), ?_⟩
    obtain ⟨hl, a0, a1⟩ := hw
    refine (vm_item M hne (v_var rfl) (vm_at M (v_var rfl)) (by omega) (by omega)) _ ?_
    refine ⟨_, rfl, fun q hq => ?_⟩
    obtain ⟨e1, hq0⟩ := mput_new (o := .tup [.int (getC m m.pc / 128), .int (getC m m.pc / 64 % 2), .int (getC m m.pc % 64)]) hq
    have sm : Same H0 (upd H0 q (.tup [.int (getC m m.pc / 128), .int (getC m m.pc / 64 % 2), .int (getC m m.pc % 64)])) := fun b o e => by rw [upd_ne (ne_of_none e hq0)]; exact e
    refine ⟨q, _, rfl, SqT.of upd_same, rfl, _, _, rfl, _, _, rfl, _, _, rfl, rfl, ?_⟩
    rw [e1]
    replace k := k _ sm
    revert k
    generalize upd H0 q (.tup [.int (getC m m.pc / 128), .int (getC m m.pc / 64 % 2), .int (getC m m.pc % 64)]) = H1
    intro k
    refine q_do (va_cons (v_var rfl) va_nil) ⟨H1, p, dx, l, _, rfl, rfl, ?_⟩
    refine q_if (a_t (v_lt (v_var rfl) v_c)) (fun h1 => ?_) (fun h1 => ?_)
    · refine ⟨_, rfl, _, rfl, _, rfl, _, rfl, _, rfl, H1, p, dx, l, skipM m, _, _, rfl, hne, hl, by omega, by omega, rfl, ?_⟩
      refine ⟨H1, p, dx, l, _, _, _, rfl, hne, by rw [aimP_len]; exact hl, aimV_lo (by omega), aimV_hi (by omega), rfl, ?_⟩
      try dsimp only
      refine s_ret v_c ?_
      have g : getC m m.pc / 128 < 6 := of_decide_eq_true h1
      have g2 : ¬ getC m m.pc / 128 = 6 := by omega
      simp only [deedM, deedV, if_pos g, if_neg g2] at k
      exact k
    · refine s_next ?_
      have g : ¬ getC m m.pc / 128 < 6 := of_decide_eq_false h1
      refine q_if (a_t (v_eqI (v_var rfl) v_c)) (fun h2 => ?_) (fun h2 => ?_)
      · refine s_ret (v_var rfl) ?_
        have g2 : getC m m.pc / 128 = 6 := of_decide_eq_true h2
        simp only [deedM, deedV, if_neg g, if_pos g2] at k
        exact k
      · refine s_next ?_
        have g2 : ¬ getC m m.pc / 128 = 6 := of_decide_eq_false h2
        simp only [deedM, deedV, if_neg g, if_neg g2] at k
        refine q_if (a_t (v_eqI (v_var rfl) v_c)) (fun h3 => ?_) (fun h3 => ?_)
        · have g3 : getC m m.pc / 64 % 2 = 0 := of_decide_eq_true h3
          rw [if_pos g3] at k
          refine s_do (va_cons (v_var rfl) (va_cons (v_var rfl) va_nil)) ⟨H1, p, dx, l, _, _, rfl, rfl, ?_⟩
          try dsimp only
          refine s_ret v_c ?_
          exact k
        · have g3 : ¬ getC m m.pc / 64 % 2 = 0 := of_decide_eq_false h3
          rw [if_neg g3] at k
          refine s_do (va_cons (v_var rfl) (va_cons (v_var rfl) va_nil)) ⟨H1, p, dx, l, _, _, rfl, rfl, ?_⟩
          try dsimp only
          refine s_ret v_c ?_
          exact k

theorem sc_Machine___init__ : FnScope ["self", "cells", "total", "mark", "at"] ["self", "cells", "total", "mark", "at"] (defScope s_Machine___init__) := ⟨rfl, rfl, rfl, by decide +kernel, rfl, by decide +kernel, by decide +kernel⟩
theorem cal_Machine (T : Tx K mg) : CalC P w K mg base 1 "Machine" ["self", "cells", "total", "mark", "at"] (spMachine K (He.ga K "Machine")) := by
  refine calC_mk T 22 27 29 rfl rfl rfl sc_Machine___init__ (fun _ _ _ _ _ _ us hl => match us, hl with | [_, _, _, _, _], _ => rfl) (fun vs H Q E h => ?_) (fun f cdv A outer s H vs Q E hr h => ?_)
  · obtain ⟨x, dx, a, cs, t, mk, pc, rfl, hx, hS, k⟩ := h
    rfl
  · obtain ⟨x, dx, a, cs, t, mk, pc, rfl, hx, hS, k⟩ := h
    have M := T.mt
    refine ⟨_, (pss_cons (ps_fld (pv 0) (pe_callTy call_list_of (by rfl) (T.free 23) (by decide +kernel) (pa_cons (pv 1) pa_nil)) rfl) (pss_cons (ps_fld (pv 0) (pv 2) rfl) (pss_cons (ps_fld (pv 0) (pv 3) rfl) (pss_one (ps_fld (pv 0) (pv 4) rfl))))), ?_⟩
    refine ⟨_, rfl, a, cs.map V.int, rfl, hS, fun l hl => ?_⟩
    have nxl : x ≠ l := ne_of_none hx hl
    refine ⟨_, rfl, x, _, dx, [], rfl, (by rw [upd_ne nxl]; exact hx), M.cl, M.nCells, (by show 0 < 1000; decide), ?_⟩
    refine ⟨_, rfl, _, rfl, x, _, dx, _, rfl, upd_same, M.cl, M.nTotal, (by show 1 < 1000; decide), ?_⟩
    refine ⟨_, rfl, _, rfl, x, _, dx, _, rfl, upd_same, M.cl, M.nMark, (by show 2 < 1000; decide), ?_⟩
    refine ⟨_, rfl, _, rfl, x, _, dx, _, rfl, upd_same, M.cl, M.nAt, (by show 3 < 1000; decide), ?_⟩
    rw [upd_upd, upd_upd, upd_upd]
    exact k l hl
end
/-! ### exact new objects -/
section
variable {σ : L2.St} {H : Hp} {K : PySem.W.Frag} {a : Addr} {te ta tb tl : TE} {v x y : V} {N : L2.St → Hp → Prop} {R : VK} {B C' : L2.St → Hp → Prop} {tz : TS} {tA : TA} {xs ys vs : List V} {n : Int} {i j : Int}
/-- a new list of xs, else the heap as it is -/
def NewL (te : TE) (σ : L2.St) (H : Hp) (xs : List V) : Prop := ∀ Q : VK, (∀ D, H D = none → Q (.ref D) (upd H D (.lst xs))) → te σ H Q
def NewT (te : TE) (σ : L2.St) (H : Hp) (xs : List V) : Prop := ∀ Q : VK, (∀ D, H D = none → Q (.ref D) (upd H D (.tup xs))) → te σ H Q
theorem q_setN {k : Nat} (h : NewL te σ H xs) (q : ∀ D', H D' = none → tz ⟨N, R, B, C'⟩ (σ.set k (some (.ref D'))) (upd H D' (.lst xs))) : tSeq (tAsg te (gName k)) tz ⟨N, R, B, C'⟩ σ H := h _ q
theorem q_setNT {k : Nat} (h : NewT te σ H xs) (q : ∀ D', H D' = none → tz ⟨N, R, B, C'⟩ (σ.set k (some (.ref D'))) (upd H D' (.tup xs))) : tSeq (tAsg te (gName k)) tz ⟨N, R, B, C'⟩ σ H := h _ q
theorem s_retN (h : NewL te σ H xs) (q : ∀ D', H D' = none → R (.ref D') (upd H D' (.lst xs))) : tRet te ⟨N, R, B, C'⟩ σ H := h _ q
theorem s_retNT (h : NewT te σ H xs) (q : ∀ D', H D' = none → R (.ref D') (upd H D' (.tup xs))) : tRet te ⟨N, R, B, C'⟩ σ H := h _ q
theorem x_ret (h : te σ H R) : tRet te ⟨N, R, B, C'⟩ σ H := h
theorem qx_set {k : Nat} (h : te σ H fun x H1 => tz ⟨N, R, B, C'⟩ (σ.set k (some x)) H1) : tSeq (tAsg te (gName k)) tz ⟨N, R, B, C'⟩ σ H := h
theorem sx_set {k : Nat} (h : te σ H fun x H1 => N (σ.set k (some x)) H1) : tAsg te (gName k) ⟨N, R, B, C'⟩ σ H := h
theorem qx_asg {g : TG} (h : te σ H fun x H1 => g x σ H1 (tz ⟨N, R, B, C'⟩)) : tSeq (tAsg te g) tz ⟨N, R, B, C'⟩ σ H := h
theorem sx_asg {g : TG} (h : te σ H fun x H1 => g x σ H1 N) : tAsg te g ⟨N, R, B, C'⟩ σ H := h
theorem qx_if {t : TT} {t1 t2 : TS} (h : t σ H fun b H1 => if b = true then t1 ⟨tz ⟨N, R, B, C'⟩, R, B, C'⟩ σ H1 else t2 ⟨tz ⟨N, R, B, C'⟩, R, B, C'⟩ σ H1) : tSeq (tIfS t t1 t2) tz ⟨N, R, B, C'⟩ σ H := h
theorem sx_if {t : TT} {t1 t2 : TS} (h : t σ H fun b H1 => if b = true then t1 ⟨N, R, B, C'⟩ σ H1 else t2 ⟨N, R, B, C'⟩ σ H1) : tIfS t t1 t2 ⟨N, R, B, C'⟩ σ H := h
theorem x_or {t u : TT} {Q : Bool → Hp → Prop} (h : t σ H fun c H1 => if c = true then Q true H1 else u σ H1 Q) : tOr t u σ H Q := h
theorem x_and {t u : TT} {Q : Bool → Hp → Prop} (h : t σ H fun c H1 => if c = true then u σ H1 Q else Q false H1) : tAnd t u σ H Q := h
theorem x_not {t : TT} {Q : Bool → Hp → Prop} (h : t σ H fun c H1 => Q (!c) H1) : tNot t σ H Q := h
theorem x_test {Q : Bool → Hp → Prop} (h : te σ H fun x H1 => ∃ k, x = .bl k ∧ Q k H1) : tTest te σ H Q := h
theorem x_ans {t : TT} {b : Bool} {Q : Bool → Hp → Prop} (h : Ans t σ H b) (q : Q b H) : t σ H Q := h _ q
theorem x_andV {Q : VK} (h : ta σ H fun x H1 => ∃ c, x = .bl c ∧ if c = true then tb σ H1 Q else Q (.bl false) H1) : tAndV ta tb σ H Q := h
theorem x_call {sp : Sp} {Q : VK} (h : ValA tA σ H vs) (hs : sp vs H Q E0) : tCall sp [] E0 tA σ H Q := h _ (show sp (vs ++ []) H Q E0 from by rw [List.append_nil]; exact hs)
theorem x_op {r : R2} {Q : VK} (h : ta σ H fun x H1 => tb σ H1 fun y H2 => r x y H2 Q) : tOp r ta tb σ H Q := h
theorem x_L {Q : VK} (h : NewL te σ H xs) (q : ∀ D, H D = none → Q (.ref D) (upd H D (.lst xs))) : te σ H Q := h _ q
theorem x_T {Q : VK} (h : NewT te σ H xs) (q : ∀ D, H D = none → Q (.ref D) (upd H D (.tup xs))) : te σ H Q := h _ q
theorem x_v {Q : VK} (h : Val te σ H v) (q : Q v H) : te σ H Q := h _ q
theorem nl_disp (h : ValA tA σ H xs) (hl : xs.length ≤ 100000 := by simp) : NewL (tLst tA) σ H xs := fun _ q => h _ ⟨Nat.le_trans hl (by decide), q⟩
theorem nt_disp (h : ValA tA σ H xs) (hl : xs.length ≤ 100000 := by simp) : NewT (tTup tA) σ H xs := fun _ q => h _ ⟨Nat.le_trans hl (by decide), q⟩
def rListS (K : PySem.W.Frag) : List V → Hp → VK → Prop := fun xs H Q => ∃ p ys, xs = [.ref p] ∧ (SqL K H p ys ∨ SqT K H p ys) ∧ ∀ l, H l = none → Q (.ref l) (upd H l (.lst ys))
theorem nl_list (h : Val ta σ H (.ref a)) (hs : SqL K H a xs ∨ SqT K H a xs) : NewL (tCB (rListS K) (tCons ta tNil)) σ H xs := fun _ q => h _ ⟨a, xs, rfl, hs, q⟩
theorem nl_call {sp : Sp} (h : ValA tA σ H vs) (hs : ∀ Q : VK, (∀ D, H D = none → Q (.ref D) (upd H D (.lst xs))) → sp vs H Q E0) : NewL (tCall sp [] E0 tA) σ H xs := fun Q q => h _ (show sp (vs ++ []) H Q E0 from by rw [List.append_nil]; exact hs Q q)
theorem nt_call {sp : Sp} (h : ValA tA σ H vs) (hs : ∀ Q : VK, (∀ D, H D = none → Q (.ref D) (upd H D (.tup xs))) → sp vs H Q E0) : NewT (tCall sp [] E0 tA) σ H xs := fun Q q => h _ (show sp (vs ++ []) H Q E0 from by rw [List.append_nil]; exact hs Q q)
theorem nl_slice {lo hi : Option Int} {tlo thi : TO} (h : Val ta σ H (.ref a)) (hs : SqL K H a xs) (h1 : ∀ Q : Option Int → Hp → Prop, Q lo H → tlo σ H Q) (h2 : ∀ Q : Option Int → Hp → Prop, Q hi H → thi σ H Q) : NewL (tSl (rSlL K) ta tlo thi) σ H (cutV xs lo hi) :=
  fun Q q => h _ (h1 _ (h2 _ ⟨a, xs, rfl, hs, q⟩))
theorem o_none : ∀ Q : Option Int → Hp → Prop, Q none H → tNoPart σ H Q := fun _ q => q
theorem o_some (h : Val te σ H (.int i)) : ∀ Q : Option Int → Hp → Prop, Q (some i) H → tPart te σ H Q := fun _ q => h _ ⟨_, rfl, q⟩
/-- [e for k in range(n)], e leaving the heap -/
theorem nl_lcR {k : Nat} {ws : List Nat} (f : Nat → V) (h : ValA tA σ H [.int n]) (hn : 0 ≤ n ∧ n ≤ 100000) (hw : ∀ x, wipe ((wipe σ ws).set k (some x)) ws = wipe σ ws)
    (he : ∀ (m : Nat) (D : Addr) (acc : List V), H D = none → (m : Int) < n → Val te ((wipe σ ws).set k (some (.int (m : Int)))) (upd H D (.lst acc)) (f m)) : NewL (tLc (iRng1 tA) (gName k) tYes te ws) σ H ((List.range n.toNat).map f) := fun Q q =>
  h _ ⟨n, rfl, by omega, by omega, fun D hD => lc_range (lo := 0) (n := n.toNat) (fun m H' => H' = upd H D (.lst ((List.range m).map f))) rfl (fun m H' hm e => by
    subst e
    have e0 : (0 : Int) + (m : Int) = (m : Int) := Int.zero_add _
    rw [e0]
    refine ⟨hw _, ?_⟩
    unfold tYes
    dsimp only
    rw [if_pos rfl]
    refine he m D _ hD (by omega) _ ⟨_, upd_same, ?_, ?_⟩
    · rw [List.length_map, List.length_range]
      exact Nat.lt_of_lt_of_le (show m < 100000 by omega) (by decide)
    · rw [upd_upd, List.range_succ, List.map_append]; rfl) (fun H' e => by rw [e]; exact q D hD)⟩
/-- [e for x in xs], e leaving the heap -/
theorem nl_lcL {k : Nat} {ws : List Nat} (f : V → V) (h : Val tl σ H (.ref a)) (hs : ∀ (D : Addr) (acc : List V), H D = none → SqL K (upd H D (.lst acc)) a xs) (hn : xs.length ≤ 100000) (hw : ∀ x, wipe ((wipe σ ws).set k (some x)) ws = wipe σ ws) (hs0 : SqL K H a xs)
    (he : ∀ (m : Nat) (x : V) (D : Addr) (acc : List V), H D = none → xs[m]? = some x → Val te ((wipe σ ws).set k (some x)) (upd H D (.lst acc)) (f x)) : NewL (tLc (iList K tl) (gName k) tYes te ws) σ H (xs.map f) := fun Q q =>
  h _ ⟨a, rfl, ⟨xs, hs0⟩, fun D hD => lc_list (xs := xs) (fun m H' => H' = upd H D (.lst ((xs.take m).map f))) rfl (fun m H' _ e => by rw [e]; exact hs D _ hD) (fun m x H' hm e => by
    subst e
    have hlt : m < xs.length := (List.getElem?_eq_some_iff.mp hm).1
    refine ⟨hw _, ?_⟩
    unfold tYes
    dsimp only
    rw [if_pos rfl]
    refine he m x D _ hD hm _ ⟨_, upd_same, ?_, ?_⟩
    · rw [List.length_map, List.length_take]
      exact Nat.lt_of_lt_of_le (show min m xs.length < 100000 by omega) (by decide)
    · rw [upd_upd, List.take_add_one, hm, List.map_append]; rfl) (fun H' e => by rw [e, List.take_length]; exact q D hD)⟩
end
/-! ### what lies unchanged behind new objects -/
theorem smN {H : Hp} {p : Addr} {o : HO} (h : H p = none) : Same H (upd H p o) := fun b u e => by rw [upd_ne (ne_of_none e h)]; exact e
theorem smM {H H' : Hp} {p : Addr} {o : HO} (e : Same H H') (h : H p = none) : Same H (upd H' p o) := fun b u q => by rw [upd_ne (ne_of_none q h)]; exact e b u q
theorem smP {C : Addr} {H H' : Hp} {p dx l : Addr} {m : Mc} (e : Same H H') (h1 : H p = none) (h2 : H l = none) : Same H (mput C H' p dx l m) := fun b u q => by rw [mput_ne (ne_of_none q h1) (ne_of_none q h2)]; exact e b u q
theorem smT {K : PySem.W.Frag} {H H' : Hp} {a : Addr} {xs : List V} (e : Same H H') (h : SqT K H a xs) : SqT K H' a xs := by
  rcases h with (h | ⟨o, h⟩) | h
  · exact .inl (.inl (e _ _ h))
  · exact .inl (.inr ⟨o, e _ _ h⟩)
  · exact .inr h
/-! ### data compared -/
theorem dpAll_ints {K : PySem.W.Frag} {H : Hp} : ∀ ns : List Int, DpAll K H (ns.map V.int) (ns.map PyData.int)
  | [] => .nil
  | n :: r => .cons (.int n) (dpAll_ints r)
theorem dp_intsL {K : PySem.W.Frag} {H : Hp} {a : Addr} {ns : List Int} (h : SqL K H a (ns.map V.int)) : Dp K H (.ref a) (.list (ns.map PyData.int)) := .lst h (dpAll_ints ns)
theorem dp_intsT {K : PySem.W.Frag} {H : Hp} {a : Addr} {ns : List Int} (h : SqT K H a (ns.map V.int)) : Dp K H (.ref a) (.tuple (ns.map PyData.int)) := .tup h (dpAll_ints ns)
theorem canLay_ints : ∀ ns : List Int, PyData.canLayAll0 (ns.map PyData.int) = true
  | [] => rfl
  | n :: r => by rw [List.map_cons, PyData.canLayAll0, PyData.canLay0, canLay_ints r]; rfl
theorem depth_ints : ∀ ns : List Int, PyData.depthAll (ns.map PyData.int) = 0
  | [] => rfl
  | n :: r => by rw [List.map_cons, PyData.depthAll, PyData.depth, depth_ints r]; rfl
theorem shaped_intsL (ns : List Int) : SeqAt.shaped (.list (ns.map PyData.int)) = true := by
  unfold SeqAt.shaped
  rw [PyData.canLay0, canLay_ints, PyData.depth, depth_ints]; rfl
theorem shaped_intsT (ns : List Int) : SeqAt.shaped (.tuple (ns.map PyData.int)) = true := by
  unfold SeqAt.shaped
  rw [PyData.canLay0, canLay_ints, PyData.depth, depth_ints]; rfl
theorem eqvAll_ints : ∀ ns ms : List Int, PyData.eqvAll (ns.map PyData.int) (ms.map PyData.int) = decide (ns = ms)
  | [], [] => rfl
  | [], m :: ms => rfl
  | n :: ns, [] => rfl
  | n :: ns, m :: ms => by
    rw [List.map_cons, List.map_cons, PyData.eqvAll, PyData.eqv, eqvAll_ints ns ms]
    by_cases h : n = m <;> by_cases h2 : ns = ms <;> simp [h, h2]
theorem eqv_intsL (ns ms : List Int) : PyData.eqv (.list (ns.map PyData.int)) (.list (ms.map PyData.int)) = decide (ns = ms) := by rw [PyData.eqv, eqvAll_ints]
theorem eqv_intsT (ns ms : List Int) : PyData.eqv (.tuple (ns.map PyData.int)) (.tuple (ms.map PyData.int)) = decide (ns = ms) := by rw [PyData.eqv, eqvAll_ints]
section
variable {σ : L2.St} {H : Hp} {K : PySem.W.Frag} {a b : Addr} {ta tb : TE} {x y : V} {d e : PyData} {ns ms : List Int}
theorem v_eqD (ha : Val ta σ H x) (hb : Val tb σ H y) (hd : Dp K H x d) (he : Dp K H y e) (sd : SeqAt.shaped d = true) (se : SeqAt.shaped e = true) : Val (tOp (rEqD K) ta tb) σ H (.bl (PyData.eqv d e)) := val_op ha hb fun _ q => ⟨d, e, hd, he, sd, se, q⟩
theorem v_neD (ha : Val ta σ H x) (hb : Val tb σ H y) (hd : Dp K H x d) (he : Dp K H y e) (sd : SeqAt.shaped d = true) (se : SeqAt.shaped e = true) : Val (tOp (rNeD K) ta tb) σ H (.bl (!PyData.eqv d e)) := val_op ha hb fun _ q => ⟨d, e, hd, he, sd, se, q⟩
theorem v_eqL (ha : Val ta σ H (.ref a)) (hb : Val tb σ H (.ref b)) (h1 : SqL K H a (ns.map V.int)) (h2 : SqL K H b (ms.map V.int)) : Val (tOp (rEqD K) ta tb) σ H (.bl (decide (ns = ms))) := by
  rw [← eqv_intsL]; exact v_eqD ha hb (dp_intsL h1) (dp_intsL h2) (shaped_intsL _) (shaped_intsL _)
theorem v_neL (ha : Val ta σ H (.ref a)) (hb : Val tb σ H (.ref b)) (h1 : SqL K H a (ns.map V.int)) (h2 : SqL K H b (ms.map V.int)) : Val (tOp (rNeD K) ta tb) σ H (.bl (!decide (ns = ms))) := by
  rw [← eqv_intsL]; exact v_neD ha hb (dp_intsL h1) (dp_intsL h2) (shaped_intsL _) (shaped_intsL _)
end
/-! ### the laws' readers -/
def cellAt (ns : List Int) (k : Int) : Int := ns.getD k.toNat 0
def mixV (c p m : Int) : Int := c * 48271 % p % m
def fillV (c most : Int) : List Int := (List.range 64).map fun (k : Nat) => mixV (c + 977 * (k : Int)) 10007 most
theorem mixV_lo {c p m : Int} (h : 0 < m) : 0 ≤ mixV c p m := by unfold mixV; exact Int.emod_nonneg _ (by omega)
theorem mixV_hi {c p m : Int} (h : 0 < m) : mixV c p m < m := by unfold mixV; exact Int.emod_lt_of_pos _ h
theorem fillV_len (c m : Int) : (fillV c m).length = 64 := by simp [fillV]
theorem fillV_in {c m : Int} (h : 0 < m) : ∀ x ∈ fillV c m, 0 ≤ x ∧ x < m := by
  intro x hx
  obtain ⟨k, _, rfl⟩ := List.mem_map.mp hx
  exact ⟨mixV_lo h, mixV_hi h⟩
def spCell (K : PySem.W.Frag) : Sp := fun vs H Q _ => ∃ (a : Addr) (ns : List Int) (k : Int), vs = [.ref a, .int k] ∧ SqL K H a (ns.map V.int) ∧ 0 ≤ k ∧ Q (.int (cellAt ns k)) H
def spMix : Sp := fun vs H Q _ => ∃ c p m : Int, vs = [.int c, .int p, .int m] ∧ 0 < p ∧ 0 < m ∧ Q (.int (mixV c p m)) H
def spFill : Sp := fun vs H Q _ => ∃ c m : Int, vs = [.int c, .int m] ∧ 0 < m ∧ ∀ D, H D = none → Q (.ref D) (upd H D (.lst ((fillV c m).map V.int)))
def spWhole : Sp := fun vs H Q _ => ∃ i : Int, vs = [.int i] ∧ Q (.bl true) H
def spLaw (K : PySem.W.Frag) : Sp := fun vs H Q _ => ∃ (a : Addr) (ns : List Int), vs = [.ref a] ∧ SqL K H a (ns.map V.int) ∧ ns.length ≤ 63 ∧ ∀ H', Q (.bl true) H'
section
variable {σ : L2.St} {H : Hp} {K : PySem.W.Frag} {a : Addr} {te tl : TE} {tt : TT} {xs : List V} {tA : TA}
theorem comp_step {σ2 : L2.St} {H0 : Hp} {D : Addr} {p : V → Bool} {f : V → V} {x : V} {ys : List V} (hz : ys.length < 100000) (ht : Ans tt σ2 (upd H0 D (.lst ys)) (p x)) (he : p x = true → Val te σ2 (upd H0 D (.lst ys)) (f x)) :
    tt σ2 (upd H0 D (.lst ys)) fun b H3 => if b = true then te σ2 H3 fun y H4 => ∃ acc, H4 D = some (.lst acc) ∧ acc.length < sizeLine ∧ upd H4 D (.lst (acc ++ [y])) = upd H0 D (.lst (if p x = true then ys ++ [f x] else ys)) else H3 = upd H0 D (.lst (if p x = true then ys ++ [f x] else ys)) :=
  ht _ (by
    cases hp : p x with
    | true => exact iteT (he hp _ ⟨ys, upd_same, Nat.lt_of_lt_of_le hz (by decide), by rw [upd_upd, if_pos rfl]⟩)
    | false => exact iteF (by rw [if_neg Bool.false_ne_true]))
theorem filter_take {p : V → Bool} {f : V → V} {m : Nat} {x : V} (hm : xs[m]? = some x) : ((xs.take (m + 1)).filter p).map f = if p x = true then ((xs.take m).filter p).map f ++ [f x] else ((xs.take m).filter p).map f := by
  rw [List.take_add_one, hm, List.filter_append, List.map_append]
  cases hp : p x <;> simp [hp]
/-- [e for x in t if c], t a tuple, a list; c and e leave the heap -/
theorem nl_lcTt {k : Nat} {ws : List Nat} (p : V → Bool) (f : V → V) (h : Val tl σ H (.ref a)) (hs0 : SqT K H a xs) (hn : xs.length ≤ 100000) (hw : ∀ x, wipe ((wipe σ ws).set k (some x)) ws = wipe σ ws)
    (ht : ∀ (m : Nat) (x : V) (D : Addr) (acc : List V), H D = none → xs[m]? = some x → Ans tt ((wipe σ ws).set k (some x)) (upd H D (.lst acc)) (p x))
    (he : ∀ (m : Nat) (x : V) (D : Addr) (acc : List V), H D = none → xs[m]? = some x → p x = true → Val te ((wipe σ ws).set k (some x)) (upd H D (.lst acc)) (f x)) : NewL (tLc (iTup K tl) (gName k) tt te ws) σ H ((xs.filter p).map f) := fun Q q =>
  h _ ⟨a, rfl, ⟨xs, hs0⟩, fun D hD => lc_tup (xs := xs) (fun m H' => H' = upd H D (.lst (((xs.take m).filter p).map f))) rfl (fun m H' _ e => by rw [e]; exact smT (smN hD) hs0) (fun m x H' hm e => by
    subst e
    have hlt : m < xs.length := (List.getElem?_eq_some_iff.mp hm).1
    refine ⟨hw _, ?_⟩
    rw [filter_take hm]
    exact comp_step (by rw [List.length_map]; exact Nat.lt_of_le_of_lt (List.length_filter_le _ _) (by rw [List.length_take]; omega)) (ht m x D _ hD hm) (he m x D _ hD hm)) (fun H' e => by rw [e, List.take_length]; exact q D hD)⟩
theorem nl_lcLt {k : Nat} {ws : List Nat} (p : V → Bool) (f : V → V) (h : Val tl σ H (.ref a)) (hs0 : SqL K H a xs) (hn : xs.length ≤ 100000) (hw : ∀ x, wipe ((wipe σ ws).set k (some x)) ws = wipe σ ws)
    (ht : ∀ (m : Nat) (x : V) (D : Addr) (acc : List V), H D = none → xs[m]? = some x → Ans tt ((wipe σ ws).set k (some x)) (upd H D (.lst acc)) (p x))
    (he : ∀ (m : Nat) (x : V) (D : Addr) (acc : List V), H D = none → xs[m]? = some x → p x = true → Val te ((wipe σ ws).set k (some x)) (upd H D (.lst acc)) (f x)) : NewL (tLc (iList K tl) (gName k) tt te ws) σ H ((xs.filter p).map f) := fun Q q =>
  h _ ⟨a, rfl, ⟨xs, hs0⟩, fun D hD => lc_list (xs := xs) (fun m H' => H' = upd H D (.lst (((xs.take m).filter p).map f))) rfl (fun m H' _ e => by rw [e]; exact (smN hD).seq hs0) (fun m x H' hm e => by
    subst e
    have hlt : m < xs.length := (List.getElem?_eq_some_iff.mp hm).1
    refine ⟨hw _, ?_⟩
    rw [filter_take hm]
    exact comp_step (by rw [List.length_map]; exact Nat.lt_of_le_of_lt (List.length_filter_le _ _) (by rw [List.length_take]; omega)) (ht m x D _ hD hm) (he m x D _ hD hm)) (fun H' e => by rw [e, List.take_length]; exact q D hD)⟩
theorem same_mput {C : Addr} {H0 H' : Hp} {p dx l : Addr} {m : Mc} (e : Same (mput C H0 p dx l m) H') (h : l ≠ p) : mput C H' p dx l m = H' := mput_id (e _ _ mput_p) (e _ _ (mput_l h))
/-- sum([..]) -/
theorem x_sum {ns : List Int} (h : NewL te σ H (ns.map V.int)) {Q : VK} (q : ∀ H', Same H H' → Q (.int ns.sum) H') : tCB (rSum K) (tCons te tNil) σ H Q := h _ fun D hD => ⟨D, ns, rfl, SqL.of upd_same, q _ (smN hD)⟩
end
theorem filter_ints (p : V → Bool) (q : Int → Bool) (h : ∀ i, p (.int i) = q i) : ∀ ns : List Int, ((ns.map V.int).filter p).map id = (ns.filter q).map V.int
  | [] => rfl
  | n :: r => by
    have ih := filter_ints p q h r
    rw [List.map_cons, List.filter_cons, List.filter_cons, h n]
    cases q n <;> simp at ih ⊢ <;> simp [ih]
section
variable {P : Program} {w : World} {K : PySem.W.Frag} {mg : Str → Option Value} {base : Heap}

theorem sc_law_cell : FnScope ["_law_script", "_law_k"] ["_law_script", "_law_k"] (defScope s_law_cell) := ⟨rfl, rfl, rfl, by decide +kernel, rfl, by decide +kernel, by decide +kernel⟩
theorem cal_law_cell (T : Tx K mg) : Cal P w K mg base 1 "_law_cell" ["_law_script", "_law_k"] (spCell K) := by
  refine cal_mk T 9 9 rfl rfl sc_law_cell (fun _ _ _ _ _ _ us hl => match us, hl with | [_, _], _ => rfl) (fun vs H Q E h => ?_) (fun f cdv A outer s H vs Q E hr h => ?_)
  · obtain ⟨a, ns, j, rfl, hS, h0, k⟩ := h
    rfl
  · obtain ⟨a, ns, j, rfl, hS, h0, k⟩ := h
    refine ⟨_, (pss_cons (ps_if (pt_cmpR op_lt (pv 1) (pe_callB call_len_seq (by rfl) (T.free 22) PySem.boot_len (pa_cons (pv 0) pa_nil)) (nomark _)) (pss_one (ps_ret (pe_ix ix_list (pv 0) (pv 1) (fun _ _ => rfl)))) pss_nil) (pss_one (ps_ret pe_int))), ?_⟩
    refine q_if (a_t (v_lt (v_var rfl) (v_cb (va_cons (v_var rfl) va_nil) (fun _ q => ⟨_, _, rfl, .inl hS, q⟩)))) (fun h1 => ?_) (fun h1 => ?_)
    · have g : j < ((ns.map V.int).length : Int) := of_decide_eq_true h1
      rw [List.length_map] at g
      exact s_ret (v_ixLI (v_var rfl) (v_var rfl) hS h0 g) k
    · refine s_next ?_
      have g : ¬ j < ((ns.map V.int).length : Int) := of_decide_eq_false h1
      rw [List.length_map] at g
      refine s_ret v_c ?_
      have e : cellAt ns j = 0 := by unfold cellAt; rw [List.getD_eq_getElem?_getD, List.getElem?_eq_none (by omega)]; rfl
      rw [e] at k
      exact k

theorem sc_law_mix : FnScope ["_law_cell_here", "_law_prime", "_law_many"] ["_law_cell_here", "_law_prime", "_law_many"] (defScope s_law_mix) := ⟨rfl, rfl, rfl, by decide +kernel, rfl, by decide +kernel, by decide +kernel⟩
theorem cal_law_mix (T : Tx K mg) : Cal P w K mg base 1 "_law_mix" ["_law_cell_here", "_law_prime", "_law_many"] spMix := by
  refine cal_mk T 10 10 rfl rfl sc_law_mix (fun _ _ _ _ _ _ us hl => match us, hl with | [_, _, _], _ => rfl) (fun vs H Q E h => ?_) (fun f cdv A outer s H vs Q E hr h => ?_)
  · obtain ⟨c, p, m, rfl, hp, hm, k⟩ := h
    rfl
  · obtain ⟨c, p, m, rfl, hp, hm, k⟩ := h
    refine ⟨_, (pss_one (ps_ret (pe_op op_mod (pe_op op_mod (pe_op op_mul (pv 0) pe_int) (pv 1)) (pv 2)))), ?_⟩
    refine s_ret (v_mod (v_mod (v_mul (v_var rfl) v_c (.inr ⟨by decide, by decide⟩)) (v_var rfl) (by assumption)) (v_var rfl) (by assumption)) ?_
    exact k

theorem sc_law_fill : FnScope ["_law_cell_here", "_law_most", "_law_k"] ["_law_cell_here", "_law_most"] (defScope s_law_fill) := ⟨rfl, rfl, rfl, by decide +kernel, rfl, by decide +kernel, by decide +kernel⟩
theorem cal_law_fill (T : Tx K mg) : Cal P w K mg base 2 "_law_fill" ["_law_cell_here", "_law_most"] spFill := by
  refine cal_mk T 11 11 rfl rfl sc_law_fill (fun _ _ _ _ _ _ us hl => match us, hl with | [_, _], _ => rfl) (fun vs H Q E h => ?_) (fun f cdv A outer s H vs Q E hr h => ?_)
  · obtain ⟨c, m, rfl, hm, k⟩ := h
    rfl
  · obtain ⟨c, m, rfl, hm, k⟩ := h
    refine ⟨_, (pss_one (ps_ret (pe_lc (own := [("_law_k", 2)]) (g := gName 2) (tt := tYes) (by rfl) sc_law_fill.nd (pi_range1 (by rfl) (T.free 24) (pa_cons pe_int pa_nil)) (blkOk_by (own := [("_law_k", 2)]) (N := ["_law_cell_here", "_law_most", "_law_k"]) (sc := defScope s_law_fill) (by decide +kernel)) (fun _ _ _ _ _ => pg_name (i := 2) sc_law_fill.nd rfl (Or.inl rfl)) (fun _ _ _ _ _ => pts_nil) (fun _ _ _ _ _ => (pe_cal (cal_law_mix (K := K) T) hr (by decide) rfl (pa_cons (pe_op op_add (pv 0) (pe_op op_mul pe_int (pv 2))) (pa_cons pe_int (pa_cons (pv 1) pa_nil)))))))), ?_⟩
    refine s_retN (nl_lcR (fun (i : Nat) => V.int (mixV (c + 977 * (i : Int)) 10007 m)) (va_cons v_c va_nil) ⟨by decide, by decide⟩ (fun _ => rfl) (fun i D acc hD hi => v_call (va_cons (v_add (v_var rfl) (v_mul v_c (v_var rfl) (.inl ⟨by decide, by decide⟩))) (va_cons v_c (va_cons (v_var rfl) va_nil))) (fun _ q => ⟨_, _, _, rfl, by decide, hm, q⟩))) (fun D hD => ?_)
    have e : (List.range (64 : Int).toNat).map (fun (i : Nat) => V.int (mixV (c + 977 * (i : Int)) 10007 m)) = (fillV c m).map V.int := by unfold fillV; rw [List.map_map]; rfl
    rw [e]
    exact k D hD
end
/-! ### words for the laws' own bodies -/
section
variable {σ : L2.St} {H : Hp} {K : PySem.W.Frag} {a p : Addr} {te ta tb ti to : TE} {v x y : V} {N : L2.St → Hp → Prop} {R : VK} {B C' : L2.St → Hp → Prop} {tz : TS} {tA : TA} {C : Addr} {i z t mk pc : Int} {cs ns : List Int} {m : Mc}
/-- an item of a written list of ints -/
theorem v_menu (ns : List Int) (h : ValA tA σ H (ns.map V.int)) (hl : ns.length ≤ 1000) (hi : ∀ H', Same H H' → Val ti σ H' (.int i)) (h0 : 0 ≤ i) (h1 : i < (ns.length : Int)) {Q : VK} (q : ∀ H', Same H H' → Q (.int (ns.getD i.toNat 0)) H') : tOp (rIxL K) (tLst tA) ti σ H Q :=
  h _ ⟨Nat.le_trans (by rw [List.length_map]; exact hl) (by decide), fun D hD => by
    refine hi _ (smN hD) _ ⟨D, ns.map V.int, i, .int (ns.getD i.toNat 0), rfl, rfl, SqL.of upd_same, ?_, q _ (smN hD)⟩
    refine at_of (j := i.toNat) (by omega) ?_
    have hl : i.toNat < ns.length := by omega
    rw [List.getElem?_map, List.getElem?_eq_getElem hl]
    simp [List.getD_eq_getElem?_getD, List.getElem?_eq_getElem hl]⟩
theorem q_setItem (hv : Val te σ H (.int z)) (ho : Val to σ H (.ref p)) (hi : Val ti σ H (.int i)) (hp : H p = some (.lst (ns.map V.int))) (h0 : 0 ≤ i) (h1 : i < (ns.length : Int)) (q : tz ⟨N, R, B, C'⟩ σ (upd H p (.lst ((ns.set i.toNat z).map V.int)))) :
    tSeq (tAsg te (gSub to ti rSetL)) tz ⟨N, R, B, C'⟩ σ H := hv _ (ho _ (hi _ ⟨p, _, i, i.toNat, rfl, rfl, hp, ixN_int h0 (by rw [List.length_map]; exact h1), by rw [← List.map_set]; exact q⟩))
theorem s_setItem (hv : Val te σ H (.int z)) (ho : Val to σ H (.ref p)) (hi : Val ti σ H (.int i)) (hp : H p = some (.lst (ns.map V.int))) (h0 : 0 ≤ i) (h1 : i < (ns.length : Int)) (q : N σ (upd H p (.lst ((ns.set i.toNat z).map V.int)))) :
    tAsg te (gSub to ti rSetL) ⟨N, R, B, C'⟩ σ H := hv _ (ho _ (hi _ ⟨p, _, i, i.toNat, rfl, rfl, hp, ixN_int h0 (by rw [List.length_map]; exact h1), by rw [← List.map_set]; exact q⟩))
theorem mput_make {x dx l o : Addr} {u : HO} : mput C (upd (upd H o u) x (.ins C dx [])) x dx l m = mput C (upd H o u) x dx l m := by
  funext b; unfold mput upd
  by_cases h1 : b = x <;> by_cases h2 : b = l <;> simp [h1, h2]
/-- Machine(..) -/
theorem x_machine (h : ValA tA σ H [.ref a, .int t, .int mk, .int pc]) (hs : SqL K H a (cs.map V.int) ∨ SqT K H a (cs.map V.int)) {Q : VK}
    (q : ∀ x dx l H', H x = none → H l = none → H dx = none → l ≠ x → Same H H' → Q (.ref x) (mput C H' x dx l ⟨cs, t, mk, pc⟩)) : tMake C (spMachine K C) [] E0 tA σ H Q :=
  h _ fun x dx nx nd ne => by
    have sm : Same H (upd (upd H dx (.own x)) x (.ins C dx [])) := smM (smN nd) nx
    refine ⟨x, dx, a, cs, t, mk, pc, rfl, upd_same, hs.imp sm.seq (smT sm), fun l hl => ⟨rfl, ?_⟩⟩
    have nlx : l ≠ x := fun e => by subst e; rw [upd_same] at hl; cases hl
    rw [mput_make]
    exact q x dx l _ nx (sm.free hl) nd nlx (smN nd)
theorem q_machine {k : Nat} (h : ValA tA σ H [.ref a, .int t, .int mk, .int pc]) (hs : SqL K H a (cs.map V.int) ∨ SqT K H a (cs.map V.int))
    (q : ∀ x dx l H', H x = none → H l = none → H dx = none → l ≠ x → Same H H' → tz ⟨N, R, B, C'⟩ (σ.set k (some (.ref x))) (mput C H' x dx l ⟨cs, t, mk, pc⟩)) : tSeq (tAsg (tMake C (spMachine K C) [] E0 tA) (gName k)) tz ⟨N, R, B, C'⟩ σ H := by
  show tMake C (spMachine K C) [] E0 tA σ H (fun v H1 => tz ⟨N, R, B, C'⟩ (σ.set k (some v)) H1)
  exact x_machine h hs q
theorem q_rel {t1 : TS} (Mid : L2.St → Hp → Prop) (h : t1 ⟨Mid, R, B, C'⟩ σ H) (k : ∀ σ' H', Mid σ' H' → tz ⟨N, R, B, C'⟩ σ' H') : C8.tCut t1 tz ⟨N, R, B, C'⟩ σ H := ⟨Mid, h, k⟩
end
/-- a cell's item through a mput -/
theorem getC_set {cs : List Int} {t mk pc i v : Int} (h0 : 0 ≤ i) (h1 : i < (cs.length : Int)) : getC ⟨cs.set i.toNat v, t, mk, pc⟩ i = v := by
  unfold getC
  have : i.toNat < cs.length := by omega
  simp [List.getD_eq_getElem?_getD, this]
theorem mem_set_in {P : Int → Prop} : ∀ {cs : List Int} {i : Nat} {v : Int}, (∀ c ∈ cs, P c) → P v → ∀ c ∈ cs.set i v, P c := by
  intro cs i v h hv c hc
  rcases List.mem_or_eq_of_mem_set hc with h1 | h1
  · exact h c h1
  · exact h1 ▸ hv
theorem menu_in (P : Int → Prop) {ns : List Int} (h : ∀ x ∈ ns, P x) (h0 : P 0) (i : Nat) : P (ns.getD i 0) := by
  rw [List.getD_eq_getElem?_getD]
  cases e : ns[i]? with
  | none => exact h0
  | some x => exact h x (List.mem_of_getElem? e)
theorem mput_upd {C : Addr} {H : Hp} {p dx l q : Addr} {m : Mc} {o : HO} (h1 : q ≠ p) (h2 : q ≠ l) : upd (mput C H p dx l m) q o = mput C (upd H q o) p dx l m := by
  funext b; unfold mput upd
  by_cases e : b = q
  · subst e; simp [h1, h2]
  · simp [e]
theorem setAt {cs : List Int} {i : Int} {v : Int} (h0 : 0 ≤ i) (h1 : i < (cs.length : Int)) : (cs.set i.toNat v).getD i.toNat 0 = v := by
  have : i.toNat < cs.length := by omega
  simp [List.getD_eq_getElem?_getD, this]
section
variable {σ : L2.St} {H : Hp} {K : PySem.W.Frag} {a p dx l C : Addr} {te ta tb ti to : TE} {v x y : V} {m : Mc} {xs : List V}
/-- isinstance(x, list) of a list that stands in the heap -/
theorem v_isiL {b : Bool} {c : String} (hc : Val tb σ H (.ty c)) (h : ∃ y t, Val ta σ H y ∧ TyX K H y (.type t) ∧ PySem.W.kitOne K (.type t) (.type c) = some b) : Val (tCB (rIsi K) (tCons ta (tCons tb tNil))) σ H (.bl b) := by
  obtain ⟨y, t, h1, h2, h3⟩ := h
  exact v_cb (va_cons h1 (va_cons hc va_nil)) fun _ q => ⟨y, .ty c, .type t, .type c, b, rfl, .ty c, h2, h3, q⟩
theorem isi_list (h : Val ta σ H (.ref a)) (ha : H a = some (.lst xs)) : ∃ y t, Val ta σ H y ∧ TyX K H y (.type t) ∧ PySem.W.kitOne K (.type t) (.type "list") = some true := ⟨_, "list", h, .base (.lst ha), kit_ty (by decide +kernel)⟩
theorem isi_tup (h : Val ta σ H (.ref a)) (ha : H a = some (.tup xs)) : ∃ y t, Val ta σ H y ∧ TyX K H y (.type t) ∧ PySem.W.kitOne K (.type t) (.type "tuple") = some true := ⟨_, "tuple", h, .base (.tup ha), kit_ty (by decide +kernel)⟩
end
section
variable {σ : L2.St} {H : Hp} {K : PySem.W.Frag} {a : Addr} {te tl : TE} {tt : TT} {xs : List V} {tA : TA}
/-- a new list of xs; other new objects may lie beside -/
def NewLs (te : TE) (σ : L2.St) (H : Hp) (xs : List V) : Prop := ∀ Q : VK, (∀ D H', H D = none → Same H H' → H' D = some (.lst xs) → Q (.ref D) H') → te σ H Q
theorem NewL.s (h : NewL te σ H xs) : NewLs te σ H xs := fun _ q => h _ fun D hD => q D _ hD (smN hD) upd_same
theorem x_Ls {Q : VK} (h : NewLs te σ H xs) (q : ∀ D H', H D = none → Same H H' → H' D = some (.lst xs) → Q (.ref D) H') : te σ H Q := h _ q
theorem mapIdx_take {f : Nat → V → V} {m : Nat} {x : V} (hm : xs[m]? = some x) : (xs.take (m + 1)).mapIdx f = (xs.take m).mapIdx f ++ [f m x] := by
  have hlt : m < xs.length := (List.getElem?_eq_some_iff.mp hm).1
  rw [List.take_add_one, hm, List.mapIdx_append]
  simp [List.length_take, Nat.min_eq_left (Nat.le_of_lt hlt)]
/-- [e for k, x in enumerate(xs)], e leaving the heap -/
theorem nls_enum {k j : Nat} {ws : List Nat} (f : Nat → V → V) (h : ValA tA σ H [.ref a]) (hs : SqL K H a xs) (hn : xs.length ≤ 100000) (hw : ∀ x y, wipe (((wipe σ ws).set k (some x)).set j (some y)) ws = wipe σ ws)
    (he : ∀ (m : Nat) (x : V) (H' : Hp), Same H H' → xs[m]? = some x → Val te (((wipe σ ws).set k (some (.int (m : Int)))).set j (some x)) H' (f m x)) :
    NewLs (tLc (iEnum K tA) (gTup K 2 (gCons (gName k) (gCons (gName j) gNil))) tYes te ws) σ H (xs.mapIdx f) := fun Q q =>
  h _ ⟨a, xs, rfl, hs, fun D hD => lc_it (walk_enum (xs := xs)) (fun m H' => Same H H' ∧ H' D = some (.lst ((xs.take m).mapIdx f))) ⟨smN hD, upd_same⟩ (fun m H' _ e => e.1.seq hs) (fun m v H1 H' hm e y => by
    obtain ⟨sm, hl⟩ := e
    obtain ⟨T, u, x, rfl, hT, rfl, hu, hx⟩ := y
    cases hu
    have sm2 := sm.trans (smN (o := .tup [V.int (m : Int), x]) hT)
    have nDT : D ≠ T := ne_of_none hl hT
    refine ⟨T, _, rfl, SqT.of upd_same, rfl, _, _, rfl, _, _, rfl, rfl, hw _ _, ?_⟩
    unfold tYes
    dsimp only
    rw [if_pos rfl]
    refine he m x _ sm2 hx _ ⟨_, by rw [upd_ne nDT]; exact hl, ?_, smM sm2 hD, ?_⟩
    · rw [List.length_mapIdx, List.length_take]
      exact Nat.lt_of_lt_of_le (show min m xs.length < 100000 by omega) (by decide)
    · rw [upd_same, mapIdx_take hx]) (fun H' e => by rw [List.take_length] at e; exact q D H' hD e.1 e.2)⟩
theorem x_any {bs : List Bool} (h : NewLs te σ H (bs.map V.bl)) {Q : VK} (q : ∀ H', Same H H' → Q (.bl (bs.any id)) H') : tCB (rAny K) (tCons te tNil) σ H Q := h _ fun D H' _ sm hD => ⟨D, bs, rfl, SqL.of hD, q _ sm⟩
end
section
variable {σ : L2.St} {H : Hp} {K : PySem.W.Frag} {C : Addr} {te : TE} {tA : TA} {t mk pc : Int}
theorem smP' {C : Addr} {H H' : Hp} {p dx l : Addr} {m : Mc} (h1 : H p = none) (h2 : H l = none) (e : Same H H') : Same H (mput C H' p dx l m) := smP e h1 h2
/-- Machine([..], total, mark, at) -/
theorem x_machineL {f : Nat → Int} (h : NewL te σ H ((List.range 64).map fun i => V.int (f i))) (hA : ∀ H', ValA tA σ H' [.int t, .int mk, .int pc]) {Q : VK}
    (q : ∀ x dx l H', l ≠ x → (∀ m H'', Same (mput C H' x dx l m) H'' → Same H H'') → Q (.ref x) (mput C H' x dx l ⟨(List.range 64).map f, t, mk, pc⟩)) : tMake C (spMachine K C) [] E0 (tCons te tA) σ H Q := by
  show te σ H _
  refine h _ (fun D hD => ?_)
  refine hA _ _ ?_
  have e : (List.range 64).map (fun i => V.int (f i)) = ((List.range 64).map f).map V.int := by rw [List.map_map]; rfl
  refine (x_machine (σ := σ) (H := upd H D (.lst ((List.range 64).map fun i => V.int (f i)))) (tA := fun _ H1 Q1 => Q1 [.ref D, .int t, .int mk, .int pc] H1) (cs := (List.range 64).map f) (t := t) (mk := mk) (pc := pc) (fun Q1 q1 => q1) (.inl (SqL.of (by rw [upd_same, e]))) (Q := Q) (fun x dx l H' nx nl _ hne sm => ?_) : _)
  have sm0 := (smN (o := .lst ((List.range 64).map fun i => V.int (f i))) hD).trans sm
  have nx0 : H x = none := (smN hD).free nx
  have nl0 : H l = none := (smN hD).free nl
  exact q x dx l H' hne fun m H'' s => (smP sm0 nx0 nl0).trans s
end
/-! ### loops -/
section
variable {σ : L2.St} {H : Hp} {K : PySem.W.Frag} {a : Addr} {tl : TE} {tA : TA} {tb tz : TS} {N : L2.St → Hp → Prop} {R : VK} {B C' : L2.St → Hp → Prop} {k j : Nat} {n : Int} {xs : List V}
theorem s_forR (h : ValA tA σ H [.int n]) (hn0 : n ≤ 100000) (Pv : Nat → L2.St → Hp → Prop) (h0 : Pv 0 σ H)
    (hs : ∀ (i : Nat) σ' H', (i : Int) < n → Pv i σ' H' → tb ⟨Pv (i + 1), R, N, Pv (i + 1)⟩ (σ'.set k (some (.int (i : Int)))) H') (hd : ∀ σ' H', Pv n.toNat σ' H' → N σ' H') (hn1 : -100000 ≤ n := by omega) : tFor (iRng1 tA) (gName k) tb ⟨N, R, B, C'⟩ σ H :=
  h _ ⟨n, rfl, by omega, by omega, for_range (lo := 0) (n := n.toNat) (D := ⟨N, R, B, C'⟩) Pv h0 (fun i σ' H' hi p => by
    have e0 : (0 : Int) + (i : Int) = (i : Int) := Int.zero_add _
    rw [e0]
    exact hs i σ' H' (by omega) p) hd⟩
theorem q_forR (h : ValA tA σ H [.int n]) (hn0 : n ≤ 100000) (Pv : Nat → L2.St → Hp → Prop) (h0 : Pv 0 σ H)
    (hs : ∀ (i : Nat) σ' H', (i : Int) < n → Pv i σ' H' → tb ⟨Pv (i + 1), R, tz ⟨N, R, B, C'⟩, Pv (i + 1)⟩ (σ'.set k (some (.int (i : Int)))) H') (hd : ∀ σ' H', Pv n.toNat σ' H' → tz ⟨N, R, B, C'⟩ σ' H') (hn1 : -100000 ≤ n := by omega) : tSeq (tFor (iRng1 tA) (gName k) tb) tz ⟨N, R, B, C'⟩ σ H :=
  s_forR (N := tz ⟨N, R, B, C'⟩) (B := B) (C' := C') h hn0 Pv h0 hs hd hn1
theorem s_forL (h : Val tl σ H (.ref a)) (hx : SqL K H a xs) (Pv : Nat → L2.St → Hp → Prop) (h0 : Pv 0 σ H) (hl : ∀ (i : Nat) σ' H', Pv i σ' H' → SqL K H' a xs)
    (hs : ∀ (i : Nat) x σ' H', xs[i]? = some x → Pv i σ' H' → tb ⟨Pv (i + 1), R, N, Pv (i + 1)⟩ (σ'.set k (some x)) H') (hd : ∀ σ' H', Pv xs.length σ' H' → N σ' H') : tFor (iList K tl) (gName k) tb ⟨N, R, B, C'⟩ σ H :=
  h _ ⟨a, rfl, ⟨xs, hx⟩, for_list (xs := xs) (D := ⟨N, R, B, C'⟩) Pv h0 (fun i σ' H' _ p => hl i σ' H' p) hs hd⟩
theorem q_forL (h : Val tl σ H (.ref a)) (hx : SqL K H a xs) (Pv : Nat → L2.St → Hp → Prop) (h0 : Pv 0 σ H) (hl : ∀ (i : Nat) σ' H', Pv i σ' H' → SqL K H' a xs)
    (hs : ∀ (i : Nat) x σ' H', xs[i]? = some x → Pv i σ' H' → tb ⟨Pv (i + 1), R, tz ⟨N, R, B, C'⟩, Pv (i + 1)⟩ (σ'.set k (some x)) H') (hd : ∀ σ' H', Pv xs.length σ' H' → tz ⟨N, R, B, C'⟩ σ' H') : tSeq (tFor (iList K tl) (gName k) tb) tz ⟨N, R, B, C'⟩ σ H :=
  s_forL (N := tz ⟨N, R, B, C'⟩) (B := B) (C' := C') h hx Pv h0 hl hs hd
/-- for k, x in enumerate(xs): a new pair each turn -/
theorem s_forE (h : ValA tA σ H [.ref a]) (hx : SqL K H a xs) (Pv : Nat → L2.St → Hp → Prop) (h0 : Pv 0 σ H) (hl : ∀ (i : Nat) σ' H', Pv i σ' H' → SqL K H' a xs)
    (hs : ∀ (i : Nat) x σ' H' T, xs[i]? = some x → Pv i σ' H' → H' T = none → tb ⟨Pv (i + 1), R, N, Pv (i + 1)⟩ ((σ'.set k (some (.int (i : Int)))).set j (some x)) (upd H' T (.tup [.int (i : Int), x]))) (hd : ∀ σ' H', Pv xs.length σ' H' → N σ' H') :
    tFor (iEnum K tA) (gTup K 2 (gCons (gName k) (gCons (gName j) gNil))) tb ⟨N, R, B, C'⟩ σ H :=
  h _ ⟨a, xs, rfl, hx, for_it (walk_enum (xs := xs)) (D := ⟨N, R, B, C'⟩) Pv h0 (fun i σ' H' _ p => hl i σ' H' p) (fun i x σ' H1 H' hi p y => by
    obtain ⟨T, u, z, rfl, hT, rfl, hu, hz⟩ := y
    cases hu
    exact ⟨T, _, rfl, SqT.of upd_same, rfl, _, _, rfl, _, _, rfl, rfl, hs i z σ' H1 T hz p hT⟩) hd⟩
theorem q_forE (h : ValA tA σ H [.ref a]) (hx : SqL K H a xs) (Pv : Nat → L2.St → Hp → Prop) (h0 : Pv 0 σ H) (hl : ∀ (i : Nat) σ' H', Pv i σ' H' → SqL K H' a xs)
    (hs : ∀ (i : Nat) x σ' H' T, xs[i]? = some x → Pv i σ' H' → H' T = none → tb ⟨Pv (i + 1), R, tz ⟨N, R, B, C'⟩, Pv (i + 1)⟩ ((σ'.set k (some (.int (i : Int)))).set j (some x)) (upd H' T (.tup [.int (i : Int), x]))) (hd : ∀ σ' H', Pv xs.length σ' H' → tz ⟨N, R, B, C'⟩ σ' H') :
    tSeq (tFor (iEnum K tA) (gTup K 2 (gCons (gName k) (gCons (gName j) gNil))) tb) tz ⟨N, R, B, C'⟩ σ H :=
  s_forE (N := tz ⟨N, R, B, C'⟩) (B := B) (C' := C') h hx Pv h0 hl hs hd
end
section
variable {σ : L2.St} {H : Hp} {K : PySem.W.Frag} {a : Addr} {te tl : TE} {xs ys : List V}
/-- [e for x in (written tuple)] -/
theorem nls_lcNT {k : Nat} {ws : List Nat} (f : V → V) (hy : xs.map f = ys) (h : NewT tl σ H xs) (hn : xs.length ≤ 100000) (hw : ∀ x, wipe ((wipe σ ws).set k (some x)) ws = wipe σ ws)
    (he : ∀ (m : Nat) (x : V) (H' : Hp), Same H H' → xs[m]? = some x → Val te ((wipe σ ws).set k (some x)) H' (f x)) : NewLs (tLc (iTup K tl) (gName k) tYes te ws) σ H ys := fun Q q =>
  h _ fun P hP => ⟨P, rfl, ⟨xs, SqT.of upd_same⟩, fun D hD => lc_tup (xs := xs) (fun m H' => Same H H' ∧ H' P = some (.tup xs) ∧ H' D = some (.lst ((xs.take m).map f))) ⟨(smN hP).trans (smN hD), smN hD _ _ upd_same, upd_same⟩ (fun m H' _ e => SqT.of e.2.1) (fun m x H' hm e => by
    obtain ⟨sm, hPP, hl⟩ := e
    have hD0 : H D = none := (smN hP).free hD
    have nPD : P ≠ D := ne_of_none upd_same hD
    refine ⟨hw _, ?_⟩
    unfold tYes
    dsimp only
    rw [if_pos rfl]
    refine he m x _ sm hm _ ⟨_, hl, ?_, smM sm hD0, by rw [upd_ne nPD]; exact hPP, ?_⟩
    · rw [List.length_map, List.length_take]
      exact Nat.lt_of_lt_of_le (show min m xs.length < 100000 by have := (List.getElem?_eq_some_iff.mp hm).1; omega) (by decide)
    · rw [upd_same, List.take_add_one, hm, List.map_append]; rfl) (fun H' e => by
      have e3 := e.2.2
      rw [List.take_length, hy] at e3
      exact q D H' ((smN hP).free hD) e.1 e3)⟩
theorem x_sum' {ns : List Int} (h : NewLs te σ H (ns.map V.int)) {Q : VK} (q : ∀ H', Same H H' → Q (.int ns.sum) H') : tCB (rSum K) (tCons te tNil) σ H Q := h _ fun D H' _ sm hD => ⟨D, ns, rfl, SqL.of hD, q _ sm⟩
end
section
variable {σ : L2.St} {H : Hp} {K : PySem.W.Frag} {te : TE} {tb tz : TS} {N : L2.St → Hp → Prop} {R : VK} {B C' : L2.St → Hp → Prop} {k j : Nat} {xs : List V}
/-- for k, x in enumerate(a new list) -/
theorem s_forEN (h : NewL te σ H xs) (Pv : Addr → Nat → L2.St → Hp → Prop) (h0 : ∀ D, H D = none → Pv D 0 σ (upd H D (.lst xs))) (hl : ∀ D (i : Nat) σ' H', Pv D i σ' H' → SqL K H' D xs)
    (hs : ∀ D (i : Nat) x σ' H' T, xs[i]? = some x → Pv D i σ' H' → H' T = none → tb ⟨Pv D (i + 1), R, N, Pv D (i + 1)⟩ ((σ'.set k (some (.int (i : Int)))).set j (some x)) (upd H' T (.tup [.int (i : Int), x]))) (hd : ∀ D σ' H', Pv D xs.length σ' H' → N σ' H') :
    tFor (iEnum K (tCons te tNil)) (gTup K 2 (gCons (gName k) (gCons (gName j) gNil))) tb ⟨N, R, B, C'⟩ σ H :=
  h _ fun D hD => s_forE (tA := fun _ H1 Q1 => Q1 [.ref D] H1) (σ := σ) (H := upd H D (.lst xs)) (fun Q1 q1 => q1) (SqL.of upd_same) (Pv D) (h0 D hD) (fun i σ' H' p => hl D i σ' H' p) (fun i x σ' H' T hx p hT => hs D i x σ' H' T hx p hT) (fun σ' H' p => hd D σ' H' p)
end
theorem cutV_nat {xs : List V} {i j : Nat} (h : i ≤ j) : cutV xs (some (i : Int)) (some (j : Int)) = (xs.take j).drop i := by
  unfold cutV
  rw [HT.sIx_nat, HT.sIx_nat]
  apply List.ext_getElem?
  intro n
  simp only [List.getElem?_take, List.getElem?_drop]
  by_cases c1 : n < j - i
  · have c2 : i + n < j := by omega
    rw [if_pos c2]
    by_cases c3 : i ≤ xs.length
    · rw [Nat.min_eq_left c3]
      by_cases c4 : n < min j xs.length - i
      · rw [if_pos c4]
      · rw [if_neg c4]
        exact (List.getElem?_eq_none (by omega)).symm
    · rw [if_neg (by omega)]
      exact (List.getElem?_eq_none (by omega)).symm
  · rw [if_neg (by omega), if_neg (by omega)]
/-! ### the bits of words -/
theorem land_step (a b : Nat) : a &&& b = 2 * ((a / 2) &&& (b / 2)) + (if a % 2 = 1 ∧ b % 2 = 1 then 1 else 0) := by
  have h1 : (a &&& b) / 2 = a / 2 &&& b / 2 := Nat.and_div_two
  have h2 : (a &&& b) % 2 = 1 ↔ a % 2 = 1 ∧ b % 2 = 1 := Nat.and_mod_two_eq_one
  rw [← h1]
  by_cases h : a % 2 = 1 ∧ b % 2 = 1
  · rw [if_pos h]; have := h2.mpr h; omega
  · rw [if_neg h]; have : ¬ (a &&& b) % 2 = 1 := fun q => h (h2.mp q); omega
def bsN : Nat → Nat → Nat → Nat
  | 0, _, _ => 0
  | k + 1, a, b => 2 * bsN k (a / 2) (b / 2) + (if a % 2 = 1 ∧ b % 2 = 1 then 1 else 0)
theorem land_bsN : ∀ (k a b : Nat), a < 2 ^ k → a &&& b = bsN k a b
  | 0, a, b, h => by
    have e : a = 0 := by simpa using h
    subst e; simp [bsN]
  | k + 1, a, b, h => by
    rw [land_step, bsN, land_bsN k (a / 2) (b / 2) (by rw [Nat.pow_succ] at h; omega)]
def marks10 : List Int := [1, 2, 4, 8, 16, 32, 64, 128, 256, 512]
theorem sum_filter (p : Int → Bool) : ∀ l : List Int, (l.filter p).sum = (l.map fun x => if p x = true then x else 0).sum
  | [] => rfl
  | x :: l => by
    rw [List.filter_cons, List.map_cons, List.sum_cons, ← sum_filter p l]
    by_cases h : p x = true
    · rw [if_pos h, if_pos h, List.sum_cons]
    · rw [if_neg h, if_neg h]; omega
theorem if_up (d : Nat) (x y : Int) (hx : 0 ≤ x) (hy : 0 ≤ y) (hd : 0 < d) : (if (decide (x / (d : Int) % 2 = 1) && decide (y / (d : Int) % 2 = 1)) = true then (d : Int) else 0) = (d : Int) * ((if x.toNat / d % 2 = 1 ∧ y.toNat / d % 2 = 1 then 1 else 0 : Nat) : Int) := by
  obtain ⟨a, rfl⟩ := Int.eq_ofNat_of_zero_le hx
  obtain ⟨b, rfl⟩ := Int.eq_ofNat_of_zero_le hy
  have e1 : ((a : Int) / (d : Int) % 2 = 1) ↔ (a / d % 2 = 1) := by
    rw [← Int.natCast_ediv]; omega
  have e2 : ((b : Int) / (d : Int) % 2 = 1) ↔ (b / d % 2 = 1) := by
    rw [← Int.natCast_ediv]; omega
  simp only [Int.toNat_natCast, Bool.and_eq_true, decide_eq_true_eq, e1, e2]
  split <;> simp
theorem and_marks {x y : Int} (h0 : 0 ≤ x) (h1 : x < 1024) (h2 : 0 ≤ y) : Builtin.bitAnd x y = (marks10.filter fun b => decide (x / b % 2 = 1) && decide (y / b % 2 = 1)).sum := by
  have e : Builtin.bitAnd x y = ((x.toNat &&& y.toNat : Nat) : Int) := by simp [Builtin.bitAnd, h0, h2]
  rw [e, land_bsN 10 x.toNat y.toNat (by show x.toNat < 1024; omega), sum_filter]
  have u := fun (d : Nat) (hd : 0 < d) => if_up d x y h0 h2 hd
  have l : (marks10.map fun b => if (decide (x / b % 2 = 1) && decide (y / b % 2 = 1)) = true then b else 0).sum =
      (1 : Int) * ((if x.toNat / 1 % 2 = 1 ∧ y.toNat / 1 % 2 = 1 then 1 else 0 : Nat) : Int) + (2 * ((if x.toNat / 2 % 2 = 1 ∧ y.toNat / 2 % 2 = 1 then 1 else 0 : Nat) : Int) + (4 * ((if x.toNat / 4 % 2 = 1 ∧ y.toNat / 4 % 2 = 1 then 1 else 0 : Nat) : Int) + (8 * ((if x.toNat / 8 % 2 = 1 ∧ y.toNat / 8 % 2 = 1 then 1 else 0 : Nat) : Int) + (16 * ((if x.toNat / 16 % 2 = 1 ∧ y.toNat / 16 % 2 = 1 then 1 else 0 : Nat) : Int) + (32 * ((if x.toNat / 32 % 2 = 1 ∧ y.toNat / 32 % 2 = 1 then 1 else 0 : Nat) : Int) + (64 * ((if x.toNat / 64 % 2 = 1 ∧ y.toNat / 64 % 2 = 1 then 1 else 0 : Nat) : Int) + (128 * ((if x.toNat / 128 % 2 = 1 ∧ y.toNat / 128 % 2 = 1 then 1 else 0 : Nat) : Int) + (256 * ((if x.toNat / 256 % 2 = 1 ∧ y.toNat / 256 % 2 = 1 then 1 else 0 : Nat) : Int) + (512 * ((if x.toNat / 512 % 2 = 1 ∧ y.toNat / 512 % 2 = 1 then 1 else 0 : Nat) : Int) + 0))))))))) := by
    show _ + (_ + (_ + (_ + (_ + (_ + (_ + (_ + (_ + (_ + (0 : Int)))))))))) = _
    have v1 := u 1 (by decide); have v2 := u 2 (by decide); have v3 := u 4 (by decide); have v4 := u 8 (by decide); have v5 := u 16 (by decide)
    have v6 := u 32 (by decide); have v7 := u 64 (by decide); have v8 := u 128 (by decide); have v9 := u 256 (by decide); have v10 := u 512 (by decide)
    exact congr (congrArg HAdd.hAdd v1) (congr (congrArg HAdd.hAdd v2) (congr (congrArg HAdd.hAdd v3) (congr (congrArg HAdd.hAdd v4) (congr (congrArg HAdd.hAdd v5) (congr (congrArg HAdd.hAdd v6) (congr (congrArg HAdd.hAdd v7) (congr (congrArg HAdd.hAdd v8) (congr (congrArg HAdd.hAdd v9) (congr (congrArg HAdd.hAdd v10) rfl)))))))))
  rw [l]
  simp only [bsN, Nat.div_div_eq_div_mul, Nat.reduceMul, Nat.div_one]
  omega
/-! ### words stay words -/
theorem wf_skip {m : Mc} (h : WfM m) : WfM (skipM m) := ⟨⟨h.len, by show 0 ≤ (m.pc + 1) % 64; omega, by show (m.pc + 1) % 64 < 64; omega⟩, h.cell, h.tlo, h.thi, h.bit⟩
theorem getC_in {m : Mc} (h : WfM m) (i : Int) : 0 ≤ getC m i ∧ getC m i < 1024 := menu_in (fun x => 0 ≤ x ∧ x < 1024) h.cell (by decide) _
theorem wf_added {m : Mc} (h : WfM m) {n : Int} (n0 : 0 ≤ n) (n1 : n < 1024) : WfM (addedM m n) := by
  have t0 := h.tlo; have t1 := h.thi; have b := h.bit
  unfold addedM; split
  · exact ⟨⟨h.len, h.lo, h.hi⟩, h.cell, by show 0 ≤ m.total + n - 1024; omega, by show m.total + n - 1024 < 1024; omega, by show 1 - m.mark = 0 ∨ 1 - m.mark = 1; omega⟩
  · exact ⟨⟨h.len, h.lo, h.hi⟩, h.cell, by show 0 ≤ m.total + n; omega, by show m.total + n < 1024; omega, b⟩
theorem wf_set {m : Mc} (h : WfM m) {i v : Int} (v0 : 0 ≤ v) (v1 : v < 1024) : WfM (setC m i v) := ⟨⟨by show (m.cells.set _ _).length = 64; rw [List.length_set]; exact h.len, h.lo, h.hi⟩, mem_set_in h.cell ⟨v0, v1⟩, h.tlo, h.thi, h.bit⟩
theorem wf_rise {m : Mc} (h : WfM m) (i : Int) : WfM (riseM m i) := wf_set h (by omega) (by omega)
theorem wf_aim {m : Mc} (h : WfM m) (f p : Int) : WfM (aimP m f p) := by
  unfold aimP; split
  · exact h
  · split
    · exact wf_rise h p
    · exact h
theorem bitAnd_in {x y : Int} (h0 : 0 ≤ x) (h1 : x < 1024) (h2 : 0 ≤ y) : 0 ≤ Builtin.bitAnd x y ∧ Builtin.bitAnd x y < 1024 := by
  have e : Builtin.bitAnd x y = ((x.toNat &&& y.toNat : Nat) : Int) := by simp [Builtin.bitAnd, h0, h2]
  have : x.toNat &&& y.toNat ≤ x.toNat := Nat.and_le_left
  rw [e]; omega
theorem wf_moved {m : Mc} (h : WfM m) {k p : Int} (p0 : 0 ≤ p) (p1 : p < 64) : WfM (movedM m k p) := by
  have g := getC_in h p
  have t0 := h.tlo; have t1 := h.thi
  unfold movedM
  split
  · have b := bitAnd_in t0 t1 g.1
    exact ⟨⟨h.len, h.lo, h.hi⟩, h.cell, b.1, b.2, h.bit⟩
  split
  · exact wf_added h g.1 g.2
  split
  · split
    · exact wf_skip (wf_rise h p)
    · exact wf_rise h p
  split
  · have w := wf_set h (i := p) t0 t1
    exact ⟨⟨w.len, w.lo, w.hi⟩, w.cell, by show (0 : Int) ≤ 0; omega, by show (0 : Int) < 1024; omega, w.bit⟩
  split
  · have w := wf_set h (i := p) (v := m.pc) h.lo (by have := h.hi; omega)
    exact ⟨⟨w.len, by show 0 ≤ (p + 1) % 64; omega, by show (p + 1) % 64 < 64; omega⟩, w.cell, w.tlo, w.thi, w.bit⟩
  · exact ⟨⟨h.len, p0, p1⟩, h.cell, t0, t1, h.bit⟩
theorem wf_total {m : Mc} (h : WfM m) {t : Int} (t0 : 0 ≤ t) (t1 : t < 1024) : WfM { m with total := t } := ⟨⟨h.len, h.lo, h.hi⟩, h.cell, t0, t1, h.bit⟩
theorem wf_mark {m : Mc} (h : WfM m) {t : Int} (b : t = 0 ∨ t = 1) : WfM { m with mark := t } := ⟨⟨h.len, h.lo, h.hi⟩, h.cell, h.tlo, h.thi, b⟩
theorem wf_rolled {m : Mc} (h : WfM m) (b : Int) : WfM (rolledM m b) := by
  have t0 := h.tlo; have t1 := h.thi; have k := h.bit
  unfold rolledM rolled1
  by_cases h1 : b % 4 = 1
  · have h2 : ¬ b % 4 = 2 := by omega
    rw [if_pos h1, if_neg h2]
    exact ⟨⟨h.len, h.lo, h.hi⟩, h.cell, by show 0 ≤ m.total / 2 + 512 * m.mark; omega, by show m.total / 2 + 512 * m.mark < 1024; omega, by show m.total % 2 = 0 ∨ m.total % 2 = 1; omega⟩
  · rw [if_neg h1]
    split
    · exact ⟨⟨h.len, h.lo, h.hi⟩, h.cell, by show 0 ≤ 2 * m.total % 1024 + m.mark; omega, by show 2 * m.total % 1024 + m.mark < 1024; omega, by show m.total / 512 = 0 ∨ m.total / 512 = 1; omega⟩
    · exact h
theorem wf_chg1 {m : Mc} (h : WfM m) (b : Int) : WfM (chg1 m b) := by unfold chg1; split <;> first | exact wf_total h (by decide) (by decide) | exact h
theorem wf_chg2 {m : Mc} (h : WfM m) (b : Int) : WfM (chg2 m b) := by
  have t0 := h.tlo; have t1 := h.thi
  unfold chg2; split <;> first | exact wf_total h (by omega) (by omega) | exact h
theorem wf_chg3 {m : Mc} (h : WfM m) (b : Int) : WfM (chg3 m b) := by
  have k := h.bit
  unfold chg3; split <;> first | exact wf_mark h (by omega) | exact h
theorem wf_chg4 {m : Mc} (h : WfM m) (b : Int) : WfM (chg4 m b) := by unfold chg4; split <;> first | exact wf_added h (by decide) (by decide) | exact h
theorem wf_changed {m : Mc} (h : WfM m) (b : Int) : WfM (changedM m b) := wf_rolled (wf_chg4 (wf_chg3 (wf_chg2 (wf_chg1 h b) b) b) b) b
theorem wf_tested {m : Mc} (h : WfM m) (b : Int) : WfM (testedM m b) := by
  have h1 : WfM (tst1 m b) := by unfold tst1; split <;> first | exact wf_skip h | exact h
  have h2 : WfM (tst2 (tst1 m b) b) := by unfold tst2; split <;> first | exact wf_total h1 (by decide) (by decide) | exact h1
  unfold testedM tst3; split <;> first | exact wf_mark h2 (.inl rfl) | exact h2
theorem wf_deed {m : Mc} (h : WfM m) : WfM (deedM m) := by
  have s := wf_skip h
  have g := getC_in h m.pc
  unfold deedM
  dsimp only
  split
  · exact wf_moved (wf_aim s _ _) (aimV_lo (by omega)) (aimV_hi (by omega))
  split
  · exact s
  split
  · exact wf_changed s _
  · exact wf_tested s _
/-! ### the machine as a dict, done by hand -/
def dkv (l : Addr) (m : Mc) (rest : List (Key × V)) : List (Key × V) := (Sum.inr "cells", .ref l) :: (Sum.inr "total", .int m.total) :: (Sum.inr "mark", .int m.mark) :: (Sum.inr "at", .int m.pc) :: rest
def dput (H : Hp) (d l : Addr) (m : Mc) (rest : List (Key × V)) : Hp := upd (upd H l (.lst (m.cells.map V.int))) d (.dK (dkv l m rest))
/-- what may stand behind -/
structure Rk (rest : List (Key × V)) : Prop where
  no : ∀ kv ∈ rest, kv.1 ≠ (Sum.inr "cells" : Key) ∧ kv.1 ≠ (Sum.inr "total" : Key) ∧ kv.1 ≠ (Sum.inr "mark" : Key) ∧ kv.1 ≠ (Sum.inr "at" : Key)
  few : rest.length ≤ 100
theorem key_ne {x y : Str} (h : ¬ x = y) : ¬ (Sum.inr x : Key) = Sum.inr y := fun e => h (Sum.inr.inj e)
theorem map_put {rest : List (Key × V)} {k : Key} {v : V} (h : ∀ kv ∈ rest, kv.1 ≠ k) : rest.map (fun kv => if kv.1 = k then (kv.1, v) else kv) = rest := by
  conv => rhs; rw [← List.map_id rest]
  exact List.map_congr_left fun kv hk => if_neg (h kv hk)
theorem putK_mid {pre post : List (Key × V)} {k : Key} {v0 v : V} (h1 : ∀ kv ∈ pre, kv.1 ≠ k) (h2 : ∀ kv ∈ post, kv.1 ≠ k) : putK (pre ++ (k, v0) :: post) k v = pre ++ (k, v) :: post := by
  unfold putK
  rw [if_pos (by simp), List.map_append, List.map_cons, map_put h1, map_put h2, if_pos rfl]
theorem valV_mid {pre post : List (Key × V)} {k : Key} {v0 : V} (h1 : ∀ kv ∈ pre, kv.1 ≠ k) : valV (pre ++ (k, v0) :: post) k = some v0 := by
  induction pre with
  | nil => exact valV_pos rfl
  | cons p r ih => rw [List.cons_append, valV_neg (h1 p List.mem_cons_self)]; exact ih fun kv hk => h1 kv (List.mem_cons_of_mem _ hk)
section
variable {σ : L2.St} {H : Hp} {K : PySem.W.Frag} {d l a p : Addr} {m m' : Mc} {rest : List (Key × V)} {ta tv ti td : TE} {v : V} {x : Str} {kvs : List (Key × V)} {N : L2.St → Hp → Prop} {R : VK} {B C' : L2.St → Hp → Prop} {tz : TS} {z i : Int}
theorem dput_d : dput H d l m rest d = some (.dK (dkv l m rest)) := upd_same
theorem dput_l (h : l ≠ d) : dput H d l m rest l = some (.lst (m.cells.map V.int)) := by unfold dput; rw [upd_ne h, upd_same]
theorem dput_ne (h1 : a ≠ d) (h2 : a ≠ l) : dput H d l m rest a = H a := by unfold dput; rw [upd_ne h1, upd_ne h2]
theorem dput_dk {r' : List (Key × V)} (h : m'.cells = m.cells) : upd (dput H d l m rest) d (.dK (dkv l m' r')) = dput H d l m' r' := by unfold dput; rw [h, upd_upd]
theorem dput_lst (h : l ≠ d) {cs : List Int} : upd (dput H d l m rest) l (.lst (cs.map V.int)) = dput H d l { m with cells := cs } rest := by
  funext b; unfold dput upd
  by_cases h2 : b = l
  · subst h2; rw [if_pos rfl, if_neg h, if_pos rfl]
  · rw [if_neg h2]
    by_cases h1 : b = d
    · rw [if_pos h1, if_pos h1]; rfl
    · rw [if_neg h1, if_neg h2, if_neg h1, if_neg h2]
theorem dput_id (h1 : H d = some (.dK (dkv l m rest))) (h2 : H l = some (.lst (m.cells.map V.int))) : dput H d l m rest = H := by
  funext b; unfold dput upd
  by_cases e1 : b = d
  · subst e1; rw [if_pos rfl, h1]
  · rw [if_neg e1]
    by_cases e2 : b = l
    · subst e2; rw [if_pos rfl, h2]
    · rw [if_neg e2]
theorem same_dput {H0 H' : Hp} (e : Same (dput H0 d l m rest) H') (h : l ≠ d) : dput H' d l m rest = H' := dput_id (e _ _ dput_d) (e _ _ (dput_l h))
theorem dput_dput : dput (dput H d l m rest) d l m' rest = dput H d l m' rest := by
  funext b; unfold dput upd
  by_cases h1 : b = d <;> by_cases h2 : b = l <;> simp [h1, h2]
theorem dput_upd {q : Addr} {o : HO} (h1 : q ≠ d) (h2 : q ≠ l) : upd (dput H d l m rest) q o = dput (upd H q o) d l m rest := by
  funext b; unfold dput upd
  by_cases e : b = q
  · subst e; simp [h1, h2]
  · simp [e]
theorem dput_same {H' : Hp} (h : Same H H') : Same (dput H d l m rest) (dput H' d l m rest) := fun b o e => by
  unfold dput upd at *
  by_cases h1 : b = d
  · simpa [h1] using e
  · by_cases h2 : b = l
    · simpa [h1, h2] using e
    · simp [h1, h2] at *; exact h b o e
theorem smD {H' : Hp} (e : Same H H') (h1 : H d = none) (h2 : H l = none) : Same H (dput H' d l m rest) := fun b u q => by rw [dput_ne (ne_of_none q h1) (ne_of_none q h2)]; exact e b u q
theorem v_dget (h : Val td σ H (.ref d)) (hd : H d = some (.dK kvs)) (hk : valV kvs (Sum.inr x : Key) = some v) : Val (tDGet td (tC (.str x))) σ H v := fun Q q =>
  h _ ⟨d, v, rfl, by rw [← hk]; exact DGet.k (k := Sum.inr x) hd, q⟩
theorem s_dput (hv : Val tv σ H v) (h : Val td σ H (.ref d)) (hd : H d = some (.dK kvs)) (hl : kvs.length ≤ 1000) (q : N σ (upd H d (.dK (putK kvs (Sum.inr x : Key) v)))) : sDPut td (tC (.str x)) tv ⟨N, R, B, C'⟩ σ H :=
  hv _ (h _ ⟨d, _, rfl, DPut.k (k := Sum.inr x) hd (Nat.lt_of_le_of_lt hl (by decide)), q⟩)
theorem kne1 : ¬ ("cells" : Str) = "total" := by decide +kernel
theorem kne2 : ¬ ("cells" : Str) = "mark" := by decide +kernel
theorem kne3 : ¬ ("cells" : Str) = "at" := by decide +kernel
theorem kne4 : ¬ ("total" : Str) = "mark" := by decide +kernel
theorem kne5 : ¬ ("total" : Str) = "at" := by decide +kernel
theorem kne6 : ¬ ("mark" : Str) = "at" := by decide +kernel
theorem dk_cells : valV (dkv l m rest) (Sum.inr "cells" : Key) = some (.ref l) := valV_pos rfl
theorem dk_total : valV (dkv l m rest) (Sum.inr "total" : Key) = some (.int m.total) := by
  unfold dkv; rw [valV_neg (key_ne kne1)]; exact valV_pos rfl
theorem dk_mark : valV (dkv l m rest) (Sum.inr "mark" : Key) = some (.int m.mark) := by
  unfold dkv; rw [valV_neg (key_ne kne2), valV_neg (key_ne kne4)]; exact valV_pos rfl
theorem dk_at : valV (dkv l m rest) (Sum.inr "at" : Key) = some (.int m.pc) := by
  unfold dkv; rw [valV_neg (key_ne kne3), valV_neg (key_ne kne5), valV_neg (key_ne kne6)]; exact valV_pos rfl
theorem dk_rest {k : Key} (h1 : ¬ (Sum.inr "cells" : Key) = k) (h2 : ¬ (Sum.inr "total" : Key) = k) (h3 : ¬ (Sum.inr "mark" : Key) = k) (h4 : ¬ (Sum.inr "at" : Key) = k) : valV (dkv l m rest) k = valV rest k := by
  unfold dkv; rw [valV_neg h1, valV_neg h2, valV_neg h3, valV_neg h4]
theorem dp_total (hr : Rk rest) : putK (dkv l m rest) (Sum.inr "total" : Key) (.int z) = dkv l { m with total := z } rest :=
  putK_mid (pre := [(Sum.inr "cells", .ref l)]) (by intro kv hk; rw [List.mem_singleton.mp hk]; exact key_ne kne1) (by
    intro kv hk
    rcases List.mem_cons.mp hk with rfl | hk
    · exact fun e => kne4 (Sum.inr.inj e).symm
    rcases List.mem_cons.mp hk with rfl | hk
    · exact fun e => kne5 (Sum.inr.inj e).symm
    exact (hr.no kv hk).2.1)
theorem dp_mark (hr : Rk rest) : putK (dkv l m rest) (Sum.inr "mark" : Key) (.int z) = dkv l { m with mark := z } rest :=
  putK_mid (pre := [(Sum.inr "cells", .ref l), (Sum.inr "total", .int m.total)]) (by
    intro kv hk
    rcases List.mem_cons.mp hk with rfl | hk
    · exact key_ne kne2
    rw [List.mem_singleton.mp hk]; exact key_ne kne4) (by
    intro kv hk
    rcases List.mem_cons.mp hk with rfl | hk
    · exact fun e => kne6 (Sum.inr.inj e).symm
    exact (hr.no kv hk).2.2.1)
theorem dp_at (hr : Rk rest) : putK (dkv l m rest) (Sum.inr "at" : Key) (.int z) = dkv l { m with pc := z } rest :=
  putK_mid (pre := [(Sum.inr "cells", .ref l), (Sum.inr "total", .int m.total), (Sum.inr "mark", .int m.mark)]) (by
    intro kv hk
    rcases List.mem_cons.mp hk with rfl | hk
    · exact key_ne kne3
    rcases List.mem_cons.mp hk with rfl | hk
    · exact key_ne kne5
    rw [List.mem_singleton.mp hk]; exact key_ne kne6) (fun kv hk => (hr.no kv hk).2.2.2)
theorem dkv_len (hr : Rk rest) : (dkv l m rest).length ≤ 1000 := by have := hr.few; unfold dkv; simp; omega
theorem vd_cells (h : Val ta σ (dput H d l m rest) (.ref d)) : Val (tDGet ta (tC (.str "cells"))) σ (dput H d l m rest) (.ref l) := v_dget h dput_d dk_cells
theorem vd_total (h : Val ta σ (dput H d l m rest) (.ref d)) : Val (tDGet ta (tC (.str "total"))) σ (dput H d l m rest) (.int m.total) := v_dget h dput_d dk_total
theorem vd_mark (h : Val ta σ (dput H d l m rest) (.ref d)) : Val (tDGet ta (tC (.str "mark"))) σ (dput H d l m rest) (.int m.mark) := v_dget h dput_d dk_mark
theorem vd_at (h : Val ta σ (dput H d l m rest) (.ref d)) : Val (tDGet ta (tC (.str "at"))) σ (dput H d l m rest) (.int m.pc) := v_dget h dput_d dk_at
theorem vd_item (hne : l ≠ d) (h : Val ta σ (dput H d l m rest) (.ref l)) (hi : Val ti σ (dput H d l m rest) (.int i)) (h0 : 0 ≤ i) (h1 : i < (m.cells.length : Int)) : Val (tOp (rIxL K) ta ti) σ (dput H d l m rest) (.int (getC m i)) :=
  v_ixLI h hi (SqL.of (dput_l hne)) h0 h1
theorem sd_total (hr : Rk rest) (hv : Val tv σ (dput H d l m rest) (.int z)) (ha : Val ta σ (dput H d l m rest) (.ref d)) (q : N σ (dput H d l { m with total := z } rest)) : sDPut ta (tC (.str "total")) tv ⟨N, R, B, C'⟩ σ (dput H d l m rest) :=
  s_dput hv ha dput_d (dkv_len hr) (by rw [dp_total hr, dput_dk (m := m) (m' := { m with total := z }) rfl]; exact q)
theorem sd_mark (hr : Rk rest) (hv : Val tv σ (dput H d l m rest) (.int z)) (ha : Val ta σ (dput H d l m rest) (.ref d)) (q : N σ (dput H d l { m with mark := z } rest)) : sDPut ta (tC (.str "mark")) tv ⟨N, R, B, C'⟩ σ (dput H d l m rest) :=
  s_dput hv ha dput_d (dkv_len hr) (by rw [dp_mark hr, dput_dk (m := m) (m' := { m with mark := z }) rfl]; exact q)
theorem sd_at (hr : Rk rest) (hv : Val tv σ (dput H d l m rest) (.int z)) (ha : Val ta σ (dput H d l m rest) (.ref d)) (q : N σ (dput H d l { m with pc := z } rest)) : sDPut ta (tC (.str "at")) tv ⟨N, R, B, C'⟩ σ (dput H d l m rest) :=
  s_dput hv ha dput_d (dkv_len hr) (by rw [dp_at hr, dput_dk (m := m) (m' := { m with pc := z }) rfl]; exact q)
theorem sd_item (hne : l ≠ d) (hv : Val tv σ (dput H d l m rest) (.int z)) (ha : Val ta σ (dput H d l m rest) (.ref l)) (hi : Val ti σ (dput H d l m rest) (.int i)) (h0 : 0 ≤ i) (h1 : i < (m.cells.length : Int))
    (q : N σ (dput H d l (setC m i z) rest)) : tAsg tv (gSub ta ti rSetL) ⟨N, R, B, C'⟩ σ (dput H d l m rest) :=
  hv _ (ha _ (hi _ ⟨l, _, i, i.toNat, rfl, rfl, dput_l hne, ixN_int h0 (by rw [List.length_map]; exact h1), by
    rw [← List.map_set, dput_lst hne]; exact q⟩))
theorem qd_total (hr : Rk rest) (hv : Val tv σ (dput H d l m rest) (.int z)) (ha : Val ta σ (dput H d l m rest) (.ref d)) (q : tz ⟨N, R, B, C'⟩ σ (dput H d l { m with total := z } rest)) : tSeq (sDPut ta (tC (.str "total")) tv) tz ⟨N, R, B, C'⟩ σ (dput H d l m rest) := sd_total (N := tz ⟨N, R, B, C'⟩) (B := B) (C' := C') hr hv ha q
theorem qd_mark (hr : Rk rest) (hv : Val tv σ (dput H d l m rest) (.int z)) (ha : Val ta σ (dput H d l m rest) (.ref d)) (q : tz ⟨N, R, B, C'⟩ σ (dput H d l { m with mark := z } rest)) : tSeq (sDPut ta (tC (.str "mark")) tv) tz ⟨N, R, B, C'⟩ σ (dput H d l m rest) := sd_mark (N := tz ⟨N, R, B, C'⟩) (B := B) (C' := C') hr hv ha q
theorem qd_at (hr : Rk rest) (hv : Val tv σ (dput H d l m rest) (.int z)) (ha : Val ta σ (dput H d l m rest) (.ref d)) (q : tz ⟨N, R, B, C'⟩ σ (dput H d l { m with pc := z } rest)) : tSeq (sDPut ta (tC (.str "at")) tv) tz ⟨N, R, B, C'⟩ σ (dput H d l m rest) := sd_at (N := tz ⟨N, R, B, C'⟩) (B := B) (C' := C') hr hv ha q
theorem qd_item (hne : l ≠ d) (hv : Val tv σ (dput H d l m rest) (.int z)) (ha : Val ta σ (dput H d l m rest) (.ref l)) (hi : Val ti σ (dput H d l m rest) (.int i)) (h0 : 0 ≤ i) (h1 : i < (m.cells.length : Int))
    (q : tz ⟨N, R, B, C'⟩ σ (dput H d l (setC m i z) rest)) : tSeq (tAsg tv (gSub ta ti rSetL)) tz ⟨N, R, B, C'⟩ σ (dput H d l m rest) := sd_item (N := tz ⟨N, R, B, C'⟩) (B := B) (C' := C') hne hv ha hi h0 h1 q
end
theorem nls_lcNTt {σ : L2.St} {H : Hp} {K : PySem.W.Frag} {te tl : TE} {tt : TT} {xs ys : List V} {k : Nat} {ws : List Nat} (p : V → Bool) (f : V → V) (hy : (xs.filter p).map f = ys) (h : NewT tl σ H xs) (hn : xs.length ≤ 100000) (hw : ∀ x, wipe ((wipe σ ws).set k (some x)) ws = wipe σ ws)
    (ht : ∀ (m : Nat) (x : V) (H' : Hp), Same H H' → xs[m]? = some x → Ans tt ((wipe σ ws).set k (some x)) H' (p x))
    (he : ∀ (m : Nat) (x : V) (H' : Hp), Same H H' → xs[m]? = some x → p x = true → Val te ((wipe σ ws).set k (some x)) H' (f x)) : NewLs (tLc (iTup K tl) (gName k) tt te ws) σ H ys := fun Q q =>
  h _ fun P hP => ⟨P, rfl, ⟨xs, SqT.of upd_same⟩, fun D hD => lc_tup (xs := xs) (fun m H' => Same H H' ∧ H' P = some (.tup xs) ∧ H' D = some (.lst (((xs.take m).filter p).map f))) ⟨(smN hP).trans (smN hD), smN hD _ _ upd_same, upd_same⟩ (fun m H' _ e => SqT.of e.2.1) (fun m x H' hm e => by
    obtain ⟨sm, hPP, hl⟩ := e
    have hD0 : H D = none := (smN hP).free hD
    have nPD : P ≠ D := ne_of_none upd_same hD
    have hlt : m < xs.length := (List.getElem?_eq_some_iff.mp hm).1
    refine ⟨hw _, ht m x _ sm hm _ ?_⟩
    rw [filter_take hm]
    cases hp : p x with
    | true =>
      refine iteT (he m x _ sm hm hp _ ⟨_, hl, ?_, smM sm hD0, by rw [upd_ne nPD]; exact hPP, by rw [upd_same]; rfl⟩)
      rw [List.length_map]
      exact Nat.lt_of_lt_of_le (Nat.lt_of_le_of_lt (List.length_filter_le _ _) (show (xs.take m).length < 100000 by rw [List.length_take]; omega)) (by decide)
    | false => exact iteF ⟨sm, hPP, hl⟩) (fun H' e => by
      have e3 := e.2.2
      rw [List.take_length, hy] at e3
      exact q D H' ((smN hP).free hD) e.1 e3)⟩
theorem marks_two (x y : Int) : (marks10.filter fun b => decide (x / b % 2 + y / b % 2 = 2)) = marks10.filter fun b => decide (x / b % 2 = 1) && decide (y / b % 2 = 1) := by
  congr 1; funext b
  have h1 : 0 ≤ x / b % 2 ∧ x / b % 2 < 2 := ⟨Int.emod_nonneg _ (by decide), Int.emod_lt_of_pos _ (by decide)⟩
  have h2 : 0 ≤ y / b % 2 ∧ y / b % 2 < 2 := ⟨Int.emod_nonneg _ (by decide), Int.emod_lt_of_pos _ (by decide)⟩
  generalize x / b % 2 = u at *
  generalize y / b % 2 = v at *
  by_cases e1 : u = 1 <;> by_cases e2 : v = 1 <;> simp [e1, e2] <;> omega
/-! promises -/
def HAt (H : Hp) (H0 : Hp) (d l : Addr) (m : Mc) (rest : List (Key × V)) : Prop := l ≠ d ∧ Rk rest ∧ WfM m ∧ H = dput H0 d l m rest
def spHMore : Sp := fun vs H Q _ => ∃ (H0 : Hp) (d l : Addr) (m : Mc) (rest : List (Key × V)) (n : Int), vs = [.ref d, .int n] ∧ HAt H H0 d l m rest ∧ 0 ≤ n ∧ n < 1024 ∧ Q .non (dput H0 d l (addedM m n) rest)
def spHPast : Sp := fun vs H Q _ => ∃ (H0 : Hp) (d l : Addr) (m : Mc) (rest : List (Key × V)), vs = [.ref d] ∧ l ≠ d ∧ Rk rest ∧ H = dput H0 d l m rest ∧ Q .non (dput H0 d l (skipM m) rest)
def spHAim : Sp := fun vs H Q _ => ∃ (H0 : Hp) (d l : Addr) (m : Mc) (rest : List (Key × V)) (far place : Int), vs = [.ref d, .int far, .int place] ∧ HAt H H0 d l m rest ∧ 0 ≤ place ∧ place < 64 ∧ ∀ H1, Same H0 H1 → Q (.int (aimV m far place)) (dput H1 d l (aimP m far place) rest)
def spHMove : Sp := fun vs H Q _ => ∃ (H0 : Hp) (d l : Addr) (m : Mc) (rest : List (Key × V)) (kind place : Int), vs = [.ref d, .int kind, .int place] ∧ HAt H H0 d l m rest ∧ 0 ≤ kind ∧ kind ≤ 5 ∧ 0 ≤ place ∧ place < 64 ∧ ∀ H1, Same H0 H1 → Q .non (dput H1 d l (movedM m kind place) rest)
def spHBits (f : Mc → Int → Mc) : Sp := fun vs H Q _ => ∃ (H0 : Hp) (d l : Addr) (m : Mc) (rest : List (Key × V)) (bits : Int), vs = [.ref d, .int bits] ∧ HAt H H0 d l m rest ∧ 0 ≤ bits ∧ bits < 64 ∧ Q .non (dput H0 d l (f m bits) rest)
def spHDeed : Sp := fun vs H Q _ => ∃ (H0 : Hp) (d l : Addr) (m : Mc) (rest : List (Key × V)), vs = [.ref d] ∧ HAt H H0 d l m rest ∧ ∀ H1, Same H0 H1 → Q (deedV m) (dput H1 d l (deedM m) rest)
def spHNew (K : PySem.W.Frag) : Sp := fun vs H Q _ => ∃ (a : Addr) (cs : List Int), vs = [.ref a] ∧ SqL K H a (cs.map V.int) ∧ ∀ d l H1, H d = none → H l = none → l ≠ d → Same H H1 → Q (.ref d) (dput H1 d l ⟨cs, 0, 0, 0⟩ [])
section
variable {σ : L2.St} {H H0 : Hp} {ta td te t1 t2 t3 : TE} {N : L2.St → Hp → Prop} {R : VK} {B C' : L2.St → Hp → Prop} {tz : TS} {x y z : V} {s : Str} {d l : Addr} {m : Mc} {rest : List (Key × V)}
theorem x_dput {tv : TE} (h : tv σ H fun v H1 => td σ H1 fun x H2 => (tC (.str s)) σ H2 fun y H3 => ∃ a H4, x = .ref a ∧ DPut H3 a y v H4 ∧ N σ H4) : sDPut td (tC (.str s)) tv ⟨N, R, B, C'⟩ σ H := h
theorem x_qdrop (h : te σ H fun _ H1 => tz ⟨N, R, B, C'⟩ σ H1) : tSeq (tDrop te) tz ⟨N, R, B, C'⟩ σ H := h
theorem x_sdrop (h : te σ H fun _ H1 => N σ H1) : tDrop te ⟨N, R, B, C'⟩ σ H := h
/-- f(a, b, g(..)): the last argument by what it leaves -/
theorem x_call3 {sp : Sp} {Q : VK} (h1 : Val t1 σ H x) (h2 : Val t2 σ H y) (h3 : t3 σ H fun z H1 => sp [x, y, z] H1 Q E0) : tCall sp [] E0 (tCons t1 (tCons t2 (tCons t3 tNil))) σ H Q :=
  h1 _ (h2 _ h3)
/-- below a dput: H with H0's own things at d and l -/
def under (H0 H : Hp) (d l : Addr) : Hp := fun b => if b = d then H0 b else if b = l then H0 b else H b
theorem dput_under : dput (under H0 H d l) d l m rest = dput H d l m rest := by
  funext b; unfold dput upd under
  by_cases h1 : b = d <;> by_cases h2 : b = l <;> simp [h1, h2]
theorem same_under {m0 : Mc} {r0 : List (Key × V)} (sm : Same (dput H0 d l m0 r0) H) : Same H0 (under H0 H d l) := fun b o e => by
  unfold under
  by_cases h1 : b = d
  · rw [if_pos h1]; exact e
  · rw [if_neg h1]
    by_cases h2 : b = l
    · rw [if_pos h2]; exact e
    · rw [if_neg h2]; exact sm _ _ (by rw [dput_ne h1 h2]; exact e)
end
/-! reads by what stands there -/
section
variable {σ : L2.St} {H : Hp} {K : PySem.W.Frag} {C : Addr} {ta : TE} {d l p dx : Addr} {m : Mc} {rest : List (Key × V)}
theorem vf_total (M : MTx K C) (hp : H p = some (.ins C dx (mfs l m))) (h : Val ta σ H (.ref p)) : Val (tFld K ta "total") σ H (.int m.total) := val_fld h hp M.cl M.nTotal mf_total
theorem vf_mark (M : MTx K C) (hp : H p = some (.ins C dx (mfs l m))) (h : Val ta σ H (.ref p)) : Val (tFld K ta "mark") σ H (.int m.mark) := val_fld h hp M.cl M.nMark mf_mark
theorem vf_at (M : MTx K C) (hp : H p = some (.ins C dx (mfs l m))) (h : Val ta σ H (.ref p)) : Val (tFld K ta "at") σ H (.int m.pc) := val_fld h hp M.cl M.nAt mf_at
theorem vf_cells (M : MTx K C) (hp : H p = some (.ins C dx (mfs l m))) (h : Val ta σ H (.ref p)) : Val (tFld K ta "cells") σ H (.ref l) := val_fld h hp M.cl M.nCells mf_cells
theorem ve_total (hd : H d = some (.dK (dkv l m rest))) (h : Val ta σ H (.ref d)) : Val (tDGet ta (tC (.str "total"))) σ H (.int m.total) := v_dget h hd dk_total
theorem ve_mark (hd : H d = some (.dK (dkv l m rest))) (h : Val ta σ H (.ref d)) : Val (tDGet ta (tC (.str "mark"))) σ H (.int m.mark) := v_dget h hd dk_mark
theorem ve_at (hd : H d = some (.dK (dkv l m rest))) (h : Val ta σ H (.ref d)) : Val (tDGet ta (tC (.str "at"))) σ H (.int m.pc) := v_dget h hd dk_at
theorem ve_cells (hd : H d = some (.dK (dkv l m rest))) (h : Val ta σ H (.ref d)) : Val (tDGet ta (tC (.str "cells"))) σ H (.ref l) := v_dget h hd dk_cells
theorem rk_nil : Rk [] := ⟨fun kv h => (nomatch h), Nat.zero_le _⟩
theorem scal_deed (m : Mc) : scal (deedV m) (deedV m) = true := by unfold deedV; split <;> rfl
/-- a machine and a dict that tell the same machine, apart -/
structure Both (C : Addr) (H : Hp) (x dx l d l0 : Addr) (m : Mc) (rest : List (Key × V)) : Prop where
  hx : H x = some (.ins C dx (mfs l m))
  hl : H l = some (.lst (m.cells.map V.int))
  hd : H d = some (.dK (dkv l0 m rest))
  h0 : H l0 = some (.lst (m.cells.map V.int))
  nlx : l ≠ x
  n0d : l0 ≠ d
  n0l : l0 ≠ l
theorem Both.nxd {C : Addr} {H : Hp} {x dx l d l0 : Addr} {m : Mc} {rest : List (Key × V)} (b : Both C H x dx l d l0 m rest) : d ≠ x ∧ d ≠ l ∧ l0 ≠ x := ⟨ne_of b.hd b.hx (fun q => nomatch q), ne_of b.hd b.hl (fun q => nomatch q), ne_of b.h0 b.hx (fun q => nomatch q)⟩
/-- behind a deed of the one and of the other -/
theorem Both.next {C : Addr} {H H1 H2 : Hp} {x dx l d l0 : Addr} {m m' : Mc} {rest : List (Key × V)} (b : Both C H x dx l d l0 m rest) (s1 : Same H H1) (s2 : Same (mput C H1 x dx l m') H2) : Both C (dput H2 d l0 m' rest) x dx l d l0 m' rest := by
  obtain ⟨n1, n2, n3⟩ := b.nxd
  exact ⟨by rw [dput_ne n1.symm n3.symm]; exact s2 _ _ mput_p, by rw [dput_ne n2.symm b.n0l.symm]; exact s2 _ _ (mput_l b.nlx), dput_d, dput_l b.n0d, b.nlx, b.n0d, b.n0l⟩
/-- the dict's side, between the two deeds -/
theorem Both.mid {C : Addr} {H H1 : Hp} {x dx l d l0 : Addr} {m m' : Mc} {rest : List (Key × V)} (b : Both C H x dx l d l0 m rest) (s1 : Same H H1) : mput C H1 x dx l m' d = some (.dK (dkv l0 m rest)) ∧ mput C H1 x dx l m' l0 = some (.lst (m.cells.map V.int)) := by
  obtain ⟨n1, n2, n3⟩ := b.nxd
  exact ⟨by rw [mput_ne n1 n2]; exact s1 _ _ b.hd, by rw [mput_ne n3 b.n0l]; exact s1 _ _ b.h0⟩
theorem Both.keep {C : Addr} {H H1 H2 : Hp} {x dx l d l0 a : Addr} {m m' : Mc} {rest : List (Key × V)} {o : HO} (b : Both C H x dx l d l0 m rest) (s1 : Same H H1) (s2 : Same (mput C H1 x dx l m') H2) (h : H a = some o) (q1 : a ≠ x) (q2 : a ≠ l) (q3 : a ≠ d) (q4 : a ≠ l0) : dput H2 d l0 m' rest a = some o := by
  rw [dput_ne q3 q4]; exact s2 _ _ (by rw [mput_ne q1 q2]; exact s1 _ _ h)
end
section
variable {P : Program} {w : World} {K : PySem.W.Frag} {mg : Str → Option Value} {base : Heap}

theorem sc_law_more : FnScope ["_law_one", "_law_number", "_law_amount"] ["_law_one", "_law_number"] (defScope s_law_more) := ⟨rfl, rfl, rfl, by decide +kernel, rfl, by decide +kernel, by decide +kernel⟩
theorem cal_law_more (T : Tx K mg) : Cal P w K mg base 1 "_law_more" ["_law_one", "_law_number"] spHMore := by
  refine cal_mk T 12 12 rfl rfl sc_law_more (fun _ _ _ _ _ _ us hl => match us, hl with | [_, _], _ => rfl) (fun vs H Q E h => ?_) (fun f cdv A outer s H vs Q E hr h => ?_)
  · obtain ⟨H0, d, l, m, rest, n, rfl, ⟨hne, hr0, hw, rfl⟩, n0, n1, k⟩ := h
    rfl
  · obtain ⟨H0, d, l, m, rest, n, rfl, ⟨hne, hr0, hw, rfl⟩, n0, n1, k⟩ := h
    have hu := hu_of hr
    refine ⟨_, (pss_cons (ps_set (i := 2) sc_law_more.nd rfl (Or.inl rfl) (pe_op op_add (pe_dget hu (pv 0) pe_str (fun _ _ => rfl)) (pv 1))) (C8.pss_cut (ps_if (pt_cmpR op_gt (pv 2) pe_int (nomark _)) (pss_one (ps_dput hu (pv 0) pe_str (pe_op op_sub pe_int (pe_dget hu (pv 0) pe_str (fun _ _ => rfl))) rfl)) pss_nil) (pss_one (ps_dput hu (pv 0) pe_str (pe_op op_mod (pv 2) pe_int) rfl)))), ?_⟩
    refine q_set (v_add (vd_total (v_var rfl)) (v_var rfl)) ?_
    refine q_cutH (H1 := dput H0 d l (if 1024 ≤ m.total + n then { m with mark := 1 - m.mark } else m) rest) (s_if (a_t (v_gt (v_var rfl) v_c)) (fun h1 => ?_) (fun h1 => ?_)) ?_
    · refine sd_mark hr0 (v_sub v_c (vd_mark (v_var rfl))) (v_var rfl) ?_
      try simp only [decide_eq_true_eq, decide_eq_false_iff_not, not_dec] at h1
      exact ⟨rfl, by first | rw [if_pos (by omega)] | rw [if_neg (by omega)]⟩
    · refine s_next ?_
      try simp only [decide_eq_true_eq, decide_eq_false_iff_not, not_dec] at h1
      exact ⟨rfl, by first | rw [if_pos (by omega)] | rw [if_neg (by omega)]⟩
    refine sd_total hr0 (v_mod (v_var rfl) v_c (by decide)) (v_var rfl) ?_
    have t0 := hw.tlo
    have t1 := hw.thi
    unfold addedM at k
    by_cases c : 1024 ≤ m.total + n
    · rw [if_pos c] at k ⊢
      have e : (m.total + n) % 1024 = m.total + n - 1024 := by omega
      rw [e]; exact k
    · rw [if_neg c] at k ⊢
      have e : (m.total + n) % 1024 = m.total + n := by omega
      rw [e]; exact k

theorem sc_law_past : FnScope ["_law_one"] ["_law_one"] (defScope s_law_past) := ⟨rfl, rfl, rfl, by decide +kernel, rfl, by decide +kernel, by decide +kernel⟩
theorem cal_law_past (T : Tx K mg) : Cal P w K mg base 1 "_law_past" ["_law_one"] spHPast := by
  refine cal_mk T 14 14 rfl rfl sc_law_past (fun _ _ _ _ _ _ us hl => match us, hl with | [_], _ => rfl) (fun vs H Q E h => ?_) (fun f cdv A outer s H vs Q E hr h => ?_)
  · obtain ⟨H0, d, l, m, rest, rfl, hne, hr0, rfl, k⟩ := h
    rfl
  · obtain ⟨H0, d, l, m, rest, rfl, hne, hr0, rfl, k⟩ := h
    have hu := hu_of hr
    refine ⟨_, (pss_one (ps_dput hu (pv 0) pe_str (pe_op op_mod (pe_op op_add (pe_dget hu (pv 0) pe_str (fun _ _ => rfl)) pe_int) pe_int) rfl)), ?_⟩
    refine sd_at hr0 (v_mod (v_add (vd_at (v_var rfl)) v_c) v_c (by decide)) (v_var rfl) ?_
    exact k

theorem sc_law_aim : FnScope ["_law_one", "_law_far", "_law_place"] ["_law_one", "_law_far", "_law_place"] (defScope s_law_aim) := ⟨rfl, rfl, rfl, by decide +kernel, rfl, by decide +kernel, by decide +kernel⟩
theorem cal_law_aim (T : Tx K mg) : Cal P w K mg base 1 "_law_aim" ["_law_one", "_law_far", "_law_place"] spHAim := by
  refine cal_mk T 13 13 rfl rfl sc_law_aim (fun _ _ _ _ _ _ us hl => match us, hl with | [_, _, _], _ => rfl) (fun vs H Q E h => ?_) (fun f cdv A outer s H vs Q E hr h => ?_)
  · obtain ⟨H0, d, l, m, rest, far, pl, rfl, ⟨hne, hr0, hw, rfl⟩, p0, p1, k⟩ := h
    rfl
  · obtain ⟨H0, d, l, m, rest, far, pl, rfl, ⟨hne, hr0, hw, rfl⟩, p0, p1, k⟩ := h
    have hu := hu_of hr
    refine ⟨_, (pss_cons (ps_if (pt_cmpR op_eq (pv 1) pe_int (nomark _)) (pss_one (ps_ret (pv 2))) pss_nil) (C8.pss_cut (ps_if (pt_cmpR op_in_seq (pv 2) (pe_tup (pa_cons pe_int (pa_cons pe_int (pa_cons pe_int (pa_cons pe_int pa_nil))))) (by rfl)) (pss_one (ps_asg (pe_op op_mod (pe_op op_add (pe_ix ix_list (pe_dget hu (pv 0) pe_str (fun _ _ => rfl)) (pv 2) (fun _ _ => rfl)) pe_int) pe_int) (pg_sub (pe_dget hu (pv 0) pe_str (fun _ _ => rfl)) (pv 2) set_list))) pss_nil) (pss_one (ps_ret (pe_op op_mod (pe_ix ix_list (pe_dget hu (pv 0) pe_str (fun _ _ => rfl)) (pv 2) (fun _ _ => rfl)) pe_int))))), ?_⟩
    refine q_if (a_t (v_eqI (v_var rfl) v_c)) (fun h1 => ?_) (fun h1 => ?_)
    · refine s_ret (v_var rfl) ?_
      have g : far = 0 := of_decide_eq_true h1
      have k2 := k _ (Same.refl _)
      unfold aimV aimP at k2
      rw [if_pos g, if_pos g] at k2
      exact k2
    · refine s_next ?_
      refine q_rel (fun σ' H' => σ' = [some (.ref d), some (.int far), some (.int pl)] ∧ ∃ H1, Same H0 H1 ∧ H' = dput H1 d l (aimP m far pl) rest) ?_ ?_
      · refine sx_if (x_test (x_op (x_v (v_var rfl) (x_T (nt_disp (va_cons v_c (va_cons v_c (va_cons v_c (va_cons v_c va_nil))))) (fun P hP => ?_)))))
        have nd : P ≠ d := fun e => by subst e; rw [dput_d] at hP; cases hP
        have nl : P ≠ l := fun e => by subst e; rw [dput_l hne] at hP; cases hP
        have hP0 : H0 P = none := by rw [dput_ne nd nl] at hP; exact hP
        refine ⟨P, _, rfl, .inr (SqT.of upd_same), rfl, rfl, _, rfl, ?_⟩
        rw [dput_upd nd nl]
        have g : ¬ far = 0 := of_decide_eq_false h1
        have hin : inV (.int pl) [.int 8, .int 9, .int 10, .int 11] = (decide (8 ≤ pl) && decide (pl < 12)) := by
          by_cases c : 8 ≤ pl ∧ pl < 12
          · have : pl = 8 ∨ pl = 9 ∨ pl = 10 ∨ pl = 11 := by omega
            rcases this with rfl | rfl | rfl | rfl <;> rfl
          · have c2 : (decide (8 ≤ pl) && decide (pl < 12)) = false := by simp; omega
            rw [c2]
            have n8 : ¬ pl = 8 := by omega
            have n9 : ¬ pl = 9 := by omega
            have n10 : ¬ pl = 10 := by omega
            have n11 : ¬ pl = 11 := by omega
            simp [inV, eqV, n8, n9, n10, n11, Ne.symm n8, Ne.symm n9, Ne.symm n10, Ne.symm n11]
            try omega
        show (if (if false = true then _ else inV (.int pl) [.int 8, .int 9, .int 10, .int 11]) = true then _ else _)
        rw [if_neg Bool.false_ne_true, hin]
        have hl := hw.len
        by_cases c : (decide (8 ≤ pl) && decide (pl < 12)) = true
        · rw [if_pos c]
          refine sd_item hne (v_mod (v_add (vd_item hne (vd_cells (v_var rfl)) (v_var rfl) (by omega) (by omega)) v_c) v_c (by decide)) (vd_cells (v_var rfl)) (v_var rfl) (by omega) (by omega) ?_
          refine ⟨rfl, _, smN (o := .tup [.int 8, .int 9, .int 10, .int 11]) hP0, ?_⟩
          unfold aimP riseM
          rw [if_neg g, if_pos c]
        · rw [if_neg c]
          refine s_next ⟨rfl, _, smN (o := .tup [.int 8, .int 9, .int 10, .int 11]) hP0, ?_⟩
          unfold aimP
          rw [if_neg g, if_neg c]
      rintro _ _ ⟨rfl, H1, sm, rfl⟩
      have g : ¬ far = 0 := of_decide_eq_false h1
      have hl : (aimP m far pl).cells.length = 64 := by rw [aimP_len]; exact hw.len
      refine s_ret (v_mod (vd_item hne (vd_cells (v_var rfl)) (v_var rfl) (by omega) (by omega)) v_c (by decide)) ?_
      have k2 := k _ sm
      unfold aimV at k2
      rw [if_neg g] at k2
      exact k2

theorem sc_law_move : FnScope ["_law_one", "_law_kind", "_law_place", "_law_cells_here", "_law_b"] ["_law_one", "_law_kind", "_law_place"] (defScope s_law_move) := ⟨rfl, rfl, rfl, by decide +kernel, rfl, by decide +kernel, by decide +kernel⟩
theorem cal_law_move (T : Tx K mg) : Cal P w K mg base 2 "_law_move" ["_law_one", "_law_kind", "_law_place"] spHMove := by
  refine cal_mk T 15 15 rfl rfl sc_law_move (fun _ _ _ _ _ _ us hl => match us, hl with | [_, _, _], _ => rfl) (fun vs H Q E h => ?_) (fun f cdv A outer s H vs Q E hr h => ?_)
  · obtain ⟨H0, d, l, m, rest, kind, pl, rfl, ⟨hne, hr0, hw, rfl⟩, k0, k5, p0, p1, k⟩ := h
    rfl
  · obtain ⟨H0, d, l, m, rest, kind, pl, rfl, ⟨hne, hr0, hw, rfl⟩, k0, k5, p0, p1, k⟩ := h
    have hu := hu_of hr
    refine ⟨_, (pss_cons (ps_set (i := 3) sc_law_move.nd rfl (Or.inr rfl) (pe_dget hu (pv 0) pe_str (fun _ _ => rfl))) (pss_cons (ps_if (pt_cmpR op_eq (pv 1) pe_int (nomark _)) (pss_one (ps_dput hu (pv 0) pe_str (pe_callB (cr_sum rfl) (by rfl) (T.free 26) (by decide +kernel) (pa_cons (pe_lc (own := [("_law_b", 4)]) (g := gName 4)  (by rfl) sc_law_move.nd (pi_tup (pe_tup (pa_cons pe_int (pa_cons pe_int (pa_cons pe_int (pa_cons pe_int (pa_cons pe_int (pa_cons pe_int (pa_cons pe_int (pa_cons pe_int (pa_cons pe_int (pa_cons pe_int pa_nil)))))))))))) (blkOk_by (own := [("_law_b", 4)]) (N := ["_law_one", "_law_kind", "_law_place", "_law_cells_here", "_law_b"]) (sc := defScope s_law_move) (by decide +kernel)) (fun _ _ _ _ _ => pg_name (i := 4) sc_law_move.nd rfl (Or.inl rfl)) (fun _ _ _ _ _ => (pts_one (pt_cmpR op_eq (pe_op op_add (pe_op op_mod (pe_op op_fdiv (pe_dget hu (pv 0) pe_str (fun _ _ => rfl)) (pv 4)) pe_int) (pe_op op_mod (pe_op op_fdiv (pe_ix (r := rIxL K) ix_list (pv 3) (pv 2) (fun _ _ => rfl)) (pv 4)) pe_int)) pe_int (nomark _)))) (fun _ _ _ _ _ => (pv 4))) pa_nil)) rfl)) pss_nil) (pss_cons (ps_if (pt_cmpR op_eq (pv 1) pe_int (nomark _)) (pss_one (ps_expr (pe_cal (cal_law_more (K := K) T) hr (by decide) rfl (pa_cons (pv 0) (pa_cons (pe_ix ix_list (pv 3) (pv 2) (fun _ _ => rfl)) pa_nil))))) pss_nil) (pss_cons (ps_if (pt_cmpR op_eq (pv 1) pe_int (nomark _)) (pss_cons (ps_asg (pe_op op_mod (pe_op op_add (pe_ix ix_list (pv 3) (pv 2) (fun _ _ => rfl)) pe_int) pe_int) (pg_sub (pv 3) (pv 2) set_list)) (pss_one (ps_if (pt_cmpR op_eq (pe_ix ix_list (pv 3) (pv 2) (fun _ _ => rfl)) pe_int (nomark _)) (pss_one (ps_expr (pe_cal (cal_law_past (K := K) T) hr (by decide) rfl (pa_cons (pv 0) pa_nil)))) pss_nil))) pss_nil) (pss_cons (ps_if (pt_cmpR op_eq (pv 1) pe_int (nomark _)) (pss_cons (ps_asg (pe_dget hu (pv 0) pe_str (fun _ _ => rfl)) (pg_sub (pv 3) (pv 2) set_list)) (pss_one (ps_dput hu (pv 0) pe_str pe_int rfl))) pss_nil) (pss_cons (ps_if (pt_cmpR op_eq (pv 1) pe_int (nomark _)) (pss_one (ps_asg (pe_dget hu (pv 0) pe_str (fun _ _ => rfl)) (pg_sub (pv 3) (pv 2) set_list))) pss_nil) (pss_cons (ps_if (pt_cmpR op_eq (pv 1) pe_int (nomark _)) (pss_one (ps_dput hu (pv 0) pe_str (pe_op op_mod (pe_op op_add (pv 2) pe_int) pe_int) rfl)) pss_nil) (pss_one (ps_if (pt_cmpR op_eq (pv 1) pe_int (nomark _)) (pss_one (ps_dput hu (pv 0) pe_str (pv 2) rfl)) pss_nil))))))))), ?_⟩
    have hl := hw.len
    have tl := hw.tlo
    have th := hw.thi
    have hk : kind = 0 ∨ kind = 1 ∨ kind = 2 ∨ kind = 3 ∨ kind = 4 ∨ kind = 5 := by omega
    refine q_set (vd_cells (v_var rfl)) ?_
    rcases hk with rfl | rfl | rfl | rfl | rfl | rfl
    · refine q_ifT (a_t (v_eqI (v_var rfl) v_c)) (by decide) ?_
      refine x_dput (x_sum' (ns := marks10.filter fun b => decide (m.total / b % 2 + getC m pl / b % 2 = 2)) (nls_lcNTt (xs := marks10.map V.int) (fun v => match v with | .int b => decide (m.total / b % 2 + getC m pl / b % 2 = 2) | _ => false) id (filter_ints _ _ (fun i => rfl) _) (nt_disp (xs := marks10.map V.int) (va_cons v_c (va_cons v_c (va_cons v_c (va_cons v_c (va_cons v_c (va_cons v_c (va_cons v_c (va_cons v_c (va_cons v_c (va_cons v_c va_nil)))))))))) (by decide)) (by decide) (fun _ => rfl) (fun mm z H' sm hm => ?_) (fun mm z H' sm hm _ => v_var rfl)) (fun H' sm => ?_))
      · obtain ⟨b, hb, rfl⟩ : ∃ b, b ∈ marks10 ∧ z = V.int b := by
          obtain ⟨b, hb, e⟩ := List.mem_map.mp (List.mem_of_getElem? hm)
          exact ⟨b, hb, e.symm⟩
        have hd : ∀ x, CDiv x b := by
          have : ∀ b ∈ marks10, 0 < b ∧ b < 1073741824 := by decide
          exact fun x => this b hb
        exact a_t (v_eqI (v_add (v_mod (v_fdiv (v_dget (v_var rfl) (sm _ _ dput_d) dk_total) (v_var rfl) (hd _)) v_c (by decide)) (v_mod (v_fdiv (v_ixLI (v_var rfl) (v_var rfl) (SqL.of (sm _ _ (dput_l hne))) (by omega) (by omega)) (v_var rfl) (hd _)) v_c (by decide))) v_c)
      refine x_v (v_var rfl) (x_v v_c ⟨d, _, rfl, DPut.k (k := Sum.inr "total") (sm _ _ dput_d) (Nat.lt_of_le_of_lt (dkv_len hr0) (by decide)), ?_⟩)
      rw [dp_total hr0, marks_two, ← and_marks tl th (getC_in hw pl).1, ← same_dput sm hne, dput_dk (m := m) (m' := { m with total := Builtin.bitAnd m.total (getC m pl) }) rfl]
      refine q_ifF0 (a_t (v_eqI (v_var rfl) v_c)) (by decide) ?_
      refine q_ifF0 (a_t (v_eqI (v_var rfl) v_c)) (by decide) ?_
      refine q_ifF0 (a_t (v_eqI (v_var rfl) v_c)) (by decide) ?_
      refine q_ifF0 (a_t (v_eqI (v_var rfl) v_c)) (by decide) ?_
      refine q_ifF0 (a_t (v_eqI (v_var rfl) v_c)) (by decide) ?_
      refine s_ifF0 (a_t (v_eqI (v_var rfl) v_c)) (by decide) ?_
      rw [← dput_under (H0 := H0) (H := H')]
      exact k _ (same_under sm)
    · refine q_ifF0 (a_t (v_eqI (v_var rfl) v_c)) (by decide) ?_
      refine q_ifT (a_t (v_eqI (v_var rfl) v_c)) (by decide) ?_
      refine s_do (va_cons (v_var rfl) (va_cons (vd_item hne (v_var rfl) (v_var rfl) (by omega) (by omega)) va_nil)) ⟨H0, d, l, m, rest, _, rfl, ⟨hne, hr0, hw, rfl⟩, (getC_in hw pl).1, (getC_in hw pl).2, ?_⟩
      try dsimp only
      refine q_ifF0 (a_t (v_eqI (v_var rfl) v_c)) (by decide) ?_
      refine q_ifF0 (a_t (v_eqI (v_var rfl) v_c)) (by decide) ?_
      refine q_ifF0 (a_t (v_eqI (v_var rfl) v_c)) (by decide) ?_
      refine q_ifF0 (a_t (v_eqI (v_var rfl) v_c)) (by decide) ?_
      refine s_ifF0 (a_t (v_eqI (v_var rfl) v_c)) (by decide) ?_
      exact k _ (Same.refl _)
    · refine q_ifF0 (a_t (v_eqI (v_var rfl) v_c)) (by decide) ?_
      refine q_ifF0 (a_t (v_eqI (v_var rfl) v_c)) (by decide) ?_
      refine q_ifT (a_t (v_eqI (v_var rfl) v_c)) (by decide) ?_
      refine qd_item hne (v_mod (v_add (vd_item hne (v_var rfl) (v_var rfl) (by omega) (by omega)) v_c) v_c (by decide)) (v_var rfl) (v_var rfl) (by omega) (by omega) ?_
      refine s_if (a_t (v_eqI (vd_item hne (v_var rfl) (v_var rfl) (by omega) (by show _ < ((List.set _ _ _).length : Int); rw [List.length_set]; omega)) v_c)) (fun h2 => ?_) (fun h2 => ?_)
      · refine s_do (va_cons (v_var rfl) va_nil) ⟨H0, d, l, _, rest, rfl, hne, hr0, rfl, ?_⟩
        try dsimp only
        refine q_ifF0 (a_t (v_eqI (v_var rfl) v_c)) (by decide) ?_
        refine q_ifF0 (a_t (v_eqI (v_var rfl) v_c)) (by decide) ?_
        refine q_ifF0 (a_t (v_eqI (v_var rfl) v_c)) (by decide) ?_
        refine s_ifF0 (a_t (v_eqI (v_var rfl) v_c)) (by decide) ?_
        have g2 : getC (riseM m pl) pl = 0 := of_decide_eq_true h2
        have k2 := k _ (Same.refl _)
        unfold movedM at k2
        rw [if_neg (by decide), if_neg (by decide), if_pos rfl, if_pos g2] at k2
        exact k2
      · refine s_next ?_
        refine q_ifF0 (a_t (v_eqI (v_var rfl) v_c)) (by decide) ?_
        refine q_ifF0 (a_t (v_eqI (v_var rfl) v_c)) (by decide) ?_
        refine q_ifF0 (a_t (v_eqI (v_var rfl) v_c)) (by decide) ?_
        refine s_ifF0 (a_t (v_eqI (v_var rfl) v_c)) (by decide) ?_
        have g2 : ¬ getC (riseM m pl) pl = 0 := of_decide_eq_false h2
        have k2 := k _ (Same.refl _)
        unfold movedM at k2
        rw [if_neg (by decide), if_neg (by decide), if_pos rfl, if_neg g2] at k2
        exact k2
    · refine q_ifF0 (a_t (v_eqI (v_var rfl) v_c)) (by decide) ?_
      refine q_ifF0 (a_t (v_eqI (v_var rfl) v_c)) (by decide) ?_
      refine q_ifF0 (a_t (v_eqI (v_var rfl) v_c)) (by decide) ?_
      refine q_ifT (a_t (v_eqI (v_var rfl) v_c)) (by decide) ?_
      refine qd_item hne (vd_total (v_var rfl)) (v_var rfl) (v_var rfl) (by omega) (by omega) ?_
      refine sd_total hr0 v_c (v_var rfl) ?_
      refine q_ifF0 (a_t (v_eqI (v_var rfl) v_c)) (by decide) ?_
      refine q_ifF0 (a_t (v_eqI (v_var rfl) v_c)) (by decide) ?_
      refine s_ifF0 (a_t (v_eqI (v_var rfl) v_c)) (by decide) ?_
      exact k _ (Same.refl _)
    · refine q_ifF0 (a_t (v_eqI (v_var rfl) v_c)) (by decide) ?_
      refine q_ifF0 (a_t (v_eqI (v_var rfl) v_c)) (by decide) ?_
      refine q_ifF0 (a_t (v_eqI (v_var rfl) v_c)) (by decide) ?_
      refine q_ifF0 (a_t (v_eqI (v_var rfl) v_c)) (by decide) ?_
      refine q_ifT (a_t (v_eqI (v_var rfl) v_c)) (by decide) ?_
      refine sd_item hne (vd_at (v_var rfl)) (v_var rfl) (v_var rfl) (by omega) (by omega) ?_
      refine q_ifT (a_t (v_eqI (v_var rfl) v_c)) (by decide) ?_
      refine sd_at hr0 (v_mod (v_add (v_var rfl) v_c) v_c (by decide)) (v_var rfl) ?_
      refine s_ifF0 (a_t (v_eqI (v_var rfl) v_c)) (by decide) ?_
      exact k _ (Same.refl _)
    · refine q_ifF0 (a_t (v_eqI (v_var rfl) v_c)) (by decide) ?_
      refine q_ifF0 (a_t (v_eqI (v_var rfl) v_c)) (by decide) ?_
      refine q_ifF0 (a_t (v_eqI (v_var rfl) v_c)) (by decide) ?_
      refine q_ifF0 (a_t (v_eqI (v_var rfl) v_c)) (by decide) ?_
      refine q_ifF0 (a_t (v_eqI (v_var rfl) v_c)) (by decide) ?_
      refine q_ifF0 (a_t (v_eqI (v_var rfl) v_c)) (by decide) ?_
      refine s_ifT (a_t (v_eqI (v_var rfl) v_c)) (by decide) ?_
      refine sd_at hr0 (v_var rfl) (v_var rfl) ?_
      exact k _ (Same.refl _)

theorem sc_law_change : FnScope ["_law_one", "_law_marks", "_law_both"] ["_law_one", "_law_marks"] (defScope s_law_change) := ⟨rfl, rfl, rfl, by decide +kernel, rfl, by decide +kernel, by decide +kernel⟩
theorem cal_law_change (T : Tx K mg) : Cal P w K mg base 2 "_law_change" ["_law_one", "_law_marks"] (spHBits changedM) := by
  refine cal_mk T 16 16 rfl rfl sc_law_change (fun _ _ _ _ _ _ us hl => match us, hl with | [_, _], _ => rfl) (fun vs H Q E h => ?_) (fun f cdv A outer s H vs Q E hr h => ?_)
  · obtain ⟨H0, d, l, m, rest, bt, rfl, ⟨hne, hr0, hw, rfl⟩, b0, b1, k⟩ := h
    rfl
  · obtain ⟨H0, d, l, m, rest, bt, rfl, ⟨hne, hr0, hw, rfl⟩, b0, b1, k⟩ := h
    have hu := hu_of hr
    refine ⟨_, (C8.pss_cut (ps_if (pt_cmpR op_ge (pv 1) pe_int (nomark _)) (pss_one (ps_dput hu (pv 0) pe_str pe_int rfl)) pss_nil) (C8.pss_cut (ps_if (pt_cmpR op_ge (pe_op op_mod (pv 1) pe_int) pe_int (nomark _)) (pss_one (ps_dput hu (pv 0) pe_str (pe_op op_sub pe_int (pe_dget hu (pv 0) pe_str (fun _ _ => rfl))) rfl)) pss_nil) (C8.pss_cut (ps_if (pt_cmpR op_ge (pe_op op_mod (pv 1) pe_int) pe_int (nomark _)) (pss_one (ps_dput hu (pv 0) pe_str (pe_op op_sub pe_int (pe_dget hu (pv 0) pe_str (fun _ _ => rfl))) rfl)) pss_nil) (C8.pss_cut (ps_if (pt_cmpR op_ge (pe_op op_mod (pv 1) pe_int) pe_int (nomark _)) (pss_one (ps_expr (pe_cal (cal_law_more (K := K) T) hr (by decide) rfl (pa_cons (pv 0) (pa_cons pe_int pa_nil))))) pss_nil) (pss_cons (ps_set (i := 2) sc_law_change.nd rfl (Or.inl rfl) (pe_op op_add (pe_op op_mul pe_int (pe_dget hu (pv 0) pe_str (fun _ _ => rfl))) (pe_dget hu (pv 0) pe_str (fun _ _ => rfl)))) (pss_cons (ps_if (pt_cmpR op_eq (pe_op op_mod (pv 1) pe_int) pe_int (nomark _)) (pss_one (ps_set (i := 2) sc_law_change.nd rfl (Or.inl rfl) (pe_op op_add (pe_op op_mod (pe_op op_mul (pv 2) pe_int) pe_int) (pe_op op_fdiv (pv 2) pe_int)))) pss_nil) (pss_cons (ps_if (pt_cmpR op_eq (pe_op op_mod (pv 1) pe_int) pe_int (nomark _)) (pss_one (ps_set (i := 2) sc_law_change.nd rfl (Or.inl rfl) (pe_op op_add (pe_op op_fdiv (pv 2) pe_int) (pe_op op_mul pe_int (pe_op op_mod (pv 2) pe_int))))) pss_nil) (pss_cons (ps_dput hu (pv 0) pe_str (pe_op op_fdiv (pv 2) pe_int) rfl) (pss_one (ps_dput hu (pv 0) pe_str (pe_op op_mod (pv 2) pe_int) rfl)))))))))), ?_⟩
    refine q_cutH (H1 := dput H0 d l (chg1 m bt) rest) (s_if (a_t (v_ge (v_var rfl) v_c)) (fun h1 => ?_) (fun h1 => ?_)) ?_
    · have g := of_decide_eq_true h1
      refine sd_total hr0 v_c (v_var rfl) ?_
      exact ⟨rfl, by rw [chg1, if_pos (by omega)]⟩
    · have g := of_decide_eq_false h1
      refine s_next ⟨rfl, ?_⟩
      rw [chg1, if_neg (by omega)]
    refine q_cutH (H1 := dput H0 d l (chg2 (chg1 m bt) bt) rest) (s_if (a_t (v_ge (v_mod (v_var rfl) v_c (by decide)) v_c)) (fun h1 => ?_) (fun h1 => ?_)) ?_
    · have g := of_decide_eq_true h1
      refine sd_total hr0 (v_sub v_c (vd_total (v_var rfl))) (v_var rfl) ?_
      exact ⟨rfl, by rw [chg2, if_pos (by omega)]⟩
    · have g := of_decide_eq_false h1
      refine s_next ⟨rfl, ?_⟩
      rw [chg2, if_neg (by omega)]
    refine q_cutH (H1 := dput H0 d l (chg3 (chg2 (chg1 m bt) bt) bt) rest) (s_if (a_t (v_ge (v_mod (v_var rfl) v_c (by decide)) v_c)) (fun h1 => ?_) (fun h1 => ?_)) ?_
    · have g := of_decide_eq_true h1
      refine sd_mark hr0 (v_sub v_c (vd_mark (v_var rfl))) (v_var rfl) ?_
      exact ⟨rfl, by rw [chg3, if_pos (by omega)]⟩
    · have g := of_decide_eq_false h1
      refine s_next ⟨rfl, ?_⟩
      rw [chg3, if_neg (by omega)]
    refine q_cutH (H1 := dput H0 d l (chg4 (chg3 (chg2 (chg1 m bt) bt) bt) bt) rest) (s_if (a_t (v_ge (v_mod (v_var rfl) v_c (by decide)) v_c)) (fun h1 => ?_) (fun h1 => ?_)) ?_
    · have g := of_decide_eq_true h1
      refine s_do (va_cons (v_var rfl) (va_cons v_c va_nil)) ⟨H0, d, l, _, rest, _, rfl, ⟨hne, hr0, wf_chg3 (wf_chg2 (wf_chg1 hw bt) bt) bt, rfl⟩, by decide, by decide, ?_⟩
      try dsimp only
      exact ⟨rfl, by rw [chg4, if_pos (by omega)]⟩
    · have g := of_decide_eq_false h1
      refine s_next ⟨rfl, ?_⟩
      rw [chg4, if_neg (by omega)]
    have hw4 : WfM (chg4 (chg3 (chg2 (chg1 m bt) bt) bt) bt) := wf_chg4 (wf_chg3 (wf_chg2 (wf_chg1 hw bt) bt) bt) bt
    unfold changedM at k
    generalize chg4 (chg3 (chg2 (chg1 m bt) bt) bt) bt = m4 at hw4 k ⊢
    have tl := hw4.tlo
    have th := hw4.thi
    have mb := hw4.bit
    refine q_set (v_add (v_mul v_c (vd_mark (v_var rfl)) (.inl ⟨by decide, by decide⟩)) (vd_total (v_var rfl))) ?_
    have key : ∀ both : Int, both / 1024 = (rolledM m4 bt).mark → both % 1024 = (rolledM m4 bt).total → Q .non (dput H0 d l ⟨m4.cells, both % 1024, both / 1024, m4.pc⟩ rest) := by
      intro both e1 e2
      have e3 : rolledM m4 bt = ⟨m4.cells, both % 1024, both / 1024, m4.pc⟩ := by
        have c1 : (rolledM m4 bt).cells = m4.cells ∧ (rolledM m4 bt).pc = m4.pc := by unfold rolledM rolled1; split <;> split <;> exact ⟨rfl, rfl⟩
        rw [e1, e2, ← c1.1, ← c1.2]
      rw [← e3]; exact k
    unfold rolledM rolled1 at key
    by_cases c2 : bt % 4 = 2
    · have c1 : ¬ bt % 4 = 1 := by omega
      refine q_ifT (a_t (v_eqI (v_mod (v_var rfl) v_c (by decide)) v_c)) (decide_eq_true c2) ?_
      refine s_set (v_add (v_mod (v_mul (v_var rfl) v_c (.inr ⟨by decide, by decide⟩)) v_c (by decide)) (v_fdiv (v_var rfl) v_c ⟨by decide, by decide⟩)) ?_
      refine q_ifF0 (a_t (v_eqI (v_mod (v_var rfl) v_c (by decide)) v_c)) (decide_eq_false c1) ?_
      refine qd_mark hr0 (v_fdiv (v_var rfl) v_c ⟨by decide, by decide⟩) (v_var rfl) ?_
      refine sd_total hr0 (v_mod (v_var rfl) v_c (by decide)) (v_var rfl) ?_
      rw [if_neg c1, if_pos c2] at key
      have q1 : (1024 * m4.mark + m4.total) / 1024 = m4.mark := by omega
      have q2 : (1024 * m4.mark + m4.total) * 2 % 2048 = 2 * m4.total := by omega
      exact key _ (by rw [q1, q2]; show _ = m4.total / 512; omega) (by rw [q1, q2]; show _ = 2 * m4.total % 1024 + m4.mark; omega)
    · by_cases c1 : bt % 4 = 1
      · refine q_ifF0 (a_t (v_eqI (v_mod (v_var rfl) v_c (by decide)) v_c)) (decide_eq_false c2) ?_
        refine q_ifT (a_t (v_eqI (v_mod (v_var rfl) v_c (by decide)) v_c)) (decide_eq_true c1) ?_
        refine s_set (v_add (v_fdiv (v_var rfl) v_c ⟨by decide, by decide⟩) (v_mul v_c (v_mod (v_var rfl) v_c (by decide)) (.inl ⟨by decide, by decide⟩))) ?_
        refine qd_mark hr0 (v_fdiv (v_var rfl) v_c ⟨by decide, by decide⟩) (v_var rfl) ?_
        refine sd_total hr0 (v_mod (v_var rfl) v_c (by decide)) (v_var rfl) ?_
        rw [if_pos c1, if_neg c2] at key
        have q1 : (1024 * m4.mark + m4.total) / 2 = 512 * m4.mark + m4.total / 2 := by omega
        have q2 : (1024 * m4.mark + m4.total) % 2 = m4.total % 2 := by omega
        have q3 : 0 ≤ 512 * m4.mark + m4.total / 2 ∧ 512 * m4.mark + m4.total / 2 < 1024 := by omega
        exact key _ (by rw [q1, q2]; show _ = m4.total % 2; omega) (by rw [q1, q2]; show _ = m4.total / 2 + 512 * m4.mark; omega)
      · refine q_ifF0 (a_t (v_eqI (v_mod (v_var rfl) v_c (by decide)) v_c)) (decide_eq_false c2) ?_
        refine q_ifF0 (a_t (v_eqI (v_mod (v_var rfl) v_c (by decide)) v_c)) (decide_eq_false c1) ?_
        refine qd_mark hr0 (v_fdiv (v_var rfl) v_c ⟨by decide, by decide⟩) (v_var rfl) ?_
        refine sd_total hr0 (v_mod (v_var rfl) v_c (by decide)) (v_var rfl) ?_
        rw [if_neg c1, if_neg c2] at key
        exact key _ (by show _ = m4.mark; omega) (by show _ = m4.total; omega)

theorem sc_law_test : FnScope ["_law_one", "_law_marks", "_law_so"] ["_law_one", "_law_marks"] (defScope s_law_test) := ⟨rfl, rfl, rfl, by decide +kernel, rfl, by decide +kernel, by decide +kernel⟩
theorem cal_law_test (T : Tx K mg) : Cal P w K mg base 2 "_law_test" ["_law_one", "_law_marks"] (spHBits testedM) := by
  refine cal_mk T 17 17 rfl rfl sc_law_test (fun _ _ _ _ _ _ us hl => match us, hl with | [_, _], _ => rfl) (fun vs H Q E h => ?_) (fun f cdv A outer s H vs Q E hr h => ?_)
  · obtain ⟨H0, d, l, m, rest, bt, rfl, ⟨hne, hr0, hw, rfl⟩, b0, b1, k⟩ := h
    rfl
  · obtain ⟨H0, d, l, m, rest, bt, rfl, ⟨hne, hr0, hw, rfl⟩, b0, b1, k⟩ := h
    have hu := hu_of hr
    refine ⟨_, (pss_cons (ps_set (i := 2) sc_law_test.nd rfl (Or.inl rfl) pe_bl) (C8.pss_cut (ps_if (PW.pt (pw_and (pt_cmpR op_ge (pv 1) pe_int (nomark _)) (pw_and1 (pt_cmpR op_gt (pe_dget hu (pv 0) pe_str (fun _ _ => rfl)) pe_int (nomark _))))) (pss_one (ps_set (i := 2) sc_law_test.nd rfl (Or.inl rfl) pe_bl)) pss_nil) (C8.pss_cut (ps_if (PW.pt (pw_and (pt_cmpR op_ge (pe_op op_mod (pv 1) pe_int) pe_int (nomark _)) (pw_and1 (pt_cmpR op_eq (pe_dget hu (pv 0) pe_str (fun _ _ => rfl)) pe_int (nomark _))))) (pss_one (ps_set (i := 2) sc_law_test.nd rfl (Or.inl rfl) pe_bl)) pss_nil) (C8.pss_cut (ps_if (PW.pt (pw_and (pt_cmpR op_ge (pe_op op_mod (pv 1) pe_int) pe_int (nomark _)) (pw_and1 (pt_cmpR op_eq (pe_dget hu (pv 0) pe_str (fun _ _ => rfl)) pe_int (nomark _))))) (pss_one (ps_set (i := 2) sc_law_test.nd rfl (Or.inl rfl) pe_bl)) pss_nil) (C8.pss_cut (ps_if (pt_cmpR op_ge (pe_op op_mod (pv 1) pe_int) pe_int (nomark _)) (pss_one (ps_set (i := 2) sc_law_test.nd rfl (Or.inl rfl) (pe_not (pv 2)))) pss_nil) (C8.pss_cut (ps_if (pt_val (pv 2)) (pss_one (ps_expr (pe_cal (cal_law_past (K := K) T) hr (by decide) rfl (pa_cons (pv 0) pa_nil)))) pss_nil) (C8.pss_cut (ps_if (pt_cmpR op_ge (pe_op op_mod (pv 1) pe_int) pe_int (nomark _)) (pss_one (ps_dput hu (pv 0) pe_str pe_int rfl)) pss_nil) (pss_one (ps_if (pt_cmpR op_eq (pe_op op_mod (pv 1) pe_int) pe_int (nomark _)) (pss_one (ps_dput hu (pv 0) pe_str pe_int rfl)) pss_nil))))))))), ?_⟩
    refine q_set v_c ?_
    refine q_rel (fun σ' H' => σ' = [some (.ref d), some (.int bt), some (.bl (false || (decide (32 ≤ bt) && decide (511 < m.total))))] ∧ H' = dput H0 d l m rest) (s_if (a_and (a_t (v_ge (v_var rfl) v_c)) (fun _ => a_t (v_gt (vd_total (v_var rfl)) v_c))) (fun h1 => ?_) (fun h1 => ?_)) ?_
    · refine s_set v_c ⟨?_, rfl⟩
      rw [h1, Bool.or_true] <;> rfl
    · refine s_next ⟨?_, rfl⟩
      rw [h1, Bool.or_false] <;> rfl
    rintro _ _ ⟨rfl, rfl⟩
    refine q_rel (fun σ' H' => σ' = [some (.ref d), some (.int bt), some (.bl ((false || (decide (32 ≤ bt) && decide (511 < m.total))) || (decide (16 ≤ bt % 32) && decide (m.total = 0))))] ∧ H' = dput H0 d l m rest) (s_if (a_and (a_t (v_ge (v_mod (v_var rfl) v_c (by decide)) v_c)) (fun _ => a_t (v_eqI (vd_total (v_var rfl)) v_c))) (fun h1 => ?_) (fun h1 => ?_)) ?_
    · refine s_set v_c ⟨?_, rfl⟩
      rw [h1, Bool.or_true] <;> rfl
    · refine s_next ⟨?_, rfl⟩
      rw [h1, Bool.or_false] <;> rfl
    rintro _ _ ⟨rfl, rfl⟩
    refine q_rel (fun σ' H' => σ' = [some (.ref d), some (.int bt), some (.bl (((false || (decide (32 ≤ bt) && decide (511 < m.total))) || (decide (16 ≤ bt % 32) && decide (m.total = 0))) || (decide (8 ≤ bt % 16) && decide (m.mark = 1))))] ∧ H' = dput H0 d l m rest) (s_if (a_and (a_t (v_ge (v_mod (v_var rfl) v_c (by decide)) v_c)) (fun _ => a_t (v_eqI (vd_mark (v_var rfl)) v_c))) (fun h1 => ?_) (fun h1 => ?_)) ?_
    · refine s_set v_c ⟨?_, rfl⟩
      rw [h1, Bool.or_true] <;> rfl
    · refine s_next ⟨?_, rfl⟩
      rw [h1, Bool.or_false] <;> rfl
    rintro _ _ ⟨rfl, rfl⟩
    have hf : (((false || (decide (32 ≤ bt) && decide (511 < m.total))) || (decide (16 ≤ bt % 32) && decide (m.total = 0))) || (decide (8 ≤ bt % 16) && decide (m.mark = 1))) = foundM m bt := by
      have e1 : decide (32 ≤ bt) = decide (bt / 32 = 1) := decide_eq_decide.mpr (by omega)
      have e2 : decide (511 < m.total) = decide (512 ≤ m.total) := decide_eq_decide.mpr (by omega)
      have e3 : decide (16 ≤ bt % 32) = decide (bt / 16 % 2 = 1) := decide_eq_decide.mpr (by omega)
      have e4 : decide (8 ≤ bt % 16) = decide (bt / 8 % 2 = 1) := decide_eq_decide.mpr (by omega)
      unfold foundM
      rw [e1, e2, e3, e4, Bool.false_or]
    rw [hf]
    refine q_rel (fun σ' H' => σ' = [some (.ref d), some (.int bt), some (.bl (!(foundM m bt == decide (bt / 4 % 2 = 1))))] ∧ H' = dput H0 d l m rest) (s_if (a_t (v_ge (v_mod (v_var rfl) v_c (by decide)) v_c)) (fun h1 => ?_) (fun h1 => ?_)) ?_
    · have g := of_decide_eq_true h1
      refine s_set (v_notV (v_var rfl)) ⟨?_, rfl⟩
      rw [decide_eq_true (show bt / 4 % 2 = 1 by omega)]
      cases foundM m bt <;> rfl
    · have g := of_decide_eq_false h1
      refine s_next ⟨?_, rfl⟩
      rw [decide_eq_false (show ¬ bt / 4 % 2 = 1 by omega)]
      cases foundM m bt <;> rfl
    rintro _ _ ⟨rfl, rfl⟩
    refine q_cutH (H1 := dput H0 d l (tst1 m bt) rest) (s_if (a_B (v_var rfl)) (fun h1 => ?_) (fun h1 => ?_)) ?_
    · refine s_do (va_cons (v_var rfl) va_nil) ⟨H0, d, l, m, rest, rfl, hne, hr0, rfl, ?_⟩
      try dsimp only
      exact ⟨rfl, by rw [tst1, if_pos h1]⟩
    · exact s_next ⟨rfl, by rw [tst1, if_neg (by rw [h1]; decide)]⟩
    refine q_cutH (H1 := dput H0 d l (tst2 (tst1 m bt) bt) rest) (s_if (a_t (v_ge (v_mod (v_var rfl) v_c (by decide)) v_c)) (fun h1 => ?_) (fun h1 => ?_)) ?_
    · have g := of_decide_eq_true h1
      refine sd_total hr0 v_c (v_var rfl) ?_
      exact ⟨rfl, by rw [tst2, if_pos (by omega)]⟩
    · have g := of_decide_eq_false h1
      exact s_next ⟨rfl, by rw [tst2, if_neg (by omega)]⟩
    refine s_if (a_t (v_eqI (v_mod (v_var rfl) v_c (by decide)) v_c)) (fun h1 => ?_) (fun h1 => ?_)
    · refine sd_mark hr0 v_c (v_var rfl) ?_
      unfold testedM tst3 at k
      rw [if_pos (of_decide_eq_true h1)] at k
      exact k
    · refine s_next ?_
      unfold testedM tst3 at k
      rw [if_neg (of_decide_eq_false h1)] at k
      exact k

theorem sc_law_deed : FnScope ["_law_one", "_law_number"] ["_law_one"] (defScope s_law_deed) := ⟨rfl, rfl, rfl, by decide +kernel, rfl, by decide +kernel, by decide +kernel⟩
theorem cal_law_deed (T : Tx K mg) : Cal P w K mg base 3 "_law_deed" ["_law_one"] spHDeed := by
  refine cal_mk T 18 18 rfl rfl sc_law_deed (fun _ _ _ _ _ _ us hl => match us, hl with | [_], _ => rfl) (fun vs H Q E h => ?_) (fun f cdv A outer s H vs Q E hr h => ?_)
  · obtain ⟨H0, d, l, m, rest, rfl, ⟨hne, hr0, hw, rfl⟩, k⟩ := h
    rfl
  · obtain ⟨H0, d, l, m, rest, rfl, ⟨hne, hr0, hw, rfl⟩, k⟩ := h
    have hu := hu_of hr
    refine ⟨_, (pss_cons (ps_set (i := 1) sc_law_deed.nd rfl (Or.inl rfl) (pe_ix ix_list (pe_dget hu (pv 0) pe_str (fun _ _ => rfl)) (pe_dget hu (pv 0) pe_str (fun _ _ => rfl)) (fun _ _ => rfl))) (pss_cons (ps_expr (pe_cal (cal_law_past (K := K) T) hr (by decide) rfl (pa_cons (pv 0) pa_nil))) (pss_cons (ps_if (pt_cmpR op_lt (pv 1) pe_int (nomark _)) (pss_cons (ps_expr (pe_cal (cal_law_move (K := K) T) hr (by decide) rfl (pa_cons (pv 0) (pa_cons (pe_op op_fdiv (pv 1) pe_int) (pa_cons (pe_cal (cal_law_aim (K := K) T) hr (by decide) rfl (pa_cons (pv 0) (pa_cons (pe_op op_mod (pe_op op_fdiv (pv 1) pe_int) pe_int) (pa_cons (pe_op op_mod (pv 1) pe_int) pa_nil)))) pa_nil))))) (pss_one (ps_ret pe_non))) pss_nil) (pss_cons (ps_if (pt_cmpR op_lt (pv 1) pe_int (nomark _)) (pss_one (ps_ret (pe_op op_mod (pv 1) pe_int))) pss_nil) (pss_cons (ps_if (pt_cmpR op_lt (pv 1) pe_int (nomark _)) (pss_one (ps_expr (pe_cal (cal_law_change (K := K) T) hr (by decide) rfl (pa_cons (pv 0) (pa_cons (pe_op op_mod (pv 1) pe_int) pa_nil))))) (pss_one (ps_expr (pe_cal (cal_law_test (K := K) T) hr (by decide) rfl (pa_cons (pv 0) (pa_cons (pe_op op_mod (pv 1) pe_int) pa_nil)))))) (pss_one (ps_ret pe_non))))))), ?_⟩
    have hl := hw.len
    have a0 := hw.lo
    have a1 := hw.hi
    have g := getC_in hw m.pc
    have ws := wf_skip hw
    refine q_set (vd_item hne (vd_cells (v_var rfl)) (vd_at (v_var rfl)) (by omega) (by omega)) ?_
    refine q_do (va_cons (v_var rfl) va_nil) ⟨H0, d, l, m, rest, rfl, hne, hr0, rfl, ?_⟩
    try dsimp only
    unfold deedM deedV at k
    generalize getC m m.pc = n at *
    dsimp only at k
    refine q_if (a_t (v_lt (v_var rfl) v_c)) (fun h1 => ?_) (fun h1 => ?_)
    · have g1 : n < 768 := of_decide_eq_true h1
      refine x_qdrop (x_call3 (v_var rfl) (v_fdiv (v_var rfl) v_c ⟨by decide, by decide⟩) (x_call (va_cons (v_var rfl) (va_cons (v_mod (v_fdiv (v_var rfl) v_c ⟨by decide, by decide⟩) v_c (by decide)) (va_cons (v_mod (v_var rfl) v_c (by decide)) va_nil))) ⟨H0, d, l, _, rest, _, _, rfl, ⟨hne, hr0, ws, rfl⟩, by omega, by omega, fun H1 sm1 => ?_⟩))
      refine ⟨H1, d, l, _, rest, _, _, rfl, ⟨hne, hr0, wf_aim ws _ _, rfl⟩, by omega, by omega, aimV_lo (by omega), aimV_hi (by omega), fun H2 sm2 => ?_⟩
      try dsimp only
      refine s_ret v_c ?_
      rw [if_neg (by omega), if_pos (by omega)] at k
      exact k _ (sm1.trans sm2)
    · refine s_next ?_
      have g1 : ¬ n < 768 := of_decide_eq_false h1
      refine q_if (a_t (v_lt (v_var rfl) v_c)) (fun h2 => ?_) (fun h2 => ?_)
      · have g2 : n < 896 := of_decide_eq_true h2
        refine s_ret (v_mod (v_var rfl) v_c (by decide)) ?_
        rw [if_pos (by omega), if_neg (by omega), if_pos (by omega)] at k
        exact k _ (Same.refl _)
      · refine s_next ?_
        have g2 : ¬ n < 896 := of_decide_eq_false h2
        rw [if_neg (by omega), if_neg (by omega), if_neg (by omega)] at k
        refine q_if (a_t (v_lt (v_var rfl) v_c)) (fun h3 => ?_) (fun h3 => ?_)
        · have g3 : n < 960 := of_decide_eq_true h3
          rw [if_pos (by omega)] at k
          refine s_do (va_cons (v_var rfl) (va_cons (v_mod (v_var rfl) v_c (by decide)) va_nil)) ⟨H0, d, l, _, rest, _, rfl, ⟨hne, hr0, ws, rfl⟩, by omega, by omega, ?_⟩
          try dsimp only
          exact s_ret v_c (k _ (Same.refl _))
        · have g3 : ¬ n < 960 := of_decide_eq_false h3
          rw [if_neg (by omega)] at k
          refine s_do (va_cons (v_var rfl) (va_cons (v_mod (v_var rfl) v_c (by decide)) va_nil)) ⟨H0, d, l, _, rest, _, rfl, ⟨hne, hr0, ws, rfl⟩, by omega, by omega, ?_⟩
          try dsimp only
          exact s_ret v_c (k _ (Same.refl _))

theorem sc_law_new : FnScope ["_law_cells_here", "_law_one"] ["_law_cells_here"] (defScope s_law_new) := ⟨rfl, rfl, rfl, by decide +kernel, rfl, by decide +kernel, by decide +kernel⟩
theorem cal_law_new (T : Tx K mg) : Cal P w K mg base 1 "_law_new" ["_law_cells_here"] (spHNew K) := by
  refine cal_mk T 19 19 rfl rfl sc_law_new (fun _ _ _ _ _ _ us hl => match us, hl with | [_], _ => rfl) (fun vs H Q E h => ?_) (fun f cdv A outer s H vs Q E hr h => ?_)
  · obtain ⟨a, cs, rfl, hS, k⟩ := h
    rfl
  · obtain ⟨a, cs, rfl, hS, k⟩ := h
    have hu := hu_of hr
    refine ⟨_, (pss_cons (ps_set (i := 1) sc_law_new.nd rfl (Or.inl rfl) (pe_disp (pps_cons pe_str (pe_callTy call_list_of (by rfl) (T.free 23) (by decide +kernel) (pa_cons (pv 0) pa_nil)) (pps_cons pe_str pe_int (pps_cons pe_str pe_int (pps_cons pe_str pe_int pps_nil)))) (by rfl) (by rfl) (fun z => by cases z) (by decide))) (pss_one (ps_ret (pv 1)))), ?_⟩
    refine qx_set (fun d hd => ?_)
    refine x_v v_c (x_L (nl_list (v_var rfl) (.inl ((smN hd).seq hS))) (fun l hl => ?_))
    refine x_v v_c (x_v v_c (x_v v_c (x_v v_c (x_v v_c (x_v v_c ?_)))))
    have nld : l ≠ d := (ne_of_none upd_same hl).symm
    refine ⟨by rw [upd_ne nld.symm]; exact upd_same, [(Sum.inr "cells", .ref l), (Sum.inr "total", .int 0), (Sum.inr "mark", .int 0), (Sum.inr "at", .int 0)], rfl, by simp, ?_⟩
    have e : mergeK [] [(Sum.inr "cells", V.ref l), (Sum.inr "total", .int 0), (Sum.inr "mark", .int 0), (Sum.inr "at", .int 0)] = dkv l ⟨cs, 0, 0, 0⟩ [] := by kernel_rfl
    rw [e]
    refine s_ret (v_var rfl) ?_
    exact k d l (upd H d (.dK [])) hd ((smN hd).free hl) nld (smN hd)
end

def overV (vs cs : List Int) : List Int := vs ++ cs.drop vs.length
def menuV (ns : List Int) : List Int := ((ns.take 60).drop 3).map fun c => 128 * (c % 8) + c / 8 % 128
def cellsV (ns : List Int) : List Int := if cellAt ns 1 % 2 = 1 then overV (menuV ns) (fillV (cellAt ns 0) 1024) else fillV (cellAt ns 0) 1024
theorem menuV_len (ns : List Int) : (menuV ns).length ≤ 57 := by unfold menuV; simp; omega
theorem over_set {vs cs : List Int} {i : Nat} {v : Int} (h : vs[i]? = some v) (hl : vs.length ≤ cs.length) : (overV (vs.take i) cs).set i v = overV (vs.take (i + 1)) cs := by
  have hi : i < vs.length := (List.getElem?_eq_some_iff.mp h).1
  unfold overV
  have e1 : (vs.take i).length = i := by simp; omega
  have e2 : (vs.take (i + 1)).length = i + 1 := by simp; omega
  rw [e1, e2, List.set_append, if_neg (by omega), e1, Nat.sub_self, List.take_add_one, h]
  have e3 : cs.drop i = cs[i] :: cs.drop (i + 1) := List.drop_eq_getElem_cons (by omega)
  rw [e3, List.set_cons_zero]
  simp
theorem cellsV_len (ns : List Int) : (cellsV ns).length = 64 := by
  unfold cellsV overV
  have h := menuV_len ns
  split
  · rw [List.length_append, List.length_drop, fillV_len]; omega
  · exact fillV_len _ _
theorem cellsV_in (ns : List Int) : ∀ c ∈ cellsV ns, 0 ≤ c ∧ c < 1024 := by
  unfold cellsV overV
  split
  · intro c hc
    rcases List.mem_append.mp hc with h | h
    · unfold menuV at h
      obtain ⟨x, _, rfl⟩ := List.mem_map.mp h
      omega
    · exact fillV_in (by decide) c (List.mem_of_mem_drop h)
  · exact fillV_in (by decide)
def spCells (K : PySem.W.Frag) : Sp := fun vs H Q _ => ∃ (a : Addr) (ns : List Int), vs = [.ref a] ∧ SqL K H a (ns.map V.int) ∧ ∀ D H', H D = none → Same H H' → H' D = some (.lst ((cellsV ns).map V.int)) → Q (.ref D) H'

section
variable {P : Program} {w : World} {K : PySem.W.Frag} {mg : Str → Option Value} {base : Heap}

theorem sc_law_cells : FnScope ["_law_script", "_law_cells_here", "_law_k", "_law_cell_here"] ["_law_script"] (defScope s_law_cells) := ⟨rfl, rfl, rfl, by decide +kernel, rfl, by decide +kernel, by decide +kernel⟩
theorem cal_law_cells (T : Tx K mg) : Cal P w K mg base 3 "_law_cells" ["_law_script"] (spCells K) := by
  refine cal_mk T 20 20 rfl rfl sc_law_cells (fun _ _ _ _ _ _ us hl => match us, hl with | [_], _ => rfl) (fun vs H Q E h => ?_) (fun f cdv A outer s H vs Q E hr h => ?_)
  · obtain ⟨a, ns, rfl, hS, k⟩ := h
    rfl
  · obtain ⟨a, ns, rfl, hS, k⟩ := h
    refine ⟨_, (pss_cons (ps_set (i := 1) sc_law_cells.nd rfl (Or.inl rfl) (pe_cal (cal_law_fill (K := K) T) hr (by decide) rfl (pa_cons (pe_cal (cal_law_cell (K := K) T) hr (by decide) rfl (pa_cons (pv 0) (pa_cons pe_int pa_nil))) (pa_cons pe_int pa_nil)))) (C8.pss_cut (ps_if (pt_cmpR op_eq (pe_op op_mod (pe_cal (cal_law_cell (K := K) T) hr (by decide) rfl (pa_cons (pv 0) (pa_cons pe_int pa_nil))) pe_int) pe_int (nomark _)) (pss_one (ps_for PassesOwn.never rfl (pi_enum (by rfl) (T.free 25) (pa_cons (pe_slice sl_list (pv 0) (po_some pe_int) (po_some pe_int)) pa_nil)) (pg_tup (by rfl) (pgs_cons (pg_name (i := 2) sc_law_cells.nd rfl (Or.inl rfl)) (pgs_cons (pg_name (i := 3) sc_law_cells.nd rfl (Or.inl rfl)) pgs_nil))) (pss_one (ps_asg (pe_op op_add (pe_op op_mul pe_int (pe_op op_mod (pv 3) pe_int)) (pe_op op_mod (pe_op op_fdiv (pv 3) pe_int) pe_int)) (pg_sub (pv 1) (pv 2) set_list))))) pss_nil) (pss_one (ps_ret (pv 1))))), ?_⟩
    refine q_setN (nl_call (va_cons (v_call (va_cons (v_var rfl) (va_cons v_c va_nil)) (fun _ q => ⟨_, _, _, rfl, by assumption, by decide, q⟩)) (va_cons v_c va_nil)) (fun _ q => ⟨_, _, rfl, by decide, q⟩)) (fun D hD => ?_)
    have sm1 : Same H (upd H D (.lst ((fillV (cellAt ns 0) 1024).map V.int))) := smN hD
    have hD1 : upd H D (.lst ((fillV (cellAt ns 0) 1024).map V.int)) D = some (.lst ((fillV (cellAt ns 0) 1024).map V.int)) := upd_same
    have hcl := fillV_len (cellAt ns 0) 1024
    have hcb := fillV_in (c := cellAt ns 0) (m := 1024) (by decide)
    have kk := k
    unfold cellsV at kk
    generalize fillV (cellAt ns 0) 1024 = cs at sm1 hD1 hcl hcb kk ⊢
    generalize upd H D (.lst (cs.map V.int)) = H1 at sm1 hD1 ⊢
    have hS1 := sm1.seq hS
    have ml := menuV_len ns
    refine q_rel (fun σ' H' => ∃ v2 v3, σ' = [some (.ref a), some (.ref D), v2, v3] ∧ Same H H' ∧ H' D = some (.lst ((if cellAt ns 1 % 2 = 1 then overV (menuV ns) cs else cs).map V.int))) (s_if (a_t (v_eqI (v_mod (v_call (va_cons (v_var rfl) (va_cons v_c va_nil)) (fun _ q => ⟨_, _, _, rfl, by assumption, by decide, q⟩)) v_c (by decide)) v_c)) (fun h1 => ?_) (fun h1 => ?_)) ?_
    · have g := of_decide_eq_true h1
      rw [if_pos g]
      have ec : cutV (ns.map V.int) (some (3 : Int)) (some (60 : Int)) = (((ns.take 60).drop 3).map V.int) := by
        exact (cutV_nat (xs := ns.map V.int) (i := 3) (j := 60) (by decide)).trans (by rw [← List.map_take, ← List.map_drop])
      refine s_forEN (xs := ((ns.take 60).drop 3).map V.int) (by rw [← ec]; exact nl_slice (v_var rfl) hS1 (o_some v_c) (o_some v_c)) (fun D2 i σ' H' => ∃ v2 v3, σ' = [some (.ref a), some (.ref D), v2, v3] ∧ Same H H' ∧ D ≠ D2 ∧ H D2 = none ∧ H' D2 = some (.lst (((ns.take 60).drop 3).map V.int)) ∧ H' D = some (.lst ((overV ((menuV ns).take i) cs).map V.int))) (fun D2 hD2 => ⟨_, _, rfl, sm1.trans (smN hD2), ne_of_none hD1 hD2, sm1.free hD2, upd_same, ?_⟩) (fun D2 i σ' H' p => ?_) (fun D2 i x σ' H' T hx p hT => ?_) (fun D2 σ' H' p => ?_)
      · rw [upd_ne (ne_of_none hD1 hD2), List.take_zero]; exact hD1
      · obtain ⟨v2, v3, _, _, _, _, p1, _⟩ := p
        exact SqL.of p1
      · obtain ⟨v2, v3, rfl, q1, q2, q3, q4, q5⟩ := p
        obtain ⟨c, hc, rfl⟩ : ∃ c, ((ns.take 60).drop 3)[i]? = some c ∧ x = V.int c := by
          rw [List.getElem?_map] at hx
          cases e : ((ns.take 60).drop 3)[i]? with
          | none => rw [e] at hx; cases hx
          | some c => rw [e] at hx; exact ⟨c, rfl, (Option.some.inj hx).symm⟩
        have hm : (menuV ns)[i]? = some (128 * (c % 8) + c / 8 % 128) := by unfold menuV; rw [List.getElem?_map, hc]; rfl
        have hi : i < (menuV ns).length := (List.getElem?_eq_some_iff.mp hm).1
        have hlen : (overV ((menuV ns).take i) cs).length = 64 := by unfold overV; rw [List.length_append, List.length_drop, List.length_take]; omega
        have nDT : D ≠ T := ne_of_none q5 hT
        have n2T : D2 ≠ T := ne_of_none q4 hT
        refine s_setItem (v_add (v_mul v_c (v_mod (v_var rfl) v_c (by decide)) (.inl ⟨by decide, by decide⟩)) (v_mod (v_fdiv (v_var rfl) v_c ⟨by decide, by decide⟩) v_c (by decide))) (v_var rfl) (v_var rfl) (by rw [upd_ne nDT]; exact q5) (by omega) (by omega) ?_
        refine ⟨_, _, rfl, smM (q1.trans (smN (o := .tup [.int (i : Int), .int c]) hT)) hD, q2, q3, by rw [upd_ne q2.symm, upd_ne n2T]; exact q4, ?_⟩
        rw [upd_same, ← over_set hm (by omega)]; rfl
      · obtain ⟨v2, v3, rfl, q1, q2, q3, q4, q5⟩ := p
        refine ⟨_, _, rfl, q1, ?_⟩
        rw [q5, List.take_of_length_le (by unfold menuV; rw [List.length_map, List.length_map]; exact Nat.le_refl _)]
    · refine s_next ⟨_, _, rfl, sm1, ?_⟩
      rw [if_neg (of_decide_eq_false h1)]; exact hD1
    rintro _ H2 ⟨v2, v3, rfl, sm2, hD2⟩
    exact s_ret (v_var rfl) (kk _ _ hD sm2 hD2)

end

section
variable {P : Program} {w : World} {K : PySem.W.Frag} {mg : Str → Option Value} {base : Heap}

theorem sc_law : FnScope ["_law_script", "_law_cells_here", "_law_one", "_law_machine", "_law_count", "_law_k", "_law_found", "_law_due"] ["_law_script"] (defScope s_law) := ⟨rfl, rfl, rfl, by decide +kernel, rfl, by decide +kernel, by decide +kernel⟩
theorem law_ok (T : Tx K mg) {f : Addr} {fd : FuncData} (F : FunD K "law" "law" (defArgs s_law) (defBody s_law) (defScope s_law) [] [] f fd) : FnOk P w K mg base CX0 7 f fd ["_law_script"] (spLaw K) := by
  refine F.ok sc_law (fun vs H Q E h => ?_) (fun cdv A outer s H vs Q E hr h => ?_)
  · obtain ⟨a, ns, rfl, _⟩ := h
    rfl
  · obtain ⟨a, ns, rfl, hS, hlen, k⟩ := h
    have hu := hu_of hr
    have M := T.mt
    refine ⟨_, PSs.nox (pss_cons (ps_set (i := 1) sc_law.nd rfl (Or.inl rfl) (pe_cal (cal_law_cells (K := K) T) hr (by decide) rfl (pa_cons (pv 0) pa_nil))) (pss_cons (ps_set (i := 2) sc_law.nd rfl (Or.inl rfl) (pe_cal (cal_law_new (K := K) T) hr (by decide) rfl (pa_cons (pv 1) pa_nil))) (pss_cons (ps_dput hu (pv 2) pe_str (pe_op op_mod (pe_cal (cal_law_cell (K := K) T) hr (by decide) rfl (pa_cons (pv 0) (pa_cons pe_int pa_nil))) pe_int) rfl) (pss_cons (ps_set (i := 3) sc_law.nd rfl (Or.inl rfl) (show PE _ _ (tMake (He.ga K "Machine") _ [] E0 _) from pe_new (cal_Machine (K := K) T) hr (by decide) rfl (pa_cons (pv 1) (pa_cons pe_int (pa_cons pe_int (pa_cons (pe_dget hu (pv 2) pe_str (fun _ _ => rfl)) pa_nil)))))) (pss_cons (ps_set (i := 4) sc_law.nd rfl (Or.inl rfl) (pe_op op_mod (pe_op op_fdiv (pe_cal (cal_law_cell (K := K) T) hr (by decide) rfl (pa_cons (pv 0) (pa_cons pe_int pa_nil))) pe_int) pe_int)) (C8.pss_cut (ps_if (PW.pt (pw_or (pt_cmpR op_gt (pe_callB call_len_seq (by rfl) (T.free 22) PySem.boot_len (pa_cons (pv 0) pa_nil)) pe_int (nomark _)) (pw_or1 (pt_cmpR op_eq (pe_cal (cal_law_mix (K := K) T) hr (by decide) rfl (pa_cons (pe_cal (cal_law_cell (K := K) T) hr (by decide) rfl (pa_cons (pv 0) (pa_cons pe_int pa_nil))) (pa_cons pe_int (pa_cons pe_int pa_nil)))) pe_int (nomark _))))) (pss_one (ps_set (i := 4) sc_law.nd rfl (Or.inl rfl) pe_int)) pss_nil) (pss_cons (ps_for PassesOwn.never rfl (pi_range1 (by rfl) (T.free 24) (pa_cons (pv 4) pa_nil)) (pg_name (i := 5) sc_law.nd rfl (Or.inl rfl)) (pss_cons (ps_set (i := 6) sc_law.nd rfl (Or.inl rfl) (pe_cal (cal_deed (K := K) T) hr (by decide) rfl (pa_cons (pv 3) pa_nil))) (pss_cons (ps_set (i := 7) sc_law.nd rfl (Or.inl rfl) (pe_cal (cal_law_deed (K := K) T) hr (by decide) rfl (pa_cons (pv 2) pa_nil))) (pss_cons (ps_if (PW.pt (pw_or (pt_cmpR op_ne (pv 6) (pv 7) (nomark _)) (pw_or1 (pt_cmpR op_ne (pe_cmpR op_isN1 (pv 6) pe_non (nomark _)) (pe_cmpR op_isN1 (pv 7) pe_non (nomark _)) (nomark _))))) (pss_one (ps_ret pe_bl)) pss_nil) (pss_one (ps_if (PW.pt (pw_or (pt_cmpR op_ne (pe_fld (pv 3) rfl) (pe_dget hu (pv 2) pe_str (fun _ _ => rfl)) (nomark _)) (pw_or (pt_cmpR op_ne (pe_fld (pv 3) rfl) (pe_dget hu (pv 2) pe_str (fun _ _ => rfl)) (nomark _)) (pw_or1 (pt_cmpR op_ne (pe_fld (pv 3) rfl) (pe_dget hu (pv 2) pe_str (fun _ _ => rfl)) (nomark _)))))) (pss_one (ps_ret pe_bl)) pss_nil)))))) (pss_one (ps_ret (pe_and (pe_cmpR (op_eqD hr.units) (pe_fld (pv 3) rfl) (pe_dget hu (pv 2) pe_str (fun _ _ => rfl)) (nomark _)) (pe_one (pe_cmpR (op_eqD hr.units) (pv 1) (pe_cal (cal_law_cells (K := K) T) hr (by decide) rfl (pa_cons (pv 0) pa_nil)) (nomark _))))))))))))), ?_⟩
    refine q_setc (va_cons (v_var rfl) va_nil) ⟨a, ns, rfl, hS, fun D H1 hD sm1 hD1 => ?_⟩
    dsimp only
    have hc := cellsV_len ns
    have hb := cellsV_in ns
    have hS1 := sm1.seq hS
    generalize hcs : cellsV ns = cs at hD1 hc hb
    refine q_setc (va_cons (v_var rfl) va_nil) ⟨D, cs, rfl, SqL.of hD1, fun d l0 H2 nd n0 hne sm2 => ?_⟩
    dsimp only
    have smd : ∀ m : Mc, Same H1 (dput H2 d l0 m []) := fun m => smD sm2 nd n0
    have hS2 : ∀ m : Mc, SqL K (dput H2 d l0 m []) a (ns.map V.int) := fun m => (smd m).seq hS1
    have nDd : D ≠ d := ne_of_none hD1 nd
    have nD0 : D ≠ l0 := ne_of_none hD1 n0
    refine qd_at rk_nil (v_mod (v_call (va_cons (v_var rfl) (va_cons v_c va_nil)) (fun _ q => ⟨_, _, _, rfl, hS2 _, by decide, q⟩)) v_c (by decide)) (v_var rfl) ?_
    have a0 : 0 ≤ cellAt ns 2 % 64 ∧ cellAt ns 2 % 64 < 64 := by omega
    dsimp only
    generalize cellAt ns 2 % 64 = at_ at *
    have hDm : dput H2 d l0 ⟨cs, 0, 0, at_⟩ [] D = some (.lst (cs.map V.int)) := by rw [dput_ne nDd nD0]; exact sm2 _ _ hD1
    refine q_machine (va_cons (v_var rfl) (va_cons v_c (va_cons v_c (va_cons (vd_at (v_var rfl)) va_nil)))) (.inl (SqL.of hDm)) (fun x dx l H3 nx nl _ hnl sm3 => ?_)
    dsimp only
    have hw : WfM ⟨cs, 0, 0, at_⟩ := ⟨⟨hc, a0.1, a0.2⟩, hb, by show (0 : Int) ≤ 0; decide, by show (0 : Int) < 1024; decide, .inl rfl⟩
    have bb : Both (He.ga K "Machine") (mput (He.ga K "Machine") H3 x dx l ⟨cs, 0, 0, at_⟩) x dx l d l0 ⟨cs, 0, 0, at_⟩ [] := by
      have q1 : d ≠ x := ne_of_none dput_d nx
      have q2 : d ≠ l := ne_of_none dput_d nl
      have q3 : l0 ≠ x := ne_of_none (dput_l hne) nx
      have q4 : l0 ≠ l := ne_of_none (dput_l hne) nl
      exact ⟨mput_p, mput_l hnl, by rw [mput_ne q1 q2]; exact sm3 _ _ dput_d, by rw [mput_ne q3 q4]; exact sm3 _ _ (dput_l hne), hnl, hne, q4⟩
    have sm4 : Same H1 (mput (He.ga K "Machine") H3 x dx l ⟨cs, 0, 0, at_⟩) := smP ((smd _).trans sm3) ((smd ⟨cs, 0, 0, at_⟩).free nx) ((smd ⟨cs, 0, 0, at_⟩).free nl)
    have fr : H1 x = none ∧ H1 l = none ∧ H1 d = none ∧ H1 l0 = none := ⟨(smd ⟨cs, 0, 0, at_⟩).free nx, (smd ⟨cs, 0, 0, at_⟩).free nl, nd, n0⟩
    generalize mput (He.ga K "Machine") H3 x dx l ⟨cs, 0, 0, at_⟩ = H4 at bb sm4 ⊢
    have hS4 := sm4.seq hS1
    refine q_set (v_mod (v_fdiv (v_call (va_cons (v_var rfl) (va_cons v_c va_nil)) (fun _ q => ⟨_, _, _, rfl, by assumption, by decide, q⟩)) v_c ⟨by decide, by decide⟩) v_c (by decide)) ?_
    refine q_rel (fun σ' H' => ∃ n : Int, 0 ≤ n ∧ n ≤ 200 ∧ σ' = [some (.ref a), some (.ref D), some (.ref d), some (.ref x), some (.int n), none, none, none] ∧ H' = H4) (s_if (a_or (a_t (v_gt (v_cb (va_cons (v_var rfl) va_nil) (fun _ q => ⟨_, _, rfl, .inl hS4, q⟩)) v_c)) (fun _ => a_t (v_eqI (v_call (va_cons (v_call (va_cons (v_var rfl) (va_cons v_c va_nil)) (fun _ q => ⟨_, _, _, rfl, hS4, by decide, q⟩)) (va_cons v_c (va_cons v_c va_nil))) (fun _ q => ⟨_, _, _, rfl, by decide, by decide, q⟩)) v_c))) (fun h1 => ?_) (fun h1 => ?_)) ?_
    · exact s_set v_c ⟨200, by decide, by decide, rfl, rfl⟩
    · exact s_next ⟨_, by omega, by omega, rfl, rfl⟩
    rintro _ _ ⟨n, n0', n1', rfl, rfl⟩
    refine q_forR (va_cons (v_var rfl) va_nil) (by omega) (fun i σ' H' => ∃ v5 v6 v7 m, σ' = [some (.ref a), some (.ref D), some (.ref d), some (.ref x), some (.int n), v5, v6, v7] ∧ WfM m ∧ Both (He.ga K "Machine") H' x dx l d l0 m [] ∧ Same H1 H') ⟨_, _, _, _, rfl, hw, bb, sm4⟩ ?_ ?_
    · rintro i _ H5 hi ⟨v5, v6, v7, m, rfl, wm, b, s5⟩
      refine q_setc (va_cons (v_var rfl) va_nil) ⟨H5, x, dx, l, m, rfl, hnl, wm.toWm, (mput_id b.hx b.hl).symm, fun H6 sm6 => ?_⟩
      dsimp only
      obtain ⟨g1, g2⟩ := b.mid (m' := deedM m) sm6
      refine q_setc (va_cons (v_var rfl) va_nil) ⟨_, d, l0, m, [], rfl, ⟨hne, rk_nil, wm, (dput_id g1 g2).symm⟩, fun H7 sm7 => ?_⟩
      dsimp only
      have b2 := b.next sm6 sm7
      have s8 : Same H1 (dput H7 d l0 (deedM m) []) := fun q o e => b.keep sm6 sm7 (s5 q o e) (ne_of_none e fr.1) (ne_of_none e fr.2.1) (ne_of_none e fr.2.2.1) (ne_of_none e fr.2.2.2)
      refine q_if (a_or (a_t (v_neV (v_var rfl) (v_var rfl) (scal_deed m))) (fun _ => a_t (v_neB (v_isN (v_var rfl) v_c) (v_isN (v_var rfl) v_c)))) (fun h1 => ?_) (fun h1 => ?_)
      · exfalso
        simp at h1
      refine s_next ?_
      refine s_if (a_or (a_t (v_neI (vf_total M b2.hx (v_var rfl)) (ve_total b2.hd (v_var rfl)))) (fun _ => a_or (a_t (v_neI (vf_mark M b2.hx (v_var rfl)) (ve_mark b2.hd (v_var rfl)))) (fun _ => a_t (v_neI (vf_at M b2.hx (v_var rfl)) (ve_at b2.hd (v_var rfl)))))) (fun h1 => ?_) (fun h1 => ?_)
      · exfalso
        simp at h1
      exact s_next ⟨_, _, _, _, rfl, wf_deed wm, b2, s8⟩
    rintro _ H5 ⟨v5, v6, v7, m, rfl, wm, b, s5⟩
    refine x_ret (x_andV (x_v (v_eqL (vf_cells M b.hx (v_var rfl)) (ve_cells b.hd (v_var rfl)) (SqL.of b.hl) (SqL.of b.h0)) ⟨_, rfl, ?_⟩))
    rw [decide_eq_true rfl]
    refine iteT ?_
    refine x_op (x_v (v_var rfl) (x_call (va_cons (v_var rfl) va_nil) ⟨a, ns, rfl, s5.seq hS1, fun E H6 hE sm6 hE6 => ?_⟩))
    refine ⟨_, _, dp_intsL (SqL.of (sm6 _ _ (s5 _ _ hD1))), dp_intsL (SqL.of hE6), shaped_intsL _, shaped_intsL _, ?_⟩
    rw [eqv_intsL, hcs, decide_eq_true rfl]
    exact k _
end
theorem facts {P : Program} {w : World} {K : PySem.W.Frag} {h : Heap} {mg : Str → Option Value} {f : Addr} (X : K.In h) (G : h.Ns mainGlobals mg) (hfa : mg ("law" : Str) = some (.ref f)) (c : He.SaysD Hd.fa Hd.fn K) :
    ∃ fd : FuncData, (∀ (s : Shared) (v : Value), BindsTo s fd ⟨[v], []⟩ [("_law_script", v)]) ∧ ∀ base : Heap, K.In base → base.Ns mainGlobals mg → FnOk P w K mg base CX0 7 f fd ["_law_script"] (spLaw K) := by
  obtain ⟨fd, F⟩ := c.def_ 21 (d := Hd.d_law) rfl
  have T : Tx K mg := ⟨⟨h, X, G⟩, c⟩
  have e := hfa.symm.trans (T.glo 21)
  cases e
  have b := FunD.bindsA (ps := ["_law_script"]) F fun _ _ _ _ _ _ us hl => match us, hl with | [_], _ => rfl
  exact ⟨fd, fun s v => b s [v] rfl, fun base _ _ => law_ok T F⟩
end Ch
open PySem PySem.W PySem.Calls PyProof.Rows
set_option maxRecDepth 100000 in
set_option maxHeartbeats 0 in
theorem PySem.Challenge.cw_corehouse_k10_whole_machine_runs_holds : PySem.Challenge.rw_corehouse_k10_whole_machine_runs.Holds := by
  w_on; o_law
  refine HandSHeadRun.head_any (r := OpenLaw.row PySem.Challenge.rw_corehouse_k10_whole_machine_runs) (q := view (OpenLaw.row PySem.Challenge.rw_corehouse_k10_whole_machine_runs).prog [25]) (H := Ch.Hd.hk) (ob := Ch.Hd.ob) (M := 6000) (loose := Ch.Hd.loose) (d := HandSHeadRun.topDef (OpenLaw.row PySem.Challenge.rw_corehouse_k10_whole_machine_runs).prog 25) (kwd := []) Ch.Hd.ob_eq
    (by kernel_rfl) (fun s => by kernel_rfl) Ch.Hd.run (by kernel_rfl) (by kernel_rfl) (by kernel_rfl) (by rfl) (by first | assumption | decide +kernel) (by decide +kernel) ⟨rfl, rfl, rfl, rfl, rfl, by decide +kernel⟩ ?hw ?hc
  case hw => w_witness2
  case hc =>
    refine L2.walk_ofE (l := PySem.Challenge.rw_corehouse_k10_whole_machine_runs) (n := 63) (k := 7) (x := "_law_script") (CX := L2.CX0) rfl (by decide) (by kernel_rfl) ⟨rfl, by decide, by decide⟩ ?F (fun _ _ _ _ z => z)
    intro w mg fa h Y G hmg0
    obtain ⟨K, KX, c⟩ := Y
    have hmg : mg ("law" : PySem.Str) = some (.ref fa) := by
      have e : (HandSHeadRun.topDef (OpenLaw.row PySem.Challenge.rw_corehouse_k10_whole_machine_runs).prog 25).name = ("law" : PySem.Str) := by kernel_rfl
      rw [← e]
      exact hmg0
    obtain ⟨fd, hb, hF⟩ := Ch.facts (P := (PySem.Challenge.rw_corehouse_k10_whole_machine_runs).prog) (w := w) KX G hmg c
    exact ⟨K, fd, Ch.spLaw K, KX, hb, fun H a ns hl _ hS => ⟨a, ns, rfl, hS, hl, fun _ => rfl⟩, hF⟩
#print axioms PySem.Challenge.cw_corehouse_k10_whole_machine_runs_holds
