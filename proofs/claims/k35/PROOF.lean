import PyProof.Rows.All
import Wide.All
import OpenK.AllK
import Wide.FinOn
import KE.KStateDown
import HandS.ForMost
import HandS.Defaults
import HandS.Head0
import HandS.Head1
import HandS.Head2
import HandS.HeadEnd
import HandS.HeadHook1
import HandS.HeadHook2
import HandS.Steps
import HandS.Codes
import HandS.IsInst
import HandS.Walk
import HandS.TupMul
import HandS.TupAny
import HandS.Zip
import KE.GoesMore
import HandS.Strs
import HandS.More
import HandS.ExcInit
import HandS.ExcField
import HandS.ExcOwn
import HandS.ExcIs
import KE.KExcIs
import OpenK.KCls
import PySem.Challenge.RW_corehouse_k35_faults_of_the_first_going
set_option Elab.async false
set_option linter.all false
set_option maxRecDepth 100000
set_option maxHeartbeats 4000000
namespace Ch
open PySem PySem.Spec PyProof.Rows L2
def top (i : Nat) : Stmt := PySem.Challenge.pw_corehouse_k35_faults_of_the_first_going.main.body.getD i (.Pass ⟨0, 0, 0, 0⟩)
abbrev s_is_name : Stmt := top 15
abbrev s_is_number : Stmt := top 16
abbrev s_terms : Stmt := top 17
abbrev s_weight_of : Stmt := top 18
abbrev s_deed_of : Stmt := top 19
abbrev s_aimed : Stmt := top 20
abbrev s_read : Stmt := top 21
abbrev s_amount_of : Stmt := top 23
abbrev s_within : Stmt := top 24
abbrev s_label_told : Stmt := top 25
abbrev s_gone_over : Stmt := top 26
abbrev s_make_cell : Stmt := top 27
abbrev s_pool_place : Stmt := top 28
abbrev s_cells_made : Stmt := top 29
abbrev s_assembled : Stmt := top 30
abbrev s_law_cell : Stmt := top 32
abbrev s_law_mix : Stmt := top 33
abbrev s_law_kinds : Stmt := top 34
abbrev s_law_asks : Stmt := top 35
abbrev s_law_named : Stmt := top 36
abbrev s_law_changes : Stmt := top 37
abbrev s_law_tests : Stmt := top 38
abbrev s_law_line : Stmt := top 39
abbrev s_law_said : Stmt := top 40
abbrev s_law_by_base : Stmt := top 41
abbrev s_law_refused : Stmt := top 42
abbrev s_law_outside : Stmt := top 43
abbrev s_law_put : Stmt := top 44
abbrev s_law : Stmt := top 45
abbrev s_BadText___init__ : Stmt := inClass (top 2) 0
namespace Hd
def d_is_name : He.DefD := ⟨("is_name", none), "is_name", "is_name", defArgs s_is_name, defBody s_is_name, defScope s_is_name, [], []⟩
def d_is_number : He.DefD := ⟨("is_number", none), "is_number", "is_number", defArgs s_is_number, defBody s_is_number, defScope s_is_number, [], []⟩
def d_terms : He.DefD := ⟨("terms", none), "terms", "terms", defArgs s_terms, defBody s_terms, defScope s_terms, [], []⟩
def d_weight_of : He.DefD := ⟨("weight_of", none), "weight_of", "weight_of", defArgs s_weight_of, defBody s_weight_of, defScope s_weight_of, [], []⟩
def d_deed_of : He.DefD := ⟨("deed_of", none), "deed_of", "deed_of", defArgs s_deed_of, defBody s_deed_of, defScope s_deed_of, [], []⟩
def d_aimed : He.DefD := ⟨("aimed", none), "aimed", "aimed", defArgs s_aimed, defBody s_aimed, defScope s_aimed, [], []⟩
def d_read : He.DefD := ⟨("read", none), "read", "read", defArgs s_read, defBody s_read, defScope s_read, [], []⟩
def d_amount_of : He.DefD := ⟨("amount_of", none), "amount_of", "amount_of", defArgs s_amount_of, defBody s_amount_of, defScope s_amount_of, [], []⟩
def d_within : He.DefD := ⟨("within", none), "within", "within", defArgs s_within, defBody s_within, defScope s_within, [], []⟩
def d_label_told : He.DefD := ⟨("label_told", none), "label_told", "label_told", defArgs s_label_told, defBody s_label_told, defScope s_label_told, [], []⟩
def d_gone_over : He.DefD := ⟨("gone_over", none), "gone_over", "gone_over", defArgs s_gone_over, defBody s_gone_over, defScope s_gone_over, [], []⟩
def d_make_cell : He.DefD := ⟨("make_cell", none), "make_cell", "make_cell", defArgs s_make_cell, defBody s_make_cell, defScope s_make_cell, [], []⟩
def d_pool_place : He.DefD := ⟨("pool_place", none), "pool_place", "pool_place", defArgs s_pool_place, defBody s_pool_place, defScope s_pool_place, [], []⟩
def d_cells_made : He.DefD := ⟨("cells_made", none), "cells_made", "cells_made", defArgs s_cells_made, defBody s_cells_made, defScope s_cells_made, [], []⟩
def d_assembled : He.DefD := ⟨("assembled", none), "assembled", "assembled", defArgs s_assembled, defBody s_assembled, defScope s_assembled, [], []⟩
def d_law_cell : He.DefD := ⟨("_law_cell", none), "_law_cell", "_law_cell", defArgs s_law_cell, defBody s_law_cell, defScope s_law_cell, [], []⟩
def d_law_mix : He.DefD := ⟨("_law_mix", none), "_law_mix", "_law_mix", defArgs s_law_mix, defBody s_law_mix, defScope s_law_mix, [], []⟩
def d_law_kinds : He.DefD := ⟨("_law_kinds", none), "_law_kinds", "_law_kinds", defArgs s_law_kinds, defBody s_law_kinds, defScope s_law_kinds, [], []⟩
def d_law_asks : He.DefD := ⟨("_law_asks", none), "_law_asks", "_law_asks", defArgs s_law_asks, defBody s_law_asks, defScope s_law_asks, [], []⟩
def d_law_named : He.DefD := ⟨("_law_named", none), "_law_named", "_law_named", defArgs s_law_named, defBody s_law_named, defScope s_law_named, [], []⟩
def d_law_changes : He.DefD := ⟨("_law_changes", none), "_law_changes", "_law_changes", defArgs s_law_changes, defBody s_law_changes, defScope s_law_changes, [], []⟩
def d_law_tests : He.DefD := ⟨("_law_tests", none), "_law_tests", "_law_tests", defArgs s_law_tests, defBody s_law_tests, defScope s_law_tests, [], []⟩
def d_law_line : He.DefD := ⟨("_law_line", none), "_law_line", "_law_line", defArgs s_law_line, defBody s_law_line, defScope s_law_line, [], []⟩
def d_law_said : He.DefD := ⟨("_law_said", none), "_law_said", "_law_said", defArgs s_law_said, defBody s_law_said, defScope s_law_said, [], []⟩
def d_law_by_base : He.DefD := ⟨("_law_by_base", none), "_law_by_base", "_law_by_base", defArgs s_law_by_base, defBody s_law_by_base, defScope s_law_by_base, [], []⟩
def d_law_refused : He.DefD := ⟨("_law_refused", none), "_law_refused", "_law_refused", defArgs s_law_refused, defBody s_law_refused, defScope s_law_refused, [], []⟩
def d_law_outside : He.DefD := ⟨("_law_outside", none), "_law_outside", "_law_outside", defArgs s_law_outside, defBody s_law_outside, defScope s_law_outside, [], []⟩
def d_law_put : He.DefD := ⟨("_law_put", none), "_law_put", "_law_put", defArgs s_law_put, defBody s_law_put, defScope s_law_put, [], []⟩
def d_law : He.DefD := ⟨("law", none), "law", "law", defArgs s_law, defBody s_law, defScope s_law, [], []⟩
def d_BadText___init__ : He.DefD := ⟨("BadText", some "__init__"), "__init__", "BadText.__init__", defArgs s_BadText___init__, defBody s_BadText___init__, defScope s_BadText___init__, [], []⟩
def fn : List He.DefD := [d_is_name, d_is_number, d_terms, d_weight_of, d_deed_of, d_aimed, d_read, d_amount_of, d_within, d_label_told, d_gone_over, d_make_cell, d_pool_place, d_cells_made, d_assembled, d_law_cell, d_law_mix, d_law_kinds, d_law_asks, d_law_named, d_law_changes, d_law_tests, d_law_line, d_law_said, d_law_by_base, d_law_refused, d_law_outside, d_law_put, d_law, d_BadText___init__]
def fa : List He.Fa := [.glo "is_name", .glo "is_number", .glo "terms", .glo "weight_of", .glo "deed_of", .glo "aimed", .glo "read", .glo "amount_of", .glo "within", .glo "label_told", .glo "gone_over", .glo "make_cell", .glo "pool_place", .glo "cells_made", .glo "assembled", .glo "_law_cell", .glo "_law_mix", .glo "_law_kinds", .glo "_law_asks", .glo "_law_named", .glo "_law_changes", .glo "_law_tests", .glo "_law_line", .glo "_law_said", .glo "_law_by_base", .glo "_law_refused", .glo "_law_outside", .glo "_law_put", .glo "law", .free "len", .free "range", .free "isinstance", .free "int", .free "str", .free "bool", .free "enumerate", .free "max", .free "ValueError", .glo "CoreError", .glo "BadText", .glo "NoDeed", .glo "Twice", .glo "NoName", .glo "OutOfBounds", .glo "Taken", .glo "KINDS", .glo "ASKS", .glo "CHANGES", .glo "TESTS", .glo "WEIGHTS", .glo "OTHERS"]
abbrev R : PySem.W.OpenRow := PySem.W.OpenLaw.row PySem.Challenge.rw_corehouse_k35_faults_of_the_first_going
def tupN (K : PySem.W.Frag) (x : PySem.Str) : Bool := match K.lookup (He.ga K x) with
  | some ⟨.type c, none, _, _⟩ => decide (c = "tuple")
  | _ => false
def oexB (K : PySem.W.Frag) (C : Addr) : Bool :=
  (match K.lookup C with
  | some ⟨.type c, _, .cls cd, sl⟩ => decide (c = "type") && ((match cd.mro with | .ref c' :: bm => decide (c' = C) && PySem.HandSPX.refsVE bm | _ => false) && (cd.hasDict && (!cd.hasDel && (match sl.toList with | [_, _, _, _, some (.builtin n), _] => decide (n = "ValueError.__new__") | _ => false))))
  | _ => false) && (He.eqO (PySem.W.findIn K (.ref C) "__setattr__") (some (some (.builtin "object.__setattr__"))) && (decide (PySem.W.subIn K (.ref C) (.type "BaseException") = some true) && (decide (PySem.W.typeIn K (.ref C) = some (.type "type")) && PySem.W.keepIn K (.ref C))))
def initA (K : PySem.W.Frag) : Addr := He.ma K (He.ga K "BadText") "__init__"
def errs : List PySem.Str := ["NoDeed", "Twice", "NoName", "OutOfBounds", "Taken"]
def errB (K : PySem.W.Frag) (x : PySem.Str) : Bool := oexB K (He.ga K x) && (He.eqO (PySem.W.findIn K (.ref (He.ga K x)) "__init__") (some (some (.ref (initA K)))) && (He.eqO (PySem.W.findIn K (.ref (He.ga K x)) "line") (some none) && (L2.xfB K (He.ga K x) &&
  (He.eqO (PySem.W.findIn K (.ref (He.ga K x)) "__class__") (some (some (.builtin "object.__class__"))) && (decide (PySem.W.mroIn K (He.ga K x) (.type "object") = some true) && (decide (PySem.W.kitOne K (.ref (He.ga K x)) (.ref (He.ga K "CoreError")) = some true) && (decide (PySem.W.kitOne K (.ref (He.ga K x)) (.type "ValueError") = some true) &&
  (decide (PySem.W.exmOne K (.ref (He.ga K x)) (.ref (He.ga K "BadText")) = some true) && errs.all fun y => decide (PySem.W.exmOne K (.ref (He.ga K x)) (.ref (He.ga K y)) = some (decide (x = y)))))))))))
def excsB (K : PySem.W.Frag) : Bool := decide (PySem.W.typeIn K (.ref (initA K)) = some (.type "function")) && (He.eqO (PySem.W.specialIn K (.builtin "object.__class__") "__get__") (some (some (.builtin "getset_descriptor.__get__"))) && (decide (PySem.W.takesIn K (.builtin "object.__class__") = some true) &&
  (He.eqO (PySem.W.specialIn K (.ref (He.ga K "CoreError")) "__getattribute__") (some (some (.builtin "type.__getattribute__"))) && (PySem.W.readsIn K (He.ga K "CoreError") (.type "type") &&
  ((match PySem.W.findCls K (.ref (He.ga K "CoreError")) (.type "type") "__init__" with | some (.val (.builtin n)) => decide (n = "ValueError.__init__") | _ => false) && errs.all (errB K))))))
def exB (K : PySem.W.Frag) : Bool := (He.tupB K "KINDS" [.str "and", .str "add", .str "rise", .str "put", .str "call", .str "go"] && (tupN K "KINDS" && (He.tupB K "ASKS" [.str "heard", .str "hear", .str "room", .str "say", .str "sleep", .str "fetch", .str "store", .str "stop", .str "look"] && (tupN K "ASKS" && (He.tupB K "CHANGES" [.str "zero", .str "turn", .str "flip", .str "more", .str "left", .str "right"] && (tupN K "CHANGES" && (He.tupB K "TESTS" [.str "minus", .str "none", .str "mark", .str "not", .str "zero", .str "flat"] && (tupN K "TESTS" && (He.tupB K "WEIGHTS" [.int 32, .int 16, .int 8, .int 4, .int 2, .int 1] && (tupN K "WEIGHTS" && (He.tupB K "OTHERS" [.str "place", .str "word", .str "far", .str "ask", .str "change", .str "test", .str "here"] && (tupN K "OTHERS" && (excsB K && true)))))))))))))
def asX (g : Addr → Option Obj) : List Addr := He.asD g 4 ++ [cStatics]
def obE (g : Addr → Option Obj) : He.AlD × Bool := (He.obsD fa fn (He.frG g (asX g)), exB (He.frG g (asX g)))
def hk : PySem.W.Hook where
  α := He.AlD × Bool
  obs := fun s => obE s.heap.get?
  val := fun _ => (He.valD fn, true)
  says := fun _ h => ∃ K : PySem.W.Frag, K.In h ∧ He.SaysD fa fn K ∧ exB K = true
  of := fun _ _ e => ⟨_, He.frG_in, congrArg (fun z : He.AlD × Bool => z.1) e, congrArg (fun z : He.AlD × Bool => z.2) e⟩
  keeps := fun _ _ _ ⟨K, hK, c⟩ k => ⟨K, PySem.W.Frag.In.keeps hK k, c⟩
def ob (s : PySem.W.SharedT) : He.AlD × Bool := obE (HandSHeadRun.getT s)
theorem obE_eq {g : Addr → Option Obj} {s : Shared} (h : ∀ a, g a = s.heap.get? a) : obE g = hk.obs s := by
  have e : g = s.heap.get? := funext h
  rw [e] <;> rfl
theorem ob_eq (s : PySem.W.SharedT) : ob s = hk.obs s.abs := obE_eq (HandSHeadRun.getT_eq s)
def loose0 : List PySem.Str := ["CoreError", "BadText", "NoDeed", "Twice", "NoName", "OutOfBounds", "Taken", "KINDS", "ASKS", "CHANGES", "TESTS", "WEIGHTS", "OTHERS", "is_name", "is_number", "terms", "weight_of", "deed_of", "aimed", "read", "amount_of", "within", "label_told", "gone_over", "make_cell", "pool_place", "cells_made", "assembled", "_law_cell", "_law_mix"]
def loose1 : List PySem.Str := ["_law_kinds", "_law_asks", "_law_named", "_law_changes", "_law_tests", "_law_line", "_law_said", "_law_by_base", "_law_refused", "_law_outside", "_law_put"]
def loose : List PySem.Str := loose0 ++ loose1
theorem run (w : World) : HandSHeadRun.RunEq R (PySem.W.view R.prog [45]) hk ob 6000 loose w := by
  intro os
  kernel_rfl
end Hd
/-! ### Prelude: what a reading evaluates to (over HandS) -/
section prelude
variable {σ : L2.St} {H H' : Hp} {i j : Int} {n : Nat} {v x y z : V} {ta tb tc te tv : TE} {b c : Bool} {K : PySem.W.Frag} {a : Addr} {t u w : TT} {N : L2.St → Hp → Prop} {R : VK} {B C' : L2.St → Hp → Prop} {tz t1 t2 : TS} {tl : TA}
/-- an argument list evaluates to vs, the heap as it is -/
def ValA (t : TA) (σ : L2.St) (H : Hp) (vs : List V) : Prop := ∀ Q : List V → Hp → Prop, Q vs H → t σ H Q
theorem va_nil : ValA tNil σ H [] := fun _ q => q
theorem va_cons {vs : List V} (h : Val ta σ H x) (hr : ValA tl σ H vs) : ValA (tCons ta tl) σ H (x :: vs) := fun Q q => h _ (hr _ q)
theorem v_eqv (h : Val te σ H x) (e : x = y) : Val te σ H y := e ▸ h
theorem v_var {k : Nat} (h : σ[k]? = some (some v)) : Val (tVar k) σ H v := val_var h
theorem v_c : Val (tC v) σ H v := val_c
theorem v_add (ha : Val ta σ H (.int i)) (hb : Val tb σ H (.int j)) : Val (tOp (rI0 fun i j => .int (i + j)) ta tb) σ H (.int (i + j)) := val_op ha hb fun _ q => ⟨_, _, rfl, rfl, q⟩
theorem v_sub (ha : Val ta σ H (.int i)) (hb : Val tb σ H (.int j)) : Val (tOp (rI0 fun i j => .int (i - j)) ta tb) σ H (.int (i - j)) := val_op ha hb fun _ q => ⟨_, _, rfl, rfl, q⟩
theorem v_band (ha : Val ta σ H (.int i)) (hb : Val tb σ H (.int j)) : Val (tOp (rI0 fun i j => .int (Builtin.bitAnd i j)) ta tb) σ H (.int (Builtin.bitAnd i j)) := val_op ha hb fun _ q => ⟨_, _, rfl, rfl, q⟩
theorem v_mul (ha : Val ta σ H (.int i)) (hb : Val tb σ H (.int j)) (hc : CMul i j) : Val (tOp (rI CMul fun i j => .int (i * j)) ta tb) σ H (.int (i * j)) := val_op ha hb fun _ q => ⟨_, _, rfl, rfl, hc, q⟩
theorem v_mod (ha : Val ta σ H (.int i)) (hb : Val tb σ H (.int j)) (hc : 0 < j) : Val (tOp (rI (fun _ j => 0 < j) fun i j => .int (i % j)) ta tb) σ H (.int (i % j)) := val_op ha hb fun _ q => ⟨_, _, rfl, rfl, hc, q⟩
theorem v_fdiv (ha : Val ta σ H (.int i)) (hb : Val tb σ H (.int j)) (hc : CDiv i j) : Val (tOp (rI CDiv fun i j => .int (i / j)) ta tb) σ H (.int (i / j)) := val_op ha hb fun _ q => ⟨_, _, rfl, rfl, hc, q⟩
theorem v_neg (ha : Val ta σ H (.int i)) : Val (tUn (rU fun i => .int (-i)) ta) σ H (.int (-i)) := fun _ q => ha _ ⟨_, rfl, q⟩
theorem v_lt (ha : Val ta σ H (.int i)) (hb : Val tb σ H (.int j)) : Val (tOp (rI0 fun i j => .bl (decide (i < j))) ta tb) σ H (.bl (decide (i < j))) := val_op ha hb fun _ q => ⟨_, _, rfl, rfl, q⟩
theorem v_le (ha : Val ta σ H (.int i)) (hb : Val tb σ H (.int j)) : Val (tOp (rI0 fun i j => .bl (decide (i ≤ j))) ta tb) σ H (.bl (decide (i ≤ j))) := val_op ha hb fun _ q => ⟨_, _, rfl, rfl, q⟩
theorem v_gt (ha : Val ta σ H (.int i)) (hb : Val tb σ H (.int j)) : Val (tOp (rI0 fun i j => .bl (decide (j < i))) ta tb) σ H (.bl (decide (j < i))) := val_op ha hb fun _ q => ⟨_, _, rfl, rfl, q⟩
theorem v_ge (ha : Val ta σ H (.int i)) (hb : Val tb σ H (.int j)) : Val (tOp (rI0 fun i j => .bl (decide (j ≤ i))) ta tb) σ H (.bl (decide (j ≤ i))) := val_op ha hb fun _ q => ⟨_, _, rfl, rfl, q⟩
theorem dec_vint : decide (V.int i = V.int j) = decide (i = j) := by
  by_cases h : i = j
  · subst h; simp
  · have : ¬ V.int i = V.int j := fun e => h (V.int.inj e)
    simp [h]
theorem dec_vstr {p q : Str} : decide (V.str p = V.str q) = decide (p = q) := by
  by_cases h : p = q
  · subst h; simp
  · have : ¬ V.str p = V.str q := fun e => h (V.str.inj e)
    simp [h]
theorem dec_vbl : decide (V.bl b = V.bl c) = (b == c) := by cases b <;> cases c <;> rfl
theorem v_eqI (ha : Val ta σ H (.int i)) (hb : Val tb σ H (.int j)) : Val (tOp rEq ta tb) σ H (.bl (decide (i = j))) := val_op ha hb fun _ q => ⟨rfl, by rw [dec_vint]; exact q⟩
theorem v_neI (ha : Val ta σ H (.int i)) (hb : Val tb σ H (.int j)) : Val (tOp rNe ta tb) σ H (.bl (!decide (i = j))) := val_op ha hb fun _ q => ⟨rfl, by rw [dec_vint]; exact q⟩
theorem v_eqS {p r : Str} (ha : Val ta σ H (.str p)) (hb : Val tb σ H (.str r)) : Val (tOp rEq ta tb) σ H (.bl (decide (p = r))) := val_op ha hb fun _ q => ⟨rfl, by rw [dec_vstr]; exact q⟩
theorem v_neS {p r : Str} (ha : Val ta σ H (.str p)) (hb : Val tb σ H (.str r)) : Val (tOp rNe ta tb) σ H (.bl (!decide (p = r))) := val_op ha hb fun _ q => ⟨rfl, by rw [dec_vstr]; exact q⟩
theorem v_eqB (ha : Val ta σ H (.bl b)) (hb : Val tb σ H (.bl c)) : Val (tOp rEq ta tb) σ H (.bl (b == c)) := val_op ha hb fun _ q => ⟨rfl, by rw [dec_vbl]; exact q⟩
theorem v_neB (ha : Val ta σ H (.bl b)) (hb : Val tb σ H (.bl c)) : Val (tOp rNe ta tb) σ H (.bl (!(b == c))) := val_op ha hb fun _ q => ⟨rfl, by rw [dec_vbl]; exact q⟩
theorem v_eqV (ha : Val ta σ H x) (hb : Val tb σ H y) (hs : scal x y = true) : Val (tOp rEq ta tb) σ H (.bl (decide (x = y))) := val_op ha hb fun _ q => ⟨hs, q⟩
theorem v_neV (ha : Val ta σ H x) (hb : Val tb σ H y) (hs : scal x y = true) : Val (tOp rNe ta tb) σ H (.bl (!decide (x = y))) := val_op ha hb fun _ q => ⟨hs, q⟩
theorem v_isN (ha : Val ta σ H x) (hb : Val tb σ H .non) : Val (tOp rIsN ta tb) σ H (.bl (decide (x = .non))) := val_op ha hb fun _ q => ⟨rfl, q⟩
theorem v_notN (ha : Val ta σ H x) (hb : Val tb σ H .non) : Val (tOp rNotN ta tb) σ H (.bl (!decide (x = .non))) := val_op ha hb fun _ q => ⟨rfl, q⟩
/-- an item of a list, of a tuple -/
theorem v_ixL {p : Addr} {xs : List V} (ha : Val ta σ H (.ref p)) (hb : Val tb σ H (.int i)) (h : SqL K H p xs) (h0 : 0 ≤ i) (hx : xs[i.toNat]? = some v) : Val (tOp (rIxL K) ta tb) σ H v :=
  val_op ha hb fun _ q => ⟨_, _, _, _, rfl, rfl, h, at_of (j := i.toNat) (by omega) hx, q⟩
theorem v_ixT {p : Addr} {xs : List V} (ha : Val ta σ H (.ref p)) (hb : Val tb σ H (.int i)) (h : SqT K H p xs) (h0 : 0 ≤ i) (hx : xs[i.toNat]? = some v) : Val (tOp (rIxT K) ta tb) σ H v :=
  val_op ha hb fun _ q => ⟨_, _, _, _, rfl, rfl, h, at_of (j := i.toNat) (by omega) hx, q⟩
theorem v_ixLI {p : Addr} {ns : List Int} (ha : Val ta σ H (.ref p)) (hb : Val tb σ H (.int i)) (h : SqL K H p (ns.map V.int)) (h0 : 0 ≤ i) (hx : i < (ns.length : Int)) : Val (tOp (rIxL K) ta tb) σ H (.int (ns.getD i.toNat 0)) :=
  v_ixL ha hb h h0 (by
    have hl : i.toNat < ns.length := by omega
    rw [List.getElem?_map, List.getElem?_eq_getElem hl]
    simp [List.getD_eq_getElem?_getD, List.getElem?_eq_getElem hl])
theorem v_ixTI {p : Addr} {ns : List Int} (ha : Val ta σ H (.ref p)) (hb : Val tb σ H (.int i)) (h : SqT K H p (ns.map V.int)) (h0 : 0 ≤ i) (hx : i < (ns.length : Int)) : Val (tOp (rIxT K) ta tb) σ H (.int (ns.getD i.toNat 0)) :=
  v_ixT ha hb h h0 (by
    have hl : i.toNat < ns.length := by omega
    rw [List.getElem?_map, List.getElem?_eq_getElem hl]
    simp [List.getD_eq_getElem?_getD, List.getElem?_eq_getElem hl])
/-- a chain a < b <= c -/
theorem v_chain {r r' : R2} (ha : Val ta σ H x) (hb : Val tb σ H y) (h1 : ∀ Q : VK, Q (.bl b) H → r x y H Q) (hc : Val tc σ H z) (h2 : ∀ Q : VK, Q (.bl c) H → r' y z H Q) : Val (tChain r r' ta tb tc) σ H (.bl (b && c)) := fun Q q =>
  ha _ (hb _ (h1 _ ⟨b, rfl, by
    cases b with
    | true => exact (show _ from (show (if true = true then _ else _) from by rw [if_pos rfl]; exact hc _ (h2 _ q)))
    | false => exact (show (if false = true then _ else _) from by rw [if_neg Bool.false_ne_true]; exact q)⟩))
theorem rr_lt {Q : VK} (q : Q (.bl (decide (i < j))) H) : (rI0 fun i j => V.bl (decide (i < j))) (.int i) (.int j) H Q := ⟨_, _, rfl, rfl, q⟩
theorem rr_le {Q : VK} (q : Q (.bl (decide (i ≤ j))) H) : (rI0 fun i j => V.bl (decide (i ≤ j))) (.int i) (.int j) H Q := ⟨_, _, rfl, rfl, q⟩
theorem v_andV (ha : Val ta σ H (.bl b)) (hb : b = true → Val tb σ H (.bl c)) : Val (tAndV ta tb) σ H (.bl (b && c)) := fun Q q => ha _ ⟨b, rfl, by
  cases b with
  | true => exact (show (if true = true then _ else _) from by rw [if_pos rfl]; exact hb rfl _ q)
  | false => exact (show (if false = true then _ else _) from by rw [if_neg Bool.false_ne_true]; exact q)⟩
theorem v_orV (ha : Val ta σ H (.bl b)) (hb : b = false → Val tb σ H (.bl c)) : Val (tOrV ta tb) σ H (.bl (b || c)) := fun Q q => ha _ ⟨b, rfl, by
  cases b with
  | true => exact (show (if true = true then _ else _) from by rw [if_pos rfl]; exact q)
  | false => exact (show (if false = true then _ else _) from by rw [if_neg Bool.false_ne_true]; exact hb rfl _ q)⟩
theorem v_notV (ha : Val ta σ H (.bl b)) : Val (tNotV ta) σ H (.bl (!b)) := fun Q q => ha _ ⟨b, rfl, q⟩
theorem v_if (h : Ans t σ H b) (h1 : b = true → Val ta σ H v) (h2 : b = false → Val tb σ H v) : Val (tIf t ta tb) σ H v := fun Q q => h _ (by
  cases b with
  | true => exact (show (if true = true then _ else _) from by rw [if_pos rfl]; exact h1 rfl _ q)
  | false => exact (show (if false = true then _ else _) from by rw [if_neg Bool.false_ne_true]; exact h2 rfl _ q))
/-- a call that leaves the heap -/
theorem v_call {sp : Sp} {vs : List V} (h : ValA tl σ H vs) (hs : ∀ Q : VK, Q v H → sp vs H Q E0) : Val (tCall sp [] E0 tl) σ H v := fun Q q => h _ (show sp (vs ++ []) H Q E0 from by rw [List.append_nil]; exact hs Q q)
theorem v_cb {r : List V → Hp → VK → Prop} {vs : List V} (h : ValA tl σ H vs) (hs : ∀ Q : VK, Q v H → r vs H Q) : Val (tCB r tl) σ H v := fun Q q => h _ (hs Q q)
/-! tests -/
theorem a_t (h : Val te σ H (.bl b)) : Ans (tTest te) σ H b := fun _ q => h _ ⟨b, rfl, q⟩
theorem a_B (h : Val te σ H (.bl b)) : Ans (tB te) σ H b := fun _ q => h _ ⟨b, rfl, q⟩
theorem a_and (h1 : Ans t σ H b) (h2 : b = true → Ans u σ H c) : Ans (tAnd t u) σ H (b && c) := fun Q q => h1 _ (by
  cases b with
  | true => exact (show (if true = true then _ else _) from by rw [if_pos rfl]; exact h2 rfl Q q)
  | false => exact (show (if false = true then _ else _) from by rw [if_neg Bool.false_ne_true]; exact q))
theorem a_or (h1 : Ans t σ H b) (h2 : b = false → Ans u σ H c) : Ans (tOr t u) σ H (b || c) := fun Q q => h1 _ (by
  cases b with
  | true => exact (show (if true = true then _ else _) from by rw [if_pos rfl]; exact q)
  | false => exact (show (if false = true then _ else _) from by rw [if_neg Bool.false_ne_true]; exact h2 rfl Q q))
theorem a_not (h1 : Ans t σ H b) : Ans (tNot t) σ H (!b) := fun Q q => h1 _ q
theorem a_tru (ha : Val ta σ H x) (ht : TruV K x H b) : Ans (fun σ H Q => ta σ H fun x H' => ∃ k, TruV K x H' k ∧ Q k H') σ H b := ans_tru ha ht
/-! statements: q_ with something behind, s_ at a block's end -/
theorem q_set {k : Nat} (h : Val te σ H v) (q : tz ⟨N, R, B, C'⟩ (σ.set k (some v)) H) : tSeq (tAsg te (gName k)) tz ⟨N, R, B, C'⟩ σ H := h _ q
theorem s_set {k : Nat} (h : Val te σ H v) (q : N (σ.set k (some v)) H) : tAsg te (gName k) ⟨N, R, B, C'⟩ σ H := h _ q
theorem s_next (q : N σ H) : tNext ⟨N, R, B, C'⟩ σ H := q
theorem s_ret (h : Val te σ H v) (q : R v H) : tRet te ⟨N, R, B, C'⟩ σ H := h _ q
theorem q_drop (h : Val te σ H v) (q : tz ⟨N, R, B, C'⟩ σ H) : tSeq (tDrop te) tz ⟨N, R, B, C'⟩ σ H := h _ q
theorem q_if (h : Ans t σ H b) (h1 : b = true → t1 ⟨tz ⟨N, R, B, C'⟩, R, B, C'⟩ σ H) (h2 : b = false → t2 ⟨tz ⟨N, R, B, C'⟩, R, B, C'⟩ σ H) : tSeq (tIfS t t1 t2) tz ⟨N, R, B, C'⟩ σ H := h _ (by
  cases b with
  | true => exact (show (if true = true then _ else _) from by rw [if_pos rfl]; exact h1 rfl)
  | false => exact (show (if false = true then _ else _) from by rw [if_neg Bool.false_ne_true]; exact h2 rfl))
theorem s_if (h : Ans t σ H b) (h1 : b = true → t1 ⟨N, R, B, C'⟩ σ H) (h2 : b = false → t2 ⟨N, R, B, C'⟩ σ H) : tIfS t t1 t2 ⟨N, R, B, C'⟩ σ H := h _ (by
  cases b with
  | true => exact (show (if true = true then _ else _) from by rw [if_pos rfl]; exact h1 rfl)
  | false => exact (show (if false = true then _ else _) from by rw [if_neg Bool.false_ne_true]; exact h2 rfl))
theorem q_ifT (h : Ans t σ H b) (e : b = true) (q : t1 ⟨tz ⟨N, R, B, C'⟩, R, B, C'⟩ σ H) : tSeq (tIfS t t1 t2) tz ⟨N, R, B, C'⟩ σ H := q_if h (fun _ => q) (fun e' => by rw [e] at e'; cases e')
theorem q_ifF (h : Ans t σ H b) (e : b = false) (q : t2 ⟨tz ⟨N, R, B, C'⟩, R, B, C'⟩ σ H) : tSeq (tIfS t t1 t2) tz ⟨N, R, B, C'⟩ σ H := q_if h (fun e' => by rw [e] at e'; cases e') (fun _ => q)
theorem q_ifF0 (h : Ans t σ H b) (e : b = false) (q : tz ⟨N, R, B, C'⟩ σ H) : tSeq (tIfS t t1 tNext) tz ⟨N, R, B, C'⟩ σ H := q_ifF h e q
theorem s_ifT (h : Ans t σ H b) (e : b = true) (q : t1 ⟨N, R, B, C'⟩ σ H) : tIfS t t1 t2 ⟨N, R, B, C'⟩ σ H := s_if h (fun _ => q) (fun e' => by rw [e] at e'; cases e')
theorem s_ifF (h : Ans t σ H b) (e : b = false) (q : t2 ⟨N, R, B, C'⟩ σ H) : tIfS t t1 t2 ⟨N, R, B, C'⟩ σ H := s_if h (fun e' => by rw [e] at e'; cases e') (fun _ => q)
theorem s_ifF0 (h : Ans t σ H b) (e : b = false) (q : N σ H) : tIfS t t1 tNext ⟨N, R, B, C'⟩ σ H := s_ifF h e q
/-- a call as a statement; its value in a slot -/
theorem q_do {sp : Sp} {vs : List V} (h : ValA tl σ H vs) (hs : sp vs H (fun _ H' => tz ⟨N, R, B, C'⟩ σ H') E0) : tSeq (tDrop (tCall sp [] E0 tl)) tz ⟨N, R, B, C'⟩ σ H := h _ (show sp (vs ++ []) H _ E0 from by rw [List.append_nil]; exact hs)
theorem s_do {sp : Sp} {vs : List V} (h : ValA tl σ H vs) (hs : sp vs H (fun _ H' => N σ H') E0) : tDrop (tCall sp [] E0 tl) ⟨N, R, B, C'⟩ σ H := h _ (show sp (vs ++ []) H _ E0 from by rw [List.append_nil]; exact hs)
theorem q_setc {k : Nat} {sp : Sp} {vs : List V} (h : ValA tl σ H vs) (hs : sp vs H (fun v H' => tz ⟨N, R, B, C'⟩ (σ.set k (some v)) H') E0) : tSeq (tAsg (tCall sp [] E0 tl) (gName k)) tz ⟨N, R, B, C'⟩ σ H := h _ (show sp (vs ++ []) H _ E0 from by rw [List.append_nil]; exact hs)
theorem s_setc {k : Nat} {sp : Sp} {vs : List V} (h : ValA tl σ H vs) (hs : sp vs H (fun v H' => N (σ.set k (some v)) H') E0) : tAsg (tCall sp [] E0 tl) (gName k) ⟨N, R, B, C'⟩ σ H := h _ (show sp (vs ++ []) H _ E0 from by rw [List.append_nil]; exact hs)
theorem s_retc {sp : Sp} {vs : List V} (h : ValA tl σ H vs) (hs : sp vs H R E0) : tRet (tCall sp [] E0 tl) ⟨N, R, B, C'⟩ σ H := h _ (show sp (vs ++ []) H _ E0 from by rw [List.append_nil]; exact hs)
/-- new objects -/
theorem q_setL {k : Nat} {vs : List V} (h : ValA tl σ H vs) (hl : vs.length ≤ 100000) (q : ∀ p, H p = none → tz ⟨N, R, B, C'⟩ (σ.set k (some (.ref p))) (upd H p (.lst vs))) : tSeq (tAsg (tLst tl) (gName k)) tz ⟨N, R, B, C'⟩ σ H := h _ ⟨Nat.le_trans hl (by decide), fun p hp => q p hp⟩
theorem q_setT {k : Nat} {vs : List V} (h : ValA tl σ H vs) (hl : vs.length ≤ 100000) (q : ∀ p, H p = none → tz ⟨N, R, B, C'⟩ (σ.set k (some (.ref p))) (upd H p (.tup vs))) : tSeq (tAsg (tTup tl) (gName k)) tz ⟨N, R, B, C'⟩ σ H := h _ ⟨Nat.le_trans hl (by decide), fun p hp => q p hp⟩
theorem s_retT {vs : List V} (h : ValA tl σ H vs) (hl : vs.length ≤ 100000) (q : ∀ p, H p = none → R (.ref p) (upd H p (.tup vs))) : tRet (tTup tl) ⟨N, R, B, C'⟩ σ H := h _ ⟨Nat.le_trans hl (by decide), fun p hp => q p hp⟩
theorem s_retL {vs : List V} (h : ValA tl σ H vs) (hl : vs.length ≤ 100000) (q : ∀ p, H p = none → R (.ref p) (upd H p (.lst vs))) : tRet (tLst tl) ⟨N, R, B, C'⟩ σ H := h _ ⟨Nat.le_trans hl (by decide), fun p hp => q p hp⟩
end prelude
def rLenQ (K : PySem.W.Frag) : List V → Hp → VK → Prop := fun xs H Q => ∃ p ys, xs = [.ref p] ∧ (SqL K H p ys ∨ SqT K H p ys) ∧ Q (.int ys.length) H
/-! ### facts of the top, defs as they are called -/
structure Tx (K : PySem.W.Frag) (mg : Str → Option Value) : Prop where
  ex : ∃ h, K.In h ∧ h.Ns mainGlobals mg
  says : He.SaysD Hd.fa Hd.fn K
  more : Hd.exB K = true
section
variable {K : PySem.W.Frag} {mg : Str → Option Value}
theorem Tx.glo (T : Tx K mg) (i : Nat) {x : Str} (h : Hd.fa[i]? = some (.glo x) := by rfl) : mg x = some (.ref (He.ga K x)) := by
  obtain ⟨hp, X, G⟩ := T.ex
  exact He.glo_ok X G (T.says.fact i h)
theorem Tx.free (T : Tx K mg) (i : Nat) {x : Str} (h : Hd.fa[i]? = some (.free x) := by rfl) : mg x = none := by
  obtain ⟨hp, X, G⟩ := T.ex
  exact He.free_ok X G (T.says.fact i h)
theorem Tx.int (T : Tx K mg) (i : Nat) {x : Str} {z : Int} (h : Hd.fa[i]? = some (.int x z) := by rfl) : ∃ t, mg x = some (.int z t) := by
  obtain ⟨hp, X, G⟩ := T.ex
  exact He.int_ok X G (T.says.fact i h)
theorem Tx.cls (T : Tx K mg) (i : Nat) {x : Str} (h : Hd.fa[i]? = some (.cls x) := by rfl) : Cls K (He.ga K x) := He.cls_ok (T.says.fact i h)
theorem Tx.no (T : Tx K mg) (i : Nat) {x f : Str} (h : Hd.fa[i]? = some (.noat x f) := by rfl) : NoAttr K (He.ga K x) f := He.noat_ok (T.says.fact i h)
theorem Tx.mkr (T : Tx K mg) (i : Nat) {x : Str} (h : Hd.fa[i]? = some (.mkr x) := by rfl) : Mk K (He.ga K x) (He.ma K (He.ga K x) "__init__") := He.mkr_ok (T.says.fact i h)
end
/-- the def x as it may be called: by at most level k, its promise sp -/
structure Cal (P : Program) (w : World) (K : PySem.W.Frag) (mg : Str → Option Value) (base : Heap) (k : Nat) (x : Str) (ps : List Str) (sp : Sp) : Prop where
  ex : ∃ f fd, FnOk P w K mg base CX0 k f fd ps sp ∧ mg x = some (.ref f) ∧ PySem.W.keepIn K (.ref f) = true ∧ Binds K fd ps []
/-- a class x by its __init__ -/
structure CalC (P : Program) (w : World) (K : PySem.W.Frag) (mg : Str → Option Value) (base : Heap) (k : Nat) (x : Str) (ps : List Str) (sp : Sp) : Prop where
  ex : ∃ f fd, FnOk P w K mg base CX0 k f fd ps sp ∧ mg x = some (.ref (He.ga K x)) ∧ Mk K (He.ga K x) f ∧ Binds K fd ps []
section
variable {X : Cx} {x : Str} {ps : List Str} {sp : Sp} {k j : Nat} {e : Expr} {es : List Expr} {p pos : Pos} {t : TA}
theorem pe_cal (C : Cal X.prog X.w X.K X.mg X.base k x ps sp) (hr : Room j X.A) (hk : k ≤ j) (hg : Gl X x) (ha : PA X (e :: es) t) (hdb : (x == ("__debug__" : Str)) = false := by decide)
    (he : starEach (e :: es) X.env = (false, eval e X.env) :: starEach es X.env := by rfl) (hpl : (backTo pos (starEach es X.env)).any (·.1) = false := by rfl) : PE X (.Call (.Name x p) (e :: es) [] pos) (tCall sp [] E0 t) := by
  obtain ⟨f, fd, F, hm, hkp, hb⟩ := C.ex
  exact pe_call F (hr.mono hk) hg hm hkp hb .nil pass0 ha hdb he hpl
theorem pe_cal0 (C : Cal X.prog X.w X.K X.mg X.base k x ps sp) (hr : Room j X.A) (hk : k ≤ j) (hg : Gl X x) (hdb : (x == ("__debug__" : Str)) = false := by decide) : PE X (.Call (.Name x p) [] [] pos) (tCall sp [] E0 tNil) := by
  obtain ⟨f, fd, F, hm, hkp, hb⟩ := C.ex
  exact pe_call0 F (hr.mono hk) hg hm hkp hb .nil pass0 hdb
theorem pe_new (C : CalC X.prog X.w X.K X.mg X.base k x ps sp) (hr : Room j X.A) (hk : k + 1 ≤ j) (hg : Gl X x) (ha : PA X (e :: es) t) (hdb : (x == ("__debug__" : Str)) = false := by decide)
    (he : starEach (e :: es) X.env = (false, eval e X.env) :: starEach es X.env := by rfl) (hpl : (backTo pos (starEach es X.env)).any (·.1) = false := by rfl) : PE X (.Call (.Name x p) (e :: es) [] pos) (tMake (He.ga X.K x) sp [] E0 t) := by
  obtain ⟨f, fd, F, hm, M, hb⟩ := C.ex
  exact pe_make M F (hr.mono hk) hg hm hb .nil pass0 ha hdb he hpl
theorem pe_globI (hg : Gl X x) {z : Int} (h : ∃ t, X.mg x = some (.int z t)) (hdb : (x == ("__debug__" : Str)) = false := by decide) : PE X (.Name x p) (tC (.int z)) := by
  obtain ⟨t, e⟩ := h
  exact pe_glob hg e ⟨_, rfl⟩ hdb
end
theorem cal_mk {P : Program} {w : World} {K : PySem.W.Frag} {mg : Str → Option Value} {base : Heap} (T : Tx K mg) {k : Nat} {x : Str} {N ps : List Str} {st : Stmt} {sp : Sp} (i j : Nat)
    (hd : Hd.fn[i]? = some ⟨(x, none), x, x, defArgs st, defBody st, defScope st, [], []⟩) (hj : Hd.fa[j]? = some (.glo x)) (S : FnScope N ps (defScope st))
    (hb : ∀ (kV doc pm : Value) (an : Option Addr) (cdv ct : Value) (us : List Value), us.length = ps.length → bindArgs (PySem.W.fnOf x x (defArgs st) (defBody st) (defScope st) .none kV doc pm an cdv ct) ⟨us, []⟩ = pure (ps.zip us))
    (len : ∀ vs H Q E, sp vs H Q E → vs.length = ps.length)
    (body : ∀ (f : Addr) (cdv : Value) (A : Around) (outer : List Env) (s : Shared) (H : Hp) (vs : List V) (Q : VK) (E : XK), Room k (A.deeper (envOfC x (defScope st) s.heap.objs.size f cdv)) → sp vs H Q E →
      ∃ t, PSs (cxOf CX0 P w K mg base N x (defScope st) f cdv A outer s H E).nox (defBody st) t ∧ t { nx := fun _ H' => Q .non H', rt := Q } (start N vs) H) : Cal P w K mg base (k + 1) x ps sp := by
  obtain ⟨fd, F⟩ := T.says.def_ i hd
  refine ⟨_, fd, F.ok S len fun cdv A outer s H vs Q E hr h => ?_, T.glo j hj, F.kp, F.bindsN hb⟩
  obtain ⟨t, h1, h2⟩ := body _ cdv A outer s H vs Q E hr h
  exact ⟨t, h1.nox, h2⟩
theorem calC_mk {P : Program} {w : World} {K : PySem.W.Frag} {mg : Str → Option Value} {base : Heap} (T : Tx K mg) {k : Nat} {x q : Str} {N ps : List Str} {st : Stmt} {sp : Sp} (i j m : Nat)
    (hd : Hd.fn[i]? = some ⟨(x, some "__init__"), "__init__", q, defArgs st, defBody st, defScope st, [], []⟩) (hj : Hd.fa[j]? = some (.glo x)) (hm : Hd.fa[m]? = some (.mkr x)) (S : FnScope N ps (defScope st))
    (hb : ∀ (kV doc pm : Value) (an : Option Addr) (cdv ct : Value) (us : List Value), us.length = ps.length → bindArgs (PySem.W.fnOf "__init__" q (defArgs st) (defBody st) (defScope st) .none kV doc pm an cdv ct) ⟨us, []⟩ = pure (ps.zip us))
    (len : ∀ vs H Q E, sp vs H Q E → vs.length = ps.length)
    (body : ∀ (f : Addr) (cdv : Value) (A : Around) (outer : List Env) (s : Shared) (H : Hp) (vs : List V) (Q : VK) (E : XK), Room k (A.deeper (envOfC q (defScope st) s.heap.objs.size f cdv)) → sp vs H Q E →
      ∃ t, PSs (cxOf CX0 P w K mg base N q (defScope st) f cdv A outer s H E).nox (defBody st) t ∧ t { nx := fun _ H' => Q .non H', rt := Q } (start N vs) H) : CalC P w K mg base (k + 1) x ps sp := by
  obtain ⟨fd, F⟩ := T.says.def_ i hd
  refine ⟨_, fd, F.ok S len fun cdv A outer s H vs Q E hr h => ?_, T.glo j hj, T.mkr m hm, F.bindsN hb⟩
  obtain ⟨t, h1, h2⟩ := body _ cdv A outer s H vs Q E hr h
  exact ⟨t, h1.nox, h2⟩
/-! ### The machine: its mirror -/
structure Mc where
  cells : List Int
  total : Int
  mark : Int
  pc : Int
def getC (m : Mc) (i : Int) : Int := m.cells.getD i.toNat 0
def setC (m : Mc) (i v : Int) : Mc := { m with cells := m.cells.set i.toNat v }
def skipM (m : Mc) : Mc := { m with pc := (m.pc + 1) % 64 }
def addedM (m : Mc) (n : Int) : Mc := if 1024 ≤ m.total + n then { m with total := m.total + n - 1024, mark := 1 - m.mark } else { m with total := m.total + n }
def riseM (m : Mc) (i : Int) : Mc := setC m i ((getC m i + 1) % 1024)
def aimP (m : Mc) (far place : Int) : Mc := if far = 0 then m else if (decide (8 ≤ place) && decide (place < 12)) = true then riseM m place else m
def aimV (m : Mc) (far place : Int) : Int := if far = 0 then place else getC (aimP m far place) place % 64
def movedM (m : Mc) (kind place : Int) : Mc :=
  if kind = 0 then { m with total := Builtin.bitAnd m.total (getC m place) }
  else if kind = 1 then addedM m (getC m place)
  else if kind = 2 then (if getC (riseM m place) place = 0 then skipM (riseM m place) else riseM m place)
  else if kind = 3 then { setC m place m.total with total := 0 }
  else if kind = 4 then { setC m place m.pc with pc := (place + 1) % 64 }
  else { m with pc := place }
def rolled1 (m : Mc) (bits : Int) : Mc := if bits % 4 = 2 then { m with mark := m.total / 512, total := 2 * m.total % 1024 + m.mark } else m
def rolledM (m : Mc) (bits : Int) : Mc := if bits % 4 = 1 then { rolled1 m bits with mark := (rolled1 m bits).total % 2, total := (rolled1 m bits).total / 2 + 512 * m.mark } else rolled1 m bits
def chg1 (m : Mc) (bits : Int) : Mc := if bits / 32 = 1 then { m with total := 0 } else m
def chg2 (m : Mc) (bits : Int) : Mc := if bits / 16 % 2 = 1 then { m with total := 1023 - m.total } else m
def chg3 (m : Mc) (bits : Int) : Mc := if bits / 8 % 2 = 1 then { m with mark := 1 - m.mark } else m
def chg4 (m : Mc) (bits : Int) : Mc := if bits / 4 % 2 = 1 then addedM m 1 else m
def changedM (m : Mc) (bits : Int) : Mc := rolledM (chg4 (chg3 (chg2 (chg1 m bits) bits) bits) bits) bits
def foundM (m : Mc) (bits : Int) : Bool := (decide (bits / 32 = 1) && decide (512 ≤ m.total)) || (decide (bits / 16 % 2 = 1) && decide (m.total = 0)) || (decide (bits / 8 % 2 = 1) && decide (m.mark = 1))
def tst1 (m : Mc) (bits : Int) : Mc := if (!(foundM m bits == decide (bits / 4 % 2 = 1))) = true then skipM m else m
def tst2 (m : Mc) (bits : Int) : Mc := if bits / 2 % 2 = 1 then { m with total := 0 } else m
def tst3 (m : Mc) (bits : Int) : Mc := if bits % 2 = 1 then { m with mark := 0 } else m
def testedM (m : Mc) (bits : Int) : Mc := tst3 (tst2 (tst1 m bits) bits) bits
def deedM (m : Mc) : Mc :=
  let n := getC m m.pc
  let m1 := skipM m
  if n / 128 < 6 then movedM (aimP m1 (n / 64 % 2) (n % 64)) (n / 128) (aimV m1 (n / 64 % 2) (n % 64))
  else if n / 128 = 6 then m1
  else if n / 64 % 2 = 0 then changedM m1 (n % 64) else testedM m1 (n % 64)
def deedV (m : Mc) : V := if getC m m.pc / 128 = 6 then .int (getC m m.pc % 64) else .non
/-- what the walk needs: 64 cells, the at a place -/
structure Wm (m : Mc) : Prop where
  len : m.cells.length = 64
  lo : 0 ≤ m.pc
  hi : m.pc < 64
/-- words everywhere -/
structure WfM (m : Mc) : Prop extends Wm m where
  cell : ∀ c ∈ m.cells, 0 ≤ c ∧ c < 1024
  tlo : 0 ≤ m.total
  thi : m.total < 1024
  bit : m.mark = 0 ∨ m.mark = 1
/-! ### The machine in the heap -/
def mfs (l : Addr) (m : Mc) : List (Str × V) := [("cells", .ref l), ("total", .int m.total), ("mark", .int m.mark), ("at", .int m.pc)]
def mput (C : Addr) (H : Hp) (p dx l : Addr) (m : Mc) : Hp := upd (upd H l (.lst (m.cells.map V.int))) p (.ins C dx (mfs l m))
structure MTx (K : PySem.W.Frag) (C : Addr) : Prop where
  cl : Cls K C
  nCells : NoAttr K C "cells"
  nTotal : NoAttr K C "total"
  nMark : NoAttr K C "mark"
  nAt : NoAttr K C "at"
section
variable {K : PySem.W.Frag} {C : Addr} {H : Hp} {p dx l a : Addr} {m m' : Mc} {σ : L2.St} {ta tv ti : TE} {N : L2.St → Hp → Prop} {R : VK} {B C' : L2.St → Hp → Prop} {tz : TS} {z i : Int}
theorem mput_p : mput C H p dx l m p = some (.ins C dx (mfs l m)) := upd_same
theorem mput_l (h : l ≠ p) : mput C H p dx l m l = some (.lst (m.cells.map V.int)) := by unfold mput; rw [upd_ne h, upd_same]
theorem mput_ne (h1 : a ≠ p) (h2 : a ≠ l) : mput C H p dx l m a = H a := by unfold mput; rw [upd_ne h1, upd_ne h2]
theorem mput_mput : mput C (mput C H p dx l m) p dx l m' = mput C H p dx l m' := by
  funext b; unfold mput upd
  by_cases h1 : b = p <;> by_cases h2 : b = l <;> simp [h1, h2]
theorem mput_id (h1 : H p = some (.ins C dx (mfs l m))) (h2 : H l = some (.lst (m.cells.map V.int))) : mput C H p dx l m = H := by
  funext b; unfold mput upd
  by_cases e1 : b = p
  · subst e1; rw [if_pos rfl, h1]
  · rw [if_neg e1]
    by_cases e2 : b = l
    · subst e2; rw [if_pos rfl, h2]
    · rw [if_neg e2]
theorem mput_ins (h : m'.cells = m.cells) : upd (mput C H p dx l m) p (.ins C dx (mfs l m')) = mput C H p dx l m' := by
  unfold mput; rw [h, upd_upd]
theorem mput_lst (h : l ≠ p) {cs : List Int} : upd (mput C H p dx l m) l (.lst (cs.map V.int)) = mput C H p dx l { m with cells := cs } := by
  funext b; unfold mput upd
  by_cases h2 : b = l
  · subst h2; rw [if_pos rfl, if_neg h, if_pos rfl]
  · rw [if_neg h2]
    by_cases h1 : b = p
    · rw [if_pos h1, if_pos h1]; rfl
    · rw [if_neg h1, if_neg h2, if_neg h1, if_neg h2]
theorem mput_new {o : HO} {q : Addr} (hq : mput C H p dx l m q = none) : upd (mput C H p dx l m) q o = mput C (upd H q o) p dx l m ∧ H q = none := by
  have n1 : q ≠ p := fun e => by subst e; rw [mput_p] at hq; cases hq
  have n2 : q ≠ l := fun e => by
    subst e
    unfold mput at hq
    rw [upd_ne n1, upd_same] at hq
    cases hq
  refine ⟨?_, by rwa [mput_ne n1 n2] at hq⟩
  funext b; unfold mput upd
  by_cases h1 : b = q
  · subst h1; simp [n1, n2]
  · simp [h1]
theorem mput_same {H' : Hp} (h : Same H H') : Same (mput C H p dx l m) (mput C H' p dx l m) := fun b o e => by
  unfold mput upd at *
  by_cases h1 : b = p
  · simpa [h1] using e
  · by_cases h2 : b = l
    · simpa [h1, h2] using e
    · simp [h1, h2] at *; exact h b o e
theorem mf_cells : (mfs l m).lookup ("cells" : Str) = some (V.ref l) := by kernel_rfl
theorem mf_total : (mfs l m).lookup ("total" : Str) = some (V.int m.total) := by kernel_rfl
theorem mf_mark : (mfs l m).lookup ("mark" : Str) = some (V.int m.mark) := by kernel_rfl
theorem mf_at : (mfs l m).lookup ("at" : Str) = some (V.int m.pc) := by kernel_rfl
theorem mq_total : putF "total" (.int z) (mfs l m) = mfs l { m with total := z } := by kernel_rfl
theorem mq_mark : putF "mark" (.int z) (mfs l m) = mfs l { m with mark := z } := by kernel_rfl
theorem mq_at : putF "at" (.int z) (mfs l m) = mfs l { m with pc := z } := by kernel_rfl
theorem mq_cells : putF "cells" (.ref a) (mfs l m) = mfs a m := by kernel_rfl
theorem vm_cells (M : MTx K C) (h : Val ta σ (mput C H p dx l m) (.ref p)) : Val (tFld K ta "cells") σ (mput C H p dx l m) (.ref l) := val_fld h mput_p M.cl M.nCells mf_cells
theorem vm_total (M : MTx K C) (h : Val ta σ (mput C H p dx l m) (.ref p)) : Val (tFld K ta "total") σ (mput C H p dx l m) (.int m.total) := val_fld h mput_p M.cl M.nTotal mf_total
theorem vm_mark (M : MTx K C) (h : Val ta σ (mput C H p dx l m) (.ref p)) : Val (tFld K ta "mark") σ (mput C H p dx l m) (.int m.mark) := val_fld h mput_p M.cl M.nMark mf_mark
theorem vm_at (M : MTx K C) (h : Val ta σ (mput C H p dx l m) (.ref p)) : Val (tFld K ta "at") σ (mput C H p dx l m) (.int m.pc) := val_fld h mput_p M.cl M.nAt mf_at
theorem vm_item (M : MTx K C) (hne : l ≠ p) (h : Val ta σ (mput C H p dx l m) (.ref p)) (hi : Val ti σ (mput C H p dx l m) (.int i)) (h0 : 0 ≤ i) (h1 : i < (m.cells.length : Int)) : Val (tOp (rIxL K) (tFld K ta "cells") ti) σ (mput C H p dx l m) (.int (getC m i)) :=
  v_ixLI (vm_cells M h) hi (SqL.of (mput_l hne)) h0 h1
theorem sm_total (M : MTx K C) (hv : Val tv σ (mput C H p dx l m) (.int z)) (ha : Val ta σ (mput C H p dx l m) (.ref p)) (q : N σ (mput C H p dx l { m with total := z })) : sFld K ta tv "total" ⟨N, R, B, C'⟩ σ (mput C H p dx l m) :=
  st_fld hv ha mput_p M.cl M.nTotal (by show 4 < 1000; decide) (by rw [mq_total, mput_ins (m := m) (m' := { m with total := z }) rfl]; exact q)
theorem sm_mark (M : MTx K C) (hv : Val tv σ (mput C H p dx l m) (.int z)) (ha : Val ta σ (mput C H p dx l m) (.ref p)) (q : N σ (mput C H p dx l { m with mark := z })) : sFld K ta tv "mark" ⟨N, R, B, C'⟩ σ (mput C H p dx l m) :=
  st_fld hv ha mput_p M.cl M.nMark (by show 4 < 1000; decide) (by rw [mq_mark, mput_ins (m := m) (m' := { m with mark := z }) rfl]; exact q)
theorem sm_at (M : MTx K C) (hv : Val tv σ (mput C H p dx l m) (.int z)) (ha : Val ta σ (mput C H p dx l m) (.ref p)) (q : N σ (mput C H p dx l { m with pc := z })) : sFld K ta tv "at" ⟨N, R, B, C'⟩ σ (mput C H p dx l m) :=
  st_fld hv ha mput_p M.cl M.nAt (by show 4 < 1000; decide) (by rw [mq_at, mput_ins (m := m) (m' := { m with pc := z }) rfl]; exact q)
theorem ixN_int {n : Nat} (h0 : 0 ≤ i) (h1 : i < (n : Int)) : ixN n i = some i.toNat := by
  unfold ixN; rw [if_pos h0, if_pos h1]
theorem sm_item (M : MTx K C) (hne : l ≠ p) (hv : Val tv σ (mput C H p dx l m) (.int z)) (ha : Val ta σ (mput C H p dx l m) (.ref p)) (hi : Val ti σ (mput C H p dx l m) (.int i)) (h0 : 0 ≤ i) (h1 : i < (m.cells.length : Int))
    (q : N σ (mput C H p dx l (setC m i z))) : tAsg tv (gSub (tFld K ta "cells") ti rSetL) ⟨N, R, B, C'⟩ σ (mput C H p dx l m) :=
  hv _ (vm_cells M ha _ (hi _ ⟨l, _, i, i.toNat, rfl, rfl, mput_l hne, ixN_int h0 (by rw [List.length_map]; exact h1), by
    rw [← List.map_set, mput_lst hne]; exact q⟩))
theorem qm_total (M : MTx K C) (hv : Val tv σ (mput C H p dx l m) (.int z)) (ha : Val ta σ (mput C H p dx l m) (.ref p)) (q : tz ⟨N, R, B, C'⟩ σ (mput C H p dx l { m with total := z })) : tSeq (sFld K ta tv "total") tz ⟨N, R, B, C'⟩ σ (mput C H p dx l m) := sm_total (N := tz ⟨N, R, B, C'⟩) (R := R) (B := B) (C' := C') M hv ha q
theorem qm_mark (M : MTx K C) (hv : Val tv σ (mput C H p dx l m) (.int z)) (ha : Val ta σ (mput C H p dx l m) (.ref p)) (q : tz ⟨N, R, B, C'⟩ σ (mput C H p dx l { m with mark := z })) : tSeq (sFld K ta tv "mark") tz ⟨N, R, B, C'⟩ σ (mput C H p dx l m) := sm_mark (N := tz ⟨N, R, B, C'⟩) (R := R) (B := B) (C' := C') M hv ha q
theorem qm_at (M : MTx K C) (hv : Val tv σ (mput C H p dx l m) (.int z)) (ha : Val ta σ (mput C H p dx l m) (.ref p)) (q : tz ⟨N, R, B, C'⟩ σ (mput C H p dx l { m with pc := z })) : tSeq (sFld K ta tv "at") tz ⟨N, R, B, C'⟩ σ (mput C H p dx l m) := sm_at (N := tz ⟨N, R, B, C'⟩) (R := R) (B := B) (C' := C') M hv ha q
theorem qm_item (M : MTx K C) (hne : l ≠ p) (hv : Val tv σ (mput C H p dx l m) (.int z)) (ha : Val ta σ (mput C H p dx l m) (.ref p)) (hi : Val ti σ (mput C H p dx l m) (.int i)) (h0 : 0 ≤ i) (h1 : i < (m.cells.length : Int))
    (q : tz ⟨N, R, B, C'⟩ σ (mput C H p dx l (setC m i z))) : tSeq (tAsg tv (gSub (tFld K ta "cells") ti rSetL)) tz ⟨N, R, B, C'⟩ σ (mput C H p dx l m) := sm_item (N := tz ⟨N, R, B, C'⟩) (R := R) (B := B) (C' := C') M hne hv ha hi h0 h1 q
end
theorem not_dec {p : Prop} [Decidable p] {b : Bool} : ((!decide p) = b) = (decide p = !b) := by cases b <;> simp
theorem q_cutH {σ : L2.St} {H H1 : Hp} {N : L2.St → Hp → Prop} {R : VK} {B C' : L2.St → Hp → Prop} {t1 tz : TS} (h : t1 ⟨fun σ' H' => σ' = σ ∧ H' = H1, R, B, C'⟩ σ H) (k : tz ⟨N, R, B, C'⟩ σ H1) : C8.tCut t1 tz ⟨N, R, B, C'⟩ σ H := ⟨_, h, by rintro _ _ ⟨rfl, rfl⟩; exact k⟩
/-! promises of the machine's defs: on the machine at p with its cells at l, in the heap H0 else -/
def spParts : Sp := fun vs H Q _ => ∃ n : Int, vs = [.int n] ∧ ∀ p, H p = none → Q (.ref p) (upd H p (.tup [.int (n / 128), .int (n / 64 % 2), .int (n % 64)]))
def spSkip (C : Addr) : Sp := fun vs H Q _ => ∃ (H0 : Hp) (p dx l : Addr) (m : Mc), vs = [.ref p] ∧ H = mput C H0 p dx l m ∧ Q .non (mput C H0 p dx l (skipM m))
def spAdded (C : Addr) : Sp := fun vs H Q _ => ∃ (H0 : Hp) (p dx l : Addr) (m : Mc) (n : Int), vs = [.ref p, .int n] ∧ H = mput C H0 p dx l m ∧ Q .non (mput C H0 p dx l (addedM m n))
def spAim (C : Addr) : Sp := fun vs H Q _ => ∃ (H0 : Hp) (p dx l : Addr) (m : Mc) (far place : Int), vs = [.ref p, .int far, .int place] ∧ l ≠ p ∧ m.cells.length = 64 ∧ 0 ≤ place ∧ place < 64 ∧ H = mput C H0 p dx l m ∧ Q (.int (aimV m far place)) (mput C H0 p dx l (aimP m far place))
def spMoved (C : Addr) : Sp := fun vs H Q _ => ∃ (H0 : Hp) (p dx l : Addr) (m : Mc) (kind place : Int), vs = [.ref p, .int kind, .int place] ∧ l ≠ p ∧ m.cells.length = 64 ∧ 0 ≤ place ∧ place < 64 ∧ H = mput C H0 p dx l m ∧ Q .non (mput C H0 p dx l (movedM m kind place))
def spBits (C : Addr) (f : Mc → Int → Mc) : Sp := fun vs H Q _ => ∃ (H0 : Hp) (p dx l : Addr) (m : Mc) (bits : Int), vs = [.ref p, .int bits] ∧ H = mput C H0 p dx l m ∧ Q .non (mput C H0 p dx l (f m bits))
def spDeed (C : Addr) : Sp := fun vs H Q _ => ∃ (H0 : Hp) (p dx l : Addr) (m : Mc), vs = [.ref p] ∧ l ≠ p ∧ Wm m ∧ H = mput C H0 p dx l m ∧ ∀ H1, Same H0 H1 → Q (deedV m) (mput C H1 p dx l (deedM m))
def spMachine (K : PySem.W.Frag) (C : Addr) : Sp := fun vs H Q _ => ∃ (x dx a : Addr) (cs : List Int) (t mk pc : Int), vs = [.ref x, .ref a, .int t, .int mk, .int pc] ∧ H x = some (.ins C dx []) ∧ (SqL K H a (cs.map V.int) ∨ SqT K H a (cs.map V.int)) ∧ ∀ l, H l = none → Q .non (mput C H x dx l ⟨cs, t, mk, pc⟩)
theorem aimP_len {m : Mc} {f p : Int} : (aimP m f p).cells.length = m.cells.length := by
  unfold aimP riseM setC; split <;> (try split) <;> simp
theorem aimV_lo {m : Mc} {f p : Int} (h : 0 ≤ p) : 0 ≤ aimV m f p := by unfold aimV; split <;> omega
theorem aimV_hi {m : Mc} {f p : Int} (h : p < 64) : aimV m f p < 64 := by unfold aimV; split <;> omega
theorem getC_at {m : Mc} {i : Int} (h0 : 0 ≤ i) (h1 : i < (m.cells.length : Int)) {v : Int} : getC (setC m i v) i = v := by
  unfold getC setC
  have : i.toNat < m.cells.length := by omega
  simp [List.getD_eq_getElem?_getD, this]
theorem skip_len {m : Mc} : (skipM m).cells.length = m.cells.length := rfl
theorem setC_setC {m : Mc} {i v w : Int} : setC (setC m i v) i w = setC m i w := by unfold setC; simp
/-! ### exact new objects -/
section
variable {σ : L2.St} {H : Hp} {K : PySem.W.Frag} {a : Addr} {te ta tb tl : TE} {v x y : V} {N : L2.St → Hp → Prop} {R : VK} {B C' : L2.St → Hp → Prop} {tz : TS} {tA : TA} {xs ys vs : List V} {n : Int} {i j : Int}
/-- a new list of xs, else the heap as it is -/
def NewL (te : TE) (σ : L2.St) (H : Hp) (xs : List V) : Prop := ∀ Q : VK, (∀ D, H D = none → Q (.ref D) (upd H D (.lst xs))) → te σ H Q
def NewT (te : TE) (σ : L2.St) (H : Hp) (xs : List V) : Prop := ∀ Q : VK, (∀ D, H D = none → Q (.ref D) (upd H D (.tup xs))) → te σ H Q
theorem q_setN {k : Nat} (h : NewL te σ H xs) (q : ∀ D', H D' = none → tz ⟨N, R, B, C'⟩ (σ.set k (some (.ref D'))) (upd H D' (.lst xs))) : tSeq (tAsg te (gName k)) tz ⟨N, R, B, C'⟩ σ H := h _ q
theorem q_setNT {k : Nat} (h : NewT te σ H xs) (q : ∀ D', H D' = none → tz ⟨N, R, B, C'⟩ (σ.set k (some (.ref D'))) (upd H D' (.tup xs))) : tSeq (tAsg te (gName k)) tz ⟨N, R, B, C'⟩ σ H := h _ q
theorem s_retN (h : NewL te σ H xs) (q : ∀ D', H D' = none → R (.ref D') (upd H D' (.lst xs))) : tRet te ⟨N, R, B, C'⟩ σ H := h _ q
theorem s_retNT (h : NewT te σ H xs) (q : ∀ D', H D' = none → R (.ref D') (upd H D' (.tup xs))) : tRet te ⟨N, R, B, C'⟩ σ H := h _ q
theorem x_ret (h : te σ H R) : tRet te ⟨N, R, B, C'⟩ σ H := h
theorem qx_set {k : Nat} (h : te σ H fun x H1 => tz ⟨N, R, B, C'⟩ (σ.set k (some x)) H1) : tSeq (tAsg te (gName k)) tz ⟨N, R, B, C'⟩ σ H := h
theorem sx_set {k : Nat} (h : te σ H fun x H1 => N (σ.set k (some x)) H1) : tAsg te (gName k) ⟨N, R, B, C'⟩ σ H := h
theorem qx_asg {g : TG} (h : te σ H fun x H1 => g x σ H1 (tz ⟨N, R, B, C'⟩)) : tSeq (tAsg te g) tz ⟨N, R, B, C'⟩ σ H := h
theorem sx_asg {g : TG} (h : te σ H fun x H1 => g x σ H1 N) : tAsg te g ⟨N, R, B, C'⟩ σ H := h
theorem qx_if {t : TT} {t1 t2 : TS} (h : t σ H fun b H1 => if b = true then t1 ⟨tz ⟨N, R, B, C'⟩, R, B, C'⟩ σ H1 else t2 ⟨tz ⟨N, R, B, C'⟩, R, B, C'⟩ σ H1) : tSeq (tIfS t t1 t2) tz ⟨N, R, B, C'⟩ σ H := h
theorem sx_if {t : TT} {t1 t2 : TS} (h : t σ H fun b H1 => if b = true then t1 ⟨N, R, B, C'⟩ σ H1 else t2 ⟨N, R, B, C'⟩ σ H1) : tIfS t t1 t2 ⟨N, R, B, C'⟩ σ H := h
theorem x_or {t u : TT} {Q : Bool → Hp → Prop} (h : t σ H fun c H1 => if c = true then Q true H1 else u σ H1 Q) : tOr t u σ H Q := h
theorem x_and {t u : TT} {Q : Bool → Hp → Prop} (h : t σ H fun c H1 => if c = true then u σ H1 Q else Q false H1) : tAnd t u σ H Q := h
theorem x_not {t : TT} {Q : Bool → Hp → Prop} (h : t σ H fun c H1 => Q (!c) H1) : tNot t σ H Q := h
theorem x_test {Q : Bool → Hp → Prop} (h : te σ H fun x H1 => ∃ k, x = .bl k ∧ Q k H1) : tTest te σ H Q := h
theorem x_ans {t : TT} {b : Bool} {Q : Bool → Hp → Prop} (h : Ans t σ H b) (q : Q b H) : t σ H Q := h _ q
theorem x_andV {Q : VK} (h : ta σ H fun x H1 => ∃ c, x = .bl c ∧ if c = true then tb σ H1 Q else Q (.bl false) H1) : tAndV ta tb σ H Q := h
theorem x_call {sp : Sp} {Q : VK} (h : ValA tA σ H vs) (hs : sp vs H Q E0) : tCall sp [] E0 tA σ H Q := h _ (show sp (vs ++ []) H Q E0 from by rw [List.append_nil]; exact hs)
theorem x_op {r : R2} {Q : VK} (h : ta σ H fun x H1 => tb σ H1 fun y H2 => r x y H2 Q) : tOp r ta tb σ H Q := h
theorem x_L {Q : VK} (h : NewL te σ H xs) (q : ∀ D, H D = none → Q (.ref D) (upd H D (.lst xs))) : te σ H Q := h _ q
theorem x_T {Q : VK} (h : NewT te σ H xs) (q : ∀ D, H D = none → Q (.ref D) (upd H D (.tup xs))) : te σ H Q := h _ q
theorem x_v {Q : VK} (h : Val te σ H v) (q : Q v H) : te σ H Q := h _ q
theorem nl_disp (h : ValA tA σ H xs) (hl : xs.length ≤ 100000 := by simp) : NewL (tLst tA) σ H xs := fun _ q => h _ ⟨Nat.le_trans hl (by decide), q⟩
theorem nt_disp (h : ValA tA σ H xs) (hl : xs.length ≤ 100000 := by simp) : NewT (tTup tA) σ H xs := fun _ q => h _ ⟨Nat.le_trans hl (by decide), q⟩
def rListS (K : PySem.W.Frag) : List V → Hp → VK → Prop := fun xs H Q => ∃ p ys, xs = [.ref p] ∧ (SqL K H p ys ∨ SqT K H p ys) ∧ ∀ l, H l = none → Q (.ref l) (upd H l (.lst ys))
theorem nl_list (h : Val ta σ H (.ref a)) (hs : SqL K H a xs ∨ SqT K H a xs) : NewL (tCB (rListS K) (tCons ta tNil)) σ H xs := fun _ q => h _ ⟨a, xs, rfl, hs, q⟩
theorem nl_call {sp : Sp} (h : ValA tA σ H vs) (hs : ∀ Q : VK, (∀ D, H D = none → Q (.ref D) (upd H D (.lst xs))) → sp vs H Q E0) : NewL (tCall sp [] E0 tA) σ H xs := fun Q q => h _ (show sp (vs ++ []) H Q E0 from by rw [List.append_nil]; exact hs Q q)
theorem nt_call {sp : Sp} (h : ValA tA σ H vs) (hs : ∀ Q : VK, (∀ D, H D = none → Q (.ref D) (upd H D (.tup xs))) → sp vs H Q E0) : NewT (tCall sp [] E0 tA) σ H xs := fun Q q => h _ (show sp (vs ++ []) H Q E0 from by rw [List.append_nil]; exact hs Q q)
theorem nl_slice {lo hi : Option Int} {tlo thi : TO} (h : Val ta σ H (.ref a)) (hs : SqL K H a xs) (h1 : ∀ Q : Option Int → Hp → Prop, Q lo H → tlo σ H Q) (h2 : ∀ Q : Option Int → Hp → Prop, Q hi H → thi σ H Q) : NewL (tSl (rSlL K) ta tlo thi) σ H (cutV xs lo hi) :=
  fun Q q => h _ (h1 _ (h2 _ ⟨a, xs, rfl, hs, q⟩))
theorem o_none : ∀ Q : Option Int → Hp → Prop, Q none H → tNoPart σ H Q := fun _ q => q
theorem o_some (h : Val te σ H (.int i)) : ∀ Q : Option Int → Hp → Prop, Q (some i) H → tPart te σ H Q := fun _ q => h _ ⟨_, rfl, q⟩
/-- [e for k in range(n)], e leaving the heap -/
theorem nl_lcR {k : Nat} {ws : List Nat} (f : Nat → V) (h : ValA tA σ H [.int n]) (hn : 0 ≤ n ∧ n ≤ 100000) (hw : ∀ x, wipe ((wipe σ ws).set k (some x)) ws = wipe σ ws)
    (he : ∀ (m : Nat) (D : Addr) (acc : List V), H D = none → (m : Int) < n → Val te ((wipe σ ws).set k (some (.int (m : Int)))) (upd H D (.lst acc)) (f m)) : NewL (tLc (iRng1 tA) (gName k) tYes te ws) σ H ((List.range n.toNat).map f) := fun Q q =>
  h _ ⟨n, rfl, by omega, by omega, fun D hD => lc_range (lo := 0) (n := n.toNat) (fun m H' => H' = upd H D (.lst ((List.range m).map f))) rfl (fun m H' hm e => by
    subst e
    have e0 : (0 : Int) + (m : Int) = (m : Int) := Int.zero_add _
    rw [e0]
    refine ⟨hw _, ?_⟩
    unfold tYes
    dsimp only
    rw [if_pos rfl]
    refine he m D _ hD (by omega) _ ⟨_, upd_same, ?_, ?_⟩
    · rw [List.length_map, List.length_range]
      exact Nat.lt_of_lt_of_le (show m < 100000 by omega) (by decide)
    · rw [upd_upd, List.range_succ, List.map_append]; rfl) (fun H' e => by rw [e]; exact q D hD)⟩
/-- [e for x in xs], e leaving the heap -/
theorem nl_lcL {k : Nat} {ws : List Nat} (f : V → V) (h : Val tl σ H (.ref a)) (hs : ∀ (D : Addr) (acc : List V), H D = none → SqL K (upd H D (.lst acc)) a xs) (hn : xs.length ≤ 100000) (hw : ∀ x, wipe ((wipe σ ws).set k (some x)) ws = wipe σ ws) (hs0 : SqL K H a xs)
    (he : ∀ (m : Nat) (x : V) (D : Addr) (acc : List V), H D = none → xs[m]? = some x → Val te ((wipe σ ws).set k (some x)) (upd H D (.lst acc)) (f x)) : NewL (tLc (iList K tl) (gName k) tYes te ws) σ H (xs.map f) := fun Q q =>
  h _ ⟨a, rfl, ⟨xs, hs0⟩, fun D hD => lc_list (xs := xs) (fun m H' => H' = upd H D (.lst ((xs.take m).map f))) rfl (fun m H' _ e => by rw [e]; exact hs D _ hD) (fun m x H' hm e => by
    subst e
    have hlt : m < xs.length := (List.getElem?_eq_some_iff.mp hm).1
    refine ⟨hw _, ?_⟩
    unfold tYes
    dsimp only
    rw [if_pos rfl]
    refine he m x D _ hD hm _ ⟨_, upd_same, ?_, ?_⟩
    · rw [List.length_map, List.length_take]
      exact Nat.lt_of_lt_of_le (show min m xs.length < 100000 by omega) (by decide)
    · rw [upd_upd, List.take_add_one, hm, List.map_append]; rfl) (fun H' e => by rw [e, List.take_length]; exact q D hD)⟩
end
/-! ### what lies unchanged behind new objects -/
theorem smN {H : Hp} {p : Addr} {o : HO} (h : H p = none) : Same H (upd H p o) := fun b u e => by rw [upd_ne (ne_of_none e h)]; exact e
theorem smM {H H' : Hp} {p : Addr} {o : HO} (e : Same H H') (h : H p = none) : Same H (upd H' p o) := fun b u q => by rw [upd_ne (ne_of_none q h)]; exact e b u q
theorem smP {C : Addr} {H H' : Hp} {p dx l : Addr} {m : Mc} (e : Same H H') (h1 : H p = none) (h2 : H l = none) : Same H (mput C H' p dx l m) := fun b u q => by rw [mput_ne (ne_of_none q h1) (ne_of_none q h2)]; exact e b u q
theorem smT {K : PySem.W.Frag} {H H' : Hp} {a : Addr} {xs : List V} (e : Same H H') (h : SqT K H a xs) : SqT K H' a xs := by
  rcases h with (h | ⟨o, h⟩) | h
  · exact .inl (.inl (e _ _ h))
  · exact .inl (.inr ⟨o, e _ _ h⟩)
  · exact .inr h
/-! ### data compared -/
theorem dpAll_ints {K : PySem.W.Frag} {H : Hp} : ∀ ns : List Int, DpAll K H (ns.map V.int) (ns.map PyData.int)
  | [] => .nil
  | n :: r => .cons (.int n) (dpAll_ints r)
theorem dp_intsL {K : PySem.W.Frag} {H : Hp} {a : Addr} {ns : List Int} (h : SqL K H a (ns.map V.int)) : Dp K H (.ref a) (.list (ns.map PyData.int)) := .lst h (dpAll_ints ns)
theorem dp_intsT {K : PySem.W.Frag} {H : Hp} {a : Addr} {ns : List Int} (h : SqT K H a (ns.map V.int)) : Dp K H (.ref a) (.tuple (ns.map PyData.int)) := .tup h (dpAll_ints ns)
theorem canLay_ints : ∀ ns : List Int, PyData.canLayAll0 (ns.map PyData.int) = true
  | [] => rfl
  | n :: r => by rw [List.map_cons, PyData.canLayAll0, PyData.canLay0, canLay_ints r]; rfl
theorem depth_ints : ∀ ns : List Int, PyData.depthAll (ns.map PyData.int) = 0
  | [] => rfl
  | n :: r => by rw [List.map_cons, PyData.depthAll, PyData.depth, depth_ints r]; rfl
theorem shaped_intsL (ns : List Int) : SeqAt.shaped (.list (ns.map PyData.int)) = true := by
  unfold SeqAt.shaped
  rw [PyData.canLay0, canLay_ints, PyData.depth, depth_ints]; rfl
theorem shaped_intsT (ns : List Int) : SeqAt.shaped (.tuple (ns.map PyData.int)) = true := by
  unfold SeqAt.shaped
  rw [PyData.canLay0, canLay_ints, PyData.depth, depth_ints]; rfl
theorem eqvAll_ints : ∀ ns ms : List Int, PyData.eqvAll (ns.map PyData.int) (ms.map PyData.int) = decide (ns = ms)
  | [], [] => rfl
  | [], m :: ms => rfl
  | n :: ns, [] => rfl
  | n :: ns, m :: ms => by
    rw [List.map_cons, List.map_cons, PyData.eqvAll, PyData.eqv, eqvAll_ints ns ms]
    by_cases h : n = m <;> by_cases h2 : ns = ms <;> simp [h, h2]
theorem eqv_intsL (ns ms : List Int) : PyData.eqv (.list (ns.map PyData.int)) (.list (ms.map PyData.int)) = decide (ns = ms) := by rw [PyData.eqv, eqvAll_ints]
theorem eqv_intsT (ns ms : List Int) : PyData.eqv (.tuple (ns.map PyData.int)) (.tuple (ms.map PyData.int)) = decide (ns = ms) := by rw [PyData.eqv, eqvAll_ints]
section
variable {σ : L2.St} {H : Hp} {K : PySem.W.Frag} {a b : Addr} {ta tb : TE} {x y : V} {d e : PyData} {ns ms : List Int}
theorem v_eqD (ha : Val ta σ H x) (hb : Val tb σ H y) (hd : Dp K H x d) (he : Dp K H y e) (sd : SeqAt.shaped d = true) (se : SeqAt.shaped e = true) : Val (tOp (rEqD K) ta tb) σ H (.bl (PyData.eqv d e)) := val_op ha hb fun _ q => ⟨d, e, hd, he, sd, se, q⟩
theorem v_neD (ha : Val ta σ H x) (hb : Val tb σ H y) (hd : Dp K H x d) (he : Dp K H y e) (sd : SeqAt.shaped d = true) (se : SeqAt.shaped e = true) : Val (tOp (rNeD K) ta tb) σ H (.bl (!PyData.eqv d e)) := val_op ha hb fun _ q => ⟨d, e, hd, he, sd, se, q⟩
theorem v_eqL (ha : Val ta σ H (.ref a)) (hb : Val tb σ H (.ref b)) (h1 : SqL K H a (ns.map V.int)) (h2 : SqL K H b (ms.map V.int)) : Val (tOp (rEqD K) ta tb) σ H (.bl (decide (ns = ms))) := by
  rw [← eqv_intsL]; exact v_eqD ha hb (dp_intsL h1) (dp_intsL h2) (shaped_intsL _) (shaped_intsL _)
theorem v_neL (ha : Val ta σ H (.ref a)) (hb : Val tb σ H (.ref b)) (h1 : SqL K H a (ns.map V.int)) (h2 : SqL K H b (ms.map V.int)) : Val (tOp (rNeD K) ta tb) σ H (.bl (!decide (ns = ms))) := by
  rw [← eqv_intsL]; exact v_neD ha hb (dp_intsL h1) (dp_intsL h2) (shaped_intsL _) (shaped_intsL _)
end
/-! ### the laws' readers -/
def cellAt (ns : List Int) (k : Int) : Int := ns.getD k.toNat 0
def mixV (c p m : Int) : Int := c * 48271 % p % m
def fillV (c most : Int) : List Int := (List.range 64).map fun (k : Nat) => mixV (c + 977 * (k : Int)) 10007 most
theorem mixV_lo {c p m : Int} (h : 0 < m) : 0 ≤ mixV c p m := by unfold mixV; exact Int.emod_nonneg _ (by omega)
theorem mixV_hi {c p m : Int} (h : 0 < m) : mixV c p m < m := by unfold mixV; exact Int.emod_lt_of_pos _ h
theorem fillV_len (c m : Int) : (fillV c m).length = 64 := by simp [fillV]
theorem fillV_in {c m : Int} (h : 0 < m) : ∀ x ∈ fillV c m, 0 ≤ x ∧ x < m := by
  intro x hx
  obtain ⟨k, _, rfl⟩ := List.mem_map.mp hx
  exact ⟨mixV_lo h, mixV_hi h⟩
def spCell (K : PySem.W.Frag) : Sp := fun vs H Q _ => ∃ (a : Addr) (ns : List Int) (k : Int), vs = [.ref a, .int k] ∧ SqL K H a (ns.map V.int) ∧ 0 ≤ k ∧ Q (.int (cellAt ns k)) H
def spMix : Sp := fun vs H Q _ => ∃ c p m : Int, vs = [.int c, .int p, .int m] ∧ 0 < p ∧ 0 < m ∧ Q (.int (mixV c p m)) H
def spFill : Sp := fun vs H Q _ => ∃ c m : Int, vs = [.int c, .int m] ∧ 0 < m ∧ ∀ D, H D = none → Q (.ref D) (upd H D (.lst ((fillV c m).map V.int)))
def spWhole : Sp := fun vs H Q _ => ∃ i : Int, vs = [.int i] ∧ Q (.bl true) H
def spLaw (K : PySem.W.Frag) : Sp := fun vs H Q _ => ∃ (a : Addr) (ns : List Int), vs = [.ref a] ∧ SqL K H a (ns.map V.int) ∧ ns.length ≤ 63 ∧ ∀ H', Q (.bl true) H'
section
variable {σ : L2.St} {H : Hp} {K : PySem.W.Frag} {a : Addr} {te tl : TE} {tt : TT} {xs : List V} {tA : TA}
theorem comp_step {σ2 : L2.St} {H0 : Hp} {D : Addr} {p : V → Bool} {f : V → V} {x : V} {ys : List V} (hz : ys.length < 100000) (ht : Ans tt σ2 (upd H0 D (.lst ys)) (p x)) (he : p x = true → Val te σ2 (upd H0 D (.lst ys)) (f x)) :
    tt σ2 (upd H0 D (.lst ys)) fun b H3 => if b = true then te σ2 H3 fun y H4 => ∃ acc, H4 D = some (.lst acc) ∧ acc.length < sizeLine ∧ upd H4 D (.lst (acc ++ [y])) = upd H0 D (.lst (if p x = true then ys ++ [f x] else ys)) else H3 = upd H0 D (.lst (if p x = true then ys ++ [f x] else ys)) :=
  ht _ (by
    cases hp : p x with
    | true => exact iteT (he hp _ ⟨ys, upd_same, Nat.lt_of_lt_of_le hz (by decide), by rw [upd_upd, if_pos rfl]⟩)
    | false => exact iteF (by rw [if_neg Bool.false_ne_true]))
theorem filter_take {p : V → Bool} {f : V → V} {m : Nat} {x : V} (hm : xs[m]? = some x) : ((xs.take (m + 1)).filter p).map f = if p x = true then ((xs.take m).filter p).map f ++ [f x] else ((xs.take m).filter p).map f := by
  rw [List.take_add_one, hm, List.filter_append, List.map_append]
  cases hp : p x <;> simp [hp]
/-- [e for x in t if c], t a tuple, a list; c and e leave the heap -/
theorem nl_lcTt {k : Nat} {ws : List Nat} (p : V → Bool) (f : V → V) (h : Val tl σ H (.ref a)) (hs0 : SqT K H a xs) (hn : xs.length ≤ 100000) (hw : ∀ x, wipe ((wipe σ ws).set k (some x)) ws = wipe σ ws)
    (ht : ∀ (m : Nat) (x : V) (D : Addr) (acc : List V), H D = none → xs[m]? = some x → Ans tt ((wipe σ ws).set k (some x)) (upd H D (.lst acc)) (p x))
    (he : ∀ (m : Nat) (x : V) (D : Addr) (acc : List V), H D = none → xs[m]? = some x → p x = true → Val te ((wipe σ ws).set k (some x)) (upd H D (.lst acc)) (f x)) : NewL (tLc (iTup K tl) (gName k) tt te ws) σ H ((xs.filter p).map f) := fun Q q =>
  h _ ⟨a, rfl, ⟨xs, hs0⟩, fun D hD => lc_tup (xs := xs) (fun m H' => H' = upd H D (.lst (((xs.take m).filter p).map f))) rfl (fun m H' _ e => by rw [e]; exact smT (smN hD) hs0) (fun m x H' hm e => by
    subst e
    have hlt : m < xs.length := (List.getElem?_eq_some_iff.mp hm).1
    refine ⟨hw _, ?_⟩
    rw [filter_take hm]
    exact comp_step (by rw [List.length_map]; exact Nat.lt_of_le_of_lt (List.length_filter_le _ _) (by rw [List.length_take]; omega)) (ht m x D _ hD hm) (he m x D _ hD hm)) (fun H' e => by rw [e, List.take_length]; exact q D hD)⟩
theorem nl_lcLt {k : Nat} {ws : List Nat} (p : V → Bool) (f : V → V) (h : Val tl σ H (.ref a)) (hs0 : SqL K H a xs) (hn : xs.length ≤ 100000) (hw : ∀ x, wipe ((wipe σ ws).set k (some x)) ws = wipe σ ws)
    (ht : ∀ (m : Nat) (x : V) (D : Addr) (acc : List V), H D = none → xs[m]? = some x → Ans tt ((wipe σ ws).set k (some x)) (upd H D (.lst acc)) (p x))
    (he : ∀ (m : Nat) (x : V) (D : Addr) (acc : List V), H D = none → xs[m]? = some x → p x = true → Val te ((wipe σ ws).set k (some x)) (upd H D (.lst acc)) (f x)) : NewL (tLc (iList K tl) (gName k) tt te ws) σ H ((xs.filter p).map f) := fun Q q =>
  h _ ⟨a, rfl, ⟨xs, hs0⟩, fun D hD => lc_list (xs := xs) (fun m H' => H' = upd H D (.lst (((xs.take m).filter p).map f))) rfl (fun m H' _ e => by rw [e]; exact (smN hD).seq hs0) (fun m x H' hm e => by
    subst e
    have hlt : m < xs.length := (List.getElem?_eq_some_iff.mp hm).1
    refine ⟨hw _, ?_⟩
    rw [filter_take hm]
    exact comp_step (by rw [List.length_map]; exact Nat.lt_of_le_of_lt (List.length_filter_le _ _) (by rw [List.length_take]; omega)) (ht m x D _ hD hm) (he m x D _ hD hm)) (fun H' e => by rw [e, List.take_length]; exact q D hD)⟩
theorem same_mput {C : Addr} {H0 H' : Hp} {p dx l : Addr} {m : Mc} (e : Same (mput C H0 p dx l m) H') (h : l ≠ p) : mput C H' p dx l m = H' := mput_id (e _ _ mput_p) (e _ _ (mput_l h))
/-- sum([..]) -/
theorem x_sum {ns : List Int} (h : NewL te σ H (ns.map V.int)) {Q : VK} (q : ∀ H', Same H H' → Q (.int ns.sum) H') : tCB (rSum K) (tCons te tNil) σ H Q := h _ fun D hD => ⟨D, ns, rfl, SqL.of upd_same, q _ (smN hD)⟩
end
theorem filter_ints (p : V → Bool) (q : Int → Bool) (h : ∀ i, p (.int i) = q i) : ∀ ns : List Int, ((ns.map V.int).filter p).map id = (ns.filter q).map V.int
  | [] => rfl
  | n :: r => by
    have ih := filter_ints p q h r
    rw [List.map_cons, List.filter_cons, List.filter_cons, h n]
    cases q n <;> simp at ih ⊢ <;> simp [ih]
section
variable {P : Program} {w : World} {K : PySem.W.Frag} {mg : Str → Option Value} {base : Heap}

theorem sc_law_cell : FnScope ["_law_script", "_law_k"] ["_law_script", "_law_k"] (defScope s_law_cell) := ⟨rfl, rfl, rfl, by decide +kernel, rfl, by decide +kernel, by decide +kernel⟩
theorem cal_law_cell (T : Tx K mg) : Cal P w K mg base 1 "_law_cell" ["_law_script", "_law_k"] (spCell K) := by
  refine cal_mk T 15 15 rfl rfl sc_law_cell (fun _ _ _ _ _ _ us hl => match us, hl with | [_, _], _ => rfl) (fun vs H Q E h => ?_) (fun f cdv A outer s H vs Q E hr h => ?_)
  · obtain ⟨a, ns, j, rfl, hS, h0, k⟩ := h
    rfl
  · obtain ⟨a, ns, j, rfl, hS, h0, k⟩ := h
    refine ⟨_, (pss_cons (ps_if (pt_cmpR op_lt (pv 1) (pe_callB call_len_seq (by rfl) (T.free 29) PySem.boot_len (pa_cons (pv 0) pa_nil)) (nomark _)) (pss_one (ps_ret (pe_ix ix_list (pv 0) (pv 1) (fun _ _ => rfl)))) pss_nil) (pss_one (ps_ret pe_int))), ?_⟩
    refine q_if (a_t (v_lt (v_var rfl) (v_cb (va_cons (v_var rfl) va_nil) (fun _ q => ⟨_, _, rfl, .inl hS, q⟩)))) (fun h1 => ?_) (fun h1 => ?_)
    · have g : j < ((ns.map V.int).length : Int) := of_decide_eq_true h1
      rw [List.length_map] at g
      exact s_ret (v_ixLI (v_var rfl) (v_var rfl) hS h0 g) k
    · refine s_next ?_
      have g : ¬ j < ((ns.map V.int).length : Int) := of_decide_eq_false h1
      rw [List.length_map] at g
      refine s_ret v_c ?_
      have e : cellAt ns j = 0 := by unfold cellAt; rw [List.getD_eq_getElem?_getD, List.getElem?_eq_none (by omega)]; rfl
      rw [e] at k
      exact k

theorem sc_law_mix : FnScope ["_law_cell_here", "_law_prime", "_law_many"] ["_law_cell_here", "_law_prime", "_law_many"] (defScope s_law_mix) := ⟨rfl, rfl, rfl, by decide +kernel, rfl, by decide +kernel, by decide +kernel⟩
theorem cal_law_mix (T : Tx K mg) : Cal P w K mg base 1 "_law_mix" ["_law_cell_here", "_law_prime", "_law_many"] spMix := by
  refine cal_mk T 16 16 rfl rfl sc_law_mix (fun _ _ _ _ _ _ us hl => match us, hl with | [_, _, _], _ => rfl) (fun vs H Q E h => ?_) (fun f cdv A outer s H vs Q E hr h => ?_)
  · obtain ⟨c, p, m, rfl, hp, hm, k⟩ := h
    rfl
  · obtain ⟨c, p, m, rfl, hp, hm, k⟩ := h
    refine ⟨_, (pss_one (ps_ret (pe_op op_mod (pe_op op_mod (pe_op op_mul (pv 0) pe_int) (pv 1)) (pv 2)))), ?_⟩
    refine s_ret (v_mod (v_mod (v_mul (v_var rfl) v_c (.inr ⟨by decide, by decide⟩)) (v_var rfl) (by assumption)) (v_var rfl) (by assumption)) ?_
    exact k
end
/-! ### words for the laws' own bodies -/
section
variable {σ : L2.St} {H : Hp} {K : PySem.W.Frag} {a p : Addr} {te ta tb ti to : TE} {v x y : V} {N : L2.St → Hp → Prop} {R : VK} {B C' : L2.St → Hp → Prop} {tz : TS} {tA : TA} {C : Addr} {i z t mk pc : Int} {cs ns : List Int} {m : Mc}
/-- an item of a written list of ints -/
theorem v_menu (ns : List Int) (h : ValA tA σ H (ns.map V.int)) (hl : ns.length ≤ 1000) (hi : ∀ H', Same H H' → Val ti σ H' (.int i)) (h0 : 0 ≤ i) (h1 : i < (ns.length : Int)) {Q : VK} (q : ∀ H', Same H H' → Q (.int (ns.getD i.toNat 0)) H') : tOp (rIxL K) (tLst tA) ti σ H Q :=
  h _ ⟨Nat.le_trans (by rw [List.length_map]; exact hl) (by decide), fun D hD => by
    refine hi _ (smN hD) _ ⟨D, ns.map V.int, i, .int (ns.getD i.toNat 0), rfl, rfl, SqL.of upd_same, ?_, q _ (smN hD)⟩
    refine at_of (j := i.toNat) (by omega) ?_
    have hl : i.toNat < ns.length := by omega
    rw [List.getElem?_map, List.getElem?_eq_getElem hl]
    simp [List.getD_eq_getElem?_getD, List.getElem?_eq_getElem hl]⟩
theorem q_setItem (hv : Val te σ H (.int z)) (ho : Val to σ H (.ref p)) (hi : Val ti σ H (.int i)) (hp : H p = some (.lst (ns.map V.int))) (h0 : 0 ≤ i) (h1 : i < (ns.length : Int)) (q : tz ⟨N, R, B, C'⟩ σ (upd H p (.lst ((ns.set i.toNat z).map V.int)))) :
    tSeq (tAsg te (gSub to ti rSetL)) tz ⟨N, R, B, C'⟩ σ H := hv _ (ho _ (hi _ ⟨p, _, i, i.toNat, rfl, rfl, hp, ixN_int h0 (by rw [List.length_map]; exact h1), by rw [← List.map_set]; exact q⟩))
theorem s_setItem (hv : Val te σ H (.int z)) (ho : Val to σ H (.ref p)) (hi : Val ti σ H (.int i)) (hp : H p = some (.lst (ns.map V.int))) (h0 : 0 ≤ i) (h1 : i < (ns.length : Int)) (q : N σ (upd H p (.lst ((ns.set i.toNat z).map V.int)))) :
    tAsg te (gSub to ti rSetL) ⟨N, R, B, C'⟩ σ H := hv _ (ho _ (hi _ ⟨p, _, i, i.toNat, rfl, rfl, hp, ixN_int h0 (by rw [List.length_map]; exact h1), by rw [← List.map_set]; exact q⟩))
theorem mput_make {x dx l o : Addr} {u : HO} : mput C (upd (upd H o u) x (.ins C dx [])) x dx l m = mput C (upd H o u) x dx l m := by
  funext b; unfold mput upd
  by_cases h1 : b = x <;> by_cases h2 : b = l <;> simp [h1, h2]
/-- Machine(..) -/
theorem x_machine (h : ValA tA σ H [.ref a, .int t, .int mk, .int pc]) (hs : SqL K H a (cs.map V.int) ∨ SqT K H a (cs.map V.int)) {Q : VK}
    (q : ∀ x dx l H', H x = none → H l = none → H dx = none → l ≠ x → Same H H' → Q (.ref x) (mput C H' x dx l ⟨cs, t, mk, pc⟩)) : tMake C (spMachine K C) [] E0 tA σ H Q :=
  h _ fun x dx nx nd ne => by
    have sm : Same H (upd (upd H dx (.own x)) x (.ins C dx [])) := smM (smN nd) nx
    refine ⟨x, dx, a, cs, t, mk, pc, rfl, upd_same, hs.imp sm.seq (smT sm), fun l hl => ⟨rfl, ?_⟩⟩
    have nlx : l ≠ x := fun e => by subst e; rw [upd_same] at hl; cases hl
    rw [mput_make]
    exact q x dx l _ nx (sm.free hl) nd nlx (smN nd)
theorem q_machine {k : Nat} (h : ValA tA σ H [.ref a, .int t, .int mk, .int pc]) (hs : SqL K H a (cs.map V.int) ∨ SqT K H a (cs.map V.int))
    (q : ∀ x dx l H', H x = none → H l = none → H dx = none → l ≠ x → Same H H' → tz ⟨N, R, B, C'⟩ (σ.set k (some (.ref x))) (mput C H' x dx l ⟨cs, t, mk, pc⟩)) : tSeq (tAsg (tMake C (spMachine K C) [] E0 tA) (gName k)) tz ⟨N, R, B, C'⟩ σ H := by
  show tMake C (spMachine K C) [] E0 tA σ H (fun v H1 => tz ⟨N, R, B, C'⟩ (σ.set k (some v)) H1)
  exact x_machine h hs q
theorem q_rel {t1 : TS} (Mid : L2.St → Hp → Prop) (h : t1 ⟨Mid, R, B, C'⟩ σ H) (k : ∀ σ' H', Mid σ' H' → tz ⟨N, R, B, C'⟩ σ' H') : C8.tCut t1 tz ⟨N, R, B, C'⟩ σ H := ⟨Mid, h, k⟩
end
/-- a cell's item through a mput -/
theorem getC_set {cs : List Int} {t mk pc i v : Int} (h0 : 0 ≤ i) (h1 : i < (cs.length : Int)) : getC ⟨cs.set i.toNat v, t, mk, pc⟩ i = v := by
  unfold getC
  have : i.toNat < cs.length := by omega
  simp [List.getD_eq_getElem?_getD, this]
theorem mem_set_in {P : Int → Prop} : ∀ {cs : List Int} {i : Nat} {v : Int}, (∀ c ∈ cs, P c) → P v → ∀ c ∈ cs.set i v, P c := by
  intro cs i v h hv c hc
  rcases List.mem_or_eq_of_mem_set hc with h1 | h1
  · exact h c h1
  · exact h1 ▸ hv
theorem menu_in (P : Int → Prop) {ns : List Int} (h : ∀ x ∈ ns, P x) (h0 : P 0) (i : Nat) : P (ns.getD i 0) := by
  rw [List.getD_eq_getElem?_getD]
  cases e : ns[i]? with
  | none => exact h0
  | some x => exact h x (List.mem_of_getElem? e)
theorem mput_upd {C : Addr} {H : Hp} {p dx l q : Addr} {m : Mc} {o : HO} (h1 : q ≠ p) (h2 : q ≠ l) : upd (mput C H p dx l m) q o = mput C (upd H q o) p dx l m := by
  funext b; unfold mput upd
  by_cases e : b = q
  · subst e; simp [h1, h2]
  · simp [e]
theorem setAt {cs : List Int} {i : Int} {v : Int} (h0 : 0 ≤ i) (h1 : i < (cs.length : Int)) : (cs.set i.toNat v).getD i.toNat 0 = v := by
  have : i.toNat < cs.length := by omega
  simp [List.getD_eq_getElem?_getD, this]
section
variable {σ : L2.St} {H : Hp} {K : PySem.W.Frag} {a p dx l C : Addr} {te ta tb ti to : TE} {v x y : V} {m : Mc} {xs : List V}
/-- isinstance(x, list) of a list that stands in the heap -/
theorem v_isiL {b : Bool} {c : String} (hc : Val tb σ H (.ty c)) (h : ∃ y t, Val ta σ H y ∧ TyX K H y (.type t) ∧ PySem.W.kitOne K (.type t) (.type c) = some b) : Val (tCB (rIsi K) (tCons ta (tCons tb tNil))) σ H (.bl b) := by
  obtain ⟨y, t, h1, h2, h3⟩ := h
  exact v_cb (va_cons h1 (va_cons hc va_nil)) fun _ q => ⟨y, .ty c, .type t, .type c, b, rfl, .ty c, h2, h3, q⟩
theorem isi_list (h : Val ta σ H (.ref a)) (ha : H a = some (.lst xs)) : ∃ y t, Val ta σ H y ∧ TyX K H y (.type t) ∧ PySem.W.kitOne K (.type t) (.type "list") = some true := ⟨_, "list", h, .base (.lst ha), kit_ty (by decide +kernel)⟩
theorem isi_tup (h : Val ta σ H (.ref a)) (ha : H a = some (.tup xs)) : ∃ y t, Val ta σ H y ∧ TyX K H y (.type t) ∧ PySem.W.kitOne K (.type t) (.type "tuple") = some true := ⟨_, "tuple", h, .base (.tup ha), kit_ty (by decide +kernel)⟩
end
section
variable {σ : L2.St} {H : Hp} {K : PySem.W.Frag} {a : Addr} {te tl : TE} {tt : TT} {xs : List V} {tA : TA}
/-- a new list of xs; other new objects may lie beside -/
def NewLs (te : TE) (σ : L2.St) (H : Hp) (xs : List V) : Prop := ∀ Q : VK, (∀ D H', H D = none → Same H H' → H' D = some (.lst xs) → Q (.ref D) H') → te σ H Q
theorem NewL.s (h : NewL te σ H xs) : NewLs te σ H xs := fun _ q => h _ fun D hD => q D _ hD (smN hD) upd_same
theorem x_Ls {Q : VK} (h : NewLs te σ H xs) (q : ∀ D H', H D = none → Same H H' → H' D = some (.lst xs) → Q (.ref D) H') : te σ H Q := h _ q
theorem mapIdx_take {f : Nat → V → V} {m : Nat} {x : V} (hm : xs[m]? = some x) : (xs.take (m + 1)).mapIdx f = (xs.take m).mapIdx f ++ [f m x] := by
  have hlt : m < xs.length := (List.getElem?_eq_some_iff.mp hm).1
  rw [List.take_add_one, hm, List.mapIdx_append]
  simp [List.length_take, Nat.min_eq_left (Nat.le_of_lt hlt)]
/-- [e for k, x in enumerate(xs)], e leaving the heap -/
theorem nls_enum {k j : Nat} {ws : List Nat} (f : Nat → V → V) (h : ValA tA σ H [.ref a]) (hs : SqL K H a xs) (hn : xs.length ≤ 100000) (hw : ∀ x y, wipe (((wipe σ ws).set k (some x)).set j (some y)) ws = wipe σ ws)
    (he : ∀ (m : Nat) (x : V) (H' : Hp), Same H H' → xs[m]? = some x → Val te (((wipe σ ws).set k (some (.int (m : Int)))).set j (some x)) H' (f m x)) :
    NewLs (tLc (iEnum K tA) (gTup K 2 (gCons (gName k) (gCons (gName j) gNil))) tYes te ws) σ H (xs.mapIdx f) := fun Q q =>
  h _ ⟨a, xs, rfl, hs, fun D hD => lc_it (walk_enum (xs := xs)) (fun m H' => Same H H' ∧ H' D = some (.lst ((xs.take m).mapIdx f))) ⟨smN hD, upd_same⟩ (fun m H' _ e => e.1.seq hs) (fun m v H1 H' hm e y => by
    obtain ⟨sm, hl⟩ := e
    obtain ⟨T, u, x, rfl, hT, rfl, hu, hx⟩ := y
    cases hu
    have sm2 := sm.trans (smN (o := .tup [V.int (m : Int), x]) hT)
    have nDT : D ≠ T := ne_of_none hl hT
    refine ⟨T, _, rfl, SqT.of upd_same, rfl, _, _, rfl, _, _, rfl, rfl, hw _ _, ?_⟩
    unfold tYes
    dsimp only
    rw [if_pos rfl]
    refine he m x _ sm2 hx _ ⟨_, by rw [upd_ne nDT]; exact hl, ?_, smM sm2 hD, ?_⟩
    · rw [List.length_mapIdx, List.length_take]
      exact Nat.lt_of_lt_of_le (show min m xs.length < 100000 by omega) (by decide)
    · rw [upd_same, mapIdx_take hx]) (fun H' e => by rw [List.take_length] at e; exact q D H' hD e.1 e.2)⟩
theorem x_any {bs : List Bool} (h : NewLs te σ H (bs.map V.bl)) {Q : VK} (q : ∀ H', Same H H' → Q (.bl (bs.any id)) H') : tCB (rAny K) (tCons te tNil) σ H Q := h _ fun D H' _ sm hD => ⟨D, bs, rfl, SqL.of hD, q _ sm⟩
end
section
variable {σ : L2.St} {H : Hp} {K : PySem.W.Frag} {C : Addr} {te : TE} {tA : TA} {t mk pc : Int}
theorem smP' {C : Addr} {H H' : Hp} {p dx l : Addr} {m : Mc} (h1 : H p = none) (h2 : H l = none) (e : Same H H') : Same H (mput C H' p dx l m) := smP e h1 h2
/-- Machine([..], total, mark, at) -/
theorem x_machineL {f : Nat → Int} (h : NewL te σ H ((List.range 64).map fun i => V.int (f i))) (hA : ∀ H', ValA tA σ H' [.int t, .int mk, .int pc]) {Q : VK}
    (q : ∀ x dx l H', l ≠ x → (∀ m H'', Same (mput C H' x dx l m) H'' → Same H H'') → Q (.ref x) (mput C H' x dx l ⟨(List.range 64).map f, t, mk, pc⟩)) : tMake C (spMachine K C) [] E0 (tCons te tA) σ H Q := by
  show te σ H _
  refine h _ (fun D hD => ?_)
  refine hA _ _ ?_
  have e : (List.range 64).map (fun i => V.int (f i)) = ((List.range 64).map f).map V.int := by rw [List.map_map]; rfl
  refine (x_machine (σ := σ) (H := upd H D (.lst ((List.range 64).map fun i => V.int (f i)))) (tA := fun _ H1 Q1 => Q1 [.ref D, .int t, .int mk, .int pc] H1) (cs := (List.range 64).map f) (t := t) (mk := mk) (pc := pc) (fun Q1 q1 => q1) (.inl (SqL.of (by rw [upd_same, e]))) (Q := Q) (fun x dx l H' nx nl _ hne sm => ?_) : _)
  have sm0 := (smN (o := .lst ((List.range 64).map fun i => V.int (f i))) hD).trans sm
  have nx0 : H x = none := (smN hD).free nx
  have nl0 : H l = none := (smN hD).free nl
  exact q x dx l H' hne fun m H'' s => (smP sm0 nx0 nl0).trans s
end
/-! ### loops -/
section
variable {σ : L2.St} {H : Hp} {K : PySem.W.Frag} {a : Addr} {tl : TE} {tA : TA} {tb tz : TS} {N : L2.St → Hp → Prop} {R : VK} {B C' : L2.St → Hp → Prop} {k j : Nat} {n : Int} {xs : List V}
theorem s_forR (h : ValA tA σ H [.int n]) (hn0 : n ≤ 100000) (Pv : Nat → L2.St → Hp → Prop) (h0 : Pv 0 σ H)
    (hs : ∀ (i : Nat) σ' H', (i : Int) < n → Pv i σ' H' → tb ⟨Pv (i + 1), R, N, Pv (i + 1)⟩ (σ'.set k (some (.int (i : Int)))) H') (hd : ∀ σ' H', Pv n.toNat σ' H' → N σ' H') (hn1 : -100000 ≤ n := by omega) : tFor (iRng1 tA) (gName k) tb ⟨N, R, B, C'⟩ σ H :=
  h _ ⟨n, rfl, by omega, by omega, for_range (lo := 0) (n := n.toNat) (D := ⟨N, R, B, C'⟩) Pv h0 (fun i σ' H' hi p => by
    have e0 : (0 : Int) + (i : Int) = (i : Int) := Int.zero_add _
    rw [e0]
    exact hs i σ' H' (by omega) p) hd⟩
theorem q_forR (h : ValA tA σ H [.int n]) (hn0 : n ≤ 100000) (Pv : Nat → L2.St → Hp → Prop) (h0 : Pv 0 σ H)
    (hs : ∀ (i : Nat) σ' H', (i : Int) < n → Pv i σ' H' → tb ⟨Pv (i + 1), R, tz ⟨N, R, B, C'⟩, Pv (i + 1)⟩ (σ'.set k (some (.int (i : Int)))) H') (hd : ∀ σ' H', Pv n.toNat σ' H' → tz ⟨N, R, B, C'⟩ σ' H') (hn1 : -100000 ≤ n := by omega) : tSeq (tFor (iRng1 tA) (gName k) tb) tz ⟨N, R, B, C'⟩ σ H :=
  s_forR (N := tz ⟨N, R, B, C'⟩) (B := B) (C' := C') h hn0 Pv h0 hs hd hn1
theorem s_forL (h : Val tl σ H (.ref a)) (hx : SqL K H a xs) (Pv : Nat → L2.St → Hp → Prop) (h0 : Pv 0 σ H) (hl : ∀ (i : Nat) σ' H', Pv i σ' H' → SqL K H' a xs)
    (hs : ∀ (i : Nat) x σ' H', xs[i]? = some x → Pv i σ' H' → tb ⟨Pv (i + 1), R, N, Pv (i + 1)⟩ (σ'.set k (some x)) H') (hd : ∀ σ' H', Pv xs.length σ' H' → N σ' H') : tFor (iList K tl) (gName k) tb ⟨N, R, B, C'⟩ σ H :=
  h _ ⟨a, rfl, ⟨xs, hx⟩, for_list (xs := xs) (D := ⟨N, R, B, C'⟩) Pv h0 (fun i σ' H' _ p => hl i σ' H' p) hs hd⟩
theorem q_forL (h : Val tl σ H (.ref a)) (hx : SqL K H a xs) (Pv : Nat → L2.St → Hp → Prop) (h0 : Pv 0 σ H) (hl : ∀ (i : Nat) σ' H', Pv i σ' H' → SqL K H' a xs)
    (hs : ∀ (i : Nat) x σ' H', xs[i]? = some x → Pv i σ' H' → tb ⟨Pv (i + 1), R, tz ⟨N, R, B, C'⟩, Pv (i + 1)⟩ (σ'.set k (some x)) H') (hd : ∀ σ' H', Pv xs.length σ' H' → tz ⟨N, R, B, C'⟩ σ' H') : tSeq (tFor (iList K tl) (gName k) tb) tz ⟨N, R, B, C'⟩ σ H :=
  s_forL (N := tz ⟨N, R, B, C'⟩) (B := B) (C' := C') h hx Pv h0 hl hs hd
/-- for k, x in enumerate(xs): a new pair each turn -/
theorem s_forE (h : ValA tA σ H [.ref a]) (hx : SqL K H a xs) (Pv : Nat → L2.St → Hp → Prop) (h0 : Pv 0 σ H) (hl : ∀ (i : Nat) σ' H', Pv i σ' H' → SqL K H' a xs)
    (hs : ∀ (i : Nat) x σ' H' T, xs[i]? = some x → Pv i σ' H' → H' T = none → tb ⟨Pv (i + 1), R, N, Pv (i + 1)⟩ ((σ'.set k (some (.int (i : Int)))).set j (some x)) (upd H' T (.tup [.int (i : Int), x]))) (hd : ∀ σ' H', Pv xs.length σ' H' → N σ' H') :
    tFor (iEnum K tA) (gTup K 2 (gCons (gName k) (gCons (gName j) gNil))) tb ⟨N, R, B, C'⟩ σ H :=
  h _ ⟨a, xs, rfl, hx, for_it (walk_enum (xs := xs)) (D := ⟨N, R, B, C'⟩) Pv h0 (fun i σ' H' _ p => hl i σ' H' p) (fun i x σ' H1 H' hi p y => by
    obtain ⟨T, u, z, rfl, hT, rfl, hu, hz⟩ := y
    cases hu
    exact ⟨T, _, rfl, SqT.of upd_same, rfl, _, _, rfl, _, _, rfl, rfl, hs i z σ' H1 T hz p hT⟩) hd⟩
theorem q_forE (h : ValA tA σ H [.ref a]) (hx : SqL K H a xs) (Pv : Nat → L2.St → Hp → Prop) (h0 : Pv 0 σ H) (hl : ∀ (i : Nat) σ' H', Pv i σ' H' → SqL K H' a xs)
    (hs : ∀ (i : Nat) x σ' H' T, xs[i]? = some x → Pv i σ' H' → H' T = none → tb ⟨Pv (i + 1), R, tz ⟨N, R, B, C'⟩, Pv (i + 1)⟩ ((σ'.set k (some (.int (i : Int)))).set j (some x)) (upd H' T (.tup [.int (i : Int), x]))) (hd : ∀ σ' H', Pv xs.length σ' H' → tz ⟨N, R, B, C'⟩ σ' H') :
    tSeq (tFor (iEnum K tA) (gTup K 2 (gCons (gName k) (gCons (gName j) gNil))) tb) tz ⟨N, R, B, C'⟩ σ H :=
  s_forE (N := tz ⟨N, R, B, C'⟩) (B := B) (C' := C') h hx Pv h0 hl hs hd
end
section
variable {σ : L2.St} {H : Hp} {K : PySem.W.Frag} {a : Addr} {te tl : TE} {xs ys : List V}
/-- [e for x in (written tuple)] -/
theorem nls_lcNT {k : Nat} {ws : List Nat} (f : V → V) (hy : xs.map f = ys) (h : NewT tl σ H xs) (hn : xs.length ≤ 100000) (hw : ∀ x, wipe ((wipe σ ws).set k (some x)) ws = wipe σ ws)
    (he : ∀ (m : Nat) (x : V) (H' : Hp), Same H H' → xs[m]? = some x → Val te ((wipe σ ws).set k (some x)) H' (f x)) : NewLs (tLc (iTup K tl) (gName k) tYes te ws) σ H ys := fun Q q =>
  h _ fun P hP => ⟨P, rfl, ⟨xs, SqT.of upd_same⟩, fun D hD => lc_tup (xs := xs) (fun m H' => Same H H' ∧ H' P = some (.tup xs) ∧ H' D = some (.lst ((xs.take m).map f))) ⟨(smN hP).trans (smN hD), smN hD _ _ upd_same, upd_same⟩ (fun m H' _ e => SqT.of e.2.1) (fun m x H' hm e => by
    obtain ⟨sm, hPP, hl⟩ := e
    have hD0 : H D = none := (smN hP).free hD
    have nPD : P ≠ D := ne_of_none upd_same hD
    refine ⟨hw _, ?_⟩
    unfold tYes
    dsimp only
    rw [if_pos rfl]
    refine he m x _ sm hm _ ⟨_, hl, ?_, smM sm hD0, by rw [upd_ne nPD]; exact hPP, ?_⟩
    · rw [List.length_map, List.length_take]
      exact Nat.lt_of_lt_of_le (show min m xs.length < 100000 by have := (List.getElem?_eq_some_iff.mp hm).1; omega) (by decide)
    · rw [upd_same, List.take_add_one, hm, List.map_append]; rfl) (fun H' e => by
      have e3 := e.2.2
      rw [List.take_length, hy] at e3
      exact q D H' ((smN hP).free hD) e.1 e3)⟩
theorem x_sum' {ns : List Int} (h : NewLs te σ H (ns.map V.int)) {Q : VK} (q : ∀ H', Same H H' → Q (.int ns.sum) H') : tCB (rSum K) (tCons te tNil) σ H Q := h _ fun D H' _ sm hD => ⟨D, ns, rfl, SqL.of hD, q _ sm⟩
end
section
variable {σ : L2.St} {H : Hp} {K : PySem.W.Frag} {te : TE} {tb tz : TS} {N : L2.St → Hp → Prop} {R : VK} {B C' : L2.St → Hp → Prop} {k j : Nat} {xs : List V}
/-- for k, x in enumerate(a new list) -/
theorem s_forEN (h : NewL te σ H xs) (Pv : Addr → Nat → L2.St → Hp → Prop) (h0 : ∀ D, H D = none → Pv D 0 σ (upd H D (.lst xs))) (hl : ∀ D (i : Nat) σ' H', Pv D i σ' H' → SqL K H' D xs)
    (hs : ∀ D (i : Nat) x σ' H' T, xs[i]? = some x → Pv D i σ' H' → H' T = none → tb ⟨Pv D (i + 1), R, N, Pv D (i + 1)⟩ ((σ'.set k (some (.int (i : Int)))).set j (some x)) (upd H' T (.tup [.int (i : Int), x]))) (hd : ∀ D σ' H', Pv D xs.length σ' H' → N σ' H') :
    tFor (iEnum K (tCons te tNil)) (gTup K 2 (gCons (gName k) (gCons (gName j) gNil))) tb ⟨N, R, B, C'⟩ σ H :=
  h _ fun D hD => s_forE (tA := fun _ H1 Q1 => Q1 [.ref D] H1) (σ := σ) (H := upd H D (.lst xs)) (fun Q1 q1 => q1) (SqL.of upd_same) (Pv D) (h0 D hD) (fun i σ' H' p => hl D i σ' H' p) (fun i x σ' H' T hx p hT => hs D i x σ' H' T hx p hT) (fun σ' H' p => hd D σ' H' p)
end
theorem cutV_nat {xs : List V} {i j : Nat} (h : i ≤ j) : cutV xs (some (i : Int)) (some (j : Int)) = (xs.take j).drop i := by
  unfold cutV
  rw [HT.sIx_nat, HT.sIx_nat]
  apply List.ext_getElem?
  intro n
  simp only [List.getElem?_take, List.getElem?_drop]
  by_cases c1 : n < j - i
  · have c2 : i + n < j := by omega
    rw [if_pos c2]
    by_cases c3 : i ≤ xs.length
    · rw [Nat.min_eq_left c3]
      by_cases c4 : n < min j xs.length - i
      · rw [if_pos c4]
      · rw [if_neg c4]
        exact (List.getElem?_eq_none (by omega)).symm
    · rw [if_neg (by omega)]
      exact (List.getElem?_eq_none (by omega)).symm
  · rw [if_neg (by omega), if_neg (by omega)]
/-! ### the bits of words -/
theorem land_step (a b : Nat) : a &&& b = 2 * ((a / 2) &&& (b / 2)) + (if a % 2 = 1 ∧ b % 2 = 1 then 1 else 0) := by
  have h1 : (a &&& b) / 2 = a / 2 &&& b / 2 := Nat.and_div_two
  have h2 : (a &&& b) % 2 = 1 ↔ a % 2 = 1 ∧ b % 2 = 1 := Nat.and_mod_two_eq_one
  rw [← h1]
  by_cases h : a % 2 = 1 ∧ b % 2 = 1
  · rw [if_pos h]; have := h2.mpr h; omega
  · rw [if_neg h]; have : ¬ (a &&& b) % 2 = 1 := fun q => h (h2.mp q); omega
def bsN : Nat → Nat → Nat → Nat
  | 0, _, _ => 0
  | k + 1, a, b => 2 * bsN k (a / 2) (b / 2) + (if a % 2 = 1 ∧ b % 2 = 1 then 1 else 0)
theorem land_bsN : ∀ (k a b : Nat), a < 2 ^ k → a &&& b = bsN k a b
  | 0, a, b, h => by
    have e : a = 0 := by simpa using h
    subst e; simp [bsN]
  | k + 1, a, b, h => by
    rw [land_step, bsN, land_bsN k (a / 2) (b / 2) (by rw [Nat.pow_succ] at h; omega)]
def marks10 : List Int := [1, 2, 4, 8, 16, 32, 64, 128, 256, 512]
theorem sum_filter (p : Int → Bool) : ∀ l : List Int, (l.filter p).sum = (l.map fun x => if p x = true then x else 0).sum
  | [] => rfl
  | x :: l => by
    rw [List.filter_cons, List.map_cons, List.sum_cons, ← sum_filter p l]
    by_cases h : p x = true
    · rw [if_pos h, if_pos h, List.sum_cons]
    · rw [if_neg h, if_neg h]; omega
theorem if_up (d : Nat) (x y : Int) (hx : 0 ≤ x) (hy : 0 ≤ y) (hd : 0 < d) : (if (decide (x / (d : Int) % 2 = 1) && decide (y / (d : Int) % 2 = 1)) = true then (d : Int) else 0) = (d : Int) * ((if x.toNat / d % 2 = 1 ∧ y.toNat / d % 2 = 1 then 1 else 0 : Nat) : Int) := by
  obtain ⟨a, rfl⟩ := Int.eq_ofNat_of_zero_le hx
  obtain ⟨b, rfl⟩ := Int.eq_ofNat_of_zero_le hy
  have e1 : ((a : Int) / (d : Int) % 2 = 1) ↔ (a / d % 2 = 1) := by
    rw [← Int.natCast_ediv]; omega
  have e2 : ((b : Int) / (d : Int) % 2 = 1) ↔ (b / d % 2 = 1) := by
    rw [← Int.natCast_ediv]; omega
  simp only [Int.toNat_natCast, Bool.and_eq_true, decide_eq_true_eq, e1, e2]
  split <;> simp
theorem and_marks {x y : Int} (h0 : 0 ≤ x) (h1 : x < 1024) (h2 : 0 ≤ y) : Builtin.bitAnd x y = (marks10.filter fun b => decide (x / b % 2 = 1) && decide (y / b % 2 = 1)).sum := by
  have e : Builtin.bitAnd x y = ((x.toNat &&& y.toNat : Nat) : Int) := by simp [Builtin.bitAnd, h0, h2]
  rw [e, land_bsN 10 x.toNat y.toNat (by show x.toNat < 1024; omega), sum_filter]
  have u := fun (d : Nat) (hd : 0 < d) => if_up d x y h0 h2 hd
  have l : (marks10.map fun b => if (decide (x / b % 2 = 1) && decide (y / b % 2 = 1)) = true then b else 0).sum =
      (1 : Int) * ((if x.toNat / 1 % 2 = 1 ∧ y.toNat / 1 % 2 = 1 then 1 else 0 : Nat) : Int) + (2 * ((if x.toNat / 2 % 2 = 1 ∧ y.toNat / 2 % 2 = 1 then 1 else 0 : Nat) : Int) + (4 * ((if x.toNat / 4 % 2 = 1 ∧ y.toNat / 4 % 2 = 1 then 1 else 0 : Nat) : Int) + (8 * ((if x.toNat / 8 % 2 = 1 ∧ y.toNat / 8 % 2 = 1 then 1 else 0 : Nat) : Int) + (16 * ((if x.toNat / 16 % 2 = 1 ∧ y.toNat / 16 % 2 = 1 then 1 else 0 : Nat) : Int) + (32 * ((if x.toNat / 32 % 2 = 1 ∧ y.toNat / 32 % 2 = 1 then 1 else 0 : Nat) : Int) + (64 * ((if x.toNat / 64 % 2 = 1 ∧ y.toNat / 64 % 2 = 1 then 1 else 0 : Nat) : Int) + (128 * ((if x.toNat / 128 % 2 = 1 ∧ y.toNat / 128 % 2 = 1 then 1 else 0 : Nat) : Int) + (256 * ((if x.toNat / 256 % 2 = 1 ∧ y.toNat / 256 % 2 = 1 then 1 else 0 : Nat) : Int) + (512 * ((if x.toNat / 512 % 2 = 1 ∧ y.toNat / 512 % 2 = 1 then 1 else 0 : Nat) : Int) + 0))))))))) := by
    show _ + (_ + (_ + (_ + (_ + (_ + (_ + (_ + (_ + (_ + (0 : Int)))))))))) = _
    have v1 := u 1 (by decide); have v2 := u 2 (by decide); have v3 := u 4 (by decide); have v4 := u 8 (by decide); have v5 := u 16 (by decide)
    have v6 := u 32 (by decide); have v7 := u 64 (by decide); have v8 := u 128 (by decide); have v9 := u 256 (by decide); have v10 := u 512 (by decide)
    exact congr (congrArg HAdd.hAdd v1) (congr (congrArg HAdd.hAdd v2) (congr (congrArg HAdd.hAdd v3) (congr (congrArg HAdd.hAdd v4) (congr (congrArg HAdd.hAdd v5) (congr (congrArg HAdd.hAdd v6) (congr (congrArg HAdd.hAdd v7) (congr (congrArg HAdd.hAdd v8) (congr (congrArg HAdd.hAdd v9) (congr (congrArg HAdd.hAdd v10) rfl)))))))))
  rw [l]
  simp only [bsN, Nat.div_div_eq_div_mul, Nat.reduceMul, Nat.div_one]
  omega
/-! ### words stay words -/
theorem wf_skip {m : Mc} (h : WfM m) : WfM (skipM m) := ⟨⟨h.len, by show 0 ≤ (m.pc + 1) % 64; omega, by show (m.pc + 1) % 64 < 64; omega⟩, h.cell, h.tlo, h.thi, h.bit⟩
theorem getC_in {m : Mc} (h : WfM m) (i : Int) : 0 ≤ getC m i ∧ getC m i < 1024 := menu_in (fun x => 0 ≤ x ∧ x < 1024) h.cell (by decide) _
theorem wf_added {m : Mc} (h : WfM m) {n : Int} (n0 : 0 ≤ n) (n1 : n < 1024) : WfM (addedM m n) := by
  have t0 := h.tlo; have t1 := h.thi; have b := h.bit
  unfold addedM; split
  · exact ⟨⟨h.len, h.lo, h.hi⟩, h.cell, by show 0 ≤ m.total + n - 1024; omega, by show m.total + n - 1024 < 1024; omega, by show 1 - m.mark = 0 ∨ 1 - m.mark = 1; omega⟩
  · exact ⟨⟨h.len, h.lo, h.hi⟩, h.cell, by show 0 ≤ m.total + n; omega, by show m.total + n < 1024; omega, b⟩
theorem wf_set {m : Mc} (h : WfM m) {i v : Int} (v0 : 0 ≤ v) (v1 : v < 1024) : WfM (setC m i v) := ⟨⟨by show (m.cells.set _ _).length = 64; rw [List.length_set]; exact h.len, h.lo, h.hi⟩, mem_set_in h.cell ⟨v0, v1⟩, h.tlo, h.thi, h.bit⟩
theorem wf_rise {m : Mc} (h : WfM m) (i : Int) : WfM (riseM m i) := wf_set h (by omega) (by omega)
theorem wf_aim {m : Mc} (h : WfM m) (f p : Int) : WfM (aimP m f p) := by
  unfold aimP; split
  · exact h
  · split
    · exact wf_rise h p
    · exact h
theorem bitAnd_in {x y : Int} (h0 : 0 ≤ x) (h1 : x < 1024) (h2 : 0 ≤ y) : 0 ≤ Builtin.bitAnd x y ∧ Builtin.bitAnd x y < 1024 := by
  have e : Builtin.bitAnd x y = ((x.toNat &&& y.toNat : Nat) : Int) := by simp [Builtin.bitAnd, h0, h2]
  have : x.toNat &&& y.toNat ≤ x.toNat := Nat.and_le_left
  rw [e]; omega
theorem wf_moved {m : Mc} (h : WfM m) {k p : Int} (p0 : 0 ≤ p) (p1 : p < 64) : WfM (movedM m k p) := by
  have g := getC_in h p
  have t0 := h.tlo; have t1 := h.thi
  unfold movedM
  split
  · have b := bitAnd_in t0 t1 g.1
    exact ⟨⟨h.len, h.lo, h.hi⟩, h.cell, b.1, b.2, h.bit⟩
  split
  · exact wf_added h g.1 g.2
  split
  · split
    · exact wf_skip (wf_rise h p)
    · exact wf_rise h p
  split
  · have w := wf_set h (i := p) t0 t1
    exact ⟨⟨w.len, w.lo, w.hi⟩, w.cell, by show (0 : Int) ≤ 0; omega, by show (0 : Int) < 1024; omega, w.bit⟩
  split
  · have w := wf_set h (i := p) (v := m.pc) h.lo (by have := h.hi; omega)
    exact ⟨⟨w.len, by show 0 ≤ (p + 1) % 64; omega, by show (p + 1) % 64 < 64; omega⟩, w.cell, w.tlo, w.thi, w.bit⟩
  · exact ⟨⟨h.len, p0, p1⟩, h.cell, t0, t1, h.bit⟩
theorem wf_total {m : Mc} (h : WfM m) {t : Int} (t0 : 0 ≤ t) (t1 : t < 1024) : WfM { m with total := t } := ⟨⟨h.len, h.lo, h.hi⟩, h.cell, t0, t1, h.bit⟩
theorem wf_mark {m : Mc} (h : WfM m) {t : Int} (b : t = 0 ∨ t = 1) : WfM { m with mark := t } := ⟨⟨h.len, h.lo, h.hi⟩, h.cell, h.tlo, h.thi, b⟩
theorem wf_rolled {m : Mc} (h : WfM m) (b : Int) : WfM (rolledM m b) := by
  have t0 := h.tlo; have t1 := h.thi; have k := h.bit
  unfold rolledM rolled1
  by_cases h1 : b % 4 = 1
  · have h2 : ¬ b % 4 = 2 := by omega
    rw [if_pos h1, if_neg h2]
    exact ⟨⟨h.len, h.lo, h.hi⟩, h.cell, by show 0 ≤ m.total / 2 + 512 * m.mark; omega, by show m.total / 2 + 512 * m.mark < 1024; omega, by show m.total % 2 = 0 ∨ m.total % 2 = 1; omega⟩
  · rw [if_neg h1]
    split
    · exact ⟨⟨h.len, h.lo, h.hi⟩, h.cell, by show 0 ≤ 2 * m.total % 1024 + m.mark; omega, by show 2 * m.total % 1024 + m.mark < 1024; omega, by show m.total / 512 = 0 ∨ m.total / 512 = 1; omega⟩
    · exact h
theorem wf_chg1 {m : Mc} (h : WfM m) (b : Int) : WfM (chg1 m b) := by unfold chg1; split <;> first | exact wf_total h (by decide) (by decide) | exact h
theorem wf_chg2 {m : Mc} (h : WfM m) (b : Int) : WfM (chg2 m b) := by
  have t0 := h.tlo; have t1 := h.thi
  unfold chg2; split <;> first | exact wf_total h (by omega) (by omega) | exact h
theorem wf_chg3 {m : Mc} (h : WfM m) (b : Int) : WfM (chg3 m b) := by
  have k := h.bit
  unfold chg3; split <;> first | exact wf_mark h (by omega) | exact h
theorem wf_chg4 {m : Mc} (h : WfM m) (b : Int) : WfM (chg4 m b) := by unfold chg4; split <;> first | exact wf_added h (by decide) (by decide) | exact h
theorem wf_changed {m : Mc} (h : WfM m) (b : Int) : WfM (changedM m b) := wf_rolled (wf_chg4 (wf_chg3 (wf_chg2 (wf_chg1 h b) b) b) b) b
theorem wf_tested {m : Mc} (h : WfM m) (b : Int) : WfM (testedM m b) := by
  have h1 : WfM (tst1 m b) := by unfold tst1; split <;> first | exact wf_skip h | exact h
  have h2 : WfM (tst2 (tst1 m b) b) := by unfold tst2; split <;> first | exact wf_total h1 (by decide) (by decide) | exact h1
  unfold testedM tst3; split <;> first | exact wf_mark h2 (.inl rfl) | exact h2
theorem wf_deed {m : Mc} (h : WfM m) : WfM (deedM m) := by
  have s := wf_skip h
  have g := getC_in h m.pc
  unfold deedM
  dsimp only
  split
  · exact wf_moved (wf_aim s _ _) (aimV_lo (by omega)) (aimV_hi (by omega))
  split
  · exact s
  split
  · exact wf_changed s _
  · exact wf_tested s _
/-! ### the machine as a dict, done by hand -/
def dkv (l : Addr) (m : Mc) (rest : List (Key × V)) : List (Key × V) := (Sum.inr "cells", .ref l) :: (Sum.inr "total", .int m.total) :: (Sum.inr "mark", .int m.mark) :: (Sum.inr "at", .int m.pc) :: rest
def dput (H : Hp) (d l : Addr) (m : Mc) (rest : List (Key × V)) : Hp := upd (upd H l (.lst (m.cells.map V.int))) d (.dK (dkv l m rest))
/-- what may stand behind -/
structure Rk (rest : List (Key × V)) : Prop where
  no : ∀ kv ∈ rest, kv.1 ≠ (Sum.inr "cells" : Key) ∧ kv.1 ≠ (Sum.inr "total" : Key) ∧ kv.1 ≠ (Sum.inr "mark" : Key) ∧ kv.1 ≠ (Sum.inr "at" : Key)
  few : rest.length ≤ 100
theorem key_ne {x y : Str} (h : ¬ x = y) : ¬ (Sum.inr x : Key) = Sum.inr y := fun e => h (Sum.inr.inj e)
theorem map_put {rest : List (Key × V)} {k : Key} {v : V} (h : ∀ kv ∈ rest, kv.1 ≠ k) : rest.map (fun kv => if kv.1 = k then (kv.1, v) else kv) = rest := by
  conv => rhs; rw [← List.map_id rest]
  exact List.map_congr_left fun kv hk => if_neg (h kv hk)
theorem putK_mid {pre post : List (Key × V)} {k : Key} {v0 v : V} (h1 : ∀ kv ∈ pre, kv.1 ≠ k) (h2 : ∀ kv ∈ post, kv.1 ≠ k) : putK (pre ++ (k, v0) :: post) k v = pre ++ (k, v) :: post := by
  unfold putK
  rw [if_pos (by simp), List.map_append, List.map_cons, map_put h1, map_put h2, if_pos rfl]
theorem valV_mid {pre post : List (Key × V)} {k : Key} {v0 : V} (h1 : ∀ kv ∈ pre, kv.1 ≠ k) : valV (pre ++ (k, v0) :: post) k = some v0 := by
  induction pre with
  | nil => exact valV_pos rfl
  | cons p r ih => rw [List.cons_append, valV_neg (h1 p List.mem_cons_self)]; exact ih fun kv hk => h1 kv (List.mem_cons_of_mem _ hk)
section
variable {σ : L2.St} {H : Hp} {K : PySem.W.Frag} {d l a p : Addr} {m m' : Mc} {rest : List (Key × V)} {ta tv ti td : TE} {v : V} {x : Str} {kvs : List (Key × V)} {N : L2.St → Hp → Prop} {R : VK} {B C' : L2.St → Hp → Prop} {tz : TS} {z i : Int}
theorem dput_d : dput H d l m rest d = some (.dK (dkv l m rest)) := upd_same
theorem dput_l (h : l ≠ d) : dput H d l m rest l = some (.lst (m.cells.map V.int)) := by unfold dput; rw [upd_ne h, upd_same]
theorem dput_ne (h1 : a ≠ d) (h2 : a ≠ l) : dput H d l m rest a = H a := by unfold dput; rw [upd_ne h1, upd_ne h2]
theorem dput_dk {r' : List (Key × V)} (h : m'.cells = m.cells) : upd (dput H d l m rest) d (.dK (dkv l m' r')) = dput H d l m' r' := by unfold dput; rw [h, upd_upd]
theorem dput_lst (h : l ≠ d) {cs : List Int} : upd (dput H d l m rest) l (.lst (cs.map V.int)) = dput H d l { m with cells := cs } rest := by
  funext b; unfold dput upd
  by_cases h2 : b = l
  · subst h2; rw [if_pos rfl, if_neg h, if_pos rfl]
  · rw [if_neg h2]
    by_cases h1 : b = d
    · rw [if_pos h1, if_pos h1]; rfl
    · rw [if_neg h1, if_neg h2, if_neg h1, if_neg h2]
theorem dput_id (h1 : H d = some (.dK (dkv l m rest))) (h2 : H l = some (.lst (m.cells.map V.int))) : dput H d l m rest = H := by
  funext b; unfold dput upd
  by_cases e1 : b = d
  · subst e1; rw [if_pos rfl, h1]
  · rw [if_neg e1]
    by_cases e2 : b = l
    · subst e2; rw [if_pos rfl, h2]
    · rw [if_neg e2]
theorem same_dput {H0 H' : Hp} (e : Same (dput H0 d l m rest) H') (h : l ≠ d) : dput H' d l m rest = H' := dput_id (e _ _ dput_d) (e _ _ (dput_l h))
theorem dput_dput : dput (dput H d l m rest) d l m' rest = dput H d l m' rest := by
  funext b; unfold dput upd
  by_cases h1 : b = d <;> by_cases h2 : b = l <;> simp [h1, h2]
theorem dput_upd {q : Addr} {o : HO} (h1 : q ≠ d) (h2 : q ≠ l) : upd (dput H d l m rest) q o = dput (upd H q o) d l m rest := by
  funext b; unfold dput upd
  by_cases e : b = q
  · subst e; simp [h1, h2]
  · simp [e]
theorem dput_same {H' : Hp} (h : Same H H') : Same (dput H d l m rest) (dput H' d l m rest) := fun b o e => by
  unfold dput upd at *
  by_cases h1 : b = d
  · simpa [h1] using e
  · by_cases h2 : b = l
    · simpa [h1, h2] using e
    · simp [h1, h2] at *; exact h b o e
theorem smD {H' : Hp} (e : Same H H') (h1 : H d = none) (h2 : H l = none) : Same H (dput H' d l m rest) := fun b u q => by rw [dput_ne (ne_of_none q h1) (ne_of_none q h2)]; exact e b u q
theorem v_dget (h : Val td σ H (.ref d)) (hd : H d = some (.dK kvs)) (hk : valV kvs (Sum.inr x : Key) = some v) : Val (tDGet td (tC (.str x))) σ H v := fun Q q =>
  h _ ⟨d, v, rfl, by rw [← hk]; exact DGet.k (k := Sum.inr x) hd, q⟩
theorem s_dput (hv : Val tv σ H v) (h : Val td σ H (.ref d)) (hd : H d = some (.dK kvs)) (hl : kvs.length ≤ 1000) (q : N σ (upd H d (.dK (putK kvs (Sum.inr x : Key) v)))) : sDPut td (tC (.str x)) tv ⟨N, R, B, C'⟩ σ H :=
  hv _ (h _ ⟨d, _, rfl, DPut.k (k := Sum.inr x) hd (Nat.lt_of_le_of_lt hl (by decide)), q⟩)
theorem kne1 : ¬ ("cells" : Str) = "total" := by decide +kernel
theorem kne2 : ¬ ("cells" : Str) = "mark" := by decide +kernel
theorem kne3 : ¬ ("cells" : Str) = "at" := by decide +kernel
theorem kne4 : ¬ ("total" : Str) = "mark" := by decide +kernel
theorem kne5 : ¬ ("total" : Str) = "at" := by decide +kernel
theorem kne6 : ¬ ("mark" : Str) = "at" := by decide +kernel
theorem dk_cells : valV (dkv l m rest) (Sum.inr "cells" : Key) = some (.ref l) := valV_pos rfl
theorem dk_total : valV (dkv l m rest) (Sum.inr "total" : Key) = some (.int m.total) := by
  unfold dkv; rw [valV_neg (key_ne kne1)]; exact valV_pos rfl
theorem dk_mark : valV (dkv l m rest) (Sum.inr "mark" : Key) = some (.int m.mark) := by
  unfold dkv; rw [valV_neg (key_ne kne2), valV_neg (key_ne kne4)]; exact valV_pos rfl
theorem dk_at : valV (dkv l m rest) (Sum.inr "at" : Key) = some (.int m.pc) := by
  unfold dkv; rw [valV_neg (key_ne kne3), valV_neg (key_ne kne5), valV_neg (key_ne kne6)]; exact valV_pos rfl
theorem dk_rest {k : Key} (h1 : ¬ (Sum.inr "cells" : Key) = k) (h2 : ¬ (Sum.inr "total" : Key) = k) (h3 : ¬ (Sum.inr "mark" : Key) = k) (h4 : ¬ (Sum.inr "at" : Key) = k) : valV (dkv l m rest) k = valV rest k := by
  unfold dkv; rw [valV_neg h1, valV_neg h2, valV_neg h3, valV_neg h4]
theorem dp_total (hr : Rk rest) : putK (dkv l m rest) (Sum.inr "total" : Key) (.int z) = dkv l { m with total := z } rest :=
  putK_mid (pre := [(Sum.inr "cells", .ref l)]) (by intro kv hk; rw [List.mem_singleton.mp hk]; exact key_ne kne1) (by
    intro kv hk
    rcases List.mem_cons.mp hk with rfl | hk
    · exact fun e => kne4 (Sum.inr.inj e).symm
    rcases List.mem_cons.mp hk with rfl | hk
    · exact fun e => kne5 (Sum.inr.inj e).symm
    exact (hr.no kv hk).2.1)
theorem dp_mark (hr : Rk rest) : putK (dkv l m rest) (Sum.inr "mark" : Key) (.int z) = dkv l { m with mark := z } rest :=
  putK_mid (pre := [(Sum.inr "cells", .ref l), (Sum.inr "total", .int m.total)]) (by
    intro kv hk
    rcases List.mem_cons.mp hk with rfl | hk
    · exact key_ne kne2
    rw [List.mem_singleton.mp hk]; exact key_ne kne4) (by
    intro kv hk
    rcases List.mem_cons.mp hk with rfl | hk
    · exact fun e => kne6 (Sum.inr.inj e).symm
    exact (hr.no kv hk).2.2.1)
theorem dp_at (hr : Rk rest) : putK (dkv l m rest) (Sum.inr "at" : Key) (.int z) = dkv l { m with pc := z } rest :=
  putK_mid (pre := [(Sum.inr "cells", .ref l), (Sum.inr "total", .int m.total), (Sum.inr "mark", .int m.mark)]) (by
    intro kv hk
    rcases List.mem_cons.mp hk with rfl | hk
    · exact key_ne kne3
    rcases List.mem_cons.mp hk with rfl | hk
    · exact key_ne kne5
    rw [List.mem_singleton.mp hk]; exact key_ne kne6) (fun kv hk => (hr.no kv hk).2.2.2)
theorem dkv_len (hr : Rk rest) : (dkv l m rest).length ≤ 1000 := by have := hr.few; unfold dkv; simp; omega
theorem vd_cells (h : Val ta σ (dput H d l m rest) (.ref d)) : Val (tDGet ta (tC (.str "cells"))) σ (dput H d l m rest) (.ref l) := v_dget h dput_d dk_cells
theorem vd_total (h : Val ta σ (dput H d l m rest) (.ref d)) : Val (tDGet ta (tC (.str "total"))) σ (dput H d l m rest) (.int m.total) := v_dget h dput_d dk_total
theorem vd_mark (h : Val ta σ (dput H d l m rest) (.ref d)) : Val (tDGet ta (tC (.str "mark"))) σ (dput H d l m rest) (.int m.mark) := v_dget h dput_d dk_mark
theorem vd_at (h : Val ta σ (dput H d l m rest) (.ref d)) : Val (tDGet ta (tC (.str "at"))) σ (dput H d l m rest) (.int m.pc) := v_dget h dput_d dk_at
theorem vd_item (hne : l ≠ d) (h : Val ta σ (dput H d l m rest) (.ref l)) (hi : Val ti σ (dput H d l m rest) (.int i)) (h0 : 0 ≤ i) (h1 : i < (m.cells.length : Int)) : Val (tOp (rIxL K) ta ti) σ (dput H d l m rest) (.int (getC m i)) :=
  v_ixLI h hi (SqL.of (dput_l hne)) h0 h1
theorem sd_total (hr : Rk rest) (hv : Val tv σ (dput H d l m rest) (.int z)) (ha : Val ta σ (dput H d l m rest) (.ref d)) (q : N σ (dput H d l { m with total := z } rest)) : sDPut ta (tC (.str "total")) tv ⟨N, R, B, C'⟩ σ (dput H d l m rest) :=
  s_dput hv ha dput_d (dkv_len hr) (by rw [dp_total hr, dput_dk (m := m) (m' := { m with total := z }) rfl]; exact q)
theorem sd_mark (hr : Rk rest) (hv : Val tv σ (dput H d l m rest) (.int z)) (ha : Val ta σ (dput H d l m rest) (.ref d)) (q : N σ (dput H d l { m with mark := z } rest)) : sDPut ta (tC (.str "mark")) tv ⟨N, R, B, C'⟩ σ (dput H d l m rest) :=
  s_dput hv ha dput_d (dkv_len hr) (by rw [dp_mark hr, dput_dk (m := m) (m' := { m with mark := z }) rfl]; exact q)
theorem sd_at (hr : Rk rest) (hv : Val tv σ (dput H d l m rest) (.int z)) (ha : Val ta σ (dput H d l m rest) (.ref d)) (q : N σ (dput H d l { m with pc := z } rest)) : sDPut ta (tC (.str "at")) tv ⟨N, R, B, C'⟩ σ (dput H d l m rest) :=
  s_dput hv ha dput_d (dkv_len hr) (by rw [dp_at hr, dput_dk (m := m) (m' := { m with pc := z }) rfl]; exact q)
theorem sd_item (hne : l ≠ d) (hv : Val tv σ (dput H d l m rest) (.int z)) (ha : Val ta σ (dput H d l m rest) (.ref l)) (hi : Val ti σ (dput H d l m rest) (.int i)) (h0 : 0 ≤ i) (h1 : i < (m.cells.length : Int))
    (q : N σ (dput H d l (setC m i z) rest)) : tAsg tv (gSub ta ti rSetL) ⟨N, R, B, C'⟩ σ (dput H d l m rest) :=
  hv _ (ha _ (hi _ ⟨l, _, i, i.toNat, rfl, rfl, dput_l hne, ixN_int h0 (by rw [List.length_map]; exact h1), by
    rw [← List.map_set, dput_lst hne]; exact q⟩))
theorem qd_total (hr : Rk rest) (hv : Val tv σ (dput H d l m rest) (.int z)) (ha : Val ta σ (dput H d l m rest) (.ref d)) (q : tz ⟨N, R, B, C'⟩ σ (dput H d l { m with total := z } rest)) : tSeq (sDPut ta (tC (.str "total")) tv) tz ⟨N, R, B, C'⟩ σ (dput H d l m rest) := sd_total (N := tz ⟨N, R, B, C'⟩) (B := B) (C' := C') hr hv ha q
theorem qd_mark (hr : Rk rest) (hv : Val tv σ (dput H d l m rest) (.int z)) (ha : Val ta σ (dput H d l m rest) (.ref d)) (q : tz ⟨N, R, B, C'⟩ σ (dput H d l { m with mark := z } rest)) : tSeq (sDPut ta (tC (.str "mark")) tv) tz ⟨N, R, B, C'⟩ σ (dput H d l m rest) := sd_mark (N := tz ⟨N, R, B, C'⟩) (B := B) (C' := C') hr hv ha q
theorem qd_at (hr : Rk rest) (hv : Val tv σ (dput H d l m rest) (.int z)) (ha : Val ta σ (dput H d l m rest) (.ref d)) (q : tz ⟨N, R, B, C'⟩ σ (dput H d l { m with pc := z } rest)) : tSeq (sDPut ta (tC (.str "at")) tv) tz ⟨N, R, B, C'⟩ σ (dput H d l m rest) := sd_at (N := tz ⟨N, R, B, C'⟩) (B := B) (C' := C') hr hv ha q
theorem qd_item (hne : l ≠ d) (hv : Val tv σ (dput H d l m rest) (.int z)) (ha : Val ta σ (dput H d l m rest) (.ref l)) (hi : Val ti σ (dput H d l m rest) (.int i)) (h0 : 0 ≤ i) (h1 : i < (m.cells.length : Int))
    (q : tz ⟨N, R, B, C'⟩ σ (dput H d l (setC m i z) rest)) : tSeq (tAsg tv (gSub ta ti rSetL)) tz ⟨N, R, B, C'⟩ σ (dput H d l m rest) := sd_item (N := tz ⟨N, R, B, C'⟩) (B := B) (C' := C') hne hv ha hi h0 h1 q
end
theorem nls_lcNTt {σ : L2.St} {H : Hp} {K : PySem.W.Frag} {te tl : TE} {tt : TT} {xs ys : List V} {k : Nat} {ws : List Nat} (p : V → Bool) (f : V → V) (hy : (xs.filter p).map f = ys) (h : NewT tl σ H xs) (hn : xs.length ≤ 100000) (hw : ∀ x, wipe ((wipe σ ws).set k (some x)) ws = wipe σ ws)
    (ht : ∀ (m : Nat) (x : V) (H' : Hp), Same H H' → xs[m]? = some x → Ans tt ((wipe σ ws).set k (some x)) H' (p x))
    (he : ∀ (m : Nat) (x : V) (H' : Hp), Same H H' → xs[m]? = some x → p x = true → Val te ((wipe σ ws).set k (some x)) H' (f x)) : NewLs (tLc (iTup K tl) (gName k) tt te ws) σ H ys := fun Q q =>
  h _ fun P hP => ⟨P, rfl, ⟨xs, SqT.of upd_same⟩, fun D hD => lc_tup (xs := xs) (fun m H' => Same H H' ∧ H' P = some (.tup xs) ∧ H' D = some (.lst (((xs.take m).filter p).map f))) ⟨(smN hP).trans (smN hD), smN hD _ _ upd_same, upd_same⟩ (fun m H' _ e => SqT.of e.2.1) (fun m x H' hm e => by
    obtain ⟨sm, hPP, hl⟩ := e
    have hD0 : H D = none := (smN hP).free hD
    have nPD : P ≠ D := ne_of_none upd_same hD
    have hlt : m < xs.length := (List.getElem?_eq_some_iff.mp hm).1
    refine ⟨hw _, ht m x _ sm hm _ ?_⟩
    rw [filter_take hm]
    cases hp : p x with
    | true =>
      refine iteT (he m x _ sm hm hp _ ⟨_, hl, ?_, smM sm hD0, by rw [upd_ne nPD]; exact hPP, by rw [upd_same]; rfl⟩)
      rw [List.length_map]
      exact Nat.lt_of_lt_of_le (Nat.lt_of_le_of_lt (List.length_filter_le _ _) (show (xs.take m).length < 100000 by rw [List.length_take]; omega)) (by decide)
    | false => exact iteF ⟨sm, hPP, hl⟩) (fun H' e => by
      have e3 := e.2.2
      rw [List.take_length, hy] at e3
      exact q D H' ((smN hP).free hD) e.1 e3)⟩
theorem marks_two (x y : Int) : (marks10.filter fun b => decide (x / b % 2 + y / b % 2 = 2)) = marks10.filter fun b => decide (x / b % 2 = 1) && decide (y / b % 2 = 1) := by
  congr 1; funext b
  have h1 : 0 ≤ x / b % 2 ∧ x / b % 2 < 2 := ⟨Int.emod_nonneg _ (by decide), Int.emod_lt_of_pos _ (by decide)⟩
  have h2 : 0 ≤ y / b % 2 ∧ y / b % 2 < 2 := ⟨Int.emod_nonneg _ (by decide), Int.emod_lt_of_pos _ (by decide)⟩
  generalize x / b % 2 = u at *
  generalize y / b % 2 = v at *
  by_cases e1 : u = 1 <;> by_cases e2 : v = 1 <;> simp [e1, e2] <;> omega
/-! promises -/
def HAt (H : Hp) (H0 : Hp) (d l : Addr) (m : Mc) (rest : List (Key × V)) : Prop := l ≠ d ∧ Rk rest ∧ WfM m ∧ H = dput H0 d l m rest
def spHMore : Sp := fun vs H Q _ => ∃ (H0 : Hp) (d l : Addr) (m : Mc) (rest : List (Key × V)) (n : Int), vs = [.ref d, .int n] ∧ HAt H H0 d l m rest ∧ 0 ≤ n ∧ n < 1024 ∧ Q .non (dput H0 d l (addedM m n) rest)
def spHPast : Sp := fun vs H Q _ => ∃ (H0 : Hp) (d l : Addr) (m : Mc) (rest : List (Key × V)), vs = [.ref d] ∧ l ≠ d ∧ Rk rest ∧ H = dput H0 d l m rest ∧ Q .non (dput H0 d l (skipM m) rest)
def spHAim : Sp := fun vs H Q _ => ∃ (H0 : Hp) (d l : Addr) (m : Mc) (rest : List (Key × V)) (far place : Int), vs = [.ref d, .int far, .int place] ∧ HAt H H0 d l m rest ∧ 0 ≤ place ∧ place < 64 ∧ ∀ H1, Same H0 H1 → Q (.int (aimV m far place)) (dput H1 d l (aimP m far place) rest)
def spHMove : Sp := fun vs H Q _ => ∃ (H0 : Hp) (d l : Addr) (m : Mc) (rest : List (Key × V)) (kind place : Int), vs = [.ref d, .int kind, .int place] ∧ HAt H H0 d l m rest ∧ 0 ≤ kind ∧ kind ≤ 5 ∧ 0 ≤ place ∧ place < 64 ∧ ∀ H1, Same H0 H1 → Q .non (dput H1 d l (movedM m kind place) rest)
def spHBits (f : Mc → Int → Mc) : Sp := fun vs H Q _ => ∃ (H0 : Hp) (d l : Addr) (m : Mc) (rest : List (Key × V)) (bits : Int), vs = [.ref d, .int bits] ∧ HAt H H0 d l m rest ∧ 0 ≤ bits ∧ bits < 64 ∧ Q .non (dput H0 d l (f m bits) rest)
def spHDeed : Sp := fun vs H Q _ => ∃ (H0 : Hp) (d l : Addr) (m : Mc) (rest : List (Key × V)), vs = [.ref d] ∧ HAt H H0 d l m rest ∧ ∀ H1, Same H0 H1 → Q (deedV m) (dput H1 d l (deedM m) rest)
def spHNew (K : PySem.W.Frag) : Sp := fun vs H Q _ => ∃ (a : Addr) (cs : List Int), vs = [.ref a] ∧ SqL K H a (cs.map V.int) ∧ ∀ d l H1, H d = none → H l = none → l ≠ d → Same H H1 → Q (.ref d) (dput H1 d l ⟨cs, 0, 0, 0⟩ [])
section
variable {σ : L2.St} {H H0 : Hp} {ta td te t1 t2 t3 : TE} {N : L2.St → Hp → Prop} {R : VK} {B C' : L2.St → Hp → Prop} {tz : TS} {x y z : V} {s : Str} {d l : Addr} {m : Mc} {rest : List (Key × V)}
theorem x_dput {tv : TE} (h : tv σ H fun v H1 => td σ H1 fun x H2 => (tC (.str s)) σ H2 fun y H3 => ∃ a H4, x = .ref a ∧ DPut H3 a y v H4 ∧ N σ H4) : sDPut td (tC (.str s)) tv ⟨N, R, B, C'⟩ σ H := h
theorem x_qdrop (h : te σ H fun _ H1 => tz ⟨N, R, B, C'⟩ σ H1) : tSeq (tDrop te) tz ⟨N, R, B, C'⟩ σ H := h
theorem x_sdrop (h : te σ H fun _ H1 => N σ H1) : tDrop te ⟨N, R, B, C'⟩ σ H := h
/-- f(a, b, g(..)): the last argument by what it leaves -/
theorem x_call3 {sp : Sp} {Q : VK} (h1 : Val t1 σ H x) (h2 : Val t2 σ H y) (h3 : t3 σ H fun z H1 => sp [x, y, z] H1 Q E0) : tCall sp [] E0 (tCons t1 (tCons t2 (tCons t3 tNil))) σ H Q :=
  h1 _ (h2 _ h3)
/-- below a dput: H with H0's own things at d and l -/
def under (H0 H : Hp) (d l : Addr) : Hp := fun b => if b = d then H0 b else if b = l then H0 b else H b
theorem dput_under : dput (under H0 H d l) d l m rest = dput H d l m rest := by
  funext b; unfold dput upd under
  by_cases h1 : b = d <;> by_cases h2 : b = l <;> simp [h1, h2]
theorem same_under {m0 : Mc} {r0 : List (Key × V)} (sm : Same (dput H0 d l m0 r0) H) : Same H0 (under H0 H d l) := fun b o e => by
  unfold under
  by_cases h1 : b = d
  · rw [if_pos h1]; exact e
  · rw [if_neg h1]
    by_cases h2 : b = l
    · rw [if_pos h2]; exact e
    · rw [if_neg h2]; exact sm _ _ (by rw [dput_ne h1 h2]; exact e)
end
/-! reads by what stands there -/
section
variable {σ : L2.St} {H : Hp} {K : PySem.W.Frag} {C : Addr} {ta : TE} {d l p dx : Addr} {m : Mc} {rest : List (Key × V)}
theorem vf_total (M : MTx K C) (hp : H p = some (.ins C dx (mfs l m))) (h : Val ta σ H (.ref p)) : Val (tFld K ta "total") σ H (.int m.total) := val_fld h hp M.cl M.nTotal mf_total
theorem vf_mark (M : MTx K C) (hp : H p = some (.ins C dx (mfs l m))) (h : Val ta σ H (.ref p)) : Val (tFld K ta "mark") σ H (.int m.mark) := val_fld h hp M.cl M.nMark mf_mark
theorem vf_at (M : MTx K C) (hp : H p = some (.ins C dx (mfs l m))) (h : Val ta σ H (.ref p)) : Val (tFld K ta "at") σ H (.int m.pc) := val_fld h hp M.cl M.nAt mf_at
theorem vf_cells (M : MTx K C) (hp : H p = some (.ins C dx (mfs l m))) (h : Val ta σ H (.ref p)) : Val (tFld K ta "cells") σ H (.ref l) := val_fld h hp M.cl M.nCells mf_cells
theorem ve_total (hd : H d = some (.dK (dkv l m rest))) (h : Val ta σ H (.ref d)) : Val (tDGet ta (tC (.str "total"))) σ H (.int m.total) := v_dget h hd dk_total
theorem ve_mark (hd : H d = some (.dK (dkv l m rest))) (h : Val ta σ H (.ref d)) : Val (tDGet ta (tC (.str "mark"))) σ H (.int m.mark) := v_dget h hd dk_mark
theorem ve_at (hd : H d = some (.dK (dkv l m rest))) (h : Val ta σ H (.ref d)) : Val (tDGet ta (tC (.str "at"))) σ H (.int m.pc) := v_dget h hd dk_at
theorem ve_cells (hd : H d = some (.dK (dkv l m rest))) (h : Val ta σ H (.ref d)) : Val (tDGet ta (tC (.str "cells"))) σ H (.ref l) := v_dget h hd dk_cells
theorem rk_nil : Rk [] := ⟨fun kv h => (nomatch h), Nat.zero_le _⟩
theorem scal_deed (m : Mc) : scal (deedV m) (deedV m) = true := by unfold deedV; split <;> rfl
/-- a machine and a dict that tell the same machine, apart -/
structure Both (C : Addr) (H : Hp) (x dx l d l0 : Addr) (m : Mc) (rest : List (Key × V)) : Prop where
  hx : H x = some (.ins C dx (mfs l m))
  hl : H l = some (.lst (m.cells.map V.int))
  hd : H d = some (.dK (dkv l0 m rest))
  h0 : H l0 = some (.lst (m.cells.map V.int))
  nlx : l ≠ x
  n0d : l0 ≠ d
  n0l : l0 ≠ l
theorem Both.nxd {C : Addr} {H : Hp} {x dx l d l0 : Addr} {m : Mc} {rest : List (Key × V)} (b : Both C H x dx l d l0 m rest) : d ≠ x ∧ d ≠ l ∧ l0 ≠ x := ⟨ne_of b.hd b.hx (fun q => nomatch q), ne_of b.hd b.hl (fun q => nomatch q), ne_of b.h0 b.hx (fun q => nomatch q)⟩
/-- behind a deed of the one and of the other -/
theorem Both.next {C : Addr} {H H1 H2 : Hp} {x dx l d l0 : Addr} {m m' : Mc} {rest : List (Key × V)} (b : Both C H x dx l d l0 m rest) (s1 : Same H H1) (s2 : Same (mput C H1 x dx l m') H2) : Both C (dput H2 d l0 m' rest) x dx l d l0 m' rest := by
  obtain ⟨n1, n2, n3⟩ := b.nxd
  exact ⟨by rw [dput_ne n1.symm n3.symm]; exact s2 _ _ mput_p, by rw [dput_ne n2.symm b.n0l.symm]; exact s2 _ _ (mput_l b.nlx), dput_d, dput_l b.n0d, b.nlx, b.n0d, b.n0l⟩
/-- the dict's side, between the two deeds -/
theorem Both.mid {C : Addr} {H H1 : Hp} {x dx l d l0 : Addr} {m m' : Mc} {rest : List (Key × V)} (b : Both C H x dx l d l0 m rest) (s1 : Same H H1) : mput C H1 x dx l m' d = some (.dK (dkv l0 m rest)) ∧ mput C H1 x dx l m' l0 = some (.lst (m.cells.map V.int)) := by
  obtain ⟨n1, n2, n3⟩ := b.nxd
  exact ⟨by rw [mput_ne n1 n2]; exact s1 _ _ b.hd, by rw [mput_ne n3 b.n0l]; exact s1 _ _ b.h0⟩
theorem Both.keep {C : Addr} {H H1 H2 : Hp} {x dx l d l0 a : Addr} {m m' : Mc} {rest : List (Key × V)} {o : HO} (b : Both C H x dx l d l0 m rest) (s1 : Same H H1) (s2 : Same (mput C H1 x dx l m') H2) (h : H a = some o) (q1 : a ≠ x) (q2 : a ≠ l) (q3 : a ≠ d) (q4 : a ≠ l0) : dput H2 d l0 m' rest a = some o := by
  rw [dput_ne q3 q4]; exact s2 _ _ (by rw [mput_ne q1 q2]; exact s1 _ _ h)
end
/-! ### users: the mirror -/
structure Pn where
  m : Mc
  inbox : List Int
  outbox : List Int
  paper : List Int
  blocks : List (List Int)
  sw : Int
  st : Str
  nap : Int
  lost : Int
  done : Int
inductive Ev where
  | start (p : Int) | key (l : Int) | tick | step
def againP (P : Pn) (s : Str) : Pn := { P with m := { P.m with pc := (P.m.pc - 1) % 64 }, st := s }
def hearP (P : Pn) : Pn := match P.inbox with
  | [] => againP P "hears"
  | x :: r => { P with m := { P.m with total := x }, inbox := r }
def sayP (P : Pn) : Pn := if P.outbox.length = 16 then againP P "says" else { P with outbox := P.outbox ++ [P.m.total % 256] }
def dozeP (P : Pn) : Pn := if 0 < P.m.total then { P with nap := P.m.total, m := { P.m with total := 0 }, st := "sleeps" } else P
/-- n words of a block into the cells from place p on -/
def fetchN (cs bk : List Int) (p : Int) : Nat → List Int
  | 0 => cs
  | n + 1 => (fetchN cs bk p n).set ((p + (n : Int)) % 64).toNat (bk.getD n 0)
/-- n of these cells into a block -/
def storeN (cs bk : List Int) (p : Int) : Nat → List Int
  | 0 => bk
  | n + 1 => (storeN cs bk p n).set n (cs.getD ((p + (n : Int)) % 64).toNat 0)
def carryP (P : Pn) (f : Bool) : Pn :=
  let p := getC P.m P.m.pc % 64
  let m1 := skipM P.m
  if 3 < P.m.total then { P with m := { m1 with total := 1023 } }
  else if f = true then { P with m := { m1 with cells := fetchN P.m.cells (P.blocks.getD P.m.total.toNat []) p 16, total := 0 } }
  else { P with m := { m1 with total := 0 }, blocks := P.blocks.set P.m.total.toNat (storeN P.m.cells (P.blocks.getD P.m.total.toNat []) p 16) }
def skipP (P : Pn) : Pn := { P with m := skipM P.m }
def askP (P : Pn) (p : Int) : Pn :=
  if ((decide (p = 0) && !P.inbox.isEmpty) || (decide (p = 2) && decide (P.outbox.length < 16))) = true then skipP P
  else if p = 1 then hearP P
  else if p = 3 then sayP P
  else if p = 4 then dozeP P
  else if p = 5 then carryP P true
  else if p = 6 then carryP P false
  else if p = 7 then { P with st := "stopped" }
  else if p = 8 then { P with m := { P.m with total := P.sw } }
  else P
def wakeP (P : Pn) (s : Str) : Pn := if P.st = s then { P with st := "ready" } else P
def heardP (P : Pn) (l : Int) : Pn := wakeP (if P.inbox.length < 16 then { P with inbox := P.inbox ++ [l] } else { P with lost := P.lost + 1 }) "hears"
def tick1P (P : Pn) : Pn := match P.outbox with
  | [] => P
  | x :: r => wakeP { P with outbox := r, paper := P.paper ++ [x] } "says"
def tick2P (P : Pn) : Pn := if P.st = "sleeps" then (if P.nap - 1 = 0 then { P with nap := P.nap - 1, st := "ready" } else { P with nap := P.nap - 1 }) else P
def tickedP (P : Pn) : Pn := tick2P (tick1P P)
def stepP (P : Pn) : Pn :=
  let P1 := { P with done := P.done + 1, m := deedM P.m }
  if getC P.m P.m.pc / 128 = 6 then askP P1 (getC P.m P.m.pc % 64) else P1
def happenP (P : Pn) : Ev → Pn
  | .key l => heardP P l
  | .tick => tickedP P
  | .start p => if P.st = "stopped" then { P with st := "ready", m := { P.m with pc := p } } else P
  | .step => if P.st = "ready" then stepP P else P
def newP (cs : List Int) (sw : Int) : Pn := ⟨⟨cs, 0, 0, 0⟩, [], [], [], List.replicate 4 (List.replicate 16 0), sw, "stopped", 0, 0, 0⟩
/-- words, letters, rows of their lengths -/
structure WfP (P : Pn) : Prop where
  wm : WfM P.m
  ib : P.inbox.length ≤ 16
  ibl : ∀ x ∈ P.inbox, 0 ≤ x ∧ x < 256
  ob : P.outbox.length ≤ 16
  bk : P.blocks.length = 4
  bkl : ∀ b ∈ P.blocks, b.length = 16 ∧ ∀ x ∈ b, 0 ≤ x ∧ x < 1024
  sw0 : 0 ≤ P.sw
  sw1 : P.sw < 1024
def EvOk : Ev → Prop
  | .start p => 0 ≤ p ∧ p < 64
  | .key l => 0 ≤ l ∧ l < 256
  | _ => True
theorem fetchN_len {cs bk : List Int} {p : Int} : ∀ n, (fetchN cs bk p n).length = cs.length
  | 0 => rfl
  | n + 1 => by rw [fetchN, List.length_set, fetchN_len n]
theorem storeN_len {cs bk : List Int} {p : Int} : ∀ n, (storeN cs bk p n).length = bk.length
  | 0 => rfl
  | n + 1 => by rw [storeN, List.length_set, storeN_len n]
theorem fetchN_in {cs bk : List Int} {p : Int} (h : ∀ c ∈ cs, 0 ≤ c ∧ c < 1024) (hb : ∀ c ∈ bk, 0 ≤ c ∧ c < 1024) : ∀ n, ∀ c ∈ fetchN cs bk p n, 0 ≤ c ∧ c < 1024
  | 0 => h
  | n + 1 => mem_set_in (fetchN_in h hb n) (menu_in (fun x => 0 ≤ x ∧ x < 1024) hb (by decide) _)
theorem storeN_in {cs bk : List Int} {p : Int} (h : ∀ c ∈ cs, 0 ≤ c ∧ c < 1024) (hb : ∀ c ∈ bk, 0 ≤ c ∧ c < 1024) : ∀ n, ∀ c ∈ storeN cs bk p n, 0 ≤ c ∧ c < 1024
  | 0 => hb
  | n + 1 => mem_set_in (storeN_in h hb n) (menu_in (fun x => 0 ≤ x ∧ x < 1024) h (by decide) _)
theorem block_in {P : Pn} (w : WfP P) {i : Nat} (hi : i < 4) : P.blocks[i]? = some (P.blocks.getD i []) ∧ (P.blocks.getD i []).length = 16 ∧ ∀ x ∈ P.blocks.getD i [], 0 ≤ x ∧ x < 1024 := by
  have hb := w.bk
  have e : P.blocks[i]? = some (P.blocks.getD i []) := by
    rw [List.getD_eq_getElem?_getD, List.getElem?_eq_getElem (by omega)]; rfl
  exact ⟨e, w.bkl _ (List.mem_of_getElem? e)⟩
theorem wf_pc {m : Mc} (h : WfM m) {p : Int} (p0 : 0 ≤ p) (p1 : p < 64) : WfM { m with pc := p } := ⟨⟨h.len, p0, p1⟩, h.cell, h.tlo, h.thi, h.bit⟩
theorem wfP_m {P : Pn} (w : WfP P) {m : Mc} (h : WfM m) : WfP { P with m := m } := ⟨h, w.ib, w.ibl, w.ob, w.bk, w.bkl, w.sw0, w.sw1⟩
theorem wfP_again {P : Pn} (w : WfP P) (s : Str) : WfP (againP P s) := ⟨wf_pc w.wm (by omega) (by omega), w.ib, w.ibl, w.ob, w.bk, w.bkl, w.sw0, w.sw1⟩
theorem wfP_carry {P : Pn} (w : WfP P) (f : Bool) : WfP (carryP P f) := by
  have t0 := w.wm.tlo
  have s := wf_skip w.wm
  unfold carryP
  dsimp only
  split
  · exact wfP_m w (wf_total s (by decide) (by decide))
  have hb := block_in w (i := P.m.total.toNat) (by omega)
  split
  · exact wfP_m w ⟨⟨by show (fetchN _ _ _ 16).length = 64; rw [fetchN_len]; exact w.wm.len, s.lo, s.hi⟩, fetchN_in w.wm.cell hb.2.2 16, by show (0 : Int) ≤ 0; decide, by show (0 : Int) < 1024; decide, s.bit⟩
  · refine ⟨wf_total s (by decide) (by decide), w.ib, w.ibl, w.ob, by show (List.set _ _ _).length = 4; rw [List.length_set]; exact w.bk, ?_, w.sw0, w.sw1⟩
    intro b h
    rcases List.mem_or_eq_of_mem_set h with h1 | h1
    · exact w.bkl b h1
    · subst h1
      exact ⟨by rw [storeN_len]; exact hb.2.1, storeN_in w.wm.cell hb.2.2 16⟩
theorem wfP_ask {P : Pn} (w : WfP P) (p : Int) : WfP (askP P p) := by
  unfold askP
  split
  · exact wfP_m w (wf_skip w.wm)
  split
  · unfold hearP
    split
    · exact wfP_again w _
    · rename_i x r e
      have hx : ∀ y ∈ x :: r, 0 ≤ y ∧ y < 256 := by rw [← e]; exact w.ibl
      have hl : (x :: r).length ≤ 16 := by rw [← e]; exact w.ib
      have h0 := hx x List.mem_cons_self
      exact ⟨wf_total w.wm h0.1 (by omega), by show r.length ≤ 16; simp at hl; omega, fun y hy => hx y (List.mem_cons_of_mem _ hy), w.ob, w.bk, w.bkl, w.sw0, w.sw1⟩
  split
  · unfold sayP
    split
    · exact wfP_again w _
    · exact ⟨w.wm, w.ib, w.ibl, by show (P.outbox ++ [_]).length ≤ 16; have := w.ob; simp; omega, w.bk, w.bkl, w.sw0, w.sw1⟩
  split
  · unfold dozeP
    split
    · exact ⟨wf_total w.wm (by decide) (by decide), w.ib, w.ibl, w.ob, w.bk, w.bkl, w.sw0, w.sw1⟩
    · exact w
  split
  · exact wfP_carry w _
  split
  · exact wfP_carry w _
  split
  · exact ⟨w.wm, w.ib, w.ibl, w.ob, w.bk, w.bkl, w.sw0, w.sw1⟩
  split
  · exact wfP_m w (wf_total w.wm w.sw0 w.sw1)
  · exact w
theorem wfP_wake {P : Pn} (w : WfP P) (s : Str) : WfP (wakeP P s) := by
  unfold wakeP; split
  · exact ⟨w.wm, w.ib, w.ibl, w.ob, w.bk, w.bkl, w.sw0, w.sw1⟩
  · exact w
theorem wfP_happen {P : Pn} (w : WfP P) {e : Ev} (h : EvOk e) : WfP (happenP P e) := by
  cases e with
  | key l =>
    refine wfP_wake ?_ _
    split
    · refine ⟨w.wm, by show (P.inbox ++ [l]).length ≤ 16; simp; omega, ?_, w.ob, w.bk, w.bkl, w.sw0, w.sw1⟩
      intro x hx
      rcases List.mem_append.mp hx with h1 | h1
      · exact w.ibl x h1
      · rw [List.mem_singleton.mp h1]; exact h
    · exact ⟨w.wm, w.ib, w.ibl, w.ob, w.bk, w.bkl, w.sw0, w.sw1⟩
  | tick =>
    have h1 : WfP (tick1P P) := by
      unfold tick1P
      split
      · exact w
      · rename_i x r e
        have h2 := w.ob
        rw [e] at h2
        simp at h2
        exact wfP_wake (P := { P with outbox := r, paper := P.paper ++ [x] }) ⟨w.wm, w.ib, w.ibl, by show r.length ≤ 16; omega, w.bk, w.bkl, w.sw0, w.sw1⟩ _
    show WfP (tick2P (tick1P P))
    unfold tick2P
    split
    · split <;> exact ⟨h1.wm, h1.ib, h1.ibl, h1.ob, h1.bk, h1.bkl, h1.sw0, h1.sw1⟩
    · exact h1
  | start p =>
    show WfP (if P.st = "stopped" then _ else _)
    split
    · exact ⟨wf_pc w.wm h.1 h.2, w.ib, w.ibl, w.ob, w.bk, w.bkl, w.sw0, w.sw1⟩
    · exact w
  | step =>
    show WfP (if P.st = "ready" then _ else _)
    split
    · have w1 : WfP { P with done := P.done + 1, m := deedM P.m } := ⟨wf_deed w.wm, w.ib, w.ibl, w.ob, w.bk, w.bkl, w.sw0, w.sw1⟩
      unfold stepP
      dsimp only
      split
      · exact wfP_ask w1 _
      · exact w1
    · exact w
theorem paper_happen (P : Pn) (e : Ev) : (happenP P e).paper.length ≤ P.paper.length + 1 := by
  have wk : ∀ (P : Pn) s, (wakeP P s).paper = P.paper := fun P s => by unfold wakeP; split <;> rfl
  cases e with
  | key l => show (wakeP _ _).paper.length ≤ _; rw [wk]; split <;> exact Nat.le_succ _
  | tick =>
    have h1 : (tick1P P).paper.length ≤ P.paper.length + 1 := by
      unfold tick1P; split
      · exact Nat.le_succ _
      · rw [wk]; simp
    show (tick2P (tick1P P)).paper.length ≤ _
    unfold tick2P; split
    · split <;> exact h1
    · exact h1
  | start p => show (if P.st = "stopped" then _ else _ : Pn).paper.length ≤ _; split <;> exact Nat.le_succ _
  | step =>
    show (if P.st = "ready" then _ else _ : Pn).paper.length ≤ _
    split
    · unfold stepP; dsimp only; split
      · have : ∀ (P : Pn) p, (askP P p).paper = P.paper := fun P p => by
          unfold askP hearP sayP dozeP carryP againP skipP
          repeat' (first | rfl | split)
        rw [this]; exact Nat.le_succ _
      · exact Nat.le_succ _
    · exact Nat.le_succ _
/-! ### users in the heap -/
structure PA where
  p : Addr
  dp : Addr
  m : Addr
  dm : Addr
  c : Addr
  ib : Addr
  ob : Addr
  pp : Addr
  bl : Addr
  bs : List Addr
def PA.foot (A : PA) : List Addr := [A.p, A.m, A.c, A.ib, A.ob, A.pp, A.bl] ++ A.bs
def pfs (A : PA) (P : Pn) : List (Str × V) := [("machine", .ref A.m), ("inbox", .ref A.ib), ("outbox", .ref A.ob), ("paper", .ref A.pp), ("blocks", .ref A.bl), ("switches", .int P.sw), ("state", .str P.st), ("nap", .int P.nap), ("lost", .int P.lost), ("done", .int P.done)]
structure PAt (C D : Addr) (H : Hp) (A : PA) (P : Pn) : Prop where
  hp : H A.p = some (.ins D A.dp (pfs A P))
  hm : H A.m = some (.ins C A.dm (mfs A.c P.m))
  hc : H A.c = some (.lst (P.m.cells.map V.int))
  hi : H A.ib = some (.lst (P.inbox.map V.int))
  ho : H A.ob = some (.lst (P.outbox.map V.int))
  hq : H A.pp = some (.lst (P.paper.map V.int))
  hb : H A.bl = some (.lst (A.bs.map V.ref))
  hbs : ∀ (i : Nat) a, A.bs[i]? = some a → ∃ ws, P.blocks[i]? = some ws ∧ H a = some (.lst (ws.map V.int))
  len : A.bs.length = 4
  nd : A.foot.Nodup
/-- all else is as it was -/
def Fr (F : List Addr) (H H' : Hp) : Prop := ∀ b o, b ∉ F → H b = some o → H' b = some o
theorem Fr.refl {F : List Addr} {H : Hp} : Fr F H H := fun _ _ _ h => h
theorem Fr.trans {F : List Addr} {H H1 H2 : Hp} (a : Fr F H H1) (b : Fr F H1 H2) : Fr F H H2 := fun x o n h => b x o n (a x o n h)
theorem Fr.upd {F : List Addr} {H : Hp} {a : Addr} {o : HO} (h : a ∈ F) : Fr F H (upd H a o) := fun b u n e => by rw [upd_ne (fun q => n (by rw [q]; exact h))]; exact e
theorem Fr.same {F : List Addr} {H H' : Hp} (h : Same H H') : Fr F H H' := fun b o _ e => h b o e
structure Ne (A : PA) : Prop where
  pm : A.p ≠ A.m
  pc : A.p ≠ A.c
  pi : A.p ≠ A.ib
  po : A.p ≠ A.ob
  pq : A.p ≠ A.pp
  pb : A.p ≠ A.bl
  mc : A.m ≠ A.c
  mi : A.m ≠ A.ib
  mo : A.m ≠ A.ob
  mq : A.m ≠ A.pp
  mb : A.m ≠ A.bl
  ci : A.c ≠ A.ib
  co : A.c ≠ A.ob
  cq : A.c ≠ A.pp
  cb : A.c ≠ A.bl
  io : A.ib ≠ A.ob
  iq : A.ib ≠ A.pp
  ibn : A.ib ≠ A.bl
  oq : A.ob ≠ A.pp
  obn : A.ob ≠ A.bl
  qb : A.pp ≠ A.bl
  bs : ∀ b ∈ A.bs, b ≠ A.p ∧ b ≠ A.m ∧ b ≠ A.c ∧ b ≠ A.ib ∧ b ≠ A.ob ∧ b ≠ A.pp ∧ b ≠ A.bl
  bn : A.bs.Nodup
theorem PAt.ne {C D : Addr} {H : Hp} {A : PA} {P : Pn} (h : PAt C D H A P) : Ne A := by
  have h1 := h.nd
  unfold PA.foot at h1
  simp only [List.cons_append, List.nil_append, List.nodup_cons, List.mem_cons, not_or] at h1
  obtain ⟨⟨a1, a2, a3, a4, a5, a6, a7⟩, ⟨b1, b2, b3, b4, b5, b6⟩, ⟨c1, c2, c3, c4, c5⟩, ⟨d1, d2, d3, d4⟩, ⟨e1, e2, e3⟩, ⟨f1, f2⟩, g1, h1⟩ := h1
  exact ⟨a1, a2, a3, a4, a5, a6, b1, b2, b3, b4, b5, c1, c2, c3, c4, d1, d2, d3, e1, e2, f1, fun b hb => ⟨fun q => a7 (q ▸ hb), fun q => b6 (q ▸ hb), fun q => c5 (q ▸ hb), fun q => d4 (q ▸ hb), fun q => e3 (q ▸ hb), fun q => f2 (q ▸ hb), fun q => g1 (q ▸ hb)⟩, h1⟩
section
variable {C D : Addr} {H H' : Hp} {A : PA} {P : Pn}
theorem PAt.fp (A : PA) : A.p ∈ A.foot ∧ A.m ∈ A.foot ∧ A.c ∈ A.foot ∧ A.ib ∈ A.foot ∧ A.ob ∈ A.foot ∧ A.pp ∈ A.foot ∧ A.bl ∈ A.foot := by unfold PA.foot; simp
theorem PAt.setP (h : PAt C D H A P) (P' : Pn) (e : P'.m = P.m ∧ P'.inbox = P.inbox ∧ P'.outbox = P.outbox ∧ P'.paper = P.paper ∧ P'.blocks = P.blocks) : PAt C D (upd H A.p (.ins D A.dp (pfs A P'))) A P' := by
  obtain ⟨e1, e2, e3, e4, e5⟩ := e
  have n := h.ne
  exact ⟨upd_same, by rw [upd_ne n.pm.symm, e1]; exact h.hm, by rw [upd_ne n.pc.symm, e1]; exact h.hc, by rw [upd_ne n.pi.symm, e2]; exact h.hi, by rw [upd_ne n.po.symm, e3]; exact h.ho, by rw [upd_ne n.pq.symm, e4]; exact h.hq, by rw [upd_ne n.pb.symm]; exact h.hb,
    fun i a ha => by rw [upd_ne (n.bs a (List.mem_of_getElem? ha)).1, e5]; exact h.hbs i a ha, h.len, h.nd⟩
theorem PAt.setM (h : PAt C D H A P) {H1 : Hp} (s : Same H H1) (m' : Mc) : PAt C D (mput C H1 A.m A.dm A.c m') A { P with m := m' } ∧ Fr A.foot H (mput C H1 A.m A.dm A.c m') := by
  have n := h.ne
  obtain ⟨f1, f2, f3, _⟩ := PAt.fp A
  refine ⟨⟨by rw [mput_ne n.pm n.pc]; exact s _ _ h.hp, mput_p, mput_l n.mc.symm, by rw [mput_ne n.mi.symm n.ci.symm]; exact s _ _ h.hi, by rw [mput_ne n.mo.symm n.co.symm]; exact s _ _ h.ho, by rw [mput_ne n.mq.symm n.cq.symm]; exact s _ _ h.hq, by rw [mput_ne n.mb.symm n.cb.symm]; exact s _ _ h.hb,
    fun i a ha => ?_, h.len, h.nd⟩, fun b o nb e => ?_⟩
  · have q := n.bs a (List.mem_of_getElem? ha)
    rw [mput_ne q.2.1 q.2.2.1]
    obtain ⟨ws, w1, w2⟩ := h.hbs i a ha
    exact ⟨ws, w1, s _ _ w2⟩
  · rw [mput_ne (fun q => nb (by rw [q]; exact f2)) (fun q => nb (by rw [q]; exact f3))]; exact s _ _ e
theorem PAt.setI (h : PAt C D H A P) (xs : List Int) : PAt C D (upd H A.ib (.lst (xs.map V.int))) A { P with inbox := xs } := by
  have n := h.ne
  exact ⟨by rw [upd_ne n.pi]; exact h.hp, by rw [upd_ne n.mi]; exact h.hm, by rw [upd_ne n.ci]; exact h.hc, upd_same, by rw [upd_ne n.io.symm]; exact h.ho, by rw [upd_ne n.iq.symm]; exact h.hq, by rw [upd_ne n.ibn.symm]; exact h.hb,
    fun i a ha => by rw [upd_ne (n.bs a (List.mem_of_getElem? ha)).2.2.2.1]; exact h.hbs i a ha, h.len, h.nd⟩
theorem PAt.setO (h : PAt C D H A P) (xs : List Int) : PAt C D (upd H A.ob (.lst (xs.map V.int))) A { P with outbox := xs } := by
  have n := h.ne
  exact ⟨by rw [upd_ne n.po]; exact h.hp, by rw [upd_ne n.mo]; exact h.hm, by rw [upd_ne n.co]; exact h.hc, by rw [upd_ne n.io]; exact h.hi, upd_same, by rw [upd_ne n.oq.symm]; exact h.hq, by rw [upd_ne n.obn.symm]; exact h.hb,
    fun i a ha => by rw [upd_ne (n.bs a (List.mem_of_getElem? ha)).2.2.2.2.1]; exact h.hbs i a ha, h.len, h.nd⟩
theorem PAt.setQ (h : PAt C D H A P) (xs : List Int) : PAt C D (upd H A.pp (.lst (xs.map V.int))) A { P with paper := xs } := by
  have n := h.ne
  exact ⟨by rw [upd_ne n.pq]; exact h.hp, by rw [upd_ne n.mq]; exact h.hm, by rw [upd_ne n.cq]; exact h.hc, by rw [upd_ne n.iq]; exact h.hi, by rw [upd_ne n.oq]; exact h.ho, upd_same, by rw [upd_ne n.qb.symm]; exact h.hb,
    fun i a ha => by rw [upd_ne (n.bs a (List.mem_of_getElem? ha)).2.2.2.2.2.1]; exact h.hbs i a ha, h.len, h.nd⟩
theorem PAt.setB (h : PAt C D H A P) {i : Nat} {a : Addr} (ha : A.bs[i]? = some a) (hl : P.blocks.length = 4) (xs : List Int) : PAt C D (upd H a (.lst (xs.map V.int))) A { P with blocks := P.blocks.set i xs } := by
  have n := h.ne
  have q := n.bs a (List.mem_of_getElem? ha)
  have hi4 : i < 4 := by have := (List.getElem?_eq_some_iff.mp ha).1; have := h.len; omega
  refine ⟨by rw [upd_ne q.1.symm]; exact h.hp, by rw [upd_ne q.2.1.symm]; exact h.hm, by rw [upd_ne q.2.2.1.symm]; exact h.hc, by rw [upd_ne q.2.2.2.1.symm]; exact h.hi, by rw [upd_ne q.2.2.2.2.1.symm]; exact h.ho, by rw [upd_ne q.2.2.2.2.2.1.symm]; exact h.hq, by rw [upd_ne q.2.2.2.2.2.2.symm]; exact h.hb, fun j b hb => ?_, h.len, h.nd⟩
  by_cases hij : i = j
  · subst hij
    have e : b = a := Option.some.inj (hb.symm.trans ha)
    subst e
    exact ⟨xs, List.getElem?_set_self (by omega), upd_same⟩
  · have nba : b ≠ a := fun e => hij (nd_ix n.bn ha (e ▸ hb))
    obtain ⟨ws, w1, w2⟩ := h.hbs j b hb
    exact ⟨ws, by rw [List.getElem?_set_ne hij]; exact w1, by rw [upd_ne nba]; exact w2⟩
theorem PAt.same (h : PAt C D H A P) (s : Same H H') : PAt C D H' A P :=
  ⟨s _ _ h.hp, s _ _ h.hm, s _ _ h.hc, s _ _ h.hi, s _ _ h.ho, s _ _ h.hq, s _ _ h.hb, fun i a ha => by obtain ⟨ws, w1, w2⟩ := h.hbs i a ha; exact ⟨ws, w1, s _ _ w2⟩, h.len, h.nd⟩
end
structure PTx (K : PySem.W.Frag) (D : Addr) : Prop where
  cl : Cls K D
  nMachine : NoAttr K D "machine"
  nInbox : NoAttr K D "inbox"
  nOutbox : NoAttr K D "outbox"
  nPaper : NoAttr K D "paper"
  nBlocks : NoAttr K D "blocks"
  nSwitches : NoAttr K D "switches"
  nState : NoAttr K D "state"
  nNap : NoAttr K D "nap"
  nLost : NoAttr K D "lost"
  nDone : NoAttr K D "done"
section
variable {K : PySem.W.Frag} {C D : Addr} {H : Hp} {A : PA} {P : Pn} {σ : L2.St} {ta tv ti : TE} {N : L2.St → Hp → Prop} {R : VK} {B C' : L2.St → Hp → Prop} {tz : TS} {z i : Int} {y : Str}
theorem pf_machine : (pfs A P).lookup ("machine" : Str) = some (V.ref A.m) := by kernel_rfl
theorem pf_inbox : (pfs A P).lookup ("inbox" : Str) = some (V.ref A.ib) := by kernel_rfl
theorem pf_outbox : (pfs A P).lookup ("outbox" : Str) = some (V.ref A.ob) := by kernel_rfl
theorem pf_paper : (pfs A P).lookup ("paper" : Str) = some (V.ref A.pp) := by kernel_rfl
theorem pf_blocks : (pfs A P).lookup ("blocks" : Str) = some (V.ref A.bl) := by kernel_rfl
theorem pf_switches : (pfs A P).lookup ("switches" : Str) = some (V.int P.sw) := by kernel_rfl
theorem pf_state : (pfs A P).lookup ("state" : Str) = some (V.str P.st) := by kernel_rfl
theorem pf_nap : (pfs A P).lookup ("nap" : Str) = some (V.int P.nap) := by kernel_rfl
theorem pf_lost : (pfs A P).lookup ("lost" : Str) = some (V.int P.lost) := by kernel_rfl
theorem pf_done : (pfs A P).lookup ("done" : Str) = some (V.int P.done) := by kernel_rfl
theorem pq_switches : putF "switches" (.int z) (pfs A P) = pfs A { P with sw := z } := by kernel_rfl
theorem pq_state : putF "state" (.str y) (pfs A P) = pfs A { P with st := y } := by kernel_rfl
theorem pq_nap : putF "nap" (.int z) (pfs A P) = pfs A { P with nap := z } := by kernel_rfl
theorem pq_lost : putF "lost" (.int z) (pfs A P) = pfs A { P with lost := z } := by kernel_rfl
theorem pq_done : putF "done" (.int z) (pfs A P) = pfs A { P with done := z } := by kernel_rfl
theorem vp_machine (T : PTx K D) (h : PAt C D H A P) (ha : Val ta σ H (.ref A.p)) : Val (tFld K ta "machine") σ H (.ref A.m) := val_fld ha h.hp T.cl T.nMachine pf_machine
theorem vp_inbox (T : PTx K D) (h : PAt C D H A P) (ha : Val ta σ H (.ref A.p)) : Val (tFld K ta "inbox") σ H (.ref A.ib) := val_fld ha h.hp T.cl T.nInbox pf_inbox
theorem vp_outbox (T : PTx K D) (h : PAt C D H A P) (ha : Val ta σ H (.ref A.p)) : Val (tFld K ta "outbox") σ H (.ref A.ob) := val_fld ha h.hp T.cl T.nOutbox pf_outbox
theorem vp_paper (T : PTx K D) (h : PAt C D H A P) (ha : Val ta σ H (.ref A.p)) : Val (tFld K ta "paper") σ H (.ref A.pp) := val_fld ha h.hp T.cl T.nPaper pf_paper
theorem vp_blocks (T : PTx K D) (h : PAt C D H A P) (ha : Val ta σ H (.ref A.p)) : Val (tFld K ta "blocks") σ H (.ref A.bl) := val_fld ha h.hp T.cl T.nBlocks pf_blocks
theorem vp_switches (T : PTx K D) (h : PAt C D H A P) (ha : Val ta σ H (.ref A.p)) : Val (tFld K ta "switches") σ H (.int P.sw) := val_fld ha h.hp T.cl T.nSwitches pf_switches
theorem vp_state (T : PTx K D) (h : PAt C D H A P) (ha : Val ta σ H (.ref A.p)) : Val (tFld K ta "state") σ H (.str P.st) := val_fld ha h.hp T.cl T.nState pf_state
theorem vp_nap (T : PTx K D) (h : PAt C D H A P) (ha : Val ta σ H (.ref A.p)) : Val (tFld K ta "nap") σ H (.int P.nap) := val_fld ha h.hp T.cl T.nNap pf_nap
theorem vp_lost (T : PTx K D) (h : PAt C D H A P) (ha : Val ta σ H (.ref A.p)) : Val (tFld K ta "lost") σ H (.int P.lost) := val_fld ha h.hp T.cl T.nLost pf_lost
theorem vp_done (T : PTx K D) (h : PAt C D H A P) (ha : Val ta σ H (.ref A.p)) : Val (tFld K ta "done") σ H (.int P.done) := val_fld ha h.hp T.cl T.nDone pf_done
theorem vp_total (M : MTx K C) (h : PAt C D H A P) (ha : Val ta σ H (.ref A.m)) : Val (tFld K ta "total") σ H (.int P.m.total) := vf_total M h.hm ha
theorem vp_mark (M : MTx K C) (h : PAt C D H A P) (ha : Val ta σ H (.ref A.m)) : Val (tFld K ta "mark") σ H (.int P.m.mark) := vf_mark M h.hm ha
theorem vp_at (M : MTx K C) (h : PAt C D H A P) (ha : Val ta σ H (.ref A.m)) : Val (tFld K ta "at") σ H (.int P.m.pc) := vf_at M h.hm ha
theorem vp_cells (M : MTx K C) (h : PAt C D H A P) (ha : Val ta σ H (.ref A.m)) : Val (tFld K ta "cells") σ H (.ref A.c) := vf_cells M h.hm ha
/-- a new state of the user, found by its heap -/
abbrev Nx (C D : Addr) (A : PA) (H : Hp) (P' : Pn) (G : Hp → Prop) : Prop := ∀ H', PAt C D H' A P' → Fr A.foot H H' → G H'
theorem sp_state (T : PTx K D) (h : PAt C D H A P) (hv : Val tv σ H (.str y)) (ha : Val ta σ H (.ref A.p)) (q : Nx C D A H { P with st := y } (N σ)) : sFld K ta tv "state" ⟨N, R, B, C'⟩ σ H :=
  st_fld hv ha h.hp T.cl T.nState (by show 10 < 1000; decide) (by rw [pq_state]; exact q _ (h.setP _ ⟨rfl, rfl, rfl, rfl, rfl⟩) (Fr.upd (PAt.fp A).1))
theorem sp_nap (T : PTx K D) (h : PAt C D H A P) (hv : Val tv σ H (.int z)) (ha : Val ta σ H (.ref A.p)) (q : Nx C D A H { P with nap := z } (N σ)) : sFld K ta tv "nap" ⟨N, R, B, C'⟩ σ H :=
  st_fld hv ha h.hp T.cl T.nNap (by show 10 < 1000; decide) (by rw [pq_nap]; exact q _ (h.setP _ ⟨rfl, rfl, rfl, rfl, rfl⟩) (Fr.upd (PAt.fp A).1))
theorem sp_lost (T : PTx K D) (h : PAt C D H A P) (hv : Val tv σ H (.int z)) (ha : Val ta σ H (.ref A.p)) (q : Nx C D A H { P with lost := z } (N σ)) : sFld K ta tv "lost" ⟨N, R, B, C'⟩ σ H :=
  st_fld hv ha h.hp T.cl T.nLost (by show 10 < 1000; decide) (by rw [pq_lost]; exact q _ (h.setP _ ⟨rfl, rfl, rfl, rfl, rfl⟩) (Fr.upd (PAt.fp A).1))
theorem sp_done (T : PTx K D) (h : PAt C D H A P) (hv : Val tv σ H (.int z)) (ha : Val ta σ H (.ref A.p)) (q : Nx C D A H { P with done := z } (N σ)) : sFld K ta tv "done" ⟨N, R, B, C'⟩ σ H :=
  st_fld hv ha h.hp T.cl T.nDone (by show 10 < 1000; decide) (by rw [pq_done]; exact q _ (h.setP _ ⟨rfl, rfl, rfl, rfl, rfl⟩) (Fr.upd (PAt.fp A).1))
theorem sp_switches (T : PTx K D) (h : PAt C D H A P) (hv : Val tv σ H (.int z)) (ha : Val ta σ H (.ref A.p)) (q : Nx C D A H { P with sw := z } (N σ)) : sFld K ta tv "switches" ⟨N, R, B, C'⟩ σ H :=
  st_fld hv ha h.hp T.cl T.nSwitches (by show 10 < 1000; decide) (by rw [pq_switches]; exact q _ (h.setP _ ⟨rfl, rfl, rfl, rfl, rfl⟩) (Fr.upd (PAt.fp A).1))
theorem PAt.eqm (h : PAt C D H A P) : H = mput C H A.m A.dm A.c P.m := (mput_id h.hm h.hc).symm
theorem sp_at (M : MTx K C) (h : PAt C D H A P) (hv : Val tv σ H (.int z)) (ha : Val ta σ H (.ref A.m)) (q : Nx C D A H { P with m := { P.m with pc := z } } (N σ)) : sFld K ta tv "at" ⟨N, R, B, C'⟩ σ H := by
  obtain ⟨q1, q2⟩ := h.setM (Same.refl H) { P.m with pc := z }
  have e := h.eqm
  rw [e] at hv ha ⊢
  exact sm_at M hv ha (q _ q1 q2)
theorem sp_total (M : MTx K C) (h : PAt C D H A P) (hv : Val tv σ H (.int z)) (ha : Val ta σ H (.ref A.m)) (q : Nx C D A H { P with m := { P.m with total := z } } (N σ)) : sFld K ta tv "total" ⟨N, R, B, C'⟩ σ H := by
  obtain ⟨q1, q2⟩ := h.setM (Same.refl H) { P.m with total := z }
  have e := h.eqm
  rw [e] at hv ha ⊢
  exact sm_total M hv ha (q _ q1 q2)
theorem qp_state (T : PTx K D) (h : PAt C D H A P) (hv : Val tv σ H (.str y)) (ha : Val ta σ H (.ref A.p)) (q : Nx C D A H { P with st := y } (tz ⟨N, R, B, C'⟩ σ)) : tSeq (sFld K ta tv "state") tz ⟨N, R, B, C'⟩ σ H := sp_state (N := tz ⟨N, R, B, C'⟩) (B := B) (C' := C') T h hv ha q
theorem qp_nap (T : PTx K D) (h : PAt C D H A P) (hv : Val tv σ H (.int z)) (ha : Val ta σ H (.ref A.p)) (q : Nx C D A H { P with nap := z } (tz ⟨N, R, B, C'⟩ σ)) : tSeq (sFld K ta tv "nap") tz ⟨N, R, B, C'⟩ σ H := sp_nap (N := tz ⟨N, R, B, C'⟩) (B := B) (C' := C') T h hv ha q
theorem qp_done (T : PTx K D) (h : PAt C D H A P) (hv : Val tv σ H (.int z)) (ha : Val ta σ H (.ref A.p)) (q : Nx C D A H { P with done := z } (tz ⟨N, R, B, C'⟩ σ)) : tSeq (sFld K ta tv "done") tz ⟨N, R, B, C'⟩ σ H := sp_done (N := tz ⟨N, R, B, C'⟩) (B := B) (C' := C') T h hv ha q
theorem qp_at (M : MTx K C) (h : PAt C D H A P) (hv : Val tv σ H (.int z)) (ha : Val ta σ H (.ref A.m)) (q : Nx C D A H { P with m := { P.m with pc := z } } (tz ⟨N, R, B, C'⟩ σ)) : tSeq (sFld K ta tv "at") tz ⟨N, R, B, C'⟩ σ H := sp_at (N := tz ⟨N, R, B, C'⟩) (B := B) (C' := C') M h hv ha q
theorem qp_total (M : MTx K C) (h : PAt C D H A P) (hv : Val tv σ H (.int z)) (ha : Val ta σ H (.ref A.m)) (q : Nx C D A H { P with m := { P.m with total := z } } (tz ⟨N, R, B, C'⟩ σ)) : tSeq (sFld K ta tv "total") tz ⟨N, R, B, C'⟩ σ H := sp_total (N := tz ⟨N, R, B, C'⟩) (B := B) (C' := C') M h hv ha q
end
/-! ### lists changed by their methods -/
section
variable {σ : L2.St} {H H' : Hp} {K : PySem.W.Frag} {a l : Addr} {ta tv ti to : TE} {v x y : V} {xs : List V} {ns : List Int} {N : L2.St → Hp → Prop} {R : VK} {B C' : L2.St → Hp → Prop} {tz : TS}
theorem sx_drop (h : ta σ H fun _ H1 => N σ H1) : tDrop ta ⟨N, R, B, C'⟩ σ H := h
theorem qx_drop (h : ta σ H fun _ H1 => tz ⟨N, R, B, C'⟩ σ H1) : tSeq (tDrop ta) tz ⟨N, R, B, C'⟩ σ H := h
theorem ty_list (h : H l = some (.lst xs)) : tyV K "list" (.ref l) H := .inl ⟨rfl, xs, SqL.of h⟩
theorem lt_line {n : Nat} (h : n < 1000000) : n < sizeLine := Nat.lt_trans h (by rw [sizeLine_eq]; decide)
theorem x_append {Q : VK} (ho : Val to σ H (.ref l)) (hl : H l = some (.lst xs)) (hn : xs.length < 1000000) (hv : Val tv σ H v) (q : Q .non (upd H l (.lst (xs ++ [v])))) : tBM K "list" rAppend to (tCons tv tNil) σ H Q :=
  ho _ ⟨ty_list hl, hv _ ⟨l, xs, v, rfl, rfl, hl, lt_line hn, q⟩⟩
theorem x_appendX {Q : VK} (ho : Val to σ H (.ref l)) (hl : H l = some (.lst xs)) (h : tv σ H fun v H1 => rAppend (.ref l) [v] H1 Q) : tBM K "list" rAppend to (tCons tv tNil) σ H Q := ho _ ⟨ty_list hl, h⟩
theorem x_pop0 {Q : VK} (ho : Val to σ H (.ref l)) (hl : H l = some (.lst (x :: xs))) (hi : Val ti σ H (.int 0)) (q : Q x (upd H l (.lst xs))) : tBM K "list" rPopAt to (tCons ti tNil) σ H Q :=
  ho _ ⟨ty_list hl, hi _ ⟨l, x :: xs, 0, 0, x, rfl, rfl, hl, by decide, by decide, by unfold seqIndex?; simp, rfl, q⟩⟩
theorem v_lenI (h : Val ta σ H (.ref a)) (hs : H a = some (.lst (ns.map V.int))) : Val (tCB (rLenQ K) (tCons ta tNil)) σ H (.int ns.length) := v_cb (va_cons h va_nil) fun _ q => ⟨a, ns.map V.int, rfl, .inl (SqL.of hs), by rw [List.length_map]; exact q⟩
theorem a_truL (h : Val ta σ H (.ref a)) (hs : H a = some (.lst (ns.map V.int))) : Ans (fun σ H Q => ta σ H fun x H' => ∃ k, TruV K x H' k ∧ Q k H') σ H (!ns.isEmpty) := a_tru h (.inl ⟨_, SqL.of hs, by cases ns <;> rfl⟩)
end
/-! ### rows: a list of new lists, of new tuples -/
def NewO (mk : List V → HO) (te : TE) (σ : L2.St) (H : Hp) (xs : List V) : Prop := ∀ Q : VK, (∀ D, H D = none → Q (.ref D) (upd H D (mk xs))) → te σ H Q
def RowsAt (mk : List V → HO) (H : Hp) (as : List Addr) (rows : List (List V)) : Prop := ∀ (i : Nat) a, as[i]? = some a → ∃ r, rows[i]? = some r ∧ H a = some (mk r)
def NewRows (mk : List V → HO) (te : TE) (σ : L2.St) (H : Hp) (rows : List (List V)) : Prop :=
  ∀ Q : VK, (∀ D as H', Same H H' → H D = none → (∀ b ∈ as, H b = none) → (D :: as).Nodup → as.length = rows.length → H' D = some (.lst (as.map V.ref)) → RowsAt mk H' as rows → Q (.ref D) H') → te σ H Q
structure RInv (mk : List V → HO) (H : Hp) (D : Addr) (rows : List (List V)) (as : List Addr) (H' : Hp) : Prop where
  sm : Same H H'
  fr : ∀ b ∈ as, H b = none
  nd : (D :: as).Nodup
  hd : H' D = some (.lst (as.map V.ref))
  rw_ : RowsAt mk H' as rows
section
variable {σ : L2.St} {H H' : Hp} {K : PySem.W.Frag} {a D q : Addr} {te tl : TE} {tA : TA} {mk : List V → HO} {rows : List (List V)} {as : List Addr} {r : List V} {xs : List V} {n : Int}
theorem rinv0 (hD : H D = none) : RInv mk H D rows [] (upd H D (.lst [])) := ⟨smN hD, fun _ h => (by cases h), List.nodup_cons.mpr ⟨fun h => (by cases h), List.nodup_nil⟩, upd_same, fun i a h => (by cases h)⟩
theorem rinv_step (hD : H D = none) (h : RInv mk H D rows as H') (hr : rows[as.length]? = some r) (hq : H' q = none) : RInv mk H D rows (as ++ [q]) (upd (upd H' q (mk r)) D (.lst (as.map V.ref ++ [V.ref q]))) := by
  have nqD : q ≠ D := fun e => by rw [e, h.hd] at hq; cases hq
  have nas : ∀ b ∈ as, b ≠ D ∧ b ≠ q := fun b hb => by
    refine ⟨fun e => (List.nodup_cons.mp h.nd).1 (e ▸ hb), fun e => ?_⟩
    obtain ⟨i, hi⟩ := List.getElem?_of_mem hb
    obtain ⟨r', _, e2⟩ := h.rw_ i b hi
    rw [e, hq] at e2; cases e2
  refine ⟨smM (h.sm.trans (smN hq)) hD, ?_, ?_, ?_, ?_⟩
  · intro b hb
    rcases List.mem_append.mp hb with h1 | h1
    · exact h.fr b h1
    · rw [List.mem_singleton.mp h1]; exact h.sm.free hq
  · have h2 := List.nodup_cons.mp h.nd
    refine List.nodup_cons.mpr ⟨fun hm => ?_, ?_⟩
    · rcases List.mem_append.mp hm with h1 | h1
      · exact h2.1 h1
      · exact nqD (List.mem_singleton.mp h1).symm
    · refine List.nodup_append.mpr ⟨h2.2, by simp, fun x hx y hy => ?_⟩
      rw [List.mem_singleton.mp hy]
      exact (nas x hx).2
  · rw [upd_same, List.map_append]; rfl
  · intro i b hb
    by_cases hi : i < as.length
    · rw [List.getElem?_append_left hi] at hb
      obtain ⟨r', e1, e2⟩ := h.rw_ i b hb
      have hn := nas b (List.mem_of_getElem? hb)
      exact ⟨r', e1, by rw [upd_ne hn.1, upd_ne hn.2]; exact e2⟩
    · rw [List.getElem?_append_right (by omega)] at hb
      have hi0 : i - as.length = 0 := by
        have := (List.getElem?_eq_some_iff.mp hb).1
        simp at this; omega
      rw [hi0] at hb
      have e : q = b := by simpa using hb
      subst e
      exact ⟨r, by rw [show i = as.length by omega]; exact hr, by rw [upd_ne nqD]; exact upd_same⟩
theorem nr_range {k : Nat} {ws : List Nat} (h : ValA tA σ H [.int n]) (hn : 0 ≤ n ∧ n ≤ 100000) (hl : rows.length = n.toNat) (hw : ∀ x, wipe ((wipe σ ws).set k (some x)) ws = wipe σ ws)
    (he : ∀ (m : Nat) (r : List V) (H' : Hp), Same H H' → rows[m]? = some r → NewO mk te ((wipe σ ws).set k (some (.int (m : Int)))) H' r) : NewRows mk (tLc (iRng1 tA) (gName k) tYes te ws) σ H rows := fun Q q =>
  h _ ⟨n, rfl, by omega, by omega, fun D hD => lc_range (lo := 0) (n := n.toNat) (fun m H' => ∃ as, as.length = m ∧ RInv mk H D rows as H') ⟨[], rfl, rinv0 hD⟩ (fun m H' hm e => by
    obtain ⟨as, rfl, iv⟩ := e
    have e0 : (0 : Int) + (as.length : Int) = (as.length : Int) := Int.zero_add _
    rw [e0]
    refine ⟨hw _, ?_⟩
    unfold tYes
    dsimp only
    rw [if_pos rfl]
    have hr : rows[as.length]? = some rows[as.length] := List.getElem?_eq_getElem (by omega)
    refine he _ _ _ iv.sm hr _ (fun b hb => ⟨_, by rw [upd_ne (fun e => by rw [← e, iv.hd] at hb; cases hb)]; exact iv.hd, ?_, as ++ [b], by simp, rinv_step hD iv hr hb⟩)
    rw [List.length_map]
    exact Nat.lt_of_lt_of_le (show as.length < 100000 by omega) (by rw [sizeLine_eq]; decide)) (fun H' e => by
      obtain ⟨as, e1, iv⟩ := e
      exact q D as H' iv.sm hD iv.fr iv.nd (by omega) iv.hd iv.rw_)⟩
theorem nr_list {k : Nat} {ws : List Nat} (h : Val tl σ H (.ref a)) (hs0 : SqL K H a xs) (hn : xs.length ≤ 100000) (hl : rows.length = xs.length) (hw : ∀ x, wipe ((wipe σ ws).set k (some x)) ws = wipe σ ws)
    (he : ∀ (m : Nat) (x : V) (r : List V) (H' : Hp), Same H H' → xs[m]? = some x → rows[m]? = some r → NewO mk te ((wipe σ ws).set k (some x)) H' r) : NewRows mk (tLc (iList K tl) (gName k) tYes te ws) σ H rows := fun Q q =>
  h _ ⟨a, rfl, ⟨xs, hs0⟩, fun D hD => lc_list (xs := xs) (fun m H' => ∃ as, as.length = m ∧ RInv mk H D rows as H') ⟨[], rfl, rinv0 hD⟩ (fun m H' _ e => by obtain ⟨as, _, iv⟩ := e; exact iv.sm.seq hs0) (fun m x H' hm e => by
    obtain ⟨as, rfl, iv⟩ := e
    refine ⟨hw _, ?_⟩
    unfold tYes
    dsimp only
    rw [if_pos rfl]
    have hlt := (List.getElem?_eq_some_iff.mp hm).1
    have hr : rows[as.length]? = some rows[as.length] := List.getElem?_eq_getElem (by omega)
    refine he _ _ _ _ iv.sm hm hr _ (fun b hb => ⟨_, by rw [upd_ne (fun e => by rw [← e, iv.hd] at hb; cases hb)]; exact iv.hd, ?_, as ++ [b], by simp, rinv_step hD iv hr hb⟩)
    rw [List.length_map]
    exact Nat.lt_of_lt_of_le (show as.length < 100000 by omega) (by rw [sizeLine_eq]; decide)) (fun H' e => by
      obtain ⟨as, e1, iv⟩ := e
      exact q D as H' iv.sm hD iv.fr iv.nd (by omega) iv.hd iv.rw_)⟩
theorem nr_tup {k : Nat} {ws : List Nat} (h : Val tl σ H (.ref a)) (hs0 : SqT K H a xs) (hn : xs.length ≤ 100000) (hl : rows.length = xs.length) (hw : ∀ x, wipe ((wipe σ ws).set k (some x)) ws = wipe σ ws)
    (he : ∀ (m : Nat) (x : V) (r : List V) (H' : Hp), Same H H' → xs[m]? = some x → rows[m]? = some r → NewO mk te ((wipe σ ws).set k (some x)) H' r) : NewRows mk (tLc (iTup K tl) (gName k) tYes te ws) σ H rows := fun Q q =>
  h _ ⟨a, rfl, ⟨xs, hs0⟩, fun D hD => lc_tup (xs := xs) (fun m H' => ∃ as, as.length = m ∧ RInv mk H D rows as H') ⟨[], rfl, rinv0 hD⟩ (fun m H' _ e => by obtain ⟨as, _, iv⟩ := e; exact smT iv.sm hs0) (fun m x H' hm e => by
    obtain ⟨as, rfl, iv⟩ := e
    refine ⟨hw _, ?_⟩
    unfold tYes
    dsimp only
    rw [if_pos rfl]
    have hlt := (List.getElem?_eq_some_iff.mp hm).1
    have hr : rows[as.length]? = some rows[as.length] := List.getElem?_eq_getElem (by omega)
    refine he _ _ _ _ iv.sm hm hr _ (fun b hb => ⟨_, by rw [upd_ne (fun e => by rw [← e, iv.hd] at hb; cases hb)]; exact iv.hd, ?_, as ++ [b], by simp, rinv_step hD iv hr hb⟩)
    rw [List.length_map]
    exact Nat.lt_of_lt_of_le (show as.length < 100000 by omega) (by rw [sizeLine_eq]; decide)) (fun H' e => by
      obtain ⟨as, e1, iv⟩ := e
      exact q D as H' iv.sm hD iv.fr iv.nd (by omega) iv.hd iv.rw_)⟩
end
/-! ### fields set one by one -/
section
variable {σ : L2.St} {H : Hp} {K : PySem.W.Frag} {C D p dp a : Addr} {fs : List (Str × V)} {f : Str} {ta tv : TE} {tA : TA} {v : V} {xs : List V} {rows : List (List V)} {mk : List V → HO} {cs : List Int} {t mr pc : Int} {N : L2.St → Hp → Prop} {R : VK} {B C' : L2.St → Hp → Prop} {tz : TS}
/-- the instance at p with these fields -/
structure Ins (K : PySem.W.Frag) (D p dp : Addr) (fs : List (Str × V)) (H : Hp) : Prop where
  cl : Cls K D
  at_ : H p = some (.ins D dp fs)
theorem Fr.same1 {F : List Addr} {H H1 H2 : Hp} (a : Same H H1) (b : Fr F H1 H2) : Fr F H H2 := fun x o n h => b x o n (a x o h)
theorem q_fldV (hv : Val tv σ H v) (ha : Val ta σ H (.ref p)) (hp : Ins K D p dp fs H) (no : NoAttr K D f) (hl : fs.length < 1000) (q : ∀ H', Ins K D p dp (putF f v fs) H' → Fr [p] H H' → tz ⟨N, R, B, C'⟩ σ H') : tSeq (sFld K ta tv f) tz ⟨N, R, B, C'⟩ σ H :=
  st_fld (D := ⟨tz ⟨N, R, B, C'⟩, R, B, C'⟩) hv ha hp.at_ hp.cl no hl (q _ ⟨hp.cl, upd_same⟩ (Fr.upd (by simp)))
theorem s_fldV (hv : Val tv σ H v) (ha : Val ta σ H (.ref p)) (hp : Ins K D p dp fs H) (no : NoAttr K D f) (hl : fs.length < 1000) (q : ∀ H', Ins K D p dp (putF f v fs) H' → Fr [p] H H' → N σ H') : sFld K ta tv f ⟨N, R, B, C'⟩ σ H :=
  st_fld (D := ⟨N, R, B, C'⟩) hv ha hp.at_ hp.cl no hl (q _ ⟨hp.cl, upd_same⟩ (Fr.upd (by simp)))
theorem q_fldN (hv : NewL tv σ H xs) (ha : ∀ H', Val ta σ H' (.ref p)) (hp : Ins K D p dp fs H) (no : NoAttr K D f) (hl : fs.length < 1000) (q : ∀ b H', H b = none → b ≠ p → H' b = some (.lst xs) → Ins K D p dp (putF f (.ref b) fs) H' → Fr [p] H H' → tz ⟨N, R, B, C'⟩ σ H') : tSeq (sFld K ta tv f) tz ⟨N, R, B, C'⟩ σ H :=
  hv _ fun b hb => by
    have nb : b ≠ p := fun e => by rw [e, hp.at_] at hb; cases hb
    have hp1 : upd H b (.lst xs) p = some (.ins D dp fs) := by rw [upd_ne nb.symm]; exact hp.at_
    exact ha _ _ ⟨p, D, dp, fs, rfl, hp1, hp.cl, no, hl, q b _ hb nb (by rw [upd_ne nb]; exact upd_same) ⟨hp.cl, upd_same⟩ (Fr.same1 (smN hb) (Fr.upd (by simp)))⟩
theorem q_fldM (hv : ValA tA σ H [.ref a, .int t, .int mr, .int pc]) (hs : SqL K H a (cs.map V.int) ∨ SqT K H a (cs.map V.int)) (ha : ∀ H', Val ta σ H' (.ref p)) (hp : Ins K D p dp fs H) (no : NoAttr K D f) (hl : fs.length < 1000)
    (q : ∀ x dx l H', H x = none → H l = none → l ≠ x → x ≠ p → l ≠ p → H' x = some (.ins C dx (mfs l ⟨cs, t, mr, pc⟩)) → H' l = some (.lst (cs.map V.int)) → Ins K D p dp (putF f (.ref x) fs) H' → Fr [p] H H' → tz ⟨N, R, B, C'⟩ σ H') :
    tSeq (sFld K ta (tMake C (spMachine K C) [] E0 tA) f) tz ⟨N, R, B, C'⟩ σ H := by
    unfold tSeq sFld
    refine x_machine hv hs fun x dx l H1 hx hl0 _ nlx sm => ?_
    have nx : x ≠ p := fun e => by rw [e, hp.at_] at hx; cases hx
    have nl : l ≠ p := fun e => by rw [e, hp.at_] at hl0; cases hl0
    have sm2 : Same H (mput C H1 x dx l ⟨cs, t, mr, pc⟩) := smP sm hx hl0
    exact ha _ _ ⟨p, D, dp, fs, rfl, sm2 _ _ hp.at_, hp.cl, no, hl, q x dx l _ hx hl0 nlx nx nl (by rw [upd_ne nx]; exact mput_p) (by rw [upd_ne nl]; exact mput_l nlx) ⟨hp.cl, upd_same⟩ (Fr.same1 sm2 (Fr.upd (by simp)))⟩
theorem q_fldR (hv : NewRows mk tv σ H rows) (ha : ∀ H', Val ta σ H' (.ref p)) (hp : Ins K D p dp fs H) (no : NoAttr K D f) (hl : fs.length < 1000)
    (q : ∀ b as H', (∀ c ∈ b :: as, H c = none) → (b :: as).Nodup → as.length = rows.length → H' b = some (.lst (as.map V.ref)) → RowsAt mk H' as rows → Ins K D p dp (putF f (.ref b) fs) H' → Fr [p] H H' → tz ⟨N, R, B, C'⟩ σ H') :
    tSeq (sFld K ta tv f) tz ⟨N, R, B, C'⟩ σ H :=
  hv _ fun b as H1 sm hb has nd hlen hd hr => by
    have nb : b ≠ p := fun e => by rw [e, hp.at_] at hb; cases hb
    have nas : ∀ c ∈ as, c ≠ p := fun c hc e => by have := has c hc; rw [e, hp.at_] at this; cases this
    refine ha _ _ ⟨p, D, dp, fs, rfl, sm _ _ hp.at_, hp.cl, no, hl, q b as _ (fun c hc => ?_) nd hlen (by rw [upd_ne nb]; exact hd) (fun i c hc => ?_) ⟨hp.cl, upd_same⟩ (Fr.same1 sm (Fr.upd (by simp)))⟩
    · rcases List.mem_cons.mp hc with h1 | h1
      · rw [h1]; exact hb
      · exact has c h1
    · obtain ⟨r, e1, e2⟩ := hr i c hc
      exact ⟨r, e1, by rw [upd_ne (nas c (List.mem_of_getElem? hc))]; exact e2⟩
theorem Fr.rowsAt {as : List Addr} {H1 : Hp} (f : Fr [p] H H1) (h : RowsAt mk H as rows) (n : ∀ b ∈ as, b ≠ p) : RowsAt mk H1 as rows := fun i b hb => by
  obtain ⟨r, e1, e2⟩ := h i b hb
  exact ⟨r, e1, f _ _ (by simp; exact n b (List.mem_of_getElem? hb)) e2⟩
theorem Fr.one {H1 : Hp} {b : Addr} {o : HO} (f : Fr [p] H H1) (n : b ≠ p) (h : H b = some o) : H1 b = some o := f b o (by simp; exact n) h
theorem Fr.seqL {H1 : Hp} {b : Addr} (f : Fr [p] H H1) (h : SqL K H b xs) (hp : Ins K D p dp fs H) : SqL K H1 b xs := by
  rcases h with (h | ⟨o, h⟩) | h
  · exact .inl (.inl (f.one (fun e => by rw [e, hp.at_] at h; cases h) h))
  · exact .inl (.inr ⟨o, f.one (fun e => by rw [e, hp.at_] at h; cases h) h⟩)
  · exact .inr h
theorem Fr.seqT {H1 : Hp} {b : Addr} (f : Fr [p] H H1) (h : SqT K H b xs) (hp : Ins K D p dp fs H) : SqT K H1 b xs := by
  rcases h with (h | ⟨o, h⟩) | h
  · exact .inl (.inl (f.one (fun e => by rw [e, hp.at_] at h; cases h) h))
  · exact .inl (.inr ⟨o, f.one (fun e => by rw [e, hp.at_] at h; cases h) h⟩)
  · exact .inr h
/-- what is free behind was free before -/
theorem Fr.free {H1 : Hp} {b : Addr} (f : Fr [p] H H1) (hp : Ins K D p dp fs H1) (h : H1 b = none) : H b = none := by
  cases e : H b with
  | none => rfl
  | some o =>
    have n : b ≠ p := fun e => by rw [e, hp.at_] at h; cases h
    rw [f.one n e] at h; cases h
theorem nd_more {b : Addr} {L : List Addr} {o : HO} (h : H b = some o) (hL : ∀ c ∈ L, H c = none) (nd : L.Nodup) : (b :: L).Nodup := List.nodup_cons.mpr ⟨fun hm => (by rw [hL b hm] at h; cases h), nd⟩
end
/-! ### promises of the users' defs -/
def spPre (C D : Addr) (pre : Pn → Prop) (f : Pn → Pn) : Sp := fun vs H Q _ => ∃ (A : PA) (P : Pn), vs = [.ref A.p] ∧ PAt C D H A P ∧ pre P ∧ Nx C D A H (f P) (Q .non)
def spAgain (C D : Addr) : Sp := fun vs H Q _ => ∃ (A : PA) (P : Pn) (s : Str), vs = [.ref A.p, .str s] ∧ PAt C D H A P ∧ Nx C D A H (againP P s) (Q .non)
def spCarry (C D : Addr) : Sp := fun vs H Q _ => ∃ (A : PA) (P : Pn) (b : Bool), vs = [.ref A.p, .bl b] ∧ PAt C D H A P ∧ WfP P ∧ Nx C D A H (carryP P b) (Q .non)
def spAsk (C D : Addr) : Sp := fun vs H Q _ => ∃ (A : PA) (P : Pn) (p : Int), vs = [.ref A.p, .int p] ∧ PAt C D H A P ∧ WfP P ∧ Nx C D A H (askP P p) (Q .non)
def spHeard (C D : Addr) : Sp := fun vs H Q _ => ∃ (A : PA) (P : Pn) (l : Int), vs = [.ref A.p, .int l] ∧ PAt C D H A P ∧ Nx C D A H (heardP P l) (Q .non)
def evV : Ev → List V
  | .key l => [.str "key", .int l]
  | .tick => [.str "tick"]
  | .start p => [.str "start", .int p]
  | .step => [.str "step"]
def Short (P : Pn) : Prop := P.paper.length < 900000
def spHappen (K : PySem.W.Frag) (C D : Addr) : Sp := fun vs H Q _ => ∃ (A : PA) (P : Pn) (a : Addr) (e : Ev), vs = [.ref A.p, .ref a] ∧ PAt C D H A P ∧ WfP P ∧ Short P ∧ SqT K H a (evV e) ∧ Nx C D A H (happenP P e) (Q .non)
def SqI (K : PySem.W.Frag) (H : Hp) (a : Addr) (cs : List Int) : Prop := SqL K H a (cs.map V.int) ∨ SqT K H a (cs.map V.int)
def spPerson (K : PySem.W.Frag) (C D : Addr) : Sp := fun vs H Q _ => ∃ (p dp a : Addr) (cs : List Int) (sw : Int), vs = [.ref p, .ref a, .int sw] ∧ H p = some (.ins D dp []) ∧ SqI K H a cs ∧
  ∀ A H', A.p = p → A.dp = dp → (∀ b ∈ A.foot, b = p ∨ H b = none) → PAt C D H' A (newP cs sw) → Fr [p] H H' → Q .non H'
section
variable {C D : Addr} {H H' : Hp} {A : PA} {P : Pn} {K : PySem.W.Frag} {a : Addr} {xs : List V} {σ : L2.St} {tA : TA} {cs : List Int} {sw : Int}
theorem PAt.setC (h : PAt C D H A P) (xs : List Int) : PAt C D (upd H A.c (.lst (xs.map V.int))) A { P with m := { P.m with cells := xs } } := by
  have n := h.ne
  exact ⟨by rw [upd_ne n.pc]; exact h.hp, by rw [upd_ne n.mc]; exact h.hm, upd_same, by rw [upd_ne n.ci.symm]; exact h.hi, by rw [upd_ne n.co.symm]; exact h.ho, by rw [upd_ne n.cq.symm]; exact h.hq, by rw [upd_ne n.cb.symm]; exact h.hb,
    fun i a ha => by rw [upd_ne (n.bs a (List.mem_of_getElem? ha)).2.2.1]; exact h.hbs i a ha, h.len, h.nd⟩
theorem PAt.obj (h : PAt C D H A P) : ∀ b ∈ A.foot, (∃ C dx fs, H b = some (.ins C dx fs)) ∨ ∃ xs, H b = some (.lst xs) := by
  intro b hb
  unfold PA.foot at hb
  rcases List.mem_append.mp hb with h1 | h1
  · simp only [List.mem_cons, List.not_mem_nil, or_false] at h1
    rcases h1 with rfl | rfl | rfl | rfl | rfl | rfl | rfl
    · exact .inl ⟨_, _, _, h.hp⟩
    · exact .inl ⟨_, _, _, h.hm⟩
    · exact .inr ⟨_, h.hc⟩
    · exact .inr ⟨_, h.hi⟩
    · exact .inr ⟨_, h.ho⟩
    · exact .inr ⟨_, h.hq⟩
    · exact .inr ⟨_, h.hb⟩
  · obtain ⟨i, hi⟩ := List.getElem?_of_mem h1
    obtain ⟨ws, _, w2⟩ := h.hbs i b hi
    exact .inr ⟨_, w2⟩
/-- a tuple stays -/
theorem PAt.tup (h : PAt C D H A P) (f : Fr A.foot H H') (ht : SqT K H a xs) : SqT K H' a xs := by
  rcases ht with (ht | ⟨o, ht⟩) | ht
  · refine .inl (.inl (f _ _ (fun hm => ?_) ht))
    rcases h.obj a hm with ⟨_, _, _, e⟩ | ⟨_, e⟩ <;> rw [e] at ht <;> cases ht
  · refine .inl (.inr ⟨o, f _ _ (fun hm => ?_) ht⟩)
    rcases h.obj a hm with ⟨_, _, _, e⟩ | ⟨_, e⟩ <;> rw [e] at ht <;> cases ht
  · exact .inr ht
/-- a list beside stays -/
theorem PAt.lst (f : Fr A.foot H H') (n : a ∉ A.foot) (ht : SqL K H a xs) : SqL K H' a xs := by
  rcases ht with (ht | ⟨o, ht⟩) | ht
  · exact .inl (.inl (f _ _ n ht))
  · exact .inl (.inr ⟨o, f _ _ n ht⟩)
  · exact .inr ht
/-- the other user stays -/
theorem PAt.other {A2 : PA} {P2 : Pn} (h : PAt C D H A2 P2) (f : Fr A.foot H H') (d : ∀ b ∈ A2.foot, b ∉ A.foot) : PAt C D H' A2 P2 := by
  have k : ∀ b o, b ∈ A2.foot → H b = some o → H' b = some o := fun b o hb e => f b o (d b hb) e
  obtain ⟨f1, f2, f3, f4, f5, f6, f7⟩ := PAt.fp A2
  exact ⟨k _ _ f1 h.hp, k _ _ f2 h.hm, k _ _ f3 h.hc, k _ _ f4 h.hi, k _ _ f5 h.ho, k _ _ f6 h.hq, k _ _ f7 h.hb, fun i b hb => by
    obtain ⟨ws, w1, w2⟩ := h.hbs i b hb
    exact ⟨ws, w1, k _ _ (by unfold PA.foot; exact List.mem_append_right _ (List.mem_of_getElem? hb)) w2⟩, h.len, h.nd⟩
theorem x_person (h : ValA tA σ H [.ref a, .int sw]) (hs : SqI K H a cs) {Q : VK} (q : ∀ A H', (∀ b ∈ A.foot, H b = none) → Same H H' → PAt C D H' A (newP cs sw) → Q (.ref A.p) H') : tMake D (spPerson K C D) [] E0 tA σ H Q :=
  h _ fun x dx nx nd ne => by
    have sm : Same H (upd (upd H dx (.own x)) x (.ins D dx [])) := smM (smN nd) nx
    refine ⟨x, dx, a, cs, sw, rfl, upd_same, hs.imp sm.seq (smT sm), fun A H' e1 e2 fr hA f => ⟨rfl, ?_⟩⟩
    subst e1
    refine q A H' (fun b hb => ?_) (fun b o e => f b o (by simp; exact ne_of_none e nx) (sm b o e)) hA
    rcases fr b hb with h1 | h1
    · rw [h1]; exact nx
    · exact sm.free h1
end
/-! ### pictures -/
theorem strOk_st (s : Str) (h : s = "stopped" ∨ s = "ready" ∨ s = "hears" ∨ s = "says" ∨ s = "sleeps") : PyData.strOk s = true := by
  rcases h with rfl | rfl | rfl | rfl | rfl <;> decide +kernel
def intsD (ns : List Int) : PyData := .tuple (ns.map PyData.int)
def blocksD (bs : List (List Int)) : PyData := .tuple (bs.map intsD)
def shotD (P : Pn) : PyData := .tuple [intsD P.m.cells, .int P.m.total, .int P.m.mark, .int P.m.pc, intsD P.inbox, intsD P.outbox, intsD P.paper, blocksD P.blocks, .int P.sw, .str P.st, .int P.nap, .int P.lost, .int P.done]
def StOk (P : Pn) : Prop := P.st = "stopped" ∨ P.st = "ready" ∨ P.st = "hears" ∨ P.st = "says" ∨ P.st = "sleeps"
theorem canLay_blocks : ∀ bs : List (List Int), PyData.canLayAll0 (bs.map intsD) = true
  | [] => rfl
  | b :: r => by rw [List.map_cons, PyData.canLayAll0, canLay_blocks r, intsD, PyData.canLay0, canLay_ints]; rfl
theorem depth_blocks : ∀ bs : List (List Int), PyData.depthAll (bs.map intsD) ≤ 1
  | [] => Nat.zero_le _
  | b :: r => by
    have := depth_blocks r
    rw [List.map_cons, PyData.depthAll, intsD, PyData.depth, depth_ints]
    omega
theorem shaped_shot {P : Pn} (h : StOk P) : SeqAt.shaped (shotD P) = true := by
  have hs := strOk_st _ h
  have hb := depth_blocks P.blocks
  unfold SeqAt.shaped shotD
  rw [Bool.and_eq_true_iff]
  constructor
  · simp only [PyData.canLay0, PyData.canLayAll0, intsD, blocksD, canLay_ints, canLay_blocks, hs, Bool.and_self, Bool.and_true]
  · apply decide_eq_true
    simp only [PyData.depth, PyData.depthAll, intsD, blocksD, depth_ints]
    have hb' : PyData.depthAll (List.map intsD P.blocks) ≤ 1 := hb
    omega
theorem eqv_ints_refl (ns : List Int) : PyData.eqv (intsD ns) (intsD ns) = true := by unfold intsD; rw [eqv_intsT]; simp
theorem eqvAll_blocks : ∀ bs : List (List Int), PyData.eqvAll (bs.map intsD) (bs.map intsD) = true
  | [] => rfl
  | b :: r => by rw [List.map_cons, PyData.eqvAll, eqv_ints_refl, eqvAll_blocks r]; rfl
theorem eqv_shot (P : Pn) : PyData.eqv (shotD P) (shotD P) = true := by
  unfold shotD
  simp only [PyData.eqv, PyData.eqvAll, eqv_ints_refl, blocksD, eqvAll_blocks, decide_true, Bool.and_self, beq_self_eq_true]
structure ShotAt (K : PySem.W.Frag) (H : Hp) (P : Pn) (a a0 a4 a5 a6 a7 : Addr) (as : List Addr) : Prop where
  top : SqT K H a [.ref a0, .int P.m.total, .int P.m.mark, .int P.m.pc, .ref a4, .ref a5, .ref a6, .ref a7, .int P.sw, .str P.st, .int P.nap, .int P.lost, .int P.done]
  cs : SqT K H a0 (P.m.cells.map V.int)
  ib : SqT K H a4 (P.inbox.map V.int)
  ob : SqT K H a5 (P.outbox.map V.int)
  pp : SqT K H a6 (P.paper.map V.int)
  bl : SqT K H a7 (as.map V.ref)
  len : as.length = P.blocks.length
  row : ∀ (i : Nat) b, as[i]? = some b → ∃ ws, P.blocks[i]? = some ws ∧ SqT K H b (ws.map V.int)
section
variable {K : PySem.W.Frag} {H H' : Hp} {P : Pn} {a a0 a4 a5 a6 a7 : Addr} {as : List Addr} {v : V} {vs : List V}
theorem dpAll_inv : ∀ {ns : List Int} {vs : List V}, DpAll K H vs (ns.map PyData.int) → vs = ns.map V.int
  | [], _, h => by cases h; rfl
  | n :: r, _, h => by
    cases h with
    | cons h1 h2 => cases h1; rw [dpAll_inv h2]; rfl
theorem dp_ints_inv {ns : List Int} (h : Dp K H v (intsD ns)) : ∃ b, v = .ref b ∧ SqT K H b (ns.map V.int) := by
  unfold intsD at h
  cases h with
  | tup h1 h2 => exact ⟨_, rfl, (dpAll_inv h2) ▸ h1⟩
theorem dpAll_rows : ∀ {bs : List (List Int)} {vs : List V}, DpAll K H vs (bs.map intsD) → ∃ as : List Addr, vs = as.map V.ref ∧ as.length = bs.length ∧ ∀ (i : Nat) b, as[i]? = some b → ∃ ws, bs[i]? = some ws ∧ SqT K H b (ws.map V.int)
  | [], _, h => by cases h; exact ⟨[], rfl, rfl, fun i b e => by cases e⟩
  | w :: r, _, h => by
    cases h with
    | cons h1 h2 =>
      obtain ⟨b, rfl, hb⟩ := dp_ints_inv h1
      obtain ⟨as, rfl, hl, hr⟩ := dpAll_rows h2
      refine ⟨b :: as, rfl, by simp [hl], fun i c e => ?_⟩
      cases i with
      | zero => cases e; exact ⟨w, rfl, hb⟩
      | succ i => exact hr i c e
theorem shot_inv (h : Dp K H (.ref a) (shotD P)) : ∃ a0 a4 a5 a6 a7 as, ShotAt K H P a a0 a4 a5 a6 a7 as := by
  unfold shotD at h
  cases h with
  | tup h0 h =>
  cases h with
  | cons z0 h =>
  cases h with
  | cons z1 h =>
  cases h with
  | cons z2 h =>
  cases h with
  | cons z3 h =>
  cases h with
  | cons z4 h =>
  cases h with
  | cons z5 h =>
  cases h with
  | cons z6 h =>
  cases h with
  | cons z7 h =>
  cases h with
  | cons z8 h =>
  cases h with
  | cons z9 h =>
  cases h with
  | cons z10 h =>
  cases h with
  | cons z11 h =>
  cases h with
  | cons z12 h =>
  cases h
  cases z1; cases z2; cases z3; cases z8; cases z9; cases z10; cases z11; cases z12
  obtain ⟨a0, rfl, e0⟩ := dp_ints_inv z0
  obtain ⟨a4, rfl, e4⟩ := dp_ints_inv z4
  obtain ⟨a5, rfl, e5⟩ := dp_ints_inv z5
  obtain ⟨a6, rfl, e6⟩ := dp_ints_inv z6
  unfold blocksD at z7
  cases z7 with
  | tup z7 h7 =>
  obtain ⟨as, rfl, hl, hr⟩ := dpAll_rows h7
  exact ⟨a0, a4, a5, a6, _, as, h0, e0, e4, e5, e6, z7, hl, hr⟩
theorem dp_ints {ns : List Int} (h : SqT K H a (ns.map V.int)) : Dp K H (.ref a) (intsD ns) := dp_intsT h
theorem dpAll_mk : ∀ {bs : List (List Int)} {as : List Addr}, as.length = bs.length → (∀ (i : Nat) b, as[i]? = some b → ∃ ws, bs[i]? = some ws ∧ SqT K H b (ws.map V.int)) → DpAll K H (as.map V.ref) (bs.map intsD)
  | [], [], _, _ => .nil
  | [], _ :: _, h, _ => by cases h
  | _ :: _, [], h, _ => by cases h
  | w :: r, b :: as, hl, h => by
    obtain ⟨ws, e, hb⟩ := h 0 b rfl
    cases e
    exact .cons (dp_ints hb) (dpAll_mk (by simpa using hl) fun i c e => h (i + 1) c e)
theorem ShotAt.dp (h : ShotAt K H P a a0 a4 a5 a6 a7 as) : Dp K H (.ref a) (shotD P) :=
  .tup h.top (.cons (dp_ints h.cs) (.cons (.int _) (.cons (.int _) (.cons (.int _) (.cons (dp_ints h.ib) (.cons (dp_ints h.ob) (.cons (dp_ints h.pp) (.cons (.tup h.bl (dpAll_mk h.len h.row)) (.cons (.int _) (.cons (.str _) (.cons (.int _) (.cons (.int _) (.cons (.int _) .nil)))))))))))))
theorem ShotAt.keep (h : ShotAt K H P a a0 a4 a5 a6 a7 as) (k : ∀ b xs, SqT K H b xs → SqT K H' b xs) : ShotAt K H' P a a0 a4 a5 a6 a7 as :=
  ⟨k _ _ h.top, k _ _ h.cs, k _ _ h.ib, k _ _ h.ob, k _ _ h.pp, k _ _ h.bl, h.len, fun i b e => by obtain ⟨ws, e1, e2⟩ := h.row i b e; exact ⟨ws, e1, k _ _ e2⟩⟩
theorem shot_keep (h : Dp K H (.ref a) (shotD P)) (k : ∀ b xs, SqT K H b xs → SqT K H' b xs) : Dp K H' (.ref a) (shotD P) := by
  obtain ⟨_, _, _, _, _, _, h⟩ := shot_inv h
  exact (h.keep k).dp
end
def spPicture (K : PySem.W.Frag) (C D : Addr) : Sp := fun vs H Q _ => ∃ (A : PA) (P : Pn), vs = [.ref A.p] ∧ PAt C D H A P ∧ P.blocks.length = 4 ∧ ∀ a H', Same H H' → Dp K H' (.ref a) (shotD P) → Q (.ref a) H'
def spPersonOf (K : PySem.W.Frag) (C D : Addr) : Sp := fun vs H Q _ => ∃ (a : Addr) (P : Pn), vs = [.ref a] ∧ Dp K H (.ref a) (shotD P) ∧ P.blocks.length = 4 ∧ ∀ A H', (∀ b ∈ A.foot, H b = none) → Same H H' → PAt C D H' A P → Q (.ref A.p) H'
def runP (P : Pn) (es : List Ev) : Pn := es.foldl happenP P
section
variable {σ : L2.St} {H : Hp} {K : PySem.W.Frag} {a D : Addr} {ta te : TE} {tA : TA} {xs : List V} {ns : List Int}
def rTupOf (K : PySem.W.Frag) : List V → Hp → VK → Prop := fun xs H Q => ∃ p ys, xs = [.ref p] ∧ ((SqL K H p ys ∧ ∀ l, H l = none → Q (.ref l) (upd H l (.tup ys))) ∨ (SqT K H p ys ∧ Q (.ref p) H))
/-- tuple(l) of a list: a new one -/
theorem x_tupL {Q : VK} (h : Val ta σ H (.ref a)) (hs : SqL K H a xs) (q : ∀ T H', Same H H' → H' T = some (.tup xs) → Q (.ref T) H') : tCB (rTupOf K) (tCons ta tNil) σ H Q := h _ ⟨a, xs, rfl, .inl ⟨hs, fun l hl => q l _ (smN hl) upd_same⟩⟩
theorem x_tupX {Q : VK} (h : ta σ H fun v H1 => rTupOf K [v] H1 Q) : tCB (rTupOf K) (tCons ta tNil) σ H Q := h
theorem no_tupL (h : Val ta σ H (.ref a)) (hs : SqL K H a xs) : NewO HO.tup (tCB (rTupOf K) (tCons ta tNil)) σ H xs := fun _ q => h _ ⟨a, xs, rfl, .inl ⟨hs, q⟩⟩
theorem no_list (h : Val ta σ H (.ref a)) (hs : SqL K H a xs ∨ SqT K H a xs) : NewO HO.lst (tCB (rListS K) (tCons ta tNil)) σ H xs := fun _ q => h _ ⟨a, xs, rfl, hs, q⟩
theorem xt_tup {Q : VK} (h : tA σ H fun vs H1 => vs.length ≤ sizeLine ∧ ∀ p, H1 p = none → Q (.ref p) (upd H1 p (.tup vs))) : tTup tA σ H Q := h
theorem xa_cons {Q : List V → Hp → Prop} (h : ta σ H fun x H1 => tA σ H1 fun xs H2 => Q (x :: xs) H2) : tCons ta tA σ H Q := h
theorem xa_nil {Q : List V → Hp → Prop} (h : Q [] H) : tNil σ H Q := h
theorem x_tup {Q : VK} (h : tA σ H fun vs H1 => vs.length ≤ 1000 ∧ ∀ p, H1 p = none → Q (.ref p) (upd H1 p (.tup vs))) (m : ∀ Q1 Q2 : List V → Hp → Prop, (∀ vs H, Q1 vs H → Q2 vs H) → tA σ H Q1 → tA σ H Q2) : tTup tA σ H Q :=
  m _ _ (fun vs H1 h => ⟨Nat.le_trans h.1 (by rw [sizeLine_eq]; decide), h.2⟩) h
theorem k_line {n : Nat} (h : n ≤ 1000) : n ≤ sizeLine := Nat.le_trans h (by rw [sizeLine_eq]; decide)
end
/-! ### events as tuples, loops over lists that a reading gives -/
theorem cutV_from {xs : List V} {i : Nat} : cutV xs (some (i : Int)) none = xs.drop i := by
  unfold cutV
  rw [HT.sIx_nat, HT.sIx_none]
  by_cases h : i ≤ xs.length
  · rw [Nat.min_eq_left h, List.take_of_length_le (by rw [List.length_drop]; omega)]
  · rw [Nat.min_eq_right (by omega), List.drop_eq_nil_of_le (Nat.le_refl _), List.drop_eq_nil_of_le (by omega), List.take_nil]
section
variable {σ : L2.St} {H H' H1 : Hp} {K : PySem.W.Frag} {C Dp_ a b D S W : Addr} {A : PA} {P : Pn} {te to : TE} {tA : TA} {xs r : List V} {rows : List (List V)} {as : List Addr} {tb tz : TS} {N : L2.St → Hp → Prop} {R : VK} {B C' : L2.St → Hp → Prop} {k : Nat} {mk : List V → HO} {es : List Ev}
theorem RInv.same (iv : RInv mk H D rows as H') (s : Same H' H1) : RInv mk H D rows as H1 :=
  ⟨iv.sm.trans s, iv.fr, iv.nd, s _ _ iv.hd, fun i a h => by obtain ⟨r, e1, e2⟩ := iv.rw_ i a h; exact ⟨r, e1, s _ _ e2⟩⟩
theorem x_appendT {Q : VK} (ho : Val to σ H' (.ref D)) (hD : H D = none) (iv : RInv HO.tup H D rows as H') (hn : as.length < 900000) (hA : ValA tA σ H' r) (hr : rows[as.length]? = some r) (hl : r.length ≤ 1000)
    (q : ∀ b H1, RInv HO.tup H D rows (as ++ [b]) H1 → Fr [D] H' H1 → Q .non H1) : tBM K "list" rAppend to (tCons (tTup tA) tNil) σ H' Q :=
  x_appendX ho iv.hd (hA _ ⟨k_line hl, fun b hb => by
    have nDb : D ≠ b := fun e => by rw [← e, iv.hd] at hb; cases hb
    exact ⟨D, as.map V.ref, .ref b, rfl, rfl, by rw [upd_ne nDb]; exact iv.hd, lt_line (by rw [List.length_map]; omega), q b _ (rinv_step hD iv hr hb) (Fr.same1 (smN hb) (Fr.upd (by simp)))⟩⟩)
/-- a for over a new list -/
theorem q_forLN (h : NewL te σ H xs) (Pv : Addr → Nat → L2.St → Hp → Prop) (h0 : ∀ S, H S = none → Pv S 0 σ (upd H S (.lst xs))) (hl : ∀ S (i : Nat) σ' H', Pv S i σ' H' → SqL K H' S xs)
    (hs : ∀ S (i : Nat) x σ' H', xs[i]? = some x → Pv S i σ' H' → tb ⟨Pv S (i + 1), R, tz ⟨N, R, B, C'⟩, Pv S (i + 1)⟩ (σ'.set k (some x)) H') (hd : ∀ S σ' H', Pv S xs.length σ' H' → tz ⟨N, R, B, C'⟩ σ' H') : tSeq (tFor (iList K te) (gName k) tb) tz ⟨N, R, B, C'⟩ σ H :=
  h _ fun S hS => s_forL (N := tz ⟨N, R, B, C'⟩) (B := B) (C' := C') (tl := tC (.ref S)) (σ := σ) (H := upd H S (.lst xs)) v_c (SqL.of upd_same) (Pv S) (h0 S hS) (hl S) (hs S) (hd S)
/-- a for over a list by any reading -/
theorem qx_forL (h : te σ H fun v H1 => tSeq (tFor (iList K (tC v)) (gName k) tb) tz ⟨N, R, B, C'⟩ σ H1) : tSeq (tFor (iList K te) (gName k) tb) tz ⟨N, R, B, C'⟩ σ H := h
def EvsAt (K : PySem.W.Frag) (H : Hp) (D : Addr) (es : List Ev) : Prop := ∃ as : List Addr, H D = some (.lst (as.map V.ref)) ∧ as.length = es.length ∧ ∀ (i : Nat) a, as[i]? = some a → ∃ e, es[i]? = some e ∧ SqT K H a (evV e)
theorem RInv.evs (iv : RInv HO.tup H D (es.map evV) as H') (hl : as.length = es.length) : EvsAt K H' D es := ⟨as, iv.hd, hl, fun i a h => by
  obtain ⟨r, e1, e2⟩ := iv.rw_ i a h
  rw [List.getElem?_map] at e1
  obtain ⟨e, e3, rfl⟩ := Option.map_eq_some_iff.mp e1
  exact ⟨e, e3, SqT.of e2⟩⟩
theorem EvsAt.same (h : EvsAt K H D es) (s : Same H H') : EvsAt K H' D es := by
  obtain ⟨as, h1, h2, h3⟩ := h
  exact ⟨as, s _ _ h1, h2, fun i a e => by obtain ⟨x, e1, e2⟩ := h3 i a e; exact ⟨x, e1, smT s e2⟩⟩
/-- a user beside a change -/
theorem PAt.beside {o : HO} (h : PAt C Dp_ H A P) (n : W ∉ A.foot) : PAt C Dp_ (upd H W o) A P := by
  have k : ∀ b u, b ∈ A.foot → H b = some u → upd H W o b = some u := fun b u hb e => by rw [upd_ne (fun q => n (by rw [← q]; exact hb))]; exact e
  obtain ⟨f1, f2, f3, f4, f5, f6, f7⟩ := PAt.fp A
  exact ⟨k _ _ f1 h.hp, k _ _ f2 h.hm, k _ _ f3 h.hc, k _ _ f4 h.hi, k _ _ f5 h.ho, k _ _ f6 h.hq, k _ _ f7 h.hb, fun i b hb => by
    obtain ⟨ws, w1, w2⟩ := h.hbs i b hb
    exact ⟨ws, w1, k _ _ (by unfold PA.foot; exact List.mem_append_right _ (List.mem_of_getElem? hb)) w2⟩, h.len, h.nd⟩
theorem PAt.here (h : PAt C Dp_ H A P) (n : H W = none) : W ∉ A.foot := fun hm => by
  rcases h.obj W hm with ⟨_, _, _, e⟩ | ⟨_, e⟩ <;> rw [e] at n <;> cases n
theorem Fr.more {F : List Addr} (f : Fr A.foot H H') (g : ∀ b ∈ A.foot, b ∈ F) : Fr F H H' := fun b o n e => f b o (fun m => n (g b m)) e
theorem Fr.tupF {F : List Addr} (f : Fr F H H') (no : ∀ b ∈ F, (∃ C dx fs, H b = some (.ins C dx fs)) ∨ ∃ xs, H b = some (.lst xs)) (ht : SqT K H a xs) : SqT K H' a xs := by
  rcases ht with (ht | ⟨o, ht⟩) | ht
  · refine .inl (.inl (f _ _ (fun hm => ?_) ht))
    rcases no a hm with ⟨_, _, _, e⟩ | ⟨_, e⟩ <;> rw [e] at ht <;> cases ht
  · refine .inl (.inr ⟨o, f _ _ (fun hm => ?_) ht⟩)
    rcases no a hm with ⟨_, _, _, e⟩ | ⟨_, e⟩ <;> rw [e] at ht <;> cases ht
  · exact .inr ht
end
/-- a def that makes a list of events out of the script -/
def spEvs (K : PySem.W.Frag) (f : List Int → List Ev) : Sp := fun vs H Q _ => ∃ (a : Addr) (ns : List Int), vs = [.ref a] ∧ SqL K H a (ns.map V.int) ∧ ns.length ≤ 63 ∧ ∀ D H', H D = none → Same H H' → EvsAt K H' D (f ns) → Q (.ref D) H'
theorem wf_newP {cs : List Int} {sw : Int} (h : cs.length = 64) (hc : ∀ c ∈ cs, 0 ≤ c ∧ c < 1024) (s0 : 0 ≤ sw) (s1 : sw < 1024) : WfP (newP cs sw) :=
  ⟨⟨⟨h, by show (0 : Int) ≤ 0; decide, by show (0 : Int) < 64; decide⟩, hc, by show (0 : Int) ≤ 0; decide, by show (0 : Int) < 1024; decide, .inl rfl⟩, by show 0 ≤ 16; decide, fun x h => (by cases h), by show 0 ≤ 16; decide, rfl, fun b hb => by
    have e : b = List.replicate 16 0 := (List.mem_replicate.mp hb).2
    subst e
    exact ⟨by simp, fun x hx => by rw [(List.mem_replicate.mp hx).2]; decide⟩, s0, s1⟩
theorem isi_str {K : PySem.W.Frag} {σ : L2.St} {H : Hp} {ta : TE} {s : Str} (h : Val ta σ H (.str s)) : ∃ y t, Val ta σ H y ∧ TyX K H y (.type t) ∧ PySem.W.kitOne K (.type t) (.type "str") = some true := ⟨_, "str", h, .base (.str _), kit_ty (by decide +kernel)⟩
theorem hearP_nil {P : Pn} (h : P.inbox = []) : hearP P = againP P "hears" := by unfold hearP; rw [h]
theorem hearP_cons {P : Pn} {x : Int} {r : List Int} (h : P.inbox = x :: r) : hearP P = { P with m := { P.m with total := x }, inbox := r } := by unfold hearP; rw [h]
/-! ### the mirror, step by step -/
theorem ask_0 {P : Pn} (h : P.inbox = []) : askP P 0 = P := by unfold askP; rw [h]; rfl
theorem ask_0s {P : Pn} (h : P.inbox ≠ []) : askP P 0 = skipP P := by
  unfold askP
  rw [if_pos (by cases hx : P.inbox with
    | nil => exact absurd hx h
    | cons x r => rfl)]
theorem ask_1 (P : Pn) : askP P 1 = hearP P := by unfold askP; rw [if_neg (by simp), if_pos rfl]
theorem ask_2 {P : Pn} (h : P.outbox.length = 16) : askP P 2 = P := by unfold askP; rw [h]; rfl
theorem ask_2s {P : Pn} (h : P.outbox.length < 16) : askP P 2 = skipP P := by unfold askP; rw [if_pos (by simp [h])]
theorem ask_3 (P : Pn) : askP P 3 = sayP P := by unfold askP; rw [if_neg (by simp), if_neg (by decide), if_pos rfl]
theorem ask_4 (P : Pn) : askP P 4 = dozeP P := by unfold askP; rw [if_neg (by simp), if_neg (by decide), if_neg (by decide), if_pos rfl]
theorem ask_5 (P : Pn) : askP P 5 = carryP P true := by unfold askP; rw [if_neg (by simp), if_neg (by decide), if_neg (by decide), if_neg (by decide), if_pos rfl]
theorem ask_6 (P : Pn) : askP P 6 = carryP P false := by unfold askP; rw [if_neg (by simp), if_neg (by decide), if_neg (by decide), if_neg (by decide), if_neg (by decide), if_pos rfl]
theorem ask_7 (P : Pn) : askP P 7 = { P with st := "stopped" } := by unfold askP; rw [if_neg (by simp), if_neg (by decide), if_neg (by decide), if_neg (by decide), if_neg (by decide), if_neg (by decide), if_pos rfl]
theorem ask_8 (P : Pn) : askP P 8 = { P with m := { P.m with total := P.sw } } := by unfold askP; rw [if_neg (by simp), if_neg (by decide), if_neg (by decide), if_neg (by decide), if_neg (by decide), if_neg (by decide), if_neg (by decide), if_pos rfl]
theorem ask_hi {P : Pn} {p : Int} (h : 8 < p) : askP P p = P := by
  unfold askP
  rw [if_neg (by simp; omega), if_neg (by omega), if_neg (by omega), if_neg (by omega), if_neg (by omega), if_neg (by omega), if_neg (by omega), if_neg (by omega)]
theorem step_ask {P : Pn} {n : Int} (hg : getC P.m P.m.pc = n) (h6 : n / 128 = 6) (s : P.st = "ready") : happenP P .step = askP { P with done := P.done + 1, m := skipM P.m } (n % 64) := by
  show (if P.st = "ready" then stepP P else P) = _
  rw [if_pos s]
  unfold stepP
  have e : deedM P.m = skipM P.m := by unfold deedM; rw [hg]; dsimp only; rw [if_neg (by omega), if_pos h6]
  rw [hg, if_pos h6, e]
theorem step_own {P : Pn} {n : Int} (hg : getC P.m P.m.pc = n) (h6 : ¬ n / 128 = 6) (s : P.st = "ready") : happenP P .step = { P with done := P.done + 1, m := deedM P.m } := by
  show (if P.st = "ready" then stepP P else P) = _
  rw [if_pos s]
  unfold stepP
  rw [hg, if_neg h6]
theorem step_not {P : Pn} (s : P.st ≠ "ready") : happenP P .step = P := by show (if P.st = "ready" then stepP P else P) = _; rw [if_neg s]
theorem start_not {P : Pn} {p : Int} (s : P.st ≠ "stopped") : happenP P (.start p) = P := by show (if P.st = "stopped" then _ else P) = _; rw [if_neg s]
/-- what a key leaves -/
theorem key_same (P : Pn) (l : Int) : (happenP P (.key l)).m = P.m ∧ (happenP P (.key l)).outbox = P.outbox ∧ (happenP P (.key l)).paper = P.paper ∧ (happenP P (.key l)).blocks = P.blocks ∧ (happenP P (.key l)).sw = P.sw ∧ (happenP P (.key l)).nap = P.nap ∧ (happenP P (.key l)).done = P.done ∧
    (happenP P (.key l)).inbox = (if P.inbox.length < 16 then P.inbox ++ [l] else P.inbox) ∧ (happenP P (.key l)).lost = (if P.inbox.length < 16 then P.lost else P.lost + 1) ∧ (happenP P (.key l)).st = (if P.st = "hears" then ("ready" : Str) else P.st) := by
  show (heardP P l).m = _ ∧ (heardP P l).outbox = _ ∧ (heardP P l).paper = _ ∧ (heardP P l).blocks = _ ∧ (heardP P l).sw = _ ∧ (heardP P l).nap = _ ∧ (heardP P l).done = _ ∧ (heardP P l).inbox = _ ∧ (heardP P l).lost = _ ∧ (heardP P l).st = _
  unfold heardP wakeP
  by_cases c : P.inbox.length < 16 <;> by_cases d : P.st = "hears"
  · simp only [if_pos c, if_pos d]; refine ⟨?_, ?_, ?_, ?_, ?_, ?_, ?_, ?_, ?_, ?_⟩ <;> first | rfl | trivial
  · simp only [if_pos c, if_neg d]; refine ⟨?_, ?_, ?_, ?_, ?_, ?_, ?_, ?_, ?_, ?_⟩ <;> first | rfl | trivial
  · simp only [if_neg c, if_pos d]; refine ⟨?_, ?_, ?_, ?_, ?_, ?_, ?_, ?_, ?_, ?_⟩ <;> first | rfl | trivial
  · simp only [if_neg c, if_neg d]; refine ⟨?_, ?_, ?_, ?_, ?_, ?_, ?_, ?_, ?_, ?_⟩ <;> first | rfl | trivial
/-! ### a list of ints and ints beside: (list(cells), total, ..) -/
def rowD (cs xs : List Int) : PyData := .tuple (.list (cs.map PyData.int) :: xs.map PyData.int)
theorem shaped_row (cs xs : List Int) : SeqAt.shaped (rowD cs xs) = true := by
  unfold SeqAt.shaped rowD
  rw [Bool.and_eq_true_iff]
  constructor
  · rw [PyData.canLay0, PyData.canLayAll0, PyData.canLay0, canLay_ints, canLay_ints]; rfl
  · apply decide_eq_true
    rw [PyData.depth, PyData.depthAll, PyData.depth, depth_ints, depth_ints]
    decide
theorem eqv_row (cs xs cs' xs' : List Int) : PyData.eqv (rowD cs xs) (rowD cs' xs') = (decide (cs = cs') && decide (xs = xs')) := by
  unfold rowD
  rw [PyData.eqv, PyData.eqvAll, eqv_intsL, eqvAll_ints]
theorem dp_row {K : PySem.W.Frag} {H : Hp} {T L : Addr} {cs xs : List Int} (h : SqT K H T (.ref L :: xs.map V.int)) (hl : SqL K H L (cs.map V.int)) : Dp K H (.ref T) (rowD cs xs) := .tup h (.cons (dp_intsL hl) (dpAll_ints xs))
section
variable {σ : L2.St} {H H' : Hp} {K : PySem.W.Frag} {C D a b T : Addr} {A : PA} {P : Pn} {te ta tb to : TE} {tA : TA} {xs : List V} {cs : List Int}
/-- (0,) * 16 -/
theorem x_zeros {Q : VK} (q : ∀ T H', Same H H' → H' T = some (.tup ((List.replicate 16 (0 : Int)).map V.int)) → Q (.ref T) H') : tOp (rRepT K) (tTup (tCons (tC (.int 0)) tNil)) (tC (.int 16)) σ H Q :=
  (show tTup (tCons (tC (.int 0)) tNil) σ H _ from xt_tup ((va_cons v_c va_nil) _ ⟨k_line (by show 1 ≤ 1000; decide), fun T0 h0 => x_v v_c ⟨T0, 16, [.int 0], rfl, rfl, SqT.of upd_same, by simp, by decide, by decide, by simp, fun p hp => q p _ ((smN h0).trans (smN hp)) (by rw [upd_same]; rfl)⟩⟩))
theorem v_toInt {c : Bool} (h : Val ta σ H (.bl c)) {r : List V → Hp → VK → Prop} (e : r = fun xs H Q => (∃ i, xs = [.int i] ∧ Q (.int i) H) ∨ ∃ k, xs = [.bl k] ∧ Q (.int (if k then 1 else 0)) H := by rfl) : Val (tCB r (tCons ta tNil)) σ H (.int (if c then 1 else 0)) := by
  subst e
  exact v_cb (va_cons h va_nil) fun _ q => .inr ⟨c, rfl, q⟩
theorem v_min {i j : Int} (ha : Val ta σ H (.int i)) (hb : Val tb σ H (.int j)) {r : List V → Hp → VK → Prop} (e : r = fun xs H Q => ∃ i j, xs = [.int i, .int j] ∧ Q (.int (if j < i then j else i)) H := by rfl) : Val (tCB r (tCons ta (tCons tb tNil))) σ H (.int (if j < i then j else i)) := by
  subst e
  exact v_cb (va_cons ha (va_cons hb va_nil)) fun _ q => ⟨i, j, rfl, q⟩
/-- a call that happens to a user, by its Cal's promise -/
theorem x_hap {e : Ev} {Q : VK} (h : ValA tA σ H [.ref A.p, .ref a]) (hP : PAt C D H A P) (w : WfP P) (hs : Short P) (hE : SqT K H a (evV e)) (q : Nx C D A H (happenP P e) (Q .non)) : tCall (spHappen K C D) [] E0 tA σ H Q := x_call h ⟨A, P, a, e, rfl, hP, w, hs, hE, q⟩
end
def zeroP (cs : List Int) (t pc : Int) (st : Str) : Pn := ⟨⟨cs, t, 0, pc⟩, [], [], [], List.replicate 4 (List.replicate 16 0), 0, st, 0, 0, 0⟩
theorem wf_zeroP {cs : List Int} {t pc : Int} {st : Str} (h : cs.length = 64) (hc : ∀ c ∈ cs, 0 ≤ c ∧ c < 1024) (t0 : 0 ≤ t ∧ t < 1024) (p0 : 0 ≤ pc ∧ pc < 64) : WfP (zeroP cs t pc st) :=
  ⟨⟨⟨h, p0.1, p0.2⟩, hc, t0.1, t0.2, .inl rfl⟩, by show 0 ≤ 16; decide, fun x h => (by cases h), by show 0 ≤ 16; decide, rfl, fun b hb => by
    have e : b = List.replicate 16 0 := (List.mem_replicate.mp hb).2
    subst e
    exact ⟨by simp, fun x hx => by rw [(List.mem_replicate.mp hx).2]; decide⟩, by show (0 : Int) ≤ 0; decide, by show (0 : Int) < 1024; decide⟩
def spShot (K : PySem.W.Frag) : Sp := fun vs H Q _ => ∃ (a : Addr) (cs : List Int) (t pc : Int) (st : Str), vs = [.ref a, .int t, .int pc, .str st] ∧ SqL K H a (cs.map V.int) ∧ ∀ b H', Same H H' → Dp K H' (.ref b) (shotD (zeroP cs t pc st)) → Q (.ref b) H'
theorem zeros_rows {K : PySem.W.Frag} {H : Hp} {T1 T2 T3 T4 : Addr} (h1 : H T1 = some (.tup ((List.replicate 16 (0 : Int)).map V.int))) (h2 : H T2 = some (.tup ((List.replicate 16 (0 : Int)).map V.int))) (h3 : H T3 = some (.tup ((List.replicate 16 (0 : Int)).map V.int))) (h4 : H T4 = some (.tup ((List.replicate 16 (0 : Int)).map V.int))) :
    ∀ (i : Nat) b, [T1, T2, T3, T4][i]? = some b → ∃ ws, (List.replicate 4 (List.replicate 16 (0 : Int)))[i]? = some ws ∧ SqT K H b (ws.map V.int)
  | 0, b, e => by cases e; exact ⟨_, rfl, SqT.of h1⟩
  | 1, b, e => by cases e; exact ⟨_, rfl, SqT.of h2⟩
  | 2, b, e => by cases e; exact ⟨_, rfl, SqT.of h3⟩
  | 3, b, e => by cases e; exact ⟨_, rfl, SqT.of h4⟩
  | i + 4, b, e => by cases e
section
variable {σ : L2.St} {H H' : Hp} {K : PySem.W.Frag} {te ta tb ti : TE} {tA : TA} {sp : Sp} {v : V}
theorem xt_lst {Q : VK} (h : tA σ H fun vs H1 => vs.length ≤ sizeLine ∧ ∀ p, H1 p = none → Q (.ref p) (upd H1 p (.lst vs))) : tLst tA σ H Q := h
theorem x_test' {Q : Bool → Hp → Prop} (h : te σ H fun x H1 => ∃ k, x = .bl k ∧ Q k H1) : tB te σ H Q := h
/-- a call by its arguments' readings -/
theorem xc {Q : VK} (h : tA σ H fun vs H1 => sp vs H1 Q E0) : tCall sp [] E0 tA σ H Q := by
  unfold tCall
  simp only [List.append_nil]
  exact h
theorem xc_1 {Q : VK} (h : ta σ H fun v H1 => sp [v] H1 Q E0) : tCall sp [] E0 (tCons ta tNil) σ H Q := h
theorem xc_2 {Q : VK} (ha : Val ta σ H v) (h : tb σ H fun x H1 => sp [v, x] H1 Q E0) : tCall sp [] E0 (tCons ta (tCons tb tNil)) σ H Q := ha _ h
theorem xc_4 {Q : VK} (h : ta σ H fun v H1 => tA σ H1 fun vs H2 => sp (v :: vs) H2 Q E0) : tCall sp [] E0 (tCons ta tA) σ H Q := xc (tA := tCons ta tA) h
/-- an item of a written list of strs -/
theorem v_menuS (ws : List Str) {i : Int} (h : ValA tA σ H (ws.map V.str)) (hl : ws.length ≤ 1000) (hi : ∀ H', Same H H' → Val ti σ H' (.int i)) (h0 : 0 ≤ i) (h1 : i < (ws.length : Int)) {Q : VK} (q : ∀ H', Same H H' → Q (.str (ws.getD i.toNat default)) H') : tOp (rIxL K) (tLst tA) ti σ H Q :=
  h _ ⟨k_line (by rw [List.length_map]; exact hl), fun D hD => hi _ (smN hD) _ ⟨D, _, i, _, rfl, rfl, SqL.of upd_same, at_of (j := i.toNat) (by omega) (by
    have hl2 : i.toNat < ws.length := by omega
    rw [List.getElem?_map, List.getElem?_eq_getElem hl2]
    simp [List.getD_eq_getElem?_getD, List.getElem?_eq_getElem hl2]), q _ (smN hD)⟩⟩
end
section
variable {σ : L2.St} {H : Hp} {K : PySem.W.Frag} {te : TE} {g : TG} {tb tz : TS} {N : L2.St → Hp → Prop} {R : VK} {B C' : L2.St → Hp → Prop}
theorem qx_forE (h : te σ H fun v H1 => tSeq (tFor (iEnum K (fun _ H Q => Q [v] H)) g tb) tz ⟨N, R, B, C'⟩ σ H1) : tSeq (tFor (iEnum K (tCons te tNil)) g tb) tz ⟨N, R, B, C'⟩ σ H := h
end
/-! ### data beside objects that change -/
abbrev FS := Addr → Prop
structure LsA (H : Hp) (F : FS) (a : Addr) (xs : List V) : Prop where
  at_ : H a = some (.lst xs)
  no : ¬ F a
structure TpA (K : PySem.W.Frag) (H : Hp) (F : FS) (a : Addr) (xs : List V) : Prop where
  sq : SqT K H a xs
  no : ¬ F a ∨ ∀ H', SqT K H' a xs
mutual
inductive Da (K : PySem.W.Frag) (H : Hp) (F : FS) : V → PyData → Prop
  | non : Da K H F .non .none
  | bl (b : Bool) : Da K H F (.bl b) (.bool b)
  | int (i : Int) : Da K H F (.int i) (.int i)
  | str (x : Str) : Da K H F (.str x) (.str x)
  | lst {a : Addr} {xs : List V} {ds : List PyData} : LsA H F a xs → DaAll K H F xs ds → Da K H F (.ref a) (.list ds)
  | tup {a : Addr} {xs : List V} {ds : List PyData} : TpA K H F a xs → DaAll K H F xs ds → Da K H F (.ref a) (.tuple ds)
inductive DaAll (K : PySem.W.Frag) (H : Hp) (F : FS) : List V → List PyData → Prop
  | nil : DaAll K H F [] []
  | cons {v : V} {vs : List V} {d : PyData} {ds : List PyData} : Da K H F v d → DaAll K H F vs ds → DaAll K H F (v :: vs) (d :: ds)
end
section
variable {K : PySem.W.Frag} {H H' H1 H2 : Hp} {F F' F1 F2 : FS} {v : V} {vs ws : List V} {d e : PyData} {ds es : List PyData} {a b : Addr} {xs : List V} {i : Int}
mutual
theorem Da.dp0 : ∀ (d : PyData) (v : V), Da K H F v d → Dp K H v d
  | .none, _, h => by cases h; exact .non
  | .bool b, _, h => by cases h; exact .bl b
  | .int i, _, h => by cases h; exact .int i
  | .str x, _, h => by cases h; exact .str x
  | .list ds, _, h => by cases h with | lst h1 h2 => exact .lst (SqL.of h1.at_) (DaAll.dp0 ds _ h2)
  | .tuple ds, _, h => by cases h with | tup h1 h2 => exact .tup h1.sq (DaAll.dp0 ds _ h2)
  | .dict _, _, h => by cases h
theorem DaAll.dp0 : ∀ (ds : List PyData) (vs : List V), DaAll K H F vs ds → DpAll K H vs ds
  | [], _, h => by cases h; exact .nil
  | d :: ds, _, h => by cases h with | cons h1 h2 => exact .cons (Da.dp0 d _ h1) (DaAll.dp0 ds _ h2)
end
theorem Da.dp (h : Da K H F v d) : Dp K H v d := Da.dp0 d v h
mutual
theorem Da.map0 (hl : ∀ a xs, LsA H F a xs → LsA H' F' a xs) (ht : ∀ a xs, TpA K H F a xs → TpA K H' F' a xs) : ∀ (d : PyData) (v : V), Da K H F v d → Da K H' F' v d
  | .none, _, h => by cases h; exact .non
  | .bool b, _, h => by cases h; exact .bl b
  | .int i, _, h => by cases h; exact .int i
  | .str x, _, h => by cases h; exact .str x
  | .list ds, _, h => by cases h with | lst h1 h2 => exact .lst (hl _ _ h1) (DaAll.map0 hl ht ds _ h2)
  | .tuple ds, _, h => by cases h with | tup h1 h2 => exact .tup (ht _ _ h1) (DaAll.map0 hl ht ds _ h2)
  | .dict _, _, h => by cases h
theorem DaAll.map0 (hl : ∀ a xs, LsA H F a xs → LsA H' F' a xs) (ht : ∀ a xs, TpA K H F a xs → TpA K H' F' a xs) : ∀ (ds : List PyData) (vs : List V), DaAll K H F vs ds → DaAll K H' F' vs ds
  | [], _, h => by cases h; exact .nil
  | d :: ds, _, h => by cases h with | cons h1 h2 => exact .cons (Da.map0 hl ht d _ h1) (DaAll.map0 hl ht ds _ h2)
end
/-- from H with the changing F to H' with F' -/
structure Mv (F : FS) (H : Hp) (F' : FS) (H' : Hp) : Prop where
  keep : ∀ b o, ¬ F b → H b = some o → H' b = some o
  new : ∀ b, F' b → F b ∨ H b = none
theorem Mv.refl : Mv F H F H := ⟨fun _ _ _ h => h, fun _ h => .inl h⟩
theorem Mv.trans (p : Mv F H F1 H1) (q : Mv F1 H1 F2 H2) : Mv F H F2 H2 := by
  refine ⟨fun b o n e => q.keep b o (fun f => ?_) (p.keep b o n e), fun b f => ?_⟩
  · rcases p.new b f with h | h
    · exact n h
    · rw [e] at h; cases h
  · rcases q.new b f with h | h
    · exact p.new b h
    · by_cases c : F b
      · exact .inl c
      · cases e : H b with
        | none => exact .inr rfl
        | some o => rw [p.keep b o c e] at h; cases h
theorem Mv.same (s : Same H H') : Mv F H F H' := ⟨fun b o _ e => s b o e, fun _ h => .inl h⟩
theorem Mv.less (h : ∀ b, F' b → F b) : Mv F H F' H := ⟨fun _ _ _ e => e, fun b f => .inl (h b f)⟩
theorem Mv.more (h : ∀ b, F' b → F b ∨ H b = none) : Mv F H F' H := ⟨fun _ _ _ e => e, h⟩
/-- a change of one part, all else beside -/
theorem Mv.part {G G' : FS} (p : Mv G H G' H') (h : ∀ b, G b → F b) : Mv F H (fun b => F b ∨ G' b) H' := ⟨fun b o n e => p.keep b o (fun g => n (h b g)) e, fun b f => f.elim .inl (fun g => (p.new b g).imp (h b) id)⟩
theorem LsA.mv (m : Mv F H F' H') (h : LsA H F a xs) : LsA H' F' a xs := ⟨m.keep _ _ h.no h.at_, fun f => (m.new a f).elim h.no (fun e => by rw [h.at_] at e; cases e)⟩
theorem TpA.mv (m : Mv F H F' H') (h : TpA K H F a xs) : TpA K H' F' a xs := by
  obtain ⟨h, n⟩ := h
  rcases n with n | n
  · rcases h with (h | ⟨o, h⟩) | h
    · exact ⟨.inl (.inl (m.keep _ _ n h)), .inl fun f => (m.new a f).elim n (fun e => by rw [h] at e; cases e)⟩
    · exact ⟨.inl (.inr ⟨o, m.keep _ _ n h⟩), .inl fun f => (m.new a f).elim n (fun e => by rw [h] at e; cases e)⟩
    · exact ⟨.inr h, .inr fun _ => .inr h⟩
  · exact ⟨n _, .inr n⟩
theorem Da.mv (m : Mv F H F' H') (h : Da K H F v d) : Da K H' F' v d := Da.map0 (fun _ _ => LsA.mv m) (fun _ _ => TpA.mv m) d v h
theorem DaAll.mv (m : Mv F H F' H') (h : DaAll K H F vs ds) : DaAll K H' F' vs ds := DaAll.map0 (fun _ _ => LsA.mv m) (fun _ _ => TpA.mv m) ds vs h
theorem Da.same (s : Same H H') (h : Da K H F v d) : Da K H' F v d := h.mv (.same s)
theorem DaAll.same (s : Same H H') (h : DaAll K H F vs ds) : DaAll K H' F vs ds := h.mv (.same s)
theorem DaAll.len : ∀ {vs : List V} {ds : List PyData}, DaAll K H F vs ds → vs.length = ds.length
  | _, _, .nil => rfl
  | _, _, .cons _ h => by rw [List.length_cons, List.length_cons, h.len]
theorem DaAll.get : ∀ {vs : List V} {ds : List PyData} (i : Nat), DaAll K H F vs ds → vs[i]? = some v → ds[i]? = some d → Da K H F v d
  | _, _, 0, .cons h _, e, f => by cases e; cases f; exact h
  | _, _, i + 1, .cons _ h, e, f => h.get i e f
theorem DaAll.get' : ∀ {vs : List V} {ds : List PyData} (i : Nat), DaAll K H F vs ds → ds[i]? = some d → ∃ v, vs[i]? = some v ∧ Da K H F v d
  | _, _, 0, .cons h _, f => by cases f; exact ⟨_, rfl, h⟩
  | _, _, i + 1, .cons _ h, f => h.get' i f
theorem DaAll.getV : ∀ {vs : List V} {ds : List PyData} (i : Nat), DaAll K H F vs ds → vs[i]? = some v → ∃ d, ds[i]? = some d ∧ Da K H F v d
  | _, _, 0, .cons h _, f => by cases f; exact ⟨_, rfl, h⟩
  | _, _, i + 1, .cons _ h, f => h.getV i f
theorem DaAll.app : ∀ {vs : List V} {ds : List PyData}, DaAll K H F vs ds → DaAll K H F ws es → DaAll K H F (vs ++ ws) (ds ++ es)
  | _, _, .nil, h => h
  | _, _, .cons h t, h2 => .cons h (t.app h2)
theorem DaAll.take : ∀ {vs : List V} {ds : List PyData} (n : Nat), DaAll K H F vs ds → DaAll K H F (vs.take n) (ds.take n)
  | _, _, 0, _ => .nil
  | _, _, _ + 1, .nil => .nil
  | _, _, n + 1, .cons h t => .cons h (t.take n)
theorem DaAll.drop : ∀ {vs : List V} {ds : List PyData} (n : Nat), DaAll K H F vs ds → DaAll K H F (vs.drop n) (ds.drop n)
  | _, _, 0, h => h
  | _, _, _ + 1, .nil => .nil
  | _, _, n + 1, .cons _ t => t.drop n
theorem daAll_ints : ∀ ns : List Int, DaAll K H F (ns.map V.int) (ns.map PyData.int)
  | [] => .nil
  | n :: r => .cons (.int n) (daAll_ints r)
theorem DaAll.ints : ∀ {vs : List V} {ns : List Int}, DaAll K H F vs (ns.map PyData.int) → vs = ns.map V.int
  | _, [], h => by cases h; rfl
  | _, n :: r, h => by cases h with | cons h1 h2 => cases h1; rw [h2.ints]; rfl
theorem Da.intsT {ns : List Int} (h : SqT K H a (ns.map V.int)) (n : ¬ F a) : Da K H F (.ref a) (intsD ns) := .tup ⟨h, .inl n⟩ (daAll_ints ns)
theorem Da.intsL {ns : List Int} (h : H a = some (.lst (ns.map V.int))) (n : ¬ F a) : Da K H F (.ref a) (.list (ns.map PyData.int)) := .lst ⟨h, n⟩ (daAll_ints ns)
/-- the changing ones stand in the heap -/
def FA (F : FS) (H : Hp) : Prop := ∀ b, F b → H b ≠ none
theorem FA.same (s : Same H H') (h : FA F H) : FA F H' := fun b f e => h b f (s.free e)
theorem FA.no (h : FA F H) (e : H a = none) : ¬ F a := fun f => h a f e
theorem FA.none : FA (fun _ => False) H := fun _ f => f.elim
theorem FA.or (h1 : FA F H) (h2 : FA F' H) : FA (fun b => F b ∨ F' b) H := fun b f => f.elim (h1 b) (h2 b)
end
/-- tuples stay -/
def TpS (H H' : Hp) : Prop := ∀ b xs, H b = some (.tup xs) → H' b = some (.tup xs)
theorem TpS.same {H H' : Hp} (s : Same H H') : TpS H H' := fun b xs e => s _ _ e
theorem TpS.upd {H : Hp} {D : Addr} {vs : List V} {o : HO} (h : H D = some (.lst vs)) : TpS H (upd H D o) := fun b xs e => by rw [upd_ne (fun q => by rw [q, h] at e; cases e)]; exact e
/-- a world W that looks only at F, and at tuples -/
structure Wo (F : FS) (W : Hp → Prop) : Prop where
  loc : ∀ H H', (∀ b o, F b → H b = some o → H' b = some o) → TpS H H' → W H → W H'
structure Ok (F : FS) (W : Hp → Prop) (H : Hp) : Prop where
  fa : FA F H
  w : W H
abbrev wT : Hp → Prop := fun _ => True
theorem woT {F : FS} : Wo F wT := ⟨fun _ _ _ _ _ => trivial⟩
/-- a reading gives d, as new or as it was -/
def Dv (K : PySem.W.Frag) (F : FS) (W : Hp → Prop) (te : TE) (σ : L2.St) (H : Hp) (d : PyData) : Prop := ∀ H1, Mv F H F H1 → Ok F W H1 → ∀ Q : VK, (∀ v H', Mv F H1 F H' → Ok F W H' → Da K H' F v d → Q v H') → te σ H1 Q
def DvA (K : PySem.W.Frag) (F : FS) (W : Hp → Prop) (tA : TA) (σ : L2.St) (H : Hp) (ds : List PyData) : Prop := ∀ H1, Mv F H F H1 → Ok F W H1 → ∀ Q : List V → Hp → Prop, (∀ vs H', Mv F H1 F H' → Ok F W H' → DaAll K H' F vs ds → Q vs H') → tA σ H1 Q
def withF (F : FS) (D : Addr) : FS := fun b => F b ∨ b = D
/-- the list at D, its items beside it -/
def OwL (K : PySem.W.Frag) (F : FS) (D : Addr) (H : Hp) (ds : List PyData) : Prop := ∃ vs, H D = some (.lst vs) ∧ DaAll K H (withF F D) vs ds
/-- a reading gives a new list -/
def DvN (K : PySem.W.Frag) (F : FS) (W : Hp → Prop) (te : TE) (σ : L2.St) (H : Hp) (ds : List PyData) : Prop := ∀ H1, Mv F H F H1 → Ok F W H1 → ∀ Q : VK, (∀ D H', H1 D = none → Mv F H1 F H' → Ok F W H' → OwL K F D H' ds → Q (.ref D) H') → te σ H1 Q
section
variable {K : PySem.W.Frag} {H H' : Hp} {F F1 : FS} {W : Hp → Prop} {σ : L2.St} {te ta tb tl : TE} {tA : TA} {v : V} {d e : PyData} {ds es : List PyData} {a b : Addr} {xs : List V} {i j : Int} {N : L2.St → Hp → Prop} {R : VK} {B C' : L2.St → Hp → Prop} {tz : TS} {c : Bool}
theorem Wo.up (h : Wo F W) (g : ∀ b, F b → F1 b) : Wo F1 W := ⟨fun H H' k t => h.loc H H' (fun b o f => k b o (g b f)) t⟩
theorem Wo.and {W2 : Hp → Prop} (h : Wo F W) (h2 : Wo F W2) : Wo F (fun H => W H ∧ W2 H) := ⟨fun H H' k t w => ⟨h.loc H H' k t w.1, h2.loc H H' k t w.2⟩⟩
theorem Ok.same (o : Ok F W H) (wo : Wo F W) (s : Same H H') : Ok F W H' := ⟨o.fa.same s, wo.loc _ _ (fun b o _ => s b o) (.same s) o.w⟩
theorem mvN {p : Addr} {o : HO} (hp : H p = none) : Mv F H (withF F p) (upd H p o) := ⟨fun b o _ e => smN hp b o e, fun b f => f.imp id (fun e => by rw [e]; exact hp)⟩
theorem Ok.free {p : Addr} (o : Ok F W H') (m : Mv F H F H') (hp : H' p = none) : H p = none := by
  cases e : H p with
  | none => rfl
  | some u => rw [m.keep p u (o.fa.no hp) e] at hp; cases hp
theorem OwL.da {D : Addr} (h : OwL K F D H ds) (n : ¬ F D) : Da K H F (.ref D) (.list ds) := by
  obtain ⟨vs, h1, h2⟩ := h
  exact .lst ⟨h1, n⟩ (h2.mv (.less fun b f => .inl f))
theorem DvN.dv (h : DvN K F W te σ H ds) : Dv K F W te σ H (.list ds) := fun H1 m o Q q => h H1 m o Q fun D H' hD m' o' w => q _ _ m' o' (w.da (o.fa.no hD))
theorem dv_v (h : ∀ H1, Mv F H F H1 → Ok F W H1 → Val te σ H1 v) (hd : Da K H F v d) : Dv K F W te σ H d := fun H1 m o _ q => h H1 m o _ (q v H1 .refl o (hd.mv m))
theorem dv_var {k : Nat} (h : σ[k]? = some (some v)) (hd : Da K H F v d) : Dv K F W (tVar k) σ H d := dv_v (fun _ _ _ => val_var h) hd
theorem dv_c (hd : Da K H F v d) : Dv K F W (tC v) σ H d := dv_v (fun _ _ _ => val_c) hd
theorem dv_i (h : ∀ H1, Mv F H F H1 → Ok F W H1 → Val te σ H1 (.int i)) : Dv K F W te σ H (.int i) := dv_v h (.int i)
theorem dv_st {s : Str} (h : ∀ H1, Mv F H F H1 → Ok F W H1 → Val te σ H1 (.str s)) : Dv K F W te σ H (.str s) := dv_v h (.str s)
theorem dv_k {z : Int} : Dv K F W (tC (.int z)) σ H (.int z) := dv_c (.int z)
theorem dv_s {s : Str} : Dv K F W (tC (.str s)) σ H (.str s) := dv_c (.str s)
theorem Dv.mv (h : Dv K F W te σ H d) (s : Mv F H F H') : Dv K F W te σ H' d := fun H1 s1 => h H1 (s.trans s1)
theorem DvA.mv (h : DvA K F W tA σ H ds) (s : Mv F H F H') : DvA K F W tA σ H' ds := fun H1 s1 => h H1 (s.trans s1)
theorem x_d {Q : VK} (h : Dv K F W te σ H d) (o : Ok F W H) (q : ∀ v H', Mv F H F H' → Ok F W H' → Da K H' F v d → Q v H') : te σ H Q := h H .refl o Q q
theorem x_dA {Q : List V → Hp → Prop} (h : DvA K F W tA σ H ds) (o : Ok F W H) (q : ∀ vs H', Mv F H F H' → Ok F W H' → DaAll K H' F vs ds → Q vs H') : tA σ H Q := h H .refl o Q q
theorem Dv.eq (h : Dv K F W te σ H d) (e' : d = e) : Dv K F W te σ H e := e' ▸ h
theorem da_nil : DvA K F W tNil σ H [] := fun H1 _ o _ q => q [] H1 .refl o .nil
theorem da_cons (h : Dv K F W ta σ H d) (ht : DvA K F W tA σ H ds) : DvA K F W (tCons ta tA) σ H (d :: ds) := fun H1 m o _ q =>
  h H1 m o _ fun v H2 m2 o2 hd => ht H2 (m.trans m2) o2 _ fun vs H3 m3 o3 hds => q (v :: vs) H3 (m2.trans m3) o3 (.cons (hd.mv m3) hds)
theorem dv_tup (wo : Wo F W) (h : DvA K F W tA σ H ds) (hl : ds.length ≤ 1000 := by simp) : Dv K F W (tTup tA) σ H (.tuple ds) := fun H1 m o _ q =>
  h H1 m o _ fun vs H2 m2 o2 hd => ⟨k_line (by rw [hd.len]; exact hl), fun p hp => q _ _ (m2.trans (.same (smN hp))) (o2.same wo (smN hp)) (.tup ⟨SqT.of upd_same, .inl (o2.fa.no hp)⟩ (hd.same (smN hp)))⟩
theorem dn_lst (wo : Wo F W) (h : DvA K F W tA σ H ds) (hl : ds.length ≤ 1000 := by simp) : DvN K F W (tLst tA) σ H ds := fun H1 m o _ q =>
  h H1 m o _ fun vs H2 m2 o2 hd => ⟨k_line (by rw [hd.len]; exact hl), fun p hp => q _ _ (o2.free m2 hp) (m2.trans (.same (smN hp))) (o2.same wo (smN hp)) ⟨vs, upd_same, hd.mv (mvN hp)⟩⟩
theorem dv_lst (wo : Wo F W) (h : DvA K F W tA σ H ds) (hl : ds.length ≤ 1000 := by simp) : Dv K F W (tLst tA) σ H (.list ds) := (dn_lst wo h hl).dv
theorem dn_list (wo : Wo F W) (h : Dv K F W ta σ H d) (hd : d = .list ds ∨ d = .tuple ds) : DvN K F W (tCB (rListS K) (tCons ta tNil)) σ H ds := fun H1 m o _ q =>
  h H1 m o _ fun v H2 m2 o2 hv => by
    rcases hd with rfl | rfl
    · cases hv with | lst h1 h2 => exact ⟨_, _, rfl, .inl (SqL.of h1.at_), fun p hp => q _ _ (o2.free m2 hp) (m2.trans (.same (smN hp))) (o2.same wo (smN hp)) ⟨_, upd_same, h2.mv (mvN hp)⟩⟩
    · cases hv with | tup h1 h2 => exact ⟨_, _, rfl, .inr h1.sq, fun p hp => q _ _ (o2.free m2 hp) (m2.trans (.same (smN hp))) (o2.same wo (smN hp)) ⟨_, upd_same, h2.mv (mvN hp)⟩⟩
theorem dv_list (wo : Wo F W) (h : Dv K F W ta σ H d) (hd : d = .list ds ∨ d = .tuple ds) : Dv K F W (tCB (rListS K) (tCons ta tNil)) σ H (.list ds) := (dn_list wo h hd).dv
theorem dv_tuple (wo : Wo F W) (h : Dv K F W ta σ H d) (hd : d = .list ds ∨ d = .tuple ds) : Dv K F W (tCB (rTupOf K) (tCons ta tNil)) σ H (.tuple ds) := fun H1 m o _ q =>
  h H1 m o _ fun v H2 m2 o2 hv => by
    rcases hd with rfl | rfl
    · cases hv with | lst h1 h2 => exact ⟨_, _, rfl, .inl ⟨SqL.of h1.at_, fun p hp => q _ _ (m2.trans (.same (smN hp))) (o2.same wo (smN hp)) (.tup ⟨SqT.of upd_same, .inl (o2.fa.no hp)⟩ (h2.same (smN hp)))⟩⟩
    · cases hv with | tup h1 h2 => exact ⟨_, _, rfl, .inr ⟨h1.sq, q _ _ m2 o2 (.tup h1 h2)⟩⟩
/-- list(..), tuple(..) of a list that changes -/
theorem dn_listO {ns : List V} (wo : Wo F W) (h : ∀ H1, Mv F H F H1 → Ok F W H1 → ∃ a, Val ta σ H1 (.ref a) ∧ (SqL K H1 a ns ∨ SqT K H1 a ns) ∧ DaAll K H1 F ns ds) : DvN K F W (tCB (rListS K) (tCons ta tNil)) σ H ds := fun H1 m o _ q => by
  obtain ⟨a, ha, hs, hd⟩ := h H1 m o
  exact ha _ ⟨a, ns, rfl, hs, fun p hp => q _ _ hp (.same (smN hp)) (o.same wo (smN hp)) ⟨_, upd_same, hd.mv (mvN hp)⟩⟩
theorem dv_listO {ns : List V} (wo : Wo F W) (h : ∀ H1, Mv F H F H1 → Ok F W H1 → ∃ a, Val ta σ H1 (.ref a) ∧ (SqL K H1 a ns ∨ SqT K H1 a ns) ∧ DaAll K H1 F ns ds) : Dv K F W (tCB (rListS K) (tCons ta tNil)) σ H (.list ds) := (dn_listO wo h).dv
theorem dv_tupleO {ns : List V} (wo : Wo F W) (h : ∀ H1, Mv F H F H1 → Ok F W H1 → ∃ a, Val ta σ H1 (.ref a) ∧ SqL K H1 a ns ∧ DaAll K H1 F ns ds) : Dv K F W (tCB (rTupOf K) (tCons ta tNil)) σ H (.tuple ds) := fun H1 m o _ q => by
  obtain ⟨a, ha, hs, hd⟩ := h H1 m o
  exact ha _ ⟨a, ns, rfl, .inl ⟨hs, fun p hp => q _ _ (.same (smN hp)) (o.same wo (smN hp)) (.tup ⟨SqT.of upd_same, .inl (o.fa.no hp)⟩ (hd.same (smN hp)))⟩⟩
theorem dv_catT (wo : Wo F W) (ha : Dv K F W ta σ H (.tuple ds)) (hb : Dv K F W tb σ H (.tuple es)) (hl : ds.length + es.length ≤ 100000 := by simp) : Dv K F W (tOp (rCatA K) ta tb) σ H (.tuple (ds ++ es)) := fun H1 m o _ q =>
  ha H1 m o _ fun v H2 m2 o2 hv => hb H2 (m.trans m2) o2 _ fun w H3 m3 o3 hw => by
    have hv := hv.mv m3
    cases hv with | tup h1 h2 =>
    cases hw with | tup h3 h4 =>
    refine ⟨_, _, _, _, rfl, rfl, h1.sq, h3.sq, ?_, ?_, ?_, ?_⟩
    · rw [h2.len, h4.len]; exact Nat.le_trans hl (by rw [sizeLine_eq]; decide)
    · intro e
      subst e
      cases h2
      exact q _ _ (m2.trans m3) o3 (.tup h3 h4)
    · intro _ e
      subst e
      cases h4
      rw [List.append_nil] at q
      exact q _ _ (m2.trans m3) o3 (.tup h1 h2)
    · intro _ _ p hp
      exact q _ _ ((m2.trans m3).trans (.same (smN hp))) (o3.same wo (smN hp)) (.tup ⟨SqT.of upd_same, .inl (o3.fa.no hp)⟩ ((h2.app h4).same (smN hp)))
theorem dn_catL (wo : Wo F W) (ha : Dv K F W ta σ H (.list ds)) (hb : Dv K F W tb σ H (.list es)) (hl : ds.length + es.length ≤ 100000 := by simp) : DvN K F W (tOp rCat ta tb) σ H (ds ++ es) := fun H1 m o _ q =>
  ha H1 m o _ fun v H2 m2 o2 hv => hb H2 (m.trans m2) o2 _ fun w H3 m3 o3 hw => by
    have hv := hv.mv m3
    cases hv with | lst h1 h2 =>
    cases hw with | lst h3 h4 =>
    exact ⟨_, _, _, _, rfl, rfl, h1.at_, h3.at_, by rw [h2.len, h4.len]; exact Nat.le_trans hl (by rw [sizeLine_eq]; decide), fun p hp =>
      q _ _ (o3.free (m2.trans m3) hp) ((m2.trans m3).trans (.same (smN hp))) (o3.same wo (smN hp)) ⟨_, upd_same, (h2.app h4).mv (mvN hp)⟩⟩
theorem dv_catL (wo : Wo F W) (ha : Dv K F W ta σ H (.list ds)) (hb : Dv K F W tb σ H (.list es)) (hl : ds.length + es.length ≤ 100000 := by simp) : Dv K F W (tOp rCat ta tb) σ H (.list (ds ++ es)) := (dn_catL wo ha hb hl).dv
/-- a slice by bounds that are plain -/
def cutD {α : Type} (xs : List α) (lo hi : Option Int) : List α := (xs.drop (HT.sIx xs.length 0 lo)).take (HT.sIx xs.length xs.length hi - HT.sIx xs.length 0 lo)
theorem cutD_nat {α : Type} {xs : List α} {i j : Nat} (h : i ≤ j) : cutD xs (some (i : Int)) (some (j : Int)) = (xs.take j).drop i := by
  unfold cutD
  rw [HT.sIx_nat, HT.sIx_nat]
  apply List.ext_getElem?
  intro n
  simp only [List.getElem?_take, List.getElem?_drop]
  by_cases c1 : n < j - i
  · have c2 : i + n < j := by omega
    rw [if_pos c2]
    by_cases c3 : i ≤ xs.length
    · rw [Nat.min_eq_left c3]
      by_cases c4 : n < min j xs.length - i
      · rw [if_pos c4]
      · rw [if_neg c4]
        exact (List.getElem?_eq_none (by omega)).symm
    · rw [if_neg (by omega)]
      exact (List.getElem?_eq_none (by omega)).symm
  · rw [if_neg (by omega), if_neg (by omega)]
theorem cutD_to {α : Type} {xs : List α} {j : Nat} : cutD xs none (some (j : Int)) = xs.take j := by
  have e : cutD xs none (some (j : Int)) = cutD xs (some ((0 : Nat) : Int)) (some (j : Int)) := by unfold cutD; rw [HT.sIx_none, HT.sIx_nat, HT.sIx_nat, Nat.zero_min]
  rw [e, cutD_nat (Nat.zero_le _), List.drop_zero]
theorem cutD_from {α : Type} {xs : List α} {i : Nat} : cutD xs (some (i : Int)) none = xs.drop i := by
  unfold cutD
  rw [HT.sIx_nat, HT.sIx_none]
  by_cases h : i ≤ xs.length
  · rw [Nat.min_eq_left h, List.take_of_length_le (by rw [List.length_drop]; omega)]
  · rw [Nat.min_eq_right (by omega), List.drop_eq_nil_of_le (Nat.le_refl _), List.drop_eq_nil_of_le (by omega), List.take_nil]
theorem DaAll.cut {vs : List V} (h : DaAll K H F vs ds) (lo hi : Option Int) : DaAll K H F (cutV vs lo hi) (cutD ds lo hi) := by
  unfold cutV cutD
  rw [h.len]
  exact (h.drop _).take _
theorem cutV_whole {vs : List V} {lo hi : Option Int} (h : HT.sIx vs.length 0 lo = 0 ∧ HT.sIx vs.length vs.length hi = vs.length) : cutV vs lo hi = vs := by
  unfold cutV
  rw [h.1, h.2, List.drop_zero, Nat.sub_zero, List.take_length]
/-- a part of a slice -/
def Pt (F : FS) (W : Hp → Prop) (tlo : TO) (σ : L2.St) (H : Hp) (lo : Option Int) : Prop := ∀ H1, Mv F H F H1 → Ok F W H1 → ∀ Q : Option Int → Hp → Prop, Q lo H1 → tlo σ H1 Q
theorem pt_n : Pt F W tNoPart σ H none := fun _ _ _ _ q => q
theorem pt_s (h : ∀ H1, Mv F H F H1 → Ok F W H1 → Val te σ H1 (.int i)) : Pt F W (tPart te) σ H (some i) := fun H1 m o _ q => h H1 m o _ ⟨_, rfl, q⟩
theorem dv_slT {lo hi : Option Int} {tlo thi : TO} (wo : Wo F W) (ha : Dv K F W ta σ H (.tuple ds)) (h1 : Pt F W tlo σ H lo) (h2 : Pt F W thi σ H hi) : Dv K F W (tSl (rSlA K) ta tlo thi) σ H (.tuple (cutD ds lo hi)) := fun H1 m o _ q =>
  ha H1 m o _ fun v H2 m2 o2 hv => h1 H2 (m.trans m2) o2 _ (h2 H2 (m.trans m2) o2 _ (by
    cases hv with | tup h3 h4 =>
    refine ⟨_, _, rfl, h3.sq, fun w => ?_, fun w p hp => ?_⟩
    · refine q _ _ m2 o2 (.tup h3 ?_)
      have := h4.cut lo hi
      rwa [cutV_whole w] at this
    · exact q _ _ (m2.trans (.same (smN hp))) (o2.same wo (smN hp)) (.tup ⟨SqT.of upd_same, .inl (o2.fa.no hp)⟩ ((h4.cut lo hi).same (smN hp)))))
theorem dn_slL {lo hi : Option Int} {tlo thi : TO} (wo : Wo F W) (ha : Dv K F W ta σ H (.list ds)) (h1 : Pt F W tlo σ H lo) (h2 : Pt F W thi σ H hi) : DvN K F W (tSl (rSlL K) ta tlo thi) σ H (cutD ds lo hi) := fun H1 m o _ q =>
  ha H1 m o _ fun v H2 m2 o2 hv => h1 H2 (m.trans m2) o2 _ (h2 H2 (m.trans m2) o2 _ (by
    cases hv with | lst h3 h4 =>
    exact ⟨_, _, rfl, SqL.of h3.at_, fun p hp => q _ _ (o2.free m2 hp) (m2.trans (.same (smN hp))) (o2.same wo (smN hp)) ⟨_, upd_same, (h4.cut lo hi).mv (mvN hp)⟩⟩))
theorem dv_slL {lo hi : Option Int} {tlo thi : TO} (wo : Wo F W) (ha : Dv K F W ta σ H (.list ds)) (h1 : Pt F W tlo σ H lo) (h2 : Pt F W thi σ H hi) : Dv K F W (tSl (rSlL K) ta tlo thi) σ H (.list (cutD ds lo hi)) := (dn_slL wo ha h1 h2).dv
theorem dv_slTt (j : Nat) {thi : TO} (wo : Wo F W) (ha : Dv K F W ta σ H (.tuple ds)) (h2 : Pt F W thi σ H (some (j : Int))) : Dv K F W (tSl (rSlA K) ta tNoPart thi) σ H (.tuple (ds.take j)) := (dv_slT wo ha pt_n h2).eq (by rw [cutD_to])
theorem dv_slTm (i j : Nat) {tlo thi : TO} (wo : Wo F W) (ha : Dv K F W ta σ H (.tuple ds)) (h1 : Pt F W tlo σ H (some (i : Int))) (h2 : Pt F W thi σ H (some (j : Int))) (hij : i ≤ j := by decide) : Dv K F W (tSl (rSlA K) ta tlo thi) σ H (.tuple ((ds.take j).drop i)) := (dv_slT wo ha h1 h2).eq (by rw [cutD_nat hij])
theorem dv_slTf (i : Nat) {tlo : TO} (wo : Wo F W) (ha : Dv K F W ta σ H (.tuple ds)) (h1 : Pt F W tlo σ H (some (i : Int))) : Dv K F W (tSl (rSlA K) ta tlo tNoPart) σ H (.tuple (ds.drop i)) := (dv_slT wo ha h1 pt_n).eq (by rw [cutD_from])
theorem dv_slLt (j : Nat) {thi : TO} (wo : Wo F W) (ha : Dv K F W ta σ H (.list ds)) (h2 : Pt F W thi σ H (some (j : Int))) : Dv K F W (tSl (rSlL K) ta tNoPart thi) σ H (.list (ds.take j)) := (dv_slL wo ha pt_n h2).eq (by rw [cutD_to])
theorem dv_slLm (i j : Nat) {tlo thi : TO} (wo : Wo F W) (ha : Dv K F W ta σ H (.list ds)) (h1 : Pt F W tlo σ H (some (i : Int))) (h2 : Pt F W thi σ H (some (j : Int))) (hij : i ≤ j := by decide) : Dv K F W (tSl (rSlL K) ta tlo thi) σ H (.list ((ds.take j).drop i)) := (dv_slL wo ha h1 h2).eq (by rw [cutD_nat hij])
theorem dv_slLf (i : Nat) {tlo : TO} (wo : Wo F W) (ha : Dv K F W ta σ H (.list ds)) (h1 : Pt F W tlo σ H (some (i : Int))) : Dv K F W (tSl (rSlL K) ta tlo tNoPart) σ H (.list (ds.drop i)) := (dv_slL wo ha h1 pt_n).eq (by rw [cutD_from])
theorem dv_ixT (ha : Dv K F W ta σ H (.tuple ds)) (hb : ∀ H1, Mv F H F H1 → Ok F W H1 → Val tb σ H1 (.int i)) (h0 : 0 ≤ i) (hx : ds[i.toNat]? = some d) : Dv K F W (tOp (rIxT K) ta tb) σ H d := fun H1 m o _ q =>
  ha H1 m o _ fun v H2 m2 o2 hv => hb H2 (m.trans m2) o2 _ (by
    cases hv with | tup h3 h4 =>
    obtain ⟨w, e1, e2⟩ := h4.get' _ hx
    exact ⟨_, _, _, _, rfl, rfl, h3.sq, at_of (j := i.toNat) (by omega) e1, q _ _ m2 o2 e2⟩)
theorem dv_ixL (ha : Dv K F W ta σ H (.list ds)) (hb : ∀ H1, Mv F H F H1 → Ok F W H1 → Val tb σ H1 (.int i)) (h0 : 0 ≤ i) (hx : ds[i.toNat]? = some d) : Dv K F W (tOp (rIxL K) ta tb) σ H d := fun H1 m o _ q =>
  ha H1 m o _ fun v H2 m2 o2 hv => hb H2 (m.trans m2) o2 _ (by
    cases hv with | lst h3 h4 =>
    obtain ⟨w, e1, e2⟩ := h4.get' _ hx
    exact ⟨_, _, _, _, rfl, rfl, SqL.of h3.at_, at_of (j := i.toNat) (by omega) e1, q _ _ m2 o2 e2⟩)
theorem dv_if {t : TT} (h : ∀ H1, Mv F H F H1 → Ok F W H1 → Ans t σ H1 c) (h1 : c = true → Dv K F W ta σ H d) (h2 : c = false → Dv K F W tb σ H d) : Dv K F W (tIf t ta tb) σ H d := fun H1 m o Q q => h H1 m o _ (by
  cases c with
  | true => exact (show (if true = true then _ else _) from by rw [if_pos rfl]; exact h1 rfl H1 m o Q q)
  | false => exact (show (if false = true then _ else _) from by rw [if_neg Bool.false_ne_true]; exact h2 rfl H1 m o Q q))
/-- a call by data -/
theorem dv_call {sp : Sp} (h : DvA K F W tA σ H ds) (hs : ∀ vs H1, Mv F H F H1 → Ok F W H1 → DaAll K H1 F vs ds → ∀ Q : VK, (∀ v H', Mv F H1 F H' → Ok F W H' → Da K H' F v d → Q v H') → sp vs H1 Q E0) : Dv K F W (tCall sp [] E0 tA) σ H d := fun H1 m o _ q =>
  h H1 m o _ fun vs H2 m2 o2 hv => by
    rw [List.append_nil]
    exact hs vs H2 (m.trans m2) o2 hv _ fun v H' m3 o3 hd => q v H' (m2.trans m3) o3 hd
theorem dv_cb {r : List V → Hp → VK → Prop} (h : DvA K F W tA σ H ds) (hs : ∀ vs H1, Mv F H F H1 → Ok F W H1 → DaAll K H1 F vs ds → ∀ Q : VK, (∀ v H', Mv F H1 F H' → Ok F W H' → Da K H' F v d → Q v H') → r vs H1 Q) : Dv K F W (tCB r tA) σ H d := fun H1 m o _ q =>
  h H1 m o _ fun vs H2 m2 o2 hv => hs vs H2 (m.trans m2) o2 hv _ fun v H' m3 o3 hd => q v H' (m2.trans m3) o3 hd
/-- (x,) * n, [x] * n -/
theorem daAll_flat : ∀ (n : Nat) {vs : List V}, DaAll K H F vs ds → DaAll K H F (List.replicate n vs).flatten (List.replicate n ds).flatten
  | 0, _, _ => .nil
  | n + 1, _, h => by rw [List.replicate_succ, List.replicate_succ, List.flatten_cons, List.flatten_cons]; exact h.app (daAll_flat n h)
theorem dv_repT {k : Int} (wo : Wo F W) (ha : Dv K F W ta σ H (.tuple ds)) (hb : ∀ H1, Mv F H F H1 → Ok F W H1 → Val tb σ H1 (.int k)) (h2 : 2 ≤ k ∧ k ≤ 1000) (hd : ds ≠ [] ∧ ds.length ≤ 1000) : Dv K F W (tOp (rRepT K) ta tb) σ H (.tuple (List.replicate k.toNat ds).flatten) := fun H1 m o _ q =>
  ha H1 m o _ fun v H2 m2 o2 hv => hb H2 (m.trans m2) o2 _ (by
    cases hv with | tup h3 h4 =>
    refine ⟨_, _, _, rfl, rfl, h3.sq, ?_, h2.1, h2.2, by rw [h4.len]; exact hd.2, fun p hp => q _ _ (m2.trans (.same (smN hp))) (o2.same wo (smN hp)) (.tup ⟨SqT.of upd_same, .inl (o2.fa.no hp)⟩ ((daAll_flat _ h4).same (smN hp)))⟩
    intro e
    subst e
    cases h4
    exact hd.1 rfl)
/-- statements -/
theorem q_d {k : Nat} (h : Dv K F W te σ H d) (o : Ok F W H) (q : ∀ v H', Mv F H F H' → Ok F W H' → Da K H' F v d → tz ⟨N, R, B, C'⟩ (σ.set k (some v)) H') : tSeq (tAsg te (gName k)) tz ⟨N, R, B, C'⟩ σ H := x_d h o q
theorem s_d {k : Nat} (h : Dv K F W te σ H d) (o : Ok F W H) (q : ∀ v H', Mv F H F H' → Ok F W H' → Da K H' F v d → N (σ.set k (some v)) H') : tAsg te (gName k) ⟨N, R, B, C'⟩ σ H := x_d h o q
theorem s_retD (h : Dv K F W te σ H d) (o : Ok F W H) (q : ∀ v H', Mv F H F H' → Ok F W H' → Da K H' F v d → R v H') : tRet te ⟨N, R, B, C'⟩ σ H := x_d h o q
/-! comparisons -/
theorem x_eqD {Q : VK} (o : Ok F W H) (ha : Dv K F W ta σ H d) (hb : Dv K F W tb σ H e) (sd : SeqAt.shaped d = true) (se : SeqAt.shaped e = true) (q : ∀ H', Mv F H F H' → Ok F W H' → Q (.bl (PyData.eqv d e)) H') : tOp (rEqD K) ta tb σ H Q :=
  show ta σ H _ from x_d ha o fun v H2 m2 o2 hv => show tb σ H2 _ from hb H2 m2 o2 _ fun w H3 m3 o3 hw => ⟨d, e, (hv.mv m3).dp, hw.dp, sd, se, q _ (m2.trans m3) o3⟩
theorem x_neD {Q : VK} (o : Ok F W H) (ha : Dv K F W ta σ H d) (hb : Dv K F W tb σ H e) (sd : SeqAt.shaped d = true) (se : SeqAt.shaped e = true) (q : ∀ H', Mv F H F H' → Ok F W H' → Q (.bl (!PyData.eqv d e)) H') : tOp (rNeD K) ta tb σ H Q :=
  show ta σ H _ from x_d ha o fun v H2 m2 o2 hv => show tb σ H2 _ from hb H2 m2 o2 _ fun w H3 m3 o3 hw => ⟨d, e, (hv.mv m3).dp, hw.dp, sd, se, q _ (m2.trans m3) o3⟩
theorem v_isiDL {b : Bool} {c : String} (hc : Val tb σ H (.ty c)) (h : ∃ y t, Val ta σ H y ∧ TyX K H y (.type t) ∧ PySem.W.kitOne K (.type t) (.type c) = some b) : Val (tCB (rIsi K) (tCons ta (tCons tb tNil))) σ H (.bl b) := v_isiL hc h
end
mutual
theorem eqv_refl : ∀ d : PyData, d.canLay0 = true → PyData.eqv d d = true
  | .none, _ => by rw [PyData.eqv]
  | .bool b, _ => by rw [PyData.eqv]; exact beq_self_eq_true b
  | .int i, _ => by rw [PyData.eqv]; exact beq_self_eq_true i
  | .str x, _ => by rw [PyData.eqv]; exact beq_self_eq_true x
  | .list xs, h => by rw [PyData.eqv]; exact eqvAll_refl xs (by simpa [PyData.canLay0] using h)
  | .tuple xs, h => by rw [PyData.eqv]; exact eqvAll_refl xs (by simpa [PyData.canLay0] using h)
  | .dict _, h => by simp [PyData.canLay0] at h
theorem eqvAll_refl : ∀ ds : List PyData, PyData.canLayAll0 ds = true → PyData.eqvAll ds ds = true
  | [], _ => by rw [PyData.eqvAll]
  | d :: ds, h => by
    have h' : d.canLay0 = true ∧ PyData.canLayAll0 ds = true := by simpa [PyData.canLayAll0] using h
    rw [PyData.eqvAll, eqv_refl d h'.1, eqvAll_refl ds h'.2]; rfl
end
/-- data of at most this depth -/
structure Sh (n : Nat) (d : PyData) : Prop where
  lay : d.canLay0 = true
  dep : d.depth ≤ n
structure ShAll (n : Nat) (ds : List PyData) : Prop where
  lay : PyData.canLayAll0 ds = true
  dep : PyData.depthAll ds ≤ n
section
variable {n m : Nat} {d : PyData} {ds es : List PyData}
theorem Sh.shaped (h : Sh n d) (hn : n ≤ 64 := by decide) : SeqAt.shaped d = true := by
  unfold SeqAt.shaped
  rw [Bool.and_eq_true_iff]
  exact ⟨h.lay, decide_eq_true (Nat.le_trans h.dep hn)⟩
theorem Sh.mono (h : Sh n d) (hn : n ≤ m) : Sh m d := ⟨h.lay, Nat.le_trans h.dep hn⟩
theorem sh_int {i : Int} : Sh n (.int i) := ⟨by simp [PyData.canLay0], by simp [PyData.depth]⟩
theorem sh_non : Sh n .none := ⟨by simp [PyData.canLay0], by simp [PyData.depth]⟩
theorem sh_bl {b : Bool} : Sh n (.bool b) := ⟨by simp [PyData.canLay0], by simp [PyData.depth]⟩
theorem sh_str {s : Str} (h : PyData.strOk s = true) : Sh n (.str s) := ⟨by rw [PyData.canLay0]; exact h, by simp [PyData.depth]⟩
theorem sh_list (h : ShAll n ds) : Sh (n + 1) (.list ds) := ⟨by rw [PyData.canLay0]; exact h.lay, by rw [PyData.depth]; exact Nat.succ_le_succ h.dep⟩
theorem sh_tup (h : ShAll n ds) : Sh (n + 1) (.tuple ds) := ⟨by rw [PyData.canLay0]; exact h.lay, by rw [PyData.depth]; exact Nat.succ_le_succ h.dep⟩
theorem shA_nil : ShAll n [] := ⟨by rw [PyData.canLayAll0], by rw [PyData.depthAll]; exact Nat.zero_le _⟩
theorem shA_cons (h : Sh n d) (t : ShAll n ds) : ShAll n (d :: ds) := ⟨by rw [PyData.canLayAll0, h.lay, t.lay]; rfl, by rw [PyData.depthAll]; exact Nat.max_le.mpr ⟨h.dep, t.dep⟩⟩
theorem shA_all : ∀ {ds : List PyData}, (∀ d ∈ ds, Sh n d) → ShAll n ds
  | [], _ => shA_nil
  | d :: ds, h => shA_cons (h d List.mem_cons_self) (shA_all fun e he => h e (List.mem_cons_of_mem _ he))
theorem shA_map {α : Type} {f : α → PyData} {xs : List α} (h : ∀ x ∈ xs, Sh n (f x)) : ShAll n (xs.map f) := shA_all fun d hd => by
  obtain ⟨x, hx, rfl⟩ := List.mem_map.mp hd
  exact h x hx
theorem shA_ints {ns : List Int} : ShAll n (ns.map PyData.int) := shA_map fun _ _ => sh_int
theorem sh_intsD {ns : List Int} : Sh (n + 1) (intsD ns) := sh_tup shA_ints
theorem sh_shot {P : Pn} (h : StOk P) : Sh 3 (shotD P) := by
  have s := shaped_shot h
  unfold SeqAt.shaped at s
  rw [Bool.and_eq_true_iff] at s
  refine ⟨s.1, ?_⟩
  have hb' : PyData.depthAll (List.map intsD P.blocks) ≤ 1 := depth_blocks P.blocks
  unfold shotD
  simp only [PyData.depth, PyData.depthAll, intsD, blocksD, depth_ints]
  have : PyData.depthAll (P.blocks.map fun b => PyData.tuple (b.map PyData.int)) ≤ 1 := hb'
  omega
theorem Sh.refl (h : Sh n d) : PyData.eqv d d = true := eqv_refl d h.lay
end
section
variable {K : PySem.W.Frag} {H H' : Hp} {F F1 : FS} {W : Hp → Prop} {σ : L2.St} {te ta tb tl : TE} {tA : TA} {v : V} {d e : PyData} {ds es : List PyData} {n : Nat}
/-- two readings of the same data -/
theorem x_eqS {Q : VK} (o : Ok F W H) (ha : Dv K F W ta σ H d) (hb : Dv K F W tb σ H d) (sd : Sh n d) (q : ∀ H', Mv F H F H' → Ok F W H' → Q (.bl true) H') (hn : n ≤ 64 := by decide) : tOp (rEqD K) ta tb σ H Q := x_eqD o ha hb (sd.shaped hn) (sd.shaped hn) (by rw [sd.refl]; exact q)
theorem x_neS {Q : VK} (o : Ok F W H) (ha : Dv K F W ta σ H d) (hb : Dv K F W tb σ H d) (sd : Sh n d) (q : ∀ H', Mv F H F H' → Ok F W H' → Q (.bl false) H') (hn : n ≤ 64 := by decide) : tOp (rNeD K) ta tb σ H Q := x_neD o ha hb (sd.shaped hn) (sd.shaped hn) (by rw [sd.refl]; exact q)
/-- comprehensions over data -/
structure LcI (K : PySem.W.Frag) (W : Hp → Prop) (H2 : Hp) (F : FS) (D : Addr) (m : Nat) (rs : List PyData) (H' : Hp) : Prop where
  mv : Mv F H2 (withF F D) H'
  ok : Ok (withF F D) W H'
  ex : ∃ ys, H' D = some (.lst ys) ∧ ys.length ≤ m ∧ DaAll K H' (withF F D) ys rs
theorem lci_0 {D : Addr} (wo : Wo F W) (o : Ok F W H) (hD : H D = none) : LcI K W H F D 0 [] (upd H D (.lst [])) := by
  have s := smN (o := HO.lst []) hD
  exact ⟨⟨fun b o _ e => s b o e, fun b f => f.imp id (fun e => by rw [e]; exact hD)⟩, ⟨fun b f => f.elim (o.fa.same s b) (fun e => by subst e; rw [upd_same]; exact fun e => by cases e), (o.same wo s).w⟩, [], upd_same, Nat.le_refl _, .nil⟩
theorem LcI.step {D : Addr} {rs : List PyData} {σ' : L2.St} {tt : TT} {c : Bool} (wo : Wo F W) (o : Ok F W H) (hD : H D = none) (hn : n < 100000) (iv : LcI K W H F D n rs H') (ht : Ans tt σ' H' c) (he : c = true → Dv K (withF F D) (fun H => W H ∧ H' D = H D) te σ' H' d) :
    tt σ' H' fun b H3 => if b = true then te σ' H3 fun y H4 => ∃ acc, H4 D = some (.lst acc) ∧ acc.length < sizeLine ∧ LcI K W H F D (n + 1) (if c = true then rs ++ [d] else rs) (upd H4 D (.lst (acc ++ [y]))) else LcI K W H F D (n + 1) (if c = true then rs ++ [d] else rs) H3 := by
  obtain ⟨ys, hl, hz, hys⟩ := iv.ex
  refine ht _ ?_
  cases c with
  | true =>
    refine iteT (x_d (he rfl) ⟨iv.ok.fa, iv.ok.w, rfl⟩ (fun y H3 m5 o5 hy => ⟨ys, by rw [← o5.w.2]; exact hl, ?_, ?_⟩))
    · exact Nat.lt_of_lt_of_le (show ys.length < 100000 by omega) (by rw [sizeLine_eq]; decide)
    · rw [if_pos rfl]
      have nF : ¬ F D := o.fa.no hD
      have mv : Mv (withF F D) H3 (withF F D) (upd H3 D (.lst (ys ++ [y]))) := ⟨fun b o nb e => by rw [upd_ne (fun q => nb (.inr q))]; exact e, fun _ f => .inl f⟩
      refine ⟨(iv.mv.trans m5).trans mv, ⟨fun b f => ?_, wo.loc _ _ (fun b o f e => by rw [upd_ne (fun q => nF (by rw [← q]; exact f))]; exact e) (.upd (o5.w.2.symm.trans hl)) o5.w.1⟩, ys ++ [y], upd_same, by rw [List.length_append]; simp; omega, ((hys.mv m5).app (.cons hy .nil)).mv mv⟩
      by_cases e : b = D
      · subst e; rw [upd_same]; exact fun e => by cases e
      · rw [upd_ne e]; exact o5.fa b f
  | false =>
    refine iteF ?_
    rw [if_neg Bool.false_ne_true]
    exact ⟨iv.mv, iv.ok, ys, hl, by omega, hys⟩
theorem LcI.done {D : Addr} {rs : List PyData} (iv : LcI K W H F D n rs H') : Mv F H F H' ∧ Ok F W H' ∧ OwL K F D H' rs := by
  obtain ⟨ys, hl, _, hys⟩ := iv.ex
  have m2 : Mv (withF F D) H' F H' := .less fun b f => .inl f
  exact ⟨iv.mv.trans m2, ⟨fun b f => iv.ok.fa b (.inl f), iv.ok.w⟩, ys, hl, hys⟩
def fmD {α : Type} (p : α → Bool) (f : α → PyData) (xs : List α) : List PyData := (xs.filter p).map f
theorem fmD_take {α : Type} {p : α → Bool} {f : α → PyData} {xs : List α} {m : Nat} {x : α} (h : xs[m]? = some x) : fmD p f (xs.take (m + 1)) = if p x = true then fmD p f (xs.take m) ++ [f x] else fmD p f (xs.take m) := by
  unfold fmD
  rw [List.take_add_one, h, List.filter_append, List.map_append]
  cases hp : p x <;> simp [hp]
theorem fmD_all {α : Type} {f : α → PyData} {xs : List α} : fmD (fun _ => true) f xs = xs.map f := by unfold fmD; rw [List.filter_eq_self.mpr (fun _ _ => rfl)]
theorem ans_yes {σ' : L2.St} : Ans tYes σ' H true := fun _ q => q
/-- what a comprehension's turn may use: F1 is F and the new list -/
structure Tn (F : FS) (W : Hp → Prop) (H : Hp) (F1 : FS) (W1 : Hp → Prop) (H1 : Hp) : Prop where
  mv : Mv F H F1 H1
  ok : Ok F1 W1 H1
  wo : Wo F1 W1
  sub : ∀ b, F b → F1 b
  w : ∀ H, W1 H → W H
  bk : ∀ H H', W1 H → W H' → (∀ b o, ¬ F b → H b = some o → H' b = some o) → W1 H'
  nt : ∀ H, W1 H → ∀ b, F1 b → F b ∨ ∃ xs, H b = some (.lst xs)
theorem LcI.tn {D : Addr} {rs : List PyData} {H0 : Hp} (m0 : Mv F H0 F H) (wo : Wo F W) (nF : ¬ F D) (iv : LcI K W H F D n rs H') : Tn F W H0 (withF F D) (fun H => W H ∧ H' D = H D) H' := by
  obtain ⟨ys, hl, _⟩ := iv.ex
  refine ⟨m0.trans iv.mv, ⟨iv.ok.fa, iv.ok.w, rfl⟩, ⟨fun H1 H2 k t w => ⟨wo.loc _ _ (fun b o f => k b o (.inl f)) t w.1, ?_⟩⟩, fun b f => .inl f, fun _ h => h.1, fun H1 H2 w1 w2 k => ⟨w2, ?_⟩, fun H1 w1 b f => f.imp id (fun e => ⟨ys, ?_⟩)⟩
  · have e := w.2
    rw [hl] at e
    rw [hl]
    exact (k D _ (.inr rfl) e.symm).symm
  · have e := w1.2
    rw [hl] at e
    rw [hl]
    exact (k D _ nF e.symm).symm
  · rw [e, ← w1.2]; exact hl
theorem dn_lcL {k : Nat} {ws : List Nat} {tt : TT} (p : PyData → Bool) (f : PyData → PyData) (wo : Wo F W) (h : Dv K F W tl σ H (.list ds)) (hn : ds.length ≤ 100000) (hw : ∀ x, wipe ((wipe σ ws).set k (some x)) ws = wipe σ ws)
    (ht : ∀ (i : Nat) (x : V) (d : PyData) (H1 : Hp) (F1 : FS) (W1 : Hp → Prop), Tn F W H F1 W1 H1 → ds[i]? = some d → Da K H1 F1 x d → Ans tt ((wipe σ ws).set k (some x)) H1 (p d))
    (he : ∀ (i : Nat) (x : V) (d : PyData) (H1 : Hp) (F1 : FS) (W1 : Hp → Prop), Tn F W H F1 W1 H1 → ds[i]? = some d → Da K H1 F1 x d → p d = true → Dv K F1 W1 te ((wipe σ ws).set k (some x)) H1 (f d)) : DvN K F W (tLc (iList K tl) (gName k) tt te ws) σ H (fmD p f ds) := fun H1 m o Q q =>
  h H1 m o _ fun v H2 m2 o2 hv => by
    cases hv with | @lst a xs _ h3 h4 =>
    refine ⟨a, rfl, ⟨xs, SqL.of h3.at_⟩, fun D hD => lc_list (xs := xs) (fun m H' => LcI K W H2 F D m (fmD p f (ds.take m)) H') (by rw [List.take_zero]; exact lci_0 wo o2 hD) (fun m H' _ e => SqL.of ((h3.mv e.mv).at_)) (fun i x H' hm e => ?_) (fun H' e => ?_)⟩
    · have tn := e.tn (m.trans m2) wo (o2.fa.no hD)
      obtain ⟨d, hd, hx⟩ := (h4.mv e.mv).getV _ hm
      refine ⟨hw _, ?_⟩
      rw [fmD_take hd]
      have hlt := (List.getElem?_eq_some_iff.mp hd).1
      exact e.step wo o2 hD (by omega) (ht i x d H' _ _ tn hd hx) (he i x d H' _ _ tn hd hx)
    · rw [h4.len, List.take_length] at e
      obtain ⟨r1, r2, r3⟩ := e.done
      exact q _ _ (o2.free m2 hD) (m2.trans r1) r2 r3
theorem dv_lcL {k : Nat} {ws : List Nat} {tt : TT} (p : PyData → Bool) (f : PyData → PyData) (wo : Wo F W) (h : Dv K F W tl σ H (.list ds)) (hn : ds.length ≤ 100000) (hw : ∀ x, wipe ((wipe σ ws).set k (some x)) ws = wipe σ ws)
    (ht : ∀ (i : Nat) (x : V) (d : PyData) (H1 : Hp) (F1 : FS) (W1 : Hp → Prop), Tn F W H F1 W1 H1 → ds[i]? = some d → Da K H1 F1 x d → Ans tt ((wipe σ ws).set k (some x)) H1 (p d))
    (he : ∀ (i : Nat) (x : V) (d : PyData) (H1 : Hp) (F1 : FS) (W1 : Hp → Prop), Tn F W H F1 W1 H1 → ds[i]? = some d → Da K H1 F1 x d → p d = true → Dv K F1 W1 te ((wipe σ ws).set k (some x)) H1 (f d)) : Dv K F W (tLc (iList K tl) (gName k) tt te ws) σ H (.list (fmD p f ds)) := (dn_lcL p f wo h hn hw ht he).dv
theorem dn_lcT {k : Nat} {ws : List Nat} {tt : TT} (p : PyData → Bool) (f : PyData → PyData) (wo : Wo F W) (h : Dv K F W tl σ H (.tuple ds)) (hn : ds.length ≤ 100000) (hw : ∀ x, wipe ((wipe σ ws).set k (some x)) ws = wipe σ ws)
    (ht : ∀ (i : Nat) (x : V) (d : PyData) (H1 : Hp) (F1 : FS) (W1 : Hp → Prop), Tn F W H F1 W1 H1 → ds[i]? = some d → Da K H1 F1 x d → Ans tt ((wipe σ ws).set k (some x)) H1 (p d))
    (he : ∀ (i : Nat) (x : V) (d : PyData) (H1 : Hp) (F1 : FS) (W1 : Hp → Prop), Tn F W H F1 W1 H1 → ds[i]? = some d → Da K H1 F1 x d → p d = true → Dv K F1 W1 te ((wipe σ ws).set k (some x)) H1 (f d)) : DvN K F W (tLc (iTup K tl) (gName k) tt te ws) σ H (fmD p f ds) := fun H1 m o Q q =>
  h H1 m o _ fun v H2 m2 o2 hv => by
    cases hv with | @tup a xs _ h3 h4 =>
    refine ⟨a, rfl, ⟨xs, h3.sq⟩, fun D hD => lc_tup (xs := xs) (fun m H' => LcI K W H2 F D m (fmD p f (ds.take m)) H') (by rw [List.take_zero]; exact lci_0 wo o2 hD) (fun m H' _ e => (h3.mv e.mv).sq) (fun i x H' hm e => ?_) (fun H' e => ?_)⟩
    · have tn := e.tn (m.trans m2) wo (o2.fa.no hD)
      obtain ⟨d, hd, hx⟩ := (h4.mv e.mv).getV _ hm
      refine ⟨hw _, ?_⟩
      rw [fmD_take hd]
      have hlt := (List.getElem?_eq_some_iff.mp hd).1
      exact e.step wo o2 hD (by omega) (ht i x d H' _ _ tn hd hx) (he i x d H' _ _ tn hd hx)
    · rw [h4.len, List.take_length] at e
      obtain ⟨r1, r2, r3⟩ := e.done
      exact q _ _ (o2.free m2 hD) (m2.trans r1) r2 r3
theorem dv_lcT {k : Nat} {ws : List Nat} {tt : TT} (p : PyData → Bool) (f : PyData → PyData) (wo : Wo F W) (h : Dv K F W tl σ H (.tuple ds)) (hn : ds.length ≤ 100000) (hw : ∀ x, wipe ((wipe σ ws).set k (some x)) ws = wipe σ ws)
    (ht : ∀ (i : Nat) (x : V) (d : PyData) (H1 : Hp) (F1 : FS) (W1 : Hp → Prop), Tn F W H F1 W1 H1 → ds[i]? = some d → Da K H1 F1 x d → Ans tt ((wipe σ ws).set k (some x)) H1 (p d))
    (he : ∀ (i : Nat) (x : V) (d : PyData) (H1 : Hp) (F1 : FS) (W1 : Hp → Prop), Tn F W H F1 W1 H1 → ds[i]? = some d → Da K H1 F1 x d → p d = true → Dv K F1 W1 te ((wipe σ ws).set k (some x)) H1 (f d)) : Dv K F W (tLc (iTup K tl) (gName k) tt te ws) σ H (.list (fmD p f ds)) := (dn_lcT p f wo h hn hw ht he).dv
theorem dn_lcR {k : Nat} {ws : List Nat} {tt : TT} {z : Int} (p : Nat → Bool) (f : Nat → PyData) (wo : Wo F W) (h : ∀ H1, Mv F H F H1 → Ok F W H1 → ValA tA σ H1 [.int z]) (hn : -100000 ≤ z ∧ z ≤ 100000) (hw : ∀ x, wipe ((wipe σ ws).set k (some x)) ws = wipe σ ws)
    (ht : ∀ (i : Nat) (H1 : Hp) (F1 : FS) (W1 : Hp → Prop), Tn F W H F1 W1 H1 → (i : Int) < z → Ans tt ((wipe σ ws).set k (some (.int (i : Int)))) H1 (p i))
    (he : ∀ (i : Nat) (H1 : Hp) (F1 : FS) (W1 : Hp → Prop), Tn F W H F1 W1 H1 → (i : Int) < z → p i = true → Dv K F1 W1 te ((wipe σ ws).set k (some (.int (i : Int)))) H1 (f i)) : DvN K F W (tLc (iRng1 tA) (gName k) tt te ws) σ H (fmD p f (List.range z.toNat)) := fun H2 m o Q q =>
  h H2 m o _ ⟨z, rfl, by omega, by omega, fun D hD => by
    refine lc_range (lo := 0) (n := z.toNat) (fun m H' => LcI K W H2 F D m (fmD p f (List.range m)) H') (lci_0 wo o hD) (fun i H' hm e => ?_) (fun H' e => ?_)
    · have tn := e.tn m wo (o.fa.no hD)
      have e0 : (0 : Int) + (i : Int) = (i : Int) := Int.zero_add _
      rw [e0]
      refine ⟨hw _, ?_⟩
      have er : fmD p f (List.range (i + 1)) = if p i = true then fmD p f (List.range i) ++ [f i] else fmD p f (List.range i) := by
        unfold fmD
        rw [List.range_succ, List.filter_append, List.map_append]
        cases hp : p i <;> simp [hp]
      rw [er]
      exact e.step wo o hD (by omega) (ht i H' _ _ tn (by omega)) (he i H' _ _ tn (by omega))
    · obtain ⟨r1, r2, r3⟩ := e.done
      exact q _ _ hD r1 r2 r3⟩
theorem dv_lcR {k : Nat} {ws : List Nat} {tt : TT} {z : Int} (p : Nat → Bool) (f : Nat → PyData) (wo : Wo F W) (h : ∀ H1, Mv F H F H1 → Ok F W H1 → ValA tA σ H1 [.int z]) (hn : -100000 ≤ z ∧ z ≤ 100000) (hw : ∀ x, wipe ((wipe σ ws).set k (some x)) ws = wipe σ ws)
    (ht : ∀ (i : Nat) (H1 : Hp) (F1 : FS) (W1 : Hp → Prop), Tn F W H F1 W1 H1 → (i : Int) < z → Ans tt ((wipe σ ws).set k (some (.int (i : Int)))) H1 (p i))
    (he : ∀ (i : Nat) (H1 : Hp) (F1 : FS) (W1 : Hp → Prop), Tn F W H F1 W1 H1 → (i : Int) < z → p i = true → Dv K F1 W1 te ((wipe σ ws).set k (some (.int (i : Int)))) H1 (f i)) : Dv K F W (tLc (iRng1 tA) (gName k) tt te ws) σ H (.list (fmD p f (List.range z.toNat))) := (dn_lcR p f wo h hn hw ht he).dv
end
section
variable {K : PySem.W.Frag} {H H' : Hp} {F F1 : FS} {W : Hp → Prop} {σ : L2.St} {te ta tb tl : TE} {tA : TA} {v : V} {d e : PyData} {ds es rs : List PyData} {n : Nat} {a : Addr} {xs : List V}
theorem fmD_eq : fmD (fun _ => true) (fun x : PyData => x) rs = rs := by unfold fmD; rw [List.filter_eq_self.mpr (fun _ _ => rfl), List.map_id']
/-- over a list of the world -/
theorem dn_lcO {k : Nat} {ws : List Nat} (rs : List PyData) (wo : Wo F W) (h : ∀ H1, Mv F H F H1 → Ok F W H1 → Val tl σ H1 (.ref a)) (hs : ∀ H1, W H1 → SqL K H1 a xs) (hl : rs.length = xs.length) (hn : xs.length ≤ 100000) (hw : ∀ x, wipe ((wipe σ ws).set k (some x)) ws = wipe σ ws)
    (he : ∀ (i : Nat) (x : V) (d : PyData) (H1 : Hp) (F1 : FS) (W1 : Hp → Prop), Tn F W H F1 W1 H1 → xs[i]? = some x → rs[i]? = some d → Dv K F1 W1 te ((wipe σ ws).set k (some x)) H1 d) : DvN K F W (tLc (iList K tl) (gName k) tYes te ws) σ H rs := fun H1 m o Q q =>
  h H1 m o _ (by
    refine ⟨a, rfl, ⟨xs, hs _ o.w⟩, fun D hD => lc_list (xs := xs) (fun m H' => LcI K W H1 F D m (fmD (fun _ => true) (fun x => x) (rs.take m)) H') (by rw [List.take_zero]; exact lci_0 wo o hD) (fun m H' _ e => hs _ e.ok.w) (fun i x H' hm e => ?_) (fun H' e => ?_)⟩
    · have tn := e.tn m wo (o.fa.no hD)
      have hlt := (List.getElem?_eq_some_iff.mp hm).1
      have hd : rs[i]? = some rs[i] := List.getElem?_eq_getElem (by omega)
      refine ⟨hw _, ?_⟩
      rw [fmD_take hd]
      exact e.step wo o hD (by omega) ans_yes (fun _ => he i x _ H' _ _ tn hm hd)
    · rw [← hl, List.take_length, fmD_eq] at e
      obtain ⟨r1, r2, r3⟩ := e.done
      exact q _ _ hD r1 r2 r3)
theorem dv_lcO {k : Nat} {ws : List Nat} (rs : List PyData) (wo : Wo F W) (h : ∀ H1, Mv F H F H1 → Ok F W H1 → Val tl σ H1 (.ref a)) (hs : ∀ H1, W H1 → SqL K H1 a xs) (hl : rs.length = xs.length) (hn : xs.length ≤ 100000) (hw : ∀ x, wipe ((wipe σ ws).set k (some x)) ws = wipe σ ws)
    (he : ∀ (i : Nat) (x : V) (d : PyData) (H1 : Hp) (F1 : FS) (W1 : Hp → Prop), Tn F W H F1 W1 H1 → xs[i]? = some x → rs[i]? = some d → Dv K F1 W1 te ((wipe σ ws).set k (some x)) H1 d) : Dv K F W (tLc (iList K tl) (gName k) tYes te ws) σ H (.list rs) := (dn_lcO rs wo h hs hl hn hw he).dv
end
section
variable {K : PySem.W.Frag} {H H' H0 : Hp} {F F1 : FS} {W : Hp → Prop} {σ : L2.St} {te ta tb to : TE} {tA : TA} {v : V} {d e : PyData} {ds es : List PyData} {D : Addr} {xs : List V} {N : L2.St → Hp → Prop} {R : VK} {B C' : L2.St → Hp → Prop} {tz : TS}
/-- a list of one's own, changed as one goes on -/
structure Own (K : PySem.W.Frag) (H0 : Hp) (F : FS) (W : Hp → Prop) (D : Addr) (H : Hp) (ds : List PyData) : Prop where
  fr : H0 D = none
  no : ¬ F D
  mv : Mv F H0 F H
  ok : Ok F W H
  ow : OwL K F D H ds
theorem x_dn {Q : VK} (h : DvN K F W te σ H ds) (o : Ok F W H) (m0 : Mv F H0 F H) (q : ∀ D H', Own K H0 F W D H' ds → Mv F H F H' → Q (.ref D) H') : te σ H Q := h H .refl o Q fun D H' hD m o' w => q D H' ⟨o.free m0 hD, o.fa.no hD, m0.trans m, o', w⟩ m
theorem q_dn' {k : Nat} (h : DvN K F W te σ H ds) (o : Ok F W H) (m0 : Mv F H0 F H) (q : ∀ D H', H D = none → Own K H0 F W D H' ds → Mv F H F H' → tz ⟨N, R, B, C'⟩ (σ.set k (some (.ref D))) H') : tSeq (tAsg te (gName k)) tz ⟨N, R, B, C'⟩ σ H := h H .refl o _ fun D H' hD m o' w => q D H' hD ⟨o.free m0 hD, o.fa.no hD, m0.trans m, o', w⟩ m
theorem s_dn' {k : Nat} (h : DvN K F W te σ H ds) (o : Ok F W H) (m0 : Mv F H0 F H) (q : ∀ D H', H D = none → Own K H0 F W D H' ds → Mv F H F H' → N (σ.set k (some (.ref D))) H') : tAsg te (gName k) ⟨N, R, B, C'⟩ σ H := h H .refl o _ fun D H' hD m o' w => q D H' hD ⟨o.free m0 hD, o.fa.no hD, m0.trans m, o', w⟩ m
theorem q_dn {k : Nat} (h : DvN K F W te σ H ds) (o : Ok F W H) (m0 : Mv F H0 F H) (q : ∀ D H', Own K H0 F W D H' ds → Mv F H F H' → tz ⟨N, R, B, C'⟩ (σ.set k (some (.ref D))) H') : tSeq (tAsg te (gName k)) tz ⟨N, R, B, C'⟩ σ H := x_dn h o m0 q
theorem Own.da (h : Own K H0 F W D H ds) : Da K H F (.ref D) (.list ds) := h.ow.da h.no
theorem Own.same (h : Own K H0 F W D H ds) (wo : Wo F W) (s : Same H H') : Own K H0 F W D H' ds := by
  obtain ⟨vs, h1, h2⟩ := h.ow
  exact ⟨h.fr, h.no, h.mv.trans (.same s), h.ok.same wo s, vs, s _ _ h1, h2.same s⟩
theorem Own.at_ (h : Own K H0 F W D H ds) : ∃ vs, H D = some (.lst vs) ∧ vs.length = ds.length := by
  obtain ⟨vs, h1, h2⟩ := h.ow
  exact ⟨vs, h1, h2.len⟩
/-- the world beside one's own list -/
theorem Own.tn (h : Own K H0 F W D H ds) (wo : Wo F W) : Ok (withF F D) (fun H1 => W H1 ∧ H1 D = H D) H ∧ Wo (withF F D) (fun H1 => W H1 ∧ H1 D = H D) := by
  obtain ⟨vs, h1, h2⟩ := h.ow
  refine ⟨⟨fun b f => f.elim (h.ok.fa b) (fun e => by rw [e, h1]; exact fun e => by cases e), h.ok.w, rfl⟩, ⟨fun H1 H2 k t w => ⟨wo.loc _ _ (fun b o f => k b o (.inl f)) t w.1, ?_⟩⟩⟩
  have e := w.2
  rw [h1] at e
  rw [h1]
  exact k D _ (.inr rfl) e
theorem Own.step {H1 : Hp} (h : Own K H0 F W D H ds) (wo : Wo F W) (m : Mv (withF F D) H (withF F D) H1) (o : Ok (withF F D) (fun H1 => W H1 ∧ H1 D = H D) H1) : Own K H0 F W D H1 ds := by
  obtain ⟨vs, h1, h2⟩ := h.ow
  refine ⟨h.fr, h.no, ⟨fun b o nb e => ?_, fun b f => .inl f⟩, ⟨fun b f => o.fa b (.inl f), o.w.1⟩, vs, by rw [o.w.2]; exact h1, h2.mv m⟩
  have nD : b ≠ D := fun q => by rw [q, h.fr] at e; cases e
  exact m.keep b o (fun f => f.elim nb nD) (h.mv.keep b o nb e)
/-- append -/
theorem x_own_app {Q : VK} (wo : Wo F W) (ow : Own K H0 F W D H ds) (ho : Val to σ H (.ref D)) (he : Dv K (withF F D) (fun H1 => W H1 ∧ H1 D = H D) ta σ H d) (hn : ds.length < 100000) (q : ∀ H', Own K H0 F W D H' (ds ++ [d]) → (∀ (F2 : FS), F2 D → (∀ b, F b → F2 b) → Mv F2 H F2 H') → Q .non H') : tBM K "list" rAppend to (tCons ta tNil) σ H Q := by
  obtain ⟨o1, w1⟩ := ow.tn wo
  obtain ⟨vs, h1, h2⟩ := ow.ow
  refine x_appendX ho h1 (x_d he o1 fun v H1 m o hv => ⟨D, vs, v, rfl, rfl, by rw [o.w.2]; exact h1, lt_line (by rw [h2.len]; omega), q _ ?_ ?_⟩)
  · have mU : Mv (withF F D) H1 (withF F D) (upd H1 D (.lst (vs ++ [v]))) := ⟨fun b o nb e => by rw [upd_ne (fun q => nb (.inr q))]; exact e, fun _ f => .inl f⟩
    refine ⟨ow.fr, ow.no, ⟨fun b o nb e => ?_, fun b f => .inl f⟩, ⟨fun b f => ?_, wo.loc _ _ (fun b o f e => by rw [upd_ne (fun q => ow.no (by rw [← q]; exact f))]; exact e) (.upd (o.w.2.trans h1)) o.w.1⟩, _, upd_same, (((h2.mv m).app (.cons hv .nil)).mv mU)⟩
    · have nD : b ≠ D := fun q => by rw [q, ow.fr] at e; cases e
      rw [upd_ne nD]
      exact m.keep b o (fun f => f.elim nb nD) (ow.mv.keep b o nb e)
    · rw [upd_ne (fun q => ow.no (by rw [← q]; exact f))]
      exact o.fa b (.inl f)
  · intro F2 fD sub
    refine ⟨fun b o nb e => ?_, fun b f => .inl f⟩
    have nD : b ≠ D := fun q => nb (by rw [q]; exact fD)
    rw [upd_ne nD]
    exact m.keep b o (fun f => f.elim (fun f => nb (sub b f)) nD) e
end
/-- a def that gives a new list -/
def spDN (K : PySem.W.Frag) (pre : List V → Hp → FS → (Hp → Prop) → List PyData → Prop) : Sp := fun vs H Q _ => ∃ F W ds, Wo F W ∧ Ok F W H ∧ pre vs H F W ds ∧ ∀ D H', H D = none → Mv F H F H' → Ok F W H' → OwL K F D H' ds → Q (.ref D) H'
def spDV (K : PySem.W.Frag) (pre : List V → Hp → FS → (Hp → Prop) → PyData → Prop) : Sp := fun vs H Q _ => ∃ F W d, Wo F W ∧ Ok F W H ∧ pre vs H F W d ∧ ∀ v H', Mv F H F H' → Ok F W H' → Da K H' F v d → Q v H'
section
variable {K : PySem.W.Frag} {H H' H0 : Hp} {F F1 : FS} {W : Hp → Prop} {σ : L2.St} {te ta tb to ti : TE} {tA : TA} {v : V} {vs : List V} {d e : PyData} {ds es : List PyData} {D : Addr} {xs : List V} {N : L2.St → Hp → Prop} {R : VK} {B C' : L2.St → Hp → Prop} {tz : TS} {i : Int}
theorem dn_sp {pre : List V → Hp → FS → (Hp → Prop) → List PyData → Prop} (wo : Wo F W) (h : ∀ H1, Mv F H F H1 → Ok F W H1 → ValA tA σ H1 vs) (hp : ∀ H1, Mv F H F H1 → Ok F W H1 → pre vs H1 F W ds) : DvN K F W (tCall (spDN K pre) [] E0 tA) σ H ds := fun H1 m o _ q =>
  h H1 m o _ (by rw [List.append_nil]; exact ⟨F, W, ds, wo, o, hp H1 m o, q⟩)
theorem dn_spD {pre : List V → Hp → FS → (Hp → Prop) → List PyData → Prop} (wo : Wo F W) (h : DvA K F W tA σ H es) (hp : ∀ vs H1, Mv F H F H1 → Ok F W H1 → DaAll K H1 F vs es → pre vs H1 F W ds) : DvN K F W (tCall (spDN K pre) [] E0 tA) σ H ds := fun H1 m o _ q =>
  h H1 m o _ fun vs H2 m2 o2 hv => by rw [List.append_nil]; exact ⟨F, W, ds, wo, o2, hp vs H2 (m.trans m2) o2 hv, fun D H' hD m3 o3 ow => q D H' (o2.free m2 hD) (m2.trans m3) o3 ow⟩
theorem dv_spW {pre : List V → Hp → FS → (Hp → Prop) → PyData → Prop} (wo : Wo F W) (h : ∀ H1, Mv F H F H1 → Ok F W H1 → ValA tA σ H1 vs) (hp : ∀ H1, Mv F H F H1 → Ok F W H1 → pre vs H1 F W d) : Dv K F W (tCall (spDV K pre) [] E0 tA) σ H d := fun H1 m o _ q =>
  h H1 m o _ (by rw [List.append_nil]; exact ⟨F, W, d, wo, o, hp H1 m o, q⟩)
theorem dv_spD {pre : List V → Hp → FS → (Hp → Prop) → PyData → Prop} (wo : Wo F W) (h : DvA K F W tA σ H ds) (hp : ∀ vs H1, Mv F H F H1 → Ok F W H1 → DaAll K H1 F vs ds → pre vs H1 F W d) : Dv K F W (tCall (spDV K pre) [] E0 tA) σ H d := fun H1 m o _ q =>
  h H1 m o _ fun vs H2 m2 o2 hv => by rw [List.append_nil]; exact ⟨F, W, d, wo, o2, hp vs H2 (m.trans m2) o2 hv, fun v H' m3 o3 hd => q v H' (m2.trans m3) o3 hd⟩
theorem DaAll.set : ∀ {vs : List V} {ds : List PyData} (i : Nat), DaAll K H F vs ds → Da K H F v d → DaAll K H F (vs.set i v) (ds.set i d)
  | _, _, _, .nil, _ => .nil
  | _, _, 0, .cons _ t, h => .cons h t
  | _, _, i + 1, .cons h0 t, h => .cons h0 (t.set i h)
theorem Own.put (wo : Wo F W) (ow : Own K H0 F W D H ds) (j : Nat) (hd : Da K H (withF F D) v d) : ∃ vs, H D = some (.lst vs) ∧ vs.length = ds.length ∧ Own K H0 F W D (upd H D (.lst (vs.set j v))) (ds.set j d) ∧ (∀ (F2 : FS), F2 D → Mv F2 H F2 (upd H D (.lst (vs.set j v)))) := by
  obtain ⟨vs, h1, h2⟩ := ow.ow
  have mU : Mv (withF F D) H (withF F D) (upd H D (.lst (vs.set j v))) := ⟨fun b o nb e => by rw [upd_ne (fun q => nb (.inr q))]; exact e, fun _ f => .inl f⟩
  refine ⟨vs, h1, h2.len, ⟨ow.fr, ow.no, ⟨fun b o nb e => ?_, fun b f => .inl f⟩, ⟨fun b f => ?_, wo.loc _ _ (fun b o f e => by rw [upd_ne (fun q => ow.no (by rw [← q]; exact f))]; exact e) (.upd h1) ow.ok.w⟩, _, upd_same, (h2.set j hd).mv mU⟩, fun F2 fD => ⟨fun b o nb e => by rw [upd_ne (fun q => nb (by rw [q]; exact fD))]; exact e, fun b f => .inl f⟩⟩
  · have nD : b ≠ D := fun q => by rw [q, ow.fr] at e; cases e
    rw [upd_ne nD]
    exact ow.mv.keep b o nb e
  · rw [upd_ne (fun q => ow.no (by rw [← q]; exact f))]
    exact ow.ok.fa b f
/-- D[i] = v -/
theorem q_own_set (wo : Wo F W) (ow : Own K H0 F W D H ds) (hv : Val te σ H v) (hd : Da K H (withF F D) v d) (ho : Val to σ H (.ref D)) (hi : Val ti σ H (.int i)) (h0 : 0 ≤ i) (h1 : i < (ds.length : Int)) (q : ∀ H', Own K H0 F W D H' (ds.set i.toNat d) → (∀ (F2 : FS), F2 D → Mv F2 H F2 H') → tz ⟨N, R, B, C'⟩ σ H') : tSeq (tAsg te (gSub to ti rSetL)) tz ⟨N, R, B, C'⟩ σ H := by
  obtain ⟨vs, e1, e2, o2, m2⟩ := ow.put wo i.toNat hd
  exact hv _ (ho _ (hi _ ⟨D, _, i, i.toNat, rfl, rfl, e1, ixN_int h0 (by rw [e2]; exact h1), q _ o2 m2⟩))
theorem OwL.len (h : OwL K F D H ds) : ∃ vs, H D = some (.lst vs) ∧ vs.length = ds.length := by obtain ⟨vs, h1, h2⟩ := h; exact ⟨vs, h1, h2.len⟩
theorem v_lenD (hd : Da K H F v (.list ds)) (h : Val ta σ H v) : Val (tCB (rLenQ K) (tCons ta tNil)) σ H (.int (ds.length : Int)) := by
  cases hd with | lst h1 h2 =>
  exact v_cb (va_cons h va_nil) fun _ q => ⟨_, _, rfl, .inl (SqL.of h1.at_), by rw [h2.len]; exact q⟩
theorem v_lenT (hd : Da K H F v (.tuple ds)) (h : Val ta σ H v) : Val (tCB (rLenQ K) (tCons ta tNil)) σ H (.int (ds.length : Int)) := by
  cases hd with | tup h1 h2 =>
  exact v_cb (va_cons h va_nil) fun _ q => ⟨_, _, rfl, .inr h1.sq, by rw [h2.len]; exact q⟩
end
/-! ### programs of the laws' menu -/
def someV (c : Int) : List (List Int) := [[769, 771, 640], [276, 149, 772, 640], [900, 771, 640]] ++ [[928, 774, mixV c 9973 1024, 928, 773, 40, 286, 640]] ++ [[768, 644, 769, 640, 296, 770, 775, 640], [776, 771, 262, 640], [900, 640]]
def frontV (c : Int) : List Int := (someV c).getD (mixV c 9967 7).toNat []
def mixC (c : Int) : List Int := (List.range 64).map fun (k : Nat) => mixV (c + 977 * (k : Int)) 10007 1024
def progV (c : Int) : List Int :=
  if mixV c 9949 8 = 0 then mixC c
  else if mixV c 9949 8 = 1 then (mixC c).map fun n => if n % 3 = 0 then 768 + n % 10 else n
  else frontV c ++ ((mixC c).set 21 (1 + c % 3)).drop (frontV c).length
theorem mixC_len (c : Int) : (mixC c).length = 64 := by simp [mixC]
theorem mixC_in (c : Int) : ∀ x ∈ mixC c, 0 ≤ x ∧ x < 1024 := by
  intro x hx
  obtain ⟨k, _, rfl⟩ := List.mem_map.mp hx
  exact ⟨mixV_lo (by decide), mixV_hi (by decide)⟩
theorem frontV_at (c : Int) : ∃ r, (someV c)[(mixV c 9967 7).toNat]? = some r ∧ r = frontV c := by
  have h0 := mixV_lo (c := c) (p := 9967) (m := 7) (by decide)
  have h1 := mixV_hi (c := c) (p := 9967) (m := 7) (by decide)
  have hl : (mixV c 9967 7).toNat < (someV c).length := by show _ < 7; omega
  refine ⟨_, List.getElem?_eq_getElem hl, ?_⟩
  unfold frontV
  rw [List.getD_eq_getElem?_getD, List.getElem?_eq_getElem hl]; rfl
theorem frontV_in (c : Int) : (frontV c).length ≤ 64 ∧ ∀ x ∈ frontV c, 0 ≤ x ∧ x < 1024 := by
  obtain ⟨r, h, rfl⟩ := frontV_at c
  have hm := List.mem_of_getElem? h
  have m0 := mixV_lo (c := c) (p := 9973) (m := 1024) (by decide)
  have m1 := mixV_hi (c := c) (p := 9973) (m := 1024) (by decide)
  generalize frontV c = r at hm
  unfold someV at hm
  generalize mixV c 9973 1024 = z at m0 m1 hm
  simp only [List.cons_append, List.nil_append, List.mem_cons, List.not_mem_nil, or_false] at hm
  rcases hm with rfl | rfl | rfl | rfl | rfl | rfl | rfl <;> refine ⟨by simp, fun x hx => ?_⟩ <;> simp only [List.mem_cons, List.not_mem_nil, or_false] at hx <;> omega
theorem progV_len (c : Int) : (progV c).length = 64 := by
  have h := (frontV_in c).1
  unfold progV
  split
  · exact mixC_len c
  split
  · rw [List.length_map]; exact mixC_len c
  · rw [List.length_append, List.length_drop, List.length_set, mixC_len]; omega
theorem progV_in (c : Int) : ∀ x ∈ progV c, 0 ≤ x ∧ x < 1024 := by
  have h := (frontV_in c).2
  have hm := mixC_in c
  unfold progV
  split
  · exact hm
  split
  · intro x hx
    obtain ⟨n, hn, rfl⟩ := List.mem_map.mp hx
    have := hm n hn
    split <;> omega
  · intro x hx
    rcases List.mem_append.mp hx with h1 | h1
    · exact h x h1
    · have h2 := List.mem_of_mem_drop h1
      exact mem_set_in (P := fun x => 0 ≤ x ∧ x < 1024) hm (by show 0 ≤ 1 + c % 3 ∧ 1 + c % 3 < 1024; omega) x h2
def intsL (ns : List Int) : List PyData := ns.map PyData.int
def preSome (vs : List V) (_ : Hp) (_ : FS) (_ : Hp → Prop) (d : PyData) : Prop := ∃ c : Int, vs = [.int c] ∧ d = .list (intsL (frontV c))
def preProg (vs : List V) (_ : Hp) (_ : FS) (_ : Hp → Prop) (ds : List PyData) : Prop := ∃ c : Int, vs = [.int c] ∧ ds = intsL (progV c)
section
variable {K : PySem.W.Frag} {H : Hp} {F : FS} {W : Hp → Prop} {σ : L2.St} {te : TE} {ds : List PyData} {xs : List V}
theorem dn_new (wo : Wo F W) (h : ∀ H1, Mv F H F H1 → Ok F W H1 → NewL te σ H1 xs) (hd : ∀ H1, Mv F H F H1 → Ok F W H1 → DaAll K H1 F xs ds) : DvN K F W te σ H ds := fun H1 m o _ q =>
  h H1 m o _ fun p hp => q _ _ hp (.same (smN hp)) (o.same wo (smN hp)) ⟨xs, upd_same, (hd H1 m o).mv (mvN hp)⟩
end
section
variable {σ : L2.St} {H : Hp} {K : PySem.W.Frag} {F : FS} {a : Addr} {te tl : TE} {tb tz : TS} {N : L2.St → Hp → Prop} {R : VK} {B C' : L2.St → Hp → Prop} {k : Nat} {xs : List V} {g : TG}
theorem s_forT (h : Val tl σ H (.ref a)) (hx : SqT K H a xs) (Pv : Nat → L2.St → Hp → Prop) (h0 : Pv 0 σ H) (hl : ∀ (i : Nat) σ' H', Pv i σ' H' → SqT K H' a xs)
    (hs : ∀ (i : Nat) x σ' H', xs[i]? = some x → Pv i σ' H' → tb ⟨Pv (i + 1), R, N, Pv (i + 1)⟩ (σ'.set k (some x)) H') (hd : ∀ σ' H', Pv xs.length σ' H' → N σ' H') : tFor (iTup K tl) (gName k) tb ⟨N, R, B, C'⟩ σ H :=
  h _ ⟨a, rfl, ⟨xs, hx⟩, for_tup (xs := xs) (D := ⟨N, R, B, C'⟩) Pv h0 (fun i σ' H' _ p => hl i σ' H' p) hs hd⟩
theorem q_forT (h : Val tl σ H (.ref a)) (hx : SqT K H a xs) (Pv : Nat → L2.St → Hp → Prop) (h0 : Pv 0 σ H) (hl : ∀ (i : Nat) σ' H', Pv i σ' H' → SqT K H' a xs)
    (hs : ∀ (i : Nat) x σ' H', xs[i]? = some x → Pv i σ' H' → tb ⟨Pv (i + 1), R, tz ⟨N, R, B, C'⟩, Pv (i + 1)⟩ (σ'.set k (some x)) H') (hd : ∀ σ' H', Pv xs.length σ' H' → tz ⟨N, R, B, C'⟩ σ' H') : tSeq (tFor (iTup K tl) (gName k) tb) tz ⟨N, R, B, C'⟩ σ H :=
  s_forT (N := tz ⟨N, R, B, C'⟩) (B := B) (C' := C') h hx Pv h0 hl hs hd
theorem qx_forT (h : te σ H fun v H1 => tSeq (tFor (iTup K (tC v)) g tb) tz ⟨N, R, B, C'⟩ σ H1) : tSeq (tFor (iTup K te) g tb) tz ⟨N, R, B, C'⟩ σ H := h
theorem isi_T {ta : TE} (h : Val ta σ H (.ref a)) (ht : SqT K H a xs) : ∃ y t, Val ta σ H y ∧ TyX K H y (.type t) ∧ PySem.W.kitOne K (.type t) (.type "tuple") = some true := by
  refine ⟨_, "tuple", h, ?_, kit_ty (by decide +kernel)⟩
  rcases ht with (ht | ⟨o, ht⟩) | ⟨o, its, n, hk, hc, _⟩
  · exact .base (.tup ht)
  · exact .fTuple ht
  · exact .kTuple hk hc
end
theorem v_notInV {σ : L2.St} {H : Hp} {K : PySem.W.Frag} {ta tb : TE} {x : V} {p : Addr} {xs : List V} {c : Bool} (ha : Val ta σ H x) (hb : Val tb σ H (.ref p)) (hs : SqL K H p xs) (e : inV x xs = c) (fx : flatV x = true := by rfl) (fs : xs.all flatV = true := by simp [flatV]) : Val (tOp (rIn K true) ta tb) σ H (.bl (!c)) := val_op ha hb fun _ q => ⟨p, xs, rfl, .inl hs, fx, fs, by rw [if_pos rfl, e]; exact q⟩
/-! ### comprehensions whose tests move the heap -/
section
variable {K : PySem.W.Frag} {H H' : Hp} {F F1 : FS} {W : Hp → Prop} {σ : L2.St} {te ta tb tl : TE} {tA : TA} {v : V} {d e : PyData} {ds es : List PyData} {n : Nat} {c b : Bool} {t u tt : TT}
def AnsM (F : FS) (W : Hp → Prop) (t : TT) (σ : L2.St) (H : Hp) (c : Bool) : Prop := ∀ H1, Mv F H F H1 → Ok F W H1 → ∀ Q : Bool → Hp → Prop, (∀ H2, Mv F H1 F H2 → Ok F W H2 → Q c H2) → t σ H1 Q
theorem AnsM.mv (h : AnsM F W t σ H c) (m : Mv F H F H') : AnsM F W t σ H' c := fun H1 m1 => h H1 (m.trans m1)
theorem am_a (h : ∀ H1, Mv F H F H1 → Ok F W H1 → Ans t σ H1 c) : AnsM F W t σ H c := fun H1 m1 o1 _ q => h H1 m1 o1 _ (q H1 .refl o1)
theorem am_and (h1 : AnsM F W t σ H b) (h2 : b = true → AnsM F W u σ H c) : AnsM F W (tAnd t u) σ H (b && c) := fun H1 m o Q q => x_and (h1 H1 m o _ fun H2 m2 o2 => by
  cases b with
  | true => exact iteT (h2 rfl H2 (m.trans m2) o2 _ fun H3 m3 o3 => q H3 (m2.trans m3) o3)
  | false => exact iteF (q H2 m2 o2))
theorem am_or (h1 : AnsM F W t σ H b) (h2 : b = false → AnsM F W u σ H c) : AnsM F W (tOr t u) σ H (b || c) := fun H1 m o Q q => x_or (h1 H1 m o _ fun H2 m2 o2 => by
  cases b with
  | true => exact iteT (q H2 m2 o2)
  | false => exact iteF (h2 rfl H2 (m.trans m2) o2 _ fun H3 m3 o3 => q H3 (m2.trans m3) o3))
theorem am_not (h1 : AnsM F W t σ H b) : AnsM F W (tNot t) σ H (!b) := fun H1 m o Q q => x_not (h1 H1 m o _ q)
theorem am_eqD (ha : Dv K F W ta σ H d) (hb : Dv K F W tb σ H e) (sd : SeqAt.shaped d = true) (se : SeqAt.shaped e = true) : AnsM F W (tTest (tOp (rEqD K) ta tb)) σ H (PyData.eqv d e) := fun H1 m o Q q => by
  exact x_eqD o (ha.mv m) (hb.mv m) sd se (fun H2 m2 o2 => ⟨_, rfl, q H2 m2 o2⟩)
theorem am_neD (ha : Dv K F W ta σ H d) (hb : Dv K F W tb σ H e) (sd : SeqAt.shaped d = true) (se : SeqAt.shaped e = true) : AnsM F W (tTest (tOp (rNeD K) ta tb)) σ H (!PyData.eqv d e) := fun H1 m o Q q => by
  exact x_neD o (ha.mv m) (hb.mv m) sd se (fun H2 m2 o2 => ⟨_, rfl, q H2 m2 o2⟩)
theorem x_am {Q : Bool → Hp → Prop} (h : AnsM F W t σ H c) (o : Ok F W H) (q : ∀ H2, Mv F H F H2 → Ok F W H2 → Q c H2) : t σ H Q := h H .refl o Q q
theorem LcI.stepM {D : Addr} {rs : List PyData} {σ' : L2.St} (wo : Wo F W) (o : Ok F W H) (hD : H D = none) (hn : n < 100000) (iv : LcI K W H F D n rs H') (ht : AnsM (withF F D) (fun H => W H ∧ H' D = H D) tt σ' H' c) (he : c = true → Dv K (withF F D) (fun H => W H ∧ H' D = H D) te σ' H' d) :
    tt σ' H' fun b H3 => if b = true then te σ' H3 fun y H4 => ∃ acc, H4 D = some (.lst acc) ∧ acc.length < sizeLine ∧ LcI K W H F D (n + 1) (if c = true then rs ++ [d] else rs) (upd H4 D (.lst (acc ++ [y]))) else LcI K W H F D (n + 1) (if c = true then rs ++ [d] else rs) H3 := by
  obtain ⟨ys, hl, hz, hys⟩ := iv.ex
  refine ht H' .refl ⟨iv.ok.fa, iv.ok.w, rfl⟩ _ fun H0 m0 o0 => ?_
  cases c with
  | true =>
    refine iteT (he rfl H0 m0 o0 _ (fun y H3 m5 o5 hy => ⟨ys, by rw [← o5.w.2]; exact hl, ?_, ?_⟩))
    · exact Nat.lt_of_lt_of_le (show ys.length < 100000 by omega) (by rw [sizeLine_eq]; decide)
    · rw [if_pos rfl]
      have nF : ¬ F D := o.fa.no hD
      have mv : Mv (withF F D) H3 (withF F D) (upd H3 D (.lst (ys ++ [y]))) := ⟨fun b o nb e => by rw [upd_ne (fun q => nb (.inr q))]; exact e, fun _ f => .inl f⟩
      refine ⟨((iv.mv.trans m0).trans m5).trans mv, ⟨fun b f => ?_, wo.loc _ _ (fun b o f e => by rw [upd_ne (fun q => nF (by rw [← q]; exact f))]; exact e) (.upd (o5.w.2.symm.trans hl)) o5.w.1⟩, ys ++ [y], upd_same, by rw [List.length_append]; simp; omega, (((hys.mv m0).mv m5).app (.cons hy .nil)).mv mv⟩
      by_cases e : b = D
      · subst e; rw [upd_same]; exact fun e => by cases e
      · rw [upd_ne e]; exact o5.fa b f
  | false =>
    refine iteF ?_
    rw [if_neg Bool.false_ne_true]
    exact ⟨iv.mv.trans m0, ⟨o0.fa, o0.w.1⟩, ys, o0.w.2.symm.trans hl, by omega, hys.mv m0⟩
theorem dn_lcLm {k : Nat} {ws : List Nat} (p : PyData → Bool) (f : PyData → PyData) (wo : Wo F W) (h : Dv K F W tl σ H (.list ds)) (hn : ds.length ≤ 100000) (hw : ∀ x, wipe ((wipe σ ws).set k (some x)) ws = wipe σ ws)
    (ht : ∀ (i : Nat) (x : V) (d : PyData) (H1 : Hp) (F1 : FS) (W1 : Hp → Prop), Tn F W H F1 W1 H1 → ds[i]? = some d → Da K H1 F1 x d → AnsM F1 W1 tt ((wipe σ ws).set k (some x)) H1 (p d))
    (he : ∀ (i : Nat) (x : V) (d : PyData) (H1 : Hp) (F1 : FS) (W1 : Hp → Prop), Tn F W H F1 W1 H1 → ds[i]? = some d → Da K H1 F1 x d → p d = true → Dv K F1 W1 te ((wipe σ ws).set k (some x)) H1 (f d)) : DvN K F W (tLc (iList K tl) (gName k) tt te ws) σ H (fmD p f ds) := fun H1 m o Q q =>
  h H1 m o _ fun v H2 m2 o2 hv => by
    cases hv with | @lst a xs _ h3 h4 =>
    refine ⟨a, rfl, ⟨xs, SqL.of h3.at_⟩, fun D hD => lc_list (xs := xs) (fun m H' => LcI K W H2 F D m (fmD p f (ds.take m)) H') (by rw [List.take_zero]; exact lci_0 wo o2 hD) (fun m H' _ e => SqL.of ((h3.mv e.mv).at_)) (fun i x H' hm e => ?_) (fun H' e => ?_)⟩
    · have tn := e.tn (m.trans m2) wo (o2.fa.no hD)
      obtain ⟨d, hd, hx⟩ := (h4.mv e.mv).getV _ hm
      refine ⟨hw _, ?_⟩
      rw [fmD_take hd]
      have hlt := (List.getElem?_eq_some_iff.mp hd).1
      exact e.stepM wo o2 hD (by omega) (ht i x d H' _ _ tn hd hx) (he i x d H' _ _ tn hd hx)
    · rw [h4.len, List.take_length] at e
      obtain ⟨r1, r2, r3⟩ := e.done
      exact q _ _ (o2.free m2 hD) (m2.trans r1) r2 r3
theorem dv_lcLm {k : Nat} {ws : List Nat} (p : PyData → Bool) (f : PyData → PyData) (wo : Wo F W) (h : Dv K F W tl σ H (.list ds)) (hn : ds.length ≤ 100000) (hw : ∀ x, wipe ((wipe σ ws).set k (some x)) ws = wipe σ ws)
    (ht : ∀ (i : Nat) (x : V) (d : PyData) (H1 : Hp) (F1 : FS) (W1 : Hp → Prop), Tn F W H F1 W1 H1 → ds[i]? = some d → Da K H1 F1 x d → AnsM F1 W1 tt ((wipe σ ws).set k (some x)) H1 (p d))
    (he : ∀ (i : Nat) (x : V) (d : PyData) (H1 : Hp) (F1 : FS) (W1 : Hp → Prop), Tn F W H F1 W1 H1 → ds[i]? = some d → Da K H1 F1 x d → p d = true → Dv K F1 W1 te ((wipe σ ws).set k (some x)) H1 (f d)) : Dv K F W (tLc (iList K tl) (gName k) tt te ws) σ H (.list (fmD p f ds)) := (dn_lcLm p f wo h hn hw ht he).dv
/-- the length of a list that a reading gives -/
theorem x_lenM {Q : VK} (o : Ok F W H) (h : Dv K F W ta σ H (.list ds)) (q : ∀ H', Mv F H F H' → Ok F W H' → Q (.int (ds.length : Int)) H') : tCB (rLenQ K) (tCons ta tNil) σ H Q :=
  h H .refl o _ fun v H' m o' hv => by
    cases hv with | @lst a xs _ h3 h4 => exact ⟨a, xs, rfl, .inl (SqL.of h3.at_), by rw [h4.len]; exact q H' m o'⟩
theorem x_sumM {ns : List Int} {Q : VK} (o : Ok F W H) (h : Dv K F W ta σ H (.list (ns.map PyData.int))) (q : ∀ H', Mv F H F H' → Ok F W H' → Q (.int ns.sum) H') : tCB (rSum K) (tCons ta tNil) σ H Q :=
  h H .refl o _ fun v H' m o' hv => by
    cases hv with | @lst a xs _ h3 h4 =>
    have e := h4.ints
    subst e
    exact ⟨a, ns, rfl, SqL.of h3.at_, q H' m o'⟩
/-- comprehensions over a list of what data tells -/
theorem dn_lcG {α : Type} (as : List α) (g : α → PyData) {k : Nat} {ws : List Nat} (p : α → Bool) (f : α → PyData) (wo : Wo F W) (h : Dv K F W tl σ H (.list (as.map g))) (hn : as.length ≤ 100000) (hw : ∀ x, wipe ((wipe σ ws).set k (some x)) ws = wipe σ ws)
    (ht : ∀ (i : Nat) (x : V) (a : α) (H1 : Hp) (F1 : FS) (W1 : Hp → Prop), Tn F W H F1 W1 H1 → as[i]? = some a → Da K H1 F1 x (g a) → AnsM F1 W1 tt ((wipe σ ws).set k (some x)) H1 (p a))
    (he : ∀ (i : Nat) (x : V) (a : α) (H1 : Hp) (F1 : FS) (W1 : Hp → Prop), Tn F W H F1 W1 H1 → as[i]? = some a → Da K H1 F1 x (g a) → p a = true → Dv K F1 W1 te ((wipe σ ws).set k (some x)) H1 (f a)) : DvN K F W (tLc (iList K tl) (gName k) tt te ws) σ H (fmD p f as) := fun H1 m o Q q =>
  h H1 m o _ fun v H2 m2 o2 hv => by
    cases hv with | @lst a xs _ h3 h4 =>
    refine ⟨a, rfl, ⟨xs, SqL.of h3.at_⟩, fun D hD => lc_list (xs := xs) (fun m H' => LcI K W H2 F D m (fmD p f (as.take m)) H') (by rw [List.take_zero]; exact lci_0 wo o2 hD) (fun m H' _ e => SqL.of ((h3.mv e.mv).at_)) (fun i x H' hm e => ?_) (fun H' e => ?_)⟩
    · have tn := e.tn (m.trans m2) wo (o2.fa.no hD)
      obtain ⟨d, hd, hx⟩ := (h4.mv e.mv).getV _ hm
      rw [List.getElem?_map] at hd
      obtain ⟨a, ha, rfl⟩ := Option.map_eq_some_iff.mp hd
      refine ⟨hw _, ?_⟩
      rw [fmD_take ha]
      have hlt := (List.getElem?_eq_some_iff.mp ha).1
      exact e.stepM wo o2 hD (by omega) (ht i x a H' _ _ tn ha hx) (he i x a H' _ _ tn ha hx)
    · rw [h4.len, List.length_map, List.take_length] at e
      obtain ⟨r1, r2, r3⟩ := e.done
      exact q _ _ (o2.free m2 hD) (m2.trans r1) r2 r3
theorem Own.mvv {H0 : Hp} {D : Addr} (ow : Own K H0 F W D H ds) (m : Mv F H F H') (o : Ok F W H') : Own K H0 F W D H' ds := by
  obtain ⟨vs, e1, e2⟩ := ow.ow
  exact ⟨ow.fr, ow.no, ow.mv.trans m, o, vs, m.keep D _ ow.no e1, e2.mv ⟨fun b o n e => m.keep b o (fun f => n (.inl f)) e, fun b f => .inl f⟩⟩
theorem AnsM.eq (h : AnsM F W t σ H c) (e : c = b) : AnsM F W t σ H b := e ▸ h
theorem am_t (h : ∀ H1, Mv F H F H1 → Ok F W H1 → Val te σ H1 (.bl c)) : AnsM F W (tTest te) σ H c := am_a fun H1 m o => a_t (h H1 m o)
theorem am_neS (ha : Dv K F W ta σ H d) (hb : Dv K F W tb σ H d) (sd : Sh n d) (hn : n ≤ 64 := by decide) : AnsM F W (tTest (tOp (rNeD K) ta tb)) σ H false := (am_neD ha hb (sd.shaped hn) (sd.shaped hn)).eq (by rw [sd.refl]; rfl)
theorem am_eqS (ha : Dv K F W ta σ H d) (hb : Dv K F W tb σ H d) (sd : Sh n d) (hn : n ≤ 64 := by decide) : AnsM F W (tTest (tOp (rEqD K) ta tb)) σ H true := (am_eqD ha hb (sd.shaped hn) (sd.shaped hn)).eq sd.refl
end
section
variable {K : PySem.W.Frag} {H H' : Hp} {F F1 : FS} {W : Hp → Prop} {σ : L2.St} {te ta tb tl : TE} {t : TT} {t1 : TS} {N : L2.St → Hp → Prop} {R : VK} {B C' : L2.St → Hp → Prop} {tz : TS} {b : Bool}
theorem q_ifFM (h : AnsM F W t σ H b) (e : b = false) (o : Ok F W H) (q : ∀ H2, Mv F H F H2 → Ok F W H2 → tz ⟨N, R, B, C'⟩ σ H2) : tSeq (tIfS t t1 tNext) tz ⟨N, R, B, C'⟩ σ H := qx_if (x_am h o fun H2 m o2 => by rw [e]; exact iteF (s_next (q H2 m o2)))
theorem s_ifFM (h : AnsM F W t σ H b) (e : b = false) (o : Ok F W H) (q : ∀ H2, Mv F H F H2 → Ok F W H2 → N σ H2) : tIfS t t1 tNext ⟨N, R, B, C'⟩ σ H := sx_if (x_am h o fun H2 m o2 => by rw [e]; exact iteF (s_next (q H2 m o2)))
end
/-! ### comprehensions over pairs -/
section
variable {K : PySem.W.Frag} {H H' H2 : Hp} {F F1 : FS} {W : Hp → Prop} {σ : L2.St} {te ta tb tl : TE} {tA : TA} {v : V} {d e : PyData} {ds es rs : List PyData} {n : Nat} {a D : Addr} {xs : List V}
theorem LcI.sameH (iv : LcI K W H F D n rs H') (wo : Wo F W) (s : Same H' H2) : LcI K W H F D n rs H2 := by
  obtain ⟨ys, hl, hz, hys⟩ := iv.ex
  exact ⟨iv.mv.trans (.same s), ⟨iv.ok.fa.same s, wo.loc _ _ (fun b o _ => s b o) (.same s) iv.ok.w⟩, ys, s _ _ hl, hz, hys.same s⟩
/-- [e for k, x in enumerate(a list of the world)] -/
theorem dn_lcE {k j : Nat} {ws : List Nat} (rs : List PyData) (wo : Wo F W) (h : ∀ H1, Mv F H F H1 → Ok F W H1 → ValA tA σ H1 [.ref a]) (hs : ∀ H1, W H1 → SqL K H1 a xs) (hl : rs.length = xs.length) (hn : xs.length ≤ 100000) (hw : ∀ x y, wipe (((wipe σ ws).set k (some x)).set j (some y)) ws = wipe σ ws)
    (he : ∀ (i : Nat) (x : V) (d : PyData) (H1 : Hp) (F1 : FS) (W1 : Hp → Prop), Tn F W H F1 W1 H1 → xs[i]? = some x → rs[i]? = some d → Dv K F1 W1 te (((wipe σ ws).set k (some (.int (i : Int)))).set j (some x)) H1 d) : DvN K F W (tLc (iEnum K tA) (gTup K 2 (gCons (gName k) (gCons (gName j) gNil))) tYes te ws) σ H rs := fun H1 m o Q q =>
  h H1 m o _ ⟨a, xs, rfl, hs _ o.w, fun D hD => lc_it (walk_enum (xs := xs)) (fun m H' => LcI K W H1 F D m (fmD (fun _ => true) (fun x => x) (rs.take m)) H') (by rw [List.take_zero]; exact lci_0 wo o hD) (fun m H' _ e => hs _ e.ok.w) (fun i x H1' H' hm e y => by
    obtain ⟨T, u, x, rfl, hT, rfl, hu, hx⟩ := y
    cases hu
    have e := e.sameH wo (smN (o := .tup [V.int (i : Int), x]) hT)
    have tn := e.tn m wo (o.fa.no hD)
    have hlt := (List.getElem?_eq_some_iff.mp hx).1
    have hd : rs[i]? = some rs[i] := List.getElem?_eq_getElem (by omega)
    refine ⟨T, _, rfl, SqT.of upd_same, rfl, _, _, rfl, _, _, rfl, rfl, hw _ _, ?_⟩
    rw [fmD_take hd]
    exact e.step wo o hD (by omega) ans_yes (fun _ => he i x _ _ _ _ tn hx hd)) (fun H' e => by
    rw [← hl, List.take_length, fmD_eq] at e
    obtain ⟨r1, r2, r3⟩ := e.done
    exact q _ _ hD r1 r2 r3)⟩
theorem da_pair {x : V} {d1 d2 : PyData} (h : Da K H F x (.tuple [d1, d2])) : ∃ T v1 v2, x = .ref T ∧ SqT K H T [v1, v2] ∧ Da K H F v1 d1 ∧ Da K H F v2 d2 := by
  cases h with | @tup T xs _ ht h2 =>
  cases h2 with | cons z1 h2 => cases h2 with | cons z2 h2 => cases h2; exact ⟨_, _, _, rfl, ht.sq, z1, z2⟩
/-- [e for k, x in pairs] -/
theorem dn_lcP {α : Type} (as : List α) (d1 d2 : α → PyData) {k j : Nat} {ws : List Nat} (f : α → PyData) (wo : Wo F W) (h : Dv K F W tl σ H (.list (as.map fun a => .tuple [d1 a, d2 a]))) (hn : as.length ≤ 100000) (hw : ∀ x y, wipe (((wipe σ ws).set k (some x)).set j (some y)) ws = wipe σ ws)
    (he : ∀ (i : Nat) (a : α) (x y : V) (H1 : Hp) (F1 : FS) (W1 : Hp → Prop), Tn F W H F1 W1 H1 → as[i]? = some a → Da K H1 F1 x (d1 a) → Da K H1 F1 y (d2 a) → Dv K F1 W1 te (((wipe σ ws).set k (some x)).set j (some y)) H1 (f a)) : DvN K F W (tLc (iList K tl) (gTup K 2 (gCons (gName k) (gCons (gName j) gNil))) tYes te ws) σ H (as.map f) := fun H1 m o Q q =>
  h H1 m o _ fun v H2 m2 o2 hv => by
    cases hv with | @lst a xs _ h3 h4 =>
    refine ⟨a, rfl, ⟨xs, SqL.of h3.at_⟩, fun D hD => lc_list (xs := xs) (fun m H' => LcI K W H2 F D m (fmD (fun _ => true) f (as.take m)) H') (by rw [List.take_zero]; exact lci_0 wo o2 hD) (fun m H' _ e => SqL.of ((h3.mv e.mv).at_)) (fun i x H' hm e => ?_) (fun H' e => ?_)⟩
    · have tn := e.tn (m.trans m2) wo (o2.fa.no hD)
      obtain ⟨d, hd, hx⟩ := (h4.mv e.mv).getV _ hm
      rw [List.getElem?_map] at hd
      obtain ⟨a, ha, rfl⟩ := Option.map_eq_some_iff.mp hd
      obtain ⟨T, v1, v2, rfl, sq, z1, z2⟩ := da_pair hx
      have hlt := (List.getElem?_eq_some_iff.mp ha).1
      refine ⟨T, _, rfl, sq, rfl, _, _, rfl, _, _, rfl, rfl, hw _ _, ?_⟩
      rw [fmD_take ha]
      exact e.step wo o2 hD (by omega) ans_yes (fun _ => he i a v1 v2 H' _ _ tn ha z1 z2)
    · rw [h4.len, List.length_map, List.take_length, fmD_all] at e
      obtain ⟨r1, r2, r3⟩ := e.done
      exact q _ _ (o2.free m2 hD) (m2.trans r1) r2 r3
end
section
variable {σ : L2.St} {H : Hp} {K : PySem.W.Frag} {tA : TA} {tb tz : TS} {N : L2.St → Hp → Prop} {R : VK} {B C' : L2.St → Hp → Prop} {k : Nat} {lo n : Int} {ta ty td : TE} {a : Addr} {kvs : List (Key × V)} {z : Int}
theorem s_forR2' (h : ValA tA σ H [.int lo, .int n]) (hb : 0 ≤ lo ∧ lo ≤ 100000 ∧ -100000 ≤ n ∧ n ≤ 100000) (Pv : Nat → L2.St → Hp → Prop) (h0 : Pv 0 σ H)
    (hs : ∀ (i : Nat) σ' H', lo + (i : Int) < n → Pv i σ' H' → tb ⟨Pv (i + 1), R, N, Pv (i + 1)⟩ (σ'.set k (some (.int (lo + (i : Int))))) H') (hd : ∀ σ' H', Pv (n - lo).toNat σ' H' → N σ' H') : tFor (iRng2 tA) (gName k) tb ⟨N, R, B, C'⟩ σ H :=
  h _ ⟨lo, n, rfl, ⟨by omega, by omega, by omega, by omega⟩, for_range (lo := lo) (n := (n - lo).toNat) (D := ⟨N, R, B, C'⟩) Pv h0 (fun i σ' H' hi p => hs i σ' H' (by omega) p) hd⟩
theorem q_forR2' (h : ValA tA σ H [.int lo, .int n]) (hb : 0 ≤ lo ∧ lo ≤ 100000 ∧ -100000 ≤ n ∧ n ≤ 100000) (Pv : Nat → L2.St → Hp → Prop) (h0 : Pv 0 σ H)
    (hs : ∀ (i : Nat) σ' H', lo + (i : Int) < n → Pv i σ' H' → tb ⟨Pv (i + 1), R, tz ⟨N, R, B, C'⟩, Pv (i + 1)⟩ (σ'.set k (some (.int (lo + (i : Int))))) H') (hd : ∀ σ' H', Pv (n - lo).toNat σ' H' → tz ⟨N, R, B, C'⟩ σ' H') : tSeq (tFor (iRng2 tA) (gName k) tb) tz ⟨N, R, B, C'⟩ σ H :=
  s_forR2' (N := tz ⟨N, R, B, C'⟩) (B := B) (C' := C') h hb Pv h0 hs hd
theorem v_dnin (hy : Val ty σ H (.int z)) (hd : Val td σ H (.ref a)) (ha : H a = some (.dK kvs)) : Val (tDNotIn ty td) σ H (.bl (!(valV kvs (Sum.inl z : Key)).isSome)) := fun Q q =>
  hy _ (hd _ ⟨a, _, rfl, DGet.k (k := Sum.inl z) ha, q⟩)
theorem s_dputI {tv : TE} {v : V} (hv : Val tv σ H v) (h : Val td σ H (.ref a)) (hy : Val ty σ H (.int z)) (hd : H a = some (.dK kvs)) (hl : kvs.length ≤ 1000) (q : N σ (upd H a (.dK (putK kvs (Sum.inl z : Key) v)))) : sDPut td ty tv ⟨N, R, B, C'⟩ σ H :=
  hv _ (h _ (hy _ ⟨a, _, rfl, DPut.k (k := Sum.inl z) hd (Nat.lt_of_le_of_lt hl (by decide +kernel)), q⟩))
/-- a dict of users that have gone -/
def gnK (G : List Nat) : List (Key × V) := G.map fun (u : Nat) => ((Sum.inl (u : Int) : Key), V.bl true)
theorem gnK_has : ∀ {G : List Nat} {u : Nat}, (valV (gnK G) (Sum.inl (u : Int) : Key)).isSome = decide (u ∈ G)
  | [], u => rfl
  | g :: G, u => by
    have ih := gnK_has (G := G) (u := u)
    unfold valV gnK at ih ⊢
    rw [List.map_cons, List.find?_cons]
    by_cases c : g = u
    · subst c; simp
    · have : decide ((Sum.inl (g : Int) : Key) = Sum.inl (u : Int)) = false := decide_eq_false (fun e => c (by have := Sum.inl.inj e; omega))
      dsimp only
      rw [this]
      dsimp only
      rw [ih]
      exact decide_eq_decide.mpr ⟨fun h => List.mem_cons_of_mem _ h, fun h => (List.mem_cons.mp h).resolve_left (fun e => c e.symm)⟩
theorem gnK_put {G : List Nat} {u : Nat} : putK (gnK G) (Sum.inl (u : Int) : Key) (.bl true) = gnK (if u ∈ G then G else G ++ [u]) := by
  have hany : ((gnK G).any fun kv => decide (kv.1 = (Sum.inl (u : Int) : Key))) = decide (u ∈ G) := by
    unfold gnK
    rw [List.any_map, Bool.eq_iff_iff, List.any_eq_true, decide_eq_true_iff]
    constructor
    · rintro ⟨g, hg, e⟩
      have := of_decide_eq_true e
      have := Sum.inl.inj this
      have : g = u := by omega
      exact this ▸ hg
    · intro h; exact ⟨u, h, decide_eq_true rfl⟩
  unfold putK
  rw [hany]
  by_cases c : u ∈ G
  · rw [if_pos (decide_eq_true c), if_pos c]
    unfold gnK
    rw [List.map_map]
    refine List.map_congr_left fun g _ => ?_
    show (if _ then _ else _) = _
    split <;> rfl
  · rw [if_neg (by rw [decide_eq_false c]; exact Bool.false_ne_true), if_neg c]
    unfold gnK
    rw [List.map_append]; rfl
end
/-! ### xs.extend(a tuple) -/
section
open PySem.AutoSeq1
theorem ext_tup (l : Addr) (items : Array Value) (n : Nat) (b : Addr) (items2 : Array Value) (n2 : Nat) (dd : Option Addr) (sl : Array (Option Value)) (hs0 : ¬(!items.isEmpty && Builtin.List.listTooLong (items.size + items2.size)) = true) (hs1 : items.size ≤ sizeLine) (hs2 : items.size + items2.size ≤ sizeLine + 1) :
    Meets (Builtin.«list.extend» ⟨[.ref l, .ref b], []⟩) (fun _ R s => s.heap.get? l = some { cls := .type "list", dict := none, data := .seq items n, slots := #[] } ∧ s.heap.get? b = some { cls := .type "tuple", dict := dd, data := .seq items2 n2, slots := sl } ∧ R (.ok (.ret Value.none)) { s with heap := s.heap.update l (Obj.mapSeq fun x => x ++ items2), toks := s.toks }) :=
  .of_wp fun prog w A R s h => by
    obtain ⟨hp, g, d, tk, os⟩ := s; obtain ⟨hl, hb, h⟩ := h; have f1 := AutoSeq1.idx_int; have f2 := AutoSeq1.sub_tuple_tuple; have f3 := AutoSeq1.sub_list_list; have f4 := AutoSeq1.sub_tuple_list; have f5 := AutoSeq1.sub_list_tuple;
    have hz' : (items ++ items2).size ≤ sizeLine + 1 := by rw [Array.size_append]; exact hs2
    wp_walk using (wpAny_updateSeq hl rfl (hz := hs1) (_hz' := hz')), wpAny_loadPart' hl, wpAny_loadPart' hb; exact ⟨_, rfl, h⟩
def rExtT (K : PySem.W.Frag) : V → List V → Hp → VK → Prop := fun x vs H Q => ∃ l b xs zs, x = .ref l ∧ vs = [.ref b] ∧ H l = some (.lst xs) ∧ SqT K H b zs ∧ xs.length + zs.length ≤ sizeLine ∧ Q .non (upd H l (.lst (xs ++ zs)))
theorem mt_extT {X : Cx} : MtM X "list.extend" (rExtT X.K) := by
  intro pins s σ H x vs v us Q I rx rv h
  obtain ⟨l, b, xs, zs, rfl, rfl, hH, hB, hz, q⟩ := h
  cases rx
  obtain ⟨u, rfl, ru⟩ := rv.one
  cases ru
  obtain ⟨z, its, n, r, hl, e⟩ := I.lstM hH
  obtain ⟨its2, r2, ⟨o, e2, oc, n2, od⟩, z2⟩ := I.tuple hB
  have hl2 := r2.length
  obtain ⟨cls, dd, data, sl⟩ := o
  dsimp only at oc od
  subst oc od
  have hsz : its.toArray.size + its2.toArray.size ≤ sizeLine := by rw [List.size_toArray, List.size_toArray]; omega
  have hlong : ¬ (!its.toArray.isEmpty && Builtin.List.listTooLong (its.toArray.size + its2.toArray.size)) = true := by
    rw [notLongL hsz, Bool.and_false]
    exact Bool.false_ne_true
  refine call_meets F.slot_list_extend ⟨_, e, rfl⟩ F.entry_list_extend (F.args_list_extend_2 _ _)
    (ext_tup l its.toArray n b its2.toArray n2 dd sl hlong (by rw [List.size_toArray]; omega) (by omega)) ⟨e, e2, ?_⟩
  refine ⟨.non, _, I.lset (its' := its ++ its2) hH e (by simp) (r.append r2) ?_, rfl, q⟩
  rw [List.length_append]
  omega
end
/-! ### the users' world for readings of data -/
def footF (A : PA) : FS := fun b => b ∈ A.foot
def orF (F G : FS) : FS := fun b => F b ∨ G b
abbrev noF : FS := fun _ => False
/-- a def that gives data -/
def spD0 (K : PySem.W.Frag) (pre : List V → Hp → FS → (Hp → Prop) → PyData → Prop) : Sp := fun vs H Q _ => ∃ F W d, Wo F W ∧ Ok F W H ∧ pre vs H F W d ∧ ∀ v H', Mv F H F H' → Ok F W H' → Da K H' F v d → Q v H'
/-- no tuple stands there -/
structure NoTup (H : Hp) (b : Addr) : Prop where
  a : ∀ xs, H b ≠ some (.tup xs)
  f : ∀ o xs, H b ≠ some (.frz o (.tup xs))
theorem NoTup.ins {H : Hp} {b C dx : Addr} {fs : List (Str × V)} (h : H b = some (.ins C dx fs)) : NoTup H b := ⟨(fun _ e => by rw [h] at e; cases e), (fun _ _ e => by rw [h] at e; cases e)⟩
theorem NoTup.lst {H : Hp} {b : Addr} {xs : List V} (h : H b = some (.lst xs)) : NoTup H b := ⟨(fun _ e => by rw [h] at e; cases e), (fun _ _ e => by rw [h] at e; cases e)⟩
theorem NoTup.dK {H : Hp} {b : Addr} {kvs : List (Key × V)} (h : H b = some (.dK kvs)) : NoTup H b := ⟨(fun _ e => by rw [h] at e; cases e), (fun _ _ e => by rw [h] at e; cases e)⟩
theorem Da.sqL {K : PySem.W.Frag} {H : Hp} {F : FS} {a : Addr} {ns : List Int} (h : Da K H F (.ref a) (.list (ns.map PyData.int))) : SqL K H a (ns.map V.int) := by
  cases h with | lst h1 h2 => rw [← h2.ints]; exact SqL.of h1.at_
def evD : Ev → PyData
  | .key l => .tuple [.str "key", .int l]
  | .tick => .tuple [.str "tick"]
  | .start p => .tuple [.str "start", .int p]
  | .step => .tuple [.str "step"]
section
variable {K : PySem.W.Frag} {H H' H1 : Hp} {F F1 G : FS} {W : Hp → Prop} {σ : L2.St} {te ta tb tl : TE} {tA : TA} {v : V} {vs : List V} {d e : PyData} {ds es : List PyData} {n : Nat} {C D a : Addr} {A B : PA} {P P' P2 : Pn} {N : L2.St → Hp → Prop} {R : VK} {Bk Ct : L2.St → Hp → Prop} {tz : TS} {ev : Ev}
theorem dv_sp {pre : List V → Hp → FS → (Hp → Prop) → PyData → Prop} (wo : Wo F W) (h : DvA K F W tA σ H ds) (hp : ∀ vs H1, Mv F H F H1 → Ok F W H1 → DaAll K H1 F vs ds → pre vs H1 F W d) : Dv K F W (tCall (spD0 K pre) [] E0 tA) σ H d :=
  dv_call h fun vs H1 m o hd Q q => ⟨F, W, d, wo, o, hp vs H1 m o hd, q⟩
theorem dv_spV {pre : List V → Hp → FS → (Hp → Prop) → PyData → Prop} (wo : Wo F W) (h : ∀ H1, Mv F H F H1 → Ok F W H1 → ValA tA σ H1 vs) (hp : ∀ H1, Mv F H F H1 → Ok F W H1 → pre vs H1 F W d) : Dv K F W (tCall (spD0 K pre) [] E0 tA) σ H d := fun H1 m o _ q =>
  h H1 m o _ (by rw [List.append_nil]; exact ⟨F, W, d, wo, o, hp H1 m o, q⟩)
theorem Da.evT (h : Da K H F (.ref a) (evD ev)) : SqT K H a (evV ev) := by
  cases ev with
  | key l => cases h with | tup h1 h2 => cases h2 with | cons z1 h2 => cases h2 with | cons z2 h2 => cases h2; cases z1; cases z2; exact h1.sq
  | tick => cases h with | tup h1 h2 => cases h2 with | cons z1 h2 => cases h2; cases z1; exact h1.sq
  | start p => cases h with | tup h1 h2 => cases h2 with | cons z1 h2 => cases h2 with | cons z2 h2 => cases h2; cases z1; cases z2; exact h1.sq
  | step => cases h with | tup h1 h2 => cases h2 with | cons z1 h2 => cases h2; cases z1; exact h1.sq
theorem Da.evR (h : Da K H F v (evD ev)) : ∃ a, v = .ref a ∧ SqT K H a (evV ev) := by
  have : ∃ a, v = .ref a := by
    cases ev <;> (cases h; exact ⟨_, rfl⟩)
  obtain ⟨a, rfl⟩ := this
  exact ⟨a, rfl, h.evT⟩
theorem sh_ev : Sh 1 (evD ev) := by
  cases ev
  · exact sh_tup (shA_cons (sh_str (by decide +kernel)) (shA_cons sh_int shA_nil))
  · exact sh_tup (shA_cons (sh_str (by decide +kernel)) (shA_cons sh_int shA_nil))
  · exact sh_tup (shA_cons (sh_str (by decide +kernel)) shA_nil)
  · exact sh_tup (shA_cons (sh_str (by decide +kernel)) shA_nil)
theorem da_intsT_inv {ns : List Int} (h : Da K H F v (intsD ns)) : ∃ b, v = .ref b ∧ SqT K H b (ns.map V.int) := dp_ints_inv h.dp
/-- pictures are data -/
theorem Dp.da (no : ∀ b, F b → NoTup H b) (h : Dp K H (.ref a) (shotD P)) : Da K H F (.ref a) (shotD P) := by
  have T : ∀ b xs, SqT K H b xs → TpA K H F b xs := fun b xs hs => ⟨hs, by
    rcases hs with (e | ⟨o, e⟩) | e
    · exact .inl fun f => (no b f).a _ e
    · exact .inl fun f => (no b f).f _ _ e
    · exact .inr fun _ => .inr e⟩
  obtain ⟨a0, a4, a5, a6, a7, as, s⟩ := shot_inv h
  have I : ∀ b ns, SqT K H b (ns.map V.int) → Da K H F (.ref b) (intsD ns) := fun b ns hs => .tup (T _ _ hs) (daAll_ints ns)
  have B : ∀ (bs : List (List Int)) (as : List Addr), as.length = bs.length → (∀ (i : Nat) b, as[i]? = some b → ∃ ws, bs[i]? = some ws ∧ SqT K H b (ws.map V.int)) → DaAll K H F (as.map V.ref) (bs.map intsD) := by
    intro bs
    induction bs with
    | nil => intro as hl _; cases as with
      | nil => exact .nil
      | cons _ _ => cases hl
    | cons w r ih => intro as hl hr; cases as with
      | nil => cases hl
      | cons b as =>
        obtain ⟨ws, e1, e2⟩ := hr 0 b rfl
        cases e1
        exact .cons (I _ _ e2) (ih as (by simpa using hl) fun i c e => hr (i + 1) c e)
  exact .tup (T _ _ s.top) (.cons (I _ _ s.cs) (.cons (.int _) (.cons (.int _) (.cons (.int _) (.cons (I _ _ s.ib) (.cons (I _ _ s.ob) (.cons (I _ _ s.pp) (.cons (.tup (T _ _ s.bl) (B _ _ s.len s.row)) (.cons (.int _) (.cons (.str _) (.cons (.int _) (.cons (.int _) (.cons (.int _) .nil)))))))))))))
/-- the world of one user, of two -/
abbrev UW (C D : Addr) (A : PA) (P : Pn) : Hp → Prop := fun H => PAt C D H A P
theorem PAt.loc (h : PAt C D H A P) (k : ∀ b o, b ∈ A.foot → H b = some o → H' b = some o) : PAt C D H' A P := by
  obtain ⟨f1, f2, f3, f4, f5, f6, f7⟩ := PAt.fp A
  exact ⟨k _ _ f1 h.hp, k _ _ f2 h.hm, k _ _ f3 h.hc, k _ _ f4 h.hi, k _ _ f5 h.ho, k _ _ f6 h.hq, k _ _ f7 h.hb, fun i b hb => by
    obtain ⟨ws, w1, w2⟩ := h.hbs i b hb
    exact ⟨ws, w1, k _ _ (by unfold PA.foot; exact List.mem_append_right _ (List.mem_of_getElem? hb)) w2⟩, h.len, h.nd⟩
theorem woU : Wo (footF A) (UW C D A P) := ⟨fun _ _ k _ w => w.loc fun b o f => k b o f⟩
theorem PAt.fa (h : PAt C D H A P) : FA (footF A) H := fun b f e => by rcases h.obj b f with ⟨_, _, _, z⟩ | ⟨_, z⟩ <;> rw [z] at e <;> cases e
theorem okU (h : PAt C D H A P) : Ok (footF A) (UW C D A P) H := ⟨h.fa, h⟩
theorem PAt.noT (h : PAt C D H A P) : ∀ b, footF A b → NoTup H b := fun b f => by
  rcases h.obj b f with ⟨_, _, _, z⟩ | ⟨_, z⟩
  · exact .ins z
  · exact .lst z
theorem Fr.tps (f : Fr A.foot H H') (h : PAt C D H A P) : TpS H H' := fun b xs e => f b _ (fun hm => (h.noT b hm).a _ e) e
theorem Fr.mv (f : Fr A.foot H H') (g : ∀ b, footF A b → F b) : Mv F H F H' := ⟨fun b o n e => f b o (fun m => n (g b m)) e, fun _ h => .inl h⟩
theorem FA.fr (fa : FA F H) (f : Fr A.foot H H') (h : PAt C D H' A P) : FA F H' := fun b fb e => by
  by_cases c : b ∈ A.foot
  · exact h.fa b c e
  · cases z : H b with
    | none => exact fa b fb z
    | some o => rw [f b o c z] at e; cases e
/-- a new user from data -/
theorem Mv.newU (o : Ok F W H) (fr : ∀ b ∈ A.foot, H b = none) (s : Same H H') : Mv F H (orF F (footF A)) H' := ⟨fun b o _ e => s b o e, fun b f => f.imp id (fr b)⟩
theorem x_personOf {Q : VK} (h : Dv K F W te σ H (shotD P)) (hb : P.blocks.length = 4) (wo : Wo F W) (o : Ok F W H) (q : ∀ A H', Mv F H (orF F (footF A)) H' → FA F H' → W H' → PAt C D H' A P → (∀ b ∈ A.foot, ¬ F b) → (∀ b o, H b = some o → b ∉ A.foot) → Q (.ref A.p) H') : tCall (spPersonOf K C D) [] E0 (tCons te tNil) σ H Q :=
  xc_1 (x_d h o fun v H1 m1 o1 hv => by
    have : ∃ a, v = .ref a := by unfold shotD at hv; cases hv; exact ⟨_, rfl⟩
    obtain ⟨a, rfl⟩ := this
    refine ⟨a, P, rfl, hv.dp, hb, fun A H' fr s hA => q A H' (m1.trans (Mv.newU o1 fr s)) (o1.fa.same s) (o1.same wo s).w hA (fun b hb f => o1.fa b f (fr b hb)) (fun b o e hm => ?_)⟩
    by_cases c : F b
    · exact o1.fa b c (fr b hm)
    · have := m1.keep b o c e
      rw [fr b hm] at this; cases this)
theorem x_personD {Q : VK} {cs : List Int} {sw : Int} (h : Dv K F W te σ H d) (hd : d = .list (cs.map PyData.int) ∨ d = intsD cs) (hs : ∀ H1, Mv F H F H1 → Ok F W H1 → Val ta σ H1 (.int sw)) (wo : Wo F W) (o : Ok F W H) (q : ∀ A H', Mv F H (orF F (footF A)) H' → FA F H' → W H' → PAt C D H' A (newP cs sw) → (∀ b ∈ A.foot, ¬ F b) → (∀ b o, H b = some o → b ∉ A.foot) → Q (.ref A.p) H') : tMake D (spPerson K C D) [] E0 (tCons te (tCons ta tNil)) σ H Q := by
  show te σ H _
  refine x_d h o fun v H1 m1 o1 hv => ?_
  have hq : ∃ a, v = .ref a ∧ SqI K H1 a cs := by
    rcases hd with rfl | rfl
    · cases hv with | lst h1 h2 => exact ⟨_, rfl, .inl (by rw [← h2.ints]; exact SqL.of h1.at_)⟩
    · cases hv with | tup h1 h2 => exact ⟨_, rfl, .inr (by rw [← h2.ints]; exact h1.sq)⟩
  obtain ⟨a, rfl, hsq⟩ := hq
  show ta σ H1 _
  refine hs H1 m1 o1 _ ?_
  refine (x_person (σ := σ) (H := H1) (tA := fun _ H2 Q2 => Q2 [.ref a, .int sw] H2) (sw := sw) (cs := cs) (fun Q2 q2 => q2) hsq (fun A H' fr s hA => q A H' (m1.trans (Mv.newU o1 fr s)) (o1.fa.same s) (o1.same wo s).w hA (fun b hb f => o1.fa b f (fr b hb)) (fun b o e hm => ?_)) : _)
  by_cases c : F b
  · exact o1.fa b c (fr b hm)
  · have := m1.keep b o c e
    rw [fr b hm] at this; cases this
/-- an event happens -/
theorem q_hap (ha : ∀ H1, Val ta σ H1 (.ref A.p)) (he : Dv K F W te σ H (evD ev)) (o : Ok F W H) (up : ∀ H1, W H1 → PAt C D H1 A P) (sub : ∀ b, footF A b → F b) (w : WfP P) (hs : Short P) (q : ∀ H1 H', Ok F W H1 → PAt C D H' A (happenP P ev) → Fr A.foot H1 H' → Mv F H F H' → FA F H' → tz ⟨N, R, Bk, Ct⟩ σ H') : tSeq (tDrop (tCall (spHappen K C D) [] E0 (tCons ta (tCons te tNil)))) tz ⟨N, R, Bk, Ct⟩ σ H :=
  qx_drop (xc_2 (ha H) (x_d he o fun v H1 m1 o1 hv => by
    obtain ⟨a, rfl, hE⟩ := hv.evR
    exact ⟨A, P, a, ev, rfl, up _ o1.w, w, hs, hE, fun H' h' f => q H1 H' o1 h' f (m1.trans (f.mv sub)) (o1.fa.fr f h')⟩))
theorem s_hap (ha : ∀ H1, Val ta σ H1 (.ref A.p)) (he : Dv K F W te σ H (evD ev)) (o : Ok F W H) (up : ∀ H1, W H1 → PAt C D H1 A P) (sub : ∀ b, footF A b → F b) (w : WfP P) (hs : Short P) (q : ∀ H1 H', Ok F W H1 → PAt C D H' A (happenP P ev) → Fr A.foot H1 H' → Mv F H F H' → FA F H' → N σ H') : tDrop (tCall (spHappen K C D) [] E0 (tCons ta (tCons te tNil))) ⟨N, R, Bk, Ct⟩ σ H :=
  sx_drop (xc_2 (ha H) (x_d he o fun v H1 m1 o1 hv => by
    obtain ⟨a, rfl, hE⟩ := hv.evR
    exact ⟨A, P, a, ev, rfl, up _ o1.w, w, hs, hE, fun H' h' f => q H1 H' o1 h' f (m1.trans (f.mv sub)) (o1.fa.fr f h')⟩))
/-- a picture -/
theorem dv_pic (ha : ∀ H1, Mv F H F H1 → Ok F W H1 → Val ta σ H1 (.ref A.p)) (wo : Wo F W) (up : ∀ H1, W H1 → PAt C D H1 A P) (hb : P.blocks.length = 4) (no : ∀ H1, W H1 → ∀ b, F b → NoTup H1 b) : Dv K F W (tCall (spPicture K C D) [] E0 (tCons ta tNil)) σ H (shotD P) := fun H1 m o _ q =>
  ha H1 m o _ ⟨A, P, rfl, up _ o.w, hb, fun a H' s hd => q _ _ (.same s) (o.same wo s) (Dp.da (no _ (o.same wo s).w) hd)⟩
end
/-- the script beside -/
structure SF (K : PySem.W.Frag) (H : Hp) (F : FS) (a : Addr) (ns : List Int) : Prop where
  sq : SqL K H a (ns.map V.int)
  no : ¬ F a ∨ ∀ H', SqL K H' a (ns.map V.int)
section
variable {K : PySem.W.Frag} {H H' : Hp} {F F' : FS} {a : Addr} {ns : List Int}
theorem SF.mv (h : SF K H F a ns) (m : Mv F H F' H') : SF K H' F' a ns := by
  obtain ⟨h, n⟩ := h
  rcases n with n | n
  · rcases h with (h | ⟨o, h⟩) | h
    · exact ⟨.inl (.inl (m.keep _ _ n h)), .inl fun f => (m.new a f).elim n (fun e => by rw [h] at e; cases e)⟩
    · exact ⟨.inl (.inr ⟨o, m.keep _ _ n h⟩), .inl fun f => (m.new a f).elim n (fun e => by rw [h] at e; cases e)⟩
    · exact ⟨.inr h, .inr fun _ => .inr h⟩
  · exact ⟨n _, .inr n⟩
theorem SF.of (h : SqL K H a (ns.map V.int)) : SF K H noF a ns := ⟨h, .inl fun f => f⟩
end
theorem hd_list {f : PyData → PyData} {ds : List PyData} {xs : List Int} (h : ds = xs.map PyData.int) : PyData.list ds = .list (xs.map PyData.int) := by rw [h]
theorem paper_run : ∀ (es : List Ev) (P : Pn), (runP P es).paper.length ≤ P.paper.length + es.length
  | [], P => Nat.le_refl _
  | e :: es, P => by
    have h1 := paper_run es (happenP P e)
    have h2 := paper_happen P e
    show (runP (happenP P e) es).paper.length ≤ _
    rw [List.length_cons]; omega
theorem wf_run : ∀ {es : List Ev} {P : Pn}, WfP P → (∀ e ∈ es, EvOk e) → WfP (runP P es)
  | [], _, w, _ => w
  | e :: es, _, w, h => wf_run (es := es) (wfP_happen w (h e List.mem_cons_self)) fun x hx => h x (List.mem_cons_of_mem _ hx)
theorem runP_take {P : Pn} {es : List Ev} {i : Nat} {e : Ev} (h : es[i]? = some e) : runP P (es.take (i + 1)) = happenP (runP P (es.take i)) e := by
  unfold runP
  rw [List.take_add_one, h, List.foldl_append]; rfl
theorem stk {P P' : Pn} (e : P'.st = P.st) (h : StOk P) : StOk P' := by unfold StOk; rw [e]; exact h
theorem st_carry (P : Pn) (f : Bool) : (carryP P f).st = P.st := by
  unfold carryP; dsimp only
  split
  · rfl
  · split <;> rfl
theorem st_ask {P : Pn} (h : StOk P) (p : Int) : StOk (askP P p) := by
  by_cases h0 : p = 0
  · subst h0
    by_cases c : P.inbox = []
    · rw [ask_0 c]; exact h
    · rw [ask_0s c]; exact stk (P := P) rfl h
  by_cases h2 : p = 2
  · subst h2
    unfold askP
    split
    · exact stk (P := P) rfl h
    · exact h
  unfold askP
  rw [if_neg (by simp [h0, h2])]
  by_cases h1 : p = 1
  · rw [if_pos h1]
    cases hx : P.inbox with
    | nil => rw [hearP_nil hx]; exact .inr (.inr (.inl rfl))
    | cons x r => rw [hearP_cons hx]; exact stk (P := P) rfl h
  rw [if_neg h1]
  by_cases h3 : p = 3
  · rw [if_pos h3]; unfold sayP; split
    · exact .inr (.inr (.inr (.inl rfl)))
    · exact stk (P := P) rfl h
  rw [if_neg h3]
  by_cases h4 : p = 4
  · rw [if_pos h4]; unfold dozeP; split
    · exact .inr (.inr (.inr (.inr rfl)))
    · exact h
  rw [if_neg h4]
  by_cases h5 : p = 5
  · rw [if_pos h5]; exact stk (st_carry P _) h
  rw [if_neg h5]
  by_cases h6 : p = 6
  · rw [if_pos h6]; exact stk (st_carry P _) h
  rw [if_neg h6]
  by_cases h7 : p = 7
  · rw [if_pos h7]; exact .inl rfl
  rw [if_neg h7]
  by_cases h8 : p = 8
  · rw [if_pos h8]; exact stk (P := P) rfl h
  rw [if_neg h8]; exact h
theorem st_wake {P : Pn} (s : Str) (h : StOk P) : StOk (wakeP P s) := by
  unfold wakeP; split
  · exact .inr (.inl rfl)
  · exact h
theorem st_happen {P : Pn} (h : StOk P) (e : Ev) : StOk (happenP P e) := by
  cases e with
  | key l =>
    refine st_wake _ ?_
    split
    · exact stk (P := P) rfl h
    · exact stk (P := P) rfl h
  | tick =>
    have h1 : StOk (tick1P P) := by
      unfold tick1P; split
      · exact h
      · exact st_wake _ (stk (P := P) rfl h)
    show StOk (tick2P (tick1P P))
    unfold tick2P
    split
    · split
      · exact .inr (.inl rfl)
      · exact stk (P := tick1P P) rfl h1
    · exact h1
  | start p =>
    show StOk (if P.st = "stopped" then _ else P)
    split
    · exact .inr (.inl rfl)
    · exact h
  | step =>
    show StOk (if P.st = "ready" then stepP P else P)
    split
    · unfold stepP; dsimp only; split
      · refine st_ask ?_ _
        exact stk (P := P) rfl h
      · exact stk (P := P) rfl h
    · exact h
theorem st_run : ∀ {es : List Ev} {P : Pn}, StOk P → StOk (runP P es)
  | [], _, h => h
  | e :: es, _, h => st_run (es := es) (st_happen h e)
/-- alone: a new user, its events -/
def spAlone (K : PySem.W.Frag) (C D : Addr) : Sp := fun vs H Q _ => ∃ (F : FS) (W : Hp → Prop) (vc vE : V) (cs : List Int) (sw : Int) (es : List Ev), vs = [vc, .int sw, vE] ∧ Wo F W ∧ Ok F W H ∧ Da K H F vc (.list (cs.map PyData.int)) ∧ Da K H F vE (.list (es.map evD)) ∧
  WfP (newP cs sw) ∧ (∀ e ∈ es, EvOk e) ∧ es.length ≤ 1000 ∧ ∀ A H', Mv F H (orF F (footF A)) H' → FA F H' → W H' → PAt C D H' A (runP (newP cs sw) es) → (∀ b ∈ A.foot, ¬ F b) → (∀ b o, H b = some o → b ∉ A.foot) → Q (.ref A.p) H'
theorem va_2 {σ : L2.St} {H : Hp} {ta tb tc : TE} {v w : V} {Q : List V → Hp → Prop} (ha : Val ta σ H v) (hb : Val tb σ H w) (h : tc σ H fun x H1 => Q [v, w, x] H1) : tCons ta (tCons tb (tCons tc tNil)) σ H Q := ha _ (hb _ h)
theorem da_ev {K : PySem.W.Frag} {H : Hp} {F : FS} {a : Addr} {e : Ev} (h : H a = some (.tup (evV e))) (n : ¬ F a) : Da K H F (.ref a) (evD e) := by
  cases e with
  | key l => exact .tup ⟨SqT.of h, .inl n⟩ (.cons (.str _) (.cons (.int _) .nil))
  | tick => exact .tup ⟨SqT.of h, .inl n⟩ (.cons (.str _) .nil)
  | start p => exact .tup ⟨SqT.of h, .inl n⟩ (.cons (.str _) (.cons (.int _) .nil))
  | step => exact .tup ⟨SqT.of h, .inl n⟩ (.cons (.str _) .nil)
theorem daAll_evs {K : PySem.W.Frag} {H : Hp} {F : FS} : ∀ {as : List Addr} {es : List Ev}, as.length = es.length → (∀ (i : Nat) a e, as[i]? = some a → es[i]? = some e → H a = some (.tup (evV e)) ∧ ¬ F a) → DaAll K H F (as.map V.ref) (es.map evD)
  | [], [], _, _ => .nil
  | [], _ :: _, h, _ => by cases h
  | _ :: _, [], h, _ => by cases h
  | a :: as, e :: es, hl, h => .cons (da_ev (h 0 a e rfl rfl).1 (h 0 a e rfl rfl).2) (daAll_evs (by simpa using hl) fun i b f h1 h2 => h (i + 1) b f h1 h2)
/-! ### enumerate(a tuple): its making and its end -/
end Ch
namespace PySem
open Sem (wp)
open AutoSeq1 (wpAny_loadPart')
section
theorem meets_enumerate_newT (l : Addr) (items : Array Value) (n : Nat) (dct : Option Addr) (sl : Array (Option Value)) :
    Meets (Builtin.«enumerate.__new__» ⟨[.type "enumerate", .ref l], []⟩) (fun _ R s => s.heap.get? l = some { cls := .type "tuple", dict := dct, data := .seq items n, slots := sl } ∧
      R (.ok (.ret (.ref (s.heap.push { cls := .type "tuple_iterator", data := .fields #[.ref l, .int 0 0] }).objs.size)))
        { s with heap := (s.heap.push { cls := .type "tuple_iterator", data := .fields #[.ref l, .int 0 0] }).push { cls := .type "enumerate", data := .fields #[.none, .bool false, .ref s.heap.objs.size, rawInt 0, .none, .none] } }) :=
  .of_wp fun prog w A R s h => by
    obtain ⟨hp, g, d, tk, os⟩ := s; obtain ⟨hl, h⟩ := h
    have hsub := sub_enumerate
    have hL : Heap.IsTuple (Shared.heap ⟨hp, g, d, tk, os⟩) l items := ⟨_, hl, rfl, n, rfl⟩
    wp_walk using wpAny_loadPart' hl
    refine wpAny_stack_any fun st => wpAny_pure ?_
    split
    · rename_i c _ _ _ _ _
      cases (c == Value.type "enumerate")
      · wp_walk using wpAny_loadPart' hl, wpAny_pyIter_tuple hL
        exact ⟨_, rfl, h⟩
      · wp_walk using wpAny_loadPart' hl, wpAny_pyIter_tuple hL
        exact ⟨_, rfl, h⟩
    · wp_walk using wpAny_loadPart' hl, wpAny_pyIter_tuple hL
      exact ⟨_, rfl, h⟩
variable {prog : Program} {w : World} {A : Around} {E : Value → Shared → Prop} {s : Shared}
theorem call_enumerate_tuple {l : Addr} {items : Array Value} {Q : Value → Shared → Prop} (hL : s.heap.IsTuple l items)
    (h : ∀ h', IsEnum h' (s.heap.objs.size + 1) s.heap.objs.size 0 .none → h'.IsTupleIter s.heap.objs.size l 0 → h'.objs.size = s.heap.objs.size + 2 →
      (∀ b o, s.heap.get? b = some o → h'.get? b = some o) → Q (.ref (s.heap.objs.size + 1)) { s with heap := h' }) :
    wpAny (model prog w) A (call (.type "enumerate") [.ref l]) Q E s := by
  obtain ⟨⟨c, dct, dt, sl⟩, hl, hc, n, hd⟩ := hL
  replace hc : c = .type "tuple" := hc
  replace hd : dt = .seq items n := hd
  subst hc hd
  refine callType_new F.called_enumerate (by decide) (F.typeCall_enumerate_1 _) (F.newCall_enumerate_1 _) (fun obj => F.args_object_init_2 obj _) F.entry_enumerate_new
    (meets_enumerate_newT l items n dct sl) ⟨hl, ?_⟩
  have hz : (s.heap.push { cls := .type "tuple_iterator", data := .fields #[.ref l, .int 0 0] }).objs.size = s.heap.objs.size + 1 := Heap.size_push ..
  show _ ∧ _
  rw [hz]
  have he : IsEnum ((s.heap.push { cls := .type "tuple_iterator", data := .fields #[.ref l, .int 0 0] }).push
      { cls := .type "enumerate", data := .fields #[.none, .bool false, .ref s.heap.objs.size, rawInt 0, .none, .none] }) (s.heap.objs.size + 1) s.heap.objs.size 0 .none := by
    have := Heap.get?_push_size (s.heap.push { cls := .type "tuple_iterator", data := .fields #[.ref l, .int 0 0] })
      (o := { cls := .type "enumerate", data := .fields #[.none, .bool false, .ref s.heap.objs.size, rawInt 0, .none, .none] }) rfl
    rw [hz] at this; exact this
  refine ⟨⟨_, he, rfl⟩, h _ he ⟨_, Heap.get?_push_of_some _ (Heap.get?_push_size _ rfl), rfl, rfl⟩ (by rw [Heap.size_push, hz]) fun b o x => Heap.get?_push_of_some _ (Heap.get?_push_of_some _ x)⟩
theorem enum_end_tup {e it l : Addr} {i : Nat} {items : Array Value} {old : Value} {Q : Option Value → Shared → Prop} (hh : A.handled = none)
    (he : IsEnum s.heap e it i old) (hit : s.heap.IsTupleIter it l i) (hl : s.heap.IsTuple l items) (hx : items[i]? = none)
    (hQ : ∀ h', Heap.ExtBut it s.heap h' → Q none { s with heap := h' }) : wpAny (model prog w) A (pyNext (.ref e)) Q E s := by
  have hT : s.TypeIs (.ref e) "enumerate" := ⟨_, he, rfl⟩
  unfold pyNext
  refine wpAny_bind (wpAny_attempt (wpAny_callSpecial?_slot (name := Str.ofString "__next__") hT F.slot_enumerate_next
    (wpAny_call_entry F.slot_enumerate_next hT F.entry_enumerate_next ?_ (F.args_enumerate_next_1 _))))
  show wpAny _ _ (field (.ref e) 2 >>= _) _ _ _
  refine wpAny_bind (wpAny_field he rfl (x := .ref it) rfl ?_)
  refine wpAny_bind (wpAny_nextOf_tuple_end hh hit hl hx fun h' x he' hx' => ?_)
  obtain ⟨o, ho, hc⟩ := hx'
  refine wpAny_bind (wpAny_isInstance (T := "StopIteration") (b := true) ⟨o, ho, hc⟩ isSubtype_stop ?_)
  exact wpAny_pure (hQ _ he')
end
end PySem
namespace Ch
open PySem PySem.Spec PyProof.Rows L2
/-! ### for i, x in enumerate(a tuple) -/
section
open PySem
def IteT (K : PySem.W.Frag) (a : Addr) : It :=
  ⟨fun i H => ∃ (xs : List V) (x : V), SqT K H a xs ∧ xs[i]? = some x, fun i H v H' => ∃ T x, v = .ref T ∧ H T = none ∧ H' = upd H T (.tup [.int (i : Nat), x]) ∧ ∀ xs, SqT K H a xs → xs[i]? = some x, fun i H => ∃ xs : List V, SqT K H a xs ∧ xs.length ≤ i⟩
theorem turn_enumT {P : Program} {w : World} {K : PySem.W.Frag} {elts : List Expr} {kk : Nat} {tpos : Pos} (a e it : Addr) :
    Turn P w K (.Tuple elts kk tpos) (IteT K a) [e, it] e (fun i h => (∃ old, IsEnum h e it ((i : Nat) : Int) old) ∧ h.IsTupleIter it a i ∧ e ≠ it) where
  mem := by simp
  obj := fun i h st b hb => by
    obtain ⟨⟨old, he⟩, ⟨o, ho, hc, hd⟩, _⟩ := st
    have e' : b = e ∨ b = it := by simpa using hb
    rcases e' with z | z
    · rw [z]; exact ⟨_, he, fun v q => nomatch q⟩
    · rw [z]; exact ⟨o, ho, fun v q => by rw [hd] at q; cases q⟩
  keep := fun i h h' st k => let ⟨⟨old, he⟩, hi, hne⟩ := st; ⟨⟨old, k e (by simp) _ he⟩, hi.at fun o q => k it (by simp) o q, hne⟩
  item := by
    intro X hP hw hK hc i pins s σ H E I hf st hg
    subst hP hw hK
    obtain ⟨⟨old, he⟩, hit, hne⟩ := st
    obtain ⟨xs, x, hq, hx⟩ := hg
    obtain ⟨its, rv, p, hz⟩ := I.tuple hq
    obtain ⟨u, hu, ru⟩ := rv.get hx
    have hel : e < s.heap.objs.size := Heap.lt_size he
    have hil : it < s.heap.objs.size := by obtain ⟨_, q, _⟩ := hit; exact Heap.lt_size q
    have p' : s.heap.IsTuple a its.toArray := p
    have hai : a ≠ it := fun z => by
      obtain ⟨o1, h1, c1, _⟩ := p'
      obtain ⟨o2, h2, c2, _⟩ := hit
      rw [z, h2] at h1
      cases h1
      rw [c1] at c2
      exact absurd c2 (by decide)
    have hea : e ≠ a := fun z => by
      obtain ⟨o1, h1, c1, _⟩ := p'
      rw [← z, he] at h1
      cases h1
      exact absurd (show Value.type "enumerate" = Value.type "tuple" from c1) (by decide)
    have hlt : i < its.toArray.size := by
      have := (List.getElem?_eq_some_iff.mp hu).1
      simpa using this
    have D := Draws.tuple (prog := X.prog) (w := X.w) (A := X.A.in1) (I.ok.hd hc) it a hai its.toArray
    refine wpAny_pyNext_enum_itemD D he ⟨hit, p'⟩ hlt hne (by simp [hne, hea]) fun x' h' tk hP ho hst hT hsz hk => ?_
    have ex : x' = u := by
      have h1 : its.toArray[i]? = some u := by simpa using hu
      exact Option.some.inj (hP.symm.trans h1)
    subst ex
    obtain ⟨hit', _⟩ := hst
    refine ⟨_, rfl, wpAny_letOwnedTupleGo_enum (s := { s with heap := h', toks := tk + 1 }) ho fun h'' he' sb => ?_⟩
    have hT2 : h''.get? s.heap.objs.size = some { cls := .type "tuple", data := .seq #[.int i tk, x'] } := (sb.2 _ (Nat.ne_of_gt hel)).trans hT
    have new : ObjOk X.prog X.w (upd H s.heap.objs.size (.tup [.int (i : Nat), x])) h'' s.heap.objs.size (.tup [.int (i : Nat), x]) :=
      ⟨by show 2 ≤ sizeLine; decide, [.int i tk, x'], .cons ⟨_, rfl⟩ (.cons ru .nil), ⟨_, hT2, rfl, _, rfl⟩⟩
    have I1 : Inv X pins σ (upd H s.heap.objs.size (.tup [.int (i : Nat), x])) { s with heap := h'', toks := tk + 1 } :=
      I.turnedNew (ch := [e, it]) (fun b ob hb q => (sb.2 b (fun z => hb (by simp [z]))).trans (hk b ob (fun z => hb (by simp [z])) (fun z => hb (by simp [z])) q)) hf (Nat.le_refl _) new
    refine ⟨.ref s.heap.objs.size, _, I1, rfl, ⟨_, x, rfl, I.hok.fresh (Nat.le_refl _), rfl, fun ys hy => by rw [I.tuple_inj hy hq]; exact hx⟩, ⟨⟨x', ?_⟩, hit'.at fun o q => (sb.2 it (Ne.symm hne)).trans q, hne⟩, fun b hb => ?_⟩
    · have e1 : ((i + 1 : Nat) : Int) = (i : Int) + 1 := by omega
      rw [e1]; exact he'
    · have hb' : b < s.heap.objs.size := by
        have e' : b = e ∨ b = it := by simpa using hb
        rcases e' with z | z
        · rw [z]; exact hel
        · rw [z]; exact hil
      rw [upd_ne (Nat.ne_of_lt hb')]
      exact (hf b hb).1
  done := by
    intro X hP hw hK hc i pins s σ H E I hf st hg
    subst hP hw hK
    obtain ⟨⟨old, he⟩, hit, hne⟩ := st
    obtain ⟨xs, hq, hx⟩ := hg
    obtain ⟨its, rv, p, hz⟩ := I.tuple hq
    have p' : s.heap.IsTuple a its.toArray := p
    have hai : a ≠ it := fun z => by
      obtain ⟨o1, h1, c1, _⟩ := p'
      obtain ⟨o2, h2, c2, _⟩ := hit
      rw [z, h2] at h1
      cases h1
      rw [c1] at c2
      exact absurd c2 (by decide)
    obtain ⟨f0, f1, f2, f3, f4, f5⟩ := hf it (by simp)
    have hl := rv.length
    exact enum_end_tup (I.ok.hd hc) he hit p' (by simp; omega) fun h' eb => ⟨rfl, I.turned (t' := s.toks) (fun b o hb q => eb b o hb q) f0 f1 f3 f4 f5⟩
  self := fun A i s Q E st h => let ⟨⟨_, he⟩, _⟩ := st; wpAny_pyIter_enum he h
def iEnumT (K : PySem.W.Frag) (ta : TA) : TI := fun σ H R => ta σ H fun vs H1 => ∃ a xs, vs = [.ref a] ∧ SqT K H1 a xs ∧ R (IteT K a) H1
theorem pi_enumT {X : Cx} {e : Expr} {ta : TA} {p pos tpos : Pos} {elts : List Expr} {kk : Nat} (hg : Gl X "enumerate") (hm : X.mg "enumerate" = none) (ha : L2.PA X [e] ta) (hs : starEach [e] X.env = [(false, eval e X.env)] := by rfl) :
    PI X (.Tuple elts kk tpos) (.Call (.Name "enumerate" p) [e] [] pos) (iEnumT X.K ta) := by
  refine ⟨fun pins s σ H R I h => ?_⟩
  refine Call_ (ld_blt I hg hm boot_enumerate (PyProof.Rows.callWith_type1 (thn (ha.run pos pins s σ H _ I h) fun us s1 ⟨vs, H1, I1, r1, q1⟩ => ?_) hs rfl))
  obtain ⟨a, xs, ex, hq, q⟩ := q1
  subst ex
  cases r1 with
  | cons r rr =>
    cases rr
    cases r
    obtain ⟨its, rv, p', hz⟩ := I1.tuple hq
    refine call_enumerate_tuple (show s1.heap.IsTuple a its.toArray from p') fun h' he hit hsz hk => wpAny_pyIter_enum he ?_
    have I2 : Inv X pins σ H1 { s1 with heap := h' } := I1.kept (t' := s1.toks) hk
    refine ⟨s1.heap.objs.size + 1, [s1.heap.objs.size + 1, s1.heap.objs.size], _, _, H1, rfl, I2, turn_enumT a (s1.heap.objs.size + 1) s1.heap.objs.size, ⟨⟨.none, he⟩, hit, Nat.succ_ne_self _⟩, fun b hb => ?_, q⟩
    have e' : b = s1.heap.objs.size + 1 ∨ b = s1.heap.objs.size := by simpa using hb
    have hle : s1.heap.objs.size ≤ b := by
      rcases e' with z | z
      · rw [z]; exact Nat.le_add_right _ _
      · rw [z]; exact Nat.le_refl _
    exact I1.fpOk hle (I1.hok.fresh hle)
theorem walk_enumT {K : PySem.W.Frag} {a : Addr} {xs : List V} : Walk (IteT K a) xs.length (fun H => SqT K H a xs) (YPair (fun i => some (.int (i : Nat))) (fun i => xs[i]?)) := by
  refine ⟨fun i _ hi q => ⟨xs, xs[i], q, by simp [hi]⟩, fun _ q => ⟨xs, q, Nat.le_refl _⟩, fun i H v H' _ q y => ?_⟩
  obtain ⟨T, x, h1, h2, h3, h4⟩ := y
  exact ⟨T, .int (i : Nat), x, h1, h2, h3, rfl, h4 xs q⟩
variable {σ : L2.St} {H : Hp} {K : PySem.W.Frag} {a : Addr} {tA : TA} {tb tz : TS} {N : L2.St → Hp → Prop} {R : VK} {B C' : L2.St → Hp → Prop} {k j : Nat} {xs : List V}
theorem s_forET (h : ValA tA σ H [.ref a]) (hx : SqT K H a xs) (Pv : Nat → L2.St → Hp → Prop) (h0 : Pv 0 σ H) (hl : ∀ (i : Nat) σ' H', Pv i σ' H' → SqT K H' a xs)
    (hs : ∀ (i : Nat) x σ' H' T, xs[i]? = some x → Pv i σ' H' → H' T = none → tb ⟨Pv (i + 1), R, N, Pv (i + 1)⟩ ((σ'.set k (some (.int (i : Int)))).set j (some x)) (upd H' T (.tup [.int (i : Int), x]))) (hd : ∀ σ' H', Pv xs.length σ' H' → N σ' H') :
    tFor (iEnumT K tA) (gTup K 2 (gCons (gName k) (gCons (gName j) gNil))) tb ⟨N, R, B, C'⟩ σ H :=
  h _ ⟨a, xs, rfl, hx, for_it (walk_enumT (xs := xs)) (D := ⟨N, R, B, C'⟩) Pv h0 (fun i σ' H' _ p => hl i σ' H' p) (fun i x σ' H1 H' hi p y => by
    obtain ⟨T, u, z, rfl, hT, rfl, hu, hz⟩ := y
    cases hu
    exact ⟨T, _, rfl, SqT.of upd_same, rfl, _, _, rfl, _, _, rfl, rfl, hs i z σ' H1 T hz p hT⟩) hd⟩
theorem q_forET (h : ValA tA σ H [.ref a]) (hx : SqT K H a xs) (Pv : Nat → L2.St → Hp → Prop) (h0 : Pv 0 σ H) (hl : ∀ (i : Nat) σ' H', Pv i σ' H' → SqT K H' a xs)
    (hs : ∀ (i : Nat) x σ' H' T, xs[i]? = some x → Pv i σ' H' → H' T = none → tb ⟨Pv (i + 1), R, tz ⟨N, R, B, C'⟩, Pv (i + 1)⟩ ((σ'.set k (some (.int (i : Int)))).set j (some x)) (upd H' T (.tup [.int (i : Int), x]))) (hd : ∀ σ' H', Pv xs.length σ' H' → tz ⟨N, R, B, C'⟩ σ' H') :
    tSeq (tFor (iEnumT K tA) (gTup K 2 (gCons (gName k) (gCons (gName j) gNil))) tb) tz ⟨N, R, B, C'⟩ σ H :=
  s_forET (N := tz ⟨N, R, B, C'⟩) (B := B) (C' := C') h hx Pv h0 hl hs hd
end
/-! ### texts as data -/
section
variable {K : PySem.W.Frag} {H H' H1 H2 : Hp} {F F1 : FS} {W : Hp → Prop} {σ : L2.St} {te ta tb to tl : TE} {tA : TA} {v : V} {vs : List V} {d e : PyData} {ds es : List PyData} {s t : Str} {i : Int}
def strsD (ss : List Str) : List PyData := ss.map PyData.str
theorem daAll_strs : ∀ ss : List Str, DaAll K H F (ss.map V.str) (strsD ss)
  | [] => .nil
  | s :: r => .cons (.str s) (daAll_strs r)
theorem DaAll.strs : ∀ {vs : List V} {ss : List Str}, DaAll K H F vs (strsD ss) → vs = ss.map V.str
  | [], [], _ => rfl
  | _ :: _, _ :: _, h => by
    cases h with | cons h1 h2 =>
    cases h1
    rw [h2.strs]; rfl
  | [], _ :: _, h => by cases h
  | _ :: _, [], h => by cases h
def toS (i : Int) : Str := Str.ofString (toString i)
theorem dv_catS (ha : Dv K F W ta σ H (.str s)) (hb : Dv K F W tb σ H (.str t)) (hl : s.length + t.length ≤ 100000) : Dv K F W (tOp (fun x y H Q => ∃ i j, x = .str i ∧ y = .str j ∧ i.length + j.length ≤ sizeLine ∧ Q (.str (i ++ j)) H) ta tb) σ H (.str (s ++ t)) := fun H1 m o _ q =>
  ha H1 m o _ fun v H2 m2 o2 hv => hb H2 (m.trans m2) o2 _ fun v' H3 m3 o3 hv' => by
    cases hv; cases hv'
    exact ⟨_, _, rfl, rfl, Nat.le_trans hl (by rw [sizeLine_eq]; decide), q _ _ (m2.trans m3) o3 (.str _)⟩
theorem dv_toS (h : ∀ H1, Mv F H F H1 → Ok F W H1 → Val te σ H1 (.int i)) (hi : i.natAbs < 2 ^ 64) : Dv K F W (tCB (fun xs H Q => ∃ i, xs = [.int i] ∧ i.natAbs.log2 < 1920 ∧ Q (.str (toString i)) H) (tCons te tNil)) σ H (.str (toS i)) := fun H1 m o _ q =>
  h H1 m o _ ⟨i, rfl, by
    by_cases e : i.natAbs = 0
    · rw [e]; decide
    · exact Nat.lt_trans ((Nat.log2_lt e).mpr hi) (by decide), q _ _ .refl o (.str _)⟩
abbrev rJoin (K : PySem.W.Frag) : V → List V → Hp → VK → Prop := fun x xs H Q => ∃ a p, ∃ ys : List Str, x = .str a ∧ xs = [.ref p] ∧ (SqL K H p (ys.map V.str) ∨ SqT K H p (ys.map V.str)) ∧ (ys.map (·.length)).sum + ys.length * a.length ≤ 16777216 ∧ Q (.str (Txt.join a ys)) H
theorem dv_join {ys : List Str} (ha : Dv K F W to σ H (.str s)) (hb : Dv K F W te σ H (.list (strsD ys))) (hl : (ys.map (·.length)).sum + ys.length * s.length ≤ 1000000) : Dv K F W (tM1 (rJoin K) to te) σ H (.str (Str.join s ys)) := fun H1 m o _ q =>
  ha H1 m o _ fun v H2 m2 o2 hv => by
    cases hv
    refine ⟨⟨_, rfl⟩, hb H2 (m.trans m2) o2 _ fun v' H3 m3 o3 hv' => ?_⟩
    cases hv' with | lst h1 h2 =>
    have e := h2.strs
    subst e
    exact ⟨_, _, ys, rfl, rfl, .inl (SqL.of h1.at_), Nat.le_trans hl (by decide), by rw [TL.join_eq]; exact q _ _ (m2.trans m3) o3 (.str _)⟩
/-- texts compared -/
theorem x_eqStr {Q : VK} (o : Ok F W H) (ha : Dv K F W ta σ H (.str s)) (hb : Dv K F W tb σ H (.str t)) (q : ∀ H', Mv F H F H' → Ok F W H' → Q (.bl (decide (s = t))) H') : tOp rEq ta tb σ H Q :=
  ha H .refl o _ fun v H2 m2 o2 hv => hb H2 m2 o2 _ fun v' H3 m3 o3 hv' => by
    cases hv; cases hv'
    exact ⟨rfl, by rw [dec_vstr]; exact q _ (m2.trans m3) o3⟩
/-- a written tuple of texts -/
theorem da_writ {a : Addr} {ss : List Str} (h : ∀ H', SqT K H' a (ss.map V.str)) : Da K H F (.ref a) (.tuple (strsD ss)) := .tup ⟨h H, .inr h⟩ (daAll_strs ss)
theorem v_ixTS {a : Addr} {ss : List Str} (ha : Val ta σ H (.ref a)) (hb : Val tb σ H (.int i)) (h : SqT K H a (ss.map V.str)) (h0 : 0 ≤ i) (h1 : i < (ss.length : Int)) : Val (tOp (rIxT K) ta tb) σ H (.str (ss.getD i.toNat Str.empty)) :=
  v_ixT ha hb h h0 (by
    have hl : i.toNat < ss.length := by omega
    rw [List.getElem?_map, List.getElem?_eq_getElem hl]
    simp [List.getD_eq_getElem?_getD, List.getElem?_eq_getElem hl])
end
/-! ### lengths -/
theorem len_app (s t : Str) : (s ++ t).length = s.length + t.length := by rw [TL.len_tl, TL.len_tl, TL.len_tl, TL.tl_append, List.length_append]
theorem joinL_len (S : List Nat) : ∀ ps : List (List Nat), (TL.joinL S ps).length ≤ (ps.map List.length).sum + ps.length * S.length
  | [] => by simp [TL.joinL]
  | [p] => by simp [TL.joinL]
  | p :: q :: r => by
    have ih := joinL_len S (q :: r)
    rw [show TL.joinL S (p :: q :: r) = p ++ (S ++ TL.joinL S (q :: r)) from rfl]
    rw [List.length_append, List.length_append, List.map_cons, List.sum_cons, List.length_cons, Nat.succ_mul]
    omega
theorem join_len (s : Str) (ys : List Str) : (Str.join s ys).length ≤ (ys.map (·.length)).sum + ys.length * s.length := by
  have h := joinL_len (TL.tl s) (ys.map TL.tl)
  rw [← TL.tl_join, ← TL.len_tl, ← TL.len_tl, List.length_map, List.map_map] at h
  have e : ys.map (List.length ∘ TL.tl) = ys.map (·.length) := List.map_congr_left fun y _ => (TL.len_tl y).symm
  rwa [e] at h
theorem sum_le {b : Nat} : ∀ {ys : List Str}, (∀ s ∈ ys, s.length ≤ b) → (ys.map (·.length)).sum ≤ ys.length * b
  | [], _ => by simp
  | y :: r, h => by
    have h1 := sum_le (ys := r) fun s hs => h s (List.mem_cons_of_mem _ hs)
    have h2 := h y List.mem_cons_self
    rw [List.map_cons, List.sum_cons, List.length_cons, Nat.succ_mul]
    omega
theorem toS_len {i : Int} {k : Nat} (h0 : 0 ≤ i) (hk : 0 < k) (h : i < (10 ^ k : Nat)) : (toS i).length ≤ k := by
  obtain ⟨n, rfl⟩ : ∃ n : Nat, i = (n : Int) := ⟨i.toNat, by omega⟩
  unfold toS
  rw [TL.len_tl, TL.tl_num]
  exact TL.numL_len hk (by omega)
/-! ### the listing's mirror -/
def kindsS : List Str := ["and", "add", "rise", "put", "call", "go"]
def asksS : List Str := ["heard", "hear", "room", "say", "sleep", "fetch", "store", "stop", "look"]
def chgS : List Str := ["zero", "turn", "flip", "more", "left", "right"]
def tstS : List Str := ["minus", "none", "mark", "not", "zero", "flat"]
def wtsV : List Int := [32, 16, 8, 4, 2, 1]
def bitAt (p : Int) (k : Nat) : Bool := decide (p / wtsV.getD k 1 % 2 = 1)
def namedF (p : Int) : Nat → List Str → List Str
  | _, [] => []
  | k, s :: r => if bitAt p k = true then s :: namedF p (k + 1) r else namedF p (k + 1) r
def bitsS (h : Str) (p : Int) (names : List Str) : Str := Str.join " " (h :: namedF p 0 names)
def lineS (n : Int) : Str :=
  if n / 128 < 6 then (if n / 64 % 2 = 1 then kindsS.getD (n / 128).toNat Str.empty ++ " far " ++ toS (n % 64) else kindsS.getD (n / 128).toNat Str.empty ++ " " ++ toS (n % 64))
  else if n / 128 = 7 ∧ n / 64 % 2 = 0 then bitsS "change" (n % 64) chgS
  else if n / 128 = 7 then bitsS "test" (n % 64) tstS
  else if n / 64 % 2 = 0 ∧ n % 64 < 9 then "ask " ++ asksS.getD (n % 64).toNat Str.empty
  else "word " ++ toS n
theorem namedF_sub {p : Int} : ∀ {k : Nat} {names : List Str} {s : Str}, s ∈ namedF p k names → s ∈ names
  | _, [], s, h => by cases h
  | k, x :: r, s, h => by
    unfold namedF at h
    split at h
    · rcases List.mem_cons.mp h with e | e
      · exact e ▸ List.mem_cons_self
      · exact List.mem_cons_of_mem _ (namedF_sub e)
    · exact List.mem_cons_of_mem _ (namedF_sub h)
theorem namedF_len {p : Int} : ∀ {k : Nat} {names : List Str}, (namedF p k names).length ≤ names.length
  | _, [] => Nat.le_refl _
  | k, x :: r => by
    unfold namedF
    have := @namedF_len p (k + 1) r
    split <;> simp <;> omega
theorem bits_small {h : Str} {p : Int} {names : List Str} (hh : h.length ≤ 6) (hn : ∀ s ∈ names, s.length ≤ 6) (hl : names.length = 6) : ((h :: namedF p 0 names).map (·.length)).sum + (h :: namedF p 0 names).length * 1 ≤ 49 := by
  have h1 := sum_le (b := 6) (ys := h :: namedF p 0 names) (fun s hs => (List.mem_cons.mp hs).elim (fun e => e ▸ hh) fun e => hn s (namedF_sub e))
  have h2 := @namedF_len p 0 names
  rw [List.length_cons] at h1 ⊢
  have h3 : (namedF p 0 names).length ≤ 6 := by omega
  have h4 : ((namedF p 0 names).length + 1) * 6 ≤ 42 := by omega
  omega
theorem chg_small : ∀ s ∈ chgS, s.length ≤ 6 := by decide
theorem tst_small : ∀ s ∈ tstS, s.length ≤ 6 := by decide
theorem kinds_small (i : Nat) : (kindsS.getD i Str.empty).length ≤ 6 := by
  rw [List.getD_eq_getElem?_getD]
  cases e : kindsS[i]? with
  | none => decide
  | some x => exact (show ∀ s ∈ kindsS, s.length ≤ 6 by decide) x (List.mem_of_getElem? e)
theorem asks_small (i : Nat) : (asksS.getD i Str.empty).length ≤ 6 := by
  rw [List.getD_eq_getElem?_getD]
  cases e : asksS[i]? with
  | none => decide
  | some x => exact (show ∀ s ∈ asksS, s.length ≤ 6 by decide) x (List.mem_of_getElem? e)
theorem lineS_len {n : Int} (h0 : 0 ≤ n) (h1 : n < 1024) : (lineS n).length ≤ 50 := by
  have a1 : (toS (n % 64)).length ≤ 4 := toS_len (by omega) (by decide) (by show _ < (10000 : Int); omega)
  have a2 : (toS n).length ≤ 4 := toS_len (by omega) (by decide) (by show _ < (10000 : Int); omega)
  have a3 := kinds_small (n / 128).toNat
  have a4 := asks_small (n % 64).toNat
  unfold lineS
  have z1 : (" " : Str).length = 1 := by decide
  split
  · split
    · rw [len_app, len_app, show (" far " : Str).length = 5 by decide]; omega
    · rw [len_app, len_app, z1]; omega
  · split
    · unfold bitsS
      have := join_len " " ("change" :: namedF (n % 64) 0 chgS)
      have := bits_small (h := "change") (p := n % 64) (names := chgS) (by decide) chg_small (by decide)
      rw [z1] at *; omega
    · split
      · unfold bitsS
        have := join_len " " ("test" :: namedF (n % 64) 0 tstS)
        have := bits_small (h := "test") (p := n % 64) (names := tstS) (by decide) tst_small (by decide)
        rw [z1] at *; omega
      · split
        · rw [len_app, show ("ask " : Str).length = 4 by decide]; omega
        · rw [len_app, show ("word " : Str).length = 5 by decide]; omega
def shownF : Nat → Nat → Bool → List Int → List Str
  | _, _, _, [] => []
  | k, b, e, n :: r => if n = 0 then shownF (k + 1) b e r else (if k ≠ b ∨ e = true then ["place " ++ toS (k : Int)] else []) ++ lineS n :: shownF (k + 1) (k + 1) false r
abbrev nlS : Str := "\n"
theorem nlS_len : nlS.length = 1 := by decide
def shownS (cs : List Int) : Str := Str.join nlS (shownF 0 0 true cs)
theorem shownF_in : ∀ {cs : List Int} {k b : Nat} {e : Bool}, (∀ x ∈ cs, 0 ≤ x ∧ x < 1024) → k + cs.length ≤ 64 → (shownF k b e cs).length ≤ 2 * cs.length ∧ ∀ s ∈ shownF k b e cs, s.length ≤ 50
  | [], _, _, _, _, _ => ⟨Nat.zero_le _, fun s h => by cases h⟩
  | n :: r, k, b, e, h, hk => by
    rw [List.length_cons] at hk ⊢
    have h1 := h n List.mem_cons_self
    have hr : ∀ x ∈ r, 0 ≤ x ∧ x < 1024 := fun x hx => h x (List.mem_cons_of_mem _ hx)
    have a1 : (toS (k : Int)).length ≤ 4 := toS_len (by omega) (by decide) (by show _ < (10000 : Int); omega)
    unfold shownF
    split
    · obtain ⟨i1, i2⟩ := shownF_in (k := k + 1) (b := b) (e := e) hr (by omega)
      exact ⟨by omega, i2⟩
    · obtain ⟨i1, i2⟩ := shownF_in (k := k + 1) (b := k + 1) (e := false) hr (by omega)
      have hl := lineS_len h1.1 h1.2
      split
      · refine ⟨by simp; omega, fun s hs => ?_⟩
        rcases List.mem_append.mp hs with q | q
        · rw [List.mem_singleton.mp q, len_app, show ("place " : Str).length = 6 by decide]; omega
        · rcases List.mem_cons.mp q with q | q
          · rw [q]; exact hl
          · exact i2 s q
      · refine ⟨by simp; omega, fun s hs => ?_⟩
        rcases List.mem_cons.mp hs with q | q
        · rw [q]; exact hl
        · exact i2 s q
/-! ### more readings of data: numbers out of what moves the heap, enumerate with a test -/
section
variable {K : PySem.W.Frag} {H H' H1 H2 : Hp} {F F1 : FS} {W : Hp → Prop} {σ : L2.St} {te ta tb to tl : TE} {tA : TA} {v : V} {d e : PyData} {ds es : List PyData} {s t : Str} {i j : Int} {tt : TT}
theorem dv_fdiv (ha : Dv K F W ta σ H (.int i)) (hb : Dv K F W tb σ H (.int j)) (hc : CDiv i j) : Dv K F W (tOp (rI CDiv fun i j => .int (i / j)) ta tb) σ H (.int (i / j)) := fun H1 m o _ q =>
  ha H1 m o _ fun v H2 m2 o2 hv => hb H2 (m.trans m2) o2 _ fun v' H3 m3 o3 hv' => by
    cases hv; cases hv'
    exact ⟨_, _, rfl, rfl, hc, q _ _ (m2.trans m3) o3 (.int _)⟩
theorem dv_mod (ha : Dv K F W ta σ H (.int i)) (hb : Dv K F W tb σ H (.int j)) (hc : 0 < j) : Dv K F W (tOp (rI (fun _ j => 0 < j) fun i j => .int (i % j)) ta tb) σ H (.int (i % j)) := fun H1 m o _ q =>
  ha H1 m o _ fun v H2 m2 o2 hv => hb H2 (m.trans m2) o2 _ fun v' H3 m3 o3 hv' => by
    cases hv; cases hv'
    exact ⟨_, _, rfl, rfl, hc, q _ _ (m2.trans m3) o3 (.int _)⟩
theorem am_eqI (ha : Dv K F W ta σ H (.int i)) (hb : Dv K F W tb σ H (.int j)) : AnsM F W (tTest (tOp rEq ta tb)) σ H (decide (i = j)) := fun H1 m o Q q =>
  ha H1 m o _ fun v H2 m2 o2 hv => hb H2 (m.trans m2) o2 _ fun v' H3 m3 o3 hv' => by
    cases hv; cases hv'
    exact ⟨rfl, decide (i = j), by rw [dec_vint], q _ (m2.trans m3) o3⟩
theorem am_eqStr (ha : Dv K F W ta σ H (.str s)) (hb : Dv K F W tb σ H (.str t)) : AnsM F W (tTest (tOp rEq ta tb)) σ H (decide (s = t)) := fun H1 m o Q q =>
  ha H1 m o _ fun v H2 m2 o2 hv => hb H2 (m.trans m2) o2 _ fun v' H3 m3 o3 hv' => by
    cases hv; cases hv'
    exact ⟨rfl, decide (s = t), by rw [dec_vstr], q _ (m2.trans m3) o3⟩
def fE {α : Type} (p : Nat → α → Bool) (f : Nat → α → PyData) : Nat → List α → List PyData
  | _, [] => []
  | k, a :: r => if p k a = true then f k a :: fE p f (k + 1) r else fE p f (k + 1) r
theorem fE_app {α : Type} {p : Nat → α → Bool} {f : Nat → α → PyData} {a : α} : ∀ (xs : List α) (k : Nat), fE p f k (xs ++ [a]) = if p (k + xs.length) a = true then fE p f k xs ++ [f (k + xs.length) a] else fE p f k xs
  | [], k => by simp [fE]
  | x :: r, k => by
    rw [List.cons_append, fE, fE_app r (k + 1), fE, List.length_cons, show k + 1 + r.length = k + (r.length + 1) by omega]
    split <;> split <;> simp
theorem fE_take {α : Type} {p : Nat → α → Bool} {f : Nat → α → PyData} {as : List α} {m : Nat} {a : α} (h : as[m]? = some a) : fE p f 0 (as.take (m + 1)) = if p m a = true then fE p f 0 (as.take m) ++ [f m a] else fE p f 0 (as.take m) := by
  have hl := (List.getElem?_eq_some_iff.mp h).1
  rw [List.take_add_one, h]
  have e := fE_app (p := p) (f := f) (a := a) (as.take m) 0
  rw [List.length_take, Nat.min_eq_left (by omega), Nat.zero_add] at e
  exact e
/-- [e for k, x in enumerate(a list) if c] -/
theorem dn_lcEm {α : Type} (as : List α) (g : α → PyData) {k j : Nat} {ws : List Nat} (p : Nat → α → Bool) (f : Nat → α → PyData) (wo : Wo F W) (h : DvA K F W tA σ H [.list (as.map g)]) (hn : as.length ≤ 100000) (hw : ∀ x y, wipe (((wipe σ ws).set k (some x)).set j (some y)) ws = wipe σ ws)
    (ht : ∀ (i : Nat) (x : V) (a : α) (H1 : Hp) (F1 : FS) (W1 : Hp → Prop), Tn F W H F1 W1 H1 → as[i]? = some a → Da K H1 F1 x (g a) → AnsM F1 W1 tt (((wipe σ ws).set k (some (.int (i : Int)))).set j (some x)) H1 (p i a))
    (he : ∀ (i : Nat) (x : V) (a : α) (H1 : Hp) (F1 : FS) (W1 : Hp → Prop), Tn F W H F1 W1 H1 → as[i]? = some a → Da K H1 F1 x (g a) → p i a = true → Dv K F1 W1 te (((wipe σ ws).set k (some (.int (i : Int)))).set j (some x)) H1 (f i a)) :
    DvN K F W (tLc (iEnum K tA) (gTup K 2 (gCons (gName k) (gCons (gName j) gNil))) tt te ws) σ H (fE p f 0 as) := fun H1 m o Q q =>
  h H1 m o _ fun vs H2 m2 o2 hv => by
    cases hv with | cons hv hn' =>
    cases hn'
    cases hv with | @lst a xs _ h3 h4 =>
    refine ⟨a, xs, rfl, SqL.of h3.at_, fun D hD => lc_it (walk_enum (xs := xs)) (fun m H' => LcI K W H2 F D m (fE p f 0 (as.take m)) H') (by rw [List.take_zero]; exact lci_0 wo o2 hD) (fun m H' _ e => SqL.of ((h3.mv e.mv).at_)) (fun i x H1' H' hm e y => ?_) (fun H' e => ?_)⟩
    · obtain ⟨T, u, x, rfl, hT, rfl, hu, hx⟩ := y
      cases hu
      have e := e.sameH wo (smN (o := .tup [V.int (i : Int), x]) hT)
      have tn := e.tn (m.trans m2) wo (o2.fa.no hD)
      obtain ⟨d, hd, hxd⟩ := (h4.mv e.mv).getV _ hx
      rw [List.getElem?_map] at hd
      obtain ⟨a, ha, rfl⟩ := Option.map_eq_some_iff.mp hd
      have hlt := (List.getElem?_eq_some_iff.mp ha).1
      refine ⟨T, _, rfl, SqT.of upd_same, rfl, _, _, rfl, _, _, rfl, rfl, hw _ _, ?_⟩
      rw [fE_take ha]
      exact e.stepM wo o2 hD (by omega) (ht i x a _ _ _ tn ha hxd) (he i x a _ _ _ tn ha hxd)
    · rw [h4.len, List.length_map, List.take_length] at e
      obtain ⟨r1, r2, r3⟩ := e.done
      exact q _ _ (o2.free m2 hD) (m2.trans r1) r2 r3
theorem fE_map {α : Type} {f : Nat → α → PyData} : ∀ (as : List α) (k : Nat), (fE (fun _ _ => true) f k as).length = as.length
  | [], _ => rfl
  | a :: r, k => by rw [fE, if_pos rfl, List.length_cons, List.length_cons, fE_map r (k + 1)]
theorem fE_named {p : Int} : ∀ (names : List Str) (k : Nat), fE (fun i (_ : Str) => bitAt p i) (fun _ s => .str s) k names = strsD (namedF p k names)
  | [], _ => rfl
  | s :: r, k => by
    rw [fE, namedF, fE_named r (k + 1)]
    split <;> rfl
end
section
variable {σ : L2.St} {H : Hp} {K : PySem.W.Frag} {te to ti : TE} {v : V} {d : PyData} {D : Addr} {H0 : Hp} {F : FS} {W : Hp → Prop} {ds : List PyData} {N : L2.St → Hp → Prop} {R : VK} {B C' : L2.St → Hp → Prop} {i : Int}
theorem s_own_set (wo : Wo F W) (ow : Own K H0 F W D H ds) (hv : Val te σ H v) (hd : Da K H (withF F D) v d) (ho : Val to σ H (.ref D)) (hi : Val ti σ H (.int i)) (h0 : 0 ≤ i) (h1 : i < (ds.length : Int)) (q : ∀ H', Own K H0 F W D H' (ds.set i.toNat d) → (∀ (F2 : FS), F2 D → Mv F2 H F2 H') → N σ H') : tAsg te (gSub to ti rSetL) ⟨N, R, B, C'⟩ σ H := by
  obtain ⟨vs, e1, e2, o2, m2⟩ := ow.put wo i.toNat hd
  exact hv _ (ho _ (hi _ ⟨D, _, i, i.toNat, rfl, rfl, e1, ixN_int h0 (by rw [e2]; exact h1), q _ o2 m2⟩))
end
/-! ### promises of the listing -/
def preWith (vs : List V) (_ : Hp) (_ : FS) (_ : Hp → Prop) (d : PyData) : Prop := ∃ (h : Str) (p : Int) (a : Addr) (names : List Str) (K : PySem.W.Frag), vs = [.str h, .int p, .ref a] ∧ (∀ H', SqT K H' a (names.map V.str)) ∧ names.length = 6 ∧ h.length ≤ 6 ∧ (∀ s ∈ names, s.length ≤ 6) ∧ d = .str (bitsS h p names)
def preWithK (K : PySem.W.Frag) (vs : List V) (_ : Hp) (_ : FS) (_ : Hp → Prop) (d : PyData) : Prop := ∃ (h : Str) (p : Int) (a : Addr) (names : List Str), vs = [.str h, .int p, .ref a] ∧ (∀ H', SqT K H' a (names.map V.str)) ∧ names.length = 6 ∧ h.length ≤ 6 ∧ (∀ s ∈ names, s.length ≤ 6) ∧ d = .str (bitsS h p names)
def preLine (vs : List V) (_ : Hp) (_ : FS) (_ : Hp → Prop) (d : PyData) : Prop := ∃ n : Int, vs = [.int n] ∧ 0 ≤ n ∧ n < 1024 ∧ d = .str (lineS n)
def preShown (K : PySem.W.Frag) (vs : List V) (H : Hp) (F : FS) (_ : Hp → Prop) (d : PyData) : Prop := ∃ (v : V) (cs : List Int), vs = [v] ∧ Da K H F v (.list (cs.map PyData.int)) ∧ cs.length ≤ 64 ∧ (∀ x ∈ cs, 0 ≤ x ∧ x < 1024) ∧ d = .str (shownS cs)
def preStrs (ss : List Str) (vs : List V) (_ : Hp) (_ : FS) (_ : Hp → Prop) (ds : List PyData) : Prop := vs = [] ∧ ds = strsD ss
def preNamed (K : PySem.W.Frag) (vs : List V) (H : Hp) (F : FS) (_ : Hp → Prop) (ds : List PyData) : Prop := ∃ (v : V) (names : List Str) (p : Int), vs = [v, .int p] ∧ Da K H F v (.list (strsD names)) ∧ names.length = 6 ∧ ds = strsD (namedF p 0 names)
theorem wts_in : ∀ {i : Nat}, i < 6 → 0 < wtsV.getD i 1 ∧ wtsV.getD i 1 < 1000 ∧ wtsV.getD i 0 = wtsV.getD i 1 := by decide
theorem Own.snoc {K : PySem.W.Frag} {H0 H : Hp} {F : FS} {W : Hp → Prop} {D : Addr} {acc : List Str} {s : Str} (h : Own K H0 F W D H (strsD acc ++ [.str s])) : Own K H0 F W D H (strsD (acc ++ [s])) := by
  have e : strsD (acc ++ [s]) = strsD acc ++ [.str s] := by unfold strsD; rw [List.map_append]; rfl
  rw [e]; exact h
theorem or_dec {i b : Nat} {e : Bool} : (!decide ((i : Int) = (b : Int)) || !(!e)) = true ↔ (i ≠ b ∨ e = true) := by
  rw [Bool.or_eq_true, Bool.not_eq_true', decide_eq_false_iff_not, Bool.not_not]
  exact or_congr ⟨fun h q => h (by omega), fun h q => h (by omega)⟩ Iff.rfl
section
variable {K : PySem.W.Frag} {H : Hp} {F : FS} {W : Hp → Prop} {σ : L2.St} {te : TE} {p : Int} {m : List Str} {h : Str}
theorem dn_strs0 (wo : Wo F W) : DvN K F W (tCall (spDN K (preStrs m)) [] E0 tNil) σ H (strsD m) := dn_sp wo (fun _ _ _ => va_nil) (fun _ _ _ => ⟨rfl, rfl⟩)
theorem dn_named (wo : Wo F W) (hl : m.length = 6) (ht : ∀ H1, Mv F H F H1 → Ok F W H1 → Val te σ H1 (.int p)) : DvN K F W (tCall (spDN K (preNamed K)) [] E0 (tCons (tCall (spDN K (preStrs m)) [] E0 tNil) (tCons te tNil))) σ H (strsD (namedF p 0 m)) :=
  dn_spD (es := [.list (strsD m), .int p]) wo (da_cons (dn_strs0 wo).dv (da_cons (dv_i ht) da_nil)) fun vs H1 m1 o1 hv => by
    cases hv with | cons z1 hv => cases hv with | cons z2 hv =>
    cases hv
    cases z2
    exact ⟨_, m, p, rfl, z1, hl, rfl⟩
theorem dv_bits (wo : Wo F W) (hl : m.length = 6) (hh : h.length ≤ 6) (hm : ∀ s ∈ m, s.length ≤ 6) (ht : ∀ H1, Mv F H F H1 → Ok F W H1 → Val te σ H1 (.int p)) :
    Dv K F W (tM1 (rJoin K) (tC (.str " ")) (tOp rCat (tLst (tCons (tC (.str h)) tNil)) (tCall (spDN K (preNamed K)) [] E0 (tCons (tCall (spDN K (preStrs m)) [] E0 tNil) (tCons te tNil))))) σ H (.str (bitsS h p m)) := by
  have sm := bits_small (p := p) hh hm hl
  have nl := @namedF_len p 0 m
  refine dv_join (ys := h :: namedF p 0 m) dv_s (dv_catL (ds := [.str h]) (es := strsD (namedF p 0 m)) wo (dv_lst wo (da_cons dv_s da_nil)) (dn_named wo hl ht).dv ?_) ?_
  · unfold strsD; rw [List.length_map]; simp; omega
  · rw [show (" " : Str).length = 1 by decide]; omega
theorem gets_at {ss : List Str} {i : Int} (h1 : i < (ss.length : Int)) (h0 : 0 ≤ i) : (strsD ss)[i.toNat]? = some (.str (ss.getD i.toNat Str.empty)) := by
  have hl : i.toNat < ss.length := by omega
  unfold strsD
  rw [List.getElem?_map, List.getElem?_eq_getElem hl]
  simp [List.getD_eq_getElem?_getD, List.getElem?_eq_getElem hl]
end
theorem ps_never {X : Cx} {st : Stmt} : PS X st (fun _ _ _ => False) := ⟨fun _ _ _ _ _ _ h => h.elim⟩
/-! ### the mirror of the scanning: over lists of signs -/
abbrev LN := List Nat
abbrev oL (l : LN) : Str := SX.S l
def azL : LN := TL.tl "abcdefghijklmnopqrstuvwxyz"
def azdL : LN := TL.tl "abcdefghijklmnopqrstuvwxyz0123456789"
def digL : LN := TL.tl "0123456789"
def kindsN : List LN := kindsS.map TL.tl
def asksN : List LN := asksS.map TL.tl
def chgN : List LN := chgS.map TL.tl
def tstN : List LN := tstS.map TL.tl
def othersS : List Str := ["place", "word", "far", "ask", "change", "test", "here"]
def othersN : List LN := othersS.map TL.tl
def sL (s : String) : LN := s.toList.map Char.toNat
theorem sL_eq (s : String) : TL.tl (Str.ofString s) = sL s := TL.tl_ofString s
def resN (t : LN) : Bool := decide (t ∈ kindsN) || (decide (t ∈ asksN) || (decide (t ∈ chgN) || (decide (t ∈ tstN) || decide (t ∈ othersN))))
def hdAz : LN → Bool
  | [] => false
  | c :: _ => decide (c ∈ azL)
def isNameL (t : LN) : Bool := decide (1 ≤ t.length ∧ t.length ≤ 8) && hdAz t && t.all (fun c => decide (c ∈ azdL)) && !resN t
def isNumL (t : LN) : Bool := decide (1 ≤ t.length ∧ t.length ≤ 4) && t.all (fun c => decide (c ∈ digL))
def hereL : LN := TL.tl "here"
def okT (t : LN) : Bool := isNameL t || (isNumL t || decide (t = hereL))
/-- terms: the sign, the signs so far, what is left -/
def termsG : Int → LN → LN → Option (List (Int × LN))
  | s, cur, [] => if okT cur = true then some [(s, cur)] else none
  | s, cur, c :: r => if c = 43 ∨ c = 45 then (if okT cur = true then (termsG (if c = 45 then -1 else 1) [] r).map ((s, cur) :: ·) else none) else termsG s (cur ++ [c]) r
def termsL (t : LN) : Option (List (Int × LN)) := termsG 1 [] t
def weightG (names : List LN) : List LN → Int → List LN → Option Int
  | _, a, [] => some a
  | seen, a, x :: r => if x ∉ names ∨ x ∈ seen then none else weightG names (seen ++ [x]) (a + wtsV.getD (names.idxOf x) 1) r
def weightL (names : List LN) (found : List LN) : Option Int := weightG names [] 0 found
inductive Dd where
  | place (ts : List (Int × LN)) | word (ts : List (Int × LN)) | made (n : Int) | aim (b : Int) (ts : List (Int × LN)) | pool (b : Int) (ts : List (Int × LN))
deriving DecidableEq
def aimG (kind far : Int) : List LN → Option Dd
  | [t] => match t with
    | 61 :: r => (termsL r).map (Dd.pool (128 * kind + 64 * far))
    | t => (termsL t).map (Dd.aim (128 * kind + 64 * far))
  | _ => none
def farL : LN := TL.tl "far"
def aimedL (kind : Int) (found : List LN) : Option Dd := match found with
  | [] => none
  | f :: r => if f = farL then aimG kind 1 r else aimG kind 0 (f :: r)
def placeL : LN := TL.tl "place"
def wordL : LN := TL.tl "word"
def askL : LN := TL.tl "ask"
def changeL : LN := TL.tl "change"
def testL : LN := TL.tl "test"
def one1 {α : Type} (f : LN → Option α) : List LN → Option α
  | [t] => f t
  | _ => none
theorem one1_none {α : Type} {f : LN → Option α} {r : List LN} (h : r.length ≠ 1) : one1 f r = none := by
  match r with
  | [] => rfl
  | [_] => exact absurd rfl h
  | _ :: _ :: _ => rfl
/-- deed_of: of a list that is not empty -/
def deedC (head : LN) (r : List LN) : Option Dd :=
  if head = placeL ∨ head = wordL then one1 (fun t => (termsL t).map (if head = placeL then Dd.place else Dd.word)) r
  else if head = askL then one1 (fun t => if t ∈ asksN then some (.made (768 + (asksN.idxOf t : Nat))) else none) r
  else if head = changeL ∧ (weightL chgN r).isSome = true then some (.made (896 + (weightL chgN r).getD 0))
  else if head = testL ∧ (weightL tstN r).isSome = true then some (.made (960 + (weightL tstN r).getD 0))
  else if head ∈ kindsN then aimedL (kindsN.idxOf head : Nat) r
  else none
def deedL : List LN → Option Dd
  | [] => none
  | head :: r => deedC head r
def cutAt (c : Nat) : LN → List LN
  | [] => [[]]
  | x :: r => if x = c then [] :: cutAt c r else (match cutAt c r with | [] => [[x]] | h :: t => (x :: h) :: t)
def piecesL (line : LN) : List LN := (cutAt 32 ((cutAt 59 line).headD [])).filter fun p => !p.isEmpty
def colonL : LN := TL.tl ":"
def restL (lab : Option LN) : List LN → Option (Option LN × Option Dd)
  | [] => some (lab, none)
  | f :: r => (deedL (f :: r)).map fun d => (lab, some d)
def readP : List LN → Option (Option LN × Option Dd)
  | [] => some (none, none)
  | f :: r => if f.getLast? = some 58 then (if isNameL f.dropLast = true then restL (some f.dropLast) r else none) else restL none (f :: r)
def readL (line : LN) : Option (Option LN × Option Dd) := readP (piecesL line)
/-! ### the mirror of the goings over -/
inductive Er where
  | deed | twice | name | bounds | taken
deriving DecidableEq
abbrev Lab := List (LN × Int)
def labGet (ls : Lab) (x : LN) : Option Int := (ls.find? fun q => decide (q.1 = x)).map (·.2)
def numV (t : LN) : Int := (NumText.digitsVal t : Nat)
def amountL (labels : Lab) (here : Int) : Int → List (Int × LN) → Option Int
  | a, [] => some a
  | a, (s, one) :: r => if isNumL one = true then amountL labels here (a + s * numV one) r
    else if one = hereL then amountL labels here (a + s * here) r
    else match labGet labels one with
      | some v => amountL labels here (a + s * v) r
      | none => none
def withinL (a most : Int) (k : Nat) : Except (Er × Nat) Int := if 0 ≤ a ∧ a ≤ most then .ok a else .error (.bounds, k)
def amtL (labels : Lab) (here : Int) (ts : List (Int × LN)) (k : Nat) : Except (Er × Nat) Int := match amountL labels here 0 ts with
  | some a => .ok a
  | none => .error (.name, k)
def tellL (labels : Lab) (l : Option LN) (at_ : Int) (k : Nat) : Except (Er × Nat) Lab := match l with
  | none => .ok labels
  | some x => if (labGet labels x).isSome = true then .error (.twice, k) else .ok (labels ++ [(x, at_)])
/-- the place behind a deed, in the first going over -/
def moveG (labels : Lab) (at_ : Int) (k : Nat) : Option Dd → Except (Er × Nat) Int
  | none => .ok at_
  | some (.place ts) => match amtL labels at_ ts k with
    | .error e => .error e
    | .ok b => withinL b 63 k
  | some _ => withinL (at_ + 1) 64 k
/-- one line of the first going over -/
def goneStep (line : LN) (labels : Lab) (at_ : Int) (k : Nat) : Except (Er × Nat) (Option Dd × Lab × Int) := match readL line with
  | none => .error (.deed, k)
  | some (l, d) => match tellL labels l at_ k with
    | .error e => .error e
    | .ok labels => match moveG labels at_ k d with
      | .error e => .error e
      | .ok a => .ok (d, labels, a)
def goneG : List (Option Dd) → Lab → Int → Nat → List LN → Except (Er × Nat) (List (Option Dd) × Lab)
  | acc, labels, _, _, [] => .ok (acc, labels)
  | acc, labels, at_, k, line :: r => match goneStep line labels at_ k with
    | .error e => .error e
    | .ok (d, labels, at_) => goneG (acc ++ [d]) labels at_ (k + 1) r
def goneL (lines : List LN) : Except (Er × Nat) (List (Option Dd) × Lab) := goneG [] [] 0 1 lines
abbrev Made := List (Int × Int)
def madeGet (m : Made) (x : Int) : Option Int := (m.find? fun q => decide (q.1 = x)).map (·.2)
def makeL (m : Made) (at_ n : Int) (k : Nat) : Except (Er × Nat) Made := if (madeGet m at_).isSome = true ∨ at_ < 0 then .error (.taken, k) else .ok (m ++ [(at_, n)])
def poolL (m : Made) (pool : List Int) (n : Int) (k : Nat) : Except (Er × Nat) (Made × List Int × Int) :=
  if n ∈ pool then .ok (m, pool, 63 - (pool.idxOf n : Nat))
  else match makeL m (63 - (pool.length : Nat)) n k with
    | .error e => .error e
    | .ok m => .ok (m, pool ++ [n], 63 - (pool.length : Nat))
/-- the amount of terms, within a bound -/
def amtW (labels : Lab) (at_ : Int) (ts : List (Int × LN)) (most : Int) (k : Nat) : Except (Er × Nat) Int := match amtL labels at_ ts k with
  | .error e => .error e
  | .ok a => withinL a most k
/-- the word of a deed -/
def wordOf (labels : Lab) (m : Made) (pool : List Int) (at_ : Int) (k : Nat) : Dd → Except (Er × Nat) (Made × List Int × Int)
  | .place _ => .ok (m, pool, 0)
  | .made n => .ok (m, pool, n)
  | .word ts => match amtW labels at_ ts 1023 k with
    | .error e => .error e
    | .ok a => .ok (m, pool, a)
  | .aim b ts => match amtW labels at_ ts 63 k with
    | .error e => .error e
    | .ok a => .ok (m, pool, b + a)
  | .pool b ts => match amtW labels at_ ts 1023 k with
    | .error e => .error e
    | .ok a => match poolL m pool a k with
      | .error e => .error e
      | .ok q => .ok (q.1, q.2.1, b + q.2.2)
def cellStep (labels : Lab) (m : Made) (pool : List Int) (at_ : Int) (k : Nat) : Option Dd → Except (Er × Nat) (Made × List Int × Int)
  | none => .ok (m, pool, at_)
  | some (.place ts) => match amtL labels at_ ts k with
    | .error e => .error e
    | .ok a => .ok (m, pool, a)
  | some d => match wordOf labels m pool at_ k d with
    | .error e => .error e
    | .ok q => match makeL q.1 at_ q.2.2 k with
      | .error e => .error e
      | .ok m => .ok (m, q.2.1, at_ + 1)
def cellsG (labels : Lab) : Made → List Int → Int → Nat → List (Option Dd) → Except (Er × Nat) Made
  | m, _, _, _, [] => .ok m
  | m, pool, at_, k, d :: r => match cellStep labels m pool at_ k d with
    | .error e => .error e
    | .ok (m, pool, at_) => cellsG labels m pool at_ (k + 1) r
def cellsOf (m : Made) : List Int := (List.range 64).map fun (k : Nat) => (madeGet m (k : Int)).getD 0
def assembledL (text : LN) : Except (Er × Nat) (List Int) := match goneL (cutAt 10 text) with
  | .error e => .error e
  | .ok (deeds, labels) => match cellsG labels [] [] 0 1 deeds with
    | .error e => .error e
    | .ok m => .ok (cellsOf m)
/-! ### as data -/
def termD (q : Int × LN) : PyData := .tuple [.int q.1, .str (oL q.2)]
def termsD (ts : List (Int × LN)) : PyData := .list (ts.map termD)
def oD {α : Type} (f : α → PyData) : Option α → PyData
  | none => .none
  | some a => f a
def deedD : Dd → PyData
  | .place ts => .tuple [.str "place", termsD ts]
  | .word ts => .tuple [.str "word", termsD ts]
  | .made n => .tuple [.str "made", .int n]
  | .aim b ts => .tuple [.str "aim", .int b, termsD ts]
  | .pool b ts => .tuple [.str "pool", .int b, termsD ts]
def lnD (l : LN) : PyData := .str (oL l)
def readD (q : Option LN × Option Dd) : PyData := .tuple [oD lnD q.1, oD deedD q.2]
/-! ### k37, k38: the drawn cells -/
theorem fE_ints {g : Nat → Int → Int} {P : Int → Prop} : ∀ (cs : List Int) (k : Nat), (∀ x ∈ cs, ∀ i, P (g i x)) → ∃ cs', fE (fun _ _ => true) (fun i n => .int (g i n)) k cs = intsL cs' ∧ cs'.length = cs.length ∧ ∀ x ∈ cs', P x
  | [], _, _ => ⟨[], rfl, rfl, fun x h => by cases h⟩
  | c :: r, k, h => by
    obtain ⟨cs', e1, e2, e3⟩ := fE_ints (g := g) r (k + 1) fun x hx => h x (List.mem_cons_of_mem _ hx)
    refine ⟨g k c :: cs', by rw [fE, if_pos rfl, e1]; rfl, by rw [List.length_cons, List.length_cons, e2], fun x hx => ?_⟩
    rcases List.mem_cons.mp hx with q | q
    · exact q ▸ h c List.mem_cons_self k
    · exact e3 x q
def zeros : List Int := List.replicate 64 0
theorem zeros_eq : fmD (fun _ => true) (fun _ => PyData.int 0) (List.range (64 : Int).toNat) = intsL zeros := rfl
theorem zeros_in : zeros.length = 64 ∧ ∀ x ∈ zeros, (0 : Int) ≤ x ∧ x < 1024 := by decide
theorem spars {n z : Int} (h : 0 ≤ n ∧ n < 1024) (b : Bool) : 0 ≤ n * (if b = true then 1 else 0) ∧ n * (if b = true then 1 else 0) < 1024 := by
  cases b
  · simp
  · simpa using h
theorem set_in {cs : List Int} {i : Nat} {v : Int} (h : ∀ c ∈ cs, 0 ≤ c ∧ c < 1024) (hv : 0 ≤ v ∧ v < 1024) : ∀ c ∈ cs.set i v, 0 ≤ c ∧ c < 1024 := mem_set_in h hv
theorem intsL_set {cs : List Int} {i : Nat} {v : Int} : (intsL cs).set i (.int v) = intsL (cs.set i v) := by unfold intsL; rw [List.map_set]
def dueF : Nat → Bool → List Int → List Str
  | _, _, [] => []
  | k, z, n :: r => if 0 < n then (if z = true then ["place " ++ toS (k : Int)] else []) ++ lineS n :: dueF (k + 1) false r else dueF (k + 1) true r
theorem shown_due : ∀ {cs : List Int} {k b : Nat} {e z : Bool}, (∀ x ∈ cs, 0 ≤ x) → b ≤ k → ((k ≠ b ∨ e = true) ↔ z = true) → shownF k b e cs = dueF k z cs
  | [], _, _, _, _, _, _, _ => rfl
  | n :: r, k, b, e, z, h, hb, hz => by
    have h0 := h n List.mem_cons_self
    have hr : ∀ x ∈ r, 0 ≤ x := fun x hx => h x (List.mem_cons_of_mem _ hx)
    rw [shownF, dueF]
    by_cases g : n = 0
    · rw [if_pos g, if_neg (show ¬ 0 < n by omega)]
      exact shown_due hr (by omega) ⟨fun _ => rfl, fun _ => .inl (by omega)⟩
    · rw [if_neg g, if_pos (show 0 < n by omega), shown_due (k := k + 1) (b := k + 1) (e := false) (z := false) hr (Nat.le_refl _) ⟨fun q => q.elim (fun q => absurd rfl q) (fun q => by cases q), fun q => by cases q⟩]
      by_cases c : k ≠ b ∨ e = true
      · rw [if_pos c, if_pos (hz.mp c)]
      · rw [if_neg c, if_neg (fun q => c (hz.mpr q))]
theorem dueF_in {cs : List Int} (h : ∀ x ∈ cs, 0 ≤ x ∧ x < 1024) (hl : cs.length ≤ 64) : (dueF 0 true cs).length ≤ 2 * cs.length ∧ ∀ s ∈ dueF 0 true cs, s.length ≤ 50 := by
  rw [← shown_due (b := 0) (e := true) (fun x hx => (h x hx).1) (Nat.le_refl _) ⟨fun _ => rfl, fun _ => .inr rfl⟩]
  exact shownF_in h (by omega)
section
variable {K : PySem.W.Frag} {H H0 : Hp} {F : FS} {W : Hp → Prop} {D : Addr} {cs : List Int}
theorem own_ints (wo : Wo F W) (o : Ok F W H) (hD : H D = none) (ns : List Int) : Own K H F W D (upd H D (.lst (ns.map V.int))) (intsL ns) :=
  ⟨hD, o.fa.no hD, .same (smN hD), o.same wo (smN hD), _, upd_same, daAll_ints ns⟩
theorem Own.mvF (h : Own K H0 F W D H ds) : Mv F H0 (withF F D) H := ⟨h.mv.keep, fun b f => f.elim (fun f => h.mv.new b f) (fun e => .inr (by rw [e]; exact h.fr))⟩
theorem Own.re (h : Own K H0 F W D H ds) (e : ds = es) : Own K H0 F W D H es := e ▸ h
end
section
variable {K : PySem.W.Frag} {H : Hp} {F : FS} {W : Hp → Prop} {σ : L2.St} {ta : TE} {a : Addr} {ns : List Int}
/-- a slice of the script -/
theorem dn_scr {lo hi : Option Int} {tlo thi : TO} (hS : SF K H F a ns) (h : Val ta σ H (.ref a)) (hv : ∀ H1, Mv F H F H1 → Ok F W H1 → Val ta σ H1 (.ref a)) (h1 : ∀ H (Q : Option Int → Hp → Prop), Q lo H → tlo σ H Q) (h2 : ∀ H (Q : Option Int → Hp → Prop), Q hi H → thi σ H Q) (wo : Wo F W) : DvN K F W (tSl (rSlL K) ta tlo thi) σ H (intsL (cutD ns lo hi)) := by
  have e : intsL (cutD ns lo hi) = cutD (intsL ns) lo hi := by unfold cutD intsL; simp
  rw [e]
  exact dn_new wo (fun H1 m o => nl_slice (hv H1 m o) (hS.mv m).sq (h1 H1) (h2 H1)) (fun H1 _ _ => (daAll_ints ns).cut lo hi)
theorem daI {H : Hp} {x : V} {ds : List Int} {vs : List V} {i : Nat} (h : DaAll K H F vs (intsL ds)) (hx : vs[i]? = some x) : ∃ c, x = .int c ∧ ds[i]? = some c := by
  obtain ⟨d, hd, hv⟩ := h.getV i hx
  unfold intsL at hd
  rw [List.getElem?_map] at hd
  obtain ⟨c, hc, rfl⟩ := Option.map_eq_some_iff.mp hd
  cases hv
  exact ⟨c, rfl, hc⟩
end
theorem Da.sqI {K : PySem.W.Frag} {H : Hp} {F : FS} {a : Addr} {ns : List Int} (h : Da K H F (.ref a) (.list (Ch.intsL ns))) : SqL K H a (ns.map V.int) := by
  cases h with | lst h1 h2 =>
  have e := h2.ints
  subst e
  exact SqL.of h1.at_
theorem getD_at {cs : List Int} {i : Nat} {n : Int} (h : cs[i]? = some n) : cs.getD i 0 = n := by rw [List.getD_eq_getElem?_getD, h]; rfl
/-! ### readings over lists of signs -/
section
variable {σ : L2.St} {H : Hp} {K : PySem.W.Frag} {te ta tb tl : TE} {tlo thi : TO} {t u : LN} {i : Int} {c k : Nat} {a : Addr} {tz tb' : TS} {N : L2.St → Hp → Prop} {R : VK} {B C' : L2.St → Hp → Prop} {lo hi : Option Int}
theorem oL_tl (s : Str) : oL (TL.tl s) = s := TL.mk_tl s
theorem dec_oL : decide (oL t = oL u) = decide (t = u) := by
  by_cases h : t = u
  · subst h; simp
  · rw [decide_eq_false h, decide_eq_false fun e => h (SX.S_inj e)]
theorem v_lenS (h : Val ta σ H (.str (oL t))) (hl : t.length ≤ 100000) : Val (tCB (fun xs H Q => ∃ z, xs = [.str z] ∧ z.length ≤ sizeLine ∧ Q (.int (z.length : Int)) H) (tCons ta tNil)) σ H (.int (t.length : Int)) :=
  v_cb (va_cons h va_nil) fun _ q => ⟨_, rfl, by rw [SX.S_len]; exact Nat.le_trans hl (by rw [sizeLine_eq]; decide), by rw [SX.S_len]; exact q⟩
theorem at_ofN (h0 : 0 ≤ i) (hx : t[i.toNat]? = some c) : atI (oL t).cps.toList i = some c := by
  have hlt := (List.getElem?_eq_some_iff.mp hx).1
  unfold atI
  rw [show (oL t).cps.toList = t from rfl, ixN_int h0 (by omega), Option.bind_some]
  exact hx
theorem v_ixS (ha : Val ta σ H (.str (oL t))) (hb : Val tb σ H (.int i)) (hl : t.length ≤ 100000) (h0 : 0 ≤ i) (hx : t[i.toNat]? = some c) : Val (tOp rIxS ta tb) σ H (.str (oL [c])) :=
  val_op ha hb fun _ q => ⟨oL t, i, c, rfl, rfl, by rw [SX.S_len]; exact Nat.le_trans hl (by rw [sizeLine_eq]; decide), at_ofN h0 hx, q⟩
theorem cutS_oL (t : LN) (lo hi : Option Int) : cutS (oL t) lo hi = oL (cutD t lo hi) := by
  unfold cutS cutD
  rw [SX.S_len]
theorem v_slS (ha : Val ta σ H (.str (oL t))) (h1 : ∀ Q : Option Int → Hp → Prop, Q lo H → tlo σ H Q) (h2 : ∀ Q : Option Int → Hp → Prop, Q hi H → thi σ H Q) (hl : t.length ≤ 100000) : Val (tSl rSlS ta tlo thi) σ H (.str (oL (cutD t lo hi))) := fun _ q =>
  ha _ (h1 _ (h2 _ ⟨oL t, rfl, by rw [SX.S_len]; exact Nat.le_trans hl (by rw [sizeLine_eq]; decide), by rw [cutS_oL]; exact q⟩))
theorem v_inS1 (ha : Val ta σ H (.str (oL [c]))) (hb : Val tb σ H (.str (oL t))) : Val (tOp rInS ta tb) σ H (.bl (decide (c ∈ t))) := val_op ha hb fun _ q => ⟨c, oL t, rfl, rfl, q⟩
theorem v_notInS1 (ha : Val ta σ H (.str (oL [c]))) (hb : Val tb σ H (.str (oL t))) : Val (tOp rNotInS ta tb) σ H (.bl (!decide (c ∈ t))) := val_op ha hb fun _ q => ⟨c, oL t, rfl, rfl, q⟩
theorem inV_strs (s : Str) : ∀ ss : List Str, inV (.str s) (ss.map V.str) = decide (s ∈ ss)
  | [] => rfl
  | x :: r => by
    have ih := inV_strs s r
    unfold inV at ih ⊢
    rw [List.map_cons, List.any_cons, ih]
    show ((x == s) || decide (s ∈ r)) = decide (s ∈ x :: r)
    by_cases h : s = x
    · subst h; simp
    · rw [show (x == s) = false from beq_eq_false_iff_ne.mpr fun e => h e.symm, Bool.false_or]
      exact decide_eq_decide.mpr ⟨fun q => List.mem_cons_of_mem _ q, fun q => (List.mem_cons.mp q).elim (fun e => absurd e h) id⟩
theorem mem_tl {ss : List Str} : oL t ∈ ss ↔ t ∈ ss.map TL.tl := ⟨fun h => List.mem_map.mpr ⟨_, h, rfl⟩, fun h => by obtain ⟨s, hs, e⟩ := List.mem_map.mp h; rw [← e, oL_tl]; exact hs⟩
/-- a text in a written tuple of texts -/
theorem v_inT {ss : List Str} (ha : Val ta σ H (.str (oL t))) (hb : Val tb σ H (.ref a)) (h : SqT K H a (ss.map V.str)) : Val (tOp (rIn K false) ta tb) σ H (.bl (decide (t ∈ ss.map TL.tl))) :=
  val_op ha hb fun _ q => ⟨a, _, rfl, .inr h, rfl, flat_strs ss, by rw [if_neg Bool.false_ne_true, inV_strs, decide_eq_decide.mpr mem_tl]; exact q⟩
theorem v_notInT {ss : List Str} (ha : Val ta σ H (.str (oL t))) (hb : Val tb σ H (.ref a)) (h : SqT K H a (ss.map V.str)) : Val (tOp (rIn K true) ta tb) σ H (.bl (!decide (t ∈ ss.map TL.tl))) :=
  val_op ha hb fun _ q => ⟨a, _, rfl, .inr h, rfl, flat_strs ss, by rw [if_pos rfl, inV_strs, decide_eq_decide.mpr mem_tl]; exact q⟩
theorem v_eqO (ha : Val ta σ H (.str (oL t))) (hb : Val tb σ H (.str (oL u))) : Val (tOp rEq ta tb) σ H (.bl (decide (t = u))) := v_eqv (v_eqS ha hb) (congrArg V.bl dec_oL)
theorem v_neO (ha : Val ta σ H (.str (oL t))) (hb : Val tb σ H (.str (oL u))) : Val (tOp rNe ta tb) σ H (.bl (!decide (t = u))) := v_eqv (v_neS ha hb) (congrArg (fun b => V.bl (!b)) dec_oL)
theorem v_lit {s : String} : Val (tC (.str (Str.ofString s))) σ H (.str (oL (TL.tl (Str.ofString s)))) := v_eqv v_c (by rw [oL_tl])
/-- for c in a text -/
theorem s_forS (h : Val te σ H (.str (oL t))) (Pv : Nat → L2.St → Hp → Prop) (h0 : Pv 0 σ H)
    (hs : ∀ (i : Nat) (c : Nat) σ' H', t[i]? = some c → Pv i σ' H' → tb' ⟨Pv (i + 1), R, N, Pv (i + 1)⟩ (σ'.set k (some (.str (oL [c])))) H') (hd : ∀ σ' H', Pv t.length σ' H' → N σ' H') : tFor (iStr te) (gName k) tb' ⟨N, R, B, C'⟩ σ H :=
  h _ ⟨oL t, rfl, for_it (walk_str (z := oL t)) (D := ⟨N, R, B, C'⟩) Pv h0 (fun _ _ _ _ _ => trivial) (fun i x σ' H1 H' hi p y => by
    obtain ⟨rfl, c, hc, rfl⟩ := y
    exact hs i c σ' _ (by simpa using hc) p) (by
      intro σ' H' p
      have e : (oL t).cps.size = t.length := by simp [oL, SX.S]
      rw [e] at p
      exact hd σ' H' p)⟩
theorem q_forS (h : Val te σ H (.str (oL t))) (Pv : Nat → L2.St → Hp → Prop) (h0 : Pv 0 σ H)
    (hs : ∀ (i : Nat) (c : Nat) σ' H', t[i]? = some c → Pv i σ' H' → tb' ⟨Pv (i + 1), R, tz ⟨N, R, B, C'⟩, Pv (i + 1)⟩ (σ'.set k (some (.str (oL [c])))) H') (hd : ∀ σ' H', Pv t.length σ' H' → tz ⟨N, R, B, C'⟩ σ' H') : tSeq (tFor (iStr te) (gName k) tb') tz ⟨N, R, B, C'⟩ σ H :=
  s_forS (N := tz ⟨N, R, B, C'⟩) (B := B) (C' := C') h Pv h0 hs hd
end
theorem all_take {p : Nat → Bool} {t : LN} {i c : Nat} (h : t[i]? = some c) (ha : (t.take i).all p = true) (hc : p c = true) : (t.take (i + 1)).all p = true := by
  rw [List.take_add_one, h, List.all_append, ha]; simpa using hc
theorem all_false {p : Nat → Bool} {t : LN} {i c : Nat} (h : t[i]? = some c) (hc : p c = false) : t.all p = false := by
  cases e : t.all p with
  | false => rfl
  | true => rw [List.all_eq_true.mp e c (List.mem_of_getElem? h)] at hc; cases hc
def spName : Sp := fun vs H Q _ => ∃ t : LN, vs = [.str (oL t)] ∧ t.length ≤ 100000 ∧ Q (.bl (isNameL t)) H
def spNum : Sp := fun vs H Q _ => ∃ t : LN, vs = [.str (oL t)] ∧ t.length ≤ 100000 ∧ Q (.bl (isNumL t)) H
/-! ### terms, weights: promises and readings -/
def preTerms (vs : List V) (_ : Hp) (_ : FS) (_ : Hp → Prop) (d : PyData) : Prop := ∃ t : LN, vs = [.str (oL t)] ∧ t.length ≤ 90000 ∧ d = oD termsD (termsL t)
def lnsD (fs : List LN) : PyData := .list (fs.map lnD)
def preWeight (K : PySem.W.Frag) (vs : List V) (H : Hp) (F : FS) (_ : Hp → Prop) (d : PyData) : Prop := ∃ (v : V) (fs : List LN) (a : Addr) (ss : List Str), vs = [v, .ref a] ∧ Da K H F v (lnsD fs) ∧ (∀ H', SqT K H' a (ss.map V.str)) ∧ (∀ H', tyV K "tuple" (.ref a) H') ∧ ss.length = 6 ∧ fs.length ≤ 90000 ∧ d = oD PyData.int (weightL (ss.map TL.tl) fs)
section
variable {σ : L2.St} {H H' : Hp} {K : PySem.W.Frag} {F : FS} {W : Hp → Prop} {te ta tb tl : TE} {tA : TA} {t u : LN} {fs : List LN} {i : Int} {c k : Nat} {a : Addr} {v : V} {d : PyData} {ss : List Str}
theorem oLs : ∀ {vs : List V} {fs : List LN}, DaAll K H F vs (fs.map lnD) → vs = fs.map fun l => V.str (oL l)
  | [], [], _ => rfl
  | _ :: _, _ :: _, h => by
    cases h with | cons h1 h2 =>
    cases h1
    rw [oLs h2]; rfl
  | [], _ :: _, h => by cases h
  | _ :: _, [], h => by cases h
theorem da_lns : ∀ fs : List LN, DaAll K H F (fs.map fun l => V.str (oL l)) (fs.map lnD)
  | [] => .nil
  | _ :: r => .cons (.str _) (da_lns r)
theorem Da.lns (h : Da K H F v (lnsD fs)) : ∃ a, v = .ref a ∧ SqL K H a (fs.map fun l => V.str (oL l)) := by
  cases h with | lst h1 h2 =>
  have e := oLs h2
  subst e
  exact ⟨_, rfl, SqL.of h1.at_⟩
theorem inV_lns (t : LN) (fs : List LN) : inV (.str (oL t)) (fs.map fun l => V.str (oL l)) = decide (t ∈ fs) := by
  have e : (fs.map fun l => V.str (oL l)) = (fs.map oL).map V.str := by rw [List.map_map]; rfl
  rw [e, inV_strs]
  refine decide_eq_decide.mpr ⟨fun h => ?_, fun h => List.mem_map_of_mem h⟩
  obtain ⟨x, hx, e⟩ := List.mem_map.mp h
  exact SX.S_inj e ▸ hx
theorem flat_lns (fs : List LN) : (fs.map fun l => V.str (oL l)).all flatV = true := by
  rw [List.all_map]
  exact List.all_eq_true.mpr fun _ _ => rfl
theorem am_inL (ha : ∀ H1, Mv F H F H1 → Ok F W H1 → Val ta σ H1 (.str (oL t))) (hb : Dv K F W tb σ H (lnsD fs)) : AnsM F W (tTest (tOp (rIn K false) ta tb)) σ H (decide (t ∈ fs)) := fun H1 m o Q q =>
  ha H1 m o _ (hb H1 m o _ fun v' H3 m3 o3 hv' => by
    obtain ⟨p, rfl, hp⟩ := hv'.lns
    exact ⟨p, _, rfl, .inl hp, rfl, flat_lns fs, _, rfl, by rw [if_neg Bool.false_ne_true, inV_lns]; exact q _ m3 o3⟩)
def rTupIx (K : PySem.W.Frag) : V → List V → Hp → VK → Prop := fun x xs H Q => ∃ p, ∃ ys : List Str, ∃ z j, x = .ref p ∧ xs = [.str z] ∧ SqT K H p (ys.map V.str) ∧ ys[j]? = some z ∧ (∀ m, m < j → ys[m]? ≠ some z) ∧ Q (.int (j : Nat)) H
theorem idx_at : ∀ {ns : List LN} {t : LN}, t ∈ ns → ns[ns.idxOf t]? = some t ∧ (∀ m, m < ns.idxOf t → ns[m]? ≠ some t) ∧ ns.idxOf t < ns.length := by
  intro ns t h
  have hl := List.idxOf_lt_length_of_mem h
  refine ⟨?_, fun m hm e => ?_, hl⟩
  · rw [List.getElem?_eq_getElem hl]
    exact congrArg some (List.getElem_idxOf hl)
  · obtain ⟨h1, h2⟩ := List.getElem?_eq_some_iff.mp e
    have := List.not_of_lt_findIdx (p := fun x => x == t) (xs := ns) (i := m) hm
    rw [h2] at this
    simp at this
theorem v_tidx (ha : Val ta σ H (.ref a)) (ty : tyV K "tuple" (.ref a) H) (hb : Val tb σ H (.str (oL t))) (h : SqT K H a (ss.map V.str)) (hm : t ∈ ss.map TL.tl) : Val (tBM K "tuple" (rTupIx K) ta (tCons tb tNil)) σ H (.int ((ss.map TL.tl).idxOf t : Nat)) := fun Q q => by
  obtain ⟨e1, e2, e3⟩ := idx_at hm
  refine ha _ ⟨ty, va_cons hb va_nil _ ⟨a, ss, oL t, (ss.map TL.tl).idxOf t, rfl, rfl, h, ?_, fun m hm e => ?_, q⟩⟩
  · rw [List.getElem?_map] at e1
    obtain ⟨s, hs, e⟩ := Option.map_eq_some_iff.mp e1
    rw [hs, ← e, oL_tl]
  · exact e2 m hm (by rw [List.getElem?_map, e]; rfl)
end
theorem take_drop_step {t : LN} {i beg c : Nat} (h : t[i]? = some c) (hb : beg ≤ i) : (t.take (i + 1)).drop beg = (t.take i).drop beg ++ [c] := by
  have hl := (List.getElem?_eq_some_iff.mp h).1
  rw [List.take_add_one, h, List.drop_append_of_le_length (by rw [List.length_take]; omega)]
  rfl
theorem drop_at {α : Type} {t : List α} {i : Nat} {c : α} (h : t[i]? = some c) : t.drop i = c :: t.drop (i + 1) := by
  obtain ⟨hl, e⟩ := List.getElem?_eq_some_iff.mp h
  rw [List.drop_eq_getElem_cons hl, e]
theorem cut_nil (t : LN) (i : Nat) : (t.take i).drop i = [] := List.drop_eq_nil_of_le (by rw [List.length_take]; omega)
theorem idx_eq (ns : List LN) (t : LN) (h : t ∈ ns) (hl : ns.length = 6) : 0 < wtsV.getD (ns.idxOf t) 1 ∧ wtsV.getD (ns.idxOf t) 0 = wtsV.getD (ns.idxOf t) 1 := by
  have := (idx_at h).2.2
  exact ⟨(wts_in (by omega)).1, (wts_in (by omega)).2.2⟩
section
variable {K : PySem.W.Frag} {H H' : Hp} {F F1 : FS} {W : Hp → Prop} {σ : L2.St} {t : TT} {t1 t2 : TS} {N : L2.St → Hp → Prop} {R : VK} {B C' : L2.St → Hp → Prop} {tz : TS} {b : Bool}
theorem q_ifM (h : AnsM F W t σ H b) (o : Ok F W H) (h1 : b = true → ∀ H2, Mv F H F H2 → Ok F W H2 → t1 ⟨tz ⟨N, R, B, C'⟩, R, B, C'⟩ σ H2) (h2 : b = false → ∀ H2, Mv F H F H2 → Ok F W H2 → t2 ⟨tz ⟨N, R, B, C'⟩, R, B, C'⟩ σ H2) : tSeq (tIfS t t1 t2) tz ⟨N, R, B, C'⟩ σ H :=
  qx_if (x_am h o fun H2 m o2 => by
    cases b with
    | true => exact iteT (h1 rfl H2 m o2)
    | false => exact iteF (h2 rfl H2 m o2))
theorem s_ifM (h : AnsM F W t σ H b) (o : Ok F W H) (h1 : b = true → ∀ H2, Mv F H F H2 → Ok F W H2 → t1 ⟨N, R, B, C'⟩ σ H2) (h2 : b = false → ∀ H2, Mv F H F H2 → Ok F W H2 → t2 ⟨N, R, B, C'⟩ σ H2) : tIfS t t1 t2 ⟨N, R, B, C'⟩ σ H :=
  sx_if (x_am h o fun H2 m o2 => by
    cases b with
    | true => exact iteT (h1 rfl H2 m o2)
    | false => exact iteF (h2 rfl H2 m o2))
end
/-! ### None or data; calls with a constant beside data; split -/
def isNoneD : PyData → Bool
  | .none => true
  | _ => false
section
variable {K : PySem.W.Frag} {H H' : Hp} {F F1 : FS} {W : Hp → Prop} {σ : L2.St} {te ta tb tc : TE} {tA : TA} {v x y z : V} {d d1 d2 e : PyData} {ds : List PyData} {i j : Int} {t : LN} {c : Nat} {fs : List LN}
theorem isNone_da (h : Da K H F v d) : decide (v = .non) = isNoneD d := by cases h <;> rfl
theorem am_isN (ha : Dv K F W ta σ H d) : AnsM F W (tTest (tOp rIsN ta (tC .non))) σ H (isNoneD d) := fun H1 m o Q q =>
  ha H1 m o _ fun v H2 m2 o2 hv => ⟨rfl, _, rfl, by rw [isNone_da hv]; exact q _ m2 o2⟩
theorem am_notN (ha : Dv K F W ta σ H d) : AnsM F W (tTest (tOp rNotN ta (tC .non))) σ H (!isNoneD d) := fun H1 m o Q q =>
  ha H1 m o _ fun v H2 m2 o2 hv => ⟨rfl, _, rfl, by rw [isNone_da hv]; exact q _ m2 o2⟩
theorem dv_add (ha : Dv K F W ta σ H (.int i)) (hb : Dv K F W tb σ H (.int j)) : Dv K F W (tOp (rI0 fun i j => .int (i + j)) ta tb) σ H (.int (i + j)) := fun H1 m o _ q =>
  ha H1 m o _ fun v H2 m2 o2 hv => hb H2 (m.trans m2) o2 _ fun v' H3 m3 o3 hv' => by
    cases hv; cases hv'
    exact ⟨_, _, rfl, rfl, q _ _ (m2.trans m3) o3 (.int _)⟩
theorem dv_spA {pre : List V → Hp → FS → (Hp → Prop) → PyData → Prop} (wo : Wo F W) (h : Dv K F W ta σ H d1) (h2 : ∀ H1, Mv F H F H1 → Ok F W H1 → Val tb σ H1 y) (hp : ∀ v H1, Mv F H F H1 → Ok F W H1 → Da K H1 F v d1 → pre [v, y] H1 F W d) : Dv K F W (tCall (spDV K pre) [] E0 (tCons ta (tCons tb tNil))) σ H d := fun H1 m o _ q =>
  h H1 m o _ fun v H2 m2 o2 hv => h2 H2 (m.trans m2) o2 _ (by
    show spDV K pre ([v, y] ++ []) H2 _ E0
    rw [List.append_nil]
    exact ⟨F, W, d, wo, o2, hp v H2 (m.trans m2) o2 hv, fun v' H' m3 o3 hd => q v' H' (m2.trans m3) o3 hd⟩)
theorem dv_spB {pre : List V → Hp → FS → (Hp → Prop) → PyData → Prop} (wo : Wo F W) (h1 : ∀ H1, Mv F H F H1 → Ok F W H1 → Val ta σ H1 y) (h : Dv K F W tb σ H d1) (hp : ∀ v H1, Mv F H F H1 → Ok F W H1 → Da K H1 F v d1 → pre [y, v] H1 F W d) : Dv K F W (tCall (spDV K pre) [] E0 (tCons ta (tCons tb tNil))) σ H d := fun H1 m o _ q =>
  h1 H1 m o _ (h H1 m o _ fun v H2 m2 o2 hv => by
    show spDV K pre ([y, v] ++ []) H2 _ E0
    rw [List.append_nil]
    exact ⟨F, W, d, wo, o2, hp v H2 (m.trans m2) o2 hv, fun v' H' m3 o3 hd => q v' H' (m2.trans m3) o3 hd⟩)
/-! split at one sign -/
theorem cutAt_ne (c : Nat) : ∀ l : LN, cutAt c l ≠ []
  | [] => by simp [cutAt]
  | x :: r => by
    rw [cutAt]
    split
    · simp
    · cases cutAt c r <;> simp
theorem spl_cut (c : Nat) : ∀ (l acc : LN), TL.spl [c] 0 acc l = (match cutAt c l with | [] => [acc] | h :: t => (acc ++ h) :: t)
  | [], acc => by rw [TL.spl_nil, cutAt]; simp
  | x :: r, acc => by
    by_cases h : x = c
    · subst h
      rw [TL.spl_hit (by simp [TL.pre]), cutAt, if_pos rfl]
      show acc :: TL.spl [x] 0 [] r = _
      rw [spl_cut x r []]
      cases hr : cutAt x r with
      | nil => exact absurd hr (cutAt_ne x r)
      | cons a b => simp
    · rw [TL.spl_miss (by simp [TL.pre, h]), cutAt, if_neg h, spl_cut c r]
      cases cutAt c r <;> simp
theorem split_oL (t : LN) {c : Nat} (hc : c < 256) : Txt.split (oL t) (oL [c]) = (cutAt c t).map oL := by
  refine TL.map_tl_inj ?_
  rw [TL.split_spl (oL t) (oL [c]) (by simp [TL.tl, oL, SX.S]) (TL.kind_ok (by simpa [oL, SX.S] using hc))]
  show TL.spl [c] 0 [] t = _
  rw [spl_cut, List.map_map]
  have e : (cutAt c t).map (TL.tl ∘ oL) = cutAt c t := by
    have : (TL.tl ∘ oL : LN → LN) = id := rfl
    rw [this, List.map_id]
  rw [e]
  cases h : cutAt c t with
  | nil => exact absurd h (cutAt_ne c t)
  | cons a b => simp
abbrev rSplit : V → List V → Hp → VK → Prop := fun x xs H Q => ∃ a b, x = .str a ∧ xs = [.str b] ∧ (b.length == 0) = false ∧ a.length + 2 ≤ sizeLine ∧ rNewStrs (Txt.split a b) H Q
theorem dn_split {b : Str} (wo : Wo F W) (ha : Dv K F W ta σ H (.str (oL t))) (hb : b = oL [c]) (hc : c < 256) (hl : t.length ≤ 90000) : DvN K F W (tM1 rSplit ta (tC (.str b))) σ H ((cutAt c t).map lnD) := fun H1 m o _ q =>
  ha H1 m o _ fun v H2 m2 o2 hv => by
    cases hv
    subst hb
    refine ⟨⟨_, rfl⟩, ⟨_, _, rfl, rfl, by simp [SX.S_len], by rw [SX.S_len]; exact Nat.le_trans (by omega : t.length + 2 ≤ 100000) (by rw [sizeLine_eq]; decide), fun p hp => ?_⟩⟩
    rw [split_oL t hc]
    refine q p _ (o2.free m2 hp) (m2.trans (.same (smN hp))) (o2.same wo (smN hp)) ⟨_, upd_same, ?_⟩
    have : ((cutAt c t).map oL).map V.str = (cutAt c t).map fun l => V.str (oL l) := by rw [List.map_map]; rfl
    rw [this]
    exact da_lns _
end
/-! slices by -1 -/
theorem sIx_m1 (n d : Nat) : HT.sIx n d (some (-1)) = n - 1 := by
  show (if (-1 : Int) < 0 then ((-1 : Int) + (n : Int)).toNat else min (-1 : Int).toNat n) = n - 1
  rw [if_pos (by decide)]
  omega
theorem cut_last {t : LN} (h : t ≠ []) : cutD t (some (-1)) none = t.drop (t.length - 1) := by
  have hp := List.length_pos_iff.mpr h
  unfold cutD
  rw [sIx_m1, show HT.sIx t.length t.length none = t.length from rfl]
  rw [List.take_of_length_le (by rw [List.length_drop]; omega)]
theorem cut_init {t : LN} : cutD t none (some (-1)) = t.dropLast := by
  unfold cutD
  rw [sIx_m1, show HT.sIx t.length 0 none = 0 from rfl, List.drop_zero, Nat.sub_zero, List.dropLast_eq_take]
theorem last_eq {t : LN} (h : t ≠ []) (c : Nat) : (t.drop (t.length - 1) = [c]) ↔ t.getLast? = some c := by
  have hp := List.length_pos_iff.mpr h
  rw [List.getLast?_eq_getElem?, List.drop_eq_getElem_cons (by omega), List.getElem?_eq_getElem (by omega)]
  constructor
  · intro e; exact congrArg some (List.cons.inj e).1
  · intro e
    rw [Option.some.inj e, List.drop_of_length_le (by omega)]
theorem cutAt_len (c : Nat) : ∀ (l : LN) (p : LN), p ∈ cutAt c l → p.length ≤ l.length
  | [], p, h => by rw [cutAt, List.mem_singleton] at h; subst h; exact Nat.le_refl _
  | x :: r, p, h => by
    rw [cutAt] at h
    split at h
    · rcases List.mem_cons.mp h with e | e
      · subst e; simp
      · exact Nat.le_trans (cutAt_len c r p e) (by simp)
    · cases hr : cutAt c r with
      | nil => exact absurd hr (cutAt_ne c r)
      | cons a b =>
        rw [hr] at h
        rcases List.mem_cons.mp h with e | e
        · subst e
          have := cutAt_len c r a (by rw [hr]; exact List.mem_cons_self)
          simp; omega
        · exact Nat.le_trans (cutAt_len c r p (by rw [hr]; exact List.mem_cons_of_mem _ e)) (by simp)
theorem cutAt_many (c : Nat) : ∀ l : LN, (cutAt c l).length ≤ l.length + 1
  | [] => by simp [cutAt]
  | x :: r => by
    have ih := cutAt_many c r
    rw [cutAt]
    split
    · simp; omega
    · cases hr : cutAt c r with
      | nil => simp
      | cons a b => rw [hr] at ih; simp at ih ⊢; omega
/-! ### promises -/
def smallL (fs : List LN) : Prop := fs.length ≤ 90000 ∧ ∀ l ∈ fs, l.length ≤ 90000
def preAimed (K : PySem.W.Frag) (vs : List V) (H : Hp) (F : FS) (_ : Hp → Prop) (d : PyData) : Prop := ∃ (v : V) (fs : List LN) (kd : Int), vs = [.int kd, v] ∧ Da K H F v (lnsD fs) ∧ smallL fs ∧ d = oD deedD (aimedL kd fs)
def preDeed (K : PySem.W.Frag) (vs : List V) (H : Hp) (F : FS) (_ : Hp → Prop) (d : PyData) : Prop := ∃ (v : V) (fs : List LN), vs = [v] ∧ Da K H F v (lnsD fs) ∧ fs ≠ [] ∧ smallL fs ∧ d = oD deedD (deedL fs)
def preRead (vs : List V) (_ : Hp) (_ : FS) (_ : Hp → Prop) (d : PyData) : Prop := ∃ t : LN, vs = [.str (oL t)] ∧ t.length ≤ 80000 ∧ d = oD readD (readL t)
theorem aimG_len {kd far : Int} {fs : List LN} (h : fs.length ≠ 1) : aimG kd far fs = none := by
  match fs with
  | [] => rfl
  | [_] => exact absurd rfl h
  | _ :: _ :: _ => rfl
theorem smallL.tail {f : LN} {r : List LN} (h : smallL (f :: r)) : smallL r := ⟨by have := h.1; simp at this; omega, fun l hl => h.2 l (List.mem_cons_of_mem _ hl)⟩
theorem isNone_oD {α : Type} {f : α → PyData} (hf : ∀ a, isNoneD (f a) = false) (o : Option α) : isNoneD (oD f o) = o.isNone := by cases o with
  | none => rfl
  | some a => exact hf a
def labV : Option LN → V
  | none => .non
  | some l => .str (oL l)
theorem da_lab {K : PySem.W.Frag} {H : Hp} {F : FS} : ∀ l : Option LN, Da K H F (labV l) (oD lnD l)
  | none => .non
  | some _ => .str _
theorem tupN_ok {K : PySem.W.Frag} {x : Str} (h : Hd.tupN K x = true) : ∃ o, K.lookup (He.ga K x) = some o ∧ o.cls = .type "tuple" ∧ o.dict = none := by
  unfold Hd.tupN at h
  split at h
  · rename_i c dt sl e
    exact ⟨_, e, congrArg Value.type (of_decide_eq_true h), rfl⟩
  · cases h
theorem Tx.t_KINDS {K : PySem.W.Frag} {mg : Str → Option Value} (T : Tx K mg) (H : Hp) : SqT K H (He.ga K "KINDS") (([.str "and", .str "add", .str "rise", .str "put", .str "call", .str "go"] : List He.Dv).map (He.Dv.v K)) := by
  have h := T.more
  unfold Hd.exB at h
  exact He.tupB_ok (He.ba h).1 H
theorem Tx.n_KINDS {K : PySem.W.Frag} {mg : Str → Option Value} (T : Tx K mg) (H : Hp) : tyV K "tuple" (.ref (He.ga K "KINDS")) H := by
  have h := T.more
  unfold Hd.exB at h
  have h := (He.ba h).2
  exact .inr (.inl ⟨rfl, tupN_ok (He.ba h).1⟩)
theorem Tx.t_ASKS {K : PySem.W.Frag} {mg : Str → Option Value} (T : Tx K mg) (H : Hp) : SqT K H (He.ga K "ASKS") (([.str "heard", .str "hear", .str "room", .str "say", .str "sleep", .str "fetch", .str "store", .str "stop", .str "look"] : List He.Dv).map (He.Dv.v K)) := by
  have h := T.more
  unfold Hd.exB at h
  have h := (He.ba h).2
  have h := (He.ba h).2
  exact He.tupB_ok (He.ba h).1 H
theorem Tx.n_ASKS {K : PySem.W.Frag} {mg : Str → Option Value} (T : Tx K mg) (H : Hp) : tyV K "tuple" (.ref (He.ga K "ASKS")) H := by
  have h := T.more
  unfold Hd.exB at h
  have h := (He.ba h).2
  have h := (He.ba h).2
  have h := (He.ba h).2
  exact .inr (.inl ⟨rfl, tupN_ok (He.ba h).1⟩)
theorem Tx.t_CHANGES {K : PySem.W.Frag} {mg : Str → Option Value} (T : Tx K mg) (H : Hp) : SqT K H (He.ga K "CHANGES") (([.str "zero", .str "turn", .str "flip", .str "more", .str "left", .str "right"] : List He.Dv).map (He.Dv.v K)) := by
  have h := T.more
  unfold Hd.exB at h
  have h := (He.ba h).2
  have h := (He.ba h).2
  have h := (He.ba h).2
  have h := (He.ba h).2
  exact He.tupB_ok (He.ba h).1 H
theorem Tx.n_CHANGES {K : PySem.W.Frag} {mg : Str → Option Value} (T : Tx K mg) (H : Hp) : tyV K "tuple" (.ref (He.ga K "CHANGES")) H := by
  have h := T.more
  unfold Hd.exB at h
  have h := (He.ba h).2
  have h := (He.ba h).2
  have h := (He.ba h).2
  have h := (He.ba h).2
  have h := (He.ba h).2
  exact .inr (.inl ⟨rfl, tupN_ok (He.ba h).1⟩)
theorem Tx.t_TESTS {K : PySem.W.Frag} {mg : Str → Option Value} (T : Tx K mg) (H : Hp) : SqT K H (He.ga K "TESTS") (([.str "minus", .str "none", .str "mark", .str "not", .str "zero", .str "flat"] : List He.Dv).map (He.Dv.v K)) := by
  have h := T.more
  unfold Hd.exB at h
  have h := (He.ba h).2
  have h := (He.ba h).2
  have h := (He.ba h).2
  have h := (He.ba h).2
  have h := (He.ba h).2
  have h := (He.ba h).2
  exact He.tupB_ok (He.ba h).1 H
theorem Tx.n_TESTS {K : PySem.W.Frag} {mg : Str → Option Value} (T : Tx K mg) (H : Hp) : tyV K "tuple" (.ref (He.ga K "TESTS")) H := by
  have h := T.more
  unfold Hd.exB at h
  have h := (He.ba h).2
  have h := (He.ba h).2
  have h := (He.ba h).2
  have h := (He.ba h).2
  have h := (He.ba h).2
  have h := (He.ba h).2
  have h := (He.ba h).2
  exact .inr (.inl ⟨rfl, tupN_ok (He.ba h).1⟩)
theorem Tx.t_WEIGHTS {K : PySem.W.Frag} {mg : Str → Option Value} (T : Tx K mg) (H : Hp) : SqT K H (He.ga K "WEIGHTS") (([.int 32, .int 16, .int 8, .int 4, .int 2, .int 1] : List He.Dv).map (He.Dv.v K)) := by
  have h := T.more
  unfold Hd.exB at h
  have h := (He.ba h).2
  have h := (He.ba h).2
  have h := (He.ba h).2
  have h := (He.ba h).2
  have h := (He.ba h).2
  have h := (He.ba h).2
  have h := (He.ba h).2
  have h := (He.ba h).2
  exact He.tupB_ok (He.ba h).1 H
theorem Tx.n_WEIGHTS {K : PySem.W.Frag} {mg : Str → Option Value} (T : Tx K mg) (H : Hp) : tyV K "tuple" (.ref (He.ga K "WEIGHTS")) H := by
  have h := T.more
  unfold Hd.exB at h
  have h := (He.ba h).2
  have h := (He.ba h).2
  have h := (He.ba h).2
  have h := (He.ba h).2
  have h := (He.ba h).2
  have h := (He.ba h).2
  have h := (He.ba h).2
  have h := (He.ba h).2
  have h := (He.ba h).2
  exact .inr (.inl ⟨rfl, tupN_ok (He.ba h).1⟩)
theorem Tx.t_OTHERS {K : PySem.W.Frag} {mg : Str → Option Value} (T : Tx K mg) (H : Hp) : SqT K H (He.ga K "OTHERS") (([.str "place", .str "word", .str "far", .str "ask", .str "change", .str "test", .str "here"] : List He.Dv).map (He.Dv.v K)) := by
  have h := T.more
  unfold Hd.exB at h
  have h := (He.ba h).2
  have h := (He.ba h).2
  have h := (He.ba h).2
  have h := (He.ba h).2
  have h := (He.ba h).2
  have h := (He.ba h).2
  have h := (He.ba h).2
  have h := (He.ba h).2
  have h := (He.ba h).2
  have h := (He.ba h).2
  exact He.tupB_ok (He.ba h).1 H
theorem Tx.n_OTHERS {K : PySem.W.Frag} {mg : Str → Option Value} (T : Tx K mg) (H : Hp) : tyV K "tuple" (.ref (He.ga K "OTHERS")) H := by
  have h := T.more
  unfold Hd.exB at h
  have h := (He.ba h).2
  have h := (He.ba h).2
  have h := (He.ba h).2
  have h := (He.ba h).2
  have h := (He.ba h).2
  have h := (He.ba h).2
  have h := (He.ba h).2
  have h := (He.ba h).2
  have h := (He.ba h).2
  have h := (He.ba h).2
  have h := (He.ba h).2
  exact .inr (.inl ⟨rfl, tupN_ok (He.ba h).1⟩)

section
variable {P : Program} {w : World} {K : PySem.W.Frag} {mg : Str → Option Value} {base : Heap}

theorem sc_is_name : FnScope ["text", "sign"] ["text"] (defScope s_is_name) := ⟨rfl, rfl, rfl, by decide +kernel, rfl, by decide +kernel, by decide +kernel⟩
theorem cal_is_name (T : Tx K mg) : Cal P w K mg base 1 "is_name" ["text"] spName := by
  refine cal_mk T 0 0 rfl rfl sc_is_name (fun _ _ _ _ _ _ us hl => match us, hl with | [_], _ => rfl) (fun vs H Q E h => ?_) (fun f cdv A outer s H vs Q E hr h => ?_)
  · obtain ⟨t, rfl, tl, k⟩ := h
    rfl
  · obtain ⟨t, rfl, tl, k⟩ := h
    refine ⟨_, (pss_cons (ps_if (PW.pt (pw_or (pt_not (pt_chain op_le op_le pe_int (pe_callB call_len_str (by rfl) (T.free 29) PySem.boot_len (pa_cons (pv 0) pa_nil)) pe_int)) (pw_or1 (pt_cmpR op_notInS (pe_ix ix_str (pv 0) pe_int (fun _ _ => rfl)) pe_str (by rfl))))) (pss_one (ps_ret pe_bl)) pss_nil) (pss_cons (ps_for PassesOwn.never rfl (pi_str (pv 0)) (pg_name (i := 1) sc_is_name.nd rfl (Or.inl rfl)) (pss_one (ps_if (pt_cmpR op_notInS (pv 1) pe_str (by rfl)) (pss_one (ps_ret pe_bl)) pss_nil))) (pss_one (ps_ret (pe_not (pe_or (pe_cmpR op_in_seq (pv 0) (pe_glob (v := .ref (He.ga K "KINDS")) (by rfl) (T.glo 45) rfl) (by rfl)) (pe_or (pe_cmpR op_in_seq (pv 0) (pe_glob (v := .ref (He.ga K "ASKS")) (by rfl) (T.glo 46) rfl) (by rfl)) (pe_or (pe_cmpR op_in_seq (pv 0) (pe_glob (v := .ref (He.ga K "CHANGES")) (by rfl) (T.glo 47) rfl) (by rfl)) (pe_or (pe_cmpR op_in_seq (pv 0) (pe_glob (v := .ref (He.ga K "TESTS")) (by rfl) (T.glo 48) rfl) (by rfl)) (pe_one (pe_cmpR op_in_seq (pv 0) (pe_glob (v := .ref (He.ga K "OTHERS")) (by rfl) (T.glo 50) rfl) (by rfl)))))))))))), ?_⟩
    have e0 : isNameL t = (decide (1 ≤ t.length ∧ t.length ≤ 8) && hdAz t && t.all (fun c => decide (c ∈ azdL)) && !resN t) := rfl
    refine q_if (b := !(decide (1 ≤ t.length ∧ t.length ≤ 8) && hdAz t)) ?_ (fun h1 => ?_) (fun h1 => ?_)
    · have hch : Ans (tTest (tChain (rI0 fun i j => V.bl (decide (i ≤ j))) (rI0 fun i j => V.bl (decide (i ≤ j))) (tC (.int 1)) _ (tC (.int 8)))) [some (V.str (oL t)), none] H (decide (1 ≤ t.length ∧ t.length ≤ 8)) := a_t (v_eqv (v_chain v_c (v_lenS (v_var (k := 0) rfl) tl) (fun _ q => rr_le q) v_c (fun _ q => rr_le q)) (congrArg V.bl (by rw [← Bool.decide_and]; exact decide_eq_decide.mpr (by omega))))
      cases ht : t with
      | nil =>
        subst ht
        exact a_or (b := true) (c := true) (a_not (b := false) hch) (fun z => by cases z)
      | cons c r =>
        rw [← ht]
        have hor := a_or (a_not hch) (fun _ => a_t (v_notInS1 (v_ixS (v_var (σ := [some (V.str (oL t)), none]) (k := 0) rfl) v_c tl (by decide) (show t[(0 : Int).toNat]? = some c by rw [ht]; rfl)) (v_eqv v_c (show V.str _ = V.str (oL azL) from congrArg V.str (oL_tl _).symm))))
        rw [show hdAz t = decide (c ∈ azL) by rw [ht]; rfl, Bool.not_and]
        exact hor
    · refine s_ret v_c ?_
      have h2 : (decide (1 ≤ t.length ∧ t.length ≤ 8) && hdAz t) = false := (Bool.not_eq_true' _).mp h1
      rw [e0, h2] at k
      exact k
    refine s_next ?_
    have h2 : (decide (1 ≤ t.length ∧ t.length ≤ 8) && hdAz t) = true := (Bool.not_eq_false' _).mp h1
    rw [h2, Bool.true_and] at e0
    refine q_forS (v_var rfl) (fun i σ' H' => H' = H ∧ (∃ y, σ' = [some (V.str (oL t)), y]) ∧ (t.take i).all (fun c => decide (c ∈ azdL)) = true) ⟨rfl, ⟨_, rfl⟩, rfl⟩ (fun i c σ' H' hc pv => ?_) (fun σ' H' pv => ?_)
    · obtain ⟨rfl, ⟨y, rfl⟩, ha⟩ := pv
      refine s_if (a_t (v_notInS1 (v_var rfl) (v_eqv v_c (show V.str _ = V.str (oL azdL) from congrArg V.str (oL_tl _).symm)))) (fun h3 => ?_) (fun h3 => ?_)
      · refine s_ret v_c ?_
        have h4 := all_false (p := fun c => decide (c ∈ azdL)) hc (by simpa using h3)
        rw [e0, h4] at k
        exact k
      · exact s_next ⟨rfl, ⟨_, rfl⟩, all_take hc ha (by simpa using h3)⟩
    obtain ⟨rfl, ⟨y, rfl⟩, ha⟩ := pv
    rw [List.take_length] at ha
    rw [e0, ha, Bool.true_and] at k
    refine s_ret (v_notV (b := resN t) (v_orV (v_inT (v_var rfl) v_c (show SqT K _ _ (kindsS.map V.str) from T.t_KINDS _)) (fun _ => v_orV (v_inT (v_var rfl) v_c (show SqT K _ _ (asksS.map V.str) from T.t_ASKS _)) (fun _ => v_orV (v_inT (v_var rfl) v_c (show SqT K _ _ (chgS.map V.str) from T.t_CHANGES _)) (fun _ => v_orV (v_inT (v_var rfl) v_c (show SqT K _ _ (tstS.map V.str) from T.t_TESTS _)) (fun _ => v_inT (v_var rfl) v_c (show SqT K _ _ (othersS.map V.str) from T.t_OTHERS _))))))) k

theorem sc_is_number : FnScope ["text", "sign"] ["text"] (defScope s_is_number) := ⟨rfl, rfl, rfl, by decide +kernel, rfl, by decide +kernel, by decide +kernel⟩
theorem cal_is_number (T : Tx K mg) : Cal P w K mg base 1 "is_number" ["text"] spNum := by
  refine cal_mk T 1 1 rfl rfl sc_is_number (fun _ _ _ _ _ _ us hl => match us, hl with | [_], _ => rfl) (fun vs H Q E h => ?_) (fun f cdv A outer s H vs Q E hr h => ?_)
  · obtain ⟨t, rfl, tl, k⟩ := h
    rfl
  · obtain ⟨t, rfl, tl, k⟩ := h
    refine ⟨_, (pss_cons (ps_if (pt_not (pt_chain op_le op_le pe_int (pe_callB call_len_str (by rfl) (T.free 29) PySem.boot_len (pa_cons (pv 0) pa_nil)) pe_int)) (pss_one (ps_ret pe_bl)) pss_nil) (pss_cons (ps_for PassesOwn.never rfl (pi_str (pv 0)) (pg_name (i := 1) sc_is_number.nd rfl (Or.inl rfl)) (pss_one (ps_if (pt_cmpR op_notInS (pv 1) pe_str (by rfl)) (pss_one (ps_ret pe_bl)) pss_nil))) (pss_one (ps_ret pe_bl)))), ?_⟩
    have e0 : isNumL t = (decide (1 ≤ t.length ∧ t.length ≤ 4) && t.all (fun c => decide (c ∈ digL))) := rfl
    refine q_if (a_not (b := decide (1 ≤ t.length ∧ t.length ≤ 4)) (a_t (v_eqv (v_chain v_c (v_lenS (v_var (k := 0) rfl) tl) (fun _ q => rr_le q) v_c (fun _ q => rr_le q)) (congrArg V.bl (by rw [← Bool.decide_and]; exact decide_eq_decide.mpr (by omega)))))) (fun h1 => ?_) (fun h1 => ?_)
    · refine s_ret v_c ?_
      have h2 : decide (1 ≤ t.length ∧ t.length ≤ 4) = false := (Bool.not_eq_true' _).mp h1
      rw [e0, h2] at k
      exact k
    refine s_next ?_
    have h2 : decide (1 ≤ t.length ∧ t.length ≤ 4) = true := (Bool.not_eq_false' _).mp h1
    rw [h2, Bool.true_and] at e0
    refine q_forS (v_var rfl) (fun i σ' H' => H' = H ∧ (∃ y, σ' = [some (V.str (oL t)), y]) ∧ (t.take i).all (fun c => decide (c ∈ digL)) = true) ⟨rfl, ⟨_, rfl⟩, rfl⟩ (fun i c σ' H' hc pv => ?_) (fun σ' H' pv => ?_)
    · obtain ⟨rfl, ⟨y, rfl⟩, ha⟩ := pv
      refine s_if (a_t (v_notInS1 (v_var rfl) (v_eqv v_c (show V.str _ = V.str (oL digL) from congrArg V.str (oL_tl _).symm)))) (fun h3 => ?_) (fun h3 => ?_)
      · refine s_ret v_c ?_
        have h4 := all_false (p := fun c => decide (c ∈ digL)) hc (by simpa using h3)
        rw [e0, h4] at k
        exact k
      · exact s_next ⟨rfl, ⟨_, rfl⟩, all_take hc ha (by simpa using h3)⟩
    obtain ⟨rfl, ⟨y, rfl⟩, ha⟩ := pv
    rw [List.take_length] at ha
    rw [e0, ha] at k
    exact s_ret v_c k

theorem sc_terms : FnScope ["text", "found", "sign", "begin", "k", "one"] ["text"] (defScope s_terms) := ⟨rfl, rfl, rfl, by decide +kernel, rfl, by decide +kernel, by decide +kernel⟩
theorem cal_terms (T : Tx K mg) : Cal P w K mg base 2 "terms" ["text"] (spDV K preTerms) := by
  refine cal_mk T 2 2 rfl rfl sc_terms (fun _ _ _ _ _ _ us hl => match us, hl with | [_], _ => rfl) (fun vs H Q E h => ?_) (fun f cdv A outer s H vs Q E hr h => ?_)
  · obtain ⟨F, W, d, wo, ok, ⟨t, rfl, tl, rfl⟩, k⟩ := h
    rfl
  · obtain ⟨F, W, d, wo, ok, ⟨t, rfl, tl, rfl⟩, k⟩ := h
    refine ⟨_, (pss_cons (ps_set (i := 1) sc_terms.nd rfl (Or.inl rfl) (pe_lst pa_nil)) (pss_cons (ps_set (i := 2) sc_terms.nd rfl (Or.inl rfl) pe_int) (pss_cons (ps_set (i := 3) sc_terms.nd rfl (Or.inl rfl) pe_int) (pss_cons (ps_for PassesOwn.never rfl (pi_range1 (by rfl) (T.free 30) (pa_cons (pe_op op_add (pe_callB call_len_str (by rfl) (T.free 29) PySem.boot_len (pa_cons (pv 0) pa_nil)) pe_int) pa_nil)) (pg_name (i := 4) sc_terms.nd rfl (Or.inl rfl)) (pss_one (ps_if (PW.pt (pw_or (pt_cmpR op_eq (pv 4) (pe_callB call_len_str (by rfl) (T.free 29) PySem.boot_len (pa_cons (pv 0) pa_nil)) (nomark _)) (pw_or (pt_cmpR op_eq (pe_ix ix_str (pv 0) (pv 4) (fun _ _ => rfl)) pe_str (nomark _)) (pw_or1 (pt_cmpR op_eq (pe_ix ix_str (pv 0) (pv 4) (fun _ _ => rfl)) pe_str (nomark _)))))) (pss_cons (ps_set (i := 5) sc_terms.nd rfl (Or.inl rfl) (pe_slice sl_str (pv 0) (po_some (pv 3)) (po_some (pv 4)))) (pss_cons (ps_if (pt_not (PW.pt (pw_or (pt_val (pe_cal (cal_is_name (K := K) T) hr (by decide) rfl (pa_cons (pv 5) pa_nil))) (pw_or (pt_val (pe_cal (cal_is_number (K := K) T) hr (by decide) rfl (pa_cons (pv 5) pa_nil))) (pw_or1 (pt_cmpR op_eq (pv 5) pe_str (nomark _))))))) (pss_one (ps_ret pe_non)) pss_nil) (pss_cons (ps_expr (pe_bm PySem.F.plainAttrs_list PySem.F.slot_list_append PySem.F.type_list_append mt_append (pv 1) (pa_cons (pe_tup (pa_cons (pv 2) (pa_cons (pv 5) pa_nil))) pa_nil))) (pss_cons (ps_set (i := 3) sc_terms.nd rfl (Or.inl rfl) (pe_op op_add (pv 4) pe_int)) (pss_cons (ps_set (i := 2) sc_terms.nd rfl (Or.inl rfl) pe_int) (pss_one (ps_if (PW.pt (pw_and (pt_cmpR op_lt (pv 4) (pe_callB call_len_str (by rfl) (T.free 29) PySem.boot_len (pa_cons (pv 0) pa_nil)) (nomark _)) (pw_and1 (pt_cmpR op_eq (pe_ix ix_str (pv 0) (pv 4) (fun _ _ => rfl)) pe_str (nomark _))))) (pss_one (ps_set (i := 2) sc_terms.nd rfl (Or.inl rfl) (pe_un un_neg pe_int))) pss_nil))))))) pss_nil))) (pss_one (ps_ret (pv 1))))))), ?_⟩
    refine q_dn' (K := K) (ds := []) (dn_lst wo da_nil) ok .refl (fun D H1 hD ow m1 => ?_)
    refine q_set v_c ?_
    refine q_set v_c ?_
    refine q_forR (n := (t.length : Int) + 1) (va_cons (v_add (v_lenS (v_var rfl) (by omega)) v_c) va_nil) (by omega) (fun i σ' H' => ∃ acc beg sg y1 y2, Own K H F W D H' (acc.map termD) ∧ acc.length ≤ i ∧ σ' = [some (V.str (oL t)), some (.ref D), some (.int sg), some (.int ((beg : Nat) : Int)), y1, y2] ∧ ((i ≤ t.length ∧ beg ≤ i ∧ (termsG sg ((t.take i).drop beg) (t.drop i)).map (acc ++ ·) = termsL t) ∨ (i = t.length + 1 ∧ termsL t = some acc))) ⟨[], 0, 1, _, _, ow, Nat.le_refl _, rfl, .inl ⟨Nat.zero_le _, Nat.le_refl _, by
      show (termsG 1 [] t).map (fun x => [] ++ x) = termsG 1 [] t
      cases termsG 1 [] t <;> rfl⟩⟩ (fun i σ' H' hi pv => ?_) (fun σ' H' pv => ?_)
    · obtain ⟨acc, beg, sg, y1, y2, ow, al, rfl, ⟨il, bi, e⟩ | ⟨z, _⟩⟩ := pv
      case inr => omega
      obtain ⟨o2, w2⟩ := ow.tn wo
      -- what a term's end does
      have cut : ∀ r, Val (tSl rSlS (tVar 0) (tPart (tVar 3)) (tPart (tVar 4))) [some (V.str (oL t)), some (.ref D), some (.int sg), some (.int ((beg : Nat) : Int)), some (.int (i : Int)), r] H' (.str (oL ((t.take i).drop beg))) := fun r => by
        have h := v_slS (t := t) (lo := some ((beg : Nat) : Int)) (hi := some ((i : Nat) : Int)) (ta := tVar 0) (tlo := tPart (tVar 3)) (thi := tPart (tVar 4)) (H := H') (σ := [some (V.str (oL t)), some (.ref D), some (.int sg), some (.int ((beg : Nat) : Int)), some (.int (i : Int)), r]) (v_var rfl) (o_some (v_var rfl)) (o_some (v_var rfl)) (by omega)
        rw [cutD_nat bi] at h
        exact h
      have ol : ((t.take i).drop beg).length ≤ t.length := by rw [List.length_drop, List.length_take]; omega
      generalize he : (t.take i).drop beg = one at *
      rcases Nat.lt_or_ge i t.length with hlt | hge
      · obtain ⟨c, hc⟩ : ∃ c, t[i]? = some c := ⟨_, List.getElem?_eq_getElem hlt⟩
        have ix := fun (r : Option V) => v_ixS (σ := [some (V.str (oL t)), some (.ref D), some (.int sg), some (.int ((beg : Nat) : Int)), some (.int (i : Int)), r]) (H := H') (t := t) (i := (i : Int)) (v_var (k := 0) rfl) (v_var (k := 4) rfl) (by omega) (by omega) (by rw [Int.toNat_natCast]; exact hc)
        rw [drop_at hc, termsG] at e
        refine s_if (b := decide (c = 43 ∨ c = 45)) ?_ (fun h1 => ?_) (fun h1 => ?_)
        · have hor := a_or (a_t (v_eqv (v_eqI (v_var (k := 4) rfl) (v_lenS (v_var (σ := [some (V.str (oL t)), some (.ref D), some (.int sg), some (.int ((beg : Nat) : Int)), some (.int (i : Int)), y2]) (k := 0) rfl) (by omega))) (show _ = V.bl false from congrArg V.bl (decide_eq_false (by omega))))) (fun _ => a_or (a_t (v_eqO (ix y2) (v_eqv v_c (show V.str _ = V.str (oL [43]) from congrArg V.str (by rfl))))) (fun _ => a_t (v_eqO (ix y2) (v_eqv v_c (show V.str _ = V.str (oL [45]) from congrArg V.str (by rfl))))))
          rw [show decide (c = 43 ∨ c = 45) = (false || (decide ([c] = [43]) || decide ([c] = [45]))) by rw [Bool.false_or, Bool.decide_or]; simp]
          exact hor
        · rw [if_pos (of_decide_eq_true h1)] at e
          refine q_set (cut _) ?_
          refine q_if (a_not (b := okT one) (a_or (a_B (v_call (va_cons (v_var rfl) va_nil) (fun _ q => ⟨_, rfl, by omega, q⟩))) (fun _ => a_or (a_B (v_call (va_cons (v_var rfl) va_nil) (fun _ q => ⟨_, rfl, by omega, q⟩))) (fun _ => a_t (v_eqO (v_var rfl) (v_eqv v_c (show V.str _ = V.str (oL hereL) from congrArg V.str (oL_tl _).symm))))))) (fun h2 => ?_) (fun h2 => ?_)
          · have h2 : okT one = false := (Bool.not_eq_true' _).mp h2
            rw [if_neg (by rw [h2]; exact Bool.false_ne_true)] at e
            refine s_ret v_c (k _ _ ow.mv ow.ok ?_)
            rw [← e]; exact .non
          refine s_next ?_
          have h2 : okT one = true := (Bool.not_eq_false' _).mp h2
          rw [if_pos h2] at e
          refine qx_drop (x_own_app (d := termD (sg, one)) wo ow (v_var rfl) (dv_tup w2 (da_cons (dv_var rfl (.int _)) (da_cons (dv_var rfl (.str _)) da_nil))) (by rw [List.length_map]; omega) (fun H2 ow2 _ => ?_))
          have ow2 : Own K H F W D H2 ((acc ++ [(sg, one)]).map termD) := ow2.re (by rw [List.map_append]; rfl)
          refine q_set (v_eqv (v_add (v_var rfl) v_c) (show _ = V.int ((i + 1 : Nat) : Int) by simp)) ?_
          refine q_set v_c ?_
          have e2 : ∀ g : Int, g = (if c = 45 then -1 else 1) → (termsG g ((t.take (i + 1)).drop (i + 1)) (t.drop (i + 1))).map ((acc ++ [(sg, one)]) ++ ·) = termsL t := fun g eg => by
            rw [cut_nil, eg, ← e, Option.map_map]
            congr 1; funext x; simp
          refine s_if (b := decide (c = 45)) ?_ (fun h3 => ?_) (fun h3 => ?_)
          · have han := a_and (a_t (v_eqv (v_lt (v_var (k := 4) rfl) (v_lenS (H := H2) (v_var (σ := [some (V.str (oL t)), some (.ref D), some (.int 1), some (.int ((i + 1 : Nat) : Int)), some (.int (i : Int)), some (V.str (oL one))]) (k := 0) rfl) (by omega))) (show _ = V.bl true from congrArg V.bl (decide_eq_true (by omega))))) (fun _ => a_t (v_eqO (v_ixS (H := H2) (t := t) (i := (i : Int)) (v_var (k := 0) rfl) (v_var (k := 4) rfl) (by omega) (by omega) (by rw [Int.toNat_natCast]; exact hc)) (v_eqv v_c (show V.str _ = V.str (oL [45]) from congrArg V.str (by rfl)))))
            rw [show decide (c = 45) = (true && decide ([c] = [45])) by simp]
            exact han
          · have h3 : c = 45 := of_decide_eq_true h3
            exact s_set (v_neg v_c) ⟨_, i + 1, _, _, _, ow2, by rw [List.length_append]; simp; omega, rfl, .inl ⟨by omega, Nat.le_refl _, e2 _ (by rw [if_pos h3])⟩⟩
          · have h3 : ¬ c = 45 := of_decide_eq_false h3
            exact s_next ⟨_, i + 1, _, _, _, ow2, by rw [List.length_append]; simp; omega, rfl, .inl ⟨by omega, Nat.le_refl _, e2 _ (by rw [if_neg h3])⟩⟩
        · rw [if_neg (of_decide_eq_false h1)] at e
          exact s_next ⟨acc, beg, sg, _, _, ow, by omega, rfl, .inl ⟨by omega, by omega, by rw [take_drop_step hc bi, he]; exact e⟩⟩
      · rw [List.drop_of_length_le hge, termsG] at e
        refine s_ifT (a_or (b := true) (c := true) (a_t (v_eqv (v_eqI (v_var (k := 4) rfl) (v_lenS (v_var (k := 0) rfl) (by omega))) (show _ = V.bl true from congrArg V.bl (decide_eq_true (by omega))))) (fun z => by cases z)) rfl ?_
        refine q_set (cut _) ?_
        refine q_if (a_not (b := okT one) (a_or (a_B (v_call (va_cons (v_var rfl) va_nil) (fun _ q => ⟨_, rfl, by omega, q⟩))) (fun _ => a_or (a_B (v_call (va_cons (v_var rfl) va_nil) (fun _ q => ⟨_, rfl, by omega, q⟩))) (fun _ => a_t (v_eqO (v_var rfl) (v_eqv v_c (show V.str _ = V.str (oL hereL) from congrArg V.str (oL_tl _).symm))))))) (fun h2 => ?_) (fun h2 => ?_)
        · have h2 : okT one = false := (Bool.not_eq_true' _).mp h2
          rw [if_neg (by rw [h2]; exact Bool.false_ne_true)] at e
          refine s_ret v_c (k _ _ ow.mv ow.ok ?_)
          rw [← e]; exact .non
        refine s_next ?_
        have h2 : okT one = true := (Bool.not_eq_false' _).mp h2
        rw [if_pos h2] at e
        refine qx_drop (x_own_app (d := termD (sg, one)) wo ow (v_var rfl) (dv_tup w2 (da_cons (dv_var rfl (.int _)) (da_cons (dv_var rfl (.str _)) da_nil))) (by rw [List.length_map]; omega) (fun H2 ow2 _ => ?_))
        have ow2 : Own K H F W D H2 ((acc ++ [(sg, one)]).map termD) := ow2.re (by rw [List.map_append]; rfl)
        refine q_set (v_eqv (v_add (v_var rfl) v_c) (show _ = V.int ((i + 1 : Nat) : Int) by simp)) ?_
        refine q_set v_c ?_
        refine s_ifF0 (a_and (b := false) (c := true) (a_t (v_eqv (v_lt (v_var (k := 4) rfl) (v_lenS (v_var (k := 0) rfl) (by omega))) (show _ = V.bl false from congrArg V.bl (decide_eq_false (by omega))))) (fun z => by cases z)) rfl ?_
        exact ⟨_, i + 1, _, _, _, ow2, by rw [List.length_append]; simp; omega, rfl, .inr ⟨by omega, by rw [← e]; rfl⟩⟩
    · obtain ⟨acc, beg, sg, y1, y2, ow, al, rfl, ⟨il, bi, e⟩ | ⟨z, e⟩⟩ := pv
      case inl => omega
      exact s_ret (v_var rfl) (k _ _ ow.mv ow.ok (by rw [e]; exact ow.da))

theorem sc_weight_of : FnScope ["found", "names", "amount", "k", "one"] ["found", "names"] (defScope s_weight_of) := ⟨rfl, rfl, rfl, by decide +kernel, rfl, by decide +kernel, by decide +kernel⟩
theorem cal_weight_of (T : Tx K mg) : Cal P w K mg base 1 "weight_of" ["found", "names"] (spDV K (preWeight K)) := by
  refine cal_mk T 3 3 rfl rfl sc_weight_of (fun _ _ _ _ _ _ us hl => match us, hl with | [_, _], _ => rfl) (fun vs H Q E h => ?_) (fun f cdv A outer s H vs Q E hr h => ?_)
  · obtain ⟨F, W, d, wo, ok, ⟨v, fs, a, ss, rfl, hv, hS, hT, hl, fl, rfl⟩, k⟩ := h
    rfl
  · obtain ⟨F, W, d, wo, ok, ⟨v, fs, a, ss, rfl, hv, hS, hT, hl, fl, rfl⟩, k⟩ := h
    refine ⟨_, (pss_cons (ps_set (i := 2) sc_weight_of.nd rfl (Or.inl rfl) pe_int) (pss_cons (ps_for PassesOwn.never rfl (pi_enum (by rfl) (T.free 35) (pa_cons (pv 0) pa_nil)) (pg_tup (by rfl) (pgs_cons (pg_name (i := 3) sc_weight_of.nd rfl (Or.inl rfl)) (pgs_cons (pg_name (i := 4) sc_weight_of.nd rfl (Or.inl rfl)) pgs_nil))) (pss_cons (ps_if (PW.pt (pw_or (pt_cmpR op_notIn_seq (pv 4) (pv 1) (by rfl)) (pw_or1 (pt_cmpR op_in_seq (pv 4) (pe_slice sl_list (pv 0) po_none (po_some (pv 3))) (by rfl))))) (pss_one (ps_ret pe_non)) pss_nil) (pss_one (ps_set (i := 2) sc_weight_of.nd rfl (Or.inl rfl) (pe_op op_add (pv 2) (pe_ix ix_tup (pe_glob (v := .ref (He.ga K "WEIGHTS")) (by rfl) (T.glo 49) rfl) (pe_bm PySem.F.plainAttrs_tuple PySem.F.slot_tuple_index PySem.F.type_tuple_index mt_tup_index (pv 1) (pa_cons (pv 4) pa_nil)) (fun _ _ => rfl))))))) (pss_one (ps_ret (pv 2))))), ?_⟩
    refine q_set v_c ?_
    obtain ⟨b, rfl, hb⟩ := hv.lns
    have hs6 : (ss.map TL.tl).length = 6 := by rw [List.length_map]; exact hl
    refine q_forE (xs := fs.map fun l => V.str (oL l)) (va_cons (v_var rfl) va_nil) hb (fun i σ' H' => Mv F H F H' ∧ Ok F W H' ∧ ∃ amt y1 y2, σ' = [some (.ref b), some (.ref a), some (.int amt), y1, y2] ∧ weightG (ss.map TL.tl) (fs.take i) amt (fs.drop i) = weightL (ss.map TL.tl) fs) ⟨.refl, ok, 0, _, _, rfl, rfl⟩ (fun i σ' H' pv => ?_) (fun i x σ' H' T' hx pv hT' => ?_) (fun σ' H' pv => ?_)
    · obtain ⟨_, e, hq⟩ := (hv.mv pv.1).lns
      cases e; exact hq
    · obtain ⟨m, o, amt, y1, y2, rfl, e⟩ := pv
      rw [List.getElem?_map] at hx
      obtain ⟨t, ht, rfl⟩ := Option.map_eq_some_iff.mp hx
      have m2 := m.trans (.same (smN (o := .tup [V.int (i : Int), V.str (oL t)]) hT'))
      have o2 := o.same wo (smN (o := .tup [V.int (i : Int), V.str (oL t)]) hT')
      generalize upd H' T' (.tup [V.int (i : Int), V.str (oL t)]) = H2 at m2 o2 ⊢
      rw [drop_at ht, weightG] at e
      refine q_ifM (am_or (am_a fun H3 _ _ => a_t (v_notInT (v_var rfl) (v_var rfl) (hS H3))) (fun _ => am_inL (fs := fs.take i) (fun _ _ _ => v_var rfl) ((dv_slLt (ds := fs.map lnD) i wo (dv_var rfl (hv.mv m2)) (pt_s fun _ _ _ => v_var rfl)).eq (by unfold lnsD; rw [List.map_take])))) o2 (fun c H3 m3 o3 => ?_) (fun c H3 m3 o3 => ?_)
      · have c : t ∉ ss.map TL.tl ∨ t ∈ fs.take i := by simpa using c
        rw [if_pos c] at e
        refine s_ret v_c (k _ _ (m2.trans m3) o3 ?_)
        rw [← e]; exact .non
      · have c : ¬ (t ∉ ss.map TL.tl ∨ t ∈ fs.take i) := fun z => by
          have : (!decide (t ∈ ss.map TL.tl) || decide (t ∈ fs.take i)) = true := by simpa using z
          rw [this] at c; cases c
        rw [if_neg c] at e
        have ht1 : t ∈ ss.map TL.tl := by
          by_cases q : t ∈ ss.map TL.tl
          · exact q
          · exact absurd (.inl q) c
        refine s_next ?_
        have hw := idx_eq _ t ht1 hs6
        have hi := (idx_at ht1).2.2
        refine s_set (v_add (v_var rfl) (v_ixTI v_c (v_tidx (v_var rfl) (hT _) (v_var rfl) (hS _) ht1) (show SqT K _ _ (wtsV.map V.int) from T.t_WEIGHTS _) (by omega) (by show _ < (6 : Int); omega))) ?_
        exact ⟨m2.trans m3, o3, _, _, _, rfl, by rw [Int.toNat_natCast, hw.2, List.take_add_one, ht]; exact e⟩
    · obtain ⟨m, o, amt, y1, y2, rfl, e⟩ := pv
      rw [List.length_map, List.take_length, List.drop_length, weightG] at e
      exact s_ret (v_var rfl) (k _ _ m o (by rw [← e]; exact .int _))

end

theorem isNone_terms (o : Option (List (Int × LN))) : isNoneD (oD termsD o) = o.isNone := isNone_oD (fun _ => rfl) o
theorem isNone_deed (o : Option Dd) : isNoneD (oD deedD o) = o.isNone := isNone_oD (fun d => by cases d <;> rfl) o
theorem isNone_w (o : Option Int) : isNoneD (oD PyData.int o) = o.isNone := isNone_oD (fun _ => rfl) o

section
variable {P : Program} {w : World} {K : PySem.W.Frag} {mg : Str → Option Value} {base : Heap}

theorem sc_aimed : FnScope ["kind", "found", "far", "head", "text"] ["kind", "found"] (defScope s_aimed) := ⟨rfl, rfl, rfl, by decide +kernel, rfl, by decide +kernel, by decide +kernel⟩
theorem cal_aimed (T : Tx K mg) : Cal P w K mg base 3 "aimed" ["kind", "found"] (spDV K (preAimed K)) := by
  refine cal_mk T 5 5 rfl rfl sc_aimed (fun _ _ _ _ _ _ us hl => match us, hl with | [_, _], _ => rfl) (fun vs H Q E h => ?_) (fun f cdv A outer s H vs Q E hr h => ?_)
  · obtain ⟨F, W, d, wo, ok, ⟨v, fs, kd, rfl, hv, sm, rfl⟩, k⟩ := h
    rfl
  · obtain ⟨F, W, d, wo, ok, ⟨v, fs, kd, rfl, hv, sm, rfl⟩, k⟩ := h
    refine ⟨_, (pss_cons (ps_set (i := 2) sc_aimed.nd rfl (Or.inl rfl) pe_int) (C8.pss_cut (ps_if (PW.pt (pw_and (pt_truth (pv 1) (by intro _; rfl)) (pw_and1 (pt_cmpR op_eq (pe_ix ix_list (pv 1) pe_int (fun _ _ => rfl)) pe_str (nomark _))))) (pss_cons (ps_set (i := 2) sc_aimed.nd rfl (Or.inl rfl) pe_int) (pss_one (ps_set (i := 1) sc_aimed.nd rfl (Or.inl rfl) (pe_slice sl_list (pv 1) (po_some pe_int) po_none)))) pss_nil) (pss_cons (ps_if (pt_cmpR op_ne (pe_callB call_len_seq (by rfl) (T.free 29) PySem.boot_len (pa_cons (pv 1) pa_nil)) pe_int (nomark _)) (pss_one (ps_ret pe_non)) pss_nil) (pss_cons (ps_set (i := 3) sc_aimed.nd rfl (Or.inl rfl) pe_str) (pss_cons (ps_set (i := 4) sc_aimed.nd rfl (Or.inl rfl) (pe_ix ix_list (pv 1) pe_int (fun _ _ => rfl))) (C8.pss_cut (ps_if (pt_cmpR op_eq (pe_slice sl_str (pv 4) po_none (po_some pe_int)) pe_str (nomark _)) (pss_cons (ps_set (i := 3) sc_aimed.nd rfl (Or.inl rfl) pe_str) (pss_one (ps_set (i := 4) sc_aimed.nd rfl (Or.inl rfl) (pe_slice sl_str (pv 4) (po_some pe_int) po_none)))) pss_nil) (pss_cons (ps_if (pt_cmpR op_isN1 (pe_cal (cal_terms (K := K) T) hr (by decide) rfl (pa_cons (pv 4) pa_nil)) pe_non (nomark _)) (pss_one (ps_ret pe_non)) pss_nil) (pss_one (ps_ret (pe_tup (pa_cons (pv 3) (pa_cons (pe_op op_add (pe_op op_mul pe_int (pv 0)) (pe_op op_mul pe_int (pv 2))) (pa_cons (pe_cal (cal_terms (K := K) T) hr (by decide) rfl (pa_cons (pv 4) pa_nil)) pa_nil))))))))))))), ?_⟩
    refine q_set v_c ?_
    refine q_rel (fun σ' H' => ∃ v' fs' far, σ' = [some (.int kd), some v', some (.int far), none, none] ∧ Mv F H F H' ∧ Ok F W H' ∧ Da K H' F v' (lnsD fs') ∧ smallL fs' ∧ aimedL kd fs = aimG kd far fs') ?_ ?_
    · obtain ⟨b, rfl, hb⟩ := hv.lns
      cases fs with
      | nil =>
        exact s_ifF0 (a_and (b := false) (c := true) (a_tru (v_var rfl) (.inl ⟨_, hb, rfl⟩)) (fun z => by cases z)) rfl ⟨_, [], 0, rfl, .refl, ok, hv, sm, rfl⟩
      | cons f r =>
        have sf := sm.2 f List.mem_cons_self
        refine s_if (a_and (b := true) (a_tru (v_var rfl) (.inl ⟨_, hb, rfl⟩)) (fun _ => a_t (v_eqO (v_ixL (v_var rfl) v_c hb (by decide) rfl) (v_eqv v_c (show V.str _ = V.str (oL farL) from congrArg V.str (oL_tl _).symm))))) (fun c => ?_) (fun c => ?_)
        · have c : f = farL := by simpa using c
          refine q_set v_c ?_
          refine s_d (K := K) (d := lnsD r) ((dv_slLf (ds := (f :: r).map lnD) 1 wo (dv_var rfl hv) (pt_s fun _ _ _ => v_c)).eq rfl) ok (fun v' H' m o hd => ?_)
          exact ⟨_, r, 1, rfl, m, o, hd, sm.tail, by rw [aimedL, if_pos c]⟩
        · have c : ¬ f = farL := by simpa using c
          exact s_next ⟨_, f :: r, 0, rfl, .refl, ok, hv, sm, by rw [aimedL, if_neg c]⟩
    rintro _ H1 ⟨v1, fs1, far, rfl, m1, o1, hv1, sm1, e1⟩
    rw [e1] at k
    obtain ⟨b, rfl, hb⟩ := hv1.lns
    refine q_if (a_t (v_neI (v_lenD hv1 (v_var rfl)) v_c)) (fun c => ?_) (fun c => ?_)
    · refine s_ret v_c (k _ _ m1 o1 ?_)
      rw [aimG_len (by simp at c; omega)]; exact .non
    refine s_next ?_
    have c : fs1.length = 1 := by simp at c; omega
    obtain ⟨t, rfl⟩ : ∃ t, fs1 = [t] := by
      cases fs1 with
      | nil => cases c
      | cons t r => cases r with | nil => exact ⟨t, rfl⟩ | cons => simp at c
    have st := sm1.2 t List.mem_cons_self
    refine q_set v_c ?_
    refine q_set (v_ixL (v_var rfl) v_c hb (by decide) rfl) ?_
    refine q_rel (fun σ' H' => H' = H1 ∧ ∃ (hd : Str) (t' : LN), σ' = [some (.int kd), some (.ref b), some (.int far), some (.str hd), some (.str (oL t'))] ∧ t'.length ≤ 90000 ∧ oD deedD (aimG kd far [t]) = oD (fun ts => .tuple [.str hd, .int (128 * kd + 64 * far), termsD ts]) (termsL t')) ?_ ?_
    · have hs := v_slS (t := t) (lo := none) (hi := some 1) (σ := [some (.int kd), some (.ref b), some (.int far), some (.str "aim"), some (.str (oL t))]) (H := H1) (ta := tVar 4) (tlo := tNoPart) (thi := tPart (tC (.int 1))) (v_var rfl) o_none (o_some v_c) (by omega)
      rw [show cutD t none (some 1) = t.take 1 from cutD_to (j := 1)] at hs
      refine s_if (a_t (v_eqO hs (v_eqv v_c (show V.str _ = V.str (oL [61]) by rfl)))) (fun c => ?_) (fun c => ?_)
      · have c : t.take 1 = [61] := of_decide_eq_true c
        obtain ⟨r, rfl⟩ : ∃ r, t = 61 :: r := by
          cases t with
          | nil => cases c
          | cons x r => exact ⟨r, by rw [(List.cons.inj c).1]⟩
        refine q_set v_c ?_
        have hs := v_slS (t := 61 :: r) (lo := some 1) (hi := none) (σ := [some (.int kd), some (.ref b), some (.int far), some (.str "pool"), some (.str (oL (61 :: r)))]) (H := H1) (ta := tVar 4) (tlo := tPart (tC (.int 1))) (thi := tNoPart) (v_var rfl) (o_some v_c) o_none (by omega)
        rw [show cutD (61 :: r) (some 1) none = r from cutD_from (i := 1)] at hs
        refine s_set hs ⟨rfl, _, r, rfl, by simp at st; omega, ?_⟩
        rw [aimG]
        cases termsL r <;> rfl
      · have c : ¬ t.take 1 = [61] := of_decide_eq_false c
        refine s_next ⟨rfl, _, t, rfl, st, ?_⟩
        have e : aimG kd far [t] = (termsL t).map (Dd.aim (128 * kd + 64 * far)) := by
          unfold aimG
          split
          · rename_i h; cases h
            split
            · exact absurd rfl c
            · rfl
          · rename_i h; exact absurd rfl (h t)
        rw [e]
        cases termsL t <;> rfl
    rintro _ _ ⟨rfl, hd, t', rfl, st', e2⟩
    rw [e2] at k
    have TM := fun (H : Hp) => dv_spW (K := K) (F := F) (W := W) (H := H) (σ := [some (.int kd), some (.ref b), some (.int far), some (.str hd), some (.str (oL t'))]) (tA := tCons (tVar 4) tNil) (pre := preTerms) (d := oD termsD (termsL t')) wo (fun _ _ _ => va_cons (v_var rfl) va_nil) (fun _ _ _ => ⟨t', rfl, by omega, rfl⟩)
    refine q_ifM (am_isN (TM _)) o1 (fun c H2 m2 o2 => ?_) (fun c H2 m2 o2 => ?_)
    · rw [isNone_terms, Option.isNone_iff_eq_none] at c
      refine s_ret v_c (k _ _ (m1.trans m2) o2 ?_)
      rw [c]; exact .non
    refine s_next ?_
    rw [isNone_terms] at c
    obtain ⟨ts, et⟩ : ∃ ts, termsL t' = some ts := by cases h : termsL t' with
      | none => rw [h] at c; cases c
      | some ts => exact ⟨ts, rfl⟩
    rw [et] at k TM
    exact s_retD (K := K) (d := .tuple [.str hd, .int (128 * kd + 64 * far), termsD ts]) (dv_tup wo (da_cons (dv_var rfl (.str _)) (da_cons (dv_i fun _ _ _ => v_add (v_mul v_c (v_var rfl) (.inl ⟨by decide, by decide⟩)) (v_mul v_c (v_var rfl) (.inl ⟨by decide, by decide⟩))) (da_cons (TM _) da_nil)))) o2 (fun v H' m o hd => k v H' ((m1.trans m2).trans m) o hd)

theorem sc_deed_of : FnScope ["found", "head"] ["found"] (defScope s_deed_of) := ⟨rfl, rfl, rfl, by decide +kernel, rfl, by decide +kernel, by decide +kernel⟩
theorem cal_deed_of (T : Tx K mg) : Cal P w K mg base 4 "deed_of" ["found"] (spDV K (preDeed K)) := by
  refine cal_mk T 4 4 rfl rfl sc_deed_of (fun _ _ _ _ _ _ us hl => match us, hl with | [_], _ => rfl) (fun vs H Q E h => ?_) (fun f cdv A outer s H vs Q E hr h => ?_)
  · obtain ⟨F, W, d, wo, ok, ⟨v, fs, rfl, hv, hne, sm, rfl⟩, k⟩ := h
    rfl
  · obtain ⟨F, W, d, wo, ok, ⟨v, fs, rfl, hv, hne, sm, rfl⟩, k⟩ := h
    refine ⟨_, (pss_cons (ps_set (i := 1) sc_deed_of.nd rfl (Or.inl rfl) (pe_ix ix_list (pv 0) pe_int (fun _ _ => rfl))) (pss_cons (ps_if (PW.pt (pw_or (pt_cmpR op_eq (pv 1) pe_str (nomark _)) (pw_or1 (pt_cmpR op_eq (pv 1) pe_str (nomark _))))) (pss_one (ps_if (PW.pt (pw_and (pt_cmpR op_eq (pe_callB call_len_seq (by rfl) (T.free 29) PySem.boot_len (pa_cons (pv 0) pa_nil)) pe_int (nomark _)) (pw_and1 (pt_cmpR op_notN1 (pe_cal (cal_terms (K := K) T) hr (by decide) rfl (pa_cons (pe_ix ix_list (pv 0) pe_int (fun _ _ => rfl)) pa_nil)) pe_non (nomark _))))) (pss_one (ps_ret (pe_tup (pa_cons (pv 1) (pa_cons (pe_cal (cal_terms (K := K) T) hr (by decide) rfl (pa_cons (pe_ix ix_list (pv 0) pe_int (fun _ _ => rfl)) pa_nil)) pa_nil))))) pss_nil)) (pss_one (ps_if (pt_cmpR op_eq (pv 1) pe_str (nomark _)) (pss_one (ps_if (PW.pt (pw_and (pt_cmpR op_eq (pe_callB call_len_seq (by rfl) (T.free 29) PySem.boot_len (pa_cons (pv 0) pa_nil)) pe_int (nomark _)) (pw_and1 (pt_cmpR op_in_seq (pe_ix ix_list (pv 0) pe_int (fun _ _ => rfl)) (pe_glob (v := .ref (He.ga K "ASKS")) (by rfl) (T.glo 46) rfl) (by rfl))))) (pss_one (ps_ret (pe_tup (pa_cons pe_str (pa_cons (pe_op op_add pe_int (pe_bm PySem.F.plainAttrs_tuple PySem.F.slot_tuple_index PySem.F.type_tuple_index mt_tup_index (pe_glob (v := .ref (He.ga K "ASKS")) (by rfl) (T.glo 46) rfl) (pa_cons (pe_ix ix_list (pv 0) pe_int (fun _ _ => rfl)) pa_nil))) pa_nil))))) pss_nil)) (pss_one (ps_if (PW.pt (pw_and (pt_cmpR op_eq (pv 1) pe_str (nomark _)) (pw_and1 (pt_cmpR op_notN1 (pe_cal (cal_weight_of (K := K) T) hr (by decide) rfl (pa_cons (pe_slice sl_list (pv 0) (po_some pe_int) po_none) (pa_cons (pe_glob (v := .ref (He.ga K "CHANGES")) (by rfl) (T.glo 47) rfl) pa_nil))) pe_non (nomark _))))) (pss_one (ps_ret (pe_tup (pa_cons pe_str (pa_cons (pe_op op_add pe_int (pe_cal (cal_weight_of (K := K) T) hr (by decide) rfl (pa_cons (pe_slice sl_list (pv 0) (po_some pe_int) po_none) (pa_cons (pe_glob (v := .ref (He.ga K "CHANGES")) (by rfl) (T.glo 47) rfl) pa_nil)))) pa_nil))))) (pss_one (ps_if (PW.pt (pw_and (pt_cmpR op_eq (pv 1) pe_str (nomark _)) (pw_and1 (pt_cmpR op_notN1 (pe_cal (cal_weight_of (K := K) T) hr (by decide) rfl (pa_cons (pe_slice sl_list (pv 0) (po_some pe_int) po_none) (pa_cons (pe_glob (v := .ref (He.ga K "TESTS")) (by rfl) (T.glo 48) rfl) pa_nil))) pe_non (nomark _))))) (pss_one (ps_ret (pe_tup (pa_cons pe_str (pa_cons (pe_op op_add pe_int (pe_cal (cal_weight_of (K := K) T) hr (by decide) rfl (pa_cons (pe_slice sl_list (pv 0) (po_some pe_int) po_none) (pa_cons (pe_glob (v := .ref (He.ga K "TESTS")) (by rfl) (T.glo 48) rfl) pa_nil)))) pa_nil))))) (pss_one (ps_if (pt_cmpR op_in_seq (pv 1) (pe_glob (v := .ref (He.ga K "KINDS")) (by rfl) (T.glo 45) rfl) (by rfl)) (pss_one (ps_ret (pe_cal (cal_aimed (K := K) T) hr (by decide) rfl (pa_cons (pe_bm PySem.F.plainAttrs_tuple PySem.F.slot_tuple_index PySem.F.type_tuple_index mt_tup_index (pe_glob (v := .ref (He.ga K "KINDS")) (by rfl) (T.glo 45) rfl) (pa_cons (pv 1) pa_nil)) (pa_cons (pe_slice sl_list (pv 0) (po_some pe_int) po_none) pa_nil))))) pss_nil))))))))) (pss_one (ps_ret pe_non)))), ?_⟩
    obtain ⟨b, rfl, hb⟩ := hv.lns
    cases fs with
    | nil => exact absurd rfl hne
    | cons h r =>
    refine q_set (v_ixL (v_var rfl) v_c hb (by decide) rfl) ?_
    have len2 : ∀ H1, Mv F H F H1 → Val _ [some (.ref b), some (.str (oL h))] H1 (.bl (decide ((((h :: r).map lnD).length : Int) = 2))) := fun H1 m => v_eqI (v_lenD (hv.mv m) (v_var (k := 0) rfl)) v_c
    have notwo : r.length ≠ 1 → decide ((((h :: r).map lnD).length : Int) = 2) = false := fun z => decide_eq_false (by rw [List.length_map, List.length_cons]; omega)
    refine q_if (b := decide (h = placeL ∨ h = wordL)) (by rw [Bool.decide_or]; exact a_or (a_t (v_eqO (v_var rfl) (v_eqv v_c (show V.str _ = V.str (oL placeL) from congrArg V.str (oL_tl _).symm)))) (fun _ => a_t (v_eqO (v_var rfl) (v_eqv v_c (show V.str _ = V.str (oL wordL) from congrArg V.str (oL_tl _).symm))))) (fun c1 => ?_) (fun c1 => ?_)
    · have c1 : h = placeL ∨ h = wordL := of_decide_eq_true c1
      by_cases lr : r.length = 1
      case neg =>
        have ed : deedL (h :: r) = none := by
          rw [deedL, deedC, if_pos c1, one1_none lr]
        refine s_ifM (b := false) (am_and (b := false) (c := true) (am_a fun H1 m1 _ => a_t (v_eqv (len2 H1 m1) (congrArg V.bl (notwo lr)))) (fun z => by cases z)) ok (fun z => by cases z) (fun _ H2 m2 o2 => s_next (s_ret v_c (k _ _ m2 o2 ?_)))
        rw [ed]; exact .non
      obtain ⟨t, rfl⟩ : ∃ t, r = [t] := by
        cases r with
        | nil => cases lr
        | cons t1 r1 =>
          cases r1 with
          | nil => exact ⟨t1, rfl⟩
          | cons t2 r2 => simp at lr
      have st := sm.2 t (by simp)
      have ed : deedL (h :: [t]) = (termsL t).map (if h = placeL then Dd.place else Dd.word) := by rw [deedL, deedC, if_pos c1]; rfl
      have TM := fun (H1 : Hp) (mm : Mv F H F H1) => dv_spW (K := K) (F := F) (W := W) (H := H1) (σ := [some (.ref b), some (.str (oL h))]) (tA := tCons (tOp (rIxL K) (tVar 0) (tC (.int 1))) tNil) (pre := preTerms) (d := oD termsD (termsL t)) wo (fun H2 m2 _ => va_cons (v_ixL (v_var (k := 0) rfl) v_c (by obtain ⟨b', e, hq⟩ := ((hv.mv mm).mv m2).lns; cases e; exact hq) (by decide) rfl) va_nil) (fun _ _ _ => ⟨t, rfl, st, rfl⟩)
      refine s_ifM (am_and (am_a fun H1 m1 _ => a_t (len2 H1 m1)) (fun _ => am_notN (TM H .refl))) ok (fun c H2 m2 o2 => ?_) (fun c H2 m2 o2 => ?_)
      · have c2 : (termsL t).isNone = false := by
          rw [isNone_terms, Bool.and_eq_true] at c
          exact (Bool.not_eq_true' _).mp c.2
        obtain ⟨ts, et⟩ : ∃ ts, termsL t = some ts := by cases z : termsL t with
          | none => rw [z] at c2; cases c2
          | some ts => exact ⟨ts, rfl⟩
        rw [ed, et] at k
        rw [et] at TM
        refine s_retD (K := K) (d := .tuple [.str (oL h), termsD ts]) (dv_tup wo (da_cons (dv_var rfl (.str _)) (da_cons (TM H2 m2) da_nil))) o2 (fun v H' m o hd => k v H' (m2.trans m) o ?_)
        rcases c1 with rfl | rfl
        · exact hd
        · exact hd
      · have c2 : (termsL t).isNone = true := by
          rw [isNone_terms] at c
          cases z : (termsL t).isNone with
          | true => rfl
          | false => rw [z] at c; simp at c
        refine s_next (s_ret v_c (k _ _ m2 o2 ?_))
        rw [ed, Option.isNone_iff_eq_none.mp c2]; exact .non
    have c1 : ¬ (h = placeL ∨ h = wordL) := of_decide_eq_false c1
    refine s_if (a_t (v_eqO (v_var rfl) (v_eqv v_c (show V.str _ = V.str (oL askL) from congrArg V.str (oL_tl _).symm)))) (fun c2 => ?_) (fun c2 => ?_)
    · have c2 : h = askL := of_decide_eq_true c2
      by_cases lr : r.length = 1
      case neg =>
        have ed : deedL (h :: r) = none := by
          rw [deedL, deedC, if_neg c1, if_pos c2, one1_none lr]
        refine s_ifF0 (a_and (b := false) (c := true) (a_t (v_eqv (len2 H .refl) (congrArg V.bl (notwo lr)))) (fun z => by cases z)) rfl (s_ret v_c (k _ _ .refl ok ?_))
        rw [ed]; exact .non
      obtain ⟨t, rfl⟩ : ∃ t, r = [t] := by
        cases r with
        | nil => cases lr
        | cons t1 r1 =>
          cases r1 with
          | nil => exact ⟨t1, rfl⟩
          | cons t2 r2 => simp at lr
      have ix : Val (tOp (rIxL K) (tVar 0) (tC (.int 1))) [some (.ref b), some (.str (oL h))] H (.str (oL t)) := v_ixL (v_var (k := 0) rfl) v_c hb (by decide) rfl
      refine s_if (a_and (a_t (len2 H .refl)) (fun _ => a_t (v_inT ix v_c (show SqT K _ _ (asksS.map V.str) from T.t_ASKS _)))) (fun c => ?_) (fun c => ?_)
      · have c3 : t ∈ asksN := by rw [Bool.and_eq_true] at c; exact of_decide_eq_true c.2
        have ed : deedL (h :: [t]) = some (.made (768 + (asksN.idxOf t : Nat))) := by rw [deedL, deedC, if_neg c1, if_pos c2]; exact if_pos c3
        rw [ed] at k
        exact s_retD (K := K) (d := .tuple [.str "made", .int (768 + (asksN.idxOf t : Nat))]) (dv_tup wo (da_cons dv_s (da_cons (dv_i fun H2 m2 _ => v_add v_c (v_tidx v_c (T.n_ASKS _) (v_ixL (v_var (k := 0) rfl) v_c (by obtain ⟨b', e, hq⟩ := (hv.mv m2).lns; cases e; exact hq) (by decide) rfl) (show SqT K _ _ (asksS.map V.str) from T.t_ASKS _) c3)) da_nil))) ok k
      · have c3 : ¬ t ∈ asksN := fun z => by rw [show decide ((((h :: [t]).map lnD).length : Int) = 2) = true from rfl, Bool.true_and] at c; exact of_decide_eq_false c z
        have ed : deedL (h :: [t]) = none := by rw [deedL, deedC, if_neg c1, if_pos c2]; exact if_neg c3
        refine s_next (s_ret v_c (k _ _ .refl ok ?_))
        rw [ed]; exact .non
    have c2 : ¬ h = askL := of_decide_eq_false c2
    have mm : Mv F H F H := .refl
    refine s_ifM (am_and (am_a fun _ _ _ => a_t (v_eqO (v_var (k := 1) rfl) (v_eqv v_c (show V.str _ = V.str (oL changeL) from congrArg V.str (oL_tl _).symm)))) (fun _ => am_notN (dv_spA (σ := [some (.ref b), some (.str (oL h))]) (H := H) (d := oD PyData.int (weightL (chgS.map TL.tl) r)) wo ((dv_slLf (ds := (h :: r).map lnD) 1 wo (dv_var (k := 0) rfl (hv.mv mm)) (pt_s fun _ _ _ => v_c)).eq (show _ = lnsD r from rfl)) (fun _ _ _ => v_c) (fun v H1 m1 o1 hd => ⟨v, r, _, chgS, rfl, hd, fun H' => T.t_CHANGES H', fun H' => T.n_CHANGES H', by decide, sm.tail.1, rfl⟩)))) ok (fun c H1 mm o1 => ?_) (fun c H1 mm o1 => ?_)
    · rw [isNone_w, Bool.and_eq_true] at c
      obtain ⟨w, ew⟩ : ∃ w, weightL chgN r = some w := by cases z : weightL chgN r with
        | none => have := c.2; unfold chgN at z; rw [z] at this; cases this
        | some w => exact ⟨w, rfl⟩
      have ed : deedL (h :: r) = some (.made (896 + w)) := by rw [deedL, deedC, if_neg c1, if_neg c2, if_pos ⟨of_decide_eq_true c.1, by rw [ew]; rfl⟩, ew]; rfl
      rw [ed] at k
      exact s_retD (K := K) (d := .tuple [.str "made", .int (896 + w)]) (dv_tup wo (da_cons dv_s (da_cons (dv_add dv_k (Dv.eq (dv_spA (σ := [some (.ref b), some (.str (oL h))]) (H := H1) (d := oD PyData.int (weightL (chgS.map TL.tl) r)) wo ((dv_slLf (ds := (h :: r).map lnD) 1 wo (dv_var (k := 0) rfl (hv.mv mm)) (pt_s fun _ _ _ => v_c)).eq (show _ = lnsD r from rfl)) (fun _ _ _ => v_c) (fun v H1 m1 o1 hd => ⟨v, r, _, chgS, rfl, hd, fun H' => T.t_CHANGES H', fun H' => T.n_CHANGES H', by decide, sm.tail.1, rfl⟩)) (by show oD PyData.int (weightL chgN r) = _; rw [ew]; rfl))) da_nil))) o1 (fun v H' m o hd => k v H' (mm.trans m) o hd)
    have c3 : ¬ (h = changeL ∧ (weightL chgN r).isSome = true) := fun z => by
      rw [isNone_w, decide_eq_true z.1, Bool.true_and] at c
      have := z.2
      unfold chgN at this
      cases q : weightL (chgS.map TL.tl) r with
      | none => rw [q] at this; cases this
      | some w => rw [q] at c; cases c
    have mm0 := mm
    refine s_ifM (am_and (am_a fun _ _ _ => a_t (v_eqO (v_var (k := 1) rfl) (v_eqv v_c (show V.str _ = V.str (oL testL) from congrArg V.str (oL_tl _).symm)))) (fun _ => am_notN (dv_spA (σ := [some (.ref b), some (.str (oL h))]) (H := H1) (d := oD PyData.int (weightL (tstS.map TL.tl) r)) wo ((dv_slLf (ds := (h :: r).map lnD) 1 wo (dv_var (k := 0) rfl (hv.mv mm)) (pt_s fun _ _ _ => v_c)).eq (show _ = lnsD r from rfl)) (fun _ _ _ => v_c) (fun v H1 m1 o1 hd => ⟨v, r, _, tstS, rfl, hd, fun H' => T.t_TESTS H', fun H' => T.n_TESTS H', by decide, sm.tail.1, rfl⟩)))) o1 (fun c H1 m1 o1 => ?_) (fun c H1 m1 o1 => ?_)
    · replace mm := mm0.trans m1
      rw [isNone_w, Bool.and_eq_true] at c
      obtain ⟨w, ew⟩ : ∃ w, weightL tstN r = some w := by cases z : weightL tstN r with
        | none => have := c.2; unfold tstN at z; rw [z] at this; cases this
        | some w => exact ⟨w, rfl⟩
      have ed : deedL (h :: r) = some (.made (960 + w)) := by rw [deedL, deedC, if_neg c1, if_neg c2, if_neg c3, if_pos ⟨of_decide_eq_true c.1, by rw [ew]; rfl⟩, ew]; rfl
      rw [ed] at k
      exact s_retD (K := K) (d := .tuple [.str "made", .int (960 + w)]) (dv_tup wo (da_cons dv_s (da_cons (dv_add dv_k (Dv.eq (dv_spA (σ := [some (.ref b), some (.str (oL h))]) (H := H1) (d := oD PyData.int (weightL (tstS.map TL.tl) r)) wo ((dv_slLf (ds := (h :: r).map lnD) 1 wo (dv_var (k := 0) rfl (hv.mv mm)) (pt_s fun _ _ _ => v_c)).eq (show _ = lnsD r from rfl)) (fun _ _ _ => v_c) (fun v H1 m1 o1 hd => ⟨v, r, _, tstS, rfl, hd, fun H' => T.t_TESTS H', fun H' => T.n_TESTS H', by decide, sm.tail.1, rfl⟩)) (by show oD PyData.int (weightL tstN r) = _; rw [ew]; rfl))) da_nil))) o1 (fun v H' m o hd => k v H' (mm.trans m) o hd)
    replace mm := mm0.trans m1
    have c4 : ¬ (h = testL ∧ (weightL tstN r).isSome = true) := fun z => by
      rw [isNone_w, decide_eq_true z.1, Bool.true_and] at c
      have := z.2
      unfold tstN at this
      cases q : weightL (tstS.map TL.tl) r with
      | none => rw [q] at this; cases this
      | some w => rw [q] at c; cases c
    refine s_if (a_t (v_inT (v_var rfl) v_c (show SqT K _ _ (kindsS.map V.str) from T.t_KINDS _))) (fun c5 => ?_) (fun c5 => ?_)
    · have c5 : h ∈ kindsN := of_decide_eq_true c5
      have ed : deedL (h :: r) = aimedL (kindsN.idxOf h : Nat) r := by rw [deedL, deedC, if_neg c1, if_neg c2, if_neg c3, if_neg c4, if_pos c5]
      rw [ed] at k
      exact s_retD (K := K) (d := oD deedD (aimedL (kindsN.idxOf h : Nat) r)) (dv_spB wo (fun _ _ _ => v_tidx v_c (T.n_KINDS _) (v_var (k := 1) rfl) (show SqT K _ _ (kindsS.map V.str) from T.t_KINDS _) c5) ((dv_slLf (ds := (h :: r).map lnD) 1 wo (dv_var (k := 0) rfl (hv.mv mm)) (pt_s fun _ _ _ => v_c)).eq (show _ = lnsD r from rfl)) (fun v H1 m1 o1 hd => ⟨v, r, _, rfl, hd, sm.tail, rfl⟩)) o1 (fun v H' m o hd => k v H' (mm.trans m) o hd)
    · have c5 : ¬ h ∈ kindsN := of_decide_eq_false c5
      have ed : deedL (h :: r) = none := by rw [deedL, deedC, if_neg c1, if_neg c2, if_neg c3, if_neg c4, if_neg c5]
      refine s_next (s_ret v_c (k _ _ mm o1 ?_))
      rw [ed]; exact .non

theorem sc_read : FnScope ["line", "found", "label", "deed", "one"] ["line"] (defScope s_read) := ⟨rfl, rfl, rfl, by decide +kernel, rfl, by decide +kernel, by decide +kernel⟩
theorem cal_read (T : Tx K mg) : Cal P w K mg base 5 "read" ["line"] (spDV K preRead) := by
  refine cal_mk T 6 6 rfl rfl sc_read (fun _ _ _ _ _ _ us hl => match us, hl with | [_], _ => rfl) (fun vs H Q E h => ?_) (fun f cdv A outer s H vs Q E hr h => ?_)
  · obtain ⟨F, W, d, wo, ok, ⟨t, rfl, tl, rfl⟩, k⟩ := h
    rfl
  · obtain ⟨F, W, d, wo, ok, ⟨t, rfl, tl, rfl⟩, k⟩ := h
    refine ⟨_, (pss_cons (ps_setLc (i := 1) (own := [("one", 4)]) (g := gName 4)  rfl sc_read.nd rfl rfl (sw_true rfl rfl rfl (by decide +kernel)) (pi_list (pe_split (pe_ix ix_list (pe_split (pv 0) pe_str) pe_int (fun _ _ => rfl)) pe_str)) (blkOk_by (own := [("one", 4)]) (N := ["line", "found", "label", "deed", "one"]) (sc := defScope s_read) (by decide +kernel)) (fun _ _ _ _ _ => pg_name (i := 4) sc_read.nd rfl (Or.inl rfl)) (fun _ _ _ _ _ => (pts_one (pt_cmpR op_ne (pv 4) pe_str (nomark _)))) (fun _ _ _ _ _ => (pv 4))) (pss_cons (ps_set (i := 2) sc_read.nd rfl (Or.inl rfl) pe_non) (C8.pss_cut (ps_if (PW.pt (pw_and (pt_truth (pv 1) (by intro _; rfl)) (pw_and1 (pt_cmpR op_eq (pe_slice sl_str (pe_ix ix_list (pv 1) pe_int (fun _ _ => rfl)) (po_some (pe_un un_neg pe_int)) po_none) pe_str (nomark _))))) (pss_cons (ps_set (i := 2) sc_read.nd rfl (Or.inl rfl) (pe_slice sl_str (pe_ix ix_list (pv 1) pe_int (fun _ _ => rfl)) po_none (po_some (pe_un un_neg pe_int)))) (pss_cons (ps_set (i := 1) sc_read.nd rfl (Or.inl rfl) (pe_slice sl_list (pv 1) (po_some pe_int) po_none)) (pss_one (ps_if (pt_not (pt_val (pe_cal (cal_is_name (K := K) T) hr (by decide) rfl (pa_cons (pv 2) pa_nil)))) (pss_one (ps_ret pe_non)) pss_nil)))) pss_nil) (pss_cons (ps_if (pt_not (pt_truth (pv 1) (by intro _; rfl))) (pss_one (ps_ret (pe_tup (pa_cons (pv 2) (pa_cons pe_non pa_nil))))) pss_nil) (pss_cons (ps_set (i := 3) sc_read.nd rfl (Or.inl rfl) (pe_cal (cal_deed_of (K := K) T) hr (by decide) rfl (pa_cons (pv 1) pa_nil))) (pss_cons (ps_if (pt_cmpR op_isN1 (pv 3) pe_non (nomark _)) (pss_one (ps_ret pe_non)) pss_nil) (pss_one (ps_ret (pe_tup (pa_cons (pv 2) (pa_cons (pv 3) pa_nil))))))))))), ?_⟩
    obtain ⟨h0, r0, e0⟩ : ∃ h0 r0, cutAt 59 t = h0 :: r0 := by cases z : cutAt 59 t with
      | nil => exact absurd z (cutAt_ne 59 t)
      | cons a b => exact ⟨a, b, rfl⟩
    have hl0 : h0.length ≤ t.length := cutAt_len 59 t h0 (by rw [e0]; exact List.mem_cons_self)
    have hp : piecesL t = (cutAt 32 h0).filter fun p => !p.isEmpty := by unfold piecesL; rw [e0]; rfl
    have sm : smallL (piecesL t) := by
      rw [hp]
      have := cutAt_many 32 h0
      refine ⟨Nat.le_trans (List.length_filter_le _ _) (by omega), fun l hl => ?_⟩
      have := cutAt_len 32 h0 l (List.mem_filter.mp hl).1
      omega
    refine q_d (K := K) (d := lnsD (piecesL t)) ((DvN.dv (dn_lcG (cutAt 32 h0) lnD (fun l => !l.isEmpty) lnD wo ((dn_split wo (dv_ixL (d := .str (oL h0)) (dn_split (t := t) (c := 59) wo (dv_var rfl (.str _)) rfl (by decide) (by omega)).dv (fun _ _ _ => v_c) (by decide) (by rw [e0]; rfl)) rfl (by decide) (by omega)).dv) (by have := cutAt_many 32 h0; omega) (fun _ => rfl) (fun i x l H1 F1 W1 tn hi hx => by
      cases hx
      exact (am_a fun _ _ _ => a_t (v_neO (v_var rfl) (v_eqv v_c (show V.str _ = V.str (oL ([] : LN)) by rfl)))).eq (by cases l <;> rfl)) (fun i x l H1 F1 W1 tn hi hx _ => dv_var rfl hx))).eq (by rw [hp]; rfl)) ok (fun v H1 m1 o1 hv => ?_)
    refine q_set v_c ?_
    have er : readL t = readP (piecesL t) := rfl
    generalize piecesL t = ps at hv sm er
    rw [er] at k
    clear er hp
    obtain ⟨b, rfl, hb⟩ := hv.lns
    refine q_rel (fun σ' H' => ∃ v' lab rest, σ' = [some (.str (oL t)), some v', some (labV lab), none, none] ∧ Mv F H F H' ∧ Ok F W H' ∧ Da K H' F v' (lnsD rest) ∧ smallL rest ∧ readP ps = restL lab rest) ?_ ?_
    · cases ps with
      | nil =>
        exact s_ifF0 (a_and (b := false) (c := true) (a_tru (v_var rfl) (.inl ⟨_, hb, rfl⟩)) (fun z => by cases z)) rfl ⟨_, none, [], rfl, m1, o1, hv, sm, rfl⟩
      | cons f r =>
        have sf := sm.2 f List.mem_cons_self
        have ix : ∀ y1 y2 y3, Val (tOp (rIxL K) (tVar 1) (tC (.int 0))) [some (.str (oL t)), some (.ref b), y1, y2, y3] H1 (.str (oL f)) := fun _ _ _ => v_ixL (v_var rfl) v_c hb (by decide) rfl
        refine s_if (b := decide (f.getLast? = some 58)) ?_ (fun c => ?_) (fun c => ?_)
        · have ha := a_and (b := true) (a_tru (K := K) (ta := tVar 1) (σ := [some (.str (oL t)), some (.ref b), some V.non, none, none]) (H := H1) (v_var rfl) (.inl ⟨_, hb, rfl⟩)) (fun _ => a_t (v_eqO (v_slS (lo := some (-1)) (hi := none) (ix (some V.non) none none) (o_some (v_neg v_c)) o_none (by omega)) (v_eqv v_c (show V.str _ = V.str (oL [58]) by rfl))))
          cases hf : f with
          | nil =>
            subst hf
            exact ha
          | cons x y =>
            rw [← hf]
            have hn : f ≠ [] := by rw [hf]; simp
            rw [cut_last hn] at ha
            rw [show decide (f.getLast? = some 58) = (true && decide (f.drop (f.length - 1) = [58])) by rw [Bool.true_and]; exact decide_eq_decide.mpr (last_eq hn 58).symm]
            exact ha
        · have c : f.getLast? = some 58 := of_decide_eq_true c
          have eR : readP (f :: r) = if isNameL f.dropLast = true then restL (some f.dropLast) r else none := by rw [readP, if_pos c]
          have hs := v_slS (lo := none) (hi := some (-1)) (ix (some V.non) none none) o_none (o_some (v_neg v_c)) (by omega)
          rw [cut_init] at hs
          refine q_set hs ?_
          refine q_d (K := K) (d := lnsD r) ((dv_slLf (ds := (f :: r).map lnD) 1 wo (dv_var rfl hv) (pt_s fun _ _ _ => v_c)).eq rfl) o1 (fun v2 H2 m2 o2 hv2 => ?_)
          refine s_if (a_not (a_B (v_call (va_cons (v_var rfl) va_nil) (fun _ q => ⟨f.dropLast, rfl, by rw [List.length_dropLast]; omega, q⟩)))) (fun c2 => ?_) (fun c2 => ?_)
          · have c2 : isNameL f.dropLast = false := (Bool.not_eq_true' _).mp c2
            refine s_ret v_c (k _ _ (m1.trans m2) o2 ?_)
            rw [eR, if_neg (by rw [c2]; exact Bool.false_ne_true)]; exact .non
          · have c2 : isNameL f.dropLast = true := (Bool.not_eq_false' _).mp c2
            exact s_next ⟨v2, some f.dropLast, r, rfl, m1.trans m2, o2, hv2, sm.tail, by rw [eR, if_pos c2]⟩
        · have c : ¬ f.getLast? = some 58 := of_decide_eq_false c
          refine s_next ⟨_, none, f :: r, rfl, m1, o1, hv, sm, ?_⟩
          rw [readP, if_neg c]
    rintro _ H2 ⟨v2, lab, rest, rfl, m2, o2, hv2, sm2, e2⟩
    rw [e2] at k
    obtain ⟨b2, rfl, hb2⟩ := hv2.lns
    cases rest with
    | nil =>
      refine q_ifT (a_not (b := false) (a_tru (v_var rfl) (.inl ⟨_, hb2, rfl⟩))) rfl ?_
      exact s_retD (K := K) (d := readD (lab, none)) (dv_tup wo (da_cons (dv_var rfl (da_lab lab)) (da_cons (dv_c .non) da_nil))) o2 (fun v H' m o hd => k v H' (m2.trans m) o hd)
    | cons f r =>
      refine q_ifF0 (a_not (b := true) (a_tru (v_var rfl) (.inl ⟨_, hb2, rfl⟩))) rfl ?_
      refine q_d (K := K) (d := oD deedD (deedL (f :: r))) (dv_spW wo (fun _ _ _ => va_cons (v_var rfl) va_nil) (fun _ m3 _ => ⟨_, f :: r, rfl, hv2.mv m3, by simp, sm2, rfl⟩)) o2 (fun v3 H3 m3 o3 hv3 => ?_)
      refine q_if (b := (deedL (f :: r)).isNone) (a_t (v_eqv (v_isN (v_var rfl) v_c) (congrArg V.bl (by rw [isNone_da hv3, isNone_deed])))) (fun c => ?_) (fun c => ?_)
      · refine s_ret v_c (k _ _ (m2.trans m3) o3 ?_)
        show Da K H3 F _ (oD readD ((deedL (f :: r)).map fun d => (lab, some d)))
        rw [Option.isNone_iff_eq_none.mp c]; exact .non
      refine s_next ?_
      obtain ⟨dd, ed⟩ : ∃ dd, deedL (f :: r) = some dd := by cases z : deedL (f :: r) with
        | none => rw [z] at c; cases c
        | some ts => exact ⟨ts, rfl⟩
      rw [ed] at hv3
      replace k : ∀ v H', Mv F H F H' → Ok F W H' → Da K H' F v (readD (lab, some dd)) → Q v H' := fun v H' m o hd => k v H' m o (by show Da K H' F v (oD readD ((deedL (f :: r)).map fun d => (lab, some d))); rw [ed]; exact hd)
      exact s_retD (K := K) (d := readD (lab, some dd)) (dv_tup wo (da_cons (dv_var rfl (da_lab lab)) (da_cons (dv_var rfl hv3) da_nil))) o3 (fun v H' m o hd => k v H' ((m2.trans m3).trans m) o hd)
end
/-! ### labels, cells as dicts; promises of the goings over -/
def labK (ls : Lab) : List (Key × V) := ls.map fun q => (Sum.inr (oL q.1), V.int q.2)
def madeK (m : Made) : List (Key × V) := m.map fun q => (Sum.inl q.1, V.int q.2)
theorem valV_lab (x : LN) : ∀ ls : Lab, valV (labK ls) (Sum.inr (oL x)) = (labGet ls x).map V.int
  | [] => rfl
  | q :: r => by
    have ih := valV_lab x r
    unfold labK at ih ⊢
    rw [List.map_cons]
    by_cases h : q.1 = x
    · rw [valV_pos (by show Sum.inr (oL q.1) = Sum.inr (oL x); rw [h])]
      unfold labGet
      rw [List.find?_cons, decide_eq_true h]; rfl
    · rw [valV_neg (fun e => h (SX.S_inj (Sum.inr.inj e))), ih]
      unfold labGet
      rw [List.find?_cons, decide_eq_false h]
theorem valV_made (x : Int) : ∀ m : Made, valV (madeK m) (Sum.inl x) = (madeGet m x).map V.int
  | [] => rfl
  | q :: r => by
    have ih := valV_made x r
    unfold madeK at ih ⊢
    rw [List.map_cons]
    by_cases h : q.1 = x
    · rw [valV_pos (by show Sum.inl q.1 = Sum.inl x; rw [h])]
      unfold madeGet
      rw [List.find?_cons, decide_eq_true h]; rfl
    · rw [valV_neg (fun e => h (Sum.inl.inj e)), ih]
      unfold madeGet
      rw [List.find?_cons, decide_eq_false h]
theorem putK_new {κ : Type} [DecidableEq κ] {kvs : List (κ × V)} {k : κ} {v : V} (h : valV kvs k = none) : putK kvs k v = kvs ++ [(k, v)] := by
  unfold putK
  rw [valV_any, h]; rfl
theorem labK_put {ls : Lab} {x : LN} {a : Int} (h : labGet ls x = none) : putK (labK ls) (Sum.inr (oL x)) (.int a) = labK (ls ++ [(x, a)]) := by
  rw [putK_new (by rw [valV_lab, h]; rfl)]
  unfold labK; rw [List.map_append]; rfl
theorem madeK_put {m : Made} {x a : Int} (h : madeGet m x = none) : putK (madeK m) (Sum.inl x) (.int a) = madeK (m ++ [(x, a)]) := by
  rw [putK_new (by rw [valV_made, h]; rfl)]
  unfold madeK; rw [List.map_append]; rfl
def okTs (ts : List (Int × LN)) : Prop := ∀ q ∈ ts, (q.1 = 1 ∨ q.1 = -1) ∧ q.2.length ≤ 90000
theorem num_int {t : LN} (h : isNumL t = true) : PySem.intText? (oL t) = some (numV t) ∧ (oL t).length ≤ 640 := by
  unfold isNumL at h
  rw [Bool.and_eq_true] at h
  have hl := of_decide_eq_true h.1
  refine ⟨SX.int_S (List.all_eq_true.mpr fun c hc => ?_) (fun e => by rw [e] at hl; simp at hl) (by omega), by rw [SX.S_len]; omega⟩
  have hd := of_decide_eq_true (List.all_eq_true.mp h.2 c hc)
  exact (show ∀ c ∈ digL, (decide (48 ≤ c) && decide (c ≤ 57)) = true by decide) c hd
def spAmount (K : PySem.W.Frag) : Sp := fun vs H Q _ => ∃ (v : V) (L : Addr) (here k : Int) (ts : List (Int × LN)) (ls : Lab) (a : Int) (F : FS), vs = [v, .ref L, .int here, .int k] ∧ Da K H F v (termsD ts) ∧ okTs ts ∧ H L = some (.dK (labK ls)) ∧ amountL ls here 0 ts = some a ∧ Q (.int a) H
def spWithin : Sp := fun vs H Q _ => ∃ a m k : Int, vs = [.int a, .int m, .int k] ∧ 0 ≤ a ∧ a ≤ m ∧ Q (.int a) H
def spTold : Sp := fun vs H Q _ => ∃ (L : Addr) (l : Option LN) (a : Int) (k : Nat) (ls ls' : Lab) (kk : Int), vs = [.ref L, labV l, .int a, .int kk] ∧ H L = some (.dK (labK ls)) ∧ ls.length ≤ 90000 ∧ tellL ls l a k = .ok ls' ∧ Q .non (upd H L (.dK (labK ls')))
def spMake : Sp := fun vs H Q _ => ∃ (M : Addr) (a n kk : Int) (k : Nat) (m m' : Made), vs = [.ref M, .int a, .int n, .int kk] ∧ H M = some (.dK (madeK m)) ∧ m.length ≤ 90000 ∧ makeL m a n k = .ok m' ∧ Q .non (upd H M (.dK (madeK m')))
def spPool : Sp := fun vs H Q _ => ∃ (M P : Addr) (n kk : Int) (k : Nat) (m : Made) (pool : List Int) (r : Made × List Int × Int), vs = [.ref M, .ref P, .int n, .int kk] ∧ M ≠ P ∧ H M = some (.dK (madeK m)) ∧ H P = some (.lst (pool.map V.int)) ∧ m.length ≤ 80000 ∧ pool.length ≤ 80000 ∧ poolL m pool n k = .ok r ∧ Q (.int r.2.2) (upd (upd H M (.dK (madeK r.1))) P (.lst (r.2.1.map V.int)))
theorem upd_id {H : Hp} {a : Addr} {o : HO} (h : H a = some o) : upd H a o = H := by
  funext b
  by_cases e : b = a
  · subst e; rw [upd_same, h]
  · rw [upd_ne e]
section
variable {σ : L2.St} {H : Hp} {K : PySem.W.Frag} {a : Addr} {tl ta tb : TE} {tb' tz : TS} {N : L2.St → Hp → Prop} {R : VK} {B C' : L2.St → Hp → Prop} {k j : Nat} {xs : List V} {x : LN} {L : Addr} {ls : Lab} {m : Made} {i : Int}
/-- for u, w in a list of pairs -/
theorem s_forP (h : Val tl σ H (.ref a)) (hx : SqL K H a xs) (Pv : Nat → L2.St → Hp → Prop) (h0 : Pv 0 σ H) (hl : ∀ (i : Nat) σ' H', Pv i σ' H' → SqL K H' a xs)
    (hs : ∀ (i : Nat) x σ' H', xs[i]? = some x → Pv i σ' H' → ∃ T u w, x = .ref T ∧ SqT K H' T [u, w] ∧ tb' ⟨Pv (i + 1), R, N, Pv (i + 1)⟩ ((σ'.set k (some u)).set j (some w)) H') (hd : ∀ σ' H', Pv xs.length σ' H' → N σ' H') : tFor (iList K tl) (gTup K 2 (gCons (gName k) (gCons (gName j) gNil))) tb' ⟨N, R, B, C'⟩ σ H :=
  h _ ⟨a, rfl, ⟨xs, hx⟩, for_list (xs := xs) (D := ⟨N, R, B, C'⟩) Pv h0 (fun i σ' H' _ p => hl i σ' H' p) (fun i x σ' H' hi p => by
    obtain ⟨T, u, w, rfl, hT, b⟩ := hs i x σ' H' hi p
    exact ⟨T, _, rfl, hT, rfl, _, _, rfl, _, _, rfl, rfl, b⟩) hd⟩
theorem q_forP (h : Val tl σ H (.ref a)) (hx : SqL K H a xs) (Pv : Nat → L2.St → Hp → Prop) (h0 : Pv 0 σ H) (hl : ∀ (i : Nat) σ' H', Pv i σ' H' → SqL K H' a xs)
    (hs : ∀ (i : Nat) x σ' H', xs[i]? = some x → Pv i σ' H' → ∃ T u w, x = .ref T ∧ SqT K H' T [u, w] ∧ tb' ⟨Pv (i + 1), R, tz ⟨N, R, B, C'⟩, Pv (i + 1)⟩ ((σ'.set k (some u)).set j (some w)) H') (hd : ∀ σ' H', Pv xs.length σ' H' → tz ⟨N, R, B, C'⟩ σ' H') : tSeq (tFor (iList K tl) (gTup K 2 (gCons (gName k) (gCons (gName j) gNil))) tb') tz ⟨N, R, B, C'⟩ σ H :=
  s_forP (N := tz ⟨N, R, B, C'⟩) (B := B) (C' := C') h hx Pv h0 hl hs hd
theorem v_dinL (ha : Val ta σ H (.str (oL x))) (hb : Val tb σ H (.ref L)) (hL : H L = some (.dK (labK ls))) : Val (tDIn ta tb) σ H (.bl (labGet ls x).isSome) := fun Q q =>
  ha _ (hb _ ⟨L, _, rfl, DGet.k (k := Sum.inr (oL x)) hL, by rw [valV_lab, Option.isSome_map]; exact q⟩)
theorem v_dgetL {v : Int} (ha : Val ta σ H (.ref L)) (hb : Val tb σ H (.str (oL x))) (hL : H L = some (.dK (labK ls))) (hv : labGet ls x = some v) : Val (tDGet ta tb) σ H (.int v) := fun Q q =>
  ha _ (hb _ ⟨L, .int v, rfl, by have := DGet.k (k := Sum.inr (oL x)) hL; rw [valV_lab, hv] at this; exact this, q⟩)
theorem v_dinM (ha : Val ta σ H (.int i)) (hb : Val tb σ H (.ref L)) (hL : H L = some (.dK (madeK m))) : Val (tDIn ta tb) σ H (.bl (madeGet m i).isSome) := fun Q q =>
  ha _ (hb _ ⟨L, _, rfl, DGet.k (k := Sum.inl i) hL, by rw [valV_made, Option.isSome_map]; exact q⟩)
end
section
variable {K : PySem.W.Frag} {H : Hp} {F : FS} {v : V} {ts : List (Int × LN)} {i : Nat} {x : V}
theorem da_term (h : Da K H F v (termsD ts)) : ∃ (a : Addr) (xs : List V), v = V.ref a ∧ SqL K H a xs ∧ xs.length = ts.length ∧ ∀ (i : Nat) (x : V), xs[i]? = some x → ∃ (T : Addr) (q : Int × LN), ts[i]? = some q ∧ x = V.ref T ∧ SqT K H T [V.int q.1, V.str (oL q.2)] := by
  cases h with | @lst a xs _ h1 h2 =>
  refine ⟨a, xs, rfl, SqL.of h1.at_, by rw [h2.len, List.length_map], fun i x hx => ?_⟩
  obtain ⟨d, hd, hv⟩ := h2.getV i hx
  rw [List.getElem?_map] at hd
  obtain ⟨q, hq, rfl⟩ := Option.map_eq_some_iff.mp hd
  obtain ⟨T, v1, v2, rfl, hT, z1, z2⟩ := da_pair hv
  cases z1; cases z2
  exact ⟨T, q, hq, rfl, hT⟩
end
/-! ### the first going over: what its data keep -/
def okD : Dd → Prop
  | .place ts => okTs ts
  | .word ts => okTs ts
  | .made _ => True
  | .aim _ ts => okTs ts
  | .pool _ ts => okTs ts
def okO : Option Dd → Prop
  | none => True
  | some d => okD d
theorem termsG_ok : ∀ (t : LN) (s : Int) (cur : LN) (ts : List (Int × LN)), (s = 1 ∨ s = -1) → cur.length + t.length ≤ 90000 → termsG s cur t = some ts → okTs ts
  | [], s, cur, ts, hs, hl, e => by
    rw [termsG] at e
    split at e
    · cases e
      intro q hq
      rw [List.mem_singleton.mp hq]
      exact ⟨hs, by simp at hl; exact hl⟩
    · cases e
  | c :: r, s, cur, ts, hs, hl, e => by
    rw [termsG] at e
    simp at hl
    split at e
    · split at e
      · cases z : termsG (if c = 45 then -1 else 1) [] r with
        | none => rw [z] at e; cases e
        | some ts' =>
          rw [z] at e
          cases e
          have ih := termsG_ok r _ [] ts' (by split <;> simp) (by simp; omega) z
          intro q hq
          rcases List.mem_cons.mp hq with h | h
          · rw [h]; exact ⟨hs, by simp only; omega⟩
          · exact ih q h
      · cases e
    · exact termsG_ok r s (cur ++ [c]) ts hs (by simp; omega) e
theorem termsL_ok {t : LN} {ts : List (Int × LN)} (hl : t.length ≤ 90000) (e : termsL t = some ts) : okTs ts := termsG_ok t 1 [] ts (.inl rfl) (by simp; exact hl) e
theorem aimG_ok {kd far : Int} {fs : List LN} {d : Dd} (hl : ∀ l ∈ fs, l.length ≤ 90000) (e : aimG kd far fs = some d) : okD d := by
  unfold aimG at e
  split at e
  · rename_i t
    have ht := hl t List.mem_cons_self
    split at e
    · rename_i r
      cases z : termsL r with
      | none => rw [z] at e; cases e
      | some ts => rw [z] at e; cases e; exact termsL_ok (by simp at ht; omega) z
    · cases z : termsL t with
      | none => rw [z] at e; cases e
      | some ts => rw [z] at e; cases e; exact termsL_ok ht z
  · cases e
theorem deedL_ok {fs : List LN} {d : Dd} (hl : ∀ l ∈ fs, l.length ≤ 90000) (e : deedL fs = some d) : okD d := by
  cases fs with
  | nil => cases e
  | cons h r =>
    rw [deedL, deedC] at e
    split at e
    · match r, e with
      | [t], e =>
        rw [one1] at e
        cases z : termsL t with
        | none => rw [z] at e; cases e
        | some ts =>
          rw [z] at e
          have ok := termsL_ok (hl t (by simp)) z
          cases e
          split <;> exact ok
    · split at e
      · match r, e with
        | [t], e =>
          rw [one1] at e
          split at e
          · cases e; trivial
          · cases e
      · split at e
        · cases e; trivial
        · split at e
          · cases e; trivial
          · split at e
            · unfold aimedL at e
              split at e
              · cases e
              · split at e
                · exact aimG_ok (fun l hl' => hl l (List.mem_cons_of_mem _ (List.mem_cons_of_mem _ hl'))) e
                · exact aimG_ok (fun l hl' => hl l (List.mem_cons_of_mem _ hl')) e
            · cases e
theorem pieces_small {line : LN} (h : line.length ≤ 80000) : ∀ l ∈ piecesL line, l.length ≤ 90000 := by
  intro l hl
  unfold piecesL at hl
  have h1 := cutAt_len 32 _ l (List.mem_filter.mp hl).1
  cases z : cutAt 59 line with
  | nil => exact absurd z (cutAt_ne _ _)
  | cons a b =>
    rw [z] at h1
    have h2 := cutAt_len 59 line a (by rw [z]; exact List.mem_cons_self)
    simp only [List.headD_cons] at h1
    omega
theorem restL_ok {lab l : Option LN} {fs : List LN} {d : Option Dd} (hl : ∀ l ∈ fs, l.length ≤ 90000) (e : restL lab fs = some (l, d)) : okO d := by
  unfold restL at e
  split at e
  · cases e; trivial
  · rename_i f r
    cases z : deedL (f :: r) with
    | none => rw [z] at e; cases e
    | some dd => rw [z] at e; cases e; exact deedL_ok hl z
theorem readL_ok {line : LN} {l : Option LN} {d : Option Dd} (h : line.length ≤ 80000) (e : readL line = some (l, d)) : okO d := by
  have hs := pieces_small h
  unfold readL at e
  generalize piecesL line = ps at hs e
  cases ps with
  | nil => cases e; trivial
  | cons f r =>
    rw [readP] at e
    split at e
    · split at e
      · exact restL_ok (fun l hl => hs l (List.mem_cons_of_mem _ hl)) e
      · cases e
    · exact restL_ok hs e
theorem amt_ok {ls : Lab} {here : Int} {ts : List (Int × LN)} {k : Nat} {a : Int} (e : amtL ls here ts k = .ok a) : amountL ls here 0 ts = some a := by
  unfold amtL at e
  split at e
  · rename_i z; cases e; exact z
  · cases e
theorem within_ok {a m : Int} {k : Nat} {b : Int} (e : withinL a m k = .ok b) : b = a ∧ 0 ≤ a ∧ a ≤ m := by
  unfold withinL at e
  split at e
  · rename_i h; cases e; exact ⟨rfl, h⟩
  · cases e
theorem goneStep_inv {line : LN} {ls ls' : Lab} {a a' : Int} {k : Nat} {d : Option Dd} (e : goneStep line ls a k = .ok (d, ls', a')) : ∃ l, readL line = some (l, d) ∧ tellL ls l a k = .ok ls' ∧ ((d = none ∧ a' = a) ∨ (∃ ts, d = some (.place ts) ∧ amountL ls' a 0 ts = some a' ∧ 0 ≤ a' ∧ a' ≤ 63) ∨ (∃ dd, d = some dd ∧ (∀ ts, dd ≠ .place ts) ∧ a' = a + 1 ∧ 0 ≤ a + 1 ∧ a + 1 ≤ 64)) := by
  unfold goneStep at e
  split at e
  · cases e
  · rename_i l d0 hr
    split at e
    · cases e
    · rename_i ls1 ht
      split at e
      · cases e
      · rename_i a1 hm
        cases e
        refine ⟨l, hr, ht, ?_⟩
        unfold moveG at hm
        split at hm
        · cases hm; exact .inl ⟨rfl, rfl⟩
        · rename_i ts
          split at hm
          · cases hm
          · rename_i b ha
            obtain ⟨rfl, w0, w1⟩ := within_ok hm
            exact .inr (.inl ⟨ts, rfl, amt_ok ha, w0, w1⟩)
        · rename_i dd hn
          obtain ⟨rfl, w0, w1⟩ := within_ok hm
          exact .inr (.inr ⟨dd, rfl, fun ts z => hn ts (by rw [z]), rfl, w0, w1⟩)
theorem tell_len {ls ls' : Lab} {l : Option LN} {a : Int} {k : Nat} (e : tellL ls l a k = .ok ls') : ls'.length ≤ ls.length + 1 := by
  unfold tellL at e
  split at e
  · cases e; omega
  · split at e
    · cases e
    · cases e; simp
theorem goneG_inv {acc : List (Option Dd)} {ls : Lab} {a : Int} {k : Nat} {line : LN} {r : List LN} {res : List (Option Dd) × Lab} (e : goneG acc ls a k (line :: r) = .ok res) : ∃ d ls' a', goneStep line ls a k = .ok (d, ls', a') ∧ goneG (acc ++ [d]) ls' a' (k + 1) r = .ok res := by
  rw [goneG] at e
  cases z : goneStep line ls a k with
  | error x => rw [z] at e; cases e
  | ok q =>
    obtain ⟨d, ls', a'⟩ := q
    rw [z] at e
    exact ⟨d, ls', a', rfl, e⟩
/-! ### a dict of one's own in the world -/
def Wd (W : Hp → Prop) (L : Addr) (kvs : List (Key × V)) : Hp → Prop := fun H => W H ∧ H L = some (.dK kvs)
section
variable {K : PySem.W.Frag} {H H0 H1 : Hp} {F : FS} {W : Hp → Prop} {D L : Addr} {ds : List PyData} {kvs kvs' : List (Key × V)}
theorem woD (wo : Wo F W) : Wo (withF F L) (Wd W L kvs) := ⟨fun H H' k t w => ⟨wo.loc H H' (fun b o f => k b o (.inl f)) t w.1, k L _ (.inr rfl) w.2⟩⟩
theorem tpD {kvs' : List (Key × V)} (h : H L = some (.dK kvs)) : TpS H (upd H L (.dK kvs')) := fun b xs e => by rw [upd_ne (fun q => by rw [q, h] at e; cases e)]; exact e
theorem okD_put (wo : Wo F W) (nF : ¬ F L) (o : Ok (withF F L) (Wd W L kvs) H) : Ok (withF F L) (Wd W L kvs') (upd H L (.dK kvs')) :=
  ⟨fun b f => by
    by_cases e : b = L
    · rw [e, upd_same]; exact fun z => by cases z
    · rw [upd_ne e]; exact o.fa b f, wo.loc _ _ (fun b x f e => by rw [upd_ne (fun q => nF (by rw [← q]; exact f))]; exact e) (tpD o.w.2) o.w.1, upd_same⟩
theorem mvD {F1 : FS} {o : HO} (h : F1 L) : Mv F1 H F1 (upd H L o) := ⟨fun b x n e => by rw [upd_ne (fun q => n (by rw [q]; exact h))]; exact e, fun _ f => .inl f⟩
theorem Own.withD (ow : Own K H0 F W D H ds) (wo : Wo F W) (hL : H L = none) : Own K H0 (withF F L) (Wd W L []) D (upd H L (.dK [])) ds := by
  obtain ⟨vs, h1, h2⟩ := ow.ow
  have nDL : D ≠ L := fun e => by rw [e, hL] at h1; cases h1
  refine ⟨ow.fr, fun f => f.elim ow.no nDL, ⟨fun b o n e => ?_, fun b f => .inl f⟩, ⟨fun b f => ?_, wo.loc _ _ (fun b x f e => smN hL b x e) (TpS.same (smN hL)) ow.ok.w, upd_same⟩, vs, by rw [upd_ne nDL]; exact h1, h2.mv ⟨fun b o n e => smN hL b o e, fun b f => ?_⟩⟩
  · exact smN hL b o (ow.mv.keep b o (fun f => n (.inl f)) e)
  · by_cases e : b = L
    · rw [e, upd_same]; exact fun z => by cases z
    · rw [upd_ne e]; exact ow.ok.fa b (f.elim id fun z => absurd z e)
  · rcases f with (f | e) | e
    · exact .inl (.inl f)
    · exact .inr (by rw [e]; exact hL)
    · exact .inl (.inr e)
theorem Own.putD (ow : Own K H0 (withF F L) (Wd W L kvs) D H ds) (wo : Wo F W) (nF : ¬ F L) : Own K H0 (withF F L) (Wd W L kvs') D (upd H L (.dK kvs')) ds := by
  obtain ⟨vs, h1, h2⟩ := ow.ow
  have nDL : D ≠ L := fun e => by rw [e, ow.ok.w.2] at h1; cases h1
  exact ⟨ow.fr, ow.no, ow.mv.trans (mvD (.inr rfl)), okD_put wo nF ow.ok, vs, by rw [upd_ne nDL]; exact h1, h2.mv (mvD (.inl (.inr rfl)))⟩
theorem Own.mvG (ow : Own K H0 (withF F L) W D H ds) (hL : H0 L = none) : Mv F H0 (withF F L) H := ⟨fun b o n e => ow.mv.keep b o (fun f => f.elim n (fun z => by rw [z, hL] at e; cases e)) e, fun b f => f.elim .inl (fun e => .inr (by rw [e]; exact hL))⟩
end
def spGone (K : PySem.W.Frag) : Sp := fun vs H Q _ => ∃ (F : FS) (W : Hp → Prop) (v : V) (lines : List LN) (ds : List (Option Dd)) (ls : Lab), vs = [v] ∧ Wo F W ∧ Ok F W H ∧ Da K H F v (lnsD lines) ∧ lines.length ≤ 80000 ∧ (∀ l ∈ lines, l.length ≤ 80000) ∧ goneL lines = .ok (ds, ls) ∧
  ∀ T D L H', Mv F H F H' → Ok F W H' → SqT K H' T [.ref D, .ref L] → H L = none → H' L = some (.dK (labK ls)) → ¬ withF F L D → OwL K (withF F L) D H' (ds.map (oD deedD)) → ds.length = lines.length → (∀ d ∈ ds, okO d) → Q (.ref T) H'
section
variable {K : PySem.W.Frag} {H H0 H1 H' : Hp} {F F1 : FS} {W : Hp → Prop} {D L : Addr} {ds : List PyData} {v : V} {d : Option Dd} {l : Option LN} {dd : Dd}
theorem Own.mvH (ow : Own K H0 (withF F L) W D H ds) (hL : H0 L = none) : Mv F H0 F H := ⟨fun b o n e => ow.mv.keep b o (fun f => f.elim n (fun z => by rw [z, hL] at e; cases e)) e, fun b f => .inl f⟩
theorem OwL.same (s : Same H H') (h : OwL K F D H ds) : OwL K F D H' ds := by obtain ⟨vs, h1, h2⟩ := h; exact ⟨vs, s _ _ h1, h2.same s⟩
theorem da_readD (h : Da K H F v (readD (l, d))) : ∃ T v2, v = .ref T ∧ SqT K H T [labV l, v2] ∧ Da K H F v2 (oD deedD d) := by
  obtain ⟨T, v1, v2, rfl, hT, z1, z2⟩ := da_pair h
  have e : v1 = labV l := by cases l <;> cases z1 <;> rfl
  subst e
  exact ⟨T, v2, rfl, hT, z2⟩
def hdS : Dd → Str
  | .place _ => "place" | .word _ => "word" | .made _ => "made" | .aim _ _ => "aim" | .pool _ _ => "pool"
theorem da_deedHd (h : Da K H F v (deedD dd)) : ∃ T xs, v = .ref T ∧ SqT K H T xs ∧ xs[0]? = some (.str (hdS dd)) := by
  cases dd <;> cases h with | tup h1 h2 => cases h2 with | cons z h2 => cases z; exact ⟨_, _, rfl, h1.sq, rfl⟩
theorem da_place {ts : List (Int × LN)} (h : Da K H F v (deedD (.place ts))) : ∃ T w, v = .ref T ∧ SqT K H T [.str "place", w] ∧ Da K H F w (termsD ts) := by
  obtain ⟨T, v1, v2, rfl, hT, z1, z2⟩ := da_pair h
  cases z1
  exact ⟨T, v2, rfl, hT, z2⟩
theorem isNone_da' {v : V} {d : PyData} (h : Da K H F v d) : decide (v = .non) = isNoneD d := by cases h <;> rfl
end
/-! ### the second going over -/
theorem inV_ints (n : Int) : ∀ l : List Int, inV (.int n) (l.map V.int) = decide (n ∈ l)
  | [] => by simp [inV]
  | a :: l => by
    have ih := inV_ints n l
    unfold inV at ih ⊢
    rw [List.map_cons, List.any_cons, ih]
    show ((a == n) || decide (n ∈ l)) = decide (n ∈ a :: l)
    by_cases h : n = a
    · subst h; simp
    · rw [show (a == n) = false from beq_eq_false_iff_ne.mpr fun e => h e.symm, Bool.false_or]
      exact decide_eq_decide.mpr ⟨fun q => List.mem_cons_of_mem _ q, fun q => (List.mem_cons.mp q).elim (fun e => absurd e h) id⟩
theorem flat_ints (l : List Int) : (l.map V.int).all flatV = true := by
  rw [List.all_map]
  exact List.all_eq_true.mpr fun _ _ => rfl
theorem idxI {ns : List Int} {t : Int} (h : t ∈ ns) : ns[ns.idxOf t]? = some t ∧ (∀ m, m < ns.idxOf t → ns[m]? ≠ some t) ∧ ns.idxOf t < ns.length := by
  have hl := List.idxOf_lt_length_of_mem h
  refine ⟨?_, fun m hm e => ?_, hl⟩
  · rw [List.getElem?_eq_getElem hl]
    exact congrArg some (List.getElem_idxOf hl)
  · obtain ⟨h1, h2⟩ := List.getElem?_eq_some_iff.mp e
    have := List.not_of_lt_findIdx (p := fun x => x == t) (xs := ns) (i := m) hm
    rw [h2] at this
    simp at this
section
variable {σ : L2.St} {H : Hp} {K : PySem.W.Frag} {a : Addr} {ta tb : TE} {n : Int} {pool : List Int}
theorem v_notInL (ha : Val ta σ H (.int n)) (hb : Val tb σ H (.ref a)) (h : SqL K H a (pool.map V.int)) : Val (tOp (rIn K true) ta tb) σ H (.bl (!decide (n ∈ pool))) :=
  val_op ha hb fun _ q => ⟨a, _, rfl, .inl h, rfl, flat_ints pool, by rw [if_pos rfl, inV_ints]; exact q⟩
theorem v_lidx (ha : Val ta σ H (.ref a)) (hb : Val tb σ H (.int n)) (h : H a = some (.lst (pool.map V.int))) (hm : n ∈ pool) : Val (tBM K "list" (rIndex K) ta (tCons tb tNil)) σ H (.int (pool.idxOf n : Nat)) := fun Q q => by
  obtain ⟨e1, e2, e3⟩ := idxI hm
  refine ha _ ⟨ty_list h, va_cons hb va_nil _ ⟨a, pool.map V.int, .int n, pool.idxOf n, .int n, rfl, rfl, SqL.of h, rfl, flat_ints pool, by rw [List.getElem?_map, e1]; rfl, by show (n == n) = true; simp, fun m z hm hz => ?_, q⟩⟩
  rw [List.getElem?_map] at hz
  obtain ⟨y, hy, rfl⟩ := Option.map_eq_some_iff.mp hz
  show (y == n) = false
  exact beq_eq_false_iff_ne.mpr fun e => e2 m hm (by rw [hy, e])
end
theorem make_len {m m' : Made} {a n : Int} {k : Nat} (e : makeL m a n k = .ok m') : m'.length = m.length + 1 := by
  unfold makeL at e
  split at e
  · cases e
  · cases e; simp
theorem pool_len {m : Made} {pool : List Int} {n : Int} {k : Nat} {r : Made × List Int × Int} (e : poolL m pool n k = .ok r) : r.1.length ≤ m.length + 1 ∧ r.2.1.length ≤ pool.length + 1 := by
  unfold poolL at e
  split at e
  · cases e; exact ⟨by show m.length ≤ _; omega, by show pool.length ≤ _; omega⟩
  · split at e
    · cases e
    · rename_i z; cases e
      exact ⟨by show _ ≤ m.length + 1; rw [make_len z]; omega, by show (pool ++ [n]).length ≤ _; simp⟩
theorem amtW_ok {ls : Lab} {a most b : Int} {ts : List (Int × LN)} {k : Nat} (e : amtW ls a ts most k = .ok b) : amountL ls a 0 ts = some b ∧ 0 ≤ b ∧ b ≤ most := by
  unfold amtW at e
  split at e
  · cases e
  · rename_i z
    obtain ⟨rfl, h⟩ := within_ok e
    exact ⟨amt_ok z, h⟩
theorem cellsG_inv {ls : Lab} {m : Made} {pool : List Int} {a : Int} {k : Nat} {d : Option Dd} {r : List (Option Dd)} {res : Made} (e : cellsG ls m pool a k (d :: r) = .ok res) : ∃ m' pool' a', cellStep ls m pool a k d = .ok (m', pool', a') ∧ cellsG ls m' pool' a' (k + 1) r = .ok res := by
  rw [cellsG] at e
  cases z : cellStep ls m pool a k d with
  | error x => rw [z] at e; cases e
  | ok q =>
    obtain ⟨m', pool', a'⟩ := q
    rw [z] at e
    exact ⟨m', pool', a', rfl, e⟩
theorem cellStep_inv {ls : Lab} {m m' : Made} {pool pool' : List Int} {a a' : Int} {k : Nat} {dd : Dd} (np : ∀ ts, dd ≠ .place ts) (e : cellStep ls m pool a k (some dd) = .ok (m', pool', a')) : ∃ m1 num, wordOf ls m pool a k dd = .ok (m1, pool', num) ∧ makeL m1 a num k = .ok m' ∧ a' = a + 1 := by
  unfold cellStep at e
  split at e
  · cases ‹some dd = none›
  · rename_i ts h; exact absurd (Option.some.inj h) (np ts)
  · rename_i d _ h
    cases Option.some.inj h
    split at e
    · cases e
    · rename_i q hq
      split at e
      · cases e
      · rename_i m2 hm
        cases e
        exact ⟨q.1, q.2.2, hq, hm, rfl⟩
section
variable {K : PySem.W.Frag} {H : Hp} {F : FS} {W : Hp → Prop} {M P : Addr} {kvs kvs' : List (Key × V)} {xs xs' : List V}
theorem ok_updD (wo : Wo F W) (nF : ¬ F M) (h : H M = some (.dK kvs)) (o : Ok F W H) : Ok F W (upd H M (.dK kvs')) :=
  ⟨fun b f => by rw [upd_ne (fun q => nF (by rw [← q]; exact f))]; exact o.fa b f, wo.loc _ _ (fun b x f e => by rw [upd_ne (fun q => nF (by rw [← q]; exact f))]; exact e) (tpD h) o.w⟩
theorem ok_updL (wo : Wo F W) (nF : ¬ F P) (h : H P = some (.lst xs)) (o : Ok F W H) : Ok F W (upd H P (.lst xs')) :=
  ⟨fun b f => by rw [upd_ne (fun q => nF (by rw [← q]; exact f))]; exact o.fa b f, wo.loc _ _ (fun b x f e => by rw [upd_ne (fun q => nF (by rw [← q]; exact f))]; exact e) (TpS.upd h) o.w⟩
end
/-- the state of the second going over -/
structure CSt (F : FS) (W : Hp → Prop) (H0 : Hp) (L M P : Addr) (ls : Lab) (m : Made) (pool : List Int) (H : Hp) : Prop where
  mv : Mv (withF (withF F M) P) H0 (withF (withF F M) P) H
  ok : Ok F W H
  hL : H L = some (.dK (labK ls))
  hM : H M = some (.dK (madeK m))
  hP : H P = some (.lst (pool.map V.int))
structure CNo (F : FS) (L M P : Addr) : Prop where
  fM : ¬ F M
  fP : ¬ F P
  MP : M ≠ P
  LM : L ≠ M
  LP : L ≠ P
section
variable {F : FS} {W : Hp → Prop} {H0 H H' : Hp} {L M P : Addr} {ls : Lab} {m m' : Made} {pool pool' : List Int}
theorem CSt.same (c : CSt F W H0 L M P ls m pool H) (wo : Wo F W) (s : Same H H') : CSt F W H0 L M P ls m pool H' := ⟨c.mv.trans (.same s), c.ok.same wo s, s _ _ c.hL, s _ _ c.hM, s _ _ c.hP⟩
theorem CSt.put (c : CSt F W H0 L M P ls m pool H) (n : CNo F L M P) (wo : Wo F W) : CSt F W H0 L M P ls m' pool' (upd (upd H M (.dK (madeK m'))) P (.lst (pool'.map V.int))) := by
  have hP : (upd H M (.dK (madeK m'))) P = some (.lst (pool.map V.int)) := by rw [upd_ne n.MP.symm]; exact c.hP
  exact ⟨(c.mv.trans (mvD (.inl (.inr rfl)))).trans (mvD (.inr rfl)), ok_updL wo n.fP hP (ok_updD wo n.fM c.hM c.ok), by rw [upd_ne n.LP, upd_ne n.LM]; exact c.hL, by rw [upd_ne n.MP, upd_same], upd_same⟩
theorem CSt.putM (c : CSt F W H0 L M P ls m pool H) (n : CNo F L M P) (wo : Wo F W) : CSt F W H0 L M P ls m' pool (upd H M (.dK (madeK m'))) :=
  ⟨c.mv.trans (mvD (.inl (.inr rfl))), ok_updD wo n.fM c.hM c.ok, by rw [upd_ne n.LM]; exact c.hL, upd_same, by rw [upd_ne n.MP.symm]; exact c.hP⟩
end
def spCells (K : PySem.W.Frag) : Sp := fun vs H Q _ => ∃ (F : FS) (W : Hp → Prop) (v : V) (L : Addr) (ds : List (Option Dd)) (ls : Lab) (mF : Made), vs = [v, .ref L] ∧ Wo F W ∧ Ok F W H ∧ ¬ F L ∧ Da K H F v (.list (ds.map (oD deedD))) ∧ H L = some (.dK (labK ls)) ∧ (∀ d ∈ ds, okO d) ∧ ds.length ≤ 30000 ∧ cellsG ls [] [] 0 1 ds = .ok mF ∧
  ∀ M H', H M = none → Mv F H F H' → Ok F W H' → H' M = some (.dK (madeK mF)) → Q (.ref M) H'
def preAsm (vs : List V) (_ : Hp) (_ : FS) (_ : Hp → Prop) (d : List PyData) : Prop := ∃ (t : LN) (cs : List Int), vs = [.str (oL t)] ∧ t.length ≤ 20000 ∧ assembledL t = .ok cs ∧ d = intsL cs
section
variable {K : PySem.W.Frag} {H : Hp} {F : FS} {v : V} {ts : List (Int × LN)} {b n : Int}
theorem da_word (h : Da K H F v (deedD (.word ts))) : ∃ T w, v = .ref T ∧ SqT K H T [.str "word", w] ∧ Da K H F w (termsD ts) := by
  obtain ⟨T, v1, v2, rfl, hT, z1, z2⟩ := da_pair h
  cases z1
  exact ⟨T, v2, rfl, hT, z2⟩
theorem da_made (h : Da K H F v (deedD (.made n))) : ∃ T, v = .ref T ∧ SqT K H T [.str "made", .int n] := by
  obtain ⟨T, v1, v2, rfl, hT, z1, z2⟩ := da_pair h
  cases z1; cases z2
  exact ⟨T, rfl, hT⟩
theorem da_three {d1 d2 d3 : PyData} (h : Da K H F v (.tuple [d1, d2, d3])) : ∃ T v1 v2 v3, v = .ref T ∧ SqT K H T [v1, v2, v3] ∧ Da K H F v1 d1 ∧ Da K H F v2 d2 ∧ Da K H F v3 d3 := by
  cases h with | @tup T xs _ ht h2 =>
  cases h2 with | cons z1 h2 => cases h2 with | cons z2 h2 => cases h2 with | cons z3 h2 => cases h2; exact ⟨_, _, _, _, rfl, ht.sq, z1, z2, z3⟩
theorem da_aim (h : Da K H F v (deedD (.aim b ts))) : ∃ T w, v = .ref T ∧ SqT K H T [.str "aim", .int b, w] ∧ Da K H F w (termsD ts) := by
  obtain ⟨T, v1, v2, v3, rfl, hT, z1, z2, z3⟩ := da_three h
  cases z1; cases z2
  exact ⟨T, v3, rfl, hT, z3⟩
theorem da_poolD (h : Da K H F v (deedD (.pool b ts))) : ∃ T w, v = .ref T ∧ SqT K H T [.str "pool", .int b, w] ∧ Da K H F w (termsD ts) := by
  obtain ⟨T, v1, v2, v3, rfl, hT, z1, z2, z3⟩ := da_three h
  cases z1; cases z2
  exact ⟨T, v3, rfl, hT, z3⟩
end
theorem x_call1 {σ : L2.St} {H : Hp} {ta : TE} {sp : Sp} {Q : VK} (h : ta σ H fun x H1 => sp [x] H1 Q E0) : tCall sp [] E0 (tCons ta tNil) σ H Q := h
theorem cellsOf_eq (m : Made) : fmD (fun _ => true) (fun (k : Nat) => PyData.int ((madeGet m (k : Int)).getD 0)) (List.range (64 : Int).toNat) = intsL (cellsOf m) := by
  rw [fmD_all]
  unfold intsL cellsOf
  rw [List.map_map]
  rfl
theorem goneG_len : ∀ (lines : List LN) (acc : List (Option Dd)) (ls : Lab) (a : Int) (k : Nat) (res : List (Option Dd) × Lab), goneG acc ls a k lines = .ok res → res.1.length = acc.length + lines.length
  | [], acc, ls, a, k, res, e => by rw [goneG] at e; cases e; simp
  | l :: r, acc, ls, a, k, res, e => by
    obtain ⟨d, ls', a', _, e⟩ := goneG_inv e
    have := goneG_len r _ _ _ _ _ e
    rw [this]; simp; omega
theorem asm_inv {t : LN} {cs : List Int} (e : assembledL t = .ok cs) : ∃ ds ls m, goneL (cutAt 10 t) = .ok (ds, ls) ∧ cellsG ls [] [] 0 1 ds = .ok m ∧ cs = cellsOf m := by
  unfold assembledL at e
  split at e
  · cases e
  · rename_i ds ls hg
    split at e
    · cases e
    · rename_i m hm
      cases e
      exact ⟨ds, ls, m, hg, hm, rfl⟩
/-! ### own exceptions: made, raised, caught -/
theorem oexB_ok {K : PySem.W.Frag} {C : Addr} (h : Hd.oexB K C = true) : OexC K C := by
  unfold Hd.oexB at h
  obtain ⟨h0, h⟩ := He.ba h
  obtain ⟨h1, h⟩ := He.ba h
  obtain ⟨h2, h⟩ := He.ba h
  obtain ⟨h3, h4⟩ := He.ba h
  refine ⟨?_, He.eqO_ok h1, of_decide_eq_true h2, of_decide_eq_true h3, h4⟩
  split at h0
  · rename_i c dd cd sl ho
    obtain ⟨c1, h0⟩ := He.ba h0
    obtain ⟨c2, h0⟩ := He.ba h0
    obtain ⟨c3, h0⟩ := He.ba h0
    obtain ⟨c4, c5⟩ := He.ba h0
    have c1 := of_decide_eq_true c1
    subst c1
    split at c2
    · rename_i c' bm hm
      obtain ⟨d1, d2⟩ := He.ba c2
      have d1 := of_decide_eq_true d1
      split at c5
      · rename_i k0 k1 k2 k3 n k5 hs
        have c5 := of_decide_eq_true c5
        obtain ⟨nm, bs, mro, ns, qn, hd, sn, sub, ab, col, del⟩ := cd
        dsimp only at hm c3 c4
        have c4 : del = false := by cases del <;> simp_all
        subst hm
        subst c3
        subst c4
        have hsl : sl = #[k0, k1, k2, k3, some (.builtin n), k5] := by
          obtain ⟨l⟩ := sl
          simp only at hs
          rw [hs]
        subst hsl
        subst d1
        subst c5
        exact ⟨nm, qn, ns, bs, bm, sn, sub, ab, col, dd, k0, k1, k2, k3, k5, ho, d2⟩
      · cases c5
    · cases c2
  · cases h0
structure ErX (K : PySem.W.Frag) (x : PySem.Str) : Prop where
  oex : OexC K (He.ga K x)
  ini : PySem.W.findIn K (.ref (He.ga K x)) "__init__" = some (some (.ref (Hd.initA K)))
  fn : PySem.W.typeIn K (.ref (Hd.initA K)) = some (.type "function")
  no : PySem.W.findIn K (.ref (He.ga K x)) "line" = some none
  xf : XfC K (He.ga K x)
  ha : PySem.W.findIn K (.ref (He.ga K x)) "__class__" = some (some (.builtin "object.__class__"))
  hn : PySem.W.specialIn K (.builtin "object.__class__") "__get__" = some (some (.builtin "getset_descriptor.__get__"))
  ht : PySem.W.takesIn K (.builtin "object.__class__") = some true
  hm : PySem.W.mroIn K (He.ga K x) (.type "object") = some true
  kC : PySem.W.kitOne K (.ref (He.ga K x)) (.ref (He.ga K "CoreError")) = some true
  kV : PySem.W.kitOne K (.ref (He.ga K x)) (.type "ValueError") = some true
  mB : PySem.W.exmOne K (.ref (He.ga K x)) (.ref (He.ga K "BadText")) = some true
  ms : ∀ y ∈ Hd.errs, PySem.W.exmOne K (.ref (He.ga K x)) (.ref (He.ga K y)) = some (decide (x = y))
structure CoX (K : PySem.W.Frag) : Prop where
  sp : PySem.W.specialIn K (.ref (He.ga K "CoreError")) "__getattribute__" = some (some (.builtin "type.__getattribute__"))
  rd : PySem.W.readsIn K (He.ga K "CoreError") (.type "type") = true
  fc : PySem.W.findCls K (.ref (He.ga K "CoreError")) (.type "type") "__init__" = some (.val (.builtin "ValueError.__init__"))
theorem excs_ok {K : PySem.W.Frag} (h : Hd.excsB K = true) : CoX K ∧ ∀ x ∈ Hd.errs, ErX K x := by
  unfold Hd.excsB at h
  obtain ⟨h0, h⟩ := He.ba h
  obtain ⟨h1, h⟩ := He.ba h
  obtain ⟨h2, h⟩ := He.ba h
  obtain ⟨h3, h⟩ := He.ba h
  obtain ⟨h4, h⟩ := He.ba h
  obtain ⟨h5, h⟩ := He.ba h
  refine ⟨⟨He.eqO_ok h3, h4, ?_⟩, fun x hx => ?_⟩
  · split at h5
    · rename_i n e
      rw [e, of_decide_eq_true h5]
    · cases h5
  · have e := List.all_eq_true.mp h x hx
    unfold Hd.errB at e
    obtain ⟨e0, e⟩ := He.ba e
    obtain ⟨e1, e⟩ := He.ba e
    obtain ⟨e2, e⟩ := He.ba e
    obtain ⟨e3, e⟩ := He.ba e
    obtain ⟨e4, e⟩ := He.ba e
    obtain ⟨e5, e⟩ := He.ba e
    obtain ⟨e6, e⟩ := He.ba e
    obtain ⟨e7, e⟩ := He.ba e
    obtain ⟨e8, e9⟩ := He.ba e
    exact ⟨oexB_ok e0, He.eqO_ok e1, of_decide_eq_true h0, He.eqO_ok e2, xfB_ok e3, He.eqO_ok e4, He.eqO_ok h1, of_decide_eq_true h2, of_decide_eq_true e5, of_decide_eq_true e6, of_decide_eq_true e7, of_decide_eq_true e8, fun y hy => of_decide_eq_true (List.all_eq_true.mp e9 y hy)⟩
section
variable {X : Cx} {e : Expr} {es : List Expr} {ta : TA} {p1 p2 pos : Pos} {x : Str} {C0 : Addr}
/-- C0.__init__(self, ..), C0 an own class whose __init__ is ValueError's -/
theorem pe_coreI {pl : Sem Bool} (hg : Gl X x) (hm : X.mg x = some (.ref C0)) (hsp : PySem.W.specialIn X.K (.ref C0) "__getattribute__" = some (some (.builtin "type.__getattribute__"))) (hrd : PySem.W.readsIn X.K C0 (.type "type") = true) (vV : PySem.W.findCls X.K (.ref C0) (.type "type") "__init__" = some (.val (.builtin "ValueError.__init__"))) (ha : L2.PA X (e :: es) ta)
    (hdb : (x == ("__debug__" : Str)) = false := by decide)
    (hc : eval (.Call (.Attribute (.Name x p1) "__init__" p2) (e :: es) [] pos) X.env = (do
      let ov ← eval (.Name x p1) X.env
      standAt p2.atName
      let (f, first) ← holding [ov] (getMethod ov "__init__" pl)
      callWith pos f first (backTo pos (starEach (e :: es) X.env)) (backToKw pos (keywordEach [] X.env))) := by rfl)
    (he : starEach (e :: es) X.env = (false, eval e X.env) :: starEach es X.env := by rfl) (hpl : (backTo pos (starEach es X.env)).any (·.1) = false := by rfl) :
    PE X (.Call (.Attribute (.Name x p1) "__init__" p2) (e :: es) [] pos) (tVeI X.K ta) := by
  refine ⟨fun pins s σ H Q I h => ?_⟩
  refine PySem.W.methodCall_KW (ld_glob I hg hm ?_ hdb) hc
  refine PySem.W.method_cls I.kIn hsp (PySem.W.cls_value I.kIn hrd vV (by decide +kernel) ?_)
  show wpAny _ _ (callWith pos (Value.builtin "ValueError.__init__") [] (backTo pos (starEach (e :: es) X.env)) []) _ _ _
  refine PyProof.Rows.callWith_method1 (thn (ha.run pos pins _ σ H _ (I.tok _) h) fun us s1 ⟨vs, H1, I1, r1, a, C, ws, ev, hl, T, ea, q⟩ => ?_) he hpl
  subst ev
  cases r1 with
  | @cons _ u0 _ ur ra rw' =>
    obtain rfl : u0 = Value.ref a := ra
    have hlen : ur.length ≤ sizeLine := by
      rw [← Paired.length rw', sizeLine_eq]
      omega
    exact oinit_ok T I1 ea hlen fun s' J => ⟨.non, H1, J, rfl, q⟩
end
/-! ### BadText.__init__ -/
def spBad (K : PySem.W.Frag) : Sp := fun vs H Q _ => ∃ (a C : Addr) (k : V), vs = [.ref a, k] ∧ OexC K C ∧ PySem.W.findIn K (.ref C) "line" = some none ∧ H a = some (exo a C none) ∧ ∀ dx, H dx = none → dx ≠ a → Q .non (upd (upd H dx (exd dx [("line", k)])) a (exo a C (some dx)))
section
variable {σ : L2.St} {H : Hp} {K : PySem.W.Frag} {to te : TE} {tl : TA} {tz : TS} {D : Ends} {a C : Addr} {ws : List V} {v : V} {f : Str}
theorem q_vei (h : ValA tl σ H (.ref a :: ws)) (hl : ws.length ≤ 1000) (T : OexC K C) (ha : H a = some (exo a C none)) (q : tz D σ H) : tSeq (tDrop (tVeI K tl)) tz D σ H := h _ ⟨a, C, ws, rfl, hl, T, ha, q⟩
theorem s_ostN (h1 : Val te σ H v) (h2 : Val to σ H (.ref a)) (T : OexC K C) (no : PySem.W.findIn K (.ref C) f = some none) (ha : H a = some (exo a C none)) (q : ∀ dx, H dx = none → dx ≠ a → D.nx σ (upd (upd H dx (exd dx [(f, v)])) a (exo a C (some dx)))) : tOst K f to te D σ H := h1 _ (h2 _ ⟨a, C, rfl, T, no, .inl ⟨ha, q⟩⟩)
end
/-! ### raising -/
def tRz (C : Addr) (K : PySem.W.Frag) (W : WX) (te : TE) : TS := fun _ σ H => tMkO C (spBad K) [] (tCons te tNil) σ H fun cls d H' => W cls d σ H'
theorem s_rz {C : Addr} {K : PySem.W.Frag} {W : WX} {te : TE} {σ : L2.St} {H : Hp} {v : V} {D : Ends} (T : OexC K C) (no : PySem.W.findIn K (.ref C) "line" = some none) (h : Val te σ H v) (q : ∀ d, H d = none → W (.ref C) (some d) σ (upd H d (.xd [("line", v)]))) : tRz C K W te D σ H := by
  refine h _ ⟨by show 1 ≤ 1000; omega, fun a ha => ⟨a, C, v, rfl, T, no, upd_same, fun dx hd ne => ⟨rfl, dx, [("line", v)], upd_same, ?_, ?_, ?_⟩⟩⟩
  · rw [upd_ne ne, upd_same]
  · rw [upd_ne ne] at hd; exact hd
  · rw [upd_ne ne] at hd
    have e : upd (del (upd (upd (upd H a (exo a C none)) dx (exd dx [("line", v)])) a (exo a C (some dx))) a) dx (.xd [("line", v)]) = upd H dx (.xd [("line", v)]) := by
      funext b
      by_cases hb : b = dx
      · rw [hb, upd_same, upd_same]
      · rw [upd_ne hb, upd_ne hb]
        by_cases hb2 : b = a
        · rw [hb2, del_same, ha]
        · rw [del_ne hb2, upd_ne hb2, upd_ne hb, upd_ne hb2]
    rw [e]
    exact q dx hd
/-- a def that may raise, as it may be called -/
structure CalX (P : Program) (w : World) (K : PySem.W.Frag) (mg : Str → Option Value) (base : Heap) (k : Nat) (x : Str) (ps : List Str) (sp : Sp) : Prop where
  ex : ∃ f fd, FnOk P w K mg base (L2.CX P w) k f fd ps sp ∧ mg x = some (.ref f) ∧ PySem.W.keepIn K (.ref f) = true ∧ Binds K fd ps []
section
variable {X : Cx} {x : Str} {ps : List Str} {sp : Sp} {k j : Nat} {e : Expr} {es : List Expr} {p pos : Pos} {t : TA} {W : WX}
theorem pe_calX (C : CalX X.prog X.w X.K X.mg X.base k x ps sp) (tk : Takes X W) (hr : Room j X.A) (hk : k ≤ j) (hg : Gl X x) (ha : L2.PA X (e :: es) t) (hdb : (x == ("__debug__" : Str)) = false := by decide)
    (he : starEach (e :: es) X.env = (false, eval e X.env) :: starEach es X.env := by rfl) (hpl : (backTo pos (starEach es X.env)).any (·.1) = false := by rfl) : PE X (.Call (.Name x p) (e :: es) [] pos) (tCallS sp (WE W) t) := by
  obtain ⟨f, fd, F, hm, hkp, hb⟩ := C.ex
  exact pe_callS F (hr.mono hk) hg hm hkp hb (fun σ => passAt tk σ) ha hdb he hpl
/-- raise x(e), x one of the five -/
theorem ps_rz {fd : FuncData} {te : TE} {p' p2 : Pos} (hc : X.calm = true) (tk : Takes X W) (E : ErX X.K x) (F1 : FnOk X.prog X.w X.K X.mg X.base CX0 1 (Hd.initA X.K) fd ["self", "line"] (spBad X.K)) (hb : Binds X.K fd ["self", "line"] []) (hr : Room (j + 2) X.A) (hg : Gl X x) (hm : X.mg x = some (.ref (He.ga X.K x))) (he1 : PE X e te)
    (hdb : (x == ("__debug__" : Str)) = false := by decide) (he : starEach [e] X.env = (false, eval e X.env) :: starEach [] X.env := by rfl) (hpl : (backTo p2 (starEach [] X.env)).any (·.1) = false := by rfl) : PS X (.Raise (some (.Call (.Name x p) [e] [] p2)) none p') (tRz (He.ga X.K x) X.K W te) :=
  ps_raise hc tk (pmk_oex E.oex E.ini E.fn F1 (hr.mono (by omega)) hb .nil pass0 hg hm (pa_cons he1 pa_nil (hs := he)) hdb he hpl)
end
theorem cal_mkX {P : Program} {w : World} {K : PySem.W.Frag} {mg : Str → Option Value} {base : Heap} (T : Tx K mg) {k : Nat} {x : Str} {N ps : List Str} {st : Stmt} {sp : Sp} (i j : Nat)
    (hd : Hd.fn[i]? = some ⟨(x, none), x, x, defArgs st, defBody st, defScope st, [], []⟩) (hj : Hd.fa[j]? = some (.glo x)) (S : FnScope N ps (defScope st))
    (hb : ∀ (kV doc pm : Value) (an : Option Addr) (cdv ct : Value) (us : List Value), us.length = ps.length → bindArgs (PySem.W.fnOf x x (defArgs st) (defBody st) (defScope st) .none kV doc pm an cdv ct) ⟨us, []⟩ = pure (ps.zip us))
    (len : ∀ vs H Q E, sp vs H Q E → vs.length = ps.length)
    (body : ∀ (f : Addr) (cdv : Value) (A : Around) (outer : List Env) (s : Shared) (H : Hp) (vs : List V) (Q : VK) (E : XK), Room k (A.deeper (envOfC x (defScope st) s.heap.objs.size f cdv)) → sp vs H Q E →
      ∃ t, PSs (cxOf (L2.CX P w) P w K mg base N x (defScope st) f cdv A outer s H E) (defBody st) t ∧ t { nx := fun _ H' => Q .non H', rt := Q } (start N vs) H) : CalX P w K mg base (k + 1) x ps sp := by
  obtain ⟨fd, F⟩ := T.says.def_ i hd
  exact ⟨_, fd, F.ok S len fun cdv A outer s H vs Q E hr h => body _ cdv A outer s H vs Q E hr h, T.glo j hj, F.kp, F.bindsN hb⟩
/-! ### readings: what raises needs nothing behind -/
def Bad (te : TE) (σ : L2.St) (H : Hp) : Prop := ∀ Q, te σ H Q
def BadA (ta : TA) (σ : L2.St) (H : Hp) : Prop := ∀ Q, ta σ H Q
section
variable {σ : L2.St} {H : Hp} {K : PySem.W.Frag} {ta tb : TE} {tl : TA} {tz : TS} {N : L2.St → Hp → Prop} {R : VK} {B C' : L2.St → Hp → Prop} {sp : Sp} {E : L2.St → XK} {vs : List V} {v x : V} {r : R2} {g : TG} {W : WX}
theorem v_callX (h : ValA tl σ H vs) (hs : ∀ Q : VK, Q v H → sp vs H Q (E σ)) : Val (tCallS sp E tl) σ H v := fun Q q => h _ (hs Q q)
theorem b_callX (h : ValA tl σ H vs) (hs : ∀ Q : VK, sp vs H Q (E σ)) : Bad (tCallS sp E tl) σ H := fun Q => h _ (hs Q)
theorem b_arg (h : BadA tl σ H) : Bad (tCallS sp E tl) σ H := fun _ => h _
theorem ba_hd (h : Bad ta σ H) : BadA (tCons ta tl) σ H := fun _ => h _
theorem ba_tl (h : Val ta σ H x) (h2 : BadA tl σ H) : BadA (tCons ta tl) σ H := fun _ => h _ (h2 _)
theorem b_op2 (h : Val ta σ H x) (h2 : Bad tb σ H) : Bad (tOp r ta tb) σ H := fun _ => h _ (h2 _)
theorem q_bad (h : Bad ta σ H) : tSeq (tAsg ta g) tz ⟨N, R, B, C'⟩ σ H := h _
theorem s_bad (h : Bad ta σ H) : tAsg ta g ⟨N, R, B, C'⟩ σ H := h _
theorem q_badD (h : Bad ta σ H) : tSeq (tDrop ta) tz ⟨N, R, B, C'⟩ σ H := h _
theorem s_badD (h : Bad ta σ H) : tDrop ta ⟨N, R, B, C'⟩ σ H := h _
theorem q_doX (h : ValA tl σ H vs) (hs : sp vs H (fun _ H' => tz ⟨N, R, B, C'⟩ σ H') (E σ)) : tSeq (tDrop (tCallS sp E tl)) tz ⟨N, R, B, C'⟩ σ H := h _ hs
theorem s_doX (h : ValA tl σ H vs) (hs : sp vs H (fun _ H' => N σ H') (E σ)) : tDrop (tCallS sp E tl) ⟨N, R, B, C'⟩ σ H := h _ hs
theorem q_setX {k : Nat} (h : ValA tl σ H vs) (hs : sp vs H (fun v H' => tz ⟨N, R, B, C'⟩ (σ.set k (some v)) H') (E σ)) : tSeq (tAsg (tCallS sp E tl) (gName k)) tz ⟨N, R, B, C'⟩ σ H := h _ hs
end
theorem Tx.excs {K : PySem.W.Frag} {mg : Str → Option Value} (T : Tx K mg) : CoX K ∧ ∀ x ∈ Hd.errs, ErX K x := by
  have h := T.more
  unfold Hd.exB at h
  have h := (He.ba h).2
  have h := (He.ba h).2
  have h := (He.ba h).2
  have h := (He.ba h).2
  have h := (He.ba h).2
  have h := (He.ba h).2
  have h := (He.ba h).2
  have h := (He.ba h).2
  have h := (He.ba h).2
  have h := (He.ba h).2
  have h := (He.ba h).2
  have h := (He.ba h).2
  exact excs_ok (He.ba h).1

section
variable {P : Program} {w : World} {K : PySem.W.Frag} {mg : Str → Option Value} {base : Heap}

theorem sc_BadText___init__ : FnScope ["self", "line"] ["self", "line"] (defScope s_BadText___init__) := ⟨rfl, rfl, rfl, by decide +kernel, rfl, by decide +kernel, by decide +kernel⟩

theorem fn_bad (T : Tx K mg) : ∃ fd, FnOk P w K mg base CX0 1 (Hd.initA K) fd ["self", "line"] (spBad K) ∧ Binds K fd ["self", "line"] [] := by
  obtain ⟨fd, F⟩ := T.says.def_ 29 (d := Hd.d_BadText___init__) rfl
  refine ⟨fd, F.ok sc_BadText___init__ (fun vs H Q E h => ?_) fun cdv A outer s H vs Q E hr h => ?_, F.bindsN (fun _ _ _ _ _ _ us hl => match us, hl with | [_, _], _ => rfl)⟩
  · obtain ⟨a, C, k, rfl, _⟩ := h
    rfl
  · obtain ⟨a, C, k, rfl, oe, no, ha, q⟩ := h
    refine ⟨_, PSs.nox (pss_cons (ps_expr (pe_coreI (by rfl) (T.glo 38) T.excs.1.sp T.excs.1.rd T.excs.1.fc (pa_cons (pv 0) (pa_cons pe_str pa_nil)))) (pss_one (ps_ost (pv 0) (pv 1)))), ?_⟩
    refine q_vei (va_cons (v_var rfl) (va_cons v_c va_nil)) (by show 1 ≤ 1000; omega) oe ha ?_
    exact s_ostN (v_var rfl) (v_var rfl) oe no ha q
end
/-! ### several clauses except x as n -/
def endA (i : Nat) (D : Ends) : Ends := { nx := fun σ' H' => D.nx (σ'.set i none) H', rt := D.rt, bk := fun σ' H' => D.bk (σ'.set i none) H', ct := fun σ' H' => D.ct (σ'.set i none) H' }
def wManyA (K : PySem.W.Frag) (Wout : WX) (D : Ends) : List (Value × Nat × (Addr → Value → Option Addr → TS)) → WX
  | [] => Wout
  | (c, i, ts) :: r => fun cls d σ H => ∃ b, PySem.W.exmOne K cls c = some b ∧ (b = true → ∀ a, H a = none → ts a cls d (endA i D) (σ.set i (some (.ref a))) H) ∧ (b = false → wManyA K Wout D r cls d σ H)
inductive HdsA (X : Cx) : List ExceptHandler → List (Value × Nat × (Addr → Value → Option Addr → TS)) → Prop
  | nil : HdsA X [] []
  | cons {x n : Str} {c : Value} {i : Nat} {ts : Addr → Value → Option Addr → TS} {b₀ : Stmt} {suite : List Stmt} {np pos' : Pos} {hds : List ExceptHandler} {l : List (Value × Nat × (Addr → Value → Option Addr → TS))} (hc : Names X x c) (hi : X.N[i]? = some n) (hln : X.env.kindOf n = some .local)
      (hsu : ∀ (a : Addr) (oe : Obj) (cls : Value) (d : Option Addr) (pn : List (Addr × Obj)), Zc cls d oe → (∃ vs, oe.data = .fields vs) → PSs (X.suite a ((a, oe) :: pn)) (b₀ :: suite) (ts a cls d)) (r : HdsA X hds l) :
      HdsA X (.ExceptHandler (some (.Name x np)) (some n) (b₀ :: suite) pos' :: hds) ((c, i, ts) :: l)
section
variable {X : Cx} {body : List Stmt} {h₀ : ExceptHandler} {hds : List ExceptHandler} {l : List (Value × Nat × (Addr → Value → Option Addr → TS))} {pos : Pos} {tb : WX → TS} {Wout : WX}
theorem ps_try_asM (hs : X.stack = X.env :: X.outer) (hf : X.env.frame = some X.env.locals) (hN : X.N.Nodup) (tk : Takes X Wout)
    (hb : ∀ (W : WX) (pn : List (Addr × Obj)) (xe : Value → Shared → Prop), Takes (X.tr pn xe) W → PassesOwn (model X.prog X.w) X.A X.env xe → PSs (X.tr pn xe) body (tb W))
    (hh : HdsA X (h₀ :: hds) l) : PS X (.Try body (h₀ :: hds) [] [] pos) (fun D σ H => tb (wManyA X.K Wout D l) D σ H) := by
  refine ⟨fun pins s σ H D I h => ?_⟩
  have ok := I.ok
  have hfr : X.A.frames = some (X.env :: X.outer) := by rw [ok.frames, hs]
  refine wpAny_Try_except ?_
  refine wpAny_mono ((hb (wManyA X.K Wout D l) (X.pn ++ pins) (fun e s₁ => wpAny (model X.prog X.w) X.A (noteFrame e X.env) (fun _ s₂ => wpAny (model X.prog X.w) X.A (setFlight e none) (fun _ s₃ =>
    wpAny (model X.prog X.w) X.A (handleBy e X.env (h₀ :: hds)) (SP X pins D) X.xe s₃) X.xe s₂) X.xe s₁) (fun u s' xx => ?_) PassesOwn.looking).run [] s σ H D (I.toTry _) h) (fun f s1 hsp => ?_) (fun e s1 he => he)
  · obtain ⟨a, B, sI, pins', σ', H', cls, d, rfl, J', nb, up, sky, na, os, ag, w⟩ := xx
    have J : Inv X pins σ' H' sI := J'.ofTry ok
    have sky' : Sky B (X.env :: X.outer) a (Zc cls d) X.env.locals s'.heap := by rw [← hs]; exact sky
    show wpAny (model X.prog X.w) X.A (noteFrame (.ref a) X.env) _ _ _
    refine Sky.land Zc.steady hfr hf sky' fun h3 fl3 up3 => ?_
    have J3 : Inv X pins σ' H' { s' with heap := h3 } := J.landed nb fl3.1 (up.trans up3) os ag
    obtain ⟨oe3, vs3, he3, hz3, hd3⟩ := fl3.there
    have notFr : ∀ {h : Heap} {o : Obj} {vs : Array Value}, h.FunFrames B (X.env :: X.outer) → h.get? a = some o → o.data = .fields vs → a ∉ frs (X.env :: X.outer) := fun {h o vs} ff e dd hm => by
      obtain ⟨_, o', e', hnf⟩ := ff.mem hm
      rw [e] at e'; cases e'
      exact hnf _ dd
    have nfr := notFr fl3.2.2.1 he3 hd3
    have nL : a ≠ X.env.locals := fun z => nfr (List.mem_filterMap.mpr ⟨X.env, List.mem_cons_self, by rw [hf, z]⟩)
    have nF : a ∉ X.fs := fun hm => by
      obtain ⟨e, he, q⟩ := List.mem_filterMap.mp hm
      exact nfr (List.mem_filterMap.mpr ⟨e, List.mem_cons_of_mem _ he, q⟩)
    have S3 := J3.suite he3 hd3 na nL nF
    have go : ∀ {hds' : List ExceptHandler} {l' : List (Value × Nat × (Addr → Value → Option Addr → TS))}, HdsA X hds' l' → wManyA X.K Wout D l' cls d σ' H' →
        wpAny (model X.prog X.w) X.A (handleBy (.ref a) X.env hds') (SP X pins D) X.xe { s' with heap := h3 } := by
      intro hds' l' hk
      induction hk with
      | nil =>
        intro w
        refine wpAny_handleBy_nil ?_
        obtain ⟨k1, k2, k3, oe, vs, T, oT, ts', he, hz, hd, h1, hr⟩ := id fl3
        unfold PySem.passOn
        refine wpAny_bind (wpAny_field he hd h1 ?_)
        rw [if_neg (show ¬ ((Value.ref T == Value.none) = true) from by simp)]
        have fin : wpAny (model X.prog X.w) X.A (setFlight (.ref a) X.env.frame) (fun _ s4 => wpAny (model X.prog X.w) X.A (throw (.ref a) : Sem Flow) (SP X pins D) X.xe s4) X.xe { s' with heap := h3 } := by
          rw [hf]
          refine HandSPX.setFlight_upZ fl3 fun h4 hh4 up4 => wpAny_throw (tk _ _ ?_)
          exact ⟨a, B, sI, pins, σ', H', cls, d, rfl, J, nb, (up.trans up3).trans up4, .inr (.inr (by rw [hs]; exact hh4)), na, os, ag, w⟩
        first
          | exact wpAny_bind (wpAny_pure (wpAny_bind fin))
          | exact wpAny_bind fin
      | @cons x n c i ts b₀ suite np pos' hds2 l2 hc hi hln hsu r ih =>
        intro w
        have hloc : Loc X.env.scope n := .inl hln
        obtain ⟨b, hb1, hyes, hno⟩ := w
        refine wpAny_handleBy_cons (codeAny_handlers_test ?_) (by intro q; cases q)
        have LT : PySem.W.Looks (model X.prog X.w) h3 (typeOf (.ref a)) cls := fun A Q E s k q => wpAny_typeOf_ref (k _ _ he3) (by rw [hz3.1]; exact q)
        have LM := PySem.W.exm_one (M := model X.prog X.w) (J3.kIn) LT hb1
        have test : ∀ {Q : Value → Shared → Prop} {E : Value → Shared → Prop}, Q c { s' with heap := h3 } → wpAny (model X.prog X.w) (X.A.mark (some (.ref a))) (eval (.Name x np) X.env) Q E { s' with heap := h3 } := fun {Q E} q => by
          obtain ⟨hg, hdbg, hm | ⟨hm, hv, hnn⟩⟩ := hc
          · exact ld_glob (X := X.suite a ((a, oe3) :: (X.pn ++ pins))) S3 hg hm q hdbg
          · exact ld_blt (X := X.suite a ((a, oe3) :: (X.pn ++ pins))) S3 hg hm hv q hnn hdbg
        refine test (LM.here ?_)
        cases b with
        | true =>
          refine codeAny_handlers_suite_as ?_
          refine HandSPX.lands_againZ fl3 fun h4 fl4 up4 => ?_
          have J4 : Inv X pins σ' H' { s' with heap := h4 } := J.landed nb fl4.1 ((up.trans up3).trans up4) os ag
          obtain ⟨oe4, vs4, he4, hz4, hd4⟩ := fl4.there
          have S4 := J4.suite he4 hd4 na nL nF
          refine store_ok (X := X.suite a ((a, oe4) :: (X.pn ++ pins))) (v := .ref a) S4 hN hi hloc rfl (fun s5 S5 => ?_) (.inr hln)
          refine wpAny_mono ((hsu a oe4 cls d (X.pn ++ pins) hz4 ⟨_, hd4⟩).run [] s5 _ H' _ S5 (hyes rfl a na)) (fun f s6 hsp => ?_) (fun _ _ z => False.elim z)
          have end_ : ∀ {σ6 : L2.St} {H6 : Hp} {Q : Shared → Prop}, Inv (X.suite a ((a, oe4) :: (X.pn ++ pins))) [] σ6 H6 s6 → (∀ s7, Inv X pins (σ6.set i none) H6 s7 → Q s7) →
              wpAny (model X.prog X.w) X.A (do bindName X.env n .none; unbindBehindTheSuite X.env n pos') (fun _ s7 => Q s7) X.xe s6 := fun {σ6 H6 Q} S6 hq => gone_ok (S6.unsuite ok) hN hi hln hq
          cases f with
          | next =>
            obtain ⟨σ6, H6, S6, q6⟩ := hsp
            exact end_ S6 fun s7 J7 => ⟨_, _, J7, q6⟩
          | brk =>
            obtain ⟨σ6, H6, S6, q6⟩ := hsp
            exact end_ S6 fun s7 J7 => ⟨_, _, J7, q6⟩
          | cont =>
            obtain ⟨σ6, H6, S6, q6⟩ := hsp
            exact end_ S6 fun s7 J7 => ⟨_, _, J7, q6⟩
          | ret u =>
            obtain ⟨v6, σ6, H6, S6, r6, q6⟩ := hsp
            exact end_ S6 fun s7 J7 => ⟨_, _, _, J7, r6, q6⟩
        | false =>
          show wpAny _ X.A (handleBy (.ref a) X.env hds2) _ _ _
          exact ih (hno rfl)
    exact go hh w
  · cases f with
    | next =>
      obtain ⟨σ', H', J', q⟩ := hsp
      exact wpAny_execs_nil ⟨σ', H', J'.ofTry ok, q⟩
    | brk =>
      obtain ⟨σ', H', J', q⟩ := hsp
      exact ⟨σ', H', J'.ofTry ok, q⟩
    | cont =>
      obtain ⟨σ', H', J', q⟩ := hsp
      exact ⟨σ', H', J'.ofTry ok, q⟩
    | ret u =>
      obtain ⟨v, σ', H', J', r, q⟩ := hsp
      exact ⟨v, σ', H', J'.ofTry ok, r, q⟩
end
/-! ### e.line, isinstance(e, ..) of the caught one, its class not fixed -/
def tXl (a : Addr) (cls : Value) (d : Option Addr) (K : PySem.W.Frag) (f : Str) (te : TE) : TE := fun σ H Q => te σ H fun x H1 => x = .ref a ∧ ∃ C : Addr, cls = .ref C ∧ XfC K C ∧ PySem.W.findIn K (.ref C) f = some none ∧ ∃ (dd : Addr) (fs : List (Str × V)) (v : V), d = some dd ∧ H1 dd = some (.xd fs) ∧ fs.lookup f = some v ∧ Q v H1
theorem pe_xl {X : Cx} {a : Addr} {oe : Obj} {cls : Value} {d : Option Addr} {pn : List (Addr × Obj)} {e : Expr} {te : TE} {pos : Pos} {n : Str}
    (hz : Zc cls d oe) (hf : ∃ vs, oe.data = .fields vs) (he : PE (X.suite a ((a, oe) :: pn)) e te) (hb : attributeBase e n X.env (eval e X.env) = eval e X.env := by rfl) :
    PE (X.suite a ((a, oe) :: pn)) (.Attribute e n pos) (tXl a cls d X.K n te) := by
  refine ⟨fun pins s σ H Q I h => ?_⟩
  refine attr_of hb (thn (he.run pins s σ H _ I h) fun u s1 hh => ?_)
  obtain ⟨x, H1, I1, rx, ex, C, ec, T, hno, dd, fs, v, ed, ea, l, q⟩ := hh
  subst ex
  obtain rfl : u = Value.ref a := rx
  subst ec
  subst ed
  obtain ⟨ha, _⟩ := I1.pin (a, oe) (List.mem_append_left _ List.mem_cons_self)
  obtain ⟨vs, hd⟩ := hf
  have hx : ObjOk X.prog X.w H1 s1.heap dd (.xd fs) := I1.hok dd _ ea
  obtain ⟨mA, hns, hr⟩ := hx
  obtain ⟨od, ho, hl⟩ := lookIn_ns hns
  obtain ⟨u, hu, ru⟩ := RelO.some_of (v := v) (o := mA n) (by rw [← l]; exact hr n)
  have J : PySem.W.InstAt s1.heap a oe C (some od) := ⟨ha, hz.1, by unfold PySem.W.notCls; rw [hd] <;> rfl, by rw [hz.2]; exact ho⟩
  exact HandSPX.exc_get I1.kIn J T.ga T.gg T.exC (PySem.W.findObj_own T.hdC hno rfl (by rw [hl, hu])) (handed_of ru) ⟨v, H1, I1.tok _, ru, q⟩
def rIsX (K : PySem.W.Frag) (a : Addr) (cls : Value) (d : Option Addr) : List V → Hp → VK → Prop := fun xs H Q => ∃ (x : PySem.Str) (c : V) (cv : Value) (b : Bool) (dd : Addr) (fs : List (Str × V)), xs = [.ref a, c] ∧ cls = .ref (He.ga K x) ∧ ErX K x ∧ d = some dd ∧ H dd = some (.xd fs) ∧ (∀ u, RelV c u → u = cv) ∧ PySem.W.kitOne K (.ref (He.ga K x)) cv = some b ∧ Q (.bl b) H
theorem call_isX {X : Cx} {a : Addr} {cls : Value} {d : Option Addr} {oe : Obj} {pn : List (Addr × Obj)} (hz : Zc cls d oe) (hf : ∃ vs, oe.data = .fields vs) : CallR (X.suite a ((a, oe) :: pn)) (.builtin "isinstance") (rIsX X.K a cls d) := by
  intro pins s σ H xs us Q I r h
  obtain ⟨x, c, cv, b, dd, fs, rfl, rfl, C, rfl, ea, hcv, e, q⟩ := h
  cases r with
  | cons rx rr =>
    cases rr with
    | cons rt rr =>
      cases rr
      cases rx
      have ec := hcv _ rt
      subst ec
      obtain ⟨hget, _⟩ := I.pin (a, oe) (List.mem_append.mpr (.inl List.mem_cons_self))
      obtain ⟨vs, hv⟩ := hf
      have hx : ObjOk X.prog X.w H s.heap dd (.xd fs) := I.hok dd _ ea
      obtain ⟨mA, hns, hr⟩ := hx
      obtain ⟨od, ho, hl⟩ := lookIn_ns hns
      have J : PySem.W.InstAt s.heap a oe (He.ga X.K x) (some od) := ⟨hget, hz.1, by unfold PySem.W.notCls; rw [hv] <;> rfl, by rw [hz.2]; exact ho⟩
      obtain ⟨nm, q', N, bs, bm, sn, sub, ab, col, dd', k0, k1, k2, k3, k5, hC, hbm⟩ := C.oex.cls
      have hcl : (PySem.W.clsIn X.K (He.ga X.K x)).isSome = true := by unfold PySem.W.clsIn; rw [hC] <;> rfl
      exact PySem.W.kia_one (PySem.W.kitx_exc hcl C.xf.ga C.xf.gg C.xf.exC C.ha C.hn C.ht C.hm) I.kIn J e (fun z => nomatch z) fun tk => ⟨.bl b, H, I.kept (t' := tk) fun _ _ z => z, rfl, q⟩
theorem takes_no {X : Cx} : Takes X (fun _ _ _ _ => False) := fun _ _ ⟨_, _, _, _, _, _, _, _, _, _, _, _, _, _, _, _, w⟩ => w.elim
/-! ### texts that are refused: promises with both ends -/
def erS : Er → PySem.Str
  | .deed => "NoDeed" | .twice => "Twice" | .name => "NoName" | .bounds => "OutOfBounds" | .taken => "Taken"
def erC (K : PySem.W.Frag) (e : Er) : Addr := He.ga K (erS e)
theorem erS_mem (e : Er) : erS e ∈ Hd.errs := by cases e <;> decide
/-- the exception e = (class, line) leaves, the heap as it is -/
def Rx (K : PySem.W.Frag) (E : XK) (H : Hp) (e : Er × Nat) : Prop := ∀ d, H d = none → E (.ref (erC K e.1)) (some d) (upd H d (.xd [("line", V.int (e.2 : Nat))]))
/-- .. with what was made of one's own -/
def Rg (K : PySem.W.Frag) (F : FS) (W : Hp → Prop) (E : XK) (H : Hp) (e : Er × Nat) : Prop := ∀ d H', Mv F H F H' → Ok F W H' → H d = none → H' d = some (.xd [("line", V.int (e.2 : Nat))]) → E (.ref (erC K e.1)) (some d) H'
def OutX {α : Type} (r : Except (Er × Nat) α) (ok : α → Prop) (bad : Er × Nat → Prop) : Prop := match r with
  | .ok a => ok a
  | .error e => bad e
theorem outX_ok {α : Type} {a : α} {ok : α → Prop} {bad : Er × Nat → Prop} (h : ok a) : OutX (.ok a) ok bad := h
theorem rg_rx {K : PySem.W.Frag} {F : FS} {W : Hp → Prop} {E : XK} {H H' : Hp} {e : Er × Nat} (wo : Wo F W) (m : Mv F H F H') (o : Ok F W H') (k : Rg K F W E H e) : Rx K E H' e := fun d hd => k d _ (m.trans (.same (smN hd))) (o.same wo (smN hd)) (o.free m hd) upd_same
theorem rg_mv {K : PySem.W.Frag} {F : FS} {W : Hp → Prop} {E : XK} {H H' : Hp} {e : Er × Nat} (m : Mv F H F H') (o : Ok F W H') (k : Rg K F W E H e) : Rg K F W E H' e := fun d _ m2 o2 hd h => k d _ (m.trans m2) o2 (o.free m hd) h
def spAmountX (K : PySem.W.Frag) : Sp := fun vs H Q E => ∃ (v : V) (L : Addr) (here kk : Int) (k : Nat) (ts : List (Int × LN)) (ls : Lab) (F : FS), vs = [v, .ref L, .int here, .int kk] ∧ kk = (k : Int) ∧ Da K H F v (termsD ts) ∧ okTs ts ∧ H L = some (.dK (labK ls)) ∧ OutX (amtL ls here ts k) (fun a => Q (.int a) H) (Rx K E H)
def spWithinX (K : PySem.W.Frag) : Sp := fun vs H Q E => ∃ (a m kk : Int) (k : Nat), vs = [.int a, .int m, .int kk] ∧ kk = (k : Int) ∧ OutX (withinL a m k) (fun b => Q (.int b) H) (Rx K E H)
def spToldX (K : PySem.W.Frag) : Sp := fun vs H Q E => ∃ (L : Addr) (l : Option LN) (a kk : Int) (k : Nat) (ls : Lab), vs = [.ref L, labV l, .int a, .int kk] ∧ kk = (k : Int) ∧ H L = some (.dK (labK ls)) ∧ ls.length ≤ 90000 ∧ OutX (tellL ls l a k) (fun ls' => Q .non (upd H L (.dK (labK ls')))) (Rx K E H)
def spMakeX (K : PySem.W.Frag) : Sp := fun vs H Q E => ∃ (M : Addr) (a n kk : Int) (k : Nat) (m : Made), vs = [.ref M, .int a, .int n, .int kk] ∧ kk = (k : Int) ∧ H M = some (.dK (madeK m)) ∧ m.length ≤ 90000 ∧ OutX (makeL m a n k) (fun m' => Q .non (upd H M (.dK (madeK m')))) (Rx K E H)
def spPoolX (K : PySem.W.Frag) : Sp := fun vs H Q E => ∃ (M P : Addr) (n kk : Int) (k : Nat) (m : Made) (pool : List Int), vs = [.ref M, .ref P, .int n, .int kk] ∧ kk = (k : Int) ∧ M ≠ P ∧ H M = some (.dK (madeK m)) ∧ H P = some (.lst (pool.map V.int)) ∧ m.length ≤ 80000 ∧ pool.length ≤ 80000 ∧ OutX (poolL m pool n k) (fun r => Q (.int r.2.2) (upd (upd H M (.dK (madeK r.1))) P (.lst (r.2.1.map V.int)))) (Rx K E H)
def spGoneX (K : PySem.W.Frag) : Sp := fun vs H Q E => ∃ (F : FS) (W : Hp → Prop) (v : V) (lines : List LN), vs = [v] ∧ Wo F W ∧ Ok F W H ∧ Da K H F v (lnsD lines) ∧ lines.length ≤ 80000 ∧ (∀ l ∈ lines, l.length ≤ 80000) ∧ OutX (goneL lines)
  (fun r => ∀ T D L H', Mv F H F H' → Ok F W H' → SqT K H' T [.ref D, .ref L] → H L = none → H' L = some (.dK (labK r.2)) → ¬ withF F L D → OwL K (withF F L) D H' (r.1.map (oD deedD)) → r.1.length = lines.length → (∀ d ∈ r.1, okO d) → Q (.ref T) H') (Rg K F W E H)
def spCellsX (K : PySem.W.Frag) : Sp := fun vs H _ E => ∃ (F : FS) (W : Hp → Prop) (v : V) (L : Addr) (ds : List (Option Dd)) (ls : Lab) (er : Er × Nat), vs = [v, .ref L] ∧ Wo F W ∧ Ok F W H ∧ ¬ F L ∧ Da K H F v (.list (ds.map (oD deedD))) ∧ H L = some (.dK (labK ls)) ∧ (∀ d ∈ ds, okO d) ∧ ds.length ≤ 30000 ∧ cellsG ls [] [] 0 1 ds = .error er ∧ Rg K F W E H er
def spAsmX (K : PySem.W.Frag) : Sp := fun vs H _ E => ∃ (F : FS) (W : Hp → Prop) (t : LN) (er : Er × Nat), vs = [.str (oL t)] ∧ Wo F W ∧ Ok F W H ∧ t.length ≤ 20000 ∧ assembledL t = .error er ∧ Rg K F W E H er
theorem gs_none {line : LN} {ls : Lab} {a : Int} {k : Nat} (h : readL line = none) : goneStep line ls a k = .error (.deed, k) := by unfold goneStep; rw [h]
theorem gs_tell {line : LN} {ls : Lab} {a : Int} {k : Nat} {l : Option LN} {d : Option Dd} {e : Er × Nat} (h : readL line = some (l, d)) (h2 : tellL ls l a k = .error e) : goneStep line ls a k = .error e := by unfold goneStep; rw [h]; dsimp only; rw [h2]
theorem gs_move {line : LN} {ls ls' : Lab} {a : Int} {k : Nat} {l : Option LN} {d : Option Dd} {e : Er × Nat} (h : readL line = some (l, d)) (h2 : tellL ls l a k = .ok ls') (h3 : moveG ls' a k d = .error e) : goneStep line ls a k = .error e := by unfold goneStep; rw [h]; dsimp only; rw [h2]; dsimp only; rw [h3]
theorem gs_ok {line : LN} {ls ls' : Lab} {a a' : Int} {k : Nat} {l : Option LN} {d : Option Dd} (h : readL line = some (l, d)) (h2 : tellL ls l a k = .ok ls') (h3 : moveG ls' a k d = .ok a') : goneStep line ls a k = .ok (d, ls', a') := by unfold goneStep; rw [h]; dsimp only; rw [h2]; dsimp only; rw [h3]
theorem moveG_np {ls : Lab} {a : Int} {k : Nat} {dd : Dd} (np : ∀ ts, dd ≠ .place ts) : moveG ls a k (some dd) = withinL (a + 1) 64 k := by
  cases dd with
  | place ts => exact absurd rfl (np ts)
  | _ => rfl
theorem cellStep_np {ls : Lab} {m : Made} {pool : List Int} {a : Int} {k : Nat} {dd : Dd} (np : ∀ ts, dd ≠ .place ts) : cellStep ls m pool a k (some dd) = (match wordOf ls m pool a k dd with
    | .error e => .error e
    | .ok q => match makeL q.1 a q.2.2 k with
      | .error e => .error e
      | .ok m => .ok (m, q.2.1, a + 1)) := by
  cases dd with
  | place ts => exact absurd rfl (np ts)
  | _ => rfl
theorem moveG_pl {ls : Lab} {a : Int} {k : Nat} {ts : List (Int × LN)} : moveG ls a k (some (.place ts)) = amtW ls a ts 63 k := by
  unfold moveG amtW
  rfl
section
variable {σ : L2.St} {H : Hp} {K : PySem.W.Frag} {F : FS} {tl : TA} {tb tc tl0 : TE} {E : L2.St → XK} {w : V} {L : Addr} {at_ kk most a : Int} {k : Nat} {ts : List (Int × LN)} {ls : Lab} {x : Er × Nat}
theorem v_amt (h : ValA tl σ H [w, .ref L, .int at_, .int kk]) (hk : kk = (k : Int)) (hw : Da K H F w (termsD ts)) (dok : okTs ts) (hL : H L = some (.dK (labK ls))) (e : amtL ls at_ ts k = .ok a) : Val (tCallS (spAmountX K) E tl) σ H (.int a) :=
  v_callX h (fun _ q => ⟨w, L, at_, kk, k, ts, ls, F, rfl, hk, hw, dok, hL, by rw [e]; exact q⟩)
theorem b_amt (h : ValA tl σ H [w, .ref L, .int at_, .int kk]) (hk : kk = (k : Int)) (hw : Da K H F w (termsD ts)) (dok : okTs ts) (hL : H L = some (.dK (labK ls))) (e : amtL ls at_ ts k = .error x) (q : Rx K (E σ) H x) : Bad (tCallS (spAmountX K) E tl) σ H :=
  b_callX h (fun _ => ⟨w, L, at_, kk, k, ts, ls, F, rfl, hk, hw, dok, hL, by rw [e]; exact q⟩)
theorem v_amtW (h : ValA tl σ H [w, .ref L, .int at_, .int kk]) (hb : Val tb σ H (.int most)) (hc : Val tc σ H (.int kk)) (hk : kk = (k : Int)) (hw : Da K H F w (termsD ts)) (dok : okTs ts) (hL : H L = some (.dK (labK ls))) (e : amtW ls at_ ts most k = .ok a) :
    Val (tCallS (spWithinX K) E (tCons (tCallS (spAmountX K) E tl) (tCons tb (tCons tc tNil)))) σ H (.int a) := by
  unfold amtW at e
  cases z : amtL ls at_ ts k with
  | error y => rw [z] at e; cases e
  | ok b =>
    rw [z] at e
    exact v_callX (va_cons (v_amt h hk hw dok hL z) (va_cons hb (va_cons hc va_nil))) (fun _ q => ⟨b, most, kk, k, rfl, hk, by rw [show withinL b most k = .ok a from e]; exact q⟩)
theorem b_amtW (h : ValA tl σ H [w, .ref L, .int at_, .int kk]) (hb : Val tb σ H (.int most)) (hc : Val tc σ H (.int kk)) (hk : kk = (k : Int)) (hw : Da K H F w (termsD ts)) (dok : okTs ts) (hL : H L = some (.dK (labK ls))) (e : amtW ls at_ ts most k = .error x) (q : Rx K (E σ) H x) :
    Bad (tCallS (spWithinX K) E (tCons (tCallS (spAmountX K) E tl) (tCons tb (tCons tc tNil)))) σ H := by
  unfold amtW at e
  cases z : amtL ls at_ ts k with
  | error y =>
    rw [z] at e
    cases e
    exact b_arg (ba_hd (b_amt h hk hw dok hL z q))
  | ok b =>
    rw [z] at e
    exact b_callX (va_cons (v_amt h hk hw dok hL z) (va_cons hb (va_cons hc va_nil))) (fun _ => ⟨b, most, kk, k, rfl, hk, by rw [show withinL b most k = .error x from e]; exact q⟩)
theorem v_wit (ha : Val tl0 σ H (.int at_)) (hb : Val tb σ H (.int most)) (hc : Val tc σ H (.int kk)) (hk : kk = (k : Int)) (e : withinL at_ most k = .ok a) : Val (tCallS (spWithinX K) E (tCons tl0 (tCons tb (tCons tc tNil)))) σ H (.int a) :=
  v_callX (va_cons ha (va_cons hb (va_cons hc va_nil))) (fun _ q => ⟨at_, most, kk, k, rfl, hk, by rw [e]; exact q⟩)
theorem b_wit (ha : Val tl0 σ H (.int at_)) (hb : Val tb σ H (.int most)) (hc : Val tc σ H (.int kk)) (hk : kk = (k : Int)) (e : withinL at_ most k = .error x) (q : Rx K (E σ) H x) : Bad (tCallS (spWithinX K) E (tCons tl0 (tCons tb (tCons tc tNil)))) σ H :=
  b_callX (va_cons ha (va_cons hb (va_cons hc va_nil))) (fun _ => ⟨at_, most, kk, k, rfl, hk, by rw [e]; exact q⟩)
end
theorem isNone_deed2 (o : Option Dd) : isNoneD (oD deedD o) = o.isNone := isNone_oD (fun d => by cases d <;> rfl) o
theorem x_call1X {σ : L2.St} {H : Hp} {ta : TE} {sp : Sp} {E : L2.St → XK} {Q : VK} (h : ta σ H fun x H1 => sp [x] H1 Q (E σ)) : tCallS sp E (tCons ta tNil) σ H Q := h
section
variable {P : Program} {w : World} {K : PySem.W.Frag} {mg : Str → Option Value} {base : Heap}

theorem sc_amount_of : FnScope ["found", "labels", "here", "line", "amount", "sign", "one"] ["found", "labels", "here", "line"] (defScope s_amount_of) := ⟨rfl, rfl, rfl, by decide +kernel, rfl, by decide +kernel, by decide +kernel⟩
theorem cal_amount_of (T : Tx K mg) : CalX P w K mg base 3 "amount_of" ["found", "labels", "here", "line"] (spAmountX K) := by
  obtain ⟨fdB, FB, bB⟩ := fn_bad (P := P) (w := w) (base := base) T
  refine cal_mkX T 7 7 rfl rfl sc_amount_of (fun _ _ _ _ _ _ us hl => match us, hl with | [_, _, _, _], _ => rfl) (fun vs H Q E h => ?_) (fun f cdv A outer s H vs Q E hr h => ?_)
  · obtain ⟨v, D, here, kk, kn, ts, ls, F, rfl, rfl, hv, hok, hL, k⟩ := h
    rfl
  · obtain ⟨v, D, here, kk, kn, ts, ls, F, rfl, rfl, hv, hok, hL, k⟩ := h
    have hu := hu_of hr
    refine ⟨_, (pss_cons (ps_set (i := 4) sc_amount_of.nd rfl (Or.inl rfl) pe_int) (pss_cons (ps_for (passes_of rfl) rfl (pi_list (pv 0)) (pg_tup (by rfl) (pgs_cons (pg_name (i := 5) sc_amount_of.nd rfl (Or.inl rfl)) (pgs_cons (pg_name (i := 6) sc_amount_of.nd rfl (Or.inl rfl)) pgs_nil))) (pss_one (ps_if (pt_val (pe_cal (cal_is_number (K := K) T) hr (by decide) rfl (pa_cons (pv 6) pa_nil))) (pss_one (ps_set (i := 4) sc_amount_of.nd rfl (Or.inl rfl) (pe_op op_add (pv 4) (pe_op op_mul (pv 5) (pe_callTy call_int_str (by rfl) (T.free 32) (by decide +kernel) (pa_cons (pv 6) pa_nil)))))) (pss_one (ps_if (pt_cmpR op_eq (pv 6) pe_str (nomark _)) (pss_one (ps_set (i := 4) sc_amount_of.nd rfl (Or.inl rfl) (pe_op op_add (pv 4) (pe_op op_mul (pv 5) (pv 2))))) (pss_one (ps_if (pt_cmp (pc_din hu (pv 6) (pv 1))) (pss_one (ps_set (i := 4) sc_amount_of.nd rfl (Or.inl rfl) (pe_op op_add (pv 4) (pe_op op_mul (pv 5) (pe_dget hu (pv 1) (pv 6) (fun _ _ => rfl)))))) (pss_one (ps_rz rfl (takes_of (E := E) rfl rfl rfl rfl) (T.excs.2 "NoName" (by decide)) FB bB hr (by rfl) (T.glo 42) (pv 3)))))))))) (pss_one (ps_ret (pv 4))))), ?_⟩
    unfold amtL at k
    generalize hr0 : amountL ls here 0 ts = r0 at k
    refine q_set v_c ?_
    obtain ⟨b, xs, rfl, hb, xl, hxs⟩ := da_term hv
    refine q_forP (v_var rfl) hb (fun i σ' H' => H' = H ∧ ∃ amt y1 y2, σ' = [some (.ref b), some (.ref D), some (.int here), some (.int (kn : Int)), some (.int amt), y1, y2] ∧ amountL ls here amt (ts.drop i) = r0) ⟨rfl, 0, _, _, rfl, hr0⟩ (fun i σ' H' pv => by obtain ⟨rfl, _⟩ := pv; exact hb) (fun i x σ' H' hx pv => ?_) (fun σ' H' pv => ?_)
    · obtain ⟨rfl, amt, y1, y2, rfl, e⟩ := pv
      obtain ⟨T', q, hq, rfl, hT⟩ := hxs i x hx
      refine ⟨T', _, _, rfl, hT, ?_⟩
      obtain ⟨sg, one⟩ := q
      obtain ⟨sg1, ol⟩ := hok _ (List.mem_of_getElem? hq)
      rw [drop_at hq, amountL] at e
      have hm : CMul sg here := .inl (by rcases sg1 with h | h <;> (simp only at h; subst h; exact ⟨by decide, by decide⟩))
      refine s_if (a_B (v_call (va_cons (v_var rfl) va_nil) (fun _ q => ⟨one, rfl, by simp only at ol; omega, q⟩))) (fun c1 => ?_) (fun c1 => ?_)
      · rw [if_pos c1] at e
        obtain ⟨n1, n2⟩ := num_int c1
        have hm : CMul sg (numV one) := .inl (by rcases sg1 with h | h <;> (simp only at h; subst h; exact ⟨by decide, by decide⟩))
        exact s_set (v_add (v_var rfl) (v_mul (v_var rfl) (v_cb (va_cons (v_var rfl) va_nil) (fun _ q => ⟨_, _, rfl, n1, n2, q⟩)) hm)) ⟨rfl, _, _, _, rfl, e⟩
      rw [if_neg (by rw [c1]; exact Bool.false_ne_true)] at e
      refine s_if (a_t (v_eqO (v_var rfl) (v_eqv v_c (show V.str _ = V.str (oL hereL) from congrArg V.str (oL_tl _).symm)))) (fun c2 => ?_) (fun c2 => ?_)
      · rw [if_pos (of_decide_eq_true c2)] at e
        exact s_set (v_add (v_var rfl) (v_mul (v_var rfl) (v_var rfl) hm)) ⟨rfl, _, _, _, rfl, e⟩
      rw [if_neg (of_decide_eq_false c2)] at e
      refine s_if (a_t (v_dinL (v_var rfl) (v_var rfl) hL)) (fun c3 => ?_) (fun c3 => ?_)
      · obtain ⟨w, ew⟩ := Option.isSome_iff_exists.mp c3
        rw [ew] at e
        have hm : CMul sg w := .inl (by rcases sg1 with h | h <;> (simp only at h; subst h; exact ⟨by decide, by decide⟩))
        exact s_set (v_add (v_var rfl) (v_mul (v_var rfl) (v_dgetL (v_var rfl) (v_var rfl) hL ew) hm)) ⟨rfl, _, _, _, rfl, e⟩
      · cases z : labGet ls one with
        | none =>
          rw [z] at e
          subst e
          exact s_rz (T.excs.2 "NoName" (by decide)).oex (T.excs.2 "NoName" (by decide)).no (v_var rfl) (fun d hd => k d hd)
        | some w => rw [z] at c3; cases c3
    · obtain ⟨rfl, amt, y1, y2, rfl, e⟩ := pv
      rw [xl, List.drop_length, amountL] at e
      subst e
      exact s_ret (v_var rfl) k

theorem sc_within : FnScope ["amount", "most", "line"] ["amount", "most", "line"] (defScope s_within) := ⟨rfl, rfl, rfl, by decide +kernel, rfl, by decide +kernel, by decide +kernel⟩
theorem cal_within (T : Tx K mg) : CalX P w K mg base 3 "within" ["amount", "most", "line"] (spWithinX K) := by
  obtain ⟨fdB, FB, bB⟩ := fn_bad (P := P) (w := w) (base := base) T
  refine cal_mkX T 8 8 rfl rfl sc_within (fun _ _ _ _ _ _ us hl => match us, hl with | [_, _, _], _ => rfl) (fun vs H Q E h => ?_) (fun f cdv A outer s H vs Q E hr h => ?_)
  · obtain ⟨a, m, kk, kn, rfl, rfl, k⟩ := h
    rfl
  · obtain ⟨a, m, kk, kn, rfl, rfl, k⟩ := h
    refine ⟨_, (pss_cons (ps_if (pt_not (pt_chain op_le op_le pe_int (pv 0) (pv 1))) (pss_one (ps_rz rfl (takes_of (E := E) rfl rfl rfl rfl) (T.excs.2 "OutOfBounds" (by decide)) FB bB hr (by rfl) (T.glo 43) (pv 2))) pss_nil) (pss_one (ps_ret (pv 0)))), ?_⟩
    unfold withinL at k
    by_cases c : 0 ≤ a ∧ a ≤ m
    · rw [if_pos c] at k
      refine q_ifF0 (a_not (b := true) (a_t (v_eqv (v_chain v_c (v_var rfl) (fun _ q => rr_le q) (v_var rfl) (fun _ q => rr_le q)) (congrArg V.bl (by rw [decide_eq_true c.1, decide_eq_true c.2]; rfl))))) rfl ?_
      exact s_ret (v_var rfl) k
    · rw [if_neg c] at k
      refine q_ifT (a_not (b := false) (a_t (v_eqv (v_chain v_c (v_var rfl) (fun _ q => rr_le q) (v_var rfl) (fun _ q => rr_le q)) (congrArg V.bl (by rw [← Bool.decide_and]; exact decide_eq_false c))))) rfl ?_
      exact s_rz (T.excs.2 "OutOfBounds" (by decide)).oex (T.excs.2 "OutOfBounds" (by decide)).no (v_var rfl) (fun d hd => k d hd)

theorem sc_label_told : FnScope ["labels", "label", "at", "line"] ["labels", "label", "at", "line"] (defScope s_label_told) := ⟨rfl, rfl, rfl, by decide +kernel, rfl, by decide +kernel, by decide +kernel⟩
theorem cal_label_told (T : Tx K mg) : CalX P w K mg base 3 "label_told" ["labels", "label", "at", "line"] (spToldX K) := by
  obtain ⟨fdB, FB, bB⟩ := fn_bad (P := P) (w := w) (base := base) T
  refine cal_mkX T 9 9 rfl rfl sc_label_told (fun _ _ _ _ _ _ us hl => match us, hl with | [_, _, _, _], _ => rfl) (fun vs H Q E h => ?_) (fun f cdv A outer s H vs Q E hr h => ?_)
  · obtain ⟨D, l, a, kk, kn, ls, rfl, rfl, hL, ll, k⟩ := h
    rfl
  · obtain ⟨D, l, a, kk, kn, ls, rfl, rfl, hL, ll, k⟩ := h
    have hu := hu_of hr
    refine ⟨_, (pss_one (ps_if (pt_cmpR op_notN1 (pv 1) pe_non (nomark _)) (pss_cons (ps_if (pt_cmp (pc_din hu (pv 1) (pv 0))) (pss_one (ps_rz rfl (takes_of (E := E) rfl rfl rfl rfl) (T.excs.2 "Twice" (by decide)) FB bB hr (by rfl) (T.glo 41) (pv 3))) pss_nil) (pss_one (ps_dput hu (pv 0) (pv 1) (pv 2) rfl))) pss_nil)), ?_⟩
    cases l with
    | none =>
      rw [tellL] at k
      have k : Q .non (upd H D (.dK (labK ls))) := k
      rw [upd_id hL] at k
      exact s_ifF0 (a_t (v_eqv (v_notN (v_var rfl) v_c) rfl)) rfl k
    | some x =>
      rw [tellL] at k
      refine s_ifT (a_t (v_eqv (v_notN (v_var rfl) v_c) rfl)) rfl ?_
      cases z : labGet ls x with
      | some w =>
        rw [z] at k
        refine q_ifT (a_t (v_dinL (v_var rfl) (v_var rfl) hL)) (by rw [z]; rfl) ?_
        exact s_rz (T.excs.2 "Twice" (by decide)).oex (T.excs.2 "Twice" (by decide)).no (v_var rfl) (fun d hd => k d hd)
      | none =>
        rw [z] at k
        have k : Q .non (upd H D (.dK (labK (ls ++ [(x, a)])))) := k
        refine q_ifF0 (a_t (v_dinL (v_var rfl) (v_var rfl) hL)) (by rw [z]; rfl) ?_
        refine (v_var rfl) _ ((v_var rfl) _ ((v_var rfl) _ ⟨D, _, rfl, DPut.k (k := Sum.inr (oL x)) hL (lt_line (by unfold labK; rw [List.length_map]; omega)), ?_⟩))
        rw [labK_put z]
        exact k

theorem sc_make_cell : FnScope ["made", "at", "number", "line"] ["made", "at", "number", "line"] (defScope s_make_cell) := ⟨rfl, rfl, rfl, by decide +kernel, rfl, by decide +kernel, by decide +kernel⟩
theorem cal_make_cell (T : Tx K mg) : CalX P w K mg base 3 "make_cell" ["made", "at", "number", "line"] (spMakeX K) := by
  obtain ⟨fdB, FB, bB⟩ := fn_bad (P := P) (w := w) (base := base) T
  refine cal_mkX T 11 11 rfl rfl sc_make_cell (fun _ _ _ _ _ _ us hl => match us, hl with | [_, _, _, _], _ => rfl) (fun vs H Q E h => ?_) (fun f cdv A outer s H vs Q E hr h => ?_)
  · obtain ⟨M, a, n, kk, kn, m, rfl, rfl, hM, ml, k⟩ := h
    rfl
  · obtain ⟨M, a, n, kk, kn, m, rfl, rfl, hM, ml, k⟩ := h
    have hu := hu_of hr
    refine ⟨_, (pss_cons (ps_if (PW.pt (pw_or (pt_cmp (pc_din hu (pv 1) (pv 0))) (pw_or1 (pt_cmpR op_lt (pv 1) pe_int (nomark _))))) (pss_one (ps_rz rfl (takes_of (E := E) rfl rfl rfl rfl) (T.excs.2 "Taken" (by decide)) FB bB hr (by rfl) (T.glo 44) (pv 3))) pss_nil) (pss_one (ps_dput hu (pv 0) (pv 1) (pv 2) rfl))), ?_⟩
    unfold makeL at k
    by_cases c : (madeGet m a).isSome = true ∨ a < 0
    · rw [if_pos c] at k
      refine q_ifT (a_or (a_t (v_dinM (v_var rfl) (v_var rfl) hM)) (fun _ => a_t (v_lt (v_var rfl) v_c))) (by rcases c with c | c <;> simp [c]) ?_
      exact s_rz (T.excs.2 "Taken" (by decide)).oex (T.excs.2 "Taken" (by decide)).no (v_var rfl) (fun d hd => k d hd)
    rw [if_neg c] at k
    have k : Q .non (upd H M (.dK (madeK (m ++ [(a, n)])))) := k
    have c1 : madeGet m a = none := by cases z : madeGet m a with
      | none => rfl
      | some w => exact absurd (.inl (by rw [z]; rfl)) c
    refine q_ifF0 (a_or (b := false) (c := false) (a_t (v_eqv (v_dinM (v_var rfl) (v_var rfl) hM) (congrArg V.bl (by rw [c1]; rfl)))) (fun _ => a_t (v_eqv (v_lt (v_var rfl) v_c) (congrArg V.bl (decide_eq_false fun z => c (.inr z)))))) rfl ?_
    refine (v_var rfl) _ ((v_var rfl) _ ((v_var rfl) _ ⟨M, _, rfl, DPut.k (k := Sum.inl a) hM (lt_line (by unfold madeK; rw [List.length_map]; omega)), ?_⟩))
    rw [madeK_put c1]
    exact k

theorem sc_pool_place : FnScope ["made", "pool", "number", "line"] ["made", "pool", "number", "line"] (defScope s_pool_place) := ⟨rfl, rfl, rfl, by decide +kernel, rfl, by decide +kernel, by decide +kernel⟩
theorem cal_pool_place (T : Tx K mg) : CalX P w K mg base 4 "pool_place" ["made", "pool", "number", "line"] (spPoolX K) := by
  obtain ⟨fdB, FB, bB⟩ := fn_bad (P := P) (w := w) (base := base) T
  refine cal_mkX T 12 12 rfl rfl sc_pool_place (fun _ _ _ _ _ _ us hl => match us, hl with | [_, _, _, _], _ => rfl) (fun vs H Q E h => ?_) (fun f cdv A outer s H vs Q E hr h => ?_)
  · obtain ⟨M, P, n, kk, kn, m, pool, rfl, rfl, MP, hM, hP, ml, pl, k⟩ := h
    rfl
  · obtain ⟨M, P, n, kk, kn, m, pool, rfl, rfl, MP, hM, hP, ml, pl, k⟩ := h
    refine ⟨_, (pss_cons (ps_if (pt_cmpR op_notIn_seq (pv 2) (pv 1) (by rfl)) (pss_cons (ps_expr (pe_calX (cal_make_cell (K := K) T) (takes_of (E := E) rfl rfl rfl rfl) hr (by decide) rfl (pa_cons (pv 0) (pa_cons (pe_op op_sub pe_int (pe_callB call_len_seq (by rfl) (T.free 29) PySem.boot_len (pa_cons (pv 1) pa_nil))) (pa_cons (pv 2) (pa_cons (pv 3) pa_nil)))))) (pss_one (ps_expr (pe_bm PySem.F.plainAttrs_list PySem.F.slot_list_append PySem.F.type_list_append mt_append (pv 1) (pa_cons (pv 2) pa_nil))))) pss_nil) (pss_one (ps_ret (pe_op op_sub pe_int (pe_bm PySem.F.plainAttrs_list PySem.F.slot_list_index PySem.F.type_list_index mt_index (pv 1) (pa_cons (pv 2) pa_nil)))))), ?_⟩
    unfold poolL at k
    by_cases c : n ∈ pool
    · rw [if_pos c] at k
      have k : Q (.int (63 - (pool.idxOf n : Nat))) (upd (upd H M (.dK (madeK m))) P (.lst (pool.map V.int))) := k
      rw [upd_id hM, upd_id hP] at k
      refine q_ifF0 (a_t (v_eqv (v_notInL (K := K) (v_var rfl) (v_var rfl) (SqL.of hP)) (congrArg V.bl (by rw [decide_eq_true c]; rfl)))) rfl ?_
      exact s_ret (v_sub v_c (v_lidx (v_var rfl) (v_var rfl) hP c)) k
    rw [if_neg c] at k
    refine q_ifT (a_t (v_eqv (v_notInL (K := K) (v_var rfl) (v_var rfl) (SqL.of hP)) (congrArg V.bl (by rw [decide_eq_false c]; rfl)))) rfl ?_
    refine q_doX (va_cons (v_var rfl) (va_cons (v_eqv (v_sub v_c (v_cb (va_cons (v_var rfl) va_nil) (fun _ q => ⟨_, _, rfl, .inl (SqL.of hP), q⟩))) (show _ = V.int (63 - (pool.length : Nat)) by rw [List.length_map])) (va_cons (v_var rfl) (va_cons (v_var rfl) va_nil)))) ⟨M, _, n, _, kn, m, rfl, rfl, hM, by omega, ?_⟩
    cases hm1 : makeL m (63 - (pool.length : Nat)) n kn with
    | error x =>
      rw [hm1] at k
      exact k
    | ok m1 =>
    rw [hm1] at k
    have hP1 : (upd H M (.dK (madeK m1))) P = some (.lst (pool.map V.int)) := by rw [upd_ne MP.symm]; exact hP
    refine sx_drop (x_append (v_var rfl) hP1 (by rw [List.length_map]; omega) (v_var rfl) ?_)
    have el : pool.map V.int ++ [V.int n] = (pool ++ [n]).map V.int := by rw [List.map_append]; rfl
    have ei : (pool ++ [n]).idxOf n = pool.length := by rw [List.idxOf_append, if_neg c]; simp
    rw [el]
    exact s_ret (v_eqv (v_sub v_c (v_lidx (v_var rfl) (v_var rfl) upd_same (List.mem_append_right _ List.mem_cons_self))) (show _ = V.int (63 - (pool.length : Nat)) by rw [ei])) k
end
section
variable {P : Program} {w : World} {K : PySem.W.Frag} {mg : Str → Option Value} {base : Heap}

theorem sc_gone_over : FnScope ["lines", "deeds", "labels", "at", "k", "line", "got"] ["lines"] (defScope s_gone_over) := ⟨rfl, rfl, rfl, by decide +kernel, rfl, by decide +kernel, by decide +kernel⟩
theorem cal_gone_over (T : Tx K mg) : CalX P w K mg base 6 "gone_over" ["lines"] (spGoneX K) := by
  obtain ⟨fdB, FB, bB⟩ := fn_bad (P := P) (w := w) (base := base) T
  refine cal_mkX T 10 10 rfl rfl sc_gone_over (fun _ _ _ _ _ _ us hl => match us, hl with | [_], _ => rfl) (fun vs H Q E h => ?_) (fun f cdv A outer s H vs Q E hr h => ?_)
  · obtain ⟨F, W, v, lines, rfl, wo, ok, hv, ll, sl, k⟩ := h
    rfl
  · obtain ⟨F, W, v, lines, rfl, wo, ok, hv, ll, sl, k⟩ := h
    refine ⟨_, (pss_cons (ps_set (i := 1) sc_gone_over.nd rfl (Or.inl rfl) (pe_lst pa_nil)) (pss_cons (ps_set (i := 2) sc_gone_over.nd rfl (Or.inl rfl) pe_dnewK) (pss_cons (ps_set (i := 3) sc_gone_over.nd rfl (Or.inl rfl) pe_int) (pss_cons (ps_for (passes_of rfl) rfl (pi_enum (by rfl) (T.free 35) (pa_cons (pv 0) pa_nil)) (pg_tup (by rfl) (pgs_cons (pg_name (i := 4) sc_gone_over.nd rfl (Or.inl rfl)) (pgs_cons (pg_name (i := 5) sc_gone_over.nd rfl (Or.inl rfl)) pgs_nil))) (pss_cons (ps_set (i := 6) sc_gone_over.nd rfl (Or.inl rfl) (pe_cal (cal_read (K := K) T) hr (by decide) rfl (pa_cons (pv 5) pa_nil))) (pss_cons (ps_if (pt_cmpR op_isN1 (pv 6) pe_non (nomark _)) (pss_one (ps_rz rfl (takes_of (E := E) rfl rfl rfl rfl) (T.excs.2 "NoDeed" (by decide)) FB bB hr (by rfl) (T.glo 40) (pe_op op_add (pv 4) pe_int))) pss_nil) (pss_cons (ps_expr (pe_calX (cal_label_told (K := K) T) (takes_of (E := E) rfl rfl rfl rfl) hr (by decide) rfl (pa_cons (pv 2) (pa_cons (pe_ix ix_tup (pv 6) pe_int (fun _ _ => rfl)) (pa_cons (pv 3) (pa_cons (pe_op op_add (pv 4) pe_int) pa_nil)))))) (pss_cons (ps_expr (pe_bm PySem.F.plainAttrs_list PySem.F.slot_list_append PySem.F.type_list_append mt_append (pv 1) (pa_cons (pe_ix ix_tup (pv 6) pe_int (fun _ _ => rfl)) pa_nil))) (pss_cons (ps_if (pt_cmpR op_isN1 (pe_ix ix_tup (pv 6) pe_int (fun _ _ => rfl)) pe_non (nomark _)) (pss_one ps_continue) pss_nil) (pss_one (ps_if (pt_cmpR op_eq (pe_ix ix_tup (pe_ix ix_tup (pv 6) pe_int (fun _ _ => rfl)) pe_int (fun _ _ => rfl)) pe_str (nomark _)) (pss_one (ps_set (i := 3) sc_gone_over.nd rfl (Or.inl rfl) (pe_calX (cal_within (K := K) T) (takes_of (E := E) rfl rfl rfl rfl) hr (by decide) rfl (pa_cons (pe_calX (cal_amount_of (K := K) T) (takes_of (E := E) rfl rfl rfl rfl) hr (by decide) rfl (pa_cons (pe_ix ix_tup (pe_ix ix_tup (pv 6) pe_int (fun _ _ => rfl)) pe_int (fun _ _ => rfl)) (pa_cons (pv 2) (pa_cons (pv 3) (pa_cons (pe_op op_add (pv 4) pe_int) pa_nil))))) (pa_cons pe_int (pa_cons (pe_op op_add (pv 4) pe_int) pa_nil)))))) (pss_one (ps_set (i := 3) sc_gone_over.nd rfl (Or.inl rfl) (pe_calX (cal_within (K := K) T) (takes_of (E := E) rfl rfl rfl rfl) hr (by decide) rfl (pa_cons (pe_op op_add (pv 3) pe_int) (pa_cons pe_int (pa_cons (pe_op op_add (pv 4) pe_int) pa_nil)))))))))))))) (pss_one (ps_ret (pe_tup (pa_cons (pv 1) (pa_cons (pv 2) pa_nil))))))))), ?_⟩
    obtain ⟨b, rfl, _⟩ := hv.lns
    unfold goneL at k
    generalize hr0 : goneG [] [] 0 1 lines = res at k
    refine q_dn' (K := K) (ds := []) (dn_lst wo da_nil) ok .refl (fun D H1 hD ow1 m1 => ?_)
    refine qx_set (fun L hL1 => ?_)
    have hL : H L = none := ow1.ok.free m1 hL1
    have nF : ¬ F L := ok.fa.no hL
    have ow := ow1.withD wo hL1
    have rxo : ∀ {H5 : Hp} {kvs : List (Key × V)} {ds5 : List PyData} {er : Er × Nat}, Own K H (withF F L) (Wd W L kvs) D H5 ds5 → Rg K F W E H er → Rx K E H5 er := fun ow k => rg_rx wo (ow.mvH hL) ⟨fun b f => ow.ok.fa b (.inl f), ow.ok.w.1⟩ k
    refine q_set v_c ?_
    generalize upd H1 L (.dK []) = H2 at ow
    clear ow1 hL1
    refine q_forE (xs := lines.map fun l => V.str (oL l)) (va_cons (v_var rfl) va_nil) (by obtain ⟨b', e, hq⟩ := (hv.mv (ow.mvG hL)).lns; cases e; exact hq) (fun i σ' H' => ∃ (acc : List (Option Dd)) (ls : Lab) (at_ : Int) (y1 y2 y3 : Option V), σ' = [some (.ref b), some (.ref D), some (.ref L), some (.int at_), y1, y2, y3] ∧ Own K H (withF F L) (Wd W L (labK ls)) D H' (acc.map (oD deedD)) ∧ acc.length = i ∧ ls.length ≤ i ∧ (∀ d ∈ acc, okO d) ∧ goneG acc ls at_ (i + 1) (lines.drop i) = res) ⟨[], [], 0, _, _, _, rfl, ow, rfl, Nat.le_refl _, fun d h => (by cases h), hr0⟩ (fun i σ' H' pv => ?_) (fun i x σ' H' T' hx pv hT' => ?_) (fun σ' H' pv => ?_)
    · obtain ⟨acc, ls, at_, y1, y2, y3, rfl, ow, _⟩ := pv
      obtain ⟨b', e, hq⟩ := (hv.mv (ow.mvG hL)).lns
      cases e; exact hq
    · obtain ⟨acc, ls, at_, y1, y2, y3, rfl, ow, al, lsl, hok, e⟩ := pv
      rw [List.getElem?_map] at hx
      obtain ⟨line, hln, rfl⟩ := Option.map_eq_some_iff.mp hx
      have il := (List.getElem?_eq_some_iff.mp hln).1
      have lnl := sl line (List.mem_of_getElem? hln)
      have wo1 : Wo (withF F L) (Wd W L (labK ls)) := woD wo
      have ow := ow.same wo1 (smN (o := .tup [V.int (i : Int), V.str (oL line)]) hT')
      generalize upd H' T' (.tup [V.int (i : Int), V.str (oL line)]) = H3 at ow ⊢
      rw [drop_at hln, goneG] at e
      obtain ⟨o2, w2⟩ := ow.tn wo1
      refine q_d (K := K) (d := oD readD (readL line)) (dv_spW w2 (fun _ _ _ => va_cons (v_var rfl) va_nil) (fun _ _ _ => ⟨line, rfl, lnl, rfl⟩)) o2 (fun vg H4 m4 o4 hg => ?_)
      have ow4 := ow.step wo1 m4 o4
      clear o2 w2 m4 o4 ow
      cases er : readL line with
      | none =>
        rw [er] at hg
        cases hg
        rw [gs_none er] at e
        have e : (Except.error (Er.deed, i + 1) : Except (Er × Nat) (List (Option Dd) × Lab)) = res := e
        subst e
        refine q_ifT (a_t (v_eqv (v_isN (v_var rfl) v_c) (show _ = V.bl true from rfl))) rfl ?_
        exact s_rz (T.excs.2 "NoDeed" (by decide)).oex (T.excs.2 "NoDeed" (by decide)).no (v_add (v_var rfl) v_c) (fun d hd => rxo ow4 k d hd)
      | some ld =>
      obtain ⟨l, d⟩ := ld
      rw [er] at hg
      have dok := readL_ok lnl er
      obtain ⟨Tg, v2, rfl, hTg, hd2⟩ := da_readD hg
      refine q_ifF0 (a_t (v_eqv (v_isN (v_var rfl) v_c) (show _ = V.bl false from rfl))) rfl ?_
      refine q_doX (va_cons (v_var rfl) (va_cons (v_ixT (v_var rfl) v_c hTg (by decide) rfl) (va_cons (v_var rfl) (va_cons (v_add (v_var rfl) v_c) va_nil)))) ⟨L, l, at_, _, i + 1, ls, rfl, by simp, ow4.ok.w.2, by omega, ?_⟩
      cases et : tellL ls l at_ (i + 1) with
      | error x =>
        rw [gs_tell er et] at e
        have e : (Except.error x : Except (Er × Nat) (List (Option Dd) × Lab)) = res := e
        subst e
        exact rxo ow4 k
      | ok ls' =>
      have ow5 : Own K H (withF F L) (Wd W L (labK ls')) D (upd H4 L (.dK (labK ls'))) _ := ow4.putD wo nF
      have hg5 : Da K (upd H4 L (.dK (labK ls'))) (withF (withF F L) D) (.ref Tg) (readD (l, d)) := hg.mv (mvD (.inl (.inr rfl)))
      refine outX_ok ?_
      dsimp only []
      generalize upd H4 L (.dK (labK ls')) = H5 at ow5 hg5 ⊢
      clear hTg hd2 hg ow4 wo1
      have wo1 : Wo (withF F L) (Wd W L (labK ls')) := woD wo
      refine qx_drop (x_own_app (d := oD deedD d) wo1 ow5 (v_var rfl) (dv_ixT (ds := [oD lnD l, oD deedD d]) (dv_var rfl hg5) (fun _ _ _ => v_c) (by decide) rfl) (by rw [List.length_map]; omega) (fun H6 ow6 m6 => ?_))
      have ow6 : Own K H (withF F L) (Wd W L (labK ls')) D H6 ((acc ++ [d]).map (oD deedD)) := ow6.re (by rw [List.map_append]; rfl)
      have hg6 := hg5.mv (m6 _ (.inr rfl) (fun b f => .inl f))
      clear m6 ow5 hg5
      have al' : (acc ++ [d]).length = i + 1 := by rw [List.length_append]; simp; exact al
      have lsl' : ls'.length ≤ i + 1 := Nat.le_trans (tell_len et) (by omega)
      have hok' : ∀ x ∈ acc ++ [d], okO x := fun x hx => (List.mem_append.mp hx).elim (hok x) (fun h => by rw [List.mem_singleton.mp h]; exact dok)
      obtain ⟨T2, v2, e2, hTg, hd2⟩ := da_readD hg6
      cases e2
      refine q_if (b := d.isNone) (a_t (v_eqv (v_isN (v_ixT (v_var rfl) v_c hTg (by decide) rfl) v_c) (congrArg V.bl (by rw [isNone_da hd2, isNone_deed2])))) (fun c => ?_) (fun c => ?_)
      · have c := Option.isNone_iff_eq_none.mp c
        subst c
        rw [gs_ok er et rfl] at e
        exact ⟨_, ls', _, _, _, _, rfl, ow6, al', lsl', hok', e⟩
      refine s_next ?_
      cases d with
      | none => cases c
      | some dd =>
      by_cases ip : ∃ ts, dd = .place ts
      · obtain ⟨ts, rfl⟩ := ip
        obtain ⟨T3, w, rfl, hT3, hw⟩ := da_place hd2
        refine s_ifT (a_t (v_eqv (v_eqS (v_ixT (v_ixT (v_var rfl) v_c hTg (by decide) rfl) v_c hT3 (by decide) rfl) v_c) (congrArg V.bl (decide_eq_true rfl)))) rfl ?_
        cases ha : amtW ls' at_ ts 63 (i + 1) with
        | error x =>
          rw [gs_move er et (moveG_pl.trans ha)] at e
          have e : (Except.error x : Except (Er × Nat) (List (Option Dd) × Lab)) = res := e
          subst e
          exact s_bad (b_amtW (va_cons (v_ixT (v_ixT (v_var rfl) v_c hTg (by decide) rfl) v_c hT3 (by decide) rfl) (va_cons (v_var rfl) (va_cons (v_var rfl) (va_cons (v_add (v_var rfl) v_c) va_nil)))) v_c (v_add (v_var rfl) v_c) (by simp) hw dok ow6.ok.w.2 ha (rxo ow6 k))
        | ok a1 =>
          rw [gs_ok er et (moveG_pl.trans ha)] at e
          exact s_set (v_amtW (va_cons (v_ixT (v_ixT (v_var rfl) v_c hTg (by decide) rfl) v_c hT3 (by decide) rfl) (va_cons (v_var rfl) (va_cons (v_var rfl) (va_cons (v_add (v_var rfl) v_c) va_nil)))) v_c (v_add (v_var rfl) v_c) (by simp) hw dok ow6.ok.w.2 ha) ⟨_, ls', a1, _, _, _, rfl, ow6, al', lsl', hok', e⟩
      · have np : ∀ ts, dd ≠ .place ts := fun ts z => ip ⟨ts, z⟩
        obtain ⟨T3, xs, rfl, hT3, hx0⟩ := da_deedHd hd2
        have hne : hdS dd ≠ "place" := by cases dd with
          | place ts => exact absurd rfl (np ts)
          | word ts => exact (show ("word" : Str) ≠ "place" by decide)
          | made n => exact (show ("made" : Str) ≠ "place" by decide)
          | aim b ts => exact (show ("aim" : Str) ≠ "place" by decide)
          | pool b ts => exact (show ("pool" : Str) ≠ "place" by decide)
        refine s_ifF (a_t (v_eqv (v_eqS (v_ixT (v_ixT (v_var rfl) v_c hTg (by decide) rfl) v_c hT3 (by decide) hx0) v_c) (congrArg V.bl (decide_eq_false hne)))) rfl ?_
        cases ha : withinL (at_ + 1) 64 (i + 1) with
        | error x =>
          rw [gs_move er et ((moveG_np np).trans ha)] at e
          have e : (Except.error x : Except (Er × Nat) (List (Option Dd) × Lab)) = res := e
          subst e
          exact s_bad (b_wit (v_add (v_var rfl) v_c) v_c (v_add (v_var rfl) v_c) (by simp) ha (rxo ow6 k))
        | ok a1 =>
          rw [gs_ok er et ((moveG_np np).trans ha)] at e
          exact s_set (v_wit (v_add (v_var rfl) v_c) v_c (v_add (v_var rfl) v_c) (by simp) ha) ⟨_, ls', a1, _, _, _, rfl, ow6, al', lsl', hok', e⟩
    · obtain ⟨acc, ls, at_, y1, y2, y3, rfl, ow, al, lsl, hok, e⟩ := pv
      rw [List.length_map] at al e
      rw [List.drop_length, goneG] at e
      subst e
      refine s_retT (va_cons (v_var rfl) (va_cons (v_var rfl) va_nil)) (by simp) (fun T' hT' => ?_)
      have ow := ow.same (woD wo) (smN (o := .tup [V.ref D, V.ref L]) hT')
      exact k T' D L _ (ow.mvH hL) ⟨fun b f => ow.ok.fa b (.inl f), ow.ok.w.1⟩ (SqT.of upd_same) hL ow.ok.w.2 ow.no ow.ow al hok
end
section
variable {P : Program} {w : World} {K : PySem.W.Frag} {mg : Str → Option Value} {base : Heap}

theorem sc_cells_made : FnScope ["deeds", "labels", "made", "pool", "at", "k", "deed", "number", "want"] ["deeds", "labels"] (defScope s_cells_made) := ⟨rfl, rfl, rfl, by decide +kernel, rfl, by decide +kernel, by decide +kernel⟩
theorem cal_cells_made (T : Tx K mg) : CalX P w K mg base 6 "cells_made" ["deeds", "labels"] (spCellsX K) := by
  obtain ⟨fdB, FB, bB⟩ := fn_bad (P := P) (w := w) (base := base) T
  refine cal_mkX T 13 13 rfl rfl sc_cells_made (fun _ _ _ _ _ _ us hl => match us, hl with | [_, _], _ => rfl) (fun vs H Q E h => ?_) (fun f cdv A outer s H vs Q E hr h => ?_)
  · obtain ⟨F, W, v, L, ds, ls, er, rfl, wo, ok, nL, hv, hL, hok, dl, e0, k⟩ := h
    rfl
  · obtain ⟨F, W, v, L, ds, ls, er, rfl, wo, ok, nL, hv, hL, hok, dl, e0, k⟩ := h
    refine ⟨_, (pss_cons (ps_set (i := 2) sc_cells_made.nd rfl (Or.inl rfl) pe_dnewK) (pss_cons (ps_set (i := 3) sc_cells_made.nd rfl (Or.inl rfl) (pe_lst pa_nil)) (pss_cons (ps_set (i := 4) sc_cells_made.nd rfl (Or.inl rfl) pe_int) (pss_cons (ps_for (passes_of rfl) rfl (pi_enum (by rfl) (T.free 35) (pa_cons (pv 0) pa_nil)) (pg_tup (by rfl) (pgs_cons (pg_name (i := 5) sc_cells_made.nd rfl (Or.inl rfl)) (pgs_cons (pg_name (i := 6) sc_cells_made.nd rfl (Or.inl rfl)) pgs_nil))) (pss_cons (ps_if (pt_cmpR op_isN1 (pv 6) pe_non (nomark _)) (pss_one ps_continue) pss_nil) (pss_cons (ps_if (pt_cmpR op_eq (pe_ix ix_tup (pv 6) pe_int (fun _ _ => rfl)) pe_str (nomark _)) (pss_cons (ps_set (i := 4) sc_cells_made.nd rfl (Or.inl rfl) (pe_calX (cal_amount_of (K := K) T) (takes_of (E := E) rfl rfl rfl rfl) hr (by decide) rfl (pa_cons (pe_ix ix_tup (pv 6) pe_int (fun _ _ => rfl)) (pa_cons (pv 1) (pa_cons (pv 4) (pa_cons (pe_op op_add (pv 5) pe_int) pa_nil)))))) (pss_one ps_continue)) pss_nil) (C8.pss_cut (ps_if (pt_cmpR op_eq (pe_ix ix_tup (pv 6) pe_int (fun _ _ => rfl)) pe_str (nomark _)) (pss_one (ps_set (i := 7) sc_cells_made.nd rfl (Or.inl rfl) (pe_ix ix_tup (pv 6) pe_int (fun _ _ => rfl)))) (pss_one (ps_if (pt_cmpR op_eq (pe_ix ix_tup (pv 6) pe_int (fun _ _ => rfl)) pe_str (nomark _)) (pss_one (ps_set (i := 7) sc_cells_made.nd rfl (Or.inl rfl) (pe_calX (cal_within (K := K) T) (takes_of (E := E) rfl rfl rfl rfl) hr (by decide) rfl (pa_cons (pe_calX (cal_amount_of (K := K) T) (takes_of (E := E) rfl rfl rfl rfl) hr (by decide) rfl (pa_cons (pe_ix ix_tup (pv 6) pe_int (fun _ _ => rfl)) (pa_cons (pv 1) (pa_cons (pv 4) (pa_cons (pe_op op_add (pv 5) pe_int) pa_nil))))) (pa_cons pe_int (pa_cons (pe_op op_add (pv 5) pe_int) pa_nil)))))) (pss_one (ps_if (pt_cmpR op_eq (pe_ix ix_tup (pv 6) pe_int (fun _ _ => rfl)) pe_str (nomark _)) (pss_one (ps_set (i := 7) sc_cells_made.nd rfl (Or.inl rfl) (pe_op op_add (pe_ix ix_tup (pv 6) pe_int (fun _ _ => rfl)) (pe_calX (cal_within (K := K) T) (takes_of (E := E) rfl rfl rfl rfl) hr (by decide) rfl (pa_cons (pe_calX (cal_amount_of (K := K) T) (takes_of (E := E) rfl rfl rfl rfl) hr (by decide) rfl (pa_cons (pe_ix ix_tup (pv 6) pe_int (fun _ _ => rfl)) (pa_cons (pv 1) (pa_cons (pv 4) (pa_cons (pe_op op_add (pv 5) pe_int) pa_nil))))) (pa_cons pe_int (pa_cons (pe_op op_add (pv 5) pe_int) pa_nil))))))) (pss_cons (ps_set (i := 8) sc_cells_made.nd rfl (Or.inl rfl) (pe_calX (cal_within (K := K) T) (takes_of (E := E) rfl rfl rfl rfl) hr (by decide) rfl (pa_cons (pe_calX (cal_amount_of (K := K) T) (takes_of (E := E) rfl rfl rfl rfl) hr (by decide) rfl (pa_cons (pe_ix ix_tup (pv 6) pe_int (fun _ _ => rfl)) (pa_cons (pv 1) (pa_cons (pv 4) (pa_cons (pe_op op_add (pv 5) pe_int) pa_nil))))) (pa_cons pe_int (pa_cons (pe_op op_add (pv 5) pe_int) pa_nil))))) (pss_one (ps_set (i := 7) sc_cells_made.nd rfl (Or.inl rfl) (pe_op op_add (pe_ix ix_tup (pv 6) pe_int (fun _ _ => rfl)) (pe_calX (cal_pool_place (K := K) T) (takes_of (E := E) rfl rfl rfl rfl) hr (by decide) rfl (pa_cons (pv 2) (pa_cons (pv 3) (pa_cons (pv 8) (pa_cons (pe_op op_add (pv 5) pe_int) pa_nil)))))))))))))) (pss_cons (ps_expr (pe_calX (cal_make_cell (K := K) T) (takes_of (E := E) rfl rfl rfl rfl) hr (by decide) rfl (pa_cons (pv 2) (pa_cons (pv 4) (pa_cons (pv 7) (pa_cons (pe_op op_add (pv 5) pe_int) pa_nil)))))) (pss_one (ps_set (i := 4) sc_cells_made.nd rfl (Or.inl rfl) (pe_op op_add (pv 4) pe_int)))))))) (pss_one (ps_ret (pv 2))))))), ?_⟩
    refine qx_set (fun M hM0 => ?_)
    have ok1 := ok.same wo (smN (o := .dK []) hM0)
    refine q_setL va_nil (by simp) (fun P hP0 => ?_)
    have fM : ¬ F M := ok.fa.no hM0
    have fP : ¬ F P := ok1.fa.no hP0
    have MP : M ≠ P := ne_of_none upd_same hP0
    have LM : L ≠ M := ne_of_none hL hM0
    have LP : L ≠ P := ne_of_none (smN hM0 _ _ hL) hP0
    have no : CNo F L M P := ⟨fM, fP, MP, LM, LP⟩
    have s12 : Same H (upd (upd H M (.dK [])) P (.lst [])) := (smN hM0).trans (smN hP0)
    have hP00 : H P = none := (smN hM0).free hP0
    have cs0 : CSt F W (upd (upd H M (.dK [])) P (.lst [])) L M P ls [] [] (upd (upd H M (.dK [])) P (.lst [])) := ⟨.refl, ok.same wo s12, s12 _ _ hL, by rw [upd_ne MP, upd_same]; rfl, upd_same⟩
    have hv2 : Da K (upd (upd H M (.dK [])) P (.lst [])) (withF (withF F M) P) v (.list (ds.map (oD deedD))) := hv.mv ⟨fun b o n e => s12 b o e, fun b f => f.elim (fun f => f.elim .inl (fun e => .inr (by rw [e]; exact hM0))) (fun e => .inr (by rw [e]; exact hP00))⟩
    refine q_set v_c ?_
    generalize hH2 : upd (upd H M (.dK [])) P (.lst []) = H2 at cs0 hv2 s12 ⊢
    have rxc : ∀ {m : Made} {pool : List Int} {H5 : Hp}, CSt F W H2 L M P ls m pool H5 → Rx K E H5 er := fun cs => rg_rx wo ⟨fun b o n e => cs.mv.keep b o (fun f => f.elim (fun f => f.elim n (fun z => by rw [z, hM0] at e; cases e)) (fun z => by rw [z, hP00] at e; cases e)) (s12 b o e), fun b f => .inl f⟩ cs.ok k
    obtain ⟨b, xs, rfl, hb1, hxs⟩ : ∃ b xs, v = .ref b ∧ LsA H2 (withF (withF F M) P) b xs ∧ DaAll K H2 (withF (withF F M) P) xs (ds.map (oD deedD)) := by cases hv2 with | lst h1 h2 => exact ⟨_, _, rfl, h1, h2⟩
    have hb : SqL K H2 b xs := SqL.of hb1.at_
    have hbs : ∀ H', Mv (withF (withF F M) P) H2 (withF (withF F M) P) H' → SqL K H' b xs := fun H' mv => SqL.of (hb1.mv mv).at_
    refine q_forE (xs := xs) (va_cons (v_var rfl) va_nil) hb (fun i σ' H' => ∃ (m : Made) (pool : List Int) (at_ : Int) (y1 y2 y3 y4 : Option V), σ' = [some (.ref b), some (.ref L), some (.ref M), some (.ref P), some (.int at_), y1, y2, y3, y4] ∧ CSt F W H2 L M P ls m pool H' ∧ m.length ≤ 2 * i ∧ pool.length ≤ i ∧ cellsG ls m pool at_ (i + 1) (ds.drop i) = .error er) ⟨[], [], 0, _, _, _, _, rfl, cs0, Nat.le_refl _, Nat.le_refl _, e0⟩ (fun i σ' H' pv => ?_) (fun i x σ' H' T' hx pv hT' => ?_) (fun σ' H' pv => ?_)
    · obtain ⟨m, pool, at_, y1, y2, y3, y4, rfl, cs, _⟩ := pv
      exact hbs H' cs.mv
    · obtain ⟨m, pool, at_, y1, y2, y3, y4, rfl, cs, ml, pl, e⟩ := pv
      obtain ⟨dx, hd, hdx⟩ := hxs.getV i hx
      rw [List.getElem?_map] at hd
      obtain ⟨d, hdd, rfl⟩ := Option.map_eq_some_iff.mp hd
      have il := (List.getElem?_eq_some_iff.mp hdd).1
      have dok := hok d (List.mem_of_getElem? hdd)
      have cs := cs.same wo (smN (o := .tup [V.int (i : Int), x]) hT')
      generalize upd H' T' (.tup [V.int (i : Int), x]) = H3 at cs ⊢
      have hx3 := hdx.mv cs.mv
      rw [drop_at hdd, cellsG] at e
      cases d with
      | none =>
        have e' : cellsG ls m pool at_ (i + 1 + 1) (ds.drop (i + 1)) = .error er := e
        cases hx3
        refine q_ifT (a_t (v_eqv (v_isN (v_var rfl) v_c) rfl)) rfl ?_
        exact ⟨m, pool, at_, _, _, _, _, rfl, cs, by omega, by omega, e'⟩
      | some dd =>
        refine q_ifF0 (a_t (v_eqv (v_isN (v_var rfl) v_c) (congrArg V.bl (by rw [isNone_da hx3, isNone_deed2]; rfl)))) rfl ?_
        by_cases ip : ∃ ts, dd = .place ts
        · obtain ⟨ts, rfl⟩ := ip
          obtain ⟨T2, w, rfl, hT, hw⟩ := da_place hx3
          refine q_ifT (a_t (v_eqv (v_eqS (v_ixT (v_var rfl) v_c hT (by decide) rfl) v_c) (congrArg V.bl (decide_eq_true rfl)))) rfl ?_
          unfold cellStep at e
          dsimp only at e
          cases ha : amtL ls at_ ts (i + 1) with
          | error x =>
            rw [ha] at e
            cases e
            exact q_bad (b_amt (va_cons (v_ixT (v_var rfl) v_c hT (by decide) rfl) (va_cons (v_var rfl) (va_cons (v_var rfl) (va_cons (v_add (v_var rfl) v_c) va_nil)))) (by simp) hw dok cs.hL ha (rxc cs))
          | ok a1 =>
            rw [ha] at e
            refine q_set (v_amt (va_cons (v_ixT (v_var rfl) v_c hT (by decide) rfl) (va_cons (v_var rfl) (va_cons (v_var rfl) (va_cons (v_add (v_var rfl) v_c) va_nil)))) (by simp) hw dok cs.hL ha) ?_
            exact ⟨m, pool, _, _, _, _, _, rfl, cs, by omega, by omega, e⟩
        · have np : ∀ ts, dd ≠ .place ts := fun ts z => ip ⟨ts, z⟩
          rw [cellStep_np np] at e
          obtain ⟨T0, xs0, rfl, hT0, hx0⟩ := da_deedHd hx3
          have hne : hdS dd ≠ "place" := by cases dd with
            | place ts => exact absurd rfl (np ts)
            | word ts => exact (show ("word" : Str) ≠ "place" by decide)
            | made n => exact (show ("made" : Str) ≠ "place" by decide)
            | aim b ts => exact (show ("aim" : Str) ≠ "place" by decide)
            | pool b ts => exact (show ("pool" : Str) ≠ "place" by decide)
          refine q_ifF0 (a_t (v_eqv (v_eqS (v_ixT (v_var rfl) v_c hT0 (by decide) hx0) v_c) (congrArg V.bl (decide_eq_false hne)))) rfl ?_
          clear hT0 hx0
          cases ew : wordOf ls m pool at_ (i + 1) dd with
          | error x =>
            rw [ew] at e
            cases e
            refine q_rel (fun σ' H4 => False) ?_ (fun _ _ z => z.elim)
            cases dd with
            | place ts => exact absurd rfl (np ts)
            | made n => cases ew
            | word ts =>
              obtain ⟨T2, w, z, hT, hw⟩ := da_word hx3
              cases z
              unfold wordOf at ew
              dsimp only at ew
              cases ha : amtW ls at_ ts 1023 (i + 1) with
              | ok a1 => rw [ha] at ew; cases ew
              | error y =>
              rw [ha] at ew
              cases ew
              refine s_ifF (a_t (v_eqv (v_eqS (v_ixT (v_var rfl) v_c hT (by decide) rfl) v_c) (congrArg V.bl (decide_eq_false (by decide))))) rfl ?_
              refine s_ifT (a_t (v_eqv (v_eqS (v_ixT (v_var rfl) v_c hT (by decide) rfl) v_c) (congrArg V.bl (decide_eq_true rfl)))) rfl ?_
              exact s_bad (b_amtW (va_cons (v_ixT (v_var rfl) v_c hT (by decide) rfl) (va_cons (v_var rfl) (va_cons (v_var rfl) (va_cons (v_add (v_var rfl) v_c) va_nil)))) v_c (v_add (v_var rfl) v_c) (by simp) hw dok cs.hL ha (rxc cs))
            | aim bb ts =>
              obtain ⟨T2, w, z, hT, hw⟩ := da_aim hx3
              cases z
              unfold wordOf at ew
              dsimp only at ew
              cases ha : amtW ls at_ ts 63 (i + 1) with
              | ok a1 => rw [ha] at ew; cases ew
              | error y =>
              rw [ha] at ew
              cases ew
              refine s_ifF (a_t (v_eqv (v_eqS (v_ixT (v_var rfl) v_c hT (by decide) rfl) v_c) (congrArg V.bl (decide_eq_false (by decide))))) rfl ?_
              refine s_ifF (a_t (v_eqv (v_eqS (v_ixT (v_var rfl) v_c hT (by decide) rfl) v_c) (congrArg V.bl (decide_eq_false (by decide))))) rfl ?_
              refine s_ifT (a_t (v_eqv (v_eqS (v_ixT (v_var rfl) v_c hT (by decide) rfl) v_c) (congrArg V.bl (decide_eq_true rfl)))) rfl ?_
              exact s_bad (b_op2 (v_ixT (v_var rfl) v_c hT (by decide) rfl) (b_amtW (va_cons (v_ixT (v_var rfl) v_c hT (by decide) rfl) (va_cons (v_var rfl) (va_cons (v_var rfl) (va_cons (v_add (v_var rfl) v_c) va_nil)))) v_c (v_add (v_var rfl) v_c) (by simp) hw dok cs.hL ha (rxc cs)))
            | pool bb ts =>
              obtain ⟨T2, w, z, hT, hw⟩ := da_poolD hx3
              cases z
              unfold wordOf at ew
              dsimp only at ew
              refine s_ifF (a_t (v_eqv (v_eqS (v_ixT (v_var rfl) v_c hT (by decide) rfl) v_c) (congrArg V.bl (decide_eq_false (by decide))))) rfl ?_
              refine s_ifF (a_t (v_eqv (v_eqS (v_ixT (v_var rfl) v_c hT (by decide) rfl) v_c) (congrArg V.bl (decide_eq_false (by decide))))) rfl ?_
              refine s_ifF (a_t (v_eqv (v_eqS (v_ixT (v_var rfl) v_c hT (by decide) rfl) v_c) (congrArg V.bl (decide_eq_false (by decide))))) rfl ?_
              cases ha : amtW ls at_ ts 1023 (i + 1) with
              | error y =>
                rw [ha] at ew
                cases ew
                exact q_bad (b_amtW (va_cons (v_ixT (v_var rfl) v_c hT (by decide) rfl) (va_cons (v_var rfl) (va_cons (v_var rfl) (va_cons (v_add (v_var rfl) v_c) va_nil)))) v_c (v_add (v_var rfl) v_c) (by simp) hw dok cs.hL ha (rxc cs))
              | ok a2 =>
              rw [ha] at ew
              dsimp only at ew
              cases hq : poolL m pool a2 (i + 1) with
              | ok q => rw [hq] at ew; cases ew
              | error y =>
              rw [hq] at ew
              cases ew
              refine q_set (v_amtW (va_cons (v_ixT (v_var rfl) v_c hT (by decide) rfl) (va_cons (v_var rfl) (va_cons (v_var rfl) (va_cons (v_add (v_var rfl) v_c) va_nil)))) v_c (v_add (v_var rfl) v_c) (by simp) hw dok cs.hL ha) ?_
              exact s_bad (b_op2 (v_ixT (v_var rfl) v_c hT (by decide) rfl) (b_callX (va_cons (v_var rfl) (va_cons (v_var rfl) (va_cons (v_var rfl) (va_cons (v_add (v_var rfl) v_c) va_nil)))) (fun _ => ⟨M, P, a2, _, i + 1, m, pool, rfl, by simp, MP, cs.hM, cs.hP, by omega, by omega, by rw [hq]; exact rxc cs⟩)))
          | ok q0 =>
          obtain ⟨m1, pool', num⟩ := q0
          rw [ew] at e
          dsimp only at e
          refine q_rel (fun σ' H4 => ∃ (y5 : Option V), σ' = [some (.ref b), some (.ref L), some (.ref M), some (.ref P), some (.int at_), some (.int (i : Int)), some (.ref T0), some (.int num), y5] ∧ CSt F W H2 L M P ls m1 pool' H4 ∧ m1.length ≤ m.length + 1 ∧ pool'.length ≤ pool.length + 1) ?_ ?_
          · cases dd with
            | place ts => exact absurd rfl (np ts)
            | made n =>
              cases ew
              obtain ⟨T2, z, hT⟩ := da_made hx3
              cases z
              refine s_ifT (a_t (v_eqv (v_eqS (v_ixT (v_var rfl) v_c hT (by decide) rfl) v_c) (congrArg V.bl (decide_eq_true rfl)))) rfl ?_
              exact s_set (v_ixT (v_var rfl) v_c hT (by decide) rfl) ⟨_, rfl, cs, by omega, by omega⟩
            | word ts =>
              obtain ⟨T2, w, z, hT, hw⟩ := da_word hx3
              cases z
              unfold wordOf at ew
              dsimp only at ew
              split at ew
              · cases ew
              rename_i a1 ha
              cases ew
              refine s_ifF (a_t (v_eqv (v_eqS (v_ixT (v_var rfl) v_c hT (by decide) rfl) v_c) (congrArg V.bl (decide_eq_false (by decide))))) rfl ?_
              refine s_ifT (a_t (v_eqv (v_eqS (v_ixT (v_var rfl) v_c hT (by decide) rfl) v_c) (congrArg V.bl (decide_eq_true rfl)))) rfl ?_
              exact s_set (v_amtW (va_cons (v_ixT (v_var rfl) v_c hT (by decide) rfl) (va_cons (v_var rfl) (va_cons (v_var rfl) (va_cons (v_add (v_var rfl) v_c) va_nil)))) v_c (v_add (v_var rfl) v_c) (by simp) hw dok cs.hL ha) ⟨_, rfl, cs, by omega, by omega⟩
            | aim bb ts =>
              obtain ⟨T2, w, z, hT, hw⟩ := da_aim hx3
              cases z
              unfold wordOf at ew
              dsimp only at ew
              split at ew
              · cases ew
              rename_i a1 ha
              cases ew
              refine s_ifF (a_t (v_eqv (v_eqS (v_ixT (v_var rfl) v_c hT (by decide) rfl) v_c) (congrArg V.bl (decide_eq_false (by decide))))) rfl ?_
              refine s_ifF (a_t (v_eqv (v_eqS (v_ixT (v_var rfl) v_c hT (by decide) rfl) v_c) (congrArg V.bl (decide_eq_false (by decide))))) rfl ?_
              refine s_ifT (a_t (v_eqv (v_eqS (v_ixT (v_var rfl) v_c hT (by decide) rfl) v_c) (congrArg V.bl (decide_eq_true rfl)))) rfl ?_
              exact s_set (v_add (v_ixT (v_var rfl) v_c hT (by decide) rfl) (v_amtW (va_cons (v_ixT (v_var rfl) v_c hT (by decide) rfl) (va_cons (v_var rfl) (va_cons (v_var rfl) (va_cons (v_add (v_var rfl) v_c) va_nil)))) v_c (v_add (v_var rfl) v_c) (by simp) hw dok cs.hL ha)) ⟨_, rfl, cs, by omega, by omega⟩
            | pool bb ts =>
              obtain ⟨T2, w, z, hT, hw⟩ := da_poolD hx3
              cases z
              unfold wordOf at ew
              dsimp only at ew
              split at ew
              · cases ew
              rename_i a2 ha
              split at ew
              · cases ew
              rename_i q hq
              cases ew
              refine s_ifF (a_t (v_eqv (v_eqS (v_ixT (v_var rfl) v_c hT (by decide) rfl) v_c) (congrArg V.bl (decide_eq_false (by decide))))) rfl ?_
              refine s_ifF (a_t (v_eqv (v_eqS (v_ixT (v_var rfl) v_c hT (by decide) rfl) v_c) (congrArg V.bl (decide_eq_false (by decide))))) rfl ?_
              refine s_ifF (a_t (v_eqv (v_eqS (v_ixT (v_var rfl) v_c hT (by decide) rfl) v_c) (congrArg V.bl (decide_eq_false (by decide))))) rfl ?_
              refine q_set (v_amtW (va_cons (v_ixT (v_var rfl) v_c hT (by decide) rfl) (va_cons (v_var rfl) (va_cons (v_var rfl) (va_cons (v_add (v_var rfl) v_c) va_nil)))) v_c (v_add (v_var rfl) v_c) (by simp) hw dok cs.hL ha) ?_
              refine sx_set ((v_ixT (v_var rfl) v_c hT (by decide) rfl) _ ((va_cons (v_var rfl) (va_cons (v_var rfl) (va_cons (v_var rfl) (va_cons (v_add (v_var rfl) v_c) va_nil)))) _ ⟨M, P, a2, _, i + 1, m, pool, rfl, by simp, MP, cs.hM, cs.hP, by omega, by omega, ?_⟩))
              rw [hq]
              have hl := pool_len hq
              exact ⟨_, _, rfl, rfl, _, rfl, cs.put no wo, hl.1, hl.2⟩
          · rintro σ4 H4 ⟨y5, rfl, cs4, ml4, pl4⟩
            refine q_doX (va_cons (v_var rfl) (va_cons (v_var rfl) (va_cons (v_var rfl) (va_cons (v_add (v_var rfl) v_c) va_nil)))) ⟨M, at_, num, _, i + 1, m1, rfl, by simp, cs4.hM, by omega, ?_⟩
            cases em : makeL m1 at_ num (i + 1) with
            | error x =>
              rw [em] at e
              cases e
              exact rxc cs4
            | ok m' =>
            rw [em] at e
            refine outX_ok ?_
            dsimp only []
            exact s_set (v_add (v_var rfl) v_c) ⟨m', pool', _, _, _, _, _, rfl, cs4.putM no wo, by rw [make_len em]; omega, by omega, e⟩
    · obtain ⟨m, pool, at_, y1, y2, y3, y4, rfl, cs, ml, pl, e⟩ := pv
      have xl : xs.length = ds.length := by rw [hxs.len, List.length_map]
      rw [xl, List.drop_length, cellsG] at e
      cases e

theorem sc_assembled : FnScope ["text", "deeds", "labels", "made", "k"] ["text"] (defScope s_assembled) := ⟨rfl, rfl, rfl, by decide +kernel, rfl, by decide +kernel, by decide +kernel⟩
theorem cal_assembled (T : Tx K mg) : CalX P w K mg base 7 "assembled" ["text"] (spAsmX K) := by
  obtain ⟨fdB, FB, bB⟩ := fn_bad (P := P) (w := w) (base := base) T
  refine cal_mkX T 14 14 rfl rfl sc_assembled (fun _ _ _ _ _ _ us hl => match us, hl with | [_], _ => rfl) (fun vs H Q E h => ?_) (fun f cdv A outer s H vs Q E hr h => ?_)
  · obtain ⟨F, W, t, er, rfl, wo, ok, tl, ea, k⟩ := h
    rfl
  · obtain ⟨F, W, t, er, rfl, wo, ok, tl, ea, k⟩ := h
    have hu := hu_of hr
    refine ⟨_, (pss_cons (ps_asg (pe_calX (cal_gone_over (K := K) T) (takes_of (E := E) rfl rfl rfl rfl) hr (by decide) rfl (pa_cons (pe_split (pv 0) pe_str) pa_nil)) (pg_tup (by rfl) (pgs_cons (pg_name (i := 1) sc_assembled.nd rfl (Or.inl rfl)) (pgs_cons (pg_name (i := 2) sc_assembled.nd rfl (Or.inl rfl)) pgs_nil)))) (pss_cons (ps_set (i := 3) sc_assembled.nd rfl (Or.inr rfl) (pe_calX (cal_cells_made (K := K) T) (takes_of (E := E) rfl rfl rfl rfl) hr (by decide) rfl (pa_cons (pv 1) (pa_cons (pv 2) pa_nil)))) pss_never)), ?_⟩
    unfold assembledL at ea
    have cl := cutAt_many 10 t
    refine qx_asg (x_call1X (x_d (K := K) (d := lnsD (cutAt 10 t)) (dn_split wo (dv_var rfl (.str _)) rfl (by decide) (by omega)).dv ok (fun v H1 m1 o1 hv => ?_)))
    refine ⟨F, W, v, cutAt 10 t, rfl, wo, o1, hv, by omega, fun l hl => by have := cutAt_len 10 t l hl; omega, ?_⟩
    cases eg : goneL (cutAt 10 t) with
    | error x =>
      rw [eg] at ea
      cases ea
      exact rg_mv m1 o1 k
    | ok r =>
    obtain ⟨ds, ls⟩ := r
    rw [eg] at ea
    dsimp only at ea
    cases ec : cellsG ls [] [] 0 1 ds with
    | ok m => rw [ec] at ea; cases ea
    | error x =>
    rw [ec] at ea
    cases ea
    refine outX_ok ?_
    intro T' D L H2 m2 o2 hT hL0 hLab nD how hlen hokd
    refine ⟨T', _, rfl, hT, rfl, _, _, rfl, _, _, rfl, rfl, ?_⟩
    have nL : ¬ F L := o1.fa.no hL0
    have hd : Da K H2 F (.ref D) (.list (ds.map (oD deedD))) := (how.da nD).mv (.less fun b f => .inl f)
    dsimp only at hlen
    exact q_bad (b_callX (va_cons (v_var rfl) (va_cons (v_var rfl) va_nil)) (fun _ => ⟨F, W, .ref D, L, ds, ls, _, rfl, wo, o2, nL, hd, hLab, hokd, by omega, ec, rg_mv (m1.trans m2) o2 k⟩))
end
/-! ### the laws' asking: what is refused, by class and by base -/
def erW : Er → PySem.Str
  | .deed => "deed" | .twice => "twice" | .name => "name" | .bounds => "bounds" | .taken => "taken"
def dueD (er : Er) (k : Nat) : PyData := .tuple [.str (erW er), .int (k : Nat)]
def preSaid (vs : List V) (_ : Hp) (_ : FS) (_ : Hp → Prop) (d : PyData) : Prop := ∃ (t : LN) (er : Er) (k : Nat), vs = [.str (oL t)] ∧ t.length ≤ 20000 ∧ assembledL t = .error (er, k) ∧ d = dueD er k
def preBased (vs : List V) (_ : Hp) (_ : FS) (_ : Hp → Prop) (d : PyData) : Prop := ∃ (t : LN) (er : Er) (k : Nat), vs = [.str (oL t)] ∧ t.length ≤ 20000 ∧ assembledL t = .error (er, k) ∧ d = .tuple [.bool true, .int (k : Nat)]
def preRefused (K : PySem.W.Frag) (vs : List V) (H : Hp) (F : FS) (_ : Hp → Prop) (d : PyData) : Prop := ∃ (t : LN) (er : Er) (k : Nat) (v : V), vs = [.str (oL t), v] ∧ Da K H F v (dueD er k) ∧ t.length ≤ 20000 ∧ assembledL t = .error (er, k) ∧ d = .bool true
theorem sh_due (er : Er) (k : Nat) : Sh 1 (dueD er k) := sh_tup (shA_cons (sh_str (by cases er <;> decide +kernel)) (shA_cons sh_int shA_nil))
section
variable {K : PySem.W.Frag} {σ : L2.St} {H : Hp} {F : FS} {W : Hp → Prop} {ta tb te : TE} {tl : TA} {tz : TS} {N : L2.St → Hp → Prop} {R : VK} {B C' : L2.St → Hp → Prop} {D : Ends} {sp : Sp} {vs : List V} {l : List (Value × Nat × (Addr → Value → Option Addr → TS))} {cls : Value} {d : Option Addr} {c : Value} {i : Nat} {ts : Addr → Value → Option Addr → TS} {Wout : WX} {n : Int} {a dd C : Addr} {fs : List (Str × V)} {f : Str} {v : V} {e : PyData} {b : Bool}
theorem isi_int (h : Val ta σ H (.int n)) : ∃ y t, Val ta σ H y ∧ TyX K H y (.type t) ∧ PySem.W.kitOne K (.type t) (.type "int") = some true := ⟨_, "int", h, .base (.int _), kit_ty (by decide +kernel)⟩
theorem isi_nbool (h : Val ta σ H (.int n)) : ∃ y t, Val ta σ H y ∧ TyX K H y (.type t) ∧ PySem.W.kitOne K (.type t) (.type "bool") = some false := ⟨_, "int", h, .base (.int _), kit_ty (by decide +kernel)⟩
theorem q_tryB (h : ValA tl σ H vs) (hs : ∀ Q, sp vs H Q (WE (wManyA K Wout { nx := tz ⟨N, R, B, C'⟩, rt := R, bk := B, ct := C' } l) σ)) : tSeq (fun D σ H => (fun W => tDrop (tCallS sp (WE W) tl)) (wManyA K Wout D l) D σ H) tz ⟨N, R, B, C'⟩ σ H := h _ (hs _)
theorem wM_no (h : PySem.W.exmOne K cls c = some false) (q : wManyA K Wout D l cls d σ H) : wManyA K Wout D ((c, i, ts) :: l) cls d σ H := ⟨false, h, ⟨fun z => absurd z Bool.false_ne_true, fun _ => q⟩⟩
theorem wM_yes (h : PySem.W.exmOne K cls c = some true) (q : ∀ a, H a = none → ts a cls d (endA i D) (σ.set i (some (.ref a))) H) : wManyA K Wout D ((c, i, ts) :: l) cls d σ H := ⟨true, h, ⟨fun _ => q, fun z => absurd z.symm Bool.false_ne_true⟩⟩
theorem v_xl (T : XfC K C) (no : PySem.W.findIn K (.ref C) f = some none) (h : Val te σ H (.ref a)) (hx : H dd = some (.xd fs)) (hl : fs.lookup f = some v) : Val (tXl a (.ref C) (some dd) K f te) σ H v := fun _ q => h _ ⟨rfl, C, rfl, T, no, dd, fs, v, rfl, hx, hl, q⟩
theorem v_isX {x : PySem.Str} {y : V} {cv : Value} (E : ErX K x) (h : Val ta σ H (.ref a)) (hc : Val tb σ H y) (hcv : ∀ u, RelV y u → u = cv) (hk : PySem.W.kitOne K (.ref (He.ga K x)) cv = some b) (hx : H dd = some (.xd fs)) : Val (tCB (rIsX K a (.ref (He.ga K x)) (some dd)) (tCons ta (tCons tb tNil))) σ H (.bl b) :=
  v_cb (va_cons h (va_cons hc va_nil)) fun _ q => ⟨x, y, cv, b, dd, fs, rfl, rfl, E, rfl, hx, hcv, hk, q⟩
theorem s_setTD {k : Nat} (h : ValA tl σ H vs) (hl : vs.length ≤ 100000) (q : ∀ p, H p = none → D.nx (σ.set k (some (.ref p))) (upd H p (.tup vs))) : tAsg (tTup tl) (gName k) D σ H := h _ ⟨Nat.le_trans hl (by decide), fun p hp => q p hp⟩
theorem dv_eqS' {n : Nat} (ha : Dv K F W ta σ H e) (hb : Dv K F W tb σ H e) (sd : Sh n e) (hn : n ≤ 64 := by decide) : Dv K F W (tOp (rEqD K) ta tb) σ H (.bool true) := fun _ m o _ q => x_eqS o (ha.mv m) (hb.mv m) sd (fun _ m2 o2 => q _ _ m2 o2 (.bl _)) hn
theorem dv_andT (ha : Dv K F W ta σ H (.bool true)) (hb : Dv K F W tb σ H (.bool b)) : Dv K F W (tAndV ta tb) σ H (.bool b) := fun H1 m o Q q =>
  ha H1 m o _ fun v H2 m2 o2 hv => by
    cases hv
    exact ⟨true, rfl, by rw [if_pos rfl]; exact hb H2 (m.trans m2) o2 Q fun v3 H3 m3 o3 h3 => q v3 H3 (m2.trans m3) o3 h3⟩
end
section
variable {P : Program} {w : World} {K : PySem.W.Frag} {mg : Str → Option Value} {base : Heap}

theorem sc_law_said : FnScope ["_law_text", "_law_told", "e"] ["_law_text"] (defScope s_law_said) := ⟨rfl, rfl, rfl, by decide +kernel, rfl, by decide +kernel, by decide +kernel⟩
theorem cal_law_said (T : Tx K mg) : Cal P w K mg base 8 "_law_said" ["_law_text"] (spDV K preSaid) := by
  refine cal_mk T 23 23 rfl rfl sc_law_said (fun _ _ _ _ _ _ us hl => match us, hl with | [_], _ => rfl) (fun vs H Q E h => ?_) (fun f cdv A outer s H vs Q E hr h => ?_)
  · obtain ⟨F, W, d0, wo, ok, ⟨t, er, k0, rfl, tl, ea, rfl⟩, k⟩ := h
    rfl
  · obtain ⟨F, W, d0, wo, ok, ⟨t, er, k0, rfl, tl, ea, rfl⟩, k⟩ := h
    refine ⟨_, (pss_cons (ps_set (i := 1) sc_law_said.nd rfl (Or.inl rfl) (pe_tup (pa_cons pe_str (pa_cons pe_int pa_nil)))) (pss_cons (ps_try_asM rfl rfl sc_law_said.nd takes_no (fun W pn xe tk po => (pss_one (ps_expr (pe_calX (cal_assembled (K := K) T) tk hr (by decide) rfl (pa_cons (pv 0) pa_nil))))) (HdsA.cons (c := .ref (He.ga K "NoDeed")) (i := 2) ⟨by rfl, by decide, .inl (T.glo 40)⟩ rfl rfl (fun a oe cls d pn hz hf => (pss_one (ps_set (i := 1) sc_law_said.nd rfl (Or.inl rfl) (pe_tup (pa_cons pe_str (pa_cons (pe_xl hz hf (pv 2)) pa_nil)))))) (HdsA.cons (c := .ref (He.ga K "Twice")) (i := 2) ⟨by rfl, by decide, .inl (T.glo 41)⟩ rfl rfl (fun a oe cls d pn hz hf => (pss_one (ps_set (i := 1) sc_law_said.nd rfl (Or.inl rfl) (pe_tup (pa_cons pe_str (pa_cons (pe_xl hz hf (pv 2)) pa_nil)))))) (HdsA.cons (c := .ref (He.ga K "NoName")) (i := 2) ⟨by rfl, by decide, .inl (T.glo 42)⟩ rfl rfl (fun a oe cls d pn hz hf => (pss_one (ps_set (i := 1) sc_law_said.nd rfl (Or.inl rfl) (pe_tup (pa_cons pe_str (pa_cons (pe_xl hz hf (pv 2)) pa_nil)))))) (HdsA.cons (c := .ref (He.ga K "OutOfBounds")) (i := 2) ⟨by rfl, by decide, .inl (T.glo 43)⟩ rfl rfl (fun a oe cls d pn hz hf => (pss_one (ps_set (i := 1) sc_law_said.nd rfl (Or.inl rfl) (pe_tup (pa_cons pe_str (pa_cons (pe_xl hz hf (pv 2)) pa_nil)))))) (HdsA.cons (c := .ref (He.ga K "Taken")) (i := 2) ⟨by rfl, by decide, .inl (T.glo 44)⟩ rfl rfl (fun a oe cls d pn hz hf => (pss_one (ps_set (i := 1) sc_law_said.nd rfl (Or.inl rfl) (pe_tup (pa_cons pe_str (pa_cons (pe_xl hz hf (pv 2)) pa_nil)))))) HdsA.nil)))))) (pss_one (ps_ret (pv 1))))), ?_⟩
    refine q_setT (va_cons v_c (va_cons v_c va_nil)) (by simp) (fun T0 hT0 => ?_)
    have ok1 := ok.same wo (smN (o := .tup [.str "none", .int 0]) hT0)
    have m1 : Mv F H F (upd H T0 (.tup [.str "none", .int 0])) := .same (smN hT0)
    have ee := T.excs.2 (erS er) (erS_mem er)
    refine q_tryB (va_cons (v_var rfl) va_nil) (fun _ => ⟨F, W, t, (er, k0), rfl, wo, ok1, tl, ea, fun d H' m o hd hx => ?_⟩)
    cases er with
    | deed =>
      refine wM_yes ((ee.ms "NoDeed" (by decide)).trans (by decide)) (fun a ha => ?_)
      refine s_setTD (va_cons v_c (va_cons (v_xl ee.xf ee.no (v_var rfl) hx rfl) va_nil)) (by simp) (fun T1 hT1 => ?_)
      exact s_ret (N := fun _ H' => Q .non H') (v_var (k := 1) rfl) (k _ _ (m1.trans (m.trans (.same (smN hT1)))) (o.same wo (smN hT1)) (.tup ⟨SqT.of upd_same, .inl ((o.fa).no hT1)⟩ (.cons (.str _) (.cons (.int _) .nil))))
    | twice =>
      refine wM_no ((ee.ms "NoDeed" (by decide)).trans (by decide)) ?_
      refine wM_yes ((ee.ms "Twice" (by decide)).trans (by decide)) (fun a ha => ?_)
      refine s_setTD (va_cons v_c (va_cons (v_xl ee.xf ee.no (v_var rfl) hx rfl) va_nil)) (by simp) (fun T1 hT1 => ?_)
      exact s_ret (N := fun _ H' => Q .non H') (v_var (k := 1) rfl) (k _ _ (m1.trans (m.trans (.same (smN hT1)))) (o.same wo (smN hT1)) (.tup ⟨SqT.of upd_same, .inl ((o.fa).no hT1)⟩ (.cons (.str _) (.cons (.int _) .nil))))
    | name =>
      refine wM_no ((ee.ms "NoDeed" (by decide)).trans (by decide)) ?_
      refine wM_no ((ee.ms "Twice" (by decide)).trans (by decide)) ?_
      refine wM_yes ((ee.ms "NoName" (by decide)).trans (by decide)) (fun a ha => ?_)
      refine s_setTD (va_cons v_c (va_cons (v_xl ee.xf ee.no (v_var rfl) hx rfl) va_nil)) (by simp) (fun T1 hT1 => ?_)
      exact s_ret (N := fun _ H' => Q .non H') (v_var (k := 1) rfl) (k _ _ (m1.trans (m.trans (.same (smN hT1)))) (o.same wo (smN hT1)) (.tup ⟨SqT.of upd_same, .inl ((o.fa).no hT1)⟩ (.cons (.str _) (.cons (.int _) .nil))))
    | bounds =>
      refine wM_no ((ee.ms "NoDeed" (by decide)).trans (by decide)) ?_
      refine wM_no ((ee.ms "Twice" (by decide)).trans (by decide)) ?_
      refine wM_no ((ee.ms "NoName" (by decide)).trans (by decide)) ?_
      refine wM_yes ((ee.ms "OutOfBounds" (by decide)).trans (by decide)) (fun a ha => ?_)
      refine s_setTD (va_cons v_c (va_cons (v_xl ee.xf ee.no (v_var rfl) hx rfl) va_nil)) (by simp) (fun T1 hT1 => ?_)
      exact s_ret (N := fun _ H' => Q .non H') (v_var (k := 1) rfl) (k _ _ (m1.trans (m.trans (.same (smN hT1)))) (o.same wo (smN hT1)) (.tup ⟨SqT.of upd_same, .inl ((o.fa).no hT1)⟩ (.cons (.str _) (.cons (.int _) .nil))))
    | taken =>
      refine wM_no ((ee.ms "NoDeed" (by decide)).trans (by decide)) ?_
      refine wM_no ((ee.ms "Twice" (by decide)).trans (by decide)) ?_
      refine wM_no ((ee.ms "NoName" (by decide)).trans (by decide)) ?_
      refine wM_no ((ee.ms "OutOfBounds" (by decide)).trans (by decide)) ?_
      refine wM_yes ((ee.ms "Taken" (by decide)).trans (by decide)) (fun a ha => ?_)
      refine s_setTD (va_cons v_c (va_cons (v_xl ee.xf ee.no (v_var rfl) hx rfl) va_nil)) (by simp) (fun T1 hT1 => ?_)
      exact s_ret (N := fun _ H' => Q .non H') (v_var (k := 1) rfl) (k _ _ (m1.trans (m.trans (.same (smN hT1)))) (o.same wo (smN hT1)) (.tup ⟨SqT.of upd_same, .inl ((o.fa).no hT1)⟩ (.cons (.str _) (.cons (.int _) .nil))))

theorem sc_law_by_base : FnScope ["_law_text", "_law_told", "e"] ["_law_text"] (defScope s_law_by_base) := ⟨rfl, rfl, rfl, by decide +kernel, rfl, by decide +kernel, by decide +kernel⟩
theorem cal_law_by_base (T : Tx K mg) : Cal P w K mg base 8 "_law_by_base" ["_law_text"] (spDV K preBased) := by
  refine cal_mk T 24 24 rfl rfl sc_law_by_base (fun _ _ _ _ _ _ us hl => match us, hl with | [_], _ => rfl) (fun vs H Q E h => ?_) (fun f cdv A outer s H vs Q E hr h => ?_)
  · obtain ⟨F, W, d0, wo, ok, ⟨t, er, k0, rfl, tl, ea, rfl⟩, k⟩ := h
    rfl
  · obtain ⟨F, W, d0, wo, ok, ⟨t, er, k0, rfl, tl, ea, rfl⟩, k⟩ := h
    refine ⟨_, (pss_cons (ps_set (i := 1) sc_law_by_base.nd rfl (Or.inl rfl) (pe_tup (pa_cons pe_bl (pa_cons pe_int pa_nil)))) (pss_cons (ps_try_asM rfl rfl sc_law_by_base.nd takes_no (fun W pn xe tk po => (pss_one (ps_expr (pe_calX (cal_assembled (K := K) T) tk hr (by decide) rfl (pa_cons (pv 0) pa_nil))))) (HdsA.cons (c := .ref (He.ga K "BadText")) (i := 2) ⟨by rfl, by decide, .inl (T.glo 39)⟩ rfl rfl (fun a oe cls d pn hz hf => (pss_one (ps_set (i := 1) sc_law_by_base.nd rfl (Or.inl rfl) (pe_tup (pa_cons (pe_and (pe_callB (call_isX hz hf) (by rfl) (T.free 31) (by decide +kernel) (pa_cons (pv 2) (pa_cons (pe_glob (v := .ref (He.ga K "CoreError")) (by rfl) (T.glo 38) rfl) pa_nil))) (pe_one (pe_callB (call_isX hz hf) (by rfl) (T.free 31) (by decide +kernel) (pa_cons (pv 2) (pa_cons (pe_bltn (v := .ty "ValueError") (by rfl) (T.free 37) (by decide +kernel) rfl) pa_nil))))) (pa_cons (pe_xl hz hf (pv 2)) pa_nil)))))) HdsA.nil)) (pss_one (ps_ret (pv 1))))), ?_⟩
    refine q_setT (va_cons v_c (va_cons v_c va_nil)) (by simp) (fun T0 hT0 => ?_)
    have ok1 := ok.same wo (smN (o := .tup [.bl false, .int 0]) hT0)
    have m1 : Mv F H F (upd H T0 (.tup [.bl false, .int 0])) := .same (smN hT0)
    have ee := T.excs.2 (erS er) (erS_mem er)
    refine q_tryB (va_cons (v_var rfl) va_nil) (fun _ => ⟨F, W, t, (er, k0), rfl, wo, ok1, tl, ea, fun d H' m o hd hx => ?_⟩)
    refine wM_yes ee.mB (fun a ha => ?_)
    refine s_setTD (va_cons (v_andV (v_isX ee (v_var rfl) v_c (fun u r => r) ee.kC hx) (fun _ => v_isX ee (v_var rfl) v_c (fun u r => r) ee.kV hx)) (va_cons (v_xl ee.xf ee.no (v_var rfl) hx rfl) va_nil)) (by simp) (fun T1 hT1 => ?_)
    exact s_ret (N := fun _ H' => Q .non H') (v_var (k := 1) rfl) (k _ _ (m1.trans (m.trans (.same (smN hT1)))) (o.same wo (smN hT1)) (.tup ⟨SqT.of upd_same, .inl ((o.fa).no hT1)⟩ (.cons (.bl _) (.cons (.int _) .nil))))

theorem sc_law_refused : FnScope ["_law_text", "_law_due", "_law_found"] ["_law_text", "_law_due"] (defScope s_law_refused) := ⟨rfl, rfl, rfl, by decide +kernel, rfl, by decide +kernel, by decide +kernel⟩
theorem cal_law_refused (T : Tx K mg) : Cal P w K mg base 9 "_law_refused" ["_law_text", "_law_due"] (spDV K (preRefused K)) := by
  refine cal_mk T 25 25 rfl rfl sc_law_refused (fun _ _ _ _ _ _ us hl => match us, hl with | [_, _], _ => rfl) (fun vs H Q E h => ?_) (fun f cdv A outer s H vs Q E hr h => ?_)
  · obtain ⟨F, W, d0, wo, ok, ⟨t, er, k0, vd, rfl, hd, tl, ea, rfl⟩, k⟩ := h
    rfl
  · obtain ⟨F, W, d0, wo, ok, ⟨t, er, k0, vd, rfl, hd, tl, ea, rfl⟩, k⟩ := h
    refine ⟨_, (pss_cons (ps_set (i := 2) sc_law_refused.nd rfl (Or.inl rfl) (pe_cal (cal_law_said (K := K) T) hr (by decide) rfl (pa_cons (pv 0) pa_nil))) (pss_cons (ps_if (PW.pt (pw_or (pt_not (pt_val (pe_callB call_isi (by rfl) (T.free 31) (by decide +kernel) (pa_cons (pe_ix ix_tup (pv 2) pe_int (fun _ _ => rfl)) (pa_cons (pe_bltn (v := .ty "int") (by rfl) (T.free 32) (by decide +kernel) rfl) pa_nil))))) (pw_or1 (pt_val (pe_callB call_isi (by rfl) (T.free 31) (by decide +kernel) (pa_cons (pe_ix ix_tup (pv 2) pe_int (fun _ _ => rfl)) (pa_cons (pe_bltn (v := .ty "bool") (by rfl) (T.free 34) (by decide +kernel) rfl) pa_nil))))))) (pss_one (ps_ret pe_bl)) pss_nil) (pss_one (ps_ret (pe_and (pe_cmpR (op_eqD hr.units) (pv 2) (pv 1) (nomark _)) (pe_one (pe_cmpR (op_eqD hr.units) (pe_cal (cal_law_by_base (K := K) T) hr (by decide) rfl (pa_cons (pv 0) pa_nil)) (pe_tup (pa_cons pe_bl (pa_cons (pe_ix ix_tup (pv 1) pe_int (fun _ _ => rfl)) pa_nil))) (nomark _)))))))), ?_⟩
    refine q_d (K := K) (d := dueD er k0) (dv_spW wo (fun _ _ _ => va_cons (v_var rfl) va_nil) (fun _ _ _ => ⟨t, er, k0, rfl, tl, ea, rfl⟩)) ok (fun vf H1 m1 o1 hf => ?_)
    obtain ⟨T1, v1, v2, rfl, hT1, z1, z2⟩ := da_pair hf
    cases z1
    cases z2
    refine q_ifF0 (a_or (b := false) (c := false) (a_not (b := true) (a_B (v_isiL v_c (isi_int (v_ixT (v_var rfl) v_c hT1 (by decide) rfl))))) (fun _ => a_B (v_isiL v_c (isi_nbool (v_ixT (v_var rfl) v_c hT1 (by decide) rfl))))) rfl ?_
    have hd1 := hd.mv m1
    refine s_retD (K := K) (d := .bool true) (dv_andT (dv_eqS' (dv_var rfl hf) (dv_var rfl hd1) (sh_due er k0)) (dv_eqS' (dv_spW wo (fun _ _ _ => va_cons (v_var rfl) va_nil) (fun _ _ _ => ⟨t, er, k0, rfl, tl, ea, rfl⟩)) (dv_tup wo (da_cons (dv_c (.bl _)) (da_cons (dv_ixT (ds := [.str (erW er), .int (k0 : Nat)]) (dv_var rfl hd1) (fun _ _ _ => v_c) (by decide) rfl) da_nil))) (sh_tup (shA_cons sh_bl (shA_cons sh_int shA_nil))) (n := 1))) o1 (fun v H' m o hv => k v H' (m1.trans m) o hv)
end
/-! ### lines that are shown, read back -/
def numT (n : Int) : LN := TL.tl (toS n)
def ddOf (n : Int) : Dd :=
  if n / 128 < 6 then .aim (128 * (n / 128) + 64 * (n / 64 % 2)) [(1, numT (n % 64))]
  else if n / 128 = 7 ∨ (n / 64 % 2 = 0 ∧ n % 64 < 9) then .made n
  else .word [(1, numT n)]
def lineOk (n : Nat) : Bool := decide (readL (TL.tl (lineS (n : Int))) = some (none, some (ddOf (n : Int))))
def placeOk (n : Nat) : Bool := decide (readL (TL.tl ("place " ++ toS (n : Int))) = some (none, some (.place [(1, numT (n : Int))])))
theorem lines_ok : (List.range 1024).all lineOk = true := by decide +kernel
theorem places_ok : (List.range 64).all placeOk = true := by decide +kernel
def numOk (n : Nat) : Bool := isNumL (numT (n : Int)) && decide (numV (numT (n : Int)) = (n : Int))
theorem nums_ok : (List.range 1024).all numOk = true := by decide +kernel
def noNl (n : Nat) : Bool := !decide (10 ∈ TL.tl (lineS (n : Int))) && !decide (10 ∈ TL.tl ("place " ++ toS (n : Int)))
theorem noNl_ok : (List.range 1024).all noNl = true := by decide +kernel
theorem nat_of {n : Int} (h0 : 0 ≤ n) : ∃ k : Nat, n = (k : Int) := ⟨n.toNat, by omega⟩
theorem read_line {n : Int} (h0 : 0 ≤ n) (h1 : n < 1024) : readL (TL.tl (lineS n)) = some (none, some (ddOf n)) := by
  obtain ⟨k, rfl⟩ := nat_of h0
  exact of_decide_eq_true (List.all_eq_true.mp lines_ok k (List.mem_range.mpr (by omega)))
theorem read_place {n : Nat} (h : n < 64) : readL (TL.tl ("place " ++ toS (n : Int))) = some (none, some (.place [(1, numT (n : Int))])) := of_decide_eq_true (List.all_eq_true.mp places_ok n (List.mem_range.mpr h))
theorem num_ok {n : Int} (h0 : 0 ≤ n) (h1 : n < 1024) : isNumL (numT n) = true ∧ numV (numT n) = n := by
  obtain ⟨k, rfl⟩ := nat_of h0
  have := List.all_eq_true.mp nums_ok k (List.mem_range.mpr (by omega))
  unfold numOk at this
  rw [Bool.and_eq_true] at this
  exact ⟨this.1, of_decide_eq_true this.2⟩
theorem amt_num {ls : Lab} {here n : Int} (h0 : 0 ≤ n) (h1 : n < 1024) : amountL ls here 0 [(1, numT n)] = some n := by
  obtain ⟨a, b⟩ := num_ok h0 h1
  rw [amountL, if_pos a, amountL, b]
  congr 1; omega
theorem amtL_num {ls : Lab} {here n : Int} {k : Nat} (h0 : 0 ≤ n) (h1 : n < 1024) : amtL ls here [(1, numT n)] k = .ok n := by unfold amtL; rw [amt_num h0 h1]
theorem amtW_num {ls : Lab} {here n most : Int} {k : Nat} (h0 : 0 ≤ n) (h1 : n < 1024) (h2 : n ≤ most) : amtW ls here [(1, numT n)] most k = .ok n := by
  unfold amtW; rw [amtL_num h0 h1]
  dsimp only
  unfold withinL; rw [if_pos ⟨h0, h2⟩]
theorem ddOf_np (n : Int) : ∀ ts, ddOf n ≠ .place ts := by
  intro ts e
  unfold ddOf at e
  split at e
  · cases e
  · split at e <;> cases e
theorem word_dd {ls : Lab} {m : Made} {pool : List Int} {a n : Int} {k : Nat} (h0 : 0 ≤ n) (h1 : n < 1024) : wordOf ls m pool a k (ddOf n) = .ok (m, pool, n) := by
  unfold ddOf
  split
  · unfold wordOf
    dsimp only
    rw [amtW_num (by omega) (by omega) (by omega)]
    show Except.ok (m, pool, 128 * (n / 128) + 64 * (n / 64 % 2) + n % 64) = _
    rw [show 128 * (n / 128) + 64 * (n / 64 % 2) + n % 64 = n by omega]
  · split
    · rfl
    · unfold wordOf
      dsimp only
      rw [amtW_num h0 h1 (by omega)]
theorem move_dd {ls : Lab} {a n : Int} {k : Nat} (h0 : 0 ≤ a) (h1 : a < 64) : moveG ls a k (some (ddOf n)) = .ok (a + 1) := by
  have w : withinL (a + 1) 64 k = .ok (a + 1) := by unfold withinL; rw [if_pos ⟨by omega, by omega⟩]
  cases e : ddOf n with
  | place ts => exact absurd e (ddOf_np n ts)
  | word ts => exact w
  | made x => exact w
  | aim b ts => exact w
  | pool b ts => exact w
theorem step_dd {n a : Int} {k : Nat} (h0 : 0 ≤ n) (h1 : n < 1024) (a0 : 0 ≤ a) (a1 : a < 64) : goneStep (TL.tl (lineS n)) [] a k = .ok (some (ddOf n), [], a + 1) := by
  unfold goneStep
  rw [read_line h0 h1]
  dsimp only [tellL]
  rw [move_dd a0 a1]
theorem step_place {p : Nat} {a : Int} {k : Nat} (hp : p < 64) : goneStep (TL.tl ("place " ++ toS (p : Int))) [] a k = .ok (some (.place [(1, numT (p : Int))]), [], (p : Int)) := by
  unfold goneStep
  rw [read_place hp]
  dsimp only [tellL]
  have : moveG [] a k (some (Dd.place [(1, numT (p : Int))])) = .ok (p : Int) := by
    unfold moveG
    dsimp only
    rw [amtL_num (by omega) (by omega)]
    dsimp only
    unfold withinL; rw [if_pos ⟨by omega, by omega⟩]
  rw [this]
/-- the deeds of shown cells; the cells made -/
def dsF : Nat → Nat → Bool → List Int → List (Option Dd)
  | _, _, _, [] => []
  | k, b, e, n :: r => if n = 0 then dsF (k + 1) b e r else (if k ≠ b ∨ e = true then [some (.place [(1, numT (k : Int))])] else []) ++ some (ddOf n) :: dsF (k + 1) (k + 1) false r
def nzF : Nat → List Int → Made
  | _, [] => []
  | k, n :: r => if n = 0 then nzF (k + 1) r else ((k : Int), n) :: nzF (k + 1) r
theorem gone_shown : ∀ (cs : List Int) (k b : Nat) (e : Bool) (a : Int) (acc : List (Option Dd)) (j : Nat), (∀ x ∈ cs, 0 ≤ x ∧ x < 1024) → k + cs.length ≤ 64 → (e = false → a = (b : Int)) → goneG acc [] a j ((shownF k b e cs).map TL.tl) = .ok (acc ++ dsF k b e cs, [])
  | [], k, b, e, a, acc, j, _, _, _ => by rw [shownF, dsF, List.append_nil]; rfl
  | n :: r, k, b, e, a, acc, j, h, hk, ha => by
    have h1 := h n List.mem_cons_self
    have hr : ∀ x ∈ r, 0 ≤ x ∧ x < 1024 := fun x hx => h x (List.mem_cons_of_mem _ hx)
    rw [List.length_cons] at hk
    rw [shownF, dsF]
    by_cases z : n = 0
    · rw [if_pos z, if_pos z]
      exact gone_shown r (k + 1) b e a acc j hr (by omega) ha
    · rw [if_neg z, if_neg z]
      by_cases c : k ≠ b ∨ e = true
      · rw [if_pos c, if_pos c]
        show goneG acc [] a j (TL.tl ("place " ++ toS (k : Int)) :: TL.tl (lineS n) :: (shownF (k + 1) (k + 1) false r).map TL.tl) = _
        rw [goneG, step_place (by omega)]
        dsimp only
        rw [goneG, step_dd h1.1 h1.2 (by omega) (by omega)]
        dsimp only
        rw [gone_shown r (k + 1) (k + 1) false ((k : Int) + 1) _ _ hr (by omega) (fun _ => by omega)]
        simp
      · rw [if_neg c, if_neg c]
        have e1 : e = false := by cases e with
          | true => exact absurd (.inr rfl) c
          | false => rfl
        have e2 : k = b := by
          by_cases q : k = b
          · exact q
          · exact absurd (.inl q) c
        have e3 := ha e1
        show goneG acc [] a j (TL.tl (lineS n) :: (shownF (k + 1) (k + 1) false r).map TL.tl) = _
        rw [goneG, step_dd h1.1 h1.2 (by omega) (by omega)]
        dsimp only
        rw [gone_shown r (k + 1) (k + 1) false (a + 1) _ _ hr (by omega) (fun _ => by omega)]
        simp
theorem madeGet_none {m : Made} {x : Int} (h : ∀ q ∈ m, q.1 < x) : madeGet m x = none := by
  unfold madeGet
  rw [List.find?_eq_none.mpr]
  · rfl
  · intro q hq e
    have := h q hq
    have := of_decide_eq_true e
    omega
theorem make_new {m : Made} {x n : Int} {k : Nat} (h : ∀ q ∈ m, q.1 < x) (h0 : 0 ≤ x) : makeL m x n k = .ok (m ++ [(x, n)]) := by
  unfold makeL
  rw [if_neg]
  intro z
  rcases z with z | z
  · rw [madeGet_none h] at z; cases z
  · omega
theorem cell_dd {m : Made} {a n : Int} {k : Nat} (h0 : 0 ≤ n) (h1 : n < 1024) (a0 : 0 ≤ a) (hm : ∀ q ∈ m, q.1 < a) : cellStep [] m [] a k (some (ddOf n)) = .ok (m ++ [(a, n)], [], a + 1) := by
  have w := word_dd (ls := []) (m := m) (pool := []) (a := a) (k := k) h0 h1
  have mk := make_new (n := n) (k := k) hm a0
  cases e : ddOf n with
  | place ts => exact absurd e (ddOf_np n ts)
  | word ts => rw [e] at w; unfold cellStep; dsimp only; rw [w]; dsimp only; rw [mk]
  | made x => rw [e] at w; unfold cellStep; dsimp only; rw [w]; dsimp only; rw [mk]
  | aim b ts => rw [e] at w; unfold cellStep; dsimp only; rw [w]; dsimp only; rw [mk]
  | pool b ts => rw [e] at w; unfold cellStep; dsimp only; rw [w]; dsimp only; rw [mk]
theorem cell_place {m : Made} {p : Nat} {a : Int} {k : Nat} (hp : p < 64) : cellStep [] m [] a k (some (.place [(1, numT (p : Int))])) = .ok (m, [], (p : Int)) := by
  unfold cellStep
  dsimp only
  rw [amtL_num (by omega) (by omega)]
theorem cells_shown : ∀ (cs : List Int) (k b : Nat) (e : Bool) (a : Int) (m : Made) (j : Nat), (∀ x ∈ cs, 0 ≤ x ∧ x < 1024) → k + cs.length ≤ 64 → (e = false → a = (b : Int)) → (∀ q ∈ m, q.1 < (k : Int)) → cellsG [] m [] a j (dsF k b e cs) = .ok (m ++ nzF k cs)
  | [], k, b, e, a, m, j, _, _, _, _ => by rw [dsF, nzF, List.append_nil]; rfl
  | n :: r, k, b, e, a, m, j, h, hk, ha, hm => by
    have h1 := h n List.mem_cons_self
    have hr : ∀ x ∈ r, 0 ≤ x ∧ x < 1024 := fun x hx => h x (List.mem_cons_of_mem _ hx)
    rw [List.length_cons] at hk
    have hm1 : ∀ q ∈ m, q.1 < ((k + 1 : Nat) : Int) := fun q hq => by have := hm q hq; omega
    have hm2 : ∀ q ∈ m ++ [((k : Int), n)], q.1 < ((k + 1 : Nat) : Int) := fun q hq => (List.mem_append.mp hq).elim (hm1 q) (fun z => by rw [List.mem_singleton.mp z]; show (k : Int) < _; omega)
    rw [dsF, nzF]
    by_cases z : n = 0
    · rw [if_pos z, if_pos z]
      exact cells_shown r (k + 1) b e a m j hr (by omega) ha hm1
    · rw [if_neg z, if_neg z]
      by_cases c : k ≠ b ∨ e = true
      · rw [if_pos c]
        show cellsG [] m [] a j (some (.place [(1, numT (k : Int))]) :: some (ddOf n) :: dsF (k + 1) (k + 1) false r) = _
        rw [cellsG, cell_place (by omega)]
        dsimp only
        rw [cellsG, cell_dd h1.1 h1.2 (by omega) hm]
        dsimp only
        rw [cells_shown r (k + 1) (k + 1) false ((k : Int) + 1) _ _ hr (by omega) (fun _ => by omega) hm2]
        simp
      · rw [if_neg c]
        have e1 : e = false := by cases e with
          | true => exact absurd (.inr rfl) c
          | false => rfl
        have e2 : k = b := by
          by_cases q : k = b
          · exact q
          · exact absurd (.inl q) c
        have e3 : a = (k : Int) := by rw [ha e1, e2]
        subst e3
        show cellsG [] m [] (k : Int) j (some (ddOf n) :: dsF (k + 1) (k + 1) false r) = _
        rw [cellsG, cell_dd h1.1 h1.2 (by omega) hm]
        dsimp only
        rw [cells_shown r (k + 1) (k + 1) false ((k : Int) + 1) _ _ hr (by omega) (fun _ => by omega) hm2]
        simp
theorem nzF_get : ∀ (cs : List Int) (k i : Nat), i < cs.length → (madeGet (nzF k cs) ((k + i : Nat) : Int)).getD 0 = cs.getD i 0
  | [], _, i, h => by simp at h
  | n :: r, k, i, h => by
    rw [nzF]
    cases i with
    | zero =>
      by_cases z : n = 0
      · rw [if_pos z, z]
        have : madeGet (nzF (k + 1) r) ((k + 0 : Nat) : Int) = none := by
          unfold madeGet
          rw [List.find?_eq_none.mpr]
          · rfl
          · intro q hq e
            have h1 := nzF_ge r (k + 1) q hq
            have := of_decide_eq_true e
            omega
        rw [this]; rfl
      · rw [if_neg z]
        unfold madeGet
        rw [List.find?_cons, decide_eq_true (by show (k : Int) = ((k + 0 : Nat) : Int); omega)]
        rfl
    | succ i =>
      have ih := nzF_get r (k + 1) i (by simp at h; omega)
      have e1 : ((k + (i + 1) : Nat) : Int) = ((k + 1 + i : Nat) : Int) := by omega
      have e2 : (n :: r).getD (i + 1) 0 = r.getD i 0 := by simp [List.getD_eq_getElem?_getD]
      rw [e1, e2]
      by_cases z : n = 0
      · rw [if_pos z]; exact ih
      · rw [if_neg z]
        unfold madeGet at ih ⊢
        rw [List.find?_cons, decide_eq_false (by show ¬ (k : Int) = ((k + 1 + i : Nat) : Int); omega)]
        exact ih
where nzF_ge : ∀ (cs : List Int) (k : Nat), ∀ q ∈ nzF k cs, (k : Int) ≤ q.1
  | [], _, q, h => by cases h
  | n :: r, k, q, h => by
    rw [nzF] at h
    split at h
    · have := nzF_ge r (k + 1) q h; omega
    · rcases List.mem_cons.mp h with e | e
      · rw [e]; exact Int.le_refl _
      · have := nzF_ge r (k + 1) q e; omega
theorem cutAt_join (c : Nat) {ps : List LN} (hne : ps ≠ []) (h : ∀ p ∈ ps, c ∉ p) : cutAt c (TL.joinL [c] ps) = ps := by
  have e1 := TL.spl_join (s := c) (S := []) hne h
  have e2 := spl_cut c (TL.joinL [c] ps) []
  rw [e1] at e2
  cases z : cutAt c (TL.joinL [c] ps) with
  | nil => exact absurd z (cutAt_ne _ _)
  | cons a b => rw [z] at e2; exact e2.symm
theorem shownF_noNl : ∀ (cs : List Int) (k b : Nat) (e : Bool), (∀ x ∈ cs, 0 ≤ x ∧ x < 1024) → k + cs.length ≤ 64 → ∀ s ∈ shownF k b e cs, 10 ∉ TL.tl s
  | [], _, _, _, _, _, s, h => by cases h
  | n :: r, k, b, e, h, hk, s, hs => by
    have h1 := h n List.mem_cons_self
    have hr : ∀ x ∈ r, 0 ≤ x ∧ x < 1024 := fun x hx => h x (List.mem_cons_of_mem _ hx)
    rw [List.length_cons] at hk
    have nl : ∀ i : Nat, i < 1024 → 10 ∉ TL.tl (lineS (i : Int)) ∧ 10 ∉ TL.tl ("place " ++ toS (i : Int)) := fun i hi => by
      have := List.all_eq_true.mp noNl_ok i (List.mem_range.mpr hi)
      unfold noNl at this
      rw [Bool.and_eq_true] at this
      exact ⟨of_decide_eq_false ((Bool.not_eq_true' _).mp this.1), of_decide_eq_false ((Bool.not_eq_true' _).mp this.2)⟩
    obtain ⟨i, rfl⟩ := nat_of h1.1
    rw [shownF] at hs
    split at hs
    · exact shownF_noNl r (k + 1) b e hr (by omega) s hs
    · rcases List.mem_append.mp hs with q | q
      · split at q
        · rw [List.mem_singleton.mp q]; exact (nl k (by omega)).2
        · cases q
      · rcases List.mem_cons.mp q with q | q
        · rw [q]; exact (nl i (by omega)).1
        · exact shownF_noNl r (k + 1) (k + 1) false hr (by omega) s q
theorem shownF_nil : ∀ (cs : List Int) (k b : Nat) (e : Bool), shownF k b e cs = [] → ∀ x ∈ cs, x = 0
  | [], _, _, _, _, x, h => by cases h
  | n :: r, k, b, e, h, x, hx => by
    rw [shownF] at h
    split at h
    · rename_i z
      rcases List.mem_cons.mp hx with q | q
      · rw [q, z]
      · exact shownF_nil r _ _ _ h x q
    · simp at h
theorem asm_shown {cs : List Int} (hl : cs.length = 64) (h : ∀ x ∈ cs, 0 ≤ x ∧ x < 1024) : assembledL (TL.tl (shownS cs)) = .ok cs := by
  have hc : cellsOf (nzF 0 cs) = cs := by
    apply List.ext_getElem?
    intro i
    unfold cellsOf
    rw [List.getElem?_map]
    by_cases hi : i < 64
    · rw [List.getElem?_range hi]
      have h2 : i < cs.length := by omega
      have := nzF_get cs 0 i h2
      rw [Nat.zero_add] at this
      rw [List.getElem?_eq_getElem h2]
      show some ((madeGet (nzF 0 cs) (i : Int)).getD 0) = _
      rw [this, List.getD_eq_getElem?_getD, List.getElem?_eq_getElem h2]; rfl
    · rw [List.getElem?_eq_none (by simp; omega), List.getElem?_eq_none (by omega)]; rfl
  unfold assembledL
  by_cases z : shownF 0 0 true cs = []
  · have hz := shownF_nil cs 0 0 true z
    have e0 : TL.tl (shownS cs) = [] := by unfold shownS; rw [z]; rfl
    rw [e0]
    have e1 : goneL (cutAt 10 []) = .ok ([none], []) := rfl
    rw [e1]
    have e2 : cellsOf [] = cs := by
      have : cs = List.replicate 64 0 := List.eq_replicate_iff.mpr ⟨hl, hz⟩
      rw [this]; decide +kernel
    show Except.ok (cellsOf []) = _
    rw [e2]
  · have e1 : cutAt 10 (TL.tl (shownS cs)) = (shownF 0 0 true cs).map TL.tl := by
      unfold shownS
      rw [TL.tl_join]
      exact cutAt_join 10 (by simpa using z) (fun p hp => by obtain ⟨s, hs, rfl⟩ := List.mem_map.mp hp; exact shownF_noNl cs 0 0 true h (by omega) s hs)
    rw [e1]
    have e2 : goneL ((shownF 0 0 true cs).map TL.tl) = .ok (dsF 0 0 true cs, []) := gone_shown cs 0 0 true 0 [] 1 h (by omega) (fun z => by cases z)
    rw [e2]
    have e3 := cells_shown cs 0 0 true 0 [] 1 h (by omega) (fun z => by cases z) (fun q hq => by cases hq)
    dsimp only
    rw [e3]
    show Except.ok (cellsOf (nzF 0 cs)) = _
    rw [hc]
/-! ### k31: pieces with other blanks and remarks -/
def wordsL (l : LN) : List LN := (cutAt 32 l).filter fun p => !p.isEmpty
theorem cutAt_free {c : Nat} : ∀ {p : LN}, c ∉ p → cutAt c p = [p]
  | [], _ => rfl
  | x :: r, h => by
    rw [cutAt, if_neg (fun e => h (by rw [e]; exact List.mem_cons_self)), cutAt_free (fun z => h (List.mem_cons_of_mem _ z))]
theorem cutAt_app {c : Nat} : ∀ {p r : LN}, c ∉ p → cutAt c (p ++ c :: r) = p :: cutAt c r
  | [], r, _ => by rw [List.nil_append, cutAt, if_pos rfl]
  | x :: p, r, h => by
    rw [List.cons_append, cutAt, if_neg (fun e => h (by rw [e]; exact List.mem_cons_self)), cutAt_app (fun z => h (List.mem_cons_of_mem _ z))]
theorem words_nil : wordsL [] = [] := rfl
theorem words_blank (l : LN) : wordsL (32 :: l) = wordsL l := by
  unfold wordsL
  rw [cutAt, if_pos rfl]; rfl
theorem words_blanks : ∀ (n : Nat) (l : LN), wordsL (List.replicate n 32 ++ l) = wordsL l
  | 0, _ => rfl
  | n + 1, l => by rw [List.replicate_succ, List.cons_append, words_blank, words_blanks n l]
theorem words_last {p : LN} (h : 32 ∉ p) (hn : p ≠ []) : wordsL p = [p] := by
  unfold wordsL
  rw [cutAt_free h]
  cases p with
  | nil => exact absurd rfl hn
  | cons x r => rfl
theorem words_cons {p l : LN} (h : 32 ∉ p) (hn : p ≠ []) : wordsL (p ++ 32 :: l) = p :: wordsL l := by
  unfold wordsL
  rw [cutAt_app h]
  cases p with
  | nil => exact absurd rfl hn
  | cons x r => rfl
/-- pieces joined by blanks, with blanks behind -/
theorem words_join {b m : Nat} (hb : 0 < b) : ∀ {ps : List LN}, (∀ p ∈ ps, 32 ∉ p ∧ p ≠ []) → wordsL (TL.joinL (List.replicate b 32) ps ++ List.replicate m 32) = ps
  | [], _ => by
    show wordsL ([] ++ List.replicate m 32) = []
    have := words_blanks m []
    rw [List.append_nil] at this
    rw [List.nil_append, this]; rfl
  | [p], h => by
    obtain ⟨h1, h2⟩ := h p List.mem_cons_self
    show wordsL (p ++ List.replicate m 32) = [p]
    cases m with
    | zero => rw [List.replicate_zero, List.append_nil]; exact words_last h1 h2
    | succ m =>
      rw [List.replicate_succ, words_cons h1 h2]
      have := words_blanks m []
      rw [List.append_nil] at this
      rw [this]; rfl
  | p :: q :: r, h => by
    obtain ⟨h1, h2⟩ := h p List.mem_cons_self
    have ih := words_join (m := m) hb (ps := q :: r) fun x hx => h x (List.mem_cons_of_mem _ hx)
    show wordsL ((p ++ (List.replicate b 32 ++ TL.joinL (List.replicate b 32) (q :: r))) ++ List.replicate m 32) = _
    obtain ⟨b', rfl⟩ : ∃ b', b = b' + 1 := ⟨b - 1, by omega⟩
    rw [List.append_assoc, List.append_assoc]
    rw [show List.replicate (b' + 1) 32 ++ (TL.joinL (List.replicate (b' + 1) 32) (q :: r) ++ List.replicate m 32) = 32 :: (List.replicate b' 32 ++ (TL.joinL (List.replicate (b' + 1) 32) (q :: r) ++ List.replicate m 32)) from rfl]
    rw [words_cons h1 h2, words_blanks, ih]
theorem pieces_eq (l : LN) : piecesL l = wordsL ((cutAt 59 l).headD []) := rfl
/-- a line: blanks, what stands there, perhaps a remark -/
theorem pieces_line {l r : LN} (h : 59 ∉ l) : piecesL (l ++ 59 :: r) = wordsL l := by rw [pieces_eq, cutAt_app h]; rfl
theorem pieces_plain {l : LN} (h : 59 ∉ l) : piecesL l = wordsL l := by rw [pieces_eq, cutAt_free h]; rfl
theorem cutAt_flat (c : Nat) : ∀ {ps : List LN}, ps ≠ [] → cutAt c (TL.joinL [c] ps) = (ps.map (cutAt c)).flatten
  | [], h => absurd rfl h
  | [p], _ => by simp [TL.joinL]
  | p :: q :: r, _ => by
    have ih := cutAt_flat c (ps := q :: r) (by simp)
    show cutAt c (p ++ ([c] ++ TL.joinL [c] (q :: r))) = _
    rw [List.map_cons, List.flatten_cons, ← ih]
    exact cutAt_cat c p _
where cutAt_cat (c : Nat) : ∀ (p l : LN), cutAt c (p ++ c :: l) = cutAt c p ++ cutAt c l
  | [], l => by
    show (if c = c then [] :: cutAt c l else _) = [] :: cutAt c l
    rw [if_pos rfl]
  | x :: p, l => by
    have ih := cutAt_cat c p l
    show (if x = c then [] :: cutAt c (p ++ c :: l) else (match cutAt c (p ++ c :: l) with | [] => [[x]] | h :: t => (x :: h) :: t)) = (if x = c then [] :: cutAt c p else (match cutAt c p with | [] => [[x]] | h :: t => (x :: h) :: t)) ++ cutAt c l
    rw [ih]
    by_cases e : x = c
    · rw [if_pos e, if_pos e]; rfl
    · rw [if_neg e, if_neg e]
      cases z : cutAt c p with
      | nil => exact absurd z (cutAt_ne c p)
      | cons a b => rfl
/-! ### numbers as texts -/
theorem numT_eq {n : Int} (h0 : 0 ≤ n) : numT n = TL.numL n.toNat := by
  unfold numT toS
  have e : n = ((n.toNat : Nat) : Int) := by omega
  rw [e, TL.tl_num, Int.toNat_natCast]
theorem mem_digL {c : Nat} : c ∈ digL ↔ 48 ≤ c ∧ c ≤ 57 := by
  rw [show digL = [48, 49, 50, 51, 52, 53, 54, 55, 56, 57] by rfl]
  simp only [List.mem_cons, List.not_mem_nil, or_false]
  omega
theorem dig_num {n : Nat} {c : Nat} (h : c ∈ TL.numL n) : 48 ≤ c ∧ c ≤ 57 := by
  by_cases q : c < 48 ∨ 57 < c
  · exact absurd h (TL.numL_free q)
  · omega
theorem isNum_of {t : LN} (h1 : t ≠ []) (h2 : t.length ≤ 4) (h3 : ∀ c ∈ t, 48 ≤ c ∧ c ≤ 57) : isNumL t = true := by
  unfold isNumL
  rw [Bool.and_eq_true]
  have := List.length_pos_iff.mpr h1
  exact ⟨decide_eq_true ⟨by omega, h2⟩, List.all_eq_true.mpr fun c hc => decide_eq_true (mem_digL.mpr (h3 c hc))⟩
theorem num_big {n : Int} (h0 : 0 ≤ n) (h1 : n < 10000) : isNumL (numT n) = true ∧ numV (numT n) = n := by
  rw [numT_eq h0]
  refine ⟨isNum_of (TL.numL_ne _) (TL.numL_len (by decide) (show n.toNat < 10000 by omega)) fun c hc => dig_num hc, ?_⟩
  unfold numV
  rw [TL.numL_val]; omega
theorem numT_dig {n : Int} (h0 : 0 ≤ n) : ∀ c ∈ numT n, 48 ≤ c ∧ c ≤ 57 := fun c hc => by rw [numT_eq h0] at hc; exact dig_num hc
theorem numT_ne {n : Int} (h0 : 0 ≤ n) : numT n ≠ [] := by rw [numT_eq h0]; exact TL.numL_ne _
theorem numT_len {n : Int} {k : Nat} (h0 : 0 ≤ n) (hk : 0 < k) (h : n < (10 ^ k : Nat)) : (numT n).length ≤ k := by rw [numT_eq h0]; exact TL.numL_len hk (by omega)
theorem zero_big {n : Int} (h0 : 0 ≤ n) (h1 : n < 1000) : isNumL (48 :: numT n) = true ∧ numV (48 :: numT n) = n := by
  refine ⟨isNum_of (by simp) (by have := numT_len (k := 3) h0 (by decide) h1; rw [List.length_cons]; omega) fun c hc => ?_, ?_⟩
  · rcases List.mem_cons.mp hc with e | e
    · omega
    · exact numT_dig h0 c e
  · have : numV (48 :: numT n) = numV (numT n) := congrArg Int.ofNat (NumText.digitsVal_zero (cs := numT n))
    rw [this]; exact (num_big h0 (by omega)).2
/-! ### terms of texts that are put together -/
theorem termsG_skip : ∀ (t r : LN) (s : Int) (cur : LN), 43 ∉ t → 45 ∉ t → termsG s cur (t ++ r) = termsG s (cur ++ t) r
  | [], r, s, cur, _, _ => by rw [List.nil_append, List.append_nil]
  | c :: t, r, s, cur, h1, h2 => by
    rw [List.cons_append, termsG, if_neg (fun q => q.elim (fun e => h1 (by rw [e]; exact List.mem_cons_self)) (fun e => h2 (by rw [e]; exact List.mem_cons_self)))]
    rw [termsG_skip t r s (cur ++ [c]) (fun q => h1 (List.mem_cons_of_mem _ q)) (fun q => h2 (List.mem_cons_of_mem _ q)), List.append_assoc]
    rfl
/-- a term: it may stand, and holds no sign -/
structure Tm (t : LN) : Prop where
  ok : okT t = true
  p : 43 ∉ t
  m : 45 ∉ t
theorem termsG_one {t : LN} (h : Tm t) (s : Int) : termsG s [] t = some [(s, t)] := by
  have e := termsG_skip t [] s [] h.p h.m
  rw [List.append_nil, List.nil_append] at e
  rw [e, termsG, if_pos h.ok]
theorem termsG_op {t r : LN} (h : Tm t) (s : Int) {c : Nat} (hc : c = 43 ∨ c = 45) : termsG s [] (t ++ c :: r) = (termsG (if c = 45 then -1 else 1) [] r).map ((s, t) :: ·) := by
  rw [termsG_skip t (c :: r) s [] h.p h.m, List.nil_append, termsG, if_pos hc, if_pos h.ok]
theorem tm_num {t : LN} (h : isNumL t = true) : Tm t := by
  have hd : ∀ c ∈ t, 48 ≤ c ∧ c ≤ 57 := fun c hc => by
    unfold isNumL at h
    rw [Bool.and_eq_true] at h
    exact mem_digL.mp (of_decide_eq_true (List.all_eq_true.mp h.2 c hc))
  exact ⟨by unfold okT; rw [h]; simp, fun q => by have := hd _ q; omega, fun q => by have := hd _ q; omega⟩
theorem tm_here : Tm hereL := ⟨by decide, by decide, by decide⟩
theorem amt_cons {ls : Lab} {here a s v : Int} {t : LN} {r : List (Int × LN)} (h : isNumL t = true) (hv : numV t = v) : amountL ls here a ((s, t) :: r) = amountL ls here (a + s * v) r := by rw [amountL, if_pos h, hv]
theorem amt_here {ls : Lab} {here a s : Int} {r : List (Int × LN)} : amountL ls here a ((s, hereL) :: r) = amountL ls here (a + s * here) r := by rw [amountL, if_neg (by decide), if_pos rfl]
/-! ### deeds of the kinds 0 to 5 -/
structure KdOk (x : LN) : Prop where
  place : x ≠ placeL
  word : x ≠ wordL
  ask : x ≠ askL
  chg : x ≠ changeL
  tst : x ≠ testL
  col : x.getLast? ≠ some 58
  bl : 32 ∉ x
  re : 59 ∉ x
  ne : x ≠ []
theorem kd_ok {x : LN} (h : x ∈ kindsN) : KdOk x := by
  have : ∀ x ∈ kindsN, x ≠ placeL ∧ x ≠ wordL ∧ x ≠ askL ∧ x ≠ changeL ∧ x ≠ testL ∧ x.getLast? ≠ some 58 ∧ 32 ∉ x ∧ 59 ∉ x ∧ x ≠ [] := by decide
  obtain ⟨a, b, c, d, e, f, g, i, j⟩ := this x h
  exact ⟨a, b, c, d, e, f, g, i, j⟩
theorem deed_kd {x : LN} (h : x ∈ kindsN) (r : List LN) : deedL (x :: r) = aimedL (kindsN.idxOf x : Nat) r := by
  have k := kd_ok h
  rw [deedL, deedC, if_neg (fun q => q.elim k.place k.word), if_neg k.ask, if_neg (fun q => k.chg q.1), if_neg (fun q => k.tst q.1), if_pos h]
/-- a line of a kind: the kind, far or not, what is aimed at -/
def kdLine (x : LN) (far : Bool) (w : LN) : LN := x ++ 32 :: ((if far = true then farL ++ [32] else []) ++ w)
theorem words_kd {x w : LN} {far : Bool} (h : x ∈ kindsN) (h1 : 32 ∉ w) (h3 : w ≠ []) : wordsL (kdLine x far w) = x :: ((if far = true then [farL] else []) ++ [w]) := by
  have k := kd_ok h
  unfold kdLine
  rw [words_cons k.bl k.ne]
  cases far with
  | false => rw [if_neg Bool.false_ne_true, if_neg Bool.false_ne_true, List.nil_append, List.nil_append, words_last h1 h3]
  | true =>
    rw [if_pos rfl, if_pos rfl, List.append_assoc]
    show x :: wordsL (farL ++ 32 :: w) = _
    rw [words_cons (by decide) (by decide), words_last h1 h3]; rfl
theorem kd_free {x w : LN} {far : Bool} {c : Nat} (h : x ∈ kindsN) (hc : c = 59 ∨ c = 10) (h2 : c ∉ w) : c ∉ kdLine x far w := by
  have : ∀ x ∈ kindsN, 59 ∉ x ∧ 10 ∉ x := by decide
  have hx := this x h
  unfold kdLine
  intro z
  rcases List.mem_append.mp z with z | z
  · rcases hc with rfl | rfl
    · exact hx.1 z
    · exact hx.2 z
  rcases List.mem_cons.mp z with z | z
  · rcases hc with rfl | rfl <;> cases z
  rcases List.mem_append.mp z with z | z
  · cases far with
    | false => cases z
    | true =>
      rcases hc with rfl | rfl
      · exact (show (59 : Nat) ∉ farL ++ [32] by decide) z
      · exact (show (10 : Nat) ∉ farL ++ [32] by decide) z
  · exact h2 z
theorem aimed_far {kd : Int} {w : LN} {far : Bool} (h : w ≠ farL) : aimedL kd ((if far = true then [farL] else []) ++ [w]) = aimG kd (if far = true then 1 else 0) [w] := by
  cases far with
  | false => rw [if_neg Bool.false_ne_true, if_neg Bool.false_ne_true, List.nil_append, aimedL, if_neg h]
  | true => rw [if_pos rfl, if_pos rfl, List.cons_append, List.nil_append, aimedL, if_pos rfl]
/-- what a line of a kind is read as -/
theorem readP_kd {x w : LN} {far : Bool} (h : x ∈ kindsN) (h3 : w ≠ farL) : readP (x :: ((if far = true then [farL] else []) ++ [w])) = (aimG (kindsN.idxOf x : Nat) (if far = true then 1 else 0) [w]).map fun d => (none, some d) := by
  rw [readP, if_neg (kd_ok h).col, restL, deed_kd h, aimed_far h3]
theorem aimG_pool {kd far : Int} {w : LN} : aimG kd far [61 :: w] = (termsL w).map (Dd.pool (128 * kd + 64 * far)) := rfl
theorem read_pool {x w : LN} {far : Bool} {ts : List (Int × LN)} (h : x ∈ kindsN) (h1 : 32 ∉ w) (h2 : 59 ∉ w) (ht : termsL w = some ts) : readL (kdLine x far (61 :: w)) = some (none, some (.pool (128 * (kindsN.idxOf x : Nat) + 64 * (if far = true then 1 else 0)) ts)) := by
  have e := readP_kd (far := far) (w := 61 :: w) h (fun z => by rw [show farL = [102, 97, 114] by rfl] at z; cases z)
  unfold readL
  rw [pieces_plain (kd_free h (.inl rfl) (fun z => (List.mem_cons.mp z).elim (fun e => by cases e) h2)), words_kd h (fun z => (List.mem_cons.mp z).elim (fun e => by cases e) h1) (by simp), e, aimG_pool, ht]
  rfl
/-! ### k33: words written -/
def writ (c n : Int) : LN :=
  if mixV c 9833 5 = 0 ∧ n < 1000 then 48 :: numT n
  else if mixV c 9833 5 = 1 then numT (mixV c 9839 (n + 1)) ++ 43 :: numT (n - mixV c 9839 (n + 1))
  else if mixV c 9833 5 = 2 then numT (n + 7) ++ sL "-here+here-7"
  else numT n
structure Wr (w : LN) (n : Int) : Prop where
  ex : ∃ ts, termsL w = some ts ∧ ∀ ls here, amountL ls here 0 ts = some n
  cs : ∀ c ∈ w, c ≠ 32 ∧ c ≠ 59 ∧ c ≠ 10
  len : w.length ≤ 20
theorem wr_num {t : LN} {n : Int} (h : isNumL t = true) (hv : numV t = n) : Wr t n := by
  have hd : t.length ≤ 4 ∧ ∀ c ∈ t, 48 ≤ c ∧ c ≤ 57 := by
    unfold isNumL at h
    rw [Bool.and_eq_true] at h
    exact ⟨(of_decide_eq_true h.1).2, fun c hc => mem_digL.mp (of_decide_eq_true (List.all_eq_true.mp h.2 c hc))⟩
  refine ⟨⟨[(1, t)], termsG_one (tm_num h) 1, fun ls here => ?_⟩, fun c hc => by have := hd.2 c hc; omega, by omega⟩
  rw [amt_cons h hv, amountL]; congr 1; omega
theorem writ_ok {c n : Int} (n0 : 0 ≤ n) (n1 : n < 1024) : Wr (writ c n) n := by
  have p0 := mixV_lo (c := c) (p := 9839) (m := n + 1) (by omega)
  have p1 := mixV_hi (c := c) (p := 9839) (m := n + 1) (by omega)
  unfold writ
  generalize mixV c 9839 (n + 1) = p at *
  split
  · rename_i h
    obtain ⟨a, b⟩ := zero_big n0 h.2
    exact wr_num a b
  split
  · obtain ⟨a, b⟩ := num_big (n := p) p0 (by omega)
    obtain ⟨a', b'⟩ := num_big (n := n - p) (by omega) (by omega)
    have l1 := numT_len (n := p) (k := 4) p0 (by decide) (by show p < (10000 : Int); omega)
    have l2 := numT_len (n := n - p) (k := 4) (by omega) (by decide) (by show n - p < (10000 : Int); omega)
    refine ⟨⟨[(1, numT p), (1, numT (n - p))], ?_, fun ls here => ?_⟩, fun c hc => ?_, by rw [List.length_append, List.length_cons]; omega⟩
    · unfold termsL
      rw [termsG_op (tm_num a) 1 (.inl rfl), if_neg (by decide), termsG_one (tm_num a')]; rfl
    · rw [amt_cons a b, amt_cons a' b', amountL]; congr 1; omega
    · rcases List.mem_append.mp hc with z | z
      · have := numT_dig p0 c z; omega
      · rcases List.mem_cons.mp z with z | z
        · omega
        · have := numT_dig (n := n - p) (by omega) c z; omega
  split
  · obtain ⟨a, b⟩ := num_big (n := n + 7) (by omega) (by omega)
    have l1 := numT_len (n := n + 7) (k := 4) (by omega) (by decide) (by show n + 7 < (10000 : Int); omega)
    refine ⟨⟨[(1, numT (n + 7)), (-1, hereL), (1, hereL), (-1, [55])], ?_, fun ls here => ?_⟩, fun c hc => ?_, by rw [List.length_append]; have : (sL "-here+here-7").length = 12 := (by decide); omega⟩
    · unfold termsL
      rw [show sL "-here+here-7" = 45 :: (hereL ++ 43 :: (hereL ++ 45 :: [55])) by rfl, termsG_op (tm_num a) 1 (.inr rfl), termsG_op tm_here _ (.inl rfl), termsG_op tm_here _ (.inr rfl), termsG_one (tm_num (by decide))]; rfl
    · rw [amt_cons a b, amt_here, amt_here, amt_cons (v := 7) (by decide) (by decide), amountL]; congr 1; omega
    · rcases List.mem_append.mp hc with z | z
      · have := numT_dig (n := n + 7) (by omega) c z; omega
      · exact (show ∀ c ∈ sL "-here+here-7", c ≠ 32 ∧ c ≠ 59 ∧ c ≠ 10 by decide) c z
  · obtain ⟨a, b⟩ := num_big n0 (show n < 10000 by omega)
    exact wr_num a b
/-! ### pools -/
theorem madeGet_app (m : Made) (x n y : Int) : madeGet (m ++ [(x, n)]) y = (madeGet m y).or (if x = y then some n else none) := by
  unfold madeGet
  rw [List.find?_append]
  cases (m.find? fun q => decide (q.1 = y)) with
  | some q => rfl
  | none =>
    rw [Option.none_or, List.find?_cons]
    by_cases h : x = y
    · rw [decide_eq_true h, if_pos h]; rfl
    · rw [decide_eq_false h, if_neg h]; rfl
structure PI (ws pool : List Int) (m : Made) : Prop where
  lo : ∀ i : Nat, i < ws.length → madeGet m (i : Int) = ws[i]?
  hi : ∀ j : Nat, j < pool.length → madeGet m (63 - (j : Int)) = pool[j]?
  no : ∀ x : Int, (ws.length : Int) ≤ x → x + (pool.length : Int) ≤ 63 → madeGet m x = none
theorem pi_0 : PI [] [] [] := ⟨fun i h => absurd h (Nat.not_lt_zero _), fun i h => absurd h (Nat.not_lt_zero _), fun _ _ _ => rfl⟩
section
variable {ws pool : List Int} {m : Made} {n w : Int}
theorem PI.addP (p : PI ws pool m) (h : ws.length + pool.length ≤ 63) : PI ws (pool ++ [n]) (m ++ [((63 - (pool.length : Int) : Int), n)]) := by
  refine ⟨fun i hi => ?_, fun j hj => ?_, fun x h0 h1 => ?_⟩
  · rw [madeGet_app, p.lo i hi, List.getElem?_eq_getElem hi]; rfl
  · rw [List.length_append, List.length_singleton] at hj
    rw [madeGet_app]
    by_cases c : j < pool.length
    · rw [p.hi j c, List.getElem?_append_left c, List.getElem?_eq_getElem c]; rfl
    · have e : j = pool.length := by omega
      subst e
      rw [p.no _ (by omega) (by omega), Option.none_or, if_pos rfl, List.getElem?_append_right (Nat.le_refl _), Nat.sub_self]; rfl
  · rw [List.length_append, List.length_singleton] at h1
    rw [madeGet_app, p.no x h0 (by omega), Option.none_or, if_neg (by omega)]
theorem PI.addW (p : PI ws pool m) (h : ws.length + pool.length ≤ 63) : PI (ws ++ [w]) pool (m ++ [((ws.length : Int), w)]) := by
  refine ⟨fun i hi => ?_, fun j hj => ?_, fun x h0 h1 => ?_⟩
  · rw [List.length_append, List.length_singleton] at hi
    rw [madeGet_app]
    by_cases c : i < ws.length
    · rw [p.lo i c, List.getElem?_append_left c, List.getElem?_eq_getElem c]; rfl
    · have e : i = ws.length := by omega
      subst e
      rw [p.no _ (by omega) (by omega), Option.none_or, if_pos rfl, List.getElem?_append_right (Nat.le_refl _), Nat.sub_self]; rfl
  · rw [madeGet_app, p.hi j hj, List.getElem?_eq_getElem hj]; rfl
  · rw [List.length_append, List.length_singleton] at h0
    rw [madeGet_app, p.no x (by omega) h1, Option.none_or, if_neg (by omega)]
end
def poolF : List Int → List Int → List Int
  | acc, [] => acc
  | acc, n :: r => if n ∈ acc then poolF acc r else poolF (acc ++ [n]) r
theorem poolF_pre : ∀ (ns acc : List Int), ∃ r, poolF acc ns = acc ++ r ∧ r.length ≤ ns.length
  | [], acc => ⟨[], by simp [poolF], Nat.le_refl _⟩
  | n :: ns, acc => by
    rw [poolF]
    split
    · obtain ⟨r, e, l⟩ := poolF_pre ns acc
      exact ⟨r, e, by rw [List.length_cons]; omega⟩
    · obtain ⟨r, e, l⟩ := poolF_pre ns (acc ++ [n])
      exact ⟨n :: r, by rw [e]; simp, by rw [List.length_cons, List.length_cons]; omega⟩
theorem poolF_idx {acc ns : List Int} {n : Int} (h : n ∈ acc) : (poolF acc ns).idxOf n = acc.idxOf n := by
  obtain ⟨r, e, _⟩ := poolF_pre ns acc
  rw [e, List.idxOf_append, if_pos h]
theorem poolF_mem : ∀ {ns acc : List Int} {n : Int}, n ∈ acc ∨ n ∈ ns → n ∈ poolF acc ns
  | [], acc, n, h => h.elim id (fun z => by cases z)
  | x :: ns, acc, n, h => by
    rw [poolF]
    split
    · rename_i c
      refine poolF_mem (h.elim .inl fun z => ?_)
      rcases List.mem_cons.mp z with e | e
      · exact .inl (e ▸ c)
      · exact .inr e
    · refine poolF_mem ?_
      rcases h with h | h
      · exact .inl (List.mem_append_left _ h)
      · rcases List.mem_cons.mp h with e | e
        · exact .inl (List.mem_append_right _ (by rw [e]; exact List.mem_cons_self))
        · exact .inr e
/-- a line with a pool word -/
structure PLine (l : LN) (b n : Int) : Prop where
  ex : ∃ ts, readL l = some (none, some (.pool b ts)) ∧ ∀ ls here, amountL ls here 0 ts = some n
  n0 : 0 ≤ n
  n1 : n < 1024
def wordP (P : List Int) (q : LN × Int × Int) : Int := q.2.1 + (63 - (P.idxOf q.2.2 : Nat))
theorem pool_gone : ∀ (xs : List (LN × Int × Int)) (acc : List (Option Dd)) (k j : Nat), (∀ q ∈ xs, PLine q.1 q.2.1 q.2.2) → k + xs.length ≤ 30 → ∃ ds, goneG acc [] (k : Int) j (xs.map (·.1)) = .ok (acc ++ ds, []) ∧
    ∀ (m : Made) (ws pool : List Int) (j' : Nat), PI ws pool m → ws.length = k → pool.length ≤ k → ∃ m', cellsG [] m pool (k : Int) j' ds = .ok m' ∧ PI (ws ++ xs.map (wordP (poolF pool (xs.map (·.2.2))))) (poolF pool (xs.map (·.2.2))) m'
  | [], acc, k, j, _, _ => ⟨[], by simp [goneG], fun m ws pool j' p _ _ => ⟨m, by simp [cellsG], by simpa [poolF] using p⟩⟩
  | q :: xs, acc, k, j, h, hl => by
    obtain ⟨⟨ts, hr, ha⟩, n0, n1⟩ := h q List.mem_cons_self
    rw [List.length_cons] at hl
    have hs : goneStep q.1 [] (k : Int) j = .ok (some (.pool q.2.1 ts), [], (k : Int) + 1) := by
      unfold goneStep
      rw [hr]
      dsimp only [tellL]
      have w : withinL ((k : Int) + 1) 64 j = .ok ((k : Int) + 1) := by unfold withinL; rw [if_pos ⟨by omega, by omega⟩]
      unfold moveG
      dsimp only
      rw [w]
    obtain ⟨ds, g2, c2⟩ := pool_gone xs (acc ++ [some (.pool q.2.1 ts)]) (k + 1) (j + 1) (fun x hx => h x (List.mem_cons_of_mem _ hx)) (by omega)
    refine ⟨some (.pool q.2.1 ts) :: ds, ?_, fun m ws pool j' p wl pl => ?_⟩
    · rw [List.map_cons, goneG, hs]
      dsimp only
      rw [show (k : Int) + 1 = ((k + 1 : Nat) : Int) by omega, g2]
      simp
    · have aw : amtW [] (k : Int) ts 1023 j' = .ok q.2.2 := by
        unfold amtW amtL
        rw [ha]
        dsimp only
        unfold withinL; rw [if_pos ⟨n0, by omega⟩]
      have key : ∀ (m1 : Made) (p1 : List Int), poolL m pool q.2.2 j' = .ok (m1, p1, 63 - (p1.idxOf q.2.2 : Nat)) → PI ws p1 m1 → p1.length ≤ k + 1 → q.2.2 ∈ p1 → poolF pool ((q :: xs).map (·.2.2)) = poolF p1 (xs.map (·.2.2)) →
          ∃ m', cellsG [] m pool (k : Int) j' (some (.pool q.2.1 ts) :: ds) = .ok m' ∧ PI (ws ++ (q :: xs).map (wordP (poolF pool ((q :: xs).map (·.2.2))))) (poolF pool ((q :: xs).map (·.2.2))) m' := fun m1 p1 e p1i pl1 hm ep => by
        have mk : makeL m1 (k : Int) (q.2.1 + (63 - (p1.idxOf q.2.2 : Nat))) j' = .ok (m1 ++ [((k : Int), q.2.1 + (63 - (p1.idxOf q.2.2 : Nat)))]) := by
          unfold makeL
          rw [if_neg]
          intro z
          rcases z with z | z
          · rw [p1i.no _ (by omega) (by omega)] at z; cases z
          · omega
        have hc : cellStep [] m pool (k : Int) j' (some (.pool q.2.1 ts)) = .ok (m1 ++ [((k : Int), q.2.1 + (63 - (p1.idxOf q.2.2 : Nat)))], p1, (k : Int) + 1) := by
          unfold cellStep wordOf
          dsimp only
          rw [aw]
          dsimp only
          rw [e]
          dsimp only
          rw [mk]
        have pw := p1i.addW (w := q.2.1 + (63 - (p1.idxOf q.2.2 : Nat))) (by omega)
        rw [wl] at pw
        obtain ⟨m', e1, e2⟩ := c2 _ _ p1 (j' + 1) pw (by rw [List.length_append, wl]; rfl) pl1
        refine ⟨m', ?_, ?_⟩
        · rw [cellsG, hc]
          dsimp only
          rw [show (k : Int) + 1 = ((k + 1 : Nat) : Int) by omega, e1]
        · rw [ep]
          rw [List.append_assoc] at e2
          have : wordP (poolF p1 (xs.map (·.2.2))) q = q.2.1 + (63 - (p1.idxOf q.2.2 : Nat)) := by unfold wordP; rw [poolF_idx hm]
          rw [List.map_cons, this]
          exact e2
      by_cases c : q.2.2 ∈ pool
      · refine key m pool (by unfold poolL; rw [if_pos c]) p (by omega) c (by rw [List.map_cons, poolF, if_pos c])
      · refine key (m ++ [((63 - (pool.length : Int) : Int), q.2.2)]) (pool ++ [q.2.2]) ?_ (p.addP (by omega)) (by rw [List.length_append]; simp; omega) (List.mem_append_right _ List.mem_cons_self) (by rw [List.map_cons, poolF, if_neg c])
        have ei : (pool ++ [q.2.2]).idxOf q.2.2 = pool.length := by rw [List.idxOf_append, if_neg c]; simp
        unfold poolL
        rw [if_neg c]
        have mk : makeL m (63 - (pool.length : Int)) q.2.2 j' = .ok (m ++ [((63 - (pool.length : Int) : Int), q.2.2)]) := by
          unfold makeL
          rw [if_neg]
          intro z
          rcases z with z | z
          · rw [p.no _ (by omega) (by omega)] at z; cases z
          · omega
        rw [mk, ei]
theorem cells_PI {ws pool : List Int} {m : Made} (p : PI ws pool m) (h : ws.length + pool.length ≤ 64) : cellsOf m = ws ++ List.replicate (64 - ws.length - pool.length) 0 ++ pool.reverse := by
  apply List.ext_getElem?
  intro i
  unfold cellsOf
  rw [List.getElem?_map]
  by_cases hi : i < 64
  · rw [List.getElem?_range hi]
    show some ((madeGet m (i : Int)).getD 0) = _
    by_cases h1 : i < ws.length
    · rw [p.lo i h1, List.append_assoc, List.getElem?_append_left h1, List.getElem?_eq_getElem h1]; rfl
    · by_cases h2 : i + pool.length < 64
      · rw [p.no _ (by omega) (by omega), List.getElem?_append_left (by rw [List.length_append, List.length_replicate]; omega), List.getElem?_append_right (by omega), List.getElem?_replicate, if_pos (by omega)]; rfl
      · have hj : 63 - i < pool.length := by omega
        have e := p.hi (63 - i) hj
        rw [show (63 : Int) - ((63 - i : Nat) : Int) = (i : Int) by omega] at e
        rw [e, List.getElem?_append_right (by rw [List.length_append, List.length_replicate]; omega), List.length_append, List.length_replicate, List.getElem?_reverse (by omega)]
        rw [show pool.length - 1 - (i - (ws.length + (64 - ws.length - pool.length))) = 63 - i by omega, List.getElem?_eq_getElem hj]; rfl
  · rw [List.getElem?_eq_none (by simp; omega), List.getElem?_eq_none (by simp; omega)]; rfl
theorem asm_pool {xs : List (LN × Int × Int)} (h : ∀ q ∈ xs, PLine q.1 q.2.1 q.2.2) (hn : ∀ q ∈ xs, 10 ∉ q.1) (hl : xs.length ≤ 30) :
    assembledL (TL.joinL [10] (xs.map (·.1))) = .ok (xs.map (wordP (poolF [] (xs.map (·.2.2)))) ++ List.replicate (64 - xs.length - (poolF [] (xs.map (·.2.2))).length) 0 ++ (poolF [] (xs.map (·.2.2))).reverse) := by
  cases xs with
  | nil =>
    show Except.ok (cellsOf []) = _
    rw [show cellsOf [] = List.replicate 64 0 by decide +kernel]; rfl
  | cons q r =>
    obtain ⟨ds, g, c⟩ := pool_gone (q :: r) [] 0 1 h (by omega)
    obtain ⟨m, c, p⟩ := c [] [] [] 1 pi_0 rfl (Nat.zero_le _)
    unfold assembledL
    rw [cutAt_join 10 (by simp) (fun p hp => by obtain ⟨x, hx, rfl⟩ := List.mem_map.mp hp; exact hn x hx)]
    have g' : goneL ((q :: r).map (·.1)) = .ok (ds, []) := g
    rw [g']
    dsimp only
    have c' : cellsG [] [] [] 0 1 ds = .ok m := c
    rw [c']
    dsimp only
    obtain ⟨r', e, l⟩ := poolF_pre ((q :: r).map (·.2.2)) []
    have pl : (poolF [] ((q :: r).map (·.2.2))).length ≤ 30 := by rw [e, List.nil_append]; rw [List.length_map] at l; omega
    rw [cells_PI p (by rw [List.nil_append, List.length_map]; omega), List.nil_append, List.length_map]
/-! ### k33: the law's own defs -/
theorem oL_app (a b : LN) : oL (a ++ b) = oL a ++ oL b := by
  have e : TL.tl (oL a ++ oL b) = a ++ b := by rw [TL.tl_append]
  rw [← oL_tl (oL a ++ oL b), e]
theorem oL_join (s : LN) (ps : List LN) : oL (TL.joinL s ps) = Str.join (oL s) (ps.map oL) := by
  have e : TL.tl (Str.join (oL s) (ps.map oL)) = TL.joinL s ps := by
    rw [TL.tl_join, List.map_map]
    have : (TL.tl ∘ oL : LN → LN) = id := rfl
    rw [this, List.map_id]
  rw [← oL_tl (Str.join (oL s) (ps.map oL)), e]
theorem oL_len (t : LN) : (oL t).length = t.length := SX.S_len t
theorem lnsD_strs (ps : List LN) : lnsD ps = .list (strsD (ps.map oL)) := by unfold lnsD strsD; rw [List.map_map] <;> rfl
theorem sum_len {b : Nat} {ps : List LN} (h : ∀ p ∈ ps, p.length ≤ b) : (((ps.map oL).map (·.length)).sum) ≤ ps.length * b := by
  have := sum_le (b := b) (ys := ps.map oL) fun s hs => by
    obtain ⟨p, hp, rfl⟩ := List.mem_map.mp hs
    rw [oL_len]; exact h p hp
  rwa [List.length_map] at this
theorem dv_joinL {K : PySem.W.Frag} {H : Hp} {F : FS} {W : Hp → Prop} {σ : L2.St} {to te : TE} {ps : List LN} {s : LN} {b : Nat} (ha : Dv K F W to σ H (.str (oL s))) (hb : Dv K F W te σ H (lnsD ps)) (hl : ∀ p ∈ ps, p.length ≤ b) (hn : ps.length * b + ps.length * s.length ≤ 1000000) : Dv K F W (tM1 (rJoin K) to te) σ H (.str (oL (TL.joinL s ps))) :=
  (dv_join (ys := ps.map oL) ha (hb.eq (lnsD_strs ps)) (by
    have := sum_len hl
    rw [List.length_map, oL_len s]; omega)).eq (by rw [oL_join])
theorem joinL_small {ps : List LN} {s : LN} {b : Nat} (hl : ∀ p ∈ ps, p.length ≤ b) : (TL.joinL s ps).length ≤ ps.length * b + ps.length * s.length := by
  have h1 := joinL_len s ps
  have h2 := sum_len hl
  rw [List.map_map] at h2
  have e : ps.map ((fun x : Str => x.length) ∘ oL) = ps.map List.length := List.map_congr_left fun p _ => oL_len p
  rw [e] at h2
  omega
theorem zeros_range {z : Int} : fmD (fun _ => true) (fun _ => PyData.int 0) (List.range z.toNat) = intsL (List.replicate z.toNat 0) := by
  rw [fmD_all]
  unfold intsL
  rw [List.map_replicate]
  rw [List.map_const', List.length_range]
theorem lnAt {xs : List LN} {i : Nat} (h : i < xs.length) : (xs.map lnD)[i]? = some (lnD (xs.getD i [])) := by
  rw [List.getElem?_map, List.getElem?_eq_getElem h]
  simp [List.getD_eq_getElem?_getD, List.getElem?_eq_getElem h]
theorem oL_num (n : Int) : oL (numT n) = toS n := oL_tl _
theorem Da.intsR {K : PySem.W.Frag} {H : Hp} {F : FS} {v : V} {ns : List Int} (h : Da K H F v (.list (Ch.intsL ns))) : ∃ b, v = .ref b ∧ H b = some (.lst (ns.map V.int)) ∧ ¬ F b := by
  cases h with | lst h1 h2 =>
  have e := h2.ints
  subst e
  exact ⟨_, rfl, h1.at_, h1.no⟩
theorem dvEqD {K : PySem.W.Frag} {H : Hp} {F : FS} {W : Hp → Prop} {σ : L2.St} {ta tb : TE} {d e : PyData} (ha : Dv K F W ta σ H d) (hb : Dv K F W tb σ H e) (sd : SeqAt.shaped d = true) (se : SeqAt.shaped e = true) : Dv K F W (tOp (rEqD K) ta tb) σ H (.bool (PyData.eqv d e)) := fun H1 m o Q q =>
  x_eqD o (ha.mv m) (hb.mv m) sd se fun H2 m2 o2 => q _ _ m2 o2 (.bl _)
theorem eqvI (a b : List Int) : PyData.eqv (.list (intsL a)) (.list (intsL b)) = decide (a = b) := eqv_intsL a b
def prePool (K : PySem.W.Frag) (vs : List V) (H : Hp) (F : FS) (_ : Hp → Prop) (d : List PyData) : Prop := ∃ (v : V) (ns : List Int), vs = [v] ∧ Da K H F v (.list (intsL ns)) ∧ ns.length ≤ 1000 ∧ d = intsL (poolF [] ns)
def preWrit (vs : List V) (_ : Hp) (_ : FS) (_ : Hp → Prop) (d : PyData) : Prop := ∃ c n : Int, vs = [.int c, .int n] ∧ 0 ≤ n ∧ n < 1024 ∧ d = lnD (writ c n)
/-! two lists of one's own -/
def F2 (D1 D2 : Addr) : FS := withF (withF noF D1) D2
def W2 (D1 D2 : Addr) (xs ys : List V) : Hp → Prop := fun H => H D1 = some (.lst xs) ∧ H D2 = some (.lst ys)
section
variable {D1 D2 : Addr} {xs ys : List V} {H : Hp} {v : V}
theorem wo2 : Wo (F2 D1 D2) (W2 D1 D2 xs ys) := ⟨fun H H' k _ w => ⟨k D1 _ (.inl (.inr rfl)) w.1, k D2 _ (.inr rfl) w.2⟩⟩
theorem ok2 (h1 : H D1 = some (.lst xs)) (h2 : H D2 = some (.lst ys)) : Ok (F2 D1 D2) (W2 D1 D2 xs ys) H := ⟨fun b f => by
  rcases f with (f | f) | f
  · exact f.elim
  · rw [f, h1]; exact fun z => (by cases z)
  · rw [f, h2]; exact fun z => (by cases z), h1, h2⟩
theorem mv2a {o : HO} : Mv (F2 D1 D2) H (F2 D1 D2) (upd H D1 o) := ⟨fun b o n e => by rw [upd_ne (fun q => n (by rw [q]; exact .inl (.inr rfl)))]; exact e, fun _ f => .inl f⟩
theorem mv2b {o : HO} : Mv (F2 D1 D2) H (F2 D1 D2) (upd H D2 o) := ⟨fun b o n e => by rw [upd_ne (fun q => n (by rw [q]; exact .inr rfl))]; exact e, fun _ f => .inl f⟩
end
def num33 (nums : List Int) (c : Int) : Int := if mixV c 9871 3 = 0 ∧ nums ≠ [] then nums.getD (mixV c 9859 (nums.length : Int)).toNat 0 else c % 1024
def nums33 : List Int → List Int → List Int
  | acc, [] => acc
  | acc, c :: r => nums33 (acc ++ [num33 acc c]) r
theorem num33_in {nums : List Int} {c : Int} (h : ∀ n ∈ nums, 0 ≤ n ∧ n < 1024) : 0 ≤ num33 nums c ∧ num33 nums c < 1024 := by
  unfold num33
  split
  · exact menu_in (fun n => 0 ≤ n ∧ n < 1024) h (by decide) _
  · omega
def addL : LN := sL "add"
def andL : LN := sL "and"
def line33 (c n : Int) : LN := kdLine (if mixV c 9857 2 = 0 then addL else andL) (decide (mixV c 9851 2 ≠ 0)) (61 :: writ c n)
def hdA : List LN := [addL, andL]
def hdB : List LN := [[32], sL " far "]
theorem line33_eq (c n : Int) : (hdA.getD (mixV c 9857 2).toNat [] ++ hdB.getD (mixV c 9851 2).toNat []) ++ [61] ++ writ c n = line33 c n := by
  have a0 := mixV_lo (c := c) (p := 9857) (m := 2) (by decide)
  have a1 := mixV_hi (c := c) (p := 9857) (m := 2) (by decide)
  have b0 := mixV_lo (c := c) (p := 9851) (m := 2) (by decide)
  have b1 := mixV_hi (c := c) (p := 9851) (m := 2) (by decide)
  unfold line33
  generalize writ c n = w
  have ha : mixV c 9857 2 = 0 ∨ mixV c 9857 2 = 1 := by omega
  have hb : mixV c 9851 2 = 0 ∨ mixV c 9851 2 = 1 := by omega
  rcases ha with ha | ha <;> rcases hb with hb | hb <;> rw [ha, hb] <;> rfl
theorem line33_ok (c : Int) {n : Int} (n0 : 0 ≤ n) (n1 : n < 1024) : PLine (line33 c n) (128 * (1 - mixV c 9857 2) + 64 * mixV c 9851 2) n ∧ 10 ∉ line33 c n ∧ (line33 c n).length ≤ 40 := by
  have a0 := mixV_lo (c := c) (p := 9857) (m := 2) (by decide)
  have a1 := mixV_hi (c := c) (p := 9857) (m := 2) (by decide)
  have b0 := mixV_lo (c := c) (p := 9851) (m := 2) (by decide)
  have b1 := mixV_hi (c := c) (p := 9851) (m := 2) (by decide)
  obtain ⟨⟨ts, e1, e2⟩, cs, wl⟩ := writ_ok (c := c) n0 n1
  have hx : (if mixV c 9857 2 = 0 then addL else andL) ∈ kindsN := by split <;> decide
  have c59 : 59 ∉ writ c n := fun z => (cs 59 z).2.1 rfl
  have r := read_pool (x := if mixV c 9857 2 = 0 then addL else andL) (far := decide (mixV c 9851 2 ≠ 0)) hx (fun z => (cs 32 z).1 rfl) c59 e1
  refine ⟨⟨⟨ts, ?_, e2⟩, n0, n1⟩, ?_, ?_⟩
  · unfold line33
    rw [r]
    have ha : mixV c 9857 2 = 0 ∨ mixV c 9857 2 = 1 := by omega
    have hb : mixV c 9851 2 = 0 ∨ mixV c 9851 2 = 1 := by omega
    rcases ha with ha | ha <;> rcases hb with hb | hb <;> rw [ha, hb] <;> rfl
  · unfold line33
    exact kd_free hx (.inr rfl) fun z => (List.mem_cons.mp z).elim (fun e => by cases e) fun z => (cs 10 z).2.2 rfl
  · unfold line33 kdLine
    have : (if mixV c 9857 2 = 0 then addL else andL).length = 3 := by split <;> rfl
    rw [List.length_append, List.length_cons, List.length_append, List.length_cons, this]
    split
    · have : (farL ++ [32]).length = 4 := rfl
      omega
    · simp; omega
theorem getD_mem {xs : List Int} {i : Nat} (h : i < xs.length) : xs[i]? = some (xs.getD i 0) := by rw [List.getD_eq_getElem?_getD, List.getElem?_eq_getElem h]; rfl
def lines33 : List Int → List Int → List LN
  | c :: cs, n :: ns => line33 c n :: lines33 cs ns
  | _, _ => []
def ws33 (P : List Int) : List Int → List Int → List Int
  | c :: cs, n :: ns => (128 * (1 - mixV c 9857 2) + 64 * mixV c 9851 2 + (63 - (P.idxOf n : Nat))) :: ws33 P cs ns
  | _, _ => []
theorem lines33_snoc : ∀ {cs ns : List Int} {c n : Int}, cs.length = ns.length → lines33 (cs ++ [c]) (ns ++ [n]) = lines33 cs ns ++ [line33 c n]
  | [], [], _, _, _ => rfl
  | x :: cs, y :: ns, c, n, h => by
    show line33 x y :: lines33 (cs ++ [c]) (ns ++ [n]) = _
    rw [lines33_snoc (by simpa using h)]; rfl
  | [], _ :: _, _, _, h => by simp at h
  | _ :: _, [], _, _, h => by simp at h
theorem lines33_zip : ∀ {cs ns : List Int}, cs.length = ns.length → (∀ n ∈ ns, 0 ≤ n ∧ n < 1024) → ∃ xs : List (LN × Int × Int), xs.map (·.1) = lines33 cs ns ∧ xs.map (·.2.2) = ns ∧ (∀ P, xs.map (wordP P) = ws33 P cs ns) ∧ (∀ q ∈ xs, PLine q.1 q.2.1 q.2.2) ∧ (∀ q ∈ xs, 10 ∉ q.1) ∧ (∀ l ∈ lines33 cs ns, l.length ≤ 40) ∧ (lines33 cs ns).length = ns.length ∧ xs.length = ns.length
  | [], [], _, _ => ⟨[], rfl, rfl, fun _ => rfl, fun q h => (by cases h), fun q h => (by cases h), fun q h => (by cases h), rfl, rfl⟩
  | c :: cs, n :: ns, hl, h => by
    obtain ⟨xs, e1, e2, e3, e4, e5, e6, e7, e8⟩ := lines33_zip (cs := cs) (ns := ns) (by simpa using hl) fun x hx => h x (List.mem_cons_of_mem _ hx)
    obtain ⟨n0, n1⟩ := h n List.mem_cons_self
    obtain ⟨p, f, l⟩ := line33_ok c n0 n1
    refine ⟨(line33 c n, 128 * (1 - mixV c 9857 2) + 64 * mixV c 9851 2, n) :: xs, ?_, ?_, fun P => ?_, fun q hq => ?_, fun q hq => ?_, fun q hq => ?_, ?_, ?_⟩
    · rw [List.map_cons, e1]; rfl
    · rw [List.map_cons, e2]
    · rw [List.map_cons, e3]; rfl
    · rcases List.mem_cons.mp hq with e | e
      · rw [e]; exact p
      · exact e4 q e
    · rcases List.mem_cons.mp hq with e | e
      · rw [e]; exact f
      · exact e5 q e
    · rcases List.mem_cons.mp hq with e | e
      · rw [e]; exact l
      · exact e6 q e
    · show (line33 c n :: lines33 cs ns).length = _
      rw [List.length_cons, List.length_cons, e7]
    · rw [List.length_cons, List.length_cons, e8]
  | [], _ :: _, h, _ => by simp at h
  | _ :: _, [], h, _ => by simp at h
theorem ws33_len {P : List Int} : ∀ {cs ns : List Int}, cs.length = ns.length → (ws33 P cs ns).length = ns.length
  | [], [], _ => rfl
  | c :: cs, n :: ns, h => by
    show (_ :: ws33 P cs ns).length = _
    rw [List.length_cons, List.length_cons, ws33_len (by simpa using h)]
  | [], _ :: _, h => by simp at h
  | _ :: _, [], h => by simp at h
theorem ws33_at {P : List Int} : ∀ {cs ns : List Int} {i : Nat} {c n : Int}, cs[i]? = some c → ns[i]? = some n → (ws33 P cs ns)[i]? = some (128 * (1 - mixV c 9857 2) + 64 * mixV c 9851 2 + (63 - (P.idxOf n : Nat)))
  | c :: cs, n :: ns, 0, _, _, h1, h2 => by cases h1; cases h2; rfl
  | c :: cs, n :: ns, i + 1, _, _, h1, h2 => ws33_at (cs := cs) (ns := ns) (i := i) h1 h2
  | [], _, i, _, _, h, _ => by simp at h
  | _ :: _, [], i, _, _, _, h => by simp at h
theorem asm33 {cs ns : List Int} (hl : cs.length = ns.length) (h30 : cs.length ≤ 30) (h : ∀ n ∈ ns, 0 ≤ n ∧ n < 1024) :
    assembledL (TL.joinL [10] (lines33 cs ns)) = .ok (ws33 (poolF [] ns) cs ns ++ List.replicate (64 - ns.length - (poolF [] ns).length) 0 ++ (poolF [] ns).reverse) ∧ (∀ l ∈ lines33 cs ns, l.length ≤ 40) ∧ (lines33 cs ns).length = ns.length ∧ (poolF [] ns).length ≤ ns.length := by
  obtain ⟨xs, e1, e2, e3, e4, e5, e6, e7, e8⟩ := lines33_zip hl h
  have := asm_pool e4 e5 (by omega)
  rw [e1, e2, e3, e8] at this
  obtain ⟨r, er, l⟩ := poolF_pre ns []
  exact ⟨this, e6, e7, by rw [er, List.nil_append]; exact l⟩
theorem hd33_len (i j : Nat) : (hdA.getD i [] ++ hdB.getD j []).length ≤ 8 := by
  have gA : (hdA.getD i []).length ≤ 3 := by
    rw [List.getD_eq_getElem?_getD]
    cases e : hdA[i]? with
    | none => simp
    | some x => exact (show ∀ x ∈ hdA, x.length ≤ 3 by decide) x (List.mem_of_getElem? e)
  have gB : (hdB.getD j []).length ≤ 5 := by
    rw [List.getD_eq_getElem?_getD]
    cases e : hdB[j]? with
    | none => simp
    | some x => exact (show ∀ x ∈ hdB, x.length ≤ 5 by decide) x (List.mem_of_getElem? e)
  rw [List.length_append]; omega
section
variable {K : PySem.W.Frag} {H : Hp} {F : FS} {W : Hp → Prop} {σ : L2.St} {ta tb tc : TE} {i j : Int} {c n : Int} {hd : LN}
theorem dv_hd33 (wo : Wo F W) (ha : ∀ H1, Mv F H F H1 → Ok F W H1 → Val ta σ H1 (.int i)) (hb : ∀ H1, Mv F H F H1 → Ok F W H1 → Val tb σ H1 (.int j)) (i0 : 0 ≤ i ∧ i < 2) (j0 : 0 ≤ j ∧ j < 2) :
    Dv K F W (tOp (fun x y H Q => ∃ i j, x = .str i ∧ y = .str j ∧ i.length + j.length ≤ sizeLine ∧ Q (.str (i ++ j)) H) (tOp (rIxL K) (tLst (tCons (tC (.str "add")) (tCons (tC (.str "and")) tNil))) ta) (tOp (rIxL K) (tLst (tCons (tC (.str " ")) (tCons (tC (.str " far ")) tNil))) tb)) σ H (lnD (hdA.getD i.toNat [] ++ hdB.getD j.toNat [])) := by
  have l := hd33_len i.toNat j.toNat
  rw [List.length_append] at l
  have lA := oL_len (hdA.getD i.toNat [])
  have lB := oL_len (hdB.getD j.toNat [])
  exact (dv_catS (dv_ixL (ds := hdA.map lnD) (d := lnD (hdA.getD i.toNat [])) (Dv.eq (dv_lst wo (da_cons dv_s (da_cons dv_s da_nil))) (by rfl)) ha i0.1 (lnAt (by show _ < 2; omega))) (dv_ixL (ds := hdB.map lnD) (d := lnD (hdB.getD j.toNat [])) (Dv.eq (dv_lst wo (da_cons dv_s (da_cons dv_s da_nil))) (by rfl)) hb j0.1 (lnAt (by show _ < 2; omega))) (by rw [lA, lB]; omega)).eq (show _ = PyData.str (oL (_ ++ _)) by rw [oL_app])
theorem dv_ln33 (le : hd ++ [61] ++ writ c n = line33 c n) (hl : hd.length ≤ 8) (n0 : 0 ≤ n) (n1 : n < 1024) (ha : Dv K F W ta σ H (lnD hd)) (hc : Dv K F W tc σ H (lnD (writ c n))) :
    Dv K F W (tOp (fun x y H Q => ∃ i j, x = .str i ∧ y = .str j ∧ i.length + j.length ≤ sizeLine ∧ Q (.str (i ++ j)) H) (tOp (fun x y H Q => ∃ i j, x = .str i ∧ y = .str j ∧ i.length + j.length ≤ sizeLine ∧ Q (.str (i ++ j)) H) ta (tC (.str "="))) tc) σ H (lnD (line33 c n)) := by
  have lW := (writ_ok (c := c) n0 n1).len
  have lWo := oL_len (writ c n)
  have lH := oL_len hd
  have l1 : ("=" : Str).length = 1 := by decide
  exact (dv_catS (dv_catS ha dv_s (by rw [lH]; omega)) hc (by rw [len_app, lH, lWo]; omega)).eq (show _ = PyData.str (oL (line33 c n)) by rw [← le, oL_app, oL_app]; rfl)
end
theorem lines33_len : ∀ (cs ns : List Int), (lines33 cs ns).length ≤ ns.length
  | [], [] => Nat.le_refl _
  | [], _ :: _ => Nat.zero_le _
  | _ :: _, [] => Nat.zero_le _
  | c :: cs, n :: ns => by
    have := lines33_len cs ns
    show (_ :: lines33 cs ns).length ≤ _
    rw [List.length_cons, List.length_cons]; omega
theorem Da.strV {K : PySem.W.Frag} {H : Hp} {F : FS} {v : V} {l : LN} (h : Da K H F v (lnD l)) : v = .str (oL l) := by cases h; rfl
theorem fs_ws {ws P : List Int} {i : Nat} {w : Int} (h : ws[i]? = some w) : (ws ++ List.replicate (64 - ws.length - P.length) 0 ++ P.reverse)[i]? = some w := by
  have hl := (List.getElem?_eq_some_iff.mp h).1
  rw [List.append_assoc, List.getElem?_append_left hl, h]
theorem fs_pool {ws P : List Int} {n : Int} (hn : n ∈ P) (hl : ws.length + P.length ≤ 64) : (ws ++ List.replicate (64 - ws.length - P.length) 0 ++ P.reverse)[63 - P.idxOf n]? = some n := by
  obtain ⟨e, _, l⟩ := idxI hn
  rw [List.getElem?_append_right (by rw [List.length_append, List.length_replicate]; omega), List.length_append, List.length_replicate, List.getElem?_reverse (by omega)]
  rw [show P.length - 1 - (63 - P.idxOf n - (ws.length + (64 - ws.length - P.length))) = P.idxOf n by omega]
  exact e
theorem fs_mid {ws P : List Int} (hl : ws.length + P.length ≤ 64) : (((ws ++ List.replicate (64 - ws.length - P.length) 0 ++ P.reverse).take (64 - P.length)).drop ws.length) = List.replicate (64 - ws.length - P.length) 0 := by
  rw [List.take_left' (by rw [List.length_append, List.length_replicate]; omega), List.drop_left' rfl]
theorem fs_end {ws P : List Int} (hl : ws.length + P.length ≤ 64) : ((ws ++ List.replicate (64 - ws.length - P.length) 0 ++ P.reverse).drop (64 - P.length)) = P.reverse := by
  rw [List.drop_left' (by rw [List.length_append, List.length_replicate]; omega)]
theorem fs_len {ws P : List Int} (hl : ws.length + P.length ≤ 64) : (ws ++ List.replicate (64 - ws.length - P.length) 0 ++ P.reverse).length = 64 := by simp; omega
theorem ints_at {xs : List Int} {i : Nat} {x : Int} (h : xs[i]? = some x) : (xs.map V.int)[(i : Int).toNat]? = some (V.int x) := by rw [Int.toNat_natCast, List.getElem?_map, h]; rfl
/-! ### readings of texts, signs -/
section
variable {K : PySem.W.Frag} {H H' H1 : Hp} {F : FS} {W : Hp → Prop} {σ : L2.St} {te ta tb tc to : TE} {v : V} {d e : PyData} {s t : LN} {i j : Int} {vs : List V} {D : Addr} {b c : Bool}
theorem am_neLn (ha : Dv K F W ta σ H (lnD s)) (hb : Dv K F W tb σ H (lnD t)) : AnsM F W (tTest (tOp rNe ta tb)) σ H (!decide (s = t)) := fun H1 m o Q q =>
  ha H1 m o _ fun v H2 m2 o2 hv => hb H2 (m.trans m2) o2 _ fun v' H3 m3 o3 hv' => by
    cases hv.strV; cases hv'.strV
    exact ⟨rfl, !decide (s = t), by rw [show (decide (V.str (oL s) = V.str (oL t))) = decide (s = t) by rw [dec_vstr, dec_oL]], q _ (m2.trans m3) o3⟩
theorem dv_lcat (ha : Dv K F W ta σ H (lnD s)) (hb : Dv K F W tb σ H (lnD t)) (hl : s.length + t.length ≤ 100000) : Dv K F W (tOp (fun x y H Q => ∃ i j, x = .str i ∧ y = .str j ∧ i.length + j.length ≤ sizeLine ∧ Q (.str (i ++ j)) H) ta tb) σ H (lnD (s ++ t)) :=
  (dv_catS ha hb (by rw [oL_len s, oL_len t]; exact hl)).eq (by rw [lnD, oL_app])
theorem dv_num {n : Int} (h : ∀ H1, Mv F H F H1 → Ok F W H1 → Val te σ H1 (.int n)) (h0 : 0 ≤ n) (h1 : n < 10000) : Dv K F W (tCB (fun xs H Q => ∃ i, xs = [.int i] ∧ i.natAbs.log2 < 1920 ∧ Q (.str (toString i)) H) (tCons te tNil)) σ H (lnD (numT n)) :=
  (dv_toS h (by omega)).eq (by rw [lnD, oL_num])
theorem dv_lit {s : Str} (h : .str s = lnD t := by rfl) : Dv K F W (tC (.str s)) σ H (lnD t) := dv_s.eq h
theorem dv_ln (h : ∀ H1, Mv F H F H1 → Ok F W H1 → Val te σ H1 (.str (oL t))) : Dv K F W te σ H (lnD t) := dv_st h
theorem dv_vln {k : Nat} (h : σ[k]? = some (some (.str (oL t)))) : Dv K F W (tVar k) σ H (lnD t) := dv_var h (.str _)
end
theorem joinL_snoc (s y : LN) : ∀ xs : List LN, xs ≠ [] → TL.joinL s (xs ++ [y]) = TL.joinL s xs ++ (s ++ y)
  | [], h => absurd rfl h
  | [p], _ => rfl
  | p :: q :: r, _ => by
    show p ++ (s ++ TL.joinL s ((q :: r) ++ [y])) = (p ++ (s ++ TL.joinL s (q :: r))) ++ (s ++ y)
    rw [joinL_snoc s y (q :: r) (by simp)]
    simp
theorem am_B {K : PySem.W.Frag} {H : Hp} {F : FS} {W : Hp → Prop} {σ : L2.St} {te : TE} {b : Bool} (h : Dv K F W te σ H (.bool b)) : AnsM F W (tB te) σ H b := fun H1 m o Q q => h H1 m o _ fun v H2 m2 o2 hv => by
  cases hv
  exact ⟨b, rfl, q H2 m2 o2⟩
theorem dv_sum {K : PySem.W.Frag} {H : Hp} {F : FS} {W : Hp → Prop} {σ : L2.St} {te : TE} {ns : List Int} (h : Dv K F W te σ H (.list (intsL ns))) : Dv K F W (tCB (rSum K) (tCons te tNil)) σ H (.int ns.sum) := fun H1 m o Q q =>
  x_sumM o (h.mv m) fun H' m' o' => q _ _ m' o' (.int _)
theorem dv_mul {K : PySem.W.Frag} {H : Hp} {F : FS} {W : Hp → Prop} {σ : L2.St} {ta tb : TE} {i j : Int} (ha : Dv K F W ta σ H (.int i)) (hb : Dv K F W tb σ H (.int j)) (hc : CMul i j) : Dv K F W (tOp (rI CMul fun i j => .int (i * j)) ta tb) σ H (.int (i * j)) := fun H1 m o _ q =>
  ha H1 m o _ fun v H2 m2 o2 hv => hb H2 (m.trans m2) o2 _ fun v' H3 m3 o3 hv' => by
    cases hv; cases hv'
    exact ⟨_, _, rfl, rfl, hc, q _ _ (m2.trans m3) o3 (.int _)⟩
/-! ### k32: names, values, lines -/
def nameL (c : Int) (k : Nat) : LN := 113 :: (97 + k) :: ([azdL.getD (mixV c 9871 36).toNat 97, azdL.getD (mixV c 9859 36).toNat 97, azdL.getD (mixV c 9857 36).toNat 97].take (mixV c 9851 4).toNat)
def wNameL (k : Nat) : LN := [119, 97 + k]
def codeL (x : LN) : Nat := if x.headD 0 = 108 then 1000 else 2 * (x.getD 1 0 - 97) + (if x.headD 0 = 113 then 1 else 0)
theorem azd_get (i : Nat) : azdL.getD i 97 ∈ azdL := by
  rw [List.getD_eq_getElem?_getD]
  cases e : azdL[i]? with
  | none => exact (by decide : (97 : Nat) ∈ azdL)
  | some x => exact List.mem_of_getElem? e
theorem res_q {t : LN} (h : resN t = true) : t.headD 0 ≠ 113 := by
  have : ∀ t ∈ kindsN ++ asksN ++ chgN ++ tstN ++ othersN, t.headD 0 ≠ 113 := by decide
  refine this t ?_
  unfold resN at h
  simp only [Bool.or_eq_true, decide_eq_true_eq] at h
  simp only [List.mem_append]
  rcases h with h | h | h | h | h
  · exact .inl (.inl (.inl (.inl h)))
  · exact .inl (.inl (.inl (.inr h)))
  · exact .inl (.inl (.inr h))
  · exact .inl (.inr h)
  · exact .inr h
theorem az_of {c : Nat} (h : c ∈ azdL) : (97 ≤ c ∧ c ≤ 122) ∨ (48 ≤ c ∧ c ≤ 57) := by
  have : ∀ c ∈ azdL, (97 ≤ c ∧ c ≤ 122) ∨ (48 ≤ c ∧ c ≤ 57) := by decide
  exact this c h
theorem azd_lt : ∀ k < 13, 97 + k ∈ azdL := by decide
/-- a name as labels are: -/
structure Nm (x : LN) : Prop where
  nm : isNameL x = true
  len : x.length ≤ 8
  cs : ∀ c ∈ x, c ∈ azdL
theorem nm_of {x : LN} (h : isNameL x = true) : Nm x := by
  have h' := h
  unfold isNameL at h
  simp only [Bool.and_eq_true, decide_eq_true_eq, List.all_eq_true] at h
  exact ⟨h', h.1.1.1.2, h.1.2⟩
theorem Nm.free {x : LN} (n : Nm x) {c : Nat} (hc : c < 48 ∨ (57 < c ∧ c < 97) ∨ 122 < c) : c ∉ x := fun z => by
  have := az_of (n.cs c z); omega
theorem Nm.ne {x : LN} (n : Nm x) : x ≠ [] := fun e => by have := n.nm; rw [e] at this; exact absurd this (by decide)
theorem Nm.tm {x : LN} (n : Nm x) : Tm x := ⟨by unfold okT; rw [n.nm]; rfl, n.free (by omega), n.free (by omega)⟩
theorem Nm.col {x : LN} (n : Nm x) (r : LN) : (x ++ [58]).getLast? = some 58 ∧ (x ++ [58]).dropLast = x := by simp
theorem Nm.notNum {x : LN} (n : Nm x) : isNumL x = false := by
  cases h : isNumL x with
  | false => rfl
  | true =>
    have hn := n.nm
    unfold isNameL at hn
    unfold isNumL at h
    simp only [Bool.and_eq_true, decide_eq_true_eq, List.all_eq_true] at hn h
    cases x with
    | nil => simp at h
    | cons c r =>
      have h1 := mem_digL.mp (h.2 c List.mem_cons_self)
      have h2 : c ∈ azL := by have := hn.1.1.2; exact of_decide_eq_true this
      have : ∀ c ∈ azL, 97 ≤ c := by decide
      have := this c h2
      omega
theorem Nm.notHere {x : LN} (n : Nm x) : x ≠ hereL := fun e => by have := n.nm; rw [e] at this; exact absurd this (by decide)
theorem nm_name (c : Int) {k : Nat} (hk : k < 13) : Nm (nameL c k) ∧ codeL (nameL c k) = 2 * k + 1 := by
  have a := azd_get (mixV c 9871 36).toNat
  have b := azd_get (mixV c 9859 36).toNat
  have d := azd_get (mixV c 9857 36).toNat
  refine ⟨nm_of ?_, ?_⟩
  · unfold nameL
    generalize azdL.getD (mixV c 9871 36).toNat 97 = x at a
    generalize azdL.getD (mixV c 9859 36).toNat 97 = y at b
    generalize azdL.getD (mixV c 9857 36).toNat 97 = z at d
    generalize (mixV c 9851 4).toNat = m
    have hr : resN (113 :: (97 + k) :: ([x, y, z].take m)) = false := by
      cases e : resN (113 :: (97 + k) :: ([x, y, z].take m)) with
      | false => rfl
      | true => exact absurd rfl (res_q e)
    have hl : ([x, y, z].take m).length ≤ 3 := by rw [List.length_take]; exact Nat.min_le_right _ _
    have hm : ∀ q ∈ [x, y, z].take m, q ∈ azdL := fun q hq => by
      have := List.mem_of_mem_take hq
      simp at this
      rcases this with rfl | rfl | rfl <;> assumption
    unfold isNameL
    rw [hr, Bool.not_false, Bool.and_true]
    simp only [Bool.and_eq_true, decide_eq_true_eq, List.all_eq_true]
    refine ⟨⟨⟨by simp, by rw [List.length_cons, List.length_cons]; omega⟩, by rfl⟩, fun q hq => ?_⟩
    rcases List.mem_cons.mp hq with e | e
    · rw [e]; decide
    · rcases List.mem_cons.mp e with e | e
      · rw [e]; exact azd_lt k hk
      · exact hm q e
  · unfold codeL nameL
    show (if (113 : Nat) = 108 then 1000 else 2 * (97 + k - 97) + (if (113 : Nat) = 113 then 1 else 0)) = _
    rw [if_neg (by decide), if_pos rfl]; omega
theorem nm_w : ∀ k < 13, isNameL (wNameL k) = true ∧ codeL (wNameL k) = 2 * k := by decide
theorem amt_name {ls : Lab} {here a s v : Int} {x : LN} {r : List (Int × LN)} (n : Nm x) (h : labGet ls x = some v) : amountL ls here a ((s, x) :: r) = amountL ls here (a + s * v) r := by
  rw [amountL, if_neg (by rw [n.notNum]; exact Bool.false_ne_true), if_neg n.notHere, h]
/-! labels, each by its code -/
structure LInv (ls : Lab) (g : Nat) : Prop where
  nd : (ls.map (·.1)).Nodup
  lt : ∀ q ∈ ls, codeL q.1 < g
theorem linv_0 : LInv [] 0 := ⟨List.nodup_nil, fun q h => by cases h⟩
theorem LInv.mono {ls : Lab} {g g' : Nat} (h : LInv ls g) (hg : g ≤ g') : LInv ls g' := ⟨h.nd, fun q hq => Nat.lt_of_lt_of_le (h.lt q hq) hg⟩
theorem LInv.fresh {ls : Lab} {g : Nat} (h : LInv ls g) {x : LN} (hx : g ≤ codeL x) : labGet ls x = none := by
  unfold labGet
  rw [List.find?_eq_none.mpr]
  · rfl
  · intro q hq e
    have h1 := h.lt q hq
    rw [of_decide_eq_true e] at h1
    omega
theorem LInv.add {ls : Lab} {g : Nat} (h : LInv ls g) {x : LN} {v : Int} (hx : g ≤ codeL x) : LInv (ls ++ [(x, v)]) (codeL x + 1) := by
  refine ⟨?_, fun q hq => ?_⟩
  · rw [List.map_append]
    refine List.nodup_append.mpr ⟨h.nd, by simp, fun a ha b hb e => ?_⟩
    obtain ⟨q, hq, rfl⟩ := List.mem_map.mp ha
    rw [List.map_cons, List.map_nil, List.mem_singleton] at hb
    have := h.lt q hq
    rw [e, hb] at this
    simp at this; omega
  · rcases List.mem_append.mp hq with z | z
    · have := h.lt q z; omega
    · rw [List.mem_singleton.mp z]; exact Nat.lt_succ_self _
theorem labGet_mem : ∀ {ls : Lab} {x : LN} {v : Int}, (ls.map (·.1)).Nodup → (x, v) ∈ ls → labGet ls x = some v
  | [], _, _, _, h => by cases h
  | q :: r, x, v, nd, h => by
    rw [List.map_cons, List.nodup_cons] at nd
    unfold labGet
    rw [List.find?_cons]
    rcases List.mem_cons.mp h with e | e
    · rw [← e, decide_eq_true rfl]; rfl
    · have hne : q.1 ≠ x := fun z => nd.1 (by rw [z]; exact List.mem_map.mpr ⟨(x, v), e, rfl⟩)
      rw [decide_eq_false hne]
      exact labGet_mem (ls := r) nd.2 e
/-! lines that tell a label, that move, that make -/
inductive Ln32 where
  | mv (l : LN) (lab : Option LN) (p : Int) | dd (l : LN) (x : LN) (p w : Int)
def Ln32.line : Ln32 → LN
  | .mv l _ _ => l
  | .dd l _ _ _ => l
def Ln32.end_ : Ln32 → Int
  | .mv _ _ p => p
  | .dd _ _ p _ => p + 1
def Ln32.labs (a : Int) : Ln32 → Lab
  | .mv _ none _ => []
  | .mv _ (some x) _ => [(x, a)]
  | .dd _ x _ _ => [(x, a)]
def Ln32.cell : Ln32 → Made
  | .mv _ _ _ => []
  | .dd _ _ p w => [(p, w)]
def Ln32.next (g : Nat) : Ln32 → Nat
  | .mv _ none _ => g
  | .mv _ (some x) _ => codeL x + 1
  | .dd _ x _ _ => codeL x + 1
/-- a line is as told: at the place a, with the labels LS of all lines -/
def LnOk (LS : Lab) (a : Int) (g : Nat) : Ln32 → Prop
  | .mv l lab p => (∃ ts, readL l = some (lab, some (.place ts)) ∧ ∀ ls, amountL ls a 0 ts = some p) ∧ a ≤ p ∧ p ≤ 63 ∧ ∀ x, lab = some x → g ≤ codeL x
  | .dd l x p w => p = a ∧ a ≤ 63 ∧ g ≤ codeL x ∧ ∃ b ts d, readL l = some (some x, some (.aim b ts)) ∧ amountL LS a 0 ts = some d ∧ 0 ≤ d ∧ d ≤ 63 ∧ w = b + d
def LsOk (LS : Lab) : Int → Nat → List Ln32 → Prop
  | _, _, [] => True
  | a, g, q :: r => LnOk LS a g q ∧ LsOk LS q.end_ (q.next g) r
def labsF : Int → List Ln32 → Lab
  | _, [] => []
  | a, q :: r => q.labs a ++ labsF q.end_ r
def endF : Int → List Ln32 → Int
  | a, [] => a
  | _, q :: r => endF q.end_ r
def nextF : Nat → List Ln32 → Nat
  | g, [] => g
  | g, q :: r => nextF (q.next g) r
def cellsF (qs : List Ln32) : Made := (qs.map Ln32.cell).flatten
theorem tell_new {ls : Lab} {x : LN} {a : Int} {k : Nat} (h : labGet ls x = none) : tellL ls (some x) a k = .ok (ls ++ [(x, a)]) := by
  unfold tellL; dsimp only; rw [h]; rfl
theorem within_in {a m : Int} {k : Nat} (h0 : 0 ≤ a) (h1 : a ≤ m) : withinL a m k = .ok a := by unfold withinL; rw [if_pos ⟨h0, h1⟩]
theorem amtL_some {ls : Lab} {here a : Int} {ts : List (Int × LN)} {k : Nat} (h : amountL ls here 0 ts = some a) : amtL ls here ts k = .ok a := by unfold amtL; rw [h]
theorem amtW_some {ls : Lab} {here a m : Int} {ts : List (Int × LN)} {k : Nat} (h : amountL ls here 0 ts = some a) (h0 : 0 ≤ a) (h1 : a ≤ m) : amtW ls here ts m k = .ok a := by
  unfold amtW; rw [amtL_some h]; exact within_in h0 h1
theorem ls_ok : ∀ (qs : List Ln32) (LS ls : Lab) (a : Int) (g : Nat) (acc : List (Option Dd)) (k : Nat) (r : List LN), LsOk LS a g qs → LInv ls g → 0 ≤ a → LInv (ls ++ labsF a qs) (nextF g qs) ∧ a ≤ endF a qs ∧
    ∃ ds k', goneG acc ls a k (qs.map Ln32.line ++ r) = goneG (acc ++ ds) (ls ++ labsF a qs) (endF a qs) k' r ∧
      ∀ (m : Made) (j : Nat) (dr : List (Option Dd)), (∀ q ∈ m, q.1 < a) → (∀ q ∈ m ++ cellsF qs, q.1 < endF a qs) ∧ ∃ j', cellsG LS m [] a j (ds ++ dr) = cellsG LS (m ++ cellsF qs) [] (endF a qs) j' dr
  | [], LS, ls, a, g, acc, k, r, _, hi, _ => ⟨by simpa [labsF, nextF] using hi, Int.le_refl _, [], k, by simp [labsF, endF], fun m j dr hm => ⟨by simpa [cellsF, endF] using hm, j, by simp [cellsF, endF]⟩⟩
  | q :: qs, LS, ls, a, g, acc, k, r, h, hi, a0 => by
    obtain ⟨h1, h2⟩ := h
    cases q with
    | mv l lab p =>
      obtain ⟨⟨ts, hr, ha⟩, ap, p63, hx⟩ := h1
      have hm : ∀ ls', moveG ls' a k (some (.place ts)) = .ok p := fun ls' => by
        unfold moveG
        dsimp only
        rw [amtL_some (ha ls')]
        exact within_in (by omega) p63
      have htl : tellL ls lab a k = .ok (ls ++ (Ln32.mv l lab p).labs a) := by
        cases lab with
        | none => show Except.ok ls = .ok (ls ++ []); rw [List.append_nil]
        | some x => exact tell_new (hi.fresh (hx x rfl))
      have hs : goneStep l ls a k = .ok (some (.place ts), ls ++ (Ln32.mv l lab p).labs a, p) := by
        unfold goneStep
        rw [hr]
        dsimp only
        rw [htl]
        dsimp only
        rw [hm]
      have hi' : LInv (ls ++ (Ln32.mv l lab p).labs a) ((Ln32.mv l lab p).next g) := by
        cases lab with
        | none => show LInv (ls ++ []) g; rw [List.append_nil]; exact hi
        | some x => exact hi.add (hx x rfl)
      obtain ⟨i1, i2, ds, k', g1, c1⟩ := ls_ok qs LS (ls ++ (Ln32.mv l lab p).labs a) p _ (acc ++ [some (.place ts)]) (k + 1) r h2 hi' (by omega)
      refine ⟨by rw [labsF, nextF, ← List.append_assoc]; exact i1, Int.le_trans ap i2, some (.place ts) :: ds, k', ?_, fun m j dr hm => ?_⟩
      · show goneG acc ls a k (l :: (qs.map Ln32.line ++ r)) = _
        rw [goneG, hs]
        dsimp only
        rw [g1, labsF, List.append_assoc, List.append_assoc]
        rfl
      · obtain ⟨c2, j', c3⟩ := c1 m (j + 1) dr (fun q hq => Int.lt_of_lt_of_le (hm q hq) ap)
        refine ⟨c2, j', ?_⟩
        show cellsG LS m [] a j (some (.place ts) :: (ds ++ dr)) = _
        have hc : cellStep LS m [] a j (some (.place ts)) = .ok (m, [], p) := by
          unfold cellStep
          dsimp only
          rw [amtL_some (ha LS)]
        rw [cellsG, hc]
        dsimp only
        rw [c3]; rfl
    | dd l x p w =>
      obtain ⟨rfl, p63, hx, b, ts, d, hr, ha, d0, d1, rfl⟩ := h1
      have hs : goneStep l ls p k = .ok (some (.aim b ts), ls ++ [(x, p)], p + 1) := by
        unfold goneStep
        rw [hr]
        dsimp only
        rw [tell_new (hi.fresh hx)]
        dsimp only
        unfold moveG
        dsimp only
        rw [within_in (by omega) (by omega)]
      obtain ⟨i1, i2, ds, k', g1, c1⟩ := ls_ok qs LS (ls ++ [(x, p)]) (p + 1) _ (acc ++ [some (.aim b ts)]) (k + 1) r h2 (hi.add hx) (by omega)
      refine ⟨by rw [labsF, nextF, ← List.append_assoc]; exact i1, by show p ≤ endF (p + 1) qs; omega, some (.aim b ts) :: ds, k', ?_, fun m j dr hm => ?_⟩
      · show goneG acc ls p k (l :: (qs.map Ln32.line ++ r)) = _
        rw [goneG, hs]
        dsimp only
        rw [g1, labsF, List.append_assoc, List.append_assoc]
        rfl
      · have hm2 : ∀ q ∈ m ++ [(p, b + d)], q.1 < p + 1 := fun q hq => (List.mem_append.mp hq).elim (fun z => by have := hm q z; omega) (fun z => by rw [List.mem_singleton.mp z]; show p < _; omega)
        obtain ⟨c2, j', c3⟩ := c1 (m ++ [(p, b + d)]) (j + 1) dr hm2
        refine ⟨by have := c2; rw [List.append_assoc] at this; exact this, j', ?_⟩
        show cellsG LS m [] p j (some (.aim b ts) :: (ds ++ dr)) = _
        have hc : cellStep LS m [] p j (some (.aim b ts)) = .ok (m ++ [(p, b + d)], [], p + 1) := by
          unfold cellStep wordOf
          dsimp only
          rw [amtW_some ha d0 d1]
          dsimp only
          rw [make_new hm a0]
        rw [cellsG, hc]
        dsimp only
        rw [c3, List.append_assoc]; rfl
/-! cells of what was made -/
theorem cellsOf_app {m : Made} {x n : Int} (h0 : 0 ≤ x) (h1 : x < 64) (h : madeGet m x = none) : cellsOf (m ++ [(x, n)]) = (cellsOf m).set x.toNat n := by
  apply List.ext_getElem?
  intro i
  unfold cellsOf
  rw [List.getElem?_map, List.getElem?_set, List.length_map, List.length_range, List.getElem?_map]
  by_cases hi : i < 64
  · rw [List.getElem?_range hi]
    show some ((madeGet (m ++ [(x, n)]) (i : Int)).getD 0) = _
    rw [madeGet_app]
    by_cases c : x = (i : Int)
    · subst c
      rw [h, Option.none_or, if_pos rfl, Int.toNat_natCast, if_pos rfl, if_pos hi]; rfl
    · rw [if_neg c, Option.or_none, if_neg (by omega)]; rfl
  · rw [List.getElem?_eq_none (by simp; omega)]
    rw [if_neg (by omega)]
    rfl
def setM (cs : List Int) (m : Made) : List Int := m.foldl (fun d q => d.set q.1.toNat q.2) cs
theorem cellsOf_setM : ∀ (c m : Made), (∀ q ∈ c, 0 ≤ q.1 ∧ q.1 < 64) → ((m ++ c).map (·.1)).Nodup → cellsOf (m ++ c) = setM (cellsOf m) c
  | [], m, _, _ => by rw [List.append_nil]; rfl
  | q :: c, m, h, nd => by
    have hq := h q List.mem_cons_self
    have e : m ++ q :: c = (m ++ [q]) ++ c := by simp
    have hn : madeGet m q.1 = none := by
      unfold madeGet
      rw [List.find?_eq_none.mpr]
      · rfl
      · intro x hx z
        rw [List.map_append, List.map_cons] at nd
        have := (List.nodup_append.mp nd).2.2 x.1 (List.mem_map.mpr ⟨x, hx, rfl⟩) q.1 List.mem_cons_self
        exact this (of_decide_eq_true z)
    rw [e, cellsOf_setM c (m ++ [q]) (fun x hx => h x (List.mem_cons_of_mem _ hx)) (by rw [← e]; exact nd), cellsOf_app hq.1 hq.2 hn]
    rfl
/-- the places of what is made rise -/
theorem cells_rise : ∀ (qs : List Ln32) (LS : Lab) (a : Int) (g : Nat), LsOk LS a g qs → 0 ≤ a → (∀ q ∈ cellsF qs, a ≤ q.1 ∧ q.1 ≤ 63) ∧ ((cellsF qs).map (·.1)).Nodup
  | [], _, _, _, _, _ => ⟨fun q h => (by cases h), List.nodup_nil⟩
  | q :: qs, LS, a, g, h, a0 => by
    obtain ⟨h1, h2⟩ := h
    cases q with
    | mv l lab p =>
      obtain ⟨_, ap, p63, _⟩ := h1
      obtain ⟨i1, i2⟩ := cells_rise qs LS p _ h2 (by omega)
      exact ⟨fun x hx => by have := i1 x hx; omega, i2⟩
    | dd l x p w =>
      obtain ⟨rfl, p63, _⟩ := h1
      obtain ⟨i1, i2⟩ := cells_rise qs LS (p + 1) _ h2 (by omega)
      refine ⟨fun x hx => ?_, ?_⟩
      · rcases List.mem_cons.mp hx with e | e
        · rw [e]; exact ⟨Int.le_refl _, p63⟩
        · have := i1 x e; omega
      · show (p :: (cellsF qs).map (·.1)).Nodup
        refine List.nodup_cons.mpr ⟨fun z => ?_, i2⟩
        obtain ⟨y, hy, e⟩ := List.mem_map.mp z
        have := i1 y hy
        omega
def zero64 : List Int := List.replicate 64 0
theorem cellsOf_nil : cellsOf [] = zero64 := by decide +kernel
def lastL : LN := sL "last"
theorem read_last : readL (sL "last:") = some (some lastL, none) := by decide +kernel
theorem read_pl : readL (sL "place last-1") = some (none, some (.place [(1, lastL), (-1, [49])])) := by decide +kernel
theorem nm_last : Nm lastL := nm_of (by decide +kernel)
/-- the whole text, without and with the last place line -/
theorem asm32 {qs : List Ln32} {LS : Lab} (hLS : LS = labsF 0 qs ++ [(lastL, endF 0 qs)]) (h : LsOk LS 0 0 qs) (hn : nextF 0 qs ≤ 1000) (he : 1 ≤ endF 0 qs ∧ endF 0 qs ≤ 64) (hl : ∀ q ∈ qs, 10 ∉ q.line) :
    assembledL (TL.joinL [10] (qs.map Ln32.line ++ [sL "last:"])) = .ok (setM zero64 (cellsF qs)) ∧ assembledL (TL.joinL [10] (qs.map Ln32.line ++ [sL "last:", sL "place last-1"])) = .ok (setM zero64 (cellsF qs)) := by
  have hc : cellsOf (cellsF qs) = setM zero64 (cellsF qs) := by
    obtain ⟨i1, i2⟩ := cells_rise qs LS 0 0 h (by decide)
    have := cellsOf_setM (cellsF qs) [] (fun q hq => by have := i1 q hq; omega) (by rw [List.nil_append]; exact i2)
    rw [List.nil_append, cellsOf_nil] at this
    exact this
  have nl : ∀ (e : List LN), (∀ x ∈ e, 10 ∉ x) → cutAt 10 (TL.joinL [10] (qs.map Ln32.line ++ sL "last:" :: e)) = qs.map Ln32.line ++ sL "last:" :: e := fun e hx => cutAt_join 10 (by simp) fun p hp => by
    rcases List.mem_append.mp hp with z | z
    · obtain ⟨q, hq, rfl⟩ := List.mem_map.mp z
      exact hl q hq
    · rcases List.mem_cons.mp z with z | z
      · rw [z]; decide
      · exact hx p z
  have tl : ∀ k, tellL (labsF 0 qs) (some lastL) (endF 0 qs) k = .ok LS := fun k => by
    obtain ⟨i1, _⟩ := ls_ok qs LS [] 0 0 [] 1 [] h linv_0 (by decide)
    rw [hLS]
    exact tell_new (i1.fresh (x := lastL) (by rw [show codeL lastL = 1000 by decide]; exact hn))
  have gl : labGet LS lastL = some (endF 0 qs) := by
    obtain ⟨i1, _⟩ := ls_ok qs LS [] 0 0 [] 1 [] h linv_0 (by decide)
    have i2 := i1.add (x := lastL) (v := endF 0 qs) (by rw [show codeL lastL = 1000 by decide]; exact hn)
    rw [hLS]
    exact labGet_mem (by rw [List.nil_append] at i2; exact i2.nd) (List.mem_append_right _ List.mem_cons_self)
  have st : ∀ k, goneStep (sL "last:") (labsF 0 qs) (endF 0 qs) k = .ok (none, LS, endF 0 qs) := fun k => by
    unfold goneStep
    rw [read_last]
    dsimp only
    rw [tl]
    rfl
  have ap : amountL LS (endF 0 qs) 0 [(1, lastL), (-1, [49])] = some (endF 0 qs - 1) := by
    rw [amt_name nm_last gl, amt_cons (v := 1) (by decide) (by decide), amountL]; congr 1; omega
  constructor
  · obtain ⟨_, _, ds, k', g1, c1⟩ := ls_ok qs LS [] 0 0 [] 1 [sL "last:"] h linv_0 (by decide)
    obtain ⟨_, j', c3⟩ := c1 [] 1 [none] (fun q hq => by cases hq)
    unfold assembledL
    rw [nl [] (fun x hx => by cases hx)]
    unfold goneL
    rw [g1, List.nil_append, List.nil_append, goneG, st]
    dsimp only [goneG]
    rw [c3, List.nil_append, cellsG]
    show Except.ok (cellsOf (cellsF qs)) = _
    rw [hc]
  · obtain ⟨_, _, ds, k', g1, c1⟩ := ls_ok qs LS [] 0 0 [] 1 [sL "last:", sL "place last-1"] h linv_0 (by decide)
    obtain ⟨_, j', c3⟩ := c1 [] 1 [none, some (.place [(1, lastL), (-1, [49])])] (fun q hq => by cases hq)
    unfold assembledL
    rw [nl [sL "place last-1"] (fun x hx => by rw [List.mem_singleton.mp hx]; decide)]
    unfold goneL
    have st2 : ∀ k, goneStep (sL "place last-1") LS (endF 0 qs) k = .ok (some (.place [(1, lastL), (-1, [49])]), LS, endF 0 qs - 1) := fun k => by
      unfold goneStep
      rw [read_pl]
      dsimp only [tellL]
      unfold moveG
      dsimp only
      rw [amtL_some ap]
      dsimp only
      rw [within_in (by omega) (by omega)]
    rw [g1, List.nil_append, List.nil_append, goneG, st]
    dsimp only
    rw [goneG, st2]
    dsimp only [goneG]
    rw [List.append_assoc]
    show (match cellsG LS [] [] 0 1 (ds ++ [none, some (.place [(1, lastL), (-1, [49])])]) with | .error e => _ | .ok m => _) = _
    rw [c3, List.nil_append, cellsG]
    dsimp only [cellStep]
    rw [cellsG]
    have hs : cellStep LS (cellsF qs) [] (endF 0 qs) (j' + 1) (some (.place [(1, lastL), (-1, [49])])) = .ok (cellsF qs, [], endF 0 qs - 1) := by
      unfold cellStep
      dsimp only
      rw [amtL_some ap]
    rw [hs]
    dsimp only [cellsG]
    rw [hc]
/-! ### lines with labels, place lines, words -/
theorem read_lab {x l : LN} (n : Nm x) (h : 59 ∉ l) : readL ((x ++ [58]) ++ 32 :: l) = restL (some x) (wordsL l) := by
  unfold readL
  have f : 59 ∉ (x ++ [58]) ++ 32 :: l := fun z => by
    rcases List.mem_append.mp z with z | z
    · rcases List.mem_append.mp z with z | z
      · exact n.free (by omega) z
      · exact absurd z (by decide)
    · rcases List.mem_cons.mp z with z | z
      · cases z
      · exact h z
  rw [pieces_plain f, words_cons (fun z => by
    rcases List.mem_append.mp z with z | z
    · exact n.free (by omega) z
    · exact absurd z (by decide)) (by simp), readP, if_pos (n.col []).1, (n.col []).2, if_pos n.nm]
theorem read_nolab {l f : LN} {r : List LN} (h : 59 ∉ l) (hw : wordsL l = f :: r) (hc : f.getLast? ≠ some 58) : readL l = restL none (f :: r) := by
  unfold readL
  rw [pieces_plain h, hw, readP, if_neg hc]
theorem words_two {h w : LN} (h1 : 32 ∉ h) (h2 : h ≠ []) (w1 : 32 ∉ w) (w2 : w ≠ []) : wordsL (h ++ 32 :: w) = [h, w] := by rw [words_cons h1 h2, words_last w1 w2]
theorem rest_place {lab : Option LN} {w : LN} {ts : List (Int × LN)} (h : termsL w = some ts) : restL lab [placeL, w] = some (lab, some (.place ts)) := by
  rw [restL, deedL, deedC, if_pos (.inl rfl), one1, h]; rfl
theorem rest_word {lab : Option LN} {w : LN} {ts : List (Int × LN)} (h : termsL w = some ts) : restL lab [wordL, w] = some (lab, some (.word ts)) := by
  rw [restL, deedL, deedC, if_pos (.inr rfl), one1, h]; rfl
theorem rest_aim {lab : Option LN} {x w : LN} {ts : List (Int × LN)} (hx : x ∈ kindsN) (h : termsL w = some ts) (hw : w.head? ≠ some 61) : restL lab [x, farL, w] = some (lab, some (.aim (128 * (kindsN.idxOf x : Nat) + 64) ts)) := by
  rw [restL, deed_kd hx, aimedL, if_pos rfl]
  have : aimG (kindsN.idxOf x : Nat) 1 [w] = (termsL w).map (Dd.aim (128 * (kindsN.idxOf x : Nat) + 64 * 1)) := by
    cases w with
    | nil => rfl
    | cons c r =>
      have hc : c ≠ 61 := fun e => hw (by rw [e]; rfl)
      unfold aimG
      dsimp only
      split
      · rename_i e; exact absurd (List.cons.inj e).1 hc
      · rfl
  rw [this, h]; rfl
theorem read_place' {w : LN} {ts : List (Int × LN)} (h : termsL w = some ts) (w0 : w ≠ []) (w1 : 32 ∉ w) (w2 : 59 ∉ w) : readL (placeL ++ 32 :: w) = some (none, some (.place ts)) := by
  rw [read_nolab (f := placeL) (r := [w]) (fun z => (List.mem_append.mp z).elim (fun z => absurd z (by decide)) (fun z => (List.mem_cons.mp z).elim (fun z => by cases z) w2)) (words_two (by decide) (by decide) w1 w0) (by decide)]
  exact rest_place h
theorem read_word' {w : LN} {ts : List (Int × LN)} (h : termsL w = some ts) (w0 : w ≠ []) (w1 : 32 ∉ w) (w2 : 59 ∉ w) : readL (wordL ++ 32 :: w) = some (none, some (.word ts)) := by
  rw [read_nolab (f := wordL) (r := [w]) (fun z => (List.mem_append.mp z).elim (fun z => absurd z (by decide)) (fun z => (List.mem_cons.mp z).elim (fun z => by cases z) w2)) (words_two (by decide) (by decide) w1 w0) (by decide)]
  exact rest_word h
theorem read_labP {x w : LN} {ts : List (Int × LN)} (n : Nm x) (h : termsL w = some ts) (w0 : w ≠ []) (w1 : 32 ∉ w) (w2 : 59 ∉ w) : readL ((x ++ [58]) ++ 32 :: (placeL ++ 32 :: w)) = some (some x, some (.place ts)) := by
  rw [read_lab n (fun z => (List.mem_append.mp z).elim (fun z => absurd z (by decide)) (fun z => (List.mem_cons.mp z).elim (fun z => by cases z) w2)), words_two (by decide) (by decide) w1 w0]
  exact rest_place h
theorem read_labK {x kd w : LN} {ts : List (Int × LN)} (n : Nm x) (hk : kd ∈ kindsN) (h : termsL w = some ts) (w0 : w ≠ []) (w1 : 32 ∉ w) (w2 : 59 ∉ w) (w3 : w.head? ≠ some 61) : readL ((x ++ [58]) ++ 32 :: kdLine kd true w) = some (some x, some (.aim (128 * (kindsN.idxOf kd : Nat) + 64) ts)) := by
  rw [read_lab n (kd_free hk (.inl rfl) w2), words_kd hk w1 w0]
  exact rest_aim hk h w3
theorem num_free {n : Int} (h : 0 ≤ n) {c : Nat} (hc : c < 48 ∨ 57 < c) : c ∉ numT n := fun z => by have := numT_dig h c z; omega
/-! ### k32: the law's places, moves, pairs, values -/
def c32 (ns : List Int) (k : Nat) : Int := cellAt ns (1 + (k : Int))
def plA (ns : List Int) (k : Nat) (a : Int) : Int := if mixV (c32 ns k) 9839 3 = 0 then a + mixV (c32 ns k) 9833 4 else a
def plF (ns : List Int) : Nat → Int → Nat → List Int
  | _, _, 0 => []
  | k, a, n + 1 => plA ns k a :: plF ns (k + 1) (plA ns k a + 1) n
def PsOk : Int → List Int → Prop
  | _, [] => True
  | a, p :: r => a ≤ p ∧ p ≤ 60 ∧ PsOk (p + 1) r
theorem plF_len (ns : List Int) : ∀ (n k : Nat) (a : Int), (plF ns k a n).length = n
  | 0, _, _ => rfl
  | n + 1, k, a => by rw [plF, List.length_cons, plF_len ns n]
theorem plA_in (ns : List Int) (k : Nat) (a : Int) : a ≤ plA ns k a ∧ plA ns k a ≤ a + 3 := by
  have m0 := mixV_lo (c := c32 ns k) (p := 9833) (m := 4) (by decide)
  have m1 := mixV_hi (c := c32 ns k) (p := 9833) (m := 4) (by decide)
  unfold plA
  split <;> omega
theorem plF_ok (ns : List Int) : ∀ (n k : Nat) (a : Int), a + 4 * (n : Int) ≤ 60 → PsOk a (plF ns k a n)
  | 0, _, _, _ => trivial
  | n + 1, k, a, h => by
    obtain ⟨h1, h2⟩ := plA_in ns k a
    rw [plF]
    exact ⟨h1, by omega, plF_ok ns n (k + 1) _ (by omega)⟩
def moveF (ns : List Int) (k : Nat) (a p : Int) : LN × Lab :=
  if mixV (c32 ns k) 9787 3 = 0 then (placeL ++ 32 :: numT p, [])
  else if mixV (c32 ns k) 9787 3 = 1 then (placeL ++ 32 :: (hereL ++ 43 :: numT (p - a)), [])
  else ((wNameL k ++ [58]) ++ 32 :: (placeL ++ 32 :: numT p), [(wNameL k, a)])
def mvOf (ns : List Int) (k : Nat) (a p : Int) : LN × Lab := if p = a then ([], []) else moveF ns k a p
def mvsF (ns : List Int) : Nat → Int → List Int → List (LN × Lab)
  | _, _, [] => []
  | k, a, p :: r => mvOf ns k a p :: mvsF ns (k + 1) (p + 1) r
def baseF (ns : List Int) : Nat → List Int → Lab
  | _, [] => []
  | k, p :: r => (nameL (c32 ns k) k, p) :: baseF ns (k + 1) r
def pairsV (ns : List Int) (ps : List Int) : Lab := baseF ns 0 ps ++ ((mvsF ns 0 0 ps).map (·.2)).flatten
def val0 (w : Int) (x : LN) : LN := if w = 0 then x else if w = 1 then hereL else x ++ 43 :: hereL
def valA (w p here : Int) : Int := if w = 0 then p else if w = 1 then here else p + here
def valF (c here : Int) (PR : Lab) : LN × Int :=
  let q := PR.getD (mixV c 9829 (PR.length : Int)).toNat ([], 0)
  (if valA (mixV c 9817 3) q.2 here ≤ mixV c 9811 64 then val0 (mixV c 9817 3) q.1 ++ 43 :: numT (mixV c 9811 64 - valA (mixV c 9817 3) q.2 here) else val0 (mixV c 9817 3) q.1 ++ 45 :: numT (valA (mixV c 9817 3) q.2 here - mixV c 9811 64), mixV c 9811 64)
def kd32 (c : Int) : LN := kindsN.getD (mixV c 9791 6).toNat []
def ln32 (x : LN) (c : Int) (v : LN) : LN := (x ++ [58]) ++ 32 :: kdLine (kd32 c) true v
def cl32 (ns : List Int) (k : Nat) : Int := cellAt ns (14 + (k : Int))
def dd32 (ns : List Int) (PR : Lab) (k : Nat) (p : Int) : Ln32 := .dd (ln32 (nameL (c32 ns k) k) (cl32 ns k) (valF (cl32 ns k) p PR).1) (nameL (c32 ns k) k) p (128 * mixV (cl32 ns k) 9791 6 + 64 + (valF (cl32 ns k) p PR).2)
def mv32 (ns : List Int) (k : Nat) (a p : Int) : List Ln32 := if p = a then [] else [.mv (moveF ns k a p).1 ((moveF ns k a p).2.head?.map (·.1)) p]
def itF (ns : List Int) (PR : Lab) : Nat → Int → List Int → List Ln32
  | _, _, [] => []
  | k, a, p :: r => mv32 ns k a p ++ (dd32 ns PR k p :: itF ns PR (k + 1) (p + 1) r)
/-- pairs as values may name them -/
structure PrOk (LS PR : Lab) : Prop where
  ne : PR ≠ []
  ok : ∀ q ∈ PR, Nm q.1 ∧ labGet LS q.1 = some q.2 ∧ 0 ≤ q.2 ∧ q.2 ≤ 60
theorem pr_get {LS PR : Lab} (h : PrOk LS PR) (c : Int) : PR.getD (mixV c 9829 (PR.length : Int)).toNat ([], 0) ∈ PR := by
  have hl := List.length_pos_iff.mpr h.ne
  have m0 := mixV_lo (c := c) (p := 9829) (m := (PR.length : Int)) (by omega)
  have m1 := mixV_hi (c := c) (p := 9829) (m := (PR.length : Int)) (by omega)
  have hi : (mixV c 9829 (PR.length : Int)).toNat < PR.length := by omega
  rw [List.getD_eq_getElem?_getD, List.getElem?_eq_getElem hi]
  exact List.getElem_mem hi
structure Vl (LS : Lab) (here : Int) (w : LN) (d : Int) : Prop where
  ex : ∃ ts, termsL w = some ts ∧ amountL LS here 0 ts = some d
  ne : w ≠ []
  cs : ∀ c ∈ w, c ≠ 32 ∧ c ≠ 59 ∧ c ≠ 10
  hd : w.head? ≠ some 61
  len : w.length ≤ 30
theorem val_sg {LS : Lab} {here v d : Int} {t : LN} {ts : List (Int × LN)} {c : Nat} (hc : c = 43 ∨ c = 45) (d0 : 0 ≤ d) (d1 : d < 10000) (hv : (if c = 45 then v - d else v + d) = v') (ht : ∀ r, termsL (t ++ c :: r) = (termsG (if c = 45 then -1 else 1) [] r).map (ts ++ ·)) (ha : ∀ r, amountL LS here 0 (ts ++ r) = amountL LS here v r)
    (hn : t ≠ []) (cs : ∀ c ∈ t, c ≠ 32 ∧ c ≠ 59 ∧ c ≠ 10) (hd : t.head? ≠ some 61) (hl : t.length ≤ 20) : Vl LS here (t ++ c :: numT d) v' := by
  obtain ⟨n1, n2⟩ := num_big d0 d1
  have l1 := numT_len (n := d) (k := 4) d0 (by decide) (by show d < (10000 : Int); omega)
  refine ⟨⟨ts ++ [(if c = 45 then -1 else 1, numT d)], ?_, ?_⟩, by simp, fun x hx => ?_, ?_, by rw [List.length_append, List.length_cons]; omega⟩
  · rw [ht, termsG_one (tm_num n1)]; rfl
  · rw [ha, amt_cons n1 n2, amountL, ← hv]
    split <;> (congr 1; omega)
  · rcases List.mem_append.mp hx with z | z
    · exact cs x z
    · rcases List.mem_cons.mp z with z | z
      · omega
      · have := numT_dig d0 x z; omega
  · cases t with
    | nil => exact absurd rfl hn
    | cons a b => exact hd
theorem val_t {LS : Lab} {here p w : Int} {x : LN} {c : Nat} {d v' : Int} (n : Nm x) (hg : labGet LS x = some p) (hc : c = 43 ∨ c = 45) (d0 : 0 ≤ d) (d1 : d < 10000) (hv : (if c = 45 then valA w p here - d else valA w p here + d) = v') : Vl LS here (val0 w x ++ c :: numT d) v' := by
  have xh : x.head? ≠ some 61 := fun e => by
    have : (61 : Nat) ∈ x := by
      cases x with
      | nil => cases e
      | cons a b => cases e; exact List.mem_cons_self
    exact n.free (by omega) this
  have xc : ∀ c ∈ x, c ≠ 32 ∧ c ≠ 59 ∧ c ≠ 10 := fun c hc => by have := az_of (n.cs c hc); omega
  have nl := n.len
  unfold val0
  unfold valA at hv
  by_cases w0 : w = 0
  · rw [if_pos w0] at hv ⊢
    refine val_sg (v := p) (ts := [(1, x)]) hc d0 d1 hv (fun r => ?_) (fun r => ?_) n.ne xc xh (by omega)
    · exact termsG_op n.tm 1 hc
    · show amountL LS here 0 ((1, x) :: r) = _
      rw [amt_name n hg, show (0 : Int) + 1 * p = p by omega]
  rw [if_neg w0] at hv ⊢
  by_cases w1 : w = 1
  · rw [if_pos w1] at hv ⊢
    refine val_sg (v := here) (ts := [(1, hereL)]) hc d0 d1 hv (fun r => ?_) (fun r => ?_) (by decide) (by decide) (by decide) (by decide)
    · exact termsG_op tm_here 1 hc
    · show amountL LS here 0 ((1, hereL) :: r) = _
      rw [amt_here, show (0 : Int) + 1 * here = here by omega]
  · rw [if_neg w1] at hv ⊢
    refine val_sg (v := p + here) (ts := [(1, x), (1, hereL)]) hc d0 d1 hv (fun r => ?_) (fun r => ?_) (by simp) (fun c hc => ?_) ?_ (by rw [List.length_append, List.length_cons]; have : hereL.length = 4 := rfl; omega)
    · unfold termsL
      rw [List.append_assoc, List.cons_append, termsG_op n.tm 1 (.inl rfl), if_neg (by decide), termsG_op tm_here 1 hc, Option.map_map]
      congr 1
    · show amountL LS here 0 ((1, x) :: (1, hereL) :: r) = _
      rw [amt_name n hg, amt_here, show (0 : Int) + 1 * p + 1 * here = p + here by omega]
    · rcases List.mem_append.mp hc with z | z
      · exact xc c z
      · exact (show ∀ c ∈ 43 :: hereL, c ≠ 32 ∧ c ≠ 59 ∧ c ≠ 10 by decide) c z
    · cases x with
      | nil => exact absurd rfl n.ne
      | cons a b => exact xh
theorem val_ok {LS PR : Lab} {here : Int} (h : PrOk LS PR) (c : Int) (h0 : 0 ≤ here) (h1 : here ≤ 60) : Vl LS here (valF c here PR).1 (valF c here PR).2 ∧ 0 ≤ (valF c here PR).2 ∧ (valF c here PR).2 ≤ 63 := by
  have m0 := mixV_lo (c := c) (p := 9811) (m := 64) (by decide)
  have m1 := mixV_hi (c := c) (p := 9811) (m := 64) (by decide)
  obtain ⟨n, g, q0, q1⟩ := h.ok _ (pr_get h c)
  unfold valF
  dsimp only
  generalize PR.getD (mixV c 9829 (PR.length : Int)).toNat ([], 0) = q at n g q0 q1
  generalize mixV c 9811 64 = due at m0 m1
  generalize mixV c 9817 3 = w
  have hA : 0 ≤ valA w q.2 here ∧ valA w q.2 here ≤ 120 := by unfold valA; split <;> (try split) <;> omega
  refine ⟨?_, m0, by omega⟩
  split
  · exact val_t n g (.inl rfl) (by omega) (by omega) (by rw [if_neg (by decide)]; omega)
  · exact val_t n g (.inr rfl) (by omega) (by omega) (by rw [if_pos rfl]; omega)
theorem kd32_in (c : Int) : kd32 c ∈ kindsN ∧ (kindsN.idxOf (kd32 c) : Nat) = mixV c 9791 6 := by
  have m0 := mixV_lo (c := c) (p := 9791) (m := 6) (by decide)
  have m1 := mixV_hi (c := c) (p := 9791) (m := 6) (by decide)
  unfold kd32
  obtain ⟨k, e⟩ : ∃ k : Nat, mixV c 9791 6 = (k : Int) := ⟨(mixV c 9791 6).toNat, by omega⟩
  rw [e] at m1 ⊢
  have : ∀ k < 6, kindsN.getD k [] ∈ kindsN ∧ kindsN.idxOf (kindsN.getD k []) = k := by decide
  obtain ⟨a, b⟩ := this k (by omega)
  rw [Int.toNat_natCast]
  exact ⟨a, by rw [b]⟩
theorem move_ok {ns : List Int} {k : Nat} {a p : Int} (hk : k < 13) (a0 : 0 ≤ a) (h : a ≤ p) (p1 : p ≤ 60) (LS : Lab) (g : Nat) (hg : g ≤ 2 * k) : LnOk LS a g (.mv (moveF ns k a p).1 ((moveF ns k a p).2.head?.map (·.1)) p) ∧ 10 ∉ (moveF ns k a p).1 ∧ (moveF ns k a p).1.length ≤ 40 ∧ (moveF ns k a p).1 ≠ [] := by
  obtain ⟨wn, wc⟩ := nm_w k hk
  obtain ⟨n1, n2⟩ := num_big (n := p) (by omega) (by omega)
  obtain ⟨d1, d2⟩ := num_big (n := p - a) (by omega) (by omega)
  have l1 := numT_len (n := p) (k := 4) (by omega) (by decide) (by show p < (10000 : Int); omega)
  have l2 := numT_len (n := p - a) (k := 4) (by omega) (by decide) (by show p - a < (10000 : Int); omega)
  have pf : (10 : Nat) ∉ placeL := by decide
  have n10 := num_free (n := p) (by omega) (c := 10) (by omega)
  have d10 := num_free (n := p - a) (by omega) (c := 10) (by omega)
  have pl : placeL.length = 5 := rfl
  unfold moveF
  split
  · refine ⟨⟨⟨[(1, numT p)], read_place' (termsG_one (tm_num n1) 1) (numT_ne (by omega)) (num_free (by omega) (by omega)) (num_free (by omega) (by omega)), fun ls => ?_⟩, h, by omega, fun x hx => by cases hx⟩, fun z => ?_, by rw [List.length_append, List.length_cons]; omega, by simp⟩
    · rw [amt_cons n1 n2, amountL]; congr 1; omega
    · rcases List.mem_append.mp z with z | z
      · exact pf z
      · exact (List.mem_cons.mp z).elim (fun z => by cases z) n10
  split
  · have hw : ∀ c ∈ hereL ++ 43 :: numT (p - a), c ≠ 32 ∧ c ≠ 59 ∧ c ≠ 10 := fun c hc => by
      rcases List.mem_append.mp hc with z | z
      · exact (show ∀ c ∈ hereL, c ≠ 32 ∧ c ≠ 59 ∧ c ≠ 10 by decide) c z
      · rcases List.mem_cons.mp z with z | z
        · omega
        · have := numT_dig (n := p - a) (by omega) c z; omega
    refine ⟨⟨⟨[(1, hereL), (1, numT (p - a))], read_place' ?_ (by simp) (fun z => (hw 32 z).1 rfl) (fun z => (hw 59 z).2.1 rfl), fun ls => ?_⟩, h, by omega, fun x hx => by cases hx⟩, fun z => ?_, by rw [List.length_append, List.length_cons, List.length_append, List.length_cons]; have : hereL.length = 4 := rfl; omega, by simp⟩
    · unfold termsL
      rw [termsG_op tm_here 1 (.inl rfl), if_neg (by decide), termsG_one (tm_num d1)]; rfl
    · rw [amt_here, amt_cons d1 d2, amountL]; congr 1; omega
    · rcases List.mem_append.mp z with z | z
      · exact pf z
      · exact (List.mem_cons.mp z).elim (fun z => by cases z) (fun z => (hw 10 z).2.2 rfl)
  · have nw := nm_of wn
    refine ⟨⟨⟨[(1, numT p)], read_labP nw (termsG_one (tm_num n1) 1) (numT_ne (by omega)) (num_free (by omega) (by omega)) (num_free (by omega) (by omega)), fun ls => ?_⟩, h, by omega, fun x hx => ?_⟩, fun z => ?_, by simp only [List.length_append, List.length_cons, List.length_nil]; have := nw.len; omega, by simp⟩
    · rw [amt_cons n1 n2, amountL]; congr 1; omega
    · cases hx; rw [wc]; exact hg
    · rcases List.mem_append.mp z with z | z
      · rcases List.mem_append.mp z with z | z
        · exact nw.free (by omega) z
        · exact absurd z (by decide)
      · rcases List.mem_cons.mp z with z | z
        · cases z
        · rcases List.mem_append.mp z with z | z
          · exact pf z
          · exact (List.mem_cons.mp z).elim (fun z => by cases z) n10
theorem dd_ok {ns : List Int} {LS PR : Lab} {k : Nat} {p : Int} (hk : k < 13) (h : PrOk LS PR) (p0 : 0 ≤ p) (p1 : p ≤ 60) (g : Nat) (hg : g ≤ 2 * k + 1) : LnOk LS p g (dd32 ns PR k p) ∧ 10 ∉ (dd32 ns PR k p).line ∧ (dd32 ns PR k p).line.length ≤ 80 ∧ (dd32 ns PR k p).next g = 2 * k + 2 := by
  obtain ⟨nn, nc⟩ := nm_name (c32 ns k) hk
  obtain ⟨⟨⟨ts, e1, e2⟩, ne, cs, hd, len⟩, v0, v1⟩ := val_ok (here := p) h (cl32 ns k) p0 p1
  obtain ⟨ki, kx⟩ := kd32_in (cl32 ns k)
  have nl := nn.len
  have kl : (kd32 (cl32 ns k)).length ≤ 4 := (show ∀ x ∈ kindsN, x.length ≤ 4 by decide) _ ki
  refine ⟨⟨rfl, by omega, by rw [nc]; omega, 128 * (kindsN.idxOf (kd32 (cl32 ns k)) : Nat) + 64, ts, (valF (cl32 ns k) p PR).2, read_labK nn ki e1 ne (fun z => (cs 32 z).1 rfl) (fun z => (cs 59 z).2.1 rfl) hd, e2, v0, v1, by rw [kx]⟩, fun z => ?_, ?_, by show codeL _ + 1 = _; rw [nc]⟩
  · rcases List.mem_append.mp (show 10 ∈ _ ++ 32 :: kdLine _ _ _ from z) with z | z
    · rcases List.mem_append.mp z with z | z
      · exact nn.free (by omega) z
      · exact absurd z (by decide)
    · exact (List.mem_cons.mp z).elim (fun z => by cases z) (kd_free ki (.inr rfl) fun z => (cs 10 z).2.2 rfl)
  · show ((nameL (c32 ns k) k ++ [58]) ++ 32 :: kdLine (kd32 (cl32 ns k)) true (valF (cl32 ns k) p PR).1).length ≤ 80
    unfold kdLine
    simp only [List.length_append, List.length_cons, List.length_nil, if_pos]
    have : farL.length = 3 := rfl
    omega
theorem mv_next {ns : List Int} {k : Nat} {a p : Int} (hk : k < 13) (g : Nat) (hg : g ≤ 2 * k) : (Ln32.mv (moveF ns k a p).1 ((moveF ns k a p).2.head?.map (·.1)) p).next g ≤ 2 * k + 1 := by
  obtain ⟨_, wc⟩ := nm_w k hk
  unfold moveF
  split
  · show g ≤ _; omega
  split
  · show g ≤ _; omega
  · show codeL (wNameL k) + 1 ≤ _; rw [wc]; exact Nat.le_refl _
theorem mv_labs {ns : List Int} {k : Nat} {a p : Int} : (Ln32.mv (moveF ns k a p).1 ((moveF ns k a p).2.head?.map (·.1)) p).labs a = (moveF ns k a p).2 := by
  unfold moveF
  split
  · rfl
  split <;> rfl
/-- the items are as told -/
theorem its_ok {ns : List Int} {LS PR : Lab} (h : PrOk LS PR) : ∀ (ps : List Int) (k : Nat) (a : Int) (g : Nat), k + ps.length ≤ 13 → 0 ≤ a → PsOk a ps → g ≤ 2 * k → LsOk LS a g (itF ns PR k a ps) ∧ nextF g (itF ns PR k a ps) ≤ 2 * (k + ps.length) ∧ (∀ q ∈ itF ns PR k a ps, 10 ∉ q.line ∧ q.line.length ≤ 80) ∧ (itF ns PR k a ps).length ≤ 2 * ps.length ∧ (ps ≠ [] → 1 ≤ endF a (itF ns PR k a ps) ∧ endF a (itF ns PR k a ps) ≤ 61)
  | [], k, a, g, _, _, _, hg => ⟨trivial, by show g ≤ _; rw [List.length_nil]; omega, fun q hq => (by cases hq), Nat.le_refl _, fun z => absurd rfl z⟩
  | p :: r, k, a, g, hk, a0, ⟨ap, p60, hr⟩, hg => by
    rw [List.length_cons] at hk ⊢
    have key : ∀ g', g' ≤ 2 * k + 1 → LsOk LS p g' (dd32 ns PR k p :: itF ns PR (k + 1) (p + 1) r) ∧ nextF g' (dd32 ns PR k p :: itF ns PR (k + 1) (p + 1) r) ≤ 2 * (k + (r.length + 1)) ∧ (∀ q ∈ dd32 ns PR k p :: itF ns PR (k + 1) (p + 1) r, 10 ∉ q.line ∧ q.line.length ≤ 80) ∧ (1 ≤ endF p (dd32 ns PR k p :: itF ns PR (k + 1) (p + 1) r) ∧ endF p (dd32 ns PR k p :: itF ns PR (k + 1) (p + 1) r) ≤ 61) ∧ (itF ns PR (k + 1) (p + 1) r).length ≤ 2 * r.length := fun g' hg' => by
      obtain ⟨d1, d2, d3, d4⟩ := dd_ok (ns := ns) (k := k) (p := p) (by omega) h (by omega) p60 g' hg'
      obtain ⟨i1, i2, i3, i4, i5⟩ := its_ok h r (k + 1) (p + 1) ((dd32 ns PR k p).next g') (by omega) (by omega) hr (by rw [d4]; omega)
      refine ⟨⟨d1, i1⟩, by show nextF ((dd32 ns PR k p).next g') _ ≤ _; omega, fun q hq => ?_, ?_, i4⟩
      · rcases List.mem_cons.mp hq with e | e
        · rw [e]; exact ⟨d2, d3⟩
        · exact i3 q e
      · show 1 ≤ endF (p + 1) _ ∧ endF (p + 1) _ ≤ 61
        cases r with
        | nil => show 1 ≤ p + 1 ∧ p + 1 ≤ 61; omega
        | cons y z => exact i5 (by simp)
    rw [itF]
    unfold mv32
    by_cases e : p = a
    · rw [if_pos e]
      subst e
      obtain ⟨k1, k2, k3, k4, k5⟩ := key g (by omega)
      exact ⟨k1, k2, k3, by rw [List.nil_append, List.length_cons]; omega, fun _ => k4⟩
    · rw [if_neg e]
      obtain ⟨m1, m2, m3, _⟩ := move_ok (ns := ns) (k := k) (by omega) a0 ap p60 LS g hg
      obtain ⟨k1, k2, k3, k4, k5⟩ := key _ (mv_next (ns := ns) (a := a) (p := p) (by omega) g hg)
      refine ⟨⟨m1, k1⟩, k2, fun q hq => ?_, by rw [List.cons_append, List.nil_append, List.length_cons, List.length_cons]; omega, fun _ => k4⟩
      rcases List.mem_cons.mp hq with z | z
      · rw [z]; exact ⟨m2, by show (moveF ns k a p).1.length ≤ 80; omega⟩
      · exact k3 q z
/-- the labels: each has its own code, and every pair is one of them -/
theorem its_labs {ns : List Int} {PR : Lab} : ∀ (ps : List Int) (k : Nat) (a : Int) (ls : Lab), k + ps.length ≤ 13 → 0 ≤ a → PsOk a ps → LInv ls (2 * k) → LInv (ls ++ labsF a (itF ns PR k a ps)) (2 * (k + ps.length)) ∧ (∀ q ∈ labsF a (itF ns PR k a ps), Nm q.1 ∧ 0 ≤ q.2 ∧ q.2 ≤ 60) ∧ (∀ q, q ∈ baseF ns k ps ∨ q ∈ ((mvsF ns k a ps).map (·.2)).flatten → q ∈ labsF a (itF ns PR k a ps))
  | [], k, a, ls, _, _, _, hi => ⟨by simpa [itF, labsF] using hi, fun q h => (by cases h), fun q h => (by rcases h with h | h <;> cases h)⟩
  | p :: r, k, a, ls, hk, a0, ⟨ap, p60, hr⟩, hi => by
    rw [List.length_cons] at hk ⊢
    obtain ⟨nn, nc⟩ := nm_name (c32 ns k) (show k < 13 by omega)
    have key : ∀ ls', LInv ls' (2 * k + 1) → LInv (ls' ++ labsF p (dd32 ns PR k p :: itF ns PR (k + 1) (p + 1) r)) (2 * (k + (r.length + 1))) ∧ (∀ q ∈ labsF p (dd32 ns PR k p :: itF ns PR (k + 1) (p + 1) r), Nm q.1 ∧ 0 ≤ q.2 ∧ q.2 ≤ 60) ∧ (∀ q, q ∈ baseF ns k (p :: r) ∨ q ∈ ((mvsF ns (k + 1) (p + 1) r).map (·.2)).flatten → q ∈ labsF p (dd32 ns PR k p :: itF ns PR (k + 1) (p + 1) r)) := fun ls' hi' => by
      have i0 := hi'.add (x := nameL (c32 ns k) k) (v := p) (by rw [nc]; exact Nat.le_refl _)
      rw [nc] at i0
      obtain ⟨i1, i2, i3⟩ := its_labs (PR := PR) r (k + 1) (p + 1) (ls' ++ [(nameL (c32 ns k) k, p)]) (by omega) (by omega) hr i0
      have el : labsF p (dd32 ns PR k p :: itF ns PR (k + 1) (p + 1) r) = (nameL (c32 ns k) k, p) :: labsF (p + 1) (itF ns PR (k + 1) (p + 1) r) := rfl
      rw [el]
      refine ⟨by rw [List.append_assoc] at i1; exact i1.mono (by omega), fun q hq => ?_, fun q hq => ?_⟩
      · rcases List.mem_cons.mp hq with e | e
        · rw [e]; exact ⟨nn, by show 0 ≤ p; omega, p60⟩
        · exact i2 q e
      · rcases hq with hq | hq
        · rcases List.mem_cons.mp hq with e | e
          · rw [e]; exact List.mem_cons_self
          · exact List.mem_cons_of_mem _ (i3 q (.inl e))
        · exact List.mem_cons_of_mem _ (i3 q (.inr hq))
    rw [itF, mvsF, List.map_cons, List.flatten_cons]
    unfold mv32 mvOf
    by_cases e : p = a
    · rw [if_pos e, if_pos e]
      subst e
      exact key ls (hi.mono (by omega))
    · rw [if_neg e, if_neg e]
      obtain ⟨wn, wc⟩ := nm_w k (by omega)
      have hl : LInv (ls ++ (moveF ns k a p).2) (2 * k + 1) ∧ ∀ q ∈ (moveF ns k a p).2, Nm q.1 ∧ 0 ≤ q.2 ∧ q.2 ≤ 60 := by
        unfold moveF
        split
        · exact ⟨by show LInv (ls ++ []) _; rw [List.append_nil]; exact hi.mono (by omega), fun q h => by cases h⟩
        split
        · exact ⟨by show LInv (ls ++ []) _; rw [List.append_nil]; exact hi.mono (by omega), fun q h => by cases h⟩
        · refine ⟨?_, fun q h => ?_⟩
          · have := hi.add (x := wNameL k) (v := a) (by rw [wc]; exact Nat.le_refl _)
            rw [wc] at this; exact this
          · rw [List.mem_singleton.mp h]; exact ⟨nm_of wn, a0, by show a ≤ 60; omega⟩
      obtain ⟨i1, i2, i3⟩ := key _ hl.1
      have el : labsF a ([Ln32.mv (moveF ns k a p).1 ((moveF ns k a p).2.head?.map (·.1)) p] ++ (dd32 ns PR k p :: itF ns PR (k + 1) (p + 1) r)) = (moveF ns k a p).2 ++ labsF p (dd32 ns PR k p :: itF ns PR (k + 1) (p + 1) r) := by
        show (Ln32.mv _ _ p).labs a ++ _ = _
        rw [mv_labs]; rfl
      rw [el]
      refine ⟨by rw [← List.append_assoc]; exact i1, fun q hq => ?_, fun q hq => ?_⟩
      · rcases List.mem_append.mp hq with z | z
        · exact hl.2 q z
        · exact i2 q z
      · rcases hq with hq | hq
        · exact List.mem_append_right _ (i3 q (.inl hq))
        · rcases List.mem_append.mp hq with z | z
          · exact List.mem_append_left _ z
          · exact List.mem_append_right _ (i3 q (.inr z))
theorem base_ne {ns : List Int} {ps : List Int} (h : ps ≠ []) : pairsV ns ps ≠ [] := by
  cases ps with
  | nil => exact absurd rfl h
  | cons p r => unfold pairsV; rw [baseF]; simp
/-- the whole law -/
theorem law32 {ns ps : List Int} (hp : ps ≠ []) (hl : ps.length ≤ 13) (h : PsOk 0 ps) : ∃ LS, PrOk LS (pairsV ns ps) ∧
    assembledL (TL.joinL [10] ((itF ns (pairsV ns ps) 0 0 ps).map Ln32.line ++ [sL "last:"])) = .ok (setM zero64 (cellsF (itF ns (pairsV ns ps) 0 0 ps))) ∧ assembledL (TL.joinL [10] ((itF ns (pairsV ns ps) 0 0 ps).map Ln32.line ++ [sL "last:", sL "place last-1"])) = .ok (setM zero64 (cellsF (itF ns (pairsV ns ps) 0 0 ps))) ∧
    (∀ q ∈ itF ns (pairsV ns ps) 0 0 ps, q.line.length ≤ 80) ∧ (itF ns (pairsV ns ps) 0 0 ps).length ≤ 26 := by
  obtain ⟨l1, l2, l3⟩ := its_labs (ns := ns) (PR := pairsV ns ps) ps 0 0 [] (by omega) (by decide) h linv_0
  rw [List.nil_append, Nat.zero_add] at l1
  have i2 := l1.add (x := lastL) (v := endF 0 (itF ns (pairsV ns ps) 0 0 ps)) (by rw [show codeL lastL = 1000 by decide]; omega)
  have pr : PrOk (labsF 0 (itF ns (pairsV ns ps) 0 0 ps) ++ [(lastL, endF 0 (itF ns (pairsV ns ps) 0 0 ps))]) (pairsV ns ps) := ⟨base_ne hp, fun q hq => by
    have hm := l3 q (by unfold pairsV at hq; exact List.mem_append.mp hq)
    obtain ⟨a, b, c⟩ := l2 q hm
    exact ⟨a, labGet_mem i2.nd (List.mem_append_left _ hm), b, c⟩⟩
  obtain ⟨k1, k2, k3, k4, k5⟩ := its_ok pr ps 0 0 0 (by omega) (by decide) h (Nat.le_refl _)
  obtain ⟨a1, a2⟩ := asm32 rfl k1 (by omega) (by have := k5 hp; omega) (fun q hq => (k3 q hq).1)
  exact ⟨_, pr, a1, a2, fun q hq => (k3 q hq).2, by omega⟩
/-! ### lists of lines, a line put in -/
def lnN (n : Int) : LN := TL.tl (lineS n)
def insL (L : List LN) (i : Nat) (b : LN) : List LN := L.take i ++ [b] ++ L.drop i
theorem insL_map (L : List LN) (i : Nat) (b : LN) : (L.map lnD).take i ++ [lnD b] ++ (L.map lnD).drop i = (insL L i b).map lnD := by
  unfold insL
  rw [List.map_append, List.map_append, List.map_take, List.map_drop]; rfl
theorem insL_mem {L : List LN} {i : Nat} {b l : LN} (h : l ∈ insL L i b) : l ∈ L ∨ l = b := by
  unfold insL at h
  rcases List.mem_append.mp h with h | h
  · rcases List.mem_append.mp h with h | h
    · exact .inl (List.mem_of_mem_take h)
    · exact .inr (List.mem_singleton.mp h)
  · exact .inl (List.mem_of_mem_drop h)
theorem insL_len {L : List LN} {i : Nat} {b : LN} (h : i ≤ L.length) : (insL L i b).length = L.length + 1 := by
  unfold insL; simp; omega
section
variable {K : PySem.W.Frag} {H H0 : Hp} {F : FS} {W : Hp → Prop} {σ : L2.St} {to te ti ta tb : TE} {D : Addr} {ds : List PyData} {d : PyData} {i : Int}
def rIns : V → List V → Hp → VK → Prop := fun x vs H Q => ∃ (l : Addr) (xs : List V) (i : Int) (y : V), x = .ref l ∧ vs = [.int i, y] ∧ H l = some (.lst xs) ∧ xs.length < sizeLine ∧ 0 ≤ i ∧ i < 2 ^ 63 ∧ Q .non (upd H l (.lst (xs.take i.toNat ++ [y] ++ xs.drop i.toNat)))
theorem mt_ins {X : Cx} : MtR X "list.insert" rIns := mt_insert
/-- insert -/
theorem x_own_ins {Q : VK} (wo : Wo F W) (ow : Own K H0 F W D H ds) (ho : Val to σ H (.ref D)) (hi : Val ti σ H (.int i)) (i0 : 0 ≤ i) (i1 : i < 100000) (he : Dv K (withF F D) (fun H1 => W H1 ∧ H1 D = H D) ta σ H d) (hn : ds.length < 100000) (q : ∀ H', Own K H0 F W D H' (ds.take i.toNat ++ [d] ++ ds.drop i.toNat) → Q .non H') : tBM K "list" rIns to (tCons ti (tCons ta tNil)) σ H Q := by
  obtain ⟨o1, w1⟩ := ow.tn wo
  obtain ⟨vs, h1, h2⟩ := ow.ow
  refine ho _ ⟨ty_list h1, hi _ (x_d he o1 fun v H1 m o hv => ⟨D, vs, i, v, rfl, rfl, by rw [o.w.2]; exact h1, lt_line (by rw [h2.len]; omega), i0, by omega, q _ ?_⟩)⟩
  have mU : Mv (withF F D) H1 (withF F D) (upd H1 D (.lst (vs.take i.toNat ++ [v] ++ vs.drop i.toNat))) := ⟨fun b o nb e => by rw [upd_ne (fun q => nb (.inr q))]; exact e, fun _ f => .inl f⟩
  refine ⟨ow.fr, ow.no, ⟨fun b o nb e => ?_, fun b f => .inl f⟩, ⟨fun b f => ?_, wo.loc _ _ (fun b o f e => by rw [upd_ne (fun q => ow.no (by rw [← q]; exact f))]; exact e) (.upd (o.w.2.trans h1)) o.w.1⟩, _, upd_same, ((((h2.mv m).take i.toNat).app (.cons hv .nil)).app ((h2.mv m).drop i.toNat)).mv mU⟩
  · have nD : b ≠ D := fun q => by rw [q, ow.fr] at e; cases e
    rw [upd_ne nD]
    exact m.keep b o (fun f => f.elim nb nD) (ow.mv.keep b o nb e)
  · rw [upd_ne (fun q => ow.no (by rw [← q]; exact f))]
    exact o.fa b (.inl f)
end
/-! ### the first line that is not as told -/
def BadAt (L : List LN) (at_ : Nat) : Prop := ∃ (gs : List Int) (b : LN) (r : List LN), L = gs.map lnN ++ b :: r ∧ gs.length = at_ ∧ (∀ n ∈ gs, 0 ≤ n ∧ n < 1024) ∧ readL b = none
theorem gone_bad : ∀ (gs : List Int) (acc : List (Option Dd)) (a : Int) (k : Nat) (b : LN) (r : List LN), (∀ n ∈ gs, 0 ≤ n ∧ n < 1024) → 0 ≤ a → a + (gs.length : Int) ≤ 64 → readL b = none → goneG acc [] a k (gs.map lnN ++ b :: r) = .error (.deed, k + gs.length)
  | [], acc, a, k, b, r, _, _, _, hb => by
    rw [List.map_nil, List.nil_append, goneG, gs_none hb]; rfl
  | n :: gs, acc, a, k, b, r, h, a0, a1, hb => by
    obtain ⟨n0, n1⟩ := h n List.mem_cons_self
    rw [List.length_cons] at a1
    rw [List.map_cons, List.cons_append, goneG, show goneStep (lnN n) [] a k = _ from step_dd n0 n1 a0 (by omega)]
    show goneG _ _ _ _ _ = _
    rw [gone_bad gs _ (a + 1) (k + 1) b r (fun m hm => h m (List.mem_cons_of_mem _ hm)) (by omega) (by omega) hb, List.length_cons]
    rw [show k + 1 + gs.length = k + (gs.length + 1) by omega]
theorem asm_bad {L : List LN} {at_ : Nat} (h : BadAt L at_) (ha : at_ ≤ 60) (nl : ∀ l ∈ L, 10 ∉ l) : assembledL (TL.joinL [10] L) = .error (.deed, at_ + 1) := by
  obtain ⟨gs, b, r, e, rfl, hg, hb⟩ := h
  unfold assembledL
  rw [cutAt_join 10 (by rw [e]; simp) nl]
  unfold goneL
  rw [e, gone_bad gs [] 0 1 b r hg (by omega) (by omega) hb]
  show Except.error _ = _
  rw [show 1 + gs.length = gs.length + 1 by omega]
theorem bad_ins1 {gs : List Int} {i : Nat} {b : LN} (hi : i ≤ gs.length) (hg : ∀ n ∈ gs, 0 ≤ n ∧ n < 1024) (hb : readL b = none) : BadAt (insL (gs.map lnN) i b) i :=
  ⟨gs.take i, b, (gs.map lnN).drop i, by unfold insL; rw [List.map_take, List.append_assoc]; rfl, by rw [List.length_take]; omega, fun n hn => hg n (List.mem_of_mem_take hn), hb⟩
theorem bad_ins2 {L : List LN} {at_ o : Nat} {b : LN} (h : BadAt L at_) (hb : readL b = none) : BadAt (insL L o b) (if o ≤ at_ then o else at_) := by
  obtain ⟨gs, b0, r, rfl, rfl, hg, hb0⟩ := h
  by_cases c : o ≤ gs.length
  · rw [if_pos c]
    refine ⟨gs.take o, b, (gs.map lnN ++ b0 :: r).drop o, ?_, by rw [List.length_take]; omega, fun n hn => hg n (List.mem_of_mem_take hn), hb⟩
    unfold insL
    rw [List.take_append_of_le_length (by rw [List.length_map]; exact c), List.map_take, List.append_assoc]; rfl
  · rw [if_neg c]
    refine ⟨gs, b0, (b0 :: r).drop 1 |>.take (o - gs.length - 1) |>.append ([b] ++ (gs.map lnN ++ b0 :: r).drop o), ?_, rfl, hg, hb0⟩
    unfold insL
    rw [List.take_append, List.take_of_length_le (by rw [List.length_map]; omega), List.length_map]
    obtain ⟨m, hm⟩ : ∃ m, o - gs.length = m + 1 := ⟨o - gs.length - 1, by omega⟩
    rw [hm]
    show List.map lnN gs ++ b0 :: r.take m ++ [b] ++ _ = List.map lnN gs ++ b0 :: (r.take m ++ ([b] ++ _))
    simp
theorem lnN_ok {n : Int} (h0 : 0 ≤ n) (h1 : n < 1024) : 10 ∉ lnN n ∧ (lnN n).length ≤ 60 := by
  refine ⟨?_, ?_⟩
  · have h := List.all_eq_true.mp noNl_ok n.toNat (List.mem_range.mpr (by omega))
    unfold noNl at h
    rw [Bool.and_eq_true, show ((n.toNat : Nat) : Int) = n by omega] at h
    have h1 : (!decide (10 ∈ lnN n)) = true := h.1
    exact of_decide_eq_false (by simpa only [Bool.not_eq_true'] using h1)
  · have := lineS_len h0 h1
    rw [TL.len_tl] at this
    exact Nat.le_trans this (by omega)
theorem Own.mvD {K : PySem.W.Frag} {H0 H : Hp} {F : FS} {W : Hp → Prop} {D : Addr} {ds : List PyData} (ow : Own K H0 F W D H ds) : Mv F H0 (withF F D) H := ⟨ow.mv.keep, fun b f => f.elim .inl (fun e => .inr (by rw [e]; exact ow.fr))⟩
def LnsOk (L : List LN) (m : Nat) : Prop := L.length ≤ m ∧ ∀ l ∈ L, 10 ∉ l ∧ l.length ≤ 60
theorem lnsOk_ins {L : List LN} {m i : Nat} {b : LN} (h : LnsOk L m) (hi : i ≤ L.length) (hb : 10 ∉ b ∧ b.length ≤ 60) : LnsOk (insL L i b) (m + 1) :=
  ⟨by rw [insL_len hi]; have := h.1; omega, fun l hl => (insL_mem hl).elim (h.2 l) (fun e => by rw [e]; exact hb)⟩
/-- the law's last line -/
theorem dv_ref {K : PySem.W.Frag} {H : Hp} {F : FS} {W : Hp → Prop} {σ : L2.St} {tj tp : TE} {L : List LN} {er : Er} {k m : Nat} (wo : Wo F W) (hj : Dv K F W tj σ H (.str (oL (TL.joinL [10] L)))) (hp : Dv K F W tp σ H (dueD er k)) (hL : LnsOk L m) (hm : m ≤ 300) (e : assembledL (TL.joinL [10] L) = .error (er, k)) : Dv K F W (tCall (spDV K (preRefused K)) [] E0 (tCons tj (tCons tp tNil))) σ H (.bool true) :=
  dv_spD (ds := [.str (oL (TL.joinL [10] L)), dueD er k]) wo (da_cons hj (da_cons hp da_nil)) (fun vs H1 _ _ hv => by
    cases hv with | cons z1 z2 =>
    cases z1
    cases z2 with | cons z2 z3 =>
    cases z3
    have jl := joinL_small (s := [10]) (fun p hp => (hL.2 p hp).2)
    have := hL.1
    simp at jl
    exact ⟨_, er, k, _, rfl, z2, by have h2 : L.length * 60 ≤ 300 * 60 := Nat.mul_le_mul_right _ (by omega); omega, e, rfl⟩)
/-! ### lines without labels, through both goings over -/
abbrev LD := LN × Option Dd
def RunG : Int → List LD → Int → Prop
  | a, [], b => b = a
  | a, x :: r, b => ∃ a', (∀ k, goneStep x.1 [] a k = .ok (x.2, [], a')) ∧ RunG a' r b
theorem runG : ∀ (xs : List LD) (acc : List (Option Dd)) (a b : Int) (k : Nat) (rest : List LN), RunG a xs b → goneG acc [] a k (xs.map (·.1) ++ rest) = goneG (acc ++ xs.map (·.2)) [] b (k + xs.length) rest
  | [], acc, a, b, k, rest, h => by
    have h : b = a := h
    subst h
    simp
  | x :: r, acc, a, b, k, rest, ⟨a', h1, h2⟩ => by
    rw [List.map_cons, List.cons_append, goneG, h1 k]
    show goneG _ _ _ _ _ = _
    rw [runG r _ a' b (k + 1) rest h2, List.map_cons, List.length_cons, List.append_assoc]
    rw [show k + 1 + r.length = k + (r.length + 1) by omega]; rfl
theorem RunG.app : ∀ {xs ys : List LD} {a b c : Int}, RunG a xs b → RunG b ys c → RunG a (xs ++ ys) c
  | [], _, _, _, _, h, h2 => by have h : _ = _ := h; subst h; exact h2
  | _ :: _, _, _, _, _, ⟨a', h1, h⟩, h2 => ⟨a', h1, RunG.app h h2⟩
def goodX (gs : List Int) : List LD := gs.map fun n => (lnN n, some (ddOf n))
theorem run_good : ∀ (gs : List Int) (a : Int), (∀ n ∈ gs, 0 ≤ n ∧ n < 1024) → 0 ≤ a → a + (gs.length : Int) ≤ 64 → RunG a (goodX gs) (a + gs.length)
  | [], a, _, _, _ => by show a + ((0 : Nat) : Int) = a; omega
  | n :: gs, a, h, a0, a1 => by
    rw [List.length_cons] at a1
    obtain ⟨n0, n1⟩ := h n List.mem_cons_self
    refine ⟨a + 1, fun k => step_dd n0 n1 a0 (by omega), ?_⟩
    have := run_good gs (a + 1) (fun m hm => h m (List.mem_cons_of_mem _ hm)) (by omega) (by omega)
    rw [List.length_cons, show a + ((gs.length + 1 : Nat) : Int) = a + 1 + (gs.length : Int) by omega]
    exact this
theorem run_one {l : LN} {d : Dd} {a a' : Int} (h : readL l = some (none, some d)) (hm : ∀ k, moveG [] a k (some d) = .ok a') : RunG a [(l, some d)] a' :=
  ⟨a', fun k => gs_ok h rfl (hm k), rfl⟩
theorem run_np {l : LN} {d : Dd} {a : Int} (h : readL l = some (none, some d)) (np : ∀ ts, d ≠ .place ts) (a0 : 0 ≤ a) (a1 : a < 64) : RunG a [(l, some d)] (a + 1) :=
  run_one h fun k => (moveG_np np).trans (by unfold withinL; rw [if_pos ⟨by omega, by omega⟩])
def plX (p : Nat) : LD := (TL.tl ("place " ++ toS (p : Int)), some (.place [(1, numT (p : Int))]))
theorem run_pl {p : Nat} {a : Int} (hp : p < 64) : RunG a [plX p] (p : Int) := ⟨(p : Int), fun k => step_place hp, rfl⟩
/-! the second one -/
def mkN : Int → List Int → Made
  | _, [] => []
  | a, n :: r => (a, n) :: mkN (a + 1) r
theorem mkN_mem : ∀ {gs : List Int} {a : Int} {q : Int × Int}, q ∈ mkN a gs → a ≤ q.1 ∧ q.1 < a + (gs.length : Int)
  | [], _, _, h => by cases h
  | n :: r, a, q, h => by
    rw [mkN] at h
    rw [List.length_cons]
    rcases List.mem_cons.mp h with e | h
    · rw [e]; simp only; omega
    · have := mkN_mem h
      omega
theorem madeGet_in {m : Made} {x : Int} (h : ∃ q ∈ m, q.1 = x) : (madeGet m x).isSome = true := by
  obtain ⟨q, hq, e⟩ := h
  unfold madeGet
  rw [Option.isSome_map, List.find?_isSome]
  exact ⟨q, hq, decide_eq_true e⟩
theorem mkN_has : ∀ {gs : List Int} {a x : Int}, a ≤ x → x < a + (gs.length : Int) → ∃ q ∈ mkN a gs, q.1 = x
  | [], a, x, h0, h1 => by rw [List.length_nil] at h1; omega
  | n :: r, a, x, h0, h1 => by
    by_cases e : x = a
    · exact ⟨(a, n), by rw [mkN]; exact List.mem_cons_self, e.symm⟩
    · rw [List.length_cons] at h1
      obtain ⟨q, hq, e2⟩ := mkN_has (gs := r) (a := a + 1) (x := x) (by omega) (by omega)
      exact ⟨q, by rw [mkN]; exact List.mem_cons_of_mem _ hq, e2⟩
theorem cells_good : ∀ (gs : List Int) (m : Made) (a : Int) (k : Nat) (rest : List (Option Dd)), (∀ n ∈ gs, 0 ≤ n ∧ n < 1024) → 0 ≤ a → (∀ q ∈ m, q.1 < a) → cellsG [] m [] a k ((goodX gs).map (·.2) ++ rest) = cellsG [] (m ++ mkN a gs) [] (a + gs.length) (k + gs.length) rest
  | [], m, a, k, rest, _, _, _ => by
    show cellsG [] m [] a k rest = _
    rw [mkN, List.append_nil, List.length_nil, show a + ((0 : Nat) : Int) = a by omega]; rfl
  | n :: gs, m, a, k, rest, h, a0, hm => by
    obtain ⟨n0, n1⟩ := h n List.mem_cons_self
    show cellsG [] m [] a k (some (ddOf n) :: ((goodX gs).map (·.2) ++ rest)) = _
    rw [cellsG, cell_dd n0 n1 a0 hm]
    show cellsG _ _ _ _ _ _ = _
    rw [cells_good gs _ (a + 1) (k + 1) rest (fun x hx => h x (List.mem_cons_of_mem _ hx)) (by omega) (fun q hq => by
      rcases List.mem_append.mp hq with h | h
      · have := hm q h; omega
      · rw [List.mem_singleton.mp h]; simp only; omega), mkN, List.length_cons, List.append_assoc]
    rw [show a + 1 + (gs.length : Int) = a + ((gs.length + 1 : Nat) : Int) by omega, show k + 1 + gs.length = k + (gs.length + 1) by omega]; rfl
theorem asm_run {xs : List LD} {b : Int} {e : Er × Nat} (hne : xs ≠ []) (h : RunG 0 xs b) (hc : cellsG [] [] [] 0 1 (xs.map (·.2)) = .error e) (nl : ∀ l ∈ xs.map (·.1), 10 ∉ l) : assembledL (TL.joinL [10] (xs.map (·.1))) = .error e := by
  unfold assembledL
  rw [cutAt_join 10 (by simpa using hne) nl]
  unfold goneL
  have := runG xs [] 0 b 1 [] h
  rw [List.append_nil] at this
  rw [this, goneG]
  show (match cellsG [] [] [] 0 1 ([] ++ xs.map (·.2)) with | .error e => (Except.error e : Except (Er × Nat) (List Int)) | .ok m => Except.ok (cellsOf m)) = _
  rw [List.nil_append, hc]
/-! steps of the second one -/
theorem cs_err {m : Made} {pool : List Int} {a : Int} {k : Nat} {d : Dd} {e : Er × Nat} {r : List (Option Dd)} (np : ∀ ts, d ≠ .place ts) (h : wordOf [] m pool a k d = .error e) : cellsG [] m pool a k (some d :: r) = .error e := by
  rw [cellsG, cellStep_np np, h]
theorem cs_taken {m m1 : Made} {pool pool' : List Int} {a n : Int} {k : Nat} {d : Dd} {r : List (Option Dd)} (np : ∀ ts, d ≠ .place ts) (h : wordOf [] m pool a k d = .ok (m1, pool', n)) (hm : ∃ q ∈ m1, q.1 = a) : cellsG [] m pool a k (some d :: r) = .error (.taken, k) := by
  rw [cellsG, cellStep_np np, h]
  dsimp only
  have : makeL m1 a n k = .error (.taken, k) := by unfold makeL; rw [if_pos (.inl (madeGet_in hm))]
  rw [this]
theorem madeGet_no {m : Made} {x : Int} (h : ∀ q ∈ m, q.1 ≠ x) : madeGet m x = none := by
  unfold madeGet
  rw [List.find?_eq_none.mpr]
  · rfl
  · intro q hq e
    exact h q hq (of_decide_eq_true e)
theorem make_fr {m : Made} {x n : Int} {k : Nat} (h : ∀ q ∈ m, q.1 ≠ x) (h0 : 0 ≤ x) : makeL m x n k = .ok (m ++ [(x, n)]) := by
  unfold makeL
  rw [if_neg]
  intro z
  rcases z with z | z
  · rw [madeGet_no h] at z; cases z
  · omega
theorem cs_ok {m m1 : Made} {pool pool' : List Int} {a n : Int} {k : Nat} {d : Dd} {r : List (Option Dd)} (np : ∀ ts, d ≠ .place ts) (h : wordOf [] m pool a k d = .ok (m1, pool', n)) (hm : ∀ q ∈ m1, q.1 ≠ a) (a0 : 0 ≤ a) : cellsG [] m pool a k (some d :: r) = cellsG [] (m1 ++ [(a, n)]) pool' (a + 1) (k + 1) r := by
  rw [cellsG, cellStep_np np, h]
  dsimp only
  rw [make_fr hm a0]
theorem cs_pl {m : Made} {pool : List Int} {a : Int} {k p : Nat} {r : List (Option Dd)} (hp : p < 64) : cellsG [] m pool a k (some (.place [(1, numT (p : Int))]) :: r) = cellsG [] m pool (p : Int) (k + 1) r := by
  rw [cellsG]
  unfold cellStep
  dsimp only
  rw [amtL_num (by omega) (by omega)]
theorem wo_word {m : Made} {pool : List Int} {a n : Int} {k : Nat} (h0 : 0 ≤ n) (h1 : n < 1024) : wordOf [] m pool a k (.word [(1, numT n)]) = .ok (m, pool, n) := by
  unfold wordOf
  dsimp only
  rw [amtW_num h0 h1 (by omega)]
theorem wo_pool {m : Made} {pool : List Int} {a b n : Int} {k : Nat} (h0 : 0 ≤ n) (h1 : n < 1024) (hn : n ∉ pool) (hm : ∀ q ∈ m, q.1 ≠ 63 - (pool.length : Nat)) (hl : pool.length ≤ 60) : wordOf [] m pool a k (.pool b [(1, numT n)]) = .ok (m ++ [((63 : Int) - (pool.length : Nat), n)], pool ++ [n], b + (63 - (pool.length : Nat))) := by
  unfold wordOf
  dsimp only
  rw [amtW_num h0 h1 (by omega)]
  dsimp only
  unfold poolL
  rw [if_neg hn, make_fr hm (by omega)]
theorem wo_poolE {m : Made} {pool : List Int} {a b n : Int} {k : Nat} (h0 : 0 ≤ n) (h1 : n < 1024) (hn : n ∉ pool) (hm : ∃ q ∈ m, q.1 = 63 - (pool.length : Nat)) : wordOf [] m pool a k (.pool b [(1, numT n)]) = .error (.taken, k) := by
  unfold wordOf
  dsimp only
  rw [amtW_num h0 h1 (by omega)]
  dsimp only
  unfold poolL
  have : makeL m (63 - (pool.length : Nat)) n k = .error (.taken, k) := by unfold makeL; rw [if_pos (.inl (madeGet_in hm))]
  rw [if_neg hn, this]
/-- amounts that are none, amounts outside -/
theorem amt_none : ∀ (ts : List (Int × LN)) (here a : Int), (∃ q ∈ ts, isNumL q.2 = false ∧ q.2 ≠ hereL) → amountL [] here a ts = none
  | [], _, _, ⟨_, h, _⟩ => by cases h
  | (s, t) :: r, here, a, ⟨q, hq, h1, h2⟩ => by
    rw [amountL]
    by_cases c1 : isNumL t = true
    · rw [if_pos c1]
      rcases List.mem_cons.mp hq with e | hq
      · rw [e] at h1; rw [h1] at c1; cases c1
      · exact amt_none r here _ ⟨q, hq, h1, h2⟩
    rw [if_neg c1]
    by_cases c2 : t = hereL
    · rw [if_pos c2]
      rcases List.mem_cons.mp hq with e | hq
      · rw [e] at h2; exact absurd c2 h2
      · exact amt_none r here _ ⟨q, hq, h1, h2⟩
    rw [if_neg c2]
    rfl
theorem amtW_none {here m : Int} {ts : List (Int × LN)} {k : Nat} (h : ∃ q ∈ ts, isNumL q.2 = false ∧ q.2 ≠ hereL) : amtW [] here ts m k = .error (.name, k) := by
  unfold amtW amtL
  rw [amt_none ts here 0 h]
theorem amtW_out {ls : Lab} {here m a : Int} {ts : List (Int × LN)} {k : Nat} (h : amountL ls here 0 ts = some a) (ho : a < 0 ∨ m < a) : amtW ls here ts m k = .error (.bounds, k) := by
  unfold amtW amtL
  rw [h]
  show withinL a m k = _
  unfold withinL
  rw [if_neg (by omega)]
theorem wo_wordE {ls : Lab} {m : Made} {pool : List Int} {a : Int} {k : Nat} {ts : List (Int × LN)} {e : Er × Nat} (h : amtW ls a ts 1023 k = .error e) : wordOf ls m pool a k (.word ts) = .error e := by unfold wordOf; dsimp only; rw [h]
theorem wo_aimE {ls : Lab} {m : Made} {pool : List Int} {a b : Int} {k : Nat} {ts : List (Int × LN)} {e : Er × Nat} (h : amtW ls a ts 63 k = .error e) : wordOf ls m pool a k (.aim b ts) = .error e := by unfold wordOf; dsimp only; rw [h]
theorem wo_poolX {ls : Lab} {m : Made} {pool : List Int} {a b : Int} {k : Nat} {ts : List (Int × LN)} {e : Er × Nat} (h : amtW ls a ts 1023 k = .error e) : wordOf ls m pool a k (.pool b ts) = .error e := by unfold wordOf; dsimp only; rw [h]
/-! ### k36: the faults -/
theorem read_aim {x w : LN} {far : Bool} {ts : List (Int × LN)} (h : x ∈ kindsN) (h1 : 32 ∉ w) (h2 : 59 ∉ w) (h0 : w ≠ []) (hf : w ≠ farL) (hw : w.head? ≠ some 61) (ht : termsL w = some ts) : readL (kdLine x far w) = some (none, some (.aim (128 * (kindsN.idxOf x : Nat) + 64 * (if far = true then 1 else 0)) ts)) := by
  have e := readP_kd (far := far) (w := w) h hf
  have g : aimG (kindsN.idxOf x : Nat) (if far = true then 1 else 0) [w] = (termsL w).map (Dd.aim (128 * (kindsN.idxOf x : Nat) + 64 * (if far = true then 1 else 0))) := by
    cases w with
    | nil => exact absurd rfl h0
    | cons c r =>
      have hc : c ≠ 61 := fun e => hw (by rw [e]; rfl)
      unfold aimG
      dsimp only
      split
      · rename_i e; exact absurd (List.cons.inj e).1 hc
      · rfl
  unfold readL
  rw [pieces_plain (kd_free h (.inl rfl) h2), words_kd h h1 h0, e, g, ht]
  rfl
theorem tm_n {n : Int} (h0 : 0 ≤ n) (h1 : n < 10000) : Tm (numT n) := tm_num (num_big h0 h1).1
theorem terms_n {n : Int} (h0 : 0 ≤ n) (h1 : n < 10000) : termsL (numT n) = some [(1, numT n)] := termsG_one (tm_n h0 h1) 1
theorem terms_sub {t : LN} {n : Int} (ht : Tm t) (h0 : 0 ≤ n) (h1 : n < 10000) : termsL (t ++ 45 :: numT n) = some [(1, t), (-1, numT n)] := by
  unfold termsL
  rw [termsG_op ht 1 (.inr rfl), if_pos rfl, termsG_one (tm_n h0 h1)]; rfl
theorem amt_n {n : Int} {here : Int} (h0 : 0 ≤ n) (h1 : n < 10000) : amountL [] here 0 [(1, numT n)] = some n := by
  rw [amt_cons (num_big h0 h1).1 (num_big h0 h1).2, amountL]
  congr 1; omega
theorem amt_subn {t : LN} {v n here : Int} (ht : isNumL t = true) (hv : numV t = v) (h0 : 0 ≤ n) (h1 : n < 10000) : amountL [] here 0 [(1, t), (-1, numT n)] = some (v - n) := by
  rw [amt_cons ht hv, amt_cons (num_big h0 h1).1 (num_big h0 h1).2, amountL]
  congr 1; omega
theorem numT_far {n : Int} (h0 : 0 ≤ n) : numT n ≠ farL := fun e => by
  have := numT_dig h0 102 (by rw [e]; decide)
  omega
theorem numT_hd {n : Int} (h0 : 0 ≤ n) : (numT n).head? ≠ some 61 := fun e => by
  have := numT_dig h0 61 (List.mem_of_mem_head? e)
  omega
/-- a line that is refused in the second going over, wherever it stands -/
def Flt (er : Er) (l : LN) : Prop := ∃ dd, readL l = some (none, some dd) ∧ (∀ ts, dd ≠ .place ts) ∧ (∀ m pool a k, wordOf [] m pool a k dd = .error (er, k)) ∧ 10 ∉ l ∧ l.length ≤ 60
theorem rd_aim {pre u v x : LN} {far : Bool} {b : Int} {ts : List (Int × LN)} (hp : pre = x ++ 32 :: ((if far = true then farL ++ [32] else []) ++ u)) (hb : 128 * ((kindsN.idxOf x : Nat) : Int) + 64 * (if far = true then 1 else 0) = b) (h : x ∈ kindsN) (h1 : 32 ∉ u ++ v) (h2 : 59 ∉ u ++ v) (h0 : u ++ v ≠ []) (hf : u ++ v ≠ farL) (hw : (u ++ v).head? ≠ some 61) (ht : termsL (u ++ v) = some ts) : readL (pre ++ v) = some (none, some (.aim b ts)) := by
  have e : pre ++ v = kdLine x far (u ++ v) := by rw [hp]; unfold kdLine; simp
  rw [e, read_aim h h1 h2 h0 hf hw ht, hb]
theorem rd_word {pre u v : LN} {ts : List (Int × LN)} (hp : pre = wordL ++ 32 :: u) (h1 : 32 ∉ u ++ v) (h2 : 59 ∉ u ++ v) (h0 : u ++ v ≠ []) (ht : termsL (u ++ v) = some ts) : readL (pre ++ v) = some (none, some (.word ts)) := by
  have e : pre ++ v = wordL ++ 32 :: (u ++ v) := by rw [hp]; simp
  rw [e, read_word' ht h0 h1 h2]
theorem rd_pool {pre v x : LN} {far : Bool} {b : Int} {ts : List (Int × LN)} (hp : pre = x ++ 32 :: ((if far = true then farL ++ [32] else []) ++ [61])) (hb : 128 * ((kindsN.idxOf x : Nat) : Int) + 64 * (if far = true then 1 else 0) = b) (h : x ∈ kindsN) (h1 : 32 ∉ v) (h2 : 59 ∉ v) (ht : termsL v = some ts) : readL (pre ++ v) = some (none, some (.pool b ts)) := by
  have e : pre ++ v = kdLine x far (61 :: v) := by rw [hp]; unfold kdLine; simp
  rw [e, read_pool h h1 h2 ht, hb]
theorem no_sub {c d : Nat} {v : LN} (hd : c ≠ d) (hc : c ≠ 45) (h : c ∉ v) : c ∉ [d, 45] ++ v := fun z => by
  rcases List.mem_append.mp z with z | z
  · simp at z; omega
  · exact h z
def nm36 : List PySem.Str := ["add nobody", "word 1+nobody", "and =nobody", "go far here-nobody"]
def nobL : LN := TL.tl "nobody"
theorem nob_ok : isNumL nobL = false ∧ nobL ≠ hereL := by decide +kernel
theorem flt_nm {s : PySem.Str} (h : s ∈ nm36) : Flt .name (TL.tl s) := by
  have E : ∀ {ts : List (Int × LN)}, (∃ q ∈ ts, q.2 = nobL) → ∃ q ∈ ts, isNumL q.2 = false ∧ q.2 ≠ hereL := fun ⟨q, h, e⟩ => ⟨q, h, by rw [e]; exact nob_ok.1, by rw [e]; exact nob_ok.2⟩
  unfold nm36 at h
  simp only [List.mem_cons, List.not_mem_nil, or_false] at h
  rcases h with rfl | rfl | rfl | rfl
  · exact ⟨.aim 128 [(1, nobL)], by decide +kernel, fun _ z => (nomatch z), fun _ _ _ _ => wo_aimE (amtW_none (E ⟨_, List.mem_cons_self, rfl⟩)), by decide +kernel, by decide +kernel⟩
  · exact ⟨.word [(1, sL "1"), (1, nobL)], by decide +kernel, fun _ z => (nomatch z), fun _ _ _ _ => wo_wordE (amtW_none (E ⟨_, List.mem_cons_of_mem _ List.mem_cons_self, rfl⟩)), by decide +kernel, by decide +kernel⟩
  · exact ⟨.pool 0 [(1, nobL)], by decide +kernel, fun _ z => (nomatch z), fun _ _ _ _ => wo_poolX (amtW_none (E ⟨_, List.mem_cons_self, rfl⟩)), by decide +kernel, by decide +kernel⟩
  · exact ⟨.aim 704 [(1, hereL), (-1, nobL)], by decide +kernel, fun _ z => (nomatch z), fun _ _ _ _ => wo_aimE (amtW_none (E ⟨_, List.mem_cons_of_mem _ List.mem_cons_self, rfl⟩)), by decide +kernel, by decide +kernel⟩
def oS36 (c : Int) : List PySem.Str := ["add " ++ toS (64 + c / 5 % 9936), "put far 0-" ++ toS (1 + c / 5 % 9999), "word " ++ toS (1024 + c / 5 % 8976), "word 5-" ++ toS (6 + c / 5 % 9994), "and =" ++ toS (1024 + c / 5 % 8976)]
theorem tl_num (s : PySem.Str) (n : Int) : TL.tl (s ++ toS n) = TL.tl s ++ numT n := TL.tl_append s (toS n)
theorem nl_num {s : PySem.Str} {n : Int} (hs : 10 ∉ TL.tl s) (hl : (TL.tl s).length ≤ 50) (h0 : 0 ≤ n) (h1 : n < 10000) : 10 ∉ TL.tl (s ++ toS n) ∧ (TL.tl (s ++ toS n)).length ≤ 60 := by
  rw [tl_num]
  refine ⟨fun z => (List.mem_append.mp z).elim hs (num_free h0 (.inl (by decide))), ?_⟩
  have := numT_len (k := 4) h0 (by decide) (by show n < (10000 : Int); exact h1)
  rw [List.length_append]; omega
theorem flt_out {c : Int} {s : PySem.Str} (h : s ∈ oS36 c) : Flt .bounds (TL.tl s) := by
  unfold oS36 at h
  simp only [List.mem_cons, List.not_mem_nil, or_false] at h
  rcases h with rfl | rfl | rfl | rfl | rfl
  · generalize hv : 64 + c / 5 % 9936 = v
    have v0 : 64 ≤ v := by omega
    have v1 : v < 10000 := by omega
    obtain ⟨n1, n2⟩ := nl_num (s := "add ") (n := v) (by decide +kernel) (by decide +kernel) (by omega) v1
    refine ⟨.aim 128 [(1, numT v)], ?_, fun _ z => (nomatch z), fun _ _ _ _ => wo_aimE (amtW_out (amt_n (by omega) v1) (.inr (by omega))), n1, n2⟩
    rw [tl_num]
    exact rd_aim (x := TL.tl "add") (far := false) (u := []) (by decide +kernel) (by decide +kernel) (by decide +kernel) (num_free (by omega) (.inl (by decide))) (num_free (by omega) (.inr (by decide))) (numT_ne (by omega)) (numT_far (by omega)) (numT_hd (by omega)) (terms_n (by omega) v1)
  · generalize hv : 1 + c / 5 % 9999 = v
    have v0 : 1 ≤ v := by omega
    have v1 : v < 10000 := by omega
    obtain ⟨n1, n2⟩ := nl_num (s := "put far 0-") (n := v) (by decide +kernel) (by decide +kernel) (by omega) v1
    refine ⟨.aim 448 [(1, [48]), (-1, numT v)], ?_, fun _ z => (nomatch z), fun _ _ _ _ => wo_aimE (amtW_out (amt_subn (t := [48]) (v := 0) (by decide +kernel) (by decide +kernel) (by omega) v1) (.inl (by omega))), n1, n2⟩
    rw [tl_num]
    exact rd_aim (x := TL.tl "put") (far := true) (u := [48, 45]) (by decide +kernel) (by decide +kernel) (by decide +kernel) (no_sub (by decide) (by decide) (num_free (by omega) (.inl (by decide)))) (no_sub (by decide) (by decide) (num_free (by omega) (.inr (by decide)))) (by simp) (fun z => by rw [show farL = [102, 97, 114] by decide +kernel] at z; exact absurd (List.cons.inj z).1 (by decide)) (by simp) (terms_sub (t := [48]) (tm_num (by decide +kernel)) (by omega) v1)
  · generalize hv : 1024 + c / 5 % 8976 = v
    have v0 : 1024 ≤ v := by omega
    have v1 : v < 10000 := by omega
    obtain ⟨n1, n2⟩ := nl_num (s := "word ") (n := v) (by decide +kernel) (by decide +kernel) (by omega) v1
    refine ⟨.word [(1, numT v)], ?_, fun _ z => (nomatch z), fun _ _ _ _ => wo_wordE (amtW_out (amt_n (by omega) v1) (.inr (by omega))), n1, n2⟩
    rw [tl_num]
    exact rd_word (u := []) (by decide +kernel) (num_free (by omega) (.inl (by decide))) (num_free (by omega) (.inr (by decide))) (numT_ne (by omega)) (terms_n (by omega) v1)
  · generalize hv : 6 + c / 5 % 9994 = v
    have v0 : 6 ≤ v := by omega
    have v1 : v < 10000 := by omega
    obtain ⟨n1, n2⟩ := nl_num (s := "word 5-") (n := v) (by decide +kernel) (by decide +kernel) (by omega) v1
    refine ⟨.word [(1, [53]), (-1, numT v)], ?_, fun _ z => (nomatch z), fun _ _ _ _ => wo_wordE (amtW_out (amt_subn (t := [53]) (v := 5) (by decide +kernel) (by decide +kernel) (by omega) v1) (.inl (by omega))), n1, n2⟩
    rw [tl_num]
    exact rd_word (u := [53, 45]) (by decide +kernel) (no_sub (by decide) (by decide) (num_free (by omega) (.inl (by decide)))) (no_sub (by decide) (by decide) (num_free (by omega) (.inr (by decide)))) (by simp) (terms_sub (t := [53]) (tm_num (by decide +kernel)) (by omega) v1)
  · generalize hv : 1024 + c / 5 % 8976 = v
    have v0 : 1024 ≤ v := by omega
    have v1 : v < 10000 := by omega
    obtain ⟨n1, n2⟩ := nl_num (s := "and =") (n := v) (by decide +kernel) (by decide +kernel) (by omega) v1
    refine ⟨.pool 0 [(1, numT v)], ?_, fun _ z => (nomatch z), fun _ _ _ _ => wo_poolX (amtW_out (amt_n (by omega) v1) (.inr (by omega))), n1, n2⟩
    rw [tl_num]
    exact rd_pool (x := TL.tl "and") (far := false) (by decide +kernel) (by decide +kernel) (by decide +kernel) (num_free (by omega) (.inl (by decide))) (num_free (by omega) (.inr (by decide))) (terms_n (by omega) v1)
def flt36 (c : Int) (at_ : Nat) : Er × List PySem.Str × Nat :=
  if c % 4 = 0 then (.name, [nm36.getD (c / 4 % 4).toNat Str.empty], 0)
  else if c % 4 = 1 then (.bounds, [(oS36 (c / 4)).getD (c / 4 % 5).toNat Str.empty], 0)
  else if c % 4 = 2 ∧ 0 < at_ then (.taken, ["place " ++ toS (c / 4 % (at_ : Int)), "word " ++ toS (c / 256 % 1024)], 1)
  else
    let pool : List PySem.Str := (List.range (c / 4 % 3).toNat).map fun (k : Nat) => "add =" ++ toS (1000 + (k : Int))
    if c / 12 % 2 = 0 then (.taken, ["place " ++ toS (63 - c / 4 % 3), "word 9", "place 45"] ++ pool ++ [("add =5" : PySem.Str)], 3 + pool.length)
    else (.taken, [("place 45" : PySem.Str)] ++ pool ++ [("add =5" : PySem.Str), "place " ++ toS (63 - c / 4 % 3), "word 9"], 3 + pool.length)
/-- what the law's fault is -/
structure Flt36 (q : Er × List PySem.Str × Nat) (at_ : Nat) : Prop where
  ex : ∃ (F : List LD) (b : Int), F.map (·.1) = q.2.1.map TL.tl ∧ RunG (at_ : Int) F b ∧ 0 ≤ b ∧ b ≤ 64 ∧ (q.2.1.length ≤ 2 → b ≤ (at_ : Int) + 1) ∧ (∀ (m : Made) (rest : List (Option Dd)), (∀ q ∈ m, 0 ≤ q.1 ∧ q.1 < (at_ : Int)) → (∀ x : Int, 0 ≤ x → x < (at_ : Int) → ∃ q ∈ m, q.1 = x) → cellsG [] m [] (at_ : Int) (1 + at_) (F.map (·.2) ++ rest) = .error (q.1, at_ + q.2.2 + 1)) ∧ F ≠ []
  nl : ∀ s ∈ q.2.1, 10 ∉ TL.tl s ∧ (TL.tl s).length ≤ 60
  ln : 1 ≤ q.2.1.length ∧ q.2.1.length ≤ 6
theorem flt_one {er : Er} {s : PySem.Str} {at_ : Nat} (h : Flt er (TL.tl s)) (ha : at_ ≤ 30) : Flt36 (er, [s], 0) at_ := by
  obtain ⟨dd, hr, np, hw, n1, n2⟩ := h
  refine ⟨⟨[(TL.tl s, some dd)], (at_ : Int) + 1, rfl, run_np hr np (by omega) (by omega), by omega, by omega, fun _ => by omega, fun m rest _ _ => ?_, by simp⟩, fun x hx => by rw [List.mem_singleton.mp hx]; exact ⟨n1, n2⟩, by show 1 ≤ 1; omega, by show 1 ≤ 6; omega⟩
  show cellsG [] m [] (at_ : Int) (1 + at_) (some dd :: rest) = _
  rw [cs_err np (hw m [] (at_ : Int) (1 + at_))]
  show Except.error (er, 1 + at_) = Except.error (er, at_ + 0 + 1)
  rw [show 1 + at_ = at_ + 0 + 1 by omega]
theorem fa {m : Made} {x y n : Int} (h : ∀ q ∈ m, q.1 ≠ x) (hy : y ≠ x) : ∀ q ∈ m ++ [(y, n)], q.1 ≠ x := fun q hq => (List.mem_append.mp hq).elim (h q) (fun z => by rw [List.mem_singleton.mp z]; exact hy)
theorem fm {m : Made} {x : Int} {at_ : Nat} (h : ∀ q ∈ m, 0 ≤ q.1 ∧ q.1 < (at_ : Int)) (ha : at_ ≤ 30) (hx : 30 ≤ x) : ∀ q ∈ m, q.1 ≠ x := fun q hq e => by have := h q hq; omega
theorem hasL {m : Made} {y y' n : Int} (h : y = y') : ∃ q ∈ m ++ [(y, n)], q.1 = y' := ⟨(y, n), List.mem_append_right _ List.mem_cons_self, h⟩
theorem hasM {m : Made} {z : Int × Int} {y : Int} (h : ∃ q ∈ m, q.1 = y) : ∃ q ∈ m ++ [z], q.1 = y := by
  obtain ⟨q, hq, e⟩ := h
  exact ⟨q, List.mem_append_left _ hq, e⟩
theorem npW {ts : List (Int × LN)} : ∀ us, Dd.word ts ≠ .place us := fun _ z => nomatch z
theorem npP {b : Int} {ts : List (Int × LN)} : ∀ us, Dd.pool b ts ≠ .place us := fun _ z => nomatch z
def w9X : LD := (TL.tl "word 9", some (.word [(1, numT 9)]))
def p45X : LD := (TL.tl "place 45", some (.place [(1, numT ((45 : Nat) : Int))]))
def a5X : LD := (TL.tl "add =5", some (.pool 128 [(1, numT 5)]))
def poX (n : Int) : LD := (TL.tl ("add =" ++ toS n), some (.pool 128 [(1, numT n)]))
theorem rd_w9 : readL (TL.tl "word 9") = some (none, some (.word [(1, numT 9)])) := by decide +kernel
theorem rd_a5 : readL (TL.tl "add =5") = some (none, some (.pool 128 [(1, numT 5)])) := by decide +kernel
theorem rd_po0 : readL (TL.tl ("add =" ++ toS 1000)) = some (none, some (.pool 128 [(1, numT 1000)])) := by decide +kernel
theorem rd_po1 : readL (TL.tl ("add =" ++ toS 1001)) = some (none, some (.pool 128 [(1, numT 1001)])) := by decide +kernel
theorem run_p45 {a : Int} : RunG a [p45X] ((45 : Nat) : Int) := by
  have h := run_pl (p := 45) (a := a) (by decide)
  have e : plX 45 = p45X := by
    unfold plX p45X
    rw [show TL.tl ("place " ++ toS ((45 : Nat) : Int)) = TL.tl "place 45" by decide +kernel]
  rw [e] at h
  exact h
theorem flt_tk {j : Nat} {w : Int} {at_ : Nat} (ha : at_ ≤ 30) (hj : j < at_) (w0 : 0 ≤ w) (w1 : w < 1024) : Flt36 (.taken, ["place " ++ toS (j : Int), "word " ++ toS w], 1) at_ := by
  have hr : readL (TL.tl ("word " ++ toS w)) = some (none, some (.word [(1, numT w)])) := by
    rw [tl_num]
    exact rd_word (u := []) (by decide +kernel) (num_free (by omega) (.inl (by decide))) (num_free (by omega) (.inr (by decide))) (numT_ne (by omega)) (terms_n (by omega) (by omega))
  refine ⟨⟨[plX j, (TL.tl ("word " ++ toS w), some (.word [(1, numT w)]))], (j : Int) + 1, rfl, RunG.app (run_pl (p := j) (by omega)) (run_np hr (fun _ z => nomatch z) (by omega) (by omega)), by omega, by omega, fun _ => by omega, fun m rest hm hx => ?_, by simp⟩, fun x hx => ?_, by show 1 ≤ 2; omega, by show 2 ≤ 6; omega⟩
  · show cellsG [] m [] (at_ : Int) (1 + at_) (some (.place [(1, numT (j : Int))]) :: some (.word [(1, numT w)]) :: rest) = _
    refine (cs_pl (by omega)).trans ((cs_taken npW (wo_word w0 w1) (hx (j : Int) (by omega) (by omega))).trans ?_)
    show Except.error (Er.taken, 1 + at_ + 1) = Except.error (Er.taken, at_ + 1 + 1)
    rw [show 1 + at_ + 1 = at_ + 1 + 1 by omega]
  · simp only [List.mem_cons, List.not_mem_nil, or_false] at hx
    rcases hx with rfl | rfl
    · exact nl_num (by decide +kernel) (by decide +kernel) (by omega) (by omega)
    · exact nl_num (by decide +kernel) (by decide +kernel) (by omega) (by omega)

theorem flt_A0 {at_ : Nat} (ha : at_ ≤ 30) : Flt36 (.taken, (["place " ++ toS 63, "word 9", "place 45", "add =5"] : List PySem.Str), 3) at_ := by
  refine ⟨⟨[plX 63, w9X, p45X, a5X], 46, rfl, (RunG.app (run_pl (p := 63) (by decide)) (RunG.app (run_np rd_w9 npW (by decide) (by decide)) (RunG.app run_p45 (run_np rd_a5 npP (by decide) (by decide))))), by decide, by decide, fun h => absurd h (by decide), fun m rest hm hx => ?_, by simp⟩, fun x hx => ?_, by show 1 ≤ 4; omega, by show 4 ≤ 6; omega⟩
  · show cellsG [] m [] (at_ : Int) (1 + at_) (((plX 63).2) :: ((w9X).2) :: ((p45X).2) :: ((a5X).2) :: rest) = _
    refine ((cs_pl (by decide)).trans ((cs_ok npW (wo_word (by decide) (by decide)) (fm hm ha (by decide)) (by decide)).trans ((cs_pl (by decide)).trans ((cs_err npP (wo_poolE (by decide) (by decide) (by decide) (hasL (by decide)))).trans ?_))))
    show Except.error (Er.taken, 1 + at_ + 1 + 1 + 1) = Except.error (Er.taken, at_ + 3 + 1)
    rw [show 1 + at_ + 1 + 1 + 1 = at_ + 3 + 1 by omega]
  · simp only [List.mem_cons, List.not_mem_nil, or_false] at hx
    rcases hx with rfl | rfl | rfl | rfl
    · decide +kernel
    · decide +kernel
    · decide +kernel
    · decide +kernel

theorem flt_B0 {at_ : Nat} (ha : at_ ≤ 30) : Flt36 (.taken, (["place 45", "add =5", "place " ++ toS 63, "word 9"] : List PySem.Str), 3) at_ := by
  refine ⟨⟨[p45X, a5X, plX 63, w9X], 64, rfl, (RunG.app run_p45 (RunG.app (run_np rd_a5 npP (by decide) (by decide)) (RunG.app (run_pl (p := 63) (by decide)) (run_np rd_w9 npW (by decide) (by decide))))), by decide, by decide, fun h => absurd h (by decide), fun m rest hm hx => ?_, by simp⟩, fun x hx => ?_, by show 1 ≤ 4; omega, by show 4 ≤ 6; omega⟩
  · show cellsG [] m [] (at_ : Int) (1 + at_) (((p45X).2) :: ((a5X).2) :: ((plX 63).2) :: ((w9X).2) :: rest) = _
    refine ((cs_pl (by decide)).trans ((cs_ok npP (wo_pool (by decide) (by decide) (by decide) (fm hm ha (by decide)) (by decide)) (fa (fm hm ha (by decide)) (by decide)) (by decide)).trans ((cs_pl (by decide)).trans ((cs_taken npW (wo_word (by decide) (by decide)) (hasM (hasL (by decide)))).trans ?_))))
    show Except.error (Er.taken, 1 + at_ + 1 + 1 + 1) = Except.error (Er.taken, at_ + 3 + 1)
    rw [show 1 + at_ + 1 + 1 + 1 = at_ + 3 + 1 by omega]
  · simp only [List.mem_cons, List.not_mem_nil, or_false] at hx
    rcases hx with rfl | rfl | rfl | rfl
    · decide +kernel
    · decide +kernel
    · decide +kernel
    · decide +kernel

theorem flt_A1 {at_ : Nat} (ha : at_ ≤ 30) : Flt36 (.taken, (["place " ++ toS 62, "word 9", "place 45", "add =" ++ toS 1000, "add =5"] : List PySem.Str), 4) at_ := by
  refine ⟨⟨[plX 62, w9X, p45X, poX 1000, a5X], 47, rfl, (RunG.app (run_pl (p := 62) (by decide)) (RunG.app (run_np rd_w9 npW (by decide) (by decide)) (RunG.app run_p45 (RunG.app (run_np rd_po0 npP (by decide) (by decide)) (run_np rd_a5 npP (by decide) (by decide)))))), by decide, by decide, fun h => absurd h (by decide), fun m rest hm hx => ?_, by simp⟩, fun x hx => ?_, by show 1 ≤ 5; omega, by show 5 ≤ 6; omega⟩
  · show cellsG [] m [] (at_ : Int) (1 + at_) (((plX 62).2) :: ((w9X).2) :: ((p45X).2) :: ((poX 1000).2) :: ((a5X).2) :: rest) = _
    refine ((cs_pl (by decide)).trans ((cs_ok npW (wo_word (by decide) (by decide)) (fm hm ha (by decide)) (by decide)).trans ((cs_pl (by decide)).trans ((cs_ok npP (wo_pool (by decide) (by decide) (by decide) (fa (fm hm ha (by decide)) (by decide)) (by decide)) (fa (fa (fm hm ha (by decide)) (by decide)) (by decide)) (by decide)).trans ((cs_err npP (wo_poolE (by decide) (by decide) (by decide) (hasM (hasM (hasL (by decide)))))).trans ?_)))))
    show Except.error (Er.taken, 1 + at_ + 1 + 1 + 1 + 1) = Except.error (Er.taken, at_ + 4 + 1)
    rw [show 1 + at_ + 1 + 1 + 1 + 1 = at_ + 4 + 1 by omega]
  · simp only [List.mem_cons, List.not_mem_nil, or_false] at hx
    rcases hx with rfl | rfl | rfl | rfl | rfl
    · decide +kernel
    · decide +kernel
    · decide +kernel
    · decide +kernel
    · decide +kernel

theorem flt_B1 {at_ : Nat} (ha : at_ ≤ 30) : Flt36 (.taken, (["place 45", "add =" ++ toS 1000, "add =5", "place " ++ toS 62, "word 9"] : List PySem.Str), 4) at_ := by
  refine ⟨⟨[p45X, poX 1000, a5X, plX 62, w9X], 63, rfl, (RunG.app run_p45 (RunG.app (run_np rd_po0 npP (by decide) (by decide)) (RunG.app (run_np rd_a5 npP (by decide) (by decide)) (RunG.app (run_pl (p := 62) (by decide)) (run_np rd_w9 npW (by decide) (by decide)))))), by decide, by decide, fun h => absurd h (by decide), fun m rest hm hx => ?_, by simp⟩, fun x hx => ?_, by show 1 ≤ 5; omega, by show 5 ≤ 6; omega⟩
  · show cellsG [] m [] (at_ : Int) (1 + at_) (((p45X).2) :: ((poX 1000).2) :: ((a5X).2) :: ((plX 62).2) :: ((w9X).2) :: rest) = _
    refine ((cs_pl (by decide)).trans ((cs_ok npP (wo_pool (by decide) (by decide) (by decide) (fm hm ha (by decide)) (by decide)) (fa (fm hm ha (by decide)) (by decide)) (by decide)).trans ((cs_ok npP (wo_pool (by decide) (by decide) (by decide) (fa (fa (fm hm ha (by decide)) (by decide)) (by decide)) (by decide)) (fa (fa (fa (fm hm ha (by decide)) (by decide)) (by decide)) (by decide)) (by decide)).trans ((cs_pl (by decide)).trans ((cs_taken npW (wo_word (by decide) (by decide)) (hasM (hasL (by decide)))).trans ?_)))))
    show Except.error (Er.taken, 1 + at_ + 1 + 1 + 1 + 1) = Except.error (Er.taken, at_ + 4 + 1)
    rw [show 1 + at_ + 1 + 1 + 1 + 1 = at_ + 4 + 1 by omega]
  · simp only [List.mem_cons, List.not_mem_nil, or_false] at hx
    rcases hx with rfl | rfl | rfl | rfl | rfl
    · decide +kernel
    · decide +kernel
    · decide +kernel
    · decide +kernel
    · decide +kernel

theorem flt_A2 {at_ : Nat} (ha : at_ ≤ 30) : Flt36 (.taken, (["place " ++ toS 61, "word 9", "place 45", "add =" ++ toS 1000, "add =" ++ toS 1001, "add =5"] : List PySem.Str), 5) at_ := by
  refine ⟨⟨[plX 61, w9X, p45X, poX 1000, poX 1001, a5X], 48, rfl, (RunG.app (run_pl (p := 61) (by decide)) (RunG.app (run_np rd_w9 npW (by decide) (by decide)) (RunG.app run_p45 (RunG.app (run_np rd_po0 npP (by decide) (by decide)) (RunG.app (run_np rd_po1 npP (by decide) (by decide)) (run_np rd_a5 npP (by decide) (by decide))))))), by decide, by decide, fun h => absurd h (by decide), fun m rest hm hx => ?_, by simp⟩, fun x hx => ?_, by show 1 ≤ 6; omega, by show 6 ≤ 6; omega⟩
  · show cellsG [] m [] (at_ : Int) (1 + at_) (((plX 61).2) :: ((w9X).2) :: ((p45X).2) :: ((poX 1000).2) :: ((poX 1001).2) :: ((a5X).2) :: rest) = _
    refine ((cs_pl (by decide)).trans ((cs_ok npW (wo_word (by decide) (by decide)) (fm hm ha (by decide)) (by decide)).trans ((cs_pl (by decide)).trans ((cs_ok npP (wo_pool (by decide) (by decide) (by decide) (fa (fm hm ha (by decide)) (by decide)) (by decide)) (fa (fa (fm hm ha (by decide)) (by decide)) (by decide)) (by decide)).trans ((cs_ok npP (wo_pool (by decide) (by decide) (by decide) (fa (fa (fa (fm hm ha (by decide)) (by decide)) (by decide)) (by decide)) (by decide)) (fa (fa (fa (fa (fm hm ha (by decide)) (by decide)) (by decide)) (by decide)) (by decide)) (by decide)).trans ((cs_err npP (wo_poolE (by decide) (by decide) (by decide) (hasM (hasM (hasM (hasM (hasL (by decide)))))))).trans ?_))))))
    show Except.error (Er.taken, 1 + at_ + 1 + 1 + 1 + 1 + 1) = Except.error (Er.taken, at_ + 5 + 1)
    rw [show 1 + at_ + 1 + 1 + 1 + 1 + 1 = at_ + 5 + 1 by omega]
  · simp only [List.mem_cons, List.not_mem_nil, or_false] at hx
    rcases hx with rfl | rfl | rfl | rfl | rfl | rfl
    · decide +kernel
    · decide +kernel
    · decide +kernel
    · decide +kernel
    · decide +kernel
    · decide +kernel

theorem flt_B2 {at_ : Nat} (ha : at_ ≤ 30) : Flt36 (.taken, (["place 45", "add =" ++ toS 1000, "add =" ++ toS 1001, "add =5", "place " ++ toS 61, "word 9"] : List PySem.Str), 5) at_ := by
  refine ⟨⟨[p45X, poX 1000, poX 1001, a5X, plX 61, w9X], 62, rfl, (RunG.app run_p45 (RunG.app (run_np rd_po0 npP (by decide) (by decide)) (RunG.app (run_np rd_po1 npP (by decide) (by decide)) (RunG.app (run_np rd_a5 npP (by decide) (by decide)) (RunG.app (run_pl (p := 61) (by decide)) (run_np rd_w9 npW (by decide) (by decide))))))), by decide, by decide, fun h => absurd h (by decide), fun m rest hm hx => ?_, by simp⟩, fun x hx => ?_, by show 1 ≤ 6; omega, by show 6 ≤ 6; omega⟩
  · show cellsG [] m [] (at_ : Int) (1 + at_) (((p45X).2) :: ((poX 1000).2) :: ((poX 1001).2) :: ((a5X).2) :: ((plX 61).2) :: ((w9X).2) :: rest) = _
    refine ((cs_pl (by decide)).trans ((cs_ok npP (wo_pool (by decide) (by decide) (by decide) (fm hm ha (by decide)) (by decide)) (fa (fm hm ha (by decide)) (by decide)) (by decide)).trans ((cs_ok npP (wo_pool (by decide) (by decide) (by decide) (fa (fa (fm hm ha (by decide)) (by decide)) (by decide)) (by decide)) (fa (fa (fa (fm hm ha (by decide)) (by decide)) (by decide)) (by decide)) (by decide)).trans ((cs_ok npP (wo_pool (by decide) (by decide) (by decide) (fa (fa (fa (fa (fm hm ha (by decide)) (by decide)) (by decide)) (by decide)) (by decide)) (by decide)) (fa (fa (fa (fa (fa (fm hm ha (by decide)) (by decide)) (by decide)) (by decide)) (by decide)) (by decide)) (by decide)).trans ((cs_pl (by decide)).trans ((cs_taken npW (wo_word (by decide) (by decide)) (hasM (hasL (by decide)))).trans ?_))))))
    show Except.error (Er.taken, 1 + at_ + 1 + 1 + 1 + 1 + 1) = Except.error (Er.taken, at_ + 5 + 1)
    rw [show 1 + at_ + 1 + 1 + 1 + 1 + 1 = at_ + 5 + 1 by omega]
  · simp only [List.mem_cons, List.not_mem_nil, or_false] at hx
    rcases hx with rfl | rfl | rfl | rfl | rfl | rfl
    · decide +kernel
    · decide +kernel
    · decide +kernel
    · decide +kernel
    · decide +kernel
    · decide +kernel

theorem mod3 (x : Int) : x % 3 = 0 ∨ x % 3 = 1 ∨ x % 3 = 2 := by omega
theorem getD_mem' {α : Type} {l : List α} {i : Nat} {d : α} (h : i < l.length) : l.getD i d ∈ l := by
  rw [List.getD_eq_getElem?_getD, List.getElem?_eq_getElem h]
  exact List.getElem_mem h
theorem flt36_ok (c : Int) {at_ : Nat} (ha : at_ ≤ 30) : Flt36 (flt36 c at_) at_ := by
  unfold flt36
  by_cases c0 : c % 4 = 0
  · rw [if_pos c0]
    exact flt_one (flt_nm (getD_mem' (by show _ < 4; omega))) ha
  rw [if_neg c0]
  by_cases c1 : c % 4 = 1
  · rw [if_pos c1]
    exact flt_one (flt_out (c := c / 4) (getD_mem' (by show _ < 5; omega))) ha
  rw [if_neg c1]
  by_cases c2 : c % 4 = 2 ∧ 0 < at_
  · rw [if_pos c2]
    have q0 := Int.emod_nonneg (c / 4) (show (at_ : Int) ≠ 0 by omega)
    have q1 := Int.emod_lt_of_pos (c / 4) (show (0 : Int) < (at_ : Int) by omega)
    obtain ⟨j, hj⟩ : ∃ j : Nat, c / 4 % (at_ : Int) = (j : Int) := ⟨(c / 4 % (at_ : Int)).toNat, by omega⟩
    rw [hj]
    exact flt_tk ha (by omega) (by omega) (by omega)
  rw [if_neg c2]
  rcases mod3 (c / 4) with e | e | e
  · rw [e]
    dsimp only
    split
    · exact flt_A0 ha
    · exact flt_B0 ha
  · rw [e]
    dsimp only
    split
    · exact flt_A1 ha
    · exact flt_B1 ha
  · rw [e]
    dsimp only
    split
    · exact flt_A2 ha
    · exact flt_B2 ha
/-! ### law k35: lines with labels -/
def qN (k : Nat) : LN := 113 :: numT (k : Int)
def qLn (k : Nat) (n : Int) : LN := (qN k ++ [58]) ++ 32 :: lnN n
def qOk (k : Nat) : Bool := isNameL (qN k) && (!decide (10 ∈ qN k) && decide ((qN k).length ≤ 6))
theorem qs_ok : (List.range 70).all qOk = true := by decide +kernel
theorem nm_q {k : Nat} (h : k < 70) : Nm (qN k) := by
  have := List.all_eq_true.mp qs_ok k (List.mem_range.mpr h)
  unfold qOk at this
  rw [Bool.and_eq_true] at this
  exact nm_of this.1
theorem q_inj {i j : Nat} (hi : i < 70) (hj : j < 70) (e : qN i = qN j) : i = j := by
  have e2 : numT (i : Int) = numT (j : Int) := (List.cons.inj e).2
  have h1 := (num_big (n := (i : Int)) (by omega) (by omega)).2
  have h2 := (num_big (n := (j : Int)) (by omega) (by omega)).2
  rw [e2, h2] at h1
  omega
def noSc (n : Nat) : Bool := !decide (59 ∈ lnN (n : Int))
theorem noSc_ok : (List.range 1024).all noSc = true := by decide +kernel
theorem ln_sc {n : Int} (h0 : 0 ≤ n) (h1 : n < 1024) : 59 ∉ lnN n := by
  have h := List.all_eq_true.mp noSc_ok n.toNat (List.mem_range.mpr (by omega))
  unfold noSc at h
  rw [show ((n.toNat : Nat) : Int) = n by omega] at h
  exact of_decide_eq_false (by simpa only [Bool.not_eq_true'] using h)
theorem rest_ln {n : Int} (h0 : 0 ≤ n) (h1 : n < 1024) (x : LN) : restL (some x) (wordsL (lnN n)) = some (some x, some (ddOf n)) := by
  have h := read_line h0 h1
  unfold readL at h
  rw [show piecesL (TL.tl (lineS n)) = wordsL (lnN n) from pieces_plain (ln_sc h0 h1)] at h
  cases hw : wordsL (lnN n) with
  | nil => rw [hw] at h; cases h
  | cons f r =>
    rw [hw, readP] at h
    split at h
    · split at h
      · cases r with
        | nil => cases h
        | cons f2 r2 =>
          rw [restL] at h
          cases z : deedL (f2 :: r2) with
          | none => rw [z] at h; cases h
          | some d => rw [z] at h; cases h
      · cases h
    · rw [restL] at h ⊢
      cases z : deedL (f :: r) with
      | none => rw [z] at h; cases h
      | some d => rw [z] at h; cases h; rfl
theorem read_q {k : Nat} {n : Int} (hk : k < 70) (h0 : 0 ≤ n) (h1 : n < 1024) : readL (qLn k n) = some (some (qN k), some (ddOf n)) := by
  unfold qLn
  rw [read_lab (nm_q hk) (ln_sc h0 h1), rest_ln h0 h1]
theorem labGet_app (ls : Lab) (y : LN) (v : Int) (x : LN) : labGet (ls ++ [(y, v)]) x = none ↔ labGet ls x = none ∧ x ≠ y := by
  unfold labGet
  rw [Option.map_eq_none_iff, Option.map_eq_none_iff, List.find?_eq_none, List.find?_eq_none]
  constructor
  · intro h
    exact ⟨fun q hq => h q (List.mem_append_left _ hq), fun e => by have := h (y, v) (List.mem_append_right _ List.mem_cons_self); exact this (decide_eq_true e.symm)⟩
  · rintro ⟨h, e⟩ q hq
    rcases List.mem_append.mp hq with hq | hq
    · exact h q hq
    · rw [List.mem_singleton.mp hq]
      intro z
      exact e (of_decide_eq_true z).symm
theorem step_q {k : Nat} {n : Int} {ls : Lab} {a : Int} (hk : k < 70) (h0 : 0 ≤ n) (h1 : n < 1024) (hl : labGet ls (qN k) = none) (a0 : 0 ≤ a) (a1 : a < 64) (j : Nat) : goneStep (qLn k n) ls a j = .ok (some (ddOf n), ls ++ [(qN k, a)], a + 1) :=
  gs_ok (read_q hk h0 h1) (tell_new hl) (move_dd a0 a1)
theorem step_tw {k : Nat} {n : Int} {ls : Lab} {a : Int} (hk : k < 70) (h0 : 0 ≤ n) (h1 : n < 1024) (hl : labGet ls (qN k) ≠ none) (j : Nat) : goneStep (qLn k n) ls a j = .error (.twice, j) :=
  gs_tell (read_q hk h0 h1) (by
    unfold tellL
    cases z : labGet ls (qN k) with
    | none => exact absurd z hl
    | some v =>
      dsimp only
      rw [if_pos (by rw [z]; rfl)])
/-- lines that pass the first going over -/
def RunQ : Lab → Int → List LN → Lab → Int → Prop
  | ls, a, [], ls', b => ls' = ls ∧ b = a
  | ls, a, l :: r, ls', b => ∃ d ls1 a1, (∀ k, goneStep l ls a k = .ok (d, ls1, a1)) ∧ RunQ ls1 a1 r ls' b
theorem runQ : ∀ (xs : List LN) (acc : List (Option Dd)) (ls ls' : Lab) (a b : Int) (k : Nat) (y : LN) (rest : List LN) (er : Er), RunQ ls a xs ls' b → (∀ j, goneStep y ls' b j = .error (er, j)) → goneG acc ls a k (xs ++ y :: rest) = .error (er, k + xs.length)
  | [], acc, ls, ls', a, b, k, y, rest, er, ⟨e1, e2⟩, h => by
    subst e1
    subst e2
    rw [List.nil_append, goneG, h k]; rfl
  | l :: r, acc, ls, ls', a, b, k, y, rest, er, ⟨d, ls1, a1, h1, h2⟩, h => by
    rw [List.cons_append, goneG, h1 k]
    show goneG _ _ _ _ _ = _
    rw [runQ r _ ls1 ls' a1 b (k + 1) y rest er h2 h, List.length_cons, show k + 1 + r.length = k + (r.length + 1) by omega]
theorem RunQ.app : ∀ {xs ys : List LN} {ls l1 l2 : Lab} {a b c : Int}, RunQ ls a xs l1 b → RunQ l1 b ys l2 c → RunQ ls a (xs ++ ys) l2 c
  | [], _, _, _, _, _, _, _, ⟨e1, e2⟩, h2 => by subst e1; subst e2; exact h2
  | _ :: _, _, _, _, _, _, _, _, ⟨d, ls1, a1, h1, h⟩, h2 => ⟨d, ls1, a1, h1, RunQ.app h h2⟩
def qLs : Nat → List Int → List LN
  | _, [] => []
  | k, n :: r => qLn k n :: qLs (k + 1) r
theorem run_q : ∀ (gs : List Int) (k : Nat) (a : Int) (ls : Lab), (∀ n ∈ gs, 0 ≤ n ∧ n < 1024) → (∀ i, k ≤ i → i < k + gs.length → labGet ls (qN i) = none) → 0 ≤ a → a + (gs.length : Int) ≤ 64 → k + gs.length ≤ 69 → ∃ ls', RunQ ls a (qLs k gs) ls' (a + gs.length) ∧ ∀ x, labGet ls' x = none ↔ labGet ls x = none ∧ ∀ i, k ≤ i → i < k + gs.length → x ≠ qN i
  | [], k, a, ls, _, _, _, _, _ => ⟨ls, ⟨rfl, by simp⟩, fun x => ⟨fun h => ⟨h, fun i h1 h2 => by simp at h2; omega⟩, fun h => h.1⟩⟩
  | n :: r, k, a, ls, hg, hf, a0, a1, hk => by
    rw [List.length_cons] at a1 hk
    obtain ⟨n0, n1⟩ := hg n List.mem_cons_self
    obtain ⟨ls', h1, h2⟩ := run_q r (k + 1) (a + 1) (ls ++ [(qN k, a)]) (fun m hm => hg m (List.mem_cons_of_mem _ hm)) (fun i i1 i2 => (labGet_app _ _ _ _).mpr ⟨hf i (by omega) (by rw [List.length_cons]; omega), fun e => by have := q_inj (by omega) (by omega) e; omega⟩) (by omega) (by omega) (by omega)
    refine ⟨ls', ⟨_, _, _, fun j => step_q (by omega) n0 n1 (hf k (Nat.le_refl _) (by rw [List.length_cons]; omega)) a0 (by omega) j, by rw [List.length_cons, show a + ((r.length + 1 : Nat) : Int) = a + 1 + (r.length : Int) by omega]; exact h1⟩, fun x => ?_⟩
    rw [h2, labGet_app]
    constructor
    · rintro ⟨⟨h3, h4⟩, h5⟩
      refine ⟨h3, fun i i1 i2 => ?_⟩
      rw [List.length_cons] at i2
      by_cases e : i = k
      · rw [e]; exact h4
      · exact h5 i (by omega) (by omega)
    · rintro ⟨h3, h4⟩
      exact ⟨⟨h3, h4 k (Nat.le_refl _) (by rw [List.length_cons]; omega)⟩, fun i i1 i2 => h4 i (by omega) (by rw [List.length_cons]; omega)⟩
/-! what stands in the place of a line -/
theorem goneL_err {L : List LN} {ls' : Lab} {b : Int} {xs rest : List LN} {y : LN} {er : Er} (hL : L = xs ++ y :: rest) (h : RunQ [] 0 xs ls' b) (hy : ∀ j, goneStep y ls' b j = .error (er, j)) (nl : ∀ l ∈ L, 10 ∉ l) : assembledL (TL.joinL [10] L) = .error (er, xs.length + 1) := by
  unfold assembledL
  rw [cutAt_join 10 (by rw [hL]; simp) nl]
  unfold goneL
  rw [hL, runQ xs [] [] ls' 0 b 1 y rest er h hy]
  show Except.error (er, 1 + xs.length) = Except.error (er, xs.length + 1)
  rw [show 1 + xs.length = xs.length + 1 by omega]
theorem step_pn {w : LN} {ls : Lab} {a : Int} (n : Nm w) (h : labGet ls w = none) (j : Nat) : goneStep (placeL ++ 32 :: w) ls a j = .error (.name, j) := by
  have hr : readL (placeL ++ 32 :: w) = some (none, some (.place [(1, w)])) := read_place' (termsG_one n.tm 1) n.ne (n.free (by omega)) (n.free (by omega))
  refine gs_move hr rfl (moveG_pl.trans ?_)
  unfold amtW amtL
  rw [show amountL ls a 0 [(1, w)] = none by rw [amountL, if_neg (by rw [n.notNum]; exact Bool.false_ne_true), if_neg n.notHere, h]]
theorem step_po {l : LN} {ts : List (Int × LN)} {v : Int} {ls : Lab} {a : Int} (hr : readL l = some (none, some (.place ts))) (hv : amountL ls a 0 ts = some v) (ho : v < 0 ∨ 63 < v) (j : Nat) : goneStep l ls a j = .error (.bounds, j) :=
  gs_move hr rfl (moveG_pl.trans (amtW_out hv ho))
def wdL (k : Nat) : LN := TL.tl ("word " ++ toS (k : Int))
theorem read_wd {k : Nat} (h : k < 1024) : readL (wdL k) = some (none, some (.word [(1, numT (k : Int))])) := by
  unfold wdL
  rw [tl_num]
  exact rd_word (u := []) (by decide +kernel) (num_free (by omega) (.inl (by decide))) (num_free (by omega) (.inr (by decide))) (numT_ne (by omega)) (terms_n (by omega) (by omega))
theorem step_wd {k : Nat} {ls : Lab} {a : Int} (h : k < 1024) (a0 : 0 ≤ a) (a1 : a < 64) (j : Nat) : goneStep (wdL k) ls a j = .ok (some (.word [(1, numT (k : Int))]), ls, a + 1) :=
  gs_ok (read_wd h) rfl ((moveG_np npW).trans (by unfold withinL; rw [if_pos ⟨by omega, by omega⟩]))
theorem step_wdE {k : Nat} {ls : Lab} (h : k < 1024) (j : Nat) : goneStep (wdL k) ls 64 j = .error (.bounds, j) :=
  gs_move (read_wd h) rfl ((moveG_np npW).trans (by unfold withinL; rw [if_neg (by omega)]))
theorem run_wd : ∀ (n k : Nat) (ls : Lab) (a : Int), k + n ≤ 1000 → 0 ≤ a → a + (n : Int) ≤ 64 → RunQ ls a ((List.range' k n).map wdL) ls (a + n)
  | 0, k, ls, a, _, _, _ => ⟨rfl, by simp⟩
  | n + 1, k, ls, a, h, a0, a1 => by
    rw [List.range'_succ, List.map_cons]
    refine ⟨_, ls, a + 1, fun j => step_wd (by omega) a0 (by omega) j, ?_⟩
    have := run_wd n (k + 1) ls (a + 1) (by omega) (by omega) (by omega)
    rw [show a + ((n + 1 : Nat) : Int) = a + 1 + (n : Int) by omega]
    exact this
/-- the extra line ahead -/
def preS : List PySem.Str := ["word 1024", "add nobody", "add 64", "and =2000"]
theorem run_pre {s : PySem.Str} (h : s ∈ preS) : RunQ [] 0 [TL.tl s] [] 1 := by
  have go : ∀ {l : LN} {d : Dd}, readL l = some (none, some d) → (∀ ts, d ≠ .place ts) → RunQ [] 0 [l] [] 1 := fun hr np => ⟨_, [], 1, fun j => gs_ok hr rfl ((moveG_np np).trans (by unfold withinL; rw [if_pos ⟨by decide, by decide⟩]; rfl)), rfl, rfl⟩
  unfold preS at h
  simp only [List.mem_cons, List.not_mem_nil, or_false] at h
  rcases h with rfl | rfl | rfl | rfl
  · exact go (d := .word [(1, TL.tl "1024")]) (by decide +kernel) npW
  · exact go (d := .aim 128 [(1, nobL)]) (by decide +kernel) (fun _ z => nomatch z)
  · exact go (d := .aim 128 [(1, TL.tl "64")]) (by decide +kernel) (fun _ z => nomatch z)
  · exact go (d := .pool 0 [(1, TL.tl "2000")]) (by decide +kernel) npP
/-! ### k35: the line that is put in -/
theorem qLs_app : ∀ (g1 g2 : List Int) (k : Nat), qLs k (g1 ++ g2) = qLs k g1 ++ qLs (k + g1.length) g2
  | [], g2, k => rfl
  | n :: r, g2, k => by
    rw [List.cons_append, qLs, qLs, qLs_app r g2 (k + 1), List.length_cons, List.cons_append, show k + 1 + r.length = k + (r.length + 1) by omega]
theorem qLs_len : ∀ (gs : List Int) (k : Nat), (qLs k gs).length = gs.length
  | [], _ => rfl
  | _ :: r, k => by rw [qLs, List.length_cons, qLs_len r (k + 1), List.length_cons]
theorem qLs_split (gs : List Int) {p : Nat} (hp : p ≤ gs.length) : qLs 0 gs = qLs 0 (gs.take p) ++ qLs p (gs.drop p) := by
  have := qLs_app (gs.take p) (gs.drop p) 0
  rw [List.take_append_drop, List.length_take, Nat.zero_add, Nat.min_eq_left hp] at this
  exact this
theorem ins_q (gs : List Int) {p : Nat} (hp : p ≤ gs.length) (b : LN) : insL (qLs 0 gs) p b = qLs 0 (gs.take p) ++ b :: qLs p (gs.drop p) := by
  unfold insL
  have l1 : (qLs 0 (gs.take p)).length = p := by rw [qLs_len, List.length_take]; omega
  rw [qLs_split gs hp, List.take_append_of_le_length (by omega), List.take_of_length_le (by omega), List.drop_append_of_le_length (by omega), List.drop_of_length_le (by omega)]
  simp
def add1 : Int := 129
theorem add1_ln : TL.tl "add 1" = lnN add1 := by decide +kernel
def nm35 (n p : Nat) (c : Int) : LN := if n ≤ p then TL.tl "never" else if c / 4 % 3 = 1 then qN (n - 1) else if c / 4 % 3 = 2 then TL.tl "zz9" else TL.tl "never"
theorem nm_never : Nm (TL.tl "never") := nm_of (by decide +kernel)
theorem nm_zz : Nm (TL.tl "zz9") := nm_of (by decide +kernel)
theorem not_q {x : LN} (h : x.head? ≠ some 113) (i : Nat) : x ≠ qN i := fun e => h (by rw [e]; rfl)
theorem nm35_ok {n p : Nat} {c : Int} (hn : n ≤ 30) : Nm (nm35 n p c) ∧ ∀ i, i < p → i < n → p ≤ n → nm35 n p c ≠ qN i := by
  unfold nm35
  split
  · exact ⟨nm_never, fun i _ _ _ => not_q (by decide +kernel) i⟩
  · rename_i h
    split
    · exact ⟨nm_q (by omega), fun i h1 h2 h3 e => by have := q_inj (by omega) (by omega) e; omega⟩
    · split
      · exact ⟨nm_zz, fun i _ _ _ => not_q (by decide +kernel) i⟩
      · exact ⟨nm_never, fun i _ _ _ => not_q (by decide +kernel) i⟩
def out35 (c : Int) : PySem.Str := if c % 3 = 0 then "place " ++ toS (64 + c / 3 % 9936) else if c % 3 = 1 then "place 0-" ++ toS (1 + c / 3 % 9999) else "place 63+" ++ toS (1 + c / 3 % 99) ++ ";"
theorem pieces_sc {l : LN} (h : 59 ∉ l) : piecesL (l ++ [59]) = piecesL l := by
  have key : ∀ l : LN, 59 ∉ l → (cutAt 59 (l ++ [59])).headD [] = l ∧ (cutAt 59 l).headD [] = l := by
    intro l
    induction l with
    | nil => intro _; exact ⟨by decide, by decide⟩
    | cons x r ih =>
      intro h
      obtain ⟨h1, h2⟩ := ih (fun z => h (List.mem_cons_of_mem _ z))
      have hx : x ≠ 59 := fun e => h (by rw [e]; exact List.mem_cons_self)
      refine ⟨?_, ?_⟩
      · rw [List.cons_append, cutAt, if_neg hx]
        cases z : cutAt 59 (r ++ [59]) with
        | nil => exact absurd z (cutAt_ne _ _)
        | cons a b => rw [z] at h1; rw [← h1]; rfl
      · rw [cutAt, if_neg hx]
        cases z : cutAt 59 r with
        | nil => exact absurd z (cutAt_ne _ _)
        | cons a b => rw [z] at h2; rw [← h2]; rfl
  unfold piecesL
  rw [(key l h).1, (key l h).2]
theorem out35_ok (c : Int) : (∀ ls a j, goneStep (TL.tl (out35 c)) ls a j = .error (.bounds, j)) ∧ 10 ∉ TL.tl (out35 c) ∧ (TL.tl (out35 c)).length ≤ 60 := by
  unfold out35
  split
  · generalize hv : 64 + c / 3 % 9936 = v
    have v0 : 64 ≤ v := by omega
    have v1 : v < 10000 := by omega
    refine ⟨fun ls a j => ?_, nl_num (by decide +kernel) (by decide +kernel) (by omega) v1⟩
    rw [tl_num, show TL.tl "place " = placeL ++ [32] by decide +kernel, List.append_assoc]
    exact step_po (read_place' (terms_n (by omega) v1) (numT_ne (by omega)) (num_free (by omega) (.inl (by decide))) (num_free (by omega) (.inr (by decide)))) (by rw [amt_cons (num_big (by omega) v1).1 (num_big (by omega) v1).2, amountL]) (.inr (by omega)) j
  split
  · generalize hv : 1 + c / 3 % 9999 = v
    have v0 : 1 ≤ v := by omega
    have v1 : v < 10000 := by omega
    refine ⟨fun ls a j => ?_, nl_num (by decide +kernel) (by decide +kernel) (by omega) v1⟩
    rw [tl_num, show TL.tl "place 0-" = placeL ++ [32, 48, 45] by decide +kernel, List.append_assoc]
    exact step_po (v := 0 + 1 * 0 + -1 * v) (read_place' (w := [48] ++ 45 :: numT v) (terms_sub (t := [48]) (tm_num (by decide +kernel)) (by omega) v1) (by simp) (no_sub (by decide) (by decide) (num_free (by omega) (.inl (by decide)))) (no_sub (by decide) (by decide) (num_free (by omega) (.inr (by decide))))) (by rw [amt_cons (v := 0) (by decide +kernel) (by decide +kernel), amt_cons (num_big (by omega) v1).1 (num_big (by omega) v1).2, amountL]) (.inl (by omega)) j
  · generalize hv : 1 + c / 3 % 99 = v
    have v0 : 1 ≤ v := by omega
    have v1 : v < 100 := by omega
    obtain ⟨n1, n2⟩ := nl_num (s := "place 63+") (n := v) (by decide +kernel) (by decide +kernel) (by omega) (by omega)
    have e : TL.tl ("place 63+" ++ toS v ++ ";") = TL.tl ("place 63+" ++ toS v) ++ [59] := by rw [TL.tl_append]; rfl
    have ll := numT_len (k := 4) (n := v) (by omega) (by decide) (by show v < (10000 : Int); omega)
    refine ⟨fun ls a j => ?_, ?_, ?_⟩
    · have h2 : 59 ∉ TL.tl ("place 63+" ++ toS v) := by
        rw [tl_num]
        exact fun z => (List.mem_append.mp z).elim (fun z => absurd z (by decide +kernel)) (num_free (by omega) (.inr (by decide)))
      have hp : readL (TL.tl ("place 63+" ++ toS v ++ ";")) = readL (placeL ++ 32 :: ([54, 51] ++ 43 :: numT v)) := by
        rw [e]
        unfold readL
        rw [pieces_sc h2, tl_num, show TL.tl "place 63+" = placeL ++ [32, 54, 51, 43] by decide +kernel, List.append_assoc]; rfl
      have no : ∀ {c : Nat}, c ≠ 54 → c ≠ 51 → c ≠ 43 → c ∉ numT v → c ∉ [54, 51] ++ 43 :: numT v := fun h1 h2 h3 h4 z => by
        rcases List.mem_append.mp z with z | z
        · simp at z; omega
        · exact (List.mem_cons.mp z).elim h3 h4
      have ht : termsL ([54, 51] ++ 43 :: numT v) = some [(1, [54, 51]), (1, numT v)] := by
        unfold termsL
        rw [termsG_op (t := [54, 51]) (tm_num (by decide +kernel)) 1 (.inl rfl), if_neg (by decide), termsG_one (tm_n (by omega) (by omega))]; rfl
      refine step_po (v := 0 + 1 * 63 + 1 * v) (hp.trans (read_place' (w := [54, 51] ++ 43 :: numT v) ht (by simp) (no (by decide) (by decide) (by decide) (num_free (by omega) (.inl (by decide)))) (no (by decide) (by decide) (by decide) (num_free (by omega) (.inr (by decide)))))) ?_ (.inr (by omega)) j
      rw [amt_cons (v := 63) (by decide +kernel) (by decide +kernel), amt_cons (num_big (by omega) (by omega)).1 (num_big (by omega) (by omega)).2, amountL]
    · rw [e]
      exact fun z => (List.mem_append.mp z).elim n1 (fun z => absurd z (by decide))
    · rw [e, tl_num, List.length_append, List.length_append, show (TL.tl "place 63+").length = 9 by decide +kernel]
      simp; omega
/-! ### k35: the whole text -/
def jx (gs : List Int) (c : Int) : Nat := (c / 4 % (gs.length : Int)).toNat
def put35 (gs : List Int) (p : Nat) (c : Int) : List LN × Er × Nat :=
  if c % 4 = 0 ∧ 0 < gs.length then (insL (qLs 0 gs) p (qLn (jx gs c) add1), .twice, (if p ≤ jx gs c then jx gs c + 1 else p) + 1)
  else if c % 4 = 1 then (insL (qLs 0 gs) p (placeL ++ 32 :: nm35 gs.length p c), .name, p + 1)
  else if c % 4 = 2 then (qLs 0 gs ++ (List.range' 0 65).map wdL, .bounds, 65)
  else (insL (qLs 0 gs) p (TL.tl (out35 (c / 4))), .bounds, p + 1)
theorem put35_ok {gs : List Int} {p a0 : Nat} (c : Int) {pre : List LN} (hg : ∀ n ∈ gs, 0 ≤ n ∧ n < 1024) (hn : gs.length ≤ 30) (hp : p ≤ gs.length) (hpre : RunQ [] 0 pre [] (a0 : Int)) (hl : pre.length = a0) (ha : a0 ≤ 1) (nl : ∀ l ∈ pre ++ (put35 gs p c).1, 10 ∉ l) :
    assembledL (TL.joinL [10] (pre ++ (put35 gs p c).1)) = .error ((put35 gs p c).2.1, if 64 < (put35 gs p c).1.length then 65 else a0 + (put35 gs p c).2.2) := by
  have g1 : ∀ n ∈ gs.take p, 0 ≤ n ∧ n < 1024 := fun n hn => hg n (List.mem_of_mem_take hn)
  have g2 : ∀ n ∈ gs.drop p, 0 ≤ n ∧ n < 1024 := fun n hn => hg n (List.mem_of_mem_drop hn)
  have lt : (gs.take p).length = p := by rw [List.length_take]; omega
  obtain ⟨ls1, R1, ch⟩ := run_q (gs.take p) 0 (a0 : Int) [] g1 (fun _ _ _ => rfl) (by omega) (by rw [lt]; omega) (by rw [lt]; omega)
  rw [lt] at R1 ch
  have R1 := hpre.app R1
  have il : ∀ b, (insL (qLs 0 gs) p b).length = gs.length + 1 := fun b => by rw [insL_len (by rw [qLs_len]; exact hp), qLs_len]
  unfold put35 at nl ⊢
  by_cases c0 : c % 4 = 0 ∧ 0 < gs.length
  · rw [if_pos c0] at nl ⊢
    dsimp only at nl ⊢
    rw [il, if_neg (by omega)]
    have j1 : jx gs c < gs.length := by
      unfold jx
      have q0 := Int.emod_nonneg (c / 4) (show (gs.length : Int) ≠ 0 by omega)
      have q1 := Int.emod_lt_of_pos (c / 4) (show (0 : Int) < (gs.length : Int) by omega)
      omega
    generalize jx gs c = j at nl j1 ⊢
    by_cases cj : p ≤ j
    · rw [if_pos cj]
      have hd : (gs.drop p) = (gs.drop p).take (j - p) ++ (gs.drop j) := by
        have := List.take_append_drop (j - p) (gs.drop p)
        rw [List.drop_drop, show p + (j - p) = j by omega] at this
        exact this.symm
      obtain ⟨m, g3, hm⟩ : ∃ m g3, gs.drop j = m :: g3 := by
        cases z : gs.drop j with
        | nil => have := congrArg List.length z; rw [List.length_drop, List.length_nil] at this; omega
        | cons m g3 => exact ⟨m, g3, rfl⟩
      have l2 : ((gs.drop p).take (j - p)).length = j - p := by rw [List.length_take, List.length_drop]; omega
      have m01 := hg m (List.mem_of_mem_drop (by rw [hm]; exact List.mem_cons_self))
      have f1 : labGet ls1 (qN j) = none := (ch _).mpr ⟨rfl, fun i _ h e => by have := q_inj (by omega) (by omega) e; omega⟩
      obtain ⟨ls3, R3, ch3⟩ := run_q ((gs.drop p).take (j - p)) p ((a0 : Int) + p + 1) (ls1 ++ [(qN j, (a0 : Int) + p)]) (fun n hn => g2 n (List.mem_of_mem_take hn)) (fun i i1 i2 => (labGet_app _ _ _ _).mpr ⟨(ch _).mpr ⟨rfl, fun u _ h e => by have := q_inj (by omega) (by omega) e; omega⟩, fun e => by have := q_inj (by omega) (by omega) e; omega⟩) (by omega) (by rw [l2]; omega) (by rw [l2]; omega)
      have R2 : RunQ ls1 ((a0 : Int) + p) [qLn j add1] (ls1 ++ [(qN j, (a0 : Int) + p)]) ((a0 : Int) + p + 1) := ⟨_, _, _, fun k => step_q (by omega) (by decide) (by decide) f1 (by omega) (by omega) k, rfl, rfl⟩
      have eL : pre ++ insL (qLs 0 gs) p (qLn j add1) = (((pre ++ qLs 0 (gs.take p)) ++ [qLn j add1]) ++ qLs p ((gs.drop p).take (j - p))) ++ qLn j m :: qLs (j + 1) g3 := by
        rw [ins_q gs hp]
        conv => lhs; rw [hd]
        rw [qLs_app, l2, show p + (j - p) = j by omega, hm, qLs]
        simp
      rw [goneL_err eL ((R1.app R2).app R3) (fun k => step_tw (by omega) m01.1 m01.2 (fun z => ((labGet_app _ _ _ _).mp ((ch3 _).mp z).1).2 rfl) k) nl]
      simp only [List.length_append, qLs_len, List.length_singleton, lt, l2, hl]
      rw [show a0 + p + 1 + (j - p) + 1 = a0 + (j + 1 + 1) by omega]
    · rw [if_neg cj]
      have eL : pre ++ insL (qLs 0 gs) p (qLn j add1) = (pre ++ qLs 0 (gs.take p)) ++ qLn j add1 :: qLs p (gs.drop p) := by rw [ins_q gs hp, List.append_assoc]
      rw [goneL_err eL R1 (fun k => step_tw (by omega) (by decide) (by decide) (fun z => ((ch _).mp z).2 j (by omega) (by omega) rfl) k) nl]
      simp only [List.length_append, qLs_len, lt, hl]
      rw [show a0 + p + 1 = a0 + (p + 1) by omega]
  rw [if_neg c0] at nl ⊢
  by_cases c1 : c % 4 = 1
  · rw [if_pos c1] at nl ⊢
    dsimp only at nl ⊢
    rw [il, if_neg (by omega)]
    obtain ⟨nm, nq⟩ := nm35_ok (n := gs.length) (p := p) (c := c) hn
    have eL : pre ++ insL (qLs 0 gs) p (placeL ++ 32 :: nm35 gs.length p c) = (pre ++ qLs 0 (gs.take p)) ++ (placeL ++ 32 :: nm35 gs.length p c) :: qLs p (gs.drop p) := by rw [ins_q gs hp, List.append_assoc]
    rw [goneL_err eL R1 (fun k => step_pn nm ((ch _).mpr ⟨rfl, fun i _ h => nq i (by omega) (by omega) hp⟩) k) nl]
    simp only [List.length_append, qLs_len, lt, hl]
    rw [show a0 + p + 1 = a0 + (p + 1) by omega]
  rw [if_neg c1] at nl ⊢
  by_cases c2 : c % 4 = 2
  · rw [if_pos c2] at nl ⊢
    dsimp only at nl ⊢
    rw [List.length_append, qLs_len, List.length_map, List.length_range', if_pos (by omega)]
    obtain ⟨ls9, R9, _⟩ := run_q gs 0 (a0 : Int) [] hg (fun _ _ _ => rfl) (by omega) (by omega) (by omega)
    obtain ⟨t, ht⟩ : ∃ t, t + (a0 + gs.length) = 64 := ⟨64 - (a0 + gs.length), by omega⟩
    have RW := run_wd t 0 ls9 ((a0 : Int) + gs.length) (by omega) (by omega) (by omega)
    have e64 : (a0 : Int) + gs.length + t = 64 := by omega
    rw [e64] at RW
    have eL : pre ++ (qLs 0 gs ++ (List.range' 0 65).map wdL) = ((pre ++ qLs 0 gs) ++ (List.range' 0 t).map wdL) ++ wdL t :: (List.range' (t + 1) (64 - t)).map wdL := by
      have e : List.range' 0 65 = List.range' 0 t ++ t :: List.range' (t + 1) (64 - t) := by
        have h := @List.range'_append 0 t (65 - t) 1
        rw [show t + (65 - t) = 65 by omega] at h
        rw [← h, show 0 + 1 * t = t by omega, show 65 - t = (64 - t) + 1 by omega, List.range'_succ]
      rw [e]
      simp
    rw [goneL_err eL ((hpre.app R9).app RW) (fun k => step_wdE (by omega) k) nl]
    simp only [List.length_append, qLs_len, List.length_map, List.length_range', hl]
    rw [show a0 + gs.length + t + 1 = 65 by omega]
  rw [if_neg c2] at nl ⊢
  dsimp only at nl ⊢
  rw [il, if_neg (by omega)]
  have eL : pre ++ insL (qLs 0 gs) p (TL.tl (out35 (c / 4))) = (pre ++ qLs 0 (gs.take p)) ++ TL.tl (out35 (c / 4)) :: qLs p (gs.drop p) := by rw [ins_q gs hp, List.append_assoc]
  rw [goneL_err eL R1 (fun k => (out35_ok (c / 4)).1 _ _ k) nl]
  simp only [List.length_append, qLs_len, lt, hl]
  rw [show a0 + p + 1 = a0 + (p + 1) by omega]
/-! ### k35: small lines, what the law's own defs promise -/
theorem qN_sm {k : Nat} (h : k < 70) : 10 ∉ qN k ∧ (qN k).length ≤ 6 := by
  have a := List.all_eq_true.mp qs_ok k (List.mem_range.mpr h)
  unfold qOk at a
  rw [Bool.and_eq_true, Bool.and_eq_true] at a
  exact ⟨of_decide_eq_false (by simpa only [Bool.not_eq_true'] using a.2.1), of_decide_eq_true a.2.2⟩
theorem qLn_sm {k : Nat} {n : Int} (hk : k < 70) (h0 : 0 ≤ n) (h1 : n < 1024) : 10 ∉ qLn k n ∧ (qLn k n).length ≤ 60 := by
  obtain ⟨a1, a2⟩ := qN_sm hk
  have b1 := (lnN_ok h0 h1).1
  have b2 : (lnN n).length ≤ 50 := by
    have := lineS_len h0 h1
    rw [TL.len_tl] at this
    exact this
  unfold qLn
  refine ⟨fun z => ?_, ?_⟩
  · rcases List.mem_append.mp z with z | z
    · rcases List.mem_append.mp z with z | z
      · exact a1 z
      · exact absurd (List.mem_singleton.mp z) (by decide)
    · exact (List.mem_cons.mp z).elim (by decide) b1
  · simp only [List.length_append, List.length_cons, List.length_nil]; omega
theorem qLs_sm : ∀ {gs : List Int} {k : Nat}, (∀ n ∈ gs, 0 ≤ n ∧ n < 1024) → k + gs.length ≤ 69 → ∀ l ∈ qLs k gs, 10 ∉ l ∧ l.length ≤ 60
  | [], _, _, _, l, hl => by cases hl
  | n :: r, k, h, hk, l, hl => by
    rw [List.length_cons] at hk
    rw [qLs] at hl
    rcases List.mem_cons.mp hl with e | hl
    · rw [e]
      exact qLn_sm (by omega) (h n List.mem_cons_self).1 (h n List.mem_cons_self).2
    · exact qLs_sm (fun m hm => h m (List.mem_cons_of_mem _ hm)) (by omega) l hl
theorem wdL_sm {k : Nat} (h : k < 1000) : 10 ∉ wdL k ∧ (wdL k).length ≤ 60 := nl_num (s := "word ") (n := (k : Int)) (by decide +kernel) (by decide +kernel) (by omega) (by omega)
theorem nm35_sm {n p : Nat} {c : Int} (hn : n ≤ 30) : 10 ∉ placeL ++ 32 :: nm35 n p c ∧ (placeL ++ 32 :: nm35 n p c).length ≤ 60 := by
  have key : ∀ x : LN, 10 ∉ x → x.length ≤ 6 → 10 ∉ placeL ++ 32 :: x ∧ (placeL ++ 32 :: x).length ≤ 60 := fun x h1 h2 => by
    have pl : 10 ∉ placeL ∧ placeL.length ≤ 10 := by decide +kernel
    refine ⟨fun z => ?_, ?_⟩
    · rcases List.mem_append.mp z with z | z
      · exact pl.1 z
      · exact (List.mem_cons.mp z).elim (by decide) h1
    · rw [List.length_append, List.length_cons]
      have := pl.2
      omega
  unfold nm35
  split
  · exact key _ (by decide +kernel) (by decide +kernel)
  split
  · exact key _ (qN_sm (by omega)).1 (qN_sm (by omega)).2
  split
  · exact key _ (by decide +kernel) (by decide +kernel)
  · exact key _ (by decide +kernel) (by decide +kernel)
theorem jx_lt {gs : List Int} {c : Int} (h : 0 < gs.length) : jx gs c < gs.length ∧ c / 4 % (gs.length : Int) = (jx gs c : Nat) := by
  unfold jx
  have q0 := Int.emod_nonneg (c / 4) (show (gs.length : Int) ≠ 0 by omega)
  have q1 := Int.emod_lt_of_pos (c / 4) (show (0 : Int) < (gs.length : Int) by omega)
  omega
/-- the text that comes of it -/
structure Put35 (q : List LN × Er × Nat) : Prop where
  sm : LnsOk q.1 96
  ln : (64 < q.1.length ∧ q.2.1 = .bounds ∧ q.2.2 = 65) ∨ q.1.length ≤ 31
  as0 : assembledL (TL.joinL [10] q.1) = .error (q.2.1, q.2.2)
  as1 : ∀ s ∈ preS, assembledL (TL.joinL [10] (TL.tl s :: q.1)) = .error (q.2.1, if 64 < q.1.length then 65 else q.2.2 + 1)
theorem preS_sm : ∀ s ∈ preS, 10 ∉ TL.tl s ∧ (TL.tl s).length ≤ 60 := by
  intro s hs
  have key : (preS.all fun s => !decide (10 ∈ TL.tl s) && decide ((TL.tl s).length ≤ 60)) = true := by decide +kernel
  have := List.all_eq_true.mp key s hs
  rw [Bool.and_eq_true] at this
  exact ⟨of_decide_eq_false (by simpa only [Bool.not_eq_true'] using this.1), of_decide_eq_true this.2⟩
theorem put35_in {gs : List Int} {p : Nat} (c : Int) (hg : ∀ n ∈ gs, 0 ≤ n ∧ n < 1024) (hn : gs.length ≤ 30) (hp : p ≤ gs.length) : Put35 (put35 gs p c) := by
  have q0 : LnsOk (qLs 0 gs) 30 := ⟨by rw [qLs_len]; exact hn, qLs_sm hg (by omega)⟩
  have hp' : p ≤ (qLs 0 gs).length := by rw [qLs_len]; exact hp
  have il : ∀ b, (insL (qLs 0 gs) p b).length = gs.length + 1 := fun b => by rw [insL_len hp', qLs_len]
  have ins : ∀ b : LN, 10 ∉ b ∧ b.length ≤ 60 → LnsOk (insL (qLs 0 gs) p b) 96 := fun b hb => ⟨by rw [il]; omega, (lnsOk_ins q0 hp' hb).2⟩
  have both : LnsOk (put35 gs p c).1 96 ∧ ((64 < (put35 gs p c).1.length ∧ (put35 gs p c).2.1 = .bounds ∧ (put35 gs p c).2.2 = 65) ∨ (put35 gs p c).1.length ≤ 31) := by
    unfold put35
    by_cases c0 : c % 4 = 0 ∧ 0 < gs.length
    · rw [if_pos c0]
      have j := jx_lt (c := c) c0.2
      exact ⟨ins _ (qLn_sm (by omega) (by decide) (by decide)), .inr (by dsimp only; rw [il]; omega)⟩
    rw [if_neg c0]
    by_cases c1 : c % 4 = 1
    · rw [if_pos c1]
      exact ⟨ins _ (nm35_sm hn), .inr (by dsimp only; rw [il]; omega)⟩
    rw [if_neg c1]
    by_cases c2 : c % 4 = 2
    · rw [if_pos c2]
      have ll : (qLs 0 gs ++ (List.range' 0 65).map wdL).length = gs.length + 65 := by rw [List.length_append, qLs_len, List.length_map, List.length_range']
      refine ⟨⟨by dsimp only; omega, fun l hl => ?_⟩, .inl ⟨by dsimp only; omega, rfl, rfl⟩⟩
      rcases List.mem_append.mp hl with hl | hl
      · exact q0.2 l hl
      · obtain ⟨k, hk, rfl⟩ := List.mem_map.mp hl
        have := List.mem_range'.mp hk
        exact wdL_sm (by omega)
    · rw [if_neg c2]
      exact ⟨ins _ (out35_ok (c / 4)).2, .inr (by dsimp only; rw [il]; omega)⟩
  obtain ⟨sm, ln⟩ := both
  refine ⟨sm, ln, ?_, fun s hs => ?_⟩
  · have h := put35_ok (a0 := 0) (pre := []) c hg hn hp ⟨rfl, rfl⟩ rfl (by omega) (fun l hl => (sm.2 l hl).1)
    rw [List.nil_append] at h
    rw [h]
    rcases ln with ⟨l1, l2, l3⟩ | l1
    · rw [if_pos l1, l3]
    · rw [if_neg (by omega), Nat.zero_add]
  · have h := put35_ok (a0 := 1) (pre := [TL.tl s]) c hg hn hp (run_pre hs) rfl (by omega) (fun l hl => by
      rcases List.mem_append.mp hl with hl | hl
      · rw [List.mem_singleton.mp hl]; exact (preS_sm s hs).1
      · exact (sm.2 l hl).1)
    rw [List.singleton_append] at h
    rw [h, Nat.add_comm 1]
/-! the texts as they are written -/
theorem qLn_str {k : Nat} {n : Int} : PyData.str ((("q" ++ toS (k : Int)) ++ ": ") ++ lineS n) = lnD (qLn k n) := by
  unfold lnD
  congr 1
  rw [← oL_tl ((("q" ++ toS (k : Int)) ++ ": ") ++ lineS n), TL.tl_append, TL.tl_append, tl_num]
  have e1 : TL.tl "q" = [113] := by decide +kernel
  have e2 : TL.tl ": " = [58, 32] := by decide +kernel
  rw [e1, e2]
  unfold qLn qN
  congr 1
  show [113] ++ numT (k : Int) ++ [58, 32] ++ TL.tl (lineS n) = (113 :: numT (k : Int) ++ [58]) ++ 32 :: lnN n
  unfold lnN
  simp
theorem add1_str {k : Nat} : PyData.str (("q" ++ toS (k : Int)) ++ ": add 1") = lnD (qLn k add1) := by
  unfold lnD
  congr 1
  rw [← oL_tl (("q" ++ toS (k : Int)) ++ ": add 1"), TL.tl_append, tl_num]
  have e1 : TL.tl "q" = [113] := by decide +kernel
  have e2 : TL.tl ": add 1" = 58 :: 32 :: lnN add1 := by decide +kernel
  rw [e1, e2]
  unfold qLn qN
  congr 1
  simp
theorem wdL_str {k : Nat} : PyData.str ("word " ++ toS (k : Int)) = lnD (wdL k) := by
  unfold lnD wdL
  rw [oL_tl]
def nmS35 (n : Nat) (c : Int) : PySem.Str := (["never", "q" ++ toS ((n : Int) - 1), "zz9"] : List PySem.Str).getD (c / 4 % 3).toNat Str.empty
def pickN (n p : Nat) (c : Int) : PySem.Str := if n ≤ p then "never" else nmS35 n c
theorem qm1_ok : ((List.range 31).all fun (n : Nat) => !decide (("q" ++ toS (n : Int) : PySem.Str) = "q-1")) = true := by decide +kernel
theorem nmS_no {n : Nat} {c : Int} (h0 : 0 < n) (hn : n ≤ 30) : nmS35 n c ≠ "q-1" := by
  unfold nmS35
  have hc : (c / 4 % 3).toNat = 0 ∨ (c / 4 % 3).toNat = 1 ∨ (c / 4 % 3).toNat = 2 := by omega
  rcases hc with e | e | e
  · rw [e]; show ("never" : PySem.Str) ≠ "q-1"; decide +kernel
  · rw [e]
    show ("q" ++ toS ((n : Int) - 1) : PySem.Str) ≠ "q-1"
    have := List.all_eq_true.mp qm1_ok (n - 1) (List.mem_range.mpr (by omega))
    rw [show ((n - 1 : Nat) : Int) = (n : Int) - 1 by omega] at this
    exact of_decide_eq_false (by simpa only [Bool.not_eq_true'] using this)
  · rw [e]; show ("zz9" : PySem.Str) ≠ "q-1"; decide +kernel
theorem pickN_tl {n p : Nat} {c : Int} : TL.tl (pickN n p c) = nm35 n p c := by
  unfold pickN nm35
  by_cases h : n ≤ p
  · rw [if_pos h, if_pos h]
  rw [if_neg h, if_neg h]
  unfold nmS35
  have hc : c / 4 % 3 = 0 ∨ c / 4 % 3 = 1 ∨ c / 4 % 3 = 2 := by omega
  rcases hc with e | e | e
  · rw [e, if_neg (by decide), if_neg (by decide)]; rfl
  · rw [e, if_pos rfl]
    show TL.tl ("q" ++ toS ((n : Int) - 1)) = qN (n - 1)
    rw [tl_num, show TL.tl "q" = [113] by decide +kernel, show (n : Int) - 1 = ((n - 1 : Nat) : Int) by omega]; rfl
  · rw [e, if_neg (by decide), if_pos rfl]; rfl
theorem pick_str {n p : Nat} {c : Int} : PyData.str ("place " ++ pickN n p c) = lnD (placeL ++ 32 :: nm35 n p c) := by
  unfold lnD
  congr 1
  rw [← oL_tl ("place " ++ pickN n p c), TL.tl_append, pickN_tl, show TL.tl "place " = placeL ++ [32] by decide +kernel, List.append_assoc]; rfl
theorem nmS_len {n : Nat} {c : Int} (hn : n ≤ 30) : (nmS35 n c).length ≤ 20 := by
  unfold nmS35
  have hc : (c / 4 % 3).toNat = 0 ∨ (c / 4 % 3).toNat = 1 ∨ (c / 4 % 3).toNat = 2 := by omega
  rcases hc with e | e | e
  · rw [e]; show ("never" : PySem.Str).length ≤ 20; decide +kernel
  · rw [e]
    show ("q" ++ toS ((n : Int) - 1) : PySem.Str).length ≤ 20
    by_cases h : n = 0
    · rw [h]; decide +kernel
    · have h2 := toS_len (i := (n : Int) - 1) (k := 4) (by omega) (by decide) (by show (n : Int) - 1 < (10000 : Int); omega)
      have h3 : ("q" : PySem.Str).length ≤ 1 := by decide +kernel
      rw [len_app]; omega
  · rw [e]; show ("zz9" : PySem.Str).length ≤ 20; decide +kernel
theorem pickN_len {n p : Nat} {c : Int} (hn : n ≤ 30) : (pickN n p c).length ≤ 20 := by
  unfold pickN
  split
  · show ("never" : PySem.Str).length ≤ 20; decide +kernel
  · exact nmS_len hn
theorem fE_q : ∀ (as : List Int) (k : Nat), fE (fun _ _ => true) (fun i (c : Int) => lnD (qLn i (c % 1024))) k as = (qLs k (as.map fun c => c % 1024)).map lnD
  | [], _ => rfl
  | a :: r, k => by
    rw [fE, if_pos rfl, fE_q r (k + 1)]; rfl
/-! promises -/
def preOut35 (vs : List V) (_ : Hp) (_ : FS) (_ : Hp → Prop) (d : PyData) : Prop := ∃ c : Int, vs = [.int c] ∧ d = .str (out35 c)
def spPut35 (K : PySem.W.Frag) : Sp := fun vs H Q _ => ∃ (F : FS) (W : Hp → Prop) (D : Addr) (gs : List Int) (p : Nat) (c : Int) (H0 : Hp), vs = [.ref D, .int (p : Nat), .int c] ∧ Wo F W ∧ Own K H0 F W D H ((qLs 0 gs).map lnD) ∧ gs.length ≤ 30 ∧ p ≤ gs.length ∧
  ∀ v H', Own K H0 F W D H' ((put35 gs p c).1.map lnD) → Da K H' (withF F D) v (dueD (put35 gs p c).2.1 (put35 gs p c).2.2) → Q v H'
section
variable {K : PySem.W.Frag} {H H0 H9 : Hp} {F : FS} {W : Hp → Prop} {σ : L2.St} {to ti ta : TE} {D : Addr} {ds : List PyData} {d d0 : PyData} {i n : Int} {vf : V} {s : PySem.Str}
/-- insert, with what stays beside -/
theorem x_own_insM {Q : VK} (wo : Wo F W) (ow : Own K H0 F W D H ds) (ho : Val to σ H (.ref D)) (hi : Val ti σ H (.int i)) (i0 : 0 ≤ i) (i1 : i < 100000) (he : Dv K (withF F D) (fun H1 => W H1 ∧ H1 D = H D) ta σ H d) (hn : ds.length < 100000) (q : ∀ H', Own K H0 F W D H' (ds.take i.toNat ++ [d] ++ ds.drop i.toNat) → Mv (withF F D) H (withF F D) H' → Q .non H') : tBM K "list" rIns to (tCons ti (tCons ta tNil)) σ H Q := by
  obtain ⟨o1, w1⟩ := ow.tn wo
  obtain ⟨vs, h1, h2⟩ := ow.ow
  refine ho _ ⟨ty_list h1, hi _ (x_d he o1 fun v H1 m o hv => ⟨D, vs, i, v, rfl, rfl, by rw [o.w.2]; exact h1, lt_line (by rw [h2.len]; omega), i0, by omega, ?_⟩)⟩
  have mU : Mv (withF F D) H1 (withF F D) (upd H1 D (.lst (vs.take i.toNat ++ [v] ++ vs.drop i.toNat))) := ⟨fun b o nb e => by rw [upd_ne (fun q => nb (.inr q))]; exact e, fun _ f => .inl f⟩
  refine q _ ⟨ow.fr, ow.no, ⟨fun b o nb e => ?_, fun b f => .inl f⟩, ⟨fun b f => ?_, wo.loc _ _ (fun b o f e => by rw [upd_ne (fun q => ow.no (by rw [← q]; exact f))]; exact e) (.upd (o.w.2.trans h1)) o.w.1⟩, _, upd_same, ((((h2.mv m).take i.toNat).app (.cons hv .nil)).app ((h2.mv m).drop i.toNat)).mv mU⟩ (m.trans mU)
  · have nD : b ≠ D := fun q => by rw [q, ow.fr] at e; cases e
    rw [upd_ne nD]
    exact m.keep b o (fun f => f.elim nb nD) (ow.mv.keep b o nb e)
  · rw [upd_ne (fun q => ow.no (by rw [← q]; exact f))]
    exact o.fa b (.inl f)
/-- the list's length, whether it is empty -/
theorem v_lenO {xs : List V} (h : H9 D = some (.lst xs)) (ho : Val to σ H9 (.ref D)) : Val (tCB (rLenQ K) (tCons to tNil)) σ H9 (.int (xs.length : Int)) := v_cb (va_cons ho va_nil) fun _ q => ⟨_, _, rfl, .inl (SqL.of h), q⟩
theorem a_own (ow : Own K H0 F W D H ds) (ho : Val to σ H (.ref D)) : Ans (fun σ H Q => to σ H fun x H' => ∃ k, TruV K x H' k ∧ Q k H') σ H (decide (0 < ds.length)) := by
  obtain ⟨vs, h1, h2⟩ := ow.at_
  exact a_tru ho (.inl ⟨vs, SqL.of h1, by rw [← h2]; cases vs <;> simp⟩)
theorem v_pr1 (hf : Da K H F vf (.tuple [d0, .int n])) (h : Val ta σ H vf) : Val (tOp (rIxT K) ta (tC (.int 1))) σ H (.int n) := by
  obtain ⟨T, w1, w2, rfl, hT, z1, z2⟩ := da_pair hf
  cases z2
  exact v_ixT h v_c hT (by decide) rfl
theorem v_pr0 (hf : Da K H F vf (.tuple [.str s, d0])) (h : Val ta σ H vf) : Val (tOp (rIxT K) ta (tC (.int 0))) σ H (.str s) := by
  obtain ⟨T, w1, w2, rfl, hT, z1, z2⟩ := da_pair hf
  cases z1
  exact v_ixT h v_c hT (by decide) rfl
end
theorem erW_bd (er : Er) : decide (erW er = ("bounds" : PySem.Str)) = decide (er = .bounds) := by cases er <;> decide +kernel
section
variable {P : Program} {w : World} {K : PySem.W.Frag} {mg : Str → Option Value} {base : Heap}

theorem sc_law_kinds : FnScope [] [] (defScope s_law_kinds) := ⟨rfl, rfl, rfl, by decide +kernel, rfl, by decide +kernel, by decide +kernel⟩
theorem cal_law_kinds (T : Tx K mg) : Cal P w K mg base 1 "_law_kinds" [] (spDN K (preStrs kindsS)) := by
  refine cal_mk T 17 17 rfl rfl sc_law_kinds (fun _ _ _ _ _ _ us hl => match us, hl with | [], _ => rfl) (fun vs H Q E h => ?_) (fun f cdv A outer s H vs Q E hr h => ?_)
  · obtain ⟨F, W, ds, wo, ok, ⟨rfl, rfl⟩, k⟩ := h
    rfl
  · obtain ⟨F, W, ds, wo, ok, ⟨rfl, rfl⟩, k⟩ := h
    refine ⟨_, (pss_one (ps_ret (pe_lst (pa_cons pe_str (pa_cons pe_str (pa_cons pe_str (pa_cons pe_str (pa_cons pe_str (pa_cons pe_str pa_nil))))))))), ?_⟩
    exact x_dn (K := K) (ds := strsD kindsS) (dn_lst wo (da_cons dv_s (da_cons dv_s (da_cons dv_s (da_cons dv_s (da_cons dv_s (da_cons dv_s da_nil)))))) (by decide)) ok .refl (fun D H' ow m => k D H' ow.fr ow.mv ow.ok ow.ow)

theorem sc_law_asks : FnScope [] [] (defScope s_law_asks) := ⟨rfl, rfl, rfl, by decide +kernel, rfl, by decide +kernel, by decide +kernel⟩
theorem cal_law_asks (T : Tx K mg) : Cal P w K mg base 1 "_law_asks" [] (spDN K (preStrs asksS)) := by
  refine cal_mk T 18 18 rfl rfl sc_law_asks (fun _ _ _ _ _ _ us hl => match us, hl with | [], _ => rfl) (fun vs H Q E h => ?_) (fun f cdv A outer s H vs Q E hr h => ?_)
  · obtain ⟨F, W, ds, wo, ok, ⟨rfl, rfl⟩, k⟩ := h
    rfl
  · obtain ⟨F, W, ds, wo, ok, ⟨rfl, rfl⟩, k⟩ := h
    refine ⟨_, (pss_one (ps_ret (pe_lst (pa_cons pe_str (pa_cons pe_str (pa_cons pe_str (pa_cons pe_str (pa_cons pe_str (pa_cons pe_str (pa_cons pe_str (pa_cons pe_str (pa_cons pe_str pa_nil)))))))))))), ?_⟩
    exact x_dn (K := K) (ds := strsD asksS) (dn_lst wo (da_cons dv_s (da_cons dv_s (da_cons dv_s (da_cons dv_s (da_cons dv_s (da_cons dv_s (da_cons dv_s (da_cons dv_s (da_cons dv_s da_nil))))))))) (by decide)) ok .refl (fun D H' ow m => k D H' ow.fr ow.mv ow.ok ow.ow)

theorem sc_law_changes : FnScope [] [] (defScope s_law_changes) := ⟨rfl, rfl, rfl, by decide +kernel, rfl, by decide +kernel, by decide +kernel⟩
theorem cal_law_changes (T : Tx K mg) : Cal P w K mg base 1 "_law_changes" [] (spDN K (preStrs chgS)) := by
  refine cal_mk T 20 20 rfl rfl sc_law_changes (fun _ _ _ _ _ _ us hl => match us, hl with | [], _ => rfl) (fun vs H Q E h => ?_) (fun f cdv A outer s H vs Q E hr h => ?_)
  · obtain ⟨F, W, ds, wo, ok, ⟨rfl, rfl⟩, k⟩ := h
    rfl
  · obtain ⟨F, W, ds, wo, ok, ⟨rfl, rfl⟩, k⟩ := h
    refine ⟨_, (pss_one (ps_ret (pe_lst (pa_cons pe_str (pa_cons pe_str (pa_cons pe_str (pa_cons pe_str (pa_cons pe_str (pa_cons pe_str pa_nil))))))))), ?_⟩
    exact x_dn (K := K) (ds := strsD chgS) (dn_lst wo (da_cons dv_s (da_cons dv_s (da_cons dv_s (da_cons dv_s (da_cons dv_s (da_cons dv_s da_nil)))))) (by decide)) ok .refl (fun D H' ow m => k D H' ow.fr ow.mv ow.ok ow.ow)

theorem sc_law_tests : FnScope [] [] (defScope s_law_tests) := ⟨rfl, rfl, rfl, by decide +kernel, rfl, by decide +kernel, by decide +kernel⟩
theorem cal_law_tests (T : Tx K mg) : Cal P w K mg base 1 "_law_tests" [] (spDN K (preStrs tstS)) := by
  refine cal_mk T 21 21 rfl rfl sc_law_tests (fun _ _ _ _ _ _ us hl => match us, hl with | [], _ => rfl) (fun vs H Q E h => ?_) (fun f cdv A outer s H vs Q E hr h => ?_)
  · obtain ⟨F, W, ds, wo, ok, ⟨rfl, rfl⟩, k⟩ := h
    rfl
  · obtain ⟨F, W, ds, wo, ok, ⟨rfl, rfl⟩, k⟩ := h
    refine ⟨_, (pss_one (ps_ret (pe_lst (pa_cons pe_str (pa_cons pe_str (pa_cons pe_str (pa_cons pe_str (pa_cons pe_str (pa_cons pe_str pa_nil))))))))), ?_⟩
    exact x_dn (K := K) (ds := strsD tstS) (dn_lst wo (da_cons dv_s (da_cons dv_s (da_cons dv_s (da_cons dv_s (da_cons dv_s (da_cons dv_s da_nil)))))) (by decide)) ok .refl (fun D H' ow m => k D H' ow.fr ow.mv ow.ok ow.ow)

theorem sc_law_named : FnScope ["_law_names", "_law_place", "_law_k", "_law_name"] ["_law_names", "_law_place"] (defScope s_law_named) := ⟨rfl, rfl, rfl, by decide +kernel, rfl, by decide +kernel, by decide +kernel⟩
theorem cal_law_named (T : Tx K mg) : Cal P w K mg base 1 "_law_named" ["_law_names", "_law_place"] (spDN K (preNamed K)) := by
  refine cal_mk T 19 19 rfl rfl sc_law_named (fun _ _ _ _ _ _ us hl => match us, hl with | [_, _], _ => rfl) (fun vs H Q E h => ?_) (fun f cdv A outer s H vs Q E hr h => ?_)
  · obtain ⟨F, W, ds, wo, ok, ⟨v, names, p, rfl, hv, hn, rfl⟩, k⟩ := h
    rfl
  · obtain ⟨F, W, ds, wo, ok, ⟨v, names, p, rfl, hv, hn, rfl⟩, k⟩ := h
    refine ⟨_, (pss_one (ps_ret (pe_lc (own := [("_law_k", 2), ("_law_name", 3)]) (g := gTup K 2 (gCons (gName 2) (gCons (gName 3) gNil)))  (by rfl) sc_law_named.nd (pi_enum (by rfl) (T.free 35) (pa_cons (pv 0) pa_nil)) (blkOk_by (own := [("_law_k", 2), ("_law_name", 3)]) (N := ["_law_names", "_law_place", "_law_k", "_law_name"]) (sc := defScope s_law_named) (by decide +kernel)) (fun _ _ _ _ _ => (pg_tup (by rfl) (pgs_cons (pg_name (i := 2) sc_law_named.nd rfl (Or.inl rfl)) (pgs_cons (pg_name (i := 3) sc_law_named.nd rfl (Or.inl rfl)) pgs_nil)))) (fun _ _ _ _ _ => (pts_one (pt_cmpR op_eq (pe_op op_mod (pe_op op_fdiv (pv 1) (pe_ix (r := rIxT K) ix_tup (pe_tup (pa_cons pe_int (pa_cons pe_int (pa_cons pe_int (pa_cons pe_int (pa_cons pe_int (pa_cons pe_int pa_nil))))))) (pv 2) (fun _ _ => rfl))) pe_int) pe_int (nomark _)))) (fun _ _ _ _ _ => (pv 3))))), ?_⟩
    exact x_dn (K := K) (ds := strsD (namedF p 0 names)) (show DvN K F W _ _ H _ from (fE_named (p := p) names 0) ▸ dn_lcEm names PyData.str (fun i _ => bitAt p i) (fun _ s => .str s) wo (da_cons (dv_var rfl hv) da_nil) (by omega) (fun _ _ => rfl) (fun i x a H1 F1 W1 tn hi hx => by
      have hlt := (List.getElem?_eq_some_iff.mp hi).1
      obtain ⟨w1, w2, w3⟩ := wts_in (i := i) (by omega)
      have hg : (intsL wtsV)[((i : Nat) : Int).toNat]? = some (.int (wtsV.getD i 1)) := by
        rw [Int.toNat_natCast]; unfold intsL
        have : i < wtsV.length := by show i < 6; omega
        rw [List.getElem?_map, List.getElem?_eq_getElem this]
        simp [List.getD_eq_getElem?_getD, List.getElem?_eq_getElem this]
      exact am_eqI (dv_mod (dv_fdiv (dv_i fun _ _ _ => v_var rfl) (dv_ixT (ds := intsL wtsV) (dv_tup tn.wo (da_cons dv_k (da_cons dv_k (da_cons dv_k (da_cons dv_k (da_cons dv_k (da_cons dv_k da_nil)))))) (by decide)) (fun _ _ _ => v_var rfl) (by omega) hg) ⟨w1, by omega⟩) dv_k (by decide)) dv_k) (fun i x a H1 F1 W1 tn hi hx _ => dv_var rfl hx)) ok .refl (fun D H' ow m => k D H' ow.fr ow.mv ow.ok ow.ow)

theorem sc_law_line : FnScope ["_law_number", "_law_kind", "_law_place", "_law_far"] ["_law_number"] (defScope s_law_line) := ⟨rfl, rfl, rfl, by decide +kernel, rfl, by decide +kernel, by decide +kernel⟩
theorem cal_law_line (T : Tx K mg) : Cal P w K mg base 2 "_law_line" ["_law_number"] (spDV K preLine) := by
  refine cal_mk T 22 22 rfl rfl sc_law_line (fun _ _ _ _ _ _ us hl => match us, hl with | [_], _ => rfl) (fun vs H Q E h => ?_) (fun f cdv A outer s H vs Q E hr h => ?_)
  · obtain ⟨F, W, d, wo, ok, ⟨n, rfl, n0, n1, rfl⟩, k⟩ := h
    rfl
  · obtain ⟨F, W, d, wo, ok, ⟨n, rfl, n0, n1, rfl⟩, k⟩ := h
    refine ⟨_, (pss_cons (ps_set (i := 1) sc_law_line.nd rfl (Or.inl rfl) (pe_op op_fdiv (pv 0) pe_int)) (pss_cons (ps_set (i := 2) sc_law_line.nd rfl (Or.inl rfl) (pe_op op_mod (pv 0) pe_int)) (pss_cons (ps_set (i := 3) sc_law_line.nd rfl (Or.inl rfl) (pe_op op_mod (pe_op op_fdiv (pv 0) pe_int) pe_int)) (pss_cons (ps_if (pt_cmpR op_lt (pv 1) pe_int (nomark _)) (pss_one (ps_ret (pe_op op_add_str (pe_op op_add_str (pe_ix ix_list (pe_cal0 (cal_law_kinds (K := K) T) hr (by decide) rfl) (pv 1) (fun _ _ => rfl)) (pe_ix ix_list (pe_lst (pa_cons pe_str (pa_cons pe_str pa_nil))) (pv 3) (fun _ _ => rfl))) (pe_callTy call_str_int (by rfl) (T.free 33) (by decide +kernel) (pa_cons (pv 2) pa_nil))))) pss_nil) (pss_cons (ps_if (PW.pt (pw_and (pt_cmpR op_eq (pv 1) pe_int (nomark _)) (pw_and1 (pt_cmpR op_eq (pv 3) pe_int (nomark _))))) (pss_one (ps_ret (pe_join pe_str (pe_op op_cat (pe_lst (pa_cons pe_str pa_nil)) (pe_cal (cal_law_named (K := K) T) hr (by decide) rfl (pa_cons (pe_cal0 (cal_law_changes (K := K) T) hr (by decide) rfl) (pa_cons (pv 2) pa_nil))))))) pss_nil) (pss_cons (ps_if (pt_cmpR op_eq (pv 1) pe_int (nomark _)) (pss_one (ps_ret (pe_join pe_str (pe_op op_cat (pe_lst (pa_cons pe_str pa_nil)) (pe_cal (cal_law_named (K := K) T) hr (by decide) rfl (pa_cons (pe_cal0 (cal_law_tests (K := K) T) hr (by decide) rfl) (pa_cons (pv 2) pa_nil))))))) pss_nil) (pss_cons (ps_if (PW.pt (pw_and (pt_cmpR op_eq (pv 3) pe_int (nomark _)) (pw_and1 (pt_cmpR op_lt (pv 2) pe_int (nomark _))))) (pss_one (ps_ret (pe_op op_add_str pe_str (pe_ix ix_list (pe_cal0 (cal_law_asks (K := K) T) hr (by decide) rfl) (pv 2) (fun _ _ => rfl))))) pss_nil) (pss_one (ps_ret (pe_op op_add_str pe_str (pe_callTy call_str_int (by rfl) (T.free 33) (by decide +kernel) (pa_cons (pv 0) pa_nil)))))))))))), ?_⟩
    have a1 : (toS (n % 64)).length ≤ 4 := toS_len (by omega) (by decide) (by show _ < (10000 : Int); omega)
    have a2 : (toS n).length ≤ 4 := toS_len (by omega) (by decide) (by show _ < (10000 : Int); omega)
    have a3 := kinds_small (n / 128).toNat
    have a4 := asks_small (n % 64).toNat
    have z1 : (" " : Str).length = 1 := by decide
    have z2 : (" far " : Str).length = 5 := by decide
    have z3 : ("ask " : Str).length = 4 := by decide
    have z4 : ("word " : Str).length = 5 := by decide
    
    refine q_set (v_fdiv (v_var rfl) v_c ⟨by decide, by decide⟩) ?_
    refine q_set (v_mod (v_var rfl) v_c (by decide)) ?_
    refine q_set (v_mod (v_fdiv (v_var rfl) v_c ⟨by decide, by decide⟩) v_c (by decide)) ?_
    unfold lineS at k
    refine q_if (a_t (v_lt (v_var rfl) v_c)) (fun h1 => ?_) (fun h1 => ?_)
    · have g1 : n / 128 < 6 := of_decide_eq_true h1
      have g0 : 0 ≤ n / 128 := by omega
      have gk := gets_at (ss := kindsS) (i := n / 128) (by show _ < (6 : Int); omega) g0
      rw [if_pos g1] at k
      by_cases g2 : n / 64 % 2 = 1
      · rw [if_pos g2] at k
        exact s_retD (K := K) (dv_catS (dv_catS (dv_ixL (ds := strsD kindsS) (dn_strs0 wo).dv (fun _ _ _ => v_var rfl) g0 gk) (dv_ixL (ds := strsD [" ", " far "]) (d := .str " far ") (dv_lst wo (da_cons dv_s (da_cons dv_s da_nil)) (by decide)) (fun _ _ _ => v_var rfl) (by omega) (by rw [g2]; rfl)) (by omega)) (dv_toS (fun _ _ _ => v_var rfl) (by omega)) (by rw [len_app]; omega)) ok k
      · have g3 : n / 64 % 2 = 0 := by omega
        rw [if_neg g2] at k
        exact s_retD (K := K) (dv_catS (dv_catS (dv_ixL (ds := strsD kindsS) (dn_strs0 wo).dv (fun _ _ _ => v_var rfl) g0 gk) (dv_ixL (ds := strsD [" ", " far "]) (d := .str " ") (dv_lst wo (da_cons dv_s (da_cons dv_s da_nil)) (by decide)) (fun _ _ _ => v_var rfl) (by omega) (by rw [g3]; rfl)) (by omega)) (dv_toS (fun _ _ _ => v_var rfl) (by omega)) (by rw [len_app]; omega)) ok k
    refine s_next ?_
    have g1 : ¬ n / 128 < 6 := of_decide_eq_false h1
    rw [if_neg g1] at k
    refine q_if (a_and (a_t (v_eqI (v_var rfl) v_c)) (fun _ => a_t (v_eqI (v_var rfl) v_c))) (fun h2 => ?_) (fun h2 => ?_)
    · have g2 : n / 128 = 7 ∧ n / 64 % 2 = 0 := by simpa using h2
      rw [if_pos g2] at k
      exact s_retD (K := K) (d := .str (bitsS "change" (n % 64) chgS)) (dv_bits wo (by decide) (by decide) chg_small (fun _ _ _ => v_var rfl)) ok k
    refine s_next ?_
    have g2 : ¬ (n / 128 = 7 ∧ n / 64 % 2 = 0) := by simpa using h2
    rw [if_neg g2] at k
    refine q_if (a_t (v_eqI (v_var rfl) v_c)) (fun h3 => ?_) (fun h3 => ?_)
    · have g3 : n / 128 = 7 := of_decide_eq_true h3
      rw [if_pos g3] at k
      exact s_retD (K := K) (d := .str (bitsS "test" (n % 64) tstS)) (dv_bits wo (by decide) (by decide) tst_small (fun _ _ _ => v_var rfl)) ok k
    refine s_next ?_
    have g3 : ¬ n / 128 = 7 := of_decide_eq_false h3
    rw [if_neg g3] at k
    refine q_if (a_and (a_t (v_eqI (v_var rfl) v_c)) (fun _ => a_t (v_lt (v_var rfl) v_c))) (fun h4 => ?_) (fun h4 => ?_)
    · have g4 : n / 64 % 2 = 0 ∧ n % 64 < 9 := by simpa using h4
      rw [if_pos g4] at k
      have gk := gets_at (ss := asksS) (i := n % 64) (by show _ < (9 : Int); omega) (by omega)
      exact s_retD (K := K) (dv_catS dv_s (dv_ixL (ds := strsD asksS) (dn_strs0 wo).dv (fun _ _ _ => v_var rfl) (by omega) gk) (by omega)) ok k
    refine s_next ?_
    have g4 : ¬ (n / 64 % 2 = 0 ∧ n % 64 < 9) := by simpa using h4
    rw [if_neg g4] at k
    exact s_retD (K := K) (dv_catS dv_s (dv_toS (fun _ _ _ => v_var rfl) (by omega)) (by omega)) ok k
end
section
variable {P : Program} {w : World} {K : PySem.W.Frag} {mg : Str → Option Value} {base : Heap}

theorem sc_law_outside : FnScope ["_law_cell_here"] ["_law_cell_here"] (defScope s_law_outside) := ⟨rfl, rfl, rfl, by decide +kernel, rfl, by decide +kernel, by decide +kernel⟩
theorem cal_law_outside (T : Tx K mg) : Cal P w K mg base 1 "_law_outside" ["_law_cell_here"] (spDV K preOut35) := by
  refine cal_mk T 26 26 rfl rfl sc_law_outside (fun _ _ _ _ _ _ us hl => match us, hl with | [_], _ => rfl) (fun vs H Q E h => ?_) (fun f cdv A outer s H vs Q E hr h => ?_)
  · obtain ⟨F, W, d, wo, ok, ⟨c, rfl, rfl⟩, k⟩ := h
    rfl
  · obtain ⟨F, W, d, wo, ok, ⟨c, rfl, rfl⟩, k⟩ := h
    refine ⟨_, (pss_cons (ps_if (pt_cmpR op_eq (pe_op op_mod (pv 0) pe_int) pe_int (nomark _)) (pss_one (ps_ret (pe_op op_add_str pe_str (pe_callTy call_str_int (by rfl) (T.free 33) (by decide +kernel) (pa_cons (pe_op op_add pe_int (pe_op op_mod (pe_op op_fdiv (pv 0) pe_int) pe_int)) pa_nil))))) pss_nil) (pss_cons (ps_if (pt_cmpR op_eq (pe_op op_mod (pv 0) pe_int) pe_int (nomark _)) (pss_one (ps_ret (pe_op op_add_str pe_str (pe_callTy call_str_int (by rfl) (T.free 33) (by decide +kernel) (pa_cons (pe_op op_add pe_int (pe_op op_mod (pe_op op_fdiv (pv 0) pe_int) pe_int)) pa_nil))))) pss_nil) (pss_one (ps_ret (pe_op op_add_str (pe_op op_add_str pe_str (pe_callTy call_str_int (by rfl) (T.free 33) (by decide +kernel) (pa_cons (pe_op op_add pe_int (pe_op op_mod (pe_op op_fdiv (pv 0) pe_int) pe_int)) pa_nil))) pe_str))))), ?_⟩
    have L1 : ∀ z : Int, 0 ≤ z → z < 10000 → (toS z).length ≤ 4 := fun z z0 z1 => toS_len z0 (by decide) (by show z < (10000 : Int); omega)
    
    unfold out35 at k
    refine q_if (a_t (v_eqI (v_mod (v_var rfl) v_c (by decide)) v_c)) (fun h => ?_) (fun h => ?_)
    · rw [if_pos (of_decide_eq_true h)] at k
      exact s_retD (K := K) (dv_catS dv_s (dv_toS (fun _ _ _ => v_add v_c (v_mod (v_fdiv (v_var rfl) v_c ⟨by decide, by decide⟩) v_c (by decide))) (by omega)) (by have := L1 (64 + c / 3 % 9936) (by omega) (by omega); have q : ("place " : PySem.Str).length ≤ 20 := (by decide +kernel); omega)) ok k
    rw [if_neg (of_decide_eq_false h)] at k
    refine s_next ?_
    refine q_if (a_t (v_eqI (v_mod (v_var rfl) v_c (by decide)) v_c)) (fun h => ?_) (fun h => ?_)
    · rw [if_pos (of_decide_eq_true h)] at k
      exact s_retD (K := K) (dv_catS dv_s (dv_toS (fun _ _ _ => v_add v_c (v_mod (v_fdiv (v_var rfl) v_c ⟨by decide, by decide⟩) v_c (by decide))) (by omega)) (by have := L1 (1 + c / 3 % 9999) (by omega) (by omega); have q : ("place 0-" : PySem.Str).length ≤ 20 := (by decide +kernel); omega)) ok k
    rw [if_neg (of_decide_eq_false h)] at k
    refine s_next ?_
    exact s_retD (K := K) (dv_catS (dv_catS dv_s (dv_toS (fun _ _ _ => v_add v_c (v_mod (v_fdiv (v_var rfl) v_c ⟨by decide, by decide⟩) v_c (by decide))) (by omega)) (by have := L1 (1 + c / 3 % 99) (by omega) (by omega); have q : ("place 63+" : PySem.Str).length ≤ 20 := (by decide +kernel); omega)) dv_s (by have := L1 (1 + c / 3 % 99) (by omega) (by omega); have q : ("place 63+" : PySem.Str).length ≤ 20 := (by decide +kernel); have q2 : (";" : PySem.Str).length ≤ 20 := (by decide +kernel); rw [len_app]; omega)) ok k

theorem sc_law_put : FnScope ["_law_lines", "_law_at", "_law_cell_here", "_law_way", "_law_other", "_law_names", "_law_name", "_law_k"] ["_law_lines", "_law_at", "_law_cell_here"] (defScope s_law_put) := ⟨rfl, rfl, rfl, by decide +kernel, rfl, by decide +kernel, by decide +kernel⟩
theorem cal_law_put (T : Tx K mg) : Cal P w K mg base 2 "_law_put" ["_law_lines", "_law_at", "_law_cell_here"] (spPut35 K) := by
  refine cal_mk T 27 27 rfl rfl sc_law_put (fun _ _ _ _ _ _ us hl => match us, hl with | [_, _, _], _ => rfl) (fun vs H Q E h => ?_) (fun f cdv A outer s H vs Q E hr h => ?_)
  · obtain ⟨F, W, D, gs, p, c, H0, rfl, wo, ow, gl, pl, k⟩ := h
    rfl
  · obtain ⟨F, W, D, gs, p, c, H0, rfl, wo, ow, gl, pl, k⟩ := h
    refine ⟨_, (pss_cons (ps_set (i := 3) sc_law_put.nd rfl (Or.inl rfl) (pe_op op_mod (pv 2) pe_int)) (pss_cons (ps_if (PW.pt (pw_and (pt_cmpR op_eq (pv 3) pe_int (nomark _)) (pw_and1 (pt_truth (pv 0) (by intro _; rfl))))) (pss_cons (ps_expr (pe_bm PySem.F.plainAttrs_list PySem.F.slot_list_insert PySem.F.type_list_insert mt_ins (pv 0) (pa_cons (pv 1) (pa_cons (pe_op op_add_str (pe_op op_add_str pe_str (pe_callTy call_str_int (by rfl) (T.free 33) (by decide +kernel) (pa_cons (pe_op op_mod (pe_op op_fdiv (pv 2) pe_int) (pe_callB call_len_seq (by rfl) (T.free 29) PySem.boot_len (pa_cons (pv 0) pa_nil))) pa_nil))) pe_str) pa_nil)))) (pss_cons (ps_set (i := 4) sc_law_put.nd rfl (Or.inl rfl) (pe_op op_mod (pe_op op_fdiv (pv 2) pe_int) (pe_op op_sub (pe_callB call_len_seq (by rfl) (T.free 29) PySem.boot_len (pa_cons (pv 0) pa_nil)) pe_int))) (pss_one (ps_ret (pe_tup (pa_cons pe_str (pa_cons (pe_op op_add (pe_callB (call_max2 rfl) (by rfl) (T.free 36) (by decide +kernel) (pa_cons (pv 1) (pa_cons (pe_op op_add (pv 4) (pe_callTy call_int1 (by rfl) (T.free 32) (by decide +kernel) (pa_cons (pe_cmpR op_ge (pv 4) (pv 1) (nomark _)) pa_nil))) pa_nil))) pe_int) pa_nil))))))) pss_nil) (pss_cons (ps_if (pt_cmpR op_eq (pv 3) pe_int (nomark _)) (pss_cons (ps_set (i := 5) sc_law_put.nd rfl (Or.inl rfl) (pe_lst (pa_cons pe_str (pa_cons (pe_op op_add_str pe_str (pe_callTy call_str_int (by rfl) (T.free 33) (by decide +kernel) (pa_cons (pe_op op_sub (pe_callB call_len_seq (by rfl) (T.free 29) PySem.boot_len (pa_cons (pv 0) pa_nil)) pe_int) pa_nil))) (pa_cons pe_str pa_nil))))) (pss_cons (ps_set (i := 6) sc_law_put.nd rfl (Or.inl rfl) (pe_ix ix_list (pv 5) (pe_op op_mod (pe_op op_fdiv (pv 2) pe_int) pe_int) (fun _ _ => rfl))) (C8.pss_cut (ps_if (PW.pt (pw_or (pt_cmpR op_ge (pv 1) (pe_callB call_len_seq (by rfl) (T.free 29) PySem.boot_len (pa_cons (pv 0) pa_nil)) (nomark _)) (pw_or1 (PW.pt (pw_and (pt_cmpR op_eq (pv 1) pe_int (nomark _)) (pw_and1 (pt_cmpR op_eq (pv 6) pe_str (nomark _)))))))) (pss_one (ps_set (i := 6) sc_law_put.nd rfl (Or.inl rfl) pe_str)) pss_nil) (pss_cons (ps_expr (pe_bm PySem.F.plainAttrs_list PySem.F.slot_list_insert PySem.F.type_list_insert mt_ins (pv 0) (pa_cons (pv 1) (pa_cons (pe_op op_add_str pe_str (pv 6)) pa_nil)))) (pss_one (ps_ret (pe_tup (pa_cons pe_str (pa_cons (pe_op op_add (pv 1) pe_int) pa_nil))))))))) pss_nil) (pss_cons (ps_if (pt_cmpR op_eq (pv 3) pe_int (nomark _)) (pss_cons (ps_for PassesOwn.never rfl (pi_range1 (by rfl) (T.free 30) (pa_cons pe_int pa_nil)) (pg_name (i := 7) sc_law_put.nd rfl (Or.inl rfl)) (pss_one (ps_expr (pe_bm PySem.F.plainAttrs_list PySem.F.slot_list_append PySem.F.type_list_append mt_append (pv 0) (pa_cons (pe_op op_add_str pe_str (pe_callTy call_str_int (by rfl) (T.free 33) (by decide +kernel) (pa_cons (pv 7) pa_nil))) pa_nil))))) (pss_one (ps_ret (pe_tup (pa_cons pe_str (pa_cons pe_int pa_nil)))))) pss_nil) (pss_cons (ps_expr (pe_bm PySem.F.plainAttrs_list PySem.F.slot_list_insert PySem.F.type_list_insert mt_ins (pv 0) (pa_cons (pv 1) (pa_cons (pe_cal (cal_law_outside (K := K) T) hr (by decide) rfl (pa_cons (pe_op op_fdiv (pv 2) pe_int) pa_nil)) pa_nil)))) (pss_one (ps_ret (pe_tup (pa_cons pe_str (pa_cons (pe_op op_add (pv 1) pe_int) pa_nil)))))))))), ?_⟩
    have L1 : ∀ z : Int, 0 ≤ z → z < 10000 → (toS z).length ≤ 4 := fun z z0 z1 => toS_len z0 (by decide) (by show z < (10000 : Int); omega)
    
    have DL : ((qLs 0 gs).map lnD).length = gs.length := by rw [List.length_map, qLs_len]
    obtain ⟨xs, hD, hx⟩ := ow.at_
    rw [DL] at hx
    unfold put35 at k
    refine q_set (v_mod (v_var rfl) v_c (by decide)) ?_
    refine q_if (a_and (a_t (v_eqI (v_var rfl) v_c)) (fun _ => a_own ow (v_var rfl))) (fun h => ?_) (fun h => ?_)
    · have h : c % 4 = 0 ∧ 0 < gs.length := by rw [DL] at h; simpa using h
      rw [if_pos h] at k
      obtain ⟨j1, j2⟩ := jx_lt (c := c) h.2
      generalize jx gs c = j at j1 j2 k
      refine qx_drop (x_own_ins wo ow (v_var rfl) (v_var rfl) (by omega) (by omega) ((dv_catS (dv_catS dv_s (dv_toS (i := (j : Int)) (fun H9 m9 o9 => v_eqv (v_mod (v_fdiv (v_var rfl) v_c ⟨by decide, by decide⟩) (v_lenO (o9.w.2.trans hD) (v_var rfl)) (by omega)) (show _ = V.int (j : Int) by rw [hx]; exact congrArg V.int j2)) (by omega)) (by have := L1 (j : Int) (by omega) (by omega); have q : ("q" : PySem.Str).length ≤ 20 := (by decide +kernel); omega)) dv_s (by have := L1 (j : Int) (by omega) (by omega); have q : ("q" : PySem.Str).length ≤ 20 := (by decide +kernel); have q2 : (": add 1" : PySem.Str).length ≤ 20 := (by decide +kernel); rw [len_app]; omega)).eq add1_str) (by rw [DL]; omega) (fun H9 ow9 => ?_))
      have ow9 := ow9.re (show _ = (insL (qLs 0 gs) p (qLn j add1)).map lnD by rw [Int.toNat_natCast]; exact insL_map _ _ _)
      have LL : ((insL (qLs 0 gs) p (qLn j add1)).map lnD).length = gs.length + 1 := by rw [List.length_map, insL_len (by rw [qLs_len]; exact pl), qLs_len]
      refine q_set (v_eqv (v_mod (v_fdiv (v_var rfl) v_c ⟨by decide, by decide⟩) (v_sub (v_lenD ow9.da (v_var rfl)) v_c) (by rw [LL]; omega)) (show _ = V.int (j : Int) by rw [LL, show ((gs.length + 1 : Nat) : Int) - 1 = (gs.length : Int) by omega]; exact congrArg V.int j2)) ?_
      obtain ⟨o9, w9⟩ := ow9.tn wo
      exact s_retD (K := K) (d := dueD .twice ((if p ≤ j then j + 1 else p) + 1)) (dv_tup w9 (da_cons dv_s (da_cons (dv_i fun _ _ _ => v_eqv (v_add (v_cb (va_cons (v_var rfl) (va_cons (v_add (v_var rfl) (v_cb (va_cons (v_ge (v_var rfl) (v_var rfl)) va_nil) (fun _ q => .inr ⟨_, rfl, q⟩))) va_nil)) (fun _ q => ⟨_, _, rfl, q⟩)) v_c) (show _ = V.int (((if p ≤ j then j + 1 else p) + 1 : Nat) : Int) from congrArg V.int (by
        by_cases cc : p ≤ j
        · have e : (if decide ((p : Int) ≤ (j : Int)) = true then (1 : Int) else 0) = 1 := if_pos (by simp; omega)
          rw [if_pos cc, e, if_pos (by omega)]; omega
        · have e : (if decide ((p : Int) ≤ (j : Int)) = true then (1 : Int) else 0) = 0 := if_neg (by simp; omega)
          rw [if_neg cc, e, if_neg (by omega)]; omega))) da_nil))) o9 (fun v H' m o hd => k v H' (ow9.step wo m o) hd)
    have h : ¬ (c % 4 = 0 ∧ 0 < gs.length) := by rw [DL] at h; simpa using h
    rw [if_neg h] at k
    clear h
    refine s_next ?_
    refine q_if (a_t (v_eqI (v_var rfl) v_c)) (fun h => ?_) (fun h => ?_)
    · rw [if_pos (of_decide_eq_true h)] at k
      obtain ⟨o1, w1⟩ := ow.tn wo
      refine q_d (K := K) (d := .list (strsD ["never", "q" ++ toS ((gs.length : Int) - 1), "zz9"])) ((dn_lst w1 (da_cons dv_s (da_cons (dv_catS dv_s (dv_toS (i := (gs.length : Int) - 1) (fun H9 m9 o9 => v_eqv (v_sub (v_lenO (o9.w.2.trans hD) (v_var rfl)) v_c) (show _ = V.int _ by rw [hx])) (by omega)) (by
        have q : ("q" : PySem.Str).length ≤ 20 := (by decide +kernel)
        have q2 : (toS ((gs.length : Int) - 1)).length ≤ 20 := by
          by_cases z : gs.length = 0
          · rw [z]; decide +kernel
          · have := L1 ((gs.length : Int) - 1) (by omega) (by omega); omega
        omega)) (da_cons dv_s da_nil))) (by simp)).dv) o1 (fun v1 H1 m1 o1 h1 => ?_)
      have hg : (strsD ["never", "q" ++ toS ((gs.length : Int) - 1), "zz9"])[(c / 4 % 3).toNat]? = some (.str (nmS35 gs.length c)) := by
        have hl : (c / 4 % 3).toNat < (["never", "q" ++ toS ((gs.length : Int) - 1), "zz9"] : List PySem.Str).length := by show _ < 3; omega
        unfold strsD nmS35
        rw [List.getElem?_map, List.getElem?_eq_getElem hl, List.getD_eq_getElem?_getD, List.getElem?_eq_getElem hl]; rfl
      refine q_d (K := K) (d := .str (nmS35 gs.length c)) (dv_ixL (ds := strsD ["never", "q" ++ toS ((gs.length : Int) - 1), "zz9"]) (dv_var rfl h1) (fun _ _ _ => v_mod (v_fdiv (v_var rfl) v_c ⟨by decide, by decide⟩) v_c (by decide)) (by omega) hg) o1 (fun v2 H2 m2 o2 h2 => ?_)
      cases h2
      have ow2 := ow.step wo (m1.trans m2) o2
      obtain ⟨xs2, hD2, hx2⟩ := ow2.at_
      rw [DL] at hx2
      refine q_rel (fun σ' H' => σ' = [some (.ref D), some (.int (p : Nat)), some (.int c), some (.int (c % 4)), none, some v1, some (.str (pickN gs.length p c)), none] ∧ H' = H2) ?_ ?_
      · refine s_if (a_or (a_t (v_ge (v_var rfl) (v_lenO hD2 (v_var rfl)))) (fun _ => a_and (a_t (v_eqI (v_var rfl) v_c)) (fun _ => a_t (v_eqS (v_var rfl) v_c)))) (fun h => ?_) (fun h => ?_)
        · have h : gs.length ≤ p := by
            rw [hx2] at h
            by_cases z : gs.length ≤ p
            · exact z
            · have no := nmS_no (n := gs.length) (c := c) (by omega) gl
              rw [show decide ((gs.length : Int) ≤ (p : Int)) = false from decide_eq_false (by omega), decide_eq_false no] at h
              simp at h
          refine s_set v_c ⟨?_, rfl⟩
          unfold pickN
          rw [if_pos h]; rfl
        · have h : ¬ gs.length ≤ p := by
            rw [hx2] at h
            intro z
            rw [show decide ((gs.length : Int) ≤ (p : Int)) = true from decide_eq_true (by omega)] at h
            simp at h
          refine s_next ⟨?_, rfl⟩
          unfold pickN
          rw [if_neg h]; rfl
      rintro _ _ ⟨rfl, rfl⟩
      refine qx_drop (x_own_ins wo ow2 (v_var rfl) (v_var rfl) (by omega) (by omega) ((dv_catS dv_s (dv_v (fun _ _ _ => v_var rfl) (.str (pickN gs.length p c))) (by have := pickN_len (n := gs.length) (p := p) (c := c) gl; have q : ("place " : PySem.Str).length ≤ 20 := (by decide +kernel); omega)).eq pick_str) (by rw [DL]; omega) (fun H9 ow9 => ?_))
      have ow9 := ow9.re (show _ = (insL (qLs 0 gs) p (placeL ++ 32 :: nm35 gs.length p c)).map lnD by rw [Int.toNat_natCast]; exact insL_map _ _ _)
      obtain ⟨o9, w9⟩ := ow9.tn wo
      exact s_retD (K := K) (d := dueD .name (p + 1)) (dv_tup w9 (da_cons dv_s (da_cons (dv_i fun _ _ _ => v_eqv (v_add (v_var rfl) v_c) (show _ = V.int ((p + 1 : Nat) : Int) from rfl)) da_nil))) o9 (fun v H' m o hd => k v H' (ow9.step wo m o) hd)
    rw [if_neg (of_decide_eq_false h)] at k
    clear h
    refine s_next ?_
    refine q_if (a_t (v_eqI (v_var rfl) v_c)) (fun h => ?_) (fun h => ?_)
    · rw [if_pos (of_decide_eq_true h)] at k
      refine q_forR (va_cons v_c va_nil) (by decide) (fun i σ' H' => ∃ y, σ' = [some (.ref D), some (.int (p : Nat)), some (.int c), some (.int (c % 4)), none, none, none, y] ∧ Own K H0 F W D H' ((qLs 0 gs ++ (List.range' 0 i).map wdL).map lnD)) ⟨_, rfl, ow.re (by rw [show List.range' 0 0 = [] from rfl, List.map_nil, List.append_nil])⟩ (fun i σ' H1 hi hp => ?_) (fun σ' H9 hp => ?_)
      · obtain ⟨y, rfl, ow1⟩ := hp
        refine sx_drop (x_own_app wo ow1 (v_var rfl) ((dv_catS dv_s (dv_toS (fun _ _ _ => v_var rfl) (by omega)) (by have := L1 (i : Int) (by omega) (by omega); have q : ("word " : PySem.Str).length ≤ 20 := (by decide +kernel); omega)).eq wdL_str) (by rw [List.length_map, List.length_append, qLs_len, List.length_map, List.length_range']; omega) (fun H2 ow2 _ => ⟨_, rfl, ow2.re ?_⟩))
        rw [List.range'_1_concat, Nat.zero_add, List.map_append (f := wdL), ← List.append_assoc, List.map_append (f := lnD) (l₁ := qLs 0 gs ++ List.map wdL (List.range' 0 i))]; rfl
      · obtain ⟨y, rfl, ow9⟩ := hp
        obtain ⟨o9, w9⟩ := ow9.tn wo
        exact s_retD (K := K) (d := dueD .bounds 65) (dv_tup w9 (da_cons dv_s (da_cons (dv_i fun _ _ _ => v_c) da_nil))) o9 (fun v H' m o hd => k v H' (ow9.step wo m o) hd)
    rw [if_neg (of_decide_eq_false h)] at k
    refine s_next ?_
    refine qx_drop (x_own_ins wo ow (v_var rfl) (v_var rfl) (by omega) (by omega) ((dv_spW (d := .str (out35 (c / 4))) (ow.tn wo).2 (fun _ _ _ => va_cons (v_fdiv (v_var rfl) v_c ⟨by decide, by decide⟩) va_nil) (fun _ _ _ => ⟨_, rfl, rfl⟩)).eq (show _ = PyData.str (oL (TL.tl _)) by rw [oL_tl])) (by rw [DL]; omega) (fun H9 ow9 => ?_))
    have ow9 := ow9.re (show _ = (insL (qLs 0 gs) p (TL.tl (out35 (c / 4)))).map lnD by rw [Int.toNat_natCast]; exact insL_map _ _ _)
    obtain ⟨o9, w9⟩ := ow9.tn wo
    exact s_retD (K := K) (d := dueD .bounds (p + 1)) (dv_tup w9 (da_cons dv_s (da_cons (dv_i fun _ _ _ => v_eqv (v_add (v_var rfl) v_c) (show _ = V.int ((p + 1 : Nat) : Int) from rfl)) da_nil))) o9 (fun v H' m o hd => k v H' (ow9.step wo m o) hd)

end
section
variable {P : Program} {w : World} {K : PySem.W.Frag} {mg : Str → Option Value} {base : Heap}

theorem sc_law : FnScope ["_law_script", "_law_lines", "_law_due", "_law_k", "_law_cell_here"] ["_law_script"] (defScope s_law) := ⟨rfl, rfl, rfl, by decide +kernel, rfl, by decide +kernel, by decide +kernel⟩
theorem law_ok (T : Tx K mg) {f : Addr} {fd : FuncData} (F : FunD K "law" "law" (defArgs s_law) (defBody s_law) (defScope s_law) [] [] f fd) : FnOk P w K mg base CX0 10 f fd ["_law_script"] (spLaw K) := by
  refine F.ok sc_law (fun vs H Q E h => ?_) (fun cdv A outer s H vs Q E hr h => ?_)
  · obtain ⟨a, ns, rfl, _⟩ := h
    rfl
  · obtain ⟨a, ns, rfl, hS, hlen, k⟩ := h
    refine ⟨_, PSs.nox (pss_cons (ps_setLc (i := 1) (own := [("_law_k", 3), ("_law_cell_here", 4)]) (g := gTup K 2 (gCons (gName 3) (gCons (gName 4) gNil))) (tt := tYes) rfl sc_law.nd rfl rfl (sw_true rfl rfl rfl (by decide +kernel)) (pi_enum (by rfl) (T.free 35) (pa_cons (pe_slice sl_list (pv 0) (po_some pe_int) (po_some pe_int)) pa_nil)) (blkOk_by (own := [("_law_k", 3), ("_law_cell_here", 4)]) (N := ["_law_script", "_law_lines", "_law_due", "_law_k", "_law_cell_here"]) (sc := defScope s_law) (by decide +kernel)) (fun _ _ _ _ _ => (pg_tup (by rfl) (pgs_cons (pg_name (i := 3) sc_law.nd rfl (Or.inl rfl)) (pgs_cons (pg_name (i := 4) sc_law.nd rfl (Or.inl rfl)) pgs_nil)))) (fun _ _ _ _ _ => pts_nil) (fun _ _ _ _ _ => (pe_op op_add_str (pe_op op_add_str (pe_op op_add_str pe_str (pe_callTy call_str_int (by rfl) (T.free 33) (by decide +kernel) (pa_cons (pv 3) pa_nil))) pe_str) (pe_cal (cal_law_line (K := K) T) hr (by decide) rfl (pa_cons (pe_op op_mod (pv 4) pe_int) pa_nil))))) (pss_cons (ps_set (i := 2) sc_law.nd rfl (Or.inl rfl) (pe_cal (cal_law_put (K := K) T) hr (by decide) rfl (pa_cons (pv 1) (pa_cons (pe_op op_mod (pe_cal (cal_law_cell (K := K) T) hr (by decide) rfl (pa_cons (pv 0) (pa_cons pe_int pa_nil))) (pe_op op_add (pe_callB call_len_seq (by rfl) (T.free 29) PySem.boot_len (pa_cons (pv 1) pa_nil)) pe_int)) (pa_cons (pe_cal (cal_law_cell (K := K) T) hr (by decide) rfl (pa_cons (pv 0) (pa_cons pe_int pa_nil))) pa_nil))))) (C8.pss_cut (ps_if (pt_cmpR op_eq (pe_op op_mod (pe_cal (cal_law_cell (K := K) T) hr (by decide) rfl (pa_cons (pv 0) (pa_cons pe_int pa_nil))) pe_int) pe_int (nomark _)) (pss_cons (ps_expr (pe_bm PySem.F.plainAttrs_list PySem.F.slot_list_insert PySem.F.type_list_insert mt_ins (pv 1) (pa_cons pe_int (pa_cons (pe_ix ix_list (pe_lst (pa_cons pe_str (pa_cons pe_str (pa_cons pe_str (pa_cons pe_str pa_nil))))) (pe_op op_mod (pe_op op_fdiv (pe_cal (cal_law_cell (K := K) T) hr (by decide) rfl (pa_cons (pv 0) (pa_cons pe_int pa_nil))) pe_int) pe_int) (fun _ _ => rfl)) pa_nil)))) (pss_cons (ps_set (i := 2) sc_law.nd rfl (Or.inl rfl) (pe_tup (pa_cons (pe_ix ix_tup (pv 2) pe_int (fun _ _ => rfl)) (pa_cons (pe_op op_add (pe_ix ix_tup (pv 2) pe_int (fun _ _ => rfl)) pe_int) pa_nil)))) (pss_one (ps_if (PW.pt (pw_and (pt_cmpR op_eq (pe_ix ix_tup (pv 2) pe_int (fun _ _ => rfl)) pe_str (nomark _)) (pw_and1 (pt_cmpR op_gt (pe_callB call_len_seq (by rfl) (T.free 29) PySem.boot_len (pa_cons (pv 1) pa_nil)) pe_int (nomark _))))) (pss_one (ps_set (i := 2) sc_law.nd rfl (Or.inl rfl) (pe_tup (pa_cons pe_str (pa_cons pe_int pa_nil))))) pss_nil)))) pss_nil) (pss_one (ps_ret (pe_cal (cal_law_refused (K := K) T) hr (by decide) rfl (pa_cons (pe_join pe_str (pv 1)) (pa_cons (pv 2) pa_nil)))))))), ?_⟩
    have L1 : ∀ z : Int, 0 ≤ z → z < 10000 → (toS z).length ≤ 4 := fun z z0 z1 => toS_len z0 (by decide) (by show z < (10000 : Int); omega)
    have hS := SF.of hS
    have ok : Ok noF wT H := ⟨FA.none, trivial⟩
    have len30 : ((ns.take 33).drop 3).length ≤ 30 := by
      rw [List.length_drop]
      have := List.length_take_le 33 ns
      omega
    refine q_dn' (K := K) (ds := (qLs 0 (((ns.take 33).drop 3).map fun c => c % 1024)).map lnD) (show DvN K noF wT _ _ H _ from (fE_q ((ns.take 33).drop 3) 0 ▸ dn_lcEm ((ns.take 33).drop 3) PyData.int (fun _ _ => true) (fun i (c : Int) => lnD (qLn i (c % 1024))) woT (da_cons ((DvN.dv (dn_scr (lo := some 3) (hi := some 33) hS (v_var rfl) (fun _ _ _ => v_var rfl) (fun _ _ q => ⟨_, rfl, q⟩) (fun _ _ q => ⟨_, rfl, q⟩) woT)).eq (by rw [show cutD ns (some 3) (some 33) = (ns.take 33).drop 3 from cutD_nat (i := 3) (j := 33) (by decide)]; rfl)) da_nil) (by omega) (fun _ _ => rfl) (fun i x c H1 F1 W1 tn hi hx => am_a fun _ _ _ => ans_yes) (fun i x c H1 F1 W1 tn hi hx _ => by
      cases hx
      have hlt := (List.getElem?_eq_some_iff.mp hi).1
      have b1 := L1 (i : Int) (by omega) (by omega)
      have b2 : ("q" : PySem.Str).length ≤ 20 := by decide +kernel
      have b3 : (": " : PySem.Str).length ≤ 20 := by decide +kernel
      have b4 := lineS_len (n := c % 1024) (by omega) (by omega)
      exact (dv_catS (dv_catS (dv_catS dv_s (dv_toS (fun _ _ _ => v_var rfl) (by omega)) (by omega)) dv_s (by rw [len_app]; omega)) (dv_spW (d := .str (lineS (c % 1024))) tn.wo (fun _ _ _ => va_cons (v_mod (v_var rfl) v_c (by decide)) va_nil) (fun _ _ _ => ⟨c % 1024, rfl, by omega, by omega, rfl⟩)) (by rw [len_app, len_app]; omega)).eq qLn_str))) ok .refl (fun D H1 hD ow m1 => ?_)
    have gl : (((ns.take 33).drop 3).map fun c => c % 1024).length ≤ 30 := by rw [List.length_map]; exact len30
    have gi : ∀ n ∈ (((ns.take 33).drop 3).map fun c => c % 1024), 0 ≤ n ∧ n < 1024 := fun n hn => by
      obtain ⟨c, _, rfl⟩ := List.mem_map.mp hn
      omega
    generalize (((ns.take 33).drop 3).map fun c => c % 1024) = gs at ow gl gi
    have DL : ((qLs 0 gs).map lnD).length = gs.length := by rw [List.length_map, qLs_len]
    obtain ⟨p, hp, pl⟩ : ∃ p : Nat, cellAt ns 0 % ((((qLs 0 gs).map lnD).length : Int) + 1) = (p : Int) ∧ p ≤ gs.length := by
      rw [DL]
      have q0 := Int.emod_nonneg (cellAt ns 0) (show ((gs.length : Int) + 1) ≠ 0 by omega)
      have q1 := Int.emod_lt_of_pos (cellAt ns 0) (show (0 : Int) < (gs.length : Int) + 1 by omega)
      exact ⟨(cellAt ns 0 % ((gs.length : Int) + 1)).toNat, by omega, by omega⟩
    refine q_setc (va_cons (v_var rfl) (va_cons (v_eqv (v_mod (v_call (va_cons (v_var rfl) (va_cons v_c va_nil)) (fun _ q => ⟨a, ns, 0, rfl, (hS.mv ow.mv).sq, by decide, q⟩)) (v_add (v_lenD ow.da (v_var rfl)) v_c) (by omega)) (congrArg V.int hp)) (va_cons (v_call (va_cons (v_var rfl) (va_cons v_c va_nil)) (fun _ q => ⟨a, ns, 1, rfl, (hS.mv ow.mv).sq, by decide, q⟩)) va_nil))) ⟨noF, wT, D, gs, p, cellAt ns 1, H, rfl, woT, ow, gl, pl, fun v2 H2 ow2 hd2 => ?_⟩
    have P := put35_in (cellAt ns 1) gi gl pl
    generalize put35 gs p (cellAt ns 1) = q at P ow2 hd2
    obtain ⟨L, er, n⟩ := q
    obtain ⟨sm, ln, as0, as1⟩ := P
    dsimp only at sm ln as0 as1 ow2 hd2
    clear ow hp pl gi gl DL m1 len30
    have LL : (L.map lnD).length = L.length := List.length_map ..
    have lb := sm.1
    refine q_rel (fun σ' H' => ∃ (v y z : _) (L' : List LN) (er' : Er) (n' : Nat), σ' = [some (.ref a), some (.ref D), some v, y, z] ∧ Own K H noF wT D H' (L'.map lnD) ∧ Da K H' noF v (dueD er' n') ∧ LnsOk L' 97 ∧ assembledL (TL.joinL [10] L') = .error (er', n')) ?_ ?_
    · refine s_if (a_t (v_eqI (v_mod (v_call (va_cons (v_var rfl) (va_cons v_c va_nil)) (fun _ q => ⟨a, ns, 2, rfl, (hS.mv ow2.mv).sq, by decide, q⟩)) v_c (by decide)) v_c)) (fun h => ?_) (fun h => ?_)
      · have hSD := hS.mv ow2.mvD
        obtain ⟨s, hg, hs⟩ : ∃ s, (strsD preS)[(cellAt ns 2 / 3 % 4).toNat]? = some (.str s) ∧ s ∈ preS := by
          have hl : (cellAt ns 2 / 3 % 4).toNat < preS.length := by show _ < 4; omega
          refine ⟨preS[(cellAt ns 2 / 3 % 4).toNat], ?_, List.getElem_mem hl⟩
          unfold strsD
          rw [List.getElem?_map, List.getElem?_eq_getElem hl]; rfl
        refine qx_drop (x_own_insM (d := lnD (TL.tl s)) woT ow2 (v_var rfl) v_c (by decide) (by decide) ((dv_ixL (ds := strsD preS) (dn_lst (ow2.tn woT).2 (da_cons dv_s (da_cons dv_s (da_cons dv_s (da_cons dv_s da_nil)))) (by simp)).dv (fun H3 m3 _ => v_mod (v_fdiv (v_call (va_cons (v_var rfl) (va_cons v_c va_nil)) (fun _ q => ⟨a, ns, 2, rfl, (hSD.mv m3).sq, by decide, q⟩)) v_c ⟨by decide, by decide⟩) v_c (by decide)) (by omega) hg).eq (show _ = PyData.str (oL (TL.tl s)) by rw [oL_tl])) (by rw [LL]; omega) (fun H3 ow3 m3 => ?_))
        have ow3 := ow3.re (show _ = (TL.tl s :: L).map lnD from rfl)
        have hd3 := hd2.mv m3
        obtain ⟨o3, w3⟩ := ow3.tn woT
        refine q_d (K := K) (d := dueD er (n + 1)) (dv_tup w3 (da_cons (dv_ixT (ds := [.str (erW er), .int (n : Nat)]) (dv_var rfl hd3) (fun _ _ _ => v_c) (by decide) rfl) (da_cons (dv_i fun H9 m9 _ => v_add (v_pr1 (hd3.mv m9) (v_var rfl)) v_c) da_nil))) o3 (fun v4 H4 m4 o4 hd4 => ?_)
        have ow4 := ow3.step woT m4 o4
        have as1 := as1 s hs
        have LL4 : ((TL.tl s :: L).map lnD).length = L.length + 1 := by rw [List.length_map, List.length_cons]
        have sm4 : LnsOk (TL.tl s :: L) 97 := ⟨by rw [List.length_cons]; omega, fun l hl => by
          rcases List.mem_cons.mp hl with e | hl
          · rw [e]; exact preS_sm s hs
          · exact sm.2 l hl⟩
        refine s_if (a_and (a_t (v_eqS (v_pr0 hd4 (v_var rfl)) v_c)) (fun _ => a_t (v_gt (v_lenD ow4.da (v_var rfl)) v_c))) (fun h2 => ?_) (fun h2 => ?_)
        · rw [LL4, erW_bd] at h2
          have h2 : er = .bounds ∧ (64 : Int) < ((L.length + 1 : Nat) : Int) := by simpa using h2
          obtain ⟨o5, w5⟩ := ow4.tn woT
          refine sx_set (x_d (K := K) (d := dueD .bounds 65) (dv_tup w5 (da_cons dv_s (da_cons dv_k da_nil))) o5 (fun v5 H5 m5 o5 hd5 => ⟨v5, _, _, TL.tl s :: L, .bounds, 65, rfl, ow4.step woT m5 o5, hd5.mv (.less fun b f => .inl f), sm4, ?_⟩))
          rw [as1, h2.1, if_pos (by rcases ln with ⟨l1, _⟩ | l1 <;> omega)]
        · rw [LL4, erW_bd] at h2
          have h2 : er = .bounds → ¬ (64 : Int) < ((L.length + 1 : Nat) : Int) := by simpa using h2
          refine s_next ⟨v4, _, _, TL.tl s :: L, er, n + 1, rfl, ow4, hd4.mv (.less fun b f => .inl f), sm4, ?_⟩
          rw [as1, if_neg]
          rcases ln with ⟨l1, l2, _⟩ | l1
          · have := h2 l2; omega
          · omega
      · exact s_next ⟨v2, _, _, L, er, n, rfl, ow2, hd2.mv (.less fun b f => .inl f), ⟨by omega, sm.2⟩, as0⟩
    rintro _ H4 ⟨v, y, z, L', er', n', rfl, ow4, hd4, lo4, ea⟩
    refine s_retD (K := K) (d := .bool true) (dv_ref woT (dv_joinL (s := [10]) (b := 60) dv_s (dv_var rfl ow4.da) (fun l hl => (lo4.2 l hl).2) (by have := lo4.1; simp; omega)) (dv_var rfl hd4) lo4 (by decide) ea) ow4.ok (fun v H' _ _ hd => by cases hd; exact k _)
end
theorem facts {P : Program} {w : World} {K : PySem.W.Frag} {h : Heap} {mg : Str → Option Value} {f : Addr} (X : K.In h) (G : h.Ns mainGlobals mg) (hfa : mg ("law" : Str) = some (.ref f)) (c : He.SaysD Hd.fa Hd.fn K ∧ Hd.exB K = true) :
    ∃ fd : FuncData, (∀ (s : Shared) (v : Value), BindsTo s fd ⟨[v], []⟩ [("_law_script", v)]) ∧ ∀ base : Heap, K.In base → base.Ns mainGlobals mg → FnOk P w K mg base CX0 10 f fd ["_law_script"] (spLaw K) := by
  obtain ⟨fd, F⟩ := c.1.def_ 28 (d := Hd.d_law) rfl
  have T : Tx K mg := ⟨⟨h, X, G⟩, c.1, c.2⟩
  have e := hfa.symm.trans (T.glo 28)
  cases e
  have b := FunD.bindsA (ps := ["_law_script"]) F fun _ _ _ _ _ _ us hl => match us, hl with | [_], _ => rfl
  exact ⟨fd, fun s v => b s [v] rfl, fun base _ _ => law_ok T F⟩
end Ch
open PySem PySem.W PySem.Calls PyProof.Rows
set_option maxRecDepth 100000 in
set_option maxHeartbeats 0 in
theorem PySem.Challenge.cw_corehouse_k35_faults_of_the_first_going_holds : PySem.Challenge.rw_corehouse_k35_faults_of_the_first_going.Holds := by
  w_on; o_law
  refine HandSHeadRun.head_any (r := OpenLaw.row PySem.Challenge.rw_corehouse_k35_faults_of_the_first_going) (q := view (OpenLaw.row PySem.Challenge.rw_corehouse_k35_faults_of_the_first_going).prog [45]) (H := Ch.Hd.hk) (ob := Ch.Hd.ob) (M := 6000) (loose := Ch.Hd.loose) (d := HandSHeadRun.topDef (OpenLaw.row PySem.Challenge.rw_corehouse_k35_faults_of_the_first_going).prog 45) (kwd := []) Ch.Hd.ob_eq
    (by kernel_rfl) (fun s => by kernel_rfl) Ch.Hd.run (by kernel_rfl) (by kernel_rfl) (by kernel_rfl) (by rfl) (by first | assumption | decide +kernel) (by decide +kernel) ⟨rfl, rfl, rfl, rfl, rfl, by decide +kernel⟩ ?hw ?hc
  case hw => w_witness2
  case hc =>
    refine L2.walk_ofE (l := PySem.Challenge.rw_corehouse_k35_faults_of_the_first_going) (n := 63) (k := 10) (x := "_law_script") (CX := L2.CX0) rfl (by decide) (by kernel_rfl) ⟨rfl, by decide, by decide⟩ ?F (fun _ _ _ _ z => z)
    intro w mg fa h Y G hmg0
    obtain ⟨K, KX, c⟩ := Y
    have hmg : mg ("law" : PySem.Str) = some (.ref fa) := by
      have e : (HandSHeadRun.topDef (OpenLaw.row PySem.Challenge.rw_corehouse_k35_faults_of_the_first_going).prog 45).name = ("law" : PySem.Str) := by kernel_rfl
      rw [← e]
      exact hmg0
    obtain ⟨fd, hb, hF⟩ := Ch.facts (P := (PySem.Challenge.rw_corehouse_k35_faults_of_the_first_going).prog) (w := w) KX G hmg c
    exact ⟨K, fd, Ch.spLaw K, KX, hb, fun H a ns hl _ hS => ⟨a, ns, rfl, hS, hl, fun _ => rfl⟩, hF⟩
#print axioms PySem.Challenge.cw_corehouse_k35_faults_of_the_first_going_holds
