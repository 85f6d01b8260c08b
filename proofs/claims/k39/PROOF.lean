import PyProof.Rows.All
import Wide.All
import OpenK.AllK
import Wide.FinOn
import KE.KStateDown
import HandS.ForMost
import HandS.Defaults
import HandS.Head0
import HandS.Head1
import HandS.Head2
import HandS.HeadEnd
import HandS.HeadHook1
import HandS.HeadHook2
import HandS.Steps
import HandS.Codes
import HandS.IsInst
import HandS.Walk
import HandS.TupMul
import HandS.TupAny
import HandS.Zip
import KE.GoesMore
import HandS.Strs
import PySem.Challenge.RW_corehouse_k39_whole_texts_speak
set_option Elab.async false
set_option linter.all false
set_option maxRecDepth 100000
set_option maxHeartbeats 4000000
namespace Ch
open PySem PySem.Spec PyProof.Rows L2
def top (i : Nat) : Stmt := PySem.Challenge.pw_corehouse_k39_whole_texts_speak.main.body.getD i (.Pass ⟨0, 0, 0, 0⟩)
abbrev s_is_name : Stmt := top 15
abbrev s_is_number : Stmt := top 16
abbrev s_terms : Stmt := top 17
abbrev s_weight_of : Stmt := top 18
abbrev s_deed_of : Stmt := top 19
abbrev s_aimed : Stmt := top 20
abbrev s_read : Stmt := top 21
abbrev s_amount_of : Stmt := top 23
abbrev s_within : Stmt := top 24
abbrev s_label_told : Stmt := top 25
abbrev s_gone_over : Stmt := top 26
abbrev s_make_cell : Stmt := top 27
abbrev s_pool_place : Stmt := top 28
abbrev s_cells_made : Stmt := top 29
abbrev s_assembled : Stmt := top 30
abbrev s_parts : Stmt := top 32
abbrev s_skip : Stmt := top 35
abbrev s_added : Stmt := top 36
abbrev s_aim : Stmt := top 37
abbrev s_moved : Stmt := top 38
abbrev s_rolled : Stmt := top 39
abbrev s_changed : Stmt := top 40
abbrev s_tested : Stmt := top 41
abbrev s_deed : Stmt := top 42
abbrev s_again : Stmt := top 46
abbrev s_hear : Stmt := top 47
abbrev s_say : Stmt := top 48
abbrev s_doze : Stmt := top 49
abbrev s_carry : Stmt := top 50
abbrev s_ask : Stmt := top 51
abbrev s_heard : Stmt := top 52
abbrev s_ticked : Stmt := top 53
abbrev s_happen : Stmt := top 54
abbrev s_picture : Stmt := top 55
abbrev s_room_with : Stmt := top 58
abbrev s_cells_of : Stmt := top 59
abbrev s_give_cells : Stmt := top 60
abbrev s_enter : Stmt := top 61
abbrev s_load : Stmt := top 64
abbrev s_event_told : Stmt := top 65
abbrev s_settle : Stmt := top 66
abbrev s_start : Stmt := top 67
abbrev s_tick : Stmt := top 68
abbrev s_run : Stmt := top 69
abbrev s_seen : Stmt := top 70
abbrev s_law_cell : Stmt := top 72
abbrev s_law_mix : Stmt := top 73
abbrev s_law_message : Stmt := top 74
abbrev s_law_text : Stmt := top 75
abbrev s_law : Stmt := top 76
abbrev s_BadText___init__ : Stmt := inClass (top 2) 0
abbrev s_Machine___init__ : Stmt := inClass (top 34) 0
abbrev s_Person___init__ : Stmt := inClass (top 45) 0
abbrev s_Rooms___init__ : Stmt := inClass (top 57) 0
abbrev s_House___init__ : Stmt := inClass (top 63) 0
namespace Hd
def d_is_name : He.DefD := ⟨("is_name", none), "is_name", "is_name", defArgs s_is_name, defBody s_is_name, defScope s_is_name, [], []⟩
def d_is_number : He.DefD := ⟨("is_number", none), "is_number", "is_number", defArgs s_is_number, defBody s_is_number, defScope s_is_number, [], []⟩
def d_terms : He.DefD := ⟨("terms", none), "terms", "terms", defArgs s_terms, defBody s_terms, defScope s_terms, [], []⟩
def d_weight_of : He.DefD := ⟨("weight_of", none), "weight_of", "weight_of", defArgs s_weight_of, defBody s_weight_of, defScope s_weight_of, [], []⟩
def d_deed_of : He.DefD := ⟨("deed_of", none), "deed_of", "deed_of", defArgs s_deed_of, defBody s_deed_of, defScope s_deed_of, [], []⟩
def d_aimed : He.DefD := ⟨("aimed", none), "aimed", "aimed", defArgs s_aimed, defBody s_aimed, defScope s_aimed, [], []⟩
def d_read : He.DefD := ⟨("read", none), "read", "read", defArgs s_read, defBody s_read, defScope s_read, [], []⟩
def d_amount_of : He.DefD := ⟨("amount_of", none), "amount_of", "amount_of", defArgs s_amount_of, defBody s_amount_of, defScope s_amount_of, [], []⟩
def d_within : He.DefD := ⟨("within", none), "within", "within", defArgs s_within, defBody s_within, defScope s_within, [], []⟩
def d_label_told : He.DefD := ⟨("label_told", none), "label_told", "label_told", defArgs s_label_told, defBody s_label_told, defScope s_label_told, [], []⟩
def d_gone_over : He.DefD := ⟨("gone_over", none), "gone_over", "gone_over", defArgs s_gone_over, defBody s_gone_over, defScope s_gone_over, [], []⟩
def d_make_cell : He.DefD := ⟨("make_cell", none), "make_cell", "make_cell", defArgs s_make_cell, defBody s_make_cell, defScope s_make_cell, [], []⟩
def d_pool_place : He.DefD := ⟨("pool_place", none), "pool_place", "pool_place", defArgs s_pool_place, defBody s_pool_place, defScope s_pool_place, [], []⟩
def d_cells_made : He.DefD := ⟨("cells_made", none), "cells_made", "cells_made", defArgs s_cells_made, defBody s_cells_made, defScope s_cells_made, [], []⟩
def d_assembled : He.DefD := ⟨("assembled", none), "assembled", "assembled", defArgs s_assembled, defBody s_assembled, defScope s_assembled, [], []⟩
def d_parts : He.DefD := ⟨("parts", none), "parts", "parts", defArgs s_parts, defBody s_parts, defScope s_parts, [], []⟩
def d_skip : He.DefD := ⟨("skip", none), "skip", "skip", defArgs s_skip, defBody s_skip, defScope s_skip, [], []⟩
def d_added : He.DefD := ⟨("added", none), "added", "added", defArgs s_added, defBody s_added, defScope s_added, [], []⟩
def d_aim : He.DefD := ⟨("aim", none), "aim", "aim", defArgs s_aim, defBody s_aim, defScope s_aim, [], []⟩
def d_moved : He.DefD := ⟨("moved", none), "moved", "moved", defArgs s_moved, defBody s_moved, defScope s_moved, [], []⟩
def d_rolled : He.DefD := ⟨("rolled", none), "rolled", "rolled", defArgs s_rolled, defBody s_rolled, defScope s_rolled, [], []⟩
def d_changed : He.DefD := ⟨("changed", none), "changed", "changed", defArgs s_changed, defBody s_changed, defScope s_changed, [], []⟩
def d_tested : He.DefD := ⟨("tested", none), "tested", "tested", defArgs s_tested, defBody s_tested, defScope s_tested, [], []⟩
def d_deed : He.DefD := ⟨("deed", none), "deed", "deed", defArgs s_deed, defBody s_deed, defScope s_deed, [], []⟩
def d_again : He.DefD := ⟨("again", none), "again", "again", defArgs s_again, defBody s_again, defScope s_again, [], []⟩
def d_hear : He.DefD := ⟨("hear", none), "hear", "hear", defArgs s_hear, defBody s_hear, defScope s_hear, [], []⟩
def d_say : He.DefD := ⟨("say", none), "say", "say", defArgs s_say, defBody s_say, defScope s_say, [], []⟩
def d_doze : He.DefD := ⟨("doze", none), "doze", "doze", defArgs s_doze, defBody s_doze, defScope s_doze, [], []⟩
def d_carry : He.DefD := ⟨("carry", none), "carry", "carry", defArgs s_carry, defBody s_carry, defScope s_carry, [], []⟩
def d_ask : He.DefD := ⟨("ask", none), "ask", "ask", defArgs s_ask, defBody s_ask, defScope s_ask, [], []⟩
def d_heard : He.DefD := ⟨("heard", none), "heard", "heard", defArgs s_heard, defBody s_heard, defScope s_heard, [], []⟩
def d_ticked : He.DefD := ⟨("ticked", none), "ticked", "ticked", defArgs s_ticked, defBody s_ticked, defScope s_ticked, [], []⟩
def d_happen : He.DefD := ⟨("happen", none), "happen", "happen", defArgs s_happen, defBody s_happen, defScope s_happen, [], []⟩
def d_picture : He.DefD := ⟨("picture", none), "picture", "picture", defArgs s_picture, defBody s_picture, defScope s_picture, [], []⟩
def d_room_with : He.DefD := ⟨("room_with", none), "room_with", "room_with", defArgs s_room_with, defBody s_room_with, defScope s_room_with, [], []⟩
def d_cells_of : He.DefD := ⟨("cells_of", none), "cells_of", "cells_of", defArgs s_cells_of, defBody s_cells_of, defScope s_cells_of, [], []⟩
def d_give_cells : He.DefD := ⟨("give_cells", none), "give_cells", "give_cells", defArgs s_give_cells, defBody s_give_cells, defScope s_give_cells, [], []⟩
def d_enter : He.DefD := ⟨("enter", none), "enter", "enter", defArgs s_enter, defBody s_enter, defScope s_enter, [], []⟩
def d_load : He.DefD := ⟨("load", none), "load", "load", defArgs s_load, defBody s_load, defScope s_load, [], []⟩
def d_event_told : He.DefD := ⟨("event_told", none), "event_told", "event_told", defArgs s_event_told, defBody s_event_told, defScope s_event_told, [], []⟩
def d_settle : He.DefD := ⟨("settle", none), "settle", "settle", defArgs s_settle, defBody s_settle, defScope s_settle, [], []⟩
def d_start : He.DefD := ⟨("start", none), "start", "start", defArgs s_start, defBody s_start, defScope s_start, [], []⟩
def d_tick : He.DefD := ⟨("tick", none), "tick", "tick", defArgs s_tick, defBody s_tick, defScope s_tick, [], []⟩
def d_run : He.DefD := ⟨("run", none), "run", "run", defArgs s_run, defBody s_run, defScope s_run, [], []⟩
def d_seen : He.DefD := ⟨("seen", none), "seen", "seen", defArgs s_seen, defBody s_seen, defScope s_seen, [], []⟩
def d_law_cell : He.DefD := ⟨("_law_cell", none), "_law_cell", "_law_cell", defArgs s_law_cell, defBody s_law_cell, defScope s_law_cell, [], []⟩
def d_law_mix : He.DefD := ⟨("_law_mix", none), "_law_mix", "_law_mix", defArgs s_law_mix, defBody s_law_mix, defScope s_law_mix, [], []⟩
def d_law_message : He.DefD := ⟨("_law_message", none), "_law_message", "_law_message", defArgs s_law_message, defBody s_law_message, defScope s_law_message, [], []⟩
def d_law_text : He.DefD := ⟨("_law_text", none), "_law_text", "_law_text", defArgs s_law_text, defBody s_law_text, defScope s_law_text, [], []⟩
def d_law : He.DefD := ⟨("law", none), "law", "law", defArgs s_law, defBody s_law, defScope s_law, [], []⟩
def d_BadText___init__ : He.DefD := ⟨("BadText", some "__init__"), "__init__", "BadText.__init__", defArgs s_BadText___init__, defBody s_BadText___init__, defScope s_BadText___init__, [], []⟩
def d_Machine___init__ : He.DefD := ⟨("Machine", some "__init__"), "__init__", "Machine.__init__", defArgs s_Machine___init__, defBody s_Machine___init__, defScope s_Machine___init__, [], []⟩
def d_Person___init__ : He.DefD := ⟨("Person", some "__init__"), "__init__", "Person.__init__", defArgs s_Person___init__, defBody s_Person___init__, defScope s_Person___init__, [], []⟩
def d_Rooms___init__ : He.DefD := ⟨("Rooms", some "__init__"), "__init__", "Rooms.__init__", defArgs s_Rooms___init__, defBody s_Rooms___init__, defScope s_Rooms___init__, [], []⟩
def d_House___init__ : He.DefD := ⟨("House", some "__init__"), "__init__", "House.__init__", defArgs s_House___init__, defBody s_House___init__, defScope s_House___init__, [], []⟩
def fn : List He.DefD := [d_is_name, d_is_number, d_terms, d_weight_of, d_deed_of, d_aimed, d_read, d_amount_of, d_within, d_label_told, d_gone_over, d_make_cell, d_pool_place, d_cells_made, d_assembled, d_parts, d_skip, d_added, d_aim, d_moved, d_rolled, d_changed, d_tested, d_deed, d_again, d_hear, d_say, d_doze, d_carry, d_ask, d_heard, d_ticked, d_happen, d_picture, d_room_with, d_cells_of, d_give_cells, d_enter, d_load, d_event_told, d_settle, d_start, d_tick, d_run, d_seen, d_law_cell, d_law_mix, d_law_message, d_law_text, d_law, d_BadText___init__, d_Machine___init__, d_Person___init__, d_Rooms___init__, d_House___init__]
def fa : List He.Fa := [.glo "is_name", .glo "is_number", .glo "terms", .glo "weight_of", .glo "deed_of", .glo "aimed", .glo "read", .glo "amount_of", .glo "within", .glo "label_told", .glo "gone_over", .glo "make_cell", .glo "pool_place", .glo "cells_made", .glo "assembled", .glo "parts", .glo "skip", .glo "added", .glo "aim", .glo "moved", .glo "rolled", .glo "changed", .glo "tested", .glo "deed", .glo "again", .glo "hear", .glo "say", .glo "doze", .glo "carry", .glo "ask", .glo "heard", .glo "ticked", .glo "happen", .glo "picture", .glo "room_with", .glo "cells_of", .glo "give_cells", .glo "enter", .glo "load", .glo "event_told", .glo "settle", .glo "start", .glo "tick", .glo "run", .glo "seen", .glo "_law_cell", .glo "_law_mix", .glo "_law_message", .glo "_law_text", .glo "law", .free "len", .free "list", .free "range", .free "tuple", .free "int", .free "str", .free "enumerate", .free "sum", .free "ValueError", .glo "CoreError", .glo "BadText", .glo "NoDeed", .glo "Twice", .glo "NoName", .glo "OutOfBounds", .glo "Taken", .glo "Machine", .cls "Machine", .mkr "Machine", .noat "Machine" "cells", .noat "Machine" "total", .noat "Machine" "mark", .noat "Machine" "at", .glo "Person", .cls "Person", .mkr "Person", .noat "Person" "machine", .noat "Person" "inbox", .noat "Person" "outbox", .noat "Person" "paper", .noat "Person" "blocks", .noat "Person" "switches", .noat "Person" "state", .noat "Person" "nap", .noat "Person" "lost", .noat "Person" "done", .glo "Rooms", .cls "Rooms", .mkr "Rooms", .noat "Rooms" "guests", .noat "Rooms" "kept", .noat "Rooms" "shelves", .noat "Rooms" "turn", .noat "Rooms" "swaps", .glo "House", .cls "House", .mkr "House", .noat "House" "people", .noat "House" "places", .noat "House" "quantum", .noat "House" "beat", .noat "House" "diaries", .noat "House" "runs", .noat "House" "row", .noat "House" "steps", .noat "House" "idle", .noat "House" "ticks", .noat "House" "swaps", .noat "House" "turn", .noat "House" "left", .glo "KINDS", .glo "ASKS", .glo "CHANGES", .glo "TESTS", .glo "WEIGHTS", .glo "OTHERS", .int "MOST" 16]
abbrev R : PySem.W.OpenRow := PySem.W.OpenLaw.row PySem.Challenge.rw_corehouse_k39_whole_texts_speak
def tupN (K : PySem.W.Frag) (x : PySem.Str) : Bool := match K.lookup (He.ga K x) with
  | some ⟨.type c, none, _, _⟩ => decide (c = "tuple")
  | _ => false
def exB (K : PySem.W.Frag) : Bool := (He.tupB K "KINDS" [.str "and", .str "add", .str "rise", .str "put", .str "call", .str "go"] && (tupN K "KINDS" && (He.tupB K "ASKS" [.str "heard", .str "hear", .str "room", .str "say", .str "sleep", .str "fetch", .str "store", .str "stop", .str "look"] && (tupN K "ASKS" && (He.tupB K "CHANGES" [.str "zero", .str "turn", .str "flip", .str "more", .str "left", .str "right"] && (tupN K "CHANGES" && (He.tupB K "TESTS" [.str "minus", .str "none", .str "mark", .str "not", .str "zero", .str "flat"] && (tupN K "TESTS" && (He.tupB K "WEIGHTS" [.int 32, .int 16, .int 8, .int 4, .int 2, .int 1] && (tupN K "WEIGHTS" && (He.tupB K "OTHERS" [.str "place", .str "word", .str "far", .str "ask", .str "change", .str "test", .str "here"] && (tupN K "OTHERS" && true))))))))))))
def obE (g : Addr → Option Obj) : He.AlD × Bool := (He.obsDG 4 fa fn g, exB (He.frG g (He.asD g 4)))
def hk : PySem.W.Hook where
  α := He.AlD × Bool
  obs := fun s => obE s.heap.get?
  val := fun _ => (He.valD fn, true)
  says := fun _ h => ∃ K : PySem.W.Frag, K.In h ∧ He.SaysD fa fn K ∧ exB K = true
  of := fun _ _ e => ⟨_, He.frG_in, congrArg (fun z : He.AlD × Bool => z.1) e, congrArg (fun z : He.AlD × Bool => z.2) e⟩
  keeps := fun _ _ _ ⟨K, hK, c⟩ k => ⟨K, PySem.W.Frag.In.keeps hK k, c⟩
def ob (s : PySem.W.SharedT) : He.AlD × Bool := obE (HandSHeadRun.getT s)
theorem obE_eq {g : Addr → Option Obj} {s : Shared} (h : ∀ a, g a = s.heap.get? a) : obE g = hk.obs s := by
  have e : g = s.heap.get? := funext h
  rw [e] <;> rfl
theorem ob_eq (s : PySem.W.SharedT) : ob s = hk.obs s.abs := obE_eq (HandSHeadRun.getT_eq s)
def loose0 : List PySem.Str := ["CoreError", "BadText", "NoDeed", "Twice", "NoName", "OutOfBounds", "Taken", "KINDS", "ASKS", "CHANGES", "TESTS", "WEIGHTS", "OTHERS", "is_name", "is_number", "terms", "weight_of", "deed_of", "aimed", "read", "amount_of", "within", "label_told", "gone_over", "make_cell", "pool_place", "cells_made", "assembled", "parts", "Machine"]
def loose1 : List PySem.Str := ["skip", "added", "aim", "moved", "rolled", "changed", "tested", "deed", "MOST", "Person", "again", "hear", "say", "doze", "carry", "ask", "heard", "ticked", "happen", "picture", "Rooms", "room_with", "cells_of", "give_cells", "enter", "House", "load", "event_told", "settle", "start"]
def loose2 : List PySem.Str := ["tick", "run", "seen", "_law_cell", "_law_mix", "_law_message", "_law_text"]
def loose : List PySem.Str := loose0 ++ loose1 ++ loose2
theorem run (w : World) : HandSHeadRun.RunEq R (PySem.W.view R.prog [76]) hk ob 6000 loose w := by
  intro os
  kernel_rfl
end Hd
/-! ### Prelude: what a reading evaluates to (over HandS) -/
section prelude
variable {σ : L2.St} {H H' : Hp} {i j : Int} {n : Nat} {v x y z : V} {ta tb tc te tv : TE} {b c : Bool} {K : PySem.W.Frag} {a : Addr} {t u w : TT} {N : L2.St → Hp → Prop} {R : VK} {B C' : L2.St → Hp → Prop} {tz t1 t2 : TS} {tl : TA}
/-- an argument list evaluates to vs, the heap as it is -/
def ValA (t : TA) (σ : L2.St) (H : Hp) (vs : List V) : Prop := ∀ Q : List V → Hp → Prop, Q vs H → t σ H Q
theorem va_nil : ValA tNil σ H [] := fun _ q => q
theorem va_cons {vs : List V} (h : Val ta σ H x) (hr : ValA tl σ H vs) : ValA (tCons ta tl) σ H (x :: vs) := fun Q q => h _ (hr _ q)
theorem v_eqv (h : Val te σ H x) (e : x = y) : Val te σ H y := e ▸ h
theorem v_var {k : Nat} (h : σ[k]? = some (some v)) : Val (tVar k) σ H v := val_var h
theorem v_c : Val (tC v) σ H v := val_c
theorem v_add (ha : Val ta σ H (.int i)) (hb : Val tb σ H (.int j)) : Val (tOp (rI0 fun i j => .int (i + j)) ta tb) σ H (.int (i + j)) := val_op ha hb fun _ q => ⟨_, _, rfl, rfl, q⟩
theorem v_sub (ha : Val ta σ H (.int i)) (hb : Val tb σ H (.int j)) : Val (tOp (rI0 fun i j => .int (i - j)) ta tb) σ H (.int (i - j)) := val_op ha hb fun _ q => ⟨_, _, rfl, rfl, q⟩
theorem v_band (ha : Val ta σ H (.int i)) (hb : Val tb σ H (.int j)) : Val (tOp (rI0 fun i j => .int (Builtin.bitAnd i j)) ta tb) σ H (.int (Builtin.bitAnd i j)) := val_op ha hb fun _ q => ⟨_, _, rfl, rfl, q⟩
theorem v_mul (ha : Val ta σ H (.int i)) (hb : Val tb σ H (.int j)) (hc : CMul i j) : Val (tOp (rI CMul fun i j => .int (i * j)) ta tb) σ H (.int (i * j)) := val_op ha hb fun _ q => ⟨_, _, rfl, rfl, hc, q⟩
theorem v_mod (ha : Val ta σ H (.int i)) (hb : Val tb σ H (.int j)) (hc : 0 < j) : Val (tOp (rI (fun _ j => 0 < j) fun i j => .int (i % j)) ta tb) σ H (.int (i % j)) := val_op ha hb fun _ q => ⟨_, _, rfl, rfl, hc, q⟩
theorem v_fdiv (ha : Val ta σ H (.int i)) (hb : Val tb σ H (.int j)) (hc : CDiv i j) : Val (tOp (rI CDiv fun i j => .int (i / j)) ta tb) σ H (.int (i / j)) := val_op ha hb fun _ q => ⟨_, _, rfl, rfl, hc, q⟩
theorem v_neg (ha : Val ta σ H (.int i)) : Val (tUn (rU fun i => .int (-i)) ta) σ H (.int (-i)) := fun _ q => ha _ ⟨_, rfl, q⟩
theorem v_lt (ha : Val ta σ H (.int i)) (hb : Val tb σ H (.int j)) : Val (tOp (rI0 fun i j => .bl (decide (i < j))) ta tb) σ H (.bl (decide (i < j))) := val_op ha hb fun _ q => ⟨_, _, rfl, rfl, q⟩
theorem v_le (ha : Val ta σ H (.int i)) (hb : Val tb σ H (.int j)) : Val (tOp (rI0 fun i j => .bl (decide (i ≤ j))) ta tb) σ H (.bl (decide (i ≤ j))) := val_op ha hb fun _ q => ⟨_, _, rfl, rfl, q⟩
theorem v_gt (ha : Val ta σ H (.int i)) (hb : Val tb σ H (.int j)) : Val (tOp (rI0 fun i j => .bl (decide (j < i))) ta tb) σ H (.bl (decide (j < i))) := val_op ha hb fun _ q => ⟨_, _, rfl, rfl, q⟩
theorem v_ge (ha : Val ta σ H (.int i)) (hb : Val tb σ H (.int j)) : Val (tOp (rI0 fun i j => .bl (decide (j ≤ i))) ta tb) σ H (.bl (decide (j ≤ i))) := val_op ha hb fun _ q => ⟨_, _, rfl, rfl, q⟩
theorem dec_vint : decide (V.int i = V.int j) = decide (i = j) := by
  by_cases h : i = j
  · subst h; simp
  · have : ¬ V.int i = V.int j := fun e => h (V.int.inj e)
    simp [h]
theorem dec_vstr {p q : Str} : decide (V.str p = V.str q) = decide (p = q) := by
  by_cases h : p = q
  · subst h; simp
  · have : ¬ V.str p = V.str q := fun e => h (V.str.inj e)
    simp [h]
theorem dec_vbl : decide (V.bl b = V.bl c) = (b == c) := by cases b <;> cases c <;> rfl
theorem v_eqI (ha : Val ta σ H (.int i)) (hb : Val tb σ H (.int j)) : Val (tOp rEq ta tb) σ H (.bl (decide (i = j))) := val_op ha hb fun _ q => ⟨rfl, by rw [dec_vint]; exact q⟩
theorem v_neI (ha : Val ta σ H (.int i)) (hb : Val tb σ H (.int j)) : Val (tOp rNe ta tb) σ H (.bl (!decide (i = j))) := val_op ha hb fun _ q => ⟨rfl, by rw [dec_vint]; exact q⟩
theorem v_eqS {p r : Str} (ha : Val ta σ H (.str p)) (hb : Val tb σ H (.str r)) : Val (tOp rEq ta tb) σ H (.bl (decide (p = r))) := val_op ha hb fun _ q => ⟨rfl, by rw [dec_vstr]; exact q⟩
theorem v_neS {p r : Str} (ha : Val ta σ H (.str p)) (hb : Val tb σ H (.str r)) : Val (tOp rNe ta tb) σ H (.bl (!decide (p = r))) := val_op ha hb fun _ q => ⟨rfl, by rw [dec_vstr]; exact q⟩
theorem v_eqB (ha : Val ta σ H (.bl b)) (hb : Val tb σ H (.bl c)) : Val (tOp rEq ta tb) σ H (.bl (b == c)) := val_op ha hb fun _ q => ⟨rfl, by rw [dec_vbl]; exact q⟩
theorem v_neB (ha : Val ta σ H (.bl b)) (hb : Val tb σ H (.bl c)) : Val (tOp rNe ta tb) σ H (.bl (!(b == c))) := val_op ha hb fun _ q => ⟨rfl, by rw [dec_vbl]; exact q⟩
theorem v_eqV (ha : Val ta σ H x) (hb : Val tb σ H y) (hs : scal x y = true) : Val (tOp rEq ta tb) σ H (.bl (decide (x = y))) := val_op ha hb fun _ q => ⟨hs, q⟩
theorem v_neV (ha : Val ta σ H x) (hb : Val tb σ H y) (hs : scal x y = true) : Val (tOp rNe ta tb) σ H (.bl (!decide (x = y))) := val_op ha hb fun _ q => ⟨hs, q⟩
theorem v_isN (ha : Val ta σ H x) (hb : Val tb σ H .non) : Val (tOp rIsN ta tb) σ H (.bl (decide (x = .non))) := val_op ha hb fun _ q => ⟨rfl, q⟩
theorem v_notN (ha : Val ta σ H x) (hb : Val tb σ H .non) : Val (tOp rNotN ta tb) σ H (.bl (!decide (x = .non))) := val_op ha hb fun _ q => ⟨rfl, q⟩
/-- an item of a list, of a tuple -/
theorem v_ixL {p : Addr} {xs : List V} (ha : Val ta σ H (.ref p)) (hb : Val tb σ H (.int i)) (h : SqL K H p xs) (h0 : 0 ≤ i) (hx : xs[i.toNat]? = some v) : Val (tOp (rIxL K) ta tb) σ H v :=
  val_op ha hb fun _ q => ⟨_, _, _, _, rfl, rfl, h, at_of (j := i.toNat) (by omega) hx, q⟩
theorem v_ixT {p : Addr} {xs : List V} (ha : Val ta σ H (.ref p)) (hb : Val tb σ H (.int i)) (h : SqT K H p xs) (h0 : 0 ≤ i) (hx : xs[i.toNat]? = some v) : Val (tOp (rIxT K) ta tb) σ H v :=
  val_op ha hb fun _ q => ⟨_, _, _, _, rfl, rfl, h, at_of (j := i.toNat) (by omega) hx, q⟩
theorem v_ixLI {p : Addr} {ns : List Int} (ha : Val ta σ H (.ref p)) (hb : Val tb σ H (.int i)) (h : SqL K H p (ns.map V.int)) (h0 : 0 ≤ i) (hx : i < (ns.length : Int)) : Val (tOp (rIxL K) ta tb) σ H (.int (ns.getD i.toNat 0)) :=
  v_ixL ha hb h h0 (by
    have hl : i.toNat < ns.length := by omega
    rw [List.getElem?_map, List.getElem?_eq_getElem hl]
    simp [List.getD_eq_getElem?_getD, List.getElem?_eq_getElem hl])
theorem v_ixTI {p : Addr} {ns : List Int} (ha : Val ta σ H (.ref p)) (hb : Val tb σ H (.int i)) (h : SqT K H p (ns.map V.int)) (h0 : 0 ≤ i) (hx : i < (ns.length : Int)) : Val (tOp (rIxT K) ta tb) σ H (.int (ns.getD i.toNat 0)) :=
  v_ixT ha hb h h0 (by
    have hl : i.toNat < ns.length := by omega
    rw [List.getElem?_map, List.getElem?_eq_getElem hl]
    simp [List.getD_eq_getElem?_getD, List.getElem?_eq_getElem hl])
/-- a chain a < b <= c -/
theorem v_chain {r r' : R2} (ha : Val ta σ H x) (hb : Val tb σ H y) (h1 : ∀ Q : VK, Q (.bl b) H → r x y H Q) (hc : Val tc σ H z) (h2 : ∀ Q : VK, Q (.bl c) H → r' y z H Q) : Val (tChain r r' ta tb tc) σ H (.bl (b && c)) := fun Q q =>
  ha _ (hb _ (h1 _ ⟨b, rfl, by
    cases b with
    | true => exact (show _ from (show (if true = true then _ else _) from by rw [if_pos rfl]; exact hc _ (h2 _ q)))
    | false => exact (show (if false = true then _ else _) from by rw [if_neg Bool.false_ne_true]; exact q)⟩))
theorem rr_lt {Q : VK} (q : Q (.bl (decide (i < j))) H) : (rI0 fun i j => V.bl (decide (i < j))) (.int i) (.int j) H Q := ⟨_, _, rfl, rfl, q⟩
theorem rr_le {Q : VK} (q : Q (.bl (decide (i ≤ j))) H) : (rI0 fun i j => V.bl (decide (i ≤ j))) (.int i) (.int j) H Q := ⟨_, _, rfl, rfl, q⟩
theorem v_andV (ha : Val ta σ H (.bl b)) (hb : b = true → Val tb σ H (.bl c)) : Val (tAndV ta tb) σ H (.bl (b && c)) := fun Q q => ha _ ⟨b, rfl, by
  cases b with
  | true => exact (show (if true = true then _ else _) from by rw [if_pos rfl]; exact hb rfl _ q)
  | false => exact (show (if false = true then _ else _) from by rw [if_neg Bool.false_ne_true]; exact q)⟩
theorem v_orV (ha : Val ta σ H (.bl b)) (hb : b = false → Val tb σ H (.bl c)) : Val (tOrV ta tb) σ H (.bl (b || c)) := fun Q q => ha _ ⟨b, rfl, by
  cases b with
  | true => exact (show (if true = true then _ else _) from by rw [if_pos rfl]; exact q)
  | false => exact (show (if false = true then _ else _) from by rw [if_neg Bool.false_ne_true]; exact hb rfl _ q)⟩
theorem v_notV (ha : Val ta σ H (.bl b)) : Val (tNotV ta) σ H (.bl (!b)) := fun Q q => ha _ ⟨b, rfl, q⟩
theorem v_if (h : Ans t σ H b) (h1 : b = true → Val ta σ H v) (h2 : b = false → Val tb σ H v) : Val (tIf t ta tb) σ H v := fun Q q => h _ (by
  cases b with
  | true => exact (show (if true = true then _ else _) from by rw [if_pos rfl]; exact h1 rfl _ q)
  | false => exact (show (if false = true then _ else _) from by rw [if_neg Bool.false_ne_true]; exact h2 rfl _ q))
/-- a call that leaves the heap -/
theorem v_call {sp : Sp} {vs : List V} (h : ValA tl σ H vs) (hs : ∀ Q : VK, Q v H → sp vs H Q E0) : Val (tCall sp [] E0 tl) σ H v := fun Q q => h _ (show sp (vs ++ []) H Q E0 from by rw [List.append_nil]; exact hs Q q)
theorem v_cb {r : List V → Hp → VK → Prop} {vs : List V} (h : ValA tl σ H vs) (hs : ∀ Q : VK, Q v H → r vs H Q) : Val (tCB r tl) σ H v := fun Q q => h _ (hs Q q)
/-! tests -/
theorem a_t (h : Val te σ H (.bl b)) : Ans (tTest te) σ H b := fun _ q => h _ ⟨b, rfl, q⟩
theorem a_B (h : Val te σ H (.bl b)) : Ans (tB te) σ H b := fun _ q => h _ ⟨b, rfl, q⟩
theorem a_and (h1 : Ans t σ H b) (h2 : b = true → Ans u σ H c) : Ans (tAnd t u) σ H (b && c) := fun Q q => h1 _ (by
  cases b with
  | true => exact (show (if true = true then _ else _) from by rw [if_pos rfl]; exact h2 rfl Q q)
  | false => exact (show (if false = true then _ else _) from by rw [if_neg Bool.false_ne_true]; exact q))
theorem a_or (h1 : Ans t σ H b) (h2 : b = false → Ans u σ H c) : Ans (tOr t u) σ H (b || c) := fun Q q => h1 _ (by
  cases b with
  | true => exact (show (if true = true then _ else _) from by rw [if_pos rfl]; exact q)
  | false => exact (show (if false = true then _ else _) from by rw [if_neg Bool.false_ne_true]; exact h2 rfl Q q))
theorem a_not (h1 : Ans t σ H b) : Ans (tNot t) σ H (!b) := fun Q q => h1 _ q
theorem a_tru (ha : Val ta σ H x) (ht : TruV K x H b) : Ans (fun σ H Q => ta σ H fun x H' => ∃ k, TruV K x H' k ∧ Q k H') σ H b := ans_tru ha ht
/-! statements: q_ with something behind, s_ at a block's end -/
theorem q_set {k : Nat} (h : Val te σ H v) (q : tz ⟨N, R, B, C'⟩ (σ.set k (some v)) H) : tSeq (tAsg te (gName k)) tz ⟨N, R, B, C'⟩ σ H := h _ q
theorem s_set {k : Nat} (h : Val te σ H v) (q : N (σ.set k (some v)) H) : tAsg te (gName k) ⟨N, R, B, C'⟩ σ H := h _ q
theorem s_next (q : N σ H) : tNext ⟨N, R, B, C'⟩ σ H := q
theorem s_ret (h : Val te σ H v) (q : R v H) : tRet te ⟨N, R, B, C'⟩ σ H := h _ q
theorem q_drop (h : Val te σ H v) (q : tz ⟨N, R, B, C'⟩ σ H) : tSeq (tDrop te) tz ⟨N, R, B, C'⟩ σ H := h _ q
theorem q_if (h : Ans t σ H b) (h1 : b = true → t1 ⟨tz ⟨N, R, B, C'⟩, R, B, C'⟩ σ H) (h2 : b = false → t2 ⟨tz ⟨N, R, B, C'⟩, R, B, C'⟩ σ H) : tSeq (tIfS t t1 t2) tz ⟨N, R, B, C'⟩ σ H := h _ (by
  cases b with
  | true => exact (show (if true = true then _ else _) from by rw [if_pos rfl]; exact h1 rfl)
  | false => exact (show (if false = true then _ else _) from by rw [if_neg Bool.false_ne_true]; exact h2 rfl))
theorem s_if (h : Ans t σ H b) (h1 : b = true → t1 ⟨N, R, B, C'⟩ σ H) (h2 : b = false → t2 ⟨N, R, B, C'⟩ σ H) : tIfS t t1 t2 ⟨N, R, B, C'⟩ σ H := h _ (by
  cases b with
  | true => exact (show (if true = true then _ else _) from by rw [if_pos rfl]; exact h1 rfl)
  | false => exact (show (if false = true then _ else _) from by rw [if_neg Bool.false_ne_true]; exact h2 rfl))
theorem q_ifT (h : Ans t σ H b) (e : b = true) (q : t1 ⟨tz ⟨N, R, B, C'⟩, R, B, C'⟩ σ H) : tSeq (tIfS t t1 t2) tz ⟨N, R, B, C'⟩ σ H := q_if h (fun _ => q) (fun e' => by rw [e] at e'; cases e')
theorem q_ifF (h : Ans t σ H b) (e : b = false) (q : t2 ⟨tz ⟨N, R, B, C'⟩, R, B, C'⟩ σ H) : tSeq (tIfS t t1 t2) tz ⟨N, R, B, C'⟩ σ H := q_if h (fun e' => by rw [e] at e'; cases e') (fun _ => q)
theorem q_ifF0 (h : Ans t σ H b) (e : b = false) (q : tz ⟨N, R, B, C'⟩ σ H) : tSeq (tIfS t t1 tNext) tz ⟨N, R, B, C'⟩ σ H := q_ifF h e q
theorem s_ifT (h : Ans t σ H b) (e : b = true) (q : t1 ⟨N, R, B, C'⟩ σ H) : tIfS t t1 t2 ⟨N, R, B, C'⟩ σ H := s_if h (fun _ => q) (fun e' => by rw [e] at e'; cases e')
theorem s_ifF (h : Ans t σ H b) (e : b = false) (q : t2 ⟨N, R, B, C'⟩ σ H) : tIfS t t1 t2 ⟨N, R, B, C'⟩ σ H := s_if h (fun e' => by rw [e] at e'; cases e') (fun _ => q)
theorem s_ifF0 (h : Ans t σ H b) (e : b = false) (q : N σ H) : tIfS t t1 tNext ⟨N, R, B, C'⟩ σ H := s_ifF h e q
/-- a call as a statement; its value in a slot -/
theorem q_do {sp : Sp} {vs : List V} (h : ValA tl σ H vs) (hs : sp vs H (fun _ H' => tz ⟨N, R, B, C'⟩ σ H') E0) : tSeq (tDrop (tCall sp [] E0 tl)) tz ⟨N, R, B, C'⟩ σ H := h _ (show sp (vs ++ []) H _ E0 from by rw [List.append_nil]; exact hs)
theorem s_do {sp : Sp} {vs : List V} (h : ValA tl σ H vs) (hs : sp vs H (fun _ H' => N σ H') E0) : tDrop (tCall sp [] E0 tl) ⟨N, R, B, C'⟩ σ H := h _ (show sp (vs ++ []) H _ E0 from by rw [List.append_nil]; exact hs)
theorem q_setc {k : Nat} {sp : Sp} {vs : List V} (h : ValA tl σ H vs) (hs : sp vs H (fun v H' => tz ⟨N, R, B, C'⟩ (σ.set k (some v)) H') E0) : tSeq (tAsg (tCall sp [] E0 tl) (gName k)) tz ⟨N, R, B, C'⟩ σ H := h _ (show sp (vs ++ []) H _ E0 from by rw [List.append_nil]; exact hs)
theorem s_setc {k : Nat} {sp : Sp} {vs : List V} (h : ValA tl σ H vs) (hs : sp vs H (fun v H' => N (σ.set k (some v)) H') E0) : tAsg (tCall sp [] E0 tl) (gName k) ⟨N, R, B, C'⟩ σ H := h _ (show sp (vs ++ []) H _ E0 from by rw [List.append_nil]; exact hs)
theorem s_retc {sp : Sp} {vs : List V} (h : ValA tl σ H vs) (hs : sp vs H R E0) : tRet (tCall sp [] E0 tl) ⟨N, R, B, C'⟩ σ H := h _ (show sp (vs ++ []) H _ E0 from by rw [List.append_nil]; exact hs)
/-- new objects -/
theorem q_setL {k : Nat} {vs : List V} (h : ValA tl σ H vs) (hl : vs.length ≤ 100000) (q : ∀ p, H p = none → tz ⟨N, R, B, C'⟩ (σ.set k (some (.ref p))) (upd H p (.lst vs))) : tSeq (tAsg (tLst tl) (gName k)) tz ⟨N, R, B, C'⟩ σ H := h _ ⟨Nat.le_trans hl (by decide), fun p hp => q p hp⟩
theorem q_setT {k : Nat} {vs : List V} (h : ValA tl σ H vs) (hl : vs.length ≤ 100000) (q : ∀ p, H p = none → tz ⟨N, R, B, C'⟩ (σ.set k (some (.ref p))) (upd H p (.tup vs))) : tSeq (tAsg (tTup tl) (gName k)) tz ⟨N, R, B, C'⟩ σ H := h _ ⟨Nat.le_trans hl (by decide), fun p hp => q p hp⟩
theorem s_retT {vs : List V} (h : ValA tl σ H vs) (hl : vs.length ≤ 100000) (q : ∀ p, H p = none → R (.ref p) (upd H p (.tup vs))) : tRet (tTup tl) ⟨N, R, B, C'⟩ σ H := h _ ⟨Nat.le_trans hl (by decide), fun p hp => q p hp⟩
theorem s_retL {vs : List V} (h : ValA tl σ H vs) (hl : vs.length ≤ 100000) (q : ∀ p, H p = none → R (.ref p) (upd H p (.lst vs))) : tRet (tLst tl) ⟨N, R, B, C'⟩ σ H := h _ ⟨Nat.le_trans hl (by decide), fun p hp => q p hp⟩
end prelude
def rLenQ (K : PySem.W.Frag) : List V → Hp → VK → Prop := fun xs H Q => ∃ p ys, xs = [.ref p] ∧ (SqL K H p ys ∨ SqT K H p ys) ∧ Q (.int ys.length) H
/-! ### facts of the top, defs as they are called -/
structure Tx (K : PySem.W.Frag) (mg : Str → Option Value) : Prop where
  ex : ∃ h, K.In h ∧ h.Ns mainGlobals mg
  says : He.SaysD Hd.fa Hd.fn K
  more : Hd.exB K = true
section
variable {K : PySem.W.Frag} {mg : Str → Option Value}
theorem Tx.glo (T : Tx K mg) (i : Nat) {x : Str} (h : Hd.fa[i]? = some (.glo x) := by rfl) : mg x = some (.ref (He.ga K x)) := by
  obtain ⟨hp, X, G⟩ := T.ex
  exact He.glo_ok X G (T.says.fact i h)
theorem Tx.free (T : Tx K mg) (i : Nat) {x : Str} (h : Hd.fa[i]? = some (.free x) := by rfl) : mg x = none := by
  obtain ⟨hp, X, G⟩ := T.ex
  exact He.free_ok X G (T.says.fact i h)
theorem Tx.int (T : Tx K mg) (i : Nat) {x : Str} {z : Int} (h : Hd.fa[i]? = some (.int x z) := by rfl) : ∃ t, mg x = some (.int z t) := by
  obtain ⟨hp, X, G⟩ := T.ex
  exact He.int_ok X G (T.says.fact i h)
theorem Tx.cls (T : Tx K mg) (i : Nat) {x : Str} (h : Hd.fa[i]? = some (.cls x) := by rfl) : Cls K (He.ga K x) := He.cls_ok (T.says.fact i h)
theorem Tx.no (T : Tx K mg) (i : Nat) {x f : Str} (h : Hd.fa[i]? = some (.noat x f) := by rfl) : NoAttr K (He.ga K x) f := He.noat_ok (T.says.fact i h)
theorem Tx.mkr (T : Tx K mg) (i : Nat) {x : Str} (h : Hd.fa[i]? = some (.mkr x) := by rfl) : Mk K (He.ga K x) (He.ma K (He.ga K x) "__init__") := He.mkr_ok (T.says.fact i h)
end
/-- the def x as it may be called: by at most level k, its promise sp -/
structure Cal (P : Program) (w : World) (K : PySem.W.Frag) (mg : Str → Option Value) (base : Heap) (k : Nat) (x : Str) (ps : List Str) (sp : Sp) : Prop where
  ex : ∃ f fd, FnOk P w K mg base CX0 k f fd ps sp ∧ mg x = some (.ref f) ∧ PySem.W.keepIn K (.ref f) = true ∧ Binds K fd ps []
/-- a class x by its __init__ -/
structure CalC (P : Program) (w : World) (K : PySem.W.Frag) (mg : Str → Option Value) (base : Heap) (k : Nat) (x : Str) (ps : List Str) (sp : Sp) : Prop where
  ex : ∃ f fd, FnOk P w K mg base CX0 k f fd ps sp ∧ mg x = some (.ref (He.ga K x)) ∧ Mk K (He.ga K x) f ∧ Binds K fd ps []
section
variable {X : Cx} {x : Str} {ps : List Str} {sp : Sp} {k j : Nat} {e : Expr} {es : List Expr} {p pos : Pos} {t : TA}
theorem pe_cal (C : Cal X.prog X.w X.K X.mg X.base k x ps sp) (hr : Room j X.A) (hk : k ≤ j) (hg : Gl X x) (ha : PA X (e :: es) t) (hdb : (x == ("__debug__" : Str)) = false := by decide)
    (he : starEach (e :: es) X.env = (false, eval e X.env) :: starEach es X.env := by rfl) (hpl : (backTo pos (starEach es X.env)).any (·.1) = false := by rfl) : PE X (.Call (.Name x p) (e :: es) [] pos) (tCall sp [] E0 t) := by
  obtain ⟨f, fd, F, hm, hkp, hb⟩ := C.ex
  exact pe_call F (hr.mono hk) hg hm hkp hb .nil pass0 ha hdb he hpl
theorem pe_cal0 (C : Cal X.prog X.w X.K X.mg X.base k x ps sp) (hr : Room j X.A) (hk : k ≤ j) (hg : Gl X x) (hdb : (x == ("__debug__" : Str)) = false := by decide) : PE X (.Call (.Name x p) [] [] pos) (tCall sp [] E0 tNil) := by
  obtain ⟨f, fd, F, hm, hkp, hb⟩ := C.ex
  exact pe_call0 F (hr.mono hk) hg hm hkp hb .nil pass0 hdb
theorem pe_new (C : CalC X.prog X.w X.K X.mg X.base k x ps sp) (hr : Room j X.A) (hk : k + 1 ≤ j) (hg : Gl X x) (ha : PA X (e :: es) t) (hdb : (x == ("__debug__" : Str)) = false := by decide)
    (he : starEach (e :: es) X.env = (false, eval e X.env) :: starEach es X.env := by rfl) (hpl : (backTo pos (starEach es X.env)).any (·.1) = false := by rfl) : PE X (.Call (.Name x p) (e :: es) [] pos) (tMake (He.ga X.K x) sp [] E0 t) := by
  obtain ⟨f, fd, F, hm, M, hb⟩ := C.ex
  exact pe_make M F (hr.mono hk) hg hm hb .nil pass0 ha hdb he hpl
theorem pe_globI (hg : Gl X x) {z : Int} (h : ∃ t, X.mg x = some (.int z t)) (hdb : (x == ("__debug__" : Str)) = false := by decide) : PE X (.Name x p) (tC (.int z)) := by
  obtain ⟨t, e⟩ := h
  exact pe_glob hg e ⟨_, rfl⟩ hdb
end
theorem cal_mk {P : Program} {w : World} {K : PySem.W.Frag} {mg : Str → Option Value} {base : Heap} (T : Tx K mg) {k : Nat} {x : Str} {N ps : List Str} {st : Stmt} {sp : Sp} (i j : Nat)
    (hd : Hd.fn[i]? = some ⟨(x, none), x, x, defArgs st, defBody st, defScope st, [], []⟩) (hj : Hd.fa[j]? = some (.glo x)) (S : FnScope N ps (defScope st))
    (hb : ∀ (kV doc pm : Value) (an : Option Addr) (cdv ct : Value) (us : List Value), us.length = ps.length → bindArgs (PySem.W.fnOf x x (defArgs st) (defBody st) (defScope st) .none kV doc pm an cdv ct) ⟨us, []⟩ = pure (ps.zip us))
    (len : ∀ vs H Q E, sp vs H Q E → vs.length = ps.length)
    (body : ∀ (f : Addr) (cdv : Value) (A : Around) (outer : List Env) (s : Shared) (H : Hp) (vs : List V) (Q : VK) (E : XK), Room k (A.deeper (envOfC x (defScope st) s.heap.objs.size f cdv)) → sp vs H Q E →
      ∃ t, PSs (cxOf CX0 P w K mg base N x (defScope st) f cdv A outer s H E).nox (defBody st) t ∧ t { nx := fun _ H' => Q .non H', rt := Q } (start N vs) H) : Cal P w K mg base (k + 1) x ps sp := by
  obtain ⟨fd, F⟩ := T.says.def_ i hd
  refine ⟨_, fd, F.ok S len fun cdv A outer s H vs Q E hr h => ?_, T.glo j hj, F.kp, F.bindsN hb⟩
  obtain ⟨t, h1, h2⟩ := body _ cdv A outer s H vs Q E hr h
  exact ⟨t, h1.nox, h2⟩
theorem calC_mk {P : Program} {w : World} {K : PySem.W.Frag} {mg : Str → Option Value} {base : Heap} (T : Tx K mg) {k : Nat} {x q : Str} {N ps : List Str} {st : Stmt} {sp : Sp} (i j m : Nat)
    (hd : Hd.fn[i]? = some ⟨(x, some "__init__"), "__init__", q, defArgs st, defBody st, defScope st, [], []⟩) (hj : Hd.fa[j]? = some (.glo x)) (hm : Hd.fa[m]? = some (.mkr x)) (S : FnScope N ps (defScope st))
    (hb : ∀ (kV doc pm : Value) (an : Option Addr) (cdv ct : Value) (us : List Value), us.length = ps.length → bindArgs (PySem.W.fnOf "__init__" q (defArgs st) (defBody st) (defScope st) .none kV doc pm an cdv ct) ⟨us, []⟩ = pure (ps.zip us))
    (len : ∀ vs H Q E, sp vs H Q E → vs.length = ps.length)
    (body : ∀ (f : Addr) (cdv : Value) (A : Around) (outer : List Env) (s : Shared) (H : Hp) (vs : List V) (Q : VK) (E : XK), Room k (A.deeper (envOfC q (defScope st) s.heap.objs.size f cdv)) → sp vs H Q E →
      ∃ t, PSs (cxOf CX0 P w K mg base N q (defScope st) f cdv A outer s H E).nox (defBody st) t ∧ t { nx := fun _ H' => Q .non H', rt := Q } (start N vs) H) : CalC P w K mg base (k + 1) x ps sp := by
  obtain ⟨fd, F⟩ := T.says.def_ i hd
  refine ⟨_, fd, F.ok S len fun cdv A outer s H vs Q E hr h => ?_, T.glo j hj, T.mkr m hm, F.bindsN hb⟩
  obtain ⟨t, h1, h2⟩ := body _ cdv A outer s H vs Q E hr h
  exact ⟨t, h1.nox, h2⟩
/-! ### The machine: its mirror -/
structure Mc where
  cells : List Int
  total : Int
  mark : Int
  pc : Int
def getC (m : Mc) (i : Int) : Int := m.cells.getD i.toNat 0
def setC (m : Mc) (i v : Int) : Mc := { m with cells := m.cells.set i.toNat v }
def skipM (m : Mc) : Mc := { m with pc := (m.pc + 1) % 64 }
def addedM (m : Mc) (n : Int) : Mc := if 1024 ≤ m.total + n then { m with total := m.total + n - 1024, mark := 1 - m.mark } else { m with total := m.total + n }
def riseM (m : Mc) (i : Int) : Mc := setC m i ((getC m i + 1) % 1024)
def aimP (m : Mc) (far place : Int) : Mc := if far = 0 then m else if (decide (8 ≤ place) && decide (place < 12)) = true then riseM m place else m
def aimV (m : Mc) (far place : Int) : Int := if far = 0 then place else getC (aimP m far place) place % 64
def movedM (m : Mc) (kind place : Int) : Mc :=
  if kind = 0 then { m with total := Builtin.bitAnd m.total (getC m place) }
  else if kind = 1 then addedM m (getC m place)
  else if kind = 2 then (if getC (riseM m place) place = 0 then skipM (riseM m place) else riseM m place)
  else if kind = 3 then { setC m place m.total with total := 0 }
  else if kind = 4 then { setC m place m.pc with pc := (place + 1) % 64 }
  else { m with pc := place }
def rolled1 (m : Mc) (bits : Int) : Mc := if bits % 4 = 2 then { m with mark := m.total / 512, total := 2 * m.total % 1024 + m.mark } else m
def rolledM (m : Mc) (bits : Int) : Mc := if bits % 4 = 1 then { rolled1 m bits with mark := (rolled1 m bits).total % 2, total := (rolled1 m bits).total / 2 + 512 * m.mark } else rolled1 m bits
def chg1 (m : Mc) (bits : Int) : Mc := if bits / 32 = 1 then { m with total := 0 } else m
def chg2 (m : Mc) (bits : Int) : Mc := if bits / 16 % 2 = 1 then { m with total := 1023 - m.total } else m
def chg3 (m : Mc) (bits : Int) : Mc := if bits / 8 % 2 = 1 then { m with mark := 1 - m.mark } else m
def chg4 (m : Mc) (bits : Int) : Mc := if bits / 4 % 2 = 1 then addedM m 1 else m
def changedM (m : Mc) (bits : Int) : Mc := rolledM (chg4 (chg3 (chg2 (chg1 m bits) bits) bits) bits) bits
def foundM (m : Mc) (bits : Int) : Bool := (decide (bits / 32 = 1) && decide (512 ≤ m.total)) || (decide (bits / 16 % 2 = 1) && decide (m.total = 0)) || (decide (bits / 8 % 2 = 1) && decide (m.mark = 1))
def tst1 (m : Mc) (bits : Int) : Mc := if (!(foundM m bits == decide (bits / 4 % 2 = 1))) = true then skipM m else m
def tst2 (m : Mc) (bits : Int) : Mc := if bits / 2 % 2 = 1 then { m with total := 0 } else m
def tst3 (m : Mc) (bits : Int) : Mc := if bits % 2 = 1 then { m with mark := 0 } else m
def testedM (m : Mc) (bits : Int) : Mc := tst3 (tst2 (tst1 m bits) bits) bits
def deedM (m : Mc) : Mc :=
  let n := getC m m.pc
  let m1 := skipM m
  if n / 128 < 6 then movedM (aimP m1 (n / 64 % 2) (n % 64)) (n / 128) (aimV m1 (n / 64 % 2) (n % 64))
  else if n / 128 = 6 then m1
  else if n / 64 % 2 = 0 then changedM m1 (n % 64) else testedM m1 (n % 64)
def deedV (m : Mc) : V := if getC m m.pc / 128 = 6 then .int (getC m m.pc % 64) else .non
/-- what the walk needs: 64 cells, the at a place -/
structure Wm (m : Mc) : Prop where
  len : m.cells.length = 64
  lo : 0 ≤ m.pc
  hi : m.pc < 64
/-- words everywhere -/
structure WfM (m : Mc) : Prop extends Wm m where
  cell : ∀ c ∈ m.cells, 0 ≤ c ∧ c < 1024
  tlo : 0 ≤ m.total
  thi : m.total < 1024
  bit : m.mark = 0 ∨ m.mark = 1
/-! ### The machine in the heap -/
def mfs (l : Addr) (m : Mc) : List (Str × V) := [("cells", .ref l), ("total", .int m.total), ("mark", .int m.mark), ("at", .int m.pc)]
def mput (C : Addr) (H : Hp) (p dx l : Addr) (m : Mc) : Hp := upd (upd H l (.lst (m.cells.map V.int))) p (.ins C dx (mfs l m))
structure MTx (K : PySem.W.Frag) (C : Addr) : Prop where
  cl : Cls K C
  nCells : NoAttr K C "cells"
  nTotal : NoAttr K C "total"
  nMark : NoAttr K C "mark"
  nAt : NoAttr K C "at"
section
variable {K : PySem.W.Frag} {C : Addr} {H : Hp} {p dx l a : Addr} {m m' : Mc} {σ : L2.St} {ta tv ti : TE} {N : L2.St → Hp → Prop} {R : VK} {B C' : L2.St → Hp → Prop} {tz : TS} {z i : Int}
theorem mput_p : mput C H p dx l m p = some (.ins C dx (mfs l m)) := upd_same
theorem mput_l (h : l ≠ p) : mput C H p dx l m l = some (.lst (m.cells.map V.int)) := by unfold mput; rw [upd_ne h, upd_same]
theorem mput_ne (h1 : a ≠ p) (h2 : a ≠ l) : mput C H p dx l m a = H a := by unfold mput; rw [upd_ne h1, upd_ne h2]
theorem mput_mput : mput C (mput C H p dx l m) p dx l m' = mput C H p dx l m' := by
  funext b; unfold mput upd
  by_cases h1 : b = p <;> by_cases h2 : b = l <;> simp [h1, h2]
theorem mput_id (h1 : H p = some (.ins C dx (mfs l m))) (h2 : H l = some (.lst (m.cells.map V.int))) : mput C H p dx l m = H := by
  funext b; unfold mput upd
  by_cases e1 : b = p
  · subst e1; rw [if_pos rfl, h1]
  · rw [if_neg e1]
    by_cases e2 : b = l
    · subst e2; rw [if_pos rfl, h2]
    · rw [if_neg e2]
theorem mput_ins (h : m'.cells = m.cells) : upd (mput C H p dx l m) p (.ins C dx (mfs l m')) = mput C H p dx l m' := by
  unfold mput; rw [h, upd_upd]
theorem mput_lst (h : l ≠ p) {cs : List Int} : upd (mput C H p dx l m) l (.lst (cs.map V.int)) = mput C H p dx l { m with cells := cs } := by
  funext b; unfold mput upd
  by_cases h2 : b = l
  · subst h2; rw [if_pos rfl, if_neg h, if_pos rfl]
  · rw [if_neg h2]
    by_cases h1 : b = p
    · rw [if_pos h1, if_pos h1]; rfl
    · rw [if_neg h1, if_neg h2, if_neg h1, if_neg h2]
theorem mput_new {o : HO} {q : Addr} (hq : mput C H p dx l m q = none) : upd (mput C H p dx l m) q o = mput C (upd H q o) p dx l m ∧ H q = none := by
  have n1 : q ≠ p := fun e => by subst e; rw [mput_p] at hq; cases hq
  have n2 : q ≠ l := fun e => by
    subst e
    unfold mput at hq
    rw [upd_ne n1, upd_same] at hq
    cases hq
  refine ⟨?_, by rwa [mput_ne n1 n2] at hq⟩
  funext b; unfold mput upd
  by_cases h1 : b = q
  · subst h1; simp [n1, n2]
  · simp [h1]
theorem mput_same {H' : Hp} (h : Same H H') : Same (mput C H p dx l m) (mput C H' p dx l m) := fun b o e => by
  unfold mput upd at *
  by_cases h1 : b = p
  · simpa [h1] using e
  · by_cases h2 : b = l
    · simpa [h1, h2] using e
    · simp [h1, h2] at *; exact h b o e
theorem mf_cells : (mfs l m).lookup ("cells" : Str) = some (V.ref l) := by kernel_rfl
theorem mf_total : (mfs l m).lookup ("total" : Str) = some (V.int m.total) := by kernel_rfl
theorem mf_mark : (mfs l m).lookup ("mark" : Str) = some (V.int m.mark) := by kernel_rfl
theorem mf_at : (mfs l m).lookup ("at" : Str) = some (V.int m.pc) := by kernel_rfl
theorem mq_total : putF "total" (.int z) (mfs l m) = mfs l { m with total := z } := by kernel_rfl
theorem mq_mark : putF "mark" (.int z) (mfs l m) = mfs l { m with mark := z } := by kernel_rfl
theorem mq_at : putF "at" (.int z) (mfs l m) = mfs l { m with pc := z } := by kernel_rfl
theorem mq_cells : putF "cells" (.ref a) (mfs l m) = mfs a m := by kernel_rfl
theorem vm_cells (M : MTx K C) (h : Val ta σ (mput C H p dx l m) (.ref p)) : Val (tFld K ta "cells") σ (mput C H p dx l m) (.ref l) := val_fld h mput_p M.cl M.nCells mf_cells
theorem vm_total (M : MTx K C) (h : Val ta σ (mput C H p dx l m) (.ref p)) : Val (tFld K ta "total") σ (mput C H p dx l m) (.int m.total) := val_fld h mput_p M.cl M.nTotal mf_total
theorem vm_mark (M : MTx K C) (h : Val ta σ (mput C H p dx l m) (.ref p)) : Val (tFld K ta "mark") σ (mput C H p dx l m) (.int m.mark) := val_fld h mput_p M.cl M.nMark mf_mark
theorem vm_at (M : MTx K C) (h : Val ta σ (mput C H p dx l m) (.ref p)) : Val (tFld K ta "at") σ (mput C H p dx l m) (.int m.pc) := val_fld h mput_p M.cl M.nAt mf_at
theorem vm_item (M : MTx K C) (hne : l ≠ p) (h : Val ta σ (mput C H p dx l m) (.ref p)) (hi : Val ti σ (mput C H p dx l m) (.int i)) (h0 : 0 ≤ i) (h1 : i < (m.cells.length : Int)) : Val (tOp (rIxL K) (tFld K ta "cells") ti) σ (mput C H p dx l m) (.int (getC m i)) :=
  v_ixLI (vm_cells M h) hi (SqL.of (mput_l hne)) h0 h1
theorem sm_total (M : MTx K C) (hv : Val tv σ (mput C H p dx l m) (.int z)) (ha : Val ta σ (mput C H p dx l m) (.ref p)) (q : N σ (mput C H p dx l { m with total := z })) : sFld K ta tv "total" ⟨N, R, B, C'⟩ σ (mput C H p dx l m) :=
  st_fld hv ha mput_p M.cl M.nTotal (by show 4 < 1000; decide) (by rw [mq_total, mput_ins (m := m) (m' := { m with total := z }) rfl]; exact q)
theorem sm_mark (M : MTx K C) (hv : Val tv σ (mput C H p dx l m) (.int z)) (ha : Val ta σ (mput C H p dx l m) (.ref p)) (q : N σ (mput C H p dx l { m with mark := z })) : sFld K ta tv "mark" ⟨N, R, B, C'⟩ σ (mput C H p dx l m) :=
  st_fld hv ha mput_p M.cl M.nMark (by show 4 < 1000; decide) (by rw [mq_mark, mput_ins (m := m) (m' := { m with mark := z }) rfl]; exact q)
theorem sm_at (M : MTx K C) (hv : Val tv σ (mput C H p dx l m) (.int z)) (ha : Val ta σ (mput C H p dx l m) (.ref p)) (q : N σ (mput C H p dx l { m with pc := z })) : sFld K ta tv "at" ⟨N, R, B, C'⟩ σ (mput C H p dx l m) :=
  st_fld hv ha mput_p M.cl M.nAt (by show 4 < 1000; decide) (by rw [mq_at, mput_ins (m := m) (m' := { m with pc := z }) rfl]; exact q)
theorem ixN_int {n : Nat} (h0 : 0 ≤ i) (h1 : i < (n : Int)) : ixN n i = some i.toNat := by
  unfold ixN; rw [if_pos h0, if_pos h1]
theorem sm_item (M : MTx K C) (hne : l ≠ p) (hv : Val tv σ (mput C H p dx l m) (.int z)) (ha : Val ta σ (mput C H p dx l m) (.ref p)) (hi : Val ti σ (mput C H p dx l m) (.int i)) (h0 : 0 ≤ i) (h1 : i < (m.cells.length : Int))
    (q : N σ (mput C H p dx l (setC m i z))) : tAsg tv (gSub (tFld K ta "cells") ti rSetL) ⟨N, R, B, C'⟩ σ (mput C H p dx l m) :=
  hv _ (vm_cells M ha _ (hi _ ⟨l, _, i, i.toNat, rfl, rfl, mput_l hne, ixN_int h0 (by rw [List.length_map]; exact h1), by
    rw [← List.map_set, mput_lst hne]; exact q⟩))
theorem qm_total (M : MTx K C) (hv : Val tv σ (mput C H p dx l m) (.int z)) (ha : Val ta σ (mput C H p dx l m) (.ref p)) (q : tz ⟨N, R, B, C'⟩ σ (mput C H p dx l { m with total := z })) : tSeq (sFld K ta tv "total") tz ⟨N, R, B, C'⟩ σ (mput C H p dx l m) := sm_total (N := tz ⟨N, R, B, C'⟩) (R := R) (B := B) (C' := C') M hv ha q
theorem qm_mark (M : MTx K C) (hv : Val tv σ (mput C H p dx l m) (.int z)) (ha : Val ta σ (mput C H p dx l m) (.ref p)) (q : tz ⟨N, R, B, C'⟩ σ (mput C H p dx l { m with mark := z })) : tSeq (sFld K ta tv "mark") tz ⟨N, R, B, C'⟩ σ (mput C H p dx l m) := sm_mark (N := tz ⟨N, R, B, C'⟩) (R := R) (B := B) (C' := C') M hv ha q
theorem qm_at (M : MTx K C) (hv : Val tv σ (mput C H p dx l m) (.int z)) (ha : Val ta σ (mput C H p dx l m) (.ref p)) (q : tz ⟨N, R, B, C'⟩ σ (mput C H p dx l { m with pc := z })) : tSeq (sFld K ta tv "at") tz ⟨N, R, B, C'⟩ σ (mput C H p dx l m) := sm_at (N := tz ⟨N, R, B, C'⟩) (R := R) (B := B) (C' := C') M hv ha q
theorem qm_item (M : MTx K C) (hne : l ≠ p) (hv : Val tv σ (mput C H p dx l m) (.int z)) (ha : Val ta σ (mput C H p dx l m) (.ref p)) (hi : Val ti σ (mput C H p dx l m) (.int i)) (h0 : 0 ≤ i) (h1 : i < (m.cells.length : Int))
    (q : tz ⟨N, R, B, C'⟩ σ (mput C H p dx l (setC m i z))) : tSeq (tAsg tv (gSub (tFld K ta "cells") ti rSetL)) tz ⟨N, R, B, C'⟩ σ (mput C H p dx l m) := sm_item (N := tz ⟨N, R, B, C'⟩) (R := R) (B := B) (C' := C') M hne hv ha hi h0 h1 q
end
theorem not_dec {p : Prop} [Decidable p] {b : Bool} : ((!decide p) = b) = (decide p = !b) := by cases b <;> simp
theorem q_cutH {σ : L2.St} {H H1 : Hp} {N : L2.St → Hp → Prop} {R : VK} {B C' : L2.St → Hp → Prop} {t1 tz : TS} (h : t1 ⟨fun σ' H' => σ' = σ ∧ H' = H1, R, B, C'⟩ σ H) (k : tz ⟨N, R, B, C'⟩ σ H1) : C8.tCut t1 tz ⟨N, R, B, C'⟩ σ H := ⟨_, h, by rintro _ _ ⟨rfl, rfl⟩; exact k⟩
/-! promises of the machine's defs: on the machine at p with its cells at l, in the heap H0 else -/
def spParts : Sp := fun vs H Q _ => ∃ n : Int, vs = [.int n] ∧ ∀ p, H p = none → Q (.ref p) (upd H p (.tup [.int (n / 128), .int (n / 64 % 2), .int (n % 64)]))
def spSkip (C : Addr) : Sp := fun vs H Q _ => ∃ (H0 : Hp) (p dx l : Addr) (m : Mc), vs = [.ref p] ∧ H = mput C H0 p dx l m ∧ Q .non (mput C H0 p dx l (skipM m))
def spAdded (C : Addr) : Sp := fun vs H Q _ => ∃ (H0 : Hp) (p dx l : Addr) (m : Mc) (n : Int), vs = [.ref p, .int n] ∧ H = mput C H0 p dx l m ∧ Q .non (mput C H0 p dx l (addedM m n))
def spAim (C : Addr) : Sp := fun vs H Q _ => ∃ (H0 : Hp) (p dx l : Addr) (m : Mc) (far place : Int), vs = [.ref p, .int far, .int place] ∧ l ≠ p ∧ m.cells.length = 64 ∧ 0 ≤ place ∧ place < 64 ∧ H = mput C H0 p dx l m ∧ Q (.int (aimV m far place)) (mput C H0 p dx l (aimP m far place))
def spMoved (C : Addr) : Sp := fun vs H Q _ => ∃ (H0 : Hp) (p dx l : Addr) (m : Mc) (kind place : Int), vs = [.ref p, .int kind, .int place] ∧ l ≠ p ∧ m.cells.length = 64 ∧ 0 ≤ place ∧ place < 64 ∧ H = mput C H0 p dx l m ∧ Q .non (mput C H0 p dx l (movedM m kind place))
def spBits (C : Addr) (f : Mc → Int → Mc) : Sp := fun vs H Q _ => ∃ (H0 : Hp) (p dx l : Addr) (m : Mc) (bits : Int), vs = [.ref p, .int bits] ∧ H = mput C H0 p dx l m ∧ Q .non (mput C H0 p dx l (f m bits))
def spDeed (C : Addr) : Sp := fun vs H Q _ => ∃ (H0 : Hp) (p dx l : Addr) (m : Mc), vs = [.ref p] ∧ l ≠ p ∧ Wm m ∧ H = mput C H0 p dx l m ∧ ∀ H1, Same H0 H1 → Q (deedV m) (mput C H1 p dx l (deedM m))
def spMachine (K : PySem.W.Frag) (C : Addr) : Sp := fun vs H Q _ => ∃ (x dx a : Addr) (cs : List Int) (t mk pc : Int), vs = [.ref x, .ref a, .int t, .int mk, .int pc] ∧ H x = some (.ins C dx []) ∧ (SqL K H a (cs.map V.int) ∨ SqT K H a (cs.map V.int)) ∧ ∀ l, H l = none → Q .non (mput C H x dx l ⟨cs, t, mk, pc⟩)
theorem aimP_len {m : Mc} {f p : Int} : (aimP m f p).cells.length = m.cells.length := by
  unfold aimP riseM setC; split <;> (try split) <;> simp
theorem aimV_lo {m : Mc} {f p : Int} (h : 0 ≤ p) : 0 ≤ aimV m f p := by unfold aimV; split <;> omega
theorem aimV_hi {m : Mc} {f p : Int} (h : p < 64) : aimV m f p < 64 := by unfold aimV; split <;> omega
theorem getC_at {m : Mc} {i : Int} (h0 : 0 ≤ i) (h1 : i < (m.cells.length : Int)) {v : Int} : getC (setC m i v) i = v := by
  unfold getC setC
  have : i.toNat < m.cells.length := by omega
  simp [List.getD_eq_getElem?_getD, this]
theorem skip_len {m : Mc} : (skipM m).cells.length = m.cells.length := rfl
theorem setC_setC {m : Mc} {i v w : Int} : setC (setC m i v) i w = setC m i w := by unfold setC; simp
theorem Tx.mt {K : PySem.W.Frag} {mg : Str → Option Value} (T : Tx K mg) : MTx K (He.ga K "Machine") := ⟨T.cls 67, T.no 69, T.no 70, T.no 71, T.no 72⟩

section
variable {P : Program} {w : World} {K : PySem.W.Frag} {mg : Str → Option Value} {base : Heap}

theorem sc_parts : FnScope ["number"] ["number"] (defScope s_parts) := ⟨rfl, rfl, rfl, by decide +kernel, rfl, by decide +kernel, by decide +kernel⟩
theorem cal_parts (T : Tx K mg) : Cal P w K mg base 1 "parts" ["number"] spParts := by
  refine cal_mk T 15 15 rfl rfl sc_parts (fun _ _ _ _ _ _ us hl => match us, hl with | [_], _ => rfl) (fun vs H Q E h => ?_) (fun f cdv A outer s H vs Q E hr h => ?_)
  · obtain ⟨n, rfl, k⟩ := h
    rfl
  · obtain ⟨n, rfl, k⟩ := h
    refine ⟨_, (pss_one (ps_ret (pe_tup (pa_cons (pe_op op_fdiv (pv 0) pe_int) (pa_cons (pe_op op_mod (pe_op op_fdiv (pv 0) pe_int) pe_int) (pa_cons (pe_op op_mod (pv 0) pe_int) pa_nil)))))), ?_⟩
    refine s_retT (va_cons (v_fdiv (v_var rfl) v_c ⟨by decide, by decide⟩) (va_cons (v_mod (v_fdiv (v_var rfl) v_c ⟨by decide, by decide⟩) v_c (by decide)) (va_cons (v_mod (v_var rfl) v_c (by decide)) va_nil))) (by simp) (fun rp hrp => ?_)
    exact k rp hrp

theorem sc_skip : FnScope ["machine"] ["machine"] (defScope s_skip) := ⟨rfl, rfl, rfl, by decide +kernel, rfl, by decide +kernel, by decide +kernel⟩
theorem cal_skip (T : Tx K mg) : Cal P w K mg base 1 "skip" ["machine"] (spSkip (He.ga K "Machine")) := by
  refine cal_mk T 16 16 rfl rfl sc_skip (fun _ _ _ _ _ _ us hl => match us, hl with | [_], _ => rfl) (fun vs H Q E h => ?_) (fun f cdv A outer s H vs Q E hr h => ?_)
  · obtain ⟨H0, p, dx, l, m, rfl, rfl, k⟩ := h
    rfl
  · obtain ⟨H0, p, dx, l, m, rfl, rfl, k⟩ := h
    have M := T.mt
    refine ⟨_, (pss_one (ps_fld (pv 0) (pe_op op_mod (pe_op op_add (pe_fld (pv 0) rfl) pe_int) pe_int) rfl)), ?_⟩
    refine sm_at M (v_mod (v_add (vm_at M (v_var rfl)) v_c) v_c (by decide)) (v_var rfl) ?_
    exact k

theorem sc_added : FnScope ["machine", "number", "amount"] ["machine", "number"] (defScope s_added) := ⟨rfl, rfl, rfl, by decide +kernel, rfl, by decide +kernel, by decide +kernel⟩
theorem cal_added (T : Tx K mg) : Cal P w K mg base 1 "added" ["machine", "number"] (spAdded (He.ga K "Machine")) := by
  refine cal_mk T 17 17 rfl rfl sc_added (fun _ _ _ _ _ _ us hl => match us, hl with | [_, _], _ => rfl) (fun vs H Q E h => ?_) (fun f cdv A outer s H vs Q E hr h => ?_)
  · obtain ⟨H0, p, dx, l, m, n, rfl, rfl, k⟩ := h
    rfl
  · obtain ⟨H0, p, dx, l, m, n, rfl, rfl, k⟩ := h
    have M := T.mt
    refine ⟨_, (pss_cons (ps_set (i := 2) sc_added.nd rfl (Or.inl rfl) (pe_op op_add (pe_fld (pv 0) rfl) (pv 1))) (pss_cons (ps_if (pt_cmpR op_ge (pv 2) pe_int (nomark _)) (pss_cons (ps_set (i := 2) sc_added.nd rfl (Or.inl rfl) (pe_op op_sub (pv 2) pe_int)) (pss_one (ps_fld (pv 0) (pe_op op_sub pe_int (pe_fld (pv 0) rfl)) rfl))) pss_nil) (pss_one (ps_fld (pv 0) (pv 2) rfl)))), ?_⟩
    refine q_set (v_add (vm_total M (v_var rfl)) (v_var rfl)) ?_
    refine q_if (a_t (v_ge (v_var rfl) v_c)) (fun h1 => ?_) (fun h1 => ?_)
    · refine q_set (v_sub (v_var rfl) v_c) ?_
      refine sm_mark M (v_sub v_c (vm_mark M (v_var rfl))) (v_var rfl) ?_
      refine sm_total M (v_var rfl) (v_var rfl) ?_
      try simp only [decide_eq_true_eq, decide_eq_false_iff_not, not_dec] at h1
      simp only [addedM, h1, if_true, if_false, if_pos, if_neg, not_false_eq_true, reduceIte, Bool.false_eq_true] at k ⊢
      exact k
    · refine s_next ?_
      refine sm_total M (v_var rfl) (v_var rfl) ?_
      try simp only [decide_eq_true_eq, decide_eq_false_iff_not, not_dec] at h1
      simp only [addedM, h1, if_true, if_false, if_pos, if_neg, not_false_eq_true, reduceIte, Bool.false_eq_true] at k ⊢
      exact k

theorem sc_aim : FnScope ["machine", "far", "place"] ["machine", "far", "place"] (defScope s_aim) := ⟨rfl, rfl, rfl, by decide +kernel, rfl, by decide +kernel, by decide +kernel⟩
theorem cal_aim (T : Tx K mg) : Cal P w K mg base 1 "aim" ["machine", "far", "place"] (spAim (He.ga K "Machine")) := by
  refine cal_mk T 18 18 rfl rfl sc_aim (fun _ _ _ _ _ _ us hl => match us, hl with | [_, _, _], _ => rfl) (fun vs H Q E h => ?_) (fun f cdv A outer s H vs Q E hr h => ?_)
  · obtain ⟨H0, p, dx, l, m, far, place, rfl, hne, hl, p0, p1, rfl, k⟩ := h
    rfl
  · obtain ⟨H0, p, dx, l, m, far, place, rfl, hne, hl, p0, p1, rfl, k⟩ := h
    have M := T.mt
    refine ⟨_, (pss_cons (ps_if (pt_cmpR op_eq (pv 1) pe_int (nomark _)) (pss_one (ps_ret (pv 2))) pss_nil) (pss_cons (ps_if (pt_chain op_le op_lt pe_int (pv 2) pe_int) (pss_one (ps_asg (pe_op op_mod (pe_op op_add (pe_ix ix_list (pe_fld (pv 0) rfl) (pv 2) (fun _ _ => rfl)) pe_int) pe_int) (pg_sub (pe_fld (pv 0) rfl) (pv 2) set_list))) pss_nil) (pss_one (ps_ret (pe_op op_mod (pe_ix ix_list (pe_fld (pv 0) rfl) (pv 2) (fun _ _ => rfl)) pe_int))))), ?_⟩
    refine q_if (a_t (v_eqI (v_var rfl) v_c)) (fun h1 => ?_) (fun h1 => ?_)
    · refine s_ret (v_var rfl) ?_
      try simp only [decide_eq_true_eq, decide_eq_false_iff_not, not_dec] at h1
      simp only [aimV, aimP, riseM, h1, if_true, if_false, if_pos, if_neg, not_false_eq_true, reduceIte, Bool.false_eq_true] at k ⊢
      exact k
    · refine s_next ?_
      refine q_if (a_t (v_chain v_c (v_var rfl) (fun _ q => rr_le q) v_c (fun _ q => rr_lt q))) (fun h2 => ?_) (fun h2 => ?_)
      · refine sm_item M hne (v_mod (v_add (vm_item M hne (v_var rfl) (v_var rfl) (by first | omega | (simp only [setC, List.length_set, skip_len, aimP_len] at *; omega)) (by first | omega | (simp only [setC, List.length_set, skip_len, aimP_len] at *; omega))) v_c) v_c (by decide)) (v_var rfl) (v_var rfl) (by first | omega | (simp only [setC, List.length_set, skip_len, aimP_len] at *; omega)) (by first | omega | (simp only [setC, List.length_set, skip_len, aimP_len] at *; omega)) ?_
        refine s_ret (v_mod (vm_item M hne (v_var rfl) (v_var rfl) (by first | omega | (simp only [setC, List.length_set, skip_len, aimP_len] at *; omega)) (by first | omega | (simp only [setC, List.length_set, skip_len, aimP_len] at *; omega))) v_c (by decide)) ?_
        try simp only [decide_eq_true_eq, decide_eq_false_iff_not, not_dec] at h1 h2
        simp only [aimV, aimP, riseM, h1, h2, if_true, if_false, if_pos, if_neg, not_false_eq_true, reduceIte, Bool.false_eq_true] at k ⊢
        exact k
      · refine s_next ?_
        refine s_ret (v_mod (vm_item M hne (v_var rfl) (v_var rfl) (by first | omega | (simp only [setC, List.length_set, skip_len, aimP_len] at *; omega)) (by first | omega | (simp only [setC, List.length_set, skip_len, aimP_len] at *; omega))) v_c (by decide)) ?_
        try simp only [decide_eq_true_eq, decide_eq_false_iff_not, not_dec] at h1 h2
        simp only [aimV, aimP, riseM, h1, h2, if_true, if_false, if_pos, if_neg, not_false_eq_true, reduceIte, Bool.false_eq_true] at k ⊢
        exact k

theorem sc_moved : FnScope ["machine", "kind", "place"] ["machine", "kind", "place"] (defScope s_moved) := ⟨rfl, rfl, rfl, by decide +kernel, rfl, by decide +kernel, by decide +kernel⟩
theorem cal_moved (T : Tx K mg) : Cal P w K mg base 2 "moved" ["machine", "kind", "place"] (spMoved (He.ga K "Machine")) := by
  refine cal_mk T 19 19 rfl rfl sc_moved (fun _ _ _ _ _ _ us hl => match us, hl with | [_, _, _], _ => rfl) (fun vs H Q E h => ?_) (fun f cdv A outer s H vs Q E hr h => ?_)
  · obtain ⟨H0, p, dx, l, m, kind, place, rfl, hne, hl, p0, p1, rfl, k⟩ := h
    rfl
  · obtain ⟨H0, p, dx, l, m, kind, place, rfl, hne, hl, p0, p1, rfl, k⟩ := h
    have M := T.mt
    refine ⟨_, (pss_one (ps_if (pt_cmpR op_eq (pv 1) pe_int (nomark _)) (pss_one (ps_fld (pv 0) (pe_op op_and (pe_fld (pv 0) rfl) (pe_ix ix_list (pe_fld (pv 0) rfl) (pv 2) (fun _ _ => rfl))) rfl)) (pss_one (ps_if (pt_cmpR op_eq (pv 1) pe_int (nomark _)) (pss_one (ps_expr (pe_cal (cal_added (K := K) T) hr (by decide) rfl (pa_cons (pv 0) (pa_cons (pe_ix ix_list (pe_fld (pv 0) rfl) (pv 2) (fun _ _ => rfl)) pa_nil))))) (pss_one (ps_if (pt_cmpR op_eq (pv 1) pe_int (nomark _)) (pss_cons (ps_asg (pe_op op_mod (pe_op op_add (pe_ix ix_list (pe_fld (pv 0) rfl) (pv 2) (fun _ _ => rfl)) pe_int) pe_int) (pg_sub (pe_fld (pv 0) rfl) (pv 2) set_list)) (pss_one (ps_if (pt_cmpR op_eq (pe_ix ix_list (pe_fld (pv 0) rfl) (pv 2) (fun _ _ => rfl)) pe_int (nomark _)) (pss_one (ps_expr (pe_cal (cal_skip (K := K) T) hr (by decide) rfl (pa_cons (pv 0) pa_nil)))) pss_nil))) (pss_one (ps_if (pt_cmpR op_eq (pv 1) pe_int (nomark _)) (pss_cons (ps_asg (pe_fld (pv 0) rfl) (pg_sub (pe_fld (pv 0) rfl) (pv 2) set_list)) (pss_one (ps_fld (pv 0) pe_int rfl))) (pss_one (ps_if (pt_cmpR op_eq (pv 1) pe_int (nomark _)) (pss_cons (ps_asg (pe_fld (pv 0) rfl) (pg_sub (pe_fld (pv 0) rfl) (pv 2) set_list)) (pss_one (ps_fld (pv 0) (pe_op op_mod (pe_op op_add (pv 2) pe_int) pe_int) rfl))) (pss_one (ps_fld (pv 0) (pv 2) rfl)))))))))))), ?_⟩
    refine s_if (a_t (v_eqI (v_var rfl) v_c)) (fun h1 => ?_) (fun h1 => ?_)
    · refine sm_total M (v_band (vm_total M (v_var rfl)) (vm_item M hne (v_var rfl) (v_var rfl) (by first | omega | (simp only [setC, List.length_set, skip_len, aimP_len] at *; omega)) (by first | omega | (simp only [setC, List.length_set, skip_len, aimP_len] at *; omega)))) (v_var rfl) ?_
      try simp only [decide_eq_true_eq, decide_eq_false_iff_not, not_dec] at h1
      simp only [movedM, riseM, h1, if_true, if_false, if_pos, if_neg, not_false_eq_true, reduceIte, Bool.false_eq_true] at k ⊢
      exact k
    · refine s_if (a_t (v_eqI (v_var rfl) v_c)) (fun h2 => ?_) (fun h2 => ?_)
      · refine s_do (va_cons (v_var rfl) (va_cons (vm_item M hne (v_var rfl) (v_var rfl) (by first | omega | (simp only [setC, List.length_set, skip_len, aimP_len] at *; omega)) (by first | omega | (simp only [setC, List.length_set, skip_len, aimP_len] at *; omega))) va_nil)) ⟨H0, p, dx, l, m, _, rfl, rfl, ?_⟩
        try dsimp only
        try simp only [decide_eq_true_eq, decide_eq_false_iff_not, not_dec] at h1 h2
        simp only [movedM, riseM, h1, h2, if_true, if_false, if_pos, if_neg, not_false_eq_true, reduceIte, Bool.false_eq_true] at k ⊢
        exact k
      · refine s_if (a_t (v_eqI (v_var rfl) v_c)) (fun h3 => ?_) (fun h3 => ?_)
        · refine qm_item M hne (v_mod (v_add (vm_item M hne (v_var rfl) (v_var rfl) (by first | omega | (simp only [setC, List.length_set, skip_len, aimP_len] at *; omega)) (by first | omega | (simp only [setC, List.length_set, skip_len, aimP_len] at *; omega))) v_c) v_c (by decide)) (v_var rfl) (v_var rfl) (by first | omega | (simp only [setC, List.length_set, skip_len, aimP_len] at *; omega)) (by first | omega | (simp only [setC, List.length_set, skip_len, aimP_len] at *; omega)) ?_
          refine s_if (a_t (v_eqI (vm_item M hne (v_var rfl) (v_var rfl) (by first | omega | (simp only [setC, List.length_set, skip_len, aimP_len] at *; omega)) (by first | omega | (simp only [setC, List.length_set, skip_len, aimP_len] at *; omega))) v_c)) (fun h4 => ?_) (fun h4 => ?_)
          · refine s_do (va_cons (v_var rfl) va_nil) ⟨H0, p, dx, l, _, rfl, rfl, ?_⟩
            try dsimp only
            try simp only [decide_eq_true_eq, decide_eq_false_iff_not, not_dec] at h1 h2 h3 h4
            simp only [movedM, riseM, h1, h2, h3, h4, if_true, if_false, if_pos, if_neg, not_false_eq_true, reduceIte, Bool.false_eq_true] at k ⊢
            exact k
          · refine s_next ?_
            try simp only [decide_eq_true_eq, decide_eq_false_iff_not, not_dec] at h1 h2 h3 h4
            simp only [movedM, riseM, h1, h2, h3, h4, if_true, if_false, if_pos, if_neg, not_false_eq_true, reduceIte, Bool.false_eq_true] at k ⊢
            exact k
        · refine s_if (a_t (v_eqI (v_var rfl) v_c)) (fun h5 => ?_) (fun h5 => ?_)
          · refine qm_item M hne (vm_total M (v_var rfl)) (v_var rfl) (v_var rfl) (by first | omega | (simp only [setC, List.length_set, skip_len, aimP_len] at *; omega)) (by first | omega | (simp only [setC, List.length_set, skip_len, aimP_len] at *; omega)) ?_
            refine sm_total M v_c (v_var rfl) ?_
            try simp only [decide_eq_true_eq, decide_eq_false_iff_not, not_dec] at h1 h2 h3 h5
            simp only [movedM, riseM, h1, h2, h3, h5, if_true, if_false, if_pos, if_neg, not_false_eq_true, reduceIte, Bool.false_eq_true] at k ⊢
            exact k
          · refine s_if (a_t (v_eqI (v_var rfl) v_c)) (fun h6 => ?_) (fun h6 => ?_)
            · refine qm_item M hne (vm_at M (v_var rfl)) (v_var rfl) (v_var rfl) (by first | omega | (simp only [setC, List.length_set, skip_len, aimP_len] at *; omega)) (by first | omega | (simp only [setC, List.length_set, skip_len, aimP_len] at *; omega)) ?_
              refine sm_at M (v_mod (v_add (v_var rfl) v_c) v_c (by decide)) (v_var rfl) ?_
              try simp only [decide_eq_true_eq, decide_eq_false_iff_not, not_dec] at h1 h2 h3 h5 h6
              simp only [movedM, riseM, h1, h2, h3, h5, h6, if_true, if_false, if_pos, if_neg, not_false_eq_true, reduceIte, Bool.false_eq_true] at k ⊢
              exact k
            · refine sm_at M (v_var rfl) (v_var rfl) ?_
              try simp only [decide_eq_true_eq, decide_eq_false_iff_not, not_dec] at h1 h2 h3 h5 h6
              simp only [movedM, riseM, h1, h2, h3, h5, h6, if_true, if_false, if_pos, if_neg, not_false_eq_true, reduceIte, Bool.false_eq_true] at k ⊢
              exact k

theorem sc_rolled : FnScope ["machine", "bits", "carried"] ["machine", "bits"] (defScope s_rolled) := ⟨rfl, rfl, rfl, by decide +kernel, rfl, by decide +kernel, by decide +kernel⟩
theorem cal_rolled (T : Tx K mg) : Cal P w K mg base 1 "rolled" ["machine", "bits"] (spBits (He.ga K "Machine") rolledM) := by
  refine cal_mk T 20 20 rfl rfl sc_rolled (fun _ _ _ _ _ _ us hl => match us, hl with | [_, _], _ => rfl) (fun vs H Q E h => ?_) (fun f cdv A outer s H vs Q E hr h => ?_)
  · obtain ⟨H0, p, dx, l, m, bits, rfl, rfl, k⟩ := h
    rfl
  · obtain ⟨H0, p, dx, l, m, bits, rfl, rfl, k⟩ := h
    have M := T.mt
    refine ⟨_, (pss_cons (ps_set (i := 2) sc_rolled.nd rfl (Or.inl rfl) (pe_fld (pv 0) rfl)) (C8.pss_cut (ps_if (pt_cmpR op_eq (pe_op op_mod (pv 1) pe_int) pe_int (nomark _)) (pss_cons (ps_fld (pv 0) (pe_op op_fdiv (pe_fld (pv 0) rfl) pe_int) rfl) (pss_one (ps_fld (pv 0) (pe_op op_add (pe_op op_mod (pe_op op_mul pe_int (pe_fld (pv 0) rfl)) pe_int) (pv 2)) rfl))) pss_nil) (pss_one (ps_if (pt_cmpR op_eq (pe_op op_mod (pv 1) pe_int) pe_int (nomark _)) (pss_cons (ps_fld (pv 0) (pe_op op_mod (pe_fld (pv 0) rfl) pe_int) rfl) (pss_one (ps_fld (pv 0) (pe_op op_add (pe_op op_fdiv (pe_fld (pv 0) rfl) pe_int) (pe_op op_mul pe_int (pv 2))) rfl))) pss_nil)))), ?_⟩
    refine q_set (vm_mark M (v_var rfl)) ?_
    refine q_cutH (H1 := mput (He.ga K "Machine") H0 p dx l (rolled1 m bits)) (s_if (a_t (v_eqI (v_mod (v_var rfl) v_c (by decide)) v_c)) (fun h1 => ?_) (fun h1 => ?_)) ?_
    · refine qm_mark M (v_fdiv (vm_total M (v_var rfl)) v_c ⟨by decide, by decide⟩) (v_var rfl) ?_
      refine sm_total M (v_add (v_mod (v_mul v_c (vm_total M (v_var rfl)) (.inl ⟨by decide, by decide⟩)) v_c (by decide)) (v_var rfl)) (v_var rfl) ?_
      try simp only [decide_eq_true_eq, decide_eq_false_iff_not, not_dec] at h1
      exact ⟨rfl, by simp only [rolled1, h1, if_true, if_false, reduceIte, Bool.false_eq_true]⟩
    · refine s_next ?_
      try simp only [decide_eq_true_eq, decide_eq_false_iff_not, not_dec] at h1
      exact ⟨rfl, by simp only [rolled1, h1, if_true, if_false, reduceIte, Bool.false_eq_true]⟩
    refine s_if (a_t (v_eqI (v_mod (v_var rfl) v_c (by decide)) v_c)) (fun h2 => ?_) (fun h2 => ?_)
    · refine qm_mark M (v_mod (vm_total M (v_var rfl)) v_c (by decide)) (v_var rfl) ?_
      refine sm_total M (v_add (v_fdiv (vm_total M (v_var rfl)) v_c ⟨by decide, by decide⟩) (v_mul v_c (v_var rfl) (.inl ⟨by decide, by decide⟩))) (v_var rfl) ?_
      try simp only [decide_eq_true_eq, decide_eq_false_iff_not, not_dec] at h2
      simp only [rolledM, h2, if_true, if_false, if_pos, if_neg, not_false_eq_true, reduceIte, Bool.false_eq_true] at k ⊢
      exact k
    · refine s_next ?_
      try simp only [decide_eq_true_eq, decide_eq_false_iff_not, not_dec] at h2
      simp only [rolledM, h2, if_true, if_false, if_pos, if_neg, not_false_eq_true, reduceIte, Bool.false_eq_true] at k ⊢
      exact k

theorem sc_changed : FnScope ["machine", "bits"] ["machine", "bits"] (defScope s_changed) := ⟨rfl, rfl, rfl, by decide +kernel, rfl, by decide +kernel, by decide +kernel⟩
theorem cal_changed (T : Tx K mg) : Cal P w K mg base 2 "changed" ["machine", "bits"] (spBits (He.ga K "Machine") changedM) := by
  refine cal_mk T 21 21 rfl rfl sc_changed (fun _ _ _ _ _ _ us hl => match us, hl with | [_, _], _ => rfl) (fun vs H Q E h => ?_) (fun f cdv A outer s H vs Q E hr h => ?_)
  · obtain ⟨H0, p, dx, l, m, bits, rfl, rfl, k⟩ := h
    rfl
  · obtain ⟨H0, p, dx, l, m, bits, rfl, rfl, k⟩ := h
    have M := T.mt
    refine ⟨_, (C8.pss_cut (ps_if (pt_cmpR op_eq (pe_op op_fdiv (pv 1) pe_int) pe_int (nomark _)) (pss_one (ps_fld (pv 0) pe_int rfl)) pss_nil) (C8.pss_cut (ps_if (pt_cmpR op_eq (pe_op op_mod (pe_op op_fdiv (pv 1) pe_int) pe_int) pe_int (nomark _)) (pss_one (ps_fld (pv 0) (pe_op op_sub pe_int (pe_fld (pv 0) rfl)) rfl)) pss_nil) (C8.pss_cut (ps_if (pt_cmpR op_eq (pe_op op_mod (pe_op op_fdiv (pv 1) pe_int) pe_int) pe_int (nomark _)) (pss_one (ps_fld (pv 0) (pe_op op_sub pe_int (pe_fld (pv 0) rfl)) rfl)) pss_nil) (C8.pss_cut (ps_if (pt_cmpR op_eq (pe_op op_mod (pe_op op_fdiv (pv 1) pe_int) pe_int) pe_int (nomark _)) (pss_one (ps_expr (pe_cal (cal_added (K := K) T) hr (by decide) rfl (pa_cons (pv 0) (pa_cons pe_int pa_nil))))) pss_nil) (pss_one (ps_expr (pe_cal (cal_rolled (K := K) T) hr (by decide) rfl (pa_cons (pv 0) (pa_cons (pv 1) pa_nil))))))))), ?_⟩
    refine q_cutH (H1 := mput (He.ga K "Machine") H0 p dx l (chg1 m bits)) (s_if (a_t (v_eqI (v_fdiv (v_var rfl) v_c ⟨by decide, by decide⟩) v_c)) (fun h1 => ?_) (fun h1 => ?_)) ?_
    · refine sm_total M v_c (v_var rfl) ?_
      try simp only [decide_eq_true_eq, decide_eq_false_iff_not, not_dec] at h1
      exact ⟨rfl, by simp only [chg1, h1, if_true, if_false, reduceIte, Bool.false_eq_true]⟩
    · refine s_next ?_
      try simp only [decide_eq_true_eq, decide_eq_false_iff_not, not_dec] at h1
      exact ⟨rfl, by simp only [chg1, h1, if_true, if_false, reduceIte, Bool.false_eq_true]⟩
    refine q_cutH (H1 := mput (He.ga K "Machine") H0 p dx l (chg2 (chg1 m bits) bits)) (s_if (a_t (v_eqI (v_mod (v_fdiv (v_var rfl) v_c ⟨by decide, by decide⟩) v_c (by decide)) v_c)) (fun h2 => ?_) (fun h2 => ?_)) ?_
    · refine sm_total M (v_sub v_c (vm_total M (v_var rfl))) (v_var rfl) ?_
      try simp only [decide_eq_true_eq, decide_eq_false_iff_not, not_dec] at h2
      exact ⟨rfl, by simp only [chg2, h2, if_true, if_false, reduceIte, Bool.false_eq_true]⟩
    · refine s_next ?_
      try simp only [decide_eq_true_eq, decide_eq_false_iff_not, not_dec] at h2
      exact ⟨rfl, by simp only [chg2, h2, if_true, if_false, reduceIte, Bool.false_eq_true]⟩
    refine q_cutH (H1 := mput (He.ga K "Machine") H0 p dx l (chg3 (chg2 (chg1 m bits) bits) bits)) (s_if (a_t (v_eqI (v_mod (v_fdiv (v_var rfl) v_c ⟨by decide, by decide⟩) v_c (by decide)) v_c)) (fun h3 => ?_) (fun h3 => ?_)) ?_
    · refine sm_mark M (v_sub v_c (vm_mark M (v_var rfl))) (v_var rfl) ?_
      try simp only [decide_eq_true_eq, decide_eq_false_iff_not, not_dec] at h3
      exact ⟨rfl, by simp only [chg3, h3, if_true, if_false, reduceIte, Bool.false_eq_true]⟩
    · refine s_next ?_
      try simp only [decide_eq_true_eq, decide_eq_false_iff_not, not_dec] at h3
      exact ⟨rfl, by simp only [chg3, h3, if_true, if_false, reduceIte, Bool.false_eq_true]⟩
    refine q_cutH (H1 := mput (He.ga K "Machine") H0 p dx l (chg4 (chg3 (chg2 (chg1 m bits) bits) bits) bits)) (s_if (a_t (v_eqI (v_mod (v_fdiv (v_var rfl) v_c ⟨by decide, by decide⟩) v_c (by decide)) v_c)) (fun h4 => ?_) (fun h4 => ?_)) ?_
    · refine s_do (va_cons (v_var rfl) (va_cons v_c va_nil)) ⟨H0, p, dx, l, _, _, rfl, rfl, ?_⟩
      try dsimp only
      try simp only [decide_eq_true_eq, decide_eq_false_iff_not, not_dec] at h4
      exact ⟨rfl, by simp only [chg4, h4, if_true, if_false, reduceIte, Bool.false_eq_true]⟩
    · refine s_next ?_
      try simp only [decide_eq_true_eq, decide_eq_false_iff_not, not_dec] at h4
      exact ⟨rfl, by simp only [chg4, h4, if_true, if_false, reduceIte, Bool.false_eq_true]⟩
    refine s_do (va_cons (v_var rfl) (va_cons (v_var rfl) va_nil)) ⟨H0, p, dx, l, _, _, rfl, rfl, ?_⟩
    try dsimp only
    exact k

theorem sc_tested : FnScope ["machine", "bits", "found"] ["machine", "bits"] (defScope s_tested) := ⟨rfl, rfl, rfl, by decide +kernel, rfl, by decide +kernel, by decide +kernel⟩
theorem cal_tested (T : Tx K mg) : Cal P w K mg base 2 "tested" ["machine", "bits"] (spBits (He.ga K "Machine") testedM) := by
  refine cal_mk T 22 22 rfl rfl sc_tested (fun _ _ _ _ _ _ us hl => match us, hl with | [_, _], _ => rfl) (fun vs H Q E h => ?_) (fun f cdv A outer s H vs Q E hr h => ?_)
  · obtain ⟨H0, p, dx, l, m, bits, rfl, rfl, k⟩ := h
    rfl
  · obtain ⟨H0, p, dx, l, m, bits, rfl, rfl, k⟩ := h
    have M := T.mt
    refine ⟨_, (pss_cons (ps_set (i := 2) sc_tested.nd rfl (Or.inl rfl) (pe_and (pe_cmpR op_eq (pe_op op_fdiv (pv 1) pe_int) pe_int (nomark _)) (pe_one (pe_cmpR op_ge (pe_fld (pv 0) rfl) pe_int (nomark _))))) (pss_cons (ps_set (i := 2) sc_tested.nd rfl (Or.inl rfl) (pe_or (pv 2) (pe_one (pe_and (pe_cmpR op_eq (pe_op op_mod (pe_op op_fdiv (pv 1) pe_int) pe_int) pe_int (nomark _)) (pe_one (pe_cmpR op_eq (pe_fld (pv 0) rfl) pe_int (nomark _))))))) (pss_cons (ps_set (i := 2) sc_tested.nd rfl (Or.inl rfl) (pe_or (pv 2) (pe_one (pe_and (pe_cmpR op_eq (pe_op op_mod (pe_op op_fdiv (pv 1) pe_int) pe_int) pe_int (nomark _)) (pe_one (pe_cmpR op_eq (pe_fld (pv 0) rfl) pe_int (nomark _))))))) (C8.pss_cut (ps_if (pt_cmpR op_ne (pv 2) (pe_cmpR op_eq (pe_op op_mod (pe_op op_fdiv (pv 1) pe_int) pe_int) pe_int (nomark _)) (nomark _)) (pss_one (ps_expr (pe_cal (cal_skip (K := K) T) hr (by decide) rfl (pa_cons (pv 0) pa_nil)))) pss_nil) (C8.pss_cut (ps_if (pt_cmpR op_eq (pe_op op_mod (pe_op op_fdiv (pv 1) pe_int) pe_int) pe_int (nomark _)) (pss_one (ps_fld (pv 0) pe_int rfl)) pss_nil) (pss_one (ps_if (pt_cmpR op_eq (pe_op op_mod (pv 1) pe_int) pe_int (nomark _)) (pss_one (ps_fld (pv 0) pe_int rfl)) pss_nil))))))), ?_⟩
    refine q_set (v_andV (v_eqI (v_fdiv (v_var rfl) v_c ⟨by decide, by decide⟩) v_c) (fun hv1 => (v_ge (vm_total M (v_var rfl)) v_c))) ?_
    refine q_set (v_orV (v_var rfl) (fun hv3 => (v_andV (v_eqI (v_mod (v_fdiv (v_var rfl) v_c ⟨by decide, by decide⟩) v_c (by decide)) v_c) (fun hv2 => (v_eqI (vm_total M (v_var rfl)) v_c))))) ?_
    refine q_set (v_orV (v_var rfl) (fun hv5 => (v_andV (v_eqI (v_mod (v_fdiv (v_var rfl) v_c ⟨by decide, by decide⟩) v_c (by decide)) v_c) (fun hv4 => (v_eqI (vm_mark M (v_var rfl)) v_c))))) ?_
    refine q_cutH (H1 := mput (He.ga K "Machine") H0 p dx l (tst1 m bits)) (s_if (a_t (v_neB (v_var rfl) (v_eqI (v_mod (v_fdiv (v_var rfl) v_c ⟨by decide, by decide⟩) v_c (by decide)) v_c))) (fun h6 => ?_) (fun h6 => ?_)) ?_
    · refine s_do (va_cons (v_var rfl) va_nil) ⟨H0, p, dx, l, _, rfl, rfl, ?_⟩
      try dsimp only
      try simp only [decide_eq_true_eq, decide_eq_false_iff_not, not_dec] at h6
      exact ⟨rfl, by simp only [tst1, foundM, h6, if_true, if_false, reduceIte, Bool.false_eq_true]⟩
    · refine s_next ?_
      try simp only [decide_eq_true_eq, decide_eq_false_iff_not, not_dec] at h6
      exact ⟨rfl, by simp only [tst1, foundM, h6, if_true, if_false, reduceIte, Bool.false_eq_true]⟩
    refine q_cutH (H1 := mput (He.ga K "Machine") H0 p dx l (tst2 (tst1 m bits) bits)) (s_if (a_t (v_eqI (v_mod (v_fdiv (v_var rfl) v_c ⟨by decide, by decide⟩) v_c (by decide)) v_c)) (fun h7 => ?_) (fun h7 => ?_)) ?_
    · refine sm_total M v_c (v_var rfl) ?_
      try simp only [decide_eq_true_eq, decide_eq_false_iff_not, not_dec] at h7
      exact ⟨rfl, by simp only [tst2, h7, if_true, if_false, reduceIte, Bool.false_eq_true]⟩
    · refine s_next ?_
      try simp only [decide_eq_true_eq, decide_eq_false_iff_not, not_dec] at h7
      exact ⟨rfl, by simp only [tst2, h7, if_true, if_false, reduceIte, Bool.false_eq_true]⟩
    refine s_if (a_t (v_eqI (v_mod (v_var rfl) v_c (by decide)) v_c)) (fun h8 => ?_) (fun h8 => ?_)
    · refine sm_mark M v_c (v_var rfl) ?_
      try simp only [decide_eq_true_eq, decide_eq_false_iff_not, not_dec] at h8
      simp only [testedM, tst3, h8, if_true, if_false, if_pos, if_neg, not_false_eq_true, reduceIte, Bool.false_eq_true] at k ⊢
      exact k
    · refine s_next ?_
      try simp only [decide_eq_true_eq, decide_eq_false_iff_not, not_dec] at h8
      simp only [testedM, tst3, h8, if_true, if_false, if_pos, if_neg, not_false_eq_true, reduceIte, Bool.false_eq_true] at k ⊢
      exact k

theorem sc_deed : FnScope ["machine", "kind", "far", "place"] ["machine"] (defScope s_deed) := ⟨rfl, rfl, rfl, by decide +kernel, rfl, by decide +kernel, by decide +kernel⟩
theorem cal_deed (T : Tx K mg) : Cal P w K mg base 3 "deed" ["machine"] (spDeed (He.ga K "Machine")) := by
  refine cal_mk T 23 23 rfl rfl sc_deed (fun _ _ _ _ _ _ us hl => match us, hl with | [_], _ => rfl) (fun vs H Q E h => ?_) (fun f cdv A outer s H vs Q E hr h => ?_)
  · obtain ⟨H0, p, dx, l, m, rfl, hne, hw, rfl, k⟩ := h
    rfl
  · obtain ⟨H0, p, dx, l, m, rfl, hne, hw, rfl, k⟩ := h
    have M := T.mt
    refine ⟨_, (pss_cons (ps_asg (pe_cal (cal_parts (K := K) T) hr (by decide) rfl (pa_cons (pe_ix ix_list (pe_fld (pv 0) rfl) (pe_fld (pv 0) rfl) (fun _ _ => rfl)) pa_nil)) (pg_tup (by rfl) (pgs_cons (pg_name (i := 1) sc_deed.nd rfl (Or.inl rfl)) (pgs_cons (pg_name (i := 2) sc_deed.nd rfl (Or.inl rfl)) (pgs_cons (pg_name (i := 3) sc_deed.nd rfl (Or.inl rfl)) pgs_nil))))) (pss_cons (ps_expr (pe_cal (cal_skip (K := K) T) hr (by decide) rfl (pa_cons (pv 0) pa_nil))) (pss_cons (ps_if (pt_cmpR op_lt (pv 1) pe_int (nomark _)) (pss_cons (ps_expr (pe_cal (cal_moved (K := K) T) hr (by decide) rfl (pa_cons (pv 0) (pa_cons (pv 1) (pa_cons (pe_cal (cal_aim (K := K) T) hr (by decide) rfl (pa_cons (pv 0) (pa_cons (pv 2) (pa_cons (pv 3) pa_nil)))) pa_nil))))) (pss_one (ps_ret pe_non))) pss_nil) (pss_cons (ps_if (pt_cmpR op_eq (pv 1) pe_int (nomark _)) (pss_one (ps_ret (pv 3))) pss_nil) (pss_cons (ps_if (pt_cmpR op_eq (pv 2) pe_int (nomark _)) (pss_one (ps_expr (pe_cal (cal_changed (K := K) T) hr (by decide) rfl (pa_cons (pv 0) (pa_cons (pv 3) pa_nil))))) (pss_one (ps_expr (pe_cal (cal_tested (K := K) T) hr (by decide) rfl (pa_cons (pv 0) (pa_cons (pv 3) pa_nil)))))) (pss_one (ps_ret pe_non))))))), ?_⟩
    obtain ⟨hl, a0, a1⟩ := hw
    refine (vm_item M hne (v_var rfl) (vm_at M (v_var rfl)) (by omega) (by omega)) _ ?_
    refine ⟨_, rfl, fun q hq => ?_⟩
    obtain ⟨e1, hq0⟩ := mput_new (o := .tup [.int (getC m m.pc / 128), .int (getC m m.pc / 64 % 2), .int (getC m m.pc % 64)]) hq
    have sm : Same H0 (upd H0 q (.tup [.int (getC m m.pc / 128), .int (getC m m.pc / 64 % 2), .int (getC m m.pc % 64)])) := fun b o e => by rw [upd_ne (ne_of_none e hq0)]; exact e
    refine ⟨q, _, rfl, SqT.of upd_same, rfl, _, _, rfl, _, _, rfl, _, _, rfl, rfl, ?_⟩
    rw [e1]
    replace k := k _ sm
    revert k
    generalize upd H0 q (.tup [.int (getC m m.pc / 128), .int (getC m m.pc / 64 % 2), .int (getC m m.pc % 64)]) = H1
    intro k
    refine q_do (va_cons (v_var rfl) va_nil) ⟨H1, p, dx, l, _, rfl, rfl, ?_⟩
    refine q_if (a_t (v_lt (v_var rfl) v_c)) (fun h1 => ?_) (fun h1 => ?_)
    · refine ⟨_, rfl, _, rfl, _, rfl, _, rfl, _, rfl, H1, p, dx, l, skipM m, _, _, rfl, hne, hl, by omega, by omega, rfl, ?_⟩
      refine ⟨H1, p, dx, l, _, _, _, rfl, hne, by rw [aimP_len]; exact hl, aimV_lo (by omega), aimV_hi (by omega), rfl, ?_⟩
      try dsimp only
      refine s_ret v_c ?_
      have g : getC m m.pc / 128 < 6 := of_decide_eq_true h1
      have g2 : ¬ getC m m.pc / 128 = 6 := by omega
      simp only [deedM, deedV, if_pos g, if_neg g2] at k
      exact k
    · refine s_next ?_
      have g : ¬ getC m m.pc / 128 < 6 := of_decide_eq_false h1
      refine q_if (a_t (v_eqI (v_var rfl) v_c)) (fun h2 => ?_) (fun h2 => ?_)
      · refine s_ret (v_var rfl) ?_
        have g2 : getC m m.pc / 128 = 6 := of_decide_eq_true h2
        simp only [deedM, deedV, if_neg g, if_pos g2] at k
        exact k
      · refine s_next ?_
        have g2 : ¬ getC m m.pc / 128 = 6 := of_decide_eq_false h2
        simp only [deedM, deedV, if_neg g, if_neg g2] at k
        refine q_if (a_t (v_eqI (v_var rfl) v_c)) (fun h3 => ?_) (fun h3 => ?_)
        · have g3 : getC m m.pc / 64 % 2 = 0 := of_decide_eq_true h3
          rw [if_pos g3] at k
          refine s_do (va_cons (v_var rfl) (va_cons (v_var rfl) va_nil)) ⟨H1, p, dx, l, _, _, rfl, rfl, ?_⟩
          try dsimp only
          refine s_ret v_c ?_
          exact k
        · have g3 : ¬ getC m m.pc / 64 % 2 = 0 := of_decide_eq_false h3
          rw [if_neg g3] at k
          refine s_do (va_cons (v_var rfl) (va_cons (v_var rfl) va_nil)) ⟨H1, p, dx, l, _, _, rfl, rfl, ?_⟩
          try dsimp only
          refine s_ret v_c ?_
          exact k

theorem sc_Machine___init__ : FnScope ["self", "cells", "total", "mark", "at"] ["self", "cells", "total", "mark", "at"] (defScope s_Machine___init__) := ⟨rfl, rfl, rfl, by decide +kernel, rfl, by decide +kernel, by decide +kernel⟩
theorem cal_Machine (T : Tx K mg) : CalC P w K mg base 1 "Machine" ["self", "cells", "total", "mark", "at"] (spMachine K (He.ga K "Machine")) := by
  refine calC_mk T 51 66 68 rfl rfl rfl sc_Machine___init__ (fun _ _ _ _ _ _ us hl => match us, hl with | [_, _, _, _, _], _ => rfl) (fun vs H Q E h => ?_) (fun f cdv A outer s H vs Q E hr h => ?_)
  · obtain ⟨x, dx, a, cs, t, mk, pc, rfl, hx, hS, k⟩ := h
    rfl
  · obtain ⟨x, dx, a, cs, t, mk, pc, rfl, hx, hS, k⟩ := h
    have M := T.mt
    refine ⟨_, (pss_cons (ps_fld (pv 0) (pe_callTy call_list_of (by rfl) (T.free 51) (by decide +kernel) (pa_cons (pv 1) pa_nil)) rfl) (pss_cons (ps_fld (pv 0) (pv 2) rfl) (pss_cons (ps_fld (pv 0) (pv 3) rfl) (pss_one (ps_fld (pv 0) (pv 4) rfl))))), ?_⟩
    refine ⟨_, rfl, a, cs.map V.int, rfl, hS, fun l hl => ?_⟩
    have nxl : x ≠ l := ne_of_none hx hl
    refine ⟨_, rfl, x, _, dx, [], rfl, (by rw [upd_ne nxl]; exact hx), M.cl, M.nCells, (by show 0 < 1000; decide), ?_⟩
    refine ⟨_, rfl, _, rfl, x, _, dx, _, rfl, upd_same, M.cl, M.nTotal, (by show 1 < 1000; decide), ?_⟩
    refine ⟨_, rfl, _, rfl, x, _, dx, _, rfl, upd_same, M.cl, M.nMark, (by show 2 < 1000; decide), ?_⟩
    refine ⟨_, rfl, _, rfl, x, _, dx, _, rfl, upd_same, M.cl, M.nAt, (by show 3 < 1000; decide), ?_⟩
    rw [upd_upd, upd_upd, upd_upd]
    exact k l hl
end
/-! ### exact new objects -/
section
variable {σ : L2.St} {H : Hp} {K : PySem.W.Frag} {a : Addr} {te ta tb tl : TE} {v x y : V} {N : L2.St → Hp → Prop} {R : VK} {B C' : L2.St → Hp → Prop} {tz : TS} {tA : TA} {xs ys vs : List V} {n : Int} {i j : Int}
/-- a new list of xs, else the heap as it is -/
def NewL (te : TE) (σ : L2.St) (H : Hp) (xs : List V) : Prop := ∀ Q : VK, (∀ D, H D = none → Q (.ref D) (upd H D (.lst xs))) → te σ H Q
def NewT (te : TE) (σ : L2.St) (H : Hp) (xs : List V) : Prop := ∀ Q : VK, (∀ D, H D = none → Q (.ref D) (upd H D (.tup xs))) → te σ H Q
theorem q_setN {k : Nat} (h : NewL te σ H xs) (q : ∀ D', H D' = none → tz ⟨N, R, B, C'⟩ (σ.set k (some (.ref D'))) (upd H D' (.lst xs))) : tSeq (tAsg te (gName k)) tz ⟨N, R, B, C'⟩ σ H := h _ q
theorem q_setNT {k : Nat} (h : NewT te σ H xs) (q : ∀ D', H D' = none → tz ⟨N, R, B, C'⟩ (σ.set k (some (.ref D'))) (upd H D' (.tup xs))) : tSeq (tAsg te (gName k)) tz ⟨N, R, B, C'⟩ σ H := h _ q
theorem s_retN (h : NewL te σ H xs) (q : ∀ D', H D' = none → R (.ref D') (upd H D' (.lst xs))) : tRet te ⟨N, R, B, C'⟩ σ H := h _ q
theorem s_retNT (h : NewT te σ H xs) (q : ∀ D', H D' = none → R (.ref D') (upd H D' (.tup xs))) : tRet te ⟨N, R, B, C'⟩ σ H := h _ q
theorem x_ret (h : te σ H R) : tRet te ⟨N, R, B, C'⟩ σ H := h
theorem qx_set {k : Nat} (h : te σ H fun x H1 => tz ⟨N, R, B, C'⟩ (σ.set k (some x)) H1) : tSeq (tAsg te (gName k)) tz ⟨N, R, B, C'⟩ σ H := h
theorem sx_set {k : Nat} (h : te σ H fun x H1 => N (σ.set k (some x)) H1) : tAsg te (gName k) ⟨N, R, B, C'⟩ σ H := h
theorem qx_asg {g : TG} (h : te σ H fun x H1 => g x σ H1 (tz ⟨N, R, B, C'⟩)) : tSeq (tAsg te g) tz ⟨N, R, B, C'⟩ σ H := h
theorem sx_asg {g : TG} (h : te σ H fun x H1 => g x σ H1 N) : tAsg te g ⟨N, R, B, C'⟩ σ H := h
theorem qx_if {t : TT} {t1 t2 : TS} (h : t σ H fun b H1 => if b = true then t1 ⟨tz ⟨N, R, B, C'⟩, R, B, C'⟩ σ H1 else t2 ⟨tz ⟨N, R, B, C'⟩, R, B, C'⟩ σ H1) : tSeq (tIfS t t1 t2) tz ⟨N, R, B, C'⟩ σ H := h
theorem sx_if {t : TT} {t1 t2 : TS} (h : t σ H fun b H1 => if b = true then t1 ⟨N, R, B, C'⟩ σ H1 else t2 ⟨N, R, B, C'⟩ σ H1) : tIfS t t1 t2 ⟨N, R, B, C'⟩ σ H := h
theorem x_or {t u : TT} {Q : Bool → Hp → Prop} (h : t σ H fun c H1 => if c = true then Q true H1 else u σ H1 Q) : tOr t u σ H Q := h
theorem x_and {t u : TT} {Q : Bool → Hp → Prop} (h : t σ H fun c H1 => if c = true then u σ H1 Q else Q false H1) : tAnd t u σ H Q := h
theorem x_not {t : TT} {Q : Bool → Hp → Prop} (h : t σ H fun c H1 => Q (!c) H1) : tNot t σ H Q := h
theorem x_test {Q : Bool → Hp → Prop} (h : te σ H fun x H1 => ∃ k, x = .bl k ∧ Q k H1) : tTest te σ H Q := h
theorem x_ans {t : TT} {b : Bool} {Q : Bool → Hp → Prop} (h : Ans t σ H b) (q : Q b H) : t σ H Q := h _ q
theorem x_andV {Q : VK} (h : ta σ H fun x H1 => ∃ c, x = .bl c ∧ if c = true then tb σ H1 Q else Q (.bl false) H1) : tAndV ta tb σ H Q := h
theorem x_call {sp : Sp} {Q : VK} (h : ValA tA σ H vs) (hs : sp vs H Q E0) : tCall sp [] E0 tA σ H Q := h _ (show sp (vs ++ []) H Q E0 from by rw [List.append_nil]; exact hs)
theorem x_op {r : R2} {Q : VK} (h : ta σ H fun x H1 => tb σ H1 fun y H2 => r x y H2 Q) : tOp r ta tb σ H Q := h
theorem x_L {Q : VK} (h : NewL te σ H xs) (q : ∀ D, H D = none → Q (.ref D) (upd H D (.lst xs))) : te σ H Q := h _ q
theorem x_T {Q : VK} (h : NewT te σ H xs) (q : ∀ D, H D = none → Q (.ref D) (upd H D (.tup xs))) : te σ H Q := h _ q
theorem x_v {Q : VK} (h : Val te σ H v) (q : Q v H) : te σ H Q := h _ q
theorem nl_disp (h : ValA tA σ H xs) (hl : xs.length ≤ 100000 := by simp) : NewL (tLst tA) σ H xs := fun _ q => h _ ⟨Nat.le_trans hl (by decide), q⟩
theorem nt_disp (h : ValA tA σ H xs) (hl : xs.length ≤ 100000 := by simp) : NewT (tTup tA) σ H xs := fun _ q => h _ ⟨Nat.le_trans hl (by decide), q⟩
def rListS (K : PySem.W.Frag) : List V → Hp → VK → Prop := fun xs H Q => ∃ p ys, xs = [.ref p] ∧ (SqL K H p ys ∨ SqT K H p ys) ∧ ∀ l, H l = none → Q (.ref l) (upd H l (.lst ys))
theorem nl_list (h : Val ta σ H (.ref a)) (hs : SqL K H a xs ∨ SqT K H a xs) : NewL (tCB (rListS K) (tCons ta tNil)) σ H xs := fun _ q => h _ ⟨a, xs, rfl, hs, q⟩
theorem nl_call {sp : Sp} (h : ValA tA σ H vs) (hs : ∀ Q : VK, (∀ D, H D = none → Q (.ref D) (upd H D (.lst xs))) → sp vs H Q E0) : NewL (tCall sp [] E0 tA) σ H xs := fun Q q => h _ (show sp (vs ++ []) H Q E0 from by rw [List.append_nil]; exact hs Q q)
theorem nt_call {sp : Sp} (h : ValA tA σ H vs) (hs : ∀ Q : VK, (∀ D, H D = none → Q (.ref D) (upd H D (.tup xs))) → sp vs H Q E0) : NewT (tCall sp [] E0 tA) σ H xs := fun Q q => h _ (show sp (vs ++ []) H Q E0 from by rw [List.append_nil]; exact hs Q q)
theorem nl_slice {lo hi : Option Int} {tlo thi : TO} (h : Val ta σ H (.ref a)) (hs : SqL K H a xs) (h1 : ∀ Q : Option Int → Hp → Prop, Q lo H → tlo σ H Q) (h2 : ∀ Q : Option Int → Hp → Prop, Q hi H → thi σ H Q) : NewL (tSl (rSlL K) ta tlo thi) σ H (cutV xs lo hi) :=
  fun Q q => h _ (h1 _ (h2 _ ⟨a, xs, rfl, hs, q⟩))
theorem o_none : ∀ Q : Option Int → Hp → Prop, Q none H → tNoPart σ H Q := fun _ q => q
theorem o_some (h : Val te σ H (.int i)) : ∀ Q : Option Int → Hp → Prop, Q (some i) H → tPart te σ H Q := fun _ q => h _ ⟨_, rfl, q⟩
/-- [e for k in range(n)], e leaving the heap -/
theorem nl_lcR {k : Nat} {ws : List Nat} (f : Nat → V) (h : ValA tA σ H [.int n]) (hn : 0 ≤ n ∧ n ≤ 100000) (hw : ∀ x, wipe ((wipe σ ws).set k (some x)) ws = wipe σ ws)
    (he : ∀ (m : Nat) (D : Addr) (acc : List V), H D = none → (m : Int) < n → Val te ((wipe σ ws).set k (some (.int (m : Int)))) (upd H D (.lst acc)) (f m)) : NewL (tLc (iRng1 tA) (gName k) tYes te ws) σ H ((List.range n.toNat).map f) := fun Q q =>
  h _ ⟨n, rfl, by omega, by omega, fun D hD => lc_range (lo := 0) (n := n.toNat) (fun m H' => H' = upd H D (.lst ((List.range m).map f))) rfl (fun m H' hm e => by
    subst e
    have e0 : (0 : Int) + (m : Int) = (m : Int) := Int.zero_add _
    rw [e0]
    refine ⟨hw _, ?_⟩
    unfold tYes
    dsimp only
    rw [if_pos rfl]
    refine he m D _ hD (by omega) _ ⟨_, upd_same, ?_, ?_⟩
    · rw [List.length_map, List.length_range]
      exact Nat.lt_of_lt_of_le (show m < 100000 by omega) (by decide)
    · rw [upd_upd, List.range_succ, List.map_append]; rfl) (fun H' e => by rw [e]; exact q D hD)⟩
/-- [e for x in xs], e leaving the heap -/
theorem nl_lcL {k : Nat} {ws : List Nat} (f : V → V) (h : Val tl σ H (.ref a)) (hs : ∀ (D : Addr) (acc : List V), H D = none → SqL K (upd H D (.lst acc)) a xs) (hn : xs.length ≤ 100000) (hw : ∀ x, wipe ((wipe σ ws).set k (some x)) ws = wipe σ ws) (hs0 : SqL K H a xs)
    (he : ∀ (m : Nat) (x : V) (D : Addr) (acc : List V), H D = none → xs[m]? = some x → Val te ((wipe σ ws).set k (some x)) (upd H D (.lst acc)) (f x)) : NewL (tLc (iList K tl) (gName k) tYes te ws) σ H (xs.map f) := fun Q q =>
  h _ ⟨a, rfl, ⟨xs, hs0⟩, fun D hD => lc_list (xs := xs) (fun m H' => H' = upd H D (.lst ((xs.take m).map f))) rfl (fun m H' _ e => by rw [e]; exact hs D _ hD) (fun m x H' hm e => by
    subst e
    have hlt : m < xs.length := (List.getElem?_eq_some_iff.mp hm).1
    refine ⟨hw _, ?_⟩
    unfold tYes
    dsimp only
    rw [if_pos rfl]
    refine he m x D _ hD hm _ ⟨_, upd_same, ?_, ?_⟩
    · rw [List.length_map, List.length_take]
      exact Nat.lt_of_lt_of_le (show min m xs.length < 100000 by omega) (by decide)
    · rw [upd_upd, List.take_add_one, hm, List.map_append]; rfl) (fun H' e => by rw [e, List.take_length]; exact q D hD)⟩
end
/-! ### what lies unchanged behind new objects -/
theorem smN {H : Hp} {p : Addr} {o : HO} (h : H p = none) : Same H (upd H p o) := fun b u e => by rw [upd_ne (ne_of_none e h)]; exact e
theorem smM {H H' : Hp} {p : Addr} {o : HO} (e : Same H H') (h : H p = none) : Same H (upd H' p o) := fun b u q => by rw [upd_ne (ne_of_none q h)]; exact e b u q
theorem smP {C : Addr} {H H' : Hp} {p dx l : Addr} {m : Mc} (e : Same H H') (h1 : H p = none) (h2 : H l = none) : Same H (mput C H' p dx l m) := fun b u q => by rw [mput_ne (ne_of_none q h1) (ne_of_none q h2)]; exact e b u q
theorem smT {K : PySem.W.Frag} {H H' : Hp} {a : Addr} {xs : List V} (e : Same H H') (h : SqT K H a xs) : SqT K H' a xs := by
  rcases h with (h | ⟨o, h⟩) | h
  · exact .inl (.inl (e _ _ h))
  · exact .inl (.inr ⟨o, e _ _ h⟩)
  · exact .inr h
/-! ### data compared -/
theorem dpAll_ints {K : PySem.W.Frag} {H : Hp} : ∀ ns : List Int, DpAll K H (ns.map V.int) (ns.map PyData.int)
  | [] => .nil
  | n :: r => .cons (.int n) (dpAll_ints r)
theorem dp_intsL {K : PySem.W.Frag} {H : Hp} {a : Addr} {ns : List Int} (h : SqL K H a (ns.map V.int)) : Dp K H (.ref a) (.list (ns.map PyData.int)) := .lst h (dpAll_ints ns)
theorem dp_intsT {K : PySem.W.Frag} {H : Hp} {a : Addr} {ns : List Int} (h : SqT K H a (ns.map V.int)) : Dp K H (.ref a) (.tuple (ns.map PyData.int)) := .tup h (dpAll_ints ns)
theorem canLay_ints : ∀ ns : List Int, PyData.canLayAll0 (ns.map PyData.int) = true
  | [] => rfl
  | n :: r => by rw [List.map_cons, PyData.canLayAll0, PyData.canLay0, canLay_ints r]; rfl
theorem depth_ints : ∀ ns : List Int, PyData.depthAll (ns.map PyData.int) = 0
  | [] => rfl
  | n :: r => by rw [List.map_cons, PyData.depthAll, PyData.depth, depth_ints r]; rfl
theorem shaped_intsL (ns : List Int) : SeqAt.shaped (.list (ns.map PyData.int)) = true := by
  unfold SeqAt.shaped
  rw [PyData.canLay0, canLay_ints, PyData.depth, depth_ints]; rfl
theorem shaped_intsT (ns : List Int) : SeqAt.shaped (.tuple (ns.map PyData.int)) = true := by
  unfold SeqAt.shaped
  rw [PyData.canLay0, canLay_ints, PyData.depth, depth_ints]; rfl
theorem eqvAll_ints : ∀ ns ms : List Int, PyData.eqvAll (ns.map PyData.int) (ms.map PyData.int) = decide (ns = ms)
  | [], [] => rfl
  | [], m :: ms => rfl
  | n :: ns, [] => rfl
  | n :: ns, m :: ms => by
    rw [List.map_cons, List.map_cons, PyData.eqvAll, PyData.eqv, eqvAll_ints ns ms]
    by_cases h : n = m <;> by_cases h2 : ns = ms <;> simp [h, h2]
theorem eqv_intsL (ns ms : List Int) : PyData.eqv (.list (ns.map PyData.int)) (.list (ms.map PyData.int)) = decide (ns = ms) := by rw [PyData.eqv, eqvAll_ints]
theorem eqv_intsT (ns ms : List Int) : PyData.eqv (.tuple (ns.map PyData.int)) (.tuple (ms.map PyData.int)) = decide (ns = ms) := by rw [PyData.eqv, eqvAll_ints]
section
variable {σ : L2.St} {H : Hp} {K : PySem.W.Frag} {a b : Addr} {ta tb : TE} {x y : V} {d e : PyData} {ns ms : List Int}
theorem v_eqD (ha : Val ta σ H x) (hb : Val tb σ H y) (hd : Dp K H x d) (he : Dp K H y e) (sd : SeqAt.shaped d = true) (se : SeqAt.shaped e = true) : Val (tOp (rEqD K) ta tb) σ H (.bl (PyData.eqv d e)) := val_op ha hb fun _ q => ⟨d, e, hd, he, sd, se, q⟩
theorem v_neD (ha : Val ta σ H x) (hb : Val tb σ H y) (hd : Dp K H x d) (he : Dp K H y e) (sd : SeqAt.shaped d = true) (se : SeqAt.shaped e = true) : Val (tOp (rNeD K) ta tb) σ H (.bl (!PyData.eqv d e)) := val_op ha hb fun _ q => ⟨d, e, hd, he, sd, se, q⟩
theorem v_eqL (ha : Val ta σ H (.ref a)) (hb : Val tb σ H (.ref b)) (h1 : SqL K H a (ns.map V.int)) (h2 : SqL K H b (ms.map V.int)) : Val (tOp (rEqD K) ta tb) σ H (.bl (decide (ns = ms))) := by
  rw [← eqv_intsL]; exact v_eqD ha hb (dp_intsL h1) (dp_intsL h2) (shaped_intsL _) (shaped_intsL _)
theorem v_neL (ha : Val ta σ H (.ref a)) (hb : Val tb σ H (.ref b)) (h1 : SqL K H a (ns.map V.int)) (h2 : SqL K H b (ms.map V.int)) : Val (tOp (rNeD K) ta tb) σ H (.bl (!decide (ns = ms))) := by
  rw [← eqv_intsL]; exact v_neD ha hb (dp_intsL h1) (dp_intsL h2) (shaped_intsL _) (shaped_intsL _)
end
/-! ### the laws' readers -/
def cellAt (ns : List Int) (k : Int) : Int := ns.getD k.toNat 0
def mixV (c p m : Int) : Int := c * 48271 % p % m
def fillV (c most : Int) : List Int := (List.range 64).map fun (k : Nat) => mixV (c + 977 * (k : Int)) 10007 most
theorem mixV_lo {c p m : Int} (h : 0 < m) : 0 ≤ mixV c p m := by unfold mixV; exact Int.emod_nonneg _ (by omega)
theorem mixV_hi {c p m : Int} (h : 0 < m) : mixV c p m < m := by unfold mixV; exact Int.emod_lt_of_pos _ h
theorem fillV_len (c m : Int) : (fillV c m).length = 64 := by simp [fillV]
theorem fillV_in {c m : Int} (h : 0 < m) : ∀ x ∈ fillV c m, 0 ≤ x ∧ x < m := by
  intro x hx
  obtain ⟨k, _, rfl⟩ := List.mem_map.mp hx
  exact ⟨mixV_lo h, mixV_hi h⟩
def spCell (K : PySem.W.Frag) : Sp := fun vs H Q _ => ∃ (a : Addr) (ns : List Int) (k : Int), vs = [.ref a, .int k] ∧ SqL K H a (ns.map V.int) ∧ 0 ≤ k ∧ Q (.int (cellAt ns k)) H
def spMix : Sp := fun vs H Q _ => ∃ c p m : Int, vs = [.int c, .int p, .int m] ∧ 0 < p ∧ 0 < m ∧ Q (.int (mixV c p m)) H
def spFill : Sp := fun vs H Q _ => ∃ c m : Int, vs = [.int c, .int m] ∧ 0 < m ∧ ∀ D, H D = none → Q (.ref D) (upd H D (.lst ((fillV c m).map V.int)))
def spWhole : Sp := fun vs H Q _ => ∃ i : Int, vs = [.int i] ∧ Q (.bl true) H
def spLaw (K : PySem.W.Frag) : Sp := fun vs H Q _ => ∃ (a : Addr) (ns : List Int), vs = [.ref a] ∧ SqL K H a (ns.map V.int) ∧ ns.length ≤ 63 ∧ ∀ H', Q (.bl true) H'
section
variable {σ : L2.St} {H : Hp} {K : PySem.W.Frag} {a : Addr} {te tl : TE} {tt : TT} {xs : List V} {tA : TA}
theorem comp_step {σ2 : L2.St} {H0 : Hp} {D : Addr} {p : V → Bool} {f : V → V} {x : V} {ys : List V} (hz : ys.length < 100000) (ht : Ans tt σ2 (upd H0 D (.lst ys)) (p x)) (he : p x = true → Val te σ2 (upd H0 D (.lst ys)) (f x)) :
    tt σ2 (upd H0 D (.lst ys)) fun b H3 => if b = true then te σ2 H3 fun y H4 => ∃ acc, H4 D = some (.lst acc) ∧ acc.length < sizeLine ∧ upd H4 D (.lst (acc ++ [y])) = upd H0 D (.lst (if p x = true then ys ++ [f x] else ys)) else H3 = upd H0 D (.lst (if p x = true then ys ++ [f x] else ys)) :=
  ht _ (by
    cases hp : p x with
    | true => exact iteT (he hp _ ⟨ys, upd_same, Nat.lt_of_lt_of_le hz (by decide), by rw [upd_upd, if_pos rfl]⟩)
    | false => exact iteF (by rw [if_neg Bool.false_ne_true]))
theorem filter_take {p : V → Bool} {f : V → V} {m : Nat} {x : V} (hm : xs[m]? = some x) : ((xs.take (m + 1)).filter p).map f = if p x = true then ((xs.take m).filter p).map f ++ [f x] else ((xs.take m).filter p).map f := by
  rw [List.take_add_one, hm, List.filter_append, List.map_append]
  cases hp : p x <;> simp [hp]
/-- [e for x in t if c], t a tuple, a list; c and e leave the heap -/
theorem nl_lcTt {k : Nat} {ws : List Nat} (p : V → Bool) (f : V → V) (h : Val tl σ H (.ref a)) (hs0 : SqT K H a xs) (hn : xs.length ≤ 100000) (hw : ∀ x, wipe ((wipe σ ws).set k (some x)) ws = wipe σ ws)
    (ht : ∀ (m : Nat) (x : V) (D : Addr) (acc : List V), H D = none → xs[m]? = some x → Ans tt ((wipe σ ws).set k (some x)) (upd H D (.lst acc)) (p x))
    (he : ∀ (m : Nat) (x : V) (D : Addr) (acc : List V), H D = none → xs[m]? = some x → p x = true → Val te ((wipe σ ws).set k (some x)) (upd H D (.lst acc)) (f x)) : NewL (tLc (iTup K tl) (gName k) tt te ws) σ H ((xs.filter p).map f) := fun Q q =>
  h _ ⟨a, rfl, ⟨xs, hs0⟩, fun D hD => lc_tup (xs := xs) (fun m H' => H' = upd H D (.lst (((xs.take m).filter p).map f))) rfl (fun m H' _ e => by rw [e]; exact smT (smN hD) hs0) (fun m x H' hm e => by
    subst e
    have hlt : m < xs.length := (List.getElem?_eq_some_iff.mp hm).1
    refine ⟨hw _, ?_⟩
    rw [filter_take hm]
    exact comp_step (by rw [List.length_map]; exact Nat.lt_of_le_of_lt (List.length_filter_le _ _) (by rw [List.length_take]; omega)) (ht m x D _ hD hm) (he m x D _ hD hm)) (fun H' e => by rw [e, List.take_length]; exact q D hD)⟩
theorem nl_lcLt {k : Nat} {ws : List Nat} (p : V → Bool) (f : V → V) (h : Val tl σ H (.ref a)) (hs0 : SqL K H a xs) (hn : xs.length ≤ 100000) (hw : ∀ x, wipe ((wipe σ ws).set k (some x)) ws = wipe σ ws)
    (ht : ∀ (m : Nat) (x : V) (D : Addr) (acc : List V), H D = none → xs[m]? = some x → Ans tt ((wipe σ ws).set k (some x)) (upd H D (.lst acc)) (p x))
    (he : ∀ (m : Nat) (x : V) (D : Addr) (acc : List V), H D = none → xs[m]? = some x → p x = true → Val te ((wipe σ ws).set k (some x)) (upd H D (.lst acc)) (f x)) : NewL (tLc (iList K tl) (gName k) tt te ws) σ H ((xs.filter p).map f) := fun Q q =>
  h _ ⟨a, rfl, ⟨xs, hs0⟩, fun D hD => lc_list (xs := xs) (fun m H' => H' = upd H D (.lst (((xs.take m).filter p).map f))) rfl (fun m H' _ e => by rw [e]; exact (smN hD).seq hs0) (fun m x H' hm e => by
    subst e
    have hlt : m < xs.length := (List.getElem?_eq_some_iff.mp hm).1
    refine ⟨hw _, ?_⟩
    rw [filter_take hm]
    exact comp_step (by rw [List.length_map]; exact Nat.lt_of_le_of_lt (List.length_filter_le _ _) (by rw [List.length_take]; omega)) (ht m x D _ hD hm) (he m x D _ hD hm)) (fun H' e => by rw [e, List.take_length]; exact q D hD)⟩
theorem same_mput {C : Addr} {H0 H' : Hp} {p dx l : Addr} {m : Mc} (e : Same (mput C H0 p dx l m) H') (h : l ≠ p) : mput C H' p dx l m = H' := mput_id (e _ _ mput_p) (e _ _ (mput_l h))
/-- sum([..]) -/
theorem x_sum {ns : List Int} (h : NewL te σ H (ns.map V.int)) {Q : VK} (q : ∀ H', Same H H' → Q (.int ns.sum) H') : tCB (rSum K) (tCons te tNil) σ H Q := h _ fun D hD => ⟨D, ns, rfl, SqL.of upd_same, q _ (smN hD)⟩
end
theorem filter_ints (p : V → Bool) (q : Int → Bool) (h : ∀ i, p (.int i) = q i) : ∀ ns : List Int, ((ns.map V.int).filter p).map id = (ns.filter q).map V.int
  | [] => rfl
  | n :: r => by
    have ih := filter_ints p q h r
    rw [List.map_cons, List.filter_cons, List.filter_cons, h n]
    cases q n <;> simp at ih ⊢ <;> simp [ih]
section
variable {P : Program} {w : World} {K : PySem.W.Frag} {mg : Str → Option Value} {base : Heap}

theorem sc_law_cell : FnScope ["_law_script", "_law_k"] ["_law_script", "_law_k"] (defScope s_law_cell) := ⟨rfl, rfl, rfl, by decide +kernel, rfl, by decide +kernel, by decide +kernel⟩
theorem cal_law_cell (T : Tx K mg) : Cal P w K mg base 1 "_law_cell" ["_law_script", "_law_k"] (spCell K) := by
  refine cal_mk T 45 45 rfl rfl sc_law_cell (fun _ _ _ _ _ _ us hl => match us, hl with | [_, _], _ => rfl) (fun vs H Q E h => ?_) (fun f cdv A outer s H vs Q E hr h => ?_)
  · obtain ⟨a, ns, j, rfl, hS, h0, k⟩ := h
    rfl
  · obtain ⟨a, ns, j, rfl, hS, h0, k⟩ := h
    refine ⟨_, (pss_cons (ps_if (pt_cmpR op_lt (pv 1) (pe_callB call_len_seq (by rfl) (T.free 50) PySem.boot_len (pa_cons (pv 0) pa_nil)) (nomark _)) (pss_one (ps_ret (pe_ix ix_list (pv 0) (pv 1) (fun _ _ => rfl)))) pss_nil) (pss_one (ps_ret pe_int))), ?_⟩
    refine q_if (a_t (v_lt (v_var rfl) (v_cb (va_cons (v_var rfl) va_nil) (fun _ q => ⟨_, _, rfl, .inl hS, q⟩)))) (fun h1 => ?_) (fun h1 => ?_)
    · have g : j < ((ns.map V.int).length : Int) := of_decide_eq_true h1
      rw [List.length_map] at g
      exact s_ret (v_ixLI (v_var rfl) (v_var rfl) hS h0 g) k
    · refine s_next ?_
      have g : ¬ j < ((ns.map V.int).length : Int) := of_decide_eq_false h1
      rw [List.length_map] at g
      refine s_ret v_c ?_
      have e : cellAt ns j = 0 := by unfold cellAt; rw [List.getD_eq_getElem?_getD, List.getElem?_eq_none (by omega)]; rfl
      rw [e] at k
      exact k

theorem sc_law_mix : FnScope ["_law_cell_here", "_law_prime", "_law_many"] ["_law_cell_here", "_law_prime", "_law_many"] (defScope s_law_mix) := ⟨rfl, rfl, rfl, by decide +kernel, rfl, by decide +kernel, by decide +kernel⟩
theorem cal_law_mix (T : Tx K mg) : Cal P w K mg base 1 "_law_mix" ["_law_cell_here", "_law_prime", "_law_many"] spMix := by
  refine cal_mk T 46 46 rfl rfl sc_law_mix (fun _ _ _ _ _ _ us hl => match us, hl with | [_, _, _], _ => rfl) (fun vs H Q E h => ?_) (fun f cdv A outer s H vs Q E hr h => ?_)
  · obtain ⟨c, p, m, rfl, hp, hm, k⟩ := h
    rfl
  · obtain ⟨c, p, m, rfl, hp, hm, k⟩ := h
    refine ⟨_, (pss_one (ps_ret (pe_op op_mod (pe_op op_mod (pe_op op_mul (pv 0) pe_int) (pv 1)) (pv 2)))), ?_⟩
    refine s_ret (v_mod (v_mod (v_mul (v_var rfl) v_c (.inr ⟨by decide, by decide⟩)) (v_var rfl) (by assumption)) (v_var rfl) (by assumption)) ?_
    exact k
end
/-! ### words for the laws' own bodies -/
section
variable {σ : L2.St} {H : Hp} {K : PySem.W.Frag} {a p : Addr} {te ta tb ti to : TE} {v x y : V} {N : L2.St → Hp → Prop} {R : VK} {B C' : L2.St → Hp → Prop} {tz : TS} {tA : TA} {C : Addr} {i z t mk pc : Int} {cs ns : List Int} {m : Mc}
/-- an item of a written list of ints -/
theorem v_menu (ns : List Int) (h : ValA tA σ H (ns.map V.int)) (hl : ns.length ≤ 1000) (hi : ∀ H', Same H H' → Val ti σ H' (.int i)) (h0 : 0 ≤ i) (h1 : i < (ns.length : Int)) {Q : VK} (q : ∀ H', Same H H' → Q (.int (ns.getD i.toNat 0)) H') : tOp (rIxL K) (tLst tA) ti σ H Q :=
  h _ ⟨Nat.le_trans (by rw [List.length_map]; exact hl) (by decide), fun D hD => by
    refine hi _ (smN hD) _ ⟨D, ns.map V.int, i, .int (ns.getD i.toNat 0), rfl, rfl, SqL.of upd_same, ?_, q _ (smN hD)⟩
    refine at_of (j := i.toNat) (by omega) ?_
    have hl : i.toNat < ns.length := by omega
    rw [List.getElem?_map, List.getElem?_eq_getElem hl]
    simp [List.getD_eq_getElem?_getD, List.getElem?_eq_getElem hl]⟩
theorem q_setItem (hv : Val te σ H (.int z)) (ho : Val to σ H (.ref p)) (hi : Val ti σ H (.int i)) (hp : H p = some (.lst (ns.map V.int))) (h0 : 0 ≤ i) (h1 : i < (ns.length : Int)) (q : tz ⟨N, R, B, C'⟩ σ (upd H p (.lst ((ns.set i.toNat z).map V.int)))) :
    tSeq (tAsg te (gSub to ti rSetL)) tz ⟨N, R, B, C'⟩ σ H := hv _ (ho _ (hi _ ⟨p, _, i, i.toNat, rfl, rfl, hp, ixN_int h0 (by rw [List.length_map]; exact h1), by rw [← List.map_set]; exact q⟩))
theorem s_setItem (hv : Val te σ H (.int z)) (ho : Val to σ H (.ref p)) (hi : Val ti σ H (.int i)) (hp : H p = some (.lst (ns.map V.int))) (h0 : 0 ≤ i) (h1 : i < (ns.length : Int)) (q : N σ (upd H p (.lst ((ns.set i.toNat z).map V.int)))) :
    tAsg te (gSub to ti rSetL) ⟨N, R, B, C'⟩ σ H := hv _ (ho _ (hi _ ⟨p, _, i, i.toNat, rfl, rfl, hp, ixN_int h0 (by rw [List.length_map]; exact h1), by rw [← List.map_set]; exact q⟩))
theorem mput_make {x dx l o : Addr} {u : HO} : mput C (upd (upd H o u) x (.ins C dx [])) x dx l m = mput C (upd H o u) x dx l m := by
  funext b; unfold mput upd
  by_cases h1 : b = x <;> by_cases h2 : b = l <;> simp [h1, h2]
/-- Machine(..) -/
theorem x_machine (h : ValA tA σ H [.ref a, .int t, .int mk, .int pc]) (hs : SqL K H a (cs.map V.int) ∨ SqT K H a (cs.map V.int)) {Q : VK}
    (q : ∀ x dx l H', H x = none → H l = none → H dx = none → l ≠ x → Same H H' → Q (.ref x) (mput C H' x dx l ⟨cs, t, mk, pc⟩)) : tMake C (spMachine K C) [] E0 tA σ H Q :=
  h _ fun x dx nx nd ne => by
    have sm : Same H (upd (upd H dx (.own x)) x (.ins C dx [])) := smM (smN nd) nx
    refine ⟨x, dx, a, cs, t, mk, pc, rfl, upd_same, hs.imp sm.seq (smT sm), fun l hl => ⟨rfl, ?_⟩⟩
    have nlx : l ≠ x := fun e => by subst e; rw [upd_same] at hl; cases hl
    rw [mput_make]
    exact q x dx l _ nx (sm.free hl) nd nlx (smN nd)
theorem q_machine {k : Nat} (h : ValA tA σ H [.ref a, .int t, .int mk, .int pc]) (hs : SqL K H a (cs.map V.int) ∨ SqT K H a (cs.map V.int))
    (q : ∀ x dx l H', H x = none → H l = none → H dx = none → l ≠ x → Same H H' → tz ⟨N, R, B, C'⟩ (σ.set k (some (.ref x))) (mput C H' x dx l ⟨cs, t, mk, pc⟩)) : tSeq (tAsg (tMake C (spMachine K C) [] E0 tA) (gName k)) tz ⟨N, R, B, C'⟩ σ H := by
  show tMake C (spMachine K C) [] E0 tA σ H (fun v H1 => tz ⟨N, R, B, C'⟩ (σ.set k (some v)) H1)
  exact x_machine h hs q
theorem q_rel {t1 : TS} (Mid : L2.St → Hp → Prop) (h : t1 ⟨Mid, R, B, C'⟩ σ H) (k : ∀ σ' H', Mid σ' H' → tz ⟨N, R, B, C'⟩ σ' H') : C8.tCut t1 tz ⟨N, R, B, C'⟩ σ H := ⟨Mid, h, k⟩
end
/-- a cell's item through a mput -/
theorem getC_set {cs : List Int} {t mk pc i v : Int} (h0 : 0 ≤ i) (h1 : i < (cs.length : Int)) : getC ⟨cs.set i.toNat v, t, mk, pc⟩ i = v := by
  unfold getC
  have : i.toNat < cs.length := by omega
  simp [List.getD_eq_getElem?_getD, this]
theorem mem_set_in {P : Int → Prop} : ∀ {cs : List Int} {i : Nat} {v : Int}, (∀ c ∈ cs, P c) → P v → ∀ c ∈ cs.set i v, P c := by
  intro cs i v h hv c hc
  rcases List.mem_or_eq_of_mem_set hc with h1 | h1
  · exact h c h1
  · exact h1 ▸ hv
theorem menu_in (P : Int → Prop) {ns : List Int} (h : ∀ x ∈ ns, P x) (h0 : P 0) (i : Nat) : P (ns.getD i 0) := by
  rw [List.getD_eq_getElem?_getD]
  cases e : ns[i]? with
  | none => exact h0
  | some x => exact h x (List.mem_of_getElem? e)
theorem mput_upd {C : Addr} {H : Hp} {p dx l q : Addr} {m : Mc} {o : HO} (h1 : q ≠ p) (h2 : q ≠ l) : upd (mput C H p dx l m) q o = mput C (upd H q o) p dx l m := by
  funext b; unfold mput upd
  by_cases e : b = q
  · subst e; simp [h1, h2]
  · simp [e]
theorem setAt {cs : List Int} {i : Int} {v : Int} (h0 : 0 ≤ i) (h1 : i < (cs.length : Int)) : (cs.set i.toNat v).getD i.toNat 0 = v := by
  have : i.toNat < cs.length := by omega
  simp [List.getD_eq_getElem?_getD, this]
section
variable {σ : L2.St} {H : Hp} {K : PySem.W.Frag} {a p dx l C : Addr} {te ta tb ti to : TE} {v x y : V} {m : Mc} {xs : List V}
/-- isinstance(x, list) of a list that stands in the heap -/
theorem v_isiL {b : Bool} {c : String} (hc : Val tb σ H (.ty c)) (h : ∃ y t, Val ta σ H y ∧ TyX K H y (.type t) ∧ PySem.W.kitOne K (.type t) (.type c) = some b) : Val (tCB (rIsi K) (tCons ta (tCons tb tNil))) σ H (.bl b) := by
  obtain ⟨y, t, h1, h2, h3⟩ := h
  exact v_cb (va_cons h1 (va_cons hc va_nil)) fun _ q => ⟨y, .ty c, .type t, .type c, b, rfl, .ty c, h2, h3, q⟩
theorem isi_list (h : Val ta σ H (.ref a)) (ha : H a = some (.lst xs)) : ∃ y t, Val ta σ H y ∧ TyX K H y (.type t) ∧ PySem.W.kitOne K (.type t) (.type "list") = some true := ⟨_, "list", h, .base (.lst ha), kit_ty (by decide +kernel)⟩
theorem isi_tup (h : Val ta σ H (.ref a)) (ha : H a = some (.tup xs)) : ∃ y t, Val ta σ H y ∧ TyX K H y (.type t) ∧ PySem.W.kitOne K (.type t) (.type "tuple") = some true := ⟨_, "tuple", h, .base (.tup ha), kit_ty (by decide +kernel)⟩
end
section
variable {σ : L2.St} {H : Hp} {K : PySem.W.Frag} {a : Addr} {te tl : TE} {tt : TT} {xs : List V} {tA : TA}
/-- a new list of xs; other new objects may lie beside -/
def NewLs (te : TE) (σ : L2.St) (H : Hp) (xs : List V) : Prop := ∀ Q : VK, (∀ D H', H D = none → Same H H' → H' D = some (.lst xs) → Q (.ref D) H') → te σ H Q
theorem NewL.s (h : NewL te σ H xs) : NewLs te σ H xs := fun _ q => h _ fun D hD => q D _ hD (smN hD) upd_same
theorem x_Ls {Q : VK} (h : NewLs te σ H xs) (q : ∀ D H', H D = none → Same H H' → H' D = some (.lst xs) → Q (.ref D) H') : te σ H Q := h _ q
theorem mapIdx_take {f : Nat → V → V} {m : Nat} {x : V} (hm : xs[m]? = some x) : (xs.take (m + 1)).mapIdx f = (xs.take m).mapIdx f ++ [f m x] := by
  have hlt : m < xs.length := (List.getElem?_eq_some_iff.mp hm).1
  rw [List.take_add_one, hm, List.mapIdx_append]
  simp [List.length_take, Nat.min_eq_left (Nat.le_of_lt hlt)]
/-- [e for k, x in enumerate(xs)], e leaving the heap -/
theorem nls_enum {k j : Nat} {ws : List Nat} (f : Nat → V → V) (h : ValA tA σ H [.ref a]) (hs : SqL K H a xs) (hn : xs.length ≤ 100000) (hw : ∀ x y, wipe (((wipe σ ws).set k (some x)).set j (some y)) ws = wipe σ ws)
    (he : ∀ (m : Nat) (x : V) (H' : Hp), Same H H' → xs[m]? = some x → Val te (((wipe σ ws).set k (some (.int (m : Int)))).set j (some x)) H' (f m x)) :
    NewLs (tLc (iEnum K tA) (gTup K 2 (gCons (gName k) (gCons (gName j) gNil))) tYes te ws) σ H (xs.mapIdx f) := fun Q q =>
  h _ ⟨a, xs, rfl, hs, fun D hD => lc_it (walk_enum (xs := xs)) (fun m H' => Same H H' ∧ H' D = some (.lst ((xs.take m).mapIdx f))) ⟨smN hD, upd_same⟩ (fun m H' _ e => e.1.seq hs) (fun m v H1 H' hm e y => by
    obtain ⟨sm, hl⟩ := e
    obtain ⟨T, u, x, rfl, hT, rfl, hu, hx⟩ := y
    cases hu
    have sm2 := sm.trans (smN (o := .tup [V.int (m : Int), x]) hT)
    have nDT : D ≠ T := ne_of_none hl hT
    refine ⟨T, _, rfl, SqT.of upd_same, rfl, _, _, rfl, _, _, rfl, rfl, hw _ _, ?_⟩
    unfold tYes
    dsimp only
    rw [if_pos rfl]
    refine he m x _ sm2 hx _ ⟨_, by rw [upd_ne nDT]; exact hl, ?_, smM sm2 hD, ?_⟩
    · rw [List.length_mapIdx, List.length_take]
      exact Nat.lt_of_lt_of_le (show min m xs.length < 100000 by omega) (by decide)
    · rw [upd_same, mapIdx_take hx]) (fun H' e => by rw [List.take_length] at e; exact q D H' hD e.1 e.2)⟩
theorem x_any {bs : List Bool} (h : NewLs te σ H (bs.map V.bl)) {Q : VK} (q : ∀ H', Same H H' → Q (.bl (bs.any id)) H') : tCB (rAny K) (tCons te tNil) σ H Q := h _ fun D H' _ sm hD => ⟨D, bs, rfl, SqL.of hD, q _ sm⟩
end
section
variable {σ : L2.St} {H : Hp} {K : PySem.W.Frag} {C : Addr} {te : TE} {tA : TA} {t mk pc : Int}
theorem smP' {C : Addr} {H H' : Hp} {p dx l : Addr} {m : Mc} (h1 : H p = none) (h2 : H l = none) (e : Same H H') : Same H (mput C H' p dx l m) := smP e h1 h2
/-- Machine([..], total, mark, at) -/
theorem x_machineL {f : Nat → Int} (h : NewL te σ H ((List.range 64).map fun i => V.int (f i))) (hA : ∀ H', ValA tA σ H' [.int t, .int mk, .int pc]) {Q : VK}
    (q : ∀ x dx l H', l ≠ x → (∀ m H'', Same (mput C H' x dx l m) H'' → Same H H'') → Q (.ref x) (mput C H' x dx l ⟨(List.range 64).map f, t, mk, pc⟩)) : tMake C (spMachine K C) [] E0 (tCons te tA) σ H Q := by
  show te σ H _
  refine h _ (fun D hD => ?_)
  refine hA _ _ ?_
  have e : (List.range 64).map (fun i => V.int (f i)) = ((List.range 64).map f).map V.int := by rw [List.map_map]; rfl
  refine (x_machine (σ := σ) (H := upd H D (.lst ((List.range 64).map fun i => V.int (f i)))) (tA := fun _ H1 Q1 => Q1 [.ref D, .int t, .int mk, .int pc] H1) (cs := (List.range 64).map f) (t := t) (mk := mk) (pc := pc) (fun Q1 q1 => q1) (.inl (SqL.of (by rw [upd_same, e]))) (Q := Q) (fun x dx l H' nx nl _ hne sm => ?_) : _)
  have sm0 := (smN (o := .lst ((List.range 64).map fun i => V.int (f i))) hD).trans sm
  have nx0 : H x = none := (smN hD).free nx
  have nl0 : H l = none := (smN hD).free nl
  exact q x dx l H' hne fun m H'' s => (smP sm0 nx0 nl0).trans s
end
/-! ### loops -/
section
variable {σ : L2.St} {H : Hp} {K : PySem.W.Frag} {a : Addr} {tl : TE} {tA : TA} {tb tz : TS} {N : L2.St → Hp → Prop} {R : VK} {B C' : L2.St → Hp → Prop} {k j : Nat} {n : Int} {xs : List V}
theorem s_forR (h : ValA tA σ H [.int n]) (hn0 : n ≤ 100000) (Pv : Nat → L2.St → Hp → Prop) (h0 : Pv 0 σ H)
    (hs : ∀ (i : Nat) σ' H', (i : Int) < n → Pv i σ' H' → tb ⟨Pv (i + 1), R, N, Pv (i + 1)⟩ (σ'.set k (some (.int (i : Int)))) H') (hd : ∀ σ' H', Pv n.toNat σ' H' → N σ' H') (hn1 : -100000 ≤ n := by omega) : tFor (iRng1 tA) (gName k) tb ⟨N, R, B, C'⟩ σ H :=
  h _ ⟨n, rfl, by omega, by omega, for_range (lo := 0) (n := n.toNat) (D := ⟨N, R, B, C'⟩) Pv h0 (fun i σ' H' hi p => by
    have e0 : (0 : Int) + (i : Int) = (i : Int) := Int.zero_add _
    rw [e0]
    exact hs i σ' H' (by omega) p) hd⟩
theorem q_forR (h : ValA tA σ H [.int n]) (hn0 : n ≤ 100000) (Pv : Nat → L2.St → Hp → Prop) (h0 : Pv 0 σ H)
    (hs : ∀ (i : Nat) σ' H', (i : Int) < n → Pv i σ' H' → tb ⟨Pv (i + 1), R, tz ⟨N, R, B, C'⟩, Pv (i + 1)⟩ (σ'.set k (some (.int (i : Int)))) H') (hd : ∀ σ' H', Pv n.toNat σ' H' → tz ⟨N, R, B, C'⟩ σ' H') (hn1 : -100000 ≤ n := by omega) : tSeq (tFor (iRng1 tA) (gName k) tb) tz ⟨N, R, B, C'⟩ σ H :=
  s_forR (N := tz ⟨N, R, B, C'⟩) (B := B) (C' := C') h hn0 Pv h0 hs hd hn1
theorem s_forL (h : Val tl σ H (.ref a)) (hx : SqL K H a xs) (Pv : Nat → L2.St → Hp → Prop) (h0 : Pv 0 σ H) (hl : ∀ (i : Nat) σ' H', Pv i σ' H' → SqL K H' a xs)
    (hs : ∀ (i : Nat) x σ' H', xs[i]? = some x → Pv i σ' H' → tb ⟨Pv (i + 1), R, N, Pv (i + 1)⟩ (σ'.set k (some x)) H') (hd : ∀ σ' H', Pv xs.length σ' H' → N σ' H') : tFor (iList K tl) (gName k) tb ⟨N, R, B, C'⟩ σ H :=
  h _ ⟨a, rfl, ⟨xs, hx⟩, for_list (xs := xs) (D := ⟨N, R, B, C'⟩) Pv h0 (fun i σ' H' _ p => hl i σ' H' p) hs hd⟩
theorem q_forL (h : Val tl σ H (.ref a)) (hx : SqL K H a xs) (Pv : Nat → L2.St → Hp → Prop) (h0 : Pv 0 σ H) (hl : ∀ (i : Nat) σ' H', Pv i σ' H' → SqL K H' a xs)
    (hs : ∀ (i : Nat) x σ' H', xs[i]? = some x → Pv i σ' H' → tb ⟨Pv (i + 1), R, tz ⟨N, R, B, C'⟩, Pv (i + 1)⟩ (σ'.set k (some x)) H') (hd : ∀ σ' H', Pv xs.length σ' H' → tz ⟨N, R, B, C'⟩ σ' H') : tSeq (tFor (iList K tl) (gName k) tb) tz ⟨N, R, B, C'⟩ σ H :=
  s_forL (N := tz ⟨N, R, B, C'⟩) (B := B) (C' := C') h hx Pv h0 hl hs hd
/-- for k, x in enumerate(xs): a new pair each turn -/
theorem s_forE (h : ValA tA σ H [.ref a]) (hx : SqL K H a xs) (Pv : Nat → L2.St → Hp → Prop) (h0 : Pv 0 σ H) (hl : ∀ (i : Nat) σ' H', Pv i σ' H' → SqL K H' a xs)
    (hs : ∀ (i : Nat) x σ' H' T, xs[i]? = some x → Pv i σ' H' → H' T = none → tb ⟨Pv (i + 1), R, N, Pv (i + 1)⟩ ((σ'.set k (some (.int (i : Int)))).set j (some x)) (upd H' T (.tup [.int (i : Int), x]))) (hd : ∀ σ' H', Pv xs.length σ' H' → N σ' H') :
    tFor (iEnum K tA) (gTup K 2 (gCons (gName k) (gCons (gName j) gNil))) tb ⟨N, R, B, C'⟩ σ H :=
  h _ ⟨a, xs, rfl, hx, for_it (walk_enum (xs := xs)) (D := ⟨N, R, B, C'⟩) Pv h0 (fun i σ' H' _ p => hl i σ' H' p) (fun i x σ' H1 H' hi p y => by
    obtain ⟨T, u, z, rfl, hT, rfl, hu, hz⟩ := y
    cases hu
    exact ⟨T, _, rfl, SqT.of upd_same, rfl, _, _, rfl, _, _, rfl, rfl, hs i z σ' H1 T hz p hT⟩) hd⟩
theorem q_forE (h : ValA tA σ H [.ref a]) (hx : SqL K H a xs) (Pv : Nat → L2.St → Hp → Prop) (h0 : Pv 0 σ H) (hl : ∀ (i : Nat) σ' H', Pv i σ' H' → SqL K H' a xs)
    (hs : ∀ (i : Nat) x σ' H' T, xs[i]? = some x → Pv i σ' H' → H' T = none → tb ⟨Pv (i + 1), R, tz ⟨N, R, B, C'⟩, Pv (i + 1)⟩ ((σ'.set k (some (.int (i : Int)))).set j (some x)) (upd H' T (.tup [.int (i : Int), x]))) (hd : ∀ σ' H', Pv xs.length σ' H' → tz ⟨N, R, B, C'⟩ σ' H') :
    tSeq (tFor (iEnum K tA) (gTup K 2 (gCons (gName k) (gCons (gName j) gNil))) tb) tz ⟨N, R, B, C'⟩ σ H :=
  s_forE (N := tz ⟨N, R, B, C'⟩) (B := B) (C' := C') h hx Pv h0 hl hs hd
end
section
variable {σ : L2.St} {H : Hp} {K : PySem.W.Frag} {a : Addr} {te tl : TE} {xs ys : List V}
/-- [e for x in (written tuple)] -/
theorem nls_lcNT {k : Nat} {ws : List Nat} (f : V → V) (hy : xs.map f = ys) (h : NewT tl σ H xs) (hn : xs.length ≤ 100000) (hw : ∀ x, wipe ((wipe σ ws).set k (some x)) ws = wipe σ ws)
    (he : ∀ (m : Nat) (x : V) (H' : Hp), Same H H' → xs[m]? = some x → Val te ((wipe σ ws).set k (some x)) H' (f x)) : NewLs (tLc (iTup K tl) (gName k) tYes te ws) σ H ys := fun Q q =>
  h _ fun P hP => ⟨P, rfl, ⟨xs, SqT.of upd_same⟩, fun D hD => lc_tup (xs := xs) (fun m H' => Same H H' ∧ H' P = some (.tup xs) ∧ H' D = some (.lst ((xs.take m).map f))) ⟨(smN hP).trans (smN hD), smN hD _ _ upd_same, upd_same⟩ (fun m H' _ e => SqT.of e.2.1) (fun m x H' hm e => by
    obtain ⟨sm, hPP, hl⟩ := e
    have hD0 : H D = none := (smN hP).free hD
    have nPD : P ≠ D := ne_of_none upd_same hD
    refine ⟨hw _, ?_⟩
    unfold tYes
    dsimp only
    rw [if_pos rfl]
    refine he m x _ sm hm _ ⟨_, hl, ?_, smM sm hD0, by rw [upd_ne nPD]; exact hPP, ?_⟩
    · rw [List.length_map, List.length_take]
      exact Nat.lt_of_lt_of_le (show min m xs.length < 100000 by have := (List.getElem?_eq_some_iff.mp hm).1; omega) (by decide)
    · rw [upd_same, List.take_add_one, hm, List.map_append]; rfl) (fun H' e => by
      have e3 := e.2.2
      rw [List.take_length, hy] at e3
      exact q D H' ((smN hP).free hD) e.1 e3)⟩
theorem x_sum' {ns : List Int} (h : NewLs te σ H (ns.map V.int)) {Q : VK} (q : ∀ H', Same H H' → Q (.int ns.sum) H') : tCB (rSum K) (tCons te tNil) σ H Q := h _ fun D H' _ sm hD => ⟨D, ns, rfl, SqL.of hD, q _ sm⟩
end
section
variable {σ : L2.St} {H : Hp} {K : PySem.W.Frag} {te : TE} {tb tz : TS} {N : L2.St → Hp → Prop} {R : VK} {B C' : L2.St → Hp → Prop} {k j : Nat} {xs : List V}
/-- for k, x in enumerate(a new list) -/
theorem s_forEN (h : NewL te σ H xs) (Pv : Addr → Nat → L2.St → Hp → Prop) (h0 : ∀ D, H D = none → Pv D 0 σ (upd H D (.lst xs))) (hl : ∀ D (i : Nat) σ' H', Pv D i σ' H' → SqL K H' D xs)
    (hs : ∀ D (i : Nat) x σ' H' T, xs[i]? = some x → Pv D i σ' H' → H' T = none → tb ⟨Pv D (i + 1), R, N, Pv D (i + 1)⟩ ((σ'.set k (some (.int (i : Int)))).set j (some x)) (upd H' T (.tup [.int (i : Int), x]))) (hd : ∀ D σ' H', Pv D xs.length σ' H' → N σ' H') :
    tFor (iEnum K (tCons te tNil)) (gTup K 2 (gCons (gName k) (gCons (gName j) gNil))) tb ⟨N, R, B, C'⟩ σ H :=
  h _ fun D hD => s_forE (tA := fun _ H1 Q1 => Q1 [.ref D] H1) (σ := σ) (H := upd H D (.lst xs)) (fun Q1 q1 => q1) (SqL.of upd_same) (Pv D) (h0 D hD) (fun i σ' H' p => hl D i σ' H' p) (fun i x σ' H' T hx p hT => hs D i x σ' H' T hx p hT) (fun σ' H' p => hd D σ' H' p)
end
theorem cutV_nat {xs : List V} {i j : Nat} (h : i ≤ j) : cutV xs (some (i : Int)) (some (j : Int)) = (xs.take j).drop i := by
  unfold cutV
  rw [HT.sIx_nat, HT.sIx_nat]
  apply List.ext_getElem?
  intro n
  simp only [List.getElem?_take, List.getElem?_drop]
  by_cases c1 : n < j - i
  · have c2 : i + n < j := by omega
    rw [if_pos c2]
    by_cases c3 : i ≤ xs.length
    · rw [Nat.min_eq_left c3]
      by_cases c4 : n < min j xs.length - i
      · rw [if_pos c4]
      · rw [if_neg c4]
        exact (List.getElem?_eq_none (by omega)).symm
    · rw [if_neg (by omega)]
      exact (List.getElem?_eq_none (by omega)).symm
  · rw [if_neg (by omega), if_neg (by omega)]
/-! ### the bits of words -/
theorem land_step (a b : Nat) : a &&& b = 2 * ((a / 2) &&& (b / 2)) + (if a % 2 = 1 ∧ b % 2 = 1 then 1 else 0) := by
  have h1 : (a &&& b) / 2 = a / 2 &&& b / 2 := Nat.and_div_two
  have h2 : (a &&& b) % 2 = 1 ↔ a % 2 = 1 ∧ b % 2 = 1 := Nat.and_mod_two_eq_one
  rw [← h1]
  by_cases h : a % 2 = 1 ∧ b % 2 = 1
  · rw [if_pos h]; have := h2.mpr h; omega
  · rw [if_neg h]; have : ¬ (a &&& b) % 2 = 1 := fun q => h (h2.mp q); omega
def bsN : Nat → Nat → Nat → Nat
  | 0, _, _ => 0
  | k + 1, a, b => 2 * bsN k (a / 2) (b / 2) + (if a % 2 = 1 ∧ b % 2 = 1 then 1 else 0)
theorem land_bsN : ∀ (k a b : Nat), a < 2 ^ k → a &&& b = bsN k a b
  | 0, a, b, h => by
    have e : a = 0 := by simpa using h
    subst e; simp [bsN]
  | k + 1, a, b, h => by
    rw [land_step, bsN, land_bsN k (a / 2) (b / 2) (by rw [Nat.pow_succ] at h; omega)]
def marks10 : List Int := [1, 2, 4, 8, 16, 32, 64, 128, 256, 512]
theorem sum_filter (p : Int → Bool) : ∀ l : List Int, (l.filter p).sum = (l.map fun x => if p x = true then x else 0).sum
  | [] => rfl
  | x :: l => by
    rw [List.filter_cons, List.map_cons, List.sum_cons, ← sum_filter p l]
    by_cases h : p x = true
    · rw [if_pos h, if_pos h, List.sum_cons]
    · rw [if_neg h, if_neg h]; omega
theorem if_up (d : Nat) (x y : Int) (hx : 0 ≤ x) (hy : 0 ≤ y) (hd : 0 < d) : (if (decide (x / (d : Int) % 2 = 1) && decide (y / (d : Int) % 2 = 1)) = true then (d : Int) else 0) = (d : Int) * ((if x.toNat / d % 2 = 1 ∧ y.toNat / d % 2 = 1 then 1 else 0 : Nat) : Int) := by
  obtain ⟨a, rfl⟩ := Int.eq_ofNat_of_zero_le hx
  obtain ⟨b, rfl⟩ := Int.eq_ofNat_of_zero_le hy
  have e1 : ((a : Int) / (d : Int) % 2 = 1) ↔ (a / d % 2 = 1) := by
    rw [← Int.natCast_ediv]; omega
  have e2 : ((b : Int) / (d : Int) % 2 = 1) ↔ (b / d % 2 = 1) := by
    rw [← Int.natCast_ediv]; omega
  simp only [Int.toNat_natCast, Bool.and_eq_true, decide_eq_true_eq, e1, e2]
  split <;> simp
theorem and_marks {x y : Int} (h0 : 0 ≤ x) (h1 : x < 1024) (h2 : 0 ≤ y) : Builtin.bitAnd x y = (marks10.filter fun b => decide (x / b % 2 = 1) && decide (y / b % 2 = 1)).sum := by
  have e : Builtin.bitAnd x y = ((x.toNat &&& y.toNat : Nat) : Int) := by simp [Builtin.bitAnd, h0, h2]
  rw [e, land_bsN 10 x.toNat y.toNat (by show x.toNat < 1024; omega), sum_filter]
  have u := fun (d : Nat) (hd : 0 < d) => if_up d x y h0 h2 hd
  have l : (marks10.map fun b => if (decide (x / b % 2 = 1) && decide (y / b % 2 = 1)) = true then b else 0).sum =
      (1 : Int) * ((if x.toNat / 1 % 2 = 1 ∧ y.toNat / 1 % 2 = 1 then 1 else 0 : Nat) : Int) + (2 * ((if x.toNat / 2 % 2 = 1 ∧ y.toNat / 2 % 2 = 1 then 1 else 0 : Nat) : Int) + (4 * ((if x.toNat / 4 % 2 = 1 ∧ y.toNat / 4 % 2 = 1 then 1 else 0 : Nat) : Int) + (8 * ((if x.toNat / 8 % 2 = 1 ∧ y.toNat / 8 % 2 = 1 then 1 else 0 : Nat) : Int) + (16 * ((if x.toNat / 16 % 2 = 1 ∧ y.toNat / 16 % 2 = 1 then 1 else 0 : Nat) : Int) + (32 * ((if x.toNat / 32 % 2 = 1 ∧ y.toNat / 32 % 2 = 1 then 1 else 0 : Nat) : Int) + (64 * ((if x.toNat / 64 % 2 = 1 ∧ y.toNat / 64 % 2 = 1 then 1 else 0 : Nat) : Int) + (128 * ((if x.toNat / 128 % 2 = 1 ∧ y.toNat / 128 % 2 = 1 then 1 else 0 : Nat) : Int) + (256 * ((if x.toNat / 256 % 2 = 1 ∧ y.toNat / 256 % 2 = 1 then 1 else 0 : Nat) : Int) + (512 * ((if x.toNat / 512 % 2 = 1 ∧ y.toNat / 512 % 2 = 1 then 1 else 0 : Nat) : Int) + 0))))))))) := by
    show _ + (_ + (_ + (_ + (_ + (_ + (_ + (_ + (_ + (_ + (0 : Int)))))))))) = _
    have v1 := u 1 (by decide); have v2 := u 2 (by decide); have v3 := u 4 (by decide); have v4 := u 8 (by decide); have v5 := u 16 (by decide)
    have v6 := u 32 (by decide); have v7 := u 64 (by decide); have v8 := u 128 (by decide); have v9 := u 256 (by decide); have v10 := u 512 (by decide)
    exact congr (congrArg HAdd.hAdd v1) (congr (congrArg HAdd.hAdd v2) (congr (congrArg HAdd.hAdd v3) (congr (congrArg HAdd.hAdd v4) (congr (congrArg HAdd.hAdd v5) (congr (congrArg HAdd.hAdd v6) (congr (congrArg HAdd.hAdd v7) (congr (congrArg HAdd.hAdd v8) (congr (congrArg HAdd.hAdd v9) (congr (congrArg HAdd.hAdd v10) rfl)))))))))
  rw [l]
  simp only [bsN, Nat.div_div_eq_div_mul, Nat.reduceMul, Nat.div_one]
  omega
/-! ### words stay words -/
theorem wf_skip {m : Mc} (h : WfM m) : WfM (skipM m) := ⟨⟨h.len, by show 0 ≤ (m.pc + 1) % 64; omega, by show (m.pc + 1) % 64 < 64; omega⟩, h.cell, h.tlo, h.thi, h.bit⟩
theorem getC_in {m : Mc} (h : WfM m) (i : Int) : 0 ≤ getC m i ∧ getC m i < 1024 := menu_in (fun x => 0 ≤ x ∧ x < 1024) h.cell (by decide) _
theorem wf_added {m : Mc} (h : WfM m) {n : Int} (n0 : 0 ≤ n) (n1 : n < 1024) : WfM (addedM m n) := by
  have t0 := h.tlo; have t1 := h.thi; have b := h.bit
  unfold addedM; split
  · exact ⟨⟨h.len, h.lo, h.hi⟩, h.cell, by show 0 ≤ m.total + n - 1024; omega, by show m.total + n - 1024 < 1024; omega, by show 1 - m.mark = 0 ∨ 1 - m.mark = 1; omega⟩
  · exact ⟨⟨h.len, h.lo, h.hi⟩, h.cell, by show 0 ≤ m.total + n; omega, by show m.total + n < 1024; omega, b⟩
theorem wf_set {m : Mc} (h : WfM m) {i v : Int} (v0 : 0 ≤ v) (v1 : v < 1024) : WfM (setC m i v) := ⟨⟨by show (m.cells.set _ _).length = 64; rw [List.length_set]; exact h.len, h.lo, h.hi⟩, mem_set_in h.cell ⟨v0, v1⟩, h.tlo, h.thi, h.bit⟩
theorem wf_rise {m : Mc} (h : WfM m) (i : Int) : WfM (riseM m i) := wf_set h (by omega) (by omega)
theorem wf_aim {m : Mc} (h : WfM m) (f p : Int) : WfM (aimP m f p) := by
  unfold aimP; split
  · exact h
  · split
    · exact wf_rise h p
    · exact h
theorem bitAnd_in {x y : Int} (h0 : 0 ≤ x) (h1 : x < 1024) (h2 : 0 ≤ y) : 0 ≤ Builtin.bitAnd x y ∧ Builtin.bitAnd x y < 1024 := by
  have e : Builtin.bitAnd x y = ((x.toNat &&& y.toNat : Nat) : Int) := by simp [Builtin.bitAnd, h0, h2]
  have : x.toNat &&& y.toNat ≤ x.toNat := Nat.and_le_left
  rw [e]; omega
theorem wf_moved {m : Mc} (h : WfM m) {k p : Int} (p0 : 0 ≤ p) (p1 : p < 64) : WfM (movedM m k p) := by
  have g := getC_in h p
  have t0 := h.tlo; have t1 := h.thi
  unfold movedM
  split
  · have b := bitAnd_in t0 t1 g.1
    exact ⟨⟨h.len, h.lo, h.hi⟩, h.cell, b.1, b.2, h.bit⟩
  split
  · exact wf_added h g.1 g.2
  split
  · split
    · exact wf_skip (wf_rise h p)
    · exact wf_rise h p
  split
  · have w := wf_set h (i := p) t0 t1
    exact ⟨⟨w.len, w.lo, w.hi⟩, w.cell, by show (0 : Int) ≤ 0; omega, by show (0 : Int) < 1024; omega, w.bit⟩
  split
  · have w := wf_set h (i := p) (v := m.pc) h.lo (by have := h.hi; omega)
    exact ⟨⟨w.len, by show 0 ≤ (p + 1) % 64; omega, by show (p + 1) % 64 < 64; omega⟩, w.cell, w.tlo, w.thi, w.bit⟩
  · exact ⟨⟨h.len, p0, p1⟩, h.cell, t0, t1, h.bit⟩
theorem wf_total {m : Mc} (h : WfM m) {t : Int} (t0 : 0 ≤ t) (t1 : t < 1024) : WfM { m with total := t } := ⟨⟨h.len, h.lo, h.hi⟩, h.cell, t0, t1, h.bit⟩
theorem wf_mark {m : Mc} (h : WfM m) {t : Int} (b : t = 0 ∨ t = 1) : WfM { m with mark := t } := ⟨⟨h.len, h.lo, h.hi⟩, h.cell, h.tlo, h.thi, b⟩
theorem wf_rolled {m : Mc} (h : WfM m) (b : Int) : WfM (rolledM m b) := by
  have t0 := h.tlo; have t1 := h.thi; have k := h.bit
  unfold rolledM rolled1
  by_cases h1 : b % 4 = 1
  · have h2 : ¬ b % 4 = 2 := by omega
    rw [if_pos h1, if_neg h2]
    exact ⟨⟨h.len, h.lo, h.hi⟩, h.cell, by show 0 ≤ m.total / 2 + 512 * m.mark; omega, by show m.total / 2 + 512 * m.mark < 1024; omega, by show m.total % 2 = 0 ∨ m.total % 2 = 1; omega⟩
  · rw [if_neg h1]
    split
    · exact ⟨⟨h.len, h.lo, h.hi⟩, h.cell, by show 0 ≤ 2 * m.total % 1024 + m.mark; omega, by show 2 * m.total % 1024 + m.mark < 1024; omega, by show m.total / 512 = 0 ∨ m.total / 512 = 1; omega⟩
    · exact h
theorem wf_chg1 {m : Mc} (h : WfM m) (b : Int) : WfM (chg1 m b) := by unfold chg1; split <;> first | exact wf_total h (by decide) (by decide) | exact h
theorem wf_chg2 {m : Mc} (h : WfM m) (b : Int) : WfM (chg2 m b) := by
  have t0 := h.tlo; have t1 := h.thi
  unfold chg2; split <;> first | exact wf_total h (by omega) (by omega) | exact h
theorem wf_chg3 {m : Mc} (h : WfM m) (b : Int) : WfM (chg3 m b) := by
  have k := h.bit
  unfold chg3; split <;> first | exact wf_mark h (by omega) | exact h
theorem wf_chg4 {m : Mc} (h : WfM m) (b : Int) : WfM (chg4 m b) := by unfold chg4; split <;> first | exact wf_added h (by decide) (by decide) | exact h
theorem wf_changed {m : Mc} (h : WfM m) (b : Int) : WfM (changedM m b) := wf_rolled (wf_chg4 (wf_chg3 (wf_chg2 (wf_chg1 h b) b) b) b) b
theorem wf_tested {m : Mc} (h : WfM m) (b : Int) : WfM (testedM m b) := by
  have h1 : WfM (tst1 m b) := by unfold tst1; split <;> first | exact wf_skip h | exact h
  have h2 : WfM (tst2 (tst1 m b) b) := by unfold tst2; split <;> first | exact wf_total h1 (by decide) (by decide) | exact h1
  unfold testedM tst3; split <;> first | exact wf_mark h2 (.inl rfl) | exact h2
theorem wf_deed {m : Mc} (h : WfM m) : WfM (deedM m) := by
  have s := wf_skip h
  have g := getC_in h m.pc
  unfold deedM
  dsimp only
  split
  · exact wf_moved (wf_aim s _ _) (aimV_lo (by omega)) (aimV_hi (by omega))
  split
  · exact s
  split
  · exact wf_changed s _
  · exact wf_tested s _
/-! ### the machine as a dict, done by hand -/
def dkv (l : Addr) (m : Mc) (rest : List (Key × V)) : List (Key × V) := (Sum.inr "cells", .ref l) :: (Sum.inr "total", .int m.total) :: (Sum.inr "mark", .int m.mark) :: (Sum.inr "at", .int m.pc) :: rest
def dput (H : Hp) (d l : Addr) (m : Mc) (rest : List (Key × V)) : Hp := upd (upd H l (.lst (m.cells.map V.int))) d (.dK (dkv l m rest))
/-- what may stand behind -/
structure Rk (rest : List (Key × V)) : Prop where
  no : ∀ kv ∈ rest, kv.1 ≠ (Sum.inr "cells" : Key) ∧ kv.1 ≠ (Sum.inr "total" : Key) ∧ kv.1 ≠ (Sum.inr "mark" : Key) ∧ kv.1 ≠ (Sum.inr "at" : Key)
  few : rest.length ≤ 100
theorem key_ne {x y : Str} (h : ¬ x = y) : ¬ (Sum.inr x : Key) = Sum.inr y := fun e => h (Sum.inr.inj e)
theorem map_put {rest : List (Key × V)} {k : Key} {v : V} (h : ∀ kv ∈ rest, kv.1 ≠ k) : rest.map (fun kv => if kv.1 = k then (kv.1, v) else kv) = rest := by
  conv => rhs; rw [← List.map_id rest]
  exact List.map_congr_left fun kv hk => if_neg (h kv hk)
theorem putK_mid {pre post : List (Key × V)} {k : Key} {v0 v : V} (h1 : ∀ kv ∈ pre, kv.1 ≠ k) (h2 : ∀ kv ∈ post, kv.1 ≠ k) : putK (pre ++ (k, v0) :: post) k v = pre ++ (k, v) :: post := by
  unfold putK
  rw [if_pos (by simp), List.map_append, List.map_cons, map_put h1, map_put h2, if_pos rfl]
theorem valV_mid {pre post : List (Key × V)} {k : Key} {v0 : V} (h1 : ∀ kv ∈ pre, kv.1 ≠ k) : valV (pre ++ (k, v0) :: post) k = some v0 := by
  induction pre with
  | nil => exact valV_pos rfl
  | cons p r ih => rw [List.cons_append, valV_neg (h1 p List.mem_cons_self)]; exact ih fun kv hk => h1 kv (List.mem_cons_of_mem _ hk)
section
variable {σ : L2.St} {H : Hp} {K : PySem.W.Frag} {d l a p : Addr} {m m' : Mc} {rest : List (Key × V)} {ta tv ti td : TE} {v : V} {x : Str} {kvs : List (Key × V)} {N : L2.St → Hp → Prop} {R : VK} {B C' : L2.St → Hp → Prop} {tz : TS} {z i : Int}
theorem dput_d : dput H d l m rest d = some (.dK (dkv l m rest)) := upd_same
theorem dput_l (h : l ≠ d) : dput H d l m rest l = some (.lst (m.cells.map V.int)) := by unfold dput; rw [upd_ne h, upd_same]
theorem dput_ne (h1 : a ≠ d) (h2 : a ≠ l) : dput H d l m rest a = H a := by unfold dput; rw [upd_ne h1, upd_ne h2]
theorem dput_dk {r' : List (Key × V)} (h : m'.cells = m.cells) : upd (dput H d l m rest) d (.dK (dkv l m' r')) = dput H d l m' r' := by unfold dput; rw [h, upd_upd]
theorem dput_lst (h : l ≠ d) {cs : List Int} : upd (dput H d l m rest) l (.lst (cs.map V.int)) = dput H d l { m with cells := cs } rest := by
  funext b; unfold dput upd
  by_cases h2 : b = l
  · subst h2; rw [if_pos rfl, if_neg h, if_pos rfl]
  · rw [if_neg h2]
    by_cases h1 : b = d
    · rw [if_pos h1, if_pos h1]; rfl
    · rw [if_neg h1, if_neg h2, if_neg h1, if_neg h2]
theorem dput_id (h1 : H d = some (.dK (dkv l m rest))) (h2 : H l = some (.lst (m.cells.map V.int))) : dput H d l m rest = H := by
  funext b; unfold dput upd
  by_cases e1 : b = d
  · subst e1; rw [if_pos rfl, h1]
  · rw [if_neg e1]
    by_cases e2 : b = l
    · subst e2; rw [if_pos rfl, h2]
    · rw [if_neg e2]
theorem same_dput {H0 H' : Hp} (e : Same (dput H0 d l m rest) H') (h : l ≠ d) : dput H' d l m rest = H' := dput_id (e _ _ dput_d) (e _ _ (dput_l h))
theorem dput_dput : dput (dput H d l m rest) d l m' rest = dput H d l m' rest := by
  funext b; unfold dput upd
  by_cases h1 : b = d <;> by_cases h2 : b = l <;> simp [h1, h2]
theorem dput_upd {q : Addr} {o : HO} (h1 : q ≠ d) (h2 : q ≠ l) : upd (dput H d l m rest) q o = dput (upd H q o) d l m rest := by
  funext b; unfold dput upd
  by_cases e : b = q
  · subst e; simp [h1, h2]
  · simp [e]
theorem dput_same {H' : Hp} (h : Same H H') : Same (dput H d l m rest) (dput H' d l m rest) := fun b o e => by
  unfold dput upd at *
  by_cases h1 : b = d
  · simpa [h1] using e
  · by_cases h2 : b = l
    · simpa [h1, h2] using e
    · simp [h1, h2] at *; exact h b o e
theorem smD {H' : Hp} (e : Same H H') (h1 : H d = none) (h2 : H l = none) : Same H (dput H' d l m rest) := fun b u q => by rw [dput_ne (ne_of_none q h1) (ne_of_none q h2)]; exact e b u q
theorem v_dget (h : Val td σ H (.ref d)) (hd : H d = some (.dK kvs)) (hk : valV kvs (Sum.inr x : Key) = some v) : Val (tDGet td (tC (.str x))) σ H v := fun Q q =>
  h _ ⟨d, v, rfl, by rw [← hk]; exact DGet.k (k := Sum.inr x) hd, q⟩
theorem s_dput (hv : Val tv σ H v) (h : Val td σ H (.ref d)) (hd : H d = some (.dK kvs)) (hl : kvs.length ≤ 1000) (q : N σ (upd H d (.dK (putK kvs (Sum.inr x : Key) v)))) : sDPut td (tC (.str x)) tv ⟨N, R, B, C'⟩ σ H :=
  hv _ (h _ ⟨d, _, rfl, DPut.k (k := Sum.inr x) hd (Nat.lt_of_le_of_lt hl (by decide)), q⟩)
theorem kne1 : ¬ ("cells" : Str) = "total" := by decide +kernel
theorem kne2 : ¬ ("cells" : Str) = "mark" := by decide +kernel
theorem kne3 : ¬ ("cells" : Str) = "at" := by decide +kernel
theorem kne4 : ¬ ("total" : Str) = "mark" := by decide +kernel
theorem kne5 : ¬ ("total" : Str) = "at" := by decide +kernel
theorem kne6 : ¬ ("mark" : Str) = "at" := by decide +kernel
theorem dk_cells : valV (dkv l m rest) (Sum.inr "cells" : Key) = some (.ref l) := valV_pos rfl
theorem dk_total : valV (dkv l m rest) (Sum.inr "total" : Key) = some (.int m.total) := by
  unfold dkv; rw [valV_neg (key_ne kne1)]; exact valV_pos rfl
theorem dk_mark : valV (dkv l m rest) (Sum.inr "mark" : Key) = some (.int m.mark) := by
  unfold dkv; rw [valV_neg (key_ne kne2), valV_neg (key_ne kne4)]; exact valV_pos rfl
theorem dk_at : valV (dkv l m rest) (Sum.inr "at" : Key) = some (.int m.pc) := by
  unfold dkv; rw [valV_neg (key_ne kne3), valV_neg (key_ne kne5), valV_neg (key_ne kne6)]; exact valV_pos rfl
theorem dk_rest {k : Key} (h1 : ¬ (Sum.inr "cells" : Key) = k) (h2 : ¬ (Sum.inr "total" : Key) = k) (h3 : ¬ (Sum.inr "mark" : Key) = k) (h4 : ¬ (Sum.inr "at" : Key) = k) : valV (dkv l m rest) k = valV rest k := by
  unfold dkv; rw [valV_neg h1, valV_neg h2, valV_neg h3, valV_neg h4]
theorem dp_total (hr : Rk rest) : putK (dkv l m rest) (Sum.inr "total" : Key) (.int z) = dkv l { m with total := z } rest :=
  putK_mid (pre := [(Sum.inr "cells", .ref l)]) (by intro kv hk; rw [List.mem_singleton.mp hk]; exact key_ne kne1) (by
    intro kv hk
    rcases List.mem_cons.mp hk with rfl | hk
    · exact fun e => kne4 (Sum.inr.inj e).symm
    rcases List.mem_cons.mp hk with rfl | hk
    · exact fun e => kne5 (Sum.inr.inj e).symm
    exact (hr.no kv hk).2.1)
theorem dp_mark (hr : Rk rest) : putK (dkv l m rest) (Sum.inr "mark" : Key) (.int z) = dkv l { m with mark := z } rest :=
  putK_mid (pre := [(Sum.inr "cells", .ref l), (Sum.inr "total", .int m.total)]) (by
    intro kv hk
    rcases List.mem_cons.mp hk with rfl | hk
    · exact key_ne kne2
    rw [List.mem_singleton.mp hk]; exact key_ne kne4) (by
    intro kv hk
    rcases List.mem_cons.mp hk with rfl | hk
    · exact fun e => kne6 (Sum.inr.inj e).symm
    exact (hr.no kv hk).2.2.1)
theorem dp_at (hr : Rk rest) : putK (dkv l m rest) (Sum.inr "at" : Key) (.int z) = dkv l { m with pc := z } rest :=
  putK_mid (pre := [(Sum.inr "cells", .ref l), (Sum.inr "total", .int m.total), (Sum.inr "mark", .int m.mark)]) (by
    intro kv hk
    rcases List.mem_cons.mp hk with rfl | hk
    · exact key_ne kne3
    rcases List.mem_cons.mp hk with rfl | hk
    · exact key_ne kne5
    rw [List.mem_singleton.mp hk]; exact key_ne kne6) (fun kv hk => (hr.no kv hk).2.2.2)
theorem dkv_len (hr : Rk rest) : (dkv l m rest).length ≤ 1000 := by have := hr.few; unfold dkv; simp; omega
theorem vd_cells (h : Val ta σ (dput H d l m rest) (.ref d)) : Val (tDGet ta (tC (.str "cells"))) σ (dput H d l m rest) (.ref l) := v_dget h dput_d dk_cells
theorem vd_total (h : Val ta σ (dput H d l m rest) (.ref d)) : Val (tDGet ta (tC (.str "total"))) σ (dput H d l m rest) (.int m.total) := v_dget h dput_d dk_total
theorem vd_mark (h : Val ta σ (dput H d l m rest) (.ref d)) : Val (tDGet ta (tC (.str "mark"))) σ (dput H d l m rest) (.int m.mark) := v_dget h dput_d dk_mark
theorem vd_at (h : Val ta σ (dput H d l m rest) (.ref d)) : Val (tDGet ta (tC (.str "at"))) σ (dput H d l m rest) (.int m.pc) := v_dget h dput_d dk_at
theorem vd_item (hne : l ≠ d) (h : Val ta σ (dput H d l m rest) (.ref l)) (hi : Val ti σ (dput H d l m rest) (.int i)) (h0 : 0 ≤ i) (h1 : i < (m.cells.length : Int)) : Val (tOp (rIxL K) ta ti) σ (dput H d l m rest) (.int (getC m i)) :=
  v_ixLI h hi (SqL.of (dput_l hne)) h0 h1
theorem sd_total (hr : Rk rest) (hv : Val tv σ (dput H d l m rest) (.int z)) (ha : Val ta σ (dput H d l m rest) (.ref d)) (q : N σ (dput H d l { m with total := z } rest)) : sDPut ta (tC (.str "total")) tv ⟨N, R, B, C'⟩ σ (dput H d l m rest) :=
  s_dput hv ha dput_d (dkv_len hr) (by rw [dp_total hr, dput_dk (m := m) (m' := { m with total := z }) rfl]; exact q)
theorem sd_mark (hr : Rk rest) (hv : Val tv σ (dput H d l m rest) (.int z)) (ha : Val ta σ (dput H d l m rest) (.ref d)) (q : N σ (dput H d l { m with mark := z } rest)) : sDPut ta (tC (.str "mark")) tv ⟨N, R, B, C'⟩ σ (dput H d l m rest) :=
  s_dput hv ha dput_d (dkv_len hr) (by rw [dp_mark hr, dput_dk (m := m) (m' := { m with mark := z }) rfl]; exact q)
theorem sd_at (hr : Rk rest) (hv : Val tv σ (dput H d l m rest) (.int z)) (ha : Val ta σ (dput H d l m rest) (.ref d)) (q : N σ (dput H d l { m with pc := z } rest)) : sDPut ta (tC (.str "at")) tv ⟨N, R, B, C'⟩ σ (dput H d l m rest) :=
  s_dput hv ha dput_d (dkv_len hr) (by rw [dp_at hr, dput_dk (m := m) (m' := { m with pc := z }) rfl]; exact q)
theorem sd_item (hne : l ≠ d) (hv : Val tv σ (dput H d l m rest) (.int z)) (ha : Val ta σ (dput H d l m rest) (.ref l)) (hi : Val ti σ (dput H d l m rest) (.int i)) (h0 : 0 ≤ i) (h1 : i < (m.cells.length : Int))
    (q : N σ (dput H d l (setC m i z) rest)) : tAsg tv (gSub ta ti rSetL) ⟨N, R, B, C'⟩ σ (dput H d l m rest) :=
  hv _ (ha _ (hi _ ⟨l, _, i, i.toNat, rfl, rfl, dput_l hne, ixN_int h0 (by rw [List.length_map]; exact h1), by
    rw [← List.map_set, dput_lst hne]; exact q⟩))
theorem qd_total (hr : Rk rest) (hv : Val tv σ (dput H d l m rest) (.int z)) (ha : Val ta σ (dput H d l m rest) (.ref d)) (q : tz ⟨N, R, B, C'⟩ σ (dput H d l { m with total := z } rest)) : tSeq (sDPut ta (tC (.str "total")) tv) tz ⟨N, R, B, C'⟩ σ (dput H d l m rest) := sd_total (N := tz ⟨N, R, B, C'⟩) (B := B) (C' := C') hr hv ha q
theorem qd_mark (hr : Rk rest) (hv : Val tv σ (dput H d l m rest) (.int z)) (ha : Val ta σ (dput H d l m rest) (.ref d)) (q : tz ⟨N, R, B, C'⟩ σ (dput H d l { m with mark := z } rest)) : tSeq (sDPut ta (tC (.str "mark")) tv) tz ⟨N, R, B, C'⟩ σ (dput H d l m rest) := sd_mark (N := tz ⟨N, R, B, C'⟩) (B := B) (C' := C') hr hv ha q
theorem qd_at (hr : Rk rest) (hv : Val tv σ (dput H d l m rest) (.int z)) (ha : Val ta σ (dput H d l m rest) (.ref d)) (q : tz ⟨N, R, B, C'⟩ σ (dput H d l { m with pc := z } rest)) : tSeq (sDPut ta (tC (.str "at")) tv) tz ⟨N, R, B, C'⟩ σ (dput H d l m rest) := sd_at (N := tz ⟨N, R, B, C'⟩) (B := B) (C' := C') hr hv ha q
theorem qd_item (hne : l ≠ d) (hv : Val tv σ (dput H d l m rest) (.int z)) (ha : Val ta σ (dput H d l m rest) (.ref l)) (hi : Val ti σ (dput H d l m rest) (.int i)) (h0 : 0 ≤ i) (h1 : i < (m.cells.length : Int))
    (q : tz ⟨N, R, B, C'⟩ σ (dput H d l (setC m i z) rest)) : tSeq (tAsg tv (gSub ta ti rSetL)) tz ⟨N, R, B, C'⟩ σ (dput H d l m rest) := sd_item (N := tz ⟨N, R, B, C'⟩) (B := B) (C' := C') hne hv ha hi h0 h1 q
end
theorem nls_lcNTt {σ : L2.St} {H : Hp} {K : PySem.W.Frag} {te tl : TE} {tt : TT} {xs ys : List V} {k : Nat} {ws : List Nat} (p : V → Bool) (f : V → V) (hy : (xs.filter p).map f = ys) (h : NewT tl σ H xs) (hn : xs.length ≤ 100000) (hw : ∀ x, wipe ((wipe σ ws).set k (some x)) ws = wipe σ ws)
    (ht : ∀ (m : Nat) (x : V) (H' : Hp), Same H H' → xs[m]? = some x → Ans tt ((wipe σ ws).set k (some x)) H' (p x))
    (he : ∀ (m : Nat) (x : V) (H' : Hp), Same H H' → xs[m]? = some x → p x = true → Val te ((wipe σ ws).set k (some x)) H' (f x)) : NewLs (tLc (iTup K tl) (gName k) tt te ws) σ H ys := fun Q q =>
  h _ fun P hP => ⟨P, rfl, ⟨xs, SqT.of upd_same⟩, fun D hD => lc_tup (xs := xs) (fun m H' => Same H H' ∧ H' P = some (.tup xs) ∧ H' D = some (.lst (((xs.take m).filter p).map f))) ⟨(smN hP).trans (smN hD), smN hD _ _ upd_same, upd_same⟩ (fun m H' _ e => SqT.of e.2.1) (fun m x H' hm e => by
    obtain ⟨sm, hPP, hl⟩ := e
    have hD0 : H D = none := (smN hP).free hD
    have nPD : P ≠ D := ne_of_none upd_same hD
    have hlt : m < xs.length := (List.getElem?_eq_some_iff.mp hm).1
    refine ⟨hw _, ht m x _ sm hm _ ?_⟩
    rw [filter_take hm]
    cases hp : p x with
    | true =>
      refine iteT (he m x _ sm hm hp _ ⟨_, hl, ?_, smM sm hD0, by rw [upd_ne nPD]; exact hPP, by rw [upd_same]; rfl⟩)
      rw [List.length_map]
      exact Nat.lt_of_lt_of_le (Nat.lt_of_le_of_lt (List.length_filter_le _ _) (show (xs.take m).length < 100000 by rw [List.length_take]; omega)) (by decide)
    | false => exact iteF ⟨sm, hPP, hl⟩) (fun H' e => by
      have e3 := e.2.2
      rw [List.take_length, hy] at e3
      exact q D H' ((smN hP).free hD) e.1 e3)⟩
theorem marks_two (x y : Int) : (marks10.filter fun b => decide (x / b % 2 + y / b % 2 = 2)) = marks10.filter fun b => decide (x / b % 2 = 1) && decide (y / b % 2 = 1) := by
  congr 1; funext b
  have h1 : 0 ≤ x / b % 2 ∧ x / b % 2 < 2 := ⟨Int.emod_nonneg _ (by decide), Int.emod_lt_of_pos _ (by decide)⟩
  have h2 : 0 ≤ y / b % 2 ∧ y / b % 2 < 2 := ⟨Int.emod_nonneg _ (by decide), Int.emod_lt_of_pos _ (by decide)⟩
  generalize x / b % 2 = u at *
  generalize y / b % 2 = v at *
  by_cases e1 : u = 1 <;> by_cases e2 : v = 1 <;> simp [e1, e2] <;> omega
/-! promises -/
def HAt (H : Hp) (H0 : Hp) (d l : Addr) (m : Mc) (rest : List (Key × V)) : Prop := l ≠ d ∧ Rk rest ∧ WfM m ∧ H = dput H0 d l m rest
def spHMore : Sp := fun vs H Q _ => ∃ (H0 : Hp) (d l : Addr) (m : Mc) (rest : List (Key × V)) (n : Int), vs = [.ref d, .int n] ∧ HAt H H0 d l m rest ∧ 0 ≤ n ∧ n < 1024 ∧ Q .non (dput H0 d l (addedM m n) rest)
def spHPast : Sp := fun vs H Q _ => ∃ (H0 : Hp) (d l : Addr) (m : Mc) (rest : List (Key × V)), vs = [.ref d] ∧ l ≠ d ∧ Rk rest ∧ H = dput H0 d l m rest ∧ Q .non (dput H0 d l (skipM m) rest)
def spHAim : Sp := fun vs H Q _ => ∃ (H0 : Hp) (d l : Addr) (m : Mc) (rest : List (Key × V)) (far place : Int), vs = [.ref d, .int far, .int place] ∧ HAt H H0 d l m rest ∧ 0 ≤ place ∧ place < 64 ∧ ∀ H1, Same H0 H1 → Q (.int (aimV m far place)) (dput H1 d l (aimP m far place) rest)
def spHMove : Sp := fun vs H Q _ => ∃ (H0 : Hp) (d l : Addr) (m : Mc) (rest : List (Key × V)) (kind place : Int), vs = [.ref d, .int kind, .int place] ∧ HAt H H0 d l m rest ∧ 0 ≤ kind ∧ kind ≤ 5 ∧ 0 ≤ place ∧ place < 64 ∧ ∀ H1, Same H0 H1 → Q .non (dput H1 d l (movedM m kind place) rest)
def spHBits (f : Mc → Int → Mc) : Sp := fun vs H Q _ => ∃ (H0 : Hp) (d l : Addr) (m : Mc) (rest : List (Key × V)) (bits : Int), vs = [.ref d, .int bits] ∧ HAt H H0 d l m rest ∧ 0 ≤ bits ∧ bits < 64 ∧ Q .non (dput H0 d l (f m bits) rest)
def spHDeed : Sp := fun vs H Q _ => ∃ (H0 : Hp) (d l : Addr) (m : Mc) (rest : List (Key × V)), vs = [.ref d] ∧ HAt H H0 d l m rest ∧ ∀ H1, Same H0 H1 → Q (deedV m) (dput H1 d l (deedM m) rest)
def spHNew (K : PySem.W.Frag) : Sp := fun vs H Q _ => ∃ (a : Addr) (cs : List Int), vs = [.ref a] ∧ SqL K H a (cs.map V.int) ∧ ∀ d l H1, H d = none → H l = none → l ≠ d → Same H H1 → Q (.ref d) (dput H1 d l ⟨cs, 0, 0, 0⟩ [])
section
variable {σ : L2.St} {H H0 : Hp} {ta td te t1 t2 t3 : TE} {N : L2.St → Hp → Prop} {R : VK} {B C' : L2.St → Hp → Prop} {tz : TS} {x y z : V} {s : Str} {d l : Addr} {m : Mc} {rest : List (Key × V)}
theorem x_dput {tv : TE} (h : tv σ H fun v H1 => td σ H1 fun x H2 => (tC (.str s)) σ H2 fun y H3 => ∃ a H4, x = .ref a ∧ DPut H3 a y v H4 ∧ N σ H4) : sDPut td (tC (.str s)) tv ⟨N, R, B, C'⟩ σ H := h
theorem x_qdrop (h : te σ H fun _ H1 => tz ⟨N, R, B, C'⟩ σ H1) : tSeq (tDrop te) tz ⟨N, R, B, C'⟩ σ H := h
theorem x_sdrop (h : te σ H fun _ H1 => N σ H1) : tDrop te ⟨N, R, B, C'⟩ σ H := h
/-- f(a, b, g(..)): the last argument by what it leaves -/
theorem x_call3 {sp : Sp} {Q : VK} (h1 : Val t1 σ H x) (h2 : Val t2 σ H y) (h3 : t3 σ H fun z H1 => sp [x, y, z] H1 Q E0) : tCall sp [] E0 (tCons t1 (tCons t2 (tCons t3 tNil))) σ H Q :=
  h1 _ (h2 _ h3)
/-- below a dput: H with H0's own things at d and l -/
def under (H0 H : Hp) (d l : Addr) : Hp := fun b => if b = d then H0 b else if b = l then H0 b else H b
theorem dput_under : dput (under H0 H d l) d l m rest = dput H d l m rest := by
  funext b; unfold dput upd under
  by_cases h1 : b = d <;> by_cases h2 : b = l <;> simp [h1, h2]
theorem same_under {m0 : Mc} {r0 : List (Key × V)} (sm : Same (dput H0 d l m0 r0) H) : Same H0 (under H0 H d l) := fun b o e => by
  unfold under
  by_cases h1 : b = d
  · rw [if_pos h1]; exact e
  · rw [if_neg h1]
    by_cases h2 : b = l
    · rw [if_pos h2]; exact e
    · rw [if_neg h2]; exact sm _ _ (by rw [dput_ne h1 h2]; exact e)
end
/-! reads by what stands there -/
section
variable {σ : L2.St} {H : Hp} {K : PySem.W.Frag} {C : Addr} {ta : TE} {d l p dx : Addr} {m : Mc} {rest : List (Key × V)}
theorem vf_total (M : MTx K C) (hp : H p = some (.ins C dx (mfs l m))) (h : Val ta σ H (.ref p)) : Val (tFld K ta "total") σ H (.int m.total) := val_fld h hp M.cl M.nTotal mf_total
theorem vf_mark (M : MTx K C) (hp : H p = some (.ins C dx (mfs l m))) (h : Val ta σ H (.ref p)) : Val (tFld K ta "mark") σ H (.int m.mark) := val_fld h hp M.cl M.nMark mf_mark
theorem vf_at (M : MTx K C) (hp : H p = some (.ins C dx (mfs l m))) (h : Val ta σ H (.ref p)) : Val (tFld K ta "at") σ H (.int m.pc) := val_fld h hp M.cl M.nAt mf_at
theorem vf_cells (M : MTx K C) (hp : H p = some (.ins C dx (mfs l m))) (h : Val ta σ H (.ref p)) : Val (tFld K ta "cells") σ H (.ref l) := val_fld h hp M.cl M.nCells mf_cells
theorem ve_total (hd : H d = some (.dK (dkv l m rest))) (h : Val ta σ H (.ref d)) : Val (tDGet ta (tC (.str "total"))) σ H (.int m.total) := v_dget h hd dk_total
theorem ve_mark (hd : H d = some (.dK (dkv l m rest))) (h : Val ta σ H (.ref d)) : Val (tDGet ta (tC (.str "mark"))) σ H (.int m.mark) := v_dget h hd dk_mark
theorem ve_at (hd : H d = some (.dK (dkv l m rest))) (h : Val ta σ H (.ref d)) : Val (tDGet ta (tC (.str "at"))) σ H (.int m.pc) := v_dget h hd dk_at
theorem ve_cells (hd : H d = some (.dK (dkv l m rest))) (h : Val ta σ H (.ref d)) : Val (tDGet ta (tC (.str "cells"))) σ H (.ref l) := v_dget h hd dk_cells
theorem rk_nil : Rk [] := ⟨fun kv h => (nomatch h), Nat.zero_le _⟩
theorem scal_deed (m : Mc) : scal (deedV m) (deedV m) = true := by unfold deedV; split <;> rfl
/-- a machine and a dict that tell the same machine, apart -/
structure Both (C : Addr) (H : Hp) (x dx l d l0 : Addr) (m : Mc) (rest : List (Key × V)) : Prop where
  hx : H x = some (.ins C dx (mfs l m))
  hl : H l = some (.lst (m.cells.map V.int))
  hd : H d = some (.dK (dkv l0 m rest))
  h0 : H l0 = some (.lst (m.cells.map V.int))
  nlx : l ≠ x
  n0d : l0 ≠ d
  n0l : l0 ≠ l
theorem Both.nxd {C : Addr} {H : Hp} {x dx l d l0 : Addr} {m : Mc} {rest : List (Key × V)} (b : Both C H x dx l d l0 m rest) : d ≠ x ∧ d ≠ l ∧ l0 ≠ x := ⟨ne_of b.hd b.hx (fun q => nomatch q), ne_of b.hd b.hl (fun q => nomatch q), ne_of b.h0 b.hx (fun q => nomatch q)⟩
/-- behind a deed of the one and of the other -/
theorem Both.next {C : Addr} {H H1 H2 : Hp} {x dx l d l0 : Addr} {m m' : Mc} {rest : List (Key × V)} (b : Both C H x dx l d l0 m rest) (s1 : Same H H1) (s2 : Same (mput C H1 x dx l m') H2) : Both C (dput H2 d l0 m' rest) x dx l d l0 m' rest := by
  obtain ⟨n1, n2, n3⟩ := b.nxd
  exact ⟨by rw [dput_ne n1.symm n3.symm]; exact s2 _ _ mput_p, by rw [dput_ne n2.symm b.n0l.symm]; exact s2 _ _ (mput_l b.nlx), dput_d, dput_l b.n0d, b.nlx, b.n0d, b.n0l⟩
/-- the dict's side, between the two deeds -/
theorem Both.mid {C : Addr} {H H1 : Hp} {x dx l d l0 : Addr} {m m' : Mc} {rest : List (Key × V)} (b : Both C H x dx l d l0 m rest) (s1 : Same H H1) : mput C H1 x dx l m' d = some (.dK (dkv l0 m rest)) ∧ mput C H1 x dx l m' l0 = some (.lst (m.cells.map V.int)) := by
  obtain ⟨n1, n2, n3⟩ := b.nxd
  exact ⟨by rw [mput_ne n1 n2]; exact s1 _ _ b.hd, by rw [mput_ne n3 b.n0l]; exact s1 _ _ b.h0⟩
theorem Both.keep {C : Addr} {H H1 H2 : Hp} {x dx l d l0 a : Addr} {m m' : Mc} {rest : List (Key × V)} {o : HO} (b : Both C H x dx l d l0 m rest) (s1 : Same H H1) (s2 : Same (mput C H1 x dx l m') H2) (h : H a = some o) (q1 : a ≠ x) (q2 : a ≠ l) (q3 : a ≠ d) (q4 : a ≠ l0) : dput H2 d l0 m' rest a = some o := by
  rw [dput_ne q3 q4]; exact s2 _ _ (by rw [mput_ne q1 q2]; exact s1 _ _ h)
end
/-! ### users: the mirror -/
structure Pn where
  m : Mc
  inbox : List Int
  outbox : List Int
  paper : List Int
  blocks : List (List Int)
  sw : Int
  st : Str
  nap : Int
  lost : Int
  done : Int
inductive Ev where
  | start (p : Int) | key (l : Int) | tick | step
def againP (P : Pn) (s : Str) : Pn := { P with m := { P.m with pc := (P.m.pc - 1) % 64 }, st := s }
def hearP (P : Pn) : Pn := match P.inbox with
  | [] => againP P "hears"
  | x :: r => { P with m := { P.m with total := x }, inbox := r }
def sayP (P : Pn) : Pn := if P.outbox.length = 16 then againP P "says" else { P with outbox := P.outbox ++ [P.m.total % 256] }
def dozeP (P : Pn) : Pn := if 0 < P.m.total then { P with nap := P.m.total, m := { P.m with total := 0 }, st := "sleeps" } else P
/-- n words of a block into the cells from place p on -/
def fetchN (cs bk : List Int) (p : Int) : Nat → List Int
  | 0 => cs
  | n + 1 => (fetchN cs bk p n).set ((p + (n : Int)) % 64).toNat (bk.getD n 0)
/-- n of these cells into a block -/
def storeN (cs bk : List Int) (p : Int) : Nat → List Int
  | 0 => bk
  | n + 1 => (storeN cs bk p n).set n (cs.getD ((p + (n : Int)) % 64).toNat 0)
def carryP (P : Pn) (f : Bool) : Pn :=
  let p := getC P.m P.m.pc % 64
  let m1 := skipM P.m
  if 3 < P.m.total then { P with m := { m1 with total := 1023 } }
  else if f = true then { P with m := { m1 with cells := fetchN P.m.cells (P.blocks.getD P.m.total.toNat []) p 16, total := 0 } }
  else { P with m := { m1 with total := 0 }, blocks := P.blocks.set P.m.total.toNat (storeN P.m.cells (P.blocks.getD P.m.total.toNat []) p 16) }
def skipP (P : Pn) : Pn := { P with m := skipM P.m }
def askP (P : Pn) (p : Int) : Pn :=
  if ((decide (p = 0) && !P.inbox.isEmpty) || (decide (p = 2) && decide (P.outbox.length < 16))) = true then skipP P
  else if p = 1 then hearP P
  else if p = 3 then sayP P
  else if p = 4 then dozeP P
  else if p = 5 then carryP P true
  else if p = 6 then carryP P false
  else if p = 7 then { P with st := "stopped" }
  else if p = 8 then { P with m := { P.m with total := P.sw } }
  else P
def wakeP (P : Pn) (s : Str) : Pn := if P.st = s then { P with st := "ready" } else P
def heardP (P : Pn) (l : Int) : Pn := wakeP (if P.inbox.length < 16 then { P with inbox := P.inbox ++ [l] } else { P with lost := P.lost + 1 }) "hears"
def tick1P (P : Pn) : Pn := match P.outbox with
  | [] => P
  | x :: r => wakeP { P with outbox := r, paper := P.paper ++ [x] } "says"
def tick2P (P : Pn) : Pn := if P.st = "sleeps" then (if P.nap - 1 = 0 then { P with nap := P.nap - 1, st := "ready" } else { P with nap := P.nap - 1 }) else P
def tickedP (P : Pn) : Pn := tick2P (tick1P P)
def stepP (P : Pn) : Pn :=
  let P1 := { P with done := P.done + 1, m := deedM P.m }
  if getC P.m P.m.pc / 128 = 6 then askP P1 (getC P.m P.m.pc % 64) else P1
def happenP (P : Pn) : Ev → Pn
  | .key l => heardP P l
  | .tick => tickedP P
  | .start p => if P.st = "stopped" then { P with st := "ready", m := { P.m with pc := p } } else P
  | .step => if P.st = "ready" then stepP P else P
def newP (cs : List Int) (sw : Int) : Pn := ⟨⟨cs, 0, 0, 0⟩, [], [], [], List.replicate 4 (List.replicate 16 0), sw, "stopped", 0, 0, 0⟩
/-- words, letters, rows of their lengths -/
structure WfP (P : Pn) : Prop where
  wm : WfM P.m
  ib : P.inbox.length ≤ 16
  ibl : ∀ x ∈ P.inbox, 0 ≤ x ∧ x < 256
  ob : P.outbox.length ≤ 16
  bk : P.blocks.length = 4
  bkl : ∀ b ∈ P.blocks, b.length = 16 ∧ ∀ x ∈ b, 0 ≤ x ∧ x < 1024
  sw0 : 0 ≤ P.sw
  sw1 : P.sw < 1024
def EvOk : Ev → Prop
  | .start p => 0 ≤ p ∧ p < 64
  | .key l => 0 ≤ l ∧ l < 256
  | _ => True
theorem fetchN_len {cs bk : List Int} {p : Int} : ∀ n, (fetchN cs bk p n).length = cs.length
  | 0 => rfl
  | n + 1 => by rw [fetchN, List.length_set, fetchN_len n]
theorem storeN_len {cs bk : List Int} {p : Int} : ∀ n, (storeN cs bk p n).length = bk.length
  | 0 => rfl
  | n + 1 => by rw [storeN, List.length_set, storeN_len n]
theorem fetchN_in {cs bk : List Int} {p : Int} (h : ∀ c ∈ cs, 0 ≤ c ∧ c < 1024) (hb : ∀ c ∈ bk, 0 ≤ c ∧ c < 1024) : ∀ n, ∀ c ∈ fetchN cs bk p n, 0 ≤ c ∧ c < 1024
  | 0 => h
  | n + 1 => mem_set_in (fetchN_in h hb n) (menu_in (fun x => 0 ≤ x ∧ x < 1024) hb (by decide) _)
theorem storeN_in {cs bk : List Int} {p : Int} (h : ∀ c ∈ cs, 0 ≤ c ∧ c < 1024) (hb : ∀ c ∈ bk, 0 ≤ c ∧ c < 1024) : ∀ n, ∀ c ∈ storeN cs bk p n, 0 ≤ c ∧ c < 1024
  | 0 => hb
  | n + 1 => mem_set_in (storeN_in h hb n) (menu_in (fun x => 0 ≤ x ∧ x < 1024) h (by decide) _)
theorem block_in {P : Pn} (w : WfP P) {i : Nat} (hi : i < 4) : P.blocks[i]? = some (P.blocks.getD i []) ∧ (P.blocks.getD i []).length = 16 ∧ ∀ x ∈ P.blocks.getD i [], 0 ≤ x ∧ x < 1024 := by
  have hb := w.bk
  have e : P.blocks[i]? = some (P.blocks.getD i []) := by
    rw [List.getD_eq_getElem?_getD, List.getElem?_eq_getElem (by omega)]; rfl
  exact ⟨e, w.bkl _ (List.mem_of_getElem? e)⟩
theorem wf_pc {m : Mc} (h : WfM m) {p : Int} (p0 : 0 ≤ p) (p1 : p < 64) : WfM { m with pc := p } := ⟨⟨h.len, p0, p1⟩, h.cell, h.tlo, h.thi, h.bit⟩
theorem wfP_m {P : Pn} (w : WfP P) {m : Mc} (h : WfM m) : WfP { P with m := m } := ⟨h, w.ib, w.ibl, w.ob, w.bk, w.bkl, w.sw0, w.sw1⟩
theorem wfP_again {P : Pn} (w : WfP P) (s : Str) : WfP (againP P s) := ⟨wf_pc w.wm (by omega) (by omega), w.ib, w.ibl, w.ob, w.bk, w.bkl, w.sw0, w.sw1⟩
theorem wfP_carry {P : Pn} (w : WfP P) (f : Bool) : WfP (carryP P f) := by
  have t0 := w.wm.tlo
  have s := wf_skip w.wm
  unfold carryP
  dsimp only
  split
  · exact wfP_m w (wf_total s (by decide) (by decide))
  have hb := block_in w (i := P.m.total.toNat) (by omega)
  split
  · exact wfP_m w ⟨⟨by show (fetchN _ _ _ 16).length = 64; rw [fetchN_len]; exact w.wm.len, s.lo, s.hi⟩, fetchN_in w.wm.cell hb.2.2 16, by show (0 : Int) ≤ 0; decide, by show (0 : Int) < 1024; decide, s.bit⟩
  · refine ⟨wf_total s (by decide) (by decide), w.ib, w.ibl, w.ob, by show (List.set _ _ _).length = 4; rw [List.length_set]; exact w.bk, ?_, w.sw0, w.sw1⟩
    intro b h
    rcases List.mem_or_eq_of_mem_set h with h1 | h1
    · exact w.bkl b h1
    · subst h1
      exact ⟨by rw [storeN_len]; exact hb.2.1, storeN_in w.wm.cell hb.2.2 16⟩
theorem wfP_ask {P : Pn} (w : WfP P) (p : Int) : WfP (askP P p) := by
  unfold askP
  split
  · exact wfP_m w (wf_skip w.wm)
  split
  · unfold hearP
    split
    · exact wfP_again w _
    · rename_i x r e
      have hx : ∀ y ∈ x :: r, 0 ≤ y ∧ y < 256 := by rw [← e]; exact w.ibl
      have hl : (x :: r).length ≤ 16 := by rw [← e]; exact w.ib
      have h0 := hx x List.mem_cons_self
      exact ⟨wf_total w.wm h0.1 (by omega), by show r.length ≤ 16; simp at hl; omega, fun y hy => hx y (List.mem_cons_of_mem _ hy), w.ob, w.bk, w.bkl, w.sw0, w.sw1⟩
  split
  · unfold sayP
    split
    · exact wfP_again w _
    · exact ⟨w.wm, w.ib, w.ibl, by show (P.outbox ++ [_]).length ≤ 16; have := w.ob; simp; omega, w.bk, w.bkl, w.sw0, w.sw1⟩
  split
  · unfold dozeP
    split
    · exact ⟨wf_total w.wm (by decide) (by decide), w.ib, w.ibl, w.ob, w.bk, w.bkl, w.sw0, w.sw1⟩
    · exact w
  split
  · exact wfP_carry w _
  split
  · exact wfP_carry w _
  split
  · exact ⟨w.wm, w.ib, w.ibl, w.ob, w.bk, w.bkl, w.sw0, w.sw1⟩
  split
  · exact wfP_m w (wf_total w.wm w.sw0 w.sw1)
  · exact w
theorem wfP_wake {P : Pn} (w : WfP P) (s : Str) : WfP (wakeP P s) := by
  unfold wakeP; split
  · exact ⟨w.wm, w.ib, w.ibl, w.ob, w.bk, w.bkl, w.sw0, w.sw1⟩
  · exact w
theorem wfP_happen {P : Pn} (w : WfP P) {e : Ev} (h : EvOk e) : WfP (happenP P e) := by
  cases e with
  | key l =>
    refine wfP_wake ?_ _
    split
    · refine ⟨w.wm, by show (P.inbox ++ [l]).length ≤ 16; simp; omega, ?_, w.ob, w.bk, w.bkl, w.sw0, w.sw1⟩
      intro x hx
      rcases List.mem_append.mp hx with h1 | h1
      · exact w.ibl x h1
      · rw [List.mem_singleton.mp h1]; exact h
    · exact ⟨w.wm, w.ib, w.ibl, w.ob, w.bk, w.bkl, w.sw0, w.sw1⟩
  | tick =>
    have h1 : WfP (tick1P P) := by
      unfold tick1P
      split
      · exact w
      · rename_i x r e
        have h2 := w.ob
        rw [e] at h2
        simp at h2
        exact wfP_wake (P := { P with outbox := r, paper := P.paper ++ [x] }) ⟨w.wm, w.ib, w.ibl, by show r.length ≤ 16; omega, w.bk, w.bkl, w.sw0, w.sw1⟩ _
    show WfP (tick2P (tick1P P))
    unfold tick2P
    split
    · split <;> exact ⟨h1.wm, h1.ib, h1.ibl, h1.ob, h1.bk, h1.bkl, h1.sw0, h1.sw1⟩
    · exact h1
  | start p =>
    show WfP (if P.st = "stopped" then _ else _)
    split
    · exact ⟨wf_pc w.wm h.1 h.2, w.ib, w.ibl, w.ob, w.bk, w.bkl, w.sw0, w.sw1⟩
    · exact w
  | step =>
    show WfP (if P.st = "ready" then _ else _)
    split
    · have w1 : WfP { P with done := P.done + 1, m := deedM P.m } := ⟨wf_deed w.wm, w.ib, w.ibl, w.ob, w.bk, w.bkl, w.sw0, w.sw1⟩
      unfold stepP
      dsimp only
      split
      · exact wfP_ask w1 _
      · exact w1
    · exact w
theorem paper_happen (P : Pn) (e : Ev) : (happenP P e).paper.length ≤ P.paper.length + 1 := by
  have wk : ∀ (P : Pn) s, (wakeP P s).paper = P.paper := fun P s => by unfold wakeP; split <;> rfl
  cases e with
  | key l => show (wakeP _ _).paper.length ≤ _; rw [wk]; split <;> exact Nat.le_succ _
  | tick =>
    have h1 : (tick1P P).paper.length ≤ P.paper.length + 1 := by
      unfold tick1P; split
      · exact Nat.le_succ _
      · rw [wk]; simp
    show (tick2P (tick1P P)).paper.length ≤ _
    unfold tick2P; split
    · split <;> exact h1
    · exact h1
  | start p => show (if P.st = "stopped" then _ else _ : Pn).paper.length ≤ _; split <;> exact Nat.le_succ _
  | step =>
    show (if P.st = "ready" then _ else _ : Pn).paper.length ≤ _
    split
    · unfold stepP; dsimp only; split
      · have : ∀ (P : Pn) p, (askP P p).paper = P.paper := fun P p => by
          unfold askP hearP sayP dozeP carryP againP skipP
          repeat' (first | rfl | split)
        rw [this]; exact Nat.le_succ _
      · exact Nat.le_succ _
    · exact Nat.le_succ _
/-! ### users in the heap -/
structure PA where
  p : Addr
  dp : Addr
  m : Addr
  dm : Addr
  c : Addr
  ib : Addr
  ob : Addr
  pp : Addr
  bl : Addr
  bs : List Addr
def PA.foot (A : PA) : List Addr := [A.p, A.m, A.c, A.ib, A.ob, A.pp, A.bl] ++ A.bs
def pfs (A : PA) (P : Pn) : List (Str × V) := [("machine", .ref A.m), ("inbox", .ref A.ib), ("outbox", .ref A.ob), ("paper", .ref A.pp), ("blocks", .ref A.bl), ("switches", .int P.sw), ("state", .str P.st), ("nap", .int P.nap), ("lost", .int P.lost), ("done", .int P.done)]
structure PAt (C D : Addr) (H : Hp) (A : PA) (P : Pn) : Prop where
  hp : H A.p = some (.ins D A.dp (pfs A P))
  hm : H A.m = some (.ins C A.dm (mfs A.c P.m))
  hc : H A.c = some (.lst (P.m.cells.map V.int))
  hi : H A.ib = some (.lst (P.inbox.map V.int))
  ho : H A.ob = some (.lst (P.outbox.map V.int))
  hq : H A.pp = some (.lst (P.paper.map V.int))
  hb : H A.bl = some (.lst (A.bs.map V.ref))
  hbs : ∀ (i : Nat) a, A.bs[i]? = some a → ∃ ws, P.blocks[i]? = some ws ∧ H a = some (.lst (ws.map V.int))
  len : A.bs.length = 4
  nd : A.foot.Nodup
/-- all else is as it was -/
def Fr (F : List Addr) (H H' : Hp) : Prop := ∀ b o, b ∉ F → H b = some o → H' b = some o
theorem Fr.refl {F : List Addr} {H : Hp} : Fr F H H := fun _ _ _ h => h
theorem Fr.trans {F : List Addr} {H H1 H2 : Hp} (a : Fr F H H1) (b : Fr F H1 H2) : Fr F H H2 := fun x o n h => b x o n (a x o n h)
theorem Fr.upd {F : List Addr} {H : Hp} {a : Addr} {o : HO} (h : a ∈ F) : Fr F H (upd H a o) := fun b u n e => by rw [upd_ne (fun q => n (by rw [q]; exact h))]; exact e
theorem Fr.same {F : List Addr} {H H' : Hp} (h : Same H H') : Fr F H H' := fun b o _ e => h b o e
structure Ne (A : PA) : Prop where
  pm : A.p ≠ A.m
  pc : A.p ≠ A.c
  pi : A.p ≠ A.ib
  po : A.p ≠ A.ob
  pq : A.p ≠ A.pp
  pb : A.p ≠ A.bl
  mc : A.m ≠ A.c
  mi : A.m ≠ A.ib
  mo : A.m ≠ A.ob
  mq : A.m ≠ A.pp
  mb : A.m ≠ A.bl
  ci : A.c ≠ A.ib
  co : A.c ≠ A.ob
  cq : A.c ≠ A.pp
  cb : A.c ≠ A.bl
  io : A.ib ≠ A.ob
  iq : A.ib ≠ A.pp
  ibn : A.ib ≠ A.bl
  oq : A.ob ≠ A.pp
  obn : A.ob ≠ A.bl
  qb : A.pp ≠ A.bl
  bs : ∀ b ∈ A.bs, b ≠ A.p ∧ b ≠ A.m ∧ b ≠ A.c ∧ b ≠ A.ib ∧ b ≠ A.ob ∧ b ≠ A.pp ∧ b ≠ A.bl
  bn : A.bs.Nodup
theorem PAt.ne {C D : Addr} {H : Hp} {A : PA} {P : Pn} (h : PAt C D H A P) : Ne A := by
  have h1 := h.nd
  unfold PA.foot at h1
  simp only [List.cons_append, List.nil_append, List.nodup_cons, List.mem_cons, not_or] at h1
  obtain ⟨⟨a1, a2, a3, a4, a5, a6, a7⟩, ⟨b1, b2, b3, b4, b5, b6⟩, ⟨c1, c2, c3, c4, c5⟩, ⟨d1, d2, d3, d4⟩, ⟨e1, e2, e3⟩, ⟨f1, f2⟩, g1, h1⟩ := h1
  exact ⟨a1, a2, a3, a4, a5, a6, b1, b2, b3, b4, b5, c1, c2, c3, c4, d1, d2, d3, e1, e2, f1, fun b hb => ⟨fun q => a7 (q ▸ hb), fun q => b6 (q ▸ hb), fun q => c5 (q ▸ hb), fun q => d4 (q ▸ hb), fun q => e3 (q ▸ hb), fun q => f2 (q ▸ hb), fun q => g1 (q ▸ hb)⟩, h1⟩
section
variable {C D : Addr} {H H' : Hp} {A : PA} {P : Pn}
theorem PAt.fp (A : PA) : A.p ∈ A.foot ∧ A.m ∈ A.foot ∧ A.c ∈ A.foot ∧ A.ib ∈ A.foot ∧ A.ob ∈ A.foot ∧ A.pp ∈ A.foot ∧ A.bl ∈ A.foot := by unfold PA.foot; simp
theorem PAt.setP (h : PAt C D H A P) (P' : Pn) (e : P'.m = P.m ∧ P'.inbox = P.inbox ∧ P'.outbox = P.outbox ∧ P'.paper = P.paper ∧ P'.blocks = P.blocks) : PAt C D (upd H A.p (.ins D A.dp (pfs A P'))) A P' := by
  obtain ⟨e1, e2, e3, e4, e5⟩ := e
  have n := h.ne
  exact ⟨upd_same, by rw [upd_ne n.pm.symm, e1]; exact h.hm, by rw [upd_ne n.pc.symm, e1]; exact h.hc, by rw [upd_ne n.pi.symm, e2]; exact h.hi, by rw [upd_ne n.po.symm, e3]; exact h.ho, by rw [upd_ne n.pq.symm, e4]; exact h.hq, by rw [upd_ne n.pb.symm]; exact h.hb,
    fun i a ha => by rw [upd_ne (n.bs a (List.mem_of_getElem? ha)).1, e5]; exact h.hbs i a ha, h.len, h.nd⟩
theorem PAt.setM (h : PAt C D H A P) {H1 : Hp} (s : Same H H1) (m' : Mc) : PAt C D (mput C H1 A.m A.dm A.c m') A { P with m := m' } ∧ Fr A.foot H (mput C H1 A.m A.dm A.c m') := by
  have n := h.ne
  obtain ⟨f1, f2, f3, _⟩ := PAt.fp A
  refine ⟨⟨by rw [mput_ne n.pm n.pc]; exact s _ _ h.hp, mput_p, mput_l n.mc.symm, by rw [mput_ne n.mi.symm n.ci.symm]; exact s _ _ h.hi, by rw [mput_ne n.mo.symm n.co.symm]; exact s _ _ h.ho, by rw [mput_ne n.mq.symm n.cq.symm]; exact s _ _ h.hq, by rw [mput_ne n.mb.symm n.cb.symm]; exact s _ _ h.hb,
    fun i a ha => ?_, h.len, h.nd⟩, fun b o nb e => ?_⟩
  · have q := n.bs a (List.mem_of_getElem? ha)
    rw [mput_ne q.2.1 q.2.2.1]
    obtain ⟨ws, w1, w2⟩ := h.hbs i a ha
    exact ⟨ws, w1, s _ _ w2⟩
  · rw [mput_ne (fun q => nb (by rw [q]; exact f2)) (fun q => nb (by rw [q]; exact f3))]; exact s _ _ e
theorem PAt.setI (h : PAt C D H A P) (xs : List Int) : PAt C D (upd H A.ib (.lst (xs.map V.int))) A { P with inbox := xs } := by
  have n := h.ne
  exact ⟨by rw [upd_ne n.pi]; exact h.hp, by rw [upd_ne n.mi]; exact h.hm, by rw [upd_ne n.ci]; exact h.hc, upd_same, by rw [upd_ne n.io.symm]; exact h.ho, by rw [upd_ne n.iq.symm]; exact h.hq, by rw [upd_ne n.ibn.symm]; exact h.hb,
    fun i a ha => by rw [upd_ne (n.bs a (List.mem_of_getElem? ha)).2.2.2.1]; exact h.hbs i a ha, h.len, h.nd⟩
theorem PAt.setO (h : PAt C D H A P) (xs : List Int) : PAt C D (upd H A.ob (.lst (xs.map V.int))) A { P with outbox := xs } := by
  have n := h.ne
  exact ⟨by rw [upd_ne n.po]; exact h.hp, by rw [upd_ne n.mo]; exact h.hm, by rw [upd_ne n.co]; exact h.hc, by rw [upd_ne n.io]; exact h.hi, upd_same, by rw [upd_ne n.oq.symm]; exact h.hq, by rw [upd_ne n.obn.symm]; exact h.hb,
    fun i a ha => by rw [upd_ne (n.bs a (List.mem_of_getElem? ha)).2.2.2.2.1]; exact h.hbs i a ha, h.len, h.nd⟩
theorem PAt.setQ (h : PAt C D H A P) (xs : List Int) : PAt C D (upd H A.pp (.lst (xs.map V.int))) A { P with paper := xs } := by
  have n := h.ne
  exact ⟨by rw [upd_ne n.pq]; exact h.hp, by rw [upd_ne n.mq]; exact h.hm, by rw [upd_ne n.cq]; exact h.hc, by rw [upd_ne n.iq]; exact h.hi, by rw [upd_ne n.oq]; exact h.ho, upd_same, by rw [upd_ne n.qb.symm]; exact h.hb,
    fun i a ha => by rw [upd_ne (n.bs a (List.mem_of_getElem? ha)).2.2.2.2.2.1]; exact h.hbs i a ha, h.len, h.nd⟩
theorem PAt.setB (h : PAt C D H A P) {i : Nat} {a : Addr} (ha : A.bs[i]? = some a) (hl : P.blocks.length = 4) (xs : List Int) : PAt C D (upd H a (.lst (xs.map V.int))) A { P with blocks := P.blocks.set i xs } := by
  have n := h.ne
  have q := n.bs a (List.mem_of_getElem? ha)
  have hi4 : i < 4 := by have := (List.getElem?_eq_some_iff.mp ha).1; have := h.len; omega
  refine ⟨by rw [upd_ne q.1.symm]; exact h.hp, by rw [upd_ne q.2.1.symm]; exact h.hm, by rw [upd_ne q.2.2.1.symm]; exact h.hc, by rw [upd_ne q.2.2.2.1.symm]; exact h.hi, by rw [upd_ne q.2.2.2.2.1.symm]; exact h.ho, by rw [upd_ne q.2.2.2.2.2.1.symm]; exact h.hq, by rw [upd_ne q.2.2.2.2.2.2.symm]; exact h.hb, fun j b hb => ?_, h.len, h.nd⟩
  by_cases hij : i = j
  · subst hij
    have e : b = a := Option.some.inj (hb.symm.trans ha)
    subst e
    exact ⟨xs, List.getElem?_set_self (by omega), upd_same⟩
  · have nba : b ≠ a := fun e => hij (nd_ix n.bn ha (e ▸ hb))
    obtain ⟨ws, w1, w2⟩ := h.hbs j b hb
    exact ⟨ws, by rw [List.getElem?_set_ne hij]; exact w1, by rw [upd_ne nba]; exact w2⟩
theorem PAt.same (h : PAt C D H A P) (s : Same H H') : PAt C D H' A P :=
  ⟨s _ _ h.hp, s _ _ h.hm, s _ _ h.hc, s _ _ h.hi, s _ _ h.ho, s _ _ h.hq, s _ _ h.hb, fun i a ha => by obtain ⟨ws, w1, w2⟩ := h.hbs i a ha; exact ⟨ws, w1, s _ _ w2⟩, h.len, h.nd⟩
end
structure PTx (K : PySem.W.Frag) (D : Addr) : Prop where
  cl : Cls K D
  nMachine : NoAttr K D "machine"
  nInbox : NoAttr K D "inbox"
  nOutbox : NoAttr K D "outbox"
  nPaper : NoAttr K D "paper"
  nBlocks : NoAttr K D "blocks"
  nSwitches : NoAttr K D "switches"
  nState : NoAttr K D "state"
  nNap : NoAttr K D "nap"
  nLost : NoAttr K D "lost"
  nDone : NoAttr K D "done"
section
variable {K : PySem.W.Frag} {C D : Addr} {H : Hp} {A : PA} {P : Pn} {σ : L2.St} {ta tv ti : TE} {N : L2.St → Hp → Prop} {R : VK} {B C' : L2.St → Hp → Prop} {tz : TS} {z i : Int} {y : Str}
theorem pf_machine : (pfs A P).lookup ("machine" : Str) = some (V.ref A.m) := by kernel_rfl
theorem pf_inbox : (pfs A P).lookup ("inbox" : Str) = some (V.ref A.ib) := by kernel_rfl
theorem pf_outbox : (pfs A P).lookup ("outbox" : Str) = some (V.ref A.ob) := by kernel_rfl
theorem pf_paper : (pfs A P).lookup ("paper" : Str) = some (V.ref A.pp) := by kernel_rfl
theorem pf_blocks : (pfs A P).lookup ("blocks" : Str) = some (V.ref A.bl) := by kernel_rfl
theorem pf_switches : (pfs A P).lookup ("switches" : Str) = some (V.int P.sw) := by kernel_rfl
theorem pf_state : (pfs A P).lookup ("state" : Str) = some (V.str P.st) := by kernel_rfl
theorem pf_nap : (pfs A P).lookup ("nap" : Str) = some (V.int P.nap) := by kernel_rfl
theorem pf_lost : (pfs A P).lookup ("lost" : Str) = some (V.int P.lost) := by kernel_rfl
theorem pf_done : (pfs A P).lookup ("done" : Str) = some (V.int P.done) := by kernel_rfl
theorem pq_switches : putF "switches" (.int z) (pfs A P) = pfs A { P with sw := z } := by kernel_rfl
theorem pq_state : putF "state" (.str y) (pfs A P) = pfs A { P with st := y } := by kernel_rfl
theorem pq_nap : putF "nap" (.int z) (pfs A P) = pfs A { P with nap := z } := by kernel_rfl
theorem pq_lost : putF "lost" (.int z) (pfs A P) = pfs A { P with lost := z } := by kernel_rfl
theorem pq_done : putF "done" (.int z) (pfs A P) = pfs A { P with done := z } := by kernel_rfl
theorem vp_machine (T : PTx K D) (h : PAt C D H A P) (ha : Val ta σ H (.ref A.p)) : Val (tFld K ta "machine") σ H (.ref A.m) := val_fld ha h.hp T.cl T.nMachine pf_machine
theorem vp_inbox (T : PTx K D) (h : PAt C D H A P) (ha : Val ta σ H (.ref A.p)) : Val (tFld K ta "inbox") σ H (.ref A.ib) := val_fld ha h.hp T.cl T.nInbox pf_inbox
theorem vp_outbox (T : PTx K D) (h : PAt C D H A P) (ha : Val ta σ H (.ref A.p)) : Val (tFld K ta "outbox") σ H (.ref A.ob) := val_fld ha h.hp T.cl T.nOutbox pf_outbox
theorem vp_paper (T : PTx K D) (h : PAt C D H A P) (ha : Val ta σ H (.ref A.p)) : Val (tFld K ta "paper") σ H (.ref A.pp) := val_fld ha h.hp T.cl T.nPaper pf_paper
theorem vp_blocks (T : PTx K D) (h : PAt C D H A P) (ha : Val ta σ H (.ref A.p)) : Val (tFld K ta "blocks") σ H (.ref A.bl) := val_fld ha h.hp T.cl T.nBlocks pf_blocks
theorem vp_switches (T : PTx K D) (h : PAt C D H A P) (ha : Val ta σ H (.ref A.p)) : Val (tFld K ta "switches") σ H (.int P.sw) := val_fld ha h.hp T.cl T.nSwitches pf_switches
theorem vp_state (T : PTx K D) (h : PAt C D H A P) (ha : Val ta σ H (.ref A.p)) : Val (tFld K ta "state") σ H (.str P.st) := val_fld ha h.hp T.cl T.nState pf_state
theorem vp_nap (T : PTx K D) (h : PAt C D H A P) (ha : Val ta σ H (.ref A.p)) : Val (tFld K ta "nap") σ H (.int P.nap) := val_fld ha h.hp T.cl T.nNap pf_nap
theorem vp_lost (T : PTx K D) (h : PAt C D H A P) (ha : Val ta σ H (.ref A.p)) : Val (tFld K ta "lost") σ H (.int P.lost) := val_fld ha h.hp T.cl T.nLost pf_lost
theorem vp_done (T : PTx K D) (h : PAt C D H A P) (ha : Val ta σ H (.ref A.p)) : Val (tFld K ta "done") σ H (.int P.done) := val_fld ha h.hp T.cl T.nDone pf_done
theorem vp_total (M : MTx K C) (h : PAt C D H A P) (ha : Val ta σ H (.ref A.m)) : Val (tFld K ta "total") σ H (.int P.m.total) := vf_total M h.hm ha
theorem vp_mark (M : MTx K C) (h : PAt C D H A P) (ha : Val ta σ H (.ref A.m)) : Val (tFld K ta "mark") σ H (.int P.m.mark) := vf_mark M h.hm ha
theorem vp_at (M : MTx K C) (h : PAt C D H A P) (ha : Val ta σ H (.ref A.m)) : Val (tFld K ta "at") σ H (.int P.m.pc) := vf_at M h.hm ha
theorem vp_cells (M : MTx K C) (h : PAt C D H A P) (ha : Val ta σ H (.ref A.m)) : Val (tFld K ta "cells") σ H (.ref A.c) := vf_cells M h.hm ha
/-- a new state of the user, found by its heap -/
abbrev Nx (C D : Addr) (A : PA) (H : Hp) (P' : Pn) (G : Hp → Prop) : Prop := ∀ H', PAt C D H' A P' → Fr A.foot H H' → G H'
theorem sp_state (T : PTx K D) (h : PAt C D H A P) (hv : Val tv σ H (.str y)) (ha : Val ta σ H (.ref A.p)) (q : Nx C D A H { P with st := y } (N σ)) : sFld K ta tv "state" ⟨N, R, B, C'⟩ σ H :=
  st_fld hv ha h.hp T.cl T.nState (by show 10 < 1000; decide) (by rw [pq_state]; exact q _ (h.setP _ ⟨rfl, rfl, rfl, rfl, rfl⟩) (Fr.upd (PAt.fp A).1))
theorem sp_nap (T : PTx K D) (h : PAt C D H A P) (hv : Val tv σ H (.int z)) (ha : Val ta σ H (.ref A.p)) (q : Nx C D A H { P with nap := z } (N σ)) : sFld K ta tv "nap" ⟨N, R, B, C'⟩ σ H :=
  st_fld hv ha h.hp T.cl T.nNap (by show 10 < 1000; decide) (by rw [pq_nap]; exact q _ (h.setP _ ⟨rfl, rfl, rfl, rfl, rfl⟩) (Fr.upd (PAt.fp A).1))
theorem sp_lost (T : PTx K D) (h : PAt C D H A P) (hv : Val tv σ H (.int z)) (ha : Val ta σ H (.ref A.p)) (q : Nx C D A H { P with lost := z } (N σ)) : sFld K ta tv "lost" ⟨N, R, B, C'⟩ σ H :=
  st_fld hv ha h.hp T.cl T.nLost (by show 10 < 1000; decide) (by rw [pq_lost]; exact q _ (h.setP _ ⟨rfl, rfl, rfl, rfl, rfl⟩) (Fr.upd (PAt.fp A).1))
theorem sp_done (T : PTx K D) (h : PAt C D H A P) (hv : Val tv σ H (.int z)) (ha : Val ta σ H (.ref A.p)) (q : Nx C D A H { P with done := z } (N σ)) : sFld K ta tv "done" ⟨N, R, B, C'⟩ σ H :=
  st_fld hv ha h.hp T.cl T.nDone (by show 10 < 1000; decide) (by rw [pq_done]; exact q _ (h.setP _ ⟨rfl, rfl, rfl, rfl, rfl⟩) (Fr.upd (PAt.fp A).1))
theorem sp_switches (T : PTx K D) (h : PAt C D H A P) (hv : Val tv σ H (.int z)) (ha : Val ta σ H (.ref A.p)) (q : Nx C D A H { P with sw := z } (N σ)) : sFld K ta tv "switches" ⟨N, R, B, C'⟩ σ H :=
  st_fld hv ha h.hp T.cl T.nSwitches (by show 10 < 1000; decide) (by rw [pq_switches]; exact q _ (h.setP _ ⟨rfl, rfl, rfl, rfl, rfl⟩) (Fr.upd (PAt.fp A).1))
theorem PAt.eqm (h : PAt C D H A P) : H = mput C H A.m A.dm A.c P.m := (mput_id h.hm h.hc).symm
theorem sp_at (M : MTx K C) (h : PAt C D H A P) (hv : Val tv σ H (.int z)) (ha : Val ta σ H (.ref A.m)) (q : Nx C D A H { P with m := { P.m with pc := z } } (N σ)) : sFld K ta tv "at" ⟨N, R, B, C'⟩ σ H := by
  obtain ⟨q1, q2⟩ := h.setM (Same.refl H) { P.m with pc := z }
  have e := h.eqm
  rw [e] at hv ha ⊢
  exact sm_at M hv ha (q _ q1 q2)
theorem sp_total (M : MTx K C) (h : PAt C D H A P) (hv : Val tv σ H (.int z)) (ha : Val ta σ H (.ref A.m)) (q : Nx C D A H { P with m := { P.m with total := z } } (N σ)) : sFld K ta tv "total" ⟨N, R, B, C'⟩ σ H := by
  obtain ⟨q1, q2⟩ := h.setM (Same.refl H) { P.m with total := z }
  have e := h.eqm
  rw [e] at hv ha ⊢
  exact sm_total M hv ha (q _ q1 q2)
theorem qp_state (T : PTx K D) (h : PAt C D H A P) (hv : Val tv σ H (.str y)) (ha : Val ta σ H (.ref A.p)) (q : Nx C D A H { P with st := y } (tz ⟨N, R, B, C'⟩ σ)) : tSeq (sFld K ta tv "state") tz ⟨N, R, B, C'⟩ σ H := sp_state (N := tz ⟨N, R, B, C'⟩) (B := B) (C' := C') T h hv ha q
theorem qp_nap (T : PTx K D) (h : PAt C D H A P) (hv : Val tv σ H (.int z)) (ha : Val ta σ H (.ref A.p)) (q : Nx C D A H { P with nap := z } (tz ⟨N, R, B, C'⟩ σ)) : tSeq (sFld K ta tv "nap") tz ⟨N, R, B, C'⟩ σ H := sp_nap (N := tz ⟨N, R, B, C'⟩) (B := B) (C' := C') T h hv ha q
theorem qp_done (T : PTx K D) (h : PAt C D H A P) (hv : Val tv σ H (.int z)) (ha : Val ta σ H (.ref A.p)) (q : Nx C D A H { P with done := z } (tz ⟨N, R, B, C'⟩ σ)) : tSeq (sFld K ta tv "done") tz ⟨N, R, B, C'⟩ σ H := sp_done (N := tz ⟨N, R, B, C'⟩) (B := B) (C' := C') T h hv ha q
theorem qp_at (M : MTx K C) (h : PAt C D H A P) (hv : Val tv σ H (.int z)) (ha : Val ta σ H (.ref A.m)) (q : Nx C D A H { P with m := { P.m with pc := z } } (tz ⟨N, R, B, C'⟩ σ)) : tSeq (sFld K ta tv "at") tz ⟨N, R, B, C'⟩ σ H := sp_at (N := tz ⟨N, R, B, C'⟩) (B := B) (C' := C') M h hv ha q
theorem qp_total (M : MTx K C) (h : PAt C D H A P) (hv : Val tv σ H (.int z)) (ha : Val ta σ H (.ref A.m)) (q : Nx C D A H { P with m := { P.m with total := z } } (tz ⟨N, R, B, C'⟩ σ)) : tSeq (sFld K ta tv "total") tz ⟨N, R, B, C'⟩ σ H := sp_total (N := tz ⟨N, R, B, C'⟩) (B := B) (C' := C') M h hv ha q
end
/-! ### lists changed by their methods -/
section
variable {σ : L2.St} {H H' : Hp} {K : PySem.W.Frag} {a l : Addr} {ta tv ti to : TE} {v x y : V} {xs : List V} {ns : List Int} {N : L2.St → Hp → Prop} {R : VK} {B C' : L2.St → Hp → Prop} {tz : TS}
theorem sx_drop (h : ta σ H fun _ H1 => N σ H1) : tDrop ta ⟨N, R, B, C'⟩ σ H := h
theorem qx_drop (h : ta σ H fun _ H1 => tz ⟨N, R, B, C'⟩ σ H1) : tSeq (tDrop ta) tz ⟨N, R, B, C'⟩ σ H := h
theorem ty_list (h : H l = some (.lst xs)) : tyV K "list" (.ref l) H := .inl ⟨rfl, xs, SqL.of h⟩
theorem lt_line {n : Nat} (h : n < 1000000) : n < sizeLine := Nat.lt_trans h (by rw [sizeLine_eq]; decide)
theorem x_append {Q : VK} (ho : Val to σ H (.ref l)) (hl : H l = some (.lst xs)) (hn : xs.length < 1000000) (hv : Val tv σ H v) (q : Q .non (upd H l (.lst (xs ++ [v])))) : tBM K "list" rAppend to (tCons tv tNil) σ H Q :=
  ho _ ⟨ty_list hl, hv _ ⟨l, xs, v, rfl, rfl, hl, lt_line hn, q⟩⟩
theorem x_appendX {Q : VK} (ho : Val to σ H (.ref l)) (hl : H l = some (.lst xs)) (h : tv σ H fun v H1 => rAppend (.ref l) [v] H1 Q) : tBM K "list" rAppend to (tCons tv tNil) σ H Q := ho _ ⟨ty_list hl, h⟩
theorem x_pop0 {Q : VK} (ho : Val to σ H (.ref l)) (hl : H l = some (.lst (x :: xs))) (hi : Val ti σ H (.int 0)) (q : Q x (upd H l (.lst xs))) : tBM K "list" rPopAt to (tCons ti tNil) σ H Q :=
  ho _ ⟨ty_list hl, hi _ ⟨l, x :: xs, 0, 0, x, rfl, rfl, hl, by decide, by decide, by unfold seqIndex?; simp, rfl, q⟩⟩
theorem v_lenI (h : Val ta σ H (.ref a)) (hs : H a = some (.lst (ns.map V.int))) : Val (tCB (rLenQ K) (tCons ta tNil)) σ H (.int ns.length) := v_cb (va_cons h va_nil) fun _ q => ⟨a, ns.map V.int, rfl, .inl (SqL.of hs), by rw [List.length_map]; exact q⟩
theorem a_truL (h : Val ta σ H (.ref a)) (hs : H a = some (.lst (ns.map V.int))) : Ans (fun σ H Q => ta σ H fun x H' => ∃ k, TruV K x H' k ∧ Q k H') σ H (!ns.isEmpty) := a_tru h (.inl ⟨_, SqL.of hs, by cases ns <;> rfl⟩)
end
/-! ### rows: a list of new lists, of new tuples -/
def NewO (mk : List V → HO) (te : TE) (σ : L2.St) (H : Hp) (xs : List V) : Prop := ∀ Q : VK, (∀ D, H D = none → Q (.ref D) (upd H D (mk xs))) → te σ H Q
def RowsAt (mk : List V → HO) (H : Hp) (as : List Addr) (rows : List (List V)) : Prop := ∀ (i : Nat) a, as[i]? = some a → ∃ r, rows[i]? = some r ∧ H a = some (mk r)
def NewRows (mk : List V → HO) (te : TE) (σ : L2.St) (H : Hp) (rows : List (List V)) : Prop :=
  ∀ Q : VK, (∀ D as H', Same H H' → H D = none → (∀ b ∈ as, H b = none) → (D :: as).Nodup → as.length = rows.length → H' D = some (.lst (as.map V.ref)) → RowsAt mk H' as rows → Q (.ref D) H') → te σ H Q
structure RInv (mk : List V → HO) (H : Hp) (D : Addr) (rows : List (List V)) (as : List Addr) (H' : Hp) : Prop where
  sm : Same H H'
  fr : ∀ b ∈ as, H b = none
  nd : (D :: as).Nodup
  hd : H' D = some (.lst (as.map V.ref))
  rw_ : RowsAt mk H' as rows
section
variable {σ : L2.St} {H H' : Hp} {K : PySem.W.Frag} {a D q : Addr} {te tl : TE} {tA : TA} {mk : List V → HO} {rows : List (List V)} {as : List Addr} {r : List V} {xs : List V} {n : Int}
theorem rinv0 (hD : H D = none) : RInv mk H D rows [] (upd H D (.lst [])) := ⟨smN hD, fun _ h => (by cases h), List.nodup_cons.mpr ⟨fun h => (by cases h), List.nodup_nil⟩, upd_same, fun i a h => (by cases h)⟩
theorem rinv_step (hD : H D = none) (h : RInv mk H D rows as H') (hr : rows[as.length]? = some r) (hq : H' q = none) : RInv mk H D rows (as ++ [q]) (upd (upd H' q (mk r)) D (.lst (as.map V.ref ++ [V.ref q]))) := by
  have nqD : q ≠ D := fun e => by rw [e, h.hd] at hq; cases hq
  have nas : ∀ b ∈ as, b ≠ D ∧ b ≠ q := fun b hb => by
    refine ⟨fun e => (List.nodup_cons.mp h.nd).1 (e ▸ hb), fun e => ?_⟩
    obtain ⟨i, hi⟩ := List.getElem?_of_mem hb
    obtain ⟨r', _, e2⟩ := h.rw_ i b hi
    rw [e, hq] at e2; cases e2
  refine ⟨smM (h.sm.trans (smN hq)) hD, ?_, ?_, ?_, ?_⟩
  · intro b hb
    rcases List.mem_append.mp hb with h1 | h1
    · exact h.fr b h1
    · rw [List.mem_singleton.mp h1]; exact h.sm.free hq
  · have h2 := List.nodup_cons.mp h.nd
    refine List.nodup_cons.mpr ⟨fun hm => ?_, ?_⟩
    · rcases List.mem_append.mp hm with h1 | h1
      · exact h2.1 h1
      · exact nqD (List.mem_singleton.mp h1).symm
    · refine List.nodup_append.mpr ⟨h2.2, by simp, fun x hx y hy => ?_⟩
      rw [List.mem_singleton.mp hy]
      exact (nas x hx).2
  · rw [upd_same, List.map_append]; rfl
  · intro i b hb
    by_cases hi : i < as.length
    · rw [List.getElem?_append_left hi] at hb
      obtain ⟨r', e1, e2⟩ := h.rw_ i b hb
      have hn := nas b (List.mem_of_getElem? hb)
      exact ⟨r', e1, by rw [upd_ne hn.1, upd_ne hn.2]; exact e2⟩
    · rw [List.getElem?_append_right (by omega)] at hb
      have hi0 : i - as.length = 0 := by
        have := (List.getElem?_eq_some_iff.mp hb).1
        simp at this; omega
      rw [hi0] at hb
      have e : q = b := by simpa using hb
      subst e
      exact ⟨r, by rw [show i = as.length by omega]; exact hr, by rw [upd_ne nqD]; exact upd_same⟩
theorem nr_range {k : Nat} {ws : List Nat} (h : ValA tA σ H [.int n]) (hn : 0 ≤ n ∧ n ≤ 100000) (hl : rows.length = n.toNat) (hw : ∀ x, wipe ((wipe σ ws).set k (some x)) ws = wipe σ ws)
    (he : ∀ (m : Nat) (r : List V) (H' : Hp), Same H H' → rows[m]? = some r → NewO mk te ((wipe σ ws).set k (some (.int (m : Int)))) H' r) : NewRows mk (tLc (iRng1 tA) (gName k) tYes te ws) σ H rows := fun Q q =>
  h _ ⟨n, rfl, by omega, by omega, fun D hD => lc_range (lo := 0) (n := n.toNat) (fun m H' => ∃ as, as.length = m ∧ RInv mk H D rows as H') ⟨[], rfl, rinv0 hD⟩ (fun m H' hm e => by
    obtain ⟨as, rfl, iv⟩ := e
    have e0 : (0 : Int) + (as.length : Int) = (as.length : Int) := Int.zero_add _
    rw [e0]
    refine ⟨hw _, ?_⟩
    unfold tYes
    dsimp only
    rw [if_pos rfl]
    have hr : rows[as.length]? = some rows[as.length] := List.getElem?_eq_getElem (by omega)
    refine he _ _ _ iv.sm hr _ (fun b hb => ⟨_, by rw [upd_ne (fun e => by rw [← e, iv.hd] at hb; cases hb)]; exact iv.hd, ?_, as ++ [b], by simp, rinv_step hD iv hr hb⟩)
    rw [List.length_map]
    exact Nat.lt_of_lt_of_le (show as.length < 100000 by omega) (by rw [sizeLine_eq]; decide)) (fun H' e => by
      obtain ⟨as, e1, iv⟩ := e
      exact q D as H' iv.sm hD iv.fr iv.nd (by omega) iv.hd iv.rw_)⟩
theorem nr_list {k : Nat} {ws : List Nat} (h : Val tl σ H (.ref a)) (hs0 : SqL K H a xs) (hn : xs.length ≤ 100000) (hl : rows.length = xs.length) (hw : ∀ x, wipe ((wipe σ ws).set k (some x)) ws = wipe σ ws)
    (he : ∀ (m : Nat) (x : V) (r : List V) (H' : Hp), Same H H' → xs[m]? = some x → rows[m]? = some r → NewO mk te ((wipe σ ws).set k (some x)) H' r) : NewRows mk (tLc (iList K tl) (gName k) tYes te ws) σ H rows := fun Q q =>
  h _ ⟨a, rfl, ⟨xs, hs0⟩, fun D hD => lc_list (xs := xs) (fun m H' => ∃ as, as.length = m ∧ RInv mk H D rows as H') ⟨[], rfl, rinv0 hD⟩ (fun m H' _ e => by obtain ⟨as, _, iv⟩ := e; exact iv.sm.seq hs0) (fun m x H' hm e => by
    obtain ⟨as, rfl, iv⟩ := e
    refine ⟨hw _, ?_⟩
    unfold tYes
    dsimp only
    rw [if_pos rfl]
    have hlt := (List.getElem?_eq_some_iff.mp hm).1
    have hr : rows[as.length]? = some rows[as.length] := List.getElem?_eq_getElem (by omega)
    refine he _ _ _ _ iv.sm hm hr _ (fun b hb => ⟨_, by rw [upd_ne (fun e => by rw [← e, iv.hd] at hb; cases hb)]; exact iv.hd, ?_, as ++ [b], by simp, rinv_step hD iv hr hb⟩)
    rw [List.length_map]
    exact Nat.lt_of_lt_of_le (show as.length < 100000 by omega) (by rw [sizeLine_eq]; decide)) (fun H' e => by
      obtain ⟨as, e1, iv⟩ := e
      exact q D as H' iv.sm hD iv.fr iv.nd (by omega) iv.hd iv.rw_)⟩
theorem nr_tup {k : Nat} {ws : List Nat} (h : Val tl σ H (.ref a)) (hs0 : SqT K H a xs) (hn : xs.length ≤ 100000) (hl : rows.length = xs.length) (hw : ∀ x, wipe ((wipe σ ws).set k (some x)) ws = wipe σ ws)
    (he : ∀ (m : Nat) (x : V) (r : List V) (H' : Hp), Same H H' → xs[m]? = some x → rows[m]? = some r → NewO mk te ((wipe σ ws).set k (some x)) H' r) : NewRows mk (tLc (iTup K tl) (gName k) tYes te ws) σ H rows := fun Q q =>
  h _ ⟨a, rfl, ⟨xs, hs0⟩, fun D hD => lc_tup (xs := xs) (fun m H' => ∃ as, as.length = m ∧ RInv mk H D rows as H') ⟨[], rfl, rinv0 hD⟩ (fun m H' _ e => by obtain ⟨as, _, iv⟩ := e; exact smT iv.sm hs0) (fun m x H' hm e => by
    obtain ⟨as, rfl, iv⟩ := e
    refine ⟨hw _, ?_⟩
    unfold tYes
    dsimp only
    rw [if_pos rfl]
    have hlt := (List.getElem?_eq_some_iff.mp hm).1
    have hr : rows[as.length]? = some rows[as.length] := List.getElem?_eq_getElem (by omega)
    refine he _ _ _ _ iv.sm hm hr _ (fun b hb => ⟨_, by rw [upd_ne (fun e => by rw [← e, iv.hd] at hb; cases hb)]; exact iv.hd, ?_, as ++ [b], by simp, rinv_step hD iv hr hb⟩)
    rw [List.length_map]
    exact Nat.lt_of_lt_of_le (show as.length < 100000 by omega) (by rw [sizeLine_eq]; decide)) (fun H' e => by
      obtain ⟨as, e1, iv⟩ := e
      exact q D as H' iv.sm hD iv.fr iv.nd (by omega) iv.hd iv.rw_)⟩
end
/-! ### fields set one by one -/
section
variable {σ : L2.St} {H : Hp} {K : PySem.W.Frag} {C D p dp a : Addr} {fs : List (Str × V)} {f : Str} {ta tv : TE} {tA : TA} {v : V} {xs : List V} {rows : List (List V)} {mk : List V → HO} {cs : List Int} {t mr pc : Int} {N : L2.St → Hp → Prop} {R : VK} {B C' : L2.St → Hp → Prop} {tz : TS}
/-- the instance at p with these fields -/
structure Ins (K : PySem.W.Frag) (D p dp : Addr) (fs : List (Str × V)) (H : Hp) : Prop where
  cl : Cls K D
  at_ : H p = some (.ins D dp fs)
theorem Fr.same1 {F : List Addr} {H H1 H2 : Hp} (a : Same H H1) (b : Fr F H1 H2) : Fr F H H2 := fun x o n h => b x o n (a x o h)
theorem q_fldV (hv : Val tv σ H v) (ha : Val ta σ H (.ref p)) (hp : Ins K D p dp fs H) (no : NoAttr K D f) (hl : fs.length < 1000) (q : ∀ H', Ins K D p dp (putF f v fs) H' → Fr [p] H H' → tz ⟨N, R, B, C'⟩ σ H') : tSeq (sFld K ta tv f) tz ⟨N, R, B, C'⟩ σ H :=
  st_fld (D := ⟨tz ⟨N, R, B, C'⟩, R, B, C'⟩) hv ha hp.at_ hp.cl no hl (q _ ⟨hp.cl, upd_same⟩ (Fr.upd (by simp)))
theorem s_fldV (hv : Val tv σ H v) (ha : Val ta σ H (.ref p)) (hp : Ins K D p dp fs H) (no : NoAttr K D f) (hl : fs.length < 1000) (q : ∀ H', Ins K D p dp (putF f v fs) H' → Fr [p] H H' → N σ H') : sFld K ta tv f ⟨N, R, B, C'⟩ σ H :=
  st_fld (D := ⟨N, R, B, C'⟩) hv ha hp.at_ hp.cl no hl (q _ ⟨hp.cl, upd_same⟩ (Fr.upd (by simp)))
theorem q_fldN (hv : NewL tv σ H xs) (ha : ∀ H', Val ta σ H' (.ref p)) (hp : Ins K D p dp fs H) (no : NoAttr K D f) (hl : fs.length < 1000) (q : ∀ b H', H b = none → b ≠ p → H' b = some (.lst xs) → Ins K D p dp (putF f (.ref b) fs) H' → Fr [p] H H' → tz ⟨N, R, B, C'⟩ σ H') : tSeq (sFld K ta tv f) tz ⟨N, R, B, C'⟩ σ H :=
  hv _ fun b hb => by
    have nb : b ≠ p := fun e => by rw [e, hp.at_] at hb; cases hb
    have hp1 : upd H b (.lst xs) p = some (.ins D dp fs) := by rw [upd_ne nb.symm]; exact hp.at_
    exact ha _ _ ⟨p, D, dp, fs, rfl, hp1, hp.cl, no, hl, q b _ hb nb (by rw [upd_ne nb]; exact upd_same) ⟨hp.cl, upd_same⟩ (Fr.same1 (smN hb) (Fr.upd (by simp)))⟩
theorem q_fldM (hv : ValA tA σ H [.ref a, .int t, .int mr, .int pc]) (hs : SqL K H a (cs.map V.int) ∨ SqT K H a (cs.map V.int)) (ha : ∀ H', Val ta σ H' (.ref p)) (hp : Ins K D p dp fs H) (no : NoAttr K D f) (hl : fs.length < 1000)
    (q : ∀ x dx l H', H x = none → H l = none → l ≠ x → x ≠ p → l ≠ p → H' x = some (.ins C dx (mfs l ⟨cs, t, mr, pc⟩)) → H' l = some (.lst (cs.map V.int)) → Ins K D p dp (putF f (.ref x) fs) H' → Fr [p] H H' → tz ⟨N, R, B, C'⟩ σ H') :
    tSeq (sFld K ta (tMake C (spMachine K C) [] E0 tA) f) tz ⟨N, R, B, C'⟩ σ H := by
    unfold tSeq sFld
    refine x_machine hv hs fun x dx l H1 hx hl0 _ nlx sm => ?_
    have nx : x ≠ p := fun e => by rw [e, hp.at_] at hx; cases hx
    have nl : l ≠ p := fun e => by rw [e, hp.at_] at hl0; cases hl0
    have sm2 : Same H (mput C H1 x dx l ⟨cs, t, mr, pc⟩) := smP sm hx hl0
    exact ha _ _ ⟨p, D, dp, fs, rfl, sm2 _ _ hp.at_, hp.cl, no, hl, q x dx l _ hx hl0 nlx nx nl (by rw [upd_ne nx]; exact mput_p) (by rw [upd_ne nl]; exact mput_l nlx) ⟨hp.cl, upd_same⟩ (Fr.same1 sm2 (Fr.upd (by simp)))⟩
theorem q_fldR (hv : NewRows mk tv σ H rows) (ha : ∀ H', Val ta σ H' (.ref p)) (hp : Ins K D p dp fs H) (no : NoAttr K D f) (hl : fs.length < 1000)
    (q : ∀ b as H', (∀ c ∈ b :: as, H c = none) → (b :: as).Nodup → as.length = rows.length → H' b = some (.lst (as.map V.ref)) → RowsAt mk H' as rows → Ins K D p dp (putF f (.ref b) fs) H' → Fr [p] H H' → tz ⟨N, R, B, C'⟩ σ H') :
    tSeq (sFld K ta tv f) tz ⟨N, R, B, C'⟩ σ H :=
  hv _ fun b as H1 sm hb has nd hlen hd hr => by
    have nb : b ≠ p := fun e => by rw [e, hp.at_] at hb; cases hb
    have nas : ∀ c ∈ as, c ≠ p := fun c hc e => by have := has c hc; rw [e, hp.at_] at this; cases this
    refine ha _ _ ⟨p, D, dp, fs, rfl, sm _ _ hp.at_, hp.cl, no, hl, q b as _ (fun c hc => ?_) nd hlen (by rw [upd_ne nb]; exact hd) (fun i c hc => ?_) ⟨hp.cl, upd_same⟩ (Fr.same1 sm (Fr.upd (by simp)))⟩
    · rcases List.mem_cons.mp hc with h1 | h1
      · rw [h1]; exact hb
      · exact has c h1
    · obtain ⟨r, e1, e2⟩ := hr i c hc
      exact ⟨r, e1, by rw [upd_ne (nas c (List.mem_of_getElem? hc))]; exact e2⟩
theorem Fr.rowsAt {as : List Addr} {H1 : Hp} (f : Fr [p] H H1) (h : RowsAt mk H as rows) (n : ∀ b ∈ as, b ≠ p) : RowsAt mk H1 as rows := fun i b hb => by
  obtain ⟨r, e1, e2⟩ := h i b hb
  exact ⟨r, e1, f _ _ (by simp; exact n b (List.mem_of_getElem? hb)) e2⟩
theorem Fr.one {H1 : Hp} {b : Addr} {o : HO} (f : Fr [p] H H1) (n : b ≠ p) (h : H b = some o) : H1 b = some o := f b o (by simp; exact n) h
theorem Fr.seqL {H1 : Hp} {b : Addr} (f : Fr [p] H H1) (h : SqL K H b xs) (hp : Ins K D p dp fs H) : SqL K H1 b xs := by
  rcases h with (h | ⟨o, h⟩) | h
  · exact .inl (.inl (f.one (fun e => by rw [e, hp.at_] at h; cases h) h))
  · exact .inl (.inr ⟨o, f.one (fun e => by rw [e, hp.at_] at h; cases h) h⟩)
  · exact .inr h
theorem Fr.seqT {H1 : Hp} {b : Addr} (f : Fr [p] H H1) (h : SqT K H b xs) (hp : Ins K D p dp fs H) : SqT K H1 b xs := by
  rcases h with (h | ⟨o, h⟩) | h
  · exact .inl (.inl (f.one (fun e => by rw [e, hp.at_] at h; cases h) h))
  · exact .inl (.inr ⟨o, f.one (fun e => by rw [e, hp.at_] at h; cases h) h⟩)
  · exact .inr h
/-- what is free behind was free before -/
theorem Fr.free {H1 : Hp} {b : Addr} (f : Fr [p] H H1) (hp : Ins K D p dp fs H1) (h : H1 b = none) : H b = none := by
  cases e : H b with
  | none => rfl
  | some o =>
    have n : b ≠ p := fun e => by rw [e, hp.at_] at h; cases h
    rw [f.one n e] at h; cases h
theorem nd_more {b : Addr} {L : List Addr} {o : HO} (h : H b = some o) (hL : ∀ c ∈ L, H c = none) (nd : L.Nodup) : (b :: L).Nodup := List.nodup_cons.mpr ⟨fun hm => (by rw [hL b hm] at h; cases h), nd⟩
end
/-! ### promises of the users' defs -/
def spPre (C D : Addr) (pre : Pn → Prop) (f : Pn → Pn) : Sp := fun vs H Q _ => ∃ (A : PA) (P : Pn), vs = [.ref A.p] ∧ PAt C D H A P ∧ pre P ∧ Nx C D A H (f P) (Q .non)
def spAgain (C D : Addr) : Sp := fun vs H Q _ => ∃ (A : PA) (P : Pn) (s : Str), vs = [.ref A.p, .str s] ∧ PAt C D H A P ∧ Nx C D A H (againP P s) (Q .non)
def spCarry (C D : Addr) : Sp := fun vs H Q _ => ∃ (A : PA) (P : Pn) (b : Bool), vs = [.ref A.p, .bl b] ∧ PAt C D H A P ∧ WfP P ∧ Nx C D A H (carryP P b) (Q .non)
def spAsk (C D : Addr) : Sp := fun vs H Q _ => ∃ (A : PA) (P : Pn) (p : Int), vs = [.ref A.p, .int p] ∧ PAt C D H A P ∧ WfP P ∧ Nx C D A H (askP P p) (Q .non)
def spHeard (C D : Addr) : Sp := fun vs H Q _ => ∃ (A : PA) (P : Pn) (l : Int), vs = [.ref A.p, .int l] ∧ PAt C D H A P ∧ Nx C D A H (heardP P l) (Q .non)
def evV : Ev → List V
  | .key l => [.str "key", .int l]
  | .tick => [.str "tick"]
  | .start p => [.str "start", .int p]
  | .step => [.str "step"]
def Short (P : Pn) : Prop := P.paper.length < 900000
def spHappen (K : PySem.W.Frag) (C D : Addr) : Sp := fun vs H Q _ => ∃ (A : PA) (P : Pn) (a : Addr) (e : Ev), vs = [.ref A.p, .ref a] ∧ PAt C D H A P ∧ WfP P ∧ Short P ∧ SqT K H a (evV e) ∧ Nx C D A H (happenP P e) (Q .non)
def SqI (K : PySem.W.Frag) (H : Hp) (a : Addr) (cs : List Int) : Prop := SqL K H a (cs.map V.int) ∨ SqT K H a (cs.map V.int)
def spPerson (K : PySem.W.Frag) (C D : Addr) : Sp := fun vs H Q _ => ∃ (p dp a : Addr) (cs : List Int) (sw : Int), vs = [.ref p, .ref a, .int sw] ∧ H p = some (.ins D dp []) ∧ SqI K H a cs ∧
  ∀ A H', A.p = p → A.dp = dp → (∀ b ∈ A.foot, b = p ∨ H b = none) → PAt C D H' A (newP cs sw) → Fr [p] H H' → Q .non H'
section
variable {C D : Addr} {H H' : Hp} {A : PA} {P : Pn} {K : PySem.W.Frag} {a : Addr} {xs : List V} {σ : L2.St} {tA : TA} {cs : List Int} {sw : Int}
theorem PAt.setC (h : PAt C D H A P) (xs : List Int) : PAt C D (upd H A.c (.lst (xs.map V.int))) A { P with m := { P.m with cells := xs } } := by
  have n := h.ne
  exact ⟨by rw [upd_ne n.pc]; exact h.hp, by rw [upd_ne n.mc]; exact h.hm, upd_same, by rw [upd_ne n.ci.symm]; exact h.hi, by rw [upd_ne n.co.symm]; exact h.ho, by rw [upd_ne n.cq.symm]; exact h.hq, by rw [upd_ne n.cb.symm]; exact h.hb,
    fun i a ha => by rw [upd_ne (n.bs a (List.mem_of_getElem? ha)).2.2.1]; exact h.hbs i a ha, h.len, h.nd⟩
theorem PAt.obj (h : PAt C D H A P) : ∀ b ∈ A.foot, (∃ C dx fs, H b = some (.ins C dx fs)) ∨ ∃ xs, H b = some (.lst xs) := by
  intro b hb
  unfold PA.foot at hb
  rcases List.mem_append.mp hb with h1 | h1
  · simp only [List.mem_cons, List.not_mem_nil, or_false] at h1
    rcases h1 with rfl | rfl | rfl | rfl | rfl | rfl | rfl
    · exact .inl ⟨_, _, _, h.hp⟩
    · exact .inl ⟨_, _, _, h.hm⟩
    · exact .inr ⟨_, h.hc⟩
    · exact .inr ⟨_, h.hi⟩
    · exact .inr ⟨_, h.ho⟩
    · exact .inr ⟨_, h.hq⟩
    · exact .inr ⟨_, h.hb⟩
  · obtain ⟨i, hi⟩ := List.getElem?_of_mem h1
    obtain ⟨ws, _, w2⟩ := h.hbs i b hi
    exact .inr ⟨_, w2⟩
/-- a tuple stays -/
theorem PAt.tup (h : PAt C D H A P) (f : Fr A.foot H H') (ht : SqT K H a xs) : SqT K H' a xs := by
  rcases ht with (ht | ⟨o, ht⟩) | ht
  · refine .inl (.inl (f _ _ (fun hm => ?_) ht))
    rcases h.obj a hm with ⟨_, _, _, e⟩ | ⟨_, e⟩ <;> rw [e] at ht <;> cases ht
  · refine .inl (.inr ⟨o, f _ _ (fun hm => ?_) ht⟩)
    rcases h.obj a hm with ⟨_, _, _, e⟩ | ⟨_, e⟩ <;> rw [e] at ht <;> cases ht
  · exact .inr ht
/-- a list beside stays -/
theorem PAt.lst (f : Fr A.foot H H') (n : a ∉ A.foot) (ht : SqL K H a xs) : SqL K H' a xs := by
  rcases ht with (ht | ⟨o, ht⟩) | ht
  · exact .inl (.inl (f _ _ n ht))
  · exact .inl (.inr ⟨o, f _ _ n ht⟩)
  · exact .inr ht
/-- the other user stays -/
theorem PAt.other {A2 : PA} {P2 : Pn} (h : PAt C D H A2 P2) (f : Fr A.foot H H') (d : ∀ b ∈ A2.foot, b ∉ A.foot) : PAt C D H' A2 P2 := by
  have k : ∀ b o, b ∈ A2.foot → H b = some o → H' b = some o := fun b o hb e => f b o (d b hb) e
  obtain ⟨f1, f2, f3, f4, f5, f6, f7⟩ := PAt.fp A2
  exact ⟨k _ _ f1 h.hp, k _ _ f2 h.hm, k _ _ f3 h.hc, k _ _ f4 h.hi, k _ _ f5 h.ho, k _ _ f6 h.hq, k _ _ f7 h.hb, fun i b hb => by
    obtain ⟨ws, w1, w2⟩ := h.hbs i b hb
    exact ⟨ws, w1, k _ _ (by unfold PA.foot; exact List.mem_append_right _ (List.mem_of_getElem? hb)) w2⟩, h.len, h.nd⟩
theorem x_person (h : ValA tA σ H [.ref a, .int sw]) (hs : SqI K H a cs) {Q : VK} (q : ∀ A H', (∀ b ∈ A.foot, H b = none) → Same H H' → PAt C D H' A (newP cs sw) → Q (.ref A.p) H') : tMake D (spPerson K C D) [] E0 tA σ H Q :=
  h _ fun x dx nx nd ne => by
    have sm : Same H (upd (upd H dx (.own x)) x (.ins D dx [])) := smM (smN nd) nx
    refine ⟨x, dx, a, cs, sw, rfl, upd_same, hs.imp sm.seq (smT sm), fun A H' e1 e2 fr hA f => ⟨rfl, ?_⟩⟩
    subst e1
    refine q A H' (fun b hb => ?_) (fun b o e => f b o (by simp; exact ne_of_none e nx) (sm b o e)) hA
    rcases fr b hb with h1 | h1
    · rw [h1]; exact nx
    · exact sm.free h1
end
/-! ### pictures -/
theorem strOk_st (s : Str) (h : s = "stopped" ∨ s = "ready" ∨ s = "hears" ∨ s = "says" ∨ s = "sleeps") : PyData.strOk s = true := by
  rcases h with rfl | rfl | rfl | rfl | rfl <;> decide +kernel
def intsD (ns : List Int) : PyData := .tuple (ns.map PyData.int)
def blocksD (bs : List (List Int)) : PyData := .tuple (bs.map intsD)
def shotD (P : Pn) : PyData := .tuple [intsD P.m.cells, .int P.m.total, .int P.m.mark, .int P.m.pc, intsD P.inbox, intsD P.outbox, intsD P.paper, blocksD P.blocks, .int P.sw, .str P.st, .int P.nap, .int P.lost, .int P.done]
def StOk (P : Pn) : Prop := P.st = "stopped" ∨ P.st = "ready" ∨ P.st = "hears" ∨ P.st = "says" ∨ P.st = "sleeps"
theorem canLay_blocks : ∀ bs : List (List Int), PyData.canLayAll0 (bs.map intsD) = true
  | [] => rfl
  | b :: r => by rw [List.map_cons, PyData.canLayAll0, canLay_blocks r, intsD, PyData.canLay0, canLay_ints]; rfl
theorem depth_blocks : ∀ bs : List (List Int), PyData.depthAll (bs.map intsD) ≤ 1
  | [] => Nat.zero_le _
  | b :: r => by
    have := depth_blocks r
    rw [List.map_cons, PyData.depthAll, intsD, PyData.depth, depth_ints]
    omega
theorem shaped_shot {P : Pn} (h : StOk P) : SeqAt.shaped (shotD P) = true := by
  have hs := strOk_st _ h
  have hb := depth_blocks P.blocks
  unfold SeqAt.shaped shotD
  rw [Bool.and_eq_true_iff]
  constructor
  · simp only [PyData.canLay0, PyData.canLayAll0, intsD, blocksD, canLay_ints, canLay_blocks, hs, Bool.and_self, Bool.and_true]
  · apply decide_eq_true
    simp only [PyData.depth, PyData.depthAll, intsD, blocksD, depth_ints]
    have hb' : PyData.depthAll (List.map intsD P.blocks) ≤ 1 := hb
    omega
theorem eqv_ints_refl (ns : List Int) : PyData.eqv (intsD ns) (intsD ns) = true := by unfold intsD; rw [eqv_intsT]; simp
theorem eqvAll_blocks : ∀ bs : List (List Int), PyData.eqvAll (bs.map intsD) (bs.map intsD) = true
  | [] => rfl
  | b :: r => by rw [List.map_cons, PyData.eqvAll, eqv_ints_refl, eqvAll_blocks r]; rfl
theorem eqv_shot (P : Pn) : PyData.eqv (shotD P) (shotD P) = true := by
  unfold shotD
  simp only [PyData.eqv, PyData.eqvAll, eqv_ints_refl, blocksD, eqvAll_blocks, decide_true, Bool.and_self, beq_self_eq_true]
structure ShotAt (K : PySem.W.Frag) (H : Hp) (P : Pn) (a a0 a4 a5 a6 a7 : Addr) (as : List Addr) : Prop where
  top : SqT K H a [.ref a0, .int P.m.total, .int P.m.mark, .int P.m.pc, .ref a4, .ref a5, .ref a6, .ref a7, .int P.sw, .str P.st, .int P.nap, .int P.lost, .int P.done]
  cs : SqT K H a0 (P.m.cells.map V.int)
  ib : SqT K H a4 (P.inbox.map V.int)
  ob : SqT K H a5 (P.outbox.map V.int)
  pp : SqT K H a6 (P.paper.map V.int)
  bl : SqT K H a7 (as.map V.ref)
  len : as.length = P.blocks.length
  row : ∀ (i : Nat) b, as[i]? = some b → ∃ ws, P.blocks[i]? = some ws ∧ SqT K H b (ws.map V.int)
section
variable {K : PySem.W.Frag} {H H' : Hp} {P : Pn} {a a0 a4 a5 a6 a7 : Addr} {as : List Addr} {v : V} {vs : List V}
theorem dpAll_inv : ∀ {ns : List Int} {vs : List V}, DpAll K H vs (ns.map PyData.int) → vs = ns.map V.int
  | [], _, h => by cases h; rfl
  | n :: r, _, h => by
    cases h with
    | cons h1 h2 => cases h1; rw [dpAll_inv h2]; rfl
theorem dp_ints_inv {ns : List Int} (h : Dp K H v (intsD ns)) : ∃ b, v = .ref b ∧ SqT K H b (ns.map V.int) := by
  unfold intsD at h
  cases h with
  | tup h1 h2 => exact ⟨_, rfl, (dpAll_inv h2) ▸ h1⟩
theorem dpAll_rows : ∀ {bs : List (List Int)} {vs : List V}, DpAll K H vs (bs.map intsD) → ∃ as : List Addr, vs = as.map V.ref ∧ as.length = bs.length ∧ ∀ (i : Nat) b, as[i]? = some b → ∃ ws, bs[i]? = some ws ∧ SqT K H b (ws.map V.int)
  | [], _, h => by cases h; exact ⟨[], rfl, rfl, fun i b e => by cases e⟩
  | w :: r, _, h => by
    cases h with
    | cons h1 h2 =>
      obtain ⟨b, rfl, hb⟩ := dp_ints_inv h1
      obtain ⟨as, rfl, hl, hr⟩ := dpAll_rows h2
      refine ⟨b :: as, rfl, by simp [hl], fun i c e => ?_⟩
      cases i with
      | zero => cases e; exact ⟨w, rfl, hb⟩
      | succ i => exact hr i c e
theorem shot_inv (h : Dp K H (.ref a) (shotD P)) : ∃ a0 a4 a5 a6 a7 as, ShotAt K H P a a0 a4 a5 a6 a7 as := by
  unfold shotD at h
  cases h with
  | tup h0 h =>
  cases h with
  | cons z0 h =>
  cases h with
  | cons z1 h =>
  cases h with
  | cons z2 h =>
  cases h with
  | cons z3 h =>
  cases h with
  | cons z4 h =>
  cases h with
  | cons z5 h =>
  cases h with
  | cons z6 h =>
  cases h with
  | cons z7 h =>
  cases h with
  | cons z8 h =>
  cases h with
  | cons z9 h =>
  cases h with
  | cons z10 h =>
  cases h with
  | cons z11 h =>
  cases h with
  | cons z12 h =>
  cases h
  cases z1; cases z2; cases z3; cases z8; cases z9; cases z10; cases z11; cases z12
  obtain ⟨a0, rfl, e0⟩ := dp_ints_inv z0
  obtain ⟨a4, rfl, e4⟩ := dp_ints_inv z4
  obtain ⟨a5, rfl, e5⟩ := dp_ints_inv z5
  obtain ⟨a6, rfl, e6⟩ := dp_ints_inv z6
  unfold blocksD at z7
  cases z7 with
  | tup z7 h7 =>
  obtain ⟨as, rfl, hl, hr⟩ := dpAll_rows h7
  exact ⟨a0, a4, a5, a6, _, as, h0, e0, e4, e5, e6, z7, hl, hr⟩
theorem dp_ints {ns : List Int} (h : SqT K H a (ns.map V.int)) : Dp K H (.ref a) (intsD ns) := dp_intsT h
theorem dpAll_mk : ∀ {bs : List (List Int)} {as : List Addr}, as.length = bs.length → (∀ (i : Nat) b, as[i]? = some b → ∃ ws, bs[i]? = some ws ∧ SqT K H b (ws.map V.int)) → DpAll K H (as.map V.ref) (bs.map intsD)
  | [], [], _, _ => .nil
  | [], _ :: _, h, _ => by cases h
  | _ :: _, [], h, _ => by cases h
  | w :: r, b :: as, hl, h => by
    obtain ⟨ws, e, hb⟩ := h 0 b rfl
    cases e
    exact .cons (dp_ints hb) (dpAll_mk (by simpa using hl) fun i c e => h (i + 1) c e)
theorem ShotAt.dp (h : ShotAt K H P a a0 a4 a5 a6 a7 as) : Dp K H (.ref a) (shotD P) :=
  .tup h.top (.cons (dp_ints h.cs) (.cons (.int _) (.cons (.int _) (.cons (.int _) (.cons (dp_ints h.ib) (.cons (dp_ints h.ob) (.cons (dp_ints h.pp) (.cons (.tup h.bl (dpAll_mk h.len h.row)) (.cons (.int _) (.cons (.str _) (.cons (.int _) (.cons (.int _) (.cons (.int _) .nil)))))))))))))
theorem ShotAt.keep (h : ShotAt K H P a a0 a4 a5 a6 a7 as) (k : ∀ b xs, SqT K H b xs → SqT K H' b xs) : ShotAt K H' P a a0 a4 a5 a6 a7 as :=
  ⟨k _ _ h.top, k _ _ h.cs, k _ _ h.ib, k _ _ h.ob, k _ _ h.pp, k _ _ h.bl, h.len, fun i b e => by obtain ⟨ws, e1, e2⟩ := h.row i b e; exact ⟨ws, e1, k _ _ e2⟩⟩
theorem shot_keep (h : Dp K H (.ref a) (shotD P)) (k : ∀ b xs, SqT K H b xs → SqT K H' b xs) : Dp K H' (.ref a) (shotD P) := by
  obtain ⟨_, _, _, _, _, _, h⟩ := shot_inv h
  exact (h.keep k).dp
end
def spPicture (K : PySem.W.Frag) (C D : Addr) : Sp := fun vs H Q _ => ∃ (A : PA) (P : Pn), vs = [.ref A.p] ∧ PAt C D H A P ∧ P.blocks.length = 4 ∧ ∀ a H', Same H H' → Dp K H' (.ref a) (shotD P) → Q (.ref a) H'
def spPersonOf (K : PySem.W.Frag) (C D : Addr) : Sp := fun vs H Q _ => ∃ (a : Addr) (P : Pn), vs = [.ref a] ∧ Dp K H (.ref a) (shotD P) ∧ P.blocks.length = 4 ∧ ∀ A H', (∀ b ∈ A.foot, H b = none) → Same H H' → PAt C D H' A P → Q (.ref A.p) H'
def runP (P : Pn) (es : List Ev) : Pn := es.foldl happenP P
section
variable {σ : L2.St} {H : Hp} {K : PySem.W.Frag} {a D : Addr} {ta te : TE} {tA : TA} {xs : List V} {ns : List Int}
def rTupOf (K : PySem.W.Frag) : List V → Hp → VK → Prop := fun xs H Q => ∃ p ys, xs = [.ref p] ∧ ((SqL K H p ys ∧ ∀ l, H l = none → Q (.ref l) (upd H l (.tup ys))) ∨ (SqT K H p ys ∧ Q (.ref p) H))
/-- tuple(l) of a list: a new one -/
theorem x_tupL {Q : VK} (h : Val ta σ H (.ref a)) (hs : SqL K H a xs) (q : ∀ T H', Same H H' → H' T = some (.tup xs) → Q (.ref T) H') : tCB (rTupOf K) (tCons ta tNil) σ H Q := h _ ⟨a, xs, rfl, .inl ⟨hs, fun l hl => q l _ (smN hl) upd_same⟩⟩
theorem x_tupX {Q : VK} (h : ta σ H fun v H1 => rTupOf K [v] H1 Q) : tCB (rTupOf K) (tCons ta tNil) σ H Q := h
theorem no_tupL (h : Val ta σ H (.ref a)) (hs : SqL K H a xs) : NewO HO.tup (tCB (rTupOf K) (tCons ta tNil)) σ H xs := fun _ q => h _ ⟨a, xs, rfl, .inl ⟨hs, q⟩⟩
theorem no_list (h : Val ta σ H (.ref a)) (hs : SqL K H a xs ∨ SqT K H a xs) : NewO HO.lst (tCB (rListS K) (tCons ta tNil)) σ H xs := fun _ q => h _ ⟨a, xs, rfl, hs, q⟩
theorem xt_tup {Q : VK} (h : tA σ H fun vs H1 => vs.length ≤ sizeLine ∧ ∀ p, H1 p = none → Q (.ref p) (upd H1 p (.tup vs))) : tTup tA σ H Q := h
theorem xa_cons {Q : List V → Hp → Prop} (h : ta σ H fun x H1 => tA σ H1 fun xs H2 => Q (x :: xs) H2) : tCons ta tA σ H Q := h
theorem xa_nil {Q : List V → Hp → Prop} (h : Q [] H) : tNil σ H Q := h
theorem x_tup {Q : VK} (h : tA σ H fun vs H1 => vs.length ≤ 1000 ∧ ∀ p, H1 p = none → Q (.ref p) (upd H1 p (.tup vs))) (m : ∀ Q1 Q2 : List V → Hp → Prop, (∀ vs H, Q1 vs H → Q2 vs H) → tA σ H Q1 → tA σ H Q2) : tTup tA σ H Q :=
  m _ _ (fun vs H1 h => ⟨Nat.le_trans h.1 (by rw [sizeLine_eq]; decide), h.2⟩) h
theorem k_line {n : Nat} (h : n ≤ 1000) : n ≤ sizeLine := Nat.le_trans h (by rw [sizeLine_eq]; decide)
end
theorem Tx.pt {K : PySem.W.Frag} {mg : Str → Option Value} (T : Tx K mg) : PTx K (He.ga K "Person") := ⟨T.cls 74, T.no 76, T.no 77, T.no 78, T.no 79, T.no 80, T.no 81, T.no 82, T.no 83, T.no 84, T.no 85⟩


section
variable {P : Program} {w : World} {K : PySem.W.Frag} {mg : Str → Option Value} {base : Heap}

theorem sc_again : FnScope ["person", "state"] ["person", "state"] (defScope s_again) := ⟨rfl, rfl, rfl, by decide +kernel, rfl, by decide +kernel, by decide +kernel⟩
theorem cal_again (T : Tx K mg) : Cal P w K mg base 1 "again" ["person", "state"] (spAgain (He.ga K "Machine") (He.ga K "Person")) := by
  refine cal_mk T 24 24 rfl rfl sc_again (fun _ _ _ _ _ _ us hl => match us, hl with | [_, _], _ => rfl) (fun vs H Q E h => ?_) (fun f cdv A outer s H vs Q E hr h => ?_)
  · obtain ⟨A, P, s, rfl, h, k⟩ := h
    rfl
  · obtain ⟨A, P, s, rfl, h, k⟩ := h
    have M := T.mt
    have U := T.pt
    refine ⟨_, (pss_cons (ps_fld (pe_fld (pv 0) rfl) (pe_op op_mod (pe_op op_sub (pe_fld (pe_fld (pv 0) rfl) rfl) pe_int) pe_int) rfl) (pss_one (ps_fld (pv 0) (pv 1) rfl))), ?_⟩
    refine qp_at M h (v_mod (v_sub (vp_at M h (vp_machine U h (v_var rfl))) v_c) v_c (by decide)) (vp_machine U h (v_var rfl)) (fun H1 h1 f1 => ?_)
    refine sp_state U h1 (v_var rfl) (v_var rfl) (fun H2 h2 f2 => ?_)
    exact k H2 h2 (f1.trans f2)

theorem sc_hear : FnScope ["person"] ["person"] (defScope s_hear) := ⟨rfl, rfl, rfl, by decide +kernel, rfl, by decide +kernel, by decide +kernel⟩
theorem cal_hear (T : Tx K mg) : Cal P w K mg base 2 "hear" ["person"] (spPre (He.ga K "Machine") (He.ga K "Person") (fun _ => True) hearP) := by
  refine cal_mk T 25 25 rfl rfl sc_hear (fun _ _ _ _ _ _ us hl => match us, hl with | [_], _ => rfl) (fun vs H Q E h => ?_) (fun f cdv A outer s H vs Q E hr h => ?_)
  · obtain ⟨A, P, rfl, h, _, k⟩ := h
    rfl
  · obtain ⟨A, P, rfl, h, _, k⟩ := h
    have M := T.mt
    have U := T.pt
    refine ⟨_, (pss_one (ps_if (pt_not (pt_truth (pe_fld (pv 0) rfl) (by intro _; rfl))) (pss_one (ps_expr (pe_cal (cal_again (K := K) T) hr (by decide) rfl (pa_cons (pv 0) (pa_cons pe_str pa_nil))))) (pss_one (ps_fld (pe_fld (pv 0) rfl) (pe_bm PySem.F.plainAttrs_list PySem.F.slot_list_pop PySem.F.type_list_pop mt_popAt (pe_fld (pv 0) rfl) (pa_cons pe_int pa_nil)) rfl)))), ?_⟩
    unfold hearP at k
    refine s_if (a_not (a_truL (vp_inbox U h (v_var rfl)) h.hi)) (fun h1 => ?_) (fun h1 => ?_)
    · have e : P.inbox = [] := by cases hx : P.inbox with
        | nil => rfl
        | cons x r => rw [hx] at h1; cases h1
      rw [e] at k
      exact s_do (va_cons (v_var rfl) (va_cons v_c va_nil)) ⟨A, P, "hears", rfl, h, k⟩
    · cases hx : P.inbox with
      | nil => rw [hx] at h1; cases h1
      | cons x r =>
        rw [hx] at k
        have hi := h.hi
        rw [hx, List.map_cons] at hi
        refine x_pop0 (vp_inbox U h (v_var rfl)) hi v_c ?_
        have h2 := h.setI r
        refine sp_total M h2 (tv := tC (.int x)) v_c (vp_machine U h2 (v_var rfl)) (fun H3 h3 f3 => ?_)
        exact k H3 h3 ((Fr.upd (PAt.fp A).2.2.2.1).trans f3)

theorem sc_say : FnScope ["person"] ["person"] (defScope s_say) := ⟨rfl, rfl, rfl, by decide +kernel, rfl, by decide +kernel, by decide +kernel⟩
theorem cal_say (T : Tx K mg) : Cal P w K mg base 2 "say" ["person"] (spPre (He.ga K "Machine") (He.ga K "Person") (fun P => P.outbox.length < 1000000) sayP) := by
  refine cal_mk T 26 26 rfl rfl sc_say (fun _ _ _ _ _ _ us hl => match us, hl with | [_], _ => rfl) (fun vs H Q E h => ?_) (fun f cdv A outer s H vs Q E hr h => ?_)
  · obtain ⟨A, P, rfl, h, hl, k⟩ := h
    rfl
  · obtain ⟨A, P, rfl, h, hl, k⟩ := h
    have M := T.mt
    have U := T.pt
    refine ⟨_, (pss_one (ps_if (pt_cmpR op_eq (pe_callB call_len_seq (by rfl) (T.free 50) PySem.boot_len (pa_cons (pe_fld (pv 0) rfl) pa_nil)) (pe_globI (by rfl) (T.int 116)) (nomark _)) (pss_one (ps_expr (pe_cal (cal_again (K := K) T) hr (by decide) rfl (pa_cons (pv 0) (pa_cons pe_str pa_nil))))) (pss_one (ps_expr (pe_bm PySem.F.plainAttrs_list PySem.F.slot_list_append PySem.F.type_list_append mt_append (pe_fld (pv 0) rfl) (pa_cons (pe_op op_mod (pe_fld (pe_fld (pv 0) rfl) rfl) pe_int) pa_nil)))))), ?_⟩
    unfold sayP at k
    refine s_if (a_t (v_eqI (v_lenI (vp_outbox U h (v_var rfl)) h.ho) v_c)) (fun h1 => ?_) (fun h1 => ?_)
    · have g := of_decide_eq_true h1
      rw [if_pos (by omega)] at k
      exact s_do (va_cons (v_var rfl) (va_cons v_c va_nil)) ⟨A, P, "says", rfl, h, k⟩
    · have g := of_decide_eq_false h1
      rw [if_neg (by omega)] at k
      refine sx_drop (x_append (vp_outbox U h (v_var rfl)) h.ho (by rw [List.length_map]; exact hl) (v_mod (vp_total M h (vp_machine U h (v_var rfl))) v_c (by decide)) ?_)
      rw [show P.outbox.map V.int ++ [V.int (P.m.total % 256)] = (P.outbox ++ [P.m.total % 256]).map V.int by simp]
      exact k _ (h.setO _) (Fr.upd (PAt.fp A).2.2.2.2.1)

theorem sc_doze : FnScope ["person"] ["person"] (defScope s_doze) := ⟨rfl, rfl, rfl, by decide +kernel, rfl, by decide +kernel, by decide +kernel⟩
theorem cal_doze (T : Tx K mg) : Cal P w K mg base 1 "doze" ["person"] (spPre (He.ga K "Machine") (He.ga K "Person") (fun _ => True) dozeP) := by
  refine cal_mk T 27 27 rfl rfl sc_doze (fun _ _ _ _ _ _ us hl => match us, hl with | [_], _ => rfl) (fun vs H Q E h => ?_) (fun f cdv A outer s H vs Q E hr h => ?_)
  · obtain ⟨A, P, rfl, h, _, k⟩ := h
    rfl
  · obtain ⟨A, P, rfl, h, _, k⟩ := h
    have M := T.mt
    have U := T.pt
    refine ⟨_, (pss_one (ps_if (pt_cmpR op_gt (pe_fld (pe_fld (pv 0) rfl) rfl) pe_int (nomark _)) (pss_cons (ps_fld (pv 0) (pe_fld (pe_fld (pv 0) rfl) rfl) rfl) (pss_cons (ps_fld (pe_fld (pv 0) rfl) pe_int rfl) (pss_one (ps_fld (pv 0) pe_str rfl)))) pss_nil)), ?_⟩
    unfold dozeP at k
    refine s_if (a_t (v_gt (vp_total M h (vp_machine U h (v_var rfl))) v_c)) (fun h1 => ?_) (fun h1 => ?_)
    · rw [if_pos (of_decide_eq_true h1)] at k
      refine qp_nap U h (vp_total M h (vp_machine U h (v_var rfl))) (v_var rfl) (fun H1 g1 f1 => ?_)
      refine qp_total M g1 v_c (vp_machine U g1 (v_var rfl)) (fun H2 g2 f2 => ?_)
      refine sp_state U g2 v_c (v_var rfl) (fun H3 g3 f3 => ?_)
      exact k H3 g3 ((f1.trans f2).trans f3)
    · rw [if_neg (of_decide_eq_false h1)] at k
      exact s_next (k _ h Fr.refl)

theorem sc_carry : FnScope ["person", "fetches", "machine", "place", "block", "k"] ["person", "fetches"] (defScope s_carry) := ⟨rfl, rfl, rfl, by decide +kernel, rfl, by decide +kernel, by decide +kernel⟩
theorem cal_carry (T : Tx K mg) : Cal P w K mg base 2 "carry" ["person", "fetches"] (spCarry (He.ga K "Machine") (He.ga K "Person")) := by
  refine cal_mk T 28 28 rfl rfl sc_carry (fun _ _ _ _ _ _ us hl => match us, hl with | [_, _], _ => rfl) (fun vs H Q E h => ?_) (fun f cdv A outer s H vs Q E hr h => ?_)
  · obtain ⟨A, P, b, rfl, h, w, k⟩ := h
    rfl
  · obtain ⟨A, P, b, rfl, h, w, k⟩ := h
    have M := T.mt
    have U := T.pt
    refine ⟨_, (pss_cons (ps_set (i := 2) sc_carry.nd rfl (Or.inl rfl) (pe_fld (pv 0) rfl)) (pss_cons (ps_set (i := 3) sc_carry.nd rfl (Or.inl rfl) (pe_op op_mod (pe_ix ix_list (pe_fld (pv 2) rfl) (pe_fld (pv 2) rfl) (fun _ _ => rfl)) pe_int)) (pss_cons (ps_expr (pe_cal (cal_skip (K := K) T) hr (by decide) rfl (pa_cons (pv 2) pa_nil))) (pss_cons (ps_if (pt_cmpR op_gt (pe_fld (pv 2) rfl) pe_int (nomark _)) (pss_cons (ps_fld (pv 2) pe_int rfl) (pss_one (ps_ret pe_non))) pss_nil) (pss_cons (ps_set (i := 4) sc_carry.nd rfl (Or.inl rfl) (pe_ix ix_list (pe_fld (pv 0) rfl) (pe_fld (pv 2) rfl) (fun _ _ => rfl))) (pss_cons (ps_for PassesOwn.never rfl (pi_range1 (by rfl) (T.free 52) (pa_cons pe_int pa_nil)) (pg_name (i := 5) sc_carry.nd rfl (Or.inl rfl)) (pss_one (ps_if (pt_val (pv 1)) (pss_one (ps_asg (pe_ix ix_list (pv 4) (pv 5) (fun _ _ => rfl)) (pg_sub (pe_fld (pv 2) rfl) (pe_op op_mod (pe_op op_add (pv 3) (pv 5)) pe_int) set_list))) (pss_one (ps_asg (pe_ix ix_list (pe_fld (pv 2) rfl) (pe_op op_mod (pe_op op_add (pv 3) (pv 5)) pe_int) (fun _ _ => rfl)) (pg_sub (pv 4) (pv 5) set_list)))))) (pss_cons (ps_fld (pv 2) pe_int rfl) (pss_one (ps_ret pe_non))))))))), ?_⟩
    have t0 := w.wm.tlo
    have pl := w.wm.lo
    have ph := w.wm.hi
    have cl := w.wm.len
    refine q_set (vp_machine U h (v_var rfl)) ?_
    refine q_set (v_mod (v_ixLI (vf_cells M h.hm (v_var rfl)) (vp_at M h (v_var rfl)) (SqL.of h.hc) pl (by omega)) v_c (by decide)) ?_
    have pe : P.m.cells.getD P.m.pc.toNat 0 % 64 = getC P.m P.m.pc % 64 := rfl
    rw [pe]
    have p0 : 0 ≤ getC P.m P.m.pc % 64 ∧ getC P.m P.m.pc % 64 < 64 := by omega
    unfold carryP at k
    dsimp only at k
    generalize getC P.m P.m.pc % 64 = pp at p0 k ⊢
    refine q_do (va_cons (v_var rfl) va_nil) ⟨H, A.m, A.dm, A.c, P.m, rfl, h.eqm, ?_⟩
    dsimp only
    obtain ⟨g1, f1⟩ := h.setM (Same.refl H) (skipM P.m)
    generalize mput _ H A.m A.dm A.c (skipM P.m) = H1 at g1 f1 ⊢
    refine q_if (a_t (v_gt (vp_total M g1 (v_var rfl)) v_c)) (fun c1 => ?_) (fun c1 => ?_)
    · have c2 : 3 < P.m.total := of_decide_eq_true c1
      rw [if_pos c2] at k
      refine qp_total M g1 v_c (v_var rfl) (fun H2 g2 f2 => ?_)
      exact s_ret v_c (k _ g2 (f1.trans f2))
    refine s_next ?_
    have c2 : ¬ 3 < P.m.total := of_decide_eq_false c1
    rw [if_neg c2] at k
    have hb := block_in w (i := P.m.total.toNat) (by omega)
    have hlen := g1.len
    obtain ⟨B, hB⟩ : ∃ B, A.bs[P.m.total.toNat]? = some B := ⟨_, List.getElem?_eq_getElem (by omega)⟩
    obtain ⟨ws, w1, w2⟩ := g1.hbs _ _ hB
    have ew : ws = P.blocks.getD P.m.total.toNat [] := Option.some.inj (w1.symm.trans hb.1)
    subst ew
    refine q_set (v_ixL (vp_blocks U g1 (v_var rfl)) (vp_total M g1 (v_var rfl)) (SqL.of g1.hb) t0 (by rw [List.getElem?_map]; show (A.bs[P.m.total.toNat]?).map V.ref = _; rw [hB]; rfl)) ?_
    have wf := hb.2.1
    have nBc : B ≠ A.c := (g1.ne.bs B (List.mem_of_getElem? hB)).2.2.1
    generalize hbk : P.blocks.getD P.m.total.toNat [] = bk at wf w1 w2 k hb
    cases b with
    | true =>
      rw [if_pos rfl] at k
      refine q_forR (va_cons v_c va_nil) (by decide) (fun i σ' H' => (∃ x, σ' = [some (.ref A.p), some (.bl true), some (.ref A.m), some (.int pp), some (.ref B), x]) ∧ PAt (He.ga K "Machine") (He.ga K "Person") H' A { P with m := { skipM P.m with cells := fetchN P.m.cells bk pp i } } ∧ Fr A.foot H H' ∧ H' B = some (.lst (bk.map V.int))) ⟨⟨_, rfl⟩, g1, f1, w2⟩ (fun (i : Nat) σ' H' hi pv => ?_) (fun σ' H' pv => ?_)
      · obtain ⟨⟨x, rfl⟩, gi, fi, hBi⟩ := pv
        refine s_if (a_B (v_var rfl)) (fun _ => ?_) (fun h => by cases h)
        refine s_setItem (v_ixLI (v_var rfl) (v_var rfl) (SqL.of hBi) (by omega) (by omega)) (vf_cells M gi.hm (v_var rfl)) (v_mod (v_add (v_var rfl) (v_var rfl)) v_c (by decide)) gi.hc (by omega) (by show _ < ((fetchN _ _ _ _).length : Int); rw [fetchN_len]; omega) ?_
        refine ⟨⟨_, rfl⟩, gi.setC _, fi.trans (Fr.upd (PAt.fp A).2.2.1), ?_⟩
        rw [upd_ne nBc]; exact hBi
      · obtain ⟨⟨x, rfl⟩, gi, fi, _⟩ := pv
        refine qp_total M gi v_c (v_var rfl) (fun H2 g2 f2 => ?_)
        exact s_ret v_c (k _ g2 (fi.trans f2))
    | false =>
      rw [if_neg Bool.false_ne_true] at k
      have hl4 := w.bk
      refine q_forR (va_cons v_c va_nil) (by decide) (fun i σ' H' => (∃ x, σ' = [some (.ref A.p), some (.bl false), some (.ref A.m), some (.int pp), some (.ref B), x]) ∧ PAt (He.ga K "Machine") (He.ga K "Person") H' A { P with m := skipM P.m, blocks := P.blocks.set P.m.total.toNat (storeN P.m.cells bk pp i) } ∧ Fr A.foot H H' ∧ H' B = some (.lst ((storeN P.m.cells bk pp i).map V.int))) ⟨⟨_, rfl⟩, ?_, f1, w2⟩ (fun (i : Nat) σ' H' hi pv => ?_) (fun σ' H' pv => ?_)
      · have e : P.blocks.set P.m.total.toNat bk = P.blocks := by
          apply List.ext_getElem?
          intro j
          by_cases hj : P.m.total.toNat = j
          · subst hj; rw [List.getElem?_set_self (by omega), w1]
          · rw [List.getElem?_set_ne hj]
        show PAt (He.ga K "Machine") (He.ga K "Person") H1 A { P with m := skipM P.m, blocks := P.blocks.set P.m.total.toNat bk }
        rw [e]; exact g1
      · obtain ⟨⟨x, rfl⟩, gi, fi, hBi⟩ := pv
        refine s_if (a_B (v_var rfl)) (fun h => by cases h) (fun _ => ?_)
        refine s_setItem (v_ixLI (vf_cells M gi.hm (v_var rfl)) (v_mod (v_add (v_var rfl) (v_var rfl)) v_c (by decide)) (SqL.of gi.hc) (by omega) (by show _ < (P.m.cells.length : Int); omega)) (v_var rfl) (v_var rfl) hBi (by omega) (by rw [storeN_len]; omega) ?_
        have st := gi.setB hB (by show (List.set _ _ _).length = 4; rw [List.length_set]; exact hl4) (storeN P.m.cells bk pp (i + 1))
        have e2 : (P.blocks.set P.m.total.toNat (storeN P.m.cells bk pp i)).set P.m.total.toNat (storeN P.m.cells bk pp (i + 1)) = P.blocks.set P.m.total.toNat (storeN P.m.cells bk pp (i + 1)) := List.set_set ..
        dsimp only at st
        rw [e2] at st
        refine ⟨⟨_, rfl⟩, st, fi.trans (Fr.upd (by unfold PA.foot; exact List.mem_append_right _ (List.mem_of_getElem? hB))), upd_same⟩
      · obtain ⟨⟨x, rfl⟩, gi, fi, _⟩ := pv
        refine qp_total M gi v_c (v_var rfl) (fun H2 g2 f2 => ?_)
        exact s_ret v_c (k _ g2 (fi.trans f2))

theorem sc_heard : FnScope ["person", "letter"] ["person", "letter"] (defScope s_heard) := ⟨rfl, rfl, rfl, by decide +kernel, rfl, by decide +kernel, by decide +kernel⟩
theorem cal_heard (T : Tx K mg) : Cal P w K mg base 1 "heard" ["person", "letter"] (spHeard (He.ga K "Machine") (He.ga K "Person")) := by
  refine cal_mk T 30 30 rfl rfl sc_heard (fun _ _ _ _ _ _ us hl => match us, hl with | [_, _], _ => rfl) (fun vs H Q E h => ?_) (fun f cdv A outer s H vs Q E hr h => ?_)
  · obtain ⟨A, P, l, rfl, h, k⟩ := h
    rfl
  · obtain ⟨A, P, l, rfl, h, k⟩ := h
    have M := T.mt
    have U := T.pt
    refine ⟨_, (C8.pss_cut (ps_if (pt_cmpR op_lt (pe_callB call_len_seq (by rfl) (T.free 50) PySem.boot_len (pa_cons (pe_fld (pv 0) rfl) pa_nil)) (pe_globI (by rfl) (T.int 116)) (nomark _)) (pss_one (ps_expr (pe_bm PySem.F.plainAttrs_list PySem.F.slot_list_append PySem.F.type_list_append mt_append (pe_fld (pv 0) rfl) (pa_cons (pv 1) pa_nil)))) (pss_one (ps_fld (pv 0) (pe_op op_add (pe_fld (pv 0) rfl) pe_int) rfl))) (pss_one (ps_if (pt_cmpR op_eq (pe_fld (pv 0) rfl) pe_str (nomark _)) (pss_one (ps_fld (pv 0) pe_str rfl)) pss_nil))), ?_⟩
    unfold heardP at k
    refine q_rel (fun σ' H' => σ' = [some (.ref A.p), some (.int l)] ∧ PAt (He.ga K "Machine") (He.ga K "Person") H' A (if P.inbox.length < 16 then { P with inbox := P.inbox ++ [l] } else { P with lost := P.lost + 1 }) ∧ Fr A.foot H H') ?_ ?_
    · refine s_if (a_t (v_lt (v_lenI (vp_inbox U h (v_var rfl)) h.hi) v_c)) (fun h1 => ?_) (fun h1 => ?_)
      · have g := of_decide_eq_true h1
        rw [if_pos (by omega)]
        refine sx_drop (x_append (vp_inbox U h (v_var rfl)) h.hi (by rw [List.length_map]; omega) (v_var rfl) ?_)
        rw [show P.inbox.map V.int ++ [V.int l] = (P.inbox ++ [l]).map V.int by simp]
        exact ⟨rfl, h.setI _, Fr.upd (PAt.fp A).2.2.2.1⟩
      · have g := of_decide_eq_false h1
        rw [if_neg (by omega)]
        exact sp_lost U h (v_add (vp_lost U h (v_var rfl)) v_c) (v_var rfl) (fun H1 g1 f1 => ⟨rfl, g1, f1⟩)
    rintro _ H1 ⟨rfl, g1, f1⟩
    generalize (if P.inbox.length < 16 then { P with inbox := P.inbox ++ [l] } else { P with lost := P.lost + 1 } : Pn) = P1 at g1 k
    unfold wakeP at k
    refine s_if (a_t (v_eqS (vp_state U g1 (v_var rfl)) v_c)) (fun h1 => ?_) (fun h1 => ?_)
    · rw [if_pos (of_decide_eq_true h1)] at k
      exact sp_state U g1 v_c (v_var rfl) (fun H2 g2 f2 => k _ g2 (f1.trans f2))
    · rw [if_neg (of_decide_eq_false h1)] at k
      exact s_next (k _ g1 f1)

theorem sc_ticked : FnScope ["person"] ["person"] (defScope s_ticked) := ⟨rfl, rfl, rfl, by decide +kernel, rfl, by decide +kernel, by decide +kernel⟩
theorem cal_ticked (T : Tx K mg) : Cal P w K mg base 1 "ticked" ["person"] (spPre (He.ga K "Machine") (He.ga K "Person") Short tickedP) := by
  refine cal_mk T 31 31 rfl rfl sc_ticked (fun _ _ _ _ _ _ us hl => match us, hl with | [_], _ => rfl) (fun vs H Q E h => ?_) (fun f cdv A outer s H vs Q E hr h => ?_)
  · obtain ⟨A, P, rfl, h, hl, k⟩ := h
    rfl
  · obtain ⟨A, P, rfl, h, hl, k⟩ := h
    have M := T.mt
    have U := T.pt
    refine ⟨_, (C8.pss_cut (ps_if (pt_truth (pe_fld (pv 0) rfl) (by intro _; rfl)) (pss_cons (ps_expr (pe_bm PySem.F.plainAttrs_list PySem.F.slot_list_append PySem.F.type_list_append mt_append (pe_fld (pv 0) rfl) (pa_cons (pe_bm PySem.F.plainAttrs_list PySem.F.slot_list_pop PySem.F.type_list_pop mt_popAt (pe_fld (pv 0) rfl) (pa_cons pe_int pa_nil)) pa_nil))) (pss_one (ps_if (pt_cmpR op_eq (pe_fld (pv 0) rfl) pe_str (nomark _)) (pss_one (ps_fld (pv 0) pe_str rfl)) pss_nil))) pss_nil) (pss_one (ps_if (pt_cmpR op_eq (pe_fld (pv 0) rfl) pe_str (nomark _)) (pss_cons (ps_fld (pv 0) (pe_op op_sub (pe_fld (pv 0) rfl) pe_int) rfl) (pss_one (ps_if (pt_cmpR op_eq (pe_fld (pv 0) rfl) pe_int (nomark _)) (pss_one (ps_fld (pv 0) pe_str rfl)) pss_nil))) pss_nil))), ?_⟩
    unfold tickedP at k
    refine q_rel (fun σ' H' => σ' = [some (.ref A.p)] ∧ PAt (He.ga K "Machine") (He.ga K "Person") H' A (tick1P P) ∧ Fr A.foot H H') ?_ ?_
    · refine s_if (a_truL (vp_outbox U h (v_var rfl)) h.ho) (fun h1 => ?_) (fun h1 => ?_)
      · cases hx : P.outbox with
        | nil => rw [hx] at h1; cases h1
        | cons x r =>
          have ho := h.ho
          rw [hx, List.map_cons] at ho
          have et : tick1P P = wakeP { P with outbox := r, paper := P.paper ++ [x] } "says" := by unfold tick1P; rw [hx]
          rw [et]
          refine qx_drop (x_appendX (vp_paper U h (v_var rfl)) h.hq (x_pop0 (vp_outbox U h (v_var rfl)) ho v_c ?_))
          have h2 := h.setO r
          refine ⟨A.pp, _, V.int x, rfl, rfl, h2.hq, lt_line (by rw [List.length_map]; unfold Short at hl; show P.paper.length < _; omega), ?_⟩
          rw [show P.paper.map V.int ++ [V.int x] = (P.paper ++ [x]).map V.int by simp]
          have h3 := h2.setQ (P.paper ++ [x])
          have f3 : Fr A.foot H (upd (upd H A.ob (.lst (r.map V.int))) A.pp (.lst ((P.paper ++ [x]).map V.int))) := (Fr.upd (PAt.fp A).2.2.2.2.1).trans (Fr.upd (PAt.fp A).2.2.2.2.2.1)
          unfold wakeP
          refine s_if (a_t (v_eqS (vp_state U h3 (v_var rfl)) v_c)) (fun h1 => ?_) (fun h1 => ?_)
          · rw [if_pos (of_decide_eq_true h1)]
            exact sp_state U h3 v_c (v_var rfl) (fun H2 g2 f2 => ⟨rfl, g2, f3.trans f2⟩)
          · rw [if_neg (of_decide_eq_false h1)]
            exact s_next ⟨rfl, h3, f3⟩
      · have e : P.outbox = [] := by cases hx : P.outbox with
          | nil => rfl
          | cons x r => rw [hx] at h1; cases h1
        have et : tick1P P = P := by unfold tick1P; rw [e]
        rw [et]
        exact s_next ⟨rfl, h, Fr.refl⟩
    rintro _ H1 ⟨rfl, g1, f1⟩
    generalize tick1P P = P1 at g1 k
    unfold tick2P at k
    refine s_if (a_t (v_eqS (vp_state U g1 (v_var rfl)) v_c)) (fun h1 => ?_) (fun h1 => ?_)
    · rw [if_pos (of_decide_eq_true h1)] at k
      refine qp_nap U g1 (v_sub (vp_nap U g1 (v_var rfl)) v_c) (v_var rfl) (fun H2 g2 f2 => ?_)
      refine s_if (a_t (v_eqI (vp_nap U g2 (v_var rfl)) v_c)) (fun h2 => ?_) (fun h2 => ?_)
      · rw [if_pos (of_decide_eq_true h2)] at k
        exact sp_state U g2 v_c (v_var rfl) (fun H3 g3 f3 => k _ g3 ((f1.trans f2).trans f3))
      · rw [if_neg (of_decide_eq_false h2)] at k
        exact s_next (k _ g2 (f1.trans f2))
    · rw [if_neg (of_decide_eq_false h1)] at k
      exact s_next (k _ g1 f1)

theorem sc_ask : FnScope ["person", "place"] ["person", "place"] (defScope s_ask) := ⟨rfl, rfl, rfl, by decide +kernel, rfl, by decide +kernel, by decide +kernel⟩
theorem cal_ask (T : Tx K mg) : Cal P w K mg base 3 "ask" ["person", "place"] (spAsk (He.ga K "Machine") (He.ga K "Person")) := by
  refine cal_mk T 29 29 rfl rfl sc_ask (fun _ _ _ _ _ _ us hl => match us, hl with | [_, _], _ => rfl) (fun vs H Q E h => ?_) (fun f cdv A outer s H vs Q E hr h => ?_)
  · obtain ⟨A, P, p, rfl, h, w, k⟩ := h
    rfl
  · obtain ⟨A, P, p, rfl, h, w, k⟩ := h
    have M := T.mt
    have U := T.pt
    refine ⟨_, (pss_one (ps_if (PW.pt (pw_or (PW.pt (pw_and (pt_cmpR op_eq (pv 1) pe_int (nomark _)) (pw_and1 (pt_truth (pe_fld (pv 0) rfl) (by intro _; rfl))))) (pw_or1 (PW.pt (pw_and (pt_cmpR op_eq (pv 1) pe_int (nomark _)) (pw_and1 (pt_cmpR op_lt (pe_callB call_len_seq (by rfl) (T.free 50) PySem.boot_len (pa_cons (pe_fld (pv 0) rfl) pa_nil)) (pe_globI (by rfl) (T.int 116)) (nomark _)))))))) (pss_one (ps_expr (pe_cal (cal_skip (K := K) T) hr (by decide) rfl (pa_cons (pe_fld (pv 0) rfl) pa_nil)))) (pss_one (ps_if (pt_cmpR op_eq (pv 1) pe_int (nomark _)) (pss_one (ps_expr (pe_cal (cal_hear (K := K) T) hr (by decide) rfl (pa_cons (pv 0) pa_nil)))) (pss_one (ps_if (pt_cmpR op_eq (pv 1) pe_int (nomark _)) (pss_one (ps_expr (pe_cal (cal_say (K := K) T) hr (by decide) rfl (pa_cons (pv 0) pa_nil)))) (pss_one (ps_if (pt_cmpR op_eq (pv 1) pe_int (nomark _)) (pss_one (ps_expr (pe_cal (cal_doze (K := K) T) hr (by decide) rfl (pa_cons (pv 0) pa_nil)))) (pss_one (ps_if (PW.pt (pw_or (pt_cmpR op_eq (pv 1) pe_int (nomark _)) (pw_or1 (pt_cmpR op_eq (pv 1) pe_int (nomark _))))) (pss_one (ps_expr (pe_cal (cal_carry (K := K) T) hr (by decide) rfl (pa_cons (pv 0) (pa_cons (pe_cmpR op_eq (pv 1) pe_int (nomark _)) pa_nil))))) (pss_one (ps_if (pt_cmpR op_eq (pv 1) pe_int (nomark _)) (pss_one (ps_fld (pv 0) pe_str rfl)) (pss_one (ps_if (pt_cmpR op_eq (pv 1) pe_int (nomark _)) (pss_one (ps_fld (pe_fld (pv 0) rfl) (pe_fld (pv 0) rfl) rfl)) pss_nil)))))))))))))), ?_⟩
    unfold askP at k
    refine s_if (a_or (a_and (a_t (v_eqI (v_var rfl) v_c)) (fun _ => a_truL (vp_inbox U h (v_var rfl)) h.hi)) (fun _ => a_and (a_t (v_eqI (v_var rfl) v_c)) (fun _ => a_t (v_lt (v_lenI (vp_outbox U h (v_var rfl)) h.ho) v_c)))) (fun h1 => ?_) (fun h1 => ?_)
    · have e : ((decide (p = 0) && !P.inbox.isEmpty) || (decide (p = 2) && decide (P.outbox.length < 16))) = true := by
        rw [← h1]; congr 2
        exact decide_eq_decide.mpr (by omega)
      rw [if_pos e] at k
      refine s_do (va_cons (vp_machine U h (v_var rfl)) va_nil) ⟨H, A.m, A.dm, A.c, P.m, rfl, h.eqm, ?_⟩
      obtain ⟨g1, f1⟩ := h.setM (Same.refl H) (skipM P.m)
      exact k _ g1 f1
    have e : ¬ ((decide (p = 0) && !P.inbox.isEmpty) || (decide (p = 2) && decide (P.outbox.length < 16))) = true := by
      intro z
      rw [show decide (P.outbox.length < 16) = decide ((P.outbox.length : Int) < 16) from decide_eq_decide.mpr (by omega)] at z
      exact Bool.false_ne_true (h1.symm.trans z)
    rw [if_neg e] at k
    refine s_if (a_t (v_eqI (v_var rfl) v_c)) (fun c => ?_) (fun c => ?_)
    · rw [if_pos (of_decide_eq_true c)] at k
      exact s_do (va_cons (v_var rfl) va_nil) ⟨A, P, rfl, h, trivial, k⟩
    rw [if_neg (of_decide_eq_false c)] at k
    refine s_if (a_t (v_eqI (v_var rfl) v_c)) (fun c => ?_) (fun c => ?_)
    · rw [if_pos (of_decide_eq_true c)] at k
      exact s_do (va_cons (v_var rfl) va_nil) ⟨A, P, rfl, h, (by have := w.ob; show P.outbox.length < _; omega), k⟩
    rw [if_neg (of_decide_eq_false c)] at k
    refine s_if (a_t (v_eqI (v_var rfl) v_c)) (fun c => ?_) (fun c => ?_)
    · rw [if_pos (of_decide_eq_true c)] at k
      exact s_do (va_cons (v_var rfl) va_nil) ⟨A, P, rfl, h, trivial, k⟩
    rw [if_neg (of_decide_eq_false c)] at k
    refine s_if (a_or (a_t (v_eqI (v_var rfl) v_c)) (fun _ => a_t (v_eqI (v_var rfl) v_c))) (fun c => ?_) (fun c => ?_)
    · refine s_do (va_cons (v_var rfl) (va_cons (v_eqI (v_var rfl) v_c) va_nil)) ⟨A, P, decide (p = 5), rfl, h, w, ?_⟩
      by_cases c5 : p = 5
      · rw [if_pos c5] at k
        rw [show decide (p = 5) = true from decide_eq_true c5]
        exact k
      · have c6 : p = 6 := by simp [c5] at c; exact c
        rw [if_neg c5, if_pos c6] at k
        rw [show decide (p = 5) = false from decide_eq_false c5]
        exact k
    have c5 : ¬ p = 5 := fun e => by rw [e] at c; cases c
    have c6 : ¬ p = 6 := fun e => by rw [e] at c; cases c
    rw [if_neg c5, if_neg c6] at k
    refine s_if (a_t (v_eqI (v_var rfl) v_c)) (fun c => ?_) (fun c => ?_)
    · rw [if_pos (of_decide_eq_true c)] at k
      exact sp_state U h v_c (v_var rfl) k
    rw [if_neg (of_decide_eq_false c)] at k
    refine s_if (a_t (v_eqI (v_var rfl) v_c)) (fun c => ?_) (fun c => ?_)
    · rw [if_pos (of_decide_eq_true c)] at k
      exact sp_total M h (vp_switches U h (v_var rfl)) (vp_machine U h (v_var rfl)) k
    rw [if_neg (of_decide_eq_false c)] at k
    exact s_next (k _ h Fr.refl)

theorem sc_happen : FnScope ["person", "event", "place"] ["person", "event"] (defScope s_happen) := ⟨rfl, rfl, rfl, by decide +kernel, rfl, by decide +kernel, by decide +kernel⟩
theorem cal_happen (T : Tx K mg) : Cal P w K mg base 4 "happen" ["person", "event"] (spHappen K (He.ga K "Machine") (He.ga K "Person")) := by
  refine cal_mk T 32 32 rfl rfl sc_happen (fun _ _ _ _ _ _ us hl => match us, hl with | [_, _], _ => rfl) (fun vs H Q E h => ?_) (fun f cdv A outer s H vs Q E hr h => ?_)
  · obtain ⟨A, P, a, e, rfl, h, w, hs, hE, k⟩ := h
    rfl
  · obtain ⟨A, P, a, e, rfl, h, w, hs, hE, k⟩ := h
    have M := T.mt
    have U := T.pt
    refine ⟨_, (pss_one (ps_if (pt_cmpR op_eq (pe_ix ix_tup (pv 1) pe_int (fun _ _ => rfl)) pe_str (nomark _)) (pss_one (ps_expr (pe_cal (cal_heard (K := K) T) hr (by decide) rfl (pa_cons (pv 0) (pa_cons (pe_ix ix_tup (pv 1) pe_int (fun _ _ => rfl)) pa_nil))))) (pss_one (ps_if (pt_cmpR op_eq (pe_ix ix_tup (pv 1) pe_int (fun _ _ => rfl)) pe_str (nomark _)) (pss_one (ps_expr (pe_cal (cal_ticked (K := K) T) hr (by decide) rfl (pa_cons (pv 0) pa_nil)))) (pss_one (ps_if (pt_cmpR op_eq (pe_ix ix_tup (pv 1) pe_int (fun _ _ => rfl)) pe_str (nomark _)) (pss_one (ps_if (pt_cmpR op_eq (pe_fld (pv 0) rfl) pe_str (nomark _)) (pss_cons (ps_fld (pv 0) pe_str rfl) (pss_one (ps_fld (pe_fld (pv 0) rfl) (pe_ix ix_tup (pv 1) pe_int (fun _ _ => rfl)) rfl))) pss_nil)) (pss_one (ps_if (pt_cmpR op_eq (pe_fld (pv 0) rfl) pe_str (nomark _)) (pss_cons (ps_fld (pv 0) (pe_op op_add (pe_fld (pv 0) rfl) pe_int) rfl) (pss_cons (ps_set (i := 2) sc_happen.nd rfl (Or.inl rfl) (pe_cal (cal_deed (K := K) T) hr (by decide) rfl (pa_cons (pe_fld (pv 0) rfl) pa_nil))) (pss_one (ps_if (pt_cmpR op_notN1 (pv 2) pe_non (nomark _)) (pss_one (ps_expr (pe_cal (cal_ask (K := K) T) hr (by decide) rfl (pa_cons (pv 0) (pa_cons (pv 2) pa_nil))))) pss_nil)))) pss_nil)))))))), ?_⟩
    cases e with
    | key l =>
      refine s_ifT (a_t (v_eqS (v_ixT (v_var rfl) v_c hE (by decide) rfl) v_c)) (by decide) ?_
      exact s_do (va_cons (v_var rfl) (va_cons (v_ixT (v_var rfl) v_c hE (by decide) rfl) va_nil)) ⟨A, P, l, rfl, h, k⟩
    | tick =>
      refine s_ifF (a_t (v_eqS (v_ixT (v_var rfl) v_c hE (by decide) rfl) v_c)) (by decide) ?_
      refine s_ifT (a_t (v_eqS (v_ixT (v_var rfl) v_c hE (by decide) rfl) v_c)) (by decide) ?_
      exact s_do (va_cons (v_var rfl) va_nil) ⟨A, P, rfl, h, hs, k⟩
    | start p =>
      refine s_ifF (a_t (v_eqS (v_ixT (v_var rfl) v_c hE (by decide) rfl) v_c)) (by decide) ?_
      refine s_ifF (a_t (v_eqS (v_ixT (v_var rfl) v_c hE (by decide) rfl) v_c)) (by decide) ?_
      refine s_ifT (a_t (v_eqS (v_ixT (v_var rfl) v_c hE (by decide) rfl) v_c)) (by decide) ?_
      dsimp only [happenP] at k
      refine s_if (a_t (v_eqS (vp_state U h (v_var rfl)) v_c)) (fun c => ?_) (fun c => ?_)
      · rw [if_pos (of_decide_eq_true c)] at k
        refine qp_state U h v_c (v_var rfl) (fun H1 h1 f1 => ?_)
        have hE1 := h.tup f1 hE
        refine sp_at M h1 (v_ixT (v_var rfl) v_c hE1 (by decide) rfl) (vp_machine U h1 (v_var rfl)) (fun H2 h2 f2 => ?_)
        exact k _ h2 (f1.trans f2)
      · rw [if_neg (of_decide_eq_false c)] at k
        exact s_next (k _ h Fr.refl)
    | step =>
      refine s_ifF (a_t (v_eqS (v_ixT (v_var rfl) v_c hE (by decide) rfl) v_c)) (by decide) ?_
      refine s_ifF (a_t (v_eqS (v_ixT (v_var rfl) v_c hE (by decide) rfl) v_c)) (by decide) ?_
      refine s_ifF (a_t (v_eqS (v_ixT (v_var rfl) v_c hE (by decide) rfl) v_c)) (by decide) ?_
      dsimp only [happenP] at k
      refine s_if (a_t (v_eqS (vp_state U h (v_var rfl)) v_c)) (fun c => ?_) (fun c => ?_)
      · rw [if_pos (of_decide_eq_true c)] at k
        refine qp_done U h (v_add (vp_done U h (v_var rfl)) v_c) (v_var rfl) (fun H1 h1 f1 => ?_)
        refine q_setc (va_cons (vp_machine U h1 (v_var rfl)) va_nil) ⟨H1, A.m, A.dm, A.c, P.m, rfl, h1.ne.mc.symm, w.wm.toWm, h1.eqm, fun H2 sm => ?_⟩
        obtain ⟨g2, f2⟩ := h1.setM sm (deedM P.m)
        generalize mput _ H2 A.m A.dm A.c (deedM P.m) = H3 at g2 f2 ⊢
        unfold stepP at k
        dsimp only at k
        unfold deedV
        by_cases c6 : getC P.m P.m.pc / 128 = 6
        · rw [if_pos c6] at k
          rw [if_pos c6]
          refine s_ifT (a_t (v_notN (v_var rfl) v_c)) (by rfl) ?_
          exact s_do (va_cons (v_var rfl) (va_cons (v_var rfl) va_nil)) ⟨A, _, _, rfl, g2, ⟨wf_deed w.wm, w.ib, w.ibl, w.ob, w.bk, w.bkl, w.sw0, w.sw1⟩, fun H4 h4 f4 => k _ h4 ((f1.trans f2).trans f4)⟩
        · rw [if_neg c6] at k
          rw [if_neg c6]
          refine s_ifF0 (a_t (v_notN (v_var rfl) v_c)) (by rfl) ?_
          exact k _ g2 (f1.trans f2)
      · rw [if_neg (of_decide_eq_false c)] at k
        exact s_next (k _ h Fr.refl)

theorem sc_Person___init__ : FnScope ["self", "cells", "switches", "b", "k"] ["self", "cells", "switches"] (defScope s_Person___init__) := ⟨rfl, rfl, rfl, by decide +kernel, rfl, by decide +kernel, by decide +kernel⟩
theorem cal_Person (T : Tx K mg) : CalC P w K mg base 3 "Person" ["self", "cells", "switches"] (spPerson K (He.ga K "Machine") (He.ga K "Person")) := by
  refine calC_mk T 52 73 75 rfl rfl rfl sc_Person___init__ (fun _ _ _ _ _ _ us hl => match us, hl with | [_, _, _], _ => rfl) (fun vs H Q E h => ?_) (fun f cdv A outer s H vs Q E hr h => ?_)
  · obtain ⟨p, dp, a, cs, sw, rfl, hp, hs, k⟩ := h
    rfl
  · obtain ⟨p, dp, a, cs, sw, rfl, hp, hs, k⟩ := h
    have M := T.mt
    have U := T.pt
    refine ⟨_, (pss_cons (ps_fld (pv 0) (show PE _ _ (tMake (He.ga K "Machine") _ [] E0 _) from pe_new (cal_Machine (K := K) T) hr (by decide) rfl (pa_cons (pv 1) (pa_cons pe_int (pa_cons pe_int (pa_cons pe_int pa_nil))))) rfl) (pss_cons (ps_fld (pv 0) (pe_lst pa_nil) rfl) (pss_cons (ps_fld (pv 0) (pe_lst pa_nil) rfl) (pss_cons (ps_fld (pv 0) (pe_lst pa_nil) rfl) (pss_cons (ps_fld (pv 0) (pe_lc (own := [("b", 3)]) (g := gName 3) (tt := tYes) (by rfl) sc_Person___init__.nd (pi_range1 (by rfl) (T.free 52) (pa_cons pe_int pa_nil)) (blkOk_by (own := [("b", 3)]) (N := ["self", "cells", "switches", "b", "k"]) (sc := defScope s_Person___init__) (by decide +kernel)) (fun _ _ _ _ _ => pg_name (i := 3) sc_Person___init__.nd rfl (Or.inl rfl)) (fun _ _ _ _ _ => pts_nil) (fun _ _ _ _ _ => (pe_lc (own := [("k", 4)]) (g := gName 4) (tt := tYes) (by rfl) sc_Person___init__.nd (pi_range1 (by rfl) (T.free 52) (pa_cons pe_int pa_nil)) (blkOk_by (own := [("k", 4)]) (N := ["self", "cells", "switches", "b", "k"]) (sc := { kind := .function, names := [(".0", .local), ("b", .local), ("range", .globalImplicit)], isGenerator := false, isCoroutine := false }) (by decide +kernel)) (fun _ _ _ _ _ => pg_name (i := 4) sc_Person___init__.nd rfl (Or.inl rfl)) (fun _ _ _ _ _ => pts_nil) (fun _ _ _ _ _ => pe_int)))) rfl) (pss_cons (ps_fld (pv 0) (pv 2) rfl) (pss_cons (ps_fld (pv 0) pe_str rfl) (pss_cons (ps_fld (pv 0) pe_int rfl) (pss_cons (ps_fld (pv 0) pe_int rfl) (pss_one (ps_fld (pv 0) pe_int rfl))))))))))), ?_⟩
    have i0 : Ins K (He.ga K "Person") p dp [] H := ⟨U.cl, hp⟩
    refine q_fldM (va_cons (v_var rfl) (va_cons v_c (va_cons v_c (va_cons v_c va_nil)))) hs (fun _ => v_var rfl) i0 U.nMachine (by show 0 < 1000; decide) (fun x dx l H1 hx hl nlx nxp nlp ex el i1 f1 => ?_)
    refine q_fldN (nl_disp va_nil) (fun _ => v_var rfl) i1 U.nInbox (by show 1 < 1000; decide) (fun ib H2 hib nib eib i2 f2 => ?_)
    refine q_fldN (nl_disp va_nil) (fun _ => v_var rfl) i2 U.nOutbox (by show 2 < 1000; decide) (fun ob H3 hob nob eob i3 f3 => ?_)
    refine q_fldN (nl_disp va_nil) (fun _ => v_var rfl) i3 U.nPaper (by show 3 < 1000; decide) (fun pb H4 hpb npb epb i4 f4 => ?_)
    refine q_fldR (rows := (List.replicate 4 (List.replicate 16 (V.int 0)))) (nr_range (va_cons v_c va_nil) (by decide) rfl (fun _ => rfl) (fun m r H' _ hr => by
        have e : r = (List.range (16 : Int).toNat).map (fun _ => V.int 0) := by
          have := List.mem_of_getElem? hr
          simp at this
          rw [this]; rfl
        rw [e]
        exact nl_lcR (fun _ => V.int 0) (va_cons v_c va_nil) ⟨by decide, by decide⟩ (fun _ => rfl) (fun i D acc hD hi => v_c))) (fun _ => v_var rfl) i4 U.nBlocks (by show 4 < 1000; decide) (fun bb as H5 hbb nbb las ebb eas i5 f5 => ?_)
    refine q_fldV (v_var rfl) (v_var rfl) i5 U.nSwitches (by show 5 < 1000; decide) (fun H6 i6 f6 => ?_)
    refine q_fldV v_c (v_var rfl) i6 U.nState (by show 6 < 1000; decide) (fun H7 i7 f7 => ?_)
    refine q_fldV v_c (v_var rfl) i7 U.nNap (by show 7 < 1000; decide) (fun H8 i8 f8 => ?_)
    refine q_fldV v_c (v_var rfl) i8 U.nLost (by show 8 < 1000; decide) (fun H9 i9 f9 => ?_)
    refine s_fldV v_c (v_var rfl) i9 U.nDone (by show 9 < 1000; decide) (fun H10 i10 f10 => ?_)
    have ndB := nbb
    have ndQ : (pb :: bb :: as).Nodup := nd_more (H := H4) epb (fun c hc => hbb c hc) ndB
    have hQ : ∀ c ∈ pb :: bb :: as, H3 c = none := fun c hc => by
      rcases List.mem_cons.mp hc with h1 | h1
      · rw [h1]; exact hpb
      · exact f4.free i4 (hbb c h1)
    have ndO : (ob :: pb :: bb :: as).Nodup := nd_more (H := H3) eob hQ ndQ
    have hO : ∀ c ∈ ob :: pb :: bb :: as, H2 c = none := fun c hc => by
      rcases List.mem_cons.mp hc with h1 | h1
      · rw [h1]; exact hob
      · exact f3.free i3 (hQ c h1)
    have ndI : (ib :: ob :: pb :: bb :: as).Nodup := nd_more (H := H2) eib hO ndO
    have hI : ∀ c ∈ ib :: ob :: pb :: bb :: as, H1 c = none := fun c hc => by
      rcases List.mem_cons.mp hc with h1 | h1
      · rw [h1]; exact hib
      · exact f2.free i2 (hO c h1)
    have ndL : (l :: ib :: ob :: pb :: bb :: as).Nodup := nd_more (H := H1) el hI ndI
    have ndX : (x :: l :: ib :: ob :: pb :: bb :: as).Nodup := List.nodup_cons.mpr ⟨fun hm => (by
      rcases List.mem_cons.mp hm with h1 | h1
      · exact nlx h1.symm
      · rw [hI x h1] at ex; cases ex), ndL⟩
    have hX : ∀ c ∈ x :: l :: ib :: ob :: pb :: bb :: as, H c = none := fun c hc => by
      rcases List.mem_cons.mp hc with h1 | h1
      · rw [h1]; exact hx
      rcases List.mem_cons.mp h1 with h2 | h2
      · rw [h2]; exact hl
      · exact f1.free i1 (hI c h2)
    have ndP : (p :: x :: l :: ib :: ob :: pb :: bb :: as).Nodup := nd_more (H := H) i0.at_ hX ndX
    have nbs : ∀ b ∈ as, b ≠ p := fun b hb e => (List.nodup_cons.mp ndP).1 (e ▸ (by simp [hb]))
    have nbp : bb ≠ p := fun e => (List.nodup_cons.mp ndP).1 (e ▸ (by simp))
    have eR := ((((f6.trans f7).trans f8).trans f9).trans f10).rowsAt eas nbs
    have hA : PAt (He.ga K "Machine") (He.ga K "Person") H10 ⟨p, dp, x, dx, l, ib, ob, pb, bb, as⟩ (newP cs sw) := ⟨(i10.at_).trans (congrArg (fun z => some (HO.ins (He.ga K "Person") dp z)) (by kernel_rfl)), ((((((((f2.trans f3).trans f4).trans f5).trans f6).trans f7).trans f8).trans f9).trans f10).one nxp ex, ((((((((f2.trans f3).trans f4).trans f5).trans f6).trans f7).trans f8).trans f9).trans f10).one nlp el, (((((((f3.trans f4).trans f5).trans f6).trans f7).trans f8).trans f9).trans f10).one nib eib, ((((((f4.trans f5).trans f6).trans f7).trans f8).trans f9).trans f10).one nob eob, (((((f5.trans f6).trans f7).trans f8).trans f9).trans f10).one npb epb, ((((f6.trans f7).trans f8).trans f9).trans f10).one nbp ebb, fun i b hb => (by
      obtain ⟨r, e1, e2⟩ := eR i b hb
      have e3 := List.mem_of_getElem? e1
      have hi4 : i < 4 := by have := (List.getElem?_eq_some_iff.mp e1).1; simpa using this
      simp at e3
      exact ⟨List.replicate 16 0, by show (List.replicate 4 (List.replicate 16 (0 : Int)))[i]? = _; rw [List.getElem?_replicate, if_pos hi4], by rw [e2, e3]; rfl⟩), las.trans rfl, ndP⟩
    exact k ⟨p, dp, x, dx, l, ib, ob, pb, bb, as⟩ _ rfl rfl (fun b hb => (List.mem_cons.mp hb).imp id (fun h1 => hX b h1)) hA (((((((((f1.trans f2).trans f3).trans f4).trans f5).trans f6).trans f7).trans f8).trans f9).trans f10)

theorem sc_picture : FnScope ["person", "machine", "blocks", "rows", "rest", "block"] ["person"] (defScope s_picture) := ⟨rfl, rfl, rfl, by decide +kernel, rfl, by decide +kernel, by decide +kernel⟩
theorem cal_picture (T : Tx K mg) : Cal P w K mg base 1 "picture" ["person"] (spPicture K (He.ga K "Machine") (He.ga K "Person")) := by
  refine cal_mk T 33 33 rfl rfl sc_picture (fun _ _ _ _ _ _ us hl => match us, hl with | [_], _ => rfl) (fun vs H Q E h => ?_) (fun f cdv A outer s H vs Q E hr h => ?_)
  · obtain ⟨A, P, rfl, h, hl4, k⟩ := h
    rfl
  · obtain ⟨A, P, rfl, h, hl4, k⟩ := h
    have M := T.mt
    have U := T.pt
    refine ⟨_, (pss_cons (ps_set (i := 1) sc_picture.nd rfl (Or.inl rfl) (pe_fld (pv 0) rfl)) (pss_cons (ps_set (i := 2) sc_picture.nd rfl (Or.inl rfl) (pe_callTy call_tuple_of (by rfl) (T.free 53) (by decide +kernel) (pa_cons (pe_lc (own := [("block", 5)]) (g := gName 5) (tt := tYes) (by rfl) sc_picture.nd (pi_list (pe_fld (pv 0) rfl)) (blkOk_by (own := [("block", 5)]) (N := ["person", "machine", "blocks", "rows", "rest", "block"]) (sc := defScope s_picture) (by decide +kernel)) (fun _ _ _ _ _ => pg_name (i := 5) sc_picture.nd rfl (Or.inl rfl)) (fun _ _ _ _ _ => pts_nil) (fun _ _ _ _ _ => (pe_callTy (show CallR _ _ (rTupOf K) from call_tuple_of) (by rfl) (T.free 53) (by decide +kernel) (pa_cons (pv 5) pa_nil)))) pa_nil))) (pss_cons (ps_set (i := 3) sc_picture.nd rfl (Or.inl rfl) (pe_tup (pa_cons (pe_callTy call_tuple_of (by rfl) (T.free 53) (by decide +kernel) (pa_cons (pe_fld (pv 0) rfl) pa_nil)) (pa_cons (pe_callTy call_tuple_of (by rfl) (T.free 53) (by decide +kernel) (pa_cons (pe_fld (pv 0) rfl) pa_nil)) (pa_cons (pe_callTy call_tuple_of (by rfl) (T.free 53) (by decide +kernel) (pa_cons (pe_fld (pv 0) rfl) pa_nil)) (pa_cons (pv 2) pa_nil)))))) (pss_cons (ps_set (i := 4) sc_picture.nd rfl (Or.inl rfl) (pe_tup (pa_cons (pe_fld (pv 0) rfl) (pa_cons (pe_fld (pv 0) rfl) (pa_cons (pe_fld (pv 0) rfl) (pa_cons (pe_fld (pv 0) rfl) (pa_cons (pe_fld (pv 0) rfl) pa_nil))))))) (pss_one (ps_ret (pe_op op_catT (pe_op op_catT (pe_tup (pa_cons (pe_callTy call_tuple_of (by rfl) (T.free 53) (by decide +kernel) (pa_cons (pe_fld (pv 1) rfl) pa_nil)) (pa_cons (pe_fld (pv 1) rfl) (pa_cons (pe_fld (pv 1) rfl) (pa_cons (pe_fld (pv 1) rfl) pa_nil))))) (pv 3)) (pv 4)))))))), ?_⟩
    refine q_set (vp_machine U h (v_var rfl)) ?_
    refine qx_set (x_tupX (nr_list (mk := HO.tup) (rows := P.blocks.map fun b => b.map V.int) (vp_blocks U h (v_var rfl)) (SqL.of h.hb) (by rw [List.length_map]; have := h.len; omega) (by rw [List.length_map, List.length_map, h.len]; exact hl4) (fun _ => rfl) (fun m x r H' sm hm hr => ?_) _ (fun D as H1 sm1 hD0 has nd las hD rows => ⟨D, as.map V.ref, rfl, .inl ⟨SqL.of hD, fun T7 hT7 => ?_⟩⟩)))
    · rw [List.getElem?_map] at hm
      obtain ⟨b, hb, rfl⟩ := Option.map_eq_some_iff.mp hm
      obtain ⟨ws, w1, w2⟩ := h.hbs m b hb
      rw [List.getElem?_map, w1] at hr
      cases hr
      exact no_tupL (v_var rfl) (SqL.of (sm _ _ w2))
    try dsimp only
    have sm2 : Same H (upd H1 T7 (.tup (as.map V.ref))) := sm1.trans (smN hT7)
    have e7 : upd H1 T7 (.tup (as.map V.ref)) T7 = some (.tup (as.map V.ref)) := upd_same
    have r7 : RowsAt HO.tup (upd H1 T7 (.tup (as.map V.ref))) as (P.blocks.map fun b => b.map V.int) := fun i b hb => by
      obtain ⟨r, e1, e2⟩ := rows i b hb
      exact ⟨r, e1, smN hT7 _ _ e2⟩
    generalize upd H1 T7 (.tup (as.map V.ref)) = H2 at sm2 e7 r7 ⊢
    have h2 := h.same sm2
    refine qx_set (xt_tup (xa_cons (x_tupL (vp_inbox U h2 (v_var rfl)) (SqL.of h2.hi) (fun T4 H3 s3 e4 => xa_cons (x_tupL (vp_outbox U (h2.same s3) (v_var rfl)) (SqL.of (h2.same s3).ho) (fun T5 H4 s4 e5 => xa_cons (x_tupL (vp_paper U ((h2.same s3).same s4) (v_var rfl)) (SqL.of ((h2.same s3).same s4).hq) (fun T6 H5 s5 e6 => xa_cons (x_v (v_var rfl) (xa_nil ⟨k_line (by show 4 ≤ 1000; decide), fun R hR => ?_⟩))))))))))
    try dsimp only
    have h5 := ((h2.same s3).same s4).same s5
    have s6 := smN (o := HO.tup [.ref T4, .ref T5, .ref T6, .ref T7]) hR
    have h6 := h5.same s6
    refine q_setT (va_cons (vp_switches U h6 (v_var rfl)) (va_cons (vp_state U h6 (v_var rfl)) (va_cons (vp_nap U h6 (v_var rfl)) (va_cons (vp_lost U h6 (v_var rfl)) (va_cons (vp_done U h6 (v_var rfl)) va_nil))))) (by show 5 ≤ 100000; decide) (fun S hS => ?_)
    have s7 := smN (o := HO.tup [.int P.sw, .str P.st, .int P.nap, .int P.lost, .int P.done]) hS
    have h7 := h6.same s7
    have eR : upd (upd H5 R (.tup [.ref T4, .ref T5, .ref T6, .ref T7])) S (.tup [.int P.sw, .str P.st, .int P.nap, .int P.lost, .int P.done]) R = some (.tup [.ref T4, .ref T5, .ref T6, .ref T7]) := s7 _ _ upd_same
    have eS : upd (upd H5 R (.tup [.ref T4, .ref T5, .ref T6, .ref T7])) S (.tup [.int P.sw, .str P.st, .int P.nap, .int P.lost, .int P.done]) S = some (.tup [.int P.sw, .str P.st, .int P.nap, .int P.lost, .int P.done]) := upd_same
    generalize upd (upd H5 R (.tup [.ref T4, .ref T5, .ref T6, .ref T7])) S (.tup [.int P.sw, .str P.st, .int P.nap, .int P.lost, .int P.done]) = H7 at s7 h7 eR eS ⊢
    refine x_ret (x_op (x_op (xt_tup (xa_cons (x_tupL (vp_cells M h7 (v_var rfl)) (SqL.of h7.hc) (fun T0 H8 s8 e0 => xa_cons (x_v (vp_total M (h7.same s8) (v_var rfl)) (xa_cons (x_v (vp_mark M (h7.same s8) (v_var rfl)) (xa_cons (x_v (vp_at M (h7.same s8) (v_var rfl)) (xa_nil ⟨k_line (by show 4 ≤ 1000; decide), fun W hW => ?_⟩))))))))))))
    have s9 := smN (o := HO.tup [.ref T0, .int P.m.total, .int P.m.mark, .int P.m.pc]) hW
    refine x_v (v_var rfl) ⟨W, R, _, _, rfl, rfl, SqT.of upd_same, SqT.of (s9 _ _ (s8 _ _ eR)), by simp, k_line (by show 8 ≤ 1000; decide), fun e => (by cases e), fun _ X hX => ?_⟩
    have s10 := smN (o := HO.tup ([.ref T0, .int P.m.total, .int P.m.mark, .int P.m.pc] ++ [.ref T4, .ref T5, .ref T6, .ref T7])) hX
    refine x_v (v_var rfl) ⟨X, S, _, _, rfl, rfl, SqT.of upd_same, SqT.of (s10 _ _ (s9 _ _ (s8 _ _ eS))), by simp, k_line (by show 13 ≤ 1000; decide), fun e => (by cases e), fun _ Y hY => ?_⟩
    have s11 := smN (o := HO.tup ([.ref T0, .int P.m.total, .int P.m.mark, .int P.m.pc] ++ [.ref T4, .ref T5, .ref T6, .ref T7] ++ [.int P.sw, .str P.st, .int P.nap, .int P.lost, .int P.done])) hY
    have z8 := (s9.trans s10).trans s11
    have z5 : Same H5 _ := (s6.trans s7).trans (s8.trans z8)
    have z2 := (s3.trans (s4.trans s5)).trans z5
    refine k _ _ (sm2.trans z2) (ShotAt.dp (a0 := T0) (a4 := T4) (a5 := T5) (a6 := T6) (a7 := T7) (as := as) ⟨SqT.of upd_same, SqT.of (z8 _ _ e0), SqT.of (((s4.trans s5).trans z5) _ _ e4), SqT.of ((s5.trans z5) _ _ e5), SqT.of (z5 _ _ e6), SqT.of (z2 _ _ e7), ?_, fun i b hb => ?_⟩)
    · rw [las, List.length_map]
    · obtain ⟨r, e1, e2⟩ := r7 i b hb
      rw [List.getElem?_map] at e1
      obtain ⟨ws, w1, rfl⟩ := Option.map_eq_some_iff.mp e1
      exact ⟨ws, w1, SqT.of (z2 _ _ e2)⟩
end
/-! ### events as tuples, loops over lists that a reading gives -/
theorem cutV_from {xs : List V} {i : Nat} : cutV xs (some (i : Int)) none = xs.drop i := by
  unfold cutV
  rw [HT.sIx_nat, HT.sIx_none]
  by_cases h : i ≤ xs.length
  · rw [Nat.min_eq_left h, List.take_of_length_le (by rw [List.length_drop]; omega)]
  · rw [Nat.min_eq_right (by omega), List.drop_eq_nil_of_le (Nat.le_refl _), List.drop_eq_nil_of_le (by omega), List.take_nil]
section
variable {σ : L2.St} {H H' H1 : Hp} {K : PySem.W.Frag} {C Dp_ a b D S W : Addr} {A : PA} {P : Pn} {te to : TE} {tA : TA} {xs r : List V} {rows : List (List V)} {as : List Addr} {tb tz : TS} {N : L2.St → Hp → Prop} {R : VK} {B C' : L2.St → Hp → Prop} {k : Nat} {mk : List V → HO} {es : List Ev}
theorem RInv.same (iv : RInv mk H D rows as H') (s : Same H' H1) : RInv mk H D rows as H1 :=
  ⟨iv.sm.trans s, iv.fr, iv.nd, s _ _ iv.hd, fun i a h => by obtain ⟨r, e1, e2⟩ := iv.rw_ i a h; exact ⟨r, e1, s _ _ e2⟩⟩
theorem x_appendT {Q : VK} (ho : Val to σ H' (.ref D)) (hD : H D = none) (iv : RInv HO.tup H D rows as H') (hn : as.length < 900000) (hA : ValA tA σ H' r) (hr : rows[as.length]? = some r) (hl : r.length ≤ 1000)
    (q : ∀ b H1, RInv HO.tup H D rows (as ++ [b]) H1 → Fr [D] H' H1 → Q .non H1) : tBM K "list" rAppend to (tCons (tTup tA) tNil) σ H' Q :=
  x_appendX ho iv.hd (hA _ ⟨k_line hl, fun b hb => by
    have nDb : D ≠ b := fun e => by rw [← e, iv.hd] at hb; cases hb
    exact ⟨D, as.map V.ref, .ref b, rfl, rfl, by rw [upd_ne nDb]; exact iv.hd, lt_line (by rw [List.length_map]; omega), q b _ (rinv_step hD iv hr hb) (Fr.same1 (smN hb) (Fr.upd (by simp)))⟩⟩)
/-- a for over a new list -/
theorem q_forLN (h : NewL te σ H xs) (Pv : Addr → Nat → L2.St → Hp → Prop) (h0 : ∀ S, H S = none → Pv S 0 σ (upd H S (.lst xs))) (hl : ∀ S (i : Nat) σ' H', Pv S i σ' H' → SqL K H' S xs)
    (hs : ∀ S (i : Nat) x σ' H', xs[i]? = some x → Pv S i σ' H' → tb ⟨Pv S (i + 1), R, tz ⟨N, R, B, C'⟩, Pv S (i + 1)⟩ (σ'.set k (some x)) H') (hd : ∀ S σ' H', Pv S xs.length σ' H' → tz ⟨N, R, B, C'⟩ σ' H') : tSeq (tFor (iList K te) (gName k) tb) tz ⟨N, R, B, C'⟩ σ H :=
  h _ fun S hS => s_forL (N := tz ⟨N, R, B, C'⟩) (B := B) (C' := C') (tl := tC (.ref S)) (σ := σ) (H := upd H S (.lst xs)) v_c (SqL.of upd_same) (Pv S) (h0 S hS) (hl S) (hs S) (hd S)
/-- a for over a list by any reading -/
theorem qx_forL (h : te σ H fun v H1 => tSeq (tFor (iList K (tC v)) (gName k) tb) tz ⟨N, R, B, C'⟩ σ H1) : tSeq (tFor (iList K te) (gName k) tb) tz ⟨N, R, B, C'⟩ σ H := h
def EvsAt (K : PySem.W.Frag) (H : Hp) (D : Addr) (es : List Ev) : Prop := ∃ as : List Addr, H D = some (.lst (as.map V.ref)) ∧ as.length = es.length ∧ ∀ (i : Nat) a, as[i]? = some a → ∃ e, es[i]? = some e ∧ SqT K H a (evV e)
theorem RInv.evs (iv : RInv HO.tup H D (es.map evV) as H') (hl : as.length = es.length) : EvsAt K H' D es := ⟨as, iv.hd, hl, fun i a h => by
  obtain ⟨r, e1, e2⟩ := iv.rw_ i a h
  rw [List.getElem?_map] at e1
  obtain ⟨e, e3, rfl⟩ := Option.map_eq_some_iff.mp e1
  exact ⟨e, e3, SqT.of e2⟩⟩
theorem EvsAt.same (h : EvsAt K H D es) (s : Same H H') : EvsAt K H' D es := by
  obtain ⟨as, h1, h2, h3⟩ := h
  exact ⟨as, s _ _ h1, h2, fun i a e => by obtain ⟨x, e1, e2⟩ := h3 i a e; exact ⟨x, e1, smT s e2⟩⟩
/-- a user beside a change -/
theorem PAt.beside {o : HO} (h : PAt C Dp_ H A P) (n : W ∉ A.foot) : PAt C Dp_ (upd H W o) A P := by
  have k : ∀ b u, b ∈ A.foot → H b = some u → upd H W o b = some u := fun b u hb e => by rw [upd_ne (fun q => n (by rw [← q]; exact hb))]; exact e
  obtain ⟨f1, f2, f3, f4, f5, f6, f7⟩ := PAt.fp A
  exact ⟨k _ _ f1 h.hp, k _ _ f2 h.hm, k _ _ f3 h.hc, k _ _ f4 h.hi, k _ _ f5 h.ho, k _ _ f6 h.hq, k _ _ f7 h.hb, fun i b hb => by
    obtain ⟨ws, w1, w2⟩ := h.hbs i b hb
    exact ⟨ws, w1, k _ _ (by unfold PA.foot; exact List.mem_append_right _ (List.mem_of_getElem? hb)) w2⟩, h.len, h.nd⟩
theorem PAt.here (h : PAt C Dp_ H A P) (n : H W = none) : W ∉ A.foot := fun hm => by
  rcases h.obj W hm with ⟨_, _, _, e⟩ | ⟨_, e⟩ <;> rw [e] at n <;> cases n
theorem Fr.more {F : List Addr} (f : Fr A.foot H H') (g : ∀ b ∈ A.foot, b ∈ F) : Fr F H H' := fun b o n e => f b o (fun m => n (g b m)) e
theorem Fr.tupF {F : List Addr} (f : Fr F H H') (no : ∀ b ∈ F, (∃ C dx fs, H b = some (.ins C dx fs)) ∨ ∃ xs, H b = some (.lst xs)) (ht : SqT K H a xs) : SqT K H' a xs := by
  rcases ht with (ht | ⟨o, ht⟩) | ht
  · refine .inl (.inl (f _ _ (fun hm => ?_) ht))
    rcases no a hm with ⟨_, _, _, e⟩ | ⟨_, e⟩ <;> rw [e] at ht <;> cases ht
  · refine .inl (.inr ⟨o, f _ _ (fun hm => ?_) ht⟩)
    rcases no a hm with ⟨_, _, _, e⟩ | ⟨_, e⟩ <;> rw [e] at ht <;> cases ht
  · exact .inr ht
end
/-- a def that makes a list of events out of the script -/
def spEvs (K : PySem.W.Frag) (f : List Int → List Ev) : Sp := fun vs H Q _ => ∃ (a : Addr) (ns : List Int), vs = [.ref a] ∧ SqL K H a (ns.map V.int) ∧ ns.length ≤ 63 ∧ ∀ D H', H D = none → Same H H' → EvsAt K H' D (f ns) → Q (.ref D) H'
theorem wf_newP {cs : List Int} {sw : Int} (h : cs.length = 64) (hc : ∀ c ∈ cs, 0 ≤ c ∧ c < 1024) (s0 : 0 ≤ sw) (s1 : sw < 1024) : WfP (newP cs sw) :=
  ⟨⟨⟨h, by show (0 : Int) ≤ 0; decide, by show (0 : Int) < 64; decide⟩, hc, by show (0 : Int) ≤ 0; decide, by show (0 : Int) < 1024; decide, .inl rfl⟩, by show 0 ≤ 16; decide, fun x h => (by cases h), by show 0 ≤ 16; decide, rfl, fun b hb => by
    have e : b = List.replicate 16 0 := (List.mem_replicate.mp hb).2
    subst e
    exact ⟨by simp, fun x hx => by rw [(List.mem_replicate.mp hx).2]; decide⟩, s0, s1⟩
theorem isi_str {K : PySem.W.Frag} {σ : L2.St} {H : Hp} {ta : TE} {s : Str} (h : Val ta σ H (.str s)) : ∃ y t, Val ta σ H y ∧ TyX K H y (.type t) ∧ PySem.W.kitOne K (.type t) (.type "str") = some true := ⟨_, "str", h, .base (.str _), kit_ty (by decide +kernel)⟩
theorem hearP_nil {P : Pn} (h : P.inbox = []) : hearP P = againP P "hears" := by unfold hearP; rw [h]
theorem hearP_cons {P : Pn} {x : Int} {r : List Int} (h : P.inbox = x :: r) : hearP P = { P with m := { P.m with total := x }, inbox := r } := by unfold hearP; rw [h]
/-! ### the mirror, step by step -/
theorem ask_0 {P : Pn} (h : P.inbox = []) : askP P 0 = P := by unfold askP; rw [h]; rfl
theorem ask_0s {P : Pn} (h : P.inbox ≠ []) : askP P 0 = skipP P := by
  unfold askP
  rw [if_pos (by cases hx : P.inbox with
    | nil => exact absurd hx h
    | cons x r => rfl)]
theorem ask_1 (P : Pn) : askP P 1 = hearP P := by unfold askP; rw [if_neg (by simp), if_pos rfl]
theorem ask_2 {P : Pn} (h : P.outbox.length = 16) : askP P 2 = P := by unfold askP; rw [h]; rfl
theorem ask_2s {P : Pn} (h : P.outbox.length < 16) : askP P 2 = skipP P := by unfold askP; rw [if_pos (by simp [h])]
theorem ask_3 (P : Pn) : askP P 3 = sayP P := by unfold askP; rw [if_neg (by simp), if_neg (by decide), if_pos rfl]
theorem ask_4 (P : Pn) : askP P 4 = dozeP P := by unfold askP; rw [if_neg (by simp), if_neg (by decide), if_neg (by decide), if_pos rfl]
theorem ask_5 (P : Pn) : askP P 5 = carryP P true := by unfold askP; rw [if_neg (by simp), if_neg (by decide), if_neg (by decide), if_neg (by decide), if_pos rfl]
theorem ask_6 (P : Pn) : askP P 6 = carryP P false := by unfold askP; rw [if_neg (by simp), if_neg (by decide), if_neg (by decide), if_neg (by decide), if_neg (by decide), if_pos rfl]
theorem ask_7 (P : Pn) : askP P 7 = { P with st := "stopped" } := by unfold askP; rw [if_neg (by simp), if_neg (by decide), if_neg (by decide), if_neg (by decide), if_neg (by decide), if_neg (by decide), if_pos rfl]
theorem ask_8 (P : Pn) : askP P 8 = { P with m := { P.m with total := P.sw } } := by unfold askP; rw [if_neg (by simp), if_neg (by decide), if_neg (by decide), if_neg (by decide), if_neg (by decide), if_neg (by decide), if_neg (by decide), if_pos rfl]
theorem ask_hi {P : Pn} {p : Int} (h : 8 < p) : askP P p = P := by
  unfold askP
  rw [if_neg (by simp; omega), if_neg (by omega), if_neg (by omega), if_neg (by omega), if_neg (by omega), if_neg (by omega), if_neg (by omega), if_neg (by omega)]
theorem step_ask {P : Pn} {n : Int} (hg : getC P.m P.m.pc = n) (h6 : n / 128 = 6) (s : P.st = "ready") : happenP P .step = askP { P with done := P.done + 1, m := skipM P.m } (n % 64) := by
  show (if P.st = "ready" then stepP P else P) = _
  rw [if_pos s]
  unfold stepP
  have e : deedM P.m = skipM P.m := by unfold deedM; rw [hg]; dsimp only; rw [if_neg (by omega), if_pos h6]
  rw [hg, if_pos h6, e]
theorem step_own {P : Pn} {n : Int} (hg : getC P.m P.m.pc = n) (h6 : ¬ n / 128 = 6) (s : P.st = "ready") : happenP P .step = { P with done := P.done + 1, m := deedM P.m } := by
  show (if P.st = "ready" then stepP P else P) = _
  rw [if_pos s]
  unfold stepP
  rw [hg, if_neg h6]
theorem step_not {P : Pn} (s : P.st ≠ "ready") : happenP P .step = P := by show (if P.st = "ready" then stepP P else P) = _; rw [if_neg s]
theorem start_not {P : Pn} {p : Int} (s : P.st ≠ "stopped") : happenP P (.start p) = P := by show (if P.st = "stopped" then _ else P) = _; rw [if_neg s]
/-- what a key leaves -/
theorem key_same (P : Pn) (l : Int) : (happenP P (.key l)).m = P.m ∧ (happenP P (.key l)).outbox = P.outbox ∧ (happenP P (.key l)).paper = P.paper ∧ (happenP P (.key l)).blocks = P.blocks ∧ (happenP P (.key l)).sw = P.sw ∧ (happenP P (.key l)).nap = P.nap ∧ (happenP P (.key l)).done = P.done ∧
    (happenP P (.key l)).inbox = (if P.inbox.length < 16 then P.inbox ++ [l] else P.inbox) ∧ (happenP P (.key l)).lost = (if P.inbox.length < 16 then P.lost else P.lost + 1) ∧ (happenP P (.key l)).st = (if P.st = "hears" then ("ready" : Str) else P.st) := by
  show (heardP P l).m = _ ∧ (heardP P l).outbox = _ ∧ (heardP P l).paper = _ ∧ (heardP P l).blocks = _ ∧ (heardP P l).sw = _ ∧ (heardP P l).nap = _ ∧ (heardP P l).done = _ ∧ (heardP P l).inbox = _ ∧ (heardP P l).lost = _ ∧ (heardP P l).st = _
  unfold heardP wakeP
  by_cases c : P.inbox.length < 16 <;> by_cases d : P.st = "hears"
  · simp only [if_pos c, if_pos d]; refine ⟨?_, ?_, ?_, ?_, ?_, ?_, ?_, ?_, ?_, ?_⟩ <;> first | rfl | trivial
  · simp only [if_pos c, if_neg d]; refine ⟨?_, ?_, ?_, ?_, ?_, ?_, ?_, ?_, ?_, ?_⟩ <;> first | rfl | trivial
  · simp only [if_neg c, if_pos d]; refine ⟨?_, ?_, ?_, ?_, ?_, ?_, ?_, ?_, ?_, ?_⟩ <;> first | rfl | trivial
  · simp only [if_neg c, if_neg d]; refine ⟨?_, ?_, ?_, ?_, ?_, ?_, ?_, ?_, ?_, ?_⟩ <;> first | rfl | trivial
/-! ### a list of ints and ints beside: (list(cells), total, ..) -/
def rowD (cs xs : List Int) : PyData := .tuple (.list (cs.map PyData.int) :: xs.map PyData.int)
theorem shaped_row (cs xs : List Int) : SeqAt.shaped (rowD cs xs) = true := by
  unfold SeqAt.shaped rowD
  rw [Bool.and_eq_true_iff]
  constructor
  · rw [PyData.canLay0, PyData.canLayAll0, PyData.canLay0, canLay_ints, canLay_ints]; rfl
  · apply decide_eq_true
    rw [PyData.depth, PyData.depthAll, PyData.depth, depth_ints, depth_ints]
    decide
theorem eqv_row (cs xs cs' xs' : List Int) : PyData.eqv (rowD cs xs) (rowD cs' xs') = (decide (cs = cs') && decide (xs = xs')) := by
  unfold rowD
  rw [PyData.eqv, PyData.eqvAll, eqv_intsL, eqvAll_ints]
theorem dp_row {K : PySem.W.Frag} {H : Hp} {T L : Addr} {cs xs : List Int} (h : SqT K H T (.ref L :: xs.map V.int)) (hl : SqL K H L (cs.map V.int)) : Dp K H (.ref T) (rowD cs xs) := .tup h (.cons (dp_intsL hl) (dpAll_ints xs))
section
variable {σ : L2.St} {H H' : Hp} {K : PySem.W.Frag} {C D a b T : Addr} {A : PA} {P : Pn} {te ta tb to : TE} {tA : TA} {xs : List V} {cs : List Int}
/-- (0,) * 16 -/
theorem x_zeros {Q : VK} (q : ∀ T H', Same H H' → H' T = some (.tup ((List.replicate 16 (0 : Int)).map V.int)) → Q (.ref T) H') : tOp (rRepT K) (tTup (tCons (tC (.int 0)) tNil)) (tC (.int 16)) σ H Q :=
  (show tTup (tCons (tC (.int 0)) tNil) σ H _ from xt_tup ((va_cons v_c va_nil) _ ⟨k_line (by show 1 ≤ 1000; decide), fun T0 h0 => x_v v_c ⟨T0, 16, [.int 0], rfl, rfl, SqT.of upd_same, by simp, by decide, by decide, by simp, fun p hp => q p _ ((smN h0).trans (smN hp)) (by rw [upd_same]; rfl)⟩⟩))
theorem v_toInt {c : Bool} (h : Val ta σ H (.bl c)) {r : List V → Hp → VK → Prop} (e : r = fun xs H Q => (∃ i, xs = [.int i] ∧ Q (.int i) H) ∨ ∃ k, xs = [.bl k] ∧ Q (.int (if k then 1 else 0)) H := by rfl) : Val (tCB r (tCons ta tNil)) σ H (.int (if c then 1 else 0)) := by
  subst e
  exact v_cb (va_cons h va_nil) fun _ q => .inr ⟨c, rfl, q⟩
theorem v_min {i j : Int} (ha : Val ta σ H (.int i)) (hb : Val tb σ H (.int j)) {r : List V → Hp → VK → Prop} (e : r = fun xs H Q => ∃ i j, xs = [.int i, .int j] ∧ Q (.int (if j < i then j else i)) H := by rfl) : Val (tCB r (tCons ta (tCons tb tNil))) σ H (.int (if j < i then j else i)) := by
  subst e
  exact v_cb (va_cons ha (va_cons hb va_nil)) fun _ q => ⟨i, j, rfl, q⟩
/-- a call that happens to a user, by its Cal's promise -/
theorem x_hap {e : Ev} {Q : VK} (h : ValA tA σ H [.ref A.p, .ref a]) (hP : PAt C D H A P) (w : WfP P) (hs : Short P) (hE : SqT K H a (evV e)) (q : Nx C D A H (happenP P e) (Q .non)) : tCall (spHappen K C D) [] E0 tA σ H Q := x_call h ⟨A, P, a, e, rfl, hP, w, hs, hE, q⟩
end
def zeroP (cs : List Int) (t pc : Int) (st : Str) : Pn := ⟨⟨cs, t, 0, pc⟩, [], [], [], List.replicate 4 (List.replicate 16 0), 0, st, 0, 0, 0⟩
theorem wf_zeroP {cs : List Int} {t pc : Int} {st : Str} (h : cs.length = 64) (hc : ∀ c ∈ cs, 0 ≤ c ∧ c < 1024) (t0 : 0 ≤ t ∧ t < 1024) (p0 : 0 ≤ pc ∧ pc < 64) : WfP (zeroP cs t pc st) :=
  ⟨⟨⟨h, p0.1, p0.2⟩, hc, t0.1, t0.2, .inl rfl⟩, by show 0 ≤ 16; decide, fun x h => (by cases h), by show 0 ≤ 16; decide, rfl, fun b hb => by
    have e : b = List.replicate 16 0 := (List.mem_replicate.mp hb).2
    subst e
    exact ⟨by simp, fun x hx => by rw [(List.mem_replicate.mp hx).2]; decide⟩, by show (0 : Int) ≤ 0; decide, by show (0 : Int) < 1024; decide⟩
def spShot (K : PySem.W.Frag) : Sp := fun vs H Q _ => ∃ (a : Addr) (cs : List Int) (t pc : Int) (st : Str), vs = [.ref a, .int t, .int pc, .str st] ∧ SqL K H a (cs.map V.int) ∧ ∀ b H', Same H H' → Dp K H' (.ref b) (shotD (zeroP cs t pc st)) → Q (.ref b) H'
theorem zeros_rows {K : PySem.W.Frag} {H : Hp} {T1 T2 T3 T4 : Addr} (h1 : H T1 = some (.tup ((List.replicate 16 (0 : Int)).map V.int))) (h2 : H T2 = some (.tup ((List.replicate 16 (0 : Int)).map V.int))) (h3 : H T3 = some (.tup ((List.replicate 16 (0 : Int)).map V.int))) (h4 : H T4 = some (.tup ((List.replicate 16 (0 : Int)).map V.int))) :
    ∀ (i : Nat) b, [T1, T2, T3, T4][i]? = some b → ∃ ws, (List.replicate 4 (List.replicate 16 (0 : Int)))[i]? = some ws ∧ SqT K H b (ws.map V.int)
  | 0, b, e => by cases e; exact ⟨_, rfl, SqT.of h1⟩
  | 1, b, e => by cases e; exact ⟨_, rfl, SqT.of h2⟩
  | 2, b, e => by cases e; exact ⟨_, rfl, SqT.of h3⟩
  | 3, b, e => by cases e; exact ⟨_, rfl, SqT.of h4⟩
  | i + 4, b, e => by cases e
section
variable {σ : L2.St} {H H' : Hp} {K : PySem.W.Frag} {te ta tb ti : TE} {tA : TA} {sp : Sp} {v : V}
theorem xt_lst {Q : VK} (h : tA σ H fun vs H1 => vs.length ≤ sizeLine ∧ ∀ p, H1 p = none → Q (.ref p) (upd H1 p (.lst vs))) : tLst tA σ H Q := h
theorem x_test' {Q : Bool → Hp → Prop} (h : te σ H fun x H1 => ∃ k, x = .bl k ∧ Q k H1) : tB te σ H Q := h
/-- a call by its arguments' readings -/
theorem xc {Q : VK} (h : tA σ H fun vs H1 => sp vs H1 Q E0) : tCall sp [] E0 tA σ H Q := by
  unfold tCall
  simp only [List.append_nil]
  exact h
theorem xc_1 {Q : VK} (h : ta σ H fun v H1 => sp [v] H1 Q E0) : tCall sp [] E0 (tCons ta tNil) σ H Q := h
theorem xc_2 {Q : VK} (ha : Val ta σ H v) (h : tb σ H fun x H1 => sp [v, x] H1 Q E0) : tCall sp [] E0 (tCons ta (tCons tb tNil)) σ H Q := ha _ h
theorem xc_4 {Q : VK} (h : ta σ H fun v H1 => tA σ H1 fun vs H2 => sp (v :: vs) H2 Q E0) : tCall sp [] E0 (tCons ta tA) σ H Q := xc (tA := tCons ta tA) h
/-- an item of a written list of strs -/
theorem v_menuS (ws : List Str) {i : Int} (h : ValA tA σ H (ws.map V.str)) (hl : ws.length ≤ 1000) (hi : ∀ H', Same H H' → Val ti σ H' (.int i)) (h0 : 0 ≤ i) (h1 : i < (ws.length : Int)) {Q : VK} (q : ∀ H', Same H H' → Q (.str (ws.getD i.toNat default)) H') : tOp (rIxL K) (tLst tA) ti σ H Q :=
  h _ ⟨k_line (by rw [List.length_map]; exact hl), fun D hD => hi _ (smN hD) _ ⟨D, _, i, _, rfl, rfl, SqL.of upd_same, at_of (j := i.toNat) (by omega) (by
    have hl2 : i.toNat < ws.length := by omega
    rw [List.getElem?_map, List.getElem?_eq_getElem hl2]
    simp [List.getD_eq_getElem?_getD, List.getElem?_eq_getElem hl2]), q _ (smN hD)⟩⟩
end
section
variable {σ : L2.St} {H : Hp} {K : PySem.W.Frag} {te : TE} {g : TG} {tb tz : TS} {N : L2.St → Hp → Prop} {R : VK} {B C' : L2.St → Hp → Prop}
theorem qx_forE (h : te σ H fun v H1 => tSeq (tFor (iEnum K (fun _ H Q => Q [v] H)) g tb) tz ⟨N, R, B, C'⟩ σ H1) : tSeq (tFor (iEnum K (tCons te tNil)) g tb) tz ⟨N, R, B, C'⟩ σ H := h
end
/-! ### data beside objects that change -/
abbrev FS := Addr → Prop
structure LsA (H : Hp) (F : FS) (a : Addr) (xs : List V) : Prop where
  at_ : H a = some (.lst xs)
  no : ¬ F a
structure TpA (K : PySem.W.Frag) (H : Hp) (F : FS) (a : Addr) (xs : List V) : Prop where
  sq : SqT K H a xs
  no : ¬ F a ∨ ∀ H', SqT K H' a xs
mutual
inductive Da (K : PySem.W.Frag) (H : Hp) (F : FS) : V → PyData → Prop
  | non : Da K H F .non .none
  | bl (b : Bool) : Da K H F (.bl b) (.bool b)
  | int (i : Int) : Da K H F (.int i) (.int i)
  | str (x : Str) : Da K H F (.str x) (.str x)
  | lst {a : Addr} {xs : List V} {ds : List PyData} : LsA H F a xs → DaAll K H F xs ds → Da K H F (.ref a) (.list ds)
  | tup {a : Addr} {xs : List V} {ds : List PyData} : TpA K H F a xs → DaAll K H F xs ds → Da K H F (.ref a) (.tuple ds)
inductive DaAll (K : PySem.W.Frag) (H : Hp) (F : FS) : List V → List PyData → Prop
  | nil : DaAll K H F [] []
  | cons {v : V} {vs : List V} {d : PyData} {ds : List PyData} : Da K H F v d → DaAll K H F vs ds → DaAll K H F (v :: vs) (d :: ds)
end
section
variable {K : PySem.W.Frag} {H H' H1 H2 : Hp} {F F' F1 F2 : FS} {v : V} {vs ws : List V} {d e : PyData} {ds es : List PyData} {a b : Addr} {xs : List V} {i : Int}
mutual
theorem Da.dp0 : ∀ (d : PyData) (v : V), Da K H F v d → Dp K H v d
  | .none, _, h => by cases h; exact .non
  | .bool b, _, h => by cases h; exact .bl b
  | .int i, _, h => by cases h; exact .int i
  | .str x, _, h => by cases h; exact .str x
  | .list ds, _, h => by cases h with | lst h1 h2 => exact .lst (SqL.of h1.at_) (DaAll.dp0 ds _ h2)
  | .tuple ds, _, h => by cases h with | tup h1 h2 => exact .tup h1.sq (DaAll.dp0 ds _ h2)
  | .dict _, _, h => by cases h
theorem DaAll.dp0 : ∀ (ds : List PyData) (vs : List V), DaAll K H F vs ds → DpAll K H vs ds
  | [], _, h => by cases h; exact .nil
  | d :: ds, _, h => by cases h with | cons h1 h2 => exact .cons (Da.dp0 d _ h1) (DaAll.dp0 ds _ h2)
end
theorem Da.dp (h : Da K H F v d) : Dp K H v d := Da.dp0 d v h
mutual
theorem Da.map0 (hl : ∀ a xs, LsA H F a xs → LsA H' F' a xs) (ht : ∀ a xs, TpA K H F a xs → TpA K H' F' a xs) : ∀ (d : PyData) (v : V), Da K H F v d → Da K H' F' v d
  | .none, _, h => by cases h; exact .non
  | .bool b, _, h => by cases h; exact .bl b
  | .int i, _, h => by cases h; exact .int i
  | .str x, _, h => by cases h; exact .str x
  | .list ds, _, h => by cases h with | lst h1 h2 => exact .lst (hl _ _ h1) (DaAll.map0 hl ht ds _ h2)
  | .tuple ds, _, h => by cases h with | tup h1 h2 => exact .tup (ht _ _ h1) (DaAll.map0 hl ht ds _ h2)
  | .dict _, _, h => by cases h
theorem DaAll.map0 (hl : ∀ a xs, LsA H F a xs → LsA H' F' a xs) (ht : ∀ a xs, TpA K H F a xs → TpA K H' F' a xs) : ∀ (ds : List PyData) (vs : List V), DaAll K H F vs ds → DaAll K H' F' vs ds
  | [], _, h => by cases h; exact .nil
  | d :: ds, _, h => by cases h with | cons h1 h2 => exact .cons (Da.map0 hl ht d _ h1) (DaAll.map0 hl ht ds _ h2)
end
/-- from H with the changing F to H' with F' -/
structure Mv (F : FS) (H : Hp) (F' : FS) (H' : Hp) : Prop where
  keep : ∀ b o, ¬ F b → H b = some o → H' b = some o
  new : ∀ b, F' b → F b ∨ H b = none
theorem Mv.refl : Mv F H F H := ⟨fun _ _ _ h => h, fun _ h => .inl h⟩
theorem Mv.trans (p : Mv F H F1 H1) (q : Mv F1 H1 F2 H2) : Mv F H F2 H2 := by
  refine ⟨fun b o n e => q.keep b o (fun f => ?_) (p.keep b o n e), fun b f => ?_⟩
  · rcases p.new b f with h | h
    · exact n h
    · rw [e] at h; cases h
  · rcases q.new b f with h | h
    · exact p.new b h
    · by_cases c : F b
      · exact .inl c
      · cases e : H b with
        | none => exact .inr rfl
        | some o => rw [p.keep b o c e] at h; cases h
theorem Mv.same (s : Same H H') : Mv F H F H' := ⟨fun b o _ e => s b o e, fun _ h => .inl h⟩
theorem Mv.less (h : ∀ b, F' b → F b) : Mv F H F' H := ⟨fun _ _ _ e => e, fun b f => .inl (h b f)⟩
theorem Mv.more (h : ∀ b, F' b → F b ∨ H b = none) : Mv F H F' H := ⟨fun _ _ _ e => e, h⟩
/-- a change of one part, all else beside -/
theorem Mv.part {G G' : FS} (p : Mv G H G' H') (h : ∀ b, G b → F b) : Mv F H (fun b => F b ∨ G' b) H' := ⟨fun b o n e => p.keep b o (fun g => n (h b g)) e, fun b f => f.elim .inl (fun g => (p.new b g).imp (h b) id)⟩
theorem LsA.mv (m : Mv F H F' H') (h : LsA H F a xs) : LsA H' F' a xs := ⟨m.keep _ _ h.no h.at_, fun f => (m.new a f).elim h.no (fun e => by rw [h.at_] at e; cases e)⟩
theorem TpA.mv (m : Mv F H F' H') (h : TpA K H F a xs) : TpA K H' F' a xs := by
  obtain ⟨h, n⟩ := h
  rcases n with n | n
  · rcases h with (h | ⟨o, h⟩) | h
    · exact ⟨.inl (.inl (m.keep _ _ n h)), .inl fun f => (m.new a f).elim n (fun e => by rw [h] at e; cases e)⟩
    · exact ⟨.inl (.inr ⟨o, m.keep _ _ n h⟩), .inl fun f => (m.new a f).elim n (fun e => by rw [h] at e; cases e)⟩
    · exact ⟨.inr h, .inr fun _ => .inr h⟩
  · exact ⟨n _, .inr n⟩
theorem Da.mv (m : Mv F H F' H') (h : Da K H F v d) : Da K H' F' v d := Da.map0 (fun _ _ => LsA.mv m) (fun _ _ => TpA.mv m) d v h
theorem DaAll.mv (m : Mv F H F' H') (h : DaAll K H F vs ds) : DaAll K H' F' vs ds := DaAll.map0 (fun _ _ => LsA.mv m) (fun _ _ => TpA.mv m) ds vs h
theorem Da.same (s : Same H H') (h : Da K H F v d) : Da K H' F v d := h.mv (.same s)
theorem DaAll.same (s : Same H H') (h : DaAll K H F vs ds) : DaAll K H' F vs ds := h.mv (.same s)
theorem DaAll.len : ∀ {vs : List V} {ds : List PyData}, DaAll K H F vs ds → vs.length = ds.length
  | _, _, .nil => rfl
  | _, _, .cons _ h => by rw [List.length_cons, List.length_cons, h.len]
theorem DaAll.get : ∀ {vs : List V} {ds : List PyData} (i : Nat), DaAll K H F vs ds → vs[i]? = some v → ds[i]? = some d → Da K H F v d
  | _, _, 0, .cons h _, e, f => by cases e; cases f; exact h
  | _, _, i + 1, .cons _ h, e, f => h.get i e f
theorem DaAll.get' : ∀ {vs : List V} {ds : List PyData} (i : Nat), DaAll K H F vs ds → ds[i]? = some d → ∃ v, vs[i]? = some v ∧ Da K H F v d
  | _, _, 0, .cons h _, f => by cases f; exact ⟨_, rfl, h⟩
  | _, _, i + 1, .cons _ h, f => h.get' i f
theorem DaAll.getV : ∀ {vs : List V} {ds : List PyData} (i : Nat), DaAll K H F vs ds → vs[i]? = some v → ∃ d, ds[i]? = some d ∧ Da K H F v d
  | _, _, 0, .cons h _, f => by cases f; exact ⟨_, rfl, h⟩
  | _, _, i + 1, .cons _ h, f => h.getV i f
theorem DaAll.app : ∀ {vs : List V} {ds : List PyData}, DaAll K H F vs ds → DaAll K H F ws es → DaAll K H F (vs ++ ws) (ds ++ es)
  | _, _, .nil, h => h
  | _, _, .cons h t, h2 => .cons h (t.app h2)
theorem DaAll.take : ∀ {vs : List V} {ds : List PyData} (n : Nat), DaAll K H F vs ds → DaAll K H F (vs.take n) (ds.take n)
  | _, _, 0, _ => .nil
  | _, _, _ + 1, .nil => .nil
  | _, _, n + 1, .cons h t => .cons h (t.take n)
theorem DaAll.drop : ∀ {vs : List V} {ds : List PyData} (n : Nat), DaAll K H F vs ds → DaAll K H F (vs.drop n) (ds.drop n)
  | _, _, 0, h => h
  | _, _, _ + 1, .nil => .nil
  | _, _, n + 1, .cons _ t => t.drop n
theorem daAll_ints : ∀ ns : List Int, DaAll K H F (ns.map V.int) (ns.map PyData.int)
  | [] => .nil
  | n :: r => .cons (.int n) (daAll_ints r)
theorem DaAll.ints : ∀ {vs : List V} {ns : List Int}, DaAll K H F vs (ns.map PyData.int) → vs = ns.map V.int
  | _, [], h => by cases h; rfl
  | _, n :: r, h => by cases h with | cons h1 h2 => cases h1; rw [h2.ints]; rfl
theorem Da.intsT {ns : List Int} (h : SqT K H a (ns.map V.int)) (n : ¬ F a) : Da K H F (.ref a) (intsD ns) := .tup ⟨h, .inl n⟩ (daAll_ints ns)
theorem Da.intsL {ns : List Int} (h : H a = some (.lst (ns.map V.int))) (n : ¬ F a) : Da K H F (.ref a) (.list (ns.map PyData.int)) := .lst ⟨h, n⟩ (daAll_ints ns)
/-- the changing ones stand in the heap -/
def FA (F : FS) (H : Hp) : Prop := ∀ b, F b → H b ≠ none
theorem FA.same (s : Same H H') (h : FA F H) : FA F H' := fun b f e => h b f (s.free e)
theorem FA.no (h : FA F H) (e : H a = none) : ¬ F a := fun f => h a f e
theorem FA.none : FA (fun _ => False) H := fun _ f => f.elim
theorem FA.or (h1 : FA F H) (h2 : FA F' H) : FA (fun b => F b ∨ F' b) H := fun b f => f.elim (h1 b) (h2 b)
end
/-- tuples stay -/
def TpS (H H' : Hp) : Prop := ∀ b xs, H b = some (.tup xs) → H' b = some (.tup xs)
theorem TpS.same {H H' : Hp} (s : Same H H') : TpS H H' := fun b xs e => s _ _ e
theorem TpS.upd {H : Hp} {D : Addr} {vs : List V} {o : HO} (h : H D = some (.lst vs)) : TpS H (upd H D o) := fun b xs e => by rw [upd_ne (fun q => by rw [q, h] at e; cases e)]; exact e
/-- a world W that looks only at F, and at tuples -/
structure Wo (F : FS) (W : Hp → Prop) : Prop where
  loc : ∀ H H', (∀ b o, F b → H b = some o → H' b = some o) → TpS H H' → W H → W H'
structure Ok (F : FS) (W : Hp → Prop) (H : Hp) : Prop where
  fa : FA F H
  w : W H
abbrev wT : Hp → Prop := fun _ => True
theorem woT {F : FS} : Wo F wT := ⟨fun _ _ _ _ _ => trivial⟩
/-- a reading gives d, as new or as it was -/
def Dv (K : PySem.W.Frag) (F : FS) (W : Hp → Prop) (te : TE) (σ : L2.St) (H : Hp) (d : PyData) : Prop := ∀ H1, Mv F H F H1 → Ok F W H1 → ∀ Q : VK, (∀ v H', Mv F H1 F H' → Ok F W H' → Da K H' F v d → Q v H') → te σ H1 Q
def DvA (K : PySem.W.Frag) (F : FS) (W : Hp → Prop) (tA : TA) (σ : L2.St) (H : Hp) (ds : List PyData) : Prop := ∀ H1, Mv F H F H1 → Ok F W H1 → ∀ Q : List V → Hp → Prop, (∀ vs H', Mv F H1 F H' → Ok F W H' → DaAll K H' F vs ds → Q vs H') → tA σ H1 Q
def withF (F : FS) (D : Addr) : FS := fun b => F b ∨ b = D
/-- the list at D, its items beside it -/
def OwL (K : PySem.W.Frag) (F : FS) (D : Addr) (H : Hp) (ds : List PyData) : Prop := ∃ vs, H D = some (.lst vs) ∧ DaAll K H (withF F D) vs ds
/-- a reading gives a new list -/
def DvN (K : PySem.W.Frag) (F : FS) (W : Hp → Prop) (te : TE) (σ : L2.St) (H : Hp) (ds : List PyData) : Prop := ∀ H1, Mv F H F H1 → Ok F W H1 → ∀ Q : VK, (∀ D H', H1 D = none → Mv F H1 F H' → Ok F W H' → OwL K F D H' ds → Q (.ref D) H') → te σ H1 Q
section
variable {K : PySem.W.Frag} {H H' : Hp} {F F1 : FS} {W : Hp → Prop} {σ : L2.St} {te ta tb tl : TE} {tA : TA} {v : V} {d e : PyData} {ds es : List PyData} {a b : Addr} {xs : List V} {i j : Int} {N : L2.St → Hp → Prop} {R : VK} {B C' : L2.St → Hp → Prop} {tz : TS} {c : Bool}
theorem Wo.up (h : Wo F W) (g : ∀ b, F b → F1 b) : Wo F1 W := ⟨fun H H' k t => h.loc H H' (fun b o f => k b o (g b f)) t⟩
theorem Wo.and {W2 : Hp → Prop} (h : Wo F W) (h2 : Wo F W2) : Wo F (fun H => W H ∧ W2 H) := ⟨fun H H' k t w => ⟨h.loc H H' k t w.1, h2.loc H H' k t w.2⟩⟩
theorem Ok.same (o : Ok F W H) (wo : Wo F W) (s : Same H H') : Ok F W H' := ⟨o.fa.same s, wo.loc _ _ (fun b o _ => s b o) (.same s) o.w⟩
theorem mvN {p : Addr} {o : HO} (hp : H p = none) : Mv F H (withF F p) (upd H p o) := ⟨fun b o _ e => smN hp b o e, fun b f => f.imp id (fun e => by rw [e]; exact hp)⟩
theorem Ok.free {p : Addr} (o : Ok F W H') (m : Mv F H F H') (hp : H' p = none) : H p = none := by
  cases e : H p with
  | none => rfl
  | some u => rw [m.keep p u (o.fa.no hp) e] at hp; cases hp
theorem OwL.da {D : Addr} (h : OwL K F D H ds) (n : ¬ F D) : Da K H F (.ref D) (.list ds) := by
  obtain ⟨vs, h1, h2⟩ := h
  exact .lst ⟨h1, n⟩ (h2.mv (.less fun b f => .inl f))
theorem DvN.dv (h : DvN K F W te σ H ds) : Dv K F W te σ H (.list ds) := fun H1 m o Q q => h H1 m o Q fun D H' hD m' o' w => q _ _ m' o' (w.da (o.fa.no hD))
theorem dv_v (h : ∀ H1, Mv F H F H1 → Ok F W H1 → Val te σ H1 v) (hd : Da K H F v d) : Dv K F W te σ H d := fun H1 m o _ q => h H1 m o _ (q v H1 .refl o (hd.mv m))
theorem dv_var {k : Nat} (h : σ[k]? = some (some v)) (hd : Da K H F v d) : Dv K F W (tVar k) σ H d := dv_v (fun _ _ _ => val_var h) hd
theorem dv_c (hd : Da K H F v d) : Dv K F W (tC v) σ H d := dv_v (fun _ _ _ => val_c) hd
theorem dv_i (h : ∀ H1, Mv F H F H1 → Ok F W H1 → Val te σ H1 (.int i)) : Dv K F W te σ H (.int i) := dv_v h (.int i)
theorem dv_st {s : Str} (h : ∀ H1, Mv F H F H1 → Ok F W H1 → Val te σ H1 (.str s)) : Dv K F W te σ H (.str s) := dv_v h (.str s)
theorem dv_k {z : Int} : Dv K F W (tC (.int z)) σ H (.int z) := dv_c (.int z)
theorem dv_s {s : Str} : Dv K F W (tC (.str s)) σ H (.str s) := dv_c (.str s)
theorem Dv.mv (h : Dv K F W te σ H d) (s : Mv F H F H') : Dv K F W te σ H' d := fun H1 s1 => h H1 (s.trans s1)
theorem DvA.mv (h : DvA K F W tA σ H ds) (s : Mv F H F H') : DvA K F W tA σ H' ds := fun H1 s1 => h H1 (s.trans s1)
theorem x_d {Q : VK} (h : Dv K F W te σ H d) (o : Ok F W H) (q : ∀ v H', Mv F H F H' → Ok F W H' → Da K H' F v d → Q v H') : te σ H Q := h H .refl o Q q
theorem x_dA {Q : List V → Hp → Prop} (h : DvA K F W tA σ H ds) (o : Ok F W H) (q : ∀ vs H', Mv F H F H' → Ok F W H' → DaAll K H' F vs ds → Q vs H') : tA σ H Q := h H .refl o Q q
theorem Dv.eq (h : Dv K F W te σ H d) (e' : d = e) : Dv K F W te σ H e := e' ▸ h
theorem da_nil : DvA K F W tNil σ H [] := fun H1 _ o _ q => q [] H1 .refl o .nil
theorem da_cons (h : Dv K F W ta σ H d) (ht : DvA K F W tA σ H ds) : DvA K F W (tCons ta tA) σ H (d :: ds) := fun H1 m o _ q =>
  h H1 m o _ fun v H2 m2 o2 hd => ht H2 (m.trans m2) o2 _ fun vs H3 m3 o3 hds => q (v :: vs) H3 (m2.trans m3) o3 (.cons (hd.mv m3) hds)
theorem dv_tup (wo : Wo F W) (h : DvA K F W tA σ H ds) (hl : ds.length ≤ 1000 := by simp) : Dv K F W (tTup tA) σ H (.tuple ds) := fun H1 m o _ q =>
  h H1 m o _ fun vs H2 m2 o2 hd => ⟨k_line (by rw [hd.len]; exact hl), fun p hp => q _ _ (m2.trans (.same (smN hp))) (o2.same wo (smN hp)) (.tup ⟨SqT.of upd_same, .inl (o2.fa.no hp)⟩ (hd.same (smN hp)))⟩
theorem dn_lst (wo : Wo F W) (h : DvA K F W tA σ H ds) (hl : ds.length ≤ 1000 := by simp) : DvN K F W (tLst tA) σ H ds := fun H1 m o _ q =>
  h H1 m o _ fun vs H2 m2 o2 hd => ⟨k_line (by rw [hd.len]; exact hl), fun p hp => q _ _ (o2.free m2 hp) (m2.trans (.same (smN hp))) (o2.same wo (smN hp)) ⟨vs, upd_same, hd.mv (mvN hp)⟩⟩
theorem dv_lst (wo : Wo F W) (h : DvA K F W tA σ H ds) (hl : ds.length ≤ 1000 := by simp) : Dv K F W (tLst tA) σ H (.list ds) := (dn_lst wo h hl).dv
theorem dn_list (wo : Wo F W) (h : Dv K F W ta σ H d) (hd : d = .list ds ∨ d = .tuple ds) : DvN K F W (tCB (rListS K) (tCons ta tNil)) σ H ds := fun H1 m o _ q =>
  h H1 m o _ fun v H2 m2 o2 hv => by
    rcases hd with rfl | rfl
    · cases hv with | lst h1 h2 => exact ⟨_, _, rfl, .inl (SqL.of h1.at_), fun p hp => q _ _ (o2.free m2 hp) (m2.trans (.same (smN hp))) (o2.same wo (smN hp)) ⟨_, upd_same, h2.mv (mvN hp)⟩⟩
    · cases hv with | tup h1 h2 => exact ⟨_, _, rfl, .inr h1.sq, fun p hp => q _ _ (o2.free m2 hp) (m2.trans (.same (smN hp))) (o2.same wo (smN hp)) ⟨_, upd_same, h2.mv (mvN hp)⟩⟩
theorem dv_list (wo : Wo F W) (h : Dv K F W ta σ H d) (hd : d = .list ds ∨ d = .tuple ds) : Dv K F W (tCB (rListS K) (tCons ta tNil)) σ H (.list ds) := (dn_list wo h hd).dv
theorem dv_tuple (wo : Wo F W) (h : Dv K F W ta σ H d) (hd : d = .list ds ∨ d = .tuple ds) : Dv K F W (tCB (rTupOf K) (tCons ta tNil)) σ H (.tuple ds) := fun H1 m o _ q =>
  h H1 m o _ fun v H2 m2 o2 hv => by
    rcases hd with rfl | rfl
    · cases hv with | lst h1 h2 => exact ⟨_, _, rfl, .inl ⟨SqL.of h1.at_, fun p hp => q _ _ (m2.trans (.same (smN hp))) (o2.same wo (smN hp)) (.tup ⟨SqT.of upd_same, .inl (o2.fa.no hp)⟩ (h2.same (smN hp)))⟩⟩
    · cases hv with | tup h1 h2 => exact ⟨_, _, rfl, .inr ⟨h1.sq, q _ _ m2 o2 (.tup h1 h2)⟩⟩
/-- list(..), tuple(..) of a list that changes -/
theorem dn_listO {ns : List V} (wo : Wo F W) (h : ∀ H1, Mv F H F H1 → Ok F W H1 → ∃ a, Val ta σ H1 (.ref a) ∧ (SqL K H1 a ns ∨ SqT K H1 a ns) ∧ DaAll K H1 F ns ds) : DvN K F W (tCB (rListS K) (tCons ta tNil)) σ H ds := fun H1 m o _ q => by
  obtain ⟨a, ha, hs, hd⟩ := h H1 m o
  exact ha _ ⟨a, ns, rfl, hs, fun p hp => q _ _ hp (.same (smN hp)) (o.same wo (smN hp)) ⟨_, upd_same, hd.mv (mvN hp)⟩⟩
theorem dv_listO {ns : List V} (wo : Wo F W) (h : ∀ H1, Mv F H F H1 → Ok F W H1 → ∃ a, Val ta σ H1 (.ref a) ∧ (SqL K H1 a ns ∨ SqT K H1 a ns) ∧ DaAll K H1 F ns ds) : Dv K F W (tCB (rListS K) (tCons ta tNil)) σ H (.list ds) := (dn_listO wo h).dv
theorem dv_tupleO {ns : List V} (wo : Wo F W) (h : ∀ H1, Mv F H F H1 → Ok F W H1 → ∃ a, Val ta σ H1 (.ref a) ∧ SqL K H1 a ns ∧ DaAll K H1 F ns ds) : Dv K F W (tCB (rTupOf K) (tCons ta tNil)) σ H (.tuple ds) := fun H1 m o _ q => by
  obtain ⟨a, ha, hs, hd⟩ := h H1 m o
  exact ha _ ⟨a, ns, rfl, .inl ⟨hs, fun p hp => q _ _ (.same (smN hp)) (o.same wo (smN hp)) (.tup ⟨SqT.of upd_same, .inl (o.fa.no hp)⟩ (hd.same (smN hp)))⟩⟩
theorem dv_catT (wo : Wo F W) (ha : Dv K F W ta σ H (.tuple ds)) (hb : Dv K F W tb σ H (.tuple es)) (hl : ds.length + es.length ≤ 100000 := by simp) : Dv K F W (tOp (rCatA K) ta tb) σ H (.tuple (ds ++ es)) := fun H1 m o _ q =>
  ha H1 m o _ fun v H2 m2 o2 hv => hb H2 (m.trans m2) o2 _ fun w H3 m3 o3 hw => by
    have hv := hv.mv m3
    cases hv with | tup h1 h2 =>
    cases hw with | tup h3 h4 =>
    refine ⟨_, _, _, _, rfl, rfl, h1.sq, h3.sq, ?_, ?_, ?_, ?_⟩
    · rw [h2.len, h4.len]; exact Nat.le_trans hl (by rw [sizeLine_eq]; decide)
    · intro e
      subst e
      cases h2
      exact q _ _ (m2.trans m3) o3 (.tup h3 h4)
    · intro _ e
      subst e
      cases h4
      rw [List.append_nil] at q
      exact q _ _ (m2.trans m3) o3 (.tup h1 h2)
    · intro _ _ p hp
      exact q _ _ ((m2.trans m3).trans (.same (smN hp))) (o3.same wo (smN hp)) (.tup ⟨SqT.of upd_same, .inl (o3.fa.no hp)⟩ ((h2.app h4).same (smN hp)))
theorem dn_catL (wo : Wo F W) (ha : Dv K F W ta σ H (.list ds)) (hb : Dv K F W tb σ H (.list es)) (hl : ds.length + es.length ≤ 100000 := by simp) : DvN K F W (tOp rCat ta tb) σ H (ds ++ es) := fun H1 m o _ q =>
  ha H1 m o _ fun v H2 m2 o2 hv => hb H2 (m.trans m2) o2 _ fun w H3 m3 o3 hw => by
    have hv := hv.mv m3
    cases hv with | lst h1 h2 =>
    cases hw with | lst h3 h4 =>
    exact ⟨_, _, _, _, rfl, rfl, h1.at_, h3.at_, by rw [h2.len, h4.len]; exact Nat.le_trans hl (by rw [sizeLine_eq]; decide), fun p hp =>
      q _ _ (o3.free (m2.trans m3) hp) ((m2.trans m3).trans (.same (smN hp))) (o3.same wo (smN hp)) ⟨_, upd_same, (h2.app h4).mv (mvN hp)⟩⟩
theorem dv_catL (wo : Wo F W) (ha : Dv K F W ta σ H (.list ds)) (hb : Dv K F W tb σ H (.list es)) (hl : ds.length + es.length ≤ 100000 := by simp) : Dv K F W (tOp rCat ta tb) σ H (.list (ds ++ es)) := (dn_catL wo ha hb hl).dv
/-- a slice by bounds that are plain -/
def cutD {α : Type} (xs : List α) (lo hi : Option Int) : List α := (xs.drop (HT.sIx xs.length 0 lo)).take (HT.sIx xs.length xs.length hi - HT.sIx xs.length 0 lo)
theorem cutD_nat {α : Type} {xs : List α} {i j : Nat} (h : i ≤ j) : cutD xs (some (i : Int)) (some (j : Int)) = (xs.take j).drop i := by
  unfold cutD
  rw [HT.sIx_nat, HT.sIx_nat]
  apply List.ext_getElem?
  intro n
  simp only [List.getElem?_take, List.getElem?_drop]
  by_cases c1 : n < j - i
  · have c2 : i + n < j := by omega
    rw [if_pos c2]
    by_cases c3 : i ≤ xs.length
    · rw [Nat.min_eq_left c3]
      by_cases c4 : n < min j xs.length - i
      · rw [if_pos c4]
      · rw [if_neg c4]
        exact (List.getElem?_eq_none (by omega)).symm
    · rw [if_neg (by omega)]
      exact (List.getElem?_eq_none (by omega)).symm
  · rw [if_neg (by omega), if_neg (by omega)]
theorem cutD_to {α : Type} {xs : List α} {j : Nat} : cutD xs none (some (j : Int)) = xs.take j := by
  have e : cutD xs none (some (j : Int)) = cutD xs (some ((0 : Nat) : Int)) (some (j : Int)) := by unfold cutD; rw [HT.sIx_none, HT.sIx_nat, HT.sIx_nat, Nat.zero_min]
  rw [e, cutD_nat (Nat.zero_le _), List.drop_zero]
theorem cutD_from {α : Type} {xs : List α} {i : Nat} : cutD xs (some (i : Int)) none = xs.drop i := by
  unfold cutD
  rw [HT.sIx_nat, HT.sIx_none]
  by_cases h : i ≤ xs.length
  · rw [Nat.min_eq_left h, List.take_of_length_le (by rw [List.length_drop]; omega)]
  · rw [Nat.min_eq_right (by omega), List.drop_eq_nil_of_le (Nat.le_refl _), List.drop_eq_nil_of_le (by omega), List.take_nil]
theorem DaAll.cut {vs : List V} (h : DaAll K H F vs ds) (lo hi : Option Int) : DaAll K H F (cutV vs lo hi) (cutD ds lo hi) := by
  unfold cutV cutD
  rw [h.len]
  exact (h.drop _).take _
theorem cutV_whole {vs : List V} {lo hi : Option Int} (h : HT.sIx vs.length 0 lo = 0 ∧ HT.sIx vs.length vs.length hi = vs.length) : cutV vs lo hi = vs := by
  unfold cutV
  rw [h.1, h.2, List.drop_zero, Nat.sub_zero, List.take_length]
/-- a part of a slice -/
def Pt (F : FS) (W : Hp → Prop) (tlo : TO) (σ : L2.St) (H : Hp) (lo : Option Int) : Prop := ∀ H1, Mv F H F H1 → Ok F W H1 → ∀ Q : Option Int → Hp → Prop, Q lo H1 → tlo σ H1 Q
theorem pt_n : Pt F W tNoPart σ H none := fun _ _ _ _ q => q
theorem pt_s (h : ∀ H1, Mv F H F H1 → Ok F W H1 → Val te σ H1 (.int i)) : Pt F W (tPart te) σ H (some i) := fun H1 m o _ q => h H1 m o _ ⟨_, rfl, q⟩
theorem dv_slT {lo hi : Option Int} {tlo thi : TO} (wo : Wo F W) (ha : Dv K F W ta σ H (.tuple ds)) (h1 : Pt F W tlo σ H lo) (h2 : Pt F W thi σ H hi) : Dv K F W (tSl (rSlA K) ta tlo thi) σ H (.tuple (cutD ds lo hi)) := fun H1 m o _ q =>
  ha H1 m o _ fun v H2 m2 o2 hv => h1 H2 (m.trans m2) o2 _ (h2 H2 (m.trans m2) o2 _ (by
    cases hv with | tup h3 h4 =>
    refine ⟨_, _, rfl, h3.sq, fun w => ?_, fun w p hp => ?_⟩
    · refine q _ _ m2 o2 (.tup h3 ?_)
      have := h4.cut lo hi
      rwa [cutV_whole w] at this
    · exact q _ _ (m2.trans (.same (smN hp))) (o2.same wo (smN hp)) (.tup ⟨SqT.of upd_same, .inl (o2.fa.no hp)⟩ ((h4.cut lo hi).same (smN hp)))))
theorem dn_slL {lo hi : Option Int} {tlo thi : TO} (wo : Wo F W) (ha : Dv K F W ta σ H (.list ds)) (h1 : Pt F W tlo σ H lo) (h2 : Pt F W thi σ H hi) : DvN K F W (tSl (rSlL K) ta tlo thi) σ H (cutD ds lo hi) := fun H1 m o _ q =>
  ha H1 m o _ fun v H2 m2 o2 hv => h1 H2 (m.trans m2) o2 _ (h2 H2 (m.trans m2) o2 _ (by
    cases hv with | lst h3 h4 =>
    exact ⟨_, _, rfl, SqL.of h3.at_, fun p hp => q _ _ (o2.free m2 hp) (m2.trans (.same (smN hp))) (o2.same wo (smN hp)) ⟨_, upd_same, (h4.cut lo hi).mv (mvN hp)⟩⟩))
theorem dv_slL {lo hi : Option Int} {tlo thi : TO} (wo : Wo F W) (ha : Dv K F W ta σ H (.list ds)) (h1 : Pt F W tlo σ H lo) (h2 : Pt F W thi σ H hi) : Dv K F W (tSl (rSlL K) ta tlo thi) σ H (.list (cutD ds lo hi)) := (dn_slL wo ha h1 h2).dv
theorem dv_slTt (j : Nat) {thi : TO} (wo : Wo F W) (ha : Dv K F W ta σ H (.tuple ds)) (h2 : Pt F W thi σ H (some (j : Int))) : Dv K F W (tSl (rSlA K) ta tNoPart thi) σ H (.tuple (ds.take j)) := (dv_slT wo ha pt_n h2).eq (by rw [cutD_to])
theorem dv_slTm (i j : Nat) {tlo thi : TO} (wo : Wo F W) (ha : Dv K F W ta σ H (.tuple ds)) (h1 : Pt F W tlo σ H (some (i : Int))) (h2 : Pt F W thi σ H (some (j : Int))) (hij : i ≤ j := by decide) : Dv K F W (tSl (rSlA K) ta tlo thi) σ H (.tuple ((ds.take j).drop i)) := (dv_slT wo ha h1 h2).eq (by rw [cutD_nat hij])
theorem dv_slTf (i : Nat) {tlo : TO} (wo : Wo F W) (ha : Dv K F W ta σ H (.tuple ds)) (h1 : Pt F W tlo σ H (some (i : Int))) : Dv K F W (tSl (rSlA K) ta tlo tNoPart) σ H (.tuple (ds.drop i)) := (dv_slT wo ha h1 pt_n).eq (by rw [cutD_from])
theorem dv_slLt (j : Nat) {thi : TO} (wo : Wo F W) (ha : Dv K F W ta σ H (.list ds)) (h2 : Pt F W thi σ H (some (j : Int))) : Dv K F W (tSl (rSlL K) ta tNoPart thi) σ H (.list (ds.take j)) := (dv_slL wo ha pt_n h2).eq (by rw [cutD_to])
theorem dv_slLm (i j : Nat) {tlo thi : TO} (wo : Wo F W) (ha : Dv K F W ta σ H (.list ds)) (h1 : Pt F W tlo σ H (some (i : Int))) (h2 : Pt F W thi σ H (some (j : Int))) (hij : i ≤ j := by decide) : Dv K F W (tSl (rSlL K) ta tlo thi) σ H (.list ((ds.take j).drop i)) := (dv_slL wo ha h1 h2).eq (by rw [cutD_nat hij])
theorem dv_slLf (i : Nat) {tlo : TO} (wo : Wo F W) (ha : Dv K F W ta σ H (.list ds)) (h1 : Pt F W tlo σ H (some (i : Int))) : Dv K F W (tSl (rSlL K) ta tlo tNoPart) σ H (.list (ds.drop i)) := (dv_slL wo ha h1 pt_n).eq (by rw [cutD_from])
theorem dv_ixT (ha : Dv K F W ta σ H (.tuple ds)) (hb : ∀ H1, Mv F H F H1 → Ok F W H1 → Val tb σ H1 (.int i)) (h0 : 0 ≤ i) (hx : ds[i.toNat]? = some d) : Dv K F W (tOp (rIxT K) ta tb) σ H d := fun H1 m o _ q =>
  ha H1 m o _ fun v H2 m2 o2 hv => hb H2 (m.trans m2) o2 _ (by
    cases hv with | tup h3 h4 =>
    obtain ⟨w, e1, e2⟩ := h4.get' _ hx
    exact ⟨_, _, _, _, rfl, rfl, h3.sq, at_of (j := i.toNat) (by omega) e1, q _ _ m2 o2 e2⟩)
theorem dv_ixL (ha : Dv K F W ta σ H (.list ds)) (hb : ∀ H1, Mv F H F H1 → Ok F W H1 → Val tb σ H1 (.int i)) (h0 : 0 ≤ i) (hx : ds[i.toNat]? = some d) : Dv K F W (tOp (rIxL K) ta tb) σ H d := fun H1 m o _ q =>
  ha H1 m o _ fun v H2 m2 o2 hv => hb H2 (m.trans m2) o2 _ (by
    cases hv with | lst h3 h4 =>
    obtain ⟨w, e1, e2⟩ := h4.get' _ hx
    exact ⟨_, _, _, _, rfl, rfl, SqL.of h3.at_, at_of (j := i.toNat) (by omega) e1, q _ _ m2 o2 e2⟩)
theorem dv_if {t : TT} (h : ∀ H1, Mv F H F H1 → Ok F W H1 → Ans t σ H1 c) (h1 : c = true → Dv K F W ta σ H d) (h2 : c = false → Dv K F W tb σ H d) : Dv K F W (tIf t ta tb) σ H d := fun H1 m o Q q => h H1 m o _ (by
  cases c with
  | true => exact (show (if true = true then _ else _) from by rw [if_pos rfl]; exact h1 rfl H1 m o Q q)
  | false => exact (show (if false = true then _ else _) from by rw [if_neg Bool.false_ne_true]; exact h2 rfl H1 m o Q q))
/-- a call by data -/
theorem dv_call {sp : Sp} (h : DvA K F W tA σ H ds) (hs : ∀ vs H1, Mv F H F H1 → Ok F W H1 → DaAll K H1 F vs ds → ∀ Q : VK, (∀ v H', Mv F H1 F H' → Ok F W H' → Da K H' F v d → Q v H') → sp vs H1 Q E0) : Dv K F W (tCall sp [] E0 tA) σ H d := fun H1 m o _ q =>
  h H1 m o _ fun vs H2 m2 o2 hv => by
    rw [List.append_nil]
    exact hs vs H2 (m.trans m2) o2 hv _ fun v H' m3 o3 hd => q v H' (m2.trans m3) o3 hd
theorem dv_cb {r : List V → Hp → VK → Prop} (h : DvA K F W tA σ H ds) (hs : ∀ vs H1, Mv F H F H1 → Ok F W H1 → DaAll K H1 F vs ds → ∀ Q : VK, (∀ v H', Mv F H1 F H' → Ok F W H' → Da K H' F v d → Q v H') → r vs H1 Q) : Dv K F W (tCB r tA) σ H d := fun H1 m o _ q =>
  h H1 m o _ fun vs H2 m2 o2 hv => hs vs H2 (m.trans m2) o2 hv _ fun v H' m3 o3 hd => q v H' (m2.trans m3) o3 hd
/-- (x,) * n, [x] * n -/
theorem daAll_flat : ∀ (n : Nat) {vs : List V}, DaAll K H F vs ds → DaAll K H F (List.replicate n vs).flatten (List.replicate n ds).flatten
  | 0, _, _ => .nil
  | n + 1, _, h => by rw [List.replicate_succ, List.replicate_succ, List.flatten_cons, List.flatten_cons]; exact h.app (daAll_flat n h)
theorem dv_repT {k : Int} (wo : Wo F W) (ha : Dv K F W ta σ H (.tuple ds)) (hb : ∀ H1, Mv F H F H1 → Ok F W H1 → Val tb σ H1 (.int k)) (h2 : 2 ≤ k ∧ k ≤ 1000) (hd : ds ≠ [] ∧ ds.length ≤ 1000) : Dv K F W (tOp (rRepT K) ta tb) σ H (.tuple (List.replicate k.toNat ds).flatten) := fun H1 m o _ q =>
  ha H1 m o _ fun v H2 m2 o2 hv => hb H2 (m.trans m2) o2 _ (by
    cases hv with | tup h3 h4 =>
    refine ⟨_, _, _, rfl, rfl, h3.sq, ?_, h2.1, h2.2, by rw [h4.len]; exact hd.2, fun p hp => q _ _ (m2.trans (.same (smN hp))) (o2.same wo (smN hp)) (.tup ⟨SqT.of upd_same, .inl (o2.fa.no hp)⟩ ((daAll_flat _ h4).same (smN hp)))⟩
    intro e
    subst e
    cases h4
    exact hd.1 rfl)
/-- statements -/
theorem q_d {k : Nat} (h : Dv K F W te σ H d) (o : Ok F W H) (q : ∀ v H', Mv F H F H' → Ok F W H' → Da K H' F v d → tz ⟨N, R, B, C'⟩ (σ.set k (some v)) H') : tSeq (tAsg te (gName k)) tz ⟨N, R, B, C'⟩ σ H := x_d h o q
theorem s_d {k : Nat} (h : Dv K F W te σ H d) (o : Ok F W H) (q : ∀ v H', Mv F H F H' → Ok F W H' → Da K H' F v d → N (σ.set k (some v)) H') : tAsg te (gName k) ⟨N, R, B, C'⟩ σ H := x_d h o q
theorem s_retD (h : Dv K F W te σ H d) (o : Ok F W H) (q : ∀ v H', Mv F H F H' → Ok F W H' → Da K H' F v d → R v H') : tRet te ⟨N, R, B, C'⟩ σ H := x_d h o q
/-! comparisons -/
theorem x_eqD {Q : VK} (o : Ok F W H) (ha : Dv K F W ta σ H d) (hb : Dv K F W tb σ H e) (sd : SeqAt.shaped d = true) (se : SeqAt.shaped e = true) (q : ∀ H', Mv F H F H' → Ok F W H' → Q (.bl (PyData.eqv d e)) H') : tOp (rEqD K) ta tb σ H Q :=
  show ta σ H _ from x_d ha o fun v H2 m2 o2 hv => show tb σ H2 _ from hb H2 m2 o2 _ fun w H3 m3 o3 hw => ⟨d, e, (hv.mv m3).dp, hw.dp, sd, se, q _ (m2.trans m3) o3⟩
theorem x_neD {Q : VK} (o : Ok F W H) (ha : Dv K F W ta σ H d) (hb : Dv K F W tb σ H e) (sd : SeqAt.shaped d = true) (se : SeqAt.shaped e = true) (q : ∀ H', Mv F H F H' → Ok F W H' → Q (.bl (!PyData.eqv d e)) H') : tOp (rNeD K) ta tb σ H Q :=
  show ta σ H _ from x_d ha o fun v H2 m2 o2 hv => show tb σ H2 _ from hb H2 m2 o2 _ fun w H3 m3 o3 hw => ⟨d, e, (hv.mv m3).dp, hw.dp, sd, se, q _ (m2.trans m3) o3⟩
theorem v_isiDL {b : Bool} {c : String} (hc : Val tb σ H (.ty c)) (h : ∃ y t, Val ta σ H y ∧ TyX K H y (.type t) ∧ PySem.W.kitOne K (.type t) (.type c) = some b) : Val (tCB (rIsi K) (tCons ta (tCons tb tNil))) σ H (.bl b) := v_isiL hc h
end
mutual
theorem eqv_refl : ∀ d : PyData, d.canLay0 = true → PyData.eqv d d = true
  | .none, _ => by rw [PyData.eqv]
  | .bool b, _ => by rw [PyData.eqv]; exact beq_self_eq_true b
  | .int i, _ => by rw [PyData.eqv]; exact beq_self_eq_true i
  | .str x, _ => by rw [PyData.eqv]; exact beq_self_eq_true x
  | .list xs, h => by rw [PyData.eqv]; exact eqvAll_refl xs (by simpa [PyData.canLay0] using h)
  | .tuple xs, h => by rw [PyData.eqv]; exact eqvAll_refl xs (by simpa [PyData.canLay0] using h)
  | .dict _, h => by simp [PyData.canLay0] at h
theorem eqvAll_refl : ∀ ds : List PyData, PyData.canLayAll0 ds = true → PyData.eqvAll ds ds = true
  | [], _ => by rw [PyData.eqvAll]
  | d :: ds, h => by
    have h' : d.canLay0 = true ∧ PyData.canLayAll0 ds = true := by simpa [PyData.canLayAll0] using h
    rw [PyData.eqvAll, eqv_refl d h'.1, eqvAll_refl ds h'.2]; rfl
end
/-- data of at most this depth -/
structure Sh (n : Nat) (d : PyData) : Prop where
  lay : d.canLay0 = true
  dep : d.depth ≤ n
structure ShAll (n : Nat) (ds : List PyData) : Prop where
  lay : PyData.canLayAll0 ds = true
  dep : PyData.depthAll ds ≤ n
section
variable {n m : Nat} {d : PyData} {ds es : List PyData}
theorem Sh.shaped (h : Sh n d) (hn : n ≤ 64 := by decide) : SeqAt.shaped d = true := by
  unfold SeqAt.shaped
  rw [Bool.and_eq_true_iff]
  exact ⟨h.lay, decide_eq_true (Nat.le_trans h.dep hn)⟩
theorem Sh.mono (h : Sh n d) (hn : n ≤ m) : Sh m d := ⟨h.lay, Nat.le_trans h.dep hn⟩
theorem sh_int {i : Int} : Sh n (.int i) := ⟨by simp [PyData.canLay0], by simp [PyData.depth]⟩
theorem sh_non : Sh n .none := ⟨by simp [PyData.canLay0], by simp [PyData.depth]⟩
theorem sh_bl {b : Bool} : Sh n (.bool b) := ⟨by simp [PyData.canLay0], by simp [PyData.depth]⟩
theorem sh_str {s : Str} (h : PyData.strOk s = true) : Sh n (.str s) := ⟨by rw [PyData.canLay0]; exact h, by simp [PyData.depth]⟩
theorem sh_list (h : ShAll n ds) : Sh (n + 1) (.list ds) := ⟨by rw [PyData.canLay0]; exact h.lay, by rw [PyData.depth]; exact Nat.succ_le_succ h.dep⟩
theorem sh_tup (h : ShAll n ds) : Sh (n + 1) (.tuple ds) := ⟨by rw [PyData.canLay0]; exact h.lay, by rw [PyData.depth]; exact Nat.succ_le_succ h.dep⟩
theorem shA_nil : ShAll n [] := ⟨by rw [PyData.canLayAll0], by rw [PyData.depthAll]; exact Nat.zero_le _⟩
theorem shA_cons (h : Sh n d) (t : ShAll n ds) : ShAll n (d :: ds) := ⟨by rw [PyData.canLayAll0, h.lay, t.lay]; rfl, by rw [PyData.depthAll]; exact Nat.max_le.mpr ⟨h.dep, t.dep⟩⟩
theorem shA_all : ∀ {ds : List PyData}, (∀ d ∈ ds, Sh n d) → ShAll n ds
  | [], _ => shA_nil
  | d :: ds, h => shA_cons (h d List.mem_cons_self) (shA_all fun e he => h e (List.mem_cons_of_mem _ he))
theorem shA_map {α : Type} {f : α → PyData} {xs : List α} (h : ∀ x ∈ xs, Sh n (f x)) : ShAll n (xs.map f) := shA_all fun d hd => by
  obtain ⟨x, hx, rfl⟩ := List.mem_map.mp hd
  exact h x hx
theorem shA_ints {ns : List Int} : ShAll n (ns.map PyData.int) := shA_map fun _ _ => sh_int
theorem sh_intsD {ns : List Int} : Sh (n + 1) (intsD ns) := sh_tup shA_ints
theorem sh_shot {P : Pn} (h : StOk P) : Sh 3 (shotD P) := by
  have s := shaped_shot h
  unfold SeqAt.shaped at s
  rw [Bool.and_eq_true_iff] at s
  refine ⟨s.1, ?_⟩
  have hb' : PyData.depthAll (List.map intsD P.blocks) ≤ 1 := depth_blocks P.blocks
  unfold shotD
  simp only [PyData.depth, PyData.depthAll, intsD, blocksD, depth_ints]
  have : PyData.depthAll (P.blocks.map fun b => PyData.tuple (b.map PyData.int)) ≤ 1 := hb'
  omega
theorem Sh.refl (h : Sh n d) : PyData.eqv d d = true := eqv_refl d h.lay
end
section
variable {K : PySem.W.Frag} {H H' : Hp} {F F1 : FS} {W : Hp → Prop} {σ : L2.St} {te ta tb tl : TE} {tA : TA} {v : V} {d e : PyData} {ds es : List PyData} {n : Nat}
/-- two readings of the same data -/
theorem x_eqS {Q : VK} (o : Ok F W H) (ha : Dv K F W ta σ H d) (hb : Dv K F W tb σ H d) (sd : Sh n d) (q : ∀ H', Mv F H F H' → Ok F W H' → Q (.bl true) H') (hn : n ≤ 64 := by decide) : tOp (rEqD K) ta tb σ H Q := x_eqD o ha hb (sd.shaped hn) (sd.shaped hn) (by rw [sd.refl]; exact q)
theorem x_neS {Q : VK} (o : Ok F W H) (ha : Dv K F W ta σ H d) (hb : Dv K F W tb σ H d) (sd : Sh n d) (q : ∀ H', Mv F H F H' → Ok F W H' → Q (.bl false) H') (hn : n ≤ 64 := by decide) : tOp (rNeD K) ta tb σ H Q := x_neD o ha hb (sd.shaped hn) (sd.shaped hn) (by rw [sd.refl]; exact q)
/-- comprehensions over data -/
structure LcI (K : PySem.W.Frag) (W : Hp → Prop) (H2 : Hp) (F : FS) (D : Addr) (m : Nat) (rs : List PyData) (H' : Hp) : Prop where
  mv : Mv F H2 (withF F D) H'
  ok : Ok (withF F D) W H'
  ex : ∃ ys, H' D = some (.lst ys) ∧ ys.length ≤ m ∧ DaAll K H' (withF F D) ys rs
theorem lci_0 {D : Addr} (wo : Wo F W) (o : Ok F W H) (hD : H D = none) : LcI K W H F D 0 [] (upd H D (.lst [])) := by
  have s := smN (o := HO.lst []) hD
  exact ⟨⟨fun b o _ e => s b o e, fun b f => f.imp id (fun e => by rw [e]; exact hD)⟩, ⟨fun b f => f.elim (o.fa.same s b) (fun e => by subst e; rw [upd_same]; exact fun e => by cases e), (o.same wo s).w⟩, [], upd_same, Nat.le_refl _, .nil⟩
theorem LcI.step {D : Addr} {rs : List PyData} {σ' : L2.St} {tt : TT} {c : Bool} (wo : Wo F W) (o : Ok F W H) (hD : H D = none) (hn : n < 100000) (iv : LcI K W H F D n rs H') (ht : Ans tt σ' H' c) (he : c = true → Dv K (withF F D) (fun H => W H ∧ H' D = H D) te σ' H' d) :
    tt σ' H' fun b H3 => if b = true then te σ' H3 fun y H4 => ∃ acc, H4 D = some (.lst acc) ∧ acc.length < sizeLine ∧ LcI K W H F D (n + 1) (if c = true then rs ++ [d] else rs) (upd H4 D (.lst (acc ++ [y]))) else LcI K W H F D (n + 1) (if c = true then rs ++ [d] else rs) H3 := by
  obtain ⟨ys, hl, hz, hys⟩ := iv.ex
  refine ht _ ?_
  cases c with
  | true =>
    refine iteT (x_d (he rfl) ⟨iv.ok.fa, iv.ok.w, rfl⟩ (fun y H3 m5 o5 hy => ⟨ys, by rw [← o5.w.2]; exact hl, ?_, ?_⟩))
    · exact Nat.lt_of_lt_of_le (show ys.length < 100000 by omega) (by rw [sizeLine_eq]; decide)
    · rw [if_pos rfl]
      have nF : ¬ F D := o.fa.no hD
      have mv : Mv (withF F D) H3 (withF F D) (upd H3 D (.lst (ys ++ [y]))) := ⟨fun b o nb e => by rw [upd_ne (fun q => nb (.inr q))]; exact e, fun _ f => .inl f⟩
      refine ⟨(iv.mv.trans m5).trans mv, ⟨fun b f => ?_, wo.loc _ _ (fun b o f e => by rw [upd_ne (fun q => nF (by rw [← q]; exact f))]; exact e) (.upd (o5.w.2.symm.trans hl)) o5.w.1⟩, ys ++ [y], upd_same, by rw [List.length_append]; simp; omega, ((hys.mv m5).app (.cons hy .nil)).mv mv⟩
      by_cases e : b = D
      · subst e; rw [upd_same]; exact fun e => by cases e
      · rw [upd_ne e]; exact o5.fa b f
  | false =>
    refine iteF ?_
    rw [if_neg Bool.false_ne_true]
    exact ⟨iv.mv, iv.ok, ys, hl, by omega, hys⟩
theorem LcI.done {D : Addr} {rs : List PyData} (iv : LcI K W H F D n rs H') : Mv F H F H' ∧ Ok F W H' ∧ OwL K F D H' rs := by
  obtain ⟨ys, hl, _, hys⟩ := iv.ex
  have m2 : Mv (withF F D) H' F H' := .less fun b f => .inl f
  exact ⟨iv.mv.trans m2, ⟨fun b f => iv.ok.fa b (.inl f), iv.ok.w⟩, ys, hl, hys⟩
def fmD {α : Type} (p : α → Bool) (f : α → PyData) (xs : List α) : List PyData := (xs.filter p).map f
theorem fmD_take {α : Type} {p : α → Bool} {f : α → PyData} {xs : List α} {m : Nat} {x : α} (h : xs[m]? = some x) : fmD p f (xs.take (m + 1)) = if p x = true then fmD p f (xs.take m) ++ [f x] else fmD p f (xs.take m) := by
  unfold fmD
  rw [List.take_add_one, h, List.filter_append, List.map_append]
  cases hp : p x <;> simp [hp]
theorem fmD_all {α : Type} {f : α → PyData} {xs : List α} : fmD (fun _ => true) f xs = xs.map f := by unfold fmD; rw [List.filter_eq_self.mpr (fun _ _ => rfl)]
theorem ans_yes {σ' : L2.St} : Ans tYes σ' H true := fun _ q => q
/-- what a comprehension's turn may use: F1 is F and the new list -/
structure Tn (F : FS) (W : Hp → Prop) (H : Hp) (F1 : FS) (W1 : Hp → Prop) (H1 : Hp) : Prop where
  mv : Mv F H F1 H1
  ok : Ok F1 W1 H1
  wo : Wo F1 W1
  sub : ∀ b, F b → F1 b
  w : ∀ H, W1 H → W H
  bk : ∀ H H', W1 H → W H' → (∀ b o, ¬ F b → H b = some o → H' b = some o) → W1 H'
  nt : ∀ H, W1 H → ∀ b, F1 b → F b ∨ ∃ xs, H b = some (.lst xs)
theorem LcI.tn {D : Addr} {rs : List PyData} {H0 : Hp} (m0 : Mv F H0 F H) (wo : Wo F W) (nF : ¬ F D) (iv : LcI K W H F D n rs H') : Tn F W H0 (withF F D) (fun H => W H ∧ H' D = H D) H' := by
  obtain ⟨ys, hl, _⟩ := iv.ex
  refine ⟨m0.trans iv.mv, ⟨iv.ok.fa, iv.ok.w, rfl⟩, ⟨fun H1 H2 k t w => ⟨wo.loc _ _ (fun b o f => k b o (.inl f)) t w.1, ?_⟩⟩, fun b f => .inl f, fun _ h => h.1, fun H1 H2 w1 w2 k => ⟨w2, ?_⟩, fun H1 w1 b f => f.imp id (fun e => ⟨ys, ?_⟩)⟩
  · have e := w.2
    rw [hl] at e
    rw [hl]
    exact (k D _ (.inr rfl) e.symm).symm
  · have e := w1.2
    rw [hl] at e
    rw [hl]
    exact (k D _ nF e.symm).symm
  · rw [e, ← w1.2]; exact hl
theorem dn_lcL {k : Nat} {ws : List Nat} {tt : TT} (p : PyData → Bool) (f : PyData → PyData) (wo : Wo F W) (h : Dv K F W tl σ H (.list ds)) (hn : ds.length ≤ 100000) (hw : ∀ x, wipe ((wipe σ ws).set k (some x)) ws = wipe σ ws)
    (ht : ∀ (i : Nat) (x : V) (d : PyData) (H1 : Hp) (F1 : FS) (W1 : Hp → Prop), Tn F W H F1 W1 H1 → ds[i]? = some d → Da K H1 F1 x d → Ans tt ((wipe σ ws).set k (some x)) H1 (p d))
    (he : ∀ (i : Nat) (x : V) (d : PyData) (H1 : Hp) (F1 : FS) (W1 : Hp → Prop), Tn F W H F1 W1 H1 → ds[i]? = some d → Da K H1 F1 x d → p d = true → Dv K F1 W1 te ((wipe σ ws).set k (some x)) H1 (f d)) : DvN K F W (tLc (iList K tl) (gName k) tt te ws) σ H (fmD p f ds) := fun H1 m o Q q =>
  h H1 m o _ fun v H2 m2 o2 hv => by
    cases hv with | @lst a xs _ h3 h4 =>
    refine ⟨a, rfl, ⟨xs, SqL.of h3.at_⟩, fun D hD => lc_list (xs := xs) (fun m H' => LcI K W H2 F D m (fmD p f (ds.take m)) H') (by rw [List.take_zero]; exact lci_0 wo o2 hD) (fun m H' _ e => SqL.of ((h3.mv e.mv).at_)) (fun i x H' hm e => ?_) (fun H' e => ?_)⟩
    · have tn := e.tn (m.trans m2) wo (o2.fa.no hD)
      obtain ⟨d, hd, hx⟩ := (h4.mv e.mv).getV _ hm
      refine ⟨hw _, ?_⟩
      rw [fmD_take hd]
      have hlt := (List.getElem?_eq_some_iff.mp hd).1
      exact e.step wo o2 hD (by omega) (ht i x d H' _ _ tn hd hx) (he i x d H' _ _ tn hd hx)
    · rw [h4.len, List.take_length] at e
      obtain ⟨r1, r2, r3⟩ := e.done
      exact q _ _ (o2.free m2 hD) (m2.trans r1) r2 r3
theorem dv_lcL {k : Nat} {ws : List Nat} {tt : TT} (p : PyData → Bool) (f : PyData → PyData) (wo : Wo F W) (h : Dv K F W tl σ H (.list ds)) (hn : ds.length ≤ 100000) (hw : ∀ x, wipe ((wipe σ ws).set k (some x)) ws = wipe σ ws)
    (ht : ∀ (i : Nat) (x : V) (d : PyData) (H1 : Hp) (F1 : FS) (W1 : Hp → Prop), Tn F W H F1 W1 H1 → ds[i]? = some d → Da K H1 F1 x d → Ans tt ((wipe σ ws).set k (some x)) H1 (p d))
    (he : ∀ (i : Nat) (x : V) (d : PyData) (H1 : Hp) (F1 : FS) (W1 : Hp → Prop), Tn F W H F1 W1 H1 → ds[i]? = some d → Da K H1 F1 x d → p d = true → Dv K F1 W1 te ((wipe σ ws).set k (some x)) H1 (f d)) : Dv K F W (tLc (iList K tl) (gName k) tt te ws) σ H (.list (fmD p f ds)) := (dn_lcL p f wo h hn hw ht he).dv
theorem dn_lcT {k : Nat} {ws : List Nat} {tt : TT} (p : PyData → Bool) (f : PyData → PyData) (wo : Wo F W) (h : Dv K F W tl σ H (.tuple ds)) (hn : ds.length ≤ 100000) (hw : ∀ x, wipe ((wipe σ ws).set k (some x)) ws = wipe σ ws)
    (ht : ∀ (i : Nat) (x : V) (d : PyData) (H1 : Hp) (F1 : FS) (W1 : Hp → Prop), Tn F W H F1 W1 H1 → ds[i]? = some d → Da K H1 F1 x d → Ans tt ((wipe σ ws).set k (some x)) H1 (p d))
    (he : ∀ (i : Nat) (x : V) (d : PyData) (H1 : Hp) (F1 : FS) (W1 : Hp → Prop), Tn F W H F1 W1 H1 → ds[i]? = some d → Da K H1 F1 x d → p d = true → Dv K F1 W1 te ((wipe σ ws).set k (some x)) H1 (f d)) : DvN K F W (tLc (iTup K tl) (gName k) tt te ws) σ H (fmD p f ds) := fun H1 m o Q q =>
  h H1 m o _ fun v H2 m2 o2 hv => by
    cases hv with | @tup a xs _ h3 h4 =>
    refine ⟨a, rfl, ⟨xs, h3.sq⟩, fun D hD => lc_tup (xs := xs) (fun m H' => LcI K W H2 F D m (fmD p f (ds.take m)) H') (by rw [List.take_zero]; exact lci_0 wo o2 hD) (fun m H' _ e => (h3.mv e.mv).sq) (fun i x H' hm e => ?_) (fun H' e => ?_)⟩
    · have tn := e.tn (m.trans m2) wo (o2.fa.no hD)
      obtain ⟨d, hd, hx⟩ := (h4.mv e.mv).getV _ hm
      refine ⟨hw _, ?_⟩
      rw [fmD_take hd]
      have hlt := (List.getElem?_eq_some_iff.mp hd).1
      exact e.step wo o2 hD (by omega) (ht i x d H' _ _ tn hd hx) (he i x d H' _ _ tn hd hx)
    · rw [h4.len, List.take_length] at e
      obtain ⟨r1, r2, r3⟩ := e.done
      exact q _ _ (o2.free m2 hD) (m2.trans r1) r2 r3
theorem dv_lcT {k : Nat} {ws : List Nat} {tt : TT} (p : PyData → Bool) (f : PyData → PyData) (wo : Wo F W) (h : Dv K F W tl σ H (.tuple ds)) (hn : ds.length ≤ 100000) (hw : ∀ x, wipe ((wipe σ ws).set k (some x)) ws = wipe σ ws)
    (ht : ∀ (i : Nat) (x : V) (d : PyData) (H1 : Hp) (F1 : FS) (W1 : Hp → Prop), Tn F W H F1 W1 H1 → ds[i]? = some d → Da K H1 F1 x d → Ans tt ((wipe σ ws).set k (some x)) H1 (p d))
    (he : ∀ (i : Nat) (x : V) (d : PyData) (H1 : Hp) (F1 : FS) (W1 : Hp → Prop), Tn F W H F1 W1 H1 → ds[i]? = some d → Da K H1 F1 x d → p d = true → Dv K F1 W1 te ((wipe σ ws).set k (some x)) H1 (f d)) : Dv K F W (tLc (iTup K tl) (gName k) tt te ws) σ H (.list (fmD p f ds)) := (dn_lcT p f wo h hn hw ht he).dv
theorem dn_lcR {k : Nat} {ws : List Nat} {tt : TT} {z : Int} (p : Nat → Bool) (f : Nat → PyData) (wo : Wo F W) (h : ∀ H1, Mv F H F H1 → Ok F W H1 → ValA tA σ H1 [.int z]) (hn : -100000 ≤ z ∧ z ≤ 100000) (hw : ∀ x, wipe ((wipe σ ws).set k (some x)) ws = wipe σ ws)
    (ht : ∀ (i : Nat) (H1 : Hp) (F1 : FS) (W1 : Hp → Prop), Tn F W H F1 W1 H1 → (i : Int) < z → Ans tt ((wipe σ ws).set k (some (.int (i : Int)))) H1 (p i))
    (he : ∀ (i : Nat) (H1 : Hp) (F1 : FS) (W1 : Hp → Prop), Tn F W H F1 W1 H1 → (i : Int) < z → p i = true → Dv K F1 W1 te ((wipe σ ws).set k (some (.int (i : Int)))) H1 (f i)) : DvN K F W (tLc (iRng1 tA) (gName k) tt te ws) σ H (fmD p f (List.range z.toNat)) := fun H2 m o Q q =>
  h H2 m o _ ⟨z, rfl, by omega, by omega, fun D hD => by
    refine lc_range (lo := 0) (n := z.toNat) (fun m H' => LcI K W H2 F D m (fmD p f (List.range m)) H') (lci_0 wo o hD) (fun i H' hm e => ?_) (fun H' e => ?_)
    · have tn := e.tn m wo (o.fa.no hD)
      have e0 : (0 : Int) + (i : Int) = (i : Int) := Int.zero_add _
      rw [e0]
      refine ⟨hw _, ?_⟩
      have er : fmD p f (List.range (i + 1)) = if p i = true then fmD p f (List.range i) ++ [f i] else fmD p f (List.range i) := by
        unfold fmD
        rw [List.range_succ, List.filter_append, List.map_append]
        cases hp : p i <;> simp [hp]
      rw [er]
      exact e.step wo o hD (by omega) (ht i H' _ _ tn (by omega)) (he i H' _ _ tn (by omega))
    · obtain ⟨r1, r2, r3⟩ := e.done
      exact q _ _ hD r1 r2 r3⟩
theorem dv_lcR {k : Nat} {ws : List Nat} {tt : TT} {z : Int} (p : Nat → Bool) (f : Nat → PyData) (wo : Wo F W) (h : ∀ H1, Mv F H F H1 → Ok F W H1 → ValA tA σ H1 [.int z]) (hn : -100000 ≤ z ∧ z ≤ 100000) (hw : ∀ x, wipe ((wipe σ ws).set k (some x)) ws = wipe σ ws)
    (ht : ∀ (i : Nat) (H1 : Hp) (F1 : FS) (W1 : Hp → Prop), Tn F W H F1 W1 H1 → (i : Int) < z → Ans tt ((wipe σ ws).set k (some (.int (i : Int)))) H1 (p i))
    (he : ∀ (i : Nat) (H1 : Hp) (F1 : FS) (W1 : Hp → Prop), Tn F W H F1 W1 H1 → (i : Int) < z → p i = true → Dv K F1 W1 te ((wipe σ ws).set k (some (.int (i : Int)))) H1 (f i)) : Dv K F W (tLc (iRng1 tA) (gName k) tt te ws) σ H (.list (fmD p f (List.range z.toNat))) := (dn_lcR p f wo h hn hw ht he).dv
end
section
variable {K : PySem.W.Frag} {H H' : Hp} {F F1 : FS} {W : Hp → Prop} {σ : L2.St} {te ta tb tl : TE} {tA : TA} {v : V} {d e : PyData} {ds es rs : List PyData} {n : Nat} {a : Addr} {xs : List V}
theorem fmD_eq : fmD (fun _ => true) (fun x : PyData => x) rs = rs := by unfold fmD; rw [List.filter_eq_self.mpr (fun _ _ => rfl), List.map_id']
/-- over a list of the world -/
theorem dn_lcO {k : Nat} {ws : List Nat} (rs : List PyData) (wo : Wo F W) (h : ∀ H1, Mv F H F H1 → Ok F W H1 → Val tl σ H1 (.ref a)) (hs : ∀ H1, W H1 → SqL K H1 a xs) (hl : rs.length = xs.length) (hn : xs.length ≤ 100000) (hw : ∀ x, wipe ((wipe σ ws).set k (some x)) ws = wipe σ ws)
    (he : ∀ (i : Nat) (x : V) (d : PyData) (H1 : Hp) (F1 : FS) (W1 : Hp → Prop), Tn F W H F1 W1 H1 → xs[i]? = some x → rs[i]? = some d → Dv K F1 W1 te ((wipe σ ws).set k (some x)) H1 d) : DvN K F W (tLc (iList K tl) (gName k) tYes te ws) σ H rs := fun H1 m o Q q =>
  h H1 m o _ (by
    refine ⟨a, rfl, ⟨xs, hs _ o.w⟩, fun D hD => lc_list (xs := xs) (fun m H' => LcI K W H1 F D m (fmD (fun _ => true) (fun x => x) (rs.take m)) H') (by rw [List.take_zero]; exact lci_0 wo o hD) (fun m H' _ e => hs _ e.ok.w) (fun i x H' hm e => ?_) (fun H' e => ?_)⟩
    · have tn := e.tn m wo (o.fa.no hD)
      have hlt := (List.getElem?_eq_some_iff.mp hm).1
      have hd : rs[i]? = some rs[i] := List.getElem?_eq_getElem (by omega)
      refine ⟨hw _, ?_⟩
      rw [fmD_take hd]
      exact e.step wo o hD (by omega) ans_yes (fun _ => he i x _ H' _ _ tn hm hd)
    · rw [← hl, List.take_length, fmD_eq] at e
      obtain ⟨r1, r2, r3⟩ := e.done
      exact q _ _ hD r1 r2 r3)
theorem dv_lcO {k : Nat} {ws : List Nat} (rs : List PyData) (wo : Wo F W) (h : ∀ H1, Mv F H F H1 → Ok F W H1 → Val tl σ H1 (.ref a)) (hs : ∀ H1, W H1 → SqL K H1 a xs) (hl : rs.length = xs.length) (hn : xs.length ≤ 100000) (hw : ∀ x, wipe ((wipe σ ws).set k (some x)) ws = wipe σ ws)
    (he : ∀ (i : Nat) (x : V) (d : PyData) (H1 : Hp) (F1 : FS) (W1 : Hp → Prop), Tn F W H F1 W1 H1 → xs[i]? = some x → rs[i]? = some d → Dv K F1 W1 te ((wipe σ ws).set k (some x)) H1 d) : Dv K F W (tLc (iList K tl) (gName k) tYes te ws) σ H (.list rs) := (dn_lcO rs wo h hs hl hn hw he).dv
end
section
variable {K : PySem.W.Frag} {H H' H0 : Hp} {F F1 : FS} {W : Hp → Prop} {σ : L2.St} {te ta tb to : TE} {tA : TA} {v : V} {d e : PyData} {ds es : List PyData} {D : Addr} {xs : List V} {N : L2.St → Hp → Prop} {R : VK} {B C' : L2.St → Hp → Prop} {tz : TS}
/-- a list of one's own, changed as one goes on -/
structure Own (K : PySem.W.Frag) (H0 : Hp) (F : FS) (W : Hp → Prop) (D : Addr) (H : Hp) (ds : List PyData) : Prop where
  fr : H0 D = none
  no : ¬ F D
  mv : Mv F H0 F H
  ok : Ok F W H
  ow : OwL K F D H ds
theorem x_dn {Q : VK} (h : DvN K F W te σ H ds) (o : Ok F W H) (m0 : Mv F H0 F H) (q : ∀ D H', Own K H0 F W D H' ds → Mv F H F H' → Q (.ref D) H') : te σ H Q := h H .refl o Q fun D H' hD m o' w => q D H' ⟨o.free m0 hD, o.fa.no hD, m0.trans m, o', w⟩ m
theorem q_dn' {k : Nat} (h : DvN K F W te σ H ds) (o : Ok F W H) (m0 : Mv F H0 F H) (q : ∀ D H', H D = none → Own K H0 F W D H' ds → Mv F H F H' → tz ⟨N, R, B, C'⟩ (σ.set k (some (.ref D))) H') : tSeq (tAsg te (gName k)) tz ⟨N, R, B, C'⟩ σ H := h H .refl o _ fun D H' hD m o' w => q D H' hD ⟨o.free m0 hD, o.fa.no hD, m0.trans m, o', w⟩ m
theorem s_dn' {k : Nat} (h : DvN K F W te σ H ds) (o : Ok F W H) (m0 : Mv F H0 F H) (q : ∀ D H', H D = none → Own K H0 F W D H' ds → Mv F H F H' → N (σ.set k (some (.ref D))) H') : tAsg te (gName k) ⟨N, R, B, C'⟩ σ H := h H .refl o _ fun D H' hD m o' w => q D H' hD ⟨o.free m0 hD, o.fa.no hD, m0.trans m, o', w⟩ m
theorem q_dn {k : Nat} (h : DvN K F W te σ H ds) (o : Ok F W H) (m0 : Mv F H0 F H) (q : ∀ D H', Own K H0 F W D H' ds → Mv F H F H' → tz ⟨N, R, B, C'⟩ (σ.set k (some (.ref D))) H') : tSeq (tAsg te (gName k)) tz ⟨N, R, B, C'⟩ σ H := x_dn h o m0 q
theorem Own.da (h : Own K H0 F W D H ds) : Da K H F (.ref D) (.list ds) := h.ow.da h.no
theorem Own.same (h : Own K H0 F W D H ds) (wo : Wo F W) (s : Same H H') : Own K H0 F W D H' ds := by
  obtain ⟨vs, h1, h2⟩ := h.ow
  exact ⟨h.fr, h.no, h.mv.trans (.same s), h.ok.same wo s, vs, s _ _ h1, h2.same s⟩
theorem Own.at_ (h : Own K H0 F W D H ds) : ∃ vs, H D = some (.lst vs) ∧ vs.length = ds.length := by
  obtain ⟨vs, h1, h2⟩ := h.ow
  exact ⟨vs, h1, h2.len⟩
/-- the world beside one's own list -/
theorem Own.tn (h : Own K H0 F W D H ds) (wo : Wo F W) : Ok (withF F D) (fun H1 => W H1 ∧ H1 D = H D) H ∧ Wo (withF F D) (fun H1 => W H1 ∧ H1 D = H D) := by
  obtain ⟨vs, h1, h2⟩ := h.ow
  refine ⟨⟨fun b f => f.elim (h.ok.fa b) (fun e => by rw [e, h1]; exact fun e => by cases e), h.ok.w, rfl⟩, ⟨fun H1 H2 k t w => ⟨wo.loc _ _ (fun b o f => k b o (.inl f)) t w.1, ?_⟩⟩⟩
  have e := w.2
  rw [h1] at e
  rw [h1]
  exact k D _ (.inr rfl) e
theorem Own.step {H1 : Hp} (h : Own K H0 F W D H ds) (wo : Wo F W) (m : Mv (withF F D) H (withF F D) H1) (o : Ok (withF F D) (fun H1 => W H1 ∧ H1 D = H D) H1) : Own K H0 F W D H1 ds := by
  obtain ⟨vs, h1, h2⟩ := h.ow
  refine ⟨h.fr, h.no, ⟨fun b o nb e => ?_, fun b f => .inl f⟩, ⟨fun b f => o.fa b (.inl f), o.w.1⟩, vs, by rw [o.w.2]; exact h1, h2.mv m⟩
  have nD : b ≠ D := fun q => by rw [q, h.fr] at e; cases e
  exact m.keep b o (fun f => f.elim nb nD) (h.mv.keep b o nb e)
/-- append -/
theorem x_own_app {Q : VK} (wo : Wo F W) (ow : Own K H0 F W D H ds) (ho : Val to σ H (.ref D)) (he : Dv K (withF F D) (fun H1 => W H1 ∧ H1 D = H D) ta σ H d) (hn : ds.length < 100000) (q : ∀ H', Own K H0 F W D H' (ds ++ [d]) → (∀ (F2 : FS), F2 D → (∀ b, F b → F2 b) → Mv F2 H F2 H') → Q .non H') : tBM K "list" rAppend to (tCons ta tNil) σ H Q := by
  obtain ⟨o1, w1⟩ := ow.tn wo
  obtain ⟨vs, h1, h2⟩ := ow.ow
  refine x_appendX ho h1 (x_d he o1 fun v H1 m o hv => ⟨D, vs, v, rfl, rfl, by rw [o.w.2]; exact h1, lt_line (by rw [h2.len]; omega), q _ ?_ ?_⟩)
  · have mU : Mv (withF F D) H1 (withF F D) (upd H1 D (.lst (vs ++ [v]))) := ⟨fun b o nb e => by rw [upd_ne (fun q => nb (.inr q))]; exact e, fun _ f => .inl f⟩
    refine ⟨ow.fr, ow.no, ⟨fun b o nb e => ?_, fun b f => .inl f⟩, ⟨fun b f => ?_, wo.loc _ _ (fun b o f e => by rw [upd_ne (fun q => ow.no (by rw [← q]; exact f))]; exact e) (.upd (o.w.2.trans h1)) o.w.1⟩, _, upd_same, (((h2.mv m).app (.cons hv .nil)).mv mU)⟩
    · have nD : b ≠ D := fun q => by rw [q, ow.fr] at e; cases e
      rw [upd_ne nD]
      exact m.keep b o (fun f => f.elim nb nD) (ow.mv.keep b o nb e)
    · rw [upd_ne (fun q => ow.no (by rw [← q]; exact f))]
      exact o.fa b (.inl f)
  · intro F2 fD sub
    refine ⟨fun b o nb e => ?_, fun b f => .inl f⟩
    have nD : b ≠ D := fun q => nb (by rw [q]; exact fD)
    rw [upd_ne nD]
    exact m.keep b o (fun f => f.elim (fun f => nb (sub b f)) nD) e
end
/-- a def that gives a new list -/
def spDN (K : PySem.W.Frag) (pre : List V → Hp → FS → (Hp → Prop) → List PyData → Prop) : Sp := fun vs H Q _ => ∃ F W ds, Wo F W ∧ Ok F W H ∧ pre vs H F W ds ∧ ∀ D H', H D = none → Mv F H F H' → Ok F W H' → OwL K F D H' ds → Q (.ref D) H'
def spDV (K : PySem.W.Frag) (pre : List V → Hp → FS → (Hp → Prop) → PyData → Prop) : Sp := fun vs H Q _ => ∃ F W d, Wo F W ∧ Ok F W H ∧ pre vs H F W d ∧ ∀ v H', Mv F H F H' → Ok F W H' → Da K H' F v d → Q v H'
section
variable {K : PySem.W.Frag} {H H' H0 : Hp} {F F1 : FS} {W : Hp → Prop} {σ : L2.St} {te ta tb to ti : TE} {tA : TA} {v : V} {vs : List V} {d e : PyData} {ds es : List PyData} {D : Addr} {xs : List V} {N : L2.St → Hp → Prop} {R : VK} {B C' : L2.St → Hp → Prop} {tz : TS} {i : Int}
theorem dn_sp {pre : List V → Hp → FS → (Hp → Prop) → List PyData → Prop} (wo : Wo F W) (h : ∀ H1, Mv F H F H1 → Ok F W H1 → ValA tA σ H1 vs) (hp : ∀ H1, Mv F H F H1 → Ok F W H1 → pre vs H1 F W ds) : DvN K F W (tCall (spDN K pre) [] E0 tA) σ H ds := fun H1 m o _ q =>
  h H1 m o _ (by rw [List.append_nil]; exact ⟨F, W, ds, wo, o, hp H1 m o, q⟩)
theorem dn_spD {pre : List V → Hp → FS → (Hp → Prop) → List PyData → Prop} (wo : Wo F W) (h : DvA K F W tA σ H es) (hp : ∀ vs H1, Mv F H F H1 → Ok F W H1 → DaAll K H1 F vs es → pre vs H1 F W ds) : DvN K F W (tCall (spDN K pre) [] E0 tA) σ H ds := fun H1 m o _ q =>
  h H1 m o _ fun vs H2 m2 o2 hv => by rw [List.append_nil]; exact ⟨F, W, ds, wo, o2, hp vs H2 (m.trans m2) o2 hv, fun D H' hD m3 o3 ow => q D H' (o2.free m2 hD) (m2.trans m3) o3 ow⟩
theorem dv_spW {pre : List V → Hp → FS → (Hp → Prop) → PyData → Prop} (wo : Wo F W) (h : ∀ H1, Mv F H F H1 → Ok F W H1 → ValA tA σ H1 vs) (hp : ∀ H1, Mv F H F H1 → Ok F W H1 → pre vs H1 F W d) : Dv K F W (tCall (spDV K pre) [] E0 tA) σ H d := fun H1 m o _ q =>
  h H1 m o _ (by rw [List.append_nil]; exact ⟨F, W, d, wo, o, hp H1 m o, q⟩)
theorem dv_spD {pre : List V → Hp → FS → (Hp → Prop) → PyData → Prop} (wo : Wo F W) (h : DvA K F W tA σ H ds) (hp : ∀ vs H1, Mv F H F H1 → Ok F W H1 → DaAll K H1 F vs ds → pre vs H1 F W d) : Dv K F W (tCall (spDV K pre) [] E0 tA) σ H d := fun H1 m o _ q =>
  h H1 m o _ fun vs H2 m2 o2 hv => by rw [List.append_nil]; exact ⟨F, W, d, wo, o2, hp vs H2 (m.trans m2) o2 hv, fun v H' m3 o3 hd => q v H' (m2.trans m3) o3 hd⟩
theorem DaAll.set : ∀ {vs : List V} {ds : List PyData} (i : Nat), DaAll K H F vs ds → Da K H F v d → DaAll K H F (vs.set i v) (ds.set i d)
  | _, _, _, .nil, _ => .nil
  | _, _, 0, .cons _ t, h => .cons h t
  | _, _, i + 1, .cons h0 t, h => .cons h0 (t.set i h)
theorem Own.put (wo : Wo F W) (ow : Own K H0 F W D H ds) (j : Nat) (hd : Da K H (withF F D) v d) : ∃ vs, H D = some (.lst vs) ∧ vs.length = ds.length ∧ Own K H0 F W D (upd H D (.lst (vs.set j v))) (ds.set j d) ∧ (∀ (F2 : FS), F2 D → Mv F2 H F2 (upd H D (.lst (vs.set j v)))) := by
  obtain ⟨vs, h1, h2⟩ := ow.ow
  have mU : Mv (withF F D) H (withF F D) (upd H D (.lst (vs.set j v))) := ⟨fun b o nb e => by rw [upd_ne (fun q => nb (.inr q))]; exact e, fun _ f => .inl f⟩
  refine ⟨vs, h1, h2.len, ⟨ow.fr, ow.no, ⟨fun b o nb e => ?_, fun b f => .inl f⟩, ⟨fun b f => ?_, wo.loc _ _ (fun b o f e => by rw [upd_ne (fun q => ow.no (by rw [← q]; exact f))]; exact e) (.upd h1) ow.ok.w⟩, _, upd_same, (h2.set j hd).mv mU⟩, fun F2 fD => ⟨fun b o nb e => by rw [upd_ne (fun q => nb (by rw [q]; exact fD))]; exact e, fun b f => .inl f⟩⟩
  · have nD : b ≠ D := fun q => by rw [q, ow.fr] at e; cases e
    rw [upd_ne nD]
    exact ow.mv.keep b o nb e
  · rw [upd_ne (fun q => ow.no (by rw [← q]; exact f))]
    exact ow.ok.fa b f
/-- D[i] = v -/
theorem q_own_set (wo : Wo F W) (ow : Own K H0 F W D H ds) (hv : Val te σ H v) (hd : Da K H (withF F D) v d) (ho : Val to σ H (.ref D)) (hi : Val ti σ H (.int i)) (h0 : 0 ≤ i) (h1 : i < (ds.length : Int)) (q : ∀ H', Own K H0 F W D H' (ds.set i.toNat d) → (∀ (F2 : FS), F2 D → Mv F2 H F2 H') → tz ⟨N, R, B, C'⟩ σ H') : tSeq (tAsg te (gSub to ti rSetL)) tz ⟨N, R, B, C'⟩ σ H := by
  obtain ⟨vs, e1, e2, o2, m2⟩ := ow.put wo i.toNat hd
  exact hv _ (ho _ (hi _ ⟨D, _, i, i.toNat, rfl, rfl, e1, ixN_int h0 (by rw [e2]; exact h1), q _ o2 m2⟩))
theorem OwL.len (h : OwL K F D H ds) : ∃ vs, H D = some (.lst vs) ∧ vs.length = ds.length := by obtain ⟨vs, h1, h2⟩ := h; exact ⟨vs, h1, h2.len⟩
theorem v_lenD (hd : Da K H F v (.list ds)) (h : Val ta σ H v) : Val (tCB (rLenQ K) (tCons ta tNil)) σ H (.int (ds.length : Int)) := by
  cases hd with | lst h1 h2 =>
  exact v_cb (va_cons h va_nil) fun _ q => ⟨_, _, rfl, .inl (SqL.of h1.at_), by rw [h2.len]; exact q⟩
theorem v_lenT (hd : Da K H F v (.tuple ds)) (h : Val ta σ H v) : Val (tCB (rLenQ K) (tCons ta tNil)) σ H (.int (ds.length : Int)) := by
  cases hd with | tup h1 h2 =>
  exact v_cb (va_cons h va_nil) fun _ q => ⟨_, _, rfl, .inr h1.sq, by rw [h2.len]; exact q⟩
end
/-! ### programs of the laws' menu -/
def someV (c : Int) : List (List Int) := [[769, 771, 640], [276, 149, 772, 640], [900, 771, 640]] ++ [[928, 774, mixV c 9973 1024, 928, 773, 40, 286, 640]] ++ [[768, 644, 769, 640, 296, 770, 775, 640], [776, 771, 262, 640], [900, 640]]
def frontV (c : Int) : List Int := (someV c).getD (mixV c 9967 7).toNat []
def mixC (c : Int) : List Int := (List.range 64).map fun (k : Nat) => mixV (c + 977 * (k : Int)) 10007 1024
def progV (c : Int) : List Int :=
  if mixV c 9949 8 = 0 then mixC c
  else if mixV c 9949 8 = 1 then (mixC c).map fun n => if n % 3 = 0 then 768 + n % 10 else n
  else frontV c ++ ((mixC c).set 21 (1 + c % 3)).drop (frontV c).length
theorem mixC_len (c : Int) : (mixC c).length = 64 := by simp [mixC]
theorem mixC_in (c : Int) : ∀ x ∈ mixC c, 0 ≤ x ∧ x < 1024 := by
  intro x hx
  obtain ⟨k, _, rfl⟩ := List.mem_map.mp hx
  exact ⟨mixV_lo (by decide), mixV_hi (by decide)⟩
theorem frontV_at (c : Int) : ∃ r, (someV c)[(mixV c 9967 7).toNat]? = some r ∧ r = frontV c := by
  have h0 := mixV_lo (c := c) (p := 9967) (m := 7) (by decide)
  have h1 := mixV_hi (c := c) (p := 9967) (m := 7) (by decide)
  have hl : (mixV c 9967 7).toNat < (someV c).length := by show _ < 7; omega
  refine ⟨_, List.getElem?_eq_getElem hl, ?_⟩
  unfold frontV
  rw [List.getD_eq_getElem?_getD, List.getElem?_eq_getElem hl]; rfl
theorem frontV_in (c : Int) : (frontV c).length ≤ 64 ∧ ∀ x ∈ frontV c, 0 ≤ x ∧ x < 1024 := by
  obtain ⟨r, h, rfl⟩ := frontV_at c
  have hm := List.mem_of_getElem? h
  have m0 := mixV_lo (c := c) (p := 9973) (m := 1024) (by decide)
  have m1 := mixV_hi (c := c) (p := 9973) (m := 1024) (by decide)
  generalize frontV c = r at hm
  unfold someV at hm
  generalize mixV c 9973 1024 = z at m0 m1 hm
  simp only [List.cons_append, List.nil_append, List.mem_cons, List.not_mem_nil, or_false] at hm
  rcases hm with rfl | rfl | rfl | rfl | rfl | rfl | rfl <;> refine ⟨by simp, fun x hx => ?_⟩ <;> simp only [List.mem_cons, List.not_mem_nil, or_false] at hx <;> omega
theorem progV_len (c : Int) : (progV c).length = 64 := by
  have h := (frontV_in c).1
  unfold progV
  split
  · exact mixC_len c
  split
  · rw [List.length_map]; exact mixC_len c
  · rw [List.length_append, List.length_drop, List.length_set, mixC_len]; omega
theorem progV_in (c : Int) : ∀ x ∈ progV c, 0 ≤ x ∧ x < 1024 := by
  have h := (frontV_in c).2
  have hm := mixC_in c
  unfold progV
  split
  · exact hm
  split
  · intro x hx
    obtain ⟨n, hn, rfl⟩ := List.mem_map.mp hx
    have := hm n hn
    split <;> omega
  · intro x hx
    rcases List.mem_append.mp hx with h1 | h1
    · exact h x h1
    · have h2 := List.mem_of_mem_drop h1
      exact mem_set_in (P := fun x => 0 ≤ x ∧ x < 1024) hm (by show 0 ≤ 1 + c % 3 ∧ 1 + c % 3 < 1024; omega) x h2
def intsL (ns : List Int) : List PyData := ns.map PyData.int
def preSome (vs : List V) (_ : Hp) (_ : FS) (_ : Hp → Prop) (d : PyData) : Prop := ∃ c : Int, vs = [.int c] ∧ d = .list (intsL (frontV c))
def preProg (vs : List V) (_ : Hp) (_ : FS) (_ : Hp → Prop) (ds : List PyData) : Prop := ∃ c : Int, vs = [.int c] ∧ ds = intsL (progV c)
section
variable {K : PySem.W.Frag} {H : Hp} {F : FS} {W : Hp → Prop} {σ : L2.St} {te : TE} {ds : List PyData} {xs : List V}
theorem dn_new (wo : Wo F W) (h : ∀ H1, Mv F H F H1 → Ok F W H1 → NewL te σ H1 xs) (hd : ∀ H1, Mv F H F H1 → Ok F W H1 → DaAll K H1 F xs ds) : DvN K F W te σ H ds := fun H1 m o _ q =>
  h H1 m o _ fun p hp => q _ _ hp (.same (smN hp)) (o.same wo (smN hp)) ⟨xs, upd_same, (hd H1 m o).mv (mvN hp)⟩
end
section
variable {σ : L2.St} {H : Hp} {K : PySem.W.Frag} {F : FS} {a : Addr} {te tl : TE} {tb tz : TS} {N : L2.St → Hp → Prop} {R : VK} {B C' : L2.St → Hp → Prop} {k : Nat} {xs : List V} {g : TG}
theorem s_forT (h : Val tl σ H (.ref a)) (hx : SqT K H a xs) (Pv : Nat → L2.St → Hp → Prop) (h0 : Pv 0 σ H) (hl : ∀ (i : Nat) σ' H', Pv i σ' H' → SqT K H' a xs)
    (hs : ∀ (i : Nat) x σ' H', xs[i]? = some x → Pv i σ' H' → tb ⟨Pv (i + 1), R, N, Pv (i + 1)⟩ (σ'.set k (some x)) H') (hd : ∀ σ' H', Pv xs.length σ' H' → N σ' H') : tFor (iTup K tl) (gName k) tb ⟨N, R, B, C'⟩ σ H :=
  h _ ⟨a, rfl, ⟨xs, hx⟩, for_tup (xs := xs) (D := ⟨N, R, B, C'⟩) Pv h0 (fun i σ' H' _ p => hl i σ' H' p) hs hd⟩
theorem q_forT (h : Val tl σ H (.ref a)) (hx : SqT K H a xs) (Pv : Nat → L2.St → Hp → Prop) (h0 : Pv 0 σ H) (hl : ∀ (i : Nat) σ' H', Pv i σ' H' → SqT K H' a xs)
    (hs : ∀ (i : Nat) x σ' H', xs[i]? = some x → Pv i σ' H' → tb ⟨Pv (i + 1), R, tz ⟨N, R, B, C'⟩, Pv (i + 1)⟩ (σ'.set k (some x)) H') (hd : ∀ σ' H', Pv xs.length σ' H' → tz ⟨N, R, B, C'⟩ σ' H') : tSeq (tFor (iTup K tl) (gName k) tb) tz ⟨N, R, B, C'⟩ σ H :=
  s_forT (N := tz ⟨N, R, B, C'⟩) (B := B) (C' := C') h hx Pv h0 hl hs hd
theorem qx_forT (h : te σ H fun v H1 => tSeq (tFor (iTup K (tC v)) g tb) tz ⟨N, R, B, C'⟩ σ H1) : tSeq (tFor (iTup K te) g tb) tz ⟨N, R, B, C'⟩ σ H := h
theorem isi_T {ta : TE} (h : Val ta σ H (.ref a)) (ht : SqT K H a xs) : ∃ y t, Val ta σ H y ∧ TyX K H y (.type t) ∧ PySem.W.kitOne K (.type t) (.type "tuple") = some true := by
  refine ⟨_, "tuple", h, ?_, kit_ty (by decide +kernel)⟩
  rcases ht with (ht | ⟨o, ht⟩) | ⟨o, its, n, hk, hc, _⟩
  · exact .base (.tup ht)
  · exact .fTuple ht
  · exact .kTuple hk hc
end
theorem v_notInV {σ : L2.St} {H : Hp} {K : PySem.W.Frag} {ta tb : TE} {x : V} {p : Addr} {xs : List V} {c : Bool} (ha : Val ta σ H x) (hb : Val tb σ H (.ref p)) (hs : SqL K H p xs) (e : inV x xs = c) (fx : flatV x = true := by rfl) (fs : xs.all flatV = true := by simp [flatV]) : Val (tOp (rIn K true) ta tb) σ H (.bl (!c)) := val_op ha hb fun _ q => ⟨p, xs, rfl, .inl hs, fx, fs, by rw [if_pos rfl, e]; exact q⟩
/-! ### the users' world for readings of data -/
def footF (A : PA) : FS := fun b => b ∈ A.foot
def orF (F G : FS) : FS := fun b => F b ∨ G b
abbrev noF : FS := fun _ => False
/-- a def that gives data -/
def spD0 (K : PySem.W.Frag) (pre : List V → Hp → FS → (Hp → Prop) → PyData → Prop) : Sp := fun vs H Q _ => ∃ F W d, Wo F W ∧ Ok F W H ∧ pre vs H F W d ∧ ∀ v H', Mv F H F H' → Ok F W H' → Da K H' F v d → Q v H'
/-- no tuple stands there -/
structure NoTup (H : Hp) (b : Addr) : Prop where
  a : ∀ xs, H b ≠ some (.tup xs)
  f : ∀ o xs, H b ≠ some (.frz o (.tup xs))
theorem NoTup.ins {H : Hp} {b C dx : Addr} {fs : List (Str × V)} (h : H b = some (.ins C dx fs)) : NoTup H b := ⟨(fun _ e => by rw [h] at e; cases e), (fun _ _ e => by rw [h] at e; cases e)⟩
theorem NoTup.lst {H : Hp} {b : Addr} {xs : List V} (h : H b = some (.lst xs)) : NoTup H b := ⟨(fun _ e => by rw [h] at e; cases e), (fun _ _ e => by rw [h] at e; cases e)⟩
theorem NoTup.dK {H : Hp} {b : Addr} {kvs : List (Key × V)} (h : H b = some (.dK kvs)) : NoTup H b := ⟨(fun _ e => by rw [h] at e; cases e), (fun _ _ e => by rw [h] at e; cases e)⟩
theorem Da.sqL {K : PySem.W.Frag} {H : Hp} {F : FS} {a : Addr} {ns : List Int} (h : Da K H F (.ref a) (.list (ns.map PyData.int))) : SqL K H a (ns.map V.int) := by
  cases h with | lst h1 h2 => rw [← h2.ints]; exact SqL.of h1.at_
def evD : Ev → PyData
  | .key l => .tuple [.str "key", .int l]
  | .tick => .tuple [.str "tick"]
  | .start p => .tuple [.str "start", .int p]
  | .step => .tuple [.str "step"]
section
variable {K : PySem.W.Frag} {H H' H1 : Hp} {F F1 G : FS} {W : Hp → Prop} {σ : L2.St} {te ta tb tl : TE} {tA : TA} {v : V} {vs : List V} {d e : PyData} {ds es : List PyData} {n : Nat} {C D a : Addr} {A B : PA} {P P' P2 : Pn} {N : L2.St → Hp → Prop} {R : VK} {Bk Ct : L2.St → Hp → Prop} {tz : TS} {ev : Ev}
theorem dv_sp {pre : List V → Hp → FS → (Hp → Prop) → PyData → Prop} (wo : Wo F W) (h : DvA K F W tA σ H ds) (hp : ∀ vs H1, Mv F H F H1 → Ok F W H1 → DaAll K H1 F vs ds → pre vs H1 F W d) : Dv K F W (tCall (spD0 K pre) [] E0 tA) σ H d :=
  dv_call h fun vs H1 m o hd Q q => ⟨F, W, d, wo, o, hp vs H1 m o hd, q⟩
theorem dv_spV {pre : List V → Hp → FS → (Hp → Prop) → PyData → Prop} (wo : Wo F W) (h : ∀ H1, Mv F H F H1 → Ok F W H1 → ValA tA σ H1 vs) (hp : ∀ H1, Mv F H F H1 → Ok F W H1 → pre vs H1 F W d) : Dv K F W (tCall (spD0 K pre) [] E0 tA) σ H d := fun H1 m o _ q =>
  h H1 m o _ (by rw [List.append_nil]; exact ⟨F, W, d, wo, o, hp H1 m o, q⟩)
theorem Da.evT (h : Da K H F (.ref a) (evD ev)) : SqT K H a (evV ev) := by
  cases ev with
  | key l => cases h with | tup h1 h2 => cases h2 with | cons z1 h2 => cases h2 with | cons z2 h2 => cases h2; cases z1; cases z2; exact h1.sq
  | tick => cases h with | tup h1 h2 => cases h2 with | cons z1 h2 => cases h2; cases z1; exact h1.sq
  | start p => cases h with | tup h1 h2 => cases h2 with | cons z1 h2 => cases h2 with | cons z2 h2 => cases h2; cases z1; cases z2; exact h1.sq
  | step => cases h with | tup h1 h2 => cases h2 with | cons z1 h2 => cases h2; cases z1; exact h1.sq
theorem Da.evR (h : Da K H F v (evD ev)) : ∃ a, v = .ref a ∧ SqT K H a (evV ev) := by
  have : ∃ a, v = .ref a := by
    cases ev <;> (cases h; exact ⟨_, rfl⟩)
  obtain ⟨a, rfl⟩ := this
  exact ⟨a, rfl, h.evT⟩
theorem sh_ev : Sh 1 (evD ev) := by
  cases ev
  · exact sh_tup (shA_cons (sh_str (by decide +kernel)) (shA_cons sh_int shA_nil))
  · exact sh_tup (shA_cons (sh_str (by decide +kernel)) (shA_cons sh_int shA_nil))
  · exact sh_tup (shA_cons (sh_str (by decide +kernel)) shA_nil)
  · exact sh_tup (shA_cons (sh_str (by decide +kernel)) shA_nil)
theorem da_intsT_inv {ns : List Int} (h : Da K H F v (intsD ns)) : ∃ b, v = .ref b ∧ SqT K H b (ns.map V.int) := dp_ints_inv h.dp
/-- pictures are data -/
theorem Dp.da (no : ∀ b, F b → NoTup H b) (h : Dp K H (.ref a) (shotD P)) : Da K H F (.ref a) (shotD P) := by
  have T : ∀ b xs, SqT K H b xs → TpA K H F b xs := fun b xs hs => ⟨hs, by
    rcases hs with (e | ⟨o, e⟩) | e
    · exact .inl fun f => (no b f).a _ e
    · exact .inl fun f => (no b f).f _ _ e
    · exact .inr fun _ => .inr e⟩
  obtain ⟨a0, a4, a5, a6, a7, as, s⟩ := shot_inv h
  have I : ∀ b ns, SqT K H b (ns.map V.int) → Da K H F (.ref b) (intsD ns) := fun b ns hs => .tup (T _ _ hs) (daAll_ints ns)
  have B : ∀ (bs : List (List Int)) (as : List Addr), as.length = bs.length → (∀ (i : Nat) b, as[i]? = some b → ∃ ws, bs[i]? = some ws ∧ SqT K H b (ws.map V.int)) → DaAll K H F (as.map V.ref) (bs.map intsD) := by
    intro bs
    induction bs with
    | nil => intro as hl _; cases as with
      | nil => exact .nil
      | cons _ _ => cases hl
    | cons w r ih => intro as hl hr; cases as with
      | nil => cases hl
      | cons b as =>
        obtain ⟨ws, e1, e2⟩ := hr 0 b rfl
        cases e1
        exact .cons (I _ _ e2) (ih as (by simpa using hl) fun i c e => hr (i + 1) c e)
  exact .tup (T _ _ s.top) (.cons (I _ _ s.cs) (.cons (.int _) (.cons (.int _) (.cons (.int _) (.cons (I _ _ s.ib) (.cons (I _ _ s.ob) (.cons (I _ _ s.pp) (.cons (.tup (T _ _ s.bl) (B _ _ s.len s.row)) (.cons (.int _) (.cons (.str _) (.cons (.int _) (.cons (.int _) (.cons (.int _) .nil)))))))))))))
/-- the world of one user, of two -/
abbrev UW (C D : Addr) (A : PA) (P : Pn) : Hp → Prop := fun H => PAt C D H A P
theorem PAt.loc (h : PAt C D H A P) (k : ∀ b o, b ∈ A.foot → H b = some o → H' b = some o) : PAt C D H' A P := by
  obtain ⟨f1, f2, f3, f4, f5, f6, f7⟩ := PAt.fp A
  exact ⟨k _ _ f1 h.hp, k _ _ f2 h.hm, k _ _ f3 h.hc, k _ _ f4 h.hi, k _ _ f5 h.ho, k _ _ f6 h.hq, k _ _ f7 h.hb, fun i b hb => by
    obtain ⟨ws, w1, w2⟩ := h.hbs i b hb
    exact ⟨ws, w1, k _ _ (by unfold PA.foot; exact List.mem_append_right _ (List.mem_of_getElem? hb)) w2⟩, h.len, h.nd⟩
theorem woU : Wo (footF A) (UW C D A P) := ⟨fun _ _ k _ w => w.loc fun b o f => k b o f⟩
theorem PAt.fa (h : PAt C D H A P) : FA (footF A) H := fun b f e => by rcases h.obj b f with ⟨_, _, _, z⟩ | ⟨_, z⟩ <;> rw [z] at e <;> cases e
theorem okU (h : PAt C D H A P) : Ok (footF A) (UW C D A P) H := ⟨h.fa, h⟩
theorem PAt.noT (h : PAt C D H A P) : ∀ b, footF A b → NoTup H b := fun b f => by
  rcases h.obj b f with ⟨_, _, _, z⟩ | ⟨_, z⟩
  · exact .ins z
  · exact .lst z
theorem Fr.tps (f : Fr A.foot H H') (h : PAt C D H A P) : TpS H H' := fun b xs e => f b _ (fun hm => (h.noT b hm).a _ e) e
theorem Fr.mv (f : Fr A.foot H H') (g : ∀ b, footF A b → F b) : Mv F H F H' := ⟨fun b o n e => f b o (fun m => n (g b m)) e, fun _ h => .inl h⟩
theorem FA.fr (fa : FA F H) (f : Fr A.foot H H') (h : PAt C D H' A P) : FA F H' := fun b fb e => by
  by_cases c : b ∈ A.foot
  · exact h.fa b c e
  · cases z : H b with
    | none => exact fa b fb z
    | some o => rw [f b o c z] at e; cases e
/-- a new user from data -/
theorem Mv.newU (o : Ok F W H) (fr : ∀ b ∈ A.foot, H b = none) (s : Same H H') : Mv F H (orF F (footF A)) H' := ⟨fun b o _ e => s b o e, fun b f => f.imp id (fr b)⟩
theorem x_personOf {Q : VK} (h : Dv K F W te σ H (shotD P)) (hb : P.blocks.length = 4) (wo : Wo F W) (o : Ok F W H) (q : ∀ A H', Mv F H (orF F (footF A)) H' → FA F H' → W H' → PAt C D H' A P → (∀ b ∈ A.foot, ¬ F b) → (∀ b o, H b = some o → b ∉ A.foot) → Q (.ref A.p) H') : tCall (spPersonOf K C D) [] E0 (tCons te tNil) σ H Q :=
  xc_1 (x_d h o fun v H1 m1 o1 hv => by
    have : ∃ a, v = .ref a := by unfold shotD at hv; cases hv; exact ⟨_, rfl⟩
    obtain ⟨a, rfl⟩ := this
    refine ⟨a, P, rfl, hv.dp, hb, fun A H' fr s hA => q A H' (m1.trans (Mv.newU o1 fr s)) (o1.fa.same s) (o1.same wo s).w hA (fun b hb f => o1.fa b f (fr b hb)) (fun b o e hm => ?_)⟩
    by_cases c : F b
    · exact o1.fa b c (fr b hm)
    · have := m1.keep b o c e
      rw [fr b hm] at this; cases this)
theorem x_personD {Q : VK} {cs : List Int} {sw : Int} (h : Dv K F W te σ H d) (hd : d = .list (cs.map PyData.int) ∨ d = intsD cs) (hs : ∀ H1, Mv F H F H1 → Ok F W H1 → Val ta σ H1 (.int sw)) (wo : Wo F W) (o : Ok F W H) (q : ∀ A H', Mv F H (orF F (footF A)) H' → FA F H' → W H' → PAt C D H' A (newP cs sw) → (∀ b ∈ A.foot, ¬ F b) → (∀ b o, H b = some o → b ∉ A.foot) → Q (.ref A.p) H') : tMake D (spPerson K C D) [] E0 (tCons te (tCons ta tNil)) σ H Q := by
  show te σ H _
  refine x_d h o fun v H1 m1 o1 hv => ?_
  have hq : ∃ a, v = .ref a ∧ SqI K H1 a cs := by
    rcases hd with rfl | rfl
    · cases hv with | lst h1 h2 => exact ⟨_, rfl, .inl (by rw [← h2.ints]; exact SqL.of h1.at_)⟩
    · cases hv with | tup h1 h2 => exact ⟨_, rfl, .inr (by rw [← h2.ints]; exact h1.sq)⟩
  obtain ⟨a, rfl, hsq⟩ := hq
  show ta σ H1 _
  refine hs H1 m1 o1 _ ?_
  refine (x_person (σ := σ) (H := H1) (tA := fun _ H2 Q2 => Q2 [.ref a, .int sw] H2) (sw := sw) (cs := cs) (fun Q2 q2 => q2) hsq (fun A H' fr s hA => q A H' (m1.trans (Mv.newU o1 fr s)) (o1.fa.same s) (o1.same wo s).w hA (fun b hb f => o1.fa b f (fr b hb)) (fun b o e hm => ?_)) : _)
  by_cases c : F b
  · exact o1.fa b c (fr b hm)
  · have := m1.keep b o c e
    rw [fr b hm] at this; cases this
/-- an event happens -/
theorem q_hap (ha : ∀ H1, Val ta σ H1 (.ref A.p)) (he : Dv K F W te σ H (evD ev)) (o : Ok F W H) (up : ∀ H1, W H1 → PAt C D H1 A P) (sub : ∀ b, footF A b → F b) (w : WfP P) (hs : Short P) (q : ∀ H1 H', Ok F W H1 → PAt C D H' A (happenP P ev) → Fr A.foot H1 H' → Mv F H F H' → FA F H' → tz ⟨N, R, Bk, Ct⟩ σ H') : tSeq (tDrop (tCall (spHappen K C D) [] E0 (tCons ta (tCons te tNil)))) tz ⟨N, R, Bk, Ct⟩ σ H :=
  qx_drop (xc_2 (ha H) (x_d he o fun v H1 m1 o1 hv => by
    obtain ⟨a, rfl, hE⟩ := hv.evR
    exact ⟨A, P, a, ev, rfl, up _ o1.w, w, hs, hE, fun H' h' f => q H1 H' o1 h' f (m1.trans (f.mv sub)) (o1.fa.fr f h')⟩))
theorem s_hap (ha : ∀ H1, Val ta σ H1 (.ref A.p)) (he : Dv K F W te σ H (evD ev)) (o : Ok F W H) (up : ∀ H1, W H1 → PAt C D H1 A P) (sub : ∀ b, footF A b → F b) (w : WfP P) (hs : Short P) (q : ∀ H1 H', Ok F W H1 → PAt C D H' A (happenP P ev) → Fr A.foot H1 H' → Mv F H F H' → FA F H' → N σ H') : tDrop (tCall (spHappen K C D) [] E0 (tCons ta (tCons te tNil))) ⟨N, R, Bk, Ct⟩ σ H :=
  sx_drop (xc_2 (ha H) (x_d he o fun v H1 m1 o1 hv => by
    obtain ⟨a, rfl, hE⟩ := hv.evR
    exact ⟨A, P, a, ev, rfl, up _ o1.w, w, hs, hE, fun H' h' f => q H1 H' o1 h' f (m1.trans (f.mv sub)) (o1.fa.fr f h')⟩))
/-- a picture -/
theorem dv_pic (ha : ∀ H1, Mv F H F H1 → Ok F W H1 → Val ta σ H1 (.ref A.p)) (wo : Wo F W) (up : ∀ H1, W H1 → PAt C D H1 A P) (hb : P.blocks.length = 4) (no : ∀ H1, W H1 → ∀ b, F b → NoTup H1 b) : Dv K F W (tCall (spPicture K C D) [] E0 (tCons ta tNil)) σ H (shotD P) := fun H1 m o _ q =>
  ha H1 m o _ ⟨A, P, rfl, up _ o.w, hb, fun a H' s hd => q _ _ (.same s) (o.same wo s) (Dp.da (no _ (o.same wo s).w) hd)⟩
end
/-- the script beside -/
structure SF (K : PySem.W.Frag) (H : Hp) (F : FS) (a : Addr) (ns : List Int) : Prop where
  sq : SqL K H a (ns.map V.int)
  no : ¬ F a ∨ ∀ H', SqL K H' a (ns.map V.int)
section
variable {K : PySem.W.Frag} {H H' : Hp} {F F' : FS} {a : Addr} {ns : List Int}
theorem SF.mv (h : SF K H F a ns) (m : Mv F H F' H') : SF K H' F' a ns := by
  obtain ⟨h, n⟩ := h
  rcases n with n | n
  · rcases h with (h | ⟨o, h⟩) | h
    · exact ⟨.inl (.inl (m.keep _ _ n h)), .inl fun f => (m.new a f).elim n (fun e => by rw [h] at e; cases e)⟩
    · exact ⟨.inl (.inr ⟨o, m.keep _ _ n h⟩), .inl fun f => (m.new a f).elim n (fun e => by rw [h] at e; cases e)⟩
    · exact ⟨.inr h, .inr fun _ => .inr h⟩
  · exact ⟨n _, .inr n⟩
theorem SF.of (h : SqL K H a (ns.map V.int)) : SF K H noF a ns := ⟨h, .inl fun f => f⟩
end
theorem hd_list {f : PyData → PyData} {ds : List PyData} {xs : List Int} (h : ds = xs.map PyData.int) : PyData.list ds = .list (xs.map PyData.int) := by rw [h]
theorem paper_run : ∀ (es : List Ev) (P : Pn), (runP P es).paper.length ≤ P.paper.length + es.length
  | [], P => Nat.le_refl _
  | e :: es, P => by
    have h1 := paper_run es (happenP P e)
    have h2 := paper_happen P e
    show (runP (happenP P e) es).paper.length ≤ _
    rw [List.length_cons]; omega
theorem wf_run : ∀ {es : List Ev} {P : Pn}, WfP P → (∀ e ∈ es, EvOk e) → WfP (runP P es)
  | [], _, w, _ => w
  | e :: es, _, w, h => wf_run (es := es) (wfP_happen w (h e List.mem_cons_self)) fun x hx => h x (List.mem_cons_of_mem _ hx)
theorem runP_take {P : Pn} {es : List Ev} {i : Nat} {e : Ev} (h : es[i]? = some e) : runP P (es.take (i + 1)) = happenP (runP P (es.take i)) e := by
  unfold runP
  rw [List.take_add_one, h, List.foldl_append]; rfl
theorem stk {P P' : Pn} (e : P'.st = P.st) (h : StOk P) : StOk P' := by unfold StOk; rw [e]; exact h
theorem st_carry (P : Pn) (f : Bool) : (carryP P f).st = P.st := by
  unfold carryP; dsimp only
  split
  · rfl
  · split <;> rfl
theorem st_ask {P : Pn} (h : StOk P) (p : Int) : StOk (askP P p) := by
  by_cases h0 : p = 0
  · subst h0
    by_cases c : P.inbox = []
    · rw [ask_0 c]; exact h
    · rw [ask_0s c]; exact stk (P := P) rfl h
  by_cases h2 : p = 2
  · subst h2
    unfold askP
    split
    · exact stk (P := P) rfl h
    · exact h
  unfold askP
  rw [if_neg (by simp [h0, h2])]
  by_cases h1 : p = 1
  · rw [if_pos h1]
    cases hx : P.inbox with
    | nil => rw [hearP_nil hx]; exact .inr (.inr (.inl rfl))
    | cons x r => rw [hearP_cons hx]; exact stk (P := P) rfl h
  rw [if_neg h1]
  by_cases h3 : p = 3
  · rw [if_pos h3]; unfold sayP; split
    · exact .inr (.inr (.inr (.inl rfl)))
    · exact stk (P := P) rfl h
  rw [if_neg h3]
  by_cases h4 : p = 4
  · rw [if_pos h4]; unfold dozeP; split
    · exact .inr (.inr (.inr (.inr rfl)))
    · exact h
  rw [if_neg h4]
  by_cases h5 : p = 5
  · rw [if_pos h5]; exact stk (st_carry P _) h
  rw [if_neg h5]
  by_cases h6 : p = 6
  · rw [if_pos h6]; exact stk (st_carry P _) h
  rw [if_neg h6]
  by_cases h7 : p = 7
  · rw [if_pos h7]; exact .inl rfl
  rw [if_neg h7]
  by_cases h8 : p = 8
  · rw [if_pos h8]; exact stk (P := P) rfl h
  rw [if_neg h8]; exact h
theorem st_wake {P : Pn} (s : Str) (h : StOk P) : StOk (wakeP P s) := by
  unfold wakeP; split
  · exact .inr (.inl rfl)
  · exact h
theorem st_happen {P : Pn} (h : StOk P) (e : Ev) : StOk (happenP P e) := by
  cases e with
  | key l =>
    refine st_wake _ ?_
    split
    · exact stk (P := P) rfl h
    · exact stk (P := P) rfl h
  | tick =>
    have h1 : StOk (tick1P P) := by
      unfold tick1P; split
      · exact h
      · exact st_wake _ (stk (P := P) rfl h)
    show StOk (tick2P (tick1P P))
    unfold tick2P
    split
    · split
      · exact .inr (.inl rfl)
      · exact stk (P := tick1P P) rfl h1
    · exact h1
  | start p =>
    show StOk (if P.st = "stopped" then _ else P)
    split
    · exact .inr (.inl rfl)
    · exact h
  | step =>
    show StOk (if P.st = "ready" then stepP P else P)
    split
    · unfold stepP; dsimp only; split
      · refine st_ask ?_ _
        exact stk (P := P) rfl h
      · exact stk (P := P) rfl h
    · exact h
theorem st_run : ∀ {es : List Ev} {P : Pn}, StOk P → StOk (runP P es)
  | [], _, h => h
  | e :: es, _, h => st_run (es := es) (st_happen h e)
/-- alone: a new user, its events -/
def spAlone (K : PySem.W.Frag) (C D : Addr) : Sp := fun vs H Q _ => ∃ (F : FS) (W : Hp → Prop) (vc vE : V) (cs : List Int) (sw : Int) (es : List Ev), vs = [vc, .int sw, vE] ∧ Wo F W ∧ Ok F W H ∧ Da K H F vc (.list (cs.map PyData.int)) ∧ Da K H F vE (.list (es.map evD)) ∧
  WfP (newP cs sw) ∧ (∀ e ∈ es, EvOk e) ∧ es.length ≤ 1000 ∧ ∀ A H', Mv F H (orF F (footF A)) H' → FA F H' → W H' → PAt C D H' A (runP (newP cs sw) es) → (∀ b ∈ A.foot, ¬ F b) → (∀ b o, H b = some o → b ∉ A.foot) → Q (.ref A.p) H'
theorem va_2 {σ : L2.St} {H : Hp} {ta tb tc : TE} {v w : V} {Q : List V → Hp → Prop} (ha : Val ta σ H v) (hb : Val tb σ H w) (h : tc σ H fun x H1 => Q [v, w, x] H1) : tCons ta (tCons tb (tCons tc tNil)) σ H Q := ha _ (hb _ h)
theorem da_ev {K : PySem.W.Frag} {H : Hp} {F : FS} {a : Addr} {e : Ev} (h : H a = some (.tup (evV e))) (n : ¬ F a) : Da K H F (.ref a) (evD e) := by
  cases e with
  | key l => exact .tup ⟨SqT.of h, .inl n⟩ (.cons (.str _) (.cons (.int _) .nil))
  | tick => exact .tup ⟨SqT.of h, .inl n⟩ (.cons (.str _) .nil)
  | start p => exact .tup ⟨SqT.of h, .inl n⟩ (.cons (.str _) (.cons (.int _) .nil))
  | step => exact .tup ⟨SqT.of h, .inl n⟩ (.cons (.str _) .nil)
theorem daAll_evs {K : PySem.W.Frag} {H : Hp} {F : FS} : ∀ {as : List Addr} {es : List Ev}, as.length = es.length → (∀ (i : Nat) a e, as[i]? = some a → es[i]? = some e → H a = some (.tup (evV e)) ∧ ¬ F a) → DaAll K H F (as.map V.ref) (es.map evD)
  | [], [], _, _ => .nil
  | [], _ :: _, h, _ => by cases h
  | _ :: _, [], h, _ => by cases h
  | a :: as, e :: es, hl, h => .cons (da_ev (h 0 a e rfl rfl).1 (h 0 a e rfl rfl).2) (daAll_evs (by simpa using hl) fun i b f h1 h2 => h (i + 1) b f h1 h2)
/-! ### the house: its mirror -/
structure Ho where
  ps : List Pn
  guests : List (Option Nat)
  stale : List (List Int)
  turn : Nat
  swaps : Int
  quantum : Int
  beat : Int
  diaries : List (List Ev)
  runs : Option Nat
  row : List Nat
  steps : Int
  idle : Int
  ticks : Int
  left : Int
def pu (h : Ho) (u : Nat) : Pn := h.ps.getD u (newP [] 0)
def cu (h : Ho) (u : Nat) : List Int := (pu h u).m.cells
def dy (h : Ho) (u : Nat) : List Ev := h.diaries.getD u []
def roomN (gs : List (Option Nat)) (u : Nat) : Option Nat := gs.findIdx? fun g => g == some u
def roomH (h : Ho) (u : Nat) : Option Nat := roomN h.guests u
def rdy (h : Ho) (u : Nat) : Prop := (pu h u).st = "ready"
instance (h : Ho) (u : Nat) : Decidable (rdy h u) := by unfold rdy; infer_instance
/-- an event happens to user u -/
def evA (h : Ho) (u : Nat) (e : Ev) : Ho := { h with ps := h.ps.set u (happenP (pu h u) e) }
def evB (h : Ho) (u : Nat) (e : Ev) : Ho := { evA h u e with diaries := h.diaries.set u (dy h u ++ [e]) }
def evC (h : Ho) (u : Nat) (e : Ev) : Ho := if ¬ rdy h u ∧ rdy (evB h u e) u then { evB h u e with row := h.row ++ [u] } else evB h u e
def eventT (h : Ho) (u : Nat) (e : Ev) : Ho := if h.runs = some u ∧ ¬ rdy (evB h u e) u then { evC h u e with runs := none, left := 0 } else evC h u e
def staleE (h : Ho) : List (List Int) := match h.guests[h.turn]? with
  | some (some v) => h.stale.set v (cu h v)
  | _ => h.stale
def enterT (h : Ho) (u : Nat) : Ho := match roomH h u with
  | some _ => h
  | none => { h with guests := h.guests.set h.turn (some u), stale := (staleE h).set u (cu h u), turn := (h.turn + 1) % h.guests.length, swaps := h.swaps + 1 }
def settleT (h : Ho) : Ho := match h.runs with
  | some _ => h
  | none => match h.row with
    | [] => h
    | u :: r => enterT { h with runs := some u, row := r, left := h.quantum } u
def startT (h : Ho) (u : Nat) (p : Int) : Ho := settleT (eventT h u (.start p))
def keyT (h : Ho) (u : Nat) (l : Int) : Ho := settleT (eventT h u (.key l))
def tickN (h : Ho) : Nat → Ho
  | 0 => { h with ticks := h.ticks + 1 }
  | n + 1 => eventT (tickN h n) n .tick
def turnT (h : Ho) : Ho := match h.runs with
  | none => h
  | some u => if h.left - 1 = 0 then { h with left := 0, row := h.row ++ [u], runs := none } else { h with left := h.left - 1 }
def tickT (h : Ho) : Ho := turnT (tickN h h.ps.length)
def step1 (h : Ho) : Ho := match h.runs with
  | none => { h with steps := h.steps + 1, idle := h.idle + 1 }
  | some u => eventT { h with steps := h.steps + 1 } u .step
def step2 (h : Ho) : Ho := if (h.steps + 1) % h.beat = 0 then tickT (step1 h) else step1 h
def stepT (h : Ho) : Ho := settleT (step2 h)
def runT (h : Ho) : Nat → Ho
  | 0 => h
  | n + 1 => stepT (runT h n)
def loadT (h : Ho) (u : Nat) (cs : List Int) : Ho := { h with ps := h.ps.set u { pu h u with m := { (pu h u).m with cells := cs } } }
def switchT (h : Ho) (u : Nat) (sw : Int) : Ho := { h with ps := h.ps.set u { pu h u with sw := sw } }
def newH (n r : Nat) (q b : Int) : Ho := ⟨List.replicate n (newP (List.replicate 64 0) 0), List.replicate r none, List.replicate n (List.replicate 64 0), 0, 0, q, b, List.replicate n [], none, [], 0, 0, 0, 0⟩
/-- the house's own order: what holds behind every event -/
structure WfH (n r : Nat) (h : Ho) : Prop where
  lp : h.ps.length = n
  ld : h.diaries.length = n
  ls : h.stale.length = n
  lg : h.guests.length = r
  r0 : 0 < r
  tn : h.turn < r
  gu : ∀ (i u : Nat), h.guests[i]? = some (some u) → u < n
  gi : ∀ (i j u : Nat), h.guests[i]? = some (some u) → h.guests[j]? = some (some u) → i = j
  pw : ∀ u, u < n → WfP (pu h u) ∧ StOk (pu h u)
  ru : ∀ u, h.runs = some u → u < n
  rn : ∀ u, h.runs = some u → rdy h u
  rd : h.row.Nodup
  rb : ∀ u ∈ h.row, u < n
  rr : ∀ u ∈ h.row, rdy h u ∧ h.runs ≠ some u
  ar : ∀ u, u < n → rdy h u → u ∈ h.row ∨ h.runs = some u
  l0 : h.runs = none → h.left = 0
  l1 : ∀ u, h.runs = some u → 1 ≤ h.left ∧ h.left ≤ h.quantum
  q0 : 1 ≤ h.quantum
  b0 : 1 ≤ h.beat
/-- sizes: papers and diaries -/
def Lm (k : Nat) (h : Ho) : Prop := ∀ u, (pu h u).paper.length ≤ k ∧ (dy h u).length ≤ k
section
variable {n r u v k : Nat} {h : Ho} {e : Ev} {P : Pn} {x : List Ev}
theorem getD_set_self {α : Type} {xs : List α} {i : Nat} {a d : α} (h : i < xs.length) : (xs.set i a).getD i d = a := by
  rw [List.getD_eq_getElem?_getD, List.getElem?_set_self h]; rfl
theorem getD_set_ne {α : Type} {xs : List α} {i j : Nat} {a d : α} (h : i ≠ j) : (xs.set i a).getD j d = xs.getD j d := by
  rw [List.getD_eq_getElem?_getD, List.getElem?_set_ne h, ← List.getD_eq_getElem?_getD]
theorem pu_set (hu : u < h.ps.length) : pu { h with ps := h.ps.set u P } u = P := getD_set_self hu
theorem pu_ne (hn : u ≠ v) : pu { h with ps := h.ps.set u P } v = pu h v := getD_set_ne hn
theorem evA_u (hu : u < h.ps.length) : pu (evA h u e) u = happenP (pu h u) e := pu_set hu
theorem evA_v (hn : u ≠ v) : pu (evA h u e) v = pu h v := pu_ne hn
theorem evB_pu : pu (evB h u e) v = pu (evA h u e) v := rfl
theorem evC_pu : pu (evC h u e) v = pu (evA h u e) v := by unfold evC; split <;> rfl
theorem event_pu : pu (eventT h u e) v = pu (evA h u e) v := by
  unfold eventT; split
  · exact evC_pu
  · exact evC_pu
theorem event_u (hu : u < h.ps.length) : pu (eventT h u e) u = happenP (pu h u) e := event_pu.trans (evA_u hu)
theorem event_v (hn : u ≠ v) : pu (eventT h u e) v = pu h v := event_pu.trans (evA_v hn)
/-- what an event leaves -/
structure EvSame (h h' : Ho) : Prop where
  guests : h'.guests = h.guests
  stale : h'.stale = h.stale
  turn : h'.turn = h.turn
  swaps : h'.swaps = h.swaps
  quantum : h'.quantum = h.quantum
  beat : h'.beat = h.beat
  steps : h'.steps = h.steps
  idle : h'.idle = h.idle
  ticks : h'.ticks = h.ticks
  len : h'.ps.length = h.ps.length
theorem evC_same : EvSame h (evC h u e) := by unfold evC; split <;> exact ⟨rfl, rfl, rfl, rfl, rfl, rfl, rfl, rfl, rfl, List.length_set⟩
theorem event_same : EvSame h (eventT h u e) := by
  have c := evC_same (h := h) (u := u) (e := e)
  unfold eventT; split
  · exact ⟨c.guests, c.stale, c.turn, c.swaps, c.quantum, c.beat, c.steps, c.idle, c.ticks, c.len⟩
  · exact c
theorem event_dia : (eventT h u e).diaries = h.diaries.set u (dy h u ++ [e]) := by
  have : (evC h u e).diaries = h.diaries.set u (dy h u ++ [e]) := by unfold evC; split <;> rfl
  unfold eventT; split <;> exact this
theorem event_row : (eventT h u e).row = if ¬ rdy h u ∧ rdy (eventT h u e) u then h.row ++ [u] else h.row := by
  have e1 : rdy (eventT h u e) u ↔ rdy (evB h u e) u := by unfold rdy; rw [event_pu, evB_pu]
  have e2 : (evC h u e).row = if ¬ rdy h u ∧ rdy (evB h u e) u then h.row ++ [u] else h.row := by unfold evC; split <;> rfl
  have e3 : (eventT h u e).row = (evC h u e).row := by unfold eventT; split <;> rfl
  rw [e3, e2]
  by_cases c : ¬ rdy h u ∧ rdy (evB h u e) u
  · rw [if_pos c, if_pos ⟨c.1, e1.mpr c.2⟩]
  · rw [if_neg c, if_neg (fun z => c ⟨z.1, e1.mp z.2⟩)]
theorem event_runs : (eventT h u e).runs = if h.runs = some u ∧ ¬ rdy (eventT h u e) u then none else h.runs := by
  have e1 : rdy (eventT h u e) u ↔ rdy (evB h u e) u := by unfold rdy; rw [event_pu, evB_pu]
  have e2 : (evC h u e).runs = h.runs := by unfold evC; split <;> rfl
  by_cases c : h.runs = some u ∧ ¬ rdy (evB h u e) u
  · rw [if_pos ⟨c.1, fun z => c.2 (e1.mp z)⟩]; unfold eventT; rw [if_pos c]
  · rw [if_neg (fun z => c ⟨z.1, fun y => z.2 (e1.mpr y)⟩)]; unfold eventT; rw [if_neg c, e2]
theorem event_left : (eventT h u e).left = if h.runs = some u ∧ ¬ rdy (eventT h u e) u then 0 else h.left := by
  have e1 : rdy (eventT h u e) u ↔ rdy (evB h u e) u := by unfold rdy; rw [event_pu, evB_pu]
  have e2 : (evC h u e).left = h.left := by unfold evC; split <;> rfl
  by_cases c : h.runs = some u ∧ ¬ rdy (evB h u e) u
  · rw [if_pos ⟨c.1, fun z => c.2 (e1.mp z)⟩]; unfold eventT; rw [if_pos c]
  · rw [if_neg (fun z => c ⟨z.1, fun y => z.2 (e1.mpr y)⟩)]; unfold eventT; rw [if_neg c, e2]
/-- who is ready stays so but by a step -/
theorem ready_stays (hr : P.st = "ready") (he : e ≠ .step) : (happenP P e).st = "ready" := by
  have wk : ∀ (P : Pn) s, P.st = "ready" → (wakeP P s).st = "ready" := fun P s h => by unfold wakeP; split; rfl; exact h
  cases e with
  | key l => exact wk _ _ (by split <;> exact hr)
  | tick =>
    have h1 : (tick1P P).st = "ready" := by
      unfold tick1P; split
      · exact hr
      · exact wk _ _ hr
    show (tick2P (tick1P P)).st = "ready"
    unfold tick2P
    rw [if_neg (by rw [h1]; decide)]; exact h1
  | start p => show (if P.st = "stopped" then _ else P : Pn).st = "ready"; rw [if_neg (by rw [hr]; decide)]; exact hr
  | step => exact absurd rfl he
theorem wf_event (w : WfH n r h) (hu : u < n) (he : EvOk e) (hst : e = .step → h.runs = some u) : WfH n r (eventT h u e) := by
  have s := event_same (h := h) (u := u) (e := e)
  have hul : u < h.ps.length := by rw [w.lp]; exact hu
  have pv : ∀ v, u ≠ v → (rdy (eventT h u e) v ↔ rdy h v) := fun v hv => by unfold rdy; rw [event_v hv]
  have rw_ := event_row (h := h) (u := u) (e := e)
  have rs := event_runs (h := h) (u := u) (e := e)
  have lf := event_left (h := h) (u := u) (e := e)
  refine ⟨s.len.trans w.lp, by rw [event_dia, List.length_set]; exact w.ld, by rw [s.stale]; exact w.ls, by rw [s.guests]; exact w.lg, w.r0, by rw [s.turn]; exact w.tn, by rw [s.guests]; exact w.gu, by rw [s.guests]; exact w.gi, fun v hv => ?_, fun v hv => ?_, fun v hv => ?_, ?_, fun v hv => ?_, fun v hv => ?_, fun v hv hr => ?_, fun hz => ?_, fun v hv => ?_, by rw [s.quantum]; exact w.q0, by rw [s.beat]; exact w.b0⟩
  · by_cases c : u = v
    · subst c; rw [event_u hul]; exact ⟨wfP_happen (w.pw u hu).1 he, st_happen (w.pw u hu).2 e⟩
    · rw [event_v c]; exact w.pw v hv
  · rw [rs] at hv; split at hv
    · cases hv
    · exact w.ru v hv
  · rw [rs] at hv
    split at hv
    · cases hv
    · rename_i c
      by_cases cu : u = v
      · subst cu
        exact Decidable.byContradiction fun z => c ⟨hv, z⟩
      · exact (pv v cu).mpr (w.rn v hv)
  · rw [rw_]
    split
    · rename_i c
      refine List.nodup_append.mpr ⟨w.rd, by simp, fun a ha b hb e => ?_⟩
      rw [List.mem_singleton.mp hb] at e
      subst e
      exact c.1 (w.rr a ha).1
    · exact w.rd
  · rw [rw_] at hv
    split at hv
    · rcases List.mem_append.mp hv with h1 | h1
      · exact w.rb v h1
      · rw [List.mem_singleton.mp h1]; exact hu
    · exact w.rb v hv
  · have hrow : v ∈ h.row ∨ (v = u ∧ ¬ rdy h u ∧ rdy (eventT h u e) u) := by
      rw [rw_] at hv
      split at hv
      · rename_i c
        rcases List.mem_append.mp hv with h1 | h1
        · exact .inl h1
        · exact .inr ⟨List.mem_singleton.mp h1, c⟩
      · exact .inl hv
    have hkey : rdy (eventT h u e) v := by
      rcases hrow with h1 | ⟨rfl, _, h2⟩
      · by_cases cu : u = v
        · subst cu
          have ne : e ≠ .step := fun q => (w.rr u h1).2 (hst q)
          show (pu (eventT h u e) u).st = "ready"
          rw [event_u hul]; exact ready_stays (w.rr u h1).1 ne
        · exact (pv v cu).mpr (w.rr v h1).1
      · exact h2
    refine ⟨hkey, fun z => ?_⟩
    rw [rs] at z
    split at z
    · cases z
    · rcases hrow with h1 | ⟨rfl, h2, _⟩
      · exact (w.rr v h1).2 z
      · exact h2 (w.rn v z)
  · rw [rw_, rs]
    by_cases cu : u = v
    · subst cu
      by_cases c : rdy h u
      · rcases w.ar u hv c with h1 | h1
        · exact .inl (by split; exact List.mem_append_left _ h1; exact h1)
        · exact .inr (by rw [if_neg (fun z => z.2 hr)]; exact h1)
      · exact .inl (by rw [if_pos ⟨c, hr⟩]; simp)
    · rcases w.ar v hv ((pv v cu).mp hr) with h1 | h1
      · exact .inl (by split; exact List.mem_append_left _ h1; exact h1)
      · exact .inr (by rw [if_neg (fun z => cu (Option.some.inj (z.1.symm.trans h1)))]; exact h1)
  · rw [rs] at hz
    rw [lf]
    split at hz
    · rename_i c; rw [if_pos c]
    · rename_i c; rw [if_neg c]; exact w.l0 hz
  · rw [rs] at hv
    rw [lf, s.quantum]
    split at hv
    · cases hv
    · rename_i c; rw [if_neg c]; exact w.l1 v hv
theorem roomN_some {gs : List (Option Nat)} {i : Nat} (hr : roomN gs u = some i) : gs[i]? = some (some u) := by
  unfold roomN at hr
  obtain ⟨h1, h2, _⟩ := List.findIdx?_eq_some_iff_getElem.mp hr
  rw [List.getElem?_eq_getElem h1]
  exact congrArg some (beq_iff_eq.mp h2)
theorem roomN_none {gs : List (Option Nat)} (hr : roomN gs u = none) (i : Nat) : gs[i]? ≠ some (some u) := fun e => by
  unfold roomN at hr
  have := List.findIdx?_eq_none_iff.mp hr _ (List.mem_of_getElem? e)
  simp at this
theorem wf_enter (w : WfH n r h) (hu : u < n) : WfH n r (enterT h u) := by
  unfold enterT
  cases hr : roomH h u with
  | some i => exact w
  | none =>
    have nr := roomN_none hr
    refine ⟨w.lp, w.ld, ?_, by show (h.guests.set _ _).length = r; rw [List.length_set]; exact w.lg, w.r0, ?_, fun i v hv => ?_, fun i j v hi hj => ?_, w.pw, w.ru, w.rn, w.rd, w.rb, w.rr, w.ar, w.l0, w.l1, w.q0, w.b0⟩
    · show (List.set _ _ _).length = n
      rw [List.length_set]; unfold staleE; split <;> (try rw [List.length_set]) <;> exact w.ls
    · show (h.turn + 1) % h.guests.length < r
      rw [w.lg]; exact Nat.mod_lt _ w.r0
    · have hv : (h.guests.set h.turn (some u))[i]? = some (some v) := hv
      by_cases c : h.turn = i
      · subst c
        rw [List.getElem?_set_self (by rw [w.lg]; exact w.tn)] at hv
        cases hv; exact hu
      · rw [List.getElem?_set_ne c] at hv; exact w.gu i v hv
    · have hi : (h.guests.set h.turn (some u))[i]? = some (some v) := hi
      have hj : (h.guests.set h.turn (some u))[j]? = some (some v) := hj
      by_cases c : h.turn = i <;> by_cases d : h.turn = j
      · omega
      · rw [← c, List.getElem?_set_self (by rw [w.lg]; exact w.tn)] at hi
        cases hi
        rw [List.getElem?_set_ne d] at hj
        exact absurd hj (nr j)
      · rw [← d, List.getElem?_set_self (by rw [w.lg]; exact w.tn)] at hj
        cases hj
        rw [List.getElem?_set_ne c] at hi
        exact absurd hi (nr i)
      · rw [List.getElem?_set_ne c] at hi
        rw [List.getElem?_set_ne d] at hj
        exact w.gi i j v hi hj
/-- what enter leaves -/
structure EnSame (h h' : Ho) : Prop where
  ps : h'.ps = h.ps
  quantum : h'.quantum = h.quantum
  beat : h'.beat = h.beat
  diaries : h'.diaries = h.diaries
  runs : h'.runs = h.runs
  row : h'.row = h.row
  steps : h'.steps = h.steps
  idle : h'.idle = h.idle
  ticks : h'.ticks = h.ticks
  left : h'.left = h.left
theorem enter_same : EnSame h (enterT h u) := by
  unfold enterT; split <;> exact ⟨rfl, rfl, rfl, rfl, rfl, rfl, rfl, rfl, rfl, rfl⟩
theorem wf_settle (w : WfH n r h) : WfH n r (settleT h) := by
  unfold settleT
  cases hr : h.runs with
  | some u => exact w
  | none =>
    cases hw : h.row with
    | nil => exact w
    | cons u row =>
      have hu : u < n := w.rb u (by rw [hw]; exact List.mem_cons_self)
      have nd := w.rd
      rw [hw] at nd
      obtain ⟨n1, n2⟩ := List.nodup_cons.mp nd
      refine wf_enter (h := { h with runs := some u, row := row, left := h.quantum }) ?_ hu
      refine ⟨w.lp, w.ld, w.ls, w.lg, w.r0, w.tn, w.gu, w.gi, w.pw, fun v hv => ?_, fun v hv => ?_, n2, fun v hv => w.rb v (by rw [hw]; exact List.mem_cons_of_mem _ hv), fun v hv => ⟨(w.rr v (by rw [hw]; exact List.mem_cons_of_mem _ hv)).1, fun z => ?_⟩, fun v hv hr => ?_, fun z => (by cases z), fun v _ => ⟨w.q0, Int.le_refl _⟩, w.q0, w.b0⟩
      · cases hv; exact hu
      · cases hv; exact (w.rr u (by rw [hw]; exact List.mem_cons_self)).1
      · cases z; exact n1 hv
      · rcases w.ar v hv hr with h1 | h1
        · rw [hw] at h1
          rcases List.mem_cons.mp h1 with h2 | h2
          · exact .inr (by rw [h2])
          · exact .inl h2
        · rw [‹h.runs = none›] at h1; cases h1
/-- behind a settling: none runs only if the row is empty -/
theorem settled (w : WfH n r h) : (settleT h).runs = none → (settleT h).row = [] := by
  unfold settleT
  cases hr : h.runs with
  | some u => intro z; rw [hr] at z; cases z
  | none =>
    cases hw : h.row with
    | nil => intro _; exact hw
    | cons u row => intro z; rw [enter_same.runs] at z; cases z
theorem wf_ticks (w : WfH n r h) : WfH n r { h with ticks := h.ticks + 1 } := ⟨w.lp, w.ld, w.ls, w.lg, w.r0, w.tn, w.gu, w.gi, w.pw, w.ru, w.rn, w.rd, w.rb, w.rr, w.ar, w.l0, w.l1, w.q0, w.b0⟩
theorem wf_tickN (w : WfH n r h) : ∀ k, k ≤ n → WfH n r (tickN h k)
  | 0, _ => wf_ticks w
  | k + 1, hk => wf_event (wf_tickN w k (by omega)) (by omega) trivial (fun z => by cases z)
theorem runs_or (h : Ho) : h.runs = none ∨ ∃ u, h.runs = some u := by
  cases h.runs with
  | none => exact .inl rfl
  | some u => exact .inr ⟨u, rfl⟩
theorem turn_none (hr : h.runs = none) : turnT h = h := by unfold turnT; rw [hr]
theorem turn_some (hr : h.runs = some u) : turnT h = if h.left - 1 = 0 then { h with left := 0, row := h.row ++ [u], runs := none } else { h with left := h.left - 1 } := by unfold turnT; rw [hr]
theorem step1_none (hr : h.runs = none) : step1 h = { h with steps := h.steps + 1, idle := h.idle + 1 } := by unfold step1; rw [hr]
theorem step1_some (hr : h.runs = some u) : step1 h = eventT { h with steps := h.steps + 1 } u .step := by unfold step1; rw [hr]
theorem wf_turn (w : WfH n r h) : WfH n r (turnT h) := by
  rcases runs_or h with hr | ⟨u, hr⟩
  · rw [turn_none hr]; exact w
  · have l1 := w.l1 u hr
    have hu := w.ru u hr
    rw [turn_some hr]
    split
    · refine ⟨w.lp, w.ld, w.ls, w.lg, w.r0, w.tn, w.gu, w.gi, w.pw, fun v z => (by cases z), fun v z => (by cases z), List.nodup_append.mpr ⟨w.rd, by simp, fun a ha b hb e => ?_⟩, fun v hv => ?_, fun v hv => ⟨?_, fun z => (by cases z)⟩, fun v hv hy => ?_, fun _ => rfl, fun v z => (by cases z), w.q0, w.b0⟩
      · rw [List.mem_singleton.mp hb] at e; subst e; exact (w.rr a ha).2 hr
      · rcases List.mem_append.mp hv with h1 | h1
        · exact w.rb v h1
        · rw [List.mem_singleton.mp h1]; exact hu
      · rcases List.mem_append.mp hv with h1 | h1
        · exact (w.rr v h1).1
        · rw [List.mem_singleton.mp h1]; exact w.rn u hr
      · rcases w.ar v hv hy with h1 | h1
        · exact .inl (List.mem_append_left _ h1)
        · rw [hr] at h1; cases h1; exact .inl (by simp)
    · refine ⟨w.lp, w.ld, w.ls, w.lg, w.r0, w.tn, w.gu, w.gi, w.pw, fun v z => w.ru v z, fun v z => w.rn v z, w.rd, w.rb, w.rr, w.ar, fun z => ?_, fun v z => ?_, w.q0, w.b0⟩
      · have z : h.runs = none := z
        rw [hr] at z; cases z
      · show 1 ≤ h.left - 1 ∧ h.left - 1 ≤ h.quantum
        omega
theorem wf_tick (w : WfH n r h) : WfH n r (tickT h) := by
  unfold tickT; rw [w.lp]; exact wf_turn (wf_tickN w n (Nat.le_refl _))
theorem wf_count (w : WfH n r h) (i s : Int) : WfH n r { h with steps := s, idle := i } := ⟨w.lp, w.ld, w.ls, w.lg, w.r0, w.tn, w.gu, w.gi, w.pw, w.ru, w.rn, w.rd, w.rb, w.rr, w.ar, w.l0, w.l1, w.q0, w.b0⟩
theorem wf_step1 (w : WfH n r h) : WfH n r (step1 h) := by
  rcases runs_or h with hr | ⟨u, hr⟩
  · rw [step1_none hr]; exact wf_count w _ _
  · rw [step1_some hr]; exact wf_event (wf_count w h.idle _) (w.ru u hr) trivial (fun _ => hr)
theorem wf_step (w : WfH n r h) : WfH n r (stepT h) := by
  unfold stepT step2
  split
  · exact wf_settle (wf_tick (wf_step1 w))
  · exact wf_settle (wf_step1 w)
theorem wf_runT (w : WfH n r h) : ∀ k, WfH n r (runT h k)
  | 0 => w
  | k + 1 => wf_step (wf_runT w k)
theorem wf_start (w : WfH n r h) (hu : u < n) {p : Int} (hp : 0 ≤ p ∧ p < 64) : WfH n r (startT h u p) := wf_settle (wf_event w hu hp (fun z => by cases z))
theorem wf_key (w : WfH n r h) (hu : u < n) {l : Int} (hl : 0 ≤ l ∧ l < 256) : WfH n r (keyT h u l) := wf_settle (wf_event w hu hl (fun z => by cases z))
theorem wf_put (w : WfH n r h) (hu : u < n) (wp : WfP P) (hs : P.st = (pu h u).st) : WfH n r { h with ps := h.ps.set u P } := by
  have hul : u < h.ps.length := by rw [w.lp]; exact hu
  have sp : StOk P := stk hs (w.pw u hu).2
  have rd : ∀ v, (rdy { h with ps := h.ps.set u P } v ↔ rdy h v) := fun v => by
    unfold rdy
    by_cases c : u = v
    · subst c; rw [pu_set hul, hs]
    · rw [pu_ne c]
  refine ⟨by show (h.ps.set _ _).length = n; rw [List.length_set]; exact w.lp, w.ld, w.ls, w.lg, w.r0, w.tn, w.gu, w.gi, fun v hv => ?_, w.ru, fun v hv => (rd v).mpr (w.rn v hv), w.rd, w.rb, fun v hv => ⟨(rd v).mpr (w.rr v hv).1, (w.rr v hv).2⟩, fun v hv hr => w.ar v hv ((rd v).mp hr), w.l0, w.l1, w.q0, w.b0⟩
  by_cases c : u = v
  · subst c; rw [pu_set hul]; exact ⟨wp, sp⟩
  · rw [pu_ne c]; exact w.pw v hv
theorem wf_load (w : WfH n r h) (hu : u < n) {cs : List Int} (hc : cs.length = 64) (hin : ∀ c ∈ cs, 0 ≤ c ∧ c < 1024) : WfH n r (loadT h u cs) := by
  have wp := (w.pw u hu).1
  exact wf_put w hu ⟨⟨⟨hc, wp.wm.lo, wp.wm.hi⟩, hin, wp.wm.tlo, wp.wm.thi, wp.wm.bit⟩, wp.ib, wp.ibl, wp.ob, wp.bk, wp.bkl, wp.sw0, wp.sw1⟩ rfl
theorem wf_switch (w : WfH n r h) (hu : u < n) {sw : Int} (h0 : 0 ≤ sw) (h1 : sw < 1024) : WfH n r (switchT h u sw) := by
  have wp := (w.pw u hu).1
  exact wf_put w hu ⟨wp.wm, wp.ib, wp.ibl, wp.ob, wp.bk, wp.bkl, h0, h1⟩ rfl
theorem wf_newH {q b : Int} (hr : 0 < r) (hq : 1 ≤ q) (hb : 1 ≤ b) : WfH n r (newH n r q b) := by
  have pe : ∀ u, u < n → pu (newH n r q b) u = newP (List.replicate 64 0) 0 := fun u hu => by
    show (List.replicate n (newP (List.replicate 64 0) 0)).getD u _ = _
    rw [List.getD_eq_getElem?_getD, List.getElem?_replicate, if_pos hu]; rfl
  have nr : ∀ u, u < n → ¬ rdy (newH n r q b) u := fun u hu z => by unfold rdy at z; rw [pe u hu] at z; exact absurd z (by decide)
  have gn : ∀ (i u : Nat), (newH n r q b).guests[i]? ≠ some (some u) := fun i u z => by
    have := List.mem_of_getElem? z
    rw [(List.mem_replicate.mp this).2] at this
    have z2 : (List.replicate r (none : Option Nat))[i]? = some (some u) := z
    rw [List.getElem?_replicate] at z2
    split at z2 <;> cases z2
  refine ⟨List.length_replicate, List.length_replicate, List.length_replicate, List.length_replicate, hr, hr, fun i u z => absurd z (gn i u), fun i j u z _ => absurd z (gn i u), fun u hu => ?_, fun u z => (by cases z), fun u z => (by cases z), List.nodup_nil, fun u z => (by cases z), fun u z => (by cases z), fun u hu z => absurd z (nr u hu), fun _ => rfl, fun u z => (by cases z), hq, hb⟩
  rw [pe u hu]
  exact ⟨wf_newP (by simp) (fun c hc => by rw [(List.mem_replicate.mp hc).2]; decide) (by decide) (by decide), .inl rfl⟩
/-! sizes -/
theorem dy_set {ds : List (List Ev)} (hx : h.diaries.set u x = ds) (hl : u < h.diaries.length) : ds.getD u [] = x := by subst hx; exact getD_set_self hl
theorem lm_event (w : Lm k h) (hu : u < h.ps.length) (hd : u < h.diaries.length) : Lm (k + 1) (eventT h u e) := fun v => by
  by_cases c : u = v
  · subst c
    constructor
    · rw [event_u hu]; have := paper_happen (pu h u) e; have := (w u).1; omega
    · unfold dy; rw [event_dia, getD_set_self hd, List.length_append]; have := (w u).2; simp; unfold dy at this ⊢; omega
  · constructor
    · rw [event_v c]; have := (w v).1; omega
    · unfold dy; rw [event_dia, getD_set_ne c]; have := (w v).2; unfold dy at this; omega
/-- an event happened to u alone: what else grows -/
theorem Lm.mono {k2 : Nat} (w : Lm k h) (hk : k ≤ k2) : Lm k2 h := fun v => ⟨Nat.le_trans (w v).1 hk, Nat.le_trans (w v).2 hk⟩
theorem lm_same {h' : Ho} (w : Lm k h) (e1 : h'.ps = h.ps) (e2 : h'.diaries = h.diaries) : Lm k h' := fun v => by unfold pu dy; rw [e1, e2]; exact w v
theorem lm_settle (w : Lm k h) : Lm k (settleT h) := by
  unfold settleT
  split
  · exact w
  · split
    · exact w
    · exact lm_same w (enter_same.ps) (enter_same.diaries)
end
/-! ### the house in the heap: a slot for each object -/
inductive Slot where
  | house | people | rooms | guests | kept | shelves | diaries | row
  | kr (i : Nat) | sr (u : Nat) | dr (u : Nat) | pr (u k : Nat)
  deriving DecidableEq
structure CC where
  h : Addr
  r : Addr
  m : Addr
  p : Addr
structure HA where
  ad : Slot → Addr
  dh : Addr
  drm : Addr
  dp : Nat → Addr
  dm : Nat → Addr
  cp : Nat → Addr
  dts : Nat → List Addr
  hsw : Int
  htn : Int
def okS (n r : Nat) : Slot → Prop
  | .kr i => i < r
  | .sr u => u < n
  | .dr u => u < n
  | .pr u k => u < n ∧ k < 10
  | _ => True
def nV (u : Nat) : V := .int (u : Int)
def gV : Option Nat → V
  | none => .non
  | some u => nV u
def paU (A : HA) (u : Nat) (c : Addr) : PA := ⟨A.ad (.pr u 0), A.dp u, A.ad (.pr u 1), A.dm u, c, A.ad (.pr u 2), A.ad (.pr u 3), A.ad (.pr u 4), A.ad (.pr u 5), [A.ad (.pr u 6), A.ad (.pr u 7), A.ad (.pr u 8), A.ad (.pr u 9)]⟩
def hfs (A : HA) (h : Ho) : List (Str × V) := [("people", .ref (A.ad .people)), ("places", .ref (A.ad .rooms)), ("quantum", .int h.quantum), ("beat", .int h.beat), ("diaries", .ref (A.ad .diaries)), ("runs", gV h.runs), ("row", .ref (A.ad .row)), ("steps", .int h.steps), ("idle", .int h.idle), ("ticks", .int h.ticks), ("swaps", .int A.hsw), ("turn", .int A.htn), ("left", .int h.left)]
def rfs (A : HA) (h : Ho) : List (Str × V) := [("guests", .ref (A.ad .guests)), ("kept", .ref (A.ad .kept)), ("shelves", .ref (A.ad .shelves)), ("turn", .int (h.turn : Int)), ("swaps", .int h.swaps)]
def zeros : List Int := List.replicate 64 0
def keptC (h : Ho) (i : Nat) : List Int := match h.guests[i]? with
  | some (some u) => cu h u
  | _ => zeros
def shelfC (h : Ho) (u : Nat) : List Int := if roomH h u = none then cu h u else h.stale.getD u []
def cont (c : CC) (n r : Nat) (A : HA) (h : Ho) : Slot → HO
  | .house => .ins c.h A.dh (hfs A h)
  | .people => .lst ((List.range n).map fun u => .ref (A.ad (.pr u 0)))
  | .rooms => .ins c.r A.drm (rfs A h)
  | .guests => .lst (h.guests.map gV)
  | .kept => .lst ((List.range r).map fun i => .ref (A.ad (.kr i)))
  | .shelves => .lst ((List.range n).map fun u => .ref (A.ad (.sr u)))
  | .diaries => .lst ((List.range n).map fun u => .ref (A.ad (.dr u)))
  | .row => .lst (h.row.map nV)
  | .kr i => .lst ((keptC h i).map V.int)
  | .sr u => .lst ((shelfC h u).map V.int)
  | .dr u => .lst ((A.dts u).map V.ref)
  | .pr u 0 => .ins c.p (A.dp u) (pfs (paU A u 0) (pu h u))
  | .pr u 1 => .ins c.m (A.dm u) (mfs (A.cp u) (pu h u).m)
  | .pr u 2 => .lst ((pu h u).inbox.map V.int)
  | .pr u 3 => .lst ((pu h u).outbox.map V.int)
  | .pr u 4 => .lst ((pu h u).paper.map V.int)
  | .pr u 5 => .lst [.ref (A.ad (.pr u 6)), .ref (A.ad (.pr u 7)), .ref (A.ad (.pr u 8)), .ref (A.ad (.pr u 9))]
  | .pr u (k + 6) => .lst (((pu h u).blocks.getD k []).map V.int)
def footH (n r : Nat) (A : HA) : FS := fun b => ∃ s, okS n r s ∧ A.ad s = b
structure HoAt (c : CC) (n r : Nat) (H : Hp) (A : HA) (h : Ho) : Prop where
  at_ : ∀ s, okS n r s → H (A.ad s) = some (cont c n r A h s)
  inj : ∀ s t, okS n r s → okS n r t → A.ad s = A.ad t → s = t
  dl : ∀ u, u < n → (A.dts u).length = (dy h u).length
  dt : ∀ u (i : Nat) a e, u < n → (A.dts u)[i]? = some a → (dy h u)[i]? = some e → H a = some (.tup (evV e))
section
variable {c : CC} {n r : Nat} {H H' H1 : Hp} {A A' : HA} {h h' : Ho} {s t : Slot} {o : HO} {u v : Nat} {F : FS} {b : Addr}
theorem cont_obj (c : CC) (n r : Nat) (A : HA) (h : Ho) (s : Slot) : (∃ C dx fs, cont c n r A h s = .ins C dx fs) ∨ ∃ xs, cont c n r A h s = .lst xs := by
  cases s with
  | house => exact .inl ⟨_, _, _, rfl⟩
  | rooms => exact .inl ⟨_, _, _, rfl⟩
  | pr u k =>
    match k with
    | 0 => exact .inl ⟨_, _, _, rfl⟩
    | 1 => exact .inl ⟨_, _, _, rfl⟩
    | 2 => exact .inr ⟨_, rfl⟩
    | 3 => exact .inr ⟨_, rfl⟩
    | 4 => exact .inr ⟨_, rfl⟩
    | 5 => exact .inr ⟨_, rfl⟩
    | k + 6 => exact .inr ⟨_, rfl⟩
  | _ => exact .inr ⟨_, rfl⟩
theorem HoAt.noT (x : HoAt c n r H A h) : ∀ b, footH n r A b → NoTup H b := fun b f => by
  obtain ⟨s, hs, rfl⟩ := f
  have e := x.at_ s hs
  rcases cont_obj c n r A h s with ⟨_, _, _, z⟩ | ⟨_, z⟩ <;> rw [z] at e
  · exact .ins e
  · exact .lst e
theorem HoAt.fa (x : HoAt c n r H A h) : FA (footH n r A) H := fun b f e => by
  obtain ⟨s, hs, rfl⟩ := f
  rw [x.at_ s hs] at e; cases e
theorem HoAt.ne (x : HoAt c n r H A h) (hs : okS n r s) (ht : okS n r t) (hn : s ≠ t) : A.ad s ≠ A.ad t := fun e => hn (x.inj s t hs ht e)
theorem HoAt.loc (x : HoAt c n r H A h) (k : ∀ b o, footH n r A b → H b = some o → H' b = some o) (ts : TpS H H') : HoAt c n r H' A h :=
  ⟨fun s hs => k _ _ ⟨s, hs, rfl⟩ (x.at_ s hs), x.inj, x.dl, fun u i a e hu h1 h2 => ts _ _ (x.dt u i a e hu h1 h2)⟩
theorem HoAt.same (x : HoAt c n r H A h) (s : Same H H') : HoAt c n r H' A h := x.loc (fun b o _ e => s b o e) (.same s)
/-- one object anew -/
theorem HoAt.put (x : HoAt c n r H A h) (s : Slot) (hs : okS n r s) (ea : A'.ad = A.ad) (es : cont c n r A' h' s = o) (ne : ∀ t, okS n r t → t ≠ s → cont c n r A' h' t = cont c n r A h t)
    (dl : ∀ u, u < n → (A'.dts u).length = (dy h' u).length) (dt : ∀ u (i : Nat) a e, u < n → (A'.dts u)[i]? = some a → (dy h' u)[i]? = some e → H a = some (.tup (evV e))) : HoAt c n r (upd H (A.ad s) o) A' h' ∧ Mv (footH n r A) H (footH n r A') (upd H (A.ad s) o) := by
  have nt := x.noT _ ⟨s, hs, rfl⟩
  refine ⟨⟨fun t ht => ?_, fun s t hs ht e => x.inj s t hs ht (by rw [← ea]; exact e), dl, fun u i a e hu h1 h2 => ?_⟩, fun b u nb e => ?_, fun b f => .inl ?_⟩
  · rw [ea]
    by_cases q : t = s
    · subst q; rw [upd_same, es]
    · rw [upd_ne (x.ne ht hs q), ne t ht q]; exact x.at_ t ht
  · have h3 := dt u i a e hu h1 h2
    rw [upd_ne (fun q => nt.a _ (q ▸ h3))]; exact h3
  · rw [upd_ne (fun q => nb (by rw [q]; exact ⟨s, hs, rfl⟩))]; exact e
  · obtain ⟨t, ht, e⟩ := f
    exact ⟨t, ht, by rw [← ea]; exact e⟩
/-- a fresh object for a slot that a list tells -/
def withAd (A : HA) (s : Slot) (q : Addr) : HA := { A with ad := fun t => if t = s then q else A.ad t }
theorem withAd_s {q : Addr} : (withAd A s q).ad s = q := by unfold withAd; simp
theorem withAd_ne {q : Addr} (hn : t ≠ s) : (withAd A s q).ad t = A.ad t := by unfold withAd; simp [hn]
/-! readings -/
structure HTx (K : PySem.W.Frag) (C : Addr) : Prop where
  cl : Cls K C
  no : ∀ f : Str, f ∈ (["people", "places", "quantum", "beat", "diaries", "runs", "row", "steps", "idle", "ticks", "swaps", "turn", "left"] : List Str) → NoAttr K C f
structure RTx (K : PySem.W.Frag) (C : Addr) : Prop where
  cl : Cls K C
  no : ∀ f : Str, f ∈ (["guests", "kept", "shelves", "turn", "swaps"] : List Str) → NoAttr K C f
end
section
variable {c : CC} {n r : Nat} {H H' H1 : Hp} {A A' : HA} {h h' : Ho} {K : PySem.W.Frag} {σ : L2.St} {ta tv ti : TE} {N : L2.St → Hp → Prop} {R : VK} {B C' : L2.St → Hp → Prop} {tz : TS} {z : Int} {f : Str} {w v : V} {u : Nat}
theorem vh_ (T : HTx K c.h) (x : HoAt c n r H A h) (ha : Val ta σ H (.ref (A.ad .house))) (hf : (hfs A h).lookup f = some w) (hm : f ∈ (["people", "places", "quantum", "beat", "diaries", "runs", "row", "steps", "idle", "ticks", "swaps", "turn", "left"] : List Str) := by simp) : Val (tFld K ta f) σ H w := val_fld ha (x.at_ .house trivial) T.cl (T.no f hm) hf
theorem vr_ (T : RTx K c.r) (x : HoAt c n r H A h) (ha : Val ta σ H (.ref (A.ad .rooms))) (hf : (rfs A h).lookup f = some w) (hm : f ∈ (["guests", "kept", "shelves", "turn", "swaps"] : List Str) := by simp) : Val (tFld K ta f) σ H w := val_fld ha (x.at_ .rooms trivial) T.cl (T.no f hm) hf
theorem hl_people : (hfs A h).lookup ("people" : Str) = some (.ref (A.ad .people)) := by kernel_rfl
theorem hl_places : (hfs A h).lookup ("places" : Str) = some (.ref (A.ad .rooms)) := by kernel_rfl
theorem hl_quantum : (hfs A h).lookup ("quantum" : Str) = some (.int h.quantum) := by kernel_rfl
theorem hl_beat : (hfs A h).lookup ("beat" : Str) = some (.int h.beat) := by kernel_rfl
theorem hl_diaries : (hfs A h).lookup ("diaries" : Str) = some (.ref (A.ad .diaries)) := by kernel_rfl
theorem hl_runs : (hfs A h).lookup ("runs" : Str) = some (gV h.runs) := by kernel_rfl
theorem hl_row : (hfs A h).lookup ("row" : Str) = some (.ref (A.ad .row)) := by kernel_rfl
theorem hl_steps : (hfs A h).lookup ("steps" : Str) = some (.int h.steps) := by kernel_rfl
theorem hl_idle : (hfs A h).lookup ("idle" : Str) = some (.int h.idle) := by kernel_rfl
theorem hl_ticks : (hfs A h).lookup ("ticks" : Str) = some (.int h.ticks) := by kernel_rfl
theorem hl_swaps : (hfs A h).lookup ("swaps" : Str) = some (.int A.hsw) := by kernel_rfl
theorem hl_turn : (hfs A h).lookup ("turn" : Str) = some (.int A.htn) := by kernel_rfl
theorem hl_left : (hfs A h).lookup ("left" : Str) = some (.int h.left) := by kernel_rfl
theorem rl_guests : (rfs A h).lookup ("guests" : Str) = some (.ref (A.ad .guests)) := by kernel_rfl
theorem rl_kept : (rfs A h).lookup ("kept" : Str) = some (.ref (A.ad .kept)) := by kernel_rfl
theorem rl_shelves : (rfs A h).lookup ("shelves" : Str) = some (.ref (A.ad .shelves)) := by kernel_rfl
theorem rl_turn : (rfs A h).lookup ("turn" : Str) = some (.int (h.turn : Int)) := by kernel_rfl
theorem rl_swaps : (rfs A h).lookup ("swaps" : Str) = some (.int h.swaps) := by kernel_rfl
theorem hp_steps : putF "steps" (.int z) (hfs A h) = hfs A { h with steps := z } := by kernel_rfl
theorem hp_idle : putF "idle" (.int z) (hfs A h) = hfs A { h with idle := z } := by kernel_rfl
theorem hp_ticks : putF "ticks" (.int z) (hfs A h) = hfs A { h with ticks := z } := by kernel_rfl
theorem hp_left : putF "left" (.int z) (hfs A h) = hfs A { h with left := z } := by kernel_rfl
theorem hp_runs {g : Option Nat} : putF "runs" (gV g) (hfs A h) = hfs A { h with runs := g } := by kernel_rfl
theorem hp_swaps : putF "swaps" (.int z) (hfs A h) = hfs { A with hsw := z } h := by kernel_rfl
theorem hp_turn : putF "turn" (.int z) (hfs A h) = hfs { A with htn := z } h := by kernel_rfl
theorem rp_turn {m : Nat} : putF "turn" (.int (m : Int)) (rfs A h) = rfs A { h with turn := m } := by kernel_rfl
theorem rp_swaps : putF "swaps" (.int z) (rfs A h) = rfs A { h with swaps := z } := by kernel_rfl
/-- the same addresses: what a def at the house leaves -/
abbrev HNx (c : CC) (n r : Nat) (H : Hp) (A : HA) (h' : Ho) (G : Hp → Prop) : Prop := ∀ A' H', A'.ad .house = A.ad .house → A'.ad .rooms = A.ad .rooms → A'.hsw = A.hsw → A'.htn = A.htn → HoAt c n r H' A' h' → Mv (footH n r A) H (footH n r A') H' → G H'
/-- a field of the house, of the rooms -/
theorem sh_ (T : HTx K c.h) (x : HoAt c n r H A h) (A' : HA) (h' : Ho) (hv : Val tv σ H v) (ha : Val ta σ H (.ref (A.ad .house))) (ea : A'.ad = A.ad) (hp : putF f v (hfs A h) = hfs A' h') (e1 : A'.dh = A.dh) (ne : ∀ t, okS n r t → t ≠ .house → cont c n r A' h' t = cont c n r A h t) (ed : A'.dts = A.dts) (ey : h'.diaries = h.diaries)
    (q : ∀ H', HoAt c n r H' A' h' → Mv (footH n r A) H (footH n r A') H' → N σ H') (hm : f ∈ (["people", "places", "quantum", "beat", "diaries", "runs", "row", "steps", "idle", "ticks", "swaps", "turn", "left"] : List Str) := by simp) : sFld K ta tv f ⟨N, R, B, C'⟩ σ H :=
  st_fld hv ha (x.at_ .house trivial) T.cl (T.no f hm) (by show 13 < 1000; decide) (by
    rw [hp]
    obtain ⟨a, b⟩ := x.put (A' := A') (h' := h') (o := .ins c.h A.dh (hfs A' h')) .house trivial ea (by show HO.ins c.h A'.dh _ = _; rw [e1]) ne (fun u hu => by rw [ed]; unfold dy; rw [ey]; exact x.dl u hu) (fun u i a e hu h1 h2 => x.dt u i a e hu (by rw [← ed]; exact h1) (by unfold dy at h2 ⊢; rw [← ey]; exact h2))
    exact q _ a b)
theorem sr_ (T : RTx K c.r) (x : HoAt c n r H A h) (h' : Ho) (hv : Val tv σ H v) (ha : Val ta σ H (.ref (A.ad .rooms))) (hp : putF f v (rfs A h) = rfs A h') (ne : ∀ t, okS n r t → t ≠ .rooms → cont c n r A h' t = cont c n r A h t) (ey : h'.diaries = h.diaries)
    (q : ∀ H', HoAt c n r H' A h' → Mv (footH n r A) H (footH n r A) H' → N σ H') (hm : f ∈ (["guests", "kept", "shelves", "turn", "swaps"] : List Str) := by simp) : sFld K ta tv f ⟨N, R, B, C'⟩ σ H :=
  st_fld hv ha (x.at_ .rooms trivial) T.cl (T.no f hm) (by show 5 < 1000; decide) (by
    rw [hp]
    obtain ⟨a, b⟩ := x.put (A' := A) (h' := h') (o := .ins c.r A.drm (rfs A h')) .rooms trivial rfl rfl ne (fun u hu => by unfold dy; rw [ey]; exact x.dl u hu) (fun u i a e hu h1 h2 => x.dt u i a e hu h1 (by unfold dy at h2 ⊢; rw [← ey]; exact h2))
    exact q _ a b)
/-- an int of the house -/
theorem shi_ (T : HTx K c.h) (x : HoAt c n r H A h) (h' : Ho) (hv : Val tv σ H (.int z)) (ha : Val ta σ H (.ref (A.ad .house))) (hp : putF f (.int z) (hfs A h) = hfs A h') (ne : ∀ t, t ≠ .house → cont c n r A h' t = cont c n r A h t) (ey : h'.diaries = h.diaries)
    (q : ∀ H', HoAt c n r H' A h' → Mv (footH n r A) H (footH n r A) H' → N σ H') (hm : f ∈ (["people", "places", "quantum", "beat", "diaries", "runs", "row", "steps", "idle", "ticks", "swaps", "turn", "left"] : List Str) := by simp) : sFld K ta tv f ⟨N, R, B, C'⟩ σ H :=
  sh_ T x A h' hv ha rfl hp rfl (fun t _ ht => ne t ht) rfl ey q hm
theorem qh_ (T : HTx K c.h) (x : HoAt c n r H A h) (A' : HA) (h' : Ho) (hv : Val tv σ H v) (ha : Val ta σ H (.ref (A.ad .house))) (ea : A'.ad = A.ad) (hp : putF f v (hfs A h) = hfs A' h') (e1 : A'.dh = A.dh) (ne : ∀ t, okS n r t → t ≠ .house → cont c n r A' h' t = cont c n r A h t) (ed : A'.dts = A.dts) (ey : h'.diaries = h.diaries)
    (q : ∀ H', HoAt c n r H' A' h' → Mv (footH n r A) H (footH n r A') H' → tz ⟨N, R, B, C'⟩ σ H') (hm : f ∈ (["people", "places", "quantum", "beat", "diaries", "runs", "row", "steps", "idle", "ticks", "swaps", "turn", "left"] : List Str) := by simp) : tSeq (sFld K ta tv f) tz ⟨N, R, B, C'⟩ σ H := sh_ (N := tz ⟨N, R, B, C'⟩) (B := B) (C' := C') T x A' h' hv ha ea hp e1 ne ed ey q hm
theorem qr_ (T : RTx K c.r) (x : HoAt c n r H A h) (h' : Ho) (hv : Val tv σ H v) (ha : Val ta σ H (.ref (A.ad .rooms))) (hp : putF f v (rfs A h) = rfs A h') (ne : ∀ t, okS n r t → t ≠ .rooms → cont c n r A h' t = cont c n r A h t) (ey : h'.diaries = h.diaries)
    (q : ∀ H', HoAt c n r H' A h' → Mv (footH n r A) H (footH n r A) H' → tz ⟨N, R, B, C'⟩ σ H') (hm : f ∈ (["guests", "kept", "shelves", "turn", "swaps"] : List Str) := by simp) : tSeq (sFld K ta tv f) tz ⟨N, R, B, C'⟩ σ H := sr_ (N := tz ⟨N, R, B, C'⟩) (B := B) (C' := C') T x h' hv ha hp ne ey q hm
end
/-! ### the house's defs: what they leave -/
def CCk (K : PySem.W.Frag) : CC := ⟨He.ga K "House", He.ga K "Rooms", He.ga K "Machine", He.ga K "Person"⟩
/-- the house's own turn and swaps are the rooms' -/
structure Syn (A : HA) (h : Ho) : Prop where
  sw : A.hsw = h.swaps
  tn : A.htn = (h.turn : Int)
structure SameA (A A' : HA) : Prop where
  h : A'.ad .house = A.ad .house
  r : A'.ad .rooms = A.ad .rooms
  sw : A'.hsw = A.hsw
  tn : A'.htn = A.htn
theorem SameA.refl {A : HA} : SameA A A := ⟨rfl, rfl, rfl, rfl⟩
theorem SameA.trans {A B C : HA} (a : SameA A B) (b : SameA B C) : SameA A C := ⟨b.h.trans a.h, b.r.trans a.r, b.sw.trans a.sw, b.tn.trans a.tn⟩
abbrev HNx0 (c : CC) (n r : Nat) (H : Hp) (A : HA) (h' : Ho) (G : Hp → Prop) : Prop := ∀ A' H', SameA A A' → HoAt c n r H' A' h' → Mv (footH n r A) H (footH n r A') H' → G H'
abbrev HNy (c : CC) (n r : Nat) (H : Hp) (A : HA) (h' : Ho) (G : Hp → Prop) : Prop := ∀ A' H', A'.ad .house = A.ad .house → Syn A' h' → HoAt c n r H' A' h' → Mv (footH n r A) H (footH n r A') H' → G H'
def csl (h : Ho) (u : Nat) : Slot := match roomH h u with
  | some i => .kr i
  | none => .sr u
section
variable {c : CC} {n r : Nat} {H H' H1 : Hp} {A A' : HA} {h h' : Ho} {s t : Slot} {o : HO} {u v k : Nat} {F : FS} {b q : Addr} {e : Ev}
theorem csl_some {i : Nat} (hr : roomH h u = some i) : csl h u = .kr i := by unfold csl; rw [hr]
theorem csl_none (hr : roomH h u = none) : csl h u = .sr u := by unfold csl; rw [hr]
theorem room_at {i : Nat} (hr : roomH h u = some i) : h.guests[i]? = some (some u) := roomN_some hr
theorem room_lt {i : Nat} (w : WfH n r h) (hr : roomH h u = some i) : i < r := by
  have := (List.getElem?_eq_some_iff.mp (room_at hr)).1
  rw [w.lg] at this; exact this
theorem csl_ok (w : WfH n r h) (hu : u < n) : okS n r (csl h u) := by
  cases hr : roomH h u with
  | none => rw [csl_none hr]; exact hu
  | some i => rw [csl_some hr]; exact room_lt w hr
theorem cont_csl (c : CC) (n r : Nat) (A : HA) (h : Ho) (u : Nat) : cont c n r A h (csl h u) = .lst ((cu h u).map V.int) := by
  cases hr : roomH h u with
  | none => rw [csl_none hr]; show HO.lst ((shelfC h u).map V.int) = _; unfold shelfC; rw [if_pos hr]
  | some i => rw [csl_some hr]; show HO.lst ((keptC h i).map V.int) = _; unfold keptC; rw [room_at hr]
theorem csl_pr {k : Nat} : csl h u ≠ .pr v k := by unfold csl; split <;> intro e <;> cases e
/-- the first place of a guest -/
theorem roomN_first {gs : List (Option Nat)} {i : Nat} (hi : gs[i]? = some (some u)) (hn : ∀ j : Nat, j < i → gs[j]? ≠ some (some u)) : roomN gs u = some i := by
  unfold roomN
  obtain ⟨h1, h2⟩ := List.getElem?_eq_some_iff.mp hi
  refine List.findIdx?_eq_some_iff_getElem.mpr ⟨h1, by rw [h2]; exact beq_self_eq_true _, fun j hj => ?_⟩
  have hj2 : j < gs.length := by omega
  have := hn j hj
  rw [List.getElem?_eq_getElem hj2] at this
  intro z
  exact this (congrArg some (beq_iff_eq.mp z))
theorem roomN_no {gs : List (Option Nat)} (hn : ∀ j : Nat, gs[j]? ≠ some (some u)) : roomN gs u = none := by
  unfold roomN
  refine List.findIdx?_eq_none_iff.mpr fun x hx => ?_
  obtain ⟨j, hj⟩ := List.getElem?_of_mem hx
  cases x with
  | none => rfl
  | some v =>
    by_cases e : v = u
    · subst e; exact absurd hj (hn j)
    · simp [e]
theorem nd_ad (inj : ∀ s t, okS n r s → okS n r t → A.ad s = A.ad t → s = t) : ∀ (l : List Slot), l.Nodup → (∀ s ∈ l, okS n r s) → (l.map A.ad).Nodup
  | [], _, _ => List.nodup_nil
  | s :: l, hd, ho => by
    obtain ⟨h1, h2⟩ := List.nodup_cons.mp hd
    refine List.nodup_cons.mpr ⟨fun hm => ?_, nd_ad inj l h2 fun t ht => ho t (List.mem_cons_of_mem _ ht)⟩
    obtain ⟨t, ht, e⟩ := List.mem_map.mp hm
    have := inj t s (ho t (List.mem_cons_of_mem _ ht)) (ho s List.mem_cons_self) e
    exact h1 (this ▸ ht)
def pSlots (h : Ho) (u : Nat) : List Slot := [.pr u 0, .pr u 1, csl h u, .pr u 2, .pr u 3, .pr u 4, .pr u 5, .pr u 6, .pr u 7, .pr u 8, .pr u 9]
theorem pSlots_ok (w : WfH n r h) (hu : u < n) : ∀ s ∈ pSlots h u, okS n r s := by
  intro s hs
  have := csl_ok w hu
  simp only [pSlots, List.mem_cons, List.not_mem_nil, or_false] at hs
  rcases hs with rfl | rfl | rfl | rfl | rfl | rfl | rfl | rfl | rfl | rfl | rfl <;> first | exact this | exact ⟨hu, by decide⟩
theorem pSlots_nd : (pSlots h u).Nodup := by
  have e : ∀ k, csl h u ≠ .pr u k := fun k => csl_pr
  have e' : ∀ k, Slot.pr u k ≠ csl h u := fun k z => csl_pr z.symm
  simp [pSlots, List.nodup_cons, e, e', Slot.pr.injEq]
theorem foot_pa (A : HA) (h : Ho) (u : Nat) : (paU A u (A.ad (csl h u))).foot = (pSlots h u).map A.ad := rfl
/-- the user u as it stands, when its machine points at its cells -/
theorem HoAt.pat (x : HoAt c n r H A h) (w : WfH n r h) (hu : u < n) (hc : A.cp u = A.ad (csl h u)) : PAt c.m c.p H (paU A u (A.ad (csl h u))) (pu h u) := by
  have ok := csl_ok w hu
  have wp := (w.pw u hu).1
  refine ⟨x.at_ (.pr u 0) ⟨hu, by decide⟩, ?_, ?_, x.at_ (.pr u 2) ⟨hu, by decide⟩, x.at_ (.pr u 3) ⟨hu, by decide⟩, x.at_ (.pr u 4) ⟨hu, by decide⟩, x.at_ (.pr u 5) ⟨hu, by decide⟩, fun i a ha => ?_, rfl, ?_⟩
  · have := x.at_ (.pr u 1) ⟨hu, by decide⟩
    refine this.trans ?_
    show some (HO.ins c.m (A.dm u) (mfs (A.cp u) (pu h u).m)) = _
    rw [hc]; rfl
  · have := x.at_ (csl h u) ok
    rw [cont_csl] at this
    exact this
  · have hb : ∀ k, k < 4 → ∃ ws, (pu h u).blocks[k]? = some ws ∧ H (A.ad (.pr u (k + 6))) = some (.lst (ws.map V.int)) := fun k hk => by
      refine ⟨_, (block_in wp hk).1, x.at_ (.pr u (k + 6)) ⟨hu, by omega⟩⟩
    match i, ha with
    | 0, ha => cases ha; exact hb 0 (by decide)
    | 1, ha => cases ha; exact hb 1 (by decide)
    | 2, ha => cases ha; exact hb 2 (by decide)
    | 3, ha => cases ha; exact hb 3 (by decide)
    | i + 4, ha => cases ha
  · rw [foot_pa]; exact nd_ad x.inj _ pSlots_nd (pSlots_ok w hu)
/-- contents that a change of user u does not touch -/
theorem cont_other {P : Pn} (w : WfH n r h) (hu : u < n) (hs : okS n r s) (ns : s ∉ pSlots h u) (A : HA) : cont c n r A { h with ps := h.ps.set u P } s = cont c n r A h s := by
  have pv : ∀ v, u ≠ v → pu { h with ps := h.ps.set u P } v = pu h v := fun v hv => pu_ne hv
  cases s with
  | kr i =>
    show HO.lst ((keptC { h with ps := h.ps.set u P } i).map V.int) = HO.lst ((keptC h i).map V.int)
    unfold keptC
    show HO.lst (List.map V.int (match h.guests[i]? with | some (some u_1) => cu { h with ps := h.ps.set u P } u_1 | _ => zeros)) = _
    cases hg : h.guests[i]? with
    | none => rfl
    | some g =>
      cases g with
      | none => rfl
      | some v =>
        by_cases c : u = v
        · subst c
          exfalso
          refine ns ?_
          cases hr : roomH h u with
          | none => exact absurd hg (roomN_none hr i)
          | some j =>
            have := w.gi i j u hg (room_at hr)
            subst this
            unfold pSlots
            rw [csl_some hr]; simp
        · show HO.lst ((cu { h with ps := h.ps.set u P } v).map V.int) = HO.lst ((cu h v).map V.int)
          unfold cu; rw [pv v c]
  | sr v =>
    show HO.lst ((shelfC { h with ps := h.ps.set u P } v).map V.int) = HO.lst ((shelfC h v).map V.int)
    unfold shelfC
    show HO.lst (List.map V.int (if roomH h v = none then cu { h with ps := h.ps.set u P } v else h.stale.getD v [])) = _
    split
    · rename_i hr
      by_cases c : u = v
      · subst c
        exfalso
        refine ns ?_
        unfold pSlots
        rw [csl_none hr]; simp
      · unfold cu; rw [pv v c]
    · rfl
  | pr v k =>
    by_cases c : u = v
    · subst c
      exfalso
      obtain ⟨_, hk⟩ := hs
      refine ns ?_
      unfold pSlots
      match k, hk with
      | 0, _ => simp
      | 1, _ => simp
      | 2, _ => simp
      | 3, _ => simp
      | 4, _ => simp
      | 5, _ => simp
      | 6, _ => simp
      | 7, _ => simp
      | 8, _ => simp
      | 9, _ => simp
      | k + 10, hk => omega
    · match k with
      | 0 => show HO.ins _ _ (pfs _ (pu { h with ps := h.ps.set u P } v)) = HO.ins _ _ (pfs _ (pu h v)); rw [pv v c]
      | 1 => show HO.ins _ _ (mfs _ (pu { h with ps := h.ps.set u P } v).m) = HO.ins _ _ (mfs _ (pu h v).m); rw [pv v c]
      | 2 => show HO.lst ((pu { h with ps := h.ps.set u P } v).inbox.map V.int) = HO.lst ((pu h v).inbox.map V.int); rw [pv v c]
      | 3 => show HO.lst ((pu { h with ps := h.ps.set u P } v).outbox.map V.int) = HO.lst ((pu h v).outbox.map V.int); rw [pv v c]
      | 4 => show HO.lst ((pu { h with ps := h.ps.set u P } v).paper.map V.int) = HO.lst ((pu h v).paper.map V.int); rw [pv v c]
      | 5 => rfl
      | k + 6 => show HO.lst (((pu { h with ps := h.ps.set u P } v).blocks.getD k []).map V.int) = HO.lst (((pu h v).blocks.getD k []).map V.int); rw [pv v c]
  | _ => rfl
/-- user u changed as it stands alone -/
theorem HoAt.person {P : Pn} (x : HoAt c n r H A h) (w : WfH n r h) (hu : u < n) (hc : A.cp u = A.ad (csl h u)) (hP : PAt c.m c.p H' (paU A u (A.ad (csl h u))) P) (f : Fr (paU A u (A.ad (csl h u))).foot H H') : HoAt c n r H' A { h with ps := h.ps.set u P } ∧ Mv (footH n r A) H (footH n r A) H' := by
  have hul : u < h.ps.length := by rw [w.lp]; exact hu
  have pe : pu { h with ps := h.ps.set u P } u = P := pu_set hul
  have sub : ∀ b ∈ (paU A u (A.ad (csl h u))).foot, footH n r A b := fun b hb => by
    rw [foot_pa] at hb
    obtain ⟨s, hs, rfl⟩ := List.mem_map.mp hb
    exact ⟨s, pSlots_ok w hu s hs, rfl⟩
  refine ⟨⟨fun s hs => ?_, x.inj, x.dl, fun v i a e hv h1 h2 => ?_⟩, ⟨fun b o nb e => f b o (fun hm => nb (sub b hm)) e, fun b fb => .inl fb⟩⟩
  · by_cases hm : s ∈ pSlots h u
    · have hcs : (cu { h with ps := h.ps.set u P } u) = P.m.cells := by unfold cu; rw [pe]
      simp only [pSlots, List.mem_cons, List.not_mem_nil, or_false] at hm
      have blk : ∀ k, k < 4 → H' (A.ad (.pr u (k + 6))) = some (.lst ((P.blocks.getD k []).map V.int)) := fun k hk => by
        have : ∃ a, (paU A u (A.ad (csl h u))).bs[k]? = some a ∧ a = A.ad (.pr u (k + 6)) := by
          match k, hk with
          | 0, _ => exact ⟨_, rfl, rfl⟩
          | 1, _ => exact ⟨_, rfl, rfl⟩
          | 2, _ => exact ⟨_, rfl, rfl⟩
          | 3, _ => exact ⟨_, rfl, rfl⟩
          | k + 4, hk => omega
        obtain ⟨a, ha, rfl⟩ := this
        obtain ⟨ws, w1, w2⟩ := hP.hbs k _ ha
        rw [w2, List.getD_eq_getElem?_getD, w1]; rfl
      rcases hm with rfl | rfl | rfl | rfl | rfl | rfl | rfl | rfl | rfl | rfl | rfl
      · show _ = some (HO.ins c.p (A.dp u) (pfs (paU A u 0) (pu { h with ps := h.ps.set u P } u))); rw [pe]; exact hP.hp
      · show _ = some (HO.ins c.m (A.dm u) (mfs (A.cp u) (pu { h with ps := h.ps.set u P } u).m)); rw [pe, hc]; exact hP.hm
      · refine (show H' (A.ad (csl h u)) = some _ from hP.hc).trans ?_
        have := cont_csl c n r A { h with ps := h.ps.set u P } u
        rw [hcs] at this
        exact congrArg some this.symm
      · show _ = some (HO.lst ((pu { h with ps := h.ps.set u P } u).inbox.map V.int)); rw [pe]; exact hP.hi
      · show _ = some (HO.lst ((pu { h with ps := h.ps.set u P } u).outbox.map V.int)); rw [pe]; exact hP.ho
      · show _ = some (HO.lst ((pu { h with ps := h.ps.set u P } u).paper.map V.int)); rw [pe]; exact hP.hq
      · exact hP.hb
      · show _ = some (HO.lst (((pu { h with ps := h.ps.set u P } u).blocks.getD 0 []).map V.int)); rw [pe]; exact blk 0 (by decide)
      · show _ = some (HO.lst (((pu { h with ps := h.ps.set u P } u).blocks.getD 1 []).map V.int)); rw [pe]; exact blk 1 (by decide)
      · show _ = some (HO.lst (((pu { h with ps := h.ps.set u P } u).blocks.getD 2 []).map V.int)); rw [pe]; exact blk 2 (by decide)
      · show _ = some (HO.lst (((pu { h with ps := h.ps.set u P } u).blocks.getD 3 []).map V.int)); rw [pe]; exact blk 3 (by decide)
    · rw [cont_other w hu hs hm]
      refine f _ _ (fun hf => ?_) (x.at_ s hs)
      rw [foot_pa] at hf
      obtain ⟨t, ht, e⟩ := List.mem_map.mp hf
      exact hm (x.inj t s (pSlots_ok w hu t ht) hs e ▸ ht)
  · have h3 := x.dt v i a e hv h1 h2
    exact f _ _ (fun hm => (x.noT a (sub a hm)).a _ h3) h3
def setCp (A : HA) (u : Nat) (q : Addr) : HA := { A with cp := fun v => if v = u then q else A.cp v }
theorem cont_cp {q : Addr} (hn : s ≠ .pr u 1) : cont c n r (setCp A u q) h s = cont c n r A h s := by
  cases s with
  | pr v k =>
    match k with
    | 1 => show HO.ins _ _ (mfs (if v = u then q else A.cp v) _) = HO.ins _ _ (mfs (A.cp v) _); rw [if_neg (fun e => hn (by rw [e]))]; rfl
    | 0 => rfl
    | 2 => rfl
    | 3 => rfl
    | 4 => rfl
    | 5 => rfl
    | k + 6 => rfl
  | _ => rfl
/-- the machine points at the user's cells -/
theorem HoAt.point (x : HoAt c n r H A h) (hu : u < n) (q : Addr) : HoAt c n r (upd H (A.ad (.pr u 1)) (.ins c.m (A.dm u) (mfs q (pu h u).m))) (setCp A u q) h ∧ Mv (footH n r A) H (footH n r (setCp A u q)) (upd H (A.ad (.pr u 1)) (.ins c.m (A.dm u) (mfs q (pu h u).m))) :=
  x.put (A' := setCp A u q) (h' := h) (.pr u 1) ⟨hu, by decide⟩ rfl (by show HO.ins c.m (A.dm u) (mfs (if u = u then q else A.cp u) _) = _; rw [if_pos rfl]) (fun t _ ht => cont_cp ht) x.dl x.dt
def addDt (A : HA) (u : Nat) (a : Addr) : HA := { A with dts := fun v => if v = u then A.dts u ++ [a] else A.dts v }
theorem HoAt.diary {a : Addr} (x : HoAt c n r H A h) (hd : u < h.diaries.length) (hu : u < n) (ha : H a = some (.tup (evV e))) : HoAt c n r (upd H (A.ad (.dr u)) (.lst ((A.dts u).map V.ref ++ [.ref a]))) (addDt A u a) { h with diaries := h.diaries.set u (dy h u ++ [e]) } ∧ Mv (footH n r A) H (footH n r (addDt A u a)) (upd H (A.ad (.dr u)) (.lst ((A.dts u).map V.ref ++ [.ref a]))) := by
  have du : dy { h with diaries := h.diaries.set u (dy h u ++ [e]) } u = dy h u ++ [e] := getD_set_self hd
  have dv : ∀ v, u ≠ v → dy { h with diaries := h.diaries.set u (dy h u ++ [e]) } v = dy h v := fun v hv => getD_set_ne hv
  have tu : (addDt A u a).dts u = A.dts u ++ [a] := by unfold addDt; simp
  have tv : ∀ v, u ≠ v → (addDt A u a).dts v = A.dts v := fun v hv => by unfold addDt; simp [Ne.symm hv]
  refine x.put (A' := addDt A u a) (.dr u) hu rfl (by show HO.lst (((addDt A u a).dts u).map V.ref) = _; rw [tu, List.map_append]; rfl) (fun t _ ht => ?_) (fun v hv => ?_) (fun v i b ev hv h1 h2 => ?_)
  · cases t with
    | dr v => show HO.lst (((addDt A u a).dts v).map V.ref) = HO.lst ((A.dts v).map V.ref); rw [tv v (fun e => ht (by rw [e]))]
    | pr v k =>
      match k with
      | 0 => rfl
      | 1 => rfl
      | 2 => rfl
      | 3 => rfl
      | 4 => rfl
      | 5 => rfl
      | k + 6 => rfl
    | _ => rfl
  · by_cases q : u = v
    · subst q; rw [tu, du, List.length_append, List.length_append, x.dl u hv]; rfl
    · rw [tv v q, dv v q]; exact x.dl v hv
  · by_cases q : u = v
    · subst q
      rw [tu] at h1
      rw [du] at h2
      by_cases hi : i < (A.dts u).length
      · rw [List.getElem?_append_left hi] at h1
        rw [List.getElem?_append_left (by rw [← x.dl u hv]; exact hi)] at h2
        exact x.dt u i b ev hv h1 h2
      · have hi2 := (List.getElem?_eq_some_iff.mp h1).1
        rw [List.length_append] at hi2
        have e0 : i = (A.dts u).length := by simp at hi2; omega
        subst e0
        rw [List.getElem?_append_right (Nat.le_refl _), Nat.sub_self] at h1
        rw [x.dl u hv, List.getElem?_append_right (Nat.le_refl _), Nat.sub_self] at h2
        cases h1; cases h2
        exact ha
    · rw [tv v q] at h1
      rw [dv v q] at h2
      exact x.dt v i b ev hv h1 h2
theorem cont_row {g : List Nat} (hn : s ≠ .row) : cont c n r A { h with row := g } s = cont c n r A h s := by
  cases s with
  | row => exact absurd rfl hn
  | pr v k =>
    match k with
    | 0 => rfl
    | 1 => rfl
    | 2 => rfl
    | 3 => rfl
    | 4 => rfl
    | 5 => rfl
    | k + 6 => rfl
  | _ => rfl
theorem HoAt.setRow (x : HoAt c n r H A h) (g : List Nat) : HoAt c n r (upd H (A.ad .row) (.lst (g.map nV))) A { h with row := g } ∧ Mv (footH n r A) H (footH n r A) (upd H (A.ad .row) (.lst (g.map nV))) :=
  x.put (A' := A) .row trivial rfl rfl (fun t _ ht => cont_row ht) x.dl x.dt
theorem cont_house (hs : s ≠ .house) {h' : Ho} (e : h'.ps = h.ps ∧ h'.guests = h.guests ∧ h'.stale = h.stale ∧ h'.turn = h.turn ∧ h'.swaps = h.swaps ∧ h'.row = h.row) (ea : A'.ad = A.ad ∧ A'.drm = A.drm ∧ A'.dp = A.dp ∧ A'.dm = A.dm ∧ A'.cp = A.cp ∧ A'.dts = A.dts) : cont c n r A' h' s = cont c n r A h s := by
  obtain ⟨e1, e2, e3, e4, e5, e6⟩ := e
  obtain ⟨a1, a2, a3, a4, a5, a6⟩ := ea
  have p : ∀ v, pu h' v = pu h v := fun v => by unfold pu; rw [e1]
  have pa : ∀ v, paU A' v 0 = paU A v 0 := fun v => by unfold paU; rw [a1, a3, a4]
  cases s with
  | house => exact absurd rfl hs
  | people => show HO.lst _ = HO.lst _; rw [a1]
  | rooms => show HO.ins c.r A'.drm (rfs A' h') = HO.ins c.r A.drm (rfs A h); unfold rfs; rw [a1, a2, e4, e5]
  | guests => show HO.lst _ = HO.lst _; rw [e2]
  | kept => show HO.lst _ = HO.lst _; rw [a1]
  | shelves => show HO.lst _ = HO.lst _; rw [a1]
  | diaries => show HO.lst _ = HO.lst _; rw [a1]
  | row => show HO.lst _ = HO.lst _; rw [e6]
  | kr i => show HO.lst ((keptC h' i).map V.int) = HO.lst ((keptC h i).map V.int); unfold keptC cu; rw [e2]; split <;> (try rw [p]) <;> rfl
  | sr v => show HO.lst ((shelfC h' v).map V.int) = HO.lst ((shelfC h v).map V.int); unfold shelfC roomH cu; rw [e2, e3, p]
  | dr v => show HO.lst _ = HO.lst _; rw [a6]
  | pr v k =>
    match k with
    | 0 => show HO.ins _ _ (pfs _ _) = HO.ins _ _ (pfs _ _); rw [p, a3, pa]
    | 1 => show HO.ins _ _ (mfs _ _) = HO.ins _ _ (mfs _ _); rw [p, a4, a5]
    | 2 => show HO.lst ((pu h' v).inbox.map V.int) = HO.lst ((pu h v).inbox.map V.int); rw [p]
    | 3 => show HO.lst ((pu h' v).outbox.map V.int) = HO.lst ((pu h v).outbox.map V.int); rw [p]
    | 4 => show HO.lst ((pu h' v).paper.map V.int) = HO.lst ((pu h v).paper.map V.int); rw [p]
    | 5 => show HO.lst _ = HO.lst _; rw [a1]
    | k + 6 => show HO.lst (((pu h' v).blocks.getD k []).map V.int) = HO.lst (((pu h v).blocks.getD k []).map V.int); rw [p]
end
/-! promises -/
def spRoom (c : CC) : Sp := fun vs H Q _ => ∃ (n r : Nat) (A : HA) (h : Ho) (u : Nat), vs = [.ref (A.ad .rooms), nV u] ∧ HoAt c n r H A h ∧ ∀ H', Same H H' → Q (gV (roomH h u)) H'
def spCellsOf (c : CC) : Sp := fun vs H Q _ => ∃ (n r : Nat) (A : HA) (h : Ho) (u : Nat), vs = [.ref (A.ad .rooms), nV u] ∧ HoAt c n r H A h ∧ WfH n r h ∧ u < n ∧ ∀ H', Same H H' → Q (.ref (A.ad (csl h u))) H'
def spEvent (c : CC) : Sp := fun vs H Q _ => ∃ (n r : Nat) (A : HA) (h : Ho) (k u : Nat) (a : Addr) (e : Ev), vs = [.ref (A.ad .house), nV u, .ref a] ∧ HoAt c n r H A h ∧ WfH n r h ∧ Lm k h ∧ k < 800000 ∧ u < n ∧ n ≤ 8 ∧ H a = some (.tup (evV e)) ∧ HNx0 c n r H A (eventT h u e) (Q .non)
def spEnter (c : CC) : Sp := fun vs H Q _ => ∃ (n r : Nat) (A : HA) (h : Ho) (u : Nat), vs = [.ref (A.ad .rooms), nV u] ∧ HoAt c n r H A h ∧ WfH n r h ∧ u < n ∧ HNx0 c n r H A (enterT h u) (Q .non)
def spSettle (c : CC) : Sp := fun vs H Q _ => ∃ (n r : Nat) (A : HA) (h : Ho), vs = [.ref (A.ad .house)] ∧ HoAt c n r H A h ∧ WfH n r h ∧ n ≤ 8 ∧ Syn A h ∧ HNy c n r H A (settleT h) (Q .non)
def spStart (c : CC) : Sp := fun vs H Q _ => ∃ (n r : Nat) (A : HA) (h : Ho) (k u : Nat) (p : Int), vs = [.ref (A.ad .house), nV u, .int p] ∧ HoAt c n r H A h ∧ WfH n r h ∧ Lm k h ∧ k < 800000 ∧ u < n ∧ n ≤ 8 ∧ Syn A h ∧ 0 ≤ p ∧ p < 64 ∧ HNy c n r H A (startT h u p) (Q .non)
def spKey (c : CC) : Sp := fun vs H Q _ => ∃ (n r : Nat) (A : HA) (h : Ho) (k u : Nat) (p : Int), vs = [.ref (A.ad .house), nV u, .int p] ∧ HoAt c n r H A h ∧ WfH n r h ∧ Lm k h ∧ k < 800000 ∧ u < n ∧ n ≤ 8 ∧ Syn A h ∧ 0 ≤ p ∧ p < 256 ∧ HNy c n r H A (keyT h u p) (Q .non)
def spTick (c : CC) : Sp := fun vs H Q _ => ∃ (n r : Nat) (A : HA) (h : Ho) (k : Nat), vs = [.ref (A.ad .house)] ∧ HoAt c n r H A h ∧ WfH n r h ∧ Lm k h ∧ k < 700000 ∧ n ≤ 8 ∧ Syn A h ∧ HNy c n r H A (tickT h) (Q .non)
def spRun (c : CC) : Sp := fun vs H Q _ => ∃ (n r : Nat) (A : HA) (h : Ho) (k m : Nat), vs = [.ref (A.ad .house), .int (m : Int)] ∧ HoAt c n r H A h ∧ WfH n r h ∧ Lm k h ∧ k + 9 * m < 600000 ∧ n ≤ 8 ∧ Syn A h ∧ HNy c n r H A (runT h m) (Q .non)
section
variable {σ : L2.St} {H : Hp} {K : PySem.W.Frag} {ta tv : TE} {f : Str} {N : L2.St → Hp → Prop} {R : VK} {B C' : L2.St → Hp → Prop} {tz : TS}
/-- x.f = e by any readings -/
theorem qx_fldC (h : tv σ H fun v H1 => ta σ H1 fun x H2 => ∃ p C dx fs, x = .ref p ∧ H2 p = some (.ins C dx fs) ∧ Cls K C ∧ NoAttr K C f ∧ fs.length < 1000 ∧ tz ⟨N, R, B, C'⟩ σ (upd H2 p (.ins C dx (putF f v fs)))) : tSeq (sFld K ta tv f) tz ⟨N, R, B, C'⟩ σ H := h
theorem sx_fldC (h : tv σ H fun v H1 => ta σ H1 fun x H2 => ∃ p C dx fs, x = .ref p ∧ H2 p = some (.ins C dx fs) ∧ Cls K C ∧ NoAttr K C f ∧ fs.length < 1000 ∧ N σ (upd H2 p (.ins C dx (putF f v fs)))) : sFld K ta tv f ⟨N, R, B, C'⟩ σ H := h
end
/-- unlike numbers below n -/
theorem nd_le : ∀ {n : Nat} {l : List Nat}, l.Nodup → (∀ u ∈ l, u < n) → l.length ≤ n
  | 0, [], _, _ => Nat.le_refl _
  | 0, u :: l, _, h => absurd (h u List.mem_cons_self) (Nat.not_lt_zero _)
  | n + 1, l, nd, h => by
    have h2 : ∀ u ∈ l.filter (fun u => decide (u ≠ n)), u < n := fun u hu => by
      obtain ⟨a, b⟩ := List.mem_filter.mp hu
      have := h u a
      have := of_decide_eq_true b
      omega
    have ih := nd_le (n := n) (nd.filter _) h2
    have : l.length ≤ (l.filter (fun u => decide (u ≠ n))).length + 1 := by
      clear ih h2 h
      induction l with
      | nil => exact Nat.zero_le _
      | cons a l ih =>
        obtain ⟨n1, n2⟩ := List.nodup_cons.mp nd
        by_cases c : a = n
        · subst c
          have e : (a :: l).filter (fun u => decide (u ≠ a)) = l := by
            rw [List.filter_cons, if_neg (by simp)]
            exact List.filter_eq_self.mpr fun u hu => decide_eq_true (fun q => n1 (q ▸ hu))
          rw [e]; exact Nat.le_refl _
        · have e : (a :: l).filter (fun u => decide (u ≠ n)) = a :: l.filter (fun u => decide (u ≠ n)) := by rw [List.filter_cons, if_pos (by simp [c])]
          rw [e, List.length_cons, List.length_cons]
          have := ih n2
          omega
    omega
theorem q_setItemV {σ : L2.St} {H : Hp} {te to ti : TE} {v : V} {p : Addr} {i : Nat} {xs : List V} {N : L2.St → Hp → Prop} {R : VK} {B C' : L2.St → Hp → Prop} {tz : TS} (hv : Val te σ H v) (ho : Val to σ H (.ref p)) (hi : Val ti σ H (.int (i : Int))) (hp : H p = some (.lst xs)) (h1 : i < xs.length) (q : tz ⟨N, R, B, C'⟩ σ (upd H p (.lst (xs.set i v)))) :
    tSeq (tAsg te (gSub to ti rSetL)) tz ⟨N, R, B, C'⟩ σ H := hv _ (ho _ (hi _ ⟨p, _, (i : Int), i, rfl, rfl, hp, by rw [ixN_int (by omega) (by omega), Int.toNat_natCast], q⟩))
theorem Tx.ht {K : PySem.W.Frag} {mg : Str → Option Value} (T : Tx K mg) : HTx K (He.ga K "House") := by
  refine ⟨T.cls 95, fun f hf => ?_⟩
  simp only [List.mem_cons, List.not_mem_nil, or_false] at hf
  rcases hf with rfl | rfl | rfl | rfl | rfl | rfl | rfl | rfl | rfl | rfl | rfl | rfl | rfl
  · exact T.no 97
  · exact T.no 98
  · exact T.no 99
  · exact T.no 100
  · exact T.no 101
  · exact T.no 102
  · exact T.no 103
  · exact T.no 104
  · exact T.no 105
  · exact T.no 106
  · exact T.no 107
  · exact T.no 108
  · exact T.no 109
theorem Tx.rt {K : PySem.W.Frag} {mg : Str → Option Value} (T : Tx K mg) : RTx K (He.ga K "Rooms") := by
  refine ⟨T.cls 87, fun f hf => ?_⟩
  simp only [List.mem_cons, List.not_mem_nil, or_false] at hf
  rcases hf with rfl | rfl | rfl | rfl | rfl
  · exact T.no 89
  · exact T.no 90
  · exact T.no 91
  · exact T.no 92
  · exact T.no 93

section
variable {P : Program} {w : World} {K : PySem.W.Frag} {mg : Str → Option Value} {base : Heap}

theorem sc_room_with : FnScope ["rooms", "user", "k", "guest"] ["rooms", "user"] (defScope s_room_with) := ⟨rfl, rfl, rfl, by decide +kernel, rfl, by decide +kernel, by decide +kernel⟩
theorem cal_room_with (T : Tx K mg) : Cal P w K mg base 1 "room_with" ["rooms", "user"] (spRoom (CCk K)) := by
  refine cal_mk T 34 34 rfl rfl sc_room_with (fun _ _ _ _ _ _ us hl => match us, hl with | [_, _], _ => rfl) (fun vs H Q E h => ?_) (fun f cdv A outer s H vs Q E hr h => ?_)
  · obtain ⟨n, r, A, h, u, rfl, x, k⟩ := h
    rfl
  · obtain ⟨n, r, A, h, u, rfl, x, k⟩ := h
    have M := T.mt
    have U := T.pt
    have HT : HTx K (CCk K).h := T.ht
    have RT : RTx K (CCk K).r := T.rt
    refine ⟨_, (pss_cons (ps_for PassesOwn.never rfl (pi_enum (by rfl) (T.free 56) (pa_cons (pe_fld (pv 0) rfl) pa_nil)) (pg_tup (by rfl) (pgs_cons (pg_name (i := 2) sc_room_with.nd rfl (Or.inl rfl)) (pgs_cons (pg_name (i := 3) sc_room_with.nd rfl (Or.inl rfl)) pgs_nil))) (pss_one (ps_if (pt_cmpR op_eq (pv 3) (pv 1) (nomark _)) (pss_one (ps_ret (pv 2))) pss_nil))) (pss_one (ps_ret pe_non))), ?_⟩
    refine q_forE (va_cons (vr_ (c := CCk K) RT x (v_var rfl) rl_guests) va_nil) (SqL.of (x.at_ .guests trivial)) (fun i σ' H' => ∃ y z, Same H H' ∧ (∀ j : Nat, j < i → h.guests[j]? ≠ some (some u)) ∧ σ' = [some (.ref (A.ad .rooms)), some (nV u), y, z]) ⟨_, _, Same.refl _, fun j hj => absurd hj (Nat.not_lt_zero _), rfl⟩ (fun i σ' H' pv => ?_) (fun i z σ' H' P hz pv hP => ?_) (fun σ' H' pv => ?_)
    · obtain ⟨_, _, sm, _⟩ := pv
      exact SqL.of (sm _ _ (x.at_ .guests trivial))
    · obtain ⟨y1, y2, sm, hn, rfl⟩ := pv
      rw [List.getElem?_map] at hz
      obtain ⟨g, hg, rfl⟩ := Option.map_eq_some_iff.mp hz
      have sm2 := sm.trans (smN (o := HO.tup [.int (i : Int), gV g]) hP)
      refine s_if (a_t (v_eqV (v_var rfl) (v_var rfl) (by cases g <;> rfl))) (fun c => ?_) (fun c => ?_)
      · have c := of_decide_eq_true c
        have e : g = some u := by
          cases g with
          | none => cases c
          | some v => have : (v : Int) = (u : Int) := V.int.inj c; exact congrArg some (Int.ofNat.inj this)
        subst e
        have e2 : roomH h u = some i := roomN_first hg hn
        rw [e2] at k
        exact s_ret (v_var rfl) (k _ sm2)
      · have c := of_decide_eq_false c
        refine s_next ⟨_, _, sm2, fun j hj e => ?_, rfl⟩
        by_cases q : j = i
        · subst q
          rw [hg] at e
          cases e
          exact c rfl
        · exact hn j (by omega) e
    · obtain ⟨y1, y2, sm, hn, rfl⟩ := pv
      have e2 : roomH h u = none := roomN_no fun j e => by
        have := (List.getElem?_eq_some_iff.mp e).1
        exact hn j (by rw [List.length_map]; exact this) e
      rw [e2] at k
      exact s_ret v_c (k _ sm)

theorem sc_cells_of : FnScope ["rooms", "user", "at"] ["rooms", "user"] (defScope s_cells_of) := ⟨rfl, rfl, rfl, by decide +kernel, rfl, by decide +kernel, by decide +kernel⟩
theorem cal_cells_of (T : Tx K mg) : Cal P w K mg base 2 "cells_of" ["rooms", "user"] (spCellsOf (CCk K)) := by
  refine cal_mk T 35 35 rfl rfl sc_cells_of (fun _ _ _ _ _ _ us hl => match us, hl with | [_, _], _ => rfl) (fun vs H Q E h => ?_) (fun f cdv A outer s H vs Q E hr h => ?_)
  · obtain ⟨n, r, A, h, u, rfl, x, w, hu, k⟩ := h
    rfl
  · obtain ⟨n, r, A, h, u, rfl, x, w, hu, k⟩ := h
    have M := T.mt
    have U := T.pt
    have HT : HTx K (CCk K).h := T.ht
    have RT : RTx K (CCk K).r := T.rt
    refine ⟨_, (pss_cons (ps_set (i := 2) sc_cells_of.nd rfl (Or.inl rfl) (pe_cal (cal_room_with (K := K) T) hr (by decide) rfl (pa_cons (pv 0) (pa_cons (pv 1) pa_nil)))) (pss_cons (ps_if (pt_cmpR op_isN1 (pv 2) pe_non (nomark _)) (pss_one (ps_ret (pe_ix ix_list (pe_fld (pv 0) rfl) (pv 1) (fun _ _ => rfl)))) pss_nil) (pss_one (ps_ret (pe_ix ix_list (pe_fld (pv 0) rfl) (pv 2) (fun _ _ => rfl)))))), ?_⟩
    refine q_setc (va_cons (v_var rfl) (va_cons (v_var rfl) va_nil)) ⟨n, r, A, h, u, rfl, x, fun H1 s1 => ?_⟩
    have x1 := x.same s1
    cases hr : roomH h u with
    | none =>
      rw [csl_none hr] at k
      refine q_ifT (a_t (v_isN (v_var rfl) v_c)) (by rfl) ?_
      exact s_ret (v_ixL (vr_ (c := CCk K) RT x1 (v_var rfl) rl_shelves) (v_var rfl) (SqL.of (x1.at_ .shelves trivial)) (by omega) (by rw [Int.toNat_natCast, List.getElem?_map, List.getElem?_range hu]; rfl)) (k _ s1)
    | some i =>
      rw [csl_some hr] at k
      refine q_ifF0 (a_t (v_isN (v_var rfl) v_c)) (by rfl) ?_
      exact s_ret (v_ixL (vr_ (c := CCk K) RT x1 (v_var rfl) rl_kept) (v_var rfl) (SqL.of (x1.at_ .kept trivial)) (by omega) (by rw [Int.toNat_natCast, List.getElem?_map, List.getElem?_range (room_lt w hr)]; rfl)) (k _ s1)

theorem sc_event_told : FnScope ["house", "user", "event", "person", "was"] ["house", "user", "event"] (defScope s_event_told) := ⟨rfl, rfl, rfl, by decide +kernel, rfl, by decide +kernel, by decide +kernel⟩
theorem cal_event_told (T : Tx K mg) : Cal P w K mg base 6 "event_told" ["house", "user", "event"] (spEvent (CCk K)) := by
  refine cal_mk T 39 39 rfl rfl sc_event_told (fun _ _ _ _ _ _ us hl => match us, hl with | [_, _, _], _ => rfl) (fun vs H Q E h => ?_) (fun f cdv A outer s H vs Q E hr h => ?_)
  · obtain ⟨n, r, A, h, kk, u, a, e, rfl, x, w, lm, hk, hu, hn8, ha, k⟩ := h
    rfl
  · obtain ⟨n, r, A, h, kk, u, a, e, rfl, x, w, lm, hk, hu, hn8, ha, k⟩ := h
    have M := T.mt
    have U := T.pt
    have HT : HTx K (CCk K).h := T.ht
    have RT : RTx K (CCk K).r := T.rt
    refine ⟨_, (pss_cons (ps_set (i := 3) sc_event_told.nd rfl (Or.inl rfl) (pe_ix ix_list (pe_fld (pv 0) rfl) (pv 1) (fun _ _ => rfl))) (pss_cons (ps_set (i := 4) sc_event_told.nd rfl (Or.inl rfl) (pe_fld (pv 3) rfl)) (pss_cons (ps_fld (pe_fld (pv 3) rfl) (pe_cal (cal_cells_of (K := K) T) hr (by decide) rfl (pa_cons (pe_fld (pv 0) rfl) (pa_cons (pv 1) pa_nil))) rfl) (pss_cons (ps_expr (pe_cal (cal_happen (K := K) T) hr (by decide) rfl (pa_cons (pv 3) (pa_cons (pv 2) pa_nil)))) (pss_cons (ps_expr (pe_bm PySem.F.plainAttrs_list PySem.F.slot_list_append PySem.F.type_list_append mt_append (pe_ix ix_list (pe_fld (pv 0) rfl) (pv 1) (fun _ _ => rfl)) (pa_cons (pv 2) pa_nil))) (C8.pss_cut (ps_if (PW.pt (pw_and (pt_cmpR op_ne (pv 4) pe_str (nomark _)) (pw_and1 (pt_cmpR op_eq (pe_fld (pv 3) rfl) pe_str (nomark _))))) (pss_one (ps_expr (pe_bm PySem.F.plainAttrs_list PySem.F.slot_list_append PySem.F.type_list_append mt_append (pe_fld (pv 0) rfl) (pa_cons (pv 1) pa_nil)))) pss_nil) (pss_one (ps_if (PW.pt (pw_and (pt_cmpR op_eq (pe_fld (pv 0) rfl) (pv 1) (nomark _)) (pw_and1 (pt_cmpR op_ne (pe_fld (pv 3) rfl) pe_str (nomark _))))) (pss_cons (ps_fld (pv 0) pe_non rfl) (pss_one (ps_fld (pv 0) pe_int rfl))) pss_nil)))))))), ?_⟩
    have hul : u < h.ps.length := by rw [w.lp]; exact hu
    have hdl : u < h.diaries.length := by rw [w.ld]; exact hu
    refine q_set (v := .ref (A.ad (.pr u 0))) (v_ixL (vh_ (c := CCk K) HT x (v_var rfl) hl_people) (v_var rfl) (SqL.of (x.at_ .people trivial)) (by omega) (by rw [Int.toNat_natCast, List.getElem?_map, List.getElem?_range hu]; rfl)) ?_
    refine q_set (v := .str (pu h u).st) (val_fld (v_var rfl) (x.at_ (.pr u 0) ⟨hu, by decide⟩) U.cl U.nState pf_state) ?_
    refine qx_fldC (x_call (va_cons (vh_ (c := CCk K) HT x (v_var rfl) hl_places) (va_cons (v_var rfl) va_nil)) ⟨n, r, A, h, u, rfl, x, w, hu, fun H1 s1 => ?_⟩)
    have x1 := x.same s1
    refine x_v (val_fld (v_var rfl) (x1.at_ (.pr u 0) ⟨hu, by decide⟩) U.cl U.nMachine pf_machine) ⟨A.ad (.pr u 1), _, A.dm u, _, rfl, x1.at_ (.pr u 1) ⟨hu, by decide⟩, M.cl, M.nCells, by show 4 < 1000; decide, ?_⟩
    rw [mq_cells]
    obtain ⟨x2, m2⟩ := x1.point hu (A.ad (csl h u))
    have ha1 := s1 _ _ ha
    have nt1 := x1.noT _ ⟨.pr u 1, ⟨hu, by decide⟩, rfl⟩
    have ha2 : upd H1 (A.ad (.pr u 1)) (.ins (CCk K).m (A.dm u) (mfs (A.ad (csl h u)) (pu h u).m)) a = some (.tup (evV e)) := by rw [upd_ne (fun q => nt1.a _ (q ▸ ha1))]; exact ha1
    show tSeq _ _ _ _ (upd H1 (A.ad (.pr u 1)) (.ins (CCk K).m (A.dm u) (mfs (A.ad (csl h u)) (pu h u).m)))
    generalize upd H1 (A.ad (.pr u 1)) (.ins (CCk K).m (A.dm u) (mfs (A.ad (csl h u)) (pu h u).m)) = H2 at x2 m2 ha2 ⊢
    have m02 := (Mv.same s1).trans m2
    have sa1 : SameA A (setCp A u (A.ad (csl h u))) := ⟨rfl, rfl, rfl, rfl⟩
    have hcp : (setCp A u (A.ad (csl h u))).cp u = (setCp A u (A.ad (csl h u))).ad (csl h u) := by unfold setCp; simp
    have pu0 : A.ad (.pr u 0) = (setCp A u (A.ad (csl h u))).ad (.pr u 0) := rfl
    have hh0 : A.ad .house = (setCp A u (A.ad (csl h u))).ad .house := rfl
    rw [pu0, hh0]
    generalize setCp A u (A.ad (csl h u)) = A1 at x2 m02 sa1 hcp
    have hP := x2.pat w hu hcp
    have wp := w.pw u hu
    refine q_do (va_cons (v_var rfl) (va_cons (v_var rfl) va_nil)) ⟨paU A1 u (A1.ad (csl h u)), pu h u, a, e, rfl, hP, wp.1, by have := (lm u).1; unfold Short; omega, SqT.of ha2, fun H3 hP3 f3 => ?_⟩
    dsimp only
    obtain ⟨x3, m3⟩ := x2.person w hu hcp hP3 f3
    have ha3 : H3 a = some (.tup (evV e)) := f3.tps hP _ _ ha2
    have x3' : HoAt (CCk K) n r H3 A1 (evA h u e) := x3
    have dl3 := x3.dl u hu
    refine qx_drop (x_append (xs := (A1.dts u).map V.ref) (l := A1.ad (.dr u)) (v_ixL (vh_ (c := CCk K) HT x3 (v_var rfl) hl_diaries) (v_var rfl) (SqL.of (x3.at_ .diaries trivial)) (by omega) (by rw [Int.toNat_natCast, List.getElem?_map, List.getElem?_range hu]; rfl)) (x3.at_ (.dr u) hu) (by rw [List.length_map, dl3]; show (dy h u).length < _; have := (lm u).2; omega) (v_var rfl) ?_)
    obtain ⟨x4, m4⟩ := x3'.diary (e := e) hdl hu ha3
    have x4' : HoAt (CCk K) n r (upd H3 (A1.ad (.dr u)) (.lst ((A1.dts u).map V.ref ++ [.ref a]))) (addDt A1 u a) (evB h u e) := x4
    have sa2 : SameA A (addDt A1 u a) := sa1.trans ⟨rfl, rfl, rfl, rfl⟩
    have m04 := m02.trans (m3.trans m4)
    clear x4 m4 x3 x3' m3 x2 ha2 ha1 nt1 hP hP3 f3 dl3 ha3 m02 sa1 m2
    have pu0 : A1.ad (.pr u 0) = (addDt A1 u a).ad (.pr u 0) := rfl
    have hh0 : A1.ad .house = (addDt A1 u a).ad .house := rfl
    rw [pu0, hh0]
    generalize upd H3 (A1.ad (.dr u)) (.lst ((A1.dts u).map V.ref ++ [.ref a])) = H4 at x4' m04 ⊢
    generalize addDt A1 u a = A2 at x4' sa2 m04 ⊢
    have pst : Val (tFld K (tVar 3) "state") [some (.ref (A2.ad .house)), some (nV u), some (.ref a), some (.ref (A2.ad (.pr u 0))), some (.str (pu h u).st)] H4 (.str (pu (evB h u e) u).st) := val_fld (v_var rfl) (x4'.at_ (.pr u 0) ⟨hu, by decide⟩) U.cl U.nState pf_state
    refine q_rel (fun σ' H' => σ' = [some (.ref (A2.ad .house)), some (nV u), some (.ref a), some (.ref (A2.ad (.pr u 0))), some (.str (pu h u).st)] ∧ HoAt (CCk K) n r H' A2 (evC h u e) ∧ Mv (footH n r A) H (footH n r A2) H') ?_ ?_
    · have hrow : h.row.length ≤ 8 := by
        have := nd_le w.rd w.rb
        omega
      refine s_if (a_and (a_t (v_neS (v_var rfl) v_c)) (fun _ => a_t (v_eqS pst v_c))) (fun c => ?_) (fun c => ?_)
      · have c1 : ¬ rdy h u ∧ rdy (evB h u e) u := by
          rw [Bool.and_eq_true_iff] at c
          exact ⟨fun z => by have := c.1; rw [z] at this; exact absurd this (by decide), of_decide_eq_true c.2⟩
        refine sx_drop (x_append (xs := h.row.map nV) (vh_ (c := CCk K) HT x4' (v_var rfl) hl_row) (x4'.at_ .row trivial) (by rw [List.length_map]; omega) (v_var rfl) ?_)
        obtain ⟨x5, m5⟩ := x4'.setRow (h.row ++ [u])
        rw [show h.row.map nV ++ [nV u] = (h.row ++ [u]).map nV by rw [List.map_append]; rfl]
        refine ⟨rfl, ?_, m04.trans m5⟩
        unfold evC
        rw [if_pos c1]; exact x5
      · have c1 : ¬ (¬ rdy h u ∧ rdy (evB h u e) u) := fun z => by
          rw [decide_eq_true (show (pu (evB h u e) u).st = "ready" from z.2), decide_eq_false (show ¬ (pu h u).st = "ready" from z.1)] at c
          cases c
        refine s_next ⟨rfl, ?_, m04⟩
        unfold evC
        rw [if_neg c1]; exact x4'
    rintro _ H5 ⟨rfl, x5, m5⟩
    have pst5 : Val (tFld K (tVar 3) "state") [some (.ref (A2.ad .house)), some (nV u), some (.ref a), some (.ref (A2.ad (.pr u 0))), some (.str (pu h u).st)] H5 (.str (pu (evB h u e) u).st) := by
      have e5 : pu (evC h u e) u = pu (evB h u e) u := evC_pu.trans evB_pu.symm
      rw [← e5]
      exact val_fld (v_var rfl) (x5.at_ (.pr u 0) ⟨hu, by decide⟩) U.cl U.nState pf_state
    have er : (evC h u e).runs = h.runs := by unfold evC; split <;> rfl
    have vr : Val (tFld K (tVar 0) "runs") [some (.ref (A2.ad .house)), some (nV u), some (.ref a), some (.ref (A2.ad (.pr u 0))), some (.str (pu h u).st)] H5 (gV h.runs) := by rw [← er]; exact (vh_ (c := CCk K) HT x5 (v_var rfl) hl_runs)
    unfold eventT at k
    refine s_if (a_and (a_t (v_eqV vr (v_var rfl) (by cases h.runs <;> rfl))) (fun _ => a_t (v_neS pst5 v_c))) (fun c => ?_) (fun c => ?_)
    · have c1 : h.runs = some u ∧ ¬ rdy (evB h u e) u := by
        rw [Bool.and_eq_true_iff] at c
        refine ⟨?_, fun z => by have := c.2; rw [z] at this; exact absurd this (by decide)⟩
        have c0 := of_decide_eq_true c.1
        cases hq : h.runs with
        | none => rw [hq] at c0; cases c0
        | some v => rw [hq] at c0; have : (v : Int) = (u : Int) := V.int.inj c0; exact congrArg some (Int.ofNat.inj this)
      rw [if_pos c1] at k
      refine qh_ HT x5 A2 { evC h u e with runs := none } (v := gV none) v_c (v_var rfl) rfl hp_runs rfl (fun t _ ht => cont_house ht ⟨rfl, rfl, rfl, rfl, rfl, rfl⟩ ⟨rfl, rfl, rfl, rfl, rfl, rfl⟩) rfl rfl (fun H6 x6 m6 => ?_)
      refine sh_ HT x6 A2 { evC h u e with runs := none, left := 0 } (v := .int 0) v_c (v_var rfl) rfl hp_left rfl (fun t _ ht => cont_house ht ⟨rfl, rfl, rfl, rfl, rfl, rfl⟩ ⟨rfl, rfl, rfl, rfl, rfl, rfl⟩) rfl rfl (fun H7 x7 m7 => ?_)
      exact k A2 H7 sa2 x7 (m5.trans (m6.trans m7))
    · have c1 : ¬ (h.runs = some u ∧ ¬ rdy (evB h u e) u) := fun z => by
        rw [z.1, decide_eq_false (show ¬ (pu (evB h u e) u).st = "ready" from z.2)] at c
        simp [gV, nV] at c
      rw [if_neg c1] at k
      exact s_next (k A2 H5 sa2 x5 m5)
end
/-! ### rooms by turns -/
section
variable {c : CC} {n r : Nat} {H H' H1 : Hp} {A A' : HA} {h h' : Ho} {s t l m : Slot} {o os ol om : HO} {u v k : Nat} {F : FS} {b q : Addr} {e : Ev}
theorem footH_with {b : Addr} (hs : okS n r s) (hq : H q = none) (f : footH n r (withAd A s q) b) : footH n r A b ∨ H b = none := by
  obtain ⟨t, ht, rfl⟩ := f
  by_cases e : t = s
  · subst e; rw [withAd_s]; exact .inr hq
  · rw [withAd_ne e]; exact .inl ⟨t, ht, rfl⟩
theorem HoAt.rebind (x : HoAt c n r H A h) (hs : okS n r s) (hl : okS n r l) (ns : l ≠ s) (hq : H q = none) (es : cont c n r (withAd A s q) h' s = os) (el : cont c n r (withAd A s q) h' l = ol)
    (ed : h'.diaries = h.diaries) (hm : okS n r m) (nm : m ≠ s) (em : cont c n r (withAd A s q) h' m = om) (hml : m = l → om = ol)
    (ne2 : ∀ t, okS n r t → t ≠ s → t ≠ l → t ≠ m → cont c n r (withAd A s q) h' t = cont c n r A h t) :
    HoAt c n r (upd (upd (upd H q os) (A.ad l) ol) (A.ad m) om) (withAd A s q) h' ∧ Mv (footH n r A) H (footH n r (withAd A s q)) (upd (upd (upd H q os) (A.ad l) ol) (A.ad m) om) := by
  have fa := x.fa
  have nq : ∀ t, okS n r t → A.ad t ≠ q := fun t ht e => fa _ ⟨t, ht, rfl⟩ (by rw [e]; exact hq)
  refine ⟨⟨fun t ht => ?_, fun t1 t2 h1 h2 e => ?_, fun v hv => by unfold dy; rw [ed]; exact x.dl v hv, fun v i a ev hv h1 h2 => ?_⟩, ⟨fun b u nb e => ?_, fun b f => footH_with hs hq f⟩⟩
  · by_cases e1 : t = s
    · subst e1
      rw [withAd_s, upd_ne (Ne.symm (nq m hm)), upd_ne (Ne.symm (nq l hl)), upd_same, es]
    · rw [withAd_ne e1]
      by_cases e2 : t = m
      · subst e2; rw [upd_same, em]
      · rw [upd_ne (x.ne ht hm e2)]
        by_cases e3 : t = l
        · subst e3; rw [upd_same, el]
        · rw [upd_ne (x.ne ht hl e3), upd_ne (nq t ht), ne2 t ht e1 e3 e2]
          exact x.at_ t ht
  · by_cases e1 : t1 = s <;> by_cases e2 : t2 = s
    · rw [e1, e2]
    · rw [e1, withAd_s, withAd_ne e2] at e; exact absurd e.symm (nq t2 h2)
    · rw [e2, withAd_s, withAd_ne e1] at e; exact absurd e (nq t1 h1)
    · rw [withAd_ne e1, withAd_ne e2] at e; exact x.inj _ _ h1 h2 e
  · have h3 := x.dt v i a ev hv h1 (by unfold dy at h2 ⊢; rw [← ed]; exact h2)
    have n1 : ∀ t, okS n r t → a ≠ A.ad t := fun t ht q => (x.noT _ ⟨t, ht, rfl⟩).a _ (q ▸ h3)
    rw [upd_ne (n1 m hm), upd_ne (n1 l hl), upd_ne (fun e => by rw [e, hq] at h3; cases h3)]; exact h3
  · rw [upd_ne (fun q => nb (by rw [q]; exact ⟨m, hm, rfl⟩)), upd_ne (fun q => nb (by rw [q]; exact ⟨l, hl, rfl⟩)), upd_ne (fun q => by rw [q, hq] at e; cases e)]; exact e
theorem cont_sr (A : HA) (h : Ho) (v : Nat) (q : Addr) (h1 : t ≠ .sr v) (h2 : t ≠ .shelves) : cont c n r (withAd A (.sr v) q) h t = cont c n r A h t := by
  cases t with
  | sr w => rfl
  | shelves => exact absurd rfl h2
  | pr w k =>
    match k with
    | 0 => simp [cont, paU, withAd]
    | 1 => rfl
    | 2 => rfl
    | 3 => rfl
    | 4 => rfl
    | 5 => simp [cont, withAd]
    | k + 6 => rfl
  | _ => simp [cont, hfs, rfs, withAd]
theorem cont_kr (A : HA) (h : Ho) (v : Nat) (q : Addr) (h1 : t ≠ .kr v) (h2 : t ≠ .kept) : cont c n r (withAd A (.kr v) q) h t = cont c n r A h t := by
  cases t with
  | kr w => rfl
  | kept => exact absurd rfl h2
  | pr w k =>
    match k with
    | 0 => simp [cont, paU, withAd]
    | 1 => rfl
    | 2 => rfl
    | 3 => rfl
    | 4 => rfl
    | 5 => simp [cont, withAd]
    | k + 6 => rfl
  | _ => simp [cont, hfs, rfs, withAd]
/-- what depends on stale, guests alone -/
theorem cont_stale (A : HA) (h : Ho) (g : List (List Int)) (hs : ∀ v, t = .sr v → shelfC { h with stale := g } v = shelfC h v) : cont c n r A { h with stale := g } t = cont c n r A h t := by
  cases t with
  | sr v => show HO.lst ((shelfC { h with stale := g } v).map V.int) = HO.lst ((shelfC h v).map V.int); rw [hs v rfl]
  | pr w k =>
    match k with
    | 0 => rfl
    | 1 => rfl
    | 2 => rfl
    | 3 => rfl
    | 4 => rfl
    | 5 => rfl
    | k + 6 => rfl
  | _ => rfl
theorem cont_guests (A : HA) (h : Ho) (gs : List (Option Nat)) (g : List (List Int)) (h0 : t ≠ .guests) (hk : ∀ i, t = .kr i → keptC { h with guests := gs, stale := g } i = keptC h i) (hs : ∀ v, t = .sr v → shelfC { h with guests := gs, stale := g } v = shelfC h v) : cont c n r A { h with guests := gs, stale := g } t = cont c n r A h t := by
  cases t with
  | guests => exact absurd rfl h0
  | kr i => show HO.lst ((keptC { h with guests := gs, stale := g } i).map V.int) = HO.lst ((keptC h i).map V.int); rw [hk i rfl]
  | sr v => show HO.lst ((shelfC { h with guests := gs, stale := g } v).map V.int) = HO.lst ((shelfC h v).map V.int); rw [hs v rfl]
  | pr w k =>
    match k with
    | 0 => rfl
    | 1 => rfl
    | 2 => rfl
    | 3 => rfl
    | 4 => rfl
    | 5 => rfl
    | k + 6 => rfl
  | _ => rfl
theorem cont_rooms (A : HA) (h : Ho) (z : Int) (g : Nat) (h0 : t ≠ .rooms) : cont c n r A { h with swaps := z, turn := g } t = cont c n r A h t := by
  cases t with
  | rooms => exact absurd rfl h0
  | pr w k =>
    match k with
    | 0 => rfl
    | 1 => rfl
    | 2 => rfl
    | 3 => rfl
    | 4 => rfl
    | 5 => rfl
    | k + 6 => rfl
  | _ => rfl
theorem roomN_iff {gs : List (Option Nat)} : roomN gs v = none ↔ ∀ j : Nat, gs[j]? ≠ some (some v) := ⟨fun h j => roomN_none h j, roomN_no⟩
theorem list_set_range {α : Type} (f g : Nat → α) {n v : Nat} {a : α} (hv : v < n) (h1 : g v = a) (h2 : ∀ w, w ≠ v → g w = f w) : (List.range n).map g = ((List.range n).map f).set v a := by
  apply List.ext_getElem?
  intro i
  by_cases e : v = i
  · subst e
    rw [List.getElem?_set_self (by simp [hv]), List.getElem?_map, List.getElem?_range hv]
    exact congrArg some h1
  · rw [List.getElem?_set_ne e, List.getElem?_map, List.getElem?_map]
    by_cases hi : i < n
    · rw [List.getElem?_range hi]; exact congrArg some (h2 i (Ne.symm e))
    · rw [List.getElem?_eq_none (by simp; omega)]; rfl
/-- the room's old guest goes to its shelf -/
theorem HoAt.shelve (x : HoAt c n r H A h) (w : WfH n r h) (hg : h.guests[h.turn]? = some (some v)) (hq : H q = none) :
    HoAt c n r (upd (upd H q (.lst ((keptC h h.turn).map V.int))) (A.ad .shelves) (.lst (((List.range n).map fun u => V.ref (A.ad (.sr u))).set v (.ref q)))) (withAd A (.sr v) q) { h with stale := h.stale.set v (cu h v) } ∧
    Mv (footH n r A) H (footH n r (withAd A (.sr v) q)) (upd (upd H q (.lst ((keptC h h.turn).map V.int))) (A.ad .shelves) (.lst (((List.range n).map fun u => V.ref (A.ad (.sr u))).set v (.ref q)))) := by
  have hv := w.gu _ _ hg
  have hk : keptC h h.turn = cu h v := by unfold keptC; rw [hg]
  have hr : roomH h v ≠ none := fun z => roomN_none z _ hg
  have e1 : shelfC { h with stale := h.stale.set v (cu h v) } v = cu h v := by
    unfold shelfC
    rw [if_neg (show ¬ roomH { h with stale := h.stale.set v (cu h v) } v = none from hr)]
    exact getD_set_self (by rw [w.ls]; exact hv)
  have e2 : ∀ z, z ≠ v → shelfC { h with stale := h.stale.set v (cu h v) } z = shelfC h z := fun z hz => by
    show (if roomH h z = none then cu h z else (h.stale.set v (cu h v)).getD z []) = (if roomH h z = none then cu h z else h.stale.getD z [])
    rw [getD_set_ne (Ne.symm hz)]
  obtain ⟨a, b⟩ := x.rebind (s := .sr v) (l := .shelves) (m := .shelves) (h' := { h with stale := h.stale.set v (cu h v) }) (os := .lst ((keptC h h.turn).map V.int)) (ol := .lst (((List.range n).map fun u => V.ref (A.ad (.sr u))).set v (.ref q))) (om := .lst (((List.range n).map fun u => V.ref (A.ad (.sr u))).set v (.ref q))) hv trivial (fun e => by cases e) hq
    (by show HO.lst ((shelfC { h with stale := h.stale.set v (cu h v) } v).map V.int) = _; rw [e1, hk])
    (by show HO.lst ((List.range n).map fun u => V.ref ((withAd A (.sr v) q).ad (.sr u))) = _; rw [list_set_range (fun u => V.ref (A.ad (.sr u))) (fun u => V.ref ((withAd A (.sr v) q).ad (.sr u))) hv (by rw [withAd_s]) (fun z hz => by rw [withAd_ne (fun e => hz (Slot.sr.inj e))])])
    rfl trivial (fun e => by cases e)
    (by show HO.lst ((List.range n).map fun u => V.ref ((withAd A (.sr v) q).ad (.sr u))) = _; rw [list_set_range (fun u => V.ref (A.ad (.sr u))) (fun u => V.ref ((withAd A (.sr v) q).ad (.sr u))) hv (by rw [withAd_s]) (fun z hz => by rw [withAd_ne (fun e => hz (Slot.sr.inj e))])]) (fun _ => rfl) (fun t _ h1 h2 _ => (cont_sr A _ v q h1 h2).trans (cont_stale A h _ fun z hz => e2 z (fun e => h1 (by rw [hz, e]))))
  rw [upd_upd] at a b
  exact ⟨a, b⟩
/-- the user comes in -/
theorem HoAt.come (x : HoAt c n r H A h) (w : WfH n r h) (hu : u < n) (hr : roomH h u = none) (hst : ∀ v, h.guests[h.turn]? = some (some v) → h.stale.getD v [] = cu h v) (hq : H q = none) :
    HoAt c n r (upd (upd (upd H q (.lst ((cu h u).map V.int))) (A.ad .kept) (.lst (((List.range r).map fun i => V.ref (A.ad (.kr i))).set h.turn (.ref q)))) (A.ad .guests) (.lst ((h.guests.map gV).set h.turn (nV u)))) (withAd A (.kr h.turn) q) { h with guests := h.guests.set h.turn (some u), stale := h.stale.set u (cu h u) } ∧
    Mv (footH n r A) H (footH n r (withAd A (.kr h.turn) q)) (upd (upd (upd H q (.lst ((cu h u).map V.int))) (A.ad .kept) (.lst (((List.range r).map fun i => V.ref (A.ad (.kr i))).set h.turn (.ref q)))) (A.ad .guests) (.lst ((h.guests.map gV).set h.turn (nV u)))) := by
  have hlen : h.turn < h.guests.length := by rw [w.lg]; exact w.tn
  have g1 : (h.guests.set h.turn (some u))[h.turn]? = some (some u) := List.getElem?_set_self hlen
  have g2 : ∀ j, j ≠ h.turn → (h.guests.set h.turn (some u))[j]? = h.guests[j]? := fun j hj => List.getElem?_set_ne (Ne.symm hj)
  have k1 : keptC { h with guests := h.guests.set h.turn (some u), stale := h.stale.set u (cu h u) } h.turn = cu h u := by
    show (match (h.guests.set h.turn (some u))[h.turn]? with | some (some z) => cu h z | _ => zeros) = _
    rw [g1]
  have k2 : ∀ i, i ≠ h.turn → keptC { h with guests := h.guests.set h.turn (some u), stale := h.stale.set u (cu h u) } i = keptC h i := fun i hi => by
    show (match (h.guests.set h.turn (some u))[i]? with | some (some z) => cu h z | _ => zeros) = _
    rw [g2 i hi]; rfl
  have nu := roomN_iff.mp hr
  have s1 : ∀ z, shelfC { h with guests := h.guests.set h.turn (some u), stale := h.stale.set u (cu h u) } z = shelfC h z := fun z => by
    show (if roomN (h.guests.set h.turn (some u)) z = none then cu h z else (h.stale.set u (cu h u)).getD z []) = (if roomN h.guests z = none then cu h z else h.stale.getD z [])
    by_cases zu : z = u
    · subst zu
      rw [if_neg (fun q => roomN_none q h.turn g1), if_pos (show roomN h.guests z = none from hr)]
      exact getD_set_self (by rw [w.ls]; exact hu)
    · rw [getD_set_ne (Ne.symm zu)]
      by_cases c1 : roomN h.guests z = none
      · rw [if_pos c1, if_pos]
        refine roomN_iff.mpr fun j hj => ?_
        by_cases e : j = h.turn
        · subst e; rw [g1] at hj; exact zu (Option.some.inj (Option.some.inj hj)).symm
        · rw [g2 j e] at hj; exact roomN_none c1 j hj
      · rw [if_neg c1]
        by_cases c2 : h.guests[h.turn]? = some (some z)
        · rw [hst z c2]
          split <;> rfl
        · rw [if_neg]
          intro q
          obtain ⟨i, hi⟩ : ∃ i, roomN h.guests z = some i := by
            cases e : roomN h.guests z with
            | none => exact absurd e c1
            | some i => exact ⟨i, rfl⟩
          have hi2 := roomN_some hi
          have ne : i ≠ h.turn := fun e => c2 (e ▸ hi2)
          exact roomN_none q i (by rw [g2 i ne]; exact hi2)
  refine x.rebind (s := .kr h.turn) (l := .kept) (m := .guests) w.tn trivial (fun e => by cases e) hq (by show HO.lst ((keptC _ h.turn).map V.int) = _; rw [k1])
    (by show HO.lst ((List.range r).map fun i => V.ref ((withAd A (.kr h.turn) q).ad (.kr i))) = _; rw [list_set_range (fun i => V.ref (A.ad (.kr i))) (fun i => V.ref ((withAd A (.kr h.turn) q).ad (.kr i))) w.tn (by rw [withAd_s]) (fun z hz => by rw [withAd_ne (fun e => hz (Slot.kr.inj e))])])
    rfl trivial (fun e => by cases e) (by show HO.lst ((h.guests.set h.turn (some u)).map gV) = _; rw [List.map_set]; rfl) (fun e => by cases e) ?_
  · intro t ht h1 h2 h3
    exact (cont_kr A _ _ q h1 h2).trans (cont_guests A h _ _ h3 (fun i hi => k2 i (fun e => h1 (by rw [hi, e]))) (fun z _ => s1 z))
end
section
variable {c : CC} {n r u v k m : Nat} {H : Hp} {A : HA} {h : Ho} {e : Ev}
theorem enter_none (hr : roomH h u = none) : enterT h u = { h with guests := h.guests.set h.turn (some u), stale := (staleE h).set u (cu h u), turn := (h.turn + 1) % h.guests.length, swaps := h.swaps + 1 } := by unfold enterT; rw [hr]
theorem enter_some {i : Nat} (hr : roomH h u = some i) : enterT h u = h := by unfold enterT; rw [hr]
theorem lm_tickN (w : Lm k h) (hd : h.diaries.length = h.ps.length) : ∀ i, i ≤ h.ps.length → Lm (k + i) (tickN h i) ∧ (tickN h i).ps.length = h.ps.length ∧ (tickN h i).diaries.length = h.ps.length
  | 0, _ => ⟨lm_same w rfl rfl, rfl, hd⟩
  | i + 1, hi => by
    obtain ⟨a, b, d⟩ := lm_tickN w hd i (by omega)
    exact ⟨lm_event a (by rw [b]; omega) (by rw [d]; omega), event_same.len.trans b, by show (eventT (tickN h i) i .tick).diaries.length = _; rw [event_dia, List.length_set]; exact d⟩
theorem lm_turn (w : Lm k h) : Lm k (turnT h) := by
  rcases runs_or h with hr | ⟨u, hr⟩
  · rw [turn_none hr]; exact w
  · rw [turn_some hr]; split <;> exact lm_same w rfl rfl
theorem lm_tick (w : Lm k h) (hd : h.diaries.length = h.ps.length) (h8 : h.ps.length ≤ 8) : Lm (k + 8) (tickT h) := by
  unfold tickT
  exact lm_turn ((lm_tickN w hd _ (Nat.le_refl _)).1.mono (by omega))
theorem lm_step1 (w : Lm k h) (wf : WfH n r h) : Lm (k + 1) (step1 h) := by
  rcases runs_or h with hr | ⟨u, hr⟩
  · rw [step1_none hr]; exact (lm_same w rfl rfl).mono (Nat.le_succ _)
  · rw [step1_some hr]
    have := wf.ru u hr
    exact lm_event (lm_same w rfl rfl) (by show u < h.ps.length; rw [wf.lp]; exact this) (by show u < h.diaries.length; rw [wf.ld]; exact this)
theorem lm_step (w : Lm k h) (wf : WfH n r h) (h8 : n ≤ 8) : Lm (k + 9) (stepT h) := by
  have w1 := wf_step1 wf
  unfold stepT step2
  split
  · exact lm_settle (lm_tick (lm_step1 w wf) (by rw [w1.ld, w1.lp]) (by rw [w1.lp]; exact h8))
  · exact lm_settle ((lm_step1 w wf).mono (by omega))
theorem lm_run (w : Lm k h) (wf : WfH n r h) (h8 : n ≤ 8) : ∀ m, Lm (k + 9 * m) (runT h m)
  | 0 => w
  | m + 1 => by
    have := lm_step (lm_run w wf h8 m) (wf_runT wf m) h8
    exact this.mono (by omega)
/-- an event keeps the clocks' copies -/
theorem Syn.event {A' : HA} (s : Syn A h) (sa : SameA A A') : Syn A' (eventT h u e) := ⟨by rw [sa.sw, event_same.swaps]; exact s.sw, by rw [sa.tn, event_same.turn]; exact s.tn⟩
end
theorem Lm.new {n r : Nat} {q b : Int} : Lm 0 (newH n r q b) := fun u => by
  constructor
  · show (pu (newH n r q b) u).paper.length ≤ 0
    unfold pu newH
    rw [List.getD_eq_getElem?_getD, List.getElem?_replicate]
    split <;> exact Nat.le_refl _
  · show (dy (newH n r q b) u).length ≤ 0
    unfold dy newH
    rw [List.getD_eq_getElem?_getD, List.getElem?_replicate]
    split <;> exact Nat.le_refl _
theorem staleE_some {h : Ho} {v : Nat} (e : h.guests[h.turn]? = some (some v)) : staleE h = h.stale.set v (cu h v) := by unfold staleE; rw [e]
theorem staleE_none {h : Ho} (e : h.guests[h.turn]? = some none) : staleE h = h.stale := by unfold staleE; rw [e]
section
variable {P : Program} {w : World} {K : PySem.W.Frag} {mg : Str → Option Value} {base : Heap}

theorem sc_enter : FnScope ["rooms", "user", "at"] ["rooms", "user"] (defScope s_enter) := ⟨rfl, rfl, rfl, by decide +kernel, rfl, by decide +kernel, by decide +kernel⟩
theorem cal_enter (T : Tx K mg) : Cal P w K mg base 3 "enter" ["rooms", "user"] (spEnter (CCk K)) := by
  refine cal_mk T 37 37 rfl rfl sc_enter (fun _ _ _ _ _ _ us hl => match us, hl with | [_, _], _ => rfl) (fun vs H Q E h => ?_) (fun f cdv A outer s H vs Q E hr h => ?_)
  · obtain ⟨n, r, A, h, u, rfl, x, w, hu, k⟩ := h
    rfl
  · obtain ⟨n, r, A, h, u, rfl, x, w, hu, k⟩ := h
    have M := T.mt
    have U := T.pt
    have HT : HTx K (CCk K).h := T.ht
    have RT : RTx K (CCk K).r := T.rt
    refine ⟨_, (pss_cons (ps_if (pt_cmpR op_notN1 (pe_cal (cal_room_with (K := K) T) hr (by decide) rfl (pa_cons (pv 0) (pa_cons (pv 1) pa_nil))) pe_non (nomark _)) (pss_one (ps_ret pe_non)) pss_nil) (pss_cons (ps_set (i := 2) sc_enter.nd rfl (Or.inl rfl) (pe_fld (pv 0) rfl)) (C8.pss_cut (ps_if (pt_cmpR op_notN1 (pe_ix ix_list (pe_fld (pv 0) rfl) (pv 2) (fun _ _ => rfl)) pe_non (nomark _)) (pss_one (ps_asg (pe_callTy call_list_of (by rfl) (T.free 51) (by decide +kernel) (pa_cons (pe_ix ix_list (pe_fld (pv 0) rfl) (pv 2) (fun _ _ => rfl)) pa_nil)) (pg_sub (pe_fld (pv 0) rfl) (pe_ix ix_list (pe_fld (pv 0) rfl) (pv 2) (fun _ _ => rfl)) set_list))) pss_nil) (pss_cons (ps_asg (pe_callTy call_list_of (by rfl) (T.free 51) (by decide +kernel) (pa_cons (pe_ix ix_list (pe_fld (pv 0) rfl) (pv 1) (fun _ _ => rfl)) pa_nil)) (pg_sub (pe_fld (pv 0) rfl) (pv 2) set_list)) (pss_cons (ps_asg (pv 1) (pg_sub (pe_fld (pv 0) rfl) (pv 2) set_list)) (pss_cons (ps_fld (pv 0) (pe_op op_add (pe_fld (pv 0) rfl) pe_int) rfl) (pss_cons (ps_fld (pv 0) (pe_op op_mod (pe_op op_add (pv 2) pe_int) (pe_callB call_len_seq (by rfl) (T.free 50) PySem.boot_len (pa_cons (pe_fld (pv 0) rfl) pa_nil))) rfl) (pss_one (ps_ret pe_non))))))))), ?_⟩
    refine qx_if (x_test (x_op (x_call (va_cons (v_var rfl) (va_cons (v_var rfl) va_nil)) ⟨n, r, A, h, u, rfl, x, fun H1 s1 => ?_⟩)))
    have x1 := x.same s1
    refine x_v v_c ?_
    cases hr : roomH h u with
    | some i =>
      refine ⟨rfl, true, rfl, ?_⟩
      rw [if_pos rfl]
      rw [enter_some hr] at k
      exact s_ret v_c (k A H1 .refl x1 (.same s1))
    | none =>
    refine ⟨rfl, false, rfl, ?_⟩
    rw [if_neg Bool.false_ne_true]
    refine s_next ?_
    rw [enter_none hr] at k
    refine q_set (vr_ (c := CCk K) RT x1 (v_var rfl) rl_turn) ?_
    have hlen : h.turn < h.guests.length := by rw [w.lg]; exact w.tn
    have gat : ∀ {A' : HA} {H' : Hp} {h' : Ho} {σ : L2.St}, HoAt (CCk K) n r H' A' h' → h'.guests = h.guests → σ[0]? = some (some (.ref (A'.ad .rooms))) → σ[2]? = some (some (.int (h.turn : Int))) → Val (tOp (rIxL K) (tFld K (tVar 0) "guests") (tVar 2)) σ H' (gV (h.guests.getD h.turn none)) := fun x' e s0 s2 => v_ixL (vr_ (c := CCk K) RT x' (v_var s0) rl_guests) (v_var s2) (SqL.of (x'.at_ .guests trivial)) (by omega) (by rw [Int.toNat_natCast, e, List.getElem?_map, List.getD_eq_getElem?_getD, List.getElem?_eq_getElem hlen]; rfl)
    have hgD : h.guests[h.turn]? = some (h.guests.getD h.turn none) := by rw [List.getD_eq_getElem?_getD, List.getElem?_eq_getElem hlen]; rfl
    refine q_rel (fun σ' H' => ∃ A' h', SameA A A' ∧ h' = { h with stale := staleE h } ∧ HoAt (CCk K) n r H' A' h' ∧ Mv (footH n r A) H (footH n r A') H' ∧ WfH n r h' ∧ (∀ v, h.guests[h.turn]? = some (some v) → h'.stale.getD v [] = cu h v) ∧ σ' = [some (.ref (A.ad .rooms)), some (nV u), some (.int (h.turn : Int))]) ?_ ?_
    · cases hg : h.guests.getD h.turn none with
      | none =>
        have ga := gat (σ := [some (.ref (A.ad .rooms)), some (nV u), some (.int (h.turn : Int))]) x1 rfl rfl rfl
        rw [hg] at ga
        refine s_ifF0 (a_t (v_notN ga v_c)) (by rfl) ⟨A, _, .refl, rfl, ?_, .same s1, ?_, fun v hv => ?_, rfl⟩
        · rw [staleE_none (hgD.trans (by rw [hg]))]; exact x1
        · rw [staleE_none (hgD.trans (by rw [hg]))]; exact w
        · rw [hgD, hg] at hv; cases hv
      | some v =>
        have hgv : h.guests[h.turn]? = some (some v) := hgD.trans (by rw [hg])
        have hv := w.gu _ _ hgv
        have ga := gat (σ := [some (.ref (A.ad .rooms)), some (nV u), some (.int (h.turn : Int))]) x1 rfl rfl rfl
        rw [hg] at ga
        refine s_ifT (a_t (v_notN ga v_c)) (by rfl) ?_
        have hkr := x1.at_ (.kr h.turn) w.tn
        refine sx_asg (x_L (nl_list (v_ixL (vr_ (c := CCk K) RT x1 (v_var rfl) rl_kept) (v_var rfl) (SqL.of (x1.at_ .kept trivial)) (by omega) (by rw [Int.toNat_natCast, List.getElem?_map, List.getElem?_range w.tn]; rfl)) (.inl (SqL.of hkr))) (fun q hq => ?_))
        have sq := smN (o := HO.lst ((keptC h h.turn).map V.int)) hq
        have xq := x1.same sq
        have gq := gat (σ := [some (.ref (A.ad .rooms)), some (nV u), some (.int (h.turn : Int))]) xq rfl rfl rfl
        rw [hg] at gq
        refine x_v (vr_ (c := CCk K) RT xq (v_var rfl) rl_shelves) (x_v gq ⟨A.ad .shelves, _, (v : Int), v, rfl, rfl, xq.at_ .shelves trivial, ?_, ?_⟩)
        · rw [ixN_int (by omega) (by rw [List.length_map, List.length_range]; omega), Int.toNat_natCast]
        obtain ⟨x2, m2⟩ := x1.shelve w hgv hq
        refine ⟨_, _, ⟨withAd_ne (fun e => by cases e), withAd_ne (fun e => by cases e), rfl, rfl⟩, rfl, ?_, (Mv.same s1).trans m2, ?_, fun v2 hv2 => ?_, rfl⟩
        · rw [staleE_some hgv]; exact x2
        · rw [staleE_some hgv]
          exact ⟨w.lp, w.ld, by show (h.stale.set _ _).length = n; rw [List.length_set]; exact w.ls, w.lg, w.r0, w.tn, w.gu, w.gi, w.pw, w.ru, w.rn, w.rd, w.rb, w.rr, w.ar, w.l0, w.l1, w.q0, w.b0⟩
        · rw [hgv] at hv2
          rw [staleE_some hgv]
          cases hv2
          exact getD_set_self (by rw [w.ls]; exact hv)
    rintro _ H2 ⟨A1, h1, sa1, eh1, x2, m2, w2, hst, rfl⟩
    have hr1 : roomH h1 u = none := by rw [eh1]; exact hr
    have c1 : ∀ z, cu h1 z = cu h z := fun z => by rw [eh1]; rfl
    have t1 : h1.turn = h.turn := by rw [eh1]
    have gs1 : h1.guests = h.guests := by rw [eh1]
    have w1 := w
    have hsr := x2.at_ (.sr u) hu
    have hsc : shelfC h1 u = cu h1 u := by unfold shelfC; rw [if_pos hr1]
    rw [show cont (CCk K) n r A1 h1 (.sr u) = .lst ((cu h1 u).map V.int) by show HO.lst ((shelfC h1 u).map V.int) = _; rw [hsc]] at hsr
    rw [← sa1.r]
    have tt : (h.turn : Int) = (h1.turn : Int) := by rw [t1]
    rw [tt]
    refine qx_asg (x_L (nl_list (v_ixL (vr_ (c := CCk K) RT x2 (v_var rfl) rl_shelves) (v_var rfl) (SqL.of (x2.at_ .shelves trivial)) (by omega) (by rw [Int.toNat_natCast, List.getElem?_map, List.getElem?_range hu]; rfl)) (.inl (SqL.of hsr))) (fun q hq => ?_))
    have sq := smN (o := HO.lst ((cu h1 u).map V.int)) hq
    have xq := x2.same sq
    refine x_v (vr_ (c := CCk K) RT xq (v_var rfl) rl_kept) (x_v (v_var rfl) ⟨A1.ad .kept, _, (h1.turn : Int), h1.turn, rfl, rfl, xq.at_ .kept trivial, ?_, ?_⟩)
    · rw [ixN_int (by omega) (by rw [List.length_map, List.length_range]; have := w2.tn; omega), Int.toNat_natCast]
    have nrk : A1.ad .rooms ≠ A1.ad .kept := xq.ne trivial trivial (fun e => by cases e)
    have ngk : A1.ad .guests ≠ A1.ad .kept := xq.ne trivial trivial (fun e => by cases e)
    obtain ⟨x3, m3⟩ := x2.come w2 hu hr1 (fun v hv => by rw [c1]; exact hst v (by rw [← gs1, ← t1]; exact hv)) hq
    refine q_setItemV (v_var rfl) (p := A1.ad .guests) (i := h1.turn) (xs := h1.guests.map gV) (val_fld (v_var rfl) (by rw [upd_ne nrk]; exact xq.at_ .rooms trivial) RT.cl (RT.no "guests" (by simp)) rl_guests) (v_var rfl) (by rw [upd_ne ngk]; exact xq.at_ .guests trivial) (by rw [List.length_map, w2.lg]; exact w2.tn) ?_
    have e2 : A1.ad .rooms = (withAd A1 (.kr h1.turn) q).ad .rooms := (withAd_ne (fun e => by cases e)).symm
    rw [e2]
    have sa2 : SameA A (withAd A1 (.kr h1.turn) q) := sa1.trans ⟨withAd_ne (fun e => by cases e), withAd_ne (fun e => by cases e), rfl, rfl⟩
    have m03 := m2.trans m3
    generalize withAd A1 (.kr h1.turn) q = A2 at x3 sa2 m03 ⊢
    generalize upd (upd (upd H2 q _) _ _) _ _ = H3 at x3 m03 ⊢
    refine qr_ RT x3 _ (v := .int (h1.swaps + 1)) (v_add (vr_ (c := CCk K) RT x3 (v_var rfl) rl_swaps) v_c) (v_var rfl) rp_swaps (fun t _ ht => cont_rooms A2 _ _ _ ht) rfl (fun H4 x4 m4 => ?_)
    have hgl : (h1.guests.set h1.turn (some u)).length = r := by rw [List.length_set]; exact w2.lg
    refine qr_ RT x4 _ (v := .int (((h1.turn + 1) % r : Nat) : Int)) (v_eqv (v_mod (v_add (v_var rfl) v_c) (v_cb (va_cons (vr_ (c := CCk K) RT x4 (v_var rfl) rl_guests) va_nil) (fun _ q => ⟨_, _, rfl, .inl (SqL.of (x4.at_ .guests trivial)), q⟩)) (by rw [List.length_map]; show (0 : Int) < ((h1.guests.set h1.turn (some u)).length : Int); rw [hgl]; have := w.r0; omega)) (by rw [List.length_map]; show V.int (((h1.turn : Int) + 1) % ((h1.guests.set h1.turn (some u)).length : Int)) = _; rw [hgl]; congr 1)) (v_var rfl) rp_turn (fun t _ ht => cont_rooms A2 _ _ _ ht) rfl (fun H5 x5 m5 => ?_)
    refine s_ret v_c (k A2 H5 sa2 ?_ (m03.trans (m4.trans m5)))
    subst eh1
    rw [w.lg]
    exact x5

theorem sc_settle : FnScope ["house"] ["house"] (defScope s_settle) := ⟨rfl, rfl, rfl, by decide +kernel, rfl, by decide +kernel, by decide +kernel⟩
theorem cal_settle (T : Tx K mg) : Cal P w K mg base 4 "settle" ["house"] (spSettle (CCk K)) := by
  refine cal_mk T 40 40 rfl rfl sc_settle (fun _ _ _ _ _ _ us hl => match us, hl with | [_], _ => rfl) (fun vs H Q E h => ?_) (fun f cdv A outer s H vs Q E hr h => ?_)
  · obtain ⟨n, r, A, h, rfl, x, w, hn8, sy, k⟩ := h
    rfl
  · obtain ⟨n, r, A, h, rfl, x, w, hn8, sy, k⟩ := h
    have M := T.mt
    have U := T.pt
    have HT : HTx K (CCk K).h := T.ht
    have RT : RTx K (CCk K).r := T.rt
    refine ⟨_, (pss_one (ps_if (PW.pt (pw_and (pt_cmpR op_isN1 (pe_fld (pv 0) rfl) pe_non (nomark _)) (pw_and1 (pt_truth (pe_fld (pv 0) rfl) (by intro _; rfl))))) (pss_cons (ps_fld (pv 0) (pe_bm PySem.F.plainAttrs_list PySem.F.slot_list_pop PySem.F.type_list_pop mt_popAt (pe_fld (pv 0) rfl) (pa_cons pe_int pa_nil)) rfl) (pss_cons (ps_fld (pv 0) (pe_fld (pv 0) rfl) rfl) (pss_cons (ps_expr (pe_cal (cal_enter (K := K) T) hr (by decide) rfl (pa_cons (pe_fld (pv 0) rfl) (pa_cons (pe_fld (pv 0) rfl) pa_nil)))) (pss_cons (ps_fld (pv 0) (pe_fld (pe_fld (pv 0) rfl) rfl) rfl) (pss_one (ps_fld (pv 0) (pe_fld (pe_fld (pv 0) rfl) rfl) rfl)))))) pss_nil)), ?_⟩
    unfold settleT at k
    cases hr : h.runs with
    | some u =>
      rw [hr] at k
      have vr : Val (tFld K (tVar 0) "runs") [some (.ref (A.ad .house))] H (gV h.runs) := (vh_ (c := CCk K) HT x (v_var rfl) hl_runs)
      rw [hr] at vr
      exact s_ifF0 (a_and (c := false) (a_t (v_isN vr v_c)) (fun c => absurd c (by simp [gV, nV]))) (by rfl) (k A H rfl sy x .refl)
    | none =>
    rw [hr] at k
    have vr : Val (tFld K (tVar 0) "runs") [some (.ref (A.ad .house))] H (gV h.runs) := (vh_ (c := CCk K) HT x (v_var rfl) hl_runs)
    rw [hr] at vr
    cases hw : h.row with
    | nil =>
      rw [hw] at k
      exact s_ifF0 (a_and (c := false) (a_t (v_isN vr v_c)) (fun _ => a_tru (vh_ (c := CCk K) HT x (v_var rfl) hl_row) (.inl ⟨_, SqL.of (x.at_ .row trivial), by rw [hw]; rfl⟩))) (by rfl) (k A H rfl sy x .refl)
    | cons u row =>
    rw [hw] at k
    dsimp only at k
    have hu : u < n := w.rb u (by rw [hw]; exact List.mem_cons_self)
    refine s_ifT (a_and (c := true) (a_t (v_isN vr v_c)) (fun _ => a_tru (vh_ (c := CCk K) HT x (v_var rfl) hl_row) (.inl ⟨_, SqL.of (x.at_ .row trivial), by rw [hw]; rfl⟩))) (by rfl) ?_
    refine qx_fldC (x_pop0 (x := nV u) (xs := row.map nV) (vh_ (c := CCk K) HT x (v_var rfl) hl_row) (by rw [x.at_ .row trivial]; show some (HO.lst (h.row.map nV)) = _; rw [hw]; rfl) v_c ?_)
    obtain ⟨x1, m1⟩ := x.setRow row
    refine x_v (v_var rfl) ⟨A.ad .house, _, A.dh, _, rfl, x1.at_ .house trivial, HT.cl, HT.no "runs" (by simp), by show 13 < 1000; decide, ?_⟩
    obtain ⟨x2, m2⟩ := x1.put (A' := A) (h' := { h with row := row, runs := some u }) (o := .ins (CCk K).h A.dh (putF "runs" (gV (some u)) (hfs A { h with row := row }))) .house trivial rfl (by rw [hp_runs]; rfl) (fun t _ ht => cont_house ht ⟨rfl, rfl, rfl, rfl, rfl, rfl⟩ ⟨rfl, rfl, rfl, rfl, rfl, rfl⟩) x1.dl x1.dt
    show tSeq _ _ _ _ (upd (upd H (A.ad .row) (.lst (row.map nV))) (A.ad .house) (.ins (CCk K).h A.dh (putF "runs" (gV (some u)) (hfs A { h with row := row }))))
    have m02 := m1.trans m2
    generalize upd (upd H (A.ad .row) (.lst (row.map nV))) (A.ad .house) (.ins (CCk K).h A.dh (putF "runs" (gV (some u)) (hfs A { h with row := row }))) = H2 at x2 m02 ⊢
    refine qh_ HT x2 A { h with runs := some u, row := row, left := h.quantum } (v := .int h.quantum) (vh_ (c := CCk K) HT x2 (v_var rfl) hl_quantum) (v_var rfl) rfl hp_left rfl (fun t _ ht => cont_house ht ⟨rfl, rfl, rfl, rfl, rfl, rfl⟩ ⟨rfl, rfl, rfl, rfl, rfl, rfl⟩) rfl rfl (fun H3 x3 m3 => ?_)
    have w3 : WfH n r { h with runs := some u, row := row, left := h.quantum } := by
      have z := wf_settle w
      have nd := w.rd
      rw [hw] at nd
      obtain ⟨n1, n2⟩ := List.nodup_cons.mp nd
      refine ⟨w.lp, w.ld, w.ls, w.lg, w.r0, w.tn, w.gu, w.gi, w.pw, fun v hv => ?_, fun v hv => ?_, n2, fun v hv => w.rb v (by rw [hw]; exact List.mem_cons_of_mem _ hv), fun v hv => ⟨(w.rr v (by rw [hw]; exact List.mem_cons_of_mem _ hv)).1, fun z => ?_⟩, fun v hv hr2 => ?_, fun z => (by cases z), fun v _ => ⟨w.q0, Int.le_refl _⟩, w.q0, w.b0⟩
      · cases hv; exact hu
      · cases hv; exact (w.rr u (by rw [hw]; exact List.mem_cons_self)).1
      · cases z; exact n1 hv
      · rcases w.ar v hv hr2 with h1 | h1
        · rw [hw] at h1
          rcases List.mem_cons.mp h1 with h2 | h2
          · exact .inr (by rw [h2])
          · exact .inl h2
        · rw [hr] at h1; cases h1
    refine q_do (va_cons (vh_ (c := CCk K) HT x3 (v_var rfl) hl_places) (va_cons (v_eqv (vh_ (c := CCk K) HT x3 (v_var rfl) hl_runs) (show gV (some u) = nV u from rfl)) va_nil)) ⟨n, r, A, _, u, rfl, x3, w3, hu, fun A4 H4 sa4 x4 m4 => ?_⟩
    dsimp only
    rw [← sa4.h]
    refine qh_ HT x4 { A4 with hsw := (enterT { h with runs := some u, row := row, left := h.quantum } u).swaps } (enterT { h with runs := some u, row := row, left := h.quantum } u) (v := .int (enterT { h with runs := some u, row := row, left := h.quantum } u).swaps) (vr_ (c := CCk K) RT x4 (vh_ (c := CCk K) HT x4 (v_var rfl) hl_places) rl_swaps) (v_var rfl) rfl hp_swaps rfl (fun t _ ht => cont_house ht ⟨rfl, rfl, rfl, rfl, rfl, rfl⟩ ⟨rfl, rfl, rfl, rfl, rfl, rfl⟩) rfl rfl (fun H5 x5 m5 => ?_)
    refine sh_ HT x5 { A4 with hsw := (enterT { h with runs := some u, row := row, left := h.quantum } u).swaps, htn := ((enterT { h with runs := some u, row := row, left := h.quantum } u).turn : Int) } (enterT { h with runs := some u, row := row, left := h.quantum } u) (v := .int ((enterT { h with runs := some u, row := row, left := h.quantum } u).turn : Int)) (vr_ (c := CCk K) RT x5 (vh_ (c := CCk K) HT x5 (v_var rfl) hl_places) rl_turn) (v_var rfl) rfl hp_turn rfl (fun t _ ht => cont_house ht ⟨rfl, rfl, rfl, rfl, rfl, rfl⟩ ⟨rfl, rfl, rfl, rfl, rfl, rfl⟩) rfl rfl (fun H6 x6 m6 => ?_)
    exact k { A4 with hsw := (enterT { h with runs := some u, row := row, left := h.quantum } u).swaps, htn := ((enterT { h with runs := some u, row := row, left := h.quantum } u).turn : Int) } H6 sa4.h ⟨rfl, rfl⟩ x6 (m02.trans ((m3.trans m4).trans (m5.trans m6)))

theorem sc_start : FnScope ["house", "user", "place"] ["house", "user", "place"] (defScope s_start) := ⟨rfl, rfl, rfl, by decide +kernel, rfl, by decide +kernel, by decide +kernel⟩
theorem cal_start (T : Tx K mg) : Cal P w K mg base 7 "start" ["house", "user", "place"] (spStart (CCk K)) := by
  refine cal_mk T 41 41 rfl rfl sc_start (fun _ _ _ _ _ _ us hl => match us, hl with | [_, _, _], _ => rfl) (fun vs H Q E h => ?_) (fun f cdv A outer s H vs Q E hr h => ?_)
  · obtain ⟨n, r, A, h, kk, u, p, rfl, x, w, lm, hk, hu, hn8, sy, p0, p1, k⟩ := h
    rfl
  · obtain ⟨n, r, A, h, kk, u, p, rfl, x, w, lm, hk, hu, hn8, sy, p0, p1, k⟩ := h
    have M := T.mt
    have U := T.pt
    have HT : HTx K (CCk K).h := T.ht
    have RT : RTx K (CCk K).r := T.rt
    refine ⟨_, (pss_cons (ps_expr (pe_cal (cal_event_told (K := K) T) hr (by decide) rfl (pa_cons (pv 0) (pa_cons (pv 1) (pa_cons (pe_tup (pa_cons pe_str (pa_cons (pv 2) pa_nil))) pa_nil))))) (pss_one (ps_expr (pe_cal (cal_settle (K := K) T) hr (by decide) rfl (pa_cons (pv 0) pa_nil))))), ?_⟩
    refine qx_drop (xc (va_2 (v_var rfl) (v_var rfl) (xt_tup ((va_cons v_c (va_cons (v_var rfl) va_nil)) _ ⟨k_line (by show 2 ≤ 1000; decide), fun T1 hT => ?_⟩))))
    have s1 := smN (o := HO.tup (evV (.start p))) hT
    have x1 := x.same s1
    refine ⟨n, r, A, h, kk, u, T1, .start p, rfl, x1, w, lm, hk, hu, hn8, upd_same, fun A2 H2 sa2 x2 m2 => ?_⟩
    have w2 := wf_event (e := .start p) w hu ⟨p0, p1⟩ (fun z => by cases z)
    exact s_do (va_cons (v_var rfl) va_nil) ⟨n, r, A2, _, by rw [sa2.h], x2, w2, hn8, sy.event sa2, fun A3 H3 e3 sy3 x3 m3 => k A3 H3 (e3.trans sa2.h) sy3 x3 ((Mv.same s1).trans (m2.trans m3))⟩

theorem sc_tick : FnScope ["house", "user"] ["house"] (defScope s_tick) := ⟨rfl, rfl, rfl, by decide +kernel, rfl, by decide +kernel, by decide +kernel⟩
theorem cal_tick (T : Tx K mg) : Cal P w K mg base 7 "tick" ["house"] (spTick (CCk K)) := by
  refine cal_mk T 42 42 rfl rfl sc_tick (fun _ _ _ _ _ _ us hl => match us, hl with | [_], _ => rfl) (fun vs H Q E h => ?_) (fun f cdv A outer s H vs Q E hr h => ?_)
  · obtain ⟨n, r, A, h, kk, rfl, x, w, lm, hk, hn8, sy, k⟩ := h
    rfl
  · obtain ⟨n, r, A, h, kk, rfl, x, w, lm, hk, hn8, sy, k⟩ := h
    have M := T.mt
    have U := T.pt
    have HT : HTx K (CCk K).h := T.ht
    have RT : RTx K (CCk K).r := T.rt
    refine ⟨_, (pss_cons (ps_fld (pv 0) (pe_op op_add (pe_fld (pv 0) rfl) pe_int) rfl) (pss_cons (ps_for PassesOwn.never rfl (pi_range1 (by rfl) (T.free 52) (pa_cons (pe_callB call_len_seq (by rfl) (T.free 50) PySem.boot_len (pa_cons (pe_fld (pv 0) rfl) pa_nil)) pa_nil)) (pg_name (i := 1) sc_tick.nd rfl (Or.inl rfl)) (pss_one (ps_expr (pe_cal (cal_event_told (K := K) T) hr (by decide) rfl (pa_cons (pv 0) (pa_cons (pv 1) (pa_cons (pe_tup (pa_cons pe_str pa_nil)) pa_nil))))))) (pss_one (ps_if (pt_cmpR op_notN1 (pe_fld (pv 0) rfl) pe_non (nomark _)) (pss_cons (ps_fld (pv 0) (pe_op op_sub (pe_fld (pv 0) rfl) pe_int) rfl) (pss_one (ps_if (pt_cmpR op_eq (pe_fld (pv 0) rfl) pe_int (nomark _)) (pss_cons (ps_expr (pe_bm PySem.F.plainAttrs_list PySem.F.slot_list_append PySem.F.type_list_append mt_append (pe_fld (pv 0) rfl) (pa_cons (pe_fld (pv 0) rfl) pa_nil))) (pss_one (ps_fld (pv 0) pe_non rfl))) pss_nil))) pss_nil)))), ?_⟩
    refine qh_ HT x A { h with ticks := h.ticks + 1 } (v := .int (h.ticks + 1)) (v_add (vh_ (c := CCk K) HT x (v_var rfl) hl_ticks) v_c) (v_var rfl) rfl hp_ticks rfl (fun t _ ht => cont_house ht ⟨rfl, rfl, rfl, rfl, rfl, rfl⟩ ⟨rfl, rfl, rfl, rfl, rfl, rfl⟩) rfl rfl (fun H1 x1 m1 => ?_)
    have lmN := lm_tickN lm (by rw [w.ld, w.lp])
    rw [w.lp] at lmN
    refine q_forR (n := (n : Int)) (va_cons (v_eqv (v_cb (va_cons (vh_ (c := CCk K) HT x1 (v_var rfl) hl_people) va_nil) (fun _ q => ⟨_, _, rfl, .inl (SqL.of (x1.at_ .people trivial)), q⟩)) (by rw [List.length_map, List.length_range])) va_nil) (by omega) (fun i σ' H' => ∃ A' y, i ≤ n ∧ SameA A A' ∧ HoAt (CCk K) n r H' A' (tickN h i) ∧ Mv (footH n r A) H (footH n r A') H' ∧ σ' = [some (.ref (A.ad .house)), y]) ⟨A, _, Nat.zero_le _, .refl, x1, m1, rfl⟩ (fun (i : Nat) σ' H' hi pv => ?_) (fun σ' H' pv => ?_)
    · obtain ⟨A', y, hin, sa, xi, mi, rfl⟩ := pv
      have hin2 : i < n := by omega
      refine sx_drop (xc (va_2 (v_var rfl) (v_var rfl) (xt_tup ((va_cons v_c va_nil) _ ⟨k_line (by show 1 ≤ 1000; decide), fun T1 hT => ?_⟩))))
      have s1 := smN (o := HO.tup (evV .tick)) hT
      refine ⟨n, r, A', tickN h i, kk + i, i, T1, .tick, by rw [sa.h]; rfl, xi.same s1, wf_tickN w i hin, (lmN i hin).1, by omega, hin2, hn8, upd_same, fun A2 H2 sa2 x2 m2 => ?_⟩
      exact ⟨A2, _, hin2, sa.trans sa2, x2, (mi.trans (.same s1)).trans m2, rfl⟩
    obtain ⟨A2, y, hin, sa, x2, m2, rfl⟩ := pv
    rw [Int.toNat_natCast] at x2
    have w2 := wf_tickN w n (Nat.le_refl _)
    unfold tickT at k
    rw [w.lp] at k
    have sy2 : Syn A2 (tickN h n) := by
      have : ∀ i, (tickN h i).swaps = h.swaps ∧ (tickN h i).turn = h.turn := fun i => by
        induction i with
        | zero => exact ⟨rfl, rfl⟩
        | succ i ih => exact ⟨(event_same (h := tickN h i) (u := i) (e := .tick)).swaps.trans ih.1, (event_same (h := tickN h i) (u := i) (e := .tick)).turn.trans ih.2⟩
      exact ⟨by rw [sa.sw, (this n).1]; exact sy.sw, by rw [sa.tn, (this n).2]; exact sy.tn⟩
    generalize tickN h n = h2 at k x2 w2 sy2
    rw [← sa.h]
    have vr : Val (tFld K (tVar 0) "runs") [some (.ref (A2.ad .house)), y] H' (gV h2.runs) := (vh_ (c := CCk K) HT x2 (v_var rfl) hl_runs)
    rcases runs_or h2 with hr | ⟨u, hr⟩
    · rw [turn_none hr] at k
      rw [hr] at vr
      exact s_ifF0 (a_t (v_notN vr v_c)) (by rfl) (k A2 H' sa.h sy2 x2 m2)
    · rw [turn_some hr] at k
      rw [hr] at vr
      refine s_ifT (a_t (v_notN vr v_c)) (by rfl) ?_
      refine qh_ HT x2 A2 { h2 with left := h2.left - 1 } (v := .int (h2.left - 1)) (v_sub (vh_ (c := CCk K) HT x2 (v_var rfl) hl_left) v_c) (v_var rfl) rfl hp_left rfl (fun t _ ht => cont_house ht ⟨rfl, rfl, rfl, rfl, rfl, rfl⟩ ⟨rfl, rfl, rfl, rfl, rfl, rfl⟩) rfl rfl (fun H3 x3 m3 => ?_)
      refine s_if (a_t (v_eqI (vh_ (c := CCk K) HT x3 (v_var rfl) hl_left) v_c)) (fun c => ?_) (fun c => ?_)
      · have c := of_decide_eq_true c
        rw [if_pos c] at k
        have hrow : h2.row.length ≤ 8 := by
          have := nd_le w2.rd w2.rb
          omega
        refine qx_drop (x_append (xs := h2.row.map nV) (v := nV u) (vh_ (c := CCk K) HT x3 (v_var rfl) hl_row) (x3.at_ .row trivial) (by rw [List.length_map]; omega) (v_eqv (vh_ (c := CCk K) HT x3 (v_var rfl) hl_runs) (by show gV h2.runs = _; rw [hr]; rfl)) ?_)
        obtain ⟨x4, m4⟩ := x3.setRow (h2.row ++ [u])
        rw [show h2.row.map nV ++ [nV u] = (h2.row ++ [u]).map nV by rw [List.map_append]; rfl]
        refine sh_ HT x4 A2 { h2 with left := h2.left - 1, row := h2.row ++ [u], runs := none } (v := gV none) v_c (v_var rfl) rfl hp_runs rfl (fun t _ ht => cont_house ht ⟨rfl, rfl, rfl, rfl, rfl, rfl⟩ ⟨rfl, rfl, rfl, rfl, rfl, rfl⟩) rfl rfl (fun H5 x5 m5 => ?_)
        refine k A2 H5 sa.h ⟨sy2.sw, sy2.tn⟩ ?_ (m2.trans (m3.trans (m4.trans m5)))
        have : h2.left - 1 = 0 := c
        rw [this] at x5
        exact x5
      · have c := of_decide_eq_false c
        rw [if_neg c] at k
        exact s_next (k A2 H3 sa.h ⟨sy2.sw, sy2.tn⟩ x3 (m2.trans m3))

theorem sc_run : FnScope ["house", "count", "k"] ["house", "count"] (defScope s_run) := ⟨rfl, rfl, rfl, by decide +kernel, rfl, by decide +kernel, by decide +kernel⟩
theorem cal_run (T : Tx K mg) : Cal P w K mg base 8 "run" ["house", "count"] (spRun (CCk K)) := by
  refine cal_mk T 43 43 rfl rfl sc_run (fun _ _ _ _ _ _ us hl => match us, hl with | [_, _], _ => rfl) (fun vs H Q E h => ?_) (fun f cdv A outer s H vs Q E hr h => ?_)
  · obtain ⟨n, r, A, h, kk, m, rfl, x, w, lm, hk, hn8, sy, k⟩ := h
    rfl
  · obtain ⟨n, r, A, h, kk, m, rfl, x, w, lm, hk, hn8, sy, k⟩ := h
    have M := T.mt
    have U := T.pt
    have HT : HTx K (CCk K).h := T.ht
    have RT : RTx K (CCk K).r := T.rt
    refine ⟨_, (pss_one (ps_for PassesOwn.never rfl (pi_range1 (by rfl) (T.free 52) (pa_cons (pv 1) pa_nil)) (pg_name (i := 2) sc_run.nd rfl (Or.inl rfl)) (pss_cons (ps_fld (pv 0) (pe_op op_add (pe_fld (pv 0) rfl) pe_int) rfl) (C8.pss_cut (ps_if (pt_cmpR op_isN1 (pe_fld (pv 0) rfl) pe_non (nomark _)) (pss_one (ps_fld (pv 0) (pe_op op_add (pe_fld (pv 0) rfl) pe_int) rfl)) (pss_one (ps_expr (pe_cal (cal_event_told (K := K) T) hr (by decide) rfl (pa_cons (pv 0) (pa_cons (pe_fld (pv 0) rfl) (pa_cons (pe_tup (pa_cons pe_str pa_nil)) pa_nil))))))) (C8.pss_cut (ps_if (pt_cmpR op_eq (pe_op op_mod (pe_fld (pv 0) rfl) (pe_fld (pv 0) rfl)) pe_int (nomark _)) (pss_one (ps_expr (pe_cal (cal_tick (K := K) T) hr (by decide) rfl (pa_cons (pv 0) pa_nil)))) pss_nil) (pss_one (ps_expr (pe_cal (cal_settle (K := K) T) hr (by decide) rfl (pa_cons (pv 0) pa_nil))))))))), ?_⟩
    refine s_forR (n := (m : Int)) (va_cons (v_var rfl) va_nil) (by omega) (fun i σ' H' => ∃ A' y, A'.ad .house = A.ad .house ∧ Syn A' (runT h i) ∧ HoAt (CCk K) n r H' A' (runT h i) ∧ Mv (footH n r A) H (footH n r A') H' ∧ σ' = [some (.ref (A.ad .house)), some (.int (m : Int)), y]) ⟨A, _, rfl, sy, x, .refl, rfl⟩ (fun (i : Nat) σ' H' hi pv => ?_) (fun σ' H' pv => by
      obtain ⟨A2, y, e2, sy2, x2, m2, rfl⟩ := pv
      rw [Int.toNat_natCast] at x2 sy2
      exact k A2 H' e2 sy2 x2 m2)
    obtain ⟨A1, y, e1, sy1, x1, m1, rfl⟩ := pv
    have wi := wf_runT w i
    have lmi := lm_run lm w hn8 i
    have hi2 : i < m := by omega
    show (_ : TS) ⟨fun σ' H' => ∃ A' y, A'.ad .house = A.ad .house ∧ Syn A' (stepT (runT h i)) ∧ HoAt (CCk K) n r H' A' (stepT (runT h i)) ∧ Mv (footH n r A) H (footH n r A') H' ∧ σ' = [some (.ref (A.ad .house)), some (.int (m : Int)), y], _, _, _⟩ _ _
    generalize runT h i = hi0 at sy1 x1 wi lmi
    rw [← e1]
    refine qh_ HT x1 A1 { hi0 with steps := hi0.steps + 1 } (v := .int (hi0.steps + 1)) (v_add (vh_ (c := CCk K) HT x1 (v_var rfl) hl_steps) v_c) (v_var rfl) rfl hp_steps rfl (fun t _ ht => cont_house ht ⟨rfl, rfl, rfl, rfl, rfl, rfl⟩ ⟨rfl, rfl, rfl, rfl, rfl, rfl⟩) rfl rfl (fun H2 x2 m2 => ?_)
    refine q_rel (fun σ' H' => ∃ A', SameA A1 A' ∧ HoAt (CCk K) n r H' A' (step1 hi0) ∧ Mv (footH n r A) H (footH n r A') H' ∧ σ' = [some (.ref (A1.ad .house)), some (.int (m : Int)), some (.int (i : Int))]) ?_ ?_
    · have vr : Val (tFld K (tVar 0) "runs") [some (.ref (A1.ad .house)), some (.int (m : Int)), some (.int (i : Int))] H2 (gV hi0.runs) := (vh_ (c := CCk K) HT x2 (v_var rfl) hl_runs)
      rcases runs_or hi0 with hr | ⟨u, hr⟩
      · rw [step1_none hr]
        rw [hr] at vr
        refine s_ifT (a_t (v_isN vr v_c)) (by rfl) ?_
        exact sh_ HT x2 A1 { hi0 with steps := hi0.steps + 1, idle := hi0.idle + 1 } (v := .int (hi0.idle + 1)) (v_add (vh_ (c := CCk K) HT x2 (v_var rfl) hl_idle) v_c) (v_var rfl) rfl hp_idle rfl (fun t _ ht => cont_house ht ⟨rfl, rfl, rfl, rfl, rfl, rfl⟩ ⟨rfl, rfl, rfl, rfl, rfl, rfl⟩) rfl rfl (fun H3 x3 m3 => ⟨A1, .refl, x3, m1.trans (m2.trans m3), rfl⟩)
      · rw [step1_some hr]
        rw [hr] at vr
        refine s_ifF (a_t (v_isN vr v_c)) (by rfl) ?_
        refine sx_drop (xc (va_2 (v_var rfl) vr (xt_tup ((va_cons v_c va_nil) _ ⟨k_line (by show 1 ≤ 1000; decide), fun T1 hT => ?_⟩))))
        have s1 := smN (o := HO.tup (evV .step)) hT
        refine ⟨n, r, A1, _, kk + 9 * i, u, T1, .step, rfl, x2.same s1, wf_count wi _ _, lm_same lmi rfl rfl, by omega, wi.ru u hr, hn8, upd_same, fun A3 H3 sa3 x3 m3 => ?_⟩
        exact ⟨A3, sa3, x3, m1.trans (m2.trans ((Mv.same s1).trans m3)), rfl⟩
    rintro _ H3 ⟨A3, sa3, x3, m3, rfl⟩
    have w3 := wf_step1 wi
    have lm3 := lm_step1 lmi wi
    have st3 : (step1 hi0).steps = hi0.steps + 1 ∧ (step1 hi0).beat = hi0.beat ∧ (step1 hi0).swaps = hi0.swaps ∧ (step1 hi0).turn = hi0.turn := by
      rcases runs_or hi0 with hr | ⟨u, hr⟩
      · rw [step1_none hr]; exact ⟨rfl, rfl, rfl, rfl⟩
      · rw [step1_some hr]
        have e := event_same (h := { hi0 with steps := hi0.steps + 1 }) (u := u) (e := .step)
        exact ⟨e.steps, e.beat, e.swaps, e.turn⟩
    have sy3 : Syn A3 (step1 hi0) := ⟨by rw [sa3.sw, st3.2.2.1]; exact sy1.sw, by rw [sa3.tn, st3.2.2.2]; exact sy1.tn⟩
    have eS : stepT hi0 = settleT (step2 hi0) := rfl
    rw [eS]
    rw [← sa3.h]
    refine q_rel (fun σ' H' => ∃ A', A'.ad .house = A3.ad .house ∧ Syn A' (step2 hi0) ∧ HoAt (CCk K) n r H' A' (step2 hi0) ∧ Mv (footH n r A) H (footH n r A') H' ∧ σ' = [some (.ref (A3.ad .house)), some (.int (m : Int)), some (.int (i : Int))]) ?_ ?_
    · have b0 := w3.b0
      unfold step2
      refine s_if (a_t (v_eqI (v_mod (vh_ (c := CCk K) HT x3 (v_var rfl) hl_steps) (vh_ (c := CCk K) HT x3 (v_var rfl) hl_beat) (by omega)) v_c)) (fun c => ?_) (fun c => ?_)
      · have c := of_decide_eq_true c
        rw [st3.1, st3.2.1] at c
        rw [if_pos c]
        exact s_do (va_cons (v_var rfl) va_nil) ⟨n, r, A3, step1 hi0, _, rfl, x3, w3, lm3, by omega, hn8, sy3, fun A4 H4 e4 sy4 x4 m4 => ⟨A4, e4, sy4, x4, m3.trans m4, rfl⟩⟩
      · have c := of_decide_eq_false c
        rw [st3.1, st3.2.1] at c
        rw [if_neg c]
        exact s_next ⟨A3, rfl, sy3, x3, m3, rfl⟩
    rintro _ H4 ⟨A4, e4, sy4, x4, m4, rfl⟩
    have w4 : WfH n r (step2 hi0) := by
      unfold step2
      split
      · exact wf_tick w3
      · exact w3
    refine s_do (va_cons (v_var rfl) va_nil) ⟨n, r, A4, step2 hi0, by rw [e4], x4, w4, hn8, sy4, fun A5 H5 e5 sy5 x5 m5 => ⟨A5, _, e5.trans e4, sy5, x5, m4.trans m5, rfl⟩⟩
end
/-! ### loads, switches, what is seen -/
section
variable {c : CC} {n r : Nat} {H H' H1 : Hp} {A A' : HA} {h h' : Ho} {s t : Slot} {u v k : Nat} {F : FS} {W : Hp → Prop} {b q : Addr} {e : Ev} {X Y : List Int} {sw : Int}
theorem cont_load (w : WfH n r h) (hu : u < n) (hs : okS n r s) (ns : s ≠ csl h u) (A : HA) : cont c n r A (loadT h u X) s = cont c n r A h s := by
  have hul : u < h.ps.length := by rw [w.lp]; exact hu
  have pe : pu (loadT h u X) u = { pu h u with m := { (pu h u).m with cells := X } } := pu_set hul
  by_cases hm : s ∈ pSlots h u
  · simp only [pSlots, List.mem_cons, List.not_mem_nil, or_false] at hm
    rcases hm with rfl | rfl | rfl | rfl | rfl | rfl | rfl | rfl | rfl | rfl | rfl
    · show HO.ins _ _ (pfs _ (pu (loadT h u X) u)) = _; rw [pe]; rfl
    · show HO.ins _ _ (mfs _ (pu (loadT h u X) u).m) = _; rw [pe]; rfl
    · exact absurd rfl ns
    · show HO.lst ((pu (loadT h u X) u).inbox.map V.int) = _; rw [pe]; rfl
    · show HO.lst ((pu (loadT h u X) u).outbox.map V.int) = _; rw [pe]; rfl
    · show HO.lst ((pu (loadT h u X) u).paper.map V.int) = _; rw [pe]; rfl
    · rfl
    · show HO.lst (((pu (loadT h u X) u).blocks.getD 0 []).map V.int) = _; rw [pe]; rfl
    · show HO.lst (((pu (loadT h u X) u).blocks.getD 1 []).map V.int) = _; rw [pe]; rfl
    · show HO.lst (((pu (loadT h u X) u).blocks.getD 2 []).map V.int) = _; rw [pe]; rfl
    · show HO.lst (((pu (loadT h u X) u).blocks.getD 3 []).map V.int) = _; rw [pe]; rfl
  · exact cont_other w hu hs hm A
theorem cont_sw (w : WfH n r h) (hu : u < n) (hs : okS n r s) (ns : s ≠ .pr u 0) (A : HA) : cont c n r A (switchT h u sw) s = cont c n r A h s := by
  have hul : u < h.ps.length := by rw [w.lp]; exact hu
  have pe : pu (switchT h u sw) u = { pu h u with sw := sw } := pu_set hul
  by_cases hm : s ∈ pSlots h u
  · simp only [pSlots, List.mem_cons, List.not_mem_nil, or_false] at hm
    rcases hm with rfl | rfl | rfl | rfl | rfl | rfl | rfl | rfl | rfl | rfl | rfl
    · exact absurd rfl ns
    · show HO.ins _ _ (mfs _ (pu (switchT h u sw) u).m) = _; rw [pe]; rfl
    · have := cont_csl c n r A (switchT h u sw) u
      refine this.trans ((cont_csl c n r A h u).symm ▸ ?_)
      show HO.lst ((cu (switchT h u sw) u).map V.int) = HO.lst ((cu h u).map V.int)
      unfold cu; rw [pe]
    · show HO.lst ((pu (switchT h u sw) u).inbox.map V.int) = _; rw [pe]; rfl
    · show HO.lst ((pu (switchT h u sw) u).outbox.map V.int) = _; rw [pe]; rfl
    · show HO.lst ((pu (switchT h u sw) u).paper.map V.int) = _; rw [pe]; rfl
    · rfl
    · show HO.lst (((pu (switchT h u sw) u).blocks.getD 0 []).map V.int) = _; rw [pe]; rfl
    · show HO.lst (((pu (switchT h u sw) u).blocks.getD 1 []).map V.int) = _; rw [pe]; rfl
    · show HO.lst (((pu (switchT h u sw) u).blocks.getD 2 []).map V.int) = _; rw [pe]; rfl
    · show HO.lst (((pu (switchT h u sw) u).blocks.getD 3 []).map V.int) = _; rw [pe]; rfl
  · exact cont_other w hu hs hm A
theorem cu_load (w : WfH n r h) (hu : u < n) : cu (loadT h u X) u = X := by
  have hul : u < h.ps.length := by rw [w.lp]; exact hu
  have pe : pu (loadT h u X) u = { pu h u with m := { (pu h u).m with cells := X } } := pu_set hul
  unfold cu; rw [pe]
theorem HoAt.cells (x : HoAt c n r H A (loadT h u X)) (w : WfH n r h) (hu : u < n) (Y : List Int) : HoAt c n r (upd H (A.ad (csl h u)) (.lst (Y.map V.int))) A (loadT h u Y) ∧ Mv (footH n r A) H (footH n r A) (upd H (A.ad (csl h u)) (.lst (Y.map V.int))) :=
  x.put (A' := A) (h' := loadT h u Y) (csl h u) (csl_ok w hu) rfl (by
    have := cont_csl c n r A (loadT h u Y) u
    rw [cu_load w hu] at this; exact this) (fun t ht hn => (cont_load w hu ht hn A).trans (cont_load w hu ht hn A).symm) x.dl x.dt
theorem load_self (hu : u < h.ps.length) : loadT h u (cu h u) = h := by
  have e : h.ps.set u { pu h u with m := { (pu h u).m with cells := cu h u } } = h.ps := by
    have e1 : ({ pu h u with m := { (pu h u).m with cells := cu h u } } : Pn) = pu h u := rfl
    rw [e1]
    apply List.ext_getElem?
    intro j
    by_cases c : u = j
    · subst c
      rw [List.getElem?_set_self hu]
      unfold pu
      rw [List.getD_eq_getElem?_getD, List.getElem?_eq_getElem hu]; rfl
    · rw [List.getElem?_set_ne c]
  unfold loadT
  rw [e]
theorem take_drop_set {α : Type} {xs ys : List α} {i : Nat} {a : α} (hx : xs[i]? = some a) (hl : i < ys.length) : (xs.take i ++ ys.drop i).set i a = xs.take (i + 1) ++ ys.drop (i + 1) := by
  have hi : i < xs.length := (List.getElem?_eq_some_iff.mp hx).1
  have e1 : (xs.take i).length = i := by rw [List.length_take]; omega
  rw [List.set_append_right _ _ (by rw [e1]; exact Nat.le_refl _), e1, Nat.sub_self, List.take_add_one, hx, List.drop_eq_getElem_cons hl, List.set_cons_zero, List.append_assoc]
  rfl
/-- the house in a world: up to where machines point -/
def HW (c : CC) (n r : Nat) (A : HA) (h : Ho) : Hp → Prop := fun H => ∃ A', A'.ad = A.ad ∧ A'.dts = A.dts ∧ A'.hsw = A.hsw ∧ A'.htn = A.htn ∧ HoAt c n r H A' h
theorem HoAt.hw (x : HoAt c n r H A h) : HW c n r A h H := ⟨A, rfl, rfl, rfl, rfl, x⟩
theorem foot_eq (e : A'.ad = A.ad) : footH n r A' = footH n r A := by unfold footH; rw [e]
theorem HW.noT (w : HW c n r A h H) : ∀ b, footH n r A b → NoTup H b := by
  obtain ⟨A', e, _, _, _, x⟩ := w
  rw [← foot_eq e]; exact x.noT
theorem HW.fa (w : HW c n r A h H) : FA (footH n r A) H := by
  obtain ⟨A', e, _, _, _, x⟩ := w
  rw [← foot_eq e]; exact x.fa
theorem woH : Wo (footH n r A) (HW c n r A h) := ⟨fun H H' k t w => by
  obtain ⟨A', e, e2, e3, e4, x⟩ := w
  exact ⟨A', e, e2, e3, e4, x.loc (by rw [foot_eq e]; exact k) t⟩⟩
theorem okH (x : HoAt c n r H A h) : Ok (footH n r A) (HW c n r A h) H := ⟨x.fa, x.hw⟩
/-- a house with its own part of a world -/
structure InW (c : CC) (n r : Nat) (A : HA) (h : Ho) (F : FS) (W : Hp → Prop) : Prop where
  sub : ∀ b, footH n r A b → F b
  up : ∀ H, W H → HW c n r A h H
  back : ∀ H H', W H → HW c n r A h H' → Mv (footH n r A) H (footH n r A) H' → W H'
  no : ∀ H, W H → ∀ b, F b → NoTup H b
theorem InW.tn {F1 : FS} {W1 : Hp → Prop} (iw : InW c n r A h F W) (tn : Tn F W H F1 W1 H1) : InW c n r A h F1 W1 :=
  ⟨fun b f => tn.sub b (iw.sub b f), fun H w1 => iw.up H (tn.w _ w1), fun H H' w1 hw m => tn.bk H H' w1 (iw.back H H' (tn.w _ w1) hw m) (fun b o n e => m.keep b o (fun f => n (iw.sub b f)) e), fun H w1 b f => (tn.nt H w1 b f).elim (iw.no H (tn.w _ w1) b) (fun ⟨_, e⟩ => .lst e)⟩
theorem inW1 : InW c n r A h (footH n r A) (HW c n r A h) := ⟨fun _ f => f, fun _ w => w, fun _ _ _ w _ => w, fun _ w => w.noT⟩
end
def preSeen (c : CC) (vs : List V) (H : Hp) (F : FS) (W : Hp → Prop) (d : PyData) : Prop := ∃ (n r : Nat) (A : HA) (h : Ho) (u : Nat), vs = [.ref (A.ad .house), nV u] ∧ InW c n r A h F W ∧ WfH n r h ∧ u < n ∧ d = shotD (pu h u)
def preDiary (c : CC) (vs : List V) (H : Hp) (F : FS) (W : Hp → Prop) (ds : List PyData) : Prop := ∃ (n r : Nat) (A : HA) (h : Ho) (u : Nat), vs = [.ref (A.ad .house), nV u] ∧ InW c n r A h F W ∧ u < n ∧ ds = (dy h u).map evD
def optD : Option Nat → PyData
  | none => .none
  | some i => .int (i : Int)
def preRoomOf (c : CC) (vs : List V) (H : Hp) (F : FS) (W : Hp → Prop) (d : PyData) : Prop := ∃ (n r : Nat) (A : HA) (h : Ho) (u : Nat), vs = [.ref (A.ad .house), nV u] ∧ InW c n r A h F W ∧ u < n ∧ d = optD (roomH h u)
def spGive (c : CC) : Sp := fun vs H Q _ => ∃ (n r : Nat) (A : HA) (h : Ho) (u : Nat) (a : Addr) (cs : List Int), vs = [.ref (A.ad .rooms), nV u, .ref a] ∧ HoAt c n r H A h ∧ WfH n r h ∧ u < n ∧ H a = some (.lst (cs.map V.int)) ∧ ¬ footH n r A a ∧ cs.length = 64 ∧ ∀ H', HoAt c n r H' A (loadT h u cs) → Mv (footH n r A) H (footH n r A) H' → Q .non H'
def spLoad (c : CC) : Sp := fun vs H Q _ => ∃ (n r : Nat) (A : HA) (h : Ho) (u : Nat) (a : Addr) (cs : List Int), vs = [.ref (A.ad .house), nV u, .ref a] ∧ HoAt c n r H A h ∧ WfH n r h ∧ u < n ∧ H a = some (.lst (cs.map V.int)) ∧ ¬ footH n r A a ∧ cs.length = 64 ∧ ∀ H', HoAt c n r H' A (loadT h u cs) → Mv (footH n r A) H (footH n r A) H' → Q .non H'
def spSw (c : CC) : Sp := fun vs H Q _ => ∃ (n r : Nat) (A : HA) (h : Ho) (u : Nat) (sw : Int), vs = [.ref (A.ad .house), nV u, .int sw] ∧ HoAt c n r H A h ∧ WfH n r h ∧ u < n ∧ ∀ H', HoAt c n r H' A (switchT h u sw) → Mv (footH n r A) H (footH n r A) H' → Q .non H'
section
variable {P : Program} {w : World} {K : PySem.W.Frag} {mg : Str → Option Value} {base : Heap}

theorem sc_give_cells : FnScope ["rooms", "user", "cells", "mine", "k"] ["rooms", "user", "cells"] (defScope s_give_cells) := ⟨rfl, rfl, rfl, by decide +kernel, rfl, by decide +kernel, by decide +kernel⟩
theorem cal_give_cells (T : Tx K mg) : Cal P w K mg base 4 "give_cells" ["rooms", "user", "cells"] (spGive (CCk K)) := by
  refine cal_mk T 36 36 rfl rfl sc_give_cells (fun _ _ _ _ _ _ us hl => match us, hl with | [_, _, _], _ => rfl) (fun vs H Q E h => ?_) (fun f cdv A outer s H vs Q E hr h => ?_)
  · obtain ⟨n, r, A, h, u, a, cs, rfl, x, w, hu, ha, na, hl, k⟩ := h
    rfl
  · obtain ⟨n, r, A, h, u, a, cs, rfl, x, w, hu, ha, na, hl, k⟩ := h
    have M := T.mt
    have U := T.pt
    have HT : HTx K (CCk K).h := T.ht
    have RT : RTx K (CCk K).r := T.rt
    refine ⟨_, (pss_cons (ps_set (i := 3) sc_give_cells.nd rfl (Or.inl rfl) (pe_cal (cal_cells_of (K := K) T) hr (by decide) rfl (pa_cons (pv 0) (pa_cons (pv 1) pa_nil)))) (pss_one (ps_for PassesOwn.never rfl (pi_range1 (by rfl) (T.free 52) (pa_cons pe_int pa_nil)) (pg_name (i := 4) sc_give_cells.nd rfl (Or.inl rfl)) (pss_one (ps_asg (pe_ix ix_list (pv 2) (pv 4) (fun _ _ => rfl)) (pg_sub (pv 3) (pv 4) set_list)))))), ?_⟩
    have hul : u < h.ps.length := by rw [w.lp]; exact hu
    have hcl : (cu h u).length = 64 := (w.pw u hu).1.wm.len
    refine q_setc (va_cons (v_var rfl) (va_cons (v_var rfl) va_nil)) ⟨n, r, A, h, u, rfl, x, w, hu, fun H1 s1 => ?_⟩
    have x1 := x.same s1
    refine s_forR (n := 64) (va_cons v_c va_nil) (by decide) (fun i σ' H' => ∃ y, σ' = [some (.ref (A.ad .rooms)), some (nV u), some (.ref a), some (.ref (A.ad (csl h u))), y] ∧ i ≤ 64 ∧ HoAt (CCk K) n r H' A (loadT h u (cs.take i ++ (cu h u).drop i)) ∧ Mv (footH n r A) H (footH n r A) H') ⟨_, rfl, by decide, by rw [List.take_zero, List.drop_zero, List.nil_append, load_self hul]; exact x1, .same s1⟩ (fun (i : Nat) σ' H' hi pv => ?_) (fun σ' H' pv => ?_)
    · obtain ⟨y, rfl, _, xi, mi⟩ := pv
      have hi64 : i < 64 := by omega
      have hai := mi.keep _ _ na ha
      have hcs : cs[i]? = some (cs.getD i 0) := by rw [List.getD_eq_getElem?_getD, List.getElem?_eq_getElem (by omega)]; rfl
      have hc := xi.at_ (csl h u) (csl_ok w hu)
      have hc : H' (A.ad (csl h u)) = some (.lst ((cs.take i ++ (cu h u).drop i).map V.int)) := by
        have e := cont_csl (CCk K) n r A (loadT h u (cs.take i ++ (cu h u).drop i)) u
        rw [cu_load w hu] at e
        exact hc.trans (congrArg some e)
      refine s_setItem (v_ixLI (v_var rfl) (v_var rfl) (SqL.of hai) (by omega) (by omega)) (v_var rfl) (v_var rfl) hc (by omega) (by rw [List.length_append, List.length_take, List.length_drop]; omega) ?_
      obtain ⟨x2, m2⟩ := xi.cells w hu ((cs.take i ++ (cu h u).drop i).set (i : Int).toNat (cs.getD (i : Int).toNat 0))
      refine ⟨_, rfl, by omega, ?_, mi.trans m2⟩
      rw [Int.toNat_natCast] at x2 ⊢
      rw [take_drop_set hcs (by omega)] at x2 ⊢
      exact x2
    · obtain ⟨y, rfl, _, xi, mi⟩ := pv
      rw [show (64 : Int).toNat = 64 from rfl, List.take_of_length_le (by omega), List.drop_eq_nil_of_le (by omega), List.append_nil] at xi
      exact k H' xi mi

theorem sc_load : FnScope ["house", "user", "cells"] ["house", "user", "cells"] (defScope s_load) := ⟨rfl, rfl, rfl, by decide +kernel, rfl, by decide +kernel, by decide +kernel⟩
theorem cal_load (T : Tx K mg) : Cal P w K mg base 5 "load" ["house", "user", "cells"] (spLoad (CCk K)) := by
  refine cal_mk T 38 38 rfl rfl sc_load (fun _ _ _ _ _ _ us hl => match us, hl with | [_, _, _], _ => rfl) (fun vs H Q E h => ?_) (fun f cdv A outer s H vs Q E hr h => ?_)
  · obtain ⟨n, r, A, h, u, a, cs, rfl, x, w, hu, ha, na, hl, k⟩ := h
    rfl
  · obtain ⟨n, r, A, h, u, a, cs, rfl, x, w, hu, ha, na, hl, k⟩ := h
    have M := T.mt
    have U := T.pt
    have HT : HTx K (CCk K).h := T.ht
    have RT : RTx K (CCk K).r := T.rt
    refine ⟨_, (pss_one (ps_expr (pe_cal (cal_give_cells (K := K) T) hr (by decide) rfl (pa_cons (pe_fld (pv 0) rfl) (pa_cons (pv 1) (pa_cons (pv 2) pa_nil)))))), ?_⟩
    exact s_do (va_cons (vh_ (c := CCk K) HT x (v_var rfl) hl_places) (va_cons (v_var rfl) (va_cons (v_var rfl) va_nil))) ⟨n, r, A, h, u, a, cs, rfl, x, w, hu, ha, na, hl, k⟩

theorem sc_seen : FnScope ["house", "user", "person"] ["house", "user"] (defScope s_seen) := ⟨rfl, rfl, rfl, by decide +kernel, rfl, by decide +kernel, by decide +kernel⟩
theorem cal_seen (T : Tx K mg) : Cal P w K mg base 7 "seen" ["house", "user"] (spDV K (preSeen (CCk K))) := by
  refine cal_mk T 44 44 rfl rfl sc_seen (fun _ _ _ _ _ _ us hl => match us, hl with | [_, _], _ => rfl) (fun vs H Q E h => ?_) (fun f cdv A outer s H vs Q E hr h => ?_)
  · obtain ⟨F, W, d, wo, ok, ⟨n, r, A, h, u, rfl, iw, w, hu, rfl⟩, k⟩ := h
    rfl
  · obtain ⟨F, W, d, wo, ok, ⟨n, r, A, h, u, rfl, iw, w, hu, rfl⟩, k⟩ := h
    have M := T.mt
    have U := T.pt
    have HT : HTx K (CCk K).h := T.ht
    have RT : RTx K (CCk K).r := T.rt
    refine ⟨_, (pss_cons (ps_set (i := 2) sc_seen.nd rfl (Or.inl rfl) (pe_ix ix_list (pe_fld (pv 0) rfl) (pv 1) (fun _ _ => rfl))) (pss_cons (ps_fld (pe_fld (pv 2) rfl) (pe_cal (cal_cells_of (K := K) T) hr (by decide) rfl (pa_cons (pe_fld (pv 0) rfl) (pa_cons (pv 1) pa_nil))) rfl) (pss_one (ps_ret (pe_cal (cal_picture (K := K) T) hr (by decide) rfl (pa_cons (pv 2) pa_nil)))))), ?_⟩
    obtain ⟨A1, ea, ed, e3, e4, x⟩ := iw.up H ok.w
    have fe := foot_eq (n := n) (r := r) ea
    have hh : A.ad .house = A1.ad .house := by rw [ea]
    rw [hh]
    refine q_set (v := .ref (A1.ad (.pr u 0))) (v_ixL (vh_ (c := CCk K) HT x (v_var rfl) hl_people) (v_var rfl) (SqL.of (x.at_ .people trivial)) (by omega) (by rw [Int.toNat_natCast, List.getElem?_map, List.getElem?_range hu]; rfl)) ?_
    refine qx_fldC (x_call (va_cons (vh_ (c := CCk K) HT x (v_var rfl) hl_places) (va_cons (v_var rfl) va_nil)) ⟨n, r, A1, h, u, rfl, x, w, hu, fun H1 s1 => ?_⟩)
    have x1 := x.same s1
    refine x_v (val_fld (v_var rfl) (x1.at_ (.pr u 0) ⟨hu, by decide⟩) U.cl U.nMachine pf_machine) ⟨A1.ad (.pr u 1), _, A1.dm u, _, rfl, x1.at_ (.pr u 1) ⟨hu, by decide⟩, M.cl, M.nCells, by show 4 < 1000; decide, ?_⟩
    rw [mq_cells]
    obtain ⟨x2, m2⟩ := x1.point hu (A1.ad (csl h u))
    show tRet _ _ _ (upd H1 (A1.ad (.pr u 1)) (.ins (CCk K).m (A1.dm u) (mfs (A1.ad (csl h u)) (pu h u).m)))
    generalize upd H1 (A1.ad (.pr u 1)) (.ins (CCk K).m (A1.dm u) (mfs (A1.ad (csl h u)) (pu h u).m)) = H2 at x2 m2 ⊢
    have hcp : (setCp A1 u (A1.ad (csl h u))).cp u = (setCp A1 u (A1.ad (csl h u))).ad (csl h u) := by unfold setCp; simp
    have hw2 : HW (CCk K) n r A h H2 := ⟨setCp A1 u (A1.ad (csl h u)), ea, ed, e3, e4, x2⟩
    have m02 : Mv (footH n r A1) H (footH n r A1) H2 := (Mv.same s1).trans m2
    rw [fe] at m02
    have W2 := iw.back H H2 ok.w hw2 m02
    have mF : Mv F H F H2 := ⟨fun b o nb e => m02.keep b o (fun f => nb (iw.sub b f)) e, fun b f => .inl f⟩
    have fa2 : FA F H2 := fun b f e => by
      by_cases c : footH n r A b
      · exact hw2.fa b c e
      · cases z : H b with
        | none => exact ok.fa b f z
        | some o => rw [m02.keep b o c z] at e; cases e
    have hP := x2.pat w hu hcp
    exact x_ret (x_call (va_cons (v_var rfl) va_nil) ⟨paU (setCp A1 u (A1.ad (csl h u))) u ((setCp A1 u (A1.ad (csl h u))).ad (csl h u)), pu h u, rfl, hP, (w.pw u hu).1.bk, fun a H3 s3 hd => by
      have ok3 := (Ok.mk fa2 W2).same wo s3
      exact k _ H3 (mF.trans (.same s3)) ok3 (Dp.da (iw.no H3 ok3.w) hd)⟩)
end
/-! ### a new house -/
def PA.slot (A : PA) : Nat → Addr
  | 0 => A.p
  | 1 => A.m
  | 2 => A.ib
  | 3 => A.ob
  | 4 => A.pp
  | 5 => A.bl
  | k + 6 => A.bs.getD k 0
def PA.f10 (A : PA) : List Addr := [A.slot 0, A.slot 1, A.slot 2, A.slot 3, A.slot 4, A.slot 5, A.slot 6, A.slot 7, A.slot 8, A.slot 9]
theorem getD_at {α : Type} {xs : List α} {i : Nat} {d : α} (h : i < xs.length) : xs[i]? = some (xs.getD i d) := by rw [List.getD_eq_getElem?_getD, List.getElem?_eq_getElem h]; rfl
theorem bs4 {A : PA} (h : A.bs.length = 4) : A.bs = [A.bs.getD 0 0, A.bs.getD 1 0, A.bs.getD 2 0, A.bs.getD 3 0] := by
  match hb : A.bs, h with
  | [a, b, c, d], _ => rfl
theorem f10_sub {A : PA} (h : A.bs.length = 4) : (∀ b ∈ A.f10, b ∈ A.foot) ∧ (A.foot.Nodup → A.f10.Nodup) := by
  have e := bs4 h
  have ef : A.foot = [A.p, A.m] ++ A.c :: ([A.ib, A.ob, A.pp, A.bl] ++ [A.bs.getD 0 0, A.bs.getD 1 0, A.bs.getD 2 0, A.bs.getD 3 0]) := by unfold PA.foot; rw [← e]; rfl
  have e10 : A.f10 = [A.p, A.m] ++ ([A.ib, A.ob, A.pp, A.bl] ++ [A.bs.getD 0 0, A.bs.getD 1 0, A.bs.getD 2 0, A.bs.getD 3 0]) := rfl
  have sl : List.Sublist A.f10 A.foot := by
    rw [ef, e10]
    exact List.Sublist.append (List.Sublist.refl [A.p, A.m]) (List.sublist_cons_self A.c _)
  exact ⟨fun b hb => sl.subset hb, fun nd => nd.sublist sl⟩
/-- a list of new users -/
structure PsI (C Dp : Addr) (H : Hp) (D : Addr) (Ps : List Pn) (As : List PA) (H' : Hp) : Prop where
  sm : Same H H'
  hd : H' D = some (.lst (As.map fun A => V.ref A.p))
  pa : ∀ (i : Nat) A, As[i]? = some A → ∃ P, Ps[i]? = some P ∧ PAt C Dp H' A P
  fr : ∀ A ∈ As, ∀ b ∈ A.foot, H b = none
  nd : (D :: As.flatMap PA.f10).Nodup
  nD : ∀ A ∈ As, D ∉ A.foot
theorem disj_nd {H : Hp} {L1 L2 : List Addr} (n1 : L1.Nodup) (n2 : L2.Nodup) (a1 : ∀ b ∈ L1, H b ≠ none) (a2 : ∀ b ∈ L2, H b = none) : (L1 ++ L2).Nodup := List.nodup_append.mpr ⟨n1, n2, fun a ha b hb e => a1 a ha (by rw [e]; exact a2 b hb)⟩
section
variable {K : PySem.W.Frag} {C Dp D : Addr} {H H' H1 : Hp} {Ps : List Pn} {As : List PA} {P : Pn} {A : PA} {σ : L2.St} {te ta tv : TE} {tA : TA} {z : Int}
theorem PsI.al (h : PsI C Dp H D Ps As H') : ∀ b ∈ D :: As.flatMap PA.f10, H' b ≠ none := fun b hb e => by
  rcases List.mem_cons.mp hb with rfl | hb
  · rw [h.hd] at e; cases e
  · obtain ⟨A, hA, hb⟩ := List.mem_flatMap.mp hb
    obtain ⟨i, hi⟩ := List.getElem?_of_mem hA
    obtain ⟨P, _, hP⟩ := h.pa i A hi
    exact hP.fa b ((f10_sub hP.len).1 b hb) e
theorem psi_0 (hD : H D = none) : PsI C Dp H D Ps [] (upd H D (.lst [])) := ⟨smN hD, upd_same, fun i A h => (by cases h), fun A h => (by cases h), by simp, fun A h => (by cases h)⟩
theorem psi_step (hD : H D = none) (iv : PsI C Dp H D Ps As H') (hP : Ps[As.length]? = some P) (fr : ∀ b ∈ A.foot, H' b = none) (s : Same H' H1) (hA : PAt C Dp H1 A P) : PsI C Dp H D Ps (As ++ [A]) (upd H1 D (.lst (As.map (fun A => V.ref A.p) ++ [.ref A.p]))) := by
  have nD : ∀ B : PA, (∀ b ∈ B.foot, b ≠ D) → ∀ Q, PAt C Dp H1 B Q → PAt C Dp (upd H1 D (.lst (As.map (fun A => V.ref A.p) ++ [.ref A.p]))) B Q := fun B hB Q h => h.loc fun b o hb e => by rw [upd_ne (hB b hb)]; exact e
  have al := iv.al
  have nf : ∀ b ∈ A.foot, b ≠ D := fun b hb e => by have := fr b hb; rw [e, iv.hd] at this; cases this
  obtain ⟨g1, g2⟩ := f10_sub hA.len
  refine ⟨smM (iv.sm.trans s) hD, by rw [upd_same, List.map_append]; rfl, fun i B hB => ?_, fun B hB b hb => ?_, ?_, fun B hB => ?_⟩
  · by_cases hi : i < As.length
    · rw [List.getElem?_append_left hi] at hB
      obtain ⟨Q, e, hQ⟩ := iv.pa i B hB
      exact ⟨Q, e, nD B (fun b hb q => iv.nD B (List.mem_of_getElem? hB) (q ▸ hb)) Q (hQ.same s)⟩
    · rw [List.getElem?_append_right (by omega)] at hB
      have h1 := (List.getElem?_eq_some_iff.mp hB).1
      have e0 : i - As.length = 0 := by simp at h1; omega
      have e1 : i = As.length := by omega
      rw [e0] at hB
      cases hB
      exact ⟨P, by rw [e1]; exact hP, nD A nf P hA⟩
  · rcases List.mem_append.mp hB with h1 | h1
    · exact iv.fr B h1 b hb
    · rw [List.mem_singleton.mp h1] at hb; exact iv.sm.free (fr b hb)
  · rw [List.flatMap_append, List.flatMap_cons, List.flatMap_nil, List.append_nil, ← List.cons_append]
    exact disj_nd iv.nd (g2 hA.nd) al (fun b hb => fr b (g1 b hb))
  · rcases List.mem_append.mp hB with h1 | h1
    · exact iv.nD B h1
    · rw [List.mem_singleton.mp h1]; exact fun hm => nf D hm rfl
/-- a reading gives a new user -/
def NewPer (K : PySem.W.Frag) (C Dp : Addr) (te : TE) (σ : L2.St) (H : Hp) (P : Pn) : Prop := ∀ H1, Same H H1 → ∀ Q : VK, (∀ A H', (∀ b ∈ A.foot, H1 b = none) → Same H1 H' → PAt C Dp H' A P → Q (.ref A.p) H') → te σ H1 Q
def NewPs (C Dp : Addr) (te : TE) (σ : L2.St) (H : Hp) (Ps : List Pn) : Prop := ∀ Q : VK, (∀ D As H', H D = none → As.length = Ps.length → PsI C Dp H D Ps As H' → Q (.ref D) H') → te σ H Q
theorem nps_range {k : Nat} {ws : List Nat} (h : ValA tA σ H [.int z]) (hz : 0 ≤ z ∧ z ≤ 100000) (hl : Ps.length = z.toNat) (hw : ∀ x, wipe ((wipe σ ws).set k (some x)) ws = wipe σ ws) (he : ∀ (m : Nat) (P : Pn), Ps[m]? = some P → NewPer K C Dp te ((wipe σ ws).set k (some (.int (m : Int)))) H P) : NewPs C Dp (tLc (iRng1 tA) (gName k) tYes te ws) σ H Ps := fun Q q =>
  h _ ⟨z, rfl, by omega, by omega, fun D hD => lc_range (lo := 0) (n := z.toNat) (fun m H' => ∃ As, As.length = m ∧ PsI C Dp H D Ps As H') ⟨[], rfl, psi_0 hD⟩ (fun m H' hm e => by
    obtain ⟨As, rfl, iv⟩ := e
    have e0 : (0 : Int) + (As.length : Int) = (As.length : Int) := Int.zero_add _
    rw [e0]
    refine ⟨hw _, ?_⟩
    unfold tYes
    dsimp only
    rw [if_pos rfl]
    have hP : Ps[As.length]? = some Ps[As.length] := List.getElem?_eq_getElem (by omega)
    refine he _ _ hP H' iv.sm _ (fun A H1 fr s hA => ⟨_, s _ _ iv.hd, ?_, As ++ [A], by simp, psi_step hD iv hP fr s hA⟩)
    rw [List.length_map]
    exact Nat.lt_of_lt_of_le (show As.length < 100000 by omega) (by rw [sizeLine_eq]; decide)) (fun H' e => by
      obtain ⟨As, e1, iv⟩ := e
      exact q D As H' hD (by omega) iv)⟩
end
/-! slots, each once -/
def slots (n r : Nat) : List Slot := .house :: ((.people :: (List.range n).flatMap fun u => (List.range 10).map fun k => Slot.pr u k) ++ ((.rooms :: .guests :: .kept :: (List.range r).map .kr) ++ ((.shelves :: (List.range n).map .sr) ++ ((.diaries :: (List.range n).map .dr) ++ [.row]))))
theorem slots_all {n r : Nat} {s : Slot} (h : okS n r s) : s ∈ slots n r := by
  unfold slots
  cases s with
  | kr i => simp; exact h
  | sr u => simp; exact h
  | dr u => simp; exact h
  | pr u k => simp; exact h
  | _ => simp
theorem nd_inj {α β : Type} {f : α → β} : ∀ {l : List α}, (l.map f).Nodup → ∀ s t, s ∈ l → t ∈ l → f s = f t → s = t
  | [], _, s, t, hs, _, _ => by cases hs
  | a :: l, nd, s, t, hs, ht, e => by
    rw [List.map_cons] at nd
    obtain ⟨n1, n2⟩ := List.nodup_cons.mp nd
    rcases List.mem_cons.mp hs with e1 | hs1 <;> rcases List.mem_cons.mp ht with e2 | ht1
    · rw [e1, e2]
    · exact absurd (List.mem_map.mpr ⟨t, ht1, by rw [← e, e1]⟩) n1
    · exact absurd (List.mem_map.mpr ⟨s, hs1, by rw [e, e2]⟩) n1
    · exact nd_inj n2 s t hs1 ht1 e
structure NewA where
  p : Addr
  dp : Addr
  D : Addr
  As : List PA
  x : Addr
  dx : Addr
  g : Addr
  kp : Addr
  ks : List Addr
  sh : Addr
  ss : List Addr
  dl : Addr
  ds : List Addr
  rw_ : Addr
def noPA : PA := ⟨0, 0, 0, 0, 0, 0, 0, 0, 0, []⟩
def NewA.ad (N : NewA) : Slot → Addr
  | .house => N.p
  | .people => N.D
  | .rooms => N.x
  | .guests => N.g
  | .kept => N.kp
  | .shelves => N.sh
  | .diaries => N.dl
  | .row => N.rw_
  | .kr i => N.ks.getD i 0
  | .sr u => N.ss.getD u 0
  | .dr u => N.ds.getD u 0
  | .pr u k => (N.As.getD u noPA).slot k
def NewA.ha (N : NewA) (dts : Nat → List Addr) (sw tn : Int) : HA := ⟨N.ad, N.dp, N.dx, fun u => (N.As.getD u noPA).dp, fun u => (N.As.getD u noPA).dm, fun u => (N.As.getD u noPA).c, dts, sw, tn⟩
theorem map_getD {α : Type} {d : α} : ∀ (l : List α), (List.range l.length).map (fun i => l.getD i d) = l
  | [] => rfl
  | a :: l => by
    rw [List.length_cons, List.range_succ_eq_map, List.map_cons, List.map_map]
    exact congrArg (a :: ·) (map_getD l)
theorem NewA.flat (N : NewA) : ((List.range N.As.length).flatMap fun u => (List.range 10).map fun k => N.ad (Slot.pr u k)) = N.As.flatMap PA.f10 := by
  have e : ∀ u, ((List.range 10).map fun k => N.ad (Slot.pr u k)) = PA.f10 (N.As.getD u noPA) := fun u => rfl
  simp only [e]
  conv => rhs; rw [← map_getD (d := noPA) N.As]
  rw [List.flatMap_map]
theorem NewA.map {n r : Nat} (N : NewA) (h1 : N.As.length = n) (h2 : N.ks.length = r) (h3 : N.ss.length = n) (h4 : N.ds.length = n) : (slots n r).map N.ad = N.p :: ((N.D :: N.As.flatMap PA.f10) ++ ((N.x :: N.g :: N.kp :: N.ks) ++ ((N.sh :: N.ss) ++ ((N.dl :: N.ds) ++ [N.rw_])))) := by
  have a1 : ((List.range n).flatMap fun u => (List.range 10).map fun k => Slot.pr u k).map N.ad = N.As.flatMap PA.f10 := by
    rw [List.map_flatMap, ← N.flat, h1]
    simp only [List.map_map]
    rfl
  have a2 : ((List.range r).map Slot.kr).map N.ad = N.ks := by
    rw [List.map_map, ← h2]; exact map_getD (d := 0) N.ks
  have a3 : ((List.range n).map Slot.sr).map N.ad = N.ss := by
    rw [List.map_map, ← h3]; exact map_getD (d := 0) N.ss
  have a4 : ((List.range n).map Slot.dr).map N.ad = N.ds := by
    rw [List.map_map, ← h4]; exact map_getD (d := 0) N.ds
  unfold slots
  simp only [List.map_cons, List.map_append, List.map_nil, a1, a2, a3, a4]
  rfl

/-! promises of the makers -/
def rowsZ (m : Nat) : List (List V) := List.replicate m (List.replicate 64 (V.int 0))
def spRooms (c : CC) : Sp := fun vs H Q _ => ∃ (p dp : Addr) (m n : Nat), vs = [.ref p, .int (m : Int), .int (n : Int)] ∧ m ≤ 100 ∧ n ≤ 100 ∧ H p = some (.ins c.r dp []) ∧
  ∀ g kp sh ks ss H', (∀ b ∈ (g :: kp :: ks) ++ (sh :: ss), H b = none) → (p :: ((g :: kp :: ks) ++ (sh :: ss))).Nodup → ks.length = m → ss.length = n → H' p = some (.ins c.r dp [("guests", .ref g), ("kept", .ref kp), ("shelves", .ref sh), ("turn", .int 0), ("swaps", .int 0)]) → H' g = some (.lst (List.replicate m V.non)) → H' kp = some (.lst (ks.map V.ref)) → RowsAt HO.lst H' ks (rowsZ m) → H' sh = some (.lst (ss.map V.ref)) → RowsAt HO.lst H' ss (rowsZ n) → Fr [p] H H' → Q .non H'
def spHouse (c : CC) : Sp := fun vs H Q _ => ∃ (p dp : Addr) (n m : Nat) (q b : Int), vs = [.ref p, .int (n : Int), .int (m : Int), .int q, .int b] ∧ n ≤ 100 ∧ m ≤ 100 ∧ H p = some (.ins c.h dp []) ∧
  ∀ A H', A.ad .house = p → Syn A (newH n m q b) → (∀ z, footH n m A z → z = p ∨ H z = none) → HoAt c n m H' A (newH n m q b) → Fr [p] H H' → Q .non H'
/-- all put together -/
theorem NewA.house {c : CC} {n m : Nat} {q b : Int} {H : Hp} (N : NewA) (h1 : N.As.length = n) (h2 : N.ks.length = m) (h3 : N.ss.length = n) (h4 : N.ds.length = n) (nd : ((slots n m).map N.ad).Nodup)
    (hp : H N.p = some (.ins c.h N.dp (hfs (N.ha (fun _ => []) 0 0) (newH n m q b)))) (hD : H N.D = some (.lst (N.As.map fun A => V.ref A.p))) (hA : ∀ (i : Nat) A, N.As[i]? = some A → PAt c.m c.p H A (newP zeros 0))
    (hx : H N.x = some (.ins c.r N.dx (rfs (N.ha (fun _ => []) 0 0) (newH n m q b)))) (hg : H N.g = some (.lst (List.replicate m V.non))) (hk : H N.kp = some (.lst (N.ks.map V.ref))) (hks : RowsAt HO.lst H N.ks (rowsZ m)) (hs : H N.sh = some (.lst (N.ss.map V.ref))) (hss : RowsAt HO.lst H N.ss (rowsZ n))
    (hd : H N.dl = some (.lst (N.ds.map V.ref))) (hds : RowsAt HO.lst H N.ds (List.replicate n [])) (hr : H N.rw_ = some (.lst [])) : HoAt c n m H (N.ha (fun _ => []) 0 0) (newH n m q b) := by
  have pe : ∀ u, u < n → pu (newH n m q b) u = newP zeros 0 := fun u hu => by
    show (List.replicate n (newP (List.replicate 64 0) 0)).getD u _ = _
    rw [List.getD_eq_getElem?_getD, List.getElem?_replicate, if_pos hu]; rfl
  have rm : ∀ u, roomH (newH n m q b) u = none := fun u => roomN_no fun j z => by
    have z : (List.replicate m (none : Option Nat))[j]? = some (some u) := z
    rw [List.getElem?_replicate] at z
    split at z <;> cases z
  have row : ∀ (as : List Addr) (rs : List (List V)) (i : Nat) (r : List V), RowsAt HO.lst H as rs → i < as.length → rs[i]? = some r → H (as.getD i 0) = some (.lst r) := fun as rs i r hh hi hr => by
    have e : as[i]? = some (as.getD i 0) := by rw [List.getD_eq_getElem?_getD, List.getElem?_eq_getElem hi]; rfl
    obtain ⟨r', e1, e2⟩ := hh i _ e
    rw [hr] at e1; cases e1; exact e2
  have z64 : (zeros.map V.int) = List.replicate 64 (V.int 0) := by unfold zeros; rw [List.map_replicate]
  refine ⟨fun s ok => ?_, fun s t hs ht e => nd_inj nd s t (slots_all hs) (slots_all ht) e, fun u hu => ?_, fun u i a e hu h => (by cases h)⟩
  · cases s with
    | house => exact hp
    | people =>
      refine hD.trans (congrArg some ?_)
      show HO.lst (N.As.map fun A => V.ref A.p) = HO.lst ((List.range n).map fun u => V.ref (N.As.getD u noPA).p)
      conv => lhs; rw [← map_getD (d := noPA) N.As, h1, List.map_map]
      rfl
    | rooms => exact hx
    | guests =>
      refine hg.trans (congrArg some ?_)
      show HO.lst _ = HO.lst ((List.replicate m (none : Option Nat)).map gV)
      rw [List.map_replicate]; rfl
    | kept =>
      refine hk.trans (congrArg some ?_)
      show HO.lst (N.ks.map V.ref) = HO.lst ((List.range m).map fun u => V.ref (N.ks.getD u 0))
      conv => lhs; rw [← map_getD (d := 0) N.ks, h2, List.map_map]
      rfl
    | shelves =>
      refine hs.trans (congrArg some ?_)
      show HO.lst (N.ss.map V.ref) = HO.lst ((List.range n).map fun u => V.ref (N.ss.getD u 0))
      conv => lhs; rw [← map_getD (d := 0) N.ss, h3, List.map_map]
      rfl
    | diaries =>
      refine hd.trans (congrArg some ?_)
      show HO.lst (N.ds.map V.ref) = HO.lst ((List.range n).map fun u => V.ref (N.ds.getD u 0))
      conv => lhs; rw [← map_getD (d := 0) N.ds, h4, List.map_map]
      rfl
    | row => exact hr
    | kr i =>
      have hi : i < m := ok
      refine (row N.ks (rowsZ m) i (List.replicate 64 (V.int 0)) hks (by omega) (by unfold rowsZ; rw [List.getElem?_replicate, if_pos hi])).trans (congrArg some ?_)
      show _ = HO.lst ((keptC (newH n m q b) i).map V.int)
      have : keptC (newH n m q b) i = zeros := by
        unfold keptC
        show (match (List.replicate m (none : Option Nat))[i]? with | some (some z) => cu _ z | _ => zeros) = zeros
        rw [List.getElem?_replicate, if_pos hi]
      rw [this, z64]
    | sr u =>
      have hu : u < n := ok
      refine (row N.ss (rowsZ n) u (List.replicate 64 (V.int 0)) hss (by omega) (by unfold rowsZ; rw [List.getElem?_replicate, if_pos hu])).trans (congrArg some ?_)
      show _ = HO.lst ((shelfC (newH n m q b) u).map V.int)
      unfold shelfC cu
      rw [if_pos (rm u), pe u hu]
      show _ = HO.lst (zeros.map V.int)
      rw [z64]
    | dr u =>
      have hu : u < n := ok
      exact row N.ds (List.replicate n []) u [] hds (by omega) (by rw [List.getElem?_replicate, if_pos hu])
    | pr u k =>
      obtain ⟨hu, hk10⟩ := ok
      have eA : N.As[u]? = some (N.As.getD u noPA) := by rw [List.getD_eq_getElem?_getD, List.getElem?_eq_getElem (by omega)]; rfl
      have P := hA u _ eA
      have bl : ∀ j, j < 4 → H ((N.As.getD u noPA).bs.getD j 0) = some (.lst (((newP zeros 0).blocks.getD j []).map V.int)) := fun j hj => by
        have hlen := P.len
        have e : (N.As.getD u noPA).bs[j]? = some ((N.As.getD u noPA).bs.getD j 0) := getD_at (by rw [P.len]; exact hj)
        obtain ⟨ws, e1, e2⟩ := P.hbs j _ e
        rw [e2, List.getD_eq_getElem?_getD, e1]; rfl
      match k, hk10 with
      | 0, _ =>
        refine P.hp.trans (congrArg some ?_)
        show _ = HO.ins c.p (N.As.getD u noPA).dp (pfs _ (pu (newH n m q b) u))
        rw [pe u hu]; rfl
      | 1, _ =>
        refine P.hm.trans (congrArg some ?_)
        show _ = HO.ins c.m (N.As.getD u noPA).dm (mfs _ (pu (newH n m q b) u).m)
        rw [pe u hu]; rfl
      | 2, _ => refine P.hi.trans (congrArg some ?_); show _ = HO.lst ((pu (newH n m q b) u).inbox.map V.int); rw [pe u hu]
      | 3, _ => refine P.ho.trans (congrArg some ?_); show _ = HO.lst ((pu (newH n m q b) u).outbox.map V.int); rw [pe u hu]
      | 4, _ => refine P.hq.trans (congrArg some ?_); show _ = HO.lst ((pu (newH n m q b) u).paper.map V.int); rw [pe u hu]
      | 5, _ => refine P.hb.trans (congrArg some ?_); conv => lhs; rw [bs4 P.len]
                rfl
      | 6, _ => refine (bl 0 (by decide)).trans (congrArg some ?_); show _ = HO.lst (((pu (newH n m q b) u).blocks.getD 0 []).map V.int); rw [pe u hu]
      | 7, _ => refine (bl 1 (by decide)).trans (congrArg some ?_); show _ = HO.lst (((pu (newH n m q b) u).blocks.getD 1 []).map V.int); rw [pe u hu]
      | 8, _ => refine (bl 2 (by decide)).trans (congrArg some ?_); show _ = HO.lst (((pu (newH n m q b) u).blocks.getD 2 []).map V.int); rw [pe u hu]
      | 9, _ => refine (bl 3 (by decide)).trans (congrArg some ?_); show _ = HO.lst (((pu (newH n m q b) u).blocks.getD 3 []).map V.int); rw [pe u hu]
      | k + 10, hk => omega
  · show 0 = (dy (newH n m q b) u).length
    show 0 = ((List.replicate n ([] : List Ev)).getD u []).length
    rw [List.getD_eq_getElem?_getD, List.getElem?_replicate]
    split <;> rfl
section
variable {K : PySem.W.Frag} {C Dp D p dp : Addr} {H H' : Hp} {Ps : List Pn} {σ : L2.St} {ta tv : TE} {f : Str} {fs : List (Str × V)} {N : L2.St → Hp → Prop} {R : VK} {B C' : L2.St → Hp → Prop} {tz : TS}
theorem q_fldPs (hv : NewPs C Dp tv σ H Ps) (ha : ∀ H', Val ta σ H' (.ref p)) (hp : Ins K D p dp fs H) (no : NoAttr K D f) (hl : fs.length < 1000)
    (q : ∀ b (As : List PA) H', H b = none → As.length = Ps.length → (b :: As.flatMap PA.f10).Nodup → (∀ z ∈ As.flatMap PA.f10, H z = none) → (∀ z ∈ b :: As.flatMap PA.f10, H' z ≠ none) → H' b = some (.lst (As.map fun A => V.ref A.p)) → (∀ (i : Nat) A, As[i]? = some A → ∃ P, Ps[i]? = some P ∧ PAt C Dp H' A P ∧ p ∉ A.foot) → Ins K D p dp (putF f (.ref b) fs) H' → Fr [p] H H' → tz ⟨N, R, B, C'⟩ σ H') :
    tSeq (sFld K ta tv f) tz ⟨N, R, B, C'⟩ σ H :=
  hv _ fun b As H1 hb hlen iv => by
    have nb : b ≠ p := fun e => by rw [e, hp.at_] at hb; cases hb
    have hp1 := iv.sm _ _ hp.at_
    refine ha _ _ ⟨p, D, dp, fs, rfl, hp1, hp.cl, no, hl, q b As _ hb hlen iv.nd (fun z hz => ?_) (fun z hz => ?_) (by rw [upd_ne nb]; exact iv.hd) (fun i A hA => ?_) ⟨hp.cl, upd_same⟩ (Fr.same1 iv.sm (Fr.upd (by simp)))⟩
    · obtain ⟨A, hA, hz⟩ := List.mem_flatMap.mp hz
      obtain ⟨i, hi⟩ := List.getElem?_of_mem hA
      obtain ⟨P, _, hP⟩ := iv.pa i A hi
      exact iv.fr A hA z ((f10_sub hP.len).1 z hz)
    · by_cases e : z = p
      · rw [e, upd_same]; exact fun e => by cases e
      · rw [upd_ne e]; exact iv.al z hz
    · obtain ⟨P, e, hP⟩ := iv.pa i A hA
      have np : p ∉ A.foot := fun hm => by have := iv.fr A (List.mem_of_getElem? hA) p hm; rw [hp.at_] at this; cases this
      exact ⟨P, e, hP.loc (fun z o hz e => by rw [upd_ne (fun q => np (by rw [← q]; exact hz))]; exact e), np⟩
end
theorem newper {K : PySem.W.Frag} {C Dp : Addr} {tl : TE} {σ : L2.St} {H : Hp} {cs : List Int} {sw : Int} (h : ∀ H1, Same H H1 → NewL tl σ H1 (cs.map V.int)) : NewPer K C Dp (tMake Dp (spPerson K C Dp) [] E0 (tCons tl (tCons (tC (.int sw)) tNil))) σ H (newP cs sw) := fun H1 s Q q => by
  show tl σ H1 _
  refine h H1 s _ (fun L hL => ?_)
  refine (x_person (σ := σ) (H := upd H1 L (.lst (cs.map V.int))) (tA := fun _ H2 Q2 => Q2 [.ref L, .int sw] H2) (sw := sw) (cs := cs) (fun Q2 q2 => q2) (.inl (SqL.of upd_same)) (fun A H' fr s2 hA => q A H' (fun b hb => (smN hL).free (fr b hb)) ((smN hL).trans s2) hA) : _)
section
variable {P : Program} {w : World} {K : PySem.W.Frag} {mg : Str → Option Value} {base : Heap}

theorem sc_Rooms___init__ : FnScope ["self", "many", "users", "k", "room", "user"] ["self", "many", "users"] (defScope s_Rooms___init__) := ⟨rfl, rfl, rfl, by decide +kernel, rfl, by decide +kernel, by decide +kernel⟩
theorem cal_Rooms (T : Tx K mg) : CalC P w K mg base 3 "Rooms" ["self", "many", "users"] (spRooms (CCk K)) := by
  refine calC_mk T 53 86 88 rfl rfl rfl sc_Rooms___init__ (fun _ _ _ _ _ _ us hl => match us, hl with | [_, _, _], _ => rfl) (fun vs H Q E h => ?_) (fun f cdv A outer s H vs Q E hr h => ?_)
  · obtain ⟨p, dp, m, n, rfl, hm, hn, hp, k⟩ := h
    rfl
  · obtain ⟨p, dp, m, n, rfl, hm, hn, hp, k⟩ := h
    have M := T.mt
    have U := T.pt
    have HT : HTx K (CCk K).h := T.ht
    have RT : RTx K (CCk K).r := T.rt
    refine ⟨_, (pss_cons (ps_fld (pv 0) (pe_lc (own := [("k", 3)]) (g := gName 3) (tt := tYes) (by rfl) sc_Rooms___init__.nd (pi_range1 (by rfl) (T.free 52) (pa_cons (pv 1) pa_nil)) (blkOk_by (own := [("k", 3)]) (N := ["self", "many", "users", "k", "room", "user"]) (sc := defScope s_Rooms___init__) (by decide +kernel)) (fun _ _ _ _ _ => pg_name (i := 3) sc_Rooms___init__.nd rfl (Or.inl rfl)) (fun _ _ _ _ _ => pts_nil) (fun _ _ _ _ _ => pe_non)) rfl) (pss_cons (ps_fld (pv 0) (pe_lc (own := [("room", 4)]) (g := gName 4) (tt := tYes) (by rfl) sc_Rooms___init__.nd (pi_range1 (by rfl) (T.free 52) (pa_cons (pv 1) pa_nil)) (blkOk_by (own := [("room", 4)]) (N := ["self", "many", "users", "k", "room", "user"]) (sc := defScope s_Rooms___init__) (by decide +kernel)) (fun _ _ _ _ _ => pg_name (i := 4) sc_Rooms___init__.nd rfl (Or.inl rfl)) (fun _ _ _ _ _ => pts_nil) (fun _ _ _ _ _ => (pe_lc (own := [("k", 3)]) (g := gName 3) (tt := tYes) (by rfl) sc_Rooms___init__.nd (pi_range1 (by rfl) (T.free 52) (pa_cons pe_int pa_nil)) (blkOk_by (own := [("k", 3)]) (N := ["self", "many", "users", "k", "room", "user"]) (sc := { kind := .function, names := [(".0", .local), ("room", .local), ("range", .globalImplicit)], isGenerator := false, isCoroutine := false }) (by decide +kernel)) (fun _ _ _ _ _ => pg_name (i := 3) sc_Rooms___init__.nd rfl (Or.inl rfl)) (fun _ _ _ _ _ => pts_nil) (fun _ _ _ _ _ => pe_int)))) rfl) (pss_cons (ps_fld (pv 0) (pe_lc (own := [("user", 5)]) (g := gName 5) (tt := tYes) (by rfl) sc_Rooms___init__.nd (pi_range1 (by rfl) (T.free 52) (pa_cons (pv 2) pa_nil)) (blkOk_by (own := [("user", 5)]) (N := ["self", "many", "users", "k", "room", "user"]) (sc := defScope s_Rooms___init__) (by decide +kernel)) (fun _ _ _ _ _ => pg_name (i := 5) sc_Rooms___init__.nd rfl (Or.inl rfl)) (fun _ _ _ _ _ => pts_nil) (fun _ _ _ _ _ => (pe_lc (own := [("k", 3)]) (g := gName 3) (tt := tYes) (by rfl) sc_Rooms___init__.nd (pi_range1 (by rfl) (T.free 52) (pa_cons pe_int pa_nil)) (blkOk_by (own := [("k", 3)]) (N := ["self", "many", "users", "k", "room", "user"]) (sc := { kind := .function, names := [(".0", .local), ("user", .local), ("range", .globalImplicit)], isGenerator := false, isCoroutine := false }) (by decide +kernel)) (fun _ _ _ _ _ => pg_name (i := 3) sc_Rooms___init__.nd rfl (Or.inl rfl)) (fun _ _ _ _ _ => pts_nil) (fun _ _ _ _ _ => pe_int)))) rfl) (pss_cons (ps_fld (pv 0) pe_int rfl) (pss_one (ps_fld (pv 0) pe_int rfl)))))), ?_⟩
    have i0 : Ins K (CCk K).r p dp [] H := ⟨RT.cl, hp⟩
    refine q_fldN (nl_lcR (fun _ => V.non) (va_cons (v_var rfl) va_nil) (by omega) (fun _ => rfl) (fun i D acc hD hi => v_c)) (fun _ => v_var rfl) i0 (RT.no "guests" (by simp)) (by decide) (fun g H1 hg ng eg i1 f1 => ?_)
    refine q_fldR (rows := rowsZ m) (nr_range (va_cons (v_var rfl) va_nil) (by omega) (by unfold rowsZ; rw [List.length_replicate, Int.toNat_natCast]) (fun _ => rfl) (fun i r H' _ hr => by
        have e : r = (List.range (64 : Int).toNat).map (fun _ => V.int 0) := by
          have := List.mem_of_getElem? hr
          unfold rowsZ at this
          rw [(List.mem_replicate.mp this).2]; rfl
        rw [e]
        exact nl_lcR (fun _ => V.int 0) (va_cons v_c va_nil) ⟨by decide, by decide⟩ (fun _ => rfl) (fun i D acc hD hi => v_c))) (fun _ => v_var rfl) i1 (RT.no "kept" (by simp)) (by show 1 < 1000; decide) (fun kp ks H2 hk ndk lk ek eks i2 f2 => ?_)
    refine q_fldR (rows := rowsZ n) (nr_range (va_cons (v_var rfl) va_nil) (by omega) (by unfold rowsZ; rw [List.length_replicate, Int.toNat_natCast]) (fun _ => rfl) (fun i r H' _ hr => by
        have e : r = (List.range (64 : Int).toNat).map (fun _ => V.int 0) := by
          have := List.mem_of_getElem? hr
          unfold rowsZ at this
          rw [(List.mem_replicate.mp this).2]; rfl
        rw [e]
        exact nl_lcR (fun _ => V.int 0) (va_cons v_c va_nil) ⟨by decide, by decide⟩ (fun _ => rfl) (fun i D acc hD hi => v_c))) (fun _ => v_var rfl) i2 (RT.no "shelves" (by simp)) (by show 2 < 1000; decide) (fun sh ss H3 hh nds ls es ess i3 f3 => ?_)
    refine q_fldV v_c (v_var rfl) i3 (RT.no "turn" (by simp)) (by show 3 < 1000; decide) (fun H4 i4 f4 => ?_)
    refine s_fldV v_c (v_var rfl) i4 (RT.no "swaps" (by simp)) (by show 4 < 1000; decide) (fun H5 i5 f5 => ?_)
    have f15 : Fr [p] H1 H5 := f2.trans (f3.trans (f4.trans f5))
    have f25 : Fr [p] H2 H5 := f3.trans (f4.trans f5)
    have f35 : Fr [p] H3 H5 := f4.trans f5
    have hs2 : ∀ b ∈ sh :: ss, H1 b = none := fun b hb => f2.free i2 (hh b hb)
    have hs1 : ∀ b ∈ sh :: ss, H b = none := fun b hb => f1.free i1 (hs2 b hb)
    have hk1 : ∀ b ∈ kp :: ks, H b = none := fun b hb => f1.free i1 (hk b hb)
    have np : ∀ b, H b = none → b ≠ p := fun b hb e => by rw [e, hp] at hb; cases hb
    have al2 : ∀ b ∈ kp :: ks, H2 b ≠ none := fun b hb e => by
      rcases List.mem_cons.mp hb with rfl | hb
      · rw [ek] at e; cases e
      · obtain ⟨i, hi⟩ := List.getElem?_of_mem hb
        obtain ⟨_, _, z⟩ := eks i b hi
        rw [z] at e; cases e
    have ndA : ((kp :: ks) ++ (sh :: ss)).Nodup := disj_nd ndk nds al2 hh
    have ndB : (g :: ((kp :: ks) ++ (sh :: ss))).Nodup := nd_more (H := H1) eg (fun b hb => by
      rcases List.mem_append.mp hb with h1 | h1
      · exact hk b h1
      · exact hs2 b h1) ndA
    have ndC : (p :: (g :: ((kp :: ks) ++ (sh :: ss)))).Nodup := nd_more (H := H) hp (fun b hb => by
      rcases List.mem_cons.mp hb with h0 | hb
      · rw [h0]; exact hg
      rcases List.mem_append.mp hb with h1 | h1
      · exact hk1 b h1
      · exact hs1 b h1) ndB
    refine k g kp sh ks ss H5 (fun b hb => (by
      rcases List.mem_append.mp hb with h1 | h1
      · rcases List.mem_cons.mp h1 with h2 | h2
        · rw [h2]; exact hg
        · exact hk1 b h2
      · exact hs1 b h1)) ndC (by rw [lk]; unfold rowsZ; exact List.length_replicate) (by rw [ls]; unfold rowsZ; exact List.length_replicate) (i5.at_.trans (congrArg (fun z => some (HO.ins (CCk K).r dp z)) (by kernel_rfl))) ?_ (f25.one (np kp (hk1 kp List.mem_cons_self)) ek) (f25.rowsAt eks (fun b hb => np b (hk1 b (List.mem_cons_of_mem _ hb)))) (f35.one (np sh (hs1 sh List.mem_cons_self)) es) (f35.rowsAt ess (fun b hb => np b (hs1 b (List.mem_cons_of_mem _ hb)))) (f1.trans f15)
    rw [f15.one ng eg]
    have : (List.range ((m : Int)).toNat).map (fun _ => V.non) = List.replicate m V.non := by rw [Int.toNat_natCast, List.map_const', List.length_range]
    rw [this]
end
section
variable {P : Program} {w : World} {K : PySem.W.Frag} {mg : Str → Option Value} {base : Heap}

theorem sc_House___init__ : FnScope ["self", "users", "rooms", "quantum", "beat", "user", "k"] ["self", "users", "rooms", "quantum", "beat"] (defScope s_House___init__) := ⟨rfl, rfl, rfl, by decide +kernel, rfl, by decide +kernel, by decide +kernel⟩
theorem cal_House (T : Tx K mg) : CalC P w K mg base 6 "House" ["self", "users", "rooms", "quantum", "beat"] (spHouse (CCk K)) := by
  refine calC_mk T 54 94 96 rfl rfl rfl sc_House___init__ (fun _ _ _ _ _ _ us hl => match us, hl with | [_, _, _, _, _], _ => rfl) (fun vs H Q E h => ?_) (fun f cdv A outer s H vs Q E hr h => ?_)
  · obtain ⟨p, dp, n, m, q, b, rfl, hn, hm, hp, k⟩ := h
    rfl
  · obtain ⟨p, dp, n, m, q, b, rfl, hn, hm, hp, k⟩ := h
    have M := T.mt
    have U := T.pt
    have HT : HTx K (CCk K).h := T.ht
    have RT : RTx K (CCk K).r := T.rt
    refine ⟨_, (pss_cons (ps_fld (pv 0) (pe_lc (own := [("user", 5)]) (g := gName 5) (tt := tYes) (by rfl) sc_House___init__.nd (pi_range1 (by rfl) (T.free 52) (pa_cons (pv 1) pa_nil)) (blkOk_by (own := [("user", 5)]) (N := ["self", "users", "rooms", "quantum", "beat", "user", "k"]) (sc := defScope s_House___init__) (by decide +kernel)) (fun _ _ _ _ _ => pg_name (i := 5) sc_House___init__.nd rfl (Or.inl rfl)) (fun _ _ _ _ _ => pts_nil) (fun _ _ _ _ _ => (show PE _ _ (tMake (He.ga K "Person") _ [] E0 _) from pe_new (cal_Person (K := K) T) hr (by decide) rfl (pa_cons (pe_lc (own := [("k", 6)]) (g := gName 6) (tt := tYes) (by rfl) sc_House___init__.nd (pi_range1 (by rfl) (T.free 52) (pa_cons pe_int pa_nil)) (blkOk_by (own := [("k", 6)]) (N := ["self", "users", "rooms", "quantum", "beat", "user", "k"]) (sc := { kind := .function, names := [(".0", .local), ("user", .local), ("Person", .globalImplicit), ("range", .globalImplicit)], isGenerator := false, isCoroutine := false }) (by decide +kernel)) (fun _ _ _ _ _ => pg_name (i := 6) sc_House___init__.nd rfl (Or.inl rfl)) (fun _ _ _ _ _ => pts_nil) (fun _ _ _ _ _ => pe_int)) (pa_cons pe_int pa_nil))))) rfl) (pss_cons (ps_fld (pv 0) (show PE _ _ (tMake (He.ga K "Rooms") _ [] E0 _) from pe_new (cal_Rooms (K := K) T) hr (by decide) rfl (pa_cons (pv 2) (pa_cons (pv 1) pa_nil))) rfl) (pss_cons (ps_fld (pv 0) (pv 3) rfl) (pss_cons (ps_fld (pv 0) (pv 4) rfl) (pss_cons (ps_fld (pv 0) (pe_lc (own := [("user", 5)]) (g := gName 5) (tt := tYes) (by rfl) sc_House___init__.nd (pi_range1 (by rfl) (T.free 52) (pa_cons (pv 1) pa_nil)) (blkOk_by (own := [("user", 5)]) (N := ["self", "users", "rooms", "quantum", "beat", "user", "k"]) (sc := defScope s_House___init__) (by decide +kernel)) (fun _ _ _ _ _ => pg_name (i := 5) sc_House___init__.nd rfl (Or.inl rfl)) (fun _ _ _ _ _ => pts_nil) (fun _ _ _ _ _ => (pe_lst pa_nil))) rfl) (pss_cons (ps_fld (pv 0) pe_non rfl) (pss_cons (ps_fld (pv 0) (pe_lst pa_nil) rfl) (pss_cons (ps_fld (pv 0) pe_int rfl) (pss_cons (ps_fld (pv 0) pe_int rfl) (pss_cons (ps_fld (pv 0) pe_int rfl) (pss_cons (ps_fld (pv 0) pe_int rfl) (pss_cons (ps_fld (pv 0) pe_int rfl) (pss_one (ps_fld (pv 0) pe_int rfl)))))))))))))), ?_⟩
    have i0 : Ins K (CCk K).h p dp [] H := ⟨HT.cl, hp⟩
    refine q_fldPs (C := (CCk K).m) (Dp := (CCk K).p) (Ps := List.replicate n (newP zeros 0)) (nps_range (K := K) (va_cons (v_var rfl) va_nil) (by omega) (by rw [List.length_replicate, Int.toNat_natCast]) (fun _ => rfl) (fun i P hP => ?_)) (fun _ => v_var rfl) i0 (HT.no "people" (by simp)) (by decide) (fun D As H1 hD lA ndP frP alP eD hA i1 f1 => ?_)
    · have e : P = newP zeros 0 := (List.mem_replicate.mp (List.mem_of_getElem? hP)).2
      rw [e]
      refine newper (fun H2 s2 => ?_)
      have z : (List.range (64 : Int).toNat).map (fun _ => V.int 0) = zeros.map V.int := by rfl
      rw [← z]
      exact nl_lcR (fun _ => V.int 0) (va_cons v_c va_nil) ⟨by decide, by decide⟩ (fun _ => rfl) (fun i D acc hD hi => v_c)
    rw [List.length_replicate] at lA
    refine qx_fldC ((va_cons (v_var rfl) (va_cons (v_var rfl) va_nil)) _ (fun x dx nx nd ne => ⟨x, dx, m, n, rfl, hm, hn, upd_same, fun g kp sh ks ss H2 hfr ndR lk ls ex eg ek eks es ess f2 => ⟨rfl, ?_⟩⟩))
    have smx : Same H1 (upd (upd H1 dx (.own x)) x (.ins (CCk K).r dx [])) := smM (smN nd) nx
    have np : ∀ b, H b = none → b ≠ p := fun b hb e => by rw [e, hp] at hb; cases hb
    have nxp : x ≠ p := fun e => by rw [e, i1.at_] at nx; cases nx
    have sm12 : Same H1 H2 := fun b o e => f2 b o (by simp; exact ne_of_none e nx) (smx b o e)
    have hfr1 : ∀ b ∈ x :: ((g :: kp :: ks) ++ (sh :: ss)), H1 b = none := fun b hb => by
      rcases List.mem_cons.mp hb with h0 | hb
      · rw [h0]; exact nx
      · exact smx.free (hfr b hb)
    have np1 : ∀ b, H1 b = none → b ≠ p := fun b hb e => by rw [e, i1.at_] at hb; cases hb
    refine x_v (v_var rfl) ⟨p, (CCk K).h, dp, _, rfl, sm12 _ _ i1.at_, HT.cl, HT.no "places" (by simp), by show 1 < 1000; decide, ?_⟩
    have i3 : Ins K (CCk K).h p dp (putF "places" (.ref x) (putF "people" (.ref D) [])) (upd H2 p (.ins (CCk K).h dp (putF "places" (.ref x) (putF "people" (.ref D) [])))) := ⟨HT.cl, upd_same⟩
    have f13 : Fr [p] H1 (upd H2 p (.ins (CCk K).h dp (putF "places" (.ref x) (putF "people" (.ref D) [])))) := Fr.same1 sm12 (Fr.upd (by simp))
    have f23 : Fr [p] H2 (upd H2 p (.ins (CCk K).h dp (putF "places" (.ref x) (putF "people" (.ref D) [])))) := Fr.upd (by simp)
    generalize upd H2 p (.ins (CCk K).h dp (putF "places" (.ref x) (putF "people" (.ref D) []))) = H3 at i3 f13 f23 ⊢
    have allR : ∀ b ∈ x :: ((g :: kp :: ks) ++ (sh :: ss)), H2 b ≠ none := fun b hb e => by
      rcases List.mem_cons.mp hb with h0 | hb
      · rw [h0, ex] at e; cases e
      rcases List.mem_append.mp hb with hb | hb
      · rcases List.mem_cons.mp hb with h0 | hb
        · rw [h0, eg] at e; cases e
        rcases List.mem_cons.mp hb with h0 | hb
        · rw [h0, ek] at e; cases e
        obtain ⟨i, hi⟩ := List.getElem?_of_mem hb
        obtain ⟨_, _, z⟩ := eks i b hi
        rw [z] at e; cases e
      · rcases List.mem_cons.mp hb with h0 | hb
        · rw [h0, es] at e; cases e
        obtain ⟨i, hi⟩ := List.getElem?_of_mem hb
        obtain ⟨_, _, z⟩ := ess i b hi
        rw [z] at e; cases e
    refine q_fldV (v_var rfl) (v_var rfl) i3 (HT.no "quantum" (by simp)) (by show 2 < 1000; decide) (fun H4 i4 f4 => ?_)
    refine q_fldV (v_var rfl) (v_var rfl) i4 (HT.no "beat" (by simp)) (by show 3 < 1000; decide) (fun H5 i5 f5 => ?_)
    refine q_fldR (mk := HO.lst) (rows := List.replicate n []) (nr_range (va_cons (v_var rfl) va_nil) (by omega) (by rw [List.length_replicate, Int.toNat_natCast]) (fun _ => rfl) (fun i r H' _ hr => by
        have e : r = [] := (List.mem_replicate.mp (List.mem_of_getElem? hr)).2
        rw [e]
        exact nl_disp va_nil)) (fun _ => v_var rfl) i5 (HT.no "diaries" (by simp)) (by show 4 < 1000; decide) (fun dl ds H6 hdf ndD lD ed eds i6 f6 => ?_)
    refine q_fldV v_c (v_var rfl) i6 (HT.no "runs" (by simp)) (by show 5 < 1000; decide) (fun H7 i7 f7 => ?_)
    refine q_fldN (nl_disp va_nil) (fun _ => v_var rfl) i7 (HT.no "row" (by simp)) (by show 6 < 1000; decide) (fun rw H8 hrw nrw erw i8 f8 => ?_)
    refine q_fldV v_c (v_var rfl) i8 (HT.no "steps" (by simp)) (by show 7 < 1000; decide) (fun H9 i9 f9 => ?_)
    refine q_fldV v_c (v_var rfl) i9 (HT.no "idle" (by simp)) (by show 8 < 1000; decide) (fun H10 i10 f10 => ?_)
    refine q_fldV v_c (v_var rfl) i10 (HT.no "ticks" (by simp)) (by show 9 < 1000; decide) (fun H11 i11 f11 => ?_)
    refine q_fldV v_c (v_var rfl) i11 (HT.no "swaps" (by simp)) (by show 10 < 1000; decide) (fun H12 i12 f12 => ?_)
    refine q_fldV v_c (v_var rfl) i12 (HT.no "turn" (by simp)) (by show 11 < 1000; decide) (fun H13 i13 f13a => ?_)
    refine s_fldV v_c (v_var rfl) i13 (HT.no "left" (by simp)) (by show 12 < 1000; decide) (fun H14 i14 f14 => ?_)
    have f814 : Fr [p] H8 H14 := f9.trans (f10.trans (f11.trans (f12.trans (f13a.trans f14))))
    have f614 : Fr [p] H6 H14 := f7.trans (f8.trans f814)
    have f36 : Fr [p] H3 H6 := f4.trans (f5.trans f6)
    have f314 : Fr [p] H3 H14 := f36.trans f614
    have f214 : Fr [p] H2 H14 := f23.trans f314
    have f114 : Fr [p] H1 H14 := f13.trans f314
    have hd3 : ∀ b ∈ dl :: ds, H3 b = none := fun b hb => (f4.trans f5).free i5 (hdf b hb)
    have hd2 : ∀ b ∈ dl :: ds, H2 b = none := fun b hb => f23.free i3 (hd3 b hb)
    have hr6 : H6 rw = none := f7.free i7 hrw
    have hr3 : H3 rw = none := f36.free i6 hr6
    have hr2 : H2 rw = none := f23.free i3 hr3
    have n1 : ∀ b, H1 b ≠ none → H2 b ≠ none := fun b hb e => hb (sm12.free e)
    have ald : ∀ b ∈ dl :: ds, H6 b ≠ none := fun b hb e => by
      rcases List.mem_cons.mp hb with h0 | hb
      · rw [h0, ed] at e; cases e
      · obtain ⟨i, hi⟩ := List.getElem?_of_mem hb
        obtain ⟨_, _, z⟩ := eds i b hi
        rw [z] at e; cases e
    have ndd : ((dl :: ds) ++ [rw]).Nodup := disj_nd ndD (by simp) ald (fun b hb => by rw [List.mem_singleton.mp hb]; exact hr6)
    have fr2 : ∀ b ∈ (dl :: ds) ++ [rw], H2 b = none := fun b hb => by
      rcases List.mem_append.mp hb with h | h
      · exact hd2 b h
      · rw [List.mem_singleton.mp h]; exact hr2
    have ndr : ((x :: ((g :: kp :: ks) ++ (sh :: ss))) ++ ((dl :: ds) ++ [rw])).Nodup := disj_nd ndR ndd allR fr2
    have fr1 : ∀ b ∈ (x :: ((g :: kp :: ks) ++ (sh :: ss))) ++ ((dl :: ds) ++ [rw]), H1 b = none := fun b hb => by
      rcases List.mem_append.mp hb with h | h
      · exact hfr1 b h
      · exact sm12.free (fr2 b h)
    have ndq : ((D :: As.flatMap PA.f10) ++ ((x :: ((g :: kp :: ks) ++ (sh :: ss))) ++ ((dl :: ds) ++ [rw]))).Nodup := disj_nd ndP ndr alP fr1
    have fr0 : ∀ b ∈ (D :: As.flatMap PA.f10) ++ ((x :: ((g :: kp :: ks) ++ (sh :: ss))) ++ ((dl :: ds) ++ [rw])), H b = none := fun b hb => by
      rcases List.mem_append.mp hb with h | h
      · rcases List.mem_cons.mp h with h | h
        · rw [h]; exact hD
        · exact frP b h
      · exact f1.free i1 (fr1 b h)
    have ndz := nd_more (H := H) hp fr0 ndq
    obtain ⟨N, eN⟩ : ∃ N : NewA, N = ⟨p, dp, D, As, x, dx, g, kp, ks, sh, ss, dl, ds, rw⟩ := ⟨_, rfl⟩
    rw [List.length_replicate] at lD
    have em := N.map (n := n) (r := m) (by rw [eN]; exact lA) (by rw [eN]; exact lk) (by rw [eN]; exact ls) (by rw [eN]; exact lD)
    have ndN : ((slots n m).map N.ad).Nodup := by
      rw [em, eN]
      show (p :: ((D :: As.flatMap PA.f10) ++ ((x :: g :: kp :: ks) ++ ((sh :: ss) ++ ((dl :: ds) ++ [rw]))))).Nodup
      have e : (x :: ((g :: kp :: ks) ++ (sh :: ss))) ++ ((dl :: ds) ++ [rw]) = (x :: g :: kp :: ks) ++ ((sh :: ss) ++ ((dl :: ds) ++ [rw])) := by simp
      rw [← e]; exact ndz
    have hall : ∀ b ∈ (slots n m).map N.ad, b = p ∨ H b = none := fun b hb => by
      rw [em, eN] at hb
      have hb : b ∈ p :: ((D :: As.flatMap PA.f10) ++ ((x :: g :: kp :: ks) ++ ((sh :: ss) ++ ((dl :: ds) ++ [rw])))) := hb
      rcases List.mem_cons.mp hb with h | h
      · exact .inl h
      · refine .inr (fr0 b ?_)
        have e : (x :: ((g :: kp :: ks) ++ (sh :: ss))) ++ ((dl :: ds) ++ [rw]) = (x :: g :: kp :: ks) ++ ((sh :: ss) ++ ((dl :: ds) ++ [rw])) := by simp
        rw [e]; exact h
    have nR : ∀ b ∈ (g :: kp :: ks) ++ (sh :: ss), b ≠ p := fun b hb => np1 b (hfr1 b (List.mem_cons_of_mem _ hb))
    have nR2 : ∀ b ∈ kp :: ks, b ≠ p := fun b hb => nR b (List.mem_append_left _ (List.mem_cons_of_mem _ hb))
    have nR3 : ∀ b ∈ sh :: ss, b ≠ p := fun b hb => nR b (List.mem_append_right _ hb)
    have nd6 : ∀ b ∈ dl :: ds, b ≠ p := fun b hb e => by have := hd3 b hb; rw [e, i3.at_] at this; cases this
    have X : HoAt (CCk K) n m H14 (N.ha (fun _ => []) 0 0) (newH n m q b) := by
      refine N.house (by rw [eN]; exact lA) (by rw [eN]; exact lk) (by rw [eN]; exact ls) (by rw [eN]; exact lD) ndN ?_ ?_ ?_ ?_ ?_ ?_ ?_ ?_ ?_ ?_ ?_ ?_
      · rw [eN]; exact i14.at_.trans (congrArg (fun z => some (HO.ins (CCk K).h dp z)) (by kernel_rfl))
      · rw [eN]; exact f114.one (np D hD) eD
      · rw [eN]
        intro i A hi
        obtain ⟨P, e, hP, hnp⟩ := hA i A hi
        have eP : P = newP zeros 0 := (List.mem_replicate.mp (List.mem_of_getElem? e)).2
        rw [← eP]
        exact hP.loc fun z o hz e => f114.one (fun q => hnp (q ▸ hz)) e
      · rw [eN]; exact (f214.one nxp ex).trans (congrArg (fun z => some (HO.ins (CCk K).r dx z)) (by kernel_rfl))
      · rw [eN]; exact f214.one (nR g (by simp)) eg
      · rw [eN]; exact f214.one (nR2 kp List.mem_cons_self) ek
      · rw [eN]; exact f214.rowsAt eks (fun b hb => nR2 b (List.mem_cons_of_mem _ hb))
      · rw [eN]; exact f214.one (nR3 sh List.mem_cons_self) es
      · rw [eN]; exact f214.rowsAt ess (fun b hb => nR3 b (List.mem_cons_of_mem _ hb))
      · rw [eN]; exact f614.one (nd6 dl List.mem_cons_self) ed
      · rw [eN]; exact f614.rowsAt eds (fun b hb => nd6 b (List.mem_cons_of_mem _ hb))
      · rw [eN]; exact f814.one nrw erw
    refine k (N.ha (fun _ => []) 0 0) H14 (by rw [eN]; rfl) ⟨rfl, rfl⟩ (fun z hz => ?_) X (f1.trans f114)
    obtain ⟨s, hs, rfl⟩ := hz
    exact hall _ (List.mem_map.mpr ⟨s, slots_all hs, rfl⟩)
end
/-! ### the laws' houses -/
section
variable {K : PySem.W.Frag} {σ : L2.St} {H : Hp} {tA : TA} {n m : Nat} {q b : Int}
theorem x_house {Q : VK} (h : ValA tA σ H [.int (n : Int), .int (m : Int), .int q, .int b]) (hn : n ≤ 100) (hm : m ≤ 100) (k : ∀ A H', Syn A (newH n m q b) → (∀ z, footH n m A z → H z = none) → HoAt (CCk K) n m H' A (newH n m q b) → Same H H' → Q (.ref (A.ad .house)) H') : tMake (He.ga K "House") (spHouse (CCk K)) [] E0 tA σ H Q :=
  h _ fun x dx nx nd ne => by
    have sm : Same H (upd (upd H dx (.own x)) x (.ins (He.ga K "House") dx [])) := smM (smN nd) nx
    refine ⟨x, dx, n, m, q, b, rfl, hn, hm, upd_same, fun A H' e sy fr hx f => ⟨rfl, ?_⟩⟩
    rw [← e]
    refine k A H' sy (fun z hz => ?_) hx (fun z o ez => f z o (by simp; exact ne_of_none ez nx) (sm z o ez))
    rcases fr z hz with h1 | h1
    · rw [h1]; exact nx
    · exact sm.free h1
end
/-- the hall that a script tells -/
def hN (ns : List Int) : Int := if mixV (cellAt ns 2) 9479 7 = 3 then 8 else 1 + mixV (cellAt ns 0) 9941 5
def hR (ns : List Int) : Int := 1 + mixV (cellAt ns 1) 9931 (hN ns)
def hQ (ns : List Int) : Int := 1 + mixV (cellAt ns 2) 9929 4
def hB (ns : List Int) : Int := 1 + mixV (cellAt ns 3) 9923 6
def hallD (n r q b : Int) : PyData := .tuple [.int n, .int r, .int q, .int b]
theorem hN_in (ns : List Int) : 1 ≤ hN ns ∧ hN ns ≤ 8 := by
  have h0 := mixV_lo (c := cellAt ns 0) (p := 9941) (m := 5) (by decide)
  have h1 := mixV_hi (c := cellAt ns 0) (p := 9941) (m := 5) (by decide)
  unfold hN; split <;> omega
theorem hR_in (ns : List Int) : 1 ≤ hR ns ∧ hR ns ≤ hN ns := by
  have h := hN_in ns
  have h0 := mixV_lo (c := cellAt ns 1) (p := 9931) (m := hN ns) (by omega)
  have h1 := mixV_hi (c := cellAt ns 1) (p := 9931) (m := hN ns) (by omega)
  unfold hR; omega
theorem hQ_in (ns : List Int) : 1 ≤ hQ ns ∧ hQ ns ≤ 4 := by
  have h0 := mixV_lo (c := cellAt ns 2) (p := 9929) (m := 4) (by decide)
  have h1 := mixV_hi (c := cellAt ns 2) (p := 9929) (m := 4) (by decide)
  unfold hQ; omega
theorem hB_in (ns : List Int) : 1 ≤ hB ns ∧ hB ns ≤ 6 := by
  have h0 := mixV_lo (c := cellAt ns 3) (p := 9923) (m := 6) (by decide)
  have h1 := mixV_hi (c := cellAt ns 3) (p := 9923) (m := 6) (by decide)
  unfold hB; omega
def preHall (K : PySem.W.Frag) (vs : List V) (H : Hp) (F : FS) (_ : Hp → Prop) (d : PyData) : Prop := ∃ (a : Addr) (ns : List Int), vs = [.ref a] ∧ SF K H F a ns ∧ ns.length ≤ 63 ∧ d = hallD (hN ns) (hR ns) (hQ ns) (hB ns)
/-- users loaded one by one -/
def pS (ns : List Int) (u : Nat) : List Int := progV (cellAt ns (4 + (u : Int)))
def sS (ns : List Int) (u : Nat) : Int := mixV (cellAt ns (4 + (u : Int))) 9907 1024
def madeN (ns : List Int) (h : Ho) : Nat → Ho
  | 0 => h
  | i + 1 => switchT (loadT (madeN ns h i) i (pS ns i)) i (sS ns i)
def madeT (ns : List Int) (n r : Nat) (q b : Int) : Ho := madeN ns (newH n r q b) n
theorem sS_in (ns : List Int) (u : Nat) : 0 ≤ sS ns u ∧ sS ns u < 1024 := ⟨mixV_lo (by decide), mixV_hi (by decide)⟩
theorem wf_madeN {n r : Nat} {h : Ho} (w : WfH n r h) (ns : List Int) : ∀ i, i ≤ n → WfH n r (madeN ns h i)
  | 0, _ => w
  | i + 1, hi => by
    have w1 := wf_madeN w ns i (by omega)
    exact wf_switch (wf_load w1 (by omega) (progV_len _) (progV_in _)) (by omega) (sS_in ns i).1 (sS_in ns i).2
theorem lm_load {k u : Nat} {h : Ho} {cs : List Int} (w : Lm k h) : Lm k (loadT h u cs) := fun v => by
  refine ⟨?_, (w v).2⟩
  by_cases c : u < h.ps.length
  · by_cases e : u = v
    · subst e
      rw [show pu (loadT h u cs) u = { pu h u with m := { (pu h u).m with cells := cs } } from pu_set c]; exact (w u).1
    · rw [show pu (loadT h u cs) v = pu h v from pu_ne e]; exact (w v).1
  · rw [show loadT h u cs = h by unfold loadT; rw [List.set_eq_of_length_le (by omega)]]; exact (w v).1
theorem lm_sw {k u : Nat} {h : Ho} {s : Int} (w : Lm k h) : Lm k (switchT h u s) := fun v => by
  refine ⟨?_, (w v).2⟩
  by_cases c : u < h.ps.length
  · by_cases e : u = v
    · subst e
      rw [show pu (switchT h u s) u = { pu h u with sw := s } from pu_set c]; exact (w u).1
    · rw [show pu (switchT h u s) v = pu h v from pu_ne e]; exact (w v).1
  · rw [show switchT h u s = h by unfold switchT; rw [List.set_eq_of_length_le (by omega)]]; exact (w v).1
theorem lm_madeN {k : Nat} {h : Ho} (w : Lm k h) (ns : List Int) : ∀ i, Lm k (madeN ns h i)
  | 0 => w
  | i + 1 => lm_sw (lm_load (lm_madeN w ns i))
theorem syn_madeN {A : HA} {h : Ho} (s : Syn A h) (ns : List Int) : ∀ i, Syn A (madeN ns h i)
  | 0 => s
  | i + 1 => ⟨(syn_madeN s ns i).sw, (syn_madeN s ns i).tn⟩
/-- a new house beside a world -/
def spMade (K : PySem.W.Frag) : Sp := fun vs H Q _ => ∃ (F : FS) (W : Hp → Prop) (v : V) (a : Addr) (ns : List Int) (n r : Nat) (q b : Int), vs = [v, .ref a] ∧ Wo F W ∧ Ok F W H ∧ Da K H F v (hallD n r q b) ∧ SF K H F a ns ∧ 1 ≤ n ∧ n ≤ 8 ∧ 1 ≤ r ∧ r ≤ 8 ∧ 1 ≤ q ∧ 1 ≤ b ∧
  ∀ A H', Syn A (madeT ns n r q b) → HoAt (CCk K) n r H' A (madeT ns n r q b) → Mv F H (orF F (footH n r A)) H' → FA F H' → W H' → (∀ z, footH n r A z → H z = none ∧ ¬ F z) → Q (.ref (A.ad .house)) H'
/-! acts -/
inductive AK where
  | start | key | load | switches | run
structure Act where
  k : AK
  u : Nat
  v : Int
def AK.s : AK → Str
  | .start => "start"
  | .key => "key"
  | .load => "load"
  | .switches => "switches"
  | .run => "run"
def actD (a : Act) : PyData := .tuple [.str a.k.s, .int (a.u : Int), .int a.v]
def actOk (n : Nat) (a : Act) : Prop := a.u < n ∧ match a.k with
  | .start => 0 ≤ a.v ∧ a.v < 64
  | .key => 0 ≤ a.v ∧ a.v < 256
  | .load => True
  | .switches => 0 ≤ a.v ∧ a.v < 1024
  | .run => 0 ≤ a.v ∧ a.v < 9
def doT (h : Ho) (a : Act) : Ho := match a.k with
  | .start => startT h a.u a.v
  | .key => keyT h a.u a.v
  | .load => loadT h a.u (progV a.v)
  | .switches => switchT h a.u a.v
  | .run => runT h a.v.toNat
def actOf (n : Nat) (c : Int) : Act :=
  if mixV c 9883 8 = 0 then ⟨.start, (mixV c 9887 n).toNat, mixV c 9871 64⟩
  else if 5 < mixV c 9883 8 then ⟨if mixV c 9883 8 = 6 then .load else .switches, (mixV c 9887 n).toNat, mixV c 9853 1024⟩
  else if mixV c 9883 8 < 3 then ⟨.key, (mixV c 9887 n).toNat, mixV c 9859 256⟩
  else ⟨.run, 0, mixV c 9857 9⟩
def acts0 (ns : List Int) (n : Nat) : List Act := ((List.range n).filter fun (k : Nat) => decide (0 < mixV (cellAt ns (4 + (k : Int))) 9901 5)).map fun k => ⟨.start, k, 0⟩
def actsV (ns : List Int) (n : Nat) : List Act := acts0 ns n ++ ((ns.take 28).drop 12).map (actOf n)
theorem actOf_ok {n : Nat} (hn : 0 < n) (c : Int) : actOk n (actOf n c) := by
  have u0 := mixV_lo (c := c) (p := 9887) (m := (n : Int)) (by omega)
  have u1 := mixV_hi (c := c) (p := 9887) (m := (n : Int)) (by omega)
  have e : ∀ m, 0 < m → 0 ≤ mixV c 9871 m ∧ mixV c 9871 m < m := fun m h => ⟨mixV_lo h, mixV_hi h⟩
  have a := e 64 (by decide)
  have b0 := mixV_lo (c := c) (p := 9853) (m := 1024) (by decide)
  have b1 := mixV_hi (c := c) (p := 9853) (m := 1024) (by decide)
  have c0 := mixV_lo (c := c) (p := 9859) (m := 256) (by decide)
  have c1 := mixV_hi (c := c) (p := 9859) (m := 256) (by decide)
  have d0 := mixV_lo (c := c) (p := 9857) (m := 9) (by decide)
  have d1 := mixV_hi (c := c) (p := 9857) (m := 9) (by decide)
  unfold actOf
  split
  · exact ⟨by show (mixV c 9887 n).toNat < n; omega, a⟩
  split
  · refine ⟨by show (mixV c 9887 n).toNat < n; omega, ?_⟩
    split
    · rename_i h; dsimp only at h; split at h <;> cases h
    · rename_i h; dsimp only at h; split at h <;> cases h
    · trivial
    · exact ⟨b0, b1⟩
    · rename_i h; dsimp only at h; split at h <;> cases h
  split
  · exact ⟨by show (mixV c 9887 n).toNat < n; omega, c0, c1⟩
  · exact ⟨hn, d0, d1⟩
theorem actsV_ok {ns : List Int} {n : Nat} (hn : 0 < n) : ∀ a ∈ actsV ns n, actOk n a := by
  intro a ha
  rcases List.mem_append.mp ha with h | h
  · obtain ⟨k, hk, rfl⟩ := List.mem_map.mp h
    have := List.mem_range.mp (List.mem_filter.mp hk).1
    exact ⟨this, by show (0 : Int) ≤ 0 ∧ (0 : Int) < 64; decide⟩
  · obtain ⟨c, _, rfl⟩ := List.mem_map.mp h
    exact actOf_ok hn c
theorem actsV_len {ns : List Int} {n : Nat} (hn : n ≤ 8) : (actsV ns n).length ≤ 24 := by
  unfold actsV acts0
  rw [List.length_append, List.length_map, List.length_map, List.length_drop, List.length_take]
  have := List.length_filter_le (fun (k : Nat) => decide (0 < mixV (cellAt ns (4 + (k : Int))) 9901 5)) (List.range n)
  rw [List.length_range] at this
  omega
theorem sh_act {a : Act} : Sh 1 (actD a) := sh_tup (shA_cons (sh_str (by cases a.k <;> decide +kernel)) (shA_cons sh_int (shA_cons sh_int shA_nil)))
def preActs (K : PySem.W.Frag) (vs : List V) (H : Hp) (F : FS) (_ : Hp → Prop) (ds : List PyData) : Prop := ∃ (v : V) (a : Addr) (ns : List Int) (n : Nat) (r q b : Int), vs = [v, .ref a] ∧ Da K H F v (hallD n r q b) ∧ SF K H F a ns ∧ ns.length ≤ 63 ∧ 1 ≤ n ∧ n ≤ 8 ∧ ds = (actsV ns n).map actD
def spDo (K : PySem.W.Frag) : Sp := fun vs H Q _ => ∃ (F : FS) (n r : Nat) (A : HA) (h : Ho) (k : Nat) (v : V) (a : Act), vs = [.ref (A.ad .house), v] ∧ Da K H F v (actD a) ∧ HoAt (CCk K) n r H A h ∧ WfH n r h ∧ Lm k h ∧ k < 500000 ∧ n ≤ 8 ∧ Syn A h ∧ actOk n a ∧ HNy (CCk K) n r H A (doT h a) (Q .non)
theorem wf_do {n r : Nat} {h : Ho} {a : Act} (w : WfH n r h) (o : actOk n a) : WfH n r (doT h a) := by
  obtain ⟨ak, au, av⟩ := a
  obtain ⟨hu, hv⟩ := o
  cases ak
  · exact wf_start w hu hv
  · exact wf_key w hu hv
  · exact wf_load w hu (progV_len _) (progV_in _)
  · exact wf_switch w hu hv.1 hv.2
  · exact wf_runT w _
theorem lm_do {n r k : Nat} {h : Ho} {a : Act} (l : Lm k h) (w : WfH n r h) (o : actOk n a) (h8 : n ≤ 8) : Lm (k + 81) (doT h a) := by
  obtain ⟨ak, au, av⟩ := a
  obtain ⟨hu, hv⟩ := o
  have e1 : ∀ e, Lm (k + 1) (eventT h au e) := fun e => lm_event l (by rw [w.lp]; exact hu) (by rw [w.ld]; exact hu)
  cases ak
  · exact (lm_settle (e1 _)).mono (by omega)
  · exact (lm_settle (e1 _)).mono (by omega)
  · exact (lm_load l).mono (by omega)
  · exact (lm_sw l).mono (by omega)
  · have hv : 0 ≤ av ∧ av < 9 := hv
    exact (lm_run l w h8 av.toNat).mono (by omega)
def doN (h : Ho) (as : List Act) : Nat → Ho
  | 0 => h
  | i + 1 => match as[i]? with
    | some a => doT (doN h as i) a
    | none => doN h as i
theorem doN_s {h : Ho} {as : List Act} {i : Nat} {a : Act} (e : as[i]? = some a) : doN h as (i + 1) = doT (doN h as i) a := by
  show (match as[i]? with | some a => doT (doN h as i) a | none => doN h as i) = _
  rw [e]
theorem wf_doN {n r : Nat} {h : Ho} {as : List Act} (w : WfH n r h) (o : ∀ a ∈ as, actOk n a) : ∀ i, WfH n r (doN h as i)
  | 0 => w
  | i + 1 => by
    show WfH n r (match as[i]? with | some a => doT (doN h as i) a | none => doN h as i)
    cases e : as[i]? with
    | none => exact wf_doN w o i
    | some a => exact wf_do (wf_doN w o i) (o a (List.mem_of_getElem? e))
theorem lm_doN {n r k : Nat} {h : Ho} {as : List Act} (l : Lm k h) (w : WfH n r h) (o : ∀ a ∈ as, actOk n a) (h8 : n ≤ 8) : ∀ i, Lm (k + 81 * i) (doN h as i)
  | 0 => l
  | i + 1 => by
    show Lm _ (match as[i]? with | some a => doT (doN h as i) a | none => doN h as i)
    cases e : as[i]? with
    | none => exact (lm_doN l w o h8 i).mono (by omega)
    | some a => exact (lm_do (lm_doN l w o h8 i) (wf_doN w o i) (o a (List.mem_of_getElem? e)) h8).mono (by omega)
section
variable {c : CC} {n r : Nat} {H H' H1 : Hp} {A A' : HA} {h h' : Ho} {F F' : FS} {D : Addr} {o : HO} {W : Hp → Prop}
theorem woX : Wo (footH n r A) (fun H => HoAt c n r H A h) := ⟨fun _ _ k t x => x.loc k t⟩
theorem HoAt.tps (x : HoAt c n r H A h) (m : Mv (footH n r A) H F' H') : TpS H H' := fun b xs e => m.keep b _ (fun f => (x.noT b f).a _ e) e
theorem Mv.updFresh (m : Mv F H F' H1) (hD : H D = none) : Mv F H F' (upd H1 D o) := ⟨fun b u n e => by rw [upd_ne (fun q => by rw [q, hD] at e; cases e)]; exact m.keep b u n e, m.new⟩
theorem Mv.up (m : Mv F H F H') {G : FS} (g : ∀ b, F b → G b) : Mv G H G H' := ⟨fun b o n e => m.keep b o (fun f => n (g b f)) e, fun b f => .inl f⟩
theorem HoAt.updOut {vs : List V} (x : HoAt c n r H A h) (hD : H D = some (.lst vs)) (nD : ¬ footH n r A D) : HoAt c n r (upd H D o) A h := x.loc (fun b u f e => by rw [upd_ne (fun q => nD (by rw [← q]; exact f))]; exact e) (.upd hD)
theorem Wo.upd {vs : List V} (wo : Wo F W) (hD : H D = some (.lst vs)) (nD : ¬ F D) (w : W H) : W (upd H D o) := wo.loc _ _ (fun b u f e => by rw [upd_ne (fun q => nD (by rw [← q]; exact f))]; exact e) (.upd hD) w
/-- a world beside a house that changes -/
theorem Wo.beside (wo : Wo F W) (x : HoAt c n r H A h) (nF : ∀ z, footH n r A z → ¬ F z) (m : Mv (footH n r A) H F' H') (w : W H) : W H' := wo.loc _ _ (fun b o f e => m.keep b o (fun g => nF b g f) e) (x.tps m) w
theorem FA.mv (fa : FA F H) (m : Mv F' H F' H') (nF : ∀ z, F' z → ¬ F z) : FA F H' := fun b f e => by
  cases z : H b with
  | none => exact fa b f z
  | some o => rw [m.keep b o (fun g => nF b g f) z] at e; cases e
theorem FA.updFresh (fa : FA F H) : FA F (upd H D o) := fun b f e => by
  by_cases q : b = D
  · rw [q, upd_same] at e; cases e
  · rw [upd_ne q] at e; exact fa b f e
end
section
variable {K : PySem.W.Frag} {c : CC} {n r : Nat} {H H' : Hp} {A : HA} {h h' : Ho} {a : Addr} {xs : List V} {F' : FS}
/-- tuples stay, frozen ones too -/
def TpA' (H H' : Hp) : Prop := ∀ b o, NoTup H b ∨ (H b = some o → H' b = some o)
theorem HoAt.tpA (_ : HoAt c n r H' A h') (x : HoAt c n r H A h) (m : Mv (footH n r A) H F' H') : TpA' H H' := fun b o => (Classical.em (footH n r A b)).elim (fun f => .inl (x.noT b f)) (fun f => .inr (m.keep b o f))
theorem smTp (t : TpA' H H') (hq : SqT K H a xs) : SqT K H' a xs := by
  rcases hq with (e | ⟨o, e⟩) | e
  · exact .inl (.inl ((t a _).elim (fun z => absurd e (z.a _)) (fun z => z e)))
  · exact .inl (.inr ⟨o, (t a _).elim (fun z => absurd e (z.f _ _)) (fun z => z e)⟩)
  · exact .inr e
end
/-! what never changes; settled houses -/
section
variable {n r u : Nat} {h : Ho} {a : Act} {e : Ev}
def QB (h h' : Ho) : Prop := h'.quantum = h.quantum ∧ h'.beat = h.beat ∧ h'.ps.length = h.ps.length
theorem QB.trans {h1 h2 h3 : Ho} (a : QB h1 h2) (b : QB h2 h3) : QB h1 h3 := ⟨b.1.trans a.1, b.2.1.trans a.2.1, b.2.2.trans a.2.2⟩
theorem qb_event : QB h (eventT h u e) := ⟨event_same.quantum, event_same.beat, event_same.len⟩
theorem qb_settle : QB h (settleT h) := by
  unfold settleT
  split
  · exact ⟨rfl, rfl, rfl⟩
  · split
    · exact ⟨rfl, rfl, rfl⟩
    · exact ⟨enter_same.quantum, enter_same.beat, by rw [enter_same.ps]⟩
theorem qb_tickN : ∀ k, QB h (tickN h k)
  | 0 => ⟨rfl, rfl, rfl⟩
  | k + 1 => (qb_tickN k).trans qb_event
theorem qb_turn : QB h (turnT h) := by
  rcases runs_or h with hr | ⟨u, hr⟩
  · rw [turn_none hr]; exact ⟨rfl, rfl, rfl⟩
  · rw [turn_some hr]; split <;> exact ⟨rfl, rfl, rfl⟩
theorem qb_step1 : QB h (step1 h) := by
  rcases runs_or h with hr | ⟨u, hr⟩
  · rw [step1_none hr]; exact ⟨rfl, rfl, rfl⟩
  · rw [step1_some hr]
    have := qb_event (h := { h with steps := h.steps + 1 }) (u := u) (e := .step)
    exact this
theorem qb_step : QB h (stepT h) := by
  unfold stepT step2
  refine QB.trans ?_ qb_settle
  split
  · exact (qb_step1.trans (qb_tickN _)).trans qb_turn
  · exact qb_step1
theorem qb_run : ∀ k, QB h (runT h k)
  | 0 => ⟨rfl, rfl, rfl⟩
  | k + 1 => (qb_run k).trans qb_step
theorem qb_do : QB h (doT h a) := by
  obtain ⟨ak, au, av⟩ := a
  cases ak
  · exact (qb_event).trans qb_settle
  · exact (qb_event).trans qb_settle
  · exact ⟨rfl, rfl, List.length_set⟩
  · exact ⟨rfl, rfl, List.length_set⟩
  · exact qb_run _
theorem qb_doN {as : List Act} : ∀ i, QB h (doN h as i)
  | 0 => ⟨rfl, rfl, rfl⟩
  | i + 1 => by
    show QB h (match as[i]? with | some a => doT (doN h as i) a | none => doN h as i)
    cases e : as[i]? with
    | none => exact qb_doN i
    | some a => exact (qb_doN i).trans qb_do
theorem qb_madeN {ns : List Int} : ∀ i, QB h (madeN ns h i)
  | 0 => ⟨rfl, rfl, rfl⟩
  | i + 1 => (qb_madeN i).trans ⟨rfl, rfl, by show (List.set _ _ _).length = _; rw [List.length_set]; show (List.set _ _ _).length = _; rw [List.length_set]⟩
/-- none runs: the row is empty -/
def Sd (h : Ho) : Prop := h.runs = none → h.row = []
theorem sd_run (w : WfH n r h) (s : Sd h) : ∀ k, Sd (runT h k)
  | 0 => s
  | k + 1 => by
    have w1 := wf_runT w k
    show Sd (settleT (step2 (runT h k)))
    refine settled (n := n) (r := r) ?_
    unfold step2
    split
    · exact wf_tick (wf_step1 w1)
    · exact wf_step1 w1
theorem sd_do (w : WfH n r h) (s : Sd h) (o : actOk n a) : Sd (doT h a) := by
  obtain ⟨ak, au, av⟩ := a
  obtain ⟨hu, hv⟩ := o
  cases ak
  · exact settled (wf_event w hu hv (fun z => by cases z))
  · exact settled (wf_event w hu hv (fun z => by cases z))
  · exact s
  · exact s
  · exact sd_run w s _
theorem sd_doN {as : List Act} (w : WfH n r h) (s : Sd h) (o : ∀ a ∈ as, actOk n a) : ∀ i, Sd (doN h as i)
  | 0 => s
  | i + 1 => by
    show Sd (match as[i]? with | some a => doT (doN h as i) a | none => doN h as i)
    cases e : as[i]? with
    | none => exact sd_doN w s o i
    | some a => exact sd_do (wf_doN w o i) (sd_doN w s o i) (o a (List.mem_of_getElem? e))
theorem runs_madeN {ns : List Int} : ∀ i, (madeN ns h i).runs = h.runs ∧ (madeN ns h i).row = h.row
  | 0 => ⟨rfl, rfl⟩
  | i + 1 => runs_madeN i
theorem sd_made {ns : List Int} {n r : Nat} {q b : Int} : Sd (madeT ns n r q b) ∧ (madeT ns n r q b).runs = none := by
  have e := runs_madeN (ns := ns) (h := newH n r q b) n
  exact ⟨fun _ => e.2, e.1⟩
end
section
variable {P : Program} {w : World} {K : PySem.W.Frag} {mg : Str → Option Value} {base : Heap}
end
/-! ### comprehensions whose tests move the heap -/
section
variable {K : PySem.W.Frag} {H H' : Hp} {F F1 : FS} {W : Hp → Prop} {σ : L2.St} {te ta tb tl : TE} {tA : TA} {v : V} {d e : PyData} {ds es : List PyData} {n : Nat} {c b : Bool} {t u tt : TT}
def AnsM (F : FS) (W : Hp → Prop) (t : TT) (σ : L2.St) (H : Hp) (c : Bool) : Prop := ∀ H1, Mv F H F H1 → Ok F W H1 → ∀ Q : Bool → Hp → Prop, (∀ H2, Mv F H1 F H2 → Ok F W H2 → Q c H2) → t σ H1 Q
theorem AnsM.mv (h : AnsM F W t σ H c) (m : Mv F H F H') : AnsM F W t σ H' c := fun H1 m1 => h H1 (m.trans m1)
theorem am_a (h : ∀ H1, Mv F H F H1 → Ok F W H1 → Ans t σ H1 c) : AnsM F W t σ H c := fun H1 m1 o1 _ q => h H1 m1 o1 _ (q H1 .refl o1)
theorem am_and (h1 : AnsM F W t σ H b) (h2 : b = true → AnsM F W u σ H c) : AnsM F W (tAnd t u) σ H (b && c) := fun H1 m o Q q => x_and (h1 H1 m o _ fun H2 m2 o2 => by
  cases b with
  | true => exact iteT (h2 rfl H2 (m.trans m2) o2 _ fun H3 m3 o3 => q H3 (m2.trans m3) o3)
  | false => exact iteF (q H2 m2 o2))
theorem am_or (h1 : AnsM F W t σ H b) (h2 : b = false → AnsM F W u σ H c) : AnsM F W (tOr t u) σ H (b || c) := fun H1 m o Q q => x_or (h1 H1 m o _ fun H2 m2 o2 => by
  cases b with
  | true => exact iteT (q H2 m2 o2)
  | false => exact iteF (h2 rfl H2 (m.trans m2) o2 _ fun H3 m3 o3 => q H3 (m2.trans m3) o3))
theorem am_not (h1 : AnsM F W t σ H b) : AnsM F W (tNot t) σ H (!b) := fun H1 m o Q q => x_not (h1 H1 m o _ q)
theorem am_eqD (ha : Dv K F W ta σ H d) (hb : Dv K F W tb σ H e) (sd : SeqAt.shaped d = true) (se : SeqAt.shaped e = true) : AnsM F W (tTest (tOp (rEqD K) ta tb)) σ H (PyData.eqv d e) := fun H1 m o Q q => by
  exact x_eqD o (ha.mv m) (hb.mv m) sd se (fun H2 m2 o2 => ⟨_, rfl, q H2 m2 o2⟩)
theorem am_neD (ha : Dv K F W ta σ H d) (hb : Dv K F W tb σ H e) (sd : SeqAt.shaped d = true) (se : SeqAt.shaped e = true) : AnsM F W (tTest (tOp (rNeD K) ta tb)) σ H (!PyData.eqv d e) := fun H1 m o Q q => by
  exact x_neD o (ha.mv m) (hb.mv m) sd se (fun H2 m2 o2 => ⟨_, rfl, q H2 m2 o2⟩)
theorem x_am {Q : Bool → Hp → Prop} (h : AnsM F W t σ H c) (o : Ok F W H) (q : ∀ H2, Mv F H F H2 → Ok F W H2 → Q c H2) : t σ H Q := h H .refl o Q q
theorem LcI.stepM {D : Addr} {rs : List PyData} {σ' : L2.St} (wo : Wo F W) (o : Ok F W H) (hD : H D = none) (hn : n < 100000) (iv : LcI K W H F D n rs H') (ht : AnsM (withF F D) (fun H => W H ∧ H' D = H D) tt σ' H' c) (he : c = true → Dv K (withF F D) (fun H => W H ∧ H' D = H D) te σ' H' d) :
    tt σ' H' fun b H3 => if b = true then te σ' H3 fun y H4 => ∃ acc, H4 D = some (.lst acc) ∧ acc.length < sizeLine ∧ LcI K W H F D (n + 1) (if c = true then rs ++ [d] else rs) (upd H4 D (.lst (acc ++ [y]))) else LcI K W H F D (n + 1) (if c = true then rs ++ [d] else rs) H3 := by
  obtain ⟨ys, hl, hz, hys⟩ := iv.ex
  refine ht H' .refl ⟨iv.ok.fa, iv.ok.w, rfl⟩ _ fun H0 m0 o0 => ?_
  cases c with
  | true =>
    refine iteT (he rfl H0 m0 o0 _ (fun y H3 m5 o5 hy => ⟨ys, by rw [← o5.w.2]; exact hl, ?_, ?_⟩))
    · exact Nat.lt_of_lt_of_le (show ys.length < 100000 by omega) (by rw [sizeLine_eq]; decide)
    · rw [if_pos rfl]
      have nF : ¬ F D := o.fa.no hD
      have mv : Mv (withF F D) H3 (withF F D) (upd H3 D (.lst (ys ++ [y]))) := ⟨fun b o nb e => by rw [upd_ne (fun q => nb (.inr q))]; exact e, fun _ f => .inl f⟩
      refine ⟨((iv.mv.trans m0).trans m5).trans mv, ⟨fun b f => ?_, wo.loc _ _ (fun b o f e => by rw [upd_ne (fun q => nF (by rw [← q]; exact f))]; exact e) (.upd (o5.w.2.symm.trans hl)) o5.w.1⟩, ys ++ [y], upd_same, by rw [List.length_append]; simp; omega, (((hys.mv m0).mv m5).app (.cons hy .nil)).mv mv⟩
      by_cases e : b = D
      · subst e; rw [upd_same]; exact fun e => by cases e
      · rw [upd_ne e]; exact o5.fa b f
  | false =>
    refine iteF ?_
    rw [if_neg Bool.false_ne_true]
    exact ⟨iv.mv.trans m0, ⟨o0.fa, o0.w.1⟩, ys, o0.w.2.symm.trans hl, by omega, hys.mv m0⟩
theorem dn_lcLm {k : Nat} {ws : List Nat} (p : PyData → Bool) (f : PyData → PyData) (wo : Wo F W) (h : Dv K F W tl σ H (.list ds)) (hn : ds.length ≤ 100000) (hw : ∀ x, wipe ((wipe σ ws).set k (some x)) ws = wipe σ ws)
    (ht : ∀ (i : Nat) (x : V) (d : PyData) (H1 : Hp) (F1 : FS) (W1 : Hp → Prop), Tn F W H F1 W1 H1 → ds[i]? = some d → Da K H1 F1 x d → AnsM F1 W1 tt ((wipe σ ws).set k (some x)) H1 (p d))
    (he : ∀ (i : Nat) (x : V) (d : PyData) (H1 : Hp) (F1 : FS) (W1 : Hp → Prop), Tn F W H F1 W1 H1 → ds[i]? = some d → Da K H1 F1 x d → p d = true → Dv K F1 W1 te ((wipe σ ws).set k (some x)) H1 (f d)) : DvN K F W (tLc (iList K tl) (gName k) tt te ws) σ H (fmD p f ds) := fun H1 m o Q q =>
  h H1 m o _ fun v H2 m2 o2 hv => by
    cases hv with | @lst a xs _ h3 h4 =>
    refine ⟨a, rfl, ⟨xs, SqL.of h3.at_⟩, fun D hD => lc_list (xs := xs) (fun m H' => LcI K W H2 F D m (fmD p f (ds.take m)) H') (by rw [List.take_zero]; exact lci_0 wo o2 hD) (fun m H' _ e => SqL.of ((h3.mv e.mv).at_)) (fun i x H' hm e => ?_) (fun H' e => ?_)⟩
    · have tn := e.tn (m.trans m2) wo (o2.fa.no hD)
      obtain ⟨d, hd, hx⟩ := (h4.mv e.mv).getV _ hm
      refine ⟨hw _, ?_⟩
      rw [fmD_take hd]
      have hlt := (List.getElem?_eq_some_iff.mp hd).1
      exact e.stepM wo o2 hD (by omega) (ht i x d H' _ _ tn hd hx) (he i x d H' _ _ tn hd hx)
    · rw [h4.len, List.take_length] at e
      obtain ⟨r1, r2, r3⟩ := e.done
      exact q _ _ (o2.free m2 hD) (m2.trans r1) r2 r3
theorem dv_lcLm {k : Nat} {ws : List Nat} (p : PyData → Bool) (f : PyData → PyData) (wo : Wo F W) (h : Dv K F W tl σ H (.list ds)) (hn : ds.length ≤ 100000) (hw : ∀ x, wipe ((wipe σ ws).set k (some x)) ws = wipe σ ws)
    (ht : ∀ (i : Nat) (x : V) (d : PyData) (H1 : Hp) (F1 : FS) (W1 : Hp → Prop), Tn F W H F1 W1 H1 → ds[i]? = some d → Da K H1 F1 x d → AnsM F1 W1 tt ((wipe σ ws).set k (some x)) H1 (p d))
    (he : ∀ (i : Nat) (x : V) (d : PyData) (H1 : Hp) (F1 : FS) (W1 : Hp → Prop), Tn F W H F1 W1 H1 → ds[i]? = some d → Da K H1 F1 x d → p d = true → Dv K F1 W1 te ((wipe σ ws).set k (some x)) H1 (f d)) : Dv K F W (tLc (iList K tl) (gName k) tt te ws) σ H (.list (fmD p f ds)) := (dn_lcLm p f wo h hn hw ht he).dv
/-- the length of a list that a reading gives -/
theorem x_lenM {Q : VK} (o : Ok F W H) (h : Dv K F W ta σ H (.list ds)) (q : ∀ H', Mv F H F H' → Ok F W H' → Q (.int (ds.length : Int)) H') : tCB (rLenQ K) (tCons ta tNil) σ H Q :=
  h H .refl o _ fun v H' m o' hv => by
    cases hv with | @lst a xs _ h3 h4 => exact ⟨a, xs, rfl, .inl (SqL.of h3.at_), by rw [h4.len]; exact q H' m o'⟩
theorem x_sumM {ns : List Int} {Q : VK} (o : Ok F W H) (h : Dv K F W ta σ H (.list (ns.map PyData.int))) (q : ∀ H', Mv F H F H' → Ok F W H' → Q (.int ns.sum) H') : tCB (rSum K) (tCons ta tNil) σ H Q :=
  h H .refl o _ fun v H' m o' hv => by
    cases hv with | @lst a xs _ h3 h4 =>
    have e := h4.ints
    subst e
    exact ⟨a, ns, rfl, SqL.of h3.at_, q H' m o'⟩
/-- comprehensions over a list of what data tells -/
theorem dn_lcG {α : Type} (as : List α) (g : α → PyData) {k : Nat} {ws : List Nat} (p : α → Bool) (f : α → PyData) (wo : Wo F W) (h : Dv K F W tl σ H (.list (as.map g))) (hn : as.length ≤ 100000) (hw : ∀ x, wipe ((wipe σ ws).set k (some x)) ws = wipe σ ws)
    (ht : ∀ (i : Nat) (x : V) (a : α) (H1 : Hp) (F1 : FS) (W1 : Hp → Prop), Tn F W H F1 W1 H1 → as[i]? = some a → Da K H1 F1 x (g a) → AnsM F1 W1 tt ((wipe σ ws).set k (some x)) H1 (p a))
    (he : ∀ (i : Nat) (x : V) (a : α) (H1 : Hp) (F1 : FS) (W1 : Hp → Prop), Tn F W H F1 W1 H1 → as[i]? = some a → Da K H1 F1 x (g a) → p a = true → Dv K F1 W1 te ((wipe σ ws).set k (some x)) H1 (f a)) : DvN K F W (tLc (iList K tl) (gName k) tt te ws) σ H (fmD p f as) := fun H1 m o Q q =>
  h H1 m o _ fun v H2 m2 o2 hv => by
    cases hv with | @lst a xs _ h3 h4 =>
    refine ⟨a, rfl, ⟨xs, SqL.of h3.at_⟩, fun D hD => lc_list (xs := xs) (fun m H' => LcI K W H2 F D m (fmD p f (as.take m)) H') (by rw [List.take_zero]; exact lci_0 wo o2 hD) (fun m H' _ e => SqL.of ((h3.mv e.mv).at_)) (fun i x H' hm e => ?_) (fun H' e => ?_)⟩
    · have tn := e.tn (m.trans m2) wo (o2.fa.no hD)
      obtain ⟨d, hd, hx⟩ := (h4.mv e.mv).getV _ hm
      rw [List.getElem?_map] at hd
      obtain ⟨a, ha, rfl⟩ := Option.map_eq_some_iff.mp hd
      refine ⟨hw _, ?_⟩
      rw [fmD_take ha]
      have hlt := (List.getElem?_eq_some_iff.mp ha).1
      exact e.stepM wo o2 hD (by omega) (ht i x a H' _ _ tn ha hx) (he i x a H' _ _ tn ha hx)
    · rw [h4.len, List.length_map, List.take_length] at e
      obtain ⟨r1, r2, r3⟩ := e.done
      exact q _ _ (o2.free m2 hD) (m2.trans r1) r2 r3
theorem Own.mvv {H0 : Hp} {D : Addr} (ow : Own K H0 F W D H ds) (m : Mv F H F H') (o : Ok F W H') : Own K H0 F W D H' ds := by
  obtain ⟨vs, e1, e2⟩ := ow.ow
  exact ⟨ow.fr, ow.no, ow.mv.trans m, o, vs, m.keep D _ ow.no e1, e2.mv ⟨fun b o n e => m.keep b o (fun f => n (.inl f)) e, fun b f => .inl f⟩⟩
theorem AnsM.eq (h : AnsM F W t σ H c) (e : c = b) : AnsM F W t σ H b := e ▸ h
theorem am_t (h : ∀ H1, Mv F H F H1 → Ok F W H1 → Val te σ H1 (.bl c)) : AnsM F W (tTest te) σ H c := am_a fun H1 m o => a_t (h H1 m o)
theorem am_neS (ha : Dv K F W ta σ H d) (hb : Dv K F W tb σ H d) (sd : Sh n d) (hn : n ≤ 64 := by decide) : AnsM F W (tTest (tOp (rNeD K) ta tb)) σ H false := (am_neD ha hb (sd.shaped hn) (sd.shaped hn)).eq (by rw [sd.refl]; rfl)
theorem am_eqS (ha : Dv K F W ta σ H d) (hb : Dv K F W tb σ H d) (sd : Sh n d) (hn : n ≤ 64 := by decide) : AnsM F W (tTest (tOp (rEqD K) ta tb)) σ H true := (am_eqD ha hb (sd.shaped hn) (sd.shaped hn)).eq sd.refl
end
section
variable {K : PySem.W.Frag} {H H' : Hp} {F F1 : FS} {W : Hp → Prop} {σ : L2.St} {te ta tb tl : TE} {t : TT} {t1 : TS} {N : L2.St → Hp → Prop} {R : VK} {B C' : L2.St → Hp → Prop} {tz : TS} {b : Bool}
theorem q_ifFM (h : AnsM F W t σ H b) (e : b = false) (o : Ok F W H) (q : ∀ H2, Mv F H F H2 → Ok F W H2 → tz ⟨N, R, B, C'⟩ σ H2) : tSeq (tIfS t t1 tNext) tz ⟨N, R, B, C'⟩ σ H := qx_if (x_am h o fun H2 m o2 => by rw [e]; exact iteF (s_next (q H2 m o2)))
theorem s_ifFM (h : AnsM F W t σ H b) (e : b = false) (o : Ok F W H) (q : ∀ H2, Mv F H F H2 → Ok F W H2 → N σ H2) : tIfS t t1 tNext ⟨N, R, B, C'⟩ σ H := sx_if (x_am h o fun H2 m o2 => by rw [e]; exact iteF (s_next (q H2 m o2)))
end
/-! ### comprehensions over pairs -/
section
variable {K : PySem.W.Frag} {H H' H2 : Hp} {F F1 : FS} {W : Hp → Prop} {σ : L2.St} {te ta tb tl : TE} {tA : TA} {v : V} {d e : PyData} {ds es rs : List PyData} {n : Nat} {a D : Addr} {xs : List V}
theorem LcI.sameH (iv : LcI K W H F D n rs H') (wo : Wo F W) (s : Same H' H2) : LcI K W H F D n rs H2 := by
  obtain ⟨ys, hl, hz, hys⟩ := iv.ex
  exact ⟨iv.mv.trans (.same s), ⟨iv.ok.fa.same s, wo.loc _ _ (fun b o _ => s b o) (.same s) iv.ok.w⟩, ys, s _ _ hl, hz, hys.same s⟩
/-- [e for k, x in enumerate(a list of the world)] -/
theorem dn_lcE {k j : Nat} {ws : List Nat} (rs : List PyData) (wo : Wo F W) (h : ∀ H1, Mv F H F H1 → Ok F W H1 → ValA tA σ H1 [.ref a]) (hs : ∀ H1, W H1 → SqL K H1 a xs) (hl : rs.length = xs.length) (hn : xs.length ≤ 100000) (hw : ∀ x y, wipe (((wipe σ ws).set k (some x)).set j (some y)) ws = wipe σ ws)
    (he : ∀ (i : Nat) (x : V) (d : PyData) (H1 : Hp) (F1 : FS) (W1 : Hp → Prop), Tn F W H F1 W1 H1 → xs[i]? = some x → rs[i]? = some d → Dv K F1 W1 te (((wipe σ ws).set k (some (.int (i : Int)))).set j (some x)) H1 d) : DvN K F W (tLc (iEnum K tA) (gTup K 2 (gCons (gName k) (gCons (gName j) gNil))) tYes te ws) σ H rs := fun H1 m o Q q =>
  h H1 m o _ ⟨a, xs, rfl, hs _ o.w, fun D hD => lc_it (walk_enum (xs := xs)) (fun m H' => LcI K W H1 F D m (fmD (fun _ => true) (fun x => x) (rs.take m)) H') (by rw [List.take_zero]; exact lci_0 wo o hD) (fun m H' _ e => hs _ e.ok.w) (fun i x H1' H' hm e y => by
    obtain ⟨T, u, x, rfl, hT, rfl, hu, hx⟩ := y
    cases hu
    have e := e.sameH wo (smN (o := .tup [V.int (i : Int), x]) hT)
    have tn := e.tn m wo (o.fa.no hD)
    have hlt := (List.getElem?_eq_some_iff.mp hx).1
    have hd : rs[i]? = some rs[i] := List.getElem?_eq_getElem (by omega)
    refine ⟨T, _, rfl, SqT.of upd_same, rfl, _, _, rfl, _, _, rfl, rfl, hw _ _, ?_⟩
    rw [fmD_take hd]
    exact e.step wo o hD (by omega) ans_yes (fun _ => he i x _ _ _ _ tn hx hd)) (fun H' e => by
    rw [← hl, List.take_length, fmD_eq] at e
    obtain ⟨r1, r2, r3⟩ := e.done
    exact q _ _ hD r1 r2 r3)⟩
theorem da_pair {x : V} {d1 d2 : PyData} (h : Da K H F x (.tuple [d1, d2])) : ∃ T v1 v2, x = .ref T ∧ SqT K H T [v1, v2] ∧ Da K H F v1 d1 ∧ Da K H F v2 d2 := by
  cases h with | @tup T xs _ ht h2 =>
  cases h2 with | cons z1 h2 => cases h2 with | cons z2 h2 => cases h2; exact ⟨_, _, _, rfl, ht.sq, z1, z2⟩
/-- [e for k, x in pairs] -/
theorem dn_lcP {α : Type} (as : List α) (d1 d2 : α → PyData) {k j : Nat} {ws : List Nat} (f : α → PyData) (wo : Wo F W) (h : Dv K F W tl σ H (.list (as.map fun a => .tuple [d1 a, d2 a]))) (hn : as.length ≤ 100000) (hw : ∀ x y, wipe (((wipe σ ws).set k (some x)).set j (some y)) ws = wipe σ ws)
    (he : ∀ (i : Nat) (a : α) (x y : V) (H1 : Hp) (F1 : FS) (W1 : Hp → Prop), Tn F W H F1 W1 H1 → as[i]? = some a → Da K H1 F1 x (d1 a) → Da K H1 F1 y (d2 a) → Dv K F1 W1 te (((wipe σ ws).set k (some x)).set j (some y)) H1 (f a)) : DvN K F W (tLc (iList K tl) (gTup K 2 (gCons (gName k) (gCons (gName j) gNil))) tYes te ws) σ H (as.map f) := fun H1 m o Q q =>
  h H1 m o _ fun v H2 m2 o2 hv => by
    cases hv with | @lst a xs _ h3 h4 =>
    refine ⟨a, rfl, ⟨xs, SqL.of h3.at_⟩, fun D hD => lc_list (xs := xs) (fun m H' => LcI K W H2 F D m (fmD (fun _ => true) f (as.take m)) H') (by rw [List.take_zero]; exact lci_0 wo o2 hD) (fun m H' _ e => SqL.of ((h3.mv e.mv).at_)) (fun i x H' hm e => ?_) (fun H' e => ?_)⟩
    · have tn := e.tn (m.trans m2) wo (o2.fa.no hD)
      obtain ⟨d, hd, hx⟩ := (h4.mv e.mv).getV _ hm
      rw [List.getElem?_map] at hd
      obtain ⟨a, ha, rfl⟩ := Option.map_eq_some_iff.mp hd
      obtain ⟨T, v1, v2, rfl, sq, z1, z2⟩ := da_pair hx
      have hlt := (List.getElem?_eq_some_iff.mp ha).1
      refine ⟨T, _, rfl, sq, rfl, _, _, rfl, _, _, rfl, rfl, hw _ _, ?_⟩
      rw [fmD_take ha]
      exact e.step wo o2 hD (by omega) ans_yes (fun _ => he i a v1 v2 H' _ _ tn ha z1 z2)
    · rw [h4.len, List.length_map, List.take_length, fmD_all] at e
      obtain ⟨r1, r2, r3⟩ := e.done
      exact q _ _ (o2.free m2 hD) (m2.trans r1) r2 r3
end
section
variable {σ : L2.St} {H : Hp} {K : PySem.W.Frag} {tA : TA} {tb tz : TS} {N : L2.St → Hp → Prop} {R : VK} {B C' : L2.St → Hp → Prop} {k : Nat} {lo n : Int} {ta ty td : TE} {a : Addr} {kvs : List (Key × V)} {z : Int}
theorem s_forR2' (h : ValA tA σ H [.int lo, .int n]) (hb : 0 ≤ lo ∧ lo ≤ 100000 ∧ -100000 ≤ n ∧ n ≤ 100000) (Pv : Nat → L2.St → Hp → Prop) (h0 : Pv 0 σ H)
    (hs : ∀ (i : Nat) σ' H', lo + (i : Int) < n → Pv i σ' H' → tb ⟨Pv (i + 1), R, N, Pv (i + 1)⟩ (σ'.set k (some (.int (lo + (i : Int))))) H') (hd : ∀ σ' H', Pv (n - lo).toNat σ' H' → N σ' H') : tFor (iRng2 tA) (gName k) tb ⟨N, R, B, C'⟩ σ H :=
  h _ ⟨lo, n, rfl, ⟨by omega, by omega, by omega, by omega⟩, for_range (lo := lo) (n := (n - lo).toNat) (D := ⟨N, R, B, C'⟩) Pv h0 (fun i σ' H' hi p => hs i σ' H' (by omega) p) hd⟩
theorem q_forR2' (h : ValA tA σ H [.int lo, .int n]) (hb : 0 ≤ lo ∧ lo ≤ 100000 ∧ -100000 ≤ n ∧ n ≤ 100000) (Pv : Nat → L2.St → Hp → Prop) (h0 : Pv 0 σ H)
    (hs : ∀ (i : Nat) σ' H', lo + (i : Int) < n → Pv i σ' H' → tb ⟨Pv (i + 1), R, tz ⟨N, R, B, C'⟩, Pv (i + 1)⟩ (σ'.set k (some (.int (lo + (i : Int))))) H') (hd : ∀ σ' H', Pv (n - lo).toNat σ' H' → tz ⟨N, R, B, C'⟩ σ' H') : tSeq (tFor (iRng2 tA) (gName k) tb) tz ⟨N, R, B, C'⟩ σ H :=
  s_forR2' (N := tz ⟨N, R, B, C'⟩) (B := B) (C' := C') h hb Pv h0 hs hd
theorem v_dnin (hy : Val ty σ H (.int z)) (hd : Val td σ H (.ref a)) (ha : H a = some (.dK kvs)) : Val (tDNotIn ty td) σ H (.bl (!(valV kvs (Sum.inl z : Key)).isSome)) := fun Q q =>
  hy _ (hd _ ⟨a, _, rfl, DGet.k (k := Sum.inl z) ha, q⟩)
theorem s_dputI {tv : TE} {v : V} (hv : Val tv σ H v) (h : Val td σ H (.ref a)) (hy : Val ty σ H (.int z)) (hd : H a = some (.dK kvs)) (hl : kvs.length ≤ 1000) (q : N σ (upd H a (.dK (putK kvs (Sum.inl z : Key) v)))) : sDPut td ty tv ⟨N, R, B, C'⟩ σ H :=
  hv _ (h _ (hy _ ⟨a, _, rfl, DPut.k (k := Sum.inl z) hd (Nat.lt_of_le_of_lt hl (by decide +kernel)), q⟩))
/-- a dict of users that have gone -/
def gnK (G : List Nat) : List (Key × V) := G.map fun (u : Nat) => ((Sum.inl (u : Int) : Key), V.bl true)
theorem gnK_has : ∀ {G : List Nat} {u : Nat}, (valV (gnK G) (Sum.inl (u : Int) : Key)).isSome = decide (u ∈ G)
  | [], u => rfl
  | g :: G, u => by
    have ih := gnK_has (G := G) (u := u)
    unfold valV gnK at ih ⊢
    rw [List.map_cons, List.find?_cons]
    by_cases c : g = u
    · subst c; simp
    · have : decide ((Sum.inl (g : Int) : Key) = Sum.inl (u : Int)) = false := decide_eq_false (fun e => c (by have := Sum.inl.inj e; omega))
      dsimp only
      rw [this]
      dsimp only
      rw [ih]
      exact decide_eq_decide.mpr ⟨fun h => List.mem_cons_of_mem _ h, fun h => (List.mem_cons.mp h).resolve_left (fun e => c e.symm)⟩
theorem gnK_put {G : List Nat} {u : Nat} : putK (gnK G) (Sum.inl (u : Int) : Key) (.bl true) = gnK (if u ∈ G then G else G ++ [u]) := by
  have hany : ((gnK G).any fun kv => decide (kv.1 = (Sum.inl (u : Int) : Key))) = decide (u ∈ G) := by
    unfold gnK
    rw [List.any_map, Bool.eq_iff_iff, List.any_eq_true, decide_eq_true_iff]
    constructor
    · rintro ⟨g, hg, e⟩
      have := of_decide_eq_true e
      have := Sum.inl.inj this
      have : g = u := by omega
      exact this ▸ hg
    · intro h; exact ⟨u, h, decide_eq_true rfl⟩
  unfold putK
  rw [hany]
  by_cases c : u ∈ G
  · rw [if_pos (decide_eq_true c), if_pos c]
    unfold gnK
    rw [List.map_map]
    refine List.map_congr_left fun g _ => ?_
    show (if _ then _ else _) = _
    split <;> rfl
  · rw [if_neg (by rw [decide_eq_false c]; exact Bool.false_ne_true), if_neg c]
    unfold gnK
    rw [List.map_append]; rfl
end
/-! ### xs.extend(a tuple) -/
section
open PySem.AutoSeq1
theorem ext_tup (l : Addr) (items : Array Value) (n : Nat) (b : Addr) (items2 : Array Value) (n2 : Nat) (dd : Option Addr) (sl : Array (Option Value)) (hs0 : ¬(!items.isEmpty && Builtin.List.listTooLong (items.size + items2.size)) = true) (hs1 : items.size ≤ sizeLine) (hs2 : items.size + items2.size ≤ sizeLine + 1) :
    Meets (Builtin.«list.extend» ⟨[.ref l, .ref b], []⟩) (fun _ R s => s.heap.get? l = some { cls := .type "list", dict := none, data := .seq items n, slots := #[] } ∧ s.heap.get? b = some { cls := .type "tuple", dict := dd, data := .seq items2 n2, slots := sl } ∧ R (.ok (.ret Value.none)) { s with heap := s.heap.update l (Obj.mapSeq fun x => x ++ items2), toks := s.toks }) :=
  .of_wp fun prog w A R s h => by
    obtain ⟨hp, g, d, tk, os⟩ := s; obtain ⟨hl, hb, h⟩ := h; have f1 := AutoSeq1.idx_int; have f2 := AutoSeq1.sub_tuple_tuple; have f3 := AutoSeq1.sub_list_list; have f4 := AutoSeq1.sub_tuple_list; have f5 := AutoSeq1.sub_list_tuple;
    have hz' : (items ++ items2).size ≤ sizeLine + 1 := by rw [Array.size_append]; exact hs2
    wp_walk using (wpAny_updateSeq hl rfl (hz := hs1) (_hz' := hz')), wpAny_loadPart' hl, wpAny_loadPart' hb; exact ⟨_, rfl, h⟩
def rExtT (K : PySem.W.Frag) : V → List V → Hp → VK → Prop := fun x vs H Q => ∃ l b xs zs, x = .ref l ∧ vs = [.ref b] ∧ H l = some (.lst xs) ∧ SqT K H b zs ∧ xs.length + zs.length ≤ sizeLine ∧ Q .non (upd H l (.lst (xs ++ zs)))
theorem mt_extT {X : Cx} : MtM X "list.extend" (rExtT X.K) := by
  intro pins s σ H x vs v us Q I rx rv h
  obtain ⟨l, b, xs, zs, rfl, rfl, hH, hB, hz, q⟩ := h
  cases rx
  obtain ⟨u, rfl, ru⟩ := rv.one
  cases ru
  obtain ⟨z, its, n, r, hl, e⟩ := I.lstM hH
  obtain ⟨its2, r2, ⟨o, e2, oc, n2, od⟩, z2⟩ := I.tuple hB
  have hl2 := r2.length
  obtain ⟨cls, dd, data, sl⟩ := o
  dsimp only at oc od
  subst oc od
  have hsz : its.toArray.size + its2.toArray.size ≤ sizeLine := by rw [List.size_toArray, List.size_toArray]; omega
  have hlong : ¬ (!its.toArray.isEmpty && Builtin.List.listTooLong (its.toArray.size + its2.toArray.size)) = true := by
    rw [notLongL hsz, Bool.and_false]
    exact Bool.false_ne_true
  refine call_meets F.slot_list_extend ⟨_, e, rfl⟩ F.entry_list_extend (F.args_list_extend_2 _ _)
    (ext_tup l its.toArray n b its2.toArray n2 dd sl hlong (by rw [List.size_toArray]; omega) (by omega)) ⟨e, e2, ?_⟩
  refine ⟨.non, _, I.lset (its' := its ++ its2) hH e (by simp) (r.append r2) ?_, rfl, q⟩
  rw [List.length_append]
  omega
end
/-! ### enumerate(a tuple): its making and its end -/
end Ch
namespace PySem
open Sem (wp)
open AutoSeq1 (wpAny_loadPart')
section
theorem meets_enumerate_newT (l : Addr) (items : Array Value) (n : Nat) (dct : Option Addr) (sl : Array (Option Value)) :
    Meets (Builtin.«enumerate.__new__» ⟨[.type "enumerate", .ref l], []⟩) (fun _ R s => s.heap.get? l = some { cls := .type "tuple", dict := dct, data := .seq items n, slots := sl } ∧
      R (.ok (.ret (.ref (s.heap.push { cls := .type "tuple_iterator", data := .fields #[.ref l, .int 0 0] }).objs.size)))
        { s with heap := (s.heap.push { cls := .type "tuple_iterator", data := .fields #[.ref l, .int 0 0] }).push { cls := .type "enumerate", data := .fields #[.none, .bool false, .ref s.heap.objs.size, rawInt 0, .none, .none] } }) :=
  .of_wp fun prog w A R s h => by
    obtain ⟨hp, g, d, tk, os⟩ := s; obtain ⟨hl, h⟩ := h
    have hsub := sub_enumerate
    have hL : Heap.IsTuple (Shared.heap ⟨hp, g, d, tk, os⟩) l items := ⟨_, hl, rfl, n, rfl⟩
    wp_walk using wpAny_loadPart' hl
    refine wpAny_stack_any fun st => wpAny_pure ?_
    split
    · rename_i c _ _ _ _ _
      cases (c == Value.type "enumerate")
      · wp_walk using wpAny_loadPart' hl, wpAny_pyIter_tuple hL
        exact ⟨_, rfl, h⟩
      · wp_walk using wpAny_loadPart' hl, wpAny_pyIter_tuple hL
        exact ⟨_, rfl, h⟩
    · wp_walk using wpAny_loadPart' hl, wpAny_pyIter_tuple hL
      exact ⟨_, rfl, h⟩
variable {prog : Program} {w : World} {A : Around} {E : Value → Shared → Prop} {s : Shared}
theorem call_enumerate_tuple {l : Addr} {items : Array Value} {Q : Value → Shared → Prop} (hL : s.heap.IsTuple l items)
    (h : ∀ h', IsEnum h' (s.heap.objs.size + 1) s.heap.objs.size 0 .none → h'.IsTupleIter s.heap.objs.size l 0 → h'.objs.size = s.heap.objs.size + 2 →
      (∀ b o, s.heap.get? b = some o → h'.get? b = some o) → Q (.ref (s.heap.objs.size + 1)) { s with heap := h' }) :
    wpAny (model prog w) A (call (.type "enumerate") [.ref l]) Q E s := by
  obtain ⟨⟨c, dct, dt, sl⟩, hl, hc, n, hd⟩ := hL
  replace hc : c = .type "tuple" := hc
  replace hd : dt = .seq items n := hd
  subst hc hd
  refine callType_new F.called_enumerate (by decide) (F.typeCall_enumerate_1 _) (F.newCall_enumerate_1 _) (fun obj => F.args_object_init_2 obj _) F.entry_enumerate_new
    (meets_enumerate_newT l items n dct sl) ⟨hl, ?_⟩
  have hz : (s.heap.push { cls := .type "tuple_iterator", data := .fields #[.ref l, .int 0 0] }).objs.size = s.heap.objs.size + 1 := Heap.size_push ..
  show _ ∧ _
  rw [hz]
  have he : IsEnum ((s.heap.push { cls := .type "tuple_iterator", data := .fields #[.ref l, .int 0 0] }).push
      { cls := .type "enumerate", data := .fields #[.none, .bool false, .ref s.heap.objs.size, rawInt 0, .none, .none] }) (s.heap.objs.size + 1) s.heap.objs.size 0 .none := by
    have := Heap.get?_push_size (s.heap.push { cls := .type "tuple_iterator", data := .fields #[.ref l, .int 0 0] })
      (o := { cls := .type "enumerate", data := .fields #[.none, .bool false, .ref s.heap.objs.size, rawInt 0, .none, .none] }) rfl
    rw [hz] at this; exact this
  refine ⟨⟨_, he, rfl⟩, h _ he ⟨_, Heap.get?_push_of_some _ (Heap.get?_push_size _ rfl), rfl, rfl⟩ (by rw [Heap.size_push, hz]) fun b o x => Heap.get?_push_of_some _ (Heap.get?_push_of_some _ x)⟩
theorem enum_end_tup {e it l : Addr} {i : Nat} {items : Array Value} {old : Value} {Q : Option Value → Shared → Prop} (hh : A.handled = none)
    (he : IsEnum s.heap e it i old) (hit : s.heap.IsTupleIter it l i) (hl : s.heap.IsTuple l items) (hx : items[i]? = none)
    (hQ : ∀ h', Heap.ExtBut it s.heap h' → Q none { s with heap := h' }) : wpAny (model prog w) A (pyNext (.ref e)) Q E s := by
  have hT : s.TypeIs (.ref e) "enumerate" := ⟨_, he, rfl⟩
  unfold pyNext
  refine wpAny_bind (wpAny_attempt (wpAny_callSpecial?_slot (name := Str.ofString "__next__") hT F.slot_enumerate_next
    (wpAny_call_entry F.slot_enumerate_next hT F.entry_enumerate_next ?_ (F.args_enumerate_next_1 _))))
  show wpAny _ _ (field (.ref e) 2 >>= _) _ _ _
  refine wpAny_bind (wpAny_field he rfl (x := .ref it) rfl ?_)
  refine wpAny_bind (wpAny_nextOf_tuple_end hh hit hl hx fun h' x he' hx' => ?_)
  obtain ⟨o, ho, hc⟩ := hx'
  refine wpAny_bind (wpAny_isInstance (T := "StopIteration") (b := true) ⟨o, ho, hc⟩ isSubtype_stop ?_)
  exact wpAny_pure (hQ _ he')
end
end PySem
namespace Ch
open PySem PySem.Spec PyProof.Rows L2
/-! ### for i, x in enumerate(a tuple) -/
section
open PySem
def IteT (K : PySem.W.Frag) (a : Addr) : It :=
  ⟨fun i H => ∃ (xs : List V) (x : V), SqT K H a xs ∧ xs[i]? = some x, fun i H v H' => ∃ T x, v = .ref T ∧ H T = none ∧ H' = upd H T (.tup [.int (i : Nat), x]) ∧ ∀ xs, SqT K H a xs → xs[i]? = some x, fun i H => ∃ xs : List V, SqT K H a xs ∧ xs.length ≤ i⟩
theorem turn_enumT {P : Program} {w : World} {K : PySem.W.Frag} {elts : List Expr} {kk : Nat} {tpos : Pos} (a e it : Addr) :
    Turn P w K (.Tuple elts kk tpos) (IteT K a) [e, it] e (fun i h => (∃ old, IsEnum h e it ((i : Nat) : Int) old) ∧ h.IsTupleIter it a i ∧ e ≠ it) where
  mem := by simp
  obj := fun i h st b hb => by
    obtain ⟨⟨old, he⟩, ⟨o, ho, hc, hd⟩, _⟩ := st
    have e' : b = e ∨ b = it := by simpa using hb
    rcases e' with z | z
    · rw [z]; exact ⟨_, he, fun v q => nomatch q⟩
    · rw [z]; exact ⟨o, ho, fun v q => by rw [hd] at q; cases q⟩
  keep := fun i h h' st k => let ⟨⟨old, he⟩, hi, hne⟩ := st; ⟨⟨old, k e (by simp) _ he⟩, hi.at fun o q => k it (by simp) o q, hne⟩
  item := by
    intro X hP hw hK hc i pins s σ H E I hf st hg
    subst hP hw hK
    obtain ⟨⟨old, he⟩, hit, hne⟩ := st
    obtain ⟨xs, x, hq, hx⟩ := hg
    obtain ⟨its, rv, p, hz⟩ := I.tuple hq
    obtain ⟨u, hu, ru⟩ := rv.get hx
    have hel : e < s.heap.objs.size := Heap.lt_size he
    have hil : it < s.heap.objs.size := by obtain ⟨_, q, _⟩ := hit; exact Heap.lt_size q
    have p' : s.heap.IsTuple a its.toArray := p
    have hai : a ≠ it := fun z => by
      obtain ⟨o1, h1, c1, _⟩ := p'
      obtain ⟨o2, h2, c2, _⟩ := hit
      rw [z, h2] at h1
      cases h1
      rw [c1] at c2
      exact absurd c2 (by decide)
    have hea : e ≠ a := fun z => by
      obtain ⟨o1, h1, c1, _⟩ := p'
      rw [← z, he] at h1
      cases h1
      exact absurd (show Value.type "enumerate" = Value.type "tuple" from c1) (by decide)
    have hlt : i < its.toArray.size := by
      have := (List.getElem?_eq_some_iff.mp hu).1
      simpa using this
    have D := Draws.tuple (prog := X.prog) (w := X.w) (A := X.A.in1) (I.ok.hd hc) it a hai its.toArray
    refine wpAny_pyNext_enum_itemD D he ⟨hit, p'⟩ hlt hne (by simp [hne, hea]) fun x' h' tk hP ho hst hT hsz hk => ?_
    have ex : x' = u := by
      have h1 : its.toArray[i]? = some u := by simpa using hu
      exact Option.some.inj (hP.symm.trans h1)
    subst ex
    obtain ⟨hit', _⟩ := hst
    refine ⟨_, rfl, wpAny_letOwnedTupleGo_enum (s := { s with heap := h', toks := tk + 1 }) ho fun h'' he' sb => ?_⟩
    have hT2 : h''.get? s.heap.objs.size = some { cls := .type "tuple", data := .seq #[.int i tk, x'] } := (sb.2 _ (Nat.ne_of_gt hel)).trans hT
    have new : ObjOk X.prog X.w (upd H s.heap.objs.size (.tup [.int (i : Nat), x])) h'' s.heap.objs.size (.tup [.int (i : Nat), x]) :=
      ⟨by show 2 ≤ sizeLine; decide, [.int i tk, x'], .cons ⟨_, rfl⟩ (.cons ru .nil), ⟨_, hT2, rfl, _, rfl⟩⟩
    have I1 : Inv X pins σ (upd H s.heap.objs.size (.tup [.int (i : Nat), x])) { s with heap := h'', toks := tk + 1 } :=
      I.turnedNew (ch := [e, it]) (fun b ob hb q => (sb.2 b (fun z => hb (by simp [z]))).trans (hk b ob (fun z => hb (by simp [z])) (fun z => hb (by simp [z])) q)) hf (Nat.le_refl _) new
    refine ⟨.ref s.heap.objs.size, _, I1, rfl, ⟨_, x, rfl, I.hok.fresh (Nat.le_refl _), rfl, fun ys hy => by rw [I.tuple_inj hy hq]; exact hx⟩, ⟨⟨x', ?_⟩, hit'.at fun o q => (sb.2 it (Ne.symm hne)).trans q, hne⟩, fun b hb => ?_⟩
    · have e1 : ((i + 1 : Nat) : Int) = (i : Int) + 1 := by omega
      rw [e1]; exact he'
    · have hb' : b < s.heap.objs.size := by
        have e' : b = e ∨ b = it := by simpa using hb
        rcases e' with z | z
        · rw [z]; exact hel
        · rw [z]; exact hil
      rw [upd_ne (Nat.ne_of_lt hb')]
      exact (hf b hb).1
  done := by
    intro X hP hw hK hc i pins s σ H E I hf st hg
    subst hP hw hK
    obtain ⟨⟨old, he⟩, hit, hne⟩ := st
    obtain ⟨xs, hq, hx⟩ := hg
    obtain ⟨its, rv, p, hz⟩ := I.tuple hq
    have p' : s.heap.IsTuple a its.toArray := p
    have hai : a ≠ it := fun z => by
      obtain ⟨o1, h1, c1, _⟩ := p'
      obtain ⟨o2, h2, c2, _⟩ := hit
      rw [z, h2] at h1
      cases h1
      rw [c1] at c2
      exact absurd c2 (by decide)
    obtain ⟨f0, f1, f2, f3, f4, f5⟩ := hf it (by simp)
    have hl := rv.length
    exact enum_end_tup (I.ok.hd hc) he hit p' (by simp; omega) fun h' eb => ⟨rfl, I.turned (t' := s.toks) (fun b o hb q => eb b o hb q) f0 f1 f3 f4 f5⟩
  self := fun A i s Q E st h => let ⟨⟨_, he⟩, _⟩ := st; wpAny_pyIter_enum he h
def iEnumT (K : PySem.W.Frag) (ta : TA) : TI := fun σ H R => ta σ H fun vs H1 => ∃ a xs, vs = [.ref a] ∧ SqT K H1 a xs ∧ R (IteT K a) H1
theorem pi_enumT {X : Cx} {e : Expr} {ta : TA} {p pos tpos : Pos} {elts : List Expr} {kk : Nat} (hg : Gl X "enumerate") (hm : X.mg "enumerate" = none) (ha : L2.PA X [e] ta) (hs : starEach [e] X.env = [(false, eval e X.env)] := by rfl) :
    PI X (.Tuple elts kk tpos) (.Call (.Name "enumerate" p) [e] [] pos) (iEnumT X.K ta) := by
  refine ⟨fun pins s σ H R I h => ?_⟩
  refine Call_ (ld_blt I hg hm boot_enumerate (PyProof.Rows.callWith_type1 (thn (ha.run pos pins s σ H _ I h) fun us s1 ⟨vs, H1, I1, r1, q1⟩ => ?_) hs rfl))
  obtain ⟨a, xs, ex, hq, q⟩ := q1
  subst ex
  cases r1 with
  | cons r rr =>
    cases rr
    cases r
    obtain ⟨its, rv, p', hz⟩ := I1.tuple hq
    refine call_enumerate_tuple (show s1.heap.IsTuple a its.toArray from p') fun h' he hit hsz hk => wpAny_pyIter_enum he ?_
    have I2 : Inv X pins σ H1 { s1 with heap := h' } := I1.kept (t' := s1.toks) hk
    refine ⟨s1.heap.objs.size + 1, [s1.heap.objs.size + 1, s1.heap.objs.size], _, _, H1, rfl, I2, turn_enumT a (s1.heap.objs.size + 1) s1.heap.objs.size, ⟨⟨.none, he⟩, hit, Nat.succ_ne_self _⟩, fun b hb => ?_, q⟩
    have e' : b = s1.heap.objs.size + 1 ∨ b = s1.heap.objs.size := by simpa using hb
    have hle : s1.heap.objs.size ≤ b := by
      rcases e' with z | z
      · rw [z]; exact Nat.le_add_right _ _
      · rw [z]; exact Nat.le_refl _
    exact I1.fpOk hle (I1.hok.fresh hle)
theorem walk_enumT {K : PySem.W.Frag} {a : Addr} {xs : List V} : Walk (IteT K a) xs.length (fun H => SqT K H a xs) (YPair (fun i => some (.int (i : Nat))) (fun i => xs[i]?)) := by
  refine ⟨fun i _ hi q => ⟨xs, xs[i], q, by simp [hi]⟩, fun _ q => ⟨xs, q, Nat.le_refl _⟩, fun i H v H' _ q y => ?_⟩
  obtain ⟨T, x, h1, h2, h3, h4⟩ := y
  exact ⟨T, .int (i : Nat), x, h1, h2, h3, rfl, h4 xs q⟩
variable {σ : L2.St} {H : Hp} {K : PySem.W.Frag} {a : Addr} {tA : TA} {tb tz : TS} {N : L2.St → Hp → Prop} {R : VK} {B C' : L2.St → Hp → Prop} {k j : Nat} {xs : List V}
theorem s_forET (h : ValA tA σ H [.ref a]) (hx : SqT K H a xs) (Pv : Nat → L2.St → Hp → Prop) (h0 : Pv 0 σ H) (hl : ∀ (i : Nat) σ' H', Pv i σ' H' → SqT K H' a xs)
    (hs : ∀ (i : Nat) x σ' H' T, xs[i]? = some x → Pv i σ' H' → H' T = none → tb ⟨Pv (i + 1), R, N, Pv (i + 1)⟩ ((σ'.set k (some (.int (i : Int)))).set j (some x)) (upd H' T (.tup [.int (i : Int), x]))) (hd : ∀ σ' H', Pv xs.length σ' H' → N σ' H') :
    tFor (iEnumT K tA) (gTup K 2 (gCons (gName k) (gCons (gName j) gNil))) tb ⟨N, R, B, C'⟩ σ H :=
  h _ ⟨a, xs, rfl, hx, for_it (walk_enumT (xs := xs)) (D := ⟨N, R, B, C'⟩) Pv h0 (fun i σ' H' _ p => hl i σ' H' p) (fun i x σ' H1 H' hi p y => by
    obtain ⟨T, u, z, rfl, hT, rfl, hu, hz⟩ := y
    cases hu
    exact ⟨T, _, rfl, SqT.of upd_same, rfl, _, _, rfl, _, _, rfl, rfl, hs i z σ' H1 T hz p hT⟩) hd⟩
theorem q_forET (h : ValA tA σ H [.ref a]) (hx : SqT K H a xs) (Pv : Nat → L2.St → Hp → Prop) (h0 : Pv 0 σ H) (hl : ∀ (i : Nat) σ' H', Pv i σ' H' → SqT K H' a xs)
    (hs : ∀ (i : Nat) x σ' H' T, xs[i]? = some x → Pv i σ' H' → H' T = none → tb ⟨Pv (i + 1), R, tz ⟨N, R, B, C'⟩, Pv (i + 1)⟩ ((σ'.set k (some (.int (i : Int)))).set j (some x)) (upd H' T (.tup [.int (i : Int), x]))) (hd : ∀ σ' H', Pv xs.length σ' H' → tz ⟨N, R, B, C'⟩ σ' H') :
    tSeq (tFor (iEnumT K tA) (gTup K 2 (gCons (gName k) (gCons (gName j) gNil))) tb) tz ⟨N, R, B, C'⟩ σ H :=
  s_forET (N := tz ⟨N, R, B, C'⟩) (B := B) (C' := C') h hx Pv h0 hl hs hd
end
/-! ### texts as data -/
section
variable {K : PySem.W.Frag} {H H' H1 H2 : Hp} {F F1 : FS} {W : Hp → Prop} {σ : L2.St} {te ta tb to tl : TE} {tA : TA} {v : V} {vs : List V} {d e : PyData} {ds es : List PyData} {s t : Str} {i : Int}
def strsD (ss : List Str) : List PyData := ss.map PyData.str
theorem daAll_strs : ∀ ss : List Str, DaAll K H F (ss.map V.str) (strsD ss)
  | [] => .nil
  | s :: r => .cons (.str s) (daAll_strs r)
theorem DaAll.strs : ∀ {vs : List V} {ss : List Str}, DaAll K H F vs (strsD ss) → vs = ss.map V.str
  | [], [], _ => rfl
  | _ :: _, _ :: _, h => by
    cases h with | cons h1 h2 =>
    cases h1
    rw [h2.strs]; rfl
  | [], _ :: _, h => by cases h
  | _ :: _, [], h => by cases h
def toS (i : Int) : Str := Str.ofString (toString i)
theorem dv_catS (ha : Dv K F W ta σ H (.str s)) (hb : Dv K F W tb σ H (.str t)) (hl : s.length + t.length ≤ 100000) : Dv K F W (tOp (fun x y H Q => ∃ i j, x = .str i ∧ y = .str j ∧ i.length + j.length ≤ sizeLine ∧ Q (.str (i ++ j)) H) ta tb) σ H (.str (s ++ t)) := fun H1 m o _ q =>
  ha H1 m o _ fun v H2 m2 o2 hv => hb H2 (m.trans m2) o2 _ fun v' H3 m3 o3 hv' => by
    cases hv; cases hv'
    exact ⟨_, _, rfl, rfl, Nat.le_trans hl (by rw [sizeLine_eq]; decide), q _ _ (m2.trans m3) o3 (.str _)⟩
theorem dv_toS (h : ∀ H1, Mv F H F H1 → Ok F W H1 → Val te σ H1 (.int i)) (hi : i.natAbs < 2 ^ 64) : Dv K F W (tCB (fun xs H Q => ∃ i, xs = [.int i] ∧ i.natAbs.log2 < 1920 ∧ Q (.str (toString i)) H) (tCons te tNil)) σ H (.str (toS i)) := fun H1 m o _ q =>
  h H1 m o _ ⟨i, rfl, by
    by_cases e : i.natAbs = 0
    · rw [e]; decide
    · exact Nat.lt_trans ((Nat.log2_lt e).mpr hi) (by decide), q _ _ .refl o (.str _)⟩
abbrev rJoin (K : PySem.W.Frag) : V → List V → Hp → VK → Prop := fun x xs H Q => ∃ a p, ∃ ys : List Str, x = .str a ∧ xs = [.ref p] ∧ (SqL K H p (ys.map V.str) ∨ SqT K H p (ys.map V.str)) ∧ (ys.map (·.length)).sum + ys.length * a.length ≤ 16777216 ∧ Q (.str (Txt.join a ys)) H
theorem dv_join {ys : List Str} (ha : Dv K F W to σ H (.str s)) (hb : Dv K F W te σ H (.list (strsD ys))) (hl : (ys.map (·.length)).sum + ys.length * s.length ≤ 1000000) : Dv K F W (tM1 (rJoin K) to te) σ H (.str (Str.join s ys)) := fun H1 m o _ q =>
  ha H1 m o _ fun v H2 m2 o2 hv => by
    cases hv
    refine ⟨⟨_, rfl⟩, hb H2 (m.trans m2) o2 _ fun v' H3 m3 o3 hv' => ?_⟩
    cases hv' with | lst h1 h2 =>
    have e := h2.strs
    subst e
    exact ⟨_, _, ys, rfl, rfl, .inl (SqL.of h1.at_), Nat.le_trans hl (by decide), by rw [TL.join_eq]; exact q _ _ (m2.trans m3) o3 (.str _)⟩
/-- texts compared -/
theorem x_eqStr {Q : VK} (o : Ok F W H) (ha : Dv K F W ta σ H (.str s)) (hb : Dv K F W tb σ H (.str t)) (q : ∀ H', Mv F H F H' → Ok F W H' → Q (.bl (decide (s = t))) H') : tOp rEq ta tb σ H Q :=
  ha H .refl o _ fun v H2 m2 o2 hv => hb H2 m2 o2 _ fun v' H3 m3 o3 hv' => by
    cases hv; cases hv'
    exact ⟨rfl, by rw [dec_vstr]; exact q _ (m2.trans m3) o3⟩
/-- a written tuple of texts -/
theorem da_writ {a : Addr} {ss : List Str} (h : ∀ H', SqT K H' a (ss.map V.str)) : Da K H F (.ref a) (.tuple (strsD ss)) := .tup ⟨h H, .inr h⟩ (daAll_strs ss)
theorem v_ixTS {a : Addr} {ss : List Str} (ha : Val ta σ H (.ref a)) (hb : Val tb σ H (.int i)) (h : SqT K H a (ss.map V.str)) (h0 : 0 ≤ i) (h1 : i < (ss.length : Int)) : Val (tOp (rIxT K) ta tb) σ H (.str (ss.getD i.toNat Str.empty)) :=
  v_ixT ha hb h h0 (by
    have hl : i.toNat < ss.length := by omega
    rw [List.getElem?_map, List.getElem?_eq_getElem hl]
    simp [List.getD_eq_getElem?_getD, List.getElem?_eq_getElem hl])
end
/-! ### lengths -/
theorem len_app (s t : Str) : (s ++ t).length = s.length + t.length := by rw [TL.len_tl, TL.len_tl, TL.len_tl, TL.tl_append, List.length_append]
theorem joinL_len (S : List Nat) : ∀ ps : List (List Nat), (TL.joinL S ps).length ≤ (ps.map List.length).sum + ps.length * S.length
  | [] => by simp [TL.joinL]
  | [p] => by simp [TL.joinL]
  | p :: q :: r => by
    have ih := joinL_len S (q :: r)
    rw [show TL.joinL S (p :: q :: r) = p ++ (S ++ TL.joinL S (q :: r)) from rfl]
    rw [List.length_append, List.length_append, List.map_cons, List.sum_cons, List.length_cons, Nat.succ_mul]
    omega
theorem join_len (s : Str) (ys : List Str) : (Str.join s ys).length ≤ (ys.map (·.length)).sum + ys.length * s.length := by
  have h := joinL_len (TL.tl s) (ys.map TL.tl)
  rw [← TL.tl_join, ← TL.len_tl, ← TL.len_tl, List.length_map, List.map_map] at h
  have e : ys.map (List.length ∘ TL.tl) = ys.map (·.length) := List.map_congr_left fun y _ => (TL.len_tl y).symm
  rwa [e] at h
theorem sum_le {b : Nat} : ∀ {ys : List Str}, (∀ s ∈ ys, s.length ≤ b) → (ys.map (·.length)).sum ≤ ys.length * b
  | [], _ => by simp
  | y :: r, h => by
    have h1 := sum_le (ys := r) fun s hs => h s (List.mem_cons_of_mem _ hs)
    have h2 := h y List.mem_cons_self
    rw [List.map_cons, List.sum_cons, List.length_cons, Nat.succ_mul]
    omega
theorem toS_len {i : Int} {k : Nat} (h0 : 0 ≤ i) (hk : 0 < k) (h : i < (10 ^ k : Nat)) : (toS i).length ≤ k := by
  obtain ⟨n, rfl⟩ : ∃ n : Nat, i = (n : Int) := ⟨i.toNat, by omega⟩
  unfold toS
  rw [TL.len_tl, TL.tl_num]
  exact TL.numL_len hk (by omega)
/-! ### the listing's mirror -/
def kindsS : List Str := ["and", "add", "rise", "put", "call", "go"]
def asksS : List Str := ["heard", "hear", "room", "say", "sleep", "fetch", "store", "stop", "look"]
def chgS : List Str := ["zero", "turn", "flip", "more", "left", "right"]
def tstS : List Str := ["minus", "none", "mark", "not", "zero", "flat"]
def wtsV : List Int := [32, 16, 8, 4, 2, 1]
def bitAt (p : Int) (k : Nat) : Bool := decide (p / wtsV.getD k 1 % 2 = 1)
def namedF (p : Int) : Nat → List Str → List Str
  | _, [] => []
  | k, s :: r => if bitAt p k = true then s :: namedF p (k + 1) r else namedF p (k + 1) r
def bitsS (h : Str) (p : Int) (names : List Str) : Str := Str.join " " (h :: namedF p 0 names)
def lineS (n : Int) : Str :=
  if n / 128 < 6 then (if n / 64 % 2 = 1 then kindsS.getD (n / 128).toNat Str.empty ++ " far " ++ toS (n % 64) else kindsS.getD (n / 128).toNat Str.empty ++ " " ++ toS (n % 64))
  else if n / 128 = 7 ∧ n / 64 % 2 = 0 then bitsS "change" (n % 64) chgS
  else if n / 128 = 7 then bitsS "test" (n % 64) tstS
  else if n / 64 % 2 = 0 ∧ n % 64 < 9 then "ask " ++ asksS.getD (n % 64).toNat Str.empty
  else "word " ++ toS n
theorem namedF_sub {p : Int} : ∀ {k : Nat} {names : List Str} {s : Str}, s ∈ namedF p k names → s ∈ names
  | _, [], s, h => by cases h
  | k, x :: r, s, h => by
    unfold namedF at h
    split at h
    · rcases List.mem_cons.mp h with e | e
      · exact e ▸ List.mem_cons_self
      · exact List.mem_cons_of_mem _ (namedF_sub e)
    · exact List.mem_cons_of_mem _ (namedF_sub h)
theorem namedF_len {p : Int} : ∀ {k : Nat} {names : List Str}, (namedF p k names).length ≤ names.length
  | _, [] => Nat.le_refl _
  | k, x :: r => by
    unfold namedF
    have := @namedF_len p (k + 1) r
    split <;> simp <;> omega
theorem bits_small {h : Str} {p : Int} {names : List Str} (hh : h.length ≤ 6) (hn : ∀ s ∈ names, s.length ≤ 6) (hl : names.length = 6) : ((h :: namedF p 0 names).map (·.length)).sum + (h :: namedF p 0 names).length * 1 ≤ 49 := by
  have h1 := sum_le (b := 6) (ys := h :: namedF p 0 names) (fun s hs => (List.mem_cons.mp hs).elim (fun e => e ▸ hh) fun e => hn s (namedF_sub e))
  have h2 := @namedF_len p 0 names
  rw [List.length_cons] at h1 ⊢
  have h3 : (namedF p 0 names).length ≤ 6 := by omega
  have h4 : ((namedF p 0 names).length + 1) * 6 ≤ 42 := by omega
  omega
theorem chg_small : ∀ s ∈ chgS, s.length ≤ 6 := by decide
theorem tst_small : ∀ s ∈ tstS, s.length ≤ 6 := by decide
theorem kinds_small (i : Nat) : (kindsS.getD i Str.empty).length ≤ 6 := by
  rw [List.getD_eq_getElem?_getD]
  cases e : kindsS[i]? with
  | none => decide
  | some x => exact (show ∀ s ∈ kindsS, s.length ≤ 6 by decide) x (List.mem_of_getElem? e)
theorem asks_small (i : Nat) : (asksS.getD i Str.empty).length ≤ 6 := by
  rw [List.getD_eq_getElem?_getD]
  cases e : asksS[i]? with
  | none => decide
  | some x => exact (show ∀ s ∈ asksS, s.length ≤ 6 by decide) x (List.mem_of_getElem? e)
theorem lineS_len {n : Int} (h0 : 0 ≤ n) (h1 : n < 1024) : (lineS n).length ≤ 50 := by
  have a1 : (toS (n % 64)).length ≤ 4 := toS_len (by omega) (by decide) (by show _ < (10000 : Int); omega)
  have a2 : (toS n).length ≤ 4 := toS_len (by omega) (by decide) (by show _ < (10000 : Int); omega)
  have a3 := kinds_small (n / 128).toNat
  have a4 := asks_small (n % 64).toNat
  unfold lineS
  have z1 : (" " : Str).length = 1 := by decide
  split
  · split
    · rw [len_app, len_app, show (" far " : Str).length = 5 by decide]; omega
    · rw [len_app, len_app, z1]; omega
  · split
    · unfold bitsS
      have := join_len " " ("change" :: namedF (n % 64) 0 chgS)
      have := bits_small (h := "change") (p := n % 64) (names := chgS) (by decide) chg_small (by decide)
      rw [z1] at *; omega
    · split
      · unfold bitsS
        have := join_len " " ("test" :: namedF (n % 64) 0 tstS)
        have := bits_small (h := "test") (p := n % 64) (names := tstS) (by decide) tst_small (by decide)
        rw [z1] at *; omega
      · split
        · rw [len_app, show ("ask " : Str).length = 4 by decide]; omega
        · rw [len_app, show ("word " : Str).length = 5 by decide]; omega
def shownF : Nat → Nat → Bool → List Int → List Str
  | _, _, _, [] => []
  | k, b, e, n :: r => if n = 0 then shownF (k + 1) b e r else (if k ≠ b ∨ e = true then ["place " ++ toS (k : Int)] else []) ++ lineS n :: shownF (k + 1) (k + 1) false r
abbrev nlS : Str := "\n"
theorem nlS_len : nlS.length = 1 := by decide
def shownS (cs : List Int) : Str := Str.join nlS (shownF 0 0 true cs)
theorem shownF_in : ∀ {cs : List Int} {k b : Nat} {e : Bool}, (∀ x ∈ cs, 0 ≤ x ∧ x < 1024) → k + cs.length ≤ 64 → (shownF k b e cs).length ≤ 2 * cs.length ∧ ∀ s ∈ shownF k b e cs, s.length ≤ 50
  | [], _, _, _, _, _ => ⟨Nat.zero_le _, fun s h => by cases h⟩
  | n :: r, k, b, e, h, hk => by
    rw [List.length_cons] at hk ⊢
    have h1 := h n List.mem_cons_self
    have hr : ∀ x ∈ r, 0 ≤ x ∧ x < 1024 := fun x hx => h x (List.mem_cons_of_mem _ hx)
    have a1 : (toS (k : Int)).length ≤ 4 := toS_len (by omega) (by decide) (by show _ < (10000 : Int); omega)
    unfold shownF
    split
    · obtain ⟨i1, i2⟩ := shownF_in (k := k + 1) (b := b) (e := e) hr (by omega)
      exact ⟨by omega, i2⟩
    · obtain ⟨i1, i2⟩ := shownF_in (k := k + 1) (b := k + 1) (e := false) hr (by omega)
      have hl := lineS_len h1.1 h1.2
      split
      · refine ⟨by simp; omega, fun s hs => ?_⟩
        rcases List.mem_append.mp hs with q | q
        · rw [List.mem_singleton.mp q, len_app, show ("place " : Str).length = 6 by decide]; omega
        · rcases List.mem_cons.mp q with q | q
          · rw [q]; exact hl
          · exact i2 s q
      · refine ⟨by simp; omega, fun s hs => ?_⟩
        rcases List.mem_cons.mp hs with q | q
        · rw [q]; exact hl
        · exact i2 s q
/-! ### more readings of data: numbers out of what moves the heap, enumerate with a test -/
section
variable {K : PySem.W.Frag} {H H' H1 H2 : Hp} {F F1 : FS} {W : Hp → Prop} {σ : L2.St} {te ta tb to tl : TE} {tA : TA} {v : V} {d e : PyData} {ds es : List PyData} {s t : Str} {i j : Int} {tt : TT}
theorem dv_fdiv (ha : Dv K F W ta σ H (.int i)) (hb : Dv K F W tb σ H (.int j)) (hc : CDiv i j) : Dv K F W (tOp (rI CDiv fun i j => .int (i / j)) ta tb) σ H (.int (i / j)) := fun H1 m o _ q =>
  ha H1 m o _ fun v H2 m2 o2 hv => hb H2 (m.trans m2) o2 _ fun v' H3 m3 o3 hv' => by
    cases hv; cases hv'
    exact ⟨_, _, rfl, rfl, hc, q _ _ (m2.trans m3) o3 (.int _)⟩
theorem dv_mod (ha : Dv K F W ta σ H (.int i)) (hb : Dv K F W tb σ H (.int j)) (hc : 0 < j) : Dv K F W (tOp (rI (fun _ j => 0 < j) fun i j => .int (i % j)) ta tb) σ H (.int (i % j)) := fun H1 m o _ q =>
  ha H1 m o _ fun v H2 m2 o2 hv => hb H2 (m.trans m2) o2 _ fun v' H3 m3 o3 hv' => by
    cases hv; cases hv'
    exact ⟨_, _, rfl, rfl, hc, q _ _ (m2.trans m3) o3 (.int _)⟩
theorem am_eqI (ha : Dv K F W ta σ H (.int i)) (hb : Dv K F W tb σ H (.int j)) : AnsM F W (tTest (tOp rEq ta tb)) σ H (decide (i = j)) := fun H1 m o Q q =>
  ha H1 m o _ fun v H2 m2 o2 hv => hb H2 (m.trans m2) o2 _ fun v' H3 m3 o3 hv' => by
    cases hv; cases hv'
    exact ⟨rfl, decide (i = j), by rw [dec_vint], q _ (m2.trans m3) o3⟩
theorem am_eqStr (ha : Dv K F W ta σ H (.str s)) (hb : Dv K F W tb σ H (.str t)) : AnsM F W (tTest (tOp rEq ta tb)) σ H (decide (s = t)) := fun H1 m o Q q =>
  ha H1 m o _ fun v H2 m2 o2 hv => hb H2 (m.trans m2) o2 _ fun v' H3 m3 o3 hv' => by
    cases hv; cases hv'
    exact ⟨rfl, decide (s = t), by rw [dec_vstr], q _ (m2.trans m3) o3⟩
def fE {α : Type} (p : Nat → α → Bool) (f : Nat → α → PyData) : Nat → List α → List PyData
  | _, [] => []
  | k, a :: r => if p k a = true then f k a :: fE p f (k + 1) r else fE p f (k + 1) r
theorem fE_app {α : Type} {p : Nat → α → Bool} {f : Nat → α → PyData} {a : α} : ∀ (xs : List α) (k : Nat), fE p f k (xs ++ [a]) = if p (k + xs.length) a = true then fE p f k xs ++ [f (k + xs.length) a] else fE p f k xs
  | [], k => by simp [fE]
  | x :: r, k => by
    rw [List.cons_append, fE, fE_app r (k + 1), fE, List.length_cons, show k + 1 + r.length = k + (r.length + 1) by omega]
    split <;> split <;> simp
theorem fE_take {α : Type} {p : Nat → α → Bool} {f : Nat → α → PyData} {as : List α} {m : Nat} {a : α} (h : as[m]? = some a) : fE p f 0 (as.take (m + 1)) = if p m a = true then fE p f 0 (as.take m) ++ [f m a] else fE p f 0 (as.take m) := by
  have hl := (List.getElem?_eq_some_iff.mp h).1
  rw [List.take_add_one, h]
  have e := fE_app (p := p) (f := f) (a := a) (as.take m) 0
  rw [List.length_take, Nat.min_eq_left (by omega), Nat.zero_add] at e
  exact e
/-- [e for k, x in enumerate(a list) if c] -/
theorem dn_lcEm {α : Type} (as : List α) (g : α → PyData) {k j : Nat} {ws : List Nat} (p : Nat → α → Bool) (f : Nat → α → PyData) (wo : Wo F W) (h : DvA K F W tA σ H [.list (as.map g)]) (hn : as.length ≤ 100000) (hw : ∀ x y, wipe (((wipe σ ws).set k (some x)).set j (some y)) ws = wipe σ ws)
    (ht : ∀ (i : Nat) (x : V) (a : α) (H1 : Hp) (F1 : FS) (W1 : Hp → Prop), Tn F W H F1 W1 H1 → as[i]? = some a → Da K H1 F1 x (g a) → AnsM F1 W1 tt (((wipe σ ws).set k (some (.int (i : Int)))).set j (some x)) H1 (p i a))
    (he : ∀ (i : Nat) (x : V) (a : α) (H1 : Hp) (F1 : FS) (W1 : Hp → Prop), Tn F W H F1 W1 H1 → as[i]? = some a → Da K H1 F1 x (g a) → p i a = true → Dv K F1 W1 te (((wipe σ ws).set k (some (.int (i : Int)))).set j (some x)) H1 (f i a)) :
    DvN K F W (tLc (iEnum K tA) (gTup K 2 (gCons (gName k) (gCons (gName j) gNil))) tt te ws) σ H (fE p f 0 as) := fun H1 m o Q q =>
  h H1 m o _ fun vs H2 m2 o2 hv => by
    cases hv with | cons hv hn' =>
    cases hn'
    cases hv with | @lst a xs _ h3 h4 =>
    refine ⟨a, xs, rfl, SqL.of h3.at_, fun D hD => lc_it (walk_enum (xs := xs)) (fun m H' => LcI K W H2 F D m (fE p f 0 (as.take m)) H') (by rw [List.take_zero]; exact lci_0 wo o2 hD) (fun m H' _ e => SqL.of ((h3.mv e.mv).at_)) (fun i x H1' H' hm e y => ?_) (fun H' e => ?_)⟩
    · obtain ⟨T, u, x, rfl, hT, rfl, hu, hx⟩ := y
      cases hu
      have e := e.sameH wo (smN (o := .tup [V.int (i : Int), x]) hT)
      have tn := e.tn (m.trans m2) wo (o2.fa.no hD)
      obtain ⟨d, hd, hxd⟩ := (h4.mv e.mv).getV _ hx
      rw [List.getElem?_map] at hd
      obtain ⟨a, ha, rfl⟩ := Option.map_eq_some_iff.mp hd
      have hlt := (List.getElem?_eq_some_iff.mp ha).1
      refine ⟨T, _, rfl, SqT.of upd_same, rfl, _, _, rfl, _, _, rfl, rfl, hw _ _, ?_⟩
      rw [fE_take ha]
      exact e.stepM wo o2 hD (by omega) (ht i x a _ _ _ tn ha hxd) (he i x a _ _ _ tn ha hxd)
    · rw [h4.len, List.length_map, List.take_length] at e
      obtain ⟨r1, r2, r3⟩ := e.done
      exact q _ _ (o2.free m2 hD) (m2.trans r1) r2 r3
theorem fE_map {α : Type} {f : Nat → α → PyData} : ∀ (as : List α) (k : Nat), (fE (fun _ _ => true) f k as).length = as.length
  | [], _ => rfl
  | a :: r, k => by rw [fE, if_pos rfl, List.length_cons, List.length_cons, fE_map r (k + 1)]
theorem fE_named {p : Int} : ∀ (names : List Str) (k : Nat), fE (fun i (_ : Str) => bitAt p i) (fun _ s => .str s) k names = strsD (namedF p k names)
  | [], _ => rfl
  | s :: r, k => by
    rw [fE, namedF, fE_named r (k + 1)]
    split <;> rfl
end
section
variable {σ : L2.St} {H : Hp} {K : PySem.W.Frag} {te to ti : TE} {v : V} {d : PyData} {D : Addr} {H0 : Hp} {F : FS} {W : Hp → Prop} {ds : List PyData} {N : L2.St → Hp → Prop} {R : VK} {B C' : L2.St → Hp → Prop} {i : Int}
theorem s_own_set (wo : Wo F W) (ow : Own K H0 F W D H ds) (hv : Val te σ H v) (hd : Da K H (withF F D) v d) (ho : Val to σ H (.ref D)) (hi : Val ti σ H (.int i)) (h0 : 0 ≤ i) (h1 : i < (ds.length : Int)) (q : ∀ H', Own K H0 F W D H' (ds.set i.toNat d) → (∀ (F2 : FS), F2 D → Mv F2 H F2 H') → N σ H') : tAsg te (gSub to ti rSetL) ⟨N, R, B, C'⟩ σ H := by
  obtain ⟨vs, e1, e2, o2, m2⟩ := ow.put wo i.toNat hd
  exact hv _ (ho _ (hi _ ⟨D, _, i, i.toNat, rfl, rfl, e1, ixN_int h0 (by rw [e2]; exact h1), q _ o2 m2⟩))
end
/-! ### promises of the listing -/
def preWith (vs : List V) (_ : Hp) (_ : FS) (_ : Hp → Prop) (d : PyData) : Prop := ∃ (h : Str) (p : Int) (a : Addr) (names : List Str) (K : PySem.W.Frag), vs = [.str h, .int p, .ref a] ∧ (∀ H', SqT K H' a (names.map V.str)) ∧ names.length = 6 ∧ h.length ≤ 6 ∧ (∀ s ∈ names, s.length ≤ 6) ∧ d = .str (bitsS h p names)
def preWithK (K : PySem.W.Frag) (vs : List V) (_ : Hp) (_ : FS) (_ : Hp → Prop) (d : PyData) : Prop := ∃ (h : Str) (p : Int) (a : Addr) (names : List Str), vs = [.str h, .int p, .ref a] ∧ (∀ H', SqT K H' a (names.map V.str)) ∧ names.length = 6 ∧ h.length ≤ 6 ∧ (∀ s ∈ names, s.length ≤ 6) ∧ d = .str (bitsS h p names)
def preLine (vs : List V) (_ : Hp) (_ : FS) (_ : Hp → Prop) (d : PyData) : Prop := ∃ n : Int, vs = [.int n] ∧ 0 ≤ n ∧ n < 1024 ∧ d = .str (lineS n)
def preShown (K : PySem.W.Frag) (vs : List V) (H : Hp) (F : FS) (_ : Hp → Prop) (d : PyData) : Prop := ∃ (v : V) (cs : List Int), vs = [v] ∧ Da K H F v (.list (cs.map PyData.int)) ∧ cs.length ≤ 64 ∧ (∀ x ∈ cs, 0 ≤ x ∧ x < 1024) ∧ d = .str (shownS cs)
def preStrs (ss : List Str) (vs : List V) (_ : Hp) (_ : FS) (_ : Hp → Prop) (ds : List PyData) : Prop := vs = [] ∧ ds = strsD ss
def preNamed (K : PySem.W.Frag) (vs : List V) (H : Hp) (F : FS) (_ : Hp → Prop) (ds : List PyData) : Prop := ∃ (v : V) (names : List Str) (p : Int), vs = [v, .int p] ∧ Da K H F v (.list (strsD names)) ∧ names.length = 6 ∧ ds = strsD (namedF p 0 names)
theorem wts_in : ∀ {i : Nat}, i < 6 → 0 < wtsV.getD i 1 ∧ wtsV.getD i 1 < 1000 ∧ wtsV.getD i 0 = wtsV.getD i 1 := by decide
theorem Own.snoc {K : PySem.W.Frag} {H0 H : Hp} {F : FS} {W : Hp → Prop} {D : Addr} {acc : List Str} {s : Str} (h : Own K H0 F W D H (strsD acc ++ [.str s])) : Own K H0 F W D H (strsD (acc ++ [s])) := by
  have e : strsD (acc ++ [s]) = strsD acc ++ [.str s] := by unfold strsD; rw [List.map_append]; rfl
  rw [e]; exact h
theorem or_dec {i b : Nat} {e : Bool} : (!decide ((i : Int) = (b : Int)) || !(!e)) = true ↔ (i ≠ b ∨ e = true) := by
  rw [Bool.or_eq_true, Bool.not_eq_true', decide_eq_false_iff_not, Bool.not_not]
  exact or_congr ⟨fun h q => h (by omega), fun h q => h (by omega)⟩ Iff.rfl
section
variable {K : PySem.W.Frag} {H : Hp} {F : FS} {W : Hp → Prop} {σ : L2.St} {te : TE} {p : Int} {m : List Str} {h : Str}
theorem dn_strs0 (wo : Wo F W) : DvN K F W (tCall (spDN K (preStrs m)) [] E0 tNil) σ H (strsD m) := dn_sp wo (fun _ _ _ => va_nil) (fun _ _ _ => ⟨rfl, rfl⟩)
theorem dn_named (wo : Wo F W) (hl : m.length = 6) (ht : ∀ H1, Mv F H F H1 → Ok F W H1 → Val te σ H1 (.int p)) : DvN K F W (tCall (spDN K (preNamed K)) [] E0 (tCons (tCall (spDN K (preStrs m)) [] E0 tNil) (tCons te tNil))) σ H (strsD (namedF p 0 m)) :=
  dn_spD (es := [.list (strsD m), .int p]) wo (da_cons (dn_strs0 wo).dv (da_cons (dv_i ht) da_nil)) fun vs H1 m1 o1 hv => by
    cases hv with | cons z1 hv => cases hv with | cons z2 hv =>
    cases hv
    cases z2
    exact ⟨_, m, p, rfl, z1, hl, rfl⟩
theorem dv_bits (wo : Wo F W) (hl : m.length = 6) (hh : h.length ≤ 6) (hm : ∀ s ∈ m, s.length ≤ 6) (ht : ∀ H1, Mv F H F H1 → Ok F W H1 → Val te σ H1 (.int p)) :
    Dv K F W (tM1 (rJoin K) (tC (.str " ")) (tOp rCat (tLst (tCons (tC (.str h)) tNil)) (tCall (spDN K (preNamed K)) [] E0 (tCons (tCall (spDN K (preStrs m)) [] E0 tNil) (tCons te tNil))))) σ H (.str (bitsS h p m)) := by
  have sm := bits_small (p := p) hh hm hl
  have nl := @namedF_len p 0 m
  refine dv_join (ys := h :: namedF p 0 m) dv_s (dv_catL (ds := [.str h]) (es := strsD (namedF p 0 m)) wo (dv_lst wo (da_cons dv_s da_nil)) (dn_named wo hl ht).dv ?_) ?_
  · unfold strsD; rw [List.length_map]; simp; omega
  · rw [show (" " : Str).length = 1 by decide]; omega
theorem gets_at {ss : List Str} {i : Int} (h1 : i < (ss.length : Int)) (h0 : 0 ≤ i) : (strsD ss)[i.toNat]? = some (.str (ss.getD i.toNat Str.empty)) := by
  have hl : i.toNat < ss.length := by omega
  unfold strsD
  rw [List.getElem?_map, List.getElem?_eq_getElem hl]
  simp [List.getD_eq_getElem?_getD, List.getElem?_eq_getElem hl]
end
theorem ps_never {X : Cx} {st : Stmt} : PS X st (fun _ _ _ => False) := ⟨fun _ _ _ _ _ _ h => h.elim⟩
/-! ### the mirror of the scanning: over lists of signs -/
abbrev LN := List Nat
abbrev oL (l : LN) : Str := SX.S l
def azL : LN := TL.tl "abcdefghijklmnopqrstuvwxyz"
def azdL : LN := TL.tl "abcdefghijklmnopqrstuvwxyz0123456789"
def digL : LN := TL.tl "0123456789"
def kindsN : List LN := kindsS.map TL.tl
def asksN : List LN := asksS.map TL.tl
def chgN : List LN := chgS.map TL.tl
def tstN : List LN := tstS.map TL.tl
def othersS : List Str := ["place", "word", "far", "ask", "change", "test", "here"]
def othersN : List LN := othersS.map TL.tl
def sL (s : String) : LN := s.toList.map Char.toNat
theorem sL_eq (s : String) : TL.tl (Str.ofString s) = sL s := TL.tl_ofString s
def resN (t : LN) : Bool := decide (t ∈ kindsN) || (decide (t ∈ asksN) || (decide (t ∈ chgN) || (decide (t ∈ tstN) || decide (t ∈ othersN))))
def hdAz : LN → Bool
  | [] => false
  | c :: _ => decide (c ∈ azL)
def isNameL (t : LN) : Bool := decide (1 ≤ t.length ∧ t.length ≤ 8) && hdAz t && t.all (fun c => decide (c ∈ azdL)) && !resN t
def isNumL (t : LN) : Bool := decide (1 ≤ t.length ∧ t.length ≤ 4) && t.all (fun c => decide (c ∈ digL))
def hereL : LN := TL.tl "here"
def okT (t : LN) : Bool := isNameL t || (isNumL t || decide (t = hereL))
/-- terms: the sign, the signs so far, what is left -/
def termsG : Int → LN → LN → Option (List (Int × LN))
  | s, cur, [] => if okT cur = true then some [(s, cur)] else none
  | s, cur, c :: r => if c = 43 ∨ c = 45 then (if okT cur = true then (termsG (if c = 45 then -1 else 1) [] r).map ((s, cur) :: ·) else none) else termsG s (cur ++ [c]) r
def termsL (t : LN) : Option (List (Int × LN)) := termsG 1 [] t
def weightG (names : List LN) : List LN → Int → List LN → Option Int
  | _, a, [] => some a
  | seen, a, x :: r => if x ∉ names ∨ x ∈ seen then none else weightG names (seen ++ [x]) (a + wtsV.getD (names.idxOf x) 1) r
def weightL (names : List LN) (found : List LN) : Option Int := weightG names [] 0 found
inductive Dd where
  | place (ts : List (Int × LN)) | word (ts : List (Int × LN)) | made (n : Int) | aim (b : Int) (ts : List (Int × LN)) | pool (b : Int) (ts : List (Int × LN))
deriving DecidableEq
def aimG (kind far : Int) : List LN → Option Dd
  | [t] => match t with
    | 61 :: r => (termsL r).map (Dd.pool (128 * kind + 64 * far))
    | t => (termsL t).map (Dd.aim (128 * kind + 64 * far))
  | _ => none
def farL : LN := TL.tl "far"
def aimedL (kind : Int) (found : List LN) : Option Dd := match found with
  | [] => none
  | f :: r => if f = farL then aimG kind 1 r else aimG kind 0 (f :: r)
def placeL : LN := TL.tl "place"
def wordL : LN := TL.tl "word"
def askL : LN := TL.tl "ask"
def changeL : LN := TL.tl "change"
def testL : LN := TL.tl "test"
def one1 {α : Type} (f : LN → Option α) : List LN → Option α
  | [t] => f t
  | _ => none
theorem one1_none {α : Type} {f : LN → Option α} {r : List LN} (h : r.length ≠ 1) : one1 f r = none := by
  match r with
  | [] => rfl
  | [_] => exact absurd rfl h
  | _ :: _ :: _ => rfl
/-- deed_of: of a list that is not empty -/
def deedC (head : LN) (r : List LN) : Option Dd :=
  if head = placeL ∨ head = wordL then one1 (fun t => (termsL t).map (if head = placeL then Dd.place else Dd.word)) r
  else if head = askL then one1 (fun t => if t ∈ asksN then some (.made (768 + (asksN.idxOf t : Nat))) else none) r
  else if head = changeL ∧ (weightL chgN r).isSome = true then some (.made (896 + (weightL chgN r).getD 0))
  else if head = testL ∧ (weightL tstN r).isSome = true then some (.made (960 + (weightL tstN r).getD 0))
  else if head ∈ kindsN then aimedL (kindsN.idxOf head : Nat) r
  else none
def deedL : List LN → Option Dd
  | [] => none
  | head :: r => deedC head r
def cutAt (c : Nat) : LN → List LN
  | [] => [[]]
  | x :: r => if x = c then [] :: cutAt c r else (match cutAt c r with | [] => [[x]] | h :: t => (x :: h) :: t)
def piecesL (line : LN) : List LN := (cutAt 32 ((cutAt 59 line).headD [])).filter fun p => !p.isEmpty
def colonL : LN := TL.tl ":"
def restL (lab : Option LN) : List LN → Option (Option LN × Option Dd)
  | [] => some (lab, none)
  | f :: r => (deedL (f :: r)).map fun d => (lab, some d)
def readP : List LN → Option (Option LN × Option Dd)
  | [] => some (none, none)
  | f :: r => if f.getLast? = some 58 then (if isNameL f.dropLast = true then restL (some f.dropLast) r else none) else restL none (f :: r)
def readL (line : LN) : Option (Option LN × Option Dd) := readP (piecesL line)
/-! ### the mirror of the goings over -/
inductive Er where
  | deed | twice | name | bounds | taken
deriving DecidableEq
abbrev Lab := List (LN × Int)
def labGet (ls : Lab) (x : LN) : Option Int := (ls.find? fun q => decide (q.1 = x)).map (·.2)
def numV (t : LN) : Int := (NumText.digitsVal t : Nat)
def amountL (labels : Lab) (here : Int) : Int → List (Int × LN) → Option Int
  | a, [] => some a
  | a, (s, one) :: r => if isNumL one = true then amountL labels here (a + s * numV one) r
    else if one = hereL then amountL labels here (a + s * here) r
    else match labGet labels one with
      | some v => amountL labels here (a + s * v) r
      | none => none
def withinL (a most : Int) (k : Nat) : Except (Er × Nat) Int := if 0 ≤ a ∧ a ≤ most then .ok a else .error (.bounds, k)
def amtL (labels : Lab) (here : Int) (ts : List (Int × LN)) (k : Nat) : Except (Er × Nat) Int := match amountL labels here 0 ts with
  | some a => .ok a
  | none => .error (.name, k)
def tellL (labels : Lab) (l : Option LN) (at_ : Int) (k : Nat) : Except (Er × Nat) Lab := match l with
  | none => .ok labels
  | some x => if (labGet labels x).isSome = true then .error (.twice, k) else .ok (labels ++ [(x, at_)])
/-- the place behind a deed, in the first going over -/
def moveG (labels : Lab) (at_ : Int) (k : Nat) : Option Dd → Except (Er × Nat) Int
  | none => .ok at_
  | some (.place ts) => match amtL labels at_ ts k with
    | .error e => .error e
    | .ok b => withinL b 63 k
  | some _ => withinL (at_ + 1) 64 k
/-- one line of the first going over -/
def goneStep (line : LN) (labels : Lab) (at_ : Int) (k : Nat) : Except (Er × Nat) (Option Dd × Lab × Int) := match readL line with
  | none => .error (.deed, k)
  | some (l, d) => match tellL labels l at_ k with
    | .error e => .error e
    | .ok labels => match moveG labels at_ k d with
      | .error e => .error e
      | .ok a => .ok (d, labels, a)
def goneG : List (Option Dd) → Lab → Int → Nat → List LN → Except (Er × Nat) (List (Option Dd) × Lab)
  | acc, labels, _, _, [] => .ok (acc, labels)
  | acc, labels, at_, k, line :: r => match goneStep line labels at_ k with
    | .error e => .error e
    | .ok (d, labels, at_) => goneG (acc ++ [d]) labels at_ (k + 1) r
def goneL (lines : List LN) : Except (Er × Nat) (List (Option Dd) × Lab) := goneG [] [] 0 1 lines
abbrev Made := List (Int × Int)
def madeGet (m : Made) (x : Int) : Option Int := (m.find? fun q => decide (q.1 = x)).map (·.2)
def makeL (m : Made) (at_ n : Int) (k : Nat) : Except (Er × Nat) Made := if (madeGet m at_).isSome = true ∨ at_ < 0 then .error (.taken, k) else .ok (m ++ [(at_, n)])
def poolL (m : Made) (pool : List Int) (n : Int) (k : Nat) : Except (Er × Nat) (Made × List Int × Int) :=
  if n ∈ pool then .ok (m, pool, 63 - (pool.idxOf n : Nat))
  else match makeL m (63 - (pool.length : Nat)) n k with
    | .error e => .error e
    | .ok m => .ok (m, pool ++ [n], 63 - (pool.length : Nat))
/-- the amount of terms, within a bound -/
def amtW (labels : Lab) (at_ : Int) (ts : List (Int × LN)) (most : Int) (k : Nat) : Except (Er × Nat) Int := match amtL labels at_ ts k with
  | .error e => .error e
  | .ok a => withinL a most k
/-- the word of a deed -/
def wordOf (labels : Lab) (m : Made) (pool : List Int) (at_ : Int) (k : Nat) : Dd → Except (Er × Nat) (Made × List Int × Int)
  | .place _ => .ok (m, pool, 0)
  | .made n => .ok (m, pool, n)
  | .word ts => match amtW labels at_ ts 1023 k with
    | .error e => .error e
    | .ok a => .ok (m, pool, a)
  | .aim b ts => match amtW labels at_ ts 63 k with
    | .error e => .error e
    | .ok a => .ok (m, pool, b + a)
  | .pool b ts => match amtW labels at_ ts 1023 k with
    | .error e => .error e
    | .ok a => match poolL m pool a k with
      | .error e => .error e
      | .ok q => .ok (q.1, q.2.1, b + q.2.2)
def cellStep (labels : Lab) (m : Made) (pool : List Int) (at_ : Int) (k : Nat) : Option Dd → Except (Er × Nat) (Made × List Int × Int)
  | none => .ok (m, pool, at_)
  | some (.place ts) => match amtL labels at_ ts k with
    | .error e => .error e
    | .ok a => .ok (m, pool, a)
  | some d => match wordOf labels m pool at_ k d with
    | .error e => .error e
    | .ok q => match makeL q.1 at_ q.2.2 k with
      | .error e => .error e
      | .ok m => .ok (m, q.2.1, at_ + 1)
def cellsG (labels : Lab) : Made → List Int → Int → Nat → List (Option Dd) → Except (Er × Nat) Made
  | m, _, _, _, [] => .ok m
  | m, pool, at_, k, d :: r => match cellStep labels m pool at_ k d with
    | .error e => .error e
    | .ok (m, pool, at_) => cellsG labels m pool at_ (k + 1) r
def cellsOf (m : Made) : List Int := (List.range 64).map fun (k : Nat) => (madeGet m (k : Int)).getD 0
def assembledL (text : LN) : Except (Er × Nat) (List Int) := match goneL (cutAt 10 text) with
  | .error e => .error e
  | .ok (deeds, labels) => match cellsG labels [] [] 0 1 deeds with
    | .error e => .error e
    | .ok m => .ok (cellsOf m)
/-! ### as data -/
def termD (q : Int × LN) : PyData := .tuple [.int q.1, .str (oL q.2)]
def termsD (ts : List (Int × LN)) : PyData := .list (ts.map termD)
def oD {α : Type} (f : α → PyData) : Option α → PyData
  | none => .none
  | some a => f a
def deedD : Dd → PyData
  | .place ts => .tuple [.str "place", termsD ts]
  | .word ts => .tuple [.str "word", termsD ts]
  | .made n => .tuple [.str "made", .int n]
  | .aim b ts => .tuple [.str "aim", .int b, termsD ts]
  | .pool b ts => .tuple [.str "pool", .int b, termsD ts]
def lnD (l : LN) : PyData := .str (oL l)
def readD (q : Option LN × Option Dd) : PyData := .tuple [oD lnD q.1, oD deedD q.2]
/-! ### k37, k38: the drawn cells -/
theorem fE_ints {g : Nat → Int → Int} {P : Int → Prop} : ∀ (cs : List Int) (k : Nat), (∀ x ∈ cs, ∀ i, P (g i x)) → ∃ cs', fE (fun _ _ => true) (fun i n => .int (g i n)) k cs = intsL cs' ∧ cs'.length = cs.length ∧ ∀ x ∈ cs', P x
  | [], _, _ => ⟨[], rfl, rfl, fun x h => by cases h⟩
  | c :: r, k, h => by
    obtain ⟨cs', e1, e2, e3⟩ := fE_ints (g := g) r (k + 1) fun x hx => h x (List.mem_cons_of_mem _ hx)
    refine ⟨g k c :: cs', by rw [fE, if_pos rfl, e1]; rfl, by rw [List.length_cons, List.length_cons, e2], fun x hx => ?_⟩
    rcases List.mem_cons.mp hx with q | q
    · exact q ▸ h c List.mem_cons_self k
    · exact e3 x q
def zeros38 : List Int := List.replicate 64 0
theorem zeros_eq : fmD (fun _ => true) (fun _ => PyData.int 0) (List.range (64 : Int).toNat) = intsL zeros38 := rfl
theorem zeros_in : zeros38.length = 64 ∧ ∀ x ∈ zeros38, (0 : Int) ≤ x ∧ x < 1024 := by decide
theorem spars {n z : Int} (h : 0 ≤ n ∧ n < 1024) (b : Bool) : 0 ≤ n * (if b = true then 1 else 0) ∧ n * (if b = true then 1 else 0) < 1024 := by
  cases b
  · simp
  · simpa using h
theorem set_in {cs : List Int} {i : Nat} {v : Int} (h : ∀ c ∈ cs, 0 ≤ c ∧ c < 1024) (hv : 0 ≤ v ∧ v < 1024) : ∀ c ∈ cs.set i v, 0 ≤ c ∧ c < 1024 := mem_set_in h hv
theorem intsL_set {cs : List Int} {i : Nat} {v : Int} : (intsL cs).set i (.int v) = intsL (cs.set i v) := by unfold intsL; rw [List.map_set]
def dueF : Nat → Bool → List Int → List Str
  | _, _, [] => []
  | k, z, n :: r => if 0 < n then (if z = true then ["place " ++ toS (k : Int)] else []) ++ lineS n :: dueF (k + 1) false r else dueF (k + 1) true r
theorem shown_due : ∀ {cs : List Int} {k b : Nat} {e z : Bool}, (∀ x ∈ cs, 0 ≤ x) → b ≤ k → ((k ≠ b ∨ e = true) ↔ z = true) → shownF k b e cs = dueF k z cs
  | [], _, _, _, _, _, _, _ => rfl
  | n :: r, k, b, e, z, h, hb, hz => by
    have h0 := h n List.mem_cons_self
    have hr : ∀ x ∈ r, 0 ≤ x := fun x hx => h x (List.mem_cons_of_mem _ hx)
    rw [shownF, dueF]
    by_cases g : n = 0
    · rw [if_pos g, if_neg (show ¬ 0 < n by omega)]
      exact shown_due hr (by omega) ⟨fun _ => rfl, fun _ => .inl (by omega)⟩
    · rw [if_neg g, if_pos (show 0 < n by omega), shown_due (k := k + 1) (b := k + 1) (e := false) (z := false) hr (Nat.le_refl _) ⟨fun q => q.elim (fun q => absurd rfl q) (fun q => by cases q), fun q => by cases q⟩]
      by_cases c : k ≠ b ∨ e = true
      · rw [if_pos c, if_pos (hz.mp c)]
      · rw [if_neg c, if_neg (fun q => c (hz.mpr q))]
theorem dueF_in {cs : List Int} (h : ∀ x ∈ cs, 0 ≤ x ∧ x < 1024) (hl : cs.length ≤ 64) : (dueF 0 true cs).length ≤ 2 * cs.length ∧ ∀ s ∈ dueF 0 true cs, s.length ≤ 50 := by
  rw [← shown_due (b := 0) (e := true) (fun x hx => (h x hx).1) (Nat.le_refl _) ⟨fun _ => rfl, fun _ => .inr rfl⟩]
  exact shownF_in h (by omega)
section
variable {K : PySem.W.Frag} {H H0 : Hp} {F : FS} {W : Hp → Prop} {D : Addr} {cs : List Int}
theorem own_ints (wo : Wo F W) (o : Ok F W H) (hD : H D = none) (ns : List Int) : Own K H F W D (upd H D (.lst (ns.map V.int))) (intsL ns) :=
  ⟨hD, o.fa.no hD, .same (smN hD), o.same wo (smN hD), _, upd_same, daAll_ints ns⟩
theorem Own.mvF (h : Own K H0 F W D H ds) : Mv F H0 (withF F D) H := ⟨h.mv.keep, fun b f => f.elim (fun f => h.mv.new b f) (fun e => .inr (by rw [e]; exact h.fr))⟩
theorem Own.re (h : Own K H0 F W D H ds) (e : ds = es) : Own K H0 F W D H es := e ▸ h
end
section
variable {K : PySem.W.Frag} {H : Hp} {F : FS} {W : Hp → Prop} {σ : L2.St} {ta : TE} {a : Addr} {ns : List Int}
/-- a slice of the script -/
theorem dn_scr {lo hi : Option Int} {tlo thi : TO} (hS : SF K H F a ns) (h : Val ta σ H (.ref a)) (hv : ∀ H1, Mv F H F H1 → Ok F W H1 → Val ta σ H1 (.ref a)) (h1 : ∀ H (Q : Option Int → Hp → Prop), Q lo H → tlo σ H Q) (h2 : ∀ H (Q : Option Int → Hp → Prop), Q hi H → thi σ H Q) (wo : Wo F W) : DvN K F W (tSl (rSlL K) ta tlo thi) σ H (intsL (cutD ns lo hi)) := by
  have e : intsL (cutD ns lo hi) = cutD (intsL ns) lo hi := by unfold cutD intsL; simp
  rw [e]
  exact dn_new wo (fun H1 m o => nl_slice (hv H1 m o) (hS.mv m).sq (h1 H1) (h2 H1)) (fun H1 _ _ => (daAll_ints ns).cut lo hi)
theorem daI {H : Hp} {x : V} {ds : List Int} {vs : List V} {i : Nat} (h : DaAll K H F vs (intsL ds)) (hx : vs[i]? = some x) : ∃ c, x = .int c ∧ ds[i]? = some c := by
  obtain ⟨d, hd, hv⟩ := h.getV i hx
  unfold intsL at hd
  rw [List.getElem?_map] at hd
  obtain ⟨c, hc, rfl⟩ := Option.map_eq_some_iff.mp hd
  cases hv
  exact ⟨c, rfl, hc⟩
end
theorem Da.sqI {K : PySem.W.Frag} {H : Hp} {F : FS} {a : Addr} {ns : List Int} (h : Da K H F (.ref a) (.list (Ch.intsL ns))) : SqL K H a (ns.map V.int) := by
  cases h with | lst h1 h2 =>
  have e := h2.ints
  subst e
  exact SqL.of h1.at_
theorem getD_at38 {cs : List Int} {i : Nat} {n : Int} (h : cs[i]? = some n) : cs.getD i 0 = n := by rw [List.getD_eq_getElem?_getD, h]; rfl
/-! ### readings over lists of signs -/
section
variable {σ : L2.St} {H : Hp} {K : PySem.W.Frag} {te ta tb tl : TE} {tlo thi : TO} {t u : LN} {i : Int} {c k : Nat} {a : Addr} {tz tb' : TS} {N : L2.St → Hp → Prop} {R : VK} {B C' : L2.St → Hp → Prop} {lo hi : Option Int}
theorem oL_tl (s : Str) : oL (TL.tl s) = s := TL.mk_tl s
theorem dec_oL : decide (oL t = oL u) = decide (t = u) := by
  by_cases h : t = u
  · subst h; simp
  · rw [decide_eq_false h, decide_eq_false fun e => h (SX.S_inj e)]
theorem v_lenS (h : Val ta σ H (.str (oL t))) (hl : t.length ≤ 100000) : Val (tCB (fun xs H Q => ∃ z, xs = [.str z] ∧ z.length ≤ sizeLine ∧ Q (.int (z.length : Int)) H) (tCons ta tNil)) σ H (.int (t.length : Int)) :=
  v_cb (va_cons h va_nil) fun _ q => ⟨_, rfl, by rw [SX.S_len]; exact Nat.le_trans hl (by rw [sizeLine_eq]; decide), by rw [SX.S_len]; exact q⟩
theorem at_ofN (h0 : 0 ≤ i) (hx : t[i.toNat]? = some c) : atI (oL t).cps.toList i = some c := by
  have hlt := (List.getElem?_eq_some_iff.mp hx).1
  unfold atI
  rw [show (oL t).cps.toList = t from rfl, ixN_int h0 (by omega), Option.bind_some]
  exact hx
theorem v_ixS (ha : Val ta σ H (.str (oL t))) (hb : Val tb σ H (.int i)) (hl : t.length ≤ 100000) (h0 : 0 ≤ i) (hx : t[i.toNat]? = some c) : Val (tOp rIxS ta tb) σ H (.str (oL [c])) :=
  val_op ha hb fun _ q => ⟨oL t, i, c, rfl, rfl, by rw [SX.S_len]; exact Nat.le_trans hl (by rw [sizeLine_eq]; decide), at_ofN h0 hx, q⟩
theorem cutS_oL (t : LN) (lo hi : Option Int) : cutS (oL t) lo hi = oL (cutD t lo hi) := by
  unfold cutS cutD
  rw [SX.S_len]
theorem v_slS (ha : Val ta σ H (.str (oL t))) (h1 : ∀ Q : Option Int → Hp → Prop, Q lo H → tlo σ H Q) (h2 : ∀ Q : Option Int → Hp → Prop, Q hi H → thi σ H Q) (hl : t.length ≤ 100000) : Val (tSl rSlS ta tlo thi) σ H (.str (oL (cutD t lo hi))) := fun _ q =>
  ha _ (h1 _ (h2 _ ⟨oL t, rfl, by rw [SX.S_len]; exact Nat.le_trans hl (by rw [sizeLine_eq]; decide), by rw [cutS_oL]; exact q⟩))
theorem v_inS1 (ha : Val ta σ H (.str (oL [c]))) (hb : Val tb σ H (.str (oL t))) : Val (tOp rInS ta tb) σ H (.bl (decide (c ∈ t))) := val_op ha hb fun _ q => ⟨c, oL t, rfl, rfl, q⟩
theorem v_notInS1 (ha : Val ta σ H (.str (oL [c]))) (hb : Val tb σ H (.str (oL t))) : Val (tOp rNotInS ta tb) σ H (.bl (!decide (c ∈ t))) := val_op ha hb fun _ q => ⟨c, oL t, rfl, rfl, q⟩
theorem inV_strs (s : Str) : ∀ ss : List Str, inV (.str s) (ss.map V.str) = decide (s ∈ ss)
  | [] => rfl
  | x :: r => by
    have ih := inV_strs s r
    unfold inV at ih ⊢
    rw [List.map_cons, List.any_cons, ih]
    show ((x == s) || decide (s ∈ r)) = decide (s ∈ x :: r)
    by_cases h : s = x
    · subst h; simp
    · rw [show (x == s) = false from beq_eq_false_iff_ne.mpr fun e => h e.symm, Bool.false_or]
      exact decide_eq_decide.mpr ⟨fun q => List.mem_cons_of_mem _ q, fun q => (List.mem_cons.mp q).elim (fun e => absurd e h) id⟩
theorem mem_tl {ss : List Str} : oL t ∈ ss ↔ t ∈ ss.map TL.tl := ⟨fun h => List.mem_map.mpr ⟨_, h, rfl⟩, fun h => by obtain ⟨s, hs, e⟩ := List.mem_map.mp h; rw [← e, oL_tl]; exact hs⟩
/-- a text in a written tuple of texts -/
theorem v_inT {ss : List Str} (ha : Val ta σ H (.str (oL t))) (hb : Val tb σ H (.ref a)) (h : SqT K H a (ss.map V.str)) : Val (tOp (rIn K false) ta tb) σ H (.bl (decide (t ∈ ss.map TL.tl))) :=
  val_op ha hb fun _ q => ⟨a, _, rfl, .inr h, rfl, flat_strs ss, by rw [if_neg Bool.false_ne_true, inV_strs, decide_eq_decide.mpr mem_tl]; exact q⟩
theorem v_notInT {ss : List Str} (ha : Val ta σ H (.str (oL t))) (hb : Val tb σ H (.ref a)) (h : SqT K H a (ss.map V.str)) : Val (tOp (rIn K true) ta tb) σ H (.bl (!decide (t ∈ ss.map TL.tl))) :=
  val_op ha hb fun _ q => ⟨a, _, rfl, .inr h, rfl, flat_strs ss, by rw [if_pos rfl, inV_strs, decide_eq_decide.mpr mem_tl]; exact q⟩
theorem v_eqO (ha : Val ta σ H (.str (oL t))) (hb : Val tb σ H (.str (oL u))) : Val (tOp rEq ta tb) σ H (.bl (decide (t = u))) := v_eqv (v_eqS ha hb) (congrArg V.bl dec_oL)
theorem v_neO (ha : Val ta σ H (.str (oL t))) (hb : Val tb σ H (.str (oL u))) : Val (tOp rNe ta tb) σ H (.bl (!decide (t = u))) := v_eqv (v_neS ha hb) (congrArg (fun b => V.bl (!b)) dec_oL)
theorem v_lit {s : String} : Val (tC (.str (Str.ofString s))) σ H (.str (oL (TL.tl (Str.ofString s)))) := v_eqv v_c (by rw [oL_tl])
/-- for c in a text -/
theorem s_forS (h : Val te σ H (.str (oL t))) (Pv : Nat → L2.St → Hp → Prop) (h0 : Pv 0 σ H)
    (hs : ∀ (i : Nat) (c : Nat) σ' H', t[i]? = some c → Pv i σ' H' → tb' ⟨Pv (i + 1), R, N, Pv (i + 1)⟩ (σ'.set k (some (.str (oL [c])))) H') (hd : ∀ σ' H', Pv t.length σ' H' → N σ' H') : tFor (iStr te) (gName k) tb' ⟨N, R, B, C'⟩ σ H :=
  h _ ⟨oL t, rfl, for_it (walk_str (z := oL t)) (D := ⟨N, R, B, C'⟩) Pv h0 (fun _ _ _ _ _ => trivial) (fun i x σ' H1 H' hi p y => by
    obtain ⟨rfl, c, hc, rfl⟩ := y
    exact hs i c σ' _ (by simpa using hc) p) (by
      intro σ' H' p
      have e : (oL t).cps.size = t.length := by simp [oL, SX.S]
      rw [e] at p
      exact hd σ' H' p)⟩
theorem q_forS (h : Val te σ H (.str (oL t))) (Pv : Nat → L2.St → Hp → Prop) (h0 : Pv 0 σ H)
    (hs : ∀ (i : Nat) (c : Nat) σ' H', t[i]? = some c → Pv i σ' H' → tb' ⟨Pv (i + 1), R, tz ⟨N, R, B, C'⟩, Pv (i + 1)⟩ (σ'.set k (some (.str (oL [c])))) H') (hd : ∀ σ' H', Pv t.length σ' H' → tz ⟨N, R, B, C'⟩ σ' H') : tSeq (tFor (iStr te) (gName k) tb') tz ⟨N, R, B, C'⟩ σ H :=
  s_forS (N := tz ⟨N, R, B, C'⟩) (B := B) (C' := C') h Pv h0 hs hd
end
theorem all_take {p : Nat → Bool} {t : LN} {i c : Nat} (h : t[i]? = some c) (ha : (t.take i).all p = true) (hc : p c = true) : (t.take (i + 1)).all p = true := by
  rw [List.take_add_one, h, List.all_append, ha]; simpa using hc
theorem all_false {p : Nat → Bool} {t : LN} {i c : Nat} (h : t[i]? = some c) (hc : p c = false) : t.all p = false := by
  cases e : t.all p with
  | false => rfl
  | true => rw [List.all_eq_true.mp e c (List.mem_of_getElem? h)] at hc; cases hc
def spName : Sp := fun vs H Q _ => ∃ t : LN, vs = [.str (oL t)] ∧ t.length ≤ 100000 ∧ Q (.bl (isNameL t)) H
def spNum : Sp := fun vs H Q _ => ∃ t : LN, vs = [.str (oL t)] ∧ t.length ≤ 100000 ∧ Q (.bl (isNumL t)) H
/-! ### terms, weights: promises and readings -/
def preTerms (vs : List V) (_ : Hp) (_ : FS) (_ : Hp → Prop) (d : PyData) : Prop := ∃ t : LN, vs = [.str (oL t)] ∧ t.length ≤ 90000 ∧ d = oD termsD (termsL t)
def lnsD (fs : List LN) : PyData := .list (fs.map lnD)
def preWeight (K : PySem.W.Frag) (vs : List V) (H : Hp) (F : FS) (_ : Hp → Prop) (d : PyData) : Prop := ∃ (v : V) (fs : List LN) (a : Addr) (ss : List Str), vs = [v, .ref a] ∧ Da K H F v (lnsD fs) ∧ (∀ H', SqT K H' a (ss.map V.str)) ∧ (∀ H', tyV K "tuple" (.ref a) H') ∧ ss.length = 6 ∧ fs.length ≤ 90000 ∧ d = oD PyData.int (weightL (ss.map TL.tl) fs)
section
variable {σ : L2.St} {H H' : Hp} {K : PySem.W.Frag} {F : FS} {W : Hp → Prop} {te ta tb tl : TE} {tA : TA} {t u : LN} {fs : List LN} {i : Int} {c k : Nat} {a : Addr} {v : V} {d : PyData} {ss : List Str}
theorem oLs : ∀ {vs : List V} {fs : List LN}, DaAll K H F vs (fs.map lnD) → vs = fs.map fun l => V.str (oL l)
  | [], [], _ => rfl
  | _ :: _, _ :: _, h => by
    cases h with | cons h1 h2 =>
    cases h1
    rw [oLs h2]; rfl
  | [], _ :: _, h => by cases h
  | _ :: _, [], h => by cases h
theorem da_lns : ∀ fs : List LN, DaAll K H F (fs.map fun l => V.str (oL l)) (fs.map lnD)
  | [] => .nil
  | _ :: r => .cons (.str _) (da_lns r)
theorem Da.lns (h : Da K H F v (lnsD fs)) : ∃ a, v = .ref a ∧ SqL K H a (fs.map fun l => V.str (oL l)) := by
  cases h with | lst h1 h2 =>
  have e := oLs h2
  subst e
  exact ⟨_, rfl, SqL.of h1.at_⟩
theorem inV_lns (t : LN) (fs : List LN) : inV (.str (oL t)) (fs.map fun l => V.str (oL l)) = decide (t ∈ fs) := by
  have e : (fs.map fun l => V.str (oL l)) = (fs.map oL).map V.str := by rw [List.map_map]; rfl
  rw [e, inV_strs]
  refine decide_eq_decide.mpr ⟨fun h => ?_, fun h => List.mem_map_of_mem h⟩
  obtain ⟨x, hx, e⟩ := List.mem_map.mp h
  exact SX.S_inj e ▸ hx
theorem flat_lns (fs : List LN) : (fs.map fun l => V.str (oL l)).all flatV = true := by
  rw [List.all_map]
  exact List.all_eq_true.mpr fun _ _ => rfl
theorem am_inL (ha : ∀ H1, Mv F H F H1 → Ok F W H1 → Val ta σ H1 (.str (oL t))) (hb : Dv K F W tb σ H (lnsD fs)) : AnsM F W (tTest (tOp (rIn K false) ta tb)) σ H (decide (t ∈ fs)) := fun H1 m o Q q =>
  ha H1 m o _ (hb H1 m o _ fun v' H3 m3 o3 hv' => by
    obtain ⟨p, rfl, hp⟩ := hv'.lns
    exact ⟨p, _, rfl, .inl hp, rfl, flat_lns fs, _, rfl, by rw [if_neg Bool.false_ne_true, inV_lns]; exact q _ m3 o3⟩)
def rTupIx (K : PySem.W.Frag) : V → List V → Hp → VK → Prop := fun x xs H Q => ∃ p, ∃ ys : List Str, ∃ z j, x = .ref p ∧ xs = [.str z] ∧ SqT K H p (ys.map V.str) ∧ ys[j]? = some z ∧ (∀ m, m < j → ys[m]? ≠ some z) ∧ Q (.int (j : Nat)) H
theorem idx_at : ∀ {ns : List LN} {t : LN}, t ∈ ns → ns[ns.idxOf t]? = some t ∧ (∀ m, m < ns.idxOf t → ns[m]? ≠ some t) ∧ ns.idxOf t < ns.length := by
  intro ns t h
  have hl := List.idxOf_lt_length_of_mem h
  refine ⟨?_, fun m hm e => ?_, hl⟩
  · rw [List.getElem?_eq_getElem hl]
    exact congrArg some (List.getElem_idxOf hl)
  · obtain ⟨h1, h2⟩ := List.getElem?_eq_some_iff.mp e
    have := List.not_of_lt_findIdx (p := fun x => x == t) (xs := ns) (i := m) hm
    rw [h2] at this
    simp at this
theorem v_tidx (ha : Val ta σ H (.ref a)) (ty : tyV K "tuple" (.ref a) H) (hb : Val tb σ H (.str (oL t))) (h : SqT K H a (ss.map V.str)) (hm : t ∈ ss.map TL.tl) : Val (tBM K "tuple" (rTupIx K) ta (tCons tb tNil)) σ H (.int ((ss.map TL.tl).idxOf t : Nat)) := fun Q q => by
  obtain ⟨e1, e2, e3⟩ := idx_at hm
  refine ha _ ⟨ty, va_cons hb va_nil _ ⟨a, ss, oL t, (ss.map TL.tl).idxOf t, rfl, rfl, h, ?_, fun m hm e => ?_, q⟩⟩
  · rw [List.getElem?_map] at e1
    obtain ⟨s, hs, e⟩ := Option.map_eq_some_iff.mp e1
    rw [hs, ← e, oL_tl]
  · exact e2 m hm (by rw [List.getElem?_map, e]; rfl)
end
theorem take_drop_step {t : LN} {i beg c : Nat} (h : t[i]? = some c) (hb : beg ≤ i) : (t.take (i + 1)).drop beg = (t.take i).drop beg ++ [c] := by
  have hl := (List.getElem?_eq_some_iff.mp h).1
  rw [List.take_add_one, h, List.drop_append_of_le_length (by rw [List.length_take]; omega)]
  rfl
theorem drop_at {α : Type} {t : List α} {i : Nat} {c : α} (h : t[i]? = some c) : t.drop i = c :: t.drop (i + 1) := by
  obtain ⟨hl, e⟩ := List.getElem?_eq_some_iff.mp h
  rw [List.drop_eq_getElem_cons hl, e]
theorem cut_nil (t : LN) (i : Nat) : (t.take i).drop i = [] := List.drop_eq_nil_of_le (by rw [List.length_take]; omega)
theorem idx_eq (ns : List LN) (t : LN) (h : t ∈ ns) (hl : ns.length = 6) : 0 < wtsV.getD (ns.idxOf t) 1 ∧ wtsV.getD (ns.idxOf t) 0 = wtsV.getD (ns.idxOf t) 1 := by
  have := (idx_at h).2.2
  exact ⟨(wts_in (by omega)).1, (wts_in (by omega)).2.2⟩
section
variable {K : PySem.W.Frag} {H H' : Hp} {F F1 : FS} {W : Hp → Prop} {σ : L2.St} {t : TT} {t1 t2 : TS} {N : L2.St → Hp → Prop} {R : VK} {B C' : L2.St → Hp → Prop} {tz : TS} {b : Bool}
theorem q_ifM (h : AnsM F W t σ H b) (o : Ok F W H) (h1 : b = true → ∀ H2, Mv F H F H2 → Ok F W H2 → t1 ⟨tz ⟨N, R, B, C'⟩, R, B, C'⟩ σ H2) (h2 : b = false → ∀ H2, Mv F H F H2 → Ok F W H2 → t2 ⟨tz ⟨N, R, B, C'⟩, R, B, C'⟩ σ H2) : tSeq (tIfS t t1 t2) tz ⟨N, R, B, C'⟩ σ H :=
  qx_if (x_am h o fun H2 m o2 => by
    cases b with
    | true => exact iteT (h1 rfl H2 m o2)
    | false => exact iteF (h2 rfl H2 m o2))
theorem s_ifM (h : AnsM F W t σ H b) (o : Ok F W H) (h1 : b = true → ∀ H2, Mv F H F H2 → Ok F W H2 → t1 ⟨N, R, B, C'⟩ σ H2) (h2 : b = false → ∀ H2, Mv F H F H2 → Ok F W H2 → t2 ⟨N, R, B, C'⟩ σ H2) : tIfS t t1 t2 ⟨N, R, B, C'⟩ σ H :=
  sx_if (x_am h o fun H2 m o2 => by
    cases b with
    | true => exact iteT (h1 rfl H2 m o2)
    | false => exact iteF (h2 rfl H2 m o2))
end
/-! ### None or data; calls with a constant beside data; split -/
def isNoneD : PyData → Bool
  | .none => true
  | _ => false
section
variable {K : PySem.W.Frag} {H H' : Hp} {F F1 : FS} {W : Hp → Prop} {σ : L2.St} {te ta tb tc : TE} {tA : TA} {v x y z : V} {d d1 d2 e : PyData} {ds : List PyData} {i j : Int} {t : LN} {c : Nat} {fs : List LN}
theorem isNone_da (h : Da K H F v d) : decide (v = .non) = isNoneD d := by cases h <;> rfl
theorem am_isN (ha : Dv K F W ta σ H d) : AnsM F W (tTest (tOp rIsN ta (tC .non))) σ H (isNoneD d) := fun H1 m o Q q =>
  ha H1 m o _ fun v H2 m2 o2 hv => ⟨rfl, _, rfl, by rw [isNone_da hv]; exact q _ m2 o2⟩
theorem am_notN (ha : Dv K F W ta σ H d) : AnsM F W (tTest (tOp rNotN ta (tC .non))) σ H (!isNoneD d) := fun H1 m o Q q =>
  ha H1 m o _ fun v H2 m2 o2 hv => ⟨rfl, _, rfl, by rw [isNone_da hv]; exact q _ m2 o2⟩
theorem dv_add (ha : Dv K F W ta σ H (.int i)) (hb : Dv K F W tb σ H (.int j)) : Dv K F W (tOp (rI0 fun i j => .int (i + j)) ta tb) σ H (.int (i + j)) := fun H1 m o _ q =>
  ha H1 m o _ fun v H2 m2 o2 hv => hb H2 (m.trans m2) o2 _ fun v' H3 m3 o3 hv' => by
    cases hv; cases hv'
    exact ⟨_, _, rfl, rfl, q _ _ (m2.trans m3) o3 (.int _)⟩
theorem dv_spA {pre : List V → Hp → FS → (Hp → Prop) → PyData → Prop} (wo : Wo F W) (h : Dv K F W ta σ H d1) (h2 : ∀ H1, Mv F H F H1 → Ok F W H1 → Val tb σ H1 y) (hp : ∀ v H1, Mv F H F H1 → Ok F W H1 → Da K H1 F v d1 → pre [v, y] H1 F W d) : Dv K F W (tCall (spDV K pre) [] E0 (tCons ta (tCons tb tNil))) σ H d := fun H1 m o _ q =>
  h H1 m o _ fun v H2 m2 o2 hv => h2 H2 (m.trans m2) o2 _ (by
    show spDV K pre ([v, y] ++ []) H2 _ E0
    rw [List.append_nil]
    exact ⟨F, W, d, wo, o2, hp v H2 (m.trans m2) o2 hv, fun v' H' m3 o3 hd => q v' H' (m2.trans m3) o3 hd⟩)
theorem dv_spB {pre : List V → Hp → FS → (Hp → Prop) → PyData → Prop} (wo : Wo F W) (h1 : ∀ H1, Mv F H F H1 → Ok F W H1 → Val ta σ H1 y) (h : Dv K F W tb σ H d1) (hp : ∀ v H1, Mv F H F H1 → Ok F W H1 → Da K H1 F v d1 → pre [y, v] H1 F W d) : Dv K F W (tCall (spDV K pre) [] E0 (tCons ta (tCons tb tNil))) σ H d := fun H1 m o _ q =>
  h1 H1 m o _ (h H1 m o _ fun v H2 m2 o2 hv => by
    show spDV K pre ([y, v] ++ []) H2 _ E0
    rw [List.append_nil]
    exact ⟨F, W, d, wo, o2, hp v H2 (m.trans m2) o2 hv, fun v' H' m3 o3 hd => q v' H' (m2.trans m3) o3 hd⟩)
/-! split at one sign -/
theorem cutAt_ne (c : Nat) : ∀ l : LN, cutAt c l ≠ []
  | [] => by simp [cutAt]
  | x :: r => by
    rw [cutAt]
    split
    · simp
    · cases cutAt c r <;> simp
theorem spl_cut (c : Nat) : ∀ (l acc : LN), TL.spl [c] 0 acc l = (match cutAt c l with | [] => [acc] | h :: t => (acc ++ h) :: t)
  | [], acc => by rw [TL.spl_nil, cutAt]; simp
  | x :: r, acc => by
    by_cases h : x = c
    · subst h
      rw [TL.spl_hit (by simp [TL.pre]), cutAt, if_pos rfl]
      show acc :: TL.spl [x] 0 [] r = _
      rw [spl_cut x r []]
      cases hr : cutAt x r with
      | nil => exact absurd hr (cutAt_ne x r)
      | cons a b => simp
    · rw [TL.spl_miss (by simp [TL.pre, h]), cutAt, if_neg h, spl_cut c r]
      cases cutAt c r <;> simp
theorem split_oL (t : LN) {c : Nat} (hc : c < 256) : Txt.split (oL t) (oL [c]) = (cutAt c t).map oL := by
  refine TL.map_tl_inj ?_
  rw [TL.split_spl (oL t) (oL [c]) (by simp [TL.tl, oL, SX.S]) (TL.kind_ok (by simpa [oL, SX.S] using hc))]
  show TL.spl [c] 0 [] t = _
  rw [spl_cut, List.map_map]
  have e : (cutAt c t).map (TL.tl ∘ oL) = cutAt c t := by
    have : (TL.tl ∘ oL : LN → LN) = id := rfl
    rw [this, List.map_id]
  rw [e]
  cases h : cutAt c t with
  | nil => exact absurd h (cutAt_ne c t)
  | cons a b => simp
abbrev rSplit : V → List V → Hp → VK → Prop := fun x xs H Q => ∃ a b, x = .str a ∧ xs = [.str b] ∧ (b.length == 0) = false ∧ a.length + 2 ≤ sizeLine ∧ rNewStrs (Txt.split a b) H Q
theorem dn_split {b : Str} (wo : Wo F W) (ha : Dv K F W ta σ H (.str (oL t))) (hb : b = oL [c]) (hc : c < 256) (hl : t.length ≤ 90000) : DvN K F W (tM1 rSplit ta (tC (.str b))) σ H ((cutAt c t).map lnD) := fun H1 m o _ q =>
  ha H1 m o _ fun v H2 m2 o2 hv => by
    cases hv
    subst hb
    refine ⟨⟨_, rfl⟩, ⟨_, _, rfl, rfl, by simp [SX.S_len], by rw [SX.S_len]; exact Nat.le_trans (by omega : t.length + 2 ≤ 100000) (by rw [sizeLine_eq]; decide), fun p hp => ?_⟩⟩
    rw [split_oL t hc]
    refine q p _ (o2.free m2 hp) (m2.trans (.same (smN hp))) (o2.same wo (smN hp)) ⟨_, upd_same, ?_⟩
    have : ((cutAt c t).map oL).map V.str = (cutAt c t).map fun l => V.str (oL l) := by rw [List.map_map]; rfl
    rw [this]
    exact da_lns _
end
/-! slices by -1 -/
theorem sIx_m1 (n d : Nat) : HT.sIx n d (some (-1)) = n - 1 := by
  show (if (-1 : Int) < 0 then ((-1 : Int) + (n : Int)).toNat else min (-1 : Int).toNat n) = n - 1
  rw [if_pos (by decide)]
  omega
theorem cut_last {t : LN} (h : t ≠ []) : cutD t (some (-1)) none = t.drop (t.length - 1) := by
  have hp := List.length_pos_iff.mpr h
  unfold cutD
  rw [sIx_m1, show HT.sIx t.length t.length none = t.length from rfl]
  rw [List.take_of_length_le (by rw [List.length_drop]; omega)]
theorem cut_init {t : LN} : cutD t none (some (-1)) = t.dropLast := by
  unfold cutD
  rw [sIx_m1, show HT.sIx t.length 0 none = 0 from rfl, List.drop_zero, Nat.sub_zero, List.dropLast_eq_take]
theorem last_eq {t : LN} (h : t ≠ []) (c : Nat) : (t.drop (t.length - 1) = [c]) ↔ t.getLast? = some c := by
  have hp := List.length_pos_iff.mpr h
  rw [List.getLast?_eq_getElem?, List.drop_eq_getElem_cons (by omega), List.getElem?_eq_getElem (by omega)]
  constructor
  · intro e; exact congrArg some (List.cons.inj e).1
  · intro e
    rw [Option.some.inj e, List.drop_of_length_le (by omega)]
theorem cutAt_len (c : Nat) : ∀ (l : LN) (p : LN), p ∈ cutAt c l → p.length ≤ l.length
  | [], p, h => by rw [cutAt, List.mem_singleton] at h; subst h; exact Nat.le_refl _
  | x :: r, p, h => by
    rw [cutAt] at h
    split at h
    · rcases List.mem_cons.mp h with e | e
      · subst e; simp
      · exact Nat.le_trans (cutAt_len c r p e) (by simp)
    · cases hr : cutAt c r with
      | nil => exact absurd hr (cutAt_ne c r)
      | cons a b =>
        rw [hr] at h
        rcases List.mem_cons.mp h with e | e
        · subst e
          have := cutAt_len c r a (by rw [hr]; exact List.mem_cons_self)
          simp; omega
        · exact Nat.le_trans (cutAt_len c r p (by rw [hr]; exact List.mem_cons_of_mem _ e)) (by simp)
theorem cutAt_many (c : Nat) : ∀ l : LN, (cutAt c l).length ≤ l.length + 1
  | [] => by simp [cutAt]
  | x :: r => by
    have ih := cutAt_many c r
    rw [cutAt]
    split
    · simp; omega
    · cases hr : cutAt c r with
      | nil => simp
      | cons a b => rw [hr] at ih; simp at ih ⊢; omega
/-! ### promises -/
def smallL (fs : List LN) : Prop := fs.length ≤ 90000 ∧ ∀ l ∈ fs, l.length ≤ 90000
def preAimed (K : PySem.W.Frag) (vs : List V) (H : Hp) (F : FS) (_ : Hp → Prop) (d : PyData) : Prop := ∃ (v : V) (fs : List LN) (kd : Int), vs = [.int kd, v] ∧ Da K H F v (lnsD fs) ∧ smallL fs ∧ d = oD deedD (aimedL kd fs)
def preDeed (K : PySem.W.Frag) (vs : List V) (H : Hp) (F : FS) (_ : Hp → Prop) (d : PyData) : Prop := ∃ (v : V) (fs : List LN), vs = [v] ∧ Da K H F v (lnsD fs) ∧ fs ≠ [] ∧ smallL fs ∧ d = oD deedD (deedL fs)
def preRead (vs : List V) (_ : Hp) (_ : FS) (_ : Hp → Prop) (d : PyData) : Prop := ∃ t : LN, vs = [.str (oL t)] ∧ t.length ≤ 80000 ∧ d = oD readD (readL t)
theorem aimG_len {kd far : Int} {fs : List LN} (h : fs.length ≠ 1) : aimG kd far fs = none := by
  match fs with
  | [] => rfl
  | [_] => exact absurd rfl h
  | _ :: _ :: _ => rfl
theorem smallL.tail {f : LN} {r : List LN} (h : smallL (f :: r)) : smallL r := ⟨by have := h.1; simp at this; omega, fun l hl => h.2 l (List.mem_cons_of_mem _ hl)⟩
theorem isNone_oD {α : Type} {f : α → PyData} (hf : ∀ a, isNoneD (f a) = false) (o : Option α) : isNoneD (oD f o) = o.isNone := by cases o with
  | none => rfl
  | some a => exact hf a
def labV : Option LN → V
  | none => .non
  | some l => .str (oL l)
theorem da_lab {K : PySem.W.Frag} {H : Hp} {F : FS} : ∀ l : Option LN, Da K H F (labV l) (oD lnD l)
  | none => .non
  | some _ => .str _
theorem tupN_ok {K : PySem.W.Frag} {x : Str} (h : Hd.tupN K x = true) : ∃ o, K.lookup (He.ga K x) = some o ∧ o.cls = .type "tuple" ∧ o.dict = none := by
  unfold Hd.tupN at h
  split at h
  · rename_i c dt sl e
    exact ⟨_, e, congrArg Value.type (of_decide_eq_true h), rfl⟩
  · cases h
theorem Tx.t_KINDS {K : PySem.W.Frag} {mg : Str → Option Value} (T : Tx K mg) (H : Hp) : SqT K H (He.ga K "KINDS") (([.str "and", .str "add", .str "rise", .str "put", .str "call", .str "go"] : List He.Dv).map (He.Dv.v K)) := by
  have h := T.more
  unfold Hd.exB at h
  exact He.tupB_ok (He.ba h).1 H
theorem Tx.n_KINDS {K : PySem.W.Frag} {mg : Str → Option Value} (T : Tx K mg) (H : Hp) : tyV K "tuple" (.ref (He.ga K "KINDS")) H := by
  have h := T.more
  unfold Hd.exB at h
  have h := (He.ba h).2
  exact .inr (.inl ⟨rfl, tupN_ok (He.ba h).1⟩)
theorem Tx.t_ASKS {K : PySem.W.Frag} {mg : Str → Option Value} (T : Tx K mg) (H : Hp) : SqT K H (He.ga K "ASKS") (([.str "heard", .str "hear", .str "room", .str "say", .str "sleep", .str "fetch", .str "store", .str "stop", .str "look"] : List He.Dv).map (He.Dv.v K)) := by
  have h := T.more
  unfold Hd.exB at h
  have h := (He.ba h).2
  have h := (He.ba h).2
  exact He.tupB_ok (He.ba h).1 H
theorem Tx.n_ASKS {K : PySem.W.Frag} {mg : Str → Option Value} (T : Tx K mg) (H : Hp) : tyV K "tuple" (.ref (He.ga K "ASKS")) H := by
  have h := T.more
  unfold Hd.exB at h
  have h := (He.ba h).2
  have h := (He.ba h).2
  have h := (He.ba h).2
  exact .inr (.inl ⟨rfl, tupN_ok (He.ba h).1⟩)
theorem Tx.t_CHANGES {K : PySem.W.Frag} {mg : Str → Option Value} (T : Tx K mg) (H : Hp) : SqT K H (He.ga K "CHANGES") (([.str "zero", .str "turn", .str "flip", .str "more", .str "left", .str "right"] : List He.Dv).map (He.Dv.v K)) := by
  have h := T.more
  unfold Hd.exB at h
  have h := (He.ba h).2
  have h := (He.ba h).2
  have h := (He.ba h).2
  have h := (He.ba h).2
  exact He.tupB_ok (He.ba h).1 H
theorem Tx.n_CHANGES {K : PySem.W.Frag} {mg : Str → Option Value} (T : Tx K mg) (H : Hp) : tyV K "tuple" (.ref (He.ga K "CHANGES")) H := by
  have h := T.more
  unfold Hd.exB at h
  have h := (He.ba h).2
  have h := (He.ba h).2
  have h := (He.ba h).2
  have h := (He.ba h).2
  have h := (He.ba h).2
  exact .inr (.inl ⟨rfl, tupN_ok (He.ba h).1⟩)
theorem Tx.t_TESTS {K : PySem.W.Frag} {mg : Str → Option Value} (T : Tx K mg) (H : Hp) : SqT K H (He.ga K "TESTS") (([.str "minus", .str "none", .str "mark", .str "not", .str "zero", .str "flat"] : List He.Dv).map (He.Dv.v K)) := by
  have h := T.more
  unfold Hd.exB at h
  have h := (He.ba h).2
  have h := (He.ba h).2
  have h := (He.ba h).2
  have h := (He.ba h).2
  have h := (He.ba h).2
  have h := (He.ba h).2
  exact He.tupB_ok (He.ba h).1 H
theorem Tx.n_TESTS {K : PySem.W.Frag} {mg : Str → Option Value} (T : Tx K mg) (H : Hp) : tyV K "tuple" (.ref (He.ga K "TESTS")) H := by
  have h := T.more
  unfold Hd.exB at h
  have h := (He.ba h).2
  have h := (He.ba h).2
  have h := (He.ba h).2
  have h := (He.ba h).2
  have h := (He.ba h).2
  have h := (He.ba h).2
  have h := (He.ba h).2
  exact .inr (.inl ⟨rfl, tupN_ok (He.ba h).1⟩)
theorem Tx.t_WEIGHTS {K : PySem.W.Frag} {mg : Str → Option Value} (T : Tx K mg) (H : Hp) : SqT K H (He.ga K "WEIGHTS") (([.int 32, .int 16, .int 8, .int 4, .int 2, .int 1] : List He.Dv).map (He.Dv.v K)) := by
  have h := T.more
  unfold Hd.exB at h
  have h := (He.ba h).2
  have h := (He.ba h).2
  have h := (He.ba h).2
  have h := (He.ba h).2
  have h := (He.ba h).2
  have h := (He.ba h).2
  have h := (He.ba h).2
  have h := (He.ba h).2
  exact He.tupB_ok (He.ba h).1 H
theorem Tx.n_WEIGHTS {K : PySem.W.Frag} {mg : Str → Option Value} (T : Tx K mg) (H : Hp) : tyV K "tuple" (.ref (He.ga K "WEIGHTS")) H := by
  have h := T.more
  unfold Hd.exB at h
  have h := (He.ba h).2
  have h := (He.ba h).2
  have h := (He.ba h).2
  have h := (He.ba h).2
  have h := (He.ba h).2
  have h := (He.ba h).2
  have h := (He.ba h).2
  have h := (He.ba h).2
  have h := (He.ba h).2
  exact .inr (.inl ⟨rfl, tupN_ok (He.ba h).1⟩)
theorem Tx.t_OTHERS {K : PySem.W.Frag} {mg : Str → Option Value} (T : Tx K mg) (H : Hp) : SqT K H (He.ga K "OTHERS") (([.str "place", .str "word", .str "far", .str "ask", .str "change", .str "test", .str "here"] : List He.Dv).map (He.Dv.v K)) := by
  have h := T.more
  unfold Hd.exB at h
  have h := (He.ba h).2
  have h := (He.ba h).2
  have h := (He.ba h).2
  have h := (He.ba h).2
  have h := (He.ba h).2
  have h := (He.ba h).2
  have h := (He.ba h).2
  have h := (He.ba h).2
  have h := (He.ba h).2
  have h := (He.ba h).2
  exact He.tupB_ok (He.ba h).1 H
theorem Tx.n_OTHERS {K : PySem.W.Frag} {mg : Str → Option Value} (T : Tx K mg) (H : Hp) : tyV K "tuple" (.ref (He.ga K "OTHERS")) H := by
  have h := T.more
  unfold Hd.exB at h
  have h := (He.ba h).2
  have h := (He.ba h).2
  have h := (He.ba h).2
  have h := (He.ba h).2
  have h := (He.ba h).2
  have h := (He.ba h).2
  have h := (He.ba h).2
  have h := (He.ba h).2
  have h := (He.ba h).2
  have h := (He.ba h).2
  have h := (He.ba h).2
  exact .inr (.inl ⟨rfl, tupN_ok (He.ba h).1⟩)

section
variable {P : Program} {w : World} {K : PySem.W.Frag} {mg : Str → Option Value} {base : Heap}

theorem sc_is_name : FnScope ["text", "sign"] ["text"] (defScope s_is_name) := ⟨rfl, rfl, rfl, by decide +kernel, rfl, by decide +kernel, by decide +kernel⟩
theorem cal_is_name (T : Tx K mg) : Cal P w K mg base 1 "is_name" ["text"] spName := by
  refine cal_mk T 0 0 rfl rfl sc_is_name (fun _ _ _ _ _ _ us hl => match us, hl with | [_], _ => rfl) (fun vs H Q E h => ?_) (fun f cdv A outer s H vs Q E hr h => ?_)
  · obtain ⟨t, rfl, tl, k⟩ := h
    rfl
  · obtain ⟨t, rfl, tl, k⟩ := h
    refine ⟨_, (pss_cons (ps_if (PW.pt (pw_or (pt_not (pt_chain op_le op_le pe_int (pe_callB call_len_str (by rfl) (T.free 50) PySem.boot_len (pa_cons (pv 0) pa_nil)) pe_int)) (pw_or1 (pt_cmpR op_notInS (pe_ix ix_str (pv 0) pe_int (fun _ _ => rfl)) pe_str (by rfl))))) (pss_one (ps_ret pe_bl)) pss_nil) (pss_cons (ps_for PassesOwn.never rfl (pi_str (pv 0)) (pg_name (i := 1) sc_is_name.nd rfl (Or.inl rfl)) (pss_one (ps_if (pt_cmpR op_notInS (pv 1) pe_str (by rfl)) (pss_one (ps_ret pe_bl)) pss_nil))) (pss_one (ps_ret (pe_not (pe_or (pe_cmpR op_in_seq (pv 0) (pe_glob (v := .ref (He.ga K "KINDS")) (by rfl) (T.glo 110) rfl) (by rfl)) (pe_or (pe_cmpR op_in_seq (pv 0) (pe_glob (v := .ref (He.ga K "ASKS")) (by rfl) (T.glo 111) rfl) (by rfl)) (pe_or (pe_cmpR op_in_seq (pv 0) (pe_glob (v := .ref (He.ga K "CHANGES")) (by rfl) (T.glo 112) rfl) (by rfl)) (pe_or (pe_cmpR op_in_seq (pv 0) (pe_glob (v := .ref (He.ga K "TESTS")) (by rfl) (T.glo 113) rfl) (by rfl)) (pe_one (pe_cmpR op_in_seq (pv 0) (pe_glob (v := .ref (He.ga K "OTHERS")) (by rfl) (T.glo 115) rfl) (by rfl)))))))))))), ?_⟩
    have e0 : isNameL t = (decide (1 ≤ t.length ∧ t.length ≤ 8) && hdAz t && t.all (fun c => decide (c ∈ azdL)) && !resN t) := rfl
    refine q_if (b := !(decide (1 ≤ t.length ∧ t.length ≤ 8) && hdAz t)) ?_ (fun h1 => ?_) (fun h1 => ?_)
    · have hch : Ans (tTest (tChain (rI0 fun i j => V.bl (decide (i ≤ j))) (rI0 fun i j => V.bl (decide (i ≤ j))) (tC (.int 1)) _ (tC (.int 8)))) [some (V.str (oL t)), none] H (decide (1 ≤ t.length ∧ t.length ≤ 8)) := a_t (v_eqv (v_chain v_c (v_lenS (v_var (k := 0) rfl) tl) (fun _ q => rr_le q) v_c (fun _ q => rr_le q)) (congrArg V.bl (by rw [← Bool.decide_and]; exact decide_eq_decide.mpr (by omega))))
      cases ht : t with
      | nil =>
        subst ht
        exact a_or (b := true) (c := true) (a_not (b := false) hch) (fun z => by cases z)
      | cons c r =>
        rw [← ht]
        have hor := a_or (a_not hch) (fun _ => a_t (v_notInS1 (v_ixS (v_var (σ := [some (V.str (oL t)), none]) (k := 0) rfl) v_c tl (by decide) (show t[(0 : Int).toNat]? = some c by rw [ht]; rfl)) (v_eqv v_c (show V.str _ = V.str (oL azL) from congrArg V.str (oL_tl _).symm))))
        rw [show hdAz t = decide (c ∈ azL) by rw [ht]; rfl, Bool.not_and]
        exact hor
    · refine s_ret v_c ?_
      have h2 : (decide (1 ≤ t.length ∧ t.length ≤ 8) && hdAz t) = false := (Bool.not_eq_true' _).mp h1
      rw [e0, h2] at k
      exact k
    refine s_next ?_
    have h2 : (decide (1 ≤ t.length ∧ t.length ≤ 8) && hdAz t) = true := (Bool.not_eq_false' _).mp h1
    rw [h2, Bool.true_and] at e0
    refine q_forS (v_var rfl) (fun i σ' H' => H' = H ∧ (∃ y, σ' = [some (V.str (oL t)), y]) ∧ (t.take i).all (fun c => decide (c ∈ azdL)) = true) ⟨rfl, ⟨_, rfl⟩, rfl⟩ (fun i c σ' H' hc pv => ?_) (fun σ' H' pv => ?_)
    · obtain ⟨rfl, ⟨y, rfl⟩, ha⟩ := pv
      refine s_if (a_t (v_notInS1 (v_var rfl) (v_eqv v_c (show V.str _ = V.str (oL azdL) from congrArg V.str (oL_tl _).symm)))) (fun h3 => ?_) (fun h3 => ?_)
      · refine s_ret v_c ?_
        have h4 := all_false (p := fun c => decide (c ∈ azdL)) hc (by simpa using h3)
        rw [e0, h4] at k
        exact k
      · exact s_next ⟨rfl, ⟨_, rfl⟩, all_take hc ha (by simpa using h3)⟩
    obtain ⟨rfl, ⟨y, rfl⟩, ha⟩ := pv
    rw [List.take_length] at ha
    rw [e0, ha, Bool.true_and] at k
    refine s_ret (v_notV (b := resN t) (v_orV (v_inT (v_var rfl) v_c (show SqT K _ _ (kindsS.map V.str) from T.t_KINDS _)) (fun _ => v_orV (v_inT (v_var rfl) v_c (show SqT K _ _ (asksS.map V.str) from T.t_ASKS _)) (fun _ => v_orV (v_inT (v_var rfl) v_c (show SqT K _ _ (chgS.map V.str) from T.t_CHANGES _)) (fun _ => v_orV (v_inT (v_var rfl) v_c (show SqT K _ _ (tstS.map V.str) from T.t_TESTS _)) (fun _ => v_inT (v_var rfl) v_c (show SqT K _ _ (othersS.map V.str) from T.t_OTHERS _))))))) k

theorem sc_is_number : FnScope ["text", "sign"] ["text"] (defScope s_is_number) := ⟨rfl, rfl, rfl, by decide +kernel, rfl, by decide +kernel, by decide +kernel⟩
theorem cal_is_number (T : Tx K mg) : Cal P w K mg base 1 "is_number" ["text"] spNum := by
  refine cal_mk T 1 1 rfl rfl sc_is_number (fun _ _ _ _ _ _ us hl => match us, hl with | [_], _ => rfl) (fun vs H Q E h => ?_) (fun f cdv A outer s H vs Q E hr h => ?_)
  · obtain ⟨t, rfl, tl, k⟩ := h
    rfl
  · obtain ⟨t, rfl, tl, k⟩ := h
    refine ⟨_, (pss_cons (ps_if (pt_not (pt_chain op_le op_le pe_int (pe_callB call_len_str (by rfl) (T.free 50) PySem.boot_len (pa_cons (pv 0) pa_nil)) pe_int)) (pss_one (ps_ret pe_bl)) pss_nil) (pss_cons (ps_for PassesOwn.never rfl (pi_str (pv 0)) (pg_name (i := 1) sc_is_number.nd rfl (Or.inl rfl)) (pss_one (ps_if (pt_cmpR op_notInS (pv 1) pe_str (by rfl)) (pss_one (ps_ret pe_bl)) pss_nil))) (pss_one (ps_ret pe_bl)))), ?_⟩
    have e0 : isNumL t = (decide (1 ≤ t.length ∧ t.length ≤ 4) && t.all (fun c => decide (c ∈ digL))) := rfl
    refine q_if (a_not (b := decide (1 ≤ t.length ∧ t.length ≤ 4)) (a_t (v_eqv (v_chain v_c (v_lenS (v_var (k := 0) rfl) tl) (fun _ q => rr_le q) v_c (fun _ q => rr_le q)) (congrArg V.bl (by rw [← Bool.decide_and]; exact decide_eq_decide.mpr (by omega)))))) (fun h1 => ?_) (fun h1 => ?_)
    · refine s_ret v_c ?_
      have h2 : decide (1 ≤ t.length ∧ t.length ≤ 4) = false := (Bool.not_eq_true' _).mp h1
      rw [e0, h2] at k
      exact k
    refine s_next ?_
    have h2 : decide (1 ≤ t.length ∧ t.length ≤ 4) = true := (Bool.not_eq_false' _).mp h1
    rw [h2, Bool.true_and] at e0
    refine q_forS (v_var rfl) (fun i σ' H' => H' = H ∧ (∃ y, σ' = [some (V.str (oL t)), y]) ∧ (t.take i).all (fun c => decide (c ∈ digL)) = true) ⟨rfl, ⟨_, rfl⟩, rfl⟩ (fun i c σ' H' hc pv => ?_) (fun σ' H' pv => ?_)
    · obtain ⟨rfl, ⟨y, rfl⟩, ha⟩ := pv
      refine s_if (a_t (v_notInS1 (v_var rfl) (v_eqv v_c (show V.str _ = V.str (oL digL) from congrArg V.str (oL_tl _).symm)))) (fun h3 => ?_) (fun h3 => ?_)
      · refine s_ret v_c ?_
        have h4 := all_false (p := fun c => decide (c ∈ digL)) hc (by simpa using h3)
        rw [e0, h4] at k
        exact k
      · exact s_next ⟨rfl, ⟨_, rfl⟩, all_take hc ha (by simpa using h3)⟩
    obtain ⟨rfl, ⟨y, rfl⟩, ha⟩ := pv
    rw [List.take_length] at ha
    rw [e0, ha] at k
    exact s_ret v_c k

theorem sc_terms : FnScope ["text", "found", "sign", "begin", "k", "one"] ["text"] (defScope s_terms) := ⟨rfl, rfl, rfl, by decide +kernel, rfl, by decide +kernel, by decide +kernel⟩
theorem cal_terms (T : Tx K mg) : Cal P w K mg base 2 "terms" ["text"] (spDV K preTerms) := by
  refine cal_mk T 2 2 rfl rfl sc_terms (fun _ _ _ _ _ _ us hl => match us, hl with | [_], _ => rfl) (fun vs H Q E h => ?_) (fun f cdv A outer s H vs Q E hr h => ?_)
  · obtain ⟨F, W, d, wo, ok, ⟨t, rfl, tl, rfl⟩, k⟩ := h
    rfl
  · obtain ⟨F, W, d, wo, ok, ⟨t, rfl, tl, rfl⟩, k⟩ := h
    refine ⟨_, (pss_cons (ps_set (i := 1) sc_terms.nd rfl (Or.inl rfl) (pe_lst pa_nil)) (pss_cons (ps_set (i := 2) sc_terms.nd rfl (Or.inl rfl) pe_int) (pss_cons (ps_set (i := 3) sc_terms.nd rfl (Or.inl rfl) pe_int) (pss_cons (ps_for PassesOwn.never rfl (pi_range1 (by rfl) (T.free 52) (pa_cons (pe_op op_add (pe_callB call_len_str (by rfl) (T.free 50) PySem.boot_len (pa_cons (pv 0) pa_nil)) pe_int) pa_nil)) (pg_name (i := 4) sc_terms.nd rfl (Or.inl rfl)) (pss_one (ps_if (PW.pt (pw_or (pt_cmpR op_eq (pv 4) (pe_callB call_len_str (by rfl) (T.free 50) PySem.boot_len (pa_cons (pv 0) pa_nil)) (nomark _)) (pw_or (pt_cmpR op_eq (pe_ix ix_str (pv 0) (pv 4) (fun _ _ => rfl)) pe_str (nomark _)) (pw_or1 (pt_cmpR op_eq (pe_ix ix_str (pv 0) (pv 4) (fun _ _ => rfl)) pe_str (nomark _)))))) (pss_cons (ps_set (i := 5) sc_terms.nd rfl (Or.inl rfl) (pe_slice sl_str (pv 0) (po_some (pv 3)) (po_some (pv 4)))) (pss_cons (ps_if (pt_not (PW.pt (pw_or (pt_val (pe_cal (cal_is_name (K := K) T) hr (by decide) rfl (pa_cons (pv 5) pa_nil))) (pw_or (pt_val (pe_cal (cal_is_number (K := K) T) hr (by decide) rfl (pa_cons (pv 5) pa_nil))) (pw_or1 (pt_cmpR op_eq (pv 5) pe_str (nomark _))))))) (pss_one (ps_ret pe_non)) pss_nil) (pss_cons (ps_expr (pe_bm PySem.F.plainAttrs_list PySem.F.slot_list_append PySem.F.type_list_append mt_append (pv 1) (pa_cons (pe_tup (pa_cons (pv 2) (pa_cons (pv 5) pa_nil))) pa_nil))) (pss_cons (ps_set (i := 3) sc_terms.nd rfl (Or.inl rfl) (pe_op op_add (pv 4) pe_int)) (pss_cons (ps_set (i := 2) sc_terms.nd rfl (Or.inl rfl) pe_int) (pss_one (ps_if (PW.pt (pw_and (pt_cmpR op_lt (pv 4) (pe_callB call_len_str (by rfl) (T.free 50) PySem.boot_len (pa_cons (pv 0) pa_nil)) (nomark _)) (pw_and1 (pt_cmpR op_eq (pe_ix ix_str (pv 0) (pv 4) (fun _ _ => rfl)) pe_str (nomark _))))) (pss_one (ps_set (i := 2) sc_terms.nd rfl (Or.inl rfl) (pe_un un_neg pe_int))) pss_nil))))))) pss_nil))) (pss_one (ps_ret (pv 1))))))), ?_⟩
    refine q_dn' (K := K) (ds := []) (dn_lst wo da_nil) ok .refl (fun D H1 hD ow m1 => ?_)
    refine q_set v_c ?_
    refine q_set v_c ?_
    refine q_forR (n := (t.length : Int) + 1) (va_cons (v_add (v_lenS (v_var rfl) (by omega)) v_c) va_nil) (by omega) (fun i σ' H' => ∃ acc beg sg y1 y2, Own K H F W D H' (acc.map termD) ∧ acc.length ≤ i ∧ σ' = [some (V.str (oL t)), some (.ref D), some (.int sg), some (.int ((beg : Nat) : Int)), y1, y2] ∧ ((i ≤ t.length ∧ beg ≤ i ∧ (termsG sg ((t.take i).drop beg) (t.drop i)).map (acc ++ ·) = termsL t) ∨ (i = t.length + 1 ∧ termsL t = some acc))) ⟨[], 0, 1, _, _, ow, Nat.le_refl _, rfl, .inl ⟨Nat.zero_le _, Nat.le_refl _, by
      show (termsG 1 [] t).map (fun x => [] ++ x) = termsG 1 [] t
      cases termsG 1 [] t <;> rfl⟩⟩ (fun i σ' H' hi pv => ?_) (fun σ' H' pv => ?_)
    · obtain ⟨acc, beg, sg, y1, y2, ow, al, rfl, ⟨il, bi, e⟩ | ⟨z, _⟩⟩ := pv
      case inr => omega
      obtain ⟨o2, w2⟩ := ow.tn wo
      -- what a term's end does
      have cut : ∀ r, Val (tSl rSlS (tVar 0) (tPart (tVar 3)) (tPart (tVar 4))) [some (V.str (oL t)), some (.ref D), some (.int sg), some (.int ((beg : Nat) : Int)), some (.int (i : Int)), r] H' (.str (oL ((t.take i).drop beg))) := fun r => by
        have h := v_slS (t := t) (lo := some ((beg : Nat) : Int)) (hi := some ((i : Nat) : Int)) (ta := tVar 0) (tlo := tPart (tVar 3)) (thi := tPart (tVar 4)) (H := H') (σ := [some (V.str (oL t)), some (.ref D), some (.int sg), some (.int ((beg : Nat) : Int)), some (.int (i : Int)), r]) (v_var rfl) (o_some (v_var rfl)) (o_some (v_var rfl)) (by omega)
        rw [cutD_nat bi] at h
        exact h
      have ol : ((t.take i).drop beg).length ≤ t.length := by rw [List.length_drop, List.length_take]; omega
      generalize he : (t.take i).drop beg = one at *
      rcases Nat.lt_or_ge i t.length with hlt | hge
      · obtain ⟨c, hc⟩ : ∃ c, t[i]? = some c := ⟨_, List.getElem?_eq_getElem hlt⟩
        have ix := fun (r : Option V) => v_ixS (σ := [some (V.str (oL t)), some (.ref D), some (.int sg), some (.int ((beg : Nat) : Int)), some (.int (i : Int)), r]) (H := H') (t := t) (i := (i : Int)) (v_var (k := 0) rfl) (v_var (k := 4) rfl) (by omega) (by omega) (by rw [Int.toNat_natCast]; exact hc)
        rw [drop_at hc, termsG] at e
        refine s_if (b := decide (c = 43 ∨ c = 45)) ?_ (fun h1 => ?_) (fun h1 => ?_)
        · have hor := a_or (a_t (v_eqv (v_eqI (v_var (k := 4) rfl) (v_lenS (v_var (σ := [some (V.str (oL t)), some (.ref D), some (.int sg), some (.int ((beg : Nat) : Int)), some (.int (i : Int)), y2]) (k := 0) rfl) (by omega))) (show _ = V.bl false from congrArg V.bl (decide_eq_false (by omega))))) (fun _ => a_or (a_t (v_eqO (ix y2) (v_eqv v_c (show V.str _ = V.str (oL [43]) from congrArg V.str (by rfl))))) (fun _ => a_t (v_eqO (ix y2) (v_eqv v_c (show V.str _ = V.str (oL [45]) from congrArg V.str (by rfl))))))
          rw [show decide (c = 43 ∨ c = 45) = (false || (decide ([c] = [43]) || decide ([c] = [45]))) by rw [Bool.false_or, Bool.decide_or]; simp]
          exact hor
        · rw [if_pos (of_decide_eq_true h1)] at e
          refine q_set (cut _) ?_
          refine q_if (a_not (b := okT one) (a_or (a_B (v_call (va_cons (v_var rfl) va_nil) (fun _ q => ⟨_, rfl, by omega, q⟩))) (fun _ => a_or (a_B (v_call (va_cons (v_var rfl) va_nil) (fun _ q => ⟨_, rfl, by omega, q⟩))) (fun _ => a_t (v_eqO (v_var rfl) (v_eqv v_c (show V.str _ = V.str (oL hereL) from congrArg V.str (oL_tl _).symm))))))) (fun h2 => ?_) (fun h2 => ?_)
          · have h2 : okT one = false := (Bool.not_eq_true' _).mp h2
            rw [if_neg (by rw [h2]; exact Bool.false_ne_true)] at e
            refine s_ret v_c (k _ _ ow.mv ow.ok ?_)
            rw [← e]; exact .non
          refine s_next ?_
          have h2 : okT one = true := (Bool.not_eq_false' _).mp h2
          rw [if_pos h2] at e
          refine qx_drop (x_own_app (d := termD (sg, one)) wo ow (v_var rfl) (dv_tup w2 (da_cons (dv_var rfl (.int _)) (da_cons (dv_var rfl (.str _)) da_nil))) (by rw [List.length_map]; omega) (fun H2 ow2 _ => ?_))
          have ow2 : Own K H F W D H2 ((acc ++ [(sg, one)]).map termD) := ow2.re (by rw [List.map_append]; rfl)
          refine q_set (v_eqv (v_add (v_var rfl) v_c) (show _ = V.int ((i + 1 : Nat) : Int) by simp)) ?_
          refine q_set v_c ?_
          have e2 : ∀ g : Int, g = (if c = 45 then -1 else 1) → (termsG g ((t.take (i + 1)).drop (i + 1)) (t.drop (i + 1))).map ((acc ++ [(sg, one)]) ++ ·) = termsL t := fun g eg => by
            rw [cut_nil, eg, ← e, Option.map_map]
            congr 1; funext x; simp
          refine s_if (b := decide (c = 45)) ?_ (fun h3 => ?_) (fun h3 => ?_)
          · have han := a_and (a_t (v_eqv (v_lt (v_var (k := 4) rfl) (v_lenS (H := H2) (v_var (σ := [some (V.str (oL t)), some (.ref D), some (.int 1), some (.int ((i + 1 : Nat) : Int)), some (.int (i : Int)), some (V.str (oL one))]) (k := 0) rfl) (by omega))) (show _ = V.bl true from congrArg V.bl (decide_eq_true (by omega))))) (fun _ => a_t (v_eqO (v_ixS (H := H2) (t := t) (i := (i : Int)) (v_var (k := 0) rfl) (v_var (k := 4) rfl) (by omega) (by omega) (by rw [Int.toNat_natCast]; exact hc)) (v_eqv v_c (show V.str _ = V.str (oL [45]) from congrArg V.str (by rfl)))))
            rw [show decide (c = 45) = (true && decide ([c] = [45])) by simp]
            exact han
          · have h3 : c = 45 := of_decide_eq_true h3
            exact s_set (v_neg v_c) ⟨_, i + 1, _, _, _, ow2, by rw [List.length_append]; simp; omega, rfl, .inl ⟨by omega, Nat.le_refl _, e2 _ (by rw [if_pos h3])⟩⟩
          · have h3 : ¬ c = 45 := of_decide_eq_false h3
            exact s_next ⟨_, i + 1, _, _, _, ow2, by rw [List.length_append]; simp; omega, rfl, .inl ⟨by omega, Nat.le_refl _, e2 _ (by rw [if_neg h3])⟩⟩
        · rw [if_neg (of_decide_eq_false h1)] at e
          exact s_next ⟨acc, beg, sg, _, _, ow, by omega, rfl, .inl ⟨by omega, by omega, by rw [take_drop_step hc bi, he]; exact e⟩⟩
      · rw [List.drop_of_length_le hge, termsG] at e
        refine s_ifT (a_or (b := true) (c := true) (a_t (v_eqv (v_eqI (v_var (k := 4) rfl) (v_lenS (v_var (k := 0) rfl) (by omega))) (show _ = V.bl true from congrArg V.bl (decide_eq_true (by omega))))) (fun z => by cases z)) rfl ?_
        refine q_set (cut _) ?_
        refine q_if (a_not (b := okT one) (a_or (a_B (v_call (va_cons (v_var rfl) va_nil) (fun _ q => ⟨_, rfl, by omega, q⟩))) (fun _ => a_or (a_B (v_call (va_cons (v_var rfl) va_nil) (fun _ q => ⟨_, rfl, by omega, q⟩))) (fun _ => a_t (v_eqO (v_var rfl) (v_eqv v_c (show V.str _ = V.str (oL hereL) from congrArg V.str (oL_tl _).symm))))))) (fun h2 => ?_) (fun h2 => ?_)
        · have h2 : okT one = false := (Bool.not_eq_true' _).mp h2
          rw [if_neg (by rw [h2]; exact Bool.false_ne_true)] at e
          refine s_ret v_c (k _ _ ow.mv ow.ok ?_)
          rw [← e]; exact .non
        refine s_next ?_
        have h2 : okT one = true := (Bool.not_eq_false' _).mp h2
        rw [if_pos h2] at e
        refine qx_drop (x_own_app (d := termD (sg, one)) wo ow (v_var rfl) (dv_tup w2 (da_cons (dv_var rfl (.int _)) (da_cons (dv_var rfl (.str _)) da_nil))) (by rw [List.length_map]; omega) (fun H2 ow2 _ => ?_))
        have ow2 : Own K H F W D H2 ((acc ++ [(sg, one)]).map termD) := ow2.re (by rw [List.map_append]; rfl)
        refine q_set (v_eqv (v_add (v_var rfl) v_c) (show _ = V.int ((i + 1 : Nat) : Int) by simp)) ?_
        refine q_set v_c ?_
        refine s_ifF0 (a_and (b := false) (c := true) (a_t (v_eqv (v_lt (v_var (k := 4) rfl) (v_lenS (v_var (k := 0) rfl) (by omega))) (show _ = V.bl false from congrArg V.bl (decide_eq_false (by omega))))) (fun z => by cases z)) rfl ?_
        exact ⟨_, i + 1, _, _, _, ow2, by rw [List.length_append]; simp; omega, rfl, .inr ⟨by omega, by rw [← e]; rfl⟩⟩
    · obtain ⟨acc, beg, sg, y1, y2, ow, al, rfl, ⟨il, bi, e⟩ | ⟨z, e⟩⟩ := pv
      case inl => omega
      exact s_ret (v_var rfl) (k _ _ ow.mv ow.ok (by rw [e]; exact ow.da))

theorem sc_weight_of : FnScope ["found", "names", "amount", "k", "one"] ["found", "names"] (defScope s_weight_of) := ⟨rfl, rfl, rfl, by decide +kernel, rfl, by decide +kernel, by decide +kernel⟩
theorem cal_weight_of (T : Tx K mg) : Cal P w K mg base 1 "weight_of" ["found", "names"] (spDV K (preWeight K)) := by
  refine cal_mk T 3 3 rfl rfl sc_weight_of (fun _ _ _ _ _ _ us hl => match us, hl with | [_, _], _ => rfl) (fun vs H Q E h => ?_) (fun f cdv A outer s H vs Q E hr h => ?_)
  · obtain ⟨F, W, d, wo, ok, ⟨v, fs, a, ss, rfl, hv, hS, hT, hl, fl, rfl⟩, k⟩ := h
    rfl
  · obtain ⟨F, W, d, wo, ok, ⟨v, fs, a, ss, rfl, hv, hS, hT, hl, fl, rfl⟩, k⟩ := h
    refine ⟨_, (pss_cons (ps_set (i := 2) sc_weight_of.nd rfl (Or.inl rfl) pe_int) (pss_cons (ps_for PassesOwn.never rfl (pi_enum (by rfl) (T.free 56) (pa_cons (pv 0) pa_nil)) (pg_tup (by rfl) (pgs_cons (pg_name (i := 3) sc_weight_of.nd rfl (Or.inl rfl)) (pgs_cons (pg_name (i := 4) sc_weight_of.nd rfl (Or.inl rfl)) pgs_nil))) (pss_cons (ps_if (PW.pt (pw_or (pt_cmpR op_notIn_seq (pv 4) (pv 1) (by rfl)) (pw_or1 (pt_cmpR op_in_seq (pv 4) (pe_slice sl_list (pv 0) po_none (po_some (pv 3))) (by rfl))))) (pss_one (ps_ret pe_non)) pss_nil) (pss_one (ps_set (i := 2) sc_weight_of.nd rfl (Or.inl rfl) (pe_op op_add (pv 2) (pe_ix ix_tup (pe_glob (v := .ref (He.ga K "WEIGHTS")) (by rfl) (T.glo 114) rfl) (pe_bm PySem.F.plainAttrs_tuple PySem.F.slot_tuple_index PySem.F.type_tuple_index mt_tup_index (pv 1) (pa_cons (pv 4) pa_nil)) (fun _ _ => rfl))))))) (pss_one (ps_ret (pv 2))))), ?_⟩
    refine q_set v_c ?_
    obtain ⟨b, rfl, hb⟩ := hv.lns
    have hs6 : (ss.map TL.tl).length = 6 := by rw [List.length_map]; exact hl
    refine q_forE (xs := fs.map fun l => V.str (oL l)) (va_cons (v_var rfl) va_nil) hb (fun i σ' H' => Mv F H F H' ∧ Ok F W H' ∧ ∃ amt y1 y2, σ' = [some (.ref b), some (.ref a), some (.int amt), y1, y2] ∧ weightG (ss.map TL.tl) (fs.take i) amt (fs.drop i) = weightL (ss.map TL.tl) fs) ⟨.refl, ok, 0, _, _, rfl, rfl⟩ (fun i σ' H' pv => ?_) (fun i x σ' H' T' hx pv hT' => ?_) (fun σ' H' pv => ?_)
    · obtain ⟨_, e, hq⟩ := (hv.mv pv.1).lns
      cases e; exact hq
    · obtain ⟨m, o, amt, y1, y2, rfl, e⟩ := pv
      rw [List.getElem?_map] at hx
      obtain ⟨t, ht, rfl⟩ := Option.map_eq_some_iff.mp hx
      have m2 := m.trans (.same (smN (o := .tup [V.int (i : Int), V.str (oL t)]) hT'))
      have o2 := o.same wo (smN (o := .tup [V.int (i : Int), V.str (oL t)]) hT')
      generalize upd H' T' (.tup [V.int (i : Int), V.str (oL t)]) = H2 at m2 o2 ⊢
      rw [drop_at ht, weightG] at e
      refine q_ifM (am_or (am_a fun H3 _ _ => a_t (v_notInT (v_var rfl) (v_var rfl) (hS H3))) (fun _ => am_inL (fs := fs.take i) (fun _ _ _ => v_var rfl) ((dv_slLt (ds := fs.map lnD) i wo (dv_var rfl (hv.mv m2)) (pt_s fun _ _ _ => v_var rfl)).eq (by unfold lnsD; rw [List.map_take])))) o2 (fun c H3 m3 o3 => ?_) (fun c H3 m3 o3 => ?_)
      · have c : t ∉ ss.map TL.tl ∨ t ∈ fs.take i := by simpa using c
        rw [if_pos c] at e
        refine s_ret v_c (k _ _ (m2.trans m3) o3 ?_)
        rw [← e]; exact .non
      · have c : ¬ (t ∉ ss.map TL.tl ∨ t ∈ fs.take i) := fun z => by
          have : (!decide (t ∈ ss.map TL.tl) || decide (t ∈ fs.take i)) = true := by simpa using z
          rw [this] at c; cases c
        rw [if_neg c] at e
        have ht1 : t ∈ ss.map TL.tl := by
          by_cases q : t ∈ ss.map TL.tl
          · exact q
          · exact absurd (.inl q) c
        refine s_next ?_
        have hw := idx_eq _ t ht1 hs6
        have hi := (idx_at ht1).2.2
        refine s_set (v_add (v_var rfl) (v_ixTI v_c (v_tidx (v_var rfl) (hT _) (v_var rfl) (hS _) ht1) (show SqT K _ _ (wtsV.map V.int) from T.t_WEIGHTS _) (by omega) (by show _ < (6 : Int); omega))) ?_
        exact ⟨m2.trans m3, o3, _, _, _, rfl, by rw [Int.toNat_natCast, hw.2, List.take_add_one, ht]; exact e⟩
    · obtain ⟨m, o, amt, y1, y2, rfl, e⟩ := pv
      rw [List.length_map, List.take_length, List.drop_length, weightG] at e
      exact s_ret (v_var rfl) (k _ _ m o (by rw [← e]; exact .int _))

end

theorem isNone_terms (o : Option (List (Int × LN))) : isNoneD (oD termsD o) = o.isNone := isNone_oD (fun _ => rfl) o
theorem isNone_deed (o : Option Dd) : isNoneD (oD deedD o) = o.isNone := isNone_oD (fun d => by cases d <;> rfl) o
theorem isNone_w (o : Option Int) : isNoneD (oD PyData.int o) = o.isNone := isNone_oD (fun _ => rfl) o

section
variable {P : Program} {w : World} {K : PySem.W.Frag} {mg : Str → Option Value} {base : Heap}

theorem sc_aimed : FnScope ["kind", "found", "far", "head", "text"] ["kind", "found"] (defScope s_aimed) := ⟨rfl, rfl, rfl, by decide +kernel, rfl, by decide +kernel, by decide +kernel⟩
theorem cal_aimed (T : Tx K mg) : Cal P w K mg base 3 "aimed" ["kind", "found"] (spDV K (preAimed K)) := by
  refine cal_mk T 5 5 rfl rfl sc_aimed (fun _ _ _ _ _ _ us hl => match us, hl with | [_, _], _ => rfl) (fun vs H Q E h => ?_) (fun f cdv A outer s H vs Q E hr h => ?_)
  · obtain ⟨F, W, d, wo, ok, ⟨v, fs, kd, rfl, hv, sm, rfl⟩, k⟩ := h
    rfl
  · obtain ⟨F, W, d, wo, ok, ⟨v, fs, kd, rfl, hv, sm, rfl⟩, k⟩ := h
    refine ⟨_, (pss_cons (ps_set (i := 2) sc_aimed.nd rfl (Or.inl rfl) pe_int) (C8.pss_cut (ps_if (PW.pt (pw_and (pt_truth (pv 1) (by intro _; rfl)) (pw_and1 (pt_cmpR op_eq (pe_ix ix_list (pv 1) pe_int (fun _ _ => rfl)) pe_str (nomark _))))) (pss_cons (ps_set (i := 2) sc_aimed.nd rfl (Or.inl rfl) pe_int) (pss_one (ps_set (i := 1) sc_aimed.nd rfl (Or.inl rfl) (pe_slice sl_list (pv 1) (po_some pe_int) po_none)))) pss_nil) (pss_cons (ps_if (pt_cmpR op_ne (pe_callB call_len_seq (by rfl) (T.free 50) PySem.boot_len (pa_cons (pv 1) pa_nil)) pe_int (nomark _)) (pss_one (ps_ret pe_non)) pss_nil) (pss_cons (ps_set (i := 3) sc_aimed.nd rfl (Or.inl rfl) pe_str) (pss_cons (ps_set (i := 4) sc_aimed.nd rfl (Or.inl rfl) (pe_ix ix_list (pv 1) pe_int (fun _ _ => rfl))) (C8.pss_cut (ps_if (pt_cmpR op_eq (pe_slice sl_str (pv 4) po_none (po_some pe_int)) pe_str (nomark _)) (pss_cons (ps_set (i := 3) sc_aimed.nd rfl (Or.inl rfl) pe_str) (pss_one (ps_set (i := 4) sc_aimed.nd rfl (Or.inl rfl) (pe_slice sl_str (pv 4) (po_some pe_int) po_none)))) pss_nil) (pss_cons (ps_if (pt_cmpR op_isN1 (pe_cal (cal_terms (K := K) T) hr (by decide) rfl (pa_cons (pv 4) pa_nil)) pe_non (nomark _)) (pss_one (ps_ret pe_non)) pss_nil) (pss_one (ps_ret (pe_tup (pa_cons (pv 3) (pa_cons (pe_op op_add (pe_op op_mul pe_int (pv 0)) (pe_op op_mul pe_int (pv 2))) (pa_cons (pe_cal (cal_terms (K := K) T) hr (by decide) rfl (pa_cons (pv 4) pa_nil)) pa_nil))))))))))))), ?_⟩
    refine q_set v_c ?_
    refine q_rel (fun σ' H' => ∃ v' fs' far, σ' = [some (.int kd), some v', some (.int far), none, none] ∧ Mv F H F H' ∧ Ok F W H' ∧ Da K H' F v' (lnsD fs') ∧ smallL fs' ∧ aimedL kd fs = aimG kd far fs') ?_ ?_
    · obtain ⟨b, rfl, hb⟩ := hv.lns
      cases fs with
      | nil =>
        exact s_ifF0 (a_and (b := false) (c := true) (a_tru (v_var rfl) (.inl ⟨_, hb, rfl⟩)) (fun z => by cases z)) rfl ⟨_, [], 0, rfl, .refl, ok, hv, sm, rfl⟩
      | cons f r =>
        have sf := sm.2 f List.mem_cons_self
        refine s_if (a_and (b := true) (a_tru (v_var rfl) (.inl ⟨_, hb, rfl⟩)) (fun _ => a_t (v_eqO (v_ixL (v_var rfl) v_c hb (by decide) rfl) (v_eqv v_c (show V.str _ = V.str (oL farL) from congrArg V.str (oL_tl _).symm))))) (fun c => ?_) (fun c => ?_)
        · have c : f = farL := by simpa using c
          refine q_set v_c ?_
          refine s_d (K := K) (d := lnsD r) ((dv_slLf (ds := (f :: r).map lnD) 1 wo (dv_var rfl hv) (pt_s fun _ _ _ => v_c)).eq rfl) ok (fun v' H' m o hd => ?_)
          exact ⟨_, r, 1, rfl, m, o, hd, sm.tail, by rw [aimedL, if_pos c]⟩
        · have c : ¬ f = farL := by simpa using c
          exact s_next ⟨_, f :: r, 0, rfl, .refl, ok, hv, sm, by rw [aimedL, if_neg c]⟩
    rintro _ H1 ⟨v1, fs1, far, rfl, m1, o1, hv1, sm1, e1⟩
    rw [e1] at k
    obtain ⟨b, rfl, hb⟩ := hv1.lns
    refine q_if (a_t (v_neI (v_lenD hv1 (v_var rfl)) v_c)) (fun c => ?_) (fun c => ?_)
    · refine s_ret v_c (k _ _ m1 o1 ?_)
      rw [aimG_len (by simp at c; omega)]; exact .non
    refine s_next ?_
    have c : fs1.length = 1 := by simp at c; omega
    obtain ⟨t, rfl⟩ : ∃ t, fs1 = [t] := by
      cases fs1 with
      | nil => cases c
      | cons t r => cases r with | nil => exact ⟨t, rfl⟩ | cons => simp at c
    have st := sm1.2 t List.mem_cons_self
    refine q_set v_c ?_
    refine q_set (v_ixL (v_var rfl) v_c hb (by decide) rfl) ?_
    refine q_rel (fun σ' H' => H' = H1 ∧ ∃ (hd : Str) (t' : LN), σ' = [some (.int kd), some (.ref b), some (.int far), some (.str hd), some (.str (oL t'))] ∧ t'.length ≤ 90000 ∧ oD deedD (aimG kd far [t]) = oD (fun ts => .tuple [.str hd, .int (128 * kd + 64 * far), termsD ts]) (termsL t')) ?_ ?_
    · have hs := v_slS (t := t) (lo := none) (hi := some 1) (σ := [some (.int kd), some (.ref b), some (.int far), some (.str "aim"), some (.str (oL t))]) (H := H1) (ta := tVar 4) (tlo := tNoPart) (thi := tPart (tC (.int 1))) (v_var rfl) o_none (o_some v_c) (by omega)
      rw [show cutD t none (some 1) = t.take 1 from cutD_to (j := 1)] at hs
      refine s_if (a_t (v_eqO hs (v_eqv v_c (show V.str _ = V.str (oL [61]) by rfl)))) (fun c => ?_) (fun c => ?_)
      · have c : t.take 1 = [61] := of_decide_eq_true c
        obtain ⟨r, rfl⟩ : ∃ r, t = 61 :: r := by
          cases t with
          | nil => cases c
          | cons x r => exact ⟨r, by rw [(List.cons.inj c).1]⟩
        refine q_set v_c ?_
        have hs := v_slS (t := 61 :: r) (lo := some 1) (hi := none) (σ := [some (.int kd), some (.ref b), some (.int far), some (.str "pool"), some (.str (oL (61 :: r)))]) (H := H1) (ta := tVar 4) (tlo := tPart (tC (.int 1))) (thi := tNoPart) (v_var rfl) (o_some v_c) o_none (by omega)
        rw [show cutD (61 :: r) (some 1) none = r from cutD_from (i := 1)] at hs
        refine s_set hs ⟨rfl, _, r, rfl, by simp at st; omega, ?_⟩
        rw [aimG]
        cases termsL r <;> rfl
      · have c : ¬ t.take 1 = [61] := of_decide_eq_false c
        refine s_next ⟨rfl, _, t, rfl, st, ?_⟩
        have e : aimG kd far [t] = (termsL t).map (Dd.aim (128 * kd + 64 * far)) := by
          unfold aimG
          split
          · rename_i h; cases h
            split
            · exact absurd rfl c
            · rfl
          · rename_i h; exact absurd rfl (h t)
        rw [e]
        cases termsL t <;> rfl
    rintro _ _ ⟨rfl, hd, t', rfl, st', e2⟩
    rw [e2] at k
    have TM := fun (H : Hp) => dv_spW (K := K) (F := F) (W := W) (H := H) (σ := [some (.int kd), some (.ref b), some (.int far), some (.str hd), some (.str (oL t'))]) (tA := tCons (tVar 4) tNil) (pre := preTerms) (d := oD termsD (termsL t')) wo (fun _ _ _ => va_cons (v_var rfl) va_nil) (fun _ _ _ => ⟨t', rfl, by omega, rfl⟩)
    refine q_ifM (am_isN (TM _)) o1 (fun c H2 m2 o2 => ?_) (fun c H2 m2 o2 => ?_)
    · rw [isNone_terms, Option.isNone_iff_eq_none] at c
      refine s_ret v_c (k _ _ (m1.trans m2) o2 ?_)
      rw [c]; exact .non
    refine s_next ?_
    rw [isNone_terms] at c
    obtain ⟨ts, et⟩ : ∃ ts, termsL t' = some ts := by cases h : termsL t' with
      | none => rw [h] at c; cases c
      | some ts => exact ⟨ts, rfl⟩
    rw [et] at k TM
    exact s_retD (K := K) (d := .tuple [.str hd, .int (128 * kd + 64 * far), termsD ts]) (dv_tup wo (da_cons (dv_var rfl (.str _)) (da_cons (dv_i fun _ _ _ => v_add (v_mul v_c (v_var rfl) (.inl ⟨by decide, by decide⟩)) (v_mul v_c (v_var rfl) (.inl ⟨by decide, by decide⟩))) (da_cons (TM _) da_nil)))) o2 (fun v H' m o hd => k v H' ((m1.trans m2).trans m) o hd)

theorem sc_deed_of : FnScope ["found", "head"] ["found"] (defScope s_deed_of) := ⟨rfl, rfl, rfl, by decide +kernel, rfl, by decide +kernel, by decide +kernel⟩
theorem cal_deed_of (T : Tx K mg) : Cal P w K mg base 4 "deed_of" ["found"] (spDV K (preDeed K)) := by
  refine cal_mk T 4 4 rfl rfl sc_deed_of (fun _ _ _ _ _ _ us hl => match us, hl with | [_], _ => rfl) (fun vs H Q E h => ?_) (fun f cdv A outer s H vs Q E hr h => ?_)
  · obtain ⟨F, W, d, wo, ok, ⟨v, fs, rfl, hv, hne, sm, rfl⟩, k⟩ := h
    rfl
  · obtain ⟨F, W, d, wo, ok, ⟨v, fs, rfl, hv, hne, sm, rfl⟩, k⟩ := h
    refine ⟨_, (pss_cons (ps_set (i := 1) sc_deed_of.nd rfl (Or.inl rfl) (pe_ix ix_list (pv 0) pe_int (fun _ _ => rfl))) (pss_cons (ps_if (PW.pt (pw_or (pt_cmpR op_eq (pv 1) pe_str (nomark _)) (pw_or1 (pt_cmpR op_eq (pv 1) pe_str (nomark _))))) (pss_one (ps_if (PW.pt (pw_and (pt_cmpR op_eq (pe_callB call_len_seq (by rfl) (T.free 50) PySem.boot_len (pa_cons (pv 0) pa_nil)) pe_int (nomark _)) (pw_and1 (pt_cmpR op_notN1 (pe_cal (cal_terms (K := K) T) hr (by decide) rfl (pa_cons (pe_ix ix_list (pv 0) pe_int (fun _ _ => rfl)) pa_nil)) pe_non (nomark _))))) (pss_one (ps_ret (pe_tup (pa_cons (pv 1) (pa_cons (pe_cal (cal_terms (K := K) T) hr (by decide) rfl (pa_cons (pe_ix ix_list (pv 0) pe_int (fun _ _ => rfl)) pa_nil)) pa_nil))))) pss_nil)) (pss_one (ps_if (pt_cmpR op_eq (pv 1) pe_str (nomark _)) (pss_one (ps_if (PW.pt (pw_and (pt_cmpR op_eq (pe_callB call_len_seq (by rfl) (T.free 50) PySem.boot_len (pa_cons (pv 0) pa_nil)) pe_int (nomark _)) (pw_and1 (pt_cmpR op_in_seq (pe_ix ix_list (pv 0) pe_int (fun _ _ => rfl)) (pe_glob (v := .ref (He.ga K "ASKS")) (by rfl) (T.glo 111) rfl) (by rfl))))) (pss_one (ps_ret (pe_tup (pa_cons pe_str (pa_cons (pe_op op_add pe_int (pe_bm PySem.F.plainAttrs_tuple PySem.F.slot_tuple_index PySem.F.type_tuple_index mt_tup_index (pe_glob (v := .ref (He.ga K "ASKS")) (by rfl) (T.glo 111) rfl) (pa_cons (pe_ix ix_list (pv 0) pe_int (fun _ _ => rfl)) pa_nil))) pa_nil))))) pss_nil)) (pss_one (ps_if (PW.pt (pw_and (pt_cmpR op_eq (pv 1) pe_str (nomark _)) (pw_and1 (pt_cmpR op_notN1 (pe_cal (cal_weight_of (K := K) T) hr (by decide) rfl (pa_cons (pe_slice sl_list (pv 0) (po_some pe_int) po_none) (pa_cons (pe_glob (v := .ref (He.ga K "CHANGES")) (by rfl) (T.glo 112) rfl) pa_nil))) pe_non (nomark _))))) (pss_one (ps_ret (pe_tup (pa_cons pe_str (pa_cons (pe_op op_add pe_int (pe_cal (cal_weight_of (K := K) T) hr (by decide) rfl (pa_cons (pe_slice sl_list (pv 0) (po_some pe_int) po_none) (pa_cons (pe_glob (v := .ref (He.ga K "CHANGES")) (by rfl) (T.glo 112) rfl) pa_nil)))) pa_nil))))) (pss_one (ps_if (PW.pt (pw_and (pt_cmpR op_eq (pv 1) pe_str (nomark _)) (pw_and1 (pt_cmpR op_notN1 (pe_cal (cal_weight_of (K := K) T) hr (by decide) rfl (pa_cons (pe_slice sl_list (pv 0) (po_some pe_int) po_none) (pa_cons (pe_glob (v := .ref (He.ga K "TESTS")) (by rfl) (T.glo 113) rfl) pa_nil))) pe_non (nomark _))))) (pss_one (ps_ret (pe_tup (pa_cons pe_str (pa_cons (pe_op op_add pe_int (pe_cal (cal_weight_of (K := K) T) hr (by decide) rfl (pa_cons (pe_slice sl_list (pv 0) (po_some pe_int) po_none) (pa_cons (pe_glob (v := .ref (He.ga K "TESTS")) (by rfl) (T.glo 113) rfl) pa_nil)))) pa_nil))))) (pss_one (ps_if (pt_cmpR op_in_seq (pv 1) (pe_glob (v := .ref (He.ga K "KINDS")) (by rfl) (T.glo 110) rfl) (by rfl)) (pss_one (ps_ret (pe_cal (cal_aimed (K := K) T) hr (by decide) rfl (pa_cons (pe_bm PySem.F.plainAttrs_tuple PySem.F.slot_tuple_index PySem.F.type_tuple_index mt_tup_index (pe_glob (v := .ref (He.ga K "KINDS")) (by rfl) (T.glo 110) rfl) (pa_cons (pv 1) pa_nil)) (pa_cons (pe_slice sl_list (pv 0) (po_some pe_int) po_none) pa_nil))))) pss_nil))))))))) (pss_one (ps_ret pe_non)))), ?_⟩
    obtain ⟨b, rfl, hb⟩ := hv.lns
    cases fs with
    | nil => exact absurd rfl hne
    | cons h r =>
    refine q_set (v_ixL (v_var rfl) v_c hb (by decide) rfl) ?_
    have len2 : ∀ H1, Mv F H F H1 → Val _ [some (.ref b), some (.str (oL h))] H1 (.bl (decide ((((h :: r).map lnD).length : Int) = 2))) := fun H1 m => v_eqI (v_lenD (hv.mv m) (v_var (k := 0) rfl)) v_c
    have notwo : r.length ≠ 1 → decide ((((h :: r).map lnD).length : Int) = 2) = false := fun z => decide_eq_false (by rw [List.length_map, List.length_cons]; omega)
    refine q_if (b := decide (h = placeL ∨ h = wordL)) (by rw [Bool.decide_or]; exact a_or (a_t (v_eqO (v_var rfl) (v_eqv v_c (show V.str _ = V.str (oL placeL) from congrArg V.str (oL_tl _).symm)))) (fun _ => a_t (v_eqO (v_var rfl) (v_eqv v_c (show V.str _ = V.str (oL wordL) from congrArg V.str (oL_tl _).symm))))) (fun c1 => ?_) (fun c1 => ?_)
    · have c1 : h = placeL ∨ h = wordL := of_decide_eq_true c1
      by_cases lr : r.length = 1
      case neg =>
        have ed : deedL (h :: r) = none := by
          rw [deedL, deedC, if_pos c1, one1_none lr]
        refine s_ifM (b := false) (am_and (b := false) (c := true) (am_a fun H1 m1 _ => a_t (v_eqv (len2 H1 m1) (congrArg V.bl (notwo lr)))) (fun z => by cases z)) ok (fun z => by cases z) (fun _ H2 m2 o2 => s_next (s_ret v_c (k _ _ m2 o2 ?_)))
        rw [ed]; exact .non
      obtain ⟨t, rfl⟩ : ∃ t, r = [t] := by
        cases r with
        | nil => cases lr
        | cons t1 r1 =>
          cases r1 with
          | nil => exact ⟨t1, rfl⟩
          | cons t2 r2 => simp at lr
      have st := sm.2 t (by simp)
      have ed : deedL (h :: [t]) = (termsL t).map (if h = placeL then Dd.place else Dd.word) := by rw [deedL, deedC, if_pos c1]; rfl
      have TM := fun (H1 : Hp) (mm : Mv F H F H1) => dv_spW (K := K) (F := F) (W := W) (H := H1) (σ := [some (.ref b), some (.str (oL h))]) (tA := tCons (tOp (rIxL K) (tVar 0) (tC (.int 1))) tNil) (pre := preTerms) (d := oD termsD (termsL t)) wo (fun H2 m2 _ => va_cons (v_ixL (v_var (k := 0) rfl) v_c (by obtain ⟨b', e, hq⟩ := ((hv.mv mm).mv m2).lns; cases e; exact hq) (by decide) rfl) va_nil) (fun _ _ _ => ⟨t, rfl, st, rfl⟩)
      refine s_ifM (am_and (am_a fun H1 m1 _ => a_t (len2 H1 m1)) (fun _ => am_notN (TM H .refl))) ok (fun c H2 m2 o2 => ?_) (fun c H2 m2 o2 => ?_)
      · have c2 : (termsL t).isNone = false := by
          rw [isNone_terms, Bool.and_eq_true] at c
          exact (Bool.not_eq_true' _).mp c.2
        obtain ⟨ts, et⟩ : ∃ ts, termsL t = some ts := by cases z : termsL t with
          | none => rw [z] at c2; cases c2
          | some ts => exact ⟨ts, rfl⟩
        rw [ed, et] at k
        rw [et] at TM
        refine s_retD (K := K) (d := .tuple [.str (oL h), termsD ts]) (dv_tup wo (da_cons (dv_var rfl (.str _)) (da_cons (TM H2 m2) da_nil))) o2 (fun v H' m o hd => k v H' (m2.trans m) o ?_)
        rcases c1 with rfl | rfl
        · exact hd
        · exact hd
      · have c2 : (termsL t).isNone = true := by
          rw [isNone_terms] at c
          cases z : (termsL t).isNone with
          | true => rfl
          | false => rw [z] at c; simp at c
        refine s_next (s_ret v_c (k _ _ m2 o2 ?_))
        rw [ed, Option.isNone_iff_eq_none.mp c2]; exact .non
    have c1 : ¬ (h = placeL ∨ h = wordL) := of_decide_eq_false c1
    refine s_if (a_t (v_eqO (v_var rfl) (v_eqv v_c (show V.str _ = V.str (oL askL) from congrArg V.str (oL_tl _).symm)))) (fun c2 => ?_) (fun c2 => ?_)
    · have c2 : h = askL := of_decide_eq_true c2
      by_cases lr : r.length = 1
      case neg =>
        have ed : deedL (h :: r) = none := by
          rw [deedL, deedC, if_neg c1, if_pos c2, one1_none lr]
        refine s_ifF0 (a_and (b := false) (c := true) (a_t (v_eqv (len2 H .refl) (congrArg V.bl (notwo lr)))) (fun z => by cases z)) rfl (s_ret v_c (k _ _ .refl ok ?_))
        rw [ed]; exact .non
      obtain ⟨t, rfl⟩ : ∃ t, r = [t] := by
        cases r with
        | nil => cases lr
        | cons t1 r1 =>
          cases r1 with
          | nil => exact ⟨t1, rfl⟩
          | cons t2 r2 => simp at lr
      have ix : Val (tOp (rIxL K) (tVar 0) (tC (.int 1))) [some (.ref b), some (.str (oL h))] H (.str (oL t)) := v_ixL (v_var (k := 0) rfl) v_c hb (by decide) rfl
      refine s_if (a_and (a_t (len2 H .refl)) (fun _ => a_t (v_inT ix v_c (show SqT K _ _ (asksS.map V.str) from T.t_ASKS _)))) (fun c => ?_) (fun c => ?_)
      · have c3 : t ∈ asksN := by rw [Bool.and_eq_true] at c; exact of_decide_eq_true c.2
        have ed : deedL (h :: [t]) = some (.made (768 + (asksN.idxOf t : Nat))) := by rw [deedL, deedC, if_neg c1, if_pos c2]; exact if_pos c3
        rw [ed] at k
        exact s_retD (K := K) (d := .tuple [.str "made", .int (768 + (asksN.idxOf t : Nat))]) (dv_tup wo (da_cons dv_s (da_cons (dv_i fun H2 m2 _ => v_add v_c (v_tidx v_c (T.n_ASKS _) (v_ixL (v_var (k := 0) rfl) v_c (by obtain ⟨b', e, hq⟩ := (hv.mv m2).lns; cases e; exact hq) (by decide) rfl) (show SqT K _ _ (asksS.map V.str) from T.t_ASKS _) c3)) da_nil))) ok k
      · have c3 : ¬ t ∈ asksN := fun z => by rw [show decide ((((h :: [t]).map lnD).length : Int) = 2) = true from rfl, Bool.true_and] at c; exact of_decide_eq_false c z
        have ed : deedL (h :: [t]) = none := by rw [deedL, deedC, if_neg c1, if_pos c2]; exact if_neg c3
        refine s_next (s_ret v_c (k _ _ .refl ok ?_))
        rw [ed]; exact .non
    have c2 : ¬ h = askL := of_decide_eq_false c2
    have mm : Mv F H F H := .refl
    refine s_ifM (am_and (am_a fun _ _ _ => a_t (v_eqO (v_var (k := 1) rfl) (v_eqv v_c (show V.str _ = V.str (oL changeL) from congrArg V.str (oL_tl _).symm)))) (fun _ => am_notN (dv_spA (σ := [some (.ref b), some (.str (oL h))]) (H := H) (d := oD PyData.int (weightL (chgS.map TL.tl) r)) wo ((dv_slLf (ds := (h :: r).map lnD) 1 wo (dv_var (k := 0) rfl (hv.mv mm)) (pt_s fun _ _ _ => v_c)).eq (show _ = lnsD r from rfl)) (fun _ _ _ => v_c) (fun v H1 m1 o1 hd => ⟨v, r, _, chgS, rfl, hd, fun H' => T.t_CHANGES H', fun H' => T.n_CHANGES H', by decide, sm.tail.1, rfl⟩)))) ok (fun c H1 mm o1 => ?_) (fun c H1 mm o1 => ?_)
    · rw [isNone_w, Bool.and_eq_true] at c
      obtain ⟨w, ew⟩ : ∃ w, weightL chgN r = some w := by cases z : weightL chgN r with
        | none => have := c.2; unfold chgN at z; rw [z] at this; cases this
        | some w => exact ⟨w, rfl⟩
      have ed : deedL (h :: r) = some (.made (896 + w)) := by rw [deedL, deedC, if_neg c1, if_neg c2, if_pos ⟨of_decide_eq_true c.1, by rw [ew]; rfl⟩, ew]; rfl
      rw [ed] at k
      exact s_retD (K := K) (d := .tuple [.str "made", .int (896 + w)]) (dv_tup wo (da_cons dv_s (da_cons (dv_add dv_k (Dv.eq (dv_spA (σ := [some (.ref b), some (.str (oL h))]) (H := H1) (d := oD PyData.int (weightL (chgS.map TL.tl) r)) wo ((dv_slLf (ds := (h :: r).map lnD) 1 wo (dv_var (k := 0) rfl (hv.mv mm)) (pt_s fun _ _ _ => v_c)).eq (show _ = lnsD r from rfl)) (fun _ _ _ => v_c) (fun v H1 m1 o1 hd => ⟨v, r, _, chgS, rfl, hd, fun H' => T.t_CHANGES H', fun H' => T.n_CHANGES H', by decide, sm.tail.1, rfl⟩)) (by show oD PyData.int (weightL chgN r) = _; rw [ew]; rfl))) da_nil))) o1 (fun v H' m o hd => k v H' (mm.trans m) o hd)
    have c3 : ¬ (h = changeL ∧ (weightL chgN r).isSome = true) := fun z => by
      rw [isNone_w, decide_eq_true z.1, Bool.true_and] at c
      have := z.2
      unfold chgN at this
      cases q : weightL (chgS.map TL.tl) r with
      | none => rw [q] at this; cases this
      | some w => rw [q] at c; cases c
    have mm0 := mm
    refine s_ifM (am_and (am_a fun _ _ _ => a_t (v_eqO (v_var (k := 1) rfl) (v_eqv v_c (show V.str _ = V.str (oL testL) from congrArg V.str (oL_tl _).symm)))) (fun _ => am_notN (dv_spA (σ := [some (.ref b), some (.str (oL h))]) (H := H1) (d := oD PyData.int (weightL (tstS.map TL.tl) r)) wo ((dv_slLf (ds := (h :: r).map lnD) 1 wo (dv_var (k := 0) rfl (hv.mv mm)) (pt_s fun _ _ _ => v_c)).eq (show _ = lnsD r from rfl)) (fun _ _ _ => v_c) (fun v H1 m1 o1 hd => ⟨v, r, _, tstS, rfl, hd, fun H' => T.t_TESTS H', fun H' => T.n_TESTS H', by decide, sm.tail.1, rfl⟩)))) o1 (fun c H1 m1 o1 => ?_) (fun c H1 m1 o1 => ?_)
    · replace mm := mm0.trans m1
      rw [isNone_w, Bool.and_eq_true] at c
      obtain ⟨w, ew⟩ : ∃ w, weightL tstN r = some w := by cases z : weightL tstN r with
        | none => have := c.2; unfold tstN at z; rw [z] at this; cases this
        | some w => exact ⟨w, rfl⟩
      have ed : deedL (h :: r) = some (.made (960 + w)) := by rw [deedL, deedC, if_neg c1, if_neg c2, if_neg c3, if_pos ⟨of_decide_eq_true c.1, by rw [ew]; rfl⟩, ew]; rfl
      rw [ed] at k
      exact s_retD (K := K) (d := .tuple [.str "made", .int (960 + w)]) (dv_tup wo (da_cons dv_s (da_cons (dv_add dv_k (Dv.eq (dv_spA (σ := [some (.ref b), some (.str (oL h))]) (H := H1) (d := oD PyData.int (weightL (tstS.map TL.tl) r)) wo ((dv_slLf (ds := (h :: r).map lnD) 1 wo (dv_var (k := 0) rfl (hv.mv mm)) (pt_s fun _ _ _ => v_c)).eq (show _ = lnsD r from rfl)) (fun _ _ _ => v_c) (fun v H1 m1 o1 hd => ⟨v, r, _, tstS, rfl, hd, fun H' => T.t_TESTS H', fun H' => T.n_TESTS H', by decide, sm.tail.1, rfl⟩)) (by show oD PyData.int (weightL tstN r) = _; rw [ew]; rfl))) da_nil))) o1 (fun v H' m o hd => k v H' (mm.trans m) o hd)
    replace mm := mm0.trans m1
    have c4 : ¬ (h = testL ∧ (weightL tstN r).isSome = true) := fun z => by
      rw [isNone_w, decide_eq_true z.1, Bool.true_and] at c
      have := z.2
      unfold tstN at this
      cases q : weightL (tstS.map TL.tl) r with
      | none => rw [q] at this; cases this
      | some w => rw [q] at c; cases c
    refine s_if (a_t (v_inT (v_var rfl) v_c (show SqT K _ _ (kindsS.map V.str) from T.t_KINDS _))) (fun c5 => ?_) (fun c5 => ?_)
    · have c5 : h ∈ kindsN := of_decide_eq_true c5
      have ed : deedL (h :: r) = aimedL (kindsN.idxOf h : Nat) r := by rw [deedL, deedC, if_neg c1, if_neg c2, if_neg c3, if_neg c4, if_pos c5]
      rw [ed] at k
      exact s_retD (K := K) (d := oD deedD (aimedL (kindsN.idxOf h : Nat) r)) (dv_spB wo (fun _ _ _ => v_tidx v_c (T.n_KINDS _) (v_var (k := 1) rfl) (show SqT K _ _ (kindsS.map V.str) from T.t_KINDS _) c5) ((dv_slLf (ds := (h :: r).map lnD) 1 wo (dv_var (k := 0) rfl (hv.mv mm)) (pt_s fun _ _ _ => v_c)).eq (show _ = lnsD r from rfl)) (fun v H1 m1 o1 hd => ⟨v, r, _, rfl, hd, sm.tail, rfl⟩)) o1 (fun v H' m o hd => k v H' (mm.trans m) o hd)
    · have c5 : ¬ h ∈ kindsN := of_decide_eq_false c5
      have ed : deedL (h :: r) = none := by rw [deedL, deedC, if_neg c1, if_neg c2, if_neg c3, if_neg c4, if_neg c5]
      refine s_next (s_ret v_c (k _ _ mm o1 ?_))
      rw [ed]; exact .non

theorem sc_read : FnScope ["line", "found", "label", "deed", "one"] ["line"] (defScope s_read) := ⟨rfl, rfl, rfl, by decide +kernel, rfl, by decide +kernel, by decide +kernel⟩
theorem cal_read (T : Tx K mg) : Cal P w K mg base 5 "read" ["line"] (spDV K preRead) := by
  refine cal_mk T 6 6 rfl rfl sc_read (fun _ _ _ _ _ _ us hl => match us, hl with | [_], _ => rfl) (fun vs H Q E h => ?_) (fun f cdv A outer s H vs Q E hr h => ?_)
  · obtain ⟨F, W, d, wo, ok, ⟨t, rfl, tl, rfl⟩, k⟩ := h
    rfl
  · obtain ⟨F, W, d, wo, ok, ⟨t, rfl, tl, rfl⟩, k⟩ := h
    refine ⟨_, (pss_cons (ps_setLc (i := 1) (own := [("one", 4)]) (g := gName 4)  rfl sc_read.nd rfl rfl (sw_true rfl rfl rfl (by decide +kernel)) (pi_list (pe_split (pe_ix ix_list (pe_split (pv 0) pe_str) pe_int (fun _ _ => rfl)) pe_str)) (blkOk_by (own := [("one", 4)]) (N := ["line", "found", "label", "deed", "one"]) (sc := defScope s_read) (by decide +kernel)) (fun _ _ _ _ _ => pg_name (i := 4) sc_read.nd rfl (Or.inl rfl)) (fun _ _ _ _ _ => (pts_one (pt_cmpR op_ne (pv 4) pe_str (nomark _)))) (fun _ _ _ _ _ => (pv 4))) (pss_cons (ps_set (i := 2) sc_read.nd rfl (Or.inl rfl) pe_non) (C8.pss_cut (ps_if (PW.pt (pw_and (pt_truth (pv 1) (by intro _; rfl)) (pw_and1 (pt_cmpR op_eq (pe_slice sl_str (pe_ix ix_list (pv 1) pe_int (fun _ _ => rfl)) (po_some (pe_un un_neg pe_int)) po_none) pe_str (nomark _))))) (pss_cons (ps_set (i := 2) sc_read.nd rfl (Or.inl rfl) (pe_slice sl_str (pe_ix ix_list (pv 1) pe_int (fun _ _ => rfl)) po_none (po_some (pe_un un_neg pe_int)))) (pss_cons (ps_set (i := 1) sc_read.nd rfl (Or.inl rfl) (pe_slice sl_list (pv 1) (po_some pe_int) po_none)) (pss_one (ps_if (pt_not (pt_val (pe_cal (cal_is_name (K := K) T) hr (by decide) rfl (pa_cons (pv 2) pa_nil)))) (pss_one (ps_ret pe_non)) pss_nil)))) pss_nil) (pss_cons (ps_if (pt_not (pt_truth (pv 1) (by intro _; rfl))) (pss_one (ps_ret (pe_tup (pa_cons (pv 2) (pa_cons pe_non pa_nil))))) pss_nil) (pss_cons (ps_set (i := 3) sc_read.nd rfl (Or.inl rfl) (pe_cal (cal_deed_of (K := K) T) hr (by decide) rfl (pa_cons (pv 1) pa_nil))) (pss_cons (ps_if (pt_cmpR op_isN1 (pv 3) pe_non (nomark _)) (pss_one (ps_ret pe_non)) pss_nil) (pss_one (ps_ret (pe_tup (pa_cons (pv 2) (pa_cons (pv 3) pa_nil))))))))))), ?_⟩
    obtain ⟨h0, r0, e0⟩ : ∃ h0 r0, cutAt 59 t = h0 :: r0 := by cases z : cutAt 59 t with
      | nil => exact absurd z (cutAt_ne 59 t)
      | cons a b => exact ⟨a, b, rfl⟩
    have hl0 : h0.length ≤ t.length := cutAt_len 59 t h0 (by rw [e0]; exact List.mem_cons_self)
    have hp : piecesL t = (cutAt 32 h0).filter fun p => !p.isEmpty := by unfold piecesL; rw [e0]; rfl
    have sm : smallL (piecesL t) := by
      rw [hp]
      have := cutAt_many 32 h0
      refine ⟨Nat.le_trans (List.length_filter_le _ _) (by omega), fun l hl => ?_⟩
      have := cutAt_len 32 h0 l (List.mem_filter.mp hl).1
      omega
    refine q_d (K := K) (d := lnsD (piecesL t)) ((DvN.dv (dn_lcG (cutAt 32 h0) lnD (fun l => !l.isEmpty) lnD wo ((dn_split wo (dv_ixL (d := .str (oL h0)) (dn_split (t := t) (c := 59) wo (dv_var rfl (.str _)) rfl (by decide) (by omega)).dv (fun _ _ _ => v_c) (by decide) (by rw [e0]; rfl)) rfl (by decide) (by omega)).dv) (by have := cutAt_many 32 h0; omega) (fun _ => rfl) (fun i x l H1 F1 W1 tn hi hx => by
      cases hx
      exact (am_a fun _ _ _ => a_t (v_neO (v_var rfl) (v_eqv v_c (show V.str _ = V.str (oL ([] : LN)) by rfl)))).eq (by cases l <;> rfl)) (fun i x l H1 F1 W1 tn hi hx _ => dv_var rfl hx))).eq (by rw [hp]; rfl)) ok (fun v H1 m1 o1 hv => ?_)
    refine q_set v_c ?_
    have er : readL t = readP (piecesL t) := rfl
    generalize piecesL t = ps at hv sm er
    rw [er] at k
    clear er hp
    obtain ⟨b, rfl, hb⟩ := hv.lns
    refine q_rel (fun σ' H' => ∃ v' lab rest, σ' = [some (.str (oL t)), some v', some (labV lab), none, none] ∧ Mv F H F H' ∧ Ok F W H' ∧ Da K H' F v' (lnsD rest) ∧ smallL rest ∧ readP ps = restL lab rest) ?_ ?_
    · cases ps with
      | nil =>
        exact s_ifF0 (a_and (b := false) (c := true) (a_tru (v_var rfl) (.inl ⟨_, hb, rfl⟩)) (fun z => by cases z)) rfl ⟨_, none, [], rfl, m1, o1, hv, sm, rfl⟩
      | cons f r =>
        have sf := sm.2 f List.mem_cons_self
        have ix : ∀ y1 y2 y3, Val (tOp (rIxL K) (tVar 1) (tC (.int 0))) [some (.str (oL t)), some (.ref b), y1, y2, y3] H1 (.str (oL f)) := fun _ _ _ => v_ixL (v_var rfl) v_c hb (by decide) rfl
        refine s_if (b := decide (f.getLast? = some 58)) ?_ (fun c => ?_) (fun c => ?_)
        · have ha := a_and (b := true) (a_tru (K := K) (ta := tVar 1) (σ := [some (.str (oL t)), some (.ref b), some V.non, none, none]) (H := H1) (v_var rfl) (.inl ⟨_, hb, rfl⟩)) (fun _ => a_t (v_eqO (v_slS (lo := some (-1)) (hi := none) (ix (some V.non) none none) (o_some (v_neg v_c)) o_none (by omega)) (v_eqv v_c (show V.str _ = V.str (oL [58]) by rfl))))
          cases hf : f with
          | nil =>
            subst hf
            exact ha
          | cons x y =>
            rw [← hf]
            have hn : f ≠ [] := by rw [hf]; simp
            rw [cut_last hn] at ha
            rw [show decide (f.getLast? = some 58) = (true && decide (f.drop (f.length - 1) = [58])) by rw [Bool.true_and]; exact decide_eq_decide.mpr (last_eq hn 58).symm]
            exact ha
        · have c : f.getLast? = some 58 := of_decide_eq_true c
          have eR : readP (f :: r) = if isNameL f.dropLast = true then restL (some f.dropLast) r else none := by rw [readP, if_pos c]
          have hs := v_slS (lo := none) (hi := some (-1)) (ix (some V.non) none none) o_none (o_some (v_neg v_c)) (by omega)
          rw [cut_init] at hs
          refine q_set hs ?_
          refine q_d (K := K) (d := lnsD r) ((dv_slLf (ds := (f :: r).map lnD) 1 wo (dv_var rfl hv) (pt_s fun _ _ _ => v_c)).eq rfl) o1 (fun v2 H2 m2 o2 hv2 => ?_)
          refine s_if (a_not (a_B (v_call (va_cons (v_var rfl) va_nil) (fun _ q => ⟨f.dropLast, rfl, by rw [List.length_dropLast]; omega, q⟩)))) (fun c2 => ?_) (fun c2 => ?_)
          · have c2 : isNameL f.dropLast = false := (Bool.not_eq_true' _).mp c2
            refine s_ret v_c (k _ _ (m1.trans m2) o2 ?_)
            rw [eR, if_neg (by rw [c2]; exact Bool.false_ne_true)]; exact .non
          · have c2 : isNameL f.dropLast = true := (Bool.not_eq_false' _).mp c2
            exact s_next ⟨v2, some f.dropLast, r, rfl, m1.trans m2, o2, hv2, sm.tail, by rw [eR, if_pos c2]⟩
        · have c : ¬ f.getLast? = some 58 := of_decide_eq_false c
          refine s_next ⟨_, none, f :: r, rfl, m1, o1, hv, sm, ?_⟩
          rw [readP, if_neg c]
    rintro _ H2 ⟨v2, lab, rest, rfl, m2, o2, hv2, sm2, e2⟩
    rw [e2] at k
    obtain ⟨b2, rfl, hb2⟩ := hv2.lns
    cases rest with
    | nil =>
      refine q_ifT (a_not (b := false) (a_tru (v_var rfl) (.inl ⟨_, hb2, rfl⟩))) rfl ?_
      exact s_retD (K := K) (d := readD (lab, none)) (dv_tup wo (da_cons (dv_var rfl (da_lab lab)) (da_cons (dv_c .non) da_nil))) o2 (fun v H' m o hd => k v H' (m2.trans m) o hd)
    | cons f r =>
      refine q_ifF0 (a_not (b := true) (a_tru (v_var rfl) (.inl ⟨_, hb2, rfl⟩))) rfl ?_
      refine q_d (K := K) (d := oD deedD (deedL (f :: r))) (dv_spW wo (fun _ _ _ => va_cons (v_var rfl) va_nil) (fun _ m3 _ => ⟨_, f :: r, rfl, hv2.mv m3, by simp, sm2, rfl⟩)) o2 (fun v3 H3 m3 o3 hv3 => ?_)
      refine q_if (b := (deedL (f :: r)).isNone) (a_t (v_eqv (v_isN (v_var rfl) v_c) (congrArg V.bl (by rw [isNone_da hv3, isNone_deed])))) (fun c => ?_) (fun c => ?_)
      · refine s_ret v_c (k _ _ (m2.trans m3) o3 ?_)
        show Da K H3 F _ (oD readD ((deedL (f :: r)).map fun d => (lab, some d)))
        rw [Option.isNone_iff_eq_none.mp c]; exact .non
      refine s_next ?_
      obtain ⟨dd, ed⟩ : ∃ dd, deedL (f :: r) = some dd := by cases z : deedL (f :: r) with
        | none => rw [z] at c; cases c
        | some ts => exact ⟨ts, rfl⟩
      rw [ed] at hv3
      replace k : ∀ v H', Mv F H F H' → Ok F W H' → Da K H' F v (readD (lab, some dd)) → Q v H' := fun v H' m o hd => k v H' m o (by show Da K H' F v (oD readD ((deedL (f :: r)).map fun d => (lab, some d))); rw [ed]; exact hd)
      exact s_retD (K := K) (d := readD (lab, some dd)) (dv_tup wo (da_cons (dv_var rfl (da_lab lab)) (da_cons (dv_var rfl hv3) da_nil))) o3 (fun v H' m o hd => k v H' ((m2.trans m3).trans m) o hd)
end
/-! ### labels, cells as dicts; promises of the goings over -/
def labK (ls : Lab) : List (Key × V) := ls.map fun q => (Sum.inr (oL q.1), V.int q.2)
def madeK (m : Made) : List (Key × V) := m.map fun q => (Sum.inl q.1, V.int q.2)
theorem valV_lab (x : LN) : ∀ ls : Lab, valV (labK ls) (Sum.inr (oL x)) = (labGet ls x).map V.int
  | [] => rfl
  | q :: r => by
    have ih := valV_lab x r
    unfold labK at ih ⊢
    rw [List.map_cons]
    by_cases h : q.1 = x
    · rw [valV_pos (by show Sum.inr (oL q.1) = Sum.inr (oL x); rw [h])]
      unfold labGet
      rw [List.find?_cons, decide_eq_true h]; rfl
    · rw [valV_neg (fun e => h (SX.S_inj (Sum.inr.inj e))), ih]
      unfold labGet
      rw [List.find?_cons, decide_eq_false h]
theorem valV_made (x : Int) : ∀ m : Made, valV (madeK m) (Sum.inl x) = (madeGet m x).map V.int
  | [] => rfl
  | q :: r => by
    have ih := valV_made x r
    unfold madeK at ih ⊢
    rw [List.map_cons]
    by_cases h : q.1 = x
    · rw [valV_pos (by show Sum.inl q.1 = Sum.inl x; rw [h])]
      unfold madeGet
      rw [List.find?_cons, decide_eq_true h]; rfl
    · rw [valV_neg (fun e => h (Sum.inl.inj e)), ih]
      unfold madeGet
      rw [List.find?_cons, decide_eq_false h]
theorem putK_new {κ : Type} [DecidableEq κ] {kvs : List (κ × V)} {k : κ} {v : V} (h : valV kvs k = none) : putK kvs k v = kvs ++ [(k, v)] := by
  unfold putK
  rw [valV_any, h]; rfl
theorem labK_put {ls : Lab} {x : LN} {a : Int} (h : labGet ls x = none) : putK (labK ls) (Sum.inr (oL x)) (.int a) = labK (ls ++ [(x, a)]) := by
  rw [putK_new (by rw [valV_lab, h]; rfl)]
  unfold labK; rw [List.map_append]; rfl
theorem madeK_put {m : Made} {x a : Int} (h : madeGet m x = none) : putK (madeK m) (Sum.inl x) (.int a) = madeK (m ++ [(x, a)]) := by
  rw [putK_new (by rw [valV_made, h]; rfl)]
  unfold madeK; rw [List.map_append]; rfl
def okTs (ts : List (Int × LN)) : Prop := ∀ q ∈ ts, (q.1 = 1 ∨ q.1 = -1) ∧ q.2.length ≤ 90000
theorem num_int {t : LN} (h : isNumL t = true) : PySem.intText? (oL t) = some (numV t) ∧ (oL t).length ≤ 640 := by
  unfold isNumL at h
  rw [Bool.and_eq_true] at h
  have hl := of_decide_eq_true h.1
  refine ⟨SX.int_S (List.all_eq_true.mpr fun c hc => ?_) (fun e => by rw [e] at hl; simp at hl) (by omega), by rw [SX.S_len]; omega⟩
  have hd := of_decide_eq_true (List.all_eq_true.mp h.2 c hc)
  exact (show ∀ c ∈ digL, (decide (48 ≤ c) && decide (c ≤ 57)) = true by decide) c hd
def spAmount (K : PySem.W.Frag) : Sp := fun vs H Q _ => ∃ (v : V) (L : Addr) (here k : Int) (ts : List (Int × LN)) (ls : Lab) (a : Int) (F : FS), vs = [v, .ref L, .int here, .int k] ∧ Da K H F v (termsD ts) ∧ okTs ts ∧ H L = some (.dK (labK ls)) ∧ amountL ls here 0 ts = some a ∧ Q (.int a) H
def spWithin : Sp := fun vs H Q _ => ∃ a m k : Int, vs = [.int a, .int m, .int k] ∧ 0 ≤ a ∧ a ≤ m ∧ Q (.int a) H
def spTold : Sp := fun vs H Q _ => ∃ (L : Addr) (l : Option LN) (a : Int) (k : Nat) (ls ls' : Lab) (kk : Int), vs = [.ref L, labV l, .int a, .int kk] ∧ H L = some (.dK (labK ls)) ∧ ls.length ≤ 90000 ∧ tellL ls l a k = .ok ls' ∧ Q .non (upd H L (.dK (labK ls')))
def spMake : Sp := fun vs H Q _ => ∃ (M : Addr) (a n kk : Int) (k : Nat) (m m' : Made), vs = [.ref M, .int a, .int n, .int kk] ∧ H M = some (.dK (madeK m)) ∧ m.length ≤ 90000 ∧ makeL m a n k = .ok m' ∧ Q .non (upd H M (.dK (madeK m')))
def spPool : Sp := fun vs H Q _ => ∃ (M P : Addr) (n kk : Int) (k : Nat) (m : Made) (pool : List Int) (r : Made × List Int × Int), vs = [.ref M, .ref P, .int n, .int kk] ∧ M ≠ P ∧ H M = some (.dK (madeK m)) ∧ H P = some (.lst (pool.map V.int)) ∧ m.length ≤ 80000 ∧ pool.length ≤ 80000 ∧ poolL m pool n k = .ok r ∧ Q (.int r.2.2) (upd (upd H M (.dK (madeK r.1))) P (.lst (r.2.1.map V.int)))
theorem upd_id {H : Hp} {a : Addr} {o : HO} (h : H a = some o) : upd H a o = H := by
  funext b
  by_cases e : b = a
  · subst e; rw [upd_same, h]
  · rw [upd_ne e]
section
variable {σ : L2.St} {H : Hp} {K : PySem.W.Frag} {a : Addr} {tl ta tb : TE} {tb' tz : TS} {N : L2.St → Hp → Prop} {R : VK} {B C' : L2.St → Hp → Prop} {k j : Nat} {xs : List V} {x : LN} {L : Addr} {ls : Lab} {m : Made} {i : Int}
/-- for u, w in a list of pairs -/
theorem s_forP (h : Val tl σ H (.ref a)) (hx : SqL K H a xs) (Pv : Nat → L2.St → Hp → Prop) (h0 : Pv 0 σ H) (hl : ∀ (i : Nat) σ' H', Pv i σ' H' → SqL K H' a xs)
    (hs : ∀ (i : Nat) x σ' H', xs[i]? = some x → Pv i σ' H' → ∃ T u w, x = .ref T ∧ SqT K H' T [u, w] ∧ tb' ⟨Pv (i + 1), R, N, Pv (i + 1)⟩ ((σ'.set k (some u)).set j (some w)) H') (hd : ∀ σ' H', Pv xs.length σ' H' → N σ' H') : tFor (iList K tl) (gTup K 2 (gCons (gName k) (gCons (gName j) gNil))) tb' ⟨N, R, B, C'⟩ σ H :=
  h _ ⟨a, rfl, ⟨xs, hx⟩, for_list (xs := xs) (D := ⟨N, R, B, C'⟩) Pv h0 (fun i σ' H' _ p => hl i σ' H' p) (fun i x σ' H' hi p => by
    obtain ⟨T, u, w, rfl, hT, b⟩ := hs i x σ' H' hi p
    exact ⟨T, _, rfl, hT, rfl, _, _, rfl, _, _, rfl, rfl, b⟩) hd⟩
theorem q_forP (h : Val tl σ H (.ref a)) (hx : SqL K H a xs) (Pv : Nat → L2.St → Hp → Prop) (h0 : Pv 0 σ H) (hl : ∀ (i : Nat) σ' H', Pv i σ' H' → SqL K H' a xs)
    (hs : ∀ (i : Nat) x σ' H', xs[i]? = some x → Pv i σ' H' → ∃ T u w, x = .ref T ∧ SqT K H' T [u, w] ∧ tb' ⟨Pv (i + 1), R, tz ⟨N, R, B, C'⟩, Pv (i + 1)⟩ ((σ'.set k (some u)).set j (some w)) H') (hd : ∀ σ' H', Pv xs.length σ' H' → tz ⟨N, R, B, C'⟩ σ' H') : tSeq (tFor (iList K tl) (gTup K 2 (gCons (gName k) (gCons (gName j) gNil))) tb') tz ⟨N, R, B, C'⟩ σ H :=
  s_forP (N := tz ⟨N, R, B, C'⟩) (B := B) (C' := C') h hx Pv h0 hl hs hd
theorem v_dinL (ha : Val ta σ H (.str (oL x))) (hb : Val tb σ H (.ref L)) (hL : H L = some (.dK (labK ls))) : Val (tDIn ta tb) σ H (.bl (labGet ls x).isSome) := fun Q q =>
  ha _ (hb _ ⟨L, _, rfl, DGet.k (k := Sum.inr (oL x)) hL, by rw [valV_lab, Option.isSome_map]; exact q⟩)
theorem v_dgetL {v : Int} (ha : Val ta σ H (.ref L)) (hb : Val tb σ H (.str (oL x))) (hL : H L = some (.dK (labK ls))) (hv : labGet ls x = some v) : Val (tDGet ta tb) σ H (.int v) := fun Q q =>
  ha _ (hb _ ⟨L, .int v, rfl, by have := DGet.k (k := Sum.inr (oL x)) hL; rw [valV_lab, hv] at this; exact this, q⟩)
theorem v_dinM (ha : Val ta σ H (.int i)) (hb : Val tb σ H (.ref L)) (hL : H L = some (.dK (madeK m))) : Val (tDIn ta tb) σ H (.bl (madeGet m i).isSome) := fun Q q =>
  ha _ (hb _ ⟨L, _, rfl, DGet.k (k := Sum.inl i) hL, by rw [valV_made, Option.isSome_map]; exact q⟩)
end
section
variable {K : PySem.W.Frag} {H : Hp} {F : FS} {v : V} {ts : List (Int × LN)} {i : Nat} {x : V}
theorem da_term (h : Da K H F v (termsD ts)) : ∃ (a : Addr) (xs : List V), v = V.ref a ∧ SqL K H a xs ∧ xs.length = ts.length ∧ ∀ (i : Nat) (x : V), xs[i]? = some x → ∃ (T : Addr) (q : Int × LN), ts[i]? = some q ∧ x = V.ref T ∧ SqT K H T [V.int q.1, V.str (oL q.2)] := by
  cases h with | @lst a xs _ h1 h2 =>
  refine ⟨a, xs, rfl, SqL.of h1.at_, by rw [h2.len, List.length_map], fun i x hx => ?_⟩
  obtain ⟨d, hd, hv⟩ := h2.getV i hx
  rw [List.getElem?_map] at hd
  obtain ⟨q, hq, rfl⟩ := Option.map_eq_some_iff.mp hd
  obtain ⟨T, v1, v2, rfl, hT, z1, z2⟩ := da_pair hv
  cases z1; cases z2
  exact ⟨T, q, hq, rfl, hT⟩
end
section
variable {P : Program} {w : World} {K : PySem.W.Frag} {mg : Str → Option Value} {base : Heap}

theorem sc_amount_of : FnScope ["found", "labels", "here", "line", "amount", "sign", "one"] ["found", "labels", "here", "line"] (defScope s_amount_of) := ⟨rfl, rfl, rfl, by decide +kernel, rfl, by decide +kernel, by decide +kernel⟩
theorem cal_amount_of (T : Tx K mg) : Cal P w K mg base 2 "amount_of" ["found", "labels", "here", "line"] (spAmount K) := by
  refine cal_mk T 7 7 rfl rfl sc_amount_of (fun _ _ _ _ _ _ us hl => match us, hl with | [_, _, _, _], _ => rfl) (fun vs H Q E h => ?_) (fun f cdv A outer s H vs Q E hr h => ?_)
  · obtain ⟨v, D, here, kk, ts, ls, a, F, rfl, hv, hok, hL, ea, k⟩ := h
    rfl
  · obtain ⟨v, D, here, kk, ts, ls, a, F, rfl, hv, hok, hL, ea, k⟩ := h
    have hu := hu_of hr
    refine ⟨_, (pss_cons (ps_set (i := 4) sc_amount_of.nd rfl (Or.inl rfl) pe_int) (pss_cons (ps_for PassesOwn.never rfl (pi_list (pv 0)) (pg_tup (by rfl) (pgs_cons (pg_name (i := 5) sc_amount_of.nd rfl (Or.inl rfl)) (pgs_cons (pg_name (i := 6) sc_amount_of.nd rfl (Or.inl rfl)) pgs_nil))) (pss_one (ps_if (pt_val (pe_cal (cal_is_number (K := K) T) hr (by decide) rfl (pa_cons (pv 6) pa_nil))) (pss_one (ps_set (i := 4) sc_amount_of.nd rfl (Or.inl rfl) (pe_op op_add (pv 4) (pe_op op_mul (pv 5) (pe_callTy call_int_str (by rfl) (T.free 54) (by decide +kernel) (pa_cons (pv 6) pa_nil)))))) (pss_one (ps_if (pt_cmpR op_eq (pv 6) pe_str (nomark _)) (pss_one (ps_set (i := 4) sc_amount_of.nd rfl (Or.inl rfl) (pe_op op_add (pv 4) (pe_op op_mul (pv 5) (pv 2))))) (pss_one (ps_if (pt_cmp (pc_din hu (pv 6) (pv 1))) (pss_one (ps_set (i := 4) sc_amount_of.nd rfl (Or.inl rfl) (pe_op op_add (pv 4) (pe_op op_mul (pv 5) (pe_dget hu (pv 1) (pv 6) (fun _ _ => rfl)))))) (pss_one ps_never)))))))) (pss_one (ps_ret (pv 4))))), ?_⟩
    refine q_set v_c ?_
    obtain ⟨b, xs, rfl, hb, xl, hxs⟩ := da_term hv
    refine q_forP (v_var rfl) hb (fun i σ' H' => H' = H ∧ ∃ amt y1 y2, σ' = [some (.ref b), some (.ref D), some (.int here), some (.int kk), some (.int amt), y1, y2] ∧ amountL ls here amt (ts.drop i) = some a) ⟨rfl, 0, _, _, rfl, ea⟩ (fun i σ' H' pv => by obtain ⟨rfl, _⟩ := pv; exact hb) (fun i x σ' H' hx pv => ?_) (fun σ' H' pv => ?_)
    · obtain ⟨rfl, amt, y1, y2, rfl, e⟩ := pv
      obtain ⟨T', q, hq, rfl, hT⟩ := hxs i x hx
      refine ⟨T', _, _, rfl, hT, ?_⟩
      obtain ⟨sg, one⟩ := q
      obtain ⟨sg1, ol⟩ := hok _ (List.mem_of_getElem? hq)
      rw [drop_at hq, amountL] at e
      have hm : CMul sg here := .inl (by rcases sg1 with h | h <;> (simp only at h; subst h; exact ⟨by decide, by decide⟩))
      refine s_if (a_B (v_call (va_cons (v_var rfl) va_nil) (fun _ q => ⟨one, rfl, by simp only at ol; omega, q⟩))) (fun c1 => ?_) (fun c1 => ?_)
      · rw [if_pos c1] at e
        obtain ⟨n1, n2⟩ := num_int c1
        have hm : CMul sg (numV one) := .inl (by rcases sg1 with h | h <;> (simp only at h; subst h; exact ⟨by decide, by decide⟩))
        exact s_set (v_add (v_var rfl) (v_mul (v_var rfl) (v_cb (va_cons (v_var rfl) va_nil) (fun _ q => ⟨_, _, rfl, n1, n2, q⟩)) hm)) ⟨rfl, _, _, _, rfl, e⟩
      rw [if_neg (by rw [c1]; exact Bool.false_ne_true)] at e
      refine s_if (a_t (v_eqO (v_var rfl) (v_eqv v_c (show V.str _ = V.str (oL hereL) from congrArg V.str (oL_tl _).symm)))) (fun c2 => ?_) (fun c2 => ?_)
      · rw [if_pos (of_decide_eq_true c2)] at e
        exact s_set (v_add (v_var rfl) (v_mul (v_var rfl) (v_var rfl) hm)) ⟨rfl, _, _, _, rfl, e⟩
      rw [if_neg (of_decide_eq_false c2)] at e
      refine s_if (a_t (v_dinL (v_var rfl) (v_var rfl) hL)) (fun c3 => ?_) (fun c3 => ?_)
      · obtain ⟨w, ew⟩ := Option.isSome_iff_exists.mp c3
        rw [ew] at e
        have hm : CMul sg w := .inl (by rcases sg1 with h | h <;> (simp only at h; subst h; exact ⟨by decide, by decide⟩))
        exact s_set (v_add (v_var rfl) (v_mul (v_var rfl) (v_dgetL (v_var rfl) (v_var rfl) hL ew) hm)) ⟨rfl, _, _, _, rfl, e⟩
      · cases z : labGet ls one with
        | none => rw [z] at e; cases e
        | some w => rw [z] at c3; cases c3
    · obtain ⟨rfl, amt, y1, y2, rfl, e⟩ := pv
      rw [xl, List.drop_length, amountL] at e
      cases e
      exact s_ret (v_var rfl) k

theorem sc_within : FnScope ["amount", "most", "line"] ["amount", "most", "line"] (defScope s_within) := ⟨rfl, rfl, rfl, by decide +kernel, rfl, by decide +kernel, by decide +kernel⟩
theorem cal_within (T : Tx K mg) : Cal P w K mg base 1 "within" ["amount", "most", "line"] spWithin := by
  refine cal_mk T 8 8 rfl rfl sc_within (fun _ _ _ _ _ _ us hl => match us, hl with | [_, _, _], _ => rfl) (fun vs H Q E h => ?_) (fun f cdv A outer s H vs Q E hr h => ?_)
  · obtain ⟨a, m, kk, rfl, a0, a1, k⟩ := h
    rfl
  · obtain ⟨a, m, kk, rfl, a0, a1, k⟩ := h
    refine ⟨_, (pss_cons (ps_if (pt_not (pt_chain op_le op_le pe_int (pv 0) (pv 1))) (pss_one ps_never) pss_nil) (pss_one (ps_ret (pv 0)))), ?_⟩
    refine q_ifF0 (a_not (b := true) (a_t (v_eqv (v_chain v_c (v_var rfl) (fun _ q => rr_le q) (v_var rfl) (fun _ q => rr_le q)) (congrArg V.bl (by rw [decide_eq_true a0, decide_eq_true a1]; rfl))))) rfl ?_
    exact s_ret (v_var rfl) k

theorem sc_label_told : FnScope ["labels", "label", "at", "line"] ["labels", "label", "at", "line"] (defScope s_label_told) := ⟨rfl, rfl, rfl, by decide +kernel, rfl, by decide +kernel, by decide +kernel⟩
theorem cal_label_told (T : Tx K mg) : Cal P w K mg base 1 "label_told" ["labels", "label", "at", "line"] spTold := by
  refine cal_mk T 9 9 rfl rfl sc_label_told (fun _ _ _ _ _ _ us hl => match us, hl with | [_, _, _, _], _ => rfl) (fun vs H Q E h => ?_) (fun f cdv A outer s H vs Q E hr h => ?_)
  · obtain ⟨D, l, a, n, ls, ls', kk, rfl, hL, ll, e, k⟩ := h
    rfl
  · obtain ⟨D, l, a, n, ls, ls', kk, rfl, hL, ll, e, k⟩ := h
    have hu := hu_of hr
    refine ⟨_, (pss_one (ps_if (pt_cmpR op_notN1 (pv 1) pe_non (nomark _)) (pss_cons (ps_if (pt_cmp (pc_din hu (pv 1) (pv 0))) (pss_one ps_never) pss_nil) (pss_one (ps_dput hu (pv 0) (pv 1) (pv 2) rfl))) pss_nil)), ?_⟩
    cases l with
    | none =>
      rw [tellL] at e
      cases e
      rw [upd_id hL] at k
      exact s_ifF0 (a_t (v_eqv (v_notN (v_var rfl) v_c) rfl)) rfl k
    | some x =>
      rw [tellL] at e
      refine s_ifT (a_t (v_eqv (v_notN (v_var rfl) v_c) rfl)) rfl ?_
      cases z : labGet ls x with
      | some w => rw [z] at e; cases e
      | none =>
        rw [z] at e
        cases e
        refine q_ifF0 (a_t (v_dinL (v_var rfl) (v_var rfl) hL)) (by rw [z]; rfl) ?_
        refine (v_var rfl) _ ((v_var rfl) _ ((v_var rfl) _ ⟨D, _, rfl, DPut.k (k := Sum.inr (oL x)) hL (lt_line (by unfold labK; rw [List.length_map]; omega)), ?_⟩))
        rw [labK_put z]
        exact k

theorem sc_make_cell : FnScope ["made", "at", "number", "line"] ["made", "at", "number", "line"] (defScope s_make_cell) := ⟨rfl, rfl, rfl, by decide +kernel, rfl, by decide +kernel, by decide +kernel⟩
theorem cal_make_cell (T : Tx K mg) : Cal P w K mg base 1 "make_cell" ["made", "at", "number", "line"] spMake := by
  refine cal_mk T 11 11 rfl rfl sc_make_cell (fun _ _ _ _ _ _ us hl => match us, hl with | [_, _, _, _], _ => rfl) (fun vs H Q E h => ?_) (fun f cdv A outer s H vs Q E hr h => ?_)
  · obtain ⟨M, a, n, kk, nk, m, m', rfl, hM, ml, e, k⟩ := h
    rfl
  · obtain ⟨M, a, n, kk, nk, m, m', rfl, hM, ml, e, k⟩ := h
    have hu := hu_of hr
    refine ⟨_, (pss_cons (ps_if (PW.pt (pw_or (pt_cmp (pc_din hu (pv 1) (pv 0))) (pw_or1 (pt_cmpR op_lt (pv 1) pe_int (nomark _))))) (pss_one ps_never) pss_nil) (pss_one (ps_dput hu (pv 0) (pv 1) (pv 2) rfl))), ?_⟩
    unfold makeL at e
    split at e
    · cases e
    rename_i c
    cases e
    have c1 : madeGet m a = none := by cases z : madeGet m a with
      | none => rfl
      | some w => exact absurd (.inl (by rw [z]; rfl)) c
    refine q_ifF0 (a_or (b := false) (c := false) (a_t (v_eqv (v_dinM (v_var rfl) (v_var rfl) hM) (congrArg V.bl (by rw [c1]; rfl)))) (fun _ => a_t (v_eqv (v_lt (v_var rfl) v_c) (congrArg V.bl (decide_eq_false fun z => c (.inr z)))))) rfl ?_
    refine (v_var rfl) _ ((v_var rfl) _ ((v_var rfl) _ ⟨M, _, rfl, DPut.k (k := Sum.inl a) hM (lt_line (by unfold madeK; rw [List.length_map]; omega)), ?_⟩))
    rw [madeK_put c1]
    exact k
end
/-! ### the first going over: what its data keep -/
def okD : Dd → Prop
  | .place ts => okTs ts
  | .word ts => okTs ts
  | .made _ => True
  | .aim _ ts => okTs ts
  | .pool _ ts => okTs ts
def okO : Option Dd → Prop
  | none => True
  | some d => okD d
theorem termsG_ok : ∀ (t : LN) (s : Int) (cur : LN) (ts : List (Int × LN)), (s = 1 ∨ s = -1) → cur.length + t.length ≤ 90000 → termsG s cur t = some ts → okTs ts
  | [], s, cur, ts, hs, hl, e => by
    rw [termsG] at e
    split at e
    · cases e
      intro q hq
      rw [List.mem_singleton.mp hq]
      exact ⟨hs, by simp at hl; exact hl⟩
    · cases e
  | c :: r, s, cur, ts, hs, hl, e => by
    rw [termsG] at e
    simp at hl
    split at e
    · split at e
      · cases z : termsG (if c = 45 then -1 else 1) [] r with
        | none => rw [z] at e; cases e
        | some ts' =>
          rw [z] at e
          cases e
          have ih := termsG_ok r _ [] ts' (by split <;> simp) (by simp; omega) z
          intro q hq
          rcases List.mem_cons.mp hq with h | h
          · rw [h]; exact ⟨hs, by simp only; omega⟩
          · exact ih q h
      · cases e
    · exact termsG_ok r s (cur ++ [c]) ts hs (by simp; omega) e
theorem termsL_ok {t : LN} {ts : List (Int × LN)} (hl : t.length ≤ 90000) (e : termsL t = some ts) : okTs ts := termsG_ok t 1 [] ts (.inl rfl) (by simp; exact hl) e
theorem aimG_ok {kd far : Int} {fs : List LN} {d : Dd} (hl : ∀ l ∈ fs, l.length ≤ 90000) (e : aimG kd far fs = some d) : okD d := by
  unfold aimG at e
  split at e
  · rename_i t
    have ht := hl t List.mem_cons_self
    split at e
    · rename_i r
      cases z : termsL r with
      | none => rw [z] at e; cases e
      | some ts => rw [z] at e; cases e; exact termsL_ok (by simp at ht; omega) z
    · cases z : termsL t with
      | none => rw [z] at e; cases e
      | some ts => rw [z] at e; cases e; exact termsL_ok ht z
  · cases e
theorem deedL_ok {fs : List LN} {d : Dd} (hl : ∀ l ∈ fs, l.length ≤ 90000) (e : deedL fs = some d) : okD d := by
  cases fs with
  | nil => cases e
  | cons h r =>
    rw [deedL, deedC] at e
    split at e
    · match r, e with
      | [t], e =>
        rw [one1] at e
        cases z : termsL t with
        | none => rw [z] at e; cases e
        | some ts =>
          rw [z] at e
          have ok := termsL_ok (hl t (by simp)) z
          cases e
          split <;> exact ok
    · split at e
      · match r, e with
        | [t], e =>
          rw [one1] at e
          split at e
          · cases e; trivial
          · cases e
      · split at e
        · cases e; trivial
        · split at e
          · cases e; trivial
          · split at e
            · unfold aimedL at e
              split at e
              · cases e
              · split at e
                · exact aimG_ok (fun l hl' => hl l (List.mem_cons_of_mem _ (List.mem_cons_of_mem _ hl'))) e
                · exact aimG_ok (fun l hl' => hl l (List.mem_cons_of_mem _ hl')) e
            · cases e
theorem pieces_small {line : LN} (h : line.length ≤ 80000) : ∀ l ∈ piecesL line, l.length ≤ 90000 := by
  intro l hl
  unfold piecesL at hl
  have h1 := cutAt_len 32 _ l (List.mem_filter.mp hl).1
  cases z : cutAt 59 line with
  | nil => exact absurd z (cutAt_ne _ _)
  | cons a b =>
    rw [z] at h1
    have h2 := cutAt_len 59 line a (by rw [z]; exact List.mem_cons_self)
    simp only [List.headD_cons] at h1
    omega
theorem restL_ok {lab l : Option LN} {fs : List LN} {d : Option Dd} (hl : ∀ l ∈ fs, l.length ≤ 90000) (e : restL lab fs = some (l, d)) : okO d := by
  unfold restL at e
  split at e
  · cases e; trivial
  · rename_i f r
    cases z : deedL (f :: r) with
    | none => rw [z] at e; cases e
    | some dd => rw [z] at e; cases e; exact deedL_ok hl z
theorem readL_ok {line : LN} {l : Option LN} {d : Option Dd} (h : line.length ≤ 80000) (e : readL line = some (l, d)) : okO d := by
  have hs := pieces_small h
  unfold readL at e
  generalize piecesL line = ps at hs e
  cases ps with
  | nil => cases e; trivial
  | cons f r =>
    rw [readP] at e
    split at e
    · split at e
      · exact restL_ok (fun l hl => hs l (List.mem_cons_of_mem _ hl)) e
      · cases e
    · exact restL_ok hs e
theorem amt_ok {ls : Lab} {here : Int} {ts : List (Int × LN)} {k : Nat} {a : Int} (e : amtL ls here ts k = .ok a) : amountL ls here 0 ts = some a := by
  unfold amtL at e
  split at e
  · rename_i z; cases e; exact z
  · cases e
theorem within_ok {a m : Int} {k : Nat} {b : Int} (e : withinL a m k = .ok b) : b = a ∧ 0 ≤ a ∧ a ≤ m := by
  unfold withinL at e
  split at e
  · rename_i h; cases e; exact ⟨rfl, h⟩
  · cases e
theorem goneStep_inv {line : LN} {ls ls' : Lab} {a a' : Int} {k : Nat} {d : Option Dd} (e : goneStep line ls a k = .ok (d, ls', a')) : ∃ l, readL line = some (l, d) ∧ tellL ls l a k = .ok ls' ∧ ((d = none ∧ a' = a) ∨ (∃ ts, d = some (.place ts) ∧ amountL ls' a 0 ts = some a' ∧ 0 ≤ a' ∧ a' ≤ 63) ∨ (∃ dd, d = some dd ∧ (∀ ts, dd ≠ .place ts) ∧ a' = a + 1 ∧ 0 ≤ a + 1 ∧ a + 1 ≤ 64)) := by
  unfold goneStep at e
  split at e
  · cases e
  · rename_i l d0 hr
    split at e
    · cases e
    · rename_i ls1 ht
      split at e
      · cases e
      · rename_i a1 hm
        cases e
        refine ⟨l, hr, ht, ?_⟩
        unfold moveG at hm
        split at hm
        · cases hm; exact .inl ⟨rfl, rfl⟩
        · rename_i ts
          split at hm
          · cases hm
          · rename_i b ha
            obtain ⟨rfl, w0, w1⟩ := within_ok hm
            exact .inr (.inl ⟨ts, rfl, amt_ok ha, w0, w1⟩)
        · rename_i dd hn
          obtain ⟨rfl, w0, w1⟩ := within_ok hm
          exact .inr (.inr ⟨dd, rfl, fun ts z => hn ts (by rw [z]), rfl, w0, w1⟩)
theorem tell_len {ls ls' : Lab} {l : Option LN} {a : Int} {k : Nat} (e : tellL ls l a k = .ok ls') : ls'.length ≤ ls.length + 1 := by
  unfold tellL at e
  split at e
  · cases e; omega
  · split at e
    · cases e
    · cases e; simp
theorem goneG_inv {acc : List (Option Dd)} {ls : Lab} {a : Int} {k : Nat} {line : LN} {r : List LN} {res : List (Option Dd) × Lab} (e : goneG acc ls a k (line :: r) = .ok res) : ∃ d ls' a', goneStep line ls a k = .ok (d, ls', a') ∧ goneG (acc ++ [d]) ls' a' (k + 1) r = .ok res := by
  rw [goneG] at e
  cases z : goneStep line ls a k with
  | error x => rw [z] at e; cases e
  | ok q =>
    obtain ⟨d, ls', a'⟩ := q
    rw [z] at e
    exact ⟨d, ls', a', rfl, e⟩
/-! ### a dict of one's own in the world -/
def Wd (W : Hp → Prop) (L : Addr) (kvs : List (Key × V)) : Hp → Prop := fun H => W H ∧ H L = some (.dK kvs)
section
variable {K : PySem.W.Frag} {H H0 H1 : Hp} {F : FS} {W : Hp → Prop} {D L : Addr} {ds : List PyData} {kvs kvs' : List (Key × V)}
theorem woD (wo : Wo F W) : Wo (withF F L) (Wd W L kvs) := ⟨fun H H' k t w => ⟨wo.loc H H' (fun b o f => k b o (.inl f)) t w.1, k L _ (.inr rfl) w.2⟩⟩
theorem tpD {kvs' : List (Key × V)} (h : H L = some (.dK kvs)) : TpS H (upd H L (.dK kvs')) := fun b xs e => by rw [upd_ne (fun q => by rw [q, h] at e; cases e)]; exact e
theorem okD_put (wo : Wo F W) (nF : ¬ F L) (o : Ok (withF F L) (Wd W L kvs) H) : Ok (withF F L) (Wd W L kvs') (upd H L (.dK kvs')) :=
  ⟨fun b f => by
    by_cases e : b = L
    · rw [e, upd_same]; exact fun z => by cases z
    · rw [upd_ne e]; exact o.fa b f, wo.loc _ _ (fun b x f e => by rw [upd_ne (fun q => nF (by rw [← q]; exact f))]; exact e) (tpD o.w.2) o.w.1, upd_same⟩
theorem mvD {F1 : FS} {o : HO} (h : F1 L) : Mv F1 H F1 (upd H L o) := ⟨fun b x n e => by rw [upd_ne (fun q => n (by rw [q]; exact h))]; exact e, fun _ f => .inl f⟩
theorem Own.withD (ow : Own K H0 F W D H ds) (wo : Wo F W) (hL : H L = none) : Own K H0 (withF F L) (Wd W L []) D (upd H L (.dK [])) ds := by
  obtain ⟨vs, h1, h2⟩ := ow.ow
  have nDL : D ≠ L := fun e => by rw [e, hL] at h1; cases h1
  refine ⟨ow.fr, fun f => f.elim ow.no nDL, ⟨fun b o n e => ?_, fun b f => .inl f⟩, ⟨fun b f => ?_, wo.loc _ _ (fun b x f e => smN hL b x e) (TpS.same (smN hL)) ow.ok.w, upd_same⟩, vs, by rw [upd_ne nDL]; exact h1, h2.mv ⟨fun b o n e => smN hL b o e, fun b f => ?_⟩⟩
  · exact smN hL b o (ow.mv.keep b o (fun f => n (.inl f)) e)
  · by_cases e : b = L
    · rw [e, upd_same]; exact fun z => by cases z
    · rw [upd_ne e]; exact ow.ok.fa b (f.elim id fun z => absurd z e)
  · rcases f with (f | e) | e
    · exact .inl (.inl f)
    · exact .inr (by rw [e]; exact hL)
    · exact .inl (.inr e)
theorem Own.putD (ow : Own K H0 (withF F L) (Wd W L kvs) D H ds) (wo : Wo F W) (nF : ¬ F L) : Own K H0 (withF F L) (Wd W L kvs') D (upd H L (.dK kvs')) ds := by
  obtain ⟨vs, h1, h2⟩ := ow.ow
  have nDL : D ≠ L := fun e => by rw [e, ow.ok.w.2] at h1; cases h1
  exact ⟨ow.fr, ow.no, ow.mv.trans (mvD (.inr rfl)), okD_put wo nF ow.ok, vs, by rw [upd_ne nDL]; exact h1, h2.mv (mvD (.inl (.inr rfl)))⟩
theorem Own.mvG (ow : Own K H0 (withF F L) W D H ds) (hL : H0 L = none) : Mv F H0 (withF F L) H := ⟨fun b o n e => ow.mv.keep b o (fun f => f.elim n (fun z => by rw [z, hL] at e; cases e)) e, fun b f => f.elim .inl (fun e => .inr (by rw [e]; exact hL))⟩
end
def spGone (K : PySem.W.Frag) : Sp := fun vs H Q _ => ∃ (F : FS) (W : Hp → Prop) (v : V) (lines : List LN) (ds : List (Option Dd)) (ls : Lab), vs = [v] ∧ Wo F W ∧ Ok F W H ∧ Da K H F v (lnsD lines) ∧ lines.length ≤ 80000 ∧ (∀ l ∈ lines, l.length ≤ 80000) ∧ goneL lines = .ok (ds, ls) ∧
  ∀ T D L H', Mv F H F H' → Ok F W H' → SqT K H' T [.ref D, .ref L] → H L = none → H' L = some (.dK (labK ls)) → ¬ withF F L D → OwL K (withF F L) D H' (ds.map (oD deedD)) → ds.length = lines.length → (∀ d ∈ ds, okO d) → Q (.ref T) H'
section
variable {K : PySem.W.Frag} {H H0 H1 H' : Hp} {F F1 : FS} {W : Hp → Prop} {D L : Addr} {ds : List PyData} {v : V} {d : Option Dd} {l : Option LN} {dd : Dd}
theorem Own.mvH (ow : Own K H0 (withF F L) W D H ds) (hL : H0 L = none) : Mv F H0 F H := ⟨fun b o n e => ow.mv.keep b o (fun f => f.elim n (fun z => by rw [z, hL] at e; cases e)) e, fun b f => .inl f⟩
theorem OwL.same (s : Same H H') (h : OwL K F D H ds) : OwL K F D H' ds := by obtain ⟨vs, h1, h2⟩ := h; exact ⟨vs, s _ _ h1, h2.same s⟩
theorem da_readD (h : Da K H F v (readD (l, d))) : ∃ T v2, v = .ref T ∧ SqT K H T [labV l, v2] ∧ Da K H F v2 (oD deedD d) := by
  obtain ⟨T, v1, v2, rfl, hT, z1, z2⟩ := da_pair h
  have e : v1 = labV l := by cases l <;> cases z1 <;> rfl
  subst e
  exact ⟨T, v2, rfl, hT, z2⟩
def hdS : Dd → Str
  | .place _ => "place" | .word _ => "word" | .made _ => "made" | .aim _ _ => "aim" | .pool _ _ => "pool"
theorem da_deedHd (h : Da K H F v (deedD dd)) : ∃ T xs, v = .ref T ∧ SqT K H T xs ∧ xs[0]? = some (.str (hdS dd)) := by
  cases dd <;> cases h with | tup h1 h2 => cases h2 with | cons z h2 => cases z; exact ⟨_, _, rfl, h1.sq, rfl⟩
theorem da_place {ts : List (Int × LN)} (h : Da K H F v (deedD (.place ts))) : ∃ T w, v = .ref T ∧ SqT K H T [.str "place", w] ∧ Da K H F w (termsD ts) := by
  obtain ⟨T, v1, v2, rfl, hT, z1, z2⟩ := da_pair h
  cases z1
  exact ⟨T, v2, rfl, hT, z2⟩
theorem isNone_da' {v : V} {d : PyData} (h : Da K H F v d) : decide (v = .non) = isNoneD d := by cases h <;> rfl
end
theorem isNone_deed2 (o : Option Dd) : isNoneD (oD deedD o) = o.isNone := isNone_oD (fun d => by cases d <;> rfl) o

section
variable {P : Program} {w : World} {K : PySem.W.Frag} {mg : Str → Option Value} {base : Heap}

theorem sc_gone_over : FnScope ["lines", "deeds", "labels", "at", "k", "line", "got"] ["lines"] (defScope s_gone_over) := ⟨rfl, rfl, rfl, by decide +kernel, rfl, by decide +kernel, by decide +kernel⟩
theorem cal_gone_over (T : Tx K mg) : Cal P w K mg base 6 "gone_over" ["lines"] (spGone K) := by
  refine cal_mk T 10 10 rfl rfl sc_gone_over (fun _ _ _ _ _ _ us hl => match us, hl with | [_], _ => rfl) (fun vs H Q E h => ?_) (fun f cdv A outer s H vs Q E hr h => ?_)
  · obtain ⟨F, W, v, lines, ds, lsF, rfl, wo, ok, hv, ll, sl, e0, k⟩ := h
    rfl
  · obtain ⟨F, W, v, lines, ds, lsF, rfl, wo, ok, hv, ll, sl, e0, k⟩ := h
    refine ⟨_, (pss_cons (ps_set (i := 1) sc_gone_over.nd rfl (Or.inl rfl) (pe_lst pa_nil)) (pss_cons (ps_set (i := 2) sc_gone_over.nd rfl (Or.inl rfl) pe_dnewK) (pss_cons (ps_set (i := 3) sc_gone_over.nd rfl (Or.inl rfl) pe_int) (pss_cons (ps_for PassesOwn.never rfl (pi_enum (by rfl) (T.free 56) (pa_cons (pv 0) pa_nil)) (pg_tup (by rfl) (pgs_cons (pg_name (i := 4) sc_gone_over.nd rfl (Or.inl rfl)) (pgs_cons (pg_name (i := 5) sc_gone_over.nd rfl (Or.inl rfl)) pgs_nil))) (pss_cons (ps_set (i := 6) sc_gone_over.nd rfl (Or.inl rfl) (pe_cal (cal_read (K := K) T) hr (by decide) rfl (pa_cons (pv 5) pa_nil))) (pss_cons (ps_if (pt_cmpR op_isN1 (pv 6) pe_non (nomark _)) (pss_one ps_never) pss_nil) (pss_cons (ps_expr (pe_cal (cal_label_told (K := K) T) hr (by decide) rfl (pa_cons (pv 2) (pa_cons (pe_ix ix_tup (pv 6) pe_int (fun _ _ => rfl)) (pa_cons (pv 3) (pa_cons (pe_op op_add (pv 4) pe_int) pa_nil)))))) (pss_cons (ps_expr (pe_bm PySem.F.plainAttrs_list PySem.F.slot_list_append PySem.F.type_list_append mt_append (pv 1) (pa_cons (pe_ix ix_tup (pv 6) pe_int (fun _ _ => rfl)) pa_nil))) (pss_cons (ps_if (pt_cmpR op_isN1 (pe_ix ix_tup (pv 6) pe_int (fun _ _ => rfl)) pe_non (nomark _)) (pss_one ps_continue) pss_nil) (pss_one (ps_if (pt_cmpR op_eq (pe_ix ix_tup (pe_ix ix_tup (pv 6) pe_int (fun _ _ => rfl)) pe_int (fun _ _ => rfl)) pe_str (nomark _)) (pss_one (ps_set (i := 3) sc_gone_over.nd rfl (Or.inl rfl) (pe_cal (cal_within (K := K) T) hr (by decide) rfl (pa_cons (pe_cal (cal_amount_of (K := K) T) hr (by decide) rfl (pa_cons (pe_ix ix_tup (pe_ix ix_tup (pv 6) pe_int (fun _ _ => rfl)) pe_int (fun _ _ => rfl)) (pa_cons (pv 2) (pa_cons (pv 3) (pa_cons (pe_op op_add (pv 4) pe_int) pa_nil))))) (pa_cons pe_int (pa_cons (pe_op op_add (pv 4) pe_int) pa_nil)))))) (pss_one (ps_set (i := 3) sc_gone_over.nd rfl (Or.inl rfl) (pe_cal (cal_within (K := K) T) hr (by decide) rfl (pa_cons (pe_op op_add (pv 3) pe_int) (pa_cons pe_int (pa_cons (pe_op op_add (pv 4) pe_int) pa_nil)))))))))))))) (pss_one (ps_ret (pe_tup (pa_cons (pv 1) (pa_cons (pv 2) pa_nil))))))))), ?_⟩
    obtain ⟨b, rfl, _⟩ := hv.lns
    refine q_dn' (K := K) (ds := []) (dn_lst wo da_nil) ok .refl (fun D H1 hD ow1 m1 => ?_)
    refine qx_set (fun L hL1 => ?_)
    have hL : H L = none := ow1.ok.free m1 hL1
    have nF : ¬ F L := ok.fa.no hL
    have ow := ow1.withD wo hL1
    refine q_set v_c ?_
    generalize upd H1 L (.dK []) = H2 at ow
    clear ow1 hL1
    refine q_forE (xs := lines.map fun l => V.str (oL l)) (va_cons (v_var rfl) va_nil) (by obtain ⟨b', e, hq⟩ := (hv.mv (ow.mvG hL)).lns; cases e; exact hq) (fun i σ' H' => ∃ (acc : List (Option Dd)) (ls : Lab) (at_ : Int) (y1 y2 y3 : Option V), σ' = [some (.ref b), some (.ref D), some (.ref L), some (.int at_), y1, y2, y3] ∧ Own K H (withF F L) (Wd W L (labK ls)) D H' (acc.map (oD deedD)) ∧ acc.length = i ∧ ls.length ≤ i ∧ (∀ d ∈ acc, okO d) ∧ goneG acc ls at_ (i + 1) (lines.drop i) = .ok (ds, lsF)) ⟨[], [], 0, _, _, _, rfl, ow, rfl, Nat.le_refl _, fun d h => (by cases h), e0⟩ (fun i σ' H' pv => ?_) (fun i x σ' H' T' hx pv hT' => ?_) (fun σ' H' pv => ?_)
    · obtain ⟨acc, ls, at_, y1, y2, y3, rfl, ow, _⟩ := pv
      obtain ⟨b', e, hq⟩ := (hv.mv (ow.mvG hL)).lns
      cases e; exact hq
    · obtain ⟨acc, ls, at_, y1, y2, y3, rfl, ow, al, lsl, hok, e⟩ := pv
      rw [List.getElem?_map] at hx
      obtain ⟨line, hln, rfl⟩ := Option.map_eq_some_iff.mp hx
      have il := (List.getElem?_eq_some_iff.mp hln).1
      have lnl := sl line (List.mem_of_getElem? hln)
      have wo1 : Wo (withF F L) (Wd W L (labK ls)) := woD wo
      have ow := ow.same wo1 (smN (o := .tup [V.int (i : Int), V.str (oL line)]) hT')
      generalize upd H' T' (.tup [V.int (i : Int), V.str (oL line)]) = H3 at ow ⊢
      rw [drop_at hln] at e
      obtain ⟨d, ls', at', es, e'⟩ := goneG_inv e
      obtain ⟨l, er, et, ea⟩ := goneStep_inv es
      have dok := readL_ok lnl er
      obtain ⟨o2, w2⟩ := ow.tn wo1
      refine q_d (K := K) (d := oD readD (readL line)) (dv_spW w2 (fun _ _ _ => va_cons (v_var rfl) va_nil) (fun _ _ _ => ⟨line, rfl, lnl, rfl⟩)) o2 (fun vg H4 m4 o4 hg => ?_)
      rw [er] at hg
      have ow4 := ow.step wo1 m4 o4
      clear o2 w2 m4 o4 ow
      obtain ⟨Tg, v2, rfl, hTg, hd2⟩ := da_readD hg
      refine q_ifF0 (a_t (v_eqv (v_isN (v_var rfl) v_c) (show _ = V.bl false from rfl))) rfl ?_
      refine q_do (va_cons (v_var rfl) (va_cons (v_ixT (v_var rfl) v_c hTg (by decide) rfl) (va_cons (v_var rfl) (va_cons (v_add (v_var rfl) v_c) va_nil)))) ⟨L, l, at_, i + 1, ls, ls', _, rfl, ow4.ok.w.2, by omega, et, ?_⟩
      have ow5 : Own K H (withF F L) (Wd W L (labK ls')) D (upd H4 L (.dK (labK ls'))) _ := ow4.putD wo nF
      have hg5 : Da K (upd H4 L (.dK (labK ls'))) (withF (withF F L) D) (.ref Tg) (readD (l, d)) := hg.mv (mvD (.inl (.inr rfl)))
      generalize upd H4 L (.dK (labK ls')) = H5 at ow5 hg5 ⊢
      clear hTg hd2 hg ow4 wo1
      have wo1 : Wo (withF F L) (Wd W L (labK ls')) := woD wo
      refine qx_drop (x_own_app (d := oD deedD d) wo1 ow5 (v_var rfl) (dv_ixT (ds := [oD lnD l, oD deedD d]) (dv_var rfl hg5) (fun _ _ _ => v_c) (by decide) rfl) (by rw [List.length_map]; omega) (fun H6 ow6 m6 => ?_))
      have ow6 : Own K H (withF F L) (Wd W L (labK ls')) D H6 ((acc ++ [d]).map (oD deedD)) := ow6.re (by rw [List.map_append]; rfl)
      have hg6 := hg5.mv (m6 _ (.inr rfl) (fun b f => .inl f))
      clear m6 ow5 hg5
      have al' : (acc ++ [d]).length = i + 1 := by rw [List.length_append]; simp; exact al
      have lsl' : ls'.length ≤ i + 1 := Nat.le_trans (tell_len et) (by omega)
      have hok' : ∀ x ∈ acc ++ [d], okO x := fun x hx => (List.mem_append.mp hx).elim (hok x) (fun h => by rw [List.mem_singleton.mp h]; exact dok)
      obtain ⟨T2, v2, e2, hTg, hd2⟩ := da_readD hg6
      cases e2
      refine q_if (b := d.isNone) (a_t (v_eqv (v_isN (v_ixT (v_var rfl) v_c hTg (by decide) rfl) v_c) (congrArg V.bl (by rw [isNone_da hd2, isNone_deed2])))) (fun c => ?_) (fun c => ?_)
      · have c := Option.isNone_iff_eq_none.mp c
        rcases ea with ⟨_, rfl⟩ | ⟨ts, z, _⟩ | ⟨dd, z, _⟩
        · exact ⟨_, ls', _, _, _, _, rfl, ow6, al', lsl', hok', e'⟩
        · rw [c] at z; cases z
        · rw [c] at z; cases z
      refine s_next ?_
      rcases ea with ⟨z, _⟩ | ⟨ts, rfl, ha, a0, a1⟩ | ⟨dd, rfl, np, rfl, a0, a1⟩
      · rw [z] at c; cases c
      · obtain ⟨T3, w, rfl, hT3, hw⟩ := da_place hd2
        refine s_ifT (a_t (v_eqv (v_eqS (v_ixT (v_ixT (v_var rfl) v_c hTg (by decide) rfl) v_c hT3 (by decide) rfl) v_c) (congrArg V.bl (decide_eq_true rfl)))) rfl ?_
        exact s_set (v_call (va_cons (v_call (va_cons (v_ixT (v_ixT (v_var rfl) v_c hTg (by decide) rfl) v_c hT3 (by decide) rfl) (va_cons (v_var rfl) (va_cons (v_var rfl) (va_cons (v_add (v_var rfl) v_c) va_nil)))) (fun _ q => ⟨w, L, at_, _, ts, ls', at', _, rfl, hw, dok, ow6.ok.w.2, ha, q⟩)) (va_cons v_c (va_cons (v_add (v_var rfl) v_c) va_nil))) (fun _ q => ⟨at', 63, _, rfl, a0, a1, q⟩)) ⟨_, ls', at', _, _, _, rfl, ow6, al', lsl', hok', e'⟩
      · obtain ⟨T3, xs, rfl, hT3, hx0⟩ := da_deedHd hd2
        have hne : hdS dd ≠ "place" := by cases dd with
          | place ts => exact absurd rfl (np ts)
          | word ts => exact (show ("word" : Str) ≠ "place" by decide)
          | made n => exact (show ("made" : Str) ≠ "place" by decide)
          | aim b ts => exact (show ("aim" : Str) ≠ "place" by decide)
          | pool b ts => exact (show ("pool" : Str) ≠ "place" by decide)
        refine s_ifF (a_t (v_eqv (v_eqS (v_ixT (v_ixT (v_var rfl) v_c hTg (by decide) rfl) v_c hT3 (by decide) hx0) v_c) (congrArg V.bl (decide_eq_false hne)))) rfl ?_
        exact s_set (v_call (va_cons (v_add (v_var rfl) v_c) (va_cons v_c (va_cons (v_add (v_var rfl) v_c) va_nil))) (fun _ q => ⟨at_ + 1, 64, _, rfl, a0, a1, q⟩)) ⟨_, ls', at_ + 1, _, _, _, rfl, ow6, al', lsl', hok', e'⟩
    · obtain ⟨acc, ls, at_, y1, y2, y3, rfl, ow, al, lsl, hok, e⟩ := pv
      rw [List.length_map] at al e
      rw [List.drop_length, goneG] at e
      cases e
      refine s_retT (va_cons (v_var rfl) (va_cons (v_var rfl) va_nil)) (by simp) (fun T' hT' => ?_)
      have ow := ow.same (woD wo) (smN (o := .tup [V.ref D, V.ref L]) hT')
      exact k T' D L _ (ow.mvH hL) ⟨fun b f => ow.ok.fa b (.inl f), ow.ok.w.1⟩ (SqT.of upd_same) hL ow.ok.w.2 ow.no ow.ow al hok
end
/-! ### the second going over -/
theorem inV_ints (n : Int) : ∀ l : List Int, inV (.int n) (l.map V.int) = decide (n ∈ l)
  | [] => by simp [inV]
  | a :: l => by
    have ih := inV_ints n l
    unfold inV at ih ⊢
    rw [List.map_cons, List.any_cons, ih]
    show ((a == n) || decide (n ∈ l)) = decide (n ∈ a :: l)
    by_cases h : n = a
    · subst h; simp
    · rw [show (a == n) = false from beq_eq_false_iff_ne.mpr fun e => h e.symm, Bool.false_or]
      exact decide_eq_decide.mpr ⟨fun q => List.mem_cons_of_mem _ q, fun q => (List.mem_cons.mp q).elim (fun e => absurd e h) id⟩
theorem flat_ints (l : List Int) : (l.map V.int).all flatV = true := by
  rw [List.all_map]
  exact List.all_eq_true.mpr fun _ _ => rfl
theorem idxI {ns : List Int} {t : Int} (h : t ∈ ns) : ns[ns.idxOf t]? = some t ∧ (∀ m, m < ns.idxOf t → ns[m]? ≠ some t) ∧ ns.idxOf t < ns.length := by
  have hl := List.idxOf_lt_length_of_mem h
  refine ⟨?_, fun m hm e => ?_, hl⟩
  · rw [List.getElem?_eq_getElem hl]
    exact congrArg some (List.getElem_idxOf hl)
  · obtain ⟨h1, h2⟩ := List.getElem?_eq_some_iff.mp e
    have := List.not_of_lt_findIdx (p := fun x => x == t) (xs := ns) (i := m) hm
    rw [h2] at this
    simp at this
section
variable {σ : L2.St} {H : Hp} {K : PySem.W.Frag} {a : Addr} {ta tb : TE} {n : Int} {pool : List Int}
theorem v_notInL (ha : Val ta σ H (.int n)) (hb : Val tb σ H (.ref a)) (h : SqL K H a (pool.map V.int)) : Val (tOp (rIn K true) ta tb) σ H (.bl (!decide (n ∈ pool))) :=
  val_op ha hb fun _ q => ⟨a, _, rfl, .inl h, rfl, flat_ints pool, by rw [if_pos rfl, inV_ints]; exact q⟩
theorem v_lidx (ha : Val ta σ H (.ref a)) (hb : Val tb σ H (.int n)) (h : H a = some (.lst (pool.map V.int))) (hm : n ∈ pool) : Val (tBM K "list" (rIndex K) ta (tCons tb tNil)) σ H (.int (pool.idxOf n : Nat)) := fun Q q => by
  obtain ⟨e1, e2, e3⟩ := idxI hm
  refine ha _ ⟨ty_list h, va_cons hb va_nil _ ⟨a, pool.map V.int, .int n, pool.idxOf n, .int n, rfl, rfl, SqL.of h, rfl, flat_ints pool, by rw [List.getElem?_map, e1]; rfl, by show (n == n) = true; simp, fun m z hm hz => ?_, q⟩⟩
  rw [List.getElem?_map] at hz
  obtain ⟨y, hy, rfl⟩ := Option.map_eq_some_iff.mp hz
  show (y == n) = false
  exact beq_eq_false_iff_ne.mpr fun e => e2 m hm (by rw [hy, e])
end
theorem make_len {m m' : Made} {a n : Int} {k : Nat} (e : makeL m a n k = .ok m') : m'.length = m.length + 1 := by
  unfold makeL at e
  split at e
  · cases e
  · cases e; simp
theorem pool_len {m : Made} {pool : List Int} {n : Int} {k : Nat} {r : Made × List Int × Int} (e : poolL m pool n k = .ok r) : r.1.length ≤ m.length + 1 ∧ r.2.1.length ≤ pool.length + 1 := by
  unfold poolL at e
  split at e
  · cases e; exact ⟨by show m.length ≤ _; omega, by show pool.length ≤ _; omega⟩
  · split at e
    · cases e
    · rename_i z; cases e
      exact ⟨by show _ ≤ m.length + 1; rw [make_len z]; omega, by show (pool ++ [n]).length ≤ _; simp⟩
theorem amtW_ok {ls : Lab} {a most b : Int} {ts : List (Int × LN)} {k : Nat} (e : amtW ls a ts most k = .ok b) : amountL ls a 0 ts = some b ∧ 0 ≤ b ∧ b ≤ most := by
  unfold amtW at e
  split at e
  · cases e
  · rename_i z
    obtain ⟨rfl, h⟩ := within_ok e
    exact ⟨amt_ok z, h⟩
theorem cellsG_inv {ls : Lab} {m : Made} {pool : List Int} {a : Int} {k : Nat} {d : Option Dd} {r : List (Option Dd)} {res : Made} (e : cellsG ls m pool a k (d :: r) = .ok res) : ∃ m' pool' a', cellStep ls m pool a k d = .ok (m', pool', a') ∧ cellsG ls m' pool' a' (k + 1) r = .ok res := by
  rw [cellsG] at e
  cases z : cellStep ls m pool a k d with
  | error x => rw [z] at e; cases e
  | ok q =>
    obtain ⟨m', pool', a'⟩ := q
    rw [z] at e
    exact ⟨m', pool', a', rfl, e⟩
theorem cellStep_inv {ls : Lab} {m m' : Made} {pool pool' : List Int} {a a' : Int} {k : Nat} {dd : Dd} (np : ∀ ts, dd ≠ .place ts) (e : cellStep ls m pool a k (some dd) = .ok (m', pool', a')) : ∃ m1 num, wordOf ls m pool a k dd = .ok (m1, pool', num) ∧ makeL m1 a num k = .ok m' ∧ a' = a + 1 := by
  unfold cellStep at e
  split at e
  · cases ‹some dd = none›
  · rename_i ts h; exact absurd (Option.some.inj h) (np ts)
  · rename_i d _ h
    cases Option.some.inj h
    split at e
    · cases e
    · rename_i q hq
      split at e
      · cases e
      · rename_i m2 hm
        cases e
        exact ⟨q.1, q.2.2, hq, hm, rfl⟩
section
variable {K : PySem.W.Frag} {H : Hp} {F : FS} {W : Hp → Prop} {M P : Addr} {kvs kvs' : List (Key × V)} {xs xs' : List V}
theorem ok_updD (wo : Wo F W) (nF : ¬ F M) (h : H M = some (.dK kvs)) (o : Ok F W H) : Ok F W (upd H M (.dK kvs')) :=
  ⟨fun b f => by rw [upd_ne (fun q => nF (by rw [← q]; exact f))]; exact o.fa b f, wo.loc _ _ (fun b x f e => by rw [upd_ne (fun q => nF (by rw [← q]; exact f))]; exact e) (tpD h) o.w⟩
theorem ok_updL (wo : Wo F W) (nF : ¬ F P) (h : H P = some (.lst xs)) (o : Ok F W H) : Ok F W (upd H P (.lst xs')) :=
  ⟨fun b f => by rw [upd_ne (fun q => nF (by rw [← q]; exact f))]; exact o.fa b f, wo.loc _ _ (fun b x f e => by rw [upd_ne (fun q => nF (by rw [← q]; exact f))]; exact e) (TpS.upd h) o.w⟩
end
/-- the state of the second going over -/
structure CSt (F : FS) (W : Hp → Prop) (H0 : Hp) (L M P : Addr) (ls : Lab) (m : Made) (pool : List Int) (H : Hp) : Prop where
  mv : Mv (withF (withF F M) P) H0 (withF (withF F M) P) H
  ok : Ok F W H
  hL : H L = some (.dK (labK ls))
  hM : H M = some (.dK (madeK m))
  hP : H P = some (.lst (pool.map V.int))
structure CNo (F : FS) (L M P : Addr) : Prop where
  fM : ¬ F M
  fP : ¬ F P
  MP : M ≠ P
  LM : L ≠ M
  LP : L ≠ P
section
variable {F : FS} {W : Hp → Prop} {H0 H H' : Hp} {L M P : Addr} {ls : Lab} {m m' : Made} {pool pool' : List Int}
theorem CSt.same (c : CSt F W H0 L M P ls m pool H) (wo : Wo F W) (s : Same H H') : CSt F W H0 L M P ls m pool H' := ⟨c.mv.trans (.same s), c.ok.same wo s, s _ _ c.hL, s _ _ c.hM, s _ _ c.hP⟩
theorem CSt.put (c : CSt F W H0 L M P ls m pool H) (n : CNo F L M P) (wo : Wo F W) : CSt F W H0 L M P ls m' pool' (upd (upd H M (.dK (madeK m'))) P (.lst (pool'.map V.int))) := by
  have hP : (upd H M (.dK (madeK m'))) P = some (.lst (pool.map V.int)) := by rw [upd_ne n.MP.symm]; exact c.hP
  exact ⟨(c.mv.trans (mvD (.inl (.inr rfl)))).trans (mvD (.inr rfl)), ok_updL wo n.fP hP (ok_updD wo n.fM c.hM c.ok), by rw [upd_ne n.LP, upd_ne n.LM]; exact c.hL, by rw [upd_ne n.MP, upd_same], upd_same⟩
theorem CSt.putM (c : CSt F W H0 L M P ls m pool H) (n : CNo F L M P) (wo : Wo F W) : CSt F W H0 L M P ls m' pool (upd H M (.dK (madeK m'))) :=
  ⟨c.mv.trans (mvD (.inl (.inr rfl))), ok_updD wo n.fM c.hM c.ok, by rw [upd_ne n.LM]; exact c.hL, upd_same, by rw [upd_ne n.MP.symm]; exact c.hP⟩
end
def spCells (K : PySem.W.Frag) : Sp := fun vs H Q _ => ∃ (F : FS) (W : Hp → Prop) (v : V) (L : Addr) (ds : List (Option Dd)) (ls : Lab) (mF : Made), vs = [v, .ref L] ∧ Wo F W ∧ Ok F W H ∧ ¬ F L ∧ Da K H F v (.list (ds.map (oD deedD))) ∧ H L = some (.dK (labK ls)) ∧ (∀ d ∈ ds, okO d) ∧ ds.length ≤ 30000 ∧ cellsG ls [] [] 0 1 ds = .ok mF ∧
  ∀ M H', H M = none → Mv F H F H' → Ok F W H' → H' M = some (.dK (madeK mF)) → Q (.ref M) H'
def preAsm (vs : List V) (_ : Hp) (_ : FS) (_ : Hp → Prop) (d : List PyData) : Prop := ∃ (t : LN) (cs : List Int), vs = [.str (oL t)] ∧ t.length ≤ 20000 ∧ assembledL t = .ok cs ∧ d = intsL cs
section
variable {K : PySem.W.Frag} {H : Hp} {F : FS} {v : V} {ts : List (Int × LN)} {b n : Int}
theorem da_word (h : Da K H F v (deedD (.word ts))) : ∃ T w, v = .ref T ∧ SqT K H T [.str "word", w] ∧ Da K H F w (termsD ts) := by
  obtain ⟨T, v1, v2, rfl, hT, z1, z2⟩ := da_pair h
  cases z1
  exact ⟨T, v2, rfl, hT, z2⟩
theorem da_made (h : Da K H F v (deedD (.made n))) : ∃ T, v = .ref T ∧ SqT K H T [.str "made", .int n] := by
  obtain ⟨T, v1, v2, rfl, hT, z1, z2⟩ := da_pair h
  cases z1; cases z2
  exact ⟨T, rfl, hT⟩
theorem da_three {d1 d2 d3 : PyData} (h : Da K H F v (.tuple [d1, d2, d3])) : ∃ T v1 v2 v3, v = .ref T ∧ SqT K H T [v1, v2, v3] ∧ Da K H F v1 d1 ∧ Da K H F v2 d2 ∧ Da K H F v3 d3 := by
  cases h with | @tup T xs _ ht h2 =>
  cases h2 with | cons z1 h2 => cases h2 with | cons z2 h2 => cases h2 with | cons z3 h2 => cases h2; exact ⟨_, _, _, _, rfl, ht.sq, z1, z2, z3⟩
theorem da_aim (h : Da K H F v (deedD (.aim b ts))) : ∃ T w, v = .ref T ∧ SqT K H T [.str "aim", .int b, w] ∧ Da K H F w (termsD ts) := by
  obtain ⟨T, v1, v2, v3, rfl, hT, z1, z2, z3⟩ := da_three h
  cases z1; cases z2
  exact ⟨T, v3, rfl, hT, z3⟩
theorem da_poolD (h : Da K H F v (deedD (.pool b ts))) : ∃ T w, v = .ref T ∧ SqT K H T [.str "pool", .int b, w] ∧ Da K H F w (termsD ts) := by
  obtain ⟨T, v1, v2, v3, rfl, hT, z1, z2, z3⟩ := da_three h
  cases z1; cases z2
  exact ⟨T, v3, rfl, hT, z3⟩
end
theorem x_call1 {σ : L2.St} {H : Hp} {ta : TE} {sp : Sp} {Q : VK} (h : ta σ H fun x H1 => sp [x] H1 Q E0) : tCall sp [] E0 (tCons ta tNil) σ H Q := h
theorem cellsOf_eq (m : Made) : fmD (fun _ => true) (fun (k : Nat) => PyData.int ((madeGet m (k : Int)).getD 0)) (List.range (64 : Int).toNat) = intsL (cellsOf m) := by
  rw [fmD_all]
  unfold intsL cellsOf
  rw [List.map_map]
  rfl
theorem goneG_len : ∀ (lines : List LN) (acc : List (Option Dd)) (ls : Lab) (a : Int) (k : Nat) (res : List (Option Dd) × Lab), goneG acc ls a k lines = .ok res → res.1.length = acc.length + lines.length
  | [], acc, ls, a, k, res, e => by rw [goneG] at e; cases e; simp
  | l :: r, acc, ls, a, k, res, e => by
    obtain ⟨d, ls', a', _, e⟩ := goneG_inv e
    have := goneG_len r _ _ _ _ _ e
    rw [this]; simp; omega
theorem asm_inv {t : LN} {cs : List Int} (e : assembledL t = .ok cs) : ∃ ds ls m, goneL (cutAt 10 t) = .ok (ds, ls) ∧ cellsG ls [] [] 0 1 ds = .ok m ∧ cs = cellsOf m := by
  unfold assembledL at e
  split at e
  · cases e
  · rename_i ds ls hg
    split at e
    · cases e
    · rename_i m hm
      cases e
      exact ⟨ds, ls, m, hg, hm, rfl⟩
section
variable {P : Program} {w : World} {K : PySem.W.Frag} {mg : Str → Option Value} {base : Heap}

theorem sc_pool_place : FnScope ["made", "pool", "number", "line"] ["made", "pool", "number", "line"] (defScope s_pool_place) := ⟨rfl, rfl, rfl, by decide +kernel, rfl, by decide +kernel, by decide +kernel⟩
theorem cal_pool_place (T : Tx K mg) : Cal P w K mg base 2 "pool_place" ["made", "pool", "number", "line"] spPool := by
  refine cal_mk T 12 12 rfl rfl sc_pool_place (fun _ _ _ _ _ _ us hl => match us, hl with | [_, _, _, _], _ => rfl) (fun vs H Q E h => ?_) (fun f cdv A outer s H vs Q E hr h => ?_)
  · obtain ⟨M, P, n, kk, nk, m, pool, r, rfl, MP, hM, hP, ml, pl, e, k⟩ := h
    rfl
  · obtain ⟨M, P, n, kk, nk, m, pool, r, rfl, MP, hM, hP, ml, pl, e, k⟩ := h
    refine ⟨_, (pss_cons (ps_if (pt_cmpR op_notIn_seq (pv 2) (pv 1) (by rfl)) (pss_cons (ps_expr (pe_cal (cal_make_cell (K := K) T) hr (by decide) rfl (pa_cons (pv 0) (pa_cons (pe_op op_sub pe_int (pe_callB call_len_seq (by rfl) (T.free 50) PySem.boot_len (pa_cons (pv 1) pa_nil))) (pa_cons (pv 2) (pa_cons (pv 3) pa_nil)))))) (pss_one (ps_expr (pe_bm PySem.F.plainAttrs_list PySem.F.slot_list_append PySem.F.type_list_append mt_append (pv 1) (pa_cons (pv 2) pa_nil))))) pss_nil) (pss_one (ps_ret (pe_op op_sub pe_int (pe_bm PySem.F.plainAttrs_list PySem.F.slot_list_index PySem.F.type_list_index mt_index (pv 1) (pa_cons (pv 2) pa_nil)))))), ?_⟩
    unfold poolL at e
    by_cases c : n ∈ pool
    · rw [if_pos c] at e
      cases e
      rw [upd_id hM, upd_id hP] at k
      refine q_ifF0 (a_t (v_eqv (v_notInL (K := K) (v_var rfl) (v_var rfl) (SqL.of hP)) (congrArg V.bl (by rw [decide_eq_true c]; rfl)))) rfl ?_
      exact s_ret (v_sub v_c (v_lidx (v_var rfl) (v_var rfl) hP c)) k
    rw [if_neg c] at e
    split at e
    · cases e
    rename_i m1 hm1
    cases e
    refine q_ifT (a_t (v_eqv (v_notInL (K := K) (v_var rfl) (v_var rfl) (SqL.of hP)) (congrArg V.bl (by rw [decide_eq_false c]; rfl)))) rfl ?_
    refine q_do (va_cons (v_var rfl) (va_cons (v_eqv (v_sub v_c (v_cb (va_cons (v_var rfl) va_nil) (fun _ q => ⟨_, _, rfl, .inl (SqL.of hP), q⟩))) (show _ = V.int (63 - (pool.length : Nat)) by rw [List.length_map])) (va_cons (v_var rfl) (va_cons (v_var rfl) va_nil)))) ⟨M, _, n, _, nk, m, m1, rfl, hM, by omega, hm1, ?_⟩
    have hP1 : (upd H M (.dK (madeK m1))) P = some (.lst (pool.map V.int)) := by rw [upd_ne MP.symm]; exact hP
    refine sx_drop (x_append (v_var rfl) hP1 (by rw [List.length_map]; omega) (v_var rfl) ?_)
    have el : pool.map V.int ++ [V.int n] = (pool ++ [n]).map V.int := by rw [List.map_append]; rfl
    have ei : (pool ++ [n]).idxOf n = pool.length := by rw [List.idxOf_append, if_neg c]; simp
    rw [el]
    exact s_ret (v_eqv (v_sub v_c (v_lidx (v_var rfl) (v_var rfl) upd_same (List.mem_append_right _ List.mem_cons_self))) (show _ = V.int (63 - (pool.length : Nat)) by rw [ei])) k

theorem sc_cells_made : FnScope ["deeds", "labels", "made", "pool", "at", "k", "deed", "number", "want"] ["deeds", "labels"] (defScope s_cells_made) := ⟨rfl, rfl, rfl, by decide +kernel, rfl, by decide +kernel, by decide +kernel⟩
theorem cal_cells_made (T : Tx K mg) : Cal P w K mg base 4 "cells_made" ["deeds", "labels"] (spCells K) := by
  refine cal_mk T 13 13 rfl rfl sc_cells_made (fun _ _ _ _ _ _ us hl => match us, hl with | [_, _], _ => rfl) (fun vs H Q E h => ?_) (fun f cdv A outer s H vs Q E hr h => ?_)
  · obtain ⟨F, W, v, L, ds, ls, mF, rfl, wo, ok, nL, hv, hL, hok, dl, e0, k⟩ := h
    rfl
  · obtain ⟨F, W, v, L, ds, ls, mF, rfl, wo, ok, nL, hv, hL, hok, dl, e0, k⟩ := h
    refine ⟨_, (pss_cons (ps_set (i := 2) sc_cells_made.nd rfl (Or.inl rfl) pe_dnewK) (pss_cons (ps_set (i := 3) sc_cells_made.nd rfl (Or.inl rfl) (pe_lst pa_nil)) (pss_cons (ps_set (i := 4) sc_cells_made.nd rfl (Or.inl rfl) pe_int) (pss_cons (ps_for PassesOwn.never rfl (pi_enum (by rfl) (T.free 56) (pa_cons (pv 0) pa_nil)) (pg_tup (by rfl) (pgs_cons (pg_name (i := 5) sc_cells_made.nd rfl (Or.inl rfl)) (pgs_cons (pg_name (i := 6) sc_cells_made.nd rfl (Or.inl rfl)) pgs_nil))) (pss_cons (ps_if (pt_cmpR op_isN1 (pv 6) pe_non (nomark _)) (pss_one ps_continue) pss_nil) (pss_cons (ps_if (pt_cmpR op_eq (pe_ix ix_tup (pv 6) pe_int (fun _ _ => rfl)) pe_str (nomark _)) (pss_cons (ps_set (i := 4) sc_cells_made.nd rfl (Or.inl rfl) (pe_cal (cal_amount_of (K := K) T) hr (by decide) rfl (pa_cons (pe_ix ix_tup (pv 6) pe_int (fun _ _ => rfl)) (pa_cons (pv 1) (pa_cons (pv 4) (pa_cons (pe_op op_add (pv 5) pe_int) pa_nil)))))) (pss_one ps_continue)) pss_nil) (C8.pss_cut (ps_if (pt_cmpR op_eq (pe_ix ix_tup (pv 6) pe_int (fun _ _ => rfl)) pe_str (nomark _)) (pss_one (ps_set (i := 7) sc_cells_made.nd rfl (Or.inl rfl) (pe_ix ix_tup (pv 6) pe_int (fun _ _ => rfl)))) (pss_one (ps_if (pt_cmpR op_eq (pe_ix ix_tup (pv 6) pe_int (fun _ _ => rfl)) pe_str (nomark _)) (pss_one (ps_set (i := 7) sc_cells_made.nd rfl (Or.inl rfl) (pe_cal (cal_within (K := K) T) hr (by decide) rfl (pa_cons (pe_cal (cal_amount_of (K := K) T) hr (by decide) rfl (pa_cons (pe_ix ix_tup (pv 6) pe_int (fun _ _ => rfl)) (pa_cons (pv 1) (pa_cons (pv 4) (pa_cons (pe_op op_add (pv 5) pe_int) pa_nil))))) (pa_cons pe_int (pa_cons (pe_op op_add (pv 5) pe_int) pa_nil)))))) (pss_one (ps_if (pt_cmpR op_eq (pe_ix ix_tup (pv 6) pe_int (fun _ _ => rfl)) pe_str (nomark _)) (pss_one (ps_set (i := 7) sc_cells_made.nd rfl (Or.inl rfl) (pe_op op_add (pe_ix ix_tup (pv 6) pe_int (fun _ _ => rfl)) (pe_cal (cal_within (K := K) T) hr (by decide) rfl (pa_cons (pe_cal (cal_amount_of (K := K) T) hr (by decide) rfl (pa_cons (pe_ix ix_tup (pv 6) pe_int (fun _ _ => rfl)) (pa_cons (pv 1) (pa_cons (pv 4) (pa_cons (pe_op op_add (pv 5) pe_int) pa_nil))))) (pa_cons pe_int (pa_cons (pe_op op_add (pv 5) pe_int) pa_nil))))))) (pss_cons (ps_set (i := 8) sc_cells_made.nd rfl (Or.inl rfl) (pe_cal (cal_within (K := K) T) hr (by decide) rfl (pa_cons (pe_cal (cal_amount_of (K := K) T) hr (by decide) rfl (pa_cons (pe_ix ix_tup (pv 6) pe_int (fun _ _ => rfl)) (pa_cons (pv 1) (pa_cons (pv 4) (pa_cons (pe_op op_add (pv 5) pe_int) pa_nil))))) (pa_cons pe_int (pa_cons (pe_op op_add (pv 5) pe_int) pa_nil))))) (pss_one (ps_set (i := 7) sc_cells_made.nd rfl (Or.inl rfl) (pe_op op_add (pe_ix ix_tup (pv 6) pe_int (fun _ _ => rfl)) (pe_cal (cal_pool_place (K := K) T) hr (by decide) rfl (pa_cons (pv 2) (pa_cons (pv 3) (pa_cons (pv 8) (pa_cons (pe_op op_add (pv 5) pe_int) pa_nil)))))))))))))) (pss_cons (ps_expr (pe_cal (cal_make_cell (K := K) T) hr (by decide) rfl (pa_cons (pv 2) (pa_cons (pv 4) (pa_cons (pv 7) (pa_cons (pe_op op_add (pv 5) pe_int) pa_nil)))))) (pss_one (ps_set (i := 4) sc_cells_made.nd rfl (Or.inl rfl) (pe_op op_add (pv 4) pe_int)))))))) (pss_one (ps_ret (pv 2))))))), ?_⟩
    refine qx_set (fun M hM0 => ?_)
    have ok1 := ok.same wo (smN (o := .dK []) hM0)
    refine q_setL va_nil (by simp) (fun P hP0 => ?_)
    have fM : ¬ F M := ok.fa.no hM0
    have fP : ¬ F P := ok1.fa.no hP0
    have MP : M ≠ P := ne_of_none upd_same hP0
    have LM : L ≠ M := ne_of_none hL hM0
    have LP : L ≠ P := ne_of_none (smN hM0 _ _ hL) hP0
    have no : CNo F L M P := ⟨fM, fP, MP, LM, LP⟩
    have s12 : Same H (upd (upd H M (.dK [])) P (.lst [])) := (smN hM0).trans (smN hP0)
    have hP00 : H P = none := (smN hM0).free hP0
    have cs0 : CSt F W (upd (upd H M (.dK [])) P (.lst [])) L M P ls [] [] (upd (upd H M (.dK [])) P (.lst [])) := ⟨.refl, ok.same wo s12, s12 _ _ hL, by rw [upd_ne MP, upd_same]; rfl, upd_same⟩
    have hv2 : Da K (upd (upd H M (.dK [])) P (.lst [])) (withF (withF F M) P) v (.list (ds.map (oD deedD))) := hv.mv ⟨fun b o n e => s12 b o e, fun b f => f.elim (fun f => f.elim .inl (fun e => .inr (by rw [e]; exact hM0))) (fun e => .inr (by rw [e]; exact hP00))⟩
    refine q_set v_c ?_
    generalize hH2 : upd (upd H M (.dK [])) P (.lst []) = H2 at cs0 hv2 s12 ⊢
    obtain ⟨b, xs, rfl, hb1, hxs⟩ : ∃ b xs, v = .ref b ∧ LsA H2 (withF (withF F M) P) b xs ∧ DaAll K H2 (withF (withF F M) P) xs (ds.map (oD deedD)) := by cases hv2 with | lst h1 h2 => exact ⟨_, _, rfl, h1, h2⟩
    have hb : SqL K H2 b xs := SqL.of hb1.at_
    have hbs : ∀ H', Mv (withF (withF F M) P) H2 (withF (withF F M) P) H' → SqL K H' b xs := fun H' mv => SqL.of (hb1.mv mv).at_
    refine q_forE (xs := xs) (va_cons (v_var rfl) va_nil) hb (fun i σ' H' => ∃ (m : Made) (pool : List Int) (at_ : Int) (y1 y2 y3 y4 : Option V), σ' = [some (.ref b), some (.ref L), some (.ref M), some (.ref P), some (.int at_), y1, y2, y3, y4] ∧ CSt F W H2 L M P ls m pool H' ∧ m.length ≤ 2 * i ∧ pool.length ≤ i ∧ cellsG ls m pool at_ (i + 1) (ds.drop i) = .ok mF) ⟨[], [], 0, _, _, _, _, rfl, cs0, Nat.le_refl _, Nat.le_refl _, e0⟩ (fun i σ' H' pv => ?_) (fun i x σ' H' T' hx pv hT' => ?_) (fun σ' H' pv => ?_)
    · obtain ⟨m, pool, at_, y1, y2, y3, y4, rfl, cs, _⟩ := pv
      exact hbs H' cs.mv
    · obtain ⟨m, pool, at_, y1, y2, y3, y4, rfl, cs, ml, pl, e⟩ := pv
      obtain ⟨dx, hd, hdx⟩ := hxs.getV i hx
      rw [List.getElem?_map] at hd
      obtain ⟨d, hdd, rfl⟩ := Option.map_eq_some_iff.mp hd
      have il := (List.getElem?_eq_some_iff.mp hdd).1
      have dok := hok d (List.mem_of_getElem? hdd)
      have cs := cs.same wo (smN (o := .tup [V.int (i : Int), x]) hT')
      generalize upd H' T' (.tup [V.int (i : Int), x]) = H3 at cs ⊢
      have hx3 := hdx.mv cs.mv
      rw [drop_at hdd] at e
      obtain ⟨m', pool', a', es, e'⟩ := cellsG_inv e
      cases d with
      | none =>
        cases es
        cases hx3
        refine q_ifT (a_t (v_eqv (v_isN (v_var rfl) v_c) rfl)) rfl ?_
        exact ⟨m, pool, at_, _, _, _, _, rfl, cs, by omega, by omega, e'⟩
      | some dd =>
        refine q_ifF0 (a_t (v_eqv (v_isN (v_var rfl) v_c) (congrArg V.bl (by rw [isNone_da hx3, isNone_deed2]; rfl)))) rfl ?_
        by_cases ip : ∃ ts, dd = .place ts
        · obtain ⟨ts, rfl⟩ := ip
          obtain ⟨T2, w, rfl, hT, hw⟩ := da_place hx3
          unfold cellStep at es
          dsimp only at es
          split at es
          · cases es
          rename_i a1 ha
          cases es
          have ha := amt_ok ha
          refine q_ifT (a_t (v_eqv (v_eqS (v_ixT (v_var rfl) v_c hT (by decide) rfl) v_c) (congrArg V.bl (decide_eq_true rfl)))) rfl ?_
          refine q_set (v_call (va_cons (v_ixT (v_var rfl) v_c hT (by decide) rfl) (va_cons (v_var rfl) (va_cons (v_var rfl) (va_cons (v_add (v_var rfl) v_c) va_nil)))) (fun _ q => ⟨w, L, at_, _, ts, ls, _, _, rfl, hw, dok, cs.hL, ha, q⟩)) ?_
          exact ⟨m, pool, _, _, _, _, _, rfl, cs, by omega, by omega, e'⟩
        · have np : ∀ ts, dd ≠ .place ts := fun ts z => ip ⟨ts, z⟩
          obtain ⟨m1, num, ew, em, rfl⟩ := cellStep_inv np es
          obtain ⟨T0, xs0, rfl, hT0, hx0⟩ := da_deedHd hx3
          have hne : hdS dd ≠ "place" := by cases dd with
            | place ts => exact absurd rfl (np ts)
            | word ts => exact (show ("word" : Str) ≠ "place" by decide)
            | made n => exact (show ("made" : Str) ≠ "place" by decide)
            | aim b ts => exact (show ("aim" : Str) ≠ "place" by decide)
            | pool b ts => exact (show ("pool" : Str) ≠ "place" by decide)
          refine q_ifF0 (a_t (v_eqv (v_eqS (v_ixT (v_var rfl) v_c hT0 (by decide) hx0) v_c) (congrArg V.bl (decide_eq_false hne)))) rfl ?_
          clear hT0 hx0
          refine q_rel (fun σ' H4 => ∃ (y5 : Option V), σ' = [some (.ref b), some (.ref L), some (.ref M), some (.ref P), some (.int at_), some (.int (i : Int)), some (.ref T0), some (.int num), y5] ∧ CSt F W H2 L M P ls m1 pool' H4 ∧ m1.length ≤ m.length + 1 ∧ pool'.length ≤ pool.length + 1) ?_ ?_
          · cases dd with
            | place ts => exact absurd rfl (np ts)
            | made n =>
              cases ew
              obtain ⟨T2, z, hT⟩ := da_made hx3
              cases z
              refine s_ifT (a_t (v_eqv (v_eqS (v_ixT (v_var rfl) v_c hT (by decide) rfl) v_c) (congrArg V.bl (decide_eq_true rfl)))) rfl ?_
              exact s_set (v_ixT (v_var rfl) v_c hT (by decide) rfl) ⟨_, rfl, cs, by omega, by omega⟩
            | word ts =>
              obtain ⟨T2, w, z, hT, hw⟩ := da_word hx3
              cases z
              unfold wordOf at ew
              dsimp only at ew
              split at ew
              · cases ew
              rename_i a1 ha
              cases ew
              obtain ⟨ha, a0, a1⟩ := amtW_ok ha
              refine s_ifF (a_t (v_eqv (v_eqS (v_ixT (v_var rfl) v_c hT (by decide) rfl) v_c) (congrArg V.bl (decide_eq_false (by decide))))) rfl ?_
              refine s_ifT (a_t (v_eqv (v_eqS (v_ixT (v_var rfl) v_c hT (by decide) rfl) v_c) (congrArg V.bl (decide_eq_true rfl)))) rfl ?_
              exact s_set (v_call (va_cons (v_call (va_cons (v_ixT (v_var rfl) v_c hT (by decide) rfl) (va_cons (v_var rfl) (va_cons (v_var rfl) (va_cons (v_add (v_var rfl) v_c) va_nil)))) (fun _ q => ⟨w, L, at_, _, ts, ls, _, _, rfl, hw, dok, cs.hL, ha, q⟩)) (va_cons v_c (va_cons (v_add (v_var rfl) v_c) va_nil))) (fun _ q => ⟨_, 1023, _, rfl, a0, a1, q⟩)) ⟨_, rfl, cs, by omega, by omega⟩
            | aim bb ts =>
              obtain ⟨T2, w, z, hT, hw⟩ := da_aim hx3
              cases z
              unfold wordOf at ew
              dsimp only at ew
              split at ew
              · cases ew
              rename_i a1 ha
              cases ew
              obtain ⟨ha, a0, a1⟩ := amtW_ok ha
              refine s_ifF (a_t (v_eqv (v_eqS (v_ixT (v_var rfl) v_c hT (by decide) rfl) v_c) (congrArg V.bl (decide_eq_false (by decide))))) rfl ?_
              refine s_ifF (a_t (v_eqv (v_eqS (v_ixT (v_var rfl) v_c hT (by decide) rfl) v_c) (congrArg V.bl (decide_eq_false (by decide))))) rfl ?_
              refine s_ifT (a_t (v_eqv (v_eqS (v_ixT (v_var rfl) v_c hT (by decide) rfl) v_c) (congrArg V.bl (decide_eq_true rfl)))) rfl ?_
              exact s_set (v_add (v_ixT (v_var rfl) v_c hT (by decide) rfl) (v_call (va_cons (v_call (va_cons (v_ixT (v_var rfl) v_c hT (by decide) rfl) (va_cons (v_var rfl) (va_cons (v_var rfl) (va_cons (v_add (v_var rfl) v_c) va_nil)))) (fun _ q => ⟨w, L, at_, _, ts, ls, _, _, rfl, hw, dok, cs.hL, ha, q⟩)) (va_cons v_c (va_cons (v_add (v_var rfl) v_c) va_nil))) (fun _ q => ⟨_, 63, _, rfl, a0, a1, q⟩))) ⟨_, rfl, cs, by omega, by omega⟩
            | pool bb ts =>
              obtain ⟨T2, w, z, hT, hw⟩ := da_poolD hx3
              cases z
              unfold wordOf at ew
              dsimp only at ew
              split at ew
              · cases ew
              rename_i a2 ha
              split at ew
              · cases ew
              rename_i q hq
              cases ew
              obtain ⟨ha, a0, a1⟩ := amtW_ok ha
              refine s_ifF (a_t (v_eqv (v_eqS (v_ixT (v_var rfl) v_c hT (by decide) rfl) v_c) (congrArg V.bl (decide_eq_false (by decide))))) rfl ?_
              refine s_ifF (a_t (v_eqv (v_eqS (v_ixT (v_var rfl) v_c hT (by decide) rfl) v_c) (congrArg V.bl (decide_eq_false (by decide))))) rfl ?_
              refine s_ifF (a_t (v_eqv (v_eqS (v_ixT (v_var rfl) v_c hT (by decide) rfl) v_c) (congrArg V.bl (decide_eq_false (by decide))))) rfl ?_
              refine q_set (v_call (va_cons (v_call (va_cons (v_ixT (v_var rfl) v_c hT (by decide) rfl) (va_cons (v_var rfl) (va_cons (v_var rfl) (va_cons (v_add (v_var rfl) v_c) va_nil)))) (fun _ q => ⟨w, L, at_, _, ts, ls, _, _, rfl, hw, dok, cs.hL, ha, q⟩)) (va_cons v_c (va_cons (v_add (v_var rfl) v_c) va_nil))) (fun _ q => ⟨_, 1023, _, rfl, a0, a1, q⟩)) ?_
              refine sx_set ((v_ixT (v_var rfl) v_c hT (by decide) rfl) _ (va_cons (v_var rfl) (va_cons (v_var rfl) (va_cons (v_var rfl) (va_cons (v_add (v_var rfl) v_c) va_nil))) _ ⟨M, P, a2, _, i + 1, m, pool, q, rfl, MP, cs.hM, cs.hP, by omega, by omega, hq, ?_⟩))
              have hl := pool_len hq
              exact ⟨_, _, rfl, rfl, _, rfl, cs.put no wo, hl.1, hl.2⟩
          · rintro σ4 H4 ⟨y5, rfl, cs4, ml4, pl4⟩
            refine q_do (va_cons (v_var rfl) (va_cons (v_var rfl) (va_cons (v_var rfl) (va_cons (v_add (v_var rfl) v_c) va_nil)))) ⟨M, at_, num, _, i + 1, m1, m', rfl, cs4.hM, by omega, em, ?_⟩
            exact s_set (v_add (v_var rfl) v_c) ⟨m', pool', _, _, _, _, _, rfl, cs4.putM no wo, by rw [make_len em]; omega, by omega, e'⟩
    · obtain ⟨m, pool, at_, y1, y2, y3, y4, rfl, cs, ml, pl, e⟩ := pv
      have xl : xs.length = ds.length := by rw [hxs.len, List.length_map]
      rw [xl, List.drop_length, cellsG] at e
      cases e
      refine s_ret (v_var rfl) (k M H' hM0 ⟨fun b o n e => cs.mv.keep b o (fun f => f.elim (fun f => f.elim n (fun z => by rw [z, hM0] at e; cases e)) (fun z => by rw [z, hP00] at e; cases e)) (s12 b o e), fun b f => .inl f⟩ cs.ok cs.hM)

theorem sc_assembled : FnScope ["text", "deeds", "labels", "made", "k"] ["text"] (defScope s_assembled) := ⟨rfl, rfl, rfl, by decide +kernel, rfl, by decide +kernel, by decide +kernel⟩
theorem cal_assembled (T : Tx K mg) : Cal P w K mg base 7 "assembled" ["text"] (spDN K preAsm) := by
  refine cal_mk T 14 14 rfl rfl sc_assembled (fun _ _ _ _ _ _ us hl => match us, hl with | [_], _ => rfl) (fun vs H Q E h => ?_) (fun f cdv A outer s H vs Q E hr h => ?_)
  · obtain ⟨F, W, d, wo, ok, ⟨t, cs, rfl, tl, ea, rfl⟩, k⟩ := h
    rfl
  · obtain ⟨F, W, d, wo, ok, ⟨t, cs, rfl, tl, ea, rfl⟩, k⟩ := h
    have hu := hu_of hr
    refine ⟨_, (pss_cons (ps_asg (pe_cal (cal_gone_over (K := K) T) hr (by decide) rfl (pa_cons (pe_split (pv 0) pe_str) pa_nil)) (pg_tup (by rfl) (pgs_cons (pg_name (i := 1) sc_assembled.nd rfl (Or.inl rfl)) (pgs_cons (pg_name (i := 2) sc_assembled.nd rfl (Or.inl rfl)) pgs_nil)))) (pss_cons (ps_set (i := 3) sc_assembled.nd rfl (Or.inr rfl) (pe_cal (cal_cells_made (K := K) T) hr (by decide) rfl (pa_cons (pv 1) (pa_cons (pv 2) pa_nil)))) (pss_one (ps_ret (pe_lc (own := [("k", 4)]) (g := gName 4) (tt := tYes) (by rfl) sc_assembled.nd (pi_range1 (by rfl) (T.free 52) (pa_cons pe_int pa_nil)) (blkOk_by (own := [("k", 4)]) (N := ["text", "deeds", "labels", "made", "k"]) (sc := defScope s_assembled) (by decide +kernel)) (fun _ _ _ _ _ => pg_name (i := 4) sc_assembled.nd rfl (Or.inl rfl)) (fun _ _ _ _ _ => pts_nil) (fun _ _ _ _ _ => (pe_dget2 hu (pv 3) (pv 4) pe_int ⟨rfl, rfl, rfl, rfl⟩))))))), ?_⟩
    obtain ⟨ds, ls, m, eg, ec, rfl⟩ := asm_inv ea
    have cl := cutAt_many 10 t
    refine qx_asg (x_call1 (x_d (K := K) (d := lnsD (cutAt 10 t)) (dn_split wo (dv_var rfl (.str _)) rfl (by decide) (by omega)).dv ok (fun v H1 m1 o1 hv => ?_)))
    refine ⟨F, W, v, cutAt 10 t, ds, ls, rfl, wo, o1, hv, by omega, fun l hl => by have := cutAt_len 10 t l hl; omega, eg, fun T' D L H2 m2 o2 hT hL0 hLab nD how hlen hokd => ?_⟩
    refine ⟨T', _, rfl, hT, rfl, _, _, rfl, _, _, rfl, rfl, ?_⟩
    have nL : ¬ F L := o1.fa.no hL0
    have hd : Da K H2 F (.ref D) (.list (ds.map (oD deedD))) := (how.da nD).mv (.less fun b f => .inl f)
    refine q_setc (va_cons (v_var rfl) (va_cons (v_var rfl) va_nil)) ⟨F, W, .ref D, L, ds, ls, m, rfl, wo, o2, nL, hd, hLab, hokd, by omega, ec, fun M H3 hM m3 o3 hMm => ?_⟩
    have m13 := (m1.trans m2).trans m3
    have o3' : Ok (withF F M) (Wd W M (madeK m)) H3 := ⟨fun b f => f.elim (o3.fa b) (fun e => by rw [e, hMm]; exact fun z => by cases z), o3.w, hMm⟩
    refine x_dn (K := K) (dn_lcR (z := 64) (fun _ => true) (fun (k : Nat) => PyData.int ((madeGet m (k : Int)).getD 0)) (woD wo) (fun _ _ _ => va_cons v_c va_nil) (by decide) (fun _ => rfl) (fun _ _ _ _ _ _ => ans_yes) (fun i H4 F1 W1 tn hi _ => dv_i fun H5 m5 o5 => fun Q q => ?_)) o3' .refl (fun D2 H4 ow m4 => ?_)
    · have hM5 : H5 M = some (.dK (madeK m)) := (tn.w H5 o5.w).2
      refine (v_var rfl) _ ⟨M, rfl, .inl ⟨_, .inl hM5⟩, (v_var rfl) _ (v_c _ ⟨_, DGet.k (k := Sum.inl (i : Int)) hM5, ?_⟩)⟩
      rw [valV_made]
      cases z : madeGet m (i : Int) with
      | none => rw [z] at q; exact q
      | some w => rw [z] at q; exact q
    · have ow := ow.re (cellsOf_eq m)
      have hM4 := ow.ok.w.2
      refine k D2 H4 (o3.free m13 ow.fr) (m13.trans ⟨fun b o n e => ?_, fun b f => .inl f⟩) ⟨fun b f => ow.ok.fa b (.inl f), ow.ok.w.1⟩ ?_
      · by_cases eb : b = M
        · rw [eb, hMm] at e; rw [eb, hM4]; exact e
        · exact ow.mv.keep b o (fun f => f.elim n eb) e
      · obtain ⟨vs, h1, h2⟩ := ow.ow
        have e := h2.ints
        subst e
        exact ⟨_, h1, daAll_ints _⟩
end
/-! ### rooms by turns -/
section
variable {n r u v s : Nat} {h h' : Ho} {e : Ev} {a : Act} {x : List Ev}
/-- rooms are filled by turns -/
structure Rm (n r : Nat) (s : Nat) (h : Ho) : Prop where
  sw : h.swaps = (s : Int)
  tn : h.turn = s % r
  oc : ∀ i, i < r → (h.guests[i]? = some none ↔ s ≤ i)
  ri : ∀ u, h.runs = some u → roomH h u ≠ none
  fu : r < n ∨ s ≤ n
/-- what rooms are -/
structure RmSame (h h' : Ho) : Prop where
  g : h'.guests = h.guests
  t : h'.turn = h.turn
  s : h'.swaps = h.swaps
theorem RmSame.refl {h : Ho} : RmSame h h := ⟨rfl, rfl, rfl⟩
theorem RmSame.trans {h1 h2 h3 : Ho} (a : RmSame h1 h2) (b : RmSame h2 h3) : RmSame h1 h3 := ⟨b.g.trans a.g, b.t.trans a.t, b.s.trans a.s⟩
def RunsLess (h h' : Ho) : Prop := ∀ u, h'.runs = some u → h.runs = some u
theorem Rm.same (m : Rm n r s h) (e : RmSame h h') (rl : RunsLess h h') : Rm n r s h' := ⟨by rw [e.s]; exact m.sw, by rw [e.t]; exact m.tn, by rw [e.g]; exact m.oc, fun u hu => by unfold roomH; rw [e.g]; exact m.ri u (rl u hu), m.fu⟩
theorem rms_event : RmSame h (eventT h u e) := ⟨event_same.guests, event_same.turn, event_same.swaps⟩
theorem rl_event : RunsLess h (eventT h u e) := fun v hv => by
  rw [event_runs] at hv
  split at hv
  · cases hv
  · exact hv
theorem rms_tickN : ∀ k, RmSame h (tickN h k) ∧ RunsLess h (tickN h k)
  | 0 => ⟨⟨rfl, rfl, rfl⟩, fun _ h => h⟩
  | k + 1 => ⟨(rms_tickN k).1.trans rms_event, fun u hu => (rms_tickN k).2 u (rl_event u hu)⟩
theorem rms_turn : RmSame h (turnT h) ∧ RunsLess h (turnT h) := by
  rcases runs_or h with hr | ⟨u, hr⟩
  · rw [turn_none hr]; exact ⟨.refl, fun _ h => h⟩
  · rw [turn_some hr]; split
    · exact ⟨⟨rfl, rfl, rfl⟩, fun _ z => by cases z⟩
    · exact ⟨⟨rfl, rfl, rfl⟩, fun _ z => z⟩
theorem rms_tick : RmSame h (tickT h) ∧ RunsLess h (tickT h) :=
  ⟨(rms_tickN _).1.trans rms_turn.1, fun u hu => (rms_tickN _).2 u (rms_turn.2 u hu)⟩
theorem rms_step1 : RmSame h (step1 h) ∧ RunsLess h (step1 h) := by
  rcases runs_or h with hr | ⟨u, hr⟩
  · rw [step1_none hr]; exact ⟨⟨rfl, rfl, rfl⟩, fun _ z => z⟩
  · rw [step1_some hr]
    have a := rms_event (h := { h with steps := h.steps + 1 }) (u := u) (e := .step)
    have b := rl_event (h := { h with steps := h.steps + 1 }) (u := u) (e := .step)
    exact ⟨⟨a.g, a.t, a.s⟩, fun v hv => b v hv⟩
theorem rms_step2 : RmSame h (step2 h) ∧ RunsLess h (step2 h) := by
  unfold step2
  split
  · exact ⟨rms_step1.1.trans rms_tick.1, fun u hu => rms_step1.2 u (rms_tick.2 u hu)⟩
  · exact rms_step1
/-- who comes into a room -/
theorem come_self (hr : roomN h.guests u = none) (ht : h.turn < h.guests.length) : roomN (h.guests.set h.turn (some u)) u = some h.turn :=
  roomN_first (List.getElem?_set_self ht) fun j hj => by rw [List.getElem?_set_ne (by omega)]; exact roomN_none hr j
theorem come_other (w : WfH n r h) (hn : u ≠ v) : roomN (h.guests.set h.turn (some u)) v = if roomN h.guests v = some h.turn then none else roomN h.guests v := by
  have ht : h.turn < h.guests.length := by rw [w.lg]; exact w.tn
  have out : (h.guests.set h.turn (some u))[h.turn]? = some (some u) := List.getElem?_set_self ht
  split
  · rename_i c
    refine roomN_no fun j hj => ?_
    by_cases cj : h.turn = j
    · subst cj; rw [out] at hj; cases hj; exact hn rfl
    · rw [List.getElem?_set_ne cj] at hj
      exact cj (w.gi _ _ v (roomN_some c) hj)
  · rename_i c
    cases hv : roomN h.guests v with
    | none =>
      refine roomN_no fun j hj => ?_
      by_cases cj : h.turn = j
      · subst cj; rw [out] at hj; cases hj; exact hn rfl
      · rw [List.getElem?_set_ne cj] at hj; exact roomN_none hv j hj
    | some i =>
      rw [hv] at c
      have ci : h.turn ≠ i := fun e => c (by rw [e])
      refine roomN_first (by rw [List.getElem?_set_ne ci]; exact roomN_some hv) fun j hj z => ?_
      by_cases cj : h.turn = j
      · subst cj; rw [out] at z; cases z; exact hn rfl
      · rw [List.getElem?_set_ne cj] at z
        have := w.gi _ _ v (roomN_some hv) z
        omega
/-- two nodup lists: the one within the other is shorter -/
theorem nd_sub {α : Type} [DecidableEq α] : ∀ {a b : List α}, a.Nodup → (∀ x ∈ a, x ∈ b) → a.length ≤ b.length
  | [], _, _, _ => Nat.zero_le _
  | x :: a, b, nd, hs => by
    obtain ⟨h1, h2⟩ := List.nodup_cons.mp nd
    have hx := hs x List.mem_cons_self
    have := nd_sub (b := b.erase x) h2 fun y hy => (List.mem_erase_of_ne (fun e => h1 (by rw [← e]; exact hy))).mpr (hs y (List.mem_cons_of_mem _ hy))
    rw [List.length_erase_of_mem hx] at this
    have := List.length_pos_of_mem hx
    simp only [List.length_cons]
    omega
theorem nd_fm {α β : Type} {f : α → Option β} (inj : ∀ a b y, f a = some y → f b = some y → a = b) : ∀ {l : List α}, l.Nodup → (l.filterMap f).Nodup
  | [], _ => List.nodup_nil
  | a :: l, nd => by
    obtain ⟨h1, h2⟩ := List.nodup_cons.mp nd
    have ih := nd_fm inj h2
    cases e : f a with
    | none => rw [List.filterMap_cons_none e]; exact ih
    | some y =>
      rw [List.filterMap_cons_some e]
      refine List.nodup_cons.mpr ⟨fun hm => ?_, ih⟩
      obtain ⟨b, hb, hy⟩ := List.mem_filterMap.mp hm
      exact h1 (by rw [inj a b y e hy]; exact hb)
/-- who is inside -/
def inside (n : Nat) (h : Ho) : List Nat := (List.range n).filterMap (roomH h)
theorem in_nd (w : WfH n r h) : (inside n h).Nodup := nd_fm (fun a b y h1 h2 => by
  have e1 := roomN_some h1
  have e2 := roomN_some h2
  rw [e1] at e2; cases e2; rfl) List.nodup_range
theorem in_lt (w : WfH n r h) : ∀ i ∈ inside n h, i < r := fun i hi => by
  obtain ⟨u, _, hu⟩ := List.mem_filterMap.mp hi
  exact room_lt w hu
theorem in_len (w : WfH n r h) (m : Rm n r s h) : (inside n h).length = min s r := by
  refine Nat.le_antisymm ?_ ?_
  · have := nd_sub (b := List.range (min s r)) (in_nd w) fun i hi => List.mem_range.mpr (by
      have hl := in_lt w i hi
      obtain ⟨u, _, hu⟩ := List.mem_filterMap.mp hi
      have e := roomN_some hu
      have : ¬ s ≤ i := fun z => by rw [(m.oc i hl).mpr z] at e; cases e
      omega)
    rw [List.length_range] at this; exact this
  · have := nd_sub (a := List.range (min s r)) (b := inside n h) List.nodup_range fun i hi => by
      have hi := List.mem_range.mp hi
      have hl : i < h.guests.length := by rw [w.lg]; omega
      cases e : h.guests[i]? with
      | none => rw [List.getElem?_eq_none_iff] at e; omega
      | some g => cases g with
        | none => have := (m.oc i (by omega)).mp e; omega
        | some u => exact List.mem_filterMap.mpr ⟨u, List.mem_range.mpr (w.gu i u e), roomN_first e fun j hj z => by have := w.gi _ _ u e z; omega⟩
    rw [List.length_range] at this; exact this
theorem fm_lt {α β : Type} {f : α → Option β} {x : α} : ∀ {l : List α}, x ∈ l → f x = none → (l.filterMap f).length < l.length
  | a :: l, hx, hf => by
    have hl := List.length_filterMap_le f l
    rcases List.mem_cons.mp hx with h | h
    · rw [← h, List.filterMap_cons_none hf]; simp only [List.length_cons]; omega
    · have ih := fm_lt h hf
      cases e : f a with
      | none => rw [List.filterMap_cons_none e]; simp only [List.length_cons]; omega
      | some y => rw [List.filterMap_cons_some e]; simp only [List.length_cons]; omega
/-- who has no room leaves room for it -/
theorem room_left (w : WfH n r h) (m : Rm n r s h) (hu : u < n) (hr : roomH h u = none) : r < n ∨ s < n := by
  by_cases c : r < n
  · exact .inl c
  rcases m.fu with h1 | h1
  · exact .inl h1
  · refine .inr (Nat.lt_of_le_of_ne h1 fun e => ?_)
    have h2 := in_len w m
    have h3 := fm_lt (f := roomH h) (List.mem_range.mpr hu) hr
    rw [List.length_range] at h3
    unfold inside at h2
    omega
theorem rm_new {q b : Int} (hr : 0 < r) : Rm n r 0 (newH n r q b) := ⟨rfl, (Nat.zero_mod r).symm, fun i hi => ⟨fun _ => Nat.zero_le _, fun _ => by
  show (List.replicate r (none : Option Nat))[i]? = _
  rw [List.getElem?_replicate, if_pos hi]⟩, fun u z => (by cases z), .inr (Nat.zero_le _)⟩
theorem rm_enter (w : WfH n r h) (m : Rm n r s h) (hu : u < n) (hr : roomH h u = none) (hrun : ∀ v, h.runs = some v → v = u) : Rm n r (s + 1) (enterT h u) := by
  have hg : 0 < r := w.r0
  have ht : h.turn < h.guests.length := by rw [w.lg]; exact w.tn
  rw [enter_none hr]
  refine ⟨by show h.swaps + 1 = _; rw [m.sw]; omega, by show (h.turn + 1) % h.guests.length = _; rw [w.lg, m.tn, Nat.mod_add_mod], fun i hi => ?_, fun v hv => ?_, ?_⟩
  · show (h.guests.set h.turn (some u))[i]? = some none ↔ s + 1 ≤ i
    have ho := m.oc i hi
    by_cases c : h.turn = i
    · subst c
      rw [List.getElem?_set_self ht]
      refine ⟨fun z => (by cases z), fun z => ?_⟩
      have := m.tn
      rw [Nat.mod_eq_of_lt (by omega)] at this
      omega
    · rw [List.getElem?_set_ne c, ho]
      refine ⟨fun z => ?_, fun z => by omega⟩
      have := m.tn
      rw [Nat.mod_eq_of_lt (by omega)] at this
      omega
  · have e : v = u := hrun v hv
    subst e
    show roomN (h.guests.set h.turn (some v)) v ≠ none
    rw [come_self hr ht]; exact fun z => by cases z
  · rcases room_left w m hu hr with h1 | h1
    · exact .inl h1
    · exact .inr h1
/-- one settling: nobody comes, or one -/
inductive Come (h h' : Ho) : Prop where
  | no (g : h'.guests = h.guests) (s : h'.swaps = h.swaps) : Come h h'
  | one (u : Nat) (ru : h'.runs = some u) (no : roomH h u = none) (g : h'.guests = h.guests.set h.turn (some u)) (s : h'.swaps = h.swaps + 1) : Come h h'
theorem settle_one {u : Nat} {r : List Nat} (hr : h.runs = none) (hw : h.row = u :: r) : settleT h = enterT { h with runs := some u, row := r, left := h.quantum } u := by
  unfold settleT; rw [hr]; dsimp only; rw [hw]
theorem settle_run {u : Nat} (hr : h.runs = some u) : settleT h = h := by unfold settleT; rw [hr]
theorem settle_nil (hr : h.runs = none) (hw : h.row = []) : settleT h = h := by unfold settleT; rw [hr]; dsimp only; rw [hw]
theorem come_settle : Come h (settleT h) := by
  rcases runs_or h with hr | ⟨u, hr⟩
  · cases hw : h.row with
    | nil => rw [settle_nil hr hw]; exact .no rfl rfl
    | cons u row =>
      rw [settle_one hr hw]
      cases hi : roomH h u with
      | some i => rw [enter_some (h := { h with runs := some u, row := row, left := h.quantum }) (i := i) hi]; exact .no rfl rfl
      | none => rw [enter_none (h := { h with runs := some u, row := row, left := h.quantum }) hi]; exact .one u rfl hi rfl rfl
  · rw [settle_run hr]; exact .no rfl rfl
theorem come_step : Come h (stepT h) := by
  have e := (rms_step2 (h := h)).1
  unfold stepT
  cases come_settle (h := step2 h) with
  | no g s => exact .no (g.trans e.g) (s.trans e.s)
  | one u ru no g s => exact .one u ru (by unfold roomH at no ⊢; rw [← e.g]; exact no) (by rw [g, e.g, e.t]) (by rw [s, e.s])
theorem rm_settle (w : WfH n r h) (m : Rm n r s h) : ∃ s', Rm n r s' (settleT h) := by
  rcases runs_or h with hr | ⟨u, hr⟩
  · cases hw : h.row with
    | nil => rw [settle_nil hr hw]; exact ⟨s, m⟩
    | cons u row =>
      rw [settle_one hr hw]
      have hu : u < n := w.rb u (by rw [hw]; exact List.mem_cons_self)
      cases hi : roomH h u with
      | some i =>
        rw [enter_some (h := { h with runs := some u, row := row, left := h.quantum }) (i := i) hi]
        exact ⟨s, m.sw, m.tn, m.oc, fun v hv => (by cases hv; show roomH h u ≠ none; rw [hi]; exact fun z => by cases z), m.fu⟩
      | none =>
        have hg : 0 < r := w.r0
        have ht : h.turn < h.guests.length := by rw [w.lg]; exact w.tn
        refine ⟨s + 1, ?_⟩
        have m1 : Rm n r s { h with runs := none } := ⟨m.sw, m.tn, m.oc, fun v z => (by cases z), m.fu⟩
        have w0 := w
        have e := rm_enter (h := h) (u := u) w m hu hi (fun v hv => by rw [hr] at hv; cases hv)
        rw [enter_none hi] at e
        rw [enter_none (h := { h with runs := some u, row := row, left := h.quantum }) hi]
        refine ⟨e.sw, e.tn, e.oc, fun v hv => ?_, e.fu⟩
        cases hv
        show roomN (h.guests.set h.turn (some u)) u ≠ none
        rw [come_self hi ht]; exact fun z => by cases z
  · rw [settle_run hr]; exact ⟨s, m⟩
theorem rm_step (w : WfH n r h) (m : Rm n r s h) : ∃ s', Rm n r s' (stepT h) := by
  have e := rms_step2 (h := h)
  have w2 : WfH n r (step2 h) := by
    unfold step2
    split
    · exact wf_tick (wf_step1 w)
    · exact wf_step1 w
  exact rm_settle w2 (m.same e.1 e.2)
def RmE (n r : Nat) (h : Ho) : Prop := ∃ s, Rm n r s h
theorem rm_runN (w : WfH n r h) (m : RmE n r h) : ∀ k, RmE n r (runT h k)
  | 0 => m
  | k + 1 => by
    obtain ⟨s, ms⟩ := rm_runN w m k
    exact rm_step (wf_runT w k) ms
theorem rm_do (w : WfH n r h) (m : RmE n r h) (o : actOk n a) : RmE n r (doT h a) := by
  obtain ⟨ak, au, av⟩ := a
  obtain ⟨hu, hv⟩ := o
  obtain ⟨s, ms⟩ := m
  cases ak
  · exact rm_settle (wf_event w hu hv (fun z => by cases z)) (ms.same rms_event rl_event)
  · exact rm_settle (wf_event w hu hv (fun z => by cases z)) (ms.same rms_event rl_event)
  · exact ⟨s, ms.same ⟨rfl, rfl, rfl⟩ (fun _ z => z)⟩
  · exact ⟨s, ms.same ⟨rfl, rfl, rfl⟩ (fun _ z => z)⟩
  · exact rm_runN w ⟨s, ms⟩ _
theorem rm_madeN {ns : List Int} (m : RmE n r h) : ∀ i, RmE n r (madeN ns h i)
  | 0 => m
  | i + 1 => by
    obtain ⟨s, ms⟩ := rm_madeN (ns := ns) m i
    exact ⟨s, ms.same ⟨rfl, rfl, rfl⟩ (fun _ z => z)⟩
theorem rm_doN {as : List Act} (w : WfH n r h) (m : RmE n r h) (o : ∀ a ∈ as, actOk n a) : ∀ i, RmE n r (doN h as i)
  | 0 => m
  | i + 1 => by
    show RmE n r (match as[i]? with | some a => doT (doN h as i) a | none => doN h as i)
    cases e : as[i]? with
    | none => exact rm_doN w m o i
    | some a => exact rm_do (wf_doN w o i) (rm_doN w m o i) (o a (List.mem_of_getElem? e))
/-- who came -/
def cameP (h h' : Ho) (u : Nat) : Bool := decide (roomH h' u ≠ none) && decide (roomH h' u ≠ roomH h u)
theorem came_no (g : h'.guests = h.guests) : ∀ u, roomH h' u = roomH h u := fun u => by unfold roomH; rw [g]
theorem filter_nil {α : Type} {p : α → Bool} {l : List α} (h : ∀ x ∈ l, p x = false) : l.filter p = [] := List.filter_eq_nil_iff.mpr fun x hx => by rw [h x hx]; exact Bool.false_ne_true
theorem filter_one {p : Nat → Bool} {u : Nat} : ∀ {l : List Nat}, l.Nodup → u ∈ l → (∀ x ∈ l, p x = decide (x = u)) → l.filter p = [u]
  | a :: l, nd, hm, hp => by
    obtain ⟨n1, n2⟩ := List.nodup_cons.mp nd
    by_cases c : a = u
    · subst c
      rw [List.filter_cons_of_pos (by rw [hp a List.mem_cons_self]; simp), filter_nil fun x hx => by
        rw [hp x (List.mem_cons_of_mem _ hx)]; exact decide_eq_false fun e => n1 (e ▸ hx)]
    · rw [List.filter_cons_of_neg (by rw [hp a List.mem_cons_self]; simp [c])]
      exact filter_one n2 ((List.mem_cons.mp hm).resolve_left (fun e => c e.symm)) fun x hx => hp x (List.mem_cons_of_mem _ hx)
theorem came_0 (g : h'.guests = h.guests) : (List.range n).filter (cameP h h') = [] := filter_nil fun u _ => by
  unfold cameP; rw [came_no g u]; simp
theorem room_came (w : WfH n r h) (no : roomH h u = none) (g : h'.guests = h.guests.set h.turn (some u)) : roomH h' u = some h.turn := by
  unfold roomH; rw [g]; exact come_self no (by rw [w.lg]; exact w.tn)
theorem room_gone (w : WfH n r h) (g : h'.guests = h.guests.set h.turn (some u)) (hv : u ≠ v) : roomH h' v = if roomH h v = some h.turn then none else roomH h v := by
  unfold roomH; rw [g]; exact come_other w hv
theorem came_1 (w : WfH n r h) (hu : u < n) (no : roomH h u = none) (g : h'.guests = h.guests.set h.turn (some u)) : (List.range n).filter (cameP h h') = [u] :=
  filter_one List.nodup_range (List.mem_range.mpr hu) fun v _ => by
    unfold cameP
    by_cases c : u = v
    · subst c; rw [room_came w no g, no]; simp
    · rw [room_gone w g c]
      have : decide (v = u) = false := decide_eq_false (fun e => c e.symm)
      rw [this]
      split <;> simp
end
/-! ### counts and diaries -/
section
variable {n r u v : Nat} {h h' : Ho} {e : Ev} {a : Act} {x : List Ev} {c : Int}
def isAsk : Ev → Bool
  | .start _ => true
  | .key _ => true
  | _ => false
def isStep : Ev → Bool
  | .step => true
  | _ => false
def isTick : Ev → Bool
  | .tick => true
  | _ => false
def dn (h : Ho) (u : Nat) : Int := (pu h u).done
theorem dy_event (hd : u < h.diaries.length) : dy (eventT h u e) v = if v = u then dy h v ++ [e] else dy h v := by
  unfold dy
  rw [event_dia]
  split
  · rename_i c; subst c; exact getD_set_self hd
  · rename_i c; exact getD_set_ne (fun e => c e.symm)
theorem dn_happen {P : Pn} : (happenP P e).done = P.done + if isStep e = true ∧ P.st = "ready" then 1 else 0 := by
  have wk : ∀ (P : Pn) s, (wakeP P s).done = P.done := fun P s => by unfold wakeP; split <;> rfl
  cases e with
  | key l =>
    rw [if_neg (fun z => by cases z.1)]
    show (wakeP (if _ then _ else _) _).done = _
    rw [wk]; split <;> simp
  | tick =>
    rw [if_neg (fun z => by cases z.1)]
    show (tick2P (tick1P P)).done = _
    have h1 : (tick1P P).done = P.done := by
      unfold tick1P; split
      · rfl
      · rw [wk]
    have h2 : ∀ P : Pn, (tick2P P).done = P.done := fun P => by unfold tick2P; split <;> (try split) <;> rfl
    rw [h2, h1]; omega
  | start p =>
    rw [if_neg (fun z => by cases z.1)]
    show (if P.st = "stopped" then _ else P : Pn).done = _
    split <;> simp
  | step =>
    show (if P.st = "ready" then stepP P else P : Pn).done = _
    by_cases c : P.st = "ready"
    · rw [if_pos c, if_pos ⟨rfl, c⟩]
      have hk : ∀ (P : Pn) f, (carryP P f).done = P.done := fun P f => by unfold carryP; dsimp only; split <;> (try split) <;> rfl
      have ha : ∀ (P : Pn) p, (askP P p).done = P.done := fun P p => by
        unfold askP
        split
        · rfl
        split
        · unfold hearP; split <;> rfl
        split
        · unfold sayP; split <;> rfl
        split
        · unfold dozeP; split <;> rfl
        split
        · exact hk _ _
        split
        · exact hk _ _
        split
        · rfl
        split <;> rfl
      unfold stepP
      dsimp only
      split
      · rw [ha]
      · rfl
    · rw [if_neg c, if_neg (fun z => c z.2)]; omega
theorem dn_event (hu : u < h.ps.length) : dn (eventT h u e) v = dn h v + if v = u ∧ isStep e = true ∧ rdy h u then 1 else 0 := by
  unfold dn
  by_cases c : v = u
  · subst c
    rw [event_u hu, dn_happen]
    unfold rdy
    simp only [true_and]
  · rw [event_v (fun e => c e.symm), if_neg (fun z => c z.1)]; omega
theorem dy_enter : dy (enterT h u) v = dy h v := by unfold dy; rw [enter_same.diaries]
theorem dn_enter : dn (enterT h u) v = dn h v := by unfold dn pu; rw [enter_same.ps]
/-- what counting sees of a house -/
structure CtSame (h h' : Ho) : Prop where
  ps : h'.ps = h.ps
  ds : h'.diaries = h.diaries
  s : h'.steps = h.steps
  i : h'.idle = h.idle
  t : h'.ticks = h.ticks
  b : h'.beat = h.beat
theorem cts_settle : CtSame h (settleT h) := by
  rcases runs_or h with hr | ⟨u, hr⟩
  · cases hw : h.row with
    | nil => rw [settle_nil hr hw]; exact ⟨rfl, rfl, rfl, rfl, rfl, rfl⟩
    | cons u row =>
      rw [settle_one hr hw]
      have e := enter_same (h := { h with runs := some u, row := row, left := h.quantum }) (u := u)
      exact ⟨e.ps, e.diaries, e.steps, e.idle, e.ticks, e.beat⟩
  · rw [settle_run hr]; exact ⟨rfl, rfl, rfl, rfl, rfl, rfl⟩
theorem cts_turn : CtSame h (turnT h) := by
  rcases runs_or h with hr | ⟨u, hr⟩
  · rw [turn_none hr]; exact ⟨rfl, rfl, rfl, rfl, rfl, rfl⟩
  · rw [turn_some hr]; split <;> exact ⟨rfl, rfl, rfl, rfl, rfl, rfl⟩
theorem CtSame.trans {h1 h2 h3 : Ho} (a : CtSame h1 h2) (b : CtSame h2 h3) : CtSame h1 h3 := ⟨b.ps.trans a.ps, b.ds.trans a.ds, b.s.trans a.s, b.i.trans a.i, b.t.trans a.t, b.b.trans a.b⟩
theorem CtSame.dy (a : CtSame h h') : dy h' u = Ch.dy h u := by unfold Ch.dy; rw [a.ds]
theorem CtSame.dn (a : CtSame h h') : dn h' u = Ch.dn h u := by unfold Ch.dn pu; rw [a.ps]
theorem tickN_ct (hd : h.diaries.length = h.ps.length) : ∀ k, k ≤ h.ps.length → (∀ v, dy (tickN h k) v = if v < k then dy h v ++ [.tick] else dy h v) ∧ (∀ v, dn (tickN h k) v = dn h v) ∧ (tickN h k).steps = h.steps ∧ (tickN h k).idle = h.idle ∧ (tickN h k).ticks = h.ticks + 1 ∧ (tickN h k).beat = h.beat ∧ (tickN h k).ps.length = h.ps.length ∧ (tickN h k).diaries.length = h.ps.length
  | 0, _ => ⟨fun v => by rw [if_neg (Nat.not_lt_zero v)]; rfl, fun v => rfl, rfl, rfl, rfl, rfl, rfl, hd⟩
  | k + 1, hk => by
    obtain ⟨i1, i2, i3, i4, i5, i6, i7, i8⟩ := tickN_ct hd k (by omega)
    have s := event_same (h := tickN h k) (u := k) (e := .tick)
    refine ⟨fun v => ?_, fun v => ?_, s.steps.trans i3, s.idle.trans i4, s.ticks.trans i5, s.beat.trans i6, s.len.trans i7, ?_⟩
    · show dy (eventT (tickN h k) k .tick) v = _
      rw [dy_event (by omega), i1 v]
      by_cases c : v = k
      · rw [if_pos c, if_neg (by omega), if_pos (by omega)]
      · rw [if_neg c]
        by_cases d : v < k
        · rw [if_pos d, if_pos (by omega)]
        · rw [if_neg d, if_neg (by omega)]
    · show dn (eventT (tickN h k) k .tick) v = _
      rw [dn_event (by omega), i2 v, if_neg (fun z => by cases z.2.1)]; omega
    · show (eventT (tickN h k) k .tick).diaries.length = _
      rw [event_dia, List.length_set]; exact i8
/-- one step counted -/
structure StepC (h h' : Ho) (n : Nat) : Prop where
  s : h'.steps = h.steps + 1
  b : h'.beat = h.beat
  i : h'.idle = h.idle + if h.runs = none then 1 else 0
  t : h'.ticks = h.ticks + if (h.steps + 1) % h.beat = 0 then 1 else 0
  nn : ∀ u, dn h' u = dn h u + if h.runs = some u then 1 else 0
  yy : ∀ u, u < n → dy h' u = dy h u ++ ((if h.runs = some u then [.step] else []) ++ if (h.steps + 1) % h.beat = 0 then [.tick] else [])
theorem step1_ct (w : WfH n r h) : (step1 h).steps = h.steps + 1 ∧ (step1 h).beat = h.beat ∧ (step1 h).idle = h.idle + (if h.runs = none then 1 else 0) ∧ (step1 h).ticks = h.ticks ∧ (∀ u, dn (step1 h) u = dn h u + if h.runs = some u then 1 else 0) ∧ ∀ u, dy (step1 h) u = dy h u ++ if h.runs = some u then [.step] else [] := by
  rcases runs_or h with hr | ⟨u, hr⟩
  · have no : ∀ v, ¬ h.runs = some v := fun v z => by rw [hr] at z; cases z
    rw [step1_none hr]
    refine ⟨rfl, rfl, by rw [if_pos hr], rfl, fun u => ?_, fun u => ?_⟩
    · rw [if_neg (no u)]; show dn h u = _; omega
    · rw [if_neg (no u), List.append_nil]; rfl
  · have hu := w.ru u hr
    have s := event_same (h := { h with steps := h.steps + 1 }) (u := u) (e := .step)
    have iff : ∀ v, h.runs = some v ↔ v = u := fun v => by rw [hr]; exact ⟨fun z => (Option.some.inj z).symm, fun z => by rw [z]⟩
    rw [step1_some hr]
    refine ⟨s.steps, s.beat, by rw [if_neg (by rw [hr]; exact fun z => by cases z), s.idle]; show h.idle = _; omega, s.ticks, fun v => ?_, fun v => ?_⟩
    · rw [dn_event (by show u < h.ps.length; rw [w.lp]; exact hu)]
      have rd : rdy { h with steps := h.steps + 1 } u := w.rn u hr
      show dn h v + _ = _
      by_cases c : v = u
      · rw [if_pos ⟨c, rfl, rd⟩, if_pos ((iff v).mpr c)]
      · rw [if_neg (fun z => c z.1), if_neg (fun z => c ((iff v).mp z))]
    · rw [dy_event (by show u < h.diaries.length; rw [w.ld]; exact hu)]
      show (if v = u then dy h v ++ [.step] else dy h v) = _
      by_cases c : v = u
      · rw [if_pos c, if_pos ((iff v).mpr c)]
      · rw [if_neg c, if_neg (fun z => c ((iff v).mp z)), List.append_nil]
theorem step_ct (w : WfH n r h) : StepC h (stepT h) n := by
  obtain ⟨s1, s2, s3, s4, s5, s6⟩ := step1_ct w
  have w1 := wf_step1 w
  unfold stepT step2
  have e := cts_settle (h := if (h.steps + 1) % h.beat = 0 then tickT (step1 h) else step1 h)
  by_cases c : (h.steps + 1) % h.beat = 0
  · rw [if_pos c] at e ⊢
    have hd : (step1 h).diaries.length = (step1 h).ps.length := by rw [w1.ld, w1.lp]
    obtain ⟨i1, i2, i3, i4, i5, i6, _, _⟩ := tickN_ct hd (step1 h).ps.length (Nat.le_refl _)
    have t := cts_turn (h := tickN (step1 h) (step1 h).ps.length)
    have t' := t.trans e
    exact ⟨t'.s.trans (i3.trans s1), t'.b.trans (i6.trans s2), t'.i.trans (i4.trans s3), by rw [if_pos c]; exact t'.t.trans (i5.trans (by rw [s4])), fun u => t'.dn.trans ((i2 u).trans (s5 u)), fun u hu => t'.dy.trans ((i1 u).trans (by rw [if_pos (by rw [w1.lp]; exact hu), s6 u, if_pos c, List.append_assoc]))⟩
  · rw [if_neg c] at e ⊢
    exact ⟨e.s.trans s1, e.b.trans s2, e.i.trans s3, by rw [if_neg c]; exact e.t.trans (by rw [s4]; omega), fun u => e.dn.trans (s5 u), fun u _ => e.dy.trans (by rw [s6 u, if_neg c, List.append_nil])⟩
theorem div_next {c b : Int} (hb : 1 ≤ b) : (c + 1) / b = c / b + if (c + 1) % b = 0 then 1 else 0 := by
  have h1 := Int.emod_add_mul_ediv c b
  have h2 := Int.emod_nonneg c (show b ≠ 0 by omega)
  have h3 := Int.emod_lt_of_pos c (show 0 < b by omega)
  have e : c + 1 = (c % b + 1) + b * (c / b) := by omega
  have e1 : (c + 1) / b = (c % b + 1) / b + c / b := by rw [e, Int.add_mul_ediv_left _ _ (by omega)]
  have e2 : (c + 1) % b = (c % b + 1) % b := by rw [e, Int.add_mul_emod_self_left]
  rw [e1, e2]
  by_cases q : c % b + 1 = b
  · rw [q, Int.ediv_self (by omega), Int.emod_self, if_pos rfl]; omega
  · rw [Int.ediv_eq_zero_of_lt (by omega) (by omega), Int.emod_eq_of_lt (by omega) (by omega), if_neg (by omega)]; omega
def tot (n : Nat) (f : Nat → Int) : Int := ((List.range n).map f).sum
theorem tot_s (n : Nat) (f : Nat → Int) : tot (n + 1) f = tot n f + f n := by
  unfold tot
  rw [List.range_succ, List.map_append, List.sum_append]
  simp
theorem tot_eq {f g : Nat → Int} : ∀ n, (∀ v, v < n → g v = f v) → tot n g = tot n f
  | 0, _ => rfl
  | n + 1, h => by rw [tot_s, tot_s, tot_eq n (fun v hv => h v (by omega)), h n (by omega)]
theorem tot_one {f g : Nat → Int} {u : Nat} : ∀ n, (∀ v, g v = f v + if u = v then 1 else 0) → tot n g = tot n f + if u < n then 1 else 0
  | 0, _ => by rw [if_neg (Nat.not_lt_zero _)]; rfl
  | n + 1, h => by
    rw [tot_s, tot_s, tot_one n h, h n]
    by_cases c : u = n
    · rw [if_pos c, if_neg (by omega), if_pos (by omega)]; omega
    · rw [if_neg c]
      by_cases d : u < n
      · rw [if_pos d, if_pos (by omega)]; omega
      · rw [if_neg d, if_neg (by omega)]; omega
theorem tot_0 : ∀ n, tot n (fun _ => 0) = 0
  | 0 => rfl
  | n + 1 => by rw [tot_s, tot_0 n]; rfl
/-- the books of a house -/
structure Bk (n : Nat) (f : Nat → List Ev) (c : Int) (h : Ho) : Prop where
  st : h.steps = c
  tk : h.ticks = c / h.beat
  ak : ∀ u, u < n → (dy h u).filter isAsk = f u
  sp : ∀ u, u < n → (((dy h u).filter isStep).length : Int) = dn h u
  tt : ∀ u, u < n → (((dy h u).filter isTick).length : Int) = h.ticks
  id : h.idle + tot n (dn h) = h.steps
theorem Bk.same {f : Nat → List Ev} (b : Bk n f c h) (e : CtSame h h') : Bk n f c h' := ⟨by rw [e.s]; exact b.st, by rw [e.t, e.b]; exact b.tk, fun u hu => by rw [e.dy]; exact b.ak u hu, fun u hu => by rw [e.dy, e.dn]; exact b.sp u hu, fun u hu => by rw [e.dy, e.t]; exact b.tt u hu, by
  rw [e.i, e.s, show tot n (dn h') = tot n (dn h) from tot_eq n fun v _ => e.dn]; exact b.id⟩
theorem Bk.look {f : Nat → List Ev} (b : Bk n f c h) (ep : ∀ u, dn h' u = dn h u) (ey : ∀ u, dy h' u = dy h u) (e1 : h'.steps = h.steps) (e2 : h'.idle = h.idle) (e3 : h'.ticks = h.ticks) (e4 : h'.beat = h.beat) : Bk n f c h' := ⟨by rw [e1]; exact b.st, by rw [e3, e4]; exact b.tk, fun u hu => by rw [ey]; exact b.ak u hu, fun u hu => by rw [ey, ep]; exact b.sp u hu, fun u hu => by rw [ey, e3]; exact b.tt u hu, by
  rw [e2, e1, show tot n (dn h') = tot n (dn h) from tot_eq n fun v _ => ep v]; exact b.id⟩
theorem bk_step {f : Nat → List Ev} (w : WfH n r h) (b : Bk n f c h) : Bk n f (c + 1) (stepT h) := by
  have s := step_ct w
  refine ⟨by rw [s.s, b.st], ?_, fun u hu => ?_, fun u hu => ?_, fun u hu => ?_, ?_⟩
  · rw [s.t, s.b, b.tk, b.st, div_next w.b0]
  · rw [s.yy u hu, List.filter_append, b.ak u hu]
    have : List.filter isAsk ((if h.runs = some u then [Ev.step] else []) ++ if (h.steps + 1) % h.beat = 0 then [Ev.tick] else []) = [] := by split <;> split <;> rfl
    rw [this, List.append_nil]
  · rw [s.yy u hu, List.filter_append, List.length_append, s.nn u, Int.natCast_add, b.sp u hu]
    congr 1
    split <;> split <;> rfl
  · rw [s.yy u hu, List.filter_append, List.length_append, s.t, Int.natCast_add, b.tt u hu]
    congr 1
    split <;> split <;> rfl
  · rw [s.i, s.s]
    rcases runs_or h with hr | ⟨u, hr⟩
    · have te : tot n (dn (stepT h)) = tot n (dn h) := tot_eq n (fun v _ => by rw [s.nn v, hr, if_neg (fun z => by cases z)]; exact Int.add_zero _)
      rw [if_pos hr, te]
      have := b.id
      omega
    · have te : tot n (dn (stepT h)) = tot n (dn h) + if u < n then 1 else 0 := tot_one n (fun v => by rw [s.nn v, hr]; simp only [Option.some.injEq])
      rw [if_neg (by rw [hr]; exact fun z => by cases z), te, if_pos (w.ru u hr)]
      have := b.id
      omega
theorem bk_runT {f : Nat → List Ev} (w : WfH n r h) (b : Bk n f c h) : ∀ k : Nat, Bk n f (c + k) (runT h k)
  | 0 => by rw [Int.natCast_zero, Int.add_zero]; exact b
  | k + 1 => by
    have := bk_step (wf_runT w k) (bk_runT w b k)
    rw [Int.natCast_add, ← Int.add_assoc]; exact this
theorem bk_event {f : Nat → List Ev} (w : WfH n r h) (b : Bk n f c h) (hu : u < n) (ha : isAsk e = true) : Bk n (fun v => if v = u then f v ++ [e] else f v) c (eventT h u e) := by
  have s := event_same (h := h) (u := u) (e := e)
  have ns : ¬ isStep e = true := fun z => by cases e <;> simp [isStep, isAsk] at z ha
  have hd : u < h.diaries.length := by rw [w.ld]; exact hu
  have hp : u < h.ps.length := by rw [w.lp]; exact hu
  have dne : ∀ v, dn (eventT h u e) v = dn h v := fun v => by rw [dn_event hp, if_neg (fun z => ns z.2.1)]; omega
  have n1 : isStep e = false := by cases e <;> first | rfl | cases ha
  have n2 : isTick e = false := by cases e <;> first | rfl | cases ha
  refine ⟨by rw [s.steps]; exact b.st, by rw [s.ticks, s.beat]; exact b.tk, fun v hv => ?_, fun v hv => ?_, fun v hv => ?_, by rw [s.idle, s.steps, tot_eq n (fun v _ => dne v)]; exact b.id⟩
  · rw [dy_event hd]; split
    · rw [List.filter_append, b.ak v hv, List.filter_cons_of_pos ha]; rfl
    · exact b.ak v hv
  · rw [dy_event hd, dne]; split
    · rw [List.filter_append, List.filter_cons_of_neg (by rw [n1]; exact Bool.false_ne_true), List.filter_nil, List.append_nil]; exact b.sp v hv
    · exact b.sp v hv
  · rw [dy_event hd, s.ticks]; split
    · rw [List.filter_append, List.filter_cons_of_neg (by rw [n2]; exact Bool.false_ne_true), List.filter_nil, List.append_nil]; exact b.tt v hv
    · exact b.tt v hv
/-- what acts tell a user -/
def AK.ask : AK → Bool
  | .start => true
  | .key => true
  | _ => false
def toldB (u : Nat) (a : Act) : Bool := a.k.ask && decide (a.u = u)
def actEv (a : Act) : Ev := match a.k with
  | .start => .start a.v
  | _ => .key a.v
def toldE (as : List Act) (u : Nat) : List Ev := (as.filter (toldB u)).map actEv
def runC (a : Act) : Int := match a.k with
  | .run => a.v
  | _ => 0
theorem toldE_app {as bs : List Act} {u : Nat} : toldE (as ++ bs) u = toldE as u ++ toldE bs u := by unfold toldE; rw [List.filter_append, List.map_append]
theorem Bk.eqf {f g : Nat → List Ev} (b : Bk n f c h) (e : ∀ u, u < n → f u = g u) : Bk n g c h := ⟨b.st, b.tk, fun u hu => (b.ak u hu).trans (e u hu), b.sp, b.tt, b.id⟩
theorem Bk.eqc {f : Nat → List Ev} {c' : Int} (b : Bk n f c h) (e : c = c') : Bk n f c' h := e ▸ b
theorem bk_do {f : Nat → List Ev} (w : WfH n r h) (b : Bk n f c h) (o : actOk n a) : Bk n (fun u => f u ++ toldE [a] u) (c + runC a) (doT h a) := by
  obtain ⟨ak, au, av⟩ := a
  obtain ⟨hu, hv⟩ := o
  have told1 : ∀ {k : AK} {e : Ev}, k.ask = true → actEv ⟨k, au, av⟩ = e → ∀ u, toldE [⟨k, au, av⟩] u = if u = au then [e] else [] := fun {k e} hk he u => by
    unfold toldE
    by_cases c : u = au
    · rw [List.filter_cons_of_pos (by unfold toldB; rw [hk]; simp [c]), if_pos c]; simp [he]
    · rw [List.filter_cons_of_neg (by unfold toldB; rw [hk]; simp; exact fun e => c e.symm), if_neg c]; rfl
  have told0 : ∀ {k : AK}, k.ask = false → ∀ u, toldE [⟨k, au, av⟩] u = [] := fun {k} hk u => by
    unfold toldE
    rw [List.filter_cons_of_neg (by unfold toldB; rw [hk]; simp)]; rfl
  have hul : au < h.ps.length := by rw [w.lp]; exact hu
  cases ak
  · have b1 := bk_event (e := .start av) w b hu rfl
    refine ((b1.same cts_settle).eqf fun u _ => ?_).eqc (Int.add_zero c).symm
    rw [told1 (e := .start av) rfl rfl u]
    split
    · rfl
    · rw [List.append_nil]
  · have b1 := bk_event (e := .key av) w b hu rfl
    refine ((b1.same cts_settle).eqf fun u _ => ?_).eqc (Int.add_zero c).symm
    rw [told1 (e := .key av) rfl rfl u]
    split
    · rfl
    · rw [List.append_nil]
  · refine ((b.look (h' := loadT h au (progV av)) (fun u => ?_) (fun u => rfl) rfl rfl rfl rfl).eqf fun u _ => by rw [told0 rfl u, List.append_nil]).eqc (Int.add_zero c).symm
    unfold dn
    by_cases e : au = u
    · subst e; rw [show pu (loadT h au (progV av)) au = { pu h au with m := { (pu h au).m with cells := progV av } } from pu_set hul]
    · rw [show pu (loadT h au (progV av)) u = pu h u from pu_ne e]
  · refine ((b.look (h' := switchT h au av) (fun u => ?_) (fun u => rfl) rfl rfl rfl rfl).eqf fun u _ => by rw [told0 rfl u, List.append_nil]).eqc (Int.add_zero c).symm
    unfold dn
    by_cases e : au = u
    · subst e; rw [show pu (switchT h au av) au = { pu h au with sw := av } from pu_set hul]
    · rw [show pu (switchT h au av) u = pu h u from pu_ne e]
  · have hv : 0 ≤ av ∧ av < 9 := hv
    refine ((bk_runT w b av.toNat).eqf fun u _ => by rw [told0 rfl u, List.append_nil]).eqc ?_
    show c + ((av.toNat : Nat) : Int) = c + av
    rw [Int.toNat_of_nonneg hv.1]
theorem bk_new {q b : Int} (hr : 0 < r) (hq : 1 ≤ q) (hb : 1 ≤ b) : Bk n (fun _ => []) 0 (newH n r q b) := by
  have pe : ∀ u, u < n → pu (newH n r q b) u = newP (List.replicate 64 0) 0 := fun u hu => by
    show (List.replicate n (newP (List.replicate 64 0) 0)).getD u _ = _
    rw [List.getD_eq_getElem?_getD, List.getElem?_replicate, if_pos hu]; rfl
  have ye : ∀ u, u < n → dy (newH n r q b) u = [] := fun u hu => by
    show (List.replicate n ([] : List Ev)).getD u _ = _
    rw [List.getD_eq_getElem?_getD, List.getElem?_replicate, if_pos hu]; rfl
  have z : ∀ u, u < n → dn (newH n r q b) u = 0 := fun u hu => by unfold dn; rw [pe u hu]; rfl
  refine ⟨rfl, (Int.zero_ediv b).symm, fun u hu => by rw [ye u hu]; rfl, fun u hu => by rw [ye u hu, z u hu]; rfl, fun u hu => by rw [ye u hu]; rfl, ?_⟩
  show (0 : Int) + _ = 0
  rw [tot_eq (f := fun _ => 0) n (fun v hv => z v hv), Int.zero_add]
  exact tot_0 n
theorem bk_madeN {ns : List Int} {f : Nat → List Ev} (b : Bk n f c h) (hl : h.ps.length = n) : ∀ i, i ≤ n → Bk n f c (madeN ns h i) ∧ (madeN ns h i).ps.length = n
  | 0, _ => ⟨b, hl⟩
  | i + 1, hi => by
    obtain ⟨b1, l1⟩ := bk_madeN (ns := ns) b hl i (by omega)
    have l2 : (loadT (madeN ns h i) i (pS ns i)).ps.length = n := (List.length_set ..).trans l1
    have b2 : Bk n f c (loadT (madeN ns h i) i (pS ns i)) := b1.look (fun u => by
      unfold dn
      by_cases e : i = u
      · subst e; rw [show pu (loadT (madeN ns h i) i (pS ns i)) i = { pu (madeN ns h i) i with m := { (pu (madeN ns h i) i).m with cells := pS ns i } } from pu_set (by omega)]
      · rw [show pu (loadT (madeN ns h i) i (pS ns i)) u = pu (madeN ns h i) u from pu_ne e]) (fun u => rfl) rfl rfl rfl rfl
    refine ⟨b2.look (fun u => ?_) (fun u => rfl) rfl rfl rfl rfl, (List.length_set ..).trans l2⟩
    unfold dn
    by_cases e : i = u
    · subst e; rw [show pu (madeN ns h (i + 1)) i = { pu (loadT (madeN ns h i) i (pS ns i)) i with sw := sS ns i } from pu_set (by omega)]
    · rw [show pu (madeN ns h (i + 1)) u = pu (loadT (madeN ns h i) i (pS ns i)) u from pu_ne e]
def cnt (as : List Act) : Int := (as.map runC).sum
theorem cnt_app {as : List Act} : cnt (as ++ [a]) = cnt as + runC a := by unfold cnt; rw [List.map_append, List.sum_append]; simp
theorem bk_doN {as : List Act} (w : WfH n r h) (b : Bk n (fun _ => []) 0 h) (o : ∀ a ∈ as, actOk n a) : ∀ i, Bk n (toldE (as.take i)) (cnt (as.take i)) (doN h as i)
  | 0 => by
    rw [List.take_zero]; exact b.eqf fun u _ => rfl
  | i + 1 => by
    show Bk n _ _ (match as[i]? with | some a => doT (doN h as i) a | none => doN h as i)
    cases e : as[i]? with
    | none =>
      have : as.take (i + 1) = as.take i := by
        rw [List.getElem?_eq_none_iff] at e
        rw [List.take_of_length_le (by omega), List.take_of_length_le e]
      rw [this]; exact bk_doN w b o i
    | some a =>
      have : as.take (i + 1) = as.take i ++ [a] := by rw [List.take_add_one, e]; rfl
      rw [this, cnt_app]
      exact (bk_do (wf_doN w o i) (bk_doN w b o i) (o a (List.mem_of_getElem? e))).eqf fun u _ => toldE_app.symm
/-- nothing goes back -/
def Mono (h h' : Ho) : Prop := h.idle ≤ h'.idle ∧ h.swaps ≤ h'.swaps
theorem Mono.trans {h1 h2 h3 : Ho} (a : Mono h1 h2) (b : Mono h2 h3) : Mono h1 h3 := ⟨Int.le_trans a.1 b.1, Int.le_trans a.2 b.2⟩
theorem mono_settle : Mono h (settleT h) := by
  refine ⟨by rw [cts_settle.i]; exact Int.le_refl _, ?_⟩
  cases come_settle (h := h) with
  | no g s => omega
  | one u ru no g s => omega
theorem mono_event : Mono h (eventT h u e) := ⟨by rw [event_same.idle]; exact Int.le_refl _, by rw [event_same.swaps]; exact Int.le_refl _⟩
theorem mono_step (w : WfH n r h) : Mono h (stepT h) := by
  refine ⟨?_, ?_⟩
  · rw [(step_ct w).i]; split <;> omega
  · cases come_step (h := h) with
    | no g s => omega
    | one u ru no g s => omega
theorem mono_runT (w : WfH n r h) : ∀ k, Mono h (runT h k)
  | 0 => ⟨Int.le_refl _, Int.le_refl _⟩
  | k + 1 => (mono_runT w k).trans (mono_step (wf_runT w k))
theorem mono_do (w : WfH n r h) : Mono h (doT h a) := by
  obtain ⟨ak, au, av⟩ := a
  cases ak
  · exact mono_event.trans mono_settle
  · exact mono_event.trans mono_settle
  · exact ⟨Int.le_refl _, Int.le_refl _⟩
  · exact ⟨Int.le_refl _, Int.le_refl _⟩
  · exact mono_runT w _
theorem part3 : ∀ l : List Ev, (l.filter isAsk).length + (l.filter isStep).length + (l.filter isTick).length = l.length
  | [] => rfl
  | e :: l => by
    have ih := part3 l
    cases e <;> simp [List.filter_cons, isAsk, isStep, isTick] <;> omega
end
/-! ### nobody else -/
section
variable {n r u v : Nat} {h h' : Ho} {e : Ev} {a : Act} {P : Pn}
theorem pu_ps {h h' : Ho} (e : h'.ps = h.ps) : pu h' v = pu h v := by unfold pu; rw [e]
theorem settle_pu : pu (settleT h) v = pu h v := by
  rcases runs_or h with hr | ⟨u, hr⟩
  · cases hw : h.row with
    | nil => rw [settle_nil hr hw]
    | cons u row => rw [settle_one hr hw]; exact pu_ps enter_same.ps
  · rw [settle_run hr]
theorem turn_pu : pu (turnT h) v = pu h v := by
  rcases runs_or h with hr | ⟨u, hr⟩
  · rw [turn_none hr]
  · rw [turn_some hr]; split <;> rfl
theorem tickN_pu : ∀ k, k ≤ h.ps.length → ((tickN h k).ps.length = h.ps.length ∧ pu (tickN h k) v = if v < k then happenP (pu h v) .tick else pu h v)
  | 0, _ => ⟨rfl, by rw [if_neg (Nat.not_lt_zero _)]; rfl⟩
  | k + 1, hk => by
    obtain ⟨l, ih⟩ := tickN_pu k (by omega)
    refine ⟨event_same.len.trans l, ?_⟩
    show pu (eventT (tickN h k) k .tick) v = _
    by_cases c : k = v
    · subst c
      rw [event_u (by omega), ih, if_neg (by omega), if_pos (by omega)]
    · rw [event_v c, ih]
      by_cases d : v < k
      · rw [if_pos d, if_pos (by omega)]
      · rw [if_neg d, if_neg (by omega)]
theorem step1_pu (hn : h.runs ≠ some v) : pu (step1 h) v = pu h v := by
  rcases runs_or h with hr | ⟨u, hr⟩
  · rw [step1_none hr]; rfl
  · rw [step1_some hr]
    exact (event_v (h := { h with steps := h.steps + 1 }) (fun c => hn (by rw [hr, c])))
theorem step_pu (w : WfH n r h) (hv : v < n) (hn : h.runs ≠ some v) : pu (stepT h) v = if (h.steps + 1) % h.beat = 0 then tickedP (pu h v) else pu h v := by
  unfold stepT step2
  rw [settle_pu]
  by_cases c : (h.steps + 1) % h.beat = 0
  · rw [if_pos c, if_pos c]
    unfold tickT
    rw [turn_pu, (tickN_pu _ (Nat.le_refl _)).2, if_pos (by rw [(wf_step1 w).lp]; exact hv), step1_pu hn]
    rfl
  · rw [if_neg c, if_neg c, step1_pu hn]
theorem do_pu (hn : a.u ≠ v) (hr : a.k ≠ .run) : pu (doT h a) v = pu h v := by
  obtain ⟨ak, au, av⟩ := a
  cases ak
  · exact settle_pu.trans (event_v hn)
  · exact settle_pu.trans (event_v hn)
  · exact pu_ne hn
  · exact pu_ne hn
  · exact absurd rfl hr
/-- a tick for a user -/
structure TickO (P P' : Pn) : Prop where
  ex : ∃ o p s n, P' = { P with outbox := o, paper := p, st := s, nap := n } ∧ p ++ o = P.paper ++ P.outbox ∧ p.length = P.paper.length + min 1 P.outbox.length ∧ (P.nap - n = 0 ∨ P.nap - n = 1)
theorem ticked_o (P : Pn) : TickO P (tickedP P) := by
  have h1 : ∃ o p s, tick1P P = { P with outbox := o, paper := p, st := s } ∧ p ++ o = P.paper ++ P.outbox ∧ p.length = P.paper.length + min 1 P.outbox.length := by
    unfold tick1P
    split
    · rename_i e
      exact ⟨P.outbox, P.paper, P.st, rfl, rfl, by rw [e]; rfl⟩
    · rename_i x l e
      unfold wakeP
      split
      · exact ⟨l, P.paper ++ [x], "ready", rfl, by rw [e]; simp, by rw [e]; simp⟩
      · exact ⟨l, P.paper ++ [x], P.st, rfl, by rw [e]; simp, by rw [e]; simp⟩
  obtain ⟨o, p, s, e, a, b⟩ := h1
  unfold tickedP
  rw [e]
  unfold tick2P
  dsimp only
  split
  · split
    · exact ⟨o, p, "ready", P.nap - 1, rfl, a, b, .inr (by omega)⟩
    · exact ⟨o, p, s, P.nap - 1, rfl, a, b, .inr (by omega)⟩
  · exact ⟨o, p, s, P.nap, rfl, a, b, .inl (by omega)⟩
end
/-! ### lines that are shown, read back -/
def numT (n : Int) : LN := TL.tl (toS n)
def ddOf (n : Int) : Dd :=
  if n / 128 < 6 then .aim (128 * (n / 128) + 64 * (n / 64 % 2)) [(1, numT (n % 64))]
  else if n / 128 = 7 ∨ (n / 64 % 2 = 0 ∧ n % 64 < 9) then .made n
  else .word [(1, numT n)]
def lineOk (n : Nat) : Bool := decide (readL (TL.tl (lineS (n : Int))) = some (none, some (ddOf (n : Int))))
def placeOk (n : Nat) : Bool := decide (readL (TL.tl ("place " ++ toS (n : Int))) = some (none, some (.place [(1, numT (n : Int))])))
theorem lines_ok : (List.range 1024).all lineOk = true := by decide +kernel
theorem places_ok : (List.range 64).all placeOk = true := by decide +kernel
def numOk (n : Nat) : Bool := isNumL (numT (n : Int)) && decide (numV (numT (n : Int)) = (n : Int))
theorem nums_ok : (List.range 1024).all numOk = true := by decide +kernel
def noNl (n : Nat) : Bool := !decide (10 ∈ TL.tl (lineS (n : Int))) && !decide (10 ∈ TL.tl ("place " ++ toS (n : Int)))
theorem noNl_ok : (List.range 1024).all noNl = true := by decide +kernel
theorem nat_of {n : Int} (h0 : 0 ≤ n) : ∃ k : Nat, n = (k : Int) := ⟨n.toNat, by omega⟩
theorem read_line {n : Int} (h0 : 0 ≤ n) (h1 : n < 1024) : readL (TL.tl (lineS n)) = some (none, some (ddOf n)) := by
  obtain ⟨k, rfl⟩ := nat_of h0
  exact of_decide_eq_true (List.all_eq_true.mp lines_ok k (List.mem_range.mpr (by omega)))
theorem read_place {n : Nat} (h : n < 64) : readL (TL.tl ("place " ++ toS (n : Int))) = some (none, some (.place [(1, numT (n : Int))])) := of_decide_eq_true (List.all_eq_true.mp places_ok n (List.mem_range.mpr h))
theorem num_ok {n : Int} (h0 : 0 ≤ n) (h1 : n < 1024) : isNumL (numT n) = true ∧ numV (numT n) = n := by
  obtain ⟨k, rfl⟩ := nat_of h0
  have := List.all_eq_true.mp nums_ok k (List.mem_range.mpr (by omega))
  unfold numOk at this
  rw [Bool.and_eq_true] at this
  exact ⟨this.1, of_decide_eq_true this.2⟩
theorem amt_num {ls : Lab} {here n : Int} (h0 : 0 ≤ n) (h1 : n < 1024) : amountL ls here 0 [(1, numT n)] = some n := by
  obtain ⟨a, b⟩ := num_ok h0 h1
  rw [amountL, if_pos a, amountL, b]
  congr 1; omega
theorem amtL_num {ls : Lab} {here n : Int} {k : Nat} (h0 : 0 ≤ n) (h1 : n < 1024) : amtL ls here [(1, numT n)] k = .ok n := by unfold amtL; rw [amt_num h0 h1]
theorem amtW_num {ls : Lab} {here n most : Int} {k : Nat} (h0 : 0 ≤ n) (h1 : n < 1024) (h2 : n ≤ most) : amtW ls here [(1, numT n)] most k = .ok n := by
  unfold amtW; rw [amtL_num h0 h1]
  dsimp only
  unfold withinL; rw [if_pos ⟨h0, h2⟩]
theorem ddOf_np (n : Int) : ∀ ts, ddOf n ≠ .place ts := by
  intro ts e
  unfold ddOf at e
  split at e
  · cases e
  · split at e <;> cases e
theorem word_dd {ls : Lab} {m : Made} {pool : List Int} {a n : Int} {k : Nat} (h0 : 0 ≤ n) (h1 : n < 1024) : wordOf ls m pool a k (ddOf n) = .ok (m, pool, n) := by
  unfold ddOf
  split
  · unfold wordOf
    dsimp only
    rw [amtW_num (by omega) (by omega) (by omega)]
    show Except.ok (m, pool, 128 * (n / 128) + 64 * (n / 64 % 2) + n % 64) = _
    rw [show 128 * (n / 128) + 64 * (n / 64 % 2) + n % 64 = n by omega]
  · split
    · rfl
    · unfold wordOf
      dsimp only
      rw [amtW_num h0 h1 (by omega)]
theorem move_dd {ls : Lab} {a n : Int} {k : Nat} (h0 : 0 ≤ a) (h1 : a < 64) : moveG ls a k (some (ddOf n)) = .ok (a + 1) := by
  have w : withinL (a + 1) 64 k = .ok (a + 1) := by unfold withinL; rw [if_pos ⟨by omega, by omega⟩]
  cases e : ddOf n with
  | place ts => exact absurd e (ddOf_np n ts)
  | word ts => exact w
  | made x => exact w
  | aim b ts => exact w
  | pool b ts => exact w
theorem step_dd {n a : Int} {k : Nat} (h0 : 0 ≤ n) (h1 : n < 1024) (a0 : 0 ≤ a) (a1 : a < 64) : goneStep (TL.tl (lineS n)) [] a k = .ok (some (ddOf n), [], a + 1) := by
  unfold goneStep
  rw [read_line h0 h1]
  dsimp only [tellL]
  rw [move_dd a0 a1]
theorem step_place {p : Nat} {a : Int} {k : Nat} (hp : p < 64) : goneStep (TL.tl ("place " ++ toS (p : Int))) [] a k = .ok (some (.place [(1, numT (p : Int))]), [], (p : Int)) := by
  unfold goneStep
  rw [read_place hp]
  dsimp only [tellL]
  have : moveG [] a k (some (Dd.place [(1, numT (p : Int))])) = .ok (p : Int) := by
    unfold moveG
    dsimp only
    rw [amtL_num (by omega) (by omega)]
    dsimp only
    unfold withinL; rw [if_pos ⟨by omega, by omega⟩]
  rw [this]
/-- the deeds of shown cells; the cells made -/
def dsF : Nat → Nat → Bool → List Int → List (Option Dd)
  | _, _, _, [] => []
  | k, b, e, n :: r => if n = 0 then dsF (k + 1) b e r else (if k ≠ b ∨ e = true then [some (.place [(1, numT (k : Int))])] else []) ++ some (ddOf n) :: dsF (k + 1) (k + 1) false r
def nzF : Nat → List Int → Made
  | _, [] => []
  | k, n :: r => if n = 0 then nzF (k + 1) r else ((k : Int), n) :: nzF (k + 1) r
theorem gone_shown : ∀ (cs : List Int) (k b : Nat) (e : Bool) (a : Int) (acc : List (Option Dd)) (j : Nat), (∀ x ∈ cs, 0 ≤ x ∧ x < 1024) → k + cs.length ≤ 64 → (e = false → a = (b : Int)) → goneG acc [] a j ((shownF k b e cs).map TL.tl) = .ok (acc ++ dsF k b e cs, [])
  | [], k, b, e, a, acc, j, _, _, _ => by rw [shownF, dsF, List.append_nil]; rfl
  | n :: r, k, b, e, a, acc, j, h, hk, ha => by
    have h1 := h n List.mem_cons_self
    have hr : ∀ x ∈ r, 0 ≤ x ∧ x < 1024 := fun x hx => h x (List.mem_cons_of_mem _ hx)
    rw [List.length_cons] at hk
    rw [shownF, dsF]
    by_cases z : n = 0
    · rw [if_pos z, if_pos z]
      exact gone_shown r (k + 1) b e a acc j hr (by omega) ha
    · rw [if_neg z, if_neg z]
      by_cases c : k ≠ b ∨ e = true
      · rw [if_pos c, if_pos c]
        show goneG acc [] a j (TL.tl ("place " ++ toS (k : Int)) :: TL.tl (lineS n) :: (shownF (k + 1) (k + 1) false r).map TL.tl) = _
        rw [goneG, step_place (by omega)]
        dsimp only
        rw [goneG, step_dd h1.1 h1.2 (by omega) (by omega)]
        dsimp only
        rw [gone_shown r (k + 1) (k + 1) false ((k : Int) + 1) _ _ hr (by omega) (fun _ => by omega)]
        simp
      · rw [if_neg c, if_neg c]
        have e1 : e = false := by cases e with
          | true => exact absurd (.inr rfl) c
          | false => rfl
        have e2 : k = b := by
          by_cases q : k = b
          · exact q
          · exact absurd (.inl q) c
        have e3 := ha e1
        show goneG acc [] a j (TL.tl (lineS n) :: (shownF (k + 1) (k + 1) false r).map TL.tl) = _
        rw [goneG, step_dd h1.1 h1.2 (by omega) (by omega)]
        dsimp only
        rw [gone_shown r (k + 1) (k + 1) false (a + 1) _ _ hr (by omega) (fun _ => by omega)]
        simp
theorem madeGet_none {m : Made} {x : Int} (h : ∀ q ∈ m, q.1 < x) : madeGet m x = none := by
  unfold madeGet
  rw [List.find?_eq_none.mpr]
  · rfl
  · intro q hq e
    have := h q hq
    have := of_decide_eq_true e
    omega
theorem make_new {m : Made} {x n : Int} {k : Nat} (h : ∀ q ∈ m, q.1 < x) (h0 : 0 ≤ x) : makeL m x n k = .ok (m ++ [(x, n)]) := by
  unfold makeL
  rw [if_neg]
  intro z
  rcases z with z | z
  · rw [madeGet_none h] at z; cases z
  · omega
theorem cell_dd {m : Made} {a n : Int} {k : Nat} (h0 : 0 ≤ n) (h1 : n < 1024) (a0 : 0 ≤ a) (hm : ∀ q ∈ m, q.1 < a) : cellStep [] m [] a k (some (ddOf n)) = .ok (m ++ [(a, n)], [], a + 1) := by
  have w := word_dd (ls := []) (m := m) (pool := []) (a := a) (k := k) h0 h1
  have mk := make_new (n := n) (k := k) hm a0
  cases e : ddOf n with
  | place ts => exact absurd e (ddOf_np n ts)
  | word ts => rw [e] at w; unfold cellStep; dsimp only; rw [w]; dsimp only; rw [mk]
  | made x => rw [e] at w; unfold cellStep; dsimp only; rw [w]; dsimp only; rw [mk]
  | aim b ts => rw [e] at w; unfold cellStep; dsimp only; rw [w]; dsimp only; rw [mk]
  | pool b ts => rw [e] at w; unfold cellStep; dsimp only; rw [w]; dsimp only; rw [mk]
theorem cell_place {m : Made} {p : Nat} {a : Int} {k : Nat} (hp : p < 64) : cellStep [] m [] a k (some (.place [(1, numT (p : Int))])) = .ok (m, [], (p : Int)) := by
  unfold cellStep
  dsimp only
  rw [amtL_num (by omega) (by omega)]
theorem cells_shown : ∀ (cs : List Int) (k b : Nat) (e : Bool) (a : Int) (m : Made) (j : Nat), (∀ x ∈ cs, 0 ≤ x ∧ x < 1024) → k + cs.length ≤ 64 → (e = false → a = (b : Int)) → (∀ q ∈ m, q.1 < (k : Int)) → cellsG [] m [] a j (dsF k b e cs) = .ok (m ++ nzF k cs)
  | [], k, b, e, a, m, j, _, _, _, _ => by rw [dsF, nzF, List.append_nil]; rfl
  | n :: r, k, b, e, a, m, j, h, hk, ha, hm => by
    have h1 := h n List.mem_cons_self
    have hr : ∀ x ∈ r, 0 ≤ x ∧ x < 1024 := fun x hx => h x (List.mem_cons_of_mem _ hx)
    rw [List.length_cons] at hk
    have hm1 : ∀ q ∈ m, q.1 < ((k + 1 : Nat) : Int) := fun q hq => by have := hm q hq; omega
    have hm2 : ∀ q ∈ m ++ [((k : Int), n)], q.1 < ((k + 1 : Nat) : Int) := fun q hq => (List.mem_append.mp hq).elim (hm1 q) (fun z => by rw [List.mem_singleton.mp z]; show (k : Int) < _; omega)
    rw [dsF, nzF]
    by_cases z : n = 0
    · rw [if_pos z, if_pos z]
      exact cells_shown r (k + 1) b e a m j hr (by omega) ha hm1
    · rw [if_neg z, if_neg z]
      by_cases c : k ≠ b ∨ e = true
      · rw [if_pos c]
        show cellsG [] m [] a j (some (.place [(1, numT (k : Int))]) :: some (ddOf n) :: dsF (k + 1) (k + 1) false r) = _
        rw [cellsG, cell_place (by omega)]
        dsimp only
        rw [cellsG, cell_dd h1.1 h1.2 (by omega) hm]
        dsimp only
        rw [cells_shown r (k + 1) (k + 1) false ((k : Int) + 1) _ _ hr (by omega) (fun _ => by omega) hm2]
        simp
      · rw [if_neg c]
        have e1 : e = false := by cases e with
          | true => exact absurd (.inr rfl) c
          | false => rfl
        have e2 : k = b := by
          by_cases q : k = b
          · exact q
          · exact absurd (.inl q) c
        have e3 : a = (k : Int) := by rw [ha e1, e2]
        subst e3
        show cellsG [] m [] (k : Int) j (some (ddOf n) :: dsF (k + 1) (k + 1) false r) = _
        rw [cellsG, cell_dd h1.1 h1.2 (by omega) hm]
        dsimp only
        rw [cells_shown r (k + 1) (k + 1) false ((k : Int) + 1) _ _ hr (by omega) (fun _ => by omega) hm2]
        simp
theorem nzF_get : ∀ (cs : List Int) (k i : Nat), i < cs.length → (madeGet (nzF k cs) ((k + i : Nat) : Int)).getD 0 = cs.getD i 0
  | [], _, i, h => by simp at h
  | n :: r, k, i, h => by
    rw [nzF]
    cases i with
    | zero =>
      by_cases z : n = 0
      · rw [if_pos z, z]
        have : madeGet (nzF (k + 1) r) ((k + 0 : Nat) : Int) = none := by
          unfold madeGet
          rw [List.find?_eq_none.mpr]
          · rfl
          · intro q hq e
            have h1 := nzF_ge r (k + 1) q hq
            have := of_decide_eq_true e
            omega
        rw [this]; rfl
      · rw [if_neg z]
        unfold madeGet
        rw [List.find?_cons, decide_eq_true (by show (k : Int) = ((k + 0 : Nat) : Int); omega)]
        rfl
    | succ i =>
      have ih := nzF_get r (k + 1) i (by simp at h; omega)
      have e1 : ((k + (i + 1) : Nat) : Int) = ((k + 1 + i : Nat) : Int) := by omega
      have e2 : (n :: r).getD (i + 1) 0 = r.getD i 0 := by simp [List.getD_eq_getElem?_getD]
      rw [e1, e2]
      by_cases z : n = 0
      · rw [if_pos z]; exact ih
      · rw [if_neg z]
        unfold madeGet at ih ⊢
        rw [List.find?_cons, decide_eq_false (by show ¬ (k : Int) = ((k + 1 + i : Nat) : Int); omega)]
        exact ih
where nzF_ge : ∀ (cs : List Int) (k : Nat), ∀ q ∈ nzF k cs, (k : Int) ≤ q.1
  | [], _, q, h => by cases h
  | n :: r, k, q, h => by
    rw [nzF] at h
    split at h
    · have := nzF_ge r (k + 1) q h; omega
    · rcases List.mem_cons.mp h with e | e
      · rw [e]; exact Int.le_refl _
      · have := nzF_ge r (k + 1) q e; omega
theorem cutAt_join (c : Nat) {ps : List LN} (hne : ps ≠ []) (h : ∀ p ∈ ps, c ∉ p) : cutAt c (TL.joinL [c] ps) = ps := by
  have e1 := TL.spl_join (s := c) (S := []) hne h
  have e2 := spl_cut c (TL.joinL [c] ps) []
  rw [e1] at e2
  cases z : cutAt c (TL.joinL [c] ps) with
  | nil => exact absurd z (cutAt_ne _ _)
  | cons a b => rw [z] at e2; exact e2.symm
theorem shownF_noNl : ∀ (cs : List Int) (k b : Nat) (e : Bool), (∀ x ∈ cs, 0 ≤ x ∧ x < 1024) → k + cs.length ≤ 64 → ∀ s ∈ shownF k b e cs, 10 ∉ TL.tl s
  | [], _, _, _, _, _, s, h => by cases h
  | n :: r, k, b, e, h, hk, s, hs => by
    have h1 := h n List.mem_cons_self
    have hr : ∀ x ∈ r, 0 ≤ x ∧ x < 1024 := fun x hx => h x (List.mem_cons_of_mem _ hx)
    rw [List.length_cons] at hk
    have nl : ∀ i : Nat, i < 1024 → 10 ∉ TL.tl (lineS (i : Int)) ∧ 10 ∉ TL.tl ("place " ++ toS (i : Int)) := fun i hi => by
      have := List.all_eq_true.mp noNl_ok i (List.mem_range.mpr hi)
      unfold noNl at this
      rw [Bool.and_eq_true] at this
      exact ⟨of_decide_eq_false ((Bool.not_eq_true' _).mp this.1), of_decide_eq_false ((Bool.not_eq_true' _).mp this.2)⟩
    obtain ⟨i, rfl⟩ := nat_of h1.1
    rw [shownF] at hs
    split at hs
    · exact shownF_noNl r (k + 1) b e hr (by omega) s hs
    · rcases List.mem_append.mp hs with q | q
      · split at q
        · rw [List.mem_singleton.mp q]; exact (nl k (by omega)).2
        · cases q
      · rcases List.mem_cons.mp q with q | q
        · rw [q]; exact (nl i (by omega)).1
        · exact shownF_noNl r (k + 1) (k + 1) false hr (by omega) s q
theorem shownF_nil : ∀ (cs : List Int) (k b : Nat) (e : Bool), shownF k b e cs = [] → ∀ x ∈ cs, x = 0
  | [], _, _, _, _, x, h => by cases h
  | n :: r, k, b, e, h, x, hx => by
    rw [shownF] at h
    split at h
    · rename_i z
      rcases List.mem_cons.mp hx with q | q
      · rw [q, z]
      · exact shownF_nil r _ _ _ h x q
    · simp at h
theorem asm_shown {cs : List Int} (hl : cs.length = 64) (h : ∀ x ∈ cs, 0 ≤ x ∧ x < 1024) : assembledL (TL.tl (shownS cs)) = .ok cs := by
  have hc : cellsOf (nzF 0 cs) = cs := by
    apply List.ext_getElem?
    intro i
    unfold cellsOf
    rw [List.getElem?_map]
    by_cases hi : i < 64
    · rw [List.getElem?_range hi]
      have h2 : i < cs.length := by omega
      have := nzF_get cs 0 i h2
      rw [Nat.zero_add] at this
      rw [List.getElem?_eq_getElem h2]
      show some ((madeGet (nzF 0 cs) (i : Int)).getD 0) = _
      rw [this, List.getD_eq_getElem?_getD, List.getElem?_eq_getElem h2]; rfl
    · rw [List.getElem?_eq_none (by simp; omega), List.getElem?_eq_none (by omega)]; rfl
  unfold assembledL
  by_cases z : shownF 0 0 true cs = []
  · have hz := shownF_nil cs 0 0 true z
    have e0 : TL.tl (shownS cs) = [] := by unfold shownS; rw [z]; rfl
    rw [e0]
    have e1 : goneL (cutAt 10 []) = .ok ([none], []) := rfl
    rw [e1]
    have e2 : cellsOf [] = cs := by
      have : cs = List.replicate 64 0 := List.eq_replicate_iff.mpr ⟨hl, hz⟩
      rw [this]; decide +kernel
    show Except.ok (cellsOf []) = _
    rw [e2]
  · have e1 : cutAt 10 (TL.tl (shownS cs)) = (shownF 0 0 true cs).map TL.tl := by
      unfold shownS
      rw [TL.tl_join]
      exact cutAt_join 10 (by simpa using z) (fun p hp => by obtain ⟨s, hs, rfl⟩ := List.mem_map.mp hp; exact shownF_noNl cs 0 0 true h (by omega) s hs)
    rw [e1]
    have e2 : goneL ((shownF 0 0 true cs).map TL.tl) = .ok (dsF 0 0 true cs, []) := gone_shown cs 0 0 true 0 [] 1 h (by omega) (fun z => by cases z)
    rw [e2]
    have e3 := cells_shown cs 0 0 true 0 [] 1 h (by omega) (fun z => by cases z) (fun q hq => by cases hq)
    dsimp only
    rw [e3]
    show Except.ok (cellsOf (nzF 0 cs)) = _
    rw [hc]
/-! ### k31: pieces with other blanks and remarks -/
def wordsL (l : LN) : List LN := (cutAt 32 l).filter fun p => !p.isEmpty
theorem cutAt_free {c : Nat} : ∀ {p : LN}, c ∉ p → cutAt c p = [p]
  | [], _ => rfl
  | x :: r, h => by
    rw [cutAt, if_neg (fun e => h (by rw [e]; exact List.mem_cons_self)), cutAt_free (fun z => h (List.mem_cons_of_mem _ z))]
theorem cutAt_app {c : Nat} : ∀ {p r : LN}, c ∉ p → cutAt c (p ++ c :: r) = p :: cutAt c r
  | [], r, _ => by rw [List.nil_append, cutAt, if_pos rfl]
  | x :: p, r, h => by
    rw [List.cons_append, cutAt, if_neg (fun e => h (by rw [e]; exact List.mem_cons_self)), cutAt_app (fun z => h (List.mem_cons_of_mem _ z))]
theorem words_nil : wordsL [] = [] := rfl
theorem words_blank (l : LN) : wordsL (32 :: l) = wordsL l := by
  unfold wordsL
  rw [cutAt, if_pos rfl]; rfl
theorem words_blanks : ∀ (n : Nat) (l : LN), wordsL (List.replicate n 32 ++ l) = wordsL l
  | 0, _ => rfl
  | n + 1, l => by rw [List.replicate_succ, List.cons_append, words_blank, words_blanks n l]
theorem words_last {p : LN} (h : 32 ∉ p) (hn : p ≠ []) : wordsL p = [p] := by
  unfold wordsL
  rw [cutAt_free h]
  cases p with
  | nil => exact absurd rfl hn
  | cons x r => rfl
theorem words_cons {p l : LN} (h : 32 ∉ p) (hn : p ≠ []) : wordsL (p ++ 32 :: l) = p :: wordsL l := by
  unfold wordsL
  rw [cutAt_app h]
  cases p with
  | nil => exact absurd rfl hn
  | cons x r => rfl
/-- pieces joined by blanks, with blanks behind -/
theorem words_join {b m : Nat} (hb : 0 < b) : ∀ {ps : List LN}, (∀ p ∈ ps, 32 ∉ p ∧ p ≠ []) → wordsL (TL.joinL (List.replicate b 32) ps ++ List.replicate m 32) = ps
  | [], _ => by
    show wordsL ([] ++ List.replicate m 32) = []
    have := words_blanks m []
    rw [List.append_nil] at this
    rw [List.nil_append, this]; rfl
  | [p], h => by
    obtain ⟨h1, h2⟩ := h p List.mem_cons_self
    show wordsL (p ++ List.replicate m 32) = [p]
    cases m with
    | zero => rw [List.replicate_zero, List.append_nil]; exact words_last h1 h2
    | succ m =>
      rw [List.replicate_succ, words_cons h1 h2]
      have := words_blanks m []
      rw [List.append_nil] at this
      rw [this]; rfl
  | p :: q :: r, h => by
    obtain ⟨h1, h2⟩ := h p List.mem_cons_self
    have ih := words_join (m := m) hb (ps := q :: r) fun x hx => h x (List.mem_cons_of_mem _ hx)
    show wordsL ((p ++ (List.replicate b 32 ++ TL.joinL (List.replicate b 32) (q :: r))) ++ List.replicate m 32) = _
    obtain ⟨b', rfl⟩ : ∃ b', b = b' + 1 := ⟨b - 1, by omega⟩
    rw [List.append_assoc, List.append_assoc]
    rw [show List.replicate (b' + 1) 32 ++ (TL.joinL (List.replicate (b' + 1) 32) (q :: r) ++ List.replicate m 32) = 32 :: (List.replicate b' 32 ++ (TL.joinL (List.replicate (b' + 1) 32) (q :: r) ++ List.replicate m 32)) from rfl]
    rw [words_cons h1 h2, words_blanks, ih]
theorem pieces_eq (l : LN) : piecesL l = wordsL ((cutAt 59 l).headD []) := rfl
/-- a line: blanks, what stands there, perhaps a remark -/
theorem pieces_line {l r : LN} (h : 59 ∉ l) : piecesL (l ++ 59 :: r) = wordsL l := by rw [pieces_eq, cutAt_app h]; rfl
theorem pieces_plain {l : LN} (h : 59 ∉ l) : piecesL l = wordsL l := by rw [pieces_eq, cutAt_free h]; rfl
theorem cutAt_flat (c : Nat) : ∀ {ps : List LN}, ps ≠ [] → cutAt c (TL.joinL [c] ps) = (ps.map (cutAt c)).flatten
  | [], h => absurd rfl h
  | [p], _ => by simp [TL.joinL]
  | p :: q :: r, _ => by
    have ih := cutAt_flat c (ps := q :: r) (by simp)
    show cutAt c (p ++ ([c] ++ TL.joinL [c] (q :: r))) = _
    rw [List.map_cons, List.flatten_cons, ← ih]
    exact cutAt_cat c p _
where cutAt_cat (c : Nat) : ∀ (p l : LN), cutAt c (p ++ c :: l) = cutAt c p ++ cutAt c l
  | [], l => by
    show (if c = c then [] :: cutAt c l else _) = [] :: cutAt c l
    rw [if_pos rfl]
  | x :: p, l => by
    have ih := cutAt_cat c p l
    show (if x = c then [] :: cutAt c (p ++ c :: l) else (match cutAt c (p ++ c :: l) with | [] => [[x]] | h :: t => (x :: h) :: t)) = (if x = c then [] :: cutAt c p else (match cutAt c p with | [] => [[x]] | h :: t => (x :: h) :: t)) ++ cutAt c l
    rw [ih]
    by_cases e : x = c
    · rw [if_pos e, if_pos e]; rfl
    · rw [if_neg e, if_neg e]
      cases z : cutAt c p with
      | nil => exact absurd z (cutAt_ne c p)
      | cons a b => rfl
/-! ### numbers as texts -/
theorem numT_eq {n : Int} (h0 : 0 ≤ n) : numT n = TL.numL n.toNat := by
  unfold numT toS
  have e : n = ((n.toNat : Nat) : Int) := by omega
  rw [e, TL.tl_num, Int.toNat_natCast]
theorem mem_digL {c : Nat} : c ∈ digL ↔ 48 ≤ c ∧ c ≤ 57 := by
  rw [show digL = [48, 49, 50, 51, 52, 53, 54, 55, 56, 57] by rfl]
  simp only [List.mem_cons, List.not_mem_nil, or_false]
  omega
theorem dig_num {n : Nat} {c : Nat} (h : c ∈ TL.numL n) : 48 ≤ c ∧ c ≤ 57 := by
  by_cases q : c < 48 ∨ 57 < c
  · exact absurd h (TL.numL_free q)
  · omega
theorem isNum_of {t : LN} (h1 : t ≠ []) (h2 : t.length ≤ 4) (h3 : ∀ c ∈ t, 48 ≤ c ∧ c ≤ 57) : isNumL t = true := by
  unfold isNumL
  rw [Bool.and_eq_true]
  have := List.length_pos_iff.mpr h1
  exact ⟨decide_eq_true ⟨by omega, h2⟩, List.all_eq_true.mpr fun c hc => decide_eq_true (mem_digL.mpr (h3 c hc))⟩
theorem num_big {n : Int} (h0 : 0 ≤ n) (h1 : n < 10000) : isNumL (numT n) = true ∧ numV (numT n) = n := by
  rw [numT_eq h0]
  refine ⟨isNum_of (TL.numL_ne _) (TL.numL_len (by decide) (show n.toNat < 10000 by omega)) fun c hc => dig_num hc, ?_⟩
  unfold numV
  rw [TL.numL_val]; omega
theorem numT_dig {n : Int} (h0 : 0 ≤ n) : ∀ c ∈ numT n, 48 ≤ c ∧ c ≤ 57 := fun c hc => by rw [numT_eq h0] at hc; exact dig_num hc
theorem numT_ne {n : Int} (h0 : 0 ≤ n) : numT n ≠ [] := by rw [numT_eq h0]; exact TL.numL_ne _
theorem numT_len {n : Int} {k : Nat} (h0 : 0 ≤ n) (hk : 0 < k) (h : n < (10 ^ k : Nat)) : (numT n).length ≤ k := by rw [numT_eq h0]; exact TL.numL_len hk (by omega)
theorem zero_big {n : Int} (h0 : 0 ≤ n) (h1 : n < 1000) : isNumL (48 :: numT n) = true ∧ numV (48 :: numT n) = n := by
  refine ⟨isNum_of (by simp) (by have := numT_len (k := 3) h0 (by decide) h1; rw [List.length_cons]; omega) fun c hc => ?_, ?_⟩
  · rcases List.mem_cons.mp hc with e | e
    · omega
    · exact numT_dig h0 c e
  · have : numV (48 :: numT n) = numV (numT n) := congrArg Int.ofNat (NumText.digitsVal_zero (cs := numT n))
    rw [this]; exact (num_big h0 (by omega)).2
/-! ### terms of texts that are put together -/
theorem termsG_skip : ∀ (t r : LN) (s : Int) (cur : LN), 43 ∉ t → 45 ∉ t → termsG s cur (t ++ r) = termsG s (cur ++ t) r
  | [], r, s, cur, _, _ => by rw [List.nil_append, List.append_nil]
  | c :: t, r, s, cur, h1, h2 => by
    rw [List.cons_append, termsG, if_neg (fun q => q.elim (fun e => h1 (by rw [e]; exact List.mem_cons_self)) (fun e => h2 (by rw [e]; exact List.mem_cons_self)))]
    rw [termsG_skip t r s (cur ++ [c]) (fun q => h1 (List.mem_cons_of_mem _ q)) (fun q => h2 (List.mem_cons_of_mem _ q)), List.append_assoc]
    rfl
/-- a term: it may stand, and holds no sign -/
structure Tm (t : LN) : Prop where
  ok : okT t = true
  p : 43 ∉ t
  m : 45 ∉ t
theorem termsG_one {t : LN} (h : Tm t) (s : Int) : termsG s [] t = some [(s, t)] := by
  have e := termsG_skip t [] s [] h.p h.m
  rw [List.append_nil, List.nil_append] at e
  rw [e, termsG, if_pos h.ok]
theorem termsG_op {t r : LN} (h : Tm t) (s : Int) {c : Nat} (hc : c = 43 ∨ c = 45) : termsG s [] (t ++ c :: r) = (termsG (if c = 45 then -1 else 1) [] r).map ((s, t) :: ·) := by
  rw [termsG_skip t (c :: r) s [] h.p h.m, List.nil_append, termsG, if_pos hc, if_pos h.ok]
theorem tm_num {t : LN} (h : isNumL t = true) : Tm t := by
  have hd : ∀ c ∈ t, 48 ≤ c ∧ c ≤ 57 := fun c hc => by
    unfold isNumL at h
    rw [Bool.and_eq_true] at h
    exact mem_digL.mp (of_decide_eq_true (List.all_eq_true.mp h.2 c hc))
  exact ⟨by unfold okT; rw [h]; simp, fun q => by have := hd _ q; omega, fun q => by have := hd _ q; omega⟩
theorem tm_here : Tm hereL := ⟨by decide, by decide, by decide⟩
theorem amt_cons {ls : Lab} {here a s v : Int} {t : LN} {r : List (Int × LN)} (h : isNumL t = true) (hv : numV t = v) : amountL ls here a ((s, t) :: r) = amountL ls here (a + s * v) r := by rw [amountL, if_pos h, hv]
theorem amt_here {ls : Lab} {here a s : Int} {r : List (Int × LN)} : amountL ls here a ((s, hereL) :: r) = amountL ls here (a + s * here) r := by rw [amountL, if_neg (by decide), if_pos rfl]
/-! ### deeds of the kinds 0 to 5 -/
structure KdOk (x : LN) : Prop where
  place : x ≠ placeL
  word : x ≠ wordL
  ask : x ≠ askL
  chg : x ≠ changeL
  tst : x ≠ testL
  col : x.getLast? ≠ some 58
  bl : 32 ∉ x
  re : 59 ∉ x
  ne : x ≠ []
theorem kd_ok {x : LN} (h : x ∈ kindsN) : KdOk x := by
  have : ∀ x ∈ kindsN, x ≠ placeL ∧ x ≠ wordL ∧ x ≠ askL ∧ x ≠ changeL ∧ x ≠ testL ∧ x.getLast? ≠ some 58 ∧ 32 ∉ x ∧ 59 ∉ x ∧ x ≠ [] := by decide
  obtain ⟨a, b, c, d, e, f, g, i, j⟩ := this x h
  exact ⟨a, b, c, d, e, f, g, i, j⟩
theorem deed_kd {x : LN} (h : x ∈ kindsN) (r : List LN) : deedL (x :: r) = aimedL (kindsN.idxOf x : Nat) r := by
  have k := kd_ok h
  rw [deedL, deedC, if_neg (fun q => q.elim k.place k.word), if_neg k.ask, if_neg (fun q => k.chg q.1), if_neg (fun q => k.tst q.1), if_pos h]
/-- a line of a kind: the kind, far or not, what is aimed at -/
def kdLine (x : LN) (far : Bool) (w : LN) : LN := x ++ 32 :: ((if far = true then farL ++ [32] else []) ++ w)
theorem words_kd {x w : LN} {far : Bool} (h : x ∈ kindsN) (h1 : 32 ∉ w) (h3 : w ≠ []) : wordsL (kdLine x far w) = x :: ((if far = true then [farL] else []) ++ [w]) := by
  have k := kd_ok h
  unfold kdLine
  rw [words_cons k.bl k.ne]
  cases far with
  | false => rw [if_neg Bool.false_ne_true, if_neg Bool.false_ne_true, List.nil_append, List.nil_append, words_last h1 h3]
  | true =>
    rw [if_pos rfl, if_pos rfl, List.append_assoc]
    show x :: wordsL (farL ++ 32 :: w) = _
    rw [words_cons (by decide) (by decide), words_last h1 h3]; rfl
theorem kd_free {x w : LN} {far : Bool} {c : Nat} (h : x ∈ kindsN) (hc : c = 59 ∨ c = 10) (h2 : c ∉ w) : c ∉ kdLine x far w := by
  have : ∀ x ∈ kindsN, 59 ∉ x ∧ 10 ∉ x := by decide
  have hx := this x h
  unfold kdLine
  intro z
  rcases List.mem_append.mp z with z | z
  · rcases hc with rfl | rfl
    · exact hx.1 z
    · exact hx.2 z
  rcases List.mem_cons.mp z with z | z
  · rcases hc with rfl | rfl <;> cases z
  rcases List.mem_append.mp z with z | z
  · cases far with
    | false => cases z
    | true =>
      rcases hc with rfl | rfl
      · exact (show (59 : Nat) ∉ farL ++ [32] by decide) z
      · exact (show (10 : Nat) ∉ farL ++ [32] by decide) z
  · exact h2 z
theorem aimed_far {kd : Int} {w : LN} {far : Bool} (h : w ≠ farL) : aimedL kd ((if far = true then [farL] else []) ++ [w]) = aimG kd (if far = true then 1 else 0) [w] := by
  cases far with
  | false => rw [if_neg Bool.false_ne_true, if_neg Bool.false_ne_true, List.nil_append, aimedL, if_neg h]
  | true => rw [if_pos rfl, if_pos rfl, List.cons_append, List.nil_append, aimedL, if_pos rfl]
/-- what a line of a kind is read as -/
theorem readP_kd {x w : LN} {far : Bool} (h : x ∈ kindsN) (h3 : w ≠ farL) : readP (x :: ((if far = true then [farL] else []) ++ [w])) = (aimG (kindsN.idxOf x : Nat) (if far = true then 1 else 0) [w]).map fun d => (none, some d) := by
  rw [readP, if_neg (kd_ok h).col, restL, deed_kd h, aimed_far h3]
theorem aimG_pool {kd far : Int} {w : LN} : aimG kd far [61 :: w] = (termsL w).map (Dd.pool (128 * kd + 64 * far)) := rfl
theorem read_pool {x w : LN} {far : Bool} {ts : List (Int × LN)} (h : x ∈ kindsN) (h1 : 32 ∉ w) (h2 : 59 ∉ w) (ht : termsL w = some ts) : readL (kdLine x far (61 :: w)) = some (none, some (.pool (128 * (kindsN.idxOf x : Nat) + 64 * (if far = true then 1 else 0)) ts)) := by
  have e := readP_kd (far := far) (w := 61 :: w) h (fun z => by rw [show farL = [102, 97, 114] by rfl] at z; cases z)
  unfold readL
  rw [pieces_plain (kd_free h (.inl rfl) (fun z => (List.mem_cons.mp z).elim (fun e => by cases e) h2)), words_kd h (fun z => (List.mem_cons.mp z).elim (fun e => by cases e) h1) (by simp), e, aimG_pool, ht]
  rfl
/-! ### k33: words written -/
def writ (c n : Int) : LN :=
  if mixV c 9833 5 = 0 ∧ n < 1000 then 48 :: numT n
  else if mixV c 9833 5 = 1 then numT (mixV c 9839 (n + 1)) ++ 43 :: numT (n - mixV c 9839 (n + 1))
  else if mixV c 9833 5 = 2 then numT (n + 7) ++ sL "-here+here-7"
  else numT n
structure Wr (w : LN) (n : Int) : Prop where
  ex : ∃ ts, termsL w = some ts ∧ ∀ ls here, amountL ls here 0 ts = some n
  cs : ∀ c ∈ w, c ≠ 32 ∧ c ≠ 59 ∧ c ≠ 10
  len : w.length ≤ 20
theorem wr_num {t : LN} {n : Int} (h : isNumL t = true) (hv : numV t = n) : Wr t n := by
  have hd : t.length ≤ 4 ∧ ∀ c ∈ t, 48 ≤ c ∧ c ≤ 57 := by
    unfold isNumL at h
    rw [Bool.and_eq_true] at h
    exact ⟨(of_decide_eq_true h.1).2, fun c hc => mem_digL.mp (of_decide_eq_true (List.all_eq_true.mp h.2 c hc))⟩
  refine ⟨⟨[(1, t)], termsG_one (tm_num h) 1, fun ls here => ?_⟩, fun c hc => by have := hd.2 c hc; omega, by omega⟩
  rw [amt_cons h hv, amountL]; congr 1; omega
theorem writ_ok {c n : Int} (n0 : 0 ≤ n) (n1 : n < 1024) : Wr (writ c n) n := by
  have p0 := mixV_lo (c := c) (p := 9839) (m := n + 1) (by omega)
  have p1 := mixV_hi (c := c) (p := 9839) (m := n + 1) (by omega)
  unfold writ
  generalize mixV c 9839 (n + 1) = p at *
  split
  · rename_i h
    obtain ⟨a, b⟩ := zero_big n0 h.2
    exact wr_num a b
  split
  · obtain ⟨a, b⟩ := num_big (n := p) p0 (by omega)
    obtain ⟨a', b'⟩ := num_big (n := n - p) (by omega) (by omega)
    have l1 := numT_len (n := p) (k := 4) p0 (by decide) (by show p < (10000 : Int); omega)
    have l2 := numT_len (n := n - p) (k := 4) (by omega) (by decide) (by show n - p < (10000 : Int); omega)
    refine ⟨⟨[(1, numT p), (1, numT (n - p))], ?_, fun ls here => ?_⟩, fun c hc => ?_, by rw [List.length_append, List.length_cons]; omega⟩
    · unfold termsL
      rw [termsG_op (tm_num a) 1 (.inl rfl), if_neg (by decide), termsG_one (tm_num a')]; rfl
    · rw [amt_cons a b, amt_cons a' b', amountL]; congr 1; omega
    · rcases List.mem_append.mp hc with z | z
      · have := numT_dig p0 c z; omega
      · rcases List.mem_cons.mp z with z | z
        · omega
        · have := numT_dig (n := n - p) (by omega) c z; omega
  split
  · obtain ⟨a, b⟩ := num_big (n := n + 7) (by omega) (by omega)
    have l1 := numT_len (n := n + 7) (k := 4) (by omega) (by decide) (by show n + 7 < (10000 : Int); omega)
    refine ⟨⟨[(1, numT (n + 7)), (-1, hereL), (1, hereL), (-1, [55])], ?_, fun ls here => ?_⟩, fun c hc => ?_, by rw [List.length_append]; have : (sL "-here+here-7").length = 12 := (by decide); omega⟩
    · unfold termsL
      rw [show sL "-here+here-7" = 45 :: (hereL ++ 43 :: (hereL ++ 45 :: [55])) by rfl, termsG_op (tm_num a) 1 (.inr rfl), termsG_op tm_here _ (.inl rfl), termsG_op tm_here _ (.inr rfl), termsG_one (tm_num (by decide))]; rfl
    · rw [amt_cons a b, amt_here, amt_here, amt_cons (v := 7) (by decide) (by decide), amountL]; congr 1; omega
    · rcases List.mem_append.mp hc with z | z
      · have := numT_dig (n := n + 7) (by omega) c z; omega
      · exact (show ∀ c ∈ sL "-here+here-7", c ≠ 32 ∧ c ≠ 59 ∧ c ≠ 10 by decide) c z
  · obtain ⟨a, b⟩ := num_big n0 (show n < 10000 by omega)
    exact wr_num a b
/-! ### pools -/
theorem madeGet_app (m : Made) (x n y : Int) : madeGet (m ++ [(x, n)]) y = (madeGet m y).or (if x = y then some n else none) := by
  unfold madeGet
  rw [List.find?_append]
  cases (m.find? fun q => decide (q.1 = y)) with
  | some q => rfl
  | none =>
    rw [Option.none_or, List.find?_cons]
    by_cases h : x = y
    · rw [decide_eq_true h, if_pos h]; rfl
    · rw [decide_eq_false h, if_neg h]; rfl
structure PI (ws pool : List Int) (m : Made) : Prop where
  lo : ∀ i : Nat, i < ws.length → madeGet m (i : Int) = ws[i]?
  hi : ∀ j : Nat, j < pool.length → madeGet m (63 - (j : Int)) = pool[j]?
  no : ∀ x : Int, (ws.length : Int) ≤ x → x + (pool.length : Int) ≤ 63 → madeGet m x = none
theorem pi_0 : PI [] [] [] := ⟨fun i h => absurd h (Nat.not_lt_zero _), fun i h => absurd h (Nat.not_lt_zero _), fun _ _ _ => rfl⟩
section
variable {ws pool : List Int} {m : Made} {n w : Int}
theorem PI.addP (p : PI ws pool m) (h : ws.length + pool.length ≤ 63) : PI ws (pool ++ [n]) (m ++ [((63 - (pool.length : Int) : Int), n)]) := by
  refine ⟨fun i hi => ?_, fun j hj => ?_, fun x h0 h1 => ?_⟩
  · rw [madeGet_app, p.lo i hi, List.getElem?_eq_getElem hi]; rfl
  · rw [List.length_append, List.length_singleton] at hj
    rw [madeGet_app]
    by_cases c : j < pool.length
    · rw [p.hi j c, List.getElem?_append_left c, List.getElem?_eq_getElem c]; rfl
    · have e : j = pool.length := by omega
      subst e
      rw [p.no _ (by omega) (by omega), Option.none_or, if_pos rfl, List.getElem?_append_right (Nat.le_refl _), Nat.sub_self]; rfl
  · rw [List.length_append, List.length_singleton] at h1
    rw [madeGet_app, p.no x h0 (by omega), Option.none_or, if_neg (by omega)]
theorem PI.addW (p : PI ws pool m) (h : ws.length + pool.length ≤ 63) : PI (ws ++ [w]) pool (m ++ [((ws.length : Int), w)]) := by
  refine ⟨fun i hi => ?_, fun j hj => ?_, fun x h0 h1 => ?_⟩
  · rw [List.length_append, List.length_singleton] at hi
    rw [madeGet_app]
    by_cases c : i < ws.length
    · rw [p.lo i c, List.getElem?_append_left c, List.getElem?_eq_getElem c]; rfl
    · have e : i = ws.length := by omega
      subst e
      rw [p.no _ (by omega) (by omega), Option.none_or, if_pos rfl, List.getElem?_append_right (Nat.le_refl _), Nat.sub_self]; rfl
  · rw [madeGet_app, p.hi j hj, List.getElem?_eq_getElem hj]; rfl
  · rw [List.length_append, List.length_singleton] at h0
    rw [madeGet_app, p.no x (by omega) h1, Option.none_or, if_neg (by omega)]
end
def poolF : List Int → List Int → List Int
  | acc, [] => acc
  | acc, n :: r => if n ∈ acc then poolF acc r else poolF (acc ++ [n]) r
theorem poolF_pre : ∀ (ns acc : List Int), ∃ r, poolF acc ns = acc ++ r ∧ r.length ≤ ns.length
  | [], acc => ⟨[], by simp [poolF], Nat.le_refl _⟩
  | n :: ns, acc => by
    rw [poolF]
    split
    · obtain ⟨r, e, l⟩ := poolF_pre ns acc
      exact ⟨r, e, by rw [List.length_cons]; omega⟩
    · obtain ⟨r, e, l⟩ := poolF_pre ns (acc ++ [n])
      exact ⟨n :: r, by rw [e]; simp, by rw [List.length_cons, List.length_cons]; omega⟩
theorem poolF_idx {acc ns : List Int} {n : Int} (h : n ∈ acc) : (poolF acc ns).idxOf n = acc.idxOf n := by
  obtain ⟨r, e, _⟩ := poolF_pre ns acc
  rw [e, List.idxOf_append, if_pos h]
theorem poolF_mem : ∀ {ns acc : List Int} {n : Int}, n ∈ acc ∨ n ∈ ns → n ∈ poolF acc ns
  | [], acc, n, h => h.elim id (fun z => by cases z)
  | x :: ns, acc, n, h => by
    rw [poolF]
    split
    · rename_i c
      refine poolF_mem (h.elim .inl fun z => ?_)
      rcases List.mem_cons.mp z with e | e
      · exact .inl (e ▸ c)
      · exact .inr e
    · refine poolF_mem ?_
      rcases h with h | h
      · exact .inl (List.mem_append_left _ h)
      · rcases List.mem_cons.mp h with e | e
        · exact .inl (List.mem_append_right _ (by rw [e]; exact List.mem_cons_self))
        · exact .inr e
/-- a line with a pool word -/
structure PLine (l : LN) (b n : Int) : Prop where
  ex : ∃ ts, readL l = some (none, some (.pool b ts)) ∧ ∀ ls here, amountL ls here 0 ts = some n
  n0 : 0 ≤ n
  n1 : n < 1024
def wordP (P : List Int) (q : LN × Int × Int) : Int := q.2.1 + (63 - (P.idxOf q.2.2 : Nat))
theorem pool_gone : ∀ (xs : List (LN × Int × Int)) (acc : List (Option Dd)) (k j : Nat), (∀ q ∈ xs, PLine q.1 q.2.1 q.2.2) → k + xs.length ≤ 30 → ∃ ds, goneG acc [] (k : Int) j (xs.map (·.1)) = .ok (acc ++ ds, []) ∧
    ∀ (m : Made) (ws pool : List Int) (j' : Nat), PI ws pool m → ws.length = k → pool.length ≤ k → ∃ m', cellsG [] m pool (k : Int) j' ds = .ok m' ∧ PI (ws ++ xs.map (wordP (poolF pool (xs.map (·.2.2))))) (poolF pool (xs.map (·.2.2))) m'
  | [], acc, k, j, _, _ => ⟨[], by simp [goneG], fun m ws pool j' p _ _ => ⟨m, by simp [cellsG], by simpa [poolF] using p⟩⟩
  | q :: xs, acc, k, j, h, hl => by
    obtain ⟨⟨ts, hr, ha⟩, n0, n1⟩ := h q List.mem_cons_self
    rw [List.length_cons] at hl
    have hs : goneStep q.1 [] (k : Int) j = .ok (some (.pool q.2.1 ts), [], (k : Int) + 1) := by
      unfold goneStep
      rw [hr]
      dsimp only [tellL]
      have w : withinL ((k : Int) + 1) 64 j = .ok ((k : Int) + 1) := by unfold withinL; rw [if_pos ⟨by omega, by omega⟩]
      unfold moveG
      dsimp only
      rw [w]
    obtain ⟨ds, g2, c2⟩ := pool_gone xs (acc ++ [some (.pool q.2.1 ts)]) (k + 1) (j + 1) (fun x hx => h x (List.mem_cons_of_mem _ hx)) (by omega)
    refine ⟨some (.pool q.2.1 ts) :: ds, ?_, fun m ws pool j' p wl pl => ?_⟩
    · rw [List.map_cons, goneG, hs]
      dsimp only
      rw [show (k : Int) + 1 = ((k + 1 : Nat) : Int) by omega, g2]
      simp
    · have aw : amtW [] (k : Int) ts 1023 j' = .ok q.2.2 := by
        unfold amtW amtL
        rw [ha]
        dsimp only
        unfold withinL; rw [if_pos ⟨n0, by omega⟩]
      have key : ∀ (m1 : Made) (p1 : List Int), poolL m pool q.2.2 j' = .ok (m1, p1, 63 - (p1.idxOf q.2.2 : Nat)) → PI ws p1 m1 → p1.length ≤ k + 1 → q.2.2 ∈ p1 → poolF pool ((q :: xs).map (·.2.2)) = poolF p1 (xs.map (·.2.2)) →
          ∃ m', cellsG [] m pool (k : Int) j' (some (.pool q.2.1 ts) :: ds) = .ok m' ∧ PI (ws ++ (q :: xs).map (wordP (poolF pool ((q :: xs).map (·.2.2))))) (poolF pool ((q :: xs).map (·.2.2))) m' := fun m1 p1 e p1i pl1 hm ep => by
        have mk : makeL m1 (k : Int) (q.2.1 + (63 - (p1.idxOf q.2.2 : Nat))) j' = .ok (m1 ++ [((k : Int), q.2.1 + (63 - (p1.idxOf q.2.2 : Nat)))]) := by
          unfold makeL
          rw [if_neg]
          intro z
          rcases z with z | z
          · rw [p1i.no _ (by omega) (by omega)] at z; cases z
          · omega
        have hc : cellStep [] m pool (k : Int) j' (some (.pool q.2.1 ts)) = .ok (m1 ++ [((k : Int), q.2.1 + (63 - (p1.idxOf q.2.2 : Nat)))], p1, (k : Int) + 1) := by
          unfold cellStep wordOf
          dsimp only
          rw [aw]
          dsimp only
          rw [e]
          dsimp only
          rw [mk]
        have pw := p1i.addW (w := q.2.1 + (63 - (p1.idxOf q.2.2 : Nat))) (by omega)
        rw [wl] at pw
        obtain ⟨m', e1, e2⟩ := c2 _ _ p1 (j' + 1) pw (by rw [List.length_append, wl]; rfl) pl1
        refine ⟨m', ?_, ?_⟩
        · rw [cellsG, hc]
          dsimp only
          rw [show (k : Int) + 1 = ((k + 1 : Nat) : Int) by omega, e1]
        · rw [ep]
          rw [List.append_assoc] at e2
          have : wordP (poolF p1 (xs.map (·.2.2))) q = q.2.1 + (63 - (p1.idxOf q.2.2 : Nat)) := by unfold wordP; rw [poolF_idx hm]
          rw [List.map_cons, this]
          exact e2
      by_cases c : q.2.2 ∈ pool
      · refine key m pool (by unfold poolL; rw [if_pos c]) p (by omega) c (by rw [List.map_cons, poolF, if_pos c])
      · refine key (m ++ [((63 - (pool.length : Int) : Int), q.2.2)]) (pool ++ [q.2.2]) ?_ (p.addP (by omega)) (by rw [List.length_append]; simp; omega) (List.mem_append_right _ List.mem_cons_self) (by rw [List.map_cons, poolF, if_neg c])
        have ei : (pool ++ [q.2.2]).idxOf q.2.2 = pool.length := by rw [List.idxOf_append, if_neg c]; simp
        unfold poolL
        rw [if_neg c]
        have mk : makeL m (63 - (pool.length : Int)) q.2.2 j' = .ok (m ++ [((63 - (pool.length : Int) : Int), q.2.2)]) := by
          unfold makeL
          rw [if_neg]
          intro z
          rcases z with z | z
          · rw [p.no _ (by omega) (by omega)] at z; cases z
          · omega
        rw [mk, ei]
theorem cells_PI {ws pool : List Int} {m : Made} (p : PI ws pool m) (h : ws.length + pool.length ≤ 64) : cellsOf m = ws ++ List.replicate (64 - ws.length - pool.length) 0 ++ pool.reverse := by
  apply List.ext_getElem?
  intro i
  unfold cellsOf
  rw [List.getElem?_map]
  by_cases hi : i < 64
  · rw [List.getElem?_range hi]
    show some ((madeGet m (i : Int)).getD 0) = _
    by_cases h1 : i < ws.length
    · rw [p.lo i h1, List.append_assoc, List.getElem?_append_left h1, List.getElem?_eq_getElem h1]; rfl
    · by_cases h2 : i + pool.length < 64
      · rw [p.no _ (by omega) (by omega), List.getElem?_append_left (by rw [List.length_append, List.length_replicate]; omega), List.getElem?_append_right (by omega), List.getElem?_replicate, if_pos (by omega)]; rfl
      · have hj : 63 - i < pool.length := by omega
        have e := p.hi (63 - i) hj
        rw [show (63 : Int) - ((63 - i : Nat) : Int) = (i : Int) by omega] at e
        rw [e, List.getElem?_append_right (by rw [List.length_append, List.length_replicate]; omega), List.length_append, List.length_replicate, List.getElem?_reverse (by omega)]
        rw [show pool.length - 1 - (i - (ws.length + (64 - ws.length - pool.length))) = 63 - i by omega, List.getElem?_eq_getElem hj]; rfl
  · rw [List.getElem?_eq_none (by simp; omega), List.getElem?_eq_none (by simp; omega)]; rfl
theorem asm_pool {xs : List (LN × Int × Int)} (h : ∀ q ∈ xs, PLine q.1 q.2.1 q.2.2) (hn : ∀ q ∈ xs, 10 ∉ q.1) (hl : xs.length ≤ 30) :
    assembledL (TL.joinL [10] (xs.map (·.1))) = .ok (xs.map (wordP (poolF [] (xs.map (·.2.2)))) ++ List.replicate (64 - xs.length - (poolF [] (xs.map (·.2.2))).length) 0 ++ (poolF [] (xs.map (·.2.2))).reverse) := by
  cases xs with
  | nil =>
    show Except.ok (cellsOf []) = _
    rw [show cellsOf [] = List.replicate 64 0 by decide +kernel]; rfl
  | cons q r =>
    obtain ⟨ds, g, c⟩ := pool_gone (q :: r) [] 0 1 h (by omega)
    obtain ⟨m, c, p⟩ := c [] [] [] 1 pi_0 rfl (Nat.zero_le _)
    unfold assembledL
    rw [cutAt_join 10 (by simp) (fun p hp => by obtain ⟨x, hx, rfl⟩ := List.mem_map.mp hp; exact hn x hx)]
    have g' : goneL ((q :: r).map (·.1)) = .ok (ds, []) := g
    rw [g']
    dsimp only
    have c' : cellsG [] [] [] 0 1 ds = .ok m := c
    rw [c']
    dsimp only
    obtain ⟨r', e, l⟩ := poolF_pre ((q :: r).map (·.2.2)) []
    have pl : (poolF [] ((q :: r).map (·.2.2))).length ≤ 30 := by rw [e, List.nil_append]; rw [List.length_map] at l; omega
    rw [cells_PI p (by rw [List.nil_append, List.length_map]; omega), List.nil_append, List.length_map]
/-! ### k33: the law's own defs -/
theorem oL_app (a b : LN) : oL (a ++ b) = oL a ++ oL b := by
  have e : TL.tl (oL a ++ oL b) = a ++ b := by rw [TL.tl_append]
  rw [← oL_tl (oL a ++ oL b), e]
theorem oL_join (s : LN) (ps : List LN) : oL (TL.joinL s ps) = Str.join (oL s) (ps.map oL) := by
  have e : TL.tl (Str.join (oL s) (ps.map oL)) = TL.joinL s ps := by
    rw [TL.tl_join, List.map_map]
    have : (TL.tl ∘ oL : LN → LN) = id := rfl
    rw [this, List.map_id]
  rw [← oL_tl (Str.join (oL s) (ps.map oL)), e]
theorem oL_len (t : LN) : (oL t).length = t.length := SX.S_len t
theorem lnsD_strs (ps : List LN) : lnsD ps = .list (strsD (ps.map oL)) := by unfold lnsD strsD; rw [List.map_map] <;> rfl
theorem sum_len {b : Nat} {ps : List LN} (h : ∀ p ∈ ps, p.length ≤ b) : (((ps.map oL).map (·.length)).sum) ≤ ps.length * b := by
  have := sum_le (b := b) (ys := ps.map oL) fun s hs => by
    obtain ⟨p, hp, rfl⟩ := List.mem_map.mp hs
    rw [oL_len]; exact h p hp
  rwa [List.length_map] at this
theorem dv_joinL {K : PySem.W.Frag} {H : Hp} {F : FS} {W : Hp → Prop} {σ : L2.St} {to te : TE} {ps : List LN} {s : LN} {b : Nat} (ha : Dv K F W to σ H (.str (oL s))) (hb : Dv K F W te σ H (lnsD ps)) (hl : ∀ p ∈ ps, p.length ≤ b) (hn : ps.length * b + ps.length * s.length ≤ 1000000) : Dv K F W (tM1 (rJoin K) to te) σ H (.str (oL (TL.joinL s ps))) :=
  (dv_join (ys := ps.map oL) ha (hb.eq (lnsD_strs ps)) (by
    have := sum_len hl
    rw [List.length_map, oL_len s]; omega)).eq (by rw [oL_join])
theorem joinL_small {ps : List LN} {s : LN} {b : Nat} (hl : ∀ p ∈ ps, p.length ≤ b) : (TL.joinL s ps).length ≤ ps.length * b + ps.length * s.length := by
  have h1 := joinL_len s ps
  have h2 := sum_len hl
  rw [List.map_map] at h2
  have e : ps.map ((fun x : Str => x.length) ∘ oL) = ps.map List.length := List.map_congr_left fun p _ => oL_len p
  rw [e] at h2
  omega
theorem zeros_range {z : Int} : fmD (fun _ => true) (fun _ => PyData.int 0) (List.range z.toNat) = intsL (List.replicate z.toNat 0) := by
  rw [fmD_all]
  unfold intsL
  rw [List.map_replicate]
  rw [List.map_const', List.length_range]
theorem lnAt {xs : List LN} {i : Nat} (h : i < xs.length) : (xs.map lnD)[i]? = some (lnD (xs.getD i [])) := by
  rw [List.getElem?_map, List.getElem?_eq_getElem h]
  simp [List.getD_eq_getElem?_getD, List.getElem?_eq_getElem h]
theorem oL_num (n : Int) : oL (numT n) = toS n := oL_tl _
theorem Da.intsR {K : PySem.W.Frag} {H : Hp} {F : FS} {v : V} {ns : List Int} (h : Da K H F v (.list (Ch.intsL ns))) : ∃ b, v = .ref b ∧ H b = some (.lst (ns.map V.int)) ∧ ¬ F b := by
  cases h with | lst h1 h2 =>
  have e := h2.ints
  subst e
  exact ⟨_, rfl, h1.at_, h1.no⟩
theorem dvEqD {K : PySem.W.Frag} {H : Hp} {F : FS} {W : Hp → Prop} {σ : L2.St} {ta tb : TE} {d e : PyData} (ha : Dv K F W ta σ H d) (hb : Dv K F W tb σ H e) (sd : SeqAt.shaped d = true) (se : SeqAt.shaped e = true) : Dv K F W (tOp (rEqD K) ta tb) σ H (.bool (PyData.eqv d e)) := fun H1 m o Q q =>
  x_eqD o (ha.mv m) (hb.mv m) sd se fun H2 m2 o2 => q _ _ m2 o2 (.bl _)
theorem eqvI (a b : List Int) : PyData.eqv (.list (intsL a)) (.list (intsL b)) = decide (a = b) := eqv_intsL a b
def prePool (K : PySem.W.Frag) (vs : List V) (H : Hp) (F : FS) (_ : Hp → Prop) (d : List PyData) : Prop := ∃ (v : V) (ns : List Int), vs = [v] ∧ Da K H F v (.list (intsL ns)) ∧ ns.length ≤ 1000 ∧ d = intsL (poolF [] ns)
def preWrit (vs : List V) (_ : Hp) (_ : FS) (_ : Hp → Prop) (d : PyData) : Prop := ∃ c n : Int, vs = [.int c, .int n] ∧ 0 ≤ n ∧ n < 1024 ∧ d = lnD (writ c n)
/-! two lists of one's own -/
def F2 (D1 D2 : Addr) : FS := withF (withF noF D1) D2
def W2 (D1 D2 : Addr) (xs ys : List V) : Hp → Prop := fun H => H D1 = some (.lst xs) ∧ H D2 = some (.lst ys)
section
variable {D1 D2 : Addr} {xs ys : List V} {H : Hp} {v : V}
theorem wo2 : Wo (F2 D1 D2) (W2 D1 D2 xs ys) := ⟨fun H H' k _ w => ⟨k D1 _ (.inl (.inr rfl)) w.1, k D2 _ (.inr rfl) w.2⟩⟩
theorem ok2 (h1 : H D1 = some (.lst xs)) (h2 : H D2 = some (.lst ys)) : Ok (F2 D1 D2) (W2 D1 D2 xs ys) H := ⟨fun b f => by
  rcases f with (f | f) | f
  · exact f.elim
  · rw [f, h1]; exact fun z => (by cases z)
  · rw [f, h2]; exact fun z => (by cases z), h1, h2⟩
theorem mv2a {o : HO} : Mv (F2 D1 D2) H (F2 D1 D2) (upd H D1 o) := ⟨fun b o n e => by rw [upd_ne (fun q => n (by rw [q]; exact .inl (.inr rfl)))]; exact e, fun _ f => .inl f⟩
theorem mv2b {o : HO} : Mv (F2 D1 D2) H (F2 D1 D2) (upd H D2 o) := ⟨fun b o n e => by rw [upd_ne (fun q => n (by rw [q]; exact .inr rfl))]; exact e, fun _ f => .inl f⟩
end
def num33 (nums : List Int) (c : Int) : Int := if mixV c 9871 3 = 0 ∧ nums ≠ [] then nums.getD (mixV c 9859 (nums.length : Int)).toNat 0 else c % 1024
def nums33 : List Int → List Int → List Int
  | acc, [] => acc
  | acc, c :: r => nums33 (acc ++ [num33 acc c]) r
theorem num33_in {nums : List Int} {c : Int} (h : ∀ n ∈ nums, 0 ≤ n ∧ n < 1024) : 0 ≤ num33 nums c ∧ num33 nums c < 1024 := by
  unfold num33
  split
  · exact menu_in (fun n => 0 ≤ n ∧ n < 1024) h (by decide) _
  · omega
def addL : LN := sL "add"
def andL : LN := sL "and"
def line33 (c n : Int) : LN := kdLine (if mixV c 9857 2 = 0 then addL else andL) (decide (mixV c 9851 2 ≠ 0)) (61 :: writ c n)
def hdA : List LN := [addL, andL]
def hdB : List LN := [[32], sL " far "]
theorem line33_eq (c n : Int) : (hdA.getD (mixV c 9857 2).toNat [] ++ hdB.getD (mixV c 9851 2).toNat []) ++ [61] ++ writ c n = line33 c n := by
  have a0 := mixV_lo (c := c) (p := 9857) (m := 2) (by decide)
  have a1 := mixV_hi (c := c) (p := 9857) (m := 2) (by decide)
  have b0 := mixV_lo (c := c) (p := 9851) (m := 2) (by decide)
  have b1 := mixV_hi (c := c) (p := 9851) (m := 2) (by decide)
  unfold line33
  generalize writ c n = w
  have ha : mixV c 9857 2 = 0 ∨ mixV c 9857 2 = 1 := by omega
  have hb : mixV c 9851 2 = 0 ∨ mixV c 9851 2 = 1 := by omega
  rcases ha with ha | ha <;> rcases hb with hb | hb <;> rw [ha, hb] <;> rfl
theorem line33_ok (c : Int) {n : Int} (n0 : 0 ≤ n) (n1 : n < 1024) : PLine (line33 c n) (128 * (1 - mixV c 9857 2) + 64 * mixV c 9851 2) n ∧ 10 ∉ line33 c n ∧ (line33 c n).length ≤ 40 := by
  have a0 := mixV_lo (c := c) (p := 9857) (m := 2) (by decide)
  have a1 := mixV_hi (c := c) (p := 9857) (m := 2) (by decide)
  have b0 := mixV_lo (c := c) (p := 9851) (m := 2) (by decide)
  have b1 := mixV_hi (c := c) (p := 9851) (m := 2) (by decide)
  obtain ⟨⟨ts, e1, e2⟩, cs, wl⟩ := writ_ok (c := c) n0 n1
  have hx : (if mixV c 9857 2 = 0 then addL else andL) ∈ kindsN := by split <;> decide
  have c59 : 59 ∉ writ c n := fun z => (cs 59 z).2.1 rfl
  have r := read_pool (x := if mixV c 9857 2 = 0 then addL else andL) (far := decide (mixV c 9851 2 ≠ 0)) hx (fun z => (cs 32 z).1 rfl) c59 e1
  refine ⟨⟨⟨ts, ?_, e2⟩, n0, n1⟩, ?_, ?_⟩
  · unfold line33
    rw [r]
    have ha : mixV c 9857 2 = 0 ∨ mixV c 9857 2 = 1 := by omega
    have hb : mixV c 9851 2 = 0 ∨ mixV c 9851 2 = 1 := by omega
    rcases ha with ha | ha <;> rcases hb with hb | hb <;> rw [ha, hb] <;> rfl
  · unfold line33
    exact kd_free hx (.inr rfl) fun z => (List.mem_cons.mp z).elim (fun e => by cases e) fun z => (cs 10 z).2.2 rfl
  · unfold line33 kdLine
    have : (if mixV c 9857 2 = 0 then addL else andL).length = 3 := by split <;> rfl
    rw [List.length_append, List.length_cons, List.length_append, List.length_cons, this]
    split
    · have : (farL ++ [32]).length = 4 := rfl
      omega
    · simp; omega
theorem getD_mem {xs : List Int} {i : Nat} (h : i < xs.length) : xs[i]? = some (xs.getD i 0) := by rw [List.getD_eq_getElem?_getD, List.getElem?_eq_getElem h]; rfl
def lines33 : List Int → List Int → List LN
  | c :: cs, n :: ns => line33 c n :: lines33 cs ns
  | _, _ => []
def ws33 (P : List Int) : List Int → List Int → List Int
  | c :: cs, n :: ns => (128 * (1 - mixV c 9857 2) + 64 * mixV c 9851 2 + (63 - (P.idxOf n : Nat))) :: ws33 P cs ns
  | _, _ => []
theorem lines33_snoc : ∀ {cs ns : List Int} {c n : Int}, cs.length = ns.length → lines33 (cs ++ [c]) (ns ++ [n]) = lines33 cs ns ++ [line33 c n]
  | [], [], _, _, _ => rfl
  | x :: cs, y :: ns, c, n, h => by
    show line33 x y :: lines33 (cs ++ [c]) (ns ++ [n]) = _
    rw [lines33_snoc (by simpa using h)]; rfl
  | [], _ :: _, _, _, h => by simp at h
  | _ :: _, [], _, _, h => by simp at h
theorem lines33_zip : ∀ {cs ns : List Int}, cs.length = ns.length → (∀ n ∈ ns, 0 ≤ n ∧ n < 1024) → ∃ xs : List (LN × Int × Int), xs.map (·.1) = lines33 cs ns ∧ xs.map (·.2.2) = ns ∧ (∀ P, xs.map (wordP P) = ws33 P cs ns) ∧ (∀ q ∈ xs, PLine q.1 q.2.1 q.2.2) ∧ (∀ q ∈ xs, 10 ∉ q.1) ∧ (∀ l ∈ lines33 cs ns, l.length ≤ 40) ∧ (lines33 cs ns).length = ns.length ∧ xs.length = ns.length
  | [], [], _, _ => ⟨[], rfl, rfl, fun _ => rfl, fun q h => (by cases h), fun q h => (by cases h), fun q h => (by cases h), rfl, rfl⟩
  | c :: cs, n :: ns, hl, h => by
    obtain ⟨xs, e1, e2, e3, e4, e5, e6, e7, e8⟩ := lines33_zip (cs := cs) (ns := ns) (by simpa using hl) fun x hx => h x (List.mem_cons_of_mem _ hx)
    obtain ⟨n0, n1⟩ := h n List.mem_cons_self
    obtain ⟨p, f, l⟩ := line33_ok c n0 n1
    refine ⟨(line33 c n, 128 * (1 - mixV c 9857 2) + 64 * mixV c 9851 2, n) :: xs, ?_, ?_, fun P => ?_, fun q hq => ?_, fun q hq => ?_, fun q hq => ?_, ?_, ?_⟩
    · rw [List.map_cons, e1]; rfl
    · rw [List.map_cons, e2]
    · rw [List.map_cons, e3]; rfl
    · rcases List.mem_cons.mp hq with e | e
      · rw [e]; exact p
      · exact e4 q e
    · rcases List.mem_cons.mp hq with e | e
      · rw [e]; exact f
      · exact e5 q e
    · rcases List.mem_cons.mp hq with e | e
      · rw [e]; exact l
      · exact e6 q e
    · show (line33 c n :: lines33 cs ns).length = _
      rw [List.length_cons, List.length_cons, e7]
    · rw [List.length_cons, List.length_cons, e8]
  | [], _ :: _, h, _ => by simp at h
  | _ :: _, [], h, _ => by simp at h
theorem ws33_len {P : List Int} : ∀ {cs ns : List Int}, cs.length = ns.length → (ws33 P cs ns).length = ns.length
  | [], [], _ => rfl
  | c :: cs, n :: ns, h => by
    show (_ :: ws33 P cs ns).length = _
    rw [List.length_cons, List.length_cons, ws33_len (by simpa using h)]
  | [], _ :: _, h => by simp at h
  | _ :: _, [], h => by simp at h
theorem ws33_at {P : List Int} : ∀ {cs ns : List Int} {i : Nat} {c n : Int}, cs[i]? = some c → ns[i]? = some n → (ws33 P cs ns)[i]? = some (128 * (1 - mixV c 9857 2) + 64 * mixV c 9851 2 + (63 - (P.idxOf n : Nat)))
  | c :: cs, n :: ns, 0, _, _, h1, h2 => by cases h1; cases h2; rfl
  | c :: cs, n :: ns, i + 1, _, _, h1, h2 => ws33_at (cs := cs) (ns := ns) (i := i) h1 h2
  | [], _, i, _, _, h, _ => by simp at h
  | _ :: _, [], i, _, _, _, h => by simp at h
theorem asm33 {cs ns : List Int} (hl : cs.length = ns.length) (h30 : cs.length ≤ 30) (h : ∀ n ∈ ns, 0 ≤ n ∧ n < 1024) :
    assembledL (TL.joinL [10] (lines33 cs ns)) = .ok (ws33 (poolF [] ns) cs ns ++ List.replicate (64 - ns.length - (poolF [] ns).length) 0 ++ (poolF [] ns).reverse) ∧ (∀ l ∈ lines33 cs ns, l.length ≤ 40) ∧ (lines33 cs ns).length = ns.length ∧ (poolF [] ns).length ≤ ns.length := by
  obtain ⟨xs, e1, e2, e3, e4, e5, e6, e7, e8⟩ := lines33_zip hl h
  have := asm_pool e4 e5 (by omega)
  rw [e1, e2, e3, e8] at this
  obtain ⟨r, er, l⟩ := poolF_pre ns []
  exact ⟨this, e6, e7, by rw [er, List.nil_append]; exact l⟩
theorem hd33_len (i j : Nat) : (hdA.getD i [] ++ hdB.getD j []).length ≤ 8 := by
  have gA : (hdA.getD i []).length ≤ 3 := by
    rw [List.getD_eq_getElem?_getD]
    cases e : hdA[i]? with
    | none => simp
    | some x => exact (show ∀ x ∈ hdA, x.length ≤ 3 by decide) x (List.mem_of_getElem? e)
  have gB : (hdB.getD j []).length ≤ 5 := by
    rw [List.getD_eq_getElem?_getD]
    cases e : hdB[j]? with
    | none => simp
    | some x => exact (show ∀ x ∈ hdB, x.length ≤ 5 by decide) x (List.mem_of_getElem? e)
  rw [List.length_append]; omega
section
variable {K : PySem.W.Frag} {H : Hp} {F : FS} {W : Hp → Prop} {σ : L2.St} {ta tb tc : TE} {i j : Int} {c n : Int} {hd : LN}
theorem dv_hd33 (wo : Wo F W) (ha : ∀ H1, Mv F H F H1 → Ok F W H1 → Val ta σ H1 (.int i)) (hb : ∀ H1, Mv F H F H1 → Ok F W H1 → Val tb σ H1 (.int j)) (i0 : 0 ≤ i ∧ i < 2) (j0 : 0 ≤ j ∧ j < 2) :
    Dv K F W (tOp (fun x y H Q => ∃ i j, x = .str i ∧ y = .str j ∧ i.length + j.length ≤ sizeLine ∧ Q (.str (i ++ j)) H) (tOp (rIxL K) (tLst (tCons (tC (.str "add")) (tCons (tC (.str "and")) tNil))) ta) (tOp (rIxL K) (tLst (tCons (tC (.str " ")) (tCons (tC (.str " far ")) tNil))) tb)) σ H (lnD (hdA.getD i.toNat [] ++ hdB.getD j.toNat [])) := by
  have l := hd33_len i.toNat j.toNat
  rw [List.length_append] at l
  have lA := oL_len (hdA.getD i.toNat [])
  have lB := oL_len (hdB.getD j.toNat [])
  exact (dv_catS (dv_ixL (ds := hdA.map lnD) (d := lnD (hdA.getD i.toNat [])) (Dv.eq (dv_lst wo (da_cons dv_s (da_cons dv_s da_nil))) (by rfl)) ha i0.1 (lnAt (by show _ < 2; omega))) (dv_ixL (ds := hdB.map lnD) (d := lnD (hdB.getD j.toNat [])) (Dv.eq (dv_lst wo (da_cons dv_s (da_cons dv_s da_nil))) (by rfl)) hb j0.1 (lnAt (by show _ < 2; omega))) (by rw [lA, lB]; omega)).eq (show _ = PyData.str (oL (_ ++ _)) by rw [oL_app])
theorem dv_ln33 (le : hd ++ [61] ++ writ c n = line33 c n) (hl : hd.length ≤ 8) (n0 : 0 ≤ n) (n1 : n < 1024) (ha : Dv K F W ta σ H (lnD hd)) (hc : Dv K F W tc σ H (lnD (writ c n))) :
    Dv K F W (tOp (fun x y H Q => ∃ i j, x = .str i ∧ y = .str j ∧ i.length + j.length ≤ sizeLine ∧ Q (.str (i ++ j)) H) (tOp (fun x y H Q => ∃ i j, x = .str i ∧ y = .str j ∧ i.length + j.length ≤ sizeLine ∧ Q (.str (i ++ j)) H) ta (tC (.str "="))) tc) σ H (lnD (line33 c n)) := by
  have lW := (writ_ok (c := c) n0 n1).len
  have lWo := oL_len (writ c n)
  have lH := oL_len hd
  have l1 : ("=" : Str).length = 1 := by decide
  exact (dv_catS (dv_catS ha dv_s (by rw [lH]; omega)) hc (by rw [len_app, lH, lWo]; omega)).eq (show _ = PyData.str (oL (line33 c n)) by rw [← le, oL_app, oL_app]; rfl)
end
theorem lines33_len : ∀ (cs ns : List Int), (lines33 cs ns).length ≤ ns.length
  | [], [] => Nat.le_refl _
  | [], _ :: _ => Nat.zero_le _
  | _ :: _, [] => Nat.zero_le _
  | c :: cs, n :: ns => by
    have := lines33_len cs ns
    show (_ :: lines33 cs ns).length ≤ _
    rw [List.length_cons, List.length_cons]; omega
theorem Da.strV {K : PySem.W.Frag} {H : Hp} {F : FS} {v : V} {l : LN} (h : Da K H F v (lnD l)) : v = .str (oL l) := by cases h; rfl
theorem fs_ws {ws P : List Int} {i : Nat} {w : Int} (h : ws[i]? = some w) : (ws ++ List.replicate (64 - ws.length - P.length) 0 ++ P.reverse)[i]? = some w := by
  have hl := (List.getElem?_eq_some_iff.mp h).1
  rw [List.append_assoc, List.getElem?_append_left hl, h]
theorem fs_pool {ws P : List Int} {n : Int} (hn : n ∈ P) (hl : ws.length + P.length ≤ 64) : (ws ++ List.replicate (64 - ws.length - P.length) 0 ++ P.reverse)[63 - P.idxOf n]? = some n := by
  obtain ⟨e, _, l⟩ := idxI hn
  rw [List.getElem?_append_right (by rw [List.length_append, List.length_replicate]; omega), List.length_append, List.length_replicate, List.getElem?_reverse (by omega)]
  rw [show P.length - 1 - (63 - P.idxOf n - (ws.length + (64 - ws.length - P.length))) = P.idxOf n by omega]
  exact e
theorem fs_mid {ws P : List Int} (hl : ws.length + P.length ≤ 64) : (((ws ++ List.replicate (64 - ws.length - P.length) 0 ++ P.reverse).take (64 - P.length)).drop ws.length) = List.replicate (64 - ws.length - P.length) 0 := by
  rw [List.take_left' (by rw [List.length_append, List.length_replicate]; omega), List.drop_left' rfl]
theorem fs_end {ws P : List Int} (hl : ws.length + P.length ≤ 64) : ((ws ++ List.replicate (64 - ws.length - P.length) 0 ++ P.reverse).drop (64 - P.length)) = P.reverse := by
  rw [List.drop_left' (by rw [List.length_append, List.length_replicate]; omega)]
theorem fs_len {ws P : List Int} (hl : ws.length + P.length ≤ 64) : (ws ++ List.replicate (64 - ws.length - P.length) 0 ++ P.reverse).length = 64 := by simp; omega
theorem ints_at {xs : List Int} {i : Nat} {x : Int} (h : xs[i]? = some x) : (xs.map V.int)[(i : Int).toNat]? = some (V.int x) := by rw [Int.toNat_natCast, List.getElem?_map, h]; rfl
/-! ### k39: a user that speaks -/
structure Sc (ls cs : List Int) : Prop where
  len : cs.length = 64
  inn : ∀ c ∈ cs, 0 ≤ c ∧ c < 1024
  ml : ls.length ≤ 12
  rng : ∀ x ∈ ls, 0 ≤ x ∧ x < 256
  z : ∀ i : Nat, i < ls.length → cs.getD (3 * i) 0 = 928
  a : ∀ i : Nat, i < ls.length → ∃ p : Int, cs.getD (3 * i + 1) 0 = 128 + p ∧ 0 ≤ p ∧ p < 64 ∧ cs.getD p.toNat 0 = ls.getD i 0
  s : ∀ i : Nat, i < ls.length → cs.getD (3 * i + 2) 0 = 771
  e : cs.getD (3 * ls.length) 0 = 775
inductive SkS (ls : List Int) (P : Pn) : Prop where
  | a (i : Nat) (h : i ≤ ls.length) (s : P.st = "ready") (p : P.m.pc = 3 * (i : Int)) (t : P.paper ++ P.outbox = ls.take i)
  | b (i : Nat) (h : i < ls.length) (s : P.st = "ready") (p : P.m.pc = 3 * (i : Int) + 1) (t : P.paper ++ P.outbox = ls.take i) (z : P.m.total = 0)
  | c (i : Nat) (h : i < ls.length) (s : P.st = "ready") (p : P.m.pc = 3 * (i : Int) + 2) (t : P.paper ++ P.outbox = ls.take i) (z : P.m.total = ls.getD i 0)
  | d (s : P.st = "stopped") (t : P.paper ++ P.outbox = ls)
structure Sk (ls cs : List Int) (P : Pn) : Prop where
  cs : P.m.cells = cs
  st : SkS ls P
def fi39 (ls : List Int) (P : Pn) : Int := if P.st = "stopped" then 0 else 3 * (ls.length : Int) + 1 - P.m.pc
theorem rs39 : ¬ ("ready" : Str) = "stopped" := by decide
section
variable {ls cs : List Int} {P : Pn}
theorem ob39 (k : Sk ls cs P) : P.outbox.length ≤ ls.length := by
  have : ∀ {t : List Int}, P.paper ++ P.outbox = t → t.length ≤ ls.length → P.outbox.length ≤ ls.length := fun {t} e h => by
    have := congrArg List.length e
    rw [List.length_append] at this
    omega
  have tl : ∀ i, (ls.take i).length ≤ ls.length := fun i => by rw [List.length_take]; exact Nat.min_le_right _ _
  rcases k.st with ⟨i, h, s, p, t⟩ | ⟨i, h, s, p, t, z⟩ | ⟨i, h, s, p, t, z⟩ | ⟨s, t⟩
  · exact this t (tl i)
  · exact this t (tl i)
  · exact this t (tl i)
  · exact this t (Nat.le_refl _)
theorem fi39_r (h : P.st = "ready") : fi39 ls P = 3 * (ls.length : Int) + 1 - P.m.pc := by unfold fi39; rw [h, if_neg rs39]
theorem fi39_s (h : P.st = "stopped") : fi39 ls P = 0 := by unfold fi39; rw [if_pos h]
theorem fi39_0 (k : Sk ls cs P) : 0 ≤ fi39 ls P ∧ (fi39 ls P = 0 → P.st = "stopped") ∧ (P.st = "ready" → 1 ≤ fi39 ls P) := by
  rcases k.st with ⟨i, h, s, p, t⟩ | ⟨i, h, s, p, t, z⟩ | ⟨i, h, s, p, t, z⟩ | ⟨s, t⟩
  · rw [fi39_r s, p]; exact ⟨by omega, fun z => by omega, fun _ => by omega⟩
  · rw [fi39_r s, p]; exact ⟨by omega, fun z => by omega, fun _ => by omega⟩
  · rw [fi39_r s, p]; exact ⟨by omega, fun z => by omega, fun _ => by omega⟩
  · rw [fi39_s s]; exact ⟨Int.le_refl _, fun _ => s, fun h => absurd (h.symm.trans s) rs39⟩
theorem getC39 {m : Mc} {i : Nat} {v : Int} (hp : m.pc = (i : Int)) (h : m.cells.getD i 0 = v) : getC m m.pc = v := by unfold getC; rw [hp, Int.toNat_natCast, h]
theorem deed_zero {m : Mc} (h : getC m m.pc = 928) : deedM m = { skipM m with total := 0 } := by unfold deedM; rw [h]; rfl
theorem deed_add {m : Mc} {p : Int} (h : getC m m.pc = 128 + p) (p0 : 0 ≤ p) (p1 : p < 64) : deedM m = addedM (skipM m) (getC (skipM m) p) := by
  unfold deedM
  rw [h]
  dsimp only
  rw [if_pos (show (128 + p) / 128 < 6 by omega), show (128 + p) / 128 = 1 by omega, show (128 + p) / 64 % 2 = 0 by omega, show (128 + p) % 64 = p by omega]
  unfold movedM aimP aimV
  rw [if_pos rfl, if_pos rfl, if_neg (by decide), if_pos rfl]
theorem sk_step (sc : Sc ls cs) (k : Sk ls cs P) (hs : P.st = "ready") : Sk ls cs (happenP P .step) ∧ fi39 ls (happenP P .step) + 1 = fi39 ls P := by
  have ml := sc.ml
  obtain ⟨kc, ks⟩ := k
  rcases ks with ⟨i, h, s, p, t⟩ | ⟨i, h, s, p, t, z⟩ | ⟨i, h, s, p, t, z⟩ | ⟨s, t⟩
  · by_cases c : i < ls.length
    · have hg : getC P.m P.m.pc = 928 := getC39 (i := 3 * i) (by rw [p]; omega) (by rw [kc]; exact sc.z i c)
      rw [step_own hg (by decide) hs, deed_zero hg]
      have ep : (P.m.pc + 1) % 64 = 3 * (i : Int) + 1 := by rw [p]; omega
      refine ⟨⟨kc, .b i c hs ep t rfl⟩, ?_⟩
      rw [fi39_r (P := { P with done := P.done + 1, m := { skipM P.m with total := 0 } }) hs, fi39_r hs]
      show 3 * (ls.length : Int) + 1 - (P.m.pc + 1) % 64 + 1 = _
      rw [ep, p]; omega
    · have ei : i = ls.length := by omega
      subst ei
      have hg : getC P.m P.m.pc = 775 := getC39 (i := 3 * ls.length) (by rw [p]; omega) (by rw [kc]; exact sc.e)
      rw [step_ask hg (by decide) hs, show (775 : Int) % 64 = 7 by decide, ask_7]
      refine ⟨⟨kc, .d rfl (by rw [List.take_of_length_le (Nat.le_refl _)] at t; exact t)⟩, ?_⟩
      rw [fi39_s (by rfl), fi39_r hs, p]; omega
  · obtain ⟨q, g1, q0, q1, g2⟩ := sc.a i h
    have hg : getC P.m P.m.pc = 128 + q := getC39 (i := 3 * i + 1) (by rw [p]; omega) (by rw [kc]; exact g1)
    rw [step_own hg (by omega) hs, deed_add hg q0 q1]
    have gq : getC (skipM P.m) q = ls.getD i 0 := by unfold getC; rw [show (skipM P.m).cells = cs from kc]; exact g2
    have r := sc.rng (ls.getD i 0) (by rw [List.getD_eq_getElem?_getD, List.getElem?_eq_getElem h]; exact List.getElem_mem h)
    have ad : addedM (skipM P.m) (getC (skipM P.m) q) = { skipM P.m with total := ls.getD i 0 } := by
      unfold addedM
      rw [gq, show (skipM P.m).total = 0 from z, if_neg (by omega), Int.zero_add]
    rw [ad]
    have ep : (P.m.pc + 1) % 64 = 3 * (i : Int) + 2 := by rw [p]; omega
    refine ⟨⟨kc, .c i h hs ep t rfl⟩, ?_⟩
    rw [fi39_r (P := { P with done := P.done + 1, m := { skipM P.m with total := ls.getD i 0 } }) hs, fi39_r hs]
    show 3 * (ls.length : Int) + 1 - (P.m.pc + 1) % 64 + 1 = _
    rw [ep, p]; omega
  · have hg : getC P.m P.m.pc = 771 := getC39 (i := 3 * i + 2) (by rw [p]; omega) (by rw [kc]; exact sc.s i h)
    have hob : P.outbox.length ≤ 12 := by
      have := congrArg List.length t
      rw [List.length_append, List.length_take] at this
      omega
    rw [step_ask hg (by decide) hs, show (771 : Int) % 64 = 3 by decide, ask_3]
    unfold sayP
    dsimp only
    rw [if_neg (by omega)]
    have r := sc.rng (ls.getD i 0) (by rw [List.getD_eq_getElem?_getD, List.getElem?_eq_getElem h]; exact List.getElem_mem h)
    have et : (skipM P.m).total % 256 = ls.getD i 0 := by
      show P.m.total % 256 = _
      rw [z]; exact Int.emod_eq_of_lt r.1 r.2
    rw [et]
    have ep : (P.m.pc + 1) % 64 = 3 * ((i + 1 : Nat) : Int) := by rw [p]; omega
    refine ⟨⟨kc, .a (i + 1) h hs ep ?_⟩, ?_⟩
    · show P.paper ++ (P.outbox ++ [ls.getD i 0]) = _
      rw [← List.append_assoc, t, List.take_add_one, List.getElem?_eq_getElem h, List.getD_eq_getElem?_getD, List.getElem?_eq_getElem h]; rfl
    · rw [fi39_r (P := { P with done := P.done + 1, m := skipM P.m, outbox := P.outbox ++ [ls.getD i 0] }) hs, fi39_r hs]
      show 3 * (ls.length : Int) + 1 - (P.m.pc + 1) % 64 + 1 = _
      rw [ep, p]; omega
  · exact absurd (hs.symm.trans s) rs39
theorem sk_tick (k : Sk ls cs P) : Sk ls cs (tickedP P) ∧ fi39 ls (tickedP P) = fi39 ls P ∧ (tickedP P).outbox.length = P.outbox.length - 1 ∧ (tickedP P).st = P.st := by
  have ns : ¬ P.st = "says" ∧ ¬ P.st = "sleeps" := by
    rcases k.st with ⟨i, h, s, p, t⟩ | ⟨i, h, s, p, t, z⟩ | ⟨i, h, s, p, t, z⟩ | ⟨s, t⟩ <;> rw [s] <;> decide
  have e2 : ∀ P' : Pn, P'.st = P.st → tick2P P' = P' := fun P' h => by unfold tick2P; rw [h, if_neg ns.2]
  unfold tickedP
  cases ho : P.outbox with
  | nil =>
    have e1 : tick1P P = P := by unfold tick1P; rw [ho]
    rw [e1, e2 P rfl]
    exact ⟨k, rfl, by rw [ho]; rfl, rfl⟩
  | cons x r =>
    have e1 : tick1P P = { P with outbox := r, paper := P.paper ++ [x] } := by
      unfold tick1P
      rw [ho]
      unfold wakeP
      dsimp only
      rw [if_neg ns.1]
    rw [e1, e2 { P with outbox := r, paper := P.paper ++ [x] } rfl]
    have et : (P.paper ++ [x]) ++ r = P.paper ++ P.outbox := by rw [ho]; simp
    refine ⟨⟨k.cs, ?_⟩, rfl, by show r.length = _; rw [List.length_cons]; omega, rfl⟩
    rcases k.st with ⟨i, h, s, p, t⟩ | ⟨i, h, s, p, t, z⟩ | ⟨i, h, s, p, t, z⟩ | ⟨s, t⟩
    · exact .a i h s p (et.trans t)
    · exact .b i h s p (et.trans t) z
    · exact .c i h s p (et.trans t) z
    · exact .d s (et.trans t)
theorem sk_new (sc : Sc ls cs) : Sk ls cs (happenP (newP cs 0) (.start 0)) ∧ fi39 ls (happenP (newP cs 0) (.start 0)) = 3 * (ls.length : Int) + 1 := by
  have e : happenP (newP cs 0) (.start 0) = { newP cs 0 with st := "ready", m := { (newP cs 0).m with pc := 0 } } := by
    show (if ("stopped" : Str) = "stopped" then ({ newP cs 0 with st := "ready", m := { (newP cs 0).m with pc := 0 } } : Pn) else newP cs 0) = _
    rw [if_pos rfl]
  rw [e]
  refine ⟨⟨rfl, .a 0 (Nat.zero_le _) rfl rfl rfl⟩, ?_⟩
  rw [fi39_r (P := { newP cs 0 with st := "ready", m := { (newP cs 0).m with pc := 0 } }) rfl]
  show _ - (0 : Int) = _
  omega
end
/-! the house -/
def totD (n : Nat) (f : Nat → Int) : Int := ((List.range n).map f).sum
theorem totD_s (n : Nat) (f : Nat → Int) : totD (n + 1) f = totD n f + f n := by
  unfold totD
  rw [List.range_succ, List.map_append, List.sum_append]
  simp
theorem totD_le {f g : Nat → Int} : ∀ n, (∀ v, v < n → g v ≤ f v) → totD n g ≤ totD n f
  | 0, _ => by unfold totD; simp
  | n + 1, h => by
    have i := totD_le n fun v hv => h v (by omega)
    have j := h n (by omega)
    rw [totD_s, totD_s]; omega
theorem totD_lt {f g : Nat → Int} {u : Nat} : ∀ n, u < n → (∀ v, v < n → g v ≤ f v) → g u + 1 ≤ f u → totD n g + 1 ≤ totD n f
  | 0, h, _, _ => absurd h (Nat.not_lt_zero _)
  | n + 1, h, hh, hu => by
    rw [totD_s, totD_s]
    by_cases c : u = n
    · subst c
      have i := totD_le u fun v hv => hh v (by omega)
      omega
    · have i := totD_lt n (by omega) (fun v hv => hh v (by omega)) hu
      have j := hh n (by omega)
      omega
theorem totD_0 : ∀ n, totD n (fun _ => 0) = 0
  | 0 => rfl
  | n + 1 => by rw [totD_s, totD_0 n]; rfl
theorem totD_get {f : Nat → Int} {u : Nat} : ∀ n, u < n → (∀ v, v < n → 0 ≤ f v) → f u ≤ totD n f
  | 0, h, _ => absurd h (Nat.not_lt_zero _)
  | n + 1, h, hh => by
    rw [totD_s]
    have z := totD_le (f := f) (g := fun _ => 0) n fun v hv => hh v (by omega)
    rw [totD_0] at z
    by_cases c : u = n
    · subst c; omega
    · have i := totD_get (f := f) (u := u) n (by omega) fun v hv => hh v (by omega)
      have j := hh n (by omega)
      omega
section
variable {n r u v : Nat} {h : Ho} {lsF csF : Nat → List Int}
def Al39 (n : Nat) (lsF csF : Nat → List Int) (h : Ho) : Prop := ∀ u, u < n → Sk (lsF u) (csF u) (pu h u)
def F39 (n : Nat) (lsF : Nat → List Int) (h : Ho) : Int := totD n fun u => fi39 (lsF u) (pu h u)
theorem step1_pu_r39 (hu : u < h.ps.length) (hr : h.runs = some u) : pu (step1 h) u = happenP (pu h u) .step := by
  rw [step1_some hr]
  exact event_u (h := { h with steps := h.steps + 1 }) hu
theorem step_pu_r39 (w : WfH n r h) (hr : h.runs = some u) : pu (stepT h) u = if (h.steps + 1) % h.beat = 0 then tickedP (happenP (pu h u) .step) else happenP (pu h u) .step := by
  have hu := w.ru u hr
  have e := step1_pu_r39 (by rw [w.lp]; exact hu) hr
  unfold stepT step2
  rw [settle_pu]
  by_cases c : (h.steps + 1) % h.beat = 0
  · rw [if_pos c, if_pos c]
    unfold tickT
    rw [turn_pu, (tickN_pu _ (Nat.le_refl _)).2, if_pos (by rw [(wf_step1 w).lp]; exact hu), e]
    rfl
  · rw [if_neg c, if_neg c, e]
theorem al39_step (w : WfH n r h) (sc : ∀ u, u < n → Sc (lsF u) (csF u)) (a : Al39 n lsF csF h) (hv : v < n) : Sk (lsF v) (csF v) (pu (stepT h) v) ∧ (if h.runs = some v then fi39 (lsF v) (pu (stepT h) v) + 1 = fi39 (lsF v) (pu h v) else fi39 (lsF v) (pu (stepT h) v) = fi39 (lsF v) (pu h v)) := by
  by_cases c : h.runs = some v
  · obtain ⟨s1, s2⟩ := sk_step (sc v hv) (a v hv) (w.rn v c)
    rw [step_pu_r39 w c, if_pos c]
    split
    · obtain ⟨t1, t2, _⟩ := sk_tick s1
      exact ⟨t1, by rw [t2]; exact s2⟩
    · exact ⟨s1, s2⟩
  · rw [step_pu w hv c, if_neg c]
    split
    · obtain ⟨t1, t2, _⟩ := sk_tick (a v hv)
      exact ⟨t1, t2⟩
    · exact ⟨a v hv, rfl⟩
theorem f39_0 (a : Al39 n lsF csF h) : 0 ≤ F39 n lsF h := by
  have := totD_le (f := fun u => fi39 (lsF u) (pu h u)) (g := fun _ => 0) n fun v hv => (fi39_0 (a v hv)).1
  rw [totD_0] at this
  exact this
/-- none runs: all have stopped -/
theorem none39 (w : WfH n r h) (sd : Sd h) (a : Al39 n lsF csF h) (hr : h.runs = none) : F39 n lsF h = 0 := by
  have hz : ∀ v, v < n → fi39 (lsF v) (pu h v) = 0 := fun v hv => by
    have row := sd hr
    have nr : ¬ rdy h v := fun hy => by
      rcases w.ar v hv hy with h1 | h1
      · rw [row] at h1; cases h1
      · rw [hr] at h1; cases h1
    rcases (a v hv).st with ⟨i, h, s, p, t⟩ | ⟨i, h, s, p, t, z⟩ | ⟨i, h, s, p, t, z⟩ | ⟨s, t⟩
    · exact absurd s nr
    · exact absurd s nr
    · exact absurd s nr
    · exact fi39_s s
  have h1 := totD_le (f := fun _ => 0) (g := fun u => fi39 (lsF u) (pu h u)) n fun v hv => Int.le_of_eq (hz v hv)
  rw [totD_0] at h1
  have h0 := f39_0 a
  have h1 : F39 n lsF h ≤ 0 := h1
  omega
theorem f39_step (w : WfH n r h) (sd : Sd h) (sc : ∀ u, u < n → Sc (lsF u) (csF u)) (a : Al39 n lsF csF h) : F39 n lsF (stepT h) + 1 ≤ F39 n lsF h ∨ F39 n lsF (stepT h) = 0 := by
  have le : ∀ v, v < n → fi39 (lsF v) (pu (stepT h) v) ≤ fi39 (lsF v) (pu h v) := fun v hv => by
    have := (al39_step w sc a hv).2
    split at this <;> omega
  rcases runs_or h with hr | ⟨u, hr⟩
  · have h0 := none39 w sd a hr
    have h1 := totD_le (f := fun u => fi39 (lsF u) (pu h u)) (g := fun u => fi39 (lsF u) (pu (stepT h) u)) n le
    have h2 := f39_0 (h := stepT h) (fun v hv => (al39_step w sc a hv).1)
    have h1 : F39 n lsF (stepT h) ≤ F39 n lsF h := h1
    exact .inr (by omega)
  · have hu := w.ru u hr
    refine .inl (totD_lt (f := fun u => fi39 (lsF u) (pu h u)) (g := fun u => fi39 (lsF u) (pu (stepT h) u)) n hu le ?_)
    have := (al39_step w sc a hu).2
    rw [if_pos hr] at this
    show fi39 (lsF u) (pu (stepT h) u) + 1 ≤ fi39 (lsF u) (pu h u)
    omega
theorem al39_run (w : WfH n r h) (sd : Sd h) (sc : ∀ u, u < n → Sc (lsF u) (csF u)) (a : Al39 n lsF csF h) : ∀ k : Nat, Al39 n lsF csF (runT h k) ∧ (F39 n lsF (runT h k) + (k : Int) ≤ F39 n lsF h ∨ F39 n lsF (runT h k) = 0)
  | 0 => ⟨a, .inl (by show F39 n lsF h + ((0 : Nat) : Int) ≤ _; omega)⟩
  | k + 1 => by
    obtain ⟨i, f⟩ := al39_run w sd sc a k
    have wk := wf_runT w k
    have i' : Al39 n lsF csF (stepT (runT h k)) := fun v hv => (al39_step wk sc i hv).1
    refine ⟨i', ?_⟩
    have h0 := f39_0 i
    have h1 := f39_0 i'
    show F39 n lsF (stepT (runT h k)) + ((k + 1 : Nat) : Int) ≤ _ ∨ F39 n lsF (stepT (runT h k)) = 0
    rcases f39_step wk (sd_run w sd k) sc i with g | g
    · rcases f with f | f
      · exact .inl (by omega)
      · exact .inr (by omega)
    · exact .inr g
/-- all have stopped -/
def St39 (n : Nat) (lsF : Nat → List Int) (h : Ho) : Prop := ∀ u, u < n → (pu h u).st = "stopped"
theorem st39_of (a : Al39 n lsF csF h) (f : F39 n lsF h = 0) : St39 n lsF h := fun u hu => by
  obtain ⟨h0, h1, _⟩ := fi39_0 (a u hu)
  refine h1 ?_
  have := totD_get (f := fun u => fi39 (lsF u) (pu h u)) n hu fun v hv => (fi39_0 (a v hv)).1
  have f : totD n (fun u => fi39 (lsF u) (pu h u)) = 0 := f
  omega
theorem st39_none (w : WfH n r h) (s : St39 n lsF h) : h.runs = none := by
  rcases runs_or h with hr | ⟨u, hr⟩
  · exact hr
  · exact absurd ((w.rn u hr).symm.trans (s u (w.ru u hr))) rs39
theorem st39_step (w : WfH n r h) (a : Al39 n lsF csF h) (s : St39 n lsF h) : St39 n lsF (stepT h) := fun v hv => by
  rw [step_pu w hv (by rw [st39_none w s]; intro z; cases z)]
  split
  · rw [(sk_tick (a v hv)).2.2.2]; exact s v hv
  · exact s v hv
/-- letters go out, tick by tick -/
theorem out39 (w : WfH n r h) (sd : Sd h) (sc : ∀ u, u < n → Sc (lsF u) (csF u)) (a : Al39 n lsF csF h) (s : St39 n lsF h) : ∀ k : Nat, St39 n lsF (runT h k) ∧ (runT h k).steps = h.steps + (k : Int) ∧ (runT h k).beat = h.beat ∧ ∀ v, v < n → ((pu (runT h k) v).outbox.length : Int) + (h.steps + (k : Int)) / h.beat ≤ ((pu h v).outbox.length : Int) + h.steps / h.beat ∨ (pu (runT h k) v).outbox = []
  | 0 => ⟨s, by show h.steps = h.steps + ((0 : Nat) : Int); omega, rfl, fun v hv => .inl (by show ((pu h v).outbox.length : Int) + _ ≤ _; rw [show h.steps + ((0 : Nat) : Int) = h.steps by omega]; exact Int.le_refl _)⟩
  | k + 1 => by
    obtain ⟨i1, i2, i3, i4⟩ := out39 w sd sc a s k
    have wk := wf_runT w k
    have ak := (al39_run w sd sc a k).1
    have nn := st39_none wk i1
    have b0 := w.b0
    have b2 : (stepT (runT h k)).beat = (runT h k).beat := (step_ct wk).b
    have s2 : (stepT (runT h k)).steps = (runT h k).steps + 1 := (step_ct wk).s
    refine ⟨st39_step wk ak i1, by show (stepT (runT h k)).steps = _; rw [s2, i2]; omega, b2.trans i3, fun v hv => ?_⟩
    show ((pu (stepT (runT h k)) v).outbox.length : Int) + _ ≤ _ ∨ (pu (stepT (runT h k)) v).outbox = []
    rw [step_pu wk hv (by rw [nn]; intro z; cases z), i2, i3]
    have ed : ∀ c : Int, (c + 1) / h.beat = if (c + 1) % h.beat = 0 then c / h.beat + 1 else c / h.beat := fun c => by rw [div_next b0]; split <;> omega
    rw [show h.steps + ((k + 1 : Nat) : Int) = h.steps + (k : Int) + 1 by omega, ed]
    by_cases c : (h.steps + (k : Int) + 1) % h.beat = 0
    · rw [if_pos c, if_pos c]
      have t := (sk_tick (ak v hv)).2.2.1
      rcases i4 v hv with g | g
      · by_cases z : (pu (runT h k) v).outbox.length = 0
        · refine .inr (List.length_eq_zero_iff.mp ?_)
          rw [t]; omega
        · exact .inl (by rw [t]; omega)
      · refine .inr (List.length_eq_zero_iff.mp ?_)
        rw [t, g]; rfl
    · rw [if_neg c, if_neg c]
      exact i4 v hv
theorem runT_add (h : Ho) (a : Nat) : ∀ b : Nat, runT h (a + b) = runT (runT h a) b
  | 0 => rfl
  | b + 1 => by
    show stepT (runT h (a + b)) = stepT (runT (runT h a) b)
    rw [runT_add h a b]
/-- the end -/
theorem end39 {m : Nat} {T M : Int} (w : WfH n r h) (sd : Sd h) (sc : ∀ u, u < n → Sc (lsF u) (csF u)) (a : Al39 n lsF csF h) (hT : F39 n lsF h ≤ T) (hM : 0 ≤ M) (hm : (m : Int) = T + 16 * h.beat + M * h.beat) : (runT h m).runs = none ∧ ∀ u, u < n → (pu (runT h m) u).paper = lsF u ∧ (pu (runT h m) u).outbox = [] ∧ (pu (runT h m) u).st = "stopped" := by
  have f0 := f39_0 a
  have b0 := w.b0
  obtain ⟨t, rfl⟩ : ∃ t : Nat, T = (t : Int) := ⟨T.toNat, by omega⟩
  have hJ : 0 ≤ M * h.beat := Int.mul_nonneg hM (by omega)
  obtain ⟨j, hj⟩ : ∃ j : Nat, m = t + j := ⟨m - t, by omega⟩
  subst hj
  obtain ⟨a1, f1⟩ := al39_run w sd sc a t
  have f1' := f39_0 a1
  have fz : F39 n lsF (runT h t) = 0 := by rcases f1 with f1 | f1 <;> omega
  have st1 := st39_of a1 fz
  have w1 := wf_runT w t
  have sd1 := sd_run w sd t
  have b1 : (runT h t).beat = h.beat := (qb_run t).2.1
  obtain ⟨o1, o2, o3, o4⟩ := out39 w1 sd1 sc a1 st1 j
  have a2 := (al39_run w1 sd1 sc a1 j).1
  rw [runT_add]
  refine ⟨st39_none (wf_runT w1 j) o1, fun u hu => ?_⟩
  have ob : (pu (runT (runT h t) j) u).outbox = [] := by
    rcases o4 u hu with g | g
    · exfalso
      have h1 := ob39 (a1 u hu)
      have h2 := (sc u hu).ml
      have ej : (j : Int) = (16 + M) * h.beat := by rw [Int.add_mul]; omega
      rw [b1, ej, Int.add_mul_ediv_right _ _ (by omega)] at g
      omega
    · exact g
  have s := o1 u hu
  refine ⟨?_, ob, s⟩
  rcases (a2 u hu).st with ⟨i, h, s', p, q⟩ | ⟨i, h, s', p, q, z⟩ | ⟨i, h, s', p, q, z⟩ | ⟨s', q⟩
  · exact absurd (s'.symm.trans s) rs39
  · exact absurd (s'.symm.trans s) rs39
  · exact absurd (s'.symm.trans s) rs39
  · rw [ob, List.append_nil] at q; exact q
end
/-! ### k39: texts that speak -/
inductive It39 where
  | m (l : LN) (n : Int) | p (l : LN) (b n : Int)
def It39.line : It39 → LN
  | .m l _ => l
  | .p l _ _ => l
def It39.vals : It39 → List Int
  | .m _ _ => []
  | .p _ _ n => [n]
def It39.word (P : List Int) : It39 → Int
  | .m _ n => n
  | .p _ b n => b + (63 - (P.idxOf n : Nat))
def ItOk : It39 → Prop
  | .m l n => readL l = some (none, some (.made n))
  | .p l b n => PLine l b n
def valsF (xs : List It39) : List Int := (xs.map It39.vals).flatten
theorem poolF_app : ∀ (a b acc : List Int), poolF acc (a ++ b) = poolF (poolF acc a) b
  | [], _, _ => rfl
  | x :: a, b, acc => by
    rw [List.cons_append, poolF, poolF]
    split
    · exact poolF_app a b acc
    · exact poolF_app a b _
theorem it_gone : ∀ (xs : List It39) (acc : List (Option Dd)) (k j : Nat), (∀ q ∈ xs, ItOk q) → k + xs.length ≤ 40 → ∃ ds, (∀ r, goneG acc [] (k : Int) j (xs.map It39.line ++ r) = goneG (acc ++ ds) [] ((k + xs.length : Nat) : Int) (j + xs.length) r) ∧
    ∀ (LS : Lab) (m : Made) (ws pool : List Int) (j' : Nat) (dr : List (Option Dd)), PI ws pool m → ws.length = k → pool.length + (valsF xs).length ≤ 20 → ∃ m', cellsG LS m pool (k : Int) j' (ds ++ dr) = cellsG LS m' (poolF pool (valsF xs)) ((k + xs.length : Nat) : Int) (j' + xs.length) dr ∧ PI (ws ++ xs.map (It39.word (poolF pool (valsF xs)))) (poolF pool (valsF xs)) m'
  | [], acc, k, j, _, _ => ⟨[], fun r => by simp, fun LS m ws pool j' dr p _ _ => ⟨m, by simp [valsF, poolF], by simpa [valsF, poolF] using p⟩⟩
  | q :: xs, acc, k, j, h, hl => by
    have hq := h q List.mem_cons_self
    rw [List.length_cons] at hl
    have hw : withinL ((k : Int) + 1) 64 j = .ok ((k : Int) + 1) := by unfold withinL; rw [if_pos ⟨by omega, by omega⟩]
    have ek : (k : Int) + 1 = ((k + 1 : Nat) : Int) := by omega
    obtain ⟨dd, hs, hstep⟩ : ∃ dd : Dd, goneStep q.line [] (k : Int) j = .ok (some dd, [], (k : Int) + 1) ∧ ∀ (LS : Lab) (m : Made) (ws pool : List Int) (j' : Nat), PI ws pool m → ws.length = k → pool.length + q.vals.length ≤ 20 → ∃ m', cellStep LS m pool (k : Int) j' (some dd) = .ok (m', poolF pool q.vals, (k : Int) + 1) ∧ PI (ws ++ [q.word (poolF pool q.vals)]) (poolF pool q.vals) m' ∧ (∀ r, q.word (poolF (poolF pool q.vals) r) = q.word (poolF pool q.vals)) := by
      cases q with
      | m l n =>
        refine ⟨.made n, ?_, fun LS m ws pool j' p wl pl => ?_⟩
        · unfold goneStep
          rw [show readL (It39.m l n).line = some (none, some (.made n)) from hq]
          dsimp only [tellL]
          unfold moveG
          dsimp only
          rw [hw]
        · have pw := p.addW (w := n) (by simp [It39.vals] at pl; omega)
          have mk : makeL m (k : Int) n j' = .ok (m ++ [((k : Int), n)]) := by
            unfold makeL
            rw [if_neg]
            intro z
            rcases z with z | z
            · rw [p.no _ (by omega) (by simp [It39.vals] at pl; omega)] at z; cases z
            · omega
          refine ⟨m ++ [((k : Int), n)], ?_, ?_, fun _ => rfl⟩
          · unfold cellStep wordOf
            dsimp only
            rw [mk]; rfl
          · rw [wl] at pw; exact pw
      | p l b n =>
        obtain ⟨⟨ts, hr, ha⟩, n0, n1⟩ := hq
        refine ⟨.pool b ts, ?_, fun LS m ws pool j' p wl pl => ?_⟩
        · unfold goneStep
          rw [show readL (It39.p l b n).line = some (none, some (.pool b ts)) from hr]
          dsimp only [tellL]
          unfold moveG
          dsimp only
          rw [hw]
        · have aw : amtW LS (k : Int) ts 1023 j' = .ok n := by
            unfold amtW amtL
            rw [ha]
            dsimp only
            unfold withinL; rw [if_pos ⟨n0, by omega⟩]
          simp [It39.vals] at pl
          have key : ∀ (m1 : Made) (p1 : List Int), poolL m pool n j' = .ok (m1, p1, 63 - (p1.idxOf n : Nat)) → PI ws p1 m1 → p1.length ≤ 20 → n ∈ p1 → poolF pool [n] = p1 →
              ∃ m', cellStep LS m pool (k : Int) j' (some (.pool b ts)) = .ok (m', poolF pool [n], (k : Int) + 1) ∧ PI (ws ++ [b + (63 - ((poolF pool [n]).idxOf n : Nat))]) (poolF pool [n]) m' ∧ ∀ r, b + (63 - ((poolF (poolF pool [n]) r).idxOf n : Nat)) = b + (63 - ((poolF pool [n]).idxOf n : Nat)) := fun m1 p1 e p1i pl1 hm ep => by
            rw [ep]
            have mk : makeL m1 (k : Int) (b + (63 - (p1.idxOf n : Nat))) j' = .ok (m1 ++ [((k : Int), b + (63 - (p1.idxOf n : Nat)))]) := by
              unfold makeL
              rw [if_neg]
              intro z
              rcases z with z | z
              · rw [p1i.no _ (by omega) (by omega)] at z; cases z
              · omega
            have pw := p1i.addW (w := b + (63 - (p1.idxOf n : Nat))) (by omega)
            rw [wl] at pw
            refine ⟨_, ?_, pw, fun r => by rw [poolF_idx hm]⟩
            unfold cellStep wordOf
            dsimp only
            rw [aw]
            dsimp only
            rw [e]
            dsimp only
            rw [mk]
          by_cases c : n ∈ pool
          · exact key m pool (by unfold poolL; rw [if_pos c]) p (by omega) c (by rw [poolF, if_pos c]; rfl)
          · refine key (m ++ [((63 - (pool.length : Int) : Int), n)]) (pool ++ [n]) ?_ (p.addP (by omega)) (by rw [List.length_append]; simp; omega) (List.mem_append_right _ List.mem_cons_self) (by rw [poolF, if_neg c]; rfl)
            have ei : (pool ++ [n]).idxOf n = pool.length := by rw [List.idxOf_append, if_neg c]; simp
            unfold poolL
            rw [if_neg c]
            have mk : makeL m (63 - (pool.length : Int)) n j' = .ok (m ++ [((63 - (pool.length : Int) : Int), n)]) := by
              unfold makeL
              rw [if_neg]
              intro z
              rcases z with z | z
              · rw [p.no _ (by omega) (by omega)] at z; cases z
              · omega
            rw [mk, ei]
    obtain ⟨ds, g2, c2⟩ := it_gone xs (acc ++ [some dd]) (k + 1) (j + 1) (fun x hx => h x (List.mem_cons_of_mem _ hx)) (by omega)
    refine ⟨some dd :: ds, fun r => ?_, fun LS m ws pool j' dr p wl pl => ?_⟩
    · show goneG acc [] (k : Int) j (q.line :: (xs.map It39.line ++ r)) = _
      rw [goneG, hs]
      dsimp only
      rw [ek, g2 r, List.append_assoc, List.length_cons, show k + 1 + xs.length = k + (xs.length + 1) by omega, show j + 1 + xs.length = j + (xs.length + 1) by omega]
      rfl
    · have ev : valsF (q :: xs) = q.vals ++ valsF xs := by unfold valsF; rw [List.map_cons, List.flatten_cons]
      rw [ev, List.length_append] at pl
      rw [ev, poolF_app]
      obtain ⟨m1, s1, p1, e1⟩ := hstep LS m ws pool j' p wl (by omega)
      have pl1 : (poolF pool q.vals).length ≤ pool.length + q.vals.length := by
        obtain ⟨r', er, hr'⟩ := poolF_pre q.vals pool
        rw [er, List.length_append]; omega
      obtain ⟨m2, s2, p2⟩ := c2 LS m1 (ws ++ [q.word (poolF pool q.vals)]) (poolF pool q.vals) (j' + 1) dr p1 (by rw [List.length_append, wl]; rfl) (by omega)
      refine ⟨m2, ?_, ?_⟩
      · show cellsG LS m pool (k : Int) j' (some dd :: (ds ++ dr)) = _
        rw [cellsG, s1]
        dsimp only
        rw [ek, s2, List.length_cons, show k + 1 + xs.length = k + (xs.length + 1) by omega, show j' + 1 + xs.length = j' + (xs.length + 1) by omega]
      · rw [List.map_cons, e1]
        rw [List.append_assoc] at p2
        exact p2
/-! the lines -/
def lnZ : LN := sL "change zero ; none left"
def lnS : LN := sL "ask say"
def lnE : LN := sL "end: ask stop"
def lnA (x : Int) : LN := sL "  add =" ++ numT x
theorem read_lnZ : readL lnZ = some (none, some (.made 928)) := by decide +kernel
theorem read_lnS : readL lnS = some (none, some (.made 771)) := by decide +kernel
def end39L : LN := sL "end"
theorem read_lnE : readL lnE = some (some end39L, some (.made 775)) := by decide +kernel
theorem read_lnA {x : Int} (x0 : 0 ≤ x) (x1 : x < 256) : PLine (lnA x) 128 x := by
  obtain ⟨a1, a2⟩ := num_big (n := x) x0 (by omega)
  have f : ∀ c, (c < 48 ∨ 57 < c) → c ∉ numT x := fun c hc z => by have := numT_dig x0 c z; omega
  have hx : sL "add" ∈ kindsN := by decide
  refine ⟨⟨[(1, numT x)], ?_, fun ls here => ?_⟩, x0, by omega⟩
  · have r := read_pool (far := false) (w := numT x) hx (f 32 (by omega)) (f 59 (by omega)) (termsG_one (tm_num a1) 1)
    have e : readL (lnA x) = readL (kdLine (sL "add") false (61 :: numT x)) := by
      have h59 : 59 ∉ kdLine (sL "add") false (61 :: numT x) := kd_free hx (.inl rfl) fun z => (List.mem_cons.mp z).elim (fun e => by cases e) (f 59 (by omega))
      have el : lnA x = 32 :: 32 :: kdLine (sL "add") false (61 :: numT x) := rfl
      unfold readL
      rw [el, pieces_plain (fun z => (List.mem_cons.mp z).elim (fun e => by cases e) fun z => (List.mem_cons.mp z).elim (fun e => by cases e) h59), pieces_plain h59, words_blank, words_blank]
    rw [e, r]
    rfl
  · rw [amt_cons a1 a2, amountL]; congr 1; omega
def it39 : List Int → List It39
  | [] => []
  | x :: r => .m lnZ 928 :: .p (lnA x) 128 x :: .m lnS 771 :: it39 r
def lines39 (ls : List Int) : List LN := (it39 ls).map It39.line ++ [lnE]
def ws39 (P : List Int) : List Int → List Int
  | [] => []
  | x :: r => 928 :: (128 + (63 - (P.idxOf x : Nat))) :: 771 :: ws39 P r
theorem it39_facts : ∀ {ls : List Int}, (∀ x ∈ ls, 0 ≤ x ∧ x < 256) → (∀ q ∈ it39 ls, ItOk q) ∧ valsF (it39 ls) = ls ∧ (it39 ls).length = 3 * ls.length ∧ (∀ P, (it39 ls).map (It39.word P) = ws39 P ls) ∧ ∀ l ∈ (it39 ls).map It39.line, 10 ∉ l ∧ l.length ≤ 30
  | [], _ => ⟨fun q h => (by cases h), rfl, rfl, fun _ => rfl, fun l h => (by cases h)⟩
  | x :: r, h => by
    obtain ⟨i1, i2, i3, i4, i5⟩ := it39_facts (ls := r) fun y hy => h y (List.mem_cons_of_mem _ hy)
    obtain ⟨x0, x1⟩ := h x List.mem_cons_self
    refine ⟨fun q hq => ?_, ?_, ?_, fun P => ?_, fun l hl => ?_⟩
    · rcases List.mem_cons.mp hq with e | hq
      · rw [e]; exact read_lnZ
      rcases List.mem_cons.mp hq with e | hq
      · rw [e]; exact read_lnA x0 x1
      rcases List.mem_cons.mp hq with e | hq
      · rw [e]; exact read_lnS
      exact i1 q hq
    · show [] ++ ([x] ++ ([] ++ valsF (it39 r))) = _
      rw [i2]; rfl
    · show (it39 r).length + 1 + 1 + 1 = _
      rw [i3, List.length_cons]; omega
    · show 928 :: _ :: 771 :: (it39 r).map (It39.word P) = _
      rw [i4]; rfl
    · rcases List.mem_cons.mp hl with e | hl
      · rw [e]; exact (by decide : 10 ∉ lnZ ∧ lnZ.length ≤ 30)
      rcases List.mem_cons.mp hl with e | hl
      · rw [e]
        have l4 := numT_len (n := x) (k := 4) x0 (by decide) (by show x < (10000 : Int); omega)
        refine ⟨fun z => ?_, by show (sL "  add =" ++ numT x).length ≤ 30; rw [List.length_append]; have : (sL "  add =").length = 7 := (by decide); omega⟩
        rcases List.mem_append.mp z with z | z
        · exact absurd z (by decide)
        · have := numT_dig x0 10 z; omega
      rcases List.mem_cons.mp hl with e | hl
      · rw [e]; exact (by decide : 10 ∉ lnS ∧ lnS.length ≤ 30)
      exact i5 l hl
theorem ws39_len (P : List Int) : ∀ ls : List Int, (ws39 P ls).length = 3 * ls.length
  | [] => rfl
  | x :: r => by
    show (ws39 P r).length + 1 + 1 + 1 = _
    rw [ws39_len P r, List.length_cons]; omega
theorem ws39_at (P : List Int) : ∀ (ls : List Int) (i : Nat), i < ls.length → (ws39 P ls)[3 * i]? = some 928 ∧ (ws39 P ls)[3 * i + 1]? = some (128 + (63 - ((P.idxOf (ls.getD i 0) : Nat) : Int))) ∧ (ws39 P ls)[3 * i + 2]? = some 771
  | [], i, h => by simp at h
  | x :: r, 0, _ => ⟨rfl, rfl, rfl⟩
  | x :: r, i + 1, h => by
    obtain ⟨a, b, c⟩ := ws39_at P r i (by simpa using h)
    rw [show (x :: r).getD (i + 1) 0 = r.getD i 0 by simp [List.getD_eq_getElem?_getD]]
    exact ⟨a, b, c⟩
def cs39 (ls : List Int) : List Int := (ws39 (poolF [] ls) ls ++ [775]) ++ List.replicate (64 - (ws39 (poolF [] ls) ls ++ [775]).length - (poolF [] ls).length) 0 ++ (poolF [] ls).reverse
theorem asm39 {ls : List Int} (ml : ls.length ≤ 12) (rng : ∀ x ∈ ls, 0 ≤ x ∧ x < 256) : assembledL (TL.joinL [10] (lines39 ls)) = .ok (cs39 ls) ∧ (∀ l ∈ lines39 ls, l.length ≤ 30) ∧ (lines39 ls).length ≤ 37 := by
  obtain ⟨i1, i2, i3, i4, i5⟩ := it39_facts rng
  have hE : 10 ∉ lnE ∧ lnE.length ≤ 30 := by decide
  refine ⟨?_, fun l hl => ?_, by unfold lines39; rw [List.length_append, List.length_map, i3]; simp; omega⟩
  · obtain ⟨ds, g, c⟩ := it_gone (it39 ls) [] 0 1 i1 (by rw [i3]; omega)
    have g := g [lnE]
    obtain ⟨m, c, p⟩ := c [(end39L, (3 * ls.length : Nat))] [] [] [] 1 [some (.made 775)] pi_0 rfl (by rw [i2]; simp; omega)
    rw [i2, List.nil_append, i4] at p
    rw [i2, Nat.zero_add, i3] at c
    rw [Nat.zero_add, i3, List.nil_append] at g
    have pl : (poolF [] ls).length ≤ 12 := by
      obtain ⟨r, er, hr⟩ := poolF_pre ls []
      rw [er, List.nil_append]; omega
    have wl := ws39_len (poolF [] ls) ls
    unfold assembledL
    unfold lines39
    rw [cutAt_join 10 (by simp) (fun p hp => by
      rcases List.mem_append.mp hp with z | z
      · exact (i5 p z).1
      · rw [List.mem_singleton.mp z]; exact hE.1)]
    unfold goneL
    have g : goneG [] [] 0 1 ((it39 ls).map It39.line ++ [lnE]) = _ := g
    rw [g]
    have st : goneStep lnE [] ((3 * ls.length : Nat) : Int) (1 + 3 * ls.length) = .ok (some (.made 775), [(end39L, ((3 * ls.length : Nat) : Int))], ((3 * ls.length : Nat) : Int) + 1) := by
      unfold goneStep
      rw [read_lnE]
      dsimp only
      rw [show tellL [] (some end39L) ((3 * ls.length : Nat) : Int) (1 + 3 * ls.length) = .ok [(end39L, ((3 * ls.length : Nat) : Int))] from rfl]
      dsimp only
      unfold moveG
      dsimp only
      unfold withinL
      rw [if_pos ⟨by omega, by omega⟩]
    rw [goneG, st]
    dsimp only [goneG]
    have c : cellsG [(end39L, ((3 * ls.length : Nat) : Int))] [] [] 0 1 (ds ++ [some (.made 775)]) = _ := c
    rw [c]
    have pw := p.addW (w := 775) (by omega)
    rw [wl] at pw
    have mk : makeL m ((3 * ls.length : Nat) : Int) 775 (1 + 3 * ls.length) = .ok (m ++ [(((3 * ls.length : Nat) : Int), 775)]) := by
      unfold makeL
      rw [if_neg]
      intro z
      rcases z with z | z
      · rw [p.no _ (by omega) (by omega)] at z; cases z
      · omega
    have cst : cellStep [(end39L, ((3 * ls.length : Nat) : Int))] m (poolF [] ls) ((3 * ls.length : Nat) : Int) (1 + 3 * ls.length) (some (.made 775)) = .ok (m ++ [(((3 * ls.length : Nat) : Int), 775)], poolF [] ls, ((3 * ls.length : Nat) : Int) + 1) := by
      unfold cellStep wordOf
      dsimp only
      rw [mk]
    rw [cellsG, cst]
    dsimp only [cellsG]
    rw [cells_PI pw (by rw [List.length_append, wl]; simp; omega)]
    rfl
  · rcases List.mem_append.mp hl with z | z
    · exact (i5 l z).2
    · rw [List.mem_singleton.mp z]; exact hE.2
theorem getD_of {xs : List Int} {i : Nat} {v : Int} (h : xs[i]? = some v) : xs.getD i 0 = v := by rw [List.getD_eq_getElem?_getD, h]; rfl
theorem sc39 {ls : List Int} (ml : ls.length ≤ 12) (rng : ∀ x ∈ ls, 0 ≤ x ∧ x < 256) : Sc ls (cs39 ls) := by
  have pl : (poolF [] ls).length ≤ 12 := by
    obtain ⟨r, er, hr⟩ := poolF_pre ls []
    rw [er, List.nil_append]; omega
  have wl := ws39_len (poolF [] ls) ls
  have wl2 : (ws39 (poolF [] ls) ls ++ [775]).length = 3 * ls.length + 1 := by rw [List.length_append, wl]; rfl
  have fl : (ws39 (poolF [] ls) ls ++ [775]).length + (poolF [] ls).length ≤ 64 := by omega
  have w := fun (i : Nat) (v : Int) => fs_ws (ws := ws39 (poolF [] ls) ls ++ [775]) (P := poolF [] ls) (i := i) (w := v)
  have wa : ∀ (i : Nat) (v : Int), (ws39 (poolF [] ls) ls)[i]? = some v → (cs39 ls)[i]? = some v := fun i v h => w i v (by
    rw [List.getElem?_append_left (List.getElem?_eq_some_iff.mp h).1, h])
  refine ⟨fs_len fl, ?_, ml, rng, fun i h => ?_, fun i h => ?_, fun i h => ?_, ?_⟩
  · have pin : ∀ x ∈ poolF [] ls, 0 ≤ x ∧ x < 256 := fun x hx => by
      have : ∀ (ns acc : List Int), (∀ x ∈ acc, 0 ≤ x ∧ x < 256) → (∀ x ∈ ns, 0 ≤ x ∧ x < 256) → ∀ x ∈ poolF acc ns, 0 ≤ x ∧ x < 256 := by
        intro ns
        induction ns with
        | nil => intro acc h _ x hx; exact h x hx
        | cons y r ih =>
          intro acc h h2 x hx
          rw [poolF] at hx
          split at hx
          · exact ih acc h (fun z hz => h2 z (List.mem_cons_of_mem _ hz)) x hx
          · exact ih (acc ++ [y]) (fun z hz => (List.mem_append.mp hz).elim (h z) fun e => by rw [List.mem_singleton.mp e]; exact h2 y List.mem_cons_self) (fun z hz => h2 z (List.mem_cons_of_mem _ hz)) x hx
      exact this ls [] (fun x h => by cases h) rng x hx
    have win : ∀ (ls : List Int) (P : List Int), (∀ x ∈ ls, x ∈ P) → P.length ≤ 12 → ∀ c ∈ ws39 P ls, 0 ≤ c ∧ c < 1024 := by
      intro ls
      induction ls with
      | nil => intro P _ _ c hc; cases hc
      | cons y r ih =>
        intro P h hp c hc
        rcases List.mem_cons.mp hc with e | hc
        · omega
        rcases List.mem_cons.mp hc with e | hc
        · have := List.idxOf_lt_length_of_mem (h y List.mem_cons_self)
          omega
        rcases List.mem_cons.mp hc with e | hc
        · omega
        exact ih P (fun x hx => h x (List.mem_cons_of_mem _ hx)) hp c hc
    intro c hc
    unfold cs39 at hc
    rcases List.mem_append.mp hc with z | z
    · rcases List.mem_append.mp z with z | z
      · rcases List.mem_append.mp z with z | z
        · exact win ls _ (fun x hx => poolF_mem (.inr hx)) pl c z
        · rw [List.mem_singleton.mp z]; decide
      · rw [(List.mem_replicate.mp z).2]; decide
    · have := pin c (List.mem_reverse.mp z); omega
  · exact getD_of (wa _ _ (ws39_at _ ls i h).1)
  · have hm : ls.getD i 0 ∈ poolF [] ls := poolF_mem (.inr (by rw [List.getD_eq_getElem?_getD, List.getElem?_eq_getElem h]; exact List.getElem_mem h))
    have il := List.idxOf_lt_length_of_mem hm
    refine ⟨63 - ((poolF [] ls).idxOf (ls.getD i 0) : Nat), getD_of (wa _ _ (ws39_at _ ls i h).2.1), by omega, by omega, ?_⟩
    rw [show (63 - ((poolF [] ls).idxOf (ls.getD i 0) : Nat) : Int).toNat = 63 - (poolF [] ls).idxOf (ls.getD i 0) by omega]
    exact getD_of (fs_pool hm fl)
  · exact getD_of (wa _ _ (ws39_at _ ls i h).2.2)
  · refine getD_of (w (3 * ls.length) 775 ?_)
    rw [List.getElem?_append_right (by omega), wl, Nat.sub_self]; rfl
/-! users loaded, then started -/
section
variable {n r u v : Nat} {h : Ho} {lsF : Nat → List Int}
def BegL (n i : Nat) (lsF : Nat → List Int) (h : Ho) : Prop := (∀ u, u < i → u < n → pu h u = newP (cs39 (lsF u)) 0) ∧ ∀ u, i ≤ u → u < n → pu h u = newP (List.replicate 64 0) 0
def BegS (n i : Nat) (lsF : Nat → List Int) (h : Ho) : Prop := (∀ u, u < i → u < n → Sk (lsF u) (cs39 (lsF u)) (pu h u) ∧ fi39 (lsF u) (pu h u) = 3 * ((lsF u).length : Int) + 1) ∧ ∀ u, i ≤ u → u < n → pu h u = newP (cs39 (lsF u)) 0
theorem begL_0 {q b : Int} : BegL n 0 lsF (newH n r q b) := ⟨fun u h => absurd h (Nat.not_lt_zero u), fun u _ h => by
  show (List.replicate n (newP (List.replicate 64 0) 0)).getD u _ = _
  rw [List.getD_eq_getElem?_getD, List.getElem?_replicate, if_pos h]; rfl⟩
theorem BegL.next {i : Nat} (w : WfH n r h) (x : BegL n i lsF h) (hi : i < n) : BegL n (i + 1) lsF (loadT h i (cs39 (lsF i))) := by
  have e : ∀ v, pu (loadT h i (cs39 (lsF i))) v = if v = i then newP (cs39 (lsF i)) 0 else pu h v := fun v => by
    by_cases c : v = i
    · subst c
      rw [if_pos rfl]
      refine (pu_set (by rw [w.lp]; exact hi)).trans ?_
      rw [x.2 v (Nat.le_refl v) hi]; rfl
    · rw [if_neg c]
      exact pu_ne fun z => c z.symm
  refine ⟨fun u h1 h2 => ?_, fun u h1 h2 => ?_⟩
  · rw [e]; by_cases c : u = i
    · rw [if_pos c, c]
    · rw [if_neg c]; exact x.1 u (by omega) h2
  · rw [e, if_neg (by omega)]; exact x.2 u (by omega) h2
theorem BegL.s (x : BegL n n lsF h) : BegS n 0 lsF h := ⟨fun u h => absurd h (Nat.not_lt_zero u), fun u _ h => x.1 u h h⟩
theorem BegS.next {i : Nat} (w : WfH n r h) (sc : ∀ u, u < n → Sc (lsF u) (cs39 (lsF u))) (x : BegS n i lsF h) (hi : i < n) : BegS n (i + 1) lsF (startT h i 0) := by
  have e : ∀ v, pu (startT h i 0) v = if v = i then happenP (newP (cs39 (lsF i)) 0) (.start 0) else pu h v := fun v => by
    unfold startT
    rw [settle_pu]
    by_cases c : v = i
    · subst c
      rw [if_pos rfl]
      refine (event_u (by rw [w.lp]; exact hi)).trans ?_
      rw [x.2 v (Nat.le_refl v) hi]
    · rw [if_neg c]
      exact event_v fun z => c z.symm
  refine ⟨fun u h1 h2 => ?_, fun u h1 h2 => ?_⟩
  · rw [e]; by_cases c : u = i
    · rw [if_pos c]; subst c; exact sk_new (sc u h2)
    · rw [if_neg c]; exact x.1 u (by omega) h2
  · rw [e, if_neg (by omega)]; exact x.2 u (by omega) h2
theorem BegS.f (x : BegS n n lsF h) : F39 n lsF h = totD n fun u => 3 * ((lsF u).length : Int) + 1 := by
  have e : ∀ k, k ≤ n → totD k (fun u => fi39 (lsF u) (pu h u)) = totD k fun u => 3 * ((lsF u).length : Int) + 1 := by
    intro k
    induction k with
    | zero => intro _; rfl
    | succ k ih =>
      intro hk
      rw [totD_s, totD_s, ih (by omega), (x.1 k (by omega) (by omega)).2]
  exact e n (Nat.le_refl n)
end
/-! ### readings of texts, signs -/
section
variable {K : PySem.W.Frag} {H H' H1 : Hp} {F : FS} {W : Hp → Prop} {σ : L2.St} {te ta tb tc to : TE} {v : V} {d e : PyData} {s t : LN} {i j : Int} {vs : List V} {D : Addr} {b c : Bool}
theorem am_neLn (ha : Dv K F W ta σ H (lnD s)) (hb : Dv K F W tb σ H (lnD t)) : AnsM F W (tTest (tOp rNe ta tb)) σ H (!decide (s = t)) := fun H1 m o Q q =>
  ha H1 m o _ fun v H2 m2 o2 hv => hb H2 (m.trans m2) o2 _ fun v' H3 m3 o3 hv' => by
    cases hv.strV; cases hv'.strV
    exact ⟨rfl, !decide (s = t), by rw [show (decide (V.str (oL s) = V.str (oL t))) = decide (s = t) by rw [dec_vstr, dec_oL]], q _ (m2.trans m3) o3⟩
theorem dv_lcat (ha : Dv K F W ta σ H (lnD s)) (hb : Dv K F W tb σ H (lnD t)) (hl : s.length + t.length ≤ 100000) : Dv K F W (tOp (fun x y H Q => ∃ i j, x = .str i ∧ y = .str j ∧ i.length + j.length ≤ sizeLine ∧ Q (.str (i ++ j)) H) ta tb) σ H (lnD (s ++ t)) :=
  (dv_catS ha hb (by rw [oL_len s, oL_len t]; exact hl)).eq (by rw [lnD, oL_app])
theorem dv_num {n : Int} (h : ∀ H1, Mv F H F H1 → Ok F W H1 → Val te σ H1 (.int n)) (h0 : 0 ≤ n) (h1 : n < 10000) : Dv K F W (tCB (fun xs H Q => ∃ i, xs = [.int i] ∧ i.natAbs.log2 < 1920 ∧ Q (.str (toString i)) H) (tCons te tNil)) σ H (lnD (numT n)) :=
  (dv_toS h (by omega)).eq (by rw [lnD, oL_num])
theorem dv_lit {s : Str} (h : .str s = lnD t := by rfl) : Dv K F W (tC (.str s)) σ H (lnD t) := dv_s.eq h
theorem dv_ln (h : ∀ H1, Mv F H F H1 → Ok F W H1 → Val te σ H1 (.str (oL t))) : Dv K F W te σ H (lnD t) := dv_st h
theorem dv_vln {k : Nat} (h : σ[k]? = some (some (.str (oL t)))) : Dv K F W (tVar k) σ H (lnD t) := dv_var h (.str _)
end
theorem joinL_snoc (s y : LN) : ∀ xs : List LN, xs ≠ [] → TL.joinL s (xs ++ [y]) = TL.joinL s xs ++ (s ++ y)
  | [], h => absurd rfl h
  | [p], _ => rfl
  | p :: q :: r, _ => by
    show p ++ (s ++ TL.joinL s ((q :: r) ++ [y])) = (p ++ (s ++ TL.joinL s (q :: r))) ++ (s ++ y)
    rw [joinL_snoc s y (q :: r) (by simp)]
    simp
theorem am_B {K : PySem.W.Frag} {H : Hp} {F : FS} {W : Hp → Prop} {σ : L2.St} {te : TE} {b : Bool} (h : Dv K F W te σ H (.bool b)) : AnsM F W (tB te) σ H b := fun H1 m o Q q => h H1 m o _ fun v H2 m2 o2 hv => by
  cases hv
  exact ⟨b, rfl, q H2 m2 o2⟩
theorem dv_sum {K : PySem.W.Frag} {H : Hp} {F : FS} {W : Hp → Prop} {σ : L2.St} {te : TE} {ns : List Int} (h : Dv K F W te σ H (.list (intsL ns))) : Dv K F W (tCB (rSum K) (tCons te tNil)) σ H (.int ns.sum) := fun H1 m o Q q =>
  x_sumM o (h.mv m) fun H' m' o' => q _ _ m' o' (.int _)
theorem dv_mul {K : PySem.W.Frag} {H : Hp} {F : FS} {W : Hp → Prop} {σ : L2.St} {ta tb : TE} {i j : Int} (ha : Dv K F W ta σ H (.int i)) (hb : Dv K F W tb σ H (.int j)) (hc : CMul i j) : Dv K F W (tOp (rI CMul fun i j => .int (i * j)) ta tb) σ H (.int (i * j)) := fun H1 m o _ q =>
  ha H1 m o _ fun v H2 m2 o2 hv => hb H2 (m.trans m2) o2 _ fun v' H3 m3 o3 hv' => by
    cases hv; cases hv'
    exact ⟨_, _, rfl, rfl, hc, q _ _ (m2.trans m3) o3 (.int _)⟩
/-! ### k39: promises of the law's own defs -/
def msgV (ns : List Int) (u : Nat) : List Int := (List.range (mixV (cellAt ns (4 + (u : Int))) 9871 13).toNat).map fun (k : Nat) => mixV (cellAt ns (4 + (u : Int)) + 31 * ((k : Int) % 5)) 9859 256
theorem msg_in (ns : List Int) (u : Nat) : (msgV ns u).length ≤ 12 ∧ ∀ x ∈ msgV ns u, 0 ≤ x ∧ x < 256 := by
  have m1 := mixV_hi (c := cellAt ns (4 + (u : Int))) (p := 9871) (m := 13) (by decide)
  refine ⟨by unfold msgV; rw [List.length_map, List.length_range]; omega, fun x hx => ?_⟩
  obtain ⟨k, _, rfl⟩ := List.mem_map.mp hx
  exact ⟨mixV_lo (by decide), mixV_hi (by decide)⟩
def preMsg (K : PySem.W.Frag) (vs : List V) (H : Hp) (F : FS) (_ : Hp → Prop) (d : List PyData) : Prop := ∃ (a : Addr) (ns : List Int) (u : Nat), vs = [.ref a, .int (u : Int)] ∧ SF K H F a ns ∧ d = intsL (msgV ns u)
def preTxt39 (K : PySem.W.Frag) (vs : List V) (H : Hp) (F : FS) (_ : Hp → Prop) (d : PyData) : Prop := ∃ (v : V) (ls : List Int), vs = [v] ∧ Da K H F v (.list (intsL ls)) ∧ ls.length ≤ 12 ∧ (∀ x ∈ ls, 0 ≤ x ∧ x < 256) ∧ d = lnD (TL.joinL [10] (lines39 ls))
abbrev msgsD (n : Nat) (lsF : Nat → List Int) : PyData := .list ((List.range n).map fun u => .list (intsL (lsF u)))
theorem msgs_at {n u : Nat} (lsF : Nat → List Int) (h : u < n) : ((List.range n).map fun u => PyData.list (intsL (lsF u)))[((u : Nat) : Int).toNat]? = some (.list (intsL (lsF u))) := by
  rw [Int.toNat_natCast, List.getElem?_map, List.getElem?_range h]; rfl
theorem totD_map (n : Nat) (f : Nat → Int) : ((List.range n).map f).sum = totD n f := rfl
theorem totD_bd {f : Nat → Int} {c : Int} : ∀ n : Nat, (∀ v, v < n → 0 ≤ f v ∧ f v ≤ c) → 0 ≤ totD n f ∧ totD n f ≤ (n : Int) * c
  | 0, _ => by show (0 : Int) ≤ 0 ∧ (0 : Int) ≤ ((0 : Nat) : Int) * c; simp
  | n + 1, h => by
    have i := totD_bd n fun v hv => h v (by omega)
    have j := h n (by omega)
    have e : ((n + 1 : Nat) : Int) * c = (n : Int) * c + c := by rw [Int.natCast_add, Int.add_mul]; simp
    rw [totD_s, e]; omega
theorem DvN.eqw {K : PySem.W.Frag} {F : FS} {W : Hp → Prop} {te : TE} {σ : L2.St} {H : Hp} {ds es : List PyData} (h : DvN K F W te σ H ds) (e : ds = es) : DvN K F W te σ H es := by rw [← e]; exact h
section
variable {P : Program} {w : World} {K : PySem.W.Frag} {mg : Str → Option Value} {base : Heap}

theorem sc_law_message : FnScope ["_law_script", "_law_user", "_law_many", "_law_k"] ["_law_script", "_law_user"] (defScope s_law_message) := ⟨rfl, rfl, rfl, by decide +kernel, rfl, by decide +kernel, by decide +kernel⟩
theorem cal_law_message (T : Tx K mg) : Cal P w K mg base 2 "_law_message" ["_law_script", "_law_user"] (spDN K (preMsg K)) := by
  refine cal_mk T 47 47 rfl rfl sc_law_message (fun _ _ _ _ _ _ us hl => match us, hl with | [_, _], _ => rfl) (fun vs H Q E h => ?_) (fun f cdv A outer s H vs Q E hr h => ?_)
  · obtain ⟨F, W, ds, wo, ok, ⟨a, ns, u, rfl, hS, rfl⟩, k⟩ := h
    rfl
  · obtain ⟨F, W, ds, wo, ok, ⟨a, ns, u, rfl, hS, rfl⟩, k⟩ := h
    refine ⟨_, (pss_cons (ps_set (i := 2) sc_law_message.nd rfl (Or.inl rfl) (pe_cal (cal_law_mix (K := K) T) hr (by decide) rfl (pa_cons (pe_cal (cal_law_cell (K := K) T) hr (by decide) rfl (pa_cons (pv 0) (pa_cons (pe_op op_add pe_int (pv 1)) pa_nil))) (pa_cons pe_int (pa_cons pe_int pa_nil))))) (pss_one (ps_ret (pe_lc (own := [("_law_k", 3)]) (g := gName 3) (tt := tYes) (by rfl) sc_law_message.nd (pi_range1 (by rfl) (T.free 52) (pa_cons (pv 2) pa_nil)) (blkOk_by (own := [("_law_k", 3)]) (N := ["_law_script", "_law_user", "_law_many", "_law_k"]) (sc := defScope s_law_message) (by decide +kernel)) (fun _ _ _ _ _ => pg_name (i := 3) sc_law_message.nd rfl (Or.inl rfl)) (fun _ _ _ _ _ => pts_nil) (fun _ _ _ _ _ => (pe_cal (cal_law_mix (K := K) T) hr (by decide) rfl (pa_cons (pe_op op_add (pe_cal (cal_law_cell (K := K) T) hr (by decide) rfl (pa_cons (pv 0) (pa_cons (pe_op op_add pe_int (pv 1)) pa_nil))) (pe_op op_mul pe_int (pe_op op_mod (pv 3) pe_int))) (pa_cons pe_int (pa_cons pe_int pa_nil))))))))), ?_⟩
    refine q_set (v_call (va_cons (v_call (va_cons (v_var rfl) (va_cons (v_add v_c (v_var rfl)) va_nil)) (fun _ q => ⟨_, _, _, rfl, hS.sq, by omega, q⟩)) (va_cons v_c (va_cons v_c va_nil))) (fun _ q => ⟨_, _, _, rfl, by decide, by decide, q⟩)) ?_
    have m0 := mixV_lo (c := cellAt ns (4 + (u : Int))) (p := 9871) (m := 13) (by decide)
    have m1 := mixV_hi (c := cellAt ns (4 + (u : Int))) (p := 9871) (m := 13) (by decide)
    refine x_dn (K := K) (ds := intsL (msgV ns u)) ((dn_lcR (z := mixV (cellAt ns (4 + (u : Int))) 9871 13) (fun _ => true) (fun (k : Nat) => .int (mixV (cellAt ns (4 + (u : Int)) + 31 * ((k : Int) % 5)) 9859 256)) wo (fun _ _ _ => va_cons (v_var rfl) va_nil) (by omega) (fun _ => rfl) (fun _ _ _ _ _ _ => ans_yes) (fun i H1 F1 W1 tn hi _ => dv_i fun H3 m3 _ => v_call (va_cons (v_add (v_call (va_cons (v_var rfl) (va_cons (v_add v_c (v_var rfl)) va_nil)) (fun _ q => ⟨_, _, _, rfl, ((hS.mv tn.mv).mv m3).sq, by omega, q⟩)) (v_mul v_c (v_mod (v_var rfl) v_c (by decide)) (.inl ⟨by decide, by decide⟩))) (va_cons v_c (va_cons v_c va_nil))) (fun _ q => ⟨_, _, _, rfl, by decide, by decide, q⟩))).eqw (by rw [fmD_all]; unfold intsL msgV; rw [List.map_map]; rfl)) ok .refl (fun D H' ow m => k D H' ow.fr ow.mv ow.ok ow.ow)

theorem sc_law_text : FnScope ["_law_letters", "_law_lines", "_law_letter"] ["_law_letters"] (defScope s_law_text) := ⟨rfl, rfl, rfl, by decide +kernel, rfl, by decide +kernel, by decide +kernel⟩
theorem cal_law_text (T : Tx K mg) : Cal P w K mg base 2 "_law_text" ["_law_letters"] (spDV K (preTxt39 K)) := by
  refine cal_mk T 48 48 rfl rfl sc_law_text (fun _ _ _ _ _ _ us hl => match us, hl with | [_], _ => rfl) (fun vs H Q E h => ?_) (fun f cdv A outer s H vs Q E hr h => ?_)
  · obtain ⟨F, W, d, wo, ok, ⟨v, ls, rfl, hv, ll, rng, rfl⟩, k⟩ := h
    rfl
  · obtain ⟨F, W, d, wo, ok, ⟨v, ls, rfl, hv, ll, rng, rfl⟩, k⟩ := h
    refine ⟨_, (pss_cons (ps_set (i := 1) sc_law_text.nd rfl (Or.inl rfl) (pe_lst pa_nil)) (pss_cons (ps_for PassesOwn.never rfl (pi_list (pv 0)) (pg_name (i := 2) sc_law_text.nd rfl (Or.inl rfl)) (pss_one (ps_set (i := 1) sc_law_text.nd rfl (Or.inl rfl) (pe_op op_cat (pv 1) (pe_lst (pa_cons pe_str (pa_cons (pe_op op_add_str pe_str (pe_callTy call_str_int (by rfl) (T.free 55) (by decide +kernel) (pa_cons (pv 2) pa_nil))) (pa_cons pe_str pa_nil)))))))) (pss_one (ps_ret (pe_join pe_str (pe_op op_cat (pv 1) (pe_lst (pa_cons pe_str pa_nil)))))))), ?_⟩
    obtain ⟨b, rfl, _, _⟩ := hv.intsR
    obtain ⟨i1, i2, i3, i4, i5⟩ := it39_facts rng
    have i6 := asm39 ll rng
    refine q_d (K := K) (d := lnsD []) (dv_lst wo da_nil) ok (fun v1 H1 m1 o1 h1 => ?_)
    refine q_forL (v_var rfl) (hv.mv m1).sqI (fun i σ' H' => ∃ acc vl y, σ' = [some (.ref b), some vl, y] ∧ Mv F H F H' ∧ Ok F W H' ∧ Da K H' F vl (lnsD acc) ∧ acc.length = 3 * i ∧ acc ++ (it39 (ls.drop i)).map It39.line = (it39 ls).map It39.line) ⟨[], v1, _, rfl, m1, o1, h1, rfl, rfl⟩ (fun i σ' H' pv => ?_) (fun i x σ' H' hx pv => ?_) (fun σ' H' pv => ?_)
    · obtain ⟨acc, vl, y, rfl, m, _⟩ := pv
      exact (hv.mv m).sqI
    · obtain ⟨acc, vl, y, rfl, m, o2, hl, al, e⟩ := pv
      rw [List.getElem?_map] at hx
      obtain ⟨n, hn, rfl⟩ := Option.map_eq_some_iff.mp hx
      have hlt := (List.getElem?_eq_some_iff.mp hn).1
      obtain ⟨n0, n1⟩ := rng n (List.mem_of_getElem? hn)
      have l4 := numT_len (n := n) (k := 4) n0 (by decide) (by show n < (10000 : Int); omega)
      rw [drop_at hn, it39] at e
      refine s_d (K := K) (d := lnsD (acc ++ [lnZ, lnA n, lnS])) ((dv_catL (ds := acc.map lnD) (es := [lnD lnZ, lnD (lnA n), lnD lnS]) wo (dv_var rfl hl) (dv_lst wo (da_cons dv_lit (da_cons (dv_lcat (s := sL "  add =") dv_lit (dv_num (fun _ _ _ => v_var rfl) n0 (by omega)) (by have : (sL "  add =").length = 7 := (by decide); omega)) (da_cons dv_lit da_nil)))) (by rw [List.length_map]; simp; omega)).eq (by unfold lnsD; rw [List.map_append]; rfl)) o2 (fun v3 H3 m3 o3 h3 => ?_)
      exact ⟨_, v3, _, rfl, m.trans m3, o3, h3, by rw [List.length_append, al]; simp; omega, by rw [← e, List.append_assoc]; rfl⟩
    · obtain ⟨acc, vl, y, rfl, m, o2, hl, al, e⟩ := pv
      rw [List.length_map] at al
      rw [List.length_map, List.drop_length, it39, List.map_nil, List.append_nil] at e
      have el : lines39 ls = acc ++ [lnE] := by unfold lines39; rw [← e]
      rw [el] at k i6
      exact s_retD (K := K) (d := lnD (TL.joinL [10] (acc ++ [lnE]))) (dv_joinL (s := [10]) (b := 30) dv_lit ((dv_catL (ds := acc.map lnD) (es := [lnD lnE]) wo (dv_var rfl hl) (dv_lst wo (da_cons dv_lit da_nil)) (by rw [List.length_map]; simp; omega)).eq (by unfold lnsD; rw [List.map_append]; rfl)) i6.2.1 (by have := i6.2.2; simp at this ⊢; omega)) o2 (fun v H' m' o hd => k v H' (m.trans m') o hd)

end

section
variable {P : Program} {w : World} {K : PySem.W.Frag} {mg : Str → Option Value} {base : Heap}

theorem sc_law : FnScope ["_law_script", "_law_users", "_law_beat", "_law_made", "_law_user", "_law_messages", "_law_count", "_law_found", "_law_letters"] ["_law_script"] (defScope s_law) := ⟨rfl, rfl, rfl, by decide +kernel, rfl, by decide +kernel, by decide +kernel⟩
theorem law_ok (T : Tx K mg) {f : Addr} {fd : FuncData} (F : FunD K "law" "law" (defArgs s_law) (defBody s_law) (defScope s_law) [] [] f fd) : FnOk P w K mg base CX0 10 f fd ["_law_script"] (spLaw K) := by
  refine F.ok sc_law (fun vs H Q E h => ?_) (fun cdv A outer s H vs Q E hr h => ?_)
  · obtain ⟨a, ns, rfl, _⟩ := h
    rfl
  · obtain ⟨a, ns, rfl, hS, hlen, k⟩ := h
    have M := T.mt
    have U := T.pt
    have HT : HTx K (CCk K).h := T.ht
    have RT : RTx K (CCk K).r := T.rt
    refine ⟨_, PSs.nox (pss_cons (ps_set (i := 1) sc_law.nd rfl (Or.inl rfl) (pe_op op_add pe_int (pe_op op_mod (pe_cal (cal_law_cell (K := K) T) hr (by decide) rfl (pa_cons (pv 0) (pa_cons pe_int pa_nil))) pe_int))) (pss_cons (ps_set (i := 2) sc_law.nd rfl (Or.inl rfl) (pe_op op_add pe_int (pe_op op_mod (pe_cal (cal_law_cell (K := K) T) hr (by decide) rfl (pa_cons (pv 0) (pa_cons pe_int pa_nil))) pe_int))) (pss_cons (ps_set (i := 3) sc_law.nd rfl (Or.inl rfl) (show PE _ _ (tMake (He.ga K "House") _ [] E0 _) from pe_new (cal_House (K := K) T) hr (by decide) rfl (pa_cons (pv 1) (pa_cons (pe_op op_add pe_int (pe_op op_mod (pe_cal (cal_law_cell (K := K) T) hr (by decide) rfl (pa_cons (pv 0) (pa_cons pe_int pa_nil))) pe_int)) (pa_cons (pe_op op_add pe_int (pe_op op_mod (pe_cal (cal_law_cell (K := K) T) hr (by decide) rfl (pa_cons (pv 0) (pa_cons pe_int pa_nil))) pe_int)) (pa_cons (pv 2) pa_nil)))))) (pss_cons (ps_setLc (i := 5) (own := [("_law_user", 4)]) (g := gName 4) (tt := tYes) rfl sc_law.nd rfl rfl (sw_true rfl rfl rfl (by decide +kernel)) (pi_range1 (by rfl) (T.free 52) (pa_cons (pv 1) pa_nil)) (blkOk_by (own := [("_law_user", 4)]) (N := ["_law_script", "_law_users", "_law_beat", "_law_made", "_law_user", "_law_messages", "_law_count", "_law_found", "_law_letters"]) (sc := defScope s_law) (by decide +kernel)) (fun _ _ _ _ _ => pg_name (i := 4) sc_law.nd rfl (Or.inl rfl)) (fun _ _ _ _ _ => pts_nil) (fun _ _ _ _ _ => (pe_cal (cal_law_message (K := K) T) hr (by decide) rfl (pa_cons (pv 0) (pa_cons (pv 4) pa_nil))))) (pss_cons (ps_for PassesOwn.never rfl (pi_range1 (by rfl) (T.free 52) (pa_cons (pv 1) pa_nil)) (pg_name (i := 4) sc_law.nd rfl (Or.inl rfl)) (pss_one (ps_expr (pe_cal (cal_load (K := K) T) hr (by decide) rfl (pa_cons (pv 3) (pa_cons (pv 4) (pa_cons (pe_cal (cal_assembled (K := K) T) hr (by decide) rfl (pa_cons (pe_cal (cal_law_text (K := K) T) hr (by decide) rfl (pa_cons (pe_ix ix_list (pv 5) (pv 4) (fun _ _ => rfl)) pa_nil)) pa_nil)) pa_nil))))))) (pss_cons (ps_for PassesOwn.never rfl (pi_range1 (by rfl) (T.free 52) (pa_cons (pv 1) pa_nil)) (pg_name (i := 4) sc_law.nd rfl (Or.inl rfl)) (pss_one (ps_expr (pe_cal (cal_start (K := K) T) hr (by decide) rfl (pa_cons (pv 3) (pa_cons (pv 4) (pa_cons pe_int pa_nil))))))) (pss_cons (ps_set (i := 6) sc_law.nd rfl (Or.inl rfl) (pe_op op_add (pe_callB (cr_sum rfl) (by rfl) (T.free 57) (by decide +kernel) (pa_cons (pe_lc (own := [("_law_letters", 8)]) (g := gName 8) (tt := tYes) (by rfl) sc_law.nd (pi_list (pv 5)) (blkOk_by (own := [("_law_letters", 8)]) (N := ["_law_script", "_law_users", "_law_beat", "_law_made", "_law_user", "_law_messages", "_law_count", "_law_found", "_law_letters"]) (sc := defScope s_law) (by decide +kernel)) (fun _ _ _ _ _ => pg_name (i := 8) sc_law.nd rfl (Or.inl rfl)) (fun _ _ _ _ _ => pts_nil) (fun _ _ _ _ _ => (pe_op op_add (pe_op op_mul pe_int (pe_callB (show CallR _ _ (rLenQ K) from call_len_seq) (by rfl) (T.free 50) PySem.boot_len (pa_cons (pv 8) pa_nil))) pe_int))) pa_nil)) (pe_op op_mul pe_int (pv 2)))) (pss_cons (ps_expr (pe_cal (cal_run (K := K) T) hr (by decide) rfl (pa_cons (pv 3) (pa_cons (pe_op op_add (pv 6) (pe_op op_mul (pe_callB (cr_sum rfl) (by rfl) (T.free 57) (by decide +kernel) (pa_cons (pe_lc (own := [("_law_letters", 8)]) (g := gName 8) (tt := tYes) (by rfl) sc_law.nd (pi_list (pv 5)) (blkOk_by (own := [("_law_letters", 8)]) (N := ["_law_script", "_law_users", "_law_beat", "_law_made", "_law_user", "_law_messages", "_law_count", "_law_found", "_law_letters"]) (sc := defScope s_law) (by decide +kernel)) (fun _ _ _ _ _ => pg_name (i := 8) sc_law.nd rfl (Or.inl rfl)) (fun _ _ _ _ _ => pts_nil) (fun _ _ _ _ _ => (pe_callB (show CallR _ _ (rLenQ K) from call_len_seq) (by rfl) (T.free 50) PySem.boot_len (pa_cons (pv 8) pa_nil)))) pa_nil)) (pv 2))) pa_nil)))) (pss_cons (ps_for PassesOwn.never rfl (pi_range1 (by rfl) (T.free 52) (pa_cons (pv 1) pa_nil)) (pg_name (i := 4) sc_law.nd rfl (Or.inl rfl)) (pss_cons (ps_set (i := 7) sc_law.nd rfl (Or.inl rfl) (pe_cal (cal_seen (K := K) T) hr (by decide) rfl (pa_cons (pv 3) (pa_cons (pv 4) pa_nil)))) (pss_one (ps_if (PW.pt (pw_or (pt_cmpR (op_neD hr.units) (pe_ix ix_tup (pv 7) pe_int (fun _ _ => rfl)) (pe_callTy call_tuple_of (by rfl) (T.free 53) (by decide +kernel) (pa_cons (pe_ix ix_list (pv 5) (pv 4) (fun _ _ => rfl)) pa_nil)) (nomark _)) (pw_or (pt_cmpR (op_neD hr.units) (pe_ix ix_tup (pv 7) pe_int (fun _ _ => rfl)) pe_str (nomark _)) (pw_or1 (pt_cmpR (op_neD hr.units) (pe_ix ix_tup (pv 7) pe_int (fun _ _ => rfl)) (pe_tup pa_nil) (nomark _)))))) (pss_one (ps_ret pe_bl)) pss_nil)))) (pss_one (ps_ret (pe_cmpR op_isN1 (pe_fld (pv 3) rfl) pe_non (nomark _))))))))))))), ?_⟩
    have hS := SF.of hS
    have ok : Ok noF wT H := ⟨FA.none, trivial⟩
    obtain ⟨n, en⟩ : ∃ n : Nat, 1 + cellAt ns 0 % 3 = (n : Int) := ⟨(1 + cellAt ns 0 % 3).toNat, by omega⟩
    obtain ⟨r, er⟩ : ∃ r : Nat, 1 + cellAt ns 1 % 2 = (r : Int) := ⟨(1 + cellAt ns 1 % 2).toNat, by omega⟩
    refine q_set (v_eqv (v_add v_c (v_mod (v_call (va_cons (v_var rfl) (va_cons v_c va_nil)) (fun _ q => ⟨_, _, _, rfl, hS.sq, by decide, q⟩)) v_c (by decide))) (show _ = V.int (n : Int) from congrArg V.int en)) ?_
    refine q_set (v_add v_c (v_mod (v_call (va_cons (v_var rfl) (va_cons v_c va_nil)) (fun _ q => ⟨_, _, _, rfl, hS.sq, by decide, q⟩)) v_c (by decide))) ?_
    have bN : 1 ≤ n ∧ n ≤ 3 := by omega
    have bR : 1 ≤ r ∧ r ≤ 2 := by omega
    have bB : 1 ≤ 1 + cellAt ns 3 % 4 ∧ 1 + cellAt ns 3 % 4 ≤ 4 := by omega
    have bQ : 1 ≤ 1 + cellAt ns 2 % 5 ∧ 1 + cellAt ns 2 % 5 ≤ 5 := by omega
    refine qx_set (x_house (n := n) (m := r) (va_cons (v_var rfl) (va_cons (v_eqv (v_add v_c (v_mod (v_call (va_cons (v_var rfl) (va_cons v_c va_nil)) (fun _ q => ⟨_, _, _, rfl, hS.sq, by decide, q⟩)) v_c (by decide))) (congrArg V.int er)) (va_cons (v_add v_c (v_mod (v_call (va_cons (v_var rfl) (va_cons v_c va_nil)) (fun _ q => ⟨_, _, _, rfl, hS.sq, by decide, q⟩)) v_c (by decide))) (va_cons (v_var rfl) va_nil)))) (by omega) (by omega) (fun A H2 sy fr x s1 => ?_))
    generalize 1 + cellAt ns 3 % 4 = b at bB x sy ⊢
    generalize 1 + cellAt ns 2 % 5 = q at bQ x sy
    clear en er
    have mA : Mv noF H (footH n r A) H2 := ⟨fun z o _ e => s1 _ _ e, fun z f => .inr (fr z f)⟩
    replace hS := hS.mv mA
    have w0 : WfH n r (newH n r q b) := wf_newH (by omega) bQ.1 bB.1
    refine q_d (K := K) (d := msgsD n (msgV ns)) ((DvN.dv (dn_lcR (z := (n : Int)) (fun _ => true) (fun u => .list (intsL (msgV ns u))) woX (fun _ _ _ => va_cons (v_var rfl) va_nil) (by omega) (fun _ => rfl) (fun _ _ _ _ _ _ => ans_yes) (fun u H1 F1 W1 tn hu _ => DvN.dv (dn_sp tn.wo (fun _ _ _ => va_cons (v_var rfl) (va_cons (v_var rfl) va_nil)) (fun H3 m3 _ => ⟨a, ns, u, rfl, (hS.mv tn.mv).mv m3, rfl⟩))))).eq (by rw [fmD_all, Int.toNat_natCast])) (⟨x.fa, x⟩ : Ok (footH n r A) (fun H => HoAt (CCk K) n r H A (newH n r q b)) H2) (fun vm H3 m3 o3 hM => ?_)
    have x3 := o3.w
    have hin := msg_in ns
    generalize msgV ns = lsF at hM hin
    have sc : ∀ u, u < n → Sc (lsF u) (cs39 (lsF u)) := fun u _ => sc39 (hin u).1 (hin u).2
    have n8 : n ≤ 8 := by omega
    clear x mA s1 fr o3 m3 hS
    refine q_forR (n := (n : Int)) (va_cons (v_var rfl) va_nil) (by omega) (fun i σ' H' => ∃ A' h' y, A'.ad .house = A.ad .house ∧ Syn A' h' ∧ HoAt (CCk K) n r H' A' h' ∧ WfH n r h' ∧ Lm 0 h' ∧ Sd h' ∧ h'.beat = b ∧ BegL n i lsF h' ∧ Da K H' (footH n r A') vm (msgsD n lsF) ∧ σ' = [some (.ref a), some (.int (n : Int)), some (.int b), some (.ref (A.ad .house)), y, some vm, none, none, none]) ⟨A, _, _, rfl, sy, x3, w0, Lm.new, fun _ => rfl, rfl, begL_0, hM, rfl⟩ (fun (i : Nat) σ' H' hi pv => ?_) (fun σ' H' pv => ?_)
    · obtain ⟨A', h', y, eA, sA, xA, wA, lA, sd, eb, bg, hM, rfl⟩ := pv
      have hi2 : i < n := by omega
      obtain ⟨ea, lb, ll⟩ := asm39 (hin i).1 (hin i).2
      have jl := joinL_small (s := [10]) lb
      have sci := sc i hi2
      rw [← eA]
      refine sx_drop (xc (va_2 (v_var rfl) (v_var rfl) (x_dn (K := K) (ds := intsL (cs39 (lsF i))) (dn_spD (pre := preAsm) (es := [lnD (TL.joinL [10] (lines39 (lsF i)))]) woX (da_cons (dv_spD (pre := preTxt39 K) (d := lnD (TL.joinL [10] (lines39 (lsF i)))) (ds := [.list (intsL (lsF i))]) woX (da_cons (dv_ixL (dv_var rfl hM) (fun _ _ _ => v_var rfl) (by omega) (msgs_at lsF hi2)) da_nil) (fun vs H1 _ _ hd => by
        cases hd with | cons z1 t =>
        cases t
        exact ⟨_, lsF i, rfl, z1, (hin i).1, (hin i).2, rfl⟩)) da_nil) (fun vs H1 _ _ hd => by
        cases hd with | cons z1 t =>
        cases t
        exact ⟨_, _, by rw [z1.strV], by simp at jl; omega, ea, rfl⟩)) (⟨xA.fa, xA⟩ : Ok (footH n r A') (fun H => HoAt (CCk K) n r H A' h') H') .refl (fun Dn H3 ow m3 => ?_))))
      obtain ⟨vs, g1, g2⟩ := ow.ow
      have ev := g2.ints (ns := cs39 (lsF i))
      subst ev
      have wL := wf_load wA hi2 sci.len sci.inn
      refine ⟨n, r, A', h', i, Dn, cs39 (lsF i), rfl, ow.ok.w, wA, hi2, g1, ow.no, sci.len, fun H5 x5 m5 => ?_⟩
      exact ⟨A', loadT h' i (cs39 (lsF i)), _, rfl, ⟨sA.sw, sA.tn⟩, x5, wL, lm_load lA, sd, eb, bg.next wA hi2, (hM.mv m3).mv m5, by rw [eA]; rfl⟩
    obtain ⟨A1, h1, y, eA1, sA1, xA1, wA1, lA1, sd1, eb1, bg1, hM1, rfl⟩ := pv
    rw [Int.toNat_natCast] at bg1
    clear sy w0 x3 hM
    refine q_forR (n := (n : Int)) (va_cons (v_var rfl) va_nil) (by omega) (fun i σ' H' => ∃ A' h' y, A'.ad .house = A.ad .house ∧ Syn A' h' ∧ HoAt (CCk K) n r H' A' h' ∧ WfH n r h' ∧ Lm (81 * i) h' ∧ Sd h' ∧ h'.beat = b ∧ BegS n i lsF h' ∧ Da K H' (footH n r A') vm (msgsD n lsF) ∧ σ' = [some (.ref a), some (.int (n : Int)), some (.int b), some (.ref (A.ad .house)), y, some vm, none, none, none]) ⟨A1, h1, _, eA1, sA1, xA1, wA1, lA1, sd1, eb1, bg1.s, hM1, rfl⟩ (fun (i : Nat) σ' H' hi pv => ?_) (fun σ' H' pv => ?_)
    · obtain ⟨A', h', y, eA, sA, xA, wA, lA, sd, eb, bg, hM, rfl⟩ := pv
      have hi2 : i < n := by omega
      rw [← eA]
      have oa : actOk n ⟨.start, i, 0⟩ := ⟨hi2, (by decide : (0 : Int) ≤ 0 ∧ (0 : Int) < 64)⟩
      refine s_do (va_cons (v_var rfl) (va_cons (v_var rfl) (va_cons v_c va_nil))) ⟨n, r, A', h', _, i, 0, rfl, xA, wA, lA, by omega, hi2, n8, sA, by decide, by decide, fun A6 H6 e6 s6 x6 m6 => ?_⟩
      exact ⟨A6, _, _, by rw [e6, eA], s6, x6, wf_start wA hi2 (by decide), (lm_do lA wA oa n8).mono (by omega), sd_do (a := ⟨.start, i, 0⟩) wA sd oa, (qb_do (h := h') (a := ⟨.start, i, 0⟩)).2.1.trans eb, bg.next wA sc hi2, hM.mv m6, by rw [eA]; rfl⟩
    obtain ⟨A2, h2, y2, eA2, sA2, xA2, wA2, lA2, sd2, eb2, bg2, hM2, rfl⟩ := pv
    rw [Int.toNat_natCast] at bg2 lA2
    clear bg1 hM1 xA1 wA1 lA1 sd1 eb1 sA1 eA1
    have LI : ∀ xs : List Int, ((intsL xs).length : Int) = (xs.length : Int) := fun xs => by unfold intsL; rw [List.length_map]
    have bT := totD_bd (f := fun u => 3 * ((lsF u).length : Int) + 1) (c := 37) n fun v _ => by have := (hin v).1; omega
    have bM := totD_bd (f := fun u => ((lsF u).length : Int)) (c := 12) n fun v _ => by have := (hin v).1; omega
    have fT := bg2.f
    have al : Al39 n lsF (fun u => cs39 (lsF u)) h2 := fun u hu => (bg2.1 u hu hu).1
    refine q_d (K := K) (d := .int (totD n (fun u => 3 * ((lsF u).length : Int) + 1) + 16 * b)) (dv_add (dv_sum (ns := (List.range n).map fun u => 3 * ((lsF u).length : Int) + 1) ((DvN.dv (dn_lcG (List.range n) (fun u => .list (intsL (lsF u))) (fun _ => true) (fun u => .int (3 * ((lsF u).length : Int) + 1)) woX (dv_var rfl hM2) (by rw [List.length_range]; omega) (fun _ => rfl) (fun _ _ _ _ _ _ _ _ _ => am_a fun _ _ _ => ans_yes) (fun i x u H1 F1 W1 tn hu hx _ => dv_i fun H3 m3 _ => v_eqv (v_add (v_mul v_c (v_lenD (hx.mv m3) (v_var rfl)) (.inl ⟨by decide, by decide⟩)) v_c) (congrArg V.int (by rw [LI]))))).eq (by rw [fmD_all]; unfold intsL; rw [List.map_map]; rfl))) (dv_i fun _ _ _ => v_mul v_c (v_var rfl) (.inl ⟨by decide, by decide⟩))) (⟨xA2.fa, xA2⟩ : Ok (footH n r A2) (fun H => HoAt (CCk K) n r H A2 h2) _) (fun vc H3 m3 o3 hc => ?_)
    cases hc
    have hM3 := hM2.mv m3
    rw [← eA2]
    have hb1 : totD n (fun u => ((lsF u).length : Int)) * b ≤ totD n (fun u => ((lsF u).length : Int)) * 4 := Int.mul_le_mul_of_nonneg_left (by omega) bM.1
    have hb0 : 0 ≤ totD n (fun u => ((lsF u).length : Int)) * b := Int.mul_nonneg bM.1 (by omega)
    refine qx_drop (xc_2 (v_var rfl) (x_d (K := K) (d := .int (totD n (fun u => 3 * ((lsF u).length : Int) + 1) + 16 * b + totD n (fun u => ((lsF u).length : Int)) * b)) (dv_add (dv_i fun _ _ _ => v_var rfl) (dv_mul (dv_sum (ns := (List.range n).map fun u => ((lsF u).length : Int)) ((DvN.dv (dn_lcG (List.range n) (fun u => .list (intsL (lsF u))) (fun _ => true) (fun u => .int ((lsF u).length : Int)) woX (dv_var rfl hM3) (by rw [List.length_range]; omega) (fun _ => rfl) (fun _ _ _ _ _ _ _ _ _ => am_a fun _ _ _ => ans_yes) (fun i x u H1 F1 W1 tn hu hx _ => dv_i fun H3 m3 _ => v_eqv (v_lenD (hx.mv m3) (v_var rfl)) (congrArg V.int (by rw [LI]))))).eq (by rw [fmD_all]; unfold intsL; rw [List.map_map]; rfl))) (dv_i fun _ _ _ => v_var rfl) (.inr ⟨by omega, by omega⟩))) o3 (fun v4 H4 m4 o4 h4 => ?_)))
    cases h4
    have hM4 := hM3.mv m4
    generalize totD n (fun u => ((lsF u).length : Int)) = M at bM hb1 hb0 ⊢
    generalize totD n (fun u => 3 * ((lsF u).length : Int) + 1) = T' at bT fT ⊢
    obtain ⟨m, em⟩ : ∃ m : Nat, (m : Int) = T' + 16 * b + M * b := ⟨(T' + 16 * b + M * b).toNat, by omega⟩
    refine ⟨n, r, A2, h2, _, m, by rw [em], o4.w, wA2, lA2, by omega, n8, sA2, fun A3 H5 e5 s5 x5 m5 => ?_⟩
    dsimp only
    have w5 := wf_runT wA2 m
    obtain ⟨rn, fin⟩ := end39 wA2 sd2 sc al (Int.le_of_eq fT) bM.1 (by rw [eb2]; exact em)
    have hM5 := hM4.mv m5
    generalize runT h2 m = h5 at s5 x5 w5 rn fin
    clear fT em hb0 hb1 bT bM al hM4 hM3 hM2 xA2 o3 o4 bg2
    rw [← e5]
    refine q_forR (n := (n : Int)) (va_cons (v_var rfl) va_nil) (by omega) (fun i σ' H' => ∃ A' y1 y2, A'.ad .house = A3.ad .house ∧ HoAt (CCk K) n r H' A' h5 ∧ Da K H' (footH n r A') vm (msgsD n lsF) ∧ σ' = [some (.ref a), some (.int (n : Int)), some (.int b), some (.ref (A3.ad .house)), y1, some vm, some (.int (T' + 16 * b)), y2, none]) ⟨A3, _, _, rfl, x5, hM5, rfl⟩ (fun (u : Nat) σ' H' hu pv => ?_) (fun σ' H' pv => ?_)
    · obtain ⟨A4, y1, y2, e4, x4, hM4, rfl⟩ := pv
      have un : u < n := by omega
      obtain ⟨fp, fo, fs⟩ := fin u un
      rw [← e4]
      refine q_d (K := K) (d := shotD (pu h5 u)) (dv_spW woH (fun _ _ _ => va_cons (v_var rfl) (va_cons (v_var rfl) va_nil)) (fun _ _ _ => ⟨n, r, A4, h5, u, rfl, inW1, w5, un, rfl⟩)) (okH x4) (fun v H7 m7 o7 hv => ?_)
      obtain ⟨A5, ea5, _, e35, e45, x6⟩ := o7.w
      have ef : footH n r A4 = footH n r A5 := (foot_eq ea5).symm
      have hM6 := hM4.mv m7
      rw [ef] at hM6 hv
      have o6 : Ok (footH n r A5) (fun H => HoAt (CCk K) n r H A5 h5) H7 := ⟨x6.fa, x6⟩
      have sI : ∀ xs : List Int, Sh 1 (PyData.tuple (intsL xs)) := fun xs => sh_tup shA_ints
      refine s_ifFM (am_or (b := false) (c := false) ((am_neD (K := K) (d := intsD (pu h5 u).paper) (e := .tuple (intsL (lsF u))) (dv_ixT (dv_var rfl hv) (fun _ _ _ => v_c) (by decide) rfl) (dv_tuple woX (dv_ixL (dv_var rfl hM6) (fun _ _ _ => v_var rfl) (by omega) (msgs_at lsF un)) (.inl rfl)) ((sI _).shaped) ((sI _).shaped)).eq (by rw [fp]; show (!PyData.eqv (.tuple (intsL (lsF u))) (.tuple (intsL (lsF u)))) = false; rw [(sI _).refl]; rfl)) (fun _ => am_or (b := false) (c := false) ((am_neD (K := K) (d := .str (pu h5 u).st) (e := .str "stopped") (dv_ixT (dv_var rfl hv) (fun _ _ _ => v_c) (by decide) rfl) dv_s (by rw [fs]; exact (sh_str (n := 1) (by decide +kernel)).shaped) ((sh_str (n := 1) (by decide +kernel)).shaped)).eq (by rw [fs, (sh_str (n := 1) (by decide +kernel)).refl]; rfl)) (fun _ => (am_neD (K := K) (d := intsD (pu h5 u).outbox) (e := .tuple []) (dv_ixT (dv_var rfl hv) (fun _ _ _ => v_c) (by decide) rfl) (dv_tup woX da_nil) ((sI _).shaped) ((sI []).shaped)).eq (by rw [fo]; show (!PyData.eqv (.tuple (intsL [])) (.tuple (intsL []))) = false; rw [(sI []).refl]; rfl)))) rfl o6 (fun H8 m8 o8 => ?_)
      exact ⟨A5, _, _, by rw [ea5, e4], o8.w, hM6.mv m8, by rw [e4]; rfl⟩
    obtain ⟨A4, y1, y2, e4, x4, hM4, rfl⟩ := pv
    rw [← e4]
    refine s_ret (v_eqv (v_isN (vh_ (c := CCk K) HT x4 (v_var rfl) hl_runs) v_c) (congrArg V.bl (by rw [rn]))) ?_
    exact k _
end
theorem facts {P : Program} {w : World} {K : PySem.W.Frag} {h : Heap} {mg : Str → Option Value} {f : Addr} (X : K.In h) (G : h.Ns mainGlobals mg) (hfa : mg ("law" : Str) = some (.ref f)) (c : He.SaysD Hd.fa Hd.fn K ∧ Hd.exB K = true) :
    ∃ fd : FuncData, (∀ (s : Shared) (v : Value), BindsTo s fd ⟨[v], []⟩ [("_law_script", v)]) ∧ ∀ base : Heap, K.In base → base.Ns mainGlobals mg → FnOk P w K mg base CX0 10 f fd ["_law_script"] (spLaw K) := by
  obtain ⟨fd, F⟩ := c.1.def_ 49 (d := Hd.d_law) rfl
  have T : Tx K mg := ⟨⟨h, X, G⟩, c.1, c.2⟩
  have e := hfa.symm.trans (T.glo 49)
  cases e
  have b := FunD.bindsA (ps := ["_law_script"]) F fun _ _ _ _ _ _ us hl => match us, hl with | [_], _ => rfl
  exact ⟨fd, fun s v => b s [v] rfl, fun base _ _ => law_ok T F⟩
end Ch
open PySem PySem.W PySem.Calls PyProof.Rows
set_option maxRecDepth 100000 in
set_option maxHeartbeats 0 in
theorem PySem.Challenge.cw_corehouse_k39_whole_texts_speak_holds : PySem.Challenge.rw_corehouse_k39_whole_texts_speak.Holds := by
  w_on; o_law
  refine HandSHeadRun.head_any (r := OpenLaw.row PySem.Challenge.rw_corehouse_k39_whole_texts_speak) (q := view (OpenLaw.row PySem.Challenge.rw_corehouse_k39_whole_texts_speak).prog [76]) (H := Ch.Hd.hk) (ob := Ch.Hd.ob) (M := 6000) (loose := Ch.Hd.loose) (d := HandSHeadRun.topDef (OpenLaw.row PySem.Challenge.rw_corehouse_k39_whole_texts_speak).prog 76) (kwd := []) Ch.Hd.ob_eq
    (by kernel_rfl) (fun s => by kernel_rfl) Ch.Hd.run (by kernel_rfl) (by kernel_rfl) (by kernel_rfl) (by rfl) (by first | assumption | decide +kernel) (by decide +kernel) ⟨rfl, rfl, rfl, rfl, rfl, by decide +kernel⟩ ?hw ?hc
  case hw => w_witness2
  case hc =>
    refine L2.walk_ofE (l := PySem.Challenge.rw_corehouse_k39_whole_texts_speak) (n := 63) (k := 10) (x := "_law_script") (CX := L2.CX0) rfl (by decide) (by kernel_rfl) ⟨rfl, by decide, by decide⟩ ?F (fun _ _ _ _ z => z)
    intro w mg fa h Y G hmg0
    obtain ⟨K, KX, c⟩ := Y
    have hmg : mg ("law" : PySem.Str) = some (.ref fa) := by
      have e : (HandSHeadRun.topDef (OpenLaw.row PySem.Challenge.rw_corehouse_k39_whole_texts_speak).prog 76).name = ("law" : PySem.Str) := by kernel_rfl
      rw [← e]
      exact hmg0
    obtain ⟨fd, hb, hF⟩ := Ch.facts (P := (PySem.Challenge.rw_corehouse_k39_whole_texts_speak).prog) (w := w) KX G hmg c
    exact ⟨K, fd, Ch.spLaw K, KX, hb, fun H a ns hl _ hS => ⟨a, ns, rfl, hS, hl, fun _ => rfl⟩, hF⟩
#print axioms PySem.Challenge.cw_corehouse_k39_whole_texts_speak_holds
