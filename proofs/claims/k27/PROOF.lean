import PyProof.Rows.All
import Wide.All
import OpenK.AllK
import Wide.FinOn
import KE.KStateDown
import HandS.ForMost
import HandS.Defaults
import HandS.Head0
import HandS.Head1
import HandS.Head2
import HandS.HeadEnd
import HandS.HeadHook1
import HandS.HeadHook2
import HandS.Steps
import HandS.Codes
import HandS.IsInst
import HandS.Walk
import HandS.TupMul
import HandS.TupAny
import HandS.Zip
import PySem.Challenge.RW_corehouse_k27_whole_saved_and_taken
set_option Elab.async false
set_option linter.all false
set_option maxRecDepth 100000
set_option maxHeartbeats 4000000
namespace Ch
open PySem PySem.Spec PyProof.Rows L2
def top (i : Nat) : Stmt := PySem.Challenge.pw_corehouse_k27_whole_saved_and_taken.main.body.getD i (.Pass ⟨0, 0, 0, 0⟩)
abbrev s_parts : Stmt := top 1
abbrev s_skip : Stmt := top 4
abbrev s_added : Stmt := top 5
abbrev s_aim : Stmt := top 6
abbrev s_moved : Stmt := top 7
abbrev s_rolled : Stmt := top 8
abbrev s_changed : Stmt := top 9
abbrev s_tested : Stmt := top 10
abbrev s_deed : Stmt := top 11
abbrev s_again : Stmt := top 15
abbrev s_hear : Stmt := top 16
abbrev s_say : Stmt := top 17
abbrev s_doze : Stmt := top 18
abbrev s_carry : Stmt := top 19
abbrev s_ask : Stmt := top 20
abbrev s_heard : Stmt := top 21
abbrev s_ticked : Stmt := top 22
abbrev s_happen : Stmt := top 23
abbrev s_picture : Stmt := top 24
abbrev s_person_of : Stmt := top 25
abbrev s_room_with : Stmt := top 28
abbrev s_cells_of : Stmt := top 29
abbrev s_give_cells : Stmt := top 30
abbrev s_enter : Stmt := top 31
abbrev s_load : Stmt := top 34
abbrev s_set_switches : Stmt := top 35
abbrev s_event_told : Stmt := top 36
abbrev s_settle : Stmt := top 37
abbrev s_start : Stmt := top 38
abbrev s_key : Stmt := top 39
abbrev s_tick : Stmt := top 40
abbrev s_run : Stmt := top 41
abbrev s_seen : Stmt := top 42
abbrev s_diary : Stmt := top 43
abbrev s_room_of : Stmt := top 44
abbrev s_saved_rooms : Stmt := top 46
abbrev s_saved : Stmt := top 47
abbrev s_set_rooms : Stmt := top 48
abbrev s_taken : Stmt := top 49
abbrev s_law_cell : Stmt := top 51
abbrev s_law_mix : Stmt := top 52
abbrev s_law_whole : Stmt := top 53
abbrev s_law_some : Stmt := top 54
abbrev s_law_program : Stmt := top 55
abbrev s_law_hall : Stmt := top 56
abbrev s_law_made : Stmt := top 57
abbrev s_law_acts : Stmt := top 58
abbrev s_law_do : Stmt := top 59
abbrev s_law_plain : Stmt := top 60
abbrev s_law_all : Stmt := top 61
abbrev s_law : Stmt := top 62
abbrev s_Machine___init__ : Stmt := inClass (top 3) 0
abbrev s_Person___init__ : Stmt := inClass (top 14) 0
abbrev s_Rooms___init__ : Stmt := inClass (top 27) 0
abbrev s_House___init__ : Stmt := inClass (top 33) 0
namespace Hd
def d_parts : He.DefD := ⟨("parts", none), "parts", "parts", defArgs s_parts, defBody s_parts, defScope s_parts, [], []⟩
def d_skip : He.DefD := ⟨("skip", none), "skip", "skip", defArgs s_skip, defBody s_skip, defScope s_skip, [], []⟩
def d_added : He.DefD := ⟨("added", none), "added", "added", defArgs s_added, defBody s_added, defScope s_added, [], []⟩
def d_aim : He.DefD := ⟨("aim", none), "aim", "aim", defArgs s_aim, defBody s_aim, defScope s_aim, [], []⟩
def d_moved : He.DefD := ⟨("moved", none), "moved", "moved", defArgs s_moved, defBody s_moved, defScope s_moved, [], []⟩
def d_rolled : He.DefD := ⟨("rolled", none), "rolled", "rolled", defArgs s_rolled, defBody s_rolled, defScope s_rolled, [], []⟩
def d_changed : He.DefD := ⟨("changed", none), "changed", "changed", defArgs s_changed, defBody s_changed, defScope s_changed, [], []⟩
def d_tested : He.DefD := ⟨("tested", none), "tested", "tested", defArgs s_tested, defBody s_tested, defScope s_tested, [], []⟩
def d_deed : He.DefD := ⟨("deed", none), "deed", "deed", defArgs s_deed, defBody s_deed, defScope s_deed, [], []⟩
def d_again : He.DefD := ⟨("again", none), "again", "again", defArgs s_again, defBody s_again, defScope s_again, [], []⟩
def d_hear : He.DefD := ⟨("hear", none), "hear", "hear", defArgs s_hear, defBody s_hear, defScope s_hear, [], []⟩
def d_say : He.DefD := ⟨("say", none), "say", "say", defArgs s_say, defBody s_say, defScope s_say, [], []⟩
def d_doze : He.DefD := ⟨("doze", none), "doze", "doze", defArgs s_doze, defBody s_doze, defScope s_doze, [], []⟩
def d_carry : He.DefD := ⟨("carry", none), "carry", "carry", defArgs s_carry, defBody s_carry, defScope s_carry, [], []⟩
def d_ask : He.DefD := ⟨("ask", none), "ask", "ask", defArgs s_ask, defBody s_ask, defScope s_ask, [], []⟩
def d_heard : He.DefD := ⟨("heard", none), "heard", "heard", defArgs s_heard, defBody s_heard, defScope s_heard, [], []⟩
def d_ticked : He.DefD := ⟨("ticked", none), "ticked", "ticked", defArgs s_ticked, defBody s_ticked, defScope s_ticked, [], []⟩
def d_happen : He.DefD := ⟨("happen", none), "happen", "happen", defArgs s_happen, defBody s_happen, defScope s_happen, [], []⟩
def d_picture : He.DefD := ⟨("picture", none), "picture", "picture", defArgs s_picture, defBody s_picture, defScope s_picture, [], []⟩
def d_person_of : He.DefD := ⟨("person_of", none), "person_of", "person_of", defArgs s_person_of, defBody s_person_of, defScope s_person_of, [], []⟩
def d_room_with : He.DefD := ⟨("room_with", none), "room_with", "room_with", defArgs s_room_with, defBody s_room_with, defScope s_room_with, [], []⟩
def d_cells_of : He.DefD := ⟨("cells_of", none), "cells_of", "cells_of", defArgs s_cells_of, defBody s_cells_of, defScope s_cells_of, [], []⟩
def d_give_cells : He.DefD := ⟨("give_cells", none), "give_cells", "give_cells", defArgs s_give_cells, defBody s_give_cells, defScope s_give_cells, [], []⟩
def d_enter : He.DefD := ⟨("enter", none), "enter", "enter", defArgs s_enter, defBody s_enter, defScope s_enter, [], []⟩
def d_load : He.DefD := ⟨("load", none), "load", "load", defArgs s_load, defBody s_load, defScope s_load, [], []⟩
def d_set_switches : He.DefD := ⟨("set_switches", none), "set_switches", "set_switches", defArgs s_set_switches, defBody s_set_switches, defScope s_set_switches, [], []⟩
def d_event_told : He.DefD := ⟨("event_told", none), "event_told", "event_told", defArgs s_event_told, defBody s_event_told, defScope s_event_told, [], []⟩
def d_settle : He.DefD := ⟨("settle", none), "settle", "settle", defArgs s_settle, defBody s_settle, defScope s_settle, [], []⟩
def d_start : He.DefD := ⟨("start", none), "start", "start", defArgs s_start, defBody s_start, defScope s_start, [], []⟩
def d_key : He.DefD := ⟨("key", none), "key", "key", defArgs s_key, defBody s_key, defScope s_key, [], []⟩
def d_tick : He.DefD := ⟨("tick", none), "tick", "tick", defArgs s_tick, defBody s_tick, defScope s_tick, [], []⟩
def d_run : He.DefD := ⟨("run", none), "run", "run", defArgs s_run, defBody s_run, defScope s_run, [], []⟩
def d_seen : He.DefD := ⟨("seen", none), "seen", "seen", defArgs s_seen, defBody s_seen, defScope s_seen, [], []⟩
def d_diary : He.DefD := ⟨("diary", none), "diary", "diary", defArgs s_diary, defBody s_diary, defScope s_diary, [], []⟩
def d_room_of : He.DefD := ⟨("room_of", none), "room_of", "room_of", defArgs s_room_of, defBody s_room_of, defScope s_room_of, [], []⟩
def d_saved_rooms : He.DefD := ⟨("saved_rooms", none), "saved_rooms", "saved_rooms", defArgs s_saved_rooms, defBody s_saved_rooms, defScope s_saved_rooms, [], []⟩
def d_saved : He.DefD := ⟨("saved", none), "saved", "saved", defArgs s_saved, defBody s_saved, defScope s_saved, [], []⟩
def d_set_rooms : He.DefD := ⟨("set_rooms", none), "set_rooms", "set_rooms", defArgs s_set_rooms, defBody s_set_rooms, defScope s_set_rooms, [], []⟩
def d_taken : He.DefD := ⟨("taken", none), "taken", "taken", defArgs s_taken, defBody s_taken, defScope s_taken, [], []⟩
def d_law_cell : He.DefD := ⟨("_law_cell", none), "_law_cell", "_law_cell", defArgs s_law_cell, defBody s_law_cell, defScope s_law_cell, [], []⟩
def d_law_mix : He.DefD := ⟨("_law_mix", none), "_law_mix", "_law_mix", defArgs s_law_mix, defBody s_law_mix, defScope s_law_mix, [], []⟩
def d_law_whole : He.DefD := ⟨("_law_whole", none), "_law_whole", "_law_whole", defArgs s_law_whole, defBody s_law_whole, defScope s_law_whole, [], []⟩
def d_law_some : He.DefD := ⟨("_law_some", none), "_law_some", "_law_some", defArgs s_law_some, defBody s_law_some, defScope s_law_some, [], []⟩
def d_law_program : He.DefD := ⟨("_law_program", none), "_law_program", "_law_program", defArgs s_law_program, defBody s_law_program, defScope s_law_program, [], []⟩
def d_law_hall : He.DefD := ⟨("_law_hall", none), "_law_hall", "_law_hall", defArgs s_law_hall, defBody s_law_hall, defScope s_law_hall, [], []⟩
def d_law_made : He.DefD := ⟨("_law_made", none), "_law_made", "_law_made", defArgs s_law_made, defBody s_law_made, defScope s_law_made, [], []⟩
def d_law_acts : He.DefD := ⟨("_law_acts", none), "_law_acts", "_law_acts", defArgs s_law_acts, defBody s_law_acts, defScope s_law_acts, [], []⟩
def d_law_do : He.DefD := ⟨("_law_do", none), "_law_do", "_law_do", defArgs s_law_do, defBody s_law_do, defScope s_law_do, [], []⟩
def d_law_plain : He.DefD := ⟨("_law_plain", none), "_law_plain", "_law_plain", defArgs s_law_plain, defBody s_law_plain, defScope s_law_plain, [], []⟩
def d_law_all : He.DefD := ⟨("_law_all", none), "_law_all", "_law_all", defArgs s_law_all, defBody s_law_all, defScope s_law_all, [], []⟩
def d_law : He.DefD := ⟨("law", none), "law", "law", defArgs s_law, defBody s_law, defScope s_law, [], []⟩
def d_Machine___init__ : He.DefD := ⟨("Machine", some "__init__"), "__init__", "Machine.__init__", defArgs s_Machine___init__, defBody s_Machine___init__, defScope s_Machine___init__, [], []⟩
def d_Person___init__ : He.DefD := ⟨("Person", some "__init__"), "__init__", "Person.__init__", defArgs s_Person___init__, defBody s_Person___init__, defScope s_Person___init__, [], []⟩
def d_Rooms___init__ : He.DefD := ⟨("Rooms", some "__init__"), "__init__", "Rooms.__init__", defArgs s_Rooms___init__, defBody s_Rooms___init__, defScope s_Rooms___init__, [], []⟩
def d_House___init__ : He.DefD := ⟨("House", some "__init__"), "__init__", "House.__init__", defArgs s_House___init__, defBody s_House___init__, defScope s_House___init__, [], []⟩
def fn : List He.DefD := [d_parts, d_skip, d_added, d_aim, d_moved, d_rolled, d_changed, d_tested, d_deed, d_again, d_hear, d_say, d_doze, d_carry, d_ask, d_heard, d_ticked, d_happen, d_picture, d_person_of, d_room_with, d_cells_of, d_give_cells, d_enter, d_load, d_set_switches, d_event_told, d_settle, d_start, d_key, d_tick, d_run, d_seen, d_diary, d_room_of, d_saved_rooms, d_saved, d_set_rooms, d_taken, d_law_cell, d_law_mix, d_law_whole, d_law_some, d_law_program, d_law_hall, d_law_made, d_law_acts, d_law_do, d_law_plain, d_law_all, d_law, d_Machine___init__, d_Person___init__, d_Rooms___init__, d_House___init__]
def fa : List He.Fa := [.glo "parts", .glo "skip", .glo "added", .glo "aim", .glo "moved", .glo "rolled", .glo "changed", .glo "tested", .glo "deed", .glo "again", .glo "hear", .glo "say", .glo "doze", .glo "carry", .glo "ask", .glo "heard", .glo "ticked", .glo "happen", .glo "picture", .glo "person_of", .glo "room_with", .glo "cells_of", .glo "give_cells", .glo "enter", .glo "load", .glo "set_switches", .glo "event_told", .glo "settle", .glo "start", .glo "key", .glo "tick", .glo "run", .glo "seen", .glo "diary", .glo "room_of", .glo "saved_rooms", .glo "saved", .glo "set_rooms", .glo "taken", .glo "_law_cell", .glo "_law_mix", .glo "_law_whole", .glo "_law_some", .glo "_law_program", .glo "_law_hall", .glo "_law_made", .glo "_law_acts", .glo "_law_do", .glo "_law_plain", .glo "_law_all", .glo "law", .free "len", .free "list", .free "range", .free "tuple", .free "isinstance", .free "int", .free "str", .free "bool", .free "enumerate", .glo "Machine", .cls "Machine", .mkr "Machine", .noat "Machine" "cells", .noat "Machine" "total", .noat "Machine" "mark", .noat "Machine" "at", .glo "Person", .cls "Person", .mkr "Person", .noat "Person" "machine", .noat "Person" "inbox", .noat "Person" "outbox", .noat "Person" "paper", .noat "Person" "blocks", .noat "Person" "switches", .noat "Person" "state", .noat "Person" "nap", .noat "Person" "lost", .noat "Person" "done", .glo "Rooms", .cls "Rooms", .mkr "Rooms", .noat "Rooms" "guests", .noat "Rooms" "kept", .noat "Rooms" "shelves", .noat "Rooms" "turn", .noat "Rooms" "swaps", .glo "House", .cls "House", .mkr "House", .noat "House" "people", .noat "House" "places", .noat "House" "quantum", .noat "House" "beat", .noat "House" "diaries", .noat "House" "runs", .noat "House" "row", .noat "House" "steps", .noat "House" "idle", .noat "House" "ticks", .noat "House" "swaps", .noat "House" "turn", .noat "House" "left", .int "MOST" 16]
abbrev R : PySem.W.OpenRow := PySem.W.OpenLaw.row PySem.Challenge.rw_corehouse_k27_whole_saved_and_taken
def exB (K : PySem.W.Frag) : Bool := (He.eqO (PySem.W.findIn K (.ref (He.ga K "House")) "__class__") (some (some (.builtin "object.__class__"))) && (He.eqO (PySem.W.specialIn K (.builtin "object.__class__") "__get__") (some (some (.builtin "getset_descriptor.__get__"))) && (decide (PySem.W.takesIn K (.builtin "object.__class__") = some true) && (decide (PySem.W.mroIn K (He.ga K "House") (.type "object") = some true) && (decide (PySem.W.kitOne K (.ref (He.ga K "House")) (.ref (He.ga K "House")) = some true) && true)))))
def obE (g : Addr → Option Obj) : He.AlD × Bool := (He.obsDG 4 fa fn g, exB (He.frG g (He.asD g 4)))
def hk : PySem.W.Hook where
  α := He.AlD × Bool
  obs := fun s => obE s.heap.get?
  val := fun _ => (He.valD fn, true)
  says := fun _ h => ∃ K : PySem.W.Frag, K.In h ∧ He.SaysD fa fn K ∧ exB K = true
  of := fun _ _ e => ⟨_, He.frG_in, congrArg (fun z : He.AlD × Bool => z.1) e, congrArg (fun z : He.AlD × Bool => z.2) e⟩
  keeps := fun _ _ _ ⟨K, hK, c⟩ k => ⟨K, PySem.W.Frag.In.keeps hK k, c⟩
def ob (s : PySem.W.SharedT) : He.AlD × Bool := obE (HandSHeadRun.getT s)
theorem obE_eq {g : Addr → Option Obj} {s : Shared} (h : ∀ a, g a = s.heap.get? a) : obE g = hk.obs s := by
  have e : g = s.heap.get? := funext h
  rw [e] <;> rfl
theorem ob_eq (s : PySem.W.SharedT) : ob s = hk.obs s.abs := obE_eq (HandSHeadRun.getT_eq s)
def loose0 : List PySem.Str := ["parts", "Machine", "skip", "added", "aim", "moved", "rolled", "changed", "tested", "deed", "MOST", "Person", "again", "hear", "say", "doze", "carry", "ask", "heard", "ticked", "happen", "picture", "person_of", "Rooms", "room_with", "cells_of", "give_cells", "enter", "House", "load"]
def loose1 : List PySem.Str := ["set_switches", "event_told", "settle", "start", "key", "tick", "run", "seen", "diary", "room_of", "saved_rooms", "saved", "set_rooms", "taken", "_law_cell", "_law_mix", "_law_whole", "_law_some", "_law_program", "_law_hall", "_law_made", "_law_acts", "_law_do", "_law_plain", "_law_all"]
def loose : List PySem.Str := loose0 ++ loose1
theorem run (w : World) : HandSHeadRun.RunEq R (PySem.W.view R.prog [62]) hk ob 6000 loose w := by
  intro os
  kernel_rfl
end Hd
/-! ### Prelude: what a reading evaluates to (over HandS) -/
section prelude
variable {σ : L2.St} {H H' : Hp} {i j : Int} {n : Nat} {v x y z : V} {ta tb tc te tv : TE} {b c : Bool} {K : PySem.W.Frag} {a : Addr} {t u w : TT} {N : L2.St → Hp → Prop} {R : VK} {B C' : L2.St → Hp → Prop} {tz t1 t2 : TS} {tl : TA}
/-- an argument list evaluates to vs, the heap as it is -/
def ValA (t : TA) (σ : L2.St) (H : Hp) (vs : List V) : Prop := ∀ Q : List V → Hp → Prop, Q vs H → t σ H Q
theorem va_nil : ValA tNil σ H [] := fun _ q => q
theorem va_cons {vs : List V} (h : Val ta σ H x) (hr : ValA tl σ H vs) : ValA (tCons ta tl) σ H (x :: vs) := fun Q q => h _ (hr _ q)
theorem v_eqv (h : Val te σ H x) (e : x = y) : Val te σ H y := e ▸ h
theorem v_var {k : Nat} (h : σ[k]? = some (some v)) : Val (tVar k) σ H v := val_var h
theorem v_c : Val (tC v) σ H v := val_c
theorem v_add (ha : Val ta σ H (.int i)) (hb : Val tb σ H (.int j)) : Val (tOp (rI0 fun i j => .int (i + j)) ta tb) σ H (.int (i + j)) := val_op ha hb fun _ q => ⟨_, _, rfl, rfl, q⟩
theorem v_sub (ha : Val ta σ H (.int i)) (hb : Val tb σ H (.int j)) : Val (tOp (rI0 fun i j => .int (i - j)) ta tb) σ H (.int (i - j)) := val_op ha hb fun _ q => ⟨_, _, rfl, rfl, q⟩
theorem v_band (ha : Val ta σ H (.int i)) (hb : Val tb σ H (.int j)) : Val (tOp (rI0 fun i j => .int (Builtin.bitAnd i j)) ta tb) σ H (.int (Builtin.bitAnd i j)) := val_op ha hb fun _ q => ⟨_, _, rfl, rfl, q⟩
theorem v_mul (ha : Val ta σ H (.int i)) (hb : Val tb σ H (.int j)) (hc : CMul i j) : Val (tOp (rI CMul fun i j => .int (i * j)) ta tb) σ H (.int (i * j)) := val_op ha hb fun _ q => ⟨_, _, rfl, rfl, hc, q⟩
theorem v_mod (ha : Val ta σ H (.int i)) (hb : Val tb σ H (.int j)) (hc : 0 < j) : Val (tOp (rI (fun _ j => 0 < j) fun i j => .int (i % j)) ta tb) σ H (.int (i % j)) := val_op ha hb fun _ q => ⟨_, _, rfl, rfl, hc, q⟩
theorem v_fdiv (ha : Val ta σ H (.int i)) (hb : Val tb σ H (.int j)) (hc : CDiv i j) : Val (tOp (rI CDiv fun i j => .int (i / j)) ta tb) σ H (.int (i / j)) := val_op ha hb fun _ q => ⟨_, _, rfl, rfl, hc, q⟩
theorem v_neg (ha : Val ta σ H (.int i)) : Val (tUn (rU fun i => .int (-i)) ta) σ H (.int (-i)) := fun _ q => ha _ ⟨_, rfl, q⟩
theorem v_lt (ha : Val ta σ H (.int i)) (hb : Val tb σ H (.int j)) : Val (tOp (rI0 fun i j => .bl (decide (i < j))) ta tb) σ H (.bl (decide (i < j))) := val_op ha hb fun _ q => ⟨_, _, rfl, rfl, q⟩
theorem v_le (ha : Val ta σ H (.int i)) (hb : Val tb σ H (.int j)) : Val (tOp (rI0 fun i j => .bl (decide (i ≤ j))) ta tb) σ H (.bl (decide (i ≤ j))) := val_op ha hb fun _ q => ⟨_, _, rfl, rfl, q⟩
theorem v_gt (ha : Val ta σ H (.int i)) (hb : Val tb σ H (.int j)) : Val (tOp (rI0 fun i j => .bl (decide (j < i))) ta tb) σ H (.bl (decide (j < i))) := val_op ha hb fun _ q => ⟨_, _, rfl, rfl, q⟩
theorem v_ge (ha : Val ta σ H (.int i)) (hb : Val tb σ H (.int j)) : Val (tOp (rI0 fun i j => .bl (decide (j ≤ i))) ta tb) σ H (.bl (decide (j ≤ i))) := val_op ha hb fun _ q => ⟨_, _, rfl, rfl, q⟩
theorem dec_vint : decide (V.int i = V.int j) = decide (i = j) := by
  by_cases h : i = j
  · subst h; simp
  · have : ¬ V.int i = V.int j := fun e => h (V.int.inj e)
    simp [h]
theorem dec_vstr {p q : Str} : decide (V.str p = V.str q) = decide (p = q) := by
  by_cases h : p = q
  · subst h; simp
  · have : ¬ V.str p = V.str q := fun e => h (V.str.inj e)
    simp [h]
theorem dec_vbl : decide (V.bl b = V.bl c) = (b == c) := by cases b <;> cases c <;> rfl
theorem v_eqI (ha : Val ta σ H (.int i)) (hb : Val tb σ H (.int j)) : Val (tOp rEq ta tb) σ H (.bl (decide (i = j))) := val_op ha hb fun _ q => ⟨rfl, by rw [dec_vint]; exact q⟩
theorem v_neI (ha : Val ta σ H (.int i)) (hb : Val tb σ H (.int j)) : Val (tOp rNe ta tb) σ H (.bl (!decide (i = j))) := val_op ha hb fun _ q => ⟨rfl, by rw [dec_vint]; exact q⟩
theorem v_eqS {p r : Str} (ha : Val ta σ H (.str p)) (hb : Val tb σ H (.str r)) : Val (tOp rEq ta tb) σ H (.bl (decide (p = r))) := val_op ha hb fun _ q => ⟨rfl, by rw [dec_vstr]; exact q⟩
theorem v_neS {p r : Str} (ha : Val ta σ H (.str p)) (hb : Val tb σ H (.str r)) : Val (tOp rNe ta tb) σ H (.bl (!decide (p = r))) := val_op ha hb fun _ q => ⟨rfl, by rw [dec_vstr]; exact q⟩
theorem v_eqB (ha : Val ta σ H (.bl b)) (hb : Val tb σ H (.bl c)) : Val (tOp rEq ta tb) σ H (.bl (b == c)) := val_op ha hb fun _ q => ⟨rfl, by rw [dec_vbl]; exact q⟩
theorem v_neB (ha : Val ta σ H (.bl b)) (hb : Val tb σ H (.bl c)) : Val (tOp rNe ta tb) σ H (.bl (!(b == c))) := val_op ha hb fun _ q => ⟨rfl, by rw [dec_vbl]; exact q⟩
theorem v_eqV (ha : Val ta σ H x) (hb : Val tb σ H y) (hs : scal x y = true) : Val (tOp rEq ta tb) σ H (.bl (decide (x = y))) := val_op ha hb fun _ q => ⟨hs, q⟩
theorem v_neV (ha : Val ta σ H x) (hb : Val tb σ H y) (hs : scal x y = true) : Val (tOp rNe ta tb) σ H (.bl (!decide (x = y))) := val_op ha hb fun _ q => ⟨hs, q⟩
theorem v_isN (ha : Val ta σ H x) (hb : Val tb σ H .non) : Val (tOp rIsN ta tb) σ H (.bl (decide (x = .non))) := val_op ha hb fun _ q => ⟨rfl, q⟩
theorem v_notN (ha : Val ta σ H x) (hb : Val tb σ H .non) : Val (tOp rNotN ta tb) σ H (.bl (!decide (x = .non))) := val_op ha hb fun _ q => ⟨rfl, q⟩
/-- an item of a list, of a tuple -/
theorem v_ixL {p : Addr} {xs : List V} (ha : Val ta σ H (.ref p)) (hb : Val tb σ H (.int i)) (h : SqL K H p xs) (h0 : 0 ≤ i) (hx : xs[i.toNat]? = some v) : Val (tOp (rIxL K) ta tb) σ H v :=
  val_op ha hb fun _ q => ⟨_, _, _, _, rfl, rfl, h, at_of (j := i.toNat) (by omega) hx, q⟩
theorem v_ixT {p : Addr} {xs : List V} (ha : Val ta σ H (.ref p)) (hb : Val tb σ H (.int i)) (h : SqT K H p xs) (h0 : 0 ≤ i) (hx : xs[i.toNat]? = some v) : Val (tOp (rIxT K) ta tb) σ H v :=
  val_op ha hb fun _ q => ⟨_, _, _, _, rfl, rfl, h, at_of (j := i.toNat) (by omega) hx, q⟩
theorem v_ixLI {p : Addr} {ns : List Int} (ha : Val ta σ H (.ref p)) (hb : Val tb σ H (.int i)) (h : SqL K H p (ns.map V.int)) (h0 : 0 ≤ i) (hx : i < (ns.length : Int)) : Val (tOp (rIxL K) ta tb) σ H (.int (ns.getD i.toNat 0)) :=
  v_ixL ha hb h h0 (by
    have hl : i.toNat < ns.length := by omega
    rw [List.getElem?_map, List.getElem?_eq_getElem hl]
    simp [List.getD_eq_getElem?_getD, List.getElem?_eq_getElem hl])
theorem v_ixTI {p : Addr} {ns : List Int} (ha : Val ta σ H (.ref p)) (hb : Val tb σ H (.int i)) (h : SqT K H p (ns.map V.int)) (h0 : 0 ≤ i) (hx : i < (ns.length : Int)) : Val (tOp (rIxT K) ta tb) σ H (.int (ns.getD i.toNat 0)) :=
  v_ixT ha hb h h0 (by
    have hl : i.toNat < ns.length := by omega
    rw [List.getElem?_map, List.getElem?_eq_getElem hl]
    simp [List.getD_eq_getElem?_getD, List.getElem?_eq_getElem hl])
/-- a chain a < b <= c -/
theorem v_chain {r r' : R2} (ha : Val ta σ H x) (hb : Val tb σ H y) (h1 : ∀ Q : VK, Q (.bl b) H → r x y H Q) (hc : Val tc σ H z) (h2 : ∀ Q : VK, Q (.bl c) H → r' y z H Q) : Val (tChain r r' ta tb tc) σ H (.bl (b && c)) := fun Q q =>
  ha _ (hb _ (h1 _ ⟨b, rfl, by
    cases b with
    | true => exact (show _ from (show (if true = true then _ else _) from by rw [if_pos rfl]; exact hc _ (h2 _ q)))
    | false => exact (show (if false = true then _ else _) from by rw [if_neg Bool.false_ne_true]; exact q)⟩))
theorem rr_lt {Q : VK} (q : Q (.bl (decide (i < j))) H) : (rI0 fun i j => V.bl (decide (i < j))) (.int i) (.int j) H Q := ⟨_, _, rfl, rfl, q⟩
theorem rr_le {Q : VK} (q : Q (.bl (decide (i ≤ j))) H) : (rI0 fun i j => V.bl (decide (i ≤ j))) (.int i) (.int j) H Q := ⟨_, _, rfl, rfl, q⟩
theorem v_andV (ha : Val ta σ H (.bl b)) (hb : b = true → Val tb σ H (.bl c)) : Val (tAndV ta tb) σ H (.bl (b && c)) := fun Q q => ha _ ⟨b, rfl, by
  cases b with
  | true => exact (show (if true = true then _ else _) from by rw [if_pos rfl]; exact hb rfl _ q)
  | false => exact (show (if false = true then _ else _) from by rw [if_neg Bool.false_ne_true]; exact q)⟩
theorem v_orV (ha : Val ta σ H (.bl b)) (hb : b = false → Val tb σ H (.bl c)) : Val (tOrV ta tb) σ H (.bl (b || c)) := fun Q q => ha _ ⟨b, rfl, by
  cases b with
  | true => exact (show (if true = true then _ else _) from by rw [if_pos rfl]; exact q)
  | false => exact (show (if false = true then _ else _) from by rw [if_neg Bool.false_ne_true]; exact hb rfl _ q)⟩
theorem v_notV (ha : Val ta σ H (.bl b)) : Val (tNotV ta) σ H (.bl (!b)) := fun Q q => ha _ ⟨b, rfl, q⟩
theorem v_if (h : Ans t σ H b) (h1 : b = true → Val ta σ H v) (h2 : b = false → Val tb σ H v) : Val (tIf t ta tb) σ H v := fun Q q => h _ (by
  cases b with
  | true => exact (show (if true = true then _ else _) from by rw [if_pos rfl]; exact h1 rfl _ q)
  | false => exact (show (if false = true then _ else _) from by rw [if_neg Bool.false_ne_true]; exact h2 rfl _ q))
/-- a call that leaves the heap -/
theorem v_call {sp : Sp} {vs : List V} (h : ValA tl σ H vs) (hs : ∀ Q : VK, Q v H → sp vs H Q E0) : Val (tCall sp [] E0 tl) σ H v := fun Q q => h _ (show sp (vs ++ []) H Q E0 from by rw [List.append_nil]; exact hs Q q)
theorem v_cb {r : List V → Hp → VK → Prop} {vs : List V} (h : ValA tl σ H vs) (hs : ∀ Q : VK, Q v H → r vs H Q) : Val (tCB r tl) σ H v := fun Q q => h _ (hs Q q)
/-! tests -/
theorem a_t (h : Val te σ H (.bl b)) : Ans (tTest te) σ H b := fun _ q => h _ ⟨b, rfl, q⟩
theorem a_B (h : Val te σ H (.bl b)) : Ans (tB te) σ H b := fun _ q => h _ ⟨b, rfl, q⟩
theorem a_and (h1 : Ans t σ H b) (h2 : b = true → Ans u σ H c) : Ans (tAnd t u) σ H (b && c) := fun Q q => h1 _ (by
  cases b with
  | true => exact (show (if true = true then _ else _) from by rw [if_pos rfl]; exact h2 rfl Q q)
  | false => exact (show (if false = true then _ else _) from by rw [if_neg Bool.false_ne_true]; exact q))
theorem a_or (h1 : Ans t σ H b) (h2 : b = false → Ans u σ H c) : Ans (tOr t u) σ H (b || c) := fun Q q => h1 _ (by
  cases b with
  | true => exact (show (if true = true then _ else _) from by rw [if_pos rfl]; exact q)
  | false => exact (show (if false = true then _ else _) from by rw [if_neg Bool.false_ne_true]; exact h2 rfl Q q))
theorem a_not (h1 : Ans t σ H b) : Ans (tNot t) σ H (!b) := fun Q q => h1 _ q
theorem a_tru (ha : Val ta σ H x) (ht : TruV K x H b) : Ans (fun σ H Q => ta σ H fun x H' => ∃ k, TruV K x H' k ∧ Q k H') σ H b := ans_tru ha ht
/-! statements: q_ with something behind, s_ at a block's end -/
theorem q_set {k : Nat} (h : Val te σ H v) (q : tz ⟨N, R, B, C'⟩ (σ.set k (some v)) H) : tSeq (tAsg te (gName k)) tz ⟨N, R, B, C'⟩ σ H := h _ q
theorem s_set {k : Nat} (h : Val te σ H v) (q : N (σ.set k (some v)) H) : tAsg te (gName k) ⟨N, R, B, C'⟩ σ H := h _ q
theorem s_next (q : N σ H) : tNext ⟨N, R, B, C'⟩ σ H := q
theorem s_ret (h : Val te σ H v) (q : R v H) : tRet te ⟨N, R, B, C'⟩ σ H := h _ q
theorem q_drop (h : Val te σ H v) (q : tz ⟨N, R, B, C'⟩ σ H) : tSeq (tDrop te) tz ⟨N, R, B, C'⟩ σ H := h _ q
theorem q_if (h : Ans t σ H b) (h1 : b = true → t1 ⟨tz ⟨N, R, B, C'⟩, R, B, C'⟩ σ H) (h2 : b = false → t2 ⟨tz ⟨N, R, B, C'⟩, R, B, C'⟩ σ H) : tSeq (tIfS t t1 t2) tz ⟨N, R, B, C'⟩ σ H := h _ (by
  cases b with
  | true => exact (show (if true = true then _ else _) from by rw [if_pos rfl]; exact h1 rfl)
  | false => exact (show (if false = true then _ else _) from by rw [if_neg Bool.false_ne_true]; exact h2 rfl))
theorem s_if (h : Ans t σ H b) (h1 : b = true → t1 ⟨N, R, B, C'⟩ σ H) (h2 : b = false → t2 ⟨N, R, B, C'⟩ σ H) : tIfS t t1 t2 ⟨N, R, B, C'⟩ σ H := h _ (by
  cases b with
  | true => exact (show (if true = true then _ else _) from by rw [if_pos rfl]; exact h1 rfl)
  | false => exact (show (if false = true then _ else _) from by rw [if_neg Bool.false_ne_true]; exact h2 rfl))
theorem q_ifT (h : Ans t σ H b) (e : b = true) (q : t1 ⟨tz ⟨N, R, B, C'⟩, R, B, C'⟩ σ H) : tSeq (tIfS t t1 t2) tz ⟨N, R, B, C'⟩ σ H := q_if h (fun _ => q) (fun e' => by rw [e] at e'; cases e')
theorem q_ifF (h : Ans t σ H b) (e : b = false) (q : t2 ⟨tz ⟨N, R, B, C'⟩, R, B, C'⟩ σ H) : tSeq (tIfS t t1 t2) tz ⟨N, R, B, C'⟩ σ H := q_if h (fun e' => by rw [e] at e'; cases e') (fun _ => q)
theorem q_ifF0 (h : Ans t σ H b) (e : b = false) (q : tz ⟨N, R, B, C'⟩ σ H) : tSeq (tIfS t t1 tNext) tz ⟨N, R, B, C'⟩ σ H := q_ifF h e q
theorem s_ifT (h : Ans t σ H b) (e : b = true) (q : t1 ⟨N, R, B, C'⟩ σ H) : tIfS t t1 t2 ⟨N, R, B, C'⟩ σ H := s_if h (fun _ => q) (fun e' => by rw [e] at e'; cases e')
theorem s_ifF (h : Ans t σ H b) (e : b = false) (q : t2 ⟨N, R, B, C'⟩ σ H) : tIfS t t1 t2 ⟨N, R, B, C'⟩ σ H := s_if h (fun e' => by rw [e] at e'; cases e') (fun _ => q)
theorem s_ifF0 (h : Ans t σ H b) (e : b = false) (q : N σ H) : tIfS t t1 tNext ⟨N, R, B, C'⟩ σ H := s_ifF h e q
/-- a call as a statement; its value in a slot -/
theorem q_do {sp : Sp} {vs : List V} (h : ValA tl σ H vs) (hs : sp vs H (fun _ H' => tz ⟨N, R, B, C'⟩ σ H') E0) : tSeq (tDrop (tCall sp [] E0 tl)) tz ⟨N, R, B, C'⟩ σ H := h _ (show sp (vs ++ []) H _ E0 from by rw [List.append_nil]; exact hs)
theorem s_do {sp : Sp} {vs : List V} (h : ValA tl σ H vs) (hs : sp vs H (fun _ H' => N σ H') E0) : tDrop (tCall sp [] E0 tl) ⟨N, R, B, C'⟩ σ H := h _ (show sp (vs ++ []) H _ E0 from by rw [List.append_nil]; exact hs)
theorem q_setc {k : Nat} {sp : Sp} {vs : List V} (h : ValA tl σ H vs) (hs : sp vs H (fun v H' => tz ⟨N, R, B, C'⟩ (σ.set k (some v)) H') E0) : tSeq (tAsg (tCall sp [] E0 tl) (gName k)) tz ⟨N, R, B, C'⟩ σ H := h _ (show sp (vs ++ []) H _ E0 from by rw [List.append_nil]; exact hs)
theorem s_setc {k : Nat} {sp : Sp} {vs : List V} (h : ValA tl σ H vs) (hs : sp vs H (fun v H' => N (σ.set k (some v)) H') E0) : tAsg (tCall sp [] E0 tl) (gName k) ⟨N, R, B, C'⟩ σ H := h _ (show sp (vs ++ []) H _ E0 from by rw [List.append_nil]; exact hs)
theorem s_retc {sp : Sp} {vs : List V} (h : ValA tl σ H vs) (hs : sp vs H R E0) : tRet (tCall sp [] E0 tl) ⟨N, R, B, C'⟩ σ H := h _ (show sp (vs ++ []) H _ E0 from by rw [List.append_nil]; exact hs)
/-- new objects -/
theorem q_setL {k : Nat} {vs : List V} (h : ValA tl σ H vs) (hl : vs.length ≤ 100000) (q : ∀ p, H p = none → tz ⟨N, R, B, C'⟩ (σ.set k (some (.ref p))) (upd H p (.lst vs))) : tSeq (tAsg (tLst tl) (gName k)) tz ⟨N, R, B, C'⟩ σ H := h _ ⟨Nat.le_trans hl (by decide), fun p hp => q p hp⟩
theorem q_setT {k : Nat} {vs : List V} (h : ValA tl σ H vs) (hl : vs.length ≤ 100000) (q : ∀ p, H p = none → tz ⟨N, R, B, C'⟩ (σ.set k (some (.ref p))) (upd H p (.tup vs))) : tSeq (tAsg (tTup tl) (gName k)) tz ⟨N, R, B, C'⟩ σ H := h _ ⟨Nat.le_trans hl (by decide), fun p hp => q p hp⟩
theorem s_retT {vs : List V} (h : ValA tl σ H vs) (hl : vs.length ≤ 100000) (q : ∀ p, H p = none → R (.ref p) (upd H p (.tup vs))) : tRet (tTup tl) ⟨N, R, B, C'⟩ σ H := h _ ⟨Nat.le_trans hl (by decide), fun p hp => q p hp⟩
theorem s_retL {vs : List V} (h : ValA tl σ H vs) (hl : vs.length ≤ 100000) (q : ∀ p, H p = none → R (.ref p) (upd H p (.lst vs))) : tRet (tLst tl) ⟨N, R, B, C'⟩ σ H := h _ ⟨Nat.le_trans hl (by decide), fun p hp => q p hp⟩
end prelude
def rLenQ (K : PySem.W.Frag) : List V → Hp → VK → Prop := fun xs H Q => ∃ p ys, xs = [.ref p] ∧ (SqL K H p ys ∨ SqT K H p ys) ∧ Q (.int ys.length) H
/-! ### facts of the top, defs as they are called -/
structure Tx (K : PySem.W.Frag) (mg : Str → Option Value) : Prop where
  ex : ∃ h, K.In h ∧ h.Ns mainGlobals mg
  says : He.SaysD Hd.fa Hd.fn K
  more : Hd.exB K = true
section
variable {K : PySem.W.Frag} {mg : Str → Option Value}
theorem Tx.glo (T : Tx K mg) (i : Nat) {x : Str} (h : Hd.fa[i]? = some (.glo x) := by rfl) : mg x = some (.ref (He.ga K x)) := by
  obtain ⟨hp, X, G⟩ := T.ex
  exact He.glo_ok X G (T.says.fact i h)
theorem Tx.free (T : Tx K mg) (i : Nat) {x : Str} (h : Hd.fa[i]? = some (.free x) := by rfl) : mg x = none := by
  obtain ⟨hp, X, G⟩ := T.ex
  exact He.free_ok X G (T.says.fact i h)
theorem Tx.int (T : Tx K mg) (i : Nat) {x : Str} {z : Int} (h : Hd.fa[i]? = some (.int x z) := by rfl) : ∃ t, mg x = some (.int z t) := by
  obtain ⟨hp, X, G⟩ := T.ex
  exact He.int_ok X G (T.says.fact i h)
theorem Tx.cls (T : Tx K mg) (i : Nat) {x : Str} (h : Hd.fa[i]? = some (.cls x) := by rfl) : Cls K (He.ga K x) := He.cls_ok (T.says.fact i h)
theorem Tx.no (T : Tx K mg) (i : Nat) {x f : Str} (h : Hd.fa[i]? = some (.noat x f) := by rfl) : NoAttr K (He.ga K x) f := He.noat_ok (T.says.fact i h)
theorem Tx.mkr (T : Tx K mg) (i : Nat) {x : Str} (h : Hd.fa[i]? = some (.mkr x) := by rfl) : Mk K (He.ga K x) (He.ma K (He.ga K x) "__init__") := He.mkr_ok (T.says.fact i h)
end
/-- the def x as it may be called: by at most level k, its promise sp -/
structure Cal (P : Program) (w : World) (K : PySem.W.Frag) (mg : Str → Option Value) (base : Heap) (k : Nat) (x : Str) (ps : List Str) (sp : Sp) : Prop where
  ex : ∃ f fd, FnOk P w K mg base CX0 k f fd ps sp ∧ mg x = some (.ref f) ∧ PySem.W.keepIn K (.ref f) = true ∧ Binds K fd ps []
/-- a class x by its __init__ -/
structure CalC (P : Program) (w : World) (K : PySem.W.Frag) (mg : Str → Option Value) (base : Heap) (k : Nat) (x : Str) (ps : List Str) (sp : Sp) : Prop where
  ex : ∃ f fd, FnOk P w K mg base CX0 k f fd ps sp ∧ mg x = some (.ref (He.ga K x)) ∧ Mk K (He.ga K x) f ∧ Binds K fd ps []
section
variable {X : Cx} {x : Str} {ps : List Str} {sp : Sp} {k j : Nat} {e : Expr} {es : List Expr} {p pos : Pos} {t : TA}
theorem pe_cal (C : Cal X.prog X.w X.K X.mg X.base k x ps sp) (hr : Room j X.A) (hk : k ≤ j) (hg : Gl X x) (ha : PA X (e :: es) t) (hdb : (x == ("__debug__" : Str)) = false := by decide)
    (he : starEach (e :: es) X.env = (false, eval e X.env) :: starEach es X.env := by rfl) (hpl : (backTo pos (starEach es X.env)).any (·.1) = false := by rfl) : PE X (.Call (.Name x p) (e :: es) [] pos) (tCall sp [] E0 t) := by
  obtain ⟨f, fd, F, hm, hkp, hb⟩ := C.ex
  exact pe_call F (hr.mono hk) hg hm hkp hb .nil pass0 ha hdb he hpl
theorem pe_cal0 (C : Cal X.prog X.w X.K X.mg X.base k x ps sp) (hr : Room j X.A) (hk : k ≤ j) (hg : Gl X x) (hdb : (x == ("__debug__" : Str)) = false := by decide) : PE X (.Call (.Name x p) [] [] pos) (tCall sp [] E0 tNil) := by
  obtain ⟨f, fd, F, hm, hkp, hb⟩ := C.ex
  exact pe_call0 F (hr.mono hk) hg hm hkp hb .nil pass0 hdb
theorem pe_new (C : CalC X.prog X.w X.K X.mg X.base k x ps sp) (hr : Room j X.A) (hk : k + 1 ≤ j) (hg : Gl X x) (ha : PA X (e :: es) t) (hdb : (x == ("__debug__" : Str)) = false := by decide)
    (he : starEach (e :: es) X.env = (false, eval e X.env) :: starEach es X.env := by rfl) (hpl : (backTo pos (starEach es X.env)).any (·.1) = false := by rfl) : PE X (.Call (.Name x p) (e :: es) [] pos) (tMake (He.ga X.K x) sp [] E0 t) := by
  obtain ⟨f, fd, F, hm, M, hb⟩ := C.ex
  exact pe_make M F (hr.mono hk) hg hm hb .nil pass0 ha hdb he hpl
theorem pe_globI (hg : Gl X x) {z : Int} (h : ∃ t, X.mg x = some (.int z t)) (hdb : (x == ("__debug__" : Str)) = false := by decide) : PE X (.Name x p) (tC (.int z)) := by
  obtain ⟨t, e⟩ := h
  exact pe_glob hg e ⟨_, rfl⟩ hdb
end
theorem cal_mk {P : Program} {w : World} {K : PySem.W.Frag} {mg : Str → Option Value} {base : Heap} (T : Tx K mg) {k : Nat} {x : Str} {N ps : List Str} {st : Stmt} {sp : Sp} (i j : Nat)
    (hd : Hd.fn[i]? = some ⟨(x, none), x, x, defArgs st, defBody st, defScope st, [], []⟩) (hj : Hd.fa[j]? = some (.glo x)) (S : FnScope N ps (defScope st))
    (hb : ∀ (kV doc pm : Value) (an : Option Addr) (cdv ct : Value) (us : List Value), us.length = ps.length → bindArgs (PySem.W.fnOf x x (defArgs st) (defBody st) (defScope st) .none kV doc pm an cdv ct) ⟨us, []⟩ = pure (ps.zip us))
    (len : ∀ vs H Q E, sp vs H Q E → vs.length = ps.length)
    (body : ∀ (f : Addr) (cdv : Value) (A : Around) (outer : List Env) (s : Shared) (H : Hp) (vs : List V) (Q : VK) (E : XK), Room k (A.deeper (envOfC x (defScope st) s.heap.objs.size f cdv)) → sp vs H Q E →
      ∃ t, PSs (cxOf CX0 P w K mg base N x (defScope st) f cdv A outer s H E).nox (defBody st) t ∧ t { nx := fun _ H' => Q .non H', rt := Q } (start N vs) H) : Cal P w K mg base (k + 1) x ps sp := by
  obtain ⟨fd, F⟩ := T.says.def_ i hd
  refine ⟨_, fd, F.ok S len fun cdv A outer s H vs Q E hr h => ?_, T.glo j hj, F.kp, F.bindsN hb⟩
  obtain ⟨t, h1, h2⟩ := body _ cdv A outer s H vs Q E hr h
  exact ⟨t, h1.nox, h2⟩
theorem calC_mk {P : Program} {w : World} {K : PySem.W.Frag} {mg : Str → Option Value} {base : Heap} (T : Tx K mg) {k : Nat} {x q : Str} {N ps : List Str} {st : Stmt} {sp : Sp} (i j m : Nat)
    (hd : Hd.fn[i]? = some ⟨(x, some "__init__"), "__init__", q, defArgs st, defBody st, defScope st, [], []⟩) (hj : Hd.fa[j]? = some (.glo x)) (hm : Hd.fa[m]? = some (.mkr x)) (S : FnScope N ps (defScope st))
    (hb : ∀ (kV doc pm : Value) (an : Option Addr) (cdv ct : Value) (us : List Value), us.length = ps.length → bindArgs (PySem.W.fnOf "__init__" q (defArgs st) (defBody st) (defScope st) .none kV doc pm an cdv ct) ⟨us, []⟩ = pure (ps.zip us))
    (len : ∀ vs H Q E, sp vs H Q E → vs.length = ps.length)
    (body : ∀ (f : Addr) (cdv : Value) (A : Around) (outer : List Env) (s : Shared) (H : Hp) (vs : List V) (Q : VK) (E : XK), Room k (A.deeper (envOfC q (defScope st) s.heap.objs.size f cdv)) → sp vs H Q E →
      ∃ t, PSs (cxOf CX0 P w K mg base N q (defScope st) f cdv A outer s H E).nox (defBody st) t ∧ t { nx := fun _ H' => Q .non H', rt := Q } (start N vs) H) : CalC P w K mg base (k + 1) x ps sp := by
  obtain ⟨fd, F⟩ := T.says.def_ i hd
  refine ⟨_, fd, F.ok S len fun cdv A outer s H vs Q E hr h => ?_, T.glo j hj, T.mkr m hm, F.bindsN hb⟩
  obtain ⟨t, h1, h2⟩ := body _ cdv A outer s H vs Q E hr h
  exact ⟨t, h1.nox, h2⟩
/-! ### The machine: its mirror -/
structure Mc where
  cells : List Int
  total : Int
  mark : Int
  pc : Int
def getC (m : Mc) (i : Int) : Int := m.cells.getD i.toNat 0
def setC (m : Mc) (i v : Int) : Mc := { m with cells := m.cells.set i.toNat v }
def skipM (m : Mc) : Mc := { m with pc := (m.pc + 1) % 64 }
def addedM (m : Mc) (n : Int) : Mc := if 1024 ≤ m.total + n then { m with total := m.total + n - 1024, mark := 1 - m.mark } else { m with total := m.total + n }
def riseM (m : Mc) (i : Int) : Mc := setC m i ((getC m i + 1) % 1024)
def aimP (m : Mc) (far place : Int) : Mc := if far = 0 then m else if (decide (8 ≤ place) && decide (place < 12)) = true then riseM m place else m
def aimV (m : Mc) (far place : Int) : Int := if far = 0 then place else getC (aimP m far place) place % 64
def movedM (m : Mc) (kind place : Int) : Mc :=
  if kind = 0 then { m with total := Builtin.bitAnd m.total (getC m place) }
  else if kind = 1 then addedM m (getC m place)
  else if kind = 2 then (if getC (riseM m place) place = 0 then skipM (riseM m place) else riseM m place)
  else if kind = 3 then { setC m place m.total with total := 0 }
  else if kind = 4 then { setC m place m.pc with pc := (place + 1) % 64 }
  else { m with pc := place }
def rolled1 (m : Mc) (bits : Int) : Mc := if bits % 4 = 2 then { m with mark := m.total / 512, total := 2 * m.total % 1024 + m.mark } else m
def rolledM (m : Mc) (bits : Int) : Mc := if bits % 4 = 1 then { rolled1 m bits with mark := (rolled1 m bits).total % 2, total := (rolled1 m bits).total / 2 + 512 * m.mark } else rolled1 m bits
def chg1 (m : Mc) (bits : Int) : Mc := if bits / 32 = 1 then { m with total := 0 } else m
def chg2 (m : Mc) (bits : Int) : Mc := if bits / 16 % 2 = 1 then { m with total := 1023 - m.total } else m
def chg3 (m : Mc) (bits : Int) : Mc := if bits / 8 % 2 = 1 then { m with mark := 1 - m.mark } else m
def chg4 (m : Mc) (bits : Int) : Mc := if bits / 4 % 2 = 1 then addedM m 1 else m
def changedM (m : Mc) (bits : Int) : Mc := rolledM (chg4 (chg3 (chg2 (chg1 m bits) bits) bits) bits) bits
def foundM (m : Mc) (bits : Int) : Bool := (decide (bits / 32 = 1) && decide (512 ≤ m.total)) || (decide (bits / 16 % 2 = 1) && decide (m.total = 0)) || (decide (bits / 8 % 2 = 1) && decide (m.mark = 1))
def tst1 (m : Mc) (bits : Int) : Mc := if (!(foundM m bits == decide (bits / 4 % 2 = 1))) = true then skipM m else m
def tst2 (m : Mc) (bits : Int) : Mc := if bits / 2 % 2 = 1 then { m with total := 0 } else m
def tst3 (m : Mc) (bits : Int) : Mc := if bits % 2 = 1 then { m with mark := 0 } else m
def testedM (m : Mc) (bits : Int) : Mc := tst3 (tst2 (tst1 m bits) bits) bits
def deedM (m : Mc) : Mc :=
  let n := getC m m.pc
  let m1 := skipM m
  if n / 128 < 6 then movedM (aimP m1 (n / 64 % 2) (n % 64)) (n / 128) (aimV m1 (n / 64 % 2) (n % 64))
  else if n / 128 = 6 then m1
  else if n / 64 % 2 = 0 then changedM m1 (n % 64) else testedM m1 (n % 64)
def deedV (m : Mc) : V := if getC m m.pc / 128 = 6 then .int (getC m m.pc % 64) else .non
/-- what the walk needs: 64 cells, the at a place -/
structure Wm (m : Mc) : Prop where
  len : m.cells.length = 64
  lo : 0 ≤ m.pc
  hi : m.pc < 64
/-- words everywhere -/
structure WfM (m : Mc) : Prop extends Wm m where
  cell : ∀ c ∈ m.cells, 0 ≤ c ∧ c < 1024
  tlo : 0 ≤ m.total
  thi : m.total < 1024
  bit : m.mark = 0 ∨ m.mark = 1
/-! ### The machine in the heap -/
def mfs (l : Addr) (m : Mc) : List (Str × V) := [("cells", .ref l), ("total", .int m.total), ("mark", .int m.mark), ("at", .int m.pc)]
def mput (C : Addr) (H : Hp) (p dx l : Addr) (m : Mc) : Hp := upd (upd H l (.lst (m.cells.map V.int))) p (.ins C dx (mfs l m))
structure MTx (K : PySem.W.Frag) (C : Addr) : Prop where
  cl : Cls K C
  nCells : NoAttr K C "cells"
  nTotal : NoAttr K C "total"
  nMark : NoAttr K C "mark"
  nAt : NoAttr K C "at"
section
variable {K : PySem.W.Frag} {C : Addr} {H : Hp} {p dx l a : Addr} {m m' : Mc} {σ : L2.St} {ta tv ti : TE} {N : L2.St → Hp → Prop} {R : VK} {B C' : L2.St → Hp → Prop} {tz : TS} {z i : Int}
theorem mput_p : mput C H p dx l m p = some (.ins C dx (mfs l m)) := upd_same
theorem mput_l (h : l ≠ p) : mput C H p dx l m l = some (.lst (m.cells.map V.int)) := by unfold mput; rw [upd_ne h, upd_same]
theorem mput_ne (h1 : a ≠ p) (h2 : a ≠ l) : mput C H p dx l m a = H a := by unfold mput; rw [upd_ne h1, upd_ne h2]
theorem mput_mput : mput C (mput C H p dx l m) p dx l m' = mput C H p dx l m' := by
  funext b; unfold mput upd
  by_cases h1 : b = p <;> by_cases h2 : b = l <;> simp [h1, h2]
theorem mput_id (h1 : H p = some (.ins C dx (mfs l m))) (h2 : H l = some (.lst (m.cells.map V.int))) : mput C H p dx l m = H := by
  funext b; unfold mput upd
  by_cases e1 : b = p
  · subst e1; rw [if_pos rfl, h1]
  · rw [if_neg e1]
    by_cases e2 : b = l
    · subst e2; rw [if_pos rfl, h2]
    · rw [if_neg e2]
theorem mput_ins (h : m'.cells = m.cells) : upd (mput C H p dx l m) p (.ins C dx (mfs l m')) = mput C H p dx l m' := by
  unfold mput; rw [h, upd_upd]
theorem mput_lst (h : l ≠ p) {cs : List Int} : upd (mput C H p dx l m) l (.lst (cs.map V.int)) = mput C H p dx l { m with cells := cs } := by
  funext b; unfold mput upd
  by_cases h2 : b = l
  · subst h2; rw [if_pos rfl, if_neg h, if_pos rfl]
  · rw [if_neg h2]
    by_cases h1 : b = p
    · rw [if_pos h1, if_pos h1]; rfl
    · rw [if_neg h1, if_neg h2, if_neg h1, if_neg h2]
theorem mput_new {o : HO} {q : Addr} (hq : mput C H p dx l m q = none) : upd (mput C H p dx l m) q o = mput C (upd H q o) p dx l m ∧ H q = none := by
  have n1 : q ≠ p := fun e => by subst e; rw [mput_p] at hq; cases hq
  have n2 : q ≠ l := fun e => by
    subst e
    unfold mput at hq
    rw [upd_ne n1, upd_same] at hq
    cases hq
  refine ⟨?_, by rwa [mput_ne n1 n2] at hq⟩
  funext b; unfold mput upd
  by_cases h1 : b = q
  · subst h1; simp [n1, n2]
  · simp [h1]
theorem mput_same {H' : Hp} (h : Same H H') : Same (mput C H p dx l m) (mput C H' p dx l m) := fun b o e => by
  unfold mput upd at *
  by_cases h1 : b = p
  · simpa [h1] using e
  · by_cases h2 : b = l
    · simpa [h1, h2] using e
    · simp [h1, h2] at *; exact h b o e
theorem mf_cells : (mfs l m).lookup ("cells" : Str) = some (V.ref l) := by kernel_rfl
theorem mf_total : (mfs l m).lookup ("total" : Str) = some (V.int m.total) := by kernel_rfl
theorem mf_mark : (mfs l m).lookup ("mark" : Str) = some (V.int m.mark) := by kernel_rfl
theorem mf_at : (mfs l m).lookup ("at" : Str) = some (V.int m.pc) := by kernel_rfl
theorem mq_total : putF "total" (.int z) (mfs l m) = mfs l { m with total := z } := by kernel_rfl
theorem mq_mark : putF "mark" (.int z) (mfs l m) = mfs l { m with mark := z } := by kernel_rfl
theorem mq_at : putF "at" (.int z) (mfs l m) = mfs l { m with pc := z } := by kernel_rfl
theorem mq_cells : putF "cells" (.ref a) (mfs l m) = mfs a m := by kernel_rfl
theorem vm_cells (M : MTx K C) (h : Val ta σ (mput C H p dx l m) (.ref p)) : Val (tFld K ta "cells") σ (mput C H p dx l m) (.ref l) := val_fld h mput_p M.cl M.nCells mf_cells
theorem vm_total (M : MTx K C) (h : Val ta σ (mput C H p dx l m) (.ref p)) : Val (tFld K ta "total") σ (mput C H p dx l m) (.int m.total) := val_fld h mput_p M.cl M.nTotal mf_total
theorem vm_mark (M : MTx K C) (h : Val ta σ (mput C H p dx l m) (.ref p)) : Val (tFld K ta "mark") σ (mput C H p dx l m) (.int m.mark) := val_fld h mput_p M.cl M.nMark mf_mark
theorem vm_at (M : MTx K C) (h : Val ta σ (mput C H p dx l m) (.ref p)) : Val (tFld K ta "at") σ (mput C H p dx l m) (.int m.pc) := val_fld h mput_p M.cl M.nAt mf_at
theorem vm_item (M : MTx K C) (hne : l ≠ p) (h : Val ta σ (mput C H p dx l m) (.ref p)) (hi : Val ti σ (mput C H p dx l m) (.int i)) (h0 : 0 ≤ i) (h1 : i < (m.cells.length : Int)) : Val (tOp (rIxL K) (tFld K ta "cells") ti) σ (mput C H p dx l m) (.int (getC m i)) :=
  v_ixLI (vm_cells M h) hi (SqL.of (mput_l hne)) h0 h1
theorem sm_total (M : MTx K C) (hv : Val tv σ (mput C H p dx l m) (.int z)) (ha : Val ta σ (mput C H p dx l m) (.ref p)) (q : N σ (mput C H p dx l { m with total := z })) : sFld K ta tv "total" ⟨N, R, B, C'⟩ σ (mput C H p dx l m) :=
  st_fld hv ha mput_p M.cl M.nTotal (by show 4 < 1000; decide) (by rw [mq_total, mput_ins (m := m) (m' := { m with total := z }) rfl]; exact q)
theorem sm_mark (M : MTx K C) (hv : Val tv σ (mput C H p dx l m) (.int z)) (ha : Val ta σ (mput C H p dx l m) (.ref p)) (q : N σ (mput C H p dx l { m with mark := z })) : sFld K ta tv "mark" ⟨N, R, B, C'⟩ σ (mput C H p dx l m) :=
  st_fld hv ha mput_p M.cl M.nMark (by show 4 < 1000; decide) (by rw [mq_mark, mput_ins (m := m) (m' := { m with mark := z }) rfl]; exact q)
theorem sm_at (M : MTx K C) (hv : Val tv σ (mput C H p dx l m) (.int z)) (ha : Val ta σ (mput C H p dx l m) (.ref p)) (q : N σ (mput C H p dx l { m with pc := z })) : sFld K ta tv "at" ⟨N, R, B, C'⟩ σ (mput C H p dx l m) :=
  st_fld hv ha mput_p M.cl M.nAt (by show 4 < 1000; decide) (by rw [mq_at, mput_ins (m := m) (m' := { m with pc := z }) rfl]; exact q)
theorem ixN_int {n : Nat} (h0 : 0 ≤ i) (h1 : i < (n : Int)) : ixN n i = some i.toNat := by
  unfold ixN; rw [if_pos h0, if_pos h1]
theorem sm_item (M : MTx K C) (hne : l ≠ p) (hv : Val tv σ (mput C H p dx l m) (.int z)) (ha : Val ta σ (mput C H p dx l m) (.ref p)) (hi : Val ti σ (mput C H p dx l m) (.int i)) (h0 : 0 ≤ i) (h1 : i < (m.cells.length : Int))
    (q : N σ (mput C H p dx l (setC m i z))) : tAsg tv (gSub (tFld K ta "cells") ti rSetL) ⟨N, R, B, C'⟩ σ (mput C H p dx l m) :=
  hv _ (vm_cells M ha _ (hi _ ⟨l, _, i, i.toNat, rfl, rfl, mput_l hne, ixN_int h0 (by rw [List.length_map]; exact h1), by
    rw [← List.map_set, mput_lst hne]; exact q⟩))
theorem qm_total (M : MTx K C) (hv : Val tv σ (mput C H p dx l m) (.int z)) (ha : Val ta σ (mput C H p dx l m) (.ref p)) (q : tz ⟨N, R, B, C'⟩ σ (mput C H p dx l { m with total := z })) : tSeq (sFld K ta tv "total") tz ⟨N, R, B, C'⟩ σ (mput C H p dx l m) := sm_total (N := tz ⟨N, R, B, C'⟩) (R := R) (B := B) (C' := C') M hv ha q
theorem qm_mark (M : MTx K C) (hv : Val tv σ (mput C H p dx l m) (.int z)) (ha : Val ta σ (mput C H p dx l m) (.ref p)) (q : tz ⟨N, R, B, C'⟩ σ (mput C H p dx l { m with mark := z })) : tSeq (sFld K ta tv "mark") tz ⟨N, R, B, C'⟩ σ (mput C H p dx l m) := sm_mark (N := tz ⟨N, R, B, C'⟩) (R := R) (B := B) (C' := C') M hv ha q
theorem qm_at (M : MTx K C) (hv : Val tv σ (mput C H p dx l m) (.int z)) (ha : Val ta σ (mput C H p dx l m) (.ref p)) (q : tz ⟨N, R, B, C'⟩ σ (mput C H p dx l { m with pc := z })) : tSeq (sFld K ta tv "at") tz ⟨N, R, B, C'⟩ σ (mput C H p dx l m) := sm_at (N := tz ⟨N, R, B, C'⟩) (R := R) (B := B) (C' := C') M hv ha q
theorem qm_item (M : MTx K C) (hne : l ≠ p) (hv : Val tv σ (mput C H p dx l m) (.int z)) (ha : Val ta σ (mput C H p dx l m) (.ref p)) (hi : Val ti σ (mput C H p dx l m) (.int i)) (h0 : 0 ≤ i) (h1 : i < (m.cells.length : Int))
    (q : tz ⟨N, R, B, C'⟩ σ (mput C H p dx l (setC m i z))) : tSeq (tAsg tv (gSub (tFld K ta "cells") ti rSetL)) tz ⟨N, R, B, C'⟩ σ (mput C H p dx l m) := sm_item (N := tz ⟨N, R, B, C'⟩) (R := R) (B := B) (C' := C') M hne hv ha hi h0 h1 q
end
theorem not_dec {p : Prop} [Decidable p] {b : Bool} : ((!decide p) = b) = (decide p = !b) := by cases b <;> simp
theorem q_cutH {σ : L2.St} {H H1 : Hp} {N : L2.St → Hp → Prop} {R : VK} {B C' : L2.St → Hp → Prop} {t1 tz : TS} (h : t1 ⟨fun σ' H' => σ' = σ ∧ H' = H1, R, B, C'⟩ σ H) (k : tz ⟨N, R, B, C'⟩ σ H1) : C8.tCut t1 tz ⟨N, R, B, C'⟩ σ H := ⟨_, h, by rintro _ _ ⟨rfl, rfl⟩; exact k⟩
/-! promises of the machine's defs: on the machine at p with its cells at l, in the heap H0 else -/
def spParts : Sp := fun vs H Q _ => ∃ n : Int, vs = [.int n] ∧ ∀ p, H p = none → Q (.ref p) (upd H p (.tup [.int (n / 128), .int (n / 64 % 2), .int (n % 64)]))
def spSkip (C : Addr) : Sp := fun vs H Q _ => ∃ (H0 : Hp) (p dx l : Addr) (m : Mc), vs = [.ref p] ∧ H = mput C H0 p dx l m ∧ Q .non (mput C H0 p dx l (skipM m))
def spAdded (C : Addr) : Sp := fun vs H Q _ => ∃ (H0 : Hp) (p dx l : Addr) (m : Mc) (n : Int), vs = [.ref p, .int n] ∧ H = mput C H0 p dx l m ∧ Q .non (mput C H0 p dx l (addedM m n))
def spAim (C : Addr) : Sp := fun vs H Q _ => ∃ (H0 : Hp) (p dx l : Addr) (m : Mc) (far place : Int), vs = [.ref p, .int far, .int place] ∧ l ≠ p ∧ m.cells.length = 64 ∧ 0 ≤ place ∧ place < 64 ∧ H = mput C H0 p dx l m ∧ Q (.int (aimV m far place)) (mput C H0 p dx l (aimP m far place))
def spMoved (C : Addr) : Sp := fun vs H Q _ => ∃ (H0 : Hp) (p dx l : Addr) (m : Mc) (kind place : Int), vs = [.ref p, .int kind, .int place] ∧ l ≠ p ∧ m.cells.length = 64 ∧ 0 ≤ place ∧ place < 64 ∧ H = mput C H0 p dx l m ∧ Q .non (mput C H0 p dx l (movedM m kind place))
def spBits (C : Addr) (f : Mc → Int → Mc) : Sp := fun vs H Q _ => ∃ (H0 : Hp) (p dx l : Addr) (m : Mc) (bits : Int), vs = [.ref p, .int bits] ∧ H = mput C H0 p dx l m ∧ Q .non (mput C H0 p dx l (f m bits))
def spDeed (C : Addr) : Sp := fun vs H Q _ => ∃ (H0 : Hp) (p dx l : Addr) (m : Mc), vs = [.ref p] ∧ l ≠ p ∧ Wm m ∧ H = mput C H0 p dx l m ∧ ∀ H1, Same H0 H1 → Q (deedV m) (mput C H1 p dx l (deedM m))
def spMachine (K : PySem.W.Frag) (C : Addr) : Sp := fun vs H Q _ => ∃ (x dx a : Addr) (cs : List Int) (t mk pc : Int), vs = [.ref x, .ref a, .int t, .int mk, .int pc] ∧ H x = some (.ins C dx []) ∧ (SqL K H a (cs.map V.int) ∨ SqT K H a (cs.map V.int)) ∧ ∀ l, H l = none → Q .non (mput C H x dx l ⟨cs, t, mk, pc⟩)
theorem aimP_len {m : Mc} {f p : Int} : (aimP m f p).cells.length = m.cells.length := by
  unfold aimP riseM setC; split <;> (try split) <;> simp
theorem aimV_lo {m : Mc} {f p : Int} (h : 0 ≤ p) : 0 ≤ aimV m f p := by unfold aimV; split <;> omega
theorem aimV_hi {m : Mc} {f p : Int} (h : p < 64) : aimV m f p < 64 := by unfold aimV; split <;> omega
theorem getC_at {m : Mc} {i : Int} (h0 : 0 ≤ i) (h1 : i < (m.cells.length : Int)) {v : Int} : getC (setC m i v) i = v := by
  unfold getC setC
  have : i.toNat < m.cells.length := by omega
  simp [List.getD_eq_getElem?_getD, this]
theorem skip_len {m : Mc} : (skipM m).cells.length = m.cells.length := rfl
theorem setC_setC {m : Mc} {i v w : Int} : setC (setC m i v) i w = setC m i w := by unfold setC; simp
theorem Tx.mt {K : PySem.W.Frag} {mg : Str → Option Value} (T : Tx K mg) : MTx K (He.ga K "Machine") := ⟨T.cls 61, T.no 63, T.no 64, T.no 65, T.no 66⟩

section
variable {P : Program} {w : World} {K : PySem.W.Frag} {mg : Str → Option Value} {base : Heap}

theorem sc_parts : FnScope ["number"] ["number"] (defScope s_parts) := ⟨rfl, rfl, rfl, by decide +kernel, rfl, by decide +kernel, by decide +kernel⟩
theorem cal_parts (T : Tx K mg) : Cal P w K mg base 1 "parts" ["number"] spParts := by
  refine cal_mk T 0 0 rfl rfl sc_parts (fun _ _ _ _ _ _ us hl => match us, hl with | [_], _ => rfl) (fun vs H Q E h => ?_) (fun f cdv A outer s H vs Q E hr h => ?_)
  · obtain ⟨n, rfl, k⟩ := h
    rfl
  · obtain ⟨n, rfl, k⟩ := h
    refine ⟨_, (pss_one (ps_ret (pe_tup (pa_cons (pe_op op_fdiv (pv 0) pe_int) (pa_cons (pe_op op_mod (pe_op op_fdiv (pv 0) pe_int) pe_int) (pa_cons (pe_op op_mod (pv 0) pe_int) pa_nil)))))), ?_⟩
    refine s_retT (va_cons (v_fdiv (v_var rfl) v_c ⟨by decide, by decide⟩) (va_cons (v_mod (v_fdiv (v_var rfl) v_c ⟨by decide, by decide⟩) v_c (by decide)) (va_cons (v_mod (v_var rfl) v_c (by decide)) va_nil))) (by simp) (fun rp hrp => ?_)
    exact k rp hrp

theorem sc_skip : FnScope ["machine"] ["machine"] (defScope s_skip) := ⟨rfl, rfl, rfl, by decide +kernel, rfl, by decide +kernel, by decide +kernel⟩
theorem cal_skip (T : Tx K mg) : Cal P w K mg base 1 "skip" ["machine"] (spSkip (He.ga K "Machine")) := by
  refine cal_mk T 1 1 rfl rfl sc_skip (fun _ _ _ _ _ _ us hl => match us, hl with | [_], _ => rfl) (fun vs H Q E h => ?_) (fun f cdv A outer s H vs Q E hr h => ?_)
  · obtain ⟨H0, p, dx, l, m, rfl, rfl, k⟩ := h
    rfl
  · obtain ⟨H0, p, dx, l, m, rfl, rfl, k⟩ := h
    have M := T.mt
    refine ⟨_, (pss_one (ps_fld (pv 0) (pe_op op_mod (pe_op op_add (pe_fld (pv 0) rfl) pe_int) pe_int) rfl)), ?_⟩
    refine sm_at M (v_mod (v_add (vm_at M (v_var rfl)) v_c) v_c (by decide)) (v_var rfl) ?_
    exact k

theorem sc_added : FnScope ["machine", "number", "amount"] ["machine", "number"] (defScope s_added) := ⟨rfl, rfl, rfl, by decide +kernel, rfl, by decide +kernel, by decide +kernel⟩
theorem cal_added (T : Tx K mg) : Cal P w K mg base 1 "added" ["machine", "number"] (spAdded (He.ga K "Machine")) := by
  refine cal_mk T 2 2 rfl rfl sc_added (fun _ _ _ _ _ _ us hl => match us, hl with | [_, _], _ => rfl) (fun vs H Q E h => ?_) (fun f cdv A outer s H vs Q E hr h => ?_)
  · obtain ⟨H0, p, dx, l, m, n, rfl, rfl, k⟩ := h
    rfl
  · obtain ⟨H0, p, dx, l, m, n, rfl, rfl, k⟩ := h
    have M := T.mt
    refine ⟨_, (pss_cons (ps_set (i := 2) sc_added.nd rfl (Or.inl rfl) (pe_op op_add (pe_fld (pv 0) rfl) (pv 1))) (pss_cons (ps_if (pt_cmpR op_ge (pv 2) pe_int (nomark _)) (pss_cons (ps_set (i := 2) sc_added.nd rfl (Or.inl rfl) (pe_op op_sub (pv 2) pe_int)) (pss_one (ps_fld (pv 0) (pe_op op_sub pe_int (pe_fld (pv 0) rfl)) rfl))) pss_nil) (pss_one (ps_fld (pv 0) (pv 2) rfl)))), ?_⟩
    refine q_set (v_add (vm_total M (v_var rfl)) (v_var rfl)) ?_
    refine q_if (a_t (v_ge (v_var rfl) v_c)) (fun h1 => ?_) (fun h1 => ?_)
    · refine q_set (v_sub (v_var rfl) v_c) ?_
      refine sm_mark M (v_sub v_c (vm_mark M (v_var rfl))) (v_var rfl) ?_
      refine sm_total M (v_var rfl) (v_var rfl) ?_
      try simp only [decide_eq_true_eq, decide_eq_false_iff_not, not_dec] at h1
      simp only [addedM, h1, if_true, if_false, if_pos, if_neg, not_false_eq_true, reduceIte, Bool.false_eq_true] at k ⊢
      exact k
    · refine s_next ?_
      refine sm_total M (v_var rfl) (v_var rfl) ?_
      try simp only [decide_eq_true_eq, decide_eq_false_iff_not, not_dec] at h1
      simp only [addedM, h1, if_true, if_false, if_pos, if_neg, not_false_eq_true, reduceIte, Bool.false_eq_true] at k ⊢
      exact k

theorem sc_aim : FnScope ["machine", "far", "place"] ["machine", "far", "place"] (defScope s_aim) := ⟨rfl, rfl, rfl, by decide +kernel, rfl, by decide +kernel, by decide +kernel⟩
theorem cal_aim (T : Tx K mg) : Cal P w K mg base 1 "aim" ["machine", "far", "place"] (spAim (He.ga K "Machine")) := by
  refine cal_mk T 3 3 rfl rfl sc_aim (fun _ _ _ _ _ _ us hl => match us, hl with | [_, _, _], _ => rfl) (fun vs H Q E h => ?_) (fun f cdv A outer s H vs Q E hr h => ?_)
  · obtain ⟨H0, p, dx, l, m, far, place, rfl, hne, hl, p0, p1, rfl, k⟩ := h
    rfl
  · obtain ⟨H0, p, dx, l, m, far, place, rfl, hne, hl, p0, p1, rfl, k⟩ := h
    have M := T.mt
    refine ⟨_, (pss_cons (ps_if (pt_cmpR op_eq (pv 1) pe_int (nomark _)) (pss_one (ps_ret (pv 2))) pss_nil) (pss_cons (ps_if (pt_chain op_le op_lt pe_int (pv 2) pe_int) (pss_one (ps_asg (pe_op op_mod (pe_op op_add (pe_ix ix_list (pe_fld (pv 0) rfl) (pv 2) (fun _ _ => rfl)) pe_int) pe_int) (pg_sub (pe_fld (pv 0) rfl) (pv 2) set_list))) pss_nil) (pss_one (ps_ret (pe_op op_mod (pe_ix ix_list (pe_fld (pv 0) rfl) (pv 2) (fun _ _ => rfl)) pe_int))))), ?_⟩
    refine q_if (a_t (v_eqI (v_var rfl) v_c)) (fun h1 => ?_) (fun h1 => ?_)
    · refine s_ret (v_var rfl) ?_
      try simp only [decide_eq_true_eq, decide_eq_false_iff_not, not_dec] at h1
      simp only [aimV, aimP, riseM, h1, if_true, if_false, if_pos, if_neg, not_false_eq_true, reduceIte, Bool.false_eq_true] at k ⊢
      exact k
    · refine s_next ?_
      refine q_if (a_t (v_chain v_c (v_var rfl) (fun _ q => rr_le q) v_c (fun _ q => rr_lt q))) (fun h2 => ?_) (fun h2 => ?_)
      · refine sm_item M hne (v_mod (v_add (vm_item M hne (v_var rfl) (v_var rfl) (by first | omega | (simp only [setC, List.length_set, skip_len, aimP_len] at *; omega)) (by first | omega | (simp only [setC, List.length_set, skip_len, aimP_len] at *; omega))) v_c) v_c (by decide)) (v_var rfl) (v_var rfl) (by first | omega | (simp only [setC, List.length_set, skip_len, aimP_len] at *; omega)) (by first | omega | (simp only [setC, List.length_set, skip_len, aimP_len] at *; omega)) ?_
        refine s_ret (v_mod (vm_item M hne (v_var rfl) (v_var rfl) (by first | omega | (simp only [setC, List.length_set, skip_len, aimP_len] at *; omega)) (by first | omega | (simp only [setC, List.length_set, skip_len, aimP_len] at *; omega))) v_c (by decide)) ?_
        try simp only [decide_eq_true_eq, decide_eq_false_iff_not, not_dec] at h1 h2
        simp only [aimV, aimP, riseM, h1, h2, if_true, if_false, if_pos, if_neg, not_false_eq_true, reduceIte, Bool.false_eq_true] at k ⊢
        exact k
      · refine s_next ?_
        refine s_ret (v_mod (vm_item M hne (v_var rfl) (v_var rfl) (by first | omega | (simp only [setC, List.length_set, skip_len, aimP_len] at *; omega)) (by first | omega | (simp only [setC, List.length_set, skip_len, aimP_len] at *; omega))) v_c (by decide)) ?_
        try simp only [decide_eq_true_eq, decide_eq_false_iff_not, not_dec] at h1 h2
        simp only [aimV, aimP, riseM, h1, h2, if_true, if_false, if_pos, if_neg, not_false_eq_true, reduceIte, Bool.false_eq_true] at k ⊢
        exact k

theorem sc_moved : FnScope ["machine", "kind", "place"] ["machine", "kind", "place"] (defScope s_moved) := ⟨rfl, rfl, rfl, by decide +kernel, rfl, by decide +kernel, by decide +kernel⟩
theorem cal_moved (T : Tx K mg) : Cal P w K mg base 2 "moved" ["machine", "kind", "place"] (spMoved (He.ga K "Machine")) := by
  refine cal_mk T 4 4 rfl rfl sc_moved (fun _ _ _ _ _ _ us hl => match us, hl with | [_, _, _], _ => rfl) (fun vs H Q E h => ?_) (fun f cdv A outer s H vs Q E hr h => ?_)
  · obtain ⟨H0, p, dx, l, m, kind, place, rfl, hne, hl, p0, p1, rfl, k⟩ := h
    rfl
  · obtain ⟨H0, p, dx, l, m, kind, place, rfl, hne, hl, p0, p1, rfl, k⟩ := h
    have M := T.mt
    refine ⟨_, (pss_one (ps_if (pt_cmpR op_eq (pv 1) pe_int (nomark _)) (pss_one (ps_fld (pv 0) (pe_op op_and (pe_fld (pv 0) rfl) (pe_ix ix_list (pe_fld (pv 0) rfl) (pv 2) (fun _ _ => rfl))) rfl)) (pss_one (ps_if (pt_cmpR op_eq (pv 1) pe_int (nomark _)) (pss_one (ps_expr (pe_cal (cal_added (K := K) T) hr (by decide) rfl (pa_cons (pv 0) (pa_cons (pe_ix ix_list (pe_fld (pv 0) rfl) (pv 2) (fun _ _ => rfl)) pa_nil))))) (pss_one (ps_if (pt_cmpR op_eq (pv 1) pe_int (nomark _)) (pss_cons (ps_asg (pe_op op_mod (pe_op op_add (pe_ix ix_list (pe_fld (pv 0) rfl) (pv 2) (fun _ _ => rfl)) pe_int) pe_int) (pg_sub (pe_fld (pv 0) rfl) (pv 2) set_list)) (pss_one (ps_if (pt_cmpR op_eq (pe_ix ix_list (pe_fld (pv 0) rfl) (pv 2) (fun _ _ => rfl)) pe_int (nomark _)) (pss_one (ps_expr (pe_cal (cal_skip (K := K) T) hr (by decide) rfl (pa_cons (pv 0) pa_nil)))) pss_nil))) (pss_one (ps_if (pt_cmpR op_eq (pv 1) pe_int (nomark _)) (pss_cons (ps_asg (pe_fld (pv 0) rfl) (pg_sub (pe_fld (pv 0) rfl) (pv 2) set_list)) (pss_one (ps_fld (pv 0) pe_int rfl))) (pss_one (ps_if (pt_cmpR op_eq (pv 1) pe_int (nomark _)) (pss_cons (ps_asg (pe_fld (pv 0) rfl) (pg_sub (pe_fld (pv 0) rfl) (pv 2) set_list)) (pss_one (ps_fld (pv 0) (pe_op op_mod (pe_op op_add (pv 2) pe_int) pe_int) rfl))) (pss_one (ps_fld (pv 0) (pv 2) rfl)))))))))))), ?_⟩
    refine s_if (a_t (v_eqI (v_var rfl) v_c)) (fun h1 => ?_) (fun h1 => ?_)
    · refine sm_total M (v_band (vm_total M (v_var rfl)) (vm_item M hne (v_var rfl) (v_var rfl) (by first | omega | (simp only [setC, List.length_set, skip_len, aimP_len] at *; omega)) (by first | omega | (simp only [setC, List.length_set, skip_len, aimP_len] at *; omega)))) (v_var rfl) ?_
      try simp only [decide_eq_true_eq, decide_eq_false_iff_not, not_dec] at h1
      simp only [movedM, riseM, h1, if_true, if_false, if_pos, if_neg, not_false_eq_true, reduceIte, Bool.false_eq_true] at k ⊢
      exact k
    · refine s_if (a_t (v_eqI (v_var rfl) v_c)) (fun h2 => ?_) (fun h2 => ?_)
      · refine s_do (va_cons (v_var rfl) (va_cons (vm_item M hne (v_var rfl) (v_var rfl) (by first | omega | (simp only [setC, List.length_set, skip_len, aimP_len] at *; omega)) (by first | omega | (simp only [setC, List.length_set, skip_len, aimP_len] at *; omega))) va_nil)) ⟨H0, p, dx, l, m, _, rfl, rfl, ?_⟩
        try dsimp only
        try simp only [decide_eq_true_eq, decide_eq_false_iff_not, not_dec] at h1 h2
        simp only [movedM, riseM, h1, h2, if_true, if_false, if_pos, if_neg, not_false_eq_true, reduceIte, Bool.false_eq_true] at k ⊢
        exact k
      · refine s_if (a_t (v_eqI (v_var rfl) v_c)) (fun h3 => ?_) (fun h3 => ?_)
        · refine qm_item M hne (v_mod (v_add (vm_item M hne (v_var rfl) (v_var rfl) (by first | omega | (simp only [setC, List.length_set, skip_len, aimP_len] at *; omega)) (by first | omega | (simp only [setC, List.length_set, skip_len, aimP_len] at *; omega))) v_c) v_c (by decide)) (v_var rfl) (v_var rfl) (by first | omega | (simp only [setC, List.length_set, skip_len, aimP_len] at *; omega)) (by first | omega | (simp only [setC, List.length_set, skip_len, aimP_len] at *; omega)) ?_
          refine s_if (a_t (v_eqI (vm_item M hne (v_var rfl) (v_var rfl) (by first | omega | (simp only [setC, List.length_set, skip_len, aimP_len] at *; omega)) (by first | omega | (simp only [setC, List.length_set, skip_len, aimP_len] at *; omega))) v_c)) (fun h4 => ?_) (fun h4 => ?_)
          · refine s_do (va_cons (v_var rfl) va_nil) ⟨H0, p, dx, l, _, rfl, rfl, ?_⟩
            try dsimp only
            try simp only [decide_eq_true_eq, decide_eq_false_iff_not, not_dec] at h1 h2 h3 h4
            simp only [movedM, riseM, h1, h2, h3, h4, if_true, if_false, if_pos, if_neg, not_false_eq_true, reduceIte, Bool.false_eq_true] at k ⊢
            exact k
          · refine s_next ?_
            try simp only [decide_eq_true_eq, decide_eq_false_iff_not, not_dec] at h1 h2 h3 h4
            simp only [movedM, riseM, h1, h2, h3, h4, if_true, if_false, if_pos, if_neg, not_false_eq_true, reduceIte, Bool.false_eq_true] at k ⊢
            exact k
        · refine s_if (a_t (v_eqI (v_var rfl) v_c)) (fun h5 => ?_) (fun h5 => ?_)
          · refine qm_item M hne (vm_total M (v_var rfl)) (v_var rfl) (v_var rfl) (by first | omega | (simp only [setC, List.length_set, skip_len, aimP_len] at *; omega)) (by first | omega | (simp only [setC, List.length_set, skip_len, aimP_len] at *; omega)) ?_
            refine sm_total M v_c (v_var rfl) ?_
            try simp only [decide_eq_true_eq, decide_eq_false_iff_not, not_dec] at h1 h2 h3 h5
            simp only [movedM, riseM, h1, h2, h3, h5, if_true, if_false, if_pos, if_neg, not_false_eq_true, reduceIte, Bool.false_eq_true] at k ⊢
            exact k
          · refine s_if (a_t (v_eqI (v_var rfl) v_c)) (fun h6 => ?_) (fun h6 => ?_)
            · refine qm_item M hne (vm_at M (v_var rfl)) (v_var rfl) (v_var rfl) (by first | omega | (simp only [setC, List.length_set, skip_len, aimP_len] at *; omega)) (by first | omega | (simp only [setC, List.length_set, skip_len, aimP_len] at *; omega)) ?_
              refine sm_at M (v_mod (v_add (v_var rfl) v_c) v_c (by decide)) (v_var rfl) ?_
              try simp only [decide_eq_true_eq, decide_eq_false_iff_not, not_dec] at h1 h2 h3 h5 h6
              simp only [movedM, riseM, h1, h2, h3, h5, h6, if_true, if_false, if_pos, if_neg, not_false_eq_true, reduceIte, Bool.false_eq_true] at k ⊢
              exact k
            · refine sm_at M (v_var rfl) (v_var rfl) ?_
              try simp only [decide_eq_true_eq, decide_eq_false_iff_not, not_dec] at h1 h2 h3 h5 h6
              simp only [movedM, riseM, h1, h2, h3, h5, h6, if_true, if_false, if_pos, if_neg, not_false_eq_true, reduceIte, Bool.false_eq_true] at k ⊢
              exact k

theorem sc_rolled : FnScope ["machine", "bits", "carried"] ["machine", "bits"] (defScope s_rolled) := ⟨rfl, rfl, rfl, by decide +kernel, rfl, by decide +kernel, by decide +kernel⟩
theorem cal_rolled (T : Tx K mg) : Cal P w K mg base 1 "rolled" ["machine", "bits"] (spBits (He.ga K "Machine") rolledM) := by
  refine cal_mk T 5 5 rfl rfl sc_rolled (fun _ _ _ _ _ _ us hl => match us, hl with | [_, _], _ => rfl) (fun vs H Q E h => ?_) (fun f cdv A outer s H vs Q E hr h => ?_)
  · obtain ⟨H0, p, dx, l, m, bits, rfl, rfl, k⟩ := h
    rfl
  · obtain ⟨H0, p, dx, l, m, bits, rfl, rfl, k⟩ := h
    have M := T.mt
    refine ⟨_, (pss_cons (ps_set (i := 2) sc_rolled.nd rfl (Or.inl rfl) (pe_fld (pv 0) rfl)) (C8.pss_cut (ps_if (pt_cmpR op_eq (pe_op op_mod (pv 1) pe_int) pe_int (nomark _)) (pss_cons (ps_fld (pv 0) (pe_op op_fdiv (pe_fld (pv 0) rfl) pe_int) rfl) (pss_one (ps_fld (pv 0) (pe_op op_add (pe_op op_mod (pe_op op_mul pe_int (pe_fld (pv 0) rfl)) pe_int) (pv 2)) rfl))) pss_nil) (pss_one (ps_if (pt_cmpR op_eq (pe_op op_mod (pv 1) pe_int) pe_int (nomark _)) (pss_cons (ps_fld (pv 0) (pe_op op_mod (pe_fld (pv 0) rfl) pe_int) rfl) (pss_one (ps_fld (pv 0) (pe_op op_add (pe_op op_fdiv (pe_fld (pv 0) rfl) pe_int) (pe_op op_mul pe_int (pv 2))) rfl))) pss_nil)))), ?_⟩
    refine q_set (vm_mark M (v_var rfl)) ?_
    refine q_cutH (H1 := mput (He.ga K "Machine") H0 p dx l (rolled1 m bits)) (s_if (a_t (v_eqI (v_mod (v_var rfl) v_c (by decide)) v_c)) (fun h1 => ?_) (fun h1 => ?_)) ?_
    · refine qm_mark M (v_fdiv (vm_total M (v_var rfl)) v_c ⟨by decide, by decide⟩) (v_var rfl) ?_
      refine sm_total M (v_add (v_mod (v_mul v_c (vm_total M (v_var rfl)) (.inl ⟨by decide, by decide⟩)) v_c (by decide)) (v_var rfl)) (v_var rfl) ?_
      try simp only [decide_eq_true_eq, decide_eq_false_iff_not, not_dec] at h1
      exact ⟨rfl, by simp only [rolled1, h1, if_true, if_false, reduceIte, Bool.false_eq_true]⟩
    · refine s_next ?_
      try simp only [decide_eq_true_eq, decide_eq_false_iff_not, not_dec] at h1
      exact ⟨rfl, by simp only [rolled1, h1, if_true, if_false, reduceIte, Bool.false_eq_true]⟩
    refine s_if (a_t (v_eqI (v_mod (v_var rfl) v_c (by decide)) v_c)) (fun h2 => ?_) (fun h2 => ?_)
    · refine qm_mark M (v_mod (vm_total M (v_var rfl)) v_c (by decide)) (v_var rfl) ?_
      refine sm_total M (v_add (v_fdiv (vm_total M (v_var rfl)) v_c ⟨by decide, by decide⟩) (v_mul v_c (v_var rfl) (.inl ⟨by decide, by decide⟩))) (v_var rfl) ?_
      try simp only [decide_eq_true_eq, decide_eq_false_iff_not, not_dec] at h2
      simp only [rolledM, h2, if_true, if_false, if_pos, if_neg, not_false_eq_true, reduceIte, Bool.false_eq_true] at k ⊢
      exact k
    · refine s_next ?_
      try simp only [decide_eq_true_eq, decide_eq_false_iff_not, not_dec] at h2
      simp only [rolledM, h2, if_true, if_false, if_pos, if_neg, not_false_eq_true, reduceIte, Bool.false_eq_true] at k ⊢
      exact k

theorem sc_changed : FnScope ["machine", "bits"] ["machine", "bits"] (defScope s_changed) := ⟨rfl, rfl, rfl, by decide +kernel, rfl, by decide +kernel, by decide +kernel⟩
theorem cal_changed (T : Tx K mg) : Cal P w K mg base 2 "changed" ["machine", "bits"] (spBits (He.ga K "Machine") changedM) := by
  refine cal_mk T 6 6 rfl rfl sc_changed (fun _ _ _ _ _ _ us hl => match us, hl with | [_, _], _ => rfl) (fun vs H Q E h => ?_) (fun f cdv A outer s H vs Q E hr h => ?_)
  · obtain ⟨H0, p, dx, l, m, bits, rfl, rfl, k⟩ := h
    rfl
  · obtain ⟨H0, p, dx, l, m, bits, rfl, rfl, k⟩ := h
    have M := T.mt
    refine ⟨_, (C8.pss_cut (ps_if (pt_cmpR op_eq (pe_op op_fdiv (pv 1) pe_int) pe_int (nomark _)) (pss_one (ps_fld (pv 0) pe_int rfl)) pss_nil) (C8.pss_cut (ps_if (pt_cmpR op_eq (pe_op op_mod (pe_op op_fdiv (pv 1) pe_int) pe_int) pe_int (nomark _)) (pss_one (ps_fld (pv 0) (pe_op op_sub pe_int (pe_fld (pv 0) rfl)) rfl)) pss_nil) (C8.pss_cut (ps_if (pt_cmpR op_eq (pe_op op_mod (pe_op op_fdiv (pv 1) pe_int) pe_int) pe_int (nomark _)) (pss_one (ps_fld (pv 0) (pe_op op_sub pe_int (pe_fld (pv 0) rfl)) rfl)) pss_nil) (C8.pss_cut (ps_if (pt_cmpR op_eq (pe_op op_mod (pe_op op_fdiv (pv 1) pe_int) pe_int) pe_int (nomark _)) (pss_one (ps_expr (pe_cal (cal_added (K := K) T) hr (by decide) rfl (pa_cons (pv 0) (pa_cons pe_int pa_nil))))) pss_nil) (pss_one (ps_expr (pe_cal (cal_rolled (K := K) T) hr (by decide) rfl (pa_cons (pv 0) (pa_cons (pv 1) pa_nil))))))))), ?_⟩
    refine q_cutH (H1 := mput (He.ga K "Machine") H0 p dx l (chg1 m bits)) (s_if (a_t (v_eqI (v_fdiv (v_var rfl) v_c ⟨by decide, by decide⟩) v_c)) (fun h1 => ?_) (fun h1 => ?_)) ?_
    · refine sm_total M v_c (v_var rfl) ?_
      try simp only [decide_eq_true_eq, decide_eq_false_iff_not, not_dec] at h1
      exact ⟨rfl, by simp only [chg1, h1, if_true, if_false, reduceIte, Bool.false_eq_true]⟩
    · refine s_next ?_
      try simp only [decide_eq_true_eq, decide_eq_false_iff_not, not_dec] at h1
      exact ⟨rfl, by simp only [chg1, h1, if_true, if_false, reduceIte, Bool.false_eq_true]⟩
    refine q_cutH (H1 := mput (He.ga K "Machine") H0 p dx l (chg2 (chg1 m bits) bits)) (s_if (a_t (v_eqI (v_mod (v_fdiv (v_var rfl) v_c ⟨by decide, by decide⟩) v_c (by decide)) v_c)) (fun h2 => ?_) (fun h2 => ?_)) ?_
    · refine sm_total M (v_sub v_c (vm_total M (v_var rfl))) (v_var rfl) ?_
      try simp only [decide_eq_true_eq, decide_eq_false_iff_not, not_dec] at h2
      exact ⟨rfl, by simp only [chg2, h2, if_true, if_false, reduceIte, Bool.false_eq_true]⟩
    · refine s_next ?_
      try simp only [decide_eq_true_eq, decide_eq_false_iff_not, not_dec] at h2
      exact ⟨rfl, by simp only [chg2, h2, if_true, if_false, reduceIte, Bool.false_eq_true]⟩
    refine q_cutH (H1 := mput (He.ga K "Machine") H0 p dx l (chg3 (chg2 (chg1 m bits) bits) bits)) (s_if (a_t (v_eqI (v_mod (v_fdiv (v_var rfl) v_c ⟨by decide, by decide⟩) v_c (by decide)) v_c)) (fun h3 => ?_) (fun h3 => ?_)) ?_
    · refine sm_mark M (v_sub v_c (vm_mark M (v_var rfl))) (v_var rfl) ?_
      try simp only [decide_eq_true_eq, decide_eq_false_iff_not, not_dec] at h3
      exact ⟨rfl, by simp only [chg3, h3, if_true, if_false, reduceIte, Bool.false_eq_true]⟩
    · refine s_next ?_
      try simp only [decide_eq_true_eq, decide_eq_false_iff_not, not_dec] at h3
      exact ⟨rfl, by simp only [chg3, h3, if_true, if_false, reduceIte, Bool.false_eq_true]⟩
    refine q_cutH (H1 := mput (He.ga K "Machine") H0 p dx l (chg4 (chg3 (chg2 (chg1 m bits) bits) bits) bits)) (s_if (a_t (v_eqI (v_mod (v_fdiv (v_var rfl) v_c ⟨by decide, by decide⟩) v_c (by decide)) v_c)) (fun h4 => ?_) (fun h4 => ?_)) ?_
    · refine s_do (va_cons (v_var rfl) (va_cons v_c va_nil)) ⟨H0, p, dx, l, _, _, rfl, rfl, ?_⟩
      try dsimp only
      try simp only [decide_eq_true_eq, decide_eq_false_iff_not, not_dec] at h4
      exact ⟨rfl, by simp only [chg4, h4, if_true, if_false, reduceIte, Bool.false_eq_true]⟩
    · refine s_next ?_
      try simp only [decide_eq_true_eq, decide_eq_false_iff_not, not_dec] at h4
      exact ⟨rfl, by simp only [chg4, h4, if_true, if_false, reduceIte, Bool.false_eq_true]⟩
    refine s_do (va_cons (v_var rfl) (va_cons (v_var rfl) va_nil)) ⟨H0, p, dx, l, _, _, rfl, rfl, ?_⟩
    try dsimp only
    exact k

theorem sc_tested : FnScope ["machine", "bits", "found"] ["machine", "bits"] (defScope s_tested) := ⟨rfl, rfl, rfl, by decide +kernel, rfl, by decide +kernel, by decide +kernel⟩
theorem cal_tested (T : Tx K mg) : Cal P w K mg base 2 "tested" ["machine", "bits"] (spBits (He.ga K "Machine") testedM) := by
  refine cal_mk T 7 7 rfl rfl sc_tested (fun _ _ _ _ _ _ us hl => match us, hl with | [_, _], _ => rfl) (fun vs H Q E h => ?_) (fun f cdv A outer s H vs Q E hr h => ?_)
  · obtain ⟨H0, p, dx, l, m, bits, rfl, rfl, k⟩ := h
    rfl
  · obtain ⟨H0, p, dx, l, m, bits, rfl, rfl, k⟩ := h
    have M := T.mt
    refine ⟨_, (pss_cons (ps_set (i := 2) sc_tested.nd rfl (Or.inl rfl) (pe_and (pe_cmpR op_eq (pe_op op_fdiv (pv 1) pe_int) pe_int (nomark _)) (pe_one (pe_cmpR op_ge (pe_fld (pv 0) rfl) pe_int (nomark _))))) (pss_cons (ps_set (i := 2) sc_tested.nd rfl (Or.inl rfl) (pe_or (pv 2) (pe_one (pe_and (pe_cmpR op_eq (pe_op op_mod (pe_op op_fdiv (pv 1) pe_int) pe_int) pe_int (nomark _)) (pe_one (pe_cmpR op_eq (pe_fld (pv 0) rfl) pe_int (nomark _))))))) (pss_cons (ps_set (i := 2) sc_tested.nd rfl (Or.inl rfl) (pe_or (pv 2) (pe_one (pe_and (pe_cmpR op_eq (pe_op op_mod (pe_op op_fdiv (pv 1) pe_int) pe_int) pe_int (nomark _)) (pe_one (pe_cmpR op_eq (pe_fld (pv 0) rfl) pe_int (nomark _))))))) (C8.pss_cut (ps_if (pt_cmpR op_ne (pv 2) (pe_cmpR op_eq (pe_op op_mod (pe_op op_fdiv (pv 1) pe_int) pe_int) pe_int (nomark _)) (nomark _)) (pss_one (ps_expr (pe_cal (cal_skip (K := K) T) hr (by decide) rfl (pa_cons (pv 0) pa_nil)))) pss_nil) (C8.pss_cut (ps_if (pt_cmpR op_eq (pe_op op_mod (pe_op op_fdiv (pv 1) pe_int) pe_int) pe_int (nomark _)) (pss_one (ps_fld (pv 0) pe_int rfl)) pss_nil) (pss_one (ps_if (pt_cmpR op_eq (pe_op op_mod (pv 1) pe_int) pe_int (nomark _)) (pss_one (ps_fld (pv 0) pe_int rfl)) pss_nil))))))), ?_⟩
    refine q_set (v_andV (v_eqI (v_fdiv (v_var rfl) v_c ⟨by decide, by decide⟩) v_c) (fun hv1 => (v_ge (vm_total M (v_var rfl)) v_c))) ?_
    refine q_set (v_orV (v_var rfl) (fun hv3 => (v_andV (v_eqI (v_mod (v_fdiv (v_var rfl) v_c ⟨by decide, by decide⟩) v_c (by decide)) v_c) (fun hv2 => (v_eqI (vm_total M (v_var rfl)) v_c))))) ?_
    refine q_set (v_orV (v_var rfl) (fun hv5 => (v_andV (v_eqI (v_mod (v_fdiv (v_var rfl) v_c ⟨by decide, by decide⟩) v_c (by decide)) v_c) (fun hv4 => (v_eqI (vm_mark M (v_var rfl)) v_c))))) ?_
    refine q_cutH (H1 := mput (He.ga K "Machine") H0 p dx l (tst1 m bits)) (s_if (a_t (v_neB (v_var rfl) (v_eqI (v_mod (v_fdiv (v_var rfl) v_c ⟨by decide, by decide⟩) v_c (by decide)) v_c))) (fun h6 => ?_) (fun h6 => ?_)) ?_
    · refine s_do (va_cons (v_var rfl) va_nil) ⟨H0, p, dx, l, _, rfl, rfl, ?_⟩
      try dsimp only
      try simp only [decide_eq_true_eq, decide_eq_false_iff_not, not_dec] at h6
      exact ⟨rfl, by simp only [tst1, foundM, h6, if_true, if_false, reduceIte, Bool.false_eq_true]⟩
    · refine s_next ?_
      try simp only [decide_eq_true_eq, decide_eq_false_iff_not, not_dec] at h6
      exact ⟨rfl, by simp only [tst1, foundM, h6, if_true, if_false, reduceIte, Bool.false_eq_true]⟩
    refine q_cutH (H1 := mput (He.ga K "Machine") H0 p dx l (tst2 (tst1 m bits) bits)) (s_if (a_t (v_eqI (v_mod (v_fdiv (v_var rfl) v_c ⟨by decide, by decide⟩) v_c (by decide)) v_c)) (fun h7 => ?_) (fun h7 => ?_)) ?_
    · refine sm_total M v_c (v_var rfl) ?_
      try simp only [decide_eq_true_eq, decide_eq_false_iff_not, not_dec] at h7
      exact ⟨rfl, by simp only [tst2, h7, if_true, if_false, reduceIte, Bool.false_eq_true]⟩
    · refine s_next ?_
      try simp only [decide_eq_true_eq, decide_eq_false_iff_not, not_dec] at h7
      exact ⟨rfl, by simp only [tst2, h7, if_true, if_false, reduceIte, Bool.false_eq_true]⟩
    refine s_if (a_t (v_eqI (v_mod (v_var rfl) v_c (by decide)) v_c)) (fun h8 => ?_) (fun h8 => ?_)
    · refine sm_mark M v_c (v_var rfl) ?_
      try simp only [decide_eq_true_eq, decide_eq_false_iff_not, not_dec] at h8
      simp only [testedM, tst3, h8, if_true, if_false, if_pos, if_neg, not_false_eq_true, reduceIte, Bool.false_eq_true] at k ⊢
      exact k
    · refine s_next ?_
      try simp only [decide_eq_true_eq, decide_eq_false_iff_not, not_dec] at h8
      simp only [testedM, tst3, h8, if_true, if_false, if_pos, if_neg, not_false_eq_true, reduceIte, Bool.false_eq_true] at k ⊢
      exact k

theorem sc_deed : FnScope ["machine", "kind", "far", "place"] ["machine"] (defScope s_deed) := ⟨rfl, rfl, rfl, by decide +kernel, rfl, by decide +kernel, by decide +kernel⟩
theorem cal_deed (T : Tx K mg) : Cal P w K mg base 3 "deed" ["machine"] (spDeed (He.ga K "Machine")) := by
  refine cal_mk T 8 8 rfl rfl sc_deed (fun _ _ _ _ _ _ us hl => match us, hl with | [_], _ => rfl) (fun vs H Q E h => ?_) (fun f cdv A outer s H vs Q E hr h => ?_)
  · obtain ⟨H0, p, dx, l, m, rfl, hne, hw, rfl, k⟩ := h
    rfl
  · obtain ⟨H0, p, dx, l, m, rfl, hne, hw, rfl, k⟩ := h
    have M := T.mt
    refine ⟨_, (pss_cons (ps_asg (pe_cal (cal_parts (K := K) T) hr (by decide) rfl (pa_cons (pe_ix ix_list (pe_fld (pv 0) rfl) (pe_fld (pv 0) rfl) (fun _ _ => rfl)) pa_nil)) (pg_tup (by rfl) (pgs_cons (pg_name (i := 1) sc_deed.nd rfl (Or.inl rfl)) (pgs_cons (pg_name (i := 2) sc_deed.nd rfl (Or.inl rfl)) (pgs_cons (pg_name (i := 3) sc_deed.nd rfl (Or.inl rfl)) pgs_nil))))) (pss_cons (ps_expr (pe_cal (cal_skip (K := K) T) hr (by decide) rfl (pa_cons (pv 0) pa_nil))) (pss_cons (ps_if (pt_cmpR op_lt (pv 1) pe_int (nomark _)) (pss_cons (ps_expr (pe_cal (cal_moved (K := K) T) hr (by decide) rfl (pa_cons (pv 0) (pa_cons (pv 1) (pa_cons (pe_cal (cal_aim (K := K) T) hr (by decide) rfl (pa_cons (pv 0) (pa_cons (pv 2) (pa_cons (pv 3) pa_nil)))) pa_nil))))) (pss_one (ps_ret pe_non))) pss_nil) (pss_cons (ps_if (pt_cmpR op_eq (pv 1) pe_int (nomark _)) (pss_one (ps_ret (pv 3))) pss_nil) (pss_cons (ps_if (pt_cmpR op_eq (pv 2) pe_int (nomark _)) (pss_one (ps_expr (pe_cal (cal_changed (K := K) T) hr (by decide) rfl (pa_cons (pv 0) (pa_cons (pv 3) pa_nil))))) (pss_one (ps_expr (pe_cal (cal_tested (K := K) T) hr (by decide) rfl (pa_cons (pv 0) (pa_cons (pv 3) pa_nil)))))) (pss_one (ps_ret pe_non))))))), ?_⟩
    obtain ⟨hl, a0, a1⟩ := hw
    refine (vm_item M hne (v_var rfl) (vm_at M (v_var rfl)) (by omega) (by omega)) _ ?_
    refine ⟨_, rfl, fun q hq => ?_⟩
    obtain ⟨e1, hq0⟩ := mput_new (o := .tup [.int (getC m m.pc / 128), .int (getC m m.pc / 64 % 2), .int (getC m m.pc % 64)]) hq
    have sm : Same H0 (upd H0 q (.tup [.int (getC m m.pc / 128), .int (getC m m.pc / 64 % 2), .int (getC m m.pc % 64)])) := fun b o e => by rw [upd_ne (ne_of_none e hq0)]; exact e
    refine ⟨q, _, rfl, SqT.of upd_same, rfl, _, _, rfl, _, _, rfl, _, _, rfl, rfl, ?_⟩
    rw [e1]
    replace k := k _ sm
    revert k
    generalize upd H0 q (.tup [.int (getC m m.pc / 128), .int (getC m m.pc / 64 % 2), .int (getC m m.pc % 64)]) = H1
    intro k
    refine q_do (va_cons (v_var rfl) va_nil) ⟨H1, p, dx, l, _, rfl, rfl, ?_⟩
    refine q_if (a_t (v_lt (v_var rfl) v_c)) (fun h1 => ?_) (fun h1 => ?_)
    · refine ⟨_, rfl, _, rfl, _, rfl, _, rfl, _, rfl, H1, p, dx, l, skipM m, _, _, rfl, hne, hl, by omega, by omega, rfl, ?_⟩
      refine ⟨H1, p, dx, l, _, _, _, rfl, hne, by rw [aimP_len]; exact hl, aimV_lo (by omega), aimV_hi (by omega), rfl, ?_⟩
      try dsimp only
      refine s_ret v_c ?_
      have g : getC m m.pc / 128 < 6 := of_decide_eq_true h1
      have g2 : ¬ getC m m.pc / 128 = 6 := by omega
      simp only [deedM, deedV, if_pos g, if_neg g2] at k
      exact k
    · refine s_next ?_
      have g : ¬ getC m m.pc / 128 < 6 := of_decide_eq_false h1
      refine q_if (a_t (v_eqI (v_var rfl) v_c)) (fun h2 => ?_) (fun h2 => ?_)
      · refine s_ret (v_var rfl) ?_
        have g2 : getC m m.pc / 128 = 6 := of_decide_eq_true h2
        simp only [deedM, deedV, if_neg g, if_pos g2] at k
        exact k
      · refine s_next ?_
        have g2 : ¬ getC m m.pc / 128 = 6 := of_decide_eq_false h2
        simp only [deedM, deedV, if_neg g, if_neg g2] at k
        refine q_if (a_t (v_eqI (v_var rfl) v_c)) (fun h3 => ?_) (fun h3 => ?_)
        · have g3 : getC m m.pc / 64 % 2 = 0 := of_decide_eq_true h3
          rw [if_pos g3] at k
          refine s_do (va_cons (v_var rfl) (va_cons (v_var rfl) va_nil)) ⟨H1, p, dx, l, _, _, rfl, rfl, ?_⟩
          try dsimp only
          refine s_ret v_c ?_
          exact k
        · have g3 : ¬ getC m m.pc / 64 % 2 = 0 := of_decide_eq_false h3
          rw [if_neg g3] at k
          refine s_do (va_cons (v_var rfl) (va_cons (v_var rfl) va_nil)) ⟨H1, p, dx, l, _, _, rfl, rfl, ?_⟩
          try dsimp only
          refine s_ret v_c ?_
          exact k

theorem sc_Machine___init__ : FnScope ["self", "cells", "total", "mark", "at"] ["self", "cells", "total", "mark", "at"] (defScope s_Machine___init__) := ⟨rfl, rfl, rfl, by decide +kernel, rfl, by decide +kernel, by decide +kernel⟩
theorem cal_Machine (T : Tx K mg) : CalC P w K mg base 1 "Machine" ["self", "cells", "total", "mark", "at"] (spMachine K (He.ga K "Machine")) := by
  refine calC_mk T 51 60 62 rfl rfl rfl sc_Machine___init__ (fun _ _ _ _ _ _ us hl => match us, hl with | [_, _, _, _, _], _ => rfl) (fun vs H Q E h => ?_) (fun f cdv A outer s H vs Q E hr h => ?_)
  · obtain ⟨x, dx, a, cs, t, mk, pc, rfl, hx, hS, k⟩ := h
    rfl
  · obtain ⟨x, dx, a, cs, t, mk, pc, rfl, hx, hS, k⟩ := h
    have M := T.mt
    refine ⟨_, (pss_cons (ps_fld (pv 0) (pe_callTy call_list_of (by rfl) (T.free 52) (by decide +kernel) (pa_cons (pv 1) pa_nil)) rfl) (pss_cons (ps_fld (pv 0) (pv 2) rfl) (pss_cons (ps_fld (pv 0) (pv 3) rfl) (pss_one (ps_fld (pv 0) (pv 4) rfl))))), ?_⟩
    refine ⟨_, rfl, a, cs.map V.int, rfl, hS, fun l hl => ?_⟩
    have nxl : x ≠ l := ne_of_none hx hl
    refine ⟨_, rfl, x, _, dx, [], rfl, (by rw [upd_ne nxl]; exact hx), M.cl, M.nCells, (by show 0 < 1000; decide), ?_⟩
    refine ⟨_, rfl, _, rfl, x, _, dx, _, rfl, upd_same, M.cl, M.nTotal, (by show 1 < 1000; decide), ?_⟩
    refine ⟨_, rfl, _, rfl, x, _, dx, _, rfl, upd_same, M.cl, M.nMark, (by show 2 < 1000; decide), ?_⟩
    refine ⟨_, rfl, _, rfl, x, _, dx, _, rfl, upd_same, M.cl, M.nAt, (by show 3 < 1000; decide), ?_⟩
    rw [upd_upd, upd_upd, upd_upd]
    exact k l hl
end
/-! ### exact new objects -/
section
variable {σ : L2.St} {H : Hp} {K : PySem.W.Frag} {a : Addr} {te ta tb tl : TE} {v x y : V} {N : L2.St → Hp → Prop} {R : VK} {B C' : L2.St → Hp → Prop} {tz : TS} {tA : TA} {xs ys vs : List V} {n : Int} {i j : Int}
/-- a new list of xs, else the heap as it is -/
def NewL (te : TE) (σ : L2.St) (H : Hp) (xs : List V) : Prop := ∀ Q : VK, (∀ D, H D = none → Q (.ref D) (upd H D (.lst xs))) → te σ H Q
def NewT (te : TE) (σ : L2.St) (H : Hp) (xs : List V) : Prop := ∀ Q : VK, (∀ D, H D = none → Q (.ref D) (upd H D (.tup xs))) → te σ H Q
theorem q_setN {k : Nat} (h : NewL te σ H xs) (q : ∀ D', H D' = none → tz ⟨N, R, B, C'⟩ (σ.set k (some (.ref D'))) (upd H D' (.lst xs))) : tSeq (tAsg te (gName k)) tz ⟨N, R, B, C'⟩ σ H := h _ q
theorem q_setNT {k : Nat} (h : NewT te σ H xs) (q : ∀ D', H D' = none → tz ⟨N, R, B, C'⟩ (σ.set k (some (.ref D'))) (upd H D' (.tup xs))) : tSeq (tAsg te (gName k)) tz ⟨N, R, B, C'⟩ σ H := h _ q
theorem s_retN (h : NewL te σ H xs) (q : ∀ D', H D' = none → R (.ref D') (upd H D' (.lst xs))) : tRet te ⟨N, R, B, C'⟩ σ H := h _ q
theorem s_retNT (h : NewT te σ H xs) (q : ∀ D', H D' = none → R (.ref D') (upd H D' (.tup xs))) : tRet te ⟨N, R, B, C'⟩ σ H := h _ q
theorem x_ret (h : te σ H R) : tRet te ⟨N, R, B, C'⟩ σ H := h
theorem qx_set {k : Nat} (h : te σ H fun x H1 => tz ⟨N, R, B, C'⟩ (σ.set k (some x)) H1) : tSeq (tAsg te (gName k)) tz ⟨N, R, B, C'⟩ σ H := h
theorem sx_set {k : Nat} (h : te σ H fun x H1 => N (σ.set k (some x)) H1) : tAsg te (gName k) ⟨N, R, B, C'⟩ σ H := h
theorem qx_asg {g : TG} (h : te σ H fun x H1 => g x σ H1 (tz ⟨N, R, B, C'⟩)) : tSeq (tAsg te g) tz ⟨N, R, B, C'⟩ σ H := h
theorem sx_asg {g : TG} (h : te σ H fun x H1 => g x σ H1 N) : tAsg te g ⟨N, R, B, C'⟩ σ H := h
theorem qx_if {t : TT} {t1 t2 : TS} (h : t σ H fun b H1 => if b = true then t1 ⟨tz ⟨N, R, B, C'⟩, R, B, C'⟩ σ H1 else t2 ⟨tz ⟨N, R, B, C'⟩, R, B, C'⟩ σ H1) : tSeq (tIfS t t1 t2) tz ⟨N, R, B, C'⟩ σ H := h
theorem sx_if {t : TT} {t1 t2 : TS} (h : t σ H fun b H1 => if b = true then t1 ⟨N, R, B, C'⟩ σ H1 else t2 ⟨N, R, B, C'⟩ σ H1) : tIfS t t1 t2 ⟨N, R, B, C'⟩ σ H := h
theorem x_or {t u : TT} {Q : Bool → Hp → Prop} (h : t σ H fun c H1 => if c = true then Q true H1 else u σ H1 Q) : tOr t u σ H Q := h
theorem x_and {t u : TT} {Q : Bool → Hp → Prop} (h : t σ H fun c H1 => if c = true then u σ H1 Q else Q false H1) : tAnd t u σ H Q := h
theorem x_not {t : TT} {Q : Bool → Hp → Prop} (h : t σ H fun c H1 => Q (!c) H1) : tNot t σ H Q := h
theorem x_test {Q : Bool → Hp → Prop} (h : te σ H fun x H1 => ∃ k, x = .bl k ∧ Q k H1) : tTest te σ H Q := h
theorem x_ans {t : TT} {b : Bool} {Q : Bool → Hp → Prop} (h : Ans t σ H b) (q : Q b H) : t σ H Q := h _ q
theorem x_andV {Q : VK} (h : ta σ H fun x H1 => ∃ c, x = .bl c ∧ if c = true then tb σ H1 Q else Q (.bl false) H1) : tAndV ta tb σ H Q := h
theorem x_call {sp : Sp} {Q : VK} (h : ValA tA σ H vs) (hs : sp vs H Q E0) : tCall sp [] E0 tA σ H Q := h _ (show sp (vs ++ []) H Q E0 from by rw [List.append_nil]; exact hs)
theorem x_op {r : R2} {Q : VK} (h : ta σ H fun x H1 => tb σ H1 fun y H2 => r x y H2 Q) : tOp r ta tb σ H Q := h
theorem x_L {Q : VK} (h : NewL te σ H xs) (q : ∀ D, H D = none → Q (.ref D) (upd H D (.lst xs))) : te σ H Q := h _ q
theorem x_T {Q : VK} (h : NewT te σ H xs) (q : ∀ D, H D = none → Q (.ref D) (upd H D (.tup xs))) : te σ H Q := h _ q
theorem x_v {Q : VK} (h : Val te σ H v) (q : Q v H) : te σ H Q := h _ q
theorem nl_disp (h : ValA tA σ H xs) (hl : xs.length ≤ 100000 := by simp) : NewL (tLst tA) σ H xs := fun _ q => h _ ⟨Nat.le_trans hl (by decide), q⟩
theorem nt_disp (h : ValA tA σ H xs) (hl : xs.length ≤ 100000 := by simp) : NewT (tTup tA) σ H xs := fun _ q => h _ ⟨Nat.le_trans hl (by decide), q⟩
def rListS (K : PySem.W.Frag) : List V → Hp → VK → Prop := fun xs H Q => ∃ p ys, xs = [.ref p] ∧ (SqL K H p ys ∨ SqT K H p ys) ∧ ∀ l, H l = none → Q (.ref l) (upd H l (.lst ys))
theorem nl_list (h : Val ta σ H (.ref a)) (hs : SqL K H a xs ∨ SqT K H a xs) : NewL (tCB (rListS K) (tCons ta tNil)) σ H xs := fun _ q => h _ ⟨a, xs, rfl, hs, q⟩
theorem nl_call {sp : Sp} (h : ValA tA σ H vs) (hs : ∀ Q : VK, (∀ D, H D = none → Q (.ref D) (upd H D (.lst xs))) → sp vs H Q E0) : NewL (tCall sp [] E0 tA) σ H xs := fun Q q => h _ (show sp (vs ++ []) H Q E0 from by rw [List.append_nil]; exact hs Q q)
theorem nt_call {sp : Sp} (h : ValA tA σ H vs) (hs : ∀ Q : VK, (∀ D, H D = none → Q (.ref D) (upd H D (.tup xs))) → sp vs H Q E0) : NewT (tCall sp [] E0 tA) σ H xs := fun Q q => h _ (show sp (vs ++ []) H Q E0 from by rw [List.append_nil]; exact hs Q q)
theorem nl_slice {lo hi : Option Int} {tlo thi : TO} (h : Val ta σ H (.ref a)) (hs : SqL K H a xs) (h1 : ∀ Q : Option Int → Hp → Prop, Q lo H → tlo σ H Q) (h2 : ∀ Q : Option Int → Hp → Prop, Q hi H → thi σ H Q) : NewL (tSl (rSlL K) ta tlo thi) σ H (cutV xs lo hi) :=
  fun Q q => h _ (h1 _ (h2 _ ⟨a, xs, rfl, hs, q⟩))
theorem o_none : ∀ Q : Option Int → Hp → Prop, Q none H → tNoPart σ H Q := fun _ q => q
theorem o_some (h : Val te σ H (.int i)) : ∀ Q : Option Int → Hp → Prop, Q (some i) H → tPart te σ H Q := fun _ q => h _ ⟨_, rfl, q⟩
/-- [e for k in range(n)], e leaving the heap -/
theorem nl_lcR {k : Nat} {ws : List Nat} (f : Nat → V) (h : ValA tA σ H [.int n]) (hn : 0 ≤ n ∧ n ≤ 100000) (hw : ∀ x, wipe ((wipe σ ws).set k (some x)) ws = wipe σ ws)
    (he : ∀ (m : Nat) (D : Addr) (acc : List V), H D = none → (m : Int) < n → Val te ((wipe σ ws).set k (some (.int (m : Int)))) (upd H D (.lst acc)) (f m)) : NewL (tLc (iRng1 tA) (gName k) tYes te ws) σ H ((List.range n.toNat).map f) := fun Q q =>
  h _ ⟨n, rfl, by omega, by omega, fun D hD => lc_range (lo := 0) (n := n.toNat) (fun m H' => H' = upd H D (.lst ((List.range m).map f))) rfl (fun m H' hm e => by
    subst e
    have e0 : (0 : Int) + (m : Int) = (m : Int) := Int.zero_add _
    rw [e0]
    refine ⟨hw _, ?_⟩
    unfold tYes
    dsimp only
    rw [if_pos rfl]
    refine he m D _ hD (by omega) _ ⟨_, upd_same, ?_, ?_⟩
    · rw [List.length_map, List.length_range]
      exact Nat.lt_of_lt_of_le (show m < 100000 by omega) (by decide)
    · rw [upd_upd, List.range_succ, List.map_append]; rfl) (fun H' e => by rw [e]; exact q D hD)⟩
/-- [e for x in xs], e leaving the heap -/
theorem nl_lcL {k : Nat} {ws : List Nat} (f : V → V) (h : Val tl σ H (.ref a)) (hs : ∀ (D : Addr) (acc : List V), H D = none → SqL K (upd H D (.lst acc)) a xs) (hn : xs.length ≤ 100000) (hw : ∀ x, wipe ((wipe σ ws).set k (some x)) ws = wipe σ ws) (hs0 : SqL K H a xs)
    (he : ∀ (m : Nat) (x : V) (D : Addr) (acc : List V), H D = none → xs[m]? = some x → Val te ((wipe σ ws).set k (some x)) (upd H D (.lst acc)) (f x)) : NewL (tLc (iList K tl) (gName k) tYes te ws) σ H (xs.map f) := fun Q q =>
  h _ ⟨a, rfl, ⟨xs, hs0⟩, fun D hD => lc_list (xs := xs) (fun m H' => H' = upd H D (.lst ((xs.take m).map f))) rfl (fun m H' _ e => by rw [e]; exact hs D _ hD) (fun m x H' hm e => by
    subst e
    have hlt : m < xs.length := (List.getElem?_eq_some_iff.mp hm).1
    refine ⟨hw _, ?_⟩
    unfold tYes
    dsimp only
    rw [if_pos rfl]
    refine he m x D _ hD hm _ ⟨_, upd_same, ?_, ?_⟩
    · rw [List.length_map, List.length_take]
      exact Nat.lt_of_lt_of_le (show min m xs.length < 100000 by omega) (by decide)
    · rw [upd_upd, List.take_add_one, hm, List.map_append]; rfl) (fun H' e => by rw [e, List.take_length]; exact q D hD)⟩
end
/-! ### what lies unchanged behind new objects -/
theorem smN {H : Hp} {p : Addr} {o : HO} (h : H p = none) : Same H (upd H p o) := fun b u e => by rw [upd_ne (ne_of_none e h)]; exact e
theorem smM {H H' : Hp} {p : Addr} {o : HO} (e : Same H H') (h : H p = none) : Same H (upd H' p o) := fun b u q => by rw [upd_ne (ne_of_none q h)]; exact e b u q
theorem smP {C : Addr} {H H' : Hp} {p dx l : Addr} {m : Mc} (e : Same H H') (h1 : H p = none) (h2 : H l = none) : Same H (mput C H' p dx l m) := fun b u q => by rw [mput_ne (ne_of_none q h1) (ne_of_none q h2)]; exact e b u q
theorem smT {K : PySem.W.Frag} {H H' : Hp} {a : Addr} {xs : List V} (e : Same H H') (h : SqT K H a xs) : SqT K H' a xs := by
  rcases h with (h | ⟨o, h⟩) | h
  · exact .inl (.inl (e _ _ h))
  · exact .inl (.inr ⟨o, e _ _ h⟩)
  · exact .inr h
/-! ### data compared -/
theorem dpAll_ints {K : PySem.W.Frag} {H : Hp} : ∀ ns : List Int, DpAll K H (ns.map V.int) (ns.map PyData.int)
  | [] => .nil
  | n :: r => .cons (.int n) (dpAll_ints r)
theorem dp_intsL {K : PySem.W.Frag} {H : Hp} {a : Addr} {ns : List Int} (h : SqL K H a (ns.map V.int)) : Dp K H (.ref a) (.list (ns.map PyData.int)) := .lst h (dpAll_ints ns)
theorem dp_intsT {K : PySem.W.Frag} {H : Hp} {a : Addr} {ns : List Int} (h : SqT K H a (ns.map V.int)) : Dp K H (.ref a) (.tuple (ns.map PyData.int)) := .tup h (dpAll_ints ns)
theorem canLay_ints : ∀ ns : List Int, PyData.canLayAll0 (ns.map PyData.int) = true
  | [] => rfl
  | n :: r => by rw [List.map_cons, PyData.canLayAll0, PyData.canLay0, canLay_ints r]; rfl
theorem depth_ints : ∀ ns : List Int, PyData.depthAll (ns.map PyData.int) = 0
  | [] => rfl
  | n :: r => by rw [List.map_cons, PyData.depthAll, PyData.depth, depth_ints r]; rfl
theorem shaped_intsL (ns : List Int) : SeqAt.shaped (.list (ns.map PyData.int)) = true := by
  unfold SeqAt.shaped
  rw [PyData.canLay0, canLay_ints, PyData.depth, depth_ints]; rfl
theorem shaped_intsT (ns : List Int) : SeqAt.shaped (.tuple (ns.map PyData.int)) = true := by
  unfold SeqAt.shaped
  rw [PyData.canLay0, canLay_ints, PyData.depth, depth_ints]; rfl
theorem eqvAll_ints : ∀ ns ms : List Int, PyData.eqvAll (ns.map PyData.int) (ms.map PyData.int) = decide (ns = ms)
  | [], [] => rfl
  | [], m :: ms => rfl
  | n :: ns, [] => rfl
  | n :: ns, m :: ms => by
    rw [List.map_cons, List.map_cons, PyData.eqvAll, PyData.eqv, eqvAll_ints ns ms]
    by_cases h : n = m <;> by_cases h2 : ns = ms <;> simp [h, h2]
theorem eqv_intsL (ns ms : List Int) : PyData.eqv (.list (ns.map PyData.int)) (.list (ms.map PyData.int)) = decide (ns = ms) := by rw [PyData.eqv, eqvAll_ints]
theorem eqv_intsT (ns ms : List Int) : PyData.eqv (.tuple (ns.map PyData.int)) (.tuple (ms.map PyData.int)) = decide (ns = ms) := by rw [PyData.eqv, eqvAll_ints]
section
variable {σ : L2.St} {H : Hp} {K : PySem.W.Frag} {a b : Addr} {ta tb : TE} {x y : V} {d e : PyData} {ns ms : List Int}
theorem v_eqD (ha : Val ta σ H x) (hb : Val tb σ H y) (hd : Dp K H x d) (he : Dp K H y e) (sd : SeqAt.shaped d = true) (se : SeqAt.shaped e = true) : Val (tOp (rEqD K) ta tb) σ H (.bl (PyData.eqv d e)) := val_op ha hb fun _ q => ⟨d, e, hd, he, sd, se, q⟩
theorem v_neD (ha : Val ta σ H x) (hb : Val tb σ H y) (hd : Dp K H x d) (he : Dp K H y e) (sd : SeqAt.shaped d = true) (se : SeqAt.shaped e = true) : Val (tOp (rNeD K) ta tb) σ H (.bl (!PyData.eqv d e)) := val_op ha hb fun _ q => ⟨d, e, hd, he, sd, se, q⟩
theorem v_eqL (ha : Val ta σ H (.ref a)) (hb : Val tb σ H (.ref b)) (h1 : SqL K H a (ns.map V.int)) (h2 : SqL K H b (ms.map V.int)) : Val (tOp (rEqD K) ta tb) σ H (.bl (decide (ns = ms))) := by
  rw [← eqv_intsL]; exact v_eqD ha hb (dp_intsL h1) (dp_intsL h2) (shaped_intsL _) (shaped_intsL _)
theorem v_neL (ha : Val ta σ H (.ref a)) (hb : Val tb σ H (.ref b)) (h1 : SqL K H a (ns.map V.int)) (h2 : SqL K H b (ms.map V.int)) : Val (tOp (rNeD K) ta tb) σ H (.bl (!decide (ns = ms))) := by
  rw [← eqv_intsL]; exact v_neD ha hb (dp_intsL h1) (dp_intsL h2) (shaped_intsL _) (shaped_intsL _)
end
/-! ### the laws' readers -/
def cellAt (ns : List Int) (k : Int) : Int := ns.getD k.toNat 0
def mixV (c p m : Int) : Int := c * 48271 % p % m
def fillV (c most : Int) : List Int := (List.range 64).map fun (k : Nat) => mixV (c + 977 * (k : Int)) 10007 most
theorem mixV_lo {c p m : Int} (h : 0 < m) : 0 ≤ mixV c p m := by unfold mixV; exact Int.emod_nonneg _ (by omega)
theorem mixV_hi {c p m : Int} (h : 0 < m) : mixV c p m < m := by unfold mixV; exact Int.emod_lt_of_pos _ h
theorem fillV_len (c m : Int) : (fillV c m).length = 64 := by simp [fillV]
theorem fillV_in {c m : Int} (h : 0 < m) : ∀ x ∈ fillV c m, 0 ≤ x ∧ x < m := by
  intro x hx
  obtain ⟨k, _, rfl⟩ := List.mem_map.mp hx
  exact ⟨mixV_lo h, mixV_hi h⟩
def spCell (K : PySem.W.Frag) : Sp := fun vs H Q _ => ∃ (a : Addr) (ns : List Int) (k : Int), vs = [.ref a, .int k] ∧ SqL K H a (ns.map V.int) ∧ 0 ≤ k ∧ Q (.int (cellAt ns k)) H
def spMix : Sp := fun vs H Q _ => ∃ c p m : Int, vs = [.int c, .int p, .int m] ∧ 0 < p ∧ 0 < m ∧ Q (.int (mixV c p m)) H
def spFill : Sp := fun vs H Q _ => ∃ c m : Int, vs = [.int c, .int m] ∧ 0 < m ∧ ∀ D, H D = none → Q (.ref D) (upd H D (.lst ((fillV c m).map V.int)))
def spWhole : Sp := fun vs H Q _ => ∃ i : Int, vs = [.int i] ∧ Q (.bl true) H
def spLaw (K : PySem.W.Frag) : Sp := fun vs H Q _ => ∃ (a : Addr) (ns : List Int), vs = [.ref a] ∧ SqL K H a (ns.map V.int) ∧ ns.length ≤ 63 ∧ ∀ H', Q (.bl true) H'
section
variable {σ : L2.St} {H : Hp} {K : PySem.W.Frag} {a : Addr} {te tl : TE} {tt : TT} {xs : List V} {tA : TA}
theorem comp_step {σ2 : L2.St} {H0 : Hp} {D : Addr} {p : V → Bool} {f : V → V} {x : V} {ys : List V} (hz : ys.length < 100000) (ht : Ans tt σ2 (upd H0 D (.lst ys)) (p x)) (he : p x = true → Val te σ2 (upd H0 D (.lst ys)) (f x)) :
    tt σ2 (upd H0 D (.lst ys)) fun b H3 => if b = true then te σ2 H3 fun y H4 => ∃ acc, H4 D = some (.lst acc) ∧ acc.length < sizeLine ∧ upd H4 D (.lst (acc ++ [y])) = upd H0 D (.lst (if p x = true then ys ++ [f x] else ys)) else H3 = upd H0 D (.lst (if p x = true then ys ++ [f x] else ys)) :=
  ht _ (by
    cases hp : p x with
    | true => exact iteT (he hp _ ⟨ys, upd_same, Nat.lt_of_lt_of_le hz (by decide), by rw [upd_upd, if_pos rfl]⟩)
    | false => exact iteF (by rw [if_neg Bool.false_ne_true]))
theorem filter_take {p : V → Bool} {f : V → V} {m : Nat} {x : V} (hm : xs[m]? = some x) : ((xs.take (m + 1)).filter p).map f = if p x = true then ((xs.take m).filter p).map f ++ [f x] else ((xs.take m).filter p).map f := by
  rw [List.take_add_one, hm, List.filter_append, List.map_append]
  cases hp : p x <;> simp [hp]
/-- [e for x in t if c], t a tuple, a list; c and e leave the heap -/
theorem nl_lcTt {k : Nat} {ws : List Nat} (p : V → Bool) (f : V → V) (h : Val tl σ H (.ref a)) (hs0 : SqT K H a xs) (hn : xs.length ≤ 100000) (hw : ∀ x, wipe ((wipe σ ws).set k (some x)) ws = wipe σ ws)
    (ht : ∀ (m : Nat) (x : V) (D : Addr) (acc : List V), H D = none → xs[m]? = some x → Ans tt ((wipe σ ws).set k (some x)) (upd H D (.lst acc)) (p x))
    (he : ∀ (m : Nat) (x : V) (D : Addr) (acc : List V), H D = none → xs[m]? = some x → p x = true → Val te ((wipe σ ws).set k (some x)) (upd H D (.lst acc)) (f x)) : NewL (tLc (iTup K tl) (gName k) tt te ws) σ H ((xs.filter p).map f) := fun Q q =>
  h _ ⟨a, rfl, ⟨xs, hs0⟩, fun D hD => lc_tup (xs := xs) (fun m H' => H' = upd H D (.lst (((xs.take m).filter p).map f))) rfl (fun m H' _ e => by rw [e]; exact smT (smN hD) hs0) (fun m x H' hm e => by
    subst e
    have hlt : m < xs.length := (List.getElem?_eq_some_iff.mp hm).1
    refine ⟨hw _, ?_⟩
    rw [filter_take hm]
    exact comp_step (by rw [List.length_map]; exact Nat.lt_of_le_of_lt (List.length_filter_le _ _) (by rw [List.length_take]; omega)) (ht m x D _ hD hm) (he m x D _ hD hm)) (fun H' e => by rw [e, List.take_length]; exact q D hD)⟩
theorem nl_lcLt {k : Nat} {ws : List Nat} (p : V → Bool) (f : V → V) (h : Val tl σ H (.ref a)) (hs0 : SqL K H a xs) (hn : xs.length ≤ 100000) (hw : ∀ x, wipe ((wipe σ ws).set k (some x)) ws = wipe σ ws)
    (ht : ∀ (m : Nat) (x : V) (D : Addr) (acc : List V), H D = none → xs[m]? = some x → Ans tt ((wipe σ ws).set k (some x)) (upd H D (.lst acc)) (p x))
    (he : ∀ (m : Nat) (x : V) (D : Addr) (acc : List V), H D = none → xs[m]? = some x → p x = true → Val te ((wipe σ ws).set k (some x)) (upd H D (.lst acc)) (f x)) : NewL (tLc (iList K tl) (gName k) tt te ws) σ H ((xs.filter p).map f) := fun Q q =>
  h _ ⟨a, rfl, ⟨xs, hs0⟩, fun D hD => lc_list (xs := xs) (fun m H' => H' = upd H D (.lst (((xs.take m).filter p).map f))) rfl (fun m H' _ e => by rw [e]; exact (smN hD).seq hs0) (fun m x H' hm e => by
    subst e
    have hlt : m < xs.length := (List.getElem?_eq_some_iff.mp hm).1
    refine ⟨hw _, ?_⟩
    rw [filter_take hm]
    exact comp_step (by rw [List.length_map]; exact Nat.lt_of_le_of_lt (List.length_filter_le _ _) (by rw [List.length_take]; omega)) (ht m x D _ hD hm) (he m x D _ hD hm)) (fun H' e => by rw [e, List.take_length]; exact q D hD)⟩
theorem same_mput {C : Addr} {H0 H' : Hp} {p dx l : Addr} {m : Mc} (e : Same (mput C H0 p dx l m) H') (h : l ≠ p) : mput C H' p dx l m = H' := mput_id (e _ _ mput_p) (e _ _ (mput_l h))
/-- sum([..]) -/
theorem x_sum {ns : List Int} (h : NewL te σ H (ns.map V.int)) {Q : VK} (q : ∀ H', Same H H' → Q (.int ns.sum) H') : tCB (rSum K) (tCons te tNil) σ H Q := h _ fun D hD => ⟨D, ns, rfl, SqL.of upd_same, q _ (smN hD)⟩
end
theorem filter_ints (p : V → Bool) (q : Int → Bool) (h : ∀ i, p (.int i) = q i) : ∀ ns : List Int, ((ns.map V.int).filter p).map id = (ns.filter q).map V.int
  | [] => rfl
  | n :: r => by
    have ih := filter_ints p q h r
    rw [List.map_cons, List.filter_cons, List.filter_cons, h n]
    cases q n <;> simp at ih ⊢ <;> simp [ih]
section
variable {P : Program} {w : World} {K : PySem.W.Frag} {mg : Str → Option Value} {base : Heap}

theorem sc_law_cell : FnScope ["_law_script", "_law_k"] ["_law_script", "_law_k"] (defScope s_law_cell) := ⟨rfl, rfl, rfl, by decide +kernel, rfl, by decide +kernel, by decide +kernel⟩
theorem cal_law_cell (T : Tx K mg) : Cal P w K mg base 1 "_law_cell" ["_law_script", "_law_k"] (spCell K) := by
  refine cal_mk T 39 39 rfl rfl sc_law_cell (fun _ _ _ _ _ _ us hl => match us, hl with | [_, _], _ => rfl) (fun vs H Q E h => ?_) (fun f cdv A outer s H vs Q E hr h => ?_)
  · obtain ⟨a, ns, j, rfl, hS, h0, k⟩ := h
    rfl
  · obtain ⟨a, ns, j, rfl, hS, h0, k⟩ := h
    refine ⟨_, (pss_cons (ps_if (pt_cmpR op_lt (pv 1) (pe_callB call_len_seq (by rfl) (T.free 51) PySem.boot_len (pa_cons (pv 0) pa_nil)) (nomark _)) (pss_one (ps_ret (pe_ix ix_list (pv 0) (pv 1) (fun _ _ => rfl)))) pss_nil) (pss_one (ps_ret pe_int))), ?_⟩
    refine q_if (a_t (v_lt (v_var rfl) (v_cb (va_cons (v_var rfl) va_nil) (fun _ q => ⟨_, _, rfl, .inl hS, q⟩)))) (fun h1 => ?_) (fun h1 => ?_)
    · have g : j < ((ns.map V.int).length : Int) := of_decide_eq_true h1
      rw [List.length_map] at g
      exact s_ret (v_ixLI (v_var rfl) (v_var rfl) hS h0 g) k
    · refine s_next ?_
      have g : ¬ j < ((ns.map V.int).length : Int) := of_decide_eq_false h1
      rw [List.length_map] at g
      refine s_ret v_c ?_
      have e : cellAt ns j = 0 := by unfold cellAt; rw [List.getD_eq_getElem?_getD, List.getElem?_eq_none (by omega)]; rfl
      rw [e] at k
      exact k

theorem sc_law_mix : FnScope ["_law_cell_here", "_law_prime", "_law_many"] ["_law_cell_here", "_law_prime", "_law_many"] (defScope s_law_mix) := ⟨rfl, rfl, rfl, by decide +kernel, rfl, by decide +kernel, by decide +kernel⟩
theorem cal_law_mix (T : Tx K mg) : Cal P w K mg base 1 "_law_mix" ["_law_cell_here", "_law_prime", "_law_many"] spMix := by
  refine cal_mk T 40 40 rfl rfl sc_law_mix (fun _ _ _ _ _ _ us hl => match us, hl with | [_, _, _], _ => rfl) (fun vs H Q E h => ?_) (fun f cdv A outer s H vs Q E hr h => ?_)
  · obtain ⟨c, p, m, rfl, hp, hm, k⟩ := h
    rfl
  · obtain ⟨c, p, m, rfl, hp, hm, k⟩ := h
    refine ⟨_, (pss_one (ps_ret (pe_op op_mod (pe_op op_mod (pe_op op_mul (pv 0) pe_int) (pv 1)) (pv 2)))), ?_⟩
    refine s_ret (v_mod (v_mod (v_mul (v_var rfl) v_c (.inr ⟨by decide, by decide⟩)) (v_var rfl) (by assumption)) (v_var rfl) (by assumption)) ?_
    exact k

theorem sc_law_whole : FnScope ["_law_found"] ["_law_found"] (defScope s_law_whole) := ⟨rfl, rfl, rfl, by decide +kernel, rfl, by decide +kernel, by decide +kernel⟩
theorem cal_law_whole (T : Tx K mg) : Cal P w K mg base 1 "_law_whole" ["_law_found"] spWhole := by
  refine cal_mk T 41 41 rfl rfl sc_law_whole (fun _ _ _ _ _ _ us hl => match us, hl with | [_], _ => rfl) (fun vs H Q E h => ?_) (fun f cdv A outer s H vs Q E hr h => ?_)
  · obtain ⟨i, rfl, k⟩ := h
    rfl
  · obtain ⟨i, rfl, k⟩ := h
    refine ⟨_, (pss_one (ps_ret (pe_and (pe_callB call_isi (by rfl) (T.free 55) (by decide +kernel) (pa_cons (pv 0) (pa_cons (pe_bltn (v := .ty "int") (by rfl) (T.free 56) (by decide +kernel) rfl) pa_nil))) (pe_one (pe_not (pe_callB call_isi (by rfl) (T.free 55) (by decide +kernel) (pa_cons (pv 0) (pa_cons (pe_bltn (v := .ty "bool") (by rfl) (T.free 58) (by decide +kernel) rfl) pa_nil)))))))), ?_⟩
    refine s_ret (v_andV (v_cb (va_cons (v_var rfl) (va_cons v_c va_nil)) (fun _ q => ⟨_, _, .type "int", .type "int", true, rfl, .ty "int", .base (.int _), kit_ty (by decide +kernel), q⟩)) (fun _ => v_notV (v_cb (va_cons (v_var rfl) (va_cons v_c va_nil)) (fun _ q => ⟨_, _, .type "int", .type "bool", false, rfl, .ty "bool", .base (.int _), kit_ty (by decide +kernel), q⟩)))) ?_
    exact k
end
/-! ### words for the laws' own bodies -/
section
variable {σ : L2.St} {H : Hp} {K : PySem.W.Frag} {a p : Addr} {te ta tb ti to : TE} {v x y : V} {N : L2.St → Hp → Prop} {R : VK} {B C' : L2.St → Hp → Prop} {tz : TS} {tA : TA} {C : Addr} {i z t mk pc : Int} {cs ns : List Int} {m : Mc}
/-- an item of a written list of ints -/
theorem v_menu (ns : List Int) (h : ValA tA σ H (ns.map V.int)) (hl : ns.length ≤ 1000) (hi : ∀ H', Same H H' → Val ti σ H' (.int i)) (h0 : 0 ≤ i) (h1 : i < (ns.length : Int)) {Q : VK} (q : ∀ H', Same H H' → Q (.int (ns.getD i.toNat 0)) H') : tOp (rIxL K) (tLst tA) ti σ H Q :=
  h _ ⟨Nat.le_trans (by rw [List.length_map]; exact hl) (by decide), fun D hD => by
    refine hi _ (smN hD) _ ⟨D, ns.map V.int, i, .int (ns.getD i.toNat 0), rfl, rfl, SqL.of upd_same, ?_, q _ (smN hD)⟩
    refine at_of (j := i.toNat) (by omega) ?_
    have hl : i.toNat < ns.length := by omega
    rw [List.getElem?_map, List.getElem?_eq_getElem hl]
    simp [List.getD_eq_getElem?_getD, List.getElem?_eq_getElem hl]⟩
theorem q_setItem (hv : Val te σ H (.int z)) (ho : Val to σ H (.ref p)) (hi : Val ti σ H (.int i)) (hp : H p = some (.lst (ns.map V.int))) (h0 : 0 ≤ i) (h1 : i < (ns.length : Int)) (q : tz ⟨N, R, B, C'⟩ σ (upd H p (.lst ((ns.set i.toNat z).map V.int)))) :
    tSeq (tAsg te (gSub to ti rSetL)) tz ⟨N, R, B, C'⟩ σ H := hv _ (ho _ (hi _ ⟨p, _, i, i.toNat, rfl, rfl, hp, ixN_int h0 (by rw [List.length_map]; exact h1), by rw [← List.map_set]; exact q⟩))
theorem s_setItem (hv : Val te σ H (.int z)) (ho : Val to σ H (.ref p)) (hi : Val ti σ H (.int i)) (hp : H p = some (.lst (ns.map V.int))) (h0 : 0 ≤ i) (h1 : i < (ns.length : Int)) (q : N σ (upd H p (.lst ((ns.set i.toNat z).map V.int)))) :
    tAsg te (gSub to ti rSetL) ⟨N, R, B, C'⟩ σ H := hv _ (ho _ (hi _ ⟨p, _, i, i.toNat, rfl, rfl, hp, ixN_int h0 (by rw [List.length_map]; exact h1), by rw [← List.map_set]; exact q⟩))
theorem mput_make {x dx l o : Addr} {u : HO} : mput C (upd (upd H o u) x (.ins C dx [])) x dx l m = mput C (upd H o u) x dx l m := by
  funext b; unfold mput upd
  by_cases h1 : b = x <;> by_cases h2 : b = l <;> simp [h1, h2]
/-- Machine(..) -/
theorem x_machine (h : ValA tA σ H [.ref a, .int t, .int mk, .int pc]) (hs : SqL K H a (cs.map V.int) ∨ SqT K H a (cs.map V.int)) {Q : VK}
    (q : ∀ x dx l H', H x = none → H l = none → H dx = none → l ≠ x → Same H H' → Q (.ref x) (mput C H' x dx l ⟨cs, t, mk, pc⟩)) : tMake C (spMachine K C) [] E0 tA σ H Q :=
  h _ fun x dx nx nd ne => by
    have sm : Same H (upd (upd H dx (.own x)) x (.ins C dx [])) := smM (smN nd) nx
    refine ⟨x, dx, a, cs, t, mk, pc, rfl, upd_same, hs.imp sm.seq (smT sm), fun l hl => ⟨rfl, ?_⟩⟩
    have nlx : l ≠ x := fun e => by subst e; rw [upd_same] at hl; cases hl
    rw [mput_make]
    exact q x dx l _ nx (sm.free hl) nd nlx (smN nd)
theorem q_machine {k : Nat} (h : ValA tA σ H [.ref a, .int t, .int mk, .int pc]) (hs : SqL K H a (cs.map V.int) ∨ SqT K H a (cs.map V.int))
    (q : ∀ x dx l H', H x = none → H l = none → H dx = none → l ≠ x → Same H H' → tz ⟨N, R, B, C'⟩ (σ.set k (some (.ref x))) (mput C H' x dx l ⟨cs, t, mk, pc⟩)) : tSeq (tAsg (tMake C (spMachine K C) [] E0 tA) (gName k)) tz ⟨N, R, B, C'⟩ σ H := by
  show tMake C (spMachine K C) [] E0 tA σ H (fun v H1 => tz ⟨N, R, B, C'⟩ (σ.set k (some v)) H1)
  exact x_machine h hs q
theorem q_rel {t1 : TS} (Mid : L2.St → Hp → Prop) (h : t1 ⟨Mid, R, B, C'⟩ σ H) (k : ∀ σ' H', Mid σ' H' → tz ⟨N, R, B, C'⟩ σ' H') : C8.tCut t1 tz ⟨N, R, B, C'⟩ σ H := ⟨Mid, h, k⟩
end
/-- a cell's item through a mput -/
theorem getC_set {cs : List Int} {t mk pc i v : Int} (h0 : 0 ≤ i) (h1 : i < (cs.length : Int)) : getC ⟨cs.set i.toNat v, t, mk, pc⟩ i = v := by
  unfold getC
  have : i.toNat < cs.length := by omega
  simp [List.getD_eq_getElem?_getD, this]
theorem mem_set_in {P : Int → Prop} : ∀ {cs : List Int} {i : Nat} {v : Int}, (∀ c ∈ cs, P c) → P v → ∀ c ∈ cs.set i v, P c := by
  intro cs i v h hv c hc
  rcases List.mem_or_eq_of_mem_set hc with h1 | h1
  · exact h c h1
  · exact h1 ▸ hv
theorem menu_in (P : Int → Prop) {ns : List Int} (h : ∀ x ∈ ns, P x) (h0 : P 0) (i : Nat) : P (ns.getD i 0) := by
  rw [List.getD_eq_getElem?_getD]
  cases e : ns[i]? with
  | none => exact h0
  | some x => exact h x (List.mem_of_getElem? e)
theorem mput_upd {C : Addr} {H : Hp} {p dx l q : Addr} {m : Mc} {o : HO} (h1 : q ≠ p) (h2 : q ≠ l) : upd (mput C H p dx l m) q o = mput C (upd H q o) p dx l m := by
  funext b; unfold mput upd
  by_cases e : b = q
  · subst e; simp [h1, h2]
  · simp [e]
theorem setAt {cs : List Int} {i : Int} {v : Int} (h0 : 0 ≤ i) (h1 : i < (cs.length : Int)) : (cs.set i.toNat v).getD i.toNat 0 = v := by
  have : i.toNat < cs.length := by omega
  simp [List.getD_eq_getElem?_getD, this]
section
variable {σ : L2.St} {H : Hp} {K : PySem.W.Frag} {a p dx l C : Addr} {te ta tb ti to : TE} {v x y : V} {m : Mc} {xs : List V}
/-- isinstance(x, list) of a list that stands in the heap -/
theorem v_isiL {b : Bool} {c : String} (hc : Val tb σ H (.ty c)) (h : ∃ y t, Val ta σ H y ∧ TyX K H y (.type t) ∧ PySem.W.kitOne K (.type t) (.type c) = some b) : Val (tCB (rIsi K) (tCons ta (tCons tb tNil))) σ H (.bl b) := by
  obtain ⟨y, t, h1, h2, h3⟩ := h
  exact v_cb (va_cons h1 (va_cons hc va_nil)) fun _ q => ⟨y, .ty c, .type t, .type c, b, rfl, .ty c, h2, h3, q⟩
theorem isi_list (h : Val ta σ H (.ref a)) (ha : H a = some (.lst xs)) : ∃ y t, Val ta σ H y ∧ TyX K H y (.type t) ∧ PySem.W.kitOne K (.type t) (.type "list") = some true := ⟨_, "list", h, .base (.lst ha), kit_ty (by decide +kernel)⟩
theorem isi_tup (h : Val ta σ H (.ref a)) (ha : H a = some (.tup xs)) : ∃ y t, Val ta σ H y ∧ TyX K H y (.type t) ∧ PySem.W.kitOne K (.type t) (.type "tuple") = some true := ⟨_, "tuple", h, .base (.tup ha), kit_ty (by decide +kernel)⟩
end
section
variable {σ : L2.St} {H : Hp} {K : PySem.W.Frag} {a : Addr} {te tl : TE} {tt : TT} {xs : List V} {tA : TA}
/-- a new list of xs; other new objects may lie beside -/
def NewLs (te : TE) (σ : L2.St) (H : Hp) (xs : List V) : Prop := ∀ Q : VK, (∀ D H', H D = none → Same H H' → H' D = some (.lst xs) → Q (.ref D) H') → te σ H Q
theorem NewL.s (h : NewL te σ H xs) : NewLs te σ H xs := fun _ q => h _ fun D hD => q D _ hD (smN hD) upd_same
theorem x_Ls {Q : VK} (h : NewLs te σ H xs) (q : ∀ D H', H D = none → Same H H' → H' D = some (.lst xs) → Q (.ref D) H') : te σ H Q := h _ q
theorem mapIdx_take {f : Nat → V → V} {m : Nat} {x : V} (hm : xs[m]? = some x) : (xs.take (m + 1)).mapIdx f = (xs.take m).mapIdx f ++ [f m x] := by
  have hlt : m < xs.length := (List.getElem?_eq_some_iff.mp hm).1
  rw [List.take_add_one, hm, List.mapIdx_append]
  simp [List.length_take, Nat.min_eq_left (Nat.le_of_lt hlt)]
/-- [e for k, x in enumerate(xs)], e leaving the heap -/
theorem nls_enum {k j : Nat} {ws : List Nat} (f : Nat → V → V) (h : ValA tA σ H [.ref a]) (hs : SqL K H a xs) (hn : xs.length ≤ 100000) (hw : ∀ x y, wipe (((wipe σ ws).set k (some x)).set j (some y)) ws = wipe σ ws)
    (he : ∀ (m : Nat) (x : V) (H' : Hp), Same H H' → xs[m]? = some x → Val te (((wipe σ ws).set k (some (.int (m : Int)))).set j (some x)) H' (f m x)) :
    NewLs (tLc (iEnum K tA) (gTup K 2 (gCons (gName k) (gCons (gName j) gNil))) tYes te ws) σ H (xs.mapIdx f) := fun Q q =>
  h _ ⟨a, xs, rfl, hs, fun D hD => lc_it (walk_enum (xs := xs)) (fun m H' => Same H H' ∧ H' D = some (.lst ((xs.take m).mapIdx f))) ⟨smN hD, upd_same⟩ (fun m H' _ e => e.1.seq hs) (fun m v H1 H' hm e y => by
    obtain ⟨sm, hl⟩ := e
    obtain ⟨T, u, x, rfl, hT, rfl, hu, hx⟩ := y
    cases hu
    have sm2 := sm.trans (smN (o := .tup [V.int (m : Int), x]) hT)
    have nDT : D ≠ T := ne_of_none hl hT
    refine ⟨T, _, rfl, SqT.of upd_same, rfl, _, _, rfl, _, _, rfl, rfl, hw _ _, ?_⟩
    unfold tYes
    dsimp only
    rw [if_pos rfl]
    refine he m x _ sm2 hx _ ⟨_, by rw [upd_ne nDT]; exact hl, ?_, smM sm2 hD, ?_⟩
    · rw [List.length_mapIdx, List.length_take]
      exact Nat.lt_of_lt_of_le (show min m xs.length < 100000 by omega) (by decide)
    · rw [upd_same, mapIdx_take hx]) (fun H' e => by rw [List.take_length] at e; exact q D H' hD e.1 e.2)⟩
theorem x_any {bs : List Bool} (h : NewLs te σ H (bs.map V.bl)) {Q : VK} (q : ∀ H', Same H H' → Q (.bl (bs.any id)) H') : tCB (rAny K) (tCons te tNil) σ H Q := h _ fun D H' _ sm hD => ⟨D, bs, rfl, SqL.of hD, q _ sm⟩
end
section
variable {σ : L2.St} {H : Hp} {K : PySem.W.Frag} {C : Addr} {te : TE} {tA : TA} {t mk pc : Int}
theorem smP' {C : Addr} {H H' : Hp} {p dx l : Addr} {m : Mc} (h1 : H p = none) (h2 : H l = none) (e : Same H H') : Same H (mput C H' p dx l m) := smP e h1 h2
/-- Machine([..], total, mark, at) -/
theorem x_machineL {f : Nat → Int} (h : NewL te σ H ((List.range 64).map fun i => V.int (f i))) (hA : ∀ H', ValA tA σ H' [.int t, .int mk, .int pc]) {Q : VK}
    (q : ∀ x dx l H', l ≠ x → (∀ m H'', Same (mput C H' x dx l m) H'' → Same H H'') → Q (.ref x) (mput C H' x dx l ⟨(List.range 64).map f, t, mk, pc⟩)) : tMake C (spMachine K C) [] E0 (tCons te tA) σ H Q := by
  show te σ H _
  refine h _ (fun D hD => ?_)
  refine hA _ _ ?_
  have e : (List.range 64).map (fun i => V.int (f i)) = ((List.range 64).map f).map V.int := by rw [List.map_map]; rfl
  refine (x_machine (σ := σ) (H := upd H D (.lst ((List.range 64).map fun i => V.int (f i)))) (tA := fun _ H1 Q1 => Q1 [.ref D, .int t, .int mk, .int pc] H1) (cs := (List.range 64).map f) (t := t) (mk := mk) (pc := pc) (fun Q1 q1 => q1) (.inl (SqL.of (by rw [upd_same, e]))) (Q := Q) (fun x dx l H' nx nl _ hne sm => ?_) : _)
  have sm0 := (smN (o := .lst ((List.range 64).map fun i => V.int (f i))) hD).trans sm
  have nx0 : H x = none := (smN hD).free nx
  have nl0 : H l = none := (smN hD).free nl
  exact q x dx l H' hne fun m H'' s => (smP sm0 nx0 nl0).trans s
end
/-! ### loops -/
section
variable {σ : L2.St} {H : Hp} {K : PySem.W.Frag} {a : Addr} {tl : TE} {tA : TA} {tb tz : TS} {N : L2.St → Hp → Prop} {R : VK} {B C' : L2.St → Hp → Prop} {k j : Nat} {n : Int} {xs : List V}
theorem s_forR (h : ValA tA σ H [.int n]) (hn0 : n ≤ 100000) (Pv : Nat → L2.St → Hp → Prop) (h0 : Pv 0 σ H)
    (hs : ∀ (i : Nat) σ' H', (i : Int) < n → Pv i σ' H' → tb ⟨Pv (i + 1), R, N, Pv (i + 1)⟩ (σ'.set k (some (.int (i : Int)))) H') (hd : ∀ σ' H', Pv n.toNat σ' H' → N σ' H') (hn1 : -100000 ≤ n := by omega) : tFor (iRng1 tA) (gName k) tb ⟨N, R, B, C'⟩ σ H :=
  h _ ⟨n, rfl, by omega, by omega, for_range (lo := 0) (n := n.toNat) (D := ⟨N, R, B, C'⟩) Pv h0 (fun i σ' H' hi p => by
    have e0 : (0 : Int) + (i : Int) = (i : Int) := Int.zero_add _
    rw [e0]
    exact hs i σ' H' (by omega) p) hd⟩
theorem q_forR (h : ValA tA σ H [.int n]) (hn0 : n ≤ 100000) (Pv : Nat → L2.St → Hp → Prop) (h0 : Pv 0 σ H)
    (hs : ∀ (i : Nat) σ' H', (i : Int) < n → Pv i σ' H' → tb ⟨Pv (i + 1), R, tz ⟨N, R, B, C'⟩, Pv (i + 1)⟩ (σ'.set k (some (.int (i : Int)))) H') (hd : ∀ σ' H', Pv n.toNat σ' H' → tz ⟨N, R, B, C'⟩ σ' H') (hn1 : -100000 ≤ n := by omega) : tSeq (tFor (iRng1 tA) (gName k) tb) tz ⟨N, R, B, C'⟩ σ H :=
  s_forR (N := tz ⟨N, R, B, C'⟩) (B := B) (C' := C') h hn0 Pv h0 hs hd hn1
theorem s_forL (h : Val tl σ H (.ref a)) (hx : SqL K H a xs) (Pv : Nat → L2.St → Hp → Prop) (h0 : Pv 0 σ H) (hl : ∀ (i : Nat) σ' H', Pv i σ' H' → SqL K H' a xs)
    (hs : ∀ (i : Nat) x σ' H', xs[i]? = some x → Pv i σ' H' → tb ⟨Pv (i + 1), R, N, Pv (i + 1)⟩ (σ'.set k (some x)) H') (hd : ∀ σ' H', Pv xs.length σ' H' → N σ' H') : tFor (iList K tl) (gName k) tb ⟨N, R, B, C'⟩ σ H :=
  h _ ⟨a, rfl, ⟨xs, hx⟩, for_list (xs := xs) (D := ⟨N, R, B, C'⟩) Pv h0 (fun i σ' H' _ p => hl i σ' H' p) hs hd⟩
theorem q_forL (h : Val tl σ H (.ref a)) (hx : SqL K H a xs) (Pv : Nat → L2.St → Hp → Prop) (h0 : Pv 0 σ H) (hl : ∀ (i : Nat) σ' H', Pv i σ' H' → SqL K H' a xs)
    (hs : ∀ (i : Nat) x σ' H', xs[i]? = some x → Pv i σ' H' → tb ⟨Pv (i + 1), R, tz ⟨N, R, B, C'⟩, Pv (i + 1)⟩ (σ'.set k (some x)) H') (hd : ∀ σ' H', Pv xs.length σ' H' → tz ⟨N, R, B, C'⟩ σ' H') : tSeq (tFor (iList K tl) (gName k) tb) tz ⟨N, R, B, C'⟩ σ H :=
  s_forL (N := tz ⟨N, R, B, C'⟩) (B := B) (C' := C') h hx Pv h0 hl hs hd
/-- for k, x in enumerate(xs): a new pair each turn -/
theorem s_forE (h : ValA tA σ H [.ref a]) (hx : SqL K H a xs) (Pv : Nat → L2.St → Hp → Prop) (h0 : Pv 0 σ H) (hl : ∀ (i : Nat) σ' H', Pv i σ' H' → SqL K H' a xs)
    (hs : ∀ (i : Nat) x σ' H' T, xs[i]? = some x → Pv i σ' H' → H' T = none → tb ⟨Pv (i + 1), R, N, Pv (i + 1)⟩ ((σ'.set k (some (.int (i : Int)))).set j (some x)) (upd H' T (.tup [.int (i : Int), x]))) (hd : ∀ σ' H', Pv xs.length σ' H' → N σ' H') :
    tFor (iEnum K tA) (gTup K 2 (gCons (gName k) (gCons (gName j) gNil))) tb ⟨N, R, B, C'⟩ σ H :=
  h _ ⟨a, xs, rfl, hx, for_it (walk_enum (xs := xs)) (D := ⟨N, R, B, C'⟩) Pv h0 (fun i σ' H' _ p => hl i σ' H' p) (fun i x σ' H1 H' hi p y => by
    obtain ⟨T, u, z, rfl, hT, rfl, hu, hz⟩ := y
    cases hu
    exact ⟨T, _, rfl, SqT.of upd_same, rfl, _, _, rfl, _, _, rfl, rfl, hs i z σ' H1 T hz p hT⟩) hd⟩
theorem q_forE (h : ValA tA σ H [.ref a]) (hx : SqL K H a xs) (Pv : Nat → L2.St → Hp → Prop) (h0 : Pv 0 σ H) (hl : ∀ (i : Nat) σ' H', Pv i σ' H' → SqL K H' a xs)
    (hs : ∀ (i : Nat) x σ' H' T, xs[i]? = some x → Pv i σ' H' → H' T = none → tb ⟨Pv (i + 1), R, tz ⟨N, R, B, C'⟩, Pv (i + 1)⟩ ((σ'.set k (some (.int (i : Int)))).set j (some x)) (upd H' T (.tup [.int (i : Int), x]))) (hd : ∀ σ' H', Pv xs.length σ' H' → tz ⟨N, R, B, C'⟩ σ' H') :
    tSeq (tFor (iEnum K tA) (gTup K 2 (gCons (gName k) (gCons (gName j) gNil))) tb) tz ⟨N, R, B, C'⟩ σ H :=
  s_forE (N := tz ⟨N, R, B, C'⟩) (B := B) (C' := C') h hx Pv h0 hl hs hd
end
section
variable {σ : L2.St} {H : Hp} {K : PySem.W.Frag} {a : Addr} {te tl : TE} {xs ys : List V}
/-- [e for x in (written tuple)] -/
theorem nls_lcNT {k : Nat} {ws : List Nat} (f : V → V) (hy : xs.map f = ys) (h : NewT tl σ H xs) (hn : xs.length ≤ 100000) (hw : ∀ x, wipe ((wipe σ ws).set k (some x)) ws = wipe σ ws)
    (he : ∀ (m : Nat) (x : V) (H' : Hp), Same H H' → xs[m]? = some x → Val te ((wipe σ ws).set k (some x)) H' (f x)) : NewLs (tLc (iTup K tl) (gName k) tYes te ws) σ H ys := fun Q q =>
  h _ fun P hP => ⟨P, rfl, ⟨xs, SqT.of upd_same⟩, fun D hD => lc_tup (xs := xs) (fun m H' => Same H H' ∧ H' P = some (.tup xs) ∧ H' D = some (.lst ((xs.take m).map f))) ⟨(smN hP).trans (smN hD), smN hD _ _ upd_same, upd_same⟩ (fun m H' _ e => SqT.of e.2.1) (fun m x H' hm e => by
    obtain ⟨sm, hPP, hl⟩ := e
    have hD0 : H D = none := (smN hP).free hD
    have nPD : P ≠ D := ne_of_none upd_same hD
    refine ⟨hw _, ?_⟩
    unfold tYes
    dsimp only
    rw [if_pos rfl]
    refine he m x _ sm hm _ ⟨_, hl, ?_, smM sm hD0, by rw [upd_ne nPD]; exact hPP, ?_⟩
    · rw [List.length_map, List.length_take]
      exact Nat.lt_of_lt_of_le (show min m xs.length < 100000 by have := (List.getElem?_eq_some_iff.mp hm).1; omega) (by decide)
    · rw [upd_same, List.take_add_one, hm, List.map_append]; rfl) (fun H' e => by
      have e3 := e.2.2
      rw [List.take_length, hy] at e3
      exact q D H' ((smN hP).free hD) e.1 e3)⟩
theorem x_sum' {ns : List Int} (h : NewLs te σ H (ns.map V.int)) {Q : VK} (q : ∀ H', Same H H' → Q (.int ns.sum) H') : tCB (rSum K) (tCons te tNil) σ H Q := h _ fun D H' _ sm hD => ⟨D, ns, rfl, SqL.of hD, q _ sm⟩
end
section
variable {σ : L2.St} {H : Hp} {K : PySem.W.Frag} {te : TE} {tb tz : TS} {N : L2.St → Hp → Prop} {R : VK} {B C' : L2.St → Hp → Prop} {k j : Nat} {xs : List V}
/-- for k, x in enumerate(a new list) -/
theorem s_forEN (h : NewL te σ H xs) (Pv : Addr → Nat → L2.St → Hp → Prop) (h0 : ∀ D, H D = none → Pv D 0 σ (upd H D (.lst xs))) (hl : ∀ D (i : Nat) σ' H', Pv D i σ' H' → SqL K H' D xs)
    (hs : ∀ D (i : Nat) x σ' H' T, xs[i]? = some x → Pv D i σ' H' → H' T = none → tb ⟨Pv D (i + 1), R, N, Pv D (i + 1)⟩ ((σ'.set k (some (.int (i : Int)))).set j (some x)) (upd H' T (.tup [.int (i : Int), x]))) (hd : ∀ D σ' H', Pv D xs.length σ' H' → N σ' H') :
    tFor (iEnum K (tCons te tNil)) (gTup K 2 (gCons (gName k) (gCons (gName j) gNil))) tb ⟨N, R, B, C'⟩ σ H :=
  h _ fun D hD => s_forE (tA := fun _ H1 Q1 => Q1 [.ref D] H1) (σ := σ) (H := upd H D (.lst xs)) (fun Q1 q1 => q1) (SqL.of upd_same) (Pv D) (h0 D hD) (fun i σ' H' p => hl D i σ' H' p) (fun i x σ' H' T hx p hT => hs D i x σ' H' T hx p hT) (fun σ' H' p => hd D σ' H' p)
end
theorem cutV_nat {xs : List V} {i j : Nat} (h : i ≤ j) : cutV xs (some (i : Int)) (some (j : Int)) = (xs.take j).drop i := by
  unfold cutV
  rw [HT.sIx_nat, HT.sIx_nat]
  apply List.ext_getElem?
  intro n
  simp only [List.getElem?_take, List.getElem?_drop]
  by_cases c1 : n < j - i
  · have c2 : i + n < j := by omega
    rw [if_pos c2]
    by_cases c3 : i ≤ xs.length
    · rw [Nat.min_eq_left c3]
      by_cases c4 : n < min j xs.length - i
      · rw [if_pos c4]
      · rw [if_neg c4]
        exact (List.getElem?_eq_none (by omega)).symm
    · rw [if_neg (by omega)]
      exact (List.getElem?_eq_none (by omega)).symm
  · rw [if_neg (by omega), if_neg (by omega)]
/-! ### the bits of words -/
theorem land_step (a b : Nat) : a &&& b = 2 * ((a / 2) &&& (b / 2)) + (if a % 2 = 1 ∧ b % 2 = 1 then 1 else 0) := by
  have h1 : (a &&& b) / 2 = a / 2 &&& b / 2 := Nat.and_div_two
  have h2 : (a &&& b) % 2 = 1 ↔ a % 2 = 1 ∧ b % 2 = 1 := Nat.and_mod_two_eq_one
  rw [← h1]
  by_cases h : a % 2 = 1 ∧ b % 2 = 1
  · rw [if_pos h]; have := h2.mpr h; omega
  · rw [if_neg h]; have : ¬ (a &&& b) % 2 = 1 := fun q => h (h2.mp q); omega
def bsN : Nat → Nat → Nat → Nat
  | 0, _, _ => 0
  | k + 1, a, b => 2 * bsN k (a / 2) (b / 2) + (if a % 2 = 1 ∧ b % 2 = 1 then 1 else 0)
theorem land_bsN : ∀ (k a b : Nat), a < 2 ^ k → a &&& b = bsN k a b
  | 0, a, b, h => by
    have e : a = 0 := by simpa using h
    subst e; simp [bsN]
  | k + 1, a, b, h => by
    rw [land_step, bsN, land_bsN k (a / 2) (b / 2) (by rw [Nat.pow_succ] at h; omega)]
def marks10 : List Int := [1, 2, 4, 8, 16, 32, 64, 128, 256, 512]
theorem sum_filter (p : Int → Bool) : ∀ l : List Int, (l.filter p).sum = (l.map fun x => if p x = true then x else 0).sum
  | [] => rfl
  | x :: l => by
    rw [List.filter_cons, List.map_cons, List.sum_cons, ← sum_filter p l]
    by_cases h : p x = true
    · rw [if_pos h, if_pos h, List.sum_cons]
    · rw [if_neg h, if_neg h]; omega
theorem if_up (d : Nat) (x y : Int) (hx : 0 ≤ x) (hy : 0 ≤ y) (hd : 0 < d) : (if (decide (x / (d : Int) % 2 = 1) && decide (y / (d : Int) % 2 = 1)) = true then (d : Int) else 0) = (d : Int) * ((if x.toNat / d % 2 = 1 ∧ y.toNat / d % 2 = 1 then 1 else 0 : Nat) : Int) := by
  obtain ⟨a, rfl⟩ := Int.eq_ofNat_of_zero_le hx
  obtain ⟨b, rfl⟩ := Int.eq_ofNat_of_zero_le hy
  have e1 : ((a : Int) / (d : Int) % 2 = 1) ↔ (a / d % 2 = 1) := by
    rw [← Int.natCast_ediv]; omega
  have e2 : ((b : Int) / (d : Int) % 2 = 1) ↔ (b / d % 2 = 1) := by
    rw [← Int.natCast_ediv]; omega
  simp only [Int.toNat_natCast, Bool.and_eq_true, decide_eq_true_eq, e1, e2]
  split <;> simp
theorem and_marks {x y : Int} (h0 : 0 ≤ x) (h1 : x < 1024) (h2 : 0 ≤ y) : Builtin.bitAnd x y = (marks10.filter fun b => decide (x / b % 2 = 1) && decide (y / b % 2 = 1)).sum := by
  have e : Builtin.bitAnd x y = ((x.toNat &&& y.toNat : Nat) : Int) := by simp [Builtin.bitAnd, h0, h2]
  rw [e, land_bsN 10 x.toNat y.toNat (by show x.toNat < 1024; omega), sum_filter]
  have u := fun (d : Nat) (hd : 0 < d) => if_up d x y h0 h2 hd
  have l : (marks10.map fun b => if (decide (x / b % 2 = 1) && decide (y / b % 2 = 1)) = true then b else 0).sum =
      (1 : Int) * ((if x.toNat / 1 % 2 = 1 ∧ y.toNat / 1 % 2 = 1 then 1 else 0 : Nat) : Int) + (2 * ((if x.toNat / 2 % 2 = 1 ∧ y.toNat / 2 % 2 = 1 then 1 else 0 : Nat) : Int) + (4 * ((if x.toNat / 4 % 2 = 1 ∧ y.toNat / 4 % 2 = 1 then 1 else 0 : Nat) : Int) + (8 * ((if x.toNat / 8 % 2 = 1 ∧ y.toNat / 8 % 2 = 1 then 1 else 0 : Nat) : Int) + (16 * ((if x.toNat / 16 % 2 = 1 ∧ y.toNat / 16 % 2 = 1 then 1 else 0 : Nat) : Int) + (32 * ((if x.toNat / 32 % 2 = 1 ∧ y.toNat / 32 % 2 = 1 then 1 else 0 : Nat) : Int) + (64 * ((if x.toNat / 64 % 2 = 1 ∧ y.toNat / 64 % 2 = 1 then 1 else 0 : Nat) : Int) + (128 * ((if x.toNat / 128 % 2 = 1 ∧ y.toNat / 128 % 2 = 1 then 1 else 0 : Nat) : Int) + (256 * ((if x.toNat / 256 % 2 = 1 ∧ y.toNat / 256 % 2 = 1 then 1 else 0 : Nat) : Int) + (512 * ((if x.toNat / 512 % 2 = 1 ∧ y.toNat / 512 % 2 = 1 then 1 else 0 : Nat) : Int) + 0))))))))) := by
    show _ + (_ + (_ + (_ + (_ + (_ + (_ + (_ + (_ + (_ + (0 : Int)))))))))) = _
    have v1 := u 1 (by decide); have v2 := u 2 (by decide); have v3 := u 4 (by decide); have v4 := u 8 (by decide); have v5 := u 16 (by decide)
    have v6 := u 32 (by decide); have v7 := u 64 (by decide); have v8 := u 128 (by decide); have v9 := u 256 (by decide); have v10 := u 512 (by decide)
    exact congr (congrArg HAdd.hAdd v1) (congr (congrArg HAdd.hAdd v2) (congr (congrArg HAdd.hAdd v3) (congr (congrArg HAdd.hAdd v4) (congr (congrArg HAdd.hAdd v5) (congr (congrArg HAdd.hAdd v6) (congr (congrArg HAdd.hAdd v7) (congr (congrArg HAdd.hAdd v8) (congr (congrArg HAdd.hAdd v9) (congr (congrArg HAdd.hAdd v10) rfl)))))))))
  rw [l]
  simp only [bsN, Nat.div_div_eq_div_mul, Nat.reduceMul, Nat.div_one]
  omega
/-! ### words stay words -/
theorem wf_skip {m : Mc} (h : WfM m) : WfM (skipM m) := ⟨⟨h.len, by show 0 ≤ (m.pc + 1) % 64; omega, by show (m.pc + 1) % 64 < 64; omega⟩, h.cell, h.tlo, h.thi, h.bit⟩
theorem getC_in {m : Mc} (h : WfM m) (i : Int) : 0 ≤ getC m i ∧ getC m i < 1024 := menu_in (fun x => 0 ≤ x ∧ x < 1024) h.cell (by decide) _
theorem wf_added {m : Mc} (h : WfM m) {n : Int} (n0 : 0 ≤ n) (n1 : n < 1024) : WfM (addedM m n) := by
  have t0 := h.tlo; have t1 := h.thi; have b := h.bit
  unfold addedM; split
  · exact ⟨⟨h.len, h.lo, h.hi⟩, h.cell, by show 0 ≤ m.total + n - 1024; omega, by show m.total + n - 1024 < 1024; omega, by show 1 - m.mark = 0 ∨ 1 - m.mark = 1; omega⟩
  · exact ⟨⟨h.len, h.lo, h.hi⟩, h.cell, by show 0 ≤ m.total + n; omega, by show m.total + n < 1024; omega, b⟩
theorem wf_set {m : Mc} (h : WfM m) {i v : Int} (v0 : 0 ≤ v) (v1 : v < 1024) : WfM (setC m i v) := ⟨⟨by show (m.cells.set _ _).length = 64; rw [List.length_set]; exact h.len, h.lo, h.hi⟩, mem_set_in h.cell ⟨v0, v1⟩, h.tlo, h.thi, h.bit⟩
theorem wf_rise {m : Mc} (h : WfM m) (i : Int) : WfM (riseM m i) := wf_set h (by omega) (by omega)
theorem wf_aim {m : Mc} (h : WfM m) (f p : Int) : WfM (aimP m f p) := by
  unfold aimP; split
  · exact h
  · split
    · exact wf_rise h p
    · exact h
theorem bitAnd_in {x y : Int} (h0 : 0 ≤ x) (h1 : x < 1024) (h2 : 0 ≤ y) : 0 ≤ Builtin.bitAnd x y ∧ Builtin.bitAnd x y < 1024 := by
  have e : Builtin.bitAnd x y = ((x.toNat &&& y.toNat : Nat) : Int) := by simp [Builtin.bitAnd, h0, h2]
  have : x.toNat &&& y.toNat ≤ x.toNat := Nat.and_le_left
  rw [e]; omega
theorem wf_moved {m : Mc} (h : WfM m) {k p : Int} (p0 : 0 ≤ p) (p1 : p < 64) : WfM (movedM m k p) := by
  have g := getC_in h p
  have t0 := h.tlo; have t1 := h.thi
  unfold movedM
  split
  · have b := bitAnd_in t0 t1 g.1
    exact ⟨⟨h.len, h.lo, h.hi⟩, h.cell, b.1, b.2, h.bit⟩
  split
  · exact wf_added h g.1 g.2
  split
  · split
    · exact wf_skip (wf_rise h p)
    · exact wf_rise h p
  split
  · have w := wf_set h (i := p) t0 t1
    exact ⟨⟨w.len, w.lo, w.hi⟩, w.cell, by show (0 : Int) ≤ 0; omega, by show (0 : Int) < 1024; omega, w.bit⟩
  split
  · have w := wf_set h (i := p) (v := m.pc) h.lo (by have := h.hi; omega)
    exact ⟨⟨w.len, by show 0 ≤ (p + 1) % 64; omega, by show (p + 1) % 64 < 64; omega⟩, w.cell, w.tlo, w.thi, w.bit⟩
  · exact ⟨⟨h.len, p0, p1⟩, h.cell, t0, t1, h.bit⟩
theorem wf_total {m : Mc} (h : WfM m) {t : Int} (t0 : 0 ≤ t) (t1 : t < 1024) : WfM { m with total := t } := ⟨⟨h.len, h.lo, h.hi⟩, h.cell, t0, t1, h.bit⟩
theorem wf_mark {m : Mc} (h : WfM m) {t : Int} (b : t = 0 ∨ t = 1) : WfM { m with mark := t } := ⟨⟨h.len, h.lo, h.hi⟩, h.cell, h.tlo, h.thi, b⟩
theorem wf_rolled {m : Mc} (h : WfM m) (b : Int) : WfM (rolledM m b) := by
  have t0 := h.tlo; have t1 := h.thi; have k := h.bit
  unfold rolledM rolled1
  by_cases h1 : b % 4 = 1
  · have h2 : ¬ b % 4 = 2 := by omega
    rw [if_pos h1, if_neg h2]
    exact ⟨⟨h.len, h.lo, h.hi⟩, h.cell, by show 0 ≤ m.total / 2 + 512 * m.mark; omega, by show m.total / 2 + 512 * m.mark < 1024; omega, by show m.total % 2 = 0 ∨ m.total % 2 = 1; omega⟩
  · rw [if_neg h1]
    split
    · exact ⟨⟨h.len, h.lo, h.hi⟩, h.cell, by show 0 ≤ 2 * m.total % 1024 + m.mark; omega, by show 2 * m.total % 1024 + m.mark < 1024; omega, by show m.total / 512 = 0 ∨ m.total / 512 = 1; omega⟩
    · exact h
theorem wf_chg1 {m : Mc} (h : WfM m) (b : Int) : WfM (chg1 m b) := by unfold chg1; split <;> first | exact wf_total h (by decide) (by decide) | exact h
theorem wf_chg2 {m : Mc} (h : WfM m) (b : Int) : WfM (chg2 m b) := by
  have t0 := h.tlo; have t1 := h.thi
  unfold chg2; split <;> first | exact wf_total h (by omega) (by omega) | exact h
theorem wf_chg3 {m : Mc} (h : WfM m) (b : Int) : WfM (chg3 m b) := by
  have k := h.bit
  unfold chg3; split <;> first | exact wf_mark h (by omega) | exact h
theorem wf_chg4 {m : Mc} (h : WfM m) (b : Int) : WfM (chg4 m b) := by unfold chg4; split <;> first | exact wf_added h (by decide) (by decide) | exact h
theorem wf_changed {m : Mc} (h : WfM m) (b : Int) : WfM (changedM m b) := wf_rolled (wf_chg4 (wf_chg3 (wf_chg2 (wf_chg1 h b) b) b) b) b
theorem wf_tested {m : Mc} (h : WfM m) (b : Int) : WfM (testedM m b) := by
  have h1 : WfM (tst1 m b) := by unfold tst1; split <;> first | exact wf_skip h | exact h
  have h2 : WfM (tst2 (tst1 m b) b) := by unfold tst2; split <;> first | exact wf_total h1 (by decide) (by decide) | exact h1
  unfold testedM tst3; split <;> first | exact wf_mark h2 (.inl rfl) | exact h2
theorem wf_deed {m : Mc} (h : WfM m) : WfM (deedM m) := by
  have s := wf_skip h
  have g := getC_in h m.pc
  unfold deedM
  dsimp only
  split
  · exact wf_moved (wf_aim s _ _) (aimV_lo (by omega)) (aimV_hi (by omega))
  split
  · exact s
  split
  · exact wf_changed s _
  · exact wf_tested s _
/-! ### the machine as a dict, done by hand -/
def dkv (l : Addr) (m : Mc) (rest : List (Key × V)) : List (Key × V) := (Sum.inr "cells", .ref l) :: (Sum.inr "total", .int m.total) :: (Sum.inr "mark", .int m.mark) :: (Sum.inr "at", .int m.pc) :: rest
def dput (H : Hp) (d l : Addr) (m : Mc) (rest : List (Key × V)) : Hp := upd (upd H l (.lst (m.cells.map V.int))) d (.dK (dkv l m rest))
/-- what may stand behind -/
structure Rk (rest : List (Key × V)) : Prop where
  no : ∀ kv ∈ rest, kv.1 ≠ (Sum.inr "cells" : Key) ∧ kv.1 ≠ (Sum.inr "total" : Key) ∧ kv.1 ≠ (Sum.inr "mark" : Key) ∧ kv.1 ≠ (Sum.inr "at" : Key)
  few : rest.length ≤ 100
theorem key_ne {x y : Str} (h : ¬ x = y) : ¬ (Sum.inr x : Key) = Sum.inr y := fun e => h (Sum.inr.inj e)
theorem map_put {rest : List (Key × V)} {k : Key} {v : V} (h : ∀ kv ∈ rest, kv.1 ≠ k) : rest.map (fun kv => if kv.1 = k then (kv.1, v) else kv) = rest := by
  conv => rhs; rw [← List.map_id rest]
  exact List.map_congr_left fun kv hk => if_neg (h kv hk)
theorem putK_mid {pre post : List (Key × V)} {k : Key} {v0 v : V} (h1 : ∀ kv ∈ pre, kv.1 ≠ k) (h2 : ∀ kv ∈ post, kv.1 ≠ k) : putK (pre ++ (k, v0) :: post) k v = pre ++ (k, v) :: post := by
  unfold putK
  rw [if_pos (by simp), List.map_append, List.map_cons, map_put h1, map_put h2, if_pos rfl]
theorem valV_mid {pre post : List (Key × V)} {k : Key} {v0 : V} (h1 : ∀ kv ∈ pre, kv.1 ≠ k) : valV (pre ++ (k, v0) :: post) k = some v0 := by
  induction pre with
  | nil => exact valV_pos rfl
  | cons p r ih => rw [List.cons_append, valV_neg (h1 p List.mem_cons_self)]; exact ih fun kv hk => h1 kv (List.mem_cons_of_mem _ hk)
section
variable {σ : L2.St} {H : Hp} {K : PySem.W.Frag} {d l a p : Addr} {m m' : Mc} {rest : List (Key × V)} {ta tv ti td : TE} {v : V} {x : Str} {kvs : List (Key × V)} {N : L2.St → Hp → Prop} {R : VK} {B C' : L2.St → Hp → Prop} {tz : TS} {z i : Int}
theorem dput_d : dput H d l m rest d = some (.dK (dkv l m rest)) := upd_same
theorem dput_l (h : l ≠ d) : dput H d l m rest l = some (.lst (m.cells.map V.int)) := by unfold dput; rw [upd_ne h, upd_same]
theorem dput_ne (h1 : a ≠ d) (h2 : a ≠ l) : dput H d l m rest a = H a := by unfold dput; rw [upd_ne h1, upd_ne h2]
theorem dput_dk {r' : List (Key × V)} (h : m'.cells = m.cells) : upd (dput H d l m rest) d (.dK (dkv l m' r')) = dput H d l m' r' := by unfold dput; rw [h, upd_upd]
theorem dput_lst (h : l ≠ d) {cs : List Int} : upd (dput H d l m rest) l (.lst (cs.map V.int)) = dput H d l { m with cells := cs } rest := by
  funext b; unfold dput upd
  by_cases h2 : b = l
  · subst h2; rw [if_pos rfl, if_neg h, if_pos rfl]
  · rw [if_neg h2]
    by_cases h1 : b = d
    · rw [if_pos h1, if_pos h1]; rfl
    · rw [if_neg h1, if_neg h2, if_neg h1, if_neg h2]
theorem dput_id (h1 : H d = some (.dK (dkv l m rest))) (h2 : H l = some (.lst (m.cells.map V.int))) : dput H d l m rest = H := by
  funext b; unfold dput upd
  by_cases e1 : b = d
  · subst e1; rw [if_pos rfl, h1]
  · rw [if_neg e1]
    by_cases e2 : b = l
    · subst e2; rw [if_pos rfl, h2]
    · rw [if_neg e2]
theorem same_dput {H0 H' : Hp} (e : Same (dput H0 d l m rest) H') (h : l ≠ d) : dput H' d l m rest = H' := dput_id (e _ _ dput_d) (e _ _ (dput_l h))
theorem dput_dput : dput (dput H d l m rest) d l m' rest = dput H d l m' rest := by
  funext b; unfold dput upd
  by_cases h1 : b = d <;> by_cases h2 : b = l <;> simp [h1, h2]
theorem dput_upd {q : Addr} {o : HO} (h1 : q ≠ d) (h2 : q ≠ l) : upd (dput H d l m rest) q o = dput (upd H q o) d l m rest := by
  funext b; unfold dput upd
  by_cases e : b = q
  · subst e; simp [h1, h2]
  · simp [e]
theorem dput_same {H' : Hp} (h : Same H H') : Same (dput H d l m rest) (dput H' d l m rest) := fun b o e => by
  unfold dput upd at *
  by_cases h1 : b = d
  · simpa [h1] using e
  · by_cases h2 : b = l
    · simpa [h1, h2] using e
    · simp [h1, h2] at *; exact h b o e
theorem smD {H' : Hp} (e : Same H H') (h1 : H d = none) (h2 : H l = none) : Same H (dput H' d l m rest) := fun b u q => by rw [dput_ne (ne_of_none q h1) (ne_of_none q h2)]; exact e b u q
theorem v_dget (h : Val td σ H (.ref d)) (hd : H d = some (.dK kvs)) (hk : valV kvs (Sum.inr x : Key) = some v) : Val (tDGet td (tC (.str x))) σ H v := fun Q q =>
  h _ ⟨d, v, rfl, by rw [← hk]; exact DGet.k (k := Sum.inr x) hd, q⟩
theorem s_dput (hv : Val tv σ H v) (h : Val td σ H (.ref d)) (hd : H d = some (.dK kvs)) (hl : kvs.length ≤ 1000) (q : N σ (upd H d (.dK (putK kvs (Sum.inr x : Key) v)))) : sDPut td (tC (.str x)) tv ⟨N, R, B, C'⟩ σ H :=
  hv _ (h _ ⟨d, _, rfl, DPut.k (k := Sum.inr x) hd (Nat.lt_of_le_of_lt hl (by decide)), q⟩)
theorem kne1 : ¬ ("cells" : Str) = "total" := by decide +kernel
theorem kne2 : ¬ ("cells" : Str) = "mark" := by decide +kernel
theorem kne3 : ¬ ("cells" : Str) = "at" := by decide +kernel
theorem kne4 : ¬ ("total" : Str) = "mark" := by decide +kernel
theorem kne5 : ¬ ("total" : Str) = "at" := by decide +kernel
theorem kne6 : ¬ ("mark" : Str) = "at" := by decide +kernel
theorem dk_cells : valV (dkv l m rest) (Sum.inr "cells" : Key) = some (.ref l) := valV_pos rfl
theorem dk_total : valV (dkv l m rest) (Sum.inr "total" : Key) = some (.int m.total) := by
  unfold dkv; rw [valV_neg (key_ne kne1)]; exact valV_pos rfl
theorem dk_mark : valV (dkv l m rest) (Sum.inr "mark" : Key) = some (.int m.mark) := by
  unfold dkv; rw [valV_neg (key_ne kne2), valV_neg (key_ne kne4)]; exact valV_pos rfl
theorem dk_at : valV (dkv l m rest) (Sum.inr "at" : Key) = some (.int m.pc) := by
  unfold dkv; rw [valV_neg (key_ne kne3), valV_neg (key_ne kne5), valV_neg (key_ne kne6)]; exact valV_pos rfl
theorem dk_rest {k : Key} (h1 : ¬ (Sum.inr "cells" : Key) = k) (h2 : ¬ (Sum.inr "total" : Key) = k) (h3 : ¬ (Sum.inr "mark" : Key) = k) (h4 : ¬ (Sum.inr "at" : Key) = k) : valV (dkv l m rest) k = valV rest k := by
  unfold dkv; rw [valV_neg h1, valV_neg h2, valV_neg h3, valV_neg h4]
theorem dp_total (hr : Rk rest) : putK (dkv l m rest) (Sum.inr "total" : Key) (.int z) = dkv l { m with total := z } rest :=
  putK_mid (pre := [(Sum.inr "cells", .ref l)]) (by intro kv hk; rw [List.mem_singleton.mp hk]; exact key_ne kne1) (by
    intro kv hk
    rcases List.mem_cons.mp hk with rfl | hk
    · exact fun e => kne4 (Sum.inr.inj e).symm
    rcases List.mem_cons.mp hk with rfl | hk
    · exact fun e => kne5 (Sum.inr.inj e).symm
    exact (hr.no kv hk).2.1)
theorem dp_mark (hr : Rk rest) : putK (dkv l m rest) (Sum.inr "mark" : Key) (.int z) = dkv l { m with mark := z } rest :=
  putK_mid (pre := [(Sum.inr "cells", .ref l), (Sum.inr "total", .int m.total)]) (by
    intro kv hk
    rcases List.mem_cons.mp hk with rfl | hk
    · exact key_ne kne2
    rw [List.mem_singleton.mp hk]; exact key_ne kne4) (by
    intro kv hk
    rcases List.mem_cons.mp hk with rfl | hk
    · exact fun e => kne6 (Sum.inr.inj e).symm
    exact (hr.no kv hk).2.2.1)
theorem dp_at (hr : Rk rest) : putK (dkv l m rest) (Sum.inr "at" : Key) (.int z) = dkv l { m with pc := z } rest :=
  putK_mid (pre := [(Sum.inr "cells", .ref l), (Sum.inr "total", .int m.total), (Sum.inr "mark", .int m.mark)]) (by
    intro kv hk
    rcases List.mem_cons.mp hk with rfl | hk
    · exact key_ne kne3
    rcases List.mem_cons.mp hk with rfl | hk
    · exact key_ne kne5
    rw [List.mem_singleton.mp hk]; exact key_ne kne6) (fun kv hk => (hr.no kv hk).2.2.2)
theorem dkv_len (hr : Rk rest) : (dkv l m rest).length ≤ 1000 := by have := hr.few; unfold dkv; simp; omega
theorem vd_cells (h : Val ta σ (dput H d l m rest) (.ref d)) : Val (tDGet ta (tC (.str "cells"))) σ (dput H d l m rest) (.ref l) := v_dget h dput_d dk_cells
theorem vd_total (h : Val ta σ (dput H d l m rest) (.ref d)) : Val (tDGet ta (tC (.str "total"))) σ (dput H d l m rest) (.int m.total) := v_dget h dput_d dk_total
theorem vd_mark (h : Val ta σ (dput H d l m rest) (.ref d)) : Val (tDGet ta (tC (.str "mark"))) σ (dput H d l m rest) (.int m.mark) := v_dget h dput_d dk_mark
theorem vd_at (h : Val ta σ (dput H d l m rest) (.ref d)) : Val (tDGet ta (tC (.str "at"))) σ (dput H d l m rest) (.int m.pc) := v_dget h dput_d dk_at
theorem vd_item (hne : l ≠ d) (h : Val ta σ (dput H d l m rest) (.ref l)) (hi : Val ti σ (dput H d l m rest) (.int i)) (h0 : 0 ≤ i) (h1 : i < (m.cells.length : Int)) : Val (tOp (rIxL K) ta ti) σ (dput H d l m rest) (.int (getC m i)) :=
  v_ixLI h hi (SqL.of (dput_l hne)) h0 h1
theorem sd_total (hr : Rk rest) (hv : Val tv σ (dput H d l m rest) (.int z)) (ha : Val ta σ (dput H d l m rest) (.ref d)) (q : N σ (dput H d l { m with total := z } rest)) : sDPut ta (tC (.str "total")) tv ⟨N, R, B, C'⟩ σ (dput H d l m rest) :=
  s_dput hv ha dput_d (dkv_len hr) (by rw [dp_total hr, dput_dk (m := m) (m' := { m with total := z }) rfl]; exact q)
theorem sd_mark (hr : Rk rest) (hv : Val tv σ (dput H d l m rest) (.int z)) (ha : Val ta σ (dput H d l m rest) (.ref d)) (q : N σ (dput H d l { m with mark := z } rest)) : sDPut ta (tC (.str "mark")) tv ⟨N, R, B, C'⟩ σ (dput H d l m rest) :=
  s_dput hv ha dput_d (dkv_len hr) (by rw [dp_mark hr, dput_dk (m := m) (m' := { m with mark := z }) rfl]; exact q)
theorem sd_at (hr : Rk rest) (hv : Val tv σ (dput H d l m rest) (.int z)) (ha : Val ta σ (dput H d l m rest) (.ref d)) (q : N σ (dput H d l { m with pc := z } rest)) : sDPut ta (tC (.str "at")) tv ⟨N, R, B, C'⟩ σ (dput H d l m rest) :=
  s_dput hv ha dput_d (dkv_len hr) (by rw [dp_at hr, dput_dk (m := m) (m' := { m with pc := z }) rfl]; exact q)
theorem sd_item (hne : l ≠ d) (hv : Val tv σ (dput H d l m rest) (.int z)) (ha : Val ta σ (dput H d l m rest) (.ref l)) (hi : Val ti σ (dput H d l m rest) (.int i)) (h0 : 0 ≤ i) (h1 : i < (m.cells.length : Int))
    (q : N σ (dput H d l (setC m i z) rest)) : tAsg tv (gSub ta ti rSetL) ⟨N, R, B, C'⟩ σ (dput H d l m rest) :=
  hv _ (ha _ (hi _ ⟨l, _, i, i.toNat, rfl, rfl, dput_l hne, ixN_int h0 (by rw [List.length_map]; exact h1), by
    rw [← List.map_set, dput_lst hne]; exact q⟩))
theorem qd_total (hr : Rk rest) (hv : Val tv σ (dput H d l m rest) (.int z)) (ha : Val ta σ (dput H d l m rest) (.ref d)) (q : tz ⟨N, R, B, C'⟩ σ (dput H d l { m with total := z } rest)) : tSeq (sDPut ta (tC (.str "total")) tv) tz ⟨N, R, B, C'⟩ σ (dput H d l m rest) := sd_total (N := tz ⟨N, R, B, C'⟩) (B := B) (C' := C') hr hv ha q
theorem qd_mark (hr : Rk rest) (hv : Val tv σ (dput H d l m rest) (.int z)) (ha : Val ta σ (dput H d l m rest) (.ref d)) (q : tz ⟨N, R, B, C'⟩ σ (dput H d l { m with mark := z } rest)) : tSeq (sDPut ta (tC (.str "mark")) tv) tz ⟨N, R, B, C'⟩ σ (dput H d l m rest) := sd_mark (N := tz ⟨N, R, B, C'⟩) (B := B) (C' := C') hr hv ha q
theorem qd_at (hr : Rk rest) (hv : Val tv σ (dput H d l m rest) (.int z)) (ha : Val ta σ (dput H d l m rest) (.ref d)) (q : tz ⟨N, R, B, C'⟩ σ (dput H d l { m with pc := z } rest)) : tSeq (sDPut ta (tC (.str "at")) tv) tz ⟨N, R, B, C'⟩ σ (dput H d l m rest) := sd_at (N := tz ⟨N, R, B, C'⟩) (B := B) (C' := C') hr hv ha q
theorem qd_item (hne : l ≠ d) (hv : Val tv σ (dput H d l m rest) (.int z)) (ha : Val ta σ (dput H d l m rest) (.ref l)) (hi : Val ti σ (dput H d l m rest) (.int i)) (h0 : 0 ≤ i) (h1 : i < (m.cells.length : Int))
    (q : tz ⟨N, R, B, C'⟩ σ (dput H d l (setC m i z) rest)) : tSeq (tAsg tv (gSub ta ti rSetL)) tz ⟨N, R, B, C'⟩ σ (dput H d l m rest) := sd_item (N := tz ⟨N, R, B, C'⟩) (B := B) (C' := C') hne hv ha hi h0 h1 q
end
theorem nls_lcNTt {σ : L2.St} {H : Hp} {K : PySem.W.Frag} {te tl : TE} {tt : TT} {xs ys : List V} {k : Nat} {ws : List Nat} (p : V → Bool) (f : V → V) (hy : (xs.filter p).map f = ys) (h : NewT tl σ H xs) (hn : xs.length ≤ 100000) (hw : ∀ x, wipe ((wipe σ ws).set k (some x)) ws = wipe σ ws)
    (ht : ∀ (m : Nat) (x : V) (H' : Hp), Same H H' → xs[m]? = some x → Ans tt ((wipe σ ws).set k (some x)) H' (p x))
    (he : ∀ (m : Nat) (x : V) (H' : Hp), Same H H' → xs[m]? = some x → p x = true → Val te ((wipe σ ws).set k (some x)) H' (f x)) : NewLs (tLc (iTup K tl) (gName k) tt te ws) σ H ys := fun Q q =>
  h _ fun P hP => ⟨P, rfl, ⟨xs, SqT.of upd_same⟩, fun D hD => lc_tup (xs := xs) (fun m H' => Same H H' ∧ H' P = some (.tup xs) ∧ H' D = some (.lst (((xs.take m).filter p).map f))) ⟨(smN hP).trans (smN hD), smN hD _ _ upd_same, upd_same⟩ (fun m H' _ e => SqT.of e.2.1) (fun m x H' hm e => by
    obtain ⟨sm, hPP, hl⟩ := e
    have hD0 : H D = none := (smN hP).free hD
    have nPD : P ≠ D := ne_of_none upd_same hD
    have hlt : m < xs.length := (List.getElem?_eq_some_iff.mp hm).1
    refine ⟨hw _, ht m x _ sm hm _ ?_⟩
    rw [filter_take hm]
    cases hp : p x with
    | true =>
      refine iteT (he m x _ sm hm hp _ ⟨_, hl, ?_, smM sm hD0, by rw [upd_ne nPD]; exact hPP, by rw [upd_same]; rfl⟩)
      rw [List.length_map]
      exact Nat.lt_of_lt_of_le (Nat.lt_of_le_of_lt (List.length_filter_le _ _) (show (xs.take m).length < 100000 by rw [List.length_take]; omega)) (by decide)
    | false => exact iteF ⟨sm, hPP, hl⟩) (fun H' e => by
      have e3 := e.2.2
      rw [List.take_length, hy] at e3
      exact q D H' ((smN hP).free hD) e.1 e3)⟩
theorem marks_two (x y : Int) : (marks10.filter fun b => decide (x / b % 2 + y / b % 2 = 2)) = marks10.filter fun b => decide (x / b % 2 = 1) && decide (y / b % 2 = 1) := by
  congr 1; funext b
  have h1 : 0 ≤ x / b % 2 ∧ x / b % 2 < 2 := ⟨Int.emod_nonneg _ (by decide), Int.emod_lt_of_pos _ (by decide)⟩
  have h2 : 0 ≤ y / b % 2 ∧ y / b % 2 < 2 := ⟨Int.emod_nonneg _ (by decide), Int.emod_lt_of_pos _ (by decide)⟩
  generalize x / b % 2 = u at *
  generalize y / b % 2 = v at *
  by_cases e1 : u = 1 <;> by_cases e2 : v = 1 <;> simp [e1, e2] <;> omega
/-! promises -/
def HAt (H : Hp) (H0 : Hp) (d l : Addr) (m : Mc) (rest : List (Key × V)) : Prop := l ≠ d ∧ Rk rest ∧ WfM m ∧ H = dput H0 d l m rest
def spHMore : Sp := fun vs H Q _ => ∃ (H0 : Hp) (d l : Addr) (m : Mc) (rest : List (Key × V)) (n : Int), vs = [.ref d, .int n] ∧ HAt H H0 d l m rest ∧ 0 ≤ n ∧ n < 1024 ∧ Q .non (dput H0 d l (addedM m n) rest)
def spHPast : Sp := fun vs H Q _ => ∃ (H0 : Hp) (d l : Addr) (m : Mc) (rest : List (Key × V)), vs = [.ref d] ∧ l ≠ d ∧ Rk rest ∧ H = dput H0 d l m rest ∧ Q .non (dput H0 d l (skipM m) rest)
def spHAim : Sp := fun vs H Q _ => ∃ (H0 : Hp) (d l : Addr) (m : Mc) (rest : List (Key × V)) (far place : Int), vs = [.ref d, .int far, .int place] ∧ HAt H H0 d l m rest ∧ 0 ≤ place ∧ place < 64 ∧ ∀ H1, Same H0 H1 → Q (.int (aimV m far place)) (dput H1 d l (aimP m far place) rest)
def spHMove : Sp := fun vs H Q _ => ∃ (H0 : Hp) (d l : Addr) (m : Mc) (rest : List (Key × V)) (kind place : Int), vs = [.ref d, .int kind, .int place] ∧ HAt H H0 d l m rest ∧ 0 ≤ kind ∧ kind ≤ 5 ∧ 0 ≤ place ∧ place < 64 ∧ ∀ H1, Same H0 H1 → Q .non (dput H1 d l (movedM m kind place) rest)
def spHBits (f : Mc → Int → Mc) : Sp := fun vs H Q _ => ∃ (H0 : Hp) (d l : Addr) (m : Mc) (rest : List (Key × V)) (bits : Int), vs = [.ref d, .int bits] ∧ HAt H H0 d l m rest ∧ 0 ≤ bits ∧ bits < 64 ∧ Q .non (dput H0 d l (f m bits) rest)
def spHDeed : Sp := fun vs H Q _ => ∃ (H0 : Hp) (d l : Addr) (m : Mc) (rest : List (Key × V)), vs = [.ref d] ∧ HAt H H0 d l m rest ∧ ∀ H1, Same H0 H1 → Q (deedV m) (dput H1 d l (deedM m) rest)
def spHNew (K : PySem.W.Frag) : Sp := fun vs H Q _ => ∃ (a : Addr) (cs : List Int), vs = [.ref a] ∧ SqL K H a (cs.map V.int) ∧ ∀ d l H1, H d = none → H l = none → l ≠ d → Same H H1 → Q (.ref d) (dput H1 d l ⟨cs, 0, 0, 0⟩ [])
section
variable {σ : L2.St} {H H0 : Hp} {ta td te t1 t2 t3 : TE} {N : L2.St → Hp → Prop} {R : VK} {B C' : L2.St → Hp → Prop} {tz : TS} {x y z : V} {s : Str} {d l : Addr} {m : Mc} {rest : List (Key × V)}
theorem x_dput {tv : TE} (h : tv σ H fun v H1 => td σ H1 fun x H2 => (tC (.str s)) σ H2 fun y H3 => ∃ a H4, x = .ref a ∧ DPut H3 a y v H4 ∧ N σ H4) : sDPut td (tC (.str s)) tv ⟨N, R, B, C'⟩ σ H := h
theorem x_qdrop (h : te σ H fun _ H1 => tz ⟨N, R, B, C'⟩ σ H1) : tSeq (tDrop te) tz ⟨N, R, B, C'⟩ σ H := h
theorem x_sdrop (h : te σ H fun _ H1 => N σ H1) : tDrop te ⟨N, R, B, C'⟩ σ H := h
/-- f(a, b, g(..)): the last argument by what it leaves -/
theorem x_call3 {sp : Sp} {Q : VK} (h1 : Val t1 σ H x) (h2 : Val t2 σ H y) (h3 : t3 σ H fun z H1 => sp [x, y, z] H1 Q E0) : tCall sp [] E0 (tCons t1 (tCons t2 (tCons t3 tNil))) σ H Q :=
  h1 _ (h2 _ h3)
/-- below a dput: H with H0's own things at d and l -/
def under (H0 H : Hp) (d l : Addr) : Hp := fun b => if b = d then H0 b else if b = l then H0 b else H b
theorem dput_under : dput (under H0 H d l) d l m rest = dput H d l m rest := by
  funext b; unfold dput upd under
  by_cases h1 : b = d <;> by_cases h2 : b = l <;> simp [h1, h2]
theorem same_under {m0 : Mc} {r0 : List (Key × V)} (sm : Same (dput H0 d l m0 r0) H) : Same H0 (under H0 H d l) := fun b o e => by
  unfold under
  by_cases h1 : b = d
  · rw [if_pos h1]; exact e
  · rw [if_neg h1]
    by_cases h2 : b = l
    · rw [if_pos h2]; exact e
    · rw [if_neg h2]; exact sm _ _ (by rw [dput_ne h1 h2]; exact e)
end
/-! reads by what stands there -/
section
variable {σ : L2.St} {H : Hp} {K : PySem.W.Frag} {C : Addr} {ta : TE} {d l p dx : Addr} {m : Mc} {rest : List (Key × V)}
theorem vf_total (M : MTx K C) (hp : H p = some (.ins C dx (mfs l m))) (h : Val ta σ H (.ref p)) : Val (tFld K ta "total") σ H (.int m.total) := val_fld h hp M.cl M.nTotal mf_total
theorem vf_mark (M : MTx K C) (hp : H p = some (.ins C dx (mfs l m))) (h : Val ta σ H (.ref p)) : Val (tFld K ta "mark") σ H (.int m.mark) := val_fld h hp M.cl M.nMark mf_mark
theorem vf_at (M : MTx K C) (hp : H p = some (.ins C dx (mfs l m))) (h : Val ta σ H (.ref p)) : Val (tFld K ta "at") σ H (.int m.pc) := val_fld h hp M.cl M.nAt mf_at
theorem vf_cells (M : MTx K C) (hp : H p = some (.ins C dx (mfs l m))) (h : Val ta σ H (.ref p)) : Val (tFld K ta "cells") σ H (.ref l) := val_fld h hp M.cl M.nCells mf_cells
theorem ve_total (hd : H d = some (.dK (dkv l m rest))) (h : Val ta σ H (.ref d)) : Val (tDGet ta (tC (.str "total"))) σ H (.int m.total) := v_dget h hd dk_total
theorem ve_mark (hd : H d = some (.dK (dkv l m rest))) (h : Val ta σ H (.ref d)) : Val (tDGet ta (tC (.str "mark"))) σ H (.int m.mark) := v_dget h hd dk_mark
theorem ve_at (hd : H d = some (.dK (dkv l m rest))) (h : Val ta σ H (.ref d)) : Val (tDGet ta (tC (.str "at"))) σ H (.int m.pc) := v_dget h hd dk_at
theorem ve_cells (hd : H d = some (.dK (dkv l m rest))) (h : Val ta σ H (.ref d)) : Val (tDGet ta (tC (.str "cells"))) σ H (.ref l) := v_dget h hd dk_cells
theorem rk_nil : Rk [] := ⟨fun kv h => (nomatch h), Nat.zero_le _⟩
theorem scal_deed (m : Mc) : scal (deedV m) (deedV m) = true := by unfold deedV; split <;> rfl
/-- a machine and a dict that tell the same machine, apart -/
structure Both (C : Addr) (H : Hp) (x dx l d l0 : Addr) (m : Mc) (rest : List (Key × V)) : Prop where
  hx : H x = some (.ins C dx (mfs l m))
  hl : H l = some (.lst (m.cells.map V.int))
  hd : H d = some (.dK (dkv l0 m rest))
  h0 : H l0 = some (.lst (m.cells.map V.int))
  nlx : l ≠ x
  n0d : l0 ≠ d
  n0l : l0 ≠ l
theorem Both.nxd {C : Addr} {H : Hp} {x dx l d l0 : Addr} {m : Mc} {rest : List (Key × V)} (b : Both C H x dx l d l0 m rest) : d ≠ x ∧ d ≠ l ∧ l0 ≠ x := ⟨ne_of b.hd b.hx (fun q => nomatch q), ne_of b.hd b.hl (fun q => nomatch q), ne_of b.h0 b.hx (fun q => nomatch q)⟩
/-- behind a deed of the one and of the other -/
theorem Both.next {C : Addr} {H H1 H2 : Hp} {x dx l d l0 : Addr} {m m' : Mc} {rest : List (Key × V)} (b : Both C H x dx l d l0 m rest) (s1 : Same H H1) (s2 : Same (mput C H1 x dx l m') H2) : Both C (dput H2 d l0 m' rest) x dx l d l0 m' rest := by
  obtain ⟨n1, n2, n3⟩ := b.nxd
  exact ⟨by rw [dput_ne n1.symm n3.symm]; exact s2 _ _ mput_p, by rw [dput_ne n2.symm b.n0l.symm]; exact s2 _ _ (mput_l b.nlx), dput_d, dput_l b.n0d, b.nlx, b.n0d, b.n0l⟩
/-- the dict's side, between the two deeds -/
theorem Both.mid {C : Addr} {H H1 : Hp} {x dx l d l0 : Addr} {m m' : Mc} {rest : List (Key × V)} (b : Both C H x dx l d l0 m rest) (s1 : Same H H1) : mput C H1 x dx l m' d = some (.dK (dkv l0 m rest)) ∧ mput C H1 x dx l m' l0 = some (.lst (m.cells.map V.int)) := by
  obtain ⟨n1, n2, n3⟩ := b.nxd
  exact ⟨by rw [mput_ne n1 n2]; exact s1 _ _ b.hd, by rw [mput_ne n3 b.n0l]; exact s1 _ _ b.h0⟩
theorem Both.keep {C : Addr} {H H1 H2 : Hp} {x dx l d l0 a : Addr} {m m' : Mc} {rest : List (Key × V)} {o : HO} (b : Both C H x dx l d l0 m rest) (s1 : Same H H1) (s2 : Same (mput C H1 x dx l m') H2) (h : H a = some o) (q1 : a ≠ x) (q2 : a ≠ l) (q3 : a ≠ d) (q4 : a ≠ l0) : dput H2 d l0 m' rest a = some o := by
  rw [dput_ne q3 q4]; exact s2 _ _ (by rw [mput_ne q1 q2]; exact s1 _ _ h)
end
/-! ### users: the mirror -/
structure Pn where
  m : Mc
  inbox : List Int
  outbox : List Int
  paper : List Int
  blocks : List (List Int)
  sw : Int
  st : Str
  nap : Int
  lost : Int
  done : Int
inductive Ev where
  | start (p : Int) | key (l : Int) | tick | step
def againP (P : Pn) (s : Str) : Pn := { P with m := { P.m with pc := (P.m.pc - 1) % 64 }, st := s }
def hearP (P : Pn) : Pn := match P.inbox with
  | [] => againP P "hears"
  | x :: r => { P with m := { P.m with total := x }, inbox := r }
def sayP (P : Pn) : Pn := if P.outbox.length = 16 then againP P "says" else { P with outbox := P.outbox ++ [P.m.total % 256] }
def dozeP (P : Pn) : Pn := if 0 < P.m.total then { P with nap := P.m.total, m := { P.m with total := 0 }, st := "sleeps" } else P
/-- n words of a block into the cells from place p on -/
def fetchN (cs bk : List Int) (p : Int) : Nat → List Int
  | 0 => cs
  | n + 1 => (fetchN cs bk p n).set ((p + (n : Int)) % 64).toNat (bk.getD n 0)
/-- n of these cells into a block -/
def storeN (cs bk : List Int) (p : Int) : Nat → List Int
  | 0 => bk
  | n + 1 => (storeN cs bk p n).set n (cs.getD ((p + (n : Int)) % 64).toNat 0)
def carryP (P : Pn) (f : Bool) : Pn :=
  let p := getC P.m P.m.pc % 64
  let m1 := skipM P.m
  if 3 < P.m.total then { P with m := { m1 with total := 1023 } }
  else if f = true then { P with m := { m1 with cells := fetchN P.m.cells (P.blocks.getD P.m.total.toNat []) p 16, total := 0 } }
  else { P with m := { m1 with total := 0 }, blocks := P.blocks.set P.m.total.toNat (storeN P.m.cells (P.blocks.getD P.m.total.toNat []) p 16) }
def skipP (P : Pn) : Pn := { P with m := skipM P.m }
def askP (P : Pn) (p : Int) : Pn :=
  if ((decide (p = 0) && !P.inbox.isEmpty) || (decide (p = 2) && decide (P.outbox.length < 16))) = true then skipP P
  else if p = 1 then hearP P
  else if p = 3 then sayP P
  else if p = 4 then dozeP P
  else if p = 5 then carryP P true
  else if p = 6 then carryP P false
  else if p = 7 then { P with st := "stopped" }
  else if p = 8 then { P with m := { P.m with total := P.sw } }
  else P
def wakeP (P : Pn) (s : Str) : Pn := if P.st = s then { P with st := "ready" } else P
def heardP (P : Pn) (l : Int) : Pn := wakeP (if P.inbox.length < 16 then { P with inbox := P.inbox ++ [l] } else { P with lost := P.lost + 1 }) "hears"
def tick1P (P : Pn) : Pn := match P.outbox with
  | [] => P
  | x :: r => wakeP { P with outbox := r, paper := P.paper ++ [x] } "says"
def tick2P (P : Pn) : Pn := if P.st = "sleeps" then (if P.nap - 1 = 0 then { P with nap := P.nap - 1, st := "ready" } else { P with nap := P.nap - 1 }) else P
def tickedP (P : Pn) : Pn := tick2P (tick1P P)
def stepP (P : Pn) : Pn :=
  let P1 := { P with done := P.done + 1, m := deedM P.m }
  if getC P.m P.m.pc / 128 = 6 then askP P1 (getC P.m P.m.pc % 64) else P1
def happenP (P : Pn) : Ev → Pn
  | .key l => heardP P l
  | .tick => tickedP P
  | .start p => if P.st = "stopped" then { P with st := "ready", m := { P.m with pc := p } } else P
  | .step => if P.st = "ready" then stepP P else P
def newP (cs : List Int) (sw : Int) : Pn := ⟨⟨cs, 0, 0, 0⟩, [], [], [], List.replicate 4 (List.replicate 16 0), sw, "stopped", 0, 0, 0⟩
/-- words, letters, rows of their lengths -/
structure WfP (P : Pn) : Prop where
  wm : WfM P.m
  ib : P.inbox.length ≤ 16
  ibl : ∀ x ∈ P.inbox, 0 ≤ x ∧ x < 256
  ob : P.outbox.length ≤ 16
  bk : P.blocks.length = 4
  bkl : ∀ b ∈ P.blocks, b.length = 16 ∧ ∀ x ∈ b, 0 ≤ x ∧ x < 1024
  sw0 : 0 ≤ P.sw
  sw1 : P.sw < 1024
def EvOk : Ev → Prop
  | .start p => 0 ≤ p ∧ p < 64
  | .key l => 0 ≤ l ∧ l < 256
  | _ => True
theorem fetchN_len {cs bk : List Int} {p : Int} : ∀ n, (fetchN cs bk p n).length = cs.length
  | 0 => rfl
  | n + 1 => by rw [fetchN, List.length_set, fetchN_len n]
theorem storeN_len {cs bk : List Int} {p : Int} : ∀ n, (storeN cs bk p n).length = bk.length
  | 0 => rfl
  | n + 1 => by rw [storeN, List.length_set, storeN_len n]
theorem fetchN_in {cs bk : List Int} {p : Int} (h : ∀ c ∈ cs, 0 ≤ c ∧ c < 1024) (hb : ∀ c ∈ bk, 0 ≤ c ∧ c < 1024) : ∀ n, ∀ c ∈ fetchN cs bk p n, 0 ≤ c ∧ c < 1024
  | 0 => h
  | n + 1 => mem_set_in (fetchN_in h hb n) (menu_in (fun x => 0 ≤ x ∧ x < 1024) hb (by decide) _)
theorem storeN_in {cs bk : List Int} {p : Int} (h : ∀ c ∈ cs, 0 ≤ c ∧ c < 1024) (hb : ∀ c ∈ bk, 0 ≤ c ∧ c < 1024) : ∀ n, ∀ c ∈ storeN cs bk p n, 0 ≤ c ∧ c < 1024
  | 0 => hb
  | n + 1 => mem_set_in (storeN_in h hb n) (menu_in (fun x => 0 ≤ x ∧ x < 1024) h (by decide) _)
theorem block_in {P : Pn} (w : WfP P) {i : Nat} (hi : i < 4) : P.blocks[i]? = some (P.blocks.getD i []) ∧ (P.blocks.getD i []).length = 16 ∧ ∀ x ∈ P.blocks.getD i [], 0 ≤ x ∧ x < 1024 := by
  have hb := w.bk
  have e : P.blocks[i]? = some (P.blocks.getD i []) := by
    rw [List.getD_eq_getElem?_getD, List.getElem?_eq_getElem (by omega)]; rfl
  exact ⟨e, w.bkl _ (List.mem_of_getElem? e)⟩
theorem wf_pc {m : Mc} (h : WfM m) {p : Int} (p0 : 0 ≤ p) (p1 : p < 64) : WfM { m with pc := p } := ⟨⟨h.len, p0, p1⟩, h.cell, h.tlo, h.thi, h.bit⟩
theorem wfP_m {P : Pn} (w : WfP P) {m : Mc} (h : WfM m) : WfP { P with m := m } := ⟨h, w.ib, w.ibl, w.ob, w.bk, w.bkl, w.sw0, w.sw1⟩
theorem wfP_again {P : Pn} (w : WfP P) (s : Str) : WfP (againP P s) := ⟨wf_pc w.wm (by omega) (by omega), w.ib, w.ibl, w.ob, w.bk, w.bkl, w.sw0, w.sw1⟩
theorem wfP_carry {P : Pn} (w : WfP P) (f : Bool) : WfP (carryP P f) := by
  have t0 := w.wm.tlo
  have s := wf_skip w.wm
  unfold carryP
  dsimp only
  split
  · exact wfP_m w (wf_total s (by decide) (by decide))
  have hb := block_in w (i := P.m.total.toNat) (by omega)
  split
  · exact wfP_m w ⟨⟨by show (fetchN _ _ _ 16).length = 64; rw [fetchN_len]; exact w.wm.len, s.lo, s.hi⟩, fetchN_in w.wm.cell hb.2.2 16, by show (0 : Int) ≤ 0; decide, by show (0 : Int) < 1024; decide, s.bit⟩
  · refine ⟨wf_total s (by decide) (by decide), w.ib, w.ibl, w.ob, by show (List.set _ _ _).length = 4; rw [List.length_set]; exact w.bk, ?_, w.sw0, w.sw1⟩
    intro b h
    rcases List.mem_or_eq_of_mem_set h with h1 | h1
    · exact w.bkl b h1
    · subst h1
      exact ⟨by rw [storeN_len]; exact hb.2.1, storeN_in w.wm.cell hb.2.2 16⟩
theorem wfP_ask {P : Pn} (w : WfP P) (p : Int) : WfP (askP P p) := by
  unfold askP
  split
  · exact wfP_m w (wf_skip w.wm)
  split
  · unfold hearP
    split
    · exact wfP_again w _
    · rename_i x r e
      have hx : ∀ y ∈ x :: r, 0 ≤ y ∧ y < 256 := by rw [← e]; exact w.ibl
      have hl : (x :: r).length ≤ 16 := by rw [← e]; exact w.ib
      have h0 := hx x List.mem_cons_self
      exact ⟨wf_total w.wm h0.1 (by omega), by show r.length ≤ 16; simp at hl; omega, fun y hy => hx y (List.mem_cons_of_mem _ hy), w.ob, w.bk, w.bkl, w.sw0, w.sw1⟩
  split
  · unfold sayP
    split
    · exact wfP_again w _
    · exact ⟨w.wm, w.ib, w.ibl, by show (P.outbox ++ [_]).length ≤ 16; have := w.ob; simp; omega, w.bk, w.bkl, w.sw0, w.sw1⟩
  split
  · unfold dozeP
    split
    · exact ⟨wf_total w.wm (by decide) (by decide), w.ib, w.ibl, w.ob, w.bk, w.bkl, w.sw0, w.sw1⟩
    · exact w
  split
  · exact wfP_carry w _
  split
  · exact wfP_carry w _
  split
  · exact ⟨w.wm, w.ib, w.ibl, w.ob, w.bk, w.bkl, w.sw0, w.sw1⟩
  split
  · exact wfP_m w (wf_total w.wm w.sw0 w.sw1)
  · exact w
theorem wfP_wake {P : Pn} (w : WfP P) (s : Str) : WfP (wakeP P s) := by
  unfold wakeP; split
  · exact ⟨w.wm, w.ib, w.ibl, w.ob, w.bk, w.bkl, w.sw0, w.sw1⟩
  · exact w
theorem wfP_happen {P : Pn} (w : WfP P) {e : Ev} (h : EvOk e) : WfP (happenP P e) := by
  cases e with
  | key l =>
    refine wfP_wake ?_ _
    split
    · refine ⟨w.wm, by show (P.inbox ++ [l]).length ≤ 16; simp; omega, ?_, w.ob, w.bk, w.bkl, w.sw0, w.sw1⟩
      intro x hx
      rcases List.mem_append.mp hx with h1 | h1
      · exact w.ibl x h1
      · rw [List.mem_singleton.mp h1]; exact h
    · exact ⟨w.wm, w.ib, w.ibl, w.ob, w.bk, w.bkl, w.sw0, w.sw1⟩
  | tick =>
    have h1 : WfP (tick1P P) := by
      unfold tick1P
      split
      · exact w
      · rename_i x r e
        have h2 := w.ob
        rw [e] at h2
        simp at h2
        exact wfP_wake (P := { P with outbox := r, paper := P.paper ++ [x] }) ⟨w.wm, w.ib, w.ibl, by show r.length ≤ 16; omega, w.bk, w.bkl, w.sw0, w.sw1⟩ _
    show WfP (tick2P (tick1P P))
    unfold tick2P
    split
    · split <;> exact ⟨h1.wm, h1.ib, h1.ibl, h1.ob, h1.bk, h1.bkl, h1.sw0, h1.sw1⟩
    · exact h1
  | start p =>
    show WfP (if P.st = "stopped" then _ else _)
    split
    · exact ⟨wf_pc w.wm h.1 h.2, w.ib, w.ibl, w.ob, w.bk, w.bkl, w.sw0, w.sw1⟩
    · exact w
  | step =>
    show WfP (if P.st = "ready" then _ else _)
    split
    · have w1 : WfP { P with done := P.done + 1, m := deedM P.m } := ⟨wf_deed w.wm, w.ib, w.ibl, w.ob, w.bk, w.bkl, w.sw0, w.sw1⟩
      unfold stepP
      dsimp only
      split
      · exact wfP_ask w1 _
      · exact w1
    · exact w
theorem paper_happen (P : Pn) (e : Ev) : (happenP P e).paper.length ≤ P.paper.length + 1 := by
  have wk : ∀ (P : Pn) s, (wakeP P s).paper = P.paper := fun P s => by unfold wakeP; split <;> rfl
  cases e with
  | key l => show (wakeP _ _).paper.length ≤ _; rw [wk]; split <;> exact Nat.le_succ _
  | tick =>
    have h1 : (tick1P P).paper.length ≤ P.paper.length + 1 := by
      unfold tick1P; split
      · exact Nat.le_succ _
      · rw [wk]; simp
    show (tick2P (tick1P P)).paper.length ≤ _
    unfold tick2P; split
    · split <;> exact h1
    · exact h1
  | start p => show (if P.st = "stopped" then _ else _ : Pn).paper.length ≤ _; split <;> exact Nat.le_succ _
  | step =>
    show (if P.st = "ready" then _ else _ : Pn).paper.length ≤ _
    split
    · unfold stepP; dsimp only; split
      · have : ∀ (P : Pn) p, (askP P p).paper = P.paper := fun P p => by
          unfold askP hearP sayP dozeP carryP againP skipP
          repeat' (first | rfl | split)
        rw [this]; exact Nat.le_succ _
      · exact Nat.le_succ _
    · exact Nat.le_succ _
/-! ### users in the heap -/
structure PA where
  p : Addr
  dp : Addr
  m : Addr
  dm : Addr
  c : Addr
  ib : Addr
  ob : Addr
  pp : Addr
  bl : Addr
  bs : List Addr
def PA.foot (A : PA) : List Addr := [A.p, A.m, A.c, A.ib, A.ob, A.pp, A.bl] ++ A.bs
def pfs (A : PA) (P : Pn) : List (Str × V) := [("machine", .ref A.m), ("inbox", .ref A.ib), ("outbox", .ref A.ob), ("paper", .ref A.pp), ("blocks", .ref A.bl), ("switches", .int P.sw), ("state", .str P.st), ("nap", .int P.nap), ("lost", .int P.lost), ("done", .int P.done)]
structure PAt (C D : Addr) (H : Hp) (A : PA) (P : Pn) : Prop where
  hp : H A.p = some (.ins D A.dp (pfs A P))
  hm : H A.m = some (.ins C A.dm (mfs A.c P.m))
  hc : H A.c = some (.lst (P.m.cells.map V.int))
  hi : H A.ib = some (.lst (P.inbox.map V.int))
  ho : H A.ob = some (.lst (P.outbox.map V.int))
  hq : H A.pp = some (.lst (P.paper.map V.int))
  hb : H A.bl = some (.lst (A.bs.map V.ref))
  hbs : ∀ (i : Nat) a, A.bs[i]? = some a → ∃ ws, P.blocks[i]? = some ws ∧ H a = some (.lst (ws.map V.int))
  len : A.bs.length = 4
  nd : A.foot.Nodup
/-- all else is as it was -/
def Fr (F : List Addr) (H H' : Hp) : Prop := ∀ b o, b ∉ F → H b = some o → H' b = some o
theorem Fr.refl {F : List Addr} {H : Hp} : Fr F H H := fun _ _ _ h => h
theorem Fr.trans {F : List Addr} {H H1 H2 : Hp} (a : Fr F H H1) (b : Fr F H1 H2) : Fr F H H2 := fun x o n h => b x o n (a x o n h)
theorem Fr.upd {F : List Addr} {H : Hp} {a : Addr} {o : HO} (h : a ∈ F) : Fr F H (upd H a o) := fun b u n e => by rw [upd_ne (fun q => n (by rw [q]; exact h))]; exact e
theorem Fr.same {F : List Addr} {H H' : Hp} (h : Same H H') : Fr F H H' := fun b o _ e => h b o e
structure Ne (A : PA) : Prop where
  pm : A.p ≠ A.m
  pc : A.p ≠ A.c
  pi : A.p ≠ A.ib
  po : A.p ≠ A.ob
  pq : A.p ≠ A.pp
  pb : A.p ≠ A.bl
  mc : A.m ≠ A.c
  mi : A.m ≠ A.ib
  mo : A.m ≠ A.ob
  mq : A.m ≠ A.pp
  mb : A.m ≠ A.bl
  ci : A.c ≠ A.ib
  co : A.c ≠ A.ob
  cq : A.c ≠ A.pp
  cb : A.c ≠ A.bl
  io : A.ib ≠ A.ob
  iq : A.ib ≠ A.pp
  ibn : A.ib ≠ A.bl
  oq : A.ob ≠ A.pp
  obn : A.ob ≠ A.bl
  qb : A.pp ≠ A.bl
  bs : ∀ b ∈ A.bs, b ≠ A.p ∧ b ≠ A.m ∧ b ≠ A.c ∧ b ≠ A.ib ∧ b ≠ A.ob ∧ b ≠ A.pp ∧ b ≠ A.bl
  bn : A.bs.Nodup
theorem PAt.ne {C D : Addr} {H : Hp} {A : PA} {P : Pn} (h : PAt C D H A P) : Ne A := by
  have h1 := h.nd
  unfold PA.foot at h1
  simp only [List.cons_append, List.nil_append, List.nodup_cons, List.mem_cons, not_or] at h1
  obtain ⟨⟨a1, a2, a3, a4, a5, a6, a7⟩, ⟨b1, b2, b3, b4, b5, b6⟩, ⟨c1, c2, c3, c4, c5⟩, ⟨d1, d2, d3, d4⟩, ⟨e1, e2, e3⟩, ⟨f1, f2⟩, g1, h1⟩ := h1
  exact ⟨a1, a2, a3, a4, a5, a6, b1, b2, b3, b4, b5, c1, c2, c3, c4, d1, d2, d3, e1, e2, f1, fun b hb => ⟨fun q => a7 (q ▸ hb), fun q => b6 (q ▸ hb), fun q => c5 (q ▸ hb), fun q => d4 (q ▸ hb), fun q => e3 (q ▸ hb), fun q => f2 (q ▸ hb), fun q => g1 (q ▸ hb)⟩, h1⟩
section
variable {C D : Addr} {H H' : Hp} {A : PA} {P : Pn}
theorem PAt.fp (A : PA) : A.p ∈ A.foot ∧ A.m ∈ A.foot ∧ A.c ∈ A.foot ∧ A.ib ∈ A.foot ∧ A.ob ∈ A.foot ∧ A.pp ∈ A.foot ∧ A.bl ∈ A.foot := by unfold PA.foot; simp
theorem PAt.setP (h : PAt C D H A P) (P' : Pn) (e : P'.m = P.m ∧ P'.inbox = P.inbox ∧ P'.outbox = P.outbox ∧ P'.paper = P.paper ∧ P'.blocks = P.blocks) : PAt C D (upd H A.p (.ins D A.dp (pfs A P'))) A P' := by
  obtain ⟨e1, e2, e3, e4, e5⟩ := e
  have n := h.ne
  exact ⟨upd_same, by rw [upd_ne n.pm.symm, e1]; exact h.hm, by rw [upd_ne n.pc.symm, e1]; exact h.hc, by rw [upd_ne n.pi.symm, e2]; exact h.hi, by rw [upd_ne n.po.symm, e3]; exact h.ho, by rw [upd_ne n.pq.symm, e4]; exact h.hq, by rw [upd_ne n.pb.symm]; exact h.hb,
    fun i a ha => by rw [upd_ne (n.bs a (List.mem_of_getElem? ha)).1, e5]; exact h.hbs i a ha, h.len, h.nd⟩
theorem PAt.setM (h : PAt C D H A P) {H1 : Hp} (s : Same H H1) (m' : Mc) : PAt C D (mput C H1 A.m A.dm A.c m') A { P with m := m' } ∧ Fr A.foot H (mput C H1 A.m A.dm A.c m') := by
  have n := h.ne
  obtain ⟨f1, f2, f3, _⟩ := PAt.fp A
  refine ⟨⟨by rw [mput_ne n.pm n.pc]; exact s _ _ h.hp, mput_p, mput_l n.mc.symm, by rw [mput_ne n.mi.symm n.ci.symm]; exact s _ _ h.hi, by rw [mput_ne n.mo.symm n.co.symm]; exact s _ _ h.ho, by rw [mput_ne n.mq.symm n.cq.symm]; exact s _ _ h.hq, by rw [mput_ne n.mb.symm n.cb.symm]; exact s _ _ h.hb,
    fun i a ha => ?_, h.len, h.nd⟩, fun b o nb e => ?_⟩
  · have q := n.bs a (List.mem_of_getElem? ha)
    rw [mput_ne q.2.1 q.2.2.1]
    obtain ⟨ws, w1, w2⟩ := h.hbs i a ha
    exact ⟨ws, w1, s _ _ w2⟩
  · rw [mput_ne (fun q => nb (by rw [q]; exact f2)) (fun q => nb (by rw [q]; exact f3))]; exact s _ _ e
theorem PAt.setI (h : PAt C D H A P) (xs : List Int) : PAt C D (upd H A.ib (.lst (xs.map V.int))) A { P with inbox := xs } := by
  have n := h.ne
  exact ⟨by rw [upd_ne n.pi]; exact h.hp, by rw [upd_ne n.mi]; exact h.hm, by rw [upd_ne n.ci]; exact h.hc, upd_same, by rw [upd_ne n.io.symm]; exact h.ho, by rw [upd_ne n.iq.symm]; exact h.hq, by rw [upd_ne n.ibn.symm]; exact h.hb,
    fun i a ha => by rw [upd_ne (n.bs a (List.mem_of_getElem? ha)).2.2.2.1]; exact h.hbs i a ha, h.len, h.nd⟩
theorem PAt.setO (h : PAt C D H A P) (xs : List Int) : PAt C D (upd H A.ob (.lst (xs.map V.int))) A { P with outbox := xs } := by
  have n := h.ne
  exact ⟨by rw [upd_ne n.po]; exact h.hp, by rw [upd_ne n.mo]; exact h.hm, by rw [upd_ne n.co]; exact h.hc, by rw [upd_ne n.io]; exact h.hi, upd_same, by rw [upd_ne n.oq.symm]; exact h.hq, by rw [upd_ne n.obn.symm]; exact h.hb,
    fun i a ha => by rw [upd_ne (n.bs a (List.mem_of_getElem? ha)).2.2.2.2.1]; exact h.hbs i a ha, h.len, h.nd⟩
theorem PAt.setQ (h : PAt C D H A P) (xs : List Int) : PAt C D (upd H A.pp (.lst (xs.map V.int))) A { P with paper := xs } := by
  have n := h.ne
  exact ⟨by rw [upd_ne n.pq]; exact h.hp, by rw [upd_ne n.mq]; exact h.hm, by rw [upd_ne n.cq]; exact h.hc, by rw [upd_ne n.iq]; exact h.hi, by rw [upd_ne n.oq]; exact h.ho, upd_same, by rw [upd_ne n.qb.symm]; exact h.hb,
    fun i a ha => by rw [upd_ne (n.bs a (List.mem_of_getElem? ha)).2.2.2.2.2.1]; exact h.hbs i a ha, h.len, h.nd⟩
theorem PAt.setB (h : PAt C D H A P) {i : Nat} {a : Addr} (ha : A.bs[i]? = some a) (hl : P.blocks.length = 4) (xs : List Int) : PAt C D (upd H a (.lst (xs.map V.int))) A { P with blocks := P.blocks.set i xs } := by
  have n := h.ne
  have q := n.bs a (List.mem_of_getElem? ha)
  have hi4 : i < 4 := by have := (List.getElem?_eq_some_iff.mp ha).1; have := h.len; omega
  refine ⟨by rw [upd_ne q.1.symm]; exact h.hp, by rw [upd_ne q.2.1.symm]; exact h.hm, by rw [upd_ne q.2.2.1.symm]; exact h.hc, by rw [upd_ne q.2.2.2.1.symm]; exact h.hi, by rw [upd_ne q.2.2.2.2.1.symm]; exact h.ho, by rw [upd_ne q.2.2.2.2.2.1.symm]; exact h.hq, by rw [upd_ne q.2.2.2.2.2.2.symm]; exact h.hb, fun j b hb => ?_, h.len, h.nd⟩
  by_cases hij : i = j
  · subst hij
    have e : b = a := Option.some.inj (hb.symm.trans ha)
    subst e
    exact ⟨xs, List.getElem?_set_self (by omega), upd_same⟩
  · have nba : b ≠ a := fun e => hij (nd_ix n.bn ha (e ▸ hb))
    obtain ⟨ws, w1, w2⟩ := h.hbs j b hb
    exact ⟨ws, by rw [List.getElem?_set_ne hij]; exact w1, by rw [upd_ne nba]; exact w2⟩
theorem PAt.same (h : PAt C D H A P) (s : Same H H') : PAt C D H' A P :=
  ⟨s _ _ h.hp, s _ _ h.hm, s _ _ h.hc, s _ _ h.hi, s _ _ h.ho, s _ _ h.hq, s _ _ h.hb, fun i a ha => by obtain ⟨ws, w1, w2⟩ := h.hbs i a ha; exact ⟨ws, w1, s _ _ w2⟩, h.len, h.nd⟩
end
structure PTx (K : PySem.W.Frag) (D : Addr) : Prop where
  cl : Cls K D
  nMachine : NoAttr K D "machine"
  nInbox : NoAttr K D "inbox"
  nOutbox : NoAttr K D "outbox"
  nPaper : NoAttr K D "paper"
  nBlocks : NoAttr K D "blocks"
  nSwitches : NoAttr K D "switches"
  nState : NoAttr K D "state"
  nNap : NoAttr K D "nap"
  nLost : NoAttr K D "lost"
  nDone : NoAttr K D "done"
section
variable {K : PySem.W.Frag} {C D : Addr} {H : Hp} {A : PA} {P : Pn} {σ : L2.St} {ta tv ti : TE} {N : L2.St → Hp → Prop} {R : VK} {B C' : L2.St → Hp → Prop} {tz : TS} {z i : Int} {y : Str}
theorem pf_machine : (pfs A P).lookup ("machine" : Str) = some (V.ref A.m) := by kernel_rfl
theorem pf_inbox : (pfs A P).lookup ("inbox" : Str) = some (V.ref A.ib) := by kernel_rfl
theorem pf_outbox : (pfs A P).lookup ("outbox" : Str) = some (V.ref A.ob) := by kernel_rfl
theorem pf_paper : (pfs A P).lookup ("paper" : Str) = some (V.ref A.pp) := by kernel_rfl
theorem pf_blocks : (pfs A P).lookup ("blocks" : Str) = some (V.ref A.bl) := by kernel_rfl
theorem pf_switches : (pfs A P).lookup ("switches" : Str) = some (V.int P.sw) := by kernel_rfl
theorem pf_state : (pfs A P).lookup ("state" : Str) = some (V.str P.st) := by kernel_rfl
theorem pf_nap : (pfs A P).lookup ("nap" : Str) = some (V.int P.nap) := by kernel_rfl
theorem pf_lost : (pfs A P).lookup ("lost" : Str) = some (V.int P.lost) := by kernel_rfl
theorem pf_done : (pfs A P).lookup ("done" : Str) = some (V.int P.done) := by kernel_rfl
theorem pq_switches : putF "switches" (.int z) (pfs A P) = pfs A { P with sw := z } := by kernel_rfl
theorem pq_state : putF "state" (.str y) (pfs A P) = pfs A { P with st := y } := by kernel_rfl
theorem pq_nap : putF "nap" (.int z) (pfs A P) = pfs A { P with nap := z } := by kernel_rfl
theorem pq_lost : putF "lost" (.int z) (pfs A P) = pfs A { P with lost := z } := by kernel_rfl
theorem pq_done : putF "done" (.int z) (pfs A P) = pfs A { P with done := z } := by kernel_rfl
theorem vp_machine (T : PTx K D) (h : PAt C D H A P) (ha : Val ta σ H (.ref A.p)) : Val (tFld K ta "machine") σ H (.ref A.m) := val_fld ha h.hp T.cl T.nMachine pf_machine
theorem vp_inbox (T : PTx K D) (h : PAt C D H A P) (ha : Val ta σ H (.ref A.p)) : Val (tFld K ta "inbox") σ H (.ref A.ib) := val_fld ha h.hp T.cl T.nInbox pf_inbox
theorem vp_outbox (T : PTx K D) (h : PAt C D H A P) (ha : Val ta σ H (.ref A.p)) : Val (tFld K ta "outbox") σ H (.ref A.ob) := val_fld ha h.hp T.cl T.nOutbox pf_outbox
theorem vp_paper (T : PTx K D) (h : PAt C D H A P) (ha : Val ta σ H (.ref A.p)) : Val (tFld K ta "paper") σ H (.ref A.pp) := val_fld ha h.hp T.cl T.nPaper pf_paper
theorem vp_blocks (T : PTx K D) (h : PAt C D H A P) (ha : Val ta σ H (.ref A.p)) : Val (tFld K ta "blocks") σ H (.ref A.bl) := val_fld ha h.hp T.cl T.nBlocks pf_blocks
theorem vp_switches (T : PTx K D) (h : PAt C D H A P) (ha : Val ta σ H (.ref A.p)) : Val (tFld K ta "switches") σ H (.int P.sw) := val_fld ha h.hp T.cl T.nSwitches pf_switches
theorem vp_state (T : PTx K D) (h : PAt C D H A P) (ha : Val ta σ H (.ref A.p)) : Val (tFld K ta "state") σ H (.str P.st) := val_fld ha h.hp T.cl T.nState pf_state
theorem vp_nap (T : PTx K D) (h : PAt C D H A P) (ha : Val ta σ H (.ref A.p)) : Val (tFld K ta "nap") σ H (.int P.nap) := val_fld ha h.hp T.cl T.nNap pf_nap
theorem vp_lost (T : PTx K D) (h : PAt C D H A P) (ha : Val ta σ H (.ref A.p)) : Val (tFld K ta "lost") σ H (.int P.lost) := val_fld ha h.hp T.cl T.nLost pf_lost
theorem vp_done (T : PTx K D) (h : PAt C D H A P) (ha : Val ta σ H (.ref A.p)) : Val (tFld K ta "done") σ H (.int P.done) := val_fld ha h.hp T.cl T.nDone pf_done
theorem vp_total (M : MTx K C) (h : PAt C D H A P) (ha : Val ta σ H (.ref A.m)) : Val (tFld K ta "total") σ H (.int P.m.total) := vf_total M h.hm ha
theorem vp_mark (M : MTx K C) (h : PAt C D H A P) (ha : Val ta σ H (.ref A.m)) : Val (tFld K ta "mark") σ H (.int P.m.mark) := vf_mark M h.hm ha
theorem vp_at (M : MTx K C) (h : PAt C D H A P) (ha : Val ta σ H (.ref A.m)) : Val (tFld K ta "at") σ H (.int P.m.pc) := vf_at M h.hm ha
theorem vp_cells (M : MTx K C) (h : PAt C D H A P) (ha : Val ta σ H (.ref A.m)) : Val (tFld K ta "cells") σ H (.ref A.c) := vf_cells M h.hm ha
/-- a new state of the user, found by its heap -/
abbrev Nx (C D : Addr) (A : PA) (H : Hp) (P' : Pn) (G : Hp → Prop) : Prop := ∀ H', PAt C D H' A P' → Fr A.foot H H' → G H'
theorem sp_state (T : PTx K D) (h : PAt C D H A P) (hv : Val tv σ H (.str y)) (ha : Val ta σ H (.ref A.p)) (q : Nx C D A H { P with st := y } (N σ)) : sFld K ta tv "state" ⟨N, R, B, C'⟩ σ H :=
  st_fld hv ha h.hp T.cl T.nState (by show 10 < 1000; decide) (by rw [pq_state]; exact q _ (h.setP _ ⟨rfl, rfl, rfl, rfl, rfl⟩) (Fr.upd (PAt.fp A).1))
theorem sp_nap (T : PTx K D) (h : PAt C D H A P) (hv : Val tv σ H (.int z)) (ha : Val ta σ H (.ref A.p)) (q : Nx C D A H { P with nap := z } (N σ)) : sFld K ta tv "nap" ⟨N, R, B, C'⟩ σ H :=
  st_fld hv ha h.hp T.cl T.nNap (by show 10 < 1000; decide) (by rw [pq_nap]; exact q _ (h.setP _ ⟨rfl, rfl, rfl, rfl, rfl⟩) (Fr.upd (PAt.fp A).1))
theorem sp_lost (T : PTx K D) (h : PAt C D H A P) (hv : Val tv σ H (.int z)) (ha : Val ta σ H (.ref A.p)) (q : Nx C D A H { P with lost := z } (N σ)) : sFld K ta tv "lost" ⟨N, R, B, C'⟩ σ H :=
  st_fld hv ha h.hp T.cl T.nLost (by show 10 < 1000; decide) (by rw [pq_lost]; exact q _ (h.setP _ ⟨rfl, rfl, rfl, rfl, rfl⟩) (Fr.upd (PAt.fp A).1))
theorem sp_done (T : PTx K D) (h : PAt C D H A P) (hv : Val tv σ H (.int z)) (ha : Val ta σ H (.ref A.p)) (q : Nx C D A H { P with done := z } (N σ)) : sFld K ta tv "done" ⟨N, R, B, C'⟩ σ H :=
  st_fld hv ha h.hp T.cl T.nDone (by show 10 < 1000; decide) (by rw [pq_done]; exact q _ (h.setP _ ⟨rfl, rfl, rfl, rfl, rfl⟩) (Fr.upd (PAt.fp A).1))
theorem sp_switches (T : PTx K D) (h : PAt C D H A P) (hv : Val tv σ H (.int z)) (ha : Val ta σ H (.ref A.p)) (q : Nx C D A H { P with sw := z } (N σ)) : sFld K ta tv "switches" ⟨N, R, B, C'⟩ σ H :=
  st_fld hv ha h.hp T.cl T.nSwitches (by show 10 < 1000; decide) (by rw [pq_switches]; exact q _ (h.setP _ ⟨rfl, rfl, rfl, rfl, rfl⟩) (Fr.upd (PAt.fp A).1))
theorem PAt.eqm (h : PAt C D H A P) : H = mput C H A.m A.dm A.c P.m := (mput_id h.hm h.hc).symm
theorem sp_at (M : MTx K C) (h : PAt C D H A P) (hv : Val tv σ H (.int z)) (ha : Val ta σ H (.ref A.m)) (q : Nx C D A H { P with m := { P.m with pc := z } } (N σ)) : sFld K ta tv "at" ⟨N, R, B, C'⟩ σ H := by
  obtain ⟨q1, q2⟩ := h.setM (Same.refl H) { P.m with pc := z }
  have e := h.eqm
  rw [e] at hv ha ⊢
  exact sm_at M hv ha (q _ q1 q2)
theorem sp_total (M : MTx K C) (h : PAt C D H A P) (hv : Val tv σ H (.int z)) (ha : Val ta σ H (.ref A.m)) (q : Nx C D A H { P with m := { P.m with total := z } } (N σ)) : sFld K ta tv "total" ⟨N, R, B, C'⟩ σ H := by
  obtain ⟨q1, q2⟩ := h.setM (Same.refl H) { P.m with total := z }
  have e := h.eqm
  rw [e] at hv ha ⊢
  exact sm_total M hv ha (q _ q1 q2)
theorem qp_state (T : PTx K D) (h : PAt C D H A P) (hv : Val tv σ H (.str y)) (ha : Val ta σ H (.ref A.p)) (q : Nx C D A H { P with st := y } (tz ⟨N, R, B, C'⟩ σ)) : tSeq (sFld K ta tv "state") tz ⟨N, R, B, C'⟩ σ H := sp_state (N := tz ⟨N, R, B, C'⟩) (B := B) (C' := C') T h hv ha q
theorem qp_nap (T : PTx K D) (h : PAt C D H A P) (hv : Val tv σ H (.int z)) (ha : Val ta σ H (.ref A.p)) (q : Nx C D A H { P with nap := z } (tz ⟨N, R, B, C'⟩ σ)) : tSeq (sFld K ta tv "nap") tz ⟨N, R, B, C'⟩ σ H := sp_nap (N := tz ⟨N, R, B, C'⟩) (B := B) (C' := C') T h hv ha q
theorem qp_done (T : PTx K D) (h : PAt C D H A P) (hv : Val tv σ H (.int z)) (ha : Val ta σ H (.ref A.p)) (q : Nx C D A H { P with done := z } (tz ⟨N, R, B, C'⟩ σ)) : tSeq (sFld K ta tv "done") tz ⟨N, R, B, C'⟩ σ H := sp_done (N := tz ⟨N, R, B, C'⟩) (B := B) (C' := C') T h hv ha q
theorem qp_at (M : MTx K C) (h : PAt C D H A P) (hv : Val tv σ H (.int z)) (ha : Val ta σ H (.ref A.m)) (q : Nx C D A H { P with m := { P.m with pc := z } } (tz ⟨N, R, B, C'⟩ σ)) : tSeq (sFld K ta tv "at") tz ⟨N, R, B, C'⟩ σ H := sp_at (N := tz ⟨N, R, B, C'⟩) (B := B) (C' := C') M h hv ha q
theorem qp_total (M : MTx K C) (h : PAt C D H A P) (hv : Val tv σ H (.int z)) (ha : Val ta σ H (.ref A.m)) (q : Nx C D A H { P with m := { P.m with total := z } } (tz ⟨N, R, B, C'⟩ σ)) : tSeq (sFld K ta tv "total") tz ⟨N, R, B, C'⟩ σ H := sp_total (N := tz ⟨N, R, B, C'⟩) (B := B) (C' := C') M h hv ha q
end
/-! ### lists changed by their methods -/
section
variable {σ : L2.St} {H H' : Hp} {K : PySem.W.Frag} {a l : Addr} {ta tv ti to : TE} {v x y : V} {xs : List V} {ns : List Int} {N : L2.St → Hp → Prop} {R : VK} {B C' : L2.St → Hp → Prop} {tz : TS}
theorem sx_drop (h : ta σ H fun _ H1 => N σ H1) : tDrop ta ⟨N, R, B, C'⟩ σ H := h
theorem qx_drop (h : ta σ H fun _ H1 => tz ⟨N, R, B, C'⟩ σ H1) : tSeq (tDrop ta) tz ⟨N, R, B, C'⟩ σ H := h
theorem ty_list (h : H l = some (.lst xs)) : tyV K "list" (.ref l) H := .inl ⟨rfl, xs, SqL.of h⟩
theorem lt_line {n : Nat} (h : n < 1000000) : n < sizeLine := Nat.lt_trans h (by rw [sizeLine_eq]; decide)
theorem x_append {Q : VK} (ho : Val to σ H (.ref l)) (hl : H l = some (.lst xs)) (hn : xs.length < 1000000) (hv : Val tv σ H v) (q : Q .non (upd H l (.lst (xs ++ [v])))) : tBM K "list" rAppend to (tCons tv tNil) σ H Q :=
  ho _ ⟨ty_list hl, hv _ ⟨l, xs, v, rfl, rfl, hl, lt_line hn, q⟩⟩
theorem x_appendX {Q : VK} (ho : Val to σ H (.ref l)) (hl : H l = some (.lst xs)) (h : tv σ H fun v H1 => rAppend (.ref l) [v] H1 Q) : tBM K "list" rAppend to (tCons tv tNil) σ H Q := ho _ ⟨ty_list hl, h⟩
theorem x_pop0 {Q : VK} (ho : Val to σ H (.ref l)) (hl : H l = some (.lst (x :: xs))) (hi : Val ti σ H (.int 0)) (q : Q x (upd H l (.lst xs))) : tBM K "list" rPopAt to (tCons ti tNil) σ H Q :=
  ho _ ⟨ty_list hl, hi _ ⟨l, x :: xs, 0, 0, x, rfl, rfl, hl, by decide, by decide, by unfold seqIndex?; simp, rfl, q⟩⟩
theorem v_lenI (h : Val ta σ H (.ref a)) (hs : H a = some (.lst (ns.map V.int))) : Val (tCB (rLenQ K) (tCons ta tNil)) σ H (.int ns.length) := v_cb (va_cons h va_nil) fun _ q => ⟨a, ns.map V.int, rfl, .inl (SqL.of hs), by rw [List.length_map]; exact q⟩
theorem a_truL (h : Val ta σ H (.ref a)) (hs : H a = some (.lst (ns.map V.int))) : Ans (fun σ H Q => ta σ H fun x H' => ∃ k, TruV K x H' k ∧ Q k H') σ H (!ns.isEmpty) := a_tru h (.inl ⟨_, SqL.of hs, by cases ns <;> rfl⟩)
end
/-! ### rows: a list of new lists, of new tuples -/
def NewO (mk : List V → HO) (te : TE) (σ : L2.St) (H : Hp) (xs : List V) : Prop := ∀ Q : VK, (∀ D, H D = none → Q (.ref D) (upd H D (mk xs))) → te σ H Q
def RowsAt (mk : List V → HO) (H : Hp) (as : List Addr) (rows : List (List V)) : Prop := ∀ (i : Nat) a, as[i]? = some a → ∃ r, rows[i]? = some r ∧ H a = some (mk r)
def NewRows (mk : List V → HO) (te : TE) (σ : L2.St) (H : Hp) (rows : List (List V)) : Prop :=
  ∀ Q : VK, (∀ D as H', Same H H' → H D = none → (∀ b ∈ as, H b = none) → (D :: as).Nodup → as.length = rows.length → H' D = some (.lst (as.map V.ref)) → RowsAt mk H' as rows → Q (.ref D) H') → te σ H Q
structure RInv (mk : List V → HO) (H : Hp) (D : Addr) (rows : List (List V)) (as : List Addr) (H' : Hp) : Prop where
  sm : Same H H'
  fr : ∀ b ∈ as, H b = none
  nd : (D :: as).Nodup
  hd : H' D = some (.lst (as.map V.ref))
  rw_ : RowsAt mk H' as rows
section
variable {σ : L2.St} {H H' : Hp} {K : PySem.W.Frag} {a D q : Addr} {te tl : TE} {tA : TA} {mk : List V → HO} {rows : List (List V)} {as : List Addr} {r : List V} {xs : List V} {n : Int}
theorem rinv0 (hD : H D = none) : RInv mk H D rows [] (upd H D (.lst [])) := ⟨smN hD, fun _ h => (by cases h), List.nodup_cons.mpr ⟨fun h => (by cases h), List.nodup_nil⟩, upd_same, fun i a h => (by cases h)⟩
theorem rinv_step (hD : H D = none) (h : RInv mk H D rows as H') (hr : rows[as.length]? = some r) (hq : H' q = none) : RInv mk H D rows (as ++ [q]) (upd (upd H' q (mk r)) D (.lst (as.map V.ref ++ [V.ref q]))) := by
  have nqD : q ≠ D := fun e => by rw [e, h.hd] at hq; cases hq
  have nas : ∀ b ∈ as, b ≠ D ∧ b ≠ q := fun b hb => by
    refine ⟨fun e => (List.nodup_cons.mp h.nd).1 (e ▸ hb), fun e => ?_⟩
    obtain ⟨i, hi⟩ := List.getElem?_of_mem hb
    obtain ⟨r', _, e2⟩ := h.rw_ i b hi
    rw [e, hq] at e2; cases e2
  refine ⟨smM (h.sm.trans (smN hq)) hD, ?_, ?_, ?_, ?_⟩
  · intro b hb
    rcases List.mem_append.mp hb with h1 | h1
    · exact h.fr b h1
    · rw [List.mem_singleton.mp h1]; exact h.sm.free hq
  · have h2 := List.nodup_cons.mp h.nd
    refine List.nodup_cons.mpr ⟨fun hm => ?_, ?_⟩
    · rcases List.mem_append.mp hm with h1 | h1
      · exact h2.1 h1
      · exact nqD (List.mem_singleton.mp h1).symm
    · refine List.nodup_append.mpr ⟨h2.2, by simp, fun x hx y hy => ?_⟩
      rw [List.mem_singleton.mp hy]
      exact (nas x hx).2
  · rw [upd_same, List.map_append]; rfl
  · intro i b hb
    by_cases hi : i < as.length
    · rw [List.getElem?_append_left hi] at hb
      obtain ⟨r', e1, e2⟩ := h.rw_ i b hb
      have hn := nas b (List.mem_of_getElem? hb)
      exact ⟨r', e1, by rw [upd_ne hn.1, upd_ne hn.2]; exact e2⟩
    · rw [List.getElem?_append_right (by omega)] at hb
      have hi0 : i - as.length = 0 := by
        have := (List.getElem?_eq_some_iff.mp hb).1
        simp at this; omega
      rw [hi0] at hb
      have e : q = b := by simpa using hb
      subst e
      exact ⟨r, by rw [show i = as.length by omega]; exact hr, by rw [upd_ne nqD]; exact upd_same⟩
theorem nr_range {k : Nat} {ws : List Nat} (h : ValA tA σ H [.int n]) (hn : 0 ≤ n ∧ n ≤ 100000) (hl : rows.length = n.toNat) (hw : ∀ x, wipe ((wipe σ ws).set k (some x)) ws = wipe σ ws)
    (he : ∀ (m : Nat) (r : List V) (H' : Hp), Same H H' → rows[m]? = some r → NewO mk te ((wipe σ ws).set k (some (.int (m : Int)))) H' r) : NewRows mk (tLc (iRng1 tA) (gName k) tYes te ws) σ H rows := fun Q q =>
  h _ ⟨n, rfl, by omega, by omega, fun D hD => lc_range (lo := 0) (n := n.toNat) (fun m H' => ∃ as, as.length = m ∧ RInv mk H D rows as H') ⟨[], rfl, rinv0 hD⟩ (fun m H' hm e => by
    obtain ⟨as, rfl, iv⟩ := e
    have e0 : (0 : Int) + (as.length : Int) = (as.length : Int) := Int.zero_add _
    rw [e0]
    refine ⟨hw _, ?_⟩
    unfold tYes
    dsimp only
    rw [if_pos rfl]
    have hr : rows[as.length]? = some rows[as.length] := List.getElem?_eq_getElem (by omega)
    refine he _ _ _ iv.sm hr _ (fun b hb => ⟨_, by rw [upd_ne (fun e => by rw [← e, iv.hd] at hb; cases hb)]; exact iv.hd, ?_, as ++ [b], by simp, rinv_step hD iv hr hb⟩)
    rw [List.length_map]
    exact Nat.lt_of_lt_of_le (show as.length < 100000 by omega) (by rw [sizeLine_eq]; decide)) (fun H' e => by
      obtain ⟨as, e1, iv⟩ := e
      exact q D as H' iv.sm hD iv.fr iv.nd (by omega) iv.hd iv.rw_)⟩
theorem nr_list {k : Nat} {ws : List Nat} (h : Val tl σ H (.ref a)) (hs0 : SqL K H a xs) (hn : xs.length ≤ 100000) (hl : rows.length = xs.length) (hw : ∀ x, wipe ((wipe σ ws).set k (some x)) ws = wipe σ ws)
    (he : ∀ (m : Nat) (x : V) (r : List V) (H' : Hp), Same H H' → xs[m]? = some x → rows[m]? = some r → NewO mk te ((wipe σ ws).set k (some x)) H' r) : NewRows mk (tLc (iList K tl) (gName k) tYes te ws) σ H rows := fun Q q =>
  h _ ⟨a, rfl, ⟨xs, hs0⟩, fun D hD => lc_list (xs := xs) (fun m H' => ∃ as, as.length = m ∧ RInv mk H D rows as H') ⟨[], rfl, rinv0 hD⟩ (fun m H' _ e => by obtain ⟨as, _, iv⟩ := e; exact iv.sm.seq hs0) (fun m x H' hm e => by
    obtain ⟨as, rfl, iv⟩ := e
    refine ⟨hw _, ?_⟩
    unfold tYes
    dsimp only
    rw [if_pos rfl]
    have hlt := (List.getElem?_eq_some_iff.mp hm).1
    have hr : rows[as.length]? = some rows[as.length] := List.getElem?_eq_getElem (by omega)
    refine he _ _ _ _ iv.sm hm hr _ (fun b hb => ⟨_, by rw [upd_ne (fun e => by rw [← e, iv.hd] at hb; cases hb)]; exact iv.hd, ?_, as ++ [b], by simp, rinv_step hD iv hr hb⟩)
    rw [List.length_map]
    exact Nat.lt_of_lt_of_le (show as.length < 100000 by omega) (by rw [sizeLine_eq]; decide)) (fun H' e => by
      obtain ⟨as, e1, iv⟩ := e
      exact q D as H' iv.sm hD iv.fr iv.nd (by omega) iv.hd iv.rw_)⟩
theorem nr_tup {k : Nat} {ws : List Nat} (h : Val tl σ H (.ref a)) (hs0 : SqT K H a xs) (hn : xs.length ≤ 100000) (hl : rows.length = xs.length) (hw : ∀ x, wipe ((wipe σ ws).set k (some x)) ws = wipe σ ws)
    (he : ∀ (m : Nat) (x : V) (r : List V) (H' : Hp), Same H H' → xs[m]? = some x → rows[m]? = some r → NewO mk te ((wipe σ ws).set k (some x)) H' r) : NewRows mk (tLc (iTup K tl) (gName k) tYes te ws) σ H rows := fun Q q =>
  h _ ⟨a, rfl, ⟨xs, hs0⟩, fun D hD => lc_tup (xs := xs) (fun m H' => ∃ as, as.length = m ∧ RInv mk H D rows as H') ⟨[], rfl, rinv0 hD⟩ (fun m H' _ e => by obtain ⟨as, _, iv⟩ := e; exact smT iv.sm hs0) (fun m x H' hm e => by
    obtain ⟨as, rfl, iv⟩ := e
    refine ⟨hw _, ?_⟩
    unfold tYes
    dsimp only
    rw [if_pos rfl]
    have hlt := (List.getElem?_eq_some_iff.mp hm).1
    have hr : rows[as.length]? = some rows[as.length] := List.getElem?_eq_getElem (by omega)
    refine he _ _ _ _ iv.sm hm hr _ (fun b hb => ⟨_, by rw [upd_ne (fun e => by rw [← e, iv.hd] at hb; cases hb)]; exact iv.hd, ?_, as ++ [b], by simp, rinv_step hD iv hr hb⟩)
    rw [List.length_map]
    exact Nat.lt_of_lt_of_le (show as.length < 100000 by omega) (by rw [sizeLine_eq]; decide)) (fun H' e => by
      obtain ⟨as, e1, iv⟩ := e
      exact q D as H' iv.sm hD iv.fr iv.nd (by omega) iv.hd iv.rw_)⟩
end
/-! ### fields set one by one -/
section
variable {σ : L2.St} {H : Hp} {K : PySem.W.Frag} {C D p dp a : Addr} {fs : List (Str × V)} {f : Str} {ta tv : TE} {tA : TA} {v : V} {xs : List V} {rows : List (List V)} {mk : List V → HO} {cs : List Int} {t mr pc : Int} {N : L2.St → Hp → Prop} {R : VK} {B C' : L2.St → Hp → Prop} {tz : TS}
/-- the instance at p with these fields -/
structure Ins (K : PySem.W.Frag) (D p dp : Addr) (fs : List (Str × V)) (H : Hp) : Prop where
  cl : Cls K D
  at_ : H p = some (.ins D dp fs)
theorem Fr.same1 {F : List Addr} {H H1 H2 : Hp} (a : Same H H1) (b : Fr F H1 H2) : Fr F H H2 := fun x o n h => b x o n (a x o h)
theorem q_fldV (hv : Val tv σ H v) (ha : Val ta σ H (.ref p)) (hp : Ins K D p dp fs H) (no : NoAttr K D f) (hl : fs.length < 1000) (q : ∀ H', Ins K D p dp (putF f v fs) H' → Fr [p] H H' → tz ⟨N, R, B, C'⟩ σ H') : tSeq (sFld K ta tv f) tz ⟨N, R, B, C'⟩ σ H :=
  st_fld (D := ⟨tz ⟨N, R, B, C'⟩, R, B, C'⟩) hv ha hp.at_ hp.cl no hl (q _ ⟨hp.cl, upd_same⟩ (Fr.upd (by simp)))
theorem s_fldV (hv : Val tv σ H v) (ha : Val ta σ H (.ref p)) (hp : Ins K D p dp fs H) (no : NoAttr K D f) (hl : fs.length < 1000) (q : ∀ H', Ins K D p dp (putF f v fs) H' → Fr [p] H H' → N σ H') : sFld K ta tv f ⟨N, R, B, C'⟩ σ H :=
  st_fld (D := ⟨N, R, B, C'⟩) hv ha hp.at_ hp.cl no hl (q _ ⟨hp.cl, upd_same⟩ (Fr.upd (by simp)))
theorem q_fldN (hv : NewL tv σ H xs) (ha : ∀ H', Val ta σ H' (.ref p)) (hp : Ins K D p dp fs H) (no : NoAttr K D f) (hl : fs.length < 1000) (q : ∀ b H', H b = none → b ≠ p → H' b = some (.lst xs) → Ins K D p dp (putF f (.ref b) fs) H' → Fr [p] H H' → tz ⟨N, R, B, C'⟩ σ H') : tSeq (sFld K ta tv f) tz ⟨N, R, B, C'⟩ σ H :=
  hv _ fun b hb => by
    have nb : b ≠ p := fun e => by rw [e, hp.at_] at hb; cases hb
    have hp1 : upd H b (.lst xs) p = some (.ins D dp fs) := by rw [upd_ne nb.symm]; exact hp.at_
    exact ha _ _ ⟨p, D, dp, fs, rfl, hp1, hp.cl, no, hl, q b _ hb nb (by rw [upd_ne nb]; exact upd_same) ⟨hp.cl, upd_same⟩ (Fr.same1 (smN hb) (Fr.upd (by simp)))⟩
theorem q_fldM (hv : ValA tA σ H [.ref a, .int t, .int mr, .int pc]) (hs : SqL K H a (cs.map V.int) ∨ SqT K H a (cs.map V.int)) (ha : ∀ H', Val ta σ H' (.ref p)) (hp : Ins K D p dp fs H) (no : NoAttr K D f) (hl : fs.length < 1000)
    (q : ∀ x dx l H', H x = none → H l = none → l ≠ x → x ≠ p → l ≠ p → H' x = some (.ins C dx (mfs l ⟨cs, t, mr, pc⟩)) → H' l = some (.lst (cs.map V.int)) → Ins K D p dp (putF f (.ref x) fs) H' → Fr [p] H H' → tz ⟨N, R, B, C'⟩ σ H') :
    tSeq (sFld K ta (tMake C (spMachine K C) [] E0 tA) f) tz ⟨N, R, B, C'⟩ σ H := by
    unfold tSeq sFld
    refine x_machine hv hs fun x dx l H1 hx hl0 _ nlx sm => ?_
    have nx : x ≠ p := fun e => by rw [e, hp.at_] at hx; cases hx
    have nl : l ≠ p := fun e => by rw [e, hp.at_] at hl0; cases hl0
    have sm2 : Same H (mput C H1 x dx l ⟨cs, t, mr, pc⟩) := smP sm hx hl0
    exact ha _ _ ⟨p, D, dp, fs, rfl, sm2 _ _ hp.at_, hp.cl, no, hl, q x dx l _ hx hl0 nlx nx nl (by rw [upd_ne nx]; exact mput_p) (by rw [upd_ne nl]; exact mput_l nlx) ⟨hp.cl, upd_same⟩ (Fr.same1 sm2 (Fr.upd (by simp)))⟩
theorem q_fldR (hv : NewRows mk tv σ H rows) (ha : ∀ H', Val ta σ H' (.ref p)) (hp : Ins K D p dp fs H) (no : NoAttr K D f) (hl : fs.length < 1000)
    (q : ∀ b as H', (∀ c ∈ b :: as, H c = none) → (b :: as).Nodup → as.length = rows.length → H' b = some (.lst (as.map V.ref)) → RowsAt mk H' as rows → Ins K D p dp (putF f (.ref b) fs) H' → Fr [p] H H' → tz ⟨N, R, B, C'⟩ σ H') :
    tSeq (sFld K ta tv f) tz ⟨N, R, B, C'⟩ σ H :=
  hv _ fun b as H1 sm hb has nd hlen hd hr => by
    have nb : b ≠ p := fun e => by rw [e, hp.at_] at hb; cases hb
    have nas : ∀ c ∈ as, c ≠ p := fun c hc e => by have := has c hc; rw [e, hp.at_] at this; cases this
    refine ha _ _ ⟨p, D, dp, fs, rfl, sm _ _ hp.at_, hp.cl, no, hl, q b as _ (fun c hc => ?_) nd hlen (by rw [upd_ne nb]; exact hd) (fun i c hc => ?_) ⟨hp.cl, upd_same⟩ (Fr.same1 sm (Fr.upd (by simp)))⟩
    · rcases List.mem_cons.mp hc with h1 | h1
      · rw [h1]; exact hb
      · exact has c h1
    · obtain ⟨r, e1, e2⟩ := hr i c hc
      exact ⟨r, e1, by rw [upd_ne (nas c (List.mem_of_getElem? hc))]; exact e2⟩
theorem Fr.rowsAt {as : List Addr} {H1 : Hp} (f : Fr [p] H H1) (h : RowsAt mk H as rows) (n : ∀ b ∈ as, b ≠ p) : RowsAt mk H1 as rows := fun i b hb => by
  obtain ⟨r, e1, e2⟩ := h i b hb
  exact ⟨r, e1, f _ _ (by simp; exact n b (List.mem_of_getElem? hb)) e2⟩
theorem Fr.one {H1 : Hp} {b : Addr} {o : HO} (f : Fr [p] H H1) (n : b ≠ p) (h : H b = some o) : H1 b = some o := f b o (by simp; exact n) h
theorem Fr.seqL {H1 : Hp} {b : Addr} (f : Fr [p] H H1) (h : SqL K H b xs) (hp : Ins K D p dp fs H) : SqL K H1 b xs := by
  rcases h with (h | ⟨o, h⟩) | h
  · exact .inl (.inl (f.one (fun e => by rw [e, hp.at_] at h; cases h) h))
  · exact .inl (.inr ⟨o, f.one (fun e => by rw [e, hp.at_] at h; cases h) h⟩)
  · exact .inr h
theorem Fr.seqT {H1 : Hp} {b : Addr} (f : Fr [p] H H1) (h : SqT K H b xs) (hp : Ins K D p dp fs H) : SqT K H1 b xs := by
  rcases h with (h | ⟨o, h⟩) | h
  · exact .inl (.inl (f.one (fun e => by rw [e, hp.at_] at h; cases h) h))
  · exact .inl (.inr ⟨o, f.one (fun e => by rw [e, hp.at_] at h; cases h) h⟩)
  · exact .inr h
/-- what is free behind was free before -/
theorem Fr.free {H1 : Hp} {b : Addr} (f : Fr [p] H H1) (hp : Ins K D p dp fs H1) (h : H1 b = none) : H b = none := by
  cases e : H b with
  | none => rfl
  | some o =>
    have n : b ≠ p := fun e => by rw [e, hp.at_] at h; cases h
    rw [f.one n e] at h; cases h
theorem nd_more {b : Addr} {L : List Addr} {o : HO} (h : H b = some o) (hL : ∀ c ∈ L, H c = none) (nd : L.Nodup) : (b :: L).Nodup := List.nodup_cons.mpr ⟨fun hm => (by rw [hL b hm] at h; cases h), nd⟩
end
/-! ### promises of the users' defs -/
def spPre (C D : Addr) (pre : Pn → Prop) (f : Pn → Pn) : Sp := fun vs H Q _ => ∃ (A : PA) (P : Pn), vs = [.ref A.p] ∧ PAt C D H A P ∧ pre P ∧ Nx C D A H (f P) (Q .non)
def spAgain (C D : Addr) : Sp := fun vs H Q _ => ∃ (A : PA) (P : Pn) (s : Str), vs = [.ref A.p, .str s] ∧ PAt C D H A P ∧ Nx C D A H (againP P s) (Q .non)
def spCarry (C D : Addr) : Sp := fun vs H Q _ => ∃ (A : PA) (P : Pn) (b : Bool), vs = [.ref A.p, .bl b] ∧ PAt C D H A P ∧ WfP P ∧ Nx C D A H (carryP P b) (Q .non)
def spAsk (C D : Addr) : Sp := fun vs H Q _ => ∃ (A : PA) (P : Pn) (p : Int), vs = [.ref A.p, .int p] ∧ PAt C D H A P ∧ WfP P ∧ Nx C D A H (askP P p) (Q .non)
def spHeard (C D : Addr) : Sp := fun vs H Q _ => ∃ (A : PA) (P : Pn) (l : Int), vs = [.ref A.p, .int l] ∧ PAt C D H A P ∧ Nx C D A H (heardP P l) (Q .non)
def evV : Ev → List V
  | .key l => [.str "key", .int l]
  | .tick => [.str "tick"]
  | .start p => [.str "start", .int p]
  | .step => [.str "step"]
def Short (P : Pn) : Prop := P.paper.length < 900000
def spHappen (K : PySem.W.Frag) (C D : Addr) : Sp := fun vs H Q _ => ∃ (A : PA) (P : Pn) (a : Addr) (e : Ev), vs = [.ref A.p, .ref a] ∧ PAt C D H A P ∧ WfP P ∧ Short P ∧ SqT K H a (evV e) ∧ Nx C D A H (happenP P e) (Q .non)
def SqI (K : PySem.W.Frag) (H : Hp) (a : Addr) (cs : List Int) : Prop := SqL K H a (cs.map V.int) ∨ SqT K H a (cs.map V.int)
def spPerson (K : PySem.W.Frag) (C D : Addr) : Sp := fun vs H Q _ => ∃ (p dp a : Addr) (cs : List Int) (sw : Int), vs = [.ref p, .ref a, .int sw] ∧ H p = some (.ins D dp []) ∧ SqI K H a cs ∧
  ∀ A H', A.p = p → A.dp = dp → (∀ b ∈ A.foot, b = p ∨ H b = none) → PAt C D H' A (newP cs sw) → Fr [p] H H' → Q .non H'
section
variable {C D : Addr} {H H' : Hp} {A : PA} {P : Pn} {K : PySem.W.Frag} {a : Addr} {xs : List V} {σ : L2.St} {tA : TA} {cs : List Int} {sw : Int}
theorem PAt.setC (h : PAt C D H A P) (xs : List Int) : PAt C D (upd H A.c (.lst (xs.map V.int))) A { P with m := { P.m with cells := xs } } := by
  have n := h.ne
  exact ⟨by rw [upd_ne n.pc]; exact h.hp, by rw [upd_ne n.mc]; exact h.hm, upd_same, by rw [upd_ne n.ci.symm]; exact h.hi, by rw [upd_ne n.co.symm]; exact h.ho, by rw [upd_ne n.cq.symm]; exact h.hq, by rw [upd_ne n.cb.symm]; exact h.hb,
    fun i a ha => by rw [upd_ne (n.bs a (List.mem_of_getElem? ha)).2.2.1]; exact h.hbs i a ha, h.len, h.nd⟩
theorem PAt.obj (h : PAt C D H A P) : ∀ b ∈ A.foot, (∃ C dx fs, H b = some (.ins C dx fs)) ∨ ∃ xs, H b = some (.lst xs) := by
  intro b hb
  unfold PA.foot at hb
  rcases List.mem_append.mp hb with h1 | h1
  · simp only [List.mem_cons, List.not_mem_nil, or_false] at h1
    rcases h1 with rfl | rfl | rfl | rfl | rfl | rfl | rfl
    · exact .inl ⟨_, _, _, h.hp⟩
    · exact .inl ⟨_, _, _, h.hm⟩
    · exact .inr ⟨_, h.hc⟩
    · exact .inr ⟨_, h.hi⟩
    · exact .inr ⟨_, h.ho⟩
    · exact .inr ⟨_, h.hq⟩
    · exact .inr ⟨_, h.hb⟩
  · obtain ⟨i, hi⟩ := List.getElem?_of_mem h1
    obtain ⟨ws, _, w2⟩ := h.hbs i b hi
    exact .inr ⟨_, w2⟩
/-- a tuple stays -/
theorem PAt.tup (h : PAt C D H A P) (f : Fr A.foot H H') (ht : SqT K H a xs) : SqT K H' a xs := by
  rcases ht with (ht | ⟨o, ht⟩) | ht
  · refine .inl (.inl (f _ _ (fun hm => ?_) ht))
    rcases h.obj a hm with ⟨_, _, _, e⟩ | ⟨_, e⟩ <;> rw [e] at ht <;> cases ht
  · refine .inl (.inr ⟨o, f _ _ (fun hm => ?_) ht⟩)
    rcases h.obj a hm with ⟨_, _, _, e⟩ | ⟨_, e⟩ <;> rw [e] at ht <;> cases ht
  · exact .inr ht
/-- a list beside stays -/
theorem PAt.lst (f : Fr A.foot H H') (n : a ∉ A.foot) (ht : SqL K H a xs) : SqL K H' a xs := by
  rcases ht with (ht | ⟨o, ht⟩) | ht
  · exact .inl (.inl (f _ _ n ht))
  · exact .inl (.inr ⟨o, f _ _ n ht⟩)
  · exact .inr ht
/-- the other user stays -/
theorem PAt.other {A2 : PA} {P2 : Pn} (h : PAt C D H A2 P2) (f : Fr A.foot H H') (d : ∀ b ∈ A2.foot, b ∉ A.foot) : PAt C D H' A2 P2 := by
  have k : ∀ b o, b ∈ A2.foot → H b = some o → H' b = some o := fun b o hb e => f b o (d b hb) e
  obtain ⟨f1, f2, f3, f4, f5, f6, f7⟩ := PAt.fp A2
  exact ⟨k _ _ f1 h.hp, k _ _ f2 h.hm, k _ _ f3 h.hc, k _ _ f4 h.hi, k _ _ f5 h.ho, k _ _ f6 h.hq, k _ _ f7 h.hb, fun i b hb => by
    obtain ⟨ws, w1, w2⟩ := h.hbs i b hb
    exact ⟨ws, w1, k _ _ (by unfold PA.foot; exact List.mem_append_right _ (List.mem_of_getElem? hb)) w2⟩, h.len, h.nd⟩
theorem x_person (h : ValA tA σ H [.ref a, .int sw]) (hs : SqI K H a cs) {Q : VK} (q : ∀ A H', (∀ b ∈ A.foot, H b = none) → Same H H' → PAt C D H' A (newP cs sw) → Q (.ref A.p) H') : tMake D (spPerson K C D) [] E0 tA σ H Q :=
  h _ fun x dx nx nd ne => by
    have sm : Same H (upd (upd H dx (.own x)) x (.ins D dx [])) := smM (smN nd) nx
    refine ⟨x, dx, a, cs, sw, rfl, upd_same, hs.imp sm.seq (smT sm), fun A H' e1 e2 fr hA f => ⟨rfl, ?_⟩⟩
    subst e1
    refine q A H' (fun b hb => ?_) (fun b o e => f b o (by simp; exact ne_of_none e nx) (sm b o e)) hA
    rcases fr b hb with h1 | h1
    · rw [h1]; exact nx
    · exact sm.free h1
end
/-! ### pictures -/
theorem strOk_st (s : Str) (h : s = "stopped" ∨ s = "ready" ∨ s = "hears" ∨ s = "says" ∨ s = "sleeps") : PyData.strOk s = true := by
  rcases h with rfl | rfl | rfl | rfl | rfl <;> decide +kernel
def intsD (ns : List Int) : PyData := .tuple (ns.map PyData.int)
def blocksD (bs : List (List Int)) : PyData := .tuple (bs.map intsD)
def shotD (P : Pn) : PyData := .tuple [intsD P.m.cells, .int P.m.total, .int P.m.mark, .int P.m.pc, intsD P.inbox, intsD P.outbox, intsD P.paper, blocksD P.blocks, .int P.sw, .str P.st, .int P.nap, .int P.lost, .int P.done]
def StOk (P : Pn) : Prop := P.st = "stopped" ∨ P.st = "ready" ∨ P.st = "hears" ∨ P.st = "says" ∨ P.st = "sleeps"
theorem canLay_blocks : ∀ bs : List (List Int), PyData.canLayAll0 (bs.map intsD) = true
  | [] => rfl
  | b :: r => by rw [List.map_cons, PyData.canLayAll0, canLay_blocks r, intsD, PyData.canLay0, canLay_ints]; rfl
theorem depth_blocks : ∀ bs : List (List Int), PyData.depthAll (bs.map intsD) ≤ 1
  | [] => Nat.zero_le _
  | b :: r => by
    have := depth_blocks r
    rw [List.map_cons, PyData.depthAll, intsD, PyData.depth, depth_ints]
    omega
theorem shaped_shot {P : Pn} (h : StOk P) : SeqAt.shaped (shotD P) = true := by
  have hs := strOk_st _ h
  have hb := depth_blocks P.blocks
  unfold SeqAt.shaped shotD
  rw [Bool.and_eq_true_iff]
  constructor
  · simp only [PyData.canLay0, PyData.canLayAll0, intsD, blocksD, canLay_ints, canLay_blocks, hs, Bool.and_self, Bool.and_true]
  · apply decide_eq_true
    simp only [PyData.depth, PyData.depthAll, intsD, blocksD, depth_ints]
    have hb' : PyData.depthAll (List.map intsD P.blocks) ≤ 1 := hb
    omega
theorem eqv_ints_refl (ns : List Int) : PyData.eqv (intsD ns) (intsD ns) = true := by unfold intsD; rw [eqv_intsT]; simp
theorem eqvAll_blocks : ∀ bs : List (List Int), PyData.eqvAll (bs.map intsD) (bs.map intsD) = true
  | [] => rfl
  | b :: r => by rw [List.map_cons, PyData.eqvAll, eqv_ints_refl, eqvAll_blocks r]; rfl
theorem eqv_shot (P : Pn) : PyData.eqv (shotD P) (shotD P) = true := by
  unfold shotD
  simp only [PyData.eqv, PyData.eqvAll, eqv_ints_refl, blocksD, eqvAll_blocks, decide_true, Bool.and_self, beq_self_eq_true]
structure ShotAt (K : PySem.W.Frag) (H : Hp) (P : Pn) (a a0 a4 a5 a6 a7 : Addr) (as : List Addr) : Prop where
  top : SqT K H a [.ref a0, .int P.m.total, .int P.m.mark, .int P.m.pc, .ref a4, .ref a5, .ref a6, .ref a7, .int P.sw, .str P.st, .int P.nap, .int P.lost, .int P.done]
  cs : SqT K H a0 (P.m.cells.map V.int)
  ib : SqT K H a4 (P.inbox.map V.int)
  ob : SqT K H a5 (P.outbox.map V.int)
  pp : SqT K H a6 (P.paper.map V.int)
  bl : SqT K H a7 (as.map V.ref)
  len : as.length = P.blocks.length
  row : ∀ (i : Nat) b, as[i]? = some b → ∃ ws, P.blocks[i]? = some ws ∧ SqT K H b (ws.map V.int)
section
variable {K : PySem.W.Frag} {H H' : Hp} {P : Pn} {a a0 a4 a5 a6 a7 : Addr} {as : List Addr} {v : V} {vs : List V}
theorem dpAll_inv : ∀ {ns : List Int} {vs : List V}, DpAll K H vs (ns.map PyData.int) → vs = ns.map V.int
  | [], _, h => by cases h; rfl
  | n :: r, _, h => by
    cases h with
    | cons h1 h2 => cases h1; rw [dpAll_inv h2]; rfl
theorem dp_ints_inv {ns : List Int} (h : Dp K H v (intsD ns)) : ∃ b, v = .ref b ∧ SqT K H b (ns.map V.int) := by
  unfold intsD at h
  cases h with
  | tup h1 h2 => exact ⟨_, rfl, (dpAll_inv h2) ▸ h1⟩
theorem dpAll_rows : ∀ {bs : List (List Int)} {vs : List V}, DpAll K H vs (bs.map intsD) → ∃ as : List Addr, vs = as.map V.ref ∧ as.length = bs.length ∧ ∀ (i : Nat) b, as[i]? = some b → ∃ ws, bs[i]? = some ws ∧ SqT K H b (ws.map V.int)
  | [], _, h => by cases h; exact ⟨[], rfl, rfl, fun i b e => by cases e⟩
  | w :: r, _, h => by
    cases h with
    | cons h1 h2 =>
      obtain ⟨b, rfl, hb⟩ := dp_ints_inv h1
      obtain ⟨as, rfl, hl, hr⟩ := dpAll_rows h2
      refine ⟨b :: as, rfl, by simp [hl], fun i c e => ?_⟩
      cases i with
      | zero => cases e; exact ⟨w, rfl, hb⟩
      | succ i => exact hr i c e
theorem shot_inv (h : Dp K H (.ref a) (shotD P)) : ∃ a0 a4 a5 a6 a7 as, ShotAt K H P a a0 a4 a5 a6 a7 as := by
  unfold shotD at h
  cases h with
  | tup h0 h =>
  cases h with
  | cons z0 h =>
  cases h with
  | cons z1 h =>
  cases h with
  | cons z2 h =>
  cases h with
  | cons z3 h =>
  cases h with
  | cons z4 h =>
  cases h with
  | cons z5 h =>
  cases h with
  | cons z6 h =>
  cases h with
  | cons z7 h =>
  cases h with
  | cons z8 h =>
  cases h with
  | cons z9 h =>
  cases h with
  | cons z10 h =>
  cases h with
  | cons z11 h =>
  cases h with
  | cons z12 h =>
  cases h
  cases z1; cases z2; cases z3; cases z8; cases z9; cases z10; cases z11; cases z12
  obtain ⟨a0, rfl, e0⟩ := dp_ints_inv z0
  obtain ⟨a4, rfl, e4⟩ := dp_ints_inv z4
  obtain ⟨a5, rfl, e5⟩ := dp_ints_inv z5
  obtain ⟨a6, rfl, e6⟩ := dp_ints_inv z6
  unfold blocksD at z7
  cases z7 with
  | tup z7 h7 =>
  obtain ⟨as, rfl, hl, hr⟩ := dpAll_rows h7
  exact ⟨a0, a4, a5, a6, _, as, h0, e0, e4, e5, e6, z7, hl, hr⟩
theorem dp_ints {ns : List Int} (h : SqT K H a (ns.map V.int)) : Dp K H (.ref a) (intsD ns) := dp_intsT h
theorem dpAll_mk : ∀ {bs : List (List Int)} {as : List Addr}, as.length = bs.length → (∀ (i : Nat) b, as[i]? = some b → ∃ ws, bs[i]? = some ws ∧ SqT K H b (ws.map V.int)) → DpAll K H (as.map V.ref) (bs.map intsD)
  | [], [], _, _ => .nil
  | [], _ :: _, h, _ => by cases h
  | _ :: _, [], h, _ => by cases h
  | w :: r, b :: as, hl, h => by
    obtain ⟨ws, e, hb⟩ := h 0 b rfl
    cases e
    exact .cons (dp_ints hb) (dpAll_mk (by simpa using hl) fun i c e => h (i + 1) c e)
theorem ShotAt.dp (h : ShotAt K H P a a0 a4 a5 a6 a7 as) : Dp K H (.ref a) (shotD P) :=
  .tup h.top (.cons (dp_ints h.cs) (.cons (.int _) (.cons (.int _) (.cons (.int _) (.cons (dp_ints h.ib) (.cons (dp_ints h.ob) (.cons (dp_ints h.pp) (.cons (.tup h.bl (dpAll_mk h.len h.row)) (.cons (.int _) (.cons (.str _) (.cons (.int _) (.cons (.int _) (.cons (.int _) .nil)))))))))))))
theorem ShotAt.keep (h : ShotAt K H P a a0 a4 a5 a6 a7 as) (k : ∀ b xs, SqT K H b xs → SqT K H' b xs) : ShotAt K H' P a a0 a4 a5 a6 a7 as :=
  ⟨k _ _ h.top, k _ _ h.cs, k _ _ h.ib, k _ _ h.ob, k _ _ h.pp, k _ _ h.bl, h.len, fun i b e => by obtain ⟨ws, e1, e2⟩ := h.row i b e; exact ⟨ws, e1, k _ _ e2⟩⟩
theorem shot_keep (h : Dp K H (.ref a) (shotD P)) (k : ∀ b xs, SqT K H b xs → SqT K H' b xs) : Dp K H' (.ref a) (shotD P) := by
  obtain ⟨_, _, _, _, _, _, h⟩ := shot_inv h
  exact (h.keep k).dp
end
def spPicture (K : PySem.W.Frag) (C D : Addr) : Sp := fun vs H Q _ => ∃ (A : PA) (P : Pn), vs = [.ref A.p] ∧ PAt C D H A P ∧ P.blocks.length = 4 ∧ ∀ a H', Same H H' → Dp K H' (.ref a) (shotD P) → Q (.ref a) H'
def spPersonOf (K : PySem.W.Frag) (C D : Addr) : Sp := fun vs H Q _ => ∃ (a : Addr) (P : Pn), vs = [.ref a] ∧ Dp K H (.ref a) (shotD P) ∧ P.blocks.length = 4 ∧ ∀ A H', (∀ b ∈ A.foot, H b = none) → Same H H' → PAt C D H' A P → Q (.ref A.p) H'
def runP (P : Pn) (es : List Ev) : Pn := es.foldl happenP P
section
variable {σ : L2.St} {H : Hp} {K : PySem.W.Frag} {a D : Addr} {ta te : TE} {tA : TA} {xs : List V} {ns : List Int}
def rTupOf (K : PySem.W.Frag) : List V → Hp → VK → Prop := fun xs H Q => ∃ p ys, xs = [.ref p] ∧ ((SqL K H p ys ∧ ∀ l, H l = none → Q (.ref l) (upd H l (.tup ys))) ∨ (SqT K H p ys ∧ Q (.ref p) H))
/-- tuple(l) of a list: a new one -/
theorem x_tupL {Q : VK} (h : Val ta σ H (.ref a)) (hs : SqL K H a xs) (q : ∀ T H', Same H H' → H' T = some (.tup xs) → Q (.ref T) H') : tCB (rTupOf K) (tCons ta tNil) σ H Q := h _ ⟨a, xs, rfl, .inl ⟨hs, fun l hl => q l _ (smN hl) upd_same⟩⟩
theorem x_tupX {Q : VK} (h : ta σ H fun v H1 => rTupOf K [v] H1 Q) : tCB (rTupOf K) (tCons ta tNil) σ H Q := h
theorem no_tupL (h : Val ta σ H (.ref a)) (hs : SqL K H a xs) : NewO HO.tup (tCB (rTupOf K) (tCons ta tNil)) σ H xs := fun _ q => h _ ⟨a, xs, rfl, .inl ⟨hs, q⟩⟩
theorem no_list (h : Val ta σ H (.ref a)) (hs : SqL K H a xs ∨ SqT K H a xs) : NewO HO.lst (tCB (rListS K) (tCons ta tNil)) σ H xs := fun _ q => h _ ⟨a, xs, rfl, hs, q⟩
theorem xt_tup {Q : VK} (h : tA σ H fun vs H1 => vs.length ≤ sizeLine ∧ ∀ p, H1 p = none → Q (.ref p) (upd H1 p (.tup vs))) : tTup tA σ H Q := h
theorem xa_cons {Q : List V → Hp → Prop} (h : ta σ H fun x H1 => tA σ H1 fun xs H2 => Q (x :: xs) H2) : tCons ta tA σ H Q := h
theorem xa_nil {Q : List V → Hp → Prop} (h : Q [] H) : tNil σ H Q := h
theorem x_tup {Q : VK} (h : tA σ H fun vs H1 => vs.length ≤ 1000 ∧ ∀ p, H1 p = none → Q (.ref p) (upd H1 p (.tup vs))) (m : ∀ Q1 Q2 : List V → Hp → Prop, (∀ vs H, Q1 vs H → Q2 vs H) → tA σ H Q1 → tA σ H Q2) : tTup tA σ H Q :=
  m _ _ (fun vs H1 h => ⟨Nat.le_trans h.1 (by rw [sizeLine_eq]; decide), h.2⟩) h
theorem k_line {n : Nat} (h : n ≤ 1000) : n ≤ sizeLine := Nat.le_trans h (by rw [sizeLine_eq]; decide)
end
theorem Tx.pt {K : PySem.W.Frag} {mg : Str → Option Value} (T : Tx K mg) : PTx K (He.ga K "Person") := ⟨T.cls 68, T.no 70, T.no 71, T.no 72, T.no 73, T.no 74, T.no 75, T.no 76, T.no 77, T.no 78, T.no 79⟩


section
variable {P : Program} {w : World} {K : PySem.W.Frag} {mg : Str → Option Value} {base : Heap}

theorem sc_again : FnScope ["person", "state"] ["person", "state"] (defScope s_again) := ⟨rfl, rfl, rfl, by decide +kernel, rfl, by decide +kernel, by decide +kernel⟩
theorem cal_again (T : Tx K mg) : Cal P w K mg base 1 "again" ["person", "state"] (spAgain (He.ga K "Machine") (He.ga K "Person")) := by
  refine cal_mk T 9 9 rfl rfl sc_again (fun _ _ _ _ _ _ us hl => match us, hl with | [_, _], _ => rfl) (fun vs H Q E h => ?_) (fun f cdv A outer s H vs Q E hr h => ?_)
  · obtain ⟨A, P, s, rfl, h, k⟩ := h
    rfl
  · obtain ⟨A, P, s, rfl, h, k⟩ := h
    have M := T.mt
    have U := T.pt
    refine ⟨_, (pss_cons (ps_fld (pe_fld (pv 0) rfl) (pe_op op_mod (pe_op op_sub (pe_fld (pe_fld (pv 0) rfl) rfl) pe_int) pe_int) rfl) (pss_one (ps_fld (pv 0) (pv 1) rfl))), ?_⟩
    refine qp_at M h (v_mod (v_sub (vp_at M h (vp_machine U h (v_var rfl))) v_c) v_c (by decide)) (vp_machine U h (v_var rfl)) (fun H1 h1 f1 => ?_)
    refine sp_state U h1 (v_var rfl) (v_var rfl) (fun H2 h2 f2 => ?_)
    exact k H2 h2 (f1.trans f2)

theorem sc_hear : FnScope ["person"] ["person"] (defScope s_hear) := ⟨rfl, rfl, rfl, by decide +kernel, rfl, by decide +kernel, by decide +kernel⟩
theorem cal_hear (T : Tx K mg) : Cal P w K mg base 2 "hear" ["person"] (spPre (He.ga K "Machine") (He.ga K "Person") (fun _ => True) hearP) := by
  refine cal_mk T 10 10 rfl rfl sc_hear (fun _ _ _ _ _ _ us hl => match us, hl with | [_], _ => rfl) (fun vs H Q E h => ?_) (fun f cdv A outer s H vs Q E hr h => ?_)
  · obtain ⟨A, P, rfl, h, _, k⟩ := h
    rfl
  · obtain ⟨A, P, rfl, h, _, k⟩ := h
    have M := T.mt
    have U := T.pt
    refine ⟨_, (pss_one (ps_if (pt_not (pt_truth (pe_fld (pv 0) rfl) (by intro _; rfl))) (pss_one (ps_expr (pe_cal (cal_again (K := K) T) hr (by decide) rfl (pa_cons (pv 0) (pa_cons pe_str pa_nil))))) (pss_one (ps_fld (pe_fld (pv 0) rfl) (pe_bm PySem.F.plainAttrs_list PySem.F.slot_list_pop PySem.F.type_list_pop mt_popAt (pe_fld (pv 0) rfl) (pa_cons pe_int pa_nil)) rfl)))), ?_⟩
    unfold hearP at k
    refine s_if (a_not (a_truL (vp_inbox U h (v_var rfl)) h.hi)) (fun h1 => ?_) (fun h1 => ?_)
    · have e : P.inbox = [] := by cases hx : P.inbox with
        | nil => rfl
        | cons x r => rw [hx] at h1; cases h1
      rw [e] at k
      exact s_do (va_cons (v_var rfl) (va_cons v_c va_nil)) ⟨A, P, "hears", rfl, h, k⟩
    · cases hx : P.inbox with
      | nil => rw [hx] at h1; cases h1
      | cons x r =>
        rw [hx] at k
        have hi := h.hi
        rw [hx, List.map_cons] at hi
        refine x_pop0 (vp_inbox U h (v_var rfl)) hi v_c ?_
        have h2 := h.setI r
        refine sp_total M h2 (tv := tC (.int x)) v_c (vp_machine U h2 (v_var rfl)) (fun H3 h3 f3 => ?_)
        exact k H3 h3 ((Fr.upd (PAt.fp A).2.2.2.1).trans f3)

theorem sc_say : FnScope ["person"] ["person"] (defScope s_say) := ⟨rfl, rfl, rfl, by decide +kernel, rfl, by decide +kernel, by decide +kernel⟩
theorem cal_say (T : Tx K mg) : Cal P w K mg base 2 "say" ["person"] (spPre (He.ga K "Machine") (He.ga K "Person") (fun P => P.outbox.length < 1000000) sayP) := by
  refine cal_mk T 11 11 rfl rfl sc_say (fun _ _ _ _ _ _ us hl => match us, hl with | [_], _ => rfl) (fun vs H Q E h => ?_) (fun f cdv A outer s H vs Q E hr h => ?_)
  · obtain ⟨A, P, rfl, h, hl, k⟩ := h
    rfl
  · obtain ⟨A, P, rfl, h, hl, k⟩ := h
    have M := T.mt
    have U := T.pt
    refine ⟨_, (pss_one (ps_if (pt_cmpR op_eq (pe_callB call_len_seq (by rfl) (T.free 51) PySem.boot_len (pa_cons (pe_fld (pv 0) rfl) pa_nil)) (pe_globI (by rfl) (T.int 104)) (nomark _)) (pss_one (ps_expr (pe_cal (cal_again (K := K) T) hr (by decide) rfl (pa_cons (pv 0) (pa_cons pe_str pa_nil))))) (pss_one (ps_expr (pe_bm PySem.F.plainAttrs_list PySem.F.slot_list_append PySem.F.type_list_append mt_append (pe_fld (pv 0) rfl) (pa_cons (pe_op op_mod (pe_fld (pe_fld (pv 0) rfl) rfl) pe_int) pa_nil)))))), ?_⟩
    unfold sayP at k
    refine s_if (a_t (v_eqI (v_lenI (vp_outbox U h (v_var rfl)) h.ho) v_c)) (fun h1 => ?_) (fun h1 => ?_)
    · have g := of_decide_eq_true h1
      rw [if_pos (by omega)] at k
      exact s_do (va_cons (v_var rfl) (va_cons v_c va_nil)) ⟨A, P, "says", rfl, h, k⟩
    · have g := of_decide_eq_false h1
      rw [if_neg (by omega)] at k
      refine sx_drop (x_append (vp_outbox U h (v_var rfl)) h.ho (by rw [List.length_map]; exact hl) (v_mod (vp_total M h (vp_machine U h (v_var rfl))) v_c (by decide)) ?_)
      rw [show P.outbox.map V.int ++ [V.int (P.m.total % 256)] = (P.outbox ++ [P.m.total % 256]).map V.int by simp]
      exact k _ (h.setO _) (Fr.upd (PAt.fp A).2.2.2.2.1)

theorem sc_doze : FnScope ["person"] ["person"] (defScope s_doze) := ⟨rfl, rfl, rfl, by decide +kernel, rfl, by decide +kernel, by decide +kernel⟩
theorem cal_doze (T : Tx K mg) : Cal P w K mg base 1 "doze" ["person"] (spPre (He.ga K "Machine") (He.ga K "Person") (fun _ => True) dozeP) := by
  refine cal_mk T 12 12 rfl rfl sc_doze (fun _ _ _ _ _ _ us hl => match us, hl with | [_], _ => rfl) (fun vs H Q E h => ?_) (fun f cdv A outer s H vs Q E hr h => ?_)
  · obtain ⟨A, P, rfl, h, _, k⟩ := h
    rfl
  · obtain ⟨A, P, rfl, h, _, k⟩ := h
    have M := T.mt
    have U := T.pt
    refine ⟨_, (pss_one (ps_if (pt_cmpR op_gt (pe_fld (pe_fld (pv 0) rfl) rfl) pe_int (nomark _)) (pss_cons (ps_fld (pv 0) (pe_fld (pe_fld (pv 0) rfl) rfl) rfl) (pss_cons (ps_fld (pe_fld (pv 0) rfl) pe_int rfl) (pss_one (ps_fld (pv 0) pe_str rfl)))) pss_nil)), ?_⟩
    unfold dozeP at k
    refine s_if (a_t (v_gt (vp_total M h (vp_machine U h (v_var rfl))) v_c)) (fun h1 => ?_) (fun h1 => ?_)
    · rw [if_pos (of_decide_eq_true h1)] at k
      refine qp_nap U h (vp_total M h (vp_machine U h (v_var rfl))) (v_var rfl) (fun H1 g1 f1 => ?_)
      refine qp_total M g1 v_c (vp_machine U g1 (v_var rfl)) (fun H2 g2 f2 => ?_)
      refine sp_state U g2 v_c (v_var rfl) (fun H3 g3 f3 => ?_)
      exact k H3 g3 ((f1.trans f2).trans f3)
    · rw [if_neg (of_decide_eq_false h1)] at k
      exact s_next (k _ h Fr.refl)

theorem sc_carry : FnScope ["person", "fetches", "machine", "place", "block", "k"] ["person", "fetches"] (defScope s_carry) := ⟨rfl, rfl, rfl, by decide +kernel, rfl, by decide +kernel, by decide +kernel⟩
theorem cal_carry (T : Tx K mg) : Cal P w K mg base 2 "carry" ["person", "fetches"] (spCarry (He.ga K "Machine") (He.ga K "Person")) := by
  refine cal_mk T 13 13 rfl rfl sc_carry (fun _ _ _ _ _ _ us hl => match us, hl with | [_, _], _ => rfl) (fun vs H Q E h => ?_) (fun f cdv A outer s H vs Q E hr h => ?_)
  · obtain ⟨A, P, b, rfl, h, w, k⟩ := h
    rfl
  · obtain ⟨A, P, b, rfl, h, w, k⟩ := h
    have M := T.mt
    have U := T.pt
    refine ⟨_, (pss_cons (ps_set (i := 2) sc_carry.nd rfl (Or.inl rfl) (pe_fld (pv 0) rfl)) (pss_cons (ps_set (i := 3) sc_carry.nd rfl (Or.inl rfl) (pe_op op_mod (pe_ix ix_list (pe_fld (pv 2) rfl) (pe_fld (pv 2) rfl) (fun _ _ => rfl)) pe_int)) (pss_cons (ps_expr (pe_cal (cal_skip (K := K) T) hr (by decide) rfl (pa_cons (pv 2) pa_nil))) (pss_cons (ps_if (pt_cmpR op_gt (pe_fld (pv 2) rfl) pe_int (nomark _)) (pss_cons (ps_fld (pv 2) pe_int rfl) (pss_one (ps_ret pe_non))) pss_nil) (pss_cons (ps_set (i := 4) sc_carry.nd rfl (Or.inl rfl) (pe_ix ix_list (pe_fld (pv 0) rfl) (pe_fld (pv 2) rfl) (fun _ _ => rfl))) (pss_cons (ps_for PassesOwn.never rfl (pi_range1 (by rfl) (T.free 53) (pa_cons pe_int pa_nil)) (pg_name (i := 5) sc_carry.nd rfl (Or.inl rfl)) (pss_one (ps_if (pt_val (pv 1)) (pss_one (ps_asg (pe_ix ix_list (pv 4) (pv 5) (fun _ _ => rfl)) (pg_sub (pe_fld (pv 2) rfl) (pe_op op_mod (pe_op op_add (pv 3) (pv 5)) pe_int) set_list))) (pss_one (ps_asg (pe_ix ix_list (pe_fld (pv 2) rfl) (pe_op op_mod (pe_op op_add (pv 3) (pv 5)) pe_int) (fun _ _ => rfl)) (pg_sub (pv 4) (pv 5) set_list)))))) (pss_cons (ps_fld (pv 2) pe_int rfl) (pss_one (ps_ret pe_non))))))))), ?_⟩
    have t0 := w.wm.tlo
    have pl := w.wm.lo
    have ph := w.wm.hi
    have cl := w.wm.len
    refine q_set (vp_machine U h (v_var rfl)) ?_
    refine q_set (v_mod (v_ixLI (vf_cells M h.hm (v_var rfl)) (vp_at M h (v_var rfl)) (SqL.of h.hc) pl (by omega)) v_c (by decide)) ?_
    have pe : P.m.cells.getD P.m.pc.toNat 0 % 64 = getC P.m P.m.pc % 64 := rfl
    rw [pe]
    have p0 : 0 ≤ getC P.m P.m.pc % 64 ∧ getC P.m P.m.pc % 64 < 64 := by omega
    unfold carryP at k
    dsimp only at k
    generalize getC P.m P.m.pc % 64 = pp at p0 k ⊢
    refine q_do (va_cons (v_var rfl) va_nil) ⟨H, A.m, A.dm, A.c, P.m, rfl, h.eqm, ?_⟩
    dsimp only
    obtain ⟨g1, f1⟩ := h.setM (Same.refl H) (skipM P.m)
    generalize mput _ H A.m A.dm A.c (skipM P.m) = H1 at g1 f1 ⊢
    refine q_if (a_t (v_gt (vp_total M g1 (v_var rfl)) v_c)) (fun c1 => ?_) (fun c1 => ?_)
    · have c2 : 3 < P.m.total := of_decide_eq_true c1
      rw [if_pos c2] at k
      refine qp_total M g1 v_c (v_var rfl) (fun H2 g2 f2 => ?_)
      exact s_ret v_c (k _ g2 (f1.trans f2))
    refine s_next ?_
    have c2 : ¬ 3 < P.m.total := of_decide_eq_false c1
    rw [if_neg c2] at k
    have hb := block_in w (i := P.m.total.toNat) (by omega)
    have hlen := g1.len
    obtain ⟨B, hB⟩ : ∃ B, A.bs[P.m.total.toNat]? = some B := ⟨_, List.getElem?_eq_getElem (by omega)⟩
    obtain ⟨ws, w1, w2⟩ := g1.hbs _ _ hB
    have ew : ws = P.blocks.getD P.m.total.toNat [] := Option.some.inj (w1.symm.trans hb.1)
    subst ew
    refine q_set (v_ixL (vp_blocks U g1 (v_var rfl)) (vp_total M g1 (v_var rfl)) (SqL.of g1.hb) t0 (by rw [List.getElem?_map]; show (A.bs[P.m.total.toNat]?).map V.ref = _; rw [hB]; rfl)) ?_
    have wf := hb.2.1
    have nBc : B ≠ A.c := (g1.ne.bs B (List.mem_of_getElem? hB)).2.2.1
    generalize hbk : P.blocks.getD P.m.total.toNat [] = bk at wf w1 w2 k hb
    cases b with
    | true =>
      rw [if_pos rfl] at k
      refine q_forR (va_cons v_c va_nil) (by decide) (fun i σ' H' => (∃ x, σ' = [some (.ref A.p), some (.bl true), some (.ref A.m), some (.int pp), some (.ref B), x]) ∧ PAt (He.ga K "Machine") (He.ga K "Person") H' A { P with m := { skipM P.m with cells := fetchN P.m.cells bk pp i } } ∧ Fr A.foot H H' ∧ H' B = some (.lst (bk.map V.int))) ⟨⟨_, rfl⟩, g1, f1, w2⟩ (fun (i : Nat) σ' H' hi pv => ?_) (fun σ' H' pv => ?_)
      · obtain ⟨⟨x, rfl⟩, gi, fi, hBi⟩ := pv
        refine s_if (a_B (v_var rfl)) (fun _ => ?_) (fun h => by cases h)
        refine s_setItem (v_ixLI (v_var rfl) (v_var rfl) (SqL.of hBi) (by omega) (by omega)) (vf_cells M gi.hm (v_var rfl)) (v_mod (v_add (v_var rfl) (v_var rfl)) v_c (by decide)) gi.hc (by omega) (by show _ < ((fetchN _ _ _ _).length : Int); rw [fetchN_len]; omega) ?_
        refine ⟨⟨_, rfl⟩, gi.setC _, fi.trans (Fr.upd (PAt.fp A).2.2.1), ?_⟩
        rw [upd_ne nBc]; exact hBi
      · obtain ⟨⟨x, rfl⟩, gi, fi, _⟩ := pv
        refine qp_total M gi v_c (v_var rfl) (fun H2 g2 f2 => ?_)
        exact s_ret v_c (k _ g2 (fi.trans f2))
    | false =>
      rw [if_neg Bool.false_ne_true] at k
      have hl4 := w.bk
      refine q_forR (va_cons v_c va_nil) (by decide) (fun i σ' H' => (∃ x, σ' = [some (.ref A.p), some (.bl false), some (.ref A.m), some (.int pp), some (.ref B), x]) ∧ PAt (He.ga K "Machine") (He.ga K "Person") H' A { P with m := skipM P.m, blocks := P.blocks.set P.m.total.toNat (storeN P.m.cells bk pp i) } ∧ Fr A.foot H H' ∧ H' B = some (.lst ((storeN P.m.cells bk pp i).map V.int))) ⟨⟨_, rfl⟩, ?_, f1, w2⟩ (fun (i : Nat) σ' H' hi pv => ?_) (fun σ' H' pv => ?_)
      · have e : P.blocks.set P.m.total.toNat bk = P.blocks := by
          apply List.ext_getElem?
          intro j
          by_cases hj : P.m.total.toNat = j
          · subst hj; rw [List.getElem?_set_self (by omega), w1]
          · rw [List.getElem?_set_ne hj]
        show PAt (He.ga K "Machine") (He.ga K "Person") H1 A { P with m := skipM P.m, blocks := P.blocks.set P.m.total.toNat bk }
        rw [e]; exact g1
      · obtain ⟨⟨x, rfl⟩, gi, fi, hBi⟩ := pv
        refine s_if (a_B (v_var rfl)) (fun h => by cases h) (fun _ => ?_)
        refine s_setItem (v_ixLI (vf_cells M gi.hm (v_var rfl)) (v_mod (v_add (v_var rfl) (v_var rfl)) v_c (by decide)) (SqL.of gi.hc) (by omega) (by show _ < (P.m.cells.length : Int); omega)) (v_var rfl) (v_var rfl) hBi (by omega) (by rw [storeN_len]; omega) ?_
        have st := gi.setB hB (by show (List.set _ _ _).length = 4; rw [List.length_set]; exact hl4) (storeN P.m.cells bk pp (i + 1))
        have e2 : (P.blocks.set P.m.total.toNat (storeN P.m.cells bk pp i)).set P.m.total.toNat (storeN P.m.cells bk pp (i + 1)) = P.blocks.set P.m.total.toNat (storeN P.m.cells bk pp (i + 1)) := List.set_set ..
        dsimp only at st
        rw [e2] at st
        refine ⟨⟨_, rfl⟩, st, fi.trans (Fr.upd (by unfold PA.foot; exact List.mem_append_right _ (List.mem_of_getElem? hB))), upd_same⟩
      · obtain ⟨⟨x, rfl⟩, gi, fi, _⟩ := pv
        refine qp_total M gi v_c (v_var rfl) (fun H2 g2 f2 => ?_)
        exact s_ret v_c (k _ g2 (fi.trans f2))

theorem sc_heard : FnScope ["person", "letter"] ["person", "letter"] (defScope s_heard) := ⟨rfl, rfl, rfl, by decide +kernel, rfl, by decide +kernel, by decide +kernel⟩
theorem cal_heard (T : Tx K mg) : Cal P w K mg base 1 "heard" ["person", "letter"] (spHeard (He.ga K "Machine") (He.ga K "Person")) := by
  refine cal_mk T 15 15 rfl rfl sc_heard (fun _ _ _ _ _ _ us hl => match us, hl with | [_, _], _ => rfl) (fun vs H Q E h => ?_) (fun f cdv A outer s H vs Q E hr h => ?_)
  · obtain ⟨A, P, l, rfl, h, k⟩ := h
    rfl
  · obtain ⟨A, P, l, rfl, h, k⟩ := h
    have M := T.mt
    have U := T.pt
    refine ⟨_, (C8.pss_cut (ps_if (pt_cmpR op_lt (pe_callB call_len_seq (by rfl) (T.free 51) PySem.boot_len (pa_cons (pe_fld (pv 0) rfl) pa_nil)) (pe_globI (by rfl) (T.int 104)) (nomark _)) (pss_one (ps_expr (pe_bm PySem.F.plainAttrs_list PySem.F.slot_list_append PySem.F.type_list_append mt_append (pe_fld (pv 0) rfl) (pa_cons (pv 1) pa_nil)))) (pss_one (ps_fld (pv 0) (pe_op op_add (pe_fld (pv 0) rfl) pe_int) rfl))) (pss_one (ps_if (pt_cmpR op_eq (pe_fld (pv 0) rfl) pe_str (nomark _)) (pss_one (ps_fld (pv 0) pe_str rfl)) pss_nil))), ?_⟩
    unfold heardP at k
    refine q_rel (fun σ' H' => σ' = [some (.ref A.p), some (.int l)] ∧ PAt (He.ga K "Machine") (He.ga K "Person") H' A (if P.inbox.length < 16 then { P with inbox := P.inbox ++ [l] } else { P with lost := P.lost + 1 }) ∧ Fr A.foot H H') ?_ ?_
    · refine s_if (a_t (v_lt (v_lenI (vp_inbox U h (v_var rfl)) h.hi) v_c)) (fun h1 => ?_) (fun h1 => ?_)
      · have g := of_decide_eq_true h1
        rw [if_pos (by omega)]
        refine sx_drop (x_append (vp_inbox U h (v_var rfl)) h.hi (by rw [List.length_map]; omega) (v_var rfl) ?_)
        rw [show P.inbox.map V.int ++ [V.int l] = (P.inbox ++ [l]).map V.int by simp]
        exact ⟨rfl, h.setI _, Fr.upd (PAt.fp A).2.2.2.1⟩
      · have g := of_decide_eq_false h1
        rw [if_neg (by omega)]
        exact sp_lost U h (v_add (vp_lost U h (v_var rfl)) v_c) (v_var rfl) (fun H1 g1 f1 => ⟨rfl, g1, f1⟩)
    rintro _ H1 ⟨rfl, g1, f1⟩
    generalize (if P.inbox.length < 16 then { P with inbox := P.inbox ++ [l] } else { P with lost := P.lost + 1 } : Pn) = P1 at g1 k
    unfold wakeP at k
    refine s_if (a_t (v_eqS (vp_state U g1 (v_var rfl)) v_c)) (fun h1 => ?_) (fun h1 => ?_)
    · rw [if_pos (of_decide_eq_true h1)] at k
      exact sp_state U g1 v_c (v_var rfl) (fun H2 g2 f2 => k _ g2 (f1.trans f2))
    · rw [if_neg (of_decide_eq_false h1)] at k
      exact s_next (k _ g1 f1)

theorem sc_ticked : FnScope ["person"] ["person"] (defScope s_ticked) := ⟨rfl, rfl, rfl, by decide +kernel, rfl, by decide +kernel, by decide +kernel⟩
theorem cal_ticked (T : Tx K mg) : Cal P w K mg base 1 "ticked" ["person"] (spPre (He.ga K "Machine") (He.ga K "Person") Short tickedP) := by
  refine cal_mk T 16 16 rfl rfl sc_ticked (fun _ _ _ _ _ _ us hl => match us, hl with | [_], _ => rfl) (fun vs H Q E h => ?_) (fun f cdv A outer s H vs Q E hr h => ?_)
  · obtain ⟨A, P, rfl, h, hl, k⟩ := h
    rfl
  · obtain ⟨A, P, rfl, h, hl, k⟩ := h
    have M := T.mt
    have U := T.pt
    refine ⟨_, (C8.pss_cut (ps_if (pt_truth (pe_fld (pv 0) rfl) (by intro _; rfl)) (pss_cons (ps_expr (pe_bm PySem.F.plainAttrs_list PySem.F.slot_list_append PySem.F.type_list_append mt_append (pe_fld (pv 0) rfl) (pa_cons (pe_bm PySem.F.plainAttrs_list PySem.F.slot_list_pop PySem.F.type_list_pop mt_popAt (pe_fld (pv 0) rfl) (pa_cons pe_int pa_nil)) pa_nil))) (pss_one (ps_if (pt_cmpR op_eq (pe_fld (pv 0) rfl) pe_str (nomark _)) (pss_one (ps_fld (pv 0) pe_str rfl)) pss_nil))) pss_nil) (pss_one (ps_if (pt_cmpR op_eq (pe_fld (pv 0) rfl) pe_str (nomark _)) (pss_cons (ps_fld (pv 0) (pe_op op_sub (pe_fld (pv 0) rfl) pe_int) rfl) (pss_one (ps_if (pt_cmpR op_eq (pe_fld (pv 0) rfl) pe_int (nomark _)) (pss_one (ps_fld (pv 0) pe_str rfl)) pss_nil))) pss_nil))), ?_⟩
    unfold tickedP at k
    refine q_rel (fun σ' H' => σ' = [some (.ref A.p)] ∧ PAt (He.ga K "Machine") (He.ga K "Person") H' A (tick1P P) ∧ Fr A.foot H H') ?_ ?_
    · refine s_if (a_truL (vp_outbox U h (v_var rfl)) h.ho) (fun h1 => ?_) (fun h1 => ?_)
      · cases hx : P.outbox with
        | nil => rw [hx] at h1; cases h1
        | cons x r =>
          have ho := h.ho
          rw [hx, List.map_cons] at ho
          have et : tick1P P = wakeP { P with outbox := r, paper := P.paper ++ [x] } "says" := by unfold tick1P; rw [hx]
          rw [et]
          refine qx_drop (x_appendX (vp_paper U h (v_var rfl)) h.hq (x_pop0 (vp_outbox U h (v_var rfl)) ho v_c ?_))
          have h2 := h.setO r
          refine ⟨A.pp, _, V.int x, rfl, rfl, h2.hq, lt_line (by rw [List.length_map]; unfold Short at hl; show P.paper.length < _; omega), ?_⟩
          rw [show P.paper.map V.int ++ [V.int x] = (P.paper ++ [x]).map V.int by simp]
          have h3 := h2.setQ (P.paper ++ [x])
          have f3 : Fr A.foot H (upd (upd H A.ob (.lst (r.map V.int))) A.pp (.lst ((P.paper ++ [x]).map V.int))) := (Fr.upd (PAt.fp A).2.2.2.2.1).trans (Fr.upd (PAt.fp A).2.2.2.2.2.1)
          unfold wakeP
          refine s_if (a_t (v_eqS (vp_state U h3 (v_var rfl)) v_c)) (fun h1 => ?_) (fun h1 => ?_)
          · rw [if_pos (of_decide_eq_true h1)]
            exact sp_state U h3 v_c (v_var rfl) (fun H2 g2 f2 => ⟨rfl, g2, f3.trans f2⟩)
          · rw [if_neg (of_decide_eq_false h1)]
            exact s_next ⟨rfl, h3, f3⟩
      · have e : P.outbox = [] := by cases hx : P.outbox with
          | nil => rfl
          | cons x r => rw [hx] at h1; cases h1
        have et : tick1P P = P := by unfold tick1P; rw [e]
        rw [et]
        exact s_next ⟨rfl, h, Fr.refl⟩
    rintro _ H1 ⟨rfl, g1, f1⟩
    generalize tick1P P = P1 at g1 k
    unfold tick2P at k
    refine s_if (a_t (v_eqS (vp_state U g1 (v_var rfl)) v_c)) (fun h1 => ?_) (fun h1 => ?_)
    · rw [if_pos (of_decide_eq_true h1)] at k
      refine qp_nap U g1 (v_sub (vp_nap U g1 (v_var rfl)) v_c) (v_var rfl) (fun H2 g2 f2 => ?_)
      refine s_if (a_t (v_eqI (vp_nap U g2 (v_var rfl)) v_c)) (fun h2 => ?_) (fun h2 => ?_)
      · rw [if_pos (of_decide_eq_true h2)] at k
        exact sp_state U g2 v_c (v_var rfl) (fun H3 g3 f3 => k _ g3 ((f1.trans f2).trans f3))
      · rw [if_neg (of_decide_eq_false h2)] at k
        exact s_next (k _ g2 (f1.trans f2))
    · rw [if_neg (of_decide_eq_false h1)] at k
      exact s_next (k _ g1 f1)

theorem sc_ask : FnScope ["person", "place"] ["person", "place"] (defScope s_ask) := ⟨rfl, rfl, rfl, by decide +kernel, rfl, by decide +kernel, by decide +kernel⟩
theorem cal_ask (T : Tx K mg) : Cal P w K mg base 3 "ask" ["person", "place"] (spAsk (He.ga K "Machine") (He.ga K "Person")) := by
  refine cal_mk T 14 14 rfl rfl sc_ask (fun _ _ _ _ _ _ us hl => match us, hl with | [_, _], _ => rfl) (fun vs H Q E h => ?_) (fun f cdv A outer s H vs Q E hr h => ?_)
  · obtain ⟨A, P, p, rfl, h, w, k⟩ := h
    rfl
  · obtain ⟨A, P, p, rfl, h, w, k⟩ := h
    have M := T.mt
    have U := T.pt
    refine ⟨_, (pss_one (ps_if (PW.pt (pw_or (PW.pt (pw_and (pt_cmpR op_eq (pv 1) pe_int (nomark _)) (pw_and1 (pt_truth (pe_fld (pv 0) rfl) (by intro _; rfl))))) (pw_or1 (PW.pt (pw_and (pt_cmpR op_eq (pv 1) pe_int (nomark _)) (pw_and1 (pt_cmpR op_lt (pe_callB call_len_seq (by rfl) (T.free 51) PySem.boot_len (pa_cons (pe_fld (pv 0) rfl) pa_nil)) (pe_globI (by rfl) (T.int 104)) (nomark _)))))))) (pss_one (ps_expr (pe_cal (cal_skip (K := K) T) hr (by decide) rfl (pa_cons (pe_fld (pv 0) rfl) pa_nil)))) (pss_one (ps_if (pt_cmpR op_eq (pv 1) pe_int (nomark _)) (pss_one (ps_expr (pe_cal (cal_hear (K := K) T) hr (by decide) rfl (pa_cons (pv 0) pa_nil)))) (pss_one (ps_if (pt_cmpR op_eq (pv 1) pe_int (nomark _)) (pss_one (ps_expr (pe_cal (cal_say (K := K) T) hr (by decide) rfl (pa_cons (pv 0) pa_nil)))) (pss_one (ps_if (pt_cmpR op_eq (pv 1) pe_int (nomark _)) (pss_one (ps_expr (pe_cal (cal_doze (K := K) T) hr (by decide) rfl (pa_cons (pv 0) pa_nil)))) (pss_one (ps_if (PW.pt (pw_or (pt_cmpR op_eq (pv 1) pe_int (nomark _)) (pw_or1 (pt_cmpR op_eq (pv 1) pe_int (nomark _))))) (pss_one (ps_expr (pe_cal (cal_carry (K := K) T) hr (by decide) rfl (pa_cons (pv 0) (pa_cons (pe_cmpR op_eq (pv 1) pe_int (nomark _)) pa_nil))))) (pss_one (ps_if (pt_cmpR op_eq (pv 1) pe_int (nomark _)) (pss_one (ps_fld (pv 0) pe_str rfl)) (pss_one (ps_if (pt_cmpR op_eq (pv 1) pe_int (nomark _)) (pss_one (ps_fld (pe_fld (pv 0) rfl) (pe_fld (pv 0) rfl) rfl)) pss_nil)))))))))))))), ?_⟩
    unfold askP at k
    refine s_if (a_or (a_and (a_t (v_eqI (v_var rfl) v_c)) (fun _ => a_truL (vp_inbox U h (v_var rfl)) h.hi)) (fun _ => a_and (a_t (v_eqI (v_var rfl) v_c)) (fun _ => a_t (v_lt (v_lenI (vp_outbox U h (v_var rfl)) h.ho) v_c)))) (fun h1 => ?_) (fun h1 => ?_)
    · have e : ((decide (p = 0) && !P.inbox.isEmpty) || (decide (p = 2) && decide (P.outbox.length < 16))) = true := by
        rw [← h1]; congr 2
        exact decide_eq_decide.mpr (by omega)
      rw [if_pos e] at k
      refine s_do (va_cons (vp_machine U h (v_var rfl)) va_nil) ⟨H, A.m, A.dm, A.c, P.m, rfl, h.eqm, ?_⟩
      obtain ⟨g1, f1⟩ := h.setM (Same.refl H) (skipM P.m)
      exact k _ g1 f1
    have e : ¬ ((decide (p = 0) && !P.inbox.isEmpty) || (decide (p = 2) && decide (P.outbox.length < 16))) = true := by
      intro z
      rw [show decide (P.outbox.length < 16) = decide ((P.outbox.length : Int) < 16) from decide_eq_decide.mpr (by omega)] at z
      exact Bool.false_ne_true (h1.symm.trans z)
    rw [if_neg e] at k
    refine s_if (a_t (v_eqI (v_var rfl) v_c)) (fun c => ?_) (fun c => ?_)
    · rw [if_pos (of_decide_eq_true c)] at k
      exact s_do (va_cons (v_var rfl) va_nil) ⟨A, P, rfl, h, trivial, k⟩
    rw [if_neg (of_decide_eq_false c)] at k
    refine s_if (a_t (v_eqI (v_var rfl) v_c)) (fun c => ?_) (fun c => ?_)
    · rw [if_pos (of_decide_eq_true c)] at k
      exact s_do (va_cons (v_var rfl) va_nil) ⟨A, P, rfl, h, (by have := w.ob; show P.outbox.length < _; omega), k⟩
    rw [if_neg (of_decide_eq_false c)] at k
    refine s_if (a_t (v_eqI (v_var rfl) v_c)) (fun c => ?_) (fun c => ?_)
    · rw [if_pos (of_decide_eq_true c)] at k
      exact s_do (va_cons (v_var rfl) va_nil) ⟨A, P, rfl, h, trivial, k⟩
    rw [if_neg (of_decide_eq_false c)] at k
    refine s_if (a_or (a_t (v_eqI (v_var rfl) v_c)) (fun _ => a_t (v_eqI (v_var rfl) v_c))) (fun c => ?_) (fun c => ?_)
    · refine s_do (va_cons (v_var rfl) (va_cons (v_eqI (v_var rfl) v_c) va_nil)) ⟨A, P, decide (p = 5), rfl, h, w, ?_⟩
      by_cases c5 : p = 5
      · rw [if_pos c5] at k
        rw [show decide (p = 5) = true from decide_eq_true c5]
        exact k
      · have c6 : p = 6 := by simp [c5] at c; exact c
        rw [if_neg c5, if_pos c6] at k
        rw [show decide (p = 5) = false from decide_eq_false c5]
        exact k
    have c5 : ¬ p = 5 := fun e => by rw [e] at c; cases c
    have c6 : ¬ p = 6 := fun e => by rw [e] at c; cases c
    rw [if_neg c5, if_neg c6] at k
    refine s_if (a_t (v_eqI (v_var rfl) v_c)) (fun c => ?_) (fun c => ?_)
    · rw [if_pos (of_decide_eq_true c)] at k
      exact sp_state U h v_c (v_var rfl) k
    rw [if_neg (of_decide_eq_false c)] at k
    refine s_if (a_t (v_eqI (v_var rfl) v_c)) (fun c => ?_) (fun c => ?_)
    · rw [if_pos (of_decide_eq_true c)] at k
      exact sp_total M h (vp_switches U h (v_var rfl)) (vp_machine U h (v_var rfl)) k
    rw [if_neg (of_decide_eq_false c)] at k
    exact s_next (k _ h Fr.refl)

theorem sc_happen : FnScope ["person", "event", "place"] ["person", "event"] (defScope s_happen) := ⟨rfl, rfl, rfl, by decide +kernel, rfl, by decide +kernel, by decide +kernel⟩
theorem cal_happen (T : Tx K mg) : Cal P w K mg base 4 "happen" ["person", "event"] (spHappen K (He.ga K "Machine") (He.ga K "Person")) := by
  refine cal_mk T 17 17 rfl rfl sc_happen (fun _ _ _ _ _ _ us hl => match us, hl with | [_, _], _ => rfl) (fun vs H Q E h => ?_) (fun f cdv A outer s H vs Q E hr h => ?_)
  · obtain ⟨A, P, a, e, rfl, h, w, hs, hE, k⟩ := h
    rfl
  · obtain ⟨A, P, a, e, rfl, h, w, hs, hE, k⟩ := h
    have M := T.mt
    have U := T.pt
    refine ⟨_, (pss_one (ps_if (pt_cmpR op_eq (pe_ix ix_tup (pv 1) pe_int (fun _ _ => rfl)) pe_str (nomark _)) (pss_one (ps_expr (pe_cal (cal_heard (K := K) T) hr (by decide) rfl (pa_cons (pv 0) (pa_cons (pe_ix ix_tup (pv 1) pe_int (fun _ _ => rfl)) pa_nil))))) (pss_one (ps_if (pt_cmpR op_eq (pe_ix ix_tup (pv 1) pe_int (fun _ _ => rfl)) pe_str (nomark _)) (pss_one (ps_expr (pe_cal (cal_ticked (K := K) T) hr (by decide) rfl (pa_cons (pv 0) pa_nil)))) (pss_one (ps_if (pt_cmpR op_eq (pe_ix ix_tup (pv 1) pe_int (fun _ _ => rfl)) pe_str (nomark _)) (pss_one (ps_if (pt_cmpR op_eq (pe_fld (pv 0) rfl) pe_str (nomark _)) (pss_cons (ps_fld (pv 0) pe_str rfl) (pss_one (ps_fld (pe_fld (pv 0) rfl) (pe_ix ix_tup (pv 1) pe_int (fun _ _ => rfl)) rfl))) pss_nil)) (pss_one (ps_if (pt_cmpR op_eq (pe_fld (pv 0) rfl) pe_str (nomark _)) (pss_cons (ps_fld (pv 0) (pe_op op_add (pe_fld (pv 0) rfl) pe_int) rfl) (pss_cons (ps_set (i := 2) sc_happen.nd rfl (Or.inl rfl) (pe_cal (cal_deed (K := K) T) hr (by decide) rfl (pa_cons (pe_fld (pv 0) rfl) pa_nil))) (pss_one (ps_if (pt_cmpR op_notN1 (pv 2) pe_non (nomark _)) (pss_one (ps_expr (pe_cal (cal_ask (K := K) T) hr (by decide) rfl (pa_cons (pv 0) (pa_cons (pv 2) pa_nil))))) pss_nil)))) pss_nil)))))))), ?_⟩
    cases e with
    | key l =>
      refine s_ifT (a_t (v_eqS (v_ixT (v_var rfl) v_c hE (by decide) rfl) v_c)) (by decide) ?_
      exact s_do (va_cons (v_var rfl) (va_cons (v_ixT (v_var rfl) v_c hE (by decide) rfl) va_nil)) ⟨A, P, l, rfl, h, k⟩
    | tick =>
      refine s_ifF (a_t (v_eqS (v_ixT (v_var rfl) v_c hE (by decide) rfl) v_c)) (by decide) ?_
      refine s_ifT (a_t (v_eqS (v_ixT (v_var rfl) v_c hE (by decide) rfl) v_c)) (by decide) ?_
      exact s_do (va_cons (v_var rfl) va_nil) ⟨A, P, rfl, h, hs, k⟩
    | start p =>
      refine s_ifF (a_t (v_eqS (v_ixT (v_var rfl) v_c hE (by decide) rfl) v_c)) (by decide) ?_
      refine s_ifF (a_t (v_eqS (v_ixT (v_var rfl) v_c hE (by decide) rfl) v_c)) (by decide) ?_
      refine s_ifT (a_t (v_eqS (v_ixT (v_var rfl) v_c hE (by decide) rfl) v_c)) (by decide) ?_
      dsimp only [happenP] at k
      refine s_if (a_t (v_eqS (vp_state U h (v_var rfl)) v_c)) (fun c => ?_) (fun c => ?_)
      · rw [if_pos (of_decide_eq_true c)] at k
        refine qp_state U h v_c (v_var rfl) (fun H1 h1 f1 => ?_)
        have hE1 := h.tup f1 hE
        refine sp_at M h1 (v_ixT (v_var rfl) v_c hE1 (by decide) rfl) (vp_machine U h1 (v_var rfl)) (fun H2 h2 f2 => ?_)
        exact k _ h2 (f1.trans f2)
      · rw [if_neg (of_decide_eq_false c)] at k
        exact s_next (k _ h Fr.refl)
    | step =>
      refine s_ifF (a_t (v_eqS (v_ixT (v_var rfl) v_c hE (by decide) rfl) v_c)) (by decide) ?_
      refine s_ifF (a_t (v_eqS (v_ixT (v_var rfl) v_c hE (by decide) rfl) v_c)) (by decide) ?_
      refine s_ifF (a_t (v_eqS (v_ixT (v_var rfl) v_c hE (by decide) rfl) v_c)) (by decide) ?_
      dsimp only [happenP] at k
      refine s_if (a_t (v_eqS (vp_state U h (v_var rfl)) v_c)) (fun c => ?_) (fun c => ?_)
      · rw [if_pos (of_decide_eq_true c)] at k
        refine qp_done U h (v_add (vp_done U h (v_var rfl)) v_c) (v_var rfl) (fun H1 h1 f1 => ?_)
        refine q_setc (va_cons (vp_machine U h1 (v_var rfl)) va_nil) ⟨H1, A.m, A.dm, A.c, P.m, rfl, h1.ne.mc.symm, w.wm.toWm, h1.eqm, fun H2 sm => ?_⟩
        obtain ⟨g2, f2⟩ := h1.setM sm (deedM P.m)
        generalize mput _ H2 A.m A.dm A.c (deedM P.m) = H3 at g2 f2 ⊢
        unfold stepP at k
        dsimp only at k
        unfold deedV
        by_cases c6 : getC P.m P.m.pc / 128 = 6
        · rw [if_pos c6] at k
          rw [if_pos c6]
          refine s_ifT (a_t (v_notN (v_var rfl) v_c)) (by rfl) ?_
          exact s_do (va_cons (v_var rfl) (va_cons (v_var rfl) va_nil)) ⟨A, _, _, rfl, g2, ⟨wf_deed w.wm, w.ib, w.ibl, w.ob, w.bk, w.bkl, w.sw0, w.sw1⟩, fun H4 h4 f4 => k _ h4 ((f1.trans f2).trans f4)⟩
        · rw [if_neg c6] at k
          rw [if_neg c6]
          refine s_ifF0 (a_t (v_notN (v_var rfl) v_c)) (by rfl) ?_
          exact k _ g2 (f1.trans f2)
      · rw [if_neg (of_decide_eq_false c)] at k
        exact s_next (k _ h Fr.refl)

theorem sc_Person___init__ : FnScope ["self", "cells", "switches", "b", "k"] ["self", "cells", "switches"] (defScope s_Person___init__) := ⟨rfl, rfl, rfl, by decide +kernel, rfl, by decide +kernel, by decide +kernel⟩
theorem cal_Person (T : Tx K mg) : CalC P w K mg base 3 "Person" ["self", "cells", "switches"] (spPerson K (He.ga K "Machine") (He.ga K "Person")) := by
  refine calC_mk T 52 67 69 rfl rfl rfl sc_Person___init__ (fun _ _ _ _ _ _ us hl => match us, hl with | [_, _, _], _ => rfl) (fun vs H Q E h => ?_) (fun f cdv A outer s H vs Q E hr h => ?_)
  · obtain ⟨p, dp, a, cs, sw, rfl, hp, hs, k⟩ := h
    rfl
  · obtain ⟨p, dp, a, cs, sw, rfl, hp, hs, k⟩ := h
    have M := T.mt
    have U := T.pt
    refine ⟨_, (pss_cons (ps_fld (pv 0) (show PE _ _ (tMake (He.ga K "Machine") _ [] E0 _) from pe_new (cal_Machine (K := K) T) hr (by decide) rfl (pa_cons (pv 1) (pa_cons pe_int (pa_cons pe_int (pa_cons pe_int pa_nil))))) rfl) (pss_cons (ps_fld (pv 0) (pe_lst pa_nil) rfl) (pss_cons (ps_fld (pv 0) (pe_lst pa_nil) rfl) (pss_cons (ps_fld (pv 0) (pe_lst pa_nil) rfl) (pss_cons (ps_fld (pv 0) (pe_lc (own := [("b", 3)]) (g := gName 3) (tt := tYes) (by rfl) sc_Person___init__.nd (pi_range1 (by rfl) (T.free 53) (pa_cons pe_int pa_nil)) (blkOk_by (own := [("b", 3)]) (N := ["self", "cells", "switches", "b", "k"]) (sc := defScope s_Person___init__) (by decide +kernel)) (fun _ _ _ _ _ => pg_name (i := 3) sc_Person___init__.nd rfl (Or.inl rfl)) (fun _ _ _ _ _ => pts_nil) (fun _ _ _ _ _ => (pe_lc (own := [("k", 4)]) (g := gName 4) (tt := tYes) (by rfl) sc_Person___init__.nd (pi_range1 (by rfl) (T.free 53) (pa_cons pe_int pa_nil)) (blkOk_by (own := [("k", 4)]) (N := ["self", "cells", "switches", "b", "k"]) (sc := { kind := .function, names := [(".0", .local), ("b", .local), ("range", .globalImplicit)], isGenerator := false, isCoroutine := false }) (by decide +kernel)) (fun _ _ _ _ _ => pg_name (i := 4) sc_Person___init__.nd rfl (Or.inl rfl)) (fun _ _ _ _ _ => pts_nil) (fun _ _ _ _ _ => pe_int)))) rfl) (pss_cons (ps_fld (pv 0) (pv 2) rfl) (pss_cons (ps_fld (pv 0) pe_str rfl) (pss_cons (ps_fld (pv 0) pe_int rfl) (pss_cons (ps_fld (pv 0) pe_int rfl) (pss_one (ps_fld (pv 0) pe_int rfl))))))))))), ?_⟩
    have i0 : Ins K (He.ga K "Person") p dp [] H := ⟨U.cl, hp⟩
    refine q_fldM (va_cons (v_var rfl) (va_cons v_c (va_cons v_c (va_cons v_c va_nil)))) hs (fun _ => v_var rfl) i0 U.nMachine (by show 0 < 1000; decide) (fun x dx l H1 hx hl nlx nxp nlp ex el i1 f1 => ?_)
    refine q_fldN (nl_disp va_nil) (fun _ => v_var rfl) i1 U.nInbox (by show 1 < 1000; decide) (fun ib H2 hib nib eib i2 f2 => ?_)
    refine q_fldN (nl_disp va_nil) (fun _ => v_var rfl) i2 U.nOutbox (by show 2 < 1000; decide) (fun ob H3 hob nob eob i3 f3 => ?_)
    refine q_fldN (nl_disp va_nil) (fun _ => v_var rfl) i3 U.nPaper (by show 3 < 1000; decide) (fun pb H4 hpb npb epb i4 f4 => ?_)
    refine q_fldR (rows := (List.replicate 4 (List.replicate 16 (V.int 0)))) (nr_range (va_cons v_c va_nil) (by decide) rfl (fun _ => rfl) (fun m r H' _ hr => by
        have e : r = (List.range (16 : Int).toNat).map (fun _ => V.int 0) := by
          have := List.mem_of_getElem? hr
          simp at this
          rw [this]; rfl
        rw [e]
        exact nl_lcR (fun _ => V.int 0) (va_cons v_c va_nil) ⟨by decide, by decide⟩ (fun _ => rfl) (fun i D acc hD hi => v_c))) (fun _ => v_var rfl) i4 U.nBlocks (by show 4 < 1000; decide) (fun bb as H5 hbb nbb las ebb eas i5 f5 => ?_)
    refine q_fldV (v_var rfl) (v_var rfl) i5 U.nSwitches (by show 5 < 1000; decide) (fun H6 i6 f6 => ?_)
    refine q_fldV v_c (v_var rfl) i6 U.nState (by show 6 < 1000; decide) (fun H7 i7 f7 => ?_)
    refine q_fldV v_c (v_var rfl) i7 U.nNap (by show 7 < 1000; decide) (fun H8 i8 f8 => ?_)
    refine q_fldV v_c (v_var rfl) i8 U.nLost (by show 8 < 1000; decide) (fun H9 i9 f9 => ?_)
    refine s_fldV v_c (v_var rfl) i9 U.nDone (by show 9 < 1000; decide) (fun H10 i10 f10 => ?_)
    have ndB := nbb
    have ndQ : (pb :: bb :: as).Nodup := nd_more (H := H4) epb (fun c hc => hbb c hc) ndB
    have hQ : ∀ c ∈ pb :: bb :: as, H3 c = none := fun c hc => by
      rcases List.mem_cons.mp hc with h1 | h1
      · rw [h1]; exact hpb
      · exact f4.free i4 (hbb c h1)
    have ndO : (ob :: pb :: bb :: as).Nodup := nd_more (H := H3) eob hQ ndQ
    have hO : ∀ c ∈ ob :: pb :: bb :: as, H2 c = none := fun c hc => by
      rcases List.mem_cons.mp hc with h1 | h1
      · rw [h1]; exact hob
      · exact f3.free i3 (hQ c h1)
    have ndI : (ib :: ob :: pb :: bb :: as).Nodup := nd_more (H := H2) eib hO ndO
    have hI : ∀ c ∈ ib :: ob :: pb :: bb :: as, H1 c = none := fun c hc => by
      rcases List.mem_cons.mp hc with h1 | h1
      · rw [h1]; exact hib
      · exact f2.free i2 (hO c h1)
    have ndL : (l :: ib :: ob :: pb :: bb :: as).Nodup := nd_more (H := H1) el hI ndI
    have ndX : (x :: l :: ib :: ob :: pb :: bb :: as).Nodup := List.nodup_cons.mpr ⟨fun hm => (by
      rcases List.mem_cons.mp hm with h1 | h1
      · exact nlx h1.symm
      · rw [hI x h1] at ex; cases ex), ndL⟩
    have hX : ∀ c ∈ x :: l :: ib :: ob :: pb :: bb :: as, H c = none := fun c hc => by
      rcases List.mem_cons.mp hc with h1 | h1
      · rw [h1]; exact hx
      rcases List.mem_cons.mp h1 with h2 | h2
      · rw [h2]; exact hl
      · exact f1.free i1 (hI c h2)
    have ndP : (p :: x :: l :: ib :: ob :: pb :: bb :: as).Nodup := nd_more (H := H) i0.at_ hX ndX
    have nbs : ∀ b ∈ as, b ≠ p := fun b hb e => (List.nodup_cons.mp ndP).1 (e ▸ (by simp [hb]))
    have nbp : bb ≠ p := fun e => (List.nodup_cons.mp ndP).1 (e ▸ (by simp))
    have eR := ((((f6.trans f7).trans f8).trans f9).trans f10).rowsAt eas nbs
    have hA : PAt (He.ga K "Machine") (He.ga K "Person") H10 ⟨p, dp, x, dx, l, ib, ob, pb, bb, as⟩ (newP cs sw) := ⟨(i10.at_).trans (congrArg (fun z => some (HO.ins (He.ga K "Person") dp z)) (by kernel_rfl)), ((((((((f2.trans f3).trans f4).trans f5).trans f6).trans f7).trans f8).trans f9).trans f10).one nxp ex, ((((((((f2.trans f3).trans f4).trans f5).trans f6).trans f7).trans f8).trans f9).trans f10).one nlp el, (((((((f3.trans f4).trans f5).trans f6).trans f7).trans f8).trans f9).trans f10).one nib eib, ((((((f4.trans f5).trans f6).trans f7).trans f8).trans f9).trans f10).one nob eob, (((((f5.trans f6).trans f7).trans f8).trans f9).trans f10).one npb epb, ((((f6.trans f7).trans f8).trans f9).trans f10).one nbp ebb, fun i b hb => (by
      obtain ⟨r, e1, e2⟩ := eR i b hb
      have e3 := List.mem_of_getElem? e1
      have hi4 : i < 4 := by have := (List.getElem?_eq_some_iff.mp e1).1; simpa using this
      simp at e3
      exact ⟨List.replicate 16 0, by show (List.replicate 4 (List.replicate 16 (0 : Int)))[i]? = _; rw [List.getElem?_replicate, if_pos hi4], by rw [e2, e3]; rfl⟩), las.trans rfl, ndP⟩
    exact k ⟨p, dp, x, dx, l, ib, ob, pb, bb, as⟩ _ rfl rfl (fun b hb => (List.mem_cons.mp hb).imp id (fun h1 => hX b h1)) hA (((((((((f1.trans f2).trans f3).trans f4).trans f5).trans f6).trans f7).trans f8).trans f9).trans f10)

theorem sc_picture : FnScope ["person", "machine", "blocks", "rows", "rest", "block"] ["person"] (defScope s_picture) := ⟨rfl, rfl, rfl, by decide +kernel, rfl, by decide +kernel, by decide +kernel⟩
theorem cal_picture (T : Tx K mg) : Cal P w K mg base 1 "picture" ["person"] (spPicture K (He.ga K "Machine") (He.ga K "Person")) := by
  refine cal_mk T 18 18 rfl rfl sc_picture (fun _ _ _ _ _ _ us hl => match us, hl with | [_], _ => rfl) (fun vs H Q E h => ?_) (fun f cdv A outer s H vs Q E hr h => ?_)
  · obtain ⟨A, P, rfl, h, hl4, k⟩ := h
    rfl
  · obtain ⟨A, P, rfl, h, hl4, k⟩ := h
    have M := T.mt
    have U := T.pt
    refine ⟨_, (pss_cons (ps_set (i := 1) sc_picture.nd rfl (Or.inl rfl) (pe_fld (pv 0) rfl)) (pss_cons (ps_set (i := 2) sc_picture.nd rfl (Or.inl rfl) (pe_callTy call_tuple_of (by rfl) (T.free 54) (by decide +kernel) (pa_cons (pe_lc (own := [("block", 5)]) (g := gName 5) (tt := tYes) (by rfl) sc_picture.nd (pi_list (pe_fld (pv 0) rfl)) (blkOk_by (own := [("block", 5)]) (N := ["person", "machine", "blocks", "rows", "rest", "block"]) (sc := defScope s_picture) (by decide +kernel)) (fun _ _ _ _ _ => pg_name (i := 5) sc_picture.nd rfl (Or.inl rfl)) (fun _ _ _ _ _ => pts_nil) (fun _ _ _ _ _ => (pe_callTy (show CallR _ _ (rTupOf K) from call_tuple_of) (by rfl) (T.free 54) (by decide +kernel) (pa_cons (pv 5) pa_nil)))) pa_nil))) (pss_cons (ps_set (i := 3) sc_picture.nd rfl (Or.inl rfl) (pe_tup (pa_cons (pe_callTy call_tuple_of (by rfl) (T.free 54) (by decide +kernel) (pa_cons (pe_fld (pv 0) rfl) pa_nil)) (pa_cons (pe_callTy call_tuple_of (by rfl) (T.free 54) (by decide +kernel) (pa_cons (pe_fld (pv 0) rfl) pa_nil)) (pa_cons (pe_callTy call_tuple_of (by rfl) (T.free 54) (by decide +kernel) (pa_cons (pe_fld (pv 0) rfl) pa_nil)) (pa_cons (pv 2) pa_nil)))))) (pss_cons (ps_set (i := 4) sc_picture.nd rfl (Or.inl rfl) (pe_tup (pa_cons (pe_fld (pv 0) rfl) (pa_cons (pe_fld (pv 0) rfl) (pa_cons (pe_fld (pv 0) rfl) (pa_cons (pe_fld (pv 0) rfl) (pa_cons (pe_fld (pv 0) rfl) pa_nil))))))) (pss_one (ps_ret (pe_op op_catT (pe_op op_catT (pe_tup (pa_cons (pe_callTy call_tuple_of (by rfl) (T.free 54) (by decide +kernel) (pa_cons (pe_fld (pv 1) rfl) pa_nil)) (pa_cons (pe_fld (pv 1) rfl) (pa_cons (pe_fld (pv 1) rfl) (pa_cons (pe_fld (pv 1) rfl) pa_nil))))) (pv 3)) (pv 4)))))))), ?_⟩
    refine q_set (vp_machine U h (v_var rfl)) ?_
    refine qx_set (x_tupX (nr_list (mk := HO.tup) (rows := P.blocks.map fun b => b.map V.int) (vp_blocks U h (v_var rfl)) (SqL.of h.hb) (by rw [List.length_map]; have := h.len; omega) (by rw [List.length_map, List.length_map, h.len]; exact hl4) (fun _ => rfl) (fun m x r H' sm hm hr => ?_) _ (fun D as H1 sm1 hD0 has nd las hD rows => ⟨D, as.map V.ref, rfl, .inl ⟨SqL.of hD, fun T7 hT7 => ?_⟩⟩)))
    · rw [List.getElem?_map] at hm
      obtain ⟨b, hb, rfl⟩ := Option.map_eq_some_iff.mp hm
      obtain ⟨ws, w1, w2⟩ := h.hbs m b hb
      rw [List.getElem?_map, w1] at hr
      cases hr
      exact no_tupL (v_var rfl) (SqL.of (sm _ _ w2))
    try dsimp only
    have sm2 : Same H (upd H1 T7 (.tup (as.map V.ref))) := sm1.trans (smN hT7)
    have e7 : upd H1 T7 (.tup (as.map V.ref)) T7 = some (.tup (as.map V.ref)) := upd_same
    have r7 : RowsAt HO.tup (upd H1 T7 (.tup (as.map V.ref))) as (P.blocks.map fun b => b.map V.int) := fun i b hb => by
      obtain ⟨r, e1, e2⟩ := rows i b hb
      exact ⟨r, e1, smN hT7 _ _ e2⟩
    generalize upd H1 T7 (.tup (as.map V.ref)) = H2 at sm2 e7 r7 ⊢
    have h2 := h.same sm2
    refine qx_set (xt_tup (xa_cons (x_tupL (vp_inbox U h2 (v_var rfl)) (SqL.of h2.hi) (fun T4 H3 s3 e4 => xa_cons (x_tupL (vp_outbox U (h2.same s3) (v_var rfl)) (SqL.of (h2.same s3).ho) (fun T5 H4 s4 e5 => xa_cons (x_tupL (vp_paper U ((h2.same s3).same s4) (v_var rfl)) (SqL.of ((h2.same s3).same s4).hq) (fun T6 H5 s5 e6 => xa_cons (x_v (v_var rfl) (xa_nil ⟨k_line (by show 4 ≤ 1000; decide), fun R hR => ?_⟩))))))))))
    try dsimp only
    have h5 := ((h2.same s3).same s4).same s5
    have s6 := smN (o := HO.tup [.ref T4, .ref T5, .ref T6, .ref T7]) hR
    have h6 := h5.same s6
    refine q_setT (va_cons (vp_switches U h6 (v_var rfl)) (va_cons (vp_state U h6 (v_var rfl)) (va_cons (vp_nap U h6 (v_var rfl)) (va_cons (vp_lost U h6 (v_var rfl)) (va_cons (vp_done U h6 (v_var rfl)) va_nil))))) (by show 5 ≤ 100000; decide) (fun S hS => ?_)
    have s7 := smN (o := HO.tup [.int P.sw, .str P.st, .int P.nap, .int P.lost, .int P.done]) hS
    have h7 := h6.same s7
    have eR : upd (upd H5 R (.tup [.ref T4, .ref T5, .ref T6, .ref T7])) S (.tup [.int P.sw, .str P.st, .int P.nap, .int P.lost, .int P.done]) R = some (.tup [.ref T4, .ref T5, .ref T6, .ref T7]) := s7 _ _ upd_same
    have eS : upd (upd H5 R (.tup [.ref T4, .ref T5, .ref T6, .ref T7])) S (.tup [.int P.sw, .str P.st, .int P.nap, .int P.lost, .int P.done]) S = some (.tup [.int P.sw, .str P.st, .int P.nap, .int P.lost, .int P.done]) := upd_same
    generalize upd (upd H5 R (.tup [.ref T4, .ref T5, .ref T6, .ref T7])) S (.tup [.int P.sw, .str P.st, .int P.nap, .int P.lost, .int P.done]) = H7 at s7 h7 eR eS ⊢
    refine x_ret (x_op (x_op (xt_tup (xa_cons (x_tupL (vp_cells M h7 (v_var rfl)) (SqL.of h7.hc) (fun T0 H8 s8 e0 => xa_cons (x_v (vp_total M (h7.same s8) (v_var rfl)) (xa_cons (x_v (vp_mark M (h7.same s8) (v_var rfl)) (xa_cons (x_v (vp_at M (h7.same s8) (v_var rfl)) (xa_nil ⟨k_line (by show 4 ≤ 1000; decide), fun W hW => ?_⟩))))))))))))
    have s9 := smN (o := HO.tup [.ref T0, .int P.m.total, .int P.m.mark, .int P.m.pc]) hW
    refine x_v (v_var rfl) ⟨W, R, _, _, rfl, rfl, SqT.of upd_same, SqT.of (s9 _ _ (s8 _ _ eR)), by simp, k_line (by show 8 ≤ 1000; decide), fun e => (by cases e), fun _ X hX => ?_⟩
    have s10 := smN (o := HO.tup ([.ref T0, .int P.m.total, .int P.m.mark, .int P.m.pc] ++ [.ref T4, .ref T5, .ref T6, .ref T7])) hX
    refine x_v (v_var rfl) ⟨X, S, _, _, rfl, rfl, SqT.of upd_same, SqT.of (s10 _ _ (s9 _ _ (s8 _ _ eS))), by simp, k_line (by show 13 ≤ 1000; decide), fun e => (by cases e), fun _ Y hY => ?_⟩
    have s11 := smN (o := HO.tup ([.ref T0, .int P.m.total, .int P.m.mark, .int P.m.pc] ++ [.ref T4, .ref T5, .ref T6, .ref T7] ++ [.int P.sw, .str P.st, .int P.nap, .int P.lost, .int P.done])) hY
    have z8 := (s9.trans s10).trans s11
    have z5 : Same H5 _ := (s6.trans s7).trans (s8.trans z8)
    have z2 := (s3.trans (s4.trans s5)).trans z5
    refine k _ _ (sm2.trans z2) (ShotAt.dp (a0 := T0) (a4 := T4) (a5 := T5) (a6 := T6) (a7 := T7) (as := as) ⟨SqT.of upd_same, SqT.of (z8 _ _ e0), SqT.of (((s4.trans s5).trans z5) _ _ e4), SqT.of ((s5.trans z5) _ _ e5), SqT.of (z5 _ _ e6), SqT.of (z2 _ _ e7), ?_, fun i b hb => ?_⟩)
    · rw [las, List.length_map]
    · obtain ⟨r, e1, e2⟩ := r7 i b hb
      rw [List.getElem?_map] at e1
      obtain ⟨ws, w1, rfl⟩ := Option.map_eq_some_iff.mp e1
      exact ⟨ws, w1, SqT.of (z2 _ _ e2)⟩

theorem sc_person_of : FnScope ["shot", "person", "block"] ["shot"] (defScope s_person_of) := ⟨rfl, rfl, rfl, by decide +kernel, rfl, by decide +kernel, by decide +kernel⟩
theorem cal_person_of (T : Tx K mg) : Cal P w K mg base 5 "person_of" ["shot"] (spPersonOf K (He.ga K "Machine") (He.ga K "Person")) := by
  refine cal_mk T 19 19 rfl rfl sc_person_of (fun _ _ _ _ _ _ us hl => match us, hl with | [_], _ => rfl) (fun vs H Q E h => ?_) (fun f cdv A outer s H vs Q E hr h => ?_)
  · obtain ⟨a, P, rfl, hD, hl4, k⟩ := h
    rfl
  · obtain ⟨a, P, rfl, hD, hl4, k⟩ := h
    have M := T.mt
    have U := T.pt
    refine ⟨_, (pss_cons (ps_set (i := 1) sc_person_of.nd rfl (Or.inl rfl) (show PE _ _ (tMake (He.ga K "Person") _ [] E0 _) from pe_new (cal_Person (K := K) T) hr (by decide) rfl (pa_cons (pe_ix ix_tup (pv 0) pe_int (fun _ _ => rfl)) (pa_cons (pe_ix ix_tup (pv 0) pe_int (fun _ _ => rfl)) pa_nil)))) (pss_cons (ps_fld (pv 1) (show PE _ _ (tMake (He.ga K "Machine") _ [] E0 _) from pe_new (cal_Machine (K := K) T) hr (by decide) rfl (pa_cons (pe_ix ix_tup (pv 0) pe_int (fun _ _ => rfl)) (pa_cons (pe_ix ix_tup (pv 0) pe_int (fun _ _ => rfl)) (pa_cons (pe_ix ix_tup (pv 0) pe_int (fun _ _ => rfl)) (pa_cons (pe_ix ix_tup (pv 0) pe_int (fun _ _ => rfl)) pa_nil))))) rfl) (pss_cons (ps_fld (pv 1) (pe_callTy call_list_of (by rfl) (T.free 52) (by decide +kernel) (pa_cons (pe_ix ix_tup (pv 0) pe_int (fun _ _ => rfl)) pa_nil)) rfl) (pss_cons (ps_fld (pv 1) (pe_callTy call_list_of (by rfl) (T.free 52) (by decide +kernel) (pa_cons (pe_ix ix_tup (pv 0) pe_int (fun _ _ => rfl)) pa_nil)) rfl) (pss_cons (ps_fld (pv 1) (pe_callTy call_list_of (by rfl) (T.free 52) (by decide +kernel) (pa_cons (pe_ix ix_tup (pv 0) pe_int (fun _ _ => rfl)) pa_nil)) rfl) (pss_cons (ps_fld (pv 1) (pe_lc (own := [("block", 2)]) (g := gName 2) (tt := tYes) (by rfl) sc_person_of.nd (pi_tup (pe_ix ix_tup (pv 0) pe_int (fun _ _ => rfl))) (blkOk_by (own := [("block", 2)]) (N := ["shot", "person", "block"]) (sc := defScope s_person_of) (by decide +kernel)) (fun _ _ _ _ _ => pg_name (i := 2) sc_person_of.nd rfl (Or.inl rfl)) (fun _ _ _ _ _ => pts_nil) (fun _ _ _ _ _ => (pe_callTy (show CallR _ _ (rListS K) from call_list_of) (by rfl) (T.free 52) (by decide +kernel) (pa_cons (pv 2) pa_nil)))) rfl) (pss_cons (ps_fld (pv 1) (pe_ix ix_tup (pv 0) pe_int (fun _ _ => rfl)) rfl) (pss_cons (ps_fld (pv 1) (pe_ix ix_tup (pv 0) pe_int (fun _ _ => rfl)) rfl) (pss_cons (ps_fld (pv 1) (pe_ix ix_tup (pv 0) pe_int (fun _ _ => rfl)) rfl) (pss_cons (ps_fld (pv 1) (pe_ix ix_tup (pv 0) pe_int (fun _ _ => rfl)) rfl) (pss_one (ps_ret (pv 1))))))))))))), ?_⟩
    obtain ⟨a0, a4, a5, a6, a7, as0, sh⟩ := shot_inv hD
    refine qx_set (x_person (va_cons (v_ixT (v_var rfl) v_c sh.top (by decide) rfl) (va_cons (v_ixT (v_var rfl) v_c sh.top (by decide) rfl) va_nil)) (.inr sh.cs) (fun A0 H1 fr sm hA0 => ?_))
    obtain ⟨p, dp, m0, dm0, c0, i00, o0, q0, b0, bs0⟩ := A0
    dsimp only
    have i1 : Ins K (He.ga K "Person") p dp _ H1 := ⟨U.cl, hA0.hp⟩
    have sh1 := sh.keep (fun _ _ => smT sm)
    have p0 : H p = none := fr p (PAt.fp ⟨p, dp, m0, dm0, c0, i00, o0, q0, b0, bs0⟩).1
    refine q_fldM (va_cons (v_ixT (v_var rfl) v_c sh1.top (by decide) rfl) (va_cons (v_ixT (v_var rfl) v_c sh1.top (by decide) rfl) (va_cons (v_ixT (v_var rfl) v_c sh1.top (by decide) rfl) (va_cons (v_ixT (v_var rfl) v_c sh1.top (by decide) rfl) va_nil)))) (.inr sh1.cs) (fun _ => v_var rfl) i1 U.nMachine (by show 10 < 1000; decide) (fun x dx l H2 hx hl nlx nxp nlp ex el i2 f2 => ?_)
    have sh2 := sh1.keep (fun _ _ h => f2.seqT h i1)
    refine q_fldN (nl_list (v_ixT (v_var rfl) v_c sh2.top (by decide) rfl) (.inr sh2.ib)) (fun _ => v_var rfl) i2 U.nInbox (by show 10 < 1000; decide) (fun ib H3 hib nib eib i3 f3 => ?_)
    have sh3 := sh2.keep (fun _ _ h => f3.seqT h i2)
    refine q_fldN (nl_list (v_ixT (v_var rfl) v_c sh3.top (by decide) rfl) (.inr sh3.ob)) (fun _ => v_var rfl) i3 U.nOutbox (by show 10 < 1000; decide) (fun ob H4 hob nob eob i4 f4 => ?_)
    have sh4 := sh3.keep (fun _ _ h => f4.seqT h i3)
    refine q_fldN (nl_list (v_ixT (v_var rfl) v_c sh4.top (by decide) rfl) (.inr sh4.pp)) (fun _ => v_var rfl) i4 U.nPaper (by show 10 < 1000; decide) (fun pb H5 hpb npb epb i5 f5 => ?_)
    have sh5 := sh4.keep (fun _ _ h => f5.seqT h i4)
    refine q_fldR (rows := (P.blocks.map fun b => b.map V.int)) (nr_tup (v_ixT (v_var rfl) v_c sh5.top (by decide) rfl) sh5.bl (by rw [List.length_map, sh5.len]; omega) (by rw [List.length_map, List.length_map, sh5.len]) (fun _ => rfl) (fun m x r H' sm hm hr => by
        rw [List.getElem?_map] at hm
        obtain ⟨b, hb, rfl⟩ := Option.map_eq_some_iff.mp hm
        obtain ⟨ws, w1, w2⟩ := sh5.row m b hb
        rw [List.getElem?_map, w1] at hr
        cases hr
        exact no_list (v_var rfl) (.inr (smT sm w2)))) (fun _ => v_var rfl) i5 U.nBlocks (by show 10 < 1000; decide) (fun bb as H6 hbb nbb las ebb eas i6 f6 => ?_)
    have sh6 := sh5.keep (fun _ _ h => f6.seqT h i5)
    refine q_fldV (v_ixT (v_var rfl) v_c sh6.top (by decide) rfl) (v_var rfl) i6 U.nState (by show 10 < 1000; decide) (fun H7 i7 f7 => ?_)
    have sh7 := sh6.keep (fun _ _ h => f7.seqT h i6)
    refine q_fldV (v_ixT (v_var rfl) v_c sh7.top (by decide) rfl) (v_var rfl) i7 U.nNap (by show 10 < 1000; decide) (fun H8 i8 f8 => ?_)
    have sh8 := sh7.keep (fun _ _ h => f8.seqT h i7)
    refine q_fldV (v_ixT (v_var rfl) v_c sh8.top (by decide) rfl) (v_var rfl) i8 U.nLost (by show 10 < 1000; decide) (fun H9 i9 f9 => ?_)
    have sh9 := sh8.keep (fun _ _ h => f9.seqT h i8)
    refine q_fldV (v_ixT (v_var rfl) v_c sh9.top (by decide) rfl) (v_var rfl) i9 U.nDone (by show 10 < 1000; decide) (fun H10 i10 f10 => ?_)
    have sh10 := sh9.keep (fun _ _ h => f10.seqT h i9)
    have ndB := nbb
    have ndQ : (pb :: bb :: as).Nodup := nd_more (H := H5) epb (fun c hc => hbb c hc) ndB
    have hQ : ∀ c ∈ pb :: bb :: as, H4 c = none := fun c hc => by
      rcases List.mem_cons.mp hc with h1 | h1
      · rw [h1]; exact hpb
      · exact f5.free i5 (hbb c h1)
    have ndO : (ob :: pb :: bb :: as).Nodup := nd_more (H := H4) eob hQ ndQ
    have hO : ∀ c ∈ ob :: pb :: bb :: as, H3 c = none := fun c hc => by
      rcases List.mem_cons.mp hc with h1 | h1
      · rw [h1]; exact hob
      · exact f4.free i4 (hQ c h1)
    have ndI : (ib :: ob :: pb :: bb :: as).Nodup := nd_more (H := H3) eib hO ndO
    have hI : ∀ c ∈ ib :: ob :: pb :: bb :: as, H2 c = none := fun c hc => by
      rcases List.mem_cons.mp hc with h1 | h1
      · rw [h1]; exact hib
      · exact f3.free i3 (hO c h1)
    have ndL : (l :: ib :: ob :: pb :: bb :: as).Nodup := nd_more (H := H2) el hI ndI
    have ndX : (x :: l :: ib :: ob :: pb :: bb :: as).Nodup := List.nodup_cons.mpr ⟨fun hm => (by
      rcases List.mem_cons.mp hm with h1 | h1
      · exact nlx h1.symm
      · rw [hI x h1] at ex; cases ex), ndL⟩
    have hX : ∀ c ∈ x :: l :: ib :: ob :: pb :: bb :: as, H1 c = none := fun c hc => by
      rcases List.mem_cons.mp hc with h1 | h1
      · rw [h1]; exact hx
      rcases List.mem_cons.mp h1 with h2 | h2
      · rw [h2]; exact hl
      · exact f2.free i2 (hI c h2)
    have ndP : (p :: x :: l :: ib :: ob :: pb :: bb :: as).Nodup := nd_more (H := H1) i1.at_ hX ndX
    have nbs : ∀ b ∈ as, b ≠ p := fun b hb e => (List.nodup_cons.mp ndP).1 (e ▸ (by simp [hb]))
    have nbp : bb ≠ p := fun e => (List.nodup_cons.mp ndP).1 (e ▸ (by simp))
    have eR := (((f7.trans f8).trans f9).trans f10).rowsAt eas nbs
    have hA : PAt (He.ga K "Machine") (He.ga K "Person") H10 ⟨p, dp, x, dx, l, ib, ob, pb, bb, as⟩ P := ⟨(i10.at_).trans (congrArg (fun z => some (HO.ins (He.ga K "Person") dp z)) (by kernel_rfl)), (((((((f3.trans f4).trans f5).trans f6).trans f7).trans f8).trans f9).trans f10).one nxp ex, (((((((f3.trans f4).trans f5).trans f6).trans f7).trans f8).trans f9).trans f10).one nlp el, ((((((f4.trans f5).trans f6).trans f7).trans f8).trans f9).trans f10).one nib eib, (((((f5.trans f6).trans f7).trans f8).trans f9).trans f10).one nob eob, ((((f6.trans f7).trans f8).trans f9).trans f10).one npb epb, (((f7.trans f8).trans f9).trans f10).one nbp ebb, fun i b hb => (by
      obtain ⟨r, e1, e2⟩ := eR i b hb
      rw [List.getElem?_map] at e1
      obtain ⟨ws, w1, rfl⟩ := Option.map_eq_some_iff.mp e1
      exact ⟨ws, w1, e2⟩), las.trans (by rw [List.length_map]; exact hl4), ndP⟩
    exact s_ret (v_var rfl) (k ⟨p, dp, x, dx, l, ib, ob, pb, bb, as⟩ _ (fun c hc => by
      rcases List.mem_cons.mp hc with h1 | h1
      · rw [h1]; exact p0
      · exact sm.free (hX c h1)) (fun c o e => ((((((((f2.trans f3).trans f4).trans f5).trans f6).trans f7).trans f8).trans f9).trans f10).one (ne_of_none e p0) (sm c o e)) hA)
end
/-! ### events as tuples, loops over lists that a reading gives -/
theorem cutV_from {xs : List V} {i : Nat} : cutV xs (some (i : Int)) none = xs.drop i := by
  unfold cutV
  rw [HT.sIx_nat, HT.sIx_none]
  by_cases h : i ≤ xs.length
  · rw [Nat.min_eq_left h, List.take_of_length_le (by rw [List.length_drop]; omega)]
  · rw [Nat.min_eq_right (by omega), List.drop_eq_nil_of_le (Nat.le_refl _), List.drop_eq_nil_of_le (by omega), List.take_nil]
section
variable {σ : L2.St} {H H' H1 : Hp} {K : PySem.W.Frag} {C Dp_ a b D S W : Addr} {A : PA} {P : Pn} {te to : TE} {tA : TA} {xs r : List V} {rows : List (List V)} {as : List Addr} {tb tz : TS} {N : L2.St → Hp → Prop} {R : VK} {B C' : L2.St → Hp → Prop} {k : Nat} {mk : List V → HO} {es : List Ev}
theorem RInv.same (iv : RInv mk H D rows as H') (s : Same H' H1) : RInv mk H D rows as H1 :=
  ⟨iv.sm.trans s, iv.fr, iv.nd, s _ _ iv.hd, fun i a h => by obtain ⟨r, e1, e2⟩ := iv.rw_ i a h; exact ⟨r, e1, s _ _ e2⟩⟩
theorem x_appendT {Q : VK} (ho : Val to σ H' (.ref D)) (hD : H D = none) (iv : RInv HO.tup H D rows as H') (hn : as.length < 900000) (hA : ValA tA σ H' r) (hr : rows[as.length]? = some r) (hl : r.length ≤ 1000)
    (q : ∀ b H1, RInv HO.tup H D rows (as ++ [b]) H1 → Fr [D] H' H1 → Q .non H1) : tBM K "list" rAppend to (tCons (tTup tA) tNil) σ H' Q :=
  x_appendX ho iv.hd (hA _ ⟨k_line hl, fun b hb => by
    have nDb : D ≠ b := fun e => by rw [← e, iv.hd] at hb; cases hb
    exact ⟨D, as.map V.ref, .ref b, rfl, rfl, by rw [upd_ne nDb]; exact iv.hd, lt_line (by rw [List.length_map]; omega), q b _ (rinv_step hD iv hr hb) (Fr.same1 (smN hb) (Fr.upd (by simp)))⟩⟩)
/-- a for over a new list -/
theorem q_forLN (h : NewL te σ H xs) (Pv : Addr → Nat → L2.St → Hp → Prop) (h0 : ∀ S, H S = none → Pv S 0 σ (upd H S (.lst xs))) (hl : ∀ S (i : Nat) σ' H', Pv S i σ' H' → SqL K H' S xs)
    (hs : ∀ S (i : Nat) x σ' H', xs[i]? = some x → Pv S i σ' H' → tb ⟨Pv S (i + 1), R, tz ⟨N, R, B, C'⟩, Pv S (i + 1)⟩ (σ'.set k (some x)) H') (hd : ∀ S σ' H', Pv S xs.length σ' H' → tz ⟨N, R, B, C'⟩ σ' H') : tSeq (tFor (iList K te) (gName k) tb) tz ⟨N, R, B, C'⟩ σ H :=
  h _ fun S hS => s_forL (N := tz ⟨N, R, B, C'⟩) (B := B) (C' := C') (tl := tC (.ref S)) (σ := σ) (H := upd H S (.lst xs)) v_c (SqL.of upd_same) (Pv S) (h0 S hS) (hl S) (hs S) (hd S)
/-- a for over a list by any reading -/
theorem qx_forL (h : te σ H fun v H1 => tSeq (tFor (iList K (tC v)) (gName k) tb) tz ⟨N, R, B, C'⟩ σ H1) : tSeq (tFor (iList K te) (gName k) tb) tz ⟨N, R, B, C'⟩ σ H := h
def EvsAt (K : PySem.W.Frag) (H : Hp) (D : Addr) (es : List Ev) : Prop := ∃ as : List Addr, H D = some (.lst (as.map V.ref)) ∧ as.length = es.length ∧ ∀ (i : Nat) a, as[i]? = some a → ∃ e, es[i]? = some e ∧ SqT K H a (evV e)
theorem RInv.evs (iv : RInv HO.tup H D (es.map evV) as H') (hl : as.length = es.length) : EvsAt K H' D es := ⟨as, iv.hd, hl, fun i a h => by
  obtain ⟨r, e1, e2⟩ := iv.rw_ i a h
  rw [List.getElem?_map] at e1
  obtain ⟨e, e3, rfl⟩ := Option.map_eq_some_iff.mp e1
  exact ⟨e, e3, SqT.of e2⟩⟩
theorem EvsAt.same (h : EvsAt K H D es) (s : Same H H') : EvsAt K H' D es := by
  obtain ⟨as, h1, h2, h3⟩ := h
  exact ⟨as, s _ _ h1, h2, fun i a e => by obtain ⟨x, e1, e2⟩ := h3 i a e; exact ⟨x, e1, smT s e2⟩⟩
/-- a user beside a change -/
theorem PAt.beside {o : HO} (h : PAt C Dp_ H A P) (n : W ∉ A.foot) : PAt C Dp_ (upd H W o) A P := by
  have k : ∀ b u, b ∈ A.foot → H b = some u → upd H W o b = some u := fun b u hb e => by rw [upd_ne (fun q => n (by rw [← q]; exact hb))]; exact e
  obtain ⟨f1, f2, f3, f4, f5, f6, f7⟩ := PAt.fp A
  exact ⟨k _ _ f1 h.hp, k _ _ f2 h.hm, k _ _ f3 h.hc, k _ _ f4 h.hi, k _ _ f5 h.ho, k _ _ f6 h.hq, k _ _ f7 h.hb, fun i b hb => by
    obtain ⟨ws, w1, w2⟩ := h.hbs i b hb
    exact ⟨ws, w1, k _ _ (by unfold PA.foot; exact List.mem_append_right _ (List.mem_of_getElem? hb)) w2⟩, h.len, h.nd⟩
theorem PAt.here (h : PAt C Dp_ H A P) (n : H W = none) : W ∉ A.foot := fun hm => by
  rcases h.obj W hm with ⟨_, _, _, e⟩ | ⟨_, e⟩ <;> rw [e] at n <;> cases n
theorem Fr.more {F : List Addr} (f : Fr A.foot H H') (g : ∀ b ∈ A.foot, b ∈ F) : Fr F H H' := fun b o n e => f b o (fun m => n (g b m)) e
theorem Fr.tupF {F : List Addr} (f : Fr F H H') (no : ∀ b ∈ F, (∃ C dx fs, H b = some (.ins C dx fs)) ∨ ∃ xs, H b = some (.lst xs)) (ht : SqT K H a xs) : SqT K H' a xs := by
  rcases ht with (ht | ⟨o, ht⟩) | ht
  · refine .inl (.inl (f _ _ (fun hm => ?_) ht))
    rcases no a hm with ⟨_, _, _, e⟩ | ⟨_, e⟩ <;> rw [e] at ht <;> cases ht
  · refine .inl (.inr ⟨o, f _ _ (fun hm => ?_) ht⟩)
    rcases no a hm with ⟨_, _, _, e⟩ | ⟨_, e⟩ <;> rw [e] at ht <;> cases ht
  · exact .inr ht
end
/-- a def that makes a list of events out of the script -/
def spEvs (K : PySem.W.Frag) (f : List Int → List Ev) : Sp := fun vs H Q _ => ∃ (a : Addr) (ns : List Int), vs = [.ref a] ∧ SqL K H a (ns.map V.int) ∧ ns.length ≤ 63 ∧ ∀ D H', H D = none → Same H H' → EvsAt K H' D (f ns) → Q (.ref D) H'
theorem wf_newP {cs : List Int} {sw : Int} (h : cs.length = 64) (hc : ∀ c ∈ cs, 0 ≤ c ∧ c < 1024) (s0 : 0 ≤ sw) (s1 : sw < 1024) : WfP (newP cs sw) :=
  ⟨⟨⟨h, by show (0 : Int) ≤ 0; decide, by show (0 : Int) < 64; decide⟩, hc, by show (0 : Int) ≤ 0; decide, by show (0 : Int) < 1024; decide, .inl rfl⟩, by show 0 ≤ 16; decide, fun x h => (by cases h), by show 0 ≤ 16; decide, rfl, fun b hb => by
    have e : b = List.replicate 16 0 := (List.mem_replicate.mp hb).2
    subst e
    exact ⟨by simp, fun x hx => by rw [(List.mem_replicate.mp hx).2]; decide⟩, s0, s1⟩
theorem isi_str {K : PySem.W.Frag} {σ : L2.St} {H : Hp} {ta : TE} {s : Str} (h : Val ta σ H (.str s)) : ∃ y t, Val ta σ H y ∧ TyX K H y (.type t) ∧ PySem.W.kitOne K (.type t) (.type "str") = some true := ⟨_, "str", h, .base (.str _), kit_ty (by decide +kernel)⟩
theorem hearP_nil {P : Pn} (h : P.inbox = []) : hearP P = againP P "hears" := by unfold hearP; rw [h]
theorem hearP_cons {P : Pn} {x : Int} {r : List Int} (h : P.inbox = x :: r) : hearP P = { P with m := { P.m with total := x }, inbox := r } := by unfold hearP; rw [h]
/-! ### the mirror, step by step -/
theorem ask_0 {P : Pn} (h : P.inbox = []) : askP P 0 = P := by unfold askP; rw [h]; rfl
theorem ask_0s {P : Pn} (h : P.inbox ≠ []) : askP P 0 = skipP P := by
  unfold askP
  rw [if_pos (by cases hx : P.inbox with
    | nil => exact absurd hx h
    | cons x r => rfl)]
theorem ask_1 (P : Pn) : askP P 1 = hearP P := by unfold askP; rw [if_neg (by simp), if_pos rfl]
theorem ask_2 {P : Pn} (h : P.outbox.length = 16) : askP P 2 = P := by unfold askP; rw [h]; rfl
theorem ask_2s {P : Pn} (h : P.outbox.length < 16) : askP P 2 = skipP P := by unfold askP; rw [if_pos (by simp [h])]
theorem ask_3 (P : Pn) : askP P 3 = sayP P := by unfold askP; rw [if_neg (by simp), if_neg (by decide), if_pos rfl]
theorem ask_4 (P : Pn) : askP P 4 = dozeP P := by unfold askP; rw [if_neg (by simp), if_neg (by decide), if_neg (by decide), if_pos rfl]
theorem ask_5 (P : Pn) : askP P 5 = carryP P true := by unfold askP; rw [if_neg (by simp), if_neg (by decide), if_neg (by decide), if_neg (by decide), if_pos rfl]
theorem ask_6 (P : Pn) : askP P 6 = carryP P false := by unfold askP; rw [if_neg (by simp), if_neg (by decide), if_neg (by decide), if_neg (by decide), if_neg (by decide), if_pos rfl]
theorem ask_7 (P : Pn) : askP P 7 = { P with st := "stopped" } := by unfold askP; rw [if_neg (by simp), if_neg (by decide), if_neg (by decide), if_neg (by decide), if_neg (by decide), if_neg (by decide), if_pos rfl]
theorem ask_8 (P : Pn) : askP P 8 = { P with m := { P.m with total := P.sw } } := by unfold askP; rw [if_neg (by simp), if_neg (by decide), if_neg (by decide), if_neg (by decide), if_neg (by decide), if_neg (by decide), if_neg (by decide), if_pos rfl]
theorem ask_hi {P : Pn} {p : Int} (h : 8 < p) : askP P p = P := by
  unfold askP
  rw [if_neg (by simp; omega), if_neg (by omega), if_neg (by omega), if_neg (by omega), if_neg (by omega), if_neg (by omega), if_neg (by omega), if_neg (by omega)]
theorem step_ask {P : Pn} {n : Int} (hg : getC P.m P.m.pc = n) (h6 : n / 128 = 6) (s : P.st = "ready") : happenP P .step = askP { P with done := P.done + 1, m := skipM P.m } (n % 64) := by
  show (if P.st = "ready" then stepP P else P) = _
  rw [if_pos s]
  unfold stepP
  have e : deedM P.m = skipM P.m := by unfold deedM; rw [hg]; dsimp only; rw [if_neg (by omega), if_pos h6]
  rw [hg, if_pos h6, e]
theorem step_own {P : Pn} {n : Int} (hg : getC P.m P.m.pc = n) (h6 : ¬ n / 128 = 6) (s : P.st = "ready") : happenP P .step = { P with done := P.done + 1, m := deedM P.m } := by
  show (if P.st = "ready" then stepP P else P) = _
  rw [if_pos s]
  unfold stepP
  rw [hg, if_neg h6]
theorem step_not {P : Pn} (s : P.st ≠ "ready") : happenP P .step = P := by show (if P.st = "ready" then stepP P else P) = _; rw [if_neg s]
theorem start_not {P : Pn} {p : Int} (s : P.st ≠ "stopped") : happenP P (.start p) = P := by show (if P.st = "stopped" then _ else P) = _; rw [if_neg s]
/-- what a key leaves -/
theorem key_same (P : Pn) (l : Int) : (happenP P (.key l)).m = P.m ∧ (happenP P (.key l)).outbox = P.outbox ∧ (happenP P (.key l)).paper = P.paper ∧ (happenP P (.key l)).blocks = P.blocks ∧ (happenP P (.key l)).sw = P.sw ∧ (happenP P (.key l)).nap = P.nap ∧ (happenP P (.key l)).done = P.done ∧
    (happenP P (.key l)).inbox = (if P.inbox.length < 16 then P.inbox ++ [l] else P.inbox) ∧ (happenP P (.key l)).lost = (if P.inbox.length < 16 then P.lost else P.lost + 1) ∧ (happenP P (.key l)).st = (if P.st = "hears" then ("ready" : Str) else P.st) := by
  show (heardP P l).m = _ ∧ (heardP P l).outbox = _ ∧ (heardP P l).paper = _ ∧ (heardP P l).blocks = _ ∧ (heardP P l).sw = _ ∧ (heardP P l).nap = _ ∧ (heardP P l).done = _ ∧ (heardP P l).inbox = _ ∧ (heardP P l).lost = _ ∧ (heardP P l).st = _
  unfold heardP wakeP
  by_cases c : P.inbox.length < 16 <;> by_cases d : P.st = "hears"
  · simp only [if_pos c, if_pos d]; refine ⟨?_, ?_, ?_, ?_, ?_, ?_, ?_, ?_, ?_, ?_⟩ <;> first | rfl | trivial
  · simp only [if_pos c, if_neg d]; refine ⟨?_, ?_, ?_, ?_, ?_, ?_, ?_, ?_, ?_, ?_⟩ <;> first | rfl | trivial
  · simp only [if_neg c, if_pos d]; refine ⟨?_, ?_, ?_, ?_, ?_, ?_, ?_, ?_, ?_, ?_⟩ <;> first | rfl | trivial
  · simp only [if_neg c, if_neg d]; refine ⟨?_, ?_, ?_, ?_, ?_, ?_, ?_, ?_, ?_, ?_⟩ <;> first | rfl | trivial
/-! ### a list of ints and ints beside: (list(cells), total, ..) -/
def rowD (cs xs : List Int) : PyData := .tuple (.list (cs.map PyData.int) :: xs.map PyData.int)
theorem shaped_row (cs xs : List Int) : SeqAt.shaped (rowD cs xs) = true := by
  unfold SeqAt.shaped rowD
  rw [Bool.and_eq_true_iff]
  constructor
  · rw [PyData.canLay0, PyData.canLayAll0, PyData.canLay0, canLay_ints, canLay_ints]; rfl
  · apply decide_eq_true
    rw [PyData.depth, PyData.depthAll, PyData.depth, depth_ints, depth_ints]
    decide
theorem eqv_row (cs xs cs' xs' : List Int) : PyData.eqv (rowD cs xs) (rowD cs' xs') = (decide (cs = cs') && decide (xs = xs')) := by
  unfold rowD
  rw [PyData.eqv, PyData.eqvAll, eqv_intsL, eqvAll_ints]
theorem dp_row {K : PySem.W.Frag} {H : Hp} {T L : Addr} {cs xs : List Int} (h : SqT K H T (.ref L :: xs.map V.int)) (hl : SqL K H L (cs.map V.int)) : Dp K H (.ref T) (rowD cs xs) := .tup h (.cons (dp_intsL hl) (dpAll_ints xs))
section
variable {σ : L2.St} {H H' : Hp} {K : PySem.W.Frag} {C D a b T : Addr} {A : PA} {P : Pn} {te ta tb to : TE} {tA : TA} {xs : List V} {cs : List Int}
/-- (0,) * 16 -/
theorem x_zeros {Q : VK} (q : ∀ T H', Same H H' → H' T = some (.tup ((List.replicate 16 (0 : Int)).map V.int)) → Q (.ref T) H') : tOp (rRepT K) (tTup (tCons (tC (.int 0)) tNil)) (tC (.int 16)) σ H Q :=
  (show tTup (tCons (tC (.int 0)) tNil) σ H _ from xt_tup ((va_cons v_c va_nil) _ ⟨k_line (by show 1 ≤ 1000; decide), fun T0 h0 => x_v v_c ⟨T0, 16, [.int 0], rfl, rfl, SqT.of upd_same, by simp, by decide, by decide, by simp, fun p hp => q p _ ((smN h0).trans (smN hp)) (by rw [upd_same]; rfl)⟩⟩))
theorem v_toInt {c : Bool} (h : Val ta σ H (.bl c)) {r : List V → Hp → VK → Prop} (e : r = fun xs H Q => (∃ i, xs = [.int i] ∧ Q (.int i) H) ∨ ∃ k, xs = [.bl k] ∧ Q (.int (if k then 1 else 0)) H := by rfl) : Val (tCB r (tCons ta tNil)) σ H (.int (if c then 1 else 0)) := by
  subst e
  exact v_cb (va_cons h va_nil) fun _ q => .inr ⟨c, rfl, q⟩
theorem v_min {i j : Int} (ha : Val ta σ H (.int i)) (hb : Val tb σ H (.int j)) {r : List V → Hp → VK → Prop} (e : r = fun xs H Q => ∃ i j, xs = [.int i, .int j] ∧ Q (.int (if j < i then j else i)) H := by rfl) : Val (tCB r (tCons ta (tCons tb tNil))) σ H (.int (if j < i then j else i)) := by
  subst e
  exact v_cb (va_cons ha (va_cons hb va_nil)) fun _ q => ⟨i, j, rfl, q⟩
/-- a call that happens to a user, by its Cal's promise -/
theorem x_hap {e : Ev} {Q : VK} (h : ValA tA σ H [.ref A.p, .ref a]) (hP : PAt C D H A P) (w : WfP P) (hs : Short P) (hE : SqT K H a (evV e)) (q : Nx C D A H (happenP P e) (Q .non)) : tCall (spHappen K C D) [] E0 tA σ H Q := x_call h ⟨A, P, a, e, rfl, hP, w, hs, hE, q⟩
end
def zeroP (cs : List Int) (t pc : Int) (st : Str) : Pn := ⟨⟨cs, t, 0, pc⟩, [], [], [], List.replicate 4 (List.replicate 16 0), 0, st, 0, 0, 0⟩
theorem wf_zeroP {cs : List Int} {t pc : Int} {st : Str} (h : cs.length = 64) (hc : ∀ c ∈ cs, 0 ≤ c ∧ c < 1024) (t0 : 0 ≤ t ∧ t < 1024) (p0 : 0 ≤ pc ∧ pc < 64) : WfP (zeroP cs t pc st) :=
  ⟨⟨⟨h, p0.1, p0.2⟩, hc, t0.1, t0.2, .inl rfl⟩, by show 0 ≤ 16; decide, fun x h => (by cases h), by show 0 ≤ 16; decide, rfl, fun b hb => by
    have e : b = List.replicate 16 0 := (List.mem_replicate.mp hb).2
    subst e
    exact ⟨by simp, fun x hx => by rw [(List.mem_replicate.mp hx).2]; decide⟩, by show (0 : Int) ≤ 0; decide, by show (0 : Int) < 1024; decide⟩
def spShot (K : PySem.W.Frag) : Sp := fun vs H Q _ => ∃ (a : Addr) (cs : List Int) (t pc : Int) (st : Str), vs = [.ref a, .int t, .int pc, .str st] ∧ SqL K H a (cs.map V.int) ∧ ∀ b H', Same H H' → Dp K H' (.ref b) (shotD (zeroP cs t pc st)) → Q (.ref b) H'
theorem zeros_rows {K : PySem.W.Frag} {H : Hp} {T1 T2 T3 T4 : Addr} (h1 : H T1 = some (.tup ((List.replicate 16 (0 : Int)).map V.int))) (h2 : H T2 = some (.tup ((List.replicate 16 (0 : Int)).map V.int))) (h3 : H T3 = some (.tup ((List.replicate 16 (0 : Int)).map V.int))) (h4 : H T4 = some (.tup ((List.replicate 16 (0 : Int)).map V.int))) :
    ∀ (i : Nat) b, [T1, T2, T3, T4][i]? = some b → ∃ ws, (List.replicate 4 (List.replicate 16 (0 : Int)))[i]? = some ws ∧ SqT K H b (ws.map V.int)
  | 0, b, e => by cases e; exact ⟨_, rfl, SqT.of h1⟩
  | 1, b, e => by cases e; exact ⟨_, rfl, SqT.of h2⟩
  | 2, b, e => by cases e; exact ⟨_, rfl, SqT.of h3⟩
  | 3, b, e => by cases e; exact ⟨_, rfl, SqT.of h4⟩
  | i + 4, b, e => by cases e
section
variable {σ : L2.St} {H H' : Hp} {K : PySem.W.Frag} {te ta tb ti : TE} {tA : TA} {sp : Sp} {v : V}
theorem xt_lst {Q : VK} (h : tA σ H fun vs H1 => vs.length ≤ sizeLine ∧ ∀ p, H1 p = none → Q (.ref p) (upd H1 p (.lst vs))) : tLst tA σ H Q := h
theorem x_test' {Q : Bool → Hp → Prop} (h : te σ H fun x H1 => ∃ k, x = .bl k ∧ Q k H1) : tB te σ H Q := h
/-- a call by its arguments' readings -/
theorem xc {Q : VK} (h : tA σ H fun vs H1 => sp vs H1 Q E0) : tCall sp [] E0 tA σ H Q := by
  unfold tCall
  simp only [List.append_nil]
  exact h
theorem xc_1 {Q : VK} (h : ta σ H fun v H1 => sp [v] H1 Q E0) : tCall sp [] E0 (tCons ta tNil) σ H Q := h
theorem xc_2 {Q : VK} (ha : Val ta σ H v) (h : tb σ H fun x H1 => sp [v, x] H1 Q E0) : tCall sp [] E0 (tCons ta (tCons tb tNil)) σ H Q := ha _ h
theorem xc_4 {Q : VK} (h : ta σ H fun v H1 => tA σ H1 fun vs H2 => sp (v :: vs) H2 Q E0) : tCall sp [] E0 (tCons ta tA) σ H Q := xc (tA := tCons ta tA) h
/-- an item of a written list of strs -/
theorem v_menuS (ws : List Str) {i : Int} (h : ValA tA σ H (ws.map V.str)) (hl : ws.length ≤ 1000) (hi : ∀ H', Same H H' → Val ti σ H' (.int i)) (h0 : 0 ≤ i) (h1 : i < (ws.length : Int)) {Q : VK} (q : ∀ H', Same H H' → Q (.str (ws.getD i.toNat default)) H') : tOp (rIxL K) (tLst tA) ti σ H Q :=
  h _ ⟨k_line (by rw [List.length_map]; exact hl), fun D hD => hi _ (smN hD) _ ⟨D, _, i, _, rfl, rfl, SqL.of upd_same, at_of (j := i.toNat) (by omega) (by
    have hl2 : i.toNat < ws.length := by omega
    rw [List.getElem?_map, List.getElem?_eq_getElem hl2]
    simp [List.getD_eq_getElem?_getD, List.getElem?_eq_getElem hl2]), q _ (smN hD)⟩⟩
end
section
variable {σ : L2.St} {H : Hp} {K : PySem.W.Frag} {te : TE} {g : TG} {tb tz : TS} {N : L2.St → Hp → Prop} {R : VK} {B C' : L2.St → Hp → Prop}
theorem qx_forE (h : te σ H fun v H1 => tSeq (tFor (iEnum K (fun _ H Q => Q [v] H)) g tb) tz ⟨N, R, B, C'⟩ σ H1) : tSeq (tFor (iEnum K (tCons te tNil)) g tb) tz ⟨N, R, B, C'⟩ σ H := h
end
/-! ### data beside objects that change -/
abbrev FS := Addr → Prop
structure LsA (H : Hp) (F : FS) (a : Addr) (xs : List V) : Prop where
  at_ : H a = some (.lst xs)
  no : ¬ F a
structure TpA (K : PySem.W.Frag) (H : Hp) (F : FS) (a : Addr) (xs : List V) : Prop where
  sq : SqT K H a xs
  no : ¬ F a ∨ ∀ H', SqT K H' a xs
mutual
inductive Da (K : PySem.W.Frag) (H : Hp) (F : FS) : V → PyData → Prop
  | non : Da K H F .non .none
  | bl (b : Bool) : Da K H F (.bl b) (.bool b)
  | int (i : Int) : Da K H F (.int i) (.int i)
  | str (x : Str) : Da K H F (.str x) (.str x)
  | lst {a : Addr} {xs : List V} {ds : List PyData} : LsA H F a xs → DaAll K H F xs ds → Da K H F (.ref a) (.list ds)
  | tup {a : Addr} {xs : List V} {ds : List PyData} : TpA K H F a xs → DaAll K H F xs ds → Da K H F (.ref a) (.tuple ds)
inductive DaAll (K : PySem.W.Frag) (H : Hp) (F : FS) : List V → List PyData → Prop
  | nil : DaAll K H F [] []
  | cons {v : V} {vs : List V} {d : PyData} {ds : List PyData} : Da K H F v d → DaAll K H F vs ds → DaAll K H F (v :: vs) (d :: ds)
end
section
variable {K : PySem.W.Frag} {H H' H1 H2 : Hp} {F F' F1 F2 : FS} {v : V} {vs ws : List V} {d e : PyData} {ds es : List PyData} {a b : Addr} {xs : List V} {i : Int}
mutual
theorem Da.dp0 : ∀ (d : PyData) (v : V), Da K H F v d → Dp K H v d
  | .none, _, h => by cases h; exact .non
  | .bool b, _, h => by cases h; exact .bl b
  | .int i, _, h => by cases h; exact .int i
  | .str x, _, h => by cases h; exact .str x
  | .list ds, _, h => by cases h with | lst h1 h2 => exact .lst (SqL.of h1.at_) (DaAll.dp0 ds _ h2)
  | .tuple ds, _, h => by cases h with | tup h1 h2 => exact .tup h1.sq (DaAll.dp0 ds _ h2)
  | .dict _, _, h => by cases h
theorem DaAll.dp0 : ∀ (ds : List PyData) (vs : List V), DaAll K H F vs ds → DpAll K H vs ds
  | [], _, h => by cases h; exact .nil
  | d :: ds, _, h => by cases h with | cons h1 h2 => exact .cons (Da.dp0 d _ h1) (DaAll.dp0 ds _ h2)
end
theorem Da.dp (h : Da K H F v d) : Dp K H v d := Da.dp0 d v h
mutual
theorem Da.map0 (hl : ∀ a xs, LsA H F a xs → LsA H' F' a xs) (ht : ∀ a xs, TpA K H F a xs → TpA K H' F' a xs) : ∀ (d : PyData) (v : V), Da K H F v d → Da K H' F' v d
  | .none, _, h => by cases h; exact .non
  | .bool b, _, h => by cases h; exact .bl b
  | .int i, _, h => by cases h; exact .int i
  | .str x, _, h => by cases h; exact .str x
  | .list ds, _, h => by cases h with | lst h1 h2 => exact .lst (hl _ _ h1) (DaAll.map0 hl ht ds _ h2)
  | .tuple ds, _, h => by cases h with | tup h1 h2 => exact .tup (ht _ _ h1) (DaAll.map0 hl ht ds _ h2)
  | .dict _, _, h => by cases h
theorem DaAll.map0 (hl : ∀ a xs, LsA H F a xs → LsA H' F' a xs) (ht : ∀ a xs, TpA K H F a xs → TpA K H' F' a xs) : ∀ (ds : List PyData) (vs : List V), DaAll K H F vs ds → DaAll K H' F' vs ds
  | [], _, h => by cases h; exact .nil
  | d :: ds, _, h => by cases h with | cons h1 h2 => exact .cons (Da.map0 hl ht d _ h1) (DaAll.map0 hl ht ds _ h2)
end
/-- from H with the changing F to H' with F' -/
structure Mv (F : FS) (H : Hp) (F' : FS) (H' : Hp) : Prop where
  keep : ∀ b o, ¬ F b → H b = some o → H' b = some o
  new : ∀ b, F' b → F b ∨ H b = none
theorem Mv.refl : Mv F H F H := ⟨fun _ _ _ h => h, fun _ h => .inl h⟩
theorem Mv.trans (p : Mv F H F1 H1) (q : Mv F1 H1 F2 H2) : Mv F H F2 H2 := by
  refine ⟨fun b o n e => q.keep b o (fun f => ?_) (p.keep b o n e), fun b f => ?_⟩
  · rcases p.new b f with h | h
    · exact n h
    · rw [e] at h; cases h
  · rcases q.new b f with h | h
    · exact p.new b h
    · by_cases c : F b
      · exact .inl c
      · cases e : H b with
        | none => exact .inr rfl
        | some o => rw [p.keep b o c e] at h; cases h
theorem Mv.same (s : Same H H') : Mv F H F H' := ⟨fun b o _ e => s b o e, fun _ h => .inl h⟩
theorem Mv.less (h : ∀ b, F' b → F b) : Mv F H F' H := ⟨fun _ _ _ e => e, fun b f => .inl (h b f)⟩
theorem Mv.more (h : ∀ b, F' b → F b ∨ H b = none) : Mv F H F' H := ⟨fun _ _ _ e => e, h⟩
/-- a change of one part, all else beside -/
theorem Mv.part {G G' : FS} (p : Mv G H G' H') (h : ∀ b, G b → F b) : Mv F H (fun b => F b ∨ G' b) H' := ⟨fun b o n e => p.keep b o (fun g => n (h b g)) e, fun b f => f.elim .inl (fun g => (p.new b g).imp (h b) id)⟩
theorem LsA.mv (m : Mv F H F' H') (h : LsA H F a xs) : LsA H' F' a xs := ⟨m.keep _ _ h.no h.at_, fun f => (m.new a f).elim h.no (fun e => by rw [h.at_] at e; cases e)⟩
theorem TpA.mv (m : Mv F H F' H') (h : TpA K H F a xs) : TpA K H' F' a xs := by
  obtain ⟨h, n⟩ := h
  rcases n with n | n
  · rcases h with (h | ⟨o, h⟩) | h
    · exact ⟨.inl (.inl (m.keep _ _ n h)), .inl fun f => (m.new a f).elim n (fun e => by rw [h] at e; cases e)⟩
    · exact ⟨.inl (.inr ⟨o, m.keep _ _ n h⟩), .inl fun f => (m.new a f).elim n (fun e => by rw [h] at e; cases e)⟩
    · exact ⟨.inr h, .inr fun _ => .inr h⟩
  · exact ⟨n _, .inr n⟩
theorem Da.mv (m : Mv F H F' H') (h : Da K H F v d) : Da K H' F' v d := Da.map0 (fun _ _ => LsA.mv m) (fun _ _ => TpA.mv m) d v h
theorem DaAll.mv (m : Mv F H F' H') (h : DaAll K H F vs ds) : DaAll K H' F' vs ds := DaAll.map0 (fun _ _ => LsA.mv m) (fun _ _ => TpA.mv m) ds vs h
theorem Da.same (s : Same H H') (h : Da K H F v d) : Da K H' F v d := h.mv (.same s)
theorem DaAll.same (s : Same H H') (h : DaAll K H F vs ds) : DaAll K H' F vs ds := h.mv (.same s)
theorem DaAll.len : ∀ {vs : List V} {ds : List PyData}, DaAll K H F vs ds → vs.length = ds.length
  | _, _, .nil => rfl
  | _, _, .cons _ h => by rw [List.length_cons, List.length_cons, h.len]
theorem DaAll.get : ∀ {vs : List V} {ds : List PyData} (i : Nat), DaAll K H F vs ds → vs[i]? = some v → ds[i]? = some d → Da K H F v d
  | _, _, 0, .cons h _, e, f => by cases e; cases f; exact h
  | _, _, i + 1, .cons _ h, e, f => h.get i e f
theorem DaAll.get' : ∀ {vs : List V} {ds : List PyData} (i : Nat), DaAll K H F vs ds → ds[i]? = some d → ∃ v, vs[i]? = some v ∧ Da K H F v d
  | _, _, 0, .cons h _, f => by cases f; exact ⟨_, rfl, h⟩
  | _, _, i + 1, .cons _ h, f => h.get' i f
theorem DaAll.getV : ∀ {vs : List V} {ds : List PyData} (i : Nat), DaAll K H F vs ds → vs[i]? = some v → ∃ d, ds[i]? = some d ∧ Da K H F v d
  | _, _, 0, .cons h _, f => by cases f; exact ⟨_, rfl, h⟩
  | _, _, i + 1, .cons _ h, f => h.getV i f
theorem DaAll.app : ∀ {vs : List V} {ds : List PyData}, DaAll K H F vs ds → DaAll K H F ws es → DaAll K H F (vs ++ ws) (ds ++ es)
  | _, _, .nil, h => h
  | _, _, .cons h t, h2 => .cons h (t.app h2)
theorem DaAll.take : ∀ {vs : List V} {ds : List PyData} (n : Nat), DaAll K H F vs ds → DaAll K H F (vs.take n) (ds.take n)
  | _, _, 0, _ => .nil
  | _, _, _ + 1, .nil => .nil
  | _, _, n + 1, .cons h t => .cons h (t.take n)
theorem DaAll.drop : ∀ {vs : List V} {ds : List PyData} (n : Nat), DaAll K H F vs ds → DaAll K H F (vs.drop n) (ds.drop n)
  | _, _, 0, h => h
  | _, _, _ + 1, .nil => .nil
  | _, _, n + 1, .cons _ t => t.drop n
theorem daAll_ints : ∀ ns : List Int, DaAll K H F (ns.map V.int) (ns.map PyData.int)
  | [] => .nil
  | n :: r => .cons (.int n) (daAll_ints r)
theorem DaAll.ints : ∀ {vs : List V} {ns : List Int}, DaAll K H F vs (ns.map PyData.int) → vs = ns.map V.int
  | _, [], h => by cases h; rfl
  | _, n :: r, h => by cases h with | cons h1 h2 => cases h1; rw [h2.ints]; rfl
theorem Da.intsT {ns : List Int} (h : SqT K H a (ns.map V.int)) (n : ¬ F a) : Da K H F (.ref a) (intsD ns) := .tup ⟨h, .inl n⟩ (daAll_ints ns)
theorem Da.intsL {ns : List Int} (h : H a = some (.lst (ns.map V.int))) (n : ¬ F a) : Da K H F (.ref a) (.list (ns.map PyData.int)) := .lst ⟨h, n⟩ (daAll_ints ns)
/-- the changing ones stand in the heap -/
def FA (F : FS) (H : Hp) : Prop := ∀ b, F b → H b ≠ none
theorem FA.same (s : Same H H') (h : FA F H) : FA F H' := fun b f e => h b f (s.free e)
theorem FA.no (h : FA F H) (e : H a = none) : ¬ F a := fun f => h a f e
theorem FA.none : FA (fun _ => False) H := fun _ f => f.elim
theorem FA.or (h1 : FA F H) (h2 : FA F' H) : FA (fun b => F b ∨ F' b) H := fun b f => f.elim (h1 b) (h2 b)
end
/-- tuples stay -/
def TpS (H H' : Hp) : Prop := ∀ b xs, H b = some (.tup xs) → H' b = some (.tup xs)
theorem TpS.same {H H' : Hp} (s : Same H H') : TpS H H' := fun b xs e => s _ _ e
theorem TpS.upd {H : Hp} {D : Addr} {vs : List V} {o : HO} (h : H D = some (.lst vs)) : TpS H (upd H D o) := fun b xs e => by rw [upd_ne (fun q => by rw [q, h] at e; cases e)]; exact e
/-- a world W that looks only at F, and at tuples -/
structure Wo (F : FS) (W : Hp → Prop) : Prop where
  loc : ∀ H H', (∀ b o, F b → H b = some o → H' b = some o) → TpS H H' → W H → W H'
structure Ok (F : FS) (W : Hp → Prop) (H : Hp) : Prop where
  fa : FA F H
  w : W H
abbrev wT : Hp → Prop := fun _ => True
theorem woT {F : FS} : Wo F wT := ⟨fun _ _ _ _ _ => trivial⟩
/-- a reading gives d, as new or as it was -/
def Dv (K : PySem.W.Frag) (F : FS) (W : Hp → Prop) (te : TE) (σ : L2.St) (H : Hp) (d : PyData) : Prop := ∀ H1, Mv F H F H1 → Ok F W H1 → ∀ Q : VK, (∀ v H', Mv F H1 F H' → Ok F W H' → Da K H' F v d → Q v H') → te σ H1 Q
def DvA (K : PySem.W.Frag) (F : FS) (W : Hp → Prop) (tA : TA) (σ : L2.St) (H : Hp) (ds : List PyData) : Prop := ∀ H1, Mv F H F H1 → Ok F W H1 → ∀ Q : List V → Hp → Prop, (∀ vs H', Mv F H1 F H' → Ok F W H' → DaAll K H' F vs ds → Q vs H') → tA σ H1 Q
def withF (F : FS) (D : Addr) : FS := fun b => F b ∨ b = D
/-- the list at D, its items beside it -/
def OwL (K : PySem.W.Frag) (F : FS) (D : Addr) (H : Hp) (ds : List PyData) : Prop := ∃ vs, H D = some (.lst vs) ∧ DaAll K H (withF F D) vs ds
/-- a reading gives a new list -/
def DvN (K : PySem.W.Frag) (F : FS) (W : Hp → Prop) (te : TE) (σ : L2.St) (H : Hp) (ds : List PyData) : Prop := ∀ H1, Mv F H F H1 → Ok F W H1 → ∀ Q : VK, (∀ D H', H1 D = none → Mv F H1 F H' → Ok F W H' → OwL K F D H' ds → Q (.ref D) H') → te σ H1 Q
section
variable {K : PySem.W.Frag} {H H' : Hp} {F F1 : FS} {W : Hp → Prop} {σ : L2.St} {te ta tb tl : TE} {tA : TA} {v : V} {d e : PyData} {ds es : List PyData} {a b : Addr} {xs : List V} {i j : Int} {N : L2.St → Hp → Prop} {R : VK} {B C' : L2.St → Hp → Prop} {tz : TS} {c : Bool}
theorem Wo.up (h : Wo F W) (g : ∀ b, F b → F1 b) : Wo F1 W := ⟨fun H H' k t => h.loc H H' (fun b o f => k b o (g b f)) t⟩
theorem Wo.and {W2 : Hp → Prop} (h : Wo F W) (h2 : Wo F W2) : Wo F (fun H => W H ∧ W2 H) := ⟨fun H H' k t w => ⟨h.loc H H' k t w.1, h2.loc H H' k t w.2⟩⟩
theorem Ok.same (o : Ok F W H) (wo : Wo F W) (s : Same H H') : Ok F W H' := ⟨o.fa.same s, wo.loc _ _ (fun b o _ => s b o) (.same s) o.w⟩
theorem mvN {p : Addr} {o : HO} (hp : H p = none) : Mv F H (withF F p) (upd H p o) := ⟨fun b o _ e => smN hp b o e, fun b f => f.imp id (fun e => by rw [e]; exact hp)⟩
theorem Ok.free {p : Addr} (o : Ok F W H') (m : Mv F H F H') (hp : H' p = none) : H p = none := by
  cases e : H p with
  | none => rfl
  | some u => rw [m.keep p u (o.fa.no hp) e] at hp; cases hp
theorem OwL.da {D : Addr} (h : OwL K F D H ds) (n : ¬ F D) : Da K H F (.ref D) (.list ds) := by
  obtain ⟨vs, h1, h2⟩ := h
  exact .lst ⟨h1, n⟩ (h2.mv (.less fun b f => .inl f))
theorem DvN.dv (h : DvN K F W te σ H ds) : Dv K F W te σ H (.list ds) := fun H1 m o Q q => h H1 m o Q fun D H' hD m' o' w => q _ _ m' o' (w.da (o.fa.no hD))
theorem dv_v (h : ∀ H1, Mv F H F H1 → Ok F W H1 → Val te σ H1 v) (hd : Da K H F v d) : Dv K F W te σ H d := fun H1 m o _ q => h H1 m o _ (q v H1 .refl o (hd.mv m))
theorem dv_var {k : Nat} (h : σ[k]? = some (some v)) (hd : Da K H F v d) : Dv K F W (tVar k) σ H d := dv_v (fun _ _ _ => val_var h) hd
theorem dv_c (hd : Da K H F v d) : Dv K F W (tC v) σ H d := dv_v (fun _ _ _ => val_c) hd
theorem dv_i (h : ∀ H1, Mv F H F H1 → Ok F W H1 → Val te σ H1 (.int i)) : Dv K F W te σ H (.int i) := dv_v h (.int i)
theorem dv_st {s : Str} (h : ∀ H1, Mv F H F H1 → Ok F W H1 → Val te σ H1 (.str s)) : Dv K F W te σ H (.str s) := dv_v h (.str s)
theorem dv_k {z : Int} : Dv K F W (tC (.int z)) σ H (.int z) := dv_c (.int z)
theorem dv_s {s : Str} : Dv K F W (tC (.str s)) σ H (.str s) := dv_c (.str s)
theorem Dv.mv (h : Dv K F W te σ H d) (s : Mv F H F H') : Dv K F W te σ H' d := fun H1 s1 => h H1 (s.trans s1)
theorem DvA.mv (h : DvA K F W tA σ H ds) (s : Mv F H F H') : DvA K F W tA σ H' ds := fun H1 s1 => h H1 (s.trans s1)
theorem x_d {Q : VK} (h : Dv K F W te σ H d) (o : Ok F W H) (q : ∀ v H', Mv F H F H' → Ok F W H' → Da K H' F v d → Q v H') : te σ H Q := h H .refl o Q q
theorem x_dA {Q : List V → Hp → Prop} (h : DvA K F W tA σ H ds) (o : Ok F W H) (q : ∀ vs H', Mv F H F H' → Ok F W H' → DaAll K H' F vs ds → Q vs H') : tA σ H Q := h H .refl o Q q
theorem Dv.eq (h : Dv K F W te σ H d) (e' : d = e) : Dv K F W te σ H e := e' ▸ h
theorem da_nil : DvA K F W tNil σ H [] := fun H1 _ o _ q => q [] H1 .refl o .nil
theorem da_cons (h : Dv K F W ta σ H d) (ht : DvA K F W tA σ H ds) : DvA K F W (tCons ta tA) σ H (d :: ds) := fun H1 m o _ q =>
  h H1 m o _ fun v H2 m2 o2 hd => ht H2 (m.trans m2) o2 _ fun vs H3 m3 o3 hds => q (v :: vs) H3 (m2.trans m3) o3 (.cons (hd.mv m3) hds)
theorem dv_tup (wo : Wo F W) (h : DvA K F W tA σ H ds) (hl : ds.length ≤ 1000 := by simp) : Dv K F W (tTup tA) σ H (.tuple ds) := fun H1 m o _ q =>
  h H1 m o _ fun vs H2 m2 o2 hd => ⟨k_line (by rw [hd.len]; exact hl), fun p hp => q _ _ (m2.trans (.same (smN hp))) (o2.same wo (smN hp)) (.tup ⟨SqT.of upd_same, .inl (o2.fa.no hp)⟩ (hd.same (smN hp)))⟩
theorem dn_lst (wo : Wo F W) (h : DvA K F W tA σ H ds) (hl : ds.length ≤ 1000 := by simp) : DvN K F W (tLst tA) σ H ds := fun H1 m o _ q =>
  h H1 m o _ fun vs H2 m2 o2 hd => ⟨k_line (by rw [hd.len]; exact hl), fun p hp => q _ _ (o2.free m2 hp) (m2.trans (.same (smN hp))) (o2.same wo (smN hp)) ⟨vs, upd_same, hd.mv (mvN hp)⟩⟩
theorem dv_lst (wo : Wo F W) (h : DvA K F W tA σ H ds) (hl : ds.length ≤ 1000 := by simp) : Dv K F W (tLst tA) σ H (.list ds) := (dn_lst wo h hl).dv
theorem dn_list (wo : Wo F W) (h : Dv K F W ta σ H d) (hd : d = .list ds ∨ d = .tuple ds) : DvN K F W (tCB (rListS K) (tCons ta tNil)) σ H ds := fun H1 m o _ q =>
  h H1 m o _ fun v H2 m2 o2 hv => by
    rcases hd with rfl | rfl
    · cases hv with | lst h1 h2 => exact ⟨_, _, rfl, .inl (SqL.of h1.at_), fun p hp => q _ _ (o2.free m2 hp) (m2.trans (.same (smN hp))) (o2.same wo (smN hp)) ⟨_, upd_same, h2.mv (mvN hp)⟩⟩
    · cases hv with | tup h1 h2 => exact ⟨_, _, rfl, .inr h1.sq, fun p hp => q _ _ (o2.free m2 hp) (m2.trans (.same (smN hp))) (o2.same wo (smN hp)) ⟨_, upd_same, h2.mv (mvN hp)⟩⟩
theorem dv_list (wo : Wo F W) (h : Dv K F W ta σ H d) (hd : d = .list ds ∨ d = .tuple ds) : Dv K F W (tCB (rListS K) (tCons ta tNil)) σ H (.list ds) := (dn_list wo h hd).dv
theorem dv_tuple (wo : Wo F W) (h : Dv K F W ta σ H d) (hd : d = .list ds ∨ d = .tuple ds) : Dv K F W (tCB (rTupOf K) (tCons ta tNil)) σ H (.tuple ds) := fun H1 m o _ q =>
  h H1 m o _ fun v H2 m2 o2 hv => by
    rcases hd with rfl | rfl
    · cases hv with | lst h1 h2 => exact ⟨_, _, rfl, .inl ⟨SqL.of h1.at_, fun p hp => q _ _ (m2.trans (.same (smN hp))) (o2.same wo (smN hp)) (.tup ⟨SqT.of upd_same, .inl (o2.fa.no hp)⟩ (h2.same (smN hp)))⟩⟩
    · cases hv with | tup h1 h2 => exact ⟨_, _, rfl, .inr ⟨h1.sq, q _ _ m2 o2 (.tup h1 h2)⟩⟩
/-- list(..), tuple(..) of a list that changes -/
theorem dn_listO {ns : List V} (wo : Wo F W) (h : ∀ H1, Mv F H F H1 → Ok F W H1 → ∃ a, Val ta σ H1 (.ref a) ∧ (SqL K H1 a ns ∨ SqT K H1 a ns) ∧ DaAll K H1 F ns ds) : DvN K F W (tCB (rListS K) (tCons ta tNil)) σ H ds := fun H1 m o _ q => by
  obtain ⟨a, ha, hs, hd⟩ := h H1 m o
  exact ha _ ⟨a, ns, rfl, hs, fun p hp => q _ _ hp (.same (smN hp)) (o.same wo (smN hp)) ⟨_, upd_same, hd.mv (mvN hp)⟩⟩
theorem dv_listO {ns : List V} (wo : Wo F W) (h : ∀ H1, Mv F H F H1 → Ok F W H1 → ∃ a, Val ta σ H1 (.ref a) ∧ (SqL K H1 a ns ∨ SqT K H1 a ns) ∧ DaAll K H1 F ns ds) : Dv K F W (tCB (rListS K) (tCons ta tNil)) σ H (.list ds) := (dn_listO wo h).dv
theorem dv_tupleO {ns : List V} (wo : Wo F W) (h : ∀ H1, Mv F H F H1 → Ok F W H1 → ∃ a, Val ta σ H1 (.ref a) ∧ SqL K H1 a ns ∧ DaAll K H1 F ns ds) : Dv K F W (tCB (rTupOf K) (tCons ta tNil)) σ H (.tuple ds) := fun H1 m o _ q => by
  obtain ⟨a, ha, hs, hd⟩ := h H1 m o
  exact ha _ ⟨a, ns, rfl, .inl ⟨hs, fun p hp => q _ _ (.same (smN hp)) (o.same wo (smN hp)) (.tup ⟨SqT.of upd_same, .inl (o.fa.no hp)⟩ (hd.same (smN hp)))⟩⟩
theorem dv_catT (wo : Wo F W) (ha : Dv K F W ta σ H (.tuple ds)) (hb : Dv K F W tb σ H (.tuple es)) (hl : ds.length + es.length ≤ 100000 := by simp) : Dv K F W (tOp (rCatA K) ta tb) σ H (.tuple (ds ++ es)) := fun H1 m o _ q =>
  ha H1 m o _ fun v H2 m2 o2 hv => hb H2 (m.trans m2) o2 _ fun w H3 m3 o3 hw => by
    have hv := hv.mv m3
    cases hv with | tup h1 h2 =>
    cases hw with | tup h3 h4 =>
    refine ⟨_, _, _, _, rfl, rfl, h1.sq, h3.sq, ?_, ?_, ?_, ?_⟩
    · rw [h2.len, h4.len]; exact Nat.le_trans hl (by rw [sizeLine_eq]; decide)
    · intro e
      subst e
      cases h2
      exact q _ _ (m2.trans m3) o3 (.tup h3 h4)
    · intro _ e
      subst e
      cases h4
      rw [List.append_nil] at q
      exact q _ _ (m2.trans m3) o3 (.tup h1 h2)
    · intro _ _ p hp
      exact q _ _ ((m2.trans m3).trans (.same (smN hp))) (o3.same wo (smN hp)) (.tup ⟨SqT.of upd_same, .inl (o3.fa.no hp)⟩ ((h2.app h4).same (smN hp)))
theorem dn_catL (wo : Wo F W) (ha : Dv K F W ta σ H (.list ds)) (hb : Dv K F W tb σ H (.list es)) (hl : ds.length + es.length ≤ 100000 := by simp) : DvN K F W (tOp rCat ta tb) σ H (ds ++ es) := fun H1 m o _ q =>
  ha H1 m o _ fun v H2 m2 o2 hv => hb H2 (m.trans m2) o2 _ fun w H3 m3 o3 hw => by
    have hv := hv.mv m3
    cases hv with | lst h1 h2 =>
    cases hw with | lst h3 h4 =>
    exact ⟨_, _, _, _, rfl, rfl, h1.at_, h3.at_, by rw [h2.len, h4.len]; exact Nat.le_trans hl (by rw [sizeLine_eq]; decide), fun p hp =>
      q _ _ (o3.free (m2.trans m3) hp) ((m2.trans m3).trans (.same (smN hp))) (o3.same wo (smN hp)) ⟨_, upd_same, (h2.app h4).mv (mvN hp)⟩⟩
theorem dv_catL (wo : Wo F W) (ha : Dv K F W ta σ H (.list ds)) (hb : Dv K F W tb σ H (.list es)) (hl : ds.length + es.length ≤ 100000 := by simp) : Dv K F W (tOp rCat ta tb) σ H (.list (ds ++ es)) := (dn_catL wo ha hb hl).dv
/-- a slice by bounds that are plain -/
def cutD {α : Type} (xs : List α) (lo hi : Option Int) : List α := (xs.drop (HT.sIx xs.length 0 lo)).take (HT.sIx xs.length xs.length hi - HT.sIx xs.length 0 lo)
theorem cutD_nat {α : Type} {xs : List α} {i j : Nat} (h : i ≤ j) : cutD xs (some (i : Int)) (some (j : Int)) = (xs.take j).drop i := by
  unfold cutD
  rw [HT.sIx_nat, HT.sIx_nat]
  apply List.ext_getElem?
  intro n
  simp only [List.getElem?_take, List.getElem?_drop]
  by_cases c1 : n < j - i
  · have c2 : i + n < j := by omega
    rw [if_pos c2]
    by_cases c3 : i ≤ xs.length
    · rw [Nat.min_eq_left c3]
      by_cases c4 : n < min j xs.length - i
      · rw [if_pos c4]
      · rw [if_neg c4]
        exact (List.getElem?_eq_none (by omega)).symm
    · rw [if_neg (by omega)]
      exact (List.getElem?_eq_none (by omega)).symm
  · rw [if_neg (by omega), if_neg (by omega)]
theorem cutD_to {α : Type} {xs : List α} {j : Nat} : cutD xs none (some (j : Int)) = xs.take j := by
  have e : cutD xs none (some (j : Int)) = cutD xs (some ((0 : Nat) : Int)) (some (j : Int)) := by unfold cutD; rw [HT.sIx_none, HT.sIx_nat, HT.sIx_nat, Nat.zero_min]
  rw [e, cutD_nat (Nat.zero_le _), List.drop_zero]
theorem cutD_from {α : Type} {xs : List α} {i : Nat} : cutD xs (some (i : Int)) none = xs.drop i := by
  unfold cutD
  rw [HT.sIx_nat, HT.sIx_none]
  by_cases h : i ≤ xs.length
  · rw [Nat.min_eq_left h, List.take_of_length_le (by rw [List.length_drop]; omega)]
  · rw [Nat.min_eq_right (by omega), List.drop_eq_nil_of_le (Nat.le_refl _), List.drop_eq_nil_of_le (by omega), List.take_nil]
theorem DaAll.cut {vs : List V} (h : DaAll K H F vs ds) (lo hi : Option Int) : DaAll K H F (cutV vs lo hi) (cutD ds lo hi) := by
  unfold cutV cutD
  rw [h.len]
  exact (h.drop _).take _
theorem cutV_whole {vs : List V} {lo hi : Option Int} (h : HT.sIx vs.length 0 lo = 0 ∧ HT.sIx vs.length vs.length hi = vs.length) : cutV vs lo hi = vs := by
  unfold cutV
  rw [h.1, h.2, List.drop_zero, Nat.sub_zero, List.take_length]
/-- a part of a slice -/
def Pt (F : FS) (W : Hp → Prop) (tlo : TO) (σ : L2.St) (H : Hp) (lo : Option Int) : Prop := ∀ H1, Mv F H F H1 → Ok F W H1 → ∀ Q : Option Int → Hp → Prop, Q lo H1 → tlo σ H1 Q
theorem pt_n : Pt F W tNoPart σ H none := fun _ _ _ _ q => q
theorem pt_s (h : ∀ H1, Mv F H F H1 → Ok F W H1 → Val te σ H1 (.int i)) : Pt F W (tPart te) σ H (some i) := fun H1 m o _ q => h H1 m o _ ⟨_, rfl, q⟩
theorem dv_slT {lo hi : Option Int} {tlo thi : TO} (wo : Wo F W) (ha : Dv K F W ta σ H (.tuple ds)) (h1 : Pt F W tlo σ H lo) (h2 : Pt F W thi σ H hi) : Dv K F W (tSl (rSlA K) ta tlo thi) σ H (.tuple (cutD ds lo hi)) := fun H1 m o _ q =>
  ha H1 m o _ fun v H2 m2 o2 hv => h1 H2 (m.trans m2) o2 _ (h2 H2 (m.trans m2) o2 _ (by
    cases hv with | tup h3 h4 =>
    refine ⟨_, _, rfl, h3.sq, fun w => ?_, fun w p hp => ?_⟩
    · refine q _ _ m2 o2 (.tup h3 ?_)
      have := h4.cut lo hi
      rwa [cutV_whole w] at this
    · exact q _ _ (m2.trans (.same (smN hp))) (o2.same wo (smN hp)) (.tup ⟨SqT.of upd_same, .inl (o2.fa.no hp)⟩ ((h4.cut lo hi).same (smN hp)))))
theorem dn_slL {lo hi : Option Int} {tlo thi : TO} (wo : Wo F W) (ha : Dv K F W ta σ H (.list ds)) (h1 : Pt F W tlo σ H lo) (h2 : Pt F W thi σ H hi) : DvN K F W (tSl (rSlL K) ta tlo thi) σ H (cutD ds lo hi) := fun H1 m o _ q =>
  ha H1 m o _ fun v H2 m2 o2 hv => h1 H2 (m.trans m2) o2 _ (h2 H2 (m.trans m2) o2 _ (by
    cases hv with | lst h3 h4 =>
    exact ⟨_, _, rfl, SqL.of h3.at_, fun p hp => q _ _ (o2.free m2 hp) (m2.trans (.same (smN hp))) (o2.same wo (smN hp)) ⟨_, upd_same, (h4.cut lo hi).mv (mvN hp)⟩⟩))
theorem dv_slL {lo hi : Option Int} {tlo thi : TO} (wo : Wo F W) (ha : Dv K F W ta σ H (.list ds)) (h1 : Pt F W tlo σ H lo) (h2 : Pt F W thi σ H hi) : Dv K F W (tSl (rSlL K) ta tlo thi) σ H (.list (cutD ds lo hi)) := (dn_slL wo ha h1 h2).dv
theorem dv_slTt (j : Nat) {thi : TO} (wo : Wo F W) (ha : Dv K F W ta σ H (.tuple ds)) (h2 : Pt F W thi σ H (some (j : Int))) : Dv K F W (tSl (rSlA K) ta tNoPart thi) σ H (.tuple (ds.take j)) := (dv_slT wo ha pt_n h2).eq (by rw [cutD_to])
theorem dv_slTm (i j : Nat) {tlo thi : TO} (wo : Wo F W) (ha : Dv K F W ta σ H (.tuple ds)) (h1 : Pt F W tlo σ H (some (i : Int))) (h2 : Pt F W thi σ H (some (j : Int))) (hij : i ≤ j := by decide) : Dv K F W (tSl (rSlA K) ta tlo thi) σ H (.tuple ((ds.take j).drop i)) := (dv_slT wo ha h1 h2).eq (by rw [cutD_nat hij])
theorem dv_slTf (i : Nat) {tlo : TO} (wo : Wo F W) (ha : Dv K F W ta σ H (.tuple ds)) (h1 : Pt F W tlo σ H (some (i : Int))) : Dv K F W (tSl (rSlA K) ta tlo tNoPart) σ H (.tuple (ds.drop i)) := (dv_slT wo ha h1 pt_n).eq (by rw [cutD_from])
theorem dv_slLt (j : Nat) {thi : TO} (wo : Wo F W) (ha : Dv K F W ta σ H (.list ds)) (h2 : Pt F W thi σ H (some (j : Int))) : Dv K F W (tSl (rSlL K) ta tNoPart thi) σ H (.list (ds.take j)) := (dv_slL wo ha pt_n h2).eq (by rw [cutD_to])
theorem dv_slLm (i j : Nat) {tlo thi : TO} (wo : Wo F W) (ha : Dv K F W ta σ H (.list ds)) (h1 : Pt F W tlo σ H (some (i : Int))) (h2 : Pt F W thi σ H (some (j : Int))) (hij : i ≤ j := by decide) : Dv K F W (tSl (rSlL K) ta tlo thi) σ H (.list ((ds.take j).drop i)) := (dv_slL wo ha h1 h2).eq (by rw [cutD_nat hij])
theorem dv_slLf (i : Nat) {tlo : TO} (wo : Wo F W) (ha : Dv K F W ta σ H (.list ds)) (h1 : Pt F W tlo σ H (some (i : Int))) : Dv K F W (tSl (rSlL K) ta tlo tNoPart) σ H (.list (ds.drop i)) := (dv_slL wo ha h1 pt_n).eq (by rw [cutD_from])
theorem dv_ixT (ha : Dv K F W ta σ H (.tuple ds)) (hb : ∀ H1, Mv F H F H1 → Ok F W H1 → Val tb σ H1 (.int i)) (h0 : 0 ≤ i) (hx : ds[i.toNat]? = some d) : Dv K F W (tOp (rIxT K) ta tb) σ H d := fun H1 m o _ q =>
  ha H1 m o _ fun v H2 m2 o2 hv => hb H2 (m.trans m2) o2 _ (by
    cases hv with | tup h3 h4 =>
    obtain ⟨w, e1, e2⟩ := h4.get' _ hx
    exact ⟨_, _, _, _, rfl, rfl, h3.sq, at_of (j := i.toNat) (by omega) e1, q _ _ m2 o2 e2⟩)
theorem dv_ixL (ha : Dv K F W ta σ H (.list ds)) (hb : ∀ H1, Mv F H F H1 → Ok F W H1 → Val tb σ H1 (.int i)) (h0 : 0 ≤ i) (hx : ds[i.toNat]? = some d) : Dv K F W (tOp (rIxL K) ta tb) σ H d := fun H1 m o _ q =>
  ha H1 m o _ fun v H2 m2 o2 hv => hb H2 (m.trans m2) o2 _ (by
    cases hv with | lst h3 h4 =>
    obtain ⟨w, e1, e2⟩ := h4.get' _ hx
    exact ⟨_, _, _, _, rfl, rfl, SqL.of h3.at_, at_of (j := i.toNat) (by omega) e1, q _ _ m2 o2 e2⟩)
theorem dv_if {t : TT} (h : ∀ H1, Mv F H F H1 → Ok F W H1 → Ans t σ H1 c) (h1 : c = true → Dv K F W ta σ H d) (h2 : c = false → Dv K F W tb σ H d) : Dv K F W (tIf t ta tb) σ H d := fun H1 m o Q q => h H1 m o _ (by
  cases c with
  | true => exact (show (if true = true then _ else _) from by rw [if_pos rfl]; exact h1 rfl H1 m o Q q)
  | false => exact (show (if false = true then _ else _) from by rw [if_neg Bool.false_ne_true]; exact h2 rfl H1 m o Q q))
/-- a call by data -/
theorem dv_call {sp : Sp} (h : DvA K F W tA σ H ds) (hs : ∀ vs H1, Mv F H F H1 → Ok F W H1 → DaAll K H1 F vs ds → ∀ Q : VK, (∀ v H', Mv F H1 F H' → Ok F W H' → Da K H' F v d → Q v H') → sp vs H1 Q E0) : Dv K F W (tCall sp [] E0 tA) σ H d := fun H1 m o _ q =>
  h H1 m o _ fun vs H2 m2 o2 hv => by
    rw [List.append_nil]
    exact hs vs H2 (m.trans m2) o2 hv _ fun v H' m3 o3 hd => q v H' (m2.trans m3) o3 hd
theorem dv_cb {r : List V → Hp → VK → Prop} (h : DvA K F W tA σ H ds) (hs : ∀ vs H1, Mv F H F H1 → Ok F W H1 → DaAll K H1 F vs ds → ∀ Q : VK, (∀ v H', Mv F H1 F H' → Ok F W H' → Da K H' F v d → Q v H') → r vs H1 Q) : Dv K F W (tCB r tA) σ H d := fun H1 m o _ q =>
  h H1 m o _ fun vs H2 m2 o2 hv => hs vs H2 (m.trans m2) o2 hv _ fun v H' m3 o3 hd => q v H' (m2.trans m3) o3 hd
/-- (x,) * n, [x] * n -/
theorem daAll_flat : ∀ (n : Nat) {vs : List V}, DaAll K H F vs ds → DaAll K H F (List.replicate n vs).flatten (List.replicate n ds).flatten
  | 0, _, _ => .nil
  | n + 1, _, h => by rw [List.replicate_succ, List.replicate_succ, List.flatten_cons, List.flatten_cons]; exact h.app (daAll_flat n h)
theorem dv_repT {k : Int} (wo : Wo F W) (ha : Dv K F W ta σ H (.tuple ds)) (hb : ∀ H1, Mv F H F H1 → Ok F W H1 → Val tb σ H1 (.int k)) (h2 : 2 ≤ k ∧ k ≤ 1000) (hd : ds ≠ [] ∧ ds.length ≤ 1000) : Dv K F W (tOp (rRepT K) ta tb) σ H (.tuple (List.replicate k.toNat ds).flatten) := fun H1 m o _ q =>
  ha H1 m o _ fun v H2 m2 o2 hv => hb H2 (m.trans m2) o2 _ (by
    cases hv with | tup h3 h4 =>
    refine ⟨_, _, _, rfl, rfl, h3.sq, ?_, h2.1, h2.2, by rw [h4.len]; exact hd.2, fun p hp => q _ _ (m2.trans (.same (smN hp))) (o2.same wo (smN hp)) (.tup ⟨SqT.of upd_same, .inl (o2.fa.no hp)⟩ ((daAll_flat _ h4).same (smN hp)))⟩
    intro e
    subst e
    cases h4
    exact hd.1 rfl)
/-- statements -/
theorem q_d {k : Nat} (h : Dv K F W te σ H d) (o : Ok F W H) (q : ∀ v H', Mv F H F H' → Ok F W H' → Da K H' F v d → tz ⟨N, R, B, C'⟩ (σ.set k (some v)) H') : tSeq (tAsg te (gName k)) tz ⟨N, R, B, C'⟩ σ H := x_d h o q
theorem s_d {k : Nat} (h : Dv K F W te σ H d) (o : Ok F W H) (q : ∀ v H', Mv F H F H' → Ok F W H' → Da K H' F v d → N (σ.set k (some v)) H') : tAsg te (gName k) ⟨N, R, B, C'⟩ σ H := x_d h o q
theorem s_retD (h : Dv K F W te σ H d) (o : Ok F W H) (q : ∀ v H', Mv F H F H' → Ok F W H' → Da K H' F v d → R v H') : tRet te ⟨N, R, B, C'⟩ σ H := x_d h o q
/-! comparisons -/
theorem x_eqD {Q : VK} (o : Ok F W H) (ha : Dv K F W ta σ H d) (hb : Dv K F W tb σ H e) (sd : SeqAt.shaped d = true) (se : SeqAt.shaped e = true) (q : ∀ H', Mv F H F H' → Ok F W H' → Q (.bl (PyData.eqv d e)) H') : tOp (rEqD K) ta tb σ H Q :=
  show ta σ H _ from x_d ha o fun v H2 m2 o2 hv => show tb σ H2 _ from hb H2 m2 o2 _ fun w H3 m3 o3 hw => ⟨d, e, (hv.mv m3).dp, hw.dp, sd, se, q _ (m2.trans m3) o3⟩
theorem x_neD {Q : VK} (o : Ok F W H) (ha : Dv K F W ta σ H d) (hb : Dv K F W tb σ H e) (sd : SeqAt.shaped d = true) (se : SeqAt.shaped e = true) (q : ∀ H', Mv F H F H' → Ok F W H' → Q (.bl (!PyData.eqv d e)) H') : tOp (rNeD K) ta tb σ H Q :=
  show ta σ H _ from x_d ha o fun v H2 m2 o2 hv => show tb σ H2 _ from hb H2 m2 o2 _ fun w H3 m3 o3 hw => ⟨d, e, (hv.mv m3).dp, hw.dp, sd, se, q _ (m2.trans m3) o3⟩
theorem v_isiDL {b : Bool} {c : String} (hc : Val tb σ H (.ty c)) (h : ∃ y t, Val ta σ H y ∧ TyX K H y (.type t) ∧ PySem.W.kitOne K (.type t) (.type c) = some b) : Val (tCB (rIsi K) (tCons ta (tCons tb tNil))) σ H (.bl b) := v_isiL hc h
end
mutual
theorem eqv_refl : ∀ d : PyData, d.canLay0 = true → PyData.eqv d d = true
  | .none, _ => by rw [PyData.eqv]
  | .bool b, _ => by rw [PyData.eqv]; exact beq_self_eq_true b
  | .int i, _ => by rw [PyData.eqv]; exact beq_self_eq_true i
  | .str x, _ => by rw [PyData.eqv]; exact beq_self_eq_true x
  | .list xs, h => by rw [PyData.eqv]; exact eqvAll_refl xs (by simpa [PyData.canLay0] using h)
  | .tuple xs, h => by rw [PyData.eqv]; exact eqvAll_refl xs (by simpa [PyData.canLay0] using h)
  | .dict _, h => by simp [PyData.canLay0] at h
theorem eqvAll_refl : ∀ ds : List PyData, PyData.canLayAll0 ds = true → PyData.eqvAll ds ds = true
  | [], _ => by rw [PyData.eqvAll]
  | d :: ds, h => by
    have h' : d.canLay0 = true ∧ PyData.canLayAll0 ds = true := by simpa [PyData.canLayAll0] using h
    rw [PyData.eqvAll, eqv_refl d h'.1, eqvAll_refl ds h'.2]; rfl
end
/-- data of at most this depth -/
structure Sh (n : Nat) (d : PyData) : Prop where
  lay : d.canLay0 = true
  dep : d.depth ≤ n
structure ShAll (n : Nat) (ds : List PyData) : Prop where
  lay : PyData.canLayAll0 ds = true
  dep : PyData.depthAll ds ≤ n
section
variable {n m : Nat} {d : PyData} {ds es : List PyData}
theorem Sh.shaped (h : Sh n d) (hn : n ≤ 64 := by decide) : SeqAt.shaped d = true := by
  unfold SeqAt.shaped
  rw [Bool.and_eq_true_iff]
  exact ⟨h.lay, decide_eq_true (Nat.le_trans h.dep hn)⟩
theorem Sh.mono (h : Sh n d) (hn : n ≤ m) : Sh m d := ⟨h.lay, Nat.le_trans h.dep hn⟩
theorem sh_int {i : Int} : Sh n (.int i) := ⟨by simp [PyData.canLay0], by simp [PyData.depth]⟩
theorem sh_non : Sh n .none := ⟨by simp [PyData.canLay0], by simp [PyData.depth]⟩
theorem sh_bl {b : Bool} : Sh n (.bool b) := ⟨by simp [PyData.canLay0], by simp [PyData.depth]⟩
theorem sh_str {s : Str} (h : PyData.strOk s = true) : Sh n (.str s) := ⟨by rw [PyData.canLay0]; exact h, by simp [PyData.depth]⟩
theorem sh_list (h : ShAll n ds) : Sh (n + 1) (.list ds) := ⟨by rw [PyData.canLay0]; exact h.lay, by rw [PyData.depth]; exact Nat.succ_le_succ h.dep⟩
theorem sh_tup (h : ShAll n ds) : Sh (n + 1) (.tuple ds) := ⟨by rw [PyData.canLay0]; exact h.lay, by rw [PyData.depth]; exact Nat.succ_le_succ h.dep⟩
theorem shA_nil : ShAll n [] := ⟨by rw [PyData.canLayAll0], by rw [PyData.depthAll]; exact Nat.zero_le _⟩
theorem shA_cons (h : Sh n d) (t : ShAll n ds) : ShAll n (d :: ds) := ⟨by rw [PyData.canLayAll0, h.lay, t.lay]; rfl, by rw [PyData.depthAll]; exact Nat.max_le.mpr ⟨h.dep, t.dep⟩⟩
theorem shA_all : ∀ {ds : List PyData}, (∀ d ∈ ds, Sh n d) → ShAll n ds
  | [], _ => shA_nil
  | d :: ds, h => shA_cons (h d List.mem_cons_self) (shA_all fun e he => h e (List.mem_cons_of_mem _ he))
theorem shA_map {α : Type} {f : α → PyData} {xs : List α} (h : ∀ x ∈ xs, Sh n (f x)) : ShAll n (xs.map f) := shA_all fun d hd => by
  obtain ⟨x, hx, rfl⟩ := List.mem_map.mp hd
  exact h x hx
theorem shA_ints {ns : List Int} : ShAll n (ns.map PyData.int) := shA_map fun _ _ => sh_int
theorem sh_intsD {ns : List Int} : Sh (n + 1) (intsD ns) := sh_tup shA_ints
theorem sh_shot {P : Pn} (h : StOk P) : Sh 3 (shotD P) := by
  have s := shaped_shot h
  unfold SeqAt.shaped at s
  rw [Bool.and_eq_true_iff] at s
  refine ⟨s.1, ?_⟩
  have hb' : PyData.depthAll (List.map intsD P.blocks) ≤ 1 := depth_blocks P.blocks
  unfold shotD
  simp only [PyData.depth, PyData.depthAll, intsD, blocksD, depth_ints]
  have : PyData.depthAll (P.blocks.map fun b => PyData.tuple (b.map PyData.int)) ≤ 1 := hb'
  omega
theorem Sh.refl (h : Sh n d) : PyData.eqv d d = true := eqv_refl d h.lay
end
section
variable {K : PySem.W.Frag} {H H' : Hp} {F F1 : FS} {W : Hp → Prop} {σ : L2.St} {te ta tb tl : TE} {tA : TA} {v : V} {d e : PyData} {ds es : List PyData} {n : Nat}
/-- two readings of the same data -/
theorem x_eqS {Q : VK} (o : Ok F W H) (ha : Dv K F W ta σ H d) (hb : Dv K F W tb σ H d) (sd : Sh n d) (q : ∀ H', Mv F H F H' → Ok F W H' → Q (.bl true) H') (hn : n ≤ 64 := by decide) : tOp (rEqD K) ta tb σ H Q := x_eqD o ha hb (sd.shaped hn) (sd.shaped hn) (by rw [sd.refl]; exact q)
theorem x_neS {Q : VK} (o : Ok F W H) (ha : Dv K F W ta σ H d) (hb : Dv K F W tb σ H d) (sd : Sh n d) (q : ∀ H', Mv F H F H' → Ok F W H' → Q (.bl false) H') (hn : n ≤ 64 := by decide) : tOp (rNeD K) ta tb σ H Q := x_neD o ha hb (sd.shaped hn) (sd.shaped hn) (by rw [sd.refl]; exact q)
/-- comprehensions over data -/
structure LcI (K : PySem.W.Frag) (W : Hp → Prop) (H2 : Hp) (F : FS) (D : Addr) (m : Nat) (rs : List PyData) (H' : Hp) : Prop where
  mv : Mv F H2 (withF F D) H'
  ok : Ok (withF F D) W H'
  ex : ∃ ys, H' D = some (.lst ys) ∧ ys.length ≤ m ∧ DaAll K H' (withF F D) ys rs
theorem lci_0 {D : Addr} (wo : Wo F W) (o : Ok F W H) (hD : H D = none) : LcI K W H F D 0 [] (upd H D (.lst [])) := by
  have s := smN (o := HO.lst []) hD
  exact ⟨⟨fun b o _ e => s b o e, fun b f => f.imp id (fun e => by rw [e]; exact hD)⟩, ⟨fun b f => f.elim (o.fa.same s b) (fun e => by subst e; rw [upd_same]; exact fun e => by cases e), (o.same wo s).w⟩, [], upd_same, Nat.le_refl _, .nil⟩
theorem LcI.step {D : Addr} {rs : List PyData} {σ' : L2.St} {tt : TT} {c : Bool} (wo : Wo F W) (o : Ok F W H) (hD : H D = none) (hn : n < 100000) (iv : LcI K W H F D n rs H') (ht : Ans tt σ' H' c) (he : c = true → Dv K (withF F D) (fun H => W H ∧ H' D = H D) te σ' H' d) :
    tt σ' H' fun b H3 => if b = true then te σ' H3 fun y H4 => ∃ acc, H4 D = some (.lst acc) ∧ acc.length < sizeLine ∧ LcI K W H F D (n + 1) (if c = true then rs ++ [d] else rs) (upd H4 D (.lst (acc ++ [y]))) else LcI K W H F D (n + 1) (if c = true then rs ++ [d] else rs) H3 := by
  obtain ⟨ys, hl, hz, hys⟩ := iv.ex
  refine ht _ ?_
  cases c with
  | true =>
    refine iteT (x_d (he rfl) ⟨iv.ok.fa, iv.ok.w, rfl⟩ (fun y H3 m5 o5 hy => ⟨ys, by rw [← o5.w.2]; exact hl, ?_, ?_⟩))
    · exact Nat.lt_of_lt_of_le (show ys.length < 100000 by omega) (by rw [sizeLine_eq]; decide)
    · rw [if_pos rfl]
      have nF : ¬ F D := o.fa.no hD
      have mv : Mv (withF F D) H3 (withF F D) (upd H3 D (.lst (ys ++ [y]))) := ⟨fun b o nb e => by rw [upd_ne (fun q => nb (.inr q))]; exact e, fun _ f => .inl f⟩
      refine ⟨(iv.mv.trans m5).trans mv, ⟨fun b f => ?_, wo.loc _ _ (fun b o f e => by rw [upd_ne (fun q => nF (by rw [← q]; exact f))]; exact e) (.upd (o5.w.2.symm.trans hl)) o5.w.1⟩, ys ++ [y], upd_same, by rw [List.length_append]; simp; omega, ((hys.mv m5).app (.cons hy .nil)).mv mv⟩
      by_cases e : b = D
      · subst e; rw [upd_same]; exact fun e => by cases e
      · rw [upd_ne e]; exact o5.fa b f
  | false =>
    refine iteF ?_
    rw [if_neg Bool.false_ne_true]
    exact ⟨iv.mv, iv.ok, ys, hl, by omega, hys⟩
theorem LcI.done {D : Addr} {rs : List PyData} (iv : LcI K W H F D n rs H') : Mv F H F H' ∧ Ok F W H' ∧ OwL K F D H' rs := by
  obtain ⟨ys, hl, _, hys⟩ := iv.ex
  have m2 : Mv (withF F D) H' F H' := .less fun b f => .inl f
  exact ⟨iv.mv.trans m2, ⟨fun b f => iv.ok.fa b (.inl f), iv.ok.w⟩, ys, hl, hys⟩
def fmD {α : Type} (p : α → Bool) (f : α → PyData) (xs : List α) : List PyData := (xs.filter p).map f
theorem fmD_take {α : Type} {p : α → Bool} {f : α → PyData} {xs : List α} {m : Nat} {x : α} (h : xs[m]? = some x) : fmD p f (xs.take (m + 1)) = if p x = true then fmD p f (xs.take m) ++ [f x] else fmD p f (xs.take m) := by
  unfold fmD
  rw [List.take_add_one, h, List.filter_append, List.map_append]
  cases hp : p x <;> simp [hp]
theorem fmD_all {α : Type} {f : α → PyData} {xs : List α} : fmD (fun _ => true) f xs = xs.map f := by unfold fmD; rw [List.filter_eq_self.mpr (fun _ _ => rfl)]
theorem ans_yes {σ' : L2.St} : Ans tYes σ' H true := fun _ q => q
/-- what a comprehension's turn may use: F1 is F and the new list -/
structure Tn (F : FS) (W : Hp → Prop) (H : Hp) (F1 : FS) (W1 : Hp → Prop) (H1 : Hp) : Prop where
  mv : Mv F H F1 H1
  ok : Ok F1 W1 H1
  wo : Wo F1 W1
  sub : ∀ b, F b → F1 b
  w : ∀ H, W1 H → W H
  bk : ∀ H H', W1 H → W H' → (∀ b o, ¬ F b → H b = some o → H' b = some o) → W1 H'
  nt : ∀ H, W1 H → ∀ b, F1 b → F b ∨ ∃ xs, H b = some (.lst xs)
theorem LcI.tn {D : Addr} {rs : List PyData} {H0 : Hp} (m0 : Mv F H0 F H) (wo : Wo F W) (nF : ¬ F D) (iv : LcI K W H F D n rs H') : Tn F W H0 (withF F D) (fun H => W H ∧ H' D = H D) H' := by
  obtain ⟨ys, hl, _⟩ := iv.ex
  refine ⟨m0.trans iv.mv, ⟨iv.ok.fa, iv.ok.w, rfl⟩, ⟨fun H1 H2 k t w => ⟨wo.loc _ _ (fun b o f => k b o (.inl f)) t w.1, ?_⟩⟩, fun b f => .inl f, fun _ h => h.1, fun H1 H2 w1 w2 k => ⟨w2, ?_⟩, fun H1 w1 b f => f.imp id (fun e => ⟨ys, ?_⟩)⟩
  · have e := w.2
    rw [hl] at e
    rw [hl]
    exact (k D _ (.inr rfl) e.symm).symm
  · have e := w1.2
    rw [hl] at e
    rw [hl]
    exact (k D _ nF e.symm).symm
  · rw [e, ← w1.2]; exact hl
theorem dn_lcL {k : Nat} {ws : List Nat} {tt : TT} (p : PyData → Bool) (f : PyData → PyData) (wo : Wo F W) (h : Dv K F W tl σ H (.list ds)) (hn : ds.length ≤ 100000) (hw : ∀ x, wipe ((wipe σ ws).set k (some x)) ws = wipe σ ws)
    (ht : ∀ (i : Nat) (x : V) (d : PyData) (H1 : Hp) (F1 : FS) (W1 : Hp → Prop), Tn F W H F1 W1 H1 → ds[i]? = some d → Da K H1 F1 x d → Ans tt ((wipe σ ws).set k (some x)) H1 (p d))
    (he : ∀ (i : Nat) (x : V) (d : PyData) (H1 : Hp) (F1 : FS) (W1 : Hp → Prop), Tn F W H F1 W1 H1 → ds[i]? = some d → Da K H1 F1 x d → p d = true → Dv K F1 W1 te ((wipe σ ws).set k (some x)) H1 (f d)) : DvN K F W (tLc (iList K tl) (gName k) tt te ws) σ H (fmD p f ds) := fun H1 m o Q q =>
  h H1 m o _ fun v H2 m2 o2 hv => by
    cases hv with | @lst a xs _ h3 h4 =>
    refine ⟨a, rfl, ⟨xs, SqL.of h3.at_⟩, fun D hD => lc_list (xs := xs) (fun m H' => LcI K W H2 F D m (fmD p f (ds.take m)) H') (by rw [List.take_zero]; exact lci_0 wo o2 hD) (fun m H' _ e => SqL.of ((h3.mv e.mv).at_)) (fun i x H' hm e => ?_) (fun H' e => ?_)⟩
    · have tn := e.tn (m.trans m2) wo (o2.fa.no hD)
      obtain ⟨d, hd, hx⟩ := (h4.mv e.mv).getV _ hm
      refine ⟨hw _, ?_⟩
      rw [fmD_take hd]
      have hlt := (List.getElem?_eq_some_iff.mp hd).1
      exact e.step wo o2 hD (by omega) (ht i x d H' _ _ tn hd hx) (he i x d H' _ _ tn hd hx)
    · rw [h4.len, List.take_length] at e
      obtain ⟨r1, r2, r3⟩ := e.done
      exact q _ _ (o2.free m2 hD) (m2.trans r1) r2 r3
theorem dv_lcL {k : Nat} {ws : List Nat} {tt : TT} (p : PyData → Bool) (f : PyData → PyData) (wo : Wo F W) (h : Dv K F W tl σ H (.list ds)) (hn : ds.length ≤ 100000) (hw : ∀ x, wipe ((wipe σ ws).set k (some x)) ws = wipe σ ws)
    (ht : ∀ (i : Nat) (x : V) (d : PyData) (H1 : Hp) (F1 : FS) (W1 : Hp → Prop), Tn F W H F1 W1 H1 → ds[i]? = some d → Da K H1 F1 x d → Ans tt ((wipe σ ws).set k (some x)) H1 (p d))
    (he : ∀ (i : Nat) (x : V) (d : PyData) (H1 : Hp) (F1 : FS) (W1 : Hp → Prop), Tn F W H F1 W1 H1 → ds[i]? = some d → Da K H1 F1 x d → p d = true → Dv K F1 W1 te ((wipe σ ws).set k (some x)) H1 (f d)) : Dv K F W (tLc (iList K tl) (gName k) tt te ws) σ H (.list (fmD p f ds)) := (dn_lcL p f wo h hn hw ht he).dv
theorem dn_lcT {k : Nat} {ws : List Nat} {tt : TT} (p : PyData → Bool) (f : PyData → PyData) (wo : Wo F W) (h : Dv K F W tl σ H (.tuple ds)) (hn : ds.length ≤ 100000) (hw : ∀ x, wipe ((wipe σ ws).set k (some x)) ws = wipe σ ws)
    (ht : ∀ (i : Nat) (x : V) (d : PyData) (H1 : Hp) (F1 : FS) (W1 : Hp → Prop), Tn F W H F1 W1 H1 → ds[i]? = some d → Da K H1 F1 x d → Ans tt ((wipe σ ws).set k (some x)) H1 (p d))
    (he : ∀ (i : Nat) (x : V) (d : PyData) (H1 : Hp) (F1 : FS) (W1 : Hp → Prop), Tn F W H F1 W1 H1 → ds[i]? = some d → Da K H1 F1 x d → p d = true → Dv K F1 W1 te ((wipe σ ws).set k (some x)) H1 (f d)) : DvN K F W (tLc (iTup K tl) (gName k) tt te ws) σ H (fmD p f ds) := fun H1 m o Q q =>
  h H1 m o _ fun v H2 m2 o2 hv => by
    cases hv with | @tup a xs _ h3 h4 =>
    refine ⟨a, rfl, ⟨xs, h3.sq⟩, fun D hD => lc_tup (xs := xs) (fun m H' => LcI K W H2 F D m (fmD p f (ds.take m)) H') (by rw [List.take_zero]; exact lci_0 wo o2 hD) (fun m H' _ e => (h3.mv e.mv).sq) (fun i x H' hm e => ?_) (fun H' e => ?_)⟩
    · have tn := e.tn (m.trans m2) wo (o2.fa.no hD)
      obtain ⟨d, hd, hx⟩ := (h4.mv e.mv).getV _ hm
      refine ⟨hw _, ?_⟩
      rw [fmD_take hd]
      have hlt := (List.getElem?_eq_some_iff.mp hd).1
      exact e.step wo o2 hD (by omega) (ht i x d H' _ _ tn hd hx) (he i x d H' _ _ tn hd hx)
    · rw [h4.len, List.take_length] at e
      obtain ⟨r1, r2, r3⟩ := e.done
      exact q _ _ (o2.free m2 hD) (m2.trans r1) r2 r3
theorem dv_lcT {k : Nat} {ws : List Nat} {tt : TT} (p : PyData → Bool) (f : PyData → PyData) (wo : Wo F W) (h : Dv K F W tl σ H (.tuple ds)) (hn : ds.length ≤ 100000) (hw : ∀ x, wipe ((wipe σ ws).set k (some x)) ws = wipe σ ws)
    (ht : ∀ (i : Nat) (x : V) (d : PyData) (H1 : Hp) (F1 : FS) (W1 : Hp → Prop), Tn F W H F1 W1 H1 → ds[i]? = some d → Da K H1 F1 x d → Ans tt ((wipe σ ws).set k (some x)) H1 (p d))
    (he : ∀ (i : Nat) (x : V) (d : PyData) (H1 : Hp) (F1 : FS) (W1 : Hp → Prop), Tn F W H F1 W1 H1 → ds[i]? = some d → Da K H1 F1 x d → p d = true → Dv K F1 W1 te ((wipe σ ws).set k (some x)) H1 (f d)) : Dv K F W (tLc (iTup K tl) (gName k) tt te ws) σ H (.list (fmD p f ds)) := (dn_lcT p f wo h hn hw ht he).dv
theorem dn_lcR {k : Nat} {ws : List Nat} {tt : TT} {z : Int} (p : Nat → Bool) (f : Nat → PyData) (wo : Wo F W) (h : ∀ H1, Mv F H F H1 → Ok F W H1 → ValA tA σ H1 [.int z]) (hn : -100000 ≤ z ∧ z ≤ 100000) (hw : ∀ x, wipe ((wipe σ ws).set k (some x)) ws = wipe σ ws)
    (ht : ∀ (i : Nat) (H1 : Hp) (F1 : FS) (W1 : Hp → Prop), Tn F W H F1 W1 H1 → (i : Int) < z → Ans tt ((wipe σ ws).set k (some (.int (i : Int)))) H1 (p i))
    (he : ∀ (i : Nat) (H1 : Hp) (F1 : FS) (W1 : Hp → Prop), Tn F W H F1 W1 H1 → (i : Int) < z → p i = true → Dv K F1 W1 te ((wipe σ ws).set k (some (.int (i : Int)))) H1 (f i)) : DvN K F W (tLc (iRng1 tA) (gName k) tt te ws) σ H (fmD p f (List.range z.toNat)) := fun H2 m o Q q =>
  h H2 m o _ ⟨z, rfl, by omega, by omega, fun D hD => by
    refine lc_range (lo := 0) (n := z.toNat) (fun m H' => LcI K W H2 F D m (fmD p f (List.range m)) H') (lci_0 wo o hD) (fun i H' hm e => ?_) (fun H' e => ?_)
    · have tn := e.tn m wo (o.fa.no hD)
      have e0 : (0 : Int) + (i : Int) = (i : Int) := Int.zero_add _
      rw [e0]
      refine ⟨hw _, ?_⟩
      have er : fmD p f (List.range (i + 1)) = if p i = true then fmD p f (List.range i) ++ [f i] else fmD p f (List.range i) := by
        unfold fmD
        rw [List.range_succ, List.filter_append, List.map_append]
        cases hp : p i <;> simp [hp]
      rw [er]
      exact e.step wo o hD (by omega) (ht i H' _ _ tn (by omega)) (he i H' _ _ tn (by omega))
    · obtain ⟨r1, r2, r3⟩ := e.done
      exact q _ _ hD r1 r2 r3⟩
theorem dv_lcR {k : Nat} {ws : List Nat} {tt : TT} {z : Int} (p : Nat → Bool) (f : Nat → PyData) (wo : Wo F W) (h : ∀ H1, Mv F H F H1 → Ok F W H1 → ValA tA σ H1 [.int z]) (hn : -100000 ≤ z ∧ z ≤ 100000) (hw : ∀ x, wipe ((wipe σ ws).set k (some x)) ws = wipe σ ws)
    (ht : ∀ (i : Nat) (H1 : Hp) (F1 : FS) (W1 : Hp → Prop), Tn F W H F1 W1 H1 → (i : Int) < z → Ans tt ((wipe σ ws).set k (some (.int (i : Int)))) H1 (p i))
    (he : ∀ (i : Nat) (H1 : Hp) (F1 : FS) (W1 : Hp → Prop), Tn F W H F1 W1 H1 → (i : Int) < z → p i = true → Dv K F1 W1 te ((wipe σ ws).set k (some (.int (i : Int)))) H1 (f i)) : Dv K F W (tLc (iRng1 tA) (gName k) tt te ws) σ H (.list (fmD p f (List.range z.toNat))) := (dn_lcR p f wo h hn hw ht he).dv
end
section
variable {K : PySem.W.Frag} {H H' : Hp} {F F1 : FS} {W : Hp → Prop} {σ : L2.St} {te ta tb tl : TE} {tA : TA} {v : V} {d e : PyData} {ds es rs : List PyData} {n : Nat} {a : Addr} {xs : List V}
theorem fmD_eq : fmD (fun _ => true) (fun x : PyData => x) rs = rs := by unfold fmD; rw [List.filter_eq_self.mpr (fun _ _ => rfl), List.map_id']
/-- over a list of the world -/
theorem dn_lcO {k : Nat} {ws : List Nat} (rs : List PyData) (wo : Wo F W) (h : ∀ H1, Mv F H F H1 → Ok F W H1 → Val tl σ H1 (.ref a)) (hs : ∀ H1, W H1 → SqL K H1 a xs) (hl : rs.length = xs.length) (hn : xs.length ≤ 100000) (hw : ∀ x, wipe ((wipe σ ws).set k (some x)) ws = wipe σ ws)
    (he : ∀ (i : Nat) (x : V) (d : PyData) (H1 : Hp) (F1 : FS) (W1 : Hp → Prop), Tn F W H F1 W1 H1 → xs[i]? = some x → rs[i]? = some d → Dv K F1 W1 te ((wipe σ ws).set k (some x)) H1 d) : DvN K F W (tLc (iList K tl) (gName k) tYes te ws) σ H rs := fun H1 m o Q q =>
  h H1 m o _ (by
    refine ⟨a, rfl, ⟨xs, hs _ o.w⟩, fun D hD => lc_list (xs := xs) (fun m H' => LcI K W H1 F D m (fmD (fun _ => true) (fun x => x) (rs.take m)) H') (by rw [List.take_zero]; exact lci_0 wo o hD) (fun m H' _ e => hs _ e.ok.w) (fun i x H' hm e => ?_) (fun H' e => ?_)⟩
    · have tn := e.tn m wo (o.fa.no hD)
      have hlt := (List.getElem?_eq_some_iff.mp hm).1
      have hd : rs[i]? = some rs[i] := List.getElem?_eq_getElem (by omega)
      refine ⟨hw _, ?_⟩
      rw [fmD_take hd]
      exact e.step wo o hD (by omega) ans_yes (fun _ => he i x _ H' _ _ tn hm hd)
    · rw [← hl, List.take_length, fmD_eq] at e
      obtain ⟨r1, r2, r3⟩ := e.done
      exact q _ _ hD r1 r2 r3)
theorem dv_lcO {k : Nat} {ws : List Nat} (rs : List PyData) (wo : Wo F W) (h : ∀ H1, Mv F H F H1 → Ok F W H1 → Val tl σ H1 (.ref a)) (hs : ∀ H1, W H1 → SqL K H1 a xs) (hl : rs.length = xs.length) (hn : xs.length ≤ 100000) (hw : ∀ x, wipe ((wipe σ ws).set k (some x)) ws = wipe σ ws)
    (he : ∀ (i : Nat) (x : V) (d : PyData) (H1 : Hp) (F1 : FS) (W1 : Hp → Prop), Tn F W H F1 W1 H1 → xs[i]? = some x → rs[i]? = some d → Dv K F1 W1 te ((wipe σ ws).set k (some x)) H1 d) : Dv K F W (tLc (iList K tl) (gName k) tYes te ws) σ H (.list rs) := (dn_lcO rs wo h hs hl hn hw he).dv
end
section
variable {K : PySem.W.Frag} {H H' H0 : Hp} {F F1 : FS} {W : Hp → Prop} {σ : L2.St} {te ta tb to : TE} {tA : TA} {v : V} {d e : PyData} {ds es : List PyData} {D : Addr} {xs : List V} {N : L2.St → Hp → Prop} {R : VK} {B C' : L2.St → Hp → Prop} {tz : TS}
/-- a list of one's own, changed as one goes on -/
structure Own (K : PySem.W.Frag) (H0 : Hp) (F : FS) (W : Hp → Prop) (D : Addr) (H : Hp) (ds : List PyData) : Prop where
  fr : H0 D = none
  no : ¬ F D
  mv : Mv F H0 F H
  ok : Ok F W H
  ow : OwL K F D H ds
theorem x_dn {Q : VK} (h : DvN K F W te σ H ds) (o : Ok F W H) (m0 : Mv F H0 F H) (q : ∀ D H', Own K H0 F W D H' ds → Mv F H F H' → Q (.ref D) H') : te σ H Q := h H .refl o Q fun D H' hD m o' w => q D H' ⟨o.free m0 hD, o.fa.no hD, m0.trans m, o', w⟩ m
theorem q_dn' {k : Nat} (h : DvN K F W te σ H ds) (o : Ok F W H) (m0 : Mv F H0 F H) (q : ∀ D H', H D = none → Own K H0 F W D H' ds → Mv F H F H' → tz ⟨N, R, B, C'⟩ (σ.set k (some (.ref D))) H') : tSeq (tAsg te (gName k)) tz ⟨N, R, B, C'⟩ σ H := h H .refl o _ fun D H' hD m o' w => q D H' hD ⟨o.free m0 hD, o.fa.no hD, m0.trans m, o', w⟩ m
theorem s_dn' {k : Nat} (h : DvN K F W te σ H ds) (o : Ok F W H) (m0 : Mv F H0 F H) (q : ∀ D H', H D = none → Own K H0 F W D H' ds → Mv F H F H' → N (σ.set k (some (.ref D))) H') : tAsg te (gName k) ⟨N, R, B, C'⟩ σ H := h H .refl o _ fun D H' hD m o' w => q D H' hD ⟨o.free m0 hD, o.fa.no hD, m0.trans m, o', w⟩ m
theorem q_dn {k : Nat} (h : DvN K F W te σ H ds) (o : Ok F W H) (m0 : Mv F H0 F H) (q : ∀ D H', Own K H0 F W D H' ds → Mv F H F H' → tz ⟨N, R, B, C'⟩ (σ.set k (some (.ref D))) H') : tSeq (tAsg te (gName k)) tz ⟨N, R, B, C'⟩ σ H := x_dn h o m0 q
theorem Own.da (h : Own K H0 F W D H ds) : Da K H F (.ref D) (.list ds) := h.ow.da h.no
theorem Own.same (h : Own K H0 F W D H ds) (wo : Wo F W) (s : Same H H') : Own K H0 F W D H' ds := by
  obtain ⟨vs, h1, h2⟩ := h.ow
  exact ⟨h.fr, h.no, h.mv.trans (.same s), h.ok.same wo s, vs, s _ _ h1, h2.same s⟩
theorem Own.at_ (h : Own K H0 F W D H ds) : ∃ vs, H D = some (.lst vs) ∧ vs.length = ds.length := by
  obtain ⟨vs, h1, h2⟩ := h.ow
  exact ⟨vs, h1, h2.len⟩
/-- the world beside one's own list -/
theorem Own.tn (h : Own K H0 F W D H ds) (wo : Wo F W) : Ok (withF F D) (fun H1 => W H1 ∧ H1 D = H D) H ∧ Wo (withF F D) (fun H1 => W H1 ∧ H1 D = H D) := by
  obtain ⟨vs, h1, h2⟩ := h.ow
  refine ⟨⟨fun b f => f.elim (h.ok.fa b) (fun e => by rw [e, h1]; exact fun e => by cases e), h.ok.w, rfl⟩, ⟨fun H1 H2 k t w => ⟨wo.loc _ _ (fun b o f => k b o (.inl f)) t w.1, ?_⟩⟩⟩
  have e := w.2
  rw [h1] at e
  rw [h1]
  exact k D _ (.inr rfl) e
theorem Own.step {H1 : Hp} (h : Own K H0 F W D H ds) (wo : Wo F W) (m : Mv (withF F D) H (withF F D) H1) (o : Ok (withF F D) (fun H1 => W H1 ∧ H1 D = H D) H1) : Own K H0 F W D H1 ds := by
  obtain ⟨vs, h1, h2⟩ := h.ow
  refine ⟨h.fr, h.no, ⟨fun b o nb e => ?_, fun b f => .inl f⟩, ⟨fun b f => o.fa b (.inl f), o.w.1⟩, vs, by rw [o.w.2]; exact h1, h2.mv m⟩
  have nD : b ≠ D := fun q => by rw [q, h.fr] at e; cases e
  exact m.keep b o (fun f => f.elim nb nD) (h.mv.keep b o nb e)
/-- append -/
theorem x_own_app {Q : VK} (wo : Wo F W) (ow : Own K H0 F W D H ds) (ho : Val to σ H (.ref D)) (he : Dv K (withF F D) (fun H1 => W H1 ∧ H1 D = H D) ta σ H d) (hn : ds.length < 100000) (q : ∀ H', Own K H0 F W D H' (ds ++ [d]) → (∀ (F2 : FS), F2 D → (∀ b, F b → F2 b) → Mv F2 H F2 H') → Q .non H') : tBM K "list" rAppend to (tCons ta tNil) σ H Q := by
  obtain ⟨o1, w1⟩ := ow.tn wo
  obtain ⟨vs, h1, h2⟩ := ow.ow
  refine x_appendX ho h1 (x_d he o1 fun v H1 m o hv => ⟨D, vs, v, rfl, rfl, by rw [o.w.2]; exact h1, lt_line (by rw [h2.len]; omega), q _ ?_ ?_⟩)
  · have mU : Mv (withF F D) H1 (withF F D) (upd H1 D (.lst (vs ++ [v]))) := ⟨fun b o nb e => by rw [upd_ne (fun q => nb (.inr q))]; exact e, fun _ f => .inl f⟩
    refine ⟨ow.fr, ow.no, ⟨fun b o nb e => ?_, fun b f => .inl f⟩, ⟨fun b f => ?_, wo.loc _ _ (fun b o f e => by rw [upd_ne (fun q => ow.no (by rw [← q]; exact f))]; exact e) (.upd (o.w.2.trans h1)) o.w.1⟩, _, upd_same, (((h2.mv m).app (.cons hv .nil)).mv mU)⟩
    · have nD : b ≠ D := fun q => by rw [q, ow.fr] at e; cases e
      rw [upd_ne nD]
      exact m.keep b o (fun f => f.elim nb nD) (ow.mv.keep b o nb e)
    · rw [upd_ne (fun q => ow.no (by rw [← q]; exact f))]
      exact o.fa b (.inl f)
  · intro F2 fD sub
    refine ⟨fun b o nb e => ?_, fun b f => .inl f⟩
    have nD : b ≠ D := fun q => nb (by rw [q]; exact fD)
    rw [upd_ne nD]
    exact m.keep b o (fun f => f.elim (fun f => nb (sub b f)) nD) e
end
/-- a def that gives a new list -/
def spDN (K : PySem.W.Frag) (pre : List V → Hp → FS → (Hp → Prop) → List PyData → Prop) : Sp := fun vs H Q _ => ∃ F W ds, Wo F W ∧ Ok F W H ∧ pre vs H F W ds ∧ ∀ D H', H D = none → Mv F H F H' → Ok F W H' → OwL K F D H' ds → Q (.ref D) H'
def spDV (K : PySem.W.Frag) (pre : List V → Hp → FS → (Hp → Prop) → PyData → Prop) : Sp := fun vs H Q _ => ∃ F W d, Wo F W ∧ Ok F W H ∧ pre vs H F W d ∧ ∀ v H', Mv F H F H' → Ok F W H' → Da K H' F v d → Q v H'
section
variable {K : PySem.W.Frag} {H H' H0 : Hp} {F F1 : FS} {W : Hp → Prop} {σ : L2.St} {te ta tb to ti : TE} {tA : TA} {v : V} {vs : List V} {d e : PyData} {ds es : List PyData} {D : Addr} {xs : List V} {N : L2.St → Hp → Prop} {R : VK} {B C' : L2.St → Hp → Prop} {tz : TS} {i : Int}
theorem dn_sp {pre : List V → Hp → FS → (Hp → Prop) → List PyData → Prop} (wo : Wo F W) (h : ∀ H1, Mv F H F H1 → Ok F W H1 → ValA tA σ H1 vs) (hp : ∀ H1, Mv F H F H1 → Ok F W H1 → pre vs H1 F W ds) : DvN K F W (tCall (spDN K pre) [] E0 tA) σ H ds := fun H1 m o _ q =>
  h H1 m o _ (by rw [List.append_nil]; exact ⟨F, W, ds, wo, o, hp H1 m o, q⟩)
theorem dn_spD {pre : List V → Hp → FS → (Hp → Prop) → List PyData → Prop} (wo : Wo F W) (h : DvA K F W tA σ H es) (hp : ∀ vs H1, Mv F H F H1 → Ok F W H1 → DaAll K H1 F vs es → pre vs H1 F W ds) : DvN K F W (tCall (spDN K pre) [] E0 tA) σ H ds := fun H1 m o _ q =>
  h H1 m o _ fun vs H2 m2 o2 hv => by rw [List.append_nil]; exact ⟨F, W, ds, wo, o2, hp vs H2 (m.trans m2) o2 hv, fun D H' hD m3 o3 ow => q D H' (o2.free m2 hD) (m2.trans m3) o3 ow⟩
theorem dv_spW {pre : List V → Hp → FS → (Hp → Prop) → PyData → Prop} (wo : Wo F W) (h : ∀ H1, Mv F H F H1 → Ok F W H1 → ValA tA σ H1 vs) (hp : ∀ H1, Mv F H F H1 → Ok F W H1 → pre vs H1 F W d) : Dv K F W (tCall (spDV K pre) [] E0 tA) σ H d := fun H1 m o _ q =>
  h H1 m o _ (by rw [List.append_nil]; exact ⟨F, W, d, wo, o, hp H1 m o, q⟩)
theorem dv_spD {pre : List V → Hp → FS → (Hp → Prop) → PyData → Prop} (wo : Wo F W) (h : DvA K F W tA σ H ds) (hp : ∀ vs H1, Mv F H F H1 → Ok F W H1 → DaAll K H1 F vs ds → pre vs H1 F W d) : Dv K F W (tCall (spDV K pre) [] E0 tA) σ H d := fun H1 m o _ q =>
  h H1 m o _ fun vs H2 m2 o2 hv => by rw [List.append_nil]; exact ⟨F, W, d, wo, o2, hp vs H2 (m.trans m2) o2 hv, fun v H' m3 o3 hd => q v H' (m2.trans m3) o3 hd⟩
theorem DaAll.set : ∀ {vs : List V} {ds : List PyData} (i : Nat), DaAll K H F vs ds → Da K H F v d → DaAll K H F (vs.set i v) (ds.set i d)
  | _, _, _, .nil, _ => .nil
  | _, _, 0, .cons _ t, h => .cons h t
  | _, _, i + 1, .cons h0 t, h => .cons h0 (t.set i h)
theorem Own.put (wo : Wo F W) (ow : Own K H0 F W D H ds) (j : Nat) (hd : Da K H (withF F D) v d) : ∃ vs, H D = some (.lst vs) ∧ vs.length = ds.length ∧ Own K H0 F W D (upd H D (.lst (vs.set j v))) (ds.set j d) ∧ (∀ (F2 : FS), F2 D → Mv F2 H F2 (upd H D (.lst (vs.set j v)))) := by
  obtain ⟨vs, h1, h2⟩ := ow.ow
  have mU : Mv (withF F D) H (withF F D) (upd H D (.lst (vs.set j v))) := ⟨fun b o nb e => by rw [upd_ne (fun q => nb (.inr q))]; exact e, fun _ f => .inl f⟩
  refine ⟨vs, h1, h2.len, ⟨ow.fr, ow.no, ⟨fun b o nb e => ?_, fun b f => .inl f⟩, ⟨fun b f => ?_, wo.loc _ _ (fun b o f e => by rw [upd_ne (fun q => ow.no (by rw [← q]; exact f))]; exact e) (.upd h1) ow.ok.w⟩, _, upd_same, (h2.set j hd).mv mU⟩, fun F2 fD => ⟨fun b o nb e => by rw [upd_ne (fun q => nb (by rw [q]; exact fD))]; exact e, fun b f => .inl f⟩⟩
  · have nD : b ≠ D := fun q => by rw [q, ow.fr] at e; cases e
    rw [upd_ne nD]
    exact ow.mv.keep b o nb e
  · rw [upd_ne (fun q => ow.no (by rw [← q]; exact f))]
    exact ow.ok.fa b f
/-- D[i] = v -/
theorem q_own_set (wo : Wo F W) (ow : Own K H0 F W D H ds) (hv : Val te σ H v) (hd : Da K H (withF F D) v d) (ho : Val to σ H (.ref D)) (hi : Val ti σ H (.int i)) (h0 : 0 ≤ i) (h1 : i < (ds.length : Int)) (q : ∀ H', Own K H0 F W D H' (ds.set i.toNat d) → (∀ (F2 : FS), F2 D → Mv F2 H F2 H') → tz ⟨N, R, B, C'⟩ σ H') : tSeq (tAsg te (gSub to ti rSetL)) tz ⟨N, R, B, C'⟩ σ H := by
  obtain ⟨vs, e1, e2, o2, m2⟩ := ow.put wo i.toNat hd
  exact hv _ (ho _ (hi _ ⟨D, _, i, i.toNat, rfl, rfl, e1, ixN_int h0 (by rw [e2]; exact h1), q _ o2 m2⟩))
theorem OwL.len (h : OwL K F D H ds) : ∃ vs, H D = some (.lst vs) ∧ vs.length = ds.length := by obtain ⟨vs, h1, h2⟩ := h; exact ⟨vs, h1, h2.len⟩
theorem v_lenD (hd : Da K H F v (.list ds)) (h : Val ta σ H v) : Val (tCB (rLenQ K) (tCons ta tNil)) σ H (.int (ds.length : Int)) := by
  cases hd with | lst h1 h2 =>
  exact v_cb (va_cons h va_nil) fun _ q => ⟨_, _, rfl, .inl (SqL.of h1.at_), by rw [h2.len]; exact q⟩
theorem v_lenT (hd : Da K H F v (.tuple ds)) (h : Val ta σ H v) : Val (tCB (rLenQ K) (tCons ta tNil)) σ H (.int (ds.length : Int)) := by
  cases hd with | tup h1 h2 =>
  exact v_cb (va_cons h va_nil) fun _ q => ⟨_, _, rfl, .inr h1.sq, by rw [h2.len]; exact q⟩
end
/-! ### programs of the laws' menu -/
def someV (c : Int) : List (List Int) := [[769, 771, 640], [276, 149, 772, 640], [900, 771, 640]] ++ [[928, 774, mixV c 9973 1024, 928, 773, 40, 286, 640]] ++ [[768, 644, 769, 640, 296, 770, 775, 640], [776, 771, 262, 640], [900, 640]]
def frontV (c : Int) : List Int := (someV c).getD (mixV c 9967 7).toNat []
def mixC (c : Int) : List Int := (List.range 64).map fun (k : Nat) => mixV (c + 977 * (k : Int)) 10007 1024
def progV (c : Int) : List Int :=
  if mixV c 9949 8 = 0 then mixC c
  else if mixV c 9949 8 = 1 then (mixC c).map fun n => if n % 3 = 0 then 768 + n % 10 else n
  else frontV c ++ ((mixC c).set 21 (1 + c % 3)).drop (frontV c).length
theorem mixC_len (c : Int) : (mixC c).length = 64 := by simp [mixC]
theorem mixC_in (c : Int) : ∀ x ∈ mixC c, 0 ≤ x ∧ x < 1024 := by
  intro x hx
  obtain ⟨k, _, rfl⟩ := List.mem_map.mp hx
  exact ⟨mixV_lo (by decide), mixV_hi (by decide)⟩
theorem frontV_at (c : Int) : ∃ r, (someV c)[(mixV c 9967 7).toNat]? = some r ∧ r = frontV c := by
  have h0 := mixV_lo (c := c) (p := 9967) (m := 7) (by decide)
  have h1 := mixV_hi (c := c) (p := 9967) (m := 7) (by decide)
  have hl : (mixV c 9967 7).toNat < (someV c).length := by show _ < 7; omega
  refine ⟨_, List.getElem?_eq_getElem hl, ?_⟩
  unfold frontV
  rw [List.getD_eq_getElem?_getD, List.getElem?_eq_getElem hl]; rfl
theorem frontV_in (c : Int) : (frontV c).length ≤ 64 ∧ ∀ x ∈ frontV c, 0 ≤ x ∧ x < 1024 := by
  obtain ⟨r, h, rfl⟩ := frontV_at c
  have hm := List.mem_of_getElem? h
  have m0 := mixV_lo (c := c) (p := 9973) (m := 1024) (by decide)
  have m1 := mixV_hi (c := c) (p := 9973) (m := 1024) (by decide)
  generalize frontV c = r at hm
  unfold someV at hm
  generalize mixV c 9973 1024 = z at m0 m1 hm
  simp only [List.cons_append, List.nil_append, List.mem_cons, List.not_mem_nil, or_false] at hm
  rcases hm with rfl | rfl | rfl | rfl | rfl | rfl | rfl <;> refine ⟨by simp, fun x hx => ?_⟩ <;> simp only [List.mem_cons, List.not_mem_nil, or_false] at hx <;> omega
theorem progV_len (c : Int) : (progV c).length = 64 := by
  have h := (frontV_in c).1
  unfold progV
  split
  · exact mixC_len c
  split
  · rw [List.length_map]; exact mixC_len c
  · rw [List.length_append, List.length_drop, List.length_set, mixC_len]; omega
theorem progV_in (c : Int) : ∀ x ∈ progV c, 0 ≤ x ∧ x < 1024 := by
  have h := (frontV_in c).2
  have hm := mixC_in c
  unfold progV
  split
  · exact hm
  split
  · intro x hx
    obtain ⟨n, hn, rfl⟩ := List.mem_map.mp hx
    have := hm n hn
    split <;> omega
  · intro x hx
    rcases List.mem_append.mp hx with h1 | h1
    · exact h x h1
    · have h2 := List.mem_of_mem_drop h1
      exact mem_set_in (P := fun x => 0 ≤ x ∧ x < 1024) hm (by show 0 ≤ 1 + c % 3 ∧ 1 + c % 3 < 1024; omega) x h2
def intsL (ns : List Int) : List PyData := ns.map PyData.int
def preSome (vs : List V) (_ : Hp) (_ : FS) (_ : Hp → Prop) (d : PyData) : Prop := ∃ c : Int, vs = [.int c] ∧ d = .list (intsL (frontV c))
def preProg (vs : List V) (_ : Hp) (_ : FS) (_ : Hp → Prop) (ds : List PyData) : Prop := ∃ c : Int, vs = [.int c] ∧ ds = intsL (progV c)
section
variable {K : PySem.W.Frag} {H : Hp} {F : FS} {W : Hp → Prop} {σ : L2.St} {te : TE} {ds : List PyData} {xs : List V}
theorem dn_new (wo : Wo F W) (h : ∀ H1, Mv F H F H1 → Ok F W H1 → NewL te σ H1 xs) (hd : ∀ H1, Mv F H F H1 → Ok F W H1 → DaAll K H1 F xs ds) : DvN K F W te σ H ds := fun H1 m o _ q =>
  h H1 m o _ fun p hp => q _ _ hp (.same (smN hp)) (o.same wo (smN hp)) ⟨xs, upd_same, (hd H1 m o).mv (mvN hp)⟩
end
section
variable {σ : L2.St} {H : Hp} {K : PySem.W.Frag} {F : FS} {a : Addr} {te tl : TE} {tb tz : TS} {N : L2.St → Hp → Prop} {R : VK} {B C' : L2.St → Hp → Prop} {k : Nat} {xs : List V} {g : TG}
theorem s_forT (h : Val tl σ H (.ref a)) (hx : SqT K H a xs) (Pv : Nat → L2.St → Hp → Prop) (h0 : Pv 0 σ H) (hl : ∀ (i : Nat) σ' H', Pv i σ' H' → SqT K H' a xs)
    (hs : ∀ (i : Nat) x σ' H', xs[i]? = some x → Pv i σ' H' → tb ⟨Pv (i + 1), R, N, Pv (i + 1)⟩ (σ'.set k (some x)) H') (hd : ∀ σ' H', Pv xs.length σ' H' → N σ' H') : tFor (iTup K tl) (gName k) tb ⟨N, R, B, C'⟩ σ H :=
  h _ ⟨a, rfl, ⟨xs, hx⟩, for_tup (xs := xs) (D := ⟨N, R, B, C'⟩) Pv h0 (fun i σ' H' _ p => hl i σ' H' p) hs hd⟩
theorem q_forT (h : Val tl σ H (.ref a)) (hx : SqT K H a xs) (Pv : Nat → L2.St → Hp → Prop) (h0 : Pv 0 σ H) (hl : ∀ (i : Nat) σ' H', Pv i σ' H' → SqT K H' a xs)
    (hs : ∀ (i : Nat) x σ' H', xs[i]? = some x → Pv i σ' H' → tb ⟨Pv (i + 1), R, tz ⟨N, R, B, C'⟩, Pv (i + 1)⟩ (σ'.set k (some x)) H') (hd : ∀ σ' H', Pv xs.length σ' H' → tz ⟨N, R, B, C'⟩ σ' H') : tSeq (tFor (iTup K tl) (gName k) tb) tz ⟨N, R, B, C'⟩ σ H :=
  s_forT (N := tz ⟨N, R, B, C'⟩) (B := B) (C' := C') h hx Pv h0 hl hs hd
theorem qx_forT (h : te σ H fun v H1 => tSeq (tFor (iTup K (tC v)) g tb) tz ⟨N, R, B, C'⟩ σ H1) : tSeq (tFor (iTup K te) g tb) tz ⟨N, R, B, C'⟩ σ H := h
theorem isi_T {ta : TE} (h : Val ta σ H (.ref a)) (ht : SqT K H a xs) : ∃ y t, Val ta σ H y ∧ TyX K H y (.type t) ∧ PySem.W.kitOne K (.type t) (.type "tuple") = some true := by
  refine ⟨_, "tuple", h, ?_, kit_ty (by decide +kernel)⟩
  rcases ht with (ht | ⟨o, ht⟩) | ⟨o, its, n, hk, hc, _⟩
  · exact .base (.tup ht)
  · exact .fTuple ht
  · exact .kTuple hk hc
end
theorem v_notInV {σ : L2.St} {H : Hp} {K : PySem.W.Frag} {ta tb : TE} {x : V} {p : Addr} {xs : List V} {c : Bool} (ha : Val ta σ H x) (hb : Val tb σ H (.ref p)) (hs : SqL K H p xs) (e : inV x xs = c) (fx : flatV x = true := by rfl) (fs : xs.all flatV = true := by simp [flatV]) : Val (tOp (rIn K true) ta tb) σ H (.bl (!c)) := val_op ha hb fun _ q => ⟨p, xs, rfl, .inl hs, fx, fs, by rw [if_pos rfl, e]; exact q⟩
/-! ### the users' world for readings of data -/
def footF (A : PA) : FS := fun b => b ∈ A.foot
def orF (F G : FS) : FS := fun b => F b ∨ G b
abbrev noF : FS := fun _ => False
/-- a def that gives data -/
def spD0 (K : PySem.W.Frag) (pre : List V → Hp → FS → (Hp → Prop) → PyData → Prop) : Sp := fun vs H Q _ => ∃ F W d, Wo F W ∧ Ok F W H ∧ pre vs H F W d ∧ ∀ v H', Mv F H F H' → Ok F W H' → Da K H' F v d → Q v H'
/-- no tuple stands there -/
structure NoTup (H : Hp) (b : Addr) : Prop where
  a : ∀ xs, H b ≠ some (.tup xs)
  f : ∀ o xs, H b ≠ some (.frz o (.tup xs))
theorem NoTup.ins {H : Hp} {b C dx : Addr} {fs : List (Str × V)} (h : H b = some (.ins C dx fs)) : NoTup H b := ⟨(fun _ e => by rw [h] at e; cases e), (fun _ _ e => by rw [h] at e; cases e)⟩
theorem NoTup.lst {H : Hp} {b : Addr} {xs : List V} (h : H b = some (.lst xs)) : NoTup H b := ⟨(fun _ e => by rw [h] at e; cases e), (fun _ _ e => by rw [h] at e; cases e)⟩
theorem NoTup.dK {H : Hp} {b : Addr} {kvs : List (Key × V)} (h : H b = some (.dK kvs)) : NoTup H b := ⟨(fun _ e => by rw [h] at e; cases e), (fun _ _ e => by rw [h] at e; cases e)⟩
theorem Da.sqL {K : PySem.W.Frag} {H : Hp} {F : FS} {a : Addr} {ns : List Int} (h : Da K H F (.ref a) (.list (ns.map PyData.int))) : SqL K H a (ns.map V.int) := by
  cases h with | lst h1 h2 => rw [← h2.ints]; exact SqL.of h1.at_
def evD : Ev → PyData
  | .key l => .tuple [.str "key", .int l]
  | .tick => .tuple [.str "tick"]
  | .start p => .tuple [.str "start", .int p]
  | .step => .tuple [.str "step"]
section
variable {K : PySem.W.Frag} {H H' H1 : Hp} {F F1 G : FS} {W : Hp → Prop} {σ : L2.St} {te ta tb tl : TE} {tA : TA} {v : V} {vs : List V} {d e : PyData} {ds es : List PyData} {n : Nat} {C D a : Addr} {A B : PA} {P P' P2 : Pn} {N : L2.St → Hp → Prop} {R : VK} {Bk Ct : L2.St → Hp → Prop} {tz : TS} {ev : Ev}
theorem dv_sp {pre : List V → Hp → FS → (Hp → Prop) → PyData → Prop} (wo : Wo F W) (h : DvA K F W tA σ H ds) (hp : ∀ vs H1, Mv F H F H1 → Ok F W H1 → DaAll K H1 F vs ds → pre vs H1 F W d) : Dv K F W (tCall (spD0 K pre) [] E0 tA) σ H d :=
  dv_call h fun vs H1 m o hd Q q => ⟨F, W, d, wo, o, hp vs H1 m o hd, q⟩
theorem dv_spV {pre : List V → Hp → FS → (Hp → Prop) → PyData → Prop} (wo : Wo F W) (h : ∀ H1, Mv F H F H1 → Ok F W H1 → ValA tA σ H1 vs) (hp : ∀ H1, Mv F H F H1 → Ok F W H1 → pre vs H1 F W d) : Dv K F W (tCall (spD0 K pre) [] E0 tA) σ H d := fun H1 m o _ q =>
  h H1 m o _ (by rw [List.append_nil]; exact ⟨F, W, d, wo, o, hp H1 m o, q⟩)
theorem Da.evT (h : Da K H F (.ref a) (evD ev)) : SqT K H a (evV ev) := by
  cases ev with
  | key l => cases h with | tup h1 h2 => cases h2 with | cons z1 h2 => cases h2 with | cons z2 h2 => cases h2; cases z1; cases z2; exact h1.sq
  | tick => cases h with | tup h1 h2 => cases h2 with | cons z1 h2 => cases h2; cases z1; exact h1.sq
  | start p => cases h with | tup h1 h2 => cases h2 with | cons z1 h2 => cases h2 with | cons z2 h2 => cases h2; cases z1; cases z2; exact h1.sq
  | step => cases h with | tup h1 h2 => cases h2 with | cons z1 h2 => cases h2; cases z1; exact h1.sq
theorem Da.evR (h : Da K H F v (evD ev)) : ∃ a, v = .ref a ∧ SqT K H a (evV ev) := by
  have : ∃ a, v = .ref a := by
    cases ev <;> (cases h; exact ⟨_, rfl⟩)
  obtain ⟨a, rfl⟩ := this
  exact ⟨a, rfl, h.evT⟩
theorem sh_ev : Sh 1 (evD ev) := by
  cases ev
  · exact sh_tup (shA_cons (sh_str (by decide +kernel)) (shA_cons sh_int shA_nil))
  · exact sh_tup (shA_cons (sh_str (by decide +kernel)) (shA_cons sh_int shA_nil))
  · exact sh_tup (shA_cons (sh_str (by decide +kernel)) shA_nil)
  · exact sh_tup (shA_cons (sh_str (by decide +kernel)) shA_nil)
theorem da_intsT_inv {ns : List Int} (h : Da K H F v (intsD ns)) : ∃ b, v = .ref b ∧ SqT K H b (ns.map V.int) := dp_ints_inv h.dp
/-- pictures are data -/
theorem Dp.da (no : ∀ b, F b → NoTup H b) (h : Dp K H (.ref a) (shotD P)) : Da K H F (.ref a) (shotD P) := by
  have T : ∀ b xs, SqT K H b xs → TpA K H F b xs := fun b xs hs => ⟨hs, by
    rcases hs with (e | ⟨o, e⟩) | e
    · exact .inl fun f => (no b f).a _ e
    · exact .inl fun f => (no b f).f _ _ e
    · exact .inr fun _ => .inr e⟩
  obtain ⟨a0, a4, a5, a6, a7, as, s⟩ := shot_inv h
  have I : ∀ b ns, SqT K H b (ns.map V.int) → Da K H F (.ref b) (intsD ns) := fun b ns hs => .tup (T _ _ hs) (daAll_ints ns)
  have B : ∀ (bs : List (List Int)) (as : List Addr), as.length = bs.length → (∀ (i : Nat) b, as[i]? = some b → ∃ ws, bs[i]? = some ws ∧ SqT K H b (ws.map V.int)) → DaAll K H F (as.map V.ref) (bs.map intsD) := by
    intro bs
    induction bs with
    | nil => intro as hl _; cases as with
      | nil => exact .nil
      | cons _ _ => cases hl
    | cons w r ih => intro as hl hr; cases as with
      | nil => cases hl
      | cons b as =>
        obtain ⟨ws, e1, e2⟩ := hr 0 b rfl
        cases e1
        exact .cons (I _ _ e2) (ih as (by simpa using hl) fun i c e => hr (i + 1) c e)
  exact .tup (T _ _ s.top) (.cons (I _ _ s.cs) (.cons (.int _) (.cons (.int _) (.cons (.int _) (.cons (I _ _ s.ib) (.cons (I _ _ s.ob) (.cons (I _ _ s.pp) (.cons (.tup (T _ _ s.bl) (B _ _ s.len s.row)) (.cons (.int _) (.cons (.str _) (.cons (.int _) (.cons (.int _) (.cons (.int _) .nil)))))))))))))
/-- the world of one user, of two -/
abbrev UW (C D : Addr) (A : PA) (P : Pn) : Hp → Prop := fun H => PAt C D H A P
theorem PAt.loc (h : PAt C D H A P) (k : ∀ b o, b ∈ A.foot → H b = some o → H' b = some o) : PAt C D H' A P := by
  obtain ⟨f1, f2, f3, f4, f5, f6, f7⟩ := PAt.fp A
  exact ⟨k _ _ f1 h.hp, k _ _ f2 h.hm, k _ _ f3 h.hc, k _ _ f4 h.hi, k _ _ f5 h.ho, k _ _ f6 h.hq, k _ _ f7 h.hb, fun i b hb => by
    obtain ⟨ws, w1, w2⟩ := h.hbs i b hb
    exact ⟨ws, w1, k _ _ (by unfold PA.foot; exact List.mem_append_right _ (List.mem_of_getElem? hb)) w2⟩, h.len, h.nd⟩
theorem woU : Wo (footF A) (UW C D A P) := ⟨fun _ _ k _ w => w.loc fun b o f => k b o f⟩
theorem PAt.fa (h : PAt C D H A P) : FA (footF A) H := fun b f e => by rcases h.obj b f with ⟨_, _, _, z⟩ | ⟨_, z⟩ <;> rw [z] at e <;> cases e
theorem okU (h : PAt C D H A P) : Ok (footF A) (UW C D A P) H := ⟨h.fa, h⟩
theorem PAt.noT (h : PAt C D H A P) : ∀ b, footF A b → NoTup H b := fun b f => by
  rcases h.obj b f with ⟨_, _, _, z⟩ | ⟨_, z⟩
  · exact .ins z
  · exact .lst z
theorem Fr.tps (f : Fr A.foot H H') (h : PAt C D H A P) : TpS H H' := fun b xs e => f b _ (fun hm => (h.noT b hm).a _ e) e
theorem Fr.mv (f : Fr A.foot H H') (g : ∀ b, footF A b → F b) : Mv F H F H' := ⟨fun b o n e => f b o (fun m => n (g b m)) e, fun _ h => .inl h⟩
theorem FA.fr (fa : FA F H) (f : Fr A.foot H H') (h : PAt C D H' A P) : FA F H' := fun b fb e => by
  by_cases c : b ∈ A.foot
  · exact h.fa b c e
  · cases z : H b with
    | none => exact fa b fb z
    | some o => rw [f b o c z] at e; cases e
/-- a new user from data -/
theorem Mv.newU (o : Ok F W H) (fr : ∀ b ∈ A.foot, H b = none) (s : Same H H') : Mv F H (orF F (footF A)) H' := ⟨fun b o _ e => s b o e, fun b f => f.imp id (fr b)⟩
theorem x_personOf {Q : VK} (h : Dv K F W te σ H (shotD P)) (hb : P.blocks.length = 4) (wo : Wo F W) (o : Ok F W H) (q : ∀ A H', Mv F H (orF F (footF A)) H' → FA F H' → W H' → PAt C D H' A P → (∀ b ∈ A.foot, ¬ F b) → (∀ b o, H b = some o → b ∉ A.foot) → Q (.ref A.p) H') : tCall (spPersonOf K C D) [] E0 (tCons te tNil) σ H Q :=
  xc_1 (x_d h o fun v H1 m1 o1 hv => by
    have : ∃ a, v = .ref a := by unfold shotD at hv; cases hv; exact ⟨_, rfl⟩
    obtain ⟨a, rfl⟩ := this
    refine ⟨a, P, rfl, hv.dp, hb, fun A H' fr s hA => q A H' (m1.trans (Mv.newU o1 fr s)) (o1.fa.same s) (o1.same wo s).w hA (fun b hb f => o1.fa b f (fr b hb)) (fun b o e hm => ?_)⟩
    by_cases c : F b
    · exact o1.fa b c (fr b hm)
    · have := m1.keep b o c e
      rw [fr b hm] at this; cases this)
theorem x_personD {Q : VK} {cs : List Int} {sw : Int} (h : Dv K F W te σ H d) (hd : d = .list (cs.map PyData.int) ∨ d = intsD cs) (hs : ∀ H1, Mv F H F H1 → Ok F W H1 → Val ta σ H1 (.int sw)) (wo : Wo F W) (o : Ok F W H) (q : ∀ A H', Mv F H (orF F (footF A)) H' → FA F H' → W H' → PAt C D H' A (newP cs sw) → (∀ b ∈ A.foot, ¬ F b) → (∀ b o, H b = some o → b ∉ A.foot) → Q (.ref A.p) H') : tMake D (spPerson K C D) [] E0 (tCons te (tCons ta tNil)) σ H Q := by
  show te σ H _
  refine x_d h o fun v H1 m1 o1 hv => ?_
  have hq : ∃ a, v = .ref a ∧ SqI K H1 a cs := by
    rcases hd with rfl | rfl
    · cases hv with | lst h1 h2 => exact ⟨_, rfl, .inl (by rw [← h2.ints]; exact SqL.of h1.at_)⟩
    · cases hv with | tup h1 h2 => exact ⟨_, rfl, .inr (by rw [← h2.ints]; exact h1.sq)⟩
  obtain ⟨a, rfl, hsq⟩ := hq
  show ta σ H1 _
  refine hs H1 m1 o1 _ ?_
  refine (x_person (σ := σ) (H := H1) (tA := fun _ H2 Q2 => Q2 [.ref a, .int sw] H2) (sw := sw) (cs := cs) (fun Q2 q2 => q2) hsq (fun A H' fr s hA => q A H' (m1.trans (Mv.newU o1 fr s)) (o1.fa.same s) (o1.same wo s).w hA (fun b hb f => o1.fa b f (fr b hb)) (fun b o e hm => ?_)) : _)
  by_cases c : F b
  · exact o1.fa b c (fr b hm)
  · have := m1.keep b o c e
    rw [fr b hm] at this; cases this
/-- an event happens -/
theorem q_hap (ha : ∀ H1, Val ta σ H1 (.ref A.p)) (he : Dv K F W te σ H (evD ev)) (o : Ok F W H) (up : ∀ H1, W H1 → PAt C D H1 A P) (sub : ∀ b, footF A b → F b) (w : WfP P) (hs : Short P) (q : ∀ H1 H', Ok F W H1 → PAt C D H' A (happenP P ev) → Fr A.foot H1 H' → Mv F H F H' → FA F H' → tz ⟨N, R, Bk, Ct⟩ σ H') : tSeq (tDrop (tCall (spHappen K C D) [] E0 (tCons ta (tCons te tNil)))) tz ⟨N, R, Bk, Ct⟩ σ H :=
  qx_drop (xc_2 (ha H) (x_d he o fun v H1 m1 o1 hv => by
    obtain ⟨a, rfl, hE⟩ := hv.evR
    exact ⟨A, P, a, ev, rfl, up _ o1.w, w, hs, hE, fun H' h' f => q H1 H' o1 h' f (m1.trans (f.mv sub)) (o1.fa.fr f h')⟩))
theorem s_hap (ha : ∀ H1, Val ta σ H1 (.ref A.p)) (he : Dv K F W te σ H (evD ev)) (o : Ok F W H) (up : ∀ H1, W H1 → PAt C D H1 A P) (sub : ∀ b, footF A b → F b) (w : WfP P) (hs : Short P) (q : ∀ H1 H', Ok F W H1 → PAt C D H' A (happenP P ev) → Fr A.foot H1 H' → Mv F H F H' → FA F H' → N σ H') : tDrop (tCall (spHappen K C D) [] E0 (tCons ta (tCons te tNil))) ⟨N, R, Bk, Ct⟩ σ H :=
  sx_drop (xc_2 (ha H) (x_d he o fun v H1 m1 o1 hv => by
    obtain ⟨a, rfl, hE⟩ := hv.evR
    exact ⟨A, P, a, ev, rfl, up _ o1.w, w, hs, hE, fun H' h' f => q H1 H' o1 h' f (m1.trans (f.mv sub)) (o1.fa.fr f h')⟩))
/-- a picture -/
theorem dv_pic (ha : ∀ H1, Mv F H F H1 → Ok F W H1 → Val ta σ H1 (.ref A.p)) (wo : Wo F W) (up : ∀ H1, W H1 → PAt C D H1 A P) (hb : P.blocks.length = 4) (no : ∀ H1, W H1 → ∀ b, F b → NoTup H1 b) : Dv K F W (tCall (spPicture K C D) [] E0 (tCons ta tNil)) σ H (shotD P) := fun H1 m o _ q =>
  ha H1 m o _ ⟨A, P, rfl, up _ o.w, hb, fun a H' s hd => q _ _ (.same s) (o.same wo s) (Dp.da (no _ (o.same wo s).w) hd)⟩
end
/-- the script beside -/
structure SF (K : PySem.W.Frag) (H : Hp) (F : FS) (a : Addr) (ns : List Int) : Prop where
  sq : SqL K H a (ns.map V.int)
  no : ¬ F a ∨ ∀ H', SqL K H' a (ns.map V.int)
section
variable {K : PySem.W.Frag} {H H' : Hp} {F F' : FS} {a : Addr} {ns : List Int}
theorem SF.mv (h : SF K H F a ns) (m : Mv F H F' H') : SF K H' F' a ns := by
  obtain ⟨h, n⟩ := h
  rcases n with n | n
  · rcases h with (h | ⟨o, h⟩) | h
    · exact ⟨.inl (.inl (m.keep _ _ n h)), .inl fun f => (m.new a f).elim n (fun e => by rw [h] at e; cases e)⟩
    · exact ⟨.inl (.inr ⟨o, m.keep _ _ n h⟩), .inl fun f => (m.new a f).elim n (fun e => by rw [h] at e; cases e)⟩
    · exact ⟨.inr h, .inr fun _ => .inr h⟩
  · exact ⟨n _, .inr n⟩
theorem SF.of (h : SqL K H a (ns.map V.int)) : SF K H noF a ns := ⟨h, .inl fun f => f⟩
end
theorem hd_list {f : PyData → PyData} {ds : List PyData} {xs : List Int} (h : ds = xs.map PyData.int) : PyData.list ds = .list (xs.map PyData.int) := by rw [h]
theorem paper_run : ∀ (es : List Ev) (P : Pn), (runP P es).paper.length ≤ P.paper.length + es.length
  | [], P => Nat.le_refl _
  | e :: es, P => by
    have h1 := paper_run es (happenP P e)
    have h2 := paper_happen P e
    show (runP (happenP P e) es).paper.length ≤ _
    rw [List.length_cons]; omega
theorem wf_run : ∀ {es : List Ev} {P : Pn}, WfP P → (∀ e ∈ es, EvOk e) → WfP (runP P es)
  | [], _, w, _ => w
  | e :: es, _, w, h => wf_run (es := es) (wfP_happen w (h e List.mem_cons_self)) fun x hx => h x (List.mem_cons_of_mem _ hx)
theorem runP_take {P : Pn} {es : List Ev} {i : Nat} {e : Ev} (h : es[i]? = some e) : runP P (es.take (i + 1)) = happenP (runP P (es.take i)) e := by
  unfold runP
  rw [List.take_add_one, h, List.foldl_append]; rfl
theorem stk {P P' : Pn} (e : P'.st = P.st) (h : StOk P) : StOk P' := by unfold StOk; rw [e]; exact h
theorem st_carry (P : Pn) (f : Bool) : (carryP P f).st = P.st := by
  unfold carryP; dsimp only
  split
  · rfl
  · split <;> rfl
theorem st_ask {P : Pn} (h : StOk P) (p : Int) : StOk (askP P p) := by
  by_cases h0 : p = 0
  · subst h0
    by_cases c : P.inbox = []
    · rw [ask_0 c]; exact h
    · rw [ask_0s c]; exact stk (P := P) rfl h
  by_cases h2 : p = 2
  · subst h2
    unfold askP
    split
    · exact stk (P := P) rfl h
    · exact h
  unfold askP
  rw [if_neg (by simp [h0, h2])]
  by_cases h1 : p = 1
  · rw [if_pos h1]
    cases hx : P.inbox with
    | nil => rw [hearP_nil hx]; exact .inr (.inr (.inl rfl))
    | cons x r => rw [hearP_cons hx]; exact stk (P := P) rfl h
  rw [if_neg h1]
  by_cases h3 : p = 3
  · rw [if_pos h3]; unfold sayP; split
    · exact .inr (.inr (.inr (.inl rfl)))
    · exact stk (P := P) rfl h
  rw [if_neg h3]
  by_cases h4 : p = 4
  · rw [if_pos h4]; unfold dozeP; split
    · exact .inr (.inr (.inr (.inr rfl)))
    · exact h
  rw [if_neg h4]
  by_cases h5 : p = 5
  · rw [if_pos h5]; exact stk (st_carry P _) h
  rw [if_neg h5]
  by_cases h6 : p = 6
  · rw [if_pos h6]; exact stk (st_carry P _) h
  rw [if_neg h6]
  by_cases h7 : p = 7
  · rw [if_pos h7]; exact .inl rfl
  rw [if_neg h7]
  by_cases h8 : p = 8
  · rw [if_pos h8]; exact stk (P := P) rfl h
  rw [if_neg h8]; exact h
theorem st_wake {P : Pn} (s : Str) (h : StOk P) : StOk (wakeP P s) := by
  unfold wakeP; split
  · exact .inr (.inl rfl)
  · exact h
theorem st_happen {P : Pn} (h : StOk P) (e : Ev) : StOk (happenP P e) := by
  cases e with
  | key l =>
    refine st_wake _ ?_
    split
    · exact stk (P := P) rfl h
    · exact stk (P := P) rfl h
  | tick =>
    have h1 : StOk (tick1P P) := by
      unfold tick1P; split
      · exact h
      · exact st_wake _ (stk (P := P) rfl h)
    show StOk (tick2P (tick1P P))
    unfold tick2P
    split
    · split
      · exact .inr (.inl rfl)
      · exact stk (P := tick1P P) rfl h1
    · exact h1
  | start p =>
    show StOk (if P.st = "stopped" then _ else P)
    split
    · exact .inr (.inl rfl)
    · exact h
  | step =>
    show StOk (if P.st = "ready" then stepP P else P)
    split
    · unfold stepP; dsimp only; split
      · refine st_ask ?_ _
        exact stk (P := P) rfl h
      · exact stk (P := P) rfl h
    · exact h
theorem st_run : ∀ {es : List Ev} {P : Pn}, StOk P → StOk (runP P es)
  | [], _, h => h
  | e :: es, _, h => st_run (es := es) (st_happen h e)
/-- alone: a new user, its events -/
def spAlone (K : PySem.W.Frag) (C D : Addr) : Sp := fun vs H Q _ => ∃ (F : FS) (W : Hp → Prop) (vc vE : V) (cs : List Int) (sw : Int) (es : List Ev), vs = [vc, .int sw, vE] ∧ Wo F W ∧ Ok F W H ∧ Da K H F vc (.list (cs.map PyData.int)) ∧ Da K H F vE (.list (es.map evD)) ∧
  WfP (newP cs sw) ∧ (∀ e ∈ es, EvOk e) ∧ es.length ≤ 1000 ∧ ∀ A H', Mv F H (orF F (footF A)) H' → FA F H' → W H' → PAt C D H' A (runP (newP cs sw) es) → (∀ b ∈ A.foot, ¬ F b) → (∀ b o, H b = some o → b ∉ A.foot) → Q (.ref A.p) H'
theorem va_2 {σ : L2.St} {H : Hp} {ta tb tc : TE} {v w : V} {Q : List V → Hp → Prop} (ha : Val ta σ H v) (hb : Val tb σ H w) (h : tc σ H fun x H1 => Q [v, w, x] H1) : tCons ta (tCons tb (tCons tc tNil)) σ H Q := ha _ (hb _ h)
theorem da_ev {K : PySem.W.Frag} {H : Hp} {F : FS} {a : Addr} {e : Ev} (h : H a = some (.tup (evV e))) (n : ¬ F a) : Da K H F (.ref a) (evD e) := by
  cases e with
  | key l => exact .tup ⟨SqT.of h, .inl n⟩ (.cons (.str _) (.cons (.int _) .nil))
  | tick => exact .tup ⟨SqT.of h, .inl n⟩ (.cons (.str _) .nil)
  | start p => exact .tup ⟨SqT.of h, .inl n⟩ (.cons (.str _) (.cons (.int _) .nil))
  | step => exact .tup ⟨SqT.of h, .inl n⟩ (.cons (.str _) .nil)
theorem daAll_evs {K : PySem.W.Frag} {H : Hp} {F : FS} : ∀ {as : List Addr} {es : List Ev}, as.length = es.length → (∀ (i : Nat) a e, as[i]? = some a → es[i]? = some e → H a = some (.tup (evV e)) ∧ ¬ F a) → DaAll K H F (as.map V.ref) (es.map evD)
  | [], [], _, _ => .nil
  | [], _ :: _, h, _ => by cases h
  | _ :: _, [], h, _ => by cases h
  | a :: as, e :: es, hl, h => .cons (da_ev (h 0 a e rfl rfl).1 (h 0 a e rfl rfl).2) (daAll_evs (by simpa using hl) fun i b f h1 h2 => h (i + 1) b f h1 h2)
section
variable {P : Program} {w : World} {K : PySem.W.Frag} {mg : Str → Option Value} {base : Heap}

theorem sc_law_some : FnScope ["_law_cell_here", "_law_some_here"] ["_law_cell_here"] (defScope s_law_some) := ⟨rfl, rfl, rfl, by decide +kernel, rfl, by decide +kernel, by decide +kernel⟩
theorem cal_law_some (T : Tx K mg) : Cal P w K mg base 3 "_law_some" ["_law_cell_here"] (spDV K preSome) := by
  refine cal_mk T 42 42 rfl rfl sc_law_some (fun _ _ _ _ _ _ us hl => match us, hl with | [_], _ => rfl) (fun vs H Q E h => ?_) (fun f cdv A outer s H vs Q E hr h => ?_)
  · obtain ⟨F, W, d, wo, ok, ⟨c, rfl, rfl⟩, k⟩ := h
    rfl
  · obtain ⟨F, W, d, wo, ok, ⟨c, rfl, rfl⟩, k⟩ := h
    refine ⟨_, (pss_cons (ps_set (i := 1) sc_law_some.nd rfl (Or.inl rfl) (pe_lst (pa_cons (pe_lst (pa_cons pe_int (pa_cons pe_int (pa_cons pe_int pa_nil)))) (pa_cons (pe_lst (pa_cons pe_int (pa_cons pe_int (pa_cons pe_int (pa_cons pe_int pa_nil))))) (pa_cons (pe_lst (pa_cons pe_int (pa_cons pe_int (pa_cons pe_int pa_nil)))) pa_nil))))) (pss_cons (ps_set (i := 1) sc_law_some.nd rfl (Or.inl rfl) (pe_op op_cat (pv 1) (pe_lst (pa_cons (pe_lst (pa_cons pe_int (pa_cons pe_int (pa_cons (pe_cal (cal_law_mix (K := K) T) hr (by decide) rfl (pa_cons (pv 0) (pa_cons pe_int (pa_cons pe_int pa_nil)))) (pa_cons pe_int (pa_cons pe_int (pa_cons pe_int (pa_cons pe_int (pa_cons pe_int pa_nil))))))))) pa_nil)))) (pss_cons (ps_set (i := 1) sc_law_some.nd rfl (Or.inl rfl) (pe_op op_cat (pv 1) (pe_lst (pa_cons (pe_lst (pa_cons pe_int (pa_cons pe_int (pa_cons pe_int (pa_cons pe_int (pa_cons pe_int (pa_cons pe_int (pa_cons pe_int (pa_cons pe_int pa_nil))))))))) (pa_cons (pe_lst (pa_cons pe_int (pa_cons pe_int (pa_cons pe_int (pa_cons pe_int pa_nil))))) (pa_cons (pe_lst (pa_cons pe_int (pa_cons pe_int pa_nil))) pa_nil)))))) (pss_one (ps_ret (pe_ix ix_list (pv 1) (pe_cal (cal_law_mix (K := K) T) hr (by decide) rfl (pa_cons (pv 0) (pa_cons pe_int (pa_cons (pe_callB call_len_seq (by rfl) (T.free 51) PySem.boot_len (pa_cons (pv 1) pa_nil)) pa_nil)))) (fun _ _ => rfl))))))), ?_⟩
    refine q_d (K := K) (dv_lst wo (da_cons (dv_lst wo (da_cons dv_k (da_cons dv_k (da_cons dv_k da_nil)))) (da_cons (dv_lst wo (da_cons dv_k (da_cons dv_k (da_cons dv_k (da_cons dv_k da_nil))))) (da_cons (dv_lst wo (da_cons dv_k (da_cons dv_k (da_cons dv_k da_nil)))) da_nil)))) ok (fun v1 H1 m1 o1 h1 => ?_)
    refine q_d (K := K) (dv_catL wo (dv_var rfl h1) (dv_lst wo (da_cons (dv_lst wo (da_cons dv_k (da_cons dv_k (da_cons (dv_i (fun _ _ _ => v_call (va_cons (v_var rfl) (va_cons v_c (va_cons v_c va_nil))) (fun _ q => ⟨_, _, _, rfl, by decide, by decide, q⟩))) (da_cons dv_k (da_cons dv_k (da_cons dv_k (da_cons dv_k (da_cons dv_k da_nil))))))))) da_nil))) o1 (fun v2 H2 m2 o2 h2 => ?_)
    refine q_d (K := K) (dv_catL wo (dv_var rfl h2) (dv_lst wo (da_cons (dv_lst wo (da_cons dv_k (da_cons dv_k (da_cons dv_k (da_cons dv_k (da_cons dv_k (da_cons dv_k (da_cons dv_k (da_cons dv_k da_nil))))))))) (da_cons (dv_lst wo (da_cons dv_k (da_cons dv_k (da_cons dv_k (da_cons dv_k da_nil))))) (da_cons (dv_lst wo (da_cons dv_k (da_cons dv_k da_nil))) da_nil))))) o2 (fun v3 H3 m3 o3 h3 => ?_)
    have h3' : Da K H3 F v3 (.list ((someV c).map fun r => .list (intsL r))) := h3
    clear h3 h2 h1
    obtain ⟨r, hr, er⟩ := frontV_at c
    have m0 := mixV_lo (c := c) (p := 9967) (m := 7) (by decide)
    refine s_retD (K := K) (dv_ixL (dv_var rfl h3') (fun H4 m4 _ => v_call (va_cons (v_var rfl) (va_cons v_c (va_cons (v_lenD (h3'.mv m4) (v_var rfl)) va_nil))) (fun _ q => ⟨_, _, _, rfl, by decide, by show (0 : Int) < 7; decide, q⟩)) m0 (d := .list (intsL (frontV c))) ?_) o3 (fun v H4 m4 o4 h4 => k v H4 ((m1.trans m2).trans (m3.trans m4)) o4 h4)
    show ((someV c).map fun r => PyData.list (intsL r))[(mixV c 9967 7).toNat]? = _
    rw [List.getElem?_map, hr, er]; rfl

theorem sc_law_program : FnScope ["_law_cell_here", "_law_cells", "_law_turn", "_law_front", "_law_k", "_law_number"] ["_law_cell_here"] (defScope s_law_program) := ⟨rfl, rfl, rfl, by decide +kernel, rfl, by decide +kernel, by decide +kernel⟩
theorem cal_law_program (T : Tx K mg) : Cal P w K mg base 5 "_law_program" ["_law_cell_here"] (spDN K preProg) := by
  refine cal_mk T 43 43 rfl rfl sc_law_program (fun _ _ _ _ _ _ us hl => match us, hl with | [_], _ => rfl) (fun vs H Q E h => ?_) (fun f cdv A outer s H vs Q E hr h => ?_)
  · obtain ⟨F, W, ds, wo, ok, ⟨c, rfl, rfl⟩, k⟩ := h
    rfl
  · obtain ⟨F, W, ds, wo, ok, ⟨c, rfl, rfl⟩, k⟩ := h
    refine ⟨_, (pss_cons (ps_setLc (i := 1) (own := [("_law_k", 4)]) (g := gName 4) (tt := tYes) rfl sc_law_program.nd rfl rfl (sw_true rfl rfl rfl (by decide +kernel)) (pi_range1 (by rfl) (T.free 53) (pa_cons pe_int pa_nil)) (blkOk_by (own := [("_law_k", 4)]) (N := ["_law_cell_here", "_law_cells", "_law_turn", "_law_front", "_law_k", "_law_number"]) (sc := defScope s_law_program) (by decide +kernel)) (fun _ _ _ _ _ => pg_name (i := 4) sc_law_program.nd rfl (Or.inl rfl)) (fun _ _ _ _ _ => pts_nil) (fun _ _ _ _ _ => (pe_cal (cal_law_mix (K := K) T) hr (by decide) rfl (pa_cons (pe_op op_add (pv 0) (pe_op op_mul pe_int (pv 4))) (pa_cons pe_int (pa_cons pe_int pa_nil)))))) (pss_cons (ps_set (i := 2) sc_law_program.nd rfl (Or.inl rfl) (pe_cal (cal_law_mix (K := K) T) hr (by decide) rfl (pa_cons (pv 0) (pa_cons pe_int (pa_cons pe_int pa_nil))))) (pss_cons (ps_if (pt_cmpR op_eq (pv 2) pe_int (nomark _)) (pss_one (ps_ret (pv 1))) pss_nil) (pss_cons (ps_if (pt_cmpR op_eq (pv 2) pe_int (nomark _)) (pss_one (ps_ret (pe_lc (own := [("_law_number", 5)]) (g := gName 5) (tt := tYes) (by rfl) sc_law_program.nd (pi_list (pv 1)) (blkOk_by (own := [("_law_number", 5)]) (N := ["_law_cell_here", "_law_cells", "_law_turn", "_law_front", "_law_k", "_law_number"]) (sc := defScope s_law_program) (by decide +kernel)) (fun _ _ _ _ _ => pg_name (i := 5) sc_law_program.nd rfl (Or.inl rfl)) (fun _ _ _ _ _ => pts_nil) (fun _ _ _ _ _ => (pe_ifExp (pt_cmpR op_eq (pe_op op_mod (pv 5) pe_int) pe_int (nomark _)) (pe_op op_add pe_int (pe_op op_mod (pv 5) pe_int)) (pv 5)))))) pss_nil) (pss_cons (ps_set (i := 3) sc_law_program.nd rfl (Or.inl rfl) (pe_cal (cal_law_some (K := K) T) hr (by decide) rfl (pa_cons (pv 0) pa_nil))) (pss_cons (ps_asg (pe_op op_add pe_int (pe_op op_mod (pv 0) pe_int)) (pg_sub (pv 1) pe_int set_list)) (pss_one (ps_ret (pe_op op_cat (pv 3) (pe_slice sl_list (pv 1) (po_some (pe_callB call_len_seq (by rfl) (T.free 51) PySem.boot_len (pa_cons (pv 3) pa_nil))) po_none)))))))))), ?_⟩
    refine q_dn (K := K) (ds := intsL (mixC c)) (fun H1 m o Q q => (dn_lcR (fun _ => true) (fun (i : Nat) => .int (mixV (c + 977 * (i : Int)) 10007 1024)) wo (fun _ _ _ => va_cons v_c va_nil) (by decide) (fun _ => rfl) (fun i H1 F1 W1 tn hi => ans_yes) (fun i H1 F1 W1 tn hi _ => dv_i (fun H2 m2 o2 => (v_call (va_cons (v_add (v_var rfl) (v_mul v_c (v_var rfl) (.inl ⟨by decide, by decide⟩))) (va_cons v_c (va_cons v_c va_nil))) (fun _ q => ⟨_, _, _, rfl, by decide, by decide, q⟩))))) H1 m o Q (fun D H' hD m' o' w => q D H' hD m' o' (by
      have e : intsL (mixC c) = fmD (fun _ => true) (fun (i : Nat) => PyData.int (mixV (c + 977 * (i : Int)) 10007 1024)) (List.range (64 : Int).toNat) := by rw [fmD_all]; unfold intsL mixC; rw [List.map_map]; rfl
      rw [e]; exact w))) ok .refl (fun D H1 ow m1 => ?_)
    have hl := mixC_len c
    have o1 := ow.ok
    have hD := ow.da
    refine q_set (v_call (va_cons (v_var rfl) (va_cons v_c (va_cons v_c va_nil))) (fun _ q => ⟨_, _, _, rfl, by decide, by decide, q⟩)) ?_
    refine q_if (a_t (v_eqI (v_var rfl) v_c)) (fun c1 => ?_) (fun c1 => ?_)
    · have g := of_decide_eq_true c1
      refine s_ret (v_var rfl) (k D H1 ow.fr m1 o1 ?_)
      have e : progV c = mixC c := by unfold progV; rw [if_pos g]
      rw [e]; exact ow.ow
    refine s_next ?_
    have g0 := of_decide_eq_false c1
    refine q_if (a_t (v_eqI (v_var rfl) v_c)) (fun c2 => ?_) (fun c2 => ?_)
    · have g := of_decide_eq_true c2
      have e : progV c = (mixC c).map fun n => if n % 3 = 0 then 768 + n % 10 else n := by unfold progV; rw [if_neg g0, if_pos g]
      refine x_ret (x_dn (K := K) (dn_lcL (fun _ => true) (fun d => match d with | .int n => .int (if n % 3 = 0 then 768 + n % 10 else n) | d => d) wo (dv_var rfl hD) (by show (intsL (mixC c)).length ≤ _; unfold intsL; rw [List.length_map, hl]; decide) (fun _ => rfl) (fun i x d H1 F1 W1 tn hd hx => ans_yes) (fun i x d H1 F1 W1 tn hd hx _ => ?_)) o1 m1 (fun D2 H2 ow2 m2 => k D2 H2 ow2.fr ow2.mv ow2.ok ?_))
      · unfold intsL at hd
        rw [List.getElem?_map] at hd
        obtain ⟨n, _, rfl⟩ := Option.map_eq_some_iff.mp hd
        cases hx
        refine dv_i (fun _ _ _ => v_eqv (v_if (v := V.int (if n % 3 = 0 then 768 + n % 10 else n)) (a_t (v_eqI (v_mod (v_var rfl) v_c (by decide)) v_c)) (fun c => ?_) (fun c => ?_)) rfl)
        · rw [if_pos (of_decide_eq_true c)]
          exact v_add v_c (v_mod (v_var rfl) v_c (by decide))
        · rw [if_neg (of_decide_eq_false c)]
          exact v_var rfl
      · have e2 : intsL (progV c) = fmD (fun _ => true) (fun d => match d with | .int n => PyData.int (if n % 3 = 0 then 768 + n % 10 else n) | d => d) (intsL (mixC c)) := by rw [fmD_all, e]; unfold intsL; rw [List.map_map, List.map_map]; rfl
        rw [e2]; exact ow2.ow
    refine s_next ?_
    have g1 := of_decide_eq_false c2
    have e : progV c = frontV c ++ ((mixC c).set 21 (1 + c % 3)).drop (frontV c).length := by unfold progV; rw [if_neg g0, if_neg g1]
    obtain ⟨ot, wt⟩ := ow.tn wo
    refine q_d (K := K) (d := .list (intsL (frontV c))) (dv_spW wt (fun _ _ _ => va_cons (v_var rfl) va_nil) (fun _ _ _ => ⟨c, rfl, rfl⟩)) ot (fun vf H2 m2 o2 hf => ?_)
    have ow2 : Own K H F W D H2 (intsL (mixC c)) := ow.step wo m2 o2
    refine q_own_set wo ow2 (v_add v_c (v_mod (v_var rfl) v_c (by decide))) (.int _) (v_var rfl) v_c (by decide) (by unfold intsL; rw [List.length_map, hl]; decide) (fun H3 ow3 m3 => ?_)
    have hf3 : Da K H3 F vf (.list (intsL (frontV c))) := (hf.mv (m3 _ (.inr rfl))).mv (.less fun b f => .inl f)
    have hfl := (frontV_in c).1
    refine x_ret (x_dn (K := K) (dn_catL wo (dv_var rfl hf3) (dv_slLf (frontV c).length wo (dv_var rfl ow3.da) (pt_s fun H4 m4 _ => v_eqv (v_lenD (hf3.mv m4) (v_var rfl)) (by unfold intsL; rw [List.length_map]))) ?_) ow3.ok ow3.mv (fun D2 H4 ow4 m4 => k D2 H4 ow4.fr ow4.mv ow4.ok ?_))
    · unfold intsL; simp only [List.length_map, List.length_drop, List.length_set]; omega
    · rw [e]
      have e2 : intsL (frontV c ++ ((mixC c).set 21 (1 + c % 3)).drop (frontV c).length) = intsL (frontV c) ++ ((intsL (mixC c)).set (21 : Int).toNat (.int (1 + c % 3))).drop (frontV c).length := by unfold intsL; rw [List.map_append, List.map_drop, List.map_set]; rfl
      rw [e2]; exact ow4.ow
end
/-! ### the house: its mirror -/
structure Ho where
  ps : List Pn
  guests : List (Option Nat)
  stale : List (List Int)
  turn : Nat
  swaps : Int
  quantum : Int
  beat : Int
  diaries : List (List Ev)
  runs : Option Nat
  row : List Nat
  steps : Int
  idle : Int
  ticks : Int
  left : Int
def pu (h : Ho) (u : Nat) : Pn := h.ps.getD u (newP [] 0)
def cu (h : Ho) (u : Nat) : List Int := (pu h u).m.cells
def dy (h : Ho) (u : Nat) : List Ev := h.diaries.getD u []
def roomN (gs : List (Option Nat)) (u : Nat) : Option Nat := gs.findIdx? fun g => g == some u
def roomH (h : Ho) (u : Nat) : Option Nat := roomN h.guests u
def rdy (h : Ho) (u : Nat) : Prop := (pu h u).st = "ready"
instance (h : Ho) (u : Nat) : Decidable (rdy h u) := by unfold rdy; infer_instance
/-- an event happens to user u -/
def evA (h : Ho) (u : Nat) (e : Ev) : Ho := { h with ps := h.ps.set u (happenP (pu h u) e) }
def evB (h : Ho) (u : Nat) (e : Ev) : Ho := { evA h u e with diaries := h.diaries.set u (dy h u ++ [e]) }
def evC (h : Ho) (u : Nat) (e : Ev) : Ho := if ¬ rdy h u ∧ rdy (evB h u e) u then { evB h u e with row := h.row ++ [u] } else evB h u e
def eventT (h : Ho) (u : Nat) (e : Ev) : Ho := if h.runs = some u ∧ ¬ rdy (evB h u e) u then { evC h u e with runs := none, left := 0 } else evC h u e
def staleE (h : Ho) : List (List Int) := match h.guests[h.turn]? with
  | some (some v) => h.stale.set v (cu h v)
  | _ => h.stale
def enterT (h : Ho) (u : Nat) : Ho := match roomH h u with
  | some _ => h
  | none => { h with guests := h.guests.set h.turn (some u), stale := (staleE h).set u (cu h u), turn := (h.turn + 1) % h.guests.length, swaps := h.swaps + 1 }
def settleT (h : Ho) : Ho := match h.runs with
  | some _ => h
  | none => match h.row with
    | [] => h
    | u :: r => enterT { h with runs := some u, row := r, left := h.quantum } u
def startT (h : Ho) (u : Nat) (p : Int) : Ho := settleT (eventT h u (.start p))
def keyT (h : Ho) (u : Nat) (l : Int) : Ho := settleT (eventT h u (.key l))
def tickN (h : Ho) : Nat → Ho
  | 0 => { h with ticks := h.ticks + 1 }
  | n + 1 => eventT (tickN h n) n .tick
def turnT (h : Ho) : Ho := match h.runs with
  | none => h
  | some u => if h.left - 1 = 0 then { h with left := 0, row := h.row ++ [u], runs := none } else { h with left := h.left - 1 }
def tickT (h : Ho) : Ho := turnT (tickN h h.ps.length)
def step1 (h : Ho) : Ho := match h.runs with
  | none => { h with steps := h.steps + 1, idle := h.idle + 1 }
  | some u => eventT { h with steps := h.steps + 1 } u .step
def step2 (h : Ho) : Ho := if (h.steps + 1) % h.beat = 0 then tickT (step1 h) else step1 h
def stepT (h : Ho) : Ho := settleT (step2 h)
def runT (h : Ho) : Nat → Ho
  | 0 => h
  | n + 1 => stepT (runT h n)
def loadT (h : Ho) (u : Nat) (cs : List Int) : Ho := { h with ps := h.ps.set u { pu h u with m := { (pu h u).m with cells := cs } } }
def switchT (h : Ho) (u : Nat) (sw : Int) : Ho := { h with ps := h.ps.set u { pu h u with sw := sw } }
def newH (n r : Nat) (q b : Int) : Ho := ⟨List.replicate n (newP (List.replicate 64 0) 0), List.replicate r none, List.replicate n (List.replicate 64 0), 0, 0, q, b, List.replicate n [], none, [], 0, 0, 0, 0⟩
/-- the house's own order: what holds behind every event -/
structure WfH (n r : Nat) (h : Ho) : Prop where
  lp : h.ps.length = n
  ld : h.diaries.length = n
  ls : h.stale.length = n
  lg : h.guests.length = r
  r0 : 0 < r
  tn : h.turn < r
  gu : ∀ (i u : Nat), h.guests[i]? = some (some u) → u < n
  gi : ∀ (i j u : Nat), h.guests[i]? = some (some u) → h.guests[j]? = some (some u) → i = j
  pw : ∀ u, u < n → WfP (pu h u) ∧ StOk (pu h u)
  ru : ∀ u, h.runs = some u → u < n
  rn : ∀ u, h.runs = some u → rdy h u
  rd : h.row.Nodup
  rb : ∀ u ∈ h.row, u < n
  rr : ∀ u ∈ h.row, rdy h u ∧ h.runs ≠ some u
  ar : ∀ u, u < n → rdy h u → u ∈ h.row ∨ h.runs = some u
  l0 : h.runs = none → h.left = 0
  l1 : ∀ u, h.runs = some u → 1 ≤ h.left ∧ h.left ≤ h.quantum
  q0 : 1 ≤ h.quantum
  b0 : 1 ≤ h.beat
/-- sizes: papers and diaries -/
def Lm (k : Nat) (h : Ho) : Prop := ∀ u, (pu h u).paper.length ≤ k ∧ (dy h u).length ≤ k
section
variable {n r u v k : Nat} {h : Ho} {e : Ev} {P : Pn} {x : List Ev}
theorem getD_set_self {α : Type} {xs : List α} {i : Nat} {a d : α} (h : i < xs.length) : (xs.set i a).getD i d = a := by
  rw [List.getD_eq_getElem?_getD, List.getElem?_set_self h]; rfl
theorem getD_set_ne {α : Type} {xs : List α} {i j : Nat} {a d : α} (h : i ≠ j) : (xs.set i a).getD j d = xs.getD j d := by
  rw [List.getD_eq_getElem?_getD, List.getElem?_set_ne h, ← List.getD_eq_getElem?_getD]
theorem pu_set (hu : u < h.ps.length) : pu { h with ps := h.ps.set u P } u = P := getD_set_self hu
theorem pu_ne (hn : u ≠ v) : pu { h with ps := h.ps.set u P } v = pu h v := getD_set_ne hn
theorem evA_u (hu : u < h.ps.length) : pu (evA h u e) u = happenP (pu h u) e := pu_set hu
theorem evA_v (hn : u ≠ v) : pu (evA h u e) v = pu h v := pu_ne hn
theorem evB_pu : pu (evB h u e) v = pu (evA h u e) v := rfl
theorem evC_pu : pu (evC h u e) v = pu (evA h u e) v := by unfold evC; split <;> rfl
theorem event_pu : pu (eventT h u e) v = pu (evA h u e) v := by
  unfold eventT; split
  · exact evC_pu
  · exact evC_pu
theorem event_u (hu : u < h.ps.length) : pu (eventT h u e) u = happenP (pu h u) e := event_pu.trans (evA_u hu)
theorem event_v (hn : u ≠ v) : pu (eventT h u e) v = pu h v := event_pu.trans (evA_v hn)
/-- what an event leaves -/
structure EvSame (h h' : Ho) : Prop where
  guests : h'.guests = h.guests
  stale : h'.stale = h.stale
  turn : h'.turn = h.turn
  swaps : h'.swaps = h.swaps
  quantum : h'.quantum = h.quantum
  beat : h'.beat = h.beat
  steps : h'.steps = h.steps
  idle : h'.idle = h.idle
  ticks : h'.ticks = h.ticks
  len : h'.ps.length = h.ps.length
theorem evC_same : EvSame h (evC h u e) := by unfold evC; split <;> exact ⟨rfl, rfl, rfl, rfl, rfl, rfl, rfl, rfl, rfl, List.length_set⟩
theorem event_same : EvSame h (eventT h u e) := by
  have c := evC_same (h := h) (u := u) (e := e)
  unfold eventT; split
  · exact ⟨c.guests, c.stale, c.turn, c.swaps, c.quantum, c.beat, c.steps, c.idle, c.ticks, c.len⟩
  · exact c
theorem event_dia : (eventT h u e).diaries = h.diaries.set u (dy h u ++ [e]) := by
  have : (evC h u e).diaries = h.diaries.set u (dy h u ++ [e]) := by unfold evC; split <;> rfl
  unfold eventT; split <;> exact this
theorem event_row : (eventT h u e).row = if ¬ rdy h u ∧ rdy (eventT h u e) u then h.row ++ [u] else h.row := by
  have e1 : rdy (eventT h u e) u ↔ rdy (evB h u e) u := by unfold rdy; rw [event_pu, evB_pu]
  have e2 : (evC h u e).row = if ¬ rdy h u ∧ rdy (evB h u e) u then h.row ++ [u] else h.row := by unfold evC; split <;> rfl
  have e3 : (eventT h u e).row = (evC h u e).row := by unfold eventT; split <;> rfl
  rw [e3, e2]
  by_cases c : ¬ rdy h u ∧ rdy (evB h u e) u
  · rw [if_pos c, if_pos ⟨c.1, e1.mpr c.2⟩]
  · rw [if_neg c, if_neg (fun z => c ⟨z.1, e1.mp z.2⟩)]
theorem event_runs : (eventT h u e).runs = if h.runs = some u ∧ ¬ rdy (eventT h u e) u then none else h.runs := by
  have e1 : rdy (eventT h u e) u ↔ rdy (evB h u e) u := by unfold rdy; rw [event_pu, evB_pu]
  have e2 : (evC h u e).runs = h.runs := by unfold evC; split <;> rfl
  by_cases c : h.runs = some u ∧ ¬ rdy (evB h u e) u
  · rw [if_pos ⟨c.1, fun z => c.2 (e1.mp z)⟩]; unfold eventT; rw [if_pos c]
  · rw [if_neg (fun z => c ⟨z.1, fun y => z.2 (e1.mpr y)⟩)]; unfold eventT; rw [if_neg c, e2]
theorem event_left : (eventT h u e).left = if h.runs = some u ∧ ¬ rdy (eventT h u e) u then 0 else h.left := by
  have e1 : rdy (eventT h u e) u ↔ rdy (evB h u e) u := by unfold rdy; rw [event_pu, evB_pu]
  have e2 : (evC h u e).left = h.left := by unfold evC; split <;> rfl
  by_cases c : h.runs = some u ∧ ¬ rdy (evB h u e) u
  · rw [if_pos ⟨c.1, fun z => c.2 (e1.mp z)⟩]; unfold eventT; rw [if_pos c]
  · rw [if_neg (fun z => c ⟨z.1, fun y => z.2 (e1.mpr y)⟩)]; unfold eventT; rw [if_neg c, e2]
/-- who is ready stays so but by a step -/
theorem ready_stays (hr : P.st = "ready") (he : e ≠ .step) : (happenP P e).st = "ready" := by
  have wk : ∀ (P : Pn) s, P.st = "ready" → (wakeP P s).st = "ready" := fun P s h => by unfold wakeP; split; rfl; exact h
  cases e with
  | key l => exact wk _ _ (by split <;> exact hr)
  | tick =>
    have h1 : (tick1P P).st = "ready" := by
      unfold tick1P; split
      · exact hr
      · exact wk _ _ hr
    show (tick2P (tick1P P)).st = "ready"
    unfold tick2P
    rw [if_neg (by rw [h1]; decide)]; exact h1
  | start p => show (if P.st = "stopped" then _ else P : Pn).st = "ready"; rw [if_neg (by rw [hr]; decide)]; exact hr
  | step => exact absurd rfl he
theorem wf_event (w : WfH n r h) (hu : u < n) (he : EvOk e) (hst : e = .step → h.runs = some u) : WfH n r (eventT h u e) := by
  have s := event_same (h := h) (u := u) (e := e)
  have hul : u < h.ps.length := by rw [w.lp]; exact hu
  have pv : ∀ v, u ≠ v → (rdy (eventT h u e) v ↔ rdy h v) := fun v hv => by unfold rdy; rw [event_v hv]
  have rw_ := event_row (h := h) (u := u) (e := e)
  have rs := event_runs (h := h) (u := u) (e := e)
  have lf := event_left (h := h) (u := u) (e := e)
  refine ⟨s.len.trans w.lp, by rw [event_dia, List.length_set]; exact w.ld, by rw [s.stale]; exact w.ls, by rw [s.guests]; exact w.lg, w.r0, by rw [s.turn]; exact w.tn, by rw [s.guests]; exact w.gu, by rw [s.guests]; exact w.gi, fun v hv => ?_, fun v hv => ?_, fun v hv => ?_, ?_, fun v hv => ?_, fun v hv => ?_, fun v hv hr => ?_, fun hz => ?_, fun v hv => ?_, by rw [s.quantum]; exact w.q0, by rw [s.beat]; exact w.b0⟩
  · by_cases c : u = v
    · subst c; rw [event_u hul]; exact ⟨wfP_happen (w.pw u hu).1 he, st_happen (w.pw u hu).2 e⟩
    · rw [event_v c]; exact w.pw v hv
  · rw [rs] at hv; split at hv
    · cases hv
    · exact w.ru v hv
  · rw [rs] at hv
    split at hv
    · cases hv
    · rename_i c
      by_cases cu : u = v
      · subst cu
        exact Decidable.byContradiction fun z => c ⟨hv, z⟩
      · exact (pv v cu).mpr (w.rn v hv)
  · rw [rw_]
    split
    · rename_i c
      refine List.nodup_append.mpr ⟨w.rd, by simp, fun a ha b hb e => ?_⟩
      rw [List.mem_singleton.mp hb] at e
      subst e
      exact c.1 (w.rr a ha).1
    · exact w.rd
  · rw [rw_] at hv
    split at hv
    · rcases List.mem_append.mp hv with h1 | h1
      · exact w.rb v h1
      · rw [List.mem_singleton.mp h1]; exact hu
    · exact w.rb v hv
  · have hrow : v ∈ h.row ∨ (v = u ∧ ¬ rdy h u ∧ rdy (eventT h u e) u) := by
      rw [rw_] at hv
      split at hv
      · rename_i c
        rcases List.mem_append.mp hv with h1 | h1
        · exact .inl h1
        · exact .inr ⟨List.mem_singleton.mp h1, c⟩
      · exact .inl hv
    have hkey : rdy (eventT h u e) v := by
      rcases hrow with h1 | ⟨rfl, _, h2⟩
      · by_cases cu : u = v
        · subst cu
          have ne : e ≠ .step := fun q => (w.rr u h1).2 (hst q)
          show (pu (eventT h u e) u).st = "ready"
          rw [event_u hul]; exact ready_stays (w.rr u h1).1 ne
        · exact (pv v cu).mpr (w.rr v h1).1
      · exact h2
    refine ⟨hkey, fun z => ?_⟩
    rw [rs] at z
    split at z
    · cases z
    · rcases hrow with h1 | ⟨rfl, h2, _⟩
      · exact (w.rr v h1).2 z
      · exact h2 (w.rn v z)
  · rw [rw_, rs]
    by_cases cu : u = v
    · subst cu
      by_cases c : rdy h u
      · rcases w.ar u hv c with h1 | h1
        · exact .inl (by split; exact List.mem_append_left _ h1; exact h1)
        · exact .inr (by rw [if_neg (fun z => z.2 hr)]; exact h1)
      · exact .inl (by rw [if_pos ⟨c, hr⟩]; simp)
    · rcases w.ar v hv ((pv v cu).mp hr) with h1 | h1
      · exact .inl (by split; exact List.mem_append_left _ h1; exact h1)
      · exact .inr (by rw [if_neg (fun z => cu (Option.some.inj (z.1.symm.trans h1)))]; exact h1)
  · rw [rs] at hz
    rw [lf]
    split at hz
    · rename_i c; rw [if_pos c]
    · rename_i c; rw [if_neg c]; exact w.l0 hz
  · rw [rs] at hv
    rw [lf, s.quantum]
    split at hv
    · cases hv
    · rename_i c; rw [if_neg c]; exact w.l1 v hv
theorem roomN_some {gs : List (Option Nat)} {i : Nat} (hr : roomN gs u = some i) : gs[i]? = some (some u) := by
  unfold roomN at hr
  obtain ⟨h1, h2, _⟩ := List.findIdx?_eq_some_iff_getElem.mp hr
  rw [List.getElem?_eq_getElem h1]
  exact congrArg some (beq_iff_eq.mp h2)
theorem roomN_none {gs : List (Option Nat)} (hr : roomN gs u = none) (i : Nat) : gs[i]? ≠ some (some u) := fun e => by
  unfold roomN at hr
  have := List.findIdx?_eq_none_iff.mp hr _ (List.mem_of_getElem? e)
  simp at this
theorem wf_enter (w : WfH n r h) (hu : u < n) : WfH n r (enterT h u) := by
  unfold enterT
  cases hr : roomH h u with
  | some i => exact w
  | none =>
    have nr := roomN_none hr
    refine ⟨w.lp, w.ld, ?_, by show (h.guests.set _ _).length = r; rw [List.length_set]; exact w.lg, w.r0, ?_, fun i v hv => ?_, fun i j v hi hj => ?_, w.pw, w.ru, w.rn, w.rd, w.rb, w.rr, w.ar, w.l0, w.l1, w.q0, w.b0⟩
    · show (List.set _ _ _).length = n
      rw [List.length_set]; unfold staleE; split <;> (try rw [List.length_set]) <;> exact w.ls
    · show (h.turn + 1) % h.guests.length < r
      rw [w.lg]; exact Nat.mod_lt _ w.r0
    · have hv : (h.guests.set h.turn (some u))[i]? = some (some v) := hv
      by_cases c : h.turn = i
      · subst c
        rw [List.getElem?_set_self (by rw [w.lg]; exact w.tn)] at hv
        cases hv; exact hu
      · rw [List.getElem?_set_ne c] at hv; exact w.gu i v hv
    · have hi : (h.guests.set h.turn (some u))[i]? = some (some v) := hi
      have hj : (h.guests.set h.turn (some u))[j]? = some (some v) := hj
      by_cases c : h.turn = i <;> by_cases d : h.turn = j
      · omega
      · rw [← c, List.getElem?_set_self (by rw [w.lg]; exact w.tn)] at hi
        cases hi
        rw [List.getElem?_set_ne d] at hj
        exact absurd hj (nr j)
      · rw [← d, List.getElem?_set_self (by rw [w.lg]; exact w.tn)] at hj
        cases hj
        rw [List.getElem?_set_ne c] at hi
        exact absurd hi (nr i)
      · rw [List.getElem?_set_ne c] at hi
        rw [List.getElem?_set_ne d] at hj
        exact w.gi i j v hi hj
/-- what enter leaves -/
structure EnSame (h h' : Ho) : Prop where
  ps : h'.ps = h.ps
  quantum : h'.quantum = h.quantum
  beat : h'.beat = h.beat
  diaries : h'.diaries = h.diaries
  runs : h'.runs = h.runs
  row : h'.row = h.row
  steps : h'.steps = h.steps
  idle : h'.idle = h.idle
  ticks : h'.ticks = h.ticks
  left : h'.left = h.left
theorem enter_same : EnSame h (enterT h u) := by
  unfold enterT; split <;> exact ⟨rfl, rfl, rfl, rfl, rfl, rfl, rfl, rfl, rfl, rfl⟩
theorem wf_settle (w : WfH n r h) : WfH n r (settleT h) := by
  unfold settleT
  cases hr : h.runs with
  | some u => exact w
  | none =>
    cases hw : h.row with
    | nil => exact w
    | cons u row =>
      have hu : u < n := w.rb u (by rw [hw]; exact List.mem_cons_self)
      have nd := w.rd
      rw [hw] at nd
      obtain ⟨n1, n2⟩ := List.nodup_cons.mp nd
      refine wf_enter (h := { h with runs := some u, row := row, left := h.quantum }) ?_ hu
      refine ⟨w.lp, w.ld, w.ls, w.lg, w.r0, w.tn, w.gu, w.gi, w.pw, fun v hv => ?_, fun v hv => ?_, n2, fun v hv => w.rb v (by rw [hw]; exact List.mem_cons_of_mem _ hv), fun v hv => ⟨(w.rr v (by rw [hw]; exact List.mem_cons_of_mem _ hv)).1, fun z => ?_⟩, fun v hv hr => ?_, fun z => (by cases z), fun v _ => ⟨w.q0, Int.le_refl _⟩, w.q0, w.b0⟩
      · cases hv; exact hu
      · cases hv; exact (w.rr u (by rw [hw]; exact List.mem_cons_self)).1
      · cases z; exact n1 hv
      · rcases w.ar v hv hr with h1 | h1
        · rw [hw] at h1
          rcases List.mem_cons.mp h1 with h2 | h2
          · exact .inr (by rw [h2])
          · exact .inl h2
        · rw [‹h.runs = none›] at h1; cases h1
/-- behind a settling: none runs only if the row is empty -/
theorem settled (w : WfH n r h) : (settleT h).runs = none → (settleT h).row = [] := by
  unfold settleT
  cases hr : h.runs with
  | some u => intro z; rw [hr] at z; cases z
  | none =>
    cases hw : h.row with
    | nil => intro _; exact hw
    | cons u row => intro z; rw [enter_same.runs] at z; cases z
theorem wf_ticks (w : WfH n r h) : WfH n r { h with ticks := h.ticks + 1 } := ⟨w.lp, w.ld, w.ls, w.lg, w.r0, w.tn, w.gu, w.gi, w.pw, w.ru, w.rn, w.rd, w.rb, w.rr, w.ar, w.l0, w.l1, w.q0, w.b0⟩
theorem wf_tickN (w : WfH n r h) : ∀ k, k ≤ n → WfH n r (tickN h k)
  | 0, _ => wf_ticks w
  | k + 1, hk => wf_event (wf_tickN w k (by omega)) (by omega) trivial (fun z => by cases z)
theorem runs_or (h : Ho) : h.runs = none ∨ ∃ u, h.runs = some u := by
  cases h.runs with
  | none => exact .inl rfl
  | some u => exact .inr ⟨u, rfl⟩
theorem turn_none (hr : h.runs = none) : turnT h = h := by unfold turnT; rw [hr]
theorem turn_some (hr : h.runs = some u) : turnT h = if h.left - 1 = 0 then { h with left := 0, row := h.row ++ [u], runs := none } else { h with left := h.left - 1 } := by unfold turnT; rw [hr]
theorem step1_none (hr : h.runs = none) : step1 h = { h with steps := h.steps + 1, idle := h.idle + 1 } := by unfold step1; rw [hr]
theorem step1_some (hr : h.runs = some u) : step1 h = eventT { h with steps := h.steps + 1 } u .step := by unfold step1; rw [hr]
theorem wf_turn (w : WfH n r h) : WfH n r (turnT h) := by
  rcases runs_or h with hr | ⟨u, hr⟩
  · rw [turn_none hr]; exact w
  · have l1 := w.l1 u hr
    have hu := w.ru u hr
    rw [turn_some hr]
    split
    · refine ⟨w.lp, w.ld, w.ls, w.lg, w.r0, w.tn, w.gu, w.gi, w.pw, fun v z => (by cases z), fun v z => (by cases z), List.nodup_append.mpr ⟨w.rd, by simp, fun a ha b hb e => ?_⟩, fun v hv => ?_, fun v hv => ⟨?_, fun z => (by cases z)⟩, fun v hv hy => ?_, fun _ => rfl, fun v z => (by cases z), w.q0, w.b0⟩
      · rw [List.mem_singleton.mp hb] at e; subst e; exact (w.rr a ha).2 hr
      · rcases List.mem_append.mp hv with h1 | h1
        · exact w.rb v h1
        · rw [List.mem_singleton.mp h1]; exact hu
      · rcases List.mem_append.mp hv with h1 | h1
        · exact (w.rr v h1).1
        · rw [List.mem_singleton.mp h1]; exact w.rn u hr
      · rcases w.ar v hv hy with h1 | h1
        · exact .inl (List.mem_append_left _ h1)
        · rw [hr] at h1; cases h1; exact .inl (by simp)
    · refine ⟨w.lp, w.ld, w.ls, w.lg, w.r0, w.tn, w.gu, w.gi, w.pw, fun v z => w.ru v z, fun v z => w.rn v z, w.rd, w.rb, w.rr, w.ar, fun z => ?_, fun v z => ?_, w.q0, w.b0⟩
      · have z : h.runs = none := z
        rw [hr] at z; cases z
      · show 1 ≤ h.left - 1 ∧ h.left - 1 ≤ h.quantum
        omega
theorem wf_tick (w : WfH n r h) : WfH n r (tickT h) := by
  unfold tickT; rw [w.lp]; exact wf_turn (wf_tickN w n (Nat.le_refl _))
theorem wf_count (w : WfH n r h) (i s : Int) : WfH n r { h with steps := s, idle := i } := ⟨w.lp, w.ld, w.ls, w.lg, w.r0, w.tn, w.gu, w.gi, w.pw, w.ru, w.rn, w.rd, w.rb, w.rr, w.ar, w.l0, w.l1, w.q0, w.b0⟩
theorem wf_step1 (w : WfH n r h) : WfH n r (step1 h) := by
  rcases runs_or h with hr | ⟨u, hr⟩
  · rw [step1_none hr]; exact wf_count w _ _
  · rw [step1_some hr]; exact wf_event (wf_count w h.idle _) (w.ru u hr) trivial (fun _ => hr)
theorem wf_step (w : WfH n r h) : WfH n r (stepT h) := by
  unfold stepT step2
  split
  · exact wf_settle (wf_tick (wf_step1 w))
  · exact wf_settle (wf_step1 w)
theorem wf_runT (w : WfH n r h) : ∀ k, WfH n r (runT h k)
  | 0 => w
  | k + 1 => wf_step (wf_runT w k)
theorem wf_start (w : WfH n r h) (hu : u < n) {p : Int} (hp : 0 ≤ p ∧ p < 64) : WfH n r (startT h u p) := wf_settle (wf_event w hu hp (fun z => by cases z))
theorem wf_key (w : WfH n r h) (hu : u < n) {l : Int} (hl : 0 ≤ l ∧ l < 256) : WfH n r (keyT h u l) := wf_settle (wf_event w hu hl (fun z => by cases z))
theorem wf_put (w : WfH n r h) (hu : u < n) (wp : WfP P) (hs : P.st = (pu h u).st) : WfH n r { h with ps := h.ps.set u P } := by
  have hul : u < h.ps.length := by rw [w.lp]; exact hu
  have sp : StOk P := stk hs (w.pw u hu).2
  have rd : ∀ v, (rdy { h with ps := h.ps.set u P } v ↔ rdy h v) := fun v => by
    unfold rdy
    by_cases c : u = v
    · subst c; rw [pu_set hul, hs]
    · rw [pu_ne c]
  refine ⟨by show (h.ps.set _ _).length = n; rw [List.length_set]; exact w.lp, w.ld, w.ls, w.lg, w.r0, w.tn, w.gu, w.gi, fun v hv => ?_, w.ru, fun v hv => (rd v).mpr (w.rn v hv), w.rd, w.rb, fun v hv => ⟨(rd v).mpr (w.rr v hv).1, (w.rr v hv).2⟩, fun v hv hr => w.ar v hv ((rd v).mp hr), w.l0, w.l1, w.q0, w.b0⟩
  by_cases c : u = v
  · subst c; rw [pu_set hul]; exact ⟨wp, sp⟩
  · rw [pu_ne c]; exact w.pw v hv
theorem wf_load (w : WfH n r h) (hu : u < n) {cs : List Int} (hc : cs.length = 64) (hin : ∀ c ∈ cs, 0 ≤ c ∧ c < 1024) : WfH n r (loadT h u cs) := by
  have wp := (w.pw u hu).1
  exact wf_put w hu ⟨⟨⟨hc, wp.wm.lo, wp.wm.hi⟩, hin, wp.wm.tlo, wp.wm.thi, wp.wm.bit⟩, wp.ib, wp.ibl, wp.ob, wp.bk, wp.bkl, wp.sw0, wp.sw1⟩ rfl
theorem wf_switch (w : WfH n r h) (hu : u < n) {sw : Int} (h0 : 0 ≤ sw) (h1 : sw < 1024) : WfH n r (switchT h u sw) := by
  have wp := (w.pw u hu).1
  exact wf_put w hu ⟨wp.wm, wp.ib, wp.ibl, wp.ob, wp.bk, wp.bkl, h0, h1⟩ rfl
theorem wf_newH {q b : Int} (hr : 0 < r) (hq : 1 ≤ q) (hb : 1 ≤ b) : WfH n r (newH n r q b) := by
  have pe : ∀ u, u < n → pu (newH n r q b) u = newP (List.replicate 64 0) 0 := fun u hu => by
    show (List.replicate n (newP (List.replicate 64 0) 0)).getD u _ = _
    rw [List.getD_eq_getElem?_getD, List.getElem?_replicate, if_pos hu]; rfl
  have nr : ∀ u, u < n → ¬ rdy (newH n r q b) u := fun u hu z => by unfold rdy at z; rw [pe u hu] at z; exact absurd z (by decide)
  have gn : ∀ (i u : Nat), (newH n r q b).guests[i]? ≠ some (some u) := fun i u z => by
    have := List.mem_of_getElem? z
    rw [(List.mem_replicate.mp this).2] at this
    have z2 : (List.replicate r (none : Option Nat))[i]? = some (some u) := z
    rw [List.getElem?_replicate] at z2
    split at z2 <;> cases z2
  refine ⟨List.length_replicate, List.length_replicate, List.length_replicate, List.length_replicate, hr, hr, fun i u z => absurd z (gn i u), fun i j u z _ => absurd z (gn i u), fun u hu => ?_, fun u z => (by cases z), fun u z => (by cases z), List.nodup_nil, fun u z => (by cases z), fun u z => (by cases z), fun u hu z => absurd z (nr u hu), fun _ => rfl, fun u z => (by cases z), hq, hb⟩
  rw [pe u hu]
  exact ⟨wf_newP (by simp) (fun c hc => by rw [(List.mem_replicate.mp hc).2]; decide) (by decide) (by decide), .inl rfl⟩
/-! sizes -/
theorem dy_set {ds : List (List Ev)} (hx : h.diaries.set u x = ds) (hl : u < h.diaries.length) : ds.getD u [] = x := by subst hx; exact getD_set_self hl
theorem lm_event (w : Lm k h) (hu : u < h.ps.length) (hd : u < h.diaries.length) : Lm (k + 1) (eventT h u e) := fun v => by
  by_cases c : u = v
  · subst c
    constructor
    · rw [event_u hu]; have := paper_happen (pu h u) e; have := (w u).1; omega
    · unfold dy; rw [event_dia, getD_set_self hd, List.length_append]; have := (w u).2; simp; unfold dy at this ⊢; omega
  · constructor
    · rw [event_v c]; have := (w v).1; omega
    · unfold dy; rw [event_dia, getD_set_ne c]; have := (w v).2; unfold dy at this; omega
/-- an event happened to u alone: what else grows -/
theorem Lm.mono {k2 : Nat} (w : Lm k h) (hk : k ≤ k2) : Lm k2 h := fun v => ⟨Nat.le_trans (w v).1 hk, Nat.le_trans (w v).2 hk⟩
theorem lm_same {h' : Ho} (w : Lm k h) (e1 : h'.ps = h.ps) (e2 : h'.diaries = h.diaries) : Lm k h' := fun v => by unfold pu dy; rw [e1, e2]; exact w v
theorem lm_settle (w : Lm k h) : Lm k (settleT h) := by
  unfold settleT
  split
  · exact w
  · split
    · exact w
    · exact lm_same w (enter_same.ps) (enter_same.diaries)
end
/-! ### the house in the heap: a slot for each object -/
inductive Slot where
  | house | people | rooms | guests | kept | shelves | diaries | row
  | kr (i : Nat) | sr (u : Nat) | dr (u : Nat) | pr (u k : Nat)
  deriving DecidableEq
structure CC where
  h : Addr
  r : Addr
  m : Addr
  p : Addr
structure HA where
  ad : Slot → Addr
  dh : Addr
  drm : Addr
  dp : Nat → Addr
  dm : Nat → Addr
  cp : Nat → Addr
  dts : Nat → List Addr
  hsw : Int
  htn : Int
def okS (n r : Nat) : Slot → Prop
  | .kr i => i < r
  | .sr u => u < n
  | .dr u => u < n
  | .pr u k => u < n ∧ k < 10
  | _ => True
def nV (u : Nat) : V := .int (u : Int)
def gV : Option Nat → V
  | none => .non
  | some u => nV u
def paU (A : HA) (u : Nat) (c : Addr) : PA := ⟨A.ad (.pr u 0), A.dp u, A.ad (.pr u 1), A.dm u, c, A.ad (.pr u 2), A.ad (.pr u 3), A.ad (.pr u 4), A.ad (.pr u 5), [A.ad (.pr u 6), A.ad (.pr u 7), A.ad (.pr u 8), A.ad (.pr u 9)]⟩
def hfs (A : HA) (h : Ho) : List (Str × V) := [("people", .ref (A.ad .people)), ("places", .ref (A.ad .rooms)), ("quantum", .int h.quantum), ("beat", .int h.beat), ("diaries", .ref (A.ad .diaries)), ("runs", gV h.runs), ("row", .ref (A.ad .row)), ("steps", .int h.steps), ("idle", .int h.idle), ("ticks", .int h.ticks), ("swaps", .int A.hsw), ("turn", .int A.htn), ("left", .int h.left)]
def rfs (A : HA) (h : Ho) : List (Str × V) := [("guests", .ref (A.ad .guests)), ("kept", .ref (A.ad .kept)), ("shelves", .ref (A.ad .shelves)), ("turn", .int (h.turn : Int)), ("swaps", .int h.swaps)]
def zeros : List Int := List.replicate 64 0
def keptC (h : Ho) (i : Nat) : List Int := match h.guests[i]? with
  | some (some u) => cu h u
  | _ => zeros
def shelfC (h : Ho) (u : Nat) : List Int := if roomH h u = none then cu h u else h.stale.getD u []
def cont (c : CC) (n r : Nat) (A : HA) (h : Ho) : Slot → HO
  | .house => .ins c.h A.dh (hfs A h)
  | .people => .lst ((List.range n).map fun u => .ref (A.ad (.pr u 0)))
  | .rooms => .ins c.r A.drm (rfs A h)
  | .guests => .lst (h.guests.map gV)
  | .kept => .lst ((List.range r).map fun i => .ref (A.ad (.kr i)))
  | .shelves => .lst ((List.range n).map fun u => .ref (A.ad (.sr u)))
  | .diaries => .lst ((List.range n).map fun u => .ref (A.ad (.dr u)))
  | .row => .lst (h.row.map nV)
  | .kr i => .lst ((keptC h i).map V.int)
  | .sr u => .lst ((shelfC h u).map V.int)
  | .dr u => .lst ((A.dts u).map V.ref)
  | .pr u 0 => .ins c.p (A.dp u) (pfs (paU A u 0) (pu h u))
  | .pr u 1 => .ins c.m (A.dm u) (mfs (A.cp u) (pu h u).m)
  | .pr u 2 => .lst ((pu h u).inbox.map V.int)
  | .pr u 3 => .lst ((pu h u).outbox.map V.int)
  | .pr u 4 => .lst ((pu h u).paper.map V.int)
  | .pr u 5 => .lst [.ref (A.ad (.pr u 6)), .ref (A.ad (.pr u 7)), .ref (A.ad (.pr u 8)), .ref (A.ad (.pr u 9))]
  | .pr u (k + 6) => .lst (((pu h u).blocks.getD k []).map V.int)
def footH (n r : Nat) (A : HA) : FS := fun b => ∃ s, okS n r s ∧ A.ad s = b
structure HoAt (c : CC) (n r : Nat) (H : Hp) (A : HA) (h : Ho) : Prop where
  at_ : ∀ s, okS n r s → H (A.ad s) = some (cont c n r A h s)
  inj : ∀ s t, okS n r s → okS n r t → A.ad s = A.ad t → s = t
  dl : ∀ u, u < n → (A.dts u).length = (dy h u).length
  dt : ∀ u (i : Nat) a e, u < n → (A.dts u)[i]? = some a → (dy h u)[i]? = some e → H a = some (.tup (evV e))
section
variable {c : CC} {n r : Nat} {H H' H1 : Hp} {A A' : HA} {h h' : Ho} {s t : Slot} {o : HO} {u v : Nat} {F : FS} {b : Addr}
theorem cont_obj (c : CC) (n r : Nat) (A : HA) (h : Ho) (s : Slot) : (∃ C dx fs, cont c n r A h s = .ins C dx fs) ∨ ∃ xs, cont c n r A h s = .lst xs := by
  cases s with
  | house => exact .inl ⟨_, _, _, rfl⟩
  | rooms => exact .inl ⟨_, _, _, rfl⟩
  | pr u k =>
    match k with
    | 0 => exact .inl ⟨_, _, _, rfl⟩
    | 1 => exact .inl ⟨_, _, _, rfl⟩
    | 2 => exact .inr ⟨_, rfl⟩
    | 3 => exact .inr ⟨_, rfl⟩
    | 4 => exact .inr ⟨_, rfl⟩
    | 5 => exact .inr ⟨_, rfl⟩
    | k + 6 => exact .inr ⟨_, rfl⟩
  | _ => exact .inr ⟨_, rfl⟩
theorem HoAt.noT (x : HoAt c n r H A h) : ∀ b, footH n r A b → NoTup H b := fun b f => by
  obtain ⟨s, hs, rfl⟩ := f
  have e := x.at_ s hs
  rcases cont_obj c n r A h s with ⟨_, _, _, z⟩ | ⟨_, z⟩ <;> rw [z] at e
  · exact .ins e
  · exact .lst e
theorem HoAt.fa (x : HoAt c n r H A h) : FA (footH n r A) H := fun b f e => by
  obtain ⟨s, hs, rfl⟩ := f
  rw [x.at_ s hs] at e; cases e
theorem HoAt.ne (x : HoAt c n r H A h) (hs : okS n r s) (ht : okS n r t) (hn : s ≠ t) : A.ad s ≠ A.ad t := fun e => hn (x.inj s t hs ht e)
theorem HoAt.loc (x : HoAt c n r H A h) (k : ∀ b o, footH n r A b → H b = some o → H' b = some o) (ts : TpS H H') : HoAt c n r H' A h :=
  ⟨fun s hs => k _ _ ⟨s, hs, rfl⟩ (x.at_ s hs), x.inj, x.dl, fun u i a e hu h1 h2 => ts _ _ (x.dt u i a e hu h1 h2)⟩
theorem HoAt.same (x : HoAt c n r H A h) (s : Same H H') : HoAt c n r H' A h := x.loc (fun b o _ e => s b o e) (.same s)
/-- one object anew -/
theorem HoAt.put (x : HoAt c n r H A h) (s : Slot) (hs : okS n r s) (ea : A'.ad = A.ad) (es : cont c n r A' h' s = o) (ne : ∀ t, okS n r t → t ≠ s → cont c n r A' h' t = cont c n r A h t)
    (dl : ∀ u, u < n → (A'.dts u).length = (dy h' u).length) (dt : ∀ u (i : Nat) a e, u < n → (A'.dts u)[i]? = some a → (dy h' u)[i]? = some e → H a = some (.tup (evV e))) : HoAt c n r (upd H (A.ad s) o) A' h' ∧ Mv (footH n r A) H (footH n r A') (upd H (A.ad s) o) := by
  have nt := x.noT _ ⟨s, hs, rfl⟩
  refine ⟨⟨fun t ht => ?_, fun s t hs ht e => x.inj s t hs ht (by rw [← ea]; exact e), dl, fun u i a e hu h1 h2 => ?_⟩, fun b u nb e => ?_, fun b f => .inl ?_⟩
  · rw [ea]
    by_cases q : t = s
    · subst q; rw [upd_same, es]
    · rw [upd_ne (x.ne ht hs q), ne t ht q]; exact x.at_ t ht
  · have h3 := dt u i a e hu h1 h2
    rw [upd_ne (fun q => nt.a _ (q ▸ h3))]; exact h3
  · rw [upd_ne (fun q => nb (by rw [q]; exact ⟨s, hs, rfl⟩))]; exact e
  · obtain ⟨t, ht, e⟩ := f
    exact ⟨t, ht, by rw [← ea]; exact e⟩
/-- a fresh object for a slot that a list tells -/
def withAd (A : HA) (s : Slot) (q : Addr) : HA := { A with ad := fun t => if t = s then q else A.ad t }
theorem withAd_s {q : Addr} : (withAd A s q).ad s = q := by unfold withAd; simp
theorem withAd_ne {q : Addr} (hn : t ≠ s) : (withAd A s q).ad t = A.ad t := by unfold withAd; simp [hn]
/-! readings -/
structure HTx (K : PySem.W.Frag) (C : Addr) : Prop where
  cl : Cls K C
  no : ∀ f : Str, f ∈ (["people", "places", "quantum", "beat", "diaries", "runs", "row", "steps", "idle", "ticks", "swaps", "turn", "left"] : List Str) → NoAttr K C f
structure RTx (K : PySem.W.Frag) (C : Addr) : Prop where
  cl : Cls K C
  no : ∀ f : Str, f ∈ (["guests", "kept", "shelves", "turn", "swaps"] : List Str) → NoAttr K C f
end
section
variable {c : CC} {n r : Nat} {H H' H1 : Hp} {A A' : HA} {h h' : Ho} {K : PySem.W.Frag} {σ : L2.St} {ta tv ti : TE} {N : L2.St → Hp → Prop} {R : VK} {B C' : L2.St → Hp → Prop} {tz : TS} {z : Int} {f : Str} {w v : V} {u : Nat}
theorem vh_ (T : HTx K c.h) (x : HoAt c n r H A h) (ha : Val ta σ H (.ref (A.ad .house))) (hf : (hfs A h).lookup f = some w) (hm : f ∈ (["people", "places", "quantum", "beat", "diaries", "runs", "row", "steps", "idle", "ticks", "swaps", "turn", "left"] : List Str) := by simp) : Val (tFld K ta f) σ H w := val_fld ha (x.at_ .house trivial) T.cl (T.no f hm) hf
theorem vr_ (T : RTx K c.r) (x : HoAt c n r H A h) (ha : Val ta σ H (.ref (A.ad .rooms))) (hf : (rfs A h).lookup f = some w) (hm : f ∈ (["guests", "kept", "shelves", "turn", "swaps"] : List Str) := by simp) : Val (tFld K ta f) σ H w := val_fld ha (x.at_ .rooms trivial) T.cl (T.no f hm) hf
theorem hl_people : (hfs A h).lookup ("people" : Str) = some (.ref (A.ad .people)) := by kernel_rfl
theorem hl_places : (hfs A h).lookup ("places" : Str) = some (.ref (A.ad .rooms)) := by kernel_rfl
theorem hl_quantum : (hfs A h).lookup ("quantum" : Str) = some (.int h.quantum) := by kernel_rfl
theorem hl_beat : (hfs A h).lookup ("beat" : Str) = some (.int h.beat) := by kernel_rfl
theorem hl_diaries : (hfs A h).lookup ("diaries" : Str) = some (.ref (A.ad .diaries)) := by kernel_rfl
theorem hl_runs : (hfs A h).lookup ("runs" : Str) = some (gV h.runs) := by kernel_rfl
theorem hl_row : (hfs A h).lookup ("row" : Str) = some (.ref (A.ad .row)) := by kernel_rfl
theorem hl_steps : (hfs A h).lookup ("steps" : Str) = some (.int h.steps) := by kernel_rfl
theorem hl_idle : (hfs A h).lookup ("idle" : Str) = some (.int h.idle) := by kernel_rfl
theorem hl_ticks : (hfs A h).lookup ("ticks" : Str) = some (.int h.ticks) := by kernel_rfl
theorem hl_swaps : (hfs A h).lookup ("swaps" : Str) = some (.int A.hsw) := by kernel_rfl
theorem hl_turn : (hfs A h).lookup ("turn" : Str) = some (.int A.htn) := by kernel_rfl
theorem hl_left : (hfs A h).lookup ("left" : Str) = some (.int h.left) := by kernel_rfl
theorem rl_guests : (rfs A h).lookup ("guests" : Str) = some (.ref (A.ad .guests)) := by kernel_rfl
theorem rl_kept : (rfs A h).lookup ("kept" : Str) = some (.ref (A.ad .kept)) := by kernel_rfl
theorem rl_shelves : (rfs A h).lookup ("shelves" : Str) = some (.ref (A.ad .shelves)) := by kernel_rfl
theorem rl_turn : (rfs A h).lookup ("turn" : Str) = some (.int (h.turn : Int)) := by kernel_rfl
theorem rl_swaps : (rfs A h).lookup ("swaps" : Str) = some (.int h.swaps) := by kernel_rfl
theorem hp_steps : putF "steps" (.int z) (hfs A h) = hfs A { h with steps := z } := by kernel_rfl
theorem hp_idle : putF "idle" (.int z) (hfs A h) = hfs A { h with idle := z } := by kernel_rfl
theorem hp_ticks : putF "ticks" (.int z) (hfs A h) = hfs A { h with ticks := z } := by kernel_rfl
theorem hp_left : putF "left" (.int z) (hfs A h) = hfs A { h with left := z } := by kernel_rfl
theorem hp_runs {g : Option Nat} : putF "runs" (gV g) (hfs A h) = hfs A { h with runs := g } := by kernel_rfl
theorem hp_swaps : putF "swaps" (.int z) (hfs A h) = hfs { A with hsw := z } h := by kernel_rfl
theorem hp_turn : putF "turn" (.int z) (hfs A h) = hfs { A with htn := z } h := by kernel_rfl
theorem rp_turn {m : Nat} : putF "turn" (.int (m : Int)) (rfs A h) = rfs A { h with turn := m } := by kernel_rfl
theorem rp_swaps : putF "swaps" (.int z) (rfs A h) = rfs A { h with swaps := z } := by kernel_rfl
/-- the same addresses: what a def at the house leaves -/
abbrev HNx (c : CC) (n r : Nat) (H : Hp) (A : HA) (h' : Ho) (G : Hp → Prop) : Prop := ∀ A' H', A'.ad .house = A.ad .house → A'.ad .rooms = A.ad .rooms → A'.hsw = A.hsw → A'.htn = A.htn → HoAt c n r H' A' h' → Mv (footH n r A) H (footH n r A') H' → G H'
/-- a field of the house, of the rooms -/
theorem sh_ (T : HTx K c.h) (x : HoAt c n r H A h) (A' : HA) (h' : Ho) (hv : Val tv σ H v) (ha : Val ta σ H (.ref (A.ad .house))) (ea : A'.ad = A.ad) (hp : putF f v (hfs A h) = hfs A' h') (e1 : A'.dh = A.dh) (ne : ∀ t, okS n r t → t ≠ .house → cont c n r A' h' t = cont c n r A h t) (ed : A'.dts = A.dts) (ey : h'.diaries = h.diaries)
    (q : ∀ H', HoAt c n r H' A' h' → Mv (footH n r A) H (footH n r A') H' → N σ H') (hm : f ∈ (["people", "places", "quantum", "beat", "diaries", "runs", "row", "steps", "idle", "ticks", "swaps", "turn", "left"] : List Str) := by simp) : sFld K ta tv f ⟨N, R, B, C'⟩ σ H :=
  st_fld hv ha (x.at_ .house trivial) T.cl (T.no f hm) (by show 13 < 1000; decide) (by
    rw [hp]
    obtain ⟨a, b⟩ := x.put (A' := A') (h' := h') (o := .ins c.h A.dh (hfs A' h')) .house trivial ea (by show HO.ins c.h A'.dh _ = _; rw [e1]) ne (fun u hu => by rw [ed]; unfold dy; rw [ey]; exact x.dl u hu) (fun u i a e hu h1 h2 => x.dt u i a e hu (by rw [← ed]; exact h1) (by unfold dy at h2 ⊢; rw [← ey]; exact h2))
    exact q _ a b)
theorem sr_ (T : RTx K c.r) (x : HoAt c n r H A h) (h' : Ho) (hv : Val tv σ H v) (ha : Val ta σ H (.ref (A.ad .rooms))) (hp : putF f v (rfs A h) = rfs A h') (ne : ∀ t, okS n r t → t ≠ .rooms → cont c n r A h' t = cont c n r A h t) (ey : h'.diaries = h.diaries)
    (q : ∀ H', HoAt c n r H' A h' → Mv (footH n r A) H (footH n r A) H' → N σ H') (hm : f ∈ (["guests", "kept", "shelves", "turn", "swaps"] : List Str) := by simp) : sFld K ta tv f ⟨N, R, B, C'⟩ σ H :=
  st_fld hv ha (x.at_ .rooms trivial) T.cl (T.no f hm) (by show 5 < 1000; decide) (by
    rw [hp]
    obtain ⟨a, b⟩ := x.put (A' := A) (h' := h') (o := .ins c.r A.drm (rfs A h')) .rooms trivial rfl rfl ne (fun u hu => by unfold dy; rw [ey]; exact x.dl u hu) (fun u i a e hu h1 h2 => x.dt u i a e hu h1 (by unfold dy at h2 ⊢; rw [← ey]; exact h2))
    exact q _ a b)
/-- an int of the house -/
theorem shi_ (T : HTx K c.h) (x : HoAt c n r H A h) (h' : Ho) (hv : Val tv σ H (.int z)) (ha : Val ta σ H (.ref (A.ad .house))) (hp : putF f (.int z) (hfs A h) = hfs A h') (ne : ∀ t, t ≠ .house → cont c n r A h' t = cont c n r A h t) (ey : h'.diaries = h.diaries)
    (q : ∀ H', HoAt c n r H' A h' → Mv (footH n r A) H (footH n r A) H' → N σ H') (hm : f ∈ (["people", "places", "quantum", "beat", "diaries", "runs", "row", "steps", "idle", "ticks", "swaps", "turn", "left"] : List Str) := by simp) : sFld K ta tv f ⟨N, R, B, C'⟩ σ H :=
  sh_ T x A h' hv ha rfl hp rfl (fun t _ ht => ne t ht) rfl ey q hm
theorem qh_ (T : HTx K c.h) (x : HoAt c n r H A h) (A' : HA) (h' : Ho) (hv : Val tv σ H v) (ha : Val ta σ H (.ref (A.ad .house))) (ea : A'.ad = A.ad) (hp : putF f v (hfs A h) = hfs A' h') (e1 : A'.dh = A.dh) (ne : ∀ t, okS n r t → t ≠ .house → cont c n r A' h' t = cont c n r A h t) (ed : A'.dts = A.dts) (ey : h'.diaries = h.diaries)
    (q : ∀ H', HoAt c n r H' A' h' → Mv (footH n r A) H (footH n r A') H' → tz ⟨N, R, B, C'⟩ σ H') (hm : f ∈ (["people", "places", "quantum", "beat", "diaries", "runs", "row", "steps", "idle", "ticks", "swaps", "turn", "left"] : List Str) := by simp) : tSeq (sFld K ta tv f) tz ⟨N, R, B, C'⟩ σ H := sh_ (N := tz ⟨N, R, B, C'⟩) (B := B) (C' := C') T x A' h' hv ha ea hp e1 ne ed ey q hm
theorem qr_ (T : RTx K c.r) (x : HoAt c n r H A h) (h' : Ho) (hv : Val tv σ H v) (ha : Val ta σ H (.ref (A.ad .rooms))) (hp : putF f v (rfs A h) = rfs A h') (ne : ∀ t, okS n r t → t ≠ .rooms → cont c n r A h' t = cont c n r A h t) (ey : h'.diaries = h.diaries)
    (q : ∀ H', HoAt c n r H' A h' → Mv (footH n r A) H (footH n r A) H' → tz ⟨N, R, B, C'⟩ σ H') (hm : f ∈ (["guests", "kept", "shelves", "turn", "swaps"] : List Str) := by simp) : tSeq (sFld K ta tv f) tz ⟨N, R, B, C'⟩ σ H := sr_ (N := tz ⟨N, R, B, C'⟩) (B := B) (C' := C') T x h' hv ha hp ne ey q hm
end
/-! ### the house's defs: what they leave -/
def CCk (K : PySem.W.Frag) : CC := ⟨He.ga K "House", He.ga K "Rooms", He.ga K "Machine", He.ga K "Person"⟩
/-- the house's own turn and swaps are the rooms' -/
structure Syn (A : HA) (h : Ho) : Prop where
  sw : A.hsw = h.swaps
  tn : A.htn = (h.turn : Int)
structure SameA (A A' : HA) : Prop where
  h : A'.ad .house = A.ad .house
  r : A'.ad .rooms = A.ad .rooms
  sw : A'.hsw = A.hsw
  tn : A'.htn = A.htn
theorem SameA.refl {A : HA} : SameA A A := ⟨rfl, rfl, rfl, rfl⟩
theorem SameA.trans {A B C : HA} (a : SameA A B) (b : SameA B C) : SameA A C := ⟨b.h.trans a.h, b.r.trans a.r, b.sw.trans a.sw, b.tn.trans a.tn⟩
abbrev HNx0 (c : CC) (n r : Nat) (H : Hp) (A : HA) (h' : Ho) (G : Hp → Prop) : Prop := ∀ A' H', SameA A A' → HoAt c n r H' A' h' → Mv (footH n r A) H (footH n r A') H' → G H'
abbrev HNy (c : CC) (n r : Nat) (H : Hp) (A : HA) (h' : Ho) (G : Hp → Prop) : Prop := ∀ A' H', A'.ad .house = A.ad .house → Syn A' h' → HoAt c n r H' A' h' → Mv (footH n r A) H (footH n r A') H' → G H'
def csl (h : Ho) (u : Nat) : Slot := match roomH h u with
  | some i => .kr i
  | none => .sr u
section
variable {c : CC} {n r : Nat} {H H' H1 : Hp} {A A' : HA} {h h' : Ho} {s t : Slot} {o : HO} {u v k : Nat} {F : FS} {b q : Addr} {e : Ev}
theorem csl_some {i : Nat} (hr : roomH h u = some i) : csl h u = .kr i := by unfold csl; rw [hr]
theorem csl_none (hr : roomH h u = none) : csl h u = .sr u := by unfold csl; rw [hr]
theorem room_at {i : Nat} (hr : roomH h u = some i) : h.guests[i]? = some (some u) := roomN_some hr
theorem room_lt {i : Nat} (w : WfH n r h) (hr : roomH h u = some i) : i < r := by
  have := (List.getElem?_eq_some_iff.mp (room_at hr)).1
  rw [w.lg] at this; exact this
theorem csl_ok (w : WfH n r h) (hu : u < n) : okS n r (csl h u) := by
  cases hr : roomH h u with
  | none => rw [csl_none hr]; exact hu
  | some i => rw [csl_some hr]; exact room_lt w hr
theorem cont_csl (c : CC) (n r : Nat) (A : HA) (h : Ho) (u : Nat) : cont c n r A h (csl h u) = .lst ((cu h u).map V.int) := by
  cases hr : roomH h u with
  | none => rw [csl_none hr]; show HO.lst ((shelfC h u).map V.int) = _; unfold shelfC; rw [if_pos hr]
  | some i => rw [csl_some hr]; show HO.lst ((keptC h i).map V.int) = _; unfold keptC; rw [room_at hr]
theorem csl_pr {k : Nat} : csl h u ≠ .pr v k := by unfold csl; split <;> intro e <;> cases e
/-- the first place of a guest -/
theorem roomN_first {gs : List (Option Nat)} {i : Nat} (hi : gs[i]? = some (some u)) (hn : ∀ j : Nat, j < i → gs[j]? ≠ some (some u)) : roomN gs u = some i := by
  unfold roomN
  obtain ⟨h1, h2⟩ := List.getElem?_eq_some_iff.mp hi
  refine List.findIdx?_eq_some_iff_getElem.mpr ⟨h1, by rw [h2]; exact beq_self_eq_true _, fun j hj => ?_⟩
  have hj2 : j < gs.length := by omega
  have := hn j hj
  rw [List.getElem?_eq_getElem hj2] at this
  intro z
  exact this (congrArg some (beq_iff_eq.mp z))
theorem roomN_no {gs : List (Option Nat)} (hn : ∀ j : Nat, gs[j]? ≠ some (some u)) : roomN gs u = none := by
  unfold roomN
  refine List.findIdx?_eq_none_iff.mpr fun x hx => ?_
  obtain ⟨j, hj⟩ := List.getElem?_of_mem hx
  cases x with
  | none => rfl
  | some v =>
    by_cases e : v = u
    · subst e; exact absurd hj (hn j)
    · simp [e]
theorem nd_ad (inj : ∀ s t, okS n r s → okS n r t → A.ad s = A.ad t → s = t) : ∀ (l : List Slot), l.Nodup → (∀ s ∈ l, okS n r s) → (l.map A.ad).Nodup
  | [], _, _ => List.nodup_nil
  | s :: l, hd, ho => by
    obtain ⟨h1, h2⟩ := List.nodup_cons.mp hd
    refine List.nodup_cons.mpr ⟨fun hm => ?_, nd_ad inj l h2 fun t ht => ho t (List.mem_cons_of_mem _ ht)⟩
    obtain ⟨t, ht, e⟩ := List.mem_map.mp hm
    have := inj t s (ho t (List.mem_cons_of_mem _ ht)) (ho s List.mem_cons_self) e
    exact h1 (this ▸ ht)
def pSlots (h : Ho) (u : Nat) : List Slot := [.pr u 0, .pr u 1, csl h u, .pr u 2, .pr u 3, .pr u 4, .pr u 5, .pr u 6, .pr u 7, .pr u 8, .pr u 9]
theorem pSlots_ok (w : WfH n r h) (hu : u < n) : ∀ s ∈ pSlots h u, okS n r s := by
  intro s hs
  have := csl_ok w hu
  simp only [pSlots, List.mem_cons, List.not_mem_nil, or_false] at hs
  rcases hs with rfl | rfl | rfl | rfl | rfl | rfl | rfl | rfl | rfl | rfl | rfl <;> first | exact this | exact ⟨hu, by decide⟩
theorem pSlots_nd : (pSlots h u).Nodup := by
  have e : ∀ k, csl h u ≠ .pr u k := fun k => csl_pr
  have e' : ∀ k, Slot.pr u k ≠ csl h u := fun k z => csl_pr z.symm
  simp [pSlots, List.nodup_cons, e, e', Slot.pr.injEq]
theorem foot_pa (A : HA) (h : Ho) (u : Nat) : (paU A u (A.ad (csl h u))).foot = (pSlots h u).map A.ad := rfl
/-- the user u as it stands, when its machine points at its cells -/
theorem HoAt.pat (x : HoAt c n r H A h) (w : WfH n r h) (hu : u < n) (hc : A.cp u = A.ad (csl h u)) : PAt c.m c.p H (paU A u (A.ad (csl h u))) (pu h u) := by
  have ok := csl_ok w hu
  have wp := (w.pw u hu).1
  refine ⟨x.at_ (.pr u 0) ⟨hu, by decide⟩, ?_, ?_, x.at_ (.pr u 2) ⟨hu, by decide⟩, x.at_ (.pr u 3) ⟨hu, by decide⟩, x.at_ (.pr u 4) ⟨hu, by decide⟩, x.at_ (.pr u 5) ⟨hu, by decide⟩, fun i a ha => ?_, rfl, ?_⟩
  · have := x.at_ (.pr u 1) ⟨hu, by decide⟩
    refine this.trans ?_
    show some (HO.ins c.m (A.dm u) (mfs (A.cp u) (pu h u).m)) = _
    rw [hc]; rfl
  · have := x.at_ (csl h u) ok
    rw [cont_csl] at this
    exact this
  · have hb : ∀ k, k < 4 → ∃ ws, (pu h u).blocks[k]? = some ws ∧ H (A.ad (.pr u (k + 6))) = some (.lst (ws.map V.int)) := fun k hk => by
      refine ⟨_, (block_in wp hk).1, x.at_ (.pr u (k + 6)) ⟨hu, by omega⟩⟩
    match i, ha with
    | 0, ha => cases ha; exact hb 0 (by decide)
    | 1, ha => cases ha; exact hb 1 (by decide)
    | 2, ha => cases ha; exact hb 2 (by decide)
    | 3, ha => cases ha; exact hb 3 (by decide)
    | i + 4, ha => cases ha
  · rw [foot_pa]; exact nd_ad x.inj _ pSlots_nd (pSlots_ok w hu)
/-- contents that a change of user u does not touch -/
theorem cont_other {P : Pn} (w : WfH n r h) (hu : u < n) (hs : okS n r s) (ns : s ∉ pSlots h u) (A : HA) : cont c n r A { h with ps := h.ps.set u P } s = cont c n r A h s := by
  have pv : ∀ v, u ≠ v → pu { h with ps := h.ps.set u P } v = pu h v := fun v hv => pu_ne hv
  cases s with
  | kr i =>
    show HO.lst ((keptC { h with ps := h.ps.set u P } i).map V.int) = HO.lst ((keptC h i).map V.int)
    unfold keptC
    show HO.lst (List.map V.int (match h.guests[i]? with | some (some u_1) => cu { h with ps := h.ps.set u P } u_1 | _ => zeros)) = _
    cases hg : h.guests[i]? with
    | none => rfl
    | some g =>
      cases g with
      | none => rfl
      | some v =>
        by_cases c : u = v
        · subst c
          exfalso
          refine ns ?_
          cases hr : roomH h u with
          | none => exact absurd hg (roomN_none hr i)
          | some j =>
            have := w.gi i j u hg (room_at hr)
            subst this
            unfold pSlots
            rw [csl_some hr]; simp
        · show HO.lst ((cu { h with ps := h.ps.set u P } v).map V.int) = HO.lst ((cu h v).map V.int)
          unfold cu; rw [pv v c]
  | sr v =>
    show HO.lst ((shelfC { h with ps := h.ps.set u P } v).map V.int) = HO.lst ((shelfC h v).map V.int)
    unfold shelfC
    show HO.lst (List.map V.int (if roomH h v = none then cu { h with ps := h.ps.set u P } v else h.stale.getD v [])) = _
    split
    · rename_i hr
      by_cases c : u = v
      · subst c
        exfalso
        refine ns ?_
        unfold pSlots
        rw [csl_none hr]; simp
      · unfold cu; rw [pv v c]
    · rfl
  | pr v k =>
    by_cases c : u = v
    · subst c
      exfalso
      obtain ⟨_, hk⟩ := hs
      refine ns ?_
      unfold pSlots
      match k, hk with
      | 0, _ => simp
      | 1, _ => simp
      | 2, _ => simp
      | 3, _ => simp
      | 4, _ => simp
      | 5, _ => simp
      | 6, _ => simp
      | 7, _ => simp
      | 8, _ => simp
      | 9, _ => simp
      | k + 10, hk => omega
    · match k with
      | 0 => show HO.ins _ _ (pfs _ (pu { h with ps := h.ps.set u P } v)) = HO.ins _ _ (pfs _ (pu h v)); rw [pv v c]
      | 1 => show HO.ins _ _ (mfs _ (pu { h with ps := h.ps.set u P } v).m) = HO.ins _ _ (mfs _ (pu h v).m); rw [pv v c]
      | 2 => show HO.lst ((pu { h with ps := h.ps.set u P } v).inbox.map V.int) = HO.lst ((pu h v).inbox.map V.int); rw [pv v c]
      | 3 => show HO.lst ((pu { h with ps := h.ps.set u P } v).outbox.map V.int) = HO.lst ((pu h v).outbox.map V.int); rw [pv v c]
      | 4 => show HO.lst ((pu { h with ps := h.ps.set u P } v).paper.map V.int) = HO.lst ((pu h v).paper.map V.int); rw [pv v c]
      | 5 => rfl
      | k + 6 => show HO.lst (((pu { h with ps := h.ps.set u P } v).blocks.getD k []).map V.int) = HO.lst (((pu h v).blocks.getD k []).map V.int); rw [pv v c]
  | _ => rfl
/-- user u changed as it stands alone -/
theorem HoAt.person {P : Pn} (x : HoAt c n r H A h) (w : WfH n r h) (hu : u < n) (hc : A.cp u = A.ad (csl h u)) (hP : PAt c.m c.p H' (paU A u (A.ad (csl h u))) P) (f : Fr (paU A u (A.ad (csl h u))).foot H H') : HoAt c n r H' A { h with ps := h.ps.set u P } ∧ Mv (footH n r A) H (footH n r A) H' := by
  have hul : u < h.ps.length := by rw [w.lp]; exact hu
  have pe : pu { h with ps := h.ps.set u P } u = P := pu_set hul
  have sub : ∀ b ∈ (paU A u (A.ad (csl h u))).foot, footH n r A b := fun b hb => by
    rw [foot_pa] at hb
    obtain ⟨s, hs, rfl⟩ := List.mem_map.mp hb
    exact ⟨s, pSlots_ok w hu s hs, rfl⟩
  refine ⟨⟨fun s hs => ?_, x.inj, x.dl, fun v i a e hv h1 h2 => ?_⟩, ⟨fun b o nb e => f b o (fun hm => nb (sub b hm)) e, fun b fb => .inl fb⟩⟩
  · by_cases hm : s ∈ pSlots h u
    · have hcs : (cu { h with ps := h.ps.set u P } u) = P.m.cells := by unfold cu; rw [pe]
      simp only [pSlots, List.mem_cons, List.not_mem_nil, or_false] at hm
      have blk : ∀ k, k < 4 → H' (A.ad (.pr u (k + 6))) = some (.lst ((P.blocks.getD k []).map V.int)) := fun k hk => by
        have : ∃ a, (paU A u (A.ad (csl h u))).bs[k]? = some a ∧ a = A.ad (.pr u (k + 6)) := by
          match k, hk with
          | 0, _ => exact ⟨_, rfl, rfl⟩
          | 1, _ => exact ⟨_, rfl, rfl⟩
          | 2, _ => exact ⟨_, rfl, rfl⟩
          | 3, _ => exact ⟨_, rfl, rfl⟩
          | k + 4, hk => omega
        obtain ⟨a, ha, rfl⟩ := this
        obtain ⟨ws, w1, w2⟩ := hP.hbs k _ ha
        rw [w2, List.getD_eq_getElem?_getD, w1]; rfl
      rcases hm with rfl | rfl | rfl | rfl | rfl | rfl | rfl | rfl | rfl | rfl | rfl
      · show _ = some (HO.ins c.p (A.dp u) (pfs (paU A u 0) (pu { h with ps := h.ps.set u P } u))); rw [pe]; exact hP.hp
      · show _ = some (HO.ins c.m (A.dm u) (mfs (A.cp u) (pu { h with ps := h.ps.set u P } u).m)); rw [pe, hc]; exact hP.hm
      · refine (show H' (A.ad (csl h u)) = some _ from hP.hc).trans ?_
        have := cont_csl c n r A { h with ps := h.ps.set u P } u
        rw [hcs] at this
        exact congrArg some this.symm
      · show _ = some (HO.lst ((pu { h with ps := h.ps.set u P } u).inbox.map V.int)); rw [pe]; exact hP.hi
      · show _ = some (HO.lst ((pu { h with ps := h.ps.set u P } u).outbox.map V.int)); rw [pe]; exact hP.ho
      · show _ = some (HO.lst ((pu { h with ps := h.ps.set u P } u).paper.map V.int)); rw [pe]; exact hP.hq
      · exact hP.hb
      · show _ = some (HO.lst (((pu { h with ps := h.ps.set u P } u).blocks.getD 0 []).map V.int)); rw [pe]; exact blk 0 (by decide)
      · show _ = some (HO.lst (((pu { h with ps := h.ps.set u P } u).blocks.getD 1 []).map V.int)); rw [pe]; exact blk 1 (by decide)
      · show _ = some (HO.lst (((pu { h with ps := h.ps.set u P } u).blocks.getD 2 []).map V.int)); rw [pe]; exact blk 2 (by decide)
      · show _ = some (HO.lst (((pu { h with ps := h.ps.set u P } u).blocks.getD 3 []).map V.int)); rw [pe]; exact blk 3 (by decide)
    · rw [cont_other w hu hs hm]
      refine f _ _ (fun hf => ?_) (x.at_ s hs)
      rw [foot_pa] at hf
      obtain ⟨t, ht, e⟩ := List.mem_map.mp hf
      exact hm (x.inj t s (pSlots_ok w hu t ht) hs e ▸ ht)
  · have h3 := x.dt v i a e hv h1 h2
    exact f _ _ (fun hm => (x.noT a (sub a hm)).a _ h3) h3
def setCp (A : HA) (u : Nat) (q : Addr) : HA := { A with cp := fun v => if v = u then q else A.cp v }
theorem cont_cp {q : Addr} (hn : s ≠ .pr u 1) : cont c n r (setCp A u q) h s = cont c n r A h s := by
  cases s with
  | pr v k =>
    match k with
    | 1 => show HO.ins _ _ (mfs (if v = u then q else A.cp v) _) = HO.ins _ _ (mfs (A.cp v) _); rw [if_neg (fun e => hn (by rw [e]))]; rfl
    | 0 => rfl
    | 2 => rfl
    | 3 => rfl
    | 4 => rfl
    | 5 => rfl
    | k + 6 => rfl
  | _ => rfl
/-- the machine points at the user's cells -/
theorem HoAt.point (x : HoAt c n r H A h) (hu : u < n) (q : Addr) : HoAt c n r (upd H (A.ad (.pr u 1)) (.ins c.m (A.dm u) (mfs q (pu h u).m))) (setCp A u q) h ∧ Mv (footH n r A) H (footH n r (setCp A u q)) (upd H (A.ad (.pr u 1)) (.ins c.m (A.dm u) (mfs q (pu h u).m))) :=
  x.put (A' := setCp A u q) (h' := h) (.pr u 1) ⟨hu, by decide⟩ rfl (by show HO.ins c.m (A.dm u) (mfs (if u = u then q else A.cp u) _) = _; rw [if_pos rfl]) (fun t _ ht => cont_cp ht) x.dl x.dt
def addDt (A : HA) (u : Nat) (a : Addr) : HA := { A with dts := fun v => if v = u then A.dts u ++ [a] else A.dts v }
theorem HoAt.diary {a : Addr} (x : HoAt c n r H A h) (hd : u < h.diaries.length) (hu : u < n) (ha : H a = some (.tup (evV e))) : HoAt c n r (upd H (A.ad (.dr u)) (.lst ((A.dts u).map V.ref ++ [.ref a]))) (addDt A u a) { h with diaries := h.diaries.set u (dy h u ++ [e]) } ∧ Mv (footH n r A) H (footH n r (addDt A u a)) (upd H (A.ad (.dr u)) (.lst ((A.dts u).map V.ref ++ [.ref a]))) := by
  have du : dy { h with diaries := h.diaries.set u (dy h u ++ [e]) } u = dy h u ++ [e] := getD_set_self hd
  have dv : ∀ v, u ≠ v → dy { h with diaries := h.diaries.set u (dy h u ++ [e]) } v = dy h v := fun v hv => getD_set_ne hv
  have tu : (addDt A u a).dts u = A.dts u ++ [a] := by unfold addDt; simp
  have tv : ∀ v, u ≠ v → (addDt A u a).dts v = A.dts v := fun v hv => by unfold addDt; simp [Ne.symm hv]
  refine x.put (A' := addDt A u a) (.dr u) hu rfl (by show HO.lst (((addDt A u a).dts u).map V.ref) = _; rw [tu, List.map_append]; rfl) (fun t _ ht => ?_) (fun v hv => ?_) (fun v i b ev hv h1 h2 => ?_)
  · cases t with
    | dr v => show HO.lst (((addDt A u a).dts v).map V.ref) = HO.lst ((A.dts v).map V.ref); rw [tv v (fun e => ht (by rw [e]))]
    | pr v k =>
      match k with
      | 0 => rfl
      | 1 => rfl
      | 2 => rfl
      | 3 => rfl
      | 4 => rfl
      | 5 => rfl
      | k + 6 => rfl
    | _ => rfl
  · by_cases q : u = v
    · subst q; rw [tu, du, List.length_append, List.length_append, x.dl u hv]; rfl
    · rw [tv v q, dv v q]; exact x.dl v hv
  · by_cases q : u = v
    · subst q
      rw [tu] at h1
      rw [du] at h2
      by_cases hi : i < (A.dts u).length
      · rw [List.getElem?_append_left hi] at h1
        rw [List.getElem?_append_left (by rw [← x.dl u hv]; exact hi)] at h2
        exact x.dt u i b ev hv h1 h2
      · have hi2 := (List.getElem?_eq_some_iff.mp h1).1
        rw [List.length_append] at hi2
        have e0 : i = (A.dts u).length := by simp at hi2; omega
        subst e0
        rw [List.getElem?_append_right (Nat.le_refl _), Nat.sub_self] at h1
        rw [x.dl u hv, List.getElem?_append_right (Nat.le_refl _), Nat.sub_self] at h2
        cases h1; cases h2
        exact ha
    · rw [tv v q] at h1
      rw [dv v q] at h2
      exact x.dt v i b ev hv h1 h2
theorem cont_row {g : List Nat} (hn : s ≠ .row) : cont c n r A { h with row := g } s = cont c n r A h s := by
  cases s with
  | row => exact absurd rfl hn
  | pr v k =>
    match k with
    | 0 => rfl
    | 1 => rfl
    | 2 => rfl
    | 3 => rfl
    | 4 => rfl
    | 5 => rfl
    | k + 6 => rfl
  | _ => rfl
theorem HoAt.setRow (x : HoAt c n r H A h) (g : List Nat) : HoAt c n r (upd H (A.ad .row) (.lst (g.map nV))) A { h with row := g } ∧ Mv (footH n r A) H (footH n r A) (upd H (A.ad .row) (.lst (g.map nV))) :=
  x.put (A' := A) .row trivial rfl rfl (fun t _ ht => cont_row ht) x.dl x.dt
theorem cont_house (hs : s ≠ .house) {h' : Ho} (e : h'.ps = h.ps ∧ h'.guests = h.guests ∧ h'.stale = h.stale ∧ h'.turn = h.turn ∧ h'.swaps = h.swaps ∧ h'.row = h.row) (ea : A'.ad = A.ad ∧ A'.drm = A.drm ∧ A'.dp = A.dp ∧ A'.dm = A.dm ∧ A'.cp = A.cp ∧ A'.dts = A.dts) : cont c n r A' h' s = cont c n r A h s := by
  obtain ⟨e1, e2, e3, e4, e5, e6⟩ := e
  obtain ⟨a1, a2, a3, a4, a5, a6⟩ := ea
  have p : ∀ v, pu h' v = pu h v := fun v => by unfold pu; rw [e1]
  have pa : ∀ v, paU A' v 0 = paU A v 0 := fun v => by unfold paU; rw [a1, a3, a4]
  cases s with
  | house => exact absurd rfl hs
  | people => show HO.lst _ = HO.lst _; rw [a1]
  | rooms => show HO.ins c.r A'.drm (rfs A' h') = HO.ins c.r A.drm (rfs A h); unfold rfs; rw [a1, a2, e4, e5]
  | guests => show HO.lst _ = HO.lst _; rw [e2]
  | kept => show HO.lst _ = HO.lst _; rw [a1]
  | shelves => show HO.lst _ = HO.lst _; rw [a1]
  | diaries => show HO.lst _ = HO.lst _; rw [a1]
  | row => show HO.lst _ = HO.lst _; rw [e6]
  | kr i => show HO.lst ((keptC h' i).map V.int) = HO.lst ((keptC h i).map V.int); unfold keptC cu; rw [e2]; split <;> (try rw [p]) <;> rfl
  | sr v => show HO.lst ((shelfC h' v).map V.int) = HO.lst ((shelfC h v).map V.int); unfold shelfC roomH cu; rw [e2, e3, p]
  | dr v => show HO.lst _ = HO.lst _; rw [a6]
  | pr v k =>
    match k with
    | 0 => show HO.ins _ _ (pfs _ _) = HO.ins _ _ (pfs _ _); rw [p, a3, pa]
    | 1 => show HO.ins _ _ (mfs _ _) = HO.ins _ _ (mfs _ _); rw [p, a4, a5]
    | 2 => show HO.lst ((pu h' v).inbox.map V.int) = HO.lst ((pu h v).inbox.map V.int); rw [p]
    | 3 => show HO.lst ((pu h' v).outbox.map V.int) = HO.lst ((pu h v).outbox.map V.int); rw [p]
    | 4 => show HO.lst ((pu h' v).paper.map V.int) = HO.lst ((pu h v).paper.map V.int); rw [p]
    | 5 => show HO.lst _ = HO.lst _; rw [a1]
    | k + 6 => show HO.lst (((pu h' v).blocks.getD k []).map V.int) = HO.lst (((pu h v).blocks.getD k []).map V.int); rw [p]
end
/-! promises -/
def spRoom (c : CC) : Sp := fun vs H Q _ => ∃ (n r : Nat) (A : HA) (h : Ho) (u : Nat), vs = [.ref (A.ad .rooms), nV u] ∧ HoAt c n r H A h ∧ ∀ H', Same H H' → Q (gV (roomH h u)) H'
def spCellsOf (c : CC) : Sp := fun vs H Q _ => ∃ (n r : Nat) (A : HA) (h : Ho) (u : Nat), vs = [.ref (A.ad .rooms), nV u] ∧ HoAt c n r H A h ∧ WfH n r h ∧ u < n ∧ ∀ H', Same H H' → Q (.ref (A.ad (csl h u))) H'
def spEvent (c : CC) : Sp := fun vs H Q _ => ∃ (n r : Nat) (A : HA) (h : Ho) (k u : Nat) (a : Addr) (e : Ev), vs = [.ref (A.ad .house), nV u, .ref a] ∧ HoAt c n r H A h ∧ WfH n r h ∧ Lm k h ∧ k < 800000 ∧ u < n ∧ n ≤ 8 ∧ H a = some (.tup (evV e)) ∧ HNx0 c n r H A (eventT h u e) (Q .non)
def spEnter (c : CC) : Sp := fun vs H Q _ => ∃ (n r : Nat) (A : HA) (h : Ho) (u : Nat), vs = [.ref (A.ad .rooms), nV u] ∧ HoAt c n r H A h ∧ WfH n r h ∧ u < n ∧ HNx0 c n r H A (enterT h u) (Q .non)
def spSettle (c : CC) : Sp := fun vs H Q _ => ∃ (n r : Nat) (A : HA) (h : Ho), vs = [.ref (A.ad .house)] ∧ HoAt c n r H A h ∧ WfH n r h ∧ n ≤ 8 ∧ Syn A h ∧ HNy c n r H A (settleT h) (Q .non)
def spStart (c : CC) : Sp := fun vs H Q _ => ∃ (n r : Nat) (A : HA) (h : Ho) (k u : Nat) (p : Int), vs = [.ref (A.ad .house), nV u, .int p] ∧ HoAt c n r H A h ∧ WfH n r h ∧ Lm k h ∧ k < 800000 ∧ u < n ∧ n ≤ 8 ∧ Syn A h ∧ 0 ≤ p ∧ p < 64 ∧ HNy c n r H A (startT h u p) (Q .non)
def spKey (c : CC) : Sp := fun vs H Q _ => ∃ (n r : Nat) (A : HA) (h : Ho) (k u : Nat) (p : Int), vs = [.ref (A.ad .house), nV u, .int p] ∧ HoAt c n r H A h ∧ WfH n r h ∧ Lm k h ∧ k < 800000 ∧ u < n ∧ n ≤ 8 ∧ Syn A h ∧ 0 ≤ p ∧ p < 256 ∧ HNy c n r H A (keyT h u p) (Q .non)
def spTick (c : CC) : Sp := fun vs H Q _ => ∃ (n r : Nat) (A : HA) (h : Ho) (k : Nat), vs = [.ref (A.ad .house)] ∧ HoAt c n r H A h ∧ WfH n r h ∧ Lm k h ∧ k < 700000 ∧ n ≤ 8 ∧ Syn A h ∧ HNy c n r H A (tickT h) (Q .non)
def spRun (c : CC) : Sp := fun vs H Q _ => ∃ (n r : Nat) (A : HA) (h : Ho) (k m : Nat), vs = [.ref (A.ad .house), .int (m : Int)] ∧ HoAt c n r H A h ∧ WfH n r h ∧ Lm k h ∧ k + 9 * m < 600000 ∧ n ≤ 8 ∧ Syn A h ∧ HNy c n r H A (runT h m) (Q .non)
section
variable {σ : L2.St} {H : Hp} {K : PySem.W.Frag} {ta tv : TE} {f : Str} {N : L2.St → Hp → Prop} {R : VK} {B C' : L2.St → Hp → Prop} {tz : TS}
/-- x.f = e by any readings -/
theorem qx_fldC (h : tv σ H fun v H1 => ta σ H1 fun x H2 => ∃ p C dx fs, x = .ref p ∧ H2 p = some (.ins C dx fs) ∧ Cls K C ∧ NoAttr K C f ∧ fs.length < 1000 ∧ tz ⟨N, R, B, C'⟩ σ (upd H2 p (.ins C dx (putF f v fs)))) : tSeq (sFld K ta tv f) tz ⟨N, R, B, C'⟩ σ H := h
theorem sx_fldC (h : tv σ H fun v H1 => ta σ H1 fun x H2 => ∃ p C dx fs, x = .ref p ∧ H2 p = some (.ins C dx fs) ∧ Cls K C ∧ NoAttr K C f ∧ fs.length < 1000 ∧ N σ (upd H2 p (.ins C dx (putF f v fs)))) : sFld K ta tv f ⟨N, R, B, C'⟩ σ H := h
end
/-- unlike numbers below n -/
theorem nd_le : ∀ {n : Nat} {l : List Nat}, l.Nodup → (∀ u ∈ l, u < n) → l.length ≤ n
  | 0, [], _, _ => Nat.le_refl _
  | 0, u :: l, _, h => absurd (h u List.mem_cons_self) (Nat.not_lt_zero _)
  | n + 1, l, nd, h => by
    have h2 : ∀ u ∈ l.filter (fun u => decide (u ≠ n)), u < n := fun u hu => by
      obtain ⟨a, b⟩ := List.mem_filter.mp hu
      have := h u a
      have := of_decide_eq_true b
      omega
    have ih := nd_le (n := n) (nd.filter _) h2
    have : l.length ≤ (l.filter (fun u => decide (u ≠ n))).length + 1 := by
      clear ih h2 h
      induction l with
      | nil => exact Nat.zero_le _
      | cons a l ih =>
        obtain ⟨n1, n2⟩ := List.nodup_cons.mp nd
        by_cases c : a = n
        · subst c
          have e : (a :: l).filter (fun u => decide (u ≠ a)) = l := by
            rw [List.filter_cons, if_neg (by simp)]
            exact List.filter_eq_self.mpr fun u hu => decide_eq_true (fun q => n1 (q ▸ hu))
          rw [e]; exact Nat.le_refl _
        · have e : (a :: l).filter (fun u => decide (u ≠ n)) = a :: l.filter (fun u => decide (u ≠ n)) := by rw [List.filter_cons, if_pos (by simp [c])]
          rw [e, List.length_cons, List.length_cons]
          have := ih n2
          omega
    omega
theorem q_setItemV {σ : L2.St} {H : Hp} {te to ti : TE} {v : V} {p : Addr} {i : Nat} {xs : List V} {N : L2.St → Hp → Prop} {R : VK} {B C' : L2.St → Hp → Prop} {tz : TS} (hv : Val te σ H v) (ho : Val to σ H (.ref p)) (hi : Val ti σ H (.int (i : Int))) (hp : H p = some (.lst xs)) (h1 : i < xs.length) (q : tz ⟨N, R, B, C'⟩ σ (upd H p (.lst (xs.set i v)))) :
    tSeq (tAsg te (gSub to ti rSetL)) tz ⟨N, R, B, C'⟩ σ H := hv _ (ho _ (hi _ ⟨p, _, (i : Int), i, rfl, rfl, hp, by rw [ixN_int (by omega) (by omega), Int.toNat_natCast], q⟩))
theorem Tx.ht {K : PySem.W.Frag} {mg : Str → Option Value} (T : Tx K mg) : HTx K (He.ga K "House") := by
  refine ⟨T.cls 89, fun f hf => ?_⟩
  simp only [List.mem_cons, List.not_mem_nil, or_false] at hf
  rcases hf with rfl | rfl | rfl | rfl | rfl | rfl | rfl | rfl | rfl | rfl | rfl | rfl | rfl
  · exact T.no 91
  · exact T.no 92
  · exact T.no 93
  · exact T.no 94
  · exact T.no 95
  · exact T.no 96
  · exact T.no 97
  · exact T.no 98
  · exact T.no 99
  · exact T.no 100
  · exact T.no 101
  · exact T.no 102
  · exact T.no 103
theorem Tx.rt {K : PySem.W.Frag} {mg : Str → Option Value} (T : Tx K mg) : RTx K (He.ga K "Rooms") := by
  refine ⟨T.cls 81, fun f hf => ?_⟩
  simp only [List.mem_cons, List.not_mem_nil, or_false] at hf
  rcases hf with rfl | rfl | rfl | rfl | rfl
  · exact T.no 83
  · exact T.no 84
  · exact T.no 85
  · exact T.no 86
  · exact T.no 87

section
variable {P : Program} {w : World} {K : PySem.W.Frag} {mg : Str → Option Value} {base : Heap}

theorem sc_room_with : FnScope ["rooms", "user", "k", "guest"] ["rooms", "user"] (defScope s_room_with) := ⟨rfl, rfl, rfl, by decide +kernel, rfl, by decide +kernel, by decide +kernel⟩
theorem cal_room_with (T : Tx K mg) : Cal P w K mg base 1 "room_with" ["rooms", "user"] (spRoom (CCk K)) := by
  refine cal_mk T 20 20 rfl rfl sc_room_with (fun _ _ _ _ _ _ us hl => match us, hl with | [_, _], _ => rfl) (fun vs H Q E h => ?_) (fun f cdv A outer s H vs Q E hr h => ?_)
  · obtain ⟨n, r, A, h, u, rfl, x, k⟩ := h
    rfl
  · obtain ⟨n, r, A, h, u, rfl, x, k⟩ := h
    have M := T.mt
    have U := T.pt
    have HT : HTx K (CCk K).h := T.ht
    have RT : RTx K (CCk K).r := T.rt
    refine ⟨_, (pss_cons (ps_for PassesOwn.never rfl (pi_enum (by rfl) (T.free 59) (pa_cons (pe_fld (pv 0) rfl) pa_nil)) (pg_tup (by rfl) (pgs_cons (pg_name (i := 2) sc_room_with.nd rfl (Or.inl rfl)) (pgs_cons (pg_name (i := 3) sc_room_with.nd rfl (Or.inl rfl)) pgs_nil))) (pss_one (ps_if (pt_cmpR op_eq (pv 3) (pv 1) (nomark _)) (pss_one (ps_ret (pv 2))) pss_nil))) (pss_one (ps_ret pe_non))), ?_⟩
    refine q_forE (va_cons (vr_ (c := CCk K) RT x (v_var rfl) rl_guests) va_nil) (SqL.of (x.at_ .guests trivial)) (fun i σ' H' => ∃ y z, Same H H' ∧ (∀ j : Nat, j < i → h.guests[j]? ≠ some (some u)) ∧ σ' = [some (.ref (A.ad .rooms)), some (nV u), y, z]) ⟨_, _, Same.refl _, fun j hj => absurd hj (Nat.not_lt_zero _), rfl⟩ (fun i σ' H' pv => ?_) (fun i z σ' H' P hz pv hP => ?_) (fun σ' H' pv => ?_)
    · obtain ⟨_, _, sm, _⟩ := pv
      exact SqL.of (sm _ _ (x.at_ .guests trivial))
    · obtain ⟨y1, y2, sm, hn, rfl⟩ := pv
      rw [List.getElem?_map] at hz
      obtain ⟨g, hg, rfl⟩ := Option.map_eq_some_iff.mp hz
      have sm2 := sm.trans (smN (o := HO.tup [.int (i : Int), gV g]) hP)
      refine s_if (a_t (v_eqV (v_var rfl) (v_var rfl) (by cases g <;> rfl))) (fun c => ?_) (fun c => ?_)
      · have c := of_decide_eq_true c
        have e : g = some u := by
          cases g with
          | none => cases c
          | some v => have : (v : Int) = (u : Int) := V.int.inj c; exact congrArg some (Int.ofNat.inj this)
        subst e
        have e2 : roomH h u = some i := roomN_first hg hn
        rw [e2] at k
        exact s_ret (v_var rfl) (k _ sm2)
      · have c := of_decide_eq_false c
        refine s_next ⟨_, _, sm2, fun j hj e => ?_, rfl⟩
        by_cases q : j = i
        · subst q
          rw [hg] at e
          cases e
          exact c rfl
        · exact hn j (by omega) e
    · obtain ⟨y1, y2, sm, hn, rfl⟩ := pv
      have e2 : roomH h u = none := roomN_no fun j e => by
        have := (List.getElem?_eq_some_iff.mp e).1
        exact hn j (by rw [List.length_map]; exact this) e
      rw [e2] at k
      exact s_ret v_c (k _ sm)

theorem sc_cells_of : FnScope ["rooms", "user", "at"] ["rooms", "user"] (defScope s_cells_of) := ⟨rfl, rfl, rfl, by decide +kernel, rfl, by decide +kernel, by decide +kernel⟩
theorem cal_cells_of (T : Tx K mg) : Cal P w K mg base 2 "cells_of" ["rooms", "user"] (spCellsOf (CCk K)) := by
  refine cal_mk T 21 21 rfl rfl sc_cells_of (fun _ _ _ _ _ _ us hl => match us, hl with | [_, _], _ => rfl) (fun vs H Q E h => ?_) (fun f cdv A outer s H vs Q E hr h => ?_)
  · obtain ⟨n, r, A, h, u, rfl, x, w, hu, k⟩ := h
    rfl
  · obtain ⟨n, r, A, h, u, rfl, x, w, hu, k⟩ := h
    have M := T.mt
    have U := T.pt
    have HT : HTx K (CCk K).h := T.ht
    have RT : RTx K (CCk K).r := T.rt
    refine ⟨_, (pss_cons (ps_set (i := 2) sc_cells_of.nd rfl (Or.inl rfl) (pe_cal (cal_room_with (K := K) T) hr (by decide) rfl (pa_cons (pv 0) (pa_cons (pv 1) pa_nil)))) (pss_cons (ps_if (pt_cmpR op_isN1 (pv 2) pe_non (nomark _)) (pss_one (ps_ret (pe_ix ix_list (pe_fld (pv 0) rfl) (pv 1) (fun _ _ => rfl)))) pss_nil) (pss_one (ps_ret (pe_ix ix_list (pe_fld (pv 0) rfl) (pv 2) (fun _ _ => rfl)))))), ?_⟩
    refine q_setc (va_cons (v_var rfl) (va_cons (v_var rfl) va_nil)) ⟨n, r, A, h, u, rfl, x, fun H1 s1 => ?_⟩
    have x1 := x.same s1
    cases hr : roomH h u with
    | none =>
      rw [csl_none hr] at k
      refine q_ifT (a_t (v_isN (v_var rfl) v_c)) (by rfl) ?_
      exact s_ret (v_ixL (vr_ (c := CCk K) RT x1 (v_var rfl) rl_shelves) (v_var rfl) (SqL.of (x1.at_ .shelves trivial)) (by omega) (by rw [Int.toNat_natCast, List.getElem?_map, List.getElem?_range hu]; rfl)) (k _ s1)
    | some i =>
      rw [csl_some hr] at k
      refine q_ifF0 (a_t (v_isN (v_var rfl) v_c)) (by rfl) ?_
      exact s_ret (v_ixL (vr_ (c := CCk K) RT x1 (v_var rfl) rl_kept) (v_var rfl) (SqL.of (x1.at_ .kept trivial)) (by omega) (by rw [Int.toNat_natCast, List.getElem?_map, List.getElem?_range (room_lt w hr)]; rfl)) (k _ s1)

theorem sc_event_told : FnScope ["house", "user", "event", "person", "was"] ["house", "user", "event"] (defScope s_event_told) := ⟨rfl, rfl, rfl, by decide +kernel, rfl, by decide +kernel, by decide +kernel⟩
theorem cal_event_told (T : Tx K mg) : Cal P w K mg base 6 "event_told" ["house", "user", "event"] (spEvent (CCk K)) := by
  refine cal_mk T 26 26 rfl rfl sc_event_told (fun _ _ _ _ _ _ us hl => match us, hl with | [_, _, _], _ => rfl) (fun vs H Q E h => ?_) (fun f cdv A outer s H vs Q E hr h => ?_)
  · obtain ⟨n, r, A, h, kk, u, a, e, rfl, x, w, lm, hk, hu, hn8, ha, k⟩ := h
    rfl
  · obtain ⟨n, r, A, h, kk, u, a, e, rfl, x, w, lm, hk, hu, hn8, ha, k⟩ := h
    have M := T.mt
    have U := T.pt
    have HT : HTx K (CCk K).h := T.ht
    have RT : RTx K (CCk K).r := T.rt
    refine ⟨_, (pss_cons (ps_set (i := 3) sc_event_told.nd rfl (Or.inl rfl) (pe_ix ix_list (pe_fld (pv 0) rfl) (pv 1) (fun _ _ => rfl))) (pss_cons (ps_set (i := 4) sc_event_told.nd rfl (Or.inl rfl) (pe_fld (pv 3) rfl)) (pss_cons (ps_fld (pe_fld (pv 3) rfl) (pe_cal (cal_cells_of (K := K) T) hr (by decide) rfl (pa_cons (pe_fld (pv 0) rfl) (pa_cons (pv 1) pa_nil))) rfl) (pss_cons (ps_expr (pe_cal (cal_happen (K := K) T) hr (by decide) rfl (pa_cons (pv 3) (pa_cons (pv 2) pa_nil)))) (pss_cons (ps_expr (pe_bm PySem.F.plainAttrs_list PySem.F.slot_list_append PySem.F.type_list_append mt_append (pe_ix ix_list (pe_fld (pv 0) rfl) (pv 1) (fun _ _ => rfl)) (pa_cons (pv 2) pa_nil))) (C8.pss_cut (ps_if (PW.pt (pw_and (pt_cmpR op_ne (pv 4) pe_str (nomark _)) (pw_and1 (pt_cmpR op_eq (pe_fld (pv 3) rfl) pe_str (nomark _))))) (pss_one (ps_expr (pe_bm PySem.F.plainAttrs_list PySem.F.slot_list_append PySem.F.type_list_append mt_append (pe_fld (pv 0) rfl) (pa_cons (pv 1) pa_nil)))) pss_nil) (pss_one (ps_if (PW.pt (pw_and (pt_cmpR op_eq (pe_fld (pv 0) rfl) (pv 1) (nomark _)) (pw_and1 (pt_cmpR op_ne (pe_fld (pv 3) rfl) pe_str (nomark _))))) (pss_cons (ps_fld (pv 0) pe_non rfl) (pss_one (ps_fld (pv 0) pe_int rfl))) pss_nil)))))))), ?_⟩
    have hul : u < h.ps.length := by rw [w.lp]; exact hu
    have hdl : u < h.diaries.length := by rw [w.ld]; exact hu
    refine q_set (v := .ref (A.ad (.pr u 0))) (v_ixL (vh_ (c := CCk K) HT x (v_var rfl) hl_people) (v_var rfl) (SqL.of (x.at_ .people trivial)) (by omega) (by rw [Int.toNat_natCast, List.getElem?_map, List.getElem?_range hu]; rfl)) ?_
    refine q_set (v := .str (pu h u).st) (val_fld (v_var rfl) (x.at_ (.pr u 0) ⟨hu, by decide⟩) U.cl U.nState pf_state) ?_
    refine qx_fldC (x_call (va_cons (vh_ (c := CCk K) HT x (v_var rfl) hl_places) (va_cons (v_var rfl) va_nil)) ⟨n, r, A, h, u, rfl, x, w, hu, fun H1 s1 => ?_⟩)
    have x1 := x.same s1
    refine x_v (val_fld (v_var rfl) (x1.at_ (.pr u 0) ⟨hu, by decide⟩) U.cl U.nMachine pf_machine) ⟨A.ad (.pr u 1), _, A.dm u, _, rfl, x1.at_ (.pr u 1) ⟨hu, by decide⟩, M.cl, M.nCells, by show 4 < 1000; decide, ?_⟩
    rw [mq_cells]
    obtain ⟨x2, m2⟩ := x1.point hu (A.ad (csl h u))
    have ha1 := s1 _ _ ha
    have nt1 := x1.noT _ ⟨.pr u 1, ⟨hu, by decide⟩, rfl⟩
    have ha2 : upd H1 (A.ad (.pr u 1)) (.ins (CCk K).m (A.dm u) (mfs (A.ad (csl h u)) (pu h u).m)) a = some (.tup (evV e)) := by rw [upd_ne (fun q => nt1.a _ (q ▸ ha1))]; exact ha1
    show tSeq _ _ _ _ (upd H1 (A.ad (.pr u 1)) (.ins (CCk K).m (A.dm u) (mfs (A.ad (csl h u)) (pu h u).m)))
    generalize upd H1 (A.ad (.pr u 1)) (.ins (CCk K).m (A.dm u) (mfs (A.ad (csl h u)) (pu h u).m)) = H2 at x2 m2 ha2 ⊢
    have m02 := (Mv.same s1).trans m2
    have sa1 : SameA A (setCp A u (A.ad (csl h u))) := ⟨rfl, rfl, rfl, rfl⟩
    have hcp : (setCp A u (A.ad (csl h u))).cp u = (setCp A u (A.ad (csl h u))).ad (csl h u) := by unfold setCp; simp
    have pu0 : A.ad (.pr u 0) = (setCp A u (A.ad (csl h u))).ad (.pr u 0) := rfl
    have hh0 : A.ad .house = (setCp A u (A.ad (csl h u))).ad .house := rfl
    rw [pu0, hh0]
    generalize setCp A u (A.ad (csl h u)) = A1 at x2 m02 sa1 hcp
    have hP := x2.pat w hu hcp
    have wp := w.pw u hu
    refine q_do (va_cons (v_var rfl) (va_cons (v_var rfl) va_nil)) ⟨paU A1 u (A1.ad (csl h u)), pu h u, a, e, rfl, hP, wp.1, by have := (lm u).1; unfold Short; omega, SqT.of ha2, fun H3 hP3 f3 => ?_⟩
    dsimp only
    obtain ⟨x3, m3⟩ := x2.person w hu hcp hP3 f3
    have ha3 : H3 a = some (.tup (evV e)) := f3.tps hP _ _ ha2
    have x3' : HoAt (CCk K) n r H3 A1 (evA h u e) := x3
    have dl3 := x3.dl u hu
    refine qx_drop (x_append (xs := (A1.dts u).map V.ref) (l := A1.ad (.dr u)) (v_ixL (vh_ (c := CCk K) HT x3 (v_var rfl) hl_diaries) (v_var rfl) (SqL.of (x3.at_ .diaries trivial)) (by omega) (by rw [Int.toNat_natCast, List.getElem?_map, List.getElem?_range hu]; rfl)) (x3.at_ (.dr u) hu) (by rw [List.length_map, dl3]; show (dy h u).length < _; have := (lm u).2; omega) (v_var rfl) ?_)
    obtain ⟨x4, m4⟩ := x3'.diary (e := e) hdl hu ha3
    have x4' : HoAt (CCk K) n r (upd H3 (A1.ad (.dr u)) (.lst ((A1.dts u).map V.ref ++ [.ref a]))) (addDt A1 u a) (evB h u e) := x4
    have sa2 : SameA A (addDt A1 u a) := sa1.trans ⟨rfl, rfl, rfl, rfl⟩
    have m04 := m02.trans (m3.trans m4)
    clear x4 m4 x3 x3' m3 x2 ha2 ha1 nt1 hP hP3 f3 dl3 ha3 m02 sa1 m2
    have pu0 : A1.ad (.pr u 0) = (addDt A1 u a).ad (.pr u 0) := rfl
    have hh0 : A1.ad .house = (addDt A1 u a).ad .house := rfl
    rw [pu0, hh0]
    generalize upd H3 (A1.ad (.dr u)) (.lst ((A1.dts u).map V.ref ++ [.ref a])) = H4 at x4' m04 ⊢
    generalize addDt A1 u a = A2 at x4' sa2 m04 ⊢
    have pst : Val (tFld K (tVar 3) "state") [some (.ref (A2.ad .house)), some (nV u), some (.ref a), some (.ref (A2.ad (.pr u 0))), some (.str (pu h u).st)] H4 (.str (pu (evB h u e) u).st) := val_fld (v_var rfl) (x4'.at_ (.pr u 0) ⟨hu, by decide⟩) U.cl U.nState pf_state
    refine q_rel (fun σ' H' => σ' = [some (.ref (A2.ad .house)), some (nV u), some (.ref a), some (.ref (A2.ad (.pr u 0))), some (.str (pu h u).st)] ∧ HoAt (CCk K) n r H' A2 (evC h u e) ∧ Mv (footH n r A) H (footH n r A2) H') ?_ ?_
    · have hrow : h.row.length ≤ 8 := by
        have := nd_le w.rd w.rb
        omega
      refine s_if (a_and (a_t (v_neS (v_var rfl) v_c)) (fun _ => a_t (v_eqS pst v_c))) (fun c => ?_) (fun c => ?_)
      · have c1 : ¬ rdy h u ∧ rdy (evB h u e) u := by
          rw [Bool.and_eq_true_iff] at c
          exact ⟨fun z => by have := c.1; rw [z] at this; exact absurd this (by decide), of_decide_eq_true c.2⟩
        refine sx_drop (x_append (xs := h.row.map nV) (vh_ (c := CCk K) HT x4' (v_var rfl) hl_row) (x4'.at_ .row trivial) (by rw [List.length_map]; omega) (v_var rfl) ?_)
        obtain ⟨x5, m5⟩ := x4'.setRow (h.row ++ [u])
        rw [show h.row.map nV ++ [nV u] = (h.row ++ [u]).map nV by rw [List.map_append]; rfl]
        refine ⟨rfl, ?_, m04.trans m5⟩
        unfold evC
        rw [if_pos c1]; exact x5
      · have c1 : ¬ (¬ rdy h u ∧ rdy (evB h u e) u) := fun z => by
          rw [decide_eq_true (show (pu (evB h u e) u).st = "ready" from z.2), decide_eq_false (show ¬ (pu h u).st = "ready" from z.1)] at c
          cases c
        refine s_next ⟨rfl, ?_, m04⟩
        unfold evC
        rw [if_neg c1]; exact x4'
    rintro _ H5 ⟨rfl, x5, m5⟩
    have pst5 : Val (tFld K (tVar 3) "state") [some (.ref (A2.ad .house)), some (nV u), some (.ref a), some (.ref (A2.ad (.pr u 0))), some (.str (pu h u).st)] H5 (.str (pu (evB h u e) u).st) := by
      have e5 : pu (evC h u e) u = pu (evB h u e) u := evC_pu.trans evB_pu.symm
      rw [← e5]
      exact val_fld (v_var rfl) (x5.at_ (.pr u 0) ⟨hu, by decide⟩) U.cl U.nState pf_state
    have er : (evC h u e).runs = h.runs := by unfold evC; split <;> rfl
    have vr : Val (tFld K (tVar 0) "runs") [some (.ref (A2.ad .house)), some (nV u), some (.ref a), some (.ref (A2.ad (.pr u 0))), some (.str (pu h u).st)] H5 (gV h.runs) := by rw [← er]; exact (vh_ (c := CCk K) HT x5 (v_var rfl) hl_runs)
    unfold eventT at k
    refine s_if (a_and (a_t (v_eqV vr (v_var rfl) (by cases h.runs <;> rfl))) (fun _ => a_t (v_neS pst5 v_c))) (fun c => ?_) (fun c => ?_)
    · have c1 : h.runs = some u ∧ ¬ rdy (evB h u e) u := by
        rw [Bool.and_eq_true_iff] at c
        refine ⟨?_, fun z => by have := c.2; rw [z] at this; exact absurd this (by decide)⟩
        have c0 := of_decide_eq_true c.1
        cases hq : h.runs with
        | none => rw [hq] at c0; cases c0
        | some v => rw [hq] at c0; have : (v : Int) = (u : Int) := V.int.inj c0; exact congrArg some (Int.ofNat.inj this)
      rw [if_pos c1] at k
      refine qh_ HT x5 A2 { evC h u e with runs := none } (v := gV none) v_c (v_var rfl) rfl hp_runs rfl (fun t _ ht => cont_house ht ⟨rfl, rfl, rfl, rfl, rfl, rfl⟩ ⟨rfl, rfl, rfl, rfl, rfl, rfl⟩) rfl rfl (fun H6 x6 m6 => ?_)
      refine sh_ HT x6 A2 { evC h u e with runs := none, left := 0 } (v := .int 0) v_c (v_var rfl) rfl hp_left rfl (fun t _ ht => cont_house ht ⟨rfl, rfl, rfl, rfl, rfl, rfl⟩ ⟨rfl, rfl, rfl, rfl, rfl, rfl⟩) rfl rfl (fun H7 x7 m7 => ?_)
      exact k A2 H7 sa2 x7 (m5.trans (m6.trans m7))
    · have c1 : ¬ (h.runs = some u ∧ ¬ rdy (evB h u e) u) := fun z => by
        rw [z.1, decide_eq_false (show ¬ (pu (evB h u e) u).st = "ready" from z.2)] at c
        simp [gV, nV] at c
      rw [if_neg c1] at k
      exact s_next (k A2 H5 sa2 x5 m5)
end
/-! ### rooms by turns -/
section
variable {c : CC} {n r : Nat} {H H' H1 : Hp} {A A' : HA} {h h' : Ho} {s t l m : Slot} {o os ol om : HO} {u v k : Nat} {F : FS} {b q : Addr} {e : Ev}
theorem footH_with {b : Addr} (hs : okS n r s) (hq : H q = none) (f : footH n r (withAd A s q) b) : footH n r A b ∨ H b = none := by
  obtain ⟨t, ht, rfl⟩ := f
  by_cases e : t = s
  · subst e; rw [withAd_s]; exact .inr hq
  · rw [withAd_ne e]; exact .inl ⟨t, ht, rfl⟩
theorem HoAt.rebind (x : HoAt c n r H A h) (hs : okS n r s) (hl : okS n r l) (ns : l ≠ s) (hq : H q = none) (es : cont c n r (withAd A s q) h' s = os) (el : cont c n r (withAd A s q) h' l = ol)
    (ed : h'.diaries = h.diaries) (hm : okS n r m) (nm : m ≠ s) (em : cont c n r (withAd A s q) h' m = om) (hml : m = l → om = ol)
    (ne2 : ∀ t, okS n r t → t ≠ s → t ≠ l → t ≠ m → cont c n r (withAd A s q) h' t = cont c n r A h t) :
    HoAt c n r (upd (upd (upd H q os) (A.ad l) ol) (A.ad m) om) (withAd A s q) h' ∧ Mv (footH n r A) H (footH n r (withAd A s q)) (upd (upd (upd H q os) (A.ad l) ol) (A.ad m) om) := by
  have fa := x.fa
  have nq : ∀ t, okS n r t → A.ad t ≠ q := fun t ht e => fa _ ⟨t, ht, rfl⟩ (by rw [e]; exact hq)
  refine ⟨⟨fun t ht => ?_, fun t1 t2 h1 h2 e => ?_, fun v hv => by unfold dy; rw [ed]; exact x.dl v hv, fun v i a ev hv h1 h2 => ?_⟩, ⟨fun b u nb e => ?_, fun b f => footH_with hs hq f⟩⟩
  · by_cases e1 : t = s
    · subst e1
      rw [withAd_s, upd_ne (Ne.symm (nq m hm)), upd_ne (Ne.symm (nq l hl)), upd_same, es]
    · rw [withAd_ne e1]
      by_cases e2 : t = m
      · subst e2; rw [upd_same, em]
      · rw [upd_ne (x.ne ht hm e2)]
        by_cases e3 : t = l
        · subst e3; rw [upd_same, el]
        · rw [upd_ne (x.ne ht hl e3), upd_ne (nq t ht), ne2 t ht e1 e3 e2]
          exact x.at_ t ht
  · by_cases e1 : t1 = s <;> by_cases e2 : t2 = s
    · rw [e1, e2]
    · rw [e1, withAd_s, withAd_ne e2] at e; exact absurd e.symm (nq t2 h2)
    · rw [e2, withAd_s, withAd_ne e1] at e; exact absurd e (nq t1 h1)
    · rw [withAd_ne e1, withAd_ne e2] at e; exact x.inj _ _ h1 h2 e
  · have h3 := x.dt v i a ev hv h1 (by unfold dy at h2 ⊢; rw [← ed]; exact h2)
    have n1 : ∀ t, okS n r t → a ≠ A.ad t := fun t ht q => (x.noT _ ⟨t, ht, rfl⟩).a _ (q ▸ h3)
    rw [upd_ne (n1 m hm), upd_ne (n1 l hl), upd_ne (fun e => by rw [e, hq] at h3; cases h3)]; exact h3
  · rw [upd_ne (fun q => nb (by rw [q]; exact ⟨m, hm, rfl⟩)), upd_ne (fun q => nb (by rw [q]; exact ⟨l, hl, rfl⟩)), upd_ne (fun q => by rw [q, hq] at e; cases e)]; exact e
theorem cont_sr (A : HA) (h : Ho) (v : Nat) (q : Addr) (h1 : t ≠ .sr v) (h2 : t ≠ .shelves) : cont c n r (withAd A (.sr v) q) h t = cont c n r A h t := by
  cases t with
  | sr w => rfl
  | shelves => exact absurd rfl h2
  | pr w k =>
    match k with
    | 0 => simp [cont, paU, withAd]
    | 1 => rfl
    | 2 => rfl
    | 3 => rfl
    | 4 => rfl
    | 5 => simp [cont, withAd]
    | k + 6 => rfl
  | _ => simp [cont, hfs, rfs, withAd]
theorem cont_kr (A : HA) (h : Ho) (v : Nat) (q : Addr) (h1 : t ≠ .kr v) (h2 : t ≠ .kept) : cont c n r (withAd A (.kr v) q) h t = cont c n r A h t := by
  cases t with
  | kr w => rfl
  | kept => exact absurd rfl h2
  | pr w k =>
    match k with
    | 0 => simp [cont, paU, withAd]
    | 1 => rfl
    | 2 => rfl
    | 3 => rfl
    | 4 => rfl
    | 5 => simp [cont, withAd]
    | k + 6 => rfl
  | _ => simp [cont, hfs, rfs, withAd]
/-- what depends on stale, guests alone -/
theorem cont_stale (A : HA) (h : Ho) (g : List (List Int)) (hs : ∀ v, t = .sr v → shelfC { h with stale := g } v = shelfC h v) : cont c n r A { h with stale := g } t = cont c n r A h t := by
  cases t with
  | sr v => show HO.lst ((shelfC { h with stale := g } v).map V.int) = HO.lst ((shelfC h v).map V.int); rw [hs v rfl]
  | pr w k =>
    match k with
    | 0 => rfl
    | 1 => rfl
    | 2 => rfl
    | 3 => rfl
    | 4 => rfl
    | 5 => rfl
    | k + 6 => rfl
  | _ => rfl
theorem cont_guests (A : HA) (h : Ho) (gs : List (Option Nat)) (g : List (List Int)) (h0 : t ≠ .guests) (hk : ∀ i, t = .kr i → keptC { h with guests := gs, stale := g } i = keptC h i) (hs : ∀ v, t = .sr v → shelfC { h with guests := gs, stale := g } v = shelfC h v) : cont c n r A { h with guests := gs, stale := g } t = cont c n r A h t := by
  cases t with
  | guests => exact absurd rfl h0
  | kr i => show HO.lst ((keptC { h with guests := gs, stale := g } i).map V.int) = HO.lst ((keptC h i).map V.int); rw [hk i rfl]
  | sr v => show HO.lst ((shelfC { h with guests := gs, stale := g } v).map V.int) = HO.lst ((shelfC h v).map V.int); rw [hs v rfl]
  | pr w k =>
    match k with
    | 0 => rfl
    | 1 => rfl
    | 2 => rfl
    | 3 => rfl
    | 4 => rfl
    | 5 => rfl
    | k + 6 => rfl
  | _ => rfl
theorem cont_rooms (A : HA) (h : Ho) (z : Int) (g : Nat) (h0 : t ≠ .rooms) : cont c n r A { h with swaps := z, turn := g } t = cont c n r A h t := by
  cases t with
  | rooms => exact absurd rfl h0
  | pr w k =>
    match k with
    | 0 => rfl
    | 1 => rfl
    | 2 => rfl
    | 3 => rfl
    | 4 => rfl
    | 5 => rfl
    | k + 6 => rfl
  | _ => rfl
theorem roomN_iff {gs : List (Option Nat)} : roomN gs v = none ↔ ∀ j : Nat, gs[j]? ≠ some (some v) := ⟨fun h j => roomN_none h j, roomN_no⟩
theorem list_set_range {α : Type} (f g : Nat → α) {n v : Nat} {a : α} (hv : v < n) (h1 : g v = a) (h2 : ∀ w, w ≠ v → g w = f w) : (List.range n).map g = ((List.range n).map f).set v a := by
  apply List.ext_getElem?
  intro i
  by_cases e : v = i
  · subst e
    rw [List.getElem?_set_self (by simp [hv]), List.getElem?_map, List.getElem?_range hv]
    exact congrArg some h1
  · rw [List.getElem?_set_ne e, List.getElem?_map, List.getElem?_map]
    by_cases hi : i < n
    · rw [List.getElem?_range hi]; exact congrArg some (h2 i (Ne.symm e))
    · rw [List.getElem?_eq_none (by simp; omega)]; rfl
/-- the room's old guest goes to its shelf -/
theorem HoAt.shelve (x : HoAt c n r H A h) (w : WfH n r h) (hg : h.guests[h.turn]? = some (some v)) (hq : H q = none) :
    HoAt c n r (upd (upd H q (.lst ((keptC h h.turn).map V.int))) (A.ad .shelves) (.lst (((List.range n).map fun u => V.ref (A.ad (.sr u))).set v (.ref q)))) (withAd A (.sr v) q) { h with stale := h.stale.set v (cu h v) } ∧
    Mv (footH n r A) H (footH n r (withAd A (.sr v) q)) (upd (upd H q (.lst ((keptC h h.turn).map V.int))) (A.ad .shelves) (.lst (((List.range n).map fun u => V.ref (A.ad (.sr u))).set v (.ref q)))) := by
  have hv := w.gu _ _ hg
  have hk : keptC h h.turn = cu h v := by unfold keptC; rw [hg]
  have hr : roomH h v ≠ none := fun z => roomN_none z _ hg
  have e1 : shelfC { h with stale := h.stale.set v (cu h v) } v = cu h v := by
    unfold shelfC
    rw [if_neg (show ¬ roomH { h with stale := h.stale.set v (cu h v) } v = none from hr)]
    exact getD_set_self (by rw [w.ls]; exact hv)
  have e2 : ∀ z, z ≠ v → shelfC { h with stale := h.stale.set v (cu h v) } z = shelfC h z := fun z hz => by
    show (if roomH h z = none then cu h z else (h.stale.set v (cu h v)).getD z []) = (if roomH h z = none then cu h z else h.stale.getD z [])
    rw [getD_set_ne (Ne.symm hz)]
  obtain ⟨a, b⟩ := x.rebind (s := .sr v) (l := .shelves) (m := .shelves) (h' := { h with stale := h.stale.set v (cu h v) }) (os := .lst ((keptC h h.turn).map V.int)) (ol := .lst (((List.range n).map fun u => V.ref (A.ad (.sr u))).set v (.ref q))) (om := .lst (((List.range n).map fun u => V.ref (A.ad (.sr u))).set v (.ref q))) hv trivial (fun e => by cases e) hq
    (by show HO.lst ((shelfC { h with stale := h.stale.set v (cu h v) } v).map V.int) = _; rw [e1, hk])
    (by show HO.lst ((List.range n).map fun u => V.ref ((withAd A (.sr v) q).ad (.sr u))) = _; rw [list_set_range (fun u => V.ref (A.ad (.sr u))) (fun u => V.ref ((withAd A (.sr v) q).ad (.sr u))) hv (by rw [withAd_s]) (fun z hz => by rw [withAd_ne (fun e => hz (Slot.sr.inj e))])])
    rfl trivial (fun e => by cases e)
    (by show HO.lst ((List.range n).map fun u => V.ref ((withAd A (.sr v) q).ad (.sr u))) = _; rw [list_set_range (fun u => V.ref (A.ad (.sr u))) (fun u => V.ref ((withAd A (.sr v) q).ad (.sr u))) hv (by rw [withAd_s]) (fun z hz => by rw [withAd_ne (fun e => hz (Slot.sr.inj e))])]) (fun _ => rfl) (fun t _ h1 h2 _ => (cont_sr A _ v q h1 h2).trans (cont_stale A h _ fun z hz => e2 z (fun e => h1 (by rw [hz, e]))))
  rw [upd_upd] at a b
  exact ⟨a, b⟩
/-- the user comes in -/
theorem HoAt.come (x : HoAt c n r H A h) (w : WfH n r h) (hu : u < n) (hr : roomH h u = none) (hst : ∀ v, h.guests[h.turn]? = some (some v) → h.stale.getD v [] = cu h v) (hq : H q = none) :
    HoAt c n r (upd (upd (upd H q (.lst ((cu h u).map V.int))) (A.ad .kept) (.lst (((List.range r).map fun i => V.ref (A.ad (.kr i))).set h.turn (.ref q)))) (A.ad .guests) (.lst ((h.guests.map gV).set h.turn (nV u)))) (withAd A (.kr h.turn) q) { h with guests := h.guests.set h.turn (some u), stale := h.stale.set u (cu h u) } ∧
    Mv (footH n r A) H (footH n r (withAd A (.kr h.turn) q)) (upd (upd (upd H q (.lst ((cu h u).map V.int))) (A.ad .kept) (.lst (((List.range r).map fun i => V.ref (A.ad (.kr i))).set h.turn (.ref q)))) (A.ad .guests) (.lst ((h.guests.map gV).set h.turn (nV u)))) := by
  have hlen : h.turn < h.guests.length := by rw [w.lg]; exact w.tn
  have g1 : (h.guests.set h.turn (some u))[h.turn]? = some (some u) := List.getElem?_set_self hlen
  have g2 : ∀ j, j ≠ h.turn → (h.guests.set h.turn (some u))[j]? = h.guests[j]? := fun j hj => List.getElem?_set_ne (Ne.symm hj)
  have k1 : keptC { h with guests := h.guests.set h.turn (some u), stale := h.stale.set u (cu h u) } h.turn = cu h u := by
    show (match (h.guests.set h.turn (some u))[h.turn]? with | some (some z) => cu h z | _ => zeros) = _
    rw [g1]
  have k2 : ∀ i, i ≠ h.turn → keptC { h with guests := h.guests.set h.turn (some u), stale := h.stale.set u (cu h u) } i = keptC h i := fun i hi => by
    show (match (h.guests.set h.turn (some u))[i]? with | some (some z) => cu h z | _ => zeros) = _
    rw [g2 i hi]; rfl
  have nu := roomN_iff.mp hr
  have s1 : ∀ z, shelfC { h with guests := h.guests.set h.turn (some u), stale := h.stale.set u (cu h u) } z = shelfC h z := fun z => by
    show (if roomN (h.guests.set h.turn (some u)) z = none then cu h z else (h.stale.set u (cu h u)).getD z []) = (if roomN h.guests z = none then cu h z else h.stale.getD z [])
    by_cases zu : z = u
    · subst zu
      rw [if_neg (fun q => roomN_none q h.turn g1), if_pos (show roomN h.guests z = none from hr)]
      exact getD_set_self (by rw [w.ls]; exact hu)
    · rw [getD_set_ne (Ne.symm zu)]
      by_cases c1 : roomN h.guests z = none
      · rw [if_pos c1, if_pos]
        refine roomN_iff.mpr fun j hj => ?_
        by_cases e : j = h.turn
        · subst e; rw [g1] at hj; exact zu (Option.some.inj (Option.some.inj hj)).symm
        · rw [g2 j e] at hj; exact roomN_none c1 j hj
      · rw [if_neg c1]
        by_cases c2 : h.guests[h.turn]? = some (some z)
        · rw [hst z c2]
          split <;> rfl
        · rw [if_neg]
          intro q
          obtain ⟨i, hi⟩ : ∃ i, roomN h.guests z = some i := by
            cases e : roomN h.guests z with
            | none => exact absurd e c1
            | some i => exact ⟨i, rfl⟩
          have hi2 := roomN_some hi
          have ne : i ≠ h.turn := fun e => c2 (e ▸ hi2)
          exact roomN_none q i (by rw [g2 i ne]; exact hi2)
  refine x.rebind (s := .kr h.turn) (l := .kept) (m := .guests) w.tn trivial (fun e => by cases e) hq (by show HO.lst ((keptC _ h.turn).map V.int) = _; rw [k1])
    (by show HO.lst ((List.range r).map fun i => V.ref ((withAd A (.kr h.turn) q).ad (.kr i))) = _; rw [list_set_range (fun i => V.ref (A.ad (.kr i))) (fun i => V.ref ((withAd A (.kr h.turn) q).ad (.kr i))) w.tn (by rw [withAd_s]) (fun z hz => by rw [withAd_ne (fun e => hz (Slot.kr.inj e))])])
    rfl trivial (fun e => by cases e) (by show HO.lst ((h.guests.set h.turn (some u)).map gV) = _; rw [List.map_set]; rfl) (fun e => by cases e) ?_
  · intro t ht h1 h2 h3
    exact (cont_kr A _ _ q h1 h2).trans (cont_guests A h _ _ h3 (fun i hi => k2 i (fun e => h1 (by rw [hi, e]))) (fun z _ => s1 z))
end
section
variable {c : CC} {n r u v k m : Nat} {H : Hp} {A : HA} {h : Ho} {e : Ev}
theorem enter_none (hr : roomH h u = none) : enterT h u = { h with guests := h.guests.set h.turn (some u), stale := (staleE h).set u (cu h u), turn := (h.turn + 1) % h.guests.length, swaps := h.swaps + 1 } := by unfold enterT; rw [hr]
theorem enter_some {i : Nat} (hr : roomH h u = some i) : enterT h u = h := by unfold enterT; rw [hr]
theorem lm_tickN (w : Lm k h) (hd : h.diaries.length = h.ps.length) : ∀ i, i ≤ h.ps.length → Lm (k + i) (tickN h i) ∧ (tickN h i).ps.length = h.ps.length ∧ (tickN h i).diaries.length = h.ps.length
  | 0, _ => ⟨lm_same w rfl rfl, rfl, hd⟩
  | i + 1, hi => by
    obtain ⟨a, b, d⟩ := lm_tickN w hd i (by omega)
    exact ⟨lm_event a (by rw [b]; omega) (by rw [d]; omega), event_same.len.trans b, by show (eventT (tickN h i) i .tick).diaries.length = _; rw [event_dia, List.length_set]; exact d⟩
theorem lm_turn (w : Lm k h) : Lm k (turnT h) := by
  rcases runs_or h with hr | ⟨u, hr⟩
  · rw [turn_none hr]; exact w
  · rw [turn_some hr]; split <;> exact lm_same w rfl rfl
theorem lm_tick (w : Lm k h) (hd : h.diaries.length = h.ps.length) (h8 : h.ps.length ≤ 8) : Lm (k + 8) (tickT h) := by
  unfold tickT
  exact lm_turn ((lm_tickN w hd _ (Nat.le_refl _)).1.mono (by omega))
theorem lm_step1 (w : Lm k h) (wf : WfH n r h) : Lm (k + 1) (step1 h) := by
  rcases runs_or h with hr | ⟨u, hr⟩
  · rw [step1_none hr]; exact (lm_same w rfl rfl).mono (Nat.le_succ _)
  · rw [step1_some hr]
    have := wf.ru u hr
    exact lm_event (lm_same w rfl rfl) (by show u < h.ps.length; rw [wf.lp]; exact this) (by show u < h.diaries.length; rw [wf.ld]; exact this)
theorem lm_step (w : Lm k h) (wf : WfH n r h) (h8 : n ≤ 8) : Lm (k + 9) (stepT h) := by
  have w1 := wf_step1 wf
  unfold stepT step2
  split
  · exact lm_settle (lm_tick (lm_step1 w wf) (by rw [w1.ld, w1.lp]) (by rw [w1.lp]; exact h8))
  · exact lm_settle ((lm_step1 w wf).mono (by omega))
theorem lm_run (w : Lm k h) (wf : WfH n r h) (h8 : n ≤ 8) : ∀ m, Lm (k + 9 * m) (runT h m)
  | 0 => w
  | m + 1 => by
    have := lm_step (lm_run w wf h8 m) (wf_runT wf m) h8
    exact this.mono (by omega)
/-- an event keeps the clocks' copies -/
theorem Syn.event {A' : HA} (s : Syn A h) (sa : SameA A A') : Syn A' (eventT h u e) := ⟨by rw [sa.sw, event_same.swaps]; exact s.sw, by rw [sa.tn, event_same.turn]; exact s.tn⟩
end
theorem Lm.new {n r : Nat} {q b : Int} : Lm 0 (newH n r q b) := fun u => by
  constructor
  · show (pu (newH n r q b) u).paper.length ≤ 0
    unfold pu newH
    rw [List.getD_eq_getElem?_getD, List.getElem?_replicate]
    split <;> exact Nat.le_refl _
  · show (dy (newH n r q b) u).length ≤ 0
    unfold dy newH
    rw [List.getD_eq_getElem?_getD, List.getElem?_replicate]
    split <;> exact Nat.le_refl _
theorem staleE_some {h : Ho} {v : Nat} (e : h.guests[h.turn]? = some (some v)) : staleE h = h.stale.set v (cu h v) := by unfold staleE; rw [e]
theorem staleE_none {h : Ho} (e : h.guests[h.turn]? = some none) : staleE h = h.stale := by unfold staleE; rw [e]
section
variable {P : Program} {w : World} {K : PySem.W.Frag} {mg : Str → Option Value} {base : Heap}

theorem sc_enter : FnScope ["rooms", "user", "at"] ["rooms", "user"] (defScope s_enter) := ⟨rfl, rfl, rfl, by decide +kernel, rfl, by decide +kernel, by decide +kernel⟩
theorem cal_enter (T : Tx K mg) : Cal P w K mg base 3 "enter" ["rooms", "user"] (spEnter (CCk K)) := by
  refine cal_mk T 23 23 rfl rfl sc_enter (fun _ _ _ _ _ _ us hl => match us, hl with | [_, _], _ => rfl) (fun vs H Q E h => ?_) (fun f cdv A outer s H vs Q E hr h => ?_)
  · obtain ⟨n, r, A, h, u, rfl, x, w, hu, k⟩ := h
    rfl
  · obtain ⟨n, r, A, h, u, rfl, x, w, hu, k⟩ := h
    have M := T.mt
    have U := T.pt
    have HT : HTx K (CCk K).h := T.ht
    have RT : RTx K (CCk K).r := T.rt
    refine ⟨_, (pss_cons (ps_if (pt_cmpR op_notN1 (pe_cal (cal_room_with (K := K) T) hr (by decide) rfl (pa_cons (pv 0) (pa_cons (pv 1) pa_nil))) pe_non (nomark _)) (pss_one (ps_ret pe_non)) pss_nil) (pss_cons (ps_set (i := 2) sc_enter.nd rfl (Or.inl rfl) (pe_fld (pv 0) rfl)) (C8.pss_cut (ps_if (pt_cmpR op_notN1 (pe_ix ix_list (pe_fld (pv 0) rfl) (pv 2) (fun _ _ => rfl)) pe_non (nomark _)) (pss_one (ps_asg (pe_callTy call_list_of (by rfl) (T.free 52) (by decide +kernel) (pa_cons (pe_ix ix_list (pe_fld (pv 0) rfl) (pv 2) (fun _ _ => rfl)) pa_nil)) (pg_sub (pe_fld (pv 0) rfl) (pe_ix ix_list (pe_fld (pv 0) rfl) (pv 2) (fun _ _ => rfl)) set_list))) pss_nil) (pss_cons (ps_asg (pe_callTy call_list_of (by rfl) (T.free 52) (by decide +kernel) (pa_cons (pe_ix ix_list (pe_fld (pv 0) rfl) (pv 1) (fun _ _ => rfl)) pa_nil)) (pg_sub (pe_fld (pv 0) rfl) (pv 2) set_list)) (pss_cons (ps_asg (pv 1) (pg_sub (pe_fld (pv 0) rfl) (pv 2) set_list)) (pss_cons (ps_fld (pv 0) (pe_op op_add (pe_fld (pv 0) rfl) pe_int) rfl) (pss_cons (ps_fld (pv 0) (pe_op op_mod (pe_op op_add (pv 2) pe_int) (pe_callB call_len_seq (by rfl) (T.free 51) PySem.boot_len (pa_cons (pe_fld (pv 0) rfl) pa_nil))) rfl) (pss_one (ps_ret pe_non))))))))), ?_⟩
    refine qx_if (x_test (x_op (x_call (va_cons (v_var rfl) (va_cons (v_var rfl) va_nil)) ⟨n, r, A, h, u, rfl, x, fun H1 s1 => ?_⟩)))
    have x1 := x.same s1
    refine x_v v_c ?_
    cases hr : roomH h u with
    | some i =>
      refine ⟨rfl, true, rfl, ?_⟩
      rw [if_pos rfl]
      rw [enter_some hr] at k
      exact s_ret v_c (k A H1 .refl x1 (.same s1))
    | none =>
    refine ⟨rfl, false, rfl, ?_⟩
    rw [if_neg Bool.false_ne_true]
    refine s_next ?_
    rw [enter_none hr] at k
    refine q_set (vr_ (c := CCk K) RT x1 (v_var rfl) rl_turn) ?_
    have hlen : h.turn < h.guests.length := by rw [w.lg]; exact w.tn
    have gat : ∀ {A' : HA} {H' : Hp} {h' : Ho} {σ : L2.St}, HoAt (CCk K) n r H' A' h' → h'.guests = h.guests → σ[0]? = some (some (.ref (A'.ad .rooms))) → σ[2]? = some (some (.int (h.turn : Int))) → Val (tOp (rIxL K) (tFld K (tVar 0) "guests") (tVar 2)) σ H' (gV (h.guests.getD h.turn none)) := fun x' e s0 s2 => v_ixL (vr_ (c := CCk K) RT x' (v_var s0) rl_guests) (v_var s2) (SqL.of (x'.at_ .guests trivial)) (by omega) (by rw [Int.toNat_natCast, e, List.getElem?_map, List.getD_eq_getElem?_getD, List.getElem?_eq_getElem hlen]; rfl)
    have hgD : h.guests[h.turn]? = some (h.guests.getD h.turn none) := by rw [List.getD_eq_getElem?_getD, List.getElem?_eq_getElem hlen]; rfl
    refine q_rel (fun σ' H' => ∃ A' h', SameA A A' ∧ h' = { h with stale := staleE h } ∧ HoAt (CCk K) n r H' A' h' ∧ Mv (footH n r A) H (footH n r A') H' ∧ WfH n r h' ∧ (∀ v, h.guests[h.turn]? = some (some v) → h'.stale.getD v [] = cu h v) ∧ σ' = [some (.ref (A.ad .rooms)), some (nV u), some (.int (h.turn : Int))]) ?_ ?_
    · cases hg : h.guests.getD h.turn none with
      | none =>
        have ga := gat (σ := [some (.ref (A.ad .rooms)), some (nV u), some (.int (h.turn : Int))]) x1 rfl rfl rfl
        rw [hg] at ga
        refine s_ifF0 (a_t (v_notN ga v_c)) (by rfl) ⟨A, _, .refl, rfl, ?_, .same s1, ?_, fun v hv => ?_, rfl⟩
        · rw [staleE_none (hgD.trans (by rw [hg]))]; exact x1
        · rw [staleE_none (hgD.trans (by rw [hg]))]; exact w
        · rw [hgD, hg] at hv; cases hv
      | some v =>
        have hgv : h.guests[h.turn]? = some (some v) := hgD.trans (by rw [hg])
        have hv := w.gu _ _ hgv
        have ga := gat (σ := [some (.ref (A.ad .rooms)), some (nV u), some (.int (h.turn : Int))]) x1 rfl rfl rfl
        rw [hg] at ga
        refine s_ifT (a_t (v_notN ga v_c)) (by rfl) ?_
        have hkr := x1.at_ (.kr h.turn) w.tn
        refine sx_asg (x_L (nl_list (v_ixL (vr_ (c := CCk K) RT x1 (v_var rfl) rl_kept) (v_var rfl) (SqL.of (x1.at_ .kept trivial)) (by omega) (by rw [Int.toNat_natCast, List.getElem?_map, List.getElem?_range w.tn]; rfl)) (.inl (SqL.of hkr))) (fun q hq => ?_))
        have sq := smN (o := HO.lst ((keptC h h.turn).map V.int)) hq
        have xq := x1.same sq
        have gq := gat (σ := [some (.ref (A.ad .rooms)), some (nV u), some (.int (h.turn : Int))]) xq rfl rfl rfl
        rw [hg] at gq
        refine x_v (vr_ (c := CCk K) RT xq (v_var rfl) rl_shelves) (x_v gq ⟨A.ad .shelves, _, (v : Int), v, rfl, rfl, xq.at_ .shelves trivial, ?_, ?_⟩)
        · rw [ixN_int (by omega) (by rw [List.length_map, List.length_range]; omega), Int.toNat_natCast]
        obtain ⟨x2, m2⟩ := x1.shelve w hgv hq
        refine ⟨_, _, ⟨withAd_ne (fun e => by cases e), withAd_ne (fun e => by cases e), rfl, rfl⟩, rfl, ?_, (Mv.same s1).trans m2, ?_, fun v2 hv2 => ?_, rfl⟩
        · rw [staleE_some hgv]; exact x2
        · rw [staleE_some hgv]
          exact ⟨w.lp, w.ld, by show (h.stale.set _ _).length = n; rw [List.length_set]; exact w.ls, w.lg, w.r0, w.tn, w.gu, w.gi, w.pw, w.ru, w.rn, w.rd, w.rb, w.rr, w.ar, w.l0, w.l1, w.q0, w.b0⟩
        · rw [hgv] at hv2
          rw [staleE_some hgv]
          cases hv2
          exact getD_set_self (by rw [w.ls]; exact hv)
    rintro _ H2 ⟨A1, h1, sa1, eh1, x2, m2, w2, hst, rfl⟩
    have hr1 : roomH h1 u = none := by rw [eh1]; exact hr
    have c1 : ∀ z, cu h1 z = cu h z := fun z => by rw [eh1]; rfl
    have t1 : h1.turn = h.turn := by rw [eh1]
    have gs1 : h1.guests = h.guests := by rw [eh1]
    have w1 := w
    have hsr := x2.at_ (.sr u) hu
    have hsc : shelfC h1 u = cu h1 u := by unfold shelfC; rw [if_pos hr1]
    rw [show cont (CCk K) n r A1 h1 (.sr u) = .lst ((cu h1 u).map V.int) by show HO.lst ((shelfC h1 u).map V.int) = _; rw [hsc]] at hsr
    rw [← sa1.r]
    have tt : (h.turn : Int) = (h1.turn : Int) := by rw [t1]
    rw [tt]
    refine qx_asg (x_L (nl_list (v_ixL (vr_ (c := CCk K) RT x2 (v_var rfl) rl_shelves) (v_var rfl) (SqL.of (x2.at_ .shelves trivial)) (by omega) (by rw [Int.toNat_natCast, List.getElem?_map, List.getElem?_range hu]; rfl)) (.inl (SqL.of hsr))) (fun q hq => ?_))
    have sq := smN (o := HO.lst ((cu h1 u).map V.int)) hq
    have xq := x2.same sq
    refine x_v (vr_ (c := CCk K) RT xq (v_var rfl) rl_kept) (x_v (v_var rfl) ⟨A1.ad .kept, _, (h1.turn : Int), h1.turn, rfl, rfl, xq.at_ .kept trivial, ?_, ?_⟩)
    · rw [ixN_int (by omega) (by rw [List.length_map, List.length_range]; have := w2.tn; omega), Int.toNat_natCast]
    have nrk : A1.ad .rooms ≠ A1.ad .kept := xq.ne trivial trivial (fun e => by cases e)
    have ngk : A1.ad .guests ≠ A1.ad .kept := xq.ne trivial trivial (fun e => by cases e)
    obtain ⟨x3, m3⟩ := x2.come w2 hu hr1 (fun v hv => by rw [c1]; exact hst v (by rw [← gs1, ← t1]; exact hv)) hq
    refine q_setItemV (v_var rfl) (p := A1.ad .guests) (i := h1.turn) (xs := h1.guests.map gV) (val_fld (v_var rfl) (by rw [upd_ne nrk]; exact xq.at_ .rooms trivial) RT.cl (RT.no "guests" (by simp)) rl_guests) (v_var rfl) (by rw [upd_ne ngk]; exact xq.at_ .guests trivial) (by rw [List.length_map, w2.lg]; exact w2.tn) ?_
    have e2 : A1.ad .rooms = (withAd A1 (.kr h1.turn) q).ad .rooms := (withAd_ne (fun e => by cases e)).symm
    rw [e2]
    have sa2 : SameA A (withAd A1 (.kr h1.turn) q) := sa1.trans ⟨withAd_ne (fun e => by cases e), withAd_ne (fun e => by cases e), rfl, rfl⟩
    have m03 := m2.trans m3
    generalize withAd A1 (.kr h1.turn) q = A2 at x3 sa2 m03 ⊢
    generalize upd (upd (upd H2 q _) _ _) _ _ = H3 at x3 m03 ⊢
    refine qr_ RT x3 _ (v := .int (h1.swaps + 1)) (v_add (vr_ (c := CCk K) RT x3 (v_var rfl) rl_swaps) v_c) (v_var rfl) rp_swaps (fun t _ ht => cont_rooms A2 _ _ _ ht) rfl (fun H4 x4 m4 => ?_)
    have hgl : (h1.guests.set h1.turn (some u)).length = r := by rw [List.length_set]; exact w2.lg
    refine qr_ RT x4 _ (v := .int (((h1.turn + 1) % r : Nat) : Int)) (v_eqv (v_mod (v_add (v_var rfl) v_c) (v_cb (va_cons (vr_ (c := CCk K) RT x4 (v_var rfl) rl_guests) va_nil) (fun _ q => ⟨_, _, rfl, .inl (SqL.of (x4.at_ .guests trivial)), q⟩)) (by rw [List.length_map]; show (0 : Int) < ((h1.guests.set h1.turn (some u)).length : Int); rw [hgl]; have := w.r0; omega)) (by rw [List.length_map]; show V.int (((h1.turn : Int) + 1) % ((h1.guests.set h1.turn (some u)).length : Int)) = _; rw [hgl]; congr 1)) (v_var rfl) rp_turn (fun t _ ht => cont_rooms A2 _ _ _ ht) rfl (fun H5 x5 m5 => ?_)
    refine s_ret v_c (k A2 H5 sa2 ?_ (m03.trans (m4.trans m5)))
    subst eh1
    rw [w.lg]
    exact x5

theorem sc_settle : FnScope ["house"] ["house"] (defScope s_settle) := ⟨rfl, rfl, rfl, by decide +kernel, rfl, by decide +kernel, by decide +kernel⟩
theorem cal_settle (T : Tx K mg) : Cal P w K mg base 4 "settle" ["house"] (spSettle (CCk K)) := by
  refine cal_mk T 27 27 rfl rfl sc_settle (fun _ _ _ _ _ _ us hl => match us, hl with | [_], _ => rfl) (fun vs H Q E h => ?_) (fun f cdv A outer s H vs Q E hr h => ?_)
  · obtain ⟨n, r, A, h, rfl, x, w, hn8, sy, k⟩ := h
    rfl
  · obtain ⟨n, r, A, h, rfl, x, w, hn8, sy, k⟩ := h
    have M := T.mt
    have U := T.pt
    have HT : HTx K (CCk K).h := T.ht
    have RT : RTx K (CCk K).r := T.rt
    refine ⟨_, (pss_one (ps_if (PW.pt (pw_and (pt_cmpR op_isN1 (pe_fld (pv 0) rfl) pe_non (nomark _)) (pw_and1 (pt_truth (pe_fld (pv 0) rfl) (by intro _; rfl))))) (pss_cons (ps_fld (pv 0) (pe_bm PySem.F.plainAttrs_list PySem.F.slot_list_pop PySem.F.type_list_pop mt_popAt (pe_fld (pv 0) rfl) (pa_cons pe_int pa_nil)) rfl) (pss_cons (ps_fld (pv 0) (pe_fld (pv 0) rfl) rfl) (pss_cons (ps_expr (pe_cal (cal_enter (K := K) T) hr (by decide) rfl (pa_cons (pe_fld (pv 0) rfl) (pa_cons (pe_fld (pv 0) rfl) pa_nil)))) (pss_cons (ps_fld (pv 0) (pe_fld (pe_fld (pv 0) rfl) rfl) rfl) (pss_one (ps_fld (pv 0) (pe_fld (pe_fld (pv 0) rfl) rfl) rfl)))))) pss_nil)), ?_⟩
    unfold settleT at k
    cases hr : h.runs with
    | some u =>
      rw [hr] at k
      have vr : Val (tFld K (tVar 0) "runs") [some (.ref (A.ad .house))] H (gV h.runs) := (vh_ (c := CCk K) HT x (v_var rfl) hl_runs)
      rw [hr] at vr
      exact s_ifF0 (a_and (c := false) (a_t (v_isN vr v_c)) (fun c => absurd c (by simp [gV, nV]))) (by rfl) (k A H rfl sy x .refl)
    | none =>
    rw [hr] at k
    have vr : Val (tFld K (tVar 0) "runs") [some (.ref (A.ad .house))] H (gV h.runs) := (vh_ (c := CCk K) HT x (v_var rfl) hl_runs)
    rw [hr] at vr
    cases hw : h.row with
    | nil =>
      rw [hw] at k
      exact s_ifF0 (a_and (c := false) (a_t (v_isN vr v_c)) (fun _ => a_tru (vh_ (c := CCk K) HT x (v_var rfl) hl_row) (.inl ⟨_, SqL.of (x.at_ .row trivial), by rw [hw]; rfl⟩))) (by rfl) (k A H rfl sy x .refl)
    | cons u row =>
    rw [hw] at k
    dsimp only at k
    have hu : u < n := w.rb u (by rw [hw]; exact List.mem_cons_self)
    refine s_ifT (a_and (c := true) (a_t (v_isN vr v_c)) (fun _ => a_tru (vh_ (c := CCk K) HT x (v_var rfl) hl_row) (.inl ⟨_, SqL.of (x.at_ .row trivial), by rw [hw]; rfl⟩))) (by rfl) ?_
    refine qx_fldC (x_pop0 (x := nV u) (xs := row.map nV) (vh_ (c := CCk K) HT x (v_var rfl) hl_row) (by rw [x.at_ .row trivial]; show some (HO.lst (h.row.map nV)) = _; rw [hw]; rfl) v_c ?_)
    obtain ⟨x1, m1⟩ := x.setRow row
    refine x_v (v_var rfl) ⟨A.ad .house, _, A.dh, _, rfl, x1.at_ .house trivial, HT.cl, HT.no "runs" (by simp), by show 13 < 1000; decide, ?_⟩
    obtain ⟨x2, m2⟩ := x1.put (A' := A) (h' := { h with row := row, runs := some u }) (o := .ins (CCk K).h A.dh (putF "runs" (gV (some u)) (hfs A { h with row := row }))) .house trivial rfl (by rw [hp_runs]; rfl) (fun t _ ht => cont_house ht ⟨rfl, rfl, rfl, rfl, rfl, rfl⟩ ⟨rfl, rfl, rfl, rfl, rfl, rfl⟩) x1.dl x1.dt
    show tSeq _ _ _ _ (upd (upd H (A.ad .row) (.lst (row.map nV))) (A.ad .house) (.ins (CCk K).h A.dh (putF "runs" (gV (some u)) (hfs A { h with row := row }))))
    have m02 := m1.trans m2
    generalize upd (upd H (A.ad .row) (.lst (row.map nV))) (A.ad .house) (.ins (CCk K).h A.dh (putF "runs" (gV (some u)) (hfs A { h with row := row }))) = H2 at x2 m02 ⊢
    refine qh_ HT x2 A { h with runs := some u, row := row, left := h.quantum } (v := .int h.quantum) (vh_ (c := CCk K) HT x2 (v_var rfl) hl_quantum) (v_var rfl) rfl hp_left rfl (fun t _ ht => cont_house ht ⟨rfl, rfl, rfl, rfl, rfl, rfl⟩ ⟨rfl, rfl, rfl, rfl, rfl, rfl⟩) rfl rfl (fun H3 x3 m3 => ?_)
    have w3 : WfH n r { h with runs := some u, row := row, left := h.quantum } := by
      have z := wf_settle w
      have nd := w.rd
      rw [hw] at nd
      obtain ⟨n1, n2⟩ := List.nodup_cons.mp nd
      refine ⟨w.lp, w.ld, w.ls, w.lg, w.r0, w.tn, w.gu, w.gi, w.pw, fun v hv => ?_, fun v hv => ?_, n2, fun v hv => w.rb v (by rw [hw]; exact List.mem_cons_of_mem _ hv), fun v hv => ⟨(w.rr v (by rw [hw]; exact List.mem_cons_of_mem _ hv)).1, fun z => ?_⟩, fun v hv hr2 => ?_, fun z => (by cases z), fun v _ => ⟨w.q0, Int.le_refl _⟩, w.q0, w.b0⟩
      · cases hv; exact hu
      · cases hv; exact (w.rr u (by rw [hw]; exact List.mem_cons_self)).1
      · cases z; exact n1 hv
      · rcases w.ar v hv hr2 with h1 | h1
        · rw [hw] at h1
          rcases List.mem_cons.mp h1 with h2 | h2
          · exact .inr (by rw [h2])
          · exact .inl h2
        · rw [hr] at h1; cases h1
    refine q_do (va_cons (vh_ (c := CCk K) HT x3 (v_var rfl) hl_places) (va_cons (v_eqv (vh_ (c := CCk K) HT x3 (v_var rfl) hl_runs) (show gV (some u) = nV u from rfl)) va_nil)) ⟨n, r, A, _, u, rfl, x3, w3, hu, fun A4 H4 sa4 x4 m4 => ?_⟩
    dsimp only
    rw [← sa4.h]
    refine qh_ HT x4 { A4 with hsw := (enterT { h with runs := some u, row := row, left := h.quantum } u).swaps } (enterT { h with runs := some u, row := row, left := h.quantum } u) (v := .int (enterT { h with runs := some u, row := row, left := h.quantum } u).swaps) (vr_ (c := CCk K) RT x4 (vh_ (c := CCk K) HT x4 (v_var rfl) hl_places) rl_swaps) (v_var rfl) rfl hp_swaps rfl (fun t _ ht => cont_house ht ⟨rfl, rfl, rfl, rfl, rfl, rfl⟩ ⟨rfl, rfl, rfl, rfl, rfl, rfl⟩) rfl rfl (fun H5 x5 m5 => ?_)
    refine sh_ HT x5 { A4 with hsw := (enterT { h with runs := some u, row := row, left := h.quantum } u).swaps, htn := ((enterT { h with runs := some u, row := row, left := h.quantum } u).turn : Int) } (enterT { h with runs := some u, row := row, left := h.quantum } u) (v := .int ((enterT { h with runs := some u, row := row, left := h.quantum } u).turn : Int)) (vr_ (c := CCk K) RT x5 (vh_ (c := CCk K) HT x5 (v_var rfl) hl_places) rl_turn) (v_var rfl) rfl hp_turn rfl (fun t _ ht => cont_house ht ⟨rfl, rfl, rfl, rfl, rfl, rfl⟩ ⟨rfl, rfl, rfl, rfl, rfl, rfl⟩) rfl rfl (fun H6 x6 m6 => ?_)
    exact k { A4 with hsw := (enterT { h with runs := some u, row := row, left := h.quantum } u).swaps, htn := ((enterT { h with runs := some u, row := row, left := h.quantum } u).turn : Int) } H6 sa4.h ⟨rfl, rfl⟩ x6 (m02.trans ((m3.trans m4).trans (m5.trans m6)))

theorem sc_start : FnScope ["house", "user", "place"] ["house", "user", "place"] (defScope s_start) := ⟨rfl, rfl, rfl, by decide +kernel, rfl, by decide +kernel, by decide +kernel⟩
theorem cal_start (T : Tx K mg) : Cal P w K mg base 7 "start" ["house", "user", "place"] (spStart (CCk K)) := by
  refine cal_mk T 28 28 rfl rfl sc_start (fun _ _ _ _ _ _ us hl => match us, hl with | [_, _, _], _ => rfl) (fun vs H Q E h => ?_) (fun f cdv A outer s H vs Q E hr h => ?_)
  · obtain ⟨n, r, A, h, kk, u, p, rfl, x, w, lm, hk, hu, hn8, sy, p0, p1, k⟩ := h
    rfl
  · obtain ⟨n, r, A, h, kk, u, p, rfl, x, w, lm, hk, hu, hn8, sy, p0, p1, k⟩ := h
    have M := T.mt
    have U := T.pt
    have HT : HTx K (CCk K).h := T.ht
    have RT : RTx K (CCk K).r := T.rt
    refine ⟨_, (pss_cons (ps_expr (pe_cal (cal_event_told (K := K) T) hr (by decide) rfl (pa_cons (pv 0) (pa_cons (pv 1) (pa_cons (pe_tup (pa_cons pe_str (pa_cons (pv 2) pa_nil))) pa_nil))))) (pss_one (ps_expr (pe_cal (cal_settle (K := K) T) hr (by decide) rfl (pa_cons (pv 0) pa_nil))))), ?_⟩
    refine qx_drop (xc (va_2 (v_var rfl) (v_var rfl) (xt_tup ((va_cons v_c (va_cons (v_var rfl) va_nil)) _ ⟨k_line (by show 2 ≤ 1000; decide), fun T1 hT => ?_⟩))))
    have s1 := smN (o := HO.tup (evV (.start p))) hT
    have x1 := x.same s1
    refine ⟨n, r, A, h, kk, u, T1, .start p, rfl, x1, w, lm, hk, hu, hn8, upd_same, fun A2 H2 sa2 x2 m2 => ?_⟩
    have w2 := wf_event (e := .start p) w hu ⟨p0, p1⟩ (fun z => by cases z)
    exact s_do (va_cons (v_var rfl) va_nil) ⟨n, r, A2, _, by rw [sa2.h], x2, w2, hn8, sy.event sa2, fun A3 H3 e3 sy3 x3 m3 => k A3 H3 (e3.trans sa2.h) sy3 x3 ((Mv.same s1).trans (m2.trans m3))⟩

theorem sc_key : FnScope ["house", "user", "letter"] ["house", "user", "letter"] (defScope s_key) := ⟨rfl, rfl, rfl, by decide +kernel, rfl, by decide +kernel, by decide +kernel⟩
theorem cal_key (T : Tx K mg) : Cal P w K mg base 7 "key" ["house", "user", "letter"] (spKey (CCk K)) := by
  refine cal_mk T 29 29 rfl rfl sc_key (fun _ _ _ _ _ _ us hl => match us, hl with | [_, _, _], _ => rfl) (fun vs H Q E h => ?_) (fun f cdv A outer s H vs Q E hr h => ?_)
  · obtain ⟨n, r, A, h, kk, u, p, rfl, x, w, lm, hk, hu, hn8, sy, p0, p1, k⟩ := h
    rfl
  · obtain ⟨n, r, A, h, kk, u, p, rfl, x, w, lm, hk, hu, hn8, sy, p0, p1, k⟩ := h
    have M := T.mt
    have U := T.pt
    have HT : HTx K (CCk K).h := T.ht
    have RT : RTx K (CCk K).r := T.rt
    refine ⟨_, (pss_cons (ps_expr (pe_cal (cal_event_told (K := K) T) hr (by decide) rfl (pa_cons (pv 0) (pa_cons (pv 1) (pa_cons (pe_tup (pa_cons pe_str (pa_cons (pv 2) pa_nil))) pa_nil))))) (pss_one (ps_expr (pe_cal (cal_settle (K := K) T) hr (by decide) rfl (pa_cons (pv 0) pa_nil))))), ?_⟩
    refine qx_drop (xc (va_2 (v_var rfl) (v_var rfl) (xt_tup ((va_cons v_c (va_cons (v_var rfl) va_nil)) _ ⟨k_line (by show 2 ≤ 1000; decide), fun T1 hT => ?_⟩))))
    have s1 := smN (o := HO.tup (evV (.key p))) hT
    have x1 := x.same s1
    refine ⟨n, r, A, h, kk, u, T1, .key p, rfl, x1, w, lm, hk, hu, hn8, upd_same, fun A2 H2 sa2 x2 m2 => ?_⟩
    have w2 := wf_event (e := .key p) w hu ⟨p0, p1⟩ (fun z => by cases z)
    exact s_do (va_cons (v_var rfl) va_nil) ⟨n, r, A2, _, by rw [sa2.h], x2, w2, hn8, sy.event sa2, fun A3 H3 e3 sy3 x3 m3 => k A3 H3 (e3.trans sa2.h) sy3 x3 ((Mv.same s1).trans (m2.trans m3))⟩

theorem sc_tick : FnScope ["house", "user"] ["house"] (defScope s_tick) := ⟨rfl, rfl, rfl, by decide +kernel, rfl, by decide +kernel, by decide +kernel⟩
theorem cal_tick (T : Tx K mg) : Cal P w K mg base 7 "tick" ["house"] (spTick (CCk K)) := by
  refine cal_mk T 30 30 rfl rfl sc_tick (fun _ _ _ _ _ _ us hl => match us, hl with | [_], _ => rfl) (fun vs H Q E h => ?_) (fun f cdv A outer s H vs Q E hr h => ?_)
  · obtain ⟨n, r, A, h, kk, rfl, x, w, lm, hk, hn8, sy, k⟩ := h
    rfl
  · obtain ⟨n, r, A, h, kk, rfl, x, w, lm, hk, hn8, sy, k⟩ := h
    have M := T.mt
    have U := T.pt
    have HT : HTx K (CCk K).h := T.ht
    have RT : RTx K (CCk K).r := T.rt
    refine ⟨_, (pss_cons (ps_fld (pv 0) (pe_op op_add (pe_fld (pv 0) rfl) pe_int) rfl) (pss_cons (ps_for PassesOwn.never rfl (pi_range1 (by rfl) (T.free 53) (pa_cons (pe_callB call_len_seq (by rfl) (T.free 51) PySem.boot_len (pa_cons (pe_fld (pv 0) rfl) pa_nil)) pa_nil)) (pg_name (i := 1) sc_tick.nd rfl (Or.inl rfl)) (pss_one (ps_expr (pe_cal (cal_event_told (K := K) T) hr (by decide) rfl (pa_cons (pv 0) (pa_cons (pv 1) (pa_cons (pe_tup (pa_cons pe_str pa_nil)) pa_nil))))))) (pss_one (ps_if (pt_cmpR op_notN1 (pe_fld (pv 0) rfl) pe_non (nomark _)) (pss_cons (ps_fld (pv 0) (pe_op op_sub (pe_fld (pv 0) rfl) pe_int) rfl) (pss_one (ps_if (pt_cmpR op_eq (pe_fld (pv 0) rfl) pe_int (nomark _)) (pss_cons (ps_expr (pe_bm PySem.F.plainAttrs_list PySem.F.slot_list_append PySem.F.type_list_append mt_append (pe_fld (pv 0) rfl) (pa_cons (pe_fld (pv 0) rfl) pa_nil))) (pss_one (ps_fld (pv 0) pe_non rfl))) pss_nil))) pss_nil)))), ?_⟩
    refine qh_ HT x A { h with ticks := h.ticks + 1 } (v := .int (h.ticks + 1)) (v_add (vh_ (c := CCk K) HT x (v_var rfl) hl_ticks) v_c) (v_var rfl) rfl hp_ticks rfl (fun t _ ht => cont_house ht ⟨rfl, rfl, rfl, rfl, rfl, rfl⟩ ⟨rfl, rfl, rfl, rfl, rfl, rfl⟩) rfl rfl (fun H1 x1 m1 => ?_)
    have lmN := lm_tickN lm (by rw [w.ld, w.lp])
    rw [w.lp] at lmN
    refine q_forR (n := (n : Int)) (va_cons (v_eqv (v_cb (va_cons (vh_ (c := CCk K) HT x1 (v_var rfl) hl_people) va_nil) (fun _ q => ⟨_, _, rfl, .inl (SqL.of (x1.at_ .people trivial)), q⟩)) (by rw [List.length_map, List.length_range])) va_nil) (by omega) (fun i σ' H' => ∃ A' y, i ≤ n ∧ SameA A A' ∧ HoAt (CCk K) n r H' A' (tickN h i) ∧ Mv (footH n r A) H (footH n r A') H' ∧ σ' = [some (.ref (A.ad .house)), y]) ⟨A, _, Nat.zero_le _, .refl, x1, m1, rfl⟩ (fun (i : Nat) σ' H' hi pv => ?_) (fun σ' H' pv => ?_)
    · obtain ⟨A', y, hin, sa, xi, mi, rfl⟩ := pv
      have hin2 : i < n := by omega
      refine sx_drop (xc (va_2 (v_var rfl) (v_var rfl) (xt_tup ((va_cons v_c va_nil) _ ⟨k_line (by show 1 ≤ 1000; decide), fun T1 hT => ?_⟩))))
      have s1 := smN (o := HO.tup (evV .tick)) hT
      refine ⟨n, r, A', tickN h i, kk + i, i, T1, .tick, by rw [sa.h]; rfl, xi.same s1, wf_tickN w i hin, (lmN i hin).1, by omega, hin2, hn8, upd_same, fun A2 H2 sa2 x2 m2 => ?_⟩
      exact ⟨A2, _, hin2, sa.trans sa2, x2, (mi.trans (.same s1)).trans m2, rfl⟩
    obtain ⟨A2, y, hin, sa, x2, m2, rfl⟩ := pv
    rw [Int.toNat_natCast] at x2
    have w2 := wf_tickN w n (Nat.le_refl _)
    unfold tickT at k
    rw [w.lp] at k
    have sy2 : Syn A2 (tickN h n) := by
      have : ∀ i, (tickN h i).swaps = h.swaps ∧ (tickN h i).turn = h.turn := fun i => by
        induction i with
        | zero => exact ⟨rfl, rfl⟩
        | succ i ih => exact ⟨(event_same (h := tickN h i) (u := i) (e := .tick)).swaps.trans ih.1, (event_same (h := tickN h i) (u := i) (e := .tick)).turn.trans ih.2⟩
      exact ⟨by rw [sa.sw, (this n).1]; exact sy.sw, by rw [sa.tn, (this n).2]; exact sy.tn⟩
    generalize tickN h n = h2 at k x2 w2 sy2
    rw [← sa.h]
    have vr : Val (tFld K (tVar 0) "runs") [some (.ref (A2.ad .house)), y] H' (gV h2.runs) := (vh_ (c := CCk K) HT x2 (v_var rfl) hl_runs)
    rcases runs_or h2 with hr | ⟨u, hr⟩
    · rw [turn_none hr] at k
      rw [hr] at vr
      exact s_ifF0 (a_t (v_notN vr v_c)) (by rfl) (k A2 H' sa.h sy2 x2 m2)
    · rw [turn_some hr] at k
      rw [hr] at vr
      refine s_ifT (a_t (v_notN vr v_c)) (by rfl) ?_
      refine qh_ HT x2 A2 { h2 with left := h2.left - 1 } (v := .int (h2.left - 1)) (v_sub (vh_ (c := CCk K) HT x2 (v_var rfl) hl_left) v_c) (v_var rfl) rfl hp_left rfl (fun t _ ht => cont_house ht ⟨rfl, rfl, rfl, rfl, rfl, rfl⟩ ⟨rfl, rfl, rfl, rfl, rfl, rfl⟩) rfl rfl (fun H3 x3 m3 => ?_)
      refine s_if (a_t (v_eqI (vh_ (c := CCk K) HT x3 (v_var rfl) hl_left) v_c)) (fun c => ?_) (fun c => ?_)
      · have c := of_decide_eq_true c
        rw [if_pos c] at k
        have hrow : h2.row.length ≤ 8 := by
          have := nd_le w2.rd w2.rb
          omega
        refine qx_drop (x_append (xs := h2.row.map nV) (v := nV u) (vh_ (c := CCk K) HT x3 (v_var rfl) hl_row) (x3.at_ .row trivial) (by rw [List.length_map]; omega) (v_eqv (vh_ (c := CCk K) HT x3 (v_var rfl) hl_runs) (by show gV h2.runs = _; rw [hr]; rfl)) ?_)
        obtain ⟨x4, m4⟩ := x3.setRow (h2.row ++ [u])
        rw [show h2.row.map nV ++ [nV u] = (h2.row ++ [u]).map nV by rw [List.map_append]; rfl]
        refine sh_ HT x4 A2 { h2 with left := h2.left - 1, row := h2.row ++ [u], runs := none } (v := gV none) v_c (v_var rfl) rfl hp_runs rfl (fun t _ ht => cont_house ht ⟨rfl, rfl, rfl, rfl, rfl, rfl⟩ ⟨rfl, rfl, rfl, rfl, rfl, rfl⟩) rfl rfl (fun H5 x5 m5 => ?_)
        refine k A2 H5 sa.h ⟨sy2.sw, sy2.tn⟩ ?_ (m2.trans (m3.trans (m4.trans m5)))
        have : h2.left - 1 = 0 := c
        rw [this] at x5
        exact x5
      · have c := of_decide_eq_false c
        rw [if_neg c] at k
        exact s_next (k A2 H3 sa.h ⟨sy2.sw, sy2.tn⟩ x3 (m2.trans m3))

theorem sc_run : FnScope ["house", "count", "k"] ["house", "count"] (defScope s_run) := ⟨rfl, rfl, rfl, by decide +kernel, rfl, by decide +kernel, by decide +kernel⟩
theorem cal_run (T : Tx K mg) : Cal P w K mg base 8 "run" ["house", "count"] (spRun (CCk K)) := by
  refine cal_mk T 31 31 rfl rfl sc_run (fun _ _ _ _ _ _ us hl => match us, hl with | [_, _], _ => rfl) (fun vs H Q E h => ?_) (fun f cdv A outer s H vs Q E hr h => ?_)
  · obtain ⟨n, r, A, h, kk, m, rfl, x, w, lm, hk, hn8, sy, k⟩ := h
    rfl
  · obtain ⟨n, r, A, h, kk, m, rfl, x, w, lm, hk, hn8, sy, k⟩ := h
    have M := T.mt
    have U := T.pt
    have HT : HTx K (CCk K).h := T.ht
    have RT : RTx K (CCk K).r := T.rt
    refine ⟨_, (pss_one (ps_for PassesOwn.never rfl (pi_range1 (by rfl) (T.free 53) (pa_cons (pv 1) pa_nil)) (pg_name (i := 2) sc_run.nd rfl (Or.inl rfl)) (pss_cons (ps_fld (pv 0) (pe_op op_add (pe_fld (pv 0) rfl) pe_int) rfl) (C8.pss_cut (ps_if (pt_cmpR op_isN1 (pe_fld (pv 0) rfl) pe_non (nomark _)) (pss_one (ps_fld (pv 0) (pe_op op_add (pe_fld (pv 0) rfl) pe_int) rfl)) (pss_one (ps_expr (pe_cal (cal_event_told (K := K) T) hr (by decide) rfl (pa_cons (pv 0) (pa_cons (pe_fld (pv 0) rfl) (pa_cons (pe_tup (pa_cons pe_str pa_nil)) pa_nil))))))) (C8.pss_cut (ps_if (pt_cmpR op_eq (pe_op op_mod (pe_fld (pv 0) rfl) (pe_fld (pv 0) rfl)) pe_int (nomark _)) (pss_one (ps_expr (pe_cal (cal_tick (K := K) T) hr (by decide) rfl (pa_cons (pv 0) pa_nil)))) pss_nil) (pss_one (ps_expr (pe_cal (cal_settle (K := K) T) hr (by decide) rfl (pa_cons (pv 0) pa_nil))))))))), ?_⟩
    refine s_forR (n := (m : Int)) (va_cons (v_var rfl) va_nil) (by omega) (fun i σ' H' => ∃ A' y, A'.ad .house = A.ad .house ∧ Syn A' (runT h i) ∧ HoAt (CCk K) n r H' A' (runT h i) ∧ Mv (footH n r A) H (footH n r A') H' ∧ σ' = [some (.ref (A.ad .house)), some (.int (m : Int)), y]) ⟨A, _, rfl, sy, x, .refl, rfl⟩ (fun (i : Nat) σ' H' hi pv => ?_) (fun σ' H' pv => by
      obtain ⟨A2, y, e2, sy2, x2, m2, rfl⟩ := pv
      rw [Int.toNat_natCast] at x2 sy2
      exact k A2 H' e2 sy2 x2 m2)
    obtain ⟨A1, y, e1, sy1, x1, m1, rfl⟩ := pv
    have wi := wf_runT w i
    have lmi := lm_run lm w hn8 i
    have hi2 : i < m := by omega
    show (_ : TS) ⟨fun σ' H' => ∃ A' y, A'.ad .house = A.ad .house ∧ Syn A' (stepT (runT h i)) ∧ HoAt (CCk K) n r H' A' (stepT (runT h i)) ∧ Mv (footH n r A) H (footH n r A') H' ∧ σ' = [some (.ref (A.ad .house)), some (.int (m : Int)), y], _, _, _⟩ _ _
    generalize runT h i = hi0 at sy1 x1 wi lmi
    rw [← e1]
    refine qh_ HT x1 A1 { hi0 with steps := hi0.steps + 1 } (v := .int (hi0.steps + 1)) (v_add (vh_ (c := CCk K) HT x1 (v_var rfl) hl_steps) v_c) (v_var rfl) rfl hp_steps rfl (fun t _ ht => cont_house ht ⟨rfl, rfl, rfl, rfl, rfl, rfl⟩ ⟨rfl, rfl, rfl, rfl, rfl, rfl⟩) rfl rfl (fun H2 x2 m2 => ?_)
    refine q_rel (fun σ' H' => ∃ A', SameA A1 A' ∧ HoAt (CCk K) n r H' A' (step1 hi0) ∧ Mv (footH n r A) H (footH n r A') H' ∧ σ' = [some (.ref (A1.ad .house)), some (.int (m : Int)), some (.int (i : Int))]) ?_ ?_
    · have vr : Val (tFld K (tVar 0) "runs") [some (.ref (A1.ad .house)), some (.int (m : Int)), some (.int (i : Int))] H2 (gV hi0.runs) := (vh_ (c := CCk K) HT x2 (v_var rfl) hl_runs)
      rcases runs_or hi0 with hr | ⟨u, hr⟩
      · rw [step1_none hr]
        rw [hr] at vr
        refine s_ifT (a_t (v_isN vr v_c)) (by rfl) ?_
        exact sh_ HT x2 A1 { hi0 with steps := hi0.steps + 1, idle := hi0.idle + 1 } (v := .int (hi0.idle + 1)) (v_add (vh_ (c := CCk K) HT x2 (v_var rfl) hl_idle) v_c) (v_var rfl) rfl hp_idle rfl (fun t _ ht => cont_house ht ⟨rfl, rfl, rfl, rfl, rfl, rfl⟩ ⟨rfl, rfl, rfl, rfl, rfl, rfl⟩) rfl rfl (fun H3 x3 m3 => ⟨A1, .refl, x3, m1.trans (m2.trans m3), rfl⟩)
      · rw [step1_some hr]
        rw [hr] at vr
        refine s_ifF (a_t (v_isN vr v_c)) (by rfl) ?_
        refine sx_drop (xc (va_2 (v_var rfl) vr (xt_tup ((va_cons v_c va_nil) _ ⟨k_line (by show 1 ≤ 1000; decide), fun T1 hT => ?_⟩))))
        have s1 := smN (o := HO.tup (evV .step)) hT
        refine ⟨n, r, A1, _, kk + 9 * i, u, T1, .step, rfl, x2.same s1, wf_count wi _ _, lm_same lmi rfl rfl, by omega, wi.ru u hr, hn8, upd_same, fun A3 H3 sa3 x3 m3 => ?_⟩
        exact ⟨A3, sa3, x3, m1.trans (m2.trans ((Mv.same s1).trans m3)), rfl⟩
    rintro _ H3 ⟨A3, sa3, x3, m3, rfl⟩
    have w3 := wf_step1 wi
    have lm3 := lm_step1 lmi wi
    have st3 : (step1 hi0).steps = hi0.steps + 1 ∧ (step1 hi0).beat = hi0.beat ∧ (step1 hi0).swaps = hi0.swaps ∧ (step1 hi0).turn = hi0.turn := by
      rcases runs_or hi0 with hr | ⟨u, hr⟩
      · rw [step1_none hr]; exact ⟨rfl, rfl, rfl, rfl⟩
      · rw [step1_some hr]
        have e := event_same (h := { hi0 with steps := hi0.steps + 1 }) (u := u) (e := .step)
        exact ⟨e.steps, e.beat, e.swaps, e.turn⟩
    have sy3 : Syn A3 (step1 hi0) := ⟨by rw [sa3.sw, st3.2.2.1]; exact sy1.sw, by rw [sa3.tn, st3.2.2.2]; exact sy1.tn⟩
    have eS : stepT hi0 = settleT (step2 hi0) := rfl
    rw [eS]
    rw [← sa3.h]
    refine q_rel (fun σ' H' => ∃ A', A'.ad .house = A3.ad .house ∧ Syn A' (step2 hi0) ∧ HoAt (CCk K) n r H' A' (step2 hi0) ∧ Mv (footH n r A) H (footH n r A') H' ∧ σ' = [some (.ref (A3.ad .house)), some (.int (m : Int)), some (.int (i : Int))]) ?_ ?_
    · have b0 := w3.b0
      unfold step2
      refine s_if (a_t (v_eqI (v_mod (vh_ (c := CCk K) HT x3 (v_var rfl) hl_steps) (vh_ (c := CCk K) HT x3 (v_var rfl) hl_beat) (by omega)) v_c)) (fun c => ?_) (fun c => ?_)
      · have c := of_decide_eq_true c
        rw [st3.1, st3.2.1] at c
        rw [if_pos c]
        exact s_do (va_cons (v_var rfl) va_nil) ⟨n, r, A3, step1 hi0, _, rfl, x3, w3, lm3, by omega, hn8, sy3, fun A4 H4 e4 sy4 x4 m4 => ⟨A4, e4, sy4, x4, m3.trans m4, rfl⟩⟩
      · have c := of_decide_eq_false c
        rw [st3.1, st3.2.1] at c
        rw [if_neg c]
        exact s_next ⟨A3, rfl, sy3, x3, m3, rfl⟩
    rintro _ H4 ⟨A4, e4, sy4, x4, m4, rfl⟩
    have w4 : WfH n r (step2 hi0) := by
      unfold step2
      split
      · exact wf_tick w3
      · exact w3
    refine s_do (va_cons (v_var rfl) va_nil) ⟨n, r, A4, step2 hi0, by rw [e4], x4, w4, hn8, sy4, fun A5 H5 e5 sy5 x5 m5 => ⟨A5, _, e5.trans e4, sy5, x5, m4.trans m5, rfl⟩⟩
end
/-! ### loads, switches, what is seen -/
section
variable {c : CC} {n r : Nat} {H H' H1 : Hp} {A A' : HA} {h h' : Ho} {s t : Slot} {u v k : Nat} {F : FS} {W : Hp → Prop} {b q : Addr} {e : Ev} {X Y : List Int} {sw : Int}
theorem cont_load (w : WfH n r h) (hu : u < n) (hs : okS n r s) (ns : s ≠ csl h u) (A : HA) : cont c n r A (loadT h u X) s = cont c n r A h s := by
  have hul : u < h.ps.length := by rw [w.lp]; exact hu
  have pe : pu (loadT h u X) u = { pu h u with m := { (pu h u).m with cells := X } } := pu_set hul
  by_cases hm : s ∈ pSlots h u
  · simp only [pSlots, List.mem_cons, List.not_mem_nil, or_false] at hm
    rcases hm with rfl | rfl | rfl | rfl | rfl | rfl | rfl | rfl | rfl | rfl | rfl
    · show HO.ins _ _ (pfs _ (pu (loadT h u X) u)) = _; rw [pe]; rfl
    · show HO.ins _ _ (mfs _ (pu (loadT h u X) u).m) = _; rw [pe]; rfl
    · exact absurd rfl ns
    · show HO.lst ((pu (loadT h u X) u).inbox.map V.int) = _; rw [pe]; rfl
    · show HO.lst ((pu (loadT h u X) u).outbox.map V.int) = _; rw [pe]; rfl
    · show HO.lst ((pu (loadT h u X) u).paper.map V.int) = _; rw [pe]; rfl
    · rfl
    · show HO.lst (((pu (loadT h u X) u).blocks.getD 0 []).map V.int) = _; rw [pe]; rfl
    · show HO.lst (((pu (loadT h u X) u).blocks.getD 1 []).map V.int) = _; rw [pe]; rfl
    · show HO.lst (((pu (loadT h u X) u).blocks.getD 2 []).map V.int) = _; rw [pe]; rfl
    · show HO.lst (((pu (loadT h u X) u).blocks.getD 3 []).map V.int) = _; rw [pe]; rfl
  · exact cont_other w hu hs hm A
theorem cont_sw (w : WfH n r h) (hu : u < n) (hs : okS n r s) (ns : s ≠ .pr u 0) (A : HA) : cont c n r A (switchT h u sw) s = cont c n r A h s := by
  have hul : u < h.ps.length := by rw [w.lp]; exact hu
  have pe : pu (switchT h u sw) u = { pu h u with sw := sw } := pu_set hul
  by_cases hm : s ∈ pSlots h u
  · simp only [pSlots, List.mem_cons, List.not_mem_nil, or_false] at hm
    rcases hm with rfl | rfl | rfl | rfl | rfl | rfl | rfl | rfl | rfl | rfl | rfl
    · exact absurd rfl ns
    · show HO.ins _ _ (mfs _ (pu (switchT h u sw) u).m) = _; rw [pe]; rfl
    · have := cont_csl c n r A (switchT h u sw) u
      refine this.trans ((cont_csl c n r A h u).symm ▸ ?_)
      show HO.lst ((cu (switchT h u sw) u).map V.int) = HO.lst ((cu h u).map V.int)
      unfold cu; rw [pe]
    · show HO.lst ((pu (switchT h u sw) u).inbox.map V.int) = _; rw [pe]; rfl
    · show HO.lst ((pu (switchT h u sw) u).outbox.map V.int) = _; rw [pe]; rfl
    · show HO.lst ((pu (switchT h u sw) u).paper.map V.int) = _; rw [pe]; rfl
    · rfl
    · show HO.lst (((pu (switchT h u sw) u).blocks.getD 0 []).map V.int) = _; rw [pe]; rfl
    · show HO.lst (((pu (switchT h u sw) u).blocks.getD 1 []).map V.int) = _; rw [pe]; rfl
    · show HO.lst (((pu (switchT h u sw) u).blocks.getD 2 []).map V.int) = _; rw [pe]; rfl
    · show HO.lst (((pu (switchT h u sw) u).blocks.getD 3 []).map V.int) = _; rw [pe]; rfl
  · exact cont_other w hu hs hm A
theorem cu_load (w : WfH n r h) (hu : u < n) : cu (loadT h u X) u = X := by
  have hul : u < h.ps.length := by rw [w.lp]; exact hu
  have pe : pu (loadT h u X) u = { pu h u with m := { (pu h u).m with cells := X } } := pu_set hul
  unfold cu; rw [pe]
theorem HoAt.cells (x : HoAt c n r H A (loadT h u X)) (w : WfH n r h) (hu : u < n) (Y : List Int) : HoAt c n r (upd H (A.ad (csl h u)) (.lst (Y.map V.int))) A (loadT h u Y) ∧ Mv (footH n r A) H (footH n r A) (upd H (A.ad (csl h u)) (.lst (Y.map V.int))) :=
  x.put (A' := A) (h' := loadT h u Y) (csl h u) (csl_ok w hu) rfl (by
    have := cont_csl c n r A (loadT h u Y) u
    rw [cu_load w hu] at this; exact this) (fun t ht hn => (cont_load w hu ht hn A).trans (cont_load w hu ht hn A).symm) x.dl x.dt
theorem load_self (hu : u < h.ps.length) : loadT h u (cu h u) = h := by
  have e : h.ps.set u { pu h u with m := { (pu h u).m with cells := cu h u } } = h.ps := by
    have e1 : ({ pu h u with m := { (pu h u).m with cells := cu h u } } : Pn) = pu h u := rfl
    rw [e1]
    apply List.ext_getElem?
    intro j
    by_cases c : u = j
    · subst c
      rw [List.getElem?_set_self hu]
      unfold pu
      rw [List.getD_eq_getElem?_getD, List.getElem?_eq_getElem hu]; rfl
    · rw [List.getElem?_set_ne c]
  unfold loadT
  rw [e]
theorem take_drop_set {α : Type} {xs ys : List α} {i : Nat} {a : α} (hx : xs[i]? = some a) (hl : i < ys.length) : (xs.take i ++ ys.drop i).set i a = xs.take (i + 1) ++ ys.drop (i + 1) := by
  have hi : i < xs.length := (List.getElem?_eq_some_iff.mp hx).1
  have e1 : (xs.take i).length = i := by rw [List.length_take]; omega
  rw [List.set_append_right _ _ (by rw [e1]; exact Nat.le_refl _), e1, Nat.sub_self, List.take_add_one, hx, List.drop_eq_getElem_cons hl, List.set_cons_zero, List.append_assoc]
  rfl
/-- the house in a world: up to where machines point -/
def HW (c : CC) (n r : Nat) (A : HA) (h : Ho) : Hp → Prop := fun H => ∃ A', A'.ad = A.ad ∧ A'.dts = A.dts ∧ A'.hsw = A.hsw ∧ A'.htn = A.htn ∧ HoAt c n r H A' h
theorem HoAt.hw (x : HoAt c n r H A h) : HW c n r A h H := ⟨A, rfl, rfl, rfl, rfl, x⟩
theorem foot_eq (e : A'.ad = A.ad) : footH n r A' = footH n r A := by unfold footH; rw [e]
theorem HW.noT (w : HW c n r A h H) : ∀ b, footH n r A b → NoTup H b := by
  obtain ⟨A', e, _, _, _, x⟩ := w
  rw [← foot_eq e]; exact x.noT
theorem HW.fa (w : HW c n r A h H) : FA (footH n r A) H := by
  obtain ⟨A', e, _, _, _, x⟩ := w
  rw [← foot_eq e]; exact x.fa
theorem woH : Wo (footH n r A) (HW c n r A h) := ⟨fun H H' k t w => by
  obtain ⟨A', e, e2, e3, e4, x⟩ := w
  exact ⟨A', e, e2, e3, e4, x.loc (by rw [foot_eq e]; exact k) t⟩⟩
theorem okH (x : HoAt c n r H A h) : Ok (footH n r A) (HW c n r A h) H := ⟨x.fa, x.hw⟩
/-- a house with its own part of a world -/
structure InW (c : CC) (n r : Nat) (A : HA) (h : Ho) (F : FS) (W : Hp → Prop) : Prop where
  sub : ∀ b, footH n r A b → F b
  up : ∀ H, W H → HW c n r A h H
  back : ∀ H H', W H → HW c n r A h H' → Mv (footH n r A) H (footH n r A) H' → W H'
  no : ∀ H, W H → ∀ b, F b → NoTup H b
theorem InW.tn {F1 : FS} {W1 : Hp → Prop} (iw : InW c n r A h F W) (tn : Tn F W H F1 W1 H1) : InW c n r A h F1 W1 :=
  ⟨fun b f => tn.sub b (iw.sub b f), fun H w1 => iw.up H (tn.w _ w1), fun H H' w1 hw m => tn.bk H H' w1 (iw.back H H' (tn.w _ w1) hw m) (fun b o n e => m.keep b o (fun f => n (iw.sub b f)) e), fun H w1 b f => (tn.nt H w1 b f).elim (iw.no H (tn.w _ w1) b) (fun ⟨_, e⟩ => .lst e)⟩
theorem inW1 : InW c n r A h (footH n r A) (HW c n r A h) := ⟨fun _ f => f, fun _ w => w, fun _ _ _ w _ => w, fun _ w => w.noT⟩
end
def preSeen (c : CC) (vs : List V) (H : Hp) (F : FS) (W : Hp → Prop) (d : PyData) : Prop := ∃ (n r : Nat) (A : HA) (h : Ho) (u : Nat), vs = [.ref (A.ad .house), nV u] ∧ InW c n r A h F W ∧ WfH n r h ∧ u < n ∧ d = shotD (pu h u)
def preDiary (c : CC) (vs : List V) (H : Hp) (F : FS) (W : Hp → Prop) (ds : List PyData) : Prop := ∃ (n r : Nat) (A : HA) (h : Ho) (u : Nat), vs = [.ref (A.ad .house), nV u] ∧ InW c n r A h F W ∧ u < n ∧ ds = (dy h u).map evD
def optD : Option Nat → PyData
  | none => .none
  | some i => .int (i : Int)
def preRoomOf (c : CC) (vs : List V) (H : Hp) (F : FS) (W : Hp → Prop) (d : PyData) : Prop := ∃ (n r : Nat) (A : HA) (h : Ho) (u : Nat), vs = [.ref (A.ad .house), nV u] ∧ InW c n r A h F W ∧ u < n ∧ d = optD (roomH h u)
def spGive (c : CC) : Sp := fun vs H Q _ => ∃ (n r : Nat) (A : HA) (h : Ho) (u : Nat) (a : Addr) (cs : List Int), vs = [.ref (A.ad .rooms), nV u, .ref a] ∧ HoAt c n r H A h ∧ WfH n r h ∧ u < n ∧ H a = some (.lst (cs.map V.int)) ∧ ¬ footH n r A a ∧ cs.length = 64 ∧ ∀ H', HoAt c n r H' A (loadT h u cs) → Mv (footH n r A) H (footH n r A) H' → Q .non H'
def spLoad (c : CC) : Sp := fun vs H Q _ => ∃ (n r : Nat) (A : HA) (h : Ho) (u : Nat) (a : Addr) (cs : List Int), vs = [.ref (A.ad .house), nV u, .ref a] ∧ HoAt c n r H A h ∧ WfH n r h ∧ u < n ∧ H a = some (.lst (cs.map V.int)) ∧ ¬ footH n r A a ∧ cs.length = 64 ∧ ∀ H', HoAt c n r H' A (loadT h u cs) → Mv (footH n r A) H (footH n r A) H' → Q .non H'
def spSw (c : CC) : Sp := fun vs H Q _ => ∃ (n r : Nat) (A : HA) (h : Ho) (u : Nat) (sw : Int), vs = [.ref (A.ad .house), nV u, .int sw] ∧ HoAt c n r H A h ∧ WfH n r h ∧ u < n ∧ ∀ H', HoAt c n r H' A (switchT h u sw) → Mv (footH n r A) H (footH n r A) H' → Q .non H'
section
variable {P : Program} {w : World} {K : PySem.W.Frag} {mg : Str → Option Value} {base : Heap}

theorem sc_give_cells : FnScope ["rooms", "user", "cells", "mine", "k"] ["rooms", "user", "cells"] (defScope s_give_cells) := ⟨rfl, rfl, rfl, by decide +kernel, rfl, by decide +kernel, by decide +kernel⟩
theorem cal_give_cells (T : Tx K mg) : Cal P w K mg base 4 "give_cells" ["rooms", "user", "cells"] (spGive (CCk K)) := by
  refine cal_mk T 22 22 rfl rfl sc_give_cells (fun _ _ _ _ _ _ us hl => match us, hl with | [_, _, _], _ => rfl) (fun vs H Q E h => ?_) (fun f cdv A outer s H vs Q E hr h => ?_)
  · obtain ⟨n, r, A, h, u, a, cs, rfl, x, w, hu, ha, na, hl, k⟩ := h
    rfl
  · obtain ⟨n, r, A, h, u, a, cs, rfl, x, w, hu, ha, na, hl, k⟩ := h
    have M := T.mt
    have U := T.pt
    have HT : HTx K (CCk K).h := T.ht
    have RT : RTx K (CCk K).r := T.rt
    refine ⟨_, (pss_cons (ps_set (i := 3) sc_give_cells.nd rfl (Or.inl rfl) (pe_cal (cal_cells_of (K := K) T) hr (by decide) rfl (pa_cons (pv 0) (pa_cons (pv 1) pa_nil)))) (pss_one (ps_for PassesOwn.never rfl (pi_range1 (by rfl) (T.free 53) (pa_cons pe_int pa_nil)) (pg_name (i := 4) sc_give_cells.nd rfl (Or.inl rfl)) (pss_one (ps_asg (pe_ix ix_list (pv 2) (pv 4) (fun _ _ => rfl)) (pg_sub (pv 3) (pv 4) set_list)))))), ?_⟩
    have hul : u < h.ps.length := by rw [w.lp]; exact hu
    have hcl : (cu h u).length = 64 := (w.pw u hu).1.wm.len
    refine q_setc (va_cons (v_var rfl) (va_cons (v_var rfl) va_nil)) ⟨n, r, A, h, u, rfl, x, w, hu, fun H1 s1 => ?_⟩
    have x1 := x.same s1
    refine s_forR (n := 64) (va_cons v_c va_nil) (by decide) (fun i σ' H' => ∃ y, σ' = [some (.ref (A.ad .rooms)), some (nV u), some (.ref a), some (.ref (A.ad (csl h u))), y] ∧ i ≤ 64 ∧ HoAt (CCk K) n r H' A (loadT h u (cs.take i ++ (cu h u).drop i)) ∧ Mv (footH n r A) H (footH n r A) H') ⟨_, rfl, by decide, by rw [List.take_zero, List.drop_zero, List.nil_append, load_self hul]; exact x1, .same s1⟩ (fun (i : Nat) σ' H' hi pv => ?_) (fun σ' H' pv => ?_)
    · obtain ⟨y, rfl, _, xi, mi⟩ := pv
      have hi64 : i < 64 := by omega
      have hai := mi.keep _ _ na ha
      have hcs : cs[i]? = some (cs.getD i 0) := by rw [List.getD_eq_getElem?_getD, List.getElem?_eq_getElem (by omega)]; rfl
      have hc := xi.at_ (csl h u) (csl_ok w hu)
      have hc : H' (A.ad (csl h u)) = some (.lst ((cs.take i ++ (cu h u).drop i).map V.int)) := by
        have e := cont_csl (CCk K) n r A (loadT h u (cs.take i ++ (cu h u).drop i)) u
        rw [cu_load w hu] at e
        exact hc.trans (congrArg some e)
      refine s_setItem (v_ixLI (v_var rfl) (v_var rfl) (SqL.of hai) (by omega) (by omega)) (v_var rfl) (v_var rfl) hc (by omega) (by rw [List.length_append, List.length_take, List.length_drop]; omega) ?_
      obtain ⟨x2, m2⟩ := xi.cells w hu ((cs.take i ++ (cu h u).drop i).set (i : Int).toNat (cs.getD (i : Int).toNat 0))
      refine ⟨_, rfl, by omega, ?_, mi.trans m2⟩
      rw [Int.toNat_natCast] at x2 ⊢
      rw [take_drop_set hcs (by omega)] at x2 ⊢
      exact x2
    · obtain ⟨y, rfl, _, xi, mi⟩ := pv
      rw [show (64 : Int).toNat = 64 from rfl, List.take_of_length_le (by omega), List.drop_eq_nil_of_le (by omega), List.append_nil] at xi
      exact k H' xi mi

theorem sc_load : FnScope ["house", "user", "cells"] ["house", "user", "cells"] (defScope s_load) := ⟨rfl, rfl, rfl, by decide +kernel, rfl, by decide +kernel, by decide +kernel⟩
theorem cal_load (T : Tx K mg) : Cal P w K mg base 5 "load" ["house", "user", "cells"] (spLoad (CCk K)) := by
  refine cal_mk T 24 24 rfl rfl sc_load (fun _ _ _ _ _ _ us hl => match us, hl with | [_, _, _], _ => rfl) (fun vs H Q E h => ?_) (fun f cdv A outer s H vs Q E hr h => ?_)
  · obtain ⟨n, r, A, h, u, a, cs, rfl, x, w, hu, ha, na, hl, k⟩ := h
    rfl
  · obtain ⟨n, r, A, h, u, a, cs, rfl, x, w, hu, ha, na, hl, k⟩ := h
    have M := T.mt
    have U := T.pt
    have HT : HTx K (CCk K).h := T.ht
    have RT : RTx K (CCk K).r := T.rt
    refine ⟨_, (pss_one (ps_expr (pe_cal (cal_give_cells (K := K) T) hr (by decide) rfl (pa_cons (pe_fld (pv 0) rfl) (pa_cons (pv 1) (pa_cons (pv 2) pa_nil)))))), ?_⟩
    exact s_do (va_cons (vh_ (c := CCk K) HT x (v_var rfl) hl_places) (va_cons (v_var rfl) (va_cons (v_var rfl) va_nil))) ⟨n, r, A, h, u, a, cs, rfl, x, w, hu, ha, na, hl, k⟩

theorem sc_set_switches : FnScope ["house", "user", "switches"] ["house", "user", "switches"] (defScope s_set_switches) := ⟨rfl, rfl, rfl, by decide +kernel, rfl, by decide +kernel, by decide +kernel⟩
theorem cal_set_switches (T : Tx K mg) : Cal P w K mg base 1 "set_switches" ["house", "user", "switches"] (spSw (CCk K)) := by
  refine cal_mk T 25 25 rfl rfl sc_set_switches (fun _ _ _ _ _ _ us hl => match us, hl with | [_, _, _], _ => rfl) (fun vs H Q E h => ?_) (fun f cdv A outer s H vs Q E hr h => ?_)
  · obtain ⟨n, r, A, h, u, sw, rfl, x, w, hu, k⟩ := h
    rfl
  · obtain ⟨n, r, A, h, u, sw, rfl, x, w, hu, k⟩ := h
    have M := T.mt
    have U := T.pt
    have HT : HTx K (CCk K).h := T.ht
    have RT : RTx K (CCk K).r := T.rt
    refine ⟨_, (pss_one (ps_fld (pe_ix ix_list (pe_fld (pv 0) rfl) (pv 1) (fun _ _ => rfl)) (pv 2) rfl)), ?_⟩
    have hul : u < h.ps.length := by rw [w.lp]; exact hu
    refine sx_fldC (x_v (v_var rfl) (x_v (v_ixL (vh_ (c := CCk K) HT x (v_var rfl) hl_people) (v_var rfl) (SqL.of (x.at_ .people trivial)) (by omega) (by rw [Int.toNat_natCast, List.getElem?_map, List.getElem?_range hu]; rfl)) ⟨A.ad (.pr u 0), _, A.dp u, _, rfl, x.at_ (.pr u 0) ⟨hu, by decide⟩, U.cl, U.nSwitches, by show 10 < 1000; decide, ?_⟩))
    obtain ⟨x1, m1⟩ := x.put (A' := A) (h' := switchT h u sw) (o := .ins (CCk K).p (A.dp u) (putF "switches" (.int sw) (pfs (paU A u 0) (pu h u)))) (.pr u 0) ⟨hu, by decide⟩ rfl (by rw [pq_switches]; show HO.ins _ _ (pfs _ (pu (switchT h u sw) u)) = _; rw [show pu (switchT h u sw) u = { pu h u with sw := sw } from pu_set hul]) (fun t ht hn => cont_sw w hu ht hn A) x.dl x.dt
    exact k _ x1 m1

theorem sc_seen : FnScope ["house", "user", "person"] ["house", "user"] (defScope s_seen) := ⟨rfl, rfl, rfl, by decide +kernel, rfl, by decide +kernel, by decide +kernel⟩
theorem cal_seen (T : Tx K mg) : Cal P w K mg base 7 "seen" ["house", "user"] (spDV K (preSeen (CCk K))) := by
  refine cal_mk T 32 32 rfl rfl sc_seen (fun _ _ _ _ _ _ us hl => match us, hl with | [_, _], _ => rfl) (fun vs H Q E h => ?_) (fun f cdv A outer s H vs Q E hr h => ?_)
  · obtain ⟨F, W, d, wo, ok, ⟨n, r, A, h, u, rfl, iw, w, hu, rfl⟩, k⟩ := h
    rfl
  · obtain ⟨F, W, d, wo, ok, ⟨n, r, A, h, u, rfl, iw, w, hu, rfl⟩, k⟩ := h
    have M := T.mt
    have U := T.pt
    have HT : HTx K (CCk K).h := T.ht
    have RT : RTx K (CCk K).r := T.rt
    refine ⟨_, (pss_cons (ps_set (i := 2) sc_seen.nd rfl (Or.inl rfl) (pe_ix ix_list (pe_fld (pv 0) rfl) (pv 1) (fun _ _ => rfl))) (pss_cons (ps_fld (pe_fld (pv 2) rfl) (pe_cal (cal_cells_of (K := K) T) hr (by decide) rfl (pa_cons (pe_fld (pv 0) rfl) (pa_cons (pv 1) pa_nil))) rfl) (pss_one (ps_ret (pe_cal (cal_picture (K := K) T) hr (by decide) rfl (pa_cons (pv 2) pa_nil)))))), ?_⟩
    obtain ⟨A1, ea, ed, e3, e4, x⟩ := iw.up H ok.w
    have fe := foot_eq (n := n) (r := r) ea
    have hh : A.ad .house = A1.ad .house := by rw [ea]
    rw [hh]
    refine q_set (v := .ref (A1.ad (.pr u 0))) (v_ixL (vh_ (c := CCk K) HT x (v_var rfl) hl_people) (v_var rfl) (SqL.of (x.at_ .people trivial)) (by omega) (by rw [Int.toNat_natCast, List.getElem?_map, List.getElem?_range hu]; rfl)) ?_
    refine qx_fldC (x_call (va_cons (vh_ (c := CCk K) HT x (v_var rfl) hl_places) (va_cons (v_var rfl) va_nil)) ⟨n, r, A1, h, u, rfl, x, w, hu, fun H1 s1 => ?_⟩)
    have x1 := x.same s1
    refine x_v (val_fld (v_var rfl) (x1.at_ (.pr u 0) ⟨hu, by decide⟩) U.cl U.nMachine pf_machine) ⟨A1.ad (.pr u 1), _, A1.dm u, _, rfl, x1.at_ (.pr u 1) ⟨hu, by decide⟩, M.cl, M.nCells, by show 4 < 1000; decide, ?_⟩
    rw [mq_cells]
    obtain ⟨x2, m2⟩ := x1.point hu (A1.ad (csl h u))
    show tRet _ _ _ (upd H1 (A1.ad (.pr u 1)) (.ins (CCk K).m (A1.dm u) (mfs (A1.ad (csl h u)) (pu h u).m)))
    generalize upd H1 (A1.ad (.pr u 1)) (.ins (CCk K).m (A1.dm u) (mfs (A1.ad (csl h u)) (pu h u).m)) = H2 at x2 m2 ⊢
    have hcp : (setCp A1 u (A1.ad (csl h u))).cp u = (setCp A1 u (A1.ad (csl h u))).ad (csl h u) := by unfold setCp; simp
    have hw2 : HW (CCk K) n r A h H2 := ⟨setCp A1 u (A1.ad (csl h u)), ea, ed, e3, e4, x2⟩
    have m02 : Mv (footH n r A1) H (footH n r A1) H2 := (Mv.same s1).trans m2
    rw [fe] at m02
    have W2 := iw.back H H2 ok.w hw2 m02
    have mF : Mv F H F H2 := ⟨fun b o nb e => m02.keep b o (fun f => nb (iw.sub b f)) e, fun b f => .inl f⟩
    have fa2 : FA F H2 := fun b f e => by
      by_cases c : footH n r A b
      · exact hw2.fa b c e
      · cases z : H b with
        | none => exact ok.fa b f z
        | some o => rw [m02.keep b o c z] at e; cases e
    have hP := x2.pat w hu hcp
    exact x_ret (x_call (va_cons (v_var rfl) va_nil) ⟨paU (setCp A1 u (A1.ad (csl h u))) u ((setCp A1 u (A1.ad (csl h u))).ad (csl h u)), pu h u, rfl, hP, (w.pw u hu).1.bk, fun a H3 s3 hd => by
      have ok3 := (Ok.mk fa2 W2).same wo s3
      exact k _ H3 (mF.trans (.same s3)) ok3 (Dp.da (iw.no H3 ok3.w) hd)⟩)

theorem sc_diary : FnScope ["house", "user"] ["house", "user"] (defScope s_diary) := ⟨rfl, rfl, rfl, by decide +kernel, rfl, by decide +kernel, by decide +kernel⟩
theorem cal_diary (T : Tx K mg) : Cal P w K mg base 1 "diary" ["house", "user"] (spDN K (preDiary (CCk K))) := by
  refine cal_mk T 33 33 rfl rfl sc_diary (fun _ _ _ _ _ _ us hl => match us, hl with | [_, _], _ => rfl) (fun vs H Q E h => ?_) (fun f cdv A outer s H vs Q E hr h => ?_)
  · obtain ⟨F, W, ds, wo, ok, ⟨n, r, A, h, u, rfl, iw, hu, rfl⟩, k⟩ := h
    rfl
  · obtain ⟨F, W, ds, wo, ok, ⟨n, r, A, h, u, rfl, iw, hu, rfl⟩, k⟩ := h
    have M := T.mt
    have U := T.pt
    have HT : HTx K (CCk K).h := T.ht
    have RT : RTx K (CCk K).r := T.rt
    refine ⟨_, (pss_one (ps_ret (pe_callTy call_list_of (by rfl) (T.free 52) (by decide +kernel) (pa_cons (pe_ix ix_list (pe_fld (pv 0) rfl) (pv 1) (fun _ _ => rfl)) pa_nil)))), ?_⟩
    obtain ⟨A1, ea, ed, e3, e4, x⟩ := iw.up H ok.w
    have hh : A.ad .house = A1.ad .house := by rw [ea]
    rw [hh]
    refine x_ret (x_L (nl_list (v_ixL (vh_ (c := CCk K) HT x (v_var rfl) hl_diaries) (v_var rfl) (SqL.of (x.at_ .diaries trivial)) (by omega) (by rw [Int.toNat_natCast, List.getElem?_map, List.getElem?_range hu]; rfl)) (.inl (SqL.of (x.at_ (.dr u) hu)))) (fun D hD => ?_))
    have hT : DaAll K H F ((A1.dts u).map V.ref) ((dy h u).map evD) := daAll_evs (x.dl u hu) (fun i a e h1 h2 => ⟨x.dt u i a e hu h1 h2, fun f => (iw.no H ok.w a f).a _ (x.dt u i a e hu h1 h2)⟩)
    exact k D _ hD (.same (smN hD)) (ok.same wo (smN hD)) ⟨_, upd_same, hT.mv (mvN hD)⟩

theorem sc_room_of : FnScope ["house", "user"] ["house", "user"] (defScope s_room_of) := ⟨rfl, rfl, rfl, by decide +kernel, rfl, by decide +kernel, by decide +kernel⟩
theorem cal_room_of (T : Tx K mg) : Cal P w K mg base 2 "room_of" ["house", "user"] (spDV K (preRoomOf (CCk K))) := by
  refine cal_mk T 34 34 rfl rfl sc_room_of (fun _ _ _ _ _ _ us hl => match us, hl with | [_, _], _ => rfl) (fun vs H Q E h => ?_) (fun f cdv A outer s H vs Q E hr h => ?_)
  · obtain ⟨F, W, d, wo, ok, ⟨n, r, A, h, u, rfl, iw, hu, rfl⟩, k⟩ := h
    rfl
  · obtain ⟨F, W, d, wo, ok, ⟨n, r, A, h, u, rfl, iw, hu, rfl⟩, k⟩ := h
    have M := T.mt
    have U := T.pt
    have HT : HTx K (CCk K).h := T.ht
    have RT : RTx K (CCk K).r := T.rt
    refine ⟨_, (pss_one (ps_ret (pe_cal (cal_room_with (K := K) T) hr (by decide) rfl (pa_cons (pe_fld (pv 0) rfl) (pa_cons (pv 1) pa_nil))))), ?_⟩
    obtain ⟨A1, ea, ed, e3, e4, x⟩ := iw.up H ok.w
    have hh : A.ad .house = A1.ad .house := by rw [ea]
    rw [hh]
    refine x_ret (x_call (va_cons (vh_ (c := CCk K) HT x (v_var rfl) hl_places) (va_cons (v_var rfl) va_nil)) ⟨n, r, A1, h, u, rfl, x, fun H1 s1 => k _ H1 (.same s1) (ok.same wo s1) ?_⟩)
    cases roomH h u with
    | none => exact .non
    | some i => exact .int _
end
/-! ### a new house -/
def PA.slot (A : PA) : Nat → Addr
  | 0 => A.p
  | 1 => A.m
  | 2 => A.ib
  | 3 => A.ob
  | 4 => A.pp
  | 5 => A.bl
  | k + 6 => A.bs.getD k 0
def PA.f10 (A : PA) : List Addr := [A.slot 0, A.slot 1, A.slot 2, A.slot 3, A.slot 4, A.slot 5, A.slot 6, A.slot 7, A.slot 8, A.slot 9]
theorem getD_at {α : Type} {xs : List α} {i : Nat} {d : α} (h : i < xs.length) : xs[i]? = some (xs.getD i d) := by rw [List.getD_eq_getElem?_getD, List.getElem?_eq_getElem h]; rfl
theorem bs4 {A : PA} (h : A.bs.length = 4) : A.bs = [A.bs.getD 0 0, A.bs.getD 1 0, A.bs.getD 2 0, A.bs.getD 3 0] := by
  match hb : A.bs, h with
  | [a, b, c, d], _ => rfl
theorem f10_sub {A : PA} (h : A.bs.length = 4) : (∀ b ∈ A.f10, b ∈ A.foot) ∧ (A.foot.Nodup → A.f10.Nodup) := by
  have e := bs4 h
  have ef : A.foot = [A.p, A.m] ++ A.c :: ([A.ib, A.ob, A.pp, A.bl] ++ [A.bs.getD 0 0, A.bs.getD 1 0, A.bs.getD 2 0, A.bs.getD 3 0]) := by unfold PA.foot; rw [← e]; rfl
  have e10 : A.f10 = [A.p, A.m] ++ ([A.ib, A.ob, A.pp, A.bl] ++ [A.bs.getD 0 0, A.bs.getD 1 0, A.bs.getD 2 0, A.bs.getD 3 0]) := rfl
  have sl : List.Sublist A.f10 A.foot := by
    rw [ef, e10]
    exact List.Sublist.append (List.Sublist.refl [A.p, A.m]) (List.sublist_cons_self A.c _)
  exact ⟨fun b hb => sl.subset hb, fun nd => nd.sublist sl⟩
/-- a list of new users -/
structure PsI (C Dp : Addr) (H : Hp) (D : Addr) (Ps : List Pn) (As : List PA) (H' : Hp) : Prop where
  sm : Same H H'
  hd : H' D = some (.lst (As.map fun A => V.ref A.p))
  pa : ∀ (i : Nat) A, As[i]? = some A → ∃ P, Ps[i]? = some P ∧ PAt C Dp H' A P
  fr : ∀ A ∈ As, ∀ b ∈ A.foot, H b = none
  nd : (D :: As.flatMap PA.f10).Nodup
  nD : ∀ A ∈ As, D ∉ A.foot
theorem disj_nd {H : Hp} {L1 L2 : List Addr} (n1 : L1.Nodup) (n2 : L2.Nodup) (a1 : ∀ b ∈ L1, H b ≠ none) (a2 : ∀ b ∈ L2, H b = none) : (L1 ++ L2).Nodup := List.nodup_append.mpr ⟨n1, n2, fun a ha b hb e => a1 a ha (by rw [e]; exact a2 b hb)⟩
section
variable {K : PySem.W.Frag} {C Dp D : Addr} {H H' H1 : Hp} {Ps : List Pn} {As : List PA} {P : Pn} {A : PA} {σ : L2.St} {te ta tv : TE} {tA : TA} {z : Int}
theorem PsI.al (h : PsI C Dp H D Ps As H') : ∀ b ∈ D :: As.flatMap PA.f10, H' b ≠ none := fun b hb e => by
  rcases List.mem_cons.mp hb with rfl | hb
  · rw [h.hd] at e; cases e
  · obtain ⟨A, hA, hb⟩ := List.mem_flatMap.mp hb
    obtain ⟨i, hi⟩ := List.getElem?_of_mem hA
    obtain ⟨P, _, hP⟩ := h.pa i A hi
    exact hP.fa b ((f10_sub hP.len).1 b hb) e
theorem psi_0 (hD : H D = none) : PsI C Dp H D Ps [] (upd H D (.lst [])) := ⟨smN hD, upd_same, fun i A h => (by cases h), fun A h => (by cases h), by simp, fun A h => (by cases h)⟩
theorem psi_step (hD : H D = none) (iv : PsI C Dp H D Ps As H') (hP : Ps[As.length]? = some P) (fr : ∀ b ∈ A.foot, H' b = none) (s : Same H' H1) (hA : PAt C Dp H1 A P) : PsI C Dp H D Ps (As ++ [A]) (upd H1 D (.lst (As.map (fun A => V.ref A.p) ++ [.ref A.p]))) := by
  have nD : ∀ B : PA, (∀ b ∈ B.foot, b ≠ D) → ∀ Q, PAt C Dp H1 B Q → PAt C Dp (upd H1 D (.lst (As.map (fun A => V.ref A.p) ++ [.ref A.p]))) B Q := fun B hB Q h => h.loc fun b o hb e => by rw [upd_ne (hB b hb)]; exact e
  have al := iv.al
  have nf : ∀ b ∈ A.foot, b ≠ D := fun b hb e => by have := fr b hb; rw [e, iv.hd] at this; cases this
  obtain ⟨g1, g2⟩ := f10_sub hA.len
  refine ⟨smM (iv.sm.trans s) hD, by rw [upd_same, List.map_append]; rfl, fun i B hB => ?_, fun B hB b hb => ?_, ?_, fun B hB => ?_⟩
  · by_cases hi : i < As.length
    · rw [List.getElem?_append_left hi] at hB
      obtain ⟨Q, e, hQ⟩ := iv.pa i B hB
      exact ⟨Q, e, nD B (fun b hb q => iv.nD B (List.mem_of_getElem? hB) (q ▸ hb)) Q (hQ.same s)⟩
    · rw [List.getElem?_append_right (by omega)] at hB
      have h1 := (List.getElem?_eq_some_iff.mp hB).1
      have e0 : i - As.length = 0 := by simp at h1; omega
      have e1 : i = As.length := by omega
      rw [e0] at hB
      cases hB
      exact ⟨P, by rw [e1]; exact hP, nD A nf P hA⟩
  · rcases List.mem_append.mp hB with h1 | h1
    · exact iv.fr B h1 b hb
    · rw [List.mem_singleton.mp h1] at hb; exact iv.sm.free (fr b hb)
  · rw [List.flatMap_append, List.flatMap_cons, List.flatMap_nil, List.append_nil, ← List.cons_append]
    exact disj_nd iv.nd (g2 hA.nd) al (fun b hb => fr b (g1 b hb))
  · rcases List.mem_append.mp hB with h1 | h1
    · exact iv.nD B h1
    · rw [List.mem_singleton.mp h1]; exact fun hm => nf D hm rfl
/-- a reading gives a new user -/
def NewPer (K : PySem.W.Frag) (C Dp : Addr) (te : TE) (σ : L2.St) (H : Hp) (P : Pn) : Prop := ∀ H1, Same H H1 → ∀ Q : VK, (∀ A H', (∀ b ∈ A.foot, H1 b = none) → Same H1 H' → PAt C Dp H' A P → Q (.ref A.p) H') → te σ H1 Q
def NewPs (C Dp : Addr) (te : TE) (σ : L2.St) (H : Hp) (Ps : List Pn) : Prop := ∀ Q : VK, (∀ D As H', H D = none → As.length = Ps.length → PsI C Dp H D Ps As H' → Q (.ref D) H') → te σ H Q
theorem nps_range {k : Nat} {ws : List Nat} (h : ValA tA σ H [.int z]) (hz : 0 ≤ z ∧ z ≤ 100000) (hl : Ps.length = z.toNat) (hw : ∀ x, wipe ((wipe σ ws).set k (some x)) ws = wipe σ ws) (he : ∀ (m : Nat) (P : Pn), Ps[m]? = some P → NewPer K C Dp te ((wipe σ ws).set k (some (.int (m : Int)))) H P) : NewPs C Dp (tLc (iRng1 tA) (gName k) tYes te ws) σ H Ps := fun Q q =>
  h _ ⟨z, rfl, by omega, by omega, fun D hD => lc_range (lo := 0) (n := z.toNat) (fun m H' => ∃ As, As.length = m ∧ PsI C Dp H D Ps As H') ⟨[], rfl, psi_0 hD⟩ (fun m H' hm e => by
    obtain ⟨As, rfl, iv⟩ := e
    have e0 : (0 : Int) + (As.length : Int) = (As.length : Int) := Int.zero_add _
    rw [e0]
    refine ⟨hw _, ?_⟩
    unfold tYes
    dsimp only
    rw [if_pos rfl]
    have hP : Ps[As.length]? = some Ps[As.length] := List.getElem?_eq_getElem (by omega)
    refine he _ _ hP H' iv.sm _ (fun A H1 fr s hA => ⟨_, s _ _ iv.hd, ?_, As ++ [A], by simp, psi_step hD iv hP fr s hA⟩)
    rw [List.length_map]
    exact Nat.lt_of_lt_of_le (show As.length < 100000 by omega) (by rw [sizeLine_eq]; decide)) (fun H' e => by
      obtain ⟨As, e1, iv⟩ := e
      exact q D As H' hD (by omega) iv)⟩
end
/-! slots, each once -/
def slots (n r : Nat) : List Slot := .house :: ((.people :: (List.range n).flatMap fun u => (List.range 10).map fun k => Slot.pr u k) ++ ((.rooms :: .guests :: .kept :: (List.range r).map .kr) ++ ((.shelves :: (List.range n).map .sr) ++ ((.diaries :: (List.range n).map .dr) ++ [.row]))))
theorem slots_all {n r : Nat} {s : Slot} (h : okS n r s) : s ∈ slots n r := by
  unfold slots
  cases s with
  | kr i => simp; exact h
  | sr u => simp; exact h
  | dr u => simp; exact h
  | pr u k => simp; exact h
  | _ => simp
theorem nd_inj {α β : Type} {f : α → β} : ∀ {l : List α}, (l.map f).Nodup → ∀ s t, s ∈ l → t ∈ l → f s = f t → s = t
  | [], _, s, t, hs, _, _ => by cases hs
  | a :: l, nd, s, t, hs, ht, e => by
    rw [List.map_cons] at nd
    obtain ⟨n1, n2⟩ := List.nodup_cons.mp nd
    rcases List.mem_cons.mp hs with e1 | hs1 <;> rcases List.mem_cons.mp ht with e2 | ht1
    · rw [e1, e2]
    · exact absurd (List.mem_map.mpr ⟨t, ht1, by rw [← e, e1]⟩) n1
    · exact absurd (List.mem_map.mpr ⟨s, hs1, by rw [e, e2]⟩) n1
    · exact nd_inj n2 s t hs1 ht1 e
structure NewA where
  p : Addr
  dp : Addr
  D : Addr
  As : List PA
  x : Addr
  dx : Addr
  g : Addr
  kp : Addr
  ks : List Addr
  sh : Addr
  ss : List Addr
  dl : Addr
  ds : List Addr
  rw_ : Addr
def noPA : PA := ⟨0, 0, 0, 0, 0, 0, 0, 0, 0, []⟩
def NewA.ad (N : NewA) : Slot → Addr
  | .house => N.p
  | .people => N.D
  | .rooms => N.x
  | .guests => N.g
  | .kept => N.kp
  | .shelves => N.sh
  | .diaries => N.dl
  | .row => N.rw_
  | .kr i => N.ks.getD i 0
  | .sr u => N.ss.getD u 0
  | .dr u => N.ds.getD u 0
  | .pr u k => (N.As.getD u noPA).slot k
def NewA.ha (N : NewA) (dts : Nat → List Addr) (sw tn : Int) : HA := ⟨N.ad, N.dp, N.dx, fun u => (N.As.getD u noPA).dp, fun u => (N.As.getD u noPA).dm, fun u => (N.As.getD u noPA).c, dts, sw, tn⟩
theorem map_getD {α : Type} {d : α} : ∀ (l : List α), (List.range l.length).map (fun i => l.getD i d) = l
  | [] => rfl
  | a :: l => by
    rw [List.length_cons, List.range_succ_eq_map, List.map_cons, List.map_map]
    exact congrArg (a :: ·) (map_getD l)
theorem NewA.flat (N : NewA) : ((List.range N.As.length).flatMap fun u => (List.range 10).map fun k => N.ad (Slot.pr u k)) = N.As.flatMap PA.f10 := by
  have e : ∀ u, ((List.range 10).map fun k => N.ad (Slot.pr u k)) = PA.f10 (N.As.getD u noPA) := fun u => rfl
  simp only [e]
  conv => rhs; rw [← map_getD (d := noPA) N.As]
  rw [List.flatMap_map]
theorem NewA.map {n r : Nat} (N : NewA) (h1 : N.As.length = n) (h2 : N.ks.length = r) (h3 : N.ss.length = n) (h4 : N.ds.length = n) : (slots n r).map N.ad = N.p :: ((N.D :: N.As.flatMap PA.f10) ++ ((N.x :: N.g :: N.kp :: N.ks) ++ ((N.sh :: N.ss) ++ ((N.dl :: N.ds) ++ [N.rw_])))) := by
  have a1 : ((List.range n).flatMap fun u => (List.range 10).map fun k => Slot.pr u k).map N.ad = N.As.flatMap PA.f10 := by
    rw [List.map_flatMap, ← N.flat, h1]
    simp only [List.map_map]
    rfl
  have a2 : ((List.range r).map Slot.kr).map N.ad = N.ks := by
    rw [List.map_map, ← h2]; exact map_getD (d := 0) N.ks
  have a3 : ((List.range n).map Slot.sr).map N.ad = N.ss := by
    rw [List.map_map, ← h3]; exact map_getD (d := 0) N.ss
  have a4 : ((List.range n).map Slot.dr).map N.ad = N.ds := by
    rw [List.map_map, ← h4]; exact map_getD (d := 0) N.ds
  unfold slots
  simp only [List.map_cons, List.map_append, List.map_nil, a1, a2, a3, a4]
  rfl

/-! promises of the makers -/
def rowsZ (m : Nat) : List (List V) := List.replicate m (List.replicate 64 (V.int 0))
def spRooms (c : CC) : Sp := fun vs H Q _ => ∃ (p dp : Addr) (m n : Nat), vs = [.ref p, .int (m : Int), .int (n : Int)] ∧ m ≤ 100 ∧ n ≤ 100 ∧ H p = some (.ins c.r dp []) ∧
  ∀ g kp sh ks ss H', (∀ b ∈ (g :: kp :: ks) ++ (sh :: ss), H b = none) → (p :: ((g :: kp :: ks) ++ (sh :: ss))).Nodup → ks.length = m → ss.length = n → H' p = some (.ins c.r dp [("guests", .ref g), ("kept", .ref kp), ("shelves", .ref sh), ("turn", .int 0), ("swaps", .int 0)]) → H' g = some (.lst (List.replicate m V.non)) → H' kp = some (.lst (ks.map V.ref)) → RowsAt HO.lst H' ks (rowsZ m) → H' sh = some (.lst (ss.map V.ref)) → RowsAt HO.lst H' ss (rowsZ n) → Fr [p] H H' → Q .non H'
def spHouse (c : CC) : Sp := fun vs H Q _ => ∃ (p dp : Addr) (n m : Nat) (q b : Int), vs = [.ref p, .int (n : Int), .int (m : Int), .int q, .int b] ∧ n ≤ 100 ∧ m ≤ 100 ∧ H p = some (.ins c.h dp []) ∧
  ∀ A H', A.ad .house = p → Syn A (newH n m q b) → (∀ z, footH n m A z → z = p ∨ H z = none) → HoAt c n m H' A (newH n m q b) → Fr [p] H H' → Q .non H'
/-- all put together -/
theorem NewA.house {c : CC} {n m : Nat} {q b : Int} {H : Hp} (N : NewA) (h1 : N.As.length = n) (h2 : N.ks.length = m) (h3 : N.ss.length = n) (h4 : N.ds.length = n) (nd : ((slots n m).map N.ad).Nodup)
    (hp : H N.p = some (.ins c.h N.dp (hfs (N.ha (fun _ => []) 0 0) (newH n m q b)))) (hD : H N.D = some (.lst (N.As.map fun A => V.ref A.p))) (hA : ∀ (i : Nat) A, N.As[i]? = some A → PAt c.m c.p H A (newP zeros 0))
    (hx : H N.x = some (.ins c.r N.dx (rfs (N.ha (fun _ => []) 0 0) (newH n m q b)))) (hg : H N.g = some (.lst (List.replicate m V.non))) (hk : H N.kp = some (.lst (N.ks.map V.ref))) (hks : RowsAt HO.lst H N.ks (rowsZ m)) (hs : H N.sh = some (.lst (N.ss.map V.ref))) (hss : RowsAt HO.lst H N.ss (rowsZ n))
    (hd : H N.dl = some (.lst (N.ds.map V.ref))) (hds : RowsAt HO.lst H N.ds (List.replicate n [])) (hr : H N.rw_ = some (.lst [])) : HoAt c n m H (N.ha (fun _ => []) 0 0) (newH n m q b) := by
  have pe : ∀ u, u < n → pu (newH n m q b) u = newP zeros 0 := fun u hu => by
    show (List.replicate n (newP (List.replicate 64 0) 0)).getD u _ = _
    rw [List.getD_eq_getElem?_getD, List.getElem?_replicate, if_pos hu]; rfl
  have rm : ∀ u, roomH (newH n m q b) u = none := fun u => roomN_no fun j z => by
    have z : (List.replicate m (none : Option Nat))[j]? = some (some u) := z
    rw [List.getElem?_replicate] at z
    split at z <;> cases z
  have row : ∀ (as : List Addr) (rs : List (List V)) (i : Nat) (r : List V), RowsAt HO.lst H as rs → i < as.length → rs[i]? = some r → H (as.getD i 0) = some (.lst r) := fun as rs i r hh hi hr => by
    have e : as[i]? = some (as.getD i 0) := by rw [List.getD_eq_getElem?_getD, List.getElem?_eq_getElem hi]; rfl
    obtain ⟨r', e1, e2⟩ := hh i _ e
    rw [hr] at e1; cases e1; exact e2
  have z64 : (zeros.map V.int) = List.replicate 64 (V.int 0) := by unfold zeros; rw [List.map_replicate]
  refine ⟨fun s ok => ?_, fun s t hs ht e => nd_inj nd s t (slots_all hs) (slots_all ht) e, fun u hu => ?_, fun u i a e hu h => (by cases h)⟩
  · cases s with
    | house => exact hp
    | people =>
      refine hD.trans (congrArg some ?_)
      show HO.lst (N.As.map fun A => V.ref A.p) = HO.lst ((List.range n).map fun u => V.ref (N.As.getD u noPA).p)
      conv => lhs; rw [← map_getD (d := noPA) N.As, h1, List.map_map]
      rfl
    | rooms => exact hx
    | guests =>
      refine hg.trans (congrArg some ?_)
      show HO.lst _ = HO.lst ((List.replicate m (none : Option Nat)).map gV)
      rw [List.map_replicate]; rfl
    | kept =>
      refine hk.trans (congrArg some ?_)
      show HO.lst (N.ks.map V.ref) = HO.lst ((List.range m).map fun u => V.ref (N.ks.getD u 0))
      conv => lhs; rw [← map_getD (d := 0) N.ks, h2, List.map_map]
      rfl
    | shelves =>
      refine hs.trans (congrArg some ?_)
      show HO.lst (N.ss.map V.ref) = HO.lst ((List.range n).map fun u => V.ref (N.ss.getD u 0))
      conv => lhs; rw [← map_getD (d := 0) N.ss, h3, List.map_map]
      rfl
    | diaries =>
      refine hd.trans (congrArg some ?_)
      show HO.lst (N.ds.map V.ref) = HO.lst ((List.range n).map fun u => V.ref (N.ds.getD u 0))
      conv => lhs; rw [← map_getD (d := 0) N.ds, h4, List.map_map]
      rfl
    | row => exact hr
    | kr i =>
      have hi : i < m := ok
      refine (row N.ks (rowsZ m) i (List.replicate 64 (V.int 0)) hks (by omega) (by unfold rowsZ; rw [List.getElem?_replicate, if_pos hi])).trans (congrArg some ?_)
      show _ = HO.lst ((keptC (newH n m q b) i).map V.int)
      have : keptC (newH n m q b) i = zeros := by
        unfold keptC
        show (match (List.replicate m (none : Option Nat))[i]? with | some (some z) => cu _ z | _ => zeros) = zeros
        rw [List.getElem?_replicate, if_pos hi]
      rw [this, z64]
    | sr u =>
      have hu : u < n := ok
      refine (row N.ss (rowsZ n) u (List.replicate 64 (V.int 0)) hss (by omega) (by unfold rowsZ; rw [List.getElem?_replicate, if_pos hu])).trans (congrArg some ?_)
      show _ = HO.lst ((shelfC (newH n m q b) u).map V.int)
      unfold shelfC cu
      rw [if_pos (rm u), pe u hu]
      show _ = HO.lst (zeros.map V.int)
      rw [z64]
    | dr u =>
      have hu : u < n := ok
      exact row N.ds (List.replicate n []) u [] hds (by omega) (by rw [List.getElem?_replicate, if_pos hu])
    | pr u k =>
      obtain ⟨hu, hk10⟩ := ok
      have eA : N.As[u]? = some (N.As.getD u noPA) := by rw [List.getD_eq_getElem?_getD, List.getElem?_eq_getElem (by omega)]; rfl
      have P := hA u _ eA
      have bl : ∀ j, j < 4 → H ((N.As.getD u noPA).bs.getD j 0) = some (.lst (((newP zeros 0).blocks.getD j []).map V.int)) := fun j hj => by
        have hlen := P.len
        have e : (N.As.getD u noPA).bs[j]? = some ((N.As.getD u noPA).bs.getD j 0) := getD_at (by rw [P.len]; exact hj)
        obtain ⟨ws, e1, e2⟩ := P.hbs j _ e
        rw [e2, List.getD_eq_getElem?_getD, e1]; rfl
      match k, hk10 with
      | 0, _ =>
        refine P.hp.trans (congrArg some ?_)
        show _ = HO.ins c.p (N.As.getD u noPA).dp (pfs _ (pu (newH n m q b) u))
        rw [pe u hu]; rfl
      | 1, _ =>
        refine P.hm.trans (congrArg some ?_)
        show _ = HO.ins c.m (N.As.getD u noPA).dm (mfs _ (pu (newH n m q b) u).m)
        rw [pe u hu]; rfl
      | 2, _ => refine P.hi.trans (congrArg some ?_); show _ = HO.lst ((pu (newH n m q b) u).inbox.map V.int); rw [pe u hu]
      | 3, _ => refine P.ho.trans (congrArg some ?_); show _ = HO.lst ((pu (newH n m q b) u).outbox.map V.int); rw [pe u hu]
      | 4, _ => refine P.hq.trans (congrArg some ?_); show _ = HO.lst ((pu (newH n m q b) u).paper.map V.int); rw [pe u hu]
      | 5, _ => refine P.hb.trans (congrArg some ?_); conv => lhs; rw [bs4 P.len]
                rfl
      | 6, _ => refine (bl 0 (by decide)).trans (congrArg some ?_); show _ = HO.lst (((pu (newH n m q b) u).blocks.getD 0 []).map V.int); rw [pe u hu]
      | 7, _ => refine (bl 1 (by decide)).trans (congrArg some ?_); show _ = HO.lst (((pu (newH n m q b) u).blocks.getD 1 []).map V.int); rw [pe u hu]
      | 8, _ => refine (bl 2 (by decide)).trans (congrArg some ?_); show _ = HO.lst (((pu (newH n m q b) u).blocks.getD 2 []).map V.int); rw [pe u hu]
      | 9, _ => refine (bl 3 (by decide)).trans (congrArg some ?_); show _ = HO.lst (((pu (newH n m q b) u).blocks.getD 3 []).map V.int); rw [pe u hu]
      | k + 10, hk => omega
  · show 0 = (dy (newH n m q b) u).length
    show 0 = ((List.replicate n ([] : List Ev)).getD u []).length
    rw [List.getD_eq_getElem?_getD, List.getElem?_replicate]
    split <;> rfl
section
variable {K : PySem.W.Frag} {C Dp D p dp : Addr} {H H' : Hp} {Ps : List Pn} {σ : L2.St} {ta tv : TE} {f : Str} {fs : List (Str × V)} {N : L2.St → Hp → Prop} {R : VK} {B C' : L2.St → Hp → Prop} {tz : TS}
theorem q_fldPs (hv : NewPs C Dp tv σ H Ps) (ha : ∀ H', Val ta σ H' (.ref p)) (hp : Ins K D p dp fs H) (no : NoAttr K D f) (hl : fs.length < 1000)
    (q : ∀ b (As : List PA) H', H b = none → As.length = Ps.length → (b :: As.flatMap PA.f10).Nodup → (∀ z ∈ As.flatMap PA.f10, H z = none) → (∀ z ∈ b :: As.flatMap PA.f10, H' z ≠ none) → H' b = some (.lst (As.map fun A => V.ref A.p)) → (∀ (i : Nat) A, As[i]? = some A → ∃ P, Ps[i]? = some P ∧ PAt C Dp H' A P ∧ p ∉ A.foot) → Ins K D p dp (putF f (.ref b) fs) H' → Fr [p] H H' → tz ⟨N, R, B, C'⟩ σ H') :
    tSeq (sFld K ta tv f) tz ⟨N, R, B, C'⟩ σ H :=
  hv _ fun b As H1 hb hlen iv => by
    have nb : b ≠ p := fun e => by rw [e, hp.at_] at hb; cases hb
    have hp1 := iv.sm _ _ hp.at_
    refine ha _ _ ⟨p, D, dp, fs, rfl, hp1, hp.cl, no, hl, q b As _ hb hlen iv.nd (fun z hz => ?_) (fun z hz => ?_) (by rw [upd_ne nb]; exact iv.hd) (fun i A hA => ?_) ⟨hp.cl, upd_same⟩ (Fr.same1 iv.sm (Fr.upd (by simp)))⟩
    · obtain ⟨A, hA, hz⟩ := List.mem_flatMap.mp hz
      obtain ⟨i, hi⟩ := List.getElem?_of_mem hA
      obtain ⟨P, _, hP⟩ := iv.pa i A hi
      exact iv.fr A hA z ((f10_sub hP.len).1 z hz)
    · by_cases e : z = p
      · rw [e, upd_same]; exact fun e => by cases e
      · rw [upd_ne e]; exact iv.al z hz
    · obtain ⟨P, e, hP⟩ := iv.pa i A hA
      have np : p ∉ A.foot := fun hm => by have := iv.fr A (List.mem_of_getElem? hA) p hm; rw [hp.at_] at this; cases this
      exact ⟨P, e, hP.loc (fun z o hz e => by rw [upd_ne (fun q => np (by rw [← q]; exact hz))]; exact e), np⟩
end
theorem newper {K : PySem.W.Frag} {C Dp : Addr} {tl : TE} {σ : L2.St} {H : Hp} {cs : List Int} {sw : Int} (h : ∀ H1, Same H H1 → NewL tl σ H1 (cs.map V.int)) : NewPer K C Dp (tMake Dp (spPerson K C Dp) [] E0 (tCons tl (tCons (tC (.int sw)) tNil))) σ H (newP cs sw) := fun H1 s Q q => by
  show tl σ H1 _
  refine h H1 s _ (fun L hL => ?_)
  refine (x_person (σ := σ) (H := upd H1 L (.lst (cs.map V.int))) (tA := fun _ H2 Q2 => Q2 [.ref L, .int sw] H2) (sw := sw) (cs := cs) (fun Q2 q2 => q2) (.inl (SqL.of upd_same)) (fun A H' fr s2 hA => q A H' (fun b hb => (smN hL).free (fr b hb)) ((smN hL).trans s2) hA) : _)
section
variable {P : Program} {w : World} {K : PySem.W.Frag} {mg : Str → Option Value} {base : Heap}

theorem sc_Rooms___init__ : FnScope ["self", "many", "users", "k", "room", "user"] ["self", "many", "users"] (defScope s_Rooms___init__) := ⟨rfl, rfl, rfl, by decide +kernel, rfl, by decide +kernel, by decide +kernel⟩
theorem cal_Rooms (T : Tx K mg) : CalC P w K mg base 3 "Rooms" ["self", "many", "users"] (spRooms (CCk K)) := by
  refine calC_mk T 53 80 82 rfl rfl rfl sc_Rooms___init__ (fun _ _ _ _ _ _ us hl => match us, hl with | [_, _, _], _ => rfl) (fun vs H Q E h => ?_) (fun f cdv A outer s H vs Q E hr h => ?_)
  · obtain ⟨p, dp, m, n, rfl, hm, hn, hp, k⟩ := h
    rfl
  · obtain ⟨p, dp, m, n, rfl, hm, hn, hp, k⟩ := h
    have M := T.mt
    have U := T.pt
    have HT : HTx K (CCk K).h := T.ht
    have RT : RTx K (CCk K).r := T.rt
    refine ⟨_, (pss_cons (ps_fld (pv 0) (pe_lc (own := [("k", 3)]) (g := gName 3) (tt := tYes) (by rfl) sc_Rooms___init__.nd (pi_range1 (by rfl) (T.free 53) (pa_cons (pv 1) pa_nil)) (blkOk_by (own := [("k", 3)]) (N := ["self", "many", "users", "k", "room", "user"]) (sc := defScope s_Rooms___init__) (by decide +kernel)) (fun _ _ _ _ _ => pg_name (i := 3) sc_Rooms___init__.nd rfl (Or.inl rfl)) (fun _ _ _ _ _ => pts_nil) (fun _ _ _ _ _ => pe_non)) rfl) (pss_cons (ps_fld (pv 0) (pe_lc (own := [("room", 4)]) (g := gName 4) (tt := tYes) (by rfl) sc_Rooms___init__.nd (pi_range1 (by rfl) (T.free 53) (pa_cons (pv 1) pa_nil)) (blkOk_by (own := [("room", 4)]) (N := ["self", "many", "users", "k", "room", "user"]) (sc := defScope s_Rooms___init__) (by decide +kernel)) (fun _ _ _ _ _ => pg_name (i := 4) sc_Rooms___init__.nd rfl (Or.inl rfl)) (fun _ _ _ _ _ => pts_nil) (fun _ _ _ _ _ => (pe_lc (own := [("k", 3)]) (g := gName 3) (tt := tYes) (by rfl) sc_Rooms___init__.nd (pi_range1 (by rfl) (T.free 53) (pa_cons pe_int pa_nil)) (blkOk_by (own := [("k", 3)]) (N := ["self", "many", "users", "k", "room", "user"]) (sc := { kind := .function, names := [(".0", .local), ("room", .local), ("range", .globalImplicit)], isGenerator := false, isCoroutine := false }) (by decide +kernel)) (fun _ _ _ _ _ => pg_name (i := 3) sc_Rooms___init__.nd rfl (Or.inl rfl)) (fun _ _ _ _ _ => pts_nil) (fun _ _ _ _ _ => pe_int)))) rfl) (pss_cons (ps_fld (pv 0) (pe_lc (own := [("user", 5)]) (g := gName 5) (tt := tYes) (by rfl) sc_Rooms___init__.nd (pi_range1 (by rfl) (T.free 53) (pa_cons (pv 2) pa_nil)) (blkOk_by (own := [("user", 5)]) (N := ["self", "many", "users", "k", "room", "user"]) (sc := defScope s_Rooms___init__) (by decide +kernel)) (fun _ _ _ _ _ => pg_name (i := 5) sc_Rooms___init__.nd rfl (Or.inl rfl)) (fun _ _ _ _ _ => pts_nil) (fun _ _ _ _ _ => (pe_lc (own := [("k", 3)]) (g := gName 3) (tt := tYes) (by rfl) sc_Rooms___init__.nd (pi_range1 (by rfl) (T.free 53) (pa_cons pe_int pa_nil)) (blkOk_by (own := [("k", 3)]) (N := ["self", "many", "users", "k", "room", "user"]) (sc := { kind := .function, names := [(".0", .local), ("user", .local), ("range", .globalImplicit)], isGenerator := false, isCoroutine := false }) (by decide +kernel)) (fun _ _ _ _ _ => pg_name (i := 3) sc_Rooms___init__.nd rfl (Or.inl rfl)) (fun _ _ _ _ _ => pts_nil) (fun _ _ _ _ _ => pe_int)))) rfl) (pss_cons (ps_fld (pv 0) pe_int rfl) (pss_one (ps_fld (pv 0) pe_int rfl)))))), ?_⟩
    have i0 : Ins K (CCk K).r p dp [] H := ⟨RT.cl, hp⟩
    refine q_fldN (nl_lcR (fun _ => V.non) (va_cons (v_var rfl) va_nil) (by omega) (fun _ => rfl) (fun i D acc hD hi => v_c)) (fun _ => v_var rfl) i0 (RT.no "guests" (by simp)) (by decide) (fun g H1 hg ng eg i1 f1 => ?_)
    refine q_fldR (rows := rowsZ m) (nr_range (va_cons (v_var rfl) va_nil) (by omega) (by unfold rowsZ; rw [List.length_replicate, Int.toNat_natCast]) (fun _ => rfl) (fun i r H' _ hr => by
        have e : r = (List.range (64 : Int).toNat).map (fun _ => V.int 0) := by
          have := List.mem_of_getElem? hr
          unfold rowsZ at this
          rw [(List.mem_replicate.mp this).2]; rfl
        rw [e]
        exact nl_lcR (fun _ => V.int 0) (va_cons v_c va_nil) ⟨by decide, by decide⟩ (fun _ => rfl) (fun i D acc hD hi => v_c))) (fun _ => v_var rfl) i1 (RT.no "kept" (by simp)) (by show 1 < 1000; decide) (fun kp ks H2 hk ndk lk ek eks i2 f2 => ?_)
    refine q_fldR (rows := rowsZ n) (nr_range (va_cons (v_var rfl) va_nil) (by omega) (by unfold rowsZ; rw [List.length_replicate, Int.toNat_natCast]) (fun _ => rfl) (fun i r H' _ hr => by
        have e : r = (List.range (64 : Int).toNat).map (fun _ => V.int 0) := by
          have := List.mem_of_getElem? hr
          unfold rowsZ at this
          rw [(List.mem_replicate.mp this).2]; rfl
        rw [e]
        exact nl_lcR (fun _ => V.int 0) (va_cons v_c va_nil) ⟨by decide, by decide⟩ (fun _ => rfl) (fun i D acc hD hi => v_c))) (fun _ => v_var rfl) i2 (RT.no "shelves" (by simp)) (by show 2 < 1000; decide) (fun sh ss H3 hh nds ls es ess i3 f3 => ?_)
    refine q_fldV v_c (v_var rfl) i3 (RT.no "turn" (by simp)) (by show 3 < 1000; decide) (fun H4 i4 f4 => ?_)
    refine s_fldV v_c (v_var rfl) i4 (RT.no "swaps" (by simp)) (by show 4 < 1000; decide) (fun H5 i5 f5 => ?_)
    have f15 : Fr [p] H1 H5 := f2.trans (f3.trans (f4.trans f5))
    have f25 : Fr [p] H2 H5 := f3.trans (f4.trans f5)
    have f35 : Fr [p] H3 H5 := f4.trans f5
    have hs2 : ∀ b ∈ sh :: ss, H1 b = none := fun b hb => f2.free i2 (hh b hb)
    have hs1 : ∀ b ∈ sh :: ss, H b = none := fun b hb => f1.free i1 (hs2 b hb)
    have hk1 : ∀ b ∈ kp :: ks, H b = none := fun b hb => f1.free i1 (hk b hb)
    have np : ∀ b, H b = none → b ≠ p := fun b hb e => by rw [e, hp] at hb; cases hb
    have al2 : ∀ b ∈ kp :: ks, H2 b ≠ none := fun b hb e => by
      rcases List.mem_cons.mp hb with rfl | hb
      · rw [ek] at e; cases e
      · obtain ⟨i, hi⟩ := List.getElem?_of_mem hb
        obtain ⟨_, _, z⟩ := eks i b hi
        rw [z] at e; cases e
    have ndA : ((kp :: ks) ++ (sh :: ss)).Nodup := disj_nd ndk nds al2 hh
    have ndB : (g :: ((kp :: ks) ++ (sh :: ss))).Nodup := nd_more (H := H1) eg (fun b hb => by
      rcases List.mem_append.mp hb with h1 | h1
      · exact hk b h1
      · exact hs2 b h1) ndA
    have ndC : (p :: (g :: ((kp :: ks) ++ (sh :: ss)))).Nodup := nd_more (H := H) hp (fun b hb => by
      rcases List.mem_cons.mp hb with h0 | hb
      · rw [h0]; exact hg
      rcases List.mem_append.mp hb with h1 | h1
      · exact hk1 b h1
      · exact hs1 b h1) ndB
    refine k g kp sh ks ss H5 (fun b hb => (by
      rcases List.mem_append.mp hb with h1 | h1
      · rcases List.mem_cons.mp h1 with h2 | h2
        · rw [h2]; exact hg
        · exact hk1 b h2
      · exact hs1 b h1)) ndC (by rw [lk]; unfold rowsZ; exact List.length_replicate) (by rw [ls]; unfold rowsZ; exact List.length_replicate) (i5.at_.trans (congrArg (fun z => some (HO.ins (CCk K).r dp z)) (by kernel_rfl))) ?_ (f25.one (np kp (hk1 kp List.mem_cons_self)) ek) (f25.rowsAt eks (fun b hb => np b (hk1 b (List.mem_cons_of_mem _ hb)))) (f35.one (np sh (hs1 sh List.mem_cons_self)) es) (f35.rowsAt ess (fun b hb => np b (hs1 b (List.mem_cons_of_mem _ hb)))) (f1.trans f15)
    rw [f15.one ng eg]
    have : (List.range ((m : Int)).toNat).map (fun _ => V.non) = List.replicate m V.non := by rw [Int.toNat_natCast, List.map_const', List.length_range]
    rw [this]
end
section
variable {P : Program} {w : World} {K : PySem.W.Frag} {mg : Str → Option Value} {base : Heap}

theorem sc_House___init__ : FnScope ["self", "users", "rooms", "quantum", "beat", "user", "k"] ["self", "users", "rooms", "quantum", "beat"] (defScope s_House___init__) := ⟨rfl, rfl, rfl, by decide +kernel, rfl, by decide +kernel, by decide +kernel⟩
theorem cal_House (T : Tx K mg) : CalC P w K mg base 6 "House" ["self", "users", "rooms", "quantum", "beat"] (spHouse (CCk K)) := by
  refine calC_mk T 54 88 90 rfl rfl rfl sc_House___init__ (fun _ _ _ _ _ _ us hl => match us, hl with | [_, _, _, _, _], _ => rfl) (fun vs H Q E h => ?_) (fun f cdv A outer s H vs Q E hr h => ?_)
  · obtain ⟨p, dp, n, m, q, b, rfl, hn, hm, hp, k⟩ := h
    rfl
  · obtain ⟨p, dp, n, m, q, b, rfl, hn, hm, hp, k⟩ := h
    have M := T.mt
    have U := T.pt
    have HT : HTx K (CCk K).h := T.ht
    have RT : RTx K (CCk K).r := T.rt
    refine ⟨_, (pss_cons (ps_fld (pv 0) (pe_lc (own := [("user", 5)]) (g := gName 5) (tt := tYes) (by rfl) sc_House___init__.nd (pi_range1 (by rfl) (T.free 53) (pa_cons (pv 1) pa_nil)) (blkOk_by (own := [("user", 5)]) (N := ["self", "users", "rooms", "quantum", "beat", "user", "k"]) (sc := defScope s_House___init__) (by decide +kernel)) (fun _ _ _ _ _ => pg_name (i := 5) sc_House___init__.nd rfl (Or.inl rfl)) (fun _ _ _ _ _ => pts_nil) (fun _ _ _ _ _ => (show PE _ _ (tMake (He.ga K "Person") _ [] E0 _) from pe_new (cal_Person (K := K) T) hr (by decide) rfl (pa_cons (pe_lc (own := [("k", 6)]) (g := gName 6) (tt := tYes) (by rfl) sc_House___init__.nd (pi_range1 (by rfl) (T.free 53) (pa_cons pe_int pa_nil)) (blkOk_by (own := [("k", 6)]) (N := ["self", "users", "rooms", "quantum", "beat", "user", "k"]) (sc := { kind := .function, names := [(".0", .local), ("user", .local), ("Person", .globalImplicit), ("range", .globalImplicit)], isGenerator := false, isCoroutine := false }) (by decide +kernel)) (fun _ _ _ _ _ => pg_name (i := 6) sc_House___init__.nd rfl (Or.inl rfl)) (fun _ _ _ _ _ => pts_nil) (fun _ _ _ _ _ => pe_int)) (pa_cons pe_int pa_nil))))) rfl) (pss_cons (ps_fld (pv 0) (show PE _ _ (tMake (He.ga K "Rooms") _ [] E0 _) from pe_new (cal_Rooms (K := K) T) hr (by decide) rfl (pa_cons (pv 2) (pa_cons (pv 1) pa_nil))) rfl) (pss_cons (ps_fld (pv 0) (pv 3) rfl) (pss_cons (ps_fld (pv 0) (pv 4) rfl) (pss_cons (ps_fld (pv 0) (pe_lc (own := [("user", 5)]) (g := gName 5) (tt := tYes) (by rfl) sc_House___init__.nd (pi_range1 (by rfl) (T.free 53) (pa_cons (pv 1) pa_nil)) (blkOk_by (own := [("user", 5)]) (N := ["self", "users", "rooms", "quantum", "beat", "user", "k"]) (sc := defScope s_House___init__) (by decide +kernel)) (fun _ _ _ _ _ => pg_name (i := 5) sc_House___init__.nd rfl (Or.inl rfl)) (fun _ _ _ _ _ => pts_nil) (fun _ _ _ _ _ => (pe_lst pa_nil))) rfl) (pss_cons (ps_fld (pv 0) pe_non rfl) (pss_cons (ps_fld (pv 0) (pe_lst pa_nil) rfl) (pss_cons (ps_fld (pv 0) pe_int rfl) (pss_cons (ps_fld (pv 0) pe_int rfl) (pss_cons (ps_fld (pv 0) pe_int rfl) (pss_cons (ps_fld (pv 0) pe_int rfl) (pss_cons (ps_fld (pv 0) pe_int rfl) (pss_one (ps_fld (pv 0) pe_int rfl)))))))))))))), ?_⟩
    have i0 : Ins K (CCk K).h p dp [] H := ⟨HT.cl, hp⟩
    refine q_fldPs (C := (CCk K).m) (Dp := (CCk K).p) (Ps := List.replicate n (newP zeros 0)) (nps_range (K := K) (va_cons (v_var rfl) va_nil) (by omega) (by rw [List.length_replicate, Int.toNat_natCast]) (fun _ => rfl) (fun i P hP => ?_)) (fun _ => v_var rfl) i0 (HT.no "people" (by simp)) (by decide) (fun D As H1 hD lA ndP frP alP eD hA i1 f1 => ?_)
    · have e : P = newP zeros 0 := (List.mem_replicate.mp (List.mem_of_getElem? hP)).2
      rw [e]
      refine newper (fun H2 s2 => ?_)
      have z : (List.range (64 : Int).toNat).map (fun _ => V.int 0) = zeros.map V.int := by rfl
      rw [← z]
      exact nl_lcR (fun _ => V.int 0) (va_cons v_c va_nil) ⟨by decide, by decide⟩ (fun _ => rfl) (fun i D acc hD hi => v_c)
    rw [List.length_replicate] at lA
    refine qx_fldC ((va_cons (v_var rfl) (va_cons (v_var rfl) va_nil)) _ (fun x dx nx nd ne => ⟨x, dx, m, n, rfl, hm, hn, upd_same, fun g kp sh ks ss H2 hfr ndR lk ls ex eg ek eks es ess f2 => ⟨rfl, ?_⟩⟩))
    have smx : Same H1 (upd (upd H1 dx (.own x)) x (.ins (CCk K).r dx [])) := smM (smN nd) nx
    have np : ∀ b, H b = none → b ≠ p := fun b hb e => by rw [e, hp] at hb; cases hb
    have nxp : x ≠ p := fun e => by rw [e, i1.at_] at nx; cases nx
    have sm12 : Same H1 H2 := fun b o e => f2 b o (by simp; exact ne_of_none e nx) (smx b o e)
    have hfr1 : ∀ b ∈ x :: ((g :: kp :: ks) ++ (sh :: ss)), H1 b = none := fun b hb => by
      rcases List.mem_cons.mp hb with h0 | hb
      · rw [h0]; exact nx
      · exact smx.free (hfr b hb)
    have np1 : ∀ b, H1 b = none → b ≠ p := fun b hb e => by rw [e, i1.at_] at hb; cases hb
    refine x_v (v_var rfl) ⟨p, (CCk K).h, dp, _, rfl, sm12 _ _ i1.at_, HT.cl, HT.no "places" (by simp), by show 1 < 1000; decide, ?_⟩
    have i3 : Ins K (CCk K).h p dp (putF "places" (.ref x) (putF "people" (.ref D) [])) (upd H2 p (.ins (CCk K).h dp (putF "places" (.ref x) (putF "people" (.ref D) [])))) := ⟨HT.cl, upd_same⟩
    have f13 : Fr [p] H1 (upd H2 p (.ins (CCk K).h dp (putF "places" (.ref x) (putF "people" (.ref D) [])))) := Fr.same1 sm12 (Fr.upd (by simp))
    have f23 : Fr [p] H2 (upd H2 p (.ins (CCk K).h dp (putF "places" (.ref x) (putF "people" (.ref D) [])))) := Fr.upd (by simp)
    generalize upd H2 p (.ins (CCk K).h dp (putF "places" (.ref x) (putF "people" (.ref D) []))) = H3 at i3 f13 f23 ⊢
    have allR : ∀ b ∈ x :: ((g :: kp :: ks) ++ (sh :: ss)), H2 b ≠ none := fun b hb e => by
      rcases List.mem_cons.mp hb with h0 | hb
      · rw [h0, ex] at e; cases e
      rcases List.mem_append.mp hb with hb | hb
      · rcases List.mem_cons.mp hb with h0 | hb
        · rw [h0, eg] at e; cases e
        rcases List.mem_cons.mp hb with h0 | hb
        · rw [h0, ek] at e; cases e
        obtain ⟨i, hi⟩ := List.getElem?_of_mem hb
        obtain ⟨_, _, z⟩ := eks i b hi
        rw [z] at e; cases e
      · rcases List.mem_cons.mp hb with h0 | hb
        · rw [h0, es] at e; cases e
        obtain ⟨i, hi⟩ := List.getElem?_of_mem hb
        obtain ⟨_, _, z⟩ := ess i b hi
        rw [z] at e; cases e
    refine q_fldV (v_var rfl) (v_var rfl) i3 (HT.no "quantum" (by simp)) (by show 2 < 1000; decide) (fun H4 i4 f4 => ?_)
    refine q_fldV (v_var rfl) (v_var rfl) i4 (HT.no "beat" (by simp)) (by show 3 < 1000; decide) (fun H5 i5 f5 => ?_)
    refine q_fldR (mk := HO.lst) (rows := List.replicate n []) (nr_range (va_cons (v_var rfl) va_nil) (by omega) (by rw [List.length_replicate, Int.toNat_natCast]) (fun _ => rfl) (fun i r H' _ hr => by
        have e : r = [] := (List.mem_replicate.mp (List.mem_of_getElem? hr)).2
        rw [e]
        exact nl_disp va_nil)) (fun _ => v_var rfl) i5 (HT.no "diaries" (by simp)) (by show 4 < 1000; decide) (fun dl ds H6 hdf ndD lD ed eds i6 f6 => ?_)
    refine q_fldV v_c (v_var rfl) i6 (HT.no "runs" (by simp)) (by show 5 < 1000; decide) (fun H7 i7 f7 => ?_)
    refine q_fldN (nl_disp va_nil) (fun _ => v_var rfl) i7 (HT.no "row" (by simp)) (by show 6 < 1000; decide) (fun rw H8 hrw nrw erw i8 f8 => ?_)
    refine q_fldV v_c (v_var rfl) i8 (HT.no "steps" (by simp)) (by show 7 < 1000; decide) (fun H9 i9 f9 => ?_)
    refine q_fldV v_c (v_var rfl) i9 (HT.no "idle" (by simp)) (by show 8 < 1000; decide) (fun H10 i10 f10 => ?_)
    refine q_fldV v_c (v_var rfl) i10 (HT.no "ticks" (by simp)) (by show 9 < 1000; decide) (fun H11 i11 f11 => ?_)
    refine q_fldV v_c (v_var rfl) i11 (HT.no "swaps" (by simp)) (by show 10 < 1000; decide) (fun H12 i12 f12 => ?_)
    refine q_fldV v_c (v_var rfl) i12 (HT.no "turn" (by simp)) (by show 11 < 1000; decide) (fun H13 i13 f13a => ?_)
    refine s_fldV v_c (v_var rfl) i13 (HT.no "left" (by simp)) (by show 12 < 1000; decide) (fun H14 i14 f14 => ?_)
    have f814 : Fr [p] H8 H14 := f9.trans (f10.trans (f11.trans (f12.trans (f13a.trans f14))))
    have f614 : Fr [p] H6 H14 := f7.trans (f8.trans f814)
    have f36 : Fr [p] H3 H6 := f4.trans (f5.trans f6)
    have f314 : Fr [p] H3 H14 := f36.trans f614
    have f214 : Fr [p] H2 H14 := f23.trans f314
    have f114 : Fr [p] H1 H14 := f13.trans f314
    have hd3 : ∀ b ∈ dl :: ds, H3 b = none := fun b hb => (f4.trans f5).free i5 (hdf b hb)
    have hd2 : ∀ b ∈ dl :: ds, H2 b = none := fun b hb => f23.free i3 (hd3 b hb)
    have hr6 : H6 rw = none := f7.free i7 hrw
    have hr3 : H3 rw = none := f36.free i6 hr6
    have hr2 : H2 rw = none := f23.free i3 hr3
    have n1 : ∀ b, H1 b ≠ none → H2 b ≠ none := fun b hb e => hb (sm12.free e)
    have ald : ∀ b ∈ dl :: ds, H6 b ≠ none := fun b hb e => by
      rcases List.mem_cons.mp hb with h0 | hb
      · rw [h0, ed] at e; cases e
      · obtain ⟨i, hi⟩ := List.getElem?_of_mem hb
        obtain ⟨_, _, z⟩ := eds i b hi
        rw [z] at e; cases e
    have ndd : ((dl :: ds) ++ [rw]).Nodup := disj_nd ndD (by simp) ald (fun b hb => by rw [List.mem_singleton.mp hb]; exact hr6)
    have fr2 : ∀ b ∈ (dl :: ds) ++ [rw], H2 b = none := fun b hb => by
      rcases List.mem_append.mp hb with h | h
      · exact hd2 b h
      · rw [List.mem_singleton.mp h]; exact hr2
    have ndr : ((x :: ((g :: kp :: ks) ++ (sh :: ss))) ++ ((dl :: ds) ++ [rw])).Nodup := disj_nd ndR ndd allR fr2
    have fr1 : ∀ b ∈ (x :: ((g :: kp :: ks) ++ (sh :: ss))) ++ ((dl :: ds) ++ [rw]), H1 b = none := fun b hb => by
      rcases List.mem_append.mp hb with h | h
      · exact hfr1 b h
      · exact sm12.free (fr2 b h)
    have ndq : ((D :: As.flatMap PA.f10) ++ ((x :: ((g :: kp :: ks) ++ (sh :: ss))) ++ ((dl :: ds) ++ [rw]))).Nodup := disj_nd ndP ndr alP fr1
    have fr0 : ∀ b ∈ (D :: As.flatMap PA.f10) ++ ((x :: ((g :: kp :: ks) ++ (sh :: ss))) ++ ((dl :: ds) ++ [rw])), H b = none := fun b hb => by
      rcases List.mem_append.mp hb with h | h
      · rcases List.mem_cons.mp h with h | h
        · rw [h]; exact hD
        · exact frP b h
      · exact f1.free i1 (fr1 b h)
    have ndz := nd_more (H := H) hp fr0 ndq
    obtain ⟨N, eN⟩ : ∃ N : NewA, N = ⟨p, dp, D, As, x, dx, g, kp, ks, sh, ss, dl, ds, rw⟩ := ⟨_, rfl⟩
    rw [List.length_replicate] at lD
    have em := N.map (n := n) (r := m) (by rw [eN]; exact lA) (by rw [eN]; exact lk) (by rw [eN]; exact ls) (by rw [eN]; exact lD)
    have ndN : ((slots n m).map N.ad).Nodup := by
      rw [em, eN]
      show (p :: ((D :: As.flatMap PA.f10) ++ ((x :: g :: kp :: ks) ++ ((sh :: ss) ++ ((dl :: ds) ++ [rw]))))).Nodup
      have e : (x :: ((g :: kp :: ks) ++ (sh :: ss))) ++ ((dl :: ds) ++ [rw]) = (x :: g :: kp :: ks) ++ ((sh :: ss) ++ ((dl :: ds) ++ [rw])) := by simp
      rw [← e]; exact ndz
    have hall : ∀ b ∈ (slots n m).map N.ad, b = p ∨ H b = none := fun b hb => by
      rw [em, eN] at hb
      have hb : b ∈ p :: ((D :: As.flatMap PA.f10) ++ ((x :: g :: kp :: ks) ++ ((sh :: ss) ++ ((dl :: ds) ++ [rw])))) := hb
      rcases List.mem_cons.mp hb with h | h
      · exact .inl h
      · refine .inr (fr0 b ?_)
        have e : (x :: ((g :: kp :: ks) ++ (sh :: ss))) ++ ((dl :: ds) ++ [rw]) = (x :: g :: kp :: ks) ++ ((sh :: ss) ++ ((dl :: ds) ++ [rw])) := by simp
        rw [e]; exact h
    have nR : ∀ b ∈ (g :: kp :: ks) ++ (sh :: ss), b ≠ p := fun b hb => np1 b (hfr1 b (List.mem_cons_of_mem _ hb))
    have nR2 : ∀ b ∈ kp :: ks, b ≠ p := fun b hb => nR b (List.mem_append_left _ (List.mem_cons_of_mem _ hb))
    have nR3 : ∀ b ∈ sh :: ss, b ≠ p := fun b hb => nR b (List.mem_append_right _ hb)
    have nd6 : ∀ b ∈ dl :: ds, b ≠ p := fun b hb e => by have := hd3 b hb; rw [e, i3.at_] at this; cases this
    have X : HoAt (CCk K) n m H14 (N.ha (fun _ => []) 0 0) (newH n m q b) := by
      refine N.house (by rw [eN]; exact lA) (by rw [eN]; exact lk) (by rw [eN]; exact ls) (by rw [eN]; exact lD) ndN ?_ ?_ ?_ ?_ ?_ ?_ ?_ ?_ ?_ ?_ ?_ ?_
      · rw [eN]; exact i14.at_.trans (congrArg (fun z => some (HO.ins (CCk K).h dp z)) (by kernel_rfl))
      · rw [eN]; exact f114.one (np D hD) eD
      · rw [eN]
        intro i A hi
        obtain ⟨P, e, hP, hnp⟩ := hA i A hi
        have eP : P = newP zeros 0 := (List.mem_replicate.mp (List.mem_of_getElem? e)).2
        rw [← eP]
        exact hP.loc fun z o hz e => f114.one (fun q => hnp (q ▸ hz)) e
      · rw [eN]; exact (f214.one nxp ex).trans (congrArg (fun z => some (HO.ins (CCk K).r dx z)) (by kernel_rfl))
      · rw [eN]; exact f214.one (nR g (by simp)) eg
      · rw [eN]; exact f214.one (nR2 kp List.mem_cons_self) ek
      · rw [eN]; exact f214.rowsAt eks (fun b hb => nR2 b (List.mem_cons_of_mem _ hb))
      · rw [eN]; exact f214.one (nR3 sh List.mem_cons_self) es
      · rw [eN]; exact f214.rowsAt ess (fun b hb => nR3 b (List.mem_cons_of_mem _ hb))
      · rw [eN]; exact f614.one (nd6 dl List.mem_cons_self) ed
      · rw [eN]; exact f614.rowsAt eds (fun b hb => nd6 b (List.mem_cons_of_mem _ hb))
      · rw [eN]; exact f814.one nrw erw
    refine k (N.ha (fun _ => []) 0 0) H14 (by rw [eN]; rfl) ⟨rfl, rfl⟩ (fun z hz => ?_) X (f1.trans f114)
    obtain ⟨s, hs, rfl⟩ := hz
    exact hall _ (List.mem_map.mpr ⟨s, slots_all hs, rfl⟩)
end
/-! ### the laws' houses -/
section
variable {K : PySem.W.Frag} {σ : L2.St} {H : Hp} {tA : TA} {n m : Nat} {q b : Int}
theorem x_house {Q : VK} (h : ValA tA σ H [.int (n : Int), .int (m : Int), .int q, .int b]) (hn : n ≤ 100) (hm : m ≤ 100) (k : ∀ A H', Syn A (newH n m q b) → (∀ z, footH n m A z → H z = none) → HoAt (CCk K) n m H' A (newH n m q b) → Same H H' → Q (.ref (A.ad .house)) H') : tMake (He.ga K "House") (spHouse (CCk K)) [] E0 tA σ H Q :=
  h _ fun x dx nx nd ne => by
    have sm : Same H (upd (upd H dx (.own x)) x (.ins (He.ga K "House") dx [])) := smM (smN nd) nx
    refine ⟨x, dx, n, m, q, b, rfl, hn, hm, upd_same, fun A H' e sy fr hx f => ⟨rfl, ?_⟩⟩
    rw [← e]
    refine k A H' sy (fun z hz => ?_) hx (fun z o ez => f z o (by simp; exact ne_of_none ez nx) (sm z o ez))
    rcases fr z hz with h1 | h1
    · rw [h1]; exact nx
    · exact sm.free h1
end
/-- the hall that a script tells -/
def hN (ns : List Int) : Int := if mixV (cellAt ns 2) 9479 7 = 3 then 8 else 1 + mixV (cellAt ns 0) 9941 5
def hR (ns : List Int) : Int := 1 + mixV (cellAt ns 1) 9931 (hN ns)
def hQ (ns : List Int) : Int := 1 + mixV (cellAt ns 2) 9929 4
def hB (ns : List Int) : Int := 1 + mixV (cellAt ns 3) 9923 6
def hallD (n r q b : Int) : PyData := .tuple [.int n, .int r, .int q, .int b]
theorem hN_in (ns : List Int) : 1 ≤ hN ns ∧ hN ns ≤ 8 := by
  have h0 := mixV_lo (c := cellAt ns 0) (p := 9941) (m := 5) (by decide)
  have h1 := mixV_hi (c := cellAt ns 0) (p := 9941) (m := 5) (by decide)
  unfold hN; split <;> omega
theorem hR_in (ns : List Int) : 1 ≤ hR ns ∧ hR ns ≤ hN ns := by
  have h := hN_in ns
  have h0 := mixV_lo (c := cellAt ns 1) (p := 9931) (m := hN ns) (by omega)
  have h1 := mixV_hi (c := cellAt ns 1) (p := 9931) (m := hN ns) (by omega)
  unfold hR; omega
theorem hQ_in (ns : List Int) : 1 ≤ hQ ns ∧ hQ ns ≤ 4 := by
  have h0 := mixV_lo (c := cellAt ns 2) (p := 9929) (m := 4) (by decide)
  have h1 := mixV_hi (c := cellAt ns 2) (p := 9929) (m := 4) (by decide)
  unfold hQ; omega
theorem hB_in (ns : List Int) : 1 ≤ hB ns ∧ hB ns ≤ 6 := by
  have h0 := mixV_lo (c := cellAt ns 3) (p := 9923) (m := 6) (by decide)
  have h1 := mixV_hi (c := cellAt ns 3) (p := 9923) (m := 6) (by decide)
  unfold hB; omega
def preHall (K : PySem.W.Frag) (vs : List V) (H : Hp) (F : FS) (_ : Hp → Prop) (d : PyData) : Prop := ∃ (a : Addr) (ns : List Int), vs = [.ref a] ∧ SF K H F a ns ∧ ns.length ≤ 63 ∧ d = hallD (hN ns) (hR ns) (hQ ns) (hB ns)
/-- users loaded one by one -/
def pS (ns : List Int) (u : Nat) : List Int := progV (cellAt ns (4 + (u : Int)))
def sS (ns : List Int) (u : Nat) : Int := mixV (cellAt ns (4 + (u : Int))) 9907 1024
def madeN (ns : List Int) (h : Ho) : Nat → Ho
  | 0 => h
  | i + 1 => switchT (loadT (madeN ns h i) i (pS ns i)) i (sS ns i)
def madeT (ns : List Int) (n r : Nat) (q b : Int) : Ho := madeN ns (newH n r q b) n
theorem sS_in (ns : List Int) (u : Nat) : 0 ≤ sS ns u ∧ sS ns u < 1024 := ⟨mixV_lo (by decide), mixV_hi (by decide)⟩
theorem wf_madeN {n r : Nat} {h : Ho} (w : WfH n r h) (ns : List Int) : ∀ i, i ≤ n → WfH n r (madeN ns h i)
  | 0, _ => w
  | i + 1, hi => by
    have w1 := wf_madeN w ns i (by omega)
    exact wf_switch (wf_load w1 (by omega) (progV_len _) (progV_in _)) (by omega) (sS_in ns i).1 (sS_in ns i).2
theorem lm_load {k u : Nat} {h : Ho} {cs : List Int} (w : Lm k h) : Lm k (loadT h u cs) := fun v => by
  refine ⟨?_, (w v).2⟩
  by_cases c : u < h.ps.length
  · by_cases e : u = v
    · subst e
      rw [show pu (loadT h u cs) u = { pu h u with m := { (pu h u).m with cells := cs } } from pu_set c]; exact (w u).1
    · rw [show pu (loadT h u cs) v = pu h v from pu_ne e]; exact (w v).1
  · rw [show loadT h u cs = h by unfold loadT; rw [List.set_eq_of_length_le (by omega)]]; exact (w v).1
theorem lm_sw {k u : Nat} {h : Ho} {s : Int} (w : Lm k h) : Lm k (switchT h u s) := fun v => by
  refine ⟨?_, (w v).2⟩
  by_cases c : u < h.ps.length
  · by_cases e : u = v
    · subst e
      rw [show pu (switchT h u s) u = { pu h u with sw := s } from pu_set c]; exact (w u).1
    · rw [show pu (switchT h u s) v = pu h v from pu_ne e]; exact (w v).1
  · rw [show switchT h u s = h by unfold switchT; rw [List.set_eq_of_length_le (by omega)]]; exact (w v).1
theorem lm_madeN {k : Nat} {h : Ho} (w : Lm k h) (ns : List Int) : ∀ i, Lm k (madeN ns h i)
  | 0 => w
  | i + 1 => lm_sw (lm_load (lm_madeN w ns i))
theorem syn_madeN {A : HA} {h : Ho} (s : Syn A h) (ns : List Int) : ∀ i, Syn A (madeN ns h i)
  | 0 => s
  | i + 1 => ⟨(syn_madeN s ns i).sw, (syn_madeN s ns i).tn⟩
/-- a new house beside a world -/
def spMade (K : PySem.W.Frag) : Sp := fun vs H Q _ => ∃ (F : FS) (W : Hp → Prop) (v : V) (a : Addr) (ns : List Int) (n r : Nat) (q b : Int), vs = [v, .ref a] ∧ Wo F W ∧ Ok F W H ∧ Da K H F v (hallD n r q b) ∧ SF K H F a ns ∧ 1 ≤ n ∧ n ≤ 8 ∧ 1 ≤ r ∧ r ≤ 8 ∧ 1 ≤ q ∧ 1 ≤ b ∧
  ∀ A H', Syn A (madeT ns n r q b) → HoAt (CCk K) n r H' A (madeT ns n r q b) → Mv F H (orF F (footH n r A)) H' → FA F H' → W H' → (∀ z, footH n r A z → H z = none ∧ ¬ F z) → Q (.ref (A.ad .house)) H'
/-! acts -/
inductive AK where
  | start | key | load | switches | run
structure Act where
  k : AK
  u : Nat
  v : Int
def AK.s : AK → Str
  | .start => "start"
  | .key => "key"
  | .load => "load"
  | .switches => "switches"
  | .run => "run"
def actD (a : Act) : PyData := .tuple [.str a.k.s, .int (a.u : Int), .int a.v]
def actOk (n : Nat) (a : Act) : Prop := a.u < n ∧ match a.k with
  | .start => 0 ≤ a.v ∧ a.v < 64
  | .key => 0 ≤ a.v ∧ a.v < 256
  | .load => True
  | .switches => 0 ≤ a.v ∧ a.v < 1024
  | .run => 0 ≤ a.v ∧ a.v < 9
def doT (h : Ho) (a : Act) : Ho := match a.k with
  | .start => startT h a.u a.v
  | .key => keyT h a.u a.v
  | .load => loadT h a.u (progV a.v)
  | .switches => switchT h a.u a.v
  | .run => runT h a.v.toNat
def actOf (n : Nat) (c : Int) : Act :=
  if mixV c 9883 8 = 0 then ⟨.start, (mixV c 9887 n).toNat, mixV c 9871 64⟩
  else if 5 < mixV c 9883 8 then ⟨if mixV c 9883 8 = 6 then .load else .switches, (mixV c 9887 n).toNat, mixV c 9853 1024⟩
  else if mixV c 9883 8 < 3 then ⟨.key, (mixV c 9887 n).toNat, mixV c 9859 256⟩
  else ⟨.run, 0, mixV c 9857 9⟩
def acts0 (ns : List Int) (n : Nat) : List Act := ((List.range n).filter fun (k : Nat) => decide (0 < mixV (cellAt ns (4 + (k : Int))) 9901 5)).map fun k => ⟨.start, k, 0⟩
def actsV (ns : List Int) (n : Nat) : List Act := acts0 ns n ++ ((ns.take 28).drop 12).map (actOf n)
theorem actOf_ok {n : Nat} (hn : 0 < n) (c : Int) : actOk n (actOf n c) := by
  have u0 := mixV_lo (c := c) (p := 9887) (m := (n : Int)) (by omega)
  have u1 := mixV_hi (c := c) (p := 9887) (m := (n : Int)) (by omega)
  have e : ∀ m, 0 < m → 0 ≤ mixV c 9871 m ∧ mixV c 9871 m < m := fun m h => ⟨mixV_lo h, mixV_hi h⟩
  have a := e 64 (by decide)
  have b0 := mixV_lo (c := c) (p := 9853) (m := 1024) (by decide)
  have b1 := mixV_hi (c := c) (p := 9853) (m := 1024) (by decide)
  have c0 := mixV_lo (c := c) (p := 9859) (m := 256) (by decide)
  have c1 := mixV_hi (c := c) (p := 9859) (m := 256) (by decide)
  have d0 := mixV_lo (c := c) (p := 9857) (m := 9) (by decide)
  have d1 := mixV_hi (c := c) (p := 9857) (m := 9) (by decide)
  unfold actOf
  split
  · exact ⟨by show (mixV c 9887 n).toNat < n; omega, a⟩
  split
  · refine ⟨by show (mixV c 9887 n).toNat < n; omega, ?_⟩
    split
    · rename_i h; dsimp only at h; split at h <;> cases h
    · rename_i h; dsimp only at h; split at h <;> cases h
    · trivial
    · exact ⟨b0, b1⟩
    · rename_i h; dsimp only at h; split at h <;> cases h
  split
  · exact ⟨by show (mixV c 9887 n).toNat < n; omega, c0, c1⟩
  · exact ⟨hn, d0, d1⟩
theorem actsV_ok {ns : List Int} {n : Nat} (hn : 0 < n) : ∀ a ∈ actsV ns n, actOk n a := by
  intro a ha
  rcases List.mem_append.mp ha with h | h
  · obtain ⟨k, hk, rfl⟩ := List.mem_map.mp h
    have := List.mem_range.mp (List.mem_filter.mp hk).1
    exact ⟨this, by show (0 : Int) ≤ 0 ∧ (0 : Int) < 64; decide⟩
  · obtain ⟨c, _, rfl⟩ := List.mem_map.mp h
    exact actOf_ok hn c
theorem actsV_len {ns : List Int} {n : Nat} (hn : n ≤ 8) : (actsV ns n).length ≤ 24 := by
  unfold actsV acts0
  rw [List.length_append, List.length_map, List.length_map, List.length_drop, List.length_take]
  have := List.length_filter_le (fun (k : Nat) => decide (0 < mixV (cellAt ns (4 + (k : Int))) 9901 5)) (List.range n)
  rw [List.length_range] at this
  omega
theorem sh_act {a : Act} : Sh 1 (actD a) := sh_tup (shA_cons (sh_str (by cases a.k <;> decide +kernel)) (shA_cons sh_int (shA_cons sh_int shA_nil)))
def preActs (K : PySem.W.Frag) (vs : List V) (H : Hp) (F : FS) (_ : Hp → Prop) (ds : List PyData) : Prop := ∃ (v : V) (a : Addr) (ns : List Int) (n : Nat) (r q b : Int), vs = [v, .ref a] ∧ Da K H F v (hallD n r q b) ∧ SF K H F a ns ∧ ns.length ≤ 63 ∧ 1 ≤ n ∧ n ≤ 8 ∧ ds = (actsV ns n).map actD
def spDo (K : PySem.W.Frag) : Sp := fun vs H Q _ => ∃ (F : FS) (n r : Nat) (A : HA) (h : Ho) (k : Nat) (v : V) (a : Act), vs = [.ref (A.ad .house), v] ∧ Da K H F v (actD a) ∧ HoAt (CCk K) n r H A h ∧ WfH n r h ∧ Lm k h ∧ k < 500000 ∧ n ≤ 8 ∧ Syn A h ∧ actOk n a ∧ HNy (CCk K) n r H A (doT h a) (Q .non)
theorem wf_do {n r : Nat} {h : Ho} {a : Act} (w : WfH n r h) (o : actOk n a) : WfH n r (doT h a) := by
  obtain ⟨ak, au, av⟩ := a
  obtain ⟨hu, hv⟩ := o
  cases ak
  · exact wf_start w hu hv
  · exact wf_key w hu hv
  · exact wf_load w hu (progV_len _) (progV_in _)
  · exact wf_switch w hu hv.1 hv.2
  · exact wf_runT w _
theorem lm_do {n r k : Nat} {h : Ho} {a : Act} (l : Lm k h) (w : WfH n r h) (o : actOk n a) (h8 : n ≤ 8) : Lm (k + 81) (doT h a) := by
  obtain ⟨ak, au, av⟩ := a
  obtain ⟨hu, hv⟩ := o
  have e1 : ∀ e, Lm (k + 1) (eventT h au e) := fun e => lm_event l (by rw [w.lp]; exact hu) (by rw [w.ld]; exact hu)
  cases ak
  · exact (lm_settle (e1 _)).mono (by omega)
  · exact (lm_settle (e1 _)).mono (by omega)
  · exact (lm_load l).mono (by omega)
  · exact (lm_sw l).mono (by omega)
  · have hv : 0 ≤ av ∧ av < 9 := hv
    exact (lm_run l w h8 av.toNat).mono (by omega)
def doN (h : Ho) (as : List Act) : Nat → Ho
  | 0 => h
  | i + 1 => match as[i]? with
    | some a => doT (doN h as i) a
    | none => doN h as i
theorem doN_s {h : Ho} {as : List Act} {i : Nat} {a : Act} (e : as[i]? = some a) : doN h as (i + 1) = doT (doN h as i) a := by
  show (match as[i]? with | some a => doT (doN h as i) a | none => doN h as i) = _
  rw [e]
theorem wf_doN {n r : Nat} {h : Ho} {as : List Act} (w : WfH n r h) (o : ∀ a ∈ as, actOk n a) : ∀ i, WfH n r (doN h as i)
  | 0 => w
  | i + 1 => by
    show WfH n r (match as[i]? with | some a => doT (doN h as i) a | none => doN h as i)
    cases e : as[i]? with
    | none => exact wf_doN w o i
    | some a => exact wf_do (wf_doN w o i) (o a (List.mem_of_getElem? e))
theorem lm_doN {n r k : Nat} {h : Ho} {as : List Act} (l : Lm k h) (w : WfH n r h) (o : ∀ a ∈ as, actOk n a) (h8 : n ≤ 8) : ∀ i, Lm (k + 81 * i) (doN h as i)
  | 0 => l
  | i + 1 => by
    show Lm _ (match as[i]? with | some a => doT (doN h as i) a | none => doN h as i)
    cases e : as[i]? with
    | none => exact (lm_doN l w o h8 i).mono (by omega)
    | some a => exact (lm_do (lm_doN l w o h8 i) (wf_doN w o i) (o a (List.mem_of_getElem? e)) h8).mono (by omega)
section
variable {c : CC} {n r : Nat} {H H' H1 : Hp} {A A' : HA} {h h' : Ho} {F F' : FS} {D : Addr} {o : HO} {W : Hp → Prop}
theorem woX : Wo (footH n r A) (fun H => HoAt c n r H A h) := ⟨fun _ _ k t x => x.loc k t⟩
theorem HoAt.tps (x : HoAt c n r H A h) (m : Mv (footH n r A) H F' H') : TpS H H' := fun b xs e => m.keep b _ (fun f => (x.noT b f).a _ e) e
theorem Mv.updFresh (m : Mv F H F' H1) (hD : H D = none) : Mv F H F' (upd H1 D o) := ⟨fun b u n e => by rw [upd_ne (fun q => by rw [q, hD] at e; cases e)]; exact m.keep b u n e, m.new⟩
theorem Mv.up (m : Mv F H F H') {G : FS} (g : ∀ b, F b → G b) : Mv G H G H' := ⟨fun b o n e => m.keep b o (fun f => n (g b f)) e, fun b f => .inl f⟩
theorem HoAt.updOut {vs : List V} (x : HoAt c n r H A h) (hD : H D = some (.lst vs)) (nD : ¬ footH n r A D) : HoAt c n r (upd H D o) A h := x.loc (fun b u f e => by rw [upd_ne (fun q => nD (by rw [← q]; exact f))]; exact e) (.upd hD)
theorem Wo.upd {vs : List V} (wo : Wo F W) (hD : H D = some (.lst vs)) (nD : ¬ F D) (w : W H) : W (upd H D o) := wo.loc _ _ (fun b u f e => by rw [upd_ne (fun q => nD (by rw [← q]; exact f))]; exact e) (.upd hD) w
/-- a world beside a house that changes -/
theorem Wo.beside (wo : Wo F W) (x : HoAt c n r H A h) (nF : ∀ z, footH n r A z → ¬ F z) (m : Mv (footH n r A) H F' H') (w : W H) : W H' := wo.loc _ _ (fun b o f e => m.keep b o (fun g => nF b g f) e) (x.tps m) w
theorem FA.mv (fa : FA F H) (m : Mv F' H F' H') (nF : ∀ z, F' z → ¬ F z) : FA F H' := fun b f e => by
  cases z : H b with
  | none => exact fa b f z
  | some o => rw [m.keep b o (fun g => nF b g f) z] at e; cases e
theorem FA.updFresh (fa : FA F H) : FA F (upd H D o) := fun b f e => by
  by_cases q : b = D
  · rw [q, upd_same] at e; cases e
  · rw [upd_ne q] at e; exact fa b f e
end
section
variable {K : PySem.W.Frag} {c : CC} {n r : Nat} {H H' : Hp} {A : HA} {h h' : Ho} {a : Addr} {xs : List V} {F' : FS}
/-- tuples stay, frozen ones too -/
def TpA' (H H' : Hp) : Prop := ∀ b o, NoTup H b ∨ (H b = some o → H' b = some o)
theorem HoAt.tpA (_ : HoAt c n r H' A h') (x : HoAt c n r H A h) (m : Mv (footH n r A) H F' H') : TpA' H H' := fun b o => (Classical.em (footH n r A b)).elim (fun f => .inl (x.noT b f)) (fun f => .inr (m.keep b o f))
theorem smTp (t : TpA' H H') (hq : SqT K H a xs) : SqT K H' a xs := by
  rcases hq with (e | ⟨o, e⟩) | e
  · exact .inl (.inl ((t a _).elim (fun z => absurd e (z.a _)) (fun z => z e)))
  · exact .inl (.inr ⟨o, (t a _).elim (fun z => absurd e (z.f _ _)) (fun z => z e)⟩)
  · exact .inr e
end
/-! what never changes; settled houses -/
section
variable {n r u : Nat} {h : Ho} {a : Act} {e : Ev}
def QB (h h' : Ho) : Prop := h'.quantum = h.quantum ∧ h'.beat = h.beat ∧ h'.ps.length = h.ps.length
theorem QB.trans {h1 h2 h3 : Ho} (a : QB h1 h2) (b : QB h2 h3) : QB h1 h3 := ⟨b.1.trans a.1, b.2.1.trans a.2.1, b.2.2.trans a.2.2⟩
theorem qb_event : QB h (eventT h u e) := ⟨event_same.quantum, event_same.beat, event_same.len⟩
theorem qb_settle : QB h (settleT h) := by
  unfold settleT
  split
  · exact ⟨rfl, rfl, rfl⟩
  · split
    · exact ⟨rfl, rfl, rfl⟩
    · exact ⟨enter_same.quantum, enter_same.beat, by rw [enter_same.ps]⟩
theorem qb_tickN : ∀ k, QB h (tickN h k)
  | 0 => ⟨rfl, rfl, rfl⟩
  | k + 1 => (qb_tickN k).trans qb_event
theorem qb_turn : QB h (turnT h) := by
  rcases runs_or h with hr | ⟨u, hr⟩
  · rw [turn_none hr]; exact ⟨rfl, rfl, rfl⟩
  · rw [turn_some hr]; split <;> exact ⟨rfl, rfl, rfl⟩
theorem qb_step1 : QB h (step1 h) := by
  rcases runs_or h with hr | ⟨u, hr⟩
  · rw [step1_none hr]; exact ⟨rfl, rfl, rfl⟩
  · rw [step1_some hr]
    have := qb_event (h := { h with steps := h.steps + 1 }) (u := u) (e := .step)
    exact this
theorem qb_step : QB h (stepT h) := by
  unfold stepT step2
  refine QB.trans ?_ qb_settle
  split
  · exact (qb_step1.trans (qb_tickN _)).trans qb_turn
  · exact qb_step1
theorem qb_run : ∀ k, QB h (runT h k)
  | 0 => ⟨rfl, rfl, rfl⟩
  | k + 1 => (qb_run k).trans qb_step
theorem qb_do : QB h (doT h a) := by
  obtain ⟨ak, au, av⟩ := a
  cases ak
  · exact (qb_event).trans qb_settle
  · exact (qb_event).trans qb_settle
  · exact ⟨rfl, rfl, List.length_set⟩
  · exact ⟨rfl, rfl, List.length_set⟩
  · exact qb_run _
theorem qb_doN {as : List Act} : ∀ i, QB h (doN h as i)
  | 0 => ⟨rfl, rfl, rfl⟩
  | i + 1 => by
    show QB h (match as[i]? with | some a => doT (doN h as i) a | none => doN h as i)
    cases e : as[i]? with
    | none => exact qb_doN i
    | some a => exact (qb_doN i).trans qb_do
theorem qb_madeN {ns : List Int} : ∀ i, QB h (madeN ns h i)
  | 0 => ⟨rfl, rfl, rfl⟩
  | i + 1 => (qb_madeN i).trans ⟨rfl, rfl, by show (List.set _ _ _).length = _; rw [List.length_set]; show (List.set _ _ _).length = _; rw [List.length_set]⟩
/-- none runs: the row is empty -/
def Sd (h : Ho) : Prop := h.runs = none → h.row = []
theorem sd_run (w : WfH n r h) (s : Sd h) : ∀ k, Sd (runT h k)
  | 0 => s
  | k + 1 => by
    have w1 := wf_runT w k
    show Sd (settleT (step2 (runT h k)))
    refine settled (n := n) (r := r) ?_
    unfold step2
    split
    · exact wf_tick (wf_step1 w1)
    · exact wf_step1 w1
theorem sd_do (w : WfH n r h) (s : Sd h) (o : actOk n a) : Sd (doT h a) := by
  obtain ⟨ak, au, av⟩ := a
  obtain ⟨hu, hv⟩ := o
  cases ak
  · exact settled (wf_event w hu hv (fun z => by cases z))
  · exact settled (wf_event w hu hv (fun z => by cases z))
  · exact s
  · exact s
  · exact sd_run w s _
theorem sd_doN {as : List Act} (w : WfH n r h) (s : Sd h) (o : ∀ a ∈ as, actOk n a) : ∀ i, Sd (doN h as i)
  | 0 => s
  | i + 1 => by
    show Sd (match as[i]? with | some a => doT (doN h as i) a | none => doN h as i)
    cases e : as[i]? with
    | none => exact sd_doN w s o i
    | some a => exact sd_do (wf_doN w o i) (sd_doN w s o i) (o a (List.mem_of_getElem? e))
theorem runs_madeN {ns : List Int} : ∀ i, (madeN ns h i).runs = h.runs ∧ (madeN ns h i).row = h.row
  | 0 => ⟨rfl, rfl⟩
  | i + 1 => runs_madeN i
theorem sd_made {ns : List Int} {n r : Nat} {q b : Int} : Sd (madeT ns n r q b) ∧ (madeT ns n r q b).runs = none := by
  have e := runs_madeN (ns := ns) (h := newH n r q b) n
  exact ⟨fun _ => e.2, e.1⟩
end
section
variable {P : Program} {w : World} {K : PySem.W.Frag} {mg : Str → Option Value} {base : Heap}

theorem sc_law_hall : FnScope ["_law_script", "_law_users", "_law_rooms", "_law_quantum", "_law_beat"] ["_law_script"] (defScope s_law_hall) := ⟨rfl, rfl, rfl, by decide +kernel, rfl, by decide +kernel, by decide +kernel⟩
theorem cal_law_hall (T : Tx K mg) : Cal P w K mg base 3 "_law_hall" ["_law_script"] (spDV K (preHall K)) := by
  refine cal_mk T 44 44 rfl rfl sc_law_hall (fun _ _ _ _ _ _ us hl => match us, hl with | [_], _ => rfl) (fun vs H Q E h => ?_) (fun f cdv A outer s H vs Q E hr h => ?_)
  · obtain ⟨F, W, d, wo, ok, ⟨a, ns, rfl, hS, hlen, rfl⟩, k⟩ := h
    rfl
  · obtain ⟨F, W, d, wo, ok, ⟨a, ns, rfl, hS, hlen, rfl⟩, k⟩ := h
    have M := T.mt
    have U := T.pt
    have HT : HTx K (CCk K).h := T.ht
    have RT : RTx K (CCk K).r := T.rt
    refine ⟨_, (pss_cons (ps_set (i := 1) sc_law_hall.nd rfl (Or.inl rfl) (pe_op op_add pe_int (pe_cal (cal_law_mix (K := K) T) hr (by decide) rfl (pa_cons (pe_cal (cal_law_cell (K := K) T) hr (by decide) rfl (pa_cons (pv 0) (pa_cons pe_int pa_nil))) (pa_cons pe_int (pa_cons pe_int pa_nil)))))) (C8.pss_cut (ps_if (PW.pt (pw_or (pt_cmpR op_gt (pe_callB call_len_seq (by rfl) (T.free 51) PySem.boot_len (pa_cons (pv 0) pa_nil)) pe_int (nomark _)) (pw_or1 (pt_cmpR op_eq (pe_cal (cal_law_mix (K := K) T) hr (by decide) rfl (pa_cons (pe_cal (cal_law_cell (K := K) T) hr (by decide) rfl (pa_cons (pv 0) (pa_cons pe_int pa_nil))) (pa_cons pe_int (pa_cons pe_int pa_nil)))) pe_int (nomark _))))) (pss_one (ps_set (i := 1) sc_law_hall.nd rfl (Or.inl rfl) pe_int)) pss_nil) (pss_cons (ps_set (i := 2) sc_law_hall.nd rfl (Or.inl rfl) (pe_op op_add pe_int (pe_cal (cal_law_mix (K := K) T) hr (by decide) rfl (pa_cons (pe_cal (cal_law_cell (K := K) T) hr (by decide) rfl (pa_cons (pv 0) (pa_cons pe_int pa_nil))) (pa_cons pe_int (pa_cons (pv 1) pa_nil)))))) (pss_cons (ps_set (i := 3) sc_law_hall.nd rfl (Or.inl rfl) (pe_op op_add pe_int (pe_cal (cal_law_mix (K := K) T) hr (by decide) rfl (pa_cons (pe_cal (cal_law_cell (K := K) T) hr (by decide) rfl (pa_cons (pv 0) (pa_cons pe_int pa_nil))) (pa_cons pe_int (pa_cons pe_int pa_nil)))))) (pss_cons (ps_set (i := 4) sc_law_hall.nd rfl (Or.inl rfl) (pe_op op_add pe_int (pe_cal (cal_law_mix (K := K) T) hr (by decide) rfl (pa_cons (pe_cal (cal_law_cell (K := K) T) hr (by decide) rfl (pa_cons (pv 0) (pa_cons pe_int pa_nil))) (pa_cons pe_int (pa_cons pe_int pa_nil)))))) (pss_one (ps_ret (pe_tup (pa_cons (pv 1) (pa_cons (pv 2) (pa_cons (pv 3) (pa_cons (pv 4) pa_nil)))))))))))), ?_⟩
    refine q_set (v_add v_c (v_call (va_cons (v_call (va_cons (v_var rfl) (va_cons v_c va_nil)) (fun _ q => ⟨_, _, _, rfl, hS.sq, by decide, q⟩)) (va_cons v_c (va_cons v_c va_nil))) (fun _ q => ⟨_, _, _, rfl, by decide, by decide, q⟩))) ?_
    refine q_rel (fun σ' H' => H = H' ∧ σ' = [some (.ref a), some (.int (hN ns)), none, none, none]) ?_ ?_
    · refine s_if (a_or (a_t (v_gt (v_cb (va_cons (v_var rfl) va_nil) (fun _ q => ⟨_, _, rfl, .inl hS.sq, q⟩)) v_c)) (fun _ => a_t (v_eqI (v_call (va_cons (v_call (va_cons (v_var rfl) (va_cons v_c va_nil)) (fun _ q => ⟨_, _, _, rfl, hS.sq, by decide, q⟩)) (va_cons v_c (va_cons v_c va_nil))) (fun _ q => ⟨_, _, _, rfl, by decide, by decide, q⟩)) v_c))) (fun c => ?_) (fun c => ?_)
      · have c' : mixV (cellAt ns 2) 9479 7 = 3 := by
          rw [List.length_map] at c
          rcases Bool.or_eq_true_iff.mp c with h | h
          · have := of_decide_eq_true h; omega
          · exact of_decide_eq_true h
        refine s_set v_c ⟨rfl, ?_⟩
        unfold hN; rw [if_pos c']; rfl
      · have c' : ¬ mixV (cellAt ns 2) 9479 7 = 3 := of_decide_eq_false (Bool.or_eq_false_iff.mp c).2
        refine s_next ⟨rfl, ?_⟩
        unfold hN; rw [if_neg c']; rfl
    rintro _ _ ⟨rfl, rfl⟩
    have hn := hN_in ns
    refine q_set (v_add v_c (v_call (va_cons (v_call (va_cons (v_var rfl) (va_cons v_c va_nil)) (fun _ q => ⟨_, _, _, rfl, hS.sq, by decide, q⟩)) (va_cons v_c (va_cons (v_var rfl) va_nil))) (fun _ q => ⟨_, _, _, rfl, by decide, by omega, q⟩))) ?_
    refine q_set (v_add v_c (v_call (va_cons (v_call (va_cons (v_var rfl) (va_cons v_c va_nil)) (fun _ q => ⟨_, _, _, rfl, hS.sq, by decide, q⟩)) (va_cons v_c (va_cons v_c va_nil))) (fun _ q => ⟨_, _, _, rfl, by decide, by decide, q⟩))) ?_
    refine q_set (v_add v_c (v_call (va_cons (v_call (va_cons (v_var rfl) (va_cons v_c va_nil)) (fun _ q => ⟨_, _, _, rfl, hS.sq, by decide, q⟩)) (va_cons v_c (va_cons v_c va_nil))) (fun _ q => ⟨_, _, _, rfl, by decide, by decide, q⟩))) ?_
    exact s_retD (K := K) (d := hallD (hN ns) (hR ns) (hQ ns) (hB ns)) (dv_tup wo (da_cons (dv_var rfl (.int _)) (da_cons (dv_var rfl (.int _)) (da_cons (dv_var rfl (.int _)) (da_cons (dv_var rfl (.int _)) da_nil))))) ok k

theorem sc_law_made : FnScope ["_law_hall_here", "_law_script", "_law_made_here", "_law_user", "_law_cells"] ["_law_hall_here", "_law_script"] (defScope s_law_made) := ⟨rfl, rfl, rfl, by decide +kernel, rfl, by decide +kernel, by decide +kernel⟩
theorem cal_law_made (T : Tx K mg) : Cal P w K mg base 9 "_law_made" ["_law_hall_here", "_law_script"] (spMade K) := by
  refine cal_mk T 45 45 rfl rfl sc_law_made (fun _ _ _ _ _ _ us hl => match us, hl with | [_, _], _ => rfl) (fun vs H Q E h => ?_) (fun f cdv A outer s H vs Q E hr h => ?_)
  · obtain ⟨F, W, v, a, ns, n, r, q, b, rfl, wo, ok, hV, hS, n1, n8, r1, r8, q1, b1, k⟩ := h
    rfl
  · obtain ⟨F, W, v, a, ns, n, r, q, b, rfl, wo, ok, hV, hS, n1, n8, r1, r8, q1, b1, k⟩ := h
    have M := T.mt
    have U := T.pt
    have HT : HTx K (CCk K).h := T.ht
    have RT : RTx K (CCk K).r := T.rt
    refine ⟨_, (pss_cons (ps_set (i := 2) sc_law_made.nd rfl (Or.inl rfl) (show PE _ _ (tMake (He.ga K "House") _ [] E0 _) from pe_new (cal_House (K := K) T) hr (by decide) rfl (pa_cons (pe_ix ix_tup (pv 0) pe_int (fun _ _ => rfl)) (pa_cons (pe_ix ix_tup (pv 0) pe_int (fun _ _ => rfl)) (pa_cons (pe_ix ix_tup (pv 0) pe_int (fun _ _ => rfl)) (pa_cons (pe_ix ix_tup (pv 0) pe_int (fun _ _ => rfl)) pa_nil)))))) (pss_cons (ps_for PassesOwn.never rfl (pi_range1 (by rfl) (T.free 53) (pa_cons (pe_ix ix_tup (pv 0) pe_int (fun _ _ => rfl)) pa_nil)) (pg_name (i := 3) sc_law_made.nd rfl (Or.inl rfl)) (pss_cons (ps_set (i := 4) sc_law_made.nd rfl (Or.inl rfl) (pe_cal (cal_law_program (K := K) T) hr (by decide) rfl (pa_cons (pe_cal (cal_law_cell (K := K) T) hr (by decide) rfl (pa_cons (pv 1) (pa_cons (pe_op op_add pe_int (pv 3)) pa_nil))) pa_nil))) (pss_cons (ps_expr (pe_cal (cal_load (K := K) T) hr (by decide) rfl (pa_cons (pv 2) (pa_cons (pv 3) (pa_cons (pv 4) pa_nil))))) (pss_cons (ps_asg pe_int (pg_sub (pv 4) (pv 3) set_list)) (pss_one (ps_expr (pe_cal (cal_set_switches (K := K) T) hr (by decide) rfl (pa_cons (pv 2) (pa_cons (pv 3) (pa_cons (pe_cal (cal_law_mix (K := K) T) hr (by decide) rfl (pa_cons (pe_cal (cal_law_cell (K := K) T) hr (by decide) rfl (pa_cons (pv 1) (pa_cons (pe_op op_add pe_int (pv 3)) pa_nil))) (pa_cons pe_int (pa_cons pe_int pa_nil)))) pa_nil)))))))))) (pss_one (ps_ret (pv 2))))), ?_⟩
    have hv0 := hV
    unfold hallD at hv0
    cases hv0 with | @tup vt xs _ ht h2 =>
    have ex := h2.ints (ns := [(n : Int), (r : Int), q, b])
    subst ex
    refine qx_set (x_house (n := n) (m := r) (va_cons (v_ixT (v_var rfl) v_c ht.sq (by decide) rfl) (va_cons (v_ixT (v_var rfl) v_c ht.sq (by decide) rfl) (va_cons (v_ixT (v_var rfl) v_c ht.sq (by decide) rfl) (va_cons (v_ixT (v_var rfl) v_c ht.sq (by decide) rfl) va_nil)))) (by omega) (by omega) (fun A H1 sy fr x s1 => ?_))
    have w0 : WfH n r (newH n r q b) := wf_newH (by omega) q1 b1
    have nF : ∀ z, footH n r A z → ¬ F z := fun z hz f => ok.fa z f (fr z hz)
    have m1 : Mv F H (orF F (footH n r A)) H1 := ⟨fun z o _ e => s1 _ _ e, fun z f => f.imp id (fr z)⟩
    have ok1 := ok.same wo s1
    have wo2 : Wo (orF F (footH n r A)) W := wo.up fun _ => .inl
    replace hV := hV.mv m1
    replace hS := hS.mv m1
    replace ht := ht.mv m1
    refine q_forR (n := (n : Int)) (va_cons (v_ixT (v_var rfl) v_c ht.sq (by decide) rfl) va_nil) (by omega) (fun i σ' H' => ∃ y z, i ≤ n ∧ HoAt (CCk K) n r H' A (madeN ns (newH n r q b) i) ∧ Mv (orF F (footH n r A)) H1 (orF F (footH n r A)) H' ∧ FA F H' ∧ W H' ∧ σ' = [some (.ref vt), some (.ref a), some (.ref (A.ad .house)), y, z]) ⟨_, _, Nat.zero_le _, x, .refl, ok1.fa, ok1.w, rfl⟩ (fun (i : Nat) σ' H' hi pv => ?_) (fun σ' H' pv => ?_)
    · obtain ⟨y, z, hin, xi, mi, fai, wi, rfl⟩ := pv
      have hi2 : i < n := by omega
      have hSi := hS.mv mi
      have oki : Ok (orF F (footH n r A)) (fun H => W H ∧ HoAt (CCk K) n r H A (madeN ns (newH n r q b) i)) H' := ⟨fai.or xi.fa, wi, xi⟩
      have wo3 : Wo (orF F (footH n r A)) (fun H => W H ∧ HoAt (CCk K) n r H A (madeN ns (newH n r q b) i)) := wo2.and (woX.up fun _ => .inr)
      have w1 := wf_madeN w0 ns i hin
      refine q_dn' (K := K) (ds := intsL (pS ns i)) (dn_sp wo3 (fun H2 m2 o2 => va_cons (v_call (va_cons (v_var rfl) (va_cons (v_add v_c (v_var rfl)) va_nil)) (fun _ q => ⟨_, _, _, rfl, (hSi.mv m2).sq, by omega, q⟩)) va_nil) (fun _ _ _ => ⟨_, rfl, rfl⟩)) oki .refl (fun D H2 hD ow m2 => ?_)
      obtain ⟨vs, e1, e2⟩ := ow.ow
      have ev := e2.ints (ns := pS ns i)
      subst ev
      have xi2 := ow.ok.w.2
      have nD := ow.no
      refine q_do (va_cons (v_var rfl) (va_cons (v_var rfl) (va_cons (v_var rfl) va_nil))) ⟨n, r, A, _, i, D, pS ns i, rfl, xi2, w1, hi2, e1, fun f => nD (.inr f), progV_len _, fun H3 x3 m3 => ?_⟩
      dsimp only
      have e3 := m3.keep D _ (fun f => nD (.inr f)) e1
      have fa3 : FA F H3 := FA.mv (fun b f => ow.ok.fa b (.inl f)) m3 nF
      have W3 := wo.beside xi2 nF m3 ow.ok.w.1
      refine q_setItem v_c (v_var rfl) (v_var rfl) e3 (by omega) (by rw [show (pS ns i).length = 64 from progV_len _]; omega) ?_
      have x4 := x3.updOut (o := .lst (((pS ns i).set (i : Int).toNat 775).map V.int)) e3 (fun f => nD (.inr f))
      have W4 := wo.upd (o := .lst (((pS ns i).set (i : Int).toNat 775).map V.int)) e3 (fun f => nD (.inl f)) W3
      have fa4 : FA F (upd H3 D (.lst (((pS ns i).set (i : Int).toNat 775).map V.int))) := fa3.updFresh
      have m4 : Mv (orF F (footH n r A)) H' (orF F (footH n r A)) (upd H3 D (.lst (((pS ns i).set (i : Int).toNat 775).map V.int))) := (m2.trans (m3.up fun _ => .inr)).updFresh hD
      generalize upd H3 D (.lst (((pS ns i).set (i : Int).toNat 775).map V.int)) = H4 at x4 W4 fa4 m4 ⊢
      have S4 := hSi.mv m4
      have w2 := wf_load w1 hi2 (progV_len (cellAt ns (4 + (i : Int)))) (progV_in _)
      refine s_do (va_cons (v_var rfl) (va_cons (v_var rfl) (va_cons (v_call (va_cons (v_call (va_cons (v_var rfl) (va_cons (v_add v_c (v_var rfl)) va_nil)) (fun _ q => ⟨_, _, _, rfl, S4.sq, by omega, q⟩)) (va_cons v_c (va_cons v_c va_nil))) (fun _ q => ⟨_, _, _, rfl, by decide, by decide, q⟩)) va_nil))) ⟨n, r, A, _, i, sS ns i, rfl, x4, w2, hi2, fun H5 x5 m5 => ?_⟩
      exact ⟨_, _, hi2, x5, mi.trans (m4.trans (m5.up fun _ => .inr)), FA.mv fa4 m5 nF, wo.beside x4 nF m5 W4, rfl⟩
    · obtain ⟨y, z, hin, xi, mi, fai, wi, rfl⟩ := pv
      rw [Int.toNat_natCast] at xi
      exact s_ret (v_var rfl) (k A H' (syn_madeN sy ns n) xi (m1.trans mi) fai wi (fun z hz => ⟨fr z hz, nF z hz⟩))

theorem sc_law_acts : FnScope ["_law_hall_here", "_law_script", "_law_found", "_law_cell_here", "_law_user", "_law_turn", "_law_k"] ["_law_hall_here", "_law_script"] (defScope s_law_acts) := ⟨rfl, rfl, rfl, by decide +kernel, rfl, by decide +kernel, by decide +kernel⟩
theorem cal_law_acts (T : Tx K mg) : Cal P w K mg base 5 "_law_acts" ["_law_hall_here", "_law_script"] (spDN K (preActs K)) := by
  refine cal_mk T 46 46 rfl rfl sc_law_acts (fun _ _ _ _ _ _ us hl => match us, hl with | [_, _], _ => rfl) (fun vs H Q E h => ?_) (fun f cdv A outer s H vs Q E hr h => ?_)
  · obtain ⟨F, W, ds, wo, ok, ⟨v, a, ns, n, r, q, b, rfl, hV, hS, hlen, n1, n8, rfl⟩, k⟩ := h
    rfl
  · obtain ⟨F, W, ds, wo, ok, ⟨v, a, ns, n, r, q, b, rfl, hV, hS, hlen, n1, n8, rfl⟩, k⟩ := h
    have M := T.mt
    have U := T.pt
    have HT : HTx K (CCk K).h := T.ht
    have RT : RTx K (CCk K).r := T.rt
    refine ⟨_, (pss_cons (ps_setLc (i := 2) (own := [("_law_k", 6)]) (g := gName 6)  rfl sc_law_acts.nd rfl rfl (sw_true rfl rfl rfl (by decide +kernel)) (pi_range1 (by rfl) (T.free 53) (pa_cons (pe_ix ix_tup (pv 0) pe_int (fun _ _ => rfl)) pa_nil)) (blkOk_by (own := [("_law_k", 6)]) (N := ["_law_hall_here", "_law_script", "_law_found", "_law_cell_here", "_law_user", "_law_turn", "_law_k"]) (sc := defScope s_law_acts) (by decide +kernel)) (fun _ _ _ _ _ => pg_name (i := 6) sc_law_acts.nd rfl (Or.inl rfl)) (fun _ _ _ _ _ => (pts_one (pt_cmpR op_gt (pe_cal (cal_law_mix (K := K) T) hr (by decide) rfl (pa_cons (pe_cal (cal_law_cell (K := K) T) hr (by decide) rfl (pa_cons (pv 1) (pa_cons (pe_op op_add pe_int (pv 6)) pa_nil))) (pa_cons pe_int (pa_cons pe_int pa_nil)))) pe_int (nomark _)))) (fun _ _ _ _ _ => (pe_tup (pa_cons pe_str (pa_cons (pv 6) (pa_cons pe_int pa_nil)))))) (pss_cons (ps_for PassesOwn.never rfl (pi_list (pe_slice sl_list (pv 1) (po_some pe_int) (po_some pe_int))) (pg_name (i := 3) sc_law_acts.nd rfl (Or.inl rfl)) (pss_cons (ps_set (i := 4) sc_law_acts.nd rfl (Or.inl rfl) (pe_cal (cal_law_mix (K := K) T) hr (by decide) rfl (pa_cons (pv 3) (pa_cons pe_int (pa_cons (pe_ix ix_tup (pv 0) pe_int (fun _ _ => rfl)) pa_nil))))) (pss_cons (ps_set (i := 5) sc_law_acts.nd rfl (Or.inl rfl) (pe_cal (cal_law_mix (K := K) T) hr (by decide) rfl (pa_cons (pv 3) (pa_cons pe_int (pa_cons pe_int pa_nil))))) (pss_one (ps_if (pt_cmpR op_eq (pv 5) pe_int (nomark _)) (pss_one (ps_expr (pe_bm PySem.F.plainAttrs_list PySem.F.slot_list_append PySem.F.type_list_append mt_append (pv 2) (pa_cons (pe_tup (pa_cons pe_str (pa_cons (pv 4) (pa_cons (pe_cal (cal_law_mix (K := K) T) hr (by decide) rfl (pa_cons (pv 3) (pa_cons pe_int (pa_cons pe_int pa_nil)))) pa_nil)))) pa_nil)))) (pss_one (ps_if (pt_cmpR op_gt (pv 5) pe_int (nomark _)) (pss_one (ps_expr (pe_bm PySem.F.plainAttrs_list PySem.F.slot_list_append PySem.F.type_list_append mt_append (pv 2) (pa_cons (pe_tup (pa_cons (pe_ix ix_list (pe_lst (pa_cons pe_str (pa_cons pe_str pa_nil))) (pe_op op_sub (pv 5) pe_int) (fun _ _ => rfl)) (pa_cons (pv 4) (pa_cons (pe_cal (cal_law_mix (K := K) T) hr (by decide) rfl (pa_cons (pv 3) (pa_cons pe_int (pa_cons pe_int pa_nil)))) pa_nil)))) pa_nil)))) (pss_one (ps_if (pt_cmpR op_lt (pv 5) pe_int (nomark _)) (pss_one (ps_expr (pe_bm PySem.F.plainAttrs_list PySem.F.slot_list_append PySem.F.type_list_append mt_append (pv 2) (pa_cons (pe_tup (pa_cons pe_str (pa_cons (pv 4) (pa_cons (pe_cal (cal_law_mix (K := K) T) hr (by decide) rfl (pa_cons (pv 3) (pa_cons pe_int (pa_cons pe_int pa_nil)))) pa_nil)))) pa_nil)))) (pss_one (ps_expr (pe_bm PySem.F.plainAttrs_list PySem.F.slot_list_append PySem.F.type_list_append mt_append (pv 2) (pa_cons (pe_tup (pa_cons pe_str (pa_cons pe_int (pa_cons (pe_cal (cal_law_mix (K := K) T) hr (by decide) rfl (pa_cons (pv 3) (pa_cons pe_int (pa_cons pe_int pa_nil)))) pa_nil)))) pa_nil))))))))))))) (pss_one (ps_ret (pv 2))))), ?_⟩
    have hv0 := hV
    unfold hallD at hv0
    cases hv0 with | @tup vt xs _ ht h2 =>
    have ex := h2.ints (ns := [(n : Int), r, q, b])
    subst ex
    refine q_dn' (K := K) (ds := (acts0 ns n).map actD) (fun H1 m1 o1 Q qq => (dn_lcR (fun (k : Nat) => decide (0 < mixV (cellAt ns (4 + (k : Int))) 9901 5)) (fun (k : Nat) => actD ⟨.start, k, 0⟩) wo (fun H2 m2 _ => va_cons (v_ixT (v_var rfl) v_c (ht.mv m2).sq (by decide) rfl) va_nil) (by omega) (fun _ => rfl) (fun i H2 F2 W2 tn hi => a_t (v_gt (v_call (va_cons (v_call (va_cons (v_var rfl) (va_cons (v_add v_c (v_var rfl)) va_nil)) (fun _ q => ⟨_, _, _, rfl, (hS.mv tn.mv).sq, by omega, q⟩)) (va_cons v_c (va_cons v_c va_nil))) (fun _ q => ⟨_, _, _, rfl, by decide, by decide, q⟩)) v_c)) (fun i H2 F2 W2 tn hi _ => dv_tup tn.wo (da_cons dv_s (da_cons (dv_var rfl (.int _)) (da_cons dv_k da_nil))))) H1 m1 o1 Q (fun D H' hD m' o' w => qq D H' hD m' o' (by
      have e : (acts0 ns n).map actD = fmD (fun (k : Nat) => decide (0 < mixV (cellAt ns (4 + (k : Int))) 9901 5)) (fun (k : Nat) => actD ⟨.start, k, 0⟩) (List.range (n : Int).toNat) := by
        unfold fmD acts0; rw [List.map_map, Int.toNat_natCast]; rfl
      rw [e]; exact w))) ok .refl (fun D1 H1 hD1 ow1 m1 => ?_)
    have hS1 := hS.mv m1
    have ht1 := ht.mv m1
    have CUT : cutV (ns.map V.int) (some 12) (some 28) = ((ns.take 28).drop 12).map V.int := by rw [List.map_drop, List.map_take]; exact cutV_nat (xs := ns.map V.int) (i := 12) (j := 28) (by decide)
    have l0 : (acts0 ns n).length ≤ 8 := by
      have := List.length_filter_le (fun (k : Nat) => decide (0 < mixV (cellAt ns (4 + (k : Int))) 9901 5)) (List.range n)
      rw [List.length_range] at this
      unfold acts0; rw [List.length_map]; omega
    refine q_forLN (nl_slice (v_var rfl) hS1.sq (o_some v_c) (o_some v_c)) (fun S i σ' H' => ∃ y1 y2 y3 y4, Own K H F W D1 H' ((acts0 ns n ++ (((ns.take 28).drop 12).take i).map (actOf n)).map actD) ∧ SqT K H' vt [.int (n : Int), .int r, .int q, .int b] ∧ H' S = some (.lst (((ns.take 28).drop 12).map V.int)) ∧ S ≠ D1 ∧ ¬ F S ∧ σ' = [some (.ref vt), some (.ref a), some (.ref D1), y1, y2, y3, y4]) (fun S hS0 => ?_) (fun S i σ' H' pv => ?_) (fun S i x σ' H' hx pv => ?_) (fun S σ' H' pv => ?_)
    · refine ⟨_, _, _, _, by rw [List.take_zero, List.map_nil, List.append_nil]; exact ow1.same wo (smN hS0), smT (smN hS0) ht1.sq, ?_, (fun e => by obtain ⟨_, z, _⟩ := ow1.ow; rw [← e, hS0] at z; cases z), ow1.ok.fa.no hS0, rfl⟩
      rw [upd_same, CUT]
    · obtain ⟨_, _, _, _, _, _, h, _⟩ := pv
      rw [CUT]
      exact SqL.of h
    · obtain ⟨y1, y2, y3, y4, ow, tt, hSS, nD, nS, rfl⟩ := pv
      rw [CUT, List.getElem?_map] at hx
      obtain ⟨c, hc, rfl⟩ := Option.map_eq_some_iff.mp hx
      have hil := (List.getElem?_eq_some_iff.mp hc).1
      have hil2 : ((ns.take 28).drop 12).length ≤ 16 := by rw [List.length_drop, List.length_take]; omega
      have nxt : ((ns.take 28).drop 12).take (i + 1) = ((ns.take 28).drop 12).take i ++ [c] := by rw [List.take_add_one, hc]; rfl
      have el : (acts0 ns n ++ (((ns.take 28).drop 12).take (i + 1)).map (actOf n)).map actD = (acts0 ns n ++ (((ns.take 28).drop 12).take i).map (actOf n)).map actD ++ [actD (actOf n c)] := by simp only [nxt, List.map_append, List.map_cons, List.map_nil, List.append_assoc]
      have hz2 : ((acts0 ns n ++ (((ns.take 28).drop 12).take i).map (actOf n)).map actD).length ≤ 24 := by
        rw [List.length_map, List.length_append, List.length_map, List.length_take]; omega
      generalize (acts0 ns n ++ (((ns.take 28).drop 12).take i).map (actOf n)).map actD = ds0 at ow el hz2
      obtain ⟨ot, wt⟩ := ow.tn wo
      have u0 := mixV_lo (c := c) (p := 9887) (m := (n : Int)) (by omega)
      have m8 := mixV_lo (c := c) (p := 9883) (m := 8) (by decide)
      have m88 := mixV_hi (c := c) (p := 9883) (m := 8) (by decide)
      have eu : (((mixV c 9887 (n : Int)).toNat : Nat) : Int) = mixV c 9887 (n : Int) := Int.toNat_of_nonneg u0
      refine q_set (v_call (va_cons (v_var rfl) (va_cons v_c (va_cons (v_ixT (v_var rfl) v_c tt (by decide) rfl) va_nil))) (fun _ q => ⟨_, _, _, rfl, by decide, by show (0 : Int) < (n : Int); omega, q⟩)) ?_
      refine q_set (v_call (va_cons (v_var rfl) (va_cons v_c (va_cons v_c va_nil))) (fun _ q => ⟨_, _, _, rfl, by decide, by decide, q⟩)) ?_
      have tt2 : ∀ H2, (∀ (F2 : FS), F2 D1 → (∀ b, F b → F2 b) → Mv F2 H' F2 H2) → SqT K H2 vt [.int (n : Int), .int r, .int q, .int b] := fun H2 mm => by
        have nvt : ¬ (withF F D1) vt ∨ ∀ H', SqT K H' vt [.int (n : Int), .int r, .int q, .int b] := by
          rcases ht.no with h | h
          · refine (Classical.em (vt = D1)).elim (fun e => ?_) (fun e => .inl fun f => f.elim h e)
            subst e
            obtain ⟨vs, z1, _⟩ := ow.ow
            rcases ht.sq with (z | ⟨o, z⟩) | z
            · rw [ow.fr] at z; cases z
            · rw [ow.fr] at z; cases z
            · exact .inr fun _ => .inr z
          · exact .inr h
        exact (TpA.mv (mm (withF F D1) (.inr rfl) (fun _ => .inl)) ⟨tt, nvt⟩).sq
      have END : ∀ H2, Own K H F W D1 H2 (ds0 ++ [actD (actOf n c)]) → (∀ (F2 : FS), F2 D1 → (∀ b, F b → F2 b) → Mv F2 H' F2 H2) → ∃ z1 z2 z3 z4, Own K H F W D1 H2 ((acts0 ns n ++ (((ns.take 28).drop 12).take (i + 1)).map (actOf n)).map actD) ∧ SqT K H2 vt [.int (n : Int), .int r, .int q, .int b] ∧ H2 S = some (.lst (((ns.take 28).drop 12).map V.int)) ∧ S ≠ D1 ∧ ¬ F S ∧ [some (.ref vt), some (.ref a), some (.ref D1), some (V.int c), some (.int (mixV c 9887 (n : Int))), some (.int (mixV c 9883 8)), y4] = [some (.ref vt), some (.ref a), some (.ref D1), z1, z2, z3, z4] := fun H2 ow2 mm => ⟨_, _, _, _, by rw [el]; exact ow2, tt2 H2 mm, (mm (withF F D1) (.inr rfl) (fun _ => .inl)).keep _ _ (fun f => f.elim nS nD) hSS, nD, nS, rfl⟩
      refine s_if (a_t (v_eqI (v_var rfl) v_c)) (fun c1 => ?_) (fun c1 => ?_)
      · have g := of_decide_eq_true c1
        have ea : actOf n c = ⟨.start, (mixV c 9887 n).toNat, mixV c 9871 64⟩ := by unfold actOf; rw [if_pos g]
        refine sx_drop (x_own_app wo ow (v_var rfl) (d := actD (actOf n c)) (by rw [ea]; unfold actD; rw [eu]; exact dv_tup wt (da_cons dv_s (da_cons (dv_var rfl (.int _)) (da_cons (dv_i (fun _ _ _ => (v_call (va_cons (v_var rfl) (va_cons v_c (va_cons v_c va_nil))) (fun _ q => ⟨_, _, _, rfl, by decide, by decide, q⟩)))) da_nil)))) (by omega) END)
      have g := of_decide_eq_false c1
      refine s_if (a_t (v_gt (v_var rfl) v_c)) (fun c2 => ?_) (fun c2 => ?_)
      · have g2 := of_decide_eq_true c2
        have ea : actOf n c = ⟨if mixV c 9883 8 = 6 then .load else .switches, (mixV c 9887 n).toNat, mixV c 9853 1024⟩ := by unfold actOf; rw [if_neg g, if_pos g2]
        have es : (["load", "switches"] : List Str)[(mixV c 9883 8 - 6).toNat]? = some (actOf n c).k.s := by
          rw [ea]
          have h67 : mixV c 9883 8 = 6 ∨ mixV c 9883 8 = 7 := by omega
          rcases h67 with h | h <;> rw [h]
          · rw [if_pos rfl]; rfl
          · rw [if_neg (by decide)]; rfl
        refine sx_drop (x_own_app wo ow (v_var rfl) (d := .tuple [.str (actOf n c).k.s, .int (mixV c 9887 n), .int (mixV c 9853 1024)]) (dv_tup wt (da_cons (dv_ixL (dv_lst wt (ds := [.str "load", .str "switches"]) (da_cons dv_s (da_cons dv_s da_nil))) (fun _ _ _ => v_sub (v_var rfl) v_c) (by omega) (by
          have := congrArg (Option.map PyData.str) es
          rw [← List.getElem?_map] at this
          exact this)) (da_cons (dv_var rfl (.int _)) (da_cons (dv_i (fun _ _ _ => (v_call (va_cons (v_var rfl) (va_cons v_c (va_cons v_c va_nil))) (fun _ q => ⟨_, _, _, rfl, by decide, by decide, q⟩)))) da_nil)))) (by omega) (fun H2 ow2 mm => END H2 (by
          have e2 : actD (actOf n c) = .tuple [.str (actOf n c).k.s, .int (mixV c 9887 n), .int (mixV c 9853 1024)] := by unfold actD; rw [ea]; dsimp only; rw [eu]
          rw [e2]; exact ow2) mm))
      have g2 := of_decide_eq_false c2
      refine s_if (a_t (v_lt (v_var rfl) v_c)) (fun c3 => ?_) (fun c3 => ?_)
      · have g3 := of_decide_eq_true c3
        have ea : actOf n c = ⟨.key, (mixV c 9887 n).toNat, mixV c 9859 256⟩ := by unfold actOf; rw [if_neg g, if_neg g2, if_pos g3]
        refine sx_drop (x_own_app wo ow (v_var rfl) (d := actD (actOf n c)) (by rw [ea]; unfold actD; rw [eu]; exact dv_tup wt (da_cons dv_s (da_cons (dv_var rfl (.int _)) (da_cons (dv_i (fun _ _ _ => (v_call (va_cons (v_var rfl) (va_cons v_c (va_cons v_c va_nil))) (fun _ q => ⟨_, _, _, rfl, by decide, by decide, q⟩)))) da_nil)))) (by omega) END)
      · have g3 := of_decide_eq_false c3
        have ea : actOf n c = ⟨.run, 0, mixV c 9857 9⟩ := by unfold actOf; rw [if_neg g, if_neg g2, if_neg g3]
        refine sx_drop (x_own_app wo ow (v_var rfl) (d := actD (actOf n c)) (by rw [ea]; exact dv_tup wt (da_cons dv_s (da_cons dv_k (da_cons (dv_i (fun _ _ _ => (v_call (va_cons (v_var rfl) (va_cons v_c (va_cons v_c va_nil))) (fun _ q => ⟨_, _, _, rfl, by decide, by decide, q⟩)))) da_nil)))) (by omega) END)
    · obtain ⟨y1, y2, y3, y4, ow, tt, hSS, nD, nS, rfl⟩ := pv
      rw [CUT, List.length_map, List.take_length] at ow
      exact s_ret (v_var rfl) (k D1 H' ow.fr ow.mv ow.ok ow.ow)

theorem sc_law_do : FnScope ["_law_made_here", "_law_act", "_law_cells"] ["_law_made_here", "_law_act"] (defScope s_law_do) := ⟨rfl, rfl, rfl, by decide +kernel, rfl, by decide +kernel, by decide +kernel⟩
theorem cal_law_do (T : Tx K mg) : Cal P w K mg base 9 "_law_do" ["_law_made_here", "_law_act"] (spDo K) := by
  refine cal_mk T 47 47 rfl rfl sc_law_do (fun _ _ _ _ _ _ us hl => match us, hl with | [_, _], _ => rfl) (fun vs H Q E h => ?_) (fun f cdv A outer s H vs Q E hr h => ?_)
  · obtain ⟨F, n, r, A, h, kk, v, a, rfl, hv, x, w, lm, hk, hn8, sy, oa, k⟩ := h
    rfl
  · obtain ⟨F, n, r, A, h, kk, v, a, rfl, hv, x, w, lm, hk, hn8, sy, oa, k⟩ := h
    have M := T.mt
    have U := T.pt
    have HT : HTx K (CCk K).h := T.ht
    have RT : RTx K (CCk K).r := T.rt
    refine ⟨_, (pss_one (ps_if (pt_cmpR op_eq (pe_ix ix_tup (pv 1) pe_int (fun _ _ => rfl)) pe_str (nomark _)) (pss_one (ps_expr (pe_cal (cal_start (K := K) T) hr (by decide) rfl (pa_cons (pv 0) (pa_cons (pe_ix ix_tup (pv 1) pe_int (fun _ _ => rfl)) (pa_cons (pe_ix ix_tup (pv 1) pe_int (fun _ _ => rfl)) pa_nil)))))) (pss_one (ps_if (pt_cmpR op_eq (pe_ix ix_tup (pv 1) pe_int (fun _ _ => rfl)) pe_str (nomark _)) (pss_one (ps_expr (pe_cal (cal_key (K := K) T) hr (by decide) rfl (pa_cons (pv 0) (pa_cons (pe_ix ix_tup (pv 1) pe_int (fun _ _ => rfl)) (pa_cons (pe_ix ix_tup (pv 1) pe_int (fun _ _ => rfl)) pa_nil)))))) (pss_one (ps_if (pt_cmpR op_eq (pe_ix ix_tup (pv 1) pe_int (fun _ _ => rfl)) pe_str (nomark _)) (pss_cons (ps_set (i := 2) sc_law_do.nd rfl (Or.inl rfl) (pe_cal (cal_law_program (K := K) T) hr (by decide) rfl (pa_cons (pe_ix ix_tup (pv 1) pe_int (fun _ _ => rfl)) pa_nil))) (pss_cons (ps_expr (pe_cal (cal_load (K := K) T) hr (by decide) rfl (pa_cons (pv 0) (pa_cons (pe_ix ix_tup (pv 1) pe_int (fun _ _ => rfl)) (pa_cons (pv 2) pa_nil))))) (pss_one (ps_asg pe_int (pg_sub (pv 2) pe_int set_list))))) (pss_one (ps_if (pt_cmpR op_eq (pe_ix ix_tup (pv 1) pe_int (fun _ _ => rfl)) pe_str (nomark _)) (pss_one (ps_expr (pe_cal (cal_set_switches (K := K) T) hr (by decide) rfl (pa_cons (pv 0) (pa_cons (pe_ix ix_tup (pv 1) pe_int (fun _ _ => rfl)) (pa_cons (pe_ix ix_tup (pv 1) pe_int (fun _ _ => rfl)) pa_nil)))))) (pss_one (ps_expr (pe_cal (cal_run (K := K) T) hr (by decide) rfl (pa_cons (pv 0) (pa_cons (pe_ix ix_tup (pv 1) pe_int (fun _ _ => rfl)) pa_nil))))))))))))), ?_⟩
    have hv0 := hv
    unfold actD at hv0
    cases hv0 with | @tup vt xs _ ht h2 =>
    have ex : xs = [.str a.k.s, .int (a.u : Int), .int a.v] := by
      cases h2 with | cons z1 h2 => cases h2 with | cons z2 h2 => cases h2 with | cons z3 h2 => cases h2; cases z1; cases z2; cases z3; rfl
    subst ex
    have ht := ht.sq
    obtain ⟨ak, au, av⟩ := a
    obtain ⟨hu, ha⟩ := oa
    dsimp only at hu ht k
    cases ak with
    | start =>
      refine s_ifT (a_t (v_eqS (v_ixT (v_var rfl) v_c ht (by decide) rfl) v_c)) (by decide) ?_
      exact s_do (va_cons (v_var rfl) (va_cons (v_ixT (v_var rfl) v_c ht (by decide) rfl) (va_cons (v_ixT (v_var rfl) v_c ht (by decide) rfl) va_nil))) ⟨n, r, A, h, kk, au, av, rfl, x, w, lm, by omega, hu, hn8, sy, ha.1, ha.2, k⟩
    | key =>
      refine s_ifF (a_t (v_eqS (v_ixT (v_var rfl) v_c ht (by decide) rfl) v_c)) (by decide) ?_
      refine s_ifT (a_t (v_eqS (v_ixT (v_var rfl) v_c ht (by decide) rfl) v_c)) (by decide) ?_
      exact s_do (va_cons (v_var rfl) (va_cons (v_ixT (v_var rfl) v_c ht (by decide) rfl) (va_cons (v_ixT (v_var rfl) v_c ht (by decide) rfl) va_nil))) ⟨n, r, A, h, kk, au, av, rfl, x, w, lm, by omega, hu, hn8, sy, ha.1, ha.2, k⟩
    | load =>
      refine s_ifF (a_t (v_eqS (v_ixT (v_var rfl) v_c ht (by decide) rfl) v_c)) (by decide) ?_
      refine s_ifF (a_t (v_eqS (v_ixT (v_var rfl) v_c ht (by decide) rfl) v_c)) (by decide) ?_
      refine s_ifT (a_t (v_eqS (v_ixT (v_var rfl) v_c ht (by decide) rfl) v_c)) (by decide) ?_
      have oki : Ok (footH n r A) (fun H => HoAt (CCk K) n r H A h) H := ⟨x.fa, x⟩
      refine q_dn' (K := K) (ds := intsL (progV av)) (dn_sp woX (fun H2 m2 o2 => va_cons (v_ixT (v_var rfl) v_c (smTp (o2.w.tpA x m2) ht) (by decide) rfl) va_nil) (fun _ _ _ => ⟨_, rfl, rfl⟩)) oki .refl (fun D H2 hD ow m2 => ?_)
      obtain ⟨vs, e1, e2⟩ := ow.ow
      have ev := e2.ints (ns := progV av)
      subst ev
      have x2 := ow.ok.w
      have ht2 := smTp (x2.tpA x m2) ht
      refine q_do (va_cons (v_var rfl) (va_cons (v_ixT (v_var rfl) v_c ht2 (by decide) rfl) (va_cons (v_var rfl) va_nil))) ⟨n, r, A, h, au, D, progV av, rfl, x2, w, hu, e1, ow.no, progV_len _, fun H3 x3 m3 => ?_⟩
      dsimp only
      have e3 := m3.keep D _ ow.no e1
      refine s_setItem v_c (v_var rfl) v_c e3 (by decide) (by rw [progV_len]; decide) ?_
      exact k A _ rfl ⟨sy.sw, sy.tn⟩ (x3.updOut e3 ow.no) ((m2.trans m3).updFresh hD)
    | switches =>
      refine s_ifF (a_t (v_eqS (v_ixT (v_var rfl) v_c ht (by decide) rfl) v_c)) (by decide) ?_
      refine s_ifF (a_t (v_eqS (v_ixT (v_var rfl) v_c ht (by decide) rfl) v_c)) (by decide) ?_
      refine s_ifF (a_t (v_eqS (v_ixT (v_var rfl) v_c ht (by decide) rfl) v_c)) (by decide) ?_
      refine s_ifT (a_t (v_eqS (v_ixT (v_var rfl) v_c ht (by decide) rfl) v_c)) (by decide) ?_
      exact s_do (va_cons (v_var rfl) (va_cons (v_ixT (v_var rfl) v_c ht (by decide) rfl) (va_cons (v_ixT (v_var rfl) v_c ht (by decide) rfl) va_nil))) ⟨n, r, A, h, au, av, rfl, x, w, hu, fun H2 x2 m2 => k A H2 rfl ⟨sy.sw, sy.tn⟩ x2 m2⟩
    | run =>
      refine s_ifF (a_t (v_eqS (v_ixT (v_var rfl) v_c ht (by decide) rfl) v_c)) (by decide) ?_
      refine s_ifF (a_t (v_eqS (v_ixT (v_var rfl) v_c ht (by decide) rfl) v_c)) (by decide) ?_
      refine s_ifF (a_t (v_eqS (v_ixT (v_var rfl) v_c ht (by decide) rfl) v_c)) (by decide) ?_
      refine s_ifF (a_t (v_eqS (v_ixT (v_var rfl) v_c ht (by decide) rfl) v_c)) (by decide) ?_
      have ha : 0 ≤ av ∧ av < 9 := ha
      exact s_do (va_cons (v_var rfl) (va_cons (v_eqv (v_ixT (v_var rfl) v_c ht (by decide) rfl) (show V.int av = V.int ((av.toNat : Nat) : Int) by rw [Int.toNat_of_nonneg ha.1])) va_nil)) ⟨n, r, A, h, kk, av.toNat, rfl, x, w, lm, by omega, hn8, sy, k⟩
end
/-! ### xs.extend(a tuple) -/
section
open PySem.AutoSeq1
theorem ext_tup (l : Addr) (items : Array Value) (n : Nat) (b : Addr) (items2 : Array Value) (n2 : Nat) (dd : Option Addr) (sl : Array (Option Value)) (hs0 : ¬(!items.isEmpty && Builtin.List.listTooLong (items.size + items2.size)) = true) (hs1 : items.size ≤ sizeLine) (hs2 : items.size + items2.size ≤ sizeLine + 1) :
    Meets (Builtin.«list.extend» ⟨[.ref l, .ref b], []⟩) (fun _ R s => s.heap.get? l = some { cls := .type "list", dict := none, data := .seq items n, slots := #[] } ∧ s.heap.get? b = some { cls := .type "tuple", dict := dd, data := .seq items2 n2, slots := sl } ∧ R (.ok (.ret Value.none)) { s with heap := s.heap.update l (Obj.mapSeq fun x => x ++ items2), toks := s.toks }) :=
  .of_wp fun prog w A R s h => by
    obtain ⟨hp, g, d, tk, os⟩ := s; obtain ⟨hl, hb, h⟩ := h; have f1 := AutoSeq1.idx_int; have f2 := AutoSeq1.sub_tuple_tuple; have f3 := AutoSeq1.sub_list_list; have f4 := AutoSeq1.sub_tuple_list; have f5 := AutoSeq1.sub_list_tuple;
    have hz' : (items ++ items2).size ≤ sizeLine + 1 := by rw [Array.size_append]; exact hs2
    wp_walk using (wpAny_updateSeq hl rfl (hz := hs1) (_hz' := hz')), wpAny_loadPart' hl, wpAny_loadPart' hb; exact ⟨_, rfl, h⟩
def rExtT (K : PySem.W.Frag) : V → List V → Hp → VK → Prop := fun x vs H Q => ∃ l b xs zs, x = .ref l ∧ vs = [.ref b] ∧ H l = some (.lst xs) ∧ SqT K H b zs ∧ xs.length + zs.length ≤ sizeLine ∧ Q .non (upd H l (.lst (xs ++ zs)))
theorem mt_extT {X : Cx} : MtM X "list.extend" (rExtT X.K) := by
  intro pins s σ H x vs v us Q I rx rv h
  obtain ⟨l, b, xs, zs, rfl, rfl, hH, hB, hz, q⟩ := h
  cases rx
  obtain ⟨u, rfl, ru⟩ := rv.one
  cases ru
  obtain ⟨z, its, n, r, hl, e⟩ := I.lstM hH
  obtain ⟨its2, r2, ⟨o, e2, oc, n2, od⟩, z2⟩ := I.tuple hB
  have hl2 := r2.length
  obtain ⟨cls, dd, data, sl⟩ := o
  dsimp only at oc od
  subst oc od
  have hsz : its.toArray.size + its2.toArray.size ≤ sizeLine := by rw [List.size_toArray, List.size_toArray]; omega
  have hlong : ¬ (!its.toArray.isEmpty && Builtin.List.listTooLong (its.toArray.size + its2.toArray.size)) = true := by
    rw [notLongL hsz, Bool.and_false]
    exact Bool.false_ne_true
  refine call_meets F.slot_list_extend ⟨_, e, rfl⟩ F.entry_list_extend (F.args_list_extend_2 _ _)
    (ext_tup l its.toArray n b its2.toArray n2 dd sl hlong (by rw [List.size_toArray]; omega) (by omega)) ⟨e, e2, ?_⟩
  refine ⟨.non, _, I.lset (its' := its ++ its2) hH e (by simp) (r.append r2) ?_, rfl, q⟩
  rw [List.length_append]
  omega
end
/-! ### two houses -/
theorem x_callA {tA : TA} {σ : L2.St} {H : Hp} {sp : Sp} {Q : VK} (h : tA σ H fun vs H1 => sp (vs ++ []) H1 Q E0) : tCall sp [] E0 tA σ H Q := h
section
variable {c : CC} {n n2 r r2 : Nat} {H H' H1 : Hp} {A A' B B' : HA} {h h' g : Ho} {F F' : FS} {W : Hp → Prop}
theorem Mv.side (m : Mv F H F' H') {G : FS} : Mv (orF F G) H (orF F' G) H' := ⟨fun b o nb e => m.keep b o (fun f => nb (.inl f)) e, fun b f => f.elim (fun f => (m.new b f).imp .inl id) (fun g => .inl (.inr g))⟩
theorem Mv.side' (m : Mv F H F' H') {G : FS} : Mv (orF G F) H (orF G F') H' := ⟨fun b o nb e => m.keep b o (fun f => nb (.inr f)) e, fun b f => f.elim (fun g => .inl (.inl g)) (fun f => (m.new b f).imp .inr id)⟩
/-- a house beside one that changes -/
theorem HoAt.aside (x : HoAt c n2 r2 H B g) (m : Mv F H F' H') (dis : ∀ z, footH n2 r2 B z → ¬ F z) (tp : TpS H H') : HoAt c n2 r2 H' B g := x.loc (fun b o f e => m.keep b o (dis b f) e) tp
theorem dis_mv (m : Mv F H F' H') (dis : ∀ z, F z → ¬ footH n2 r2 B z) (fa : FA (footH n2 r2 B) H) : ∀ z, F' z → ¬ footH n2 r2 B z := fun z f k => (m.new z f).elim (fun f => dis z f k) (fun e => fa z k e)
def W2 (c : CC) (n r : Nat) (A : HA) (h : Ho) (n2 r2 : Nat) (B : HA) (g : Ho) : Hp → Prop := fun H => HW c n r A h H ∧ HW c n2 r2 B g H
theorem wo2 : Wo (orF (footH n r A) (footH n2 r2 B)) (W2 c n r A h n2 r2 B g) := (woH.up fun _ => .inl).and (woH.up fun _ => .inr)
theorem HW.aside (w : HW c n2 r2 B g H) (m : Mv F H F' H') (dis : ∀ z, footH n2 r2 B z → ¬ F z) (tp : TpS H H') : HW c n2 r2 B g H' := by
  obtain ⟨B', e, e2, e3, e4, x⟩ := w
  exact ⟨B', e, e2, e3, e4, x.aside m (by rw [foot_eq e]; exact dis) tp⟩
theorem HW.tps (w : HW c n r A h H) (m : Mv (footH n r A) H F' H') : TpS H H' := by
  obtain ⟨A', e, e2, e3, e4, x⟩ := w
  rw [← foot_eq e] at m
  exact x.tps m
theorem inW_l (dis : ∀ z, footH n r A z → ¬ footH n2 r2 B z) : InW c n r A h (orF (footH n r A) (footH n2 r2 B)) (W2 c n r A h n2 r2 B g) :=
  ⟨fun _ f => .inl f, fun _ w => w.1, fun _ _ w a m => ⟨a, w.2.aside m (fun z f k => dis z k f) (w.1.tps m)⟩, fun _ w b f => f.elim (w.1.noT b) (w.2.noT b)⟩
theorem inW_r (dis : ∀ z, footH n r A z → ¬ footH n2 r2 B z) : InW c n2 r2 B g (orF (footH n r A) (footH n2 r2 B)) (W2 c n r A h n2 r2 B g) :=
  ⟨fun _ f => .inr f, fun _ w => w.2, fun _ _ w a m => ⟨w.1.aside m dis (w.2.tps m), a⟩, fun _ w b f => f.elim (w.1.noT b) (w.2.noT b)⟩
theorem ok2 (x : HoAt c n r H A h) (y : HoAt c n2 r2 H B g) : Ok (orF (footH n r A) (footH n2 r2 B)) (W2 c n r A h n2 r2 B g) H := ⟨x.fa.or y.fa, x.hw, y.hw⟩
/-- two houses at once -/
structure Two (c : CC) (n r : Nat) (A : HA) (h : Ho) (r2 : Nat) (B : HA) (g : Ho) (H : Hp) : Prop where
  x : HoAt c n r H A h
  y : HoAt c n r2 H B g
  sx : Syn A h
  sy : Syn B g
  dis : ∀ z, footH n r A z → ¬ footH n r2 B z
theorem Two.first {h1 : Ho} (t : Two c n r A h r2 B g H) (s : Syn A' h1) (x : HoAt c n r H' A' h1) (m : Mv (footH n r A) H (footH n r A') H') : Two c n r A' h1 r2 B g H' ∧ Mv (orF (footH n r A) (footH n r2 B)) H (orF (footH n r A') (footH n r2 B)) H' :=
  ⟨⟨x, t.y.aside m (fun z f k => t.dis z k f) (t.x.tps m), s, t.sy, dis_mv m t.dis t.y.fa⟩, m.side⟩
theorem Two.second {g1 : Ho} (t : Two c n r A h r2 B g H) (s : Syn B' g1) (y : HoAt c n r2 H' B' g1) (m : Mv (footH n r2 B) H (footH n r2 B') H') : Two c n r A h r2 B' g1 H' ∧ Mv (orF (footH n r A) (footH n r2 B)) H (orF (footH n r A) (footH n r2 B')) H' :=
  ⟨⟨t.x.aside m t.dis (t.y.tps m), y, t.sx, s, fun z f k => dis_mv (F' := footH n r2 B') m (fun z f k => t.dis z k f) t.x.fa z k f⟩, m.side'⟩
theorem Two.same (t : Two c n r A h r2 B g H) (s : Same H H') : Two c n r A h r2 B g H' := ⟨t.x.same s, t.y.same s, t.sx, t.sy, t.dis⟩
/-- behind a reading both are still there -/
theorem Two.of (t : Two c n r A h r2 B g H) (w : W2 c n r A h n r2 B g H') : ∃ A' B', A'.ad = A.ad ∧ B'.ad = B.ad ∧ Two c n r A' h r2 B' g H' := by
  obtain ⟨⟨A1, a1, a2, a3, a4, x⟩, ⟨B1, b1, b2, b3, b4, y⟩⟩ := w
  exact ⟨A1, B1, a1, b1, x, y, ⟨a3.trans t.sx.sw, a4.trans t.sx.tn⟩, ⟨b3.trans t.sy.sw, b4.trans t.sy.tn⟩, by rw [foot_eq a1, foot_eq b1]; exact t.dis⟩
theorem runT_add : ∀ b a, runT (runT h a) b = runT h (a + b)
  | 0, a => rfl
  | b + 1, a => by
    show stepT (runT (runT h a) b) = stepT (runT h (a + b))
    rw [runT_add b a]
end
/-! ### comprehensions whose tests move the heap -/
section
variable {K : PySem.W.Frag} {H H' : Hp} {F F1 : FS} {W : Hp → Prop} {σ : L2.St} {te ta tb tl : TE} {tA : TA} {v : V} {d e : PyData} {ds es : List PyData} {n : Nat} {c b : Bool} {t u tt : TT}
def AnsM (F : FS) (W : Hp → Prop) (t : TT) (σ : L2.St) (H : Hp) (c : Bool) : Prop := ∀ H1, Mv F H F H1 → Ok F W H1 → ∀ Q : Bool → Hp → Prop, (∀ H2, Mv F H1 F H2 → Ok F W H2 → Q c H2) → t σ H1 Q
theorem AnsM.mv (h : AnsM F W t σ H c) (m : Mv F H F H') : AnsM F W t σ H' c := fun H1 m1 => h H1 (m.trans m1)
theorem am_a (h : ∀ H1, Mv F H F H1 → Ok F W H1 → Ans t σ H1 c) : AnsM F W t σ H c := fun H1 m1 o1 _ q => h H1 m1 o1 _ (q H1 .refl o1)
theorem am_and (h1 : AnsM F W t σ H b) (h2 : b = true → AnsM F W u σ H c) : AnsM F W (tAnd t u) σ H (b && c) := fun H1 m o Q q => x_and (h1 H1 m o _ fun H2 m2 o2 => by
  cases b with
  | true => exact iteT (h2 rfl H2 (m.trans m2) o2 _ fun H3 m3 o3 => q H3 (m2.trans m3) o3)
  | false => exact iteF (q H2 m2 o2))
theorem am_or (h1 : AnsM F W t σ H b) (h2 : b = false → AnsM F W u σ H c) : AnsM F W (tOr t u) σ H (b || c) := fun H1 m o Q q => x_or (h1 H1 m o _ fun H2 m2 o2 => by
  cases b with
  | true => exact iteT (q H2 m2 o2)
  | false => exact iteF (h2 rfl H2 (m.trans m2) o2 _ fun H3 m3 o3 => q H3 (m2.trans m3) o3))
theorem am_not (h1 : AnsM F W t σ H b) : AnsM F W (tNot t) σ H (!b) := fun H1 m o Q q => x_not (h1 H1 m o _ q)
theorem am_eqD (ha : Dv K F W ta σ H d) (hb : Dv K F W tb σ H e) (sd : SeqAt.shaped d = true) (se : SeqAt.shaped e = true) : AnsM F W (tTest (tOp (rEqD K) ta tb)) σ H (PyData.eqv d e) := fun H1 m o Q q => by
  exact x_eqD o (ha.mv m) (hb.mv m) sd se (fun H2 m2 o2 => ⟨_, rfl, q H2 m2 o2⟩)
theorem am_neD (ha : Dv K F W ta σ H d) (hb : Dv K F W tb σ H e) (sd : SeqAt.shaped d = true) (se : SeqAt.shaped e = true) : AnsM F W (tTest (tOp (rNeD K) ta tb)) σ H (!PyData.eqv d e) := fun H1 m o Q q => by
  exact x_neD o (ha.mv m) (hb.mv m) sd se (fun H2 m2 o2 => ⟨_, rfl, q H2 m2 o2⟩)
theorem x_am {Q : Bool → Hp → Prop} (h : AnsM F W t σ H c) (o : Ok F W H) (q : ∀ H2, Mv F H F H2 → Ok F W H2 → Q c H2) : t σ H Q := h H .refl o Q q
theorem LcI.stepM {D : Addr} {rs : List PyData} {σ' : L2.St} (wo : Wo F W) (o : Ok F W H) (hD : H D = none) (hn : n < 100000) (iv : LcI K W H F D n rs H') (ht : AnsM (withF F D) (fun H => W H ∧ H' D = H D) tt σ' H' c) (he : c = true → Dv K (withF F D) (fun H => W H ∧ H' D = H D) te σ' H' d) :
    tt σ' H' fun b H3 => if b = true then te σ' H3 fun y H4 => ∃ acc, H4 D = some (.lst acc) ∧ acc.length < sizeLine ∧ LcI K W H F D (n + 1) (if c = true then rs ++ [d] else rs) (upd H4 D (.lst (acc ++ [y]))) else LcI K W H F D (n + 1) (if c = true then rs ++ [d] else rs) H3 := by
  obtain ⟨ys, hl, hz, hys⟩ := iv.ex
  refine ht H' .refl ⟨iv.ok.fa, iv.ok.w, rfl⟩ _ fun H0 m0 o0 => ?_
  cases c with
  | true =>
    refine iteT (he rfl H0 m0 o0 _ (fun y H3 m5 o5 hy => ⟨ys, by rw [← o5.w.2]; exact hl, ?_, ?_⟩))
    · exact Nat.lt_of_lt_of_le (show ys.length < 100000 by omega) (by rw [sizeLine_eq]; decide)
    · rw [if_pos rfl]
      have nF : ¬ F D := o.fa.no hD
      have mv : Mv (withF F D) H3 (withF F D) (upd H3 D (.lst (ys ++ [y]))) := ⟨fun b o nb e => by rw [upd_ne (fun q => nb (.inr q))]; exact e, fun _ f => .inl f⟩
      refine ⟨((iv.mv.trans m0).trans m5).trans mv, ⟨fun b f => ?_, wo.loc _ _ (fun b o f e => by rw [upd_ne (fun q => nF (by rw [← q]; exact f))]; exact e) (.upd (o5.w.2.symm.trans hl)) o5.w.1⟩, ys ++ [y], upd_same, by rw [List.length_append]; simp; omega, (((hys.mv m0).mv m5).app (.cons hy .nil)).mv mv⟩
      by_cases e : b = D
      · subst e; rw [upd_same]; exact fun e => by cases e
      · rw [upd_ne e]; exact o5.fa b f
  | false =>
    refine iteF ?_
    rw [if_neg Bool.false_ne_true]
    exact ⟨iv.mv.trans m0, ⟨o0.fa, o0.w.1⟩, ys, o0.w.2.symm.trans hl, by omega, hys.mv m0⟩
theorem dn_lcLm {k : Nat} {ws : List Nat} (p : PyData → Bool) (f : PyData → PyData) (wo : Wo F W) (h : Dv K F W tl σ H (.list ds)) (hn : ds.length ≤ 100000) (hw : ∀ x, wipe ((wipe σ ws).set k (some x)) ws = wipe σ ws)
    (ht : ∀ (i : Nat) (x : V) (d : PyData) (H1 : Hp) (F1 : FS) (W1 : Hp → Prop), Tn F W H F1 W1 H1 → ds[i]? = some d → Da K H1 F1 x d → AnsM F1 W1 tt ((wipe σ ws).set k (some x)) H1 (p d))
    (he : ∀ (i : Nat) (x : V) (d : PyData) (H1 : Hp) (F1 : FS) (W1 : Hp → Prop), Tn F W H F1 W1 H1 → ds[i]? = some d → Da K H1 F1 x d → p d = true → Dv K F1 W1 te ((wipe σ ws).set k (some x)) H1 (f d)) : DvN K F W (tLc (iList K tl) (gName k) tt te ws) σ H (fmD p f ds) := fun H1 m o Q q =>
  h H1 m o _ fun v H2 m2 o2 hv => by
    cases hv with | @lst a xs _ h3 h4 =>
    refine ⟨a, rfl, ⟨xs, SqL.of h3.at_⟩, fun D hD => lc_list (xs := xs) (fun m H' => LcI K W H2 F D m (fmD p f (ds.take m)) H') (by rw [List.take_zero]; exact lci_0 wo o2 hD) (fun m H' _ e => SqL.of ((h3.mv e.mv).at_)) (fun i x H' hm e => ?_) (fun H' e => ?_)⟩
    · have tn := e.tn (m.trans m2) wo (o2.fa.no hD)
      obtain ⟨d, hd, hx⟩ := (h4.mv e.mv).getV _ hm
      refine ⟨hw _, ?_⟩
      rw [fmD_take hd]
      have hlt := (List.getElem?_eq_some_iff.mp hd).1
      exact e.stepM wo o2 hD (by omega) (ht i x d H' _ _ tn hd hx) (he i x d H' _ _ tn hd hx)
    · rw [h4.len, List.take_length] at e
      obtain ⟨r1, r2, r3⟩ := e.done
      exact q _ _ (o2.free m2 hD) (m2.trans r1) r2 r3
theorem dv_lcLm {k : Nat} {ws : List Nat} (p : PyData → Bool) (f : PyData → PyData) (wo : Wo F W) (h : Dv K F W tl σ H (.list ds)) (hn : ds.length ≤ 100000) (hw : ∀ x, wipe ((wipe σ ws).set k (some x)) ws = wipe σ ws)
    (ht : ∀ (i : Nat) (x : V) (d : PyData) (H1 : Hp) (F1 : FS) (W1 : Hp → Prop), Tn F W H F1 W1 H1 → ds[i]? = some d → Da K H1 F1 x d → AnsM F1 W1 tt ((wipe σ ws).set k (some x)) H1 (p d))
    (he : ∀ (i : Nat) (x : V) (d : PyData) (H1 : Hp) (F1 : FS) (W1 : Hp → Prop), Tn F W H F1 W1 H1 → ds[i]? = some d → Da K H1 F1 x d → p d = true → Dv K F1 W1 te ((wipe σ ws).set k (some x)) H1 (f d)) : Dv K F W (tLc (iList K tl) (gName k) tt te ws) σ H (.list (fmD p f ds)) := (dn_lcLm p f wo h hn hw ht he).dv
/-- the length of a list that a reading gives -/
theorem x_lenM {Q : VK} (o : Ok F W H) (h : Dv K F W ta σ H (.list ds)) (q : ∀ H', Mv F H F H' → Ok F W H' → Q (.int (ds.length : Int)) H') : tCB (rLenQ K) (tCons ta tNil) σ H Q :=
  h H .refl o _ fun v H' m o' hv => by
    cases hv with | @lst a xs _ h3 h4 => exact ⟨a, xs, rfl, .inl (SqL.of h3.at_), by rw [h4.len]; exact q H' m o'⟩
theorem x_sumM {ns : List Int} {Q : VK} (o : Ok F W H) (h : Dv K F W ta σ H (.list (ns.map PyData.int))) (q : ∀ H', Mv F H F H' → Ok F W H' → Q (.int ns.sum) H') : tCB (rSum K) (tCons ta tNil) σ H Q :=
  h H .refl o _ fun v H' m o' hv => by
    cases hv with | @lst a xs _ h3 h4 =>
    have e := h4.ints
    subst e
    exact ⟨a, ns, rfl, SqL.of h3.at_, q H' m o'⟩
/-- comprehensions over a list of what data tells -/
theorem dn_lcG {α : Type} (as : List α) (g : α → PyData) {k : Nat} {ws : List Nat} (p : α → Bool) (f : α → PyData) (wo : Wo F W) (h : Dv K F W tl σ H (.list (as.map g))) (hn : as.length ≤ 100000) (hw : ∀ x, wipe ((wipe σ ws).set k (some x)) ws = wipe σ ws)
    (ht : ∀ (i : Nat) (x : V) (a : α) (H1 : Hp) (F1 : FS) (W1 : Hp → Prop), Tn F W H F1 W1 H1 → as[i]? = some a → Da K H1 F1 x (g a) → AnsM F1 W1 tt ((wipe σ ws).set k (some x)) H1 (p a))
    (he : ∀ (i : Nat) (x : V) (a : α) (H1 : Hp) (F1 : FS) (W1 : Hp → Prop), Tn F W H F1 W1 H1 → as[i]? = some a → Da K H1 F1 x (g a) → p a = true → Dv K F1 W1 te ((wipe σ ws).set k (some x)) H1 (f a)) : DvN K F W (tLc (iList K tl) (gName k) tt te ws) σ H (fmD p f as) := fun H1 m o Q q =>
  h H1 m o _ fun v H2 m2 o2 hv => by
    cases hv with | @lst a xs _ h3 h4 =>
    refine ⟨a, rfl, ⟨xs, SqL.of h3.at_⟩, fun D hD => lc_list (xs := xs) (fun m H' => LcI K W H2 F D m (fmD p f (as.take m)) H') (by rw [List.take_zero]; exact lci_0 wo o2 hD) (fun m H' _ e => SqL.of ((h3.mv e.mv).at_)) (fun i x H' hm e => ?_) (fun H' e => ?_)⟩
    · have tn := e.tn (m.trans m2) wo (o2.fa.no hD)
      obtain ⟨d, hd, hx⟩ := (h4.mv e.mv).getV _ hm
      rw [List.getElem?_map] at hd
      obtain ⟨a, ha, rfl⟩ := Option.map_eq_some_iff.mp hd
      refine ⟨hw _, ?_⟩
      rw [fmD_take ha]
      have hlt := (List.getElem?_eq_some_iff.mp ha).1
      exact e.stepM wo o2 hD (by omega) (ht i x a H' _ _ tn ha hx) (he i x a H' _ _ tn ha hx)
    · rw [h4.len, List.length_map, List.take_length] at e
      obtain ⟨r1, r2, r3⟩ := e.done
      exact q _ _ (o2.free m2 hD) (m2.trans r1) r2 r3
theorem Own.mvv {H0 : Hp} {D : Addr} (ow : Own K H0 F W D H ds) (m : Mv F H F H') (o : Ok F W H') : Own K H0 F W D H' ds := by
  obtain ⟨vs, e1, e2⟩ := ow.ow
  exact ⟨ow.fr, ow.no, ow.mv.trans m, o, vs, m.keep D _ ow.no e1, e2.mv ⟨fun b o n e => m.keep b o (fun f => n (.inl f)) e, fun b f => .inl f⟩⟩
theorem AnsM.eq (h : AnsM F W t σ H c) (e : c = b) : AnsM F W t σ H b := e ▸ h
theorem am_t (h : ∀ H1, Mv F H F H1 → Ok F W H1 → Val te σ H1 (.bl c)) : AnsM F W (tTest te) σ H c := am_a fun H1 m o => a_t (h H1 m o)
theorem am_neS (ha : Dv K F W ta σ H d) (hb : Dv K F W tb σ H d) (sd : Sh n d) (hn : n ≤ 64 := by decide) : AnsM F W (tTest (tOp (rNeD K) ta tb)) σ H false := (am_neD ha hb (sd.shaped hn) (sd.shaped hn)).eq (by rw [sd.refl]; rfl)
theorem am_eqS (ha : Dv K F W ta σ H d) (hb : Dv K F W tb σ H d) (sd : Sh n d) (hn : n ≤ 64 := by decide) : AnsM F W (tTest (tOp (rEqD K) ta tb)) σ H true := (am_eqD ha hb (sd.shaped hn) (sd.shaped hn)).eq sd.refl
end
section
variable {K : PySem.W.Frag} {H H' : Hp} {F F1 : FS} {W : Hp → Prop} {σ : L2.St} {te ta tb tl : TE} {t : TT} {t1 : TS} {N : L2.St → Hp → Prop} {R : VK} {B C' : L2.St → Hp → Prop} {tz : TS} {b : Bool}
theorem q_ifFM (h : AnsM F W t σ H b) (e : b = false) (o : Ok F W H) (q : ∀ H2, Mv F H F H2 → Ok F W H2 → tz ⟨N, R, B, C'⟩ σ H2) : tSeq (tIfS t t1 tNext) tz ⟨N, R, B, C'⟩ σ H := qx_if (x_am h o fun H2 m o2 => by rw [e]; exact iteF (s_next (q H2 m o2)))
theorem s_ifFM (h : AnsM F W t σ H b) (e : b = false) (o : Ok F W H) (q : ∀ H2, Mv F H F H2 → Ok F W H2 → N σ H2) : tIfS t t1 tNext ⟨N, R, B, C'⟩ σ H := sx_if (x_am h o fun H2 m o2 => by rw [e]; exact iteF (s_next (q H2 m o2)))
end
/-! ### a house saved and taken (k27) -/
def optDs : Option Nat → PyData
  | none => .none
  | some i => .int (i : Int)
def rowZ (l : List Nat) : List Int := l.map fun (u : Nat) => (u : Int)
theorem rowZ_V {l : List Nat} : (rowZ l).map V.int = l.map nV := by unfold rowZ; rw [List.map_map]; rfl
def clockZ (h : Ho) : List Int := [h.quantum, h.beat, h.steps, h.idle, h.ticks, h.left]
def keptZ (r : Nat) (h : Ho) : List (List Int) := (List.range r).map fun i => keptC h i
def shelfZ (n : Nat) (h : Ho) : List (List Int) := (List.range n).map fun u => shelfC h u
def roomsD (n r : Nat) (h : Ho) : PyData := .tuple [.tuple (h.guests.map optDs), blocksD (keptZ r h), blocksD (shelfZ n h), .int (h.turn : Int), .int h.swaps]
def savD (n r : Nat) (h : Ho) : PyData := .tuple [.tuple ((List.range n).map fun u => shotD (pu h u)), .tuple ((List.range n).map fun u => .tuple ((dy h u).map evD)), roomsD n r h, optDs h.runs, intsD (rowZ h.row), intsD (clockZ h)]
theorem gV_da {K : PySem.W.Frag} {H : Hp} {F : FS} (g : Option Nat) : Da K H F (gV g) (optDs g) := by cases g with
  | none => exact .non
  | some u => exact .int _
theorem gs_da {K : PySem.W.Frag} {H : Hp} {F : FS} : ∀ l : List (Option Nat), DaAll K H F (l.map gV) (l.map optDs)
  | [] => .nil
  | a :: l => .cons (gV_da a) (gs_da l)
theorem gs_inv {K : PySem.W.Frag} {H : Hp} {F : FS} : ∀ (l : List (Option Nat)) (vs : List V), DaAll K H F vs (l.map optDs) → vs = l.map gV
  | [], _, h => by cases h; rfl
  | none :: l, _, h => by
    cases h with | cons h1 h2 =>
    cases h1
    rw [gs_inv l _ h2]; rfl
  | some u :: l, _, h => by
    cases h with | cons h1 h2 =>
    cases h1
    rw [gs_inv l _ h2]; rfl
/-- what was told: the tuple at v -/
structure TldX (K : PySem.W.Frag) (H : Hp) (F : FS) (n r : Nat) (h : Ho) (t tp td tr trow tc : Addr) (de : List Addr) (evs : Nat → List Addr) : Prop where
  top : TpA K H F t [.ref tp, .ref td, .ref tr, gV h.runs, .ref trow, .ref tc]
  p : Da K H F (.ref tp) (.tuple ((List.range n).map fun u => shotD (pu h u)))
  d : TpA K H F td (de.map V.ref)
  dl : de.length = n
  e : ∀ u a, de[u]? = some a → TpA K H F a ((evs u).map V.ref) ∧ (evs u).length = (dy h u).length ∧ ∀ (i : Nat) b ev, (evs u)[i]? = some b → (dy h u)[i]? = some ev → H b = some (.tup (evV ev)) ∧ ¬ F b
  r : Da K H F (.ref tr) (roomsD n r h)
  row : Da K H F (.ref trow) (intsD (rowZ h.row))
  c : Da K H F (.ref tc) (intsD (clockZ h))
def Tld (K : PySem.W.Frag) (H : Hp) (F : FS) (v : V) (n r : Nat) (h : Ho) : Prop := ∃ t tp td tr trow tc de evs, v = .ref t ∧ TldX K H F n r h t tp td tr trow tc de evs
section
variable {K : PySem.W.Frag} {H H' : Hp} {F F' : FS} {v : V} {n r : Nat} {h : Ho} {t tp td tr trow tc : Addr} {de : List Addr} {evs : Nat → List Addr}
theorem TldX.mv (x : TldX K H F n r h t tp td tr trow tc de evs) (m : Mv F H F' H') : TldX K H' F' n r h t tp td tr trow tc de evs :=
  ⟨x.top.mv m, x.p.mv m, x.d.mv m, x.dl, fun u a ha => by
    obtain ⟨e1, e2, e3⟩ := x.e u a ha
    refine ⟨e1.mv m, e2, fun i b ev hb he => ?_⟩
    obtain ⟨g1, g2⟩ := e3 i b ev hb he
    exact ⟨m.keep _ _ g2 g1, fun f => (m.new b f).elim g2 fun z => by rw [z] at g1; cases g1⟩, x.r.mv m, x.row.mv m, x.c.mv m⟩
theorem Tld.mv (x : Tld K H F v n r h) (m : Mv F H F' H') : Tld K H' F' v n r h := by
  obtain ⟨t, tp, td, tr, trow, tc, de, evs, e, x⟩ := x
  exact ⟨t, tp, td, tr, trow, tc, de, evs, e, x.mv m⟩
theorem daAll_at {vs : List V} {ds : List PyData} (hl : vs.length = ds.length) (h : ∀ (i : Nat) x d, vs[i]? = some x → ds[i]? = some d → Da K H F x d) : DaAll K H F vs ds := by
  induction vs generalizing ds with
  | nil =>
    cases ds with
    | nil => exact .nil
    | cons d ds => simp at hl
  | cons x vs ih =>
    cases ds with
    | nil => simp at hl
    | cons d ds => exact .cons (h 0 x d rfl rfl) (ih (by simpa using hl) fun i x d h1 h2 => h (i + 1) x d h1 h2)
theorem TldX.da (x : TldX K H F n r h t tp td tr trow tc de evs) : Da K H F (.ref t) (savD n r h) := by
  refine .tup x.top (.cons x.p (.cons (.tup x.d ?_) (.cons x.r (.cons (gV_da _) (.cons x.row (.cons x.c .nil))))))
  refine daAll_at (by rw [List.length_map, List.length_map, List.length_range, x.dl]) fun i y d h1 h2 => ?_
  rw [List.getElem?_map] at h1 h2
  obtain ⟨a, ha, rfl⟩ := Option.map_eq_some_iff.mp h1
  obtain ⟨u, hu, rfl⟩ := Option.map_eq_some_iff.mp h2
  have hi : i < n := by rw [← x.dl]; exact (List.getElem?_eq_some_iff.mp ha).1
  rw [List.getElem?_range hi] at hu
  cases hu
  obtain ⟨e1, e2, e3⟩ := x.e i a ha
  exact .tup e1 (daAll_evs e2 fun j b ev hb he => e3 j b ev hb he)
theorem Tld.da (x : Tld K H F v n r h) : Da K H F v (savD n r h) := by
  obtain ⟨t, tp, td, tr, trow, tc, de, evs, rfl, x⟩ := x
  exact x.da
/-- rooms as they were told -/
structure RmT (K : PySem.W.Frag) (H : Hp) (tr : Addr) (gs : List (Option Nat)) (kr sr : List (List Int)) (tn : Nat) (sw : Int) (tg tk ts : Addr) (ka sa : List Addr) : Prop where
  top : SqT K H tr [.ref tg, .ref tk, .ref ts, .int (tn : Int), .int sw]
  g : SqT K H tg (gs.map gV)
  k : SqT K H tk (ka.map V.ref)
  s : SqT K H ts (sa.map V.ref)
  kl : ka.length = kr.length
  sl : sa.length = sr.length
  ke : ∀ (i : Nat) a, ka[i]? = some a → ∃ ws, kr[i]? = some ws ∧ SqT K H a (ws.map V.int)
  se : ∀ (i : Nat) a, sa[i]? = some a → ∃ ws, sr[i]? = some ws ∧ SqT K H a (ws.map V.int)
theorem RmT.keep {gs : List (Option Nat)} {kr sr : List (List Int)} {tn : Nat} {sw : Int} {tg tk ts : Addr} {ka sa : List Addr} (x : RmT K H tr gs kr sr tn sw tg tk ts ka sa) (k : ∀ b xs, SqT K H b xs → SqT K H' b xs) : RmT K H' tr gs kr sr tn sw tg tk ts ka sa :=
  ⟨k _ _ x.top, k _ _ x.g, k _ _ x.k, k _ _ x.s, x.kl, x.sl, fun i a ha => by
    obtain ⟨ws, e1, e2⟩ := x.ke i a ha
    exact ⟨ws, e1, k _ _ e2⟩, fun i a ha => by
    obtain ⟨ws, e1, e2⟩ := x.se i a ha
    exact ⟨ws, e1, k _ _ e2⟩⟩
theorem blocks_inv {bs : List (List Int)} (h : Da K H F v (blocksD bs)) : ∃ (t : Addr) (as : List Addr), v = .ref t ∧ SqT K H t (as.map V.ref) ∧ as.length = bs.length ∧ ∀ (i : Nat) a, as[i]? = some a → ∃ ws, bs[i]? = some ws ∧ SqT K H a (ws.map V.int) := by
  unfold blocksD at h
  cases h with | tup h1 h2 =>
  obtain ⟨as, e1, e2, e3⟩ := dpAll_rows (DaAll.dp0 _ _ h2)
  subst e1
  exact ⟨_, as, rfl, h1.sq, e2, e3⟩
theorem rooms_inv (x : Da K H F (.ref tr) (roomsD n r h)) : ∃ tg tk ts ka sa, RmT K H tr h.guests (keptZ r h) (shelfZ n h) h.turn h.swaps tg tk ts ka sa := by
  unfold roomsD at x
  cases x with | tup h1 h2 =>
  cases h2 with | cons z1 h2 => cases h2 with | cons z2 h2 => cases h2 with | cons z3 h2 => cases h2 with | cons z4 h2 => cases h2 with | cons z5 h2 =>
  cases h2; cases z4; cases z5
  obtain ⟨tk, ka, rfl, k1, k2, k3⟩ := blocks_inv z2
  obtain ⟨ts, sa, rfl, s1, s2, s3⟩ := blocks_inv z3
  cases z1 with | tup g1 g2 =>
  have eg := gs_inv _ _ g2
  subst eg
  exact ⟨_, tk, ts, ka, sa, h1.sq, g1.sq, k1, s1, k2, s2, k3, s3⟩
end
/-! new persons out of a tuple -/
theorem nps_tup {K : PySem.W.Frag} {C Dp a : Addr} {H : Hp} {Ps : List Pn} {σ : L2.St} {te tl : TE} {xs : List V} {k : Nat} {ws : List Nat} (h : Val tl σ H (.ref a)) (hs0 : SqT K H a xs) (hn : xs.length ≤ 100000) (hl : Ps.length = xs.length) (hw : ∀ x, wipe ((wipe σ ws).set k (some x)) ws = wipe σ ws) (he : ∀ (m : Nat) (x : V) (P : Pn), xs[m]? = some x → Ps[m]? = some P → NewPer K C Dp te ((wipe σ ws).set k (some x)) H P) : NewPs C Dp (tLc (iTup K tl) (gName k) tYes te ws) σ H Ps := fun Q q =>
  h _ ⟨a, rfl, ⟨xs, hs0⟩, fun D hD => lc_tup (xs := xs) (fun m H' => ∃ As, As.length = m ∧ PsI C Dp H D Ps As H') ⟨[], rfl, psi_0 hD⟩ (fun m H' _ e => by obtain ⟨_, _, iv⟩ := e; exact smT iv.sm hs0) (fun m x H' hm e => by
    obtain ⟨As, rfl, iv⟩ := e
    have hlt : As.length < xs.length := (List.getElem?_eq_some_iff.mp hm).1
    refine ⟨hw _, ?_⟩
    unfold tYes
    dsimp only
    rw [if_pos rfl]
    have hP : Ps[As.length]? = some Ps[As.length] := List.getElem?_eq_getElem (by omega)
    refine he _ x _ hm hP H' iv.sm _ (fun A H1 fr s hA => ⟨_, s _ _ iv.hd, ?_, As ++ [A], by simp, psi_step hD iv hP fr s hA⟩)
    rw [List.length_map]
    exact Nat.lt_of_lt_of_le (show As.length < 100000 by omega) (by rw [sizeLine_eq]; decide)) (fun H' e => by
      obtain ⟨As, e1, iv⟩ := e
      exact q D As H' hD (by omega) iv)⟩
/-- all put together, whatever the house is -/
theorem NewA.houseG {c : CC} {n m : Nat} {H : Hp} {h : Ho} (N : NewA) (dts : Nat → List Addr) (sw tn : Int) (h1 : N.As.length = n) (h2 : N.ks.length = m) (h3 : N.ss.length = n) (h4 : N.ds.length = n) (nd : ((slots n m).map N.ad).Nodup)
    (hp : H N.p = some (.ins c.h N.dp (hfs (N.ha dts sw tn) h))) (hD : H N.D = some (.lst (N.As.map fun A => V.ref A.p))) (hA : ∀ (i : Nat) A, N.As[i]? = some A → PAt c.m c.p H A (pu h i))
    (hx : H N.x = some (.ins c.r N.dx (rfs (N.ha dts sw tn) h))) (hg : H N.g = some (.lst (h.guests.map gV))) (hk : H N.kp = some (.lst (N.ks.map V.ref))) (hks : ∀ (i : Nat) a, N.ks[i]? = some a → H a = some (.lst ((keptC h i).map V.int))) (hs : H N.sh = some (.lst (N.ss.map V.ref))) (hss : ∀ (u : Nat) a, N.ss[u]? = some a → H a = some (.lst ((shelfC h u).map V.int)))
    (hd : H N.dl = some (.lst (N.ds.map V.ref))) (hds : ∀ (u : Nat) a, N.ds[u]? = some a → H a = some (.lst ((dts u).map V.ref))) (hr : H N.rw_ = some (.lst (h.row.map nV))) (bk : ∀ u, u < n → (pu h u).blocks.length = 4)
    (dl : ∀ u, u < n → (dts u).length = (dy h u).length) (dt : ∀ u (i : Nat) a e, u < n → (dts u)[i]? = some a → (dy h u)[i]? = some e → H a = some (.tup (evV e))) : HoAt c n m H (N.ha dts sw tn) h := by
  have at_ : ∀ (as : List Addr) (i : Nat), i < as.length → as[i]? = some (as.getD i 0) := fun as i hi => getD_at hi
  refine ⟨fun s ok => ?_, fun s t hs ht e => nd_inj nd s t (slots_all hs) (slots_all ht) e, dl, dt⟩
  cases s with
  | house => exact hp
  | people =>
    refine hD.trans (congrArg some ?_)
    show HO.lst (N.As.map fun A => V.ref A.p) = HO.lst ((List.range n).map fun u => V.ref (N.As.getD u noPA).p)
    conv => lhs; rw [← map_getD (d := noPA) N.As, h1, List.map_map]
    rfl
  | rooms => exact hx
  | guests => exact hg
  | kept =>
    refine hk.trans (congrArg some ?_)
    show HO.lst (N.ks.map V.ref) = HO.lst ((List.range m).map fun u => V.ref (N.ks.getD u 0))
    conv => lhs; rw [← map_getD (d := 0) N.ks, h2, List.map_map]
    rfl
  | shelves =>
    refine hs.trans (congrArg some ?_)
    show HO.lst (N.ss.map V.ref) = HO.lst ((List.range n).map fun u => V.ref (N.ss.getD u 0))
    conv => lhs; rw [← map_getD (d := 0) N.ss, h3, List.map_map]
    rfl
  | diaries =>
    refine hd.trans (congrArg some ?_)
    show HO.lst (N.ds.map V.ref) = HO.lst ((List.range n).map fun u => V.ref (N.ds.getD u 0))
    conv => lhs; rw [← map_getD (d := 0) N.ds, h4, List.map_map]
    rfl
  | row => exact hr
  | kr i =>
    have hi : i < m := ok
    exact hks i _ (at_ N.ks i (by omega))
  | sr u =>
    have hu : u < n := ok
    exact hss u _ (at_ N.ss u (by omega))
  | dr u =>
    have hu : u < n := ok
    exact hds u _ (at_ N.ds u (by omega))
  | pr u k =>
    obtain ⟨hu, hk10⟩ := ok
    have eA : N.As[u]? = some (N.As.getD u noPA) := getD_at (by omega)
    have P := hA u _ eA
    have bl : ∀ j, j < 4 → H ((N.As.getD u noPA).bs.getD j 0) = some (.lst (((pu h u).blocks.getD j []).map V.int)) := fun j hj => by
      have e : (N.As.getD u noPA).bs[j]? = some ((N.As.getD u noPA).bs.getD j 0) := getD_at (by rw [P.len]; exact hj)
      obtain ⟨ws, e1, e2⟩ := P.hbs j _ e
      rw [e2, List.getD_eq_getElem?_getD, e1]; rfl
    match k, hk10 with
    | 0, _ => exact P.hp
    | 1, _ => exact P.hm
    | 2, _ => exact P.hi
    | 3, _ => exact P.ho
    | 4, _ => exact P.hq
    | 5, _ =>
      refine P.hb.trans (congrArg some ?_)
      conv => lhs; rw [bs4 P.len]
      rfl
    | 6, _ => exact bl 0 (by decide)
    | 7, _ => exact bl 1 (by decide)
    | 8, _ => exact bl 2 (by decide)
    | 9, _ => exact bl 3 (by decide)
    | k + 10, hk => omega
/-! promises -/
def preSavR (c : CC) (vs : List V) (H : Hp) (F : FS) (W : Hp → Prop) (d : PyData) : Prop := ∃ (n r : Nat) (A : HA) (h : Ho), vs = [.ref (A.ad .rooms)] ∧ InW c n r A h F W ∧ WfH n r h ∧ n ≤ 8 ∧ r ≤ 8 ∧ d = roomsD n r h
def spSaved (c : CC) (K : PySem.W.Frag) : Sp := fun vs H Q _ => ∃ (F : FS) (W : Hp → Prop) (n r : Nat) (A : HA) (h : Ho), vs = [.ref (A.ad .house)] ∧ Wo F W ∧ Ok F W H ∧ InW c n r A h F W ∧ WfH n r h ∧ n ≤ 8 ∧ r ≤ 8 ∧ ∀ v H', Mv F H F H' → Ok F W H' → Tld K H' F v n r h → Q v H'
def rooms0 (g k s : V) (t z : Int) : List (Str × V) := [("guests", g), ("kept", k), ("shelves", s), ("turn", .int t), ("swaps", .int z)]
def spSetR (c : CC) (K : PySem.W.Frag) : Sp := fun vs H Q _ => ∃ (x dx tr : Addr) (g0 k0 s0 : V) (t0 z0 : Int) (gs : List (Option Nat)) (kr sr : List (List Int)) (tn : Nat) (sw : Int) (tg tk ts : Addr) (ka sa : List Addr), vs = [.ref x, .ref tr] ∧ H x = some (.ins c.r dx (rooms0 g0 k0 s0 t0 z0)) ∧ RmT K H tr gs kr sr tn sw tg tk ts ka sa ∧ kr.length ≤ 100 ∧ sr.length ≤ 100 ∧
  ∀ g kp sh ks ss H', (∀ b ∈ (g :: kp :: ks) ++ (sh :: ss), H b = none) → (x :: ((g :: kp :: ks) ++ (sh :: ss))).Nodup → ks.length = kr.length → ss.length = sr.length → H' x = some (.ins c.r dx (rooms0 (.ref g) (.ref kp) (.ref sh) (tn : Int) sw)) → H' g = some (.lst (gs.map gV)) → H' kp = some (.lst (ks.map V.ref)) → RowsAt HO.lst H' ks (kr.map fun b => b.map V.int) → H' sh = some (.lst (ss.map V.ref)) → RowsAt HO.lst H' ss (sr.map fun b => b.map V.int) → Fr [x] H H' → Q .non H'
def spTaken (c : CC) (K : PySem.W.Frag) : Sp := fun vs H Q _ => ∃ (F : FS) (v : V) (n r : Nat) (h : Ho), vs = [v] ∧ Tld K H F v n r h ∧ WfH n r h ∧ n ≤ 8 ∧ r ≤ 8 ∧ (∀ u, u < n → (dy h u).length ≤ 90000) ∧ ∀ A H', (∀ z, footH n r A z → H z = none) → Same H H' → Syn A h → HoAt c n r H' A h → Q (.ref (A.ad .house)) H'
theorem dj_of {H : Hp} {L1 L2 : List Addr} (a1 : ∀ b ∈ L1, H b ≠ none) (a2 : ∀ b ∈ L2, H b = none) : ∀ a ∈ L1, ∀ b ∈ L2, a ≠ b := fun a ha b hb e => a1 a ha (by rw [e]; exact a2 b hb)
/-- blocks laid one behind the other -/
theorem nd_blocks {p x rw_ : Addr} {B1 R B4 : List Addr} {H1 H2 H3 H4 : Hp} (npx : p ≠ x) (nd1 : B1.Nodup) (ndR : (x :: R).Nodup) (nd4 : B4.Nodup) (p1 : H1 p ≠ none) (x1 : H1 x ≠ none) (b1 : ∀ b ∈ B1, H1 b = none) (b1' : ∀ b ∈ B1, H2 b ≠ none)
    (d1 : ∀ b ∈ B4, H1 b = none) (d2 : ∀ b ∈ B4, H2 b = none) (d3 : ∀ b ∈ B4, H3 b ≠ none) (r1 : ∀ b ∈ R, H1 b = none) (r2 : ∀ b ∈ R, H2 b = none) (r3 : ∀ b ∈ R, H3 b = none) (r4 : ∀ b ∈ R, H4 b ≠ none) (w1 : H1 rw_ = none) (w2 : H2 rw_ = none) (w3 : H3 rw_ = none) (w4 : H4 rw_ = none) :
    (p :: (B1 ++ ((x :: R) ++ (B4 ++ [rw_])))).Nodup := by
  have one : ∀ {H : Hp} {a : Addr}, H a ≠ none → ∀ b ∈ [a], H b ≠ none := fun h b hb => by rw [List.mem_singleton.mp hb]; exact h
  have oneN : ∀ {H : Hp} {a : Addr}, H a = none → ∀ b ∈ [a], H b = none := fun h b hb => by rw [List.mem_singleton.mp hb]; exact h
  refine List.nodup_cons.mpr ⟨fun hm => ?_, List.nodup_append.mpr ⟨nd1, List.nodup_append.mpr ⟨ndR, List.nodup_append.mpr ⟨nd4, by simp, dj_of d3 (oneN w3)⟩, fun a ha b hb => ?_⟩, fun a ha b hb => ?_⟩⟩
  · rcases List.mem_append.mp hm with h | h
    · exact p1 (b1 p h)
    · rcases List.mem_append.mp h with h | h
      · rcases List.mem_cons.mp h with h | h
        · exact npx h
        · exact p1 (r1 p h)
      · rcases List.mem_append.mp h with h | h
        · exact p1 (d1 p h)
        · exact p1 (by rw [List.mem_singleton.mp h]; exact w1)
  · rcases List.mem_cons.mp ha with ha | ha
    · rw [ha]
      rcases List.mem_append.mp hb with h | h
      · exact fun e => x1 (by rw [e]; exact d1 b h)
      · exact fun e => x1 (by rw [e, List.mem_singleton.mp h]; exact w1)
    · rcases List.mem_append.mp hb with h | h
      · exact fun e => d3 b h (by rw [← e]; exact r3 a ha)
      · exact fun e => r4 a ha (by rw [e, List.mem_singleton.mp h]; exact w4)
  · rcases List.mem_append.mp hb with h | h
    · rcases List.mem_cons.mp h with h | h
      · exact fun e => x1 (by rw [← h, ← e]; exact b1 a ha)
      · exact fun e => b1' a ha (by rw [e]; exact r2 b h)
    · rcases List.mem_append.mp h with h | h
      · exact fun e => b1' a ha (by rw [e]; exact d2 b h)
      · exact fun e => b1' a ha (by rw [e, List.mem_singleton.mp h]; exact w2)
theorem pf_places {A : HA} {h : Ho} {fs : List (Str × V)} (e : fs = hfs A h) : fs.lookup ("places" : Str) = some (.ref (A.ad .rooms)) := by rw [e]; exact hl_places
theorem q_fldPs2 {K : PySem.W.Frag} {C Dp D p dp : Addr} {H : Hp} {Ps : List Pn} {σ : L2.St} {ta tv : TE} {f : Str} {fs : List (Str × V)} {N : L2.St → Hp → Prop} {R : VK} {B C' : L2.St → Hp → Prop} {tz : TS} (hv : NewPs C Dp tv σ H Ps) (ha : ∀ H', Val ta σ H' (.ref p)) (hp : Ins K D p dp fs H) (no : NoAttr K D f) (hl : fs.length < 1000)
    (q : ∀ b (As : List PA) H', H b = none → As.length = Ps.length → (b :: As.flatMap PA.f10).Nodup → (∀ z ∈ As.flatMap PA.f10, H z = none) → (∀ z ∈ b :: As.flatMap PA.f10, H' z ≠ none) → H' b = some (.lst (As.map fun A => V.ref A.p)) → (∀ (i : Nat) A, As[i]? = some A → ∃ P, Ps[i]? = some P ∧ PAt C Dp H' A P ∧ ∀ z ∈ A.foot, H z = none) → Ins K D p dp (putF f (.ref b) fs) H' → Fr [p] H H' → tz ⟨N, R, B, C'⟩ σ H') :
    tSeq (sFld K ta tv f) tz ⟨N, R, B, C'⟩ σ H :=
  hv _ fun b As H1 hb hlen iv => by
    have nb : b ≠ p := fun e => by rw [e, hp.at_] at hb; cases hb
    have hp1 := iv.sm _ _ hp.at_
    refine ha _ _ ⟨p, D, dp, fs, rfl, hp1, hp.cl, no, hl, q b As _ hb hlen iv.nd (fun z hz => ?_) (fun z hz => ?_) (by rw [upd_ne nb]; exact iv.hd) (fun i A hA => ?_) ⟨hp.cl, upd_same⟩ (Fr.same1 iv.sm (Fr.upd (by simp)))⟩
    · obtain ⟨A, hA, hz⟩ := List.mem_flatMap.mp hz
      obtain ⟨i, hi⟩ := List.getElem?_of_mem hA
      obtain ⟨P, _, hP⟩ := iv.pa i A hi
      exact iv.fr A hA z ((f10_sub hP.len).1 z hz)
    · by_cases e : z = p
      · rw [e, upd_same]; exact fun e => by cases e
      · rw [upd_ne e]; exact iv.al z hz
    · obtain ⟨P, e, hP⟩ := iv.pa i A hA
      have np : p ∉ A.foot := fun hm => by have := iv.fr A (List.mem_of_getElem? hA) p hm; rw [hp.at_] at this; cases this
      exact ⟨P, e, hP.loc (fun z o hz e => by rw [upd_ne (fun q => np (by rw [← q]; exact hz))]; exact e), iv.fr A (List.mem_of_getElem? hA)⟩
section
variable {P : Program} {w : World} {K : PySem.W.Frag} {mg : Str → Option Value} {base : Heap}

theorem sc_saved_rooms : FnScope ["places", "kept", "shelves", "cells"] ["places"] (defScope s_saved_rooms) := ⟨rfl, rfl, rfl, by decide +kernel, rfl, by decide +kernel, by decide +kernel⟩
theorem cal_saved_rooms (T : Tx K mg) : Cal P w K mg base 2 "saved_rooms" ["places"] (spDV K (preSavR (CCk K))) := by
  refine cal_mk T 35 35 rfl rfl sc_saved_rooms (fun _ _ _ _ _ _ us hl => match us, hl with | [_], _ => rfl) (fun vs H Q E h => ?_) (fun f cdv A outer s H vs Q E hr h => ?_)
  · obtain ⟨F, W, d, wo, ok, ⟨n, r, A, h, rfl, iw, w, n8, r8, rfl⟩, k⟩ := h
    rfl
  · obtain ⟨F, W, d, wo, ok, ⟨n, r, A, h, rfl, iw, w, n8, r8, rfl⟩, k⟩ := h
    have M := T.mt
    have U := T.pt
    have HT : HTx K (CCk K).h := T.ht
    have RT : RTx K (CCk K).r := T.rt
    refine ⟨_, (pss_cons (ps_set (i := 1) sc_saved_rooms.nd rfl (Or.inl rfl) (pe_callTy call_tuple_of (by rfl) (T.free 54) (by decide +kernel) (pa_cons (pe_lc (own := [("cells", 3)]) (g := gName 3) (tt := tYes) (by rfl) sc_saved_rooms.nd (pi_list (pe_fld (pv 0) rfl)) (blkOk_by (own := [("cells", 3)]) (N := ["places", "kept", "shelves", "cells"]) (sc := defScope s_saved_rooms) (by decide +kernel)) (fun _ _ _ _ _ => pg_name (i := 3) sc_saved_rooms.nd rfl (Or.inl rfl)) (fun _ _ _ _ _ => pts_nil) (fun _ _ _ _ _ => (pe_callTy (show CallR _ _ (rTupOf K) from call_tuple_of) (by rfl) (T.free 54) (by decide +kernel) (pa_cons (pv 3) pa_nil)))) pa_nil))) (pss_cons (ps_set (i := 2) sc_saved_rooms.nd rfl (Or.inl rfl) (pe_callTy call_tuple_of (by rfl) (T.free 54) (by decide +kernel) (pa_cons (pe_lc (own := [("cells", 3)]) (g := gName 3) (tt := tYes) (by rfl) sc_saved_rooms.nd (pi_list (pe_fld (pv 0) rfl)) (blkOk_by (own := [("cells", 3)]) (N := ["places", "kept", "shelves", "cells"]) (sc := defScope s_saved_rooms) (by decide +kernel)) (fun _ _ _ _ _ => pg_name (i := 3) sc_saved_rooms.nd rfl (Or.inl rfl)) (fun _ _ _ _ _ => pts_nil) (fun _ _ _ _ _ => (pe_callTy (show CallR _ _ (rTupOf K) from call_tuple_of) (by rfl) (T.free 54) (by decide +kernel) (pa_cons (pv 3) pa_nil)))) pa_nil))) (pss_one (ps_ret (pe_tup (pa_cons (pe_callTy call_tuple_of (by rfl) (T.free 54) (by decide +kernel) (pa_cons (pe_fld (pv 0) rfl) pa_nil)) (pa_cons (pv 1) (pa_cons (pv 2) (pa_cons (pe_fld (pv 0) rfl) (pa_cons (pe_fld (pv 0) rfl) pa_nil)))))))))), ?_⟩
    refine q_d (K := K) (d := blocksD (keptZ r h)) (dv_tuple wo (dv_lcO ((keptZ r h).map intsD) wo (a := A.ad .kept) (xs := (List.range r).map fun i => V.ref (A.ad (.kr i))) (fun H1 m1 o1 => by
        obtain ⟨A1, ea, _, _, _, x1⟩ := iw.up _ o1.w
        rw [← ea]
        exact (vr_ (c := CCk K) RT x1 (v_var (by rw [ea]; rfl)) rl_kept)) (fun H1 w1 => by
        obtain ⟨A1, ea, _, _, _, x1⟩ := iw.up _ w1
        have z : H1 (A1.ad .kept) = some (.lst ((List.range r).map fun i => V.ref (A1.ad (.kr i)))) := x1.at_ .kept trivial
        rw [ea] at z
        exact SqL.of z) (by unfold keptZ; simp only [List.length_map]) (by simp only [List.length_map, List.length_range]; omega) (fun _ => rfl) (fun i x d H2 F1 W1 tn hx hd => by
        unfold keptZ at hd
        rw [List.getElem?_map] at hx
        rw [List.getElem?_map, List.getElem?_map] at hd
        obtain ⟨u, hu, rfl⟩ := Option.map_eq_some_iff.mp hx
        rw [hu] at hd
        cases hd
        have hun := List.mem_range.mp (List.mem_of_getElem? hu)
        refine dv_tupleO (ns := (keptC h u).map V.int) tn.wo (fun H3 m3 o3 => ?_)
        obtain ⟨A3, ea3, _, _, _, x3⟩ := (iw.tn tn).up _ o3.w
        have z : H3 (A3.ad (.kr u)) = some (.lst ((keptC h u).map V.int)) := x3.at_ (.kr u) hun
        rw [ea3] at z
        exact ⟨A.ad (.kr u), v_var rfl, SqL.of z, daAll_ints _⟩)) (.inl rfl)) ok (fun vk H1 m1 o1 hk => ?_)
    refine q_d (K := K) (d := blocksD (shelfZ n h)) (dv_tuple wo (dv_lcO ((shelfZ n h).map intsD) wo (a := A.ad .shelves) (xs := (List.range n).map fun i => V.ref (A.ad (.sr i))) (fun H1 m1 o1 => by
        obtain ⟨A1, ea, _, _, _, x1⟩ := iw.up _ o1.w
        rw [← ea]
        exact (vr_ (c := CCk K) RT x1 (v_var (by rw [ea]; rfl)) rl_shelves)) (fun H1 w1 => by
        obtain ⟨A1, ea, _, _, _, x1⟩ := iw.up _ w1
        have z : H1 (A1.ad .shelves) = some (.lst ((List.range n).map fun i => V.ref (A1.ad (.sr i)))) := x1.at_ .shelves trivial
        rw [ea] at z
        exact SqL.of z) (by unfold shelfZ; simp only [List.length_map]) (by simp only [List.length_map, List.length_range]; omega) (fun _ => rfl) (fun i x d H2 F1 W1 tn hx hd => by
        unfold shelfZ at hd
        rw [List.getElem?_map] at hx
        rw [List.getElem?_map, List.getElem?_map] at hd
        obtain ⟨u, hu, rfl⟩ := Option.map_eq_some_iff.mp hx
        rw [hu] at hd
        cases hd
        have hun := List.mem_range.mp (List.mem_of_getElem? hu)
        refine dv_tupleO (ns := (shelfC h u).map V.int) tn.wo (fun H3 m3 o3 => ?_)
        obtain ⟨A3, ea3, _, _, _, x3⟩ := (iw.tn tn).up _ o3.w
        have z : H3 (A3.ad (.sr u)) = some (.lst ((shelfC h u).map V.int)) := x3.at_ (.sr u) hun
        rw [ea3] at z
        exact ⟨A.ad (.sr u), v_var rfl, SqL.of z, daAll_ints _⟩)) (.inl rfl)) o1 (fun vs H2 m2 o2 hs => ?_)
    refine s_retD (K := K) (d := roomsD n r h) (dv_tup wo (da_cons (dv_tupleO (ds := h.guests.map optDs) (ns := h.guests.map gV) wo (fun H1 m1 o1 => by
        obtain ⟨A1, ea, _, _, _, x1⟩ := iw.up _ o1.w
        exact ⟨A1.ad .guests, (vr_ (c := CCk K) RT x1 (v_var (by rw [ea]; rfl)) rl_guests), SqL.of (x1.at_ .guests trivial), gs_da _⟩)) (da_cons (dv_var rfl (hk.mv m2)) (da_cons (dv_var rfl hs) (da_cons (dv_i fun H1 m1 o1 => by obtain ⟨A1, ea, _, _, _, x1⟩ := iw.up _ o1.w; exact (vr_ (c := CCk K) RT x1 (v_var (by rw [ea]; rfl)) rl_turn)) (da_cons (dv_i fun H1 m1 o1 => by obtain ⟨A1, ea, _, _, _, x1⟩ := iw.up _ o1.w; exact (vr_ (c := CCk K) RT x1 (v_var (by rw [ea]; rfl)) rl_swaps)) da_nil)))))) o2 (fun v H3 m3 o3 h3 => k v H3 ((m1.trans m2).trans m3) o3 h3)

theorem sc_saved : FnScope ["house", "people", "diaries", "clock", "user", "events"] ["house"] (defScope s_saved) := ⟨rfl, rfl, rfl, by decide +kernel, rfl, by decide +kernel, by decide +kernel⟩
theorem cal_saved (T : Tx K mg) : Cal P w K mg base 8 "saved" ["house"] (spSaved (CCk K) K) := by
  refine cal_mk T 36 36 rfl rfl sc_saved (fun _ _ _ _ _ _ us hl => match us, hl with | [_], _ => rfl) (fun vs H Q E h => ?_) (fun f cdv A outer s H vs Q E hr h => ?_)
  · obtain ⟨F, W, n, r, A, h, rfl, wo, ok, iw, w, n8, r8, k⟩ := h
    rfl
  · obtain ⟨F, W, n, r, A, h, rfl, wo, ok, iw, w, n8, r8, k⟩ := h
    have M := T.mt
    have U := T.pt
    have HT : HTx K (CCk K).h := T.ht
    have RT : RTx K (CCk K).r := T.rt
    refine ⟨_, (pss_cons (ps_set (i := 1) sc_saved.nd rfl (Or.inl rfl) (pe_callTy call_tuple_of (by rfl) (T.free 54) (by decide +kernel) (pa_cons (pe_lc (own := [("user", 4)]) (g := gName 4) (tt := tYes) (by rfl) sc_saved.nd (pi_range1 (by rfl) (T.free 53) (pa_cons (pe_callB call_len_seq (by rfl) (T.free 51) PySem.boot_len (pa_cons (pe_fld (pv 0) rfl) pa_nil)) pa_nil)) (blkOk_by (own := [("user", 4)]) (N := ["house", "people", "diaries", "clock", "user", "events"]) (sc := defScope s_saved) (by decide +kernel)) (fun _ _ _ _ _ => pg_name (i := 4) sc_saved.nd rfl (Or.inl rfl)) (fun _ _ _ _ _ => pts_nil) (fun _ _ _ _ _ => (pe_cal (cal_seen (K := K) T) hr (by decide) rfl (pa_cons (pv 0) (pa_cons (pv 4) pa_nil))))) pa_nil))) (pss_cons (ps_set (i := 2) sc_saved.nd rfl (Or.inl rfl) (pe_callTy call_tuple_of (by rfl) (T.free 54) (by decide +kernel) (pa_cons (pe_lc (own := [("events", 5)]) (g := gName 5) (tt := tYes) (by rfl) sc_saved.nd (pi_list (pe_fld (pv 0) rfl)) (blkOk_by (own := [("events", 5)]) (N := ["house", "people", "diaries", "clock", "user", "events"]) (sc := defScope s_saved) (by decide +kernel)) (fun _ _ _ _ _ => pg_name (i := 5) sc_saved.nd rfl (Or.inl rfl)) (fun _ _ _ _ _ => pts_nil) (fun _ _ _ _ _ => (pe_callTy (show CallR _ _ (rTupOf K) from call_tuple_of) (by rfl) (T.free 54) (by decide +kernel) (pa_cons (pv 5) pa_nil)))) pa_nil))) (pss_cons (ps_set (i := 3) sc_saved.nd rfl (Or.inl rfl) (pe_tup (pa_cons (pe_fld (pv 0) rfl) (pa_cons (pe_fld (pv 0) rfl) (pa_cons (pe_fld (pv 0) rfl) (pa_cons (pe_fld (pv 0) rfl) (pa_cons (pe_fld (pv 0) rfl) (pa_cons (pe_fld (pv 0) rfl) pa_nil)))))))) (pss_one (ps_ret (pe_tup (pa_cons (pv 1) (pa_cons (pv 2) (pa_cons (pe_cal (cal_saved_rooms (K := K) T) hr (by decide) rfl (pa_cons (pe_fld (pv 0) rfl) pa_nil)) (pa_cons (pe_fld (pv 0) rfl) (pa_cons (pe_callTy call_tuple_of (by rfl) (T.free 54) (by decide +kernel) (pa_cons (pe_fld (pv 0) rfl) pa_nil)) (pa_cons (pv 3) pa_nil)))))))))))), ?_⟩
    refine q_d (K := K) (d := .tuple ((List.range n).map fun u => shotD (pu h u))) (dv_tuple wo ((dv_lcR (z := (n : Int)) (fun _ => true) (fun u => shotD (pu h u)) wo (fun H1 m1 o1 => va_cons (by
        obtain ⟨A1, ea, _, _, _, x1⟩ := iw.up _ o1.w
        exact v_eqv (v_cb (va_cons (vh_ (c := CCk K) HT x1 (v_var (by rw [ea]; rfl)) hl_people) va_nil) (fun _ q => ⟨_, _, rfl, .inl (SqL.of (x1.at_ .people trivial)), q⟩)) (by rw [List.length_map, List.length_range])) va_nil) (by omega) (fun _ => rfl) (fun i H1 F1 W1 tn hi => ans_yes) (fun i H1 F1 W1 tn hi _ => dv_spW tn.wo (fun _ _ _ => va_cons (v_var rfl) (va_cons (v_var rfl) va_nil)) (fun _ _ _ => ⟨n, r, A, h, i, rfl, iw.tn tn, w, by omega, rfl⟩))).eq (by rw [fmD_all, Int.toNat_natCast])) (.inl rfl)) ok (fun vp H1 m1 o1 hp => ?_)
    obtain ⟨A1, ea, ed, e3, e4, x1⟩ := iw.up _ o1.w
    have eh : A.ad .house = A1.ad .house := by rw [ea]
    refine qx_set (x_tupX (nr_list (mk := HO.tup) (rows := (List.range n).map fun u => (A1.dts u).map V.ref) (vh_ (c := CCk K) HT x1 (v_var (by rw [ea]; rfl)) hl_diaries) (SqL.of (x1.at_ .diaries trivial)) (by rw [List.length_map, List.length_range]; omega) (by rw [List.length_map, List.length_map]) (fun _ => rfl) (fun i x rr H2 sm hx hr => by
        rw [List.getElem?_map] at hx hr
        obtain ⟨u, hu, rfl⟩ := Option.map_eq_some_iff.mp hx
        rw [hu] at hr
        cases hr
        have hun := List.mem_range.mp (List.mem_of_getElem? hu)
        exact no_tupL (v_var rfl) (SqL.of (sm _ _ (x1.at_ (.dr u) hun)))) _ (fun D es H2 sm hD has nd la hd hr => ⟨D, es.map V.ref, rfl, .inl ⟨SqL.of hd, fun td htd => ?_⟩⟩)))
    have sm2 : Same H1 (upd H2 td (.tup (es.map V.ref))) := sm.trans (smN htd)
    have o2 := o1.same wo sm2
    have m2 : Mv F H1 F (upd H2 td (.tup (es.map V.ref))) := .same sm2
    have hd2 : (upd H2 td (.tup (es.map V.ref))) td = some (.tup (es.map V.ref)) := upd_same
    have nFtd : ¬ F td := o1.fa.no (sm.free htd)
    have he2 : ∀ u a, es[u]? = some a → TpA K (upd H2 td (.tup (es.map V.ref))) F a ((A1.dts u).map V.ref) := fun u a ha => by
      obtain ⟨rr, g1, g2⟩ := hr u a ha
      rw [List.getElem?_map] at g1
      obtain ⟨u', hu', rfl⟩ := Option.map_eq_some_iff.mp g1
      have e := (List.getElem?_eq_some_iff.mp hu').2
      rw [List.getElem_range] at e
      subst e
      exact ⟨SqT.of (smN htd _ _ g2), .inl (o1.fa.no (has a (List.mem_of_getElem? ha)))⟩
    have hev2 : ∀ u, u < n → ∀ (i : Nat) b ev, (A1.dts u)[i]? = some b → (dy h u)[i]? = some ev → (upd H2 td (.tup (es.map V.ref))) b = some (.tup (evV ev)) ∧ ¬ F b := fun u hu i b ev h1 h2 => by
      have z := x1.dt u i b ev hu h1 h2
      exact ⟨sm2 _ _ z, fun f => (iw.no _ o1.w b f).a _ z⟩
    replace hp := hp.mv m2
    generalize upd H2 td (.tup (es.map V.ref)) = H3 at sm2 o2 m2 hd2 he2 hev2 hp ⊢
    rw [List.length_map, List.length_range] at la
    refine q_d (K := K) (d := intsD (clockZ h)) (Dv.eq (dv_tup wo (da_cons (dv_i fun H1 m1 o1 => by obtain ⟨A1, ea, _, _, _, x1⟩ := iw.up _ o1.w; exact (vh_ (c := CCk K) HT x1 (v_var (by rw [ea]; rfl)) hl_quantum)) (da_cons (dv_i fun H1 m1 o1 => by obtain ⟨A1, ea, _, _, _, x1⟩ := iw.up _ o1.w; exact (vh_ (c := CCk K) HT x1 (v_var (by rw [ea]; rfl)) hl_beat)) (da_cons (dv_i fun H1 m1 o1 => by obtain ⟨A1, ea, _, _, _, x1⟩ := iw.up _ o1.w; exact (vh_ (c := CCk K) HT x1 (v_var (by rw [ea]; rfl)) hl_steps)) (da_cons (dv_i fun H1 m1 o1 => by obtain ⟨A1, ea, _, _, _, x1⟩ := iw.up _ o1.w; exact (vh_ (c := CCk K) HT x1 (v_var (by rw [ea]; rfl)) hl_idle)) (da_cons (dv_i fun H1 m1 o1 => by obtain ⟨A1, ea, _, _, _, x1⟩ := iw.up _ o1.w; exact (vh_ (c := CCk K) HT x1 (v_var (by rw [ea]; rfl)) hl_ticks)) (da_cons (dv_i fun H1 m1 o1 => by obtain ⟨A1, ea, _, _, _, x1⟩ := iw.up _ o1.w; exact (vh_ (c := CCk K) HT x1 (v_var (by rw [ea]; rfl)) hl_left)) da_nil))))))) rfl) o2 (fun vc H4 m4 o4 hc => ?_)
    replace hp := hp.mv m4
    have X : ∀ H5, Mv F H3 F H5 → TpA K H5 F td (es.map V.ref) ∧ (∀ u a, es[u]? = some a → TpA K H5 F a ((A1.dts u).map V.ref) ∧ (A1.dts u).length = (dy h u).length ∧ ∀ (i : Nat) b ev, (A1.dts u)[i]? = some b → (dy h u)[i]? = some ev → H5 b = some (.tup (evV ev)) ∧ ¬ F b) := fun H5 m => by
      refine ⟨TpA.mv m ⟨SqT.of hd2, .inl nFtd⟩, fun u a ha => ?_⟩
      have hun : u < n := by rw [← la]; exact (List.getElem?_eq_some_iff.mp ha).1
      exact ⟨(he2 u a ha).mv m, x1.dl u hun, fun i b ev h1 h2 => by
        obtain ⟨g1, g2⟩ := hev2 u hun i b ev h1 h2
        exact ⟨m.keep _ _ g2 g1, g2⟩⟩
    clear hd2 he2 hev2 hr hd has
    refine x_ret (xt_tup (xa_cons (x_v (v_var rfl) (xa_cons (x_v (v_var rfl) (xa_cons (x_d (K := K) (d := roomsD n r h) (dv_spW wo (fun H5 m5 o5 => va_cons (by
        obtain ⟨A5, ea5, _, _, _, x5⟩ := iw.up _ o5.w
        rw [← ea5]
        exact vh_ (c := CCk K) HT x5 (v_var (by rw [ea5]; rfl)) hl_places) va_nil) (fun _ _ _ => ⟨n, r, A, h, rfl, iw, w, n8, r8, rfl⟩)) o4 (fun vr H5 m5 o5 hr => ?_))))))))
    obtain ⟨A5, ea5, _, _, _, x5⟩ := iw.up _ o5.w
    refine xa_cons (x_v (vh_ (c := CCk K) HT x5 (v_var (by rw [ea5]; rfl)) hl_runs) (xa_cons (x_d (K := K) (d := intsD (rowZ h.row)) (dv_tupleO (ds := (rowZ h.row).map PyData.int) (ns := (rowZ h.row).map V.int) wo (fun H1 m1 o1 => by
        obtain ⟨A1, ea, _, _, _, x1⟩ := iw.up _ o1.w
        exact ⟨A1.ad .row, (vh_ (c := CCk K) HT x1 (v_var (by rw [ea]; rfl)) hl_row), SqL.of (by rw [rowZ_V]; exact x1.at_ .row trivial), daAll_ints _⟩)) o5 (fun vw H6 m6 o6 hw => xa_cons (x_v (v_var rfl) (xa_nil ⟨k_line (by simp), fun t ht => ?_⟩))))))
    have sT := smN (o := HO.tup [vp, .ref td, vr, gV h.runs, vw, vc]) ht
    have mT : Mv F H6 F (upd H6 t (.tup [vp, .ref td, vr, gV h.runs, vw, vc])) := .same sT
    have nFt : ¬ F t := o6.fa.no ht
    obtain ⟨x6, x7⟩ := X _ ((m4.trans m5).trans (m6.trans mT))
    obtain ⟨tp, rfl⟩ : ∃ a, vp = .ref a := by cases hp; exact ⟨_, rfl⟩
    obtain ⟨tr, rfl⟩ : ∃ a, vr = .ref a := by unfold roomsD at hr; cases hr; exact ⟨_, rfl⟩
    obtain ⟨tw, rfl⟩ : ∃ a, vw = .ref a := by cases hw; exact ⟨_, rfl⟩
    obtain ⟨tc, rfl⟩ : ∃ a, vc = .ref a := by cases hc; exact ⟨_, rfl⟩
    exact k _ _ (((m1.trans m2).trans m4).trans ((m5.trans m6).trans mT)) (o6.same wo sT) ⟨t, tp, td, tr, tw, tc, es, A1.dts, rfl, ⟨SqT.of upd_same, .inl nFt⟩, hp.mv ((m5.trans m6).trans mT), x6, la, x7, hr.mv (m6.trans mT), hw.mv mT, hc.mv ((m5.trans m6).trans mT)⟩

theorem sc_set_rooms : FnScope ["places", "told", "cells"] ["places", "told"] (defScope s_set_rooms) := ⟨rfl, rfl, rfl, by decide +kernel, rfl, by decide +kernel, by decide +kernel⟩
theorem cal_set_rooms (T : Tx K mg) : Cal P w K mg base 1 "set_rooms" ["places", "told"] (spSetR (CCk K) K) := by
  refine cal_mk T 37 37 rfl rfl sc_set_rooms (fun _ _ _ _ _ _ us hl => match us, hl with | [_, _], _ => rfl) (fun vs H Q E h => ?_) (fun f cdv A outer s H vs Q E hr h => ?_)
  · obtain ⟨x, dx, tr, g0, k0, s0, t0, z0, gs, kr, sr, tn, sw, tg, tk, ts, ka, sa, rfl, hx, rt, kl, sl, k⟩ := h
    rfl
  · obtain ⟨x, dx, tr, g0, k0, s0, t0, z0, gs, kr, sr, tn, sw, tg, tk, ts, ka, sa, rfl, hx, rt, kl, sl, k⟩ := h
    have M := T.mt
    have U := T.pt
    have HT : HTx K (CCk K).h := T.ht
    have RT : RTx K (CCk K).r := T.rt
    refine ⟨_, (pss_cons (ps_fld (pv 0) (pe_callTy call_list_of (by rfl) (T.free 52) (by decide +kernel) (pa_cons (pe_ix ix_tup (pv 1) pe_int (fun _ _ => rfl)) pa_nil)) rfl) (pss_cons (ps_fld (pv 0) (pe_lc (own := [("cells", 2)]) (g := gName 2) (tt := tYes) (by rfl) sc_set_rooms.nd (pi_tup (pe_ix ix_tup (pv 1) pe_int (fun _ _ => rfl))) (blkOk_by (own := [("cells", 2)]) (N := ["places", "told", "cells"]) (sc := defScope s_set_rooms) (by decide +kernel)) (fun _ _ _ _ _ => pg_name (i := 2) sc_set_rooms.nd rfl (Or.inl rfl)) (fun _ _ _ _ _ => pts_nil) (fun _ _ _ _ _ => (pe_callTy (show CallR _ _ (rListS K) from call_list_of) (by rfl) (T.free 52) (by decide +kernel) (pa_cons (pv 2) pa_nil)))) rfl) (pss_cons (ps_fld (pv 0) (pe_lc (own := [("cells", 2)]) (g := gName 2) (tt := tYes) (by rfl) sc_set_rooms.nd (pi_tup (pe_ix ix_tup (pv 1) pe_int (fun _ _ => rfl))) (blkOk_by (own := [("cells", 2)]) (N := ["places", "told", "cells"]) (sc := defScope s_set_rooms) (by decide +kernel)) (fun _ _ _ _ _ => pg_name (i := 2) sc_set_rooms.nd rfl (Or.inl rfl)) (fun _ _ _ _ _ => pts_nil) (fun _ _ _ _ _ => (pe_callTy (show CallR _ _ (rListS K) from call_list_of) (by rfl) (T.free 52) (by decide +kernel) (pa_cons (pv 2) pa_nil)))) rfl) (pss_cons (ps_fld (pv 0) (pe_ix ix_tup (pv 1) pe_int (fun _ _ => rfl)) rfl) (pss_one (ps_fld (pv 0) (pe_ix ix_tup (pv 1) pe_int (fun _ _ => rfl)) rfl)))))), ?_⟩
    have i0 : Ins K (CCk K).r x dx (rooms0 g0 k0 s0 t0 z0) H := ⟨RT.cl, hx⟩
    refine q_fldN (nl_list (v_ixT (v_var rfl) v_c rt.top (by decide) rfl) (.inr rt.g)) (fun _ => v_var rfl) i0 (RT.no "guests" (by simp)) (by show 5 < 1000; decide) (fun g H1 hg ng eg i1 f1 => ?_)
    have rt1 := rt.keep (fun _ _ q => f1.seqT q i0)
    refine q_fldR (mk := HO.lst) (rows := kr.map fun b => b.map V.int) (nr_tup (v_ixT (v_var rfl) v_c rt1.top (by decide) rfl) rt1.k (by rw [List.length_map, rt1.kl]; omega) (by rw [List.length_map, List.length_map, rt1.kl]) (fun _ => rfl) (fun i y rr H' sm hy hr => by
        rw [List.getElem?_map] at hy hr
        obtain ⟨a, ha, rfl⟩ := Option.map_eq_some_iff.mp hy
        obtain ⟨ws, e1, e2⟩ := rt1.ke i a ha
        rw [e1] at hr
        cases hr
        exact no_list (v_var rfl) (.inr (smT sm e2)))) (fun _ => v_var rfl) i1 (RT.no "kept" (by simp)) (by show 5 < 1000; decide) (fun kp ks H2 hk ndk lk ek eks i2 f2 => ?_)
    have rt2 := rt1.keep (fun _ _ q => f2.seqT q i1)
    refine q_fldR (mk := HO.lst) (rows := sr.map fun b => b.map V.int) (nr_tup (v_ixT (v_var rfl) v_c rt2.top (by decide) rfl) rt2.s (by rw [List.length_map, rt2.sl]; omega) (by rw [List.length_map, List.length_map, rt2.sl]) (fun _ => rfl) (fun i y rr H' sm hy hr => by
        rw [List.getElem?_map] at hy hr
        obtain ⟨a, ha, rfl⟩ := Option.map_eq_some_iff.mp hy
        obtain ⟨ws, e1, e2⟩ := rt2.se i a ha
        rw [e1] at hr
        cases hr
        exact no_list (v_var rfl) (.inr (smT sm e2)))) (fun _ => v_var rfl) i2 (RT.no "shelves" (by simp)) (by show 5 < 1000; decide) (fun sh ss H3 hh nds ls es ess i3 f3 => ?_)
    have rt3 := rt2.keep (fun _ _ q => f3.seqT q i2)
    refine q_fldV (v_ixT (v_var rfl) v_c rt3.top (by decide) rfl) (v_var rfl) i3 (RT.no "turn" (by simp)) (by show 5 < 1000; decide) (fun H4 i4 f4 => ?_)
    have rt4 := rt3.keep (fun _ _ q => f4.seqT q i3)
    refine s_fldV (v_ixT (v_var rfl) v_c rt4.top (by decide) rfl) (v_var rfl) i4 (RT.no "swaps" (by simp)) (by show 5 < 1000; decide) (fun H5 i5 f5 => ?_)
    have f15 : Fr [x] H1 H5 := f2.trans (f3.trans (f4.trans f5))
    have f25 : Fr [x] H2 H5 := f3.trans (f4.trans f5)
    have f35 : Fr [x] H3 H5 := f4.trans f5
    have hs2 : ∀ b ∈ sh :: ss, H1 b = none := fun b hb => f2.free i2 (hh b hb)
    have hs1 : ∀ b ∈ sh :: ss, H b = none := fun b hb => f1.free i1 (hs2 b hb)
    have hk1 : ∀ b ∈ kp :: ks, H b = none := fun b hb => f1.free i1 (hk b hb)
    have np : ∀ b, H b = none → b ≠ x := fun b hb e => by rw [e, hx] at hb; cases hb
    have al2 : ∀ b ∈ kp :: ks, H2 b ≠ none := fun b hb e => by
      rcases List.mem_cons.mp hb with rfl | hb
      · rw [ek] at e; cases e
      · obtain ⟨i, hi⟩ := List.getElem?_of_mem hb
        obtain ⟨_, _, z⟩ := eks i b hi
        rw [z] at e; cases e
    have ndA : ((kp :: ks) ++ (sh :: ss)).Nodup := disj_nd ndk nds al2 hh
    have ndB : (g :: ((kp :: ks) ++ (sh :: ss))).Nodup := nd_more (H := H1) eg (fun b hb => by
      rcases List.mem_append.mp hb with h1 | h1
      · exact hk b h1
      · exact hs2 b h1) ndA
    have ndC : (x :: (g :: ((kp :: ks) ++ (sh :: ss)))).Nodup := nd_more (H := H) hx (fun b hb => by
      rcases List.mem_cons.mp hb with h0 | hb
      · rw [h0]; exact hg
      rcases List.mem_append.mp hb with h1 | h1
      · exact hk1 b h1
      · exact hs1 b h1) ndB
    exact k g kp sh ks ss H5 (fun b hb => (by
      rcases List.mem_append.mp hb with h1 | h1
      · rcases List.mem_cons.mp h1 with h2 | h2
        · rw [h2]; exact hg
        · exact hk1 b h2
      · exact hs1 b h1)) ndC (lk.trans (by rw [List.length_map])) (ls.trans (by rw [List.length_map])) (i5.at_.trans (congrArg (fun z => some (HO.ins (CCk K).r dx z)) (by kernel_rfl))) (f15.one ng eg) (f25.one (np kp (hk1 kp List.mem_cons_self)) ek) (f25.rowsAt eks (fun b hb => np b (hk1 b (List.mem_cons_of_mem _ hb)))) (f35.one (np sh (hs1 sh List.mem_cons_self)) es) (f35.rowsAt ess (fun b hb => np b (hs1 b (List.mem_cons_of_mem _ hb)))) (f1.trans f15)

theorem sc_taken : FnScope ["told", "clock", "house", "one", "events"] ["told"] (defScope s_taken) := ⟨rfl, rfl, rfl, by decide +kernel, rfl, by decide +kernel, by decide +kernel⟩
theorem cal_taken (T : Tx K mg) : Cal P w K mg base 8 "taken" ["told"] (spTaken (CCk K) K) := by
  refine cal_mk T 38 38 rfl rfl sc_taken (fun _ _ _ _ _ _ us hl => match us, hl with | [_], _ => rfl) (fun vs H Q E h => ?_) (fun f cdv A outer s H vs Q E hr h => ?_)
  · obtain ⟨F, v, n, r, h, rfl, tl, w, n8, r8, dlen, k⟩ := h
    rfl
  · obtain ⟨F, v, n, r, h, rfl, tl, w, n8, r8, dlen, k⟩ := h
    have M := T.mt
    have U := T.pt
    have HT : HTx K (CCk K).h := T.ht
    have RT : RTx K (CCk K).r := T.rt
    refine ⟨_, (pss_cons (ps_set (i := 1) sc_taken.nd rfl (Or.inl rfl) (pe_ix ix_tup (pv 0) pe_int (fun _ _ => rfl))) (pss_cons (ps_set (i := 2) sc_taken.nd rfl (Or.inl rfl) (show PE _ _ (tMake (He.ga K "House") _ [] E0 _) from pe_new (cal_House (K := K) T) hr (by decide) rfl (pa_cons (pe_callB call_len_seq (by rfl) (T.free 51) PySem.boot_len (pa_cons (pe_ix ix_tup (pv 0) pe_int (fun _ _ => rfl)) pa_nil)) (pa_cons (pe_callB call_len_seq (by rfl) (T.free 51) PySem.boot_len (pa_cons (pe_ix ix_tup (pe_ix ix_tup (pv 0) pe_int (fun _ _ => rfl)) pe_int (fun _ _ => rfl)) pa_nil)) (pa_cons (pe_ix ix_tup (pv 1) pe_int (fun _ _ => rfl)) (pa_cons (pe_ix ix_tup (pv 1) pe_int (fun _ _ => rfl)) pa_nil)))))) (pss_cons (ps_fld (pv 2) (pe_lc (own := [("one", 3)]) (g := gName 3) (tt := tYes) (by rfl) sc_taken.nd (pi_tup (pe_ix ix_tup (pv 0) pe_int (fun _ _ => rfl))) (blkOk_by (own := [("one", 3)]) (N := ["told", "clock", "house", "one", "events"]) (sc := defScope s_taken) (by decide +kernel)) (fun _ _ _ _ _ => pg_name (i := 3) sc_taken.nd rfl (Or.inl rfl)) (fun _ _ _ _ _ => pts_nil) (fun _ _ _ _ _ => (pe_cal (cal_person_of (K := K) T) hr (by decide) rfl (pa_cons (pv 3) pa_nil)))) rfl) (pss_cons (ps_fld (pv 2) (pe_lc (own := [("events", 4)]) (g := gName 4) (tt := tYes) (by rfl) sc_taken.nd (pi_tup (pe_ix ix_tup (pv 0) pe_int (fun _ _ => rfl))) (blkOk_by (own := [("events", 4)]) (N := ["told", "clock", "house", "one", "events"]) (sc := defScope s_taken) (by decide +kernel)) (fun _ _ _ _ _ => pg_name (i := 4) sc_taken.nd rfl (Or.inl rfl)) (fun _ _ _ _ _ => pts_nil) (fun _ _ _ _ _ => (pe_callTy (show CallR _ _ (rListS K) from call_list_of) (by rfl) (T.free 52) (by decide +kernel) (pa_cons (pv 4) pa_nil)))) rfl) (pss_cons (ps_expr (pe_cal (cal_set_rooms (K := K) T) hr (by decide) rfl (pa_cons (pe_fld (pv 2) rfl) (pa_cons (pe_ix ix_tup (pv 0) pe_int (fun _ _ => rfl)) pa_nil)))) (pss_cons (ps_fld (pv 2) (pe_ix ix_tup (pv 0) pe_int (fun _ _ => rfl)) rfl) (pss_cons (ps_fld (pv 2) (pe_callTy call_list_of (by rfl) (T.free 52) (by decide +kernel) (pa_cons (pe_ix ix_tup (pv 0) pe_int (fun _ _ => rfl)) pa_nil)) rfl) (pss_cons (ps_fld (pv 2) (pe_ix ix_tup (pv 1) pe_int (fun _ _ => rfl)) rfl) (pss_cons (ps_fld (pv 2) (pe_ix ix_tup (pv 1) pe_int (fun _ _ => rfl)) rfl) (pss_cons (ps_fld (pv 2) (pe_ix ix_tup (pv 1) pe_int (fun _ _ => rfl)) rfl) (pss_cons (ps_fld (pv 2) (pe_ix ix_tup (pv 1) pe_int (fun _ _ => rfl)) rfl) (pss_cons (ps_fld (pv 2) (pe_fld (pe_fld (pv 2) rfl) rfl) rfl) (pss_cons (ps_fld (pv 2) (pe_fld (pe_fld (pv 2) rfl) rfl) rfl) (pss_one (ps_ret (pv 2)))))))))))))))), ?_⟩
    obtain ⟨t, tp, td, tr, trow, tc, de, evs, rfl, X⟩ := tl
    have top := X.top.sq
    have hp := X.p
    cases hp with | @tup _ xs _ p1 p2 =>
    have pl : xs.length = n := by rw [p2.len, List.length_map, List.length_range]
    obtain ⟨tc', ec, hc⟩ := da_intsT_inv X.c
    cases ec
    obtain ⟨tw', ew, hw⟩ := da_intsT_inv X.row
    cases ew
    obtain ⟨tg, tk, ts, ka, sa, rt⟩ := rooms_inv X.r
    have hd := X.d.sq
    have he : ∀ u a, de[u]? = some a → SqT K H a ((evs u).map V.ref) := fun u a ha => (X.e u a ha).1.sq
    have hev : ∀ u, u < n → ∀ (i : Nat) b ev, (evs u)[i]? = some b → (dy h u)[i]? = some ev → H b = some (.tup (evV ev)) := fun u hu i b ev h1 h2 => ((X.e u _ (List.getElem?_eq_getElem (by rw [X.dl]; exact hu))).2.2 i b ev h1 h2).1
    have hel : ∀ u, u < n → (evs u).length = (dy h u).length := fun u hu => (X.e u _ (List.getElem?_eq_getElem (by rw [X.dl]; exact hu))).2.1
    have del := X.dl
    refine q_set (v_ixT (v_var rfl) v_c top (by decide) rfl) ?_
    refine qx_set (x_house (n := n) (m := r) (va_cons (v_eqv (v_cb (va_cons (v_ixT (v_var rfl) v_c top (by decide) rfl) va_nil) (fun _ q => ⟨_, _, rfl, .inr p1.sq, q⟩)) (by rw [pl])) (va_cons (v_eqv (v_cb (va_cons (v_ixT (v_ixT (v_var rfl) v_c top (by decide) rfl) v_c rt.top (by decide) rfl) va_nil) (fun _ q => ⟨_, _, rfl, .inr rt.g, q⟩)) (by rw [List.length_map, w.lg])) (va_cons (v_ixT (v_var rfl) v_c hc (by decide) rfl) (va_cons (v_ixT (v_var rfl) v_c hc (by decide) rfl) va_nil)))) (by omega) (by omega) (fun A0 H1 sy0 fr0 x0 s1 => ?_))
    have hp0 : H (A0.ad .house) = none := fr0 _ ⟨.house, trivial, rfl⟩
    have hx0 : H (A0.ad .rooms) = none := fr0 _ ⟨.rooms, trivial, rfl⟩
    have npx : A0.ad .house ≠ A0.ad .rooms := x0.ne trivial trivial (fun e => by cases e)
    have i1 : Ins K (CCk K).h (A0.ad .house) A0.dh (hfs A0 (newH n r h.quantum h.beat)) H1 := ⟨HT.cl, x0.at_ .house trivial⟩
    have hx1 : H1 (A0.ad .rooms) = some (.ins (CCk K).r A0.drm (rfs A0 (newH n r h.quantum h.beat))) := x0.at_ .rooms trivial
    have ap1 : H1 (A0.ad .house) ≠ none := by rw [i1.at_]; intro e; cases e
    have ax1 : H1 (A0.ad .rooms) ≠ none := by rw [hx1]; intro e; cases e
    have top1 := smT s1 top
    refine q_fldPs2 (C := (CCk K).m) (Dp := (CCk K).p) (Ps := (List.range n).map (pu h)) (nps_tup (K := K) (v_ixT (v_var rfl) v_c top1 (by decide) rfl) (smT s1 p1.sq) (by omega) (by rw [List.length_map, List.length_range, pl]) (fun _ => rfl) (fun i y P hy hP => ?_)) (fun _ => v_var rfl) i1 (HT.no "people" (by simp)) (by show 13 < 1000; decide) (fun D As H2 hD lA ndP frP alP eD hA i2 f2 => ?_)
    · refine fun H3 s3 Q' qq => ?_
      rw [List.getElem?_map] at hP
      obtain ⟨u, hu, rfl⟩ := Option.map_eq_some_iff.mp hP
      have hun := List.mem_range.mp (List.mem_of_getElem? hu)
      have hd3 : Da K H F y (shotD (pu h u)) := p2.get i hy (by rw [List.getElem?_map, hu]; rfl)
      obtain ⟨a, rfl⟩ : ∃ a, y = .ref a := by cases hd3; exact ⟨_, rfl⟩
      exact x_call (va_cons (v_var rfl) va_nil) ⟨a, pu h u, rfl, (hd3.same (s1.trans s3)).dp, (w.pw u hun).1.bk, fun A H4 fr s hA => qq A H4 fr s hA⟩
    rw [List.length_map, List.length_range] at lA
    have SQ2 : ∀ b ys, SqT K H b ys → SqT K H2 b ys := fun b ys q => f2.seqT (smT s1 q) i1
    have hx2 := f2.one npx.symm hx1
    refine q_fldR (mk := HO.lst) (rows := (List.range n).map fun u => (evs u).map V.ref) (nr_tup (v_ixT (v_var rfl) v_c (SQ2 _ _ top) (by decide) rfl) (SQ2 _ _ hd) (by rw [List.length_map, del]; omega) (by rw [List.length_map, List.length_map, List.length_range, del]) (fun _ => rfl) (fun i y rr H' sm hy hr => by
        rw [List.getElem?_map] at hy hr
        obtain ⟨a, ha, rfl⟩ := Option.map_eq_some_iff.mp hy
        obtain ⟨u, hu, rfl⟩ := Option.map_eq_some_iff.mp hr
        have e := (List.getElem?_eq_some_iff.mp hu).2
        rw [List.getElem_range] at e
        subst e
        exact no_list (v_var rfl) (.inr (smT sm (SQ2 _ _ (he _ a ha)))))) (fun _ => v_var rfl) i2 (HT.no "diaries" (by simp)) (by show 13 < 1000; decide) (fun dl ds H3 hdf ndD lD ed eds i3 f3 => ?_)
    rw [List.length_map, List.length_range] at lD
    have SQ3 : ∀ b ys, SqT K H b ys → SqT K H3 b ys := fun b ys q => f3.seqT (SQ2 b ys q) i2
    have hx3 := f3.one npx.symm hx2
    refine q_do (va_cons (val_fld (v_var rfl) i3.at_ HT.cl (HT.no "places" (by simp)) (by kernel_rfl)) (va_cons (v_ixT (v_var rfl) v_c (SQ3 _ _ top) (by decide) rfl) va_nil)) ⟨A0.ad .rooms, A0.drm, tr, _, _, _, _, _, h.guests, keptZ r h, shelfZ n h, h.turn, h.swaps, tg, tk, ts, ka, sa, rfl, hx3, rt.keep SQ3, by unfold keptZ; rw [List.length_map, List.length_range]; omega, by unfold shelfZ; rw [List.length_map, List.length_range]; omega, fun g kp sh ks ss H4 hfr ndR lk ls ex eg ek eks es ess f4 => ?_⟩
    dsimp only
    have ix3 : Ins K (CCk K).r (A0.ad .rooms) A0.drm _ H3 := ⟨RT.cl, hx3⟩
    have ix4 : Ins K (CCk K).r (A0.ad .rooms) A0.drm _ H4 := ⟨RT.cl, ex⟩
    have SQ4 : ∀ b ys, SqT K H b ys → SqT K H4 b ys := fun b ys q => f4.seqT (SQ3 b ys q) ix3
    have i4 : Ins K (CCk K).h (A0.ad .house) A0.dh _ H4 := ⟨HT.cl, f4.one npx i3.at_⟩
    refine q_fldV (v_ixT (v_var rfl) v_c (SQ4 _ _ top) (by decide) rfl) (v_var rfl) i4 (HT.no "runs" (by simp)) (by show 13 < 1000; decide) (fun H5 i5 f5 => ?_)
    have SQ5 : ∀ b ys, SqT K H b ys → SqT K H5 b ys := fun b ys q => f5.seqT (SQ4 b ys q) i4
    refine q_fldN (nl_list (v_ixT (v_var rfl) v_c (SQ5 _ _ top) (by decide) rfl) (.inr (SQ5 _ _ hw))) (fun _ => v_var rfl) i5 (HT.no "row" (by simp)) (by show 13 < 1000; decide) (fun rw H6 hrw nrw erw i6 f6 => ?_)
    have SQ6 : ∀ b ys, SqT K H b ys → SqT K H6 b ys := fun b ys q => f6.seqT (SQ5 b ys q) i5
    refine q_fldV (v_ixT (v_var rfl) v_c (SQ6 _ _ hc) (by decide) rfl) (v_var rfl) i6 (HT.no "steps" (by simp)) (by show 13 < 1000; decide) (fun H7 i7 f7 => ?_)
    have SQ7 : ∀ b ys, SqT K H b ys → SqT K H7 b ys := fun b ys q => f7.seqT (SQ6 b ys q) i6
    refine q_fldV (v_ixT (v_var rfl) v_c (SQ7 _ _ hc) (by decide) rfl) (v_var rfl) i7 (HT.no "idle" (by simp)) (by show 13 < 1000; decide) (fun H8 i8 f8 => ?_)
    have SQ8 : ∀ b ys, SqT K H b ys → SqT K H8 b ys := fun b ys q => f8.seqT (SQ7 b ys q) i7
    refine q_fldV (v_ixT (v_var rfl) v_c (SQ8 _ _ hc) (by decide) rfl) (v_var rfl) i8 (HT.no "ticks" (by simp)) (by show 13 < 1000; decide) (fun H9 i9 f9 => ?_)
    have SQ9 : ∀ b ys, SqT K H b ys → SqT K H9 b ys := fun b ys q => f9.seqT (SQ8 b ys q) i8
    refine q_fldV (v_ixT (v_var rfl) v_c (SQ9 _ _ hc) (by decide) rfl) (v_var rfl) i9 (HT.no "left" (by simp)) (by show 13 < 1000; decide) (fun H10 i10 f10 => ?_)
    have f410 : Fr [A0.ad .house] H4 H10 := f5.trans (f6.trans (f7.trans (f8.trans (f9.trans f10))))
    have ex10 := f410.one npx.symm ex
    refine q_fldV (v := .int h.swaps) (val_fld (val_fld (v_var rfl) i10.at_ HT.cl (HT.no "places" (by simp)) (by kernel_rfl)) ex10 RT.cl (RT.no "swaps" (by simp)) (by kernel_rfl)) (v_var rfl) i10 (HT.no "swaps" (by simp)) (by show 13 < 1000; decide) (fun H11 i11 f11 => ?_)
    have ex11 := f11.one npx.symm ex10
    refine q_fldV (v := .int (h.turn : Int)) (val_fld (val_fld (v_var rfl) i11.at_ HT.cl (HT.no "places" (by simp)) (by kernel_rfl)) ex11 RT.cl (RT.no "turn" (by simp)) (by kernel_rfl)) (v_var rfl) i11 (HT.no "turn" (by simp)) (by show 13 < 1000; decide) (fun H12 i12 f12 => ?_)
    have ex12 := f12.one npx.symm ex11
    have f412 : Fr [A0.ad .house] H4 H12 := f410.trans (f11.trans f12)
    have f612 : Fr [A0.ad .house] H6 H12 := f7.trans (f8.trans (f9.trans (f10.trans (f11.trans f12))))
    have w5 := hrw
    have w4 : H4 rw = none := f5.free i5 w5
    have w3 : H3 rw = none := f4.free ix4 w4
    have w2 : H2 rw = none := f3.free i3 w3
    have w1 : H1 rw = none := f2.free i2 w2
    have d1 : ∀ b ∈ dl :: ds, H1 b = none := fun b hb => f2.free i2 (hdf b hb)
    have d3 : ∀ b ∈ dl :: ds, H3 b ≠ none := fun b hb e => by
      rcases List.mem_cons.mp hb with h0 | hb
      · rw [h0, ed] at e; cases e
      · obtain ⟨i, hi⟩ := List.getElem?_of_mem hb
        obtain ⟨_, _, z⟩ := eds i b hi
        rw [z] at e; cases e
    have r2 : ∀ b ∈ (g :: kp :: ks) ++ (sh :: ss), H2 b = none := fun b hb => f3.free i3 (hfr b hb)
    have r1 : ∀ b ∈ (g :: kp :: ks) ++ (sh :: ss), H1 b = none := fun b hb => f2.free i2 (r2 b hb)
    have r4 : ∀ b ∈ (g :: kp :: ks) ++ (sh :: ss), H4 b ≠ none := fun b hb e => by
      rcases List.mem_append.mp hb with hb | hb
      · rcases List.mem_cons.mp hb with h0 | hb
        · rw [h0, eg] at e; cases e
        rcases List.mem_cons.mp hb with h0 | hb
        · rw [h0, ek] at e; cases e
        obtain ⟨i, hi⟩ := List.getElem?_of_mem hb
        obtain ⟨_, _, z⟩ := eks i b hi
        rw [z] at e; cases e
      · rcases List.mem_cons.mp hb with h0 | hb
        · rw [h0, es] at e; cases e
        obtain ⟨i, hi⟩ := List.getElem?_of_mem hb
        obtain ⟨_, _, z⟩ := ess i b hi
        rw [z] at e; cases e
    have b1 : ∀ b ∈ D :: As.flatMap PA.f10, H1 b = none := fun b hb => by
      rcases List.mem_cons.mp hb with h | h
      · rw [h]; exact hD
      · exact frP b h
    have ndz := nd_blocks npx ndP ndR ndD ap1 ax1 b1 alP d1 hdf d3 r1 r2 hfr r4 w1 w2 w3 w4
    obtain ⟨N, eN⟩ : ∃ N : NewA, N = ⟨A0.ad .house, A0.dh, D, As, A0.ad .rooms, A0.drm, g, kp, ks, sh, ss, dl, ds, rw⟩ := ⟨_, rfl⟩
    unfold keptZ at lk eks
    unfold shelfZ at ls ess
    rw [List.length_map, List.length_range] at lk ls
    have em := N.map (n := n) (r := r) (by rw [eN]; exact lA) (by rw [eN]; exact lk) (by rw [eN]; exact ls) (by rw [eN]; exact lD)
    have eL : N.p :: ((N.D :: N.As.flatMap PA.f10) ++ ((N.x :: N.g :: N.kp :: N.ks) ++ ((N.sh :: N.ss) ++ ((N.dl :: N.ds) ++ [N.rw_])))) = A0.ad .house :: ((D :: As.flatMap PA.f10) ++ ((A0.ad .rooms :: ((g :: kp :: ks) ++ (sh :: ss))) ++ ((dl :: ds) ++ [rw]))) := by rw [eN]; simp
    have ndN : ((slots n r).map N.ad).Nodup := by rw [em, eL]; exact ndz
    have np1 : ∀ b, H1 b = none → b ≠ A0.ad .house := fun b hb e => by rw [e, i1.at_] at hb; cases hb
    have nx1 : ∀ b, H1 b = none → b ≠ A0.ad .rooms := fun b hb e => by rw [e, hx1] at hb; cases hb
    have TO12 : ∀ b o, H1 b = none → b ≠ A0.ad .rooms → H2 b = some o → H12 b = some o := fun b o hb nb e => f412.one (np1 b hb) (f4.one nb (f3.one (np1 b hb) e))
    have fresh : ∀ z, footH n r (N.ha evs h.swaps (h.turn : Int)) z → H z = none := fun z hz => by
      obtain ⟨s, hs, rfl⟩ := hz
      have hb : N.ad s ∈ (slots n r).map N.ad := List.mem_map.mpr ⟨s, slots_all hs, rfl⟩
      rw [em, eL] at hb
      show H (N.ad s) = none
      generalize N.ad s = b at hb
      rcases List.mem_cons.mp hb with h | h
      · rw [h]; exact hp0
      rcases List.mem_append.mp h with h | h
      · exact s1.free (b1 b h)
      rcases List.mem_append.mp h with h | h
      · rcases List.mem_cons.mp h with h | h
        · rw [h]; exact hx0
        · exact s1.free (r1 b h)
      rcases List.mem_append.mp h with h | h
      · exact s1.free (d1 b h)
      · rw [List.mem_singleton.mp h]; exact s1.free w1
    have sm : Same H H12 := fun b o e => by
      have nb := ne_of_none e hp0
      have nb2 := ne_of_none e hx0
      exact f412.one nb (f4.one nb2 (f3.one nb (f2.one nb (s1 b o e))))
    have Z : HoAt (CCk K) n r H12 (N.ha evs h.swaps (h.turn : Int)) h := by
      refine N.houseG evs h.swaps (h.turn : Int) (by rw [eN]; exact lA) (by rw [eN]; exact lk) (by rw [eN]; exact ls) (by rw [eN]; exact lD) ndN ?_ ?_ ?_ ?_ ?_ ?_ ?_ ?_ ?_ ?_ ?_ ?_ (fun u hu => (w.pw u hu).1.bk) hel (fun u i b ev hu h1 h2 => sm _ _ (hev u hu i b ev h1 h2))
      · rw [eN]; exact i12.at_.trans (congrArg (fun z => some (HO.ins (CCk K).h A0.dh z)) (by kernel_rfl))
      · rw [eN]; exact TO12 D _ hD (nx1 D hD) eD
      · rw [eN]
        intro i A hi
        obtain ⟨P, e, hP, hnp⟩ := hA i A hi
        rw [List.getElem?_map] at e
        obtain ⟨u, hu, rfl⟩ := Option.map_eq_some_iff.mp e
        have e2 := (List.getElem?_eq_some_iff.mp hu).2
        rw [List.getElem_range] at e2
        subst e2
        refine hP.loc fun z o hz e => ?_
        have nzp : z ≠ A0.ad .house := np1 z (hnp z hz)
        have nzx : z ≠ A0.ad .rooms := nx1 z (hnp z hz)
        exact f412.one nzp (f4.one nzx (f3.one nzp e))
      · rw [eN]; exact ex12.trans (congrArg (fun z => some (HO.ins (CCk K).r A0.drm z)) (by kernel_rfl))
      · rw [eN]; exact f412.one (np1 g (r1 g (by simp))) eg
      · rw [eN]; exact f412.one (np1 kp (r1 kp (by simp))) ek
      · rw [eN]
        intro i a hi
        obtain ⟨rr, g1, g2⟩ := eks i a hi
        rw [List.getElem?_map, List.getElem?_map] at g1
        obtain ⟨bb, hbb, rfl⟩ := Option.map_eq_some_iff.mp g1
        obtain ⟨u, hu, rfl⟩ := Option.map_eq_some_iff.mp hbb
        have e2 := (List.getElem?_eq_some_iff.mp hu).2
        rw [List.getElem_range] at e2
        subst e2
        exact f412.one (np1 a (r1 a (by simp [List.mem_of_getElem? hi]))) g2
      · rw [eN]; exact f412.one (np1 sh (r1 sh (by simp))) es
      · rw [eN]
        intro i a hi
        obtain ⟨rr, g1, g2⟩ := ess i a hi
        rw [List.getElem?_map, List.getElem?_map] at g1
        obtain ⟨bb, hbb, rfl⟩ := Option.map_eq_some_iff.mp g1
        obtain ⟨u, hu, rfl⟩ := Option.map_eq_some_iff.mp hbb
        have e2 := (List.getElem?_eq_some_iff.mp hu).2
        rw [List.getElem_range] at e2
        subst e2
        exact f412.one (np1 a (r1 a (by simp [List.mem_of_getElem? hi]))) g2
      · rw [eN]; exact f412.one (np1 dl (d1 dl (by simp))) (f4.one (nx1 dl (d1 dl (by simp))) ed)
      · rw [eN]
        intro i a hi
        obtain ⟨rr, g1, g2⟩ := eds i a hi
        rw [List.getElem?_map] at g1
        obtain ⟨u, hu, rfl⟩ := Option.map_eq_some_iff.mp g1
        have e2 := (List.getElem?_eq_some_iff.mp hu).2
        rw [List.getElem_range] at e2
        subst e2
        have ha := d1 a (by simp [List.mem_of_getElem? hi])
        exact f412.one (np1 a ha) (f4.one (nx1 a ha) g2)
      · rw [eN, ← rowZ_V]; exact f612.one (np1 rw w1) erw
    exact s_ret (v_var rfl) (by
      have z := k (N.ha evs h.swaps (h.turn : Int)) H12 fresh sm ⟨rfl, rfl⟩ Z
      have e : (N.ha evs h.swaps (h.turn : Int)).ad .house = A0.ad .house := by rw [eN]; rfl
      rw [e] at z; exact z)

end
/-! plain data; lists that grow and shrink -/
mutual
def plD : PyData → Bool
  | .none => true
  | .int _ => true
  | .str _ => true
  | .tuple xs => plAll xs
  | _ => false
def plAll : List PyData → Bool
  | [] => true
  | d :: ds => plD d && plAll ds
end
mutual
def szD : PyData → Nat
  | .tuple xs => 1 + szAll xs
  | _ => 1
def szAll : List PyData → Nat
  | [] => 0
  | d :: ds => szD d + szAll ds
end
theorem plAll_app {xs ys : List PyData} : plAll (xs ++ ys) = (plAll xs && plAll ys) := by
  induction xs with
  | nil => simp [plAll]
  | cons x xs ih => simp [plAll, ih, Bool.and_assoc]
theorem szAll_app {xs ys : List PyData} : szAll (xs ++ ys) = szAll xs + szAll ys := by
  induction xs with
  | nil => simp [szAll]
  | cons x xs ih => simp [szAll, ih]; omega
theorem sz_pos : ∀ d : PyData, 1 ≤ szD d := fun d => by cases d <;> simp [szD]
theorem len_sz : ∀ xs : List PyData, xs.length ≤ szAll xs
  | [] => Nat.le_refl _
  | d :: ds => by have := len_sz ds; have := sz_pos d; simp [szAll]; omega
theorem pl_map {α : Type} {f : α → PyData} : ∀ {xs : List α}, (∀ x ∈ xs, plD (f x) = true) → plAll (xs.map f) = true
  | [], _ => rfl
  | x :: xs, h => by
    rw [List.map_cons, plAll, h x List.mem_cons_self, pl_map fun y hy => h y (List.mem_cons_of_mem _ hy)]; rfl
theorem sz_map {α : Type} {f : α → PyData} {b : Nat} : ∀ {xs : List α}, (∀ x ∈ xs, szD (f x) ≤ b) → szAll (xs.map f) ≤ xs.length * b
  | [], _ => by simp [szAll]
  | x :: xs, h => by
    have i := sz_map (f := f) (b := b) (xs := xs) fun y hy => h y (List.mem_cons_of_mem _ hy)
    have j := h x List.mem_cons_self
    rw [List.map_cons, szAll, List.length_cons, Nat.add_mul]; omega
theorem pl_ints (ns : List Int) : plD (intsD ns) = true := pl_map fun _ _ => rfl
theorem sz_ints (ns : List Int) : szD (intsD ns) ≤ 1 + ns.length := by
  unfold intsD
  have := sz_map (f := PyData.int) (b := 1) (xs := ns) fun _ _ => Nat.le_refl _
  show 1 + szAll _ ≤ _; omega
theorem pl_ev (e : Ev) : plD (evD e) = true := by cases e <;> rfl
theorem sz_ev (e : Ev) : szD (evD e) ≤ 3 := by cases e <;> simp [evD, szD, szAll]
theorem pl_blocks (bs : List (List Int)) : plD (blocksD bs) = true := pl_map fun b _ => pl_ints b
theorem sz_blocks {bs : List (List Int)} {m : Nat} (h : ∀ b ∈ bs, b.length ≤ m) : szD (blocksD bs) ≤ 1 + bs.length * (1 + m) := by
  have := sz_map (f := intsD) (b := 1 + m) (xs := bs) fun b hb => Nat.le_trans (sz_ints b) (by have := h b hb; omega)
  show 1 + szAll _ ≤ _; omega
theorem pl_opt (g : Option Nat) : plD (optDs g) = true := by cases g <;> rfl
theorem sz_opt (g : Option Nat) : szD (optDs g) = 1 := by cases g <;> rfl
theorem pl_shot (P : Pn) : plD (shotD P) = true := by
  show plAll _ = true
  simp [plAll, pl_ints, pl_blocks, plD]
theorem sz_shot {P : Pn} (w : WfP P) : szD (shotD P) ≤ 200 + P.paper.length := by
  have h1 := sz_ints P.m.cells
  have h2 := sz_ints P.inbox
  have h3 := sz_ints P.outbox
  have h4 := sz_ints P.paper
  have h5 := sz_blocks (bs := P.blocks) (m := 16) fun b hb => by rw [(w.bkl b hb).1]; exact Nat.le_refl _
  have l1 := w.wm.len
  have l2 := w.ib
  have l3 := w.ob
  have l4 := w.bk
  show 1 + szAll _ ≤ _
  simp only [szAll, szD]
  omega
theorem pl_sav {n r : Nat} {h : Ho} : plD (savD n r h) = true := by
  have a : plAll ((List.range n).map fun u => shotD (pu h u)) = true := pl_map fun u _ => pl_shot _
  have b : plAll ((List.range n).map fun u => PyData.tuple ((dy h u).map evD)) = true := pl_map fun u _ => pl_map fun e _ => pl_ev e
  have c : plAll (h.guests.map optDs) = true := pl_map fun g _ => pl_opt g
  have d := pl_blocks (keptZ r h)
  have e := pl_blocks (shelfZ n h)
  have f := pl_opt h.runs
  have g := pl_ints (rowZ h.row)
  have i := pl_ints (clockZ h)
  simp [savD, roomsD, plD, plAll, a, b, c, d, e, f, g, i]
theorem kept_len {n r : Nat} {h : Ho} (w : WfH n r h) (i : Nat) : (keptC h i).length ≤ 64 := by
  unfold keptC
  split
  · rename_i u e
    exact Nat.le_of_eq (w.pw u (w.gu i u e)).1.wm.len
  · decide
theorem sz_sav {n r k : Nat} {h : Ho} (w : WfH n r h) (lm : Lm k h) (n8 : n ≤ 8) (r8 : r ≤ 8) (st : ∀ u, u < n → (shelfC h u).length ≤ 64) : szD (savD n r h) ≤ 10000 + 32 * k := by
  have a := sz_map (f := fun u => shotD (pu h u)) (b := 200 + k) (xs := List.range n) fun u hu => Nat.le_trans (sz_shot (w.pw u (List.mem_range.mp hu)).1) (by have := (lm u).1; omega)
  have b := sz_map (f := fun u => PyData.tuple ((dy h u).map evD)) (b := 1 + k * 3) (xs := List.range n) fun u _ => by
    have z := sz_map (f := evD) (b := 3) (xs := dy h u) fun e _ => sz_ev e
    have := (lm u).2
    show 1 + szAll _ ≤ _
    have := Nat.mul_le_mul_right 3 this
    omega
  have c := sz_map (f := optDs) (b := 1) (xs := h.guests) fun g _ => Nat.le_of_eq (sz_opt g)
  have d := sz_blocks (bs := keptZ r h) (m := 64) fun x hx => by
    unfold keptZ at hx
    obtain ⟨i, _, rfl⟩ := List.mem_map.mp hx
    exact kept_len w i
  have e := sz_blocks (bs := shelfZ n h) (m := 64) fun x hx => by
    unfold shelfZ at hx
    obtain ⟨i, hi, rfl⟩ := List.mem_map.mp hx
    exact st i (List.mem_range.mp hi)
  have f := sz_opt h.runs
  have g := sz_ints (rowZ h.row)
  have i := sz_ints (clockZ h)
  have rl := nd_le w.rd w.rb
  have l1 : (rowZ h.row).length = h.row.length := List.length_map ..
  have l2 : (clockZ h).length = 6 := rfl
  have l3 : (keptZ r h).length = r := by unfold keptZ; rw [List.length_map, List.length_range]
  have l4 : (shelfZ n h).length = n := by unfold shelfZ; rw [List.length_map, List.length_range]
  rw [List.length_range] at a b
  rw [w.lg] at c
  rw [l3] at d
  rw [l4] at e
  have m1 : n * (200 + k) ≤ 8 * (200 + k) := Nat.mul_le_mul_right _ n8
  have m2 : n * (1 + k * 3) ≤ 8 * (1 + k * 3) := Nat.mul_le_mul_right _ n8
  have m3 : r * (1 + 64) ≤ 8 * (1 + 64) := Nat.mul_le_mul_right _ r8
  have m4 : n * (1 + 64) ≤ 8 * (1 + 64) := Nat.mul_le_mul_right _ n8
  simp only [savD, roomsD, szD, szAll]
  omega
section
variable {K : PySem.W.Frag} {H H' H0 H1 : Hp} {F G F' : FS} {W V_ : Hp → Prop} {D : Addr} {ds es : List PyData} {d : PyData} {vs : List V} {v : V}
theorem Own.putAll (wo : Wo F W) (ow : Own K H0 F W D H ds) (hd : DaAll K H (withF F D) vs es) : Own K H0 F W D (upd H D (.lst vs)) es ∧ Mv (withF F D) H (withF F D) (upd H D (.lst vs)) := by
  obtain ⟨vs0, h1, h2⟩ := ow.ow
  have mU : Mv (withF F D) H (withF F D) (upd H D (.lst vs)) := ⟨fun b o nb e => by rw [upd_ne (fun q => nb (.inr q))]; exact e, fun _ f => .inl f⟩
  refine ⟨⟨ow.fr, ow.no, ⟨fun b o nb e => ?_, fun b f => .inl f⟩, ⟨fun b f => ?_, wo.loc _ _ (fun b o f e => by rw [upd_ne (fun q => ow.no (by rw [← q]; exact f))]; exact e) (.upd h1) ow.ok.w⟩, _, upd_same, hd.mv mU⟩, mU⟩
  · have nD : b ≠ D := fun q => by rw [q, ow.fr] at e; cases e
    rw [upd_ne nD]
    exact ow.mv.keep b o nb e
  · rw [upd_ne (fun q => ow.no (by rw [← q]; exact f))]
    exact ow.ok.fa b f
theorem daAll_split : ∀ {vs : List V} {ds : List PyData} {d : PyData}, DaAll K H F vs (ds ++ [d]) → ∃ us v, vs = us ++ [v] ∧ DaAll K H F us ds ∧ Da K H F v d
  | vs, [], d, h => by
    cases h with | cons h1 h2 =>
    cases h2
    exact ⟨[], _, rfl, .nil, h1⟩
  | vs, e :: ds, d, h => by
    cases h with | cons h1 h2 =>
    obtain ⟨us, v, rfl, a, b⟩ := daAll_split h2
    exact ⟨_ :: us, v, rfl, .cons h1 a, b⟩
theorem InW.more {c : CC} {n r : Nat} {A : HA} {h : Ho} (iw : InW c n r A h F W) (vo : Wo G V_) (dis : ∀ z, footH n r A z → ¬ G z) (no : ∀ H, V_ H → ∀ b, G b → NoTup H b) : InW c n r A h (orF F G) (fun H => W H ∧ V_ H) :=
  ⟨fun b f => .inl (iw.sub b f), fun _ w => iw.up _ w.1, fun H H' w a m => ⟨iw.back H H' w.1 a m, vo.loc H H' (fun b o f e => m.keep b o (fun k => dis b k f) e) ((iw.up H w.1).tps m) w.2⟩, fun H w b f => f.elim (iw.no H w.1 b) (no H w.2 b)⟩
theorem InW.more' {c : CC} {n r : Nat} {A : HA} {h : Ho} (wo : Wo F W) (no : ∀ H, W H → ∀ b, F b → NoTup H b) (dis : ∀ z, footH n r A z → ¬ F z) : InW c n r A h (orF F (footH n r A)) (fun H => W H ∧ HW c n r A h H) :=
  ⟨fun b f => .inr f, fun _ w => w.2, fun H H' w a m => ⟨wo.loc H H' (fun b o f e => m.keep b o (fun k => dis b k f) e) (w.2.tps m) w.1, a⟩, fun H w b f => f.elim (no H w.1 b) (w.2.noT b)⟩
end
section
variable {σ : L2.St} {H : Hp} {t : TT} {tb tz : TS} {N : L2.St → Hp → Prop} {R : VK} {B C' : L2.St → Hp → Prop}
theorem q_while (Wv : Nat → L2.St → Hp → Prop) (m : Nat) (w0 : Wv m σ H) (hs : ∀ m σ' H', Wv m σ' H' → ∃ b, Ans t σ' H' b ∧ (b = true → tb ⟨fun σ2 H2 => ∃ m', m' < m ∧ Wv m' σ2 H2, R, tz ⟨N, R, B, C'⟩, fun σ2 H2 => ∃ m', m' < m ∧ Wv m' σ2 H2⟩ σ' H') ∧ (b = false → tz ⟨N, R, B, C'⟩ σ' H')) : tSeq (tWhile t tb) tz ⟨N, R, B, C'⟩ σ H :=
  ⟨Wv, ⟨m, w0⟩, fun m σ' H' w => by
    obtain ⟨b, ha, h1, h2⟩ := hs m σ' H' w
    refine ha _ ?_
    cases b with
    | true => exact ⟨_, fun _ _ z => z, h1 rfl⟩
    | false => exact h2 rfl⟩
end
/-! the shelves' stale cells -/
def SL (h : Ho) : Prop := ∀ u, (h.stale.getD u []).length ≤ 64
section
variable {n r u k : Nat} {h : Ho} {e : Ev} {a : Act}
theorem getD_set_le {xs : List (List Int)} {i : Nat} {a : List Int} (h : ∀ u, (xs.getD u []).length ≤ 64) (ha : a.length ≤ 64) : ∀ u, ((xs.set i a).getD u []).length ≤ 64 := fun u => by
  rw [List.getD_eq_getElem?_getD]
  by_cases c : i = u
  · subst c
    by_cases l : i < xs.length
    · rw [List.getElem?_set_self l]; exact ha
    · rw [List.getElem?_eq_none (by rw [List.length_set]; omega)]; exact Nat.zero_le _
  · rw [List.getElem?_set_ne c, ← List.getD_eq_getElem?_getD]; exact h u
theorem cu_len (w : WfH n r h) (hu : u < n) : (cu h u).length ≤ 64 := Nat.le_of_eq (w.pw u hu).1.wm.len
theorem sl_enter (w : WfH n r h) (hu : u < n) (s : SL h) : SL (enterT h u) := by
  unfold enterT
  split
  · exact s
  · refine getD_set_le ?_ (cu_len w hu)
    unfold staleE
    split
    · rename_i v hv
      exact getD_set_le s (cu_len w (w.gu _ _ hv))
    · exact s
theorem sl_event (s : SL h) : SL (eventT h u e) := by unfold SL; rw [event_same.stale]; exact s
theorem sl_settle (w : WfH n r h) (s : SL h) : SL (settleT h) := by
  rcases runs_or h with hr | ⟨v, hr⟩
  · cases hw : h.row with
    | nil => rw [show settleT h = h by unfold settleT; rw [hr]; dsimp only; rw [hw]]; exact s
    | cons x t =>
      have hx : x < n := w.rb x (by rw [hw]; exact List.mem_cons_self)
      rw [show settleT h = enterT { h with runs := some x, row := t, left := h.quantum } x by unfold settleT; rw [hr]; dsimp only; rw [hw]]
      have e : ∀ v, cu { h with runs := some x, row := t, left := h.quantum } v = cu h v := fun _ => rfl
      unfold enterT
      split
      · exact s
      · refine getD_set_le ?_ (by rw [e]; exact cu_len w hx)
        unfold staleE
        split
        · rename_i v hv
          exact getD_set_le s (by rw [e]; exact cu_len w (w.gu _ _ hv))
        · exact s
  · rw [show settleT h = h by unfold settleT; rw [hr]]; exact s
theorem sl_tickN (s : SL h) : ∀ k, SL (tickN h k)
  | 0 => s
  | k + 1 => sl_event (sl_tickN s k)
theorem sl_turn (s : SL h) : SL (turnT h) := by
  rcases runs_or h with hr | ⟨v, hr⟩
  · rw [turn_none hr]; exact s
  · rw [turn_some hr]; split <;> exact s
theorem sl_step (w : WfH n r h) (s : SL h) : SL (stepT h) := by
  have s1 : SL (step1 h) := by
    rcases runs_or h with hr | ⟨v, hr⟩
    · rw [step1_none hr]; exact s
    · rw [step1_some hr]; exact sl_event (h := { h with steps := h.steps + 1 }) s
  have w1 := wf_step1 w
  unfold stepT step2
  split
  · exact sl_settle (wf_tick w1) (sl_turn (sl_tickN s1 _))
  · exact sl_settle w1 s1
theorem sl_run (w : WfH n r h) (s : SL h) : ∀ k, SL (runT h k)
  | 0 => s
  | k + 1 => sl_step (wf_runT w k) (sl_run w s k)
theorem sl_do (w : WfH n r h) (o : actOk n a) (s : SL h) : SL (doT h a) := by
  obtain ⟨ak, au, av⟩ := a
  obtain ⟨hu, hv⟩ := o
  cases ak with
  | start => exact sl_settle (wf_event w hu hv (fun z => by cases z)) (sl_event s)
  | key => exact sl_settle (wf_event w hu hv (fun z => by cases z)) (sl_event s)
  | load => exact s
  | switches => exact s
  | run => exact sl_run w s _
theorem sl_doN {as : List Act} (w : WfH n r h) (o : ∀ a ∈ as, actOk n a) (s : SL h) : ∀ i, SL (doN h as i)
  | 0 => s
  | i + 1 => by
    rcases hx : as[i]? with _ | a
    · show SL (match as[i]? with | some a => doT (doN h as i) a | none => doN h as i)
      rw [hx]; exact sl_doN w o s i
    · rw [doN_s hx]; exact sl_do (wf_doN w o i) (o a (List.mem_of_getElem? hx)) (sl_doN w o s i)
theorem sl_made {ns : List Int} {q b : Int} : ∀ i, SL (madeN ns (newH n r q b) i)
  | 0 => fun u => by
    show ((List.replicate n (List.replicate 64 (0 : Int))).getD u []).length ≤ 64
    rw [List.getD_eq_getElem?_getD, List.getElem?_replicate]
    split <;> simp
  | i + 1 => sl_made i
theorem sl_shelf (w : WfH n r h) (s : SL h) (hu : u < n) : (shelfC h u).length ≤ 64 := by
  unfold shelfC
  split
  · exact cu_len w hu
  · exact s u
end
theorem act_at {K : PySem.W.Frag} {H : Hp} {F : FS} {x : V} {act : Act} (hx : Da K H F x (actD act)) : ∃ a, x = .ref a ∧ SqT K H a [.str act.k.s, .int (act.u : Int), .int act.v] := by
  unfold actD at hx
  cases hx with | @tup xt xxs _ ht h2 =>
  have ex : xxs = [.str act.k.s, .int (act.u : Int), .int act.v] := by
    cases h2 with | cons z1 h2 => cases h2 with | cons z2 h2 => cases h2 with | cons z3 h2 => cases h2; cases z1; cases z2; cases z3; rfl
  subst ex
  exact ⟨_, rfl, ht.sq⟩
theorem sh_sav {n r : Nat} {h : Ho} (w : WfH n r h) : Sh 6 (savD n r h) := by
  have so : ∀ {m : Nat} (g : Option Nat), Sh m (optDs g) := fun g => by cases g; exact sh_non; exact sh_int
  have sb : ∀ (bs : List (List Int)), Sh 3 (blocksD bs) := fun bs => sh_tup (shA_map fun b _ => (sh_intsD (n := 1)))
  refine sh_tup (shA_cons (sh_tup (shA_map fun u hu => (sh_shot (w.pw u (List.mem_range.mp hu)).2).mono (by decide))) (shA_cons (sh_tup (shA_map fun u _ => sh_tup (shA_map fun e _ => sh_ev.mono (by decide)))) (shA_cons ?_ (shA_cons (so _) (shA_cons (sh_intsD (n := 0) |>.mono (by decide)) (shA_cons (sh_intsD (n := 0) |>.mono (by decide)) shA_nil))))))
  exact sh_tup (shA_cons (sh_tup (shA_map fun g _ => so g)) (shA_cons ((sb _).mono (by decide)) (shA_cons ((sb _).mono (by decide)) (shA_cons sh_int (shA_cons sh_int shA_nil)))))
def spPlain (K : PySem.W.Frag) : Sp := fun vs H Q _ => ∃ (F : FS) (W : Hp → Prop) (v : V) (ds : List PyData), vs = [v] ∧ Wo F W ∧ Ok F W H ∧ Da K H F v (.tuple ds) ∧ plAll ds = true ∧ szAll ds ≤ 400000 ∧ ∀ H', Mv F H F H' → Ok F W H' → Q (.bl true) H'
theorem dv_saved {K : PySem.W.Frag} {H : Hp} {F : FS} {W : Hp → Prop} {σ : L2.St} {te : TE} {n r : Nat} {A : HA} {h : Ho} (wo : Wo F W) (hv : ∀ H1, Mv F H F H1 → Ok F W H1 → Val te σ H1 (.ref (A.ad .house))) (iw : InW (CCk K) n r A h F W) (w : WfH n r h) (n8 : n ≤ 8) (r8 : r ≤ 8) : Dv K F W (tCall (spSaved (CCk K) K) [] E0 (tCons te tNil)) σ H (savD n r h) := fun H1 m1 o1 Q q =>
  x_call (va_cons (hv H1 m1 o1) va_nil) ⟨F, W, n, r, A, h, rfl, wo, o1, iw, w, n8, r8, fun v H' m o tl => q v H' m o tl.da⟩
theorem k_line0 {n : Nat} (h : n ≤ 900000) : n ≤ sizeLine := Nat.le_trans h (by rw [sizeLine_eq]; decide)
/-! all that is seen of a house (as in k25) -/
theorem da_opt {K : PySem.W.Frag} {H : Hp} {F : FS} {g : Option Nat} : Da K H F (gV g) (optD g) := by cases g with
  | none => exact .non
  | some i => exact .int _
def allU (h : Ho) (u : Nat) : PyData := .tuple [shotD (pu h u), .list ((dy h u).map evD), optD (roomH h u)]
def allC (h : Ho) : PyData := .tuple [optD h.runs, .list (intsL (h.row.map fun (u : Nat) => (u : Int))), .int h.left, .int h.steps, .int h.idle, .int h.ticks, .int h.swaps, .int (h.turn : Int)]
def allD (n : Nat) (h : Ho) : PyData := .tuple [.list ((List.range n).map (allU h)), allC h]
def preAll (K : PySem.W.Frag) (vs : List V) (H : Hp) (F : FS) (W : Hp → Prop) (d : PyData) : Prop := ∃ (n r : Nat) (A : HA) (h : Ho) (v : V) (r2 q b : Int), vs = [.ref (A.ad .house), v] ∧ Da K H F v (hallD n r2 q b) ∧ n ≤ 8 ∧ InW (CCk K) n r A h F W ∧ WfH n r h ∧ Syn A h ∧ d = allD n h
theorem sh_allD {n r : Nat} {h : Ho} (w : WfH n r h) : Sh 6 (allD n h) := by
  have so : ∀ {m : Nat} (g : Option Nat), Sh m (optD g) := fun g => by cases g; exact sh_non; exact sh_int
  refine sh_tup (shA_cons (sh_list (shA_map fun u hu => ?_)) (shA_cons (sh_tup (shA_cons (so _) (shA_cons (sh_list shA_ints) (shA_cons sh_int (shA_cons sh_int (shA_cons sh_int (shA_cons sh_int (shA_cons sh_int (shA_cons sh_int shA_nil))))))))) shA_nil))
  exact sh_tup (shA_cons (sh_shot (w.pw u (List.mem_range.mp hu)).2) (shA_cons (sh_list (shA_map fun e _ => sh_ev.mono (by decide))) (shA_cons (so _) shA_nil)))
theorem Tx.insHouse {K : PySem.W.Frag} {mg : Str → Option Value} (T : Tx K mg) : C8.InsC K (He.ga K "House") := by
  have h := T.more
  unfold Hd.exB at h
  have h0 := (He.ba h).1
  have h := (He.ba h).2
  have h1 := (He.ba h).1
  have h := (He.ba h).2
  have h2 := (He.ba h).1
  have h := (He.ba h).2
  have h3 := (He.ba h).1
  have h := (He.ba h).2
  have h4 := (He.ba h).1
  have h := (He.ba h).2
  exact ⟨T.cls 89, He.eqO_ok h0, He.eqO_ok h1, of_decide_eq_true h2, of_decide_eq_true h3, of_decide_eq_true h4⟩

section
variable {P : Program} {w : World} {K : PySem.W.Frag} {mg : Str → Option Value} {base : Heap}

theorem sc_law_all : FnScope ["_law_made_here", "_law_hall_here", "_law_users", "_law_clock", "_law_user"] ["_law_made_here", "_law_hall_here"] (defScope s_law_all) := ⟨rfl, rfl, rfl, by decide +kernel, rfl, by decide +kernel, by decide +kernel⟩
theorem cal_law_all (T : Tx K mg) : Cal P w K mg base 9 "_law_all" ["_law_made_here", "_law_hall_here"] (spDV K (preAll K)) := by
  refine cal_mk T 49 49 rfl rfl sc_law_all (fun _ _ _ _ _ _ us hl => match us, hl with | [_, _], _ => rfl) (fun vs H Q E h => ?_) (fun f cdv A outer s H vs Q E hr h => ?_)
  · obtain ⟨F, W, d, wo, ok, ⟨n, r, A, h, v, r2, q, b, rfl, hV, n8, iw, w, sy, rfl⟩, k⟩ := h
    rfl
  · obtain ⟨F, W, d, wo, ok, ⟨n, r, A, h, v, r2, q, b, rfl, hV, n8, iw, w, sy, rfl⟩, k⟩ := h
    have M := T.mt
    have U := T.pt
    have HT : HTx K (CCk K).h := T.ht
    have RT : RTx K (CCk K).r := T.rt
    refine ⟨_, (pss_cons (ps_setLc (i := 2) (own := [("_law_user", 4)]) (g := gName 4) (tt := tYes) rfl sc_law_all.nd rfl rfl (sw_true rfl rfl rfl (by decide +kernel)) (pi_range1 (by rfl) (T.free 53) (pa_cons (pe_ix ix_tup (pv 1) pe_int (fun _ _ => rfl)) pa_nil)) (blkOk_by (own := [("_law_user", 4)]) (N := ["_law_made_here", "_law_hall_here", "_law_users", "_law_clock", "_law_user"]) (sc := defScope s_law_all) (by decide +kernel)) (fun _ _ _ _ _ => pg_name (i := 4) sc_law_all.nd rfl (Or.inl rfl)) (fun _ _ _ _ _ => pts_nil) (fun _ _ _ _ _ => (pe_tup (pa_cons (pe_cal (cal_seen (K := K) T) hr (by decide) rfl (pa_cons (pv 0) (pa_cons (pv 4) pa_nil))) (pa_cons (pe_cal (cal_diary (K := K) T) hr (by decide) rfl (pa_cons (pv 0) (pa_cons (pv 4) pa_nil))) (pa_cons (pe_cal (cal_room_of (K := K) T) hr (by decide) rfl (pa_cons (pv 0) (pa_cons (pv 4) pa_nil))) pa_nil)))))) (pss_cons (ps_set (i := 3) sc_law_all.nd rfl (Or.inl rfl) (pe_tup (pa_cons (pe_fld (pv 0) rfl) (pa_cons (pe_callTy call_list_of (by rfl) (T.free 52) (by decide +kernel) (pa_cons (pe_fld (pv 0) rfl) pa_nil)) (pa_cons (pe_fld (pv 0) rfl) (pa_cons (pe_fld (pv 0) rfl) (pa_cons (pe_fld (pv 0) rfl) (pa_cons (pe_fld (pv 0) rfl) (pa_cons (pe_fld (pv 0) rfl) (pa_cons (pe_fld (pv 0) rfl) pa_nil)))))))))) (pss_one (ps_ret (pe_tup (pa_cons (pv 2) (pa_cons (pv 3) pa_nil))))))), ?_⟩
    unfold hallD at hV
    cases hV with | @tup vt xs _ ht hh2 =>
    have ex := hh2.ints (ns := [(n : Int), r2, q, b])
    subst ex
    have rl := nd_le w.rd w.rb
    have VF : ∀ H1, Ok F W H1 → ∃ A1, A1.ad = A.ad ∧ A1.hsw = h.swaps ∧ A1.htn = (h.turn : Int) ∧ HoAt (CCk K) n r H1 A1 h := fun H1 o1 => by
      obtain ⟨A1, ea, ed, e3, e4, x1⟩ := iw.up H1 o1.w
      exact ⟨A1, ea, e3.trans sy.sw, e4.trans sy.tn, x1⟩
    refine q_d (K := K) (d := .list ((List.range n).map (allU h))) ((dv_lcR (z := (n : Int)) (fun _ => true) (allU h) wo (fun H1 m1 _ => va_cons (v_ixT (v_var rfl) v_c (ht.mv m1).sq (by decide) rfl) va_nil) (by omega) (fun _ => rfl) (fun i H1 F1 W1 tn hi => ans_yes) (fun i H1 F1 W1 tn hi _ => dv_tup tn.wo (da_cons (dv_spW tn.wo (fun _ _ _ => va_cons (v_var rfl) (va_cons (v_var rfl) va_nil)) (fun _ _ _ => ⟨n, r, A, h, i, rfl, iw.tn tn, w, by omega, rfl⟩)) (da_cons (DvN.dv (dn_sp tn.wo (fun _ _ _ => va_cons (v_var rfl) (va_cons (v_var rfl) va_nil)) (fun _ _ _ => ⟨n, r, A, h, i, rfl, iw.tn tn, by omega, rfl⟩))) (da_cons (dv_spW tn.wo (fun _ _ _ => va_cons (v_var rfl) (va_cons (v_var rfl) va_nil)) (fun _ _ _ => ⟨n, r, A, h, i, rfl, iw.tn tn, by omega, rfl⟩)) da_nil))))).eq (by rw [fmD_all, Int.toNat_natCast])) ok (fun vU H1 m1 o1 hU => ?_)
    refine q_d (K := K) (d := allC h) (dv_tup wo (da_cons (dv_v (v := gV h.runs) (fun H2 m2 o2 => by obtain ⟨A1, ea, es, et, x1⟩ := VF H2 o2; exact vh_ (c := CCk K) HT x1 (v_var (by rw [ea]; rfl)) hl_runs) da_opt) (da_cons (dv_listO (ns := (h.row.map fun (u : Nat) => (u : Int)).map V.int) wo (fun H2 m2 o2 => by
      obtain ⟨A1, ea, es, et, x1⟩ := VF H2 o2
      have hrow := x1.at_ .row trivial
      have hrow : H2 (A1.ad .row) = some (.lst ((h.row.map fun (u : Nat) => (u : Int)).map V.int)) := by rw [List.map_map]; exact hrow
      exact ⟨A1.ad .row, vh_ (c := CCk K) HT x1 (v_var (by rw [ea]; rfl)) hl_row, .inl (SqL.of hrow), daAll_ints _⟩)) (da_cons (dv_i fun H2 m2 o2 => by obtain ⟨A1, ea, es, et, x1⟩ := VF H2 o2; exact vh_ (c := CCk K) HT x1 (v_var (by rw [ea]; rfl)) hl_left) (da_cons (dv_i fun H2 m2 o2 => by obtain ⟨A1, ea, es, et, x1⟩ := VF H2 o2; exact vh_ (c := CCk K) HT x1 (v_var (by rw [ea]; rfl)) hl_steps) (da_cons (dv_i fun H2 m2 o2 => by obtain ⟨A1, ea, es, et, x1⟩ := VF H2 o2; exact vh_ (c := CCk K) HT x1 (v_var (by rw [ea]; rfl)) hl_idle) (da_cons (dv_i fun H2 m2 o2 => by obtain ⟨A1, ea, es, et, x1⟩ := VF H2 o2; exact vh_ (c := CCk K) HT x1 (v_var (by rw [ea]; rfl)) hl_ticks) (da_cons (dv_i fun H2 m2 o2 => by obtain ⟨A1, ea, es, et, x1⟩ := VF H2 o2; rw [← es]; exact vh_ (c := CCk K) HT x1 (v_var (by rw [ea]; rfl)) hl_swaps) (da_cons (dv_i fun H2 m2 o2 => by obtain ⟨A1, ea, es, et, x1⟩ := VF H2 o2; rw [← et]; exact vh_ (c := CCk K) HT x1 (v_var (by rw [ea]; rfl)) hl_turn) da_nil))))))))) o1 (fun vC H2 m2 o2 hC => ?_)
    exact s_retD (K := K) (d := allD n h) (dv_tup wo (da_cons (dv_var rfl (hU.mv m2)) (da_cons (dv_var rfl hC) da_nil))) o2 (fun v H' m o hd => k v H' ((m1.trans m2).trans m) o hd)

theorem sc_law_plain : FnScope ["_law_told", "_law_left", "_law_one"] ["_law_told"] (defScope s_law_plain) := ⟨rfl, rfl, rfl, by decide +kernel, rfl, by decide +kernel, by decide +kernel⟩
theorem cal_law_plain (T : Tx K mg) : Cal P w K mg base 2 "_law_plain" ["_law_told"] (spPlain K) := by
  refine cal_mk T 48 48 rfl rfl sc_law_plain (fun _ _ _ _ _ _ us hl => match us, hl with | [_], _ => rfl) (fun vs H Q E h => ?_) (fun f cdv A outer s H vs Q E hr h => ?_)
  · obtain ⟨F, W, v, ds, rfl, wo, ok, hv, pl, sz, k⟩ := h
    rfl
  · obtain ⟨F, W, v, ds, rfl, wo, ok, hv, pl, sz, k⟩ := h
    have M := T.mt
    have U := T.pt
    have HT : HTx K (CCk K).h := T.ht
    have RT : RTx K (CCk K).r := T.rt
    refine ⟨_, (pss_cons (ps_set (i := 1) sc_law_plain.nd rfl (Or.inl rfl) (pe_lst (pa_cons (pv 0) pa_nil))) (pss_cons (ps_while PassesOwn.never (pt_truth (pv 1) (by intro _; rfl)) (pss_cons (ps_set (i := 2) sc_law_plain.nd rfl (Or.inl rfl) (pe_bm0 PySem.F.plainAttrs_list PySem.F.slot_list_pop PySem.F.type_list_pop mt_pop (pv 1))) (pss_one (ps_if (pt_val (pe_callB call_isi (by rfl) (T.free 55) (by decide +kernel) (pa_cons (pv 2) (pa_cons (pe_bltn (v := .ty "tuple") (by rfl) (T.free 54) (by decide +kernel) rfl) pa_nil)))) (pss_one (ps_expr (pe_bm PySem.F.plainAttrs_list PySem.F.slot_list_extend PySem.F.type_list_extend mt_extT (pv 1) (pa_cons (pv 2) pa_nil)))) (pss_one (ps_if (PW.pt (pw_and (pt_cmpR op_notN1 (pv 2) pe_non (nomark _)) (pw_and (pt_not (pt_val (pe_callB call_isi (by rfl) (T.free 55) (by decide +kernel) (pa_cons (pv 2) (pa_cons (pe_bltn (v := .ty "str") (by rfl) (T.free 57) (by decide +kernel) rfl) pa_nil))))) (pw_and1 (pt_not (pt_val (pe_cal (cal_law_whole (K := K) T) hr (by decide) rfl (pa_cons (pv 2) pa_nil)))))))) (pss_one (ps_ret pe_bl)) pss_nil)))))) (pss_one (ps_ret (pe_callB call_isi (by rfl) (T.free 55) (by decide +kernel) (pa_cons (pv 0) (pa_cons (pe_bltn (v := .ty "tuple") (by rfl) (T.free 54) (by decide +kernel) rfl) pa_nil))))))), ?_⟩
    refine q_dn' (K := K) (ds := [.tuple ds]) (dn_lst wo (da_cons (dv_var rfl hv) da_nil)) ok .refl (fun L H1 hL ow m1 => ?_)
    refine q_while (fun m σ' H' => ∃ es y, Own K H F W L H' es ∧ plAll es = true ∧ szAll es ≤ m ∧ m ≤ 400001 ∧ σ' = [some v, some (.ref L), y]) (szAll [PyData.tuple ds]) ⟨_, _, ow, by rw [plAll, plD, pl]; rfl, Nat.le_refl _, by simp only [szAll, szD]; omega, rfl⟩ (fun m σ' H' pv => ?_)
    obtain ⟨es, y, ow, pe, se, me, rfl⟩ := pv
    obtain ⟨vs, g1, g2⟩ := ow.ow
    rcases List.eq_nil_or_concat es with e0 | ⟨es', d, rfl⟩
    · subst e0
      cases g2
      refine ⟨false, a_tru (v_var rfl) (.inl ⟨_, SqL.of g1, rfl⟩), fun z => (by cases z), fun _ => ?_⟩
      obtain ⟨t, xs, rfl, ht⟩ : ∃ t xs, v = .ref t ∧ SqT K H t xs := by cases hv with | tup h1 h2 => exact ⟨_, _, rfl, h1.sq⟩
      have hv' := hv.mv ow.mv
      obtain ⟨t', xs', e, ht'⟩ : ∃ t' xs', V.ref t = .ref t' ∧ SqT K H' t' xs' := by cases hv' with | tup h1 h2 => exact ⟨_, _, rfl, h1.sq⟩
      cases e
      exact s_ret (v_isiL v_c (isi_T (v_var rfl) ht')) (k H' ow.mv ow.ok)
    · rw [List.concat_eq_append] at g2 pe se ow
      obtain ⟨us, w, rfl, gu, gw⟩ := daAll_split g2
      refine ⟨true, a_tru (v_var rfl) (.inl ⟨_, SqL.of g1, by cases us <;> rfl⟩), fun _ => ?_, fun z => (by cases z)⟩
      rw [plAll_app] at pe
      simp only [plAll, Bool.and_true, Bool.and_eq_true] at pe
      obtain ⟨p1, p2⟩ := pe
      rw [szAll_app] at se
      simp only [szAll, Nat.add_zero] at se
      have sp := sz_pos d
      have ul := gu.len
      have el := len_sz es'
      refine qx_set (v_var rfl _ ⟨ty_list g1, L, us ++ [w], w, rfl, rfl, g1, by rw [List.length_append]; simp, ?_⟩)
      rw [show (us ++ [w]).dropLast = us by simp]
      obtain ⟨ow2, mU⟩ := ow.putAll wo gu
      have gw2 := gw.mv mU
      generalize upd H' L (.lst us) = H2 at ow2 gw2 ⊢
      clear ow mU g1 g2 gu gw
      cases d with
      | none =>
        cases gw2
        refine s_ifF (a_B (v_isiL (b := false) v_c ⟨_, "NoneType", v_var rfl, .base (.non), kit_ty (by decide +kernel)⟩)) rfl ?_
        refine s_ifF0 (a_and (b := false) (c := true) (a_t (v_eqv (v_notN (v_var rfl) v_c) (by rfl))) (fun z => by cases z)) rfl ⟨_, by omega, es', _, ow2, p1, Nat.le_refl _, by omega, rfl⟩
      | int i =>
        cases gw2
        refine s_ifF (a_B (v_isiL (b := false) v_c ⟨_, "int", v_var rfl, .base (.int _), kit_ty (by decide +kernel)⟩)) rfl ?_
        refine s_ifF0 (a_and (a_t (v_notN (v_var rfl) v_c)) (fun _ => a_and (a_not (a_B (v_isiL (b := false) v_c ⟨_, "int", v_var rfl, .base (.int _), kit_ty (by decide +kernel)⟩))) (fun _ => a_not (a_B (v_call (va_cons (v_var rfl) va_nil) (fun _ q => ⟨i, rfl, q⟩)))))) (by simp) ⟨_, by omega, es', _, ow2, p1, Nat.le_refl _, by omega, rfl⟩
      | str s =>
        cases gw2
        refine s_ifF (a_B (v_isiL (b := false) v_c ⟨_, "str", v_var rfl, .base (.str _), kit_ty (by decide +kernel)⟩)) rfl ?_
        refine s_ifF0 (a_and (c := false) (a_t (v_notN (v_var rfl) v_c)) (fun _ => a_and (c := true) (a_not (a_B (v_isiL v_c (isi_str (v_var rfl))))) (fun z => by cases z))) rfl ⟨_, by omega, es', _, ow2, p1, Nat.le_refl _, by omega, rfl⟩
      | tuple xs =>
        cases gw2 with | @tup t zs _ h1 h2 =>
        have zl := h2.len
        have xl := len_sz xs
        simp only [plD] at p2
        simp only [szD] at se
        refine s_ifT (a_B (v_isiL v_c (isi_T (v_var rfl) h1.sq))) rfl ?_
        obtain ⟨vs2, g3, g4⟩ := ow2.ow
        have vl := g4.len
        refine sx_drop (v_var rfl _ ⟨ty_list g3, va_cons (v_var rfl) va_nil _ ⟨L, t, vs2, zs, rfl, rfl, g3, h1.sq, k_line0 (by omega), ?_⟩⟩)
        obtain ⟨ow3, _⟩ := ow2.putAll wo (g4.app h2)
        exact ⟨szAll es' + szAll xs, by omega, es' ++ xs, _, ow3, by rw [plAll_app, p1, p2]; rfl, by rw [szAll_app]; exact Nat.le_refl _, by omega, rfl⟩
      | _ => simp [plD] at p2

end

section
variable {P : Program} {w : World} {K : PySem.W.Frag} {mg : Str → Option Value} {base : Heap}

theorem sc_law : FnScope ["_law_script", "_law_hall_here", "_law_made_here", "_law_acts_here", "_law_cut", "_law_act", "_law_told", "_law_other"] ["_law_script"] (defScope s_law) := ⟨rfl, rfl, rfl, by decide +kernel, rfl, by decide +kernel, by decide +kernel⟩
theorem law_ok (T : Tx K mg) {f : Addr} {fd : FuncData} (F : FunD K "law" "law" (defArgs s_law) (defBody s_law) (defScope s_law) [] [] f fd) : FnOk P w K mg base CX0 11 f fd ["_law_script"] (spLaw K) := by
  refine F.ok sc_law (fun vs H Q E h => ?_) (fun cdv A outer s H vs Q E hr h => ?_)
  · obtain ⟨a, ns, rfl, _⟩ := h
    rfl
  · obtain ⟨a, ns, rfl, hS, hlen, k⟩ := h
    have M := T.mt
    have U := T.pt
    have HT : HTx K (CCk K).h := T.ht
    have RT : RTx K (CCk K).r := T.rt
    refine ⟨_, PSs.nox (pss_cons (ps_set (i := 1) sc_law.nd rfl (Or.inl rfl) (pe_cal (cal_law_hall (K := K) T) hr (by decide) rfl (pa_cons (pv 0) pa_nil))) (pss_cons (ps_set (i := 2) sc_law.nd rfl (Or.inl rfl) (pe_cal (cal_law_made (K := K) T) hr (by decide) rfl (pa_cons (pv 1) (pa_cons (pv 0) pa_nil)))) (pss_cons (ps_set (i := 3) sc_law.nd rfl (Or.inl rfl) (pe_cal (cal_law_acts (K := K) T) hr (by decide) rfl (pa_cons (pv 1) (pa_cons (pv 0) pa_nil)))) (pss_cons (ps_set (i := 4) sc_law.nd rfl (Or.inl rfl) (pe_cal (cal_law_mix (K := K) T) hr (by decide) rfl (pa_cons (pe_cal (cal_law_cell (K := K) T) hr (by decide) rfl (pa_cons (pv 0) (pa_cons pe_int pa_nil))) (pa_cons pe_int (pa_cons (pe_op op_add (pe_callB call_len_seq (by rfl) (T.free 51) PySem.boot_len (pa_cons (pv 3) pa_nil)) pe_int) pa_nil))))) (pss_cons (ps_for PassesOwn.never rfl (pi_list (pe_slice sl_list (pv 3) po_none (po_some (pv 4)))) (pg_name (i := 5) sc_law.nd rfl (Or.inl rfl)) (pss_one (ps_expr (pe_cal (cal_law_do (K := K) T) hr (by decide) rfl (pa_cons (pv 2) (pa_cons (pv 5) pa_nil)))))) (pss_cons (ps_set (i := 6) sc_law.nd rfl (Or.inl rfl) (pe_cal (cal_saved (K := K) T) hr (by decide) rfl (pa_cons (pv 2) pa_nil))) (pss_cons (ps_set (i := 7) sc_law.nd rfl (Or.inl rfl) (pe_cal (cal_taken (K := K) T) hr (by decide) rfl (pa_cons (pv 6) pa_nil))) (pss_cons (ps_if (PW.pt (pw_or (pt_not (pt_val (pe_cal (cal_law_plain (K := K) T) hr (by decide) rfl (pa_cons (pv 6) pa_nil)))) (pw_or (pt_cmpR (op_neD hr.units) (pe_cal (cal_saved (K := K) T) hr (by decide) rfl (pa_cons (pv 7) pa_nil)) (pv 6) (nomark _)) (pw_or1 (pt_not (pt_val (pe_callB (C8.call_isC (T.insHouse)) (by rfl) (T.free 55) (by decide +kernel) (pa_cons (pv 7) (pa_cons (pe_glob (v := .ref (He.ga K "House")) (by rfl) (T.glo 88) rfl) pa_nil))))))))) (pss_one (ps_ret pe_bl)) pss_nil) (pss_cons (ps_for PassesOwn.never rfl (pi_list (pe_slice sl_list (pv 3) (po_some (pv 4)) po_none)) (pg_name (i := 5) sc_law.nd rfl (Or.inl rfl)) (pss_one (ps_expr (pe_cal (cal_law_do (K := K) T) hr (by decide) rfl (pa_cons (pv 7) (pa_cons (pv 5) pa_nil)))))) (pss_cons (ps_if (pt_cmpR (op_neD hr.units) (pe_cal (cal_law_all (K := K) T) hr (by decide) rfl (pa_cons (pe_cal (cal_taken (K := K) T) hr (by decide) rfl (pa_cons (pv 6) pa_nil)) (pa_cons (pv 1) pa_nil))) (pe_cal (cal_law_all (K := K) T) hr (by decide) rfl (pa_cons (pv 2) (pa_cons (pv 1) pa_nil))) (nomark _)) (pss_one (ps_ret pe_bl)) pss_nil) (pss_cons (ps_for PassesOwn.never rfl (pi_list (pe_slice sl_list (pv 3) (po_some (pv 4)) po_none)) (pg_name (i := 5) sc_law.nd rfl (Or.inl rfl)) (pss_one (ps_expr (pe_cal (cal_law_do (K := K) T) hr (by decide) rfl (pa_cons (pv 2) (pa_cons (pv 5) pa_nil)))))) (pss_cons (ps_expr (pe_cal (cal_run (K := K) T) hr (by decide) rfl (pa_cons (pv 2) (pa_cons pe_int pa_nil)))) (pss_cons (ps_expr (pe_cal (cal_run (K := K) T) hr (by decide) rfl (pa_cons (pv 7) (pa_cons pe_int pa_nil)))) (pss_one (ps_ret (pe_and (pe_cmpR (op_eqD hr.units) (pe_cal (cal_law_all (K := K) T) hr (by decide) rfl (pa_cons (pv 7) (pa_cons (pv 1) pa_nil))) (pe_cal (cal_law_all (K := K) T) hr (by decide) rfl (pa_cons (pv 2) (pa_cons (pv 1) pa_nil))) (nomark _)) (pe_one (pe_cmpR (op_eqD hr.units) (pe_cal (cal_saved (K := K) T) hr (by decide) rfl (pa_cons (pv 7) pa_nil)) (pe_cal (cal_saved (K := K) T) hr (by decide) rfl (pa_cons (pv 2) pa_nil)) (nomark _))))))))))))))))))), ?_⟩
    have hS := SF.of hS
    have ok : Ok noF wT H := ⟨FA.none, trivial⟩
    refine q_d (K := K) (d := hallD (hN ns) (hR ns) (hQ ns) (hB ns)) (dv_spW woT (fun _ _ _ => va_cons (v_var rfl) va_nil) (fun H1 m1 _ => ⟨a, ns, rfl, hS.mv m1, hlen, rfl⟩)) ok (fun vH H1 m1 o1 hV => ?_)
    replace hS := hS.mv m1
    have bN := hN_in ns
    have bR := hR_in ns
    have bQ := hQ_in ns
    have bB := hB_in ns
    obtain ⟨n, en⟩ : ∃ n : Nat, (n : Int) = hN ns := ⟨(hN ns).toNat, Int.toNat_of_nonneg (by omega)⟩
    obtain ⟨r, er⟩ : ∃ r : Nat, (r : Int) = hR ns := ⟨(hR ns).toNat, Int.toNat_of_nonneg (by omega)⟩
    rw [← en, ← er] at hV
    rw [← en] at bN bR
    rw [← er] at bR
    generalize hQ ns = q at hV bQ
    generalize hB ns = b at hV bB
    have n8 : n ≤ 8 := by omega
    have r8 : r ≤ 8 := by omega
    refine qx_set (x_call (va_cons (v_var rfl) (va_cons (v_var rfl) va_nil)) ⟨noF, wT, vH, a, ns, n, r, q, b, rfl, woT, o1, hV, hS, by omega, n8, by omega, by omega, by omega, by omega, fun A H2 sy x2 m2 fa2 _ fr => ?_⟩)
    replace m2 : Mv noF H1 (footH n r A) H2 := m2.trans (.less fun b f => .inr f)
    replace hS := hS.mv m2
    replace hV := hV.mv m2
    have w0 : WfH n r (madeT ns n r q b) := wf_madeN (wf_newH (by omega) bQ.1 bB.1) ns n (Nat.le_refl _)
    have l0 : Lm 0 (madeT ns n r q b) := lm_madeN Lm.new ns n
    have sl0 : SL (madeT ns n r q b) := sl_made n
    generalize madeT ns n r q b = h0 at x2 sy w0 l0 sl0
    refine qx_set (x_dn (K := K) (dn_sp (W := HW (CCk K) n r A h0) (F := footH n r A) woH (fun _ _ _ => va_cons (v_var rfl) (va_cons (v_var rfl) va_nil)) (fun H4 m4 _ => ⟨vH, a, ns, n, r, q, b, rfl, hV.mv m4, hS.mv m4, hlen, by omega, n8, rfl⟩)) (okH x2) .refl (fun Dl H4 ow m4 => ?_))
    have aok := actsV_ok (ns := ns) (n := n) (by omega)
    have alen := actsV_len (ns := ns) n8
    generalize actsV ns n = as at ow aok alen
    replace hV := hV.mv m4
    replace hS := hS.mv m4
    have hE0 : Da K H4 (footH n r A) (.ref Dl) (.list (as.map actD)) := ow.da
    have o4 := ow.ok
    clear ow x2
    have c0 := mixV_lo (c := cellAt ns 10) (p := 9851) (m := ((as.map actD).length : Int) + 1) (by omega)
    have c1 := mixV_hi (c := cellAt ns 10) (p := 9851) (m := ((as.map actD).length : Int) + 1) (by omega)
    obtain ⟨j, ej⟩ : ∃ j : Nat, (j : Int) = mixV (cellAt ns 10) 9851 (((as.map actD).length : Int) + 1) := ⟨_, Int.toNat_of_nonneg c0⟩
    refine q_set (v_eqv (v_call (va_cons (v_call (va_cons (v_var rfl) (va_cons v_c va_nil)) (fun _ q => ⟨_, _, _, rfl, hS.sq, by decide, q⟩)) (va_cons v_c (va_cons (v_add (v_lenD hE0 (v_var rfl)) v_c) va_nil))) (fun _ q => ⟨_, _, _, rfl, by decide, by omega, q⟩)) (congrArg V.int ej.symm)) ?_
    clear c0 c1 ej hS
    refine qx_forL (x_d (K := K) (d := .list ((as.take j).map actD)) ((dv_slLt j woH (dv_var rfl hE0) (pt_s fun _ _ _ => v_var rfl)).eq (by rw [List.map_take])) o4 (fun vE H5 m5 o5 hE => ?_))
    replace hV := hV.mv m5
    replace hE0 := hE0.mv m5
    have bok : ∀ a ∈ as.take j, actOk n a := fun a ha => aok a (List.mem_of_mem_take ha)
    have cok : ∀ a ∈ as.drop j, actOk n a := fun a ha => aok a (List.mem_of_mem_drop ha)
    have blen : (as.take j).length ≤ 24 := by rw [List.length_take]; omega
    have clen : (as.drop j).length ≤ 24 := by rw [List.length_drop]; omega
    obtain ⟨A5, ea5, _, e35, e45, x5⟩ := o5.w
    have eh5 : A.ad .house = A5.ad .house := by rw [ea5]
    have sy5 : Syn A5 h0 := ⟨e35.trans sy.sw, e45.trans sy.tn⟩
    rw [← foot_eq (n := n) (r := r) ea5] at hE hV hE0
    cases hE with | @lst E1 xs _ hE1 hE2 =>
    rw [eh5]
    refine q_forL v_c (SqL.of hE1.at_) (fun i σ' H' => ∃ A' y, A'.ad .house = A5.ad .house ∧ Syn A' (doN h0 (as.take j) i) ∧ HoAt (CCk K) n r H' A' (doN h0 (as.take j) i) ∧ Mv (footH n r A5) H5 (footH n r A') H' ∧ σ' = [some (.ref a), some vH, some (.ref (A5.ad .house)), some (.ref Dl), some (.int (j : Int)), y, none, none]) ⟨A5, _, rfl, sy5, x5, .refl, rfl⟩ (fun i σ' H' pv => ?_) (fun (i : Nat) x σ' H' hx pv => ?_) (fun σ' H' pv => ?_)
    · obtain ⟨_, _, _, _, _, m, _⟩ := pv
      exact SqL.of (hE1.mv m).at_
    · obtain ⟨A', y, eA, sA, xA, mA, rfl⟩ := pv
      obtain ⟨d, hd, hxd⟩ := (hE2.mv mA).getV i hx
      rw [List.getElem?_map] at hd
      obtain ⟨act, hact, rfl⟩ := Option.map_eq_some_iff.mp hd
      have hil := (List.getElem?_eq_some_iff.mp hact).1
      have wi := wf_doN w0 bok i
      have li := lm_doN l0 w0 bok n8 i
      have oa := bok _ (List.mem_of_getElem? hact)
      rw [← eA]
      refine s_do (va_cons (v_var rfl) (va_cons (v_var rfl) va_nil)) ⟨_, n, r, A', doN h0 (as.take j) i, _, _, act, rfl, hxd, xA, wi, li, by omega, n8, sA, oa, fun A6 H6 e6 s6 x6 m6 => ?_⟩
      rw [← doN_s hact] at s6 x6
      exact ⟨A6, _, by rw [e6, eA], s6, x6, mA.trans m6, by rw [eA]; rfl⟩
    obtain ⟨A', y, eA, sA, xA, mA, rfl⟩ := pv
    have hl : xs.length = (as.take j).length := by rw [hE2.len, List.length_map]
    rw [hl] at sA xA
    have w1 := wf_doN w0 bok (as.take j).length
    have l1 : Lm 1944 (doN h0 (as.take j) (as.take j).length) := (lm_doN l0 w0 bok n8 (as.take j).length).mono (by omega)
    have sl1 := sl_doN w0 bok sl0 (as.take j).length
    replace hV := hV.mv mA
    replace hE0 := hE0.mv mA
    generalize doN h0 (as.take j) (as.take j).length = h1 at sA xA w1 l1 sl1
    clear hE1 hE2 hl w0 l0 sl0 bok x5 sy5
    rw [← eA]
    refine qx_set (x_call (va_cons (v_var rfl) va_nil) ⟨footH n r A', HW (CCk K) n r A' h1, n, r, A', h1, rfl, woH, okH xA, inW1, w1, n8, r8, fun vT H6 m6 o6 tl => ?_⟩)
    replace hV := hV.mv m6
    replace hE0 := hE0.mv m6
    obtain ⟨A6, ea6, _, e36, e46, x6⟩ := o6.w
    have eh6 : A'.ad .house = A6.ad .house := by rw [ea6]
    have sy6 : Syn A6 h1 := ⟨e36.trans sA.sw, e46.trans sA.tn⟩
    rw [← foot_eq (n := n) (r := r) ea6] at tl hV hE0
    rw [eh6]
    clear xA o6 m6 m5 o5 m4 o4
    have dle : ∀ u, u < n → (dy h1 u).length ≤ 90000 := fun u _ => Nat.le_trans (l1 u).2 (by decide)
    refine qx_set (x_call (va_cons (v_var rfl) va_nil) ⟨footH n r A6, vT, n, r, h1, rfl, tl, w1, n8, r8, dle, fun B H7 frB s7 syB y7 => ?_⟩)
    have T7 : Two (CCk K) n r A6 h1 r B h1 H7 := ⟨x6.same s7, y7, sy6, syB, fun z f g => x6.fa z f (frB z g)⟩
    have m7 : Mv (footH n r A6) H6 (orF (footH n r A6) (footH n r B)) H7 := ⟨fun z o _ e => s7 _ _ e, fun z f => f.imp id (frB z)⟩
    replace tl := tl.mv m7
    replace hV := hV.mv m7
    replace hE0 := hE0.mv m7
    clear frB s7 y7 syB x6 m7
    have szb : szD (savD n r h1) ≤ 10000 + 32 * 1944 := sz_sav w1 l1 n8 r8 fun u hu => sl_shelf w1 sl1 hu
    refine qx_if (x_or (x_not (x_test' (x_call (va_cons (v_var rfl) va_nil) ⟨(orF (footH n r A6) (footH n r B)), W2 (CCk K) n r A6 h1 n r B h1, vT, _, rfl, wo2, ok2 T7.x T7.y, tl.da, pl_sav, (by have : 1 + szAll _ ≤ 10000 + 32 * 1944 := szb; omega), fun H8 m8 o8 => ⟨true, rfl, ?_⟩⟩))))
    rw [show (!true) = false from rfl, if_neg Bool.false_ne_true]
    replace tl := tl.mv m8
    refine x_or (x_test (x_neS (K := K) o8 (dv_saved (A := B) wo2 (fun _ _ _ => v_var rfl) (inW_r T7.dis) w1 n8 r8) (dv_var rfl tl.da) (sh_sav w1) (fun H9 m9 o9 => ⟨false, rfl, ?_⟩)))
    rw [if_neg Bool.false_ne_true]
    have hB9 : ∃ dx fs, H9 (B.ad .house) = some (.ins (He.ga K "House") dx fs) := by
      obtain ⟨B9, b9, _, _, _, y9⟩ := o9.w.2
      have z := y9.at_ .house trivial
      rw [b9] at z
      exact ⟨_, _, z⟩
    obtain ⟨dxB, fsB, hB9⟩ := hB9
    refine x_ans (a_not (a_B (v_cb (va_cons (v_var rfl) (va_cons v_c va_nil)) (fun _ q => ⟨_, _, _, rfl, hB9, q⟩)))) ?_
    rw [show (!true) = false from rfl, if_neg Bool.false_ne_true]
    refine s_next ?_
    replace tl := tl.mv m9
    replace hV := (hV.mv m8).mv m9
    replace hE0 := (hE0.mv m8).mv m9
    refine qx_forL (x_d (K := K) (d := .list ((as.drop j).map actD)) ((dv_slLf j wo2 (dv_var rfl hE0) (pt_s fun _ _ _ => v_var rfl)).eq (by rw [List.map_drop])) o9 (fun vE H10 m10 o10 hE => ?_))
    replace tl := tl.mv m10
    replace hV := hV.mv m10
    replace hE0 := hE0.mv m10
    obtain ⟨A10, B10, a10, b10, T10⟩ := T7.of o10.w
    have ef10 : (orF (footH n r A6) (footH n r B)) = (orF (footH n r A10) (footH n r B10)) := by rw [foot_eq a10, foot_eq b10]
    rw [ef10] at tl hV hE0 hE
    rw [show A6.ad .house = A10.ad .house by rw [a10], show B.ad .house = B10.ad .house by rw [b10]]
    clear T7 m8 o8 m9 o9 m10 o10 hB9 ef10
    cases hE with | @lst E2 xs2 _ hE1 hE2 =>
    refine q_forL v_c (SqL.of hE1.at_) (fun i σ' H' => ∃ B' y, B'.ad .house = B10.ad .house ∧ Two (CCk K) n r A10 h1 r B' (doN h1 (as.drop j) i) H' ∧ Mv (orF (footH n r A10) (footH n r B10)) H10 (orF (footH n r A10) (footH n r B')) H' ∧ σ' = [some (.ref a), some vH, some (.ref (A10.ad .house)), some (.ref Dl), some (.int (j : Int)), y, some vT, some (.ref (B10.ad .house))]) ⟨B10, _, rfl, T10, .refl, rfl⟩ (fun i σ' H' pv => ?_) (fun (i : Nat) x σ' H' hx pv => ?_) (fun σ' H' pv => ?_)
    · obtain ⟨_, _, _, _, m, _⟩ := pv
      exact SqL.of (hE1.mv m).at_
    · obtain ⟨B', y, eB, Ti, mB, rfl⟩ := pv
      obtain ⟨d, hd, hxd⟩ := (hE2.mv mB).getV i hx
      rw [List.getElem?_map] at hd
      obtain ⟨act, hact, rfl⟩ := Option.map_eq_some_iff.mp hd
      have hil := (List.getElem?_eq_some_iff.mp hact).1
      have wi := wf_doN w1 cok i
      have li := lm_doN l1 w1 cok n8 i
      have oa := cok _ (List.mem_of_getElem? hact)
      rw [← eB]
      refine s_do (va_cons (v_var rfl) (va_cons (v_var rfl) va_nil)) ⟨_, n, r, B', doN h1 (as.drop j) i, _, _, act, rfl, hxd, Ti.y, wi, li, by omega, n8, Ti.sy, oa, fun B7 H7 e7 s7 y7 m7 => ?_⟩
      obtain ⟨T7, m47⟩ := Ti.second s7 y7 m7
      rw [← doN_s hact] at T7
      exact ⟨B7, _, by rw [e7, eB], T7, mB.trans m47, by rw [eB]; rfl⟩
    obtain ⟨B', y, eB, Ti, mB, rfl⟩ := pv
    have hl : xs2.length = (as.drop j).length := by rw [hE2.len, List.length_map]
    rw [hl] at Ti
    have w2 := wf_doN w1 cok (as.drop j).length
    have l2 := (lm_doN l1 w1 cok n8 (as.drop j).length).mono (k2 := 4000) (by omega)
    replace tl := tl.mv mB
    replace hV := hV.mv mB
    replace hE0 := hE0.mv mB
    clear T10 mB hE1 hE2 hl
    rw [← eB]
    obtain ⟨h2, eh2⟩ : ∃ h2, h2 = doN h1 (as.drop j) (as.drop j).length := ⟨_, rfl⟩
    rw [← eh2] at Ti w2 l2
    refine qx_if (x_test (x_op (xc (xa_cons (x_call (va_cons (v_var rfl) va_nil) ⟨(orF (footH n r A10) (footH n r B')), vT, n, r, h1, rfl, tl, w1, n8, r8, dle, fun C H12 frC s12 syC z12 => ?_⟩)))))
    have O11 := ok2 Ti.x Ti.y
    have O12 := O11.same wo2 s12
    have disC : ∀ z, footH n r C z → ¬ (orF (footH n r A10) (footH n r B')) z := fun z f g => O11.fa z g (frC z f)
    have wo3 : Wo (orF (orF (footH n r A10) (footH n r B')) (footH n r C)) (fun H => W2 (CCk K) n r A10 h1 n r B' h2 H ∧ HW (CCk K) n r C h1 H) := (wo2.up fun _ => .inl).and (woH.up fun _ => .inr)
    have m12 : Mv (orF (footH n r A10) (footH n r B')) H' (orF (orF (footH n r A10) (footH n r B')) (footH n r C)) H12 := ⟨fun z o _ e => s12 _ _ e, fun z f => f.imp id (frC z)⟩
    have no2 : ∀ H, W2 (CCk K) n r A10 h1 n r B' h2 H → ∀ b, (orF (footH n r A10) (footH n r B')) b → NoTup H b := (inW_l Ti.dis).no
    have iwC : InW (CCk K) n r C h1 (orF (orF (footH n r A10) (footH n r B')) (footH n r C)) (fun H => W2 (CCk K) n r A10 h1 n r B' h2 H ∧ HW (CCk K) n r C h1 H) := InW.more' wo2 no2 disC
    have iwA : InW (CCk K) n r A10 h1 (orF (orF (footH n r A10) (footH n r B')) (footH n r C)) (fun H => W2 (CCk K) n r A10 h1 n r B' h2 H ∧ HW (CCk K) n r C h1 H) := (inW_l Ti.dis).more woH (fun z f g => Ti.x.fa z f (frC z g)) (fun H w => w.noT)
    have hV12 := hV.mv m12
    refine (va_cons (v_var rfl) va_nil) _ ⟨_, _, allD n h1, wo3, ⟨O12.fa.or z12.fa, O12.w, z12.hw⟩, ⟨n, r, C, h1, vH, r, q, b, rfl, hV12, n8, iwC, w1, syC, rfl⟩, fun v1 H13 m13 o13 h13 => ?_⟩
    have hV13 := hV12.mv m13
    refine x_d (K := K) (d := allD n h1) (dv_spW wo3 (fun _ _ _ => va_cons (v_var rfl) (va_cons (v_var rfl) va_nil)) (fun H1 m1 _ => ⟨n, r, A10, h1, vH, r, q, b, rfl, hV13.mv m1, n8, iwA, w1, Ti.sx, rfl⟩)) o13 (fun v2 H14 m14 o14 h14 => ⟨_, _, (h13.mv m14).dp, h14.dp, (sh_allD w1).shaped, (sh_allD w1).shaped, _, rfl, ?_⟩)
    rw [(sh_allD w1).refl, show (!true) = false from rfl, if_neg Bool.false_ne_true]
    refine s_next ?_
    have m15 : Mv (orF (footH n r A10) (footH n r B')) H' (orF (footH n r A10) (footH n r B')) H14 := (m12.trans (m13.trans m14)).trans (.less fun b f => .inl f)
    have o15 : Ok (orF (footH n r A10) (footH n r B')) (W2 (CCk K) n r A10 h1 n r B' h2) H14 := ⟨fun b f => o14.fa b (.inl f), o14.w.1⟩
    replace tl := tl.mv m15
    replace hV := hV.mv m15
    replace hE0 := hE0.mv m15
    clear m12 m13 m14 o13 h13 h14 hV12 hV13 iwC iwA no2 wo3 disC O11 O12 z12 syC s12 frC o14
    refine qx_forL (x_d (K := K) (d := .list ((as.drop j).map actD)) ((dv_slLf j wo2 (dv_var rfl hE0) (pt_s fun _ _ _ => v_var rfl)).eq (by rw [List.map_drop])) o15 (fun vE H16 m16 o16 hE => ?_))
    replace hV := hV.mv m16
    obtain ⟨A16, B16, a16, b16, T16⟩ := Ti.of o16.w
    have ef16 : (orF (footH n r A10) (footH n r B')) = (orF (footH n r A16) (footH n r B16)) := by rw [foot_eq a16, foot_eq b16]
    rw [ef16] at hV hE
    rw [show A10.ad .house = A16.ad .house by rw [a16], show B'.ad .house = B16.ad .house by rw [b16]]
    clear Ti m15 o15 m16 o16 tl hE0
    cases hE with | @lst E3 xs3 _ hE1 hE2 =>
    refine q_forL v_c (SqL.of hE1.at_) (fun i σ' H' => ∃ A' y, A'.ad .house = A16.ad .house ∧ Two (CCk K) n r A' (doN h1 (as.drop j) i) r B16 h2 H' ∧ Mv (orF (footH n r A16) (footH n r B16)) H16 (orF (footH n r A') (footH n r B16)) H' ∧ σ' = [some (.ref a), some vH, some (.ref (A16.ad .house)), some (.ref Dl), some (.int (j : Int)), y, some vT, some (.ref (B16.ad .house))]) ⟨A16, _, rfl, T16, .refl, rfl⟩ (fun i σ' H' pv => ?_) (fun (i : Nat) x σ' H' hx pv => ?_) (fun σ' H' pv => ?_)
    · obtain ⟨_, _, _, _, m, _⟩ := pv
      exact SqL.of (hE1.mv m).at_
    · obtain ⟨A', y, eA, Ti, mB, rfl⟩ := pv
      obtain ⟨d, hd, hxd⟩ := (hE2.mv mB).getV i hx
      rw [List.getElem?_map] at hd
      obtain ⟨act, hact, rfl⟩ := Option.map_eq_some_iff.mp hd
      have hil := (List.getElem?_eq_some_iff.mp hact).1
      have wi := wf_doN w1 cok i
      have li := lm_doN l1 w1 cok n8 i
      have oa := cok _ (List.mem_of_getElem? hact)
      rw [← eA]
      refine s_do (va_cons (v_var rfl) (va_cons (v_var rfl) va_nil)) ⟨_, n, r, A', doN h1 (as.drop j) i, _, _, act, rfl, hxd, Ti.x, wi, li, by omega, n8, Ti.sx, oa, fun A7 H7 e7 s7 y7 m7 => ?_⟩
      obtain ⟨T7, m47⟩ := Ti.first s7 y7 m7
      rw [← doN_s hact] at T7
      exact ⟨A7, _, by rw [e7, eA], T7, mB.trans m47, by rw [eA]; rfl⟩
    obtain ⟨A', y, eA, Ti, mB, rfl⟩ := pv
    have hl : xs3.length = (as.drop j).length := by rw [hE2.len, List.length_map]
    rw [hl, ← eh2] at Ti
    replace hV := hV.mv mB
    rw [← eA]
    refine q_do (va_cons (v_var rfl) (va_cons v_c va_nil)) ⟨n, r, A', h2, _, 3, rfl, Ti.x, w2, l2, by omega, n8, Ti.sx, fun A17 H17 e17 s17 x17 m17 => ?_⟩
    dsimp only
    obtain ⟨T17, m17'⟩ := Ti.first s17 x17 m17
    rw [← e17]
    refine q_do (va_cons (v_var rfl) (va_cons v_c va_nil)) ⟨n, r, B16, h2, _, 3, rfl, T17.y, w2, l2, by omega, n8, T17.sy, fun B18 H18 e18 s18 y18 m18 => ?_⟩
    dsimp only
    obtain ⟨T18, m18'⟩ := T17.second s18 y18 m18
    rw [← e18]
    have w3 := wf_runT w2 3
    replace hV := (hV.mv m17').mv m18'
    generalize runT h2 3 = h3 at T18 w3
    refine x_ret (x_andV (x_eqS (K := K) (d := allD n h3) (n := 6) (ok2 T18.x T18.y) (dv_spW wo2 (fun _ _ _ => va_cons (v_var rfl) (va_cons (v_var rfl) va_nil)) (fun H1 m1 _ => ⟨n, r, B18, h3, vH, r, q, b, rfl, hV.mv m1, n8, inW_r T18.dis, w3, T18.sy, rfl⟩)) (dv_spW wo2 (fun _ _ _ => va_cons (v_var rfl) (va_cons (v_var rfl) va_nil)) (fun H1 m1 _ => ⟨n, r, A17, h3, vH, r, q, b, rfl, hV.mv m1, n8, inW_l T18.dis, w3, T18.sx, rfl⟩)) (sh_allD w3) (fun H19 m19 o19 => ⟨true, rfl, ?_⟩)))
    rw [if_pos rfl]
    exact x_eqS (K := K) (n := 6) o19 (dv_saved (A := B18) wo2 (fun _ _ _ => v_var rfl) (inW_r T18.dis) w3 n8 r8) (dv_saved (A := A17) wo2 (fun _ _ _ => v_var rfl) (inW_l T18.dis) w3 n8 r8) (sh_sav w3) (fun H20 m o => k H20)
end
theorem facts {P : Program} {w : World} {K : PySem.W.Frag} {h : Heap} {mg : Str → Option Value} {f : Addr} (X : K.In h) (G : h.Ns mainGlobals mg) (hfa : mg ("law" : Str) = some (.ref f)) (c : He.SaysD Hd.fa Hd.fn K ∧ Hd.exB K = true) :
    ∃ fd : FuncData, (∀ (s : Shared) (v : Value), BindsTo s fd ⟨[v], []⟩ [("_law_script", v)]) ∧ ∀ base : Heap, K.In base → base.Ns mainGlobals mg → FnOk P w K mg base CX0 11 f fd ["_law_script"] (spLaw K) := by
  obtain ⟨fd, F⟩ := c.1.def_ 50 (d := Hd.d_law) rfl
  have T : Tx K mg := ⟨⟨h, X, G⟩, c.1, c.2⟩
  have e := hfa.symm.trans (T.glo 50)
  cases e
  have b := FunD.bindsA (ps := ["_law_script"]) F fun _ _ _ _ _ _ us hl => match us, hl with | [_], _ => rfl
  exact ⟨fd, fun s v => b s [v] rfl, fun base _ _ => law_ok T F⟩
end Ch
open PySem PySem.W PySem.Calls PyProof.Rows
set_option maxRecDepth 100000 in
set_option maxHeartbeats 0 in
theorem PySem.Challenge.cw_corehouse_k27_whole_saved_and_taken_holds : PySem.Challenge.rw_corehouse_k27_whole_saved_and_taken.Holds := by
  w_on; o_law
  refine HandSHeadRun.head_any (r := OpenLaw.row PySem.Challenge.rw_corehouse_k27_whole_saved_and_taken) (q := view (OpenLaw.row PySem.Challenge.rw_corehouse_k27_whole_saved_and_taken).prog [62]) (H := Ch.Hd.hk) (ob := Ch.Hd.ob) (M := 6000) (loose := Ch.Hd.loose) (d := HandSHeadRun.topDef (OpenLaw.row PySem.Challenge.rw_corehouse_k27_whole_saved_and_taken).prog 62) (kwd := []) Ch.Hd.ob_eq
    (by kernel_rfl) (fun s => by kernel_rfl) Ch.Hd.run (by kernel_rfl) (by kernel_rfl) (by kernel_rfl) (by rfl) (by first | assumption | decide +kernel) (by decide +kernel) ⟨rfl, rfl, rfl, rfl, rfl, by decide +kernel⟩ ?hw ?hc
  case hw => w_witness2
  case hc =>
    refine L2.walk_ofE (l := PySem.Challenge.rw_corehouse_k27_whole_saved_and_taken) (n := 63) (k := 11) (x := "_law_script") (CX := L2.CX0) rfl (by decide) (by kernel_rfl) ⟨rfl, by decide, by decide⟩ ?F (fun _ _ _ _ z => z)
    intro w mg fa h Y G hmg0
    obtain ⟨K, KX, c⟩ := Y
    have hmg : mg ("law" : PySem.Str) = some (.ref fa) := by
      have e : (HandSHeadRun.topDef (OpenLaw.row PySem.Challenge.rw_corehouse_k27_whole_saved_and_taken).prog 62).name = ("law" : PySem.Str) := by kernel_rfl
      rw [← e]
      exact hmg0
    obtain ⟨fd, hb, hF⟩ := Ch.facts (P := (PySem.Challenge.rw_corehouse_k27_whole_saved_and_taken).prog) (w := w) KX G hmg c
    exact ⟨K, fd, Ch.spLaw K, KX, hb, fun H a ns hl _ hS => ⟨a, ns, rfl, hS, hl, fun _ => rfl⟩, hF⟩
#print axioms PySem.Challenge.cw_corehouse_k27_whole_saved_and_taken_holds
