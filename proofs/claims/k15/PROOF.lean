import PyProof.Rows.All
import Wide.All
import OpenK.AllK
import Wide.FinOn
import HandS.ForMost
import HandS.ForExc
import HandS.Defaults
import HandS.Flow
import HandS.Style
import HandS.Strs
import HandS.Steps
import HandS.Evl
import HandS.TupAny
import HandS.SortInts
import HandS.CallSlots
import HandS.ExcInit
import HandS.ExcField
import HandS.TryMany
import KE.KExcSuper
import HandS.Head0
import HandS.Head1
import HandS.Head2
import HandS.HeadEnd
import HandS.HeadHook1
import HandS.HeadHook2
import HandS.HeadHook3
import HandS.Zip
import KE.GoesEnum
import KE.GoesMore
import KE.GoesZip
import HandS.CallLocal
import HandS.DictComp
import HandS.DeepEq
import HandS.Lambda
import HandS.EndTab
import HandS.ExcOwn
import HandS.TryOnly
import HandS.AnyAll
import HandS.HeadWalk
import HandS.Walk
import HandS.Small
import HandS.TupMul
import PySem.Challenge.RW_keptapart_k15_whole_disks_and_power
set_option Elab.async false
set_option linter.all false
set_option maxRecDepth 100000
set_option maxHeartbeats 4000000

namespace KA
open PySem PySem.Spec PyProof.Rows L2

/-! ### the head's facts: what hookD tells, a row of Bools, defs with a closure -/
abbrev CloV : Type := Option (Str × Str × Arguments × FuncBody × Scope × Addr × List Str × Addr)
def cloObs (K : PySem.W.Frag) (p : Str × Option Str) : CloV := match K.lookup (He.fAd K p) with
  | some ⟨_, _, .func fd, _⟩ => some (fd.name, fd.qualname, fd.params, fd.body, fd.scope, fd.globals, fd.closure.map (·.1), fd.builtins)
  | _ => none
structure CloD where
  at_ : Str × Option Str
  name : Str
  qual : Str
  st : Stmt
  clo : List Str
def CloD.val (d : CloD) : CloV := some (d.name, d.qual, defArgs d.st, .stmts (defBody d.st), defScope d.st, mainGlobals, d.clo, builtinsNs)
def asY : Nat → (Addr → Option Obj) → List Addr
  | 0, _ => [mainGlobals, cStatics]
  | n + 1, g => He.growD g (asY n g)
/-- the objects by names: fs the defs, cs the classes -/
def refsL (g : Addr → Option Obj) (as : List Addr) : List Addr := as.flatMap fun a => match g a with
  | some o => He.refsD o
  | none => []
def codeL (g : Addr → Option Obj) (as : List Addr) : List Addr := as.flatMap fun a => match g a with
  | some ⟨_, _, .func fd, _⟩ => He.refV fd.code ++ He.refV fd.defaults
  | _ => []
def nsL (g : Addr → Option Obj) (as : List Addr) : List Addr := as.flatMap fun a => match g a with
  | some ⟨_, _, .cls cd, _⟩ => cd.ns :: cd.mro.flatMap He.refV
  | _ => []
def asN (fs cs : List Str) (g : Addr → Option Obj) : List Addr :=
  let K0 := He.frG g [mainGlobals]
  let f1 := fs.map (He.ga K0)
  let c1 := cs.map (He.ga K0)
  let c2 := nsL g c1
  let c3 := refsL g c2
  [mainGlobals, cStatics] ++ c1 ++ c2 ++ c3 ++ codeL g c3 ++ f1 ++ codeL g f1
abbrev AlY : Type := He.AlD × Bool × List CloV
def obsK (fa : List He.Fa) (fn : List He.DefD) (cl : List CloD) (ex : PySem.W.Frag → List Bool) (K : PySem.W.Frag) : AlY := (He.obsD fa fn K, (ex K).all id, cl.map fun d => cloObs K d.at_)
def obsY (n : (Addr → Option Obj) → List Addr) (fa : List He.Fa) (fn : List He.DefD) (cl : List CloD) (ex : PySem.W.Frag → List Bool) (g : Addr → Option Obj) : AlY := obsK fa fn cl ex (He.frG g (n g))
def valY (fn : List He.DefD) (cl : List CloD) : AlY := (He.valD fn, true, cl.map CloD.val)
def hookY (n : (Addr → Option Obj) → List Addr) (fa : List He.Fa) (fn : List He.DefD) (cl : List CloD) (ex : PySem.W.Frag → List Bool) : PySem.W.Hook where
  α := AlY
  obs := fun s => obsY n fa fn cl ex s.heap.get?
  val := fun _ => valY fn cl
  says := fun _ h => ∃ K : PySem.W.Frag, K.In h ∧ obsK fa fn cl ex K = valY fn cl
  of := fun _ _ e => ⟨_, He.frG_in, e⟩
  keeps := fun _ _ _ ⟨K, hK, c⟩ k => ⟨K, PySem.W.Frag.In.keeps hK k, c⟩
theorem obsY_eq {n : (Addr → Option Obj) → List Addr} {fa : List He.Fa} {fn : List He.DefD} {cl : List CloD} {ex : PySem.W.Frag → List Bool} {g : Addr → Option Obj} {s : Shared} (h : ∀ a, g a = s.heap.get? a) : obsY n fa fn cl ex g = (hookY n fa fn cl ex).obs s := by
  have e : g = s.heap.get? := funext h
  rw [e] <;> rfl

/-- a dict of the top with keys that are ints: some of its values are defs -/
def dctB (K : PySem.W.Frag) (x : Str) (ks : List (Int × Str)) : Bool := match K.lookup (He.ga K x) with
  | some o => decide (o.cls = .type "dict") && o.dict.isNone && o.slots.isEmpty && (match o.data with
    | .dict es _ => es.toList.all (fun e => match e.key with | .int i _ => decide (e.hash = hashInt i) | _ => false) && ks.all (fun p => decide (findBy Value.isInt es p.1 = some (.ref (He.ga K p.2))))
    | _ => false)
  | none => false
def top (i : Nat) : Stmt := PySem.Challenge.pw_keptapart_k15_whole_disks_and_power.main.body.getD i (.Pass ⟨0, 0, 0, 0⟩)
abbrev s_rank : Stmt := top 80
abbrev sc_rank_N : List Str := ["memory", "thread"]
abbrev s_ready_place : Stmt := top 81
abbrev sc_ready_place_N : List Str := ["memory", "thread", "number"]
abbrev s_push : Stmt := top 82
abbrev sc_push_N : List Str := ["memory", "place", "thread", "frame", "head", "tail", "last"]
abbrev s_members : Stmt := top 83
abbrev sc_members_N : List Str := ["memory", "place", "found", "own"]
abbrev s_take_out : Stmt := top 84
abbrev sc_take_out_N : List Str := ["memory", "place", "thread", "frame", "head", "tail", "before", "own", "follows"]
abbrev s_kind_of : Stmt := top 94
abbrev sc_kind_of_N : List Str := ["memory", "frame"]
abbrev s_frames_of : Stmt := top 95
abbrev sc_frames_of_N : List Str := ["memory", "kind", "frame"]
abbrev s_cap_at : Stmt := top 96
abbrev sc_cap_at_N : List Str := ["memory", "slot", "frame", "place", "k"]
abbrev s_field : Stmt := top 97
abbrev sc_field_N : List Str := ["memory", "slot", "place"]
abbrev s_put_field : Stmt := top 98
abbrev sc_put_field_N : List Str := ["memory", "slot", "place", "word"]
abbrev s_put_cap : Stmt := top 99
abbrev sc_put_cap_N : List Str := ["memory", "slot", "cap", "parent", "size", "used", "k"]
abbrev s_slots_of : Stmt := top 100
abbrev sc_slots_of_N : List Str := ["memory", "found", "frame", "slot"]
abbrev s_slot_of : Stmt := top 101
abbrev sc_slot_of_N : List Str := ["memory", "thread", "place", "frame", "slot"]
abbrev s_own_cap : Stmt := top 102
abbrev sc_own_cap_N : List Str := ["memory", "thread", "place", "kind", "right", "slot"]
abbrev s_entry_at : Stmt := top 104
abbrev sc_entry_at_N : List Str := ["memory", "frame", "page"]
abbrev s_entries_of : Stmt := top 105
abbrev sc_entries_of_N : List Str := ["memory", "frame"]
abbrev s_entry : Stmt := top 106
abbrev sc_entry_N : List Str := ["memory", "table", "page", "k"]
abbrev s_put_entry : Stmt := top 107
abbrev sc_put_entry_N : List Str := ["memory", "table", "page", "told", "k"]
abbrev s_get_register : Stmt := top 116
abbrev sc_get_register_N : List Str := ["memory", "thread", "number"]
abbrev s_put_register : Stmt := top 117
abbrev sc_put_register_N : List Str := ["memory", "thread", "number", "word"]
abbrev s_domain_now : Stmt := top 118
abbrev sc_domain_now_N : List Str := ["memory"]
abbrev s_chosen : Stmt := top 119
abbrev sc_chosen_N : List Str := ["memory", "domain", "number", "head"]
abbrev s_spent : Stmt := top 120
abbrev sc_spent_N : List Str := ["memory", "thread", "left"]
abbrev s_next_part : Stmt := top 121
abbrev sc_next_part_N : List Str := ["memory", "left", "part"]
abbrev s_own_table : Stmt := top 135
abbrev sc_own_table_N : List Str := ["memory", "thread", "place", "slot", "kind"]
abbrev s_map_page : Stmt := top 136
abbrev sc_map_page_N : List Str := ["memory", "thread", "slot", "wrong", "table", "page", "frame", "told"]
abbrev s_unmap_page : Stmt := top 137
abbrev sc_unmap_page_N : List Str := ["memory", "thread", "table", "wrong"]
abbrev s_trap : Stmt := top 141
abbrev sc_trap_N : List Str := ["memory", "thread", "number", "told", "slot"]
abbrev s_line_rises : Stmt := top 143
abbrev sc_line_rises_N : List Str := ["memory", "line", "told"]
abbrev s_any_trap : Stmt := top 145
abbrev sc_any_trap_N : List Str := ["memory", "thread", "number"]
abbrev s_order : Stmt := top 146
abbrev sc_order_N : List Str := ["memory", "thread", "slot", "wrong", "frame", "told", "number", "place", "word"]
abbrev s_status : Stmt := top 147
abbrev sc_status_N : List Str := ["memory", "thread", "slot", "wrong"]
abbrev s_devices_go : Stmt := top 148
abbrev sc_devices_go_N : List Str := ["memory", "frame"]
abbrev s_device_does : Stmt := top 149
abbrev sc_device_does_N : List Str := ["memory", "frame", "reads", "number", "page", "rights", "_", "place", "word"]
abbrev s_power_goes : Stmt := top 150
abbrev sc_power_goes_N : List Str := ["memory", "cut", "frame", "page", "rights", "_", "number", "old"]
abbrev s_Memory_init : Stmt := inClass (top 155) 0
abbrev sc_Memory_init_N : List Str := ["self"]
abbrev s_Memory_word : Stmt := inClass (top 155) 1
abbrev sc_Memory_word_N : List Str := ["self", "frame", "place"]
abbrev s_Memory_put : Stmt := inClass (top 155) 2
abbrev sc_Memory_put_N : List Str := ["self", "frame", "place", "word"]
abbrev s_Memory_frame : Stmt := inClass (top 155) 4
abbrev sc_Memory_frame_N : List Str := ["self", "frame"]
abbrev s_Memory_lay_disk : Stmt := inClass (top 155) 6
abbrev sc_Memory_lay_disk_N : List Str := ["self", "frame", "rows", "row"]
abbrev s_Memory_disk : Stmt := inClass (top 155) 7
abbrev sc_Memory_disk_N : List Str := ["self", "frame"]
abbrev s_Memory_laid : Stmt := inClass (top 155) 8
abbrev sc_Memory_laid_N : List Str := ["self"]
abbrev s_Memory_put_sector : Stmt := inClass (top 155) 9
abbrev sc_Memory_put_sector_N : List Str := ["self", "frame", "number", "row"]
abbrev s_booted : Stmt := top 158
abbrev sc_booted_N : List Str := ["plan", "parts", "links", "lines", "memory", "first", "domain", "ticks", "number", "part", "link", "line", "bits"]
abbrev s_with_device : Stmt := top 159
abbrev sc_with_device_N : List Str := ["memory", "part", "frame", "line", "rows", "slot", "lies", "own", "over", "caps", "row"]
abbrev s_begin_part : Stmt := top 160
abbrev sc_begin_part_N : List Str := ["memory", "frame", "part", "domain", "priority", "budget", "code", "many", "good", "own", "kind", "place", "word", "cap", "page", "thread", "places"]
abbrev s_begin_link : Stmt := top 161
abbrev sc_begin_link_N : List Str := ["memory", "frame", "link", "many", "kind", "one", "rights", "other", "others", "good", "part", "told", "slots", "place"]
abbrev s_parts_of : Stmt := top 163
abbrev sc_parts_of_N : List Str := ["word"]
abbrev s_Machine_init : Stmt := inClass (top 166) 0
abbrev sc_Machine_init_N : List Str := ["self", "memory", "most"]
abbrev s_Machine_entry : Stmt := inClass (top 166) 4
abbrev sc_Machine_entry_N : List Str := ["self", "table", "page", "own", "number", "told"]
abbrev s_Machine_place_of : Stmt := inClass (top 166) 5
abbrev sc_Machine_place_of_N : List Str := ["self", "thread", "address", "right", "table", "told"]
abbrev s_Machine_forget : Stmt := inClass (top 166) 6
abbrev sc_Machine_forget_N : List Str := ["self"]
abbrev s_Machine_tick : Stmt := inClass (top 166) 7
abbrev sc_Machine_tick_N : List Str := ["self", "memory", "thread"]
abbrev s_Machine_step : Stmt := inClass (top 166) 8
abbrev sc_Machine_step_N : List Str := ["self", "thread", "memory", "pc", "place", "op", "a", "b", "c", "address", "goes", "one", "other"]
abbrev s_reckoned : Stmt := top 167
abbrev sc_reckoned_N : List Str := ["op", "one", "other"]
abbrev s_maybe : Stmt := top 169
abbrev sc_maybe_N : List Str := ["word"]
abbrev s_thread_of : Stmt := top 170
abbrev sc_thread_of_N : List Str := ["memory", "thread", "places", "found", "name", "place", "number"]
abbrev s_device_of : Stmt := top 171
abbrev sc_device_of_N : List Str := ["memory", "device", "places", "found", "name", "place"]
abbrev s_rows_of : Stmt := top 172
abbrev sc_rows_of_N : List Str := ["memory", "frame", "rows", "page", "told"]
abbrev s_abstracted : Stmt := top 173
abbrev sc_abstracted_N : List Str := ["memory", "state", "words", "number", "word", "lines", "line", "slot", "frame", "table", "thread", "page", "name", "kind", "on", "device", "rows"]
abbrev s_law_tape : Stmt := top 175
abbrev sc_law_tape_N : List Str := ["script", "cells", "cell", "seed"]
abbrev s_law_take : Stmt := top 176
abbrev sc_law_take_N : List Str := ["tape", "many", "drawn", "mixed"]
abbrev s_law_refused : Stmt := top 177
abbrev sc_law_refused_N : List Str := ["call"]
abbrev s_law_trapped : Stmt := top 178
abbrev sc_law_trapped_N : List Str := ["memory", "number", "arguments", "k"]
abbrev s_law : Stmt := top 179
abbrev sc_law_N : List Str := ["script", "tape", "memory", "rows", "k", "machine", "page", "guard", "busy", "status_v", "turn", "which", "at", "rights", "due", "told", "word", "cut", "good", "state", "part", "frame"]
def cl : List CloD := []
def fn : List He.DefD := [
  ⟨("rank", none), "rank", "rank", defArgs s_rank, defBody s_rank, defScope s_rank, [], []⟩,
  ⟨("ready_place", none), "ready_place", "ready_place", defArgs s_ready_place, defBody s_ready_place, defScope s_ready_place, [], []⟩,
  ⟨("push", none), "push", "push", defArgs s_push, defBody s_push, defScope s_push, [], []⟩,
  ⟨("members", none), "members", "members", defArgs s_members, defBody s_members, defScope s_members, [], []⟩,
  ⟨("take_out", none), "take_out", "take_out", defArgs s_take_out, defBody s_take_out, defScope s_take_out, [], []⟩,
  ⟨("kind_of", none), "kind_of", "kind_of", defArgs s_kind_of, defBody s_kind_of, defScope s_kind_of, [], []⟩,
  ⟨("frames_of", none), "frames_of", "frames_of", defArgs s_frames_of, defBody s_frames_of, defScope s_frames_of, [], []⟩,
  ⟨("cap_at", none), "cap_at", "cap_at", defArgs s_cap_at, defBody s_cap_at, defScope s_cap_at, [], []⟩,
  ⟨("field", none), "field", "field", defArgs s_field, defBody s_field, defScope s_field, [], []⟩,
  ⟨("put_field", none), "put_field", "put_field", defArgs s_put_field, defBody s_put_field, defScope s_put_field, [], []⟩,
  ⟨("put_cap", none), "put_cap", "put_cap", defArgs s_put_cap, defBody s_put_cap, defScope s_put_cap, [], []⟩,
  ⟨("slots_of", none), "slots_of", "slots_of", defArgs s_slots_of, defBody s_slots_of, defScope s_slots_of, [], []⟩,
  ⟨("slot_of", none), "slot_of", "slot_of", defArgs s_slot_of, defBody s_slot_of, defScope s_slot_of, [], []⟩,
  ⟨("own_cap", none), "own_cap", "own_cap", defArgs s_own_cap, defBody s_own_cap, defScope s_own_cap, [], []⟩,
  ⟨("entry_at", none), "entry_at", "entry_at", defArgs s_entry_at, defBody s_entry_at, defScope s_entry_at, [], []⟩,
  ⟨("entries_of", none), "entries_of", "entries_of", defArgs s_entries_of, defBody s_entries_of, defScope s_entries_of, [], []⟩,
  ⟨("entry", none), "entry", "entry", defArgs s_entry, defBody s_entry, defScope s_entry, [], []⟩,
  ⟨("put_entry", none), "put_entry", "put_entry", defArgs s_put_entry, defBody s_put_entry, defScope s_put_entry, [], []⟩,
  ⟨("get_register", none), "get_register", "get_register", defArgs s_get_register, defBody s_get_register, defScope s_get_register, [], []⟩,
  ⟨("put_register", none), "put_register", "put_register", defArgs s_put_register, defBody s_put_register, defScope s_put_register, [], []⟩,
  ⟨("domain_now", none), "domain_now", "domain_now", defArgs s_domain_now, defBody s_domain_now, defScope s_domain_now, [], []⟩,
  ⟨("chosen", none), "chosen", "chosen", defArgs s_chosen, defBody s_chosen, defScope s_chosen, [], []⟩,
  ⟨("spent", none), "spent", "spent", defArgs s_spent, defBody s_spent, defScope s_spent, [], []⟩,
  ⟨("next_part", none), "next_part", "next_part", defArgs s_next_part, defBody s_next_part, defScope s_next_part, [], []⟩,
  ⟨("own_table", none), "own_table", "own_table", defArgs s_own_table, defBody s_own_table, defScope s_own_table, [], []⟩,
  ⟨("map_page", none), "map_page", "map_page", defArgs s_map_page, defBody s_map_page, defScope s_map_page, [], []⟩,
  ⟨("unmap_page", none), "unmap_page", "unmap_page", defArgs s_unmap_page, defBody s_unmap_page, defScope s_unmap_page, [], []⟩,
  ⟨("trap", none), "trap", "trap", defArgs s_trap, defBody s_trap, defScope s_trap, [], []⟩,
  ⟨("line_rises", none), "line_rises", "line_rises", defArgs s_line_rises, defBody s_line_rises, defScope s_line_rises, [], []⟩,
  ⟨("any_trap", none), "any_trap", "any_trap", defArgs s_any_trap, defBody s_any_trap, defScope s_any_trap, [], []⟩,
  ⟨("order", none), "order", "order", defArgs s_order, defBody s_order, defScope s_order, [], []⟩,
  ⟨("status", none), "status", "status", defArgs s_status, defBody s_status, defScope s_status, [], []⟩,
  ⟨("devices_go", none), "devices_go", "devices_go", defArgs s_devices_go, defBody s_devices_go, defScope s_devices_go, [], []⟩,
  ⟨("device_does", none), "device_does", "device_does", defArgs s_device_does, defBody s_device_does, defScope s_device_does, [], []⟩,
  ⟨("power_goes", none), "power_goes", "power_goes", defArgs s_power_goes, defBody s_power_goes, defScope s_power_goes, [], []⟩,
  ⟨("Memory", some "__init__"), "__init__", "Memory.__init__", defArgs s_Memory_init, defBody s_Memory_init, defScope s_Memory_init, [], []⟩,
  ⟨("Memory", some "word"), "word", "Memory.word", defArgs s_Memory_word, defBody s_Memory_word, defScope s_Memory_word, [], []⟩,
  ⟨("Memory", some "put"), "put", "Memory.put", defArgs s_Memory_put, defBody s_Memory_put, defScope s_Memory_put, [], []⟩,
  ⟨("Memory", some "frame"), "frame", "Memory.frame", defArgs s_Memory_frame, defBody s_Memory_frame, defScope s_Memory_frame, [], []⟩,
  ⟨("Memory", some "lay_disk"), "lay_disk", "Memory.lay_disk", defArgs s_Memory_lay_disk, defBody s_Memory_lay_disk, defScope s_Memory_lay_disk, [], []⟩,
  ⟨("Memory", some "disk"), "disk", "Memory.disk", defArgs s_Memory_disk, defBody s_Memory_disk, defScope s_Memory_disk, [], []⟩,
  ⟨("Memory", some "laid"), "laid", "Memory.laid", defArgs s_Memory_laid, defBody s_Memory_laid, defScope s_Memory_laid, [], []⟩,
  ⟨("Memory", some "put_sector"), "put_sector", "Memory.put_sector", defArgs s_Memory_put_sector, defBody s_Memory_put_sector, defScope s_Memory_put_sector, [], []⟩,
  ⟨("booted", none), "booted", "booted", defArgs s_booted, defBody s_booted, defScope s_booted, [], []⟩,
  ⟨("with_device", none), "with_device", "with_device", defArgs s_with_device, defBody s_with_device, defScope s_with_device, [], []⟩,
  ⟨("begin_part", none), "begin_part", "begin_part", defArgs s_begin_part, defBody s_begin_part, defScope s_begin_part, [], []⟩,
  ⟨("begin_link", none), "begin_link", "begin_link", defArgs s_begin_link, defBody s_begin_link, defScope s_begin_link, [], []⟩,
  ⟨("parts_of", none), "parts_of", "parts_of", defArgs s_parts_of, defBody s_parts_of, defScope s_parts_of, [], []⟩,
  ⟨("Machine", some "__init__"), "__init__", "Machine.__init__", defArgs s_Machine_init, defBody s_Machine_init, defScope s_Machine_init, [], []⟩,
  ⟨("Machine", some "_entry"), "_entry", "Machine._entry", defArgs s_Machine_entry, defBody s_Machine_entry, defScope s_Machine_entry, [], []⟩,
  ⟨("Machine", some "place_of"), "place_of", "Machine.place_of", defArgs s_Machine_place_of, defBody s_Machine_place_of, defScope s_Machine_place_of, [], []⟩,
  ⟨("Machine", some "forget"), "forget", "Machine.forget", defArgs s_Machine_forget, defBody s_Machine_forget, defScope s_Machine_forget, [], []⟩,
  ⟨("Machine", some "tick"), "tick", "Machine.tick", defArgs s_Machine_tick, defBody s_Machine_tick, defScope s_Machine_tick, [], []⟩,
  ⟨("Machine", some "step"), "step", "Machine.step", defArgs s_Machine_step, defBody s_Machine_step, defScope s_Machine_step, [], []⟩,
  ⟨("reckoned", none), "reckoned", "reckoned", defArgs s_reckoned, defBody s_reckoned, defScope s_reckoned, [], []⟩,
  ⟨("maybe", none), "maybe", "maybe", defArgs s_maybe, defBody s_maybe, defScope s_maybe, [], []⟩,
  ⟨("thread_of", none), "thread_of", "thread_of", defArgs s_thread_of, defBody s_thread_of, defScope s_thread_of, [], []⟩,
  ⟨("device_of", none), "device_of", "device_of", defArgs s_device_of, defBody s_device_of, defScope s_device_of, [], []⟩,
  ⟨("rows_of", none), "rows_of", "rows_of", defArgs s_rows_of, defBody s_rows_of, defScope s_rows_of, [], []⟩,
  ⟨("abstracted", none), "abstracted", "abstracted", defArgs s_abstracted, defBody s_abstracted, defScope s_abstracted, [], []⟩,
  ⟨("_law_tape", none), "_law_tape", "_law_tape", defArgs s_law_tape, defBody s_law_tape, defScope s_law_tape, [], []⟩,
  ⟨("_law_take", none), "_law_take", "_law_take", defArgs s_law_take, defBody s_law_take, defScope s_law_take, [], []⟩,
  ⟨("_law_refused", none), "_law_refused", "_law_refused", defArgs s_law_refused, defBody s_law_refused, defScope s_law_refused, [], []⟩,
  ⟨("_law_trapped", none), "_law_trapped", "_law_trapped", defArgs s_law_trapped, defBody s_law_trapped, defScope s_law_trapped, [], []⟩,
  ⟨("law", none), "law", "law", defArgs s_law, defBody s_law, defScope s_law, [], []⟩]
def fa : List He.Fa := [
  .glo "rank",
  .glo "ready_place",
  .glo "push",
  .glo "members",
  .glo "take_out",
  .glo "kind_of",
  .glo "frames_of",
  .glo "cap_at",
  .glo "field",
  .glo "put_field",
  .glo "put_cap",
  .glo "slots_of",
  .glo "slot_of",
  .glo "own_cap",
  .glo "entry_at",
  .glo "entries_of",
  .glo "entry",
  .glo "put_entry",
  .glo "get_register",
  .glo "put_register",
  .glo "domain_now",
  .glo "chosen",
  .glo "spent",
  .glo "next_part",
  .glo "own_table",
  .glo "map_page",
  .glo "unmap_page",
  .glo "trap",
  .glo "line_rises",
  .glo "any_trap",
  .glo "order",
  .glo "status",
  .glo "devices_go",
  .glo "device_does",
  .glo "power_goes",
  .glo "booted",
  .glo "with_device",
  .glo "begin_part",
  .glo "begin_link",
  .glo "parts_of",
  .glo "reckoned",
  .glo "maybe",
  .glo "thread_of",
  .glo "device_of",
  .glo "rows_of",
  .glo "abstracted",
  .glo "_law_tape",
  .glo "_law_take",
  .glo "_law_refused",
  .glo "_law_trapped",
  .glo "law",
  .glo "InvalidBoot",
  .glo "Memory",
  .cls "Memory",
  .mkr "Memory",
  .noat "Memory" "_words",
  .noat "Memory" "_disks",
  .meth "Memory" "word",
  .meth "Memory" "put",
  .meth "Memory" "clear",
  .meth "Memory" "frame",
  .meth "Memory" "words",
  .meth "Memory" "lay_disk",
  .meth "Memory" "disk",
  .meth "Memory" "laid",
  .meth "Memory" "put_sector",
  .meth "Memory" "load",
  .glo "Machine",
  .cls "Machine",
  .mkr "Machine",
  .noat "Machine" "_memory",
  .noat "Machine" "_most",
  .noat "Machine" "_kept",
  .noat "Machine" "_counts",
  .meth "Machine" "memory",
  .meth "Machine" "lookups",
  .meth "Machine" "counts",
  .meth "Machine" "_entry",
  .meth "Machine" "place_of",
  .meth "Machine" "forget",
  .meth "Machine" "tick",
  .meth "Machine" "step",
  .meth "Machine" "run",
  .meth "Machine" "rise",
  .meth "Machine" "image",
  .int "WORD" 65536,
  .int "FRAME" 64,
  .int "FRAMES" 32,
  .int "SLOTS" 8,
  .int "ENTRIES" 8,
  .int "PRIORITIES" 4,
  .int "DOMAINS" 2,
  .int "LINES" 4,
  .int "PARTS" 4,
  .int "FREE" 0,
  .int "UNTYPED" 1,
  .int "PAGE" 2,
  .int "TABLE" 3,
  .int "CAPS" 4,
  .int "THREAD" 5,
  .int "END" 6,
  .int "NOTICE" 7,
  .int "DEVICE" 8,
  .glo "KINDS",
  .int "READ" 1,
  .int "WRITE" 2,
  .int "GRANT" 4,
  .int "ALL" 7,
  .int "STOPPED" 0,
  .int "READY" 1,
  .int "SENDING" 2,
  .int "RECEIVING" 3,
  .int "WAITING" 4,
  .int "ASKED" 5,
  .int "CALLING" 6,
  .int "FAULTED" 7,
  .glo "QUEUED",
  .int "KERNEL" 0,
  .int "KIND_FRAME" 1,
  .int "T_STATE" 0,
  .int "T_PC" 1,
  .int "T_REGISTERS" 2,
  .int "T_CAPS" 10,
  .int "T_TABLE" 11,
  .int "T_PRIORITY" 12,
  .int "T_BUDGET" 13,
  .int "T_LEFT" 14,
  .int "T_NEXT" 15,
  .int "T_ON" 16,
  .int "T_BADGE" 17,
  .int "T_HANDLER" 18,
  .int "T_CODE" 19,
  .int "T_ADDRESS" 20,
  .int "T_REPLY" 21,
  .int "T_DOMAIN" 22,
  .int "T_RIGHTS" 23,
  .int "T_LENT" 24,
  .int "D_STATUS" 0,
  .int "D_ORDER" 1,
  .int "D_SECTOR" 2,
  .int "D_PAGE" 3,
  .int "D_LEFT" 4,
  .int "D_LINE" 5,
  .int "GUARDED" 4,
  .int "BUSY" 1,
  .int "DONE" 2,
  .int "FAILED" 3,
  .int "K_TIME" 0,
  .int "K_PART" 1,
  .int "K_LEFT" 2,
  .int "K_HEADS" 4,
  .int "K_TAILS" 12,
  .int "K_LINES" 20,
  .int "K_PLAN" 24,
  .int "OK" 0,
  .int "NO_CAP" 1,
  .int "TAKEN" 3,
  .int "NO_ROOM" 4,
  .int "NO_SENSE" 5,
  .int "GONE" 6,
  .int "BAD_CODE" 1,
  .int "BAD_PLACE" 2,
  .int "BAD_TRAP" 3,
  .glo "DOERS",
  .int "EACH" 5,
  .glo "CHANGING",
  .free "abs",
  .free "all",
  .free "any",
  .free "enumerate",
  .free "int",
  .free "len",
  .free "list",
  .free "max",
  .free "min",
  .free "range",
  .free "sorted",
  .free "str",
  .free "sum",
  .free "tuple",
  .free "zip",
  .exc "InvalidBoot"]
def tupB2 (K : PySem.W.Frag) (x : Str) (vs : List He.Dv) : Bool := He.tupB K x vs && (match K.lookup (He.ga K x) with | some o => o.dict.isNone && decide (o.cls = .type "tuple") | none => false)
def exs (K : PySem.W.Frag) : List Bool := [tupB2 K "KINDS" [.int 0, .int 1, .int 2, .int 3, .int 4, .int 5, .int 6, .int 7, .int 8], tupB2 K "QUEUED" [.int 2, .int 3, .int 4, .int 6, .int 7], tupB2 K "CHANGING" [.int 8, .int 9, .int 10, .int 12, .int 13], decide (PySem.W.exmOne K (.ref (He.ga K "InvalidBoot")) (.ref (He.ga K "InvalidBoot")) = some true), PySem.W.noTabs K, dctB K "DOERS" [(12, "map_page"), (13, "unmap_page")]]
def fdO (K : PySem.W.Frag) (p : Str × Option Str) : FuncData := match K.lookup (He.fAd K p) with
  | some ⟨_, _, .func fd, _⟩ => fd
  | _ => default
theorem fdO_eq {K : PySem.W.Frag} {p : Str × Option Str} {oc : Value} {od : Option Addr} {fd : FuncData} {osl : Array (Option Value)} (h : K.lookup (He.fAd K p) = some ⟨oc, od, .func fd, osl⟩) : fdO K p = fd := by
  unfold fdO
  rw [h]
abbrev FnP (K : PySem.W.Frag) (x qual : Str) (st : Stmt) (f : Addr) (fd : FuncData) : Prop := FunD K x qual (defArgs st) (defBody st) (defScope st) [] [] f fd
/-- what the top has written -/
structure Txt (K : PySem.W.Frag) (mg : Str → Option Value) : Prop where
  ex : ∃ h : Heap, K.In h ∧ h.Ns mainGlobals mg ∧ He.SaysD fa fn K ∧ (exs K).all id = true ∧ cl.map (fun d => cloObs K d.at_) = cl.map CloD.val
section
variable {K : PySem.W.Frag} {mg : Str → Option Value}
theorem Txt.fact (T : Txt K mg) (i : Nat) {f : He.Fa} (h : fa[i]? = some f := by rfl) : f.ok K = true := by
  obtain ⟨_, _, _, c, _, _⟩ := T.ex
  exact c.fact i h
theorem Txt.glo (T : Txt K mg) (i : Nat) {x : Str} (h : fa[i]? = some (.glo x) := by rfl) : mg x = some (.ref (He.ga K x)) := by
  obtain ⟨_, X, G, c, _, _⟩ := T.ex
  exact He.glo_ok X G (c.fact i h)
theorem Txt.free_at (T : Txt K mg) (i : Nat) {x : Str} (h : fa[i]? = some (.free x)) : mg x = none := by
  obtain ⟨_, X, G, c, _, _⟩ := T.ex
  exact He.free_ok X G (c.fact i h)
theorem Txt.int (T : Txt K mg) (i : Nat) {x : Str} {n : Int} (h : fa[i]? = some (.int x n) := by rfl) : ∃ t, mg x = some (.int n t) := by
  obtain ⟨_, X, G, c, _, _⟩ := T.ex
  exact He.int_ok X G (c.fact i h)
theorem Txt.str (T : Txt K mg) (i : Nat) {x z : Str} (h : fa[i]? = some (.str x z) := by rfl) : ∃ t, mg x = some (.str z t) := by
  obtain ⟨_, X, G, c, _, _⟩ := T.ex
  exact He.str_ok X G (c.fact i h)
theorem Txt.exi (T : Txt K mg) (i : Nat) {b : Bool} (h : (exs K)[i]? = some b) : b = true := by
  obtain ⟨_, _, _, _, c, _⟩ := T.ex
  exact List.all_eq_true.mp c b (List.mem_of_getElem? h)
theorem Txt.fun_ (T : Txt K mg) (i : Nat) {d : He.DefD} (h : fn[i]? = some d := by rfl) : FunD K d.name d.qual d.params d.body d.scope (d.dvs K) (d.kws K) (He.fAd K d.at_) (fdO K d.at_) := by
  obtain ⟨_, _, _, c, _, _⟩ := T.ex
  obtain ⟨fd, F⟩ := c.def_ i h
  obtain ⟨oc, od, dV, kV, doc, pm, an, cdv, ct, osl, e, lk, r⟩ := F.ex
  rw [fdO_eq lk]
  exact F
theorem Txt.of {h : Heap} (X : K.In h) (G : h.Ns mainGlobals mg) (e : obsK fa fn cl exs K = valY fn cl) : Txt K mg := ⟨⟨h, X, G, congrArg (fun z : AlY => z.1) e, congrArg (fun z : AlY => z.2.1) e, congrArg (fun z : AlY => z.2.2) e⟩⟩
theorem Txt.clo (T : Txt K mg) (i : Nat) {d : CloD} (h : cl[i]? = some d := by rfl) : cloObs K d.at_ = d.val := by
  obtain ⟨_, _, _, _, _, e⟩ := T.ex
  have e2 : (cl.map fun d => cloObs K d.at_)[i]? = (cl.map CloD.val)[i]? := by rw [e]
  rw [List.getElem?_map, List.getElem?_map, h] at e2
  exact Option.some.inj e2
theorem Txt.more (T : Txt K mg) (i : Nat) {b : Bool} (h : (exs K)[i]? = some b := by rfl) : b = true := T.exi i h
-- the Bools beside begin at 4
abbrev f_rank (K : PySem.W.Frag) : Addr := He.fAd K ("rank", none)
abbrev fd_rank (K : PySem.W.Frag) : FuncData := fdO K ("rank", none)
theorem Txt.fn_rank (T : Txt K mg) : FnP K "rank" "rank" s_rank (f_rank K) (fd_rank K) := T.fun_ 0
theorem Txt.kp_rank (T : Txt K mg) : PySem.W.keepIn K (.ref (f_rank K)) = true := T.fn_rank.kp
theorem Txt.bd_rank (T : Txt K mg) : Binds K (fd_rank K) ["memory", "thread"] [] := T.fn_rank.bindsN fun _ _ _ _ _ _ us hl => match us, hl with | [_, _], _ => rfl
theorem Txt.glo_rank (T : Txt K mg) : mg "rank" = some (.ref (f_rank K)) := T.glo 0
theorem sc_rank : FnScope sc_rank_N ["memory", "thread"] (defScope s_rank) := ⟨rfl, rfl, rfl, by decide +kernel, rfl, by decide +kernel, by decide +kernel⟩
abbrev f_ready_place (K : PySem.W.Frag) : Addr := He.fAd K ("ready_place", none)
abbrev fd_ready_place (K : PySem.W.Frag) : FuncData := fdO K ("ready_place", none)
theorem Txt.fn_ready_place (T : Txt K mg) : FnP K "ready_place" "ready_place" s_ready_place (f_ready_place K) (fd_ready_place K) := T.fun_ 1
theorem Txt.kp_ready_place (T : Txt K mg) : PySem.W.keepIn K (.ref (f_ready_place K)) = true := T.fn_ready_place.kp
theorem Txt.bd_ready_place (T : Txt K mg) : Binds K (fd_ready_place K) ["memory", "thread"] [] := T.fn_ready_place.bindsN fun _ _ _ _ _ _ us hl => match us, hl with | [_, _], _ => rfl
theorem Txt.glo_ready_place (T : Txt K mg) : mg "ready_place" = some (.ref (f_ready_place K)) := T.glo 1
theorem sc_ready_place : FnScope sc_ready_place_N ["memory", "thread"] (defScope s_ready_place) := ⟨rfl, rfl, rfl, by decide +kernel, rfl, by decide +kernel, by decide +kernel⟩
abbrev f_push (K : PySem.W.Frag) : Addr := He.fAd K ("push", none)
abbrev fd_push (K : PySem.W.Frag) : FuncData := fdO K ("push", none)
theorem Txt.fn_push (T : Txt K mg) : FnP K "push" "push" s_push (f_push K) (fd_push K) := T.fun_ 2
theorem Txt.kp_push (T : Txt K mg) : PySem.W.keepIn K (.ref (f_push K)) = true := T.fn_push.kp
theorem Txt.bd_push (T : Txt K mg) : Binds K (fd_push K) ["memory", "place", "thread"] [] := T.fn_push.bindsN fun _ _ _ _ _ _ us hl => match us, hl with | [_, _, _], _ => rfl
theorem Txt.glo_push (T : Txt K mg) : mg "push" = some (.ref (f_push K)) := T.glo 2
theorem sc_push : FnScope sc_push_N ["memory", "place", "thread"] (defScope s_push) := ⟨rfl, rfl, rfl, by decide +kernel, rfl, by decide +kernel, by decide +kernel⟩
abbrev f_members (K : PySem.W.Frag) : Addr := He.fAd K ("members", none)
abbrev fd_members (K : PySem.W.Frag) : FuncData := fdO K ("members", none)
theorem Txt.fn_members (T : Txt K mg) : FnP K "members" "members" s_members (f_members K) (fd_members K) := T.fun_ 3
theorem Txt.kp_members (T : Txt K mg) : PySem.W.keepIn K (.ref (f_members K)) = true := T.fn_members.kp
theorem Txt.bd_members (T : Txt K mg) : Binds K (fd_members K) ["memory", "place"] [] := T.fn_members.bindsN fun _ _ _ _ _ _ us hl => match us, hl with | [_, _], _ => rfl
theorem Txt.glo_members (T : Txt K mg) : mg "members" = some (.ref (f_members K)) := T.glo 3
theorem sc_members : FnScope sc_members_N ["memory", "place"] (defScope s_members) := ⟨rfl, rfl, rfl, by decide +kernel, rfl, by decide +kernel, by decide +kernel⟩
abbrev f_take_out (K : PySem.W.Frag) : Addr := He.fAd K ("take_out", none)
abbrev fd_take_out (K : PySem.W.Frag) : FuncData := fdO K ("take_out", none)
theorem Txt.fn_take_out (T : Txt K mg) : FnP K "take_out" "take_out" s_take_out (f_take_out K) (fd_take_out K) := T.fun_ 4
theorem Txt.kp_take_out (T : Txt K mg) : PySem.W.keepIn K (.ref (f_take_out K)) = true := T.fn_take_out.kp
theorem Txt.bd_take_out (T : Txt K mg) : Binds K (fd_take_out K) ["memory", "place", "thread"] [] := T.fn_take_out.bindsN fun _ _ _ _ _ _ us hl => match us, hl with | [_, _, _], _ => rfl
theorem Txt.glo_take_out (T : Txt K mg) : mg "take_out" = some (.ref (f_take_out K)) := T.glo 4
theorem sc_take_out : FnScope sc_take_out_N ["memory", "place", "thread"] (defScope s_take_out) := ⟨rfl, rfl, rfl, by decide +kernel, rfl, by decide +kernel, by decide +kernel⟩
abbrev f_kind_of (K : PySem.W.Frag) : Addr := He.fAd K ("kind_of", none)
abbrev fd_kind_of (K : PySem.W.Frag) : FuncData := fdO K ("kind_of", none)
theorem Txt.fn_kind_of (T : Txt K mg) : FnP K "kind_of" "kind_of" s_kind_of (f_kind_of K) (fd_kind_of K) := T.fun_ 5
theorem Txt.kp_kind_of (T : Txt K mg) : PySem.W.keepIn K (.ref (f_kind_of K)) = true := T.fn_kind_of.kp
theorem Txt.bd_kind_of (T : Txt K mg) : Binds K (fd_kind_of K) ["memory", "frame"] [] := T.fn_kind_of.bindsN fun _ _ _ _ _ _ us hl => match us, hl with | [_, _], _ => rfl
theorem Txt.glo_kind_of (T : Txt K mg) : mg "kind_of" = some (.ref (f_kind_of K)) := T.glo 5
theorem sc_kind_of : FnScope sc_kind_of_N ["memory", "frame"] (defScope s_kind_of) := ⟨rfl, rfl, rfl, by decide +kernel, rfl, by decide +kernel, by decide +kernel⟩
abbrev f_frames_of (K : PySem.W.Frag) : Addr := He.fAd K ("frames_of", none)
abbrev fd_frames_of (K : PySem.W.Frag) : FuncData := fdO K ("frames_of", none)
theorem Txt.fn_frames_of (T : Txt K mg) : FnP K "frames_of" "frames_of" s_frames_of (f_frames_of K) (fd_frames_of K) := T.fun_ 6
theorem Txt.kp_frames_of (T : Txt K mg) : PySem.W.keepIn K (.ref (f_frames_of K)) = true := T.fn_frames_of.kp
theorem Txt.bd_frames_of (T : Txt K mg) : Binds K (fd_frames_of K) ["memory", "kind"] [] := T.fn_frames_of.bindsN fun _ _ _ _ _ _ us hl => match us, hl with | [_, _], _ => rfl
theorem Txt.glo_frames_of (T : Txt K mg) : mg "frames_of" = some (.ref (f_frames_of K)) := T.glo 6
theorem sc_frames_of : FnScope sc_frames_of_N ["memory", "kind"] (defScope s_frames_of) := ⟨rfl, rfl, rfl, by decide +kernel, rfl, by decide +kernel, by decide +kernel⟩
abbrev f_cap_at (K : PySem.W.Frag) : Addr := He.fAd K ("cap_at", none)
abbrev fd_cap_at (K : PySem.W.Frag) : FuncData := fdO K ("cap_at", none)
theorem Txt.fn_cap_at (T : Txt K mg) : FnP K "cap_at" "cap_at" s_cap_at (f_cap_at K) (fd_cap_at K) := T.fun_ 7
theorem Txt.kp_cap_at (T : Txt K mg) : PySem.W.keepIn K (.ref (f_cap_at K)) = true := T.fn_cap_at.kp
theorem Txt.bd_cap_at (T : Txt K mg) : Binds K (fd_cap_at K) ["memory", "slot"] [] := T.fn_cap_at.bindsN fun _ _ _ _ _ _ us hl => match us, hl with | [_, _], _ => rfl
theorem Txt.glo_cap_at (T : Txt K mg) : mg "cap_at" = some (.ref (f_cap_at K)) := T.glo 7
theorem sc_cap_at : FnScope sc_cap_at_N ["memory", "slot"] (defScope s_cap_at) := ⟨rfl, rfl, rfl, by decide +kernel, rfl, by decide +kernel, by decide +kernel⟩
abbrev f_field (K : PySem.W.Frag) : Addr := He.fAd K ("field", none)
abbrev fd_field (K : PySem.W.Frag) : FuncData := fdO K ("field", none)
theorem Txt.fn_field (T : Txt K mg) : FnP K "field" "field" s_field (f_field K) (fd_field K) := T.fun_ 8
theorem Txt.kp_field (T : Txt K mg) : PySem.W.keepIn K (.ref (f_field K)) = true := T.fn_field.kp
theorem Txt.bd_field (T : Txt K mg) : Binds K (fd_field K) ["memory", "slot", "place"] [] := T.fn_field.bindsN fun _ _ _ _ _ _ us hl => match us, hl with | [_, _, _], _ => rfl
theorem Txt.glo_field (T : Txt K mg) : mg "field" = some (.ref (f_field K)) := T.glo 8
theorem sc_field : FnScope sc_field_N ["memory", "slot", "place"] (defScope s_field) := ⟨rfl, rfl, rfl, by decide +kernel, rfl, by decide +kernel, by decide +kernel⟩
abbrev f_put_field (K : PySem.W.Frag) : Addr := He.fAd K ("put_field", none)
abbrev fd_put_field (K : PySem.W.Frag) : FuncData := fdO K ("put_field", none)
theorem Txt.fn_put_field (T : Txt K mg) : FnP K "put_field" "put_field" s_put_field (f_put_field K) (fd_put_field K) := T.fun_ 9
theorem Txt.kp_put_field (T : Txt K mg) : PySem.W.keepIn K (.ref (f_put_field K)) = true := T.fn_put_field.kp
theorem Txt.bd_put_field (T : Txt K mg) : Binds K (fd_put_field K) ["memory", "slot", "place", "word"] [] := T.fn_put_field.bindsN fun _ _ _ _ _ _ us hl => match us, hl with | [_, _, _, _], _ => rfl
theorem Txt.glo_put_field (T : Txt K mg) : mg "put_field" = some (.ref (f_put_field K)) := T.glo 9
theorem sc_put_field : FnScope sc_put_field_N ["memory", "slot", "place", "word"] (defScope s_put_field) := ⟨rfl, rfl, rfl, by decide +kernel, rfl, by decide +kernel, by decide +kernel⟩
abbrev f_put_cap (K : PySem.W.Frag) : Addr := He.fAd K ("put_cap", none)
abbrev fd_put_cap (K : PySem.W.Frag) : FuncData := fdO K ("put_cap", none)
theorem Txt.fn_put_cap (T : Txt K mg) : FnP K "put_cap" "put_cap" s_put_cap (f_put_cap K) (fd_put_cap K) := T.fun_ 10
theorem Txt.kp_put_cap (T : Txt K mg) : PySem.W.keepIn K (.ref (f_put_cap K)) = true := T.fn_put_cap.kp
theorem Txt.bd_put_cap (T : Txt K mg) : Binds K (fd_put_cap K) ["memory", "slot", "cap", "parent", "size", "used"] [] := T.fn_put_cap.bindsN fun _ _ _ _ _ _ us hl => match us, hl with | [_, _, _, _, _, _], _ => rfl
theorem Txt.glo_put_cap (T : Txt K mg) : mg "put_cap" = some (.ref (f_put_cap K)) := T.glo 10
theorem sc_put_cap : FnScope sc_put_cap_N ["memory", "slot", "cap", "parent", "size", "used"] (defScope s_put_cap) := ⟨rfl, rfl, rfl, by decide +kernel, rfl, by decide +kernel, by decide +kernel⟩
abbrev f_slots_of (K : PySem.W.Frag) : Addr := He.fAd K ("slots_of", none)
abbrev fd_slots_of (K : PySem.W.Frag) : FuncData := fdO K ("slots_of", none)
theorem Txt.fn_slots_of (T : Txt K mg) : FnP K "slots_of" "slots_of" s_slots_of (f_slots_of K) (fd_slots_of K) := T.fun_ 11
theorem Txt.kp_slots_of (T : Txt K mg) : PySem.W.keepIn K (.ref (f_slots_of K)) = true := T.fn_slots_of.kp
theorem Txt.bd_slots_of (T : Txt K mg) : Binds K (fd_slots_of K) ["memory"] [] := T.fn_slots_of.bindsN fun _ _ _ _ _ _ us hl => match us, hl with | [_], _ => rfl
theorem Txt.glo_slots_of (T : Txt K mg) : mg "slots_of" = some (.ref (f_slots_of K)) := T.glo 11
theorem sc_slots_of : FnScope sc_slots_of_N ["memory"] (defScope s_slots_of) := ⟨rfl, rfl, rfl, by decide +kernel, rfl, by decide +kernel, by decide +kernel⟩
abbrev f_slot_of (K : PySem.W.Frag) : Addr := He.fAd K ("slot_of", none)
abbrev fd_slot_of (K : PySem.W.Frag) : FuncData := fdO K ("slot_of", none)
theorem Txt.fn_slot_of (T : Txt K mg) : FnP K "slot_of" "slot_of" s_slot_of (f_slot_of K) (fd_slot_of K) := T.fun_ 12
theorem Txt.kp_slot_of (T : Txt K mg) : PySem.W.keepIn K (.ref (f_slot_of K)) = true := T.fn_slot_of.kp
theorem Txt.bd_slot_of (T : Txt K mg) : Binds K (fd_slot_of K) ["memory", "thread", "place"] [] := T.fn_slot_of.bindsN fun _ _ _ _ _ _ us hl => match us, hl with | [_, _, _], _ => rfl
theorem Txt.glo_slot_of (T : Txt K mg) : mg "slot_of" = some (.ref (f_slot_of K)) := T.glo 12
theorem sc_slot_of : FnScope sc_slot_of_N ["memory", "thread", "place"] (defScope s_slot_of) := ⟨rfl, rfl, rfl, by decide +kernel, rfl, by decide +kernel, by decide +kernel⟩
abbrev f_own_cap (K : PySem.W.Frag) : Addr := He.fAd K ("own_cap", none)
abbrev fd_own_cap (K : PySem.W.Frag) : FuncData := fdO K ("own_cap", none)
theorem Txt.fn_own_cap (T : Txt K mg) : FnP K "own_cap" "own_cap" s_own_cap (f_own_cap K) (fd_own_cap K) := T.fun_ 13
theorem Txt.kp_own_cap (T : Txt K mg) : PySem.W.keepIn K (.ref (f_own_cap K)) = true := T.fn_own_cap.kp
theorem Txt.bd_own_cap (T : Txt K mg) : Binds K (fd_own_cap K) ["memory", "thread", "place", "kind", "right"] [] := T.fn_own_cap.bindsN fun _ _ _ _ _ _ us hl => match us, hl with | [_, _, _, _, _], _ => rfl
theorem Txt.glo_own_cap (T : Txt K mg) : mg "own_cap" = some (.ref (f_own_cap K)) := T.glo 13
theorem sc_own_cap : FnScope sc_own_cap_N ["memory", "thread", "place", "kind", "right"] (defScope s_own_cap) := ⟨rfl, rfl, rfl, by decide +kernel, rfl, by decide +kernel, by decide +kernel⟩
abbrev f_entry_at (K : PySem.W.Frag) : Addr := He.fAd K ("entry_at", none)
abbrev fd_entry_at (K : PySem.W.Frag) : FuncData := fdO K ("entry_at", none)
theorem Txt.fn_entry_at (T : Txt K mg) : FnP K "entry_at" "entry_at" s_entry_at (f_entry_at K) (fd_entry_at K) := T.fun_ 14
theorem Txt.kp_entry_at (T : Txt K mg) : PySem.W.keepIn K (.ref (f_entry_at K)) = true := T.fn_entry_at.kp
theorem Txt.bd_entry_at (T : Txt K mg) : Binds K (fd_entry_at K) ["memory", "frame", "page"] [] := T.fn_entry_at.bindsN fun _ _ _ _ _ _ us hl => match us, hl with | [_, _, _], _ => rfl
theorem Txt.glo_entry_at (T : Txt K mg) : mg "entry_at" = some (.ref (f_entry_at K)) := T.glo 14
theorem sc_entry_at : FnScope sc_entry_at_N ["memory", "frame", "page"] (defScope s_entry_at) := ⟨rfl, rfl, rfl, by decide +kernel, rfl, by decide +kernel, by decide +kernel⟩
abbrev f_entries_of (K : PySem.W.Frag) : Addr := He.fAd K ("entries_of", none)
abbrev fd_entries_of (K : PySem.W.Frag) : FuncData := fdO K ("entries_of", none)
theorem Txt.fn_entries_of (T : Txt K mg) : FnP K "entries_of" "entries_of" s_entries_of (f_entries_of K) (fd_entries_of K) := T.fun_ 15
theorem Txt.kp_entries_of (T : Txt K mg) : PySem.W.keepIn K (.ref (f_entries_of K)) = true := T.fn_entries_of.kp
theorem Txt.bd_entries_of (T : Txt K mg) : Binds K (fd_entries_of K) ["memory", "frame"] [] := T.fn_entries_of.bindsN fun _ _ _ _ _ _ us hl => match us, hl with | [_, _], _ => rfl
theorem Txt.glo_entries_of (T : Txt K mg) : mg "entries_of" = some (.ref (f_entries_of K)) := T.glo 15
theorem sc_entries_of : FnScope sc_entries_of_N ["memory", "frame"] (defScope s_entries_of) := ⟨rfl, rfl, rfl, by decide +kernel, rfl, by decide +kernel, by decide +kernel⟩
abbrev f_entry (K : PySem.W.Frag) : Addr := He.fAd K ("entry", none)
abbrev fd_entry (K : PySem.W.Frag) : FuncData := fdO K ("entry", none)
theorem Txt.fn_entry (T : Txt K mg) : FnP K "entry" "entry" s_entry (f_entry K) (fd_entry K) := T.fun_ 16
theorem Txt.kp_entry (T : Txt K mg) : PySem.W.keepIn K (.ref (f_entry K)) = true := T.fn_entry.kp
theorem Txt.bd_entry (T : Txt K mg) : Binds K (fd_entry K) ["memory", "table", "page"] [] := T.fn_entry.bindsN fun _ _ _ _ _ _ us hl => match us, hl with | [_, _, _], _ => rfl
theorem Txt.glo_entry (T : Txt K mg) : mg "entry" = some (.ref (f_entry K)) := T.glo 16
theorem sc_entry : FnScope sc_entry_N ["memory", "table", "page"] (defScope s_entry) := ⟨rfl, rfl, rfl, by decide +kernel, rfl, by decide +kernel, by decide +kernel⟩
abbrev f_put_entry (K : PySem.W.Frag) : Addr := He.fAd K ("put_entry", none)
abbrev fd_put_entry (K : PySem.W.Frag) : FuncData := fdO K ("put_entry", none)
theorem Txt.fn_put_entry (T : Txt K mg) : FnP K "put_entry" "put_entry" s_put_entry (f_put_entry K) (fd_put_entry K) := T.fun_ 17
theorem Txt.kp_put_entry (T : Txt K mg) : PySem.W.keepIn K (.ref (f_put_entry K)) = true := T.fn_put_entry.kp
theorem Txt.bd_put_entry (T : Txt K mg) : Binds K (fd_put_entry K) ["memory", "table", "page", "told"] [] := T.fn_put_entry.bindsN fun _ _ _ _ _ _ us hl => match us, hl with | [_, _, _, _], _ => rfl
theorem Txt.glo_put_entry (T : Txt K mg) : mg "put_entry" = some (.ref (f_put_entry K)) := T.glo 17
theorem sc_put_entry : FnScope sc_put_entry_N ["memory", "table", "page", "told"] (defScope s_put_entry) := ⟨rfl, rfl, rfl, by decide +kernel, rfl, by decide +kernel, by decide +kernel⟩
abbrev f_get_register (K : PySem.W.Frag) : Addr := He.fAd K ("get_register", none)
abbrev fd_get_register (K : PySem.W.Frag) : FuncData := fdO K ("get_register", none)
theorem Txt.fn_get_register (T : Txt K mg) : FnP K "get_register" "get_register" s_get_register (f_get_register K) (fd_get_register K) := T.fun_ 18
theorem Txt.kp_get_register (T : Txt K mg) : PySem.W.keepIn K (.ref (f_get_register K)) = true := T.fn_get_register.kp
theorem Txt.bd_get_register (T : Txt K mg) : Binds K (fd_get_register K) ["memory", "thread", "number"] [] := T.fn_get_register.bindsN fun _ _ _ _ _ _ us hl => match us, hl with | [_, _, _], _ => rfl
theorem Txt.glo_get_register (T : Txt K mg) : mg "get_register" = some (.ref (f_get_register K)) := T.glo 18
theorem sc_get_register : FnScope sc_get_register_N ["memory", "thread", "number"] (defScope s_get_register) := ⟨rfl, rfl, rfl, by decide +kernel, rfl, by decide +kernel, by decide +kernel⟩
abbrev f_put_register (K : PySem.W.Frag) : Addr := He.fAd K ("put_register", none)
abbrev fd_put_register (K : PySem.W.Frag) : FuncData := fdO K ("put_register", none)
theorem Txt.fn_put_register (T : Txt K mg) : FnP K "put_register" "put_register" s_put_register (f_put_register K) (fd_put_register K) := T.fun_ 19
theorem Txt.kp_put_register (T : Txt K mg) : PySem.W.keepIn K (.ref (f_put_register K)) = true := T.fn_put_register.kp
theorem Txt.bd_put_register (T : Txt K mg) : Binds K (fd_put_register K) ["memory", "thread", "number", "word"] [] := T.fn_put_register.bindsN fun _ _ _ _ _ _ us hl => match us, hl with | [_, _, _, _], _ => rfl
theorem Txt.glo_put_register (T : Txt K mg) : mg "put_register" = some (.ref (f_put_register K)) := T.glo 19
theorem sc_put_register : FnScope sc_put_register_N ["memory", "thread", "number", "word"] (defScope s_put_register) := ⟨rfl, rfl, rfl, by decide +kernel, rfl, by decide +kernel, by decide +kernel⟩
abbrev f_domain_now (K : PySem.W.Frag) : Addr := He.fAd K ("domain_now", none)
abbrev fd_domain_now (K : PySem.W.Frag) : FuncData := fdO K ("domain_now", none)
theorem Txt.fn_domain_now (T : Txt K mg) : FnP K "domain_now" "domain_now" s_domain_now (f_domain_now K) (fd_domain_now K) := T.fun_ 20
theorem Txt.kp_domain_now (T : Txt K mg) : PySem.W.keepIn K (.ref (f_domain_now K)) = true := T.fn_domain_now.kp
theorem Txt.bd_domain_now (T : Txt K mg) : Binds K (fd_domain_now K) ["memory"] [] := T.fn_domain_now.bindsN fun _ _ _ _ _ _ us hl => match us, hl with | [_], _ => rfl
theorem Txt.glo_domain_now (T : Txt K mg) : mg "domain_now" = some (.ref (f_domain_now K)) := T.glo 20
theorem sc_domain_now : FnScope sc_domain_now_N ["memory"] (defScope s_domain_now) := ⟨rfl, rfl, rfl, by decide +kernel, rfl, by decide +kernel, by decide +kernel⟩
abbrev f_chosen (K : PySem.W.Frag) : Addr := He.fAd K ("chosen", none)
abbrev fd_chosen (K : PySem.W.Frag) : FuncData := fdO K ("chosen", none)
theorem Txt.fn_chosen (T : Txt K mg) : FnP K "chosen" "chosen" s_chosen (f_chosen K) (fd_chosen K) := T.fun_ 21
theorem Txt.kp_chosen (T : Txt K mg) : PySem.W.keepIn K (.ref (f_chosen K)) = true := T.fn_chosen.kp
theorem Txt.bd_chosen (T : Txt K mg) : Binds K (fd_chosen K) ["memory"] [] := T.fn_chosen.bindsN fun _ _ _ _ _ _ us hl => match us, hl with | [_], _ => rfl
theorem Txt.glo_chosen (T : Txt K mg) : mg "chosen" = some (.ref (f_chosen K)) := T.glo 21
theorem sc_chosen : FnScope sc_chosen_N ["memory"] (defScope s_chosen) := ⟨rfl, rfl, rfl, by decide +kernel, rfl, by decide +kernel, by decide +kernel⟩
abbrev f_spent (K : PySem.W.Frag) : Addr := He.fAd K ("spent", none)
abbrev fd_spent (K : PySem.W.Frag) : FuncData := fdO K ("spent", none)
theorem Txt.fn_spent (T : Txt K mg) : FnP K "spent" "spent" s_spent (f_spent K) (fd_spent K) := T.fun_ 22
theorem Txt.kp_spent (T : Txt K mg) : PySem.W.keepIn K (.ref (f_spent K)) = true := T.fn_spent.kp
theorem Txt.bd_spent (T : Txt K mg) : Binds K (fd_spent K) ["memory", "thread"] [] := T.fn_spent.bindsN fun _ _ _ _ _ _ us hl => match us, hl with | [_, _], _ => rfl
theorem Txt.glo_spent (T : Txt K mg) : mg "spent" = some (.ref (f_spent K)) := T.glo 22
theorem sc_spent : FnScope sc_spent_N ["memory", "thread"] (defScope s_spent) := ⟨rfl, rfl, rfl, by decide +kernel, rfl, by decide +kernel, by decide +kernel⟩
abbrev f_next_part (K : PySem.W.Frag) : Addr := He.fAd K ("next_part", none)
abbrev fd_next_part (K : PySem.W.Frag) : FuncData := fdO K ("next_part", none)
theorem Txt.fn_next_part (T : Txt K mg) : FnP K "next_part" "next_part" s_next_part (f_next_part K) (fd_next_part K) := T.fun_ 23
theorem Txt.kp_next_part (T : Txt K mg) : PySem.W.keepIn K (.ref (f_next_part K)) = true := T.fn_next_part.kp
theorem Txt.bd_next_part (T : Txt K mg) : Binds K (fd_next_part K) ["memory"] [] := T.fn_next_part.bindsN fun _ _ _ _ _ _ us hl => match us, hl with | [_], _ => rfl
theorem Txt.glo_next_part (T : Txt K mg) : mg "next_part" = some (.ref (f_next_part K)) := T.glo 23
theorem sc_next_part : FnScope sc_next_part_N ["memory"] (defScope s_next_part) := ⟨rfl, rfl, rfl, by decide +kernel, rfl, by decide +kernel, by decide +kernel⟩
abbrev f_own_table (K : PySem.W.Frag) : Addr := He.fAd K ("own_table", none)
abbrev fd_own_table (K : PySem.W.Frag) : FuncData := fdO K ("own_table", none)
theorem Txt.fn_own_table (T : Txt K mg) : FnP K "own_table" "own_table" s_own_table (f_own_table K) (fd_own_table K) := T.fun_ 24
theorem Txt.kp_own_table (T : Txt K mg) : PySem.W.keepIn K (.ref (f_own_table K)) = true := T.fn_own_table.kp
theorem Txt.bd_own_table (T : Txt K mg) : Binds K (fd_own_table K) ["memory", "thread", "place"] [] := T.fn_own_table.bindsN fun _ _ _ _ _ _ us hl => match us, hl with | [_, _, _], _ => rfl
theorem Txt.glo_own_table (T : Txt K mg) : mg "own_table" = some (.ref (f_own_table K)) := T.glo 24
theorem sc_own_table : FnScope sc_own_table_N ["memory", "thread", "place"] (defScope s_own_table) := ⟨rfl, rfl, rfl, by decide +kernel, rfl, by decide +kernel, by decide +kernel⟩
abbrev f_map_page (K : PySem.W.Frag) : Addr := He.fAd K ("map_page", none)
abbrev fd_map_page (K : PySem.W.Frag) : FuncData := fdO K ("map_page", none)
theorem Txt.fn_map_page (T : Txt K mg) : FnP K "map_page" "map_page" s_map_page (f_map_page K) (fd_map_page K) := T.fun_ 25
theorem Txt.kp_map_page (T : Txt K mg) : PySem.W.keepIn K (.ref (f_map_page K)) = true := T.fn_map_page.kp
theorem Txt.bd_map_page (T : Txt K mg) : Binds K (fd_map_page K) ["memory", "thread"] [] := T.fn_map_page.bindsN fun _ _ _ _ _ _ us hl => match us, hl with | [_, _], _ => rfl
theorem Txt.glo_map_page (T : Txt K mg) : mg "map_page" = some (.ref (f_map_page K)) := T.glo 25
theorem sc_map_page : FnScope sc_map_page_N ["memory", "thread"] (defScope s_map_page) := ⟨rfl, rfl, rfl, by decide +kernel, rfl, by decide +kernel, by decide +kernel⟩
abbrev f_unmap_page (K : PySem.W.Frag) : Addr := He.fAd K ("unmap_page", none)
abbrev fd_unmap_page (K : PySem.W.Frag) : FuncData := fdO K ("unmap_page", none)
theorem Txt.fn_unmap_page (T : Txt K mg) : FnP K "unmap_page" "unmap_page" s_unmap_page (f_unmap_page K) (fd_unmap_page K) := T.fun_ 26
theorem Txt.kp_unmap_page (T : Txt K mg) : PySem.W.keepIn K (.ref (f_unmap_page K)) = true := T.fn_unmap_page.kp
theorem Txt.bd_unmap_page (T : Txt K mg) : Binds K (fd_unmap_page K) ["memory", "thread"] [] := T.fn_unmap_page.bindsN fun _ _ _ _ _ _ us hl => match us, hl with | [_, _], _ => rfl
theorem Txt.glo_unmap_page (T : Txt K mg) : mg "unmap_page" = some (.ref (f_unmap_page K)) := T.glo 26
theorem sc_unmap_page : FnScope sc_unmap_page_N ["memory", "thread"] (defScope s_unmap_page) := ⟨rfl, rfl, rfl, by decide +kernel, rfl, by decide +kernel, by decide +kernel⟩
abbrev f_trap (K : PySem.W.Frag) : Addr := He.fAd K ("trap", none)
abbrev fd_trap (K : PySem.W.Frag) : FuncData := fdO K ("trap", none)
theorem Txt.fn_trap (T : Txt K mg) : FnP K "trap" "trap" s_trap (f_trap K) (fd_trap K) := T.fun_ 27
theorem Txt.kp_trap (T : Txt K mg) : PySem.W.keepIn K (.ref (f_trap K)) = true := T.fn_trap.kp
theorem Txt.bd_trap (T : Txt K mg) : Binds K (fd_trap K) ["memory", "thread", "number"] [] := T.fn_trap.bindsN fun _ _ _ _ _ _ us hl => match us, hl with | [_, _, _], _ => rfl
theorem Txt.glo_trap (T : Txt K mg) : mg "trap" = some (.ref (f_trap K)) := T.glo 27
theorem sc_trap : FnScope sc_trap_N ["memory", "thread", "number"] (defScope s_trap) := ⟨rfl, rfl, rfl, by decide +kernel, rfl, by decide +kernel, by decide +kernel⟩
abbrev f_line_rises (K : PySem.W.Frag) : Addr := He.fAd K ("line_rises", none)
abbrev fd_line_rises (K : PySem.W.Frag) : FuncData := fdO K ("line_rises", none)
theorem Txt.fn_line_rises (T : Txt K mg) : FnP K "line_rises" "line_rises" s_line_rises (f_line_rises K) (fd_line_rises K) := T.fun_ 28
theorem Txt.kp_line_rises (T : Txt K mg) : PySem.W.keepIn K (.ref (f_line_rises K)) = true := T.fn_line_rises.kp
theorem Txt.bd_line_rises (T : Txt K mg) : Binds K (fd_line_rises K) ["memory", "line"] [] := T.fn_line_rises.bindsN fun _ _ _ _ _ _ us hl => match us, hl with | [_, _], _ => rfl
theorem Txt.glo_line_rises (T : Txt K mg) : mg "line_rises" = some (.ref (f_line_rises K)) := T.glo 28
theorem sc_line_rises : FnScope sc_line_rises_N ["memory", "line"] (defScope s_line_rises) := ⟨rfl, rfl, rfl, by decide +kernel, rfl, by decide +kernel, by decide +kernel⟩
abbrev f_any_trap (K : PySem.W.Frag) : Addr := He.fAd K ("any_trap", none)
abbrev fd_any_trap (K : PySem.W.Frag) : FuncData := fdO K ("any_trap", none)
theorem Txt.fn_any_trap (T : Txt K mg) : FnP K "any_trap" "any_trap" s_any_trap (f_any_trap K) (fd_any_trap K) := T.fun_ 29
theorem Txt.kp_any_trap (T : Txt K mg) : PySem.W.keepIn K (.ref (f_any_trap K)) = true := T.fn_any_trap.kp
theorem Txt.bd_any_trap (T : Txt K mg) : Binds K (fd_any_trap K) ["memory", "thread", "number"] [] := T.fn_any_trap.bindsN fun _ _ _ _ _ _ us hl => match us, hl with | [_, _, _], _ => rfl
theorem Txt.glo_any_trap (T : Txt K mg) : mg "any_trap" = some (.ref (f_any_trap K)) := T.glo 29
theorem sc_any_trap : FnScope sc_any_trap_N ["memory", "thread", "number"] (defScope s_any_trap) := ⟨rfl, rfl, rfl, by decide +kernel, rfl, by decide +kernel, by decide +kernel⟩
abbrev f_order (K : PySem.W.Frag) : Addr := He.fAd K ("order", none)
abbrev fd_order (K : PySem.W.Frag) : FuncData := fdO K ("order", none)
theorem Txt.fn_order (T : Txt K mg) : FnP K "order" "order" s_order (f_order K) (fd_order K) := T.fun_ 30
theorem Txt.kp_order (T : Txt K mg) : PySem.W.keepIn K (.ref (f_order K)) = true := T.fn_order.kp
theorem Txt.bd_order (T : Txt K mg) : Binds K (fd_order K) ["memory", "thread"] [] := T.fn_order.bindsN fun _ _ _ _ _ _ us hl => match us, hl with | [_, _], _ => rfl
theorem Txt.glo_order (T : Txt K mg) : mg "order" = some (.ref (f_order K)) := T.glo 30
theorem sc_order : FnScope sc_order_N ["memory", "thread"] (defScope s_order) := ⟨rfl, rfl, rfl, by decide +kernel, rfl, by decide +kernel, by decide +kernel⟩
abbrev f_status (K : PySem.W.Frag) : Addr := He.fAd K ("status", none)
abbrev fd_status (K : PySem.W.Frag) : FuncData := fdO K ("status", none)
theorem Txt.fn_status (T : Txt K mg) : FnP K "status" "status" s_status (f_status K) (fd_status K) := T.fun_ 31
theorem Txt.kp_status (T : Txt K mg) : PySem.W.keepIn K (.ref (f_status K)) = true := T.fn_status.kp
theorem Txt.bd_status (T : Txt K mg) : Binds K (fd_status K) ["memory", "thread"] [] := T.fn_status.bindsN fun _ _ _ _ _ _ us hl => match us, hl with | [_, _], _ => rfl
theorem Txt.glo_status (T : Txt K mg) : mg "status" = some (.ref (f_status K)) := T.glo 31
theorem sc_status : FnScope sc_status_N ["memory", "thread"] (defScope s_status) := ⟨rfl, rfl, rfl, by decide +kernel, rfl, by decide +kernel, by decide +kernel⟩
abbrev f_devices_go (K : PySem.W.Frag) : Addr := He.fAd K ("devices_go", none)
abbrev fd_devices_go (K : PySem.W.Frag) : FuncData := fdO K ("devices_go", none)
theorem Txt.fn_devices_go (T : Txt K mg) : FnP K "devices_go" "devices_go" s_devices_go (f_devices_go K) (fd_devices_go K) := T.fun_ 32
theorem Txt.kp_devices_go (T : Txt K mg) : PySem.W.keepIn K (.ref (f_devices_go K)) = true := T.fn_devices_go.kp
theorem Txt.bd_devices_go (T : Txt K mg) : Binds K (fd_devices_go K) ["memory"] [] := T.fn_devices_go.bindsN fun _ _ _ _ _ _ us hl => match us, hl with | [_], _ => rfl
theorem Txt.glo_devices_go (T : Txt K mg) : mg "devices_go" = some (.ref (f_devices_go K)) := T.glo 32
theorem sc_devices_go : FnScope sc_devices_go_N ["memory"] (defScope s_devices_go) := ⟨rfl, rfl, rfl, by decide +kernel, rfl, by decide +kernel, by decide +kernel⟩
abbrev f_device_does (K : PySem.W.Frag) : Addr := He.fAd K ("device_does", none)
abbrev fd_device_does (K : PySem.W.Frag) : FuncData := fdO K ("device_does", none)
theorem Txt.fn_device_does (T : Txt K mg) : FnP K "device_does" "device_does" s_device_does (f_device_does K) (fd_device_does K) := T.fun_ 33
theorem Txt.kp_device_does (T : Txt K mg) : PySem.W.keepIn K (.ref (f_device_does K)) = true := T.fn_device_does.kp
theorem Txt.bd_device_does (T : Txt K mg) : Binds K (fd_device_does K) ["memory", "frame"] [] := T.fn_device_does.bindsN fun _ _ _ _ _ _ us hl => match us, hl with | [_, _], _ => rfl
theorem Txt.glo_device_does (T : Txt K mg) : mg "device_does" = some (.ref (f_device_does K)) := T.glo 33
theorem sc_device_does : FnScope sc_device_does_N ["memory", "frame"] (defScope s_device_does) := ⟨rfl, rfl, rfl, by decide +kernel, rfl, by decide +kernel, by decide +kernel⟩
abbrev f_power_goes (K : PySem.W.Frag) : Addr := He.fAd K ("power_goes", none)
abbrev fd_power_goes (K : PySem.W.Frag) : FuncData := fdO K ("power_goes", none)
theorem Txt.fn_power_goes (T : Txt K mg) : FnP K "power_goes" "power_goes" s_power_goes (f_power_goes K) (fd_power_goes K) := T.fun_ 34
theorem Txt.kp_power_goes (T : Txt K mg) : PySem.W.keepIn K (.ref (f_power_goes K)) = true := T.fn_power_goes.kp
theorem Txt.bd_power_goes (T : Txt K mg) : Binds K (fd_power_goes K) ["memory", "cut"] [] := T.fn_power_goes.bindsN fun _ _ _ _ _ _ us hl => match us, hl with | [_, _], _ => rfl
theorem Txt.glo_power_goes (T : Txt K mg) : mg "power_goes" = some (.ref (f_power_goes K)) := T.glo 34
theorem sc_power_goes : FnScope sc_power_goes_N ["memory", "cut"] (defScope s_power_goes) := ⟨rfl, rfl, rfl, by decide +kernel, rfl, by decide +kernel, by decide +kernel⟩
abbrev f_Memory_init (K : PySem.W.Frag) : Addr := He.fAd K ("Memory", some "__init__")
abbrev fd_Memory_init (K : PySem.W.Frag) : FuncData := fdO K ("Memory", some "__init__")
theorem Txt.fn_Memory_init (T : Txt K mg) : FnP K "__init__" "Memory.__init__" s_Memory_init (f_Memory_init K) (fd_Memory_init K) := T.fun_ 35
theorem Txt.kp_Memory_init (T : Txt K mg) : PySem.W.keepIn K (.ref (f_Memory_init K)) = true := T.fn_Memory_init.kp
theorem Txt.bd_Memory_init (T : Txt K mg) : Binds K (fd_Memory_init K) ["self"] [] := T.fn_Memory_init.bindsN fun _ _ _ _ _ _ us hl => match us, hl with | [_], _ => rfl
theorem sc_Memory_init : FnScope sc_Memory_init_N ["self"] (defScope s_Memory_init) := ⟨rfl, rfl, rfl, by decide +kernel, rfl, by decide +kernel, by decide +kernel⟩
abbrev f_Memory_word (K : PySem.W.Frag) : Addr := He.fAd K ("Memory", some "word")
abbrev fd_Memory_word (K : PySem.W.Frag) : FuncData := fdO K ("Memory", some "word")
theorem Txt.fn_Memory_word (T : Txt K mg) : FnP K "word" "Memory.word" s_Memory_word (f_Memory_word K) (fd_Memory_word K) := T.fun_ 36
theorem Txt.kp_Memory_word (T : Txt K mg) : PySem.W.keepIn K (.ref (f_Memory_word K)) = true := T.fn_Memory_word.kp
theorem Txt.bd_Memory_word (T : Txt K mg) : Binds K (fd_Memory_word K) ["self", "frame", "place"] [] := T.fn_Memory_word.bindsN fun _ _ _ _ _ _ us hl => match us, hl with | [_, _, _], _ => rfl
theorem sc_Memory_word : FnScope sc_Memory_word_N ["self", "frame", "place"] (defScope s_Memory_word) := ⟨rfl, rfl, rfl, by decide +kernel, rfl, by decide +kernel, by decide +kernel⟩
abbrev f_Memory_put (K : PySem.W.Frag) : Addr := He.fAd K ("Memory", some "put")
abbrev fd_Memory_put (K : PySem.W.Frag) : FuncData := fdO K ("Memory", some "put")
theorem Txt.fn_Memory_put (T : Txt K mg) : FnP K "put" "Memory.put" s_Memory_put (f_Memory_put K) (fd_Memory_put K) := T.fun_ 37
theorem Txt.kp_Memory_put (T : Txt K mg) : PySem.W.keepIn K (.ref (f_Memory_put K)) = true := T.fn_Memory_put.kp
theorem Txt.bd_Memory_put (T : Txt K mg) : Binds K (fd_Memory_put K) ["self", "frame", "place", "word"] [] := T.fn_Memory_put.bindsN fun _ _ _ _ _ _ us hl => match us, hl with | [_, _, _, _], _ => rfl
theorem sc_Memory_put : FnScope sc_Memory_put_N ["self", "frame", "place", "word"] (defScope s_Memory_put) := ⟨rfl, rfl, rfl, by decide +kernel, rfl, by decide +kernel, by decide +kernel⟩
abbrev f_Memory_frame (K : PySem.W.Frag) : Addr := He.fAd K ("Memory", some "frame")
abbrev fd_Memory_frame (K : PySem.W.Frag) : FuncData := fdO K ("Memory", some "frame")
theorem Txt.fn_Memory_frame (T : Txt K mg) : FnP K "frame" "Memory.frame" s_Memory_frame (f_Memory_frame K) (fd_Memory_frame K) := T.fun_ 38
theorem Txt.kp_Memory_frame (T : Txt K mg) : PySem.W.keepIn K (.ref (f_Memory_frame K)) = true := T.fn_Memory_frame.kp
theorem Txt.bd_Memory_frame (T : Txt K mg) : Binds K (fd_Memory_frame K) ["self", "frame"] [] := T.fn_Memory_frame.bindsN fun _ _ _ _ _ _ us hl => match us, hl with | [_, _], _ => rfl
theorem sc_Memory_frame : FnScope sc_Memory_frame_N ["self", "frame"] (defScope s_Memory_frame) := ⟨rfl, rfl, rfl, by decide +kernel, rfl, by decide +kernel, by decide +kernel⟩
abbrev f_Memory_lay_disk (K : PySem.W.Frag) : Addr := He.fAd K ("Memory", some "lay_disk")
abbrev fd_Memory_lay_disk (K : PySem.W.Frag) : FuncData := fdO K ("Memory", some "lay_disk")
theorem Txt.fn_Memory_lay_disk (T : Txt K mg) : FnP K "lay_disk" "Memory.lay_disk" s_Memory_lay_disk (f_Memory_lay_disk K) (fd_Memory_lay_disk K) := T.fun_ 39
theorem Txt.kp_Memory_lay_disk (T : Txt K mg) : PySem.W.keepIn K (.ref (f_Memory_lay_disk K)) = true := T.fn_Memory_lay_disk.kp
theorem Txt.bd_Memory_lay_disk (T : Txt K mg) : Binds K (fd_Memory_lay_disk K) ["self", "frame", "rows"] [] := T.fn_Memory_lay_disk.bindsN fun _ _ _ _ _ _ us hl => match us, hl with | [_, _, _], _ => rfl
theorem sc_Memory_lay_disk : FnScope sc_Memory_lay_disk_N ["self", "frame", "rows"] (defScope s_Memory_lay_disk) := ⟨rfl, rfl, rfl, by decide +kernel, rfl, by decide +kernel, by decide +kernel⟩
abbrev f_Memory_disk (K : PySem.W.Frag) : Addr := He.fAd K ("Memory", some "disk")
abbrev fd_Memory_disk (K : PySem.W.Frag) : FuncData := fdO K ("Memory", some "disk")
theorem Txt.fn_Memory_disk (T : Txt K mg) : FnP K "disk" "Memory.disk" s_Memory_disk (f_Memory_disk K) (fd_Memory_disk K) := T.fun_ 40
theorem Txt.kp_Memory_disk (T : Txt K mg) : PySem.W.keepIn K (.ref (f_Memory_disk K)) = true := T.fn_Memory_disk.kp
theorem Txt.bd_Memory_disk (T : Txt K mg) : Binds K (fd_Memory_disk K) ["self", "frame"] [] := T.fn_Memory_disk.bindsN fun _ _ _ _ _ _ us hl => match us, hl with | [_, _], _ => rfl
theorem sc_Memory_disk : FnScope sc_Memory_disk_N ["self", "frame"] (defScope s_Memory_disk) := ⟨rfl, rfl, rfl, by decide +kernel, rfl, by decide +kernel, by decide +kernel⟩
abbrev f_Memory_laid (K : PySem.W.Frag) : Addr := He.fAd K ("Memory", some "laid")
abbrev fd_Memory_laid (K : PySem.W.Frag) : FuncData := fdO K ("Memory", some "laid")
theorem Txt.fn_Memory_laid (T : Txt K mg) : FnP K "laid" "Memory.laid" s_Memory_laid (f_Memory_laid K) (fd_Memory_laid K) := T.fun_ 41
theorem Txt.kp_Memory_laid (T : Txt K mg) : PySem.W.keepIn K (.ref (f_Memory_laid K)) = true := T.fn_Memory_laid.kp
theorem Txt.bd_Memory_laid (T : Txt K mg) : Binds K (fd_Memory_laid K) ["self"] [] := T.fn_Memory_laid.bindsN fun _ _ _ _ _ _ us hl => match us, hl with | [_], _ => rfl
theorem sc_Memory_laid : FnScope sc_Memory_laid_N ["self"] (defScope s_Memory_laid) := ⟨rfl, rfl, rfl, by decide +kernel, rfl, by decide +kernel, by decide +kernel⟩
abbrev f_Memory_put_sector (K : PySem.W.Frag) : Addr := He.fAd K ("Memory", some "put_sector")
abbrev fd_Memory_put_sector (K : PySem.W.Frag) : FuncData := fdO K ("Memory", some "put_sector")
theorem Txt.fn_Memory_put_sector (T : Txt K mg) : FnP K "put_sector" "Memory.put_sector" s_Memory_put_sector (f_Memory_put_sector K) (fd_Memory_put_sector K) := T.fun_ 42
theorem Txt.kp_Memory_put_sector (T : Txt K mg) : PySem.W.keepIn K (.ref (f_Memory_put_sector K)) = true := T.fn_Memory_put_sector.kp
theorem Txt.bd_Memory_put_sector (T : Txt K mg) : Binds K (fd_Memory_put_sector K) ["self", "frame", "number", "row"] [] := T.fn_Memory_put_sector.bindsN fun _ _ _ _ _ _ us hl => match us, hl with | [_, _, _, _], _ => rfl
theorem sc_Memory_put_sector : FnScope sc_Memory_put_sector_N ["self", "frame", "number", "row"] (defScope s_Memory_put_sector) := ⟨rfl, rfl, rfl, by decide +kernel, rfl, by decide +kernel, by decide +kernel⟩
abbrev f_booted (K : PySem.W.Frag) : Addr := He.fAd K ("booted", none)
abbrev fd_booted (K : PySem.W.Frag) : FuncData := fdO K ("booted", none)
theorem Txt.fn_booted (T : Txt K mg) : FnP K "booted" "booted" s_booted (f_booted K) (fd_booted K) := T.fun_ 43
theorem Txt.kp_booted (T : Txt K mg) : PySem.W.keepIn K (.ref (f_booted K)) = true := T.fn_booted.kp
theorem Txt.bd_booted (T : Txt K mg) : Binds K (fd_booted K) ["plan", "parts", "links", "lines"] [] := T.fn_booted.bindsN fun _ _ _ _ _ _ us hl => match us, hl with | [_, _, _, _], _ => rfl
theorem Txt.glo_booted (T : Txt K mg) : mg "booted" = some (.ref (f_booted K)) := T.glo 35
theorem sc_booted : FnScope sc_booted_N ["plan", "parts", "links", "lines"] (defScope s_booted) := ⟨rfl, rfl, rfl, by decide +kernel, rfl, by decide +kernel, by decide +kernel⟩
abbrev f_with_device (K : PySem.W.Frag) : Addr := He.fAd K ("with_device", none)
abbrev fd_with_device (K : PySem.W.Frag) : FuncData := fdO K ("with_device", none)
theorem Txt.fn_with_device (T : Txt K mg) : FnP K "with_device" "with_device" s_with_device (f_with_device K) (fd_with_device K) := T.fun_ 44
theorem Txt.kp_with_device (T : Txt K mg) : PySem.W.keepIn K (.ref (f_with_device K)) = true := T.fn_with_device.kp
theorem Txt.bd_with_device (T : Txt K mg) : Binds K (fd_with_device K) ["memory", "part", "frame", "line", "rows"] [] := T.fn_with_device.bindsN fun _ _ _ _ _ _ us hl => match us, hl with | [_, _, _, _, _], _ => rfl
theorem Txt.glo_with_device (T : Txt K mg) : mg "with_device" = some (.ref (f_with_device K)) := T.glo 36
theorem sc_with_device : FnScope sc_with_device_N ["memory", "part", "frame", "line", "rows"] (defScope s_with_device) := ⟨rfl, rfl, rfl, by decide +kernel, rfl, by decide +kernel, by decide +kernel⟩
abbrev f_begin_part (K : PySem.W.Frag) : Addr := He.fAd K ("begin_part", none)
abbrev fd_begin_part (K : PySem.W.Frag) : FuncData := fdO K ("begin_part", none)
theorem Txt.fn_begin_part (T : Txt K mg) : FnP K "begin_part" "begin_part" s_begin_part (f_begin_part K) (fd_begin_part K) := T.fun_ 45
theorem Txt.kp_begin_part (T : Txt K mg) : PySem.W.keepIn K (.ref (f_begin_part K)) = true := T.fn_begin_part.kp
theorem Txt.bd_begin_part (T : Txt K mg) : Binds K (fd_begin_part K) ["memory", "frame", "part"] [] := T.fn_begin_part.bindsN fun _ _ _ _ _ _ us hl => match us, hl with | [_, _, _], _ => rfl
theorem Txt.glo_begin_part (T : Txt K mg) : mg "begin_part" = some (.ref (f_begin_part K)) := T.glo 37
theorem sc_begin_part : FnScope sc_begin_part_N ["memory", "frame", "part"] (defScope s_begin_part) := ⟨rfl, rfl, rfl, by decide +kernel, rfl, by decide +kernel, by decide +kernel⟩
abbrev f_begin_link (K : PySem.W.Frag) : Addr := He.fAd K ("begin_link", none)
abbrev fd_begin_link (K : PySem.W.Frag) : FuncData := fdO K ("begin_link", none)
theorem Txt.fn_begin_link (T : Txt K mg) : FnP K "begin_link" "begin_link" s_begin_link (f_begin_link K) (fd_begin_link K) := T.fun_ 46
theorem Txt.kp_begin_link (T : Txt K mg) : PySem.W.keepIn K (.ref (f_begin_link K)) = true := T.fn_begin_link.kp
theorem Txt.bd_begin_link (T : Txt K mg) : Binds K (fd_begin_link K) ["memory", "frame", "link", "many"] [] := T.fn_begin_link.bindsN fun _ _ _ _ _ _ us hl => match us, hl with | [_, _, _, _], _ => rfl
theorem Txt.glo_begin_link (T : Txt K mg) : mg "begin_link" = some (.ref (f_begin_link K)) := T.glo 38
theorem sc_begin_link : FnScope sc_begin_link_N ["memory", "frame", "link", "many"] (defScope s_begin_link) := ⟨rfl, rfl, rfl, by decide +kernel, rfl, by decide +kernel, by decide +kernel⟩
abbrev f_parts_of (K : PySem.W.Frag) : Addr := He.fAd K ("parts_of", none)
abbrev fd_parts_of (K : PySem.W.Frag) : FuncData := fdO K ("parts_of", none)
theorem Txt.fn_parts_of (T : Txt K mg) : FnP K "parts_of" "parts_of" s_parts_of (f_parts_of K) (fd_parts_of K) := T.fun_ 47
theorem Txt.kp_parts_of (T : Txt K mg) : PySem.W.keepIn K (.ref (f_parts_of K)) = true := T.fn_parts_of.kp
theorem Txt.bd_parts_of (T : Txt K mg) : Binds K (fd_parts_of K) ["word"] [] := T.fn_parts_of.bindsN fun _ _ _ _ _ _ us hl => match us, hl with | [_], _ => rfl
theorem Txt.glo_parts_of (T : Txt K mg) : mg "parts_of" = some (.ref (f_parts_of K)) := T.glo 39
theorem sc_parts_of : FnScope sc_parts_of_N ["word"] (defScope s_parts_of) := ⟨rfl, rfl, rfl, by decide +kernel, rfl, by decide +kernel, by decide +kernel⟩
abbrev f_Machine_init (K : PySem.W.Frag) : Addr := He.fAd K ("Machine", some "__init__")
abbrev fd_Machine_init (K : PySem.W.Frag) : FuncData := fdO K ("Machine", some "__init__")
theorem Txt.fn_Machine_init (T : Txt K mg) : FnP K "__init__" "Machine.__init__" s_Machine_init (f_Machine_init K) (fd_Machine_init K) := T.fun_ 48
theorem Txt.kp_Machine_init (T : Txt K mg) : PySem.W.keepIn K (.ref (f_Machine_init K)) = true := T.fn_Machine_init.kp
theorem Txt.bd_Machine_init (T : Txt K mg) : Binds K (fd_Machine_init K) ["self", "memory", "most"] [] := T.fn_Machine_init.bindsN fun _ _ _ _ _ _ us hl => match us, hl with | [_, _, _], _ => rfl
theorem sc_Machine_init : FnScope sc_Machine_init_N ["self", "memory", "most"] (defScope s_Machine_init) := ⟨rfl, rfl, rfl, by decide +kernel, rfl, by decide +kernel, by decide +kernel⟩
abbrev f_Machine_entry (K : PySem.W.Frag) : Addr := He.fAd K ("Machine", some "_entry")
abbrev fd_Machine_entry (K : PySem.W.Frag) : FuncData := fdO K ("Machine", some "_entry")
theorem Txt.fn_Machine_entry (T : Txt K mg) : FnP K "_entry" "Machine._entry" s_Machine_entry (f_Machine_entry K) (fd_Machine_entry K) := T.fun_ 49
theorem Txt.kp_Machine_entry (T : Txt K mg) : PySem.W.keepIn K (.ref (f_Machine_entry K)) = true := T.fn_Machine_entry.kp
theorem Txt.bd_Machine_entry (T : Txt K mg) : Binds K (fd_Machine_entry K) ["self", "table", "page"] [] := T.fn_Machine_entry.bindsN fun _ _ _ _ _ _ us hl => match us, hl with | [_, _, _], _ => rfl
theorem sc_Machine_entry : FnScope sc_Machine_entry_N ["self", "table", "page"] (defScope s_Machine_entry) := ⟨rfl, rfl, rfl, by decide +kernel, rfl, by decide +kernel, by decide +kernel⟩
abbrev f_Machine_place_of (K : PySem.W.Frag) : Addr := He.fAd K ("Machine", some "place_of")
abbrev fd_Machine_place_of (K : PySem.W.Frag) : FuncData := fdO K ("Machine", some "place_of")
theorem Txt.fn_Machine_place_of (T : Txt K mg) : FnP K "place_of" "Machine.place_of" s_Machine_place_of (f_Machine_place_of K) (fd_Machine_place_of K) := T.fun_ 50
theorem Txt.kp_Machine_place_of (T : Txt K mg) : PySem.W.keepIn K (.ref (f_Machine_place_of K)) = true := T.fn_Machine_place_of.kp
theorem Txt.bd_Machine_place_of (T : Txt K mg) : Binds K (fd_Machine_place_of K) ["self", "thread", "address", "right"] [] := T.fn_Machine_place_of.bindsN fun _ _ _ _ _ _ us hl => match us, hl with | [_, _, _, _], _ => rfl
theorem sc_Machine_place_of : FnScope sc_Machine_place_of_N ["self", "thread", "address", "right"] (defScope s_Machine_place_of) := ⟨rfl, rfl, rfl, by decide +kernel, rfl, by decide +kernel, by decide +kernel⟩
abbrev f_Machine_forget (K : PySem.W.Frag) : Addr := He.fAd K ("Machine", some "forget")
abbrev fd_Machine_forget (K : PySem.W.Frag) : FuncData := fdO K ("Machine", some "forget")
theorem Txt.fn_Machine_forget (T : Txt K mg) : FnP K "forget" "Machine.forget" s_Machine_forget (f_Machine_forget K) (fd_Machine_forget K) := T.fun_ 51
theorem Txt.kp_Machine_forget (T : Txt K mg) : PySem.W.keepIn K (.ref (f_Machine_forget K)) = true := T.fn_Machine_forget.kp
theorem Txt.bd_Machine_forget (T : Txt K mg) : Binds K (fd_Machine_forget K) ["self"] [] := T.fn_Machine_forget.bindsN fun _ _ _ _ _ _ us hl => match us, hl with | [_], _ => rfl
theorem sc_Machine_forget : FnScope sc_Machine_forget_N ["self"] (defScope s_Machine_forget) := ⟨rfl, rfl, rfl, by decide +kernel, rfl, by decide +kernel, by decide +kernel⟩
abbrev f_Machine_tick (K : PySem.W.Frag) : Addr := He.fAd K ("Machine", some "tick")
abbrev fd_Machine_tick (K : PySem.W.Frag) : FuncData := fdO K ("Machine", some "tick")
theorem Txt.fn_Machine_tick (T : Txt K mg) : FnP K "tick" "Machine.tick" s_Machine_tick (f_Machine_tick K) (fd_Machine_tick K) := T.fun_ 52
theorem Txt.kp_Machine_tick (T : Txt K mg) : PySem.W.keepIn K (.ref (f_Machine_tick K)) = true := T.fn_Machine_tick.kp
theorem Txt.bd_Machine_tick (T : Txt K mg) : Binds K (fd_Machine_tick K) ["self"] [] := T.fn_Machine_tick.bindsN fun _ _ _ _ _ _ us hl => match us, hl with | [_], _ => rfl
theorem sc_Machine_tick : FnScope sc_Machine_tick_N ["self"] (defScope s_Machine_tick) := ⟨rfl, rfl, rfl, by decide +kernel, rfl, by decide +kernel, by decide +kernel⟩
abbrev f_Machine_step (K : PySem.W.Frag) : Addr := He.fAd K ("Machine", some "step")
abbrev fd_Machine_step (K : PySem.W.Frag) : FuncData := fdO K ("Machine", some "step")
theorem Txt.fn_Machine_step (T : Txt K mg) : FnP K "step" "Machine.step" s_Machine_step (f_Machine_step K) (fd_Machine_step K) := T.fun_ 53
theorem Txt.kp_Machine_step (T : Txt K mg) : PySem.W.keepIn K (.ref (f_Machine_step K)) = true := T.fn_Machine_step.kp
theorem Txt.bd_Machine_step (T : Txt K mg) : Binds K (fd_Machine_step K) ["self", "thread"] [] := T.fn_Machine_step.bindsN fun _ _ _ _ _ _ us hl => match us, hl with | [_, _], _ => rfl
theorem sc_Machine_step : FnScope sc_Machine_step_N ["self", "thread"] (defScope s_Machine_step) := ⟨rfl, rfl, rfl, by decide +kernel, rfl, by decide +kernel, by decide +kernel⟩
abbrev f_reckoned (K : PySem.W.Frag) : Addr := He.fAd K ("reckoned", none)
abbrev fd_reckoned (K : PySem.W.Frag) : FuncData := fdO K ("reckoned", none)
theorem Txt.fn_reckoned (T : Txt K mg) : FnP K "reckoned" "reckoned" s_reckoned (f_reckoned K) (fd_reckoned K) := T.fun_ 54
theorem Txt.kp_reckoned (T : Txt K mg) : PySem.W.keepIn K (.ref (f_reckoned K)) = true := T.fn_reckoned.kp
theorem Txt.bd_reckoned (T : Txt K mg) : Binds K (fd_reckoned K) ["op", "one", "other"] [] := T.fn_reckoned.bindsN fun _ _ _ _ _ _ us hl => match us, hl with | [_, _, _], _ => rfl
theorem Txt.glo_reckoned (T : Txt K mg) : mg "reckoned" = some (.ref (f_reckoned K)) := T.glo 40
theorem sc_reckoned : FnScope sc_reckoned_N ["op", "one", "other"] (defScope s_reckoned) := ⟨rfl, rfl, rfl, by decide +kernel, rfl, by decide +kernel, by decide +kernel⟩
abbrev f_maybe (K : PySem.W.Frag) : Addr := He.fAd K ("maybe", none)
abbrev fd_maybe (K : PySem.W.Frag) : FuncData := fdO K ("maybe", none)
theorem Txt.fn_maybe (T : Txt K mg) : FnP K "maybe" "maybe" s_maybe (f_maybe K) (fd_maybe K) := T.fun_ 55
theorem Txt.kp_maybe (T : Txt K mg) : PySem.W.keepIn K (.ref (f_maybe K)) = true := T.fn_maybe.kp
theorem Txt.bd_maybe (T : Txt K mg) : Binds K (fd_maybe K) ["word"] [] := T.fn_maybe.bindsN fun _ _ _ _ _ _ us hl => match us, hl with | [_], _ => rfl
theorem Txt.glo_maybe (T : Txt K mg) : mg "maybe" = some (.ref (f_maybe K)) := T.glo 41
theorem sc_maybe : FnScope sc_maybe_N ["word"] (defScope s_maybe) := ⟨rfl, rfl, rfl, by decide +kernel, rfl, by decide +kernel, by decide +kernel⟩
abbrev f_thread_of (K : PySem.W.Frag) : Addr := He.fAd K ("thread_of", none)
abbrev fd_thread_of (K : PySem.W.Frag) : FuncData := fdO K ("thread_of", none)
theorem Txt.fn_thread_of (T : Txt K mg) : FnP K "thread_of" "thread_of" s_thread_of (f_thread_of K) (fd_thread_of K) := T.fun_ 56
theorem Txt.kp_thread_of (T : Txt K mg) : PySem.W.keepIn K (.ref (f_thread_of K)) = true := T.fn_thread_of.kp
theorem Txt.bd_thread_of (T : Txt K mg) : Binds K (fd_thread_of K) ["memory", "thread"] [] := T.fn_thread_of.bindsN fun _ _ _ _ _ _ us hl => match us, hl with | [_, _], _ => rfl
theorem Txt.glo_thread_of (T : Txt K mg) : mg "thread_of" = some (.ref (f_thread_of K)) := T.glo 42
theorem sc_thread_of : FnScope sc_thread_of_N ["memory", "thread"] (defScope s_thread_of) := ⟨rfl, rfl, rfl, by decide +kernel, rfl, by decide +kernel, by decide +kernel⟩
abbrev f_device_of (K : PySem.W.Frag) : Addr := He.fAd K ("device_of", none)
abbrev fd_device_of (K : PySem.W.Frag) : FuncData := fdO K ("device_of", none)
theorem Txt.fn_device_of (T : Txt K mg) : FnP K "device_of" "device_of" s_device_of (f_device_of K) (fd_device_of K) := T.fun_ 57
theorem Txt.kp_device_of (T : Txt K mg) : PySem.W.keepIn K (.ref (f_device_of K)) = true := T.fn_device_of.kp
theorem Txt.bd_device_of (T : Txt K mg) : Binds K (fd_device_of K) ["memory", "device"] [] := T.fn_device_of.bindsN fun _ _ _ _ _ _ us hl => match us, hl with | [_, _], _ => rfl
theorem Txt.glo_device_of (T : Txt K mg) : mg "device_of" = some (.ref (f_device_of K)) := T.glo 43
theorem sc_device_of : FnScope sc_device_of_N ["memory", "device"] (defScope s_device_of) := ⟨rfl, rfl, rfl, by decide +kernel, rfl, by decide +kernel, by decide +kernel⟩
abbrev f_rows_of (K : PySem.W.Frag) : Addr := He.fAd K ("rows_of", none)
abbrev fd_rows_of (K : PySem.W.Frag) : FuncData := fdO K ("rows_of", none)
theorem Txt.fn_rows_of (T : Txt K mg) : FnP K "rows_of" "rows_of" s_rows_of (f_rows_of K) (fd_rows_of K) := T.fun_ 58
theorem Txt.kp_rows_of (T : Txt K mg) : PySem.W.keepIn K (.ref (f_rows_of K)) = true := T.fn_rows_of.kp
theorem Txt.bd_rows_of (T : Txt K mg) : Binds K (fd_rows_of K) ["memory", "frame"] [] := T.fn_rows_of.bindsN fun _ _ _ _ _ _ us hl => match us, hl with | [_, _], _ => rfl
theorem Txt.glo_rows_of (T : Txt K mg) : mg "rows_of" = some (.ref (f_rows_of K)) := T.glo 44
theorem sc_rows_of : FnScope sc_rows_of_N ["memory", "frame"] (defScope s_rows_of) := ⟨rfl, rfl, rfl, by decide +kernel, rfl, by decide +kernel, by decide +kernel⟩
abbrev f_abstracted (K : PySem.W.Frag) : Addr := He.fAd K ("abstracted", none)
abbrev fd_abstracted (K : PySem.W.Frag) : FuncData := fdO K ("abstracted", none)
theorem Txt.fn_abstracted (T : Txt K mg) : FnP K "abstracted" "abstracted" s_abstracted (f_abstracted K) (fd_abstracted K) := T.fun_ 59
theorem Txt.kp_abstracted (T : Txt K mg) : PySem.W.keepIn K (.ref (f_abstracted K)) = true := T.fn_abstracted.kp
theorem Txt.bd_abstracted (T : Txt K mg) : Binds K (fd_abstracted K) ["memory"] [] := T.fn_abstracted.bindsN fun _ _ _ _ _ _ us hl => match us, hl with | [_], _ => rfl
theorem Txt.glo_abstracted (T : Txt K mg) : mg "abstracted" = some (.ref (f_abstracted K)) := T.glo 45
theorem sc_abstracted : FnScope sc_abstracted_N ["memory"] (defScope s_abstracted) := ⟨rfl, rfl, rfl, by decide +kernel, rfl, by decide +kernel, by decide +kernel⟩
abbrev f_law_tape (K : PySem.W.Frag) : Addr := He.fAd K ("_law_tape", none)
abbrev fd_law_tape (K : PySem.W.Frag) : FuncData := fdO K ("_law_tape", none)
theorem Txt.fn_law_tape (T : Txt K mg) : FnP K "_law_tape" "_law_tape" s_law_tape (f_law_tape K) (fd_law_tape K) := T.fun_ 60
theorem Txt.kp_law_tape (T : Txt K mg) : PySem.W.keepIn K (.ref (f_law_tape K)) = true := T.fn_law_tape.kp
theorem Txt.bd_law_tape (T : Txt K mg) : Binds K (fd_law_tape K) ["script"] [] := T.fn_law_tape.bindsN fun _ _ _ _ _ _ us hl => match us, hl with | [_], _ => rfl
theorem Txt.glo_law_tape (T : Txt K mg) : mg "_law_tape" = some (.ref (f_law_tape K)) := T.glo 46
theorem sc_law_tape : FnScope sc_law_tape_N ["script"] (defScope s_law_tape) := ⟨rfl, rfl, rfl, by decide +kernel, rfl, by decide +kernel, by decide +kernel⟩
abbrev f_law_take (K : PySem.W.Frag) : Addr := He.fAd K ("_law_take", none)
abbrev fd_law_take (K : PySem.W.Frag) : FuncData := fdO K ("_law_take", none)
theorem Txt.fn_law_take (T : Txt K mg) : FnP K "_law_take" "_law_take" s_law_take (f_law_take K) (fd_law_take K) := T.fun_ 61
theorem Txt.kp_law_take (T : Txt K mg) : PySem.W.keepIn K (.ref (f_law_take K)) = true := T.fn_law_take.kp
theorem Txt.bd_law_take (T : Txt K mg) : Binds K (fd_law_take K) ["tape", "many"] [] := T.fn_law_take.bindsN fun _ _ _ _ _ _ us hl => match us, hl with | [_, _], _ => rfl
theorem Txt.glo_law_take (T : Txt K mg) : mg "_law_take" = some (.ref (f_law_take K)) := T.glo 47
theorem sc_law_take : FnScope sc_law_take_N ["tape", "many"] (defScope s_law_take) := ⟨rfl, rfl, rfl, by decide +kernel, rfl, by decide +kernel, by decide +kernel⟩
abbrev f_law_refused (K : PySem.W.Frag) : Addr := He.fAd K ("_law_refused", none)
abbrev fd_law_refused (K : PySem.W.Frag) : FuncData := fdO K ("_law_refused", none)
theorem Txt.fn_law_refused (T : Txt K mg) : FnP K "_law_refused" "_law_refused" s_law_refused (f_law_refused K) (fd_law_refused K) := T.fun_ 62
theorem Txt.kp_law_refused (T : Txt K mg) : PySem.W.keepIn K (.ref (f_law_refused K)) = true := T.fn_law_refused.kp
theorem Txt.bd_law_refused (T : Txt K mg) : Binds K (fd_law_refused K) ["call"] [] := T.fn_law_refused.bindsN fun _ _ _ _ _ _ us hl => match us, hl with | [_], _ => rfl
theorem Txt.glo_law_refused (T : Txt K mg) : mg "_law_refused" = some (.ref (f_law_refused K)) := T.glo 48
theorem sc_law_refused : FnScope sc_law_refused_N ["call"] (defScope s_law_refused) := ⟨rfl, rfl, rfl, by decide +kernel, rfl, by decide +kernel, by decide +kernel⟩
abbrev f_law_trapped (K : PySem.W.Frag) : Addr := He.fAd K ("_law_trapped", none)
abbrev fd_law_trapped (K : PySem.W.Frag) : FuncData := fdO K ("_law_trapped", none)
theorem Txt.fn_law_trapped (T : Txt K mg) : FnP K "_law_trapped" "_law_trapped" s_law_trapped (f_law_trapped K) (fd_law_trapped K) := T.fun_ 63
theorem Txt.kp_law_trapped (T : Txt K mg) : PySem.W.keepIn K (.ref (f_law_trapped K)) = true := T.fn_law_trapped.kp
theorem Txt.bd_law_trapped (T : Txt K mg) : Binds K (fd_law_trapped K) ["memory", "number", "arguments"] [] := T.fn_law_trapped.bindsN fun _ _ _ _ _ _ us hl => match us, hl with | [_, _, _], _ => rfl
theorem Txt.glo_law_trapped (T : Txt K mg) : mg "_law_trapped" = some (.ref (f_law_trapped K)) := T.glo 49
theorem sc_law_trapped : FnScope sc_law_trapped_N ["memory", "number", "arguments"] (defScope s_law_trapped) := ⟨rfl, rfl, rfl, by decide +kernel, rfl, by decide +kernel, by decide +kernel⟩
abbrev f_law (K : PySem.W.Frag) : Addr := He.fAd K ("law", none)
abbrev fd_law (K : PySem.W.Frag) : FuncData := fdO K ("law", none)
theorem Txt.fn_law (T : Txt K mg) : FnP K "law" "law" s_law (f_law K) (fd_law K) := T.fun_ 64
theorem Txt.kp_law (T : Txt K mg) : PySem.W.keepIn K (.ref (f_law K)) = true := T.fn_law.kp
theorem Txt.bd_law (T : Txt K mg) : Binds K (fd_law K) ["script"] [] := T.fn_law.bindsN fun _ _ _ _ _ _ us hl => match us, hl with | [_], _ => rfl
theorem Txt.glo_law (T : Txt K mg) : mg "law" = some (.ref (f_law K)) := T.glo 50
theorem sc_law : FnScope sc_law_N ["script"] (defScope s_law) := ⟨rfl, rfl, rfl, by decide +kernel, rfl, by decide +kernel, by decide +kernel⟩
theorem Txt.glo_InvalidBoot (T : Txt K mg) : mg "InvalidBoot" = some (.ref (He.ga K "InvalidBoot")) := T.glo 51
theorem Txt.glo_Memory (T : Txt K mg) : mg "Memory" = some (.ref (He.ga K "Memory")) := T.glo 52
theorem Txt.cl_Memory (T : Txt K mg) : Cls K (He.ga K "Memory") := He.cls_ok (T.fact 53)
theorem Txt.mk_Memory (T : Txt K mg) : Mk K (He.ga K "Memory") (He.ma K (He.ga K "Memory") "__init__") := He.mkr_ok (T.fact 54)
theorem Txt.no_Memory_words (T : Txt K mg) : NoAttr K (He.ga K "Memory") "_words" := He.noat_ok (T.fact 55)
theorem Txt.no_Memory_disks (T : Txt K mg) : NoAttr K (He.ga K "Memory") "_disks" := He.noat_ok (T.fact 56)
theorem Txt.mt_Memory_word (T : Txt K mg) : Meth K (He.ga K "Memory") "word" (He.ma K (He.ga K "Memory") "word") := He.meth_ok (T.fact 57)
theorem Txt.mt_Memory_put (T : Txt K mg) : Meth K (He.ga K "Memory") "put" (He.ma K (He.ga K "Memory") "put") := He.meth_ok (T.fact 58)
theorem Txt.mt_Memory_clear (T : Txt K mg) : Meth K (He.ga K "Memory") "clear" (He.ma K (He.ga K "Memory") "clear") := He.meth_ok (T.fact 59)
theorem Txt.mt_Memory_frame (T : Txt K mg) : Meth K (He.ga K "Memory") "frame" (He.ma K (He.ga K "Memory") "frame") := He.meth_ok (T.fact 60)
theorem Txt.mt_Memory_words (T : Txt K mg) : Meth K (He.ga K "Memory") "words" (He.ma K (He.ga K "Memory") "words") := He.meth_ok (T.fact 61)
theorem Txt.mt_Memory_lay_disk (T : Txt K mg) : Meth K (He.ga K "Memory") "lay_disk" (He.ma K (He.ga K "Memory") "lay_disk") := He.meth_ok (T.fact 62)
theorem Txt.mt_Memory_disk (T : Txt K mg) : Meth K (He.ga K "Memory") "disk" (He.ma K (He.ga K "Memory") "disk") := He.meth_ok (T.fact 63)
theorem Txt.mt_Memory_laid (T : Txt K mg) : Meth K (He.ga K "Memory") "laid" (He.ma K (He.ga K "Memory") "laid") := He.meth_ok (T.fact 64)
theorem Txt.mt_Memory_put_sector (T : Txt K mg) : Meth K (He.ga K "Memory") "put_sector" (He.ma K (He.ga K "Memory") "put_sector") := He.meth_ok (T.fact 65)
theorem Txt.mt_Memory_load (T : Txt K mg) : Meth K (He.ga K "Memory") "load" (He.ma K (He.ga K "Memory") "load") := He.meth_ok (T.fact 66)
theorem Txt.glo_Machine (T : Txt K mg) : mg "Machine" = some (.ref (He.ga K "Machine")) := T.glo 67
theorem Txt.cl_Machine (T : Txt K mg) : Cls K (He.ga K "Machine") := He.cls_ok (T.fact 68)
theorem Txt.mk_Machine (T : Txt K mg) : Mk K (He.ga K "Machine") (He.ma K (He.ga K "Machine") "__init__") := He.mkr_ok (T.fact 69)
theorem Txt.no_Machine_memory (T : Txt K mg) : NoAttr K (He.ga K "Machine") "_memory" := He.noat_ok (T.fact 70)
theorem Txt.no_Machine_most (T : Txt K mg) : NoAttr K (He.ga K "Machine") "_most" := He.noat_ok (T.fact 71)
theorem Txt.no_Machine_kept (T : Txt K mg) : NoAttr K (He.ga K "Machine") "_kept" := He.noat_ok (T.fact 72)
theorem Txt.no_Machine_counts (T : Txt K mg) : NoAttr K (He.ga K "Machine") "_counts" := He.noat_ok (T.fact 73)
theorem Txt.mt_Machine_memory (T : Txt K mg) : Meth K (He.ga K "Machine") "memory" (He.ma K (He.ga K "Machine") "memory") := He.meth_ok (T.fact 74)
theorem Txt.mt_Machine_lookups (T : Txt K mg) : Meth K (He.ga K "Machine") "lookups" (He.ma K (He.ga K "Machine") "lookups") := He.meth_ok (T.fact 75)
theorem Txt.mt_Machine_counts (T : Txt K mg) : Meth K (He.ga K "Machine") "counts" (He.ma K (He.ga K "Machine") "counts") := He.meth_ok (T.fact 76)
theorem Txt.mt_Machine_entry (T : Txt K mg) : Meth K (He.ga K "Machine") "_entry" (He.ma K (He.ga K "Machine") "_entry") := He.meth_ok (T.fact 77)
theorem Txt.mt_Machine_place_of (T : Txt K mg) : Meth K (He.ga K "Machine") "place_of" (He.ma K (He.ga K "Machine") "place_of") := He.meth_ok (T.fact 78)
theorem Txt.mt_Machine_forget (T : Txt K mg) : Meth K (He.ga K "Machine") "forget" (He.ma K (He.ga K "Machine") "forget") := He.meth_ok (T.fact 79)
theorem Txt.mt_Machine_tick (T : Txt K mg) : Meth K (He.ga K "Machine") "tick" (He.ma K (He.ga K "Machine") "tick") := He.meth_ok (T.fact 80)
theorem Txt.mt_Machine_step (T : Txt K mg) : Meth K (He.ga K "Machine") "step" (He.ma K (He.ga K "Machine") "step") := He.meth_ok (T.fact 81)
theorem Txt.mt_Machine_run (T : Txt K mg) : Meth K (He.ga K "Machine") "run" (He.ma K (He.ga K "Machine") "run") := He.meth_ok (T.fact 82)
theorem Txt.mt_Machine_rise (T : Txt K mg) : Meth K (He.ga K "Machine") "rise" (He.ma K (He.ga K "Machine") "rise") := He.meth_ok (T.fact 83)
theorem Txt.mt_Machine_image (T : Txt K mg) : Meth K (He.ga K "Machine") "image" (He.ma K (He.ga K "Machine") "image") := He.meth_ok (T.fact 84)
theorem Txt.c_WORD (T : Txt K mg) : ∃ t, mg "WORD" = some (.int 65536 t) := T.int 85
theorem Txt.pg_WORD {X : Cx} {pos : Pos} (T : Txt X.K X.mg) (hg : Gl X "WORD" := by rfl) : PE X (.Name "WORD" pos) (tC (.int 65536)) := by
  obtain ⟨t, e⟩ := T.c_WORD
  exact pe_glob hg e ⟨t, rfl⟩
theorem Txt.c_FRAME (T : Txt K mg) : ∃ t, mg "FRAME" = some (.int 64 t) := T.int 86
theorem Txt.pg_FRAME {X : Cx} {pos : Pos} (T : Txt X.K X.mg) (hg : Gl X "FRAME" := by rfl) : PE X (.Name "FRAME" pos) (tC (.int 64)) := by
  obtain ⟨t, e⟩ := T.c_FRAME
  exact pe_glob hg e ⟨t, rfl⟩
theorem Txt.c_FRAMES (T : Txt K mg) : ∃ t, mg "FRAMES" = some (.int 32 t) := T.int 87
theorem Txt.pg_FRAMES {X : Cx} {pos : Pos} (T : Txt X.K X.mg) (hg : Gl X "FRAMES" := by rfl) : PE X (.Name "FRAMES" pos) (tC (.int 32)) := by
  obtain ⟨t, e⟩ := T.c_FRAMES
  exact pe_glob hg e ⟨t, rfl⟩
theorem Txt.c_SLOTS (T : Txt K mg) : ∃ t, mg "SLOTS" = some (.int 8 t) := T.int 88
theorem Txt.pg_SLOTS {X : Cx} {pos : Pos} (T : Txt X.K X.mg) (hg : Gl X "SLOTS" := by rfl) : PE X (.Name "SLOTS" pos) (tC (.int 8)) := by
  obtain ⟨t, e⟩ := T.c_SLOTS
  exact pe_glob hg e ⟨t, rfl⟩
theorem Txt.c_ENTRIES (T : Txt K mg) : ∃ t, mg "ENTRIES" = some (.int 8 t) := T.int 89
theorem Txt.pg_ENTRIES {X : Cx} {pos : Pos} (T : Txt X.K X.mg) (hg : Gl X "ENTRIES" := by rfl) : PE X (.Name "ENTRIES" pos) (tC (.int 8)) := by
  obtain ⟨t, e⟩ := T.c_ENTRIES
  exact pe_glob hg e ⟨t, rfl⟩
theorem Txt.c_PRIORITIES (T : Txt K mg) : ∃ t, mg "PRIORITIES" = some (.int 4 t) := T.int 90
theorem Txt.pg_PRIORITIES {X : Cx} {pos : Pos} (T : Txt X.K X.mg) (hg : Gl X "PRIORITIES" := by rfl) : PE X (.Name "PRIORITIES" pos) (tC (.int 4)) := by
  obtain ⟨t, e⟩ := T.c_PRIORITIES
  exact pe_glob hg e ⟨t, rfl⟩
theorem Txt.c_DOMAINS (T : Txt K mg) : ∃ t, mg "DOMAINS" = some (.int 2 t) := T.int 91
theorem Txt.pg_DOMAINS {X : Cx} {pos : Pos} (T : Txt X.K X.mg) (hg : Gl X "DOMAINS" := by rfl) : PE X (.Name "DOMAINS" pos) (tC (.int 2)) := by
  obtain ⟨t, e⟩ := T.c_DOMAINS
  exact pe_glob hg e ⟨t, rfl⟩
theorem Txt.c_LINES (T : Txt K mg) : ∃ t, mg "LINES" = some (.int 4 t) := T.int 92
theorem Txt.pg_LINES {X : Cx} {pos : Pos} (T : Txt X.K X.mg) (hg : Gl X "LINES" := by rfl) : PE X (.Name "LINES" pos) (tC (.int 4)) := by
  obtain ⟨t, e⟩ := T.c_LINES
  exact pe_glob hg e ⟨t, rfl⟩
theorem Txt.c_PARTS (T : Txt K mg) : ∃ t, mg "PARTS" = some (.int 4 t) := T.int 93
theorem Txt.pg_PARTS {X : Cx} {pos : Pos} (T : Txt X.K X.mg) (hg : Gl X "PARTS" := by rfl) : PE X (.Name "PARTS" pos) (tC (.int 4)) := by
  obtain ⟨t, e⟩ := T.c_PARTS
  exact pe_glob hg e ⟨t, rfl⟩
theorem Txt.c_FREE (T : Txt K mg) : ∃ t, mg "FREE" = some (.int 0 t) := T.int 94
theorem Txt.pg_FREE {X : Cx} {pos : Pos} (T : Txt X.K X.mg) (hg : Gl X "FREE" := by rfl) : PE X (.Name "FREE" pos) (tC (.int 0)) := by
  obtain ⟨t, e⟩ := T.c_FREE
  exact pe_glob hg e ⟨t, rfl⟩
theorem Txt.c_UNTYPED (T : Txt K mg) : ∃ t, mg "UNTYPED" = some (.int 1 t) := T.int 95
theorem Txt.pg_UNTYPED {X : Cx} {pos : Pos} (T : Txt X.K X.mg) (hg : Gl X "UNTYPED" := by rfl) : PE X (.Name "UNTYPED" pos) (tC (.int 1)) := by
  obtain ⟨t, e⟩ := T.c_UNTYPED
  exact pe_glob hg e ⟨t, rfl⟩
theorem Txt.c_PAGE (T : Txt K mg) : ∃ t, mg "PAGE" = some (.int 2 t) := T.int 96
theorem Txt.pg_PAGE {X : Cx} {pos : Pos} (T : Txt X.K X.mg) (hg : Gl X "PAGE" := by rfl) : PE X (.Name "PAGE" pos) (tC (.int 2)) := by
  obtain ⟨t, e⟩ := T.c_PAGE
  exact pe_glob hg e ⟨t, rfl⟩
theorem Txt.c_TABLE (T : Txt K mg) : ∃ t, mg "TABLE" = some (.int 3 t) := T.int 97
theorem Txt.pg_TABLE {X : Cx} {pos : Pos} (T : Txt X.K X.mg) (hg : Gl X "TABLE" := by rfl) : PE X (.Name "TABLE" pos) (tC (.int 3)) := by
  obtain ⟨t, e⟩ := T.c_TABLE
  exact pe_glob hg e ⟨t, rfl⟩
theorem Txt.c_CAPS (T : Txt K mg) : ∃ t, mg "CAPS" = some (.int 4 t) := T.int 98
theorem Txt.pg_CAPS {X : Cx} {pos : Pos} (T : Txt X.K X.mg) (hg : Gl X "CAPS" := by rfl) : PE X (.Name "CAPS" pos) (tC (.int 4)) := by
  obtain ⟨t, e⟩ := T.c_CAPS
  exact pe_glob hg e ⟨t, rfl⟩
theorem Txt.c_THREAD (T : Txt K mg) : ∃ t, mg "THREAD" = some (.int 5 t) := T.int 99
theorem Txt.pg_THREAD {X : Cx} {pos : Pos} (T : Txt X.K X.mg) (hg : Gl X "THREAD" := by rfl) : PE X (.Name "THREAD" pos) (tC (.int 5)) := by
  obtain ⟨t, e⟩ := T.c_THREAD
  exact pe_glob hg e ⟨t, rfl⟩
theorem Txt.c_END (T : Txt K mg) : ∃ t, mg "END" = some (.int 6 t) := T.int 100
theorem Txt.pg_END {X : Cx} {pos : Pos} (T : Txt X.K X.mg) (hg : Gl X "END" := by rfl) : PE X (.Name "END" pos) (tC (.int 6)) := by
  obtain ⟨t, e⟩ := T.c_END
  exact pe_glob hg e ⟨t, rfl⟩
theorem Txt.c_NOTICE (T : Txt K mg) : ∃ t, mg "NOTICE" = some (.int 7 t) := T.int 101
theorem Txt.pg_NOTICE {X : Cx} {pos : Pos} (T : Txt X.K X.mg) (hg : Gl X "NOTICE" := by rfl) : PE X (.Name "NOTICE" pos) (tC (.int 7)) := by
  obtain ⟨t, e⟩ := T.c_NOTICE
  exact pe_glob hg e ⟨t, rfl⟩
theorem Txt.c_DEVICE (T : Txt K mg) : ∃ t, mg "DEVICE" = some (.int 8 t) := T.int 102
theorem Txt.pg_DEVICE {X : Cx} {pos : Pos} (T : Txt X.K X.mg) (hg : Gl X "DEVICE" := by rfl) : PE X (.Name "DEVICE" pos) (tC (.int 8)) := by
  obtain ⟨t, e⟩ := T.c_DEVICE
  exact pe_glob hg e ⟨t, rfl⟩
theorem Txt.glo_KINDS (T : Txt K mg) : mg "KINDS" = some (.ref (He.ga K "KINDS")) := T.glo 103
theorem Txt.pg_KINDS {X : Cx} {pos : Pos} (T : Txt X.K X.mg) (hg : Gl X "KINDS" := by rfl) : PE X (.Name "KINDS" pos) (tC (.ref (He.ga X.K "KINDS"))) := pe_glob hg T.glo_KINDS rfl
theorem Txt.pgk_KINDS {X : Cx} {pos : Pos} (T : Txt K mg) (hK : X.K = K) (hm : X.mg = mg) (hg : Gl X "KINDS") : PE X (.Name "KINDS" pos) (tC (.ref (He.ga K "KINDS"))) := by
  subst hK hm
  exact pe_glob hg T.glo_KINDS rfl
abbrev v_KINDS : List V := [V.int 0, V.int 1, V.int 2, V.int 3, V.int 4, V.int 5, V.int 6, V.int 7, V.int 8]
theorem Txt.c_READ (T : Txt K mg) : ∃ t, mg "READ" = some (.int 1 t) := T.int 104
theorem Txt.pg_READ {X : Cx} {pos : Pos} (T : Txt X.K X.mg) (hg : Gl X "READ" := by rfl) : PE X (.Name "READ" pos) (tC (.int 1)) := by
  obtain ⟨t, e⟩ := T.c_READ
  exact pe_glob hg e ⟨t, rfl⟩
theorem Txt.c_WRITE (T : Txt K mg) : ∃ t, mg "WRITE" = some (.int 2 t) := T.int 105
theorem Txt.pg_WRITE {X : Cx} {pos : Pos} (T : Txt X.K X.mg) (hg : Gl X "WRITE" := by rfl) : PE X (.Name "WRITE" pos) (tC (.int 2)) := by
  obtain ⟨t, e⟩ := T.c_WRITE
  exact pe_glob hg e ⟨t, rfl⟩
theorem Txt.c_GRANT (T : Txt K mg) : ∃ t, mg "GRANT" = some (.int 4 t) := T.int 106
theorem Txt.pg_GRANT {X : Cx} {pos : Pos} (T : Txt X.K X.mg) (hg : Gl X "GRANT" := by rfl) : PE X (.Name "GRANT" pos) (tC (.int 4)) := by
  obtain ⟨t, e⟩ := T.c_GRANT
  exact pe_glob hg e ⟨t, rfl⟩
theorem Txt.c_ALL (T : Txt K mg) : ∃ t, mg "ALL" = some (.int 7 t) := T.int 107
theorem Txt.pg_ALL {X : Cx} {pos : Pos} (T : Txt X.K X.mg) (hg : Gl X "ALL" := by rfl) : PE X (.Name "ALL" pos) (tC (.int 7)) := by
  obtain ⟨t, e⟩ := T.c_ALL
  exact pe_glob hg e ⟨t, rfl⟩
theorem Txt.c_STOPPED (T : Txt K mg) : ∃ t, mg "STOPPED" = some (.int 0 t) := T.int 108
theorem Txt.pg_STOPPED {X : Cx} {pos : Pos} (T : Txt X.K X.mg) (hg : Gl X "STOPPED" := by rfl) : PE X (.Name "STOPPED" pos) (tC (.int 0)) := by
  obtain ⟨t, e⟩ := T.c_STOPPED
  exact pe_glob hg e ⟨t, rfl⟩
theorem Txt.c_READY (T : Txt K mg) : ∃ t, mg "READY" = some (.int 1 t) := T.int 109
theorem Txt.pg_READY {X : Cx} {pos : Pos} (T : Txt X.K X.mg) (hg : Gl X "READY" := by rfl) : PE X (.Name "READY" pos) (tC (.int 1)) := by
  obtain ⟨t, e⟩ := T.c_READY
  exact pe_glob hg e ⟨t, rfl⟩
theorem Txt.c_SENDING (T : Txt K mg) : ∃ t, mg "SENDING" = some (.int 2 t) := T.int 110
theorem Txt.pg_SENDING {X : Cx} {pos : Pos} (T : Txt X.K X.mg) (hg : Gl X "SENDING" := by rfl) : PE X (.Name "SENDING" pos) (tC (.int 2)) := by
  obtain ⟨t, e⟩ := T.c_SENDING
  exact pe_glob hg e ⟨t, rfl⟩
theorem Txt.c_RECEIVING (T : Txt K mg) : ∃ t, mg "RECEIVING" = some (.int 3 t) := T.int 111
theorem Txt.pg_RECEIVING {X : Cx} {pos : Pos} (T : Txt X.K X.mg) (hg : Gl X "RECEIVING" := by rfl) : PE X (.Name "RECEIVING" pos) (tC (.int 3)) := by
  obtain ⟨t, e⟩ := T.c_RECEIVING
  exact pe_glob hg e ⟨t, rfl⟩
theorem Txt.c_WAITING (T : Txt K mg) : ∃ t, mg "WAITING" = some (.int 4 t) := T.int 112
theorem Txt.pg_WAITING {X : Cx} {pos : Pos} (T : Txt X.K X.mg) (hg : Gl X "WAITING" := by rfl) : PE X (.Name "WAITING" pos) (tC (.int 4)) := by
  obtain ⟨t, e⟩ := T.c_WAITING
  exact pe_glob hg e ⟨t, rfl⟩
theorem Txt.c_ASKED (T : Txt K mg) : ∃ t, mg "ASKED" = some (.int 5 t) := T.int 113
theorem Txt.pg_ASKED {X : Cx} {pos : Pos} (T : Txt X.K X.mg) (hg : Gl X "ASKED" := by rfl) : PE X (.Name "ASKED" pos) (tC (.int 5)) := by
  obtain ⟨t, e⟩ := T.c_ASKED
  exact pe_glob hg e ⟨t, rfl⟩
theorem Txt.c_CALLING (T : Txt K mg) : ∃ t, mg "CALLING" = some (.int 6 t) := T.int 114
theorem Txt.pg_CALLING {X : Cx} {pos : Pos} (T : Txt X.K X.mg) (hg : Gl X "CALLING" := by rfl) : PE X (.Name "CALLING" pos) (tC (.int 6)) := by
  obtain ⟨t, e⟩ := T.c_CALLING
  exact pe_glob hg e ⟨t, rfl⟩
theorem Txt.c_FAULTED (T : Txt K mg) : ∃ t, mg "FAULTED" = some (.int 7 t) := T.int 115
theorem Txt.pg_FAULTED {X : Cx} {pos : Pos} (T : Txt X.K X.mg) (hg : Gl X "FAULTED" := by rfl) : PE X (.Name "FAULTED" pos) (tC (.int 7)) := by
  obtain ⟨t, e⟩ := T.c_FAULTED
  exact pe_glob hg e ⟨t, rfl⟩
theorem Txt.glo_QUEUED (T : Txt K mg) : mg "QUEUED" = some (.ref (He.ga K "QUEUED")) := T.glo 116
theorem Txt.pg_QUEUED {X : Cx} {pos : Pos} (T : Txt X.K X.mg) (hg : Gl X "QUEUED" := by rfl) : PE X (.Name "QUEUED" pos) (tC (.ref (He.ga X.K "QUEUED"))) := pe_glob hg T.glo_QUEUED rfl
theorem Txt.pgk_QUEUED {X : Cx} {pos : Pos} (T : Txt K mg) (hK : X.K = K) (hm : X.mg = mg) (hg : Gl X "QUEUED") : PE X (.Name "QUEUED" pos) (tC (.ref (He.ga K "QUEUED"))) := by
  subst hK hm
  exact pe_glob hg T.glo_QUEUED rfl
abbrev v_QUEUED : List V := [V.int 2, V.int 3, V.int 4, V.int 6, V.int 7]
theorem Txt.c_KERNEL (T : Txt K mg) : ∃ t, mg "KERNEL" = some (.int 0 t) := T.int 117
theorem Txt.pg_KERNEL {X : Cx} {pos : Pos} (T : Txt X.K X.mg) (hg : Gl X "KERNEL" := by rfl) : PE X (.Name "KERNEL" pos) (tC (.int 0)) := by
  obtain ⟨t, e⟩ := T.c_KERNEL
  exact pe_glob hg e ⟨t, rfl⟩
theorem Txt.c_KIND_FRAME (T : Txt K mg) : ∃ t, mg "KIND_FRAME" = some (.int 1 t) := T.int 118
theorem Txt.pg_KIND_FRAME {X : Cx} {pos : Pos} (T : Txt X.K X.mg) (hg : Gl X "KIND_FRAME" := by rfl) : PE X (.Name "KIND_FRAME" pos) (tC (.int 1)) := by
  obtain ⟨t, e⟩ := T.c_KIND_FRAME
  exact pe_glob hg e ⟨t, rfl⟩
theorem Txt.c_T_STATE (T : Txt K mg) : ∃ t, mg "T_STATE" = some (.int 0 t) := T.int 119
theorem Txt.pg_T_STATE {X : Cx} {pos : Pos} (T : Txt X.K X.mg) (hg : Gl X "T_STATE" := by rfl) : PE X (.Name "T_STATE" pos) (tC (.int 0)) := by
  obtain ⟨t, e⟩ := T.c_T_STATE
  exact pe_glob hg e ⟨t, rfl⟩
theorem Txt.c_T_PC (T : Txt K mg) : ∃ t, mg "T_PC" = some (.int 1 t) := T.int 120
theorem Txt.pg_T_PC {X : Cx} {pos : Pos} (T : Txt X.K X.mg) (hg : Gl X "T_PC" := by rfl) : PE X (.Name "T_PC" pos) (tC (.int 1)) := by
  obtain ⟨t, e⟩ := T.c_T_PC
  exact pe_glob hg e ⟨t, rfl⟩
theorem Txt.c_T_REGISTERS (T : Txt K mg) : ∃ t, mg "T_REGISTERS" = some (.int 2 t) := T.int 121
theorem Txt.pg_T_REGISTERS {X : Cx} {pos : Pos} (T : Txt X.K X.mg) (hg : Gl X "T_REGISTERS" := by rfl) : PE X (.Name "T_REGISTERS" pos) (tC (.int 2)) := by
  obtain ⟨t, e⟩ := T.c_T_REGISTERS
  exact pe_glob hg e ⟨t, rfl⟩
theorem Txt.c_T_CAPS (T : Txt K mg) : ∃ t, mg "T_CAPS" = some (.int 10 t) := T.int 122
theorem Txt.pg_T_CAPS {X : Cx} {pos : Pos} (T : Txt X.K X.mg) (hg : Gl X "T_CAPS" := by rfl) : PE X (.Name "T_CAPS" pos) (tC (.int 10)) := by
  obtain ⟨t, e⟩ := T.c_T_CAPS
  exact pe_glob hg e ⟨t, rfl⟩
theorem Txt.c_T_TABLE (T : Txt K mg) : ∃ t, mg "T_TABLE" = some (.int 11 t) := T.int 123
theorem Txt.pg_T_TABLE {X : Cx} {pos : Pos} (T : Txt X.K X.mg) (hg : Gl X "T_TABLE" := by rfl) : PE X (.Name "T_TABLE" pos) (tC (.int 11)) := by
  obtain ⟨t, e⟩ := T.c_T_TABLE
  exact pe_glob hg e ⟨t, rfl⟩
theorem Txt.c_T_PRIORITY (T : Txt K mg) : ∃ t, mg "T_PRIORITY" = some (.int 12 t) := T.int 124
theorem Txt.pg_T_PRIORITY {X : Cx} {pos : Pos} (T : Txt X.K X.mg) (hg : Gl X "T_PRIORITY" := by rfl) : PE X (.Name "T_PRIORITY" pos) (tC (.int 12)) := by
  obtain ⟨t, e⟩ := T.c_T_PRIORITY
  exact pe_glob hg e ⟨t, rfl⟩
theorem Txt.c_T_BUDGET (T : Txt K mg) : ∃ t, mg "T_BUDGET" = some (.int 13 t) := T.int 125
theorem Txt.pg_T_BUDGET {X : Cx} {pos : Pos} (T : Txt X.K X.mg) (hg : Gl X "T_BUDGET" := by rfl) : PE X (.Name "T_BUDGET" pos) (tC (.int 13)) := by
  obtain ⟨t, e⟩ := T.c_T_BUDGET
  exact pe_glob hg e ⟨t, rfl⟩
theorem Txt.c_T_LEFT (T : Txt K mg) : ∃ t, mg "T_LEFT" = some (.int 14 t) := T.int 126
theorem Txt.pg_T_LEFT {X : Cx} {pos : Pos} (T : Txt X.K X.mg) (hg : Gl X "T_LEFT" := by rfl) : PE X (.Name "T_LEFT" pos) (tC (.int 14)) := by
  obtain ⟨t, e⟩ := T.c_T_LEFT
  exact pe_glob hg e ⟨t, rfl⟩
theorem Txt.c_T_NEXT (T : Txt K mg) : ∃ t, mg "T_NEXT" = some (.int 15 t) := T.int 127
theorem Txt.pg_T_NEXT {X : Cx} {pos : Pos} (T : Txt X.K X.mg) (hg : Gl X "T_NEXT" := by rfl) : PE X (.Name "T_NEXT" pos) (tC (.int 15)) := by
  obtain ⟨t, e⟩ := T.c_T_NEXT
  exact pe_glob hg e ⟨t, rfl⟩
theorem Txt.c_T_ON (T : Txt K mg) : ∃ t, mg "T_ON" = some (.int 16 t) := T.int 128
theorem Txt.pg_T_ON {X : Cx} {pos : Pos} (T : Txt X.K X.mg) (hg : Gl X "T_ON" := by rfl) : PE X (.Name "T_ON" pos) (tC (.int 16)) := by
  obtain ⟨t, e⟩ := T.c_T_ON
  exact pe_glob hg e ⟨t, rfl⟩
theorem Txt.c_T_BADGE (T : Txt K mg) : ∃ t, mg "T_BADGE" = some (.int 17 t) := T.int 129
theorem Txt.pg_T_BADGE {X : Cx} {pos : Pos} (T : Txt X.K X.mg) (hg : Gl X "T_BADGE" := by rfl) : PE X (.Name "T_BADGE" pos) (tC (.int 17)) := by
  obtain ⟨t, e⟩ := T.c_T_BADGE
  exact pe_glob hg e ⟨t, rfl⟩
theorem Txt.c_T_HANDLER (T : Txt K mg) : ∃ t, mg "T_HANDLER" = some (.int 18 t) := T.int 130
theorem Txt.pg_T_HANDLER {X : Cx} {pos : Pos} (T : Txt X.K X.mg) (hg : Gl X "T_HANDLER" := by rfl) : PE X (.Name "T_HANDLER" pos) (tC (.int 18)) := by
  obtain ⟨t, e⟩ := T.c_T_HANDLER
  exact pe_glob hg e ⟨t, rfl⟩
theorem Txt.c_T_CODE (T : Txt K mg) : ∃ t, mg "T_CODE" = some (.int 19 t) := T.int 131
theorem Txt.pg_T_CODE {X : Cx} {pos : Pos} (T : Txt X.K X.mg) (hg : Gl X "T_CODE" := by rfl) : PE X (.Name "T_CODE" pos) (tC (.int 19)) := by
  obtain ⟨t, e⟩ := T.c_T_CODE
  exact pe_glob hg e ⟨t, rfl⟩
theorem Txt.c_T_ADDRESS (T : Txt K mg) : ∃ t, mg "T_ADDRESS" = some (.int 20 t) := T.int 132
theorem Txt.pg_T_ADDRESS {X : Cx} {pos : Pos} (T : Txt X.K X.mg) (hg : Gl X "T_ADDRESS" := by rfl) : PE X (.Name "T_ADDRESS" pos) (tC (.int 20)) := by
  obtain ⟨t, e⟩ := T.c_T_ADDRESS
  exact pe_glob hg e ⟨t, rfl⟩
theorem Txt.c_T_REPLY (T : Txt K mg) : ∃ t, mg "T_REPLY" = some (.int 21 t) := T.int 133
theorem Txt.pg_T_REPLY {X : Cx} {pos : Pos} (T : Txt X.K X.mg) (hg : Gl X "T_REPLY" := by rfl) : PE X (.Name "T_REPLY" pos) (tC (.int 21)) := by
  obtain ⟨t, e⟩ := T.c_T_REPLY
  exact pe_glob hg e ⟨t, rfl⟩
theorem Txt.c_T_DOMAIN (T : Txt K mg) : ∃ t, mg "T_DOMAIN" = some (.int 22 t) := T.int 134
theorem Txt.pg_T_DOMAIN {X : Cx} {pos : Pos} (T : Txt X.K X.mg) (hg : Gl X "T_DOMAIN" := by rfl) : PE X (.Name "T_DOMAIN" pos) (tC (.int 22)) := by
  obtain ⟨t, e⟩ := T.c_T_DOMAIN
  exact pe_glob hg e ⟨t, rfl⟩
theorem Txt.c_T_RIGHTS (T : Txt K mg) : ∃ t, mg "T_RIGHTS" = some (.int 23 t) := T.int 135
theorem Txt.pg_T_RIGHTS {X : Cx} {pos : Pos} (T : Txt X.K X.mg) (hg : Gl X "T_RIGHTS" := by rfl) : PE X (.Name "T_RIGHTS" pos) (tC (.int 23)) := by
  obtain ⟨t, e⟩ := T.c_T_RIGHTS
  exact pe_glob hg e ⟨t, rfl⟩
theorem Txt.c_T_LENT (T : Txt K mg) : ∃ t, mg "T_LENT" = some (.int 24 t) := T.int 136
theorem Txt.pg_T_LENT {X : Cx} {pos : Pos} (T : Txt X.K X.mg) (hg : Gl X "T_LENT" := by rfl) : PE X (.Name "T_LENT" pos) (tC (.int 24)) := by
  obtain ⟨t, e⟩ := T.c_T_LENT
  exact pe_glob hg e ⟨t, rfl⟩
theorem Txt.c_D_STATUS (T : Txt K mg) : ∃ t, mg "D_STATUS" = some (.int 0 t) := T.int 137
theorem Txt.pg_D_STATUS {X : Cx} {pos : Pos} (T : Txt X.K X.mg) (hg : Gl X "D_STATUS" := by rfl) : PE X (.Name "D_STATUS" pos) (tC (.int 0)) := by
  obtain ⟨t, e⟩ := T.c_D_STATUS
  exact pe_glob hg e ⟨t, rfl⟩
theorem Txt.c_D_ORDER (T : Txt K mg) : ∃ t, mg "D_ORDER" = some (.int 1 t) := T.int 138
theorem Txt.pg_D_ORDER {X : Cx} {pos : Pos} (T : Txt X.K X.mg) (hg : Gl X "D_ORDER" := by rfl) : PE X (.Name "D_ORDER" pos) (tC (.int 1)) := by
  obtain ⟨t, e⟩ := T.c_D_ORDER
  exact pe_glob hg e ⟨t, rfl⟩
theorem Txt.c_D_SECTOR (T : Txt K mg) : ∃ t, mg "D_SECTOR" = some (.int 2 t) := T.int 139
theorem Txt.pg_D_SECTOR {X : Cx} {pos : Pos} (T : Txt X.K X.mg) (hg : Gl X "D_SECTOR" := by rfl) : PE X (.Name "D_SECTOR" pos) (tC (.int 2)) := by
  obtain ⟨t, e⟩ := T.c_D_SECTOR
  exact pe_glob hg e ⟨t, rfl⟩
theorem Txt.c_D_PAGE (T : Txt K mg) : ∃ t, mg "D_PAGE" = some (.int 3 t) := T.int 140
theorem Txt.pg_D_PAGE {X : Cx} {pos : Pos} (T : Txt X.K X.mg) (hg : Gl X "D_PAGE" := by rfl) : PE X (.Name "D_PAGE" pos) (tC (.int 3)) := by
  obtain ⟨t, e⟩ := T.c_D_PAGE
  exact pe_glob hg e ⟨t, rfl⟩
theorem Txt.c_D_LEFT (T : Txt K mg) : ∃ t, mg "D_LEFT" = some (.int 4 t) := T.int 141
theorem Txt.pg_D_LEFT {X : Cx} {pos : Pos} (T : Txt X.K X.mg) (hg : Gl X "D_LEFT" := by rfl) : PE X (.Name "D_LEFT" pos) (tC (.int 4)) := by
  obtain ⟨t, e⟩ := T.c_D_LEFT
  exact pe_glob hg e ⟨t, rfl⟩
theorem Txt.c_D_LINE (T : Txt K mg) : ∃ t, mg "D_LINE" = some (.int 5 t) := T.int 142
theorem Txt.pg_D_LINE {X : Cx} {pos : Pos} (T : Txt X.K X.mg) (hg : Gl X "D_LINE" := by rfl) : PE X (.Name "D_LINE" pos) (tC (.int 5)) := by
  obtain ⟨t, e⟩ := T.c_D_LINE
  exact pe_glob hg e ⟨t, rfl⟩
theorem Txt.c_GUARDED (T : Txt K mg) : ∃ t, mg "GUARDED" = some (.int 4 t) := T.int 143
theorem Txt.pg_GUARDED {X : Cx} {pos : Pos} (T : Txt X.K X.mg) (hg : Gl X "GUARDED" := by rfl) : PE X (.Name "GUARDED" pos) (tC (.int 4)) := by
  obtain ⟨t, e⟩ := T.c_GUARDED
  exact pe_glob hg e ⟨t, rfl⟩
theorem Txt.c_BUSY (T : Txt K mg) : ∃ t, mg "BUSY" = some (.int 1 t) := T.int 144
theorem Txt.pg_BUSY {X : Cx} {pos : Pos} (T : Txt X.K X.mg) (hg : Gl X "BUSY" := by rfl) : PE X (.Name "BUSY" pos) (tC (.int 1)) := by
  obtain ⟨t, e⟩ := T.c_BUSY
  exact pe_glob hg e ⟨t, rfl⟩
theorem Txt.c_DONE (T : Txt K mg) : ∃ t, mg "DONE" = some (.int 2 t) := T.int 145
theorem Txt.pg_DONE {X : Cx} {pos : Pos} (T : Txt X.K X.mg) (hg : Gl X "DONE" := by rfl) : PE X (.Name "DONE" pos) (tC (.int 2)) := by
  obtain ⟨t, e⟩ := T.c_DONE
  exact pe_glob hg e ⟨t, rfl⟩
theorem Txt.c_FAILED (T : Txt K mg) : ∃ t, mg "FAILED" = some (.int 3 t) := T.int 146
theorem Txt.pg_FAILED {X : Cx} {pos : Pos} (T : Txt X.K X.mg) (hg : Gl X "FAILED" := by rfl) : PE X (.Name "FAILED" pos) (tC (.int 3)) := by
  obtain ⟨t, e⟩ := T.c_FAILED
  exact pe_glob hg e ⟨t, rfl⟩
theorem Txt.c_K_TIME (T : Txt K mg) : ∃ t, mg "K_TIME" = some (.int 0 t) := T.int 147
theorem Txt.pg_K_TIME {X : Cx} {pos : Pos} (T : Txt X.K X.mg) (hg : Gl X "K_TIME" := by rfl) : PE X (.Name "K_TIME" pos) (tC (.int 0)) := by
  obtain ⟨t, e⟩ := T.c_K_TIME
  exact pe_glob hg e ⟨t, rfl⟩
theorem Txt.c_K_PART (T : Txt K mg) : ∃ t, mg "K_PART" = some (.int 1 t) := T.int 148
theorem Txt.pg_K_PART {X : Cx} {pos : Pos} (T : Txt X.K X.mg) (hg : Gl X "K_PART" := by rfl) : PE X (.Name "K_PART" pos) (tC (.int 1)) := by
  obtain ⟨t, e⟩ := T.c_K_PART
  exact pe_glob hg e ⟨t, rfl⟩
theorem Txt.c_K_LEFT (T : Txt K mg) : ∃ t, mg "K_LEFT" = some (.int 2 t) := T.int 149
theorem Txt.pg_K_LEFT {X : Cx} {pos : Pos} (T : Txt X.K X.mg) (hg : Gl X "K_LEFT" := by rfl) : PE X (.Name "K_LEFT" pos) (tC (.int 2)) := by
  obtain ⟨t, e⟩ := T.c_K_LEFT
  exact pe_glob hg e ⟨t, rfl⟩
theorem Txt.c_K_HEADS (T : Txt K mg) : ∃ t, mg "K_HEADS" = some (.int 4 t) := T.int 150
theorem Txt.pg_K_HEADS {X : Cx} {pos : Pos} (T : Txt X.K X.mg) (hg : Gl X "K_HEADS" := by rfl) : PE X (.Name "K_HEADS" pos) (tC (.int 4)) := by
  obtain ⟨t, e⟩ := T.c_K_HEADS
  exact pe_glob hg e ⟨t, rfl⟩
theorem Txt.c_K_TAILS (T : Txt K mg) : ∃ t, mg "K_TAILS" = some (.int 12 t) := T.int 151
theorem Txt.pg_K_TAILS {X : Cx} {pos : Pos} (T : Txt X.K X.mg) (hg : Gl X "K_TAILS" := by rfl) : PE X (.Name "K_TAILS" pos) (tC (.int 12)) := by
  obtain ⟨t, e⟩ := T.c_K_TAILS
  exact pe_glob hg e ⟨t, rfl⟩
theorem Txt.c_K_LINES (T : Txt K mg) : ∃ t, mg "K_LINES" = some (.int 20 t) := T.int 152
theorem Txt.pg_K_LINES {X : Cx} {pos : Pos} (T : Txt X.K X.mg) (hg : Gl X "K_LINES" := by rfl) : PE X (.Name "K_LINES" pos) (tC (.int 20)) := by
  obtain ⟨t, e⟩ := T.c_K_LINES
  exact pe_glob hg e ⟨t, rfl⟩
theorem Txt.c_K_PLAN (T : Txt K mg) : ∃ t, mg "K_PLAN" = some (.int 24 t) := T.int 153
theorem Txt.pg_K_PLAN {X : Cx} {pos : Pos} (T : Txt X.K X.mg) (hg : Gl X "K_PLAN" := by rfl) : PE X (.Name "K_PLAN" pos) (tC (.int 24)) := by
  obtain ⟨t, e⟩ := T.c_K_PLAN
  exact pe_glob hg e ⟨t, rfl⟩
theorem Txt.c_OK (T : Txt K mg) : ∃ t, mg "OK" = some (.int 0 t) := T.int 154
theorem Txt.pg_OK {X : Cx} {pos : Pos} (T : Txt X.K X.mg) (hg : Gl X "OK" := by rfl) : PE X (.Name "OK" pos) (tC (.int 0)) := by
  obtain ⟨t, e⟩ := T.c_OK
  exact pe_glob hg e ⟨t, rfl⟩
theorem Txt.c_NO_CAP (T : Txt K mg) : ∃ t, mg "NO_CAP" = some (.int 1 t) := T.int 155
theorem Txt.pg_NO_CAP {X : Cx} {pos : Pos} (T : Txt X.K X.mg) (hg : Gl X "NO_CAP" := by rfl) : PE X (.Name "NO_CAP" pos) (tC (.int 1)) := by
  obtain ⟨t, e⟩ := T.c_NO_CAP
  exact pe_glob hg e ⟨t, rfl⟩
theorem Txt.c_TAKEN (T : Txt K mg) : ∃ t, mg "TAKEN" = some (.int 3 t) := T.int 156
theorem Txt.pg_TAKEN {X : Cx} {pos : Pos} (T : Txt X.K X.mg) (hg : Gl X "TAKEN" := by rfl) : PE X (.Name "TAKEN" pos) (tC (.int 3)) := by
  obtain ⟨t, e⟩ := T.c_TAKEN
  exact pe_glob hg e ⟨t, rfl⟩
theorem Txt.c_NO_ROOM (T : Txt K mg) : ∃ t, mg "NO_ROOM" = some (.int 4 t) := T.int 157
theorem Txt.pg_NO_ROOM {X : Cx} {pos : Pos} (T : Txt X.K X.mg) (hg : Gl X "NO_ROOM" := by rfl) : PE X (.Name "NO_ROOM" pos) (tC (.int 4)) := by
  obtain ⟨t, e⟩ := T.c_NO_ROOM
  exact pe_glob hg e ⟨t, rfl⟩
theorem Txt.c_NO_SENSE (T : Txt K mg) : ∃ t, mg "NO_SENSE" = some (.int 5 t) := T.int 158
theorem Txt.pg_NO_SENSE {X : Cx} {pos : Pos} (T : Txt X.K X.mg) (hg : Gl X "NO_SENSE" := by rfl) : PE X (.Name "NO_SENSE" pos) (tC (.int 5)) := by
  obtain ⟨t, e⟩ := T.c_NO_SENSE
  exact pe_glob hg e ⟨t, rfl⟩
theorem Txt.c_GONE (T : Txt K mg) : ∃ t, mg "GONE" = some (.int 6 t) := T.int 159
theorem Txt.pg_GONE {X : Cx} {pos : Pos} (T : Txt X.K X.mg) (hg : Gl X "GONE" := by rfl) : PE X (.Name "GONE" pos) (tC (.int 6)) := by
  obtain ⟨t, e⟩ := T.c_GONE
  exact pe_glob hg e ⟨t, rfl⟩
theorem Txt.c_BAD_CODE (T : Txt K mg) : ∃ t, mg "BAD_CODE" = some (.int 1 t) := T.int 160
theorem Txt.pg_BAD_CODE {X : Cx} {pos : Pos} (T : Txt X.K X.mg) (hg : Gl X "BAD_CODE" := by rfl) : PE X (.Name "BAD_CODE" pos) (tC (.int 1)) := by
  obtain ⟨t, e⟩ := T.c_BAD_CODE
  exact pe_glob hg e ⟨t, rfl⟩
theorem Txt.c_BAD_PLACE (T : Txt K mg) : ∃ t, mg "BAD_PLACE" = some (.int 2 t) := T.int 161
theorem Txt.pg_BAD_PLACE {X : Cx} {pos : Pos} (T : Txt X.K X.mg) (hg : Gl X "BAD_PLACE" := by rfl) : PE X (.Name "BAD_PLACE" pos) (tC (.int 2)) := by
  obtain ⟨t, e⟩ := T.c_BAD_PLACE
  exact pe_glob hg e ⟨t, rfl⟩
theorem Txt.c_BAD_TRAP (T : Txt K mg) : ∃ t, mg "BAD_TRAP" = some (.int 3 t) := T.int 162
theorem Txt.pg_BAD_TRAP {X : Cx} {pos : Pos} (T : Txt X.K X.mg) (hg : Gl X "BAD_TRAP" := by rfl) : PE X (.Name "BAD_TRAP" pos) (tC (.int 3)) := by
  obtain ⟨t, e⟩ := T.c_BAD_TRAP
  exact pe_glob hg e ⟨t, rfl⟩
theorem Txt.glo_DOERS (T : Txt K mg) : mg "DOERS" = some (.ref (He.ga K "DOERS")) := T.glo 163
theorem Txt.pg_DOERS {X : Cx} {pos : Pos} (T : Txt X.K X.mg) (hg : Gl X "DOERS" := by rfl) : PE X (.Name "DOERS" pos) (tC (.ref (He.ga X.K "DOERS"))) := pe_glob hg T.glo_DOERS rfl
theorem Txt.c_EACH (T : Txt K mg) : ∃ t, mg "EACH" = some (.int 5 t) := T.int 164
theorem Txt.pg_EACH {X : Cx} {pos : Pos} (T : Txt X.K X.mg) (hg : Gl X "EACH" := by rfl) : PE X (.Name "EACH" pos) (tC (.int 5)) := by
  obtain ⟨t, e⟩ := T.c_EACH
  exact pe_glob hg e ⟨t, rfl⟩
theorem Txt.glo_CHANGING (T : Txt K mg) : mg "CHANGING" = some (.ref (He.ga K "CHANGING")) := T.glo 165
theorem Txt.pg_CHANGING {X : Cx} {pos : Pos} (T : Txt X.K X.mg) (hg : Gl X "CHANGING" := by rfl) : PE X (.Name "CHANGING" pos) (tC (.ref (He.ga X.K "CHANGING"))) := pe_glob hg T.glo_CHANGING rfl
theorem Txt.pgk_CHANGING {X : Cx} {pos : Pos} (T : Txt K mg) (hK : X.K = K) (hm : X.mg = mg) (hg : Gl X "CHANGING") : PE X (.Name "CHANGING" pos) (tC (.ref (He.ga K "CHANGING"))) := by
  subst hK hm
  exact pe_glob hg T.glo_CHANGING rfl
abbrev v_CHANGING : List V := [V.int 8, V.int 9, V.int 10, V.int 12, V.int 13]
theorem Txt.exc_InvalidBoot (T : Txt K mg) : PySem.W.excIn K (He.ga K "InvalidBoot") He.veBase "ValueError.__new__" = true ∧ PySem.W.keepIn K (.ref (He.ga K "InvalidBoot")) = true ∧ PySem.W.subIn K (.ref (He.ga K "InvalidBoot")) (.type "BaseException") = some true ∧ PySem.W.typeIn K (.ref (He.ga K "InvalidBoot")) = some (.type "type") := He.exc_ok (T.fact 181)
theorem Txt.raises_InvalidBoot {X : Cx} (T : Txt X.K X.mg) : Raises X (.ref (He.ga X.K "InvalidBoot")) := raises_own T.exc_InvalidBoot.2.2.1 T.exc_InvalidBoot.2.2.2
theorem Txt.exm_InvalidBoot (T : Txt K mg) : PySem.W.exmOne K (.ref (He.ga K "InvalidBoot")) (.ref (He.ga K "InvalidBoot")) = some true := of_decide_eq_true (T.exi 3 rfl)
theorem tyv_of {K : PySem.W.Frag} {x : Str} (h : (match K.lookup (He.ga K x) with | some o => o.dict.isNone && decide (o.cls = .type "tuple") | none => false) = true) (H : Hp) : tyV K "tuple" (.ref (He.ga K x)) H := by
  cases e : K.lookup (He.ga K x) with
  | none => rw [e] at h; cases h
  | some o =>
    rw [e] at h
    obtain ⟨h1, h2⟩ := He.ba h
    exact Or.inr (Or.inl ⟨rfl, o, e, of_decide_eq_true h2, Option.isNone_iff_eq_none.mp h1⟩)
theorem Txt.tup_KINDS (T : Txt K mg) (H : Hp) : SqT K H (He.ga K "KINDS") v_KINDS := He.tupB_ok (He.ba (T.exi 0 rfl : tupB2 K "KINDS" _ = true)).1 H
theorem Txt.ty_KINDS (T : Txt K mg) (H : Hp) : tyV K "tuple" (.ref (He.ga K "KINDS")) H := tyv_of (He.ba (T.exi 0 rfl : tupB2 K "KINDS" _ = true)).2 H
theorem Txt.tup_QUEUED (T : Txt K mg) (H : Hp) : SqT K H (He.ga K "QUEUED") v_QUEUED := He.tupB_ok (He.ba (T.exi 1 rfl : tupB2 K "QUEUED" _ = true)).1 H
theorem Txt.ty_QUEUED (T : Txt K mg) (H : Hp) : tyV K "tuple" (.ref (He.ga K "QUEUED")) H := tyv_of (He.ba (T.exi 1 rfl : tupB2 K "QUEUED" _ = true)).2 H
theorem Txt.tup_CHANGING (T : Txt K mg) (H : Hp) : SqT K H (He.ga K "CHANGING") v_CHANGING := He.tupB_ok (He.ba (T.exi 2 rfl : tupB2 K "CHANGING" _ = true)).1 H
theorem Txt.ty_CHANGING (T : Txt K mg) (H : Hp) : tyV K "tuple" (.ref (He.ga K "CHANGING")) H := tyv_of (He.ba (T.exi 2 rfl : tupB2 K "CHANGING" _ = true)).2 H
theorem Txt.free_abs (T : Txt K mg) : mg "abs" = none := T.free_at 166 rfl
theorem Txt.free_all (T : Txt K mg) : mg "all" = none := T.free_at 167 rfl
theorem Txt.free_any (T : Txt K mg) : mg "any" = none := T.free_at 168 rfl
theorem Txt.free_enumerate (T : Txt K mg) : mg "enumerate" = none := T.free_at 169 rfl
theorem Txt.free_int (T : Txt K mg) : mg "int" = none := T.free_at 170 rfl
theorem Txt.free_len (T : Txt K mg) : mg "len" = none := T.free_at 171 rfl
theorem Txt.free_list (T : Txt K mg) : mg "list" = none := T.free_at 172 rfl
theorem Txt.free_max (T : Txt K mg) : mg "max" = none := T.free_at 173 rfl
theorem Txt.free_min (T : Txt K mg) : mg "min" = none := T.free_at 174 rfl
theorem Txt.free_range (T : Txt K mg) : mg "range" = none := T.free_at 175 rfl
theorem Txt.free_sorted (T : Txt K mg) : mg "sorted" = none := T.free_at 176 rfl
theorem Txt.free_str (T : Txt K mg) : mg "str" = none := T.free_at 177 rfl
theorem Txt.free_sum (T : Txt K mg) : mg "sum" = none := T.free_at 178 rfl
theorem Txt.free_tuple (T : Txt K mg) : mg "tuple" = none := T.free_at 179 rfl
theorem Txt.free_zip (T : Txt K mg) : mg "zip" = none := T.free_at 180 rfl
end
/-! ### rules whose readings name the pieces' facts, for places within a comprehension or a try: there K must be said -/
section
variable {X : Cx} {K : PySem.W.Frag}
abbrev rLenK (K : PySem.W.Frag) : List V → Hp → VK → Prop := fun xs H Q => ∃ x n, xs = [x] ∧ LenV K x H n ∧ Q (.int n) H
abbrev rJoinK (K : PySem.W.Frag) : V → List V → Hp → VK → Prop := fun x xs H Q => ∃ a p, ∃ ys : List Str, x = .str a ∧ xs = [.ref p] ∧ (SqL K H p (ys.map V.str) ∨ SqT K H p (ys.map V.str)) ∧ (ys.map (·.length)).sum + ys.length * a.length ≤ 16777216 ∧ Q (.str (Txt.join a ys)) H
abbrev rTupK (K : PySem.W.Frag) : List V → Hp → VK → Prop := fun xs H Q => ∃ p ys, xs = [.ref p] ∧ ((SqL K H p ys ∧ ∀ l, H l = none → Q (.ref l) (upd H l (.tup ys))) ∨ (SqT K H p ys ∧ Q (.ref p) H))
theorem pe_joinK {o e : Expr} {to te : TE} {apos pos : Pos} (hK : X.K = K) (ho : PE X o to) (he : PE X e te) (hs : starEach [e] X.env = [(false, eval e X.env)] := by rfl) (hbase : attributeBase o "join" X.env (eval o X.env) = eval o X.env := by rfl) (hline : (apos.endLine == pos.line) = true := by rfl) :
    PE X (.Call (.Attribute o "join" apos) [e] [] pos) (tM1 (rJoinK K) to te) := by
  subst hK
  exact pe_join ho he hs hbase hline
theorem pi_listK {l tg : Expr} {tl : TE} (hK : X.K = K) (hl : PE X l tl) : PI X tg l (iList K tl) := by
  subst hK
  exact pi_list hl
theorem pi_tupK {l tg : Expr} {tl : TE} (hK : X.K = K) (hl : PE X l tl) : PI X tg l (iTup K tl) := by
  subst hK
  exact pi_tup hl
end

end KA

namespace KA
open PySem PySem.Spec PyProof.Rows L2
/-! ### the law's code object and its table, which is empty -/
def strB : Value → Bool
  | .str _ _ => true
  | _ => false
def intB : Value → Bool
  | .int _ _ => true
  | _ => false
def boolB : Value → Bool
  | .bool _ => true
  | _ => false
def clsB : Value → Bool
  | .type x => decide (x = "code")
  | _ => false
def tabB : Obj → Bool
  | ⟨.none, .none, .fields ps, sl⟩ => decide (ps.toList = []) && decide (sl.toList = [])
  | _ => false
def vsB (g : Addr → Option Obj) (c : Addr) (vs : Array Value) : Bool := match (vs[11]? : Option Value) with
  | some (.ref P) => strB (vs.getD 18 .none) && intB (vs.getD 7 .none) && boolB (vs.getD 9 .none) && intB (vs.getD 10 .none) && !decide (c = P) && (match g P with
    | some o => tabB o
    | none => false)
  | _ => false
def codeB (g : Addr → Option Obj) (K : PySem.W.Frag) : Bool := match (fdO K ("law", none)).code with
  | .ref c => (match g c with
    | some o => clsB o.cls && (match o.data with
      | .fields vs => vsB g c vs
      | _ => false)
    | none => false)
  | _ => false
theorem strB_ok {v : Value} (h : strB v = true) : ∃ x t, v = .str x t := by
  cases v with
  | str x t => exact ⟨x, t, rfl⟩
  | _ => cases h
theorem intB_ok {v : Value} (h : intB v = true) : ∃ x t, v = .int x t := by
  cases v with
  | int x t => exact ⟨x, t, rfl⟩
  | _ => cases h
theorem boolB_ok {v : Value} (h : boolB v = true) : ∃ x, v = .bool x := by
  cases v with
  | bool x => exact ⟨x, rfl⟩
  | _ => cases h
theorem clsB_ok {v : Value} (h : clsB v = true) : v = .type "code" := by
  cases v with
  | type x => exact congrArg Value.type (of_decide_eq_true h)
  | _ => cases h
theorem tabB_ok {o : Obj} (h : tabB o = true) : o = { cls := .none, data := .fields #[] } := by
  obtain ⟨c, d, dt, sl⟩ := o
  cases c with
  | none =>
    cases d with
    | none =>
      cases dt with
      | fields ps =>
        have h2 : (decide (ps.toList = []) && decide (sl.toList = [])) = true := h
        rw [Bool.and_eq_true] at h2
        have e1 : ps = #[] := Array.toList_eq_nil_iff.mp (of_decide_eq_true h2.1)
        have e2 : sl = #[] := Array.toList_eq_nil_iff.mp (of_decide_eq_true h2.2)
        rw [e1, e2]
      | _ => cases h
    | some _ => cases h
  | _ => cases h
theorem codeB_ok {h : Heap} {K : PySem.W.Frag} (e : codeB h.get? K = true) : ∃ c P, (fdO K ("law", none)).code = .ref c ∧ PySem.W.CodeHd h c P ∧ h.get? P = some { cls := .none, data := .fields #[] } := by
  unfold codeB at e
  split at e
  · rename_i c hc
    split at e
    · rename_i o ho
      rw [Bool.and_eq_true] at e
      obtain ⟨e1, e2⟩ := e
      split at e2
      · rename_i vs hvs
        unfold vsB at e2
        split at e2
        · rename_i P hP
          simp only [Bool.and_eq_true] at e2
          obtain ⟨⟨⟨⟨⟨a1, a2⟩, a3⟩, a4⟩, a5⟩, a6⟩ := e2
          split at a6
          · rename_i oP hoP
            obtain ⟨x1, t1, b1⟩ := strB_ok a1
            obtain ⟨x2, t2, b2⟩ := intB_ok a2
            obtain ⟨x3, b3⟩ := boolB_ok a3
            obtain ⟨x4, t4, b4⟩ := intB_ok a4
            have hne : c ≠ P := fun z => by
              rw [decide_eq_true z] at a5
              cases a5
            refine ⟨c, P, hc, ⟨o, vs, x1, t1, x2, t2, x3, x4, t4, ho, clsB_ok e1, hvs, hP, ?_, b1, b2, b3, b4, hne⟩, by rw [hoP, tabB_ok a6]⟩
            rw [Array.getD_eq_getD_getElem?, hP]
            rfl
          · cases a6
        · cases e2
      · cases e2
    · cases e
  · cases e
/-- the facts and the table -/
abbrev AlT : Type := AlY × Bool
def obsTb (n : (Addr → Option Obj) → List Addr) (fa : List He.Fa) (fn : List He.DefD) (cl : List CloD) (ex : PySem.W.Frag → List Bool) (g : Addr → Option Obj) : AlT := (obsY n fa fn cl ex g, codeB g (He.frG g (n g)))
def hookT (n : (Addr → Option Obj) → List Addr) (fa : List He.Fa) (fn : List He.DefD) (cl : List CloD) (ex : PySem.W.Frag → List Bool) : PySem.W.Hook where
  α := AlT
  obs := fun s => obsTb n fa fn cl ex s.heap.get?
  val := fun _ => (valY fn cl, true)
  says := fun _ h => ∃ K : PySem.W.Frag, K.In h ∧ obsK fa fn cl ex K = valY fn cl ∧ ∃ c P, (fdO K ("law", none)).code = .ref c ∧ PySem.W.CodeHd h c P ∧ h.get? P = some { cls := .none, data := .fields #[] }
  of := fun _ _ e => ⟨_, He.frG_in, congrArg (fun z : AlT => z.1) e, codeB_ok (congrArg (fun z : AlT => z.2) e)⟩
  keeps := fun _ _ _ ⟨K, hK, c, c1, P, e1, e2, e3⟩ k => ⟨K, PySem.W.Frag.In.keeps hK k, c, c1, P, e1, e2.keeps k, k _ _ e3⟩
theorem obsT_eq {n : (Addr → Option Obj) → List Addr} {fa : List He.Fa} {fn : List He.DefD} {cl : List CloD} {ex : PySem.W.Frag → List Bool} {g : Addr → Option Obj} {s : Shared} (h : ∀ a, g a = s.heap.get? a) : obsTb n fa fn cl ex g = (hookT n fa fn cl ex).obs s := by
  have e : g = s.heap.get? := funext h
  rw [e] <;> rfl
theorem noTab {K : PySem.W.Frag} {h : Heap} {P : Addr} (X : K.In h) (hn : PySem.W.noTabs K = true) (hP : h.get? P = some { cls := .none, data := .fields #[] }) : K.lookup P = none := by
  cases e : K.lookup P with
  | none => rfl
  | some o =>
    have h1 := X P o e
    rw [hP] at h1
    cases h1
    have h2 := List.all_eq_true.mp hn (P, _) (PySem.W.mem_of_lookupK e)
    exact absurd (show false = true from h2) Bool.false_ne_true
theorem noTabs_of {mg : Str → Option Value} {K : PySem.W.Frag} (T : Txt K mg) : PySem.W.noTabs K = true := T.more 4
end KA

namespace KA
open PySem PySem.Spec PyProof.Rows L2
abbrev R : PySem.W.OpenRow := PySem.W.OpenLaw.row PySem.Challenge.rw_keptapart_k15_whole_disks_and_power
def fNames0 : List Str := ["rank", "ready_place", "push", "members", "take_out", "kind_of", "frames_of", "cap_at", "field", "put_field", "put_cap", "slots_of", "slot_of", "own_cap", "entry_at", "entries_of", "entry", "put_entry", "get_register", "put_register", "domain_now", "chosen", "spent", "next_part", "own_table", "map_page", "unmap_page", "trap", "line_rises", "any_trap"]
def fNames1 : List Str := ["order", "status", "devices_go", "device_does", "power_goes", "booted", "with_device", "begin_part", "begin_link", "parts_of", "reckoned", "maybe", "thread_of", "device_of", "rows_of", "abstracted", "_law_tape", "_law_take", "_law_refused", "_law_trapped", "law", "KINDS", "QUEUED", "CHANGING", "DOERS"]
def fNames : List Str := fNames0 ++ fNames1
def cNames : List Str := ["Memory", "Machine", "InvalidBoot", "ApartError"]
abbrev hk : PySem.W.Hook := hookT (asN fNames cNames) fa fn cl exs
def ob (s : PySem.W.SharedT) : AlT := obsTb (asN fNames cNames) fa fn cl exs (HandSHeadRun.getT s)
theorem ob_eq (s : PySem.W.SharedT) : ob s = hk.obs s.abs := obsT_eq (HandSHeadRun.getT_eq s)
def names0 : List Str := ["_wall", "WORD", "FRAME", "FRAMES", "SLOTS", "ENTRIES", "PRIORITIES", "DOMAINS", "LINES", "PARTS", "FREE", "UNTYPED", "PAGE", "TABLE", "CAPS", "THREAD", "END", "NOTICE", "DEVICE", "KINDS", "READ", "WRITE", "GRANT", "ALL", "STOPPED", "READY", "SENDING", "RECEIVING", "WAITING", "ASKED"]
def names1 : List Str := ["CALLING", "FAULTED", "QUEUED", "KERNEL", "KIND_FRAME", "T_STATE", "T_PC", "T_REGISTERS", "T_CAPS", "T_TABLE", "T_PRIORITY", "T_BUDGET", "T_LEFT", "T_NEXT", "T_ON", "T_BADGE", "T_HANDLER", "T_CODE", "T_ADDRESS", "T_REPLY", "T_DOMAIN", "T_RIGHTS", "T_LENT", "D_STATUS", "D_ORDER", "D_SECTOR", "D_PAGE", "D_LEFT", "D_LINE", "GUARDED"]
def names2 : List Str := ["BUSY", "DONE", "FAILED", "K_TIME", "K_PART", "K_LEFT", "K_HEADS", "K_TAILS", "K_LINES", "K_PLAN", "OK", "NO_CAP", "TAKEN", "NO_ROOM", "NO_SENSE", "GONE", "BAD_CODE", "BAD_PLACE", "BAD_TRAP", "rank", "ready_place", "push", "members", "take_out", "wake", "block", "first_of", "cancel", "again", "drop_reply"]
def names3 : List Str := ["give_up", "wake_all", "kind_of", "frames_of", "cap_at", "field", "put_field", "put_cap", "slots_of", "slot_of", "own_cap", "free_slot", "entry_at", "entries_of", "entry", "put_entry", "unmap_slot", "child_of", "move_slot", "delete_slot", "destroy", "forget", "revoke_slot", "get_register", "put_register", "domain_now", "chosen", "spent", "next_part", "message_of"]
def names4 : List Str := ["deliver", "hand_on", "meet", "send", "receive", "reply", "signal_on", "signal", "wait", "mint", "move", "retype", "own_table", "map_page", "unmap_page", "bind", "over_thread", "DOERS", "trap", "fault", "line_rises", "any_trap", "order", "status", "devices_go", "device_does", "power_goes", "ApartError", "InvalidBoot", "Memory"]
def names5 : List Str := ["EACH", "booted", "with_device", "begin_part", "begin_link", "parts_of", "CHANGING", "Machine", "reckoned", "maybe", "thread_of", "device_of", "rows_of", "abstracted", "_law_tape", "_law_take", "_law_refused", "_law_trapped"]
def names : List Str := names0 ++ names1 ++ names2 ++ names3 ++ names4 ++ names5
theorem runF (w : World) : HandSHeadRun.RunEq R (PySem.W.view R.prog [179]) hk ob 8000 names (w.withFollow "special-get-raises" false) := by
  intro os
  kernel_rfl
theorem runT (w : World) : HandSHeadRun.RunEq R (PySem.W.view R.prog [179]) hk ob 8000 names (w.withFollow "special-get-raises" true) := by
  intro os
  kernel_rfl
theorem run (w : World) : HandSHeadRun.RunEq R (PySem.W.view R.prog [179]) hk ob 8000 names w := PySem.W.byRow2 "special-get-raises" (P := fun w => HandSHeadRun.RunEq R (PySem.W.view R.prog [179]) hk ob 8000 names w) runF runT w
end KA


namespace KA
open PySem PySem.Spec PyProof.Rows L2 Evl TL
theorem et_yes {σ : L2.St} {H : Hp} : EvT (fun _ H Q => Q true H) σ H true := fun H1 _ _ q => q H1 (Ex.refl H1)
theorem ev_pure {sp : Sp} {dvs vs : List V} {E : XK} {ta : TA} {z : V} {σ : L2.St} {H : Hp} (h : EvA ta σ H vs) (hs : ∀ H1, Ex H H1 → ∀ Q : VK, (∀ H2, Ex H1 H2 → Q z H2) → sp (vs ++ dvs) H1 Q E) : Ev (tCall sp dvs E ta) σ H z := fun H1 e Q q =>
  h H1 e _ fun H2 e2 => hs H2 (e.trans e2) _ fun H3 e3 => q H3 (e2.trans e3)
section
variable {σ : L2.St} {H : Hp} {K : PySem.W.Frag} {D : Ends}
theorem q_parVV {i j : Nat} {ta tb : TE} {tz : TS} {v w : V} (ha : Ev ta σ H v) (hb : Ev tb σ H w) (k : ∀ H1, Ex H H1 → tz D ((σ.set i (some v)).set j (some w)) H1) :
    tSeq (tPar i j (tCons ta (tCons tb tNil))) tz D σ H := ha H (Ex.refl H) _ fun H1 e1 => hb H1 e1 _ fun H2 e2 => ⟨v, w, rfl, k H2 (e1.trans e2)⟩
theorem rv_isN {x : V} : RV (fun x y H Q => y = .non ∧ Q (.bl (decide (x = .non))) H) x .non H (.bl (decide (x = .non))) := fun H1 _ _ q => ⟨rfl, q H1 (Ex.refl H1)⟩
theorem rv_notN {x : V} : RV (fun x y H Q => y = .non ∧ Q (.bl (!decide (x = .non))) H) x .non H (.bl (!decide (x = .non))) := fun H1 _ _ q => ⟨rfl, q H1 (Ex.refl H1)⟩
theorem ev_div {ta tb : TE} {i j : Int} (ha : Ev ta σ H (.int i)) (hb : Ev tb σ H (.int j)) (h : 0 < j ∧ j < 1073741824) : Ev (tOp (rI CDiv fun i j => .int (i / j)) ta tb) σ H (.int (i / j)) := ev_op ha hb (rv_I h)
theorem ev_mod {ta tb : TE} {i j : Int} (ha : Ev ta σ H (.int i)) (hb : Ev tb σ H (.int j)) (h : 0 < j) : Ev (tOp (rI (fun _ j => 0 < j) fun i j => .int (i % j)) ta tb) σ H (.int (i % j)) := ev_op ha hb (rv_I h)
end
/-! ### the memory: a list of 2048 words -/
abbrev CM (K : PySem.W.Frag) : Addr := He.ga K "Memory"
abbrev Mem : Type := Nat → Int
def lW (μ : Mem) : List V := (List.range 2048).map fun i => V.int (μ i)
def mset (μ : Mem) (i : Nat) (w : Int) : Mem := fun j => if j = i then w % 65536 else μ j
theorem lW_len (μ : Mem) : (lW μ).length = 2048 := by simp [lW]
theorem lW_at {μ : Mem} {i : Nat} (h : i < 2048) : (lW μ)[i]? = some (.int (μ i)) := by
  unfold lW
  rw [List.getElem?_map, List.getElem?_range h]
  rfl
theorem lW_set {μ : Mem} {i : Nat} {w : Int} (h : i < 2048) : (lW μ).set i (.int (w % 65536)) = lW (mset μ i w) := by
  apply List.ext_getElem?
  intro j
  rw [List.getElem?_set]
  by_cases hj : j < 2048
  · rw [lW_at hj, lW_at hj, lW_len]
    unfold mset
    by_cases e : i = j
    · subst e
      simp [h]
    · rw [if_neg e, if_neg (Ne.symm e)]
  · have e1 : (lW μ)[j]? = none := List.getElem?_eq_none (by rw [lW_len]; omega)
    have e2 : (lW (mset μ i w))[j]? = none := List.getElem?_eq_none (by rw [lW_len]; omega)
    rw [e1, e2, if_neg (by omega)]
/-- all stands but the words -/
def Fr (wl : Addr) (H H' : Hp) : Prop := ∀ b o, H b = some o → b ≠ wl → H' b = some o
theorem Fr.of {wl : Addr} {H H' : Hp} (e : Ex H H') : Fr wl H H' := fun b o h _ => e b o h
theorem Fr.refl {wl : Addr} {H : Hp} : Fr wl H H := fun b o h _ => h
theorem Fr.trans {wl : Addr} {H H1 H2 : Hp} (a : Fr wl H H1) (b : Fr wl H1 H2) : Fr wl H H2 := fun c o h n => b c o (a c o h n) n
theorem Fr.put {wl : Addr} {H : Hp} {o : HO} : Fr wl H (L2.upd H wl o) := fun b u h n => by rw [upd_ne n]; exact h
structure MemAt (K : PySem.W.Frag) (H : Hp) (m wl : Addr) (μ : Mem) : Prop where
  ins : ∃ dx dd, H m = some (.ins (CM K) dx [("_words", .ref wl), ("_disks", .ref dd)]) ∧ ∃ kvs, H dd = some (.dK kvs)
  ws : H wl = some (.lst (lW μ))
section
variable {K : PySem.W.Frag} {H H' : Hp} {m wl : Addr} {μ : Mem}
theorem MemAt.ne (h : MemAt K H m wl μ) : m ≠ wl := by
  obtain ⟨⟨dx, dd, h1, h2⟩, h3⟩ := h
  exact ne_of h1 h3 (by intro z; cases z)
theorem MemAt.keep (h : MemAt K H m wl μ) (e : Ex H H') : MemAt K H' m wl μ := by
  obtain ⟨⟨dx, dd, h1, kvs, h2⟩, h3⟩ := h
  exact ⟨⟨dx, dd, e _ _ h1, kvs, e _ _ h2⟩, e _ _ h3⟩
/-- another list of words -/
theorem MemAt.upd (h : MemAt K H m wl μ) {μ' : Mem} : MemAt K (L2.upd H wl (.lst (lW μ'))) m wl μ' := by
  obtain ⟨⟨dx, dd, h1, kvs, h2⟩, h3⟩ := h
  have n1 : m ≠ wl := ne_of h1 h3 (by intro z; cases z)
  have n2 : dd ≠ wl := ne_of h2 h3 (by intro z; cases z)
  exact ⟨⟨dx, dd, by rw [upd_ne n1]; exact h1, kvs, by rw [upd_ne n2]; exact h2⟩, upd_same⟩
end
/-- the index of a word -/
def ix (f p : Int) : Nat := (f * 64 + p).toNat
abbrev InM (f p : Int) : Prop := 0 ≤ f * 64 + p ∧ f * 64 + p < 2048
section
variable {P : Program} {w : World} {K : PySem.W.Frag} {mg : Str → Option Value} {base : Heap}
def sp_word (K : PySem.W.Frag) : Sp := fun vs H Q _ => ∃ (m wl : Addr) (μ : Mem) (f p : Int), vs = [.ref m, .int f, .int p] ∧ MemAt K H m wl μ ∧ InM f p ∧ ∀ H', Ex H H' → Q (.int (μ (ix f p))) H'
theorem ok_Memory_word (T : Txt K mg) : FnOk P w K mg base CX0 1 (f_Memory_word K) (fd_Memory_word K) ["self", "frame", "place"] (sp_word K) := by
  refine T.fn_Memory_word.ok sc_Memory_word (fun vs H Q E h => ?_) (fun cdv A outer s H vs Q E hr h => ⟨_, PSs.nox (pss_one (ps_ret (pe_ix ix_list (pe_fld (pv 0) rfl) (pe_op op_add (pe_op op_mul (pv 1) (T.pg_FRAME)) (pv 2)) (fun _ _ => rfl)))), ?_⟩)
  · obtain ⟨_, _, _, _, _, rfl, _⟩ := h
    rfl
  · obtain ⟨m, wl, μ, f, p, rfl, hM, hI, k⟩ := h
    obtain ⟨dx, dd, h1, h2⟩ := hM.ins
    have e : f * 64 + p = ((ix f p : Nat) : Int) := by unfold ix; omega
    have hlt : ix f p < 2048 := by unfold ix; omega
    refine ⟨_, rfl, m, CM K, dx, _, .ref wl, rfl, h1, T.cl_Memory, T.no_Memory_words, rfl, ?_⟩
    refine ⟨_, rfl, _, _, rfl, rfl, .inr ⟨by decide, by decide⟩, _, rfl, _, _, rfl, rfl, ?_⟩
    refine ⟨wl, _, _, .int (μ (ix f p)), rfl, rfl, SqL.of hM.ws, ?_, k H (Ex.refl H)⟩
    rw [e]
    exact atI_nat (lW_at hlt)
def sp_put (K : PySem.W.Frag) : Sp := fun vs H Q _ => ∃ (m wl : Addr) (μ : Mem) (f p x : Int), vs = [.ref m, .int f, .int p, .int x] ∧ MemAt K H m wl μ ∧ InM f p ∧ ∀ H', MemAt K H' m wl (mset μ (ix f p) x) → Fr wl H H' → Q .non H'
theorem ok_Memory_put (T : Txt K mg) : FnOk P w K mg base CX0 1 (f_Memory_put K) (fd_Memory_put K) ["self", "frame", "place", "word"] (sp_put K) := by
  refine T.fn_Memory_put.ok sc_Memory_put (fun vs H Q E h => ?_) (fun cdv A outer s H vs Q E hr h => ⟨_, PSs.nox (pss_one (ps_asg (pe_op op_mod (pv 3) (T.pg_WORD)) (pg_sub (pe_fld (pv 0) rfl) (pe_op op_add (pe_op op_mul (pv 1) (T.pg_FRAME)) (pv 2)) set_list))), ?_⟩)
  · obtain ⟨_, _, _, _, _, _, rfl, _⟩ := h
    rfl
  · obtain ⟨m, wl, μ, f, p, x, rfl, hM, hI, k⟩ := h
    obtain ⟨dx, dd, h1, h2⟩ := hM.ins
    have e : f * 64 + p = ((ix f p : Nat) : Int) := by unfold ix; omega
    have hlt : ix f p < 2048 := by unfold ix; omega
    refine ⟨_, rfl, _, _, rfl, rfl, (by show (0 : Int) < 65536; decide), _, rfl, m, CM K, dx, _, .ref wl, rfl, h1, T.cl_Memory, T.no_Memory_words, rfl, ?_⟩
    refine ⟨_, rfl, _, _, rfl, rfl, .inr ⟨by decide, by decide⟩, _, rfl, _, _, rfl, rfl, ?_⟩
    refine ⟨wl, _, _, ix f p, rfl, rfl, hM.ws, ?_, ?_⟩
    · rw [e, lW_len]
      exact ixN_nat hlt
    · show Q .non (upd H wl (.lst ((lW μ).set (ix f p) (.int (x % 65536)))))
      rw [lW_set hlt]
      exact k _ hM.upd Fr.put
end
end KA

namespace KA
open PySem PySem.Spec PyProof.Rows L2 Evl TL
section
variable {σ : L2.St} {H : Hp} {K : PySem.W.Frag} {D : Ends} {m wl : Addr} {μ : Mem} {tm tf tp tx : TE} {tz : TS} {f p x : Int}
theorem ev_word (hM : MemAt K H m wl μ) (hm : Ev tm σ H (.ref m)) (hf : Ev tf σ H (.int f)) (hp : Ev tp σ H (.int p)) (hI : InM f p) : Ev (tMeth (CM K) "word" (sp_word K) [] E0 tm (tCons tf (tCons tp tNil))) σ H (.int (μ (ix f p))) := fun H1 e Q q =>
  hm H1 e _ fun H2 e2 => by
    obtain ⟨dx, dd, h1, h2⟩ := (hM.keep (e.trans e2)).ins
    exact ⟨m, dx, _, rfl, h1, rfl, hf H2 (e.trans e2) _ fun H3 e3 => hp H3 ((e.trans e2).trans e3) _ fun H4 e4 => ⟨m, wl, μ, f, p, rfl, hM.keep (((e.trans e2).trans e3).trans e4), hI, fun H5 e5 => q H5 (((e2.trans e3).trans e4).trans e5)⟩⟩
theorem s_put (hM : MemAt K H m wl μ) (hm : Ev tm σ H (.ref m)) (hf : Ev tf σ H (.int f)) (hp : Ev tp σ H (.int p)) (hx : Ev tx σ H (.int x)) (hI : InM f p) (k : ∀ H', MemAt K H' m wl (mset μ (ix f p) x) → Fr wl H H' → D.nx σ H') :
    tDrop (tMeth (CM K) "put" (sp_put K) [] E0 tm (tCons tf (tCons tp (tCons tx tNil)))) D σ H := hm H (Ex.refl H) _ fun H2 e2 => by
    obtain ⟨dx, dd, h1, h2⟩ := (hM.keep e2).ins
    exact ⟨m, dx, _, rfl, h1, rfl, hf H2 e2 _ fun H3 e3 => hp H3 (e2.trans e3) _ fun H4 e4 => hx H4 ((e2.trans e3).trans e4) _ fun H5 e5 => ⟨m, wl, μ, f, p, x, rfl, hM.keep (((e2.trans e3).trans e4).trans e5), hI, fun H' h' f' => k H' h' ((Fr.of (((e2.trans e3).trans e4).trans e5)).trans f')⟩⟩
theorem q_put (hM : MemAt K H m wl μ) (hm : Ev tm σ H (.ref m)) (hf : Ev tf σ H (.int f)) (hp : Ev tp σ H (.int p)) (hx : Ev tx σ H (.int x)) (hI : InM f p) (k : ∀ H', MemAt K H' m wl (mset μ (ix f p) x) → Fr wl H H' → tz D σ H') :
    tSeq (tDrop (tMeth (CM K) "put" (sp_put K) [] E0 tm (tCons tf (tCons tp (tCons tx tNil))))) tz D σ H := s_put (D := { D with nx := tz D }) hM hm hf hp hx hI k
end
abbrev InF (t : Int) : Prop := 0 ≤ t ∧ t < 32
def mrank (μ : Mem) (t : Int) : Int := if μ (ix t 24) > μ (ix t 12) then μ (ix t 24) else μ (ix t 12)
def mnum (μ : Mem) (t : Int) : Int := μ (ix t 22) * 4 + mrank μ t
def mpush (μ : Mem) (fr hd tl th : Int) : Mem := mset (mset (if μ (ix fr tl) ≠ 0 then mset μ (ix (μ (ix fr tl) - 1) 15) (th + 1) else mset μ (ix fr hd) (th + 1)) (ix fr tl) (th + 1)) (ix th 15) 0
/-- the head taken out -/
def mtake (μ : Mem) (fr hd tl th : Int) : Mem := mset (if μ (ix th 15) = 0 then mset (mset μ (ix fr hd) (μ (ix th 15))) (ix fr tl) 0 else mset μ (ix fr hd) (μ (ix th 15))) (ix th 15) 0
theorem tr_int {n : Int} : decide (n ≠ 0) = !decide (n = 0) := by by_cases h : n = 0 <;> simp [h]
section
variable {σ : L2.St} {H : Hp} {K : PySem.W.Frag} {D : Ends}
/-- an int as a test -/
theorem et_truI {te : TE} {n : Int} (h : Ev te σ H (.int n)) : EvT (tTru K te) σ H (decide (n ≠ 0)) := fun H1 e Q q => h H1 e _ fun H2 e2 => ⟨decide (n ≠ 0), by
  show decide (n ≠ 0) = (n != 0)
  by_cases h : n = 0 <;> simp [h], q H2 e2⟩
end
section
variable {P : Program} {w : World} {K : PySem.W.Frag} {mg : Str → Option Value} {base : Heap}
def sp_rank (K : PySem.W.Frag) : Sp := fun vs H Q _ => ∃ (m wl : Addr) (μ : Mem) (t : Int), vs = [.ref m, .int t] ∧ MemAt K H m wl μ ∧ InF t ∧ ∀ H', Ex H H' → Q (.int (mrank μ t)) H'
theorem ok_rank (T : Txt K mg) : FnOk P w K mg base CX0 2 (f_rank K) (fd_rank K) ["memory", "thread"] (sp_rank K) := by
  refine T.fn_rank.ok sc_rank (fun vs H Q E h => ?_) (fun cdv A outer s H vs Q E hr h => ⟨_, PSs.nox (pss_one (ps_ret (pe_callB (call_max2 rfl) (by rfl) T.free_max (by decide +kernel) (pa_cons (pe_meth (pv 0) (T.cl_Memory) (T.mt_Memory_word) (ok_Memory_word T) (hr.mono (by decide)) (T.bd_Memory_word) .nil pass0 (pa_cons (pv 1) (pa_cons (T.pg_T_PRIORITY) pa_nil))) (pa_cons (pe_meth (pv 0) (T.cl_Memory) (T.mt_Memory_word) (ok_Memory_word T) (hr.mono (by decide)) (T.bd_Memory_word) .nil pass0 (pa_cons (pv 1) (pa_cons (T.pg_T_LENT) pa_nil))) pa_nil))))), ?_⟩)
  · obtain ⟨_, _, _, _, rfl, _⟩ := h
    rfl
  · obtain ⟨m, wl, μ, t, rfl, hM, hI, k⟩ := h
    exact s_ret (ev_max2 (ev_word hM (ev_var rfl) (ev_var rfl) ev_c (by omega)) (ev_word hM (ev_var rfl) (ev_var rfl) ev_c (by omega))) k
def placeV (μ : Mem) (t : Int) : List V := [.int 0, .int (4 + mnum μ t), .int (12 + mnum μ t)]
def sp_ready_place (K : PySem.W.Frag) : Sp := fun vs H Q _ => ∃ (m wl : Addr) (μ : Mem) (t : Int), vs = [.ref m, .int t] ∧ MemAt K H m wl μ ∧ InF t ∧ ∀ p H', H p = none → Ex H H' → H' p = some (.tup (placeV μ t)) → Q (.ref p) H'
theorem ok_ready_place (T : Txt K mg) : FnOk P w K mg base CX0 3 (f_ready_place K) (fd_ready_place K) ["memory", "thread"] (sp_ready_place K) := by
  refine T.fn_ready_place.ok sc_ready_place (fun vs H Q E h => ?_) (fun cdv A outer s H vs Q E hr h => ⟨_, PSs.nox (pss_cons (ps_set (i := 2) sc_ready_place.nd rfl (Or.inl rfl) (pe_op op_add (pe_op op_mul (pe_meth (pv 0) (T.cl_Memory) (T.mt_Memory_word) (ok_Memory_word T) (hr.mono (by decide)) (T.bd_Memory_word) .nil pass0 (pa_cons (pv 1) (pa_cons (T.pg_T_DOMAIN) pa_nil))) (T.pg_PRIORITIES)) (pe_call (ok_rank T) (hr.mono (by decide)) (by rfl) (T.glo_rank) (T.kp_rank) (T.bd_rank) .nil pass0 (pa_cons (pv 0) (pa_cons (pv 1) pa_nil))))) (pss_one (ps_ret (pe_tup (pa_cons (T.pg_KERNEL) (pa_cons (pe_op op_add (T.pg_K_HEADS) (pv 2)) (pa_cons (pe_op op_add (T.pg_K_TAILS) (pv 2)) pa_nil))))))), ?_⟩)
  · obtain ⟨_, _, _, _, rfl, _⟩ := h
    rfl
  · obtain ⟨m, wl, μ, t, rfl, hM, hI, k⟩ := h
    refine q_asg (v := .int (mnum μ t)) (ev_op (ev_op (ev_word hM (ev_var rfl) (ev_var rfl) ev_c (by omega)) ev_c (rv_I (.inr ⟨by decide, by decide⟩))) (ev_pure (z := .int (mrank μ t)) (ea_cons (ev_var rfl) (ea_cons (ev_var rfl) ea_nil)) fun H1 e Q q => ⟨m, wl, μ, t, rfl, hM.keep e, hI, q⟩) rv_I0) fun H1 e1 => ?_
    exact s_retU (eu_tup (ea_cons ev_c (ea_cons (ev_op ev_c (ev_var rfl) rv_I0) (ea_cons (ev_op ev_c (ev_var rfl) rv_I0) ea_nil))) (by show 3 ≤ 100000; decide)) fun p H2 hp e2 h2 => k p H2 (fresh_back e1 hp) (e1.trans e2) h2
def sp_push (K : PySem.W.Frag) : Sp := fun vs H Q _ => ∃ (m wl pl : Addr) (μ : Mem) (fr hd tl th : Int), vs = [.ref m, .ref pl, .int th] ∧ MemAt K H m wl μ ∧ H pl = some (.tup [.int fr, .int hd, .int tl]) ∧ InF th ∧ InM fr hd ∧ InM fr tl ∧ (μ (ix fr tl) ≠ 0 → InF (μ (ix fr tl) - 1)) ∧
  ∀ H', MemAt K H' m wl (mpush μ fr hd tl th) → Fr wl H H' → Q .non H'
theorem ok_push (T : Txt K mg) : FnOk P w K mg base CX0 2 (f_push K) (fd_push K) ["memory", "place", "thread"] (sp_push K) := by
  refine T.fn_push.ok sc_push (fun vs H Q E h => ?_) (fun cdv A outer s H vs Q E hr h => ⟨_, PSs.nox (pss_cons (ps_asg (pv 1) (pg_tup (by rfl) (pgs_cons (pg_name (i := 3) sc_push.nd rfl (Or.inl rfl)) (pgs_cons (pg_name (i := 4) sc_push.nd rfl (Or.inl rfl)) (pgs_cons (pg_name (i := 5) sc_push.nd rfl (Or.inl rfl)) pgs_nil))))) (pss_cons (ps_set (i := 6) sc_push.nd rfl (Or.inl rfl) (pe_meth (pv 0) (T.cl_Memory) (T.mt_Memory_word) (ok_Memory_word T) (hr.mono (by decide)) (T.bd_Memory_word) .nil pass0 (pa_cons (pv 3) (pa_cons (pv 5) pa_nil)))) (pss_cut (ps_if (pt_truth (pv 6) (by intro _; rfl)) (pss_one (ps_expr (pe_meth (pv 0) (T.cl_Memory) (T.mt_Memory_put) (ok_Memory_put T) (hr.mono (by decide)) (T.bd_Memory_put) .nil pass0 (pa_cons (pe_op op_sub (pv 6) pe_int) (pa_cons (T.pg_T_NEXT) (pa_cons (pe_op op_add (pv 2) pe_int) pa_nil)))))) (pss_one (ps_expr (pe_meth (pv 0) (T.cl_Memory) (T.mt_Memory_put) (ok_Memory_put T) (hr.mono (by decide)) (T.bd_Memory_put) .nil pass0 (pa_cons (pv 3) (pa_cons (pv 4) (pa_cons (pe_op op_add (pv 2) pe_int) pa_nil))))))) (pss_cons (ps_expr (pe_meth (pv 0) (T.cl_Memory) (T.mt_Memory_put) (ok_Memory_put T) (hr.mono (by decide)) (T.bd_Memory_put) .nil pass0 (pa_cons (pv 3) (pa_cons (pv 5) (pa_cons (pe_op op_add (pv 2) pe_int) pa_nil))))) (pss_one (ps_expr (pe_meth (pv 0) (T.cl_Memory) (T.mt_Memory_put) (ok_Memory_put T) (hr.mono (by decide)) (T.bd_Memory_put) .nil pass0 (pa_cons (pv 2) (pa_cons (T.pg_T_NEXT) (pa_cons pe_int pa_nil)))))))))), ?_⟩)
  · obtain ⟨_, _, _, _, _, _, _, _, rfl, _⟩ := h
    rfl
  · obtain ⟨m, wl, pl, μ, fr, hd, tl, th, rfl, hM, hpl, hI, i1, i2, i3, k⟩ := h
    refine ⟨_, rfl, pl, _, rfl, st_of hpl, rfl, _, _, rfl, _, _, rfl, _, _, rfl, rfl, ?_⟩
    refine q_asg (ev_word hM (ev_var rfl) (ev_var rfl) (ev_var rfl) i2) fun H1 e1 => ?_
    have hM1 := hM.keep e1
    refine q_cut (M := fun σ' H' => σ' = [some (.ref m), some (.ref pl), some (.int th), some (.int fr), some (.int hd), some (.int tl), some (.int (μ (ix fr tl)))] ∧ MemAt K H' m wl (if μ (ix fr tl) ≠ 0 then mset μ (ix (μ (ix fr tl) - 1) 15) (th + 1) else mset μ (ix fr hd) (th + 1)) ∧ Fr wl H H') ?_ ?_
    · refine s_if (et_truI (ev_var rfl)) (fun hb H2 e2 => ?_) (fun hb H2 e2 => ?_)
      · have hne := of_decide_eq_true hb
        have i4 := i3 hne
        rw [if_pos hne]
        exact s_put (hM1.keep e2) (ev_var rfl) (ev_op (ev_var rfl) ev_c rv_I0) ev_c (ev_op (ev_var rfl) ev_c rv_I0) (by omega) fun H3 h3 f3 => ⟨rfl, h3, (Fr.of (e1.trans e2)).trans f3⟩
      · have hne := of_decide_eq_false hb
        rw [if_neg hne]
        exact s_put (hM1.keep e2) (ev_var rfl) (ev_var rfl) (ev_var rfl) (ev_op (ev_var rfl) ev_c rv_I0) i1 fun H3 h3 f3 => ⟨rfl, h3, (Fr.of (e1.trans e2)).trans f3⟩
    · rintro σ' H2 ⟨rfl, h2, f2⟩
      refine q_put h2 (ev_var rfl) (ev_var rfl) (ev_var rfl) (ev_op (ev_var rfl) ev_c rv_I0) i2 fun H3 h3 f3 => ?_
      exact s_put h3 (ev_var rfl) (ev_var rfl) ev_c ev_c (by omega) fun H4 h4 f4 => k H4 h4 ((f2.trans f3).trans f4)
def sp_take_out (K : PySem.W.Frag) : Sp := fun vs H Q _ => ∃ (m wl pl : Addr) (μ : Mem) (fr hd tl th : Int), vs = [.ref m, .ref pl, .int th] ∧ MemAt K H m wl μ ∧ H pl = some (.tup [.int fr, .int hd, .int tl]) ∧ InF th ∧ InM fr hd ∧ InM fr tl ∧ μ (ix fr hd) = th + 1 ∧
  ∀ H', MemAt K H' m wl (mtake μ fr hd tl th) → Fr wl H H' → Q .non H'
theorem ok_take_out (T : Txt K mg) : FnOk P w K mg base CX0 2 (f_take_out K) (fd_take_out K) ["memory", "place", "thread"] (sp_take_out K) := by
  refine T.fn_take_out.ok sc_take_out (fun vs H Q E h => ?_) (fun cdv A outer s H vs Q E hr h => ⟨_, PSs.nox (pss_cons (ps_asg (pv 1) (pg_tup (by rfl) (pgs_cons (pg_name (i := 3) sc_take_out.nd rfl (Or.inl rfl)) (pgs_cons (pg_name (i := 4) sc_take_out.nd rfl (Or.inl rfl)) (pgs_cons (pg_name (i := 5) sc_take_out.nd rfl (Or.inl rfl)) pgs_nil))))) (pss_cons (ps_par (i := 6) (j := 7) (by rfl) sc_take_out.nd rfl rfl (by decide) rfl rfl (pa_cons pe_int (pa_cons (pe_meth (pv 0) (T.cl_Memory) (T.mt_Memory_word) (ok_Memory_word T) (hr.mono (by decide)) (T.bd_Memory_word) .nil pass0 (pa_cons (pv 3) (pa_cons (pv 4) pa_nil))) pa_nil)) (by rfl)) (pss_cons (ps_while PassesOwn.never (PW.pt (pw_and (pt_truth (pv 7) (by intro _; rfl)) (pw_and1 (pt_cmpR op_ne (pv 7) (pe_op op_add (pv 2) pe_int) (nomark _))))) (pss_one (ps_par (i := 6) (j := 7) (by rfl) sc_take_out.nd rfl rfl (by decide) rfl rfl (pa_cons (pv 7) (pa_cons (pe_meth (pv 0) (T.cl_Memory) (T.mt_Memory_word) (ok_Memory_word T) (hr.mono (by decide)) (T.bd_Memory_word) .nil pass0 (pa_cons (pe_op op_sub (pv 7) pe_int) (pa_cons (T.pg_T_NEXT) pa_nil))) pa_nil)) (by rfl)))) (pss_cons (ps_if (pt_not (pt_truth (pv 7) (by intro _; rfl))) (pss_one ps_retN) pss_nil) (pss_cons (ps_set (i := 8) sc_take_out.nd rfl (Or.inl rfl) (pe_meth (pv 0) (T.cl_Memory) (T.mt_Memory_word) (ok_Memory_word T) (hr.mono (by decide)) (T.bd_Memory_word) .nil pass0 (pa_cons (pv 2) (pa_cons (T.pg_T_NEXT) pa_nil)))) (pss_cut (ps_if (pt_truth (pv 6) (by intro _; rfl)) (pss_one (ps_expr (pe_meth (pv 0) (T.cl_Memory) (T.mt_Memory_put) (ok_Memory_put T) (hr.mono (by decide)) (T.bd_Memory_put) .nil pass0 (pa_cons (pe_op op_sub (pv 6) pe_int) (pa_cons (T.pg_T_NEXT) (pa_cons (pv 8) pa_nil)))))) (pss_one (ps_expr (pe_meth (pv 0) (T.cl_Memory) (T.mt_Memory_put) (ok_Memory_put T) (hr.mono (by decide)) (T.bd_Memory_put) .nil pass0 (pa_cons (pv 3) (pa_cons (pv 4) (pa_cons (pv 8) pa_nil))))))) (pss_cut (ps_if (pt_not (pt_truth (pv 8) (by intro _; rfl))) (pss_one (ps_expr (pe_meth (pv 0) (T.cl_Memory) (T.mt_Memory_put) (ok_Memory_put T) (hr.mono (by decide)) (T.bd_Memory_put) .nil pass0 (pa_cons (pv 3) (pa_cons (pv 5) (pa_cons (pv 6) pa_nil)))))) pss_nil) (pss_one (ps_expr (pe_meth (pv 0) (T.cl_Memory) (T.mt_Memory_put) (ok_Memory_put T) (hr.mono (by decide)) (T.bd_Memory_put) .nil pass0 (pa_cons (pv 2) (pa_cons (T.pg_T_NEXT) (pa_cons pe_int pa_nil))))))))))))), ?_⟩)
  · obtain ⟨_, _, _, _, _, _, _, _, rfl, _⟩ := h
    rfl
  · obtain ⟨m, wl, pl, μ, fr, hd, tl, th, rfl, hM, hpl, hI, i1, i2, i3, k⟩ := h
    refine ⟨_, rfl, pl, _, rfl, st_of hpl, rfl, _, _, rfl, _, _, rfl, _, _, rfl, rfl, ?_⟩
    refine q_parVV ev_c (ev_word hM (ev_var rfl) (ev_var rfl) (ev_var rfl) i1) fun H1 e1 => ?_
    rw [i3]
    have n0 : (th + 1 : Int) ≠ 0 := by omega
    refine q_while (fun _ σ' H' => σ' = [some (.ref m), some (.ref pl), some (.int th), some (.int fr), some (.int hd), some (.int tl), some (.int 0), some (.int (th + 1)), none] ∧ Ex H H') 0 ⟨rfl, e1⟩ ?_
    rintro _ σ' H2 ⟨rfl, e2⟩
    refine ⟨false, et_is (et_and (et_truI (ev_var rfl)) fun _ => et_test (ev_op (ev_var rfl) (ev_op (ev_var rfl) ev_c rv_I0) (rv_ne rfl))) (by simp), (fun h => by cases h), fun _ H3 e3 => ?_⟩
    have e23 := e2.trans e3
    have hM3 := hM.keep e23
    refine q_when (b := false) (et_is (et_not (et_truI (ev_var rfl))) (by simp [n0])) (fun h => by cases h) fun _ H4 e4 => ?_
    have hM4 := hM3.keep e4
    refine q_asg (ev_word hM4 (ev_var rfl) (ev_var rfl) ev_c (by omega)) fun H5 e5 => ?_
    have hM5 := hM4.keep e5
    have e25 := (e23.trans e4).trans e5
    refine q_cut (M := fun σ' H' => σ' = [some (.ref m), some (.ref pl), some (.int th), some (.int fr), some (.int hd), some (.int tl), some (.int 0), some (.int (th + 1)), some (.int (μ (ix th 15)))] ∧ MemAt K H' m wl (mset μ (ix fr hd) (μ (ix th 15))) ∧ Fr wl H H') ?_ ?_
    · refine s_if (b := false) (et_is (et_truI (ev_var rfl)) (by simp)) (fun h => by cases h) fun _ H6 e6 => ?_
      exact s_put (hM5.keep e6) (ev_var rfl) (ev_var rfl) (ev_var rfl) (ev_var rfl) i1 fun H7 h7 f7 => ⟨rfl, h7, (Fr.of (e25.trans e6)).trans f7⟩
    rintro σ' H6 ⟨rfl, h6, f6⟩
    refine q_cut (M := fun σ' H' => σ' = [some (.ref m), some (.ref pl), some (.int th), some (.int fr), some (.int hd), some (.int tl), some (.int 0), some (.int (th + 1)), some (.int (μ (ix th 15)))] ∧ MemAt K H' m wl (if μ (ix th 15) = 0 then mset (mset μ (ix fr hd) (μ (ix th 15))) (ix fr tl) 0 else mset μ (ix fr hd) (μ (ix th 15))) ∧ Fr wl H H') ?_ ?_
    · refine s_when (et_not (et_truI (ev_var rfl))) (fun hb H7 e7 => ?_) (fun hb H7 e7 => ?_)
      · have hz : μ (ix th 15) = 0 := by simpa using hb
        rw [if_pos hz]
        exact s_put (h6.keep e7) (ev_var rfl) (ev_var rfl) (ev_var rfl) (ev_var rfl) i2 fun H8 h8 f8 => ⟨rfl, h8, (f6.trans (Fr.of e7)).trans f8⟩
      · have hz : μ (ix th 15) ≠ 0 := by simpa using hb
        rw [if_neg hz]
        exact ⟨rfl, h6.keep e7, f6.trans (Fr.of e7)⟩
    rintro σ' H7 ⟨rfl, h7, f7⟩
    exact s_put h7 (ev_var rfl) (ev_var rfl) ev_c ev_c (by omega) fun H8 h8 f8 => k H8 h8 (f7.trans f8)
end
end KA

namespace KA
open PySem PySem.Spec PyProof.Rows L2 Evl TL
section
variable {P : Program} {w : World} {K : PySem.W.Frag} {mg : Str → Option Value} {base : Heap}
def sp_kind_of (K : PySem.W.Frag) : Sp := fun vs H Q _ => ∃ (m wl : Addr) (μ : Mem) (f : Int), vs = [.ref m, .int f] ∧ MemAt K H m wl μ ∧ InF f ∧ ∀ H', Ex H H' → Q (.int (μ (ix 1 f))) H'
theorem ok_kind_of (T : Txt K mg) : FnOk P w K mg base CX0 2 (f_kind_of K) (fd_kind_of K) ["memory", "frame"] (sp_kind_of K) := by
  refine T.fn_kind_of.ok sc_kind_of (fun vs H Q E h => ?_) (fun cdv A outer s H vs Q E hr h => ⟨_, PSs.nox (pss_one (ps_ret (pe_meth (pv 0) (T.cl_Memory) (T.mt_Memory_word) (ok_Memory_word T) (hr.mono (by decide)) (T.bd_Memory_word) .nil pass0 (pa_cons (T.pg_KIND_FRAME) (pa_cons (pv 1) pa_nil))))), ?_⟩)
  · obtain ⟨_, _, _, _, rfl, _⟩ := h
    rfl
  · obtain ⟨m, wl, μ, f, rfl, hM, hI, k⟩ := h
    exact s_ret (ev_word hM (ev_var rfl) ev_c (ev_var rfl) (by omega)) k
section
variable {σ : L2.St} {H : Hp} {D : Ends} {m wl : Addr} {μ : Mem} {tm tf tp tx tr : TE} {tz : TS} {f p x : Int}
theorem ev_kind (hM : MemAt K H m wl μ) (hm : Ev tm σ H (.ref m)) (hf : Ev tf σ H (.int f)) (hI : InF f) : Ev (tCall (sp_kind_of K) [] E0 (tCons tm (tCons tf tNil))) σ H (.int (μ (ix 1 f))) :=
  ev_pure (ea_cons hm (ea_cons hf ea_nil)) fun H1 e Q q => ⟨m, wl, μ, f, rfl, hM.keep e, hI, q⟩
end
def framesV (μ : Mem) (k : Int) : List V := given 32 (fun i => decide (V.int (μ (ix 1 (i : Int))) = .int k)) (fun i => .int (i : Int))
def sp_frames_of (K : PySem.W.Frag) : Sp := fun vs H Q _ => ∃ (m wl : Addr) (μ : Mem) (k : Int), vs = [.ref m, .int k] ∧ MemAt K H m wl μ ∧ ∀ p H', H p = none → Ex H H' → H' p = some (.lst (framesV μ k)) → Q (.ref p) H'
theorem ok_frames_of (T : Txt K mg) : FnOk P w K mg base CX0 3 (f_frames_of K) (fd_frames_of K) ["memory", "kind"] (sp_frames_of K) := by
  refine T.fn_frames_of.ok sc_frames_of (fun vs H Q E h => ?_) (fun cdv A outer s H vs Q E hr h => ⟨_, PSs.nox (pss_one (ps_ret (pe_lc (own := [("frame", 2)]) (by rfl) sc_frames_of.nd (pi_range1 (by rfl) T.free_range (pa_cons (T.pg_FRAMES) pa_nil)) (blkOk_by (N := sc_frames_of_N) (sc := defScope s_frames_of) (own := [("frame", 2)]) (by decide +kernel)) (fun _ _ _ _ _ => (pg_name (i := 2) sc_frames_of.nd rfl (Or.inl rfl))) (fun _ _ _ _ _ => (pts_one (pt_cmpR op_eq (pe_call (ok_kind_of T) (hr.mono (by decide)) (by rfl) (T.glo_kind_of) (T.kp_kind_of) (T.bd_kind_of) .nil pass0 (pa_cons (pv 0) (pa_cons (pv 2) pa_nil))) (pv 1) (nomark _)))) (fun _ _ _ _ _ => (pv 2))))), ?_⟩)
  · obtain ⟨_, _, _, _, rfl, _⟩ := h
    rfl
  · obtain ⟨m, wl, μ, k0, rfl, hM, k⟩ := h
    refine s_retL (xs := framesV μ k0) (el_lcR1 (n := 32) _ _ (ea_cons ev_c ea_nil) (by decide) (fun x => rfl) (fun i H1 e1 hi => et_test (ev_op (ev_kind (hM.keep e1) (ev_var rfl) (ev_var rfl) (by omega)) (ev_var rfl) (rv_eq rfl))) (fun i H1 e1 hi _ => ev_var rfl)) k
def sp_put_field (K : PySem.W.Frag) : Sp := fun vs H Q _ => ∃ (m wl : Addr) (μ : Mem) (s p x : Int), vs = [.ref m, .int s, .int p, .int x] ∧ MemAt K H m wl μ ∧ 0 ≤ s ∧ s < 256 ∧ 0 ≤ p ∧ p < 8 ∧ ∀ H', MemAt K H' m wl (mset μ (s * 8 + p).toNat x) → Fr wl H H' → Q .non H'
theorem ix_slot {s p : Int} : ix (s / 8) (s % 8 * 8 + p) = (s * 8 + p).toNat := by unfold ix; congr 1; omega
theorem ok_put_field (T : Txt K mg) : FnOk P w K mg base CX0 2 (f_put_field K) (fd_put_field K) ["memory", "slot", "place", "word"] (sp_put_field K) := by
  refine T.fn_put_field.ok sc_put_field (fun vs H Q E h => ?_) (fun cdv A outer s H vs Q E hr h => ⟨_, PSs.nox (pss_one (ps_expr (pe_meth (pv 0) (T.cl_Memory) (T.mt_Memory_put) (ok_Memory_put T) (hr.mono (by decide)) (T.bd_Memory_put) .nil pass0 (pa_cons (pe_op op_fdiv (pv 1) (T.pg_SLOTS)) (pa_cons (pe_op op_add (pe_op op_mul (pe_op op_mod (pv 1) (T.pg_SLOTS)) pe_int) (pv 2)) (pa_cons (pv 3) pa_nil)))))), ?_⟩)
  · obtain ⟨_, _, _, _, _, _, rfl, _⟩ := h
    rfl
  · obtain ⟨m, wl, μ, s0, p, x, rfl, hM, h1, h2, h3, h4, k⟩ := h
    refine s_put hM (ev_var rfl) (ev_op (ev_var rfl) ev_c (rv_I ⟨by decide, by decide⟩)) (ev_op (ev_op (ev_op (ev_var rfl) ev_c (rv_I (by show (0 : Int) < 8; decide))) ev_c (rv_I (.inr ⟨by decide, by decide⟩))) (ev_var rfl) rv_I0) (ev_var rfl) (by omega) fun H' h' f' => k H' ?_ f'
    rw [ix_slot] at h'
    exact h'
def sp_get_register (K : PySem.W.Frag) : Sp := fun vs H Q _ => ∃ (m wl : Addr) (μ : Mem) (t n : Int), vs = [.ref m, .int t, .int n] ∧ MemAt K H m wl μ ∧ InF t ∧ 0 ≤ n ∧ n < 8 ∧ ∀ H', Ex H H' → Q (.int (μ (ix t (2 + n)))) H'
theorem ok_get_register (T : Txt K mg) : FnOk P w K mg base CX0 2 (f_get_register K) (fd_get_register K) ["memory", "thread", "number"] (sp_get_register K) := by
  refine T.fn_get_register.ok sc_get_register (fun vs H Q E h => ?_) (fun cdv A outer s H vs Q E hr h => ⟨_, PSs.nox (pss_one (ps_ret (pe_meth (pv 0) (T.cl_Memory) (T.mt_Memory_word) (ok_Memory_word T) (hr.mono (by decide)) (T.bd_Memory_word) .nil pass0 (pa_cons (pv 1) (pa_cons (pe_op op_add (T.pg_T_REGISTERS) (pv 2)) pa_nil))))), ?_⟩)
  · obtain ⟨_, _, _, _, _, rfl, _⟩ := h
    rfl
  · obtain ⟨m, wl, μ, t, n, rfl, hM, hI, h1, h2, k⟩ := h
    exact s_ret (ev_word hM (ev_var rfl) (ev_var rfl) (ev_op ev_c (ev_var rfl) rv_I0) (by omega)) k
def sp_put_register (K : PySem.W.Frag) : Sp := fun vs H Q _ => ∃ (m wl : Addr) (μ : Mem) (t n x : Int), vs = [.ref m, .int t, .int n, .int x] ∧ MemAt K H m wl μ ∧ InF t ∧ 0 ≤ n ∧ n < 8 ∧ ∀ H', MemAt K H' m wl (mset μ (ix t (2 + n)) x) → Fr wl H H' → Q .non H'
theorem ok_put_register (T : Txt K mg) : FnOk P w K mg base CX0 2 (f_put_register K) (fd_put_register K) ["memory", "thread", "number", "word"] (sp_put_register K) := by
  refine T.fn_put_register.ok sc_put_register (fun vs H Q E h => ?_) (fun cdv A outer s H vs Q E hr h => ⟨_, PSs.nox (pss_one (ps_expr (pe_meth (pv 0) (T.cl_Memory) (T.mt_Memory_put) (ok_Memory_put T) (hr.mono (by decide)) (T.bd_Memory_put) .nil pass0 (pa_cons (pv 1) (pa_cons (pe_op op_add (T.pg_T_REGISTERS) (pv 2)) (pa_cons (pv 3) pa_nil)))))), ?_⟩)
  · obtain ⟨_, _, _, _, _, _, rfl, _⟩ := h
    rfl
  · obtain ⟨m, wl, μ, t, n, x, rfl, hM, hI, h1, h2, k⟩ := h
    exact s_put hM (ev_var rfl) (ev_var rfl) (ev_op ev_c (ev_var rfl) rv_I0) (ev_var rfl) (by omega) k
def mdom (μ : Mem) : Int := μ (ix 0 (24 + μ (ix 0 1))) / 256
def sp_domain_now (K : PySem.W.Frag) : Sp := fun vs H Q _ => ∃ (m wl : Addr) (μ : Mem), vs = [.ref m] ∧ MemAt K H m wl μ ∧ 0 ≤ μ (ix 0 1) ∧ μ (ix 0 1) < 4 ∧ ∀ H', Ex H H' → Q (.int (mdom μ)) H'
theorem ok_domain_now (T : Txt K mg) : FnOk P w K mg base CX0 2 (f_domain_now K) (fd_domain_now K) ["memory"] (sp_domain_now K) := by
  refine T.fn_domain_now.ok sc_domain_now (fun vs H Q E h => ?_) (fun cdv A outer s H vs Q E hr h => ⟨_, PSs.nox (pss_one (ps_ret (pe_op op_fdiv (pe_meth (pv 0) (T.cl_Memory) (T.mt_Memory_word) (ok_Memory_word T) (hr.mono (by decide)) (T.bd_Memory_word) .nil pass0 (pa_cons (T.pg_KERNEL) (pa_cons (pe_op op_add (T.pg_K_PLAN) (pe_meth (pv 0) (T.cl_Memory) (T.mt_Memory_word) (ok_Memory_word T) (hr.mono (by decide)) (T.bd_Memory_word) .nil pass0 (pa_cons (T.pg_KERNEL) (pa_cons (T.pg_K_PART) pa_nil)))) pa_nil))) pe_int))), ?_⟩)
  · obtain ⟨_, _, _, rfl, _⟩ := h
    rfl
  · obtain ⟨m, wl, μ, rfl, hM, h1, h2, k⟩ := h
    exact s_ret (ev_op (ev_word hM (ev_var rfl) ev_c (ev_op ev_c (ev_word hM (ev_var rfl) ev_c ev_c (by omega)) rv_I0) (by omega)) ev_c (rv_I ⟨by decide, by decide⟩)) k
def oI : Option Int → V
  | none => .non
  | some i => .int i
section
variable {σ : L2.St} {H : Hp} {D : Ends}
theorem q_forR3 {ta : TA} {g : TG} {tu tz : TS} {lo hi c : Int} {n : Nat} (h : EvA ta σ H [.int lo, .int hi, .int c]) (hr : RgC lo hi c n) (Pv : Nat → L2.St → Hp → Prop) (h0 : ∀ H1, Ex H H1 → Pv 0 σ H1)
    (hs : ∀ (i : Nat) σ' H', i < n → Pv i σ' H' → g (.int (lo + (i : Nat) * c)) σ' H' fun σ2 H2 => tu { D with nx := Pv (i + 1), ct := Pv (i + 1), bk := tz D } σ2 H2) (hd : ∀ σ' H', Pv n σ' H' → tz D σ' H') : tSeq (tFor (iRng3 ta) g tu) tz D σ H :=
  h H (Ex.refl H) _ fun H1 e => ⟨lo, hi, c, n, rfl, hr, for_rangeC (D := { D with nx := tz D }) Pv (h0 H1 e) hs hd⟩
end
/-! ### who goes -/
def mhead (μ : Mem) (n : Int) : Int := μ (ix 0 (4 + mdom μ * 4 + n))
/-- the first of the numbers 3 - i, .., 0 whose queue is not empty -/
def mfrom (μ : Mem) : Nat → Option Int
  | 0 => none
  | k + 1 => if mhead μ (k : Int) ≠ 0 then some (mhead μ (k : Int) - 1) else mfrom μ k
def sp_chosen (K : PySem.W.Frag) : Sp := fun vs H Q _ => ∃ (m wl : Addr) (μ : Mem), vs = [.ref m] ∧ MemAt K H m wl μ ∧ 0 ≤ μ (ix 0 1) ∧ μ (ix 0 1) < 4 ∧ 0 ≤ mdom μ ∧ mdom μ < 2 ∧ ∀ H', Ex H H' → Q (oI (mfrom μ 4)) H'
theorem ok_chosen (T : Txt K mg) : FnOk P w K mg base CX0 3 (f_chosen K) (fd_chosen K) ["memory"] (sp_chosen K) := by
  refine T.fn_chosen.ok sc_chosen (fun vs H Q E h => ?_) (fun cdv A outer s H vs Q E hr h => ⟨_, PSs.nox (pss_cons (ps_set (i := 1) sc_chosen.nd rfl (Or.inl rfl) (pe_call (ok_domain_now T) (hr.mono (by decide)) (by rfl) (T.glo_domain_now) (T.kp_domain_now) (T.bd_domain_now) .nil pass0 (pa_cons (pv 0) pa_nil))) (pss_cons (ps_for PassesOwn.never rfl (pi_range3 (by rfl) T.free_range (pa_cons (pe_op op_sub (T.pg_PRIORITIES) pe_int) (pa_cons (pe_un un_neg pe_int) (pa_cons (pe_un un_neg pe_int) pa_nil)))) (pg_name (i := 2) sc_chosen.nd rfl (Or.inl rfl)) (pss_cons (ps_set (i := 3) sc_chosen.nd rfl (Or.inl rfl) (pe_meth (pv 0) (T.cl_Memory) (T.mt_Memory_word) (ok_Memory_word T) (hr.mono (by decide)) (T.bd_Memory_word) .nil pass0 (pa_cons (T.pg_KERNEL) (pa_cons (pe_op op_add (pe_op op_add (T.pg_K_HEADS) (pe_op op_mul (pv 1) (T.pg_PRIORITIES))) (pv 2)) pa_nil)))) (pss_one (ps_if (pt_truth (pv 3) (by intro _; rfl)) (pss_one (ps_ret (pe_op op_sub (pv 3) pe_int))) pss_nil)))) (pss_one (ps_ret pe_non)))), ?_⟩)
  · obtain ⟨_, _, _, rfl, _⟩ := h
    rfl
  · obtain ⟨m, wl, μ, rfl, hM, h1, h2, h3, h4, k⟩ := h
    refine q_asg (ev_pure (z := .int (mdom μ)) (ea_cons (ev_var rfl) ea_nil) fun H1 e Q q => ⟨m, wl, μ, rfl, hM.keep e, h1, h2, q⟩) fun H1 e1 => ?_
    have hM1 := hM.keep e1
    obtain ⟨r4, hr4⟩ : ∃ r4, r4 = mfrom μ 4 := ⟨_, rfl⟩
    rw [← hr4] at k
    refine q_forR3 (lo := 3) (c := -1) (n := 4) (ea_cons (ev_is (ev_op ev_c ev_c rv_I0) rfl) (ea_cons (ev_is (ev_un ev_c ru_neg) rfl) (ea_cons (ev_is (ev_un ev_c ru_neg) rfl) ea_nil))) (RgC.neg (i := 3) (j := -1) (by decide) (by decide) (by decide) (by decide)) (fun i σ' H' => ∃ x2 x3, σ' = [some (.ref m), some (.int (mdom μ)), x2, x3] ∧ Ex H1 H' ∧ i ≤ 4 ∧ r4 = mfrom μ (4 - i)) (fun H2 e2 => ⟨none, none, rfl, e2, by decide, hr4⟩) ?_ ?_
    · rintro i σ' H' hi ⟨x2, x3, rfl, eH, _, hc⟩
      have hM2 := hM1.keep eH
      have en : (3 : Int) + (i : Int) * (-1) = ((3 - i : Nat) : Int) := by omega
      rw [en]
      have hsub : 4 - i = (3 - i) + 1 := by omega
      rw [hsub, mfrom] at hc
      refine q_asg (ev_word hM2 (ev_var rfl) ev_c (ev_op (ev_op ev_c (ev_op (ev_var rfl) ev_c (rv_I (.inr ⟨by decide, by decide⟩))) rv_I0) (ev_var rfl) rv_I0) (by omega)) fun H3 e3 => ?_
      refine s_when (et_truI (ev_var rfl)) (fun hb H4 e4 => ?_) (fun hb H4 e4 => ?_)
      · have hne : mhead μ ((3 - i : Nat) : Int) ≠ 0 := of_decide_eq_true hb
        rw [if_pos hne] at hc
        refine s_ret (v := oI r4) (ev_is (ev_op (ev_var rfl) ev_c rv_I0) (by rw [hc]; rfl)) fun H5 e5 => k H5 ((((e1.trans eH).trans e3).trans e4).trans e5)
      · have hne : ¬ mhead μ ((3 - i : Nat) : Int) ≠ 0 := of_decide_eq_false hb
        rw [if_neg hne] at hc
        refine ⟨_, _, rfl, (eH.trans e3).trans e4, by omega, ?_⟩
        rw [hc]
        congr 1
        omega
    · rintro σ' H' ⟨x2, x3, rfl, eH, _, hc⟩
      refine s_ret (v := oI r4) (ev_is ev_c (by rw [hc]; rfl)) fun H5 e5 => k H5 ((e1.trans eH).trans e5)
/-! ### a tick's end -/
def mturn2 (μ2 : Mem) (t : Int) : Mem := mpush μ2 0 (4 + mnum μ2 t) (12 + mnum μ2 t) t
/-- behind all others of its rank -/
def mturn (μ1 : Mem) (t : Int) : Mem := mturn2 (mtake μ1 0 (4 + mnum μ1 t) (12 + mnum μ1 t) t) t
def mspent (μ : Mem) (t : Int) : Mem :=
  if μ (ix t 14) > 1 then mset μ (ix t 14) (μ (ix t 14) - 1) else mturn (mset μ (ix t 14) (μ (ix t 13))) t
def sp_spent (K : PySem.W.Frag) : Sp := fun vs H Q _ => ∃ (m wl : Addr) (μ : Mem) (t : Int), vs = [.ref m, .int t] ∧ MemAt K H m wl μ ∧ InF t ∧ μ (ix 1 t) = 5 ∧ μ (ix t 0) = 1 ∧
  (¬ μ (ix t 14) > 1 → ∀ μ1, μ1 = mset μ (ix t 14) (μ (ix t 13)) → 0 ≤ mnum μ1 t ∧ mnum μ1 t < 8 ∧ μ1 (ix 0 (4 + mnum μ1 t)) = t + 1 ∧ ∀ μ2, μ2 = mtake μ1 0 (4 + mnum μ1 t) (12 + mnum μ1 t) t → 0 ≤ mnum μ2 t ∧ mnum μ2 t < 8 ∧ (μ2 (ix 0 (12 + mnum μ2 t)) ≠ 0 → InF (μ2 (ix 0 (12 + mnum μ2 t)) - 1))) ∧
  ∀ H', MemAt K H' m wl (mspent μ t) → Fr wl H H' → Q .non H'
theorem ok_spent (T : Txt K mg) : FnOk P w K mg base CX0 4 (f_spent K) (fd_spent K) ["memory", "thread"] (sp_spent K) := by
  refine T.fn_spent.ok sc_spent (fun vs H Q E h => ?_) (fun cdv A outer s H vs Q E hr h => ⟨_, PSs.nox (pss_cons (ps_if (PW.pt (pw_or (pt_cmpR op_ne (pe_meth (pv 0) (T.cl_Memory) (T.mt_Memory_word) (ok_Memory_word T) (hr.mono (by decide)) (T.bd_Memory_word) .nil pass0 (pa_cons (T.pg_KIND_FRAME) (pa_cons (pv 1) pa_nil))) (T.pg_THREAD) (nomark _)) (pw_or1 (pt_cmpR op_ne (pe_meth (pv 0) (T.cl_Memory) (T.mt_Memory_word) (ok_Memory_word T) (hr.mono (by decide)) (T.bd_Memory_word) .nil pass0 (pa_cons (pv 1) (pa_cons (T.pg_T_STATE) pa_nil))) (T.pg_READY) (nomark _))))) (pss_one ps_retN) pss_nil) (pss_cons (ps_set (i := 2) sc_spent.nd rfl (Or.inl rfl) (pe_meth (pv 0) (T.cl_Memory) (T.mt_Memory_word) (ok_Memory_word T) (hr.mono (by decide)) (T.bd_Memory_word) .nil pass0 (pa_cons (pv 1) (pa_cons (T.pg_T_LEFT) pa_nil)))) (pss_cons (ps_if (pt_cmpR op_gt (pv 2) pe_int (nomark _)) (pss_cons (ps_expr (pe_meth (pv 0) (T.cl_Memory) (T.mt_Memory_put) (ok_Memory_put T) (hr.mono (by decide)) (T.bd_Memory_put) .nil pass0 (pa_cons (pv 1) (pa_cons (T.pg_T_LEFT) (pa_cons (pe_op op_sub (pv 2) pe_int) pa_nil))))) (pss_one ps_retN)) pss_nil) (pss_cons (ps_expr (pe_meth (pv 0) (T.cl_Memory) (T.mt_Memory_put) (ok_Memory_put T) (hr.mono (by decide)) (T.bd_Memory_put) .nil pass0 (pa_cons (pv 1) (pa_cons (T.pg_T_LEFT) (pa_cons (pe_meth (pv 0) (T.cl_Memory) (T.mt_Memory_word) (ok_Memory_word T) (hr.mono (by decide)) (T.bd_Memory_word) .nil pass0 (pa_cons (pv 1) (pa_cons (T.pg_T_BUDGET) pa_nil))) pa_nil))))) (pss_cons (ps_expr (pe_call (ok_take_out T) (hr.mono (by decide)) (by rfl) (T.glo_take_out) (T.kp_take_out) (T.bd_take_out) .nil pass0 (pa_cons (pv 0) (pa_cons (pe_call (ok_ready_place T) (hr.mono (by decide)) (by rfl) (T.glo_ready_place) (T.kp_ready_place) (T.bd_ready_place) .nil pass0 (pa_cons (pv 0) (pa_cons (pv 1) pa_nil))) (pa_cons (pv 1) pa_nil))))) (pss_one (ps_expr (pe_call (ok_push T) (hr.mono (by decide)) (by rfl) (T.glo_push) (T.kp_push) (T.bd_push) .nil pass0 (pa_cons (pv 0) (pa_cons (pe_call (ok_ready_place T) (hr.mono (by decide)) (by rfl) (T.glo_ready_place) (T.kp_ready_place) (T.bd_ready_place) .nil pass0 (pa_cons (pv 0) (pa_cons (pv 1) pa_nil))) (pa_cons (pv 1) pa_nil))))))))))), ?_⟩)
  · obtain ⟨_, _, _, _, rfl, _⟩ := h
    rfl
  · obtain ⟨m, wl, μ, t, rfl, hM, hI, c1, c2, c3, k⟩ := h
    refine q_when (b := false) (et_is (et_or (et_test (ev_op (ev_word hM (ev_var rfl) ev_c (ev_var rfl) (by omega)) ev_c (rv_ne rfl))) fun _ => et_test (ev_op (ev_word hM (ev_var rfl) (ev_var rfl) ev_c (by omega)) ev_c (rv_ne rfl))) (by rw [c1, c2]; rfl)) (fun h => by cases h) fun _ H1 e1 => ?_
    have hM1 := hM.keep e1
    refine q_asg (ev_word hM1 (ev_var rfl) (ev_var rfl) ev_c (by omega)) fun H2 e2 => ?_
    have hM2 := hM1.keep e2
    refine q_when (et_test (ev_op (ev_var rfl) ev_c rv_I0)) (fun hb H3 e3 => ?_) (fun hb H3 e3 => ?_)
    · have hl : μ (ix t 14) > 1 := of_decide_eq_true hb
      have hk : mspent μ t = mset μ (ix t 14) (μ (ix t 14) - 1) := by unfold mspent; rw [if_pos hl]
      refine q_put (hM2.keep e3) (ev_var rfl) (ev_var rfl) ev_c (ev_op (ev_var rfl) ev_c rv_I0) (by omega) fun H4 h4 f4 => ?_
      rw [← hk] at h4
      exact k H4 h4 ((Fr.of ((e1.trans e2).trans e3)).trans f4)
    · have hl : ¬ μ (ix t 14) > 1 := of_decide_eq_false hb
      obtain ⟨d1, d2, d3, d4⟩ := c3 hl _ rfl
      have hk : mspent μ t = mturn (mset μ (ix t 14) (μ (ix t 13))) t := by unfold mspent; rw [if_neg hl]
      rw [hk] at k
      have hM3 := hM2.keep e3
      refine q_put hM3 (ev_var rfl) (ev_var rfl) ev_c (ev_word hM3 (ev_var rfl) (ev_var rfl) ev_c (by omega)) (by omega) fun H4 h4 f4 => ?_
      generalize mset μ (ix t 14) (μ (ix t 13)) = μ1 at d1 d2 d3 d4 h4 k
      obtain ⟨g1, g2, g3⟩ := d4 _ rfl
      have f14 := (Fr.of (wl := wl) ((e1.trans e2).trans e3)).trans f4
      refine ⟨_, rfl, _, rfl, _, rfl, m, wl, μ1, t, rfl, h4, hI, fun pl H5 hpl e5 h5 => ⟨_, rfl, m, wl, pl, μ1, 0, 4 + mnum μ1 t, 12 + mnum μ1 t, t, rfl, h4.keep e5, h5, hI, by omega, by omega, d3, fun H6 h6 f6 => ?_⟩⟩
      unfold mturn at k
      generalize mtake μ1 0 (4 + mnum μ1 t) (12 + mnum μ1 t) t = μ2 at g1 g2 g3 h6 k
      have f16 := (f14.trans (Fr.of e5)).trans f6
      refine ⟨_, rfl, _, rfl, _, rfl, m, wl, μ2, t, rfl, h6, hI, fun pl H7 hpl e7 h7 => ⟨_, rfl, m, wl, pl, μ2, 0, 4 + mnum μ2 t, 12 + mnum μ2 t, t, rfl, h6.keep e7, h7, hI, by omega, by omega, g3, fun H8 h8 f8 => ?_⟩⟩
      exact k H8 h8 ((f16.trans (Fr.of e7)).trans f8)
end
end KA

namespace KA
open PySem PySem.Spec PyProof.Rows L2 Evl TL
section
variable {P : Program} {w : World} {K : PySem.W.Frag} {mg : Str → Option Value} {base : Heap}
def mtrap0 (μ : Mem) (t : Int) : Mem := mset (mset μ (ix t 14) 1) (ix t 2) 0
/-- the trap 0 -/
def sp_trap (K : PySem.W.Frag) : Sp := fun vs H Q _ => ∃ (m wl : Addr) (μ : Mem) (t : Int), vs = [.ref m, .int t, .int 0] ∧ MemAt K H m wl μ ∧ 2 ≤ t ∧ t < 32 ∧ μ (ix 1 t) = 5 ∧ ∀ H', MemAt K H' m wl (mtrap0 μ t) → Fr wl H H' → Q (.bl true) H'
theorem mset_ne {μ : Mem} {i j : Nat} {x : Int} (h : j ≠ i) : mset μ i x j = μ j := if_neg h
theorem mset_same {μ : Mem} {i : Nat} {x : Int} : mset μ i x i = x % 65536 := if_pos rfl
theorem ok_trap (T : Txt K mg) : FnOk P w K mg base CX0 3 (f_trap K) (fd_trap K) ["memory", "thread", "number"] (sp_trap K) := by
  refine T.fn_trap.ok sc_trap (fun vs H Q E h => ?_) (fun cdv A outer s H vs Q E hr h => ⟨_, PSs.nox (pss_cons (ps_if (pt_cmpR op_ge (pv 2) pe_int (nomark _)) (pss_one (ps_ret pe_bl)) pss_nil) (pss_cut (ps_if (pt_cmpR op_eq (pv 2) pe_int (nomark _)) (pss_cons (ps_expr (pe_meth (pv 0) (T.cl_Memory) (T.mt_Memory_put) (ok_Memory_put T) (hr.mono (by decide)) (T.bd_Memory_put) .nil pass0 (pa_cons (pv 1) (pa_cons (T.pg_T_LEFT) (pa_cons pe_int pa_nil))))) (pss_one (ps_set (i := 3) sc_trap.nd rfl (Or.inl rfl) (T.pg_OK)))) (pss_one (ps_if (pt_cmpR op_in_seq (pv 2) (pe_tup (pa_cons pe_int (pa_cons pe_int pa_nil))) (by rfl)) (pss_one ps_never) (pss_one (ps_if (PW.pt (pw_or (pt_cmpR op_eq (pv 2) pe_int (nomark _)) (pw_or1 (pt_cmpR op_eq (pv 2) pe_int (nomark _))))) (pss_cons ps_never (pss_cons ps_never (pss_one ps_never))) (pss_one (ps_if (pt_cmpR op_in_seq (pv 2) (pe_tup (pa_cons pe_int (pa_cons pe_int (pa_cons pe_int pa_nil)))) (by rfl)) (pss_one ps_never) (pss_one ps_never)))))))) (pss_cut (ps_if (PW.pt (pw_and (pt_cmpR op_notN (pv 3) pe_non (nomark _)) (pw_and1 (pt_cmpR op_eq (pe_meth (pv 0) (T.cl_Memory) (T.mt_Memory_word) (ok_Memory_word T) (hr.mono (by decide)) (T.bd_Memory_word) .nil pass0 (pa_cons (T.pg_KIND_FRAME) (pa_cons (pv 1) pa_nil))) (T.pg_THREAD) (nomark _))))) (pss_one (ps_expr (pe_call (ok_put_register T) (hr.mono (by decide)) (by rfl) (T.glo_put_register) (T.kp_put_register) (T.bd_put_register) .nil pass0 (pa_cons (pv 0) (pa_cons (pv 1) (pa_cons pe_int (pa_cons (pv 3) pa_nil))))))) pss_nil) (pss_one (ps_ret pe_bl))))), ?_⟩)
  · obtain ⟨_, _, _, _, rfl, _⟩ := h
    rfl
  · obtain ⟨m, wl, μ, t, rfl, hM, hI1, hI2, h5, k⟩ := h
    refine q_when (b := false) (et_is (et_test (ev_op (ev_var rfl) ev_c rv_I0)) rfl) (fun h => by cases h) fun _ H1 e1 => ?_
    refine q_cut (M := fun σ' H' => σ' = [some (.ref m), some (.int t), some (.int 0), some (.int 0), none] ∧ MemAt K H' m wl (mset μ (ix t 14) 1) ∧ Fr wl H H') ?_ ?_
    · refine s_if (b := true) (et_is (et_test (ev_op (ev_var rfl) ev_c (rv_eq rfl))) rfl) (fun _ H2 e2 => ?_) (fun h => by cases h)
      refine q_put (hM.keep (e1.trans e2)) (ev_var rfl) (ev_var rfl) ev_c ev_c (by omega) fun H3 h3 f3 => ?_
      exact s_asg ev_c fun H4 e4 => ⟨rfl, h3.keep e4, ((Fr.of (e1.trans e2)).trans f3).trans (Fr.of e4)⟩
    rintro σ' H2 ⟨rfl, h2, f2⟩
    refine q_cut (M := fun σ' H' => MemAt K H' m wl (mtrap0 μ t) ∧ Fr wl H H') ?_ ?_
    · refine s_when (b := true) (et_is (et_and (et_test (ev_op (ev_var rfl) ev_c rv_notN)) fun _ => et_test (ev_op (ev_word h2 (ev_var rfl) ev_c (ev_var rfl) (by omega)) ev_c (rv_eq rfl))) ?_) (fun _ H3 e3 => ?_) (fun h => by cases h)
      · have : mset μ (ix t 14) 1 (ix 1 t) = 5 := by
          rw [mset_ne (by unfold ix; omega)]
          exact h5
        rw [this]
        rfl
      · refine ⟨_, rfl, _, rfl, _, rfl, m, wl, _, t, 0, 0, rfl, h2.keep e3, ⟨by omega, by omega⟩, by decide, by decide, fun H4 h4 f4 => ⟨h4, (f2.trans (Fr.of e3)).trans f4⟩⟩
    rintro σ' H3 ⟨h3, f3⟩
    exact s_ret ev_c fun H4 e4 => k H4 (h3.keep e4) (f3.trans (Fr.of e4))
/-- any_trap of 0 -/
theorem ok_any_trap (T : Txt K mg) : FnOk P w K mg base CX0 4 (f_any_trap K) (fd_any_trap K) ["memory", "thread", "number"] (sp_trap K) := by
  refine T.fn_any_trap.ok sc_any_trap (fun vs H Q E h => ?_) (fun cdv A outer s H vs Q E hr h => ⟨_, PSs.nox (pss_cons (ps_if (pt_cmpR op_in_seq (pv 2) (pe_tup (pa_cons pe_int (pa_cons pe_int pa_nil))) (by rfl)) (pss_cons ps_never (pss_one (ps_ret pe_bl))) pss_nil) (pss_one (ps_ret (pe_call (ok_trap T) (hr.mono (by decide)) (by rfl) (T.glo_trap) (T.kp_trap) (T.bd_trap) .nil pass0 (pa_cons (pv 0) (pa_cons (pv 1) (pa_cons (pv 2) pa_nil))))))), ?_⟩)
  · obtain ⟨_, _, _, _, rfl, _⟩ := h
    rfl
  · obtain ⟨m, wl, μ, t, rfl, hM, hI1, hI2, h5, k⟩ := h
    refine q_when (b := false) (et_is (et_test (ev_inU (ev_var rfl) (eu_tup (ea_cons ev_c (ea_cons ev_c ea_nil)) (by show 2 ≤ 100000; decide)) rfl rfl)) (by decide)) (fun h => by cases h) fun _ H1 e1 => ?_
    exact ⟨_, rfl, _, rfl, _, rfl, m, wl, μ, t, rfl, hM.keep e1, hI1, hI2, h5, fun H' h' f' => k H' h' ((Fr.of e1).trans f')⟩
/-- no device is there -/
def sp_devices_go (K : PySem.W.Frag) : Sp := fun vs H Q _ => ∃ (m wl : Addr) (μ : Mem), vs = [.ref m] ∧ MemAt K H m wl μ ∧ (∀ i : Nat, i < 32 → μ (ix 1 (i : Int)) ≠ 8) ∧ ∀ H', Ex H H' → Q .non H'
theorem ok_devices_go (T : Txt K mg) : FnOk P w K mg base CX0 4 (f_devices_go K) (fd_devices_go K) ["memory"] (sp_devices_go K) := by
  refine T.fn_devices_go.ok sc_devices_go (fun vs H Q E h => ?_) (fun cdv A outer s H vs Q E hr h => ⟨_, PSs.nox (pss_one (ps_for PassesOwn.never rfl (pi_list (pe_call (ok_frames_of T) (hr.mono (by decide)) (by rfl) (T.glo_frames_of) (T.kp_frames_of) (T.bd_frames_of) .nil pass0 (pa_cons (pv 0) (pa_cons (T.pg_DEVICE) pa_nil)))) (pg_name (i := 1) sc_devices_go.nd rfl (Or.inl rfl)) (pss_one ps_never))), ?_⟩)
  · obtain ⟨_, _, _, rfl, _⟩ := h
    rfl
  · obtain ⟨m, wl, μ, rfl, hM, h8, k⟩ := h
    have hnil : framesV μ 8 = [] := by
      unfold framesV given
      rw [List.filter_eq_nil_iff.mpr, List.map_nil]
      intro i hi
      have := h8 i (List.mem_range.mp hi)
      simp [this]
    refine s_forNL (K := K) (xs := []) (fun H1 e Q q => ⟨_, rfl, m, wl, μ, 8, rfl, hM.keep e, fun p H2 hp e2 h2 => q p H2 hp e2 (by rw [h2, hnil])⟩) (fun p i σ' H' => Ex H H' ∧ H' p = some (.lst [])) (fun p H1 hp e h => ⟨e, h⟩) (fun p i σ' H' _ h => sq_of h.2) (fun p i x σ' H' hi => by cases hi) (fun p σ' H' h => k H' h.1)
/-- the time's part goes on -/
def mpart (μ : Mem) : Mem × Bool :=
  if μ (ix 0 2) > 1 then (mset μ (ix 0 2) (μ (ix 0 2) - 1), false)
  else
    (mset (mset μ (ix 0 1) (if 4 ≤ μ (ix 0 1) + 1 ∨ μ (ix 0 (24 + (μ (ix 0 1) + 1))) % 256 = 0 then 0 else μ (ix 0 1) + 1)) (ix 0 2) (mset μ (ix 0 1) (if 4 ≤ μ (ix 0 1) + 1 ∨ μ (ix 0 (24 + (μ (ix 0 1) + 1))) % 256 = 0 then 0 else μ (ix 0 1) + 1) (ix 0 (24 + if 4 ≤ μ (ix 0 1) + 1 ∨ μ (ix 0 (24 + (μ (ix 0 1) + 1))) % 256 = 0 then 0 else μ (ix 0 1) + 1)) % 256), true)
def sp_next_part (K : PySem.W.Frag) : Sp := fun vs H Q _ => ∃ (m wl : Addr) (μ : Mem), vs = [.ref m] ∧ MemAt K H m wl μ ∧ 0 ≤ μ (ix 0 1) ∧ μ (ix 0 1) < 4 ∧ ∀ H', MemAt K H' m wl (mpart μ).1 → Fr wl H H' → Q (.bl (mpart μ).2) H'
theorem ok_next_part (T : Txt K mg) : FnOk P w K mg base CX0 2 (f_next_part K) (fd_next_part K) ["memory"] (sp_next_part K) := by
  refine T.fn_next_part.ok sc_next_part (fun vs H Q E h => ?_) (fun cdv A outer s H vs Q E hr h => ⟨_, PSs.nox (pss_cons (ps_set (i := 1) sc_next_part.nd rfl (Or.inl rfl) (pe_meth (pv 0) (T.cl_Memory) (T.mt_Memory_word) (ok_Memory_word T) (hr.mono (by decide)) (T.bd_Memory_word) .nil pass0 (pa_cons (T.pg_KERNEL) (pa_cons (T.pg_K_LEFT) pa_nil)))) (pss_cons (ps_if (pt_cmpR op_gt (pv 1) pe_int (nomark _)) (pss_cons (ps_expr (pe_meth (pv 0) (T.cl_Memory) (T.mt_Memory_put) (ok_Memory_put T) (hr.mono (by decide)) (T.bd_Memory_put) .nil pass0 (pa_cons (T.pg_KERNEL) (pa_cons (T.pg_K_LEFT) (pa_cons (pe_op op_sub (pv 1) pe_int) pa_nil))))) (pss_one (ps_ret pe_bl))) pss_nil) (pss_cons (ps_set (i := 2) sc_next_part.nd rfl (Or.inl rfl) (pe_op op_add (pe_meth (pv 0) (T.cl_Memory) (T.mt_Memory_word) (ok_Memory_word T) (hr.mono (by decide)) (T.bd_Memory_word) .nil pass0 (pa_cons (T.pg_KERNEL) (pa_cons (T.pg_K_PART) pa_nil))) pe_int)) (pss_cut (ps_if (PW.pt (pw_or (pt_cmpR op_ge (pv 2) (T.pg_PARTS) (nomark _)) (pw_or1 (pt_cmpR op_eq (pe_op op_mod (pe_meth (pv 0) (T.cl_Memory) (T.mt_Memory_word) (ok_Memory_word T) (hr.mono (by decide)) (T.bd_Memory_word) .nil pass0 (pa_cons (T.pg_KERNEL) (pa_cons (pe_op op_add (T.pg_K_PLAN) (pv 2)) pa_nil))) pe_int) pe_int (nomark _))))) (pss_one (ps_set (i := 2) sc_next_part.nd rfl (Or.inl rfl) pe_int)) pss_nil) (pss_cons (ps_expr (pe_meth (pv 0) (T.cl_Memory) (T.mt_Memory_put) (ok_Memory_put T) (hr.mono (by decide)) (T.bd_Memory_put) .nil pass0 (pa_cons (T.pg_KERNEL) (pa_cons (T.pg_K_PART) (pa_cons (pv 2) pa_nil))))) (pss_cons (ps_expr (pe_meth (pv 0) (T.cl_Memory) (T.mt_Memory_put) (ok_Memory_put T) (hr.mono (by decide)) (T.bd_Memory_put) .nil pass0 (pa_cons (T.pg_KERNEL) (pa_cons (T.pg_K_LEFT) (pa_cons (pe_op op_mod (pe_meth (pv 0) (T.cl_Memory) (T.mt_Memory_word) (ok_Memory_word T) (hr.mono (by decide)) (T.bd_Memory_word) .nil pass0 (pa_cons (T.pg_KERNEL) (pa_cons (pe_op op_add (T.pg_K_PLAN) (pv 2)) pa_nil))) pe_int) pa_nil))))) (pss_one (ps_ret pe_bl)))))))), ?_⟩)
  · obtain ⟨_, _, _, rfl, _⟩ := h
    rfl
  · obtain ⟨m, wl, μ, rfl, hM, h1, h2, k⟩ := h
    refine q_asg (ev_word hM (ev_var rfl) ev_c ev_c (by omega)) fun H1 e1 => ?_
    have hM1 := hM.keep e1
    refine q_when (et_test (ev_op (ev_var rfl) ev_c rv_I0)) (fun hb H2 e2 => ?_) (fun hb H2 e2 => ?_)
    · have hl : μ (ix 0 2) > 1 := of_decide_eq_true hb
      have hp : mpart μ = (mset μ (ix 0 2) (μ (ix 0 2) - 1), false) := by unfold mpart; rw [if_pos hl]
      rw [hp] at k
      refine q_put (hM1.keep e2) (ev_var rfl) ev_c ev_c (ev_op (ev_var rfl) ev_c rv_I0) (by omega) fun H3 h3 f3 => ?_
      exact s_ret ev_c fun H4 e4 => k H4 (h3.keep e4) (((Fr.of (e1.trans e2)).trans f3).trans (Fr.of e4))
    · have hl : ¬ μ (ix 0 2) > 1 := of_decide_eq_false hb
      have hM2 := hM1.keep e2
      obtain ⟨r, hr⟩ : ∃ r : Int, r = if 4 ≤ μ (ix 0 1) + 1 ∨ μ (ix 0 (24 + (μ (ix 0 1) + 1))) % 256 = 0 then 0 else μ (ix 0 1) + 1 := ⟨_, rfl⟩
      have hp : mpart μ = (mset (mset μ (ix 0 1) r) (ix 0 2) (mset μ (ix 0 1) r (ix 0 (24 + r)) % 256), true) := by unfold mpart; rw [if_neg hl, ← hr]
      rw [hp] at k
      have hr4 : 0 ≤ r ∧ r < 4 := by
        rw [hr]
        split <;> omega
      refine q_asg (ev_op (ev_word hM2 (ev_var rfl) ev_c ev_c (by omega)) ev_c rv_I0) fun H3 e3 => ?_
      have hM3 := hM2.keep e3
      refine q_cut (M := fun σ' H' => σ' = [some (.ref m), some (.int (μ (ix 0 2))), some (.int r)] ∧ MemAt K H' m wl μ ∧ Ex H H') ?_ ?_
      · by_cases hc : 4 ≤ μ (ix 0 1) + 1
        · have hr0 : r = 0 := by rw [hr, if_pos (.inl hc)]
          refine s_when (b := true) (et_is (et_or (a := true) (b := true) (et_is (et_test (ev_op (ev_var rfl) ev_c rv_I0)) (decide_eq_true hc)) fun h => by cases h) rfl) (fun _ H4 e4 => s_asg ev_c fun H5 e5 => ⟨by rw [hr0]; rfl, hM3.keep (e4.trans e5), (((e1.trans e2).trans e3).trans e4).trans e5⟩) (fun h => by cases h)
        · refine s_when (b := decide (V.int (μ (ix 0 (24 + (μ (ix 0 1) + 1))) % 256) = V.int 0)) (et_is (et_or (a := false) (et_is (et_test (ev_op (ev_var rfl) ev_c rv_I0)) (decide_eq_false hc)) fun _ => et_test (ev_op (ev_op (ev_word hM3 (ev_var rfl) ev_c (ev_op ev_c (ev_var rfl) rv_I0) (by omega)) ev_c (rv_I (by decide))) ev_c (rv_eq rfl))) rfl) (fun hb H4 e4 => ?_) (fun hb H4 e4 => ?_)
          · have hz : μ (ix 0 (24 + (μ (ix 0 1) + 1))) % 256 = 0 := V.int.inj (of_decide_eq_true hb)
            have hr0 : r = 0 := by rw [hr, if_pos (.inr hz)]
            exact s_asg ev_c fun H5 e5 => ⟨by rw [hr0]; rfl, hM3.keep (e4.trans e5), (((e1.trans e2).trans e3).trans e4).trans e5⟩
          · have hz : ¬ μ (ix 0 (24 + (μ (ix 0 1) + 1))) % 256 = 0 := fun z => of_decide_eq_false hb (by rw [z])
            have hr0 : r = μ (ix 0 1) + 1 := by rw [hr, if_neg (fun z => z.elim hc hz)]
            exact ⟨by rw [hr0]; rfl, hM3.keep e4, ((e1.trans e2).trans e3).trans e4⟩
      rintro σ' H4 ⟨rfl, h4, e4⟩
      refine q_put h4 (ev_var rfl) ev_c ev_c (ev_var rfl) (by omega) fun H5 h5 f5 => ?_
      refine q_put h5 (ev_var rfl) ev_c ev_c (ev_op (ev_word h5 (ev_var rfl) ev_c (ev_op ev_c (ev_var rfl) rv_I0) (by omega)) ev_c (rv_I (by decide))) (by omega) fun H6 h6 f6 => ?_
      exact s_ret ev_c fun H7 e7 => k H7 (h6.keep e7) ((((Fr.of e4).trans f5).trans f6).trans (Fr.of e7))
def mreck (op a b : Int) : Int := if op = 2 then a + b else a * b
def sp_reckoned : Sp := fun vs H Q _ => ∃ op a b : Int, vs = [.int op, .int a, .int b] ∧ (op = 2 ∨ op = 8) ∧ 0 ≤ a ∧ a < 65536 ∧ ∀ H', Ex H H' → Q (.int (mreck op a b)) H'
theorem ok_reckoned (T : Txt K mg) : FnOk P w K mg base CX0 1 (f_reckoned K) (fd_reckoned K) ["op", "one", "other"] sp_reckoned := by
  refine T.fn_reckoned.ok sc_reckoned (fun vs H Q E h => ?_) (fun cdv A outer s H vs Q E hr h => ⟨_, PSs.nox (pss_cons (ps_if (pt_cmpR op_eq (pv 0) pe_int (nomark _)) (pss_one (ps_ret (pe_op op_add (pv 1) (pv 2)))) pss_nil) (pss_cons (ps_if (pt_cmpR op_eq (pv 0) pe_int (nomark _)) (pss_one (ps_ret (pe_op op_sub (pv 1) (pv 2)))) pss_nil) (pss_cons (ps_if (pt_cmpR op_eq (pv 0) pe_int (nomark _)) (pss_one (ps_ret (pe_op op_mul (pv 1) (pv 2)))) pss_nil) (pss_one (ps_ret (pe_ifExp (pt_cmpR op_eq (pv 0) pe_int (nomark _)) (pe_callTy call_int1 (by rfl) T.free_int (by decide +kernel) (pa_cons (pe_cmpR op_lt (pv 1) (pv 2) (nomark _)) pa_nil)) (pe_op op_and (pv 1) (pv 2)))))))), ?_⟩)
  · obtain ⟨_, _, _, rfl, _⟩ := h
    rfl
  · obtain ⟨op, a, b, rfl, ho, a0, a1, k⟩ := h
    rcases ho with rfl | rfl
    · refine q_when (b := true) (et_is (et_test (ev_op (ev_var rfl) ev_c (rv_eq rfl))) rfl) (fun _ H1 e1 => ?_) (fun h => by cases h)
      exact s_ret (ev_op (ev_var rfl) (ev_var rfl) rv_I0) fun H2 e2 => k H2 (e1.trans e2)
    · refine q_when (b := false) (et_is (et_test (ev_op (ev_var rfl) ev_c (rv_eq rfl))) rfl) (fun h => by cases h) fun _ H1 e1 => ?_
      refine q_when (b := false) (et_is (et_test (ev_op (ev_var rfl) ev_c (rv_eq rfl))) rfl) (fun h => by cases h) fun _ H2 e2 => ?_
      refine q_when (b := true) (et_is (et_test (ev_op (ev_var rfl) ev_c (rv_eq rfl))) rfl) (fun _ H3 e3 => ?_) (fun h => by cases h)
      exact s_ret (ev_op (ev_var rfl) (ev_var rfl) (rv_I (.inl ⟨by omega, by omega⟩))) fun H4 e4 => k H4 (((e1.trans e2).trans e3).trans e4)
end
end KA

namespace KA
open PySem PySem.Spec PyProof.Rows L2 Evl TL
/-- xs[j] as a thing to be read and stored -/
def rGetL (K : PySem.W.Frag) : V → V → Hp → VK → Prop := fun o i H Q => ∃ p xs, ∃ j : Nat, ∃ v, o = .ref p ∧ i = .int (j : Int) ∧ SqL K H p xs ∧ xs[j]? = some v ∧ (j : Int) < 2 ^ 62 ∧ Q v H
theorem get_list {X : Cx} : PGet X (rGetL X.K) := by
  intro pins s σ H o i ov iv Q I ro ri h
  obtain ⟨p, xs, j, v, rfl, rfl, hq, hx, hj, q⟩ := h
  cases ro
  obtain ⟨t, rfl⟩ := ri
  obtain ⟨its, r, pl, hz⟩ := I.list hq
  obtain ⟨u, hu, ru⟩ := r.get hx
  exact wpAny_getItem_list pl.isList (by omega) (by omega) (by simpa using hu) ⟨v, H, I, ru, q⟩
section
variable {σ : L2.St} {H : Hp} {K : PySem.W.Frag} {D : Ends}
theorem eu_tupNL {ta : TE} {xs : List V} (ha : EvL ta σ H xs) : EvU (tCB (rTupK K) (tCons ta tNil)) σ H xs := fun H1 e Q q =>
  ha H1 e _ fun p H2 hp e2 h2 => ⟨p, xs, rfl, .inl ⟨sq_of h2, fun l hl => q l _ (fresh_back e2 hl) (e2.trans (Ex.new hl)) upd_same⟩⟩
/-- xs[j] += e -/
theorem s_augL {to te : TE} {l : Addr} {xs : List V} {j : Nat} {a b : Int} (ho : Ev to σ H (.ref l)) (hl : H l = some (.lst xs)) (hx : xs[j]? = some (.int a)) (hj : j < 1000000) (he : Ev te σ H (.int b)) (k : ∀ H1, Ex H H1 → D.nx σ (upd H1 l (.lst (xs.set j (.int (a + b)))))) :
    tAugS to (tC (.int (j : Int))) te (rGetL K) (ipI fun i j => i + j) rSetL D σ H := ho H (Ex.refl H) _ fun H1 e1 =>
  ⟨l, xs, j, .int a, rfl, rfl, sq_of (e1 _ _ hl), hx, by omega, he H1 e1 _ fun H2 e2 => ⟨a, b, rfl, rfl, l, xs, (j : Int), j, rfl, rfl, (e1.trans e2) _ _ hl, ixN_nat (List.getElem?_eq_some_iff.mp hx).1, k H2 (e1.trans e2)⟩⟩
theorem q_augL {to te : TE} {tz : TS} {l : Addr} {xs : List V} {j : Nat} {a b : Int} (ho : Ev to σ H (.ref l)) (hl : H l = some (.lst xs)) (hx : xs[j]? = some (.int a)) (hj : j < 1000000) (he : Ev te σ H (.int b)) (k : ∀ H1, Ex H H1 → tz D σ (upd H1 l (.lst (xs.set j (.int (a + b)))))) :
    tSeq (tAugS to (tC (.int (j : Int))) te (rGetL K) (ipI fun i j => i + j) rSetL) tz D σ H := s_augL (D := { D with nx := tz D }) ho hl hx hj he k
end
/-- all stands but what stands in S -/
def FS (S : List Addr) (H H' : Hp) : Prop := ∀ b o, H b = some o → b ∉ S → H' b = some o
theorem FS.of {S : List Addr} {H H' : Hp} (e : Ex H H') : FS S H H' := fun b o h _ => e b o h
theorem FS.trans {S : List Addr} {H H1 H2 : Hp} (a : FS S H H1) (b : FS S H1 H2) : FS S H H2 := fun c o h n => b c o (a c o h n) n
theorem FS.put {S : List Addr} {H : Hp} {l : Addr} {o : HO} (hl : l ∈ S) : FS S H (L2.upd H l o) := fun b u h n => by
  have : b ≠ l := fun z => n (by rw [z]; exact hl)
  rw [upd_ne this]
  exact h
theorem FS.fr {S : List Addr} {wl : Addr} {H H' : Hp} (f : Fr wl H H') (hl : wl ∈ S) : FS S H H' := fun b o h n => f b o h (fun z => n (by rw [z]; exact hl))
abbrev Ent : Type := Int → Int → Int → Int
def entV (ent : Ent) (tb pg : Int) : List V := [.int (ent tb pg 0), .int (ent tb pg 1), .int (ent tb pg 2)]
section
variable {P : Program} {w : World} {K : PySem.W.Frag} {mg : Str → Option Value} {base : Heap}
def sp_entry_at (K : PySem.W.Frag) : Sp := fun vs H Q _ => ∃ (m wl : Addr) (μ : Mem) (f p : Int), vs = [.ref m, .int f, .int p] ∧ MemAt K H m wl μ ∧ InF f ∧ μ (ix 1 f) ≠ 8 ∧ ∀ H', Ex H H' → Q (.int (p * 4)) H'
theorem ok_entry_at (T : Txt K mg) : FnOk P w K mg base CX0 3 (f_entry_at K) (fd_entry_at K) ["memory", "frame", "page"] (sp_entry_at K) := by
  refine T.fn_entry_at.ok sc_entry_at (fun vs H Q E h => ?_) (fun cdv A outer s H vs Q E hr h => ⟨_, PSs.nox (pss_one (ps_ret (pe_op op_add (pe_op op_mul (pv 2) pe_int) (pe_ifExp (pt_cmpR op_eq (pe_call (ok_kind_of T) (hr.mono (by decide)) (by rfl) (T.glo_kind_of) (T.kp_kind_of) (T.bd_kind_of) .nil pass0 (pa_cons (pv 0) (pa_cons (pv 1) pa_nil))) (T.pg_DEVICE) (nomark _)) pe_int pe_int)))), ?_⟩)
  · obtain ⟨_, _, _, _, _, rfl, _⟩ := h
    rfl
  · obtain ⟨m, wl, μ, f, p, rfl, hM, hI, h8, k⟩ := h
    refine s_ret (ev_is (ev_op (ev_op (ev_var rfl) ev_c (rv_I (.inr ⟨by decide, by decide⟩))) (ev_if (b := false) (v := .int 0) (et_is (et_test (ev_op (ev_kind hM (ev_var rfl) (ev_var rfl) hI) ev_c (rv_eq rfl))) (decide_eq_false fun z => h8 (V.int.inj z))) (fun h => by cases h) fun _ => ev_c) rv_I0) (by simp)) k
def sp_entry (K : PySem.W.Frag) : Sp := fun vs H Q _ => ∃ (m wl : Addr) (μ : Mem) (f p : Int), vs = [.ref m, .int f, .int p] ∧ MemAt K H m wl μ ∧ InF f ∧ 0 ≤ p ∧ p < 8 ∧ μ (ix 1 f) ≠ 8 ∧
  ∀ q H', H q = none → Ex H H' → H' q = some (.tup (entV (fun tb pg i => μ (ix tb (pg * 4 + i))) f p)) → Q (.ref q) H'
theorem ok_entry (T : Txt K mg) : FnOk P w K mg base CX0 4 (f_entry K) (fd_entry K) ["memory", "table", "page"] (sp_entry K) := by
  refine T.fn_entry.ok sc_entry (fun vs H Q E h => ?_) (fun cdv A outer s H vs Q E hr h => ⟨_, PSs.nox (pss_one (ps_ret (pe_callTy call_tuple_of (by rfl) T.free_tuple (by decide +kernel) (pa_cons (pe_lc (own := [("k", 3)]) (by rfl) sc_entry.nd (pi_range1 (by rfl) T.free_range (pa_cons pe_int pa_nil)) (blkOk_by (N := sc_entry_N) (sc := defScope s_entry) (own := [("k", 3)]) (by decide +kernel)) (fun _ _ _ _ _ => (pg_name (i := 3) sc_entry.nd rfl (Or.inl rfl))) (fun _ _ _ _ _ => pts_nil) (fun _ _ _ _ _ => (pe_meth (pv 0) (T.cl_Memory) (T.mt_Memory_word) (ok_Memory_word T) (hr.mono (by decide)) (T.bd_Memory_word) .nil pass0 (pa_cons (pv 1) (pa_cons (pe_op op_add (pe_call (ok_entry_at T) (hr.mono (by decide)) (by rfl) (T.glo_entry_at) (T.kp_entry_at) (T.bd_entry_at) .nil pass0 (pa_cons (pv 0) (pa_cons (pv 1) (pa_cons (pv 2) pa_nil)))) (pv 3)) pa_nil))))) pa_nil)))), ?_⟩)
  · obtain ⟨_, _, _, _, _, rfl, _⟩ := h
    rfl
  · obtain ⟨m, wl, μ, f, p, rfl, hM, hI, p0, p1, h8, k⟩ := h
    refine s_retU (eu_tupNL (K := K) ?_) k
    exact el_lcR1 (n := 3) (fun _ => true) (fun i => .int (μ (ix f (p * 4 + (i : Int))))) (ea_cons ev_c ea_nil) (by decide) (fun x => rfl) (fun i H1 e1 hi => et_yes) (fun i H1 e1 hi _ => ev_word (hM.keep e1) (ev_var rfl) (ev_var rfl) (ev_op (ev_pure (z := .int (p * 4)) (ea_cons (ev_var rfl) (ea_cons (ev_var rfl) (ea_cons (ev_var rfl) ea_nil))) fun H2 e2 Q q => ⟨m, wl, μ, f, p, rfl, hM.keep (e1.trans e2), hI, h8, q⟩) (ev_var rfl) rv_I0) (by omega))
/-! ### the machine -/
abbrev CMa (K : PySem.W.Frag) : Addr := He.ga K "Machine"
def KeptOk (ent : Ent) (H : Hp) (v : V) : Prop := ∃ q tb pg e, v = .ref q ∧ H q = some (.tup [.int tb, .int pg, .ref e]) ∧ H e = some (.tup (entV ent tb pg))
theorem KeptOk.mono {ent : Ent} {H H' : Hp} {v : V} (h : KeptOk ent H v) (k : ∀ b xs, H b = some (.tup xs) → H' b = some (.tup xs)) : KeptOk ent H' v := by
  obtain ⟨q, tb, pg, e, h1, h2, h3⟩ := h
  exact ⟨q, tb, pg, e, h1, k _ _ h2, k _ _ h3⟩
structure MachAt (K : PySem.W.Frag) (H : Hp) (mc m wl cl : Addr) (ent : Ent) : Prop where
  ex : ∃ dx kl c0 c1 kept, H mc = some (.ins (CMa K) dx [("_memory", .ref m), ("_most", .int 4), ("_kept", .ref kl), ("_counts", .ref cl)]) ∧ H kl = some (.lst kept) ∧ H cl = some (.lst [.int c0, .int c1]) ∧ kl ≠ cl ∧ kl ≠ wl ∧ kept.length ≤ 4 ∧ ∀ v ∈ kept, KeptOk ent H v
theorem MachAt.keep {H H' : Hp} {mc m wl cl : Addr} {ent : Ent} (h : MachAt K H mc m wl cl ent) (e : Ex H H') : MachAt K H' mc m wl cl ent := by
  obtain ⟨dx, kl, c0, c1, kept, h1, h2, h3, h4, h4w, h5, h6⟩ := h
  exact ⟨dx, kl, c0, c1, kept, e _ _ h1, e _ _ h2, e _ _ h3, h4, h4w, h5, fun v hv => (h6 v hv).mono fun b xs h => e _ _ h⟩
end
end KA

namespace KA
open PySem PySem.Spec PyProof.Rows L2 Evl TL
section
variable {σ : L2.St} {H : Hp} {K : PySem.W.Frag} {D : Ends}
theorem ev_fld {ta : TE} {a C dx : Addr} {fs : List (Str × V)} {f : Str} {v : V} (ha : Ev ta σ H (.ref a)) (h : H a = some (.ins C dx fs)) (c : Cls K C) (n : NoAttr K C f) (l : fs.lookup f = some v) : Ev (tFld K ta f) σ H v := fun H1 e Q q =>
  ha H1 e _ fun H2 e2 => ⟨a, C, dx, fs, v, rfl, (e.trans e2) _ _ h, c, n, l, q H2 e2⟩
theorem q_fldL {ta tv : TE} {tz : TS} {a C dx : Addr} {fs : List (Str × V)} {f : Str} {xs : List V} (hv : EvL tv σ H xs) (ha : Ev ta σ H (.ref a)) (h : H a = some (.ins C dx fs)) (c : Cls K C) (n : NoAttr K C f) (hl : fs.length < 1000)
    (k : ∀ p H1, H p = none → Ex H H1 → H1 p = some (.lst xs) → tz D σ (upd H1 a (.ins C dx (putF f (.ref p) fs)))) : tSeq (sFld K ta tv f) tz D σ H := hv H (Ex.refl H) _ fun p H1 hp e1 h1 => ha H1 e1 _ fun H2 e2 =>
  ⟨a, C, dx, fs, rfl, (e1.trans e2) _ _ h, c, n, hl, k p H2 hp (e1.trans e2) (e2 _ _ h1)⟩
theorem s_fldL {ta tv : TE} {a C dx : Addr} {fs : List (Str × V)} {f : Str} {xs : List V} (hv : EvL tv σ H xs) (ha : Ev ta σ H (.ref a)) (h : H a = some (.ins C dx fs)) (c : Cls K C) (n : NoAttr K C f) (hl : fs.length < 1000)
    (k : ∀ p H1, H p = none → Ex H H1 → H1 p = some (.lst xs) → D.nx σ (upd H1 a (.ins C dx (putF f (.ref p) fs)))) : sFld K ta tv f D σ H := hv H (Ex.refl H) _ fun p H1 hp e1 h1 => ha H1 e1 _ fun H2 e2 =>
  ⟨a, C, dx, fs, rfl, (e1.trans e2) _ _ h, c, n, hl, k p H2 hp (e1.trans e2) (e2 _ _ h1)⟩
theorem el_slNL {te : TE} {tl th : TO} {xs : List V} {lo hi : Option Int} (h : EvL te σ H xs) (h1 : ∀ H1, Ex H H1 → EvO tl σ H1 lo) (h2 : ∀ H1, Ex H H1 → EvO th σ H1 hi) : EvL (tSl (rSlL K) te tl th) σ H (cutV xs lo hi) := fun H1 e _ q =>
  h H1 e _ fun p H2 hp e2 hx => h1 H2 (e.trans e2) H2 (Ex.refl H2) _ fun H3 e3 => h2 H3 ((e.trans e2).trans e3) H3 (Ex.refl H3) _ fun H4 e4 =>
    ⟨p, xs, rfl, sq_of ((e3.trans e4) _ _ hx), fun l hl => q l _ (fresh_back ((e2.trans e3).trans e4) hl) (((e2.trans e3).trans e4).trans (Ex.new hl)) upd_same⟩
/-- x + [t], t a new tuple of values -/
theorem el_cat1 {ta : TE} {ts : TA} {l : Addr} {xs : List V} (ha : Ev ta σ H (.ref l)) (hl : H l = some (.lst xs)) (hz : xs.length ≤ 1000) {vs : List V} (ht : EvA ts σ H vs) (hn : vs.length ≤ 1000) (H1 : Hp) (e : Ex H H1) (Q : VK)
    (q : ∀ p t H2, H1 p = none → H1 t = none → Ex H1 H2 → H2 p = some (.lst (xs ++ [.ref t])) → H2 t = some (.tup vs) → Q (.ref p) H2) : tOp rCat ta (tLst (tCons (tTup ts) tNil)) σ H1 Q :=
  ha H1 e _ fun H2 e2 => show tTup ts σ H2 (fun v H3 => ([v] : List V).length ≤ sizeLine ∧ ∀ p, H3 p = none → rCat (V.ref l) (.ref p) (upd H3 p (.lst [v])) Q) from eu_tup ht (by omega) H2 (e.trans e2) _ fun t H3 ht3 e3 h3 => ⟨sz_of (by show 1 ≤ 100000; decide), fun p2 hp2 =>
    have e4 : Ex H3 (upd H3 p2 (.lst [.ref t])) := Ex.new hp2
    ⟨l, p2, xs, _, rfl, rfl, e4 _ _ (e3 _ _ (e2 _ _ (e _ _ hl))), upd_same, sz_of (by show xs.length + 1 ≤ 100000; omega), fun p hp =>
      have e5 : Ex (upd H3 p2 (.lst [.ref t])) (upd (upd H3 p2 (.lst [.ref t])) p (.lst (xs ++ [.ref t]))) := Ex.new hp
      q p t _ (fresh_back ((e2.trans e3).trans e4) hp) (fresh_back e2 ht3) (((e2.trans e3).trans e4).trans e5) upd_same (e5 _ _ (e4 _ _ h3))⟩⟩
end
theorem cutV_mem {xs : List V} {lo hi : Option Int} {v : V} (h : v ∈ cutV xs lo hi) : v ∈ xs := List.mem_of_mem_drop (List.mem_of_mem_take h)
theorem cut4 {xs : List V} (h : xs.length ≤ 5) : (cutV xs (some (-4)) none).length ≤ 4 := by
  unfold cutV
  rw [List.length_take, List.length_drop]
  have : xs.length = 0 ∨ xs.length = 1 ∨ xs.length = 2 ∨ xs.length = 3 ∨ xs.length = 4 ∨ xs.length = 5 := by omega
  rcases this with e | e | e | e | e | e <;> rw [e] <;> decide
theorem eqv2 (a b c d : Int) : PyData.eqv (.tuple [.int a, .int b]) (.tuple [.int c, .int d]) = (decide (a = c) && decide (b = d)) := by
  simp [PyData.eqv, PyData.eqvAll]
  by_cases h1 : a = c <;> by_cases h2 : b = d <;> simp [h1, h2]
theorem shaped2 (a b : Int) : SeqAt.shaped (.tuple [.int a, .int b]) = true := by
  simp [SeqAt.shaped, PyData.canLay0, PyData.canLayAll0, PyData.depth, PyData.depthAll]
theorem rv_eq2 {K : PySem.W.Frag} {H : Hp} {p q : Addr} {a b c d : Int} (hp : H p = some (.tup [.int a, .int b])) (hq : H q = some (.tup [.int c, .int d])) : RV (rEqD K) (.ref p) (.ref q) H (.bl (decide (a = c) && decide (b = d))) := fun H1 e Q k =>
  ⟨_, _, .tup (st_of (e _ _ hp)) (.cons (.int _) (.cons (.int _) .nil)), .tup (st_of (e _ _ hq)) (.cons (.int _) (.cons (.int _) .nil)), shaped2 _ _, shaped2 _ _, by rw [eqv2]; exact k H1 (Ex.refl H1)⟩
section
variable {P : Program} {w : World} {K : PySem.W.Frag} {mg : Str → Option Value} {base : Heap}
def sp__entry (K : PySem.W.Frag) : Sp := fun vs H Q _ => ∃ (mc m wl cl : Addr) (ent : Ent) (μ : Mem) (tb pg : Int), vs = [.ref mc, .int tb, .int pg] ∧ MachAt K H mc m wl cl ent ∧ MemAt K H m wl μ ∧ wl ≠ cl ∧ mc ≠ m ∧ InF tb ∧ 0 ≤ pg ∧ pg < 8 ∧ μ (ix 1 tb) ≠ 8 ∧
  entV (fun tb pg i => μ (ix tb (pg * 4 + i))) tb pg = entV ent tb pg ∧ ∀ q H', H' q = some (.tup (entV ent tb pg)) → MachAt K H' mc m wl cl ent → MemAt K H' m wl μ → FS [mc, cl] H H' → Q (.ref q) H'
theorem MemAt.other {H : Hp} {m wl l : Addr} {μ : Mem} {o : HO} (h : MemAt K H m wl μ) (h1 : l ≠ m) (h2 : l ≠ wl) (h3 : ∀ dd kvs, H dd = some (.dK kvs) → l ≠ dd) : MemAt K (L2.upd H l o) m wl μ := by
  obtain ⟨⟨dx, dd, a, kvs, b⟩, c⟩ := h
  exact ⟨⟨dx, dd, by rw [upd_ne (Ne.symm h1)]; exact a, kvs, by rw [upd_ne (Ne.symm (h3 dd kvs b))]; exact b⟩, by rw [upd_ne (Ne.symm h2)]; exact c⟩
theorem MachAt.counts {H : Hp} {mc m wl cl : Addr} {ent : Ent} {a b : Int} (h : MachAt K H mc m wl cl ent) : MachAt K (L2.upd H cl (.lst [.int a, .int b])) mc m wl cl ent := by
  obtain ⟨dx, kl, c0, c1, kept, h1, h2, h3, h4, h4w, h5, h6⟩ := h
  have n1 : mc ≠ cl := ne_of h1 h3 (by intro z; cases z)
  refine ⟨dx, kl, a, b, kept, by rw [upd_ne n1]; exact h1, by rw [upd_ne h4]; exact h2, upd_same, h4, h4w, h5, fun v hv => (h6 v hv).mono fun p xs hp => ?_⟩
  have : p ≠ cl := ne_of hp h3 (by intro z; cases z)
  rw [upd_ne this]
  exact hp
theorem MemAt.counts {H : Hp} {mc m wl cl : Addr} {ent : Ent} {μ : Mem} {a b : Int} (h : MemAt K H m wl μ) (hA : MachAt K H mc m wl cl ent) (hwc : wl ≠ cl) : MemAt K (L2.upd H cl (.lst [.int a, .int b])) m wl μ := by
  obtain ⟨dx, kl, c0, c1, kept, h1, h2, h3, h4, h4w, h5, h6⟩ := hA
  obtain ⟨dx', dd, a1, b1⟩ := h.ins
  exact h.other (ne_of h3 a1 (by intro z; cases z)) (Ne.symm hwc) fun dd kvs b => ne_of h3 b (by intro z; cases z)
theorem ok_Machine_entry (T : Txt K mg) : FnOk P w K mg base CX0 5 (f_Machine_entry K) (fd_Machine_entry K) ["self", "table", "page"] (sp__entry K) := by
  refine T.fn_Machine_entry.ok sc_Machine_entry (fun vs H Q E h => ?_) (fun cdv A outer s H vs Q E hr h => ⟨_, PSs.nox (pss_cons (ps_for PassesOwn.never rfl (pi_list (pe_fld (pv 0) rfl)) (pg_tup (by rfl) (pgs_cons (pg_name (i := 3) sc_Machine_entry.nd rfl (Or.inl rfl)) (pgs_cons (pg_name (i := 4) sc_Machine_entry.nd rfl (Or.inl rfl)) (pgs_cons (pg_name (i := 5) sc_Machine_entry.nd rfl (Or.inl rfl)) pgs_nil)))) (pss_one (ps_if (pt_cmpR (op_eqD hr.units) (pe_tup (pa_cons (pv 3) (pa_cons (pv 4) pa_nil))) (pe_tup (pa_cons (pv 1) (pa_cons (pv 2) pa_nil))) (nomark _)) (pss_cons (ps_augS (pe_fld (pv 0) rfl) pe_int get_list pe_int ip_add set_list) (pss_one (ps_ret (pv 5)))) pss_nil))) (pss_cons (ps_augS (pe_fld (pv 0) rfl) pe_int get_list pe_int ip_add set_list) (pss_cons (ps_set (i := 5) sc_Machine_entry.nd rfl (Or.inl rfl) (pe_call (ok_entry T) (hr.mono (by decide)) (by rfl) (T.glo_entry) (T.kp_entry) (T.bd_entry) .nil pass0 (pa_cons (pe_fld (pv 0) rfl) (pa_cons (pv 1) (pa_cons (pv 2) pa_nil))))) (pss_cut (ps_if (pt_truth (pe_fld (pv 0) rfl) (by intro _; rfl)) (pss_one (ps_fld (pv 0) (pe_slice sl_list (pe_op op_cat (pe_fld (pv 0) rfl) (pe_lst (pa_cons (pe_tup (pa_cons (pv 1) (pa_cons (pv 2) (pa_cons (pv 5) pa_nil)))) pa_nil))) (po_some (pe_un un_neg (pe_fld (pv 0) rfl))) po_none) rfl)) pss_nil) (pss_one (ps_ret (pv 5))))))), ?_⟩)
  · obtain ⟨_, _, _, _, _, _, _, _, rfl, _⟩ := h
    rfl
  · obtain ⟨mc, m, wl, cl, ent, μ, tb, pg, rfl, hA, hM, hwc, hmm, hI, p0, p1, h8, he, k⟩ := h
    obtain ⟨dx, kl, c0, c1, kept, g1, g2, g3, g4, g4w, g5, g6⟩ := hA.ex
    refine q_forL (K := K) (a := kl) (xs := kept) (ev_fld (ev_var rfl) g1 T.cl_Machine T.no_Machine_kept rfl) (sq_of g2) (fun i σ' H' => ∃ x y z, σ' = [some (.ref mc), some (.int tb), some (.int pg), x, y, z] ∧ Ex H H') (fun H1 e1 => ⟨none, none, none, rfl, e1⟩) (fun i σ' H' _ ⟨_, _, _, _, e⟩ => sq_of (e _ _ g2)) ?_ ?_
    · rintro i y σ' H1 hi ⟨x1, x2, x3, rfl, e1⟩
      obtain ⟨q, tb', pg', et, rfl, k2, k3⟩ := (g6 y (List.mem_of_getElem? hi)).mono (H' := H1) fun b xs h => e1 _ _ h
      refine ⟨q, _, rfl, st_of k2, rfl, _, _, rfl, _, _, rfl, _, _, rfl, rfl, ?_⟩
      refine s_when (et_test (ev_opUU (eu_tup (ea_cons (ev_var rfl) (ea_cons (ev_var rfl) ea_nil)) (by show 2 ≤ 100000; decide)) (eu_tup (ea_cons (ev_var rfl) (ea_cons (ev_var rfl) ea_nil)) (by show 2 ≤ 100000; decide)) fun p q H2 hp hq _ => rv_eq2 hp hq)) (fun hb H2 e2 => ?_) (fun hb H2 e2 => ⟨_, _, _, rfl, e1.trans e2⟩)
      have hb' : tb' = tb ∧ pg' = pg := by simpa using hb
      obtain ⟨rfl, rfl⟩ := hb'
      have e12 := e1.trans e2
      refine q_augL (j := 0) (xs := [.int c0, .int c1]) (ev_fld (ev_var rfl) (e12 _ _ g1) T.cl_Machine T.no_Machine_counts rfl) (e12 _ _ g3) rfl (by decide) ev_c fun H3 e3 => ?_
      have hA3 := hA.keep (e12.trans e3)
      have hM3 := hM.keep (e12.trans e3)
      refine s_ret (ev_var rfl) fun H4 e4 => ?_
      have nec : et ≠ cl := ne_of k3 (e1 _ _ g3) (by intro z; cases z)
      exact k et H4 (e4 _ _ (by rw [upd_ne nec]; exact e3 _ _ (e2 _ _ k3))) (hA3.counts.keep e4) ((hM3.counts hA3 hwc).keep e4) (((FS.of (e12.trans e3)).trans (FS.put (by simp))).trans (FS.of e4))
    · rintro σ' H1 ⟨x1, x2, x3, rfl, e1⟩
      refine q_augL (j := 1) (xs := [.int c0, .int c1]) (ev_fld (ev_var rfl) (e1 _ _ g1) T.cl_Machine T.no_Machine_counts rfl) (e1 _ _ g3) rfl (by decide) ev_c fun H2 e2 => ?_
      have hA2 := (hA.keep (e1.trans e2)).counts (a := c0) (b := c1 + 1)
      have hM2 := (hM.keep (e1.trans e2)).counts (hA.keep (e1.trans e2)) hwc (a := c0) (b := c1 + 1)
      have f2 : FS [mc, cl] H (upd H2 cl (.lst [.int c0, .int (c1 + 1)])) := (FS.of (e1.trans e2)).trans (FS.put (by simp))
      show tSeq _ _ _ _ (upd H2 cl (.lst [.int c0, .int (c1 + 1)]))
      generalize upd H2 cl (.lst [.int c0, .int (c1 + 1)]) = H3 at hA2 hM2 f2 ⊢
      clear g1 g2 g3 g4 g4w g5 g6 e1 e2
      obtain ⟨dx, kl, c0, c1, kept, g1, g2, g3, g4, g4w, g5, g6⟩ := hA2.ex
      refine ⟨_, rfl, mc, CMa K, dx, _, .ref m, rfl, g1, T.cl_Machine, T.no_Machine_memory, rfl, _, rfl, _, rfl, m, wl, μ, tb, pg, rfl, hM2, hI, p0, p1, h8, fun et H4 het e4 h4 => ?_⟩
      rw [he] at h4
      refine q_cut (M := fun σ' H' => σ' = [some (.ref mc), some (.int tb), some (.int pg), x1, x2, some (.ref et)] ∧ H' et = some (.tup (entV ent tb pg)) ∧ MachAt K H' mc m wl cl ent ∧ MemAt K H' m wl μ ∧ FS [mc, cl] H H') ?_ ?_
      · refine s_when (b := true) (et_is (et_truI (ev_fld (ev_var rfl) (e4 _ _ g1) T.cl_Machine T.no_Machine_most rfl)) rfl) (fun _ H5 e5 => ?_) (fun h => by cases h)
        have e45 := e4.trans e5
        refine el_cat1 (l := kl) (xs := kept) (vs := [.int tb, .int pg, .ref et]) (ev_fld (ev_var rfl) (e45 _ _ g1) T.cl_Machine T.no_Machine_kept rfl) (e45 _ _ g2) (by omega) (ea_cons (ev_var rfl) (ea_cons (ev_var rfl) (ea_cons (ev_var rfl) ea_nil))) (by show 3 ≤ 1000; decide) H5 (Ex.refl H5) _ fun p t H6 hp ht e6 hp6 ht6 => ?_
        have e46 := e45.trans e6
        refine eo_some (ev_un (ev_fld (ev_var rfl) (e46 _ _ g1) T.cl_Machine T.no_Machine_most rfl) ru_neg) H6 (Ex.refl H6) _ fun H7 e7 => ?_
        have e47 := e46.trans e7
        refine ⟨p, _, rfl, sq_of (e7 _ _ hp6), fun p2 hp2 => ?_⟩
        have e8 : Ex H7 (upd H7 p2 (.lst (cutV (kept ++ [.ref t]) (some (-4)) none))) := Ex.new hp2
        have h8b : (upd H7 p2 (.lst (cutV (kept ++ [.ref t]) (some (-4)) none))) p2 = some (.lst (cutV (kept ++ [.ref t]) (some (-4)) none)) := upd_same
        have nw : p2 ≠ wl := fun z => by rw [z, e47 _ _ hM2.ws] at hp2; cases hp2
        have nc : p2 ≠ cl := fun z => by rw [z, e47 _ _ g3] at hp2; cases hp2
        show (tVar 0) _ (upd H7 p2 (.lst (cutV (kept ++ [.ref t]) (some (-4)) none))) _
        generalize upd H7 p2 (.lst (cutV (kept ++ [.ref t]) (some (-4)) none)) = H8 at e8 h8b ⊢
        have e48 := e47.trans e8
        refine ⟨_, rfl, mc, CMa K, dx, _, rfl, e48 _ _ g1, T.cl_Machine, T.no_Machine_kept, by show 4 < 1000; decide, ?_⟩
        have nm : ∀ b u, H8 b = some u → (∀ C d f, u ≠ .ins C d f) → (upd H8 mc (.ins (CMa K) dx (putF "_kept" (.ref p2) [("_memory", .ref m), ("_most", .int 4), ("_kept", .ref kl), ("_counts", .ref cl)]))) b = some u := fun b u hb hu => by
          have : b ≠ mc := fun z => by rw [z, e48 _ _ g1] at hb; cases hb; exact hu _ _ _ rfl
          rw [upd_ne this]
          exact hb
        have tupk : ∀ b xs, H8 b = some (.tup xs) → (upd H8 mc (.ins (CMa K) dx (putF "_kept" (.ref p2) [("_memory", .ref m), ("_most", .int 4), ("_kept", .ref kl), ("_counts", .ref cl)]))) b = some (.tup xs) := fun b xs hb => nm b _ hb fun _ _ _ z => by cases z
        refine ⟨rfl, tupk _ _ (e8 _ _ (e7 _ _ (e6 _ _ (e5 _ _ h4)))), ⟨dx, p2, c0, c1, _, upd_same, nm _ _ h8b (fun _ _ _ z => (by cases z)), nm _ _ (e48 _ _ g3) (fun _ _ _ z => (by cases z)), nc, nw, cut4 (xs := kept ++ [.ref t]) (by rw [List.length_append]; show kept.length + 1 ≤ 5; omega), fun v hv => ?_⟩, ?_, (f2.trans (FS.of e48)).trans (FS.put (by simp))⟩
        · rcases List.mem_append.mp (cutV_mem hv) with hv | hv
          · exact ((g6 v hv).mono fun b xs h => e48 _ _ h).mono tupk
          · obtain rfl : v = V.ref t := by simpa using hv
            exact ⟨t, tb, pg, et, rfl, tupk _ _ (e8 _ _ (e7 _ _ ht6)), tupk _ _ (e8 _ _ (e7 _ _ (e6 _ _ (e5 _ _ h4))))⟩
        · have hM8 := hM2.keep e48
          obtain ⟨dx', dd, a1, b1⟩ := hM8.ins
          exact hM8.other hmm (fun z => by have := e48 _ _ g1; rw [z, hM8.ws] at this; cases this) fun dd kvs b z => by
            have := e48 _ _ g1
            rw [z, b] at this
            cases this
      rintro σ' H5 ⟨rfl, h5, hA5, hM5, f5⟩
      exact s_ret (ev_var rfl) fun H6 e6 => k et H6 (e6 _ _ h5) (hA5.keep e6) (hM5.keep e6) (f5.trans (FS.of e6))
end
end KA

namespace KA
open PySem PySem.Spec PyProof.Rows L2 Evl TL
theorem FS.weak {S S' : List Addr} {H H' : Hp} (f : FS S H H') (h : ∀ a ∈ S, a ∈ S') : FS S' H H' := fun b o hb n => f b o hb (fun z => n (h b z))
section
variable {P : Program} {w : World} {K : PySem.W.Frag} {mg : Str → Option Value} {base : Heap}
/-- the machine and its memory -/
structure BothAt (K : PySem.W.Frag) (H : Hp) (mc m wl cl : Addr) (ent : Ent) (μ : Mem) : Prop where
  ma : MachAt K H mc m wl cl ent
  me : MemAt K H m wl μ
  wc : wl ≠ cl
  mm : mc ≠ m
theorem BothAt.keep {H H' : Hp} {mc m wl cl : Addr} {ent : Ent} {μ : Mem} (h : BothAt K H mc m wl cl ent μ) (e : Ex H H') : BothAt K H' mc m wl cl ent μ := ⟨h.ma.keep e, h.me.keep e, h.wc, h.mm⟩
/-- the words change, the machine stands -/
theorem BothAt.words {H H' : Hp} {mc m wl cl : Addr} {ent : Ent} {μ μ' : Mem} (h : BothAt K H mc m wl cl ent μ) (f : Fr wl H H') (hm : MemAt K H' m wl μ') : BothAt K H' mc m wl cl ent μ' := by
  obtain ⟨dx, kl, c0, c1, kept, h1, h2, h3, h4, h4w, h5, h6⟩ := h.ma.ex
  have n1 : mc ≠ wl := ne_of h1 h.me.ws (by intro z; cases z)
  exact ⟨⟨dx, kl, c0, c1, kept, f _ _ h1 n1, f _ _ h2 h4w, f _ _ h3 (Ne.symm h.wc), h4, h4w, h5, fun v hv => (h6 v hv).mono fun b xs hb => f _ _ hb (ne_of hb h.me.ws (by intro z; cases z))⟩, hm, h.wc, h.mm⟩
/-- the table's entry of the page that the address is in -/
def GoodAt (μ : Mem) (ent : Ent) (t addr : Int) : Prop := ∃ tb, μ (ix t 11) = tb + 1 ∧ InF tb ∧ μ (ix 1 tb) ≠ 8 ∧ 0 ≤ addr ∧ addr < 512 ∧ entV (fun tb pg i => μ (ix tb (pg * 4 + i))) tb (addr / 64) = entV ent tb (addr / 64) ∧ ent tb (addr / 64) 0 ≠ 0 ∧ ent tb (addr / 64) 1 % 2 = 1
def frOf (μ : Mem) (ent : Ent) (t addr : Int) : Int := ent (μ (ix t 11) - 1) (addr / 64) 0 - 1
def sp_place_of (K : PySem.W.Frag) : Sp := fun vs H Q _ => ∃ (mc m wl cl : Addr) (ent : Ent) (μ : Mem) (t addr : Int), vs = [.ref mc, .int t, .int addr, .int 1] ∧ BothAt K H mc m wl cl ent μ ∧ InF t ∧ GoodAt μ ent t addr ∧
  ∀ q H', H' q = some (.tup [.int (frOf μ ent t addr), .int (addr % 64)]) → BothAt K H' mc m wl cl ent μ → FS [mc, cl] H H' → Q (.ref q) H'
theorem ok_Machine_place_of (T : Txt K mg) : FnOk P w K mg base CX0 6 (f_Machine_place_of K) (fd_Machine_place_of K) ["self", "thread", "address", "right"] (sp_place_of K) := by
  refine T.fn_Machine_place_of.ok sc_Machine_place_of (fun vs H Q E h => ?_) (fun cdv A outer s H vs Q E hr h => ⟨_, PSs.nox (pss_cons (ps_set (i := 4) sc_Machine_place_of.nd rfl (Or.inl rfl) (pe_meth (pe_fld (pv 0) rfl) (T.cl_Memory) (T.mt_Memory_word) (ok_Memory_word T) (hr.mono (by decide)) (T.bd_Memory_word) .nil pass0 (pa_cons (pv 1) (pa_cons (T.pg_T_TABLE) pa_nil)))) (pss_cons (ps_if (PW.pt (pw_or (pt_cmpR op_eq (pv 4) pe_int (nomark _)) (pw_or1 (pt_cmpR op_ge (pv 2) (pe_op op_mul (T.pg_ENTRIES) (T.pg_FRAME)) (nomark _))))) (pss_one (ps_ret pe_non)) pss_nil) (pss_cons (ps_set (i := 5) sc_Machine_place_of.nd rfl (Or.inl rfl) (pe_meth (pv 0) (T.cl_Machine) (T.mt_Machine_entry) (ok_Machine_entry T) (hr.mono (by decide)) (T.bd_Machine_entry) .nil pass0 (pa_cons (pe_op op_sub (pv 4) pe_int) (pa_cons (pe_op op_fdiv (pv 2) (T.pg_FRAME)) pa_nil)))) (pss_cons (ps_if (PW.pt (pw_or (pt_cmpR op_eq (pe_ix ix_tup (pv 5) pe_int (fun _ _ => rfl)) pe_int (nomark _)) (pw_or1 (pt_cmpR op_eq (pe_op op_mod (pe_op op_fdiv (pe_ix ix_tup (pv 5) pe_int (fun _ _ => rfl)) (pv 3)) pe_int) pe_int (nomark _))))) (pss_one (ps_ret pe_non)) pss_nil) (pss_one (ps_ret (pe_tup (pa_cons (pe_op op_sub (pe_ix ix_tup (pv 5) pe_int (fun _ _ => rfl)) pe_int) (pa_cons (pe_op op_mod (pv 2) (T.pg_FRAME)) pa_nil))))))))), ?_⟩)
  · obtain ⟨_, _, _, _, _, _, _, _, rfl, _⟩ := h
    rfl
  · obtain ⟨mc, m, wl, cl, ent, μ, t, addr, rfl, hB, hI, ⟨tb, g1, g2, g3, g4, g5, g6, g7, g8⟩, k⟩ := h
    obtain ⟨dx, kl, c0, c1, kept, h1, h2, h3, h4, h4w, h5, h6⟩ := hB.ma.ex
    have hfr : frOf μ ent t addr = ent tb (addr / 64) 0 - 1 := by unfold frOf; rw [g1]; congr 2; omega
    rw [hfr] at k
    refine q_asg (ev_word hB.me (ev_fld (ev_var rfl) h1 T.cl_Machine T.no_Machine_memory rfl) (ev_var rfl) ev_c (by omega)) fun H1 e1 => ?_
    rw [g1]
    have hz : ¬ (tb + 1 = 0) := by omega
    refine q_when (b := false) (et_is (et_or (et_test (ev_op (ev_var rfl) ev_c (rv_eq rfl))) fun _ => et_test (ev_op (ev_var rfl) (ev_op ev_c ev_c (rv_I (.inr ⟨by decide, by decide⟩))) rv_I0)) ?_) (fun h => by cases h) fun _ H2 e2 => ?_
    · rw [decide_eq_false (fun z => hz (V.int.inj z)), decide_eq_false (by omega)]
      rfl
    have e12 := e1.trans e2
    have hB2 := hB.keep e12
    obtain ⟨dx, kl, c0, c1, kept, h1, h2, h3, h4, h4w, h5, h6⟩ := hB2.ma.ex
    refine ⟨_, rfl, mc, dx, _, rfl, h1, rfl, _, rfl, _, _, rfl, rfl, _, rfl, _, _, rfl, rfl, ⟨by decide, by decide⟩, mc, m, wl, cl, ent, μ, tb, addr / 64, (by show [V.ref mc, V.int (tb + 1 - 1), V.int (addr / 64)] = _; rw [show tb + 1 - 1 = tb by omega]), hB2.ma, hB2.me, hB2.wc, hB2.mm, g2, by omega, by omega, g3, g6, fun q H3 hq hA3 hM3 f3 => ?_⟩
    have hB3 : BothAt K H3 mc m wl cl ent μ := ⟨hA3, hM3, hB.wc, hB.mm⟩
    refine q_when (b := false) (et_is (et_or (et_test (ev_op (ev_op (ev_var rfl) ev_c (rv_ixT (st_of hq) (atI_nat (j := 0) rfl))) ev_c (rv_eq rfl))) fun _ => et_test (ev_op (ev_op (ev_op (ev_op (ev_var rfl) ev_c (rv_ixT (st_of hq) (atI_nat (j := 1) rfl))) (ev_var rfl) (rv_I ⟨by decide, by decide⟩)) ev_c (rv_I (by decide))) ev_c (rv_eq rfl))) ?_) (fun h => by cases h) fun _ H4 e4 => ?_
    · have : ent tb (addr / 64) 1 / 1 % 2 = 1 := by rw [Int.ediv_one]; exact g8
      rw [decide_eq_false (fun z => g7 (V.int.inj z)), this]
      rfl
    refine s_retU (eu_tup (ea_cons (ev_op (ev_op (ev_var rfl) ev_c (rv_ixT (st_of (e4 _ _ hq)) (atI_nat (j := 0) rfl))) ev_c rv_I0) (ea_cons (ev_op (ev_var rfl) ev_c (rv_I (by decide))) ea_nil)) (by show 2 ≤ 100000; decide)) fun p H5 hp e5 h5 => ?_
    exact k p H5 h5 (hB3.keep (e4.trans e5)) (((FS.of e12).trans f3).trans (FS.of (e4.trans e5)))
def sp_forget (K : PySem.W.Frag) : Sp := fun vs H Q _ => ∃ (mc m wl cl : Addr) (ent : Ent) (μ : Mem), vs = [.ref mc] ∧ BothAt K H mc m wl cl ent μ ∧ ∀ H', BothAt K H' mc m wl cl ent μ → FS [mc, cl] H H' → Q .non H'
theorem ok_Machine_forget (T : Txt K mg) : FnOk P w K mg base CX0 1 (f_Machine_forget K) (fd_Machine_forget K) ["self"] (sp_forget K) := by
  refine T.fn_Machine_forget.ok sc_Machine_forget (fun vs H Q E h => ?_) (fun cdv A outer s H vs Q E hr h => ⟨_, PSs.nox (pss_one (ps_fld (pv 0) (pe_lst pa_nil) rfl)), ?_⟩)
  · obtain ⟨_, _, _, _, _, _, rfl, _⟩ := h
    rfl
  · obtain ⟨mc, m, wl, cl, ent, μ, rfl, hB, k⟩ := h
    obtain ⟨dx, kl, c0, c1, kept, h1, h2, h3, h4, h4w, h5, h6⟩ := hB.ma.ex
    refine s_fldL (xs := []) (el_lst ea_nil (by decide)) (ev_var rfl) h1 T.cl_Machine T.no_Machine_kept (by show 4 < 1000; decide) fun p H1 hp e1 hp1 => ?_
    have nm : ∀ b u, H1 b = some u → (∀ C d f, u ≠ .ins C d f) → (upd H1 mc (.ins (CMa K) dx (putF "_kept" (.ref p) [("_memory", .ref m), ("_most", .int 4), ("_kept", .ref kl), ("_counts", .ref cl)]))) b = some u := fun b u hb hu => by
      have : b ≠ mc := fun z => by rw [z, e1 _ _ h1] at hb; cases hb; exact hu _ _ _ rfl
      rw [upd_ne this]
      exact hb
    have hM1 := hB.me.keep e1
    obtain ⟨dx', dd, a1, b1⟩ := hM1.ins
    refine k _ ⟨⟨dx, p, c0, c1, [], upd_same, nm _ _ hp1 (fun _ _ _ z => (by cases z)), nm _ _ (e1 _ _ h3) (fun _ _ _ z => (by cases z)), (fun z => (by rw [z, h3] at hp; cases hp)), (fun z => (by rw [z, hB.me.ws] at hp; cases hp)), by decide, fun v hv => (by cases hv)⟩, ?_, hB.wc, hB.mm⟩ ((FS.of e1).trans (FS.put (by simp)))
    exact hM1.other hB.mm (fun z => by have := e1 _ _ h1; rw [z, hM1.ws] at this; cases this) fun dd kvs b z => by
      have := e1 _ _ h1
      rw [z, b] at this
      cases this
end
end KA

namespace KA
open PySem PySem.Spec PyProof.Rows L2 Evl TL
def partsV (x : Int) : List V := [.int (x / 4096), .int (x / 512 % 8), .int (x / 64 % 8), .int (x % 64)]
section
variable {σ : L2.St} {H : Hp} {K : PySem.W.Frag} {D : Ends} {m wl : Addr} {μ : Mem} {tm tf tp tx : TE} {tz : TS} {t n x : Int}
theorem q_callG {sp : Sp} {dvs vs : List V} {E : XK} {ts : TA} {g : TG} (h : EvA ts σ H vs) (k : ∀ H1, Ex H H1 → sp (vs ++ dvs) H1 (fun v H2 => g v σ H2 (tz D)) E) : tSeq (tAsg (tCall sp dvs E ts) g) tz D σ H := h H (Ex.refl H) _ k
theorem ev_greg (hM : MemAt K H m wl μ) (hm : Ev tm σ H (.ref m)) (hf : Ev tf σ H (.int t)) (hp : Ev tp σ H (.int n)) (hI : InF t) (h0 : 0 ≤ n) (h1 : n < 8) : Ev (tCall (sp_get_register K) [] E0 (tCons tm (tCons tf (tCons tp tNil)))) σ H (.int (μ (ix t (2 + n)))) :=
  ev_pure (ea_cons hm (ea_cons hf (ea_cons hp ea_nil))) fun H1 e Q q => ⟨m, wl, μ, t, n, rfl, hM.keep e, hI, h0, h1, q⟩
theorem q_preg (hM : MemAt K H m wl μ) (hm : Ev tm σ H (.ref m)) (hf : Ev tf σ H (.int t)) (hp : Ev tp σ H (.int n)) (hx : Ev tx σ H (.int x)) (hI : InF t) (h0 : 0 ≤ n) (h1 : n < 8) (k : ∀ H', MemAt K H' m wl (mset μ (ix t (2 + n)) x) → Fr wl H H' → tz D σ H') :
    tSeq (tDrop (tCall (sp_put_register K) [] E0 (tCons tm (tCons tf (tCons tp (tCons tx tNil)))))) tz D σ H :=
  (ea_cons hm (ea_cons hf (ea_cons hp (ea_cons hx ea_nil))) : EvA (tCons tm (tCons tf (tCons tp (tCons tx tNil)))) σ H [.ref m, .int t, .int n, .int x]) H (Ex.refl H) (fun vs H1 => sp_put_register K (vs ++ []) H1 (fun _ H2 => tz D σ H2) E0) fun H1 e1 => ⟨m, wl, μ, t, n, x, rfl, hM.keep e1, hI, h0, h1, fun H' h' f' => k H' h' ((Fr.of e1).trans f')⟩
theorem s_preg (hM : MemAt K H m wl μ) (hm : Ev tm σ H (.ref m)) (hf : Ev tf σ H (.int t)) (hp : Ev tp σ H (.int n)) (hx : Ev tx σ H (.int x)) (hI : InF t) (h0 : 0 ≤ n) (h1 : n < 8) (k : ∀ H', MemAt K H' m wl (mset μ (ix t (2 + n)) x) → Fr wl H H' → D.nx σ H') :
    tDrop (tCall (sp_put_register K) [] E0 (tCons tm (tCons tf (tCons tp (tCons tx tNil))))) D σ H :=
  (ea_cons hm (ea_cons hf (ea_cons hp (ea_cons hx ea_nil))) : EvA (tCons tm (tCons tf (tCons tp (tCons tx tNil)))) σ H [.ref m, .int t, .int n, .int x]) H (Ex.refl H) (fun vs H1 => sp_put_register K (vs ++ []) H1 (fun _ H2 => D.nx σ H2) E0) fun H1 e1 => ⟨m, wl, μ, t, n, x, rfl, hM.keep e1, hI, h0, h1, fun H' h' f' => k H' h' ((Fr.of e1).trans f')⟩
end
/-- a word's doing: those that the law's programs have -/
def mstep (μ : Mem) (t wd pc : Int) : Mem :=
  if wd / 4096 = 10 then mtrap0 (mset μ (ix t 1) (pc + 1)) t
  else if wd / 4096 = 6 then mset μ (ix t 1) (wd / 64 % 8 * 64 + wd % 64)
  else if wd / 4096 = 1 then mset (mset μ (ix t (2 + wd / 512 % 8)) (wd / 64 % 8 * 64 + wd % 64)) (ix t 1) (pc + 1)
  else mset (mset μ (ix t (2 + wd / 512 % 8)) (mreck (wd / 4096) (μ (ix t (2 + wd / 64 % 8))) (μ (ix t (2 + wd % 64 % 8))))) (ix t 1) (pc + 1)
section
variable {P : Program} {w : World} {K : PySem.W.Frag} {mg : Str → Option Value} {base : Heap}
def sp_parts_of : Sp := fun vs H Q _ => ∃ x : Int, vs = [.int x] ∧ ∀ p H', H p = none → Ex H H' → H' p = some (.tup (partsV x)) → Q (.ref p) H'
theorem ok_parts_of (T : Txt K mg) : FnOk P w K mg base CX0 1 (f_parts_of K) (fd_parts_of K) ["word"] sp_parts_of := by
  refine T.fn_parts_of.ok sc_parts_of (fun vs H Q E h => ?_) (fun cdv A outer s H vs Q E hr h => ⟨_, PSs.nox (pss_one (ps_ret (pe_tup (pa_cons (pe_op op_fdiv (pv 0) pe_int) (pa_cons (pe_op op_mod (pe_op op_fdiv (pv 0) pe_int) pe_int) (pa_cons (pe_op op_mod (pe_op op_fdiv (pv 0) pe_int) pe_int) (pa_cons (pe_op op_mod (pv 0) pe_int) pa_nil))))))), ?_⟩)
  · obtain ⟨_, rfl, _⟩ := h
    rfl
  · obtain ⟨x, rfl, k⟩ := h
    exact s_retU (eu_tup (ea_cons (ev_div (ev_var rfl) ev_c ⟨by decide, by decide⟩) (ea_cons (ev_mod (ev_div (ev_var rfl) ev_c ⟨by decide, by decide⟩) ev_c (by decide)) (ea_cons (ev_mod (ev_div (ev_var rfl) ev_c ⟨by decide, by decide⟩) ev_c (by decide)) (ea_cons (ev_mod (ev_var rfl) ev_c (by decide)) ea_nil)))) (by show 4 ≤ 100000; decide)) k
def sp_step (K : PySem.W.Frag) : Sp := fun vs H Q _ => ∃ (mc m wl cl : Addr) (ent : Ent) (μ : Mem) (t wd : Int), vs = [.ref mc, .int t] ∧ BothAt K H mc m wl cl ent μ ∧ 2 ≤ t ∧ t < 32 ∧ μ (ix 1 t) = 5 ∧ GoodAt μ ent t (μ (ix t 1)) ∧ InF (frOf μ ent t (μ (ix t 1))) ∧ μ (ix (frOf μ ent t (μ (ix t 1))) (μ (ix t 1) % 64)) = wd ∧
  (wd / 4096 = 1 ∨ wd / 4096 = 2 ∨ wd / 4096 = 6 ∨ wd / 4096 = 8 ∨ (wd / 4096 = 10 ∧ wd % 64 = 0)) ∧ (∀ n : Int, 0 ≤ n → n < 8 → 0 ≤ μ (ix t (2 + n)) ∧ μ (ix t (2 + n)) < 65536) ∧
  ∀ H', BothAt K H' mc m wl cl ent (mstep μ t wd (μ (ix t 1))) → FS [wl, mc, cl] H H' → Q (.bl false) H'
theorem ok_Machine_step (T : Txt K mg) : FnOk P w K mg base CX0 7 (f_Machine_step K) (fd_Machine_step K) ["self", "thread"] (sp_step K) := by
  refine T.fn_Machine_step.ok sc_Machine_step (fun vs H Q E h => ?_) (fun cdv A outer s H vs Q E hr h => ⟨_, PSs.nox (pss_cons (ps_set (i := 2) sc_Machine_step.nd rfl (Or.inl rfl) (pe_fld (pv 0) rfl)) (pss_cons (ps_set (i := 3) sc_Machine_step.nd rfl (Or.inl rfl) (pe_meth (pv 2) (T.cl_Memory) (T.mt_Memory_word) (ok_Memory_word T) (hr.mono (by decide)) (T.bd_Memory_word) .nil pass0 (pa_cons (pv 1) (pa_cons (T.pg_T_PC) pa_nil)))) (pss_cons (ps_set (i := 4) sc_Machine_step.nd rfl (Or.inl rfl) (pe_meth (pv 0) (T.cl_Machine) (T.mt_Machine_place_of) (ok_Machine_place_of T) (hr.mono (by decide)) (T.bd_Machine_place_of) .nil pass0 (pa_cons (pv 1) (pa_cons (pv 3) (pa_cons (T.pg_READ) pa_nil))))) (pss_cons (ps_if (pt_cmpR op_isN (pv 4) pe_non (nomark _)) (pss_cons ps_never (pss_one ps_never)) pss_nil) (pss_cons (ps_asg (pe_call (ok_parts_of T) (hr.mono (by decide)) (by rfl) (T.glo_parts_of) (T.kp_parts_of) (T.bd_parts_of) .nil pass0 (pa_cons (pe_meth (pv 2) (T.cl_Memory) (T.mt_Memory_word) (ok_Memory_word T) (hr.mono (by decide)) (T.bd_Memory_word) .nil pass0 (pa_cons (pe_ix ix_tup (pv 4) pe_int (fun _ _ => rfl)) (pa_cons (pe_ix ix_tup (pv 4) pe_int (fun _ _ => rfl)) pa_nil))) pa_nil)) (pg_tup (by rfl) (pgs_cons (pg_name (i := 5) sc_Machine_step.nd rfl (Or.inl rfl)) (pgs_cons (pg_name (i := 6) sc_Machine_step.nd rfl (Or.inl rfl)) (pgs_cons (pg_name (i := 7) sc_Machine_step.nd rfl (Or.inl rfl)) (pgs_cons (pg_name (i := 8) sc_Machine_step.nd rfl (Or.inl rfl)) pgs_nil)))))) (pss_cons (ps_if (pt_cmpR op_in_seq (pv 5) (pe_tup (pa_cons pe_int (pa_cons pe_int pa_nil))) (by rfl)) (pss_cons ps_never (pss_cons ps_never (pss_cons ps_never (pss_one ps_never)))) (pss_one (ps_if (pt_cmpR op_eq (pv 5) pe_int (nomark _)) (pss_cons (ps_expr (pe_meth (pv 2) (T.cl_Memory) (T.mt_Memory_put) (ok_Memory_put T) (hr.mono (by decide)) (T.bd_Memory_put) .nil pass0 (pa_cons (pv 1) (pa_cons (T.pg_T_PC) (pa_cons (pe_op op_add (pv 3) pe_int) pa_nil))))) (pss_cons (ps_if (pt_not (pt_val (pe_call (ok_any_trap T) (hr.mono (by decide)) (by rfl) (T.glo_any_trap) (T.kp_any_trap) (T.bd_any_trap) .nil pass0 (pa_cons (pv 2) (pa_cons (pv 1) (pa_cons (pv 8) pa_nil)))))) (pss_cons ps_never (pss_one ps_never)) pss_nil) (pss_one (ps_ret (pe_cmpR op_in_seq (pv 8) (T.pg_CHANGING) (by rfl)))))) (pss_one (ps_if (pt_cmpR op_in_seq (pv 5) (pe_tup (pa_cons pe_int (pa_cons pe_int pa_nil))) (by rfl)) (pss_cons (ps_set (i := 10) sc_Machine_step.nd rfl (Or.inl rfl) (pe_or (pe_cmpR op_eq (pv 5) pe_int (nomark _)) (pe_one (pe_cmpR op_eq (pe_call (ok_get_register T) (hr.mono (by decide)) (by rfl) (T.glo_get_register) (T.kp_get_register) (T.bd_get_register) .nil pass0 (pa_cons (pv 2) (pa_cons (pv 1) (pa_cons (pv 6) pa_nil)))) pe_int (nomark _))))) (pss_cons (ps_expr (pe_meth (pv 2) (T.cl_Memory) (T.mt_Memory_put) (ok_Memory_put T) (hr.mono (by decide)) (T.bd_Memory_put) .nil pass0 (pa_cons (pv 1) (pa_cons (T.pg_T_PC) (pa_cons (pe_ifExp (pt_val (pv 10)) (pe_op op_add (pe_op op_mul (pv 7) pe_int) (pv 8)) (pe_op op_add (pv 3) pe_int)) pa_nil))))) (pss_one (ps_ret pe_bl)))) (pss_one (ps_if (pt_cmpR op_eq (pv 5) pe_int (nomark _)) (pss_one (ps_expr (pe_call (ok_put_register T) (hr.mono (by decide)) (by rfl) (T.glo_put_register) (T.kp_put_register) (T.bd_put_register) .nil pass0 (pa_cons (pv 2) (pa_cons (pv 1) (pa_cons (pv 6) (pa_cons (pe_op op_add (pe_op op_mul (pv 7) pe_int) (pv 8)) pa_nil))))))) (pss_one (ps_if (pt_cmpR op_in_seq (pv 5) (pe_tup (pa_cons pe_int (pa_cons pe_int (pa_cons pe_int (pa_cons pe_int (pa_cons pe_int pa_nil)))))) (by rfl)) (pss_cons (ps_par (i := 11) (j := 12) (by rfl) sc_Machine_step.nd rfl rfl (by decide) rfl rfl (pa_cons (pe_call (ok_get_register T) (hr.mono (by decide)) (by rfl) (T.glo_get_register) (T.kp_get_register) (T.bd_get_register) .nil pass0 (pa_cons (pv 2) (pa_cons (pv 1) (pa_cons (pv 7) pa_nil)))) (pa_cons (pe_call (ok_get_register T) (hr.mono (by decide)) (by rfl) (T.glo_get_register) (T.kp_get_register) (T.bd_get_register) .nil pass0 (pa_cons (pv 2) (pa_cons (pv 1) (pa_cons (pe_op op_mod (pv 8) pe_int) pa_nil)))) pa_nil)) (by rfl)) (pss_one (ps_expr (pe_call (ok_put_register T) (hr.mono (by decide)) (by rfl) (T.glo_put_register) (T.kp_put_register) (T.bd_put_register) .nil pass0 (pa_cons (pv 2) (pa_cons (pv 1) (pa_cons (pv 6) (pa_cons (pe_call (ok_reckoned T) (hr.mono (by decide)) (by rfl) (T.glo_reckoned) (T.kp_reckoned) (T.bd_reckoned) .nil pass0 (pa_cons (pv 5) (pa_cons (pv 11) (pa_cons (pv 12) pa_nil)))) pa_nil)))))))) (pss_cons ps_never (pss_one (ps_ret pe_bl)))))))))))) (pss_cons (ps_expr (pe_meth (pv 2) (T.cl_Memory) (T.mt_Memory_put) (ok_Memory_put T) (hr.mono (by decide)) (T.bd_Memory_put) .nil pass0 (pa_cons (pv 1) (pa_cons (T.pg_T_PC) (pa_cons (pe_op op_add (pv 3) pe_int) pa_nil))))) (pss_one (ps_ret pe_bl))))))))), ?_⟩)
  · obtain ⟨_, _, _, _, _, _, _, _, rfl, _⟩ := h
    rfl
  · obtain ⟨mc, m, wl, cl, ent, μ, t, wd, rfl, hB, t0, t1, h5, hG, hF, hwd, hop, hreg, k⟩ := h
    obtain ⟨dx, kl, c0, c1, kept, h1, h2, h3, h4, h4w, h5', h6⟩ := hB.ma.ex
    obtain ⟨pc, hpc⟩ : ∃ pc, pc = μ (ix t 1) := ⟨_, rfl⟩
    rw [← hpc] at hG hF hwd k
    have hpc0 : 0 ≤ pc ∧ pc < 512 := by obtain ⟨_, _, _, _, a, b, _⟩ := hG; exact ⟨a, b⟩
    refine q_asg (ev_fld (ev_var rfl) h1 T.cl_Machine T.no_Machine_memory rfl) fun H1 e1 => ?_
    have hB1 := hB.keep e1
    refine q_asg (ev_is (ev_word hB1.me (ev_var rfl) (ev_var rfl) ev_c (by omega)) (by rw [← hpc])) fun H2 e2 => ?_
    have hB2 := hB1.keep e2
    have e12 := e1.trans e2
    obtain ⟨dx2, kl2, c02, c12, kept2, g1, g2, g3, g4, g4w, g5', g6⟩ := hB2.ma.ex
    refine ⟨_, rfl, mc, dx2, _, rfl, g1, rfl, _, rfl, _, rfl, mc, m, wl, cl, ent, μ, t, pc, rfl, hB2, ⟨by omega, t1⟩, hG, fun q H3 hq hB3 f3 => ?_⟩
    have f03 := (FS.of (S := [mc, cl]) e12).trans f3
    refine q_when (b := false) (et_is (et_test (ev_op (ev_var rfl) ev_c rv_isN)) rfl) (fun h => by cases h) fun _ H4 e4 => ?_
    have hB4 := hB3.keep e4
    refine q_callG (ea_cons (ev_word hB4.me (ev_var rfl) (ev_op (ev_var rfl) ev_c (rv_ixT (st_of (e4 _ _ hq)) (atI_nat (j := 0) rfl))) (ev_op (ev_var rfl) ev_c (rv_ixT (st_of (e4 _ _ hq)) (atI_nat (j := 1) rfl))) (by omega)) ea_nil) fun H5 e5 => ⟨wd, by rw [hwd]; rfl, fun p H6 hp e6 h6 => ⟨p, _, rfl, st_of h6, rfl, _, _, rfl, _, _, rfl, _, _, rfl, _, _, rfl, rfl, ?_⟩⟩
    have hB6 := hB4.keep (e5.trans e6)
    have f06 := f03.trans (FS.of ((e4.trans e5).trans e6))
    clear hB1 hB2 hB3 hB4 g1 g2 g3 g4 g4w g5' g6 f3 f03 e1 e2 e12 e4 e5 e6
    have f06w : FS [wl, mc, cl] H H6 := f06.weak fun a ha => List.mem_cons_of_mem _ ha
    have a0 : 0 ≤ wd / 512 % 8 ∧ wd / 512 % 8 < 8 := by omega
    have b0 : 0 ≤ wd / 64 % 8 ∧ wd / 64 % 8 < 8 := by omega
    have c0' : 0 ≤ wd % 64 % 8 ∧ wd % 64 % 8 < 8 := by omega
    refine q_if (b := false) (et_is (et_test (ev_inU (ev_var rfl) (eu_tup (ea_cons ev_c (ea_cons ev_c ea_nil)) (by show 2 ≤ 100000; decide)) rfl rfl)) (by rcases hop with h | h | h | h | ⟨h, _⟩ <;> rw [h] <;> rfl)) (fun h => by cases h) fun _ H7 e7 => ?_
    have hB7 := hB6.keep e7
    have f07 := f06w.trans (FS.of e7)
    clear e7
    by_cases hop10 : wd / 4096 = 10
    · -- the trap
      have hc : wd % 64 = 0 := by rcases hop with h | h | h | h | ⟨_, h⟩ <;> first | exact h | omega
      have hk : mstep μ t wd pc = mtrap0 (mset μ (ix t 1) (pc + 1)) t := by unfold mstep; rw [if_pos hop10]
      rw [hk] at k
      refine s_if (b := true) (et_is (et_test (ev_op (ev_var rfl) ev_c (rv_eq rfl))) (by rw [hop10]; rfl)) (fun _ H8 e8 => ?_) (fun h => by cases h)
      have hB8 := hB7.keep e8
      refine q_put hB8.me (ev_var rfl) (ev_var rfl) ev_c (ev_op (ev_var rfl) ev_c rv_I0) (by omega) fun H9 h9 f9 => ?_
      have hB9 := hB8.words f9 h9
      have hk5 : mset μ (ix t 1) (pc + 1) (ix 1 t) = 5 := by
        rw [mset_ne (by unfold ix; omega)]
        exact h5
      refine ⟨_, rfl, _, rfl, _, rfl, m, wl, _, t, by rw [hc]; rfl, h9, t0, t1, hk5, fun H10 h10 f10 => ⟨true, rfl, iteF ?_⟩⟩
      have hB10 := hB9.words f10 h10
      refine s_ret (v := .bl false) (ev_is (ev_op (ev_var rfl) ev_c (rv_isT (T.tup_CHANGING _) rfl (by decide +kernel))) (by rw [hc]; decide +kernel)) fun H11 e11 => k H11 (hB10.keep e11) ((((f07.trans (FS.of e8)).trans (FS.fr f9 (by simp))).trans (FS.fr f10 (by simp))).trans (FS.of e11))
    refine s_if (b := false) (et_is (et_test (ev_op (ev_var rfl) ev_c (rv_eq rfl))) (decide_eq_false fun z => hop10 (V.int.inj z))) (fun h => by cases h) fun _ H8 e8 => ?_
    have hB8 := hB7.keep e8
    have f08 := f07.trans (FS.of e8)
    clear hB7 f07 e8 hB6 f06 f06w
    by_cases hop6 : wd / 4096 = 6
    · have hk : mstep μ t wd pc = mset μ (ix t 1) (wd / 64 % 8 * 64 + wd % 64) := by unfold mstep; rw [if_neg hop10, if_pos hop6]
      rw [hk] at k
      refine s_if (b := true) (et_is (et_test (ev_inU (ev_var rfl) (eu_tup (ea_cons ev_c (ea_cons ev_c ea_nil)) (by show 2 ≤ 100000; decide)) rfl rfl)) (by rw [hop6]; rfl)) (fun _ H9 e9 => ?_) (fun h => by cases h)
      refine q_asg (v := .bl true) (ev_is (ev_orV (a := true) (b := true) (ev_is (ev_op (ev_var rfl) ev_c (rv_eq rfl)) (by rw [hop6]; rfl)) (fun h => by cases h)) rfl) fun H10 e10 => ?_
      have hB10 := hB8.keep (e9.trans e10)
      refine q_put hB10.me (ev_var rfl) (ev_var rfl) ev_c (ev_if (b := true) (v := .int (wd / 64 % 8 * 64 + wd % 64)) (et_B (ev_var rfl)) (fun _ => ev_op (ev_op (ev_var rfl) ev_c (rv_I (.inr ⟨by decide, by decide⟩))) (ev_var rfl) rv_I0) (fun h => by cases h)) (by omega) fun H11 h11 f11 => ?_
      have hB11 := hB10.words f11 h11
      exact s_ret ev_c fun H12 e12 => k H12 (hB11.keep e12) (((f08.trans (FS.of (e9.trans e10))).trans (FS.fr f11 (by simp))).trans (FS.of e12))
    refine s_if (b := false) (et_is (et_test (ev_inU (ev_var rfl) (eu_tup (ea_cons ev_c (ea_cons ev_c ea_nil)) (by show 2 ≤ 100000; decide)) rfl rfl)) (by rcases hop with h | h | h | h | ⟨h, _⟩ <;> first | (exact absurd h hop6) | (exact absurd h hop10) | (rw [h]; rfl))) (fun h => by cases h) fun _ H9 e9 => ?_
    have hB9 := hB8.keep e9
    have f09 := f08.trans (FS.of e9)
    clear hB8 f08 e9
    by_cases hop1 : wd / 4096 = 1
    · have hk : mstep μ t wd pc = mset (mset μ (ix t (2 + wd / 512 % 8)) (wd / 64 % 8 * 64 + wd % 64)) (ix t 1) (pc + 1) := by unfold mstep; rw [if_neg hop10, if_neg hop6, if_pos hop1]
      rw [hk] at k
      refine s_if (b := true) (et_is (et_test (ev_op (ev_var rfl) ev_c (rv_eq rfl))) (by rw [hop1]; rfl)) (fun _ H10 e10 => ?_) (fun h => by cases h)
      have hB10 := hB9.keep e10
      refine s_preg hB10.me (ev_var rfl) (ev_var rfl) (ev_var rfl) (ev_op (ev_op (ev_var rfl) ev_c (rv_I (.inr ⟨by decide, by decide⟩))) (ev_var rfl) rv_I0) ⟨by omega, t1⟩ a0.1 a0.2 fun H11 h11 f11 => ?_
      have hB11 := hB10.words f11 h11
      refine q_put h11 (ev_var rfl) (ev_var rfl) ev_c (ev_op (ev_var rfl) ev_c rv_I0) (by omega) fun H12 h12 f12 => ?_
      have hB12 := hB11.words f12 h12
      exact s_ret ev_c fun H13 e13 => k H13 (hB12.keep e13) ((((f09.trans (FS.of e10)).trans (FS.fr f11 (by simp))).trans (FS.fr f12 (by simp))).trans (FS.of e13))
    have hop28 : wd / 4096 = 2 ∨ wd / 4096 = 8 := by omega
    have hk : mstep μ t wd pc = mset (mset μ (ix t (2 + wd / 512 % 8)) (mreck (wd / 4096) (μ (ix t (2 + wd / 64 % 8))) (μ (ix t (2 + wd % 64 % 8))))) (ix t 1) (pc + 1) := by unfold mstep; rw [if_neg hop10, if_neg hop6, if_neg hop1]
    rw [hk] at k
    refine s_if (b := false) (et_is (et_test (ev_op (ev_var rfl) ev_c (rv_eq rfl))) (decide_eq_false fun z => hop1 (V.int.inj z))) (fun h => by cases h) fun _ H10 e10 => ?_
    refine s_if (b := true) (et_is (et_test (ev_inU (ev_var rfl) (eu_tup (ea_cons ev_c (ea_cons ev_c (ea_cons ev_c (ea_cons ev_c (ea_cons ev_c ea_nil))))) (by show 5 ≤ 100000; decide)) rfl rfl)) (by rcases hop28 with h | h <;> rw [h] <;> rfl)) (fun _ H11 e11 => ?_) (fun h => by cases h)
    have hB11 := hB9.keep (e10.trans e11)
    refine q_parVV (ev_greg hB11.me (ev_var rfl) (ev_var rfl) (ev_var rfl) ⟨by omega, t1⟩ b0.1 b0.2) (ev_greg hB11.me (ev_var rfl) (ev_var rfl) (ev_op (ev_var rfl) ev_c (rv_I (by decide))) ⟨by omega, t1⟩ c0'.1 c0'.2) fun H12 e12 => ?_
    have hB12 := hB11.keep e12
    have hr1 := hreg (wd / 64 % 8) b0.1 b0.2
    refine s_preg hB12.me (ev_var rfl) (ev_var rfl) (ev_var rfl) (ev_pure (ea_cons (ev_var rfl) (ea_cons (ev_var rfl) (ea_cons (ev_var rfl) ea_nil))) fun H13 e13 Q q => ⟨_, _, _, rfl, hop28, hr1.1, hr1.2, q⟩) ⟨by omega, t1⟩ a0.1 a0.2 fun H13 h13 f13 => ?_
    have hB13 := hB12.words f13 h13
    refine q_put h13 (ev_var rfl) (ev_var rfl) ev_c (ev_op (ev_var rfl) ev_c rv_I0) (by omega) fun H14 h14 f14 => ?_
    have hB14 := hB13.words f14 h14
    exact s_ret ev_c fun H15 e15 => k H15 (hB14.keep e15) ((((f09.trans (FS.of ((e10.trans e11).trans e12))).trans (FS.fr f13 (by simp))).trans (FS.fr f14 (by simp))).trans (FS.of e15))
end
end KA

/-! ### enumerate(t), t a tuple -/
namespace EnT
open PySem PySem.Calls PyProof.Rows PyProof.V PySem.Spec
theorem meets_new1 {v : Value} {o : Obj} {H : Heap → Prop} (B : Begins v o H) :
    Meets (Builtin.«enumerate.__new__» ⟨[.type "enumerate", v], []⟩) (fun _ R s => H s.heap ∧
      R (.ok (.ret (.ref (s.heap.push o).objs.size))) { s with heap := (s.heap.push o).push { cls := .type "enumerate", data := .fields #[.none, .bool false, .ref s.heap.objs.size, rawInt 0, .none, .none] } }) :=
  .of_wp fun prog w A R s h => by
    obtain ⟨hp, g, d, tk, os⟩ := s; obtain ⟨h1, h⟩ := h
    have hsub := sub_enumerate
    have q1 : ∀ {A' : Around} {E : Value → Shared → Prop} {Q : Value → Shared → Prop}, Q (.ref hp.objs.size) ⟨hp.push o, g, d, tk, os⟩ → wpAny (model prog w) A' (pyIter v) Q E ⟨hp, g, d, tk, os⟩ :=
      fun q => B.iter prog w _ _ ⟨hp, g, d, tk, os⟩ _ h1 q
    wp_walk using q1
    refine wpAny_stack_any fun st => wpAny_pure ?_
    split
    · rename_i c _ _ _ _ _
      cases (c == Value.type "enumerate")
      · wp_walk using q1
        exact ⟨_, rfl, h⟩
      · wp_walk using q1
        exact ⟨_, rfl, h⟩
    · wp_walk using q1
      exact ⟨_, rfl, h⟩
section
variable {prog : Program} {w : World} {A : Around} {E : Value → Shared → Prop} {s : Shared}
theorem begins1 {v : Value} {o : Obj} {H : Heap → Prop} {Q : Value → Shared → Prop} (B : Begins v o H) (h1 : H s.heap)
    (h : ∀ h', IsEnum h' (s.heap.objs.size + 1) s.heap.objs.size 0 .none → h'.get? s.heap.objs.size = some o → h'.objs.size = s.heap.objs.size + 2 →
      (∀ b o, s.heap.get? b = some o → h'.get? b = some o) → Q (.ref (s.heap.objs.size + 1)) { s with heap := h' }) :
    wpAny (model prog w) A (call (.type "enumerate") [v]) Q E s := by
  refine callType_new F.called_enumerate (by decide) (F.typeCall_enumerate_1 _) (F.newCall_enumerate_1 _) (fun obj => F.args_object_init_2 obj _) F.entry_enumerate_new
    (meets_new1 B) ⟨h1, ?_⟩
  have hz : (s.heap.push o).objs.size = s.heap.objs.size + 1 := Heap.size_push ..
  show _ ∧ _
  rw [hz]
  have he : IsEnum ((s.heap.push o).push { cls := .type "enumerate", data := .fields #[.none, .bool false, .ref s.heap.objs.size, rawInt 0, .none, .none] }) (s.heap.objs.size + 1) s.heap.objs.size 0 .none := by
    have := Heap.get?_push_size (s.heap.push o) (o := { cls := .type "enumerate", data := .fields #[.none, .bool false, .ref s.heap.objs.size, rawInt 0, .none, .none] }) rfl
    rw [hz] at this; exact this
  refine ⟨⟨_, he, rfl⟩, h _ he (Heap.get?_push_of_some _ (Heap.get?_push_size _ B.free)) (by rw [Heap.size_push, hz]) fun b o x => Heap.get?_push_of_some _ (Heap.get?_push_of_some _ x)⟩
end
end EnT
namespace KA
open PySem PySem.Spec PyProof.Rows L2
/-- the turns of enumerate(t): a new pair each -/
def ItE (K : PySem.W.Frag) (a : Addr) : It :=
  ⟨fun i H => ∃ (xs : List V) (x : V), SqT K H a xs ∧ xs[i]? = some x, fun i H v H' => ∃ T x, v = .ref T ∧ H T = none ∧ H' = upd H T (.tup [.int (i : Nat), x]) ∧ ∀ xs, SqT K H a xs → xs[i]? = some x, fun i H => ∃ xs : List V, SqT K H a xs ∧ xs.length ≤ i⟩
theorem turn_enumT {P : Program} {w : World} {K : PySem.W.Frag} {elts : List Expr} {kk : Nat} {tpos : Pos} (a e it : Addr) :
    Turn P w K (.Tuple elts kk tpos) (ItE K a) [e, it] e (fun i h => (∃ old, IsEnum h e it ((i : Nat) : Int) old) ∧ h.IsTupleIter it a i ∧ e ≠ it ∧ a ≠ e ∧ a ≠ it) where
  mem := by simp
  obj := fun i h st b hb => by
    obtain ⟨⟨old, he⟩, ⟨o, ho, hc, hd⟩, _⟩ := st
    have e' : b = e ∨ b = it := by simpa using hb
    rcases e' with z | z
    · rw [z]; exact ⟨_, he, fun v q => nomatch q⟩
    · rw [z]; exact ⟨o, ho, fun v q => by rw [hd] at q; cases q⟩
  keep := fun i h h' st k => let ⟨⟨old, he⟩, hi, hne⟩ := st; ⟨⟨old, k e (by simp) _ he⟩, hi.at fun o q => k it (by simp) o q, hne⟩
  item := by
    intro X hP hw hK hc i pins s σ H E I hf st hg
    subst hP hw hK
    obtain ⟨⟨old, he⟩, hit, hne, hae, hai⟩ := st
    obtain ⟨xs, x, hq, hx⟩ := hg
    obtain ⟨its, rv, p, hz⟩ := I.tuple hq
    obtain ⟨u, hu, ru⟩ := rv.get hx
    have hel : e < s.heap.objs.size := Heap.lt_size he
    have hil : it < s.heap.objs.size := by obtain ⟨_, q, _⟩ := hit; exact Heap.lt_size q
    have hlt : i < its.toArray.size := by rw [List.size_toArray]; exact (List.getElem?_eq_some_iff.mp hu).1
    refine wpAny_pyNext_enum_itemD (Draws.tuple (A := X.A.in1) (I.ok.hd hc) it a hai its.toArray) he ⟨hit, p⟩ hlt hne (by simp [hne, Ne.symm hae]) fun x' h' tk hP' ho hst' hT hsz hk => ?_
    obtain rfl : x' = u := by
      have : its[i]? = some x' := by simpa using hP'
      rw [hu] at this
      exact (Option.some.inj this).symm
    obtain ⟨hit', p'⟩ := hst'
    refine ⟨_, rfl, wpAny_letOwnedTupleGo_enum (s := { s with heap := h', toks := tk + 1 }) ho fun h'' he' sb => ?_⟩
    have hT2 : h''.get? s.heap.objs.size = some { cls := .type "tuple", data := .seq #[.int i tk, x'] } := (sb.2 _ (Nat.ne_of_gt hel)).trans hT
    have new : ObjOk X.prog X.w (upd H s.heap.objs.size (.tup [.int (i : Nat), x])) h'' s.heap.objs.size (.tup [.int (i : Nat), x]) :=
      ⟨by show 2 ≤ sizeLine; decide, [.int i tk, x'], .cons ⟨_, rfl⟩ (.cons ru .nil), ⟨_, hT2, rfl, _, rfl⟩⟩
    have I1 : Inv X pins σ (upd H s.heap.objs.size (.tup [.int (i : Nat), x])) { s with heap := h'', toks := tk + 1 } :=
      I.turnedNew (ch := [e, it]) (fun b ob hb q => (sb.2 b (fun z => hb (by simp [z]))).trans (hk b ob (fun z => hb (by simp [z])) (fun z => hb (by simp [z])) q)) hf (Nat.le_refl _) new
    refine ⟨.ref s.heap.objs.size, _, I1, rfl, ⟨_, x, rfl, I.hok.fresh (Nat.le_refl _), rfl, fun ys hy => by rw [I.tuple_inj hy hq]; exact hx⟩, ⟨⟨x', ?_⟩, hit'.at fun o q => (sb.2 it (Ne.symm hne)).trans q, hne, hae, hai⟩, fun b hb => ?_⟩
    · have e1 : ((i + 1 : Nat) : Int) = (i : Int) + 1 := by omega
      rw [e1]; exact he'
    · have hb' : b < s.heap.objs.size := by
        have e' : b = e ∨ b = it := by simpa using hb
        rcases e' with z | z
        · rw [z]; exact hel
        · rw [z]; exact hil
      rw [upd_ne (Nat.ne_of_lt hb')]
      exact (hf b hb).1
  done := by
    intro X hP hw hK hc i pins s σ H E I hf st hg
    subst hP hw hK
    obtain ⟨⟨old, he⟩, hit, hne, hae, hai⟩ := st
    obtain ⟨xs, hq, hx⟩ := hg
    obtain ⟨its, rv, p, hz⟩ := I.tuple hq
    obtain ⟨f0, f1, f2, f3, f4, f5⟩ := hf it (by simp)
    have hl := rv.length
    have hT : s.TypeIs (.ref e) "enumerate" := ⟨_, he, rfl⟩
    unfold pyNext
    refine wpAny_bind (wpAny_attempt (wpAny_callSpecial?_slot (name := Str.ofString "__next__") hT F.slot_enumerate_next
      (wpAny_call_entry F.slot_enumerate_next hT F.entry_enumerate_next ?_ (F.args_enumerate_next_1 _))))
    show wpAny _ _ (field (.ref e) 2 >>= _) _ _ _
    refine wpAny_bind (wpAny_field he rfl (x := .ref it) rfl ?_)
    refine wpAny_bind (wpAny_nextOf_tuple_end (I.ok.hd hc) hit p (by rw [List.getElem?_toArray]; exact List.getElem?_eq_none (by omega)) fun h' x he' hx' => ?_)
    obtain ⟨o, ho, hcl⟩ := hx'
    refine wpAny_bind (wpAny_isInstance (T := "StopIteration") (b := true) ⟨o, ho, hcl⟩ isSubtype_stop ?_)
    exact wpAny_pure ⟨rfl, I.turned (t' := s.toks) (fun b o hb q => he' b o hb q) f0 f1 f3 f4 f5⟩
  self := fun A i s Q E st h => let ⟨⟨_, he⟩, _⟩ := st; wpAny_pyIter_enum he h
def iEnumT (K : PySem.W.Frag) (ta : TA) : TI := fun σ H R => ta σ H fun vs H1 => ∃ a xs, vs = [.ref a] ∧ SqT K H1 a xs ∧ R (ItE K a) H1
theorem pi_enumT {X : Cx} {e : Expr} {ta : TA} {p pos tpos : Pos} {elts : List Expr} {kk : Nat} (hg : Gl X "enumerate") (hm : X.mg "enumerate" = none) (ha : PA X [e] ta) (hs : starEach [e] X.env = [(false, eval e X.env)] := by rfl) :
    PI X (.Tuple elts kk tpos) (.Call (.Name "enumerate" p) [e] [] pos) (iEnumT X.K ta) := by
  refine ⟨fun pins s σ H R I h => ?_⟩
  refine Call_ (ld_blt I hg hm boot_enumerate (PyProof.Rows.callWith_type1 (thn (ha.run pos pins s σ H _ I h) fun us s1 ⟨vs, H1, I1, r1, q1⟩ => ?_) hs rfl))
  obtain ⟨a, xs, ex, hq, q⟩ := q1
  subst ex
  cases r1 with
  | cons r rr =>
    cases rr
    cases r
    obtain ⟨its, rv, p', hz⟩ := I1.tuple hq
    have hal : a < s1.heap.objs.size := by obtain ⟨o, ho, _⟩ := p'; exact Heap.lt_size ho
    refine EnT.begins1 (PySem.begins_tuple a its.toArray) p' fun h' he hit hsz hk => wpAny_pyIter_enum he ?_
    have I2 : Inv X pins σ H1 { s1 with heap := h' } := I1.kept (t' := s1.toks) hk
    refine ⟨s1.heap.objs.size + 1, [s1.heap.objs.size + 1, s1.heap.objs.size], _, _, H1, rfl, I2, turn_enumT a (s1.heap.objs.size + 1) s1.heap.objs.size, ⟨⟨.none, he⟩, ⟨_, hit, rfl, rfl⟩, Nat.succ_ne_self _, Nat.ne_of_lt (Nat.lt_succ_of_lt hal), Nat.ne_of_lt hal⟩, fun b hb => ?_, q⟩
    have e' : b = s1.heap.objs.size + 1 ∨ b = s1.heap.objs.size := by simpa using hb
    have hle : s1.heap.objs.size ≤ b := by
      rcases e' with z | z
      · rw [z]; exact Nat.le_add_right _ _
      · rw [z]; exact Nat.le_refl _
    exact I1.fpOk hle (I1.hok.fresh hle)
/-- over enumerate of a tuple -/
theorem for_enumT {σ : L2.St} {H : Hp} {K : PySem.W.Frag} {D : Ends} {a : Addr} {xs : List V} {g : TG} {tb : TS} (Pv : Nat → L2.St → Hp → Prop) (h0 : Pv 0 σ H) (hl : ∀ i σ H, i ≤ xs.length → Pv i σ H → SqT K H a xs)
    (hs : ∀ i x σ H T, xs[i]? = some x → Pv i σ H → H T = none → g (.ref T) σ (upd H T (.tup [.int (i : Nat), x])) fun σ2 H2 => tb { D with nx := Pv (i + 1), ct := Pv (i + 1), bk := D.nx } σ2 H2) (hd : ∀ σ H, Pv xs.length σ H → D.nx σ H) :
    ∃ W : Nat → Nat → L2.St → Hp → Prop, (∃ m, W 0 m σ H) ∧ ∀ i m σ H, W i m σ H →
      ((ItE K a).stop i H ∧ D.nx σ H) ∨ ((ItE K a).go i H ∧ ∃ N : L2.St → Hp → Prop, (∀ σ' H', N σ' H' → ∃ m', m' < m ∧ W (i + 1) m' σ' H') ∧ ∀ x H', (ItE K a).yld i H x H' → g x σ H' fun σ2 H2 => tb { D with nx := N, ct := N, bk := D.nx } σ2 H2) := by
  refine ⟨fun i m σ H => m = xs.length - i ∧ i ≤ xs.length ∧ Pv i σ H, ⟨xs.length, by simp, Nat.zero_le _, h0⟩, ?_⟩
  rintro i m σ H ⟨rfl, hi, p⟩
  have q := hl i σ H hi p
  by_cases hlt : i < xs.length
  · refine .inr ⟨⟨xs, xs[i], q, by simp [hlt]⟩, Pv (i + 1), fun σ' H' p' => ⟨xs.length - (i + 1), by omega, rfl, hlt, p'⟩, fun x H' y => ?_⟩
    obtain ⟨T, z, rfl, hT, rfl, hz⟩ := y
    exact hs i z σ H T (hz xs q) p hT
  · have e : i = xs.length := by omega
    subst e
    exact .inl ⟨⟨xs, q, Nat.le_refl _⟩, hd σ H p⟩
end KA

/-! ### zip(range(..), t), t a tuple -/
namespace ZrR
open PySem PySem.Calls PyProof.Rows PyProof.V PySem.Spec
section
variable {prog : Program} {w : World} {A : Around} {E : Value → Shared → Prop} {s : Shared}
theorem nextOf_item {it : Addr} {x left step : Int} {Q : Value → Shared → Prop} (hit : IsRangeIter s.heap it x left step) (hleft : 0 < left)
    (hQ : ∀ h', IsRangeIter h' it (x + step) (left - 1) step → Heap.SameBut it s.heap h' → Q (.int x s.toks) { s with heap := h', toks := s.toks + 1 }) :
    wpAny (model prog w) A (Builtin.SmallTypes.nextOf (.ref it)) Q E s := by
  have hT : s.TypeIs (.ref it) "range_iterator" := ⟨_, hit, rfl⟩
  unfold Builtin.SmallTypes.nextOf
  refine wpAny_bind (wpAny_callSpecial?_slot (name := Str.ofString "__next__") hT F.slot_range_iterator_next
    (call_meets F.slot_range_iterator_next hT F.entry_range_iterator_next (F.args_range_iterator_next_1 _) (AutoRange.range_iterator___next___range_iterator_1 it x left step (by omega)) ⟨hit, ?_⟩))
  exact wpAny_pure (hQ _ (Heap.get?_update_self _ (Heap.get?_update_self _ hit rfl) rfl) ((Heap.SameBut.update ..).trans (Heap.SameBut.update ..)))
theorem nextOf_end {it : Addr} {x left step : Int} {Q : Value → Shared → Prop} (hh : A.handled = none) (hit : IsRangeIter s.heap it x left step) (hleft : left ≤ 0)
    (hE : ∀ h' e, Heap.ExtBut it s.heap h' → (∃ o, h'.get? e = some o ∧ o.cls = .type "StopIteration") → E (.ref e) { s with heap := h' }) :
    wpAny (model prog w) A (Builtin.SmallTypes.nextOf (.ref it)) Q E s := by
  have hT : s.TypeIs (.ref it) "range_iterator" := ⟨_, hit, rfl⟩
  unfold Builtin.SmallTypes.nextOf
  refine wpAny_bind (wpAny_callSpecial?_slot (name := Str.ofString "__next__") hT F.slot_range_iterator_next
    (wpAny_call_entry F.slot_range_iterator_next hT F.entry_range_iterator_next ?_ (F.args_range_iterator_next_1 _)))
  show wpAny _ _ (field (.ref it) 0 >>= _) _ _ s
  refine wpAny_bind (wpAny_field hit rfl (x := rawInt x) rfl ?_)
  show wpAny _ _ (field (.ref it) 1 >>= _) _ _ s
  refine wpAny_bind (wpAny_field hit rfl (x := rawInt left) rfl ?_)
  show wpAny _ _ (field (.ref it) 2 >>= _) _ _ s
  refine wpAny_bind (wpAny_field hit rfl (x := rawInt step) rfl ?_)
  show wpAny _ _ (if left ≤ 0 then _ else _) _ _ s
  rw [if_pos hleft]
  refine wpAny_bind (wpAny_rule ?_)
  refine wpAny_bind ?_
  show wpAny _ _ (newExc (.type "StopIteration") [] >>= _) _ _ _
  refine wpAny_bind ?_
  simp only [newExc, newTuple]
  refine wpAny_bind (wpAny_newObj_type ?_ (by size_fits))
  refine wpAny_bind (m := firstArgMember _ _) (wpAny_of_eq (a := Value.none) (by first | rfl | (simp only [firstArgMember]; rfl)) ?_)
  refine wpAny_newObj_type ?_ (by size_fits)
  simp only [raiseNew]
  refine wpAny_bind (wpAny_handled ?_)
  first | rw [show A.in1.handled = none from hh] | rw [hh]
  refine wpAny_bind (wpAny_pure (wpAny_throw ?_))
  exact hE _ _ (((Heap.ExtBut.refl it s.heap).push _).push _) ⟨_, Heap.get?_push_size _ rfl, rfl⟩
end
theorem draws {prog : Program} {w : World} {A : Around} (hh : A.handled = none) (it : Addr) (lo : Int) (n : Nat) :
    Draws prog w A it [it] n (fun i v => ∃ t, v = .int (lo + i) t) (fun i h => IsRangeIter h it (lo + i) ((n : Int) - i) 1) where
  live := fun _ _ st => ⟨_, st⟩
  frame := fun _ _ _ st hk => hk it (by simp) _ st
  item := fun i s Q E hi st hQ => by
    refine nextOf_item st (by omega) fun h' hit' hs' => ?_
    refine hQ _ h' _ ⟨_, rfl⟩ ?_ hs'
    have e1 : lo + ((i + 1 : Nat) : Int) = lo + (i : Int) + 1 := by omega
    have e2 : (n : Int) - ((i + 1 : Nat) : Int) = (n : Int) - (i : Int) - 1 := by omega
    rw [e1, e2]; exact hit'
  done := fun s Q E st hE => nextOf_end hh st (by omega) hE
theorem sep (I b : Nat) (h : b < I) : ZipSep2 (I + 4) (I + 2) (I + 3) I (I + 1) [I] [I + 1, b] := by
  have m2 : ∀ x : Nat, x ≠ I + 1 → x ≠ b → x ∉ ([I + 1, b] : List Nat) := fun x h1 h2 q => by
    rcases List.mem_cons.mp q with e | q
    · exact h1 e
    · rcases List.mem_cons.mp q with e | q
      · exact h2 e
      · cases q
  have m1 : ∀ x : Nat, x ≠ I → x ∉ ([I] : List Nat) := fun x h1 q => by
    rcases List.mem_cons.mp q with e | q
    · exact h1 e
    · cases q
  exact { TIz := Nat.ne_of_lt (by omega), TOz := Nat.ne_of_lt (by omega), TITO := Nat.ne_of_lt (by omega), TIi1 := Nat.ne_of_gt (by omega), mem1 := List.mem_cons_self .., zf1 := m1 _ (Nat.ne_of_gt (by omega)), Tf1 := m1 _ (Nat.ne_of_gt (by omega)),
          TIi2 := Nat.ne_of_gt (by omega), mem2 := List.mem_cons_self .., zf2 := m2 _ (Nat.ne_of_gt (by omega)) (Nat.ne_of_gt (by omega)), Tf2 := m2 _ (Nat.ne_of_gt (by omega)) (Nat.ne_of_gt (by omega)),
          sep1_2 := m2 _ (Nat.ne_of_lt (by omega)) (Nat.ne_of_gt (by omega)), sep2_1 := m1 _ (Nat.ne_of_gt (by omega)) }
theorem begins (r : Addr) {lo hi : Int} {t u v : Tok} (h1 : -(2 ^ 62) ≤ lo) (h2 : lo < 2 ^ 62) (h3 : -(2 ^ 62) ≤ hi) (h4 : hi < 2 ^ 62) :
    Begins (.ref r) { cls := .type "range_iterator", data := .fields #[rawInt lo, rawInt (Builtin.Range.rangeSize lo hi 1), rawInt 1] } fun h => IsRange h r lo hi 1 t u v where
  iter := fun prog w A E s Q hr h => wpAny_pyIter_range hr (small_one h1 h2 h3 h4) h
  keeps := fun h h' x hk => hk r _ x
  free := rfl
end ZrR
namespace KA
open PySem PySem.Spec PyProof.Rows L2
/-- the turns of zip(range(lo, ..), t): a new pair each -/
def ItR (K : PySem.W.Frag) (lo : Int) (n : Nat) (b : Addr) : It :=
  ⟨fun i H => ∃ (ys : List V) (y : V), SqT K H b ys ∧ ys[i]? = some y ∧ i < n,
   fun i H v H' => ∃ T y, v = .ref T ∧ H T = none ∧ H' = upd H T (.tup [.int (lo + i), y]) ∧ ∀ ys, SqT K H b ys → ys[i]? = some y,
   fun i H => ∃ ys : List V, SqT K H b ys ∧ i = n ∧ ys.length = n⟩
theorem turn_zipR {P : Program} {w : World} {K : PySem.W.Frag} {elts : List Expr} {kk : Nat} {tpos : Pos} {lo : Int} {n : Nat} {b z TI TO i1 i2 : Addr} (D : PySem.ZipSep2 z TI TO i1 i2 [i1] [i2, b]) (hbi : b ≠ i2) :
    Turn P w K (.Tuple elts kk tpos) (ItR K lo n b) [z, TI, TO, i1, i2] z (fun i h => IsZip h z TI TO .none ∧ IsPair h TI (.ref i1) (.ref i2) ∧ (∃ x y, IsPair h TO x y) ∧ IsRangeIter h i1 (lo + i) ((n : Int) - i) 1 ∧ h.IsTupleIter i2 b i) where
  mem := by simp
  obj := fun i h st c hc => by
    obtain ⟨hz, hTI, ⟨x, y, hTO⟩, h1, ⟨o2, e2, _, d2⟩⟩ := st
    have e' : c = z ∨ c = TI ∨ c = TO ∨ c = i1 ∨ c = i2 := by simpa using hc
    rcases e' with q | q | q | q | q
    · rw [q]; exact ⟨_, hz, fun v q => nomatch q⟩
    · rw [q]; exact ⟨_, hTI, fun v q => nomatch q⟩
    · rw [q]; exact ⟨_, hTO, fun v q => nomatch q⟩
    · rw [q]; exact ⟨_, h1, fun v q => nomatch q⟩
    · rw [q]; exact ⟨o2, e2, fun v q => by rw [d2] at q; cases q⟩
  keep := fun i h h' st k => by
    obtain ⟨hz, hTI, ⟨x, y, hTO⟩, h1, h2⟩ := st
    exact ⟨k z (by simp) _ hz, k TI (by simp) _ hTI, ⟨x, y, k TO (by simp) _ hTO⟩, k i1 (by simp) _ h1, h2.at fun o q => k i2 (by simp) o q⟩
  item := by
    intro X hP hw hK hc i pins s σ H E I hf st hg
    subst hP hw hK
    obtain ⟨hz, hTI, ⟨x0, y0, hTO⟩, h1, h2⟩ := st
    obtain ⟨ys, y, hqy, hy, hin⟩ := hg
    obtain ⟨its2, rv2, p2, _⟩ := I.tuple hqy
    obtain ⟨u2, hu2, ru2⟩ := rv2.get hy
    have hzl : z < s.heap.objs.size := Heap.lt_size hz
    have hlt : i < its2.toArray.size := by rw [List.size_toArray]; exact (List.getElem?_eq_some_iff.mp hu2).1
    refine wpAny_pyNext_zipD2_item D (ZrR.draws (A := X.A.in1) (I.ok.hd hc) i1 lo n) (Draws.tuple (A := X.A.in1) (I.ok.hd hc) i2 b hbi its2.toArray) hz hTI hTO h1 ⟨h2, p2⟩ hin hlt fun x1 x2 h' tk P1 P2 z' TO' st1 st2 hT hsz hk => ?_
    obtain ⟨t1, rfl⟩ := P1
    obtain rfl : x2 = u2 := by
      have : its2[i]? = some x2 := by simpa using P2
      rw [hu2] at this
      exact (Option.some.inj this).symm
    obtain ⟨h2', p2'⟩ := st2
    refine ⟨_, rfl, wpAny_letOwnedTupleGo_zip (s := { s with heap := h', toks := tk }) z' fun h'' z'' sb => ?_⟩
    have hT2 : h''.get? s.heap.objs.size = some { cls := .type "tuple", data := .seq #[.int (lo + i) t1, x2] } := (sb.2 _ (Nat.ne_of_gt hzl)).trans hT
    have new : ObjOk X.prog X.w (upd H s.heap.objs.size (.tup [.int (lo + i), y])) h'' s.heap.objs.size (.tup [.int (lo + i), y]) :=
      ⟨by show 2 ≤ sizeLine; decide, [.int (lo + i) t1, x2], .cons ⟨_, rfl⟩ (.cons ru2 .nil), ⟨_, hT2, rfl, _, rfl⟩⟩
    have I1 : Inv X pins σ (upd H s.heap.objs.size (.tup [.int (lo + i), y])) { s with heap := h'', toks := tk } :=
      I.turnedNew (t' := tk) (ch := [z, TI, TO, i1, i2]) (fun c o hb q => (sb.2 c (fun q' => hb (by simp [q']))).trans (hk c o (fun q' => hb (by simp [q'])) (fun q' => hb (by simp [q'])) (fun q' => hb (by simp [q'])) (fun q' => hb (by simp [q'])) q)) hf (Nat.le_refl _) new
    refine ⟨.ref s.heap.objs.size, _, I1, rfl, ⟨_, y, rfl, I.hok.fresh (Nat.le_refl _), rfl, fun l hl => by rw [I.tuple_inj hl hqy]; exact hy⟩, ⟨z'', ?_, ⟨.int (lo + i) t1, x2, ?_⟩, ?_, ?_⟩, fun c hcm => ?_⟩
    · exact (sb.2 _ D.TIz).trans (hk _ _ D.TIz D.TITO D.TIi1 D.TIi2 hTI)
    · exact (sb.2 _ D.TOz).trans TO'
    · exact (sb.2 _ (Ne.symm D.zi1)).trans st1
    · exact h2'.at fun o q => (sb.2 _ (Ne.symm D.zi2)).trans q
    · have hlt : c < s.heap.objs.size := by
        have e' : c = z ∨ c = TI ∨ c = TO ∨ c = i1 ∨ c = i2 := by simpa using hcm
        rcases e' with q | q | q | q | q
        · rw [q]; exact hzl
        · rw [q]; exact Heap.lt_size hTI
        · rw [q]; exact Heap.lt_size hTO
        · rw [q]; exact Heap.lt_size h1
        · rw [q]; obtain ⟨_, e2, _⟩ := h2; exact Heap.lt_size e2
      rw [upd_ne (Nat.ne_of_lt hlt)]
      exact (hf c hcm).1
  done := by
    intro X hP hw hK hc i pins s σ H E I hf st hg
    subst hP hw hK
    obtain ⟨hz, hTI, ⟨x0, y0, hTO⟩, h1, h2⟩ := st
    obtain ⟨ys, hqy, rfl, hlen⟩ := hg
    obtain ⟨its2, rv2, p2, _⟩ := I.tuple hqy
    have l2 := rv2.length
    have hsz : its2.toArray.size = i := by rw [List.size_toArray]; omega
    exact wpAny_pyNext_zipD2_end D (ZrR.draws (A := X.A.in1) (I.ok.hd hc) i1 lo i) (Draws.tuple (A := X.A.in1) (I.ok.hd hc) i2 b hbi its2.toArray) hz hTI hTO h1 ⟨h2, p2⟩ (Nat.le_refl _) (by omega) (.inl rfl) fun h' tk hk => ⟨rfl, I.turnedL (t' := tk) (ch := [z, TI, TO, i1, i2]) (fun c o hb q =>
      hk c o (fun q' => hb (by simp [q'])) (fun q' => hb (by simp [q'])) (fun q' => hb (by simp [q'])) (fun q' => hb (by simp [q'])) q) hf⟩
  self := fun A i s Q E st h => wpAny_pyIter_zip st.1 h
def iZipR (K : PySem.W.Frag) (ta : TA) : TI := fun σ H R => ta σ H fun vs H1 => ∃ r b ys lo hi, vs = [.ref r, .ref b] ∧ H1 r = some (.rng lo hi) ∧ -(2 ^ 62) ≤ lo ∧ lo < 2 ^ 62 ∧ lo ≤ hi ∧ hi < 2 ^ 62 ∧ SqT K H1 b ys ∧ R (ItR K lo (hi - lo).toNat b) H1
theorem pi_zipR {X : Cx} {e e2 : Expr} {ta : TA} {p pos tpos : Pos} {elts : List Expr} {kk : Nat} (hg : Gl X "zip") (hm : X.mg "zip" = none) (ha : PA X [e, e2] ta)
    (hs : starEach [e, e2] X.env = (false, eval e X.env) :: starEach [e2] X.env := by rfl) (hpl : (backTo pos (starEach [e2] X.env)).any (·.1) = false := by rfl) :
    PI X (.Tuple elts kk tpos) (.Call (.Name "zip" p) [e, e2] [] pos) (iZipR X.K ta) := by
  refine ⟨fun pins s σ H R I h => ?_⟩
  refine Call_ (ld_blt I hg hm PyProof.Rows.boot_zip (PyProof.Rows.callWith_type1 (thn (ha.run pos pins s σ H _ I h) fun us s1 ⟨vs, H1, I1, r1, q1⟩ => ?_) hs hpl))
  obtain ⟨r, b, ys, lo, hi, ex, hr, g1, g2, g3, g4, hqy, q⟩ := q1
  subst ex
  cases r1 with
  | cons r0 rr =>
    cases rr with
    | cons r' rr =>
      cases rr
      cases r0
      cases r'
      obtain ⟨its2, rv2, p2, _⟩ := I1.tuple hqy
      obtain ⟨o2, ho2, _⟩ := id p2
      have hb : b < s1.heap.objs.size := Heap.lt_size ho2
      obtain ⟨t, u, v, hro⟩ := I1.hok _ _ hr
      have hn : Builtin.Range.rangeSize lo hi 1 = ((hi - lo).toNat : Int) := by
        unfold Builtin.Range.rangeSize
        split <;> split <;> first | omega | (rename_i x y; simp at *; omega)
      refine PySem.zip_begins2 (ZrR.begins r g1 g2 (by omega) g4) (begins_tuple b its2.toArray) hro p2 fun h' hz hTI hTO h1 h2 hsz hk => wpAny_pyIter_zip hz ?_
      have I2 : Inv X pins σ H1 { s1 with heap := h' } := I1.kept (t' := s1.toks) hk
      have D : PySem.ZipSep2 (s1.heap.objs.size + 4) (s1.heap.objs.size + 2) (s1.heap.objs.size + 3) s1.heap.objs.size (s1.heap.objs.size + 1) [s1.heap.objs.size] [s1.heap.objs.size + 1, b] := ZrR.sep _ _ hb
      rw [hn] at h1
      refine ⟨s1.heap.objs.size + 4, [s1.heap.objs.size + 4, s1.heap.objs.size + 2, s1.heap.objs.size + 3, s1.heap.objs.size, s1.heap.objs.size + 1], _, _, H1, rfl, I2, turn_zipR D (Nat.ne_of_lt (Nat.lt_succ_of_lt hb)), ⟨hz, hTI, ⟨_, _, hTO⟩, by simpa using h1, ⟨_, h2, rfl, rfl⟩⟩, fun c hcm => ?_, q⟩
      have e' : c = s1.heap.objs.size + 4 ∨ c = s1.heap.objs.size + 2 ∨ c = s1.heap.objs.size + 3 ∨ c = s1.heap.objs.size ∨ c = s1.heap.objs.size + 1 := by simpa using hcm
      have hle : s1.heap.objs.size ≤ c := by
        rcases e' with z | z | z | z | z
        · rw [z]; exact Nat.le_add_right _ _
        · rw [z]; exact Nat.le_add_right _ _
        · rw [z]; exact Nat.le_add_right _ _
        · rw [z]; exact Nat.le_refl _
        · rw [z]; exact Nat.le_add_right _ _
      exact I1.fpOk hle (I1.hok.fresh hle)
/-- over zip of a range and a tuple of one length -/
theorem for_zipR {σ : L2.St} {H : Hp} {K : PySem.W.Frag} {D : Ends} {lo : Int} {n : Nat} {b : Addr} {ys : List V} {g : TG} {tb : TS} (hlen : ys.length = n) (Pv : Nat → L2.St → Hp → Prop) (h0 : Pv 0 σ H) (hl : ∀ i σ H, i ≤ n → Pv i σ H → SqT K H b ys)
    (hs : ∀ i y σ H T, ys[i]? = some y → Pv i σ H → H T = none → g (.ref T) σ (upd H T (.tup [.int (lo + (i : Nat)), y])) fun σ2 H2 => tb { D with nx := Pv (i + 1), ct := Pv (i + 1), bk := D.nx } σ2 H2) (hd : ∀ σ H, Pv n σ H → D.nx σ H) :
    ∃ W : Nat → Nat → L2.St → Hp → Prop, (∃ m, W 0 m σ H) ∧ ∀ i m σ H, W i m σ H →
      ((ItR K lo n b).stop i H ∧ D.nx σ H) ∨ ((ItR K lo n b).go i H ∧ ∃ N : L2.St → Hp → Prop, (∀ σ' H', N σ' H' → ∃ m', m' < m ∧ W (i + 1) m' σ' H') ∧ ∀ x H', (ItR K lo n b).yld i H x H' → g x σ H' fun σ2 H2 => tb { D with nx := N, ct := N, bk := D.nx } σ2 H2) := by
  refine ⟨fun i m σ H => m = n - i ∧ i ≤ n ∧ Pv i σ H, ⟨n, by simp, Nat.zero_le _, h0⟩, ?_⟩
  rintro i m σ H ⟨rfl, hi, p⟩
  have q := hl i σ H hi p
  by_cases hlt : i < n
  · refine .inr ⟨⟨ys, ys[i]'(by omega), q, List.getElem?_eq_getElem (by omega), hlt⟩, Pv (i + 1), fun σ' H' p' => ⟨n - (i + 1), by omega, rfl, hlt, p'⟩, fun x H' y => ?_⟩
    obtain ⟨T, z, rfl, hT, rfl, hz⟩ := y
    exact hs i z σ H T (hz ys q) p hT
  · have e : i = n := by omega
    subst e
    exact .inl ⟨⟨ys, q, rfl, hlen⟩, hd σ H p⟩
end KA

namespace KA
open PySem PySem.Spec PyProof.Rows L2 Evl TL
section
variable {σ : L2.St} {H : Hp} {K : PySem.W.Frag} {D : Ends}
theorem q_forR1 {ta : TA} {g : TG} {tu tz : TS} {j : Int} (h : EvA ta σ H [.int j]) (hj : 0 ≤ j ∧ j < 1000000) (Pv : Nat → L2.St → Hp → Prop) (h0 : ∀ H1, Ex H H1 → Pv 0 σ H1)
    (hs : ∀ (i : Nat) σ' H', i < j.toNat → Pv i σ' H' → g (.int (0 + (i : Nat))) σ' H' fun σ2 H2 => tu { D with nx := Pv (i + 1), ct := Pv (i + 1), bk := tz D } σ2 H2) (hd : ∀ σ' H', Pv j.toNat σ' H' → tz D σ' H') : tSeq (tFor (iRng1 ta) g tu) tz D σ H :=
  h H (Ex.refl H) _ fun H1 e => ⟨j, rfl, by omega, by omega, for_range (D := { D with nx := tz D }) Pv (h0 H1 e) hs hd⟩
theorem s_forR1 {ta : TA} {g : TG} {tu : TS} {j : Int} (h : EvA ta σ H [.int j]) (hj : 0 ≤ j ∧ j < 1000000) (Pv : Nat → L2.St → Hp → Prop) (h0 : ∀ H1, Ex H H1 → Pv 0 σ H1)
    (hs : ∀ (i : Nat) σ' H', i < j.toNat → Pv i σ' H' → g (.int (0 + (i : Nat))) σ' H' fun σ2 H2 => tu { D with nx := Pv (i + 1), ct := Pv (i + 1), bk := D.nx } σ2 H2) (hd : ∀ σ' H', Pv j.toNat σ' H' → D.nx σ' H') : tFor (iRng1 ta) g tu D σ H :=
  h H (Ex.refl H) _ fun H1 e => ⟨j, rfl, by omega, by omega, for_range Pv (h0 H1 e) hs hd⟩
theorem el_rep {ta tb : TE} {xs : List V} {j : Int} (ha : EvL ta σ H xs) (hb : Ev tb σ H (.int j)) (hj : 0 ≤ j ∧ j < 100000) (hz : xs.length * j.toNat ≤ 100000) : EvL (tOp rRep ta tb) σ H (List.replicate j.toNat xs).flatten := fun H1 e Q q =>
  ha H1 e _ fun p H2 hp e2 h2 => hb H2 (e.trans e2) _ fun H3 e3 => ⟨p, j, xs, rfl, rfl, e3 _ _ h2, by omega, by omega, sz_of hz, fun l hl => q l _ (fresh_back (e2.trans e3) hl) ((e2.trans e3).trans (Ex.new hl)) upd_same⟩
theorem rv_ixT {p : Addr} {xs : List V} {i : Int} {v : V} (hp : H p = some (.tup xs)) (h : atI xs i = some v) : RV (rIxT K) (.ref p) (.int i) H v := fun H1 e Q q =>
  ⟨p, xs, i, v, rfl, rfl, st_of (e _ _ hp), h, q H1 (Ex.refl H1)⟩
end
section
variable {P : Program} {w : World} {K : PySem.W.Frag} {mg : Str → Option Value} {base : Heap}
section
variable {σ : L2.St} {H : Hp} {D : Ends} {m wl : Addr} {μ : Mem} {tm tf tp tx : TE} {tz : TS} {s p x : Int}
theorem q_putf (hM : MemAt K H m wl μ) (hm : Ev tm σ H (.ref m)) (hf : Ev tf σ H (.int s)) (hp : Ev tp σ H (.int p)) (hx : Ev tx σ H (.int x)) (hI : 0 ≤ s ∧ s < 256 ∧ 0 ≤ p ∧ p < 8) (k : ∀ H', MemAt K H' m wl (mset μ (s * 8 + p).toNat x) → Fr wl H H' → tz D σ H') :
    tSeq (tDrop (tCall (sp_put_field K) [] E0 (tCons tm (tCons tf (tCons tp (tCons tx tNil)))))) tz D σ H :=
  (ea_cons hm (ea_cons hf (ea_cons hp (ea_cons hx ea_nil))) : EvA (tCons tm (tCons tf (tCons tp (tCons tx tNil)))) σ H [.ref m, .int s, .int p, .int x]) H (Ex.refl H) (fun vs H1 => sp_put_field K (vs ++ []) H1 (fun _ H2 => tz D σ H2) E0) fun H1 e1 => ⟨m, wl, μ, s, p, x, rfl, hM.keep e1, hI.1, hI.2.1, hI.2.2.1, hI.2.2.2, fun H' h' f' => k H' h' ((Fr.of e1).trans f')⟩
theorem s_putf (hM : MemAt K H m wl μ) (hm : Ev tm σ H (.ref m)) (hf : Ev tf σ H (.int s)) (hp : Ev tp σ H (.int p)) (hx : Ev tx σ H (.int x)) (hI : 0 ≤ s ∧ s < 256 ∧ 0 ≤ p ∧ p < 8) (k : ∀ H', MemAt K H' m wl (mset μ (s * 8 + p).toNat x) → Fr wl H H' → D.nx σ H') :
    tDrop (tCall (sp_put_field K) [] E0 (tCons tm (tCons tf (tCons tp (tCons tx tNil))))) D σ H :=
  (ea_cons hm (ea_cons hf (ea_cons hp (ea_cons hx ea_nil))) : EvA (tCons tm (tCons tf (tCons tp (tCons tx tNil)))) σ H [.ref m, .int s, .int p, .int x]) H (Ex.refl H) (fun vs H1 => sp_put_field K (vs ++ []) H1 (fun _ H2 => D.nx σ H2) E0) fun H1 e1 => ⟨m, wl, μ, s, p, x, rfl, hM.keep e1, hI.1, hI.2.1, hI.2.2.1, hI.2.2.2, fun H' h' f' => k H' h' ((Fr.of e1).trans f')⟩
end
/-! ### a memory made -/
def m0 : Mem := fun _ => 0
theorem lW0 : lW m0 = List.replicate 2048 (.int 0) := by
  apply List.ext_getElem?
  intro j
  by_cases hj : j < 2048
  · rw [lW_at hj, List.getElem?_replicate]
    rw [if_pos hj]
    rfl
  · rw [List.getElem?_eq_none (by rw [lW_len]; omega), List.getElem?_eq_none (by rw [List.length_replicate]; omega)]
theorem rep1 {α : Type} (x : α) : ∀ n : Nat, (List.replicate n [x]).flatten = List.replicate n x
  | 0 => rfl
  | n + 1 => by rw [List.replicate_succ, List.flatten_cons, rep1 x n, List.replicate_succ]; rfl
def sp_Memory_init (K : PySem.W.Frag) : Sp := fun vs H Q _ => ∃ (m dx : Addr), vs = [.ref m] ∧ H m = some (.ins (CM K) dx []) ∧ ∀ wl H', H wl = none → MemAt K H' m wl m0 → FS [m] H H' → Q .non H'
theorem ok_Memory_init (T : Txt K mg) : FnOk P w K mg base CX0 1 (f_Memory_init K) (fd_Memory_init K) ["self"] (sp_Memory_init K) := by
  refine T.fn_Memory_init.ok sc_Memory_init (fun vs H Q E h => ?_) (fun cdv A outer s H vs Q E hr h => ⟨_, PSs.nox (pss_cons (ps_fld (pv 0) (pe_op op_rep (pe_lst (pa_cons pe_int pa_nil)) (pe_op op_mul (T.pg_FRAMES) (T.pg_FRAME))) rfl) (pss_one (ps_fld (pv 0) pe_dnewK rfl))), ?_⟩)
  · obtain ⟨_, _, rfl, _⟩ := h
    rfl
  · obtain ⟨m, dx, rfl, hm, k⟩ := h
    have ew : (List.replicate (Int.toNat (32 * 64)) [V.int 0]).flatten = lW m0 := by rw [rep1, lW0]; rfl
    refine q_fldL (xs := (List.replicate (Int.toNat (32 * 64)) [V.int 0]).flatten) (el_rep (el_lst (vs := [.int 0]) (ea_cons ev_c ea_nil) (by decide)) (ev_op ev_c ev_c (rv_I (.inr ⟨by decide, by decide⟩))) (by decide) (by show 1 * 2048 ≤ 100000; decide)) (ev_var rfl) hm T.cl_Memory T.no_Memory_words (by decide) fun wl H2 hwH e2 h2 => ?_
    rw [ew] at h2
    have nw : wl ≠ m := fun z => by rw [z, hm] at hwH; cases hwH
    have f3 : FS [m] H (upd H2 m (.ins (CM K) dx (putF "_words" (.ref wl) []))) := (FS.of e2).trans (FS.put (by simp))
    have h3 : (upd H2 m (.ins (CM K) dx (putF "_words" (.ref wl) []))) m = some (.ins (CM K) dx (putF "_words" (.ref wl) [])) := upd_same
    have w3 : (upd H2 m (.ins (CM K) dx (putF "_words" (.ref wl) []))) wl = some (.lst (lW m0)) := by rw [upd_ne nw]; exact h2
    show sFld K (tVar 0) tDNewK "_disks" _ _ (upd H2 m (.ins (CM K) dx (putF "_words" (.ref wl) [])))
    generalize upd H2 m (.ins (CM K) dx (putF "_words" (.ref wl) [])) = H3 at f3 h3 w3 ⊢
    intro dd hdd
    have e4 : Ex H3 (upd H3 dd (.dK [])) := Ex.new hdd
    have h4 : (upd H3 dd (.dK [])) dd = some (.dK []) := upd_same
    generalize upd H3 dd (.dK []) = H4 at e4 h4 ⊢
    have ndm : dd ≠ m := fun z => by rw [z, h3] at hdd; cases hdd
    refine ⟨_, rfl, m, CM K, dx, _, rfl, e4 _ _ h3, T.cl_Memory, T.no_Memory_disks, by show 1 < 1000; decide, ?_⟩
    exact (k wl _ hwH ⟨⟨dx, dd, upd_same, [], by rw [upd_ne ndm]; exact h4⟩, by rw [upd_ne nw]; exact e4 _ _ w3⟩ ((f3.trans (FS.of e4)).trans (FS.put (by simp))))
/-! ### a capability put -/
def mputs (μ : Mem) (s : Int) (c : Nat → Int) : Nat → Mem
  | 0 => μ
  | k + 1 => mset (mputs μ s c k) (s * 8 + (k : Int)).toNat (c k)
def mcap (μ : Mem) (s : Int) (c : Nat → Int) (sz us : Int) : Mem := mset (mset (mset (mputs μ s c 4) (s * 8 + 4).toNat 0) (s * 8 + 5).toNat sz) (s * 8 + 6).toNat us
def capV (c : Nat → Int) : List V := [.int (c 0), .int (c 1), .int (c 2), .int (c 3)]
theorem capV_at {c : Nat → Int} {i : Nat} (h : i < 4) : atI (capV c) (0 + (i : Nat)) = some (.int (c i)) := by
  have : i = 0 ∨ i = 1 ∨ i = 2 ∨ i = 3 := by omega
  rcases this with e | e | e | e <;> subst e <;> rfl
def sp_put_cap (K : PySem.W.Frag) : Sp := fun vs H Q _ => ∃ (m wl pc : Addr) (μ : Mem) (s sz us : Int) (c : Nat → Int), vs = [.ref m, .int s, .ref pc, .non, .int sz, .int us] ∧ MemAt K H m wl μ ∧ 0 ≤ s ∧ s < 256 ∧ H pc = some (.tup (capV c)) ∧ ∀ H', MemAt K H' m wl (mcap μ s c sz us) → Fr wl H H' → Q .non H'
theorem ok_put_cap (T : Txt K mg) : FnOk P w K mg base CX0 3 (f_put_cap K) (fd_put_cap K) ["memory", "slot", "cap", "parent", "size", "used"] (sp_put_cap K) := by
  refine T.fn_put_cap.ok sc_put_cap (fun vs H Q E h => ?_) (fun cdv A outer s H vs Q E hr h => ⟨_, PSs.nox (pss_cons (ps_for PassesOwn.never rfl (pi_range1 (by rfl) T.free_range (pa_cons pe_int pa_nil)) (pg_name (i := 6) sc_put_cap.nd rfl (Or.inl rfl)) (pss_one (ps_expr (pe_call (ok_put_field T) (hr.mono (by decide)) (by rfl) (T.glo_put_field) (T.kp_put_field) (T.bd_put_field) .nil pass0 (pa_cons (pv 0) (pa_cons (pv 1) (pa_cons (pv 6) (pa_cons (pe_ix ix_tup (pv 2) (pv 6) (fun _ _ => rfl)) pa_nil)))))))) (pss_cons (ps_expr (pe_call (ok_put_field T) (hr.mono (by decide)) (by rfl) (T.glo_put_field) (T.kp_put_field) (T.bd_put_field) .nil pass0 (pa_cons (pv 0) (pa_cons (pv 1) (pa_cons pe_int (pa_cons (pe_ifExp (pt_cmpR op_isN (pv 3) pe_non (nomark _)) pe_int (pe_op op_add (pv 3) pe_int)) pa_nil)))))) (pss_cons (ps_expr (pe_call (ok_put_field T) (hr.mono (by decide)) (by rfl) (T.glo_put_field) (T.kp_put_field) (T.bd_put_field) .nil pass0 (pa_cons (pv 0) (pa_cons (pv 1) (pa_cons pe_int (pa_cons (pv 4) pa_nil)))))) (pss_one (ps_expr (pe_call (ok_put_field T) (hr.mono (by decide)) (by rfl) (T.glo_put_field) (T.kp_put_field) (T.bd_put_field) .nil pass0 (pa_cons (pv 0) (pa_cons (pv 1) (pa_cons pe_int (pa_cons (pv 5) pa_nil)))))))))), ?_⟩)
  · obtain ⟨_, _, _, _, _, _, _, _, rfl, _⟩ := h
    rfl
  · obtain ⟨m, wl, pc, μ, s0, sz, us, c, rfl, hM, s1, s2, hc, k⟩ := h
    refine q_forR1 (j := 4) (ea_cons ev_c ea_nil) (by decide) (fun i σ' H' => ∃ x6, σ' = [some (.ref m), some (.int s0), some (.ref pc), some .non, some (.int sz), some (.int us), x6] ∧ MemAt K H' m wl (mputs μ s0 c i) ∧ Fr wl H H') (fun H1 e1 => ⟨none, rfl, hM.keep e1, Fr.of e1⟩) ?_ ?_
    · rintro i σ' H' hi ⟨x6, rfl, hM', f'⟩
      have hi4 : i < 4 := hi
      have hpc : H' pc = some (.tup (capV c)) := f' _ _ hc (ne_of hc hM.ws (by intro z; cases z))
      refine s_putf hM' (ev_var rfl) (ev_var rfl) (ev_var rfl) (ev_op (ev_var rfl) (ev_var rfl) (rv_ixT hpc (capV_at hi4))) ⟨s1, s2, by omega, by omega⟩ fun H2 h2 f2 => ⟨_, rfl, ?_, f'.trans f2⟩
      have e0 : s0 * 8 + (0 + (i : Int)) = s0 * 8 + (i : Int) := by omega
      rw [e0] at h2
      exact h2
    · rintro σ' H1 ⟨x6, rfl, hM1, f1⟩
      refine q_putf hM1 (ev_var rfl) (ev_var rfl) ev_c (ev_if (b := true) (et_is (et_test (ev_op (ev_var rfl) ev_c rv_isN)) rfl) (fun _ => ev_c) (fun h => by cases h)) ⟨s1, s2, by decide, by decide⟩ fun H2 h2 f2 => ?_
      refine q_putf h2 (ev_var rfl) (ev_var rfl) ev_c (ev_var rfl) ⟨s1, s2, by decide, by decide⟩ fun H3 h3 f3 => ?_
      refine s_putf h3 (ev_var rfl) (ev_var rfl) ev_c (ev_var rfl) ⟨s1, s2, by decide, by decide⟩ fun H4 h4 f4 => ?_
      exact k H4 h4 (((f1.trans f2).trans f3).trans f4)
/-! ### an entry put -/
def ment (μ : Mem) (t pg : Int) (c : Nat → Int) : Nat → Mem
  | 0 => μ
  | k + 1 => mset (ment μ t pg c k) (ix t (pg * 4 + (k : Int))) (c k)
def ent3 (c : Nat → Int) : List V := [.int (c 0), .int (c 1), .int (c 2)]
theorem ent3_at {c : Nat → Int} {i : Nat} (h : i < 3) : atI (ent3 c) (0 + (i : Nat)) = some (.int (c i)) := by
  have : i = 0 ∨ i = 1 ∨ i = 2 := by omega
  rcases this with e | e | e <;> subst e <;> rfl
def sp_put_entry (K : PySem.W.Frag) : Sp := fun vs H Q _ => ∃ (m wl pc : Addr) (μ : Mem) (t pg : Int) (c : Nat → Int), vs = [.ref m, .int t, .int pg, .ref pc] ∧ MemAt K H m wl μ ∧ InF t ∧ 2 ≤ t ∧ 0 ≤ pg ∧ pg < 8 ∧ μ (ix 1 t) ≠ 8 ∧ H pc = some (.tup (ent3 c)) ∧ ∀ H', MemAt K H' m wl (ment μ t pg c 3) → Fr wl H H' → Q .non H'
theorem ix_ne {f p f' p' : Int} (h : 0 ≤ f * 64 + p) (h' : 0 ≤ f' * 64 + p') (n : f * 64 + p ≠ f' * 64 + p') : ix f p ≠ ix f' p' := by unfold ix; omega
theorem ment_other {μ : Mem} {t pg : Int} {c : Nat → Int} {j : Nat} : ∀ (i : Nat), (∀ k : Nat, k < i → j ≠ ix t (pg * 4 + (k : Int))) → ment μ t pg c i j = μ j
  | 0, _ => rfl
  | i + 1, h => by
    show mset (ment μ t pg c i) (ix t (pg * 4 + (i : Int))) (c i) j = μ j
    unfold mset
    rw [if_neg (h i (Nat.lt_succ_self i))]
    exact ment_other i fun k hk => h k (Nat.lt_succ_of_lt hk)
theorem ok_put_entry (T : Txt K mg) : FnOk P w K mg base CX0 4 (f_put_entry K) (fd_put_entry K) ["memory", "table", "page", "told"] (sp_put_entry K) := by
  refine T.fn_put_entry.ok sc_put_entry (fun vs H Q E h => ?_) (fun cdv A outer s H vs Q E hr h => ⟨_, PSs.nox (pss_one (ps_for PassesOwn.never rfl (pi_range1 (by rfl) T.free_range (pa_cons pe_int pa_nil)) (pg_name (i := 4) sc_put_entry.nd rfl (Or.inl rfl)) (pss_one (ps_expr (pe_meth (pv 0) (T.cl_Memory) (T.mt_Memory_put) (ok_Memory_put T) (hr.mono (by decide)) (T.bd_Memory_put) .nil pass0 (pa_cons (pv 1) (pa_cons (pe_op op_add (pe_call (ok_entry_at T) (hr.mono (by decide)) (by rfl) (T.glo_entry_at) (T.kp_entry_at) (T.bd_entry_at) .nil pass0 (pa_cons (pv 0) (pa_cons (pv 1) (pa_cons (pv 2) pa_nil)))) (pv 4)) (pa_cons (pe_ix ix_tup (pv 3) (pv 4) (fun _ _ => rfl)) pa_nil)))))))), ?_⟩)
  · obtain ⟨_, _, _, _, _, _, _, rfl, _⟩ := h
    rfl
  · obtain ⟨m, wl, pc, μ, t, pg, c, rfl, hM, hI, t2, p1, p2, h8, hc, k⟩ := h
    refine s_forR1 (j := 3) (ea_cons ev_c ea_nil) (by decide) (fun i σ' H' => ∃ x4, σ' = [some (.ref m), some (.int t), some (.int pg), some (.ref pc), x4] ∧ MemAt K H' m wl (ment μ t pg c i) ∧ Fr wl H H') (fun H1 e1 => ⟨none, rfl, hM.keep e1, Fr.of e1⟩) ?_ ?_
    · rintro i σ' H' hi ⟨x4, rfl, hM', f'⟩
      have hi3 : i < 3 := hi
      have hpc : H' pc = some (.tup (ent3 c)) := f' _ _ hc (ne_of hc hM.ws (by intro z; cases z))
      have h8' : ment μ t pg c i (ix 1 t) ≠ 8 := by
        rw [ment_other i fun k hk => ix_ne (by omega) (by omega) (by omega)]
        exact h8
      refine s_put hM' (ev_var rfl) (ev_var rfl) (ev_op (ev_pure (z := .int (pg * 4)) (ea_cons (ev_var rfl) (ea_cons (ev_var rfl) (ea_cons (ev_var rfl) ea_nil))) fun H1 e Q q => ⟨m, wl, _, t, pg, rfl, hM'.keep e, hI, h8', q⟩) (ev_var rfl) rv_I0) (ev_op (ev_var rfl) (ev_var rfl) (rv_ixT hpc (ent3_at hi3))) (by omega) fun H2 h2 f2 => ⟨_, rfl, ?_, f'.trans f2⟩
      have e0 : pg * 4 + (0 + (i : Int)) = pg * 4 + (i : Int) := by omega
      rw [e0] at h2
      exact h2
    · rintro σ' H1 ⟨x4, rfl, hM1, f1⟩
      exact k H1 hM1 f1
end
end KA

namespace KA
open PySem PySem.Spec PyProof.Rows L2 Evl TL
/-! ### rules -/
section
variable {σ : L2.St} {H H' : Hp} {K : PySem.W.Frag} {D : Ends}
theorem ev_lenT {p : Addr} {xs : List V} {ta : TE} (ha : Ev ta σ H (.ref p)) (h : SqT K H p xs) : Ev (tCB (fun xs H Q => ∃ x n, xs = [x] ∧ LenV K x H n ∧ Q (.int n) H) (tCons ta tNil)) σ H (.int (xs.length : Int)) := fun H1 e Q q =>
  ha H1 e _ fun H2 e2 => ⟨_, xs.length, rfl, .inr ⟨_, ex_t (e.trans e2) h, rfl⟩, q H2 e2⟩
theorem ev_chV {r r' : R2} {ta tb tc : TE} {x y z : V} {k k' : Bool} (ha : Ev ta σ H x) (hb : Ev tb σ H y) (hr : RV r x y H (.bl k)) (hc : Ev tc σ H z) (hr' : RV r' y z H (.bl k')) : Ev (tChain r r' ta tb tc) σ H (.bl (k && k')) := fun H1 e Q q =>
  ha H1 e _ fun H2 e2 => hb H2 (e.trans e2) _ fun H3 e3 => hr H3 ((e.trans e2).trans e3) _ fun H4 e4 => ⟨k, rfl, by
    cases k with
    | true =>
      refine iteT (hc H4 (((e.trans e2).trans e3).trans e4) _ fun H5 e5 => hr' H5 ((((e.trans e2).trans e3).trans e4).trans e5) _ fun H6 e6 => q H6 ?_)
      exact ((((e2.trans e3).trans e4).trans e5).trans e6)
    | false => exact iteF (q H4 ((e2.trans e3).trans e4))⟩
/-- the tuples stand -/
def TK (H H' : Hp) : Prop := ∀ b xs, H b = some (.tup xs) → H' b = some (.tup xs)
theorem TK.ex (e : Ex H H') : TK H H' := fun b xs h => e b _ h
theorem TK.fr {wl : Addr} {ws : List V} (f : Fr wl H H') (h : H wl = some (.lst ws)) : TK H H' := fun b xs q => f b _ q (ne_of q h (by intro z; cases z))
theorem TK.trans {H1 H2 H3 : Hp} (a : TK H1 H2) (b : TK H2 H3) : TK H1 H3 := fun c xs h => b c xs (a c xs h)
abbrev Pr : Type := V → Hp → Prop
def Mo (P : Pr) : Prop := ∀ v H H', TK H H' → P v H → P v H'
def EvP (te : TE) (σ : L2.St) (H : Hp) (P : Pr) : Prop := ∀ H1, Ex H H1 → ∀ Q : VK, (∀ v H2, Ex H1 H2 → P v H2 → Q v H2) → te σ H1 Q
inductive Al : List Pr → List V → Hp → Prop
  | nil {H : Hp} : Al [] [] H
  | cons {H : Hp} {P : Pr} {Ps : List Pr} {v : V} {vs : List V} (h : P v H) (r : Al Ps vs H) : Al (P :: Ps) (v :: vs) H
theorem Al.mono {Ps : List Pr} {vs : List V} (m : ∀ P ∈ Ps, Mo P) (k : TK H H') (a : Al Ps vs H) : Al Ps vs H' := by
  induction a with
  | nil => exact .nil
  | cons h r ih => exact .cons (m _ (List.mem_cons_self ..) _ _ _ k h) (ih (fun P hP => m P (List.mem_cons_of_mem _ hP)) k)
theorem Al.at {Ps : List Pr} {vs : List V} (a : Al Ps vs H) {i : Nat} {v : V} (h : vs[i]? = some v) : ∃ P, Ps[i]? = some P ∧ P v H := by
  induction a generalizing i with
  | nil => cases h
  | cons g r ih =>
    cases i with
    | zero => cases h; exact ⟨_, rfl, g⟩
    | succ i => exact ih h
theorem Al.len {Ps : List Pr} {vs : List V} (a : Al Ps vs H) : vs.length = Ps.length := by
  induction a with
  | nil => rfl
  | cons g r ih => rw [List.length_cons, List.length_cons, ih] <;> rfl
def EvPs (ta : TA) (σ : L2.St) (H : Hp) (Ps : List Pr) : Prop := ∀ H1, Ex H H1 → ∀ Q : List V → Hp → Prop, (∀ vs H2, Ex H1 H2 → Al Ps vs H2 → Q vs H2) → ta σ H1 Q
theorem eps_nil : EvPs tNil σ H [] := fun H1 e Q q => q [] H1 (Ex.refl H1) .nil
theorem eps_cons {te : TE} {ta : TA} {P : Pr} {Ps : List Pr} (m : Mo P) (h : EvP te σ H P) (hr : EvPs ta σ H Ps) : EvPs (tCons te ta) σ H (P :: Ps) := fun H1 e Q q =>
  h H1 e _ fun v H2 e2 p => hr H2 (e.trans e2) _ fun vs H3 e3 a => q _ H3 (e2.trans e3) (.cons (m _ _ _ (TK.ex e3) p) a)
theorem q_forPU {ta : TA} {Ps : List Pr} {g : TG} {tu tz : TS} (hm : ∀ P ∈ Ps, Mo P) (hl : Ps.length ≤ 100000) (h : EvPs ta σ H Ps)
    (k : ∀ p vs H1, Ex H H1 → H1 p = some (.tup vs) → Al Ps vs H1 → ∃ Pv : Nat → L2.St → Hp → Prop, Pv 0 σ H1 ∧ (∀ i σ' H', i ≤ vs.length → Pv i σ' H' → H' p = some (.tup vs)) ∧
      (∀ i x σ' H', vs[i]? = some x → Pv i σ' H' → g x σ' H' fun σ2 H2 => tu { D with nx := Pv (i + 1), ct := Pv (i + 1), bk := tz D } σ2 H2) ∧ ∀ σ' H', Pv vs.length σ' H' → tz D σ' H') : tSeq (tFor (iTup K (tTup ta)) g tu) tz D σ H :=
  h H (Ex.refl H) _ fun vs H1 e1 a => ⟨sz_of (by rw [a.len]; exact hl), fun p hp => by
    have e2 : Ex H1 (L2.upd H1 p (.tup vs)) := Ex.new hp
    obtain ⟨Pv, h0, h1, h2, h3⟩ := k p vs _ (e1.trans e2) upd_same (a.mono hm (TK.ex e2))
    exact ⟨p, rfl, ⟨vs, st_of upd_same⟩, for_tup (D := { D with nx := tz D }) Pv h0 (fun i σ' H' hi hp => st_of (h1 i σ' H' hi hp)) h2 h3⟩⟩
theorem q_forZR {ta tb : TE} {ty : TA} {g : TG} {tu tz : TS} {lo hi : Int} {ys : List V} (ha : Ev ta σ H (.int lo)) (hb : Ev tb σ H (.int hi)) (hy : EvA ty σ H ys) (hz : ys.length ≤ 100000) (hl : 0 ≤ lo ∧ hi = lo + (ys.length : Int) ∧ lo < 1000000) (Pv : Addr → Nat → L2.St → Hp → Prop)
    (h0 : ∀ p H1, Ex H H1 → H1 p = some (.tup ys) → Pv p 0 σ H1) (h1 : ∀ p i σ' H', Pv p i σ' H' → H' p = some (.tup ys))
    (hs : ∀ p i y σ' H' T, ys[i]? = some y → Pv p i σ' H' → H' T = none → g (.ref T) σ' (L2.upd H' T (.tup [.int (lo + (i : Nat)), y])) fun σ2 H2 => tu { D with nx := Pv p (i + 1), ct := Pv p (i + 1), bk := tz D } σ2 H2) (hd : ∀ p σ' H', Pv p ys.length σ' H' → tz D σ' H') :
    tSeq (tFor (iZipR K (tCons (tCB (fun vs H Q => ∃ i j, vs = [V.int i, V.int j] ∧ ∀ p, H p = none → Q (.ref p) (L2.upd H p (.rng i j))) (tCons ta (tCons tb tNil))) (tCons (tTup ty) tNil))) g tu) tz D σ H :=
  ha H (Ex.refl H) _ fun H1 e1 => hb H1 e1 _ fun H2 e2 => ⟨lo, hi, rfl, fun r hr =>
    have e3 : Ex H2 (L2.upd H2 r (.rng lo hi)) := Ex.new hr
    have eh : (hi - lo).toNat = ys.length := by omega
    hy _ ((e1.trans e2).trans e3) _ fun H4 e4 => ⟨sz_of hz, fun p hp =>
      have e5 : Ex H4 (L2.upd H4 p (.tup ys)) := Ex.new hp
      ⟨r, p, ys, lo, hi, rfl, e5 _ _ (e4 _ _ upd_same), by omega, by omega, by omega, by omega, st_of upd_same, by
        rw [eh]
        exact for_zipR (D := { D with nx := tz D }) rfl (Pv p) (h0 p _ ((((e1.trans e2).trans e3).trans e4).trans e5) upd_same) (fun i σ' H' hi' hp' => st_of (h1 p i σ' H' hp')) (fun i y σ' H' T hy' hp' hT => hs p i y σ' H' T hy' hp' hT) (hd p)⟩⟩⟩
theorem q_forET {te : TE} {g : TG} {tu tz : TS} {a : Addr} {xs : List V} (h : Ev te σ H (.ref a)) (hx : SqT K H a xs) (Pv : Nat → L2.St → Hp → Prop) (h0 : ∀ H1, Ex H H1 → Pv 0 σ H1) (h1 : ∀ i σ' H', Pv i σ' H' → SqT K H' a xs)
    (hs : ∀ i y σ' H' T, xs[i]? = some y → Pv i σ' H' → H' T = none → g (.ref T) σ' (L2.upd H' T (.tup [.int (i : Nat), y])) fun σ2 H2 => tu { D with nx := Pv (i + 1), ct := Pv (i + 1), bk := tz D } σ2 H2) (hd : ∀ σ' H', Pv xs.length σ' H' → tz D σ' H') :
    tSeq (tFor (iEnumT K (tCons te tNil)) g tu) tz D σ H :=
  h H (Ex.refl H) _ fun H1 e1 => ⟨a, xs, rfl, ex_t e1 hx, for_enumT (D := { D with nx := tz D }) Pv (h0 H1 e1) (fun i σ' H' hi hp => h1 i σ' H' hp) hs hd⟩
theorem q_forZT {te : TE} {ty : TA} {g : TG} {tu tz : TS} {a : Addr} {xs ys : List V} (h : Ev te σ H (.ref a)) (hx : H a = some (.tup xs)) (hy : EvA ty σ H ys) (hz : ys.length ≤ 100000) (hl : xs.length = ys.length) (Pv : Addr → Nat → L2.St → Hp → Prop)
    (h0 : ∀ p H1, Ex H H1 → H1 p = some (.tup ys) → Pv p 0 σ H1) (h1 : ∀ p i σ' H', Pv p i σ' H' → H' p = some (.tup ys) ∧ H' a = some (.tup xs))
    (hs : ∀ p i x y σ' H' T, xs[i]? = some x → ys[i]? = some y → Pv p i σ' H' → H' T = none → g (.ref T) σ' (L2.upd H' T (.tup [x, y])) fun σ2 H2 => tu { D with nx := Pv p (i + 1), ct := Pv p (i + 1), bk := tz D } σ2 H2) (hd : ∀ p σ' H', Pv p xs.length σ' H' → tz D σ' H') :
    tSeq (tFor (RZ.iZipA K (tCons te (tCons (tTup ty) tNil))) g tu) tz D σ H :=
  h H (Ex.refl H) _ fun H1 e1 => hy H1 e1 _ fun H2 e2 => ⟨sz_of hz, fun p hp =>
    have e3 : Ex H2 (L2.upd H2 p (.tup ys)) := Ex.new hp
    ⟨a, p, xs, ys, rfl, .inr ⟨st_of (e3 _ _ (e2 _ _ (e1 _ _ hx))), st_of upd_same, RZ.for_zipT (D := { D with nx := tz D }) hl (Pv p) (h0 p _ ((e1.trans e2).trans e3) upd_same) (fun i σ' H' hp' => ⟨st_of (h1 p i σ' H' hp').2, st_of (h1 p i σ' H' hp').1⟩) (fun i x y T σ' H' hx' hy' hp' hT => hs p i x y σ' H' T hx' hy' hp' hT) (hd p)⟩⟩⟩
end
end KA

namespace KA
open PySem PySem.Spec PyProof.Rows L2 Evl TL
/-! ### what a part is -/
def mlay (μ : Mem) (f p : Int) (g : Nat → Int) : Nat → Mem
  | 0 => μ
  | k + 1 => mset (mlay μ f p g k) (ix f (p + (k : Int))) (g k)
def at0 (xs : List Int) (i : Nat) : Int := xs.getD i 0
def mkinds (μ : Mem) (F : Int) : Nat → Mem := mlay μ 1 F (at0 [4, 5, 3, 2, 2])
def mcode (μ : Mem) (F : Int) (ws : List Int) : Nat → Mem := mlay μ (F + 3) 0 (at0 ws)
def capN (F : Int) (k : Nat) : Nat → Int := at0 (match k with | 0 => [4, F, 7, 0] | 1 => [3, F + 2, 7, 0] | _ => [5, F + 1, 7, 0])
def mcaps (μ : Mem) (F : Int) : Nat → Mem
  | 0 => μ
  | k + 1 => mcap (mcaps μ F k) (F * 8 + ((k : Int) + 1)) (capN F k) 1 0
def mpgs (μ : Mem) (F : Int) : Nat → Mem
  | 0 => μ
  | k + 1 => ment (mcap (mpgs μ F k) (F * 8 + ((k : Int) + 6)) (at0 [2, F + ((k : Int) + 3), 7, 0]) 1 0) (F + 2) ((k : Int) + 3 - 3) (at0 [F + ((k : Int) + 3) + 1, 3, F * 8 + ((k : Int) + 6) + 1]) 3
def thP : List Int := [10, 11, 12, 13, 14, 22, 0]
def mth (μ : Mem) (t : Int) (ws : List Int) : Nat → Mem
  | 0 => μ
  | k + 1 => mset (mth μ t ws k) (ix t (at0 thP k)) (at0 ws k)
/-- ahead of the queue -/
def mbefore (μ : Mem) (F d pr bu : Int) (ws : List Int) : Mem := mth (mpgs (mcaps (mcode (mkinds μ F 5) F ws ws.length) F 3) F 2) (F + 1) [F + 1, F + 3, pr, bu, bu, d, 1] 7
def mjoin (μ : Mem) (t : Int) : Mem := mpush μ 0 (4 + mnum μ t) (12 + mnum μ t) t
def mbegin (μ : Mem) (F d pr bu : Int) (ws : List Int) : Mem := mjoin (mbefore μ F d pr bu ws) (F + 1)
theorem getI {ws : List Int} {i : Nat} {y : V} (h : (ws.map V.int)[i]? = some y) : y = .int (at0 ws i) ∧ i < ws.length := by
  rw [List.getElem?_map] at h
  cases e : ws[i]? with
  | none => rw [e] at h; cases h
  | some z =>
    rw [e] at h
    cases h
    refine ⟨?_, (List.getElem?_eq_some_iff.mp e).1⟩
    unfold at0
    rw [List.getD_eq_getElem?_getD, e]
    rfl
section
variable {P : Program} {w : World} {K : PySem.W.Frag} {mg : Str → Option Value} {base : Heap}
def PrCap (F : Int) (k : Nat) : Pr := fun v H => ∃ t c, v = .ref t ∧ H t = some (.tup [.int ((k : Int) + 1), .ref c]) ∧ H c = some (.tup (capV (capN F k)))
theorem PrCap.mo {F : Int} {k : Nat} : Mo (PrCap F k) := fun v H H' tk ⟨t, c, e, h1, h2⟩ => ⟨t, c, e, tk _ _ h1, tk _ _ h2⟩
def PrPg (k : Nat) : Pr := fun v H => ∃ t, v = .ref t ∧ H t = some (.tup [.int ((k : Int) + 6), .int ((k : Int) + 3)])
theorem PrPg.mo {k : Nat} : Mo (PrPg k) := fun v H H' tk ⟨t, e, h1⟩ => ⟨t, e, tk _ _ h1⟩
section
variable {σ : L2.St} {H : Hp} {ta tc : TE} {ts : TA}
theorem ep_cap {F : Int} {k : Nat} (h1 : Ev ta σ H (.int ((k : Int) + 1))) (h2 : EvA ts σ H (capV (capN F k))) : EvP (tTup (tCons ta (tCons (tTup ts) tNil))) σ H (PrCap F k) := fun H1 e Q q =>
  h1 H1 e _ fun H2 e2 => eu_tup h2 (by show 4 ≤ 100000; decide) H2 (e.trans e2) _ fun c H3 hc e3 h3 => ⟨by show 2 ≤ sizeLine; decide, fun p hp =>
    have e4 : Ex H3 (L2.upd H3 p (.tup [.int ((k : Int) + 1), .ref c])) := Ex.new hp
    q _ _ ((e2.trans e3).trans e4) ⟨p, c, rfl, upd_same, e4 _ _ h3⟩⟩
theorem ep_pg {k : Nat} (h1 : Ev ta σ H (.int ((k : Int) + 6))) (h2 : Ev tc σ H (.int ((k : Int) + 3))) : EvP (tTup (tCons ta (tCons tc tNil))) σ H (PrPg k) := fun H1 e Q q =>
  eu_tup (ea_cons h1 (ea_cons h2 ea_nil)) (by show 2 ≤ 100000; decide) H1 e _ fun p H2 hp e2 h3 => q _ _ e2 ⟨p, rfl, h3⟩
end
section
variable {σ : L2.St} {H : Hp} {D : Ends} {m wl : Addr} {μ : Mem} {tm tf tp tc tz tu : TE} {tq : TS} {s x y : Int} {c : Nat → Int}
theorem s_capV {pc : Addr} (hM : MemAt K H m wl μ) (hm : Ev tm σ H (.ref m)) (hf : Ev tf σ H (.int s)) (hc : Ev tc σ H (.ref pc)) (hpc : H pc = some (.tup (capV c))) (hz : Ev tz σ H (.int x)) (hu : Ev tu σ H (.int y)) (hI : 0 ≤ s ∧ s < 256)
    (k : ∀ H', MemAt K H' m wl (mcap μ s c x y) → Fr wl H H' → D.nx σ H') : tDrop (tCall (sp_put_cap K) [] E0 (tCons tm (tCons tf (tCons tc (tCons (tC .non) (tCons tz (tCons tu tNil))))))) D σ H :=
  hm H (Ex.refl H) _ fun H1 e1 => hf H1 e1 _ fun H2 e2 => hc H2 (e1.trans e2) _ fun H3 e3 => hz H3 ((e1.trans e2).trans e3) _ fun H4 e4 => hu H4 (((e1.trans e2).trans e3).trans e4) _ fun H5 e5 =>
    have e : Ex H H5 := (((e1.trans e2).trans e3).trans e4).trans e5
    ⟨m, wl, pc, μ, s, x, y, c, rfl, hM.keep e, hI.1, hI.2, e _ _ hpc, fun H' h' f' => k H' h' ((Fr.of e).trans f')⟩
theorem q_capU (hM : MemAt K H m wl μ) (hm : Ev tm σ H (.ref m)) (hf : Ev tf σ H (.int s)) (hc : EvU tc σ H (capV c)) (hz : Ev tz σ H (.int x)) (hu : Ev tu σ H (.int y)) (hI : 0 ≤ s ∧ s < 256)
    (k : ∀ H', MemAt K H' m wl (mcap μ s c x y) → Fr wl H H' → tq D σ H') : tSeq (tDrop (tCall (sp_put_cap K) [] E0 (tCons tm (tCons tf (tCons tc (tCons (tC .non) (tCons tz (tCons tu tNil)))))))) tq D σ H :=
  hm H (Ex.refl H) _ fun H1 e1 => hf H1 e1 _ fun H2 e2 => hc H2 (e1.trans e2) _ fun pc H3 hp e3 hpc => hz H3 ((e1.trans e2).trans e3) _ fun H4 e4 => hu H4 (((e1.trans e2).trans e3).trans e4) _ fun H5 e5 =>
    have e : Ex H H5 := (((e1.trans e2).trans e3).trans e4).trans e5
    ⟨m, wl, pc, μ, s, x, y, c, rfl, hM.keep e, hI.1, hI.2, e5 _ _ (e4 _ _ hpc), fun H' h' f' => k H' h' ((Fr.of e).trans f')⟩
theorem s_entU (hM : MemAt K H m wl μ) (hm : Ev tm σ H (.ref m)) (hf : Ev tf σ H (.int s)) (hp : Ev tp σ H (.int x)) (hc : EvU tc σ H (ent3 c)) (hI : InF s ∧ 2 ≤ s ∧ 0 ≤ x ∧ x < 8) (h8 : μ (ix 1 s) ≠ 8)
    (k : ∀ H', MemAt K H' m wl (ment μ s x c 3) → Fr wl H H' → D.nx σ H') : tDrop (tCall (sp_put_entry K) [] E0 (tCons tm (tCons tf (tCons tp (tCons tc tNil))))) D σ H :=
  hm H (Ex.refl H) _ fun H1 e1 => hf H1 e1 _ fun H2 e2 => hp H2 (e1.trans e2) _ fun H3 e3 => hc H3 ((e1.trans e2).trans e3) _ fun pc H4 hq e4 hpc =>
    have e : Ex H H4 := ((e1.trans e2).trans e3).trans e4
    ⟨m, wl, pc, μ, s, x, c, rfl, hM.keep e, hI.1, hI.2.1, hI.2.2.1, hI.2.2.2, h8, hpc, fun H' h' f' => k H' h' ((Fr.of e).trans f')⟩
end
theorem ev_good {σ : L2.St} {H : Hp} {ta tb tc : TE} {x y z : Int} (ha : Ev ta σ H (.int x)) (hb : Ev tb σ H (.int y)) (hc : Ev tc σ H (.int z)) (h1 : x ≤ y) (h2 : y < z) {r r' : R2} (hr : RV r (.int x) (.int y) H (.bl (decide (x ≤ y)))) (hr' : RV r' (.int y) (.int z) H (.bl (decide (y < z)))) : Ev (tChain r r' ta tb tc) σ H (.bl true) :=
  ev_is (ev_chV ha hb hr hc hr') (by simp [h1, h2])
theorem caps3 {F : Int} {P : Pr} (h : P ∈ [PrCap F 0, PrCap F 1, PrCap F 2]) : Mo P := by
  rcases List.mem_cons.mp h with rfl | h
  · exact PrCap.mo
  rcases List.mem_cons.mp h with rfl | h
  · exact PrCap.mo
  rcases List.mem_cons.mp h with rfl | h
  · exact PrCap.mo
  cases h
theorem pgs2 {P : Pr} (h : P ∈ [PrPg 0, PrPg 1]) : Mo P := by
  rcases List.mem_cons.mp h with rfl | h
  · exact PrPg.mo
  rcases List.mem_cons.mp h with rfl | h
  · exact PrPg.mo
  cases h
theorem caps3at {F : Int} {P : Pr} {i : Nat} (h : [PrCap F 0, PrCap F 1, PrCap F 2][i]? = some P) : i < 3 ∧ P = PrCap F i := by
  match i, h with
  | 0, h => cases h; exact ⟨by decide, rfl⟩
  | 1, h => cases h; exact ⟨by decide, rfl⟩
  | 2, h => cases h; exact ⟨by decide, rfl⟩
theorem pgs2at {P : Pr} {i : Nat} (h : [PrPg 0, PrPg 1][i]? = some P) : i < 2 ∧ P = PrPg i := by
  match i, h with
  | 0, h => cases h; exact ⟨by decide, rfl⟩
  | 1, h => cases h; exact ⟨by decide, rfl⟩
structure Room6 (μ : Mem) (F : Int) : Prop where
  f2 : 2 ≤ F
  f5 : F + 5 ≤ 32
  lent : μ (ix (F + 1) 24) = 0
  tail : ∀ n : Int, 0 ≤ n → n < 8 → μ (ix 0 (12 + n)) = 0 ∨ (2 ≤ μ (ix 0 (12 + n)) - 1 ∧ μ (ix 0 (12 + n)) - 1 < 32)
/-- what is read behind the puts -/
structure Read6 (μ : Mem) (F d pr bu : Int) (ws : List Int) : Prop where
  tab : ∀ k : Nat, k < 2 → (mcap (mpgs (mcaps (mcode (mkinds μ F 5) F ws ws.length) F 3) F k) (F * 8 + ((k : Int) + 6)) (at0 [2, F + ((k : Int) + 3), 7, 0]) 1 0) (ix 1 (F + 2)) ≠ 8
  num : 0 ≤ mnum (mbefore μ F d pr bu ws) (F + 1) ∧ mnum (mbefore μ F d pr bu ws) (F + 1) < 8
  tl : (mbefore μ F d pr bu ws) (ix 0 (12 + mnum (mbefore μ F d pr bu ws) (F + 1))) ≠ 0 → InF ((mbefore μ F d pr bu ws) (ix 0 (12 + mnum (mbefore μ F d pr bu ws) (F + 1))) - 1)
def sp_begin_part (K : PySem.W.Frag) : Sp := fun vs H Q _ => ∃ (m wl pp cp : Addr) (μ : Mem) (F d pr bu : Int) (ws : List Int), vs = [.ref m, .int F, .ref pp] ∧ MemAt K H m wl μ ∧ H pp = some (.tup [.int d, .int pr, .int bu, .ref cp, .int 0]) ∧ H cp = some (.tup (ws.map V.int)) ∧ 2 ≤ F ∧ F + 5 ≤ 32 ∧
  0 ≤ d ∧ d < 2 ∧ 0 ≤ pr ∧ pr < 4 ∧ 1 ≤ bu ∧ bu ≤ 63 ∧ ws.length ≤ 64 ∧ Read6 μ F d pr bu ws ∧ ∀ H', MemAt K H' m wl (mbegin μ F d pr bu ws) → Fr wl H H' → Q .non H'
theorem ok_begin_part (T : Txt K mg) : FnOk P w K mg base CX0 5 (f_begin_part K) (fd_begin_part K) ["memory", "frame", "part"] (sp_begin_part K) := by
  refine T.fn_begin_part.ok sc_begin_part (fun vs H Q E h => ?_) (fun cdv A outer s H vs Q E hr h => ⟨_, PSs.nox (pss_cons (ps_asg (pv 2) (pg_tup (by rfl) (pgs_cons (pg_name (i := 3) sc_begin_part.nd rfl (Or.inl rfl)) (pgs_cons (pg_name (i := 4) sc_begin_part.nd rfl (Or.inl rfl)) (pgs_cons (pg_name (i := 5) sc_begin_part.nd rfl (Or.inl rfl)) (pgs_cons (pg_name (i := 6) sc_begin_part.nd rfl (Or.inl rfl)) (pgs_cons (pg_name (i := 7) sc_begin_part.nd rfl (Or.inl rfl)) pgs_nil))))))) (pss_cons (ps_set (i := 8) sc_begin_part.nd rfl (Or.inl rfl) (pe_and (pe_chain op_le op_lt pe_int (pv 3) (T.pg_DOMAINS)) (pe_and (pe_chain op_le op_lt pe_int (pv 4) (T.pg_PRIORITIES)) (pe_one (pe_chain op_le op_le pe_int (pv 5) pe_int))))) (pss_cons (ps_if (PW.pt (pw_or (pt_not (pt_val (pv 8))) (pw_or (pt_cmpR op_gt (pe_callB call_len (by rfl) T.free_len PySem.boot_len (pa_cons (pv 6) pa_nil)) (T.pg_FRAME) (nomark _)) (pw_or1 (pt_cmpR op_lt (pv 7) pe_int (nomark _)))))) (pss_one ps_never) pss_nil) (pss_cons (ps_for PassesOwn.never rfl (pi_zipR (by rfl) T.free_zip (pa_cons (pe_callTy cr_range2 (by rfl) T.free_range (by decide +kernel) (pa_cons (pv 1) (pa_cons (pe_op op_add (pv 1) (T.pg_EACH)) pa_nil))) (pa_cons (pe_tup (pa_cons (T.pg_CAPS) (pa_cons (T.pg_THREAD) (pa_cons (T.pg_TABLE) (pa_cons (T.pg_PAGE) (pa_cons (T.pg_PAGE) pa_nil)))))) pa_nil))) (pg_tup (by rfl) (pgs_cons (pg_name (i := 9) sc_begin_part.nd rfl (Or.inl rfl)) (pgs_cons (pg_name (i := 10) sc_begin_part.nd rfl (Or.inl rfl)) pgs_nil))) (pss_one (ps_expr (pe_meth (pv 0) (T.cl_Memory) (T.mt_Memory_put) (ok_Memory_put T) (hr.mono (by decide)) (T.bd_Memory_put) .nil pass0 (pa_cons (T.pg_KIND_FRAME) (pa_cons (pv 9) (pa_cons (pv 10) pa_nil))))))) (pss_cons (ps_for PassesOwn.never rfl (pi_enumT (by rfl) T.free_enumerate (pa_cons (pv 6) pa_nil)) (pg_tup (by rfl) (pgs_cons (pg_name (i := 11) sc_begin_part.nd rfl (Or.inl rfl)) (pgs_cons (pg_name (i := 12) sc_begin_part.nd rfl (Or.inl rfl)) pgs_nil))) (pss_one (ps_expr (pe_meth (pv 0) (T.cl_Memory) (T.mt_Memory_put) (ok_Memory_put T) (hr.mono (by decide)) (T.bd_Memory_put) .nil pass0 (pa_cons (pe_op op_add (pv 1) pe_int) (pa_cons (pv 11) (pa_cons (pv 12) pa_nil))))))) (pss_cons (ps_for PassesOwn.never rfl (pi_tup (pe_tup (pa_cons (pe_tup (pa_cons pe_int (pa_cons (pe_tup (pa_cons (T.pg_CAPS) (pa_cons (pv 1) (pa_cons (T.pg_ALL) (pa_cons pe_int pa_nil))))) pa_nil))) (pa_cons (pe_tup (pa_cons pe_int (pa_cons (pe_tup (pa_cons (T.pg_TABLE) (pa_cons (pe_op op_add (pv 1) pe_int) (pa_cons (T.pg_ALL) (pa_cons pe_int pa_nil))))) pa_nil))) (pa_cons (pe_tup (pa_cons pe_int (pa_cons (pe_tup (pa_cons (T.pg_THREAD) (pa_cons (pe_op op_add (pv 1) pe_int) (pa_cons (T.pg_ALL) (pa_cons pe_int pa_nil))))) pa_nil))) pa_nil))))) (pg_tup (by rfl) (pgs_cons (pg_name (i := 11) sc_begin_part.nd rfl (Or.inl rfl)) (pgs_cons (pg_name (i := 13) sc_begin_part.nd rfl (Or.inl rfl)) pgs_nil))) (pss_one (ps_expr (pe_call (ok_put_cap T) (hr.mono (by decide)) (by rfl) (T.glo_put_cap) (T.kp_put_cap) (T.bd_put_cap) .nil pass0 (pa_cons (pv 0) (pa_cons (pe_op op_add (pe_op op_mul (pv 1) (T.pg_SLOTS)) (pv 11)) (pa_cons (pv 13) (pa_cons pe_non (pa_cons pe_int (pa_cons pe_int pa_nil)))))))))) (pss_cons (ps_for PassesOwn.never rfl (pi_tup (pe_tup (pa_cons (pe_tup (pa_cons pe_int (pa_cons pe_int pa_nil))) (pa_cons (pe_tup (pa_cons pe_int (pa_cons pe_int pa_nil))) pa_nil)))) (pg_tup (by rfl) (pgs_cons (pg_name (i := 11) sc_begin_part.nd rfl (Or.inl rfl)) (pgs_cons (pg_name (i := 14) sc_begin_part.nd rfl (Or.inl rfl)) pgs_nil))) (pss_cons (ps_expr (pe_call (ok_put_cap T) (hr.mono (by decide)) (by rfl) (T.glo_put_cap) (T.kp_put_cap) (T.bd_put_cap) .nil pass0 (pa_cons (pv 0) (pa_cons (pe_op op_add (pe_op op_mul (pv 1) (T.pg_SLOTS)) (pv 11)) (pa_cons (pe_tup (pa_cons (T.pg_PAGE) (pa_cons (pe_op op_add (pv 1) (pv 14)) (pa_cons (T.pg_ALL) (pa_cons pe_int pa_nil))))) (pa_cons pe_non (pa_cons pe_int (pa_cons pe_int pa_nil)))))))) (pss_one (ps_expr (pe_call (ok_put_entry T) (hr.mono (by decide)) (by rfl) (T.glo_put_entry) (T.kp_put_entry) (T.bd_put_entry) .nil pass0 (pa_cons (pv 0) (pa_cons (pe_op op_add (pv 1) pe_int) (pa_cons (pe_op op_sub (pv 14) pe_int) (pa_cons (pe_tup (pa_cons (pe_op op_add (pe_op op_add (pv 1) (pv 14)) pe_int) (pa_cons pe_int (pa_cons (pe_op op_add (pe_op op_add (pe_op op_mul (pv 1) (T.pg_SLOTS)) (pv 11)) pe_int) pa_nil)))) pa_nil))))))))) (pss_cons (ps_set (i := 15) sc_begin_part.nd rfl (Or.inl rfl) (pe_op op_add (pv 1) pe_int)) (pss_cons (ps_set (i := 16) sc_begin_part.nd rfl (Or.inl rfl) (pe_tup (pa_cons (T.pg_T_CAPS) (pa_cons (T.pg_T_TABLE) (pa_cons (T.pg_T_PRIORITY) (pa_cons (T.pg_T_BUDGET) (pa_cons (T.pg_T_LEFT) (pa_cons (T.pg_T_DOMAIN) (pa_cons (T.pg_T_STATE) pa_nil))))))))) (pss_cons (ps_for PassesOwn.never rfl (RZ.pi_zipA (by rfl) T.free_zip (pa_cons (pv 16) (pa_cons (pe_tup (pa_cons (pe_op op_add (pv 1) pe_int) (pa_cons (pe_op op_add (pv 1) pe_int) (pa_cons (pv 4) (pa_cons (pv 5) (pa_cons (pv 5) (pa_cons (pv 3) (pa_cons (T.pg_READY) pa_nil)))))))) pa_nil))) (pg_tup (by rfl) (pgs_cons (pg_name (i := 11) sc_begin_part.nd rfl (Or.inl rfl)) (pgs_cons (pg_name (i := 12) sc_begin_part.nd rfl (Or.inl rfl)) pgs_nil))) (pss_one (ps_expr (pe_meth (pv 0) (T.cl_Memory) (T.mt_Memory_put) (ok_Memory_put T) (hr.mono (by decide)) (T.bd_Memory_put) .nil pass0 (pa_cons (pv 15) (pa_cons (pv 11) (pa_cons (pv 12) pa_nil))))))) (pss_one (ps_expr (pe_call (ok_push T) (hr.mono (by decide)) (by rfl) (T.glo_push) (T.kp_push) (T.bd_push) .nil pass0 (pa_cons (pv 0) (pa_cons (pe_call (ok_ready_place T) (hr.mono (by decide)) (by rfl) (T.glo_ready_place) (T.kp_ready_place) (T.bd_ready_place) .nil pass0 (pa_cons (pv 0) (pa_cons (pv 15) pa_nil))) (pa_cons (pv 15) pa_nil)))))))))))))))), ?_⟩)
  · obtain ⟨_, _, _, _, _, _, _, _, _, _, rfl, _⟩ := h
    rfl
  · obtain ⟨m, wl, pp, cp, μ, F, d, pr, bu, ws, rfl, hM, hpp, hcp, F2, F5, d0, d1, p0, p1, b0, b1, hw, hR, k⟩ := h
    refine ⟨_, rfl, pp, _, rfl, st_of hpp, rfl, _, _, rfl, _, _, rfl, _, _, rfl, _, _, rfl, _, _, rfl, rfl, ?_⟩
    refine q_asg (v := .bl true) (ev_is (ev_andV (a := true) (ev_good ev_c (ev_var rfl) ev_c d0 d1 rv_I0 rv_I0) fun _ => ev_andV (a := true) (ev_good ev_c (ev_var rfl) ev_c p0 p1 rv_I0 rv_I0) fun _ => ev_chV (k := decide ((1 : Int) ≤ bu)) (k' := decide (bu ≤ (63 : Int))) ev_c (ev_var rfl) rv_I0 ev_c rv_I0) (by simp [b0, b1])) fun H1 e1 => ?_
    refine q_when (b := false) (et_is (et_or (a := false) (et_is (et_not (et_B (ev_var rfl))) rfl) fun _ => et_or (a := false) (et_is (et_test (ev_op (ev_lenT (ev_var rfl) (st_of (e1 _ _ hcp))) ev_c rv_I0)) (by rw [List.length_map]; exact decide_eq_false (by omega))) fun _ => et_test (ev_op (ev_var rfl) ev_c rv_I0)) rfl) (fun h => by cases h) fun _ H2 e2 => ?_
    have e12 := e1.trans e2
    have hM2 := hM.keep e12
    refine q_forZR (lo := F) (hi := F + 5) (ys := [.int 4, .int 5, .int 3, .int 2, .int 2]) (ev_var rfl) (ev_op (ev_var rfl) ev_c rv_I0) (ea_cons ev_c (ea_cons ev_c (ea_cons ev_c (ea_cons ev_c (ea_cons ev_c ea_nil))))) (by decide) ⟨by omega, by simp, by omega⟩
      (fun p i σ' H' => ∃ x9 x10, σ' = [some (.ref m), some (.int F), some (.ref pp), some (.int d), some (.int pr), some (.int bu), some (.ref cp), some (.int 0), some (.bl true), x9, x10, none, none, none, none, none, none] ∧ H' p = some (.tup [.int 4, .int 5, .int 3, .int 2, .int 2]) ∧ MemAt K H' m wl (mkinds μ F i) ∧ Fr wl H H')
      (fun p H3 e3 hp => ⟨none, none, rfl, hp, hM2.keep e3, Fr.of (e12.trans e3)⟩) (fun p i σ' H' ⟨_, _, _, hp, _, _⟩ => hp) ?_ ?_
    · rintro p i y σ' H' t hy ⟨x9, x10, rfl, hp, hM', f'⟩ ht
      obtain ⟨rfl, hi⟩ := getI (ws := [4, 5, 3, 2, 2]) hy
      have hi5 : i < 5 := hi
      have e3 : Ex H' (L2.upd H' t (.tup [.int (F + (i : Nat)), .int (at0 [4, 5, 3, 2, 2] i)])) := Ex.new ht
      refine ⟨t, _, rfl, st_of upd_same, rfl, _, _, rfl, _, _, rfl, rfl, ?_⟩
      refine s_put (hM'.keep e3) (ev_var rfl) ev_c (ev_var rfl) (ev_var rfl) (by omega) fun H4 h4 f4 => ?_
      exact ⟨_, _, rfl, f4 _ _ (e3 _ _ hp) (ne_of hp hM'.ws (by intro z; cases z)), h4, (f'.trans (Fr.of e3)).trans f4⟩
    rintro p σ' H3 ⟨x9, x10, rfl, -, hM3, f3⟩
    have tk3 : TK H H3 := TK.fr f3 hM.ws
    refine q_forET (K := K) (a := cp) (xs := ws.map V.int) (ev_var rfl) (st_of (tk3 _ _ hcp))
      (fun i σ' H' => ∃ x11 x12, σ' = [some (.ref m), some (.int F), some (.ref pp), some (.int d), some (.int pr), some (.int bu), some (.ref cp), some (.int 0), some (.bl true), x9, x10, x11, x12, none, none, none, none] ∧ MemAt K H' m wl (mcode (mkinds μ F 5) F ws i) ∧ Fr wl H H')
      (fun H4 e4 => ⟨none, none, rfl, hM3.keep e4, f3.trans (Fr.of e4)⟩) (fun i σ' H' ⟨_, _, _, _, f'⟩ => st_of (TK.fr f' hM.ws _ _ hcp)) ?_ ?_
    · rintro i y σ' H' t hy ⟨x11, x12, rfl, hM', f'⟩ ht
      obtain ⟨rfl, hi⟩ := getI hy
      have e4 : Ex H' (L2.upd H' t (.tup [.int (i : Nat), .int (at0 ws i)])) := Ex.new ht
      refine ⟨t, _, rfl, st_of upd_same, rfl, _, _, rfl, _, _, rfl, rfl, ?_⟩
      refine s_put (hM'.keep e4) (ev_var rfl) (ev_op (ev_var rfl) ev_c rv_I0) (ev_var rfl) (ev_var rfl) (by omega) fun H5 h5 f5 => ?_
      have e0 : (0 : Int) + (i : Int) = (i : Int) := by omega
      refine ⟨_, _, rfl, ?_, (f'.trans (Fr.of e4)).trans f5⟩
      show MemAt K H5 m wl (mset (mcode (mkinds μ F 5) F ws i) (ix (F + 3) (0 + (i : Int))) (at0 ws i))
      rw [e0]
      exact h5
    rintro σ' H4 ⟨x11, x12, rfl, hM4, f4⟩
    rw [List.length_map] at hM4
    refine q_forPU (K := K) (Ps := [PrCap F 0, PrCap F 1, PrCap F 2]) (fun P hP => caps3 hP) (by show 3 ≤ 100000; decide)
      (eps_cons PrCap.mo (ep_cap (ev_is ev_c rfl) (show EvA _ _ _ [.int 4, .int F, .int 7, .int 0] from ea_cons ev_c (ea_cons (ev_var rfl) (ea_cons ev_c (ea_cons ev_c ea_nil))))) (eps_cons PrCap.mo (ep_cap (ev_is ev_c rfl) (show EvA _ _ _ [.int 3, .int (F + 2), .int 7, .int 0] from ea_cons ev_c (ea_cons (ev_op (ev_var rfl) ev_c rv_I0) (ea_cons ev_c (ea_cons ev_c ea_nil))))) (eps_cons PrCap.mo (ep_cap (ev_is ev_c rfl) (show EvA _ _ _ [.int 5, .int (F + 1), .int 7, .int 0] from ea_cons ev_c (ea_cons (ev_op (ev_var rfl) ev_c rv_I0) (ea_cons ev_c (ea_cons ev_c ea_nil))))) eps_nil)))
      fun p vs H5 e5 hp hal => ?_
    have hwl5 := (hM4.keep e5).ws
    refine ⟨fun i σ' H' => ∃ x11 x13, σ' = [some (.ref m), some (.int F), some (.ref pp), some (.int d), some (.int pr), some (.int bu), some (.ref cp), some (.int 0), some (.bl true), x9, x10, x11, x12, x13, none, none, none] ∧ MemAt K H' m wl (mcaps (mcode (mkinds μ F 5) F ws ws.length) F i) ∧ Fr wl H5 H',
      ⟨x11, none, rfl, hM4.keep e5, Fr.refl⟩, fun i σ' H' _ ⟨_, _, _, _, f'⟩ => TK.fr f' hwl5 _ _ hp, ?_, ?_⟩
    · rintro i x σ' H' hx ⟨y11, y13, rfl, hM', f'⟩
      obtain ⟨P', hP', hv⟩ := hal.at hx
      obtain ⟨hi, rfl⟩ := caps3at hP'
      obtain ⟨t, c, rfl, h1, h2⟩ := PrCap.mo _ _ _ (TK.fr f' hwl5) hv
      refine ⟨t, _, rfl, st_of h1, rfl, _, _, rfl, _, _, rfl, rfl, ?_⟩
      exact s_capV (s := F * 8 + ((i : Int) + 1)) hM' (ev_var rfl) (ev_op (ev_op (ev_var rfl) ev_c (rv_I (.inr ⟨by decide, by decide⟩))) (ev_var rfl) rv_I0) (ev_var rfl) h2 ev_c ev_c (by omega) fun H7 h7 f7 => ⟨_, _, rfl, h7, f'.trans f7⟩
    rintro σ' H6 ⟨y11, y13, rfl, hM6, f6⟩
    have hlen : vs.length = 3 := hal.len
    rw [hlen] at hM6
    have f06 : Fr wl H H6 := (f4.trans (Fr.of e5)).trans f6
    refine q_forPU (K := K) (Ps := [PrPg 0, PrPg 1]) (fun P hP => pgs2 hP) (by show 2 ≤ 100000; decide)
      (eps_cons PrPg.mo (ep_pg (ev_is ev_c rfl) (ev_is ev_c rfl)) (eps_cons PrPg.mo (ep_pg (ev_is ev_c rfl) (ev_is ev_c rfl)) eps_nil)) fun p' vs' H7 e7 hp' hal' => ?_
    have hwl7 := (hM6.keep e7).ws
    refine ⟨fun i σ' H' => ∃ x11 x14, σ' = [some (.ref m), some (.int F), some (.ref pp), some (.int d), some (.int pr), some (.int bu), some (.ref cp), some (.int 0), some (.bl true), x9, x10, x11, x12, y13, x14, none, none] ∧ MemAt K H' m wl (mpgs (mcaps (mcode (mkinds μ F 5) F ws ws.length) F 3) F i) ∧ Fr wl H7 H',
      ⟨y11, none, rfl, hM6.keep e7, Fr.refl⟩, fun i σ' H' _ ⟨_, _, _, _, f'⟩ => TK.fr f' hwl7 _ _ hp', ?_, ?_⟩
    · rintro i x σ' H' hx ⟨z11, z14, rfl, hM', f'⟩
      obtain ⟨P', hP', hv⟩ := hal'.at hx
      obtain ⟨hi, rfl⟩ := pgs2at hP'
      obtain ⟨t, rfl, h1⟩ := PrPg.mo _ _ _ (TK.fr f' hwl7) hv
      refine ⟨t, _, rfl, st_of h1, rfl, _, _, rfl, _, _, rfl, rfl, ?_⟩
      refine q_capU (s := F * 8 + ((i : Int) + 6)) (c := at0 [2, F + ((i : Int) + 3), 7, 0]) hM' (ev_var rfl) (ev_op (ev_op (ev_var rfl) ev_c (rv_I (.inr ⟨by decide, by decide⟩))) (ev_var rfl) rv_I0) (eu_tup (show EvA _ _ _ [.int 2, .int (F + ((i : Int) + 3)), .int 7, .int 0] from ea_cons ev_c (ea_cons (ev_op (ev_var rfl) (ev_var rfl) rv_I0) (ea_cons ev_c (ea_cons ev_c ea_nil)))) (by show 4 ≤ 100000; decide)) ev_c ev_c (by omega) fun H9 h9 f9 => ?_
      exact s_entU (s := F + 2) (x := (i : Int) + 3 - 3) (c := at0 [F + ((i : Int) + 3) + 1, 3, F * 8 + ((i : Int) + 6) + 1]) h9 (ev_var rfl) (ev_op (ev_var rfl) ev_c rv_I0) (ev_op (ev_var rfl) ev_c rv_I0) (eu_tup (show EvA _ _ _ [.int (F + ((i : Int) + 3) + 1), .int 3, .int (F * 8 + ((i : Int) + 6) + 1)] from ea_cons (ev_op (ev_op (ev_var rfl) (ev_var rfl) rv_I0) ev_c rv_I0) (ea_cons ev_c (ea_cons (ev_op (ev_op (ev_op (ev_var rfl) ev_c (rv_I (.inr ⟨by decide, by decide⟩))) (ev_var rfl) rv_I0) ev_c rv_I0) ea_nil))) (by show 3 ≤ 100000; decide)) (by omega) (hR.tab i hi) fun H10 h10 f10 => ⟨_, _, rfl, h10, (f'.trans f9).trans f10⟩
    rintro σ' H8 ⟨z11, z14, rfl, hM8, f8⟩
    have hlen' : vs'.length = 2 := hal'.len
    rw [hlen'] at hM8
    have f08 : Fr wl H H8 := (f06.trans (Fr.of e7)).trans f8
    refine q_asg (v := .int (F + 1)) (ev_op (ev_var rfl) ev_c rv_I0) fun H9 e9 => ?_
    refine q_asgU (xs := thP.map V.int) (eu_tup (show EvA _ _ _ [.int 10, .int 11, .int 12, .int 13, .int 14, .int 22, .int 0] from ea_cons ev_c (ea_cons ev_c (ea_cons ev_c (ea_cons ev_c (ea_cons ev_c (ea_cons ev_c (ea_cons ev_c ea_nil))))))) (by show 7 ≤ 100000; decide)) fun q H10 hq e10 hq10 => ?_
    have hM10 := hM8.keep (e9.trans e10)
    have f010 : Fr wl H H10 := f08.trans (Fr.of (e9.trans e10))
    refine q_forZT (K := K) (a := q) (xs := thP.map V.int) (ys := [F + 1, F + 3, pr, bu, bu, d, 1].map V.int) (ev_var rfl) hq10 (show EvA _ _ _ [.int (F + 1), .int (F + 3), .int pr, .int bu, .int bu, .int d, .int 1] from ea_cons (ev_op (ev_var rfl) ev_c rv_I0) (ea_cons (ev_op (ev_var rfl) ev_c rv_I0) (ea_cons (ev_var rfl) (ea_cons (ev_var rfl) (ea_cons (ev_var rfl) (ea_cons (ev_var rfl) (ea_cons ev_c ea_nil))))))) (by show 7 ≤ 100000; decide) rfl
      (fun p i σ' H' => ∃ x11 x12, σ' = [some (.ref m), some (.int F), some (.ref pp), some (.int d), some (.int pr), some (.int bu), some (.ref cp), some (.int 0), some (.bl true), x9, x10, x11, x12, y13, z14, some (.int (F + 1)), some (.ref q)] ∧ H' p = some (.tup ([F + 1, F + 3, pr, bu, bu, d, 1].map V.int)) ∧ H' q = some (.tup (thP.map V.int)) ∧ MemAt K H' m wl (mth (mpgs (mcaps (mcode (mkinds μ F 5) F ws ws.length) F 3) F 2) (F + 1) [F + 1, F + 3, pr, bu, bu, d, 1] i) ∧ Fr wl H H')
      (fun p H11 e11 hp11 => ⟨z11, x12, rfl, hp11, e11 _ _ hq10, hM10.keep e11, f010.trans (Fr.of e11)⟩) (fun p i σ' H' ⟨_, _, _, h1, h2, _⟩ => ⟨h1, h2⟩) ?_ ?_
    · rintro p2 i x y σ' H' t hx hy ⟨w11, w12, rfl, h1, h2, hM', f'⟩ ht
      obtain ⟨rfl, hi⟩ := getI (ws := thP) hx
      obtain ⟨rfl, _⟩ := getI (ws := [F + 1, F + 3, pr, bu, bu, d, 1]) hy
      have hi7 : i < 7 := hi
      have e4 : Ex H' (L2.upd H' t (.tup [.int (at0 thP i), .int (at0 [F + 1, F + 3, pr, bu, bu, d, 1] i)])) := Ex.new ht
      have hb : 0 ≤ at0 thP i ∧ at0 thP i < 64 := by
        have : i = 0 ∨ i = 1 ∨ i = 2 ∨ i = 3 ∨ i = 4 ∨ i = 5 ∨ i = 6 := by omega
        rcases this with e | e | e | e | e | e | e <;> subst e <;> decide
      refine ⟨t, _, rfl, st_of upd_same, rfl, _, _, rfl, _, _, rfl, rfl, ?_⟩
      refine s_put (hM'.keep e4) (ev_var rfl) (ev_var rfl) (ev_var rfl) (ev_var rfl) (by omega) fun H5 h5 f5 => ?_
      exact ⟨_, _, rfl, f5 _ _ (e4 _ _ h1) (ne_of h1 hM'.ws (by intro z; cases z)), f5 _ _ (e4 _ _ h2) (ne_of h2 hM'.ws (by intro z; cases z)), h5, (f'.trans (Fr.of e4)).trans f5⟩
    rintro p2 σ' H11 ⟨w11, w12, rfl, -, -, hM11, f11⟩
    have hM11 : MemAt K H11 m wl (mbefore μ F d pr bu ws) := hM11
    refine ⟨_, rfl, _, rfl, _, rfl, m, wl, _, F + 1, rfl, hM11, by omega, fun pl H12 hpl e12' hpl12 => ?_⟩
    refine ⟨_, rfl, m, wl, pl, _, 0, 4 + mnum (mbefore μ F d pr bu ws) (F + 1), 12 + mnum (mbefore μ F d pr bu ws) (F + 1), F + 1, rfl, hM11.keep e12', hpl12, by omega, ?_, ?_, hR.tl, fun H13 h13 f13 => k H13 h13 ((f11.trans (Fr.of e12')).trans f13)⟩
    · have := hR.num
      omega
    · have := hR.num
      omega
end
end KA

namespace KA
open PySem PySem.Spec PyProof.Rows L2 Evl TL
section
variable {σ : L2.St} {H : Hp} {K : PySem.W.Frag} {D : Ends}
theorem pg_tupK {X : Cx} {K : PySem.W.Frag} {es : List Expr} {k n : Nat} {pos : Pos} {t : TGs} (hK : X.K = K) (hc : X.calm = true) (h : PGs X es t) (hn : (assignEach es X.env).length = n := by rfl) (hst : (assignEach es X.env).findIdx? (·.1) = none := by rfl) : PG X (.Tuple es k pos) (gTup K n t) := by
  subst hK
  exact pg_tup hc h hn hst
theorem given_const {n : Nat} {x : V} : given n (fun _ => true) (fun _ => x) = List.replicate n x := by
  unfold given
  rw [List.filter_eq_self.mpr (fun _ _ => rfl)]
  simp [List.map_const']
theorem all_rep : ∀ n : Nat, (List.replicate n true).all id = true
  | 0 => rfl
  | n + 1 => by rw [List.replicate_succ, List.all_cons, all_rep n] <;> rfl
theorem et_truT {te : TE} {p : Addr} {xs : List V} (h : Ev te σ H (.ref p)) (hx : SqT K H p xs) : EvT (tTru K te) σ H (!xs.isEmpty) := fun H1 e Q q => h H1 e _ fun H2 e2 => ⟨!xs.isEmpty, .inr (.inl ⟨xs, ex_t (e.trans e2) hx, rfl⟩), q H2 e2⟩
theorem ev_all {ta : TE} {bs : List Bool} (h : EvL ta σ H (bs.map V.bl)) : Ev (tCB (rAll K) (tCons ta tNil)) σ H (.bl (bs.all id)) := fun H1 e Q q =>
  h H1 e _ fun p H2 hp e2 h2 => ⟨p, bs, rfl, sq_of h2, q H2 e2⟩
theorem ev_sum {ta : TE} {ns : List Int} (h : EvL ta σ H (ns.map V.int)) : Ev (tCB (rSum K) (tCons ta tNil)) σ H (.int ns.sum) := fun H1 e Q q =>
  h H1 e _ fun p H2 hp e2 h2 => ⟨p, ns, rfl, sq_of h2, q H2 e2⟩
theorem el_lcT {a : Addr} {xs : List V} {tl te : TE} {g : TG} {vs : List Nat} (v : Nat → V) (h : Ev tl σ H (.ref a)) (hx : SqT K H a xs) (hz : xs.length ≤ 40000)
    (hg : ∀ (i : Nat) (x : V) H1, Ex H H1 → xs[i]? = some x → ∀ H2, Ex H1 H2 → ∀ R : L2.St → Hp → Prop, (∀ σ2, wipe σ2 vs = wipe σ vs → Ev te σ2 H1 (v i) → R σ2 H2) → g x (wipe σ vs) H2 R) :
    EvL (tLc (iTup K tl) g (fun _ H Q => Q true H) te vs) σ H (given xs.length (fun _ => true) v) := fun H0 e Q q => h H0 e _ fun H1 e1 => ⟨a, rfl, ⟨xs, ex_t (e.trans e1) hx⟩, fun Dl hD =>
  lc_tup (xs := xs) (Cw H1 (fun _ => true) v Dl) ⟨hD, Ex.new hD, upd_same⟩ (fun i H' _ p => ex_t ((e.trans e1).trans p.2.1) hx) (fun i x H' hi p => hg i x H1 (e.trans e1) hi H' p.2.1 _ fun σ2 hw he => ⟨hw, cw_turn p (by have := (List.getElem?_eq_some_iff.mp hi).1; omega) et_yes fun _ => he⟩)
    (fun H' p => q Dl H' (fresh_back e1 p.1) (e1.trans p.2.1) p.2.2)⟩
end
end KA
namespace KA
open PySem PySem.Spec PyProof.Rows L2 Evl TL
/-! ### the boot -/
structure Part6 where
  d : Int
  pr : Int
  bu : Int
  ws : List Int
def mplan (μ : Mem) (pl : List (Int × Int)) : Nat → Mem
  | 0 => μ
  | k + 1 => mset (mplan μ pl k) (ix 0 (24 + (k : Int))) ((pl.getD k (0, 0)).1 * 256 + (pl.getD k (0, 0)).2)
def mparts (μ : Mem) (ps : List Part6) : Nat → Mem
  | 0 => μ
  | k + 1 => let p := ps.getD k ⟨0, 0, 0, []⟩; mbegin (mparts μ ps k) (2 + 5 * (k : Int)) p.d p.pr p.bu p.ws
def mboot0 (pl : List (Int × Int)) : Mem := mset (mplan m0 pl pl.length) (ix 0 2) (pl.getD 0 (0, 0)).2
def mboot (pl : List (Int × Int)) (ps : List Part6) : Mem := mparts (mboot0 pl) ps ps.length
def PlanAt (H : Hp) (a : Addr) (pl : List (Int × Int)) : Prop := ∃ vs, H a = some (.tup vs) ∧ vs.length = pl.length ∧ ∀ i v, vs[i]? = some v → ∃ t, v = .ref t ∧ H t = some (.tup [.int (pl.getD i (0, 0)).1, .int (pl.getD i (0, 0)).2])
def PartsAt (H : Hp) (a : Addr) (ps : List Part6) : Prop := ∃ vs, H a = some (.tup vs) ∧ vs.length = ps.length ∧ ∀ i v, vs[i]? = some v → ∃ t c, v = .ref t ∧ H t = some (.tup [.int (ps.getD i ⟨0, 0, 0, []⟩).d, .int (ps.getD i ⟨0, 0, 0, []⟩).pr, .int (ps.getD i ⟨0, 0, 0, []⟩).bu, .ref c, .int 0]) ∧ H c = some (.tup ((ps.getD i ⟨0, 0, 0, []⟩).ws.map V.int))
theorem PlanAt.mono {H H' : Hp} {a : Addr} {pl : List (Int × Int)} (k : TK H H') (h : PlanAt H a pl) : PlanAt H' a pl := by
  obtain ⟨vs, h1, h2, h3⟩ := h
  exact ⟨vs, k _ _ h1, h2, fun i v hv => let ⟨t, e, q⟩ := h3 i v hv; ⟨t, e, k _ _ q⟩⟩
theorem PartsAt.mono {H H' : Hp} {a : Addr} {ps : List Part6} (k : TK H H') (h : PartsAt H a ps) : PartsAt H' a ps := by
  obtain ⟨vs, h1, h2, h3⟩ := h
  exact ⟨vs, k _ _ h1, h2, fun i v hv => let ⟨t, c, e, q, r⟩ := h3 i v hv; ⟨t, c, e, k _ _ q, k _ _ r⟩⟩
structure GoodPlan (pl : List (Int × Int)) : Prop where
  len : 1 ≤ pl.length ∧ pl.length ≤ 4
  each : ∀ i : Nat, i < pl.length → 0 ≤ (pl.getD i (0, 0)).1 ∧ (pl.getD i (0, 0)).1 < 2 ∧ 1 ≤ (pl.getD i (0, 0)).2 ∧ (pl.getD i (0, 0)).2 ≤ 255
structure GoodPart (p : Part6) : Prop where
  d0 : 0 ≤ p.d
  d1 : p.d < 2
  p0 : 0 ≤ p.pr
  p1 : p.pr < 4
  b0 : 1 ≤ p.bu
  b1 : p.bu ≤ 63
  wl : p.ws.length ≤ 64
section
variable {P : Program} {w : World} {K : PySem.W.Frag} {mg : Str → Option Value} {base : Heap}
theorem s_begin {σ : L2.St} {H : Hp} {D : Ends} {m wl pp cp : Addr} {μ : Mem} {F : Int} {p : Part6} {tm tf tp : TE} (hM : MemAt K H m wl μ) (hm : Ev tm σ H (.ref m)) (hf : Ev tf σ H (.int F)) (hp : Ev tp σ H (.ref pp)) (h1 : H pp = some (.tup [.int p.d, .int p.pr, .int p.bu, .ref cp, .int 0])) (h2 : H cp = some (.tup (p.ws.map V.int))) (F2 : 2 ≤ F) (F5 : F + 5 ≤ 32) (g : GoodPart p) (r : Read6 μ F p.d p.pr p.bu p.ws)
    (k : ∀ H', MemAt K H' m wl (mbegin μ F p.d p.pr p.bu p.ws) → Fr wl H H' → D.nx σ H') : tDrop (tCall (sp_begin_part K) [] E0 (tCons tm (tCons tf (tCons tp tNil)))) D σ H :=
  hm H (Ex.refl H) _ fun H1 e1 => hf H1 e1 _ fun H2 e2 => hp H2 (e1.trans e2) _ fun H3 e3 =>
    have e : Ex H H3 := (e1.trans e2).trans e3
    ⟨m, wl, pp, cp, μ, F, p.d, p.pr, p.bu, p.ws, rfl, hM.keep e, e _ _ h1, e _ _ h2, F2, F5, g.d0, g.d1, g.p0, g.p1, g.b0, g.b1, g.wl, r, fun H' h' f' => k H' h' ((Fr.of e).trans f')⟩
def sp_booted (K : PySem.W.Frag) : Sp := fun vs H Q _ => ∃ (pa qa la ra : Addr) (pl : List (Int × Int)) (ps : List Part6), vs = [.ref pa, .ref qa, .ref la, .ref ra] ∧ PlanAt H pa pl ∧ PartsAt H qa ps ∧ H la = some (.tup []) ∧ H ra = some (.tup []) ∧ GoodPlan pl ∧ 1 ≤ ps.length ∧ ps.length ≤ 4 ∧
  (∀ i : Nat, i < ps.length → GoodPart (ps.getD i ⟨0, 0, 0, []⟩) ∧ Read6 (mparts (mboot0 pl) ps i) (2 + 5 * (i : Int)) (ps.getD i ⟨0, 0, 0, []⟩).d (ps.getD i ⟨0, 0, 0, []⟩).pr (ps.getD i ⟨0, 0, 0, []⟩).bu (ps.getD i ⟨0, 0, 0, []⟩).ws) ∧
  ∀ m wl H', H m = none → H wl = none → Ex H H' → MemAt K H' m wl (mboot pl ps) → Q (.ref m) H'
theorem ok_booted (T : Txt K mg) : FnOk P w K mg base CX0 6 (f_booted K) (fd_booted K) ["plan", "parts", "links", "lines"] (sp_booted K) := by
  refine T.fn_booted.ok sc_booted (fun vs H Q E h => ?_) (fun cdv A outer s H vs Q E hr h => ⟨_, PSs.nox (pss_cons (ps_par (i := 4) (j := 5) (by rfl) sc_booted.nd rfl rfl (by decide) rfl rfl (pa_cons (pe_make0 (T.mk_Memory) (ok_Memory_init T) (hr.mono (by decide)) (by rfl) (T.glo_Memory) (T.bd_Memory_init) .nil pass0) (pa_cons (pe_op op_add pe_int (pe_op op_mul (T.pg_EACH) (pe_callB call_len (by rfl) T.free_len PySem.boot_len (pa_cons (pv 1) pa_nil)))) pa_nil)) (by rfl)) (pss_cons (ps_if (PW.pt (pw_or (pt_not (pt_chain op_le op_le pe_int (pe_callB call_len (by rfl) T.free_len PySem.boot_len (pa_cons (pv 0) pa_nil)) (T.pg_PARTS))) (pw_or1 (pt_not (pt_val (pe_callB (cr_all rfl) (by rfl) T.free_all (by decide +kernel) (pa_cons (pe_lc (own := [("domain", 6), ("ticks", 7)]) (by rfl) sc_booted.nd (pi_tup (pv 0)) (blkOk_by (N := sc_booted_N) (sc := defScope s_booted) (own := [("domain", 6), ("ticks", 7)]) (by decide +kernel)) (fun _ _ _ _ _ => (pg_tupK (K := K) (n := 2) (by rfl) (by rfl) (pgs_cons (pg_name (i := 6) sc_booted.nd rfl (Or.inl rfl)) (pgs_cons (pg_name (i := 7) sc_booted.nd rfl (Or.inl rfl)) pgs_nil)))) (fun _ _ _ _ _ => pts_nil) (fun _ _ _ _ _ => (pe_and (pe_chain op_le op_lt pe_int (pv 6) (by exact T.pg_DOMAINS)) (pe_one (pe_chain op_le op_le pe_int (pv 7) pe_int))))) pa_nil))))))) (pss_one ps_never) pss_nil) (pss_cons (ps_for PassesOwn.never rfl (pi_enumT (by rfl) T.free_enumerate (pa_cons (pv 0) pa_nil)) (pg_tup (by rfl) (pgs_cons (pg_name (i := 8) sc_booted.nd rfl (Or.inl rfl)) (pgs_cons (pg_tup (by rfl) (pgs_cons (pg_name (i := 6) sc_booted.nd rfl (Or.inl rfl)) (pgs_cons (pg_name (i := 7) sc_booted.nd rfl (Or.inl rfl)) pgs_nil))) pgs_nil))) (pss_one (ps_expr (pe_meth (pv 4) (T.cl_Memory) (T.mt_Memory_put) (ok_Memory_put T) (hr.mono (by decide)) (T.bd_Memory_put) .nil pass0 (pa_cons (T.pg_KERNEL) (pa_cons (pe_op op_add (T.pg_K_PLAN) (pv 8)) (pa_cons (pe_op op_add (pe_op op_mul (pv 6) pe_int) (pv 7)) pa_nil))))))) (pss_cons (ps_expr (pe_meth (pv 4) (T.cl_Memory) (T.mt_Memory_put) (ok_Memory_put T) (hr.mono (by decide)) (T.bd_Memory_put) .nil pass0 (pa_cons (T.pg_KERNEL) (pa_cons (T.pg_K_LEFT) (pa_cons (pe_ix ix_tup (pe_ix ix_tup (pv 0) pe_int (fun _ _ => rfl)) pe_int (fun _ _ => rfl)) pa_nil))))) (pss_cons (ps_if (PW.pt (pw_or (pt_cmpR op_gt (pe_op op_add (pe_op op_add (pv 5) (pe_callB call_len (by rfl) T.free_len PySem.boot_len (pa_cons (pv 2) pa_nil))) (pe_callB (cr_sum rfl) (by rfl) T.free_sum (by decide +kernel) (pa_cons (pe_lc (own := [("part", 9)]) (by rfl) sc_booted.nd (pi_tup (pv 1)) (blkOk_by (N := sc_booted_N) (sc := defScope s_booted) (own := [("part", 9)]) (by decide +kernel)) (fun _ _ _ _ _ => (pg_name (i := 9) sc_booted.nd rfl (Or.inl rfl))) (fun _ _ _ _ _ => pts_nil) (fun _ _ _ _ _ => (pe_ix (r := rIxT K) (by exact ix_tup) (pv 9) pe_int (fun _ _ => rfl)))) pa_nil))) (T.pg_FRAMES) (nomark _)) (pw_or1 (pt_not (pt_truth (pv 1) (by intro _; rfl)))))) (pss_one ps_never) pss_nil) (pss_cons (ps_for PassesOwn.never rfl (pi_enumT (by rfl) T.free_enumerate (pa_cons (pv 1) pa_nil)) (pg_tup (by rfl) (pgs_cons (pg_name (i := 8) sc_booted.nd rfl (Or.inl rfl)) (pgs_cons (pg_name (i := 9) sc_booted.nd rfl (Or.inl rfl)) pgs_nil))) (pss_one (ps_expr (pe_call (ok_begin_part T) (hr.mono (by decide)) (by rfl) (T.glo_begin_part) (T.kp_begin_part) (T.bd_begin_part) .nil pass0 (pa_cons (pv 4) (pa_cons (pe_op op_add pe_int (pe_op op_mul (T.pg_EACH) (pv 8))) (pa_cons (pv 9) pa_nil))))))) (pss_cons (ps_for PassesOwn.never rfl (pi_enumT (by rfl) T.free_enumerate (pa_cons (pv 2) pa_nil)) (pg_tup (by rfl) (pgs_cons (pg_name (i := 8) sc_booted.nd rfl (Or.inl rfl)) (pgs_cons (pg_name (i := 10) sc_booted.nd rfl (Or.inl rfl)) pgs_nil))) (pss_one ps_never)) (pss_cons (ps_aug (i := 5) sc_booted.nd rfl (.inl rfl) (pe_callB call_len (by rfl) T.free_len PySem.boot_len (pa_cons (pv 2) pa_nil)) ip_add) (pss_cons (ps_for PassesOwn.never rfl (pi_enumT (by rfl) T.free_enumerate (pa_cons (pv 1) pa_nil)) (pg_tup (by rfl) (pgs_cons (pg_name (i := 8) sc_booted.nd rfl (Or.inl rfl)) (pgs_cons (pg_name (i := 9) sc_booted.nd rfl (Or.inl rfl)) pgs_nil))) (pss_one (ps_if (pt_truth (pe_ix ix_tup (pv 9) pe_int (fun _ _ => rfl)) (by intro _; rfl)) (pss_cons ps_never (pss_one ps_never)) pss_nil))) (pss_cons (ps_for PassesOwn.never rfl (pi_tup (pv 3)) (pg_tup (by rfl) (pgs_cons (pg_name (i := 11) sc_booted.nd rfl (Or.inl rfl)) (pgs_cons (pg_name (i := 8) sc_booted.nd rfl (Or.inl rfl)) (pgs_cons (pg_name (i := 12) sc_booted.nd rfl (Or.inl rfl)) pgs_nil)))) (pss_cons ps_never (pss_one ps_never))) (pss_one (ps_ret (pv 4))))))))))))), ?_⟩)
  · obtain ⟨_, _, _, _, _, _, rfl, _⟩ := h
    rfl
  · obtain ⟨pa, qa, la, ra, pl, ps, rfl, hP, hQ, hL, hR, gP, l1, l4, hG, k⟩ := h
    obtain ⟨vp, hp1, hp2, hp3⟩ := id hP
    obtain ⟨vq, hq1, hq2, hq3⟩ := id hQ
    refine fun m dx hm hdx hne => ⟨m, dx, rfl, upd_same, fun wl H1 hwl hM f1 => ⟨rfl, ?_⟩⟩
    have hwm : wl ≠ m := fun z => by rw [z, upd_same] at hwl; cases hwl
    have hwd : wl ≠ dx := fun z => by rw [z, upd_ne hne, upd_same] at hwl; cases hwl
    have hwH : H wl = none := by rw [upd_ne hwm, upd_ne hwd] at hwl; exact hwl
    have e1 : Ex H H1 := fun b o h => by
      have n1 : b ≠ m := fun z => by rw [z, hm] at h; cases h
      have n2 : b ≠ dx := fun z => by rw [z, hdx] at h; cases h
      exact f1 b o (by rw [upd_ne n1, upd_ne n2]; exact h) (by simpa using n1)
    refine (ev_op ev_c (ev_op ev_c (ev_lenT (K := K) (ev_var rfl) (st_of (e1 _ _ hq1))) (rv_I (.inl ⟨by decide, by decide⟩))) rv_I0 : Ev _ _ H1 (.int (2 + 5 * (vq.length : Int)))) H1 (Ex.refl H1) _ fun H2 e2 => ⟨_, _, rfl, ?_⟩
    have lq : (vq.length : Int) = (ps.length : Int) := by rw [hq2]
    have lp : (vp.length : Int) = (pl.length : Int) := by rw [hp2]
    have e02 := e1.trans e2
    refine q_when (b := false) (et_is (et_or (a := false) (b := false) (et_is (et_not (et_test (ev_chV ev_c (ev_lenT (K := K) (ev_var rfl) (st_of (e02 _ _ hp1))) rv_I0 ev_c rv_I0))) (by have := gP.len; rw [decide_eq_true (show (1 : Int) ≤ (vp.length : Int) by omega), decide_eq_true (show (vp.length : Int) ≤ 4 by omega)] <;> rfl)) fun _ => et_is (et_not (et_B (ev_all (K := K) (bs := List.replicate vp.length true) ?_))) (by rw [all_rep] <;> rfl)) rfl) (fun h => by cases h) fun _ H3 e3 => ?_
    · rw [List.map_replicate, ← given_const]
      refine el_lcT (K := K) (a := pa) (xs := vp) (fun _ => .bl true) (ev_var rfl) (st_of (e02 _ _ hp1)) (by have := gP.len; omega) fun i x H3 e3 hx H4 e4 R hR => ?_
      obtain ⟨t, rfl, ht⟩ := hp3 i x hx
      have hi : i < pl.length := by rw [← hp2]; exact (List.getElem?_eq_some_iff.mp hx).1
      have g := gP.each i hi
      refine ⟨t, _, rfl, st_of (e4 _ _ (e3 _ _ (e02 _ _ ht))), rfl, _, _, rfl, _, _, rfl, rfl, ?_⟩
      exact hR _ rfl (ev_is (ev_andV (a := true) (ev_good ev_c (ev_var rfl) ev_c g.1 g.2.1 rv_I0 rv_I0) fun _ => ev_chV (k := decide ((1 : Int) ≤ (pl.getD i (0, 0)).2)) (k' := decide ((pl.getD i (0, 0)).2 ≤ (255 : Int))) ev_c (ev_var rfl) rv_I0 ev_c rv_I0) (by rw [decide_eq_true g.2.2.1, decide_eq_true g.2.2.2] <;> rfl))
    have e03 := e02.trans e3
    have hM3 := hM.keep (e2.trans e3)
    have hw3 := hM3.ws
    refine q_forET (K := K) (a := pa) (xs := vp) (ev_var rfl) (st_of (e03 _ _ hp1))
      (fun i σ' H' => ∃ x6 x7 x8, σ' = [some (.ref pa), some (.ref qa), some (.ref la), some (.ref ra), some (.ref m), some (.int (2 + 5 * (vq.length : Int))), x6, x7, x8, none, none, none, none] ∧ MemAt K H' m wl (mplan m0 pl i) ∧ Fr wl H3 H')
      (fun H4 e4 => ⟨none, none, none, rfl, hM3.keep e4, Fr.of e4⟩) (fun i σ' H' ⟨_, _, _, _, _, f'⟩ => st_of (TK.fr f' hw3 _ _ (e03 _ _ hp1))) ?_ ?_
    · rintro i y σ' H' t hy ⟨x6, x7, x8, rfl, hM', f'⟩ ht
      obtain ⟨u, rfl, hu⟩ := hp3 i y hy
      have hi : i < pl.length := by rw [← hp2]; exact (List.getElem?_eq_some_iff.mp hy).1
      have l4 := gP.len
      have hu' := TK.fr f' hw3 _ _ (e03 _ _ hu)
      have e4 : Ex H' (L2.upd H' t (.tup [.int (i : Nat), .ref u])) := Ex.new ht
      refine ⟨t, _, rfl, st_of upd_same, rfl, _, _, rfl, _, _, rfl, u, _, rfl, st_of (e4 _ _ hu'), rfl, _, _, rfl, _, _, rfl, rfl, rfl, ?_⟩
      exact s_put (hM'.keep e4) (ev_var rfl) ev_c (ev_op ev_c (ev_var rfl) rv_I0) (ev_op (ev_op (ev_var rfl) ev_c (rv_I (.inr ⟨by decide, by decide⟩))) (ev_var rfl) rv_I0) (by omega) fun H5 h5 f5 => ⟨_, _, _, rfl, h5, (f'.trans (Fr.of e4)).trans f5⟩
    rintro σ' H4 ⟨x6, x7, x8, rfl, hM4, f4⟩
    rw [hp2] at hM4
    have tk4 : TK H H4 := (TK.ex e03).trans (TK.fr f4 hw3)
    have hM4w := hM4.ws
    obtain ⟨v0, hv0⟩ : ∃ v0, vp[0]? = some v0 := ⟨vp[0]'(by have := gP.len; omega), List.getElem?_eq_getElem _⟩
    obtain ⟨t0, rfl, ht0⟩ := hp3 0 v0 hv0
    refine q_put hM4 (ev_var rfl) ev_c ev_c (ev_op (ev_op (ev_var rfl) ev_c (Evl.rv_ixT (st_of (tk4 _ _ hp1)) (atI_nat (j := 0) hv0))) ev_c (Evl.rv_ixT (st_of (tk4 _ _ ht0)) (atI_nat (j := 1) rfl))) (by omega) fun H5 hM5 f5 => ?_
    have hM5 : MemAt K H5 m wl (mboot0 pl) := hM5
    have tk5 : TK H H5 := tk4.trans (TK.fr f5 hM4w)
    refine q_when (b := false) (et_is (et_or (a := false) (b := false) (et_is (et_test (ev_op (ev_op (ev_op (ev_var rfl) (ev_lenT (K := K) (ev_var rfl) (st_of (tk5 _ _ hL))) rv_I0) (ev_sum (K := K) (ns := List.replicate vq.length 0) ?_) rv_I0) ev_c rv_I0)) ?_) fun _ => et_is (et_not (et_truT (K := K) (ev_var rfl) (st_of (tk5 _ _ hq1)))) ?_) rfl) (fun h => by cases h) fun _ H6 e6 => ?_
    · rw [List.map_replicate, ← given_const]
      refine el_lcT (K := K) (a := qa) (xs := vq) (fun _ => .int 0) (ev_var rfl) (st_of (tk5 _ _ hq1)) (by omega) fun i x H6 e6 hx H7 e7 R hR => ?_
      obtain ⟨t, c, rfl, ht, hc⟩ := hq3 i x hx
      exact hR _ rfl (ev_op (ev_var rfl) ev_c (Evl.rv_ixT (st_of (e6 _ _ (tk5 _ _ ht))) (atI_nat (j := 4) rfl)))
    · have hs0 : ∀ n : Nat, (List.replicate n (0 : Int)).sum = 0 := fun n => by
        induction n with
        | zero => rfl
        | succ n ih => rw [List.replicate_succ, List.sum_cons, ih] <;> rfl
      rw [hs0]
      exact decide_eq_false (by show ¬ (2 + 5 * (vq.length : Int) + ((([] : List V).length : Nat) : Int) + 0 > 32); rw [List.length_nil]; omega)
    · cases vq with
      | nil => simp at hq2; omega
      | cons a b => rfl
    have hM6 := hM5.keep e6
    have hM6w := hM6.ws
    have tk6 : TK H H6 := tk5.trans (TK.ex e6)
    have f6 : Fr wl H3 H6 := (f4.trans f5).trans (Fr.of e6)
    refine q_forET (K := K) (a := qa) (xs := vq) (ev_var rfl) (st_of (tk6 _ _ hq1))
      (fun i σ' H' => ∃ x8 x9, σ' = [some (.ref pa), some (.ref qa), some (.ref la), some (.ref ra), some (.ref m), some (.int (2 + 5 * (vq.length : Int))), x6, x7, x8, x9, none, none, none] ∧ MemAt K H' m wl (mparts (mboot0 pl) ps i) ∧ Fr wl H6 H')
      (fun H7 e7 => ⟨x8, none, rfl, hM6.keep e7, Fr.of e7⟩) (fun i σ' H' ⟨_, _, _, _, f'⟩ => st_of (TK.fr f' hM6w _ _ (tk6 _ _ hq1))) ?_ ?_
    · rintro i y σ' H' t hy ⟨y8, y9, rfl, hM', f'⟩ ht
      obtain ⟨u, c, rfl, hu, hc⟩ := hq3 i y hy
      have hi : i < ps.length := by rw [← hq2]; exact (List.getElem?_eq_some_iff.mp hy).1
      obtain ⟨g, hR6⟩ := hG i hi
      have tk' : TK H H' := tk6.trans (TK.fr f' hM6w)
      have e4 : Ex H' (L2.upd H' t (.tup [.int (i : Nat), .ref u])) := Ex.new ht
      refine ⟨t, _, rfl, st_of upd_same, rfl, _, _, rfl, _, _, rfl, rfl, ?_⟩
      exact s_begin (hM'.keep e4) (ev_var rfl) (ev_op ev_c (ev_op ev_c (ev_var rfl) (rv_I (.inl ⟨by decide, by decide⟩))) rv_I0) (ev_var rfl) (e4 _ _ (tk' _ _ hu)) (e4 _ _ (tk' _ _ hc)) (by omega) (by omega) g hR6 fun H8 h8 f8 => ⟨_, _, rfl, h8, (f'.trans (Fr.of e4)).trans f8⟩
    rintro σ' H7 ⟨y8, y9, rfl, hM7, f7⟩
    rw [hq2] at hM7
    have hM7 : MemAt K H7 m wl (mboot pl ps) := hM7
    have f37 : Fr wl H3 H7 := f6.trans f7
    have eH7 : Ex H H7 := fun b o h => f37 b o (e03 b o h) fun z => by rw [z, hwH] at h; cases h
    refine q_forET (K := K) (a := la) (xs := []) (ev_var rfl) (st_of (eH7 _ _ hL))
      (fun i σ' H' => σ' = [some (.ref pa), some (.ref qa), some (.ref la), some (.ref ra), some (.ref m), some (.int (2 + 5 * (vq.length : Int))), x6, x7, y8, y9, none, none, none] ∧ Ex H7 H')
      (fun H8 e8 => ⟨rfl, e8⟩) (fun i σ' H' ⟨_, e⟩ => st_of (e _ _ (eH7 _ _ hL))) (fun i y σ' H' t hy => by cases hy) ?_
    rintro σ' H8 ⟨rfl, e8⟩
    have eH8 := eH7.trans e8
    refine q_aug (a := 2 + 5 * (vq.length : Int)) (b := (([] : List V).length : Nat)) rfl (ev_lenT (K := K) (ev_var rfl) (st_of (eH8 _ _ hL))) fun H9 e9 => ?_
    have eH9 := eH8.trans e9
    refine q_forET (K := K) (a := qa) (xs := vq) (ev_var rfl) (st_of (eH9 _ _ hq1))
      (fun i σ' H' => ∃ x5 x8 x9, σ' = [some (.ref pa), some (.ref qa), some (.ref la), some (.ref ra), some (.ref m), x5, x6, x7, x8, x9, none, none, none] ∧ Ex H9 H')
      (fun H10 e10 => ⟨_, _, _, rfl, e10⟩) (fun i σ' H' ⟨_, _, _, _, e⟩ => st_of (e _ _ (eH9 _ _ hq1))) ?_ ?_
    · rintro i y σ' H' t hy ⟨x5, z8, z9, rfl, e'⟩ ht
      obtain ⟨u, c, rfl, hu, hc⟩ := hq3 i y hy
      have e4 : Ex H' (L2.upd H' t (.tup [.int (i : Nat), .ref u])) := Ex.new ht
      refine ⟨t, _, rfl, st_of upd_same, rfl, _, _, rfl, _, _, rfl, rfl, ?_⟩
      exact s_when (b := false) (et_is (et_truI (K := K) (n := 0) (ev_op (ev_var rfl) ev_c (Evl.rv_ixT (st_of (e4 _ _ (e' _ _ (eH9 _ _ hu)))) (atI_nat (j := 4) rfl)))) rfl) (fun h => by cases h) fun _ H10 e10 => ⟨_, _, _, rfl, (e'.trans e4).trans e10⟩
    rintro σ' H10 ⟨x5, z8, z9, rfl, e10⟩
    have eH10 := eH9.trans e10
    refine q_forT (K := K) (a := ra) (xs := []) (ev_var rfl) (st_of (eH10 _ _ hR))
      (fun i σ' H' => σ' = [some (.ref pa), some (.ref qa), some (.ref la), some (.ref ra), some (.ref m), x5, x6, x7, z8, z9, none, none, none] ∧ Ex H10 H')
      (fun H11 e11 => ⟨rfl, e11⟩) (fun i σ' H' _ ⟨_, e⟩ => st_of (e _ _ (eH10 _ _ hR))) (fun i y σ' H' hy => by cases hy) ?_
    rintro σ' H11 ⟨rfl, e11⟩
    exact s_ret (ev_var rfl) fun H12 e12 => k m wl H12 hm hwH ((eH10.trans e11).trans e12) (hM7.keep ((((e8.trans e9).trans e10).trans e11).trans e12))
end
end KA

namespace KA
open PySem PySem.Spec PyProof.Rows L2 Evl TL
/-! ### a machine made -/
section
variable {P : Program} {w : World} {K : PySem.W.Frag} {mg : Str → Option Value} {base : Heap}
section
variable {σ : L2.St} {H : Hp} {D : Ends}
theorem q_fldV {ta tv : TE} {tz : TS} {a C dx : Addr} {fs : List (Str × V)} {f : Str} {v : V} (hv : Ev tv σ H v) (ha : Ev ta σ H (.ref a)) (h : H a = some (.ins C dx fs)) (c : Cls K C) (n : NoAttr K C f) (hl : fs.length < 1000)
    (k : ∀ H1, Ex H H1 → tz D σ (L2.upd H1 a (.ins C dx (putF f v fs)))) : tSeq (sFld K ta tv f) tz D σ H := hv H (Ex.refl H) _ fun H1 e1 => ha H1 e1 _ fun H2 e2 =>
  ⟨a, C, dx, fs, rfl, (e1.trans e2) _ _ h, c, n, hl, k H2 (e1.trans e2)⟩
end
def sp_Machine_init (K : PySem.W.Frag) : Sp := fun vs H Q _ => ∃ (mc m dx : Addr), vs = [.ref mc, .ref m, .int 4] ∧ H mc = some (.ins (CMa K) dx []) ∧
  ∀ (kl cl : Addr) H', H kl = none → H cl = none → kl ≠ cl → H' mc = some (.ins (CMa K) dx [("_memory", .ref m), ("_most", .int 4), ("_kept", .ref kl), ("_counts", .ref cl)]) → H' kl = some (.lst []) → H' cl = some (.lst [.int 0, .int 0]) → FS [mc] H H' → Q .non H'
theorem ok_Machine_init (T : Txt K mg) : FnOk P w K mg base CX0 1 (f_Machine_init K) (fd_Machine_init K) ["self", "memory", "most"] (sp_Machine_init K) := by
  refine T.fn_Machine_init.ok sc_Machine_init (fun vs H Q E h => ?_) (fun cdv A outer s H vs Q E hr h => ⟨_, PSs.nox (pss_cons (ps_fld (pv 0) (pv 1) rfl) (pss_cons (ps_fld (pv 0) (pv 2) rfl) (pss_cons (ps_fld (pv 0) (pe_lst pa_nil) rfl) (pss_one (ps_fld (pv 0) (pe_lst (pa_cons pe_int (pa_cons pe_int pa_nil))) rfl))))), ?_⟩)
  · obtain ⟨_, _, _, rfl, _⟩ := h
    rfl
  · obtain ⟨mc, m, dx, rfl, hm, k⟩ := h
    refine q_fldV (ev_var rfl) (ev_var rfl) hm T.cl_Machine T.no_Machine_memory (by decide) fun H1 e1 => ?_
    have f1 : FS [mc] H (upd H1 mc (.ins (CMa K) dx (putF "_memory" (.ref m) []))) := (FS.of e1).trans (FS.put (by simp))
    have h1 : (upd H1 mc (.ins (CMa K) dx (putF "_memory" (.ref m) []))) mc = some (.ins (CMa K) dx [("_memory", .ref m)]) := upd_same
    generalize upd H1 mc (.ins (CMa K) dx (putF "_memory" (.ref m) [])) = G1 at f1 h1 ⊢
    refine q_fldV (ev_var rfl) (ev_var rfl) h1 T.cl_Machine T.no_Machine_most (by show 1 < 1000; decide) fun H2 e2 => ?_
    have f2 : FS [mc] H (upd H2 mc (.ins (CMa K) dx (putF "_most" (.int 4) [("_memory", .ref m)]))) := (f1.trans (FS.of e2)).trans (FS.put (by simp))
    have h2 : (upd H2 mc (.ins (CMa K) dx (putF "_most" (.int 4) [("_memory", .ref m)]))) mc = some (.ins (CMa K) dx [("_memory", .ref m), ("_most", .int 4)]) := upd_same
    generalize upd H2 mc (.ins (CMa K) dx (putF "_most" (.int 4) [("_memory", .ref m)])) = G2 at f2 h2 ⊢
    refine q_fldL (xs := []) (el_lst ea_nil (by decide)) (ev_var rfl) h2 T.cl_Machine T.no_Machine_kept (by show 2 < 1000; decide) fun kl H3 hkl e3 h3 => ?_
    have hklH : H kl = none := by
      cases z : H kl with
      | none => rfl
      | some o =>
        have n : kl ≠ mc := fun q => by rw [q, h2] at hkl; cases hkl
        rw [f2 kl o z (by simpa using n)] at hkl
        cases hkl
    have nk : kl ≠ mc := fun q => by rw [q, h2] at hkl; cases hkl
    have f3 : FS [mc] H (upd H3 mc (.ins (CMa K) dx (putF "_kept" (.ref kl) [("_memory", .ref m), ("_most", .int 4)]))) := (f2.trans (FS.of e3)).trans (FS.put (by simp))
    have h3m : (upd H3 mc (.ins (CMa K) dx (putF "_kept" (.ref kl) [("_memory", .ref m), ("_most", .int 4)]))) mc = some (.ins (CMa K) dx [("_memory", .ref m), ("_most", .int 4), ("_kept", .ref kl)]) := upd_same
    have h3k : (upd H3 mc (.ins (CMa K) dx (putF "_kept" (.ref kl) [("_memory", .ref m), ("_most", .int 4)]))) kl = some (.lst []) := by rw [upd_ne nk]; exact h3
    generalize upd H3 mc (.ins (CMa K) dx (putF "_kept" (.ref kl) [("_memory", .ref m), ("_most", .int 4)])) = G3 at f3 h3m h3k ⊢
    refine s_fldL (xs := [.int 0, .int 0]) (el_lst (ea_cons ev_c (ea_cons ev_c ea_nil)) (by show 2 ≤ 100000; decide)) (ev_var rfl) h3m T.cl_Machine T.no_Machine_counts (by show 3 < 1000; decide) fun cl H4 hcl e4 h4 => ?_
    have nc : cl ≠ mc := fun q => by rw [q, h3m] at hcl; cases hcl
    have nkc : kl ≠ cl := fun q => by rw [← q, h3k] at hcl; cases hcl
    have hclH : H cl = none := by
      cases z : H cl with
      | none => rfl
      | some o =>
        rw [f3 cl o z (by simpa using nc)] at hcl
        cases hcl
    exact k kl cl _ hklH hclH nkc upd_same (by rw [upd_ne nk]; exact e4 _ _ h3k) (by rw [upd_ne nc]; exact h4) ((f3.trans (FS.of e4)).trans (FS.put (by simp)))
end
end KA

namespace KQ
open KA
open PySem PySem.Spec PyProof.Rows L2 Evl TL
/-! ### readers -/
section
variable {σ : L2.St} {H : Hp} {t : TT} {te : TE}
/-- a list comprehension over range(lo, hi) -/
theorem el_lcR2 {ta : TA} {j : Nat} {vs : List Nat} {lo hi : Int} {n : Nat} (f : Nat → Bool) (v : Nat → V) (h : EvA ta σ H [.int lo, .int hi]) (hn : hi = lo + (n : Int) ∧ n ≤ 40000 ∧ -100000 ≤ lo ∧ lo ≤ 100000) (hw : ∀ x, wipe ((wipe σ vs).set j (some x)) vs = wipe σ vs)
    (ht : ∀ (i : Nat) H1, Ex H H1 → i < n → EvT t ((wipe σ vs).set j (some (.int (lo + (i : Int))))) H1 (f i)) (he : ∀ (i : Nat) H1, Ex H H1 → i < n → f i = true → Ev te ((wipe σ vs).set j (some (.int (lo + (i : Int))))) H1 (v i)) :
    EvL (tLc (iRng2 ta) (gName j) t te vs) σ H (given n f v) := fun H0 e Q q => h H0 e _ fun H1 e1 => ⟨lo, hi, rfl, ⟨by omega, by omega, by omega, by omega⟩, fun Dl hD => by
  have en : (hi - lo).toNat = n := by omega
  rw [en]
  exact lc_range (lo := lo) (n := n) (Cw H1 f v Dl) ⟨hD, Ex.new hD, upd_same⟩ (fun i H' hi p => ⟨hw _, cw_turn p (by omega) (ht i H1 (e.trans e1) hi) (fun hf => he i H1 (e.trans e1) hi hf)⟩) (fun H' p => q Dl H' (fresh_back e1 p.1) (e1.trans p.2.1) p.2.2)⟩
end
section
variable {σ : L2.St} {H : Hp} {K : PySem.W.Frag} {D : Ends} {ta tb tc : TE} {tz : TS} {i j l : Nat} {u v w : V}
theorem eu_is {te : TE} {σ : L2.St} {H : Hp} {xs ys : List V} (h : EvU te σ H xs) (e : xs = ys) : EvU te σ H ys := e ▸ h
theorem el_is {te : TE} {σ : L2.St} {H : Hp} {xs ys : List V} (h : EvL te σ H xs) (e : xs = ys) : EvL te σ H ys := e ▸ h
/-- a, b = e, f through a tuple -/
theorem q_unp2 (ha : Ev ta σ H v) (hb : Ev tb σ H w) (k : ∀ H1, Ex H H1 → tz D ((σ.set i (some v)).set j (some w)) H1) : tSeq (tAsg (tTup (tCons ta (tCons tb tNil))) (gTup K 2 (gCons (gName i) (gCons (gName j) gNil)))) tz D σ H :=
  (eu_tup (ea_cons ha (ea_cons hb ea_nil)) (by show 2 ≤ 100000; decide) : EvU _ σ H [v, w]) H (Ex.refl H) (fun x H1 => gTup K 2 (gCons (gName i) (gCons (gName j) gNil)) x σ H1 (tz D)) fun t H1 ht e1 h1 => ⟨t, _, rfl, st_of h1, rfl, _, _, rfl, _, _, rfl, rfl, k H1 e1⟩
theorem q_parLV {xs : List V} (ha : EvL ta σ H xs) (hb : ∀ H1, Ex H H1 → Ev tb σ H1 w) (k : ∀ p H1, H p = none → Ex H H1 → H1 p = some (.lst xs) → tz D ((σ.set i (some (.ref p))).set j (some w)) H1) : tSeq (tPar i j (tCons ta (tCons tb tNil))) tz D σ H :=
  ha H (Ex.refl H) (fun x H1 => tCons tb tNil σ H1 fun vs H2 => ∃ v w, x :: vs = [v, w] ∧ tz D ((σ.set i (some v)).set j (some w)) H2) fun p H1 hp e1 h1 => hb H1 e1 H1 (Ex.refl H1) (fun y H2 => ∃ v w, [V.ref p, y] = [v, w] ∧ tz D ((σ.set i (some v)).set j (some w)) H2) fun H2 e2 => ⟨_, _, rfl, k p H2 hp (e1.trans e2) (e2 _ _ h1)⟩
theorem q_unp3 (ha : Ev ta σ H u) (hb : Ev tb σ H v) (hc : Ev tc σ H w) (k : ∀ H1, Ex H H1 → tz D (((σ.set i (some u)).set j (some v)).set l (some w)) H1) : tSeq (tAsg (tTup (tCons ta (tCons tb (tCons tc tNil)))) (gTup K 3 (gCons (gName i) (gCons (gName j) (gCons (gName l) gNil))))) tz D σ H :=
  (eu_tup (ea_cons ha (ea_cons hb (ea_cons hc ea_nil))) (by show 3 ≤ 100000; decide) : EvU _ σ H [u, v, w]) H (Ex.refl H) (fun x H1 => gTup K 3 (gCons (gName i) (gCons (gName j) (gCons (gName l) gNil))) x σ H1 (tz D)) fun t H1 ht e1 h1 => ⟨t, _, rfl, st_of h1, rfl, _, _, rfl, _, _, rfl, _, _, rfl, rfl, k H1 e1⟩
end
def fld (μ : Mem) (s p : Int) : Int := μ (s * 8 + p).toNat
section
variable {P : Program} {w : World} {K : PySem.W.Frag} {mg : Str → Option Value} {base : Heap}
def sp_field (K : PySem.W.Frag) : Sp := fun vs H Q _ => ∃ (m wl : Addr) (μ : Mem) (s p : Int), vs = [.ref m, .int s, .int p] ∧ MemAt K H m wl μ ∧ 0 ≤ s ∧ s < 256 ∧ 0 ≤ p ∧ p < 8 ∧ ∀ H', Ex H H' → Q (.int (fld μ s p)) H'
theorem ok_field (T : Txt K mg) : FnOk P w K mg base CX0 2 (f_field K) (fd_field K) ["memory", "slot", "place"] (sp_field K) := by
  refine T.fn_field.ok sc_field (fun vs H Q E h => ?_) (fun cdv A outer s H vs Q E hr h => ⟨_, PSs.nox (pss_one (ps_ret (pe_meth (pv 0) (T.cl_Memory) (T.mt_Memory_word) (ok_Memory_word T) (hr.mono (by decide)) (T.bd_Memory_word) .nil pass0 (pa_cons (pe_op op_fdiv (pv 1) (T.pg_SLOTS)) (pa_cons (pe_op op_add (pe_op op_mul (pe_op op_mod (pv 1) (T.pg_SLOTS)) pe_int) (pv 2)) pa_nil))))), ?_⟩)
  · obtain ⟨_, _, _, _, _, rfl, _⟩ := h
    rfl
  · obtain ⟨m, wl, μ, s0, p, rfl, hM, h1, h2, h3, h4, k⟩ := h
    refine s_ret (v := .int (fld μ s0 p)) (ev_is (ev_word hM (ev_var rfl) (ev_div (ev_var rfl) ev_c ⟨by decide, by decide⟩) (ev_op (ev_op (ev_mod (ev_var rfl) ev_c (by decide)) ev_c (rv_I (.inr ⟨by decide, by decide⟩))) (ev_var rfl) rv_I0) (by omega)) ?_) k
    unfold fld
    rw [ix_slot]
section
variable {σ : L2.St} {H : Hp} {D : Ends} {m wl : Addr} {μ : Mem} {tm tf tp : TE} {tz : TS} {f p s : Int}
theorem ev_field (hM : MemAt K H m wl μ) (hm : Ev tm σ H (.ref m)) (hf : Ev tf σ H (.int s)) (hp : Ev tp σ H (.int p)) (h : 0 ≤ s ∧ s < 256 ∧ 0 ≤ p ∧ p < 8) : Ev (tCall (sp_field K) [] E0 (tCons tm (tCons tf (tCons tp tNil)))) σ H (.int (fld μ s p)) :=
  ev_pure (ea_cons hm (ea_cons hf (ea_cons hp ea_nil))) fun H1 e Q q => ⟨m, wl, μ, s, p, rfl, hM.keep e, h.1, h.2.1, h.2.2.1, h.2.2.2, q⟩
end
def capF (μ : Mem) (s : Int) : List V := [.int (fld μ s 0), .int (fld μ s 1), .int (fld μ s 2), .int (fld μ s 3)]
def sp_cap_at (K : PySem.W.Frag) : Sp := fun vs H Q _ => ∃ (m wl : Addr) (μ : Mem) (s : Int), vs = [.ref m, .int s] ∧ MemAt K H m wl μ ∧ 0 ≤ s ∧ s < 256 ∧ ∀ p H', H p = none → Ex H H' → H' p = some (.tup (capF μ s)) → Q (.ref p) H'
theorem ok_cap_at (T : Txt K mg) : FnOk P w K mg base CX0 2 (f_cap_at K) (fd_cap_at K) ["memory", "slot"] (sp_cap_at K) := by
  refine T.fn_cap_at.ok sc_cap_at (fun vs H Q E h => ?_) (fun cdv A outer s H vs Q E hr h => ⟨_, PSs.nox (pss_cons (ps_asg (pe_tup (pa_cons (pe_op op_fdiv (pv 1) (T.pg_SLOTS)) (pa_cons (pe_op op_mul (pe_op op_mod (pv 1) (T.pg_SLOTS)) pe_int) pa_nil))) (pg_tup (by rfl) (pgs_cons (pg_name (i := 2) sc_cap_at.nd rfl (by first | exact Or.inr rfl | exact Or.inl rfl)) (pgs_cons (pg_name (i := 3) sc_cap_at.nd rfl (by first | exact Or.inr rfl | exact Or.inl rfl)) pgs_nil)))) (pss_one (ps_ret (pe_callTy call_tuple_of (by rfl) T.free_tuple (by decide +kernel) (pa_cons (pe_lc (own := [("k", 4)]) (by rfl) sc_cap_at.nd (pi_range1 (by rfl) T.free_range (pa_cons pe_int pa_nil)) (blkOk_by (N := sc_cap_at_N) (sc := defScope s_cap_at) (own := [("k", 4)]) (by decide +kernel)) (fun _ _ _ _ _ => (pg_name (i := 4) sc_cap_at.nd rfl (Or.inl rfl))) (fun _ _ _ _ _ => pts_nil) (fun _ _ _ _ _ => (pe_meth (pv 0) (T.cl_Memory) (T.mt_Memory_word) (ok_Memory_word T) (hr.mono (by decide)) (T.bd_Memory_word) .nil pass0 (pa_cons (pv 2) (pa_cons (pe_op op_add (pv 3) (pv 4)) pa_nil))))) pa_nil))))), ?_⟩)
  · obtain ⟨_, _, _, _, rfl, _⟩ := h
    rfl
  · obtain ⟨m, wl, μ, s0, rfl, hM, h1, h2, k⟩ := h
    refine q_unp2 (v := .int (s0 / 8)) (w := .int (s0 % 8 * 8)) (ev_div (ev_var rfl) ev_c ⟨by decide, by decide⟩) (ev_op (ev_mod (ev_var rfl) ev_c (by decide)) ev_c (rv_I (.inr ⟨by decide, by decide⟩))) fun H1 e1 => ?_
    refine s_retU (eu_tupNL (K := K) (xs := capF μ s0) ?_) fun p H2 hp e2 h3 => k p H2 (fresh_back e1 hp) (e1.trans e2) h3
    refine el_lcR1 (n := 4) (fun _ => true) (fun i => .int (fld μ s0 (i : Int))) (ea_cons ev_c ea_nil) (by decide) (fun x => rfl) (fun i H2 e2 hi => et_yes) (fun i H2 e2 hi _ => ev_is (ev_word (hM.keep (e1.trans e2)) (ev_var rfl) (ev_var rfl) (ev_op (ev_var rfl) (ev_var rfl) rv_I0) (by omega)) ?_)
    unfold fld
    rw [ix_slot]
def sp_entries_of (K : PySem.W.Frag) : Sp := fun vs H Q _ => ∃ (m wl : Addr) (μ : Mem) (f : Int), vs = [.ref m, .int f] ∧ MemAt K H m wl μ ∧ InF f ∧ ∀ H', Ex H H' → Q (.int (if μ (ix 1 f) = 8 then 4 else 8)) H'
theorem ok_entries_of (T : Txt K mg) : FnOk P w K mg base CX0 3 (f_entries_of K) (fd_entries_of K) ["memory", "frame"] (sp_entries_of K) := by
  refine T.fn_entries_of.ok sc_entries_of (fun vs H Q E h => ?_) (fun cdv A outer s H vs Q E hr h => ⟨_, PSs.nox (pss_one (ps_ret (pe_ifExp (pt_cmpR op_eq (pe_call (ok_kind_of T) (hr.mono (by decide)) (by rfl) (T.glo_kind_of) (T.kp_kind_of) (T.bd_kind_of) .nil pass0 (pa_cons (pv 0) (pa_cons (pv 1) pa_nil))) (T.pg_DEVICE) (nomark _)) (T.pg_GUARDED) (T.pg_ENTRIES)))), ?_⟩)
  · obtain ⟨_, _, _, _, rfl, _⟩ := h
    rfl
  · obtain ⟨m, wl, μ, f, rfl, hM, hI, k⟩ := h
    refine s_ret (ev_if (b := decide (μ (ix 1 f) = 8)) (et_is (et_test (ev_op (ev_kind hM (ev_var rfl) (ev_var rfl) hI) ev_c (rv_eq rfl))) ?_) (fun hb => ev_is ev_c (by rw [if_pos (of_decide_eq_true hb)])) (fun hb => ev_is ev_c (by rw [if_neg (of_decide_eq_false hb)]))) k
    by_cases h : μ (ix 1 f) = 8
    · rw [h, decide_eq_true rfl, decide_eq_true rfl]
    · rw [decide_eq_false h, decide_eq_false fun z => h (V.int.inj z)]
/-- entry_at, entry, put_entry of any frame -/
def eat (μ : Mem) (f p : Int) : Int := p * 4 + (if μ (ix 1 f) = 8 then 8 else 0)
def sp_entry_at (K : PySem.W.Frag) : Sp := fun vs H Q _ => ∃ (m wl : Addr) (μ : Mem) (f p : Int), vs = [.ref m, .int f, .int p] ∧ MemAt K H m wl μ ∧ InF f ∧ ∀ H', Ex H H' → Q (.int (eat μ f p)) H'
theorem ok_entry_at (T : Txt K mg) : FnOk P w K mg base CX0 3 (f_entry_at K) (fd_entry_at K) ["memory", "frame", "page"] (sp_entry_at K) := by
  refine T.fn_entry_at.ok sc_entry_at (fun vs H Q E h => ?_) (fun cdv A outer s H vs Q E hr h => ⟨_, PSs.nox (pss_one (ps_ret (pe_op op_add (pe_op op_mul (pv 2) pe_int) (pe_ifExp (pt_cmpR op_eq (pe_call (ok_kind_of T) (hr.mono (by decide)) (by rfl) (T.glo_kind_of) (T.kp_kind_of) (T.bd_kind_of) .nil pass0 (pa_cons (pv 0) (pa_cons (pv 1) pa_nil))) (T.pg_DEVICE) (nomark _)) pe_int pe_int)))), ?_⟩)
  · obtain ⟨_, _, _, _, _, rfl, _⟩ := h
    rfl
  · obtain ⟨m, wl, μ, f, p, rfl, hM, hI, k⟩ := h
    refine s_ret (ev_is (ev_op (ev_op (ev_var rfl) ev_c (rv_I (.inr ⟨by decide, by decide⟩))) (ev_if (b := decide (μ (ix 1 f) = 8)) (v := .int (if μ (ix 1 f) = 8 then 8 else 0)) (et_is (et_test (ev_op (ev_kind hM (ev_var rfl) (ev_var rfl) hI) ev_c (rv_eq rfl))) ?_) (fun hb => ev_is ev_c (by rw [if_pos (of_decide_eq_true hb)])) (fun hb => ev_is ev_c (by rw [if_neg (of_decide_eq_false hb)]))) rv_I0) rfl) k
    by_cases h : μ (ix 1 f) = 8
    · rw [h, decide_eq_true rfl, decide_eq_true rfl]
    · rw [decide_eq_false h, decide_eq_false fun z => h (V.int.inj z)]
section
variable {σ : L2.St} {H : Hp} {D : Ends} {m wl : Addr} {μ : Mem} {tm tf tp : TE} {tz : TS} {f p s : Int}
theorem ev_eat (hM : MemAt K H m wl μ) (hm : Ev tm σ H (.ref m)) (hf : Ev tf σ H (.int f)) (hp : Ev tp σ H (.int p)) (hI : InF f) : Ev (tCall (sp_entry_at K) [] E0 (tCons tm (tCons tf (tCons tp tNil)))) σ H (.int (eat μ f p)) :=
  ev_pure (ea_cons hm (ea_cons hf (ea_cons hp ea_nil))) fun H1 e Q q => ⟨m, wl, μ, f, p, rfl, hM.keep e, hI, q⟩
end
def ent3F (μ : Mem) (f p : Int) : List V := [.int (μ (ix f (eat μ f p + 0))), .int (μ (ix f (eat μ f p + 1))), .int (μ (ix f (eat μ f p + 2)))]
def sp_entry (K : PySem.W.Frag) : Sp := fun vs H Q _ => ∃ (m wl : Addr) (μ : Mem) (f p : Int), vs = [.ref m, .int f, .int p] ∧ MemAt K H m wl μ ∧ InF f ∧ 0 ≤ p ∧ p < 8 ∧ ∀ q H', H q = none → Ex H H' → H' q = some (.tup (ent3F μ f p)) → Q (.ref q) H'
theorem eat_bd {μ : Mem} {f p : Int} (h : 0 ≤ p ∧ p < 8) : 0 ≤ eat μ f p ∧ eat μ f p < 40 := by
  unfold eat
  split <;> omega
theorem ok_entry (T : Txt K mg) : FnOk P w K mg base CX0 4 (f_entry K) (fd_entry K) ["memory", "table", "page"] (sp_entry K) := by
  refine T.fn_entry.ok sc_entry (fun vs H Q E h => ?_) (fun cdv A outer s H vs Q E hr h => ⟨_, PSs.nox (pss_one (ps_ret (pe_callTy call_tuple_of (by rfl) T.free_tuple (by decide +kernel) (pa_cons (pe_lc (own := [("k", 3)]) (by rfl) sc_entry.nd (pi_range1 (by rfl) T.free_range (pa_cons pe_int pa_nil)) (blkOk_by (N := sc_entry_N) (sc := defScope s_entry) (own := [("k", 3)]) (by decide +kernel)) (fun _ _ _ _ _ => (pg_name (i := 3) sc_entry.nd rfl (Or.inl rfl))) (fun _ _ _ _ _ => pts_nil) (fun _ _ _ _ _ => (pe_meth (pv 0) (T.cl_Memory) (T.mt_Memory_word) (ok_Memory_word T) (hr.mono (by decide)) (T.bd_Memory_word) .nil pass0 (pa_cons (pv 1) (pa_cons (pe_op op_add (pe_call (ok_entry_at T) (hr.mono (by decide)) (by rfl) (T.glo_entry_at) (T.kp_entry_at) (T.bd_entry_at) .nil pass0 (pa_cons (pv 0) (pa_cons (pv 1) (pa_cons (pv 2) pa_nil)))) (pv 3)) pa_nil))))) pa_nil)))), ?_⟩)
  · obtain ⟨_, _, _, _, _, rfl, _⟩ := h
    rfl
  · obtain ⟨m, wl, μ, f, p, rfl, hM, hI, p0, p1, k⟩ := h
    have hb := eat_bd (μ := μ) (f := f) ⟨p0, p1⟩
    refine s_retU (eu_tupNL (K := K) (xs := ent3F μ f p) ?_) k
    exact el_lcR1 (n := 3) (fun _ => true) (fun i => .int (μ (ix f (eat μ f p + (i : Int))))) (ea_cons ev_c ea_nil) (by decide) (fun x => rfl) (fun i H1 e1 hi => et_yes) (fun i H1 e1 hi _ => ev_word (hM.keep e1) (ev_var rfl) (ev_var rfl) (ev_op (ev_eat (hM.keep e1) (ev_var rfl) (ev_var rfl) (ev_var rfl) hI) (ev_var rfl) rv_I0) (by omega))
end
end KQ

namespace KQ
open KA
open PySem PySem.Spec PyProof.Rows L2 Evl TL
/-- the frames of a kind -/
def fr (μ : Mem) (k : Int) : List Nat := (List.range 32).filter fun i => decide (V.int (μ (ix 1 (i : Int))) = .int k)
theorem framesV_eq {μ : Mem} {k : Int} : framesV μ k = (fr μ k).map fun (i : Nat) => V.int (i : Int) := rfl
theorem fr_lt {μ : Mem} {k : Int} {i : Nat} (h : i ∈ fr μ k) : i < 32 ∧ μ (ix 1 (i : Int)) = k := by
  obtain ⟨h1, h2⟩ := List.mem_filter.mp h
  exact ⟨List.mem_range.mp h1, V.int.inj (of_decide_eq_true h2)⟩
def sl8 (μ : Mem) (f : Nat) : List V := given 8 (fun j => !decide (V.int (fld μ ((f : Int) * 8 + (j : Int)) 0) = .int 0)) (fun j => .int ((f : Int) * 8 + (j : Int)))
def slV (μ : Mem) : List V := (fr μ 4).flatMap (sl8 μ)
theorem sl8_len {μ : Mem} {f : Nat} : (sl8 μ f).length ≤ 8 := given_len _ _ _
theorem flat_len {μ : Mem} : ∀ q : List Nat, (q.flatMap (sl8 μ)).length ≤ 8 * q.length
  | [] => Nat.le_refl 0
  | a :: q => by
    rw [List.flatMap_cons, List.length_append, List.length_cons]
    have := flat_len (μ := μ) q
    have := sl8_len (μ := μ) (f := a)
    omega
theorem fr_len {μ : Mem} {k : Int} : (fr μ k).length ≤ 32 := by
  unfold fr
  have := List.length_filter_le (fun i : Nat => decide (V.int (μ (ix 1 (i : Int))) = .int k)) (List.range 32)
  rw [List.length_range] at this
  exact this
section
variable {P : Program} {w : World} {K : PySem.W.Frag} {mg : Str → Option Value} {base : Heap}
def sp_slots_of (K : PySem.W.Frag) : Sp := fun vs H Q _ => ∃ (m wl : Addr) (μ : Mem), vs = [.ref m] ∧ MemAt K H m wl μ ∧ ∀ p H', H p = none → Ex H H' → H' p = some (.lst (slV μ)) → Q (.ref p) H'
theorem ok_slots_of (T : Txt K mg) : FnOk P w K mg base CX0 4 (f_slots_of K) (fd_slots_of K) ["memory"] (sp_slots_of K) := by
  refine T.fn_slots_of.ok sc_slots_of (fun vs H Q E h => ?_) (fun cdv A outer s H vs Q E hr h => ⟨_, PSs.nox (pss_cons (ps_set (i := 1) sc_slots_of.nd rfl (Or.inl rfl) (pe_lst pa_nil)) (pss_cons (ps_for PassesOwn.never rfl (pi_list (pe_call (ok_frames_of T) (hr.mono (by decide)) (by rfl) (T.glo_frames_of) (T.kp_frames_of) (T.bd_frames_of) .nil pass0 (pa_cons (pv 0) (pa_cons (T.pg_CAPS) pa_nil)))) (pg_name (i := 2) sc_slots_of.nd rfl (Or.inl rfl)) (pss_one (ps_expr (pe_bm PySem.F.plainAttrs_list PySem.F.slot_list_extend PySem.F.type_list_extend mt_extend (pv 1) (pa_cons (pe_lc (own := [("slot", 3)]) (by rfl) sc_slots_of.nd (pi_range2 (by rfl) T.free_range (pa_cons (pe_op op_mul (pv 2) (T.pg_SLOTS)) (pa_cons (pe_op op_add (pe_op op_mul (pv 2) (T.pg_SLOTS)) (T.pg_SLOTS)) pa_nil))) (blkOk_by (N := sc_slots_of_N) (sc := defScope s_slots_of) (own := [("slot", 3)]) (by decide +kernel)) (fun _ _ _ _ _ => (pg_name (i := 3) sc_slots_of.nd rfl (Or.inl rfl))) (fun _ _ _ _ _ => (pts_one (pt_cmpR op_ne (pe_call (ok_field T) (hr.mono (by decide)) (by rfl) (T.glo_field) (T.kp_field) (T.bd_field) .nil pass0 (pa_cons (pv 0) (pa_cons (pv 3) (pa_cons pe_int pa_nil)))) (by exact T.pg_FREE) (nomark _)))) (fun _ _ _ _ _ => (pv 3))) pa_nil))))) (pss_one (ps_ret (pv 1))))), ?_⟩)
  · obtain ⟨_, _, _, rfl, _⟩ := h
    rfl
  · obtain ⟨m, wl, μ, rfl, hM, k⟩ := h
    refine q_asgL (xs := []) (el_lst ea_nil (by decide)) fun l H1 hl e1 h1 => ?_
    have hM1 := hM.keep e1
    refine q_forNL (K := K) (xs := (fr μ 4).map fun (i : Nat) => V.int (i : Int)) (fun H2 e Q q => ⟨_, rfl, m, wl, μ, 4, rfl, hM1.keep e, fun p H3 hp e3 h3 => q p H3 hp e3 h3⟩)
      (fun p i σ' H' => ∃ x2, σ' = [some (.ref m), some (.ref l), x2, none] ∧ Ex H H' ∧ H' p = some (.lst ((fr μ 4).map fun (i : Nat) => V.int (i : Int))) ∧ H' l = some (.lst (((fr μ 4).take i).flatMap (sl8 μ))) ∧ p ≠ l)
      (fun p H2 hp e2 h2 => ⟨none, rfl, e1.trans e2, h2, e2 _ _ h1, fun z => by rw [z, h1] at hp; cases hp⟩) (fun p i σ' H' _ ⟨_, _, _, h, _⟩ => sq_of h) ?_ ?_
    · rintro p i y σ' H' hy ⟨x2, rfl, eH, hp, hl', npl⟩
      rw [List.getElem?_map] at hy
      obtain ⟨f, hf, rfl⟩ : ∃ f, (fr μ 4)[i]? = some f ∧ y = V.int ((f : Nat) : Int) := by
        cases e : (fr μ 4)[i]? with
        | none => rw [e] at hy; cases hy
        | some f => rw [e] at hy; exact ⟨f, rfl, (Option.some.inj hy).symm⟩
      obtain ⟨hf32, hf4⟩ := fr_lt (List.mem_of_getElem? hf)
      have hM' := hM.keep eH
      refine ⟨_, rfl, .inl ⟨rfl, _, sq_of hl'⟩, ?_⟩
      refine (el_lcR2 (lo := (f : Int) * 8) (n := 8) (fun j => !decide (V.int (fld μ ((f : Int) * 8 + (j : Int)) 0) = .int 0)) (fun j => .int ((f : Int) * 8 + (j : Int))) (ea_cons (ev_op (ev_var rfl) ev_c (rv_I (.inr ⟨by decide, by decide⟩))) (ea_cons (ev_op (ev_op (ev_var rfl) ev_c (rv_I (.inr ⟨by decide, by decide⟩))) ev_c rv_I0) ea_nil)) ⟨by simp, by decide, by omega, by omega⟩ (fun x => rfl)
        (fun j H2 e2 hj => et_test (ev_op (ev_field (hM'.keep e2) (ev_var rfl) (ev_var rfl) ev_c (by omega)) ev_c (rv_ne rfl))) (fun j H2 e2 hj _ => ev_var rfl)) H' (Ex.refl H') _ fun q H2 hq e2 h2 => ?_
      have hlen : (((fr μ 4).take i).flatMap (sl8 μ)).length ≤ 256 := by
        have a := flat_len (μ := μ) ((fr μ 4).take i)
        have b := fr_len (μ := μ) (k := 4)
        have c : ((fr μ 4).take i).length ≤ (fr μ 4).length := by rw [List.length_take]; exact Nat.min_le_right _ _
        omega
      have hg : (sl8 μ f).length ≤ 8 := sl8_len
      refine ⟨l, q, _, _, rfl, rfl, e2 _ _ hl', h2, sz_of (by show _ + (sl8 μ f).length ≤ 100000; omega), ?_⟩
      have hln : H l = none := hl
      refine ⟨_, rfl, Ex.mut (eH.trans e2) hln, by rw [upd_ne npl]; exact e2 _ _ hp, ?_, npl⟩
      rw [upd_same, List.take_add_one, hf, List.flatMap_append]
      show some (HO.lst (_ ++ sl8 μ f)) = some (HO.lst (_ ++ ([f].flatMap (sl8 μ))))
      rw [List.flatMap_cons, List.flatMap_nil, List.append_nil]
    · rintro p σ' H' ⟨x2, rfl, eH, hp, hl', npl⟩
      rw [List.length_map, List.take_length] at hl'
      refine s_ret (ev_var rfl) fun H2 e2 => k l H2 hl (eH.trans e2) (e2 _ _ hl')
/-- a queue's threads, from a word on -/
def SegI (μ : Mem) : Int → List Int → Prop
  | v, [] => v = 0
  | v, t :: q => v = t + 1 ∧ 0 ≤ t ∧ t < 32 ∧ SegI μ (μ (ix t 15)) q
def sp_members (K : PySem.W.Frag) : Sp := fun vs H Q _ => ∃ (m wl pl : Addr) (μ : Mem) (fr hd tl : Int) (q : List Int), vs = [.ref m, .ref pl] ∧ MemAt K H m wl μ ∧ H pl = some (.tup [.int fr, .int hd, .int tl]) ∧ InM fr hd ∧ SegI μ (μ (ix fr hd)) q ∧ q.length ≤ 1000 ∧ ∀ p H', H p = none → Ex H H' → H' p = some (.lst (q.map V.int)) → Q (.ref p) H'
theorem ok_members (T : Txt K mg) : FnOk P w K mg base CX0 2 (f_members K) (fd_members K) ["memory", "place"] (sp_members K) := by
  refine T.fn_members.ok sc_members (fun vs H Q E h => ?_) (fun cdv A outer s H vs Q E hr h => ⟨_, PSs.nox (pss_cons (ps_par (i := 2) (j := 3) (by rfl) sc_members.nd rfl rfl (by decide) rfl rfl (pa_cons (pe_lst pa_nil) (pa_cons (pe_meth (pv 0) (T.cl_Memory) (T.mt_Memory_word) (ok_Memory_word T) (hr.mono (by decide)) (T.bd_Memory_word) .nil pass0 (pa_cons (pe_ix ix_tup (pv 1) pe_int (fun _ _ => rfl)) (pa_cons (pe_ix ix_tup (pv 1) pe_int (fun _ _ => rfl)) pa_nil))) pa_nil)) (by rfl)) (pss_cons (ps_while PassesOwn.never (pt_truth (pv 3) (by intro _; rfl)) (pss_cons (ps_expr (pe_bm PySem.F.plainAttrs_list PySem.F.slot_list_append PySem.F.type_list_append mt_append (pv 2) (pa_cons (pe_op op_sub (pv 3) pe_int) pa_nil))) (pss_one (ps_set (i := 3) sc_members.nd rfl (Or.inl rfl) (pe_meth (pv 0) (T.cl_Memory) (T.mt_Memory_word) (ok_Memory_word T) (hr.mono (by decide)) (T.bd_Memory_word) .nil pass0 (pa_cons (pe_op op_sub (pv 3) pe_int) (pa_cons (T.pg_T_NEXT) pa_nil))))))) (pss_one (ps_ret (pv 2))))), ?_⟩)
  · obtain ⟨_, _, _, _, _, _, _, _, rfl, _⟩ := h
    rfl
  · obtain ⟨m, wl, pl, μ, fr, hd, tl, q, rfl, hM, hpl, hI, hS, hq, k⟩ := h
    refine q_parLV (xs := []) (el_lst ea_nil (by decide)) (fun H1 e1 => ev_word (hM.keep e1) (ev_var rfl) (ev_op (ev_var rfl) ev_c (rv_ixT (st_of (e1 _ _ hpl)) (atI_nat (j := 0) rfl))) (ev_op (ev_var rfl) ev_c (rv_ixT (st_of (e1 _ _ hpl)) (atI_nat (j := 1) rfl))) hI) fun l H2 hl e2 h2 => ?_
    refine q_while (W := fun n σ' H' => ∃ (i : Nat) (v : Int), n = q.length - i ∧ i ≤ q.length ∧ σ' = [some (.ref m), some (.ref pl), some (.ref l), some (.int v)] ∧ SegI μ v (q.drop i) ∧ Ex H H' ∧ H' l = some (.lst ((q.take i).map V.int))) q.length ⟨0, μ (ix fr hd), rfl, Nat.zero_le _, rfl, hS, e2, h2⟩ ?_
    rintro n σ' H' ⟨i, v, rfl, hi, rfl, hs, eH, hl'⟩
    refine ⟨decide (v ≠ 0), et_truI (ev_var rfl), fun hb H3 e3 => ?_, fun hb H3 e3 => ?_⟩
    · have hv : v ≠ 0 := of_decide_eq_true hb
      cases hd' : q.drop i with
      | nil => rw [hd'] at hs; exact absurd hs hv
      | cons t r =>
        rw [hd'] at hs
        obtain ⟨s1, s2, s3, s4⟩ := hs
        have hlt : i < q.length := by
          rcases Nat.lt_or_ge i q.length with z | z
          · exact z
          · rw [List.drop_eq_nil_of_le z] at hd'
            cases hd'
        have hti : q[i]? = some t := by
          have := List.getElem?_drop (xs := q) (i := i) (j := 0)
          rw [hd'] at this
          simpa using this.symm
        refine ⟨fun σ2 H2 => ∃ v', σ2 = [some (.ref m), some (.ref pl), some (.ref l), some (.int v')] ∧ SegI μ v' (q.drop (i + 1)) ∧ Ex H H2 ∧ H2 l = some (.lst ((q.take (i + 1)).map V.int)), fun σ2 H2 ⟨v', h1, h2, h3, h4⟩ => ⟨q.length - (i + 1), by omega, i + 1, v', rfl, hlt, h1, h2, h3, h4⟩, ?_⟩
        refine q_app (e3 _ _ hl') (ev_var rfl) (ev_op (ev_var rfl) ev_c rv_I0) (by rw [List.length_map, List.length_take]; omega) fun H4 e4 => ?_
        have eH4 : Ex H (upd H4 l (.lst ((q.take i).map V.int ++ [.int (v - 1)]))) := Ex.mut ((eH.trans e3).trans e4) hl
        have hM4 := hM.keep eH4
        refine s_asg (v := .int (μ (ix t 15))) (ev_is (ev_word hM4 (ev_var rfl) (ev_op (ev_var rfl) ev_c rv_I0) ev_c (by omega)) (by rw [s1]; congr 3; omega)) fun H5 e5 => ⟨_, rfl, ?_, eH4.trans e5, ?_⟩
        · have : q.drop (i + 1) = r := by
            rw [← List.drop_drop, hd']
            rfl
          rw [this]
          exact s4
        · rw [e5 _ _ upd_same, List.take_add_one, hti, List.map_append, s1]
          have : t + 1 - 1 = t := by omega
          rw [this]
          rfl
    · have hv : v = 0 := by simpa using hb
      have hq0 : q.drop i = [] := by
        cases hd' : q.drop i with
        | nil => rfl
        | cons t r =>
          rw [hd'] at hs
          obtain ⟨s1, s2, _⟩ := hs
          omega
      have hi2 : q.length ≤ i := List.drop_eq_nil_iff.mp hq0
      have : q.take i = q := List.take_of_length_le hi2
      rw [this] at hl'
      exact s_ret (ev_var rfl) fun H4 e4 => k l H4 hl ((eH.trans e3).trans e4) (e4 _ _ (e3 _ _ hl'))
/-- a thread's own capability -/
def slotO (μ : Mem) (t p : Int) : Option Int := if μ (ix t 10) = 0 ∨ ¬ (0 ≤ p ∧ p < 8) then none else if fld μ ((μ (ix t 10) - 1) * 8 + p) 0 = 0 then none else some ((μ (ix t 10) - 1) * 8 + p)
theorem slotO_bd {μ : Mem} {t p s : Int} (h : slotO μ t p = some s) (hc : μ (ix t 10) ≠ 0 → InF (μ (ix t 10) - 1)) : 0 ≤ s ∧ s < 256 := by
  unfold slotO at h
  split at h
  · cases h
  · rename_i h1
    split at h
    · cases h
    · cases h
      have h2 : μ (ix t 10) ≠ 0 := fun z => h1 (.inl z)
      have h3 : 0 ≤ p ∧ p < 8 := Decidable.not_not.mp fun z => h1 (.inr z)
      have := hc h2
      omega
def sp_slot_of (K : PySem.W.Frag) : Sp := fun vs H Q _ => ∃ (m wl : Addr) (μ : Mem) (t p : Int), vs = [.ref m, .int t, .int p] ∧ MemAt K H m wl μ ∧ InF t ∧ (μ (ix t 10) ≠ 0 → InF (μ (ix t 10) - 1)) ∧ ∀ H', Ex H H' → Q (oI (slotO μ t p)) H'
theorem ok_slot_of (T : Txt K mg) : FnOk P w K mg base CX0 3 (f_slot_of K) (fd_slot_of K) ["memory", "thread", "place"] (sp_slot_of K) := by
  refine T.fn_slot_of.ok sc_slot_of (fun vs H Q E h => ?_) (fun cdv A outer s H vs Q E hr h => ⟨_, PSs.nox (pss_cons (ps_set (i := 3) sc_slot_of.nd rfl (Or.inl rfl) (pe_meth (pv 0) (T.cl_Memory) (T.mt_Memory_word) (ok_Memory_word T) (hr.mono (by decide)) (T.bd_Memory_word) .nil pass0 (pa_cons (pv 1) (pa_cons (T.pg_T_CAPS) pa_nil)))) (pss_cons (ps_if (PW.pt (pw_or (pt_cmpR op_eq (pv 3) pe_int (nomark _)) (pw_or1 (pt_not (pt_chain op_le op_lt pe_int (pv 2) (T.pg_SLOTS)))))) (pss_one (ps_ret pe_non)) pss_nil) (pss_cons (ps_set (i := 4) sc_slot_of.nd rfl (Or.inl rfl) (pe_op op_add (pe_op op_mul (pe_op op_sub (pv 3) pe_int) (T.pg_SLOTS)) (pv 2))) (pss_one (ps_ret (pe_ifExp (pt_cmpR op_eq (pe_call (ok_field T) (hr.mono (by decide)) (by rfl) (T.glo_field) (T.kp_field) (T.bd_field) .nil pass0 (pa_cons (pv 0) (pa_cons (pv 4) (pa_cons pe_int pa_nil)))) (T.pg_FREE) (nomark _)) pe_non (pv 4))))))), ?_⟩)
  · obtain ⟨_, _, _, _, _, rfl, _⟩ := h
    rfl
  · obtain ⟨m, wl, μ, t, p, rfl, hM, hI, hc, k⟩ := h
    refine q_asg (ev_word hM (ev_var rfl) (ev_var rfl) ev_c (by omega)) fun H1 e1 => ?_
    obtain ⟨r, hr0⟩ : ∃ r, r = slotO μ t p := ⟨_, rfl⟩
    rw [← hr0] at k
    refine q_when (b := decide (μ (ix t 10) = 0 ∨ ¬ (0 ≤ p ∧ p < 8))) (et_is (et_or (et_test (ev_op (ev_var rfl) ev_c (rv_eq rfl))) fun _ => et_not (et_test (ev_chV (k := decide (0 ≤ p)) (k' := decide (p < 8)) ev_c (ev_var rfl) rv_I0 ev_c rv_I0))) ?_) (fun hb H2 e2 => ?_) (fun hb H2 e2 => ?_)
    · by_cases h1 : μ (ix t 10) = 0 <;> by_cases h2 : 0 ≤ p <;> by_cases h3 : p < 8 <;> simp [h1, h2, h3]
    · refine s_ret (v := oI r) (ev_is ev_c ?_) fun H3 e3 => k H3 ((e1.trans e2).trans e3)
      rw [hr0]
      unfold slotO
      rw [if_pos (of_decide_eq_true hb)]
      rfl
    · have hn := of_decide_eq_false hb
      have h2 : μ (ix t 10) ≠ 0 := fun z => hn (.inl z)
      have h3 : 0 ≤ p ∧ p < 8 := Decidable.not_not.mp fun z => hn (.inr z)
      have h4 := hc h2
      unfold slotO at hr0
      rw [if_neg hn] at hr0
      refine q_asg (v := .int ((μ (ix t 10) - 1) * 8 + p)) (ev_op (ev_op (ev_op (ev_var rfl) ev_c rv_I0) ev_c (rv_I (.inr ⟨by decide, by decide⟩))) (ev_var rfl) rv_I0) fun H3 e3 => ?_
      have e13 := (e1.trans e2).trans e3
      refine s_ret (v := oI r) (ev_if (et_test (ev_op (ev_field (hM.keep e13) (ev_var rfl) (ev_var rfl) ev_c (by omega)) ev_c (rv_eq rfl))) (fun hb => ev_is ev_c ?_) (fun hb => ev_is (ev_var rfl) ?_)) fun H4 e4 => k H4 (e13.trans e4)
      · rw [hr0, if_pos (V.int.inj (of_decide_eq_true hb))]
        rfl
      · rw [hr0, if_neg fun z => of_decide_eq_false hb (by rw [z])]
        rfl
def ownC (μ : Mem) (t p kind right : Int) : Option Int × Option Int := match slotO μ t p with
  | none => (none, some 1)
  | some s => if fld μ s 0 ≠ kind then (none, some 1) else if fld μ s 2 / right % 2 = 0 then (none, some 2) else (some s, none)
def ownV (r : Option Int × Option Int) : List V := [oI r.1, oI r.2]
def sp_own_cap (K : PySem.W.Frag) : Sp := fun vs H Q _ => ∃ (m wl : Addr) (μ : Mem) (t p kind right : Int), vs = [.ref m, .int t, .int p, .int kind, .int right] ∧ MemAt K H m wl μ ∧ InF t ∧ (μ (ix t 10) ≠ 0 → InF (μ (ix t 10) - 1)) ∧ 0 < right ∧ right < 8 ∧ ∀ q H', H q = none → Ex H H' → H' q = some (.tup (ownV (ownC μ t p kind right))) → Q (.ref q) H'
theorem ok_own_cap (T : Txt K mg) : FnOk P w K mg base CX0 4 (f_own_cap K) (fd_own_cap K) ["memory", "thread", "place", "kind", "right"] (sp_own_cap K) := by
  refine T.fn_own_cap.ok sc_own_cap (fun vs H Q E h => ?_) (fun cdv A outer s H vs Q E hr h => ⟨_, PSs.nox (pss_cons (ps_set (i := 5) sc_own_cap.nd rfl (Or.inl rfl) (pe_call (ok_slot_of T) (hr.mono (by decide)) (by rfl) (T.glo_slot_of) (T.kp_slot_of) (T.bd_slot_of) .nil pass0 (pa_cons (pv 0) (pa_cons (pv 1) (pa_cons (pv 2) pa_nil))))) (pss_cons (ps_if (PW.pt (pw_or (pt_cmpR op_isN (pv 5) pe_non (nomark _)) (pw_or1 (pt_cmpR op_ne (pe_call (ok_field T) (hr.mono (by decide)) (by rfl) (T.glo_field) (T.kp_field) (T.bd_field) .nil pass0 (pa_cons (pv 0) (pa_cons (pv 5) (pa_cons pe_int pa_nil)))) (pv 3) (nomark _))))) (pss_one (ps_ret (pe_tup (pa_cons pe_non (pa_cons pe_int pa_nil))))) pss_nil) (pss_cons (ps_if (pt_cmpR op_eq (pe_op op_mod (pe_op op_fdiv (pe_call (ok_field T) (hr.mono (by decide)) (by rfl) (T.glo_field) (T.kp_field) (T.bd_field) .nil pass0 (pa_cons (pv 0) (pa_cons (pv 5) (pa_cons pe_int pa_nil)))) (pv 4)) pe_int) pe_int (nomark _)) (pss_one (ps_ret (pe_tup (pa_cons pe_non (pa_cons pe_int pa_nil))))) pss_nil) (pss_one (ps_ret (pe_tup (pa_cons (pv 5) (pa_cons pe_non pa_nil)))))))), ?_⟩)
  · obtain ⟨_, _, _, _, _, _, _, rfl, _⟩ := h
    rfl
  · obtain ⟨m, wl, μ, t, p, kind, right, rfl, hM, hI, hc, r0, r1, k⟩ := h
    refine q_asg (v := oI (slotO μ t p)) (ev_pure (ea_cons (ev_var rfl) (ea_cons (ev_var rfl) (ea_cons (ev_var rfl) ea_nil))) fun H1 e Q q => ⟨m, wl, μ, t, p, rfl, hM.keep e, hI, hc, q⟩) fun H1 e1 => ?_
    have hM1 := hM.keep e1
    obtain ⟨r, hr0⟩ : ∃ r, r = ownC μ t p kind right := ⟨_, rfl⟩
    rw [← hr0] at k
    unfold ownC at hr0
    cases hs : slotO μ t p with
    | none =>
      rw [hs] at hr0
      refine q_when (b := true) (et_is (et_or (a := true) (b := true) (et_is (et_test (ev_op (ev_var rfl) ev_c rv_isN)) rfl) (fun h => by cases h)) rfl) (fun _ H2 e2 => ?_) (fun h => by cases h)
      exact s_retU (xs := ownV r) (eu_is (eu_tup (ea_cons ev_c (ea_cons ev_c ea_nil)) (by show 2 ≤ 100000; decide)) (by rw [hr0]; rfl)) fun q H3 hq e3 h3 => k q H3 (fresh_back (e1.trans e2) hq) ((e1.trans e2).trans e3) h3
    | some s0 =>
      rw [hs] at hr0
      have hb := slotO_bd hs hc
      refine q_when (b := decide (fld μ s0 0 ≠ kind)) (et_is (et_or (a := false) (et_is (et_test (ev_op (ev_var rfl) ev_c rv_isN)) rfl) fun _ => et_test (ev_op (ev_field (s := s0) hM1 (ev_var rfl) (ev_var rfl) ev_c (by omega)) (ev_var rfl) (rv_ne rfl))) ?_) (fun hb2 H2 e2 => ?_) (fun hb2 H2 e2 => ?_)
      · by_cases z : fld μ s0 0 = kind
        · rw [z]
          simp
        · rw [decide_eq_false (fun y => z (V.int.inj y)), decide_eq_true z]
          rfl
      · rw [show (match some s0 with | none => ((none : Option Int), some (1 : Int)) | some s => if fld μ s 0 ≠ kind then (none, some 1) else if fld μ s 2 / right % 2 = 0 then (none, some 2) else (some s, none)) = (none, some 1) from if_pos (of_decide_eq_true hb2)] at hr0
        exact s_retU (xs := ownV r) (eu_is (eu_tup (ea_cons ev_c (ea_cons ev_c ea_nil)) (by show 2 ≤ 100000; decide)) (by rw [hr0]; rfl)) fun q H3 hq e3 h3 => k q H3 (fresh_back (e1.trans e2) hq) ((e1.trans e2).trans e3) h3
      · have e12 := e1.trans e2
        have hr1 : r = if fld μ s0 2 / right % 2 = 0 then (none, some 2) else (some s0, none) := hr0.trans (if_neg (of_decide_eq_false hb2))
        refine q_when (b := decide (fld μ s0 2 / right % 2 = 0)) (et_is (et_test (ev_op (ev_mod (ev_div (ev_field (s := s0) (hM.keep e12) (ev_var rfl) (ev_var rfl) ev_c (by omega)) (ev_var rfl) ⟨r0, by omega⟩) ev_c (by decide)) ev_c (rv_eq rfl))) ?_) (fun hb3 H3 e3 => ?_) (fun hb3 H3 e3 => ?_)
        · by_cases z : fld μ s0 2 / right % 2 = 0
          · rw [z, decide_eq_true rfl, decide_eq_true rfl]
          · rw [decide_eq_false (fun y => z (V.int.inj y)), decide_eq_false z]
        · rw [if_pos (of_decide_eq_true hb3)] at hr1
          exact s_retU (xs := ownV r) (eu_is (eu_tup (ea_cons ev_c (ea_cons ev_c ea_nil)) (by show 2 ≤ 100000; decide)) (by rw [hr1]; rfl)) fun q H4 hq e4 h4 => k q H4 (fresh_back (e12.trans e3) hq) ((e12.trans e3).trans e4) h4
        · rw [if_neg (of_decide_eq_false hb3)] at hr1
          exact s_retU (xs := ownV r) (eu_is (eu_tup (ea_cons (ev_var rfl) (ea_cons ev_c ea_nil)) (by show 2 ≤ 100000; decide)) (by rw [hr1]; rfl)) fun q H4 hq e4 h4 => k q H4 (fresh_back (e12.trans e3) hq) ((e12.trans e3).trans e4) h4
end
end KQ

namespace KQ
open KA
open PySem PySem.Spec PyProof.Rows L2 Evl TL
/-! ### d[i](e, ..), d a dict of the top -/
def KDctI (K : PySem.W.Frag) (a : Addr) (i : Int) (f : Addr) : Prop := ∃ o es n, K.lookup a = some o ∧ o.ExactDict ∧ o.data = .dict es n ∧ (∀ e ∈ es, ∃ k t, e.key = .int k t ∧ e.hash = hashInt k) ∧ findBy Value.isInt es i = some (.ref f)
theorem dctB_ok {K : PySem.W.Frag} {x : Str} {ks : List (Int × Str)} (h : dctB K x ks = true) {p : Int × Str} (hp : p ∈ ks) : KDctI K (He.ga K x) p.1 (He.ga K p.2) := by
  unfold dctB at h
  cases e : K.lookup (He.ga K x) with
  | none => rw [e] at h; cases h
  | some o =>
    rw [e] at h
    obtain ⟨oc, od, dt, sl⟩ := o
    simp only [Bool.and_eq_true, decide_eq_true_eq] at h
    obtain ⟨⟨⟨h1, h2⟩, h3⟩, h4⟩ := h
    cases dt with
    | dict es n =>
      simp only [Bool.and_eq_true, List.all_eq_true, decide_eq_true_eq] at h4
      obtain ⟨h5, h6⟩ := h4
      refine ⟨_, es, n, e, ⟨h1, Option.isNone_iff_eq_none.mp h2, by simpa using h3⟩, rfl, fun d hd => ?_, h6 p hp⟩
      have := h5 d (Array.mem_toList_iff.mpr hd)
      split at this
      · rename_i k t hk
        exact ⟨k, t, hk, by simpa using this⟩
      · cases this
    | _ => cases h4
def rIxDI (K : PySem.W.Frag) : R2 := fun x y H Q => ∃ p i f, x = .ref p ∧ y = .int i ∧ KDctI K p i f ∧ Q (.ref f) H
theorem ix_kdi {X : Cx} : IxR X (rIxDI X.K) := by
  intro value slice pins s σ H x y v u Q I rx ry h hs
  obtain ⟨p, i, f, rfl, rfl, ⟨o, es, n, hl, hx, hd, hk, e⟩, q⟩ := h
  obtain rfl : v = Value.ref p := rx
  obtain ⟨t, rfl⟩ := ry
  have hm : s.heap.MapOf (intKind X.prog X.w) p (fun k => findBy Value.isInt es k) := ⟨o, es, n, I.kIn _ _ hl, hx, hd, fun d hd' => by
    obtain ⟨k, t, e1, e2⟩ := hk d hd'
    exact ⟨k, by rw [e1]; exact beq_self_eq_true k, e2⟩, fun _ => rfl⟩
  exact tail_any hm.typeIs slot_dict_getitem.lookup (wpAny_getItem_of (show (intKind X.prog X.w).is i (.int i t) = true from beq_self_eq_true i) hm e ⟨.ref f, H, I.tok _, rfl, q⟩) hs
def tCallD (K : PySem.W.Frag) (td ti : TE) (S : Addr → Sp → Prop) (ta : TA) : TE := fun σ H Q => tOp (rIxDI K) td ti σ H (fun v H2 => ∃ f sp, v = .ref f ∧ S f sp ∧ ta σ H2 fun vs H3 => sp vs H3 Q fun _ _ _ => False)
section
variable {X : Cx} {k : Nat} {d b e : Expr} {es : List Expr} {td ti : TE} {ta : TA} {q pos : Pos}
theorem pe_callD {S : Addr → Sp → Prop} (A : ∀ f sp, S f sp → Held X.prog X.w X.K X.mg X.base k f sp) (hr : Room k X.A) (hd : PE X d td) (hi : PE X b ti) (ha : PA X (e :: es) ta) (hs : PlainIx b := by intro _ _; rfl)
    (he : starEach (e :: es) X.env = (false, eval e X.env) :: starEach es X.env := by rfl) (hpl : (backTo pos (starEach es X.env)).any (·.1) = false := by rfl)
    (hc : eval (.Call (.Subscript d b q) (e :: es) [] pos) X.env = (do callWith pos (← eval (.Subscript d b q) X.env) [] (backTo pos (starEach (e :: es) X.env)) (backToKw pos (keywordEach [] X.env))) := by rfl) :
    PE X (.Call (.Subscript d b q) (e :: es) [] pos) (tCallD X.K td ti S ta) := by
  refine ⟨fun pins s σ H Q I h => ?_⟩
  refine Call_ (thn ((pe_ix (pos := q) ix_kdi hd hi hs).run pins s σ H (fun v H2 => ∃ f sp, v = .ref f ∧ S f sp ∧ ta σ H2 fun vs H3 => sp vs H3 Q fun _ _ _ => False) I h) fun u s1 ⟨v, H1, I1, r1, f, sp, ev, hS, q1⟩ => ?_) hc
  subst ev
  cases r1
  obtain ⟨fd, ps, F, hk, hb⟩ := (A f sp hS).ex
  refine PySem.W.callWith_K (h₀ := X.base) I1.ok.mod.kin hk (thn (ha.run pos pins s1 σ _ _ I1 q1) fun us s2 ⟨vs, H2, I2, r, q⟩ => ⟨I2.kIn, ?_⟩) he hpl
  refine run_fn (dvs := []) (E := fun _ _ _ => False) F hr hb .nil (fun _ _ _ _ _ _ _ z => z.elim) I2 r ?_
  rw [List.append_nil]
  exact q
end
end KQ

namespace KQ
open KA
open PySem PySem.Spec PyProof.Rows L2 Evl TL
/-! ### the disk of the device at frame 31 -/
def RowsL (H : Hp) (a : Addr) (rows : List (List Int)) : Prop := ∃ ts, H a = some (.lst ts) ∧ ts.length = rows.length ∧ ∀ i v, ts[i]? = some v → ∃ t, v = .ref t ∧ H t = some (.tup ((rows.getD i []).map V.int))
def RowsT (H : Hp) (a : Addr) (rows : List (List Int)) : Prop := ∃ ts, H a = some (.tup ts) ∧ ts.length = rows.length ∧ ∀ i v, ts[i]? = some v → ∃ t, v = .ref t ∧ H t = some (.tup ((rows.getD i []).map V.int))
structure DiskAt (K : PySem.W.Frag) (H : Hp) (m wl dx dd rl : Addr) (rows : List (List Int)) : Prop where
  ins : H m = some (.ins (CM K) dx [("_words", .ref wl), ("_disks", .ref dd)])
  di : H dd = some (.dK [(Sum.inl 31, .ref rl)])
  rs : RowsL H rl rows
  nw : rl ≠ wl
section
variable {K : PySem.W.Frag} {H H' : Hp} {m wl dx dd rl a : Addr} {rows : List (List Int)}
theorem RowsL.keep (h : RowsL H a rows) (e : Ex H H') : RowsL H' a rows := by
  obtain ⟨ts, h1, h2, h3⟩ := h
  exact ⟨ts, e _ _ h1, h2, fun i v hv => let ⟨t, e1, e2⟩ := h3 i v hv; ⟨t, e1, e _ _ e2⟩⟩
theorem RowsT.keep (h : RowsT H a rows) (e : Ex H H') : RowsT H' a rows := by
  obtain ⟨ts, h1, h2, h3⟩ := h
  exact ⟨ts, e _ _ h1, h2, fun i v hv => let ⟨t, e1, e2⟩ := h3 i v hv; ⟨t, e1, e _ _ e2⟩⟩
theorem RowsT.tk (h : RowsT H a rows) (e : TK H H') : RowsT H' a rows := by
  obtain ⟨ts, h1, h2, h3⟩ := h
  exact ⟨ts, e _ _ h1, h2, fun i v hv => let ⟨t, e1, e2⟩ := h3 i v hv; ⟨t, e1, e _ _ e2⟩⟩
theorem DiskAt.keep (h : DiskAt K H m wl dx dd rl rows) (e : Ex H H') : DiskAt K H' m wl dx dd rl rows := ⟨e _ _ h.ins, e _ _ h.di, h.rs.keep e, h.nw⟩
/-- words change, the disk stands -/
theorem DiskAt.words {μ : Mem} (h : DiskAt K H m wl dx dd rl rows) (hM : MemAt K H m wl μ) (f : Fr wl H H') : DiskAt K H' m wl dx dd rl rows := by
  have hw := hM.ws
  obtain ⟨ts, h1, h2, h3⟩ := h.rs
  exact ⟨f _ _ h.ins (ne_of h.ins hw (by intro z; cases z)), f _ _ h.di (ne_of h.di hw (by intro z; cases z)), ⟨ts, f _ _ h1 h.nw, h2, fun i v hv => let ⟨t, e1, e2⟩ := h3 i v hv; ⟨t, e1, f _ _ e2 (ne_of e2 hw (by intro z; cases z))⟩⟩, h.nw⟩
end
def frameV (μ : Mem) (f : Int) : List V := (List.range 64).map fun (i : Nat) => V.int (μ (ix f (i : Int)))
theorem frame_cut {μ : Mem} {f : Int} (h : InF f) : cutV (lW μ) (some (f * 64)) (some ((f + 1) * 64)) = frameV μ f := by
  obtain ⟨h0, h1⟩ := h
  obtain ⟨n, rfl⟩ : ∃ n : Nat, f = n := ⟨f.toNat, by omega⟩
  have hn : n < 32 := by omega
  unfold cutV
  have e1 : HT.sIx (lW μ).length 0 (some ((n : Int) * 64)) = n * 64 := by
    rw [lW_len, show ((n : Int) * 64) = ((n * 64 : Nat) : Int) by omega, HT.sIx_nat]
    omega
  have e2 : HT.sIx (lW μ).length (lW μ).length (some (((n : Int) + 1) * 64)) = (n + 1) * 64 := by
    rw [lW_len, show (((n : Int) + 1) * 64) = (((n + 1) * 64 : Nat) : Int) by omega, HT.sIx_nat]
    omega
  rw [e1, e2]
  apply List.ext_getElem?
  intro i
  unfold frameV
  rw [List.getElem?_take, List.getElem?_map]
  by_cases hi : i < 64
  · rw [if_pos (by omega), List.getElem?_drop, List.getElem?_range hi, lW_at (by omega)]
    show some (V.int (μ (n * 64 + i))) = some (V.int (μ (ix n i)))
    congr 3
  · rw [if_neg (by omega), List.getElem?_eq_none (by simp; omega)]
    rfl
section
variable {P : Program} {w : World} {K : PySem.W.Frag} {mg : Str → Option Value} {base : Heap}
def sp_frame (K : PySem.W.Frag) : Sp := fun vs H Q _ => ∃ (m wl : Addr) (μ : Mem) (f : Int), vs = [.ref m, .int f] ∧ MemAt K H m wl μ ∧ InF f ∧ ∀ p H', H p = none → Ex H H' → H' p = some (.tup (frameV μ f)) → Q (.ref p) H'
theorem ok_Memory_frame (T : Txt K mg) : FnOk P w K mg base CX0 1 (f_Memory_frame K) (fd_Memory_frame K) ["self", "frame"] (sp_frame K) := by
  refine T.fn_Memory_frame.ok sc_Memory_frame (fun vs H Q E h => ?_) (fun cdv A outer s H vs Q E hr h => ⟨_, PSs.nox (pss_one (ps_ret (pe_callTy call_tuple_of (by rfl) T.free_tuple (by decide +kernel) (pa_cons (pe_slice sl_list (pe_fld (pv 0) rfl) (po_some (pe_op op_mul (pv 1) (T.pg_FRAME))) (po_some (pe_op op_mul (pe_op op_add (pv 1) pe_int) (T.pg_FRAME)))) pa_nil)))), ?_⟩)
  · obtain ⟨_, _, _, _, rfl, _⟩ := h
    rfl
  · obtain ⟨m, wl, μ, f, rfl, hM, hI, k⟩ := h
    obtain ⟨dx, dd, h1, h2⟩ := hM.ins
    refine s_retU (eu_tupNL (K := K) (xs := frameV μ f) (el_is (el_sl (ev_fld (ev_var rfl) h1 T.cl_Memory T.no_Memory_words rfl) (eo_some (ev_op (ev_var rfl) ev_c (rv_I (.inr ⟨by decide, by decide⟩)))) (eo_some (ev_op (ev_op (ev_var rfl) ev_c rv_I0) ev_c (rv_I (.inr ⟨by decide, by decide⟩)))) (sq_of hM.ws)) (frame_cut hI))) k
def sp_disk (K : PySem.W.Frag) : Sp := fun vs H Q _ => ∃ (m wl dx dd rl : Addr) (rows : List (List Int)), vs = [.ref m, .int 31] ∧ DiskAt K H m wl dx dd rl rows ∧ ∀ p H', H p = none → Ex H H' → RowsT H' p rows → Q (.ref p) H'
theorem ok_Memory_disk (T : Txt K mg) : FnOk P w K mg base CX0 1 (f_Memory_disk K) (fd_Memory_disk K) ["self", "frame"] (sp_disk K) := by
  refine T.fn_Memory_disk.ok sc_Memory_disk (fun vs H Q E h => ?_) (fun cdv A outer s H vs Q E hr h => ?_)
  · obtain ⟨_, _, _, _, _, _, rfl, _⟩ := h
    rfl
  have hu := hu_of hr
  refine ⟨_, PSs.nox (pss_one (ps_ret (pe_callTy call_tuple_of (by rfl) T.free_tuple (by decide +kernel) (pa_cons (pe_dget2 hu (pe_fld (pv 0) rfl) (pv 1) (pe_tup pa_nil) ⟨rfl, rfl, rfl, rfl⟩) pa_nil)))), ?_⟩
  obtain ⟨m, wl, dx, dd, rl, rows, rfl, hD, k⟩ := h
  obtain ⟨ts, r1, r2, r3⟩ := hD.rs
  refine ⟨_, rfl, m, CM K, dx, _, .ref dd, rfl, hD.ins, T.cl_Memory, T.no_Memory_disks, rfl, dd, rfl, .inl ⟨_, Rd.of hD.di⟩, _, rfl, Nat.zero_le _, fun q hq => ⟨some (.ref rl), ?_, ?_⟩⟩
  · have e1 : Ex H (upd H q (.tup [])) := Ex.new hq
    have := DGet.k (k := Sum.inl 31) (e1 _ _ hD.di)
    exact this
  · have e1 : Ex H (upd H q (.tup [])) := Ex.new hq
    refine ⟨rl, ts, rfl, .inl ⟨sq_of (e1 _ _ r1), fun l hl => ?_⟩⟩
    have e2 : Ex (upd H q (.tup [])) (upd (upd H q (.tup [])) l (.tup ts)) := Ex.new hl
    exact k l _ (fresh_back e1 hl) (e1.trans e2) ⟨ts, upd_same, r2, fun i v hv => let ⟨t, e3, e4⟩ := r3 i v hv; ⟨t, e3, (e1.trans e2) _ _ e4⟩⟩
def sp_laid (K : PySem.W.Frag) : Sp := fun vs H Q _ => ∃ (m wl dx dd rl : Addr) (rows : List (List Int)), vs = [.ref m] ∧ DiskAt K H m wl dx dd rl rows ∧ ∀ p H', H p = none → Ex H H' → H' p = some (.lst [.int 31]) → Q (.ref p) H'
theorem ok_Memory_laid (T : Txt K mg) : FnOk P w K mg base CX0 1 (f_Memory_laid K) (fd_Memory_laid K) ["self"] (sp_laid K) := by
  refine T.fn_Memory_laid.ok sc_Memory_laid (fun vs H Q E h => ?_) (fun cdv A outer s H vs Q E hr h => ⟨_, PSs.nox (pss_one (ps_ret (pe_callB (call_sortedDI rfl) (by rfl) T.free_sorted (by decide +kernel) (pa_cons (pe_fld (pv 0) rfl) pa_nil)))), ?_⟩)
  · obtain ⟨_, _, _, _, _, _, rfl, _⟩ := h
    rfl
  obtain ⟨m, wl, dx, dd, rl, rows, rfl, hD, k⟩ := h
  refine ⟨_, rfl, m, CM K, dx, _, .ref dd, rfl, hD.ins, T.cl_Memory, T.no_Memory_disks, rfl, dd, _, [31], rfl, Rd.of hD.di, rfl, by decide, fun ys p hp _ hpn => ?_⟩
  obtain rfl : ys = [31] := List.perm_singleton.mp hp
  exact k p _ hpn (Ex.new hpn) upd_same
/-- rows, tuples in a list, are laid -/
def sp_lay_disk (K : PySem.W.Frag) : Sp := fun vs H Q _ => ∃ (m wl dx dd ra : Addr) (rows : List (List Int)), vs = [.ref m, .int 31, .ref ra] ∧ H m = some (.ins (CM K) dx [("_words", .ref wl), ("_disks", .ref dd)]) ∧ H dd = some (.dK []) ∧ (∃ o, H wl = some o) ∧ RowsL H ra rows ∧ rows.length ≤ 1000 ∧
  ∀ rl H', H rl = none → DiskAt K H' m wl dx dd rl rows → FS [dd] H H' → Q .non H'
theorem ok_Memory_lay_disk (T : Txt K mg) : FnOk P w K mg base CX0 1 (f_Memory_lay_disk K) (fd_Memory_lay_disk K) ["self", "frame", "rows"] (sp_lay_disk K) := by
  refine T.fn_Memory_lay_disk.ok sc_Memory_lay_disk (fun vs H Q E h => ?_) (fun cdv A outer s H vs Q E hr h => ?_)
  · obtain ⟨_, _, _, _, _, _, rfl, _⟩ := h
    rfl
  have hu := hu_of hr
  refine ⟨_, PSs.nox (pss_one (ps_dput hu (pe_fld (pv 0) rfl) (pv 1) (pe_lc (own := [("row", 3)]) (by rfl) sc_Memory_lay_disk.nd (pi_list (pv 2)) (blkOk_by (N := sc_Memory_lay_disk_N) (sc := defScope s_Memory_lay_disk) (own := [("row", 3)]) (by decide +kernel)) (fun _ _ _ _ _ => (pg_name (i := 3) sc_Memory_lay_disk.nd rfl (Or.inl rfl))) (fun _ _ _ _ _ => pts_nil) (fun _ _ _ _ _ => (pe_callTy (T := "tuple") (r := rTupK K) (by exact call_tuple_of) (by rfl) T.free_tuple (by decide +kernel) (pa_cons (pv 3) pa_nil)))) rfl)), ?_⟩
  obtain ⟨m, wl, dx, dd, ra, rows, rfl, hm, hdd, ⟨ow, hw⟩, ⟨ts, r1, r2, r3⟩, hz, k⟩ := h
  refine ((el_is (el_lcL (K := K) (a := ra) (xs := ts) (fun _ => true) (fun i => ts.getD i .non) (ev_var rfl) (sq_of r1) (by omega) (fun x => rfl) (fun i y H1 e1 hi => et_yes) (fun i y H1 e1 hi _ => ?_)) ?_) : EvL _ _ H ts) H (Ex.refl H) _ fun rl H1 hrl e1 h1 => ?_
  · obtain ⟨t, rfl, ht⟩ := r3 i y hi
    have : ts.getD i .non = .ref t := by rw [List.getD_eq_getElem?_getD, hi]; rfl
    rw [this]
    exact fun H2 e2 Q q => ⟨_, rfl, t, _, rfl, .inr ⟨st_of (e2 _ _ (e1 _ _ ht)), q H2 (Ex.refl H2)⟩⟩
  · unfold given
    rw [List.filter_eq_self.mpr (fun _ _ => rfl)]
    apply List.ext_getElem?
    intro i
    rw [List.getElem?_map]
    by_cases hi : i < ts.length
    · rw [List.getElem?_range hi, List.getElem?_eq_getElem hi]
      show some (ts.getD i .non) = _
      rw [List.getD_eq_getElem?_getD, List.getElem?_eq_getElem hi]
      rfl
    · rw [List.getElem?_eq_none (by simp; omega), List.getElem?_eq_none (by omega)]
      rfl
  refine ⟨_, rfl, m, CM K, dx, _, .ref dd, rfl, e1 _ _ hm, T.cl_Memory, T.no_Memory_disks, rfl, _, rfl, dd, _, rfl, DPut.k (k := Sum.inl 31) (e1 _ _ hdd) (by decide), ?_⟩
  have nr : rl ≠ dd := fun z => by rw [z, hdd] at hrl; cases hrl
  have nm : m ≠ dd := ne_of hm hdd (by intro z; cases z)
  have hw1 := e1 _ _ hw
  refine k rl _ hrl ⟨by rw [upd_ne nm]; exact e1 _ _ hm, upd_same, ⟨ts, by rw [upd_ne nr]; exact h1, r2, fun i v hv => ?_⟩, fun z => by rw [z, hw] at hrl; cases hrl⟩ ((FS.of e1).trans (FS.put (by simp)))
  obtain ⟨t, e2, e3⟩ := r3 i v hv
  exact ⟨t, e2, by rw [upd_ne (ne_of e3 hdd (by intro z; cases z))]; exact e1 _ _ e3⟩
def sp_put_sector (K : PySem.W.Frag) : Sp := fun vs H Q _ => ∃ (m wl dx dd rl ta : Addr) (rows : List (List Int)) (n : Nat) (row : List Int), vs = [.ref m, .int 31, .int (n : Int), .ref ta] ∧ DiskAt K H m wl dx dd rl rows ∧ n < rows.length ∧ H ta = some (.tup (row.map V.int)) ∧
  ∀ H', DiskAt K H' m wl dx dd rl (rows.set n row) → FS [rl] H H' → Q .non H'
theorem ok_Memory_put_sector (T : Txt K mg) : FnOk P w K mg base CX0 1 (f_Memory_put_sector K) (fd_Memory_put_sector K) ["self", "frame", "number", "row"] (sp_put_sector K) := by
  refine T.fn_Memory_put_sector.ok sc_Memory_put_sector (fun vs H Q E h => ?_) (fun cdv A outer s H vs Q E hr h => ?_)
  · obtain ⟨_, _, _, _, _, _, _, _, _, rfl, _⟩ := h
    rfl
  have hu := hu_of hr
  refine ⟨_, PSs.nox (pss_one (ps_asg (pe_callTy call_tuple_of (by rfl) T.free_tuple (by decide +kernel) (pa_cons (pv 3) pa_nil)) (pg_sub (pe_dget hu (pe_fld (pv 0) rfl) (pv 1) (fun _ _ => rfl)) (pv 2) set_list))), ?_⟩
  obtain ⟨m, wl, dx, dd, rl, ta, rows, n, row, rfl, hD, hn, hta, k⟩ := h
  obtain ⟨ts, r1, r2, r3⟩ := hD.rs
  refine ⟨_, rfl, ta, _, rfl, .inr ⟨st_of hta, _, rfl, m, CM K, dx, _, .ref dd, rfl, hD.ins, T.cl_Memory, T.no_Memory_disks, rfl, _, rfl, dd, .ref rl, rfl, DGet.k (k := Sum.inl 31) hD.di, _, rfl, rl, ts, _, n, rfl, rfl, r1, ixN_nat (by omega), ?_⟩⟩
  have n1 : m ≠ rl := ne_of hD.ins r1 (by intro z; cases z)
  have n2 : dd ≠ rl := ne_of hD.di r1 (by intro z; cases z)
  have n3 : ∀ t xs, H t = some (.tup xs) → t ≠ rl := fun t xs ht => ne_of ht r1 (by intro z; cases z)
  refine k _ ⟨by rw [upd_ne n1]; exact hD.ins, by rw [upd_ne n2]; exact hD.di, ⟨_, upd_same, by rw [List.length_set, List.length_set]; exact r2, fun i v hv => ?_⟩, hD.nw⟩ (FS.put (by simp))
  rw [List.getElem?_set] at hv
  by_cases e : n = i
  · subst e
    rw [if_pos rfl, if_pos (by omega)] at hv
    cases hv
    refine ⟨ta, rfl, ?_⟩
    rw [upd_ne (n3 _ _ hta), List.getD_eq_getElem?_getD, List.getElem?_set, if_pos rfl, if_pos hn]
    exact hta
  · rw [if_neg e] at hv
    obtain ⟨t, e1, e2⟩ := r3 i v hv
    refine ⟨t, e1, ?_⟩
    rw [upd_ne (n3 _ _ e2), List.getD_eq_getElem?_getD, List.getElem?_set, if_neg e, ← List.getD_eq_getElem?_getD]
    exact e2
end
end KQ

/-! ### zip(t, l), t a tuple, l a list -/
namespace ZrM
open PySem PySem.Calls PyProof.Rows PyProof.V PySem.Spec
theorem sep (I a b : Nat) (ha : a < I) (hb : b < I) : ZipSep2 (I + 4) (I + 2) (I + 3) I (I + 1) [I, a] [I + 1, b] := by
  have m : ∀ x y z : Nat, x ≠ y → x ≠ z → x ∉ ([y, z] : List Nat) := fun x y z h1 h2 q => by
    rcases List.mem_cons.mp q with e | q
    · exact h1 e
    · rcases List.mem_cons.mp q with e | q
      · exact h2 e
      · cases q
  exact { TIz := Nat.ne_of_lt (by omega), TOz := Nat.ne_of_lt (by omega), TITO := Nat.ne_of_lt (by omega), TIi1 := Nat.ne_of_gt (by omega), mem1 := List.mem_cons_self .., zf1 := m _ _ _ (Nat.ne_of_gt (by omega)) (Nat.ne_of_gt (by omega)), Tf1 := m _ _ _ (Nat.ne_of_gt (by omega)) (Nat.ne_of_gt (by omega)),
          TIi2 := Nat.ne_of_gt (by omega), mem2 := List.mem_cons_self .., zf2 := m _ _ _ (Nat.ne_of_gt (by omega)) (Nat.ne_of_gt (by omega)), Tf2 := m _ _ _ (Nat.ne_of_gt (by omega)) (Nat.ne_of_gt (by omega)),
          sep1_2 := m _ _ _ (Nat.ne_of_lt (by omega)) (Nat.ne_of_gt (by omega)), sep2_1 := m _ _ _ (Nat.ne_of_gt (by omega)) (Nat.ne_of_gt (by omega)) }
end ZrM
namespace KA
open PySem PySem.Spec PyProof.Rows L2
def ItM (K : PySem.W.Frag) (a b : Addr) : It :=
  ⟨fun i H => ∃ (xs ys : List V) (x y : V), SqT K H a xs ∧ SqL K H b ys ∧ xs[i]? = some x ∧ ys[i]? = some y,
   fun i H v H' => ∃ T x y, v = .ref T ∧ H T = none ∧ H' = upd H T (.tup [x, y]) ∧ (∀ xs, SqT K H a xs → xs[i]? = some x) ∧ ∀ ys, SqL K H b ys → ys[i]? = some y,
   fun i H => ∃ xs ys : List V, SqT K H a xs ∧ SqL K H b ys ∧ i = xs.length ∧ ys.length = xs.length⟩
theorem turn_zipM {P : Program} {w : World} {K : PySem.W.Frag} {elts : List Expr} {kk : Nat} {tpos : Pos} {a b z TI TO i1 i2 : Addr} (D : PySem.ZipSep2 z TI TO i1 i2 [i1, a] [i2, b]) (hai : a ≠ i1) (hbi : b ≠ i2) :
    Turn P w K (.Tuple elts kk tpos) (ItM K a b) [z, TI, TO, i1, i2] z (fun i h => IsZip h z TI TO .none ∧ IsPair h TI (.ref i1) (.ref i2) ∧ (∃ x y, IsPair h TO x y) ∧ h.IsTupleIter i1 a i ∧ h.IsListIter i2 b i) where
  mem := by simp
  obj := fun i h st c hc => by
    obtain ⟨hz, hTI, ⟨x, y, hTO⟩, ⟨o1, e1, _, d1⟩, ⟨o2, e2, _, d2⟩⟩ := st
    have e' : c = z ∨ c = TI ∨ c = TO ∨ c = i1 ∨ c = i2 := by simpa using hc
    rcases e' with q | q | q | q | q
    · rw [q]; exact ⟨_, hz, fun v q => nomatch q⟩
    · rw [q]; exact ⟨_, hTI, fun v q => nomatch q⟩
    · rw [q]; exact ⟨_, hTO, fun v q => nomatch q⟩
    · rw [q]; exact ⟨o1, e1, fun v q => by rw [d1] at q; cases q⟩
    · rw [q]; exact ⟨o2, e2, fun v q => by rw [d2] at q; cases q⟩
  keep := fun i h h' st k => by
    obtain ⟨hz, hTI, ⟨x, y, hTO⟩, h1, h2⟩ := st
    exact ⟨k z (by simp) _ hz, k TI (by simp) _ hTI, ⟨x, y, k TO (by simp) _ hTO⟩, h1.at fun o q => k i1 (by simp) o q, h2.at fun o q => k i2 (by simp) o q⟩
  item := by
    intro X hP hw hK hc i pins s σ H E I hf st hg
    subst hP hw hK
    obtain ⟨hz, hTI, ⟨x0, y0, hTO⟩, h1, h2⟩ := st
    obtain ⟨xs, ys, x, y, hqx, hqy, hx, hy⟩ := hg
    obtain ⟨its1, rv1, p1, _⟩ := I.tuple hqx
    obtain ⟨u1, hu1, ru1⟩ := rv1.get hx
    obtain ⟨its2, rv2, p2, _⟩ := I.list hqy
    obtain ⟨u2, hu2, ru2⟩ := rv2.get hy
    have hzl : z < s.heap.objs.size := Heap.lt_size hz
    have hlt1 : i < its1.toArray.size := by rw [List.size_toArray]; exact (List.getElem?_eq_some_iff.mp hu1).1
    have hlt : i < its2.toArray.size := by rw [List.size_toArray]; exact (List.getElem?_eq_some_iff.mp hu2).1
    refine wpAny_pyNext_zipD2_item D (Draws.tuple (A := X.A.in1) (I.ok.hd hc) i1 a hai its1.toArray) (Draws.list (A := X.A.in1) (I.ok.hd hc) i2 b hbi its2.toArray) hz hTI hTO ⟨h1, p1⟩ ⟨h2, p2.isList⟩ hlt1 hlt fun x1 x2 h' tk P1 P2 z' TO' st1 st2 hT hsz hk => ?_
    obtain rfl : x1 = u1 := by
      have : its1[i]? = some x1 := by simpa using P1
      rw [hu1] at this
      exact (Option.some.inj this).symm
    obtain rfl : x2 = u2 := by
      have : its2[i]? = some x2 := by simpa using P2
      rw [hu2] at this
      exact (Option.some.inj this).symm
    obtain ⟨h1', p1'⟩ := st1
    obtain ⟨h2', p2'⟩ := st2
    refine ⟨_, rfl, wpAny_letOwnedTupleGo_zip (s := { s with heap := h', toks := tk }) z' fun h'' z'' sb => ?_⟩
    have hT2 : h''.get? s.heap.objs.size = some { cls := .type "tuple", data := .seq #[x1, x2] } := (sb.2 _ (Nat.ne_of_gt hzl)).trans hT
    have new : ObjOk X.prog X.w (upd H s.heap.objs.size (.tup [x, y])) h'' s.heap.objs.size (.tup [x, y]) :=
      ⟨by show 2 ≤ sizeLine; decide, [x1, x2], .cons ru1 (.cons ru2 .nil), ⟨_, hT2, rfl, _, rfl⟩⟩
    have I1 : Inv X pins σ (upd H s.heap.objs.size (.tup [x, y])) { s with heap := h'', toks := tk } :=
      I.turnedNew (t' := tk) (ch := [z, TI, TO, i1, i2]) (fun c o hb q => (sb.2 c (fun q' => hb (by simp [q']))).trans (hk c o (fun q' => hb (by simp [q'])) (fun q' => hb (by simp [q'])) (fun q' => hb (by simp [q'])) (fun q' => hb (by simp [q'])) q)) hf (Nat.le_refl _) new
    refine ⟨.ref s.heap.objs.size, _, I1, rfl, ⟨_, x, y, rfl, I.hok.fresh (Nat.le_refl _), rfl, fun l hl => by rw [I.tuple_inj hl hqx]; exact hx, fun l hl => by rw [I.list_inj hl hqy]; exact hy⟩, ⟨z'', ?_, ⟨x1, x2, ?_⟩, ?_, ?_⟩, fun c hcm => ?_⟩
    · exact (sb.2 _ D.TIz).trans (hk _ _ D.TIz D.TITO D.TIi1 D.TIi2 hTI)
    · exact (sb.2 _ D.TOz).trans TO'
    · exact h1'.at fun o q => (sb.2 _ (Ne.symm D.zi1)).trans q
    · exact h2'.at fun o q => (sb.2 _ (Ne.symm D.zi2)).trans q
    · have hlt : c < s.heap.objs.size := by
        have e' : c = z ∨ c = TI ∨ c = TO ∨ c = i1 ∨ c = i2 := by simpa using hcm
        rcases e' with q | q | q | q | q
        · rw [q]; exact hzl
        · rw [q]; exact Heap.lt_size hTI
        · rw [q]; exact Heap.lt_size hTO
        · rw [q]; obtain ⟨_, e1, _⟩ := h1; exact Heap.lt_size e1
        · rw [q]; obtain ⟨_, e2, _⟩ := h2; exact Heap.lt_size e2
      rw [upd_ne (Nat.ne_of_lt hlt)]
      exact (hf c hcm).1
  done := by
    intro X hP hw hK hc i pins s σ H E I hf st hg
    subst hP hw hK
    obtain ⟨hz, hTI, ⟨x0, y0, hTO⟩, h1, h2⟩ := st
    obtain ⟨xs, ys, hqx, hqy, rfl, hlen⟩ := hg
    obtain ⟨its1, rv1, p1, _⟩ := I.tuple hqx
    obtain ⟨its2, rv2, p2, _⟩ := I.list hqy
    have l1 := rv1.length
    have l2 := rv2.length
    have hsz1 : its1.toArray.size = xs.length := by rw [List.size_toArray]; omega
    have hsz : its2.toArray.size = xs.length := by rw [List.size_toArray]; omega
    exact wpAny_pyNext_zipD2_end D (Draws.tuple (A := X.A.in1) (I.ok.hd hc) i1 a hai its1.toArray) (Draws.list (A := X.A.in1) (I.ok.hd hc) i2 b hbi its2.toArray) hz hTI hTO ⟨h1, p1⟩ ⟨h2, p2.isList⟩ (by omega) (by omega) (.inl (by omega)) fun h' tk hk => ⟨rfl, I.turnedL (t' := tk) (ch := [z, TI, TO, i1, i2]) (fun c o hb q =>
      hk c o (fun q' => hb (by simp [q'])) (fun q' => hb (by simp [q'])) (fun q' => hb (by simp [q'])) (fun q' => hb (by simp [q'])) q) hf⟩
  self := fun A i s Q E st h => wpAny_pyIter_zip st.1 h
def iZipM (K : PySem.W.Frag) (ta : TA) : TI := fun σ H R => ta σ H fun vs H1 => ∃ a b xs ys, vs = [.ref a, .ref b] ∧ SqT K H1 a xs ∧ SqL K H1 b ys ∧ R (ItM K a b) H1
theorem pi_zipM {X : Cx} {e e2 : Expr} {ta : TA} {p pos tpos : Pos} {elts : List Expr} {kk : Nat} (hg : Gl X "zip") (hm : X.mg "zip" = none) (ha : PA X [e, e2] ta)
    (hs : starEach [e, e2] X.env = (false, eval e X.env) :: starEach [e2] X.env := by rfl) (hpl : (backTo pos (starEach [e2] X.env)).any (·.1) = false := by rfl) :
    PI X (.Tuple elts kk tpos) (.Call (.Name "zip" p) [e, e2] [] pos) (iZipM X.K ta) := by
  refine ⟨fun pins s σ H R I h => ?_⟩
  refine Call_ (ld_blt I hg hm PyProof.Rows.boot_zip (PyProof.Rows.callWith_type1 (thn (ha.run pos pins s σ H _ I h) fun us s1 ⟨vs, H1, I1, r1, q1⟩ => ?_) hs hpl))
  obtain ⟨a, b, xs, ys, ex, hqx, hqy, q⟩ := q1
  subst ex
  cases r1 with
  | cons r0 rr =>
    cases rr with
    | cons r' rr =>
      cases rr
      cases r0
      cases r'
      obtain ⟨its1, rv1, p1, _⟩ := I1.tuple hqx
      obtain ⟨its2, rv2, p2, _⟩ := I1.list hqy
      obtain ⟨o1, ho1, _⟩ := id p1
      obtain ⟨o2, ho2, _⟩ := id p2.isList
      have ha : a < s1.heap.objs.size := Heap.lt_size ho1
      have hb : b < s1.heap.objs.size := Heap.lt_size ho2
      refine PySem.zip_begins2 (begins_tuple a its1.toArray) (begins_list b its2.toArray) p1 p2.isList fun h' hz hTI hTO h1 h2 hsz hk => wpAny_pyIter_zip hz ?_
      have I2 : Inv X pins σ H1 { s1 with heap := h' } := I1.kept (t' := s1.toks) hk
      have D : PySem.ZipSep2 (s1.heap.objs.size + 4) (s1.heap.objs.size + 2) (s1.heap.objs.size + 3) s1.heap.objs.size (s1.heap.objs.size + 1) [s1.heap.objs.size, a] [s1.heap.objs.size + 1, b] := ZrM.sep _ _ _ ha hb
      refine ⟨s1.heap.objs.size + 4, [s1.heap.objs.size + 4, s1.heap.objs.size + 2, s1.heap.objs.size + 3, s1.heap.objs.size, s1.heap.objs.size + 1], _, _, H1, rfl, I2, turn_zipM D (Nat.ne_of_lt ha) (Nat.ne_of_lt (Nat.lt_succ_of_lt hb)), ⟨hz, hTI, ⟨_, _, hTO⟩, ⟨_, h1, rfl, rfl⟩, ⟨_, h2, rfl, rfl⟩⟩, fun c hcm => ?_, q⟩
      have e' : c = s1.heap.objs.size + 4 ∨ c = s1.heap.objs.size + 2 ∨ c = s1.heap.objs.size + 3 ∨ c = s1.heap.objs.size ∨ c = s1.heap.objs.size + 1 := by simpa using hcm
      have hle : s1.heap.objs.size ≤ c := by
        rcases e' with z | z | z | z | z
        · rw [z]; exact Nat.le_add_right _ _
        · rw [z]; exact Nat.le_add_right _ _
        · rw [z]; exact Nat.le_add_right _ _
        · rw [z]; exact Nat.le_refl _
        · rw [z]; exact Nat.le_add_right _ _
      exact I1.fpOk hle (I1.hok.fresh hle)
theorem for_zipM {σ : L2.St} {H : Hp} {K : PySem.W.Frag} {D : Ends} {a b : Addr} {xs ys : List V} {g : TG} {tb : TS} (hlen : ys.length = xs.length) (Pv : Nat → L2.St → Hp → Prop) (h0 : Pv 0 σ H) (hl : ∀ i σ H, i ≤ xs.length → Pv i σ H → SqT K H a xs ∧ SqL K H b ys)
    (hs : ∀ i x y σ H T, xs[i]? = some x → ys[i]? = some y → Pv i σ H → H T = none → g (.ref T) σ (upd H T (.tup [x, y])) fun σ2 H2 => tb { D with nx := Pv (i + 1), ct := Pv (i + 1), bk := D.nx } σ2 H2) (hd : ∀ σ H, Pv xs.length σ H → D.nx σ H) :
    ∃ W : Nat → Nat → L2.St → Hp → Prop, (∃ m, W 0 m σ H) ∧ ∀ i m σ H, W i m σ H →
      ((ItM K a b).stop i H ∧ D.nx σ H) ∨ ((ItM K a b).go i H ∧ ∃ N : L2.St → Hp → Prop, (∀ σ' H', N σ' H' → ∃ m', m' < m ∧ W (i + 1) m' σ' H') ∧ ∀ x H', (ItM K a b).yld i H x H' → g x σ H' fun σ2 H2 => tb { D with nx := N, ct := N, bk := D.nx } σ2 H2) := by
  refine ⟨fun i m σ H => m = xs.length - i ∧ i ≤ xs.length ∧ Pv i σ H, ⟨xs.length, by simp, Nat.zero_le _, h0⟩, ?_⟩
  rintro i m σ H ⟨rfl, hi, p⟩
  obtain ⟨qx, qy⟩ := hl i σ H hi p
  by_cases hlt : i < xs.length
  · refine .inr ⟨⟨xs, ys, xs[i], ys[i]'(by omega), qx, qy, List.getElem?_eq_getElem hlt, List.getElem?_eq_getElem (by omega)⟩, Pv (i + 1), fun σ' H' p' => ⟨xs.length - (i + 1), by omega, rfl, hlt, p'⟩, fun v H' yl => ?_⟩
    obtain ⟨T, x, y, rfl, hT, rfl, hx, hy⟩ := yl
    exact hs i x y σ H T (hx xs qx) (hy ys qy) p hT
  · have e : i = xs.length := by omega
    subst e
    exact .inl ⟨⟨xs, ys, qx, qy, rfl, hlen⟩, hd σ H p⟩
end KA

namespace KQ
open KA
open PySem PySem.Spec PyProof.Rows L2 Evl TL
/-! ### the guard of the device -/
def mentD (μ : Mem) (t pg : Int) (c : Nat → Int) : Nat → Mem
  | 0 => μ
  | k + 1 => mset (mentD μ t pg c k) (ix t (pg * 4 + 8 + (k : Int))) (c k)
theorem mentD_other {μ : Mem} {t pg : Int} {c : Nat → Int} {j : Nat} : ∀ (i : Nat), (∀ k : Nat, k < i → j ≠ ix t (pg * 4 + 8 + (k : Int))) → mentD μ t pg c i j = μ j
  | 0, _ => rfl
  | i + 1, h => by
    show mset (mentD μ t pg c i) (ix t (pg * 4 + 8 + (i : Int))) (c i) j = μ j
    unfold mset
    rw [if_neg (h i (Nat.lt_succ_self i))]
    exact mentD_other i fun k hk => h k (Nat.lt_succ_of_lt hk)
section
variable {σ : L2.St} {H : Hp} {K : PySem.W.Frag} {D : Ends} {tz : TS} {te : TE}
/-- a, b = f(..), f gives a new pair -/
theorem q_pair {sp : Sp} {vs : List V} {ta : TA} {i j : Nat} {u v : V} (h : EvA ta σ H vs) (hs : ∀ H1, Ex H H1 → ∀ Q : VK, (∀ q H2, H1 q = none → Ex H1 H2 → H2 q = some (.tup [u, v]) → Q (.ref q) H2) → sp (vs ++ []) H1 Q E0)
    (k : ∀ H1, Ex H H1 → tz D ((σ.set i (some u)).set j (some v)) H1) : tSeq (tAsg (tCall sp [] E0 ta) (gTup K 2 (gCons (gName i) (gCons (gName j) gNil)))) tz D σ H :=
  h H (Ex.refl H) (fun vs H1 => sp (vs ++ []) H1 (fun x H2 => gTup K 2 (gCons (gName i) (gCons (gName j) gNil)) x σ H2 (tz D)) E0) fun H1 e1 => hs H1 e1 _ fun q H2 hq e2 h2 => ⟨q, _, rfl, st_of h2, rfl, _, _, rfl, _, _, rfl, rfl, k H2 (e1.trans e2)⟩
/-- f(..)[i], f gives a new tuple -/
theorem ev_callIx {sp : Sp} {vs xs : List V} {ta : TA} {tb : TE} {n : Int} {v : V} (h : EvA ta σ H vs) (hs : ∀ H1, Ex H H1 → ∀ Q : VK, (∀ q H2, H1 q = none → Ex H1 H2 → H2 q = some (.tup xs) → Q (.ref q) H2) → sp (vs ++ []) H1 Q E0) (hb : ∀ H1, Ex H H1 → Ev tb σ H1 (.int n)) (hx : atI xs n = some v) :
    Ev (tOp (rIxT K) (tCall sp [] E0 ta) tb) σ H v := fun H1 e Q q => h H1 e _ fun H2 e2 => hs H2 (e.trans e2) _ fun p H3 hp e3 h3 => hb H3 ((e.trans e2).trans e3) H3 (Ex.refl H3) _ fun H4 e4 => ⟨p, xs, n, v, rfl, rfl, st_of (e4 _ _ h3), hx, q H4 ((e2.trans e3).trans e4)⟩
theorem q_parVL {ta tb : TE} {i j : Nat} {w : V} {xs : List V} (ha : Ev ta σ H w) (hb : ∀ H1, Ex H H1 → EvL tb σ H1 xs) (k : ∀ p H1, H p = none → Ex H H1 → H1 p = some (.lst xs) → tz D ((σ.set i (some w)).set j (some (.ref p))) H1) : tSeq (tPar i j (tCons ta (tCons tb tNil))) tz D σ H :=
  ha H (Ex.refl H) (fun x H1 => tCons tb tNil σ H1 fun vs H2 => ∃ v w, x :: vs = [v, w] ∧ tz D ((σ.set i (some v)).set j (some w)) H2) fun H1 e1 => hb H1 e1 H1 (Ex.refl H1) (fun y H2 => ∃ v w', [w, y] = [v, w'] ∧ tz D ((σ.set i (some v)).set j (some w')) H2) fun p H2 hp e2 h2 => ⟨_, _, rfl, k p H2 (fresh_back e1 hp) (e1.trans e2) h2⟩
theorem el_lcU {xs : List V} {tl : TE} {j : Nat} {vs : List Nat} (v : Nat → V) (h : EvU tl σ H xs) (hz : xs.length ≤ 40000) (hw : ∀ x, wipe ((wipe σ vs).set j (some x)) vs = wipe σ vs) (he : ∀ (i : Nat) (y : V) H1, Ex H H1 → xs[i]? = some y → Ev te ((wipe σ vs).set j (some y)) H1 (v i)) :
    EvL (tLc (iTup K tl) (gName j) (fun _ H Q => Q true H) te vs) σ H (given xs.length (fun _ => true) v) := fun H0 e Q q => h H0 e _ fun p H1 hp e1 h1 => ⟨p, rfl, ⟨xs, st_of h1⟩, fun Dl hD =>
  lc_tup (K := K) (xs := xs) (g := gName j) (tt := fun _ H Q => Q true H) (te := te) (vs := vs) (σ := σ) (Cw H1 (fun _ => true) v Dl) ⟨hD, Ex.new hD, upd_same⟩ (fun i H' _ p' => st_of (p'.2.1 _ _ h1)) (fun i x H' hi p' => ⟨hw x, cw_turn p' (by have := (List.getElem?_eq_some_iff.mp hi).1; omega) et_yes fun _ => he i x H1 (e.trans e1) hi⟩)
    (fun H' p' => q Dl H' (fresh_back e1 p'.1) (e1.trans p'.2.1) p'.2.2)⟩
theorem q_forZM {ta tb : TE} {g : TG} {tu : TS} {xs ys : List V} (ha : EvU ta σ H xs) (hb : ∀ H1, Ex H H1 → EvL tb σ H1 ys) (hlen : ys.length = xs.length) (Pv : Addr → Addr → Nat → L2.St → Hp → Prop)
    (h0 : ∀ p q H1, Ex H H1 → H1 p = some (.tup xs) → H1 q = some (.lst ys) → H q = none → Pv p q 0 σ H1) (hl : ∀ p q i σ' H', Pv p q i σ' H' → H' p = some (.tup xs) ∧ H' q = some (.lst ys))
    (hs : ∀ p q i x y σ' H' T, xs[i]? = some x → ys[i]? = some y → Pv p q i σ' H' → H' T = none → g (.ref T) σ' (L2.upd H' T (.tup [x, y])) fun σ2 H2 => tu { D with nx := Pv p q (i + 1), ct := Pv p q (i + 1), bk := tz D } σ2 H2) (hd : ∀ p q σ' H', Pv p q xs.length σ' H' → tz D σ' H') :
    tSeq (tFor (iZipM K (tCons ta (tCons tb tNil))) g tu) tz D σ H := by
  change ta σ H _
  refine ha H (Ex.refl H) _ fun p H1 hp e1 h1 => ?_
  change tb σ H1 _
  refine hb H1 e1 H1 (Ex.refl H1) _ fun q H2 hq e2 h2 => ?_
  exact ⟨p, q, xs, ys, rfl, st_of (e2 _ _ h1), sq_of h2, for_zipM (D := { D with nx := tz D }) hlen (Pv p q) (h0 p q H2 (e1.trans e2) (e2 _ _ h1) h2 (fresh_back e1 hq)) (fun i σ' H' _ hp' => ⟨st_of (hl p q i σ' H' hp').1, sq_of (hl p q i σ' H' hp').2⟩) (hs p q) (hd p q)⟩
theorem ev_lenDisk {m wl dx dd rl : Addr} {rows : List (List Int)} {tm tf : TE} (hD : DiskAt K H m wl dx dd rl rows) (hm : Ev tm σ H (.ref m)) (hf : Ev tf σ H (.int 31)) : Ev (tCB (fun xs H Q => ∃ x n, xs = [x] ∧ LenV K x H n ∧ Q (.int n) H) (tCons (tMeth (CM K) "disk" (sp_disk K) [] E0 tm (tCons tf tNil)) tNil)) σ H (.int (rows.length : Int)) := fun H1 e Q q =>
  hm H1 e _ fun H2 e2 => ⟨m, dx, _, rfl, (hD.keep (e.trans e2)).ins, rfl, hf H2 (e.trans e2) _ fun H3 e3 => ⟨m, wl, dx, dd, rl, rows, rfl, hD.keep ((e.trans e2).trans e3), fun p H4 hp e4 ⟨ts, t1, t2, t3⟩ => ⟨_, ts.length, rfl, .inr ⟨ts, st_of t1, rfl⟩, by rw [t2]; exact q H4 ((e2.trans e3).trans e4)⟩⟩⟩
end
section
variable {P : Program} {w : World} {K : PySem.W.Frag} {mg : Str → Option Value} {base : Heap}
def sp_put_entry (K : PySem.W.Frag) : Sp := fun vs H Q _ => ∃ (m wl pc : Addr) (μ : Mem) (t pg : Int) (c : Nat → Int), vs = [.ref m, .int t, .int pg, .ref pc] ∧ MemAt K H m wl μ ∧ InF t ∧ 2 ≤ t ∧ 0 ≤ pg ∧ pg < 4 ∧ μ (ix 1 t) = 8 ∧ H pc = some (.tup (ent3 c)) ∧ ∀ H', MemAt K H' m wl (mentD μ t pg c 3) → Fr wl H H' → Q .non H'
theorem ok_put_entry (T : Txt K mg) : FnOk P w K mg base CX0 4 (f_put_entry K) (fd_put_entry K) ["memory", "table", "page", "told"] (sp_put_entry K) := by
  refine T.fn_put_entry.ok sc_put_entry (fun vs H Q E h => ?_) (fun cdv A outer s H vs Q E hr h => ⟨_, PSs.nox (pss_one (ps_for PassesOwn.never rfl (pi_range1 (by rfl) T.free_range (pa_cons pe_int pa_nil)) (pg_name (i := 4) sc_put_entry.nd rfl (Or.inl rfl)) (pss_one (ps_expr (pe_meth (pv 0) (T.cl_Memory) (T.mt_Memory_put) (ok_Memory_put T) (hr.mono (by decide)) (T.bd_Memory_put) .nil pass0 (pa_cons (pv 1) (pa_cons (pe_op op_add (pe_call (ok_entry_at T) (hr.mono (by decide)) (by rfl) (T.glo_entry_at) (T.kp_entry_at) (T.bd_entry_at) .nil pass0 (pa_cons (pv 0) (pa_cons (pv 1) (pa_cons (pv 2) pa_nil)))) (pv 4)) (pa_cons (pe_ix ix_tup (pv 3) (pv 4) (fun _ _ => rfl)) pa_nil)))))))), ?_⟩)
  · obtain ⟨_, _, _, _, _, _, _, rfl, _⟩ := h
    rfl
  · obtain ⟨m, wl, pc, μ, t, pg, c, rfl, hM, hI, t2, p1, p2, h8, hc, k⟩ := h
    refine s_forR1 (j := 4) (ea_cons ev_c ea_nil) (by decide) (fun i σ' H' => ∃ x4, σ' = [some (.ref m), some (.int t), some (.int pg), some (.ref pc), x4] ∧ MemAt K H' m wl (mentD μ t pg c i) ∧ Fr wl H H') (fun H1 e1 => ⟨none, rfl, hM.keep e1, Fr.of e1⟩) ?_ ?_
    · rintro i σ' H' hi ⟨x4, rfl, hM', f'⟩
      have hi3 : i < 3 := by omega
      have hpc : H' pc = some (.tup (ent3 c)) := f' _ _ hc (ne_of hc hM.ws (by intro z; cases z))
      have h8' : eat (mentD μ t pg c i) t pg = pg * 4 + 8 := by
        unfold eat
        rw [mentD_other i fun k hk => ix_ne (by omega) (by omega) (by omega), if_pos h8]
      refine s_put hM' (ev_var rfl) (ev_var rfl) (ev_op (ev_is (ev_eat hM' (ev_var rfl) (ev_var rfl) (ev_var rfl) hI) (by rw [h8'])) (ev_var rfl) rv_I0) (ev_op (ev_var rfl) (ev_var rfl) (rv_ixT hpc (by have := ent3_at (c := c) hi3; simpa using this))) (by omega) fun H2 h2 f2 => ⟨_, rfl, h2, f'.trans f2⟩
    · rintro σ' H1 ⟨x4, rfl, hM1, f1⟩
      exact k H1 hM1 f1
theorem q_entD {σ : L2.St} {H : Hp} {D : Ends} {tz : TS} {m wl : Addr} {μ : Mem} {tm tf tp tc : TE} {s x : Int} {c : Nat → Int} (hM : MemAt K H m wl μ) (hm : Ev tm σ H (.ref m)) (hf : Ev tf σ H (.int s)) (hp : Ev tp σ H (.int x)) (hc : EvU tc σ H (ent3 c)) (hI : InF s ∧ 2 ≤ s ∧ 0 ≤ x ∧ x < 4) (h8 : μ (ix 1 s) = 8)
    (k : ∀ H', MemAt K H' m wl (mentD μ s x c 3) → Fr wl H H' → tz D σ H') : tSeq (tDrop (tCall (sp_put_entry K) [] E0 (tCons tm (tCons tf (tCons tp (tCons tc tNil)))))) tz D σ H :=
  hm H (Ex.refl H) _ fun H1 e1 => hf H1 e1 _ fun H2 e2 => hp H2 (e1.trans e2) _ fun H3 e3 => hc H3 ((e1.trans e2).trans e3) _ fun pc H4 hq e4 hpc =>
    have e : Ex H H4 := ((e1.trans e2).trans e3).trans e4
    ⟨m, wl, pc, μ, s, x, c, rfl, hM.keep e, hI.1, hI.2.1, hI.2.2.1, hI.2.2.2, h8, hpc, fun H' h' f' => k H' h' ((Fr.of e).trans f')⟩
abbrev CapsIn (μ : Mem) (t : Int) : Prop := μ (ix t 10) ≠ 0 → InF (μ (ix t 10) - 1)
def ownT (μ : Mem) (t p : Int) : Option Int × Option Int := ownC μ t p (match slotO μ t p with | some s => if fld μ s 0 = 8 then 8 else 3 | none => 3) 2
def sp_own_table (K : PySem.W.Frag) : Sp := fun vs H Q _ => ∃ (m wl : Addr) (μ : Mem) (t p : Int), vs = [.ref m, .int t, .int p] ∧ MemAt K H m wl μ ∧ InF t ∧ CapsIn μ t ∧ ∀ q H', H q = none → Ex H H' → H' q = some (.tup (ownV (ownT μ t p))) → Q (.ref q) H'
theorem ok_own_table (T : Txt K mg) : FnOk P w K mg base CX0 5 (f_own_table K) (fd_own_table K) ["memory", "thread", "place"] (sp_own_table K) := by
  refine T.fn_own_table.ok sc_own_table (fun vs H Q E h => ?_) (fun cdv A outer s H vs Q E hr h => ⟨_, PSs.nox (pss_cons (ps_set (i := 3) sc_own_table.nd rfl (Or.inl rfl) (pe_call (ok_slot_of T) (hr.mono (by decide)) (by rfl) (T.glo_slot_of) (T.kp_slot_of) (T.bd_slot_of) .nil pass0 (pa_cons (pv 0) (pa_cons (pv 1) (pa_cons (pv 2) pa_nil))))) (pss_cons (ps_set (i := 4) sc_own_table.nd rfl (Or.inl rfl) (pe_ifExp (PW.pt (pw_and (pt_cmpR op_notN (pv 3) pe_non (nomark _)) (pw_and1 (pt_cmpR op_eq (pe_call (ok_field T) (hr.mono (by decide)) (by rfl) (T.glo_field) (T.kp_field) (T.bd_field) .nil pass0 (pa_cons (pv 0) (pa_cons (pv 3) (pa_cons pe_int pa_nil)))) (T.pg_DEVICE) (nomark _))))) (T.pg_DEVICE) (T.pg_TABLE))) (pss_one (ps_ret (pe_call (ok_own_cap T) (hr.mono (by decide)) (by rfl) (T.glo_own_cap) (T.kp_own_cap) (T.bd_own_cap) .nil pass0 (pa_cons (pv 0) (pa_cons (pv 1) (pa_cons (pv 2) (pa_cons (pv 4) (pa_cons (T.pg_WRITE) pa_nil)))))))))), ?_⟩)
  · obtain ⟨_, _, _, _, _, rfl, _⟩ := h
    rfl
  · obtain ⟨m, wl, μ, t, p, rfl, hM, hI, hc, k⟩ := h
    refine q_asg (v := oI (slotO μ t p)) (ev_pure (ea_cons (ev_var rfl) (ea_cons (ev_var rfl) (ea_cons (ev_var rfl) ea_nil))) fun H1 e Q q => ⟨m, wl, μ, t, p, rfl, hM.keep e, hI, hc, q⟩) fun H1 e1 => ?_
    have hM1 := hM.keep e1
    refine q_asg (v := .int (match slotO μ t p with | some s => if fld μ s 0 = 8 then 8 else 3 | none => 3)) ?_ fun H2 e2 => ?_
    · cases hs : slotO μ t p with
      | none => exact ev_if (b := false) (et_is (et_and (a := false) (b := true) (et_is (et_test (ev_op (ev_var rfl) ev_c rv_notN)) rfl) (fun h => by cases h)) rfl) (fun h => by cases h) fun _ => ev_c
      | some s0 =>
        have hb := slotO_bd hs hc
        refine ev_if (b := decide (fld μ s0 0 = 8)) (et_is (et_and (a := true) (et_is (et_test (ev_op (ev_var rfl) ev_c rv_notN)) rfl) (fun _ => et_test (ev_op (ev_field (s := s0) hM1 (ev_var rfl) (ev_var rfl) ev_c (by omega)) ev_c (rv_eq rfl)))) ?_) (fun hb => ev_is ev_c ?_) fun hb => ev_is ev_c ?_
        · by_cases z : fld μ s0 0 = 8
          · rw [z, decide_eq_true rfl, decide_eq_true rfl]
            rfl
          · rw [decide_eq_false (fun y => z (V.int.inj y)), decide_eq_false z]
            rfl
        · show V.int 8 = V.int (if fld μ s0 0 = 8 then 8 else 3)
          rw [if_pos (of_decide_eq_true hb)]
        · show V.int 3 = V.int (if fld μ s0 0 = 8 then 8 else 3)
          rw [if_neg (of_decide_eq_false hb)]
    have e12 := e1.trans e2
    refine ⟨_, rfl, _, rfl, _, rfl, _, rfl, m, wl, μ, t, p, _, 2, rfl, hM.keep e12, hI, hc, by decide, by decide, fun q H3 hq e3 h3 => k q H3 (fresh_back e12 hq) (e12.trans e3) h3⟩
end
end KQ

namespace KQ
open KA
open PySem PySem.Spec PyProof.Rows L2 Evl TL
theorem dec_int {a b : Int} : decide (V.int a = V.int b) = decide (a = b) := by
  by_cases h : a = b
  · rw [h, decide_eq_true rfl, decide_eq_true rfl]
  · rw [decide_eq_false h, decide_eq_false fun z => h (V.int.inj z)]
def reg (μ : Mem) (t n : Int) : Int := μ (ix t (2 + n))
/-- what the traps map and unmap do with the guard of the device at frame 31 -/
def mapD (μ : Mem) (t s : Int) : Mem × Int :=
  if 4 ≤ reg μ t 3 then (μ, 5) else if μ (ix 31 (reg μ t 3 * 4 + 8)) ≠ 0 then (μ, 3)
  else (mentD μ 31 (reg μ t 3) (at0 [fld μ s 1 + 1, Builtin.bitAnd (Builtin.bitAnd (fld μ s 2) (reg μ t 4)) 3, s + 1]) 3, 0)
def unmapD (μ : Mem) (t : Int) : Mem × Int := if 4 ≤ reg μ t 2 then (μ, 5) else (mentD μ 31 (reg μ t 2) (at0 [0, 0, 0]) 3, 0)
section
variable {P : Program} {w : World} {K : PySem.W.Frag} {mg : Str → Option Value} {base : Heap}
section
variable {σ : L2.St} {H : Hp} {m wl : Addr} {μ : Mem} {tm tf tp : TE} {t n s : Int}
theorem ev_reg (hM : MemAt K H m wl μ) (hm : Ev tm σ H (.ref m)) (hf : Ev tf σ H (.int t)) (hp : Ev tp σ H (.int n)) (hI : InF t) (h0 : 0 ≤ n) (h1 : n < 8) : Ev (tCall (sp_get_register K) [] E0 (tCons tm (tCons tf (tCons tp tNil)))) σ H (.int (reg μ t n)) := ev_greg hM hm hf hp hI h0 h1
theorem ev_capIx {j : Int} {v : V} {tb : TE} (hM : MemAt K H m wl μ) (hm : Ev tm σ H (.ref m)) (hf : Ev tf σ H (.int s)) (hs : 0 ≤ s ∧ s < 256) (hb : ∀ H1, Ex H H1 → Ev tb σ H1 (.int j)) (hx : atI (capF μ s) j = some v) : Ev (tOp (rIxT K) (tCall (sp_cap_at K) [] E0 (tCons tm (tCons tf tNil))) tb) σ H v :=
  ev_callIx (xs := capF μ s) (ea_cons hm (ea_cons hf ea_nil)) (fun H1 e Q q => ⟨m, wl, μ, s, rfl, hM.keep e, hs.1, hs.2, q⟩) hb hx
end
def sp_map_page (K : PySem.W.Frag) : Sp := fun vs H Q _ => ∃ (m wl : Addr) (μ : Mem) (t s tb : Int), vs = [.ref m, .int t] ∧ MemAt K H m wl μ ∧ InF t ∧ CapsIn μ t ∧ ownC μ t (reg μ t 1) 2 1 = (some s, none) ∧ ownT μ t (reg μ t 2) = (some tb, none) ∧ fld μ tb 1 = 31 ∧ μ (ix 1 31) = 8 ∧ 0 ≤ s ∧ s < 256 ∧ 0 ≤ tb ∧ tb < 256 ∧ 0 ≤ reg μ t 3 ∧
  ∀ H', MemAt K H' m wl (mapD μ t s).1 → Fr wl H H' → Q (.int (mapD μ t s).2) H'
theorem ok_map_page (T : Txt K mg) : FnOk P w K mg base CX0 6 (f_map_page K) (fd_map_page K) ["memory", "thread"] (sp_map_page K) := by
  refine T.fn_map_page.ok sc_map_page (fun vs H Q E h => ?_) (fun cdv A outer s H vs Q E hr h => ⟨_, PSs.nox (pss_cons (ps_asg (pe_call (ok_own_cap T) (hr.mono (by decide)) (by rfl) (T.glo_own_cap) (T.kp_own_cap) (T.bd_own_cap) .nil pass0 (pa_cons (pv 0) (pa_cons (pv 1) (pa_cons (pe_call (ok_get_register T) (hr.mono (by decide)) (by rfl) (T.glo_get_register) (T.kp_get_register) (T.bd_get_register) .nil pass0 (pa_cons (pv 0) (pa_cons (pv 1) (pa_cons pe_int pa_nil)))) (pa_cons (T.pg_PAGE) (pa_cons (T.pg_READ) pa_nil)))))) (pg_tup (by rfl) (pgs_cons (pg_name (i := 2) sc_map_page.nd rfl (Or.inl rfl)) (pgs_cons (pg_name (i := 3) sc_map_page.nd rfl (Or.inl rfl)) pgs_nil)))) (pss_cons (ps_if (pt_cmpR op_isN (pv 2) pe_non (nomark _)) (pss_one (ps_ret (pv 3))) pss_nil) (pss_cons (ps_asg (pe_call (ok_own_table T) (hr.mono (by decide)) (by rfl) (T.glo_own_table) (T.kp_own_table) (T.bd_own_table) .nil pass0 (pa_cons (pv 0) (pa_cons (pv 1) (pa_cons (pe_call (ok_get_register T) (hr.mono (by decide)) (by rfl) (T.glo_get_register) (T.kp_get_register) (T.bd_get_register) .nil pass0 (pa_cons (pv 0) (pa_cons (pv 1) (pa_cons pe_int pa_nil)))) pa_nil)))) (pg_tup (by rfl) (pgs_cons (pg_name (i := 4) sc_map_page.nd rfl (Or.inl rfl)) (pgs_cons (pg_name (i := 3) sc_map_page.nd rfl (Or.inl rfl)) pgs_nil)))) (pss_cons (ps_if (pt_cmpR op_isN (pv 4) pe_non (nomark _)) (pss_one (ps_ret (pv 3))) pss_nil) (pss_cons (ps_par (i := 5) (j := 6) (by rfl) sc_map_page.nd rfl rfl (by decide) rfl rfl (pa_cons (pe_call (ok_get_register T) (hr.mono (by decide)) (by rfl) (T.glo_get_register) (T.kp_get_register) (T.bd_get_register) .nil pass0 (pa_cons (pv 0) (pa_cons (pv 1) (pa_cons pe_int pa_nil)))) (pa_cons (pe_ix ix_tup (pe_call (ok_cap_at T) (hr.mono (by decide)) (by rfl) (T.glo_cap_at) (T.kp_cap_at) (T.bd_cap_at) .nil pass0 (pa_cons (pv 0) (pa_cons (pv 4) pa_nil))) pe_int (fun _ _ => rfl)) pa_nil)) (by rfl)) (pss_cons (ps_if (pt_cmpR op_ge (pv 5) (pe_call (ok_entries_of T) (hr.mono (by decide)) (by rfl) (T.glo_entries_of) (T.kp_entries_of) (T.bd_entries_of) .nil pass0 (pa_cons (pv 0) (pa_cons (pv 6) pa_nil))) (nomark _)) (pss_one (ps_ret (T.pg_NO_SENSE))) pss_nil) (pss_cons (ps_if (pt_truth (pe_ix ix_tup (pe_call (ok_entry T) (hr.mono (by decide)) (by rfl) (T.glo_entry) (T.kp_entry) (T.bd_entry) .nil pass0 (pa_cons (pv 0) (pa_cons (pv 6) (pa_cons (pv 5) pa_nil)))) pe_int (fun _ _ => rfl)) (by intro _; rfl)) (pss_one (ps_ret (T.pg_TAKEN))) pss_nil) (pss_cons (ps_set (i := 7) sc_map_page.nd rfl (Or.inl rfl) (pe_call (ok_cap_at T) (hr.mono (by decide)) (by rfl) (T.glo_cap_at) (T.kp_cap_at) (T.bd_cap_at) .nil pass0 (pa_cons (pv 0) (pa_cons (pv 2) pa_nil)))) (pss_cons (ps_expr (pe_call (ok_put_entry T) (hr.mono (by decide)) (by rfl) (T.glo_put_entry) (T.kp_put_entry) (T.bd_put_entry) .nil pass0 (pa_cons (pv 0) (pa_cons (pv 6) (pa_cons (pv 5) (pa_cons (pe_tup (pa_cons (pe_op op_add (pe_ix ix_tup (pv 7) pe_int (fun _ _ => rfl)) pe_int) (pa_cons (pe_op op_and (pe_op op_and (pe_ix ix_tup (pv 7) pe_int (fun _ _ => rfl)) (pe_call (ok_get_register T) (hr.mono (by decide)) (by rfl) (T.glo_get_register) (T.kp_get_register) (T.bd_get_register) .nil pass0 (pa_cons (pv 0) (pa_cons (pv 1) (pa_cons pe_int pa_nil))))) pe_int) (pa_cons (pe_op op_add (pv 2) pe_int) pa_nil)))) pa_nil)))))) (pss_one (ps_ret (T.pg_OK)))))))))))), ?_⟩)
  · obtain ⟨_, _, _, _, _, _, rfl, _⟩ := h
    rfl
  · obtain ⟨m, wl, μ, t, s0, tb, rfl, hM, hI, hc, o1, o2, hf, hk, s1, s2, t1, t2, r0, k⟩ := h
    refine q_pair (u := .int s0) (v := .non) (ea_cons (ev_var rfl) (ea_cons (ev_var rfl) (ea_cons (ev_reg hM (ev_var rfl) (ev_var rfl) ev_c hI (by decide) (by decide)) (ea_cons ev_c (ea_cons ev_c ea_nil))))) (fun H1 e Q q => ⟨m, wl, μ, t, _, 2, 1, rfl, hM.keep e, hI, hc, by decide, by decide, fun p H2 hp e2 h2 => q p H2 hp e2 (by rw [h2, o1]; rfl)⟩) fun H1 e1 => ?_
    refine q_when (b := false) (et_is (et_test (ev_op (ev_var rfl) ev_c rv_isN)) rfl) (fun h => by cases h) fun _ H2 e2 => ?_
    have hM2 := hM.keep (e1.trans e2)
    refine q_pair (u := .int tb) (v := .non) (ea_cons (ev_var rfl) (ea_cons (ev_var rfl) (ea_cons (ev_reg hM2 (ev_var rfl) (ev_var rfl) ev_c hI (by decide) (by decide)) ea_nil))) (fun H1 e Q q => ⟨m, wl, μ, t, _, rfl, hM2.keep e, hI, hc, fun p H2 hp e2 h2 => q p H2 hp e2 (by rw [h2, o2]; rfl)⟩) fun H3 e3 => ?_
    refine q_when (b := false) (et_is (et_test (ev_op (ev_var rfl) ev_c rv_isN)) rfl) (fun h => by cases h) fun _ H4 e4 => ?_
    have hM4 := hM2.keep (e3.trans e4)
    refine q_parVV (v := .int (reg μ t 3)) (w := .int 31) (ev_reg hM4 (ev_var rfl) (ev_var rfl) ev_c hI (by decide) (by decide)) (ev_capIx (s := tb) (j := 1) hM4 (ev_var rfl) (ev_var rfl) ⟨t1, t2⟩ (fun H1 e => ev_c) (by rw [← hf]; rfl)) fun H5 e5 => ?_
    have hM5 := hM4.keep e5
    have e15 := (((e1.trans e2).trans e3).trans e4).trans e5
    refine q_when (b := decide (4 ≤ reg μ t 3)) (et_test (ev_op (ev_var rfl) (ev_pure (z := .int 4) (ea_cons (ev_var rfl) (ea_cons (ev_var rfl) ea_nil)) fun H1 e Q q => ⟨m, wl, μ, 31, rfl, hM5.keep e, ⟨by decide, by decide⟩, fun H2 e2 => by rw [if_pos hk]; exact q H2 e2⟩) rv_I0)) (fun hb H6 e6 => ?_) (fun hb H6 e6 => ?_)
    · have hr : mapD μ t s0 = (μ, 5) := if_pos (of_decide_eq_true hb)
      rw [hr] at k
      exact s_ret ev_c fun H7 e7 => k H7 (hM5.keep (e6.trans e7)) (Fr.of ((e15.trans e6).trans e7))
    have h4 := of_decide_eq_false hb
    have hM6 := hM5.keep e6
    refine q_when (b := decide (μ (ix 31 (reg μ t 3 * 4 + 8)) ≠ 0)) (et_truI (ev_callIx (xs := ent3F μ 31 (reg μ t 3)) (n := 0) (ea_cons (ev_var rfl) (ea_cons (ev_var rfl) (ea_cons (ev_var rfl) ea_nil))) (fun H1 e Q q => ⟨m, wl, μ, 31, _, rfl, hM6.keep e, ⟨by decide, by decide⟩, r0, by omega, q⟩) (fun H1 e => ev_c) ?_)) (fun hb2 H7 e7 => ?_) (fun hb2 H7 e7 => ?_)
    · show some (V.int (μ (ix 31 (eat μ 31 (reg μ t 3) + 0)))) = _
      unfold eat
      rw [if_pos hk]
      congr 4
      omega
    · have hr : mapD μ t s0 = (μ, 3) := (if_neg h4).trans (if_pos (of_decide_eq_true hb2))
      rw [hr] at k
      exact s_ret ev_c fun H8 e8 => k H8 (hM6.keep (e7.trans e8)) (Fr.of (((e15.trans e6).trans e7).trans e8))
    have hr : mapD μ t s0 = (mentD μ 31 (reg μ t 3) (at0 [fld μ s0 1 + 1, Builtin.bitAnd (Builtin.bitAnd (fld μ s0 2) (reg μ t 4)) 3, s0 + 1]) 3, 0) := (if_neg h4).trans (if_neg (of_decide_eq_false hb2))
    rw [hr] at k
    have hM7 := hM6.keep e7
    refine ⟨_, rfl, _, rfl, m, wl, μ, s0, rfl, hM7, s1, s2, fun q H8 hq e8 h8 => ?_⟩
    have hM8 := hM7.keep e8
    have e18 := ((e15.trans e6).trans e7).trans e8
    refine q_entD (s := 31) (x := reg μ t 3) (c := at0 [fld μ s0 1 + 1, Builtin.bitAnd (Builtin.bitAnd (fld μ s0 2) (reg μ t 4)) 3, s0 + 1]) hM8 (ev_var rfl) (ev_var rfl) (ev_var rfl) (eu_tup (ea_cons (ev_op (ev_op (ev_var rfl) ev_c (Evl.rv_ixT (st_of h8) (atI_nat (j := 1) rfl))) ev_c rv_I0) (ea_cons (ev_op (ev_op (ev_op (ev_var rfl) ev_c (Evl.rv_ixT (st_of h8) (atI_nat (j := 2) rfl))) (ev_reg hM8 (ev_var rfl) (ev_var rfl) ev_c hI (by decide) (by decide)) rv_I0) ev_c rv_I0) (ea_cons (ev_op (ev_var rfl) ev_c rv_I0) ea_nil))) (by show 3 ≤ 100000; decide)) ⟨⟨by decide, by decide⟩, by decide, r0, by omega⟩ hk fun H10 h10 f10 => ?_
    exact s_ret (v := .int 0) ev_c fun H11 e11 => k H11 (h10.keep e11) (((Fr.of e18).trans f10).trans (Fr.of e11))
def sp_unmap_page (K : PySem.W.Frag) : Sp := fun vs H Q _ => ∃ (m wl : Addr) (μ : Mem) (t tb : Int), vs = [.ref m, .int t] ∧ MemAt K H m wl μ ∧ InF t ∧ CapsIn μ t ∧ ownT μ t (reg μ t 1) = (some tb, none) ∧ fld μ tb 1 = 31 ∧ μ (ix 1 31) = 8 ∧ 0 ≤ tb ∧ tb < 256 ∧ 0 ≤ reg μ t 2 ∧
  ∀ H', MemAt K H' m wl (unmapD μ t).1 → Fr wl H H' → Q (.int (unmapD μ t).2) H'
theorem ok_unmap_page (T : Txt K mg) : FnOk P w K mg base CX0 6 (f_unmap_page K) (fd_unmap_page K) ["memory", "thread"] (sp_unmap_page K) := by
  refine T.fn_unmap_page.ok sc_unmap_page (fun vs H Q E h => ?_) (fun cdv A outer s H vs Q E hr h => ⟨_, PSs.nox (pss_cons (ps_asg (pe_call (ok_own_table T) (hr.mono (by decide)) (by rfl) (T.glo_own_table) (T.kp_own_table) (T.bd_own_table) .nil pass0 (pa_cons (pv 0) (pa_cons (pv 1) (pa_cons (pe_call (ok_get_register T) (hr.mono (by decide)) (by rfl) (T.glo_get_register) (T.kp_get_register) (T.bd_get_register) .nil pass0 (pa_cons (pv 0) (pa_cons (pv 1) (pa_cons pe_int pa_nil)))) pa_nil)))) (pg_tup (by rfl) (pgs_cons (pg_name (i := 2) sc_unmap_page.nd rfl (Or.inl rfl)) (pgs_cons (pg_name (i := 3) sc_unmap_page.nd rfl (Or.inl rfl)) pgs_nil)))) (pss_cons (ps_if (pt_cmpR op_isN (pv 2) pe_non (nomark _)) (pss_one (ps_ret (pv 3))) pss_nil) (pss_cons (ps_if (pt_cmpR op_ge (pe_call (ok_get_register T) (hr.mono (by decide)) (by rfl) (T.glo_get_register) (T.kp_get_register) (T.bd_get_register) .nil pass0 (pa_cons (pv 0) (pa_cons (pv 1) (pa_cons pe_int pa_nil)))) (pe_call (ok_entries_of T) (hr.mono (by decide)) (by rfl) (T.glo_entries_of) (T.kp_entries_of) (T.bd_entries_of) .nil pass0 (pa_cons (pv 0) (pa_cons (pe_ix ix_tup (pe_call (ok_cap_at T) (hr.mono (by decide)) (by rfl) (T.glo_cap_at) (T.kp_cap_at) (T.bd_cap_at) .nil pass0 (pa_cons (pv 0) (pa_cons (pv 2) pa_nil))) pe_int (fun _ _ => rfl)) pa_nil))) (nomark _)) (pss_one (ps_ret (T.pg_NO_SENSE))) pss_nil) (pss_cons (ps_expr (pe_call (ok_put_entry T) (hr.mono (by decide)) (by rfl) (T.glo_put_entry) (T.kp_put_entry) (T.bd_put_entry) .nil pass0 (pa_cons (pv 0) (pa_cons (pe_ix ix_tup (pe_call (ok_cap_at T) (hr.mono (by decide)) (by rfl) (T.glo_cap_at) (T.kp_cap_at) (T.bd_cap_at) .nil pass0 (pa_cons (pv 0) (pa_cons (pv 2) pa_nil))) pe_int (fun _ _ => rfl)) (pa_cons (pe_call (ok_get_register T) (hr.mono (by decide)) (by rfl) (T.glo_get_register) (T.kp_get_register) (T.bd_get_register) .nil pass0 (pa_cons (pv 0) (pa_cons (pv 1) (pa_cons pe_int pa_nil)))) (pa_cons (pe_tup (pa_cons pe_int (pa_cons pe_int (pa_cons pe_int pa_nil)))) pa_nil)))))) (pss_one (ps_ret (T.pg_OK))))))), ?_⟩)
  · obtain ⟨_, _, _, _, _, rfl, _⟩ := h
    rfl
  · obtain ⟨m, wl, μ, t, tb, rfl, hM, hI, hc, o2, hf, hk, t1, t2, r0, k⟩ := h
    refine q_pair (u := .int tb) (v := .non) (ea_cons (ev_var rfl) (ea_cons (ev_var rfl) (ea_cons (ev_reg hM (ev_var rfl) (ev_var rfl) ev_c hI (by decide) (by decide)) ea_nil))) (fun H1 e Q q => ⟨m, wl, μ, t, _, rfl, hM.keep e, hI, hc, fun p H2 hp e2 h2 => q p H2 hp e2 (by rw [h2, o2]; rfl)⟩) fun H1 e1 => ?_
    refine q_when (b := false) (et_is (et_test (ev_op (ev_var rfl) ev_c rv_isN)) rfl) (fun h => by cases h) fun _ H2 e2 => ?_
    have hM2 := hM.keep (e1.trans e2)
    have hcap : ∀ {σ : L2.St} {H' : Hp}, MemAt K H' m wl μ → σ[0]? = some (some (.ref m)) → σ[2]? = some (some (.int tb)) → Ev (tOp (rIxT K) (tCall (sp_cap_at K) [] E0 (tCons (tVar 0) (tCons (tVar 2) tNil))) (tC (.int 1))) σ H' (.int 31) := fun hM' g0 g2 =>
      ev_capIx (s := tb) (j := 1) hM' (ev_var g0) (ev_var g2) ⟨t1, t2⟩ (fun H1 e => ev_c) (by rw [← hf]; rfl)
    refine q_when (b := decide (4 ≤ reg μ t 2)) (et_test (ev_op (ev_reg hM2 (ev_var rfl) (ev_var rfl) ev_c hI (by decide) (by decide)) (ev_pure (z := .int 4) (ea_cons (ev_var rfl) (ea_cons (hcap hM2 rfl rfl) ea_nil)) fun H1 e Q q => ⟨m, wl, μ, 31, rfl, hM2.keep e, ⟨by decide, by decide⟩, fun H2 e2 => by rw [if_pos hk]; exact q H2 e2⟩) rv_I0)) (fun hb H3 e3 => ?_) (fun hb H3 e3 => ?_)
    · have hr : unmapD μ t = (μ, 5) := if_pos (of_decide_eq_true hb)
      rw [hr] at k
      exact s_ret ev_c fun H4 e4 => k H4 (hM2.keep (e3.trans e4)) (Fr.of (((e1.trans e2).trans e3).trans e4))
    have h4 := of_decide_eq_false hb
    have hr : unmapD μ t = (mentD μ 31 (reg μ t 2) (at0 [0, 0, 0]) 3, 0) := if_neg h4
    rw [hr] at k
    have hM3 := hM2.keep e3
    refine q_entD (s := 31) (x := reg μ t 2) (c := at0 [0, 0, 0]) hM3 (ev_var rfl) (hcap hM3 rfl rfl) (ev_reg hM3 (ev_var rfl) (ev_var rfl) ev_c hI (by decide) (by decide)) (eu_tup (ea_cons ev_c (ea_cons ev_c (ea_cons ev_c ea_nil))) (by show 3 ≤ 100000; decide)) ⟨⟨by decide, by decide⟩, by decide, r0, by omega⟩ hk fun H10 h10 f10 => ?_
    exact s_ret (v := .int 0) ev_c fun H11 e11 => k H11 (h10.keep e11) (((Fr.of ((e1.trans e2).trans e3)).trans f10).trans (Fr.of e11))
end
end KQ

namespace KQ
open KA
open PySem PySem.Spec PyProof.Rows L2 Evl TL
theorem mapD_other {μ : Mem} {t s : Int} {j : Nat} (hj : j < 1984) (h0 : 0 ≤ reg μ t 3) : (mapD μ t s).1 j = μ j := by
  unfold mapD
  split
  · rfl
  · split
    · rfl
    · exact mentD_other 3 fun k hk => by unfold ix; omega
theorem unmapD_other {μ : Mem} {t : Int} {j : Nat} (hj : j < 1984) (h0 : 0 ≤ reg μ t 2) : (unmapD μ t).1 j = μ j := by
  unfold unmapD
  split
  · rfl
  · exact mentD_other 3 fun k hk => by unfold ix; omega
/-- a trap's order for the device -/
def orderBad (μ : Mem) (t : Int) (n : Nat) : Bool := !(decide (reg μ t 2 = 1) || decide (reg μ t 2 = 2)) || (decide ((n : Int) ≤ reg μ t 3) || decide (4 ≤ reg μ t 4))
def orderD (μ : Mem) (t : Int) (n : Nat) : Mem × Int := match ownC μ t (reg μ t 1) 8 2 with
  | (none, w) => (μ, w.getD 0)
  | (some _, _) => if μ (ix 31 0) = 1 then (μ, 3) else if orderBad μ t n = true then (μ, 5) else (mlay μ 31 0 (at0 [1, reg μ t 2, reg μ t 3, reg μ t 4, 3]) 5, 0)
def statusD (μ : Mem) (t : Int) : Mem × Int := match ownC μ t (reg μ t 1) 8 1 with
  | (none, w) => (μ, w.getD 0)
  | (some _, _) => (mset μ (ix t 3) (μ (ix 31 0)), 0)
theorem inV2 {a b c : Int} : inV (.int a) [.int b, .int c] = (decide (a = b) || decide (a = c)) := by
  show ((b == a) || ((c == a) || false)) = _
  have hb : ∀ x y : Int, (x == y) = decide (y = x) := fun x y => by
    by_cases h : y = x
    · subst h
      simp
    · rw [decide_eq_false h]
      exact beq_eq_false_iff_ne.mpr (Ne.symm h)
  rw [Bool.or_false, hb, hb]
theorem ownC_none {μ : Mem} {t p k r : Int} {w : Option Int} (h : ownC μ t p k r = (none, w)) : ∃ x, w = some x := by
  unfold ownC at h
  split at h
  · cases h; exact ⟨_, rfl⟩
  · split at h
    · cases h; exact ⟨_, rfl⟩
    · split at h
      · cases h; exact ⟨_, rfl⟩
      · cases h
theorem ownC_some {μ : Mem} {t p k r s : Int} {w : Option Int} (h : ownC μ t p k r = (some s, w)) (hc : CapsIn μ t) : 0 ≤ s ∧ s < 256 ∧ w = none := by
  unfold ownC at h
  split at h
  · cases h
  · rename_i s0 hs
    split at h
    · cases h
    · split at h
      · cases h
      · cases h
        have := slotO_bd hs hc
        exact ⟨this.1, this.2, rfl⟩
section
variable {σ : L2.St} {H : Hp} {ta tb : TE}
theorem el_catL {xs ys : List V} (h1 : EvL ta σ H xs) (h2 : EvL tb σ H ys) (hz : xs.length + ys.length ≤ 100000) : EvL (tOp rCat ta tb) σ H (xs ++ ys) := fun H1 e Q q =>
  h1 H1 e _ fun p H2 hp e2 hp2 => h2 H2 (e.trans e2) _ fun p' H3 hp' e3 hp3 => ⟨p, p', xs, ys, rfl, rfl, e3 _ _ hp2, hp3, sz_of hz, fun l hl => q l _ (fresh_back (e2.trans e3) hl) ((e2.trans e3).trans (Ex.new hl)) upd_same⟩
theorem el_catR {xs ys : List V} {l : Addr} (h1 : EvL ta σ H xs) (h2 : Ev tb σ H (.ref l)) (hl : H l = some (.lst ys)) (hz : xs.length + ys.length ≤ 100000) : EvL (tOp rCat ta tb) σ H (xs ++ ys) := fun H1 e Q q =>
  h1 H1 e _ fun p H2 hp e2 hp2 => h2 H2 (e.trans e2) _ fun H3 e3 => ⟨p, l, xs, ys, rfl, rfl, e3 _ _ hp2, e3 _ _ (e2 _ _ (e _ _ hl)), sz_of hz, fun p' hp' => q p' _ (fresh_back (e2.trans e3) hp') ((e2.trans e3).trans (Ex.new hp')) upd_same⟩
end
section
variable {P : Program} {w : World} {K : PySem.W.Frag} {mg : Str → Option Value} {base : Heap}
def sp_order (K : PySem.W.Frag) : Sp := fun vs H Q _ => ∃ (m wl dx dd rl : Addr) (rows : List (List Int)) (μ : Mem) (t : Int), vs = [.ref m, .int t] ∧ MemAt K H m wl μ ∧ DiskAt K H m wl dx dd rl rows ∧ InF t ∧ CapsIn μ t ∧ (∀ s w, ownC μ t (reg μ t 1) 8 2 = (some s, w) → fld μ s 1 = 31) ∧
  ∀ H', MemAt K H' m wl (orderD μ t rows.length).1 → Fr wl H H' → Q (.int (orderD μ t rows.length).2) H'
theorem ok_order (T : Txt K mg) : FnOk P w K mg base CX0 5 (f_order K) (fd_order K) ["memory", "thread"] (sp_order K) := by
  refine T.fn_order.ok sc_order (fun vs H Q E h => ?_) (fun cdv A outer s H vs Q E hr h => ⟨_, PSs.nox (pss_cons (ps_asg (pe_call (ok_own_cap T) (hr.mono (by decide)) (by rfl) (T.glo_own_cap) (T.kp_own_cap) (T.bd_own_cap) .nil pass0 (pa_cons (pv 0) (pa_cons (pv 1) (pa_cons (pe_call (ok_get_register T) (hr.mono (by decide)) (by rfl) (T.glo_get_register) (T.kp_get_register) (T.bd_get_register) .nil pass0 (pa_cons (pv 0) (pa_cons (pv 1) (pa_cons pe_int pa_nil)))) (pa_cons (T.pg_DEVICE) (pa_cons (T.pg_WRITE) pa_nil)))))) (pg_tup (by rfl) (pgs_cons (pg_name (i := 2) sc_order.nd rfl (Or.inl rfl)) (pgs_cons (pg_name (i := 3) sc_order.nd rfl (Or.inl rfl)) pgs_nil)))) (pss_cons (ps_if (pt_cmpR op_isN (pv 2) pe_non (nomark _)) (pss_one (ps_ret (pv 3))) pss_nil) (pss_cons (ps_par (i := 4) (j := 5) (by rfl) sc_order.nd rfl rfl (by decide) rfl rfl (pa_cons (pe_ix ix_tup (pe_call (ok_cap_at T) (hr.mono (by decide)) (by rfl) (T.glo_cap_at) (T.kp_cap_at) (T.bd_cap_at) .nil pass0 (pa_cons (pv 0) (pa_cons (pv 2) pa_nil))) pe_int (fun _ _ => rfl)) (pa_cons (pe_lc (own := [("number", 6)]) (by rfl) sc_order.nd (pi_tup (pe_tup (pa_cons pe_int (pa_cons pe_int (pa_cons pe_int pa_nil))))) (blkOk_by (N := sc_order_N) (sc := defScope s_order) (own := [("number", 6)]) (by decide +kernel)) (fun _ _ _ _ _ => (pg_name (i := 6) sc_order.nd rfl (Or.inl rfl))) (fun _ _ _ _ _ => pts_nil) (fun _ _ _ _ _ => (pe_call (ok_get_register T) (hr.mono (by decide)) (by rfl) (T.glo_get_register) (T.kp_get_register) (T.bd_get_register) .nil pass0 (pa_cons (pv 0) (pa_cons (pv 1) (pa_cons (pv 6) pa_nil)))))) pa_nil)) (by rfl)) (pss_cons (ps_if (pt_cmpR op_eq (pe_meth (pv 0) (T.cl_Memory) (T.mt_Memory_word) (ok_Memory_word T) (hr.mono (by decide)) (T.bd_Memory_word) .nil pass0 (pa_cons (pv 4) (pa_cons (T.pg_D_STATUS) pa_nil))) (T.pg_BUSY) (nomark _)) (pss_one (ps_ret (T.pg_TAKEN))) pss_nil) (pss_cons (ps_if (PW.pt (pw_or (pt_cmpR op_notIn_seq (pe_ix ix_list (pv 5) pe_int (fun _ _ => rfl)) (pe_tup (pa_cons pe_int (pa_cons pe_int pa_nil))) (by rfl)) (pw_or (pt_cmpR op_ge (pe_ix ix_list (pv 5) pe_int (fun _ _ => rfl)) (pe_callB call_len (by rfl) T.free_len PySem.boot_len (pa_cons (pe_meth (pv 0) (T.cl_Memory) (T.mt_Memory_disk) (ok_Memory_disk T) (hr.mono (by decide)) (T.bd_Memory_disk) .nil pass0 (pa_cons (pv 4) pa_nil)) pa_nil)) (nomark _)) (pw_or1 (pt_cmpR op_ge (pe_ix ix_list (pv 5) pe_int (fun _ _ => rfl)) (T.pg_GUARDED) (nomark _)))))) (pss_one (ps_ret (T.pg_NO_SENSE))) pss_nil) (pss_cons (ps_for PassesOwn.never rfl (pi_zipM (by rfl) T.free_zip (pa_cons (pe_tup (pa_cons (T.pg_D_STATUS) (pa_cons (T.pg_D_ORDER) (pa_cons (T.pg_D_SECTOR) (pa_cons (T.pg_D_PAGE) (pa_cons (T.pg_D_LEFT) pa_nil)))))) (pa_cons (pe_op op_cat (pe_op op_cat (pe_lst (pa_cons (T.pg_BUSY) pa_nil)) (pv 5)) (pe_lst (pa_cons pe_int pa_nil))) pa_nil))) (pg_tup (by rfl) (pgs_cons (pg_name (i := 7) sc_order.nd rfl (Or.inl rfl)) (pgs_cons (pg_name (i := 8) sc_order.nd rfl (Or.inl rfl)) pgs_nil))) (pss_one (ps_expr (pe_meth (pv 0) (T.cl_Memory) (T.mt_Memory_put) (ok_Memory_put T) (hr.mono (by decide)) (T.bd_Memory_put) .nil pass0 (pa_cons (pv 4) (pa_cons (pv 7) (pa_cons (pv 8) pa_nil))))))) (pss_one (ps_ret (T.pg_OK))))))))), ?_⟩)
  · obtain ⟨_, _, _, _, _, _, _, _, rfl, _⟩ := h
    rfl
  · obtain ⟨m, wl, dx, dd, rl, rows, μ, t, rfl, hM, hD, hI, hc, hf, k⟩ := h
    obtain ⟨r, hr0⟩ : ∃ r, r = orderD μ t rows.length := ⟨_, rfl⟩
    rw [← hr0] at k
    unfold orderD at hr0
    cases ho : ownC μ t (reg μ t 1) 8 2 with
    | mk so wo =>
    rw [ho] at hr0
    refine q_pair (u := oI so) (v := oI wo) (ea_cons (ev_var rfl) (ea_cons (ev_var rfl) (ea_cons (ev_reg hM (ev_var rfl) (ev_var rfl) ev_c hI (by decide) (by decide)) (ea_cons ev_c (ea_cons ev_c ea_nil))))) (fun H1 e Q q => ⟨m, wl, μ, t, _, 8, 2, rfl, hM.keep e, hI, hc, by decide, by decide, fun p H2 hp e2 h2 => q p H2 hp e2 (by rw [h2, ho]; rfl)⟩) fun H1 e1 => ?_
    have hM1 := hM.keep e1
    cases so with
    | none =>
      obtain ⟨x, rfl⟩ := ownC_none ho
      have hr1 : r = (μ, x) := hr0
      rw [hr1] at k
      refine q_when (b := true) (et_is (et_test (ev_op (ev_var rfl) ev_c rv_isN)) rfl) (fun _ H2 e2 => ?_) (fun h => by cases h)
      exact s_ret (v := .int x) (ev_var rfl) fun H3 e3 => k H3 (hM1.keep (e2.trans e3)) (Fr.of ((e1.trans e2).trans e3))
    | some s0 =>
      obtain ⟨b0, b1, rfl⟩ := ownC_some ho hc
      have h31 := hf _ _ ho
      have hr1 : r = if μ (ix 31 0) = 1 then (μ, 3) else if orderBad μ t rows.length = true then (μ, 5) else (mlay μ 31 0 (at0 [1, reg μ t 2, reg μ t 3, reg μ t 4, 3]) 5, 0) := hr0
      refine q_when (b := false) (et_is (et_test (ev_op (ev_var rfl) ev_c rv_isN)) rfl) (fun h => by cases h) fun _ H2 e2 => ?_
      have hM2 := hM1.keep e2
      refine q_parVL (w := .int 31) (xs := [.int (reg μ t 2), .int (reg μ t 3), .int (reg μ t 4)]) (ev_capIx (s := s0) (j := 1) hM2 (ev_var rfl) (ev_var rfl) ⟨b0, b1⟩ (fun H1 e => ev_c) (by rw [← h31]; rfl)) (fun H3 e3 => ?_) fun tl H3 htl e3 h3 => ?_
      · refine el_is (el_lcU (K := K) (xs := [.int 2, .int 3, .int 4]) (fun i => .int (reg μ t (2 + (i : Int)))) (eu_tup (ea_cons ev_c (ea_cons ev_c (ea_cons ev_c ea_nil))) (by show 3 ≤ 100000; decide)) (by decide) (fun x => rfl) fun i y H4 e4 hi => ?_) rfl
        have : i < 3 ∧ y = .int (2 + (i : Int)) := by
          match i, hi with
          | 0, h => cases h; exact ⟨by decide, rfl⟩
          | 1, h => cases h; exact ⟨by decide, rfl⟩
          | 2, h => cases h; exact ⟨by decide, rfl⟩
        obtain ⟨h3, rfl⟩ := this
        exact ev_reg ((hM2.keep e3).keep e4) (ev_var rfl) (ev_var rfl) (ev_var rfl) hI (by omega) (by omega)
      have hM3 := hM2.keep e3
      have e13 := (e1.trans e2).trans e3
      refine q_when (b := decide (μ (ix 31 0) = 1)) (et_is (et_test (ev_op (ev_word hM3 (ev_var rfl) (ev_var rfl) ev_c (by decide)) ev_c (rv_eq rfl))) dec_int) (fun hb H4 e4 => ?_) (fun hb H4 e4 => ?_)
      · rw [if_pos (of_decide_eq_true hb)] at hr1
        rw [hr1] at k
        exact s_ret (v := .int 3) ev_c fun H5 e5 => k H5 (hM3.keep (e4.trans e5)) (Fr.of ((e13.trans e4).trans e5))
      rw [if_neg (of_decide_eq_false hb)] at hr1
      have hM4 := hM3.keep e4
      have h4 := e4 _ _ h3
      have e14 := e13.trans e4
      have hD4 := hD.keep e14
      refine q_when (b := orderBad μ t rows.length) (et_is (et_or (et_test (ev_niU (ev_op (ev_var rfl) ev_c (Evl.rv_ixL (sq_of h4) (atI_nat (j := 0) rfl))) (eu_tup (ea_cons ev_c (ea_cons ev_c ea_nil)) (by show 2 ≤ 100000; decide)) rfl rfl)) fun _ => et_or (et_test (ev_op (ev_op (ev_var rfl) ev_c (Evl.rv_ixL (sq_of h4) (atI_nat (j := 1) rfl))) (ev_lenDisk (rows := rows) hD4 (ev_var rfl) (ev_var rfl)) rv_I0)) fun _ => et_test (ev_op (ev_op (ev_var rfl) ev_c (Evl.rv_ixL (sq_of h4) (atI_nat (j := 2) rfl))) ev_c rv_I0)) ?_) (fun hb2 H5 e5 => ?_) (fun hb2 H5 e5 => ?_)
      · unfold orderBad
        congr 1
        congr 1
        exact inV2
      · rw [if_pos hb2] at hr1
        rw [hr1] at k
        exact s_ret (v := .int 5) ev_c fun H6 e6 => k H6 (hM4.keep (e5.trans e6)) (Fr.of ((e14.trans e5).trans e6))
      rw [if_neg (by rw [hb2]; decide)] at hr1
      rw [hr1] at k
      have e15 := e14.trans e5
      have hM5 := hM4.keep e5
      have h5 := e5 _ _ h4
      refine q_forZM (K := K) (xs := [.int 0, .int 1, .int 2, .int 3, .int 4]) (ys := [.int 1, .int (reg μ t 2), .int (reg μ t 3), .int (reg μ t 4), .int 3]) (eu_tup (ea_cons ev_c (ea_cons ev_c (ea_cons ev_c (ea_cons ev_c (ea_cons ev_c ea_nil))))) (by show 5 ≤ 100000; decide))
        (fun H6 e6 => el_catL (xs := [.int 1, .int (reg μ t 2), .int (reg μ t 3), .int (reg μ t 4)]) (ys := [.int 3]) (el_catR (xs := [.int 1]) (el_lst (ea_cons ev_c ea_nil) (by show 1 ≤ 100000; decide)) (ev_var rfl) (e6 _ _ h5) (by show 1 + 3 ≤ 100000; decide)) (el_lst (ea_cons ev_c ea_nil) (by show 1 ≤ 100000; decide)) (by show 4 + 1 ≤ 100000; decide)) rfl
        (fun p q i σ' H' => ∃ x7 x8, σ' = [some (.ref m), some (.int t), some (.int s0), some .non, some (.int 31), some (.ref tl), none, x7, x8] ∧ MemAt K H' m wl (mlay μ 31 0 (at0 [1, reg μ t 2, reg μ t 3, reg μ t 4, 3]) i) ∧ Fr wl H H' ∧ H' p = some (.tup [.int 0, .int 1, .int 2, .int 3, .int 4]) ∧ H' q = some (.lst [.int 1, .int (reg μ t 2), .int (reg μ t 3), .int (reg μ t 4), .int 3]) ∧ q ≠ wl)
        (fun p q H6 e6 hp hq hqn => ⟨none, none, rfl, hM5.keep e6, Fr.of (e15.trans e6), hp, hq, fun z => by rw [z, hM5.ws] at hqn; cases hqn⟩) (fun p q i σ' H' ⟨_, _, _, _, _, hp, hq, _⟩ => ⟨hp, hq⟩) ?_ ?_
      · rintro p q i x y σ' H' T' hx hy ⟨x7, x8, rfl, hM', f', hp, hq, nq⟩ hT'
        have hi : i < 5 ∧ x = .int (i : Int) ∧ y = .int (at0 [1, reg μ t 2, reg μ t 3, reg μ t 4, 3] i) := by
          match i, hx, hy with
          | 0, h, h' => cases h; cases h'; exact ⟨by decide, rfl, rfl⟩
          | 1, h, h' => cases h; cases h'; exact ⟨by decide, rfl, rfl⟩
          | 2, h, h' => cases h; cases h'; exact ⟨by decide, rfl, rfl⟩
          | 3, h, h' => cases h; cases h'; exact ⟨by decide, rfl, rfl⟩
          | 4, h, h' => cases h; cases h'; exact ⟨by decide, rfl, rfl⟩
        obtain ⟨hi5, rfl, rfl⟩ := hi
        have e7 : Ex H' (L2.upd H' T' (.tup [.int (i : Int), .int (at0 [1, reg μ t 2, reg μ t 3, reg μ t 4, 3] i)])) := Ex.new hT'
        refine ⟨T', _, rfl, st_of upd_same, rfl, _, _, rfl, _, _, rfl, rfl, ?_⟩
        refine s_put (hM'.keep e7) (ev_var rfl) (ev_var rfl) (ev_var rfl) (ev_var rfl) (by omega) fun H7 h7 f7 => ?_
        refine ⟨_, _, rfl, ?_, (f'.trans (Fr.of e7)).trans f7, f7 _ _ (e7 _ _ hp) (ne_of hp hM'.ws (by intro z; cases z)), f7 _ _ (e7 _ _ hq) nq, nq⟩
        show MemAt K H7 m wl (mset (mlay μ 31 0 (at0 [1, reg μ t 2, reg μ t 3, reg μ t 4, 3]) i) (ix 31 (0 + (i : Int))) (at0 [1, reg μ t 2, reg μ t 3, reg μ t 4, 3] i))
        rw [show (0 : Int) + (i : Int) = (i : Int) by omega]
        exact h7
      rintro p q σ' H6 ⟨x7, x8, rfl, hM6, f6, _, _, _⟩
      exact s_ret (v := .int 0) ev_c fun H7 e7 => k H7 (hM6.keep e7) (f6.trans (Fr.of e7))
def sp_status (K : PySem.W.Frag) : Sp := fun vs H Q _ => ∃ (m wl : Addr) (μ : Mem) (t : Int), vs = [.ref m, .int t] ∧ MemAt K H m wl μ ∧ InF t ∧ CapsIn μ t ∧ (∀ s w, ownC μ t (reg μ t 1) 8 1 = (some s, w) → fld μ s 1 = 31) ∧
  ∀ H', MemAt K H' m wl (statusD μ t).1 → Fr wl H H' → Q (.int (statusD μ t).2) H'
theorem ok_status (T : Txt K mg) : FnOk P w K mg base CX0 5 (f_status K) (fd_status K) ["memory", "thread"] (sp_status K) := by
  refine T.fn_status.ok sc_status (fun vs H Q E h => ?_) (fun cdv A outer s H vs Q E hr h => ⟨_, PSs.nox (pss_cons (ps_asg (pe_call (ok_own_cap T) (hr.mono (by decide)) (by rfl) (T.glo_own_cap) (T.kp_own_cap) (T.bd_own_cap) .nil pass0 (pa_cons (pv 0) (pa_cons (pv 1) (pa_cons (pe_call (ok_get_register T) (hr.mono (by decide)) (by rfl) (T.glo_get_register) (T.kp_get_register) (T.bd_get_register) .nil pass0 (pa_cons (pv 0) (pa_cons (pv 1) (pa_cons pe_int pa_nil)))) (pa_cons (T.pg_DEVICE) (pa_cons (T.pg_READ) pa_nil)))))) (pg_tup (by rfl) (pgs_cons (pg_name (i := 2) sc_status.nd rfl (Or.inl rfl)) (pgs_cons (pg_name (i := 3) sc_status.nd rfl (Or.inl rfl)) pgs_nil)))) (pss_cons (ps_if (pt_cmpR op_isN (pv 2) pe_non (nomark _)) (pss_one (ps_ret (pv 3))) pss_nil) (pss_cons (ps_expr (pe_call (ok_put_register T) (hr.mono (by decide)) (by rfl) (T.glo_put_register) (T.kp_put_register) (T.bd_put_register) .nil pass0 (pa_cons (pv 0) (pa_cons (pv 1) (pa_cons pe_int (pa_cons (pe_meth (pv 0) (T.cl_Memory) (T.mt_Memory_word) (ok_Memory_word T) (hr.mono (by decide)) (T.bd_Memory_word) .nil pass0 (pa_cons (pe_ix ix_tup (pe_call (ok_cap_at T) (hr.mono (by decide)) (by rfl) (T.glo_cap_at) (T.kp_cap_at) (T.bd_cap_at) .nil pass0 (pa_cons (pv 0) (pa_cons (pv 2) pa_nil))) pe_int (fun _ _ => rfl)) (pa_cons (T.pg_D_STATUS) pa_nil))) pa_nil)))))) (pss_one (ps_ret (T.pg_OK)))))), ?_⟩)
  · obtain ⟨_, _, _, _, rfl, _⟩ := h
    rfl
  · obtain ⟨m, wl, μ, t, rfl, hM, hI, hc, hf, k⟩ := h
    obtain ⟨r, hr0⟩ : ∃ r, r = statusD μ t := ⟨_, rfl⟩
    rw [← hr0] at k
    unfold statusD at hr0
    cases ho : ownC μ t (reg μ t 1) 8 1 with
    | mk so wo =>
    rw [ho] at hr0
    refine q_pair (u := oI so) (v := oI wo) (ea_cons (ev_var rfl) (ea_cons (ev_var rfl) (ea_cons (ev_reg hM (ev_var rfl) (ev_var rfl) ev_c hI (by decide) (by decide)) (ea_cons ev_c (ea_cons ev_c ea_nil))))) (fun H1 e Q q => ⟨m, wl, μ, t, _, 8, 1, rfl, hM.keep e, hI, hc, by decide, by decide, fun p H2 hp e2 h2 => q p H2 hp e2 (by rw [h2, ho]; rfl)⟩) fun H1 e1 => ?_
    have hM1 := hM.keep e1
    cases so with
    | none =>
      obtain ⟨x, rfl⟩ := ownC_none ho
      have hr1 : r = (μ, x) := hr0
      rw [hr1] at k
      refine q_when (b := true) (et_is (et_test (ev_op (ev_var rfl) ev_c rv_isN)) rfl) (fun _ H2 e2 => ?_) (fun h => by cases h)
      exact s_ret (v := .int x) (ev_var rfl) fun H3 e3 => k H3 (hM1.keep (e2.trans e3)) (Fr.of ((e1.trans e2).trans e3))
    | some s0 =>
      obtain ⟨b0, b1, rfl⟩ := ownC_some ho hc
      have h31 := hf _ _ ho
      have hr1 : r = (mset μ (ix t 3) (μ (ix 31 0)), 0) := hr0
      rw [hr1] at k
      refine q_when (b := false) (et_is (et_test (ev_op (ev_var rfl) ev_c rv_isN)) rfl) (fun h => by cases h) fun _ H2 e2 => ?_
      have hM2 := hM1.keep e2
      refine q_preg (n := 1) (x := μ (ix 31 0)) hM2 (ev_var rfl) (ev_var rfl) ev_c (ev_word (f := 31) (p := 0) hM2 (ev_var rfl) (ev_capIx (s := s0) (j := 1) (v := .int 31) hM2 (ev_var rfl) (ev_var rfl) ⟨b0, b1⟩ (fun H1 e => ev_c) (by rw [← h31]; rfl)) ev_c (by decide)) hI (by decide) (by decide) fun H3 h3 f3 => ?_
      exact s_ret (v := .int 0) ev_c fun H4 e4 => k H4 (h3.keep e4) (((Fr.of (e1.trans e2)).trans f3).trans (Fr.of e4))
end
end KQ

namespace KQ
open KA
open PySem PySem.Spec PyProof.Rows L2 Evl TL
section
variable {P : Program} {w : World} {K : PySem.W.Frag} {mg : Str → Option Value} {base : Heap}
def S_DOERS (K : PySem.W.Frag) : Addr → Sp → Prop := fun f sp => (f = f_map_page K ∧ sp = sp_map_page K) ∨ (f = f_unmap_page K ∧ sp = sp_unmap_page K)
theorem held_DOERS (T : Txt K mg) : ∀ f sp, S_DOERS K f sp → Held P w K mg base 6 f sp := by
  rintro f sp (⟨rfl, rfl⟩ | ⟨rfl, rfl⟩)
  · exact ⟨_, _, ok_map_page T, T.kp_map_page, T.bd_map_page⟩
  · exact ⟨_, _, ok_unmap_page T, T.kp_unmap_page, T.bd_unmap_page⟩
theorem doers12 (T : Txt K mg) : KDctI K (He.ga K "DOERS") 12 (f_map_page K) := dctB_ok (T.more 5 rfl : dctB K "DOERS" [(12, "map_page"), (13, "unmap_page")] = true) (p := (12, "map_page")) (List.mem_cons_self ..)
theorem doers13 (T : Txt K mg) : KDctI K (He.ga K "DOERS") 13 (f_unmap_page K) := dctB_ok (T.more 5 rfl : dctB K "DOERS" [(12, "map_page"), (13, "unmap_page")] = true) (p := (13, "unmap_page")) (List.mem_cons_of_mem _ (List.mem_cons_self ..))
/-- what trap 12 and 13 ask and give -/
def MapAsk (μ : Mem) (t s : Int) : Prop := CapsIn μ t ∧ ownC μ t (reg μ t 1) 2 1 = (some s, none) ∧ (∃ tb, ownT μ t (reg μ t 2) = (some tb, none) ∧ fld μ tb 1 = 31 ∧ 0 ≤ tb ∧ tb < 256) ∧ μ (ix 1 31) = 8 ∧ 0 ≤ s ∧ s < 256 ∧ 0 ≤ reg μ t 3
def UnmapAsk (μ : Mem) (t : Int) : Prop := CapsIn μ t ∧ (∃ tb, ownT μ t (reg μ t 1) = (some tb, none) ∧ fld μ tb 1 = 31 ∧ 0 ≤ tb ∧ tb < 256) ∧ μ (ix 1 31) = 8 ∧ 0 ≤ reg μ t 2
def trapped (r : Mem × Int) (t : Int) : Mem := mset r.1 (ix t 2) r.2
def sp_trap2 (K : PySem.W.Frag) : Sp := fun vs H Q _ => ∃ (m wl : Addr) (μ : Mem) (t n : Int) (r : Mem × Int), vs = [.ref m, .int t, .int n] ∧ MemAt K H m wl μ ∧ InF t ∧ 2 ≤ t ∧ μ (ix 1 t) = 5 ∧ ((n = 12 ∧ ∃ s, MapAsk μ t s ∧ r = mapD μ t s) ∨ (n = 13 ∧ UnmapAsk μ t ∧ r = unmapD μ t)) ∧
  ∀ H', MemAt K H' m wl (trapped r t) → Fr wl H H' → Q (.bl true) H'
theorem ok_trap (T : Txt K mg) : FnOk P w K mg base CX0 7 (f_trap K) (fd_trap K) ["memory", "thread", "number"] (sp_trap2 K) := by
  refine T.fn_trap.ok sc_trap (fun vs H Q E h => ?_) (fun cdv A outer s H vs Q E hr h => ⟨_, PSs.nox (pss_cons (ps_if (pt_cmpR op_ge (pv 2) pe_int (nomark _)) (pss_one (ps_ret pe_bl)) pss_nil) (pss_cut (ps_if (pt_cmpR op_eq (pv 2) pe_int (nomark _)) (pss_cons ps_never (pss_one ps_never)) (pss_one (ps_if (pt_cmpR op_in_seq (pv 2) (pe_tup (pa_cons pe_int (pa_cons pe_int pa_nil))) (by rfl)) (pss_one ps_never) (pss_one (ps_if (PW.pt (pw_or (pt_cmpR op_eq (pv 2) pe_int (nomark _)) (pw_or1 (pt_cmpR op_eq (pv 2) pe_int (nomark _))))) (pss_cons ps_never (pss_cons ps_never (pss_one ps_never))) (pss_one (ps_if (pt_cmpR op_in_seq (pv 2) (pe_tup (pa_cons pe_int (pa_cons pe_int (pa_cons pe_int pa_nil)))) (by rfl)) (pss_one ps_never) (pss_one (ps_set (i := 3) sc_trap.nd rfl (Or.inl rfl) (pe_callD (held_DOERS T) (hr.mono (by decide)) (T.pg_DOERS) (pv 2) (pa_cons (pv 0) (pa_cons (pv 1) pa_nil)))))))))))) (pss_cut (ps_if (PW.pt (pw_and (pt_cmpR op_notN (pv 3) pe_non (nomark _)) (pw_and1 (pt_cmpR op_eq (pe_meth (pv 0) (T.cl_Memory) (T.mt_Memory_word) (ok_Memory_word T) (hr.mono (by decide)) (T.bd_Memory_word) .nil pass0 (pa_cons (T.pg_KIND_FRAME) (pa_cons (pv 1) pa_nil))) (T.pg_THREAD) (nomark _))))) (pss_one (ps_expr (pe_call (ok_put_register T) (hr.mono (by decide)) (by rfl) (T.glo_put_register) (T.kp_put_register) (T.bd_put_register) .nil pass0 (pa_cons (pv 0) (pa_cons (pv 1) (pa_cons pe_int (pa_cons (pv 3) pa_nil))))))) pss_nil) (pss_one (ps_ret pe_bl))))), ?_⟩)
  · obtain ⟨_, _, _, _, _, _, rfl, _⟩ := h
    rfl
  · obtain ⟨m, wl, μ, t, n, r, rfl, hM, hI, ht2, h5, hn, k⟩ := h
    have hn' : n = 12 ∨ n = 13 := by
      rcases hn with h | h
      · exact .inl h.1
      · exact .inr h.1
    refine q_when (b := false) (et_is (et_test (ev_op (ev_var rfl) ev_c rv_I0)) (decide_eq_false (by omega))) (fun h => by cases h) fun _ H1 e1 => ?_
    have hM1 := hM.keep e1
    refine q_cut (M := fun σ' H' => ∃ x4, σ' = [some (.ref m), some (.int t), some (.int n), some (.int r.2), x4] ∧ MemAt K H' m wl r.1 ∧ Fr wl H H' ∧ r.1 (ix 1 t) = 5) ?_ ?_
    · refine s_if (b := false) (et_is (et_test (ev_op (ev_var rfl) ev_c (rv_eq rfl))) (by rw [dec_int]; exact decide_eq_false (by omega))) (fun h => by cases h) fun _ H2 e2 => ?_
      refine s_if (b := false) (et_is (et_test (ev_inU (ev_var rfl) (eu_tup (ea_cons ev_c (ea_cons ev_c ea_nil)) (by show 2 ≤ 100000; decide)) rfl rfl)) (by rw [inV2]; rcases hn' with rfl | rfl <;> decide)) (fun h => by cases h) fun _ H3 e3 => ?_
      refine s_if (b := false) (et_is (et_or (a := false) (et_is (et_test (ev_op (ev_var rfl) ev_c (rv_eq rfl))) (by rw [dec_int]; exact decide_eq_false (by omega))) fun _ => et_test (ev_op (ev_var rfl) ev_c (rv_eq rfl))) (by rw [dec_int]; exact decide_eq_false (by omega))) (fun h => by cases h) fun _ H4 e4 => ?_
      refine s_if (b := false) (et_is (et_test (ev_inU (ev_var rfl) (eu_tup (ea_cons ev_c (ea_cons ev_c (ea_cons ev_c ea_nil))) (by show 3 ≤ 100000; decide)) rfl rfl)) (by rcases hn' with rfl | rfl <;> rfl)) (fun h => by cases h) fun _ H5 e5 => ?_
      have e25 := ((e1.trans e2).trans e3).trans (e4.trans e5)
      have hM5 := hM.keep e25
      rcases hn with ⟨rfl, s0, ⟨a1, a2, ⟨tb, a3, a4, a5, a6⟩, a7, a8, a9, a10⟩, rfl⟩ | ⟨rfl, ⟨a1, ⟨tb, a3, a4, a5, a6⟩, a7, a10⟩, rfl⟩
      · refine ⟨_, rfl, _, _, _, rfl, rfl, doers12 T, _, _, rfl, .inl ⟨rfl, rfl⟩, _, rfl, _, rfl, m, wl, μ, t, s0, tb, rfl, hM5, hI, a1, a2, a3, a4, a7, a8, a9, a5, a6, a10, fun H6 h6 f6 => ⟨none, rfl, h6, (Fr.of e25).trans f6, ?_⟩⟩
        rw [mapD_other (by unfold ix; omega) a10]
        exact h5
      · refine ⟨_, rfl, _, _, _, rfl, rfl, doers13 T, _, _, rfl, .inr ⟨rfl, rfl⟩, _, rfl, _, rfl, m, wl, μ, t, tb, rfl, hM5, hI, a1, a3, a4, a7, a5, a6, a10, fun H6 h6 f6 => ⟨none, rfl, h6, (Fr.of e25).trans f6, ?_⟩⟩
        rw [unmapD_other (by unfold ix; omega) a10]
        exact h5
    rintro σ' H2 ⟨x4, rfl, h2, f2, g5⟩
    refine q_cut (M := fun σ' H' => MemAt K H' m wl (trapped r t) ∧ Fr wl H H') ?_ ?_
    · refine s_when (b := true) (et_is (et_and (a := true) (b := true) (et_is (et_test (ev_op (ev_var rfl) ev_c rv_notN)) rfl) fun _ => et_is (et_test (ev_op (ev_word h2 (ev_var rfl) ev_c (ev_var rfl) (by omega)) ev_c (rv_eq rfl))) (by rw [g5]; rfl)) rfl) (fun _ H3 e3 => ?_) (fun h => by cases h)
      refine s_preg (n := 0) (x := r.2) (h2.keep e3) (ev_var rfl) (ev_var rfl) ev_c (ev_var rfl) hI (by decide) (by decide) fun H4 h4 f4 => ⟨h4, (f2.trans (Fr.of e3)).trans f4⟩
    rintro σ' H3 ⟨h3, f3⟩
    exact s_ret ev_c fun H4 e4 => k H4 (h3.keep e4) (f3.trans (Fr.of e4))
/-- all four traps -/
def sp_any_trap2 (K : PySem.W.Frag) : Sp := fun vs H Q _ => ∃ (m wl dx dd rl : Addr) (rows : List (List Int)) (μ : Mem) (t n : Int) (r : Mem × Int), vs = [.ref m, .int t, .int n] ∧ MemAt K H m wl μ ∧ DiskAt K H m wl dx dd rl rows ∧ InF t ∧ 2 ≤ t ∧ μ (ix 1 t) = 5 ∧ CapsIn μ t ∧
  ((n = 12 ∧ ∃ s, MapAsk μ t s ∧ r = mapD μ t s) ∨ (n = 13 ∧ UnmapAsk μ t ∧ r = unmapD μ t) ∨ (n = 18 ∧ (∀ s w, ownC μ t (reg μ t 1) 8 2 = (some s, w) → fld μ s 1 = 31) ∧ r = orderD μ t rows.length) ∨ (n = 19 ∧ (∀ s w, ownC μ t (reg μ t 1) 8 1 = (some s, w) → fld μ s 1 = 31) ∧ r = statusD μ t)) ∧
  ∀ H', MemAt K H' m wl (trapped r t) → Fr wl H H' → Q (.bl true) H'
theorem ok_any_trap (T : Txt K mg) : FnOk P w K mg base CX0 8 (f_any_trap K) (fd_any_trap K) ["memory", "thread", "number"] (sp_any_trap2 K) := by
  refine T.fn_any_trap.ok sc_any_trap (fun vs H Q E h => ?_) (fun cdv A outer s H vs Q E hr h => ⟨_, PSs.nox (pss_cons (ps_if (pt_cmpR op_in_seq (pv 2) (pe_tup (pa_cons pe_int (pa_cons pe_int pa_nil))) (by rfl)) (pss_cons (ps_expr (pe_call (ok_put_register T) (hr.mono (by decide)) (by rfl) (T.glo_put_register) (T.kp_put_register) (T.bd_put_register) .nil pass0 (pa_cons (pv 0) (pa_cons (pv 1) (pa_cons pe_int (pa_cons (pe_ifExp (pt_cmpR op_eq (pv 2) pe_int (nomark _)) (pe_call (ok_order T) (hr.mono (by decide)) (by rfl) (T.glo_order) (T.kp_order) (T.bd_order) .nil pass0 (pa_cons (pv 0) (pa_cons (pv 1) pa_nil))) (pe_call (ok_status T) (hr.mono (by decide)) (by rfl) (T.glo_status) (T.kp_status) (T.bd_status) .nil pass0 (pa_cons (pv 0) (pa_cons (pv 1) pa_nil)))) pa_nil)))))) (pss_one (ps_ret pe_bl))) pss_nil) (pss_one (ps_ret (pe_call (ok_trap T) (hr.mono (by decide)) (by rfl) (T.glo_trap) (T.kp_trap) (T.bd_trap) .nil pass0 (pa_cons (pv 0) (pa_cons (pv 1) (pa_cons (pv 2) pa_nil))))))), ?_⟩)
  · obtain ⟨_, _, _, _, _, _, _, _, _, _, rfl, _⟩ := h
    rfl
  · obtain ⟨m, wl, dx, dd, rl, rows, μ, t, n, r, rfl, hM, hD, hI, ht2, h5, hc, hn, k⟩ := h
    have hn' : n = 12 ∨ n = 13 ∨ n = 18 ∨ n = 19 := by
      rcases hn with h | h | h | h
      · exact .inl h.1
      · exact .inr (.inl h.1)
      · exact .inr (.inr (.inl h.1))
      · exact .inr (.inr (.inr h.1))
    refine q_when (b := decide (n = 18) || decide (n = 19)) (et_is (et_test (ev_inU (ev_var rfl) (eu_tup (ea_cons ev_c (ea_cons ev_c ea_nil)) (by show 2 ≤ 100000; decide)) rfl rfl)) inV2) (fun hb H1 e1 => ?_) (fun hb H1 e1 => ?_)
    · have hM1 := hM.keep e1
      have fin : ∀ H2 H3, Fr wl H H2 → MemAt K H2 m wl r.1 → MemAt K H3 m wl (trapped r t) → Fr wl H2 H3 → tRet (tC (.bl true)) { nx := fun _ H' => Q .non H', rt := Q } [some (.ref m), some (.int t), some (.int n)] H3 := fun H2 H3 f2 _ h3 f3 => s_ret ev_c fun H4 e4 => k H4 (h3.keep e4) ((f2.trans f3).trans (Fr.of e4))
      refine ⟨_, rfl, _, rfl, ?_⟩
      rcases hn with ⟨rfl, _⟩ | ⟨rfl, _⟩ | ⟨rfl, hf, rfl⟩ | ⟨rfl, hf, rfl⟩
      · cases hb
      · cases hb
      · refine (et_is (et_test (ev_op (ev_var rfl) ev_c (rv_eq rfl))) rfl : EvT (tTest (tOp rEq (tVar 2) (tC (.int 18)))) [some (.ref m), some (.int t), some (.int 18)] H1 true) H1 (Ex.refl H1) _ fun H2 e2 => ?_
        refine iteT ⟨_, rfl, _, rfl, m, wl, dx, dd, rl, rows, μ, t, rfl, hM1.keep e2, (hD.keep e1).keep e2, hI, hc, hf, fun H3 h3 f3 => ?_⟩
        exact ⟨m, wl, _, t, 0, _, rfl, h3, hI, by decide, by decide, fun H4 h4 f4 => fin H3 H4 ((Fr.of (e1.trans e2)).trans f3) h3 h4 f4⟩
      · refine (et_is (et_test (ev_op (ev_var rfl) ev_c (rv_eq rfl))) rfl : EvT (tTest (tOp rEq (tVar 2) (tC (.int 18)))) [some (.ref m), some (.int t), some (.int 19)] H1 false) H1 (Ex.refl H1) _ fun H2 e2 => ?_
        refine iteF ⟨_, rfl, _, rfl, m, wl, μ, t, rfl, hM1.keep e2, hI, hc, hf, fun H3 h3 f3 => ?_⟩
        exact ⟨m, wl, _, t, 0, _, rfl, h3, hI, by decide, by decide, fun H4 h4 f4 => fin H3 H4 ((Fr.of (e1.trans e2)).trans f3) h3 h4 f4⟩
    · refine ⟨_, rfl, _, rfl, _, rfl, m, wl, μ, t, n, r, rfl, hM.keep e1, hI, ht2, h5, ?_, fun H' h' f' => k H' h' ((Fr.of e1).trans f')⟩
      rcases hn with h | h | ⟨rfl, _⟩ | ⟨rfl, _⟩
      · exact .inl h
      · exact .inr h
      · cases hb
      · cases hb
end
end KQ

namespace KQ
open KA
open PySem PySem.Spec PyProof.Rows L2 Evl TL
section
variable {σ : L2.St} {H : Hp} {K : PySem.W.Frag} {D : Ends} {tz : TS}
/-- a tuple, new or not -/
def EvS (te : TE) (σ : L2.St) (H : Hp) (xs : List V) : Prop := ∀ H1, Ex H H1 → ∀ Q : VK, (∀ a H2, Ex H1 H2 → H2 a = some (.tup xs) → Q (.ref a) H2) → te σ H1 Q
theorem es_disk {m wl dx dd rl : Addr} {rows : List (List Int)} {tm tf tn : TE} {n : Nat} (hD : DiskAt K H m wl dx dd rl rows) (hm : Ev tm σ H (.ref m)) (hf : Ev tf σ H (.int 31)) (hn : Ev tn σ H (.int (n : Int))) (hl : n < rows.length) :
    EvS (tOp (rIxT K) (tMeth (CM K) "disk" (sp_disk K) [] E0 tm (tCons tf tNil)) tn) σ H ((rows.getD n []).map V.int) := fun H1 e Q q =>
  hm H1 e _ fun H2 e2 => ⟨m, dx, _, rfl, (hD.keep (e.trans e2)).ins, rfl, hf H2 (e.trans e2) _ fun H3 e3 => ⟨m, wl, dx, dd, rl, rows, rfl, hD.keep ((e.trans e2).trans e3), fun p H4 hp e4 ⟨ts, t1, t2, t3⟩ =>
    hn H4 (((e.trans e2).trans e3).trans e4) _ fun H5 e5 => by
      have hv : ts[n]? = some (ts[n]'(by omega)) := List.getElem?_eq_getElem (by omega)
      obtain ⟨t, ht1, ht2⟩ := t3 n _ hv
      rw [ht1] at hv
      exact ⟨p, ts, (n : Int), .ref t, rfl, rfl, st_of (e5 _ _ t1), atI_nat hv, q t H5 (((e2.trans e3).trans e4).trans e5) (e5 _ _ ht2)⟩⟩⟩
theorem es_frame {m wl : Addr} {μ : Mem} {tm tf : TE} {f : Int} (hM : MemAt K H m wl μ) (hm : Ev tm σ H (.ref m)) (hf : Ev tf σ H (.int f)) (hI : InF f) : EvS (tMeth (CM K) "frame" (sp_frame K) [] E0 tm (tCons tf tNil)) σ H (frameV μ f) := fun H1 e Q q =>
  hm H1 e _ fun H2 e2 => by
    obtain ⟨dx, dd, h1, h2⟩ := (hM.keep (e.trans e2)).ins
    exact ⟨m, dx, _, rfl, h1, rfl, hf H2 (e.trans e2) _ fun H3 e3 => ⟨m, wl, μ, f, rfl, hM.keep ((e.trans e2).trans e3), hI, fun p H4 hp e4 h4 => q p H4 ((e2.trans e3).trans e4) h4⟩⟩
theorem _root_.KA.MemAt.sec {H' : Hp} {m wl dx dd rl : Addr} {rows : List (List Int)} {μ : Mem} (h : MemAt K H m wl μ) (hD : DiskAt K H m wl dx dd rl rows) (f : FS [rl] H H') : MemAt K H' m wl μ := by
  obtain ⟨ts, r1, _, _⟩ := hD.rs
  refine ⟨⟨dx, dd, f _ _ hD.ins ?_, _, f _ _ hD.di ?_⟩, f _ _ h.ws ?_⟩
  · rw [List.mem_singleton]
    exact ne_of hD.ins r1 (by intro z; cases z)
  · rw [List.mem_singleton]
    exact ne_of hD.di r1 (by intro z; cases z)
  · rw [List.mem_singleton]
    exact fun z => hD.nw z.symm
theorem s_forES {te : TE} {g : TG} {tu : TS} {xs : List V} (h : EvS te σ H xs) (Pv : Addr → Nat → L2.St → Hp → Prop) (h0 : ∀ a H1, Ex H H1 → H1 a = some (.tup xs) → Pv a 0 σ H1) (h1 : ∀ a i σ' H', Pv a i σ' H' → H' a = some (.tup xs))
    (hs : ∀ a i y σ' H' T, xs[i]? = some y → Pv a i σ' H' → H' T = none → g (.ref T) σ' (L2.upd H' T (.tup [.int (i : Nat), y])) fun σ2 H2 => tu { D with nx := Pv a (i + 1), ct := Pv a (i + 1), bk := D.nx } σ2 H2) (hd : ∀ a σ' H', Pv a xs.length σ' H' → D.nx σ' H') :
    tFor (iEnumT K (tCons te tNil)) g tu D σ H :=
  h H (Ex.refl H) _ fun a H1 e1 ha => ⟨a, xs, rfl, st_of ha, for_enumT (Pv a) (h0 a H1 e1 ha) (fun i σ' H' hi hp => st_of (h1 a i σ' H' hp)) (hs a) (hd a)⟩
theorem s_putsec {m wl dx dd rl : Addr} {rows : List (List Int)} {row : List Int} {tm tf tn tr : TE} {n : Nat} (hD : DiskAt K H m wl dx dd rl rows) (hm : Ev tm σ H (.ref m)) (hf : Ev tf σ H (.int 31)) (hn : Ev tn σ H (.int (n : Int))) (hr : EvS tr σ H (row.map V.int)) (hl : n < rows.length)
    (k : ∀ H', DiskAt K H' m wl dx dd rl (rows.set n row) → FS [rl] H H' → D.nx σ H') : tDrop (tMeth (CM K) "put_sector" (sp_put_sector K) [] E0 tm (tCons tf (tCons tn (tCons tr tNil)))) D σ H :=
  hm H (Ex.refl H) _ fun H2 e2 => ⟨m, dx, _, rfl, (hD.keep e2).ins, rfl, hf H2 e2 _ fun H3 e3 => hn H3 (e2.trans e3) _ fun H4 e4 => hr H4 ((e2.trans e3).trans e4) _ fun t H5 e5 ht =>
    ⟨m, wl, dx, dd, rl, t, rows, n, row, rfl, hD.keep (((e2.trans e3).trans e4).trans e5), hl, ht, fun H' d' f' => k H' d' ((FS.of (((e2.trans e3).trans e4).trans e5)).trans f')⟩⟩
end
section
variable {P : Program} {w : World} {K : PySem.W.Frag} {mg : Str → Option Value} {base : Heap}
/-- a line that is bound to nothing -/
def sp_line_rises (K : PySem.W.Frag) : Sp := fun vs H Q _ => ∃ (m wl : Addr) (μ : Mem) (l : Int), vs = [.ref m, .int l] ∧ MemAt K H m wl μ ∧ 0 ≤ l ∧ l < 4 ∧ μ (ix 0 (20 + l)) = 0 ∧ ∀ H', Ex H H' → Q .non H'
theorem ok_line_rises (T : Txt K mg) : FnOk P w K mg base CX0 2 (f_line_rises K) (fd_line_rises K) ["memory", "line"] (sp_line_rises K) := by
  refine T.fn_line_rises.ok sc_line_rises (fun vs H Q E h => ?_) (fun cdv A outer s H vs Q E hr h => ⟨_, PSs.nox (pss_cons (ps_set (i := 2) sc_line_rises.nd rfl (Or.inl rfl) (pe_meth (pv 0) (T.cl_Memory) (T.mt_Memory_word) (ok_Memory_word T) (hr.mono (by decide)) (T.bd_Memory_word) .nil pass0 (pa_cons (T.pg_KERNEL) (pa_cons (pe_op op_add (T.pg_K_LINES) (pv 1)) pa_nil)))) (pss_one (ps_if (pt_truth (pv 2) (by intro _; rfl)) (pss_one ps_never) pss_nil))), ?_⟩)
  · obtain ⟨_, _, _, _, rfl, _⟩ := h
    rfl
  · obtain ⟨m, wl, μ, l, rfl, hM, l0, l1, h0, k⟩ := h
    refine q_asg (v := .int 0) (ev_is (ev_word hM (ev_var rfl) ev_c (ev_op ev_c (ev_var rfl) rv_I0) (by omega)) (by rw [h0])) fun H1 e1 => ?_
    exact s_when (b := false) (et_is (et_truI (ev_var rfl)) rfl) (fun h => by cases h) fun _ H2 e2 => k H2 (e1.trans e2)
/-! what a device does -/
def frameI (μ : Mem) (f : Int) : List Int := (List.range 64).map fun (i : Nat) => μ (ix f (i : Int))
theorem frameV_I {μ : Mem} {f : Int} : frameV μ f = (frameI μ f).map V.int := by
  unfold frameV frameI
  rw [List.map_map]
  rfl
def dent (μ : Mem) (i : Int) : Int := μ (ix 31 (μ (ix 31 3) * 4 + 8 + i))
def dbad (μ : Mem) : Bool := decide (dent μ 0 = 0) || decide (dent μ 1 / (if μ (ix 31 1) = 1 then 2 else 1) % 2 = 0)
def doesM (μ : Mem) (rows : List (List Int)) : Mem := if dbad μ = true then mset μ (ix 31 0) 3 else
  mset (if μ (ix 31 1) = 1 then mlay μ (dent μ 0 - 1) 0 (at0 (rows.getD (μ (ix 31 2)).toNat [])) 64 else μ) (ix 31 0) 2
def doesR (μ : Mem) (rows : List (List Int)) : List (List Int) := if dbad μ = true then rows else if μ (ix 31 1) = 1 then rows else rows.set (μ (ix 31 2)).toNat (frameI μ (dent μ 0 - 1))
/-- what is asked of the device's words -/
structure DevOk (μ : Mem) (rows : List (List Int)) : Prop where
  kd : μ (ix 1 31) = 8
  sec : 0 ≤ μ (ix 31 2) ∧ μ (ix 31 2) < rows.length
  pg : 0 ≤ μ (ix 31 3) ∧ μ (ix 31 3) < 4
  fr : dent μ 0 = 0 ∨ InF (dent μ 0 - 1)
  len : ∀ r ∈ rows, r.length = 64
def sp_device_does (K : PySem.W.Frag) : Sp := fun vs H Q _ => ∃ (m wl dx dd rl : Addr) (rows : List (List Int)) (μ : Mem), vs = [.ref m, .int 31] ∧ MemAt K H m wl μ ∧ DiskAt K H m wl dx dd rl rows ∧ DevOk μ rows ∧
  ∀ H', MemAt K H' m wl (doesM μ rows) → DiskAt K H' m wl dx dd rl (doesR μ rows) → FS [wl, rl] H H' → Q .non H'
theorem ok_device_does (T : Txt K mg) : FnOk P w K mg base CX0 5 (f_device_does K) (fd_device_does K) ["memory", "frame"] (sp_device_does K) := by
  refine T.fn_device_does.ok sc_device_does (fun vs H Q E h => ?_) (fun cdv A outer s H vs Q E hr h => ⟨_, PSs.nox (pss_cons (ps_par (i := 2) (j := 3) (by rfl) sc_device_does.nd rfl rfl (by decide) rfl rfl (pa_cons (pe_cmpR op_eq (pe_meth (pv 0) (T.cl_Memory) (T.mt_Memory_word) (ok_Memory_word T) (hr.mono (by decide)) (T.bd_Memory_word) .nil pass0 (pa_cons (pv 1) (pa_cons (T.pg_D_ORDER) pa_nil))) pe_int (nomark _)) (pa_cons (pe_meth (pv 0) (T.cl_Memory) (T.mt_Memory_word) (ok_Memory_word T) (hr.mono (by decide)) (T.bd_Memory_word) .nil pass0 (pa_cons (pv 1) (pa_cons (T.pg_D_SECTOR) pa_nil))) pa_nil)) (by rfl)) (pss_cons (ps_asg (pe_call (ok_entry T) (hr.mono (by decide)) (by rfl) (T.glo_entry) (T.kp_entry) (T.bd_entry) .nil pass0 (pa_cons (pv 0) (pa_cons (pv 1) (pa_cons (pe_meth (pv 0) (T.cl_Memory) (T.mt_Memory_word) (ok_Memory_word T) (hr.mono (by decide)) (T.bd_Memory_word) .nil pass0 (pa_cons (pv 1) (pa_cons (T.pg_D_PAGE) pa_nil))) pa_nil)))) (pg_tup (by rfl) (pgs_cons (pg_name (i := 4) sc_device_does.nd rfl (Or.inl rfl)) (pgs_cons (pg_name (i := 5) sc_device_does.nd rfl (Or.inl rfl)) (pgs_cons (pg_name (i := 6) sc_device_does.nd rfl (Or.inl rfl)) pgs_nil))))) (pss_cons (ps_if (PW.pt (pw_or (pt_cmpR op_eq (pv 4) pe_int (nomark _)) (pw_or1 (pt_cmpR op_eq (pe_op op_mod (pe_op op_fdiv (pv 5) (pe_ifExp (pt_val (pv 2)) (T.pg_WRITE) (T.pg_READ))) pe_int) pe_int (nomark _))))) (pss_cons (ps_expr (pe_meth (pv 0) (T.cl_Memory) (T.mt_Memory_put) (ok_Memory_put T) (hr.mono (by decide)) (T.bd_Memory_put) .nil pass0 (pa_cons (pv 1) (pa_cons (T.pg_D_STATUS) (pa_cons (T.pg_FAILED) pa_nil))))) (pss_one ps_retN)) pss_nil) (pss_cons (ps_if (pt_val (pv 2)) (pss_one (ps_for PassesOwn.never rfl (pi_enumT (by rfl) T.free_enumerate (pa_cons (pe_ix ix_tup (pe_meth (pv 0) (T.cl_Memory) (T.mt_Memory_disk) (ok_Memory_disk T) (hr.mono (by decide)) (T.bd_Memory_disk) .nil pass0 (pa_cons (pv 1) pa_nil)) (pv 3) (fun _ _ => rfl)) pa_nil)) (pg_tup (by rfl) (pgs_cons (pg_name (i := 7) sc_device_does.nd rfl (Or.inl rfl)) (pgs_cons (pg_name (i := 8) sc_device_does.nd rfl (Or.inl rfl)) pgs_nil))) (pss_one (ps_expr (pe_meth (pv 0) (T.cl_Memory) (T.mt_Memory_put) (ok_Memory_put T) (hr.mono (by decide)) (T.bd_Memory_put) .nil pass0 (pa_cons (pe_op op_sub (pv 4) pe_int) (pa_cons (pv 7) (pa_cons (pv 8) pa_nil)))))))) (pss_one (ps_expr (pe_meth (pv 0) (T.cl_Memory) (T.mt_Memory_put_sector) (ok_Memory_put_sector T) (hr.mono (by decide)) (T.bd_Memory_put_sector) .nil pass0 (pa_cons (pv 1) (pa_cons (pv 3) (pa_cons (pe_meth (pv 0) (T.cl_Memory) (T.mt_Memory_frame) (ok_Memory_frame T) (hr.mono (by decide)) (T.bd_Memory_frame) .nil pass0 (pa_cons (pe_op op_sub (pv 4) pe_int) pa_nil)) pa_nil))))))) (pss_one (ps_expr (pe_meth (pv 0) (T.cl_Memory) (T.mt_Memory_put) (ok_Memory_put T) (hr.mono (by decide)) (T.bd_Memory_put) .nil pass0 (pa_cons (pv 1) (pa_cons (T.pg_D_STATUS) (pa_cons (T.pg_DONE) pa_nil)))))))))), ?_⟩)
  · obtain ⟨_, _, _, _, _, _, _, rfl, _⟩ := h
    rfl
  · obtain ⟨m, wl, dx, dd, rl, rows, μ, rfl, hM, hD, hO, k⟩ := h
    obtain ⟨hk, ⟨s0, s1⟩, ⟨p0, p1⟩, hfr, hlen⟩ := hO
    obtain ⟨n, hn⟩ : ∃ n : Nat, μ (ix 31 2) = n := ⟨(μ (ix 31 2)).toNat, by omega⟩
    have hnl : n < rows.length := by omega
    obtain ⟨M', hM0⟩ : ∃ M', M' = doesM μ rows := ⟨_, rfl⟩
    obtain ⟨R', hR0⟩ : ∃ R', R' = doesR μ rows := ⟨_, rfl⟩
    rw [← hM0, ← hR0] at k
    have he : eat μ 31 (μ (ix 31 3)) = μ (ix 31 3) * 4 + 8 := by unfold eat; rw [if_pos hk]
    refine q_parVV (v := .bl (decide (μ (ix 31 1) = 1))) (w := .int (n : Int)) (ev_is (ev_op (ev_word hM (ev_var rfl) (ev_var rfl) ev_c (by omega)) ev_c (rv_eq rfl)) (by rw [dec_int])) (ev_is (ev_word hM (ev_var rfl) (ev_var rfl) ev_c (by omega)) (by rw [hn])) fun H1 e1 => ?_
    have hM1 := hM.keep e1
    refine q_callG (ea_cons (ev_var rfl) (ea_cons (ev_var rfl) (ea_cons (ev_word hM1 (ev_var rfl) (ev_var rfl) ev_c (by omega)) ea_nil))) fun H2 e2 => ⟨m, wl, μ, 31, _, rfl, hM1.keep e2, ⟨by decide, by decide⟩, p0, by omega, fun q H3 hq e3 h3 => ⟨q, _, rfl, st_of h3, rfl, _, _, rfl, _, _, rfl, _, _, rfl, rfl, ?_⟩⟩
    have e13 := (e1.trans e2).trans e3
    have hM3 := hM.keep e13
    have hD3 := hD.keep e13
    have x0 : μ (ix 31 (eat μ 31 (μ (ix 31 3)) + 0)) = dent μ 0 := by rw [he]; rfl
    have x1 : μ (ix 31 (eat μ 31 (μ (ix 31 3)) + 1)) = dent μ 1 := by rw [he]; rfl
    rw [x0, x1]
    refine q_when (b := dbad μ) (et_is (et_or (et_test (ev_op (ev_var rfl) ev_c (rv_eq rfl))) fun _ => et_test (ev_op (ev_mod (ev_div (j := if μ (ix 31 1) = 1 then 2 else 1) (ev_var rfl) (ev_if (et_B (ev_var rfl)) (fun hb => ev_is ev_c (by rw [if_pos (of_decide_eq_true hb)])) (fun hb => ev_is ev_c (by rw [if_neg (of_decide_eq_false hb)]))) (by split <;> decide)) ev_c (by decide)) ev_c (rv_eq rfl))) (by rw [dec_int, dec_int]; rfl)) (fun hb H4 e4 => ?_) (fun hb H4 e4 => ?_)
    · unfold doesM at hM0
      unfold doesR at hR0
      rw [if_pos hb] at hM0 hR0
      refine q_put (hM3.keep e4) (ev_var rfl) (ev_var rfl) ev_c ev_c (by omega) fun H5 h5 f5 => ?_
      exact k H5 (by rw [hM0]; exact h5) (by rw [hR0]; exact (hD3.keep e4).words (hM3.keep e4) f5) ((FS.of (e13.trans e4)).trans (FS.fr f5 (by simp)))
    have hb' : ¬ dbad μ = true := by rw [hb]; decide
    unfold doesM at hM0
    unfold doesR at hR0
    rw [if_neg hb'] at hM0 hR0
    have e14 := e13.trans e4
    have hM4 := hM3.keep e4
    have hD4 := hD3.keep e4
    have hI : InF (dent μ 0 - 1) := hfr.resolve_left fun z => by
      rw [show dbad μ = (decide (dent μ 0 = 0) || decide (dent μ 1 / (if μ (ix 31 1) = 1 then 2 else 1) % 2 = 0)) from rfl, z] at hb
      cases hb
    refine q_if (b := decide (μ (ix 31 1) = 1)) (et_B (ev_var rfl)) (fun hr H5 e5 => ?_) (fun hr H5 e5 => ?_)
    · rw [if_pos (of_decide_eq_true hr)] at hM0 hR0
      have hlen' : (rows.getD n []).length = 64 := hlen _ (by rw [List.getD_eq_getElem?_getD, List.getElem?_eq_getElem hnl]; exact List.getElem_mem hnl)
      refine s_forES (es_disk (n := n) (hD4.keep e5) (ev_var rfl) (ev_var rfl) (ev_var rfl) hnl)
        (fun a i σ' H' => ∃ x7 x8, σ' = [some (.ref m), some (.int 31), some (.bl (decide (μ (ix 31 1) = 1))), some (.int (n : Int)), some (.int (dent μ 0)), some (.int (dent μ 1)), some (.int (μ (ix 31 (eat μ 31 (μ (ix 31 3)) + 2)))), x7, x8] ∧ MemAt K H' m wl (mlay μ (dent μ 0 - 1) 0 (at0 (rows.getD n [])) i) ∧ Fr wl H H' ∧ H' a = some (.tup ((rows.getD n []).map V.int)))
        (fun a H6 e6 ha => ⟨none, none, rfl, hM4.keep (e5.trans e6), Fr.of ((e14.trans e5).trans e6), ha⟩) (fun a i σ' H' ⟨_, _, _, _, _, ha⟩ => ha) ?_ ?_
      · rintro a i y σ' H' T' hy ⟨x7, x8, rfl, hM', f', ha⟩ hT'
        obtain ⟨rfl, hil⟩ := getI hy
        have e7 : Ex H' (L2.upd H' T' (.tup [.int (i : Int), .int (at0 (rows.getD n []) i)])) := Ex.new hT'
        refine ⟨T', _, rfl, st_of upd_same, rfl, _, _, rfl, _, _, rfl, rfl, ?_⟩
        refine s_put (hM'.keep e7) (ev_var rfl) (ev_op (ev_var rfl) ev_c rv_I0) (ev_var rfl) (ev_var rfl) (by omega) fun H7 h7 f7 => ?_
        refine ⟨_, _, rfl, ?_, (f'.trans (Fr.of e7)).trans f7, f7 _ _ (e7 _ _ ha) (ne_of ha hM'.ws (by intro z; cases z))⟩
        show MemAt K H7 m wl (mset (mlay μ (dent μ 0 - 1) 0 (at0 (rows.getD n [])) i) (ix (dent μ 0 - 1) (0 + (i : Int))) (at0 (rows.getD n []) i))
        rw [show (0 : Int) + (i : Int) = (i : Int) by omega]
        exact h7
      · rintro a σ' H6 ⟨x7, x8, rfl, hM6, f6, _⟩
        rw [List.length_map, hlen'] at hM6
        refine s_put hM6 (ev_var rfl) (ev_var rfl) ev_c ev_c (by omega) fun H7 h7 f7 => ?_
        have hf := f6.trans f7
        refine k H7 ?_ (by rw [hR0]; exact hD.words hM hf) (FS.fr hf (by simp))
        rw [hM0, hn]
        exact h7
    · rw [if_neg (of_decide_eq_false hr)] at hM0 hR0
      refine s_putsec (n := n) (row := frameI μ (dent μ 0 - 1)) (hD4.keep e5) (ev_var rfl) (ev_var rfl) (ev_var rfl) (by rw [← frameV_I]; exact es_frame (hM4.keep e5) (ev_var rfl) (ev_op (ev_var rfl) ev_c rv_I0) hI) hnl fun H6 d6 f6 => ?_
      have hM6 : MemAt K H6 m wl μ := (hM4.keep e5).sec (hD4.keep e5) f6
      refine s_put hM6 (ev_var rfl) (ev_var rfl) ev_c ev_c (by omega) fun H7 h7 f7 => ?_
      refine k H7 (by rw [hM0]; exact h7) ?_ (((FS.of (e14.trans e5)).trans (f6.weak (by simp))).trans (FS.fr f7 (by simp)))
      rw [hR0, hn]
      exact d6.words hM6 f7
end
end KQ

namespace KQ
open KA
open PySem PySem.Spec PyProof.Rows L2 Evl TL
def mleft (μ : Mem) : Mem := mset μ (ix 31 4) (μ (ix 31 4) - 1)
def goM (μ : Mem) (rows : List (List Int)) : Mem := if μ (ix 31 0) = 1 then (if mleft μ (ix 31 4) = 0 then doesM (mleft μ) rows else mleft μ) else μ
def goR (μ : Mem) (rows : List (List Int)) : List (List Int) := if μ (ix 31 0) = 1 then (if mleft μ (ix 31 4) = 0 then doesR (mleft μ) rows else rows) else rows
structure GoOk (μ : Mem) (rows : List (List Int)) : Prop where
  fr : framesV μ 8 = [.int 31]
  dv : DevOk (mleft μ) rows
  l0 : 1 ≤ doesM (mleft μ) rows (ix 31 5) ∧ doesM (mleft μ) rows (ix 31 5) ≤ 4
  l1 : doesM (mleft μ) rows (ix 0 (20 + (doesM (mleft μ) rows (ix 31 5) - 1))) = 0
def powR (μ : Mem) (rows : List (List Int)) (cut : Nat) : List (List Int) := if μ (ix 31 0) = 1 ∧ μ (ix 31 1) = 2 ∧ dent μ 0 ≠ 0 ∧ dent μ 1 / 1 % 2 ≠ 0 then rows.set (μ (ix 31 2)).toNat ((frameI μ (dent μ 0 - 1)).take cut ++ (rows.getD (μ (ix 31 2)).toNat []).drop cut) else rows
section
variable {σ : L2.St} {H : Hp} {K : PySem.W.Frag} {D : Ends} {tz : TS}
theorem es_ev {te : TE} {a : Addr} {xs : List V} (h : Ev te σ H (.ref a)) (ha : H a = some (.tup xs)) : EvS te σ H xs := fun H1 e Q q => h H1 e _ fun H2 e2 => q a H2 e2 (e2 _ _ (e _ _ ha))
theorem es_is {te : TE} {xs ys : List V} (h : EvS te σ H xs) (e : xs = ys) : EvS te σ H ys := e ▸ h
theorem es_U {te : TE} {xs : List V} (h : EvU te σ H xs) : EvS te σ H xs := fun H1 e Q q => h H1 e _ fun p H2 _ e2 h2 => q p H2 e2 h2
theorem cutV_whole {xs : List V} {lo hi : Option Int} (h : HT.sIx xs.length 0 lo = 0 ∧ HT.sIx xs.length xs.length hi = xs.length) : cutV xs lo hi = xs := by
  unfold cutV
  rw [h.1, h.2, List.drop_zero, Nat.sub_zero, List.take_length]
theorem es_slA {te : TE} {tl th : TO} {xs : List V} {lo hi : Option Int} (h : EvS te σ H xs) (h1 : ∀ H1, Ex H H1 → EvO tl σ H1 lo) (h2 : ∀ H1, Ex H H1 → EvO th σ H1 hi) : EvS (tSl (rSlA K) te tl th) σ H (cutV xs lo hi) := fun H1 e Q q =>
  h H1 e _ fun a H2 e2 ha => h1 H2 (e.trans e2) H2 (Ex.refl H2) _ fun H3 e3 => h2 H3 ((e.trans e2).trans e3) H3 (Ex.refl H3) _ fun H4 e4 =>
    have ha4 := e4 _ _ (e3 _ _ ha)
    ⟨a, xs, rfl, st_of ha4, fun hw => q a H4 ((e2.trans e3).trans e4) (by rw [cutV_whole hw]; exact ha4), fun hw p hp => q p _ (((e2.trans e3).trans e4).trans (Ex.new hp)) upd_same⟩
theorem es_catA {ta tb : TE} {xs ys : List V} (h1 : EvS ta σ H xs) (h2 : ∀ H1, Ex H H1 → EvS tb σ H1 ys) (hz : xs.length + ys.length ≤ 100000) : EvS (tOp (rCatA K) ta tb) σ H (xs ++ ys) := fun H1 e Q q =>
  h1 H1 e _ fun a H2 e2 ha => h2 H2 (e.trans e2) H2 (Ex.refl H2) _ fun b H3 e3 hb =>
    have ha3 := e3 _ _ ha
    ⟨a, b, xs, ys, rfl, rfl, st_of ha3, st_of hb, sz_of hz, fun z => by subst z; exact q b H3 (e2.trans e3) hb, fun _ z => by subst z; exact q a H3 (e2.trans e3) (by rw [List.append_nil]; exact ha3), fun _ _ p hp => q p _ ((e2.trans e3).trans (Ex.new hp)) upd_same⟩
theorem q_asgS {te : TE} {i : Nat} {xs : List V} (h : EvS te σ H xs) (k : ∀ p H1, Ex H H1 → H1 p = some (.tup xs) → tz D (σ.set i (some (.ref p))) H1) : tSeq (tAsg te (gName i)) tz D σ H := h H (Ex.refl H) _ fun p H1 e1 h1 => k p H1 e1 h1
theorem cut_to {xs : List V} {n : Nat} : cutV xs none (some (n : Int)) = xs.take n := by
  unfold cutV
  rw [HT.sIx_none, HT.sIx_nat, List.drop_zero, Nat.sub_zero]
  rcases Nat.le_total n xs.length with h | h
  · rw [Nat.min_eq_left h]
  · rw [Nat.min_eq_right h, List.take_length, List.take_of_length_le h]
theorem cut_from {xs : List V} {n : Nat} : cutV xs (some (n : Int)) none = xs.drop n := by
  unfold cutV
  rw [HT.sIx_none, HT.sIx_nat]
  rcases Nat.le_total n xs.length with h | h
  · rw [Nat.min_eq_left h, List.take_of_length_le (by rw [List.length_drop]; omega)]
  · rw [Nat.min_eq_right h, List.drop_eq_nil_of_le h, List.drop_eq_nil_of_le (Nat.le_refl _), List.take_nil]
end
section
variable {P : Program} {w : World} {K : PySem.W.Frag} {mg : Str → Option Value} {base : Heap}
def sp_devices_go2 (K : PySem.W.Frag) : Sp := fun vs H Q _ => ∃ (m wl dx dd rl : Addr) (rows : List (List Int)) (μ : Mem), vs = [.ref m] ∧ MemAt K H m wl μ ∧ DiskAt K H m wl dx dd rl rows ∧ framesV μ 8 = [.int 31] ∧ (μ (ix 31 0) = 1 → GoOk μ rows) ∧
  ∀ H', MemAt K H' m wl (goM μ rows) → DiskAt K H' m wl dx dd rl (goR μ rows) → FS [wl, rl] H H' → Q .non H'
theorem ok_devices_go (T : Txt K mg) : FnOk P w K mg base CX0 6 (f_devices_go K) (fd_devices_go K) ["memory"] (sp_devices_go2 K) := by
  refine T.fn_devices_go.ok sc_devices_go (fun vs H Q E h => ?_) (fun cdv A outer s H vs Q E hr h => ⟨_, PSs.nox (pss_one (ps_for PassesOwn.never rfl (pi_list (pe_call (ok_frames_of T) (hr.mono (by decide)) (by rfl) (T.glo_frames_of) (T.kp_frames_of) (T.bd_frames_of) .nil pass0 (pa_cons (pv 0) (pa_cons (T.pg_DEVICE) pa_nil)))) (pg_name (i := 1) sc_devices_go.nd rfl (Or.inl rfl)) (pss_one (ps_if (pt_cmpR op_eq (pe_meth (pv 0) (T.cl_Memory) (T.mt_Memory_word) (ok_Memory_word T) (hr.mono (by decide)) (T.bd_Memory_word) .nil pass0 (pa_cons (pv 1) (pa_cons (T.pg_D_STATUS) pa_nil))) (T.pg_BUSY) (nomark _)) (pss_cons (ps_expr (pe_meth (pv 0) (T.cl_Memory) (T.mt_Memory_put) (ok_Memory_put T) (hr.mono (by decide)) (T.bd_Memory_put) .nil pass0 (pa_cons (pv 1) (pa_cons (T.pg_D_LEFT) (pa_cons (pe_op op_sub (pe_meth (pv 0) (T.cl_Memory) (T.mt_Memory_word) (ok_Memory_word T) (hr.mono (by decide)) (T.bd_Memory_word) .nil pass0 (pa_cons (pv 1) (pa_cons (T.pg_D_LEFT) pa_nil))) pe_int) pa_nil))))) (pss_one (ps_if (pt_cmpR op_eq (pe_meth (pv 0) (T.cl_Memory) (T.mt_Memory_word) (ok_Memory_word T) (hr.mono (by decide)) (T.bd_Memory_word) .nil pass0 (pa_cons (pv 1) (pa_cons (T.pg_D_LEFT) pa_nil))) pe_int (nomark _)) (pss_cons (ps_expr (pe_call (ok_device_does T) (hr.mono (by decide)) (by rfl) (T.glo_device_does) (T.kp_device_does) (T.bd_device_does) .nil pass0 (pa_cons (pv 0) (pa_cons (pv 1) pa_nil)))) (pss_one (ps_if (pt_truth (pe_meth (pv 0) (T.cl_Memory) (T.mt_Memory_word) (ok_Memory_word T) (hr.mono (by decide)) (T.bd_Memory_word) .nil pass0 (pa_cons (pv 1) (pa_cons (T.pg_D_LINE) pa_nil))) (by intro _; rfl)) (pss_one (ps_expr (pe_call (ok_line_rises T) (hr.mono (by decide)) (by rfl) (T.glo_line_rises) (T.kp_line_rises) (T.bd_line_rises) .nil pass0 (pa_cons (pv 0) (pa_cons (pe_op op_sub (pe_meth (pv 0) (T.cl_Memory) (T.mt_Memory_word) (ok_Memory_word T) (hr.mono (by decide)) (T.bd_Memory_word) .nil pass0 (pa_cons (pv 1) (pa_cons (T.pg_D_LINE) pa_nil))) pe_int) pa_nil))))) pss_nil))) pss_nil))) pss_nil)))), ?_⟩)
  · obtain ⟨_, _, _, _, _, _, _, rfl, _⟩ := h
    rfl
  · obtain ⟨m, wl, dx, dd, rl, rows, μ, rfl, hM, hD, hfr, hO, k⟩ := h
    refine s_forNL (K := K) (xs := [.int 31]) (fun H1 e Q q => ⟨_, rfl, m, wl, μ, 8, rfl, hM.keep e, fun p H2 hp e2 h2 => q p H2 hp e2 (by rw [h2, hfr])⟩)
      (fun p i σ' H' => (i = 0 → σ' = [some (.ref m), none] ∧ Ex H H') ∧ (i ≠ 0 → MemAt K H' m wl (goM μ rows) ∧ DiskAt K H' m wl dx dd rl (goR μ rows) ∧ FS [wl, rl] H H') ∧ H' p = some (.lst [.int 31]) ∧ p ≠ wl ∧ p ≠ rl)
      (fun p H1 hp e h => ⟨fun _ => ⟨rfl, e⟩, fun z => absurd rfl z, h, fun z => (by rw [z, hM.ws] at hp; cases hp), fun z => (by rw [z, hD.rs.choose_spec.1] at hp; cases hp)⟩) (fun p i σ' H' _ h => sq_of h.2.2.1) ?_ (fun p σ' H' h => ?_)
    · rintro p i y σ' H' hy ⟨h0, _, hp, nw, nr⟩
      match i, hy with
      | 0, hy =>
      cases hy
      obtain ⟨rfl, e1⟩ := h0 rfl
      have hM1 := hM.keep e1
      have hD1 := hD.keep e1
      refine s_if (b := decide (μ (ix 31 0) = 1)) (et_is (et_test (ev_op (ev_word hM1 (ev_var rfl) (ev_var rfl) ev_c (by decide)) ev_c (rv_eq rfl))) dec_int) (fun hb H2 e2 => ?_) (fun hb H2 e2 => ?_)
      · have hb' := of_decide_eq_true hb
        obtain ⟨_, gd, gl0, gl1⟩ := hO hb'
        unfold goM goR
        rw [if_pos hb', if_pos hb']
        refine q_put (hM1.keep e2) (ev_var rfl) (ev_var rfl) ev_c (ev_op (ev_word (hM1.keep e2) (ev_var rfl) (ev_var rfl) ev_c (by decide)) ev_c rv_I0) (by decide) fun H3 h3 f3 => ?_
        have e12 := e1.trans e2
        have d3 : DiskAt K H3 m wl dx dd rl rows := (hD1.keep e2).words (hM1.keep e2) f3
        have hp3 : H3 p = some (.lst [.int 31]) := f3 _ _ (e2 _ _ hp) nw
        change MemAt K H3 m wl (mleft μ) at h3
        refine s_if (b := decide (mleft μ (ix 31 4) = 0)) (et_is (et_test (ev_op (ev_word h3 (ev_var rfl) (ev_var rfl) ev_c (by decide)) ev_c (rv_eq rfl))) dec_int) (fun hb2 H4 e4 => ?_) (fun hb2 H4 e4 => ?_)
        · rw [if_pos (of_decide_eq_true hb2), if_pos (of_decide_eq_true hb2)]
          refine ⟨_, rfl, _, rfl, m, wl, dx, dd, rl, rows, mleft μ, rfl, h3.keep e4, d3.keep e4, gd, fun H5 h5 d5 f5 => ?_⟩
          have hp5 : H5 p = some (.lst [.int 31]) := f5 _ _ (e4 _ _ hp3) (by simp [nw, nr])
          have f05 : FS [wl, rl] H H5 := (FS.fr ((Fr.of e12).trans (f3.trans (Fr.of e4))) (by simp)).trans f5
          refine s_when (b := true) (et_is (et_truI (ev_word h5 (ev_var rfl) (ev_var rfl) ev_c (by decide))) (decide_eq_true (by omega))) (fun _ H6 e6 => ?_) (fun h => by cases h)
          refine s_drop (v := .non) (ev_pure (ea_cons (ev_var rfl) (ea_cons (ev_op (ev_word (h5.keep e6) (ev_var rfl) (ev_var rfl) ev_c (by decide)) ev_c rv_I0) ea_nil)) fun H7 e7 Q q => ⟨m, wl, _, _, rfl, (h5.keep e6).keep e7, by omega, by omega, gl1, q⟩) fun H8 e8 => ?_
          exact ⟨fun z => (by cases z), fun _ => ⟨h5.keep (e6.trans e8), d5.keep (e6.trans e8), f05.trans (FS.of (e6.trans e8))⟩, (e6.trans e8) _ _ hp5, nw, nr⟩
        · rw [if_neg (of_decide_eq_false hb2), if_neg (of_decide_eq_false hb2)]
          exact ⟨fun z => (by cases z), fun _ => ⟨h3.keep e4, d3.keep e4, (FS.fr ((Fr.of e12).trans (f3.trans (Fr.of e4))) (by simp))⟩, e4 _ _ hp3, nw, nr⟩
      · have hb' := of_decide_eq_false hb
        unfold goM goR
        rw [if_neg hb', if_neg hb']
        exact ⟨fun z => (by cases z), fun _ => ⟨hM1.keep e2, hD1.keep e2, FS.of (e1.trans e2)⟩, e2 _ _ hp, nw, nr⟩
    · obtain ⟨h1, h2, h3⟩ := h.2.1 (by decide)
      exact k H' h1 h2 h3
/-- the power goes -/
def sp_power_goes (K : PySem.W.Frag) : Sp := fun vs H Q _ => ∃ (m wl dx dd rl : Addr) (rows : List (List Int)) (μ : Mem) (cut : Nat), vs = [.ref m, .int (cut : Int)] ∧ MemAt K H m wl μ ∧ DiskAt K H m wl dx dd rl rows ∧ framesV μ 8 = [.int 31] ∧ cut ≤ 64 ∧ DevOk μ rows ∧
  ∀ H', MemAt K H' m wl μ → DiskAt K H' m wl dx dd rl (powR μ rows cut) → FS [rl] H H' → Q .non H'
theorem ok_power_goes (T : Txt K mg) : FnOk P w K mg base CX0 5 (f_power_goes K) (fd_power_goes K) ["memory", "cut"] (sp_power_goes K) := by
  refine T.fn_power_goes.ok sc_power_goes (fun vs H Q E h => ?_) (fun cdv A outer s H vs Q E hr h => ⟨_, PSs.nox (pss_one (ps_for PassesOwn.never rfl (pi_list (pe_call (ok_frames_of T) (hr.mono (by decide)) (by rfl) (T.glo_frames_of) (T.kp_frames_of) (T.bd_frames_of) .nil pass0 (pa_cons (pv 0) (pa_cons (T.pg_DEVICE) pa_nil)))) (pg_name (i := 2) sc_power_goes.nd rfl (Or.inl rfl)) (pss_cons (ps_asg (pe_call (ok_entry T) (hr.mono (by decide)) (by rfl) (T.glo_entry) (T.kp_entry) (T.bd_entry) .nil pass0 (pa_cons (pv 0) (pa_cons (pv 2) (pa_cons (pe_meth (pv 0) (T.cl_Memory) (T.mt_Memory_word) (ok_Memory_word T) (hr.mono (by decide)) (T.bd_Memory_word) .nil pass0 (pa_cons (pv 2) (pa_cons (T.pg_D_PAGE) pa_nil))) pa_nil)))) (pg_tup (by rfl) (pgs_cons (pg_name (i := 3) sc_power_goes.nd rfl (Or.inl rfl)) (pgs_cons (pg_name (i := 4) sc_power_goes.nd rfl (Or.inl rfl)) (pgs_cons (pg_name (i := 5) sc_power_goes.nd rfl (Or.inl rfl)) pgs_nil))))) (pss_one (ps_if (PW.pt (pw_and (pt_cmpR op_eq (pe_meth (pv 0) (T.cl_Memory) (T.mt_Memory_word) (ok_Memory_word T) (hr.mono (by decide)) (T.bd_Memory_word) .nil pass0 (pa_cons (pv 2) (pa_cons (T.pg_D_STATUS) pa_nil))) (T.pg_BUSY) (nomark _)) (pw_and (pt_cmpR op_eq (pe_meth (pv 0) (T.cl_Memory) (T.mt_Memory_word) (ok_Memory_word T) (hr.mono (by decide)) (T.bd_Memory_word) .nil pass0 (pa_cons (pv 2) (pa_cons (T.pg_D_ORDER) pa_nil))) pe_int (nomark _)) (pw_and (pt_truth (pv 3) (by intro _; rfl)) (pw_and1 (pt_truth (pe_op op_mod (pe_op op_fdiv (pv 4) (T.pg_READ)) pe_int) (by intro _; rfl))))))) (pss_cons (ps_set (i := 6) sc_power_goes.nd rfl (Or.inl rfl) (pe_meth (pv 0) (T.cl_Memory) (T.mt_Memory_word) (ok_Memory_word T) (hr.mono (by decide)) (T.bd_Memory_word) .nil pass0 (pa_cons (pv 2) (pa_cons (T.pg_D_SECTOR) pa_nil)))) (pss_cons (ps_set (i := 7) sc_power_goes.nd rfl (Or.inl rfl) (pe_ix ix_tup (pe_meth (pv 0) (T.cl_Memory) (T.mt_Memory_disk) (ok_Memory_disk T) (hr.mono (by decide)) (T.bd_Memory_disk) .nil pass0 (pa_cons (pv 2) pa_nil)) (pv 6) (fun _ _ => rfl))) (pss_one (ps_expr (pe_meth (pv 0) (T.cl_Memory) (T.mt_Memory_put_sector) (ok_Memory_put_sector T) (hr.mono (by decide)) (T.bd_Memory_put_sector) .nil pass0 (pa_cons (pv 2) (pa_cons (pv 6) (pa_cons (pe_op op_catA (pe_slice sl_tupA (pe_meth (pv 0) (T.cl_Memory) (T.mt_Memory_frame) (ok_Memory_frame T) (hr.mono (by decide)) (T.bd_Memory_frame) .nil pass0 (pa_cons (pe_op op_sub (pv 3) pe_int) pa_nil)) po_none (po_some (pv 1))) (pe_slice sl_tupA (pv 7) (po_some (pv 1)) po_none)) pa_nil)))))))) pss_nil))))), ?_⟩)
  · obtain ⟨_, _, _, _, _, _, _, _, rfl, _⟩ := h
    rfl
  · obtain ⟨m, wl, dx, dd, rl, rows, μ, cut, rfl, hM, hD, hfr, hc, hO, k⟩ := h
    obtain ⟨hk, ⟨s0, s1⟩, ⟨p0, p1⟩, hI0, hlen⟩ := hO
    obtain ⟨n, hn⟩ : ∃ n : Nat, μ (ix 31 2) = n := ⟨(μ (ix 31 2)).toNat, by omega⟩
    have hnl : n < rows.length := by omega
    have he : eat μ 31 (μ (ix 31 3)) = μ (ix 31 3) * 4 + 8 := by unfold eat; rw [if_pos hk]
    obtain ⟨R', hR0⟩ : ∃ R', R' = powR μ rows cut := ⟨_, rfl⟩
    rw [← hR0] at k
    refine s_forNL (K := K) (xs := [.int 31]) (fun H1 e Q q => ⟨_, rfl, m, wl, μ, 8, rfl, hM.keep e, fun p H2 hp e2 h2 => q p H2 hp e2 (by rw [h2, hfr])⟩)
      (fun p i σ' H' => (i = 0 → σ' = [some (.ref m), some (.int (cut : Int)), none, none, none, none, none, none] ∧ Ex H H') ∧ (i ≠ 0 → MemAt K H' m wl μ ∧ DiskAt K H' m wl dx dd rl R' ∧ FS [rl] H H') ∧ H' p = some (.lst [.int 31]) ∧ p ≠ wl ∧ p ≠ rl)
      (fun p H1 hp e h => ⟨fun _ => ⟨rfl, e⟩, fun z => absurd rfl z, h, fun z => (by rw [z, hM.ws] at hp; cases hp), fun z => (by rw [z, hD.rs.choose_spec.1] at hp; cases hp)⟩) (fun p i σ' H' _ h => sq_of h.2.2.1) ?_ (fun p σ' H' h => ?_)
    · rintro p i y σ' H' hy ⟨h0, _, hp, nw, nr⟩
      match i, hy with
      | 0, hy =>
      cases hy
      obtain ⟨rfl, e1⟩ := h0 rfl
      have hM1 := hM.keep e1
      have hD1 := hD.keep e1
      refine q_callG (ea_cons (ev_var rfl) (ea_cons (ev_var rfl) (ea_cons (ev_word hM1 (ev_var rfl) (ev_var rfl) ev_c (by decide)) ea_nil))) fun H2 e2 => ⟨m, wl, μ, 31, _, rfl, hM1.keep e2, ⟨by decide, by decide⟩, p0, by omega, fun q H3 hq e3 h3 => ⟨q, _, rfl, st_of h3, rfl, _, _, rfl, _, _, rfl, _, _, rfl, rfl, ?_⟩⟩
      have e13 := (e1.trans e2).trans e3
      have hM3 := hM.keep e13
      have hD3 := hD.keep e13
      have x0 : μ (ix 31 (eat μ 31 (μ (ix 31 3)) + 0)) = dent μ 0 := by rw [he]; rfl
      have x1 : μ (ix 31 (eat μ 31 (μ (ix 31 3)) + 1)) = dent μ 1 := by rw [he]; rfl
      rw [x0, x1]
      refine s_when (b := decide (μ (ix 31 0) = 1 ∧ μ (ix 31 1) = 2 ∧ dent μ 0 ≠ 0 ∧ dent μ 1 / 1 % 2 ≠ 0)) (et_is (et_and (et_test (ev_op (ev_word hM3 (ev_var rfl) (ev_var rfl) ev_c (by decide)) ev_c (rv_eq rfl))) fun _ => et_and (et_test (ev_op (ev_word hM3 (ev_var rfl) (ev_var rfl) ev_c (by decide)) ev_c (rv_eq rfl))) fun _ => et_and (et_truI (ev_var rfl)) fun _ => et_truI (ev_mod (ev_div (ev_var rfl) ev_c (by decide)) ev_c (by decide))) (by rw [dec_int, dec_int]; simp only [Bool.decide_and])) (fun hb H4 e4 => ?_) (fun hb H4 e4 => ?_)
      · have hb' := of_decide_eq_true hb
        unfold powR at hR0
        rw [if_pos hb'] at hR0
        have hI : InF (dent μ 0 - 1) := hI0.resolve_left hb'.2.2.1
        have hM4 := hM3.keep e4
        have hD4 := hD3.keep e4
        refine q_asg (v := .int (n : Int)) (ev_is (ev_word hM4 (ev_var rfl) (ev_var rfl) ev_c (by decide)) (by rw [hn])) fun H5 e5 => ?_
        refine q_asgS (es_disk (n := n) (hD4.keep e5) (ev_var rfl) (ev_var rfl) (ev_var rfl) hnl) fun o H6 e6 h6 => ?_
        have e46 := e5.trans e6
        have hM6 := hM4.keep e46
        refine s_putsec (n := n) (row := (frameI μ (dent μ 0 - 1)).take cut ++ (rows.getD n []).drop cut) (hD4.keep e46) (ev_var rfl) (ev_var rfl) (ev_var rfl) (es_is (es_catA (es_slA (es_frame hM6 (ev_var rfl) (ev_op (ev_var rfl) ev_c rv_I0) hI) (fun H1 e => eo_none) (fun H1 e => eo_some (ev_var rfl))) (fun H7 e7 => es_slA (es_ev (ev_var rfl) (e7 _ _ h6)) (fun H1 e => eo_some (ev_var rfl)) (fun H1 e => eo_none)) ?_) ?_) hnl fun H7 d7 f7 => ?_
        · have a := cutV_length (frameV μ (dent μ 0 - 1)) none (some (cut : Int))
          have b := cutV_length ((rows.getD n []).map V.int) (some (cut : Int)) none
          have c : (frameV μ (dent μ 0 - 1)).length = 64 := by unfold frameV; simp
          have d : (rows.getD n []).length = 64 := hlen _ (by rw [List.getD_eq_getElem?_getD, List.getElem?_eq_getElem hnl]; exact List.getElem_mem hnl)
          rw [List.length_map] at b
          omega
        · rw [cut_to, cut_from, frameV_I, List.map_append, List.map_take, List.map_drop]
        have f07 : FS [rl] H H7 := (FS.of ((e13.trans e4).trans e46)).trans f7
        refine ⟨fun z => (by cases z), fun _ => ⟨hM6.sec (hD4.keep e46) f7, ?_, f07⟩, f7 _ _ (e46 _ _ (e4 _ _ ((e2.trans e3) _ _ hp))) (by simp [nr]), nw, nr⟩
        rw [hR0, hn]
        exact d7
      · have hb' := of_decide_eq_false hb
        unfold powR at hR0
        rw [if_neg hb'] at hR0
        exact ⟨fun z => (by cases z), fun _ => ⟨hM3.keep e4, by rw [hR0]; exact hD3.keep e4, FS.of (e13.trans e4)⟩, e4 _ _ ((e2.trans e3) _ _ hp), nw, nr⟩
    · obtain ⟨h1, h2, h3⟩ := h.2.1 (by decide)
      exact k H' h1 h2 h3
end
end KQ

namespace KA
open PySem PySem.Spec PyProof.Rows L2 Evl TL
/-! ### a tick -/
/-- behind the time's step: what is asked of the memory for who goes -/
structure Goes (μ : Mem) (ent : Ent) (t wd : Int) : Prop where
  t0 : 2 ≤ t
  t1 : t < 32
  kd : μ (ix 1 t) = 5
  at_ : GoodAt μ ent t (μ (ix t 1))
  fr : InF (frOf μ ent t (μ (ix t 1)))
  word : μ (ix (frOf μ ent t (μ (ix t 1))) (μ (ix t 1) % 64)) = wd
  op : wd / 4096 = 1 ∨ wd / 4096 = 2 ∨ wd / 4096 = 6 ∨ wd / 4096 = 8 ∨ (wd / 4096 = 10 ∧ wd % 64 = 0)
  reg : ∀ n : Int, 0 ≤ n → n < 8 → 0 ≤ μ (ix t (2 + n)) ∧ μ (ix t (2 + n)) < 65536
structure Spends (μ : Mem) (t : Int) : Prop where
  kd : μ (ix 1 t) = 5
  st : μ (ix t 0) = 1
  turn : ¬ μ (ix t 14) > 1 → ∀ μ1, μ1 = mset μ (ix t 14) (μ (ix t 13)) → 0 ≤ mnum μ1 t ∧ mnum μ1 t < 8 ∧ μ1 (ix 0 (4 + mnum μ1 t)) = t + 1 ∧ ∀ μ2, μ2 = mtake μ1 0 (4 + mnum μ1 t) (12 + mnum μ1 t) t → 0 ≤ mnum μ2 t ∧ mnum μ2 t < 8 ∧ (μ2 (ix 0 (12 + mnum μ2 t)) ≠ 0 → InF (μ2 (ix 0 (12 + mnum μ2 t)) - 1))
def mtime (μ : Mem) : Mem := mset μ (ix 0 0) (μ (ix 0 0) + 1)
section
variable {P : Program} {w : World} {K : PySem.W.Frag} {mg : Str → Option Value} {base : Heap}
def sp_tick (K : PySem.W.Frag) : Sp := fun vs H Q _ => ∃ (mc m wl cl : Addr) (ent : Ent) (μ μ2 : Mem), vs = [.ref mc] ∧ BothAt K H mc m wl cl ent μ ∧ 0 ≤ mtime μ (ix 0 1) ∧ mtime μ (ix 0 1) < 4 ∧ 0 ≤ mdom (mtime μ) ∧ mdom (mtime μ) < 2 ∧
  (mfrom (mtime μ) 4 = none → μ2 = mtime μ) ∧ (∀ t, mfrom (mtime μ) 4 = some t → ∃ wd, Goes (mtime μ) ent t wd ∧ Spends (mstep (mtime μ) t wd (mtime μ (ix t 1))) t ∧ μ2 = mspent (mstep (mtime μ) t wd (mtime μ (ix t 1))) t) ∧
  (∀ i : Nat, i < 32 → μ2 (ix 1 (i : Int)) ≠ 8) ∧ 0 ≤ μ2 (ix 0 1) ∧ μ2 (ix 0 1) < 4 ∧
  ∀ H', BothAt K H' mc m wl cl ent (mpart μ2).1 → FS [wl, mc, cl] H H' → Q (oI (mfrom (mtime μ) 4)) H'
theorem ok_Machine_tick (T : Txt K mg) : FnOk P w K mg base CX0 8 (f_Machine_tick K) (fd_Machine_tick K) ["self"] (sp_tick K) := by
  refine T.fn_Machine_tick.ok sc_Machine_tick (fun vs H Q E h => ?_) (fun cdv A outer s H vs Q E hr h => ⟨_, PSs.nox (pss_cons (ps_set (i := 1) sc_Machine_tick.nd rfl (Or.inl rfl) (pe_fld (pv 0) rfl)) (pss_cons (ps_expr (pe_meth (pv 1) (T.cl_Memory) (T.mt_Memory_put) (ok_Memory_put T) (hr.mono (by decide)) (T.bd_Memory_put) .nil pass0 (pa_cons (T.pg_KERNEL) (pa_cons (T.pg_K_TIME) (pa_cons (pe_op op_add (pe_meth (pv 1) (T.cl_Memory) (T.mt_Memory_word) (ok_Memory_word T) (hr.mono (by decide)) (T.bd_Memory_word) .nil pass0 (pa_cons (T.pg_KERNEL) (pa_cons (T.pg_K_TIME) pa_nil))) pe_int) pa_nil))))) (pss_cons (ps_set (i := 2) sc_Machine_tick.nd rfl (Or.inl rfl) (pe_call (ok_chosen T) (hr.mono (by decide)) (by rfl) (T.glo_chosen) (T.kp_chosen) (T.bd_chosen) .nil pass0 (pa_cons (pv 1) pa_nil))) (pss_cut (ps_if (pt_cmpR op_notN (pv 2) pe_non (nomark _)) (pss_cons (ps_if (pt_val (pe_meth (pv 0) (T.cl_Machine) (T.mt_Machine_step) (ok_Machine_step T) (hr.mono (by decide)) (T.bd_Machine_step) .nil pass0 (pa_cons (pv 2) pa_nil))) (pss_one (ps_expr (pe_meth0 (pv 0) (T.cl_Machine) (T.mt_Machine_forget) (ok_Machine_forget T) (hr.mono (by decide)) (T.bd_Machine_forget) .nil pass0))) pss_nil) (pss_one (ps_expr (pe_call (ok_spent T) (hr.mono (by decide)) (by rfl) (T.glo_spent) (T.kp_spent) (T.bd_spent) .nil pass0 (pa_cons (pv 1) (pa_cons (pv 2) pa_nil)))))) pss_nil) (pss_cons (ps_expr (pe_call (ok_devices_go T) (hr.mono (by decide)) (by rfl) (T.glo_devices_go) (T.kp_devices_go) (T.bd_devices_go) .nil pass0 (pa_cons (pv 1) pa_nil))) (pss_cut (ps_if (pt_val (pe_call (ok_next_part T) (hr.mono (by decide)) (by rfl) (T.glo_next_part) (T.kp_next_part) (T.bd_next_part) .nil pass0 (pa_cons (pv 1) pa_nil))) (pss_one (ps_expr (pe_meth0 (pv 0) (T.cl_Machine) (T.mt_Machine_forget) (ok_Machine_forget T) (hr.mono (by decide)) (T.bd_Machine_forget) .nil pass0))) pss_nil) (pss_one (ps_ret (pv 2))))))))), ?_⟩)
  · obtain ⟨_, _, _, _, _, _, _, rfl, _⟩ := h
    rfl
  · obtain ⟨mc, m, wl, cl, ent, μ, μ2, rfl, hB, d1, d2, d3, d4, hn, hs, h8, p1, p2, k⟩ := h
    obtain ⟨dx, kl, c0, c1, kept, h1, h2, h3, h4, h4w, h5', h6⟩ := hB.ma.ex
    refine q_asg (ev_fld (ev_var rfl) h1 T.cl_Machine T.no_Machine_memory rfl) fun H1 e1 => ?_
    have hB1 := hB.keep e1
    refine q_put hB1.me (ev_var rfl) ev_c ev_c (ev_op (ev_word hB1.me (ev_var rfl) ev_c ev_c (by omega)) ev_c rv_I0) (by omega) fun H2 m2 f2 => ?_
    have hB2 : BothAt K H2 mc m wl cl ent (mtime μ) := hB1.words f2 m2
    have f02 : FS [wl, mc, cl] H H2 := (FS.of e1).trans (FS.fr f2 (by simp))
    obtain ⟨r, hr0⟩ : ∃ r, r = mfrom (mtime μ) 4 := ⟨_, rfl⟩
    rw [← hr0] at hn hs k
    refine q_asg (v := oI r) (ev_pure (ea_cons (ev_var rfl) ea_nil) fun H3 e3 Q q => ⟨m, wl, mtime μ, rfl, hB2.me.keep e3, d1, d2, d3, d4, fun H4 e4 => by rw [← hr0]; exact q H4 e4⟩) fun H3 e3 => ?_
    have hB3 := hB2.keep e3
    have f03 := f02.trans (FS.of e3)
    refine q_cut (M := fun σ' H' => σ' = [some (.ref mc), some (.ref m), some (oI r)] ∧ BothAt K H' mc m wl cl ent μ2 ∧ FS [wl, mc, cl] H H') ?_ ?_
    · cases r with
      | none =>
        refine s_when (b := false) (et_is (et_test (ev_op (ev_var rfl) ev_c rv_notN)) rfl) (fun h => by cases h) fun _ H4 e4 => ⟨rfl, ?_, f03.trans (FS.of e4)⟩
        rw [hn rfl]
        exact hB3.keep e4
      | some t =>
        obtain ⟨wd, hg, hsp, hmu⟩ := hs t rfl
        refine s_when (b := true) (et_is (et_test (ev_op (ev_var rfl) ev_c rv_notN)) rfl) (fun _ H4 e4 => ?_) (fun h => by cases h)
        have hB4 := hB3.keep e4
        obtain ⟨dx2, kl2, c02, c12, kept2, g1, g2, g3, g4, g4w, g5', g6⟩ := hB4.ma.ex
        refine ⟨_, rfl, mc, dx2, _, rfl, g1, rfl, _, rfl, mc, m, wl, cl, ent, mtime μ, t, wd, rfl, hB4, hg.t0, hg.t1, hg.kd, hg.at_, hg.fr, hg.word, hg.op, hg.reg, fun H5 hB5 f5 => ⟨false, rfl, iteF ?_⟩⟩
        refine ⟨_, rfl, _, rfl, m, wl, _, t, rfl, hB5.me, ⟨by have := hg.t0; omega, hg.t1⟩, hsp.kd, hsp.st, hsp.turn, fun H6 m6 f6 => ⟨rfl, ?_, ?_⟩⟩
        · rw [hmu]
          exact hB5.words f6 m6
        · exact ((f03.trans (FS.of e4)).trans f5).trans (FS.fr f6 (by simp))
    rintro σ' H4 ⟨rfl, hB4, f04⟩
    refine ⟨_, rfl, m, wl, μ2, rfl, hB4.me, h8, fun H5 e5 => ?_⟩
    have hB5 := hB4.keep e5
    refine q_cut (M := fun σ' H' => σ' = [some (.ref mc), some (.ref m), some (oI r)] ∧ BothAt K H' mc m wl cl ent (mpart μ2).1 ∧ FS [wl, mc, cl] H H') ?_ ?_
    · refine ⟨_, rfl, m, wl, μ2, rfl, hB5.me, p1, p2, fun H6 m6 f6 => ⟨(mpart μ2).2, rfl, ?_⟩⟩
      have hB6 := hB5.words f6 m6
      have f06 := (f04.trans (FS.of e5)).trans (FS.fr f6 (by simp))
      generalize (mpart μ2).2 = bb
      cases bb with
      | true =>
        refine iteT ?_
        obtain ⟨dx2, kl2, c02, c12, kept2, g1, g2, g3, g4, g4w, g5', g6⟩ := hB6.ma.ex
        exact ⟨_, rfl, mc, dx2, _, rfl, g1, rfl, mc, m, wl, cl, ent, _, rfl, hB6, fun H7 hB7 f7 => ⟨rfl, hB7, f06.trans (f7.weak fun a ha => List.mem_cons_of_mem _ ha)⟩⟩
      | false => exact iteF ⟨rfl, hB6, f06⟩
    rintro σ' H6 ⟨rfl, hB6, f06⟩
    exact s_ret (ev_var rfl) fun H7 e7 => k H7 (hB6.keep e7) (f06.trans (FS.of e7))
end
end KA

namespace KQ
open KA
open PySem PySem.Spec PyProof.Rows L2 Evl TL
structure RowsOk (rows : List (List Int)) : Prop where
  ne : rows ≠ []
  len : ∀ r ∈ rows, r.length = 64
theorem frameI_len {μ : Mem} {f : Int} : (frameI μ f).length = 64 := by simp [frameI]
theorem RowsOk.set {rows : List (List Int)} (h : RowsOk rows) {n : Nat} {row : List Int} (hl : row.length = 64) : RowsOk (rows.set n row) := by
  refine ⟨fun z => h.ne (by have := congrArg List.length z; rw [List.length_set] at this; exact List.length_eq_zero_iff.mp this), fun r hr => ?_⟩
  rcases List.mem_or_eq_of_mem_set hr with h1 | h1
  · exact h.len _ h1
  · rw [h1]; exact hl
theorem doesR_ok {μ : Mem} {rows : List (List Int)} (h : RowsOk rows) : RowsOk (doesR μ rows) := by
  unfold doesR
  split
  · exact h
  · split
    · exact h
    · exact h.set frameI_len
theorem goR_ok {μ : Mem} {rows : List (List Int)} (h : RowsOk rows) : RowsOk (goR μ rows) := by
  unfold goR
  split
  · split
    · exact doesR_ok h
    · exact h
  · exact h
section
variable {K : PySem.W.Frag} {H H' : Hp} {mc m wl cl dx dd rl : Addr} {ent : Ent} {μ μ' : Mem} {rows : List (List Int)}
theorem DiskAt.mach (h : DiskAt K H m wl dx dd rl rows) (hB : BothAt K H mc m wl cl ent μ) (hR : RowsOk rows) (f : FS [wl, mc, cl] H H') : DiskAt K H' m wl dx dd rl rows := by
  obtain ⟨dx1, kl, c0, c1, kept, g1, g2, g3, g4, g4w, g5, g6⟩ := hB.ma.ex
  obtain ⟨ts, r1, r2, r3⟩ := h.rs
  have hw := hB.me.ws
  have nrc : rl ≠ cl := by
    intro z
    rw [z, g3] at r1
    cases r1
    have hp : 0 < rows.length := List.length_pos_iff.mpr hR.ne
    obtain ⟨t, e1, _⟩ := r3 0 _ rfl
    cases e1
  have tu : ∀ t xs, H t = some (.tup xs) → t ∉ [wl, mc, cl] := fun t xs ht => by
    simp only [List.mem_cons, List.not_mem_nil, or_false, not_or]
    exact ⟨ne_of ht hw (by intro z; cases z), ne_of ht g1 (by intro z; cases z), ne_of ht g3 (by intro z; cases z)⟩
  refine ⟨f _ _ h.ins ?_, f _ _ h.di ?_, ⟨ts, f _ _ r1 ?_, r2, fun i v hv => let ⟨t, e1, e2⟩ := r3 i v hv; ⟨t, e1, f _ _ e2 (tu _ _ e2)⟩⟩, h.nw⟩
  · simp only [List.mem_cons, List.not_mem_nil, or_false, not_or]
    exact ⟨ne_of h.ins hw (by intro z; cases z), Ne.symm hB.mm, ne_of h.ins g3 (by intro z; cases z)⟩
  · simp only [List.mem_cons, List.not_mem_nil, or_false, not_or]
    exact ⟨ne_of h.di hw (by intro z; cases z), ne_of h.di g1 (by intro z; cases z), ne_of h.di g3 (by intro z; cases z)⟩
  · simp only [List.mem_cons, List.not_mem_nil, or_false, not_or]
    exact ⟨h.nw, ne_of r1 g1 (by intro z; cases z), nrc⟩
theorem _root_.KA.BothAt.dev (hB : BothAt K H mc m wl cl ent μ) (h : DiskAt K H m wl dx dd rl rows) (hR : RowsOk rows) (f : FS [wl, rl] H H') (hm : MemAt K H' m wl μ') : BothAt K H' mc m wl cl ent μ' := by
  obtain ⟨dx1, kl, c0, c1, kept, g1, g2, g3, g4, g4w, g5, g6⟩ := hB.ma.ex
  obtain ⟨ts, r1, r2, r3⟩ := h.rs
  have hw := hB.me.ws
  have hp : 0 < rows.length := List.length_pos_iff.mpr hR.ne
  have nrc : cl ≠ rl := by
    intro z
    rw [← z, g3] at r1
    cases r1
    obtain ⟨t, e1, _⟩ := r3 0 _ rfl
    cases e1
  have nkl : kl ≠ rl := by
    intro z
    rw [← z, g2] at r1
    cases r1
    have hv : kept[0]? = some (kept[0]'(by omega)) := List.getElem?_eq_getElem (by omega)
    obtain ⟨t, e1, e2⟩ := r3 0 _ hv
    obtain ⟨q, tb, pg, e, k1, k2, _⟩ := g6 _ (List.getElem_mem (by omega : 0 < kept.length))
    rw [e1] at k1
    cases k1
    rw [e2] at k2
    have hl := hR.len _ (List.getElem_mem hp)
    have : ((rows.getD 0 []).map V.int).length = 3 := by
      have := congrArg (fun o : Option HO => match o with | some (.tup xs) => xs.length | _ => 0) k2
      exact this
    rw [List.length_map, List.getD_eq_getElem?_getD, List.getElem?_eq_getElem hp] at this
    simp only [Option.getD_some] at this
    omega
  have nm : ∀ {a : Addr}, a ≠ wl → a ≠ rl → a ∉ [wl, rl] := fun h1 h2 => by simp [h1, h2]
  exact ⟨⟨dx1, kl, c0, c1, kept, f _ _ g1 (nm (ne_of g1 hw (by intro z; cases z)) (ne_of g1 r1 (by intro z; cases z))), f _ _ g2 (nm g4w nkl), f _ _ g3 (nm (Ne.symm hB.wc) nrc), g4, g4w, g5, fun v hv => (g6 v hv).mono fun b xs hb => f _ _ hb (nm (ne_of hb hw (by intro z; cases z)) (ne_of hb r1 (by intro z; cases z)))⟩, hm, hB.wc, hB.mm⟩
end
section
variable {P : Program} {w : World} {K : PySem.W.Frag} {mg : Str → Option Value} {base : Heap}
def sp_tick2 (K : PySem.W.Frag) : Sp := fun vs H Q _ => ∃ (mc m wl cl dx dd rl : Addr) (rows : List (List Int)) (ent : Ent) (μ μ2 : Mem), vs = [.ref mc] ∧ BothAt K H mc m wl cl ent μ ∧ DiskAt K H m wl dx dd rl rows ∧ RowsOk rows ∧ 0 ≤ mtime μ (ix 0 1) ∧ mtime μ (ix 0 1) < 4 ∧ 0 ≤ mdom (mtime μ) ∧ mdom (mtime μ) < 2 ∧
  (mfrom (mtime μ) 4 = none → μ2 = mtime μ) ∧ (∀ t, mfrom (mtime μ) 4 = some t → ∃ wd, Goes (mtime μ) ent t wd ∧ Spends (mstep (mtime μ) t wd (mtime μ (ix t 1))) t ∧ μ2 = mspent (mstep (mtime μ) t wd (mtime μ (ix t 1))) t) ∧
  framesV μ2 8 = [.int 31] ∧ (μ2 (ix 31 0) = 1 → GoOk μ2 rows) ∧ 0 ≤ goM μ2 rows (ix 0 1) ∧ goM μ2 rows (ix 0 1) < 4 ∧
  ∀ H', BothAt K H' mc m wl cl ent (mpart (goM μ2 rows)).1 → DiskAt K H' m wl dx dd rl (goR μ2 rows) → FS [wl, rl, mc, cl] H H' → Q (oI (mfrom (mtime μ) 4)) H'
theorem ok_Machine_tick (T : Txt K mg) : FnOk P w K mg base CX0 8 (f_Machine_tick K) (fd_Machine_tick K) ["self"] (sp_tick2 K) := by
  refine T.fn_Machine_tick.ok sc_Machine_tick (fun vs H Q E h => ?_) (fun cdv A outer s H vs Q E hr h => ⟨_, PSs.nox (pss_cons (ps_set (i := 1) sc_Machine_tick.nd rfl (Or.inl rfl) (pe_fld (pv 0) rfl)) (pss_cons (ps_expr (pe_meth (pv 1) (T.cl_Memory) (T.mt_Memory_put) (ok_Memory_put T) (hr.mono (by decide)) (T.bd_Memory_put) .nil pass0 (pa_cons (T.pg_KERNEL) (pa_cons (T.pg_K_TIME) (pa_cons (pe_op op_add (pe_meth (pv 1) (T.cl_Memory) (T.mt_Memory_word) (ok_Memory_word T) (hr.mono (by decide)) (T.bd_Memory_word) .nil pass0 (pa_cons (T.pg_KERNEL) (pa_cons (T.pg_K_TIME) pa_nil))) pe_int) pa_nil))))) (pss_cons (ps_set (i := 2) sc_Machine_tick.nd rfl (Or.inl rfl) (pe_call (ok_chosen T) (hr.mono (by decide)) (by rfl) (T.glo_chosen) (T.kp_chosen) (T.bd_chosen) .nil pass0 (pa_cons (pv 1) pa_nil))) (pss_cut (ps_if (pt_cmpR op_notN (pv 2) pe_non (nomark _)) (pss_cons (ps_if (pt_val (pe_meth (pv 0) (T.cl_Machine) (T.mt_Machine_step) (ok_Machine_step T) (hr.mono (by decide)) (T.bd_Machine_step) .nil pass0 (pa_cons (pv 2) pa_nil))) (pss_one (ps_expr (pe_meth0 (pv 0) (T.cl_Machine) (T.mt_Machine_forget) (ok_Machine_forget T) (hr.mono (by decide)) (T.bd_Machine_forget) .nil pass0))) pss_nil) (pss_one (ps_expr (pe_call (ok_spent T) (hr.mono (by decide)) (by rfl) (T.glo_spent) (T.kp_spent) (T.bd_spent) .nil pass0 (pa_cons (pv 1) (pa_cons (pv 2) pa_nil)))))) pss_nil) (pss_cons (ps_expr (pe_call (ok_devices_go T) (hr.mono (by decide)) (by rfl) (T.glo_devices_go) (T.kp_devices_go) (T.bd_devices_go) .nil pass0 (pa_cons (pv 1) pa_nil))) (pss_cut (ps_if (pt_val (pe_call (ok_next_part T) (hr.mono (by decide)) (by rfl) (T.glo_next_part) (T.kp_next_part) (T.bd_next_part) .nil pass0 (pa_cons (pv 1) pa_nil))) (pss_one (ps_expr (pe_meth0 (pv 0) (T.cl_Machine) (T.mt_Machine_forget) (ok_Machine_forget T) (hr.mono (by decide)) (T.bd_Machine_forget) .nil pass0))) pss_nil) (pss_one (ps_ret (pv 2))))))))), ?_⟩)
  · obtain ⟨_, _, _, _, _, _, _, _, _, _, _, rfl, _⟩ := h
    rfl
  · obtain ⟨mc, m, wl, cl, dxD, ddD, rl, rows, ent, μ, μ2, rfl, hB, hD, hR, d1, d2, d3, d4, hn, hs, h8, hgo, p1, p2, k⟩ := h
    obtain ⟨dx, kl, c0, c1, kept, h1, h2, h3, h4, h4w, h5', h6⟩ := hB.ma.ex
    refine q_asg (ev_fld (ev_var rfl) h1 T.cl_Machine T.no_Machine_memory rfl) fun H1 e1 => ?_
    have hB1 := hB.keep e1
    refine q_put hB1.me (ev_var rfl) ev_c ev_c (ev_op (ev_word hB1.me (ev_var rfl) ev_c ev_c (by omega)) ev_c rv_I0) (by omega) fun H2 m2 f2 => ?_
    have hB2 : BothAt K H2 mc m wl cl ent (mtime μ) := hB1.words f2 m2
    have f02 : FS [wl, mc, cl] H H2 := (FS.of e1).trans (FS.fr f2 (by simp))
    obtain ⟨r, hr0⟩ : ∃ r, r = mfrom (mtime μ) 4 := ⟨_, rfl⟩
    rw [← hr0] at hn hs k
    refine q_asg (v := oI r) (ev_pure (ea_cons (ev_var rfl) ea_nil) fun H3 e3 Q q => ⟨m, wl, mtime μ, rfl, hB2.me.keep e3, d1, d2, d3, d4, fun H4 e4 => by rw [← hr0]; exact q H4 e4⟩) fun H3 e3 => ?_
    have hB3 := hB2.keep e3
    have f03 := f02.trans (FS.of e3)
    refine q_cut (M := fun σ' H' => σ' = [some (.ref mc), some (.ref m), some (oI r)] ∧ BothAt K H' mc m wl cl ent μ2 ∧ FS [wl, mc, cl] H H') ?_ ?_
    · cases r with
      | none =>
        refine s_when (b := false) (et_is (et_test (ev_op (ev_var rfl) ev_c rv_notN)) rfl) (fun h => by cases h) fun _ H4 e4 => ⟨rfl, ?_, f03.trans (FS.of e4)⟩
        rw [hn rfl]
        exact hB3.keep e4
      | some t =>
        obtain ⟨wd, hg, hsp, hmu⟩ := hs t rfl
        refine s_when (b := true) (et_is (et_test (ev_op (ev_var rfl) ev_c rv_notN)) rfl) (fun _ H4 e4 => ?_) (fun h => by cases h)
        have hB4 := hB3.keep e4
        obtain ⟨dx2, kl2, c02, c12, kept2, g1, g2, g3, g4, g4w, g5', g6⟩ := hB4.ma.ex
        refine ⟨_, rfl, mc, dx2, _, rfl, g1, rfl, _, rfl, mc, m, wl, cl, ent, mtime μ, t, wd, rfl, hB4, hg.t0, hg.t1, hg.kd, hg.at_, hg.fr, hg.word, hg.op, hg.reg, fun H5 hB5 f5 => ⟨false, rfl, iteF ?_⟩⟩
        refine ⟨_, rfl, _, rfl, m, wl, _, t, rfl, hB5.me, ⟨by have := hg.t0; omega, hg.t1⟩, hsp.kd, hsp.st, hsp.turn, fun H6 m6 f6 => ⟨rfl, ?_, ?_⟩⟩
        · rw [hmu]
          exact hB5.words f6 m6
        · exact ((f03.trans (FS.of e4)).trans f5).trans (FS.fr f6 (by simp))
    rintro σ' H4 ⟨rfl, hB4, f04⟩
    have hD4 := hD.mach hB hR f04
    refine ⟨_, rfl, m, wl, dxD, ddD, rl, rows, μ2, rfl, hB4.me, hD4, h8, hgo, fun H5 m5 d5 f5 => ?_⟩
    have hB5 := hB4.dev hD4 hR f5 m5
    have hR' : RowsOk (goR μ2 rows) := goR_ok hR
    have f05 : FS [wl, rl, mc, cl] H H5 := (f04.weak (by simp)).trans (f5.weak (by simp))
    refine q_cut (M := fun σ' H' => σ' = [some (.ref mc), some (.ref m), some (oI r)] ∧ BothAt K H' mc m wl cl ent (mpart (goM μ2 rows)).1 ∧ FS [wl, mc, cl] H5 H') ?_ ?_
    · refine ⟨_, rfl, m, wl, goM μ2 rows, rfl, hB5.me, p1, p2, fun H6 m6 f6 => ⟨(mpart (goM μ2 rows)).2, rfl, ?_⟩⟩
      have hB6 := hB5.words f6 m6
      have f06 : FS [wl, mc, cl] H5 H6 := FS.fr f6 (by simp)
      generalize (mpart (goM μ2 rows)).2 = bb
      cases bb with
      | true =>
        refine iteT ?_
        obtain ⟨dx2, kl2, c02, c12, kept2, g1, g2, g3, g4, g4w, g5', g6⟩ := hB6.ma.ex
        exact ⟨_, rfl, mc, dx2, _, rfl, g1, rfl, mc, m, wl, cl, ent, _, rfl, hB6, fun H7 hB7 f7 => ⟨rfl, hB7, f06.trans (f7.weak fun a ha => List.mem_cons_of_mem _ ha)⟩⟩
      | false => exact iteF ⟨rfl, hB6, f06⟩
    rintro σ' H6 ⟨rfl, hB6, f56⟩
    exact s_ret (ev_var rfl) fun H7 e7 => k H7 (hB6.keep e7) ((d5.mach hB5 hR' f56).keep e7) ((f05.trans (f56.weak (by simp))).trans (FS.of e7))
end
end KQ

namespace KQ
open KA
open PySem PySem.Spec PyProof.Rows L2 Evl TL
def mlk (μ : Mem) (f : Int) : Nat → Mem
  | 0 => mset μ (ix 1 f) 7
  | k + 1 => mcap (mlk μ f k) (20 + (k : Int)) (at0 [7, f, 1 + (k : Int), 1]) 1 0
def PrLk (k : Nat) : Pr := fun v H => ∃ t, v = .ref t ∧ H t = some (.tup [.int 0, .int ((k : Int) + 1)])
theorem PrLk.mo {k : Nat} : Mo (PrLk k) := fun v H H' tk ⟨t, e, h1⟩ => ⟨t, e, tk _ _ h1⟩
theorem lk2 {P : Pr} (h : P ∈ [PrLk 0, PrLk 1]) : Mo P := by
  rcases List.mem_cons.mp h with rfl | h
  · exact PrLk.mo
  · rw [List.mem_singleton] at h
    subst h
    exact PrLk.mo
theorem lk2at {P : Pr} {i : Nat} (h : [PrLk 0, PrLk 1][i]? = some P) : i < 2 ∧ P = PrLk i := by
  match i, h with
  | 0, h => cases h; exact ⟨by decide, rfl⟩
  | 1, h => cases h; exact ⟨by decide, rfl⟩
section
variable {σ : L2.St} {H : Hp} {K : PySem.W.Frag} {D : Ends} {ta tc te : TE}
theorem ep_lk {k : Nat} (h1 : Ev ta σ H (.int 0)) (h2 : Ev tc σ H (.int ((k : Int) + 1))) : EvP (tTup (tCons ta (tCons tc tNil))) σ H (PrLk k) := fun H1 e Q q =>
  (eu_tup (ea_cons h1 (ea_cons h2 ea_nil)) (by show 2 ≤ 100000; decide) : EvU _ σ H _) H1 e _ fun p H2 hp e2 h => q _ H2 e2 ⟨p, rfl, h⟩
theorem et_truL {p : Addr} {xs : List V} (h : Ev te σ H (.ref p)) (hx : H p = some (.lst xs)) : EvT (tTru K te) σ H (!xs.isEmpty) := fun H1 e Q q => h H1 e _ fun H2 e2 => ⟨!xs.isEmpty, .inl ⟨xs, sq_of (e2 _ _ (e _ _ hx)), rfl⟩, q H2 e2⟩
theorem s_capU {m wl : Addr} {μ : Mem} {tm tf tc' tz tu : TE} {s x y : Int} {c : Nat → Int} (hM : MemAt K H m wl μ) (hm : Ev tm σ H (.ref m)) (hf : Ev tf σ H (.int s)) (hc : EvU tc' σ H (capV c)) (hz : Ev tz σ H (.int x)) (hu : Ev tu σ H (.int y)) (hI : 0 ≤ s ∧ s < 256)
    (k : ∀ H', MemAt K H' m wl (mcap μ s c x y) → Fr wl H H' → D.nx σ H') : tDrop (tCall (sp_put_cap K) [] E0 (tCons tm (tCons tf (tCons tc' (tCons (tC .non) (tCons tz (tCons tu tNil))))))) D σ H := q_capU (D := D) (tq := fun D σ H => D.nx σ H) hM hm hf hc hz hu hI k
theorem el_lcUf {xs : List V} {tl : TE} {tt : TT} {j : Nat} {vs : List Nat} (f : Nat → Bool) (v : Nat → V) (h : EvU tl σ H xs) (hz : xs.length ≤ 40000) (hw : ∀ x, wipe ((wipe σ vs).set j (some x)) vs = wipe σ vs) (ht : ∀ (i : Nat) (y : V) H1, Ex H H1 → xs[i]? = some y → EvT tt ((wipe σ vs).set j (some y)) H1 (f i)) (he : ∀ (i : Nat) (y : V) H1, Ex H H1 → xs[i]? = some y → f i = true → Ev te ((wipe σ vs).set j (some y)) H1 (v i)) :
    EvL (tLc (iTup K tl) (gName j) tt te vs) σ H (given xs.length f v) := fun H0 e Q q => h H0 e _ fun p H1 hp e1 h1 => ⟨p, rfl, ⟨xs, st_of h1⟩, fun Dl hD =>
  lc_tup (K := K) (xs := xs) (g := gName j) (tt := tt) (te := te) (vs := vs) (σ := σ) (Cw H1 f v Dl) ⟨hD, Ex.new hD, upd_same⟩ (fun i H' _ p' => st_of (p'.2.1 _ _ h1)) (fun i x H' hi p' => ⟨hw x, cw_turn p' (by have := (List.getElem?_eq_some_iff.mp hi).1; omega) (ht i x H1 (e.trans e1) hi) fun hf => he i x H1 (e.trans e1) hi hf⟩)
    (fun H' p' => q Dl H' (fresh_back e1 p'.1) (e1.trans p'.2.1) p'.2.2)⟩
end
section
variable {P : Program} {w : World} {K : PySem.W.Frag} {mg : Str → Option Value} {base : Heap}
/-- a notice between slots 4 and 5 of part 0 -/
def mlink (μ : Mem) (f : Int) : Mem := mlk μ f 2
def sp_begin_link (K : PySem.W.Frag) : Sp := fun vs H Q _ => ∃ (m wl lp : Addr) (μ : Mem) (f : Int), vs = [.ref m, .int f, .ref lp, .int 1] ∧ MemAt K H m wl μ ∧ H lp = some (.tup [.int 7, .int 0, .int 1, .int 0, .int 2]) ∧ 2 ≤ f ∧ f < 32 ∧ μ (ix 2 32) = 0 ∧ μ (ix 2 40) = 0 ∧ ∀ H', MemAt K H' m wl (mlink μ f) → Fr wl H H' → Q .non H'
theorem ok_begin_link (T : Txt K mg) : FnOk P w K mg base CX0 5 (f_begin_link K) (fd_begin_link K) ["memory", "frame", "link", "many"] (sp_begin_link K) := by
  refine T.fn_begin_link.ok sc_begin_link (fun vs H Q E h => ?_) (fun cdv A outer s H vs Q E hr h => ⟨_, PSs.nox (pss_cons (ps_asg (pv 2) (pg_tup (by rfl) (pgs_cons (pg_name (i := 4) sc_begin_link.nd rfl (Or.inl rfl)) (pgs_cons (pg_name (i := 5) sc_begin_link.nd rfl (Or.inl rfl)) (pgs_cons (pg_name (i := 6) sc_begin_link.nd rfl (Or.inl rfl)) (pgs_cons (pg_name (i := 7) sc_begin_link.nd rfl (Or.inl rfl)) (pgs_cons (pg_name (i := 8) sc_begin_link.nd rfl (Or.inl rfl)) pgs_nil))))))) (pss_cons (ps_set (i := 9) sc_begin_link.nd rfl (Or.inl rfl) (pe_and (pe_callB (cr_all rfl) (by rfl) T.free_all (by decide +kernel) (pa_cons (pe_lc (own := [("part", 10)]) (by rfl) sc_begin_link.nd (pi_tup (pe_tup (pa_cons (pv 5) (pa_cons (pv 7) pa_nil)))) (blkOk_by (N := sc_begin_link_N) (sc := defScope s_begin_link) (own := [("part", 10)]) (by decide +kernel)) (fun _ _ _ _ _ => (pg_name (i := 10) sc_begin_link.nd rfl (by first | exact Or.inr rfl | exact Or.inl rfl))) (fun _ _ _ _ _ => pts_nil) (fun _ _ _ _ _ => (pe_chain op_le op_lt pe_int (pv 10) (pv 3)))) pa_nil)) (pe_one (pe_callB (cr_all rfl) (by rfl) T.free_all (by decide +kernel) (pa_cons (pe_lc (own := [("told", 11)]) (by rfl) sc_begin_link.nd (pi_tup (pe_tup (pa_cons (pv 6) (pa_cons (pv 8) pa_nil)))) (blkOk_by (N := sc_begin_link_N) (sc := defScope s_begin_link) (own := [("told", 11)]) (by decide +kernel)) (fun _ _ _ _ _ => (pg_name (i := 11) sc_begin_link.nd rfl (Or.inl rfl))) (fun _ _ _ _ _ => pts_nil) (fun _ _ _ _ _ => (pe_chain op_le op_le pe_int (pv 11) (by exact T.pg_ALL)))) pa_nil))))) (pss_cons (ps_if (PW.pt (pw_or (pt_cmpR op_notIn_seq (pv 4) (pe_tup (pa_cons (T.pg_END) (pa_cons (T.pg_NOTICE) pa_nil))) (by rfl)) (pw_or1 (pt_not (pt_val (pv 9)))))) (pss_one ps_never) pss_nil) (pss_cons (ps_expr (pe_meth (pv 0) (T.cl_Memory) (T.mt_Memory_put) (ok_Memory_put T) (hr.mono (by decide)) (T.bd_Memory_put) .nil pass0 (pa_cons (T.pg_KIND_FRAME) (pa_cons (pv 1) (pa_cons (pv 4) pa_nil))))) (pss_one (ps_for PassesOwn.never rfl (pi_tup (pe_tup (pa_cons (pe_tup (pa_cons (pv 5) (pa_cons (pv 6) pa_nil))) (pa_cons (pe_tup (pa_cons (pv 7) (pa_cons (pv 8) pa_nil))) pa_nil)))) (pg_tup (by rfl) (pgs_cons (pg_name (i := 10) sc_begin_link.nd rfl (by first | exact Or.inr rfl | exact Or.inl rfl)) (pgs_cons (pg_name (i := 11) sc_begin_link.nd rfl (Or.inl rfl)) pgs_nil))) (pss_cons (ps_setLc (i := 12) (own := [("place", 13)]) (by rfl) sc_begin_link.nd rfl rfl (sw_true rfl rfl rfl (by decide +kernel)) (pi_tup (pe_tup (pa_cons pe_int (pa_cons pe_int pa_nil)))) (blkOk_by (N := sc_begin_link_N) (sc := defScope s_begin_link) (own := [("place", 13)]) (by decide +kernel)) (fun _ _ _ _ _ => (pg_name (i := 13) sc_begin_link.nd rfl (Or.inl rfl))) (fun _ _ _ _ _ => (pts_one (pt_cmpR op_eq (pe_meth (pv 0) (T.cl_Memory) (T.mt_Memory_word) (ok_Memory_word T) (hr.mono (by decide)) (T.bd_Memory_word) .nil pass0 (pa_cons (pe_op op_add pe_int (pe_op op_mul (by exact T.pg_EACH) (pv 10))) (pa_cons (pe_op op_mul (pv 13) pe_int) pa_nil))) pe_int (nomark _)))) (fun _ _ _ _ _ => (pe_op op_add (pe_op op_mul (pe_op op_add pe_int (pe_op op_mul (by exact T.pg_EACH) (pv 10))) (by exact T.pg_SLOTS)) (pv 13)))) (pss_cons (ps_if (pt_not (pt_truth (pv 12) (by intro _; rfl))) (pss_one ps_never) pss_nil) (pss_one (ps_expr (pe_call (ok_put_cap T) (hr.mono (by decide)) (by rfl) (T.glo_put_cap) (T.kp_put_cap) (T.bd_put_cap) .nil pass0 (pa_cons (pv 0) (pa_cons (pe_ix ix_list (pv 12) pe_int (fun _ _ => rfl)) (pa_cons (pe_tup (pa_cons (pv 4) (pa_cons (pv 1) (pa_cons (pv 11) (pa_cons (pe_op op_add (pv 10) pe_int) pa_nil))))) (pa_cons pe_non (pa_cons pe_int (pa_cons pe_int pa_nil))))))))))))))))), ?_⟩)
  · obtain ⟨_, _, _, _, _, rfl, _⟩ := h
    rfl
  · obtain ⟨m, wl, lp, μ, f, rfl, hM, hl, f2, f3, h4, h5, k⟩ := h
    refine ⟨_, rfl, lp, _, rfl, st_of hl, rfl, _, _, rfl, _, _, rfl, _, _, rfl, _, _, rfl, _, _, rfl, rfl, ?_⟩
    dsimp only
    refine q_asg (v := .bl true) (ev_is (ev_andV (a := true) (b := true) (ev_is (ev_all (K := K) (bs := [true, true]) ?_) rfl) fun _ => ev_is (ev_all (K := K) (bs := [true, true]) ?_) rfl) rfl) fun H1 e1 => ?_
    · refine el_is (el_lcU (K := K) (xs := [.int 0, .int 0]) (fun _ => .bl true) (eu_tup (ea_cons (ev_var rfl) (ea_cons (ev_var rfl) ea_nil)) (by show 2 ≤ 100000; decide)) (by decide) (fun x => rfl) fun i y H4 e4 hi => ?_) rfl
      have : y = .int 0 := by
        match i, hi with
        | 0, h => cases h; rfl
        | 1, h => cases h; rfl
      subst this
      exact ev_good ev_c (ev_var rfl) (ev_var rfl) (by decide) (by decide) rv_I0 rv_I0
    · refine el_is (el_lcU (K := K) (xs := [.int 1, .int 2]) (fun _ => .bl true) (eu_tup (ea_cons (ev_var rfl) (ea_cons (ev_var rfl) ea_nil)) (by show 2 ≤ 100000; decide)) (by decide) (fun x => rfl) fun i y H4 e4 hi => ?_) rfl
      have : y = .int 1 ∨ y = .int 2 := by
        match i, hi with
        | 0, h => cases h; exact .inl rfl
        | 1, h => cases h; exact .inr rfl
      rcases this with rfl | rfl
      · exact ev_is (ev_chV (k := true) (k' := true) ev_c (ev_var rfl) rv_I0 ev_c rv_I0) rfl
      · exact ev_is (ev_chV (k := true) (k' := true) ev_c (ev_var rfl) rv_I0 ev_c rv_I0) rfl
    have hM1 := hM.keep e1
    refine q_when (b := false) (et_is (et_or (a := false) (et_is (et_test (ev_niU (ev_var rfl) (eu_tup (ea_cons ev_c (ea_cons ev_c ea_nil)) (by show 2 ≤ 100000; decide)) rfl rfl)) (by decide)) fun _ => et_not (et_B (ev_var rfl))) rfl) (fun h => by cases h) fun _ H2 e2 => ?_
    refine q_put (hM1.keep e2) (ev_var rfl) ev_c (ev_var rfl) (ev_var rfl) (by omega) fun H3 h3 f3 => ?_
    have f03 : Fr wl H H3 := (Fr.of (e1.trans e2)).trans f3
    refine q_forPU (K := K) (D := { nx := fun _ H' => Q .non H', rt := Q }) (tz := fun D σ H => D.nx σ H) (Ps := [PrLk 0, PrLk 1]) (fun P hP => lk2 hP) (by show 2 ≤ 100000; decide) (eps_cons PrLk.mo (ep_lk (ev_var rfl) (ev_var rfl)) (eps_cons PrLk.mo (ep_lk (ev_var rfl) (ev_var rfl)) eps_nil)) fun p vs H4 e4 hp hal => ?_
    have hM4 := h3.keep e4
    refine ⟨fun i σ' H' => ∃ x10 x11 x12, σ' = [some (.ref m), some (.int f), some (.ref lp), some (.int 1), some (.int 7), some (.int 0), some (.int 1), some (.int 0), some (.int 2), some (.bl true), x10, x11, x12, none] ∧ MemAt K H' m wl (mlk μ f i) ∧ Fr wl H4 H', ⟨none, none, none, rfl, hM4, Fr.refl⟩, fun i σ' H' _ ⟨_, _, _, _, _, f'⟩ => TK.fr f' hM4.ws _ _ hp, ?_, ?_⟩
    · rintro i x σ' H' hx ⟨x10, x11, x12, rfl, hM', f'⟩
      obtain ⟨P', hP', hv⟩ := hal.at hx
      obtain ⟨hi, rfl⟩ := lk2at hP'
      obtain ⟨t, rfl, h1⟩ := PrLk.mo _ _ _ (TK.fr f' hM4.ws) hv
      refine ⟨t, _, rfl, st_of h1, rfl, _, _, rfl, _, _, rfl, rfl, ?_⟩
      refine q_asgL (xs := if i = 0 then [.int 20, .int 21] else [.int 21]) (el_is (el_lcUf (K := K) (xs := [.int 4, .int 5]) (fun k => decide (V.int (mlk μ f i (ix 2 ((k : Int) * 8 + 32))) = .int 0)) (fun k => .int (20 + (k : Int))) (eu_tup (ea_cons ev_c (ea_cons ev_c ea_nil)) (by show 2 ≤ 100000; decide)) (by decide) (by intro x; rfl) (fun k y H5 e5 hk => ?_) fun k y H5 e5 hk _ => ?_) ?_) fun q H5 hq e5 h5' => ?_
      · have : k < 2 ∧ y = .int ((k : Int) + 4) := by
          match k, hk with
          | 0, h => cases h; exact ⟨by decide, rfl⟩
          | 1, h => cases h; exact ⟨by decide, rfl⟩
        obtain ⟨k2, rfl⟩ := this
        refine et_test (ev_is (ev_op (ev_word (f := 2) (p := ((k : Int) + 4) * 8) (hM'.keep e5) (ev_var rfl) (ev_is (ev_op ev_c (ev_op ev_c (ev_var rfl) (rv_I (.inl ⟨by decide, by decide⟩))) rv_I0) rfl) (ev_op (ev_var rfl) ev_c (rv_I (.inr ⟨by decide, by decide⟩))) (by omega)) ev_c (rv_eq rfl)) ?_)
        rw [show ((k : Int) + 4) * 8 = (k : Int) * 8 + 32 by omega]
      · have : k < 2 ∧ y = .int ((k : Int) + 4) := by
          match k, hk with
          | 0, h => cases h; exact ⟨by decide, rfl⟩
          | 1, h => cases h; exact ⟨by decide, rfl⟩
        obtain ⟨k2, rfl⟩ := this
        exact ev_is (ev_op (ev_op (ev_op ev_c (ev_op ev_c (ev_var rfl) (rv_I (.inl ⟨by decide, by decide⟩))) rv_I0) ev_c (rv_I (.inr ⟨by decide, by decide⟩))) (ev_var rfl) rv_I0) (by show V.int (16 + ((k : Int) + 4)) = _; congr 1; omega)
      · match i, hi with
        | 0, _ =>
          have a0 : mlk μ f 0 (ix 2 (((0 : Nat) : Int) * 8 + 32)) = 0 := by
            show mset μ (ix 1 f) 7 160 = 0
            rw [mset_ne (by unfold ix; omega)]
            exact h4
          have a1 : mlk μ f 0 (ix 2 (((1 : Nat) : Int) * 8 + 32)) = 0 := by
            show mset μ (ix 1 f) 7 168 = 0
            rw [mset_ne (by unfold ix; omega)]
            exact h5
          show given 2 _ _ = _
          rw [given_yes (by rw [a1]; rfl), given_yes (by rw [a0]; rfl)]
          rfl
        | 1, _ =>
          have a0 : mlk μ f 1 (ix 2 (((0 : Nat) : Int) * 8 + 32)) = 7 := rfl
          have a1 : mlk μ f 1 (ix 2 (((1 : Nat) : Int) * 8 + 32)) = 0 := by
            show mset μ (ix 1 f) 7 168 = 0
            rw [mset_ne (by unfold ix; omega)]
            exact h5
          show given 2 _ _ = _
          rw [given_yes (by rw [a1]; rfl), given_no (by rw [a0]; rfl)]
          rfl
      have hM5 := hM'.keep e5
      refine q_when (b := false) (et_is (et_not (et_truL (K := K) (ev_var rfl) h5')) (by split <;> rfl)) (fun h => by cases h) fun _ H6 e6 => ?_
      refine s_capU (s := 20 + (i : Int)) (c := at0 [7, f, 1 + (i : Int), 1]) (hM5.keep e6) (ev_var rfl) (ev_op (ev_var rfl) ev_c (rv_ixL (sq_of (e6 _ _ h5')) ?_)) (eu_tup (show EvA _ _ _ [.int 7, .int f, .int (1 + (i : Int)), .int 1] from ea_cons (ev_var rfl) (ea_cons (ev_var rfl) (ea_cons (ev_is (ev_var rfl) (by rw [Int.add_comm])) (ea_cons (ev_op (ev_var rfl) ev_c rv_I0) ea_nil)))) (by show 4 ≤ 100000; decide)) ev_c ev_c (by omega) fun H7 h7 f7 => ⟨_, _, _, rfl, ?_, (f'.trans (Fr.of (e5.trans e6))).trans f7⟩
      · match i, hi with
        | 0, _ => rfl
        | 1, _ => rfl
      · match i, hi with
        | 0, _ => exact h7
        | 1, _ => exact h7
    rintro σ' H5 ⟨x10, x11, x12, rfl, hM5, f5⟩
    have hlen : vs.length = 2 := hal.len
    rw [hlen] at hM5
    exact k H5 hM5 ((f03.trans (Fr.of e4)).trans f5)
end
end KQ

namespace KQ
open KA
open PySem PySem.Spec PyProof.Rows L2 Evl TL
theorem slV_mem {μ : Mem} {y : V} (h : y ∈ slV μ) : ∃ f j : Nat, f ∈ fr μ 4 ∧ j < 8 ∧ y = .int ((f : Int) * 8 + (j : Int)) ∧ fld μ ((f : Int) * 8 + (j : Int)) 0 ≠ 0 := by
  unfold slV at h
  obtain ⟨f, hf, h2⟩ := List.mem_flatMap.mp h
  unfold sl8 given at h2
  obtain ⟨j, hj, rfl⟩ := List.mem_map.mp h2
  obtain ⟨h3, h4⟩ := List.mem_filter.mp hj
  refine ⟨f, j, hf, List.mem_range.mp h3, rfl, fun z => ?_⟩
  rw [z] at h4
  simp at h4
/-- no slot holds untyped memory -/
def NoUn (μ : Mem) : Prop := ∀ f j : Nat, f ∈ fr μ 4 → j < 8 → fld μ ((f : Int) * 8 + (j : Int)) 0 ≠ 1
theorem given_none {n : Nat} {v : Nat → V} : given n (fun _ => false) v = [] := by
  unfold given
  rw [List.filter_eq_nil_iff.mpr (by simp), List.map_nil]
theorem given_all (ts : List V) : given ts.length (fun _ => true) (fun i => ts.getD i .non) = ts := by
  unfold given
  rw [List.filter_eq_self.mpr (fun _ _ => rfl)]
  apply List.ext_getElem?
  intro i
  rw [List.getElem?_map]
  by_cases hi : i < ts.length
  · rw [List.getElem?_range hi, List.getElem?_eq_getElem hi]
    show some (ts.getD i .non) = _
    rw [List.getD_eq_getElem?_getD, List.getElem?_eq_getElem hi]
    rfl
  · rw [List.getElem?_eq_none (by simp; omega), List.getElem?_eq_none (by omega)]
    rfl
theorem slV_len {μ : Mem} : (slV μ).length ≤ 256 := by
  have := flat_len (μ := μ) (fr μ 4)
  have := fr_len (μ := μ) (k := 4)
  unfold slV
  omega
def mdev (μ : Mem) : Mem := mcap (mset (mset μ (ix 1 31) 8) (ix 31 5) 3) 21 (at0 [8, 31, 7, 0]) 1 0
section
variable {σ : L2.St} {H : Hp} {K : PySem.W.Frag} {D : Ends} {ta te : TE} {tz : TS}
theorem ev_any {bs : List Bool} (h : EvL ta σ H (bs.map V.bl)) : Ev (tCB (rAny K) (tCons ta tNil)) σ H (.bl (bs.any id)) := fun H1 e Q q =>
  h H1 e _ fun p H2 hp e2 h2 => ⟨p, bs, rfl, sq_of h2, q H2 e2⟩
theorem back_fr {H' : Hp} {wl a : Addr} {o : HO} (f : Fr wl H H') (hw : H' wl = some o) (h : H' a = none) : H a = none := by
  cases e : H a with
  | none => rfl
  | some u =>
    have n : a ≠ wl := fun z => by rw [z, hw] at h; cases h
    rw [f _ _ e n] at h
    cases h
theorem s_layd {m wl dx dd : Addr} {rows : List (List Int)} {ts : List V} {tm tf tr : TE} (hm : Ev tm σ H (.ref m)) (hf : Ev tf σ H (.int 31)) (hr : EvL tr σ H ts) (hi : H m = some (.ins (CM K) dx [("_words", .ref wl), ("_disks", .ref dd)])) (hd : H dd = some (.dK [])) (hw : ∃ o, H wl = some o)
    (hlen : ts.length = rows.length) (hts : ∀ i v, ts[i]? = some v → ∃ t, v = .ref t ∧ H t = some (.tup ((rows.getD i []).map V.int))) (hz : rows.length ≤ 1000)
    (k : ∀ rl H', H rl = none → DiskAt K H' m wl dx dd rl rows → FS [dd] H H' → tz D σ H') : tSeq (tDrop (tMeth (CM K) "lay_disk" (sp_lay_disk K) [] E0 tm (tCons tf (tCons tr tNil)))) tz D σ H :=
  hm H (Ex.refl H) _ fun H2 e2 => ⟨m, dx, _, rfl, e2 _ _ hi, rfl, hf H2 e2 _ fun H3 e3 => hr H3 (e2.trans e3) _ fun p H4 hp e4 h4 => by
    have e := (e2.trans e3).trans e4
    obtain ⟨o, ho⟩ := hw
    exact ⟨m, wl, dx, dd, p, rows, rfl, e _ _ hi, e _ _ hd, ⟨o, e _ _ ho⟩, ⟨ts, h4, hlen, fun i v hv => let ⟨t, a, b⟩ := hts i v hv; ⟨t, a, e _ _ b⟩⟩, hz, fun rl H' hrl d' f' => k rl H' (fresh_back e hrl) d' ((FS.of e).trans f')⟩⟩
end
section
variable {P : Program} {w : World} {K : PySem.W.Frag} {mg : Str → Option Value} {base : Heap}
def sp_with_device (K : PySem.W.Frag) : Sp := fun vs H Q E => ∃ (m wl ra : Addr) (μ : Mem) (part f : Int) (ln : Option Int), vs = [.ref m, .int part, .int f, oI ln, .ref ra] ∧ MemAt K H m wl μ ∧ NoUn μ ∧ 0 ≤ part ∧ part < 2 ∧ InF f ∧
  (((μ (ix 1 f) ≠ 0 ∨ μ (ix 1 (2 + 5 * part)) ≠ 4 ∨ μ (ix (2 + 5 * part) 40) ≠ 0) ∧ ∀ H', Ex H H' → E (.ref (He.ga K "InvalidBoot")) none H') ∨
  (part = 0 ∧ f = 31 ∧ ln = some 2 ∧ μ (ix 1 31) = 0 ∧ μ (ix 1 2) = 4 ∧ μ (ix 2 40) = 0 ∧ ∃ (dx dd : Addr) (rows : List (List Int)), H m = some (.ins (CM K) dx [("_words", .ref wl), ("_disks", .ref dd)]) ∧ H dd = some (.dK []) ∧ RowsL H ra rows ∧ ra ≠ wl ∧ rows.length ≤ 1000 ∧
    ∀ rl H', H rl = none → MemAt K H' m wl (mdev μ) → DiskAt K H' m wl dx dd rl rows → FS [wl, dd] H H' → Q .non H'))
theorem ok_with_device (T : Txt K mg) : FnOk P w K mg base (L2.CX P w) 5 (f_with_device K) (fd_with_device K) ["memory", "part", "frame", "line", "rows"] (sp_with_device K) := by
  refine T.fn_with_device.ok sc_with_device (fun vs H Q E h => ?_) (fun cdv A outer s H vs Q E hr h => ⟨_, (pss_cons (ps_set (i := 5) sc_with_device.nd rfl (Or.inl rfl) (pe_op op_add (pe_op op_mul (pe_op op_add pe_int (pe_op op_mul (T.pg_EACH) (pv 1))) (T.pg_SLOTS)) pe_int)) (pss_cons (ps_setLc (i := 6) (own := [("own", 7)]) (by rfl) sc_with_device.nd rfl rfl (sw_true rfl rfl rfl (by decide +kernel)) (pi_list (pe_call (ok_slots_of T) (hr.mono (by decide)) (by rfl) (T.glo_slots_of) (T.kp_slots_of) (T.bd_slots_of) .nil pass0 (pa_cons (pv 0) pa_nil))) (blkOk_by (N := sc_with_device_N) (sc := defScope s_with_device) (own := [("own", 7)]) (by decide +kernel)) (fun _ _ _ _ _ => (pg_name (i := 7) sc_with_device.nd rfl (Or.inl rfl))) (fun _ _ _ _ _ => (pts_one (pt_cmpR op_eq (pe_ix (r := rIxT K) (by exact ix_tup) (pe_call (ok_cap_at T) (hr.mono (by decide)) (by rfl) (T.glo_cap_at) (T.kp_cap_at) (T.bd_cap_at) .nil pass0 (pa_cons (pv 0) (pa_cons (pv 7) pa_nil))) pe_int (fun _ _ => rfl)) (by exact T.pg_UNTYPED) (nomark _)))) (fun _ _ _ _ _ => (pv 7))) (pss_cons (ps_set (i := 8) sc_with_device.nd rfl (Or.inl rfl) (pe_callB (cr_any rfl) (by rfl) T.free_any (by decide +kernel) (pa_cons (pe_lc (own := [("own", 7)]) (by rfl) sc_with_device.nd (pi_list (pv 6)) (blkOk_by (N := sc_with_device_N) (sc := defScope s_with_device) (own := [("own", 7)]) (by decide +kernel)) (fun _ _ _ _ _ => (pg_name (i := 7) sc_with_device.nd rfl (Or.inl rfl))) (fun _ _ _ _ _ => pts_nil) (fun _ _ _ _ _ => (pe_chain op_le op_lt pe_int (pe_op op_sub (pv 2) (pe_ix (r := rIxT K) (by exact ix_tup) (pe_call (ok_cap_at T) (hr.mono (by decide)) (by rfl) (T.glo_cap_at) (T.kp_cap_at) (T.bd_cap_at) .nil pass0 (pa_cons (pv 0) (pa_cons (pv 7) pa_nil))) pe_int (fun _ _ => rfl))) (pe_call (ok_field T) (hr.mono (by decide)) (by rfl) (T.glo_field) (T.kp_field) (T.bd_field) .nil pass0 (pa_cons (pv 0) (pa_cons (pv 7) (pa_cons pe_int pa_nil))))))) pa_nil))) (pss_cons (ps_set (i := 9) sc_with_device.nd rfl (Or.inl rfl) (pe_op op_add pe_int (pe_op op_mul (T.pg_EACH) (pv 1)))) (pss_cons (ps_if (PW.pt (pw_or (pt_truth (pe_meth (pv 0) (T.cl_Memory) (T.mt_Memory_word) (ok_Memory_word T) (hr.mono (by decide)) (T.bd_Memory_word) .nil pass0 (pa_cons (T.pg_KIND_FRAME) (pa_cons (pv 2) pa_nil))) (by intro _; rfl)) (pw_or (pt_val (pv 8)) (pw_or (pt_cmpR op_ne (pe_meth (pv 0) (T.cl_Memory) (T.mt_Memory_word) (ok_Memory_word T) (hr.mono (by decide)) (T.bd_Memory_word) .nil pass0 (pa_cons (T.pg_KIND_FRAME) (pa_cons (pv 9) pa_nil))) (T.pg_CAPS) (nomark _)) (pw_or1 (pt_truth (pe_meth (pv 0) (T.cl_Memory) (T.mt_Memory_word) (ok_Memory_word T) (hr.mono (by decide)) (T.bd_Memory_word) .nil pass0 (pa_cons (pv 9) (pa_cons pe_int pa_nil))) (by intro _; rfl))))))) (pss_one (ps_raise rfl (takes_of rfl rfl rfl rfl) (pmk_own F.excBase_ValueError T.exc_InvalidBoot.1 T.glo_InvalidBoot T.exc_InvalidBoot.2.1 T.raises_InvalidBoot (by rfl)))) pss_nil) (pss_cons (ps_expr (pe_meth (pv 0) (T.cl_Memory) (T.mt_Memory_put) (ok_Memory_put T) (hr.mono (by decide)) (T.bd_Memory_put) .nil pass0 (pa_cons (T.pg_KIND_FRAME) (pa_cons (pv 2) (pa_cons (T.pg_DEVICE) pa_nil))))) (pss_cons (ps_expr (pe_meth (pv 0) (T.cl_Memory) (T.mt_Memory_put) (ok_Memory_put T) (hr.mono (by decide)) (T.bd_Memory_put) .nil pass0 (pa_cons (pv 2) (pa_cons (T.pg_D_LINE) (pa_cons (pe_ifExp (pt_cmpR op_isN (pv 3) pe_non (nomark _)) pe_int (pe_op op_add (pv 3) pe_int)) pa_nil))))) (pss_cons (ps_expr (pe_meth (pv 0) (T.cl_Memory) (T.mt_Memory_lay_disk) (ok_Memory_lay_disk T) (hr.mono (by decide)) (T.bd_Memory_lay_disk) .nil pass0 (pa_cons (pv 2) (pa_cons (pe_lc (own := [("row", 10)]) (by rfl) sc_with_device.nd (pi_list (pv 4)) (blkOk_by (N := sc_with_device_N) (sc := defScope s_with_device) (own := [("row", 10)]) (by decide +kernel)) (fun _ _ _ _ _ => (pg_name (i := 10) sc_with_device.nd rfl (Or.inl rfl))) (fun _ _ _ _ _ => pts_nil) (fun _ _ _ _ _ => (pe_callTy (T := "tuple") (r := rTupK K) (by exact call_tuple_of) (by rfl) T.free_tuple (by decide +kernel) (pa_cons (pv 10) pa_nil)))) pa_nil)))) (pss_one (ps_expr (pe_call (ok_put_cap T) (hr.mono (by decide)) (by rfl) (T.glo_put_cap) (T.kp_put_cap) (T.bd_put_cap) .nil pass0 (pa_cons (pv 0) (pa_cons (pv 5) (pa_cons (pe_tup (pa_cons (T.pg_DEVICE) (pa_cons (pv 2) (pa_cons (T.pg_ALL) (pa_cons pe_int pa_nil))))) (pa_cons pe_non (pa_cons pe_int (pa_cons pe_int pa_nil))))))))))))))))), ?_⟩)
  · obtain ⟨_, _, _, _, _, _, _, rfl, _⟩ := h
    rfl
  · obtain ⟨m, wl, ra, μ, part, f, ln, rfl, hM, hU, p0, p1, hI, h⟩ := h
    refine q_asg (v := .int ((2 + 5 * part) * 8 + 5)) (ev_op (ev_op (ev_op ev_c (ev_op ev_c (ev_var rfl) (rv_I (.inl ⟨by decide, by decide⟩))) rv_I0) ev_c (rv_I (.inr ⟨by decide, by decide⟩))) ev_c rv_I0) fun H1 e1 => ?_
    have hM1 := hM.keep e1
    refine q_asgL (xs := []) ?_ fun lp H2 hlp e2 h2 => ?_
    · refine el_is (el_lcNL (K := K) (xs := slV μ) (fun _ => false) (fun _ => .non) (fun H2 e2 Q q => ⟨_, rfl, m, wl, μ, rfl, hM1.keep e2, fun p H3 hp e3 h3 => q p H3 hp e3 h3⟩) (by have := slV_len (μ := μ); omega) (fun x => rfl) (fun i y H2 e2 hy => ?_) (fun i y H2 e2 hy hf => by cases hf)) given_none
      obtain ⟨g, j, hg, hj, rfl, _⟩ := slV_mem (List.mem_of_getElem? hy)
      have hg32 := (fr_lt hg).1
      refine et_is (et_test (ev_op (ev_capIx (s := (g : Int) * 8 + (j : Int)) (j := 0) (hM1.keep e2) (ev_var rfl) (ev_var rfl) (by omega) (fun H1 e => ev_c) rfl) ev_c (rv_eq rfl))) ?_
      rw [dec_int]
      exact decide_eq_false (hU g j hg hj)
    have hM2 := hM1.keep e2
    refine q_asg (v := .bl false) (ev_is (ev_any (K := K) (bs := []) ?_) rfl) fun H3 e3 => ?_
    · exact el_is (el_lcL (K := K) (a := lp) (xs := []) (fun _ => true) (fun _ => .non) (ev_var rfl) (sq_of h2) (by decide) (fun x => rfl) (fun i y H4 e4 hi => by cases hi) (fun i y H4 e4 hi => by cases hi)) rfl
    refine q_asg (v := .int (2 + 5 * part)) (ev_op ev_c (ev_op ev_c (ev_var rfl) (rv_I (.inl ⟨by decide, by decide⟩))) rv_I0) fun H4 e4 => ?_
    have e14 := ((e1.trans e2).trans e3).trans e4
    have hM4 := hM.keep e14
    refine q_when (b := decide (μ (ix 1 f) ≠ 0) || (false || (decide (μ (ix 1 (2 + 5 * part)) ≠ 4) || decide (μ (ix (2 + 5 * part) 40) ≠ 0)))) (et_or (et_truI (ev_word hM4 (ev_var rfl) ev_c (ev_var rfl) (by omega))) fun _ => et_or (et_B (ev_var rfl)) fun _ => et_or (et_is (et_test (ev_op (ev_word hM4 (ev_var rfl) ev_c (ev_var rfl) (by omega)) ev_c (rv_ne rfl))) (by rw [dec_int, decide_not])) fun _ => et_truI (ev_word hM4 (ev_var rfl) (ev_var rfl) ev_c (by omega))) (fun hb H5 e5 => ?_) (fun hb H5 e5 => ?_)
    · rcases h with ⟨_, k⟩ | ⟨rfl, rfl, _, g1, g2, g3, _⟩
      · exact k H5 (e14.trans e5)
      · rw [g1, show (2 : Int) + 5 * 0 = 2 by decide, g2, g3] at hb
        cases hb
    rcases h with ⟨hne, _⟩ | ⟨rfl, rfl, rfl, g1, g2, g3, dx, dd, rows, hi, hd, ⟨ts, r1, r2, r3⟩, hrw, hz, k⟩
    · simp only [Bool.or_eq_false_iff, decide_eq_false_iff_not, Decidable.not_not] at hb
      obtain ⟨b1, _, b2, b3⟩ := hb
      rcases hne with z | z | z
      · exact absurd b1 z
      · exact absurd b2 z
      · exact absurd b3 z
    have e15 := e14.trans e5
    refine q_put (hM4.keep e5) (ev_var rfl) ev_c (ev_var rfl) ev_c (by decide) fun H6 h6 f6 => ?_
    refine q_put h6 (ev_var rfl) (ev_var rfl) ev_c (ev_if (b := false) (et_is (et_test (ev_op (ev_var rfl) ev_c rv_isN)) rfl) (fun h => by cases h) fun _ => ev_op (ev_var rfl) ev_c rv_I0) (by decide) fun H7 h7 f7 => ?_
    have f07 : Fr wl H H7 := ((Fr.of e15).trans f6).trans f7
    have hw := hM.ws
    have nw : ∀ {a o}, H a = some o → (∀ xs, o ≠ .lst xs) → H7 a = some o := fun {a o} h n => f07 _ _ h (ne_of h hw (fun z => n _ z))
    refine s_layd (m := m) (wl := wl) (dx := dx) (dd := dd) (rows := rows) (ts := ts) (ev_var rfl) (ev_var rfl) ?_ (nw hi (fun xs z => by cases z)) (nw hd (fun xs z => by cases z)) ⟨_, h7.ws⟩ r2 (fun i v hv => let ⟨t, a, b⟩ := r3 i v hv; ⟨t, a, nw b (fun xs z => by cases z)⟩) hz fun rl H8 hrl d8 f8 => ?_
    · have hr7 := f07 _ _ r1 hrw
      refine el_is (el_lcL (K := K) (a := ra) (xs := ts) (fun _ => true) (fun i => ts.getD i .non) (ev_var rfl) (sq_of hr7) (by omega) (fun x => rfl) (fun i y H1 e1 hi => et_yes) (fun i y H1 e1 hi _ => ?_)) (given_all ts)
      obtain ⟨t, rfl, ht⟩ := r3 i y hi
      have : ts.getD i .non = .ref t := by rw [List.getD_eq_getElem?_getD, hi]; rfl
      rw [this]
      exact fun H2 e2 Q q => ⟨_, rfl, t, _, rfl, .inr ⟨st_of (e2 _ _ (e1 _ _ (nw ht (fun xs z => by cases z)))), q H2 (Ex.refl H2)⟩⟩
    have hwd : wl ≠ dd := ne_of hw hd (by intro z; cases z)
    have hM8 : MemAt K H8 m wl (mset (mset μ (ix 1 31) 8) (ix 31 5) 3) := ⟨⟨dx, dd, d8.ins, _, d8.di⟩, f8 _ _ h7.ws (by simpa using hwd)⟩
    refine s_capU (s := 21) (c := at0 [8, 31, 7, 0]) hM8 (ev_var rfl) (ev_var rfl) (eu_tup (show EvA _ _ _ [.int 8, .int 31, .int 7, .int 0] from ea_cons ev_c (ea_cons (ev_var rfl) (ea_cons ev_c (ea_cons ev_c ea_nil)))) (by show 4 ≤ 100000; decide)) ev_c ev_c (by decide) fun H9 h9 f9 => ?_
    exact k rl H9 (back_fr f07 h7.ws hrl) h9 (d8.words hM8 f9) (((FS.fr f07 (by simp)).trans (f8.weak (by simp))).trans (FS.fr f9 (by simp)))
end
end KQ

namespace KQ
open KA
open PySem PySem.Spec PyProof.Rows L2 Evl TL
def LinkAt (H : Hp) (la : Addr) (ln : Bool) : Prop := ∃ lv, H la = some (.tup lv) ∧ lv.length = (if ln then 1 else 0) ∧ ∀ v ∈ lv, ∃ t, v = .ref t ∧ H t = some (.tup [.int 7, .int 0, .int 1, .int 0, .int 2])
def mbootL (pl : List (Int × Int)) (ps : List Part6) (ln : Bool) : Mem := if ln then mlk (mboot pl ps) 7 2 else mboot pl ps
section
variable {P : Program} {w : World} {K : PySem.W.Frag} {mg : Str → Option Value} {base : Heap}
def sp_Memory_init (K : PySem.W.Frag) : Sp := fun vs H Q _ => ∃ (m dx : Addr), vs = [.ref m] ∧ H m = some (.ins (CM K) dx []) ∧ ∀ wl dd H', H wl = none → MemAt K H' m wl m0 → H' m = some (.ins (CM K) dx [("_words", .ref wl), ("_disks", .ref dd)]) → H' dd = some (.dK []) → FS [m] H H' → Q .non H'
theorem ok_Memory_init (T : Txt K mg) : FnOk P w K mg base CX0 1 (f_Memory_init K) (fd_Memory_init K) ["self"] (sp_Memory_init K) := by
  refine T.fn_Memory_init.ok sc_Memory_init (fun vs H Q E h => ?_) (fun cdv A outer s H vs Q E hr h => ⟨_, PSs.nox (pss_cons (ps_fld (pv 0) (pe_op op_rep (pe_lst (pa_cons pe_int pa_nil)) (pe_op op_mul (T.pg_FRAMES) (T.pg_FRAME))) rfl) (pss_one (ps_fld (pv 0) pe_dnewK rfl))), ?_⟩)
  · obtain ⟨_, _, rfl, _⟩ := h
    rfl
  · obtain ⟨m, dx, rfl, hm, k⟩ := h
    have ew : (List.replicate (Int.toNat (32 * 64)) [V.int 0]).flatten = lW m0 := by rw [rep1, lW0]; rfl
    refine q_fldL (xs := (List.replicate (Int.toNat (32 * 64)) [V.int 0]).flatten) (el_rep (el_lst (vs := [.int 0]) (ea_cons ev_c ea_nil) (by decide)) (ev_op ev_c ev_c (rv_I (.inr ⟨by decide, by decide⟩))) (by decide) (by show 1 * 2048 ≤ 100000; decide)) (ev_var rfl) hm T.cl_Memory T.no_Memory_words (by decide) fun wl H2 hwH e2 h2 => ?_
    rw [ew] at h2
    have nw : wl ≠ m := fun z => by rw [z, hm] at hwH; cases hwH
    have f3 : FS [m] H (upd H2 m (.ins (CM K) dx (putF "_words" (.ref wl) []))) := (FS.of e2).trans (FS.put (by simp))
    have h3 : (upd H2 m (.ins (CM K) dx (putF "_words" (.ref wl) []))) m = some (.ins (CM K) dx (putF "_words" (.ref wl) [])) := upd_same
    have w3 : (upd H2 m (.ins (CM K) dx (putF "_words" (.ref wl) []))) wl = some (.lst (lW m0)) := by rw [upd_ne nw]; exact h2
    show sFld K (tVar 0) tDNewK "_disks" _ _ (upd H2 m (.ins (CM K) dx (putF "_words" (.ref wl) [])))
    generalize upd H2 m (.ins (CM K) dx (putF "_words" (.ref wl) [])) = H3 at f3 h3 w3 ⊢
    intro dd hdd
    have e4 : Ex H3 (upd H3 dd (.dK [])) := Ex.new hdd
    have h4 : (upd H3 dd (.dK [])) dd = some (.dK []) := upd_same
    generalize upd H3 dd (.dK []) = H4 at e4 h4 ⊢
    have ndm : dd ≠ m := fun z => by rw [z, h3] at hdd; cases hdd
    refine ⟨_, rfl, m, CM K, dx, _, rfl, e4 _ _ h3, T.cl_Memory, T.no_Memory_disks, by show 1 < 1000; decide, ?_⟩
    exact (k wl dd _ hwH ⟨⟨dx, dd, upd_same, [], by rw [upd_ne ndm]; exact h4⟩, by rw [upd_ne nw]; exact e4 _ _ w3⟩ upd_same (by rw [upd_ne ndm]; exact h4) ((f3.trans (FS.of e4)).trans (FS.put (by simp))))
theorem s_blink {σ : L2.St} {H : Hp} {D : Ends} {m wl lp : Addr} {μ : Mem} {f : Int} {tm tf tp tn : TE} (hM : MemAt K H m wl μ) (hm : Ev tm σ H (.ref m)) (hf : Ev tf σ H (.int f)) (hp : Ev tp σ H (.ref lp)) (hl : H lp = some (.tup [.int 7, .int 0, .int 1, .int 0, .int 2])) (hn : Ev tn σ H (.int 1)) (f2 : 2 ≤ f) (f3 : f < 32) (g4 : μ (ix 2 32) = 0) (g5 : μ (ix 2 40) = 0)
    (k : ∀ H', MemAt K H' m wl (mlk μ f 2) → Fr wl H H' → D.nx σ H') : tDrop (tCall (sp_begin_link K) [] E0 (tCons tm (tCons tf (tCons tp (tCons tn tNil))))) D σ H :=
  hm H (Ex.refl H) _ fun H1 e1 => hf H1 e1 _ fun H2 e2 => hp H2 (e1.trans e2) _ fun H3 e3 => hn H3 ((e1.trans e2).trans e3) _ fun H4 e4 =>
    have e : Ex H H4 := ((e1.trans e2).trans e3).trans e4
    ⟨m, wl, lp, μ, f, rfl, hM.keep e, e _ _ hl, f2, f3, g4, g5, fun H' h' f' => k H' h' ((Fr.of e).trans f')⟩
def sp_booted (K : PySem.W.Frag) : Sp := fun vs H Q _ => ∃ (pa qa la ra : Addr) (pl : List (Int × Int)) (ps : List Part6) (ln : Bool), vs = [.ref pa, .ref qa, .ref la, .ref ra] ∧ PlanAt H pa pl ∧ PartsAt H qa ps ∧ LinkAt H la ln ∧ H ra = some (.tup []) ∧ GoodPlan pl ∧ ps.length = 1 ∧ (ln = true → mboot pl ps (ix 2 32) = 0 ∧ mboot pl ps (ix 2 40) = 0) ∧
  (∀ i : Nat, i < ps.length → GoodPart (ps.getD i ⟨0, 0, 0, []⟩) ∧ Read6 (mparts (mboot0 pl) ps i) (2 + 5 * (i : Int)) (ps.getD i ⟨0, 0, 0, []⟩).d (ps.getD i ⟨0, 0, 0, []⟩).pr (ps.getD i ⟨0, 0, 0, []⟩).bu (ps.getD i ⟨0, 0, 0, []⟩).ws) ∧
  ∀ m wl dx dd H', H m = none → H wl = none → Ex H H' → MemAt K H' m wl (mbootL pl ps ln) → H' m = some (.ins (CM K) dx [("_words", .ref wl), ("_disks", .ref dd)]) → H' dd = some (.dK []) → Q (.ref m) H'
theorem ok_booted (T : Txt K mg) : FnOk P w K mg base CX0 6 (f_booted K) (fd_booted K) ["plan", "parts", "links", "lines"] (sp_booted K) := by
  refine T.fn_booted.ok sc_booted (fun vs H Q E h => ?_) (fun cdv A outer s H vs Q E hr h => ⟨_, PSs.nox (pss_cons (ps_par (i := 4) (j := 5) (by rfl) sc_booted.nd rfl rfl (by decide) rfl rfl (pa_cons (pe_make0 (T.mk_Memory) (ok_Memory_init T) (hr.mono (by decide)) (by rfl) (T.glo_Memory) (T.bd_Memory_init) .nil pass0) (pa_cons (pe_op op_add pe_int (pe_op op_mul (T.pg_EACH) (pe_callB call_len (by rfl) T.free_len PySem.boot_len (pa_cons (pv 1) pa_nil)))) pa_nil)) (by rfl)) (pss_cons (ps_if (PW.pt (pw_or (pt_not (pt_chain op_le op_le pe_int (pe_callB call_len (by rfl) T.free_len PySem.boot_len (pa_cons (pv 0) pa_nil)) (T.pg_PARTS))) (pw_or1 (pt_not (pt_val (pe_callB (cr_all rfl) (by rfl) T.free_all (by decide +kernel) (pa_cons (pe_lc (own := [("domain", 6), ("ticks", 7)]) (by rfl) sc_booted.nd (pi_tup (pv 0)) (blkOk_by (N := sc_booted_N) (sc := defScope s_booted) (own := [("domain", 6), ("ticks", 7)]) (by decide +kernel)) (fun _ _ _ _ _ => (pg_tupK (K := K) (n := 2) (by rfl) (by rfl) (pgs_cons (pg_name (i := 6) sc_booted.nd rfl (Or.inl rfl)) (pgs_cons (pg_name (i := 7) sc_booted.nd rfl (Or.inl rfl)) pgs_nil)))) (fun _ _ _ _ _ => pts_nil) (fun _ _ _ _ _ => (pe_and (pe_chain op_le op_lt pe_int (pv 6) (by exact T.pg_DOMAINS)) (pe_one (pe_chain op_le op_le pe_int (pv 7) pe_int))))) pa_nil))))))) (pss_one ps_never) pss_nil) (pss_cons (ps_for PassesOwn.never rfl (pi_enumT (by rfl) T.free_enumerate (pa_cons (pv 0) pa_nil)) (pg_tup (by rfl) (pgs_cons (pg_name (i := 8) sc_booted.nd rfl (Or.inl rfl)) (pgs_cons (pg_tup (by rfl) (pgs_cons (pg_name (i := 6) sc_booted.nd rfl (Or.inl rfl)) (pgs_cons (pg_name (i := 7) sc_booted.nd rfl (Or.inl rfl)) pgs_nil))) pgs_nil))) (pss_one (ps_expr (pe_meth (pv 4) (T.cl_Memory) (T.mt_Memory_put) (ok_Memory_put T) (hr.mono (by decide)) (T.bd_Memory_put) .nil pass0 (pa_cons (T.pg_KERNEL) (pa_cons (pe_op op_add (T.pg_K_PLAN) (pv 8)) (pa_cons (pe_op op_add (pe_op op_mul (pv 6) pe_int) (pv 7)) pa_nil))))))) (pss_cons (ps_expr (pe_meth (pv 4) (T.cl_Memory) (T.mt_Memory_put) (ok_Memory_put T) (hr.mono (by decide)) (T.bd_Memory_put) .nil pass0 (pa_cons (T.pg_KERNEL) (pa_cons (T.pg_K_LEFT) (pa_cons (pe_ix ix_tup (pe_ix ix_tup (pv 0) pe_int (fun _ _ => rfl)) pe_int (fun _ _ => rfl)) pa_nil))))) (pss_cons (ps_if (PW.pt (pw_or (pt_cmpR op_gt (pe_op op_add (pe_op op_add (pv 5) (pe_callB call_len (by rfl) T.free_len PySem.boot_len (pa_cons (pv 2) pa_nil))) (pe_callB (cr_sum rfl) (by rfl) T.free_sum (by decide +kernel) (pa_cons (pe_lc (own := [("part", 9)]) (by rfl) sc_booted.nd (pi_tup (pv 1)) (blkOk_by (N := sc_booted_N) (sc := defScope s_booted) (own := [("part", 9)]) (by decide +kernel)) (fun _ _ _ _ _ => (pg_name (i := 9) sc_booted.nd rfl (Or.inl rfl))) (fun _ _ _ _ _ => pts_nil) (fun _ _ _ _ _ => (pe_ix (r := rIxT K) (by exact ix_tup) (pv 9) pe_int (fun _ _ => rfl)))) pa_nil))) (T.pg_FRAMES) (nomark _)) (pw_or1 (pt_not (pt_truth (pv 1) (by intro _; rfl)))))) (pss_one ps_never) pss_nil) (pss_cons (ps_for PassesOwn.never rfl (pi_enumT (by rfl) T.free_enumerate (pa_cons (pv 1) pa_nil)) (pg_tup (by rfl) (pgs_cons (pg_name (i := 8) sc_booted.nd rfl (Or.inl rfl)) (pgs_cons (pg_name (i := 9) sc_booted.nd rfl (Or.inl rfl)) pgs_nil))) (pss_one (ps_expr (pe_call (ok_begin_part T) (hr.mono (by decide)) (by rfl) (T.glo_begin_part) (T.kp_begin_part) (T.bd_begin_part) .nil pass0 (pa_cons (pv 4) (pa_cons (pe_op op_add pe_int (pe_op op_mul (T.pg_EACH) (pv 8))) (pa_cons (pv 9) pa_nil))))))) (pss_cons (ps_for PassesOwn.never rfl (pi_enumT (by rfl) T.free_enumerate (pa_cons (pv 2) pa_nil)) (pg_tup (by rfl) (pgs_cons (pg_name (i := 8) sc_booted.nd rfl (Or.inl rfl)) (pgs_cons (pg_name (i := 10) sc_booted.nd rfl (Or.inl rfl)) pgs_nil))) (pss_one (ps_expr (pe_call (ok_begin_link T) (hr.mono (by decide)) (by rfl) (T.glo_begin_link) (T.kp_begin_link) (T.bd_begin_link) .nil pass0 (pa_cons (pv 4) (pa_cons (pe_op op_add (pv 5) (pv 8)) (pa_cons (pv 10) (pa_cons (pe_callB call_len (by rfl) T.free_len PySem.boot_len (pa_cons (pv 1) pa_nil)) pa_nil)))))))) (pss_cons (ps_aug (i := 5) sc_booted.nd rfl (.inl rfl) (pe_callB call_len (by rfl) T.free_len PySem.boot_len (pa_cons (pv 2) pa_nil)) ip_add) (pss_cons (ps_for PassesOwn.never rfl (pi_enumT (by rfl) T.free_enumerate (pa_cons (pv 1) pa_nil)) (pg_tup (by rfl) (pgs_cons (pg_name (i := 8) sc_booted.nd rfl (Or.inl rfl)) (pgs_cons (pg_name (i := 9) sc_booted.nd rfl (Or.inl rfl)) pgs_nil))) (pss_one (ps_if (pt_truth (pe_ix ix_tup (pv 9) pe_int (fun _ _ => rfl)) (by intro _; rfl)) (pss_cons ps_never (pss_one ps_never)) pss_nil))) (pss_cons (ps_for PassesOwn.never rfl (pi_tup (pv 3)) (pg_tup (by rfl) (pgs_cons (pg_name (i := 11) sc_booted.nd rfl (Or.inl rfl)) (pgs_cons (pg_name (i := 8) sc_booted.nd rfl (Or.inl rfl)) (pgs_cons (pg_name (i := 12) sc_booted.nd rfl (Or.inl rfl)) pgs_nil)))) (pss_cons ps_never (pss_one ps_never))) (pss_one (ps_ret (pv 4))))))))))))), ?_⟩)
  · obtain ⟨_, _, _, _, _, _, _, rfl, _⟩ := h
    rfl
  · obtain ⟨pa, qa, la, ra, pl, ps, ln, rfl, hP, hQ, ⟨lv, hL, hLn, hLv⟩, hR, gP, lone, hLk, hG, k⟩ := h
    have l1 : 1 ≤ ps.length := by omega
    have l4 : ps.length ≤ 4 := by omega
    have lv1 : lv.length ≤ 1 := by rw [hLn]; split <;> decide
    obtain ⟨vp, hp1, hp2, hp3⟩ := id hP
    obtain ⟨vq, hq1, hq2, hq3⟩ := id hQ
    refine fun m dx hm hdx hne => ⟨m, dx, rfl, upd_same, fun wl dd H1 hwl hM hmi hdd f1 => ⟨rfl, ?_⟩⟩
    have hwm : wl ≠ m := fun z => by rw [z, upd_same] at hwl; cases hwl
    have hwd : wl ≠ dx := fun z => by rw [z, upd_ne hne, upd_same] at hwl; cases hwl
    have hwH : H wl = none := by rw [upd_ne hwm, upd_ne hwd] at hwl; exact hwl
    have e1 : Ex H H1 := fun b o h => by
      have n1 : b ≠ m := fun z => by rw [z, hm] at h; cases h
      have n2 : b ≠ dx := fun z => by rw [z, hdx] at h; cases h
      exact f1 b o (by rw [upd_ne n1, upd_ne n2]; exact h) (by simpa using n1)
    refine (ev_op ev_c (ev_op ev_c (ev_lenT (K := K) (ev_var rfl) (st_of (e1 _ _ hq1))) (rv_I (.inl ⟨by decide, by decide⟩))) rv_I0 : Ev _ _ H1 (.int (2 + 5 * (vq.length : Int)))) H1 (Ex.refl H1) _ fun H2 e2 => ⟨_, _, rfl, ?_⟩
    have lq : (vq.length : Int) = (ps.length : Int) := by rw [hq2]
    have lp : (vp.length : Int) = (pl.length : Int) := by rw [hp2]
    have e02 := e1.trans e2
    refine q_when (b := false) (et_is (et_or (a := false) (b := false) (et_is (et_not (et_test (ev_chV ev_c (ev_lenT (K := K) (ev_var rfl) (st_of (e02 _ _ hp1))) rv_I0 ev_c rv_I0))) (by have := gP.len; rw [decide_eq_true (show (1 : Int) ≤ (vp.length : Int) by omega), decide_eq_true (show (vp.length : Int) ≤ 4 by omega)] <;> rfl)) fun _ => et_is (et_not (et_B (ev_all (K := K) (bs := List.replicate vp.length true) ?_))) (by rw [all_rep] <;> rfl)) rfl) (fun h => by cases h) fun _ H3 e3 => ?_
    · rw [List.map_replicate, ← given_const]
      refine el_lcT (K := K) (a := pa) (xs := vp) (fun _ => .bl true) (ev_var rfl) (st_of (e02 _ _ hp1)) (by have := gP.len; omega) fun i x H3 e3 hx H4 e4 R hR => ?_
      obtain ⟨t, rfl, ht⟩ := hp3 i x hx
      have hi : i < pl.length := by rw [← hp2]; exact (List.getElem?_eq_some_iff.mp hx).1
      have g := gP.each i hi
      refine ⟨t, _, rfl, st_of (e4 _ _ (e3 _ _ (e02 _ _ ht))), rfl, _, _, rfl, _, _, rfl, rfl, ?_⟩
      exact hR _ rfl (ev_is (ev_andV (a := true) (ev_good ev_c (ev_var rfl) ev_c g.1 g.2.1 rv_I0 rv_I0) fun _ => ev_chV (k := decide ((1 : Int) ≤ (pl.getD i (0, 0)).2)) (k' := decide ((pl.getD i (0, 0)).2 ≤ (255 : Int))) ev_c (ev_var rfl) rv_I0 ev_c rv_I0) (by rw [decide_eq_true g.2.2.1, decide_eq_true g.2.2.2] <;> rfl))
    have e03 := e02.trans e3
    have hM3 := hM.keep (e2.trans e3)
    have hw3 := hM3.ws
    refine q_forET (K := K) (a := pa) (xs := vp) (ev_var rfl) (st_of (e03 _ _ hp1))
      (fun i σ' H' => ∃ x6 x7 x8, σ' = [some (.ref pa), some (.ref qa), some (.ref la), some (.ref ra), some (.ref m), some (.int (2 + 5 * (vq.length : Int))), x6, x7, x8, none, none, none, none] ∧ MemAt K H' m wl (mplan m0 pl i) ∧ Fr wl H3 H')
      (fun H4 e4 => ⟨none, none, none, rfl, hM3.keep e4, Fr.of e4⟩) (fun i σ' H' ⟨_, _, _, _, _, f'⟩ => st_of (TK.fr f' hw3 _ _ (e03 _ _ hp1))) ?_ ?_
    · rintro i y σ' H' t hy ⟨x6, x7, x8, rfl, hM', f'⟩ ht
      obtain ⟨u, rfl, hu⟩ := hp3 i y hy
      have hi : i < pl.length := by rw [← hp2]; exact (List.getElem?_eq_some_iff.mp hy).1
      have l4 := gP.len
      have hu' := TK.fr f' hw3 _ _ (e03 _ _ hu)
      have e4 : Ex H' (L2.upd H' t (.tup [.int (i : Nat), .ref u])) := Ex.new ht
      refine ⟨t, _, rfl, st_of upd_same, rfl, _, _, rfl, _, _, rfl, u, _, rfl, st_of (e4 _ _ hu'), rfl, _, _, rfl, _, _, rfl, rfl, rfl, ?_⟩
      exact s_put (hM'.keep e4) (ev_var rfl) ev_c (ev_op ev_c (ev_var rfl) rv_I0) (ev_op (ev_op (ev_var rfl) ev_c (rv_I (.inr ⟨by decide, by decide⟩))) (ev_var rfl) rv_I0) (by omega) fun H5 h5 f5 => ⟨_, _, _, rfl, h5, (f'.trans (Fr.of e4)).trans f5⟩
    rintro σ' H4 ⟨x6, x7, x8, rfl, hM4, f4⟩
    rw [hp2] at hM4
    have tk4 : TK H H4 := (TK.ex e03).trans (TK.fr f4 hw3)
    have hM4w := hM4.ws
    obtain ⟨v0, hv0⟩ : ∃ v0, vp[0]? = some v0 := ⟨vp[0]'(by have := gP.len; omega), List.getElem?_eq_getElem _⟩
    obtain ⟨t0, rfl, ht0⟩ := hp3 0 v0 hv0
    refine q_put hM4 (ev_var rfl) ev_c ev_c (ev_op (ev_op (ev_var rfl) ev_c (Evl.rv_ixT (st_of (tk4 _ _ hp1)) (atI_nat (j := 0) hv0))) ev_c (Evl.rv_ixT (st_of (tk4 _ _ ht0)) (atI_nat (j := 1) rfl))) (by omega) fun H5 hM5 f5 => ?_
    have hM5 : MemAt K H5 m wl (mboot0 pl) := hM5
    have tk5 : TK H H5 := tk4.trans (TK.fr f5 hM4w)
    refine q_when (b := false) (et_is (et_or (a := false) (b := false) (et_is (et_test (ev_op (ev_op (ev_op (ev_var rfl) (ev_lenT (K := K) (ev_var rfl) (st_of (tk5 _ _ hL))) rv_I0) (ev_sum (K := K) (ns := List.replicate vq.length 0) ?_) rv_I0) ev_c rv_I0)) ?_) fun _ => et_is (et_not (et_truT (K := K) (ev_var rfl) (st_of (tk5 _ _ hq1)))) ?_) rfl) (fun h => by cases h) fun _ H6 e6 => ?_
    · rw [List.map_replicate, ← given_const]
      refine el_lcT (K := K) (a := qa) (xs := vq) (fun _ => .int 0) (ev_var rfl) (st_of (tk5 _ _ hq1)) (by omega) fun i x H6 e6 hx H7 e7 R hR => ?_
      obtain ⟨t, c, rfl, ht, hc⟩ := hq3 i x hx
      exact hR _ rfl (ev_op (ev_var rfl) ev_c (Evl.rv_ixT (st_of (e6 _ _ (tk5 _ _ ht))) (atI_nat (j := 4) rfl)))
    · have hs0 : ∀ n : Nat, (List.replicate n (0 : Int)).sum = 0 := fun n => by
        induction n with
        | zero => rfl
        | succ n ih => rw [List.replicate_succ, List.sum_cons, ih] <;> rfl
      rw [hs0]
      exact decide_eq_false (by omega)
    · cases vq with
      | nil => simp at hq2; omega
      | cons a b => rfl
    have hM6 := hM5.keep e6
    have hM6w := hM6.ws
    have tk6 : TK H H6 := tk5.trans (TK.ex e6)
    have f6 : Fr wl H3 H6 := (f4.trans f5).trans (Fr.of e6)
    refine q_forET (K := K) (a := qa) (xs := vq) (ev_var rfl) (st_of (tk6 _ _ hq1))
      (fun i σ' H' => ∃ x8 x9, σ' = [some (.ref pa), some (.ref qa), some (.ref la), some (.ref ra), some (.ref m), some (.int (2 + 5 * (vq.length : Int))), x6, x7, x8, x9, none, none, none] ∧ MemAt K H' m wl (mparts (mboot0 pl) ps i) ∧ Fr wl H6 H')
      (fun H7 e7 => ⟨x8, none, rfl, hM6.keep e7, Fr.of e7⟩) (fun i σ' H' ⟨_, _, _, _, f'⟩ => st_of (TK.fr f' hM6w _ _ (tk6 _ _ hq1))) ?_ ?_
    · rintro i y σ' H' t hy ⟨y8, y9, rfl, hM', f'⟩ ht
      obtain ⟨u, c, rfl, hu, hc⟩ := hq3 i y hy
      have hi : i < ps.length := by rw [← hq2]; exact (List.getElem?_eq_some_iff.mp hy).1
      obtain ⟨g, hR6⟩ := hG i hi
      have tk' : TK H H' := tk6.trans (TK.fr f' hM6w)
      have e4 : Ex H' (L2.upd H' t (.tup [.int (i : Nat), .ref u])) := Ex.new ht
      refine ⟨t, _, rfl, st_of upd_same, rfl, _, _, rfl, _, _, rfl, rfl, ?_⟩
      exact s_begin (hM'.keep e4) (ev_var rfl) (ev_op ev_c (ev_op ev_c (ev_var rfl) (rv_I (.inl ⟨by decide, by decide⟩))) rv_I0) (ev_var rfl) (e4 _ _ (tk' _ _ hu)) (e4 _ _ (tk' _ _ hc)) (by omega) (by omega) g hR6 fun H8 h8 f8 => ⟨_, _, rfl, h8, (f'.trans (Fr.of e4)).trans f8⟩
    rintro σ' H7 ⟨y8, y9, rfl, hM7, f7⟩
    rw [hq2] at hM7
    have hM7 : MemAt K H7 m wl (mboot pl ps) := hM7
    have f37 : Fr wl H3 H7 := f6.trans f7
    have eH7 : Ex H H7 := fun b o h => f37 b o (e03 b o h) fun z => by rw [z, hwH] at h; cases h
    have hM7w := hM7.ws
    refine q_forET (K := K) (a := la) (xs := lv) (ev_var rfl) (st_of (eH7 _ _ hL))
      (fun i σ' H' => ∃ z8 z10, σ' = [some (.ref pa), some (.ref qa), some (.ref la), some (.ref ra), some (.ref m), some (.int (2 + 5 * (vq.length : Int))), x6, x7, z8, y9, z10, none, none] ∧ MemAt K H' m wl (if i = 0 then mboot pl ps else mlk (mboot pl ps) 7 2) ∧ Fr wl H7 H')
      (fun H8 e8 => ⟨y8, none, rfl, by rw [if_pos rfl]; exact hM7.keep e8, Fr.of e8⟩) (fun i σ' H' ⟨_, _, _, _, f'⟩ => st_of (TK.fr f' hM7w _ _ (eH7 _ _ hL))) ?_ ?_
    · rintro i y σ' H' t hy ⟨z8, z10, rfl, hM', f'⟩ ht
      have hlen : i < lv.length := (List.getElem?_eq_some_iff.mp hy).1
      obtain rfl : i = 0 := by omega
      have hln : ln = true := by
        cases ln with
        | true => rfl
        | false => rw [hLn] at hlen; simp at hlen
      obtain ⟨t0, rfl, ht0⟩ := hLv y (List.mem_of_getElem? hy)
      rw [if_pos rfl] at hM'
      have tk' : TK H H' := (TK.ex eH7).trans (TK.fr f' hM7w)
      have e4 : Ex H' (L2.upd H' t (.tup [.int ((0 : Nat) : Int), .ref t0])) := Ex.new ht
      refine ⟨t, _, rfl, st_of upd_same, rfl, _, _, rfl, _, _, rfl, rfl, ?_⟩
      have hv1 : (vq.length : Int) = 1 := by omega
      obtain ⟨g4, g5⟩ := hLk hln
      refine s_blink (f := 7) (hM'.keep e4) (ev_var rfl) (ev_is (ev_op (ev_var rfl) (ev_var rfl) rv_I0) (by rw [hv1]; rfl)) (ev_var rfl) (e4 _ _ (tk' _ _ ht0)) (ev_is (ev_lenT (K := K) (ev_var rfl) (st_of (e4 _ _ (tk' _ _ hq1)))) (by rw [hv1])) (by decide) (by decide) g4 g5 fun H8 h8 f8 => ⟨_, _, rfl, by rw [if_neg (by decide)]; exact h8, (f'.trans (Fr.of e4)).trans f8⟩
    rintro σ' H8 ⟨y8, z10, rfl, hM8, f8⟩
    have hM8 : MemAt K H8 m wl (mbootL pl ps ln) := by
      rw [hLn] at hM8
      cases ln with
      | true => exact hM8
      | false => exact hM8
    have f38 : Fr wl H3 H8 := f37.trans f8
    have eH8 : Ex H H8 := fun b o h => f38 b o (e03 b o h) fun z => by rw [z, hwH] at h; cases h
    refine q_aug (a := 2 + 5 * (vq.length : Int)) (b := (lv.length : Nat)) rfl (ev_lenT (K := K) (ev_var rfl) (st_of (eH8 _ _ hL))) fun H9 e9 => ?_
    have eH9 := eH8.trans e9
    refine q_forET (K := K) (a := qa) (xs := vq) (ev_var rfl) (st_of (eH9 _ _ hq1))
      (fun i σ' H' => ∃ x5 x8 x9, σ' = [some (.ref pa), some (.ref qa), some (.ref la), some (.ref ra), some (.ref m), x5, x6, x7, x8, x9, z10, none, none] ∧ Ex H9 H')
      (fun H10 e10 => ⟨_, _, _, rfl, e10⟩) (fun i σ' H' ⟨_, _, _, _, e⟩ => st_of (e _ _ (eH9 _ _ hq1))) ?_ ?_
    · rintro i y σ' H' t hy ⟨x5, z8, z9, rfl, e'⟩ ht
      obtain ⟨u, c, rfl, hu, hc⟩ := hq3 i y hy
      have e4 : Ex H' (L2.upd H' t (.tup [.int (i : Nat), .ref u])) := Ex.new ht
      refine ⟨t, _, rfl, st_of upd_same, rfl, _, _, rfl, _, _, rfl, rfl, ?_⟩
      exact s_when (b := false) (et_is (et_truI (K := K) (n := 0) (ev_op (ev_var rfl) ev_c (Evl.rv_ixT (st_of (e4 _ _ (e' _ _ (eH9 _ _ hu)))) (atI_nat (j := 4) rfl)))) rfl) (fun h => by cases h) fun _ H10 e10 => ⟨_, _, _, rfl, (e'.trans e4).trans e10⟩
    rintro σ' H10 ⟨x5, z8, z9, rfl, e10⟩
    have eH10 := eH9.trans e10
    refine q_forT (K := K) (a := ra) (xs := []) (ev_var rfl) (st_of (eH10 _ _ hR))
      (fun i σ' H' => σ' = [some (.ref pa), some (.ref qa), some (.ref la), some (.ref ra), some (.ref m), x5, x6, x7, z8, z9, z10, none, none] ∧ Ex H10 H')
      (fun H11 e11 => ⟨rfl, e11⟩) (fun i σ' H' _ ⟨_, e⟩ => st_of (e _ _ (eH10 _ _ hR))) (fun i y σ' H' hy => by cases hy) ?_
    rintro σ' H11 ⟨rfl, e11⟩
    have e8c := ((e9.trans e10).trans e11)
    have h3w := hM3.ws
    refine s_ret (ev_var rfl) fun H12 e12 => k m wl dx dd H12 hm hwH ((eH10.trans e11).trans e12) (hM8.keep (e8c.trans e12)) ((e8c.trans e12) _ _ (f38 _ _ ((e2.trans e3) _ _ hmi) ?_)) ((e8c.trans e12) _ _ (f38 _ _ ((e2.trans e3) _ _ hdd) ?_))
    · exact ne_of ((e2.trans e3) _ _ hmi) h3w (by intro z; cases z)
    · exact ne_of ((e2.trans e3) _ _ hdd) h3w (by intro z; cases z)
end
end KQ

namespace KQ
open KA
open PySem PySem.Spec PyProof.Rows L2 Evl TL
/-! ### t += u of tuples -/
theorem no_tuple_iadd : typeLookup (.type "tuple") (dunderI "add") = pure none := by rw [typeLookup_type, builtinLookup_eq_fast]; kernel_rfl
section
variable {X : Cx}
def ipCat (K : PySem.W.Frag) : TIp := fun x y H Q => ∃ a b xs ys, x = .ref a ∧ y = .ref b ∧ SqT K H a xs ∧ SqT K H b ys ∧ xs ≠ [] ∧ ys ≠ [] ∧ xs.length + ys.length ≤ sizeLine ∧ ∀ p, H p = none → Q (.ref p) (upd H p (.tup (xs ++ ys)))
theorem ip_catA : PIp X .Add (ipCat X.K) := by
  intro pins s σ H x y v u Q I rx ry h
  obtain ⟨a, b, xs, ys, rfl, rfl, ha, hb, hx, hy, hz, q⟩ := h
  cases rx
  cases ry
  obtain ⟨its, r1, p1, _⟩ := I.tuple ha
  obtain ⟨its2, r2, p2, _⟩ := I.tuple hb
  obtain ⟨⟨cls, dd, data, sl⟩, ho, hc, n, hd⟩ := id p1
  obtain ⟨⟨cls2, dd2, data2, sl2⟩, ho2, hc2, n2, hd2⟩ := id p2
  simp only at hc hd hc2 hd2
  subst hc hd hc2 hd2
  have e : its.toArray ++ its2.toArray = (its ++ its2).toArray := by simp
  refine wpAny_inplaceOp_concat ⟨_, ho, rfl⟩ ⟨_, ho2, rfl⟩ no_tuple_iadd noFill_tuple_add seq_tuple_add (call_meets PySem.F.slot_tuple_add ⟨_, ho, rfl⟩ PySem.F.entry_tuple_add (PySem.F.args_tuple_add_2 _ _)
    (tuple_addW2 _ _ its.toArray its2.toArray n n2 dd dd2 sl sl2 (by simpa using fun z => hx (r1.nil_iff.mp z)) (by simpa using fun z => hy (r2.nil_iff.mp z)) (by rw [List.size_toArray, List.size_toArray, ← r1.length, ← r2.length]; exact hz)) ⟨ho, ho2, ?_⟩)
  rw [e]
  refine ⟨.ref s.heap.objs.size, _, I.laid (t' := s.toks) (o := .tup (xs ++ ys)) (fun b ob q => Heap.get?_push_of_some _ q) (Nat.le_refl _) ?_, rfl, q _ (I.hok.fresh (Nat.le_refl _))⟩
  exact ⟨by rw [List.length_append]; exact hz, _, r1.append r2, IsTup.new _ _⟩
end
/-! ### dicts compared, their values data -/
theorem hits_dp {X : Cx} {pins : List (Addr × Obj)} {σ : L2.St} {H : Hp} {s : Shared} (I : Inv X pins σ H s) (hu : X.A.units + 100 < cLine) {ls : List (Key × V)} {vb : List (Key × Value)} (rb : KV ls vb) {ks : List (Key × V)} {va : List (Key × Value)} (ra : KV ks va) :
    (∀ p ∈ ks, ∃ u d e, valV ls p.1 = some u ∧ Dp X.K H p.2 d ∧ Dp X.K H u e ∧ SeqAt.shaped d = true ∧ SeqAt.shaped e = true ∧ PyData.eqv d e = true) → PySem.W.KeqHits X.A.in1 s vb va true := by
  unfold KV at ra
  induction ra with
  | nil => intro _; exact .nil
  | @cons p q ps qs h t ih =>
    intro hp
    obtain ⟨h1, h2⟩ := h
    obtain ⟨u, d, e, hv, hd, he, sd, se, heq⟩ := hp p List.mem_cons_self
    have rr : RelO (some u) (valueAt vb p.1) := by rw [← hv]; exact rb.val p.1
    obtain ⟨y, hy, ry⟩ := rr.some_of
    obtain ⟨k, v⟩ := q
    have h1' : p.1 = k := h1
    rw [h1'] at hy
    show PySem.W.KeqHits X.A.in1 s vb ((k, v) :: qs) (true && true)
    obtain ⟨as, r1⟩ := Dp.reads I d p.2 v hd h2
    obtain ⟨bs, r2⟩ := Dp.reads I e u y he ry
    have x := PySem.W.keq_at (A := X.A) r1 r2 sd se (by show X.A.units + 1 + 64 < cLine; omega)
    rw [heq] at x
    exact .hit hy x (ih fun p' hm => hp p' (List.mem_cons_of_mem _ hm))
def rNeDD (K : PySem.W.Frag) : R2 := fun x y H Q => ∃ a b ks ls, x = .ref a ∧ y = .ref b ∧ H a = some (.dK ks) ∧ H b = some (.dK ls) ∧ ks.length = ls.length ∧ (∀ p ∈ ks, ∃ u d e, valV ls p.1 = some u ∧ Dp K H p.2 d ∧ Dp K H u e ∧ SeqAt.shaped d = true ∧ SeqAt.shaped e = true ∧ PyData.eqv d e = true) ∧ Q (.bl false) H
theorem op_neDD {X : Cx} (hu : X.A.units + 100 < cLine) : OpR X (compareOp .NotEq) (rNeDD X.K) := by
  intro pins s σ H x y v u Q I rx ry h
  obtain ⟨a, b, ks, ls, rfl, rfl, ea, eb, hlen, hp, q⟩ := h
  obtain rfl : v = Value.ref a := rx
  obtain rfl : u = Value.ref b := ry
  obtain ⟨_, ya, va, ra, da⟩ := (show ObjOk X.prog X.w H s.heap a (.dK ks) from I.hok a _ ea)
  obtain ⟨_, yb, vb, rb, db⟩ := (show ObjOk X.prog X.w H s.heap b (.dK ls) from I.hok b _ eb)
  have hl : va.length = vb.length := by rw [← ra.length, ← rb.length]; exact hlen
  exact PySem.W.keq_ne (knd := mixKind X.prog X.w) (r := true) ya yb da db (by omega) (fun _ => hits_dp I hu rb ra hp) (fin_bl I q (by simp [hl]))
/-! ### name = {..} on one line -/
section
variable {X : Cx}
theorem pt_truthK {K : PySem.W.Frag} {a : Expr} {ta : TE} (hK : X.K = K) (ha : PE X a ta) (he : ∀ whole, isTrue a X.env whole = (do let v ← whole; standAt a.pos; holding [v] (truthy v))) :
    PT X a (fun σ H Q => ta σ H fun x H' => ∃ k, TruV K x H' k ∧ Q k H') := by
  subst hK
  exact pt_truth ha he
theorem ps_setDc {i : Nat} {y : Str} {py : Pos} {kx vx tg iter : Expr} {ifs : List Expr} {scope : Scope} {own : List (Str × Nat)} {pos spos : Pos} {wi : TI} {g : TG} {tt : TT} {tk tv : TE} (hc : X.calm = true) (hN : X.N.Nodup) (hy : X.N[i]? = some y) (hyl : X.env.scope.names.lookup y = some .local)
    (hsw : swapsWith (.DictComp kx vx [⟨tg, iter, ifs, 0⟩] scope pos) (some (.Name y py)) spos.line X.env = pure true) (hi : PI X tg iter wi) (ok : BlkOk X.N X.env.scope scope own)
    (hg : ∀ (s : Shared) (H : Hp) (C : Addr) (cl : List (Str × Addr)) (fp : List Addr), PG (X.blk s H scope (compEnvC scope cl C X.env) fp) tg g) (ht : ∀ (s : Shared) (H : Hp) (C : Addr) (cl : List (Str × Addr)) (fp : List Addr), PTs (X.blk s H scope (compEnvC scope cl C X.env) fp) ifs tt)
    (hk : ∀ (s : Shared) (H : Hp) (C : Addr) (cl : List (Str × Addr)) (fp : List Addr), PE (X.blk s H scope (compEnvC scope cl C X.env) fp) kx tk)
    (he : ∀ (s : Shared) (H : Hp) (C : Addr) (cl : List (Str × Addr)) (fp : List Addr), PE (X.blk s H scope (compEnvC scope cl C X.env) fp) vx tv) (hs : ∀ x, foldedSetIterable iter X.env x = pure x := by intro _; rfl) :
    PS X (.Assign [.Name y py] (.DictComp kx vx [⟨tg, iter, ifs, 0⟩] scope pos) spos) (tAsg (tDc wi g tt tk tv (own.map (·.2))) (gName i)) := by
  refine ⟨fun pins s σ H D I h => ?_⟩
  rw [exec_Assign_Name_used _ _ _ _ hsw]
  refine wpAny_bind (wpAny_standAt (wpAny_bind ?_))
  show wpAny _ X.A (do let _ ← comprehension (.DictComp kx vx [⟨tg, iter, ifs, 0⟩] scope pos) scope X.env (firstIterPos [⟨tg, iter, ifs, 0⟩] pos) newDict false (eval iter X.env) (some (assign (.Name y py) X.env))) _ _ s
  have h : tDc wi g tt tk tv (own.map (·.2)) σ H (fun x H1 => gName i x σ H1 D.nx) := h
  refine wpAny_bind (thn (dc_core (Qf := fun _ s' => SP X pins D .next s') hc hN I hi ok hg ht hk he hs h fun L C s' m H' I' q hn f => ?_) fun _ s' hq => wpAny_pure (wpAny_pure hq))
  show wpAny _ _ (assign (.Name y py) X.env (.ref L)) _ _ _
  refine wpAny_assign_Name (store_ok2 (v := V.ref L) I' hN hy (.inl hyl) rfl (fun s2 I2 ⟨a, sb, ha⟩ => ?_) (.inr hyl))
  obtain ⟨f0, f1, f2, f3, f4, f5⟩ := f
  have haC : C ≠ a := by
    rcases ha with z | z
    · rw [z]; exact f1
    · exact fun e => f4 y a z e.symm
  refine ⟨m, hn.sameBut sb haC, fun h3 sb3 => ?_⟩
  exact ⟨_, H', I2.turned (t' := s2.toks) (fun b o hb e => (sb3.2 b hb).trans e) f0 f1 f3 f4 f5, q⟩
theorem sw_trueD {kx vx : Expr} {gs : List Comprehension} {scope : Scope} {pos py : Pos} {y : Str} {l : Nat} {env : Env} (hk : env.scope.kind = .function) (hy : env.scope.names.lookup y = some .local) (hl : (py.line == pos.line) = true)
    (ha : (scope.names.any fun (n, k) => n == y && (k == .local || k == .cell)) = false) : swapsWith (.DictComp kx vx gs scope pos) (some (.Name y py)) l env = pure true := by
  have ky : env.kindOf y = some .local := hy
  have hb : env.blockKind = .function := by unfold Env.blockKind; rw [hk]; rfl
  unfold swapsWith
  simp only [hb, ky, ha, Expr.pos, hl]
  rfl
end
theorem hu100 {k : Nat} {A : Around} (r : Room k A) : A.units + 100 < cLine := by have := r.un; omega
/-! ### dict comprehensions -/
/-- the pairs of a dict that is made turn by turn -/
def KvOk (key : Nat → Key) (f : Nat → Bool) (Pr : Nat → V → Hp → Prop) (n : Nat) (kvs : List (Key × V)) (H : Hp) : Prop :=
  kvs.map (·.1) = ((List.range n).filter f).map key ∧ ∀ p ∈ kvs, ∃ i, i < n ∧ f i = true ∧ p.1 = key i ∧ Pr i p.2 H
theorem KvOk.len {key : Nat → Key} {f : Nat → Bool} {Pr : Nat → V → Hp → Prop} {n : Nat} {kvs : List (Key × V)} {H : Hp} (h : KvOk key f Pr n kvs H) : kvs.length = ((List.range n).filter f).length := by
  have := congrArg List.length h.1
  rw [List.length_map, List.length_map] at this
  exact this
theorem KvOk.len_le {key : Nat → Key} {f : Nat → Bool} {Pr : Nat → V → Hp → Prop} {n : Nat} {kvs : List (Key × V)} {H : Hp} (h : KvOk key f Pr n kvs H) : kvs.length ≤ n := by
  rw [h.len]
  have := List.length_filter_le f (List.range n)
  rw [List.length_range] at this
  exact this
theorem KvOk.ex {key : Nat → Key} {f : Nat → Bool} {Pr : Nat → V → Hp → Prop} {n : Nat} {kvs : List (Key × V)} {H H' : Hp} (h : KvOk key f Pr n kvs H) (mo : ∀ i v, Pr i v H → Pr i v H') : KvOk key f Pr n kvs H' :=
  ⟨h.1, fun p hp => let ⟨i, a, b, c, d⟩ := h.2 p hp; ⟨i, a, b, c, mo i _ d⟩⟩
theorem valV_none {kvs : List (Key × V)} {k : Key} (h : k ∉ kvs.map (·.1)) : valV kvs k = none := by
  cases e : valV kvs k with
  | none => rfl
  | some v => exact absurd (valV_in e) h
theorem valV_mem {kvs : List (Key × V)} {k : Key} {v : V} (h : valV kvs k = some v) : (k, v) ∈ kvs := by
  induction kvs with
  | nil => cases h
  | cons p r ih =>
    by_cases e : p.1 = k
    · rw [valV_pos e] at h
      cases h
      rw [← e]
      exact List.mem_cons_self
    · rw [valV_neg e] at h
      exact List.mem_cons_of_mem _ (ih h)
/-- a key that is there leads to its value -/
theorem KvOk.at {key : Nat → Key} {f : Nat → Bool} {Pr : Nat → V → Hp → Prop} {n : Nat} {kvs : List (Key × V)} {H : Hp} (h : KvOk key f Pr n kvs H) (inj : ∀ i j, i < n → j < n → key i = key j → i = j) {i : Nat} (hi : i < n) (hf : f i = true) : ∃ v, valV kvs (key i) = some v ∧ Pr i v H := by
  have hm : key i ∈ kvs.map (·.1) := by
    rw [h.1]
    exact List.mem_map.mpr ⟨i, List.mem_filter.mpr ⟨List.mem_range.mpr hi, hf⟩, rfl⟩
  cases e : valV kvs (key i) with
  | none => exact absurd hm (valV_not e)
  | some v =>
    obtain ⟨j, j1, j2, j3, j4⟩ := h.2 _ (valV_mem e)
    rw [inj i j hi j1 j3]
    exact ⟨v, rfl, j4⟩
theorem KvOk.none {key : Nat → Key} {f : Nat → Bool} {Pr : Nat → V → Hp → Prop} {n : Nat} {kvs : List (Key × V)} {H : Hp} (h : KvOk key f Pr n kvs H) {k : Key} (hk : ∀ i, i < n → f i = true → key i ≠ k) : valV kvs k = none := by
  refine valV_none fun hm => ?_
  rw [h.1] at hm
  obtain ⟨i, hi, e⟩ := List.mem_map.mp hm
  obtain ⟨h1, h2⟩ := List.mem_filter.mp hi
  exact hk i (List.mem_range.mp h1) h2 e
theorem KvOk.snoc {key : Nat → Key} {f : Nat → Bool} {Pr : Nat → V → Hp → Prop} {i : Nat} {kvs : List (Key × V)} {H : Hp} {v : V} (h : KvOk key f Pr i kvs H) (hf : f i = true) (hnew : ∀ j, j < i → key j ≠ key i) (hv : Pr i v H) : KvOk key f Pr (i + 1) (putK kvs (key i) v) H := by
  have hn : valV kvs (key i) = .none := h.none fun j hj _ => hnew j hj
  rw [putK_new v hn]
  refine ⟨?_, fun p hp => ?_⟩
  · rw [List.map_append, h.1, List.range_succ, List.filter_append, List.map_append, List.filter_cons, if_pos hf]
    rfl
  · rcases List.mem_append.mp hp with hp | hp
    · obtain ⟨j, a, b, c, d⟩ := h.2 p hp
      exact ⟨j, Nat.lt_succ_of_lt a, b, c, d⟩
    · rw [List.mem_singleton] at hp
      subst hp
      exact ⟨i, Nat.lt_succ_self i, hf, rfl, hv⟩
theorem KvOk.skip {key : Nat → Key} {f : Nat → Bool} {Pr : Nat → V → Hp → Prop} {i : Nat} {kvs : List (Key × V)} {H : Hp} (h : KvOk key f Pr i kvs H) (hf : f i = false) : KvOk key f Pr (i + 1) kvs H := by
  refine ⟨?_, fun p hp => ?_⟩
  · rw [h.1, List.range_succ, List.filter_append, List.map_append, List.filter_cons, if_neg (by rw [hf]; decide)]
    simp
  · obtain ⟨j, a, b, c, d⟩ := h.2 p hp
    exact ⟨j, Nat.lt_succ_of_lt a, b, c, d⟩
/-- all stands but what is at D -/
def ExB (D : Addr) (H H' : Hp) : Prop := ∀ b o, H b = some o → b ≠ D → H' b = some o
theorem ExB.of {D : Addr} {H H' : Hp} (e : Ex H H') : ExB D H H' := fun b o h _ => e b o h
section
variable {σ : L2.St} {K : PySem.W.Frag} {te tk tv : TE} {tt : TT} {g : TG} {vs : List Nat}
/-- a new dict -/
def EvD (te : TE) (σ : L2.St) (H : Hp) (Pk : Addr → List (Key × V) → Hp → Prop) : Prop := ∀ H1, Ex H H1 → ∀ Q : VK, (∀ p kvs H2, H1 p = none → Ex H1 H2 → H2 p = some (.dK kvs) → Pk p kvs H2 → Q (.ref p) H2) → te σ H1 Q
/-- the walk of a dict comprehension: what it runs over is laid, D is new -/
theorem dc_run {J : It} {n : Nat} {G : Hp → Prop} {Y : Nat → Hp → V → Hp → Prop} {Hb : Hp} {D : Addr} {Qd : Hp → Prop} (w : Walk J n G Y) (key : Nat → Key) (f : Nat → Bool) (Pr : Nat → V → Hp → Prop) (hz : n ≤ 40000) (inj : ∀ i j, i < n → j < n → key i = key j → i = j) (mo : ∀ i v H H', ExB D H H' → Pr i v H → Pr i v H')
    (hD : Hb D = none) (hG : ∀ H', Ex Hb H' → G H') (hY : ∀ i H x H', Y i H x H' → Ex H H')
    (hs : ∀ i x H H', i < n → Ex Hb H → (∃ kv, H D = some (.dK kv)) → Y i H x H' → Ex Hb H' → ∀ R : L2.St → Hp → Prop, (∀ σ2 H2, Ex H' H2 → wipe σ2 vs = wipe σ vs → EvT tt σ2 H2 (f i) → (f i = true → Ev tk σ2 H2 (kV (key i)) ∧ EvP tv σ2 H2 (Pr i)) → R σ2 H2) → g x (wipe σ vs) H' R)
    (hd : ∀ kvs H, Ex Hb H → H D = some (.dK kvs) → KvOk key f Pr n kvs H → Qd H) :
    ∃ W : Nat → Nat → Hp → Prop, (∃ m, W 0 m (upd Hb D (.dK []))) ∧ ∀ i m H, W i m H →
      (J.stop i H ∧ Qd H) ∨ (J.go i H ∧ ∃ Nx : Hp → Prop, (∀ H', Nx H' → ∃ m', m' < m ∧ W (i + 1) m' H') ∧ ∀ x H', J.yld i H x H' → g x (wipe σ vs) H' fun σ2 H2 => wipe σ2 vs = wipe σ vs ∧ tt σ2 H2 fun b H3 =>
        if b = true then tk σ2 H3 fun y H4 => tv σ2 H4 fun z H5 => ∃ kvs k, y = kV k ∧ H5 D = some (.dK kvs) ∧ kvs.length < sizeLine ∧ Nx (upd H5 D (.dK (putK kvs k z))) else Nx H3) := by
  refine ⟨fun i m H => m = n - i ∧ i ≤ n ∧ Ex Hb H ∧ ∃ kvs, H D = some (.dK kvs) ∧ KvOk key f Pr i kvs H, ⟨n, by simp, Nat.zero_le _, Ex.new hD, [], upd_same, rfl, fun p hp => by cases hp⟩, ?_⟩
  rintro i m H ⟨rfl, hi, eH, kvs, hk, ok⟩
  have q := hG H eH
  by_cases hlt : i < n
  · refine .inr ⟨w.goes i H hlt q, fun H' => Ex Hb H' ∧ ∃ kvs, H' D = some (.dK kvs) ∧ KvOk key f Pr (i + 1) kvs H', fun H' p' => ⟨n - (i + 1), by omega, rfl, hlt, p'⟩, fun x H' y => ?_⟩
    have yy := w.yields i H x H' hlt q y
    have e' := hY i H x H' yy
    refine hs i x H H' hlt eH ⟨_, hk⟩ yy (eH.trans e') _ fun σ2 H2 e2 hw ht hv => ⟨hw, ht H2 (Ex.refl H2) _ fun H3 e3 => ?_⟩
    have e03 : Ex H H3 := (e'.trans e2).trans e3
    cases hf : f i with
    | false =>
      rw [if_neg (by decide)]
      exact ⟨eH.trans e03, kvs, e03 _ _ hk, (ok.ex fun j v => mo j v _ _ (ExB.of e03)).skip hf⟩
    | true =>
      rw [if_pos rfl]
      obtain ⟨h1, h2⟩ := hv hf
      refine h1 H3 e3 _ fun H4 e4 => h2 H4 (e3.trans e4) _ fun v H5 e5 hv5 => ?_
      have e05 : Ex H H5 := (e03.trans e4).trans e5
      have hl := ok.len_le
      refine ⟨kvs, key i, rfl, e05 _ _ hk, sz_lt (by omega), Ex.mut (eH.trans e05) hD, _, upd_same, ?_⟩
      have ok5 : KvOk key f Pr i kvs H5 := ok.ex fun j v => mo j v _ _ (ExB.of e05)
      have ok6 := ok5.snoc hf (fun j hj e => by have := inj j i (by omega) hlt e; omega) hv5
      exact ok6.ex fun j v => mo j v _ _ fun b o hb nb => by rw [upd_ne nb]; exact hb
  · have e : i = n := by omega
    subst e
    exact .inl ⟨w.stops H q, hd kvs H eH hk ok⟩
/-- over range(n) -/
theorem ed_R1 {H : Hp} {ta : TA} {j : Nat} {n : Int} (key : Nat → Key) (f : Nat → Bool) (Pr : Addr → Nat → V → Hp → Prop) (h : EvA ta σ H [.int n]) (hn : 0 ≤ n ∧ n ≤ 40000) (inj : ∀ i j : Nat, key i = key j → i = j) (mo : ∀ D i v H H', ExB D H H' → Pr D i v H → Pr D i v H')
    (hw : ∀ x, wipe ((wipe σ vs).set j (some x)) vs = wipe σ vs)
    (hs : ∀ D (i : Nat) H1, Ex H H1 → (∃ kv, H1 D = some (.dK kv)) → (i : Int) < n → EvT tt ((wipe σ vs).set j (some (.int (i : Int)))) H1 (f i) ∧ (f i = true → Ev tk ((wipe σ vs).set j (some (.int (i : Int)))) H1 (kV (key i)) ∧ EvP tv ((wipe σ vs).set j (some (.int (i : Int)))) H1 (Pr D i))) :
    EvD (tDc (iRng1 ta) (gName j) tt tk tv vs) σ H (fun D kvs H' => KvOk key f (Pr D) n.toNat kvs H') := fun H0 e Q q => h H0 e _ fun H1 e1 => ⟨n, rfl, by omega, by omega, fun D hD =>
  dc_run (walk_range (lo := 0) (n := n.toNat)) key f (Pr D) (by omega) (fun i j _ _ e => inj i j e) (mo D) hD (fun _ _ => trivial) (fun i H x H' y => y.1 ▸ Ex.refl H) (fun i x H H' hi eH hne y eH' R k => by
    obtain ⟨rfl, rfl⟩ := y
    have e0 : (0 : Int) + (i : Int) = (i : Int) := Int.zero_add _
    show R ((wipe σ vs).set j (some (.int ((0 : Int) + (i : Int))))) H'
    rw [e0]
    obtain ⟨h1, h2⟩ := hs D i H' ((e.trans e1).trans eH') hne (by omega)
    exact k _ H' (Ex.refl H') (hw _) h1 h2) (fun kvs H' eH hk ok => q D kvs H' (fresh_back e1 hD) (e1.trans eH) hk ok)⟩
/-- over a new list -/
theorem ed_NL {H : Hp} {tl : TE} {j : Nat} {xs : List V} (key : Nat → Key) (f : Nat → Bool) (Pr : Addr → Nat → V → Hp → Prop) (h : EvL tl σ H xs) (hz : xs.length ≤ 40000) (inj : ∀ i j : Nat, i < xs.length → j < xs.length → key i = key j → i = j) (mo : ∀ D i v H H', ExB D H H' → Pr D i v H → Pr D i v H')
    (hw : ∀ x, wipe ((wipe σ vs).set j (some x)) vs = wipe σ vs)
    (hs : ∀ D (i : Nat) y H1, Ex H H1 → (∃ kv, H1 D = some (.dK kv)) → xs[i]? = some y → EvT tt ((wipe σ vs).set j (some y)) H1 (f i) ∧ (f i = true → Ev tk ((wipe σ vs).set j (some y)) H1 (kV (key i)) ∧ EvP tv ((wipe σ vs).set j (some y)) H1 (Pr D i))) :
    EvD (tDc (iList K tl) (gName j) tt tk tv vs) σ H (fun D kvs H' => KvOk key f (Pr D) xs.length kvs H') := fun H0 e Q q => h H0 e _ fun a H1 ha e1 hx => ⟨a, rfl, ⟨xs, sq_of hx⟩, fun D hD =>
  dc_run (walk_list (K := K) (a := a) (xs := xs)) key f (Pr D) hz inj (mo D) hD (fun H' eH => sq_of (eH _ _ hx)) (fun i H x H' y => y.1 ▸ Ex.refl H) (fun i x H H' hi eH hne y eH' R k => by
    obtain ⟨rfl, hy⟩ := y
    obtain ⟨h1, h2⟩ := hs D i x H' ((e.trans e1).trans eH') hne hy
    exact k _ H' (Ex.refl H') (hw _) h1 h2) (fun kvs H' eH hk ok => q D kvs H' (fresh_back e1 hD) (e1.trans eH) hk ok)⟩
end
end KQ

namespace KQ
open KA
open PySem PySem.Spec PyProof.Rows L2 Evl TL
section
variable {σ : L2.St} {H : Hp} {K : PySem.W.Frag} {D : Ends} {te tk tv ty td : TE} {ta : TA} {tt : TT} {tz : TS} {vs : List Nat}
theorem q_asgD {i : Nat} {Pk : Addr → List (Key × V) → Hp → Prop} (h : EvD te σ H Pk) (k : ∀ p kvs H1, H p = none → Ex H H1 → H1 p = some (.dK kvs) → Pk p kvs H1 → tz D (σ.set i (some (.ref p))) H1) : tSeq (tAsg te (gName i)) tz D σ H := h H (Ex.refl H) _ k
theorem q_asgPs {i : Nat} {Ps : List Pr} (hm : ∀ P ∈ Ps, Mo P) (hl : Ps.length ≤ 100000) (h : EvPs ta σ H Ps) (k : ∀ p vs H1, Ex H H1 → H1 p = some (.tup vs) → Al Ps vs H1 → tz D (σ.set i (some (.ref p))) H1) : tSeq (tAsg (tTup ta) (gName i)) tz D σ H :=
  h H (Ex.refl H) _ fun vs H1 e1 a => ⟨sz_of (by rw [a.len]; exact hl), fun p hp => k p vs _ (e1.trans (Ex.new hp)) upd_same (a.mono hm (TK.ex (Ex.new hp)))⟩
/-- d[y] = v -/
theorem q_dputV {v : V} {a : Addr} {kvs : List (Key × V)} {k : Key} (hv : Ev tv σ H v) (hd : Ev td σ H (.ref a)) (hy : Ev ty σ H (kV k)) (ha : H a = some (.dK kvs)) (hz : kvs.length ≤ 1000) (kk : ∀ H1, Ex H H1 → tz D σ (upd H1 a (.dK (putK kvs k v)))) : tSeq (sDPut td ty tv) tz D σ H :=
  hv H (Ex.refl H) _ fun H1 e1 => hd H1 e1 _ fun H2 e2 => hy H2 (e1.trans e2) _ fun H3 e3 => ⟨a, _, rfl, DPut.k (((e1.trans e2).trans e3) _ _ ha) (sz_lt (by omega)), kk H3 ((e1.trans e2).trans e3)⟩
/-- .., what is put told by a promise -/
theorem q_dputP {P : Pr} {a : Addr} {kvs : List (Key × V)} {k : Key} (hv : EvP tv σ H P) (hd : ∀ H1, Ex H H1 → Ev td σ H1 (.ref a)) (hy : ∀ H1, Ex H H1 → Ev ty σ H1 (kV k)) (ha : H a = some (.dK kvs)) (hz : kvs.length ≤ 1000) (mo : Mo P) (kk : ∀ v H1, Ex H H1 → P v H1 → tz D σ (upd H1 a (.dK (putK kvs k v)))) : tSeq (sDPut td ty tv) tz D σ H :=
  hv H (Ex.refl H) _ fun v H1 e1 p1 => hd H1 e1 H1 (Ex.refl H1) _ fun H2 e2 => hy H1 e1 H2 e2 _ fun H3 e3 => ⟨a, _, rfl, DPut.k (((e1.trans e2).trans e3) _ _ ha) (sz_lt (by omega)), kk v H3 ((e1.trans e2).trans e3) (mo _ _ _ (TK.ex (e2.trans e3)) p1)⟩
theorem s_dputV {v : V} {a : Addr} {kvs : List (Key × V)} {k : Key} (hv : Ev tv σ H v) (hd : Ev td σ H (.ref a)) (hy : Ev ty σ H (kV k)) (ha : H a = some (.dK kvs)) (hz : kvs.length ≤ 1000) (kk : ∀ H1, Ex H H1 → D.nx σ (upd H1 a (.dK (putK kvs k v)))) : sDPut td ty tv D σ H :=
  hv H (Ex.refl H) _ fun H1 e1 => hd H1 e1 _ fun H2 e2 => hy H2 (e1.trans e2) _ fun H3 e3 => ⟨a, _, rfl, DPut.k (((e1.trans e2).trans e3) _ _ ha) (sz_lt (by omega)), kk H3 ((e1.trans e2).trans e3)⟩
/-- a pair of a text and a number -/
def PrSt (x : Str) (n : Int) : Pr := fun v H => ∃ t, v = .ref t ∧ H t = some (.tup [.str x, .int n])
theorem PrSt.mo {x : Str} {n : Int} : Mo (PrSt x n) := fun v H H' tk ⟨t, e, h1⟩ => ⟨t, e, tk _ _ h1⟩
theorem ep_st {x : Str} {n : Int} : EvP (tTup (tCons (tC (.str x)) (tCons (tC (.int n)) tNil))) σ H (PrSt x n) := fun H1 e Q q =>
  (eu_tup (ea_cons ev_c (ea_cons ev_c ea_nil)) (by show 2 ≤ 100000; decide) : EvU _ σ H _) H1 e _ fun p H2 hp e2 h => q _ H2 e2 ⟨p, rfl, h⟩
def prSts (l : List (Str × Int)) : List Pr := l.map fun p => PrSt p.1 p.2
theorem prSts_mo {l : List (Str × Int)} : ∀ P ∈ prSts l, Mo P := fun P h => by
  obtain ⟨p, _, rfl⟩ := List.mem_map.mp h
  exact PrSt.mo
/-- the names and places that a tuple holds -/
def NamesT (H : Hp) (xs : List V) (l : List (Str × Int)) : Prop := xs.length = l.length ∧ ∀ (i : Nat) (p : Str × Int), l[i]? = some p → ∃ t, xs[i]? = some (V.ref t) ∧ H t = some (.tup [.str p.1, .int p.2])
theorem NamesT.of {xs : List V} {l : List (Str × Int)} (h : Al (prSts l) xs H) : NamesT H xs l := by
  have hl := h.len
  refine ⟨by rw [hl]; simp [prSts], fun i p hp => ?_⟩
  have hi : i < l.length := (List.getElem?_eq_some_iff.mp hp).1
  have hx : i < xs.length := by rw [hl]; simpa [prSts] using hi
  obtain ⟨P, hP, hv⟩ := h.at (List.getElem?_eq_getElem hx)
  unfold prSts at hP
  rw [List.getElem?_map, hp] at hP
  obtain rfl : PrSt p.1 p.2 = P := Option.some.inj hP
  obtain ⟨t, e, h1⟩ := hv
  exact ⟨t, by rw [List.getElem?_eq_getElem hx, e], h1⟩
theorem NamesT.keep {H' : Hp} {xs : List V} {l : List (Str × Int)} (h : NamesT H xs l) (tk : TK H H') : NamesT H' xs l := ⟨h.1, fun i p hp => let ⟨t, a, b⟩ := h.2 i p hp; ⟨t, a, tk _ _ b⟩⟩
theorem NamesT.app {xs ys : List V} {l m : List (Str × Int)} (h : NamesT H xs l) (h' : NamesT H ys m) : NamesT H (xs ++ ys) (l ++ m) := by
  refine ⟨by rw [List.length_append, List.length_append, h.1, h'.1], fun i p hp => ?_⟩
  by_cases hi : i < l.length
  · rw [List.getElem?_append_left hi] at hp
    rw [List.getElem?_append_left (by rw [h.1]; exact hi)]
    exact h.2 i p hp
  · rw [List.getElem?_append_right (by omega)] at hp
    rw [List.getElem?_append_right (by rw [h.1]; omega), h.1]
    exact h'.2 _ p hp
def EvSN (te : TE) (σ : L2.St) (H : Hp) (l : List (Str × Int)) : Prop := ∀ H1, Ex H H1 → ∀ Q : VK, (∀ a xs H2, Ex H1 H2 → H2 a = some (.tup xs) → NamesT H2 xs l → Q (.ref a) H2) → te σ H1 Q
theorem esn_ev {a : Addr} {xs : List V} {l : List (Str × Int)} (h : Ev te σ H (.ref a)) (ha : H a = some (.tup xs)) (hN : NamesT H xs l) : EvSN te σ H l := fun H1 e Q q => h H1 e _ fun H2 e2 => q a xs H2 e2 (e2 _ _ (e _ _ ha)) (hN.keep (TK.ex (e.trans e2)))
theorem esn_ps {l : List (Str × Int)} (hl : l.length ≤ 1000) (h : EvPs ta σ H (prSts l)) : EvSN (tTup ta) σ H l := fun H1 e Q q => h H1 e _ fun vs H2 e2 a => ⟨sz_of (by rw [a.len]; simp [prSts]; omega), fun p hp => q p vs _ (e2.trans (Ex.new hp)) upd_same ((NamesT.of a).keep (TK.ex (Ex.new hp)))⟩
theorem esn_cat {tb : TE} {l m : List (Str × Int)} (h1 : EvSN te σ H l) (h2 : ∀ H1, Ex H H1 → EvSN tb σ H1 m) (hz : l.length + m.length ≤ 1000) : EvSN (tOp (rCatA K) te tb) σ H (l ++ m) := fun H1 e Q q =>
  h1 H1 e _ fun a xs H2 e2 ha na => h2 H2 (e.trans e2) H2 (Ex.refl H2) _ fun b ys H3 e3 hb nb => by
    have ha3 := e3 _ _ ha
    have na3 := na.keep (TK.ex e3)
    refine ⟨a, b, xs, ys, rfl, rfl, st_of ha3, st_of hb, sz_of (by rw [na.1, nb.1]; omega), fun z => ?_, fun _ z => ?_, fun _ _ p hp => q p _ _ ((e2.trans e3).trans (Ex.new hp)) upd_same ((na3.app nb).keep (TK.ex (Ex.new hp)))⟩
    · subst z
      have := na3.app nb
      rw [List.nil_append] at this
      exact q b _ H3 (e2.trans e3) hb this
    · subst z
      have := na3.app nb
      rw [List.append_nil] at this
      exact q a _ H3 (e2.trans e3) ha3 this
theorem names_inj {l : List (Str × Int)} (nd : (l.map (·.1)).Nodup) : ∀ i j, i < l.length → j < l.length → (Sum.inr (l.getD i ("", 0)).1 : Key) = Sum.inr (l.getD j ("", 0)).1 → i = j := by
  intro i j hi hj e
  have gD : ∀ i, i < l.length → l[i]? = some (l.getD i ("", 0)) := fun i hi => by rw [List.getD_eq_getElem?_getD, List.getElem?_eq_getElem hi]; rfl
  have e2 : (l.getD i ("", 0)).1 = (l.getD j ("", 0)).1 := Sum.inr.inj e
  have g1 : (l.map (·.1))[i]? = some (l.getD i ("", 0)).1 := by rw [List.getElem?_map, gD i hi]; rfl
  have g2 : (l.map (·.1))[j]? = some (l.getD j ("", 0)).1 := by rw [List.getElem?_map, gD j hj]; rfl
  exact (List.getElem?_inj (i := i) (j := j) (by rw [List.length_map]; exact hi) nd).mp (by rw [g1, g2, e2])
/-- {name: word for name, place in ..} -/
theorem ed_names {m wl : Addr} {μ : Mem} {dev : Int} {tm tf : TE} {j k : Nat} {l : List (Str × Int)} (h : EvSN te σ H l) (hz : l.length ≤ 100) (nd : (l.map (·.1)).Nodup) (hjk : j ≠ k) (hI : InF dev) (hpl : ∀ p ∈ l, 0 ≤ p.2 ∧ p.2 < 64) (hM : MemAt K H m wl μ)
    (hw : ∀ x y, wipe (((wipe σ vs).set j (some x)).set k (some y)) vs = wipe σ vs) (hj : ∀ x y : V, (((wipe σ vs).set j (some x)).set k (some y))[j]? = some (some x)) (hk : ∀ x y : V, (((wipe σ vs).set j (some x)).set k (some y))[k]? = some (some y))
    (hm : ∀ (x y : V) H1, Ev tm (((wipe σ vs).set j (some x)).set k (some y)) H1 (.ref m)) (hf : ∀ (x y : V) H1, Ev tf (((wipe σ vs).set j (some x)).set k (some y)) H1 (.int dev)) :
    EvD (tDc (iTup K te) (gTup K 2 (gCons (gName j) (gCons (gName k) gNil))) (fun _ H Q => Q true H) (tVar j) (tMeth (CM K) "word" (sp_word K) [] E0 tm (tCons tf (tCons (tVar k) tNil))) vs) σ H
      (fun D kvs H' => KvOk (fun i => Sum.inr (l.getD i ("", 0)).1) (fun _ => true) (fun i v _ => v = .int (μ (ix dev (l.getD i ("", 0)).2))) l.length kvs H') := fun H0 e Q q => h H0 e _ fun a xs H1 e1 hx hN => ⟨a, rfl, ⟨xs, st_of hx⟩, fun Dl hD => by
  have hlen := hN.1
  have gD : ∀ i, i < l.length → l[i]? = some (l.getD i ("", 0)) := fun i hi => by rw [List.getD_eq_getElem?_getD, List.getElem?_eq_getElem hi]; rfl
  rw [← hlen] at q
  refine dc_run (σ := σ) (vs := vs) (g := gTup K 2 (gCons (gName j) (gCons (gName k) gNil))) (tt := fun _ H Q => Q true H) (tk := tVar j) (tv := tMeth (CM K) "word" (sp_word K) [] E0 tm (tCons tf (tCons (tVar k) tNil))) (walk_tup (K := K) (a := a) (xs := xs)) (fun i => Sum.inr (l.getD i ("", 0)).1) (fun _ => true) (fun i v _ => v = .int (μ (ix dev (l.getD i ("", 0)).2))) (by omega) (fun i j hi hj e => names_inj nd i j (by omega) (by omega) e) (fun i v H H' _ p => p) hD (fun H' eH => st_of (eH _ _ hx)) (fun i H x H' y => y.1 ▸ Ex.refl H) (fun i x H H' hi eH hne y eH' R kk => ?_) (fun kvs H' eH hk ok => q Dl kvs H' (fresh_back e1 hD) (e1.trans eH) hk ok)
  · obtain ⟨rfl, hy⟩ := y
    obtain ⟨t, ht1, ht2⟩ := hN.2 i _ (gD i (by omega))
    rw [ht1] at hy
    cases hy
    have hp := hpl _ (List.mem_of_getElem? (gD i (by omega)))
    have e03 := (e.trans e1).trans eH'
    refine ⟨t, _, rfl, st_of (eH' _ _ ht2), rfl, _, _, rfl, _, _, rfl, rfl, kk _ H' (Ex.refl H') (hw _ _) et_yes fun _ => ⟨ev_var (hj _ _), fun H5 e5 Q5 q5 => ?_⟩⟩
    exact (ev_word (hM.keep e03) (hm _ _ _) (hf _ _ _) (ev_var (hk _ _)) (by omega) : Ev _ _ H' _) H5 e5 _ fun H6 e6 => q5 _ H6 e6 rfl⟩
end
section
variable {P : Program} {w : World} {K : PySem.W.Frag} {mg : Str → Option Value} {base : Heap}
def mayI (x : Int) : Option Int := if x = 0 then none else some (x - 1)
def sp_maybe (K : PySem.W.Frag) : Sp := fun vs H Q _ => ∃ x : Int, vs = [.int x] ∧ ∀ H', Ex H H' → Q (oI (mayI x)) H'
theorem ok_maybe (T : Txt K mg) : FnOk P w K mg base CX0 1 (f_maybe K) (fd_maybe K) ["word"] (sp_maybe K) := by
  refine T.fn_maybe.ok sc_maybe (fun vs H Q E h => ?_) (fun cdv A outer s H vs Q E hr h => ⟨_, PSs.nox (pss_one (ps_ret (pe_ifExp (pt_truth (pv 0) (by intro _; rfl)) (pe_op op_sub (pv 0) pe_int) pe_non))), ?_⟩)
  · obtain ⟨_, rfl, _⟩ := h
    rfl
  · obtain ⟨x, rfl, k⟩ := h
    refine s_ret (ev_if (b := decide (x ≠ 0)) (et_truI (ev_var rfl)) (fun hb => ev_is (ev_op (ev_var rfl) ev_c rv_I0) (by unfold mayI; rw [if_neg (of_decide_eq_true hb)]; rfl)) (fun hb => ev_is ev_c (by unfold mayI; rw [if_pos (Decidable.not_not.mp (of_decide_eq_false hb))]; rfl))) k
/-- how many entries stand in a table or a guard -/
def rowsN (μ : Mem) (f : Int) : Nat := ((List.range (if μ (ix 1 f) = 8 then 4 else 8)).filter fun (i : Nat) => decide (μ (ix f (eat μ f (i : Int) + 0)) ≠ 0)).length
def sp_rows_of (K : PySem.W.Frag) : Sp := fun vs H Q _ => ∃ (m wl : Addr) (μ : Mem) (f : Int), vs = [.ref m, .int f] ∧ MemAt K H m wl μ ∧ InF f ∧ ∀ p kvs H', H p = none → Ex H H' → H' p = some (.dK kvs) → kvs.length = rowsN μ f → Q (.ref p) H'
theorem ok_rows_of (T : Txt K mg) : FnOk P w K mg base CX0 5 (f_rows_of K) (fd_rows_of K) ["memory", "frame"] (sp_rows_of K) := by
  refine T.fn_rows_of.ok sc_rows_of (fun vs H Q E h => ?_) (fun cdv A outer s H vs Q E hr h => ?_)
  · obtain ⟨_, _, _, _, rfl, _⟩ := h
    rfl
  have hu := hu_of hr
  refine ⟨_, PSs.nox (pss_cons (ps_setDc (i := 2) (own := [("page", 3)]) (by rfl) sc_rows_of.nd rfl rfl (sw_trueD rfl rfl rfl (by decide +kernel)) (pi_range1 (by rfl) T.free_range (pa_cons (pe_call (ok_entries_of T) (hr.mono (by decide)) (by rfl) (T.glo_entries_of) (T.kp_entries_of) (T.bd_entries_of) .nil pass0 (pa_cons (pv 0) (pa_cons (pv 1) pa_nil))) pa_nil)) (blkOk_by (N := sc_rows_of_N) (sc := defScope s_rows_of) (own := [("page", 3)]) (by decide +kernel)) (fun _ _ _ _ _ => (pg_name (i := 3) sc_rows_of.nd rfl (Or.inl rfl))) (fun _ _ _ _ _ => pts_nil) (fun _ _ _ _ _ => (pv 3)) (fun _ _ _ _ _ => (pe_call (ok_entry T) (hr.mono (by decide)) (by rfl) (T.glo_entry) (T.kp_entry) (T.bd_entry) .nil pass0 (pa_cons (pv 0) (pa_cons (pv 1) (pa_cons (pv 3) pa_nil)))))) (pss_one (ps_ret (pe_lock (pe_dc (own := [("page", 3), ("told", 4)]) (by rfl) sc_rows_of.nd (pi_items (pv 2)) (blkOk_by (N := sc_rows_of_N) (sc := defScope s_rows_of) (own := [("page", 3), ("told", 4)]) (by decide +kernel)) (fun _ _ _ _ _ => (pg_tupK (K := K) (n := 2) (by rfl) (by rfl) (pgs_cons (pg_name (i := 3) sc_rows_of.nd rfl (Or.inl rfl)) (pgs_cons (pg_name (i := 4) sc_rows_of.nd rfl (Or.inl rfl)) pgs_nil)))) (fun _ _ _ _ _ => (pts_one (pt_truthK (K := K) (by rfl) (pe_ix (r := rIxT K) (by exact ix_tup) (pv 4) pe_int (fun _ _ => rfl)) (by intro _; rfl)))) (fun _ _ _ _ _ => (pv 3)) (fun _ _ _ _ _ => (pe_tup (pa_cons (pe_op op_sub (pe_ix (r := rIxT K) (by exact ix_tup) (pv 4) pe_int (fun _ _ => rfl)) pe_int) (pa_cons (pe_ix (r := rIxT K) (by exact ix_tup) (pv 4) pe_int (fun _ _ => rfl)) (pa_cons (pe_op op_sub (pe_ix (r := rIxT K) (by exact ix_tup) (pv 4) pe_int (fun _ _ => rfl)) pe_int) pa_nil)))))))))), ?_⟩
  obtain ⟨m, wl, μ, f, rfl, hM, hI, k⟩ := h
  obtain ⟨n, hn⟩ : ∃ n : Nat, n = if μ (ix 1 f) = 8 then 4 else 8 := ⟨_, rfl⟩
  have hn8 : n ≤ 8 := by rw [hn]; split <;> decide
  refine q_asgD (ed_R1 (n := (n : Int)) (fun i => Sum.inl (i : Int)) (fun _ => true) (fun D i v H => ∃ t, v = .ref t ∧ H t = some (.tup (ent3F μ f (i : Int))) ∧ t ≠ D) (ea_cons (ev_is (ev_pure (ea_cons (ev_var rfl) (ea_cons (ev_var rfl) ea_nil)) fun H1 e Q q => ⟨m, wl, μ, f, rfl, hM.keep e, hI, q⟩) (by rw [hn]; split <;> rfl)) ea_nil) (by omega) (fun i j e => by have := Sum.inl.inj e; omega) (fun D i v H H' x ⟨t, a, b, c⟩ => ⟨t, a, x _ _ b c, c⟩) (fun x => rfl) fun D i H1 e1 hne hi => ⟨et_yes, fun _ => ⟨ev_var rfl, fun H2 e2 Q2 q2 => ?_⟩⟩) fun d kvs H1 hd e1 hk1 ok => ?_
  · refine (ea_cons (ev_var rfl) (ea_cons (ev_var rfl) (ea_cons (ev_var rfl) ea_nil)) : EvA _ _ H1 _) H2 e2 _ fun H3 e3 => ⟨m, wl, μ, f, (i : Int), rfl, ((hM.keep e1).keep e2).keep e3, hI, by omega, by omega, fun q H4 hq e4 h4 => q2 _ H4 (e3.trans e4) ⟨q, rfl, h4, fun z => ?_⟩⟩
    obtain ⟨kv, eD⟩ := hne
    rw [z, (e2.trans e3) _ _ eD] at hq
    cases hq
  rw [Int.toNat_natCast] at ok
  have hkeys : ∀ i, i < n → ∃ v, kvs[i]? = some (Sum.inl (i : Int), v) ∧ ∃ t, v = .ref t ∧ H1 t = some (.tup (ent3F μ f (i : Int))) := fun i hi => by
    have hl : kvs.length = n := by rw [ok.len, List.filter_eq_self.mpr (fun _ _ => rfl), List.length_range]
    have hil : i < kvs.length := by omega
    have e1 : (kvs.map (·.1))[i]? = some (Sum.inl (i : Int)) := by
      rw [ok.1, List.filter_eq_self.mpr (fun _ _ => rfl), List.getElem?_map, List.getElem?_range hi]
      rfl
    rw [List.getElem?_map, List.getElem?_eq_getElem hil] at e1
    have e2 : (kvs[i]).1 = Sum.inl (i : Int) := Option.some.inj e1
    obtain ⟨j, j1, _, j3, t, t1, t2, _⟩ := ok.2 _ (List.getElem_mem hil)
    rw [e2] at j3
    have : i = j := by have := Sum.inl.inj j3; omega
    subst this
    exact ⟨(kvs[i]).2, by rw [List.getElem?_eq_getElem hil, ← e2], t, t1, t2⟩
  have hl : kvs.length = n := by rw [ok.len, List.filter_eq_self.mpr (fun _ _ => rfl), List.length_range]
  refine ⟨d, _, hk1, trivial, fun od => ?_⟩
  obtain ⟨HL, hHL⟩ : ∃ HL, HL = upd H1 d (.frz od (.dK kvs)) := ⟨_, rfl⟩
  have hLd : HL d = some (.frz od (.dK kvs)) := by rw [hHL, upd_same]
  have hLt : ∀ b xs, H1 b = some (.tup xs) → HL b = some (.tup xs) := fun b xs h => by rw [hHL, upd_ne (ne_of h hk1 (by intro z; cases z))]; exact h
  have hLe : ∀ b o, H1 b = some o → b ≠ d → HL b = some o := fun b o h n => by rw [hHL, upd_ne n]; exact h
  have hLn : ∀ b, HL b = none → H1 b = none := fun b h => by
    by_cases e : b = d
    · rw [e, hLd] at h; cases h
    · rw [hHL, upd_ne e] at h; exact h
  rw [← hHL]
  refine ⟨_, rfl, d, od, kvs, rfl, hLd, fun D hD => ?_⟩
  refine dc_run (vs := [3, 4]) (g := gTup K 2 (gCons (gName 3) (gCons (gName 4) gNil))) (tt := tTru K (tOp (rIxT K) (tVar 4) (tC (.int 0)))) (tk := tVar 3) (tv := tTup (tCons (tOp (rI0 fun i j => V.int (i - j)) (tOp (rIxT K) (tVar 4) (tC (V.int 0))) (tC (V.int 1))) (tCons (tOp (rIxT K) (tVar 4) (tC (V.int 1))) (tCons (tOp (rI0 fun i j => V.int (i - j)) (tOp (rIxT K) (tVar 4) (tC (V.int 2))) (tC (V.int 1))) tNil)))) (walk_items (d := d) (o := od) (kvs := kvs)) (fun i => Sum.inl (i : Int)) (fun i => decide (μ (ix f (eat μ f (i : Int) + 0)) ≠ 0)) (fun _ _ _ => True) (by omega) (fun i j _ _ e => by have := Sum.inl.inj e; omega) (fun _ _ _ _ _ _ => trivial) hD (fun H' eH => eH _ _ hLd) (fun i H x H' ⟨T', x', y', _, hT, e, _⟩ => by rw [e]; exact Ex.new hT) (fun i x H' H'' hi eH hne y eH' R kk => ?_) (fun kvs' H' eH hk ok' => ?_)
  · obtain ⟨T', x', y', rfl, hT, rfl, ex, ey⟩ := y
    obtain ⟨v, hv, t, rfl, ht⟩ := hkeys i (by omega)
    simp only [hv, Option.map_some, Option.some.injEq] at ex ey
    subst ex ey
    refine ⟨T', _, rfl, st_of upd_same, rfl, _, _, rfl, _, _, rfl, rfl, kk _ _ (Ex.refl _) rfl (et_truI (n := μ (ix f (eat μ f (i : Int) + 0))) (ev_op (ev_var rfl) ev_c (Evl.rv_ixT (st_of (eH' _ _ (hLt _ _ ht))) (atI_nat (j := 0) rfl)))) fun _ => ⟨ev_var rfl, fun H5 e5 Q5 q5 => ?_⟩⟩
    have ht5 := e5 _ _ (eH' _ _ (hLt _ _ ht))
    exact (eu_tup (ea_cons (ev_op (ev_op (ev_var rfl) ev_c (Evl.rv_ixT (st_of ht5) (atI_nat (j := 0) rfl))) ev_c rv_I0) (ea_cons (ev_op (ev_var rfl) ev_c (Evl.rv_ixT (st_of ht5) (atI_nat (j := 1) rfl))) (ea_cons (ev_op (ev_op (ev_var rfl) ev_c (Evl.rv_ixT (st_of ht5) (atI_nat (j := 2) rfl))) ev_c rv_I0) ea_nil))) (by show 3 ≤ 100000; decide) : EvU _ _ H5 _) H5 (Ex.refl H5) _ fun p H6 hp e6 h6 => q5 _ H6 e6 trivial
  · refine ⟨eH _ _ hLd, ?_⟩
    have nDd : D ≠ d := fun z => by rw [z, hLd] at hD; cases hD
    refine k D kvs' _ (fresh_back e1 (hLn _ hD)) (fun b o h => ?_) (by rw [upd_ne nDd]; exact hk) (by rw [ok'.len]; unfold rowsN; rw [hl, hn])
    by_cases e : b = d
    · rw [e] at h
      rw [h] at hd
      cases hd
    · rw [upd_ne e]
      exact eH _ _ (hLe _ _ (e1 _ _ h) e)
/-- what a device has -/
def devL : List (Str × Int) := [("status", 0), ("order", 1), ("sector", 2), ("page", 3), ("left", 4)]
structure DevD (H : Hp) (d g : Addr) (ds gs : List (Key × V)) (μ : Mem) (f : Int) : Prop where
  at_ : H d = some (.dK ds)
  st : valV ds (Sum.inr "status") = some (.int (μ (ix f 0)))
  gu : valV ds (Sum.inr "guard") = some (.ref g)
  ga : H g = some (.dK gs)
  gl : gs.length = rowsN μ f
theorem DevD.keep {H H' : Hp} {D d g : Addr} {ds gs : List (Key × V)} {μ : Mem} {f : Int} (h : DevD H d g ds gs μ f) (x : ExB D H H') (n1 : d ≠ D) (n2 : g ≠ D) : DevD H' d g ds gs μ f := ⟨x _ _ h.at_ n1, h.st, h.gu, x _ _ h.ga n2, h.gl⟩
def sp_device_of (K : PySem.W.Frag) : Sp := fun vs H Q _ => ∃ (m wl : Addr) (μ : Mem) (f : Int), vs = [.ref m, .int f] ∧ MemAt K H m wl μ ∧ InF f ∧ ∀ p g ds gs H', H p = none → H g = none → Ex H H' → DevD H' p g ds gs μ f → Q (.ref p) H'
theorem ok_device_of (T : Txt K mg) : FnOk P w K mg base CX0 6 (f_device_of K) (fd_device_of K) ["memory", "device"] (sp_device_of K) := by
  refine T.fn_device_of.ok sc_device_of (fun vs H Q E h => ?_) (fun cdv A outer s H vs Q E hr h => ?_)
  · obtain ⟨_, _, _, _, rfl, _⟩ := h
    rfl
  have hu := hu_of hr
  refine ⟨_, PSs.nox (pss_cons (ps_set (i := 2) sc_device_of.nd rfl (Or.inl rfl) (pe_tup (pa_cons (pe_tup (pa_cons pe_str (pa_cons (T.pg_D_STATUS) pa_nil))) (pa_cons (pe_tup (pa_cons pe_str (pa_cons (T.pg_D_ORDER) pa_nil))) (pa_cons (pe_tup (pa_cons pe_str (pa_cons (T.pg_D_SECTOR) pa_nil))) (pa_cons (pe_tup (pa_cons pe_str (pa_cons (T.pg_D_PAGE) pa_nil))) (pa_cons (pe_tup (pa_cons pe_str (pa_cons (T.pg_D_LEFT) pa_nil))) pa_nil))))))) (pss_cons (ps_setDc (i := 3) (own := [("name", 4), ("place", 5)]) (by rfl) sc_device_of.nd rfl rfl (sw_trueD rfl rfl rfl (by decide +kernel)) (pi_tup (pv 2)) (blkOk_by (N := sc_device_of_N) (sc := defScope s_device_of) (own := [("name", 4), ("place", 5)]) (by decide +kernel)) (fun _ _ _ _ _ => (pg_tupK (K := K) (n := 2) (by rfl) (by rfl) (pgs_cons (pg_name (i := 4) sc_device_of.nd rfl (Or.inl rfl)) (pgs_cons (pg_name (i := 5) sc_device_of.nd rfl (Or.inl rfl)) pgs_nil)))) (fun _ _ _ _ _ => pts_nil) (fun _ _ _ _ _ => (pv 4)) (fun _ _ _ _ _ => (pe_meth (pv 0) (T.cl_Memory) (T.mt_Memory_word) (ok_Memory_word T) (hr.mono (by decide)) (T.bd_Memory_word) .nil pass0 (pa_cons (pv 1) (pa_cons (pv 5) pa_nil))))) (pss_cons (ps_dput hu (pv 3) pe_str (pe_call (ok_maybe T) (hr.mono (by decide)) (by rfl) (T.glo_maybe) (T.kp_maybe) (T.bd_maybe) .nil pass0 (pa_cons (pe_meth (pv 0) (T.cl_Memory) (T.mt_Memory_word) (ok_Memory_word T) (hr.mono (by decide)) (T.bd_Memory_word) .nil pass0 (pa_cons (pv 1) (pa_cons (T.pg_D_LINE) pa_nil))) pa_nil)) rfl) (pss_cons (ps_dput hu (pv 3) pe_str (pe_call (ok_rows_of T) (hr.mono (by decide)) (by rfl) (T.glo_rows_of) (T.kp_rows_of) (T.bd_rows_of) .nil pass0 (pa_cons (pv 0) (pa_cons (pv 1) pa_nil))) rfl) (pss_one (ps_ret (pv 3))))))), ?_⟩
  obtain ⟨m, wl, μ, f, rfl, hM, hI, k⟩ := h
  refine q_asgPs (Ps := prSts devL) prSts_mo (by decide) (eps_cons PrSt.mo ep_st (eps_cons PrSt.mo ep_st (eps_cons PrSt.mo ep_st (eps_cons PrSt.mo ep_st (eps_cons PrSt.mo ep_st eps_nil))))) fun pl xs H1 e1 hp1 al => ?_
  have hM1 := hM.keep e1
  refine q_asgD (ed_names (l := devL) (esn_ev (ev_var rfl) hp1 (NamesT.of al)) (by decide) (by decide +kernel) (by decide) hI (by decide +kernel) hM1 (fun x y => rfl) (fun x y => rfl) (fun x y => rfl) (fun x y H1 => ev_var rfl) (fun x y H1 => ev_var rfl)) fun d kvs H2 hd e2 hk2 ok => ?_
  have hM2 := hM1.keep e2
  have e12 := e1.trans e2
  have hl : kvs.length ≤ 5 := ok.len_le
  have hst : valV kvs (Sum.inr "status") = some (.int (μ (ix f 0))) := by
    obtain ⟨v, hv, rfl⟩ := ok.at (i := 0) (names_inj (by decide +kernel)) (by decide) rfl
    exact hv
  refine q_dputV (k := Sum.inr "line") (ev_pure (ea_cons (ev_word hM2 (ev_var rfl) (ev_var rfl) ev_c (by omega)) ea_nil) fun H1 e Q q => ⟨_, rfl, q⟩) (ev_var rfl) ev_c hk2 (by omega) fun H3 e3 => ?_
  have e13 : Ex H H3 := e12.trans e3
  have hdH : H d = none := fresh_back e1 hd
  have hM4 : Ex H (upd H3 d (.dK (putK kvs (Sum.inr "line") (oI (mayI (μ (ix f 5))))))) := Ex.mut e13 hdH
  generalize hk4 : putK kvs (Sum.inr "line") (oI (mayI (μ (ix f 5)))) = kvs4 at hM4 ⊢
  have hl4 : kvs4.length ≤ 6 := by rw [← hk4]; have := length_putK kvs (Sum.inr "line") (oI (mayI (μ (ix f 5)))); omega
  have hst4 : valV kvs4 (Sum.inr "status") = some (.int (μ (ix f 0))) := by rw [← hk4, valV_put, if_neg (by decide)]; exact hst
  generalize hH4 : upd H3 d (.dK kvs4) = H4 at hM4 ⊢
  have hd4 : H4 d = some (.dK kvs4) := by rw [← hH4, upd_same]
  refine ⟨_, rfl, _, rfl, m, wl, μ, f, rfl, hM.keep hM4, hI, fun g gs H5 hg e5 hg5 hgl => ⟨_, rfl, d, _, rfl, DPut.k (k := Sum.inr "guard") (e5 _ _ hd4) (sz_lt (by omega)), ?_⟩⟩
  have ndg : g ≠ d := fun z => by rw [z, hd4] at hg; cases hg
  have e6 : Ex H (upd H5 d (.dK (putK kvs4 (Sum.inr "guard") (.ref g)))) := Ex.mut (hM4.trans e5) hdH
  have hgH : H g = none := fresh_back hM4 hg
  refine s_ret (ev_var rfl) fun H7 e7 => k d g _ gs H7 hdH hgH (e6.trans e7) ⟨e7 _ _ upd_same, by rw [valV_put, if_neg (by decide)]; exact hst4, by rw [valV_put, if_pos rfl], e7 _ _ (by rw [upd_ne ndg]; exact hg5), hgl⟩
/-- what a thread has: nobody reads it here -/
def thL1 : List (Str × Int) := [("pc", 1), ("priority", 12), ("budget", 13), ("left", 14), ("badge", 17)]
def thL2 : List (Str × Int) := [("code", 19), ("address", 20), ("domain", 22), ("rights", 23), ("lent", 24)]
def thL3 : List (Str × Int) := [("caps", 10), ("table", 11), ("on", 16), ("handler", 18), ("reply", 21)]
def sp_thread_of (K : PySem.W.Frag) : Sp := fun vs H Q _ => ∃ (m wl : Addr) (μ : Mem) (f : Int), vs = [.ref m, .int f] ∧ MemAt K H m wl μ ∧ InF f ∧ ∀ v H', Ex H H' → Q v H'
theorem ok_thread_of (T : Txt K mg) : FnOk P w K mg base CX0 6 (f_thread_of K) (fd_thread_of K) ["memory", "thread"] (sp_thread_of K) := by
  refine T.fn_thread_of.ok sc_thread_of (fun vs H Q E h => ?_) (fun cdv A outer s H vs Q E hr h => ?_)
  · obtain ⟨_, _, _, _, rfl, _⟩ := h
    rfl
  have hu := hu_of hr
  refine ⟨_, PSs.nox (pss_cons (ps_set (i := 2) sc_thread_of.nd rfl (Or.inl rfl) (pe_tup (pa_cons (pe_tup (pa_cons pe_str (pa_cons (T.pg_T_PC) pa_nil))) (pa_cons (pe_tup (pa_cons pe_str (pa_cons (T.pg_T_PRIORITY) pa_nil))) (pa_cons (pe_tup (pa_cons pe_str (pa_cons (T.pg_T_BUDGET) pa_nil))) (pa_cons (pe_tup (pa_cons pe_str (pa_cons (T.pg_T_LEFT) pa_nil))) (pa_cons (pe_tup (pa_cons pe_str (pa_cons (T.pg_T_BADGE) pa_nil))) pa_nil))))))) (pss_cons (ps_aug (i := 2) sc_thread_of.nd rfl (.inl rfl) (pe_tup (pa_cons (pe_tup (pa_cons pe_str (pa_cons (T.pg_T_CODE) pa_nil))) (pa_cons (pe_tup (pa_cons pe_str (pa_cons (T.pg_T_ADDRESS) pa_nil))) (pa_cons (pe_tup (pa_cons pe_str (pa_cons (T.pg_T_DOMAIN) pa_nil))) (pa_cons (pe_tup (pa_cons pe_str (pa_cons (T.pg_T_RIGHTS) pa_nil))) (pa_cons (pe_tup (pa_cons pe_str (pa_cons (T.pg_T_LENT) pa_nil))) pa_nil)))))) ip_catA) (pss_cons (ps_setDc (i := 3) (own := [("name", 4), ("place", 5)]) (by rfl) sc_thread_of.nd rfl rfl (sw_trueD rfl rfl rfl (by decide +kernel)) (pi_tup (pe_op op_catA (pv 2) (pe_tup (pa_cons (pe_tup (pa_cons pe_str (pa_cons (T.pg_T_STATE) pa_nil))) pa_nil)))) (blkOk_by (N := sc_thread_of_N) (sc := defScope s_thread_of) (own := [("name", 4), ("place", 5)]) (by decide +kernel)) (fun _ _ _ _ _ => (pg_tupK (K := K) (n := 2) (by rfl) (by rfl) (pgs_cons (pg_name (i := 4) sc_thread_of.nd rfl (Or.inl rfl)) (pgs_cons (pg_name (i := 5) sc_thread_of.nd rfl (Or.inl rfl)) pgs_nil)))) (fun _ _ _ _ _ => pts_nil) (fun _ _ _ _ _ => (pv 4)) (fun _ _ _ _ _ => (pe_meth (pv 0) (T.cl_Memory) (T.mt_Memory_word) (ok_Memory_word T) (hr.mono (by decide)) (T.bd_Memory_word) .nil pass0 (pa_cons (pv 1) (pa_cons (pv 5) pa_nil))))) (pss_cons (ps_for PassesOwn.never rfl (pi_tup (pe_tup (pa_cons (pe_tup (pa_cons pe_str (pa_cons (T.pg_T_CAPS) pa_nil))) (pa_cons (pe_tup (pa_cons pe_str (pa_cons (T.pg_T_TABLE) pa_nil))) (pa_cons (pe_tup (pa_cons pe_str (pa_cons (T.pg_T_ON) pa_nil))) (pa_cons (pe_tup (pa_cons pe_str (pa_cons (T.pg_T_HANDLER) pa_nil))) (pa_cons (pe_tup (pa_cons pe_str (pa_cons (T.pg_T_REPLY) pa_nil))) pa_nil))))))) (pg_tup (by rfl) (pgs_cons (pg_name (i := 4) sc_thread_of.nd rfl (Or.inl rfl)) (pgs_cons (pg_name (i := 5) sc_thread_of.nd rfl (Or.inl rfl)) pgs_nil))) (pss_one (ps_dput hu (pv 3) (pv 4) (pe_call (ok_maybe T) (hr.mono (by decide)) (by rfl) (T.glo_maybe) (T.kp_maybe) (T.bd_maybe) .nil pass0 (pa_cons (pe_meth (pv 0) (T.cl_Memory) (T.mt_Memory_word) (ok_Memory_word T) (hr.mono (by decide)) (T.bd_Memory_word) .nil pass0 (pa_cons (pv 1) (pa_cons (pv 5) pa_nil))) pa_nil)) rfl))) (pss_cons (ps_dput hu (pv 3) pe_str (pe_callTy call_tuple_of (by rfl) T.free_tuple (by decide +kernel) (pa_cons (pe_lc (own := [("number", 6)]) (by rfl) sc_thread_of.nd (pi_range1 (by rfl) T.free_range (pa_cons pe_int pa_nil)) (blkOk_by (N := sc_thread_of_N) (sc := defScope s_thread_of) (own := [("number", 6)]) (by decide +kernel)) (fun _ _ _ _ _ => (pg_name (i := 6) sc_thread_of.nd rfl (Or.inl rfl))) (fun _ _ _ _ _ => pts_nil) (fun _ _ _ _ _ => (pe_meth (pv 0) (T.cl_Memory) (T.mt_Memory_word) (ok_Memory_word T) (hr.mono (by decide)) (T.bd_Memory_word) .nil pass0 (pa_cons (pv 1) (pa_cons (pe_op op_add (by exact T.pg_T_REGISTERS) (pv 6)) pa_nil))))) pa_nil)) rfl) (pss_one (ps_ret (pv 3)))))))), ?_⟩
  obtain ⟨m, wl, μ, f, rfl, hM, hI, k⟩ := h
  refine q_asgPs (Ps := prSts thL1) prSts_mo (by decide) (eps_cons PrSt.mo ep_st (eps_cons PrSt.mo ep_st (eps_cons PrSt.mo ep_st (eps_cons PrSt.mo ep_st (eps_cons PrSt.mo ep_st eps_nil))))) fun pl xs H1 e1 hp1 al => ?_
  have n1 := NamesT.of (l := thL1) al
  have hx1 : xs.length = 5 := n1.1
  refine ⟨.ref pl, rfl, ?_⟩
  refine (eps_cons PrSt.mo ep_st (eps_cons PrSt.mo ep_st (eps_cons PrSt.mo ep_st (eps_cons PrSt.mo ep_st (eps_cons PrSt.mo ep_st eps_nil)))) : EvPs _ _ H1 (prSts thL2)) H1 (Ex.refl H1) _ fun ys H2 e2 al2 => ⟨sz_of (by rw [al2.len]; decide), fun q hq => ?_⟩
  have n2 := NamesT.of (l := thL2) al2
  have hx2 : ys.length = 5 := n2.1
  have e3 : Ex H2 (upd H2 q (.tup ys)) := Ex.new hq
  refine ⟨pl, q, xs, ys, rfl, rfl, st_of (e3 _ _ (e2 _ _ hp1)), st_of upd_same, fun z => (by rw [z] at hx1; cases hx1), fun z => (by rw [z] at hx2; cases hx2), by rw [hx1, hx2]; exact sz_of (by decide), fun r hr => ?_⟩
  have e4 : Ex (upd H2 q (.tup ys)) (upd (upd H2 q (.tup ys)) r (.tup (xs ++ ys))) := Ex.new hr
  have hr4 : (upd (upd H2 q (.tup ys)) r (.tup (xs ++ ys))) r = some (.tup (xs ++ ys)) := upd_same
  have n12 : NamesT (upd (upd H2 q (.tup ys)) r (.tup (xs ++ ys))) (xs ++ ys) (thL1 ++ thL2) := (n1.keep (TK.ex (e2.trans (e3.trans e4)))).app (n2.keep (TK.ex (e3.trans e4)))
  have e04 := ((e1.trans e2).trans e3).trans e4
  clear hr
  generalize upd (upd H2 q (.tup ys)) r (.tup (xs ++ ys)) = H4 at e4 hr4 n12 e04 ⊢
  have hM4 := hM.keep e04
  refine q_asgD (ed_names (j := 4) (k := 5) (l := (thL1 ++ thL2) ++ [(("state" : Str), (0 : Int))]) (esn_cat (esn_ev (ev_var rfl) hr4 n12) (fun H5 e5 => esn_ps (by decide) (eps_cons PrSt.mo ep_st eps_nil)) (by decide)) (by decide) (by decide +kernel) (by decide) hI (by decide +kernel) hM4 (fun x y => rfl) (fun x y => rfl) (fun x y => rfl) (fun x y H1 => ev_var rfl) (fun x y H1 => ev_var rfl)) fun d kvs H5 hd e5 hk5 ok => ?_
  have hl5 : kvs.length ≤ 11 := ok.len_le
  have hdH : H d = none := fresh_back e04 hd
  have e05 := e04.trans e5
  refine q_forPU (K := K) (Ps := prSts thL3) prSts_mo (by decide) (eps_cons PrSt.mo ep_st (eps_cons PrSt.mo ep_st (eps_cons PrSt.mo ep_st (eps_cons PrSt.mo ep_st (eps_cons PrSt.mo ep_st eps_nil))))) fun p vs H6 e6 hp hal => ?_
  have n3 := NamesT.of (l := thL3) hal
  have hv5 : vs.length = 5 := n3.1
  have hpd : p ≠ d := ne_of hp (e6 _ _ hk5) (by intro z; cases z)
  refine ⟨fun i σ' H' => ∃ x4 x5 kvs', σ' = [some (.ref m), some (.int f), some (.ref r), some (.ref d), x4, x5, none] ∧ Ex H H' ∧ H' d = some (.dK kvs') ∧ kvs'.length ≤ 11 + i ∧ TK H6 H', ⟨none, none, kvs, rfl, e05.trans e6, e6 _ _ hk5, by omega, TK.ex (Ex.refl _)⟩, fun i σ' H' _ ⟨_, _, _, _, _, _, _, tk⟩ => tk _ _ hp, ?_, ?_⟩
  · rintro i x σ' H' hx ⟨x4, x5, kvs', rfl, eH, hk', hl', tk⟩
    have hi : i < 5 := by have := (List.getElem?_eq_some_iff.mp hx).1; omega
    obtain ⟨t, ht1, ht2⟩ := n3.2 i _ (show thL3[i]? = some (thL3.getD i ("", 0)) from by rw [List.getD_eq_getElem?_getD, List.getElem?_eq_getElem (by exact hi)]; rfl)
    rw [ht1] at hx
    cases hx
    refine ⟨t, _, rfl, st_of (tk _ _ ht2), rfl, _, _, rfl, _, _, rfl, rfl, ?_⟩
    have hb : 0 ≤ (thL3.getD i ("", 0)).2 ∧ (thL3.getD i ("", 0)).2 < 64 := by
      have : ∀ i < 5, 0 ≤ (thL3.getD i ("", 0)).2 ∧ (thL3.getD i ("", 0)).2 < 64 := by decide +kernel
      exact this i hi
    refine s_dputV (k := Sum.inr (thL3.getD i ("", 0)).1) (ev_pure (ea_cons (ev_word (hM.keep eH) (ev_var rfl) (ev_var rfl) (ev_var rfl) (by omega)) ea_nil) fun H1 e Q q => ⟨_, rfl, q⟩) (ev_var rfl) (ev_var rfl) hk' (by omega) fun H7 e7 => ?_
    refine ⟨_, _, _, rfl, Ex.mut (eH.trans e7) hdH, upd_same, ?_, fun b xs h => ?_⟩
    · have := length_putK kvs' (Sum.inr (thL3.getD i ("", 0)).1) (oI (mayI (μ (ix f (thL3.getD i ("", 0)).2))))
      omega
    · have := e7 _ _ (tk _ _ h)
      rw [upd_ne (ne_of this (e7 _ _ hk') (by intro z; cases z))]
      exact this
  rintro σ' H7 ⟨x4, x5, kvs', rfl, eH, hk', hl', tk⟩
  have hM7 := hM.keep eH
  refine q_dputP (P := fun _ _ => True) (k := Sum.inr "registers") (fun H8 e8 Q q => ?_) (fun H1 e => ev_var rfl) (fun H1 e => ev_c) hk' (by omega) (fun _ _ _ _ _ => trivial) fun v H8 e8 _ => ?_
  · exact (eu_tupNL (K := K) (el_lcR1 (n := 8) (fun _ => true) (fun i => .int (μ (ix f (2 + (i : Int))))) (ea_cons ev_c ea_nil) (by decide) (fun x => rfl) (fun i H1 e1 hi => et_yes) (fun i H1 e1 hi _ => ev_word (hM7.keep e1) (ev_var rfl) (ev_var rfl) (ev_op ev_c (ev_var rfl) rv_I0) (by omega))) : EvU _ _ H7 _) H8 e8 _ fun p H9 hp e9 h9 => q _ H9 e9 trivial
  exact s_ret (ev_var rfl) fun H9 e9 => k _ H9 ((Ex.mut (eH.trans e8) hdH).trans e9)
end
end KQ

namespace KQ
open KA
open PySem PySem.Spec PyProof.Rows L2 Evl TL
theorem ExB.trans {D : Addr} {H H1 H2 : Hp} (a : ExB D H H1) (b : ExB D H1 H2) : ExB D H H2 := fun x o h n => b x o (a x o h n) n
theorem ExB.put {D : Addr} {H : Hp} {o : HO} : ExB D H (upd H D o) := fun b u h n => by rw [upd_ne n]; exact h
section
variable {σ : L2.St} {H H0 : Hp} {K : PySem.W.Frag} {D : Ends} {te tk tv ty td : TE} {ta : TA} {tt : TT} {tz : TS} {vs : List Nat} {st : Addr} {kvs : List (Key × V)} {k : Key} {n : Nat}
theorem ev_dg {a : Addr} {v : V} (hd : Ev td σ H (.ref a)) (hy : Ev ty σ H (kV k)) (ha : H a = some (.dK kvs)) (hv : valV kvs k = some v) : Ev (tDGet td ty) σ H v := fun H1 e Q q => hd H1 e _ fun H2 e2 => hy H2 (e.trans e2) _ fun H3 e3 => ⟨a, v, rfl, hv ▸ DGet.k (k := k) (((e.trans e2).trans e3) _ _ ha), q H3 (e2.trans e3)⟩
/-- what a put into the state does -/
structure Put (H0 H H1 : Hp) (st : Addr) (kvs kvs1 : List (Key × V)) (k : Key) (v : V) (n : Nat) : Prop where
  ex : Ex H0 H1
  eb : ExB st H H1
  at_ : H1 st = some (.dK kvs1)
  len : kvs1.length ≤ n + 1
  val : ∀ j, valV kvs1 j = if j = k then some v else valV kvs j
theorem put_of {v : V} {Hv H1 : Hp} (eN : Ex H0 H) (hs : H0 st = none) (h : H st = some (.dK kvs)) (hl : kvs.length ≤ n) (e : Ex H Hv) (e1 : Ex Hv H1) : Put H0 Hv (upd H1 st (.dK (putK kvs k v))) st kvs (putK kvs k v) k v n :=
  ⟨Ex.mut ((eN.trans e).trans e1) hs, (ExB.of e1).trans ExB.put, upd_same, by have := length_putK kvs k v; omega, fun j => valV_put kvs k j v⟩
theorem q_stV {v : V} (eN : Ex H0 H) (hs : H0 st = none) (h : H st = some (.dK kvs)) (hl : kvs.length ≤ n) (hn : n ≤ 900) (hv : Ev tv σ H v) (hd : Ev td σ H (.ref st)) (hy : Ev ty σ H (kV k)) (kk : ∀ H1 kvs1, Put H0 H H1 st kvs kvs1 k v n → tz D σ H1) : tSeq (sDPut td ty tv) tz D σ H :=
  hv H (Ex.refl H) _ fun H1 e1 => hd H1 e1 _ fun H2 e2 => hy H2 (e1.trans e2) _ fun H3 e3 => ⟨st, _, rfl, DPut.k (((e1.trans e2).trans e3) _ _ h) (sz_lt (by omega)), kk _ _ (put_of eN hs h hl (Ex.refl H) ((e1.trans e2).trans e3))⟩
theorem q_stP {P : V → Hp → Prop} (eN : Ex H0 H) (hs : H0 st = none) (h : H st = some (.dK kvs)) (hl : kvs.length ≤ n) (hn : n ≤ 900) (hv : EvP tv σ H P) (hd : ∀ H1, Ex H H1 → Ev td σ H1 (.ref st)) (hy : ∀ H1, Ex H H1 → Ev ty σ H1 (kV k)) (kk : ∀ v Hv H1 kvs1, Ex H Hv → P v Hv → Put H0 Hv H1 st kvs kvs1 k v n → tz D σ H1) : tSeq (sDPut td ty tv) tz D σ H :=
  hv H (Ex.refl H) _ fun v Hv e1 p => hd Hv e1 Hv (Ex.refl Hv) _ fun H2 e2 => hy Hv e1 H2 e2 _ fun H3 e3 => ⟨st, _, rfl, DPut.k (((e1.trans e2).trans e3) _ _ h) (sz_lt (by omega)), kk v Hv _ _ e1 p (put_of eN hs h hl e1 (e2.trans e3))⟩
/-- state[k] = {..} -/
theorem q_stD {Pk : Addr → List (Key × V) → Hp → Prop} (eN : Ex H0 H) (hs : H0 st = none) (h : H st = some (.dK kvs)) (hl : kvs.length ≤ n) (hn : n ≤ 900) (hv : EvD tv σ H Pk) (hd : ∀ H1, Ex H H1 → Ev td σ H1 (.ref st)) (hy : ∀ H1, Ex H H1 → Ev ty σ H1 (kV k)) (kk : ∀ p kv Hv H1 kvs1, H p = none → Ex H Hv → Hv p = some (.dK kv) → Pk p kv Hv → Put H0 Hv H1 st kvs kvs1 k (.ref p) n → tz D σ H1) : tSeq (sDPut td ty tv) tz D σ H :=
  hv H (Ex.refl H) _ fun p kv Hv hp e1 hkv pk => hd Hv e1 Hv (Ex.refl Hv) _ fun H2 e2 => hy Hv e1 H2 e2 _ fun H3 e3 => ⟨st, _, rfl, DPut.k (((e1.trans e2).trans e3) _ _ h) (sz_lt (by omega)), kk p kv Hv _ _ hp e1 hkv pk (put_of eN hs h hl e1 (e2.trans e3))⟩
theorem q_two {k1 k2 : Key} (hσ : σ[1]? = some (some (.ref st))) (eN : Ex H0 H) (hs : H0 st = none) (h : H st = some (.dK kvs)) (hl : kvs.length ≤ n) (hn : n ≤ 900) (hk : k1 ≠ k2) (kk : ∀ c p H1 kvs1, H c = none → H p = none → c ≠ p → Ex H0 H1 → H1 st = some (.dK kvs1) → kvs1.length ≤ n + 2 → H1 c = some (.dK []) → H1 p = some (.dK []) → valV kvs1 k1 = some (.ref c) → valV kvs1 k2 = some (.ref p) → tz D σ H1) :
    tSeq (tAsg (tTup (tCons tDNewK (tCons tDNewK tNil))) (gTup K 2 (gCons (gSub (tVar 1) (tC (kV k1)) rSetD) (gCons (gSub (tVar 1) (tC (kV k2)) rSetD) gNil)))) tz D σ H := fun c hc p hp => ⟨sz_of (by show 2 ≤ 100000; decide), fun q hq => by
  have e1 : Ex H (upd H c (.dK [])) := Ex.new hc
  have e2 : Ex (upd H c (.dK [])) (upd (upd H c (.dK [])) p (.dK [])) := Ex.new hp
  have e3 : Ex (upd (upd H c (.dK [])) p (.dK [])) (upd (upd (upd H c (.dK [])) p (.dK [])) q (.tup [.ref c, .ref p])) := Ex.new hq
  have hpH : H p = none := fresh_back e1 hp
  have ncp : c ≠ p := fun z => by rw [← z, upd_same] at hp; cases hp
  have hc3 : (upd (upd (upd H c (.dK [])) p (.dK [])) q (.tup [.ref c, .ref p])) c = some (.dK []) := e3 _ _ (e2 _ _ upd_same)
  have hp3 : (upd (upd (upd H c (.dK [])) p (.dK [])) q (.tup [.ref c, .ref p])) p = some (.dK []) := e3 _ _ upd_same
  have hq3 : (upd (upd (upd H c (.dK [])) p (.dK [])) q (.tup [.ref c, .ref p])) q = some (.tup [.ref c, .ref p]) := upd_same
  have e03 := (e1.trans e2).trans e3
  generalize upd (upd (upd H c (.dK [])) p (.dK [])) q (.tup [.ref c, .ref p]) = H3 at hc3 hp3 hq3 e03 ⊢
  have hs3 := e03 _ _ h
  have ns : ∀ {a : Addr}, H a = none → a ≠ st := fun ha z => by rw [z, h] at ha; cases ha
  refine ⟨q, _, rfl, st_of hq3, rfl, _, _, rfl, .ref st, hσ, st, _, rfl, DPut.k hs3 (sz_lt (by omega)), _, _, rfl, .ref st, hσ, st, _, rfl, DPut.k upd_same (sz_lt (by have := length_putK kvs k1 (.ref c); omega)), rfl, ?_⟩
  have e4 : Ex H0 (upd H3 st (.dK (putK kvs k1 (.ref c)))) := Ex.mut (eN.trans e03) hs
  refine kk c p _ _ hc hpH ncp (Ex.mut e4 hs) upd_same ?_ ?_ ?_ ?_ ?_
  · have := length_putK kvs k1 (.ref c)
    have := length_putK (putK kvs k1 (.ref c)) k2 (.ref p)
    omega
  · rw [upd_ne (ns hc), upd_ne (ns hc)]; exact hc3
  · rw [upd_ne (ns hpH), upd_ne (ns hpH)]; exact hp3
  · rw [valV_put, if_neg hk, valV_put, if_pos rfl]
  · rw [valV_put, if_pos rfl]⟩
theorem ed_new : EvD tDNewK σ H (fun _ kv _ => kv = []) := fun H1 e Q q p hp => q p [] _ hp (Ex.new hp) upd_same rfl
theorem q_disp2 {t1 t2 : TE} {k1 k2 : Key} {v1 v2 : V} {i : Nat} (h1 : Ev t1 σ H v1) (h2 : Ev t2 σ H v2) (kk : ∀ p kvs H1, H p = none → Ex H H1 → H1 p = some (.dK kvs) → kvs.length ≤ 2 → tz D (σ.set i (some (.ref p))) H1) : tSeq (tAsg (tDisp [(tC (kV k1), t1), (tC (kV k2), t2)]) (gName i)) tz D σ H := fun p hp =>
  have e0 : Ex H (upd H p (.dK [])) := Ex.new hp
  h1 _ e0 _ fun H1 e1 => h2 _ (e0.trans e1) _ fun H2 e2 => ⟨(e1.trans e2) _ _ upd_same, [(k1, v1), (k2, v2)], rfl, by show 2 ≤ 15; decide, kk p _ _ hp (Ex.mut ((e0.trans e1).trans e2) hp) upd_same (length_mergeK [(k1, v1), (k2, v2)] [])⟩
def EvLA (te : TE) (σ : L2.St) (H : Hp) : Prop := ∀ H1, Ex H H1 → ∀ Q : VK, (∀ p ys H2, H1 p = none → Ex H1 H2 → H2 p = some (.lst ys) → ys.length ≤ 1000 → Q (.ref p) H2) → te σ H1 Q
theorem ep_tupA (h : EvLA te σ H) : EvP (tCB (rTupK K) (tCons te tNil)) σ H (fun _ _ => True) := fun H1 e Q q => h H1 e _ fun p ys H2 hp e2 h2 hl => ⟨p, ys, rfl, .inl ⟨sq_of h2, fun l hl => q _ _ (e2.trans (Ex.new hl)) trivial⟩⟩
/-- a list of whatever values -/
theorem ep_lcAny {a : Addr} {xs : List V} {tl : TE} {j : Nat} (h : Ev tl σ H (.ref a)) (hx : H a = some (.lst xs)) (hz : xs.length ≤ 1000) (hw : ∀ x, wipe ((wipe σ vs).set j (some x)) vs = wipe σ vs)
    (hs : ∀ (i : Nat) y H1, Ex H H1 → xs[i]? = some y → ∃ b, EvT tt ((wipe σ vs).set j (some y)) H1 b ∧ EvP te ((wipe σ vs).set j (some y)) H1 (fun _ _ => True)) :
    EvLA (tLc (iList K tl) (gName j) tt te vs) σ H := fun H0 e Q q => h H0 e _ fun H1 e1 => ⟨a, rfl, ⟨xs, sq_of ((e.trans e1) _ _ hx)⟩, fun Dl hD =>
  lc_list (xs := xs) (fun i H' => H1 Dl = none ∧ Ex H1 H' ∧ ∃ acc, H' Dl = some (.lst acc) ∧ acc.length ≤ i) ⟨hD, Ex.new hD, [], upd_same, Nat.le_refl _⟩ (fun i H' _ p => sq_of ((e.trans (e1.trans p.2.1)) _ _ hx)) (fun i x H' hi p => by
    obtain ⟨p1, p2, acc, p3, p4⟩ := p
    obtain ⟨b, ht, hv⟩ := hs i x H' ((e.trans e1).trans p2) hi
    refine ⟨hw x, ht H' (Ex.refl H') _ fun H3 e3 => ?_⟩
    have hil : i < xs.length := (List.getElem?_eq_some_iff.mp hi).1
    cases b with
    | true => exact hv H3 e3 _ fun v H4 e4 _ => ⟨acc, (e3.trans e4) _ _ p3, sz_lt (by omega), p1, Ex.mut ((p2.trans e3).trans e4) p1, _, upd_same, by rw [List.length_append]; simp; omega⟩
    | false => exact ⟨p1, p2.trans e3, acc, e3 _ _ p3, by omega⟩) (fun H' p => by
    obtain ⟨p1, p2, acc, p3, p4⟩ := p
    exact q Dl acc H' (fresh_back e1 p1) (e1.trans p2) p3 (by omega))⟩
/-- {..} over the items of a dict of ints, whatever it holds -/
theorem ed_itemsI {d : Addr} {kv : List (Key × V)} {nn : Nat} {j l : Nat} (u : Nat → Int) (h : ∀ H1, Ev td σ H1 (.ref d)) (hd : H d = some (.dK kv)) (ok : KvOk (fun i => Sum.inl (i : Int)) (fun _ => true) (fun i v _ => v = .int (u i)) nn kv H) (hz : nn ≤ 1000) (f : Nat → Bool)
    (hw : ∀ x y, wipe (((wipe σ vs).set j (some x)).set l (some y)) vs = wipe σ vs)
    (hs : ∀ (i : Nat) H1, i < nn → EvT tt (((wipe σ vs).set j (some (.int (i : Int)))).set l (some (.int (u i)))) H1 (f i) ∧ Ev tk (((wipe σ vs).set j (some (.int (i : Int)))).set l (some (.int (u i)))) H1 (.int (i : Int)) ∧ EvP tv (((wipe σ vs).set j (some (.int (i : Int)))).set l (some (.int (u i)))) H1 (fun _ _ => True)) :
    EvD (tLockE (tDc (iItems td) (gTup K 2 (gCons (gName j) (gCons (gName l) gNil))) tt tk tv vs)) σ H (fun _ _ _ => True) := fun H1 e Q q => by
  have hk1 := e _ _ hd
  have hl : kv.length = nn := by rw [ok.len, List.filter_eq_self.mpr (fun _ _ => rfl), List.length_range]
  refine ⟨d, _, hk1, trivial, fun od => ?_⟩
  obtain ⟨HL, hHL⟩ : ∃ HL, HL = upd H1 d (.frz od (.dK kv)) := ⟨_, rfl⟩
  have hLd : HL d = some (.frz od (.dK kv)) := by rw [hHL, upd_same]
  have hLe : ∀ b o, H1 b = some o → b ≠ d → HL b = some o := fun b o h n => by rw [hHL, upd_ne n]; exact h
  have hLn : ∀ b, HL b = none → H1 b = none := fun b h => by
    by_cases e : b = d
    · rw [e, hLd] at h; cases h
    · rw [hHL, upd_ne e] at h; exact h
  rw [← hHL]
  refine h HL HL (Ex.refl _) _ fun HL2 e2 => ⟨d, od, kv, rfl, e2 _ _ hLd, fun Dd hD => ?_⟩
  refine dc_run (σ := σ) (vs := vs) (g := gTup K 2 (gCons (gName j) (gCons (gName l) gNil))) (tt := tt) (tk := tk) (tv := tv) (walk_items (d := d) (o := od) (kvs := kv)) (fun i => Sum.inl (i : Int)) f (fun _ _ _ => True) (by omega) (fun i j _ _ e => by have := Sum.inl.inj e; omega) (fun _ _ _ _ _ _ => trivial) hD (fun H' eH => eH _ _ (e2 _ _ hLd)) (fun i H x H' ⟨T', x', y', _, hT, e, _⟩ => by rw [e]; exact Ex.new hT) (fun i x H' H'' hi eH hne y eH' R kk => ?_) (fun kvs' H' eH hk ok' => ?_)
  · obtain ⟨T', x', y', rfl, hT, rfl, ex, ey⟩ := y
    have hil : i < kv.length := hi
    have e1 : (kv.map (·.1))[i]? = some (Sum.inl (i : Int)) := by
      rw [ok.1, List.filter_eq_self.mpr (fun _ _ => rfl), List.getElem?_map, List.getElem?_range (by omega)]
      rfl
    rw [List.getElem?_map, List.getElem?_eq_getElem hil] at e1
    have e2' : (kv[i]).1 = Sum.inl (i : Int) := Option.some.inj e1
    obtain ⟨jj, j1, _, j3, j4⟩ := ok.2 _ (List.getElem_mem hil)
    rw [e2'] at j3
    have : i = jj := by have := Sum.inl.inj j3; omega
    subst this
    have hv : kv[i]? = some (Sum.inl (i : Int), .int (u i)) := by rw [List.getElem?_eq_getElem hil, ← e2', ← j4]
    simp only [hv, Option.map_some, Option.some.injEq] at ex ey
    subst ex ey
    obtain ⟨s1, s2, s3⟩ := hs i (upd H' T' (.tup [kV (Sum.inl (i : Int)), .int (u i)])) (by omega)
    exact ⟨T', _, rfl, st_of upd_same, rfl, _, _, rfl, _, _, rfl, rfl, kk _ _ (Ex.refl _) (hw _ _) s1 fun _ => ⟨s2, s3⟩⟩
  · refine ⟨eH _ _ (e2 _ _ hLd), ?_⟩
    have hDL := fresh_back e2 hD
    have nDd : Dd ≠ d := fun z => by rw [z, hLd] at hDL; cases hDL
    refine q Dd kvs' _ (hLn _ hDL) (fun b o h => ?_) (by rw [upd_ne nDd]; exact hk) trivial
    by_cases e : b = d
    · rw [e] at h ⊢
      rw [upd_same, ← hk1, h]
    · rw [upd_ne e]
      exact eH _ _ (e2 _ _ (hLe _ _ h e))
end
/-! ### the state that the law reads -/
def PgAt (H : Hp) (pg : Addr) (μ : Mem) : Prop := ∃ pk t, H pg = some (.dK pk) ∧ valV pk (Sum.inl 6) = some (.ref t) ∧ H t = some (.tup (frameV μ 6))
theorem PgAt.st {H H' : Hp} {st pg : Addr} {μ : Mem} {kvs : List (Key × V)} (h : PgAt H pg μ) (x : ExB st H H') (n : pg ≠ st) (hs : H st = some (.dK kvs)) : PgAt H' pg μ := by
  obtain ⟨pk, t, h1, h2, h3⟩ := h
  exact ⟨pk, t, x _ _ h1 n, h2, x _ _ h3 (ne_of h3 hs (by intro z; cases z))⟩
def DvAt (H : Hp) (st dv : Addr) (μ : Mem) : Prop := ∃ dk d g ds gs, H dv = some (.dK dk) ∧ valV dk (Sum.inl 31) = some (.ref d) ∧ DevD H d g ds gs μ 31 ∧ dv ≠ st ∧ d ≠ st ∧ g ≠ st
theorem DvAt.st {H H' : Hp} {st dv : Addr} {μ : Mem} (h : DvAt H st dv μ) (x : ExB st H H') : DvAt H' st dv μ := by
  obtain ⟨dk, d, g, ds, gs, h1, h2, h3, n1, n2, n3⟩ := h
  exact ⟨dk, d, g, ds, gs, x _ _ h1 n1, h2, h3.keep x n2 n3, n1, n2, n3⟩
def DkAt (H : Hp) (dk : Addr) (rows : List (List Int)) : Prop := ∃ rt, H dk = some (.dK [(Sum.inl 31, .ref rt)]) ∧ RowsT H rt rows
theorem RowsT.st {H H' : Hp} {st a : Addr} {rows : List (List Int)} {kvs : List (Key × V)} (h : RowsT H a rows) (x : ExB st H H') (hs : H st = some (.dK kvs)) : RowsT H' a rows := by
  obtain ⟨ts, h1, h2, h3⟩ := h
  exact ⟨ts, x _ _ h1 (ne_of h1 hs (by intro z; cases z)), h2, fun i v hv => let ⟨t, e1, e2⟩ := h3 i v hv; ⟨t, e1, x _ _ e2 (ne_of e2 hs (by intro z; cases z))⟩⟩
theorem DkAt.st {H H' : Hp} {st dk : Addr} {rows : List (List Int)} {kvs : List (Key × V)} (h : DkAt H dk rows) (x : ExB st H H') (n : dk ≠ st) (hs : H st = some (.dK kvs)) : DkAt H' dk rows := by
  obtain ⟨rt, h1, h2⟩ := h
  exact ⟨rt, x _ _ h1 n, h2.st x hs⟩
def AbsAt (H : Hp) (st : Addr) (μ : Mem) (rows : List (List Int)) : Prop := ∃ kvs pg dv dk, H st = some (.dK kvs) ∧ valV kvs (Sum.inr "pages") = some (.ref pg) ∧ PgAt H pg μ ∧ valV kvs (Sum.inr "devices") = some (.ref dv) ∧ DvAt H st dv μ ∧ valV kvs (Sum.inr "disks") = some (.ref dk) ∧ DkAt H dk rows
structure AbsPre (μ : Mem) : Prop where
  dev : framesV μ 8 = [.int 31]
  e6 : framesV μ 6 = []
  e7 : framesV μ 7 = []
  p6 : μ (ix 1 6) = 2
  rq : ∀ n : Nat, n < 8 → ∃ q, SegI μ (μ (ix 0 (4 + (n : Int)))) q ∧ q.length ≤ 1000
end KQ

namespace KQ
open KA
open PySem PySem.Spec PyProof.Rows L2 Evl TL
theorem frV {μ : Mem} {k : Int} {i : Nat} {y : V} (h : (framesV μ k)[i]? = some y) : ∃ f : Nat, f < 32 ∧ (fr μ k)[i]? = some f ∧ y = .int (f : Int) := by
  rw [framesV_eq, List.getElem?_map] at h
  cases e : (fr μ k)[i]? with
  | none => rw [e] at h; cases h
  | some f =>
    rw [e] at h
    exact ⟨f, (fr_lt (List.mem_of_getElem? e)).1, rfl, (Option.some.inj h).symm⟩
theorem fr_nodup {μ : Mem} {k : Int} : (fr μ k).Nodup := List.Pairwise.filter _ List.nodup_range
theorem framesV_len {μ : Mem} {k : Int} : (framesV μ k).length = (fr μ k).length := by rw [framesV_eq, List.length_map]
theorem fr_inj {μ : Mem} {k : Int} (i j : Nat) (hi : i < (framesV μ k).length) (hj : j < (framesV μ k).length) (e : (Sum.inl (((fr μ k).getD i 0 : Nat) : Int) : Key) = Sum.inl (((fr μ k).getD j 0 : Nat) : Int)) : i = j := by
  rw [framesV_len] at hi hj
  have e2 : (fr μ k).getD i 0 = (fr μ k).getD j 0 := by have := Sum.inl.inj e; omega
  rw [List.getD_eq_getElem?_getD, List.getD_eq_getElem?_getD, List.getElem?_eq_getElem hi, List.getElem?_eq_getElem hj] at e2
  exact (List.getElem?_inj (i := i) (j := j) hi fr_nodup).mp (by rw [List.getElem?_eq_getElem hi, List.getElem?_eq_getElem hj]; exact congrArg some e2)
theorem fr_len32 {μ : Mem} {k : Int} : (framesV μ k).length ≤ 32 := by rw [framesV_len]; exact fr_len
section
variable {P : Program} {w : World} {K : PySem.W.Frag} {mg : Str → Option Value} {base : Heap}
/-- {frame: .. for frame in frames_of(..)} -/
theorem ed_fr {σ : L2.St} {H : Hp} {m wl : Addr} {μ : Mem} {kd : Int} {tm tv : TE} {j : Nat} {vs : List Nat} (Pr : Addr → Nat → V → Hp → Prop) (hM : MemAt K H m wl μ) (hm : Ev tm σ H (.ref m)) (mo : ∀ D i v H H', ExB D H H' → Pr D i v H → Pr D i v H') (hw : ∀ x, wipe ((wipe σ vs).set j (some x)) vs = wipe σ vs) (hj : ∀ x, ((wipe σ vs).set j (some x))[j]? = some (some x))
    (hs : ∀ D (i f : Nat) H1, Ex H H1 → (∃ kv, H1 D = some (.dK kv)) → (fr μ kd)[i]? = some f → f < 32 → EvP tv ((wipe σ vs).set j (some (.int (f : Int)))) H1 (Pr D i)) :
    EvD (tDc (iList K (tCall (sp_frames_of K) [] E0 (tCons tm (tCons (tC (.int kd)) tNil)))) (gName j) (fun _ H Q => Q true H) (tVar j) tv vs) σ H (fun D kvs H' => KvOk (fun i => Sum.inl (((fr μ kd).getD i 0 : Nat) : Int)) (fun _ => true) (Pr D) (framesV μ kd).length kvs H') :=
  ed_NL (K := K) (xs := framesV μ kd) _ _ Pr (fun H1 e Q q => hm H1 e _ fun H2 e2 => ⟨m, wl, μ, kd, rfl, hM.keep (e.trans e2), fun p H3 hp e3 h3 => q p H3 (fresh_back e2 hp) (e2.trans e3) h3⟩) (by have := fr_len32 (μ := μ) (k := kd); omega) fr_inj mo hw fun D i y H1 e1 hne hy => by
    obtain ⟨f, hf, hfi, rfl⟩ := frV hy
    refine ⟨et_yes, fun _ => ⟨?_, hs D i f H1 e1 hne hfi hf⟩⟩
    have : (fr μ kd).getD i 0 = f := by rw [List.getD_eq_getElem?_getD, hfi]; rfl
    show Ev _ _ _ (.int (((fr μ kd).getD i 0 : Nat) : Int))
    rw [this]
    exact ev_var (hj _)
def nmL : List (Str × Int) := [("ends", 6), ("notices", 7)]
theorem ep_frameN {σ : L2.St} {H : Hp} {m wl D : Addr} {μ : Mem} {tm tf : TE} {f : Int} (hM : MemAt K H m wl μ) (hm : Ev tm σ H (.ref m)) (hf : Ev tf σ H (.int f)) (hI : InF f) (hne : ∃ kv, H D = some (.dK kv)) : EvP (tMeth (CM K) "frame" (sp_frame K) [] E0 tm (tCons tf tNil)) σ H (fun v H' => ∃ t, v = .ref t ∧ H' t = some (.tup (frameV μ f)) ∧ t ≠ D) := fun H1 e Q q =>
  hm H1 e _ fun H2 e2 => by
    obtain ⟨dx, dd, h1, h2⟩ := (hM.keep (e.trans e2)).ins
    obtain ⟨kv, hD⟩ := hne
    exact ⟨m, dx, _, rfl, h1, rfl, hf H2 (e.trans e2) _ fun H3 e3 => ⟨m, wl, μ, f, rfl, hM.keep ((e.trans e2).trans e3), hI, fun p H4 hp e4 h4 => q _ H4 ((e2.trans e3).trans e4) ⟨p, rfl, h4, fun z => by rw [z, ((e.trans e2).trans e3) _ _ hD] at hp; cases hp⟩⟩⟩
structure RowsTn (D : Addr) (H : Hp) (a : Addr) (rows : List (List Int)) : Prop where
  ex : ∃ ts, H a = some (.tup ts) ∧ a ≠ D ∧ ts.length = rows.length ∧ ∀ i v, ts[i]? = some v → ∃ t, v = .ref t ∧ H t = some (.tup ((rows.getD i []).map V.int)) ∧ t ≠ D
theorem RowsTn.keep {D a : Addr} {H H' : Hp} {rows : List (List Int)} (h : RowsTn D H a rows) (x : ExB D H H') : RowsTn D H' a rows := by
  obtain ⟨ts, h1, h2, h3, h4⟩ := h.ex
  exact ⟨ts, x _ _ h1 h2, h2, h3, fun i v hv => let ⟨t, a, b, c⟩ := h4 i v hv; ⟨t, a, x _ _ b c, c⟩⟩
theorem RowsTn.rows {D a : Addr} {H : Hp} {rows : List (List Int)} (h : RowsTn D H a rows) : RowsT H a rows := by
  obtain ⟨ts, h1, h2, h3, h4⟩ := h.ex
  exact ⟨ts, h1, h3, fun i v hv => let ⟨t, a, b, c⟩ := h4 i v hv; ⟨t, a, b⟩⟩
theorem ep_diskN {σ : L2.St} {H : Hp} {m wl dx dd rl D : Addr} {rows : List (List Int)} {tm tf : TE} (hD : DiskAt K H m wl dx dd rl rows) (hm : Ev tm σ H (.ref m)) (hf : Ev tf σ H (.int 31)) (hne : ∃ kv, H D = some (.dK kv)) : EvP (tMeth (CM K) "disk" (sp_disk K) [] E0 tm (tCons tf tNil)) σ H (fun v H' => ∃ rt, v = .ref rt ∧ RowsTn D H' rt rows) := fun H1 e Q q =>
  hm H1 e _ fun H2 e2 => ⟨m, dx, _, rfl, (hD.keep (e.trans e2)).ins, rfl, hf H2 (e.trans e2) _ fun H3 e3 => ⟨m, wl, dx, dd, rl, rows, rfl, hD.keep ((e.trans e2).trans e3), fun p H4 hp e4 ⟨ts, t1, t2, t3⟩ => by
    obtain ⟨kv, hk⟩ := hne
    have hk4 := (((e.trans e2).trans e3).trans e4) _ _ hk
    exact q _ H4 ((e2.trans e3).trans e4) ⟨p, rfl, ⟨ts, t1, ne_of t1 hk4 (by intro z; cases z), t2, fun i v hv => let ⟨t, a, b⟩ := t3 i v hv; ⟨t, a, b, ne_of b hk4 (by intro z; cases z)⟩⟩⟩⟩⟩
def sp_abstracted (K : PySem.W.Frag) : Sp := fun vs H Q _ => ∃ (m wl dx dd rl : Addr) (rows : List (List Int)) (μ : Mem), vs = [.ref m] ∧ MemAt K H m wl μ ∧ DiskAt K H m wl dx dd rl rows ∧ AbsPre μ ∧ ∀ st H', H st = none → Ex H H' → AbsAt H' st μ rows → Q (.ref st) H'
theorem ok_abstracted (T : Txt K mg) : FnOk P w K mg base CX0 7 (f_abstracted K) (fd_abstracted K) ["memory"] (sp_abstracted K) := by
  refine T.fn_abstracted.ok sc_abstracted (fun vs H Q E h => ?_) (fun cdv A outer s H vs Q E hr h => ?_)
  · obtain ⟨_, _, _, _, _, _, _, rfl, _⟩ := h
    rfl
  have hu := hu_of hr
  refine ⟨_, PSs.nox (pss_cons (ps_set (i := 1) sc_abstracted.nd rfl (Or.inl rfl) (pe_disp (pps_cons pe_str (pe_meth (pv 0) (T.cl_Memory) (T.mt_Memory_word) (ok_Memory_word T) (hr.mono (by decide)) (T.bd_Memory_word) .nil pass0 (pa_cons (T.pg_KERNEL) (pa_cons (T.pg_K_TIME) pa_nil))) (pps_cons pe_str (pe_meth (pv 0) (T.cl_Memory) (T.mt_Memory_word) (ok_Memory_word T) (hr.mono (by decide)) (T.bd_Memory_word) .nil pass0 (pa_cons (T.pg_KERNEL) (pa_cons (T.pg_K_PART) pa_nil))) pps_nil)) (by rfl) (by rfl) (fun z => by cases z) (by decide))) (pss_cons (ps_dput hu (pv 1) pe_str (pe_meth (pv 0) (T.cl_Memory) (T.mt_Memory_word) (ok_Memory_word T) (hr.mono (by decide)) (T.bd_Memory_word) .nil pass0 (pa_cons (T.pg_KERNEL) (pa_cons (T.pg_K_LEFT) pa_nil))) rfl) (pss_cons (ps_setLc (i := 2) (own := [("number", 3)]) (by rfl) sc_abstracted.nd rfl rfl (sw_true rfl rfl rfl (by decide +kernel)) (pi_range1 (by rfl) T.free_range (pa_cons (T.pg_PARTS) pa_nil)) (blkOk_by (N := sc_abstracted_N) (sc := defScope s_abstracted) (own := [("number", 3)]) (by decide +kernel)) (fun _ _ _ _ _ => (pg_name (i := 3) sc_abstracted.nd rfl (Or.inl rfl))) (fun _ _ _ _ _ => pts_nil) (fun _ _ _ _ _ => (pe_meth (pv 0) (T.cl_Memory) (T.mt_Memory_word) (ok_Memory_word T) (hr.mono (by decide)) (T.bd_Memory_word) .nil pass0 (pa_cons (by exact T.pg_KERNEL) (pa_cons (pe_op op_add (by exact T.pg_K_PLAN) (pv 3)) pa_nil))))) (pss_cons (ps_dput hu (pv 1) pe_str (pe_callTy call_tuple_of (by rfl) T.free_tuple (by decide +kernel) (pa_cons (pe_lc (own := [("word", 4)]) (by rfl) sc_abstracted.nd (pi_list (pv 2)) (blkOk_by (N := sc_abstracted_N) (sc := defScope s_abstracted) (own := [("word", 4)]) (by decide +kernel)) (fun _ _ _ _ _ => (pg_name (i := 4) sc_abstracted.nd rfl (Or.inl rfl))) (fun _ _ _ _ _ => (pts_one (pt_truthK (K := K) (by rfl) (pv 4) (by intro _; rfl)))) (fun _ _ _ _ _ => (pe_tup (pa_cons (pe_op op_fdiv (pv 4) pe_int) (pa_cons (pe_op op_mod (pv 4) pe_int) pa_nil))))) pa_nil)) rfl) (pss_cons (ps_setDc (i := 5) (own := [("line", 6)]) (by rfl) sc_abstracted.nd rfl rfl (sw_trueD rfl rfl rfl (by decide +kernel)) (pi_range1 (by rfl) T.free_range (pa_cons (T.pg_LINES) pa_nil)) (blkOk_by (N := sc_abstracted_N) (sc := defScope s_abstracted) (own := [("line", 6)]) (by decide +kernel)) (fun _ _ _ _ _ => (pg_name (i := 6) sc_abstracted.nd rfl (Or.inl rfl))) (fun _ _ _ _ _ => pts_nil) (fun _ _ _ _ _ => (pv 6)) (fun _ _ _ _ _ => (pe_meth (pv 0) (T.cl_Memory) (T.mt_Memory_word) (ok_Memory_word T) (hr.mono (by decide)) (T.bd_Memory_word) .nil pass0 (pa_cons (by exact T.pg_KERNEL) (pa_cons (pe_op op_add (by exact T.pg_K_LINES) (pv 6)) pa_nil))))) (pss_cons (ps_dput hu (pv 1) pe_str (pe_lock (pe_dc (own := [("line", 6), ("word", 4)]) (by rfl) sc_abstracted.nd (pi_items (pv 5)) (blkOk_by (N := sc_abstracted_N) (sc := defScope s_abstracted) (own := [("line", 6), ("word", 4)]) (by decide +kernel)) (fun _ _ _ _ _ => (pg_tupK (K := K) (n := 2) (by rfl) (by rfl) (pgs_cons (pg_name (i := 6) sc_abstracted.nd rfl (Or.inl rfl)) (pgs_cons (pg_name (i := 4) sc_abstracted.nd rfl (Or.inl rfl)) pgs_nil)))) (fun _ _ _ _ _ => (pts_one (pt_truthK (K := K) (by rfl) (pv 4) (by intro _; rfl)))) (fun _ _ _ _ _ => (pv 6)) (fun _ _ _ _ _ => (pe_tup (pa_cons (pe_op op_sub (pe_op op_mod (pv 4) pe_int) pe_int) (pa_cons (pe_op op_fdiv (pv 4) pe_int) pa_nil)))))) rfl) (pss_cons (ps_asg (pe_tup (pa_cons pe_dnewK (pa_cons pe_dnewK pa_nil))) (pg_tup (by rfl) (pgs_cons (pg_sub (pv 1) pe_str (set_dict hu)) (pgs_cons (pg_sub (pv 1) pe_str (set_dict hu)) pgs_nil)))) (pss_cons (ps_for PassesOwn.never rfl (pi_list (pe_call (ok_slots_of T) (hr.mono (by decide)) (by rfl) (T.glo_slots_of) (T.kp_slots_of) (T.bd_slots_of) .nil pass0 (pa_cons (pv 0) pa_nil))) (pg_name (i := 7) sc_abstracted.nd rfl (Or.inl rfl)) (pss_cons (ps_dput hu (pe_dget hu (pv 1) pe_str (fun _ _ => rfl)) (pv 7) (pe_op op_catA (pe_call (ok_cap_at T) (hr.mono (by decide)) (by rfl) (T.glo_cap_at) (T.kp_cap_at) (T.bd_cap_at) .nil pass0 (pa_cons (pv 0) (pa_cons (pv 7) pa_nil))) (pe_tup (pa_cons (pe_call (ok_field T) (hr.mono (by decide)) (by rfl) (T.glo_field) (T.kp_field) (T.bd_field) .nil pass0 (pa_cons (pv 0) (pa_cons (pv 7) (pa_cons pe_int pa_nil)))) (pa_cons (pe_call (ok_field T) (hr.mono (by decide)) (by rfl) (T.glo_field) (T.kp_field) (T.bd_field) .nil pass0 (pa_cons (pv 0) (pa_cons (pv 7) (pa_cons pe_int pa_nil)))) pa_nil)))) rfl) (pss_one (ps_dput hu (pe_dget hu (pv 1) pe_str (fun _ _ => rfl)) (pv 7) (pe_call (ok_maybe T) (hr.mono (by decide)) (by rfl) (T.glo_maybe) (T.kp_maybe) (T.bd_maybe) .nil pass0 (pa_cons (pe_call (ok_field T) (hr.mono (by decide)) (by rfl) (T.glo_field) (T.kp_field) (T.bd_field) .nil pass0 (pa_cons (pv 0) (pa_cons (pv 7) (pa_cons pe_int pa_nil)))) pa_nil)) rfl)))) (pss_cons (ps_dput hu (pv 1) pe_str (pe_dc (own := [("frame", 8)]) (by rfl) sc_abstracted.nd (pi_list (pe_call (ok_frames_of T) (hr.mono (by decide)) (by rfl) (T.glo_frames_of) (T.kp_frames_of) (T.bd_frames_of) .nil pass0 (pa_cons (pv 0) (pa_cons (T.pg_CAPS) pa_nil)))) (blkOk_by (N := sc_abstracted_N) (sc := defScope s_abstracted) (own := [("frame", 8)]) (by decide +kernel)) (fun _ _ _ _ _ => (pg_name (i := 8) sc_abstracted.nd rfl (Or.inl rfl))) (fun _ _ _ _ _ => pts_nil) (fun _ _ _ _ _ => (pv 8)) (fun _ _ _ _ _ => pe_non)) rfl) (pss_cons (ps_dput hu (pv 1) pe_str (pe_dc (own := [("table", 9)]) (by rfl) sc_abstracted.nd (pi_list (pe_call (ok_frames_of T) (hr.mono (by decide)) (by rfl) (T.glo_frames_of) (T.kp_frames_of) (T.bd_frames_of) .nil pass0 (pa_cons (pv 0) (pa_cons (T.pg_TABLE) pa_nil)))) (blkOk_by (N := sc_abstracted_N) (sc := defScope s_abstracted) (own := [("table", 9)]) (by decide +kernel)) (fun _ _ _ _ _ => (pg_name (i := 9) sc_abstracted.nd rfl (Or.inl rfl))) (fun _ _ _ _ _ => pts_nil) (fun _ _ _ _ _ => (pv 9)) (fun _ _ _ _ _ => (pe_call (ok_rows_of T) (hr.mono (by decide)) (by rfl) (T.glo_rows_of) (T.kp_rows_of) (T.bd_rows_of) .nil pass0 (pa_cons (pv 0) (pa_cons (pv 9) pa_nil))))) rfl) (pss_cons (ps_dput hu (pv 1) pe_str (pe_dc (own := [("thread", 10)]) (by rfl) sc_abstracted.nd (pi_list (pe_call (ok_frames_of T) (hr.mono (by decide)) (by rfl) (T.glo_frames_of) (T.kp_frames_of) (T.bd_frames_of) .nil pass0 (pa_cons (pv 0) (pa_cons (T.pg_THREAD) pa_nil)))) (blkOk_by (N := sc_abstracted_N) (sc := defScope s_abstracted) (own := [("thread", 10)]) (by decide +kernel)) (fun _ _ _ _ _ => (pg_name (i := 10) sc_abstracted.nd rfl (Or.inl rfl))) (fun _ _ _ _ _ => pts_nil) (fun _ _ _ _ _ => (pv 10)) (fun _ _ _ _ _ => (pe_call (ok_thread_of T) (hr.mono (by decide)) (by rfl) (T.glo_thread_of) (T.kp_thread_of) (T.bd_thread_of) .nil pass0 (pa_cons (pv 0) (pa_cons (pv 10) pa_nil))))) rfl) (pss_cons (ps_dput hu (pv 1) pe_str (pe_dc (own := [("page", 11)]) (by rfl) sc_abstracted.nd (pi_list (pe_call (ok_frames_of T) (hr.mono (by decide)) (by rfl) (T.glo_frames_of) (T.kp_frames_of) (T.bd_frames_of) .nil pass0 (pa_cons (pv 0) (pa_cons (T.pg_PAGE) pa_nil)))) (blkOk_by (N := sc_abstracted_N) (sc := defScope s_abstracted) (own := [("page", 11)]) (by decide +kernel)) (fun _ _ _ _ _ => (pg_name (i := 11) sc_abstracted.nd rfl (Or.inl rfl))) (fun _ _ _ _ _ => pts_nil) (fun _ _ _ _ _ => (pv 11)) (fun _ _ _ _ _ => (pe_meth (pv 0) (T.cl_Memory) (T.mt_Memory_frame) (ok_Memory_frame T) (hr.mono (by decide)) (T.bd_Memory_frame) .nil pass0 (pa_cons (pv 11) pa_nil)))) rfl) (pss_cons (ps_for PassesOwn.never rfl (pi_tup (pe_tup (pa_cons (pe_tup (pa_cons pe_str (pa_cons (T.pg_END) pa_nil))) (pa_cons (pe_tup (pa_cons pe_str (pa_cons (T.pg_NOTICE) pa_nil))) pa_nil)))) (pg_tup (by rfl) (pgs_cons (pg_name (i := 12) sc_abstracted.nd rfl (Or.inl rfl)) (pgs_cons (pg_name (i := 13) sc_abstracted.nd rfl (Or.inl rfl)) pgs_nil))) (pss_cons (ps_dput hu (pv 1) (pv 12) pe_dnewK rfl) (pss_one (ps_for PassesOwn.never rfl (pi_list (pe_call (ok_frames_of T) (hr.mono (by decide)) (by rfl) (T.glo_frames_of) (T.kp_frames_of) (T.bd_frames_of) .nil pass0 (pa_cons (pv 0) (pa_cons (pv 13) pa_nil)))) (pg_name (i := 14) sc_abstracted.nd rfl (Or.inl rfl)) (pss_one ps_never))))) (pss_cons (ps_dput hu (pv 1) pe_str (pe_dc (own := [("device", 15)]) (by rfl) sc_abstracted.nd (pi_list (pe_call (ok_frames_of T) (hr.mono (by decide)) (by rfl) (T.glo_frames_of) (T.kp_frames_of) (T.bd_frames_of) .nil pass0 (pa_cons (pv 0) (pa_cons (T.pg_DEVICE) pa_nil)))) (blkOk_by (N := sc_abstracted_N) (sc := defScope s_abstracted) (own := [("device", 15)]) (by decide +kernel)) (fun _ _ _ _ _ => (pg_name (i := 15) sc_abstracted.nd rfl (Or.inl rfl))) (fun _ _ _ _ _ => pts_nil) (fun _ _ _ _ _ => (pv 15)) (fun _ _ _ _ _ => (pe_call (ok_device_of T) (hr.mono (by decide)) (by rfl) (T.glo_device_of) (T.kp_device_of) (T.bd_device_of) .nil pass0 (pa_cons (pv 0) (pa_cons (pv 15) pa_nil))))) rfl) (pss_cons (ps_dput hu (pv 1) pe_str (pe_dc (own := [("device", 15)]) (by rfl) sc_abstracted.nd (pi_list (pe_meth0 (pv 0) (T.cl_Memory) (T.mt_Memory_laid) (ok_Memory_laid T) (hr.mono (by decide)) (T.bd_Memory_laid) .nil pass0)) (blkOk_by (N := sc_abstracted_N) (sc := defScope s_abstracted) (own := [("device", 15)]) (by decide +kernel)) (fun _ _ _ _ _ => (pg_name (i := 15) sc_abstracted.nd rfl (Or.inl rfl))) (fun _ _ _ _ _ => pts_nil) (fun _ _ _ _ _ => (pv 15)) (fun _ _ _ _ _ => (pe_meth (pv 0) (T.cl_Memory) (T.mt_Memory_disk) (ok_Memory_disk T) (hr.mono (by decide)) (T.bd_Memory_disk) .nil pass0 (pa_cons (pv 15) pa_nil)))) rfl) (pss_cons (ps_dput hu (pv 1) pe_str pe_dnewK rfl) (pss_cons (ps_for PassesOwn.never rfl (pi_range1 (by rfl) T.free_range (pa_cons (pe_op op_mul (T.pg_DOMAINS) (T.pg_PRIORITIES)) pa_nil)) (pg_name (i := 3) sc_abstracted.nd rfl (Or.inl rfl)) (pss_cons (ps_set (i := 16) sc_abstracted.nd rfl (Or.inl rfl) (pe_callTy call_tuple_of (by rfl) T.free_tuple (by decide +kernel) (pa_cons (pe_call (ok_members T) (hr.mono (by decide)) (by rfl) (T.glo_members) (T.kp_members) (T.bd_members) .nil pass0 (pa_cons (pv 0) (pa_cons (pe_tup (pa_cons (T.pg_KERNEL) (pa_cons (pe_op op_add (T.pg_K_HEADS) (pv 3)) (pa_cons (pe_op op_add (T.pg_K_TAILS) (pv 3)) pa_nil)))) pa_nil))) pa_nil))) (pss_one (ps_if (pt_truth (pv 16) (by intro _; rfl)) (pss_one (ps_dput hu (pe_dget hu (pv 1) pe_str (fun _ _ => rfl)) (pv 3) (pv 16) rfl)) pss_nil)))) (pss_one (ps_ret (pv 1)))))))))))))))))))), ?_⟩
  obtain ⟨m, wl, dx, dd, rl, rows, μ, rfl, hM, hD, hA, k⟩ := h
  refine q_disp2 (k1 := Sum.inr "time") (k2 := Sum.inr "part") (ev_word hM (ev_var rfl) ev_c ev_c (by decide)) (ev_word hM (ev_var rfl) ev_c ev_c (by decide)) fun st kv0 H1 hst e1 h1 l1 => ?_
  have hM1 := hM.keep e1
  refine q_stV (k := Sum.inr "left") e1 hst h1 l1 (by decide) (ev_word hM1 (ev_var rfl) ev_c ev_c (by decide)) (ev_var rfl) ev_c fun H2 kv2 p2 => ?_
  have hM2 := hM.keep p2.ex
  refine q_asgL (xs := given 4 (fun _ => true) fun i => .int (μ (ix 0 (24 + (i : Int))))) (el_lcR1 (n := 4) (fun _ => true) (fun i => .int (μ (ix 0 (24 + (i : Int))))) (ea_cons ev_c ea_nil) (by decide) (fun x => rfl) (fun i H1 e1 hi => et_yes) (fun i H1 e1 hi _ => ev_word (hM2.keep e1) (ev_var rfl) ev_c (ev_op ev_c (ev_var rfl) rv_I0) (by omega))) fun wd H3 hwd e3 h3 => ?_
  have e03 := p2.ex.trans e3
  refine q_stP (k := Sum.inr "plan") (P := fun _ _ => True) e03 hst (e3 _ _ p2.at_) p2.len (by decide) (ep_tupA ?_) (fun H1 e => ev_var rfl) (fun H1 e => ev_c) fun v4 Hv4 H4 kv4 e4 _ p4 => ?_
  · refine ep_lcAny (K := K) (a := wd) (xs := given 4 (fun _ => true) fun i => .int (μ (ix 0 (24 + (i : Int))))) (ev_var rfl) h3 (by have := given_len 4 (fun _ => true) (fun i => V.int (μ (ix 0 (24 + (i : Int))))); omega) (fun x => rfl) (fun i y H5 e5 hy => ?_)
    have : ∃ z, y = V.int z := by
      unfold given at hy
      rw [List.filter_eq_self.mpr (fun _ _ => rfl), List.getElem?_map] at hy
      cases e : (List.range 4)[i]? with
      | none => rw [e] at hy; cases hy
      | some z => rw [e] at hy; exact ⟨_, (Option.some.inj hy).symm⟩
    obtain ⟨z, rfl⟩ := this
    exact ⟨_, et_truI (ev_var rfl), fun H6 e6 Q q => (eu_tup (ea_cons (ev_div (ev_var rfl) ev_c (by decide)) (ea_cons (ev_mod (ev_var rfl) ev_c (by decide)) ea_nil)) (by show 2 ≤ 100000; decide) : EvU _ _ H5 _) H6 e6 _ fun p H7 hp e7 h7 => q _ H7 e7 trivial⟩
  have hM4 := hM.keep p4.ex
  refine q_asgD (Pk := fun D kvs H' => KvOk (fun i => Sum.inl (i : Int)) (fun _ => true) (fun i v _ => v = .int (μ (ix 0 (20 + (i : Int))))) 4 kvs H') ?_ fun ld kvl H5 hld e5 h5 ok5 => ?_
  · exact ed_R1 (n := 4) (fun i => Sum.inl (i : Int)) (fun _ => true) (fun D i v H => v = .int (μ (ix 0 (20 + (i : Int))))) (ea_cons ev_c ea_nil) (by decide) (fun i j e => by have := Sum.inl.inj e; omega) (fun D i v H H' x p => p) (fun x => rfl) fun D i H1 e1 hne hi => ⟨et_yes, fun _ => ⟨ev_var rfl, fun H2 e2 Q2 q2 => (ev_word (hM4.keep e1) (ev_var rfl) ev_c (ev_op ev_c (ev_var rfl) rv_I0) (by omega) : Ev _ _ H1 _) H2 e2 _ fun H3 e3 => q2 _ H3 e3 rfl⟩⟩
  have e05 := p4.ex.trans e5
  refine q_stD (k := Sum.inr "lines") e05 hst (e5 _ _ p4.at_) p4.len (by decide) (ed_itemsI (fun i => μ (ix 0 (20 + (i : Int)))) (fun H1 => ev_var rfl) h5 ok5 (by decide) (fun i => decide (μ (ix 0 (20 + (i : Int))) ≠ 0)) (fun x y => rfl) fun i H1 hi => ⟨et_truI (ev_var rfl), ev_var rfl, fun H6 e6 Q q => (eu_tup (ea_cons (ev_op (ev_mod (ev_var rfl) ev_c (by decide)) ev_c rv_I0) (ea_cons (ev_div (ev_var rfl) ev_c (by decide)) ea_nil)) (by show 2 ≤ 100000; decide) : EvU _ _ H1 _) H6 e6 _ fun p H7 hp e7 h7 => q _ H7 e7 trivial⟩) (fun H1 e => ev_var rfl) (fun H1 e => ev_c) fun lp kvp Hv6 H6 kv6 _ _ _ _ p6 => ?_
  have hS6 : H st = none := hst
  refine q_two (K := K) (k1 := Sum.inr "caps") (k2 := Sum.inr "parents") rfl p6.ex hst p6.at_ p6.len (by decide) (by decide) fun cp pr H7 kv7 hcp hpr ncp e7 h7 l7 hc7 hp7 vc7 vp7 => ?_
  have cH : ∀ {a : Addr}, H6 a = none → H a = none := fun h => fresh_back p6.ex h
  have ns : ∀ {a : Addr}, H6 a = none → a ≠ st := fun h z => by rw [z, p6.at_] at h; cases h
  have hM7 := hM.keep e7
  refine q_forNL (K := K) (xs := slV μ) (fun H2 e Q q => ⟨_, rfl, m, wl, μ, rfl, hM7.keep e, fun p H3 hp e3 h3 => q p H3 hp e3 h3⟩)
    (fun p i σ' H' => ∃ x7 c1 c2, σ' = [some (.ref m), some (.ref st), some (.ref wd), none, none, some (.ref ld), none, x7, none, none, none, none, none, none, none, none, none] ∧ Ex H H' ∧ H' st = some (.dK kv7) ∧ H' cp = some (.dK c1) ∧ c1.length ≤ i ∧ H' pr = some (.dK c2) ∧ c2.length ≤ i ∧ H' p = some (.lst (slV μ)) ∧ p ≠ st ∧ p ≠ cp ∧ p ≠ pr)
    (fun p H8 hp e8 h8 => ⟨none, [], [], rfl, e7.trans e8, e8 _ _ h7, e8 _ _ hc7, Nat.le_refl _, e8 _ _ hp7, Nat.le_refl _, h8, fun z => (by rw [z, h7] at hp; cases hp), fun z => (by rw [z, hc7] at hp; cases hp), fun z => (by rw [z, hp7] at hp; cases hp)⟩)
    (fun p i σ' H' _ ⟨_, _, _, _, _, _, _, _, _, _, h, _⟩ => sq_of h) ?_ ?_
  · rintro p i y σ' H' hy ⟨x7, c1, c2, rfl, eH, hs', hc', lc, hp', lp, hpl, n1, n2, n3⟩
    have hi256 : i < 256 := by have := (List.getElem?_eq_some_iff.mp hy).1; have := slV_len (μ := μ); omega
    obtain ⟨g, j, hg, hj, rfl, _⟩ := slV_mem (List.mem_of_getElem? hy)
    have hg32 := (fr_lt hg).1
    have hM' := hM.keep eH
    have hb : 0 ≤ (g : Int) * 8 + (j : Int) ∧ (g : Int) * 8 + (j : Int) < 256 := by omega
    refine ⟨_, rfl, _, rfl, m, wl, μ, _, rfl, hM', hb.1, hb.2, fun a H8 ha e8 h8 => ?_⟩
    have hM8 := hM'.keep e8
    refine (eu_tup (ea_cons (ev_field (s := (g : Int) * 8 + (j : Int)) hM8 (ev_var rfl) (ev_var rfl) ev_c (by omega)) (ea_cons (ev_field (s := (g : Int) * 8 + (j : Int)) hM8 (ev_var rfl) (ev_var rfl) ev_c (by omega)) ea_nil)) (by show 2 ≤ 100000; decide) : EvU _ _ H8 _) H8 (Ex.refl H8) _ fun b H9 hb9 e9 h9 => ?_
    have h89 := e9 _ _ h8
    refine ⟨a, b, _, _, rfl, rfl, st_of h89, st_of h9, sz_of (by show 4 + 2 ≤ 100000; decide), fun z => (by cases z), fun _ z => (by cases z), fun _ _ c hc => ?_⟩
    have e10 : Ex H9 (upd H9 c (.tup (capF μ ((g : Int) * 8 + (j : Int)) ++ [.int (fld μ ((g : Int) * 8 + (j : Int)) 5), .int (fld μ ((g : Int) * 8 + (j : Int)) 6)]))) := Ex.new hc
    have e810 := (e8.trans e9).trans e10
    generalize upd H9 c (.tup (capF μ ((g : Int) * 8 + (j : Int)) ++ [.int (fld μ ((g : Int) * 8 + (j : Int)) 5), .int (fld μ ((g : Int) * 8 + (j : Int)) 6)])) = H10 at e10 e810 ⊢
    have hcpH := cH hcp
    have hprH := cH hpr
    refine ⟨.ref st, rfl, st, .ref cp, rfl, vc7 ▸ DGet.k (k := Sum.inr "caps") (e810 _ _ hs'), _, rfl, cp, _, rfl, DPut.k (k := Sum.inl ((g : Int) * 8 + (j : Int))) (e810 _ _ hc') (sz_lt (by omega)), ?_⟩
    have eH11 : Ex H (upd H10 cp (.dK (putK c1 (Sum.inl ((g : Int) * 8 + (j : Int))) (.ref c)))) := Ex.mut (eH.trans e810) hcpH
    have hs11 : (upd H10 cp (.dK (putK c1 (Sum.inl ((g : Int) * 8 + (j : Int))) (.ref c)))) st = some (.dK kv7) := by rw [upd_ne (Ne.symm (ns hcp))]; exact e810 _ _ hs'
    have hp11 : (upd H10 cp (.dK (putK c1 (Sum.inl ((g : Int) * 8 + (j : Int))) (.ref c)))) pr = some (.dK c2) := by rw [upd_ne (Ne.symm ncp)]; exact e810 _ _ hp'
    have hl11 : (upd H10 cp (.dK (putK c1 (Sum.inl ((g : Int) * 8 + (j : Int))) (.ref c)))) p = some (.lst (slV μ)) := by rw [upd_ne n2]; exact e810 _ _ hpl
    have hc11 : (upd H10 cp (.dK (putK c1 (Sum.inl ((g : Int) * 8 + (j : Int))) (.ref c)))) cp = some (.dK (putK c1 (Sum.inl ((g : Int) * 8 + (j : Int))) (.ref c))) := upd_same
    have lc11 : (putK c1 (Sum.inl ((g : Int) * 8 + (j : Int))) (.ref c)).length ≤ i + 1 := by have := length_putK c1 (Sum.inl ((g : Int) * 8 + (j : Int))) (.ref c); omega
    generalize upd H10 cp (.dK (putK c1 (Sum.inl ((g : Int) * 8 + (j : Int))) (.ref c))) = H11 at eH11 hs11 hp11 hl11 hc11 ⊢
    generalize putK c1 (Sum.inl ((g : Int) * 8 + (j : Int))) (.ref c) = c1' at hc11 lc11
    refine s_dputV (k := Sum.inl ((g : Int) * 8 + (j : Int))) (a := pr) (ev_pure (ea_cons (ev_field (s := (g : Int) * 8 + (j : Int)) (hM.keep eH11) (ev_var rfl) (ev_var rfl) ev_c (by omega)) ea_nil) fun H1 e Q q => ⟨_, rfl, q⟩) (ev_dg (k := Sum.inr "parents") (ev_var rfl) ev_c hs11 vp7) (ev_var rfl) hp11 (by omega) fun H12 e12 => ?_
    refine ⟨_, c1', _, rfl, Ex.mut (eH11.trans e12) hprH, by rw [upd_ne (Ne.symm (ns hpr))]; exact e12 _ _ hs11, by rw [upd_ne ncp]; exact e12 _ _ hc11, lc11, upd_same, ?_, by rw [upd_ne n3]; exact e12 _ _ hl11, n1, n2, n3⟩
    have := length_putK c2 (Sum.inl ((g : Int) * 8 + (j : Int))) (oI (mayI (fld μ ((g : Int) * 8 + (j : Int)) 4)))
    omega
  rintro p σ' H8 ⟨x7, c1, c2, rfl, e8, h8, _, _, _, _, _, _, _, _⟩
  have hM8 := hM.keep e8
  refine q_stD (k := Sum.inr "frames") (Pk := fun D kvs H' => KvOk (fun i => Sum.inl (((fr μ 4).getD i 0 : Nat) : Int)) (fun _ => true) (fun _ _ _ => True) (framesV μ 4).length kvs H') e8 hst h8 l7 (by decide) ?_ (fun H1 e => ev_var rfl) (fun H1 e => ev_c) fun _ _ Hv9 H9 kv9 _ _ _ _ p9 => ?_
  · exact ed_fr (fun _ _ _ _ => True) hM8 (ev_var rfl) (fun _ _ _ _ _ _ _ => trivial) (fun x => rfl) (fun x => rfl) fun D i f H1 e1 hne hfi hf H2 e2 Q q => q _ H2 (Ex.refl H2) trivial
  have hM9 := hM.keep p9.ex
  refine q_stD (k := Sum.inr "tables") (Pk := fun D kvs H' => KvOk (fun i => Sum.inl (((fr μ 3).getD i 0 : Nat) : Int)) (fun _ => true) (fun _ _ _ => True) (framesV μ 3).length kvs H') p9.ex hst p9.at_ p9.len (by decide) ?_ (fun H1 e => ev_var rfl) (fun H1 e => ev_c) fun _ _ Hv10 H10 kv10 _ _ _ _ p10 => ?_
  · exact ed_fr (fun _ _ _ _ => True) hM9 (ev_var rfl) (fun _ _ _ _ _ _ _ => trivial) (fun x => rfl) (fun x => rfl) fun D i f H1 e1 hne hfi hf H2 e2 Q q => (ea_cons (ev_var rfl) (ea_cons (ev_var rfl) ea_nil) : EvA _ _ H1 [.ref m, .int (f : Int)]) H2 e2 _ fun H3 e3 => ⟨m, wl, μ, (f : Int), rfl, ((hM9.keep e1).keep e2).keep e3, ⟨by omega, by omega⟩, fun p kvs H4 hp e4 h4 hl => q _ H4 (e3.trans e4) trivial⟩
  have hM10 := hM.keep p10.ex
  refine q_stD (k := Sum.inr "threads") (Pk := fun D kvs H' => KvOk (fun i => Sum.inl (((fr μ 5).getD i 0 : Nat) : Int)) (fun _ => true) (fun _ _ _ => True) (framesV μ 5).length kvs H') p10.ex hst p10.at_ p10.len (by decide) ?_ (fun H1 e => ev_var rfl) (fun H1 e => ev_c) fun _ _ Hv11 H11 kv11 _ _ _ _ p11 => ?_
  · exact ed_fr (fun _ _ _ _ => True) hM10 (ev_var rfl) (fun _ _ _ _ _ _ _ => trivial) (fun x => rfl) (fun x => rfl) fun D i f H1 e1 hne hfi hf H2 e2 Q q => (ea_cons (ev_var rfl) (ea_cons (ev_var rfl) ea_nil) : EvA _ _ H1 [.ref m, .int (f : Int)]) H2 e2 _ fun H3 e3 => ⟨m, wl, μ, (f : Int), rfl, ((hM10.keep e1).keep e2).keep e3, ⟨by omega, by omega⟩, fun v H4 e4 => q _ H4 (e3.trans e4) trivial⟩
  have hM11 := hM.keep p11.ex
  refine q_stD (k := Sum.inr "pages") (Pk := fun D kvs H' => KvOk (fun i => Sum.inl (((fr μ 2).getD i 0 : Nat) : Int)) (fun _ => true) (fun i v H => ∃ t, v = .ref t ∧ H t = some (.tup (frameV μ (((fr μ 2).getD i 0 : Nat) : Int))) ∧ t ≠ D) (framesV μ 2).length kvs H') p11.ex hst p11.at_ p11.len (by decide) ?_ (fun H1 e => ev_var rfl) (fun H1 e => ev_c) fun pg pk Hv12 H12 kv12 hpg e12 hpk ok12 p12 => ?_
  · refine ed_fr (fun D i v H => ∃ t, v = .ref t ∧ H t = some (.tup (frameV μ (((fr μ 2).getD i 0 : Nat) : Int))) ∧ t ≠ D) hM11 (ev_var rfl) (fun D i v H H' x ⟨t, a, b, c⟩ => ⟨t, a, x _ _ b c, c⟩) (fun x => rfl) (fun x => rfl) fun D i f H1 e1 hne hfi hf => ?_
    have hfe : (fr μ 2).getD i 0 = f := by rw [List.getD_eq_getElem?_getD, hfi]; rfl
    rw [hfe]
    exact ep_frameN (hM11.keep e1) (ev_var rfl) (ev_var rfl) ⟨by omega, by omega⟩ hne
  have hPg12 : PgAt H12 pg μ := by
    obtain ⟨i6, hi6⟩ := List.mem_iff_getElem?.mp (show 6 ∈ fr μ 2 from List.mem_filter.mpr ⟨by simp, by
      show decide (V.int (μ (ix 1 ((6 : Nat) : Int))) = V.int 2) = true
      rw [show (((6 : Nat) : Int)) = 6 from rfl, hA.p6]
      rfl⟩)
    have h6d : (fr μ 2).getD i6 0 = 6 := by rw [List.getD_eq_getElem?_getD, hi6]; rfl
    obtain ⟨v, hv, t, rfl, ht, _⟩ := ok12.at (i := i6) fr_inj (by rw [framesV_len]; exact (List.getElem?_eq_some_iff.mp hi6).1) rfl
    rw [h6d] at hv ht
    have hP : PgAt Hv12 pg μ := ⟨pk, t, hpk, hv, ht⟩
    exact hP.st p12.eb (fun z => by rw [z, p11.at_] at hpg; cases hpg) (e12 _ _ p11.at_)
  have npg : pg ≠ st := fun z => by rw [z, p11.at_] at hpg; cases hpg
  have hM12 := hM.keep p12.ex
  have vpg : valV kv12 (Sum.inr "pages") = some (.ref pg) := by rw [p12.val, if_pos rfl]
  refine q_forPU (K := K) (Ps := prSts nmL) prSts_mo (by decide) (eps_cons PrSt.mo ep_st (eps_cons PrSt.mo ep_st eps_nil)) fun p vs H13 e13 hp hal => ?_
  have n3 := NamesT.of (l := nmL) hal
  have hv2 : vs.length = 2 := n3.1
  refine ⟨fun i σ' H' => ∃ x12 x13 kvs', σ' = [some (.ref m), some (.ref st), some (.ref wd), none, none, some (.ref ld), none, x7, none, none, none, none, x12, x13, none, none, none] ∧ Ex H H' ∧ ExB st H12 H' ∧ H' st = some (.dK kvs') ∧ kvs'.length ≤ 11 + i ∧ valV kvs' (Sum.inr "pages") = some (.ref pg) ∧ TK H13 H',
    ⟨none, none, kv12, rfl, p12.ex.trans e13, ExB.of e13, e13 _ _ p12.at_, by have := p12.len; omega, vpg, TK.ex (Ex.refl _)⟩, fun i σ' H' _ ⟨_, _, _, _, _, _, _, _, _, tk⟩ => tk _ _ hp, ?_, ?_⟩
  · rintro i x σ' H' hx ⟨x12, x13, kvs', rfl, eH, eB, hs', hl', vp', tk⟩
    have hi : i < 2 := by have := (List.getElem?_eq_some_iff.mp hx).1; omega
    obtain ⟨t, ht1, ht2⟩ := n3.2 i _ (show nmL[i]? = some (nmL.getD i ("", 0)) from by rw [List.getD_eq_getElem?_getD, List.getElem?_eq_getElem (by exact hi)]; rfl)
    rw [ht1] at hx
    cases hx
    have hnm : (nmL.getD i ("", 0)).1 ≠ "pages" ∧ framesV μ (nmL.getD i ("", 0)).2 = [] := by
      match i, hi with
      | 0, _ => exact ⟨by decide +kernel, hA.e6⟩
      | 1, _ => exact ⟨by decide +kernel, hA.e7⟩
    refine ⟨t, _, rfl, st_of (tk _ _ ht2), rfl, _, _, rfl, _, _, rfl, rfl, ?_⟩
    refine q_stD (k := Sum.inr (nmL.getD i ("", 0)).1) (n := 11 + i) eH hst hs' hl' (by omega) ed_new (fun H1 e => ev_var rfl) (fun H1 e => ev_var rfl) fun q kv Hv H14 kv14 hq eq hkv _ p14 => ?_
    have hM14 := hM.keep p14.ex
    refine s_forNL (K := K) (xs := []) (fun H1 e Q qq => ⟨_, rfl, _, rfl, m, wl, μ, (nmL.getD i ("", 0)).2, rfl, hM14.keep e, fun p H2 hp e2 h2 => qq p H2 hp e2 (by rw [h2, hnm.2])⟩) (fun p j σ' H' => (σ' = [some (.ref m), some (.ref st), some (.ref wd), none, none, some (.ref ld), none, x7, none, none, none, none, some (.str (nmL.getD i ("", 0)).1), some (.int (nmL.getD i ("", 0)).2), none, none, none] ∧ Ex H14 H') ∧ H' p = some (.lst [])) (fun p H1 hp e h => ⟨⟨rfl, e⟩, h⟩) (fun p i σ' H' _ h => sq_of h.2) (fun p i x σ' H' hi => by cases hi) (fun p σ' H15 h => ?_)
    obtain ⟨⟨rfl, e15⟩, _⟩ := h
    refine ⟨_, _, kv14, rfl, p14.ex.trans e15, ((eB.trans (ExB.of eq)).trans p14.eb).trans (ExB.of e15), e15 _ _ p14.at_, by have := p14.len; omega, by rw [p14.val, if_neg (fun z => hnm.1 (Sum.inr.inj z).symm)]; exact vp', fun b xs hb => ?_⟩
    refine e15 _ _ (p14.eb _ _ (eq _ _ (tk _ _ hb)) (ne_of (tk _ _ hb) hs' (by intro z; cases z)))
  rintro σ' H16 ⟨x12, x13, kv16, rfl, e16, eB16, h16, l16, vp16, _⟩
  rw [hv2] at l16
  have hPg16 : PgAt H16 pg μ := hPg12.st eB16 npg p12.at_
  have hM16 := hM.keep e16
  have hfr8 : fr μ 8 = [31] := by
    have h := hA.dev
    rw [framesV_eq] at h
    have hl := congrArg List.length h
    rw [List.length_map] at hl
    match hq : fr μ 8, hl with
    | [a], _ =>
      rw [hq] at h
      have : V.int (a : Int) = V.int 31 := List.head_eq_of_cons_eq h
      have : (a : Int) = 31 := V.int.inj this
      have : a = 31 := by omega
      rw [this]
  refine q_stD (k := Sum.inr "devices") (Pk := fun D kvs H' => KvOk (fun i => Sum.inl (((fr μ 8).getD i 0 : Nat) : Int)) (fun _ => true) (fun i v H => ∃ d g ds gs, v = .ref d ∧ DevD H d g ds gs μ (((fr μ 8).getD i 0 : Nat) : Int) ∧ d ≠ D ∧ g ≠ D ∧ d ≠ st ∧ g ≠ st) (framesV μ 8).length kvs H') e16 hst h16 l16 (by decide) ?_ (fun H1 e => ev_var rfl) (fun H1 e => ev_c) fun dv dk Hv17 H17 kv17 hdv e17 hdk ok17 p17 => ?_
  · refine ed_fr (fun D i v H => ∃ d g ds gs, v = .ref d ∧ DevD H d g ds gs μ (((fr μ 8).getD i 0 : Nat) : Int) ∧ d ≠ D ∧ g ≠ D ∧ d ≠ st ∧ g ≠ st) hM16 (ev_var rfl) (fun D i v H H' x ⟨d, g, ds, gs, a, b, c1, c2, c3, c4⟩ => ⟨d, g, ds, gs, a, b.keep x c1 c2, c1, c2, c3, c4⟩) (fun x => rfl) (fun x => rfl) fun D i f H1 e1 ⟨kvD, hne⟩ hfi hf H2 e2 Q q => ?_
    have hfe : (fr μ 8).getD i 0 = f := by rw [List.getD_eq_getElem?_getD, hfi]; rfl
    rw [hfe] at q
    refine (ea_cons (ev_var rfl) (ea_cons (ev_var rfl) ea_nil) : EvA _ _ H1 [.ref m, .int (f : Int)]) H2 e2 _ fun H3 e3 => ⟨m, wl, μ, (f : Int), rfl, ((hM16.keep e1).keep e2).keep e3, ⟨by omega, by omega⟩, fun d g ds gs H4 hd hg e4 hdd => q _ H4 (e3.trans e4) ⟨d, g, ds, gs, rfl, hdd, fun z => ?_, fun z => ?_, fun z => ?_, fun z => ?_⟩⟩
    · rw [z, (e2.trans e3) _ _ hne] at hd; cases hd
    · rw [z, (e2.trans e3) _ _ hne] at hg; cases hg
    · rw [z, ((e1.trans e2).trans e3) _ _ h16] at hd; cases hd
    · rw [z, ((e1.trans e2).trans e3) _ _ h16] at hg; cases hg
  have ndv : dv ≠ st := fun z => by rw [z, h16] at hdv; cases hdv
  have hDv17 : DvAt H17 st dv μ := by
    obtain ⟨v, hv, d, g, ds, gs, rfl, hdd, _, _, n1, n2⟩ := ok17.at (i := 0) fr_inj (by rw [framesV_len, hfr8]; decide) rfl
    rw [hfr8] at hv hdd
    exact (show DvAt Hv17 st dv μ from ⟨dk, d, g, ds, gs, hdk, hv, hdd, ndv, n1, n2⟩).st p17.eb
  have hPg17 : PgAt H17 pg μ := (hPg16.st (ExB.of e17) npg h16).st p17.eb npg (e17 _ _ h16)
  have vp17 : valV kv17 (Sum.inr "pages") = some (.ref pg) := by rw [p17.val, if_neg (by decide)]; exact vp16
  have vd17 : valV kv17 (Sum.inr "devices") = some (.ref dv) := by rw [p17.val, if_pos rfl]
  have hD17 := hD.keep p17.ex
  refine q_stD (k := Sum.inr "disks") (Pk := fun D kvs H' => KvOk (fun _ => Sum.inl 31) (fun _ => true) (fun i v H => ∃ rt, v = .ref rt ∧ RowsTn D H rt rows) [V.int 31].length kvs H') p17.ex hst p17.at_ p17.len (by decide) ?_ (fun H1 e => ev_var rfl) (fun H1 e => ev_c) fun kd kk Hv18 H18 kv18 hkd e18 hkk ok18 p18 => ?_
  · refine ed_NL (K := K) (xs := [.int 31]) (fun _ => Sum.inl 31) (fun _ => true) (fun D i v H => ∃ rt, v = .ref rt ∧ RowsTn D H rt rows) ?_ (by decide) (fun i j hi hj _ => by have : i < 1 := hi; have : j < 1 := hj; omega) (fun D i v H H' x ⟨rt, a, b⟩ => ⟨rt, a, b.keep x⟩) (fun x => rfl) fun D i y H1 e1 hne hy => ?_
    · exact fun H1 e Q q => ⟨_, rfl, m, dx, _, rfl, (hD17.keep e).ins, rfl, m, wl, dx, dd, rl, rows, rfl, hD17.keep e, fun p H2 hp e2 h2 => q p H2 hp e2 h2⟩
    · have hi : i < 1 := (List.getElem?_eq_some_iff.mp hy).1
      obtain rfl : i = 0 := by omega
      cases hy
      exact ⟨et_yes, fun _ => ⟨ev_var rfl, ep_diskN (hD17.keep e1) (ev_var rfl) (ev_var rfl) hne⟩⟩
  have nkd : kd ≠ st := fun z => by rw [z, p17.at_] at hkd; cases hkd
  have hDk18 : DkAt H18 kd rows := by
    have hl1 : kk.length = 1 := ok18.len
    match kk, hl1 with
    | [(kx, vx)], _ =>
      obtain ⟨i, hi, _, h3, rt, h4, h5⟩ := ok18.2 _ (List.mem_singleton.mpr rfl)
      simp only at h3 h4
      subst h3 h4
      exact (show DkAt Hv18 kd rows from ⟨rt, hkk, h5.rows⟩).st p18.eb nkd (e18 _ _ p17.at_)
  have hPg18 : PgAt H18 pg μ := (hPg17.st (ExB.of e18) npg p17.at_).st p18.eb npg (e18 _ _ p17.at_)
  have hDv18 : DvAt H18 st dv μ := (hDv17.st (ExB.of e18)).st p18.eb
  have vp18 : valV kv18 (Sum.inr "pages") = some (.ref pg) := by rw [p18.val, if_neg (by decide)]; exact vp17
  have vd18 : valV kv18 (Sum.inr "devices") = some (.ref dv) := by rw [p18.val, if_neg (by decide)]; exact vd17
  have vk18 : valV kv18 (Sum.inr "disks") = some (.ref kd) := by rw [p18.val, if_pos rfl]
  refine q_stD (k := Sum.inr "ready") p18.ex hst p18.at_ p18.len (by decide) ed_new (fun H1 e => ev_var rfl) (fun H1 e => ev_c) fun rd kr0 Hv19 H19 kv19 hrd e19 hkr hkr0 p19 => ?_
  subst hkr0
  have nrd : rd ≠ st := fun z => by rw [z, p18.at_] at hrd; cases hrd
  have eB19 : ExB st H18 H19 := (ExB.of e19).trans p19.eb
  have vp19 : valV kv19 (Sum.inr "pages") = some (.ref pg) := by rw [p19.val, if_neg (by decide)]; exact vp18
  have vd19 : valV kv19 (Sum.inr "devices") = some (.ref dv) := by rw [p19.val, if_neg (by decide)]; exact vd18
  have vk19 : valV kv19 (Sum.inr "disks") = some (.ref kd) := by rw [p19.val, if_neg (by decide)]; exact vk18
  have vr19 : valV kv19 (Sum.inr "ready") = some (.ref rd) := by rw [p19.val, if_pos rfl]
  have hrd19 : H19 rd = some (.dK []) := p19.eb _ _ hkr nrd
  have hrdH : H rd = none := fresh_back p18.ex hrd
  refine KA.q_forR1 (j := 2 * 4) (ea_cons (ev_op ev_c ev_c (rv_I (.inr ⟨by decide, by decide⟩))) ea_nil) (by decide) (fun i σ' H' => ∃ x3 x16 kr, σ' = [some (.ref m), some (.ref st), some (.ref wd), x3, none, some (.ref ld), none, x7, none, none, none, none, x12, x13, none, none, x16] ∧ Ex H H' ∧ ExB st H18 H' ∧ H' st = some (.dK kv19) ∧ H' rd = some (.dK kr) ∧ kr.length ≤ i)
    (fun H20 e20 => ⟨none, none, [], rfl, p19.ex.trans e20, eB19.trans (ExB.of e20), e20 _ _ p19.at_, e20 _ _ hrd19, Nat.le_refl _⟩) ?_ ?_
  · rintro i σ' H' hi ⟨x3, x16, kr, rfl, eH, eB, hs', hr', hl'⟩
    have hi8 : i < 8 := by omega
    obtain ⟨q, hq, hql⟩ := hA.rq i hi8
    have hM' := hM.keep eH
    refine q_asgU (xs := q.map V.int) (eu_tupNL (K := K) ?_) fun rw_ H20 hrw e20 h20 => ?_
    · intro H1 e1 Q qq
      have hMq := hM'.keep e1
      refine ⟨_, rfl, ?_⟩
      refine (eu_tup (ea_cons ev_c (ea_cons (ev_op ev_c (ev_var rfl) rv_I0) (ea_cons (ev_op ev_c (ev_var rfl) rv_I0) ea_nil))) (by show 3 ≤ 100000; decide) : EvU _ _ H1 [.int 0, .int (4 + (0 + (i : Int))), .int (12 + (0 + (i : Int)))]) H1 (Ex.refl H1) _ fun pl H2 hpl e2 h2 => ?_
      exact ⟨m, wl, pl, μ, 0, 4 + (0 + (i : Int)), 12 + (0 + (i : Int)), q, rfl, hMq.keep e2, h2, by omega, by rw [Int.zero_add]; exact hq, hql, fun p H3 hp e3 h3 => qq p H3 (fresh_back e2 hp) (e2.trans e3) h3⟩
    refine s_when (et_truT (K := K) (ev_var rfl) (st_of h20)) (fun hb H21 e21 => ?_) (fun hb H21 e21 => ?_)
    · have e2021 := e20.trans e21
      refine s_dputV (k := Sum.inl (0 + (i : Int))) (a := rd) (ev_var rfl) (ev_dg (k := Sum.inr "ready") (ev_var rfl) ev_c (e2021 _ _ hs') vr19) (ev_var rfl) (e2021 _ _ hr') (by omega) fun H22 e22 => ?_
      refine ⟨_, _, _, rfl, Ex.mut ((eH.trans e2021).trans e22) hrdH, fun b o hb nb => ?_, by rw [upd_ne (Ne.symm nrd)]; exact e22 _ _ (e2021 _ _ hs'), upd_same, ?_⟩
      · rw [upd_ne (fun z => by rw [z, hrd] at hb; cases hb)]
        exact e22 _ _ (e2021 _ _ (eB _ _ hb nb))
      · have := length_putK kr (Sum.inl (0 + (i : Int))) (.ref rw_)
        omega
    · have e2021 := e20.trans e21
      exact ⟨_, _, kr, rfl, eH.trans e2021, eB.trans (ExB.of e2021), e2021 _ _ hs', e2021 _ _ hr', by omega⟩
  rintro σ' H20 ⟨x3, x16, kr, rfl, e20, eB20, h20, _, _⟩
  refine s_ret (ev_var rfl) fun H21 e21 => k st H21 hst (e20.trans e21) ⟨kv19, pg, dv, kd, e21 _ _ h20, vp19, (hPg18.st eB20 npg p18.at_).st (ExB.of e21) npg h20, vd19, (hDv18.st eB20).st (ExB.of e21), vk19, (hDk18.st eB20 nkd p18.at_).st (ExB.of e21) nkd h20⟩
end
end KQ

namespace KQ
open KA
open PySem PySem.Spec PyProof.Rows L2 Evl TL
/-- FunD.ok, the code object known -/
theorem fun_okC {P : Program} {w : World} {K : PySem.W.Frag} {mg : Str → Option Value} {base : Heap} {x qual : Str} {params : Arguments} {body : List Stmt} {scope : Scope} {dvs : List V} {kws : List (Str × V)} {f : Addr} {fd : FuncData} {CX : CXT} {N ps : List Str} {k : Nat} {sp : Sp} (F : FunD K x qual params body scope dvs kws f fd) (S : FnScope N ps scope) (len : ∀ vs H Q E, sp vs H Q E → vs.length = ps.length)
    (hbody : ∀ (A : Around) (outer : List Env) (s : Shared) (H : Hp) (vs : List V) (Q : VK) (E : XK), Room k (A.deeper (envOfC qual scope s.heap.objs.size f fd.code)) → sp vs H Q E →
      ∃ t, PSs (cxOf CX P w K mg base N qual scope f fd.code A outer s H E) body t ∧ t { nx := fun _ H' => Q .non H', rt := Q } (L2.start N vs) H) : FnOk P w K mg base CX (k + 1) f fd ps sp := by
  obtain ⟨oc, od, dV, kV, doc, pm, an, cdv, ct, osl, rfl, lk, hcd, _, _⟩ := F.ex
  exact fn_of lk hcd S len fun A outer s H vs Q E hr hsp => hbody A outer s H vs Q E hr hsp
section
variable {X : Cx}
/-- refused: try: a() / except x: return True; return False -/
def TTref (K : PySem.W.Frag) (CS : Addr) : (XK → Hp → VK → Prop) → Hp → VK → Prop := fun tl H Q =>
  tl (fun cls _ H' => ∃ b, PySem.W.exmOne K cls (.ref CS) = some b ∧ (b = true → Q (.bl true) H') ∧ (b = false → False)) H (fun _ H' => Q (.bl false) H')
theorem refused_gives {Ng : List Str} {x a e q : Str} {sg : Scope} {g CS : Addr} {cdg : Value} {j j2 : Nat} {p1 p2 p3 p4 p5 p6 p7 p8 p9 p10 : Pos} (hge : sg.names.lookup e = some .globalImplicit) (hme : X.mg e = some (.ref CS)) (hde : (e == ("__debug__" : Str)) = false) (h0 : ∀ f : Addr, (L2.start Ng [V.ref f])[0]? = some (some (V.ref f))) :
    LamX.GivesTo X Ng x sg g cdg [.Try [.Expr (.Call (.Name a p1) [] [] p2) p3] [.ExceptHandler (some (.Name e p4)) none [.Return (some (.Constant (.bool true) j p5)) p6] p7] [] [] p8, .Return (some (.Constant (.bool false) j2 p9)) p10] a q (TTref X.K CS) := by
  intro f c' s H Q tl act hc h
  have hgl : Gl (cxOf C8.CX0 X.prog X.w X.K X.mg X.base Ng x sg g cdg X.A X.stack s H C8.E0).nox e := hge
  refine ⟨_, pss_cons (ps_try_only (X := (cxOf C8.CX0 X.prog X.w X.K X.mg X.base Ng x sg g cdg X.A X.stack s H C8.E0).nox) (c := .ref CS)
      (tb := fun W D σ H => ∃ Ech : XK, (∀ cls d σ' H', Ech cls d H' → W cls d σ' H') ∧ σ[0]? = some (some (.ref f)) ∧ H c' = some (LamX.CodeO c' q) ∧ tl Ech H (fun _ H' => D.nx σ H'))
      rfl rfl ⟨hgl, hde, .inl hme⟩ LamX.takes0 (fun W pn xe tk _ => ?_) (fun a oe cls d pn _ _ => pss_one (ps_ret pe_bl))) (pss_one (ps_ret pe_bl)), ?_⟩
  · refine ⟨fun pins s' σ H' D I h' => ?_⟩
    obtain ⟨Ech, hW, h1, h2, h3⟩ := h'
    have hp := act W pn xe Ech p1 p2 tk hW
    have hq := pss_one (ps_expr (pos := p3) hp)
    exact hq.run pins s' σ H' D I ⟨h1, h2, h3⟩
  · exact ⟨fun cls _ H' => ∃ b, PySem.W.exmOne X.K cls (.ref CS) = some b ∧ (b = true → Q (.bl true) H') ∧ (b = false → False), fun cls d σ' H' ⟨b, e1, e2, e3⟩ => ⟨b, e1, fun hb a _ => e2 hb, fun hb => e3 hb⟩, h0 f, hc, h⟩
end
section
variable {P : Program} {w : World} {K : PySem.W.Frag} {mg : Str → Option Value} {base : Heap}
def putr (μ : Mem) (a : Nat → Int) : Nat → Mem
  | 0 => μ
  | k + 1 => mset (putr μ a k) (ix 3 (2 + ((k : Int) + 1))) (a k)
def sp_law_trapped (K : PySem.W.Frag) : Sp := fun vs H Q _ => ∃ (m wl dx dd rl ta : Addr) (rows : List (List Int)) (μ : Mem) (n a0 a1 a2 a3 : Int) (r : Mem × Int), vs = [.ref m, .int n, .ref ta] ∧ MemAt K H m wl μ ∧ DiskAt K H m wl dx dd rl rows ∧ H ta = some (.tup [.int a0, .int a1, .int a2, .int a3]) ∧ μ (ix 1 3) = 5 ∧
  (∀ μ1, μ1 = putr μ (at0 [a0, a1, a2, a3]) 4 → CapsIn μ1 3 ∧ ((n = 12 ∧ ∃ s, MapAsk μ1 3 s ∧ r = mapD μ1 3 s) ∨ (n = 13 ∧ UnmapAsk μ1 3 ∧ r = unmapD μ1 3) ∨ (n = 18 ∧ (∀ s w, ownC μ1 3 (reg μ1 3 1) 8 2 = (some s, w) → fld μ1 s 1 = 31) ∧ r = orderD μ1 3 rows.length) ∨ (n = 19 ∧ (∀ s w, ownC μ1 3 (reg μ1 3 1) 8 1 = (some s, w) → fld μ1 s 1 = 31) ∧ r = statusD μ1 3))) ∧
  ∀ H', MemAt K H' m wl (trapped r 3) → Fr wl H H' → Q (.int (trapped r 3 (ix 3 2))) H'
theorem ok_law_trapped (T : Txt K mg) : FnOk P w K mg base CX0 9 (f_law_trapped K) (fd_law_trapped K) ["memory", "number", "arguments"] (sp_law_trapped K) := by
  refine T.fn_law_trapped.ok sc_law_trapped (fun vs H Q E h => ?_) (fun cdv A outer s H vs Q E hr h => ⟨_, PSs.nox (pss_cons (ps_for PassesOwn.never rfl (pi_range1 (by rfl) T.free_range (pa_cons pe_int pa_nil)) (pg_name (i := 3) sc_law_trapped.nd rfl (Or.inl rfl)) (pss_one (ps_expr (pe_call (ok_put_register T) (hr.mono (by decide)) (by rfl) (T.glo_put_register) (T.kp_put_register) (T.bd_put_register) .nil pass0 (pa_cons (pv 0) (pa_cons pe_int (pa_cons (pe_op op_add (pv 3) pe_int) (pa_cons (pe_ix ix_tup (pv 2) (pv 3) (fun _ _ => rfl)) pa_nil)))))))) (pss_cons (ps_expr (pe_call (ok_any_trap T) (hr.mono (by decide)) (by rfl) (T.glo_any_trap) (T.kp_any_trap) (T.bd_any_trap) .nil pass0 (pa_cons (pv 0) (pa_cons pe_int (pa_cons (pv 1) pa_nil))))) (pss_one (ps_ret (pe_call (ok_get_register T) (hr.mono (by decide)) (by rfl) (T.glo_get_register) (T.kp_get_register) (T.bd_get_register) .nil pass0 (pa_cons (pv 0) (pa_cons pe_int (pa_cons pe_int pa_nil)))))))), ?_⟩)
  · obtain ⟨_, _, _, _, _, _, _, _, _, _, _, _, _, _, rfl, _⟩ := h
    rfl
  · obtain ⟨m, wl, dx, dd, rl, ta, rows, μ, n, a0, a1, a2, a3, r, rfl, hM, hD, hta, h5, hn, k⟩ := h
    obtain ⟨μ1, hμ1⟩ : ∃ μ1, μ1 = putr μ (at0 [a0, a1, a2, a3]) 4 := ⟨_, rfl⟩
    have h51 : μ1 (ix 1 3) = 5 := by rw [hμ1]; exact h5
    have hn := hn μ1 hμ1
    refine KA.q_forR1 (j := 4) (ea_cons ev_c ea_nil) (by decide) (fun i σ' H' => ∃ x3, σ' = [some (.ref m), some (.int n), some (.ref ta), x3] ∧ MemAt K H' m wl (putr μ (at0 [a0, a1, a2, a3]) i) ∧ Fr wl H H') (fun H1 e1 => ⟨none, rfl, hM.keep e1, Fr.of e1⟩) ?_ ?_
    · rintro i σ' H' hi ⟨x3, rfl, hM', f'⟩
      have hi4 : i < 4 := by omega
      have hta' : H' ta = some (.tup [.int a0, .int a1, .int a2, .int a3]) := f' _ _ hta (ne_of hta hM.ws (by intro z; cases z))
      refine s_preg (t := 3) (n := 0 + (i : Int) + 1) (x := at0 [a0, a1, a2, a3] i) hM' (ev_var rfl) ev_c (ev_op (ev_var rfl) ev_c rv_I0) (ev_op (ev_var rfl) (ev_var rfl) (Evl.rv_ixT (st_of hta') ?_)) (by decide) (by omega) (by omega) fun H2 h2 f2 => ⟨_, rfl, ?_, f'.trans f2⟩
      · rw [Int.zero_add]
        match i, hi4 with
        | 0, _ => rfl
        | 1, _ => rfl
        | 2, _ => rfl
        | 3, _ => rfl
      · rw [Int.zero_add] at h2
        exact h2
    rintro σ' H1 ⟨x3, rfl, hM1, f1⟩
    have hM1 : MemAt K H1 m wl μ1 := by rw [hμ1]; exact hM1
    refine ⟨_, rfl, _, rfl, m, wl, dx, dd, rl, rows, μ1, 3, n, r, rfl, hM1, hD.words hM f1, by decide, by decide, h51, hn.1, hn.2, fun H2 h2 f2 => ?_⟩
    exact s_ret (ev_greg h2 (ev_var rfl) ev_c ev_c (by decide) (by decide) (by decide)) fun H3 e3 => k H3 (h2.keep e3) ((f1.trans f2).trans (Fr.of e3))
end
end KQ

namespace KD
open KA
open PySem PySem.Spec PyProof.Rows L2 Evl TL
/-! ### the law's tape: a dict; each draw is some number below what is asked -/
def tapeKV (ca : Addr) (at_ left seed salt : Int) : List (Key × V) := [(.inr "cells", .ref ca), (.inr "at", .int at_), (.inr "left", .int left), (.inr "seed", .int seed), (.inr "salt", .int salt)]
structure TapeAt (H : Hp) (d ca : Addr) : Prop where
  ex : ∃ (cs : List Int) (at_ : Nat) (left seed salt : Int), H d = some (.dK (tapeKV ca at_ left seed salt)) ∧ H ca = some (.lst (cs.map V.int)) ∧ (∀ c ∈ cs, 0 ≤ c) ∧ 0 ≤ left ∧ 0 ≤ seed ∧ seed < 2147483647
theorem TapeAt.keep {H H' : Hp} {d ca : Addr} (h : TapeAt H d ca) (k : ∀ b o, H b = some o → H' b = some o) : TapeAt H' d ca := by
  obtain ⟨cs, at_, left, seed, salt, h1, h2, h3⟩ := h.ex
  exact ⟨⟨cs, at_, left, seed, salt, k _ _ h1, k _ _ h2, h3⟩⟩
section
variable (ca : Addr) (a b c e : Int) (x : V)
theorem tk_cells : valV (tapeKV ca a b c e) (Sum.inr "cells" : Key) = some (.ref ca) := by rfl
theorem tk_at : valV (tapeKV ca a b c e) (Sum.inr "at" : Key) = some (.int a) := by rfl
theorem tk_left : valV (tapeKV ca a b c e) (Sum.inr "left" : Key) = some (.int b) := by rfl
theorem tk_seed : valV (tapeKV ca a b c e) (Sum.inr "seed" : Key) = some (.int c) := by rfl
theorem tk_salt : valV (tapeKV ca a b c e) (Sum.inr "salt" : Key) = some (.int e) := by rfl
theorem tp_at (i : Int) : putK (tapeKV ca a b c e) (Sum.inr "at" : Key) (.int i) = tapeKV ca i b c e := by rfl
theorem tp_left (i : Int) : putK (tapeKV ca a b c e) (Sum.inr "left" : Key) (.int i) = tapeKV ca a i c e := by rfl
theorem tp_salt (i : Int) : putK (tapeKV ca a b c e) (Sum.inr "salt" : Key) (.int i) = tapeKV ca a b c i := by rfl
end
theorem TapeAt.there {H : Hp} {d ca : Addr} (h : TapeAt H d ca) : (∃ o, H d = some o) ∧ ∃ o, H ca = some o := by
  obtain ⟨cs, at_, left, seed, salt, h1, h2, h3⟩ := h.ex
  exact ⟨⟨_, h1⟩, _, h2⟩
theorem TapeAt.upd {H : Hp} {d ca l : Addr} {o : HO} (h : TapeAt H d ca) (n1 : l ≠ d) (n2 : l ≠ ca) : TapeAt (L2.upd H l o) d ca := by
  obtain ⟨cs, at_, left, seed, salt, h1, h2, h3⟩ := h.ex
  exact ⟨⟨cs, at_, left, seed, salt, by rw [upd_ne (Ne.symm n1)]; exact h1, by rw [upd_ne (Ne.symm n2)]; exact h2, h3⟩⟩
theorem TapeAt.ne {H : Hp} {d ca l : Addr} (h : TapeAt H d ca) (hl : H l = none) : l ≠ d ∧ l ≠ ca := by
  obtain ⟨⟨o, h1⟩, o', h2⟩ := h.there
  exact ⟨fun z => (by rw [z, h1] at hl; cases hl), fun z => (by rw [z, h2] at hl; cases hl)⟩
/-- all stands but d -/
def FrD (d : Addr) (H H' : Hp) : Prop := ∀ b o, H b = some o → b ≠ d → H' b = some o
theorem FrD.of {d : Addr} {H H' : Hp} (e : Ex H H') : FrD d H H' := fun b o h _ => e b o h
theorem FrD.trans {d : Addr} {H H1 H2 : Hp} (a : FrD d H H1) (b : FrD d H1 H2) : FrD d H H2 := fun c o h n => b c o (a c o h n) n
theorem FrD.upd {d : Addr} {H H' : Hp} {o : HO} (a : FrD d H H') : FrD d H (L2.upd H' d o) := fun b u h n => by rw [upd_ne n]; exact a b u h n
theorem FrD.put {d : Addr} {H : Hp} {o : HO} : FrD d H (L2.upd H d o) := fun b u h n => by rw [upd_ne n]; exact h
section
variable {σ : L2.St} {H : Hp} {K : PySem.W.Frag} {D : Ends}
theorem ev_dget {td : TE} {d : Addr} {kvs : List (Key × V)} {k : Key} {v : V} (hd : Ev td σ H (.ref d)) (h : H d = some (.dK kvs)) (e : valV kvs k = some v) : Ev (tDGet td (tC (kV k))) σ H v := fun H1 x Q q =>
  hd H1 x _ fun H2 x2 => ⟨d, v, rfl, e ▸ DGet.k (x2 _ _ (x _ _ h)), q H2 x2⟩
theorem q_dput {td tv : TE} {tz : TS} {d : Addr} {kvs : List (Key × V)} {k : Key} {v : V} (hv : Ev tv σ H v) (hd : Ev td σ H (.ref d)) (h : H d = some (.dK kvs)) (hl : kvs.length < 1000) (kk : ∀ H1, Ex H H1 → tz D σ (upd H1 d (.dK (putK kvs k v)))) :
    tSeq (sDPut td (tC (kV k)) tv) tz D σ H := hv H (Ex.refl H) _ fun H1 e1 => hd H1 e1 _ fun H2 e2 => ⟨d, _, rfl, DPut.k ((e1.trans e2) _ _ h) (by show kvs.length < sizeLine; exact Nat.lt_of_lt_of_le hl (by decide)), kk H2 (e1.trans e2)⟩
theorem s_dput {td tv : TE} {d : Addr} {kvs : List (Key × V)} {k : Key} {v : V} (hv : Ev tv σ H v) (hd : Ev td σ H (.ref d)) (h : H d = some (.dK kvs)) (hl : kvs.length < 1000) (kk : ∀ H1, Ex H H1 → D.nx σ (upd H1 d (.dK (putK kvs k v)))) :
    sDPut td (tC (kV k)) tv D σ H := hv H (Ex.refl H) _ fun H1 e1 => hd H1 e1 _ fun H2 e2 => ⟨d, _, rfl, DPut.k ((e1.trans e2) _ _ h) (by show kvs.length < sizeLine; exact Nat.lt_of_lt_of_le hl (by decide)), kk H2 (e1.trans e2)⟩
theorem ev_int1 {ta : TE} {i : Int} (ha : Ev ta σ H (.int i)) : Ev (tCB (fun xs H Q => (∃ i, xs = [.int i] ∧ Q (.int i) H) ∨ ∃ k, xs = [.bl k] ∧ Q (.int (if k then 1 else 0)) H) (tCons ta tNil)) σ H (.int i) := fun H1 e Q q =>
  ha H1 e _ fun H2 e2 => .inl ⟨i, rfl, q H2 e2⟩
theorem ev_lenL' {p : Addr} {xs : List V} {ta : TE} (ha : Ev ta σ H (.ref p)) (h : SqL K H p xs) : Ev (tCB (fun xs H Q => ∃ x n, xs = [x] ∧ LenV K x H n ∧ Q (.int n) H) (tCons ta tNil)) σ H (.int (xs.length : Int)) := fun H1 e Q q =>
  ha H1 e _ fun H2 e2 => ⟨_, xs.length, rfl, .inl ⟨_, ex_l (e.trans e2) h, rfl⟩, q H2 e2⟩
theorem ev_abs {ta : TE} {i : Int} (ha : Ev ta σ H (.int i)) : Ev (tCB (fun xs H Q => ∃ i : Int, xs = [.int i] ∧ Q (.int (if i < 0 then -i else i)) H) (tCons ta tNil)) σ H (.int (if i < 0 then -i else i)) := fun H1 e Q q =>
  ha H1 e _ fun H2 e2 => ⟨i, rfl, q H2 e2⟩
end
section
variable {P : Program} {w : World} {K : PySem.W.Frag} {mg : Str → Option Value} {base : Heap}
def sp_law_take : Sp := fun vs H Q _ => ∃ (d ca : Addr) (many : Int), vs = [.ref d, .int many] ∧ TapeAt H d ca ∧ 0 < many ∧ many < 1073741824 ∧ ∀ (v : Int) (H' : Hp), 0 ≤ v → v < many → TapeAt H' d ca → FrD d H H' → Q (.int v) H'
theorem ok_law_take (T : Txt K mg) : FnOk P w K mg base CX0 1 (f_law_take K) (fd_law_take K) ["tape", "many"] sp_law_take := by
  refine T.fn_law_take.ok sc_law_take (fun vs H Q E h => ?_) (fun cdv A outer s H vs Q E hr h => ?_)
  · obtain ⟨_, _, _, rfl, _⟩ := h
    rfl
  have hu := hu_of hr
  refine ⟨_, PSs.nox (pss_cut (ps_if (PW.pt (pw_and (pt_cmpR op_eq (pe_dget hu (pv 0) pe_str (fun _ _ => rfl)) pe_int (nomark _)) (pw_and1 (pt_cmpR op_lt (pe_dget hu (pv 0) pe_str (fun _ _ => rfl)) (pe_callB call_len (by rfl) T.free_len PySem.boot_len (pa_cons (pe_dget hu (pv 0) pe_str (fun _ _ => rfl)) pa_nil)) (nomark _))))) (pss_cons (ps_dput hu (pv 0) pe_str (pe_ix ix_list (pe_dget hu (pv 0) pe_str (fun _ _ => rfl)) (pe_dget hu (pv 0) pe_str (fun _ _ => rfl)) (fun _ _ => rfl)) rfl) (pss_one (ps_dput hu (pv 0) pe_str (pe_op op_add (pe_dget hu (pv 0) pe_str (fun _ _ => rfl)) pe_int) rfl))) pss_nil) (pss_cons (ps_if (pt_cmpR op_gt (pe_dget hu (pv 0) pe_str (fun _ _ => rfl)) pe_int (nomark _)) (pss_cons (ps_set (i := 2) sc_law_take.nd rfl (Or.inl rfl) (pe_op op_mod (pe_callTy call_int1 (by rfl) T.free_int (by decide +kernel) (pa_cons (pe_dget hu (pv 0) pe_str (fun _ _ => rfl)) pa_nil)) (pv 1))) (pss_cons (ps_dput hu (pv 0) pe_str (pe_op op_fdiv (pe_dget hu (pv 0) pe_str (fun _ _ => rfl)) (pv 1)) rfl) (pss_one (ps_ret (pv 2))))) pss_nil) (pss_cons (ps_dput hu (pv 0) pe_str (pe_op op_add (pe_dget hu (pv 0) pe_str (fun _ _ => rfl)) pe_int) rfl) (pss_cons (ps_set (i := 3) sc_law_take.nd rfl (Or.inl rfl) (pe_op op_mod (pe_callTy call_int1 (by rfl) T.free_int (by decide +kernel) (pa_cons (pe_op op_add (pe_op op_mul (pe_dget hu (pv 0) pe_str (fun _ _ => rfl)) pe_int) (pe_op op_mul (pe_dget hu (pv 0) pe_str (fun _ _ => rfl)) pe_int)) pa_nil)) pe_int)) (pss_cons (ps_set (i := 3) sc_law_take.nd rfl (Or.inl rfl) (pe_op op_mod (pe_callTy call_int1 (by rfl) T.free_int (by decide +kernel) (pa_cons (pe_op op_add (pe_op op_add (pe_op op_mul (pv 3) (pv 3)) (pe_op op_mul (pe_dget hu (pv 0) pe_str (fun _ _ => rfl)) pe_int)) pe_int) pa_nil)) pe_int)) (pss_one (ps_ret (pe_op op_mod (pe_callTy call_int1 (by rfl) T.free_int (by decide +kernel) (pa_cons (pv 3) pa_nil)) (pv 1))))))))), ?_⟩
  obtain ⟨d, ca, many, rfl, ⟨cs, at_, left, seed, salt, h1, h2, hcs, hl0, hs0, hs1⟩, hm0, hm1, k⟩ := h
  have nca : ca ≠ d := ne_of h2 h1 (by intro z; cases z)
  refine q_cut (M := fun σ' H1 => σ' = L2.start sc_law_take_N [V.ref d, V.int many] ∧ ∃ (at2 : Nat) (left2 : Int), FrD d H H1 ∧ H1 d = some (.dK (tapeKV ca at2 left2 seed salt)) ∧ 0 ≤ left2) ?_ ?_
  · refine s_when (b := decide (V.int left = V.int 0) && decide ((at_ : Int) < (((cs.map V.int).length : Nat) : Int))) (et_and (et_test (ev_op (ev_dget (k := .inr "left") (ev_var rfl) h1 (tk_left ..)) ev_c (rv_eq rfl))) fun _ => et_test (ev_op (ev_dget (k := .inr "at") (ev_var rfl) h1 (tk_at ..)) (ev_lenL' (ev_dget (k := .inr "cells") (ev_var rfl) h1 (tk_cells ..)) (sq_of h2)) rv_I0)) (fun hb H1 e1 => ?_) (fun hb H1 e1 => ⟨rfl, at_, left, FrD.of e1, e1 _ _ h1, hl0⟩)
    simp only [Bool.and_eq_true, decide_eq_true_eq, List.length_map] at hb
    have hlt : at_ < cs.length := by omega
    have hc : 0 ≤ cs[at_] := hcs _ (List.getElem_mem hlt)
    refine q_dput (k := .inr "left") (v := .int cs[at_]) (ev_op (ev_dget (k := .inr "cells") (ev_var rfl) (e1 _ _ h1) (tk_cells ..)) (ev_dget (k := .inr "at") (ev_var rfl) (e1 _ _ h1) (tk_at ..)) (rv_ixL (sq_of (e1 _ _ h2)) (atI_nat (by rw [List.getElem?_map, List.getElem?_eq_getElem hlt]; rfl)))) (ev_var rfl) (e1 _ _ h1) (by show 5 < 1000; decide) fun H2 e2 => ?_
    rw [tp_left]
    refine s_dput (k := .inr "at") (v := .int ((at_ : Int) + 1)) (ev_op (ev_dget (k := .inr "at") (ev_var rfl) upd_same (tk_at ..)) ev_c rv_I0) (ev_var rfl) upd_same (by show 5 < 1000; decide) fun H3 e3 => ?_
    rw [tp_at]
    exact ⟨rfl, at_ + 1, cs[at_], ((((FrD.of (e1.trans e2)).upd).trans (FrD.of e3)).upd), upd_same, hc⟩
  · rintro σ' H1 ⟨rfl, at2, left2, fr, g1, gl0⟩
    have g2 := fr _ _ h2 nca
    refine q_when (b := decide (0 < left2)) (et_test (ev_op (ev_dget (k := .inr "left") (ev_var rfl) g1 (tk_left ..)) ev_c rv_I0)) (fun hb H2 e2 => ?_) (fun hb H2 e2 => ?_)
    · refine q_asg (v := .int (left2 % many)) (ev_op (ev_int1 (ev_dget (k := .inr "left") (ev_var rfl) (e2 _ _ g1) (tk_left ..))) (ev_var rfl) (rv_I hm0)) fun H3 e3 => ?_
      have e23 := e2.trans e3
      refine q_dput (k := .inr "left") (v := .int (left2 / many)) (ev_op (ev_dget (k := .inr "left") (ev_var rfl) (e23 _ _ g1) (tk_left ..)) (ev_var rfl) (rv_I ⟨hm0, hm1⟩)) (ev_var rfl) (e23 _ _ g1) (by show 5 < 1000; decide) fun H4 e4 => ?_
      rw [tp_left]
      refine s_ret (ev_var rfl) fun H5 e5 => k _ _ (Int.emod_nonneg _ (by omega)) (Int.emod_lt_of_pos _ hm0) ⟨⟨cs, at2, left2 / many, seed, salt, e5 _ _ upd_same, e5 _ _ (by rw [upd_ne nca]; exact e4 _ _ (e23 _ _ g2)), hcs, Int.ediv_nonneg gl0 (by omega), hs0, hs1⟩⟩ ((fr.trans (FrD.of (e23.trans e4))).upd.trans (FrD.of e5))
    · refine q_dput (k := .inr "salt") (v := .int (salt + 1)) (ev_op (ev_dget (k := .inr "salt") (ev_var rfl) (e2 _ _ g1) (tk_salt ..)) ev_c rv_I0) (ev_var rfl) (e2 _ _ g1) (by show 5 < 1000; decide) fun H3 e3 => ?_
      rw [tp_salt]
      have g3 : (upd H3 d (.dK (tapeKV ca at2 left2 seed (salt + 1)))) ca = some (.lst (cs.map V.int)) := by rw [upd_ne nca]; exact e3 _ _ (e2 _ _ g2)
      have fr3 : FrD d H (upd H3 d (.dK (tapeKV ca at2 left2 seed (salt + 1)))) := (fr.trans (FrD.of (e2.trans e3))).upd
      have g4 : (upd H3 d (.dK (tapeKV ca at2 left2 seed (salt + 1)))) d = some (.dK (tapeKV ca at2 left2 seed (salt + 1))) := upd_same
      generalize upd H3 d (.dK (tapeKV ca at2 left2 seed (salt + 1))) = H4 at g3 fr3 g4 ⊢
      refine q_asg (v := .int ((seed * 48271 + (salt + 1) * 69621) % 2147483647)) (ev_op (ev_int1 (ev_op (ev_op (ev_dget (k := .inr "seed") (ev_var rfl) g4 (tk_seed ..)) ev_c (rv_I (.inr ⟨by decide, by decide⟩))) (ev_op (ev_dget (k := .inr "salt") (ev_var rfl) g4 (tk_salt ..)) ev_c (rv_I (.inr ⟨by decide, by decide⟩))) rv_I0)) ev_c (rv_I (by decide))) fun H5 e5 => ?_
      generalize hx : (seed * 48271 + (salt + 1) * 69621) % 2147483647 = x
      have hx0 : 0 ≤ x ∧ x < 2147483647 := by omega
      refine q_asg (v := .int ((x * x + (salt + 1) * 40692 + 12345) % 2147483399)) (ev_op (ev_int1 (ev_op (ev_op (ev_op (ev_var rfl) (ev_var rfl) (rv_I (.inr ⟨by omega, by omega⟩))) (ev_op (ev_dget (k := .inr "salt") (ev_var rfl) (e5 _ _ g4) (tk_salt ..)) ev_c (rv_I (.inr ⟨by decide, by decide⟩))) rv_I0) ev_c rv_I0)) ev_c (rv_I (by decide))) fun H6 e6 => ?_
      generalize (x * x + (salt + 1) * 40692 + 12345) % 2147483399 = y
      refine s_ret (ev_op (ev_int1 (ev_var rfl)) (ev_var rfl) (rv_I hm0)) fun H7 e7 => k _ _ (Int.emod_nonneg _ (by omega)) (Int.emod_lt_of_pos _ hm0) ?_ (fr3.trans (FrD.of ((e5.trans e6).trans e7)))
      have e47 := (e5.trans e6).trans e7
      exact ⟨⟨cs, at2, left2, seed, salt + 1, e47 _ _ g4, e47 _ _ g3, hcs, gl0, hs0, hs1⟩⟩
def sp_law_tape (K : PySem.W.Frag) : Sp := fun vs H Q _ => ∃ (a : Addr) (ns : List Int), vs = [.ref a] ∧ SqL K H a (ns.map V.int) ∧ ns.length ≤ 63 ∧ ∀ (d ca : Addr) (H' : Hp), H d = none → H ca = none → TapeAt H' d ca → Ex H H' → Q (.ref d) H'
theorem ok_law_tape (T : Txt K mg) : FnOk P w K mg base CX0 1 (f_law_tape K) (fd_law_tape K) ["script"] (sp_law_tape K) := by
  refine T.fn_law_tape.ok sc_law_tape (fun vs H Q E h => ?_) (fun cdv A outer s H vs Q E hr h => ⟨_, PSs.nox (pss_cons (ps_setLc (i := 1) (own := [("cell", 2)]) (by rfl) sc_law_tape.nd rfl rfl (sw_true rfl rfl rfl (by decide +kernel)) (pi_list (pv 0)) (blkOk_by (N := sc_law_tape_N) (sc := defScope s_law_tape) (own := [("cell", 2)]) (by decide +kernel)) (fun _ _ _ _ _ => (pg_name (i := 2) sc_law_tape.nd rfl (Or.inl rfl))) (fun _ _ _ _ _ => pts_nil) (fun _ _ _ _ _ => (pe_callB call_abs (by rfl) T.free_abs (by decide +kernel) (pa_cons (pe_callTy call_int1 (by rfl) T.free_int (by decide +kernel) (pa_cons (pv 2) pa_nil)) pa_nil)))) (pss_cons (ps_set (i := 3) sc_law_tape.nd rfl (Or.inl rfl) pe_int) (pss_cons (ps_for PassesOwn.never rfl (pi_list (pv 1)) (pg_name (i := 2) sc_law_tape.nd rfl (Or.inl rfl)) (pss_one (ps_set (i := 3) sc_law_tape.nd rfl (Or.inl rfl) (pe_op op_mod (pe_callTy call_int1 (by rfl) T.free_int (by decide +kernel) (pa_cons (pe_op op_add (pe_op op_mul (pv 3) pe_int) (pv 2)) pa_nil)) pe_int)))) (pss_one (ps_ret (pe_disp (pps_cons pe_str (pv 1) (pps_cons pe_str pe_int (pps_cons pe_str pe_int (pps_cons pe_str (pv 3) (pps_cons pe_str pe_int pps_nil))))) (by rfl) (by rfl) (fun z => by cases z) (by decide))))))), ?_⟩)
  · obtain ⟨_, _, rfl, _⟩ := h
    rfl
  obtain ⟨a, ns, rfl, hS, hl, k⟩ := h
  have hv : ((ns.map fun i => if i < 0 then -i else i).map V.int) = given (ns.map V.int).length (fun _ => true) (fun i => .int (if ns.getD i 0 < 0 then -(ns.getD i 0) else ns.getD i 0)) := by
    unfold given
    rw [List.filter_eq_self.mpr (by simp)]
    apply List.ext_getElem?
    intro i
    by_cases h : i < ns.length
    · simp [h]
    · simp [h]
  have hE : EvL (tLc (iList K (tVar 0)) (gName 2) tYes (tCB (fun xs H Q => ∃ i : Int, xs = [.int i] ∧ Q (.int (if i < 0 then -i else i)) H) (tCons (tCB (fun xs H Q => (∃ i, xs = [.int i] ∧ Q (.int i) H) ∨ ∃ k, xs = [.bl k] ∧ Q (.int (if k then 1 else 0)) H) (tCons (tVar 2) tNil)) tNil)) [2]) (L2.start sc_law_tape_N [V.ref a]) H ((ns.map fun i => if i < 0 then -i else i).map V.int) := by
    rw [hv]
    refine el_lcL _ _ (ev_var rfl) hS (by rw [List.length_map]; omega) (fun y => rfl) (fun i c H1 _ _ => (fun H1 _ _ q => q H1 (Ex.refl H1))) (fun i y H1 _ hi _ => ?_)
    rw [List.getElem?_map] at hi
    cases e : ns[i]? with
    | none => rw [e] at hi; cases hi
    | some x =>
      rw [e] at hi
      obtain rfl : V.int x = y := Option.some.inj hi
      have e2 : ns.getD i 0 = x := by rw [List.getD, e]; rfl
      rw [e2]
      exact ev_abs (ev_int1 (ev_var rfl))
  have hcs : ∀ c ∈ (ns.map fun i => if i < 0 then -i else i), (0 : Int) ≤ c := by
    intro c hc
    obtain ⟨i, _, rfl⟩ := List.mem_map.mp hc
    show 0 ≤ if i < 0 then -i else i
    split <;> omega
  generalize (ns.map fun i => if i < 0 then -i else i) = cs at hE hcs hv
  refine q_asgL hE fun ca H1 hca e1 h1 => ?_
  refine q_asg ev_c fun H2 e2 => ?_
  refine q_forL (K := K) (a := ca) (xs := cs.map V.int) (ev_var rfl) (sq_of (e2 _ _ h1)) (fun i σ' H' => ∃ (c : Option V) (seed : Int), σ' = [some (.ref a), some (.ref ca), c, some (.int seed)] ∧ 0 ≤ seed ∧ seed < 2147483647 ∧ Ex H2 H')
    (fun H3 e3 => ⟨none, 7, rfl, by decide, by decide, e3⟩) (fun i σ' H' _ ⟨_, _, _, _, _, e⟩ => sq_of (e _ _ (e2 _ _ h1))) ?_ ?_
  · rintro i y σ' H' hi ⟨c, seed, rfl, s0, s1, eH⟩
    obtain ⟨x, rfl⟩ : ∃ x, y = V.int x := by
      rw [List.getElem?_map] at hi
      cases e : cs[i]? with
      | none => rw [e] at hi; cases hi
      | some x => rw [e] at hi; exact ⟨x, (Option.some.inj hi).symm⟩
    refine s_asg (v := .int ((seed * 31 + x) % 2147483647)) (ev_op (ev_int1 (ev_op (ev_op (ev_var rfl) ev_c (rv_I (.inr ⟨by decide, by decide⟩))) (ev_var rfl) rv_I0)) ev_c (rv_I (by decide))) fun H3 e3 => ⟨some (.int x), (seed * 31 + x) % 2147483647, rfl, by omega, by omega, eH.trans e3⟩
  · rintro σ' H' ⟨c, seed, rfl, s0, s1, eH⟩
    intro d hd
    have e3 : Ex H' (upd H' d (.dK [])) := Ex.new hd
    have ed : Ex H (upd H' d (.dK [])) := ((e1.trans e2).trans eH).trans e3
    have hdn : H d = none := by
      cases e : H d with
      | none => rfl
      | some o => rw [((e1.trans e2).trans eH) _ _ e] at hd; cases hd
    refine ⟨_, rfl, _, rfl, upd_same, [(.inr "cells", .ref ca), (.inr "at", .int 0), (.inr "left", .int 0), (.inr "seed", .int seed), (.inr "salt", .int 0)], rfl, by show 5 ≤ 15; decide, ?_⟩
    have hca2 : H' ca = some (.lst (cs.map V.int)) := eH _ _ (e2 _ _ h1)
    have nca : ca ≠ d := ne_of_none hca2 hd
    refine k d ca _ hdn hca ⟨⟨cs, 0, 0, seed, 0, ?_, ?_, hcs, by decide, s0, s1⟩⟩ (Ex.mut ed hdn)
    · rw [upd_same]
      rfl
    · rw [upd_ne nca, upd_ne nca]
      exact hca2
end
end KD

namespace KD
open KA
open PySem PySem.Spec PyProof.Rows L2 Evl TL
/-! ### for laws: what is drawn, lists of draws, data compared -/
section
variable {σ : L2.St} {H : Hp} {K : PySem.W.Frag} {D : Ends} {d ca : Addr} {P P' : Int → Prop} {te tb : TE} {ta : TA} {tz : TS}
/-- a value drawn: the tape goes on, all else stands -/
def Dr (te : TE) (σ : L2.St) (d ca : Addr) (P : Int → Prop) : Prop := ∀ (H : Hp) (Q : VK), TapeAt H d ca → (∀ v H', P v → TapeAt H' d ca → FrD d H H' → Q (.int v) H') → te σ H Q
theorem Dr.imp (h : Dr te σ d ca P) (f : ∀ v, P v → P' v) : Dr te σ d ca P' := fun H Q hT q => h H Q hT fun v H' p => q v H' (f v p)
theorem dr_take {m : Int} (ha : ∀ H, EvA ta σ H [.ref d, .int m]) (hm : 0 < m ∧ m < 1073741824) : Dr (tCall sp_law_take [] E0 ta) σ d ca (fun v => 0 ≤ v ∧ v < m) :=
  fun H Q hT q => ha H H (Ex.refl H) _ fun H1 e1 => ⟨d, ca, m, rfl, hT.keep e1, hm.1, hm.2, fun v H' h0 h1 hT' f => q v H' ⟨h0, h1⟩ hT' ((FrD.of e1).trans f)⟩
theorem dr_int (h : Dr te σ d ca P) : Dr (tCB (fun xs H Q => (∃ i, xs = [.int i] ∧ Q (.int i) H) ∨ ∃ k, xs = [.bl k] ∧ Q (.int (if k then 1 else 0)) H) (tCons te tNil)) σ d ca P :=
  fun H Q hT q => h H _ hT fun v H' p hT' f => .inl ⟨v, rfl, q v H' p hT' f⟩
theorem dr_cmul {c : Int} (hc : -(2 ^ 64) < c ∧ c < 2 ^ 64) (h : Dr te σ d ca P) : Dr (tOp (rI CMul fun i j => .int (i * j)) (tC (.int c)) te) σ d ca (fun v => ∃ u, P u ∧ v = c * u) :=
  fun H Q hT q => h H _ hT fun v H' p hT' f => ⟨c, v, rfl, rfl, .inl hc, q _ H' ⟨v, p, rfl⟩ hT' f⟩
theorem dr_add (h : Dr te σ d ca P) (h2 : Dr tb σ d ca P') : Dr (tOp (rI0 fun i j => .int (i + j)) te tb) σ d ca (fun v => ∃ a b, P a ∧ P' b ∧ v = a + b) :=
  fun H Q hT q => h H _ hT fun v H1 p hT1 f1 => h2 H1 _ hT1 fun u H2 p2 hT2 f2 => ⟨v, u, rfl, rfl, q _ H2 ⟨v, u, p, p2, rfl⟩ hT2 (f1.trans f2)⟩
/-- a list of draws -/
theorem dl_lcR1 {j : Nat} {vs : List Nat} {n : Int} (h : ∀ H, EvA ta σ H [.int n]) (hn : 0 ≤ n ∧ n ≤ 40000) (hw : ∀ x, wipe ((wipe σ vs).set j (some x)) vs = wipe σ vs) (he : ∀ i : Nat, Dr te ((wipe σ vs).set j (some (.int (i : Int)))) d ca P)
    (H : Hp) (Q : VK) (hT : TapeAt H d ca) (q : ∀ p H' (xs : List Int), H p = none → xs.length = n.toNat → (∀ x ∈ xs, P x) → TapeAt H' d ca → FrD d H H' → H' p = some (.lst (xs.map V.int)) → Q (.ref p) H') : tLc (iRng1 ta) (gName j) tYes te vs σ H Q :=
  h H H (Ex.refl H) _ fun H1 e1 => ⟨n, rfl, by omega, by omega, fun Dl hD =>
    lc_range (lo := 0) (n := n.toNat) (fun i H' => ∃ xs : List Int, xs.length = i ∧ (∀ x ∈ xs, P x) ∧ TapeAt H' d ca ∧ FrD d H H' ∧ H' Dl = some (.lst (xs.map V.int)))
      ⟨[], rfl, (fun x hx => by cases hx), (hT.keep e1).keep (Ex.new hD), (FrD.of e1).trans (FrD.of (Ex.new hD)), upd_same⟩
      (fun i H' hi ⟨xs, hl, hx, hT', f, hDl⟩ => by
        have e0 : (0 : Int) + (i : Int) = (i : Int) := Int.zero_add _
        show wipe ((wipe σ vs).set j (some (.int ((0 : Int) + (i : Int))))) vs = wipe σ vs ∧ te ((wipe σ vs).set j (some (.int ((0 : Int) + (i : Int))))) H' fun y H4 => ∃ acc, H4 Dl = some (.lst acc) ∧ acc.length < sizeLine ∧ _
        rw [e0]
        have nn := (hT.keep e1).ne hD
        refine ⟨hw _, he i H' _ hT' fun v H4 pv hT4 f4 => ⟨xs.map V.int, f4 _ _ hDl nn.1, sz_lt (by rw [List.length_map]; omega), xs ++ [v], by simp [hl], fun x hm => ?_, hT4.upd nn.1 nn.2, ?_, by rw [upd_same, List.map_append]; rfl⟩⟩
        · rcases List.mem_append.mp hm with hm | hm
          · exact hx x hm
          · obtain rfl : x = v := by simpa using hm
            exact pv
        · intro b o hb hne
          have nb : b ≠ Dl := fun z => by
            rw [z] at hb
            rw [e1 _ _ hb] at hD
            cases hD
          rw [upd_ne nb]
          exact f4 _ _ (f _ _ hb hne) hne)
      (fun H' ⟨xs, hl, hx, hT', f, hDl⟩ => q Dl H' xs (fresh_back e1 hD) hl hx hT' f hDl)⟩
/-- name = e, told by what holds behind it -/
theorem q_asgQ {i : Nat} (h : te σ H fun v H1 => tz D (σ.set i (some v)) H1) : tSeq (tAsg te (gName i)) tz D σ H := h
theorem FrD.ex {H H' : Hp} (f : FrD d H H') (hd : H d = none) : Ex H H' := fun b o h => f b o h (fun z => by rw [z, hd] at h; cases h)
end
/-! ### flat data -/
def pd : V → PyData
  | .int i => .int i
  | .str s => .str s
  | .bl b => .bool b
  | _ => .none
def flatP : V → Bool
  | .int _ => true
  | .str s => PyData.strOk s
  | _ => false
section
variable {K : PySem.W.Frag} {H : Hp}
theorem dpAll_flat : ∀ {vs : List V}, vs.all flatP = true → DpAll K H vs (vs.map pd)
  | [], _ => .nil
  | v :: vs, h => by
    rw [List.all_cons, Bool.and_eq_true] at h
    refine .cons ?_ (dpAll_flat h.2)
    cases v with
    | int i => exact .int i
    | str s => exact .str s
    | bl b => cases h.1
    | ref a => cases h.1
    | non => cases h.1
    | _ => cases h.1
theorem canLay_flat : ∀ {vs : List V}, vs.all flatP = true → PyData.canLayAll0 (vs.map pd) = true ∧ PyData.depthAll (vs.map pd) = 0
  | [], _ => ⟨by simp [PyData.canLayAll0], by simp [PyData.depthAll]⟩
  | v :: vs, h => by
    rw [List.all_cons, Bool.and_eq_true] at h
    obtain ⟨h1, h2⟩ := canLay_flat h.2
    rw [List.map_cons, PyData.canLayAll0, PyData.depthAll, h1, h2]
    cases v with
    | int i => exact ⟨by simp [pd, PyData.canLay0], by simp [pd, PyData.depth]⟩
    | str s => exact ⟨by simp [pd, PyData.canLay0]; exact h.1, by simp [pd, PyData.depth]⟩
    | _ => cases h.1
theorem dp_lst {a : Addr} {vs : List V} (h : SqL K H a vs) (hf : vs.all flatP = true) : Dp K H (.ref a) (.list (vs.map pd)) := .lst h (dpAll_flat hf)
theorem dp_tup {a : Addr} {vs : List V} (h : SqT K H a vs) (hf : vs.all flatP = true) : Dp K H (.ref a) (.tuple (vs.map pd)) := .tup h (dpAll_flat hf)
theorem shaped_lst {vs : List V} (hf : vs.all flatP = true) : SeqAt.shaped (.list (vs.map pd)) = true := by
  obtain ⟨h1, h2⟩ := canLay_flat hf
  unfold SeqAt.shaped
  rw [PyData.canLay0, PyData.depth, h1, h2]
  rfl
theorem shaped_tup {vs : List V} (hf : vs.all flatP = true) : SeqAt.shaped (.tuple (vs.map pd)) = true := by
  obtain ⟨h1, h2⟩ := canLay_flat hf
  unfold SeqAt.shaped
  rw [PyData.canLay0, PyData.depth, h1, h2]
  rfl
theorem same_of_shaped {e : PyData} (h : SeqAt.shaped e = true) : PyData.eqv e e = true := PySem.SeqAt.eqv_refl e (SeqAt.canLay_of_shaped h)
theorem ints_flat (xs : List Int) : (xs.map V.int).all flatP = true := by
  rw [List.all_map]
  exact List.all_eq_true.mpr fun x _ => rfl
/-- two equal lists are not told apart -/
theorem ne_lst {a b : Addr} {vs : List V} (ha : SqL K H a vs) (hb : SqL K H b vs) (hf : vs.all flatP = true) : RV (rNeD K) (.ref a) (.ref b) H (.bl false) := fun H1 e Q q =>
  ⟨_, _, dp_lst (ex_l e ha) hf, dp_lst (ex_l e hb) hf, shaped_lst hf, shaped_lst hf, by rw [same_of_shaped (shaped_lst hf)]; exact q H1 (Ex.refl H1)⟩
theorem ne_tup {a b : Addr} {vs : List V} (ha : SqT K H a vs) (hb : SqT K H b vs) (hf : vs.all flatP = true) : RV (rNeD K) (.ref a) (.ref b) H (.bl false) := fun H1 e Q q =>
  ⟨_, _, dp_tup (ex_t e ha) hf, dp_tup (ex_t e hb) hf, shaped_tup hf, shaped_tup hf, by rw [same_of_shaped (shaped_tup hf)]; exact q H1 (Ex.refl H1)⟩
end
end KD

namespace KQ
open KA
open PySem PySem.Spec PyProof.Rows L2 Evl TL
/-! ### the law's own machine -/
def PLN : List (Int × Int) := [(0, 9)]
def PTS : List Part6 := [⟨0, 1, 2, [24576]⟩]
def M00 : Mem := mboot PLN PTS
def M0 : Mem := mdev M00
def kindN (f : Nat) : Int := if f = 2 then 4 else if f = 3 then 5 else if f = 4 then 3 else if f = 5 then 2 else if f = 6 then 2 else if f = 31 then 8 else 0
theorem m0_kind : ∀ f < 32, M0 (64 + f) = kindN f := by decide +kernel
theorem m0_head : ∀ n < 8, M0 (4 + n) = (if n = 1 then 4 else 0) ∧ M0 (12 + n) = (if n = 1 then 4 else 0) := by decide +kernel
theorem m0_line : ∀ n < 4, M0 (20 + n) = 0 := by decide +kernel
theorem m0_th : M0 193 = 0 ∧ M0 207 = 0 ∧ M0 202 = 3 ∧ M0 203 = 5 ∧ M0 204 = 1 ∧ M0 205 = 2 ∧ M0 214 = 0 ∧ M0 216 = 0 ∧ M0 192 = 1 := by decide +kernel
theorem m0_tab : M0 256 = 6 ∧ M0 257 = 3 ∧ M0 258 = 23 ∧ M0 320 = 24576 := by decide +kernel
theorem m0_plan : M0 1 = 0 ∧ M0 24 = 9 ∧ M0 25 = 0 ∧ M0 1989 = 3 := by decide +kernel
theorem m0_caps : ∀ k < 8, M0 (128 + 8 * k) = [0, 4, 3, 5, 0, 8, 2, 2].getD k 0 := by decide +kernel
theorem m0_cap5 : M0 169 = 31 ∧ M0 170 = 7 ∧ M0 185 = 6 ∧ M0 186 = 7 := by decide +kernel
theorem m0_zero : ∀ j < 2048, (384 ≤ j ∧ j < 448 ∨ 1984 ≤ j ∧ j ≠ 1989) → M0 j = 0 := by decide +kernel
theorem m0_reg : ∀ k < 8, M0 (194 + k) = 0 := by decide +kernel
end KQ

namespace KQ
open KA
open PySem PySem.Spec PyProof.Rows L2 Evl TL
/-- the words that change -/
def vol (j : Nat) : Bool := decide (j = 0) || decide (j = 2) || (decide (194 ≤ j) && decide (j < 202)) || decide (j = 206) || (decide (384 ≤ j) && decide (j < 448)) || (decide (1984 ≤ j) && decide (j < 1989)) || (decide (1992 ≤ j) && decide (j < 2008))
def Fix (μ : Mem) : Prop := ∀ j, j < 2048 → vol j = false → μ j = M0 j
theorem Fix.set {μ : Mem} (h : Fix μ) {i : Nat} {x : Int} (hv : vol i = true) : Fix (mset μ i x) := fun j hj hn => by
  have : j ≠ i := fun z => by rw [z, hv] at hn; cases hn
  rw [mset_ne this]
  exact h j hj hn
theorem Fix.to {μ ν : Mem} (h : Fix μ) (e : ∀ j, vol j = false → ν j = μ j) : Fix ν := fun j hj hn => (e j hn).trans (h j hj hn)
/-- what a tick reads -/
structure TF (μ : Mem) : Prop where
  w1 : μ 1 = 0
  w24 : μ 24 = 9
  w25 : μ 25 = 0
  w5 : μ 5 = 4
  w6 : μ 6 = 0
  w7 : μ 7 = 0
  w13 : μ 13 = 4
  w67 : μ 67 = 5
  w68 : μ 68 = 3
  w192 : μ 192 = 1
  w193 : μ 193 = 0
  w203 : μ 203 = 5
  w204 : μ 204 = 1
  w205 : μ 205 = 2
  w207 : μ 207 = 0
  w214 : μ 214 = 0
  w216 : μ 216 = 0
  w256 : μ 256 = 6
  w257 : μ 257 = 3
  w258 : μ 258 = 23
  w320 : μ 320 = 24576
theorem m0_TF : TF M0 := ⟨m0_plan.1, m0_plan.2.1, m0_plan.2.2.1, (m0_head 1 (by decide)).1, (m0_head 2 (by decide)).1, (m0_head 3 (by decide)).1, (m0_head 1 (by decide)).2, m0_kind 3 (by decide), m0_kind 4 (by decide), m0_th.2.2.2.2.2.2.2.2, m0_th.1, m0_th.2.2.2.1, m0_th.2.2.2.2.1, m0_th.2.2.2.2.2.1, m0_th.2.1, m0_th.2.2.2.2.2.2.1, m0_th.2.2.2.2.2.2.2.1, m0_tab.1, m0_tab.2.1, m0_tab.2.2.1, m0_tab.2.2.2⟩
theorem Fix.tf {μ : Mem} (h : Fix μ) : TF μ := by
  have g : ∀ j, j < 2048 → vol j = false → μ j = M0 j := h
  obtain ⟨a1, a2, a3, a4, a5, a6, a7, a8, a9, a10, a11, a12, a13, a14, a15, a16, a17, a18, a19, a20, a21⟩ := m0_TF
  exact ⟨(g _ (by decide) rfl).trans a1, (g _ (by decide) rfl).trans a2, (g _ (by decide) rfl).trans a3, (g _ (by decide) rfl).trans a4, (g _ (by decide) rfl).trans a5, (g _ (by decide) rfl).trans a6, (g _ (by decide) rfl).trans a7, (g _ (by decide) rfl).trans a8, (g _ (by decide) rfl).trans a9, (g _ (by decide) rfl).trans a10, (g _ (by decide) rfl).trans a11, (g _ (by decide) rfl).trans a12, (g _ (by decide) rfl).trans a13, (g _ (by decide) rfl).trans a14, (g _ (by decide) rfl).trans a15, (g _ (by decide) rfl).trans a16, (g _ (by decide) rfl).trans a17, (g _ (by decide) rfl).trans a18, (g _ (by decide) rfl).trans a19, (g _ (by decide) rfl).trans a20, (g _ (by decide) rfl).trans a21⟩
theorem TF.to {μ ν : Mem} (h : TF μ) (e : ∀ j, j ≠ 0 → j ≠ 2 → j ≠ 206 → ν j = μ j) : TF ν := by
  obtain ⟨a1, a2, a3, a4, a5, a6, a7, a8, a9, a10, a11, a12, a13, a14, a15, a16, a17, a18, a19, a20, a21⟩ := h
  exact ⟨(e _ (by decide) (by decide) (by decide)).trans a1, (e _ (by decide) (by decide) (by decide)).trans a2, (e _ (by decide) (by decide) (by decide)).trans a3, (e _ (by decide) (by decide) (by decide)).trans a4, (e _ (by decide) (by decide) (by decide)).trans a5, (e _ (by decide) (by decide) (by decide)).trans a6, (e _ (by decide) (by decide) (by decide)).trans a7, (e _ (by decide) (by decide) (by decide)).trans a8, (e _ (by decide) (by decide) (by decide)).trans a9, (e _ (by decide) (by decide) (by decide)).trans a10, (e _ (by decide) (by decide) (by decide)).trans a11, (e _ (by decide) (by decide) (by decide)).trans a12, (e _ (by decide) (by decide) (by decide)).trans a13, (e _ (by decide) (by decide) (by decide)).trans a14, (e _ (by decide) (by decide) (by decide)).trans a15, (e _ (by decide) (by decide) (by decide)).trans a16, (e _ (by decide) (by decide) (by decide)).trans a17, (e _ (by decide) (by decide) (by decide)).trans a18, (e _ (by decide) (by decide) (by decide)).trans a19, (e _ (by decide) (by decide) (by decide)).trans a20, (e _ (by decide) (by decide) (by decide)).trans a21⟩
theorem TF.num {μ : Mem} (h : TF μ) : mnum μ 3 = 1 := by
  have e1 : μ (ix 3 22) = 0 := h.w214
  have e2 : μ (ix 3 24) = 0 := h.w216
  have e3 : μ (ix 3 12) = 1 := h.w204
  unfold mnum mrank
  rw [e1, e2, e3]
  decide
/-- behind the thread's turn -/
def afterT (μ : Mem) : Mem := mspent (mstep (mtime μ) 3 24576 (mtime μ (ix 3 1))) 3
def stepT (μ : Mem) : Mem := mset (mtime μ) 193 0
theorem mtime_ne {μ : Mem} {j : Nat} (h : j ≠ 0) : mtime μ j = μ j := mset_ne h
theorem step_eq {μ : Mem} : mstep (mtime μ) 3 24576 (mtime μ (ix 3 1)) = stepT μ := rfl
theorem stepT_eq {μ : Mem} (h : TF μ) {j : Nat} (h0 : j ≠ 0) : stepT μ j = μ j := by
  unfold stepT
  by_cases e : j = 193
  · rw [e, mset_same, h.w193]
    rfl
  · rw [mset_ne e, mtime_ne h0]
theorem turn_eq {ν : Mem} (h : TF ν) (j : Nat) : mturn ν 3 j = ν j := by
  have hn := h.num
  have e207 : ν (ix 3 15) = 0 := h.w207
  have et : mtake ν 0 (4 + mnum ν 3) (12 + mnum ν 3) 3 = mset (mset (mset ν 5 0) 13 0) 207 0 := by
    rw [hn]
    unfold mtake
    rw [if_pos e207, e207]
    rfl
  have e2 : mnum (mset (mset (mset ν 5 0) 13 0) 207 0) 3 = 1 := by
    have e1 : (mset (mset (mset ν 5 0) 13 0) 207 0) (ix 3 22) = 0 := h.w214
    have e2 : (mset (mset (mset ν 5 0) 13 0) 207 0) (ix 3 24) = 0 := h.w216
    have e3 : (mset (mset (mset ν 5 0) 13 0) 207 0) (ix 3 12) = 1 := h.w204
    unfold mnum mrank
    rw [e1, e2, e3]
    decide
  unfold mturn mturn2
  rw [et, e2]
  have e13 : (mset (mset (mset ν 5 0) 13 0) 207 0) (ix 0 (12 + 1)) = 0 := rfl
  unfold mpush
  rw [e13, if_neg (by decide)]
  show mset (mset (mset (mset (mset (mset ν 5 0) 13 0) 207 0) 5 4) 13 4) 207 0 j = ν j
  by_cases e : j = 207
  · rw [e, mset_same, h.w207]; rfl
  rw [mset_ne e]
  by_cases e' : j = 13
  · rw [e', mset_same, h.w13]; rfl
  rw [mset_ne e']
  by_cases e'' : j = 5
  · rw [e'', mset_same, h.w5]; rfl
  rw [mset_ne e'', mset_ne e, mset_ne e', mset_ne e'']
theorem afterT_eq {μ : Mem} (h : TF μ) {j : Nat} (h0 : j ≠ 0) (h1 : j ≠ 206) : afterT μ j = μ j := by
  unfold afterT
  rw [step_eq]
  unfold mspent
  split
  · exact (mset_ne (show j ≠ ix 3 14 from h1)).trans (stepT_eq h h0)
  · have hT : TF (mset (stepT μ) (ix 3 14) (stepT μ (ix 3 13))) := h.to fun j a b c => (mset_ne (show j ≠ ix 3 14 from c)).trans (stepT_eq h a)
    rw [turn_eq hT]
    exact (mset_ne (show j ≠ ix 3 14 from h1)).trans (stepT_eq h h0)
def entL : Ent := fun tb pg i => M0 (ix tb (pg * 4 + i))
theorem tick_from {μ : Mem} (h : TF μ) : mfrom (mtime μ) 4 = some 3 ∧ mdom (mtime μ) = 0 ∧ mtime μ (ix 0 1) = 0 := by
  have hp : mtime μ (ix 0 1) = 0 := (mtime_ne (by decide)).trans h.w1
  have hd : mdom (mtime μ) = 0 := by
    unfold mdom
    rw [hp]
    have : mtime μ (ix 0 (24 + 0)) = 9 := (mtime_ne (by decide)).trans h.w24
    rw [this]
    decide
  refine ⟨?_, hd, hp⟩
  have k3 : mhead (mtime μ) ((3 : Nat) : Int) = 0 := by unfold mhead; rw [hd]; exact (mtime_ne (by decide)).trans h.w7
  have k2 : mhead (mtime μ) ((2 : Nat) : Int) = 0 := by unfold mhead; rw [hd]; exact (mtime_ne (by decide)).trans h.w6
  have k1 : mhead (mtime μ) ((1 : Nat) : Int) = 4 := by unfold mhead; rw [hd]; exact (mtime_ne (by decide)).trans h.w5
  show (if mhead (mtime μ) ((3 : Nat) : Int) ≠ 0 then _ else if mhead (mtime μ) ((2 : Nat) : Int) ≠ 0 then _ else if mhead (mtime μ) ((1 : Nat) : Int) ≠ 0 then some (mhead (mtime μ) ((1 : Nat) : Int) - 1) else _) = some 3
  rw [k3, k2, k1]
  rfl
theorem tick_goes {μ : Mem} (h : TF μ) (hr : ∀ n : Nat, n < 8 → 0 ≤ μ (194 + n) ∧ μ (194 + n) < 65536) : Goes (mtime μ) entL 3 24576 := by
  have hpc : mtime μ (ix 3 1) = 0 := (mtime_ne (by decide)).trans h.w193
  have h203 : mtime μ (ix 3 11) = 5 := (mtime_ne (by decide)).trans h.w203
  have hfr : frOf (mtime μ) entL 3 (mtime μ (ix 3 1)) = 5 := by
    rw [hpc]
    unfold frOf
    rw [h203]
    show M0 256 - 1 = 5
    rw [m0_tab.1]
    decide
  refine ⟨by decide, by decide, (mtime_ne (by decide)).trans h.w67, ⟨4, by rw [h203]; rfl, ⟨by decide, by decide⟩, ?_, by rw [hpc]; decide, by rw [hpc]; decide, ?_, ?_, ?_⟩, by rw [hfr]; exact ⟨by decide, by decide⟩, ?_, by decide, fun n n0 n1 => ?_⟩
  · have : mtime μ (ix 1 4) = 3 := (mtime_ne (by decide)).trans h.w68
    rw [this]
    decide
  · rw [hpc]
    have a0 : mtime μ (ix 4 (0 / 64 * 4 + 0)) = M0 256 := ((mtime_ne (by decide)).trans h.w256).trans m0_tab.1.symm
    have a1 : mtime μ (ix 4 (0 / 64 * 4 + 1)) = M0 257 := ((mtime_ne (by decide)).trans h.w257).trans m0_tab.2.1.symm
    have a2 : mtime μ (ix 4 (0 / 64 * 4 + 2)) = M0 258 := ((mtime_ne (by decide)).trans h.w258).trans m0_tab.2.2.1.symm
    show [V.int (mtime μ (ix 4 (0 / 64 * 4 + 0))), V.int (mtime μ (ix 4 (0 / 64 * 4 + 1))), V.int (mtime μ (ix 4 (0 / 64 * 4 + 2)))] = [V.int (M0 256), V.int (M0 257), V.int (M0 258)]
    rw [a0, a1, a2]
  · rw [hpc]
    show M0 256 ≠ 0
    rw [m0_tab.1]
    decide
  · rw [hpc]
    show M0 257 % 2 = 1
    rw [m0_tab.2.1]
    decide
  · rw [hfr, hpc]
    exact (mtime_ne (by decide)).trans h.w320
  · obtain ⟨k, rfl⟩ : ∃ k : Nat, n = k := ⟨n.toNat, by omega⟩
    have : ix 3 (2 + (k : Int)) = 194 + k := by unfold ix; omega
    rw [this, mtime_ne (by omega)]
    exact hr k (by omega)
theorem tick_spends {μ : Mem} (h : TF μ) : Spends (mstep (mtime μ) 3 24576 (mtime μ (ix 3 1))) 3 := by
  rw [step_eq]
  have hS : TF (stepT μ) := h.to fun j a _ _ => stepT_eq h a
  refine ⟨hS.w67, hS.w192, fun _ μ1 h1 => ?_⟩
  have hT : TF μ1 := by rw [h1]; exact hS.to fun j a b c => mset_ne c
  have hn := hT.num
  rw [hn]
  refine ⟨by decide, by decide, hT.w5, fun μ2 h2 => ?_⟩
  have e207 : μ1 (ix 3 15) = 0 := hT.w207
  have et : μ2 = mset (mset (mset μ1 5 0) 13 0) 207 0 := by
    rw [h2]
    unfold mtake
    rw [if_pos e207, e207]
    rfl
  have e2 : mnum μ2 3 = 1 := by
    rw [et]
    have e1 : (mset (mset (mset μ1 5 0) 13 0) 207 0) (ix 3 22) = 0 := hT.w214
    have e2 : (mset (mset (mset μ1 5 0) 13 0) 207 0) (ix 3 24) = 0 := hT.w216
    have e3 : (mset (mset (mset μ1 5 0) 13 0) 207 0) (ix 3 12) = 1 := hT.w204
    unfold mnum mrank
    rw [e1, e2, e3]
    decide
  rw [e2]
  refine ⟨by decide, by decide, fun hz => ?_⟩
  rw [et] at hz
  exact absurd rfl hz
/-- the time's part -/
theorem part_eq {ν : Mem} (h1 : ν 1 = 0) (h25 : ν 25 = 0) {j : Nat} (h2 : j ≠ 2) : (mpart ν).1 j = ν j := by
  have e1 : ν (ix 0 1) = 0 := h1
  unfold mpart
  split
  · exact mset_ne h2
  · have e25 : ν (ix 0 (24 + (ν (ix 0 1) + 1))) = 0 := by rw [e1]; exact h25
    have hc : (4 ≤ ν (ix 0 1) + 1 ∨ ν (ix 0 (24 + (ν (ix 0 1) + 1))) % 256 = 0) := .inr (by rw [e25]; decide)
    simp only [if_pos hc]
    refine (mset_ne (show j ≠ ix 0 2 from h2)).trans ?_
    by_cases e : j = 1
    · rw [e, h1]
      rfl
    · exact mset_ne (show j ≠ ix 0 1 from e)
end KQ

namespace KQ
open KA
open PySem PySem.Spec PyProof.Rows L2 Evl TL
abbrev Bz : Type := Option (Int × Int × Int × Int)
def BzOk (μ : Mem) (st : Int) : Bz → Prop
  | none => st ≠ 1
  | some (o, s, p, l) => st = 1 ∧ μ 1985 = o ∧ μ 1986 = s ∧ μ 1987 = p ∧ μ 1988 = l ∧ (o = 1 ∨ o = 2) ∧ 1 ≤ l ∧ l ≤ 3
structure LInv (μ : Mem) (rows : List (List Int)) (page : List Int) (g : Nat → Option Int) (b : Bz) (st : Int) : Prop where
  fx : Fix μ
  rg : ∀ n : Nat, n < 8 → 0 ≤ μ (194 + n) ∧ μ (194 + n) < 65536
  gd : ∀ a : Nat, a < 4 → μ (1992 + 4 * a) = (if (g a).isSome = true then 7 else 0) ∧ ∀ r, g a = some r → μ (1993 + 4 * a) = r ∧ 0 ≤ r ∧ r < 4
  s0 : μ 1984 = st
  sb : 0 ≤ st ∧ st < 4
  sec : 0 ≤ μ 1986 ∧ μ 1986 < rows.length
  pg : 0 ≤ μ 1987 ∧ μ 1987 < 4
  bz : BzOk μ st b
  pl : page.length = 64
  pw : ∀ k : Nat, k < 64 → μ (384 + k) = page.getD k 0
  pb : ∀ x ∈ page, 0 ≤ x ∧ x < 65536
  ro : RowsOk rows
  rb : ∀ r ∈ rows, ∀ x ∈ r, 0 ≤ x ∧ x < 65536
theorem LInv.to {μ ν : Mem} {rows : List (List Int)} {page : List Int} {g : Nat → Option Int} {b : Bz} {st : Int} (h : LInv μ rows page g b st) (e : ∀ j, j ≠ 0 → j ≠ 2 → j ≠ 206 → ν j = μ j) : LInv ν rows page g b st := by
  refine ⟨h.fx.to fun j hj => e j (fun z => by rw [z] at hj; cases hj) (fun z => by rw [z] at hj; cases hj) (fun z => by rw [z] at hj; cases hj), fun n hn => ?_, fun a ha => ?_, (e _ (by decide) (by decide) (by decide)).trans h.s0, h.sb, ?_, ?_, ?_, h.pl, fun k hk => (e _ (by omega) (by omega) (by omega)).trans (h.pw k hk), h.pb, h.ro, h.rb⟩
  · rw [e _ (by omega) (by omega) (by omega)]; exact h.rg n hn
  · rw [e _ (by omega) (by omega) (by omega), e _ (by omega) (by omega) (by omega)]; exact h.gd a ha
  · rw [e _ (by decide) (by decide) (by decide)]; exact h.sec
  · rw [e _ (by decide) (by decide) (by decide)]; exact h.pg
  · cases b with
    | none => exact h.bz
    | some q =>
      obtain ⟨o, s, p, l⟩ := q
      obtain ⟨a1, a2, a3, a4, a5, a6⟩ := h.bz
      exact ⟨a1, (e _ (by decide) (by decide) (by decide)).trans a2, (e _ (by decide) (by decide) (by decide)).trans a3, (e _ (by decide) (by decide) (by decide)).trans a4, (e _ (by decide) (by decide) (by decide)).trans a5, a6⟩
theorem lay_other {μ : Mem} {f p : Int} {c : Nat → Int} {j : Nat} : ∀ (n : Nat), (∀ k : Nat, k < n → j ≠ ix f (p + (k : Int))) → mlay μ f p c n j = μ j
  | 0, _ => rfl
  | n + 1, h => by
    show mset (mlay μ f p c n) (ix f (p + (n : Int))) (c n) j = μ j
    rw [mset_ne (h n (Nat.lt_succ_self n))]
    exact lay_other n fun k hk => h k (Nat.lt_succ_of_lt hk)
theorem lay_at {μ : Mem} {c : Nat → Int} {k : Nat} : ∀ (n : Nat), k < n → mlay μ 6 0 c n (384 + k) = c k % 65536
  | 0, h => absurd h (Nat.not_lt_zero k)
  | n + 1, h => by
    show mset (mlay μ 6 0 c n) (ix 6 (0 + (n : Int))) (c n) (384 + k) = c k % 65536
    by_cases e : k = n
    · have : 384 + k = ix 6 (0 + (n : Int)) := by unfold ix; omega
      rw [this, mset_same, e]
    · rw [mset_ne (by unfold ix; omega)]
      exact lay_at n (by omega)
theorem fr8 {μ : Mem} (h : Fix μ) : framesV μ 8 = [.int 31] := by
  have e : fr μ 8 = [31] := by
    have h2 : fr μ 8 = (List.range 32).filter fun i => decide (V.int (kindN i) = .int 8) := by
      unfold fr
      apply List.filter_congr
      intro i hi
      have hi32 := List.mem_range.mp hi
      have : μ (ix 1 (i : Int)) = kindN i := by
        have e1 : ix 1 (i : Int) = 64 + i := by unfold ix; omega
        rw [e1, h (64 + i) (by omega) (by unfold vol; simp; omega), m0_kind i hi32]
      rw [this]
    rw [h2]
    decide +kernel
  rw [framesV_eq, e]
  rfl
def gOf (g : Nat → Option Int) (p : Int) : Int := (g p.toNat).getD 0
def goodB (g : Nat → Option Int) (o p : Int) : Bool := if o = 1 then decide (gOf g p = 2) || decide (gOf g p = 3) else decide (gOf g p = 1) || decide (gOf g p = 3)
structure LSt where
  rows : List (List Int)
  page : List Int
  b : Bz
  st : Int
/-- what the law makes of a tick -/
def tickL (g : Nat → Option Int) (x : LSt) : LSt := match x.b with
  | none => x
  | some (o, s, p, l) => if l - 1 = 0 then (if goodB g o p = true then (if o = 1 then ⟨x.rows, x.rows.getD s.toNat [], none, 2⟩ else ⟨x.rows.set s.toNat x.page, x.page, none, 2⟩) else ⟨x.rows, x.page, none, 3⟩) else ⟨x.rows, x.page, some (o, s, p, l - 1), x.st⟩
theorem gd_dent {ν : Mem} {g : Nat → Option Int} {p : Int} (hp : ν (ix 31 3) = p) (p0 : 0 ≤ p) (p4 : p < 4) (hgd : ∀ a : Nat, a < 4 → ν (1992 + 4 * a) = (if (g a).isSome = true then 7 else 0) ∧ ∀ r, g a = some r → ν (1993 + 4 * a) = r ∧ 0 ≤ r ∧ r < 4) :
    dent ν 0 = (if (g p.toNat).isSome = true then 7 else 0) ∧ ∀ r, g p.toNat = some r → dent ν 1 = r ∧ 0 ≤ r ∧ r < 4 := by
  obtain ⟨h1, h2⟩ := hgd p.toNat (by omega)
  have i0 : ix 31 (p * 4 + 8 + 0) = 1992 + 4 * p.toNat := by unfold ix; omega
  have i1 : ix 31 (p * 4 + 8 + 1) = 1993 + 4 * p.toNat := by unfold ix; omega
  unfold dent
  rw [hp, i0, i1]
  exact ⟨h1, h2⟩
theorem dbad_good {ν : Mem} {g : Nat → Option Int} {o p : Int} (ho : ν (ix 31 1) = o) (ho2 : o = 1 ∨ o = 2) (h : dent ν 0 = (if (g p.toNat).isSome = true then 7 else 0) ∧ ∀ r, g p.toNat = some r → dent ν 1 = r ∧ 0 ≤ r ∧ r < 4) : dbad ν = !goodB g o p := by
  unfold dbad goodB gOf
  rw [ho]
  cases e : g p.toNat with
  | none =>
    rw [e] at h
    have : dent ν 0 = 0 := h.1
    rw [this]
    rcases ho2 with rfl | rfl <;> rfl
  | some r =>
    rw [e] at h
    obtain ⟨h0, h1⟩ := h
    obtain ⟨h2, h3, h4⟩ := h1 r rfl
    have h0' : dent ν 0 = 7 := h0
    rw [h0', h2]
    have hr : r = 0 ∨ r = 1 ∨ r = 2 ∨ r = 3 := by omega
    rcases ho2 with rfl | rfl <;> rcases hr with rfl | rfl | rfl | rfl <;> decide
theorem ix31 {i : Nat} : ix 31 (i : Int) = 1984 + i := by unfold ix; omega
theorem mleft_at {ν : Mem} {l : Int} (h : ν 1988 = l) (h1 : 1 ≤ l) (h3 : l ≤ 3) : mleft ν 1988 = l - 1 := by
  unfold mleft
  have e : ν (ix 31 4) = l := h
  rw [e]
  show mset ν 1988 (l - 1) 1988 = l - 1
  rw [mset_same]
  omega
theorem mleft_ne {ν : Mem} {j : Nat} (h : j ≠ 1988) : mleft ν j = ν j := mset_ne (show j ≠ ix 31 4 from h)
theorem getD_mem {rows : List (List Int)} {s : Nat} (h : s < rows.length) : rows.getD s [] ∈ rows := by
  rw [List.getD_eq_getElem?_getD, List.getElem?_eq_getElem h]
  exact List.getElem_mem h
theorem page_frame {ν : Mem} {page : List Int} (pl : page.length = 64) (pw : ∀ k : Nat, k < 64 → ν (384 + k) = page.getD k 0) : frameI ν 6 = page := by
  apply List.ext_getElem?
  intro k
  unfold frameI
  rw [List.getElem?_map]
  by_cases hk : k < 64
  · have e : ix 6 (k : Int) = 384 + k := by unfold ix; omega
    rw [List.getElem?_range hk]
    show some (ν (ix 6 (k : Int))) = _
    rw [e, pw k hk, List.getElem?_eq_getElem (by omega), List.getD_eq_getElem?_getD, List.getElem?_eq_getElem (by omega)]
    rfl
  · rw [List.getElem?_eq_none (by simp; omega), List.getElem?_eq_none (by omega)]
    rfl
/-- a tick of the device, behind the thread's turn -/
theorem go_inv {ν : Mem} {rows : List (List Int)} {page : List Int} {g : Nat → Option Int} {b : Bz} {st : Int} (h : LInv ν rows page g b st) :
    (ν (ix 31 0) = 1 → GoOk ν rows) ∧ goR ν rows = (tickL g ⟨rows, page, b, st⟩).rows ∧ LInv (goM ν rows) (tickL g ⟨rows, page, b, st⟩).rows (tickL g ⟨rows, page, b, st⟩).page g (tickL g ⟨rows, page, b, st⟩).b (tickL g ⟨rows, page, b, st⟩).st := by
  have hs0 : ν (ix 31 0) = st := h.s0
  cases b with
  | none =>
    have hn : st ≠ 1 := h.bz
    have hn' : ¬ ν (ix 31 0) = 1 := by rw [hs0]; exact hn
    refine ⟨fun z => absurd z hn', ?_, ?_⟩
    · unfold goR; rw [if_neg hn']; rfl
    · unfold goM
      rw [if_neg hn']
      exact h
  | some q =>
    obtain ⟨o, s, p, l⟩ := q
    obtain ⟨rfl, ho, hsec, hp, hl, ho2, l1, l3⟩ := h.bz
    have hl' := mleft_at hl l1 l3
    have hsb := h.sec
    have hpb := h.pg
    rw [hsec] at hsb
    rw [hp] at hpb
    have hgd' : ∀ a : Nat, a < 4 → mleft ν (1992 + 4 * a) = (if (g a).isSome = true then 7 else 0) ∧ ∀ r, g a = some r → mleft ν (1993 + 4 * a) = r ∧ 0 ≤ r ∧ r < 4 := fun a ha => by
      rw [mleft_ne (by omega), mleft_ne (by omega)]
      exact h.gd a ha
    have hp' : mleft ν (ix 31 3) = p := (mleft_ne (by decide)).trans hp
    have ho' : mleft ν (ix 31 1) = o := (mleft_ne (by decide)).trans ho
    have hs' : mleft ν (ix 31 2) = s := (mleft_ne (by decide)).trans hsec
    have hd := gd_dent hp' hpb.1 hpb.2 hgd'
    have hbad := dbad_good ho' ho2 hd
    have hg7 : dbad (mleft ν) = false → dent (mleft ν) 0 = 7 := fun hb => by
      by_cases hz : (g p.toNat).isSome = true
      · rw [hd.1, if_pos hz]
      · have h0 : dent (mleft ν) 0 = 0 := by rw [hd.1, if_neg hz]
        unfold dbad at hb
        rw [h0] at hb
        cases hb
    have hdev : DevOk (mleft ν) rows := by
      refine ⟨?_, by rw [hs']; exact hsb, by rw [hp']; exact hpb, ?_, h.ro.len⟩
      · have : mleft ν (ix 1 31) = ν 95 := mleft_ne (by decide)
        rw [this, h.fx 95 (by decide) rfl]
        exact m0_kind 31 (by decide)
      · rw [hd.1]
        split
        · exact .inr ⟨by decide, by decide⟩
        · exact .inl rfl
    have hline : ∀ j, j = 1989 ∨ j = 22 → doesM (mleft ν) rows j = ν j := fun j hj => by
      have hj0 : j ≠ 1984 := by omega
      unfold doesM
      split
      · exact (mset_ne (show j ≠ ix 31 0 from hj0)).trans (mleft_ne (by omega))
      · refine (mset_ne (show j ≠ ix 31 0 from hj0)).trans ?_
        split
        · rename_i hb1 _
          have hg0 : dent (mleft ν) 0 = 7 := hg7 (by cases q : dbad (mleft ν) with | false => rfl | true => exact absurd q hb1)
          rw [hg0]
          refine (lay_other 64 fun k hk => ?_).trans (mleft_ne (by omega))
          unfold ix
          omega
        · exact mleft_ne (by omega)
    have h1989 : doesM (mleft ν) rows (ix 31 5) = 3 := by
      refine (hline 1989 (.inl rfl)).trans ?_
      rw [h.fx 1989 (by decide) rfl]
      exact m0_plan.2.2.2
    refine ⟨fun _ => ⟨fr8 h.fx, hdev, by rw [h1989]; decide, ?_⟩, ?_⟩
    · rw [h1989]
      refine (hline 22 (.inr rfl)).trans ?_
      rw [h.fx 22 (by decide) rfl]
      exact m0_line 2 (by decide)
    unfold goR goM tickL
    simp only [if_pos hs0]
    have hle : mleft ν (ix 31 4) = l - 1 := hl'
    rw [hle]
    by_cases hz : l - 1 = 0
    · simp only [if_pos hz]
      -- what it does
      have keepD : ∀ (μ' : Mem) (st' : Int), (0 ≤ st' ∧ st' < 4) → st' ≠ 1 → (∀ j, j ≠ 1984 → j ≠ 1988 → ¬ (384 ≤ j ∧ j < 448) → μ' j = ν j) → μ' 1984 = st' → ∀ rows' page', rows'.length = rows.length → page'.length = 64 → (∀ k : Nat, k < 64 → μ' (384 + k) = page'.getD k 0) → (∀ x ∈ page', 0 ≤ x ∧ x < 65536) → RowsOk rows' → (∀ r ∈ rows', ∀ x ∈ r, 0 ≤ x ∧ x < 65536) → LInv μ' rows' page' g none st' := by
        intro μ' st' sb sn e e0 rows' page' hrl hpl hpw hpb' hro hrb
        refine ⟨h.fx.to fun j hj => e j (fun z => by rw [z] at hj; cases hj) (fun z => by rw [z] at hj; cases hj) (fun z => by unfold vol at hj; simp at hj; omega), fun n hn => by rw [e _ (by omega) (by omega) (by omega)]; exact h.rg n hn, fun a ha => by rw [e _ (by omega) (by omega) (by omega), e _ (by omega) (by omega) (by omega)]; exact h.gd a ha, e0, sb, by rw [e _ (by decide) (by decide) (by decide), hrl]; exact h.sec, by rw [e _ (by decide) (by decide) (by decide)]; exact h.pg, sn, hpl, hpw, hpb', hro, hrb⟩
      have hrow : rows.getD s.toNat [] ∈ rows := getD_mem (by omega)
      have hmw : ∀ k : Nat, k < 64 → mleft ν (384 + k) = page.getD k 0 := fun k hk => (mleft_ne (by omega)).trans (h.pw k hk)
      by_cases hgood : goodB g o p = true
      · have hF : dbad (mleft ν) = false := by rw [hbad, hgood]; rfl
        have hF' : ¬ dbad (mleft ν) = true := by rw [hF]; decide
        have h7 := hg7 hF
        unfold doesR doesM
        rw [if_neg hF', if_neg hF', ho', hs', h7]
        simp only [if_pos hgood]
        rcases ho2 with rfl | rfl
        · simp only [if_true, true_and]
          refine keepD _ 2 (by decide) (by decide) (fun j a b c => ?_) mset_same _ _ rfl (h.ro.len _ hrow) (fun k hk => ?_) (h.rb _ hrow) h.ro h.rb
          · refine (mset_ne (show j ≠ ix 31 0 from a)).trans ((lay_other 64 fun k hk => ?_).trans (mleft_ne b))
            unfold ix
            omega
          · refine (mset_ne (by unfold ix; omega)).trans ((lay_at 64 hk).trans ?_)
            have hl64 : (rows.getD s.toNat []).length = 64 := h.ro.len _ hrow
            show (rows.getD s.toNat []).getD k 0 % 65536 = _
            have : (rows.getD s.toNat []).getD k 0 ∈ rows.getD s.toNat [] := by
              rw [List.getD_eq_getElem?_getD (l := rows.getD s.toNat []), List.getElem?_eq_getElem (by omega)]
              exact List.getElem_mem _
            have := h.rb _ hrow _ this
            omega
        · simp only [show ¬ (2 : Int) = 1 by decide, if_false]
          have hpf : frameI (mleft ν) (7 - 1) = page := page_frame h.pl hmw
          rw [hpf]
          refine ⟨rfl, keepD _ 2 (by decide) (by decide) (fun j a b c => (mset_ne (show j ≠ ix 31 0 from a)).trans (mleft_ne b)) mset_same _ _ (List.length_set ..) h.pl (fun k hk => (mset_ne (by unfold ix; omega)).trans (hmw k hk)) h.pb (h.ro.set h.pl) (fun r hr x hx => ?_)⟩
          rcases List.mem_or_eq_of_mem_set hr with h1 | h1
          · exact h.rb _ h1 _ hx
          · rw [h1] at hx; exact h.pb _ hx
      · have hT : dbad (mleft ν) = true := by
          rw [hbad]
          cases q : goodB g o p with
          | true => exact absurd q hgood
          | false => rfl
        unfold doesR doesM
        rw [if_pos hT, if_pos hT]
        simp only [if_neg hgood]
        exact ⟨trivial, keepD _ 3 (by decide) (by decide) (fun j a b c => (mset_ne (show j ≠ ix 31 0 from a)).trans (mleft_ne b)) mset_same _ _ rfl h.pl (fun k hk => (mset_ne (by unfold ix; omega)).trans (hmw k hk)) h.pb h.ro h.rb⟩
    · simp only [if_neg hz]
      refine ⟨trivial, ?_⟩
      refine ⟨h.fx.to fun j hj => mleft_ne (fun z => by rw [z] at hj; cases hj), fun n hn => by rw [mleft_ne (by omega)]; exact h.rg n hn, hgd', (mleft_ne (by decide)).trans h.s0, h.sb, by rw [mleft_ne (by decide)]; exact h.sec, by rw [mleft_ne (by decide)]; exact h.pg, ⟨rfl, ho', hs', hp', hl', ho2, by omega, by omega⟩, h.pl, fun k hk => (mleft_ne (by omega)).trans (h.pw k hk), h.pb, h.ro, h.rb⟩
end KQ

namespace KQ
open KA
open PySem PySem.Spec PyProof.Rows L2 Evl TL
/-- a whole tick -/
theorem tick_inv {μ : Mem} {rows : List (List Int)} {page : List Int} {g : Nat → Option Int} {b : Bz} {st : Int} (h : LInv μ rows page g b st) :
    (0 ≤ mtime μ (ix 0 1) ∧ mtime μ (ix 0 1) < 4 ∧ 0 ≤ mdom (mtime μ) ∧ mdom (mtime μ) < 2) ∧ mfrom (mtime μ) 4 = some 3 ∧ Goes (mtime μ) entL 3 24576 ∧ Spends (mstep (mtime μ) 3 24576 (mtime μ (ix 3 1))) 3 ∧ framesV (afterT μ) 8 = [.int 31] ∧ (afterT μ (ix 31 0) = 1 → GoOk (afterT μ) rows) ∧ (0 ≤ goM (afterT μ) rows (ix 0 1) ∧ goM (afterT μ) rows (ix 0 1) < 4) ∧
    goR (afterT μ) rows = (tickL g ⟨rows, page, b, st⟩).rows ∧ LInv (mpart (goM (afterT μ) rows)).1 (tickL g ⟨rows, page, b, st⟩).rows (tickL g ⟨rows, page, b, st⟩).page g (tickL g ⟨rows, page, b, st⟩).b (tickL g ⟨rows, page, b, st⟩).st := by
  have hT := h.fx.tf
  obtain ⟨f1, f2, f3⟩ := tick_from hT
  have hA : LInv (afterT μ) rows page g b st := h.to fun j a _ c => afterT_eq hT a c
  obtain ⟨g1, g2, g3⟩ := go_inv hA
  have hG := g3.fx.tf
  have h01 : goM (afterT μ) rows (ix 0 1) = 0 := hG.w1
  refine ⟨⟨by rw [f3]; decide, by rw [f3]; decide, by rw [f2]; decide, by rw [f2]; decide⟩, f1, tick_goes hT h.rg, tick_spends hT, fr8 hA.fx, g1, ⟨by rw [h01]; decide, by rw [h01]; decide⟩, g2, g3.to fun j _ b _ => part_eq hG.w1 hG.w25 b⟩
/-- registers change -/
theorem LInv.regs {μ ν : Mem} {rows : List (List Int)} {page : List Int} {g : Nat → Option Int} {b : Bz} {st : Int} (h : LInv μ rows page g b st) (e : ∀ j, ¬ (194 ≤ j ∧ j < 202) → ν j = μ j) (hr : ∀ n : Nat, n < 8 → 0 ≤ ν (194 + n) ∧ ν (194 + n) < 65536) : LInv ν rows page g b st := by
  refine ⟨h.fx.to fun j hj => e j (fun z => by unfold vol at hj; simp at hj; omega), hr, fun a ha => ?_, (e _ (by omega)).trans h.s0, h.sb, ?_, ?_, ?_, h.pl, fun k hk => (e _ (by omega)).trans (h.pw k hk), h.pb, h.ro, h.rb⟩
  · rw [e _ (by omega), e _ (by omega)]; exact h.gd a ha
  · rw [e _ (by omega)]; exact h.sec
  · rw [e _ (by omega)]; exact h.pg
  · cases b with
    | none => exact h.bz
    | some q =>
      obtain ⟨o, s, p, l⟩ := q
      obtain ⟨a1, a2, a3, a4, a5, a6⟩ := h.bz
      exact ⟨a1, (e _ (by omega)).trans a2, (e _ (by omega)).trans a3, (e _ (by omega)).trans a4, (e _ (by omega)).trans a5, a6⟩
theorem mset_bd {μ : Mem} {i j : Nat} {x : Int} (h : 0 ≤ μ j ∧ μ j < 65536) : 0 ≤ mset μ i x j ∧ mset μ i x j < 65536 := by
  by_cases e : j = i
  · rw [e, mset_same]; omega
  · rw [mset_ne e]; exact h
theorem putr_eq {μ : Mem} {a : Nat → Int} : putr μ a 4 = mset (mset (mset (mset μ 195 (a 0)) 196 (a 1)) 197 (a 2)) 198 (a 3) := rfl
theorem LInv.putr {μ : Mem} {rows : List (List Int)} {page : List Int} {g : Nat → Option Int} {b : Bz} {st : Int} {a : Nat → Int} (h : LInv μ rows page g b st) : LInv (putr μ a 4) rows page g b st := by
  rw [putr_eq]
  refine h.regs (fun j hj => ?_) fun n hn => mset_bd (mset_bd (mset_bd (mset_bd (h.rg n hn))))
  rw [mset_ne (by omega), mset_ne (by omega), mset_ne (by omega), mset_ne (by omega)]
theorem LInv.reg0 {μ : Mem} {rows : List (List Int)} {page : List Int} {g : Nat → Option Int} {b : Bz} {st : Int} {x : Int} {n : Nat} (hn : n < 8) (h : LInv μ rows page g b st) : LInv (mset μ (194 + n) x) rows page g b st :=
  h.regs (fun j hj => mset_ne (by omega)) fun k hk => mset_bd (h.rg k hk)
theorem putr_reg {μ : Mem} {a : Nat → Int} (k : Nat) (hk : k < 4) : reg (putr μ a 4) 3 ((k : Int) + 1) = a k % 65536 := by
  match k, hk with
  | 0, _ => rfl
  | 1, _ => rfl
  | 2, _ => rfl
  | 3, _ => rfl
/-! ### the capabilities -/
theorem Fix.caps {μ : Mem} (h : Fix μ) : CapsIn μ 3 ∧ ownC μ 3 7 2 1 = (some 23, none) ∧ ownT μ 3 5 = (some 21, none) ∧ fld μ 21 1 = 31 ∧ fld μ 23 1 = 6 ∧ fld μ 23 2 = 7 ∧ μ (ix 1 31) = 8 ∧ μ (ix 1 3) = 5 ∧ ownC μ 3 5 8 2 = (some 21, none) ∧ ownC μ 3 5 8 1 = (some 21, none) ∧ ownC μ 3 7 8 2 = (none, some 1) := by
  have c202 : μ (ix 3 10) = 3 := (h 202 (by decide) rfl).trans m0_th.2.2.1
  have c184 : fld μ 23 0 = 2 := (h 184 (by decide) rfl).trans (m0_caps 7 (by decide))
  have c168 : fld μ 21 0 = 8 := (h 168 (by decide) rfl).trans (m0_caps 5 (by decide))
  have c169 : fld μ 21 1 = 31 := (h 169 (by decide) rfl).trans m0_cap5.1
  have c170 : fld μ 21 2 = 7 := (h 170 (by decide) rfl).trans m0_cap5.2.1
  have c185 : fld μ 23 1 = 6 := (h 185 (by decide) rfl).trans m0_cap5.2.2.1
  have c186 : fld μ 23 2 = 7 := (h 186 (by decide) rfl).trans m0_cap5.2.2.2
  have s7 : slotO μ 3 7 = some 23 := by
    unfold slotO
    rw [c202, if_neg (by decide)]
    show (if fld μ 23 0 = 0 then none else some 23) = _
    rw [c184, if_neg (by decide)]
  have s5 : slotO μ 3 5 = some 21 := by
    unfold slotO
    rw [c202, if_neg (by decide)]
    show (if fld μ 21 0 = 0 then none else some 21) = _
    rw [c168, if_neg (by decide)]
  have o5 : ∀ r, (r = 1 ∨ r = 2) → ownC μ 3 5 8 r = (some 21, none) := fun r hr => by
    unfold ownC
    rw [s5]
    show (if fld μ 21 0 ≠ 8 then (none, some 1) else if fld μ 21 2 / r % 2 = 0 then (none, some 2) else (some 21, none)) = _
    rw [c168, c170, if_neg (by decide)]
    rcases hr with rfl | rfl <;> rfl
  refine ⟨fun _ => by rw [c202]; exact ⟨by decide, by decide⟩, ?_, ?_, c169, c185, c186, (h 95 (by decide) rfl).trans (m0_kind 31 (by decide)), (h 67 (by decide) rfl).trans (m0_kind 3 (by decide)), o5 2 (.inr rfl), o5 1 (.inl rfl), ?_⟩
  · unfold ownC
    rw [s7]
    show (if fld μ 23 0 ≠ 2 then (none, some 1) else if fld μ 23 2 / 1 % 2 = 0 then (none, some 2) else (some 23, none)) = _
    rw [c184, c186]
    rfl
  · unfold ownT
    rw [s5]
    show ownC μ 3 5 (if fld μ 21 0 = 8 then 8 else 3) 2 = _
    rw [c168, if_pos rfl]
    exact o5 2 (.inr rfl)
  · unfold ownC
    rw [s7]
    show (if fld μ 23 0 ≠ 8 then (none, some 1) else if fld μ 23 2 / 2 % 2 = 0 then (none, some 2) else (some 23, none)) = _
    rw [c184, if_pos (by decide)]
/-- an entry of the guard is put -/
theorem LInv.ment {μ : Mem} {rows : List (List Int)} {page : List Int} {g g' : Nat → Option Int} {b : Bz} {st : Int} {a : Nat} {c : Nat → Int} (h : LInv μ rows page g b st) (ha : a < 4) (hg : ∀ k, k ≠ a → g' k = g k) (h0 : c 0 = (if (g' a).isSome = true then 7 else 0)) (h1 : ∀ r, g' a = some r → c 1 = r ∧ 0 ≤ r ∧ r < 4) : LInv (mentD μ 31 (a : Int) c 3) rows page g' b st := by
  have i0 : ix 31 ((a : Int) * 4 + 8 + ((0 : Nat) : Int)) = 1992 + 4 * a := by unfold ix; omega
  have i1 : ix 31 ((a : Int) * 4 + 8 + ((1 : Nat) : Int)) = 1993 + 4 * a := by unfold ix; omega
  have i2 : ix 31 ((a : Int) * 4 + 8 + ((2 : Nat) : Int)) = 1994 + 4 * a := by unfold ix; omega
  have em : mentD μ 31 (a : Int) c 3 = mset (mset (mset μ (1992 + 4 * a) (c 0)) (1993 + 4 * a) (c 1)) (1994 + 4 * a) (c 2) := by
    show mset (mset (mset μ (ix 31 ((a : Int) * 4 + 8 + ((0 : Nat) : Int))) (c 0)) (ix 31 ((a : Int) * 4 + 8 + ((1 : Nat) : Int))) (c 1)) (ix 31 ((a : Int) * 4 + 8 + ((2 : Nat) : Int))) (c 2) = _
    rw [i0, i1, i2]
  rw [em]
  have e : ∀ j, j ≠ 1992 + 4 * a → j ≠ 1993 + 4 * a → j ≠ 1994 + 4 * a → mset (mset (mset μ (1992 + 4 * a) (c 0)) (1993 + 4 * a) (c 1)) (1994 + 4 * a) (c 2) j = μ j := fun j x y z => by rw [mset_ne z, mset_ne y, mset_ne x]
  refine ⟨h.fx.to fun j hj => e j (fun z => by unfold vol at hj; simp at hj; omega) (fun z => by unfold vol at hj; simp at hj; omega) (fun z => by unfold vol at hj; simp at hj; omega), fun n hn => by rw [e _ (by omega) (by omega) (by omega)]; exact h.rg n hn, fun k hk => ?_, (e _ (by omega) (by omega) (by omega)).trans h.s0, h.sb, ?_, ?_, ?_, h.pl, fun k hk => (e _ (by omega) (by omega) (by omega)).trans (h.pw k hk), h.pb, h.ro, h.rb⟩
  · by_cases hka : k = a
    · subst hka
      rw [mset_ne (by omega), mset_ne (by omega), mset_same, mset_ne (by omega), mset_same]
      refine ⟨by rw [h0]; split <;> rfl, fun r hr => ?_⟩
      obtain ⟨q1, q2, q3⟩ := h1 r hr
      exact ⟨by rw [q1]; omega, q2, q3⟩
    · rw [e _ (by omega) (by omega) (by omega), e _ (by omega) (by omega) (by omega), hg k hka]
      exact h.gd k hk
  · rw [e _ (by omega) (by omega) (by omega)]; exact h.sec
  · rw [e _ (by omega) (by omega) (by omega)]; exact h.pg
  · cases b with
    | none => exact h.bz
    | some q =>
      obtain ⟨o, s, p, l⟩ := q
      obtain ⟨a1, a2, a3, a4, a5, a6⟩ := h.bz
      exact ⟨a1, (e _ (by omega) (by omega) (by omega)).trans a2, (e _ (by omega) (by omega) (by omega)).trans a3, (e _ (by omega) (by omega) (by omega)).trans a4, (e _ (by omega) (by omega) (by omega)).trans a5, a6⟩
def gset (g : Nat → Option Int) (a : Nat) (v : Option Int) : Nat → Option Int := fun k => if k = a then v else g k
/-- what trap n asks -/
def TrapAsk (μ : Mem) (n a0 a1 a2 a3 : Int) (len : Nat) (r : Mem × Int) : Prop := ∀ μ1, μ1 = putr μ (at0 [a0, a1, a2, a3]) 4 → CapsIn μ1 3 ∧ ((n = 12 ∧ ∃ s, MapAsk μ1 3 s ∧ r = mapD μ1 3 s) ∨ (n = 13 ∧ UnmapAsk μ1 3 ∧ r = unmapD μ1 3) ∨ (n = 18 ∧ (∀ s w, ownC μ1 3 (reg μ1 3 1) 8 2 = (some s, w) → fld μ1 s 1 = 31) ∧ r = orderD μ1 3 len) ∨ (n = 19 ∧ (∀ s w, ownC μ1 3 (reg μ1 3 1) 8 1 = (some s, w) → fld μ1 s 1 = 31) ∧ r = statusD μ1 3))
section
variable {μ : Mem} {rows : List (List Int)} {page : List Int} {g : Nat → Option Int} {b : Bz} {st : Int}
theorem bitAnd_r {r : Int} (h0 : 0 ≤ r) (h4 : r < 4) : Builtin.bitAnd (Builtin.bitAnd 7 r) 3 = r := by
  have : r = 0 ∨ r = 1 ∨ r = 2 ∨ r = 3 := by omega
  rcases this with rfl | rfl | rfl | rfl <;> decide +kernel
def due12 (g : Nat → Option Int) (a : Nat) : Int := if 3 < a then 5 else if (g a).isSome = true then 3 else 0
theorem trap12 (h : LInv μ rows page g b st) {a : Nat} {r : Int} (ha : a < 5) (r0 : 0 ≤ r) (r4 : r < 4) : ∃ q, TrapAsk μ 12 7 5 a r rows.length q ∧ trapped q 3 (ix 3 2) = due12 g a ∧ LInv (trapped q 3) rows page (if due12 g a = 0 then gset g a (some r) else g) b st := by
  obtain ⟨μ1, hμ1⟩ : ∃ μ1, μ1 = putr μ (at0 [7, 5, (a : Int), r]) 4 := ⟨_, rfl⟩
  have h1 : LInv μ1 rows page g b st := by rw [hμ1]; exact h.putr
  have g1 : reg μ1 3 1 = 7 := by rw [hμ1]; exact putr_reg 0 (by decide)
  have g2 : reg μ1 3 2 = 5 := by rw [hμ1]; exact putr_reg 1 (by decide)
  have g3 : reg μ1 3 3 = a := by
    rw [hμ1]
    refine (putr_reg 2 (by decide)).trans ?_
    show (a : Int) % 65536 = a
    omega
  have g4 : reg μ1 3 4 = r := by
    rw [hμ1]
    refine (putr_reg 3 (by decide)).trans ?_
    show r % 65536 = r
    omega
  obtain ⟨k1, k2, k3, k4, k5, k6, k7, k8, k9, _, _⟩ := h1.fx.caps
  refine ⟨mapD μ1 3 23, fun μ2 h2 => ?_, ?_⟩
  · obtain rfl : μ2 = μ1 := h2.trans hμ1.symm
    exact ⟨k1, .inl ⟨rfl, 23, ⟨k1, by rw [g1]; exact k2, ⟨21, by rw [g2]; exact k3, k4, by decide, by decide⟩, k7, by decide, by decide, by rw [g3]; omega⟩, rfl⟩⟩
  have hst := due12 g a
  unfold mapD
  rw [g3, g4, k5, k6, bitAnd_r r0 r4]
  by_cases h4 : 3 < a
  · have hd : due12 g a = 5 := if_pos h4
    rw [hd, if_pos (by omega), if_neg (by decide)]
    exact ⟨mset_same, h1.reg0 (n := 0) (by decide)⟩
  have i0 : ix 31 ((a : Int) * 4 + 8) = 1992 + 4 * a := by unfold ix; omega
  rw [if_neg (by omega), i0, (h1.gd a (by omega)).1]
  by_cases hs : (g a).isSome = true
  · have hd : due12 g a = 3 := by unfold due12; rw [if_neg h4, if_pos hs]
    rw [hd, if_pos hs, if_pos (by decide), if_neg (by decide)]
    exact ⟨mset_same, h1.reg0 (n := 0) (by decide)⟩
  · have hd : due12 g a = 0 := by unfold due12; rw [if_neg h4, if_neg hs]
    rw [hd, if_neg hs, if_neg (by decide), if_pos rfl]
    refine ⟨mset_same, LInv.reg0 (n := 0) (by decide) (h1.ment (by omega) (fun k hk => if_neg hk) ?_ fun r' hr' => ?_)⟩
    · show (7 : Int) = _
      unfold gset
      rw [if_pos rfl]
      rfl
    · unfold gset at hr'
      rw [if_pos rfl] at hr'
      cases hr'
      exact ⟨rfl, r0, r4⟩
theorem trap13 (h : LInv μ rows page g b st) {a : Nat} (ha : a < 5) : ∃ q, TrapAsk μ 13 5 a 0 0 rows.length q ∧ trapped q 3 (ix 3 2) = (if 3 < a then 5 else 0) ∧ LInv (trapped q 3) rows page (if 3 < a then g else gset g a none) b st := by
  obtain ⟨μ1, hμ1⟩ : ∃ μ1, μ1 = putr μ (at0 [5, (a : Int), 0, 0]) 4 := ⟨_, rfl⟩
  have h1 : LInv μ1 rows page g b st := by rw [hμ1]; exact h.putr
  have g1 : reg μ1 3 1 = 5 := by rw [hμ1]; exact putr_reg 0 (by decide)
  have g2 : reg μ1 3 2 = a := by
    rw [hμ1]
    refine (putr_reg 1 (by decide)).trans ?_
    show (a : Int) % 65536 = a
    omega
  obtain ⟨k1, k2, k3, k4, k5, k6, k7, k8, k9, _, _⟩ := h1.fx.caps
  refine ⟨unmapD μ1 3, fun μ2 h2 => ?_, ?_⟩
  · obtain rfl : μ2 = μ1 := h2.trans hμ1.symm
    exact ⟨k1, .inr (.inl ⟨rfl, ⟨k1, ⟨21, by rw [g1]; exact k3, k4, by decide, by decide⟩, k7, by rw [g2]; omega⟩, rfl⟩)⟩
  unfold unmapD
  rw [g2]
  by_cases h4 : 3 < a
  · rw [if_pos h4, if_pos (by omega), if_pos h4]
    exact ⟨mset_same, h1.reg0 (n := 0) (by decide)⟩
  · rw [if_neg h4, if_neg (by omega), if_neg h4]
    refine ⟨mset_same, LInv.reg0 (n := 0) (by decide) (h1.ment (by omega) (fun k hk => if_neg hk) ?_ fun r' hr' => ?_)⟩
    · show (0 : Int) = _
      unfold gset
      rw [if_pos rfl]
      rfl
    · unfold gset at hr'
      rw [if_pos rfl] at hr'
      cases hr'
def due18 (b : Bz) (n : Nat) (t0 t1 t2 : Int) : Int := if b.isSome = true then 3 else if 2 < t0 ∨ (n : Int) ≤ t1 ∨ 3 < t2 then 5 else 0
theorem trap18 (h : LInv μ rows page g b st) {t0 t1 t2 : Int} (b0 : 1 ≤ t0 ∧ t0 < 4) (b1 : 0 ≤ t1 ∧ t1 < 5) (b2 : 0 ≤ t2 ∧ t2 < 5) : ∃ q, TrapAsk μ 18 5 t0 t1 t2 rows.length q ∧ trapped q 3 (ix 3 2) = due18 b rows.length t0 t1 t2 ∧
    LInv (trapped q 3) rows page g (if due18 b rows.length t0 t1 t2 = 0 then some (t0, t1, t2, 3) else b) (if due18 b rows.length t0 t1 t2 = 0 then 1 else st) := by
  obtain ⟨μ1, hμ1⟩ : ∃ μ1, μ1 = putr μ (at0 [5, t0, t1, t2]) 4 := ⟨_, rfl⟩
  have h1 : LInv μ1 rows page g b st := by rw [hμ1]; exact h.putr
  have g1 : reg μ1 3 1 = 5 := by rw [hμ1]; exact putr_reg 0 (by decide)
  have g2 : reg μ1 3 2 = t0 := by
    rw [hμ1]
    refine (putr_reg 1 (by decide)).trans ?_
    show t0 % 65536 = t0
    omega
  have g3 : reg μ1 3 3 = t1 := by
    rw [hμ1]
    refine (putr_reg 2 (by decide)).trans ?_
    show t1 % 65536 = t1
    omega
  have g4 : reg μ1 3 4 = t2 := by
    rw [hμ1]
    refine (putr_reg 3 (by decide)).trans ?_
    show t2 % 65536 = t2
    omega
  obtain ⟨k1, k2, k3, k4, k5, k6, k7, k8, k9, _, _⟩ := h1.fx.caps
  refine ⟨orderD μ1 3 rows.length, fun μ2 h2 => ?_, ?_⟩
  · obtain rfl : μ2 = μ1 := h2.trans hμ1.symm
    refine ⟨k1, .inr (.inr (.inl ⟨rfl, fun s w hs => ?_, rfl⟩))⟩
    rw [g1, k9] at hs
    cases hs
    exact k4
  have hs0 : μ1 (ix 31 0) = st := h1.s0
  have eq : orderD μ1 3 rows.length = if st = 1 then (μ1, 3) else if orderBad μ1 3 rows.length = true then (μ1, 5) else (mlay μ1 31 0 (at0 [1, t0, t1, t2, 3]) 5, 0) := by
    unfold orderD
    rw [g1, k9, g2, g3, g4]
    show (if μ1 (ix 31 0) = 1 then _ else _) = _
    rw [hs0]
  rw [eq]
  have hb1 : st = 1 ↔ b.isSome = true := by
    cases b with
    | none => exact ⟨fun z => absurd z h1.bz, fun z => by cases z⟩
    | some q => exact ⟨fun _ => rfl, fun _ => h1.bz.1⟩
  by_cases hb : b.isSome = true
  · have hd : due18 b rows.length t0 t1 t2 = 3 := if_pos hb
    rw [hd, if_pos (hb1.mpr hb), if_neg (by decide), if_neg (by decide)]
    exact ⟨mset_same, h1.reg0 (n := 0) (by decide)⟩
  rw [if_neg (fun z => hb (hb1.mp z))]
  have hbad : orderBad μ1 3 rows.length = true ↔ (2 < t0 ∨ (rows.length : Int) ≤ t1 ∨ 3 < t2) := by
    unfold orderBad
    rw [g2, g3, g4]
    simp only [Bool.or_eq_true, Bool.not_eq_true', Bool.or_eq_false_iff, decide_eq_true_eq, decide_eq_false_iff_not]
    omega
  by_cases hc : 2 < t0 ∨ (rows.length : Int) ≤ t1 ∨ 3 < t2
  · have hd : due18 b rows.length t0 t1 t2 = 5 := by unfold due18; rw [if_neg hb, if_pos hc]
    rw [hd, if_pos (hbad.mpr hc), if_neg (by decide), if_neg (by decide)]
    exact ⟨mset_same, h1.reg0 (n := 0) (by decide)⟩
  · have hd : due18 b rows.length t0 t1 t2 = 0 := by unfold due18; rw [if_neg hb, if_neg hc]
    rw [hd, if_neg (fun z => hc (hbad.mp z)), if_pos rfl, if_pos rfl]
    have em : mlay μ1 31 0 (at0 [1, t0, t1, t2, 3]) 5 = mset (mset (mset (mset (mset μ1 1984 1) 1985 t0) 1986 t1) 1987 t2) 1988 3 := rfl
    refine ⟨mset_same, LInv.reg0 (n := 0) (by decide) ?_⟩
    show LInv (mlay μ1 31 0 (at0 [1, t0, t1, t2, 3]) 5) rows page g _ 1
    rw [em]
    have e : ∀ j, ¬ (1984 ≤ j ∧ j < 1989) → mset (mset (mset (mset (mset μ1 1984 1) 1985 t0) 1986 t1) 1987 t2) 1988 3 j = μ1 j := fun j hj => by rw [mset_ne (by omega), mset_ne (by omega), mset_ne (by omega), mset_ne (by omega), mset_ne (by omega)]
    refine ⟨h1.fx.to fun j hj => e j (fun z => by unfold vol at hj; simp at hj; omega), fun n hn => by rw [e _ (by omega)]; exact h1.rg n hn, fun k hk => by rw [e _ (by omega), e _ (by omega)]; exact h1.gd k hk, rfl, by decide, ?_, ?_, ⟨rfl, ?_, ?_, ?_, rfl, by omega, by decide, by decide⟩, h1.pl, fun k hk => (e _ (by omega)).trans (h1.pw k hk), h1.pb, h1.ro, h1.rb⟩
    · show 0 ≤ t1 % 65536 ∧ t1 % 65536 < _
      omega
    · show 0 ≤ t2 % 65536 ∧ t2 % 65536 < 4
      omega
    · show t0 % 65536 = t0
      omega
    · show t1 % 65536 = t1
      omega
    · show t2 % 65536 = t2
      omega
/-- the order of one without the capability -/
theorem trap18no (h : LInv μ rows page g b st) : ∃ q, TrapAsk μ 18 7 1 0 0 rows.length q ∧ trapped q 3 (ix 3 2) = 1 := by
  obtain ⟨μ1, hμ1⟩ : ∃ μ1, μ1 = putr μ (at0 [7, 1, 0, 0]) 4 := ⟨_, rfl⟩
  have h1 : LInv μ1 rows page g b st := by rw [hμ1]; exact h.putr
  have g1 : reg μ1 3 1 = 7 := by rw [hμ1]; exact putr_reg 0 (by decide)
  obtain ⟨k1, k2, k3, k4, k5, k6, k7, k8, k9, _, k11⟩ := h1.fx.caps
  refine ⟨orderD μ1 3 rows.length, fun μ2 h2 => ?_, ?_⟩
  · obtain rfl : μ2 = μ1 := h2.trans hμ1.symm
    refine ⟨k1, .inr (.inr (.inl ⟨rfl, fun s w hs => ?_, rfl⟩))⟩
    rw [g1, k11] at hs
    cases hs
  · unfold orderD
    rw [g1, k11]
    exact mset_same
theorem trap19 (h : LInv μ rows page g b st) : ∃ q, TrapAsk μ 19 5 0 0 0 rows.length q ∧ trapped q 3 (ix 3 2) = 0 ∧ trapped q 3 (ix 3 (2 + 1)) = st ∧ LInv (trapped q 3) rows page g b st := by
  obtain ⟨μ1, hμ1⟩ : ∃ μ1, μ1 = putr μ (at0 [5, 0, 0, 0]) 4 := ⟨_, rfl⟩
  have h1 : LInv μ1 rows page g b st := by rw [hμ1]; exact h.putr
  have g1 : reg μ1 3 1 = 5 := by rw [hμ1]; exact putr_reg 0 (by decide)
  obtain ⟨k1, k2, k3, k4, k5, k6, k7, k8, k9, k10, k11⟩ := h1.fx.caps
  have hs0 : μ1 (ix 31 0) = st := h1.s0
  refine ⟨statusD μ1 3, fun μ2 h2 => ?_, ?_⟩
  · obtain rfl : μ2 = μ1 := h2.trans hμ1.symm
    refine ⟨k1, .inr (.inr (.inr ⟨rfl, fun s w hs => ?_, rfl⟩))⟩
    rw [g1, k10] at hs
    cases hs
    exact k4
  · have eq : statusD μ1 3 = (mset μ1 (ix 3 3) st, 0) := by
      unfold statusD
      rw [g1, k10]
      show (mset μ1 (ix 3 3) (μ1 (ix 31 0)), 0) = _
      rw [hs0]
    rw [eq]
    refine ⟨mset_same, ?_, LInv.reg0 (n := 0) (by decide) (LInv.reg0 (n := 1) (by decide) h1)⟩
    show mset (mset μ1 195 st) 194 0 195 = st
    rw [mset_ne (by decide), mset_same]
    have := h1.sb
    omega
/-- a word of the page is put -/
theorem put_inv (h : LInv μ rows page g b st) {t : Nat} {x : Int} (ht : t < 64) (x0 : 0 ≤ x) (x1 : x < 65536) : LInv (mset μ (ix 6 (t : Int)) x) rows (page.set t x) g b st := by
  have i0 : ix 6 (t : Int) = 384 + t := by unfold ix; omega
  rw [i0]
  have e : ∀ j, ¬ (384 ≤ j ∧ j < 448) → mset μ (384 + t) x j = μ j := fun j hj => mset_ne (by omega)
  refine ⟨h.fx.to fun j hj => e j (fun z => by unfold vol at hj; simp at hj; omega), fun n hn => by rw [e _ (by omega)]; exact h.rg n hn, fun k hk => by rw [e _ (by omega), e _ (by omega)]; exact h.gd k hk, (e _ (by omega)).trans h.s0, h.sb, by rw [e _ (by omega)]; exact h.sec, by rw [e _ (by omega)]; exact h.pg, ?_, by rw [List.length_set]; exact h.pl, fun k hk => ?_, fun y hy => ?_, h.ro, h.rb⟩
  · cases b with
    | none => exact h.bz
    | some q =>
      obtain ⟨o, s, p, l⟩ := q
      obtain ⟨a1, a2, a3, a4, a5, a6⟩ := h.bz
      exact ⟨a1, (e _ (by omega)).trans a2, (e _ (by omega)).trans a3, (e _ (by omega)).trans a4, (e _ (by omega)).trans a5, a6⟩
  · rw [List.getD_eq_getElem?_getD, List.getElem?_set]
    by_cases hk : t = k
    · subst hk
      rw [mset_same, if_pos rfl, if_pos (by rw [h.pl]; exact ht)]
      show x % 65536 = x
      omega
    · rw [mset_ne (by omega), if_neg hk, ← List.getD_eq_getElem?_getD]
      exact h.pw k (by assumption)
  · rcases List.mem_or_eq_of_mem_set hy with h1 | h1
    · exact h.pb _ h1
    · rw [h1]; exact ⟨x0, x1⟩
/-- the power goes -/
def powL (g : Nat → Option Int) (rows : List (List Int)) (page : List Int) (b : Bz) (cut : Nat) : List (List Int) := match b with
  | none => rows
  | some (o, s, p, _) => if o = 2 ∧ (gOf g p = 1 ∨ gOf g p = 3) then rows.set s.toNat (page.take cut ++ (rows.getD s.toNat []).drop cut) else rows
theorem pow_inv (h : LInv μ rows page g b st) {cut : Nat} (hc : cut ≤ 64) : DevOk μ rows ∧ powR μ rows cut = powL g rows page b cut ∧ LInv μ (powL g rows page b cut) page g b st := by
  have hd := gd_dent (ν := μ) (p := μ 1987) rfl h.pg.1 h.pg.2 h.gd
  have hdev : DevOk μ rows := by
    refine ⟨h.fx.caps.2.2.2.2.2.2.1, h.sec, h.pg, ?_, h.ro.len⟩
    rw [hd.1]
    split
    · exact .inr ⟨by decide, by decide⟩
    · exact .inl rfl
  refine ⟨hdev, ?_⟩
  have hs0 : μ (ix 31 0) = st := h.s0
  have keep : ∀ rows', rows'.length = rows.length → RowsOk rows' → (∀ r ∈ rows', ∀ x ∈ r, 0 ≤ x ∧ x < 65536) → LInv μ rows' page g b st := fun rows' hl ho hb => ⟨h.fx, h.rg, h.gd, h.s0, h.sb, by rw [hl]; exact h.sec, h.pg, h.bz, h.pl, h.pw, h.pb, ho, hb⟩
  cases b with
  | none =>
    have hn : st ≠ 1 := h.bz
    unfold powR powL
    rw [if_neg (by rw [hs0]; exact fun z => hn z.1)]
    exact ⟨rfl, h⟩
  | some q =>
    obtain ⟨o, s, p, l⟩ := q
    obtain ⟨h1, ho, hsec, hp, hl, ho2, l1, l3⟩ := h.bz
    have e0 : μ (ix 31 0) = 1 := hs0.trans h1
    have e1 : μ (ix 31 1) = o := ho
    have e2 : μ (ix 31 2) = s := hsec
    rw [hp] at hd
    have hsb := h.sec
    rw [hsec] at hsb
    have hcond : ((1 : Int) = 1 ∧ o = 2 ∧ dent μ 0 ≠ 0 ∧ dent μ 1 / 1 % 2 ≠ 0) ↔ (o = 2 ∧ (gOf g p = 1 ∨ gOf g p = 3)) := by
      unfold gOf
      cases e : g p.toNat with
      | none =>
        rw [e] at hd
        have : dent μ 0 = 0 := hd.1
        rw [this]
        simp
      | some r =>
        rw [e] at hd
        obtain ⟨q2, q3, q4⟩ := hd.2 r rfl
        have : dent μ 0 = 7 := hd.1
        rw [this, q2]
        simp only [Option.getD_some, Int.ediv_one]
        constructor
        · rintro ⟨_, h1, _, h2⟩
          exact ⟨h1, by omega⟩
        · rintro ⟨h1, h2⟩
          exact ⟨trivial, h1, by decide, by omega⟩
    by_cases hg : o = 2 ∧ (gOf g p = 1 ∨ gOf g p = 3)
    · have hc' := hcond.mpr hg
      have h7 : dent μ 0 = 7 := by
        rw [hd.1]
        split
        · rfl
        · rename_i hz
          exact absurd (by rw [hd.1, if_neg hz]) hc'.2.2.1
      have hpf : frameI μ (7 - 1) = page := page_frame h.pl h.pw
      have epow : powL g rows page (some (o, s, p, l)) cut = rows.set s.toNat (page.take cut ++ (rows.getD s.toNat []).drop cut) := if_pos hg
      rw [epow]
      refine ⟨?_, ?_⟩
      · unfold powR
        rw [e0, e1, e2, if_pos hc', h7, hpf]
      have hrow : rows.getD s.toNat [] ∈ rows := getD_mem (by omega)
      have hl64 := h.ro.len _ hrow
      refine keep _ (List.length_set ..) (h.ro.set ?_) fun r hr x hx => ?_
      · rw [List.length_append, List.length_take, List.length_drop, h.pl, hl64]
        omega
      · rcases List.mem_or_eq_of_mem_set hr with q1 | q1
        · exact h.rb _ q1 _ hx
        · rw [q1] at hx
          rcases List.mem_append.mp hx with q2 | q2
          · exact h.pb _ (List.mem_of_mem_take q2)
          · exact h.rb _ hrow _ (List.mem_of_mem_drop q2)
    · have epow : powL g rows page (some (o, s, p, l)) cut = rows := if_neg hg
      rw [epow]
      refine ⟨?_, h⟩
      unfold powR
      rw [e0, e1, e2, if_neg (fun z => hg (hcond.mp z))]
end
end KQ

namespace KQ
open KA
open PySem PySem.Spec PyProof.Rows L2 Evl TL
theorem Fix.kind {μ : Mem} (h : Fix μ) {i : Nat} (hi : i < 32) : μ (ix 1 (i : Int)) = kindN i := by
  have e1 : ix 1 (i : Int) = 64 + i := by unfold ix; omega
  rw [e1, h (64 + i) (by omega) (by unfold vol; simp; omega), m0_kind i hi]
theorem Fix.fr {μ : Mem} (h : Fix μ) (k : Int) : fr μ k = (List.range 32).filter fun i => decide (V.int (kindN i) = .int k) := by
  unfold KQ.fr
  apply List.filter_congr
  intro i hi
  rw [h.kind (List.mem_range.mp hi)]
theorem Fix.abs {μ : Mem} (h : Fix μ) : AbsPre μ := by
  refine ⟨fr8 h, ?_, ?_, (h.kind (i := 6) (by decide)), fun n hn => ?_⟩
  · rw [framesV_eq, h.fr]
    have : ((List.range 32).filter fun i => decide (V.int (kindN i) = .int 6)) = [] := by decide +kernel
    rw [this]
    rfl
  · rw [framesV_eq, h.fr]
    have : ((List.range 32).filter fun i => decide (V.int (kindN i) = .int 7)) = [] := by decide +kernel
    rw [this]
    rfl
  · have e : ix 0 (4 + (n : Int)) = 4 + n := by unfold ix; omega
    rw [e, h (4 + n) (by omega) (by unfold vol; simp; omega), (m0_head n hn).1]
    by_cases h1 : n = 1
    · rw [if_pos h1]
      refine ⟨[3], ⟨rfl, by decide, by decide, ?_⟩, by decide⟩
      exact (h 207 (by decide) rfl).trans m0_th.2.1
    · rw [if_neg h1]
      exact ⟨[], rfl, by decide⟩
theorem noUn_of {μ : Mem} (hf : fr μ 4 = [2]) (h : ∀ k < 8, μ (128 + 8 * k) ≠ 1) : NoUn μ := by
  intro f j hf' hj
  rw [hf, List.mem_singleton] at hf'
  subst hf'
  unfold fld
  have : (((2 : Nat) : Int) * 8 + (j : Int)) * 8 + 0 = ((128 + 8 * j : Nat) : Int) := by omega
  rw [this, Int.toNat_natCast]
  exact h j hj
theorem Fix.noUn {μ : Mem} (h : Fix μ) : NoUn μ := by
  refine noUn_of ?_ fun k hk => ?_
  · rw [h.fr]
    decide +kernel
  · rw [h (128 + 8 * k) (by omega) (by unfold vol; simp; omega), m0_caps k hk]
    have : ∀ k < 8, ([0, 4, 3, 5, 0, 8, 2, 2] : List Int).getD k 0 ≠ 1 := by decide +kernel
    exact this k hk
/-! ### the boot -/
theorem m00_fr : fr M00 4 = [2] := by decide +kernel
theorem m00_noUn : NoUn M00 := noUn_of m00_fr (by decide +kernel)
theorem m00_at : M00 (ix 1 31) = 0 ∧ M00 (ix 1 2) = 4 ∧ M00 (ix 2 40) = 0 ∧ M00 (ix 2 32) = 0 := by decide +kernel
theorem m0L_noUn : NoUn (mlk M00 7 2) := noUn_of (by decide +kernel) (by decide +kernel)
theorem m0L_at : mlk M00 7 2 (ix 2 40) = 7 := by decide +kernel
theorem good_pln : GoodPlan PLN := ⟨by decide, fun i hi => by
  have : i = 0 := by have : i < 1 := hi; omega
  subst this
  decide⟩
theorem good_pts : ∀ i : Nat, i < PTS.length → GoodPart (PTS.getD i ⟨0, 0, 0, []⟩) ∧ Read6 (mparts (mboot0 PLN) PTS i) (2 + 5 * (i : Int)) (PTS.getD i ⟨0, 0, 0, []⟩).d (PTS.getD i ⟨0, 0, 0, []⟩).pr (PTS.getD i ⟨0, 0, 0, []⟩).bu (PTS.getD i ⟨0, 0, 0, []⟩).ws := fun i hi => by
  have : i = 0 := by have : i < 1 := hi; omega
  subst this
  refine ⟨⟨by decide, by decide, by decide, by decide, by decide, by decide, by decide⟩, ?_⟩
  refine ⟨?_, ?_, ?_⟩
  · decide +kernel
  · decide +kernel
  · decide +kernel
theorem init_inv {rows : List (List Int)} (ro : RowsOk rows) (rb : ∀ r ∈ rows, ∀ x ∈ r, 0 ≤ x ∧ x < 65536) : LInv M0 rows (List.replicate 64 0) (fun _ => none) none 0 := by
  have z : ∀ j, j < 2048 → (384 ≤ j ∧ j < 448 ∨ 1984 ≤ j ∧ j ≠ 1989) → M0 j = 0 := m0_zero
  have hl : 0 < rows.length := List.length_pos_iff.mpr ro.ne
  refine ⟨fun j _ _ => rfl, fun n hn => by rw [m0_reg n hn]; decide, fun a ha => ⟨z _ (by omega) (by omega), fun r hr => by cases hr⟩, z _ (by decide) (by decide), by decide, ?_, ?_, by show (0 : Int) ≠ 1; decide, List.length_replicate .., fun k hk => ?_, fun x hx => ?_, ro, rb⟩
  · rw [z 1986 (by decide) (by decide)]; omega
  · rw [z 1987 (by decide) (by decide)]; decide
  · rw [z (384 + k) (by omega) (by omega), List.getD_eq_getElem?_getD, List.getElem?_replicate]
    split <;> rfl
  · rw [(List.mem_replicate.mp hx).2]; decide
/-! ### the law's guard -/
structure GD (kvs : List (Key × V)) (g : Nat → Option Int) : Prop where
  nd : (kvs.map (·.1)).Nodup
  ks : ∀ p ∈ kvs, ∃ a : Nat, a < 4 ∧ p.1 = Sum.inl (a : Int)
  at_ : ∀ a : Nat, valV kvs (Sum.inl (a : Int)) = (g a).map V.int
theorem GD.nil : GD [] (fun _ => none) := ⟨List.nodup_nil, fun p hp => (by cases hp), fun a => rfl⟩
theorem GD.len {kvs : List (Key × V)} {g : Nat → Option Int} (h : GD kvs g) : kvs.length = ((List.range 4).filter fun a => (g a).isSome).length := by
  have hp : (kvs.map (·.1)).Perm (((List.range 4).filter fun a => (g a).isSome).map fun (a : Nat) => (Sum.inl (a : Int) : Key)) := by
    refine (List.perm_ext_iff_of_nodup h.nd ?_).mpr fun k => ?_
    · refine List.Pairwise.map _ (fun a b hab e => hab (by have := Sum.inl.inj e; omega)) (List.Pairwise.filter _ List.nodup_range)
    · constructor
      · intro hk
        obtain ⟨p, hp, rfl⟩ := List.mem_map.mp hk
        obtain ⟨a, ha, e⟩ := h.ks p hp
        refine List.mem_map.mpr ⟨a, List.mem_filter.mpr ⟨List.mem_range.mpr ha, ?_⟩, e.symm⟩
        have h1 := h.at_ a
        rw [← e] at h1
        cases q : g a with
        | none =>
          rw [q] at h1
          exact absurd (List.mem_map.mpr ⟨p, hp, rfl⟩) (valV_not h1)
        | some r => rfl
      · intro hk
        obtain ⟨a, ha, rfl⟩ := List.mem_map.mp hk
        obtain ⟨_, h2⟩ := List.mem_filter.mp ha
        have h1 := h.at_ a
        cases q : g a with
        | none => rw [q] at h2; cases h2
        | some r =>
          rw [q] at h1
          exact valV_in h1
  have := hp.length_eq
  rw [List.length_map, List.length_map] at this
  exact this
theorem rowsN_len {μ : Mem} {rows : List (List Int)} {page : List Int} {g : Nat → Option Int} {b : Bz} {st : Int} (h : LInv μ rows page g b st) {kvs : List (Key × V)} (hg : GD kvs g) : rowsN μ 31 = kvs.length := by
  rw [hg.len]
  unfold rowsN
  have h8 : μ (ix 1 31) = 8 := h.fx.caps.2.2.2.2.2.2.1
  rw [if_pos h8]
  congr 1
  apply List.filter_congr
  intro a ha
  have ha4 := List.mem_range.mp ha
  have e : ix 31 (eat μ 31 (a : Int) + 0) = 1992 + 4 * a := by
    unfold eat
    rw [if_pos h8]
    unfold ix
    omega
  rw [e, (h.gd a ha4).1]
  cases g a with
  | none => rfl
  | some r => rfl
theorem GD.put {kvs : List (Key × V)} {g : Nat → Option Int} (h : GD kvs g) {a : Nat} (ha : a < 4) {r : Int} : GD (putK kvs (Sum.inl (a : Int)) (.int r)) (gset g a (some r)) := by
  have hv : ∀ k : Nat, valV (putK kvs (Sum.inl (a : Int)) (.int r)) (Sum.inl (k : Int)) = (gset g a (some r) k).map V.int := fun k => by
    rw [valV_put]
    unfold gset
    by_cases e : k = a
    · rw [e, if_pos rfl, if_pos rfl]; rfl
    · rw [if_neg (fun z => e (by have := Sum.inl.inj z; omega)), if_neg e]
      exact h.at_ k
  cases q : valV kvs (Sum.inl (a : Int)) with
  | none =>
    refine ⟨?_, fun p hp => ?_, hv⟩
    · exact nd_putK _ h.nd q
    · rw [putK_new _ q] at hp
      rcases List.mem_append.mp hp with hp | hp
      · exact h.ks p hp
      · rw [List.mem_singleton] at hp
        exact ⟨a, ha, by rw [hp]⟩
  | some v =>
    have e : putK kvs (Sum.inl (a : Int)) (.int r) = kvs.map fun kv => if kv.1 = Sum.inl (a : Int) then (kv.1, .int r) else kv := by
      unfold putK
      rw [if_pos (by rw [valV_any, q]; rfl)]
    have em : (putK kvs (Sum.inl (a : Int)) (.int r)).map (·.1) = kvs.map (·.1) := by
      rw [e, List.map_map]
      apply List.map_congr_left
      intro p _
      show (if p.1 = Sum.inl (a : Int) then (p.1, V.int r) else p).1 = p.1
      split <;> rfl
    refine ⟨by rw [em]; exact h.nd, fun p hp => ?_, hv⟩
    have : p.1 ∈ kvs.map (·.1) := by rw [← em]; exact List.mem_map.mpr ⟨p, hp, rfl⟩
    obtain ⟨p', hp', e'⟩ := List.mem_map.mp this
    rw [← e']
    exact h.ks p' hp'
theorem valV_drop {k j : Key} : ∀ {kvs : List (Key × V)}, valV (dropK kvs k) j = if j = k then none else valV kvs j
  | [] => by split <;> rfl
  | p :: r => by
    have ih := valV_drop (k := k) (j := j) (kvs := r)
    by_cases e : p.1 = k
    · rw [dropK_pos e, ih]
      by_cases e2 : j = k
      · rw [if_pos e2, if_pos e2]
      · rw [if_neg e2, if_neg e2, valV_neg (fun z => e2 (z.symm.trans e))]
    · rw [dropK_neg e]
      by_cases e2 : p.1 = j
      · rw [valV_pos e2, valV_pos e2, if_neg (fun z => e (e2.trans z))]
      · rw [valV_neg e2, valV_neg e2, ih]
theorem GD.drop {kvs : List (Key × V)} {g : Nat → Option Int} (h : GD kvs g) {a : Nat} : GD (dropK kvs (Sum.inl (a : Int))) (gset g a none) := by
  refine ⟨nd_dropK h.nd, fun p hp => h.ks p (dropK_mem hp), fun k => ?_⟩
  rw [valV_drop]
  unfold gset
  by_cases e : k = a
  · rw [e, if_pos rfl, if_pos rfl]; rfl
  · rw [if_neg (fun z => e (by have := Sum.inl.inj z; omega)), if_neg e]
    exact h.at_ k
theorem GD.same {kvs : List (Key × V)} {g : Nat → Option Int} (h : GD kvs g) {a : Nat} (hn : valV kvs (Sum.inl (a : Int)) = none) : GD kvs (gset g a none) := by
  refine ⟨h.nd, h.ks, fun k => ?_⟩
  unfold gset
  by_cases e : k = a
  · rw [e, if_pos rfl, hn]; rfl
  · rw [if_neg e]; exact h.at_ k
end KQ

namespace KQ
open KA KD
open PySem PySem.Spec PyProof.Rows L2 Evl TL
theorem exists_list {α : Type} (x0 : α) {R : Nat → α → Prop} : ∀ n : Nat, (∀ i, i < n → ∃ y, R i y) → ∃ ys : List α, ys.length = n ∧ ∀ i, i < n → R i (ys.getD i x0)
  | 0, _ => ⟨[], rfl, fun i hi => absurd hi (Nat.not_lt_zero i)⟩
  | n + 1, h => by
    obtain ⟨ys, hl, hy⟩ := exists_list x0 n fun i hi => h i (Nat.lt_succ_of_lt hi)
    obtain ⟨y, hn⟩ := h n (Nat.lt_succ_self n)
    refine ⟨ys ++ [y], by simp [hl], fun i hi => ?_⟩
    by_cases e : i = n
    · subst e
      rw [List.getD_eq_getElem?_getD, List.getElem?_append_right (by omega), hl, Nat.sub_self]
      exact hn
    · rw [List.getD_eq_getElem?_getD, List.getElem?_append_left (by omega), ← List.getD_eq_getElem?_getD]
      exact hy i (by omega)
section
variable {σ : L2.St} {H H0 : Hp} {K : PySem.W.Frag} {D : Ends} {d ca : Addr} {te tn ta tb : TE} {tz : TS}
theorem TK.frd {H' : Hp} (f : FrD d H H') (h : TapeAt H d ca) : TK H H' := fun b xs hb => by
  obtain ⟨cs, at_, l, s, t, h1, _⟩ := h.ex
  exact f b _ hb (ne_of hb h1 (by intro z; cases z))
def DrV (te : TE) (σ : L2.St) (d ca : Addr) (H0 : Hp) (P : Pr) : Prop := ∀ (H : Hp) (Q : VK), FrD d H0 H → TapeAt H d ca → (∀ v H', P v H' → TapeAt H' d ca → FrD d H H' → Q v H') → te σ H Q
theorem dv_int {P : Int → Prop} (h : Dr te σ d ca P) : DrV te σ d ca H0 (fun v _ => ∃ x, v = .int x ∧ P x) := fun H Q _ hT q => h H Q hT fun v H' p hT' f => q _ H' ⟨v, rfl, p⟩ hT' f
/-- a list of what is drawn, as many as are drawn -/
theorem dl_lcRD {j : Nat} {vs : List Nat} {P : Nat → Pr} {Pn : Int → Prop} (hP : ∀ i, Mo (P i)) (hn : Dr tn σ d ca (fun n => 0 ≤ n ∧ n ≤ 40000 ∧ Pn n)) (hw : ∀ x, wipe ((wipe σ vs).set j (some x)) vs = wipe σ vs)
    (he : ∀ i : Nat, DrV te ((wipe σ vs).set j (some (.int (i : Int)))) d ca H (P i)) (Q : VK) (hT : TapeAt H d ca)
    (q : ∀ p H' (n : Int) (xs : List V), H p = none → Pn n → xs.length = n.toNat → (∀ i v, xs[i]? = some v → P i v H') → TapeAt H' d ca → FrD d H H' → H' p = some (.lst xs) → Q (.ref p) H') : tLc (iRng1 (tCons tn tNil)) (gName j) tYes te vs σ H Q :=
  hn H _ hT fun n H1 ⟨n0, n1, pn⟩ hT1 f1 => ⟨n, rfl, by omega, by omega, fun Dl hD => by
    have hDl0 : H Dl = none := by
      cases e : H Dl with
      | none => rfl
      | some o =>
        have nd := (hT1.ne hD).1
        rw [f1 _ _ e nd] at hD
        cases hD
    refine lc_range (lo := 0) (n := n.toNat) (fun i H' => ∃ xs : List V, xs.length = i ∧ (∀ k v, xs[k]? = some v → P k v H') ∧ TapeAt H' d ca ∧ FrD d H H' ∧ H' Dl = some (.lst xs))
      ⟨[], rfl, (fun k v h => by cases h), hT1.keep (Ex.new hD), f1.trans (FrD.of (Ex.new hD)), upd_same⟩
      (fun i H' hi ⟨xs, hl, hx, hT', f, hDl⟩ => ?_) (fun H' ⟨xs, hl, hx, hT', f, hDl⟩ => q Dl H' n xs hDl0 pn hl hx hT' f hDl)
    have e0 : (0 : Int) + (i : Int) = (i : Int) := Int.zero_add _
    show wipe ((wipe σ vs).set j (some (.int ((0 : Int) + (i : Int))))) vs = wipe σ vs ∧ te ((wipe σ vs).set j (some (.int ((0 : Int) + (i : Int))))) H' fun y H4 => ∃ acc, H4 Dl = some (.lst acc) ∧ acc.length < sizeLine ∧ _
    rw [e0]
    have nn := hT1.ne hD
    refine ⟨hw _, he i H' _ f hT' fun v H4 pv hT4 f4 => ⟨xs, f4 _ _ hDl nn.1, sz_lt (by omega), xs ++ [v], by simp [hl], fun k u hk => ?_, hT4.upd nn.1 nn.2, ?_, by rw [upd_same]⟩⟩
    · have h4 := f4 _ _ hDl nn.1
      have tk2 : TK H4 (L2.upd H4 Dl (.lst (xs ++ [v]))) := fun b ys hb => by rw [upd_ne (ne_of hb h4 (by intro z; cases z))]; exact hb
      by_cases e : k < xs.length
      · rw [List.getElem?_append_left e] at hk
        exact hP k _ _ _ ((TK.frd f4 hT').trans tk2) (hx k u hk)
      · have hk2 := List.getElem?_eq_some_iff.mp hk
        have : k = xs.length := by
          have h3 := hk2.1
          rw [List.length_append] at h3
          simp at h3
          omega
        subst this
        rw [List.getElem?_append_right (Nat.le_refl _), Nat.sub_self] at hk
        cases hk
        rw [hl]
        exact hP i _ _ _ tk2 pv
    · intro b o hb hne
      have nb : b ≠ Dl := fun z => by rw [z, hDl0] at hb; cases hb
      rw [upd_ne nb]
      exact f4 _ _ (f _ _ hb hne) hne⟩
theorem q_forRD {j : Nat} {m : Int} {Pn : Int → Prop} (hn : Dr tn σ d ca Pn) (hm : ∀ n, Pn n → 0 ≤ n ∧ n < m) (hm1 : m ≤ 100000) (hT : TapeAt H d ca) (Pv : Nat → L2.St → Hp → Prop) (h0 : ∀ H1, TapeAt H1 d ca → FrD d H H1 → Pv 0 σ H1)
    (hs : ∀ (i : Nat) σ' H', (i : Int) < m → Pv i σ' H' → tu { D with nx := Pv (i + 1), ct := Pv (i + 1), bk := tz D } (σ'.set j (some (.int (i : Int)))) H') (hd : ∀ i σ' H', Pv i σ' H' → tz D σ' H') : tSeq (tFor (iRng1 (tCons tn tNil)) (gName j) tu) tz D σ H :=
  hn H _ hT fun n H1 pn hT1 f1 => ⟨n, rfl, by have := hm n pn; omega, by have := hm n pn; omega, for_range (D := { D with nx := tz D }) (lo := 0) (n := n.toNat) Pv (h0 H1 hT1 f1) (fun i σ' H' hi p => by
    have e0 : (0 : Int) + (i : Int) = (i : Int) := Int.zero_add _
    show tu { D with nx := Pv (i + 1), ct := Pv (i + 1), bk := tz D } (σ'.set j (some (.int ((0 : Int) + (i : Int))))) H'
    rw [e0]
    exact hs i σ' H' (by have := hm n pn; omega) p) (hd _)⟩
end
end KQ

namespace KQ
open KA KD
open PySem PySem.Spec PyProof.Rows L2 Evl TL
/-! ### the law's things in the heap -/
structure AdQ where
  (d ca m wl dx dd rl ra mc cl gd pt : Addr)
structure LawH (K : PySem.W.Frag) (A : AdQ) (H : Hp) (μ : Mem) (rowsD rowsR : List (List Int)) (gk : List (Key × V)) : Prop where
  T : TapeAt H A.d A.ca
  B : BothAt K H A.mc A.m A.wl A.cl entL μ
  D : DiskAt K H A.m A.wl A.dx A.dd A.rl rowsD
  R : RowsL H A.ra rowsR
  G : H A.gd = some (.dK gk)
  P : H A.pt = some (.tbl #[])
  oD : RowsOk rowsD
  oR : RowsOk rowsR
  n1 : A.ra ≠ A.wl
  n2 : A.ra ≠ A.rl
  n3 : A.ra ≠ A.cl
  n4 : A.ca ≠ A.wl
  n5 : A.ca ≠ A.rl
  n6 : A.ca ≠ A.cl
  n7 : A.ca ≠ A.ra
  n8 : A.gd ≠ A.d
  n9 : A.gd ≠ A.dd
  n10 : A.d ≠ A.dd
theorem _root_.KD.TapeAt.dk {H : Hp} {d ca : Addr} (h : TapeAt H d ca) : ∃ kv, H d = some (.dK kv) := by
  obtain ⟨cs, at_, l, s, t, z, _⟩ := h.ex
  exact ⟨_, z⟩
theorem _root_.KD.TapeAt.cl {H : Hp} {d ca : Addr} (h : TapeAt H d ca) : ∃ xs, H ca = some (.lst xs) := by
  obtain ⟨cs, at_, l, s, t, z, z2, _⟩ := h.ex
  exact ⟨_, z2⟩
section
variable {K : PySem.W.Frag} {A : AdQ} {H H' : Hp} {μ μ' : Mem} {rowsD rowsR rows : List (List Int)} {gk gk' : List (Key × V)}
/-- all but the objects of S stand; what is in S is told anew -/
theorem TapeAt.fs {d ca : Addr} {S : List Addr} (h : TapeAt H d ca) (f : FS S H H') (h1 : d ∉ S) (h2 : ca ∉ S) : TapeAt H' d ca := by
  obtain ⟨cs, at_, l, s, t, z, z2, z3⟩ := h.ex
  exact ⟨cs, at_, l, s, t, f _ _ z h1, f _ _ z2 h2, z3⟩
theorem DiskAt.fs {m wl dx dd rl : Addr} {S : List Addr} (h : DiskAt K H m wl dx dd rl rows) (f : FS S H H') (h1 : m ∉ S) (h2 : dd ∉ S) (h3 : rl ∉ S) (ht : ∀ t xs, H t = some (.tup xs) → t ∉ S) : DiskAt K H' m wl dx dd rl rows := by
  obtain ⟨ts, r1, r2, r3⟩ := h.rs
  exact ⟨f _ _ h.ins h1, f _ _ h.di h2, ⟨ts, f _ _ r1 h3, r2, fun i v hv => let ⟨t, e1, e2⟩ := r3 i v hv; ⟨t, e1, f _ _ e2 (ht _ _ e2)⟩⟩, h.nw⟩
theorem RowsL.fs {ra : Addr} {S : List Addr} (h : RowsL H ra rows) (f : FS S H H') (h1 : ra ∉ S) (ht : ∀ t xs, H t = some (.tup xs) → t ∉ S) : RowsL H' ra rows := by
  obtain ⟨ts, r1, r2, r3⟩ := h
  exact ⟨ts, f _ _ r1 h1, r2, fun i v hv => let ⟨t, e1, e2⟩ := r3 i v hv; ⟨t, e1, f _ _ e2 (ht _ _ e2)⟩⟩
theorem BothAt.fs {mc m wl cl : Addr} {S : List Addr} (h : BothAt K H mc m wl cl entL μ) (f : FS S H H') (hm : MemAt K H' m wl μ) (h1 : mc ∉ S) (h2 : cl ∉ S) (ht : ∀ t xs, H t = some (.tup xs) → t ∉ S) (hk : ∀ kl kept, H kl = some (.lst kept) → kl ≠ cl → kl ≠ wl → (∀ v ∈ kept, KeptOk entL H v) → kl ∉ S) : BothAt K H' mc m wl cl entL μ := by
  obtain ⟨dx1, kl, c0, c1, kept, g1, g2, g3, g4, g4w, g5, g6⟩ := h.ma.ex
  exact ⟨⟨dx1, kl, c0, c1, kept, f _ _ g1 h1, f _ _ g2 (hk kl kept g2 g4 g4w g6), f _ _ g3 h2, g4, g4w, g5, fun v hv => (g6 v hv).mono fun b xs hb => f _ _ hb (ht _ _ hb)⟩, hm, h.wc, h.mm⟩
/-- rows are not what the machine keeps -/
theorem kept_ne {a kl : Addr} {kept : List V} (hR : RowsL H a rows) (ho : RowsOk rows) (g2 : H kl = some (.lst kept)) (g6 : ∀ v ∈ kept, KeptOk entL H v) : kl ≠ a := by
  obtain ⟨ts, r1, r2, r3⟩ := hR
  have hp : 0 < rows.length := List.length_pos_iff.mpr ho.ne
  intro z
  rw [← z, g2] at r1
  cases r1
  have hv : kept[0]? = some (kept[0]'(by omega)) := List.getElem?_eq_getElem (by omega)
  obtain ⟨t, e1, e2⟩ := r3 0 _ hv
  obtain ⟨q, tb, pg, e, k1, k2, _⟩ := g6 _ (List.getElem_mem (by omega : 0 < kept.length))
  rw [e1] at k1
  cases k1
  rw [e2] at k2
  have hl := ho.len _ (List.getElem_mem hp)
  have : ((rows.getD 0 []).map V.int).length = 3 := congrArg (fun o : Option HO => match o with | some (.tup xs) => xs.length | _ => 0) k2
  rw [List.length_map, List.getD_eq_getElem?_getD, List.getElem?_eq_getElem hp] at this
  simp only [Option.getD_some] at this
  omega
theorem LawH.mem (h : LawH K A H μ rowsD rowsR gk) : MemAt K H A.m A.wl μ := h.B.me
theorem LawH.ex (h : LawH K A H μ rowsD rowsR gk) (e : Ex H H') : LawH K A H' μ rowsD rowsR gk := ⟨h.T.keep e, h.B.keep e, h.D.keep e, h.R.keep e, e _ _ h.G, e _ _ h.P, h.oD, h.oR, h.n1, h.n2, h.n3, h.n4, h.n5, h.n6, h.n7, h.n8, h.n9, h.n10⟩
theorem FS.frd {d : Addr} (f : FrD d H H') : FS [d] H H' := fun b o h n => f b o h (by simpa using n)
/-- the tape goes on -/
theorem LawH.tape (h : LawH K A H μ rowsD rowsR gk) (hT : TapeAt H' A.d A.ca) (f : FrD A.d H H') : LawH K A H' μ rowsD rowsR gk ∧ TK H H' := by
  obtain ⟨kv, hd⟩ := h.T.dk
  obtain ⟨ts, r1, _, _⟩ := h.R
  obtain ⟨ts2, q1, _, _⟩ := h.D.rs
  have ht : ∀ t xs, H t = some (.tup xs) → t ∉ [A.d] := fun t xs ht => by rw [List.mem_singleton]; exact ne_of ht hd (by intro z; cases z)
  have hl : ∀ t xs, H t = some (.lst xs) → t ∉ [A.d] := fun t xs ht => by rw [List.mem_singleton]; exact ne_of ht hd (by intro z; cases z)
  have hi : ∀ t C dx fs, H t = some (.ins C dx fs) → t ∉ [A.d] := fun t C dx fs ht => by rw [List.mem_singleton]; exact ne_of ht hd (by intro z; cases z)
  have f' := FS.frd f
  have hw := h.B.me.ws
  have ndd : A.dd ∉ [A.d] := by rw [List.mem_singleton]; exact Ne.symm h.n10
  have hD' : DiskAt K H' A.m A.wl A.dx A.dd A.rl rowsD := DiskAt.fs h.D f' (hi _ _ _ _ h.D.ins) ndd (hl _ _ q1) ht
  have hM' : MemAt K H' A.m A.wl μ := ⟨⟨A.dx, A.dd, hD'.ins, _, hD'.di⟩, f' _ _ hw (hl _ _ hw)⟩
  obtain ⟨dx1, kl, c0, c1, kept, g1, g2, g3, _⟩ := h.B.ma.ex
  refine ⟨⟨hT, BothAt.fs h.B f' hM' (hi _ _ _ _ g1) (hl _ _ g3) ht (fun kl kept g2 _ _ _ => hl _ _ g2), hD', RowsL.fs h.R f' (hl _ _ r1) ht, f' _ _ h.G (by rw [List.mem_singleton]; exact h.n8), f' _ _ h.P (by rw [List.mem_singleton]; exact ne_of h.P hd (by intro z; cases z)), h.oD, h.oR, h.n1, h.n2, h.n3, h.n4, h.n5, h.n6, h.n7, h.n8, h.n9, h.n10⟩, fun b xs hb => f' _ _ hb (ht _ _ hb)⟩
/-- words change -/
theorem LawH.words (h : LawH K A H μ rowsD rowsR gk) (hM : MemAt K H' A.m A.wl μ') (f : Fr A.wl H H') : LawH K A H' μ' rowsD rowsR gk ∧ TK H H' := by
  have hw := h.B.me.ws
  obtain ⟨kv, hd⟩ := h.T.dk
  obtain ⟨xs, hc⟩ := h.T.cl
  have ht : ∀ t xs, H t = some (.tup xs) → t ∉ [A.wl] := fun t xs ht => by rw [List.mem_singleton]; exact ne_of ht hw (by intro z; cases z)
  have f' : FS [A.wl] H H' := FS.fr f (by simp)
  have nm : ∀ {a : Addr}, a ≠ A.wl → a ∉ [A.wl] := fun h => by simpa using h
  exact ⟨⟨TapeAt.fs h.T f' (nm (ne_of hd hw (by intro z; cases z))) (nm h.n4), h.B.words f hM, h.D.words h.B.me f, RowsL.fs h.R f' (nm h.n1) ht, f' _ _ h.G (nm (ne_of h.G hw (by intro z; cases z))), f' _ _ h.P (nm (ne_of h.P hw (by intro z; cases z))), h.oD, h.oR, h.n1, h.n2, h.n3, h.n4, h.n5, h.n6, h.n7, h.n8, h.n9, h.n10⟩, fun b xs hb => f' _ _ hb (ht _ _ hb)⟩
/-- a tick, a loss of power -/
theorem LawH.dev (h : LawH K A H μ rowsD rowsR gk) (hB : BothAt K H' A.mc A.m A.wl A.cl entL μ') (hD : DiskAt K H' A.m A.wl A.dx A.dd A.rl rows) (ho : RowsOk rows) (f : FS [A.wl, A.rl, A.mc, A.cl] H H') : LawH K A H' μ' rows rowsR gk ∧ TK H H' := by
  have hw := h.B.me.ws
  obtain ⟨kv, hd⟩ := h.T.dk
  obtain ⟨ts2, q1, _, _⟩ := h.D.rs
  obtain ⟨dx1, kl, c0, c1, kept, g1, g2, g3, _⟩ := h.B.ma.ex
  have nm : ∀ {a : Addr} {o : HO}, H a = some o → (∀ xs, o ≠ .lst xs) → (∀ C dx fs, o ≠ .ins C dx fs) → a ∉ [A.wl, A.rl, A.mc, A.cl] := fun {a o} ha n1 n2 => by
    simp only [List.mem_cons, List.not_mem_nil, or_false, not_or]
    exact ⟨ne_of ha hw (n1 _), ne_of ha q1 (n1 _), ne_of ha g1 (n2 _ _ _), ne_of ha g3 (n1 _)⟩
  have nl : ∀ {a : Addr} {xs : List V}, H a = some (.lst xs) → a ≠ A.wl → a ≠ A.rl → a ≠ A.cl → a ∉ [A.wl, A.rl, A.mc, A.cl] := fun {a xs} ha n1 n2 n3 => by
    simp only [List.mem_cons, List.not_mem_nil, or_false, not_or]
    exact ⟨n1, n2, ne_of ha g1 (by intro z; cases z), n3⟩
  have ht : ∀ t xs, H t = some (.tup xs) → t ∉ [A.wl, A.rl, A.mc, A.cl] := fun t xs ht => nm ht (fun _ z => by cases z) (fun _ _ _ z => by cases z)
  obtain ⟨xs, hc⟩ := h.T.cl
  obtain ⟨ts, r1, _, _⟩ := h.R
  exact ⟨⟨TapeAt.fs h.T f (nm hd (fun _ z => by cases z) (fun _ _ _ z => by cases z)) (nl hc h.n4 h.n5 h.n6), hB, hD, RowsL.fs h.R f (nl r1 h.n1 h.n2 h.n3) ht, f _ _ h.G (nm h.G (fun _ z => by cases z) (fun _ _ _ z => by cases z)), f _ _ h.P (nm h.P (fun _ z => by cases z) (fun _ _ _ z => by cases z)), ho, h.oR, h.n1, h.n2, h.n3, h.n4, h.n5, h.n6, h.n7, h.n8, h.n9, h.n10⟩, fun b xs hb => f _ _ hb (ht _ _ hb)⟩
/-- the guard's dict is put -/
theorem LawH.guard (h : LawH K A H μ rowsD rowsR gk) : LawH K A (upd H A.gd (.dK gk')) μ rowsD rowsR gk' ∧ TK H (upd H A.gd (.dK gk')) := by
  have f : FS [A.gd] H (upd H A.gd (.dK gk')) := FS.put (by simp)
  have nm : ∀ {a : Addr} {o : HO}, H a = some o → (∀ kv, o ≠ .dK kv) → a ∉ [A.gd] := fun {a o} ha n => by rw [List.mem_singleton]; exact ne_of ha h.G (n _)
  have ht : ∀ t xs, H t = some (.tup xs) → t ∉ [A.gd] := fun t xs ht => nm ht (fun _ z => by cases z)
  have hl : ∀ t xs, H t = some (.lst xs) → t ∉ [A.gd] := fun t xs ht => nm ht (fun _ z => by cases z)
  obtain ⟨ts, r1, _, _⟩ := h.R
  obtain ⟨ts2, q1, _, _⟩ := h.D.rs
  obtain ⟨xs, hc⟩ := h.T.cl
  obtain ⟨dx1, kl, c0, c1, kept, g1, g2, g3, _⟩ := h.B.ma.ex
  have hw := h.B.me.ws
  have hD' := DiskAt.fs h.D f (nm h.D.ins (fun _ z => by cases z)) (by rw [List.mem_singleton]; exact Ne.symm h.n9) (hl _ _ q1) ht
  have hM' : MemAt K (upd H A.gd (.dK gk')) A.m A.wl μ := ⟨⟨A.dx, A.dd, hD'.ins, _, hD'.di⟩, f _ _ hw (hl _ _ hw)⟩
  exact ⟨⟨TapeAt.fs h.T f (by rw [List.mem_singleton]; exact Ne.symm h.n8) (hl _ _ hc), BothAt.fs h.B f hM' (nm g1 (fun _ z => by cases z)) (hl _ _ g3) ht (fun kl kept g2 _ _ _ => hl _ _ g2), hD', RowsL.fs h.R f (hl _ _ r1) ht, upd_same, f _ _ h.P (nm h.P (fun _ z => by cases z)), h.oD, h.oR, h.n1, h.n2, h.n3, h.n4, h.n5, h.n6, h.n7, h.n8, h.n9, h.n10⟩, fun b xs hb => f _ _ hb (ht _ _ hb)⟩
/-- a sector of the law's own rows is put -/
theorem LawH.row (h : LawH K A H μ rowsD rowsR gk) {s : Nat} {row : List Int} {t : Addr} {ts : List V} (hts : H A.ra = some (.lst ts)) (hlen : ts.length = rowsR.length) (hs : s < rowsR.length) (hr : row.length = 64) (ht0 : H t = some (.tup (row.map V.int))) (hval : ∀ i v, ts[i]? = some v → ∃ t, v = .ref t ∧ H t = some (.tup ((rowsR.getD i []).map V.int))) :
    LawH K A (upd H A.ra (.lst (ts.set s (.ref t)))) μ rowsD (rowsR.set s row) gk ∧ TK H (upd H A.ra (.lst (ts.set s (.ref t)))) := by
  have f : FS [A.ra] H (upd H A.ra (.lst (ts.set s (.ref t)))) := FS.put (by simp)
  have nm : ∀ {a : Addr} {o : HO}, H a = some o → (∀ xs, o ≠ .lst xs) → a ∉ [A.ra] := fun {a o} ha n => by rw [List.mem_singleton]; exact ne_of ha hts (n _)
  have ht : ∀ t xs, H t = some (.tup xs) → t ∉ [A.ra] := fun t xs ht => nm ht (fun _ z => by cases z)
  have n1 : ∀ {a : Addr}, a ≠ A.ra → a ∉ [A.ra] := fun h => by simpa using h
  obtain ⟨dx1, kl, c0, c1, kept, g1, g2, g3, _⟩ := h.B.ma.ex
  obtain ⟨kv, hd⟩ := h.T.dk
  have hw := h.B.me.ws
  have hD' := DiskAt.fs h.D f (nm h.D.ins (fun _ z => by cases z)) (nm h.D.di (fun _ z => by cases z)) (n1 (Ne.symm h.n2)) ht
  have hM' : MemAt K (upd H A.ra (.lst (ts.set s (.ref t)))) A.m A.wl μ := ⟨⟨A.dx, A.dd, hD'.ins, _, hD'.di⟩, f _ _ hw (n1 (Ne.symm h.n1))⟩
  have tk : TK H (upd H A.ra (.lst (ts.set s (.ref t)))) := fun b xs hb => f _ _ hb (ht _ _ hb)
  refine ⟨⟨TapeAt.fs h.T f (nm hd (fun _ z => by cases z)) (n1 h.n7), BothAt.fs h.B f hM' (nm g1 (fun _ z => by cases z)) (n1 (Ne.symm h.n3)) ht (fun kl kept g2 _ _ g6 => n1 (kept_ne h.R h.oR g2 g6)), hD', ⟨_, upd_same, by rw [List.length_set, List.length_set]; exact hlen, fun i v hv => ?_⟩, f _ _ h.G (nm h.G (fun _ z => by cases z)), f _ _ h.P (nm h.P (fun _ z => by cases z)), h.oD, h.oR.set hr, h.n1, h.n2, h.n3, h.n4, h.n5, h.n6, h.n7, h.n8, h.n9, h.n10⟩, tk⟩
  rw [List.getElem?_set] at hv
  by_cases e : s = i
  · subst e
    rw [if_pos rfl, if_pos (by omega)] at hv
    cases hv
    refine ⟨t, rfl, ?_⟩
    rw [List.getD_eq_getElem?_getD, List.getElem?_set, if_pos rfl, if_pos hs]
    exact tk _ _ ht0
  · rw [if_neg e] at hv
    obtain ⟨t', e1, e2⟩ := hval i v hv
    refine ⟨t', e1, ?_⟩
    rw [List.getD_eq_getElem?_getD, List.getElem?_set, if_neg e, ← List.getD_eq_getElem?_getD]
    exact tk _ _ e2
end
def PgV (H : Hp) (v : V) (page : List Int) : Prop := ∃ pa, v = .ref pa ∧ H pa = some (.tup (page.map V.int))
theorem PgV.tk {H H' : Hp} {v : V} {page : List Int} (h : PgV H v page) (k : TK H H') : PgV H' v page := by
  obtain ⟨pa, e, h1⟩ := h
  exact ⟨pa, e, k _ _ h1⟩
def BzV (H : Hp) (v : V) : Bz → Prop
  | none => v = .non
  | some (o, s, p, l) => ∃ ba, v = .ref ba ∧ H ba = some (.tup [.int o, .int s, .int p, .int l])
theorem BzV.tk {H H' : Hp} {v : V} {b : Bz} (h : BzV H v b) (k : TK H H') : BzV H' v b := by
  cases b with
  | none => exact h
  | some q =>
    obtain ⟨o, s, p, l⟩ := q
    obtain ⟨ba, e, h1⟩ := h
    exact ⟨ba, e, k _ _ h1⟩
end KQ

namespace KQ
open KA KD
open PySem PySem.Spec PyProof.Rows L2 Evl TL
/-! ### rows compared; what the law does behind a tick -/
def rowsD (rows : List (List Int)) : List PyData := rows.map fun r => .tuple ((r.map V.int).map pd)
theorem lay_rows : ∀ rows : List (List Int), PyData.canLayAll0 (rowsD rows) = true ∧ PyData.depthAll (rowsD rows) ≤ 1
  | [] => ⟨by simp [rowsD, PyData.canLayAll0], by simp [rowsD, PyData.depthAll]⟩
  | r :: rows => by
    obtain ⟨h1, h2⟩ := lay_rows rows
    obtain ⟨h3, h4⟩ := canLay_flat (ints_flat r)
    show PyData.canLayAll0 (PyData.tuple ((r.map V.int).map pd) :: rowsD rows) = true ∧ PyData.depthAll (PyData.tuple ((r.map V.int).map pd) :: rowsD rows) ≤ 1
    rw [PyData.canLayAll0, PyData.depthAll, PyData.canLay0, PyData.depth, h1, h3, h4]
    exact ⟨rfl, by omega⟩
theorem sh_rows (rows : List (List Int)) : SeqAt.shaped (.tuple (rowsD rows)) = true := by
  obtain ⟨h1, h2⟩ := lay_rows rows
  unfold SeqAt.shaped
  rw [PyData.canLay0, PyData.depth, h1, Bool.true_and]
  exact decide_eq_true (by omega)
section
variable {K : PySem.W.Frag} {H : Hp}
theorem dp_rows : ∀ {ts : List V} {rows : List (List Int)}, ts.length = rows.length → (∀ i v, ts[i]? = some v → ∃ t, v = .ref t ∧ H t = some (.tup ((rows.getD i []).map V.int))) → DpAll K H ts (rowsD rows)
  | [], [], _, _ => .nil
  | [], _ :: _, h, _ => by cases h
  | _ :: _, [], h, _ => by cases h
  | v :: ts, r :: rows, hl, h => by
    obtain ⟨t, rfl, ht⟩ := h 0 v rfl
    refine .cons (dp_tup (st_of ht) (ints_flat r)) (dp_rows (by simpa using hl) fun i v hv => h (i + 1) v hv)
end
section
variable {σ : L2.St} {H : Hp} {K : PySem.W.Frag} {D : Ends} {te td tv tx : TE} {tr ta : TA} {t u : TT} {tu tw tz : TS}
/-- d != {31: tuple(rows)}: no -/
theorem ev_neRows {dk rt ra : Addr} {rows : List (List Int)} (hd : Ev td σ H (.ref dk)) (hdk : H dk = some (.dK [(Sum.inl 31, .ref rt)])) (hr : RowsT H rt rows) (hv : Ev tv σ H (.ref ra)) (hra : RowsL H ra rows) :
    Ev (tOp (rNeDD K) td (tDisp [(tC (.int 31), tCB (rTupK K) (tCons tv tNil))])) σ H (.bl false) := fun H1 e1 Q q => hd H1 e1 _ fun H2 e2 p hp => by
  have e3 : Ex H2 (upd H2 p (.dK [])) := Ex.new hp
  have e13 := (e1.trans e2).trans e3
  have hp3 : (upd H2 p (.dK [])) p = some (.dK []) := upd_same
  generalize upd H2 p (.dK []) = H3 at e3 e13 hp3 ⊢
  refine hv H3 e13 _ fun H4 e4 => ?_
  obtain ⟨ts, r1, r2, r3⟩ := hra.keep (e13.trans e4)
  refine ⟨ra, ts, rfl, .inl ⟨sq_of r1, fun l hl => ?_⟩⟩
  have e5 : Ex H4 (upd H4 l (.tup ts)) := Ex.new hl
  have hl5 : (upd H4 l (.tup ts)) l = some (.tup ts) := upd_same
  generalize upd H4 l (.tup ts) = H5 at e5 hl5 ⊢
  have hp5 := (e4.trans e5) _ _ hp3
  refine ⟨hp5, [(Sum.inl 31, .ref l)], rfl, (by show 1 ≤ 15; decide), ?_⟩
  have hp6 : (upd H5 p (.dK (mergeK [] [(Sum.inl 31, .ref l)]))) p = some (.dK [(Sum.inl 31, .ref l)]) := upd_same
  have e36 : Ex H2 (upd H5 p (.dK (mergeK [] [(Sum.inl 31, .ref l)]))) := (e3.trans (e4.trans e5)).mut hp
  have tk5 : TK H5 (upd H5 p (.dK (mergeK [] [(Sum.inl 31, .ref l)]))) := fun b xs hb => by rw [upd_ne (ne_of hb hp5 (by intro z; cases z))]; exact hb
  have hl6 := tk5 _ _ hl5
  have hk6 := e36 _ _ ((e1.trans e2) _ _ hdk)
  have hr6 := hr.keep ((e1.trans e2).trans e36)
  have r36 : ∀ i v, ts[i]? = some v → ∃ t, v = .ref t ∧ (upd H5 p (.dK (mergeK [] [(Sum.inl 31, .ref l)]))) t = some (.tup ((rows.getD i []).map V.int)) := fun i v hv => by
    obtain ⟨t, a, b⟩ := r3 i v hv
    exact ⟨t, a, tk5 _ _ (e5 _ _ b)⟩
  generalize upd H5 p (.dK (mergeK [] [(Sum.inl 31, .ref l)])) = H6 at *
  obtain ⟨us, u1, u2, u3⟩ := hr6
  exact ⟨dk, p, _, _, rfl, rfl, hk6, hp6, rfl, fun q hq => by
    rw [List.mem_singleton] at hq
    subst hq
    exact ⟨.ref l, _, _, rfl, .tup (st_of u1) (dp_rows u2 u3), .tup (st_of hl6) (dp_rows r2 r36), sh_rows rows, sh_rows rows, same_of_shaped (sh_rows rows)⟩, q _ (e2.trans e36)⟩
end
/-- goodB by what the guard has -/
theorem gd_get {gk : List (Key × V)} {g : Nat → Option Int} (hG : GD gk g) {p : Int} (p0 : 0 ≤ p) : (valV gk (Sum.inl p)).getD (.int 0) = .int (gOf g p) := by
  have e : p = (p.toNat : Int) := by omega
  have := hG.at_ p.toNat
  rw [← e] at this
  rw [this]
  unfold gOf
  cases g p.toNat <;> rfl
theorem in_1 {x : Int} : inV (.int x) [.int 2, .int 3] = (decide (x = 2) || decide (x = 3)) := by
  rw [Bool.eq_iff_iff]
  simp [inV, eqV]
  omega
theorem in_2 {x : Int} : inV (.int x) [.int 1, .int 3] = (decide (x = 1) || decide (x = 3)) := by
  rw [Bool.eq_iff_iff]
  simp [inV, eqV]
  omega
section
variable {σ : L2.St} {H : Hp} {K : PySem.W.Frag} {D : Ends} {te td ti ta tb : TE} {tz : TS}
theorem s_setS {l : Addr} {xs ys : List V} {j : Nat} (hl : H l = some (.lst xs)) (h : EvS te σ H ys) (ho : ∀ H1, Ex H H1 → Ev ta σ H1 (.ref l)) (hi : ∀ H1, Ex H H1 → Ev tb σ H1 (.int (j : Int))) (hj : j < xs.length) (k : ∀ p H1, Ex H H1 → H1 p = some (.tup ys) → D.nx σ (upd H1 l (.lst (xs.set j (.ref p))))) : tAsg te (gSub ta tb rSetL) D σ H :=
  h H (Ex.refl H) _ fun p H1 e1 h1 => ho H1 e1 H1 (Ex.refl H1) _ fun H2 e2 => hi H2 (e1.trans e2) H2 (Ex.refl H2) _ fun H3 e3 => ⟨l, xs, (j : Int), j, rfl, rfl, ((e1.trans e2).trans e3) l _ hl, ixN_nat hj, k p H3 ((e1.trans e2).trans e3) ((e2.trans e3) _ _ h1)⟩
theorem es_row {ra : Addr} {rows : List (List Int)} {s : Nat} (hR : RowsL H ra rows) (hr : Ev td σ H (.ref ra)) (hi : Ev ti σ H (.int (s : Int))) (hs : s < rows.length) : EvS (tOp (rIxL K) td ti) σ H ((rows.getD s []).map V.int) := by
  obtain ⟨ts, r1, r2, r3⟩ := hR
  have hv := List.getElem?_eq_getElem (by omega : s < ts.length)
  obtain ⟨t, e, ht⟩ := r3 s _ hv
  exact es_ev (ev_op hr hi (Evl.rv_ixL (sq_of r1) (atI_nat (by rw [hv, e])))) ht
theorem ev_lenD {a : Addr} {kvs : List (Key × V)} (h : Ev te σ H (.ref a)) (ha : H a = some (.dK kvs)) : Ev (tCB (fun xs H Q => ∃ a kvs, xs = [V.ref a] ∧ H a = some (.dK kvs) ∧ Q (.int (List.length kvs)) H) (tCons te tNil)) σ H (.int (kvs.length : Int)) := fun H1 e Q q => h H1 e _ fun H2 e2 => ⟨a, kvs, rfl, e2 _ _ (e _ _ ha), q H2 e2⟩
def PrT (xs : List V) : Pr := fun v H => ∃ t, v = .ref t ∧ H t = some (.tup xs)
theorem PrT.mo {xs : List V} : Mo (PrT xs) := fun v H H' tk ⟨t, e, h⟩ => ⟨t, e, tk _ _ h⟩
end
section
variable {K : PySem.W.Frag} {A : AdQ} {H H' : Hp} {μ μ' : Mem} {rows rowsR rows' : List (List Int)} {gk : List (Key × V)}
/-- a sector of the disk is put, the words stand -/
theorem LawH.disk (h : LawH K A H μ rows rowsR gk) (hM : MemAt K H' A.m A.wl μ) (hD : DiskAt K H' A.m A.wl A.dx A.dd A.rl rows') (ho : RowsOk rows') (f : FS [A.rl] H H') : LawH K A H' μ rows' rowsR gk ∧ TK H H' :=
  h.dev (h.B.dev h.D h.oD (f.weak fun a ha => by simp at ha; simp [ha]) hM) hD ho (f.weak fun a ha => by simp at ha; simp [ha])
end
end KQ

namespace KQ
open KA KD
open PySem PySem.Spec PyProof.Rows L2 Evl TL
section
variable {σ : L2.St} {H : Hp} {K : PySem.W.Frag} {D : Ends} {te tb : TE} {tr ta : TA} {tz : TS}
theorem q_cb1 {r : List V → Hp → VK → Prop} {Q : VK} (h : te σ H fun v H1 => r [v] H1 Q) : tCB r (tCons te tNil) σ H Q := h
theorem q_call {sp : Sp} {dvs : List V} {E : XK} {Q : VK} (h : ta σ H fun vs H1 => sp (vs ++ dvs) H1 Q E) : tCall sp dvs E ta σ H Q := h
theorem q_cons {Q : List V → Hp → Prop} (h : te σ H fun x H1 => tr σ H1 fun xs H2 => Q (x :: xs) H2) : tCons te tr σ H Q := h
theorem q_consP {P : Pr} {Q : List V → Hp → Prop} (h : EvP te σ H P) (k : ∀ v H1, Ex H H1 → P v H1 → tr σ H1 fun xs H2 => Q (v :: xs) H2) : tCons te tr σ H Q := h H (Ex.refl H) _ k
theorem q_consU {xs : List V} {Q : List V → Hp → Prop} (h : EvU te σ H xs) (k : ∀ p H1, H p = none → Ex H H1 → H1 p = some (.tup xs) → tr σ H1 fun ys H2 => Q (.ref p :: ys) H2) : tCons te tr σ H Q := h H (Ex.refl H) _ k
theorem q_consV {v : V} {Q : List V → Hp → Prop} (h : Ev te σ H v) (k : ∀ H1, Ex H H1 → tr σ H1 fun ys H2 => Q (v :: ys) H2) : tCons te tr σ H Q := h H (Ex.refl H) _ k
theorem q_consC {x : V} {Q : List V → Hp → Prop} (h : tr σ H fun vs H1 => Q (x :: vs) H1) : tCons (tC x) tr σ H Q := h
theorem q_tup {Q : VK} (h : ta σ H fun vs H1 => vs.length ≤ sizeLine ∧ ∀ p, H1 p = none → Q (.ref p) (upd H1 p (.tup vs))) : tTup ta σ H Q := h
theorem q_nil {Q : List V → Hp → Prop} (h : Q [] H) : tNil σ H Q := h
theorem q_if0 {t : TT} {Q : VK} {b : Bool} (h : t σ H fun b H1 => if b = true then te σ H1 Q else tb σ H1 Q) : tIf t te tb σ H Q := h
/-- (x,), x told by a promise -/
theorem ep_tup1 {P : Pr} (h : EvP te σ H P) (mo : Mo P) : EvP (tTup (tCons te tNil)) σ H (fun v H => ∃ t x, v = .ref t ∧ H t = some (.tup [x]) ∧ P x H) := fun H1 e Q q =>
  h H1 e _ fun v H2 e2 p => ⟨sz_of (by show 1 ≤ 100000; decide), fun t ht => q _ _ (e2.trans (Ex.new ht)) ⟨t, v, rfl, upd_same, mo _ _ _ (TK.ex (Ex.new ht)) p⟩⟩
theorem ep_U {xs : List V} (h : EvU te σ H xs) : EvP te σ H (fun v H => ∃ t, v = .ref t ∧ H t = some (.tup xs)) := fun H1 e Q q => h H1 e _ fun p H2 hp e2 h2 => q _ H2 e2 ⟨p, rfl, h2⟩
end
section
variable {σ : L2.St} {H : Hp} {K : PySem.W.Frag} {D : Ends} {te tb tn td tx ty : TE} {tr ta : TA} {tz tu : TS} {d ca : Addr}
theorem s_forRD {j : Nat} {m : Int} {Pn : Int → Prop} (hn : Dr tn σ d ca Pn) (hm : ∀ n, Pn n → 0 ≤ n ∧ n < m) (hm1 : m ≤ 100000) (hT : TapeAt H d ca) (Pv : Nat → L2.St → Hp → Prop) (h0 : ∀ H1, TapeAt H1 d ca → FrD d H H1 → Pv 0 σ H1)
    (hs : ∀ (i : Nat) σ' H', (i : Int) < m → Pv i σ' H' → tu { D with nx := Pv (i + 1), ct := Pv (i + 1), bk := D.nx } (σ'.set j (some (.int (i : Int)))) H') (hd : ∀ i σ' H', Pv i σ' H' → D.nx σ' H') : tFor (iRng1 (tCons tn tNil)) (gName j) tu D σ H := q_forRD (D := D) (tz := fun D σ H => D.nx σ H) hn hm hm1 hT Pv h0 hs hd
/-- behind a call: if .. != e -/
theorem q_neK {z : Int} (hb : Ev tb σ H (.int z)) (k : ∀ H2, Ex H H2 → D.nx σ H2) : tb σ H fun y H2 => rNe (.int z) y H2 fun v H3 => ∃ b, v = .bl b ∧ if b = true then tu D σ H3 else tNext D σ H3 := hb H (Ex.refl H) _ fun H2 e2 => ⟨rfl, _, rfl, by rw [decide_eq_true rfl]; exact iteF (k H2 e2)⟩
theorem ev_din {a : Addr} {kvs : List (Key × V)} {k : Key} (hy : Ev ty σ H (kV k)) (hd : Ev td σ H (.ref a)) (ha : H a = some (.dK kvs)) : Ev (tDIn ty td) σ H (.bl (valV kvs k).isSome) := fun H1 e Q q => hy H1 e _ fun H2 e2 => hd H2 (e.trans e2) _ fun H3 e3 => ⟨a, _, rfl, DGet.k (k := k) (((e.trans e2).trans e3) _ _ ha), q H3 (e2.trans e3)⟩
theorem ev_dget2 {a : Addr} {kvs : List (Key × V)} {k : Key} {v : V} (hd : Ev td σ H (.ref a)) (hy : Ev ty σ H (kV k)) (hx : Ev tx σ H v) (ha : H a = some (.dK kvs)) : Ev (tDGet2 td ty tx) σ H ((valV kvs k).getD v) := fun H1 e Q q => hd H1 e _ fun H2 e2 => ⟨a, rfl, .inl ⟨kvs, .inl ((e.trans e2) _ _ ha)⟩, hy H2 (e.trans e2) _ fun H3 e3 => hx H3 ((e.trans e2).trans e3) _ fun H4 e4 => ⟨_, DGet.k (k := k) ((((e.trans e2).trans e3).trans e4) _ _ ha), q H4 ((e2.trans e3).trans e4)⟩⟩
end
section
variable {σ : L2.St} {H : Hp} {K : PySem.W.Frag} {D : Ends} {te tb tx ty : TE} {tr ta : TA} {t u : TT} {tu tw tz : TS}
theorem q_consS {xs : List V} {Q : List V → Hp → Prop} (h : EvS te σ H xs) (k : ∀ p H1, Ex H H1 → H1 p = some (.tup xs) → tr σ H1 fun ys H2 => Q (.ref p :: ys) H2) : tCons te tr σ H Q := h H (Ex.refl H) _ k
theorem s_asgS {i : Nat} {xs : List V} (h : EvS te σ H xs) (k : ∀ p H1, Ex H H1 → H1 p = some (.tup xs) → D.nx (σ.set i (some (.ref p))) H1) : tAsg te (gName i) D σ H := h H (Ex.refl H) _ k
theorem eu_if {b : Bool} {xs : List V} (h : EvT t σ H b) (h1 : b = true → EvU tx σ H xs) (h2 : b = false → EvU ty σ H xs) : EvU (tIf t tx ty) σ H xs := fun H1 e Q q => h H1 e _ fun H2 e2 => by
  cases b with
  | true => exact iteT (h1 rfl H2 (e.trans e2) Q fun p H3 hp e3 h3 => q p H3 (fresh_back e2 hp) (e2.trans e3) h3)
  | false => exact iteF (h2 rfl H2 (e.trans e2) Q fun p H3 hp e3 h3 => q p H3 (fresh_back e2 hp) (e2.trans e3) h3)
/-- if t and u: .., u draws -/
theorem s_ifAndD {b1 : Bool} {S : Hp → Prop} (h1 : EvT t σ H b1) (hu : ∀ H1, S H1 → ∀ k : Bool → Hp → Prop, (∀ c H2, S H2 → k c H2) → u σ H1 k) (hS : ∀ H1, Ex H H1 → S H1) (ht : ∀ H2, S H2 → tu D σ H2) (hw : ∀ H2, S H2 → tw D σ H2) : tIfS (tAnd t u) tu tw D σ H :=
  h1 H (Ex.refl H) _ fun H1 e1 => by
    have kk : ∀ c H2, S H2 → (if c = true then tu D σ H2 else tw D σ H2) := fun c H2 s => by
      cases c with
      | true => exact iteT (ht H2 s)
      | false => exact iteF (hw H2 s)
    cases b1 with
    | true => exact iteT (hu H1 (hS H1 e1) _ kk)
    | false => exact iteF (kk false H1 (hS H1 e1))
end
theorem set_cut {page : List Int} {i : Nat} {w : Int} (h : i < page.length) : cutV (page.map V.int) none (some (i : Int)) ++ [V.int w] ++ cutV (page.map V.int) (some ((i : Int) + 1)) none = (page.set i w).map V.int := by
  have e1 : ((i : Int) + 1) = ((i + 1 : Nat) : Int) := by omega
  rw [e1, cut_to, cut_from, ← List.map_take, ← List.map_drop, List.set_eq_take_append_cons_drop, if_pos h, List.map_append, List.map_cons]
  simp
def LStt (A : AdQ) (a : Addr) (pv bv : V) (st : Int) (x10 x11 x12 x13 x14 x15 x16 x17 x18 x19 : Option V) : L2.St := [some (.ref a), some (.ref A.d), some (.ref A.m), some (.ref A.ra), none, some (.ref A.mc), some pv, some (.ref A.gd), some bv, some (.int st), x10, x11, x12, x13, x14, x15, x16, x17, x18, x19, none, none]
/-- all that the law holds -/
def Whole (K : PySem.W.Frag) (A : AdQ) (H : Hp) (pv bv : V) (st : Int) : Prop := ∃ μ rows gk page g b, LawH K A H μ rows rows gk ∧ LInv μ rows page g b st ∧ GD gk g ∧ PgV H pv page ∧ BzV H bv b
theorem Whole.ex {K : PySem.W.Frag} {A : AdQ} {H H' : Hp} {pv bv : V} {st : Int} (h : Whole K A H pv bv st) (e : Ex H H') : Whole K A H' pv bv st := by
  obtain ⟨μ, rows, gk, page, g, b, h1, h2, h3, h4, h5⟩ := h
  exact ⟨μ, rows, gk, page, g, b, h1.ex e, h2, h3, h4.tk (TK.ex e), h5.tk (TK.ex e)⟩
theorem Whole.tape {K : PySem.W.Frag} {A : AdQ} {H H' : Hp} {pv bv : V} {st : Int} (h : Whole K A H pv bv st) (hT : TapeAt H' A.d A.ca) (f : FrD A.d H H') : Whole K A H' pv bv st := by
  obtain ⟨μ, rows, gk, page, g, b, h1, h2, h3, h4, h5⟩ := h
  obtain ⟨h1', tk⟩ := h1.tape hT f
  exact ⟨μ, rows, gk, page, g, b, h1', h2, h3, h4.tk tk, h5.tk tk⟩
theorem Whole.T {K : PySem.W.Frag} {A : AdQ} {H : Hp} {pv bv : V} {st : Int} (h : Whole K A H pv bv st) : TapeAt H A.d A.ca := by
  obtain ⟨μ, rows, gk, page, g, b, h1, _⟩ := h
  exact h1.T
def PrRow : Pr := fun v H => ∃ t x, v = .ref t ∧ 0 ≤ x ∧ x < 999 ∧ H t = some (.tup ((List.replicate 64 (x : Int)).map V.int))
theorem PrRow.mo : Mo PrRow := fun v H H' tk ⟨t, x, e, a, b, h⟩ => ⟨t, x, e, a, b, tk _ _ h⟩
theorem memAt_ext {K : PySem.W.Frag} {H H' : Hp} {m wl : Addr} {μ : Mem} (h : MemAt K H m wl μ) (e : LamX.ExtN H H') : MemAt K H' m wl μ := by
  obtain ⟨⟨dx, dd, h1, kvs, h2⟩, h3⟩ := h
  exact ⟨⟨dx, dd, e _ _ h1 (fun _ z => by cases z), kvs, e _ _ h2 (fun _ z => by cases z)⟩, e _ _ h3 (fun _ z => by cases z)⟩
theorem extN_disk {K : PySem.W.Frag} {H H' : Hp} {m wl dx dd rl : Addr} {rows : List (List Int)} (h : DiskAt K H m wl dx dd rl rows) (e : LamX.ExtN H H') : DiskAt K H' m wl dx dd rl rows := by
  obtain ⟨ts, r1, r2, r3⟩ := h.rs
  exact ⟨e _ _ h.ins (fun _ z => by cases z), e _ _ h.di (fun _ z => by cases z), ⟨ts, e _ _ r1 (fun _ z => by cases z), r2, fun i v hv => let ⟨t, e1, e2⟩ := r3 i v hv; ⟨t, e1, e _ _ e2 (fun _ z => by cases z)⟩⟩, h.nw⟩
section
variable {P : Program} {w : World} {K : PySem.W.Frag} {mg : Str → Option Value} {base : Heap}
def sp_law (K : PySem.W.Frag) (Pt : Addr) : Sp := fun vs H Q _ => ∃ (a : Addr) (ns : List Int), vs = [.ref a] ∧ SqL K H a (ns.map V.int) ∧ ns.length ≤ 63 ∧ H Pt = some (.tbl #[]) ∧ ∀ H', Q (.bl true) H'
theorem ok_law (T : Txt K mg) {c Pt : Addr} (hcd : (fd_law K).code = .ref c) (TBL : LamX.TabB base mg c Pt) : FnOk P w K mg base CX0 11 (f_law K) (fd_law K) ["script"] (sp_law K Pt) := by
  refine fun_okC T.fn_law sc_law (fun vs H Q E h => ?_) (fun A outer s H vs Q E hr h => ?_)
  · obtain ⟨_, _, rfl, _⟩ := h
    rfl
  have hu := hu_of hr
  obtain ⟨oc, od, dV, kV, doc, pm, an, cdvR, ct, osl, eR, lkR, hcR, _, _⟩ := T.fn_law_refused.ex
  have bdR := T.bd_law_refused
  rw [eR] at lkR bdR
  obtain ⟨TL, hTL⟩ : ∃ TL : List (Addr × Str), TL = [(Pt, (cxOf CX0 P w K mg base sc_law_N "law" (defScope s_law) (f_law K) (fd_law K).code A outer s H E).env.qual ++ "<lambda>")] := ⟨_, rfl⟩
  have hcode : (cxOf CX0 P w K mg base sc_law_N "law" (defScope s_law) (f_law K) (fd_law K).code A outer s H E).nox.env.code = .ref c := hcd
  have hmT : (Pt, (cxOf CX0 P w K mg base sc_law_N "law" (defScope s_law) (f_law K) (fd_law K).code A outer s H E).nox.env.qual ++ "<lambda>") ∈ TL := by rw [hTL]; exact List.mem_singleton.mpr rfl
  have huT : ∀ p ∈ TL, p.1 = Pt → p.2 = (cxOf CX0 P w K mg base sc_law_N "law" (defScope s_law) (f_law K) (fd_law K).code A outer s H E).nox.env.qual ++ "<lambda>" := fun p hp _ => by
    rw [hTL, List.mem_singleton] at hp
    rw [hp]
  refine ⟨_, PSs.nox (pss_cons (ps_set (i := 1) sc_law.nd rfl (by first | exact Or.inr rfl | exact Or.inl rfl) (pe_call (ok_law_tape T) (hr.mono (by decide)) (by rfl) (T.glo_law_tape) (T.kp_law_tape) (T.bd_law_tape) .nil pass0 (pa_cons (pv 0) pa_nil))) (pss_cut (ps_set (i := 2) sc_law.nd rfl (by first | exact Or.inr rfl | exact Or.inl rfl) (pe_call (ok_booted T) (hr.mono (by decide)) (by rfl) (T.glo_booted) (T.kp_booted) (T.bd_booted) .nil pass0 (pa_cons (pe_tup (pa_cons (pe_tup (pa_cons pe_int (pa_cons pe_int pa_nil))) pa_nil)) (pa_cons (pe_tup (pa_cons (pe_tup (pa_cons pe_int (pa_cons pe_int (pa_cons pe_int (pa_cons (pe_tup (pa_cons pe_int pa_nil)) (pa_cons pe_int pa_nil)))))) pa_nil)) (pa_cons (pe_ifExp (pt_cmpR op_eq (pe_call (ok_law_take T) (hr.mono (by decide)) (by rfl) (T.glo_law_take) (T.kp_law_take) (T.bd_law_take) .nil pass0 (pa_cons (pv 1) (pa_cons pe_int pa_nil))) pe_int (nomark _)) (pe_tup (pa_cons (pe_tup (pa_cons pe_int (pa_cons pe_int (pa_cons pe_int (pa_cons pe_int (pa_cons pe_int pa_nil)))))) pa_nil)) (pe_tup pa_nil)) (pa_cons (pe_tup pa_nil) pa_nil)))))) (pss_cut (ps_set (i := 3) sc_law.nd rfl (by first | exact Or.inr rfl | exact Or.inl rfl) (pe_lc (own := [("k", 4)]) (by rfl) sc_law.nd (pi_range1 (by rfl) T.free_range (pa_cons (pe_op op_add pe_int (pe_call (ok_law_take T) (hr.mono (by decide)) (by rfl) (T.glo_law_take) (T.kp_law_take) (T.bd_law_take) .nil pass0 (pa_cons (pv 1) (pa_cons pe_int pa_nil)))) pa_nil)) (blkOk_by (N := sc_law_N) (sc := defScope s_law) (own := [("k", 4)]) (by decide +kernel)) (fun _ _ _ _ _ => (pg_name (i := 4) sc_law.nd rfl (Or.inl rfl))) (fun _ _ _ _ _ => pts_nil) (fun _ _ _ _ _ => (pe_op (r := rRepT K) (by exact op_repT) (pe_tup (pa_cons (pe_call (ok_law_take T) (hr.mono (by decide)) (by rfl) (T.glo_law_take) (T.kp_law_take) (T.bd_law_take) .nil pass0 (pa_cons (pv 1) (pa_cons pe_int pa_nil))) pa_nil)) pe_int)))) (pss_cons (ps_if (pt_cmpR op_gt (pe_meth (pv 2) (T.cl_Memory) (T.mt_Memory_word) (ok_Memory_word T) (hr.mono (by decide)) (T.bd_Memory_word) .nil pass0 (pa_cons pe_int (pa_cons pe_int pa_nil))) pe_int (nomark _)) (pss_one (ps_ret (LamX.pe_lamcall (k := 6) (T := TL) (TT := TTref K (He.ga K "InvalidBoot")) (t := fun E => _) (by rfl) T.glo_law_refused T.kp_law_refused lkR hcR bdR sc_law_refused rfl (.inl rfl) (refused_gives (by rfl) T.glo_InvalidBoot (by decide) (fun _ => rfl)) TBL hcode hmT huT (hr.mono (by decide)) (LamX.lamS_by (sc := defScope s_law) (by decide +kernel)) rfl (fun _ _ _ _ _ => rfl) (fun A outer s H E f c' hr2 => (pe_call (ok_with_device T) (hr2.mono (by decide)) (by rfl) (T.glo_with_device) (T.kp_with_device) (T.bd_with_device) .nil (passes_call (takes_of rfl rfl rfl rfl) (fun _ _ _ _ z => z)) (pa_cons (pv 2) (pa_cons pe_int (pa_cons pe_int (pa_cons pe_non (pa_cons (pv 3) pa_nil)))))))))) pss_nil) (pss_cons (ps_expr (pe_call (ok_with_device T) (hr.mono (by decide)) (by rfl) (T.glo_with_device) (T.kp_with_device) (T.bd_with_device) .nil passL (pa_cons (pv 2) (pa_cons pe_int (pa_cons pe_int (pa_cons pe_int (pa_cons (pv 3) pa_nil))))))) (pss_cut (ps_asg (pe_tup (pa_cons (pe_make (T.mk_Machine) (ok_Machine_init T) (hr.mono (by decide)) (by rfl) (T.glo_Machine) (T.bd_Machine_init) .nil pass0 (pa_cons (pv 2) (pa_cons pe_int pa_nil))) (pa_cons (pe_op op_repT (pe_tup (pa_cons pe_int pa_nil)) pe_int) (pa_cons pe_dnewK (pa_cons pe_non (pa_cons pe_int pa_nil)))))) (pg_tup (by rfl) (pgs_cons (pg_name (i := 5) sc_law.nd rfl (Or.inl rfl)) (pgs_cons (pg_name (i := 6) sc_law.nd rfl (Or.inl rfl)) (pgs_cons (pg_name (i := 7) sc_law.nd rfl (Or.inl rfl)) (pgs_cons (pg_name (i := 8) sc_law.nd rfl (Or.inl rfl)) (pgs_cons (pg_name (i := 9) sc_law.nd rfl (Or.inl rfl)) pgs_nil))))))) (pss_cut (ps_for PassesOwn.never rfl (pi_range1 (by rfl) T.free_range (pa_cons (pe_call (ok_law_take T) (hr.mono (by decide)) (by rfl) (T.glo_law_take) (T.kp_law_take) (T.bd_law_take) .nil pass0 (pa_cons (pv 1) (pa_cons pe_int pa_nil))) pa_nil)) (pg_name (i := 10) sc_law.nd rfl (Or.inl rfl)) (pss_cons (ps_set (i := 11) sc_law.nd rfl (Or.inl rfl) (pe_call (ok_law_take T) (hr.mono (by decide)) (by rfl) (T.glo_law_take) (T.kp_law_take) (T.bd_law_take) .nil pass0 (pa_cons (pv 1) (pa_cons pe_int pa_nil)))) (pss_cut (ps_if (pt_cmpR op_eq (pv 11) pe_int (nomark _)) (pss_cons (ps_par (i := 12) (j := 13) (by rfl) sc_law.nd rfl rfl (by decide) rfl rfl (pa_cons (pe_call (ok_law_take T) (hr.mono (by decide)) (by rfl) (T.glo_law_take) (T.kp_law_take) (T.bd_law_take) .nil pass0 (pa_cons (pv 1) (pa_cons pe_int pa_nil))) (pa_cons (pe_call (ok_law_take T) (hr.mono (by decide)) (by rfl) (T.glo_law_take) (T.kp_law_take) (T.bd_law_take) .nil pass0 (pa_cons (pv 1) (pa_cons pe_int pa_nil))) pa_nil)) (by rfl)) (pss_cons (ps_set (i := 14) sc_law.nd rfl (Or.inl rfl) (pe_ifExp (pt_cmpR op_gt (pv 12) pe_int (nomark _)) pe_int (pe_ifExp (pt_cmp (pc_din hu (pv 12) (pv 7))) pe_int pe_int))) (pss_cons (ps_if (pt_cmpR op_ne (pe_call (ok_law_trapped T) (hr.mono (by decide)) (by rfl) (T.glo_law_trapped) (T.kp_law_trapped) (T.bd_law_trapped) .nil pass0 (pa_cons (pv 2) (pa_cons pe_int (pa_cons (pe_tup (pa_cons pe_int (pa_cons pe_int (pa_cons (pv 12) (pa_cons (pv 13) pa_nil))))) pa_nil)))) (pv 14) (nomark _)) (pss_one (ps_ret pe_bl)) pss_nil) (pss_one (ps_if (pt_cmpR op_eq (pv 14) pe_int (nomark _)) (pss_one (ps_dput hu (pv 7) (pv 12) (pv 13) rfl)) pss_nil))))) (pss_one (ps_if (pt_cmpR op_eq (pv 11) pe_int (nomark _)) (pss_cons (ps_set (i := 12) sc_law.nd rfl (Or.inl rfl) (pe_call (ok_law_take T) (hr.mono (by decide)) (by rfl) (T.glo_law_take) (T.kp_law_take) (T.bd_law_take) .nil pass0 (pa_cons (pv 1) (pa_cons pe_int pa_nil)))) (pss_cons (ps_if (pt_cmpR op_ne (pe_call (ok_law_trapped T) (hr.mono (by decide)) (by rfl) (T.glo_law_trapped) (T.kp_law_trapped) (T.bd_law_trapped) .nil pass0 (pa_cons (pv 2) (pa_cons pe_int (pa_cons (pe_tup (pa_cons pe_int (pa_cons (pv 12) (pa_cons pe_int (pa_cons pe_int pa_nil))))) pa_nil)))) (pe_ifExp (pt_cmpR op_gt (pv 12) pe_int (nomark _)) pe_int pe_int) (nomark _)) (pss_one (ps_ret pe_bl)) pss_nil) (pss_one (ps_expr (pe_dpop2 (pv 7) (pv 12) pe_non ⟨rfl, rfl, rfl, rfl⟩))))) (pss_one (ps_if (pt_cmpR op_lt (pv 11) pe_int (nomark _)) (pss_cons (ps_set (i := 15) sc_law.nd rfl (Or.inl rfl) (pe_tup (pa_cons (pe_op op_add pe_int (pe_call (ok_law_take T) (hr.mono (by decide)) (by rfl) (T.glo_law_take) (T.kp_law_take) (T.bd_law_take) .nil pass0 (pa_cons (pv 1) (pa_cons pe_int pa_nil)))) (pa_cons (pe_call (ok_law_take T) (hr.mono (by decide)) (by rfl) (T.glo_law_take) (T.kp_law_take) (T.bd_law_take) .nil pass0 (pa_cons (pv 1) (pa_cons pe_int pa_nil))) (pa_cons (pe_call (ok_law_take T) (hr.mono (by decide)) (by rfl) (T.glo_law_take) (T.kp_law_take) (T.bd_law_take) .nil pass0 (pa_cons (pv 1) (pa_cons pe_int pa_nil))) pa_nil))))) (pss_cons (ps_set (i := 14) sc_law.nd rfl (Or.inl rfl) (pe_ifExp (pt_cmpR op_notN (pv 8) pe_non (nomark _)) pe_int (pe_ifExp (PW.pt (pw_or (pt_cmpR op_gt (pe_ix ix_tup (pv 15) pe_int (fun _ _ => rfl)) pe_int (nomark _)) (pw_or (pt_cmpR op_ge (pe_ix ix_tup (pv 15) pe_int (fun _ _ => rfl)) (pe_callB call_len (by rfl) T.free_len PySem.boot_len (pa_cons (pv 3) pa_nil)) (nomark _)) (pw_or1 (pt_cmpR op_gt (pe_ix ix_tup (pv 15) pe_int (fun _ _ => rfl)) pe_int (nomark _)))))) pe_int pe_int))) (pss_cons (ps_if (pt_cmpR op_ne (pe_call (ok_law_trapped T) (hr.mono (by decide)) (by rfl) (T.glo_law_trapped) (T.kp_law_trapped) (T.bd_law_trapped) .nil pass0 (pa_cons (pv 2) (pa_cons pe_int (pa_cons (pe_op op_catA (pe_tup (pa_cons pe_int pa_nil)) (pv 15)) pa_nil)))) (pv 14) (nomark _)) (pss_one (ps_ret pe_bl)) pss_nil) (pss_one (ps_if (pt_cmpR op_eq (pv 14) pe_int (nomark _)) (pss_one (ps_par (i := 8) (j := 9) (by rfl) sc_law.nd rfl rfl (by decide) rfl rfl (pa_cons (pe_op op_catA (pv 15) (pe_tup (pa_cons pe_int pa_nil))) (pa_cons pe_int pa_nil)) (by rfl))) pss_nil))))) (pss_one (ps_if (pt_cmpR op_eq (pv 11) pe_int (nomark _)) (pss_cons (ps_set (i := 16) sc_law.nd rfl (Or.inl rfl) (pe_call (ok_law_take T) (hr.mono (by decide)) (by rfl) (T.glo_law_take) (T.kp_law_take) (T.bd_law_take) .nil pass0 (pa_cons (pv 1) (pa_cons pe_int pa_nil)))) (pss_cons (ps_expr (pe_meth (pv 2) (T.cl_Memory) (T.mt_Memory_put) (ok_Memory_put T) (hr.mono (by decide)) (T.bd_Memory_put) .nil pass0 (pa_cons pe_int (pa_cons (pv 10) (pa_cons (pv 16) pa_nil))))) (pss_one (ps_set (i := 6) sc_law.nd rfl (Or.inl rfl) (pe_op op_catA (pe_op op_catA (pe_slice sl_tupA (pv 6) po_none (po_some (pv 10))) (pe_tup (pa_cons (pv 16) pa_nil))) (pe_slice sl_tupA (pv 6) (po_some (pe_op op_add (pv 10) pe_int)) po_none)))))) (pss_one (ps_if (pt_cmpR op_eq (pv 11) pe_int (nomark _)) (pss_one (ps_if (PW.pt (pw_or (pt_cmpR op_ne (pe_call (ok_law_trapped T) (hr.mono (by decide)) (by rfl) (T.glo_law_trapped) (T.kp_law_trapped) (T.bd_law_trapped) .nil pass0 (pa_cons (pv 2) (pa_cons pe_int (pa_cons (pe_tup (pa_cons pe_int (pa_cons pe_int (pa_cons pe_int (pa_cons pe_int pa_nil))))) pa_nil)))) pe_int (nomark _)) (pw_or1 (pt_cmpR op_ne (pe_call (ok_get_register T) (hr.mono (by decide)) (by rfl) (T.glo_get_register) (T.kp_get_register) (T.bd_get_register) .nil pass0 (pa_cons (pv 2) (pa_cons pe_int (pa_cons pe_int pa_nil)))) (pv 9) (nomark _))))) (pss_one (ps_ret pe_bl)) pss_nil)) (pss_one (ps_if (PW.pt (pw_and (pt_cmpR op_eq (pv 11) pe_int (nomark _)) (pw_and1 (pt_cmpR op_eq (pe_call (ok_law_take T) (hr.mono (by decide)) (by rfl) (T.glo_law_take) (T.kp_law_take) (T.bd_law_take) .nil pass0 (pa_cons (pv 1) (pa_cons pe_int pa_nil))) pe_int (nomark _))))) (pss_cons (ps_set (i := 17) sc_law.nd rfl (Or.inl rfl) (pe_call (ok_law_take T) (hr.mono (by decide)) (by rfl) (T.glo_law_take) (T.kp_law_take) (T.bd_law_take) .nil pass0 (pa_cons (pv 1) (pa_cons pe_int pa_nil)))) (pss_cons (ps_expr (pe_call (ok_power_goes T) (hr.mono (by decide)) (by rfl) (T.glo_power_goes) (T.kp_power_goes) (T.bd_power_goes) .nil pass0 (pa_cons (pv 2) (pa_cons (pv 17) pa_nil)))) (pss_one (ps_if (PW.pt (pw_and (pt_cmpR op_notN (pv 8) pe_non (nomark _)) (pw_and (pt_cmpR op_eq (pe_ix ix_tup (pv 8) pe_int (fun _ _ => rfl)) pe_int (nomark _)) (pw_and1 (pt_cmpR op_in_seq (pe_dget2 hu (pv 7) (pe_ix ix_tup (pv 8) pe_int (fun _ _ => rfl)) pe_int ⟨rfl, rfl, rfl, rfl⟩) (pe_tup (pa_cons pe_int (pa_cons pe_int pa_nil))) (by rfl)))))) (pss_one (ps_asg (pe_op op_catA (pe_slice sl_tupA (pv 6) po_none (po_some (pv 17))) (pe_slice sl_tupA (pe_ix ix_list (pv 3) (pe_ix ix_tup (pv 8) pe_int (fun _ _ => rfl)) (fun _ _ => rfl)) (po_some (pv 17)) po_none)) (pg_sub (pv 3) (pe_ix ix_tup (pv 8) pe_int (fun _ _ => rfl)) set_list))) pss_nil)))) (pss_cons (ps_expr (pe_meth0 (pv 5) (T.cl_Machine) (T.mt_Machine_tick) (ok_Machine_tick T) (hr.mono (by decide)) (T.bd_Machine_tick) .nil pass0)) (pss_one (ps_if (pt_cmpR op_notN (pv 8) pe_non (nomark _)) (pss_cons (ps_set (i := 8) sc_law.nd rfl (Or.inl rfl) (pe_op op_catA (pe_slice sl_tupA (pv 8) po_none (po_some pe_int)) (pe_tup (pa_cons (pe_op op_sub (pe_ix ix_tup (pv 8) pe_int (fun _ _ => rfl)) pe_int) pa_nil)))) (pss_one (ps_if (pt_cmpR op_eq (pe_ix ix_tup (pv 8) pe_int (fun _ _ => rfl)) pe_int (nomark _)) (pss_cons (ps_set (i := 18) sc_law.nd rfl (Or.inl rfl) (pe_cmpR op_in_seq (pe_dget2 hu (pv 7) (pe_ix ix_tup (pv 8) pe_int (fun _ _ => rfl)) pe_int ⟨rfl, rfl, rfl, rfl⟩) (pe_ifExp (pt_cmpR op_eq (pe_ix ix_tup (pv 8) pe_int (fun _ _ => rfl)) pe_int (nomark _)) (pe_tup (pa_cons pe_int (pa_cons pe_int pa_nil))) (pe_tup (pa_cons pe_int (pa_cons pe_int pa_nil)))) (by rfl))) (pss_cons (ps_set (i := 9) sc_law.nd rfl (Or.inl rfl) (pe_ifExp (pt_val (pv 18)) pe_int pe_int)) (pss_cons (ps_if (PW.pt (pw_and (pt_val (pv 18)) (pw_and1 (pt_cmpR op_eq (pe_ix ix_tup (pv 8) pe_int (fun _ _ => rfl)) pe_int (nomark _))))) (pss_one (ps_set (i := 6) sc_law.nd rfl (Or.inl rfl) (pe_ix ix_list (pv 3) (pe_ix ix_tup (pv 8) pe_int (fun _ _ => rfl)) (fun _ _ => rfl)))) (pss_one (ps_if (pt_val (pv 18)) (pss_one (ps_asg (pv 6) (pg_sub (pv 3) (pe_ix ix_tup (pv 8) pe_int (fun _ _ => rfl)) set_list))) pss_nil))) (pss_one (ps_set (i := 8) sc_law.nd rfl (Or.inl rfl) pe_non))))) pss_nil))) pss_nil)))))))))))))) (pss_cons (ps_set (i := 19) sc_law.nd rfl (Or.inl rfl) (pe_call (ok_abstracted T) (hr.mono (by decide)) (by rfl) (T.glo_abstracted) (T.kp_abstracted) (T.bd_abstracted) .nil pass0 (pa_cons (pv 2) pa_nil))) (pss_one (ps_if (PW.pt (pw_or (pt_cmpR (op_neDD (hu100 hr)) (pe_dget hu (pv 19) pe_str (fun _ _ => rfl)) (pe_disp (pps_cons pe_int (pe_callTy call_tuple_of (by rfl) T.free_tuple (by decide +kernel) (pa_cons (pv 3) pa_nil)) pps_nil) (by rfl) (by rfl) (fun z => by cases z) (by decide)) (nomark _)) (pw_or (pt_cmpR (op_neD hr.units) (pe_dget hu (pe_dget hu (pv 19) pe_str (fun _ _ => rfl)) pe_int (fun _ _ => rfl)) (pv 6) (nomark _)) (pw_or (pt_cmpR op_ne (pe_dget hu (pe_dget hu (pe_dget hu (pv 19) pe_str (fun _ _ => rfl)) pe_int (fun _ _ => rfl)) pe_str (fun _ _ => rfl)) (pv 9) (nomark _)) (pw_or1 (pt_cmpR op_ne (pe_callB call_lenD (by rfl) T.free_len PySem.boot_len (pa_cons (pe_dget hu (pe_dget hu (pe_dget hu (pv 19) pe_str (fun _ _ => rfl)) pe_int (fun _ _ => rfl)) pe_str (fun _ _ => rfl)) pa_nil)) (pe_callB call_lenD (by rfl) T.free_len PySem.boot_len (pa_cons (pv 7) pa_nil)) (nomark _))))))) (pss_one (ps_ret pe_bl)) pss_nil)))))) (pss_cons (ps_for PassesOwn.never rfl (pi_tup (pe_tup (pa_cons (pe_tup (pa_cons pe_int (pa_cons pe_int pa_nil))) (pa_cons (pe_tup (pa_cons pe_int (pa_cons pe_int pa_nil))) (pa_cons (pe_tup (pa_cons pe_int (pa_cons pe_int pa_nil))) pa_nil))))) (pg_tup (by rfl) (pgs_cons (pg_name (i := 20) sc_law.nd rfl (by first | exact Or.inr rfl | exact Or.inl rfl)) (pgs_cons (pg_name (i := 21) sc_law.nd rfl (by first | exact Or.inr rfl | exact Or.inl rfl)) pgs_nil))) (pss_one (ps_if (pt_not (pt_val (LamX.pe_lamcall (k := 6) (T := TL) (TT := TTref K (He.ga K "InvalidBoot")) (t := fun E => _) (by rfl) T.glo_law_refused T.kp_law_refused lkR hcR bdR sc_law_refused rfl (.inl rfl) (refused_gives (by rfl) T.glo_InvalidBoot (by decide) (fun _ => rfl)) TBL hcode hmT huT (hr.mono (by decide)) (LamX.lamS_by (sc := defScope s_law) (by decide +kernel)) rfl (fun _ _ _ _ _ => rfl) (fun A outer s H E f c' hr2 => (pe_call (ok_with_device T) (hr2.mono (by decide)) (by rfl) (T.glo_with_device) (T.kp_with_device) (T.bd_with_device) .nil (passes_call (takes_of rfl rfl rfl rfl) (fun _ _ _ _ z => z)) (pa_cons (pv 2) (pa_cons (pv 20) (pa_cons (pv 21) (pa_cons pe_non (pa_cons (pv 3) pa_nil)))))))))) (pss_one (ps_ret pe_bl)) pss_nil))) (pss_one (ps_ret (pe_cmpR op_eq (pe_call (ok_law_trapped T) (hr.mono (by decide)) (by rfl) (T.glo_law_trapped) (T.kp_law_trapped) (T.bd_law_trapped) .nil pass0 (pa_cons (pv 2) (pa_cons pe_int (pa_cons (pe_tup (pa_cons pe_int (pa_cons pe_int (pa_cons pe_int (pa_cons pe_int pa_nil))))) pa_nil)))) pe_int (nomark _)))))))))))), ?_⟩
  obtain ⟨a, ns, rfl, hS, hl, hPt, k⟩ := h
  have hTabs : ∀ {H' : Hp}, H' Pt = some (.tbl #[]) → LamX.Tabs TL H' := fun {H'} hp p hm => by
    rw [hTL, List.mem_singleton] at hm
    rw [hm]
    exact LamX.TabS.nil hp
  clear hcode hmT huT hTL
  -- the tape
  refine q_asgQ ⟨_, rfl, a, ns, rfl, hS, hl, fun d ca H1 hd hca hT e1 => ?_⟩
  have hP1 := e1 _ _ hPt
  have nd1 : ∀ {b : Addr} {o : HO}, H1 b = some o → (∀ kv, o ≠ .dK kv) → b ≠ d := fun {b o} hb n => by
    obtain ⟨kv, hdk⟩ := hT.dk
    exact ne_of hb hdk (n _)
  clear hS hl e1 hd hca hPt
  -- the memory
  refine q_cut (M := fun σ' H' => ∃ (ln : Bool) (m wl dx dd : Addr), σ' = [some (.ref a), some (.ref d), some (.ref m), none, none, none, none, none, none, none, none, none, none, none, none, none, none, none, none, none, none, none] ∧ TapeAt H' d ca ∧ H' Pt = some (.tbl #[]) ∧ MemAt K H' m wl (mbootL PLN PTS ln) ∧ H' m = some (.ins (CM K) dx [("_words", .ref wl), ("_disks", .ref dd)]) ∧ H' dd = some (.dK []) ∧ ca ≠ wl ∧ d ≠ dd) ?_ ?_
  · refine (q_call (q_consP (ep_tup1 (ep_U (eu_tup (vs := [.int 0, .int 9]) (ea_cons ev_c (ea_cons ev_c ea_nil)) (by show 2 ≤ 100000; decide))) (fun v H H' tk ⟨t, e, h⟩ => ⟨t, e, tk _ _ h⟩)) fun v1 H2 e2 ⟨pa, x1, hv1, hpa, t1, hx1, ht1⟩ => ?_))
    subst hv1 hx1
    have hPl : PlanAt H2 pa PLN := ⟨_, hpa, rfl, fun i v hv => by
      match i, hv with
      | 0, hv => cases hv; exact ⟨t1, rfl, ht1⟩⟩
    refine q_consP (P := fun v H => ∃ qa, v = .ref qa ∧ PartsAt H qa PTS) (fun G1 g1 Q q => ?_) fun v2 H3 e3 ⟨qa, hv2, hPs⟩ => ?_
    · refine (ep_tup1 (P := fun v H => ∃ t c, v = .ref t ∧ H t = some (.tup [.int 0, .int 1, .int 2, .ref c, .int 0]) ∧ H c = some (.tup [.int 24576])) (fun G2 g2 Q2 q2 => ?_) (fun v H H' tk ⟨t, c, e, h, h'⟩ => ⟨t, c, e, tk _ _ h, tk _ _ h'⟩)) G1 g1 _ fun v G2 g2 ⟨qa, x, hv, hqa, t, c, hx, ht, hc⟩ => q _ G2 g2 ⟨qa, hv, [x], hqa, rfl, fun i v hv => by
        match i, hv with
        | 0, hv => cases hv; exact ⟨t, c, hx, ht, hc⟩⟩
      refine q_tup (q_consC (q_consC (q_consC (q_consU (eu_tup (vs := [.int 24576]) (ea_cons ev_c ea_nil) (by show 1 ≤ 100000; decide)) fun c G3 hc g3 h3 => ?_))))
      exact ⟨sz_of (by show 5 ≤ 100000; decide), fun t ht => q2 _ _ (g3.trans (Ex.new ht)) ⟨t, c, rfl, upd_same, Ex.new ht _ _ h3⟩⟩
    subst hv2
    have e13 := e2.trans e3
    have hPl3 := hPl.mono (TK.ex e3)
    have hT3 := hT.keep e13
    have hP3 := e13 _ _ hP1
    -- the link
    refine (dr_take (fun H => ea_cons (ev_var rfl) (ea_cons ev_c ea_nil)) (by decide) : Dr _ _ d ca _) H3 _ hT3 fun lx H4 hlx hT4 f4 => ?_
    have tk4 : TK H3 H4 := TK.frd f4 hT3
    have hP4 : H4 Pt = some (.tbl #[]) := f4 _ _ hP3 (by obtain ⟨kv, hdk⟩ := hT3.dk; exact ne_of hP3 hdk (by intro z; cases z))
    have hPl4 := hPl3.mono tk4
    have hPs4 := hPs.mono tk4
    have fin : ∀ (ln : Bool) (la ra : Addr) (H5 : Hp), Ex H4 H5 → LinkAt H5 la ln → H5 ra = some (.tup []) → sp_booted K ([.ref pa, .ref qa, .ref la, .ref ra] ++ []) H5 (fun v H' => ∃ (ln : Bool) (m wl dx dd : Addr), (L2.start sc_law_N [V.ref a]).set 1 (some (.ref d)) |>.set 2 (some v) |> fun σ' => σ' = [some (.ref a), some (.ref d), some (.ref m), none, none, none, none, none, none, none, none, none, none, none, none, none, none, none, none, none, none, none] ∧ TapeAt H' d ca ∧ H' Pt = some (.tbl #[]) ∧ MemAt K H' m wl (mbootL PLN PTS ln) ∧ H' m = some (.ins (CM K) dx [("_words", .ref wl), ("_disks", .ref dd)]) ∧ H' dd = some (.dK []) ∧ ca ≠ wl ∧ d ≠ dd) E0 := by
      intro ln la ra H5 e5 hL hR
      refine ⟨pa, qa, la, ra, PLN, PTS, ln, rfl, hPl4.mono (TK.ex e5), hPs4.mono (TK.ex e5), hL, hR, good_pln, rfl, fun _ => ⟨m00_at.2.2.2, m00_at.2.2.1⟩, good_pts, fun m wl dx dd H6 hm hwl e6 hM hi hdd => ?_⟩
      have e46 := e5.trans e6
      have hT6 := hT4.keep e46
      obtain ⟨xs, hca⟩ := hT4.cl
      refine ⟨ln, m, wl, dx, dd, rfl, hT6, e46 _ _ hP4, hM, hi, hdd, fun z => ?_, fun z => ?_⟩
      · rw [← z, e5 _ _ hca] at hwl
        cases hwl
      · obtain ⟨cs, at_, l, s, t, z1, _⟩ := hT6.ex
        rw [z, hdd] at z1
        cases z1
    refine ⟨rfl, _, rfl, ?_⟩
    cases hq : decide (V.int lx = V.int 0) with
    | true =>
      refine iteT (q_tup (q_consU (eu_tup (vs := [.int 7, .int 0, .int 1, .int 0, .int 2]) (ea_cons ev_c (ea_cons ev_c (ea_cons ev_c (ea_cons ev_c (ea_cons ev_c ea_nil))))) (by show 5 ≤ 100000; decide)) fun t H5 ht e5 h5 => ⟨sz_of (by show 1 ≤ 100000; decide), fun la hla => ?_⟩))
      have e6 : Ex H5 (upd H5 la (.tup [.ref t])) := Ex.new hla
      refine ⟨sz_of (by show 0 ≤ 100000; decide), fun ra hra => ?_⟩
      have e7 : Ex (upd H5 la (.tup [.ref t])) (upd (upd H5 la (.tup [.ref t])) ra (.tup [])) := Ex.new hra
      exact fin true la ra _ ((e5.trans e6).trans e7) ⟨[.ref t], e7 _ _ upd_same, rfl, fun v hv => by rw [List.mem_singleton] at hv; exact ⟨t, hv, (e6.trans e7) _ _ h5⟩⟩ upd_same
    | false =>
      refine iteF ⟨sz_of (by show 0 ≤ 100000; decide), fun la hla => ?_⟩
      have e6 : Ex H4 (upd H4 la (.tup [])) := Ex.new hla
      refine ⟨sz_of (by show 0 ≤ 100000; decide), fun ra hra => ?_⟩
      have e7 : Ex (upd H4 la (.tup [])) (upd (upd H4 la (.tup [])) ra (.tup [])) := Ex.new hra
      exact fin false la ra _ (e6.trans e7) ⟨[], e7 _ _ upd_same, rfl, fun v hv => by cases hv⟩ upd_same
  rintro σ' H2 ⟨ln, m, wl, dx, dd, rfl, hT2, hP2, hM2, hi2, hdd2, ncw, ndd⟩
  clear hT hP1 nd1
  -- the sectors
  refine q_cut (M := fun σ' H' => ∃ (ra : Addr) (rows : List (List Int)), σ' = [some (.ref a), some (.ref d), some (.ref m), some (.ref ra), none, none, none, none, none, none, none, none, none, none, none, none, none, none, none, none, none, none] ∧ TapeAt H' d ca ∧ H' Pt = some (.tbl #[]) ∧ MemAt K H' m wl (mbootL PLN PTS ln) ∧ H' m = some (.ins (CM K) dx [("_words", .ref wl), ("_disks", .ref dd)]) ∧ H' dd = some (.dK []) ∧ RowsL H' ra rows ∧ RowsOk rows ∧ (∀ r ∈ rows, ∀ x ∈ r, 0 ≤ x ∧ x < 65536) ∧ rows.length ≤ 4 ∧ ra ≠ wl ∧ ca ≠ ra) ?_ ?_
  · refine dl_lcRD (P := fun _ => PrRow) (Pn := fun n => 1 ≤ n ∧ n ≤ 4) (fun _ => PrRow.mo) (Dr.imp (dr_add (P := fun v => v = 1) (fun H Q hT q => q 1 H rfl hT (FrD.of (Ex.refl H))) (dr_take (fun H => ea_cons (ev_var rfl) (ea_cons ev_c ea_nil)) (by decide))) fun v ⟨x, y, hx, hy, hv⟩ => by omega) (fun x => rfl) (fun i H' Q f hT q => ?_) _ hT2 fun ra H3 n xs hra hn hxl hx hT3 f3 h3 => ?_
    · refine dr_take (fun H => ea_cons (ev_var rfl) (ea_cons ev_c ea_nil)) (by decide) H' _ hT fun x H4 hx hT4 f4 => ?_
      refine ⟨sz_of (by show 1 ≤ 100000; decide), fun t ht => ⟨t, 64, [.int x], rfl, rfl, st_of upd_same, by simp, by decide, by decide, by show 1 ≤ 1000; decide, fun p hp => ?_⟩⟩
      have e1 : Ex H4 (upd H4 t (.tup [.int x])) := Ex.new ht
      have e2 : Ex (upd H4 t (.tup [.int x])) (upd (upd H4 t (.tup [.int x])) p (.tup (List.replicate (Int.toNat 64) [V.int x]).flatten)) := Ex.new hp
      refine q _ _ ⟨p, x, rfl, hx.1, hx.2, ?_⟩ (hT4.keep (e1.trans e2)) (f4.trans (FrD.of (e1.trans e2)))
      rw [upd_same, rep1, List.map_replicate]
      rfl
    · obtain ⟨rows, hrl, hrow⟩ : ∃ rows : List (List Int), rows.length = xs.length ∧ ∀ i, i < xs.length → ∃ t x, xs[i]? = some (.ref t) ∧ 0 ≤ x ∧ x < 999 ∧ H3 t = some (.tup ((rows.getD i []).map V.int)) ∧ rows.getD i [] = List.replicate 64 x :=
        exists_list (R := fun i r => ∃ t x, xs[i]? = some (.ref t) ∧ 0 ≤ x ∧ x < 999 ∧ H3 t = some (.tup (r.map V.int)) ∧ r = List.replicate 64 x) [] xs.length fun i hi => by
          obtain ⟨t, x, e, x0, x1, ht⟩ := hx i xs[i] (List.getElem?_eq_getElem hi)
          exact ⟨List.replicate 64 x, t, x, by rw [List.getElem?_eq_getElem hi, e], x0, x1, ht, rfl⟩
      have nd : ∀ {b : Addr} {o : HO}, H2 b = some o → (∀ kv, o ≠ .dK kv) → b ≠ d := fun {b o} hb n => by
        obtain ⟨kv, hdk⟩ := hT2.dk
        exact ne_of hb hdk (n _)
      have hwl := hM2.ws
      have hi3 := f3 _ _ hi2 (nd hi2 (fun _ z => by cases z))
      have hdd3 := f3 _ _ hdd2 (Ne.symm ndd)
      have hw3 := f3 _ _ hwl (nd hwl (fun _ z => by cases z))
      have hall : ∀ r ∈ rows, ∃ x, 0 ≤ x ∧ x < 999 ∧ r = List.replicate 64 x := fun r hr => by
        obtain ⟨i, hi⟩ := List.mem_iff_getElem?.mp hr
        have hil : i < rows.length := (List.getElem?_eq_some_iff.mp hi).1
        obtain ⟨t, x, _, x0, x1, _, hx⟩ := hrow i (by omega)
        rw [List.getD_eq_getElem?_getD, hi] at hx
        exact ⟨x, x0, x1, hx⟩
      obtain ⟨ys, hca⟩ := hT2.cl
      refine ⟨ra, rows, rfl, hT3, f3 _ _ hP2 (nd hP2 (fun _ z => by cases z)), ⟨⟨dx, dd, hi3, _, hdd3⟩, hw3⟩, hi3, hdd3, ⟨xs, h3, hrl.symm, fun i v hv => ?_⟩, ⟨fun z => ?_, fun r hr => ?_⟩, fun r hr y hy => ?_, by omega, fun z => ?_, fun z => ?_⟩
      · obtain ⟨t, x, e, _, _, ht, _⟩ := hrow i (List.getElem?_eq_some_iff.mp hv).1
        rw [hv] at e
        exact ⟨t, Option.some.inj e, ht⟩
      · rw [z] at hrl
        have : xs.length = 0 := hrl.symm
        omega
      · obtain ⟨x, _, _, rfl⟩ := hall r hr
        exact List.length_replicate ..
      · obtain ⟨x, x0, x1, rfl⟩ := hall r hr
        rw [(List.mem_replicate.mp hy).2]
        omega
      · rw [z, hwl] at hra; cases hra
      · rw [← z, hca] at hra; cases hra
  rintro σ' H3 ⟨ra, rows, rfl, hT3, hP3, hM3, hi3, hdd3, hR3, oR, bR, lR, nrw, ncr⟩
  clear hT2 hP2 hM2 hi2 hdd2
  -- a link: no device
  refine q_when (b := ln) (et_is (et_test (ev_op (ev_word hM3 (ev_var rfl) ev_c ev_c (by decide)) ev_c rv_I0)) ?_) (fun hb H4 e4 => ?_) (fun hb H4 e4 => ?_)
  · cases ln with
    | true => show decide (0 < mlk M00 7 2 (ix 2 40)) = true; rw [m0L_at]; rfl
    | false => show decide (0 < M00 (ix 2 40)) = false; rw [m00_at.2.2.1]; rfl
  · subst hb
    refine ⟨hTabs (e4 _ _ hP3), fun H5 e5 _ => ?_⟩
    have hM5 := memAt_ext (hM3.keep e4) e5
    refine ⟨_, rfl, _, rfl, m, wl, ra, _, 0, 31, none, rfl, hM5, m0L_noUn, by decide, by decide, ⟨by decide, by decide⟩, .inl ⟨.inr (.inr ?_), fun H6 e6 => ⟨true, T.exm_InvalidBoot, fun _ => k H6, fun z => by cases z⟩⟩⟩
    show mlk M00 7 2 (ix (2 + 5 * 0) 40) ≠ 0
    rw [show (2 : Int) + 5 * 0 = 2 by decide, m0L_at]
    decide
  subst hb
  have hM4 : MemAt K H4 m wl M00 := hM3.keep e4
  refine ⟨_, rfl, _, rfl, m, wl, ra, M00, 0, 31, some 2, rfl, hM4, m00_noUn, by decide, by decide, ⟨by decide, by decide⟩, .inr ⟨rfl, rfl, rfl, m00_at.1, m00_at.2.1, m00_at.2.2.1, dx, dd, rows, e4 _ _ hi3, e4 _ _ hdd3, hR3.keep e4, nrw, by omega, fun rl H5 hrl hM5 hD5 f5 => ?_⟩⟩
  have hw4 := hM4.ws
  have hi4 := e4 _ _ hi3
  have hdd4 := e4 _ _ hdd3
  have hR4 := hR3.keep e4
  have hT4 := hT3.keep e4
  have hP4 := e4 _ _ hP3
  obtain ⟨kvd, hd4⟩ := hT4.dk
  obtain ⟨cas, hca4⟩ := hT4.cl
  have nm : ∀ {b : Addr}, b ≠ wl → b ≠ dd → b ∉ [wl, dd] := fun h1 h2 => by simp [h1, h2]
  have tu4 : ∀ t xs, H4 t = some (.tup xs) → t ∉ [wl, dd] := fun t xs ht => nm (ne_of ht hw4 (by intro z; cases z)) (ne_of ht hdd4 (by intro z; cases z))
  obtain ⟨tsr, hra4, _, _⟩ := id hR4
  have hT5 : TapeAt H5 d ca := TapeAt.fs hT4 f5 (nm (ne_of hd4 hw4 (by intro z; cases z)) ndd) (nm ncw (ne_of hca4 hdd4 (by intro z; cases z)))
  have hR5 : RowsL H5 ra rows := RowsL.fs hR4 f5 (nm nrw (ne_of hra4 hdd4 (by intro z; cases z))) tu4
  have hP5 : H5 Pt = some (.tbl #[]) := f5 _ _ hP4 (nm (ne_of hP4 hw4 (by intro z; cases z)) (ne_of hP4 hdd4 (by intro z; cases z)))
  have nrr : ra ≠ rl := ne_of_none hra4 hrl
  have ncrl : ca ≠ rl := ne_of_none hca4 hrl
  clear hT3 hP3 hM3 hi3 hdd3 hR3 hM4 hw4 hi4 hdd4 hR4 hT4 hP4 hd4 hca4 tu4 hra4 e4 f5 hrl nm
  -- the machine
  refine q_cut (M := fun σ' H' => ∃ (mc pa gd cl : Addr), σ' = [some (.ref a), some (.ref d), some (.ref m), some (.ref ra), none, some (.ref mc), some (.ref pa), some (.ref gd), some .non, some (.int 0), none, none, none, none, none, none, none, none, none, none, none, none] ∧ LawH K ⟨d, ca, m, wl, dx, dd, rl, ra, mc, cl, gd, Pt⟩ H' M0 rows rows [] ∧ H' pa = some (.tup ((List.replicate 64 (0 : Int)).map V.int))) ?_ ?_
  · refine ⟨_, rfl, fun mc dxm g1 g2 g3 => ⟨mc, m, dxm, rfl, upd_same, fun kl cl H12 hkl hcl hkc y1 y2 y3 f => ⟨rfl, ?_⟩⟩⟩
    have e4 : Ex H5 (upd (upd H5 dxm (.own mc)) mc (.ins (CMa K) dxm [])) := fun b o hb => by rw [upd_ne (ne_of_none hb g1), upd_ne (ne_of_none hb g2)]; exact hb
    have e5 : Ex H5 H12 := fun b o hb => f b o (e4 b o hb) (by simpa using ne_of_none hb g1)
    refine ⟨sz_of (by show 1 ≤ 100000; decide), fun t ht => ⟨t, 64, [.int 0], rfl, rfl, st_of upd_same, by simp, by decide, by decide, by show 1 ≤ 1000; decide, fun p hp => ?_⟩⟩
    have e6 : Ex H12 (upd H12 t (.tup [.int 0])) := Ex.new ht
    have e7 : Ex (upd H12 t (.tup [.int 0])) (upd (upd H12 t (.tup [.int 0])) p (.tup (List.replicate (Int.toNat 64) [V.int 0]).flatten)) := Ex.new hp
    have hp7 : (upd (upd H12 t (.tup [.int 0])) p (.tup (List.replicate (Int.toNat 64) [V.int 0]).flatten)) p = some (.tup ((List.replicate 64 (0 : Int)).map V.int)) := by
      rw [upd_same, rep1, List.map_replicate]
      rfl
    have e67 := e6.trans e7
    clear ht hp e6 e7
    generalize upd (upd H12 t (.tup [.int 0])) p (.tup (List.replicate (Int.toNat 64) [V.int 0]).flatten) = H7 at hp7 e67 ⊢
    refine fun gd hgd => ?_
    have e8 : Ex H7 (upd H7 gd (.dK [])) := Ex.new hgd
    have hg8 : (upd H7 gd (.dK [])) gd = some (.dK []) := upd_same
    have e58 : Ex H5 (upd H7 gd (.dK [])) := (e5.trans e67).trans e8
    have e128 : Ex H12 (upd H7 gd (.dK [])) := e67.trans e8
    have hp8 := e8 _ _ hp7
    have hgN : H5 gd = none := fresh_back (e5.trans e67) hgd
    generalize upd H7 gd (.dK []) = H8 at e58 e128 hp8 hg8 ⊢
    refine ⟨sz_of (by show 5 ≤ 100000; decide), fun q hq => ⟨q, _, rfl, st_of upd_same, rfl, _, _, rfl, _, _, rfl, _, _, rfl, _, _, rfl, _, _, rfl, rfl, mc, p, gd, cl, rfl, ?_, Ex.new hq _ _ hp8⟩⟩
    refine LawH.ex ?_ (Ex.new hq)
    obtain ⟨kvd, hd5⟩ := hT5.dk
    obtain ⟨cas, hca5⟩ := hT5.cl
    obtain ⟨tsr, hra5, _, _⟩ := id hR5
    have hB : BothAt K H12 mc m wl cl entL M0 := ⟨⟨dxm, kl, 0, 0, [], y1, y2, y3, hkc, Ne.symm (ne_of_none (e4 _ _ hM5.ws) hkl), Nat.zero_le _, fun v hv => by cases hv⟩, hM5.keep e5, ne_of_none (e4 _ _ hM5.ws) hcl, Ne.symm (ne_of_none hD5.ins g1)⟩
    exact ⟨hT5.keep e58, hB.keep e128, hD5.keep e58, hR5.keep e58, hg8, e58 _ _ hP5, oR, oR, nrw, nrr, ne_of_none (e4 _ _ hra5) hcl, ncw, ncrl, ne_of_none (e4 _ _ hca5) hcl, ncr, Ne.symm (ne_of_none hd5 hgN), Ne.symm (ne_of_none hD5.di hgN), ndd⟩
  rintro σ' H6 ⟨mc, pa, gd, cl, rfl, hL6, hpa6⟩
  have hI6 : LInv M0 rows (List.replicate 64 0) (fun _ => none) none 0 := init_inv oR bR
  clear hT5 hR5 hP5 nrr ncrl hM5 hD5 nrw ncr ncw ndd
  obtain ⟨A, rfl, rfl, rfl, rfl, rfl, rfl, rfl, rfl, rfl, rfl, rfl, rfl, hL⟩ : ∃ A : AdQ, A.d = d ∧ A.ca = ca ∧ A.m = m ∧ A.wl = wl ∧ A.dx = dx ∧ A.dd = dd ∧ A.rl = rl ∧ A.ra = ra ∧ A.mc = mc ∧ A.cl = cl ∧ A.gd = gd ∧ A.pt = Pt ∧ LawH K A H6 M0 rows rows [] := ⟨_, rfl, rfl, rfl, rfl, rfl, rfl, rfl, rfl, rfl, rfl, rfl, rfl, hL6⟩
  have hW6 : Whole K A H6 (.ref pa) .non 0 := ⟨M0, rows, [], _, _, none, hL, hI6, GD.nil, ⟨pa, rfl, hpa6⟩, rfl⟩
  clear hL6 hL hI6 hpa6 oR bR lR
  -- the turns
  refine q_cut (M := fun σ' H' => ∃ pv bv st x10 x11 x12 x13 x14 x15 x16 x17 x18 x19, σ' = LStt A a pv bv st x10 x11 x12 x13 x14 x15 x16 x17 x18 x19 ∧ Whole K A H' pv bv st) ?_ ?_
  · refine s_forRD (m := 60) (dr_take (fun H => ea_cons (ev_var rfl) (ea_cons ev_c ea_nil)) (by decide)) (fun n h => h) (by decide) hW6.T (fun _ σ' H' => ∃ pv bv st x10 x11 x12 x13 x14 x15 x16 x17 x18 x19, σ' = LStt A a pv bv st x10 x11 x12 x13 x14 x15 x16 x17 x18 x19 ∧ Whole K A H' pv bv st) (fun H1 hT1 f1 => ⟨_, _, _, none, none, none, none, none, none, none, none, none, none, rfl, hW6.tape hT1 f1⟩) ?_ (fun i σ' H' h => h)
    clear hW6
    rintro i σ' H0 hi60 ⟨pv, bv, st, x10, x11, x12, x13, x14, x15, x16, x17, x18, x19, rfl, hW0⟩
    -- which
    refine q_asgQ ((dr_take (fun H => ea_cons (ev_var rfl) (ea_cons ev_c ea_nil)) (by decide) : Dr _ _ A.d A.ca _) H0 _ hW0.T fun wch H1 hwch hT1 f1 => ?_)
    have hW1 := hW0.tape hT1 f1
    clear hW0 f1 hT1
    refine q_cut (M := fun σ' H' => ∃ pv bv st x11 x12 x13 x14 x15 x16 x17 x18 x19, σ' = LStt A a pv bv st (some (.int (i : Int))) x11 x12 x13 x14 x15 x16 x17 x18 x19 ∧ Whole K A H' pv bv st) ?_ ?_
    · refine s_if (b := decide (wch = 0)) (et_is (et_test (ev_op (ev_var rfl) ev_c (rv_eq rfl))) dec_int) (fun hb H2 e2 => ?_) (fun hb0 H2 e2 => ?_)
      · -- map
        have hW2 := hW1.ex e2
        clear hW1 e2 hb
        refine (dr_take (fun H => ea_cons (ev_var rfl) (ea_cons ev_c ea_nil)) (by decide) : Dr _ _ A.d A.ca _) H2 _ hW2.T fun at_ H3 hat hT3 f3 => ?_
        have hW3 := hW2.tape hT3 f3
        refine (dr_take (fun H => ea_cons (ev_var rfl) (ea_cons ev_c ea_nil)) (by decide) : Dr _ _ A.d A.ca _) H3 _ hT3 fun r H4 hr hT4 f4 => ⟨_, _, rfl, ?_⟩
        obtain ⟨μ, rows, gk, page, g, b, hL4, hI4, hG4, hp4, hb4⟩ := hW3.tape hT4 f4
        clear hW2 hW3 hT3 hT4 f3 f4
        obtain ⟨n, rfl⟩ : ∃ n : Nat, at_ = n := ⟨at_.toNat, by omega⟩
        have hn5 : n < 5 := by omega
        refine q_asg (v := .int (due12 g n)) (ev_if (b := decide (3 < n)) (et_is (et_test (ev_op (ev_var rfl) ev_c rv_I0)) (by rw [decide_eq_decide]; omega)) (fun hb => ev_is ev_c (by unfold due12; rw [if_pos (of_decide_eq_true hb)])) (fun hb => ev_if (b := (g n).isSome) (et_is (et_B (ev_din (k := Sum.inl (n : Int)) (ev_var rfl) (ev_var rfl) hL4.G)) (by rw [hG4.at_ n]; cases g n <;> rfl)) (fun hb2 => ev_is ev_c (by unfold due12; rw [if_neg (of_decide_eq_false hb), if_pos hb2])) (fun hb2 => ev_is ev_c (by unfold due12; rw [if_neg (of_decide_eq_false hb), if_neg (by rw [hb2]; decide)])))) fun H5 e5 => ?_
        obtain ⟨q, ask, hq1, hq2⟩ := trap12 hI4 hn5 hr.1 hr.2
        refine ⟨_, rfl, q_consC (q_consU (xs := [.int 7, .int 5, .int (n : Int), .int r]) (eu_tup (ea_cons ev_c (ea_cons ev_c (ea_cons (ev_var rfl) (ea_cons (ev_var rfl) ea_nil)))) (by show 4 ≤ 100000; decide)) fun ta H6 hta e6 h6 => ?_)⟩
        have hL6 := hL4.ex (e5.trans e6)
        refine ⟨A.m, A.wl, A.dx, A.dd, A.rl, ta, rows, μ, 12, 7, 5, n, r, q, rfl, hL6.B.me, hL6.D, h6, hI4.fx.caps.2.2.2.2.2.2.2.1, ask, fun H7 hM7 f7 => ?_⟩
        obtain ⟨hL7, tk7⟩ := hL6.words hM7 f7
        rw [hq1]
        refine q_neK (ev_var rfl) fun H8 e8 => ?_
        have hL8 := hL7.ex e8
        have tk48 : TK H4 H8 := ((TK.ex (e5.trans e6)).trans tk7).trans (TK.ex e8)
        refine s_when (b := decide (due12 g n = 0)) (et_is (et_test (ev_op (ev_var rfl) ev_c (rv_eq rfl))) dec_int) (fun hb H9 e9 => ?_) (fun hb H9 e9 => ?_)
        · have hd0 := of_decide_eq_true hb
          rw [if_pos hd0] at hq2
          have hn4 : n < 4 := by
            unfold due12 at hd0
            split at hd0
            · cases hd0
            · omega
          have hL9 := hL8.ex e9
          refine s_dputV (k := Sum.inl (n : Int)) (v := .int r) (ev_var rfl) (ev_var rfl) (ev_var rfl) hL9.G (by have := hG4.len; have := List.length_filter_le (fun a => (g a).isSome) (List.range 4); rw [List.length_range] at this; omega) fun H10 e10 => ?_
          obtain ⟨hL11, tk11⟩ := (hL9.ex e10).guard (gk' := putK gk (Sum.inl (n : Int)) (.int r))
          have tk : TK H4 (upd H10 A.gd (.dK (putK gk (Sum.inl (n : Int)) (.int r)))) := (tk48.trans (TK.ex (e9.trans e10))).trans tk11
          exact ⟨pv, bv, st, _, _, _, _, _, _, _, _, _, rfl, _, rows, _, page, _, b, hL11, hq2, hG4.put hn4, hp4.tk tk, hb4.tk tk⟩
        · rw [if_neg (of_decide_eq_false hb)] at hq2
          have tk : TK H4 H9 := tk48.trans (TK.ex e9)
          exact ⟨pv, bv, st, _, _, _, _, _, _, _, _, _, rfl, _, rows, gk, page, g, b, hL8.ex e9, hq2, hG4, hp4.tk tk, hb4.tk tk⟩
      refine s_if (b := decide (wch = 1)) (et_is (et_test (ev_op (ev_var rfl) ev_c (rv_eq rfl))) dec_int) (fun hb H3 e3 => ?_) (fun hb1 H3 e3 => ?_)
      · -- unmap
        have hW3 := hW1.ex (e2.trans e3)
        clear hW1 e2 e3 hb hb0
        refine q_asgQ ((dr_take (fun H => ea_cons (ev_var rfl) (ea_cons ev_c ea_nil)) (by decide) : Dr _ _ A.d A.ca _) H3 _ hW3.T fun at_ H4 hat hT4 f4 => ?_)
        obtain ⟨μ, rows, gk, page, g, b, hL4, hI4, hG4, hp4, hb4⟩ := hW3.tape hT4 f4
        clear hW3 hT4 f4
        obtain ⟨n, rfl⟩ : ∃ n : Nat, at_ = n := ⟨at_.toNat, by omega⟩
        have hn5 : n < 5 := by omega
        obtain ⟨q, ask, hq1, hq2⟩ := trap13 hI4 hn5
        refine ⟨_, rfl, q_consC (q_consU (xs := [.int 5, .int (n : Int), .int 0, .int 0]) (eu_tup (ea_cons ev_c (ea_cons (ev_var rfl) (ea_cons ev_c (ea_cons ev_c ea_nil)))) (by show 4 ≤ 100000; decide)) fun ta H6 hta e6 h6 => ?_)⟩
        have hL6 := hL4.ex e6
        refine ⟨A.m, A.wl, A.dx, A.dd, A.rl, ta, rows, μ, 13, 5, n, 0, 0, q, rfl, hL6.B.me, hL6.D, h6, hI4.fx.caps.2.2.2.2.2.2.2.1, ask, fun H7 hM7 f7 => ?_⟩
        obtain ⟨hL7, tk7⟩ := hL6.words hM7 f7
        rw [hq1]
        refine q_neK (ev_if (b := decide (3 < n)) (et_is (et_test (ev_op (ev_var rfl) ev_c rv_I0)) (by rw [decide_eq_decide]; omega)) (fun hb => ev_is ev_c (by rw [if_pos (of_decide_eq_true hb)])) (fun hb => ev_is ev_c (by rw [if_neg (of_decide_eq_false hb)]))) fun H8 e8 => ?_
        have hL8 := hL7.ex e8
        have tk48 : TK H4 H8 := ((TK.ex e6).trans tk7).trans (TK.ex e8)
        refine ⟨_, rfl, A.gd, rfl, .inl ⟨gk, .inl hL8.G⟩, _, rfl, gk, Sum.inl (n : Int), hL8.G, rfl, fun v hv => ?_, fun hv => ?_⟩
        · have hn4 : n < 4 := by
            obtain ⟨p, hp, e⟩ := List.mem_map.mp (valV_in hv)
            obtain ⟨a', ha', e'⟩ := hG4.ks p hp
            rw [e'] at e
            have := Sum.inl.inj e
            omega
          rw [if_neg (by omega)] at hq2
          obtain ⟨hL9, tk9⟩ := hL8.guard (gk' := dropK gk (Sum.inl (n : Int)))
          have tk := tk48.trans tk9
          exact ⟨pv, bv, st, _, _, _, _, _, _, _, _, _, rfl, _, rows, _, page, _, b, hL9, hq2, hG4.drop, hp4.tk tk, hb4.tk tk⟩
        · have hG' : GD gk (if 3 < n then g else gset g n none) := by
            split
            · exact hG4
            · exact hG4.same hv
          exact ⟨pv, bv, st, _, _, _, _, _, _, _, _, _, rfl, _, rows, gk, page, _, b, hL8, hq2, hG', hp4.tk tk48, hb4.tk tk48⟩
      have e23 := e2.trans e3
      refine s_if (b := decide (wch < 4)) (et_test (ev_op (ev_var rfl) ev_c rv_I0)) (fun hb H4 e4 => ?_) (fun hb2 H4 e4 => ?_)
      · -- order
        have hW4 := hW1.ex (e23.trans e4)
        clear hW1 e2 e3 e23 e4 hb hb0 hb1
        refine q_asgQ (q_tup (q_cons ((dr_add (P := fun v => v = 1) (fun H Q hT q => q 1 H rfl hT (FrD.of (Ex.refl H))) (dr_take (fun H => ea_cons (ev_var rfl) (ea_cons ev_c ea_nil)) (by decide)) : Dr _ _ A.d A.ca _) H4 _ hW4.T fun t0 H5 ht0 hT5 f5 => q_cons ((dr_take (fun H => ea_cons (ev_var rfl) (ea_cons ev_c ea_nil)) (by decide) : Dr _ _ A.d A.ca _) H5 _ hT5 fun t1 H6 ht1 hT6 f6 => q_cons ((dr_take (fun H => ea_cons (ev_var rfl) (ea_cons ev_c ea_nil)) (by decide) : Dr _ _ A.d A.ca _) H6 _ hT6 fun t2 H7 ht2 hT7 f7 => ?_)))))
        have b0 : 1 ≤ t0 ∧ t0 < 4 := by obtain ⟨x, y, hx, hy, hv⟩ := ht0; omega
        refine ⟨sz_of (by show 3 ≤ 100000; decide), fun tt htt => ?_⟩
        obtain ⟨μ, rows, gk, page, g, b, hL7, hI7, hG7, hp7, hb7⟩ := (((hW4.tape hT5 f5).tape hT6 f6).tape hT7 f7).ex (Ex.new (o := .tup [.int t0, .int t1, .int t2]) htt)
        have htt7 : (upd H7 tt (.tup [.int t0, .int t1, .int t2])) tt = some (.tup [.int t0, .int t1, .int t2]) := upd_same
        generalize upd H7 tt (.tup [.int t0, .int t1, .int t2]) = G7 at hL7 hp7 hb7 htt7 ⊢
        clear htt hT7 f7 hT6 f6 hT5 f5 hW4 ht0
        obtain ⟨ts, hts, htl, _⟩ := hL7.R
        have hbz : (!decide (bv = .non)) = b.isSome := by
          cases b with
          | none =>
            have : bv = .non := hb7
            rw [this]
            rfl
          | some q =>
            obtain ⟨o, s, p, l⟩ := q
            obtain ⟨ba, e, _⟩ := hb7
            rw [e]
            rfl
        refine q_asg (v := .int (due18 b rows.length t0 t1 t2)) (ev_if (b := b.isSome) (et_is (et_test (ev_op (ev_var rfl) ev_c rv_notN)) hbz) (fun hb => ev_is ev_c (by unfold due18; rw [if_pos hb])) (fun hb => ev_if (b := decide (2 < t0) || (decide ((rows.length : Int) ≤ t1) || decide (3 < t2))) (et_or (et_test (ev_op (ev_op (ev_var rfl) ev_c (Evl.rv_ixT (st_of htt7) (atI_nat (j := 0) rfl))) ev_c rv_I0)) fun _ => et_or (et_is (et_test (ev_op (ev_op (ev_var rfl) ev_c (Evl.rv_ixT (st_of htt7) (atI_nat (j := 1) rfl))) (ev_lenL' (ev_var rfl) (sq_of hts)) rv_I0)) (by rw [htl])) fun _ => et_test (ev_op (ev_op (ev_var rfl) ev_c (Evl.rv_ixT (st_of htt7) (atI_nat (j := 2) rfl))) ev_c rv_I0)) (fun hb2 => ev_is ev_c ?_) (fun hb2 => ev_is ev_c ?_))) fun H8 e8 => ?_
        · simp only [Bool.or_eq_true, decide_eq_true_eq] at hb2
          unfold due18
          rw [if_neg (by rw [hb]; decide), if_pos hb2]
        · have hb3 : ¬ (2 < t0 ∨ (rows.length : Int) ≤ t1 ∨ 3 < t2) := fun z => by
            have : (decide (2 < t0) || (decide ((rows.length : Int) ≤ t1) || decide (3 < t2))) = true := by simp only [Bool.or_eq_true, decide_eq_true_eq]; exact z
            rw [this] at hb2
            cases hb2
          unfold due18
          rw [if_neg (by rw [hb]; decide), if_neg hb3]
        obtain ⟨q, ask, hq1, hq2⟩ := trap18 hI7 b0 ht1 ht2
        refine ⟨_, rfl, q_consC (q_consS (xs := [.int 5] ++ [.int t0, .int t1, .int t2]) (es_catA (es_U (eu_tup (vs := [.int 5]) (ea_cons ev_c ea_nil) (by show 1 ≤ 100000; decide))) (fun H1 e => es_ev (ev_var rfl) ((e8.trans e) _ _ htt7)) (by show 1 + 3 ≤ 100000; decide)) fun ta H9 e9 h9 => ?_)⟩
        have hL9 := hL7.ex (e8.trans e9)
        refine ⟨A.m, A.wl, A.dx, A.dd, A.rl, ta, rows, μ, 18, 5, t0, t1, t2, q, rfl, hL9.B.me, hL9.D, h9, hI7.fx.caps.2.2.2.2.2.2.2.1, ask, fun H10 hM10 f10 => ?_⟩
        obtain ⟨hL10, tk10⟩ := hL9.words hM10 f10
        rw [hq1]
        refine q_neK (ev_var rfl) fun H11 e11 => ?_
        have hL11 := hL10.ex e11
        have tk711 : TK G7 H11 := ((TK.ex (e8.trans e9)).trans tk10).trans (TK.ex e11)
        refine s_when (b := decide (due18 b rows.length t0 t1 t2 = 0)) (et_is (et_test (ev_op (ev_var rfl) ev_c (rv_eq rfl))) dec_int) (fun hb H12 e12 => ?_) (fun hb H12 e12 => ?_)
        · have hd0 := of_decide_eq_true hb
          rw [if_pos hd0, if_pos hd0] at hq2
          refine q_consS (xs := [.int t0, .int t1, .int t2] ++ [.int 3]) (es_catA (es_ev (ev_var rfl) (e12 _ _ (tk711 _ _ htt7))) (fun H1 e => es_U (eu_tup (vs := [.int 3]) (ea_cons ev_c ea_nil) (by show 1 ≤ 100000; decide))) (by show 3 + 1 ≤ 100000; decide)) fun ba H13 e13 h13 => ⟨_, _, rfl, ?_⟩
          have tk := (tk711.trans (TK.ex e12)).trans (TK.ex e13)
          exact ⟨pv, .ref ba, 1, _, _, _, _, _, _, _, _, _, rfl, _, rows, gk, page, g, _, hL11.ex (e12.trans e13), hq2, hG7, hp7.tk tk, ⟨ba, rfl, h13⟩⟩
        · rw [if_neg (of_decide_eq_false hb), if_neg (of_decide_eq_false hb)] at hq2
          have tk := tk711.trans (TK.ex e12)
          exact ⟨pv, bv, st, _, _, _, _, _, _, _, _, _, rfl, _, rows, gk, page, g, b, hL11.ex e12, hq2, hG7, hp7.tk tk, hb7.tk tk⟩
      have e24 := e23.trans e4
      refine s_if (b := decide (wch = 4)) (et_is (et_test (ev_op (ev_var rfl) ev_c (rv_eq rfl))) dec_int) (fun hb H5 e5 => ?_) (fun hb3 H5 e5 => ?_)
      · -- a word of the page
        have hW5 := hW1.ex (e24.trans e5)
        clear hW1 e2 e3 e23 e4 e24 e5 hb hb0 hb1 hb2
        refine q_asgQ ((dr_take (fun H => ea_cons (ev_var rfl) (ea_cons ev_c ea_nil)) (by decide) : Dr _ _ A.d A.ca _) H5 _ hW5.T fun wd H6 hwd hT6 f6 => ?_)
        obtain ⟨μ, rows, gk, page, g, b, hL6, hI6, hG6, ⟨pa, rfl, hpa⟩, hb6⟩ := hW5.tape hT6 f6
        clear hW5 hT6 f6
        have hi64 : i < 64 := by omega
        have hpl := hI6.pl
        refine q_put hL6.B.me (ev_var rfl) ev_c (ev_var rfl) (ev_var rfl) (by omega) fun H7 hM7 f7 => ?_
        obtain ⟨hL7, tk7⟩ := hL6.words hM7 f7
        have hpa7 := tk7 _ _ hpa
        refine s_asgS (es_is (es_catA (es_catA (es_slA (es_ev (ev_var rfl) hpa7) (fun H1 e => eo_none) (fun H1 e => eo_some (ev_var rfl))) (fun H1 e => es_U (eu_tup (vs := [.int wd]) (ea_cons (ev_var rfl) ea_nil) (by show 1 ≤ 100000; decide))) ?_) (fun H1 e => es_slA (es_ev (ev_var rfl) (e _ _ hpa7)) (fun H2 e2 => eo_some (ev_op (ev_var rfl) ev_c rv_I0)) (fun H2 e2 => eo_none)) ?_) (set_cut (by omega))) fun pb H8 e8 h8 => ?_
        · have := cutV_length (page.map V.int) none (some (i : Int))
          rw [List.length_map] at this
          show _ + 1 ≤ _
          omega
        · have a1 := cutV_length (page.map V.int) none (some (i : Int))
          have a2 := cutV_length (page.map V.int) (some ((i : Int) + 1)) none
          rw [List.length_map] at a1 a2
          rw [List.length_append]
          show _ + 1 + _ ≤ _
          omega
        exact ⟨.ref pb, bv, st, _, _, _, _, _, _, _, _, _, rfl, _, rows, gk, _, g, b, hL7.ex e8, put_inv hI6 hi64 hwd.1 (by omega), hG6, ⟨pb, rfl, h8⟩, hb6.tk (tk7.trans (TK.ex e8))⟩
      have e25 := e24.trans e5
      refine s_if (b := decide (wch = 5)) (et_is (et_test (ev_op (ev_var rfl) ev_c (rv_eq rfl))) dec_int) (fun hb H6 e6 => ?_) (fun hb4 H6 e6 => ?_)
      · -- status
        obtain ⟨μ, rows, gk, page, g, b, hL6, hI6, hG6, hp6, hb6⟩ := hW1.ex (e25.trans e6)
        clear hW1 e2 e3 e23 e4 e24 e5 e25 e6 hb hb0 hb1 hb2 hb3
        obtain ⟨q, ask, hq1, hq2, hq3⟩ := trap19 hI6
        refine ⟨_, rfl, q_consC (q_consU (xs := [.int 5, .int 0, .int 0, .int 0]) (eu_tup (ea_cons ev_c (ea_cons ev_c (ea_cons ev_c (ea_cons ev_c ea_nil)))) (by show 4 ≤ 100000; decide)) fun ta H7 hta e7 h7 => ?_)⟩
        have hL7 := hL6.ex e7
        refine ⟨A.m, A.wl, A.dx, A.dd, A.rl, ta, rows, μ, 19, 5, 0, 0, 0, q, rfl, hL7.B.me, hL7.D, h7, hI6.fx.caps.2.2.2.2.2.2.2.1, ask, fun H8 hM8 f8 => ?_⟩
        obtain ⟨hL8, tk8⟩ := hL7.words hM8 f8
        rw [hq1]
        refine ⟨rfl, _, rfl, ?_⟩
        refine iteF ((et_is (et_test (ev_op (ev_greg hL8.B.me (ev_var rfl) ev_c ev_c (by decide) (by decide) (by decide)) (ev_var rfl) (rv_ne rfl))) (by rw [hq2, decide_eq_true rfl]; rfl) : EvT _ _ H8 false) H8 (Ex.refl H8) _ fun H9 e9 => iteF ?_)
        have tk := ((TK.ex e7).trans tk8).trans (TK.ex e9)
        exact ⟨pv, bv, st, _, _, _, _, _, _, _, _, _, rfl, _, rows, gk, page, g, b, hL8.ex e9, hq3, hG6, hp6.tk tk, hb6.tk tk⟩
      have hW6 := hW1.ex (e25.trans e6)
      clear hW1 e2 e3 e23 e4 e24 e5 e25 e6 hb0 hb1 hb2 hb3 hb4
      refine s_ifAndD (S := fun H' => Whole K A H' pv bv st) (et_is (et_test (ev_op (ev_var rfl) ev_c (rv_eq rfl))) dec_int) (fun G1 hG1 kk hk => ?_) (fun G1 e1 => hW6.ex e1) (fun H7 hW7 => ?_) (fun H7 hW7 => ?_)
      · exact (dr_take (fun H => ea_cons (ev_var rfl) (ea_cons ev_c ea_nil)) (by decide) : Dr _ _ A.d A.ca _) G1 _ hG1.T fun x G2 hx hT2 f2 => ⟨rfl, _, rfl, hk _ _ (hG1.tape hT2 f2)⟩
      · -- the power goes
        refine q_asgQ ((dr_take (fun H => ea_cons (ev_var rfl) (ea_cons ev_c ea_nil)) (by decide) : Dr _ _ A.d A.ca _) H7 _ hW7.T fun ct H8 hct hT8 f8 => ?_)
        obtain ⟨μ, rows, gk, page, g, b, hL8, hI8, hG8, ⟨pa, rfl, hpa⟩, hb8⟩ := hW7.tape hT8 f8
        clear hW6 hW7 hT8 f8
        obtain ⟨c, rfl⟩ : ∃ c : Nat, ct = c := ⟨ct.toNat, by omega⟩
        have hc : c ≤ 64 := by omega
        obtain ⟨dv, pw1, pw2⟩ := pow_inv hI8 hc
        refine ⟨_, rfl, _, rfl, A.m, A.wl, A.dx, A.dd, A.rl, rows, μ, c, rfl, hL8.B.me, hL8.D, fr8 hI8.fx, hc, dv, fun H9 hM9 hD9 f9 => ?_⟩
        rw [pw1] at hD9
        obtain ⟨hL9, tk9⟩ := hL8.disk hM9 hD9 pw2.ro f9
        have hpa9 := tk9 _ _ hpa
        have hb9 := hb8.tk tk9
        have hp0 := hI8.pg
        have hse := hI8.sec
        have hbz := hI8.bz
        clear hL8 hM9 hD9 f9 tk9 hb8 hpa dv pw1
        cases b with
        | none =>
          obtain rfl : bv = .non := hb9
          exact s_when (b := false) (et_is (et_and (a := false) (b := false) (et_is (et_test (ev_op (ev_var rfl) ev_c rv_notN)) rfl) fun z => by cases z) rfl) (fun z => by cases z) fun _ H10 e10 => ⟨.ref pa, .non, st, _, _, _, _, _, _, _, _, _, rfl, μ, rows, gk, page, g, none, hL9.ex e10, pw2, hG8, ⟨pa, rfl, e10 _ _ hpa9⟩, rfl⟩
        | some q =>
          obtain ⟨o, s, p, l⟩ := q
          obtain ⟨ba, rfl, hba⟩ := hb9
          obtain ⟨_, _, z1, z2, _⟩ := hbz
          have hp0' : 0 ≤ p ∧ p < 4 := by rw [z2] at hp0; exact hp0
          have hse' : 0 ≤ s ∧ s < rows.length := by rw [z1] at hse; exact hse
          obtain ⟨n, rfl⟩ : ∃ n : Nat, s = n := ⟨s.toNat, by omega⟩
          clear z1 z2 hp0 hse
          refine s_when (b := decide (o = 2) && (decide (gOf g p = 1) || decide (gOf g p = 3))) (et_is (et_and (et_test (ev_op (ev_var rfl) ev_c rv_notN)) fun _ => et_and (et_test (ev_op (ev_op (ev_var rfl) ev_c (Evl.rv_ixT (st_of hba) (atI_nat (j := 0) rfl))) ev_c (rv_eq rfl))) fun _ => et_test (ev_inU (ev_is (ev_dget2 (k := Sum.inl p) (ev_var rfl) (ev_op (ev_var rfl) ev_c (Evl.rv_ixT (st_of hba) (atI_nat (j := 2) rfl))) ev_c hL9.G) (gd_get hG8 hp0'.1)) (eu_tup (ea_cons ev_c (ea_cons ev_c ea_nil)) (by show 2 ≤ 100000; decide)) rfl rfl)) ?_) (fun hb H10 e10 => ?_) (fun hb H10 e10 => ?_)
          · show (true && (decide (V.int o = V.int 2) && inV _ _)) = _
            rw [Bool.true_and, dec_int, in_2]
          · have hb' : o = 2 ∧ (gOf g p = 1 ∨ gOf g p = 3) := by simpa using hb
            have epow : powL g rows page (some (o, (n : Int), p, l)) c = rows.set n (page.take c ++ (rows.getD n []).drop c) := by
              show (if o = 2 ∧ (gOf g p = 1 ∨ gOf g p = 3) then _ else _) = _
              rw [if_pos hb', Int.toNat_natCast]
            rw [epow] at hL9 pw2
            have hL10 := hL9.ex e10
            have hba10 := e10 _ _ hba
            have hpa10 := e10 _ _ hpa9
            have hnl : n < rows.length := by omega
            obtain ⟨ts, hts, htl, hval⟩ := id hL10.R
            have hrl : (rows.getD n []).length = 64 := by
              rw [List.getD_eq_getElem?_getD, List.getElem?_eq_getElem hnl]
              exact hI8.ro.len _ (List.getElem_mem hnl)
            have hpl := hI8.pl
            have hnew : (page.take c ++ (rows.getD n []).drop c).length = 64 := by
              rw [List.length_append, List.length_take, List.length_drop]
              omega
            refine s_setS (xs := ts) (j := n) hts (es_is (es_catA (es_slA (es_ev (ev_var rfl) hpa10) (fun H1 e => eo_none) (fun H1 e => eo_some (ev_var rfl))) (fun H1 e => es_slA (es_row (hL10.R.keep e) (ev_var rfl) (ev_op (ev_var rfl) ev_c (Evl.rv_ixT (st_of (e _ _ hba10)) (atI_nat (j := 1) rfl))) hnl) (fun H2 e2 => eo_some (ev_var rfl)) (fun H2 e2 => eo_none)) ?_) (ys := (page.take c ++ (rows.getD n []).drop c).map V.int) ?_) (fun H1 e => ev_var rfl) (fun H1 e => ev_op (ev_var rfl) ev_c (Evl.rv_ixT (st_of (e _ _ hba10)) (atI_nat (j := 1) rfl))) (by omega) fun pb H11 e11 h11 => ?_
            · rw [cut_to, cut_from, List.length_take, List.length_drop, List.length_map, List.length_map]
              omega
            · rw [cut_to, cut_from, ← List.map_take, ← List.map_drop, ← List.map_append]
            have hL11 := hL10.ex e11
            obtain ⟨hL12, tk12⟩ := hL11.row (s := n) (row := page.take c ++ (rows.getD n []).drop c) (t := pb) (e11 _ _ hts) htl hnl hnew h11 fun i v hv => by
              obtain ⟨t, a1, a2⟩ := hval i v hv
              exact ⟨t, a1, e11 _ _ a2⟩
            exact ⟨.ref pa, .ref ba, st, _, _, _, _, _, _, _, _, _, rfl, μ, _, gk, page, g, _, hL12, pw2, hG8, ⟨pa, rfl, tk12 _ _ (e11 _ _ hpa10)⟩, ⟨ba, rfl, tk12 _ _ (e11 _ _ hba10)⟩⟩
          · have hb' : ¬ (o = 2 ∧ (gOf g p = 1 ∨ gOf g p = 3)) := fun z => by
              have : (decide (o = 2) && (decide (gOf g p = 1) || decide (gOf g p = 3))) = true := by simpa using z
              rw [this] at hb
              cases hb
            have epow : powL g rows page (some (o, (n : Int), p, l)) c = rows := by
              show (if o = 2 ∧ (gOf g p = 1 ∨ gOf g p = 3) then _ else _) = _
              rw [if_neg hb']
            rw [epow] at hL9 pw2
            exact ⟨.ref pa, .ref ba, st, _, _, _, _, _, _, _, _, _, rfl, μ, rows, gk, page, g, _, hL9.ex e10, pw2, hG8, ⟨pa, rfl, e10 _ _ hpa9⟩, ⟨ba, rfl, e10 _ _ hba⟩⟩
      · -- a tick
        obtain ⟨μ, rows, gk, page, g, b, hL7, hI7, hG7, ⟨pa, rfl, hpa⟩, hb7⟩ := hW7
        clear hW6
        obtain ⟨⟨t1, t2, t3, t4⟩, u1, u2, u3, u4, u5, ⟨u6, u7⟩, u8, hI8⟩ := tick_inv hI7
        obtain ⟨dxm, kl, c0, c1, kept, m1, _⟩ := hL7.B.ma.ex
        refine ⟨_, rfl, A.mc, dxm, _, rfl, m1, rfl, A.mc, A.m, A.wl, A.cl, A.dx, A.dd, A.rl, rows, entL, μ, afterT μ, rfl, hL7.B, hL7.D, hI7.ro, t1, t2, t3, t4, fun z => ?_, fun t ht => ?_, u4, u5, u6, u7, fun H8 hB8 hD8 f8 => ?_⟩
        · rw [u1] at z; cases z
        · rw [u1] at ht; cases ht; exact ⟨24576, u2, u3, rfl⟩
        rw [u8] at hD8
        obtain ⟨hL8, tk8⟩ := hL7.dev hB8 hD8 hI8.ro f8
        have hpa8 := tk8 _ _ hpa
        have hb8 := hb7.tk tk8
        have hp0 := hI7.pg
        have hse := hI7.sec
        have hbz := hI7.bz
        have hro := hI7.ro
        have hpl := hI7.pl
        clear hB8 hD8 f8 tk8 hpa hb7 t1 t2 t3 t4 u1 u2 u3 u4 u5 u6 u7 u8 m1 hL7 hI7
        generalize (mpart (goM (afterT μ) rows)).1 = μ8 at hL8 hI8
        cases b with
        | none =>
          obtain rfl : bv = .non := hb8
          exact s_when (b := false) (et_is (et_test (ev_op (ev_var rfl) ev_c rv_notN)) rfl) (fun z => by cases z) fun _ H10 e10 => ⟨.ref pa, .non, st, _, _, _, _, _, _, _, _, _, rfl, μ8, rows, gk, page, g, none, hL8.ex e10, hI8, hG7, ⟨pa, rfl, e10 _ _ hpa8⟩, rfl⟩
        | some q =>
          obtain ⟨o, s, p, l⟩ := q
          obtain ⟨ba, rfl, hba⟩ := hb8
          obtain ⟨_, _, z1, z2, _, ho, _⟩ := hbz
          have hp0' : 0 ≤ p ∧ p < 4 := by rw [z2] at hp0; exact hp0
          have hse' : 0 ≤ s ∧ s < rows.length := by rw [z1] at hse; exact hse
          obtain ⟨n, rfl⟩ : ∃ n : Nat, s = n := ⟨s.toNat, by omega⟩
          have hnl : n < rows.length := by omega
          clear z1 z2 hp0 hse
          refine s_when (b := true) (et_is (et_test (ev_op (ev_var rfl) ev_c rv_notN)) rfl) (fun _ H9 e9 => ?_) (fun z => by cases z)
          have hba9 := e9 _ _ hba
          refine q_asgS (xs := [.int o, .int (n : Int), .int p, .int (l - 1)]) (es_is (es_catA (es_slA (es_ev (ev_var rfl) hba9) (fun H1 e => eo_none) (fun H1 e => eo_some (i := 3) ev_c)) (fun H1 e => es_U (eu_tup (vs := [.int (l - 1)]) (ea_cons (ev_op (ev_op (ev_var rfl) ev_c (Evl.rv_ixT (st_of (e _ _ hba9)) (atI_nat (j := 3) rfl))) ev_c rv_I0) ea_nil) (by show 1 ≤ 100000; decide))) (by show 3 + 1 ≤ 100000; decide)) rfl) fun bb H10 e10 h10 => ?_
          have hL10 := (hL8.ex e9).ex e10
          have hpa10 := e10 _ _ (e9 _ _ hpa8)
          clear hL8 hba hba9 hpa8 e9 e10
          refine s_when (b := decide (l - 1 = 0)) (et_is (et_test (ev_op (ev_op (ev_var rfl) ev_c (Evl.rv_ixT (st_of h10) (atI_nat (j := 3) rfl))) ev_c (rv_eq rfl))) dec_int) (fun hb H11 e11 => ?_) (fun hb H11 e11 => ?_)
          · have hl0 : l - 1 = 0 := of_decide_eq_true hb
            have hba11 := e11 _ _ h10
            have hL11 := hL10.ex e11
            have hpa11 := e11 _ _ hpa10
            clear hL10 h10 hpa10 e11 hb
            have etk : tickL g ⟨rows, page, some (o, (n : Int), p, l), st⟩ = if goodB g o p = true then (if o = 1 then ⟨rows, rows.getD n [], none, 2⟩ else ⟨rows.set n page, page, none, 2⟩) else ⟨rows, page, none, 3⟩ := by
              show (if l - 1 = 0 then _ else _) = _
              rw [if_pos hl0]
              rfl
            rw [etk] at hI8 hL11
            have o12 : o = 1 ∨ o = 2 := ho
            -- good
            refine q_asg (v := .bl (goodB g o p)) (ev_is (ev_opU (x := .int (gOf g p)) (xs := if o = 1 then [.int 2, .int 3] else [.int 1, .int 3]) (ev_is (ev_dget2 (k := Sum.inl p) (ev_var rfl) (ev_op (ev_var rfl) ev_c (Evl.rv_ixT (st_of hba11) (atI_nat (j := 2) rfl))) ev_c hL11.G) (gd_get hG7 hp0'.1)) (eu_if (b := decide (o = 1)) (et_is (et_test (ev_op (ev_op (ev_var rfl) ev_c (Evl.rv_ixT (st_of hba11) (atI_nat (j := 0) rfl))) ev_c (rv_eq rfl))) dec_int) (fun h1 => by rw [if_pos (of_decide_eq_true h1)]; exact eu_tup (ea_cons ev_c (ea_cons ev_c ea_nil)) (by show 2 ≤ 100000; decide)) (fun h1 => by rw [if_neg (of_decide_eq_false h1)]; exact eu_tup (ea_cons ev_c (ea_cons ev_c ea_nil)) (by show 2 ≤ 100000; decide))) fun p1 H1 h1 e1 => Evl.rv_isT (st_of h1) rfl (by split <;> rfl)) ?_) fun H12 e12 => ?_
            · unfold goodB
              by_cases h1 : o = 1
              · rw [if_pos h1, if_pos h1, in_1]
              · rw [if_neg h1, if_neg h1, in_2]
            have hba12 := e12 _ _ hba11
            have hL12 := hL11.ex e12
            have hpa12 := e12 _ _ hpa11
            clear hL11 hba11 hpa11 e12
            refine q_asg (v := .int (if goodB g o p = true then 2 else 3)) (ev_if (b := goodB g o p) (et_B (ev_var rfl)) (fun h1 => ev_is ev_c (by rw [if_pos h1])) (fun h1 => ev_is ev_c (by rw [if_neg (by rw [h1]; decide)]))) fun H13 e13 => ?_
            have hba13 := e13 _ _ hba12
            have hL13 := hL12.ex e13
            have hpa13 := e13 _ _ hpa12
            clear hL12 hba12 hpa12 e13
            refine q_if (b := goodB g o p && decide (o = 1)) (et_and (et_B (ev_var rfl)) fun _ => et_is (et_test (ev_op (ev_op (ev_var rfl) ev_c (Evl.rv_ixT (st_of hba13) (atI_nat (j := 0) rfl))) ev_c (rv_eq rfl))) dec_int) (fun hb H14 e14 => ?_) (fun hb H14 e14 => ?_)
            · have hb' : goodB g o p = true ∧ o = 1 := by simpa using hb
              rw [if_pos hb'.1, if_pos hb'.2] at hI8 hL13
              rw [if_pos hb'.1]
              have hL14 := hL13.ex e14
              refine s_asgS (es_row (rows := rows) (s := n) (hL14.R) (ev_var rfl) (ev_op (ev_var rfl) ev_c (Evl.rv_ixT (st_of (e14 _ _ hba13)) (atI_nat (j := 1) rfl))) hnl) fun pr H15 e15 h15 => s_asg ev_c fun H16 e16 => ?_
              exact ⟨.ref pr, .non, 2, _, _, _, _, _, _, _, _, _, rfl, μ8, rows, gk, _, g, none, hL14.ex (e15.trans e16), hI8, hG7, ⟨pr, rfl, e16 _ _ h15⟩, rfl⟩
            · refine s_if (b := goodB g o p) (et_B (ev_var rfl)) (fun h1 H15 e15 => ?_) (fun h1 H15 e15 => ?_)
              · have ho1 : ¬ o = 1 := fun z => by
                  rw [h1, decide_eq_true z] at hb
                  cases hb
                rw [if_pos h1, if_neg ho1] at hI8 hL13
                rw [if_pos h1]
                have hL15 := hL13.ex (e14.trans e15)
                have hba15 := (e14.trans e15) _ _ hba13
                have hpa15 := (e14.trans e15) _ _ hpa13
                obtain ⟨ts, hts, htl, hval⟩ := id hL15.R
                refine s_setL (xs := ts) (j := n) hts (ev_var rfl) (ev_var rfl) (ev_op (ev_var rfl) ev_c (Evl.rv_ixT (st_of hba15) (atI_nat (j := 1) rfl))) (by omega) fun H16 e16 => ?_
                obtain ⟨hL17, tk17⟩ := (hL15.ex e16).row (s := n) (row := page) (t := pa) (e16 _ _ hts) htl hnl hpl (e16 _ _ hpa15) fun i v hv => by
                  obtain ⟨t, a1, a2⟩ := hval i v hv
                  exact ⟨t, a1, e16 _ _ a2⟩
                refine s_asg ev_c fun H18 e18 => ?_
                exact ⟨.ref pa, .non, 2, _, _, _, _, _, _, _, _, _, rfl, μ8, _, gk, page, g, none, hL17.ex e18, hI8, hG7, ⟨pa, rfl, e18 _ _ (tk17 _ _ (e16 _ _ hpa15))⟩, rfl⟩
              · have hn1 : ¬ goodB g o p = true := by rw [h1]; decide
                rw [if_neg hn1] at hI8 hL13
                rw [if_neg hn1]
                refine s_asg ev_c fun H18 e18 => ?_
                exact ⟨.ref pa, .non, 3, _, _, _, _, _, _, _, _, _, rfl, μ8, rows, gk, page, g, none, hL13.ex ((e14.trans e15).trans e18), hI8, hG7, ⟨pa, rfl, ((e14.trans e15).trans e18) _ _ hpa13⟩, rfl⟩
          · have hl0 : ¬ l - 1 = 0 := of_decide_eq_false hb
            have etk : tickL g ⟨rows, page, some (o, (n : Int), p, l), st⟩ = ⟨rows, page, some (o, (n : Int), p, l - 1), st⟩ := by
              show (if l - 1 = 0 then _ else _) = _
              rw [if_neg hl0]
            rw [etk] at hI8 hL10
            exact ⟨.ref pa, .ref bb, st, _, _, _, _, _, _, _, _, _, rfl, μ8, rows, gk, page, g, _, hL10.ex e11, hI8, hG7, ⟨pa, rfl, e11 _ _ hpa10⟩, ⟨bb, rfl, e11 _ _ h10⟩⟩
    rintro σ' H2 ⟨pv, bv, st, x11, x12, x13, x14, x15, x16, x17, x18, x19, rfl, hW2⟩
    obtain ⟨μ, rows, gk, page, g, b, hL2, hI2, hG2, ⟨pa, rfl, hpa⟩, hb2⟩ := hW2
    refine ⟨_, rfl, A.m, A.wl, A.dx, A.dd, A.rl, rows, μ, rfl, hL2.B.me, hL2.D, hI2.fx.abs, fun sa H3 hsa e3 hA => ?_⟩
    obtain ⟨kvs, pg, dv, dk, hst, vp, ⟨pk, pt, hpg, vpg, hpt⟩, vd, ⟨dk2, dd2, gg, ds, gs, hdv, vdv, hDev, n1, n2, n3⟩, vk, ⟨rt, hdk, hrt⟩⟩ := hA
    have hL3 := hL2.ex e3
    have hpa3 := e3 _ _ hpa
    have hpt' : H3 pt = some (.tup (page.map V.int)) := by
      rw [hpt, frameV_I, page_frame hI2.pl hI2.pw]
    refine s_when (b := false) (et_is (et_or (a := false) (et_test (ev_neRows (ev_dg (k := Sum.inr "disks") (ev_var rfl) ev_c hst vk) hdk hrt (ev_var rfl) hL3.R)) fun _ => et_or (a := false) (et_test (ev_op (ev_dg (k := Sum.inl 6) (ev_dg (k := Sum.inr "pages") (ev_var rfl) ev_c hst vp) ev_c hpg vpg) (ev_var rfl) (ne_tup (st_of hpt') (st_of hpa3) (ints_flat page)))) fun _ => et_or (a := false) (et_is (et_test (ev_op (ev_dg (k := Sum.inr "status") (ev_dg (k := Sum.inl 31) (ev_dg (k := Sum.inr "devices") (ev_var rfl) ev_c hst vd) ev_c hdv vdv) ev_c hDev.at_ hDev.st) (ev_var rfl) (rv_ne rfl))) ?_) fun _ => et_is (b := false) (et_test (ev_op (ev_lenD (ev_dg (k := Sum.inr "guard") (ev_dg (k := Sum.inl 31) (ev_dg (k := Sum.inr "devices") (ev_var rfl) ev_c hst vd) ev_c hdv vdv) ev_c hDev.at_ hDev.gu) hDev.ga) (ev_lenD (ev_var rfl) hL3.G) (rv_ne rfl))) ?_) rfl) (fun z => by cases z) fun _ H4 e4 => ⟨.ref pa, bv, st, _, _, _, _, _, _, _, _, _, _, rfl, μ, rows, gk, page, g, b, hL3.ex e4, hI2, hG2, ⟨pa, rfl, e4 _ _ hpa3⟩, hb2.tk (TK.ex (e3.trans e4))⟩
    · have : μ (ix 31 0) = st := hI2.s0
      rw [this, decide_eq_true rfl]
      rfl
    · rw [hDev.gl, rowsN_len hI2 hG2, decide_eq_true rfl]
      rfl
  rintro σ' H7 ⟨pv, bv, st, x10, x11, x12, x13, x14, x15, x16, x17, x18, x19, rfl, hW7⟩
  obtain ⟨μ, rows, gk, page, g, b, hL7, hI7, hG7, hp7, hb7⟩ := hW7
  have hU := hI7.fx.noUn
  have k31 : μ (ix 1 31) ≠ 0 := by
    have := hI7.fx.kind (i := 31) (by decide)
    rw [show ((31 : Nat) : Int) = 31 from rfl] at this
    rw [this]
    decide
  have k6 : μ (ix 1 6) ≠ 0 := by
    have := hI7.fx.kind (i := 6) (by decide)
    rw [show ((6 : Nat) : Int) = 6 from rfl] at this
    rw [this]
    decide
  obtain ⟨Ps, hPs⟩ : ∃ Ps : List Pr, Ps = [PrT [.int 1, .int 31], PrT [.int 0, .int 6], PrT [.int 0, .int 31]] := ⟨_, rfl⟩
  have moP : ∀ P ∈ Ps, Mo P := fun P hP => by
    rw [hPs] at hP
    simp only [List.mem_cons, List.not_mem_nil, or_false] at hP
    rcases hP with rfl | rfl | rfl <;> exact PrT.mo
  refine q_forPU (Ps := Ps) moP (by rw [hPs]; decide) (by rw [hPs]; exact eps_cons PrT.mo (ep_U (eu_tup (ea_cons ev_c (ea_cons ev_c ea_nil)) (by show 2 ≤ 100000; decide))) (eps_cons PrT.mo (ep_U (eu_tup (ea_cons ev_c (ea_cons ev_c ea_nil)) (by show 2 ≤ 100000; decide))) (eps_cons PrT.mo (ep_U (eu_tup (ea_cons ev_c (ea_cons ev_c ea_nil)) (by show 2 ≤ 100000; decide))) eps_nil))) fun lp vs H8 e8 hlp al => ⟨fun i σ' H' => ∃ x20 x21, σ' = [some (.ref a), some (.ref A.d), some (.ref A.m), some (.ref A.ra), none, some (.ref A.mc), some pv, some (.ref A.gd), some bv, some (.int st), x10, x11, x12, x13, x14, x15, x16, x17, x18, x19, x20, x21] ∧ LamX.Tabs TL H' ∧ MemAt K H' A.m A.wl μ ∧ DiskAt K H' A.m A.wl A.dx A.dd A.rl rows ∧ H' lp = some (.tup vs) ∧ Al Ps vs H', ⟨none, none, rfl, hTabs (e8 _ _ hL7.P), hL7.B.me.keep e8, hL7.D.keep e8, hlp, al⟩, fun i σ' H' _ ⟨_, _, _, _, _, _, h, _⟩ => h, ?_, ?_⟩
  · rintro i x σ' H' hx ⟨x20, x21, rfl, hTb, hM, hD, hl, hal⟩
    obtain ⟨P, hP, hPx⟩ := hal.at hx
    have hPx2 : ∃ (pt fr : Int) (t : Addr), x = .ref t ∧ H' t = some (.tup [.int pt, .int fr]) ∧ 0 ≤ pt ∧ pt < 2 ∧ InF fr ∧ μ (ix 1 fr) ≠ 0 := by
      rw [hPs] at hP
      match i, hP with
      | 0, hP => cases hP; obtain ⟨t, e, ht⟩ := hPx; exact ⟨1, 31, t, e, ht, by decide, by decide, ⟨by decide, by decide⟩, k31⟩
      | 1, hP => cases hP; obtain ⟨t, e, ht⟩ := hPx; exact ⟨0, 6, t, e, ht, by decide, by decide, ⟨by decide, by decide⟩, k6⟩
      | 2, hP => cases hP; obtain ⟨t, e, ht⟩ := hPx; exact ⟨0, 31, t, e, ht, by decide, by decide, ⟨by decide, by decide⟩, k31⟩
    obtain ⟨pt, fr, t, rfl, ht, p0, p2, hIf, hk⟩ := hPx2
    refine ⟨t, _, rfl, st_of ht, rfl, _, _, rfl, _, _, rfl, rfl, ?_⟩
    refine ⟨hTb, fun H9 e9 tb9 => ?_⟩
    have hM9 := memAt_ext hM e9
    refine ⟨_, rfl, _, rfl, _, rfl, _, rfl, A.m, A.wl, A.ra, μ, pt, fr, none, rfl, hM9, hU, p0, p2, hIf, .inl ⟨.inl hk, fun H10 e10 => ⟨true, T.exm_InvalidBoot, fun _ => ⟨true, rfl, iteF ⟨_, _, rfl, tb9.ext e10, hM9.keep e10, (extN_disk hD e9).keep e10, e10 _ _ (e9 _ _ hl fun _ z => by cases z), hal.mono moP fun b xs hb => e10 _ _ (e9 _ _ hb fun _ z => by cases z)⟩⟩, fun z => by cases z⟩⟩⟩
  · rintro σ' H8 ⟨x20, x21, rfl, hTb, hM, hD, _, _⟩
    obtain ⟨q, ask, hq1⟩ := trap18no hI7
    refine ⟨_, rfl, q_consC (q_consU (xs := [.int 7, .int 1, .int 0, .int 0]) (eu_tup (ea_cons ev_c (ea_cons ev_c (ea_cons ev_c (ea_cons ev_c ea_nil)))) (by show 4 ≤ 100000; decide)) fun ta H9 hta e9 h9 => ?_)⟩
    refine ⟨A.m, A.wl, A.dx, A.dd, A.rl, ta, rows, μ, 18, 7, 1, 0, 0, q, rfl, hM.keep e9, hD.keep e9, h9, hI7.fx.caps.2.2.2.2.2.2.2.1, ask, fun H10 hM10 f10 => ?_⟩
    rw [hq1]
    exact ⟨rfl, by rw [decide_eq_true rfl]; exact k _⟩
end
end KQ

set_option maxHeartbeats 0

open PySem PySem.W PySem.Calls PyProof.Rows
theorem PySem.Challenge.cw_keptapart_k15_whole_disks_and_power_holds : PySem.Challenge.rw_keptapart_k15_whole_disks_and_power.Holds := by
  w_on; o_law
  refine HandSHeadRun.head_any (r := OpenLaw.row PySem.Challenge.rw_keptapart_k15_whole_disks_and_power) (q := view (OpenLaw.row PySem.Challenge.rw_keptapart_k15_whole_disks_and_power).prog [179]) (H := KA.hk) (ob := KA.ob) (M := 8000) (loose := KA.names) (d := HandSHeadRun.topDef (OpenLaw.row PySem.Challenge.rw_keptapart_k15_whole_disks_and_power).prog 179) (kwd := []) KA.ob_eq
    (by kernel_rfl) (fun s => by kernel_rfl) KA.run (by kernel_rfl) (by kernel_rfl) (by kernel_rfl) (by rfl) (by first | assumption | decide +kernel) (by decide +kernel) ⟨rfl, rfl, rfl, rfl, rfl, by decide +kernel⟩ ?hw ?hc
  case hw => w_witness2
  case hc =>
    refine LamX.walk_ofTsE (l := PySem.Challenge.rw_keptapart_k15_whole_disks_and_power) (n := 63) (k := 11) (x := "script") (CX := fun _ => L2.CX0) rfl (by decide) (by kernel_rfl) ⟨rfl, by decide, by decide⟩ ?F (fun _ _ _ _ _ z => z)
    intro w mg fa h Y G hmg0
    obtain ⟨K, KX, c, c1, Pt, hcd, hCH, hPt⟩ := Y
    have hmg : mg ("law" : PySem.Str) = some (.ref fa) := by
      have e : (HandSHeadRun.topDef (OpenLaw.row PySem.Challenge.rw_keptapart_k15_whole_disks_and_power).prog 179).name = ("law" : PySem.Str) := by kernel_rfl
      rw [← e]
      exact hmg0
    have T : KA.Txt K mg := KA.Txt.of KX G c
    have e := hmg.symm.trans T.glo_law
    cases e
    have b := L2.FunD.bindsA (ps := ["script"]) T.fn_law fun _ _ _ _ _ _ us hl => match us, hl with | [_], _ => rfl
    refine ⟨K, KX, KA.fd_law K, [(c1, Pt)], KQ.sp_law K Pt, fun p hp => ?_, fun p hp => ?_, fun p hp => ?_, fun s v => b s [v] rfl, fun H a ns hl _ hT hS => ⟨a, ns, rfl, hS, hl, hT (c1, Pt) (List.mem_singleton.mpr rfl), fun _ => rfl⟩, fun base _ _ TB => KQ.ok_law T hcd (TB (c1, Pt) (List.mem_singleton.mpr rfl))⟩
    · rw [List.mem_singleton.mp hp]; exact hPt
    · rw [List.mem_singleton.mp hp]; exact KA.noTab KX (KA.noTabs_of T) hPt
    · rw [List.mem_singleton.mp hp]; exact hCH

