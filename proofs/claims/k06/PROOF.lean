import PyProof.Rows.All
import Wide.All
import OpenK.AllK
import Wide.FinOn
import HandS.ForMost
import HandS.ForExc
import HandS.Defaults
import HandS.Flow
import HandS.Style
import HandS.Strs
import HandS.Steps
import HandS.Evl
import HandS.TupAny
import HandS.SortInts
import HandS.CallSlots
import HandS.ExcInit
import HandS.ExcField
import HandS.TryMany
import KE.KExcSuper
import HandS.Head0
import HandS.Head1
import HandS.Head2
import HandS.HeadEnd
import HandS.HeadHook1
import HandS.HeadHook2
import HandS.HeadHook3
import HandS.Zip
import KE.GoesEnum
import KE.GoesMore
import KE.GoesZip
import PySem.Challenge.RW_keptapart_k06_whole_turns_and_bounds
set_option Elab.async false
set_option linter.all false
set_option maxRecDepth 100000
set_option maxHeartbeats 4000000

namespace KA
open PySem PySem.Spec PyProof.Rows L2

/-! ### the head's facts: what hookD tells, a row of Bools, defs with a closure -/
abbrev CloV : Type := Option (Str × Str × Arguments × FuncBody × Scope × Addr × List Str × Addr)
def cloObs (K : PySem.W.Frag) (p : Str × Option Str) : CloV := match K.lookup (He.fAd K p) with
  | some ⟨_, _, .func fd, _⟩ => some (fd.name, fd.qualname, fd.params, fd.body, fd.scope, fd.globals, fd.closure.map (·.1), fd.builtins)
  | _ => none
structure CloD where
  at_ : Str × Option Str
  name : Str
  qual : Str
  st : Stmt
  clo : List Str
def CloD.val (d : CloD) : CloV := some (d.name, d.qual, defArgs d.st, .stmts (defBody d.st), defScope d.st, mainGlobals, d.clo, builtinsNs)
def asY : Nat → (Addr → Option Obj) → List Addr
  | 0, _ => [mainGlobals, cStatics]
  | n + 1, g => He.growD g (asY n g)
/-- the objects by names: fs the defs, cs the classes -/
def refsL (g : Addr → Option Obj) (as : List Addr) : List Addr := as.flatMap fun a => match g a with
  | some o => He.refsD o
  | none => []
def codeL (g : Addr → Option Obj) (as : List Addr) : List Addr := as.flatMap fun a => match g a with
  | some ⟨_, _, .func fd, _⟩ => He.refV fd.code ++ He.refV fd.defaults
  | _ => []
def nsL (g : Addr → Option Obj) (as : List Addr) : List Addr := as.flatMap fun a => match g a with
  | some ⟨_, _, .cls cd, _⟩ => cd.ns :: cd.mro.flatMap He.refV
  | _ => []
def asN (fs cs : List Str) (g : Addr → Option Obj) : List Addr :=
  let K0 := He.frG g [mainGlobals]
  let f1 := fs.map (He.ga K0)
  let c1 := cs.map (He.ga K0)
  let c2 := nsL g c1
  let c3 := refsL g c2
  [mainGlobals, cStatics] ++ c1 ++ c2 ++ c3 ++ codeL g c3 ++ f1 ++ codeL g f1
abbrev AlY : Type := He.AlD × Bool × List CloV
def obsK (fa : List He.Fa) (fn : List He.DefD) (cl : List CloD) (ex : PySem.W.Frag → List Bool) (K : PySem.W.Frag) : AlY := (He.obsD fa fn K, (ex K).all id, cl.map fun d => cloObs K d.at_)
def obsY (n : (Addr → Option Obj) → List Addr) (fa : List He.Fa) (fn : List He.DefD) (cl : List CloD) (ex : PySem.W.Frag → List Bool) (g : Addr → Option Obj) : AlY := obsK fa fn cl ex (He.frG g (n g))
def valY (fn : List He.DefD) (cl : List CloD) : AlY := (He.valD fn, true, cl.map CloD.val)
def hookY (n : (Addr → Option Obj) → List Addr) (fa : List He.Fa) (fn : List He.DefD) (cl : List CloD) (ex : PySem.W.Frag → List Bool) : PySem.W.Hook where
  α := AlY
  obs := fun s => obsY n fa fn cl ex s.heap.get?
  val := fun _ => valY fn cl
  says := fun _ h => ∃ K : PySem.W.Frag, K.In h ∧ obsK fa fn cl ex K = valY fn cl
  of := fun _ _ e => ⟨_, He.frG_in, e⟩
  keeps := fun _ _ _ ⟨K, hK, c⟩ k => ⟨K, PySem.W.Frag.In.keeps hK k, c⟩
theorem obsY_eq {n : (Addr → Option Obj) → List Addr} {fa : List He.Fa} {fn : List He.DefD} {cl : List CloD} {ex : PySem.W.Frag → List Bool} {g : Addr → Option Obj} {s : Shared} (h : ∀ a, g a = s.heap.get? a) : obsY n fa fn cl ex g = (hookY n fa fn cl ex).obs s := by
  have e : g = s.heap.get? := funext h
  rw [e] <;> rfl

def top (i : Nat) : Stmt := PySem.Challenge.pw_keptapart_k06_whole_turns_and_bounds.main.body.getD i (.Pass ⟨0, 0, 0, 0⟩)
abbrev s_word_of : Stmt := top 9
abbrev sc_word_of_N : List Str := ["op", "a", "b", "c"]
abbrev s_parts_of : Stmt := top 10
abbrev sc_parts_of_N : List Str := ["word"]
abbrev s_number_in : Stmt := top 11
abbrev sc_number_in_N : List Str := ["text", "most", "sign"]
abbrev s_register_in : Stmt := top 12
abbrev sc_register_in_N : List Str := ["text"]
abbrev s_word_in : Stmt := top 13
abbrev sc_word_in_N : List Str := ["text", "words", "op", "rest", "own", "number", "a", "b", "c"]
abbrev s_code_in : Stmt := top 14
abbrev sc_code_in_N : List Str := ["text", "found", "line", "row", "word"]
abbrev s_rank : Stmt := top 94
abbrev sc_rank_N : List Str := ["memory", "thread"]
abbrev s_ready_place : Stmt := top 95
abbrev sc_ready_place_N : List Str := ["memory", "thread", "number"]
abbrev s_push : Stmt := top 96
abbrev sc_push_N : List Str := ["memory", "place", "thread", "frame", "head", "tail", "last"]
abbrev s_take_out : Stmt := top 97
abbrev sc_take_out_N : List Str := ["memory", "place", "thread", "frame", "head", "tail", "before", "own", "follows"]
abbrev s_kind_of : Stmt := top 107
abbrev sc_kind_of_N : List Str := ["memory", "frame"]
abbrev s_frames_of : Stmt := top 108
abbrev sc_frames_of_N : List Str := ["memory", "kind", "frame"]
abbrev s_put_field : Stmt := top 111
abbrev sc_put_field_N : List Str := ["memory", "slot", "place", "word"]
abbrev s_put_cap : Stmt := top 112
abbrev sc_put_cap_N : List Str := ["memory", "slot", "cap", "parent", "size", "used", "k"]
abbrev s_entry_at : Stmt := top 117
abbrev sc_entry_at_N : List Str := ["memory", "frame", "page"]
abbrev s_entry : Stmt := top 119
abbrev sc_entry_N : List Str := ["memory", "table", "page", "k"]
abbrev s_put_entry : Stmt := top 120
abbrev sc_put_entry_N : List Str := ["memory", "table", "page", "told", "k"]
abbrev s_get_register : Stmt := top 129
abbrev sc_get_register_N : List Str := ["memory", "thread", "number"]
abbrev s_put_register : Stmt := top 130
abbrev sc_put_register_N : List Str := ["memory", "thread", "number", "word"]
abbrev s_domain_now : Stmt := top 131
abbrev sc_domain_now_N : List Str := ["memory"]
abbrev s_chosen : Stmt := top 132
abbrev sc_chosen_N : List Str := ["memory", "domain", "number", "head"]
abbrev s_spent : Stmt := top 133
abbrev sc_spent_N : List Str := ["memory", "thread", "left"]
abbrev s_next_part : Stmt := top 134
abbrev sc_next_part_N : List Str := ["memory", "left", "part"]
abbrev s_trap : Stmt := top 154
abbrev sc_trap_N : List Str := ["memory", "thread", "number", "told", "slot"]
abbrev s_any_trap : Stmt := top 158
abbrev sc_any_trap_N : List Str := ["memory", "thread", "number"]
abbrev s_devices_go : Stmt := top 161
abbrev sc_devices_go_N : List Str := ["memory", "frame"]
abbrev s_Memory_init : Stmt := inClass (top 164) 0
abbrev sc_Memory_init_N : List Str := ["self"]
abbrev s_Memory_word : Stmt := inClass (top 164) 1
abbrev sc_Memory_word_N : List Str := ["self", "frame", "place"]
abbrev s_Memory_put : Stmt := inClass (top 164) 2
abbrev sc_Memory_put_N : List Str := ["self", "frame", "place", "word"]
abbrev s_Machine_init : Stmt := inClass (top 167) 0
abbrev sc_Machine_init_N : List Str := ["self", "memory", "most"]
abbrev s_Machine_entry : Stmt := inClass (top 167) 4
abbrev sc_Machine_entry_N : List Str := ["self", "table", "page", "own", "number", "told"]
abbrev s_Machine_place_of : Stmt := inClass (top 167) 5
abbrev sc_Machine_place_of_N : List Str := ["self", "thread", "address", "right", "table", "told"]
abbrev s_Machine_forget : Stmt := inClass (top 167) 6
abbrev sc_Machine_forget_N : List Str := ["self"]
abbrev s_Machine_tick : Stmt := inClass (top 167) 7
abbrev sc_Machine_tick_N : List Str := ["self", "memory", "thread"]
abbrev s_Machine_step : Stmt := inClass (top 167) 8
abbrev sc_Machine_step_N : List Str := ["self", "thread", "memory", "pc", "place", "op", "a", "b", "c", "address", "goes", "one", "other"]
abbrev s_reckoned : Stmt := top 168
abbrev sc_reckoned_N : List Str := ["op", "one", "other"]
abbrev s_booted : Stmt := top 171
abbrev sc_booted_N : List Str := ["plan", "parts", "links", "lines", "memory", "first", "domain", "ticks", "number", "part", "link", "line", "bits"]
abbrev s_begin_part : Stmt := top 172
abbrev sc_begin_part_N : List Str := ["memory", "frame", "part", "domain", "priority", "budget", "code", "many", "good", "own", "kind", "place", "word", "cap", "page", "thread", "places"]
abbrev s_law_tape : Stmt := top 175
abbrev sc_law_tape_N : List Str := ["script", "cells", "cell", "seed"]
abbrev s_law_take : Stmt := top 176
abbrev sc_law_take_N : List Str := ["tape", "many", "drawn", "mixed"]
abbrev s_law : Stmt := top 177
abbrev sc_law_N : List Str := ["script", "tape", "plan", "k", "codes", "kinds", "parts", "kind", "machine", "queues", "left", "at", "spent_v", "steps", "part", "key", "waits", "turn", "domain", "due", "rank_v", "row", "went", "own", "ends"]
def cl : List CloD := []
def fn : List He.DefD := [
  ⟨("word_of", none), "word_of", "word_of", defArgs s_word_of, defBody s_word_of, defScope s_word_of, [], []⟩,
  ⟨("parts_of", none), "parts_of", "parts_of", defArgs s_parts_of, defBody s_parts_of, defScope s_parts_of, [], []⟩,
  ⟨("number_in", none), "number_in", "number_in", defArgs s_number_in, defBody s_number_in, defScope s_number_in, [], []⟩,
  ⟨("register_in", none), "register_in", "register_in", defArgs s_register_in, defBody s_register_in, defScope s_register_in, [], []⟩,
  ⟨("word_in", none), "word_in", "word_in", defArgs s_word_in, defBody s_word_in, defScope s_word_in, [], []⟩,
  ⟨("code_in", none), "code_in", "code_in", defArgs s_code_in, defBody s_code_in, defScope s_code_in, [], []⟩,
  ⟨("rank", none), "rank", "rank", defArgs s_rank, defBody s_rank, defScope s_rank, [], []⟩,
  ⟨("ready_place", none), "ready_place", "ready_place", defArgs s_ready_place, defBody s_ready_place, defScope s_ready_place, [], []⟩,
  ⟨("push", none), "push", "push", defArgs s_push, defBody s_push, defScope s_push, [], []⟩,
  ⟨("take_out", none), "take_out", "take_out", defArgs s_take_out, defBody s_take_out, defScope s_take_out, [], []⟩,
  ⟨("kind_of", none), "kind_of", "kind_of", defArgs s_kind_of, defBody s_kind_of, defScope s_kind_of, [], []⟩,
  ⟨("frames_of", none), "frames_of", "frames_of", defArgs s_frames_of, defBody s_frames_of, defScope s_frames_of, [], []⟩,
  ⟨("put_field", none), "put_field", "put_field", defArgs s_put_field, defBody s_put_field, defScope s_put_field, [], []⟩,
  ⟨("put_cap", none), "put_cap", "put_cap", defArgs s_put_cap, defBody s_put_cap, defScope s_put_cap, [], []⟩,
  ⟨("entry_at", none), "entry_at", "entry_at", defArgs s_entry_at, defBody s_entry_at, defScope s_entry_at, [], []⟩,
  ⟨("entry", none), "entry", "entry", defArgs s_entry, defBody s_entry, defScope s_entry, [], []⟩,
  ⟨("put_entry", none), "put_entry", "put_entry", defArgs s_put_entry, defBody s_put_entry, defScope s_put_entry, [], []⟩,
  ⟨("get_register", none), "get_register", "get_register", defArgs s_get_register, defBody s_get_register, defScope s_get_register, [], []⟩,
  ⟨("put_register", none), "put_register", "put_register", defArgs s_put_register, defBody s_put_register, defScope s_put_register, [], []⟩,
  ⟨("domain_now", none), "domain_now", "domain_now", defArgs s_domain_now, defBody s_domain_now, defScope s_domain_now, [], []⟩,
  ⟨("chosen", none), "chosen", "chosen", defArgs s_chosen, defBody s_chosen, defScope s_chosen, [], []⟩,
  ⟨("spent", none), "spent", "spent", defArgs s_spent, defBody s_spent, defScope s_spent, [], []⟩,
  ⟨("next_part", none), "next_part", "next_part", defArgs s_next_part, defBody s_next_part, defScope s_next_part, [], []⟩,
  ⟨("trap", none), "trap", "trap", defArgs s_trap, defBody s_trap, defScope s_trap, [], []⟩,
  ⟨("any_trap", none), "any_trap", "any_trap", defArgs s_any_trap, defBody s_any_trap, defScope s_any_trap, [], []⟩,
  ⟨("devices_go", none), "devices_go", "devices_go", defArgs s_devices_go, defBody s_devices_go, defScope s_devices_go, [], []⟩,
  ⟨("Memory", some "__init__"), "__init__", "Memory.__init__", defArgs s_Memory_init, defBody s_Memory_init, defScope s_Memory_init, [], []⟩,
  ⟨("Memory", some "word"), "word", "Memory.word", defArgs s_Memory_word, defBody s_Memory_word, defScope s_Memory_word, [], []⟩,
  ⟨("Memory", some "put"), "put", "Memory.put", defArgs s_Memory_put, defBody s_Memory_put, defScope s_Memory_put, [], []⟩,
  ⟨("Machine", some "__init__"), "__init__", "Machine.__init__", defArgs s_Machine_init, defBody s_Machine_init, defScope s_Machine_init, [], []⟩,
  ⟨("Machine", some "_entry"), "_entry", "Machine._entry", defArgs s_Machine_entry, defBody s_Machine_entry, defScope s_Machine_entry, [], []⟩,
  ⟨("Machine", some "place_of"), "place_of", "Machine.place_of", defArgs s_Machine_place_of, defBody s_Machine_place_of, defScope s_Machine_place_of, [], []⟩,
  ⟨("Machine", some "forget"), "forget", "Machine.forget", defArgs s_Machine_forget, defBody s_Machine_forget, defScope s_Machine_forget, [], []⟩,
  ⟨("Machine", some "tick"), "tick", "Machine.tick", defArgs s_Machine_tick, defBody s_Machine_tick, defScope s_Machine_tick, [], []⟩,
  ⟨("Machine", some "step"), "step", "Machine.step", defArgs s_Machine_step, defBody s_Machine_step, defScope s_Machine_step, [], []⟩,
  ⟨("reckoned", none), "reckoned", "reckoned", defArgs s_reckoned, defBody s_reckoned, defScope s_reckoned, [], []⟩,
  ⟨("booted", none), "booted", "booted", defArgs s_booted, defBody s_booted, defScope s_booted, [], []⟩,
  ⟨("begin_part", none), "begin_part", "begin_part", defArgs s_begin_part, defBody s_begin_part, defScope s_begin_part, [], []⟩,
  ⟨("_law_tape", none), "_law_tape", "_law_tape", defArgs s_law_tape, defBody s_law_tape, defScope s_law_tape, [], []⟩,
  ⟨("_law_take", none), "_law_take", "_law_take", defArgs s_law_take, defBody s_law_take, defScope s_law_take, [], []⟩,
  ⟨("law", none), "law", "law", defArgs s_law, defBody s_law, defScope s_law, [], []⟩]
def fa : List He.Fa := [
  .glo "word_of",
  .glo "parts_of",
  .glo "number_in",
  .glo "register_in",
  .glo "word_in",
  .glo "code_in",
  .glo "rank",
  .glo "ready_place",
  .glo "push",
  .glo "take_out",
  .glo "kind_of",
  .glo "frames_of",
  .glo "put_field",
  .glo "put_cap",
  .glo "entry_at",
  .glo "entry",
  .glo "put_entry",
  .glo "get_register",
  .glo "put_register",
  .glo "domain_now",
  .glo "chosen",
  .glo "spent",
  .glo "next_part",
  .glo "trap",
  .glo "any_trap",
  .glo "devices_go",
  .glo "reckoned",
  .glo "booted",
  .glo "begin_part",
  .glo "_law_tape",
  .glo "_law_take",
  .glo "law",
  .glo "Memory",
  .cls "Memory",
  .mkr "Memory",
  .noat "Memory" "_words",
  .noat "Memory" "_disks",
  .meth "Memory" "word",
  .meth "Memory" "put",
  .meth "Memory" "clear",
  .meth "Memory" "frame",
  .meth "Memory" "words",
  .meth "Memory" "lay_disk",
  .meth "Memory" "disk",
  .meth "Memory" "laid",
  .meth "Memory" "put_sector",
  .meth "Memory" "load",
  .glo "Machine",
  .cls "Machine",
  .mkr "Machine",
  .noat "Machine" "_memory",
  .noat "Machine" "_most",
  .noat "Machine" "_kept",
  .noat "Machine" "_counts",
  .meth "Machine" "memory",
  .meth "Machine" "lookups",
  .meth "Machine" "counts",
  .meth "Machine" "_entry",
  .meth "Machine" "place_of",
  .meth "Machine" "forget",
  .meth "Machine" "tick",
  .meth "Machine" "step",
  .meth "Machine" "run",
  .meth "Machine" "rise",
  .meth "Machine" "image",
  .glo "NAMES",
  .glo "TRAPS",
  .str "DIGITS" "0123456789",
  .int "WORD" 65536,
  .int "FRAME" 64,
  .int "FRAMES" 32,
  .int "SLOTS" 8,
  .int "ENTRIES" 8,
  .int "PRIORITIES" 4,
  .int "DOMAINS" 2,
  .int "LINES" 4,
  .int "PARTS" 4,
  .int "FREE" 0,
  .int "UNTYPED" 1,
  .int "PAGE" 2,
  .int "TABLE" 3,
  .int "CAPS" 4,
  .int "THREAD" 5,
  .int "END" 6,
  .int "NOTICE" 7,
  .int "DEVICE" 8,
  .int "READ" 1,
  .int "WRITE" 2,
  .int "ALL" 7,
  .int "READY" 1,
  .int "KERNEL" 0,
  .int "KIND_FRAME" 1,
  .int "T_STATE" 0,
  .int "T_PC" 1,
  .int "T_REGISTERS" 2,
  .int "T_CAPS" 10,
  .int "T_TABLE" 11,
  .int "T_PRIORITY" 12,
  .int "T_BUDGET" 13,
  .int "T_LEFT" 14,
  .int "T_NEXT" 15,
  .int "T_DOMAIN" 22,
  .int "T_LENT" 24,
  .int "GUARDED" 4,
  .int "K_TIME" 0,
  .int "K_PART" 1,
  .int "K_LEFT" 2,
  .int "K_HEADS" 4,
  .int "K_TAILS" 12,
  .int "K_LINES" 20,
  .int "K_PLAN" 24,
  .int "OK" 0,
  .int "BAD_CODE" 1,
  .int "BAD_PLACE" 2,
  .int "BAD_TRAP" 3,
  .glo "CHANGING",
  .int "EACH" 5,
  .free "abs",
  .free "all",
  .free "enumerate",
  .free "int",
  .free "len",
  .free "list",
  .free "max",
  .free "min",
  .free "range",
  .free "str",
  .free "sum",
  .free "tuple",
  .free "zip"]
def tupB2 (K : PySem.W.Frag) (x : Str) (vs : List He.Dv) : Bool := He.tupB K x vs && (match K.lookup (He.ga K x) with | some o => o.dict.isNone && decide (o.cls = .type "tuple") | none => false)
def exs (K : PySem.W.Frag) : List Bool := [tupB2 K "NAMES" [.str "halt", .str "set", .str "add", .str "sub", .str "load", .str "store", .str "jump", .str "zero", .str "mul", .str "less", .str "trap", .str "and"], tupB2 K "TRAPS" [.str "yield", .str "send", .str "receive", .str "call", .str "reply", .str "signal", .str "wait", .str "mint", .str "move", .str "revoke", .str "delete", .str "retype", .str "map", .str "unmap", .str "bind", .str "resume", .str "suspend", .str "registers", .str "order", .str "status"], tupB2 K "CHANGING" [.int 8, .int 9, .int 10, .int 12, .int 13]]
def fdO (K : PySem.W.Frag) (p : Str × Option Str) : FuncData := match K.lookup (He.fAd K p) with
  | some ⟨_, _, .func fd, _⟩ => fd
  | _ => default
theorem fdO_eq {K : PySem.W.Frag} {p : Str × Option Str} {oc : Value} {od : Option Addr} {fd : FuncData} {osl : Array (Option Value)} (h : K.lookup (He.fAd K p) = some ⟨oc, od, .func fd, osl⟩) : fdO K p = fd := by
  unfold fdO
  rw [h]
abbrev FnP (K : PySem.W.Frag) (x qual : Str) (st : Stmt) (f : Addr) (fd : FuncData) : Prop := FunD K x qual (defArgs st) (defBody st) (defScope st) [] [] f fd
/-- what the top has written -/
structure Txt (K : PySem.W.Frag) (mg : Str → Option Value) : Prop where
  ex : ∃ h : Heap, K.In h ∧ h.Ns mainGlobals mg ∧ He.SaysD fa fn K ∧ (exs K).all id = true ∧ cl.map (fun d => cloObs K d.at_) = cl.map CloD.val
section
variable {K : PySem.W.Frag} {mg : Str → Option Value}
theorem Txt.fact (T : Txt K mg) (i : Nat) {f : He.Fa} (h : fa[i]? = some f := by rfl) : f.ok K = true := by
  obtain ⟨_, _, _, c, _, _⟩ := T.ex
  exact c.fact i h
theorem Txt.glo (T : Txt K mg) (i : Nat) {x : Str} (h : fa[i]? = some (.glo x) := by rfl) : mg x = some (.ref (He.ga K x)) := by
  obtain ⟨_, X, G, c, _, _⟩ := T.ex
  exact He.glo_ok X G (c.fact i h)
theorem Txt.free_at (T : Txt K mg) (i : Nat) {x : Str} (h : fa[i]? = some (.free x)) : mg x = none := by
  obtain ⟨_, X, G, c, _, _⟩ := T.ex
  exact He.free_ok X G (c.fact i h)
theorem Txt.int (T : Txt K mg) (i : Nat) {x : Str} {n : Int} (h : fa[i]? = some (.int x n) := by rfl) : ∃ t, mg x = some (.int n t) := by
  obtain ⟨_, X, G, c, _, _⟩ := T.ex
  exact He.int_ok X G (c.fact i h)
theorem Txt.str (T : Txt K mg) (i : Nat) {x z : Str} (h : fa[i]? = some (.str x z) := by rfl) : ∃ t, mg x = some (.str z t) := by
  obtain ⟨_, X, G, c, _, _⟩ := T.ex
  exact He.str_ok X G (c.fact i h)
theorem Txt.exi (T : Txt K mg) (i : Nat) {b : Bool} (h : (exs K)[i]? = some b) : b = true := by
  obtain ⟨_, _, _, _, c, _⟩ := T.ex
  exact List.all_eq_true.mp c b (List.mem_of_getElem? h)
theorem Txt.fun_ (T : Txt K mg) (i : Nat) {d : He.DefD} (h : fn[i]? = some d := by rfl) : FunD K d.name d.qual d.params d.body d.scope (d.dvs K) (d.kws K) (He.fAd K d.at_) (fdO K d.at_) := by
  obtain ⟨_, _, _, c, _, _⟩ := T.ex
  obtain ⟨fd, F⟩ := c.def_ i h
  obtain ⟨oc, od, dV, kV, doc, pm, an, cdv, ct, osl, e, lk, r⟩ := F.ex
  rw [fdO_eq lk]
  exact F
theorem Txt.of {h : Heap} (X : K.In h) (G : h.Ns mainGlobals mg) (e : obsK fa fn cl exs K = valY fn cl) : Txt K mg := ⟨⟨h, X, G, congrArg (fun z : AlY => z.1) e, congrArg (fun z : AlY => z.2.1) e, congrArg (fun z : AlY => z.2.2) e⟩⟩
theorem Txt.clo (T : Txt K mg) (i : Nat) {d : CloD} (h : cl[i]? = some d := by rfl) : cloObs K d.at_ = d.val := by
  obtain ⟨_, _, _, _, _, e⟩ := T.ex
  have e2 : (cl.map fun d => cloObs K d.at_)[i]? = (cl.map CloD.val)[i]? := by rw [e]
  rw [List.getElem?_map, List.getElem?_map, h] at e2
  exact Option.some.inj e2
theorem Txt.more (T : Txt K mg) (i : Nat) {b : Bool} (h : (exs K)[i]? = some b := by rfl) : b = true := T.exi i h
-- the Bools beside begin at 3
abbrev f_word_of (K : PySem.W.Frag) : Addr := He.fAd K ("word_of", none)
abbrev fd_word_of (K : PySem.W.Frag) : FuncData := fdO K ("word_of", none)
theorem Txt.fn_word_of (T : Txt K mg) : FnP K "word_of" "word_of" s_word_of (f_word_of K) (fd_word_of K) := T.fun_ 0
theorem Txt.kp_word_of (T : Txt K mg) : PySem.W.keepIn K (.ref (f_word_of K)) = true := T.fn_word_of.kp
theorem Txt.bd_word_of (T : Txt K mg) : Binds K (fd_word_of K) ["op", "a", "b", "c"] [] := T.fn_word_of.bindsN fun _ _ _ _ _ _ us hl => match us, hl with | [_, _, _, _], _ => rfl
theorem Txt.glo_word_of (T : Txt K mg) : mg "word_of" = some (.ref (f_word_of K)) := T.glo 0
theorem sc_word_of : FnScope sc_word_of_N ["op", "a", "b", "c"] (defScope s_word_of) := ⟨rfl, rfl, rfl, by decide +kernel, rfl, by decide +kernel, by decide +kernel⟩
abbrev f_parts_of (K : PySem.W.Frag) : Addr := He.fAd K ("parts_of", none)
abbrev fd_parts_of (K : PySem.W.Frag) : FuncData := fdO K ("parts_of", none)
theorem Txt.fn_parts_of (T : Txt K mg) : FnP K "parts_of" "parts_of" s_parts_of (f_parts_of K) (fd_parts_of K) := T.fun_ 1
theorem Txt.kp_parts_of (T : Txt K mg) : PySem.W.keepIn K (.ref (f_parts_of K)) = true := T.fn_parts_of.kp
theorem Txt.bd_parts_of (T : Txt K mg) : Binds K (fd_parts_of K) ["word"] [] := T.fn_parts_of.bindsN fun _ _ _ _ _ _ us hl => match us, hl with | [_], _ => rfl
theorem Txt.glo_parts_of (T : Txt K mg) : mg "parts_of" = some (.ref (f_parts_of K)) := T.glo 1
theorem sc_parts_of : FnScope sc_parts_of_N ["word"] (defScope s_parts_of) := ⟨rfl, rfl, rfl, by decide +kernel, rfl, by decide +kernel, by decide +kernel⟩
abbrev f_number_in (K : PySem.W.Frag) : Addr := He.fAd K ("number_in", none)
abbrev fd_number_in (K : PySem.W.Frag) : FuncData := fdO K ("number_in", none)
theorem Txt.fn_number_in (T : Txt K mg) : FnP K "number_in" "number_in" s_number_in (f_number_in K) (fd_number_in K) := T.fun_ 2
theorem Txt.kp_number_in (T : Txt K mg) : PySem.W.keepIn K (.ref (f_number_in K)) = true := T.fn_number_in.kp
theorem Txt.bd_number_in (T : Txt K mg) : Binds K (fd_number_in K) ["text", "most"] [] := T.fn_number_in.bindsN fun _ _ _ _ _ _ us hl => match us, hl with | [_, _], _ => rfl
theorem Txt.glo_number_in (T : Txt K mg) : mg "number_in" = some (.ref (f_number_in K)) := T.glo 2
theorem sc_number_in : FnScope sc_number_in_N ["text", "most"] (defScope s_number_in) := ⟨rfl, rfl, rfl, by decide +kernel, rfl, by decide +kernel, by decide +kernel⟩
abbrev f_register_in (K : PySem.W.Frag) : Addr := He.fAd K ("register_in", none)
abbrev fd_register_in (K : PySem.W.Frag) : FuncData := fdO K ("register_in", none)
theorem Txt.fn_register_in (T : Txt K mg) : FnP K "register_in" "register_in" s_register_in (f_register_in K) (fd_register_in K) := T.fun_ 3
theorem Txt.kp_register_in (T : Txt K mg) : PySem.W.keepIn K (.ref (f_register_in K)) = true := T.fn_register_in.kp
theorem Txt.bd_register_in (T : Txt K mg) : Binds K (fd_register_in K) ["text"] [] := T.fn_register_in.bindsN fun _ _ _ _ _ _ us hl => match us, hl with | [_], _ => rfl
theorem Txt.glo_register_in (T : Txt K mg) : mg "register_in" = some (.ref (f_register_in K)) := T.glo 3
theorem sc_register_in : FnScope sc_register_in_N ["text"] (defScope s_register_in) := ⟨rfl, rfl, rfl, by decide +kernel, rfl, by decide +kernel, by decide +kernel⟩
abbrev f_word_in (K : PySem.W.Frag) : Addr := He.fAd K ("word_in", none)
abbrev fd_word_in (K : PySem.W.Frag) : FuncData := fdO K ("word_in", none)
theorem Txt.fn_word_in (T : Txt K mg) : FnP K "word_in" "word_in" s_word_in (f_word_in K) (fd_word_in K) := T.fun_ 4
theorem Txt.kp_word_in (T : Txt K mg) : PySem.W.keepIn K (.ref (f_word_in K)) = true := T.fn_word_in.kp
theorem Txt.bd_word_in (T : Txt K mg) : Binds K (fd_word_in K) ["text"] [] := T.fn_word_in.bindsN fun _ _ _ _ _ _ us hl => match us, hl with | [_], _ => rfl
theorem Txt.glo_word_in (T : Txt K mg) : mg "word_in" = some (.ref (f_word_in K)) := T.glo 4
theorem sc_word_in : FnScope sc_word_in_N ["text"] (defScope s_word_in) := ⟨rfl, rfl, rfl, by decide +kernel, rfl, by decide +kernel, by decide +kernel⟩
abbrev f_code_in (K : PySem.W.Frag) : Addr := He.fAd K ("code_in", none)
abbrev fd_code_in (K : PySem.W.Frag) : FuncData := fdO K ("code_in", none)
theorem Txt.fn_code_in (T : Txt K mg) : FnP K "code_in" "code_in" s_code_in (f_code_in K) (fd_code_in K) := T.fun_ 5
theorem Txt.kp_code_in (T : Txt K mg) : PySem.W.keepIn K (.ref (f_code_in K)) = true := T.fn_code_in.kp
theorem Txt.bd_code_in (T : Txt K mg) : Binds K (fd_code_in K) ["text"] [] := T.fn_code_in.bindsN fun _ _ _ _ _ _ us hl => match us, hl with | [_], _ => rfl
theorem Txt.glo_code_in (T : Txt K mg) : mg "code_in" = some (.ref (f_code_in K)) := T.glo 5
theorem sc_code_in : FnScope sc_code_in_N ["text"] (defScope s_code_in) := ⟨rfl, rfl, rfl, by decide +kernel, rfl, by decide +kernel, by decide +kernel⟩
abbrev f_rank (K : PySem.W.Frag) : Addr := He.fAd K ("rank", none)
abbrev fd_rank (K : PySem.W.Frag) : FuncData := fdO K ("rank", none)
theorem Txt.fn_rank (T : Txt K mg) : FnP K "rank" "rank" s_rank (f_rank K) (fd_rank K) := T.fun_ 6
theorem Txt.kp_rank (T : Txt K mg) : PySem.W.keepIn K (.ref (f_rank K)) = true := T.fn_rank.kp
theorem Txt.bd_rank (T : Txt K mg) : Binds K (fd_rank K) ["memory", "thread"] [] := T.fn_rank.bindsN fun _ _ _ _ _ _ us hl => match us, hl with | [_, _], _ => rfl
theorem Txt.glo_rank (T : Txt K mg) : mg "rank" = some (.ref (f_rank K)) := T.glo 6
theorem sc_rank : FnScope sc_rank_N ["memory", "thread"] (defScope s_rank) := ⟨rfl, rfl, rfl, by decide +kernel, rfl, by decide +kernel, by decide +kernel⟩
abbrev f_ready_place (K : PySem.W.Frag) : Addr := He.fAd K ("ready_place", none)
abbrev fd_ready_place (K : PySem.W.Frag) : FuncData := fdO K ("ready_place", none)
theorem Txt.fn_ready_place (T : Txt K mg) : FnP K "ready_place" "ready_place" s_ready_place (f_ready_place K) (fd_ready_place K) := T.fun_ 7
theorem Txt.kp_ready_place (T : Txt K mg) : PySem.W.keepIn K (.ref (f_ready_place K)) = true := T.fn_ready_place.kp
theorem Txt.bd_ready_place (T : Txt K mg) : Binds K (fd_ready_place K) ["memory", "thread"] [] := T.fn_ready_place.bindsN fun _ _ _ _ _ _ us hl => match us, hl with | [_, _], _ => rfl
theorem Txt.glo_ready_place (T : Txt K mg) : mg "ready_place" = some (.ref (f_ready_place K)) := T.glo 7
theorem sc_ready_place : FnScope sc_ready_place_N ["memory", "thread"] (defScope s_ready_place) := ⟨rfl, rfl, rfl, by decide +kernel, rfl, by decide +kernel, by decide +kernel⟩
abbrev f_push (K : PySem.W.Frag) : Addr := He.fAd K ("push", none)
abbrev fd_push (K : PySem.W.Frag) : FuncData := fdO K ("push", none)
theorem Txt.fn_push (T : Txt K mg) : FnP K "push" "push" s_push (f_push K) (fd_push K) := T.fun_ 8
theorem Txt.kp_push (T : Txt K mg) : PySem.W.keepIn K (.ref (f_push K)) = true := T.fn_push.kp
theorem Txt.bd_push (T : Txt K mg) : Binds K (fd_push K) ["memory", "place", "thread"] [] := T.fn_push.bindsN fun _ _ _ _ _ _ us hl => match us, hl with | [_, _, _], _ => rfl
theorem Txt.glo_push (T : Txt K mg) : mg "push" = some (.ref (f_push K)) := T.glo 8
theorem sc_push : FnScope sc_push_N ["memory", "place", "thread"] (defScope s_push) := ⟨rfl, rfl, rfl, by decide +kernel, rfl, by decide +kernel, by decide +kernel⟩
abbrev f_take_out (K : PySem.W.Frag) : Addr := He.fAd K ("take_out", none)
abbrev fd_take_out (K : PySem.W.Frag) : FuncData := fdO K ("take_out", none)
theorem Txt.fn_take_out (T : Txt K mg) : FnP K "take_out" "take_out" s_take_out (f_take_out K) (fd_take_out K) := T.fun_ 9
theorem Txt.kp_take_out (T : Txt K mg) : PySem.W.keepIn K (.ref (f_take_out K)) = true := T.fn_take_out.kp
theorem Txt.bd_take_out (T : Txt K mg) : Binds K (fd_take_out K) ["memory", "place", "thread"] [] := T.fn_take_out.bindsN fun _ _ _ _ _ _ us hl => match us, hl with | [_, _, _], _ => rfl
theorem Txt.glo_take_out (T : Txt K mg) : mg "take_out" = some (.ref (f_take_out K)) := T.glo 9
theorem sc_take_out : FnScope sc_take_out_N ["memory", "place", "thread"] (defScope s_take_out) := ⟨rfl, rfl, rfl, by decide +kernel, rfl, by decide +kernel, by decide +kernel⟩
abbrev f_kind_of (K : PySem.W.Frag) : Addr := He.fAd K ("kind_of", none)
abbrev fd_kind_of (K : PySem.W.Frag) : FuncData := fdO K ("kind_of", none)
theorem Txt.fn_kind_of (T : Txt K mg) : FnP K "kind_of" "kind_of" s_kind_of (f_kind_of K) (fd_kind_of K) := T.fun_ 10
theorem Txt.kp_kind_of (T : Txt K mg) : PySem.W.keepIn K (.ref (f_kind_of K)) = true := T.fn_kind_of.kp
theorem Txt.bd_kind_of (T : Txt K mg) : Binds K (fd_kind_of K) ["memory", "frame"] [] := T.fn_kind_of.bindsN fun _ _ _ _ _ _ us hl => match us, hl with | [_, _], _ => rfl
theorem Txt.glo_kind_of (T : Txt K mg) : mg "kind_of" = some (.ref (f_kind_of K)) := T.glo 10
theorem sc_kind_of : FnScope sc_kind_of_N ["memory", "frame"] (defScope s_kind_of) := ⟨rfl, rfl, rfl, by decide +kernel, rfl, by decide +kernel, by decide +kernel⟩
abbrev f_frames_of (K : PySem.W.Frag) : Addr := He.fAd K ("frames_of", none)
abbrev fd_frames_of (K : PySem.W.Frag) : FuncData := fdO K ("frames_of", none)
theorem Txt.fn_frames_of (T : Txt K mg) : FnP K "frames_of" "frames_of" s_frames_of (f_frames_of K) (fd_frames_of K) := T.fun_ 11
theorem Txt.kp_frames_of (T : Txt K mg) : PySem.W.keepIn K (.ref (f_frames_of K)) = true := T.fn_frames_of.kp
theorem Txt.bd_frames_of (T : Txt K mg) : Binds K (fd_frames_of K) ["memory", "kind"] [] := T.fn_frames_of.bindsN fun _ _ _ _ _ _ us hl => match us, hl with | [_, _], _ => rfl
theorem Txt.glo_frames_of (T : Txt K mg) : mg "frames_of" = some (.ref (f_frames_of K)) := T.glo 11
theorem sc_frames_of : FnScope sc_frames_of_N ["memory", "kind"] (defScope s_frames_of) := ⟨rfl, rfl, rfl, by decide +kernel, rfl, by decide +kernel, by decide +kernel⟩
abbrev f_put_field (K : PySem.W.Frag) : Addr := He.fAd K ("put_field", none)
abbrev fd_put_field (K : PySem.W.Frag) : FuncData := fdO K ("put_field", none)
theorem Txt.fn_put_field (T : Txt K mg) : FnP K "put_field" "put_field" s_put_field (f_put_field K) (fd_put_field K) := T.fun_ 12
theorem Txt.kp_put_field (T : Txt K mg) : PySem.W.keepIn K (.ref (f_put_field K)) = true := T.fn_put_field.kp
theorem Txt.bd_put_field (T : Txt K mg) : Binds K (fd_put_field K) ["memory", "slot", "place", "word"] [] := T.fn_put_field.bindsN fun _ _ _ _ _ _ us hl => match us, hl with | [_, _, _, _], _ => rfl
theorem Txt.glo_put_field (T : Txt K mg) : mg "put_field" = some (.ref (f_put_field K)) := T.glo 12
theorem sc_put_field : FnScope sc_put_field_N ["memory", "slot", "place", "word"] (defScope s_put_field) := ⟨rfl, rfl, rfl, by decide +kernel, rfl, by decide +kernel, by decide +kernel⟩
abbrev f_put_cap (K : PySem.W.Frag) : Addr := He.fAd K ("put_cap", none)
abbrev fd_put_cap (K : PySem.W.Frag) : FuncData := fdO K ("put_cap", none)
theorem Txt.fn_put_cap (T : Txt K mg) : FnP K "put_cap" "put_cap" s_put_cap (f_put_cap K) (fd_put_cap K) := T.fun_ 13
theorem Txt.kp_put_cap (T : Txt K mg) : PySem.W.keepIn K (.ref (f_put_cap K)) = true := T.fn_put_cap.kp
theorem Txt.bd_put_cap (T : Txt K mg) : Binds K (fd_put_cap K) ["memory", "slot", "cap", "parent", "size", "used"] [] := T.fn_put_cap.bindsN fun _ _ _ _ _ _ us hl => match us, hl with | [_, _, _, _, _, _], _ => rfl
theorem Txt.glo_put_cap (T : Txt K mg) : mg "put_cap" = some (.ref (f_put_cap K)) := T.glo 13
theorem sc_put_cap : FnScope sc_put_cap_N ["memory", "slot", "cap", "parent", "size", "used"] (defScope s_put_cap) := ⟨rfl, rfl, rfl, by decide +kernel, rfl, by decide +kernel, by decide +kernel⟩
abbrev f_entry_at (K : PySem.W.Frag) : Addr := He.fAd K ("entry_at", none)
abbrev fd_entry_at (K : PySem.W.Frag) : FuncData := fdO K ("entry_at", none)
theorem Txt.fn_entry_at (T : Txt K mg) : FnP K "entry_at" "entry_at" s_entry_at (f_entry_at K) (fd_entry_at K) := T.fun_ 14
theorem Txt.kp_entry_at (T : Txt K mg) : PySem.W.keepIn K (.ref (f_entry_at K)) = true := T.fn_entry_at.kp
theorem Txt.bd_entry_at (T : Txt K mg) : Binds K (fd_entry_at K) ["memory", "frame", "page"] [] := T.fn_entry_at.bindsN fun _ _ _ _ _ _ us hl => match us, hl with | [_, _, _], _ => rfl
theorem Txt.glo_entry_at (T : Txt K mg) : mg "entry_at" = some (.ref (f_entry_at K)) := T.glo 14
theorem sc_entry_at : FnScope sc_entry_at_N ["memory", "frame", "page"] (defScope s_entry_at) := ⟨rfl, rfl, rfl, by decide +kernel, rfl, by decide +kernel, by decide +kernel⟩
abbrev f_entry (K : PySem.W.Frag) : Addr := He.fAd K ("entry", none)
abbrev fd_entry (K : PySem.W.Frag) : FuncData := fdO K ("entry", none)
theorem Txt.fn_entry (T : Txt K mg) : FnP K "entry" "entry" s_entry (f_entry K) (fd_entry K) := T.fun_ 15
theorem Txt.kp_entry (T : Txt K mg) : PySem.W.keepIn K (.ref (f_entry K)) = true := T.fn_entry.kp
theorem Txt.bd_entry (T : Txt K mg) : Binds K (fd_entry K) ["memory", "table", "page"] [] := T.fn_entry.bindsN fun _ _ _ _ _ _ us hl => match us, hl with | [_, _, _], _ => rfl
theorem Txt.glo_entry (T : Txt K mg) : mg "entry" = some (.ref (f_entry K)) := T.glo 15
theorem sc_entry : FnScope sc_entry_N ["memory", "table", "page"] (defScope s_entry) := ⟨rfl, rfl, rfl, by decide +kernel, rfl, by decide +kernel, by decide +kernel⟩
abbrev f_put_entry (K : PySem.W.Frag) : Addr := He.fAd K ("put_entry", none)
abbrev fd_put_entry (K : PySem.W.Frag) : FuncData := fdO K ("put_entry", none)
theorem Txt.fn_put_entry (T : Txt K mg) : FnP K "put_entry" "put_entry" s_put_entry (f_put_entry K) (fd_put_entry K) := T.fun_ 16
theorem Txt.kp_put_entry (T : Txt K mg) : PySem.W.keepIn K (.ref (f_put_entry K)) = true := T.fn_put_entry.kp
theorem Txt.bd_put_entry (T : Txt K mg) : Binds K (fd_put_entry K) ["memory", "table", "page", "told"] [] := T.fn_put_entry.bindsN fun _ _ _ _ _ _ us hl => match us, hl with | [_, _, _, _], _ => rfl
theorem Txt.glo_put_entry (T : Txt K mg) : mg "put_entry" = some (.ref (f_put_entry K)) := T.glo 16
theorem sc_put_entry : FnScope sc_put_entry_N ["memory", "table", "page", "told"] (defScope s_put_entry) := ⟨rfl, rfl, rfl, by decide +kernel, rfl, by decide +kernel, by decide +kernel⟩
abbrev f_get_register (K : PySem.W.Frag) : Addr := He.fAd K ("get_register", none)
abbrev fd_get_register (K : PySem.W.Frag) : FuncData := fdO K ("get_register", none)
theorem Txt.fn_get_register (T : Txt K mg) : FnP K "get_register" "get_register" s_get_register (f_get_register K) (fd_get_register K) := T.fun_ 17
theorem Txt.kp_get_register (T : Txt K mg) : PySem.W.keepIn K (.ref (f_get_register K)) = true := T.fn_get_register.kp
theorem Txt.bd_get_register (T : Txt K mg) : Binds K (fd_get_register K) ["memory", "thread", "number"] [] := T.fn_get_register.bindsN fun _ _ _ _ _ _ us hl => match us, hl with | [_, _, _], _ => rfl
theorem Txt.glo_get_register (T : Txt K mg) : mg "get_register" = some (.ref (f_get_register K)) := T.glo 17
theorem sc_get_register : FnScope sc_get_register_N ["memory", "thread", "number"] (defScope s_get_register) := ⟨rfl, rfl, rfl, by decide +kernel, rfl, by decide +kernel, by decide +kernel⟩
abbrev f_put_register (K : PySem.W.Frag) : Addr := He.fAd K ("put_register", none)
abbrev fd_put_register (K : PySem.W.Frag) : FuncData := fdO K ("put_register", none)
theorem Txt.fn_put_register (T : Txt K mg) : FnP K "put_register" "put_register" s_put_register (f_put_register K) (fd_put_register K) := T.fun_ 18
theorem Txt.kp_put_register (T : Txt K mg) : PySem.W.keepIn K (.ref (f_put_register K)) = true := T.fn_put_register.kp
theorem Txt.bd_put_register (T : Txt K mg) : Binds K (fd_put_register K) ["memory", "thread", "number", "word"] [] := T.fn_put_register.bindsN fun _ _ _ _ _ _ us hl => match us, hl with | [_, _, _, _], _ => rfl
theorem Txt.glo_put_register (T : Txt K mg) : mg "put_register" = some (.ref (f_put_register K)) := T.glo 18
theorem sc_put_register : FnScope sc_put_register_N ["memory", "thread", "number", "word"] (defScope s_put_register) := ⟨rfl, rfl, rfl, by decide +kernel, rfl, by decide +kernel, by decide +kernel⟩
abbrev f_domain_now (K : PySem.W.Frag) : Addr := He.fAd K ("domain_now", none)
abbrev fd_domain_now (K : PySem.W.Frag) : FuncData := fdO K ("domain_now", none)
theorem Txt.fn_domain_now (T : Txt K mg) : FnP K "domain_now" "domain_now" s_domain_now (f_domain_now K) (fd_domain_now K) := T.fun_ 19
theorem Txt.kp_domain_now (T : Txt K mg) : PySem.W.keepIn K (.ref (f_domain_now K)) = true := T.fn_domain_now.kp
theorem Txt.bd_domain_now (T : Txt K mg) : Binds K (fd_domain_now K) ["memory"] [] := T.fn_domain_now.bindsN fun _ _ _ _ _ _ us hl => match us, hl with | [_], _ => rfl
theorem Txt.glo_domain_now (T : Txt K mg) : mg "domain_now" = some (.ref (f_domain_now K)) := T.glo 19
theorem sc_domain_now : FnScope sc_domain_now_N ["memory"] (defScope s_domain_now) := ⟨rfl, rfl, rfl, by decide +kernel, rfl, by decide +kernel, by decide +kernel⟩
abbrev f_chosen (K : PySem.W.Frag) : Addr := He.fAd K ("chosen", none)
abbrev fd_chosen (K : PySem.W.Frag) : FuncData := fdO K ("chosen", none)
theorem Txt.fn_chosen (T : Txt K mg) : FnP K "chosen" "chosen" s_chosen (f_chosen K) (fd_chosen K) := T.fun_ 20
theorem Txt.kp_chosen (T : Txt K mg) : PySem.W.keepIn K (.ref (f_chosen K)) = true := T.fn_chosen.kp
theorem Txt.bd_chosen (T : Txt K mg) : Binds K (fd_chosen K) ["memory"] [] := T.fn_chosen.bindsN fun _ _ _ _ _ _ us hl => match us, hl with | [_], _ => rfl
theorem Txt.glo_chosen (T : Txt K mg) : mg "chosen" = some (.ref (f_chosen K)) := T.glo 20
theorem sc_chosen : FnScope sc_chosen_N ["memory"] (defScope s_chosen) := ⟨rfl, rfl, rfl, by decide +kernel, rfl, by decide +kernel, by decide +kernel⟩
abbrev f_spent (K : PySem.W.Frag) : Addr := He.fAd K ("spent", none)
abbrev fd_spent (K : PySem.W.Frag) : FuncData := fdO K ("spent", none)
theorem Txt.fn_spent (T : Txt K mg) : FnP K "spent" "spent" s_spent (f_spent K) (fd_spent K) := T.fun_ 21
theorem Txt.kp_spent (T : Txt K mg) : PySem.W.keepIn K (.ref (f_spent K)) = true := T.fn_spent.kp
theorem Txt.bd_spent (T : Txt K mg) : Binds K (fd_spent K) ["memory", "thread"] [] := T.fn_spent.bindsN fun _ _ _ _ _ _ us hl => match us, hl with | [_, _], _ => rfl
theorem Txt.glo_spent (T : Txt K mg) : mg "spent" = some (.ref (f_spent K)) := T.glo 21
theorem sc_spent : FnScope sc_spent_N ["memory", "thread"] (defScope s_spent) := ⟨rfl, rfl, rfl, by decide +kernel, rfl, by decide +kernel, by decide +kernel⟩
abbrev f_next_part (K : PySem.W.Frag) : Addr := He.fAd K ("next_part", none)
abbrev fd_next_part (K : PySem.W.Frag) : FuncData := fdO K ("next_part", none)
theorem Txt.fn_next_part (T : Txt K mg) : FnP K "next_part" "next_part" s_next_part (f_next_part K) (fd_next_part K) := T.fun_ 22
theorem Txt.kp_next_part (T : Txt K mg) : PySem.W.keepIn K (.ref (f_next_part K)) = true := T.fn_next_part.kp
theorem Txt.bd_next_part (T : Txt K mg) : Binds K (fd_next_part K) ["memory"] [] := T.fn_next_part.bindsN fun _ _ _ _ _ _ us hl => match us, hl with | [_], _ => rfl
theorem Txt.glo_next_part (T : Txt K mg) : mg "next_part" = some (.ref (f_next_part K)) := T.glo 22
theorem sc_next_part : FnScope sc_next_part_N ["memory"] (defScope s_next_part) := ⟨rfl, rfl, rfl, by decide +kernel, rfl, by decide +kernel, by decide +kernel⟩
abbrev f_trap (K : PySem.W.Frag) : Addr := He.fAd K ("trap", none)
abbrev fd_trap (K : PySem.W.Frag) : FuncData := fdO K ("trap", none)
theorem Txt.fn_trap (T : Txt K mg) : FnP K "trap" "trap" s_trap (f_trap K) (fd_trap K) := T.fun_ 23
theorem Txt.kp_trap (T : Txt K mg) : PySem.W.keepIn K (.ref (f_trap K)) = true := T.fn_trap.kp
theorem Txt.bd_trap (T : Txt K mg) : Binds K (fd_trap K) ["memory", "thread", "number"] [] := T.fn_trap.bindsN fun _ _ _ _ _ _ us hl => match us, hl with | [_, _, _], _ => rfl
theorem Txt.glo_trap (T : Txt K mg) : mg "trap" = some (.ref (f_trap K)) := T.glo 23
theorem sc_trap : FnScope sc_trap_N ["memory", "thread", "number"] (defScope s_trap) := ⟨rfl, rfl, rfl, by decide +kernel, rfl, by decide +kernel, by decide +kernel⟩
abbrev f_any_trap (K : PySem.W.Frag) : Addr := He.fAd K ("any_trap", none)
abbrev fd_any_trap (K : PySem.W.Frag) : FuncData := fdO K ("any_trap", none)
theorem Txt.fn_any_trap (T : Txt K mg) : FnP K "any_trap" "any_trap" s_any_trap (f_any_trap K) (fd_any_trap K) := T.fun_ 24
theorem Txt.kp_any_trap (T : Txt K mg) : PySem.W.keepIn K (.ref (f_any_trap K)) = true := T.fn_any_trap.kp
theorem Txt.bd_any_trap (T : Txt K mg) : Binds K (fd_any_trap K) ["memory", "thread", "number"] [] := T.fn_any_trap.bindsN fun _ _ _ _ _ _ us hl => match us, hl with | [_, _, _], _ => rfl
theorem Txt.glo_any_trap (T : Txt K mg) : mg "any_trap" = some (.ref (f_any_trap K)) := T.glo 24
theorem sc_any_trap : FnScope sc_any_trap_N ["memory", "thread", "number"] (defScope s_any_trap) := ⟨rfl, rfl, rfl, by decide +kernel, rfl, by decide +kernel, by decide +kernel⟩
abbrev f_devices_go (K : PySem.W.Frag) : Addr := He.fAd K ("devices_go", none)
abbrev fd_devices_go (K : PySem.W.Frag) : FuncData := fdO K ("devices_go", none)
theorem Txt.fn_devices_go (T : Txt K mg) : FnP K "devices_go" "devices_go" s_devices_go (f_devices_go K) (fd_devices_go K) := T.fun_ 25
theorem Txt.kp_devices_go (T : Txt K mg) : PySem.W.keepIn K (.ref (f_devices_go K)) = true := T.fn_devices_go.kp
theorem Txt.bd_devices_go (T : Txt K mg) : Binds K (fd_devices_go K) ["memory"] [] := T.fn_devices_go.bindsN fun _ _ _ _ _ _ us hl => match us, hl with | [_], _ => rfl
theorem Txt.glo_devices_go (T : Txt K mg) : mg "devices_go" = some (.ref (f_devices_go K)) := T.glo 25
theorem sc_devices_go : FnScope sc_devices_go_N ["memory"] (defScope s_devices_go) := ⟨rfl, rfl, rfl, by decide +kernel, rfl, by decide +kernel, by decide +kernel⟩
abbrev f_Memory_init (K : PySem.W.Frag) : Addr := He.fAd K ("Memory", some "__init__")
abbrev fd_Memory_init (K : PySem.W.Frag) : FuncData := fdO K ("Memory", some "__init__")
theorem Txt.fn_Memory_init (T : Txt K mg) : FnP K "__init__" "Memory.__init__" s_Memory_init (f_Memory_init K) (fd_Memory_init K) := T.fun_ 26
theorem Txt.kp_Memory_init (T : Txt K mg) : PySem.W.keepIn K (.ref (f_Memory_init K)) = true := T.fn_Memory_init.kp
theorem Txt.bd_Memory_init (T : Txt K mg) : Binds K (fd_Memory_init K) ["self"] [] := T.fn_Memory_init.bindsN fun _ _ _ _ _ _ us hl => match us, hl with | [_], _ => rfl
theorem sc_Memory_init : FnScope sc_Memory_init_N ["self"] (defScope s_Memory_init) := ⟨rfl, rfl, rfl, by decide +kernel, rfl, by decide +kernel, by decide +kernel⟩
abbrev f_Memory_word (K : PySem.W.Frag) : Addr := He.fAd K ("Memory", some "word")
abbrev fd_Memory_word (K : PySem.W.Frag) : FuncData := fdO K ("Memory", some "word")
theorem Txt.fn_Memory_word (T : Txt K mg) : FnP K "word" "Memory.word" s_Memory_word (f_Memory_word K) (fd_Memory_word K) := T.fun_ 27
theorem Txt.kp_Memory_word (T : Txt K mg) : PySem.W.keepIn K (.ref (f_Memory_word K)) = true := T.fn_Memory_word.kp
theorem Txt.bd_Memory_word (T : Txt K mg) : Binds K (fd_Memory_word K) ["self", "frame", "place"] [] := T.fn_Memory_word.bindsN fun _ _ _ _ _ _ us hl => match us, hl with | [_, _, _], _ => rfl
theorem sc_Memory_word : FnScope sc_Memory_word_N ["self", "frame", "place"] (defScope s_Memory_word) := ⟨rfl, rfl, rfl, by decide +kernel, rfl, by decide +kernel, by decide +kernel⟩
abbrev f_Memory_put (K : PySem.W.Frag) : Addr := He.fAd K ("Memory", some "put")
abbrev fd_Memory_put (K : PySem.W.Frag) : FuncData := fdO K ("Memory", some "put")
theorem Txt.fn_Memory_put (T : Txt K mg) : FnP K "put" "Memory.put" s_Memory_put (f_Memory_put K) (fd_Memory_put K) := T.fun_ 28
theorem Txt.kp_Memory_put (T : Txt K mg) : PySem.W.keepIn K (.ref (f_Memory_put K)) = true := T.fn_Memory_put.kp
theorem Txt.bd_Memory_put (T : Txt K mg) : Binds K (fd_Memory_put K) ["self", "frame", "place", "word"] [] := T.fn_Memory_put.bindsN fun _ _ _ _ _ _ us hl => match us, hl with | [_, _, _, _], _ => rfl
theorem sc_Memory_put : FnScope sc_Memory_put_N ["self", "frame", "place", "word"] (defScope s_Memory_put) := ⟨rfl, rfl, rfl, by decide +kernel, rfl, by decide +kernel, by decide +kernel⟩
abbrev f_Machine_init (K : PySem.W.Frag) : Addr := He.fAd K ("Machine", some "__init__")
abbrev fd_Machine_init (K : PySem.W.Frag) : FuncData := fdO K ("Machine", some "__init__")
theorem Txt.fn_Machine_init (T : Txt K mg) : FnP K "__init__" "Machine.__init__" s_Machine_init (f_Machine_init K) (fd_Machine_init K) := T.fun_ 29
theorem Txt.kp_Machine_init (T : Txt K mg) : PySem.W.keepIn K (.ref (f_Machine_init K)) = true := T.fn_Machine_init.kp
theorem Txt.bd_Machine_init (T : Txt K mg) : Binds K (fd_Machine_init K) ["self", "memory", "most"] [] := T.fn_Machine_init.bindsN fun _ _ _ _ _ _ us hl => match us, hl with | [_, _, _], _ => rfl
theorem sc_Machine_init : FnScope sc_Machine_init_N ["self", "memory", "most"] (defScope s_Machine_init) := ⟨rfl, rfl, rfl, by decide +kernel, rfl, by decide +kernel, by decide +kernel⟩
abbrev f_Machine_entry (K : PySem.W.Frag) : Addr := He.fAd K ("Machine", some "_entry")
abbrev fd_Machine_entry (K : PySem.W.Frag) : FuncData := fdO K ("Machine", some "_entry")
theorem Txt.fn_Machine_entry (T : Txt K mg) : FnP K "_entry" "Machine._entry" s_Machine_entry (f_Machine_entry K) (fd_Machine_entry K) := T.fun_ 30
theorem Txt.kp_Machine_entry (T : Txt K mg) : PySem.W.keepIn K (.ref (f_Machine_entry K)) = true := T.fn_Machine_entry.kp
theorem Txt.bd_Machine_entry (T : Txt K mg) : Binds K (fd_Machine_entry K) ["self", "table", "page"] [] := T.fn_Machine_entry.bindsN fun _ _ _ _ _ _ us hl => match us, hl with | [_, _, _], _ => rfl
theorem sc_Machine_entry : FnScope sc_Machine_entry_N ["self", "table", "page"] (defScope s_Machine_entry) := ⟨rfl, rfl, rfl, by decide +kernel, rfl, by decide +kernel, by decide +kernel⟩
abbrev f_Machine_place_of (K : PySem.W.Frag) : Addr := He.fAd K ("Machine", some "place_of")
abbrev fd_Machine_place_of (K : PySem.W.Frag) : FuncData := fdO K ("Machine", some "place_of")
theorem Txt.fn_Machine_place_of (T : Txt K mg) : FnP K "place_of" "Machine.place_of" s_Machine_place_of (f_Machine_place_of K) (fd_Machine_place_of K) := T.fun_ 31
theorem Txt.kp_Machine_place_of (T : Txt K mg) : PySem.W.keepIn K (.ref (f_Machine_place_of K)) = true := T.fn_Machine_place_of.kp
theorem Txt.bd_Machine_place_of (T : Txt K mg) : Binds K (fd_Machine_place_of K) ["self", "thread", "address", "right"] [] := T.fn_Machine_place_of.bindsN fun _ _ _ _ _ _ us hl => match us, hl with | [_, _, _, _], _ => rfl
theorem sc_Machine_place_of : FnScope sc_Machine_place_of_N ["self", "thread", "address", "right"] (defScope s_Machine_place_of) := ⟨rfl, rfl, rfl, by decide +kernel, rfl, by decide +kernel, by decide +kernel⟩
abbrev f_Machine_forget (K : PySem.W.Frag) : Addr := He.fAd K ("Machine", some "forget")
abbrev fd_Machine_forget (K : PySem.W.Frag) : FuncData := fdO K ("Machine", some "forget")
theorem Txt.fn_Machine_forget (T : Txt K mg) : FnP K "forget" "Machine.forget" s_Machine_forget (f_Machine_forget K) (fd_Machine_forget K) := T.fun_ 32
theorem Txt.kp_Machine_forget (T : Txt K mg) : PySem.W.keepIn K (.ref (f_Machine_forget K)) = true := T.fn_Machine_forget.kp
theorem Txt.bd_Machine_forget (T : Txt K mg) : Binds K (fd_Machine_forget K) ["self"] [] := T.fn_Machine_forget.bindsN fun _ _ _ _ _ _ us hl => match us, hl with | [_], _ => rfl
theorem sc_Machine_forget : FnScope sc_Machine_forget_N ["self"] (defScope s_Machine_forget) := ⟨rfl, rfl, rfl, by decide +kernel, rfl, by decide +kernel, by decide +kernel⟩
abbrev f_Machine_tick (K : PySem.W.Frag) : Addr := He.fAd K ("Machine", some "tick")
abbrev fd_Machine_tick (K : PySem.W.Frag) : FuncData := fdO K ("Machine", some "tick")
theorem Txt.fn_Machine_tick (T : Txt K mg) : FnP K "tick" "Machine.tick" s_Machine_tick (f_Machine_tick K) (fd_Machine_tick K) := T.fun_ 33
theorem Txt.kp_Machine_tick (T : Txt K mg) : PySem.W.keepIn K (.ref (f_Machine_tick K)) = true := T.fn_Machine_tick.kp
theorem Txt.bd_Machine_tick (T : Txt K mg) : Binds K (fd_Machine_tick K) ["self"] [] := T.fn_Machine_tick.bindsN fun _ _ _ _ _ _ us hl => match us, hl with | [_], _ => rfl
theorem sc_Machine_tick : FnScope sc_Machine_tick_N ["self"] (defScope s_Machine_tick) := ⟨rfl, rfl, rfl, by decide +kernel, rfl, by decide +kernel, by decide +kernel⟩
abbrev f_Machine_step (K : PySem.W.Frag) : Addr := He.fAd K ("Machine", some "step")
abbrev fd_Machine_step (K : PySem.W.Frag) : FuncData := fdO K ("Machine", some "step")
theorem Txt.fn_Machine_step (T : Txt K mg) : FnP K "step" "Machine.step" s_Machine_step (f_Machine_step K) (fd_Machine_step K) := T.fun_ 34
theorem Txt.kp_Machine_step (T : Txt K mg) : PySem.W.keepIn K (.ref (f_Machine_step K)) = true := T.fn_Machine_step.kp
theorem Txt.bd_Machine_step (T : Txt K mg) : Binds K (fd_Machine_step K) ["self", "thread"] [] := T.fn_Machine_step.bindsN fun _ _ _ _ _ _ us hl => match us, hl with | [_, _], _ => rfl
theorem sc_Machine_step : FnScope sc_Machine_step_N ["self", "thread"] (defScope s_Machine_step) := ⟨rfl, rfl, rfl, by decide +kernel, rfl, by decide +kernel, by decide +kernel⟩
abbrev f_reckoned (K : PySem.W.Frag) : Addr := He.fAd K ("reckoned", none)
abbrev fd_reckoned (K : PySem.W.Frag) : FuncData := fdO K ("reckoned", none)
theorem Txt.fn_reckoned (T : Txt K mg) : FnP K "reckoned" "reckoned" s_reckoned (f_reckoned K) (fd_reckoned K) := T.fun_ 35
theorem Txt.kp_reckoned (T : Txt K mg) : PySem.W.keepIn K (.ref (f_reckoned K)) = true := T.fn_reckoned.kp
theorem Txt.bd_reckoned (T : Txt K mg) : Binds K (fd_reckoned K) ["op", "one", "other"] [] := T.fn_reckoned.bindsN fun _ _ _ _ _ _ us hl => match us, hl with | [_, _, _], _ => rfl
theorem Txt.glo_reckoned (T : Txt K mg) : mg "reckoned" = some (.ref (f_reckoned K)) := T.glo 26
theorem sc_reckoned : FnScope sc_reckoned_N ["op", "one", "other"] (defScope s_reckoned) := ⟨rfl, rfl, rfl, by decide +kernel, rfl, by decide +kernel, by decide +kernel⟩
abbrev f_booted (K : PySem.W.Frag) : Addr := He.fAd K ("booted", none)
abbrev fd_booted (K : PySem.W.Frag) : FuncData := fdO K ("booted", none)
theorem Txt.fn_booted (T : Txt K mg) : FnP K "booted" "booted" s_booted (f_booted K) (fd_booted K) := T.fun_ 36
theorem Txt.kp_booted (T : Txt K mg) : PySem.W.keepIn K (.ref (f_booted K)) = true := T.fn_booted.kp
theorem Txt.bd_booted (T : Txt K mg) : Binds K (fd_booted K) ["plan", "parts", "links", "lines"] [] := T.fn_booted.bindsN fun _ _ _ _ _ _ us hl => match us, hl with | [_, _, _, _], _ => rfl
theorem Txt.glo_booted (T : Txt K mg) : mg "booted" = some (.ref (f_booted K)) := T.glo 27
theorem sc_booted : FnScope sc_booted_N ["plan", "parts", "links", "lines"] (defScope s_booted) := ⟨rfl, rfl, rfl, by decide +kernel, rfl, by decide +kernel, by decide +kernel⟩
abbrev f_begin_part (K : PySem.W.Frag) : Addr := He.fAd K ("begin_part", none)
abbrev fd_begin_part (K : PySem.W.Frag) : FuncData := fdO K ("begin_part", none)
theorem Txt.fn_begin_part (T : Txt K mg) : FnP K "begin_part" "begin_part" s_begin_part (f_begin_part K) (fd_begin_part K) := T.fun_ 37
theorem Txt.kp_begin_part (T : Txt K mg) : PySem.W.keepIn K (.ref (f_begin_part K)) = true := T.fn_begin_part.kp
theorem Txt.bd_begin_part (T : Txt K mg) : Binds K (fd_begin_part K) ["memory", "frame", "part"] [] := T.fn_begin_part.bindsN fun _ _ _ _ _ _ us hl => match us, hl with | [_, _, _], _ => rfl
theorem Txt.glo_begin_part (T : Txt K mg) : mg "begin_part" = some (.ref (f_begin_part K)) := T.glo 28
theorem sc_begin_part : FnScope sc_begin_part_N ["memory", "frame", "part"] (defScope s_begin_part) := ⟨rfl, rfl, rfl, by decide +kernel, rfl, by decide +kernel, by decide +kernel⟩
abbrev f_law_tape (K : PySem.W.Frag) : Addr := He.fAd K ("_law_tape", none)
abbrev fd_law_tape (K : PySem.W.Frag) : FuncData := fdO K ("_law_tape", none)
theorem Txt.fn_law_tape (T : Txt K mg) : FnP K "_law_tape" "_law_tape" s_law_tape (f_law_tape K) (fd_law_tape K) := T.fun_ 38
theorem Txt.kp_law_tape (T : Txt K mg) : PySem.W.keepIn K (.ref (f_law_tape K)) = true := T.fn_law_tape.kp
theorem Txt.bd_law_tape (T : Txt K mg) : Binds K (fd_law_tape K) ["script"] [] := T.fn_law_tape.bindsN fun _ _ _ _ _ _ us hl => match us, hl with | [_], _ => rfl
theorem Txt.glo_law_tape (T : Txt K mg) : mg "_law_tape" = some (.ref (f_law_tape K)) := T.glo 29
theorem sc_law_tape : FnScope sc_law_tape_N ["script"] (defScope s_law_tape) := ⟨rfl, rfl, rfl, by decide +kernel, rfl, by decide +kernel, by decide +kernel⟩
abbrev f_law_take (K : PySem.W.Frag) : Addr := He.fAd K ("_law_take", none)
abbrev fd_law_take (K : PySem.W.Frag) : FuncData := fdO K ("_law_take", none)
theorem Txt.fn_law_take (T : Txt K mg) : FnP K "_law_take" "_law_take" s_law_take (f_law_take K) (fd_law_take K) := T.fun_ 39
theorem Txt.kp_law_take (T : Txt K mg) : PySem.W.keepIn K (.ref (f_law_take K)) = true := T.fn_law_take.kp
theorem Txt.bd_law_take (T : Txt K mg) : Binds K (fd_law_take K) ["tape", "many"] [] := T.fn_law_take.bindsN fun _ _ _ _ _ _ us hl => match us, hl with | [_, _], _ => rfl
theorem Txt.glo_law_take (T : Txt K mg) : mg "_law_take" = some (.ref (f_law_take K)) := T.glo 30
theorem sc_law_take : FnScope sc_law_take_N ["tape", "many"] (defScope s_law_take) := ⟨rfl, rfl, rfl, by decide +kernel, rfl, by decide +kernel, by decide +kernel⟩
abbrev f_law (K : PySem.W.Frag) : Addr := He.fAd K ("law", none)
abbrev fd_law (K : PySem.W.Frag) : FuncData := fdO K ("law", none)
theorem Txt.fn_law (T : Txt K mg) : FnP K "law" "law" s_law (f_law K) (fd_law K) := T.fun_ 40
theorem Txt.kp_law (T : Txt K mg) : PySem.W.keepIn K (.ref (f_law K)) = true := T.fn_law.kp
theorem Txt.bd_law (T : Txt K mg) : Binds K (fd_law K) ["script"] [] := T.fn_law.bindsN fun _ _ _ _ _ _ us hl => match us, hl with | [_], _ => rfl
theorem Txt.glo_law (T : Txt K mg) : mg "law" = some (.ref (f_law K)) := T.glo 31
theorem sc_law : FnScope sc_law_N ["script"] (defScope s_law) := ⟨rfl, rfl, rfl, by decide +kernel, rfl, by decide +kernel, by decide +kernel⟩
theorem Txt.glo_Memory (T : Txt K mg) : mg "Memory" = some (.ref (He.ga K "Memory")) := T.glo 32
theorem Txt.cl_Memory (T : Txt K mg) : Cls K (He.ga K "Memory") := He.cls_ok (T.fact 33)
theorem Txt.mk_Memory (T : Txt K mg) : Mk K (He.ga K "Memory") (He.ma K (He.ga K "Memory") "__init__") := He.mkr_ok (T.fact 34)
theorem Txt.no_Memory_words (T : Txt K mg) : NoAttr K (He.ga K "Memory") "_words" := He.noat_ok (T.fact 35)
theorem Txt.no_Memory_disks (T : Txt K mg) : NoAttr K (He.ga K "Memory") "_disks" := He.noat_ok (T.fact 36)
theorem Txt.mt_Memory_word (T : Txt K mg) : Meth K (He.ga K "Memory") "word" (He.ma K (He.ga K "Memory") "word") := He.meth_ok (T.fact 37)
theorem Txt.mt_Memory_put (T : Txt K mg) : Meth K (He.ga K "Memory") "put" (He.ma K (He.ga K "Memory") "put") := He.meth_ok (T.fact 38)
theorem Txt.mt_Memory_clear (T : Txt K mg) : Meth K (He.ga K "Memory") "clear" (He.ma K (He.ga K "Memory") "clear") := He.meth_ok (T.fact 39)
theorem Txt.mt_Memory_frame (T : Txt K mg) : Meth K (He.ga K "Memory") "frame" (He.ma K (He.ga K "Memory") "frame") := He.meth_ok (T.fact 40)
theorem Txt.mt_Memory_words (T : Txt K mg) : Meth K (He.ga K "Memory") "words" (He.ma K (He.ga K "Memory") "words") := He.meth_ok (T.fact 41)
theorem Txt.mt_Memory_lay_disk (T : Txt K mg) : Meth K (He.ga K "Memory") "lay_disk" (He.ma K (He.ga K "Memory") "lay_disk") := He.meth_ok (T.fact 42)
theorem Txt.mt_Memory_disk (T : Txt K mg) : Meth K (He.ga K "Memory") "disk" (He.ma K (He.ga K "Memory") "disk") := He.meth_ok (T.fact 43)
theorem Txt.mt_Memory_laid (T : Txt K mg) : Meth K (He.ga K "Memory") "laid" (He.ma K (He.ga K "Memory") "laid") := He.meth_ok (T.fact 44)
theorem Txt.mt_Memory_put_sector (T : Txt K mg) : Meth K (He.ga K "Memory") "put_sector" (He.ma K (He.ga K "Memory") "put_sector") := He.meth_ok (T.fact 45)
theorem Txt.mt_Memory_load (T : Txt K mg) : Meth K (He.ga K "Memory") "load" (He.ma K (He.ga K "Memory") "load") := He.meth_ok (T.fact 46)
theorem Txt.glo_Machine (T : Txt K mg) : mg "Machine" = some (.ref (He.ga K "Machine")) := T.glo 47
theorem Txt.cl_Machine (T : Txt K mg) : Cls K (He.ga K "Machine") := He.cls_ok (T.fact 48)
theorem Txt.mk_Machine (T : Txt K mg) : Mk K (He.ga K "Machine") (He.ma K (He.ga K "Machine") "__init__") := He.mkr_ok (T.fact 49)
theorem Txt.no_Machine_memory (T : Txt K mg) : NoAttr K (He.ga K "Machine") "_memory" := He.noat_ok (T.fact 50)
theorem Txt.no_Machine_most (T : Txt K mg) : NoAttr K (He.ga K "Machine") "_most" := He.noat_ok (T.fact 51)
theorem Txt.no_Machine_kept (T : Txt K mg) : NoAttr K (He.ga K "Machine") "_kept" := He.noat_ok (T.fact 52)
theorem Txt.no_Machine_counts (T : Txt K mg) : NoAttr K (He.ga K "Machine") "_counts" := He.noat_ok (T.fact 53)
theorem Txt.mt_Machine_memory (T : Txt K mg) : Meth K (He.ga K "Machine") "memory" (He.ma K (He.ga K "Machine") "memory") := He.meth_ok (T.fact 54)
theorem Txt.mt_Machine_lookups (T : Txt K mg) : Meth K (He.ga K "Machine") "lookups" (He.ma K (He.ga K "Machine") "lookups") := He.meth_ok (T.fact 55)
theorem Txt.mt_Machine_counts (T : Txt K mg) : Meth K (He.ga K "Machine") "counts" (He.ma K (He.ga K "Machine") "counts") := He.meth_ok (T.fact 56)
theorem Txt.mt_Machine_entry (T : Txt K mg) : Meth K (He.ga K "Machine") "_entry" (He.ma K (He.ga K "Machine") "_entry") := He.meth_ok (T.fact 57)
theorem Txt.mt_Machine_place_of (T : Txt K mg) : Meth K (He.ga K "Machine") "place_of" (He.ma K (He.ga K "Machine") "place_of") := He.meth_ok (T.fact 58)
theorem Txt.mt_Machine_forget (T : Txt K mg) : Meth K (He.ga K "Machine") "forget" (He.ma K (He.ga K "Machine") "forget") := He.meth_ok (T.fact 59)
theorem Txt.mt_Machine_tick (T : Txt K mg) : Meth K (He.ga K "Machine") "tick" (He.ma K (He.ga K "Machine") "tick") := He.meth_ok (T.fact 60)
theorem Txt.mt_Machine_step (T : Txt K mg) : Meth K (He.ga K "Machine") "step" (He.ma K (He.ga K "Machine") "step") := He.meth_ok (T.fact 61)
theorem Txt.mt_Machine_run (T : Txt K mg) : Meth K (He.ga K "Machine") "run" (He.ma K (He.ga K "Machine") "run") := He.meth_ok (T.fact 62)
theorem Txt.mt_Machine_rise (T : Txt K mg) : Meth K (He.ga K "Machine") "rise" (He.ma K (He.ga K "Machine") "rise") := He.meth_ok (T.fact 63)
theorem Txt.mt_Machine_image (T : Txt K mg) : Meth K (He.ga K "Machine") "image" (He.ma K (He.ga K "Machine") "image") := He.meth_ok (T.fact 64)
theorem Txt.glo_NAMES (T : Txt K mg) : mg "NAMES" = some (.ref (He.ga K "NAMES")) := T.glo 65
theorem Txt.pg_NAMES {X : Cx} {pos : Pos} (T : Txt X.K X.mg) (hg : Gl X "NAMES" := by rfl) : PE X (.Name "NAMES" pos) (tC (.ref (He.ga X.K "NAMES"))) := pe_glob hg T.glo_NAMES rfl
theorem Txt.pgk_NAMES {X : Cx} {pos : Pos} (T : Txt K mg) (hK : X.K = K) (hm : X.mg = mg) (hg : Gl X "NAMES") : PE X (.Name "NAMES" pos) (tC (.ref (He.ga K "NAMES"))) := by
  subst hK hm
  exact pe_glob hg T.glo_NAMES rfl
abbrev v_NAMES : List V := [V.str "halt", V.str "set", V.str "add", V.str "sub", V.str "load", V.str "store", V.str "jump", V.str "zero", V.str "mul", V.str "less", V.str "trap", V.str "and"]
theorem Txt.glo_TRAPS (T : Txt K mg) : mg "TRAPS" = some (.ref (He.ga K "TRAPS")) := T.glo 66
theorem Txt.pg_TRAPS {X : Cx} {pos : Pos} (T : Txt X.K X.mg) (hg : Gl X "TRAPS" := by rfl) : PE X (.Name "TRAPS" pos) (tC (.ref (He.ga X.K "TRAPS"))) := pe_glob hg T.glo_TRAPS rfl
theorem Txt.pgk_TRAPS {X : Cx} {pos : Pos} (T : Txt K mg) (hK : X.K = K) (hm : X.mg = mg) (hg : Gl X "TRAPS") : PE X (.Name "TRAPS" pos) (tC (.ref (He.ga K "TRAPS"))) := by
  subst hK hm
  exact pe_glob hg T.glo_TRAPS rfl
abbrev v_TRAPS : List V := [V.str "yield", V.str "send", V.str "receive", V.str "call", V.str "reply", V.str "signal", V.str "wait", V.str "mint", V.str "move", V.str "revoke", V.str "delete", V.str "retype", V.str "map", V.str "unmap", V.str "bind", V.str "resume", V.str "suspend", V.str "registers", V.str "order", V.str "status"]
theorem Txt.pg_DIGITS {X : Cx} {pos : Pos} (T : Txt X.K X.mg) (hg : Gl X "DIGITS" := by rfl) : PE X (.Name "DIGITS" pos) (tC (.str "0123456789")) := by
  obtain ⟨t, e⟩ := T.str 67
  exact pe_glob hg e ⟨t, rfl⟩
theorem Txt.c_WORD (T : Txt K mg) : ∃ t, mg "WORD" = some (.int 65536 t) := T.int 68
theorem Txt.pg_WORD {X : Cx} {pos : Pos} (T : Txt X.K X.mg) (hg : Gl X "WORD" := by rfl) : PE X (.Name "WORD" pos) (tC (.int 65536)) := by
  obtain ⟨t, e⟩ := T.c_WORD
  exact pe_glob hg e ⟨t, rfl⟩
theorem Txt.c_FRAME (T : Txt K mg) : ∃ t, mg "FRAME" = some (.int 64 t) := T.int 69
theorem Txt.pg_FRAME {X : Cx} {pos : Pos} (T : Txt X.K X.mg) (hg : Gl X "FRAME" := by rfl) : PE X (.Name "FRAME" pos) (tC (.int 64)) := by
  obtain ⟨t, e⟩ := T.c_FRAME
  exact pe_glob hg e ⟨t, rfl⟩
theorem Txt.c_FRAMES (T : Txt K mg) : ∃ t, mg "FRAMES" = some (.int 32 t) := T.int 70
theorem Txt.pg_FRAMES {X : Cx} {pos : Pos} (T : Txt X.K X.mg) (hg : Gl X "FRAMES" := by rfl) : PE X (.Name "FRAMES" pos) (tC (.int 32)) := by
  obtain ⟨t, e⟩ := T.c_FRAMES
  exact pe_glob hg e ⟨t, rfl⟩
theorem Txt.c_SLOTS (T : Txt K mg) : ∃ t, mg "SLOTS" = some (.int 8 t) := T.int 71
theorem Txt.pg_SLOTS {X : Cx} {pos : Pos} (T : Txt X.K X.mg) (hg : Gl X "SLOTS" := by rfl) : PE X (.Name "SLOTS" pos) (tC (.int 8)) := by
  obtain ⟨t, e⟩ := T.c_SLOTS
  exact pe_glob hg e ⟨t, rfl⟩
theorem Txt.c_ENTRIES (T : Txt K mg) : ∃ t, mg "ENTRIES" = some (.int 8 t) := T.int 72
theorem Txt.pg_ENTRIES {X : Cx} {pos : Pos} (T : Txt X.K X.mg) (hg : Gl X "ENTRIES" := by rfl) : PE X (.Name "ENTRIES" pos) (tC (.int 8)) := by
  obtain ⟨t, e⟩ := T.c_ENTRIES
  exact pe_glob hg e ⟨t, rfl⟩
theorem Txt.c_PRIORITIES (T : Txt K mg) : ∃ t, mg "PRIORITIES" = some (.int 4 t) := T.int 73
theorem Txt.pg_PRIORITIES {X : Cx} {pos : Pos} (T : Txt X.K X.mg) (hg : Gl X "PRIORITIES" := by rfl) : PE X (.Name "PRIORITIES" pos) (tC (.int 4)) := by
  obtain ⟨t, e⟩ := T.c_PRIORITIES
  exact pe_glob hg e ⟨t, rfl⟩
theorem Txt.c_DOMAINS (T : Txt K mg) : ∃ t, mg "DOMAINS" = some (.int 2 t) := T.int 74
theorem Txt.pg_DOMAINS {X : Cx} {pos : Pos} (T : Txt X.K X.mg) (hg : Gl X "DOMAINS" := by rfl) : PE X (.Name "DOMAINS" pos) (tC (.int 2)) := by
  obtain ⟨t, e⟩ := T.c_DOMAINS
  exact pe_glob hg e ⟨t, rfl⟩
theorem Txt.c_LINES (T : Txt K mg) : ∃ t, mg "LINES" = some (.int 4 t) := T.int 75
theorem Txt.pg_LINES {X : Cx} {pos : Pos} (T : Txt X.K X.mg) (hg : Gl X "LINES" := by rfl) : PE X (.Name "LINES" pos) (tC (.int 4)) := by
  obtain ⟨t, e⟩ := T.c_LINES
  exact pe_glob hg e ⟨t, rfl⟩
theorem Txt.c_PARTS (T : Txt K mg) : ∃ t, mg "PARTS" = some (.int 4 t) := T.int 76
theorem Txt.pg_PARTS {X : Cx} {pos : Pos} (T : Txt X.K X.mg) (hg : Gl X "PARTS" := by rfl) : PE X (.Name "PARTS" pos) (tC (.int 4)) := by
  obtain ⟨t, e⟩ := T.c_PARTS
  exact pe_glob hg e ⟨t, rfl⟩
theorem Txt.c_FREE (T : Txt K mg) : ∃ t, mg "FREE" = some (.int 0 t) := T.int 77
theorem Txt.pg_FREE {X : Cx} {pos : Pos} (T : Txt X.K X.mg) (hg : Gl X "FREE" := by rfl) : PE X (.Name "FREE" pos) (tC (.int 0)) := by
  obtain ⟨t, e⟩ := T.c_FREE
  exact pe_glob hg e ⟨t, rfl⟩
theorem Txt.c_UNTYPED (T : Txt K mg) : ∃ t, mg "UNTYPED" = some (.int 1 t) := T.int 78
theorem Txt.pg_UNTYPED {X : Cx} {pos : Pos} (T : Txt X.K X.mg) (hg : Gl X "UNTYPED" := by rfl) : PE X (.Name "UNTYPED" pos) (tC (.int 1)) := by
  obtain ⟨t, e⟩ := T.c_UNTYPED
  exact pe_glob hg e ⟨t, rfl⟩
theorem Txt.c_PAGE (T : Txt K mg) : ∃ t, mg "PAGE" = some (.int 2 t) := T.int 79
theorem Txt.pg_PAGE {X : Cx} {pos : Pos} (T : Txt X.K X.mg) (hg : Gl X "PAGE" := by rfl) : PE X (.Name "PAGE" pos) (tC (.int 2)) := by
  obtain ⟨t, e⟩ := T.c_PAGE
  exact pe_glob hg e ⟨t, rfl⟩
theorem Txt.c_TABLE (T : Txt K mg) : ∃ t, mg "TABLE" = some (.int 3 t) := T.int 80
theorem Txt.pg_TABLE {X : Cx} {pos : Pos} (T : Txt X.K X.mg) (hg : Gl X "TABLE" := by rfl) : PE X (.Name "TABLE" pos) (tC (.int 3)) := by
  obtain ⟨t, e⟩ := T.c_TABLE
  exact pe_glob hg e ⟨t, rfl⟩
theorem Txt.c_CAPS (T : Txt K mg) : ∃ t, mg "CAPS" = some (.int 4 t) := T.int 81
theorem Txt.pg_CAPS {X : Cx} {pos : Pos} (T : Txt X.K X.mg) (hg : Gl X "CAPS" := by rfl) : PE X (.Name "CAPS" pos) (tC (.int 4)) := by
  obtain ⟨t, e⟩ := T.c_CAPS
  exact pe_glob hg e ⟨t, rfl⟩
theorem Txt.c_THREAD (T : Txt K mg) : ∃ t, mg "THREAD" = some (.int 5 t) := T.int 82
theorem Txt.pg_THREAD {X : Cx} {pos : Pos} (T : Txt X.K X.mg) (hg : Gl X "THREAD" := by rfl) : PE X (.Name "THREAD" pos) (tC (.int 5)) := by
  obtain ⟨t, e⟩ := T.c_THREAD
  exact pe_glob hg e ⟨t, rfl⟩
theorem Txt.c_END (T : Txt K mg) : ∃ t, mg "END" = some (.int 6 t) := T.int 83
theorem Txt.pg_END {X : Cx} {pos : Pos} (T : Txt X.K X.mg) (hg : Gl X "END" := by rfl) : PE X (.Name "END" pos) (tC (.int 6)) := by
  obtain ⟨t, e⟩ := T.c_END
  exact pe_glob hg e ⟨t, rfl⟩
theorem Txt.c_NOTICE (T : Txt K mg) : ∃ t, mg "NOTICE" = some (.int 7 t) := T.int 84
theorem Txt.pg_NOTICE {X : Cx} {pos : Pos} (T : Txt X.K X.mg) (hg : Gl X "NOTICE" := by rfl) : PE X (.Name "NOTICE" pos) (tC (.int 7)) := by
  obtain ⟨t, e⟩ := T.c_NOTICE
  exact pe_glob hg e ⟨t, rfl⟩
theorem Txt.c_DEVICE (T : Txt K mg) : ∃ t, mg "DEVICE" = some (.int 8 t) := T.int 85
theorem Txt.pg_DEVICE {X : Cx} {pos : Pos} (T : Txt X.K X.mg) (hg : Gl X "DEVICE" := by rfl) : PE X (.Name "DEVICE" pos) (tC (.int 8)) := by
  obtain ⟨t, e⟩ := T.c_DEVICE
  exact pe_glob hg e ⟨t, rfl⟩
theorem Txt.c_READ (T : Txt K mg) : ∃ t, mg "READ" = some (.int 1 t) := T.int 86
theorem Txt.pg_READ {X : Cx} {pos : Pos} (T : Txt X.K X.mg) (hg : Gl X "READ" := by rfl) : PE X (.Name "READ" pos) (tC (.int 1)) := by
  obtain ⟨t, e⟩ := T.c_READ
  exact pe_glob hg e ⟨t, rfl⟩
theorem Txt.c_WRITE (T : Txt K mg) : ∃ t, mg "WRITE" = some (.int 2 t) := T.int 87
theorem Txt.pg_WRITE {X : Cx} {pos : Pos} (T : Txt X.K X.mg) (hg : Gl X "WRITE" := by rfl) : PE X (.Name "WRITE" pos) (tC (.int 2)) := by
  obtain ⟨t, e⟩ := T.c_WRITE
  exact pe_glob hg e ⟨t, rfl⟩
theorem Txt.c_ALL (T : Txt K mg) : ∃ t, mg "ALL" = some (.int 7 t) := T.int 88
theorem Txt.pg_ALL {X : Cx} {pos : Pos} (T : Txt X.K X.mg) (hg : Gl X "ALL" := by rfl) : PE X (.Name "ALL" pos) (tC (.int 7)) := by
  obtain ⟨t, e⟩ := T.c_ALL
  exact pe_glob hg e ⟨t, rfl⟩
theorem Txt.c_READY (T : Txt K mg) : ∃ t, mg "READY" = some (.int 1 t) := T.int 89
theorem Txt.pg_READY {X : Cx} {pos : Pos} (T : Txt X.K X.mg) (hg : Gl X "READY" := by rfl) : PE X (.Name "READY" pos) (tC (.int 1)) := by
  obtain ⟨t, e⟩ := T.c_READY
  exact pe_glob hg e ⟨t, rfl⟩
theorem Txt.c_KERNEL (T : Txt K mg) : ∃ t, mg "KERNEL" = some (.int 0 t) := T.int 90
theorem Txt.pg_KERNEL {X : Cx} {pos : Pos} (T : Txt X.K X.mg) (hg : Gl X "KERNEL" := by rfl) : PE X (.Name "KERNEL" pos) (tC (.int 0)) := by
  obtain ⟨t, e⟩ := T.c_KERNEL
  exact pe_glob hg e ⟨t, rfl⟩
theorem Txt.c_KIND_FRAME (T : Txt K mg) : ∃ t, mg "KIND_FRAME" = some (.int 1 t) := T.int 91
theorem Txt.pg_KIND_FRAME {X : Cx} {pos : Pos} (T : Txt X.K X.mg) (hg : Gl X "KIND_FRAME" := by rfl) : PE X (.Name "KIND_FRAME" pos) (tC (.int 1)) := by
  obtain ⟨t, e⟩ := T.c_KIND_FRAME
  exact pe_glob hg e ⟨t, rfl⟩
theorem Txt.c_T_STATE (T : Txt K mg) : ∃ t, mg "T_STATE" = some (.int 0 t) := T.int 92
theorem Txt.pg_T_STATE {X : Cx} {pos : Pos} (T : Txt X.K X.mg) (hg : Gl X "T_STATE" := by rfl) : PE X (.Name "T_STATE" pos) (tC (.int 0)) := by
  obtain ⟨t, e⟩ := T.c_T_STATE
  exact pe_glob hg e ⟨t, rfl⟩
theorem Txt.c_T_PC (T : Txt K mg) : ∃ t, mg "T_PC" = some (.int 1 t) := T.int 93
theorem Txt.pg_T_PC {X : Cx} {pos : Pos} (T : Txt X.K X.mg) (hg : Gl X "T_PC" := by rfl) : PE X (.Name "T_PC" pos) (tC (.int 1)) := by
  obtain ⟨t, e⟩ := T.c_T_PC
  exact pe_glob hg e ⟨t, rfl⟩
theorem Txt.c_T_REGISTERS (T : Txt K mg) : ∃ t, mg "T_REGISTERS" = some (.int 2 t) := T.int 94
theorem Txt.pg_T_REGISTERS {X : Cx} {pos : Pos} (T : Txt X.K X.mg) (hg : Gl X "T_REGISTERS" := by rfl) : PE X (.Name "T_REGISTERS" pos) (tC (.int 2)) := by
  obtain ⟨t, e⟩ := T.c_T_REGISTERS
  exact pe_glob hg e ⟨t, rfl⟩
theorem Txt.c_T_CAPS (T : Txt K mg) : ∃ t, mg "T_CAPS" = some (.int 10 t) := T.int 95
theorem Txt.pg_T_CAPS {X : Cx} {pos : Pos} (T : Txt X.K X.mg) (hg : Gl X "T_CAPS" := by rfl) : PE X (.Name "T_CAPS" pos) (tC (.int 10)) := by
  obtain ⟨t, e⟩ := T.c_T_CAPS
  exact pe_glob hg e ⟨t, rfl⟩
theorem Txt.c_T_TABLE (T : Txt K mg) : ∃ t, mg "T_TABLE" = some (.int 11 t) := T.int 96
theorem Txt.pg_T_TABLE {X : Cx} {pos : Pos} (T : Txt X.K X.mg) (hg : Gl X "T_TABLE" := by rfl) : PE X (.Name "T_TABLE" pos) (tC (.int 11)) := by
  obtain ⟨t, e⟩ := T.c_T_TABLE
  exact pe_glob hg e ⟨t, rfl⟩
theorem Txt.c_T_PRIORITY (T : Txt K mg) : ∃ t, mg "T_PRIORITY" = some (.int 12 t) := T.int 97
theorem Txt.pg_T_PRIORITY {X : Cx} {pos : Pos} (T : Txt X.K X.mg) (hg : Gl X "T_PRIORITY" := by rfl) : PE X (.Name "T_PRIORITY" pos) (tC (.int 12)) := by
  obtain ⟨t, e⟩ := T.c_T_PRIORITY
  exact pe_glob hg e ⟨t, rfl⟩
theorem Txt.c_T_BUDGET (T : Txt K mg) : ∃ t, mg "T_BUDGET" = some (.int 13 t) := T.int 98
theorem Txt.pg_T_BUDGET {X : Cx} {pos : Pos} (T : Txt X.K X.mg) (hg : Gl X "T_BUDGET" := by rfl) : PE X (.Name "T_BUDGET" pos) (tC (.int 13)) := by
  obtain ⟨t, e⟩ := T.c_T_BUDGET
  exact pe_glob hg e ⟨t, rfl⟩
theorem Txt.c_T_LEFT (T : Txt K mg) : ∃ t, mg "T_LEFT" = some (.int 14 t) := T.int 99
theorem Txt.pg_T_LEFT {X : Cx} {pos : Pos} (T : Txt X.K X.mg) (hg : Gl X "T_LEFT" := by rfl) : PE X (.Name "T_LEFT" pos) (tC (.int 14)) := by
  obtain ⟨t, e⟩ := T.c_T_LEFT
  exact pe_glob hg e ⟨t, rfl⟩
theorem Txt.c_T_NEXT (T : Txt K mg) : ∃ t, mg "T_NEXT" = some (.int 15 t) := T.int 100
theorem Txt.pg_T_NEXT {X : Cx} {pos : Pos} (T : Txt X.K X.mg) (hg : Gl X "T_NEXT" := by rfl) : PE X (.Name "T_NEXT" pos) (tC (.int 15)) := by
  obtain ⟨t, e⟩ := T.c_T_NEXT
  exact pe_glob hg e ⟨t, rfl⟩
theorem Txt.c_T_DOMAIN (T : Txt K mg) : ∃ t, mg "T_DOMAIN" = some (.int 22 t) := T.int 101
theorem Txt.pg_T_DOMAIN {X : Cx} {pos : Pos} (T : Txt X.K X.mg) (hg : Gl X "T_DOMAIN" := by rfl) : PE X (.Name "T_DOMAIN" pos) (tC (.int 22)) := by
  obtain ⟨t, e⟩ := T.c_T_DOMAIN
  exact pe_glob hg e ⟨t, rfl⟩
theorem Txt.c_T_LENT (T : Txt K mg) : ∃ t, mg "T_LENT" = some (.int 24 t) := T.int 102
theorem Txt.pg_T_LENT {X : Cx} {pos : Pos} (T : Txt X.K X.mg) (hg : Gl X "T_LENT" := by rfl) : PE X (.Name "T_LENT" pos) (tC (.int 24)) := by
  obtain ⟨t, e⟩ := T.c_T_LENT
  exact pe_glob hg e ⟨t, rfl⟩
theorem Txt.c_GUARDED (T : Txt K mg) : ∃ t, mg "GUARDED" = some (.int 4 t) := T.int 103
theorem Txt.pg_GUARDED {X : Cx} {pos : Pos} (T : Txt X.K X.mg) (hg : Gl X "GUARDED" := by rfl) : PE X (.Name "GUARDED" pos) (tC (.int 4)) := by
  obtain ⟨t, e⟩ := T.c_GUARDED
  exact pe_glob hg e ⟨t, rfl⟩
theorem Txt.c_K_TIME (T : Txt K mg) : ∃ t, mg "K_TIME" = some (.int 0 t) := T.int 104
theorem Txt.pg_K_TIME {X : Cx} {pos : Pos} (T : Txt X.K X.mg) (hg : Gl X "K_TIME" := by rfl) : PE X (.Name "K_TIME" pos) (tC (.int 0)) := by
  obtain ⟨t, e⟩ := T.c_K_TIME
  exact pe_glob hg e ⟨t, rfl⟩
theorem Txt.c_K_PART (T : Txt K mg) : ∃ t, mg "K_PART" = some (.int 1 t) := T.int 105
theorem Txt.pg_K_PART {X : Cx} {pos : Pos} (T : Txt X.K X.mg) (hg : Gl X "K_PART" := by rfl) : PE X (.Name "K_PART" pos) (tC (.int 1)) := by
  obtain ⟨t, e⟩ := T.c_K_PART
  exact pe_glob hg e ⟨t, rfl⟩
theorem Txt.c_K_LEFT (T : Txt K mg) : ∃ t, mg "K_LEFT" = some (.int 2 t) := T.int 106
theorem Txt.pg_K_LEFT {X : Cx} {pos : Pos} (T : Txt X.K X.mg) (hg : Gl X "K_LEFT" := by rfl) : PE X (.Name "K_LEFT" pos) (tC (.int 2)) := by
  obtain ⟨t, e⟩ := T.c_K_LEFT
  exact pe_glob hg e ⟨t, rfl⟩
theorem Txt.c_K_HEADS (T : Txt K mg) : ∃ t, mg "K_HEADS" = some (.int 4 t) := T.int 107
theorem Txt.pg_K_HEADS {X : Cx} {pos : Pos} (T : Txt X.K X.mg) (hg : Gl X "K_HEADS" := by rfl) : PE X (.Name "K_HEADS" pos) (tC (.int 4)) := by
  obtain ⟨t, e⟩ := T.c_K_HEADS
  exact pe_glob hg e ⟨t, rfl⟩
theorem Txt.c_K_TAILS (T : Txt K mg) : ∃ t, mg "K_TAILS" = some (.int 12 t) := T.int 108
theorem Txt.pg_K_TAILS {X : Cx} {pos : Pos} (T : Txt X.K X.mg) (hg : Gl X "K_TAILS" := by rfl) : PE X (.Name "K_TAILS" pos) (tC (.int 12)) := by
  obtain ⟨t, e⟩ := T.c_K_TAILS
  exact pe_glob hg e ⟨t, rfl⟩
theorem Txt.c_K_LINES (T : Txt K mg) : ∃ t, mg "K_LINES" = some (.int 20 t) := T.int 109
theorem Txt.pg_K_LINES {X : Cx} {pos : Pos} (T : Txt X.K X.mg) (hg : Gl X "K_LINES" := by rfl) : PE X (.Name "K_LINES" pos) (tC (.int 20)) := by
  obtain ⟨t, e⟩ := T.c_K_LINES
  exact pe_glob hg e ⟨t, rfl⟩
theorem Txt.c_K_PLAN (T : Txt K mg) : ∃ t, mg "K_PLAN" = some (.int 24 t) := T.int 110
theorem Txt.pg_K_PLAN {X : Cx} {pos : Pos} (T : Txt X.K X.mg) (hg : Gl X "K_PLAN" := by rfl) : PE X (.Name "K_PLAN" pos) (tC (.int 24)) := by
  obtain ⟨t, e⟩ := T.c_K_PLAN
  exact pe_glob hg e ⟨t, rfl⟩
theorem Txt.c_OK (T : Txt K mg) : ∃ t, mg "OK" = some (.int 0 t) := T.int 111
theorem Txt.pg_OK {X : Cx} {pos : Pos} (T : Txt X.K X.mg) (hg : Gl X "OK" := by rfl) : PE X (.Name "OK" pos) (tC (.int 0)) := by
  obtain ⟨t, e⟩ := T.c_OK
  exact pe_glob hg e ⟨t, rfl⟩
theorem Txt.c_BAD_CODE (T : Txt K mg) : ∃ t, mg "BAD_CODE" = some (.int 1 t) := T.int 112
theorem Txt.pg_BAD_CODE {X : Cx} {pos : Pos} (T : Txt X.K X.mg) (hg : Gl X "BAD_CODE" := by rfl) : PE X (.Name "BAD_CODE" pos) (tC (.int 1)) := by
  obtain ⟨t, e⟩ := T.c_BAD_CODE
  exact pe_glob hg e ⟨t, rfl⟩
theorem Txt.c_BAD_PLACE (T : Txt K mg) : ∃ t, mg "BAD_PLACE" = some (.int 2 t) := T.int 113
theorem Txt.pg_BAD_PLACE {X : Cx} {pos : Pos} (T : Txt X.K X.mg) (hg : Gl X "BAD_PLACE" := by rfl) : PE X (.Name "BAD_PLACE" pos) (tC (.int 2)) := by
  obtain ⟨t, e⟩ := T.c_BAD_PLACE
  exact pe_glob hg e ⟨t, rfl⟩
theorem Txt.c_BAD_TRAP (T : Txt K mg) : ∃ t, mg "BAD_TRAP" = some (.int 3 t) := T.int 114
theorem Txt.pg_BAD_TRAP {X : Cx} {pos : Pos} (T : Txt X.K X.mg) (hg : Gl X "BAD_TRAP" := by rfl) : PE X (.Name "BAD_TRAP" pos) (tC (.int 3)) := by
  obtain ⟨t, e⟩ := T.c_BAD_TRAP
  exact pe_glob hg e ⟨t, rfl⟩
theorem Txt.glo_CHANGING (T : Txt K mg) : mg "CHANGING" = some (.ref (He.ga K "CHANGING")) := T.glo 115
theorem Txt.pg_CHANGING {X : Cx} {pos : Pos} (T : Txt X.K X.mg) (hg : Gl X "CHANGING" := by rfl) : PE X (.Name "CHANGING" pos) (tC (.ref (He.ga X.K "CHANGING"))) := pe_glob hg T.glo_CHANGING rfl
theorem Txt.pgk_CHANGING {X : Cx} {pos : Pos} (T : Txt K mg) (hK : X.K = K) (hm : X.mg = mg) (hg : Gl X "CHANGING") : PE X (.Name "CHANGING" pos) (tC (.ref (He.ga K "CHANGING"))) := by
  subst hK hm
  exact pe_glob hg T.glo_CHANGING rfl
abbrev v_CHANGING : List V := [V.int 8, V.int 9, V.int 10, V.int 12, V.int 13]
theorem Txt.c_EACH (T : Txt K mg) : ∃ t, mg "EACH" = some (.int 5 t) := T.int 116
theorem Txt.pg_EACH {X : Cx} {pos : Pos} (T : Txt X.K X.mg) (hg : Gl X "EACH" := by rfl) : PE X (.Name "EACH" pos) (tC (.int 5)) := by
  obtain ⟨t, e⟩ := T.c_EACH
  exact pe_glob hg e ⟨t, rfl⟩
theorem tyv_of {K : PySem.W.Frag} {x : Str} (h : (match K.lookup (He.ga K x) with | some o => o.dict.isNone && decide (o.cls = .type "tuple") | none => false) = true) (H : Hp) : tyV K "tuple" (.ref (He.ga K x)) H := by
  cases e : K.lookup (He.ga K x) with
  | none => rw [e] at h; cases h
  | some o =>
    rw [e] at h
    obtain ⟨h1, h2⟩ := He.ba h
    exact Or.inr (Or.inl ⟨rfl, o, e, of_decide_eq_true h2, Option.isNone_iff_eq_none.mp h1⟩)
theorem Txt.tup_NAMES (T : Txt K mg) (H : Hp) : SqT K H (He.ga K "NAMES") v_NAMES := He.tupB_ok (He.ba (T.exi 0 rfl : tupB2 K "NAMES" _ = true)).1 H
theorem Txt.ty_NAMES (T : Txt K mg) (H : Hp) : tyV K "tuple" (.ref (He.ga K "NAMES")) H := tyv_of (He.ba (T.exi 0 rfl : tupB2 K "NAMES" _ = true)).2 H
theorem Txt.tup_TRAPS (T : Txt K mg) (H : Hp) : SqT K H (He.ga K "TRAPS") v_TRAPS := He.tupB_ok (He.ba (T.exi 1 rfl : tupB2 K "TRAPS" _ = true)).1 H
theorem Txt.ty_TRAPS (T : Txt K mg) (H : Hp) : tyV K "tuple" (.ref (He.ga K "TRAPS")) H := tyv_of (He.ba (T.exi 1 rfl : tupB2 K "TRAPS" _ = true)).2 H
theorem Txt.tup_CHANGING (T : Txt K mg) (H : Hp) : SqT K H (He.ga K "CHANGING") v_CHANGING := He.tupB_ok (He.ba (T.exi 2 rfl : tupB2 K "CHANGING" _ = true)).1 H
theorem Txt.ty_CHANGING (T : Txt K mg) (H : Hp) : tyV K "tuple" (.ref (He.ga K "CHANGING")) H := tyv_of (He.ba (T.exi 2 rfl : tupB2 K "CHANGING" _ = true)).2 H
theorem Txt.free_abs (T : Txt K mg) : mg "abs" = none := T.free_at 117 rfl
theorem Txt.free_all (T : Txt K mg) : mg "all" = none := T.free_at 118 rfl
theorem Txt.free_enumerate (T : Txt K mg) : mg "enumerate" = none := T.free_at 119 rfl
theorem Txt.free_int (T : Txt K mg) : mg "int" = none := T.free_at 120 rfl
theorem Txt.free_len (T : Txt K mg) : mg "len" = none := T.free_at 121 rfl
theorem Txt.free_list (T : Txt K mg) : mg "list" = none := T.free_at 122 rfl
theorem Txt.free_max (T : Txt K mg) : mg "max" = none := T.free_at 123 rfl
theorem Txt.free_min (T : Txt K mg) : mg "min" = none := T.free_at 124 rfl
theorem Txt.free_range (T : Txt K mg) : mg "range" = none := T.free_at 125 rfl
theorem Txt.free_str (T : Txt K mg) : mg "str" = none := T.free_at 126 rfl
theorem Txt.free_sum (T : Txt K mg) : mg "sum" = none := T.free_at 127 rfl
theorem Txt.free_tuple (T : Txt K mg) : mg "tuple" = none := T.free_at 128 rfl
theorem Txt.free_zip (T : Txt K mg) : mg "zip" = none := T.free_at 129 rfl
end
/-! ### rules whose readings name the pieces' facts, for places within a comprehension or a try: there K must be said -/
section
variable {X : Cx} {K : PySem.W.Frag}
abbrev rLenK (K : PySem.W.Frag) : List V → Hp → VK → Prop := fun xs H Q => ∃ x n, xs = [x] ∧ LenV K x H n ∧ Q (.int n) H
abbrev rJoinK (K : PySem.W.Frag) : V → List V → Hp → VK → Prop := fun x xs H Q => ∃ a p, ∃ ys : List Str, x = .str a ∧ xs = [.ref p] ∧ (SqL K H p (ys.map V.str) ∨ SqT K H p (ys.map V.str)) ∧ (ys.map (·.length)).sum + ys.length * a.length ≤ 16777216 ∧ Q (.str (Txt.join a ys)) H
abbrev rTupK (K : PySem.W.Frag) : List V → Hp → VK → Prop := fun xs H Q => ∃ p ys, xs = [.ref p] ∧ ((SqL K H p ys ∧ ∀ l, H l = none → Q (.ref l) (upd H l (.tup ys))) ∨ (SqT K H p ys ∧ Q (.ref p) H))
theorem pe_joinK {o e : Expr} {to te : TE} {apos pos : Pos} (hK : X.K = K) (ho : PE X o to) (he : PE X e te) (hs : starEach [e] X.env = [(false, eval e X.env)] := by rfl) (hbase : attributeBase o "join" X.env (eval o X.env) = eval o X.env := by rfl) (hline : (apos.endLine == pos.line) = true := by rfl) :
    PE X (.Call (.Attribute o "join" apos) [e] [] pos) (tM1 (rJoinK K) to te) := by
  subst hK
  exact pe_join ho he hs hbase hline
theorem pi_listK {l tg : Expr} {tl : TE} (hK : X.K = K) (hl : PE X l tl) : PI X tg l (iList K tl) := by
  subst hK
  exact pi_list hl
theorem pi_tupK {l tg : Expr} {tl : TE} (hK : X.K = K) (hl : PE X l tl) : PI X tg l (iTup K tl) := by
  subst hK
  exact pi_tup hl
end

end KA

namespace KA
open PySem PySem.Spec PyProof.Rows L2 Evl TL
theorem et_yes {σ : L2.St} {H : Hp} : EvT (fun _ H Q => Q true H) σ H true := fun H1 _ _ q => q H1 (Ex.refl H1)
theorem ev_pure {sp : Sp} {dvs vs : List V} {E : XK} {ta : TA} {z : V} {σ : L2.St} {H : Hp} (h : EvA ta σ H vs) (hs : ∀ H1, Ex H H1 → ∀ Q : VK, (∀ H2, Ex H1 H2 → Q z H2) → sp (vs ++ dvs) H1 Q E) : Ev (tCall sp dvs E ta) σ H z := fun H1 e Q q =>
  h H1 e _ fun H2 e2 => hs H2 (e.trans e2) _ fun H3 e3 => q H3 (e2.trans e3)
section
variable {σ : L2.St} {H : Hp} {K : PySem.W.Frag} {D : Ends}
theorem q_parVV {i j : Nat} {ta tb : TE} {tz : TS} {v w : V} (ha : Ev ta σ H v) (hb : Ev tb σ H w) (k : ∀ H1, Ex H H1 → tz D ((σ.set i (some v)).set j (some w)) H1) :
    tSeq (tPar i j (tCons ta (tCons tb tNil))) tz D σ H := ha H (Ex.refl H) _ fun H1 e1 => hb H1 e1 _ fun H2 e2 => ⟨v, w, rfl, k H2 (e1.trans e2)⟩
theorem rv_isN {x : V} : RV (fun x y H Q => y = .non ∧ Q (.bl (decide (x = .non))) H) x .non H (.bl (decide (x = .non))) := fun H1 _ _ q => ⟨rfl, q H1 (Ex.refl H1)⟩
theorem rv_notN {x : V} : RV (fun x y H Q => y = .non ∧ Q (.bl (!decide (x = .non))) H) x .non H (.bl (!decide (x = .non))) := fun H1 _ _ q => ⟨rfl, q H1 (Ex.refl H1)⟩
theorem ev_div {ta tb : TE} {i j : Int} (ha : Ev ta σ H (.int i)) (hb : Ev tb σ H (.int j)) (h : 0 < j ∧ j < 1073741824) : Ev (tOp (rI CDiv fun i j => .int (i / j)) ta tb) σ H (.int (i / j)) := ev_op ha hb (rv_I h)
theorem ev_mod {ta tb : TE} {i j : Int} (ha : Ev ta σ H (.int i)) (hb : Ev tb σ H (.int j)) (h : 0 < j) : Ev (tOp (rI (fun _ j => 0 < j) fun i j => .int (i % j)) ta tb) σ H (.int (i % j)) := ev_op ha hb (rv_I h)
end
/-! ### the memory: a list of 2048 words -/
abbrev CM (K : PySem.W.Frag) : Addr := He.ga K "Memory"
abbrev Mem : Type := Nat → Int
def lW (μ : Mem) : List V := (List.range 2048).map fun i => V.int (μ i)
def mset (μ : Mem) (i : Nat) (w : Int) : Mem := fun j => if j = i then w % 65536 else μ j
theorem lW_len (μ : Mem) : (lW μ).length = 2048 := by simp [lW]
theorem lW_at {μ : Mem} {i : Nat} (h : i < 2048) : (lW μ)[i]? = some (.int (μ i)) := by
  unfold lW
  rw [List.getElem?_map, List.getElem?_range h]
  rfl
theorem lW_set {μ : Mem} {i : Nat} {w : Int} (h : i < 2048) : (lW μ).set i (.int (w % 65536)) = lW (mset μ i w) := by
  apply List.ext_getElem?
  intro j
  rw [List.getElem?_set]
  by_cases hj : j < 2048
  · rw [lW_at hj, lW_at hj, lW_len]
    unfold mset
    by_cases e : i = j
    · subst e
      simp [h]
    · rw [if_neg e, if_neg (Ne.symm e)]
  · have e1 : (lW μ)[j]? = none := List.getElem?_eq_none (by rw [lW_len]; omega)
    have e2 : (lW (mset μ i w))[j]? = none := List.getElem?_eq_none (by rw [lW_len]; omega)
    rw [e1, e2, if_neg (by omega)]
/-- all stands but the words -/
def Fr (wl : Addr) (H H' : Hp) : Prop := ∀ b o, H b = some o → b ≠ wl → H' b = some o
theorem Fr.of {wl : Addr} {H H' : Hp} (e : Ex H H') : Fr wl H H' := fun b o h _ => e b o h
theorem Fr.refl {wl : Addr} {H : Hp} : Fr wl H H := fun b o h _ => h
theorem Fr.trans {wl : Addr} {H H1 H2 : Hp} (a : Fr wl H H1) (b : Fr wl H1 H2) : Fr wl H H2 := fun c o h n => b c o (a c o h n) n
theorem Fr.put {wl : Addr} {H : Hp} {o : HO} : Fr wl H (L2.upd H wl o) := fun b u h n => by rw [upd_ne n]; exact h
structure MemAt (K : PySem.W.Frag) (H : Hp) (m wl : Addr) (μ : Mem) : Prop where
  ins : ∃ dx dd, H m = some (.ins (CM K) dx [("_words", .ref wl), ("_disks", .ref dd)]) ∧ H dd = some (.dK [])
  ws : H wl = some (.lst (lW μ))
section
variable {K : PySem.W.Frag} {H H' : Hp} {m wl : Addr} {μ : Mem}
theorem MemAt.ne (h : MemAt K H m wl μ) : m ≠ wl := by
  obtain ⟨⟨dx, dd, h1, h2⟩, h3⟩ := h
  exact ne_of h1 h3 (by intro z; cases z)
theorem MemAt.keep (h : MemAt K H m wl μ) (e : Ex H H') : MemAt K H' m wl μ := by
  obtain ⟨⟨dx, dd, h1, h2⟩, h3⟩ := h
  exact ⟨⟨dx, dd, e _ _ h1, e _ _ h2⟩, e _ _ h3⟩
/-- another list of words -/
theorem MemAt.upd (h : MemAt K H m wl μ) {μ' : Mem} : MemAt K (L2.upd H wl (.lst (lW μ'))) m wl μ' := by
  obtain ⟨⟨dx, dd, h1, h2⟩, h3⟩ := h
  have n1 : m ≠ wl := ne_of h1 h3 (by intro z; cases z)
  have n2 : dd ≠ wl := ne_of h2 h3 (by intro z; cases z)
  exact ⟨⟨dx, dd, by rw [upd_ne n1]; exact h1, by rw [upd_ne n2]; exact h2⟩, upd_same⟩
end
/-- the index of a word -/
def ix (f p : Int) : Nat := (f * 64 + p).toNat
abbrev InM (f p : Int) : Prop := 0 ≤ f * 64 + p ∧ f * 64 + p < 2048
section
variable {P : Program} {w : World} {K : PySem.W.Frag} {mg : Str → Option Value} {base : Heap}
def sp_word (K : PySem.W.Frag) : Sp := fun vs H Q _ => ∃ (m wl : Addr) (μ : Mem) (f p : Int), vs = [.ref m, .int f, .int p] ∧ MemAt K H m wl μ ∧ InM f p ∧ ∀ H', Ex H H' → Q (.int (μ (ix f p))) H'
theorem ok_Memory_word (T : Txt K mg) : FnOk P w K mg base CX0 1 (f_Memory_word K) (fd_Memory_word K) ["self", "frame", "place"] (sp_word K) := by
  refine T.fn_Memory_word.ok sc_Memory_word (fun vs H Q E h => ?_) (fun cdv A outer s H vs Q E hr h => ⟨_, PSs.nox (pss_one (ps_ret (pe_ix ix_list (pe_fld (pv 0) rfl) (pe_op op_add (pe_op op_mul (pv 1) (T.pg_FRAME)) (pv 2)) (fun _ _ => rfl)))), ?_⟩)
  · obtain ⟨_, _, _, _, _, rfl, _⟩ := h
    rfl
  · obtain ⟨m, wl, μ, f, p, rfl, hM, hI, k⟩ := h
    obtain ⟨dx, dd, h1, h2⟩ := hM.ins
    have e : f * 64 + p = ((ix f p : Nat) : Int) := by unfold ix; omega
    have hlt : ix f p < 2048 := by unfold ix; omega
    refine ⟨_, rfl, m, CM K, dx, _, .ref wl, rfl, h1, T.cl_Memory, T.no_Memory_words, rfl, ?_⟩
    refine ⟨_, rfl, _, _, rfl, rfl, .inr ⟨by decide, by decide⟩, _, rfl, _, _, rfl, rfl, ?_⟩
    refine ⟨wl, _, _, .int (μ (ix f p)), rfl, rfl, SqL.of hM.ws, ?_, k H (Ex.refl H)⟩
    rw [e]
    exact atI_nat (lW_at hlt)
def sp_put (K : PySem.W.Frag) : Sp := fun vs H Q _ => ∃ (m wl : Addr) (μ : Mem) (f p x : Int), vs = [.ref m, .int f, .int p, .int x] ∧ MemAt K H m wl μ ∧ InM f p ∧ ∀ H', MemAt K H' m wl (mset μ (ix f p) x) → Fr wl H H' → Q .non H'
theorem ok_Memory_put (T : Txt K mg) : FnOk P w K mg base CX0 1 (f_Memory_put K) (fd_Memory_put K) ["self", "frame", "place", "word"] (sp_put K) := by
  refine T.fn_Memory_put.ok sc_Memory_put (fun vs H Q E h => ?_) (fun cdv A outer s H vs Q E hr h => ⟨_, PSs.nox (pss_one (ps_asg (pe_op op_mod (pv 3) (T.pg_WORD)) (pg_sub (pe_fld (pv 0) rfl) (pe_op op_add (pe_op op_mul (pv 1) (T.pg_FRAME)) (pv 2)) set_list))), ?_⟩)
  · obtain ⟨_, _, _, _, _, _, rfl, _⟩ := h
    rfl
  · obtain ⟨m, wl, μ, f, p, x, rfl, hM, hI, k⟩ := h
    obtain ⟨dx, dd, h1, h2⟩ := hM.ins
    have e : f * 64 + p = ((ix f p : Nat) : Int) := by unfold ix; omega
    have hlt : ix f p < 2048 := by unfold ix; omega
    refine ⟨_, rfl, _, _, rfl, rfl, (by show (0 : Int) < 65536; decide), _, rfl, m, CM K, dx, _, .ref wl, rfl, h1, T.cl_Memory, T.no_Memory_words, rfl, ?_⟩
    refine ⟨_, rfl, _, _, rfl, rfl, .inr ⟨by decide, by decide⟩, _, rfl, _, _, rfl, rfl, ?_⟩
    refine ⟨wl, _, _, ix f p, rfl, rfl, hM.ws, ?_, ?_⟩
    · rw [e, lW_len]
      exact ixN_nat hlt
    · show Q .non (upd H wl (.lst ((lW μ).set (ix f p) (.int (x % 65536)))))
      rw [lW_set hlt]
      exact k _ hM.upd Fr.put
end
end KA

namespace KA
open PySem PySem.Spec PyProof.Rows L2 Evl TL
section
variable {σ : L2.St} {H : Hp} {K : PySem.W.Frag} {D : Ends} {m wl : Addr} {μ : Mem} {tm tf tp tx : TE} {tz : TS} {f p x : Int}
theorem ev_word (hM : MemAt K H m wl μ) (hm : Ev tm σ H (.ref m)) (hf : Ev tf σ H (.int f)) (hp : Ev tp σ H (.int p)) (hI : InM f p) : Ev (tMeth (CM K) "word" (sp_word K) [] E0 tm (tCons tf (tCons tp tNil))) σ H (.int (μ (ix f p))) := fun H1 e Q q =>
  hm H1 e _ fun H2 e2 => by
    obtain ⟨dx, dd, h1, h2⟩ := (hM.keep (e.trans e2)).ins
    exact ⟨m, dx, _, rfl, h1, rfl, hf H2 (e.trans e2) _ fun H3 e3 => hp H3 ((e.trans e2).trans e3) _ fun H4 e4 => ⟨m, wl, μ, f, p, rfl, hM.keep (((e.trans e2).trans e3).trans e4), hI, fun H5 e5 => q H5 (((e2.trans e3).trans e4).trans e5)⟩⟩
theorem s_put (hM : MemAt K H m wl μ) (hm : Ev tm σ H (.ref m)) (hf : Ev tf σ H (.int f)) (hp : Ev tp σ H (.int p)) (hx : Ev tx σ H (.int x)) (hI : InM f p) (k : ∀ H', MemAt K H' m wl (mset μ (ix f p) x) → Fr wl H H' → D.nx σ H') :
    tDrop (tMeth (CM K) "put" (sp_put K) [] E0 tm (tCons tf (tCons tp (tCons tx tNil)))) D σ H := hm H (Ex.refl H) _ fun H2 e2 => by
    obtain ⟨dx, dd, h1, h2⟩ := (hM.keep e2).ins
    exact ⟨m, dx, _, rfl, h1, rfl, hf H2 e2 _ fun H3 e3 => hp H3 (e2.trans e3) _ fun H4 e4 => hx H4 ((e2.trans e3).trans e4) _ fun H5 e5 => ⟨m, wl, μ, f, p, x, rfl, hM.keep (((e2.trans e3).trans e4).trans e5), hI, fun H' h' f' => k H' h' ((Fr.of (((e2.trans e3).trans e4).trans e5)).trans f')⟩⟩
theorem q_put (hM : MemAt K H m wl μ) (hm : Ev tm σ H (.ref m)) (hf : Ev tf σ H (.int f)) (hp : Ev tp σ H (.int p)) (hx : Ev tx σ H (.int x)) (hI : InM f p) (k : ∀ H', MemAt K H' m wl (mset μ (ix f p) x) → Fr wl H H' → tz D σ H') :
    tSeq (tDrop (tMeth (CM K) "put" (sp_put K) [] E0 tm (tCons tf (tCons tp (tCons tx tNil))))) tz D σ H := s_put (D := { D with nx := tz D }) hM hm hf hp hx hI k
end
abbrev InF (t : Int) : Prop := 0 ≤ t ∧ t < 32
def mrank (μ : Mem) (t : Int) : Int := if μ (ix t 24) > μ (ix t 12) then μ (ix t 24) else μ (ix t 12)
def mnum (μ : Mem) (t : Int) : Int := μ (ix t 22) * 4 + mrank μ t
def mpush (μ : Mem) (fr hd tl th : Int) : Mem := mset (mset (if μ (ix fr tl) ≠ 0 then mset μ (ix (μ (ix fr tl) - 1) 15) (th + 1) else mset μ (ix fr hd) (th + 1)) (ix fr tl) (th + 1)) (ix th 15) 0
/-- the head taken out -/
def mtake (μ : Mem) (fr hd tl th : Int) : Mem := mset (if μ (ix th 15) = 0 then mset (mset μ (ix fr hd) (μ (ix th 15))) (ix fr tl) 0 else mset μ (ix fr hd) (μ (ix th 15))) (ix th 15) 0
theorem tr_int {n : Int} : decide (n ≠ 0) = !decide (n = 0) := by by_cases h : n = 0 <;> simp [h]
section
variable {σ : L2.St} {H : Hp} {K : PySem.W.Frag} {D : Ends}
/-- an int as a test -/
theorem et_truI {te : TE} {n : Int} (h : Ev te σ H (.int n)) : EvT (tTru K te) σ H (decide (n ≠ 0)) := fun H1 e Q q => h H1 e _ fun H2 e2 => ⟨decide (n ≠ 0), by
  show decide (n ≠ 0) = (n != 0)
  by_cases h : n = 0 <;> simp [h], q H2 e2⟩
end
section
variable {P : Program} {w : World} {K : PySem.W.Frag} {mg : Str → Option Value} {base : Heap}
def sp_rank (K : PySem.W.Frag) : Sp := fun vs H Q _ => ∃ (m wl : Addr) (μ : Mem) (t : Int), vs = [.ref m, .int t] ∧ MemAt K H m wl μ ∧ InF t ∧ ∀ H', Ex H H' → Q (.int (mrank μ t)) H'
theorem ok_rank (T : Txt K mg) : FnOk P w K mg base CX0 2 (f_rank K) (fd_rank K) ["memory", "thread"] (sp_rank K) := by
  refine T.fn_rank.ok sc_rank (fun vs H Q E h => ?_) (fun cdv A outer s H vs Q E hr h => ⟨_, PSs.nox (pss_one (ps_ret (pe_callB (call_max2 rfl) (by rfl) T.free_max (by decide +kernel) (pa_cons (pe_meth (pv 0) (T.cl_Memory) (T.mt_Memory_word) (ok_Memory_word T) (hr.mono (by decide)) (T.bd_Memory_word) .nil pass0 (pa_cons (pv 1) (pa_cons (T.pg_T_PRIORITY) pa_nil))) (pa_cons (pe_meth (pv 0) (T.cl_Memory) (T.mt_Memory_word) (ok_Memory_word T) (hr.mono (by decide)) (T.bd_Memory_word) .nil pass0 (pa_cons (pv 1) (pa_cons (T.pg_T_LENT) pa_nil))) pa_nil))))), ?_⟩)
  · obtain ⟨_, _, _, _, rfl, _⟩ := h
    rfl
  · obtain ⟨m, wl, μ, t, rfl, hM, hI, k⟩ := h
    exact s_ret (ev_max2 (ev_word hM (ev_var rfl) (ev_var rfl) ev_c (by omega)) (ev_word hM (ev_var rfl) (ev_var rfl) ev_c (by omega))) k
def placeV (μ : Mem) (t : Int) : List V := [.int 0, .int (4 + mnum μ t), .int (12 + mnum μ t)]
def sp_ready_place (K : PySem.W.Frag) : Sp := fun vs H Q _ => ∃ (m wl : Addr) (μ : Mem) (t : Int), vs = [.ref m, .int t] ∧ MemAt K H m wl μ ∧ InF t ∧ ∀ p H', H p = none → Ex H H' → H' p = some (.tup (placeV μ t)) → Q (.ref p) H'
theorem ok_ready_place (T : Txt K mg) : FnOk P w K mg base CX0 3 (f_ready_place K) (fd_ready_place K) ["memory", "thread"] (sp_ready_place K) := by
  refine T.fn_ready_place.ok sc_ready_place (fun vs H Q E h => ?_) (fun cdv A outer s H vs Q E hr h => ⟨_, PSs.nox (pss_cons (ps_set (i := 2) sc_ready_place.nd rfl (Or.inl rfl) (pe_op op_add (pe_op op_mul (pe_meth (pv 0) (T.cl_Memory) (T.mt_Memory_word) (ok_Memory_word T) (hr.mono (by decide)) (T.bd_Memory_word) .nil pass0 (pa_cons (pv 1) (pa_cons (T.pg_T_DOMAIN) pa_nil))) (T.pg_PRIORITIES)) (pe_call (ok_rank T) (hr.mono (by decide)) (by rfl) (T.glo_rank) (T.kp_rank) (T.bd_rank) .nil pass0 (pa_cons (pv 0) (pa_cons (pv 1) pa_nil))))) (pss_one (ps_ret (pe_tup (pa_cons (T.pg_KERNEL) (pa_cons (pe_op op_add (T.pg_K_HEADS) (pv 2)) (pa_cons (pe_op op_add (T.pg_K_TAILS) (pv 2)) pa_nil))))))), ?_⟩)
  · obtain ⟨_, _, _, _, rfl, _⟩ := h
    rfl
  · obtain ⟨m, wl, μ, t, rfl, hM, hI, k⟩ := h
    refine q_asg (v := .int (mnum μ t)) (ev_op (ev_op (ev_word hM (ev_var rfl) (ev_var rfl) ev_c (by omega)) ev_c (rv_I (.inr ⟨by decide, by decide⟩))) (ev_pure (z := .int (mrank μ t)) (ea_cons (ev_var rfl) (ea_cons (ev_var rfl) ea_nil)) fun H1 e Q q => ⟨m, wl, μ, t, rfl, hM.keep e, hI, q⟩) rv_I0) fun H1 e1 => ?_
    exact s_retU (eu_tup (ea_cons ev_c (ea_cons (ev_op ev_c (ev_var rfl) rv_I0) (ea_cons (ev_op ev_c (ev_var rfl) rv_I0) ea_nil))) (by show 3 ≤ 100000; decide)) fun p H2 hp e2 h2 => k p H2 (fresh_back e1 hp) (e1.trans e2) h2
def sp_push (K : PySem.W.Frag) : Sp := fun vs H Q _ => ∃ (m wl pl : Addr) (μ : Mem) (fr hd tl th : Int), vs = [.ref m, .ref pl, .int th] ∧ MemAt K H m wl μ ∧ H pl = some (.tup [.int fr, .int hd, .int tl]) ∧ InF th ∧ InM fr hd ∧ InM fr tl ∧ (μ (ix fr tl) ≠ 0 → InF (μ (ix fr tl) - 1)) ∧
  ∀ H', MemAt K H' m wl (mpush μ fr hd tl th) → Fr wl H H' → Q .non H'
theorem ok_push (T : Txt K mg) : FnOk P w K mg base CX0 2 (f_push K) (fd_push K) ["memory", "place", "thread"] (sp_push K) := by
  refine T.fn_push.ok sc_push (fun vs H Q E h => ?_) (fun cdv A outer s H vs Q E hr h => ⟨_, PSs.nox (pss_cons (ps_asg (pv 1) (pg_tup (by rfl) (pgs_cons (pg_name (i := 3) sc_push.nd rfl (Or.inl rfl)) (pgs_cons (pg_name (i := 4) sc_push.nd rfl (Or.inl rfl)) (pgs_cons (pg_name (i := 5) sc_push.nd rfl (Or.inl rfl)) pgs_nil))))) (pss_cons (ps_set (i := 6) sc_push.nd rfl (Or.inl rfl) (pe_meth (pv 0) (T.cl_Memory) (T.mt_Memory_word) (ok_Memory_word T) (hr.mono (by decide)) (T.bd_Memory_word) .nil pass0 (pa_cons (pv 3) (pa_cons (pv 5) pa_nil)))) (pss_cut (ps_if (pt_truth (pv 6) (by intro _; rfl)) (pss_one (ps_expr (pe_meth (pv 0) (T.cl_Memory) (T.mt_Memory_put) (ok_Memory_put T) (hr.mono (by decide)) (T.bd_Memory_put) .nil pass0 (pa_cons (pe_op op_sub (pv 6) pe_int) (pa_cons (T.pg_T_NEXT) (pa_cons (pe_op op_add (pv 2) pe_int) pa_nil)))))) (pss_one (ps_expr (pe_meth (pv 0) (T.cl_Memory) (T.mt_Memory_put) (ok_Memory_put T) (hr.mono (by decide)) (T.bd_Memory_put) .nil pass0 (pa_cons (pv 3) (pa_cons (pv 4) (pa_cons (pe_op op_add (pv 2) pe_int) pa_nil))))))) (pss_cons (ps_expr (pe_meth (pv 0) (T.cl_Memory) (T.mt_Memory_put) (ok_Memory_put T) (hr.mono (by decide)) (T.bd_Memory_put) .nil pass0 (pa_cons (pv 3) (pa_cons (pv 5) (pa_cons (pe_op op_add (pv 2) pe_int) pa_nil))))) (pss_one (ps_expr (pe_meth (pv 0) (T.cl_Memory) (T.mt_Memory_put) (ok_Memory_put T) (hr.mono (by decide)) (T.bd_Memory_put) .nil pass0 (pa_cons (pv 2) (pa_cons (T.pg_T_NEXT) (pa_cons pe_int pa_nil)))))))))), ?_⟩)
  · obtain ⟨_, _, _, _, _, _, _, _, rfl, _⟩ := h
    rfl
  · obtain ⟨m, wl, pl, μ, fr, hd, tl, th, rfl, hM, hpl, hI, i1, i2, i3, k⟩ := h
    refine ⟨_, rfl, pl, _, rfl, st_of hpl, rfl, _, _, rfl, _, _, rfl, _, _, rfl, rfl, ?_⟩
    refine q_asg (ev_word hM (ev_var rfl) (ev_var rfl) (ev_var rfl) i2) fun H1 e1 => ?_
    have hM1 := hM.keep e1
    refine q_cut (M := fun σ' H' => σ' = [some (.ref m), some (.ref pl), some (.int th), some (.int fr), some (.int hd), some (.int tl), some (.int (μ (ix fr tl)))] ∧ MemAt K H' m wl (if μ (ix fr tl) ≠ 0 then mset μ (ix (μ (ix fr tl) - 1) 15) (th + 1) else mset μ (ix fr hd) (th + 1)) ∧ Fr wl H H') ?_ ?_
    · refine s_if (et_truI (ev_var rfl)) (fun hb H2 e2 => ?_) (fun hb H2 e2 => ?_)
      · have hne := of_decide_eq_true hb
        have i4 := i3 hne
        rw [if_pos hne]
        exact s_put (hM1.keep e2) (ev_var rfl) (ev_op (ev_var rfl) ev_c rv_I0) ev_c (ev_op (ev_var rfl) ev_c rv_I0) (by omega) fun H3 h3 f3 => ⟨rfl, h3, (Fr.of (e1.trans e2)).trans f3⟩
      · have hne := of_decide_eq_false hb
        rw [if_neg hne]
        exact s_put (hM1.keep e2) (ev_var rfl) (ev_var rfl) (ev_var rfl) (ev_op (ev_var rfl) ev_c rv_I0) i1 fun H3 h3 f3 => ⟨rfl, h3, (Fr.of (e1.trans e2)).trans f3⟩
    · rintro σ' H2 ⟨rfl, h2, f2⟩
      refine q_put h2 (ev_var rfl) (ev_var rfl) (ev_var rfl) (ev_op (ev_var rfl) ev_c rv_I0) i2 fun H3 h3 f3 => ?_
      exact s_put h3 (ev_var rfl) (ev_var rfl) ev_c ev_c (by omega) fun H4 h4 f4 => k H4 h4 ((f2.trans f3).trans f4)
def sp_take_out (K : PySem.W.Frag) : Sp := fun vs H Q _ => ∃ (m wl pl : Addr) (μ : Mem) (fr hd tl th : Int), vs = [.ref m, .ref pl, .int th] ∧ MemAt K H m wl μ ∧ H pl = some (.tup [.int fr, .int hd, .int tl]) ∧ InF th ∧ InM fr hd ∧ InM fr tl ∧ μ (ix fr hd) = th + 1 ∧
  ∀ H', MemAt K H' m wl (mtake μ fr hd tl th) → Fr wl H H' → Q .non H'
theorem ok_take_out (T : Txt K mg) : FnOk P w K mg base CX0 2 (f_take_out K) (fd_take_out K) ["memory", "place", "thread"] (sp_take_out K) := by
  refine T.fn_take_out.ok sc_take_out (fun vs H Q E h => ?_) (fun cdv A outer s H vs Q E hr h => ⟨_, PSs.nox (pss_cons (ps_asg (pv 1) (pg_tup (by rfl) (pgs_cons (pg_name (i := 3) sc_take_out.nd rfl (Or.inl rfl)) (pgs_cons (pg_name (i := 4) sc_take_out.nd rfl (Or.inl rfl)) (pgs_cons (pg_name (i := 5) sc_take_out.nd rfl (Or.inl rfl)) pgs_nil))))) (pss_cons (ps_par (i := 6) (j := 7) (by rfl) sc_take_out.nd rfl rfl (by decide) rfl rfl (pa_cons pe_int (pa_cons (pe_meth (pv 0) (T.cl_Memory) (T.mt_Memory_word) (ok_Memory_word T) (hr.mono (by decide)) (T.bd_Memory_word) .nil pass0 (pa_cons (pv 3) (pa_cons (pv 4) pa_nil))) pa_nil)) (by rfl)) (pss_cons (ps_while PassesOwn.never (PW.pt (pw_and (pt_truth (pv 7) (by intro _; rfl)) (pw_and1 (pt_cmpR op_ne (pv 7) (pe_op op_add (pv 2) pe_int) (nomark _))))) (pss_one (ps_par (i := 6) (j := 7) (by rfl) sc_take_out.nd rfl rfl (by decide) rfl rfl (pa_cons (pv 7) (pa_cons (pe_meth (pv 0) (T.cl_Memory) (T.mt_Memory_word) (ok_Memory_word T) (hr.mono (by decide)) (T.bd_Memory_word) .nil pass0 (pa_cons (pe_op op_sub (pv 7) pe_int) (pa_cons (T.pg_T_NEXT) pa_nil))) pa_nil)) (by rfl)))) (pss_cons (ps_if (pt_not (pt_truth (pv 7) (by intro _; rfl))) (pss_one ps_retN) pss_nil) (pss_cons (ps_set (i := 8) sc_take_out.nd rfl (Or.inl rfl) (pe_meth (pv 0) (T.cl_Memory) (T.mt_Memory_word) (ok_Memory_word T) (hr.mono (by decide)) (T.bd_Memory_word) .nil pass0 (pa_cons (pv 2) (pa_cons (T.pg_T_NEXT) pa_nil)))) (pss_cut (ps_if (pt_truth (pv 6) (by intro _; rfl)) (pss_one (ps_expr (pe_meth (pv 0) (T.cl_Memory) (T.mt_Memory_put) (ok_Memory_put T) (hr.mono (by decide)) (T.bd_Memory_put) .nil pass0 (pa_cons (pe_op op_sub (pv 6) pe_int) (pa_cons (T.pg_T_NEXT) (pa_cons (pv 8) pa_nil)))))) (pss_one (ps_expr (pe_meth (pv 0) (T.cl_Memory) (T.mt_Memory_put) (ok_Memory_put T) (hr.mono (by decide)) (T.bd_Memory_put) .nil pass0 (pa_cons (pv 3) (pa_cons (pv 4) (pa_cons (pv 8) pa_nil))))))) (pss_cut (ps_if (pt_not (pt_truth (pv 8) (by intro _; rfl))) (pss_one (ps_expr (pe_meth (pv 0) (T.cl_Memory) (T.mt_Memory_put) (ok_Memory_put T) (hr.mono (by decide)) (T.bd_Memory_put) .nil pass0 (pa_cons (pv 3) (pa_cons (pv 5) (pa_cons (pv 6) pa_nil)))))) pss_nil) (pss_one (ps_expr (pe_meth (pv 0) (T.cl_Memory) (T.mt_Memory_put) (ok_Memory_put T) (hr.mono (by decide)) (T.bd_Memory_put) .nil pass0 (pa_cons (pv 2) (pa_cons (T.pg_T_NEXT) (pa_cons pe_int pa_nil))))))))))))), ?_⟩)
  · obtain ⟨_, _, _, _, _, _, _, _, rfl, _⟩ := h
    rfl
  · obtain ⟨m, wl, pl, μ, fr, hd, tl, th, rfl, hM, hpl, hI, i1, i2, i3, k⟩ := h
    refine ⟨_, rfl, pl, _, rfl, st_of hpl, rfl, _, _, rfl, _, _, rfl, _, _, rfl, rfl, ?_⟩
    refine q_parVV ev_c (ev_word hM (ev_var rfl) (ev_var rfl) (ev_var rfl) i1) fun H1 e1 => ?_
    rw [i3]
    have n0 : (th + 1 : Int) ≠ 0 := by omega
    refine q_while (fun _ σ' H' => σ' = [some (.ref m), some (.ref pl), some (.int th), some (.int fr), some (.int hd), some (.int tl), some (.int 0), some (.int (th + 1)), none] ∧ Ex H H') 0 ⟨rfl, e1⟩ ?_
    rintro _ σ' H2 ⟨rfl, e2⟩
    refine ⟨false, et_is (et_and (et_truI (ev_var rfl)) fun _ => et_test (ev_op (ev_var rfl) (ev_op (ev_var rfl) ev_c rv_I0) (rv_ne rfl))) (by simp), (fun h => by cases h), fun _ H3 e3 => ?_⟩
    have e23 := e2.trans e3
    have hM3 := hM.keep e23
    refine q_when (b := false) (et_is (et_not (et_truI (ev_var rfl))) (by simp [n0])) (fun h => by cases h) fun _ H4 e4 => ?_
    have hM4 := hM3.keep e4
    refine q_asg (ev_word hM4 (ev_var rfl) (ev_var rfl) ev_c (by omega)) fun H5 e5 => ?_
    have hM5 := hM4.keep e5
    have e25 := (e23.trans e4).trans e5
    refine q_cut (M := fun σ' H' => σ' = [some (.ref m), some (.ref pl), some (.int th), some (.int fr), some (.int hd), some (.int tl), some (.int 0), some (.int (th + 1)), some (.int (μ (ix th 15)))] ∧ MemAt K H' m wl (mset μ (ix fr hd) (μ (ix th 15))) ∧ Fr wl H H') ?_ ?_
    · refine s_if (b := false) (et_is (et_truI (ev_var rfl)) (by simp)) (fun h => by cases h) fun _ H6 e6 => ?_
      exact s_put (hM5.keep e6) (ev_var rfl) (ev_var rfl) (ev_var rfl) (ev_var rfl) i1 fun H7 h7 f7 => ⟨rfl, h7, (Fr.of (e25.trans e6)).trans f7⟩
    rintro σ' H6 ⟨rfl, h6, f6⟩
    refine q_cut (M := fun σ' H' => σ' = [some (.ref m), some (.ref pl), some (.int th), some (.int fr), some (.int hd), some (.int tl), some (.int 0), some (.int (th + 1)), some (.int (μ (ix th 15)))] ∧ MemAt K H' m wl (if μ (ix th 15) = 0 then mset (mset μ (ix fr hd) (μ (ix th 15))) (ix fr tl) 0 else mset μ (ix fr hd) (μ (ix th 15))) ∧ Fr wl H H') ?_ ?_
    · refine s_when (et_not (et_truI (ev_var rfl))) (fun hb H7 e7 => ?_) (fun hb H7 e7 => ?_)
      · have hz : μ (ix th 15) = 0 := by simpa using hb
        rw [if_pos hz]
        exact s_put (h6.keep e7) (ev_var rfl) (ev_var rfl) (ev_var rfl) (ev_var rfl) i2 fun H8 h8 f8 => ⟨rfl, h8, (f6.trans (Fr.of e7)).trans f8⟩
      · have hz : μ (ix th 15) ≠ 0 := by simpa using hb
        rw [if_neg hz]
        exact ⟨rfl, h6.keep e7, f6.trans (Fr.of e7)⟩
    rintro σ' H7 ⟨rfl, h7, f7⟩
    exact s_put h7 (ev_var rfl) (ev_var rfl) ev_c ev_c (by omega) fun H8 h8 f8 => k H8 h8 (f7.trans f8)
end
end KA

namespace KA
open PySem PySem.Spec PyProof.Rows L2 Evl TL
section
variable {P : Program} {w : World} {K : PySem.W.Frag} {mg : Str → Option Value} {base : Heap}
def sp_kind_of (K : PySem.W.Frag) : Sp := fun vs H Q _ => ∃ (m wl : Addr) (μ : Mem) (f : Int), vs = [.ref m, .int f] ∧ MemAt K H m wl μ ∧ InF f ∧ ∀ H', Ex H H' → Q (.int (μ (ix 1 f))) H'
theorem ok_kind_of (T : Txt K mg) : FnOk P w K mg base CX0 2 (f_kind_of K) (fd_kind_of K) ["memory", "frame"] (sp_kind_of K) := by
  refine T.fn_kind_of.ok sc_kind_of (fun vs H Q E h => ?_) (fun cdv A outer s H vs Q E hr h => ⟨_, PSs.nox (pss_one (ps_ret (pe_meth (pv 0) (T.cl_Memory) (T.mt_Memory_word) (ok_Memory_word T) (hr.mono (by decide)) (T.bd_Memory_word) .nil pass0 (pa_cons (T.pg_KIND_FRAME) (pa_cons (pv 1) pa_nil))))), ?_⟩)
  · obtain ⟨_, _, _, _, rfl, _⟩ := h
    rfl
  · obtain ⟨m, wl, μ, f, rfl, hM, hI, k⟩ := h
    exact s_ret (ev_word hM (ev_var rfl) ev_c (ev_var rfl) (by omega)) k
section
variable {σ : L2.St} {H : Hp} {D : Ends} {m wl : Addr} {μ : Mem} {tm tf tp tx tr : TE} {tz : TS} {f p x : Int}
theorem ev_kind (hM : MemAt K H m wl μ) (hm : Ev tm σ H (.ref m)) (hf : Ev tf σ H (.int f)) (hI : InF f) : Ev (tCall (sp_kind_of K) [] E0 (tCons tm (tCons tf tNil))) σ H (.int (μ (ix 1 f))) :=
  ev_pure (ea_cons hm (ea_cons hf ea_nil)) fun H1 e Q q => ⟨m, wl, μ, f, rfl, hM.keep e, hI, q⟩
end
def framesV (μ : Mem) (k : Int) : List V := given 32 (fun i => decide (V.int (μ (ix 1 (i : Int))) = .int k)) (fun i => .int (i : Int))
def sp_frames_of (K : PySem.W.Frag) : Sp := fun vs H Q _ => ∃ (m wl : Addr) (μ : Mem) (k : Int), vs = [.ref m, .int k] ∧ MemAt K H m wl μ ∧ ∀ p H', H p = none → Ex H H' → H' p = some (.lst (framesV μ k)) → Q (.ref p) H'
theorem ok_frames_of (T : Txt K mg) : FnOk P w K mg base CX0 3 (f_frames_of K) (fd_frames_of K) ["memory", "kind"] (sp_frames_of K) := by
  refine T.fn_frames_of.ok sc_frames_of (fun vs H Q E h => ?_) (fun cdv A outer s H vs Q E hr h => ⟨_, PSs.nox (pss_one (ps_ret (pe_lc (own := [("frame", 2)]) (by rfl) sc_frames_of.nd (pi_range1 (by rfl) T.free_range (pa_cons (T.pg_FRAMES) pa_nil)) (blkOk_by (N := sc_frames_of_N) (sc := defScope s_frames_of) (own := [("frame", 2)]) (by decide +kernel)) (fun _ _ _ _ _ => (pg_name (i := 2) sc_frames_of.nd rfl (Or.inl rfl))) (fun _ _ _ _ _ => (pts_one (pt_cmpR op_eq (pe_call (ok_kind_of T) (hr.mono (by decide)) (by rfl) (T.glo_kind_of) (T.kp_kind_of) (T.bd_kind_of) .nil pass0 (pa_cons (pv 0) (pa_cons (pv 2) pa_nil))) (pv 1) (nomark _)))) (fun _ _ _ _ _ => (pv 2))))), ?_⟩)
  · obtain ⟨_, _, _, _, rfl, _⟩ := h
    rfl
  · obtain ⟨m, wl, μ, k0, rfl, hM, k⟩ := h
    refine s_retL (xs := framesV μ k0) (el_lcR1 (n := 32) _ _ (ea_cons ev_c ea_nil) (by decide) (fun x => rfl) (fun i H1 e1 hi => et_test (ev_op (ev_kind (hM.keep e1) (ev_var rfl) (ev_var rfl) (by omega)) (ev_var rfl) (rv_eq rfl))) (fun i H1 e1 hi _ => ev_var rfl)) k
def sp_put_field (K : PySem.W.Frag) : Sp := fun vs H Q _ => ∃ (m wl : Addr) (μ : Mem) (s p x : Int), vs = [.ref m, .int s, .int p, .int x] ∧ MemAt K H m wl μ ∧ 0 ≤ s ∧ s < 256 ∧ 0 ≤ p ∧ p < 8 ∧ ∀ H', MemAt K H' m wl (mset μ (s * 8 + p).toNat x) → Fr wl H H' → Q .non H'
theorem ix_slot {s p : Int} : ix (s / 8) (s % 8 * 8 + p) = (s * 8 + p).toNat := by unfold ix; congr 1; omega
theorem ok_put_field (T : Txt K mg) : FnOk P w K mg base CX0 2 (f_put_field K) (fd_put_field K) ["memory", "slot", "place", "word"] (sp_put_field K) := by
  refine T.fn_put_field.ok sc_put_field (fun vs H Q E h => ?_) (fun cdv A outer s H vs Q E hr h => ⟨_, PSs.nox (pss_one (ps_expr (pe_meth (pv 0) (T.cl_Memory) (T.mt_Memory_put) (ok_Memory_put T) (hr.mono (by decide)) (T.bd_Memory_put) .nil pass0 (pa_cons (pe_op op_fdiv (pv 1) (T.pg_SLOTS)) (pa_cons (pe_op op_add (pe_op op_mul (pe_op op_mod (pv 1) (T.pg_SLOTS)) pe_int) (pv 2)) (pa_cons (pv 3) pa_nil)))))), ?_⟩)
  · obtain ⟨_, _, _, _, _, _, rfl, _⟩ := h
    rfl
  · obtain ⟨m, wl, μ, s0, p, x, rfl, hM, h1, h2, h3, h4, k⟩ := h
    refine s_put hM (ev_var rfl) (ev_op (ev_var rfl) ev_c (rv_I ⟨by decide, by decide⟩)) (ev_op (ev_op (ev_op (ev_var rfl) ev_c (rv_I (by show (0 : Int) < 8; decide))) ev_c (rv_I (.inr ⟨by decide, by decide⟩))) (ev_var rfl) rv_I0) (ev_var rfl) (by omega) fun H' h' f' => k H' ?_ f'
    rw [ix_slot] at h'
    exact h'
def sp_get_register (K : PySem.W.Frag) : Sp := fun vs H Q _ => ∃ (m wl : Addr) (μ : Mem) (t n : Int), vs = [.ref m, .int t, .int n] ∧ MemAt K H m wl μ ∧ InF t ∧ 0 ≤ n ∧ n < 8 ∧ ∀ H', Ex H H' → Q (.int (μ (ix t (2 + n)))) H'
theorem ok_get_register (T : Txt K mg) : FnOk P w K mg base CX0 2 (f_get_register K) (fd_get_register K) ["memory", "thread", "number"] (sp_get_register K) := by
  refine T.fn_get_register.ok sc_get_register (fun vs H Q E h => ?_) (fun cdv A outer s H vs Q E hr h => ⟨_, PSs.nox (pss_one (ps_ret (pe_meth (pv 0) (T.cl_Memory) (T.mt_Memory_word) (ok_Memory_word T) (hr.mono (by decide)) (T.bd_Memory_word) .nil pass0 (pa_cons (pv 1) (pa_cons (pe_op op_add (T.pg_T_REGISTERS) (pv 2)) pa_nil))))), ?_⟩)
  · obtain ⟨_, _, _, _, _, rfl, _⟩ := h
    rfl
  · obtain ⟨m, wl, μ, t, n, rfl, hM, hI, h1, h2, k⟩ := h
    exact s_ret (ev_word hM (ev_var rfl) (ev_var rfl) (ev_op ev_c (ev_var rfl) rv_I0) (by omega)) k
def sp_put_register (K : PySem.W.Frag) : Sp := fun vs H Q _ => ∃ (m wl : Addr) (μ : Mem) (t n x : Int), vs = [.ref m, .int t, .int n, .int x] ∧ MemAt K H m wl μ ∧ InF t ∧ 0 ≤ n ∧ n < 8 ∧ ∀ H', MemAt K H' m wl (mset μ (ix t (2 + n)) x) → Fr wl H H' → Q .non H'
theorem ok_put_register (T : Txt K mg) : FnOk P w K mg base CX0 2 (f_put_register K) (fd_put_register K) ["memory", "thread", "number", "word"] (sp_put_register K) := by
  refine T.fn_put_register.ok sc_put_register (fun vs H Q E h => ?_) (fun cdv A outer s H vs Q E hr h => ⟨_, PSs.nox (pss_one (ps_expr (pe_meth (pv 0) (T.cl_Memory) (T.mt_Memory_put) (ok_Memory_put T) (hr.mono (by decide)) (T.bd_Memory_put) .nil pass0 (pa_cons (pv 1) (pa_cons (pe_op op_add (T.pg_T_REGISTERS) (pv 2)) (pa_cons (pv 3) pa_nil)))))), ?_⟩)
  · obtain ⟨_, _, _, _, _, _, rfl, _⟩ := h
    rfl
  · obtain ⟨m, wl, μ, t, n, x, rfl, hM, hI, h1, h2, k⟩ := h
    exact s_put hM (ev_var rfl) (ev_var rfl) (ev_op ev_c (ev_var rfl) rv_I0) (ev_var rfl) (by omega) k
def mdom (μ : Mem) : Int := μ (ix 0 (24 + μ (ix 0 1))) / 256
def sp_domain_now (K : PySem.W.Frag) : Sp := fun vs H Q _ => ∃ (m wl : Addr) (μ : Mem), vs = [.ref m] ∧ MemAt K H m wl μ ∧ 0 ≤ μ (ix 0 1) ∧ μ (ix 0 1) < 4 ∧ ∀ H', Ex H H' → Q (.int (mdom μ)) H'
theorem ok_domain_now (T : Txt K mg) : FnOk P w K mg base CX0 2 (f_domain_now K) (fd_domain_now K) ["memory"] (sp_domain_now K) := by
  refine T.fn_domain_now.ok sc_domain_now (fun vs H Q E h => ?_) (fun cdv A outer s H vs Q E hr h => ⟨_, PSs.nox (pss_one (ps_ret (pe_op op_fdiv (pe_meth (pv 0) (T.cl_Memory) (T.mt_Memory_word) (ok_Memory_word T) (hr.mono (by decide)) (T.bd_Memory_word) .nil pass0 (pa_cons (T.pg_KERNEL) (pa_cons (pe_op op_add (T.pg_K_PLAN) (pe_meth (pv 0) (T.cl_Memory) (T.mt_Memory_word) (ok_Memory_word T) (hr.mono (by decide)) (T.bd_Memory_word) .nil pass0 (pa_cons (T.pg_KERNEL) (pa_cons (T.pg_K_PART) pa_nil)))) pa_nil))) pe_int))), ?_⟩)
  · obtain ⟨_, _, _, rfl, _⟩ := h
    rfl
  · obtain ⟨m, wl, μ, rfl, hM, h1, h2, k⟩ := h
    exact s_ret (ev_op (ev_word hM (ev_var rfl) ev_c (ev_op ev_c (ev_word hM (ev_var rfl) ev_c ev_c (by omega)) rv_I0) (by omega)) ev_c (rv_I ⟨by decide, by decide⟩)) k
def oI : Option Int → V
  | none => .non
  | some i => .int i
section
variable {σ : L2.St} {H : Hp} {D : Ends}
theorem q_forR3 {ta : TA} {g : TG} {tu tz : TS} {lo hi c : Int} {n : Nat} (h : EvA ta σ H [.int lo, .int hi, .int c]) (hr : RgC lo hi c n) (Pv : Nat → L2.St → Hp → Prop) (h0 : ∀ H1, Ex H H1 → Pv 0 σ H1)
    (hs : ∀ (i : Nat) σ' H', i < n → Pv i σ' H' → g (.int (lo + (i : Nat) * c)) σ' H' fun σ2 H2 => tu { D with nx := Pv (i + 1), ct := Pv (i + 1), bk := tz D } σ2 H2) (hd : ∀ σ' H', Pv n σ' H' → tz D σ' H') : tSeq (tFor (iRng3 ta) g tu) tz D σ H :=
  h H (Ex.refl H) _ fun H1 e => ⟨lo, hi, c, n, rfl, hr, for_rangeC (D := { D with nx := tz D }) Pv (h0 H1 e) hs hd⟩
end
/-! ### who goes -/
def mhead (μ : Mem) (n : Int) : Int := μ (ix 0 (4 + mdom μ * 4 + n))
/-- the first of the numbers 3 - i, .., 0 whose queue is not empty -/
def mfrom (μ : Mem) : Nat → Option Int
  | 0 => none
  | k + 1 => if mhead μ (k : Int) ≠ 0 then some (mhead μ (k : Int) - 1) else mfrom μ k
def sp_chosen (K : PySem.W.Frag) : Sp := fun vs H Q _ => ∃ (m wl : Addr) (μ : Mem), vs = [.ref m] ∧ MemAt K H m wl μ ∧ 0 ≤ μ (ix 0 1) ∧ μ (ix 0 1) < 4 ∧ 0 ≤ mdom μ ∧ mdom μ < 2 ∧ ∀ H', Ex H H' → Q (oI (mfrom μ 4)) H'
theorem ok_chosen (T : Txt K mg) : FnOk P w K mg base CX0 3 (f_chosen K) (fd_chosen K) ["memory"] (sp_chosen K) := by
  refine T.fn_chosen.ok sc_chosen (fun vs H Q E h => ?_) (fun cdv A outer s H vs Q E hr h => ⟨_, PSs.nox (pss_cons (ps_set (i := 1) sc_chosen.nd rfl (Or.inl rfl) (pe_call (ok_domain_now T) (hr.mono (by decide)) (by rfl) (T.glo_domain_now) (T.kp_domain_now) (T.bd_domain_now) .nil pass0 (pa_cons (pv 0) pa_nil))) (pss_cons (ps_for PassesOwn.never rfl (pi_range3 (by rfl) T.free_range (pa_cons (pe_op op_sub (T.pg_PRIORITIES) pe_int) (pa_cons (pe_un un_neg pe_int) (pa_cons (pe_un un_neg pe_int) pa_nil)))) (pg_name (i := 2) sc_chosen.nd rfl (Or.inl rfl)) (pss_cons (ps_set (i := 3) sc_chosen.nd rfl (Or.inl rfl) (pe_meth (pv 0) (T.cl_Memory) (T.mt_Memory_word) (ok_Memory_word T) (hr.mono (by decide)) (T.bd_Memory_word) .nil pass0 (pa_cons (T.pg_KERNEL) (pa_cons (pe_op op_add (pe_op op_add (T.pg_K_HEADS) (pe_op op_mul (pv 1) (T.pg_PRIORITIES))) (pv 2)) pa_nil)))) (pss_one (ps_if (pt_truth (pv 3) (by intro _; rfl)) (pss_one (ps_ret (pe_op op_sub (pv 3) pe_int))) pss_nil)))) (pss_one (ps_ret pe_non)))), ?_⟩)
  · obtain ⟨_, _, _, rfl, _⟩ := h
    rfl
  · obtain ⟨m, wl, μ, rfl, hM, h1, h2, h3, h4, k⟩ := h
    refine q_asg (ev_pure (z := .int (mdom μ)) (ea_cons (ev_var rfl) ea_nil) fun H1 e Q q => ⟨m, wl, μ, rfl, hM.keep e, h1, h2, q⟩) fun H1 e1 => ?_
    have hM1 := hM.keep e1
    obtain ⟨r4, hr4⟩ : ∃ r4, r4 = mfrom μ 4 := ⟨_, rfl⟩
    rw [← hr4] at k
    refine q_forR3 (lo := 3) (c := -1) (n := 4) (ea_cons (ev_is (ev_op ev_c ev_c rv_I0) rfl) (ea_cons (ev_is (ev_un ev_c ru_neg) rfl) (ea_cons (ev_is (ev_un ev_c ru_neg) rfl) ea_nil))) (RgC.neg (i := 3) (j := -1) (by decide) (by decide) (by decide) (by decide)) (fun i σ' H' => ∃ x2 x3, σ' = [some (.ref m), some (.int (mdom μ)), x2, x3] ∧ Ex H1 H' ∧ i ≤ 4 ∧ r4 = mfrom μ (4 - i)) (fun H2 e2 => ⟨none, none, rfl, e2, by decide, hr4⟩) ?_ ?_
    · rintro i σ' H' hi ⟨x2, x3, rfl, eH, _, hc⟩
      have hM2 := hM1.keep eH
      have en : (3 : Int) + (i : Int) * (-1) = ((3 - i : Nat) : Int) := by omega
      rw [en]
      have hsub : 4 - i = (3 - i) + 1 := by omega
      rw [hsub, mfrom] at hc
      refine q_asg (ev_word hM2 (ev_var rfl) ev_c (ev_op (ev_op ev_c (ev_op (ev_var rfl) ev_c (rv_I (.inr ⟨by decide, by decide⟩))) rv_I0) (ev_var rfl) rv_I0) (by omega)) fun H3 e3 => ?_
      refine s_when (et_truI (ev_var rfl)) (fun hb H4 e4 => ?_) (fun hb H4 e4 => ?_)
      · have hne : mhead μ ((3 - i : Nat) : Int) ≠ 0 := of_decide_eq_true hb
        rw [if_pos hne] at hc
        refine s_ret (v := oI r4) (ev_is (ev_op (ev_var rfl) ev_c rv_I0) (by rw [hc]; rfl)) fun H5 e5 => k H5 ((((e1.trans eH).trans e3).trans e4).trans e5)
      · have hne : ¬ mhead μ ((3 - i : Nat) : Int) ≠ 0 := of_decide_eq_false hb
        rw [if_neg hne] at hc
        refine ⟨_, _, rfl, (eH.trans e3).trans e4, by omega, ?_⟩
        rw [hc]
        congr 1
        omega
    · rintro σ' H' ⟨x2, x3, rfl, eH, _, hc⟩
      refine s_ret (v := oI r4) (ev_is ev_c (by rw [hc]; rfl)) fun H5 e5 => k H5 ((e1.trans eH).trans e5)
/-! ### a tick's end -/
def mturn2 (μ2 : Mem) (t : Int) : Mem := mpush μ2 0 (4 + mnum μ2 t) (12 + mnum μ2 t) t
/-- behind all others of its rank -/
def mturn (μ1 : Mem) (t : Int) : Mem := mturn2 (mtake μ1 0 (4 + mnum μ1 t) (12 + mnum μ1 t) t) t
def mspent (μ : Mem) (t : Int) : Mem :=
  if μ (ix t 14) > 1 then mset μ (ix t 14) (μ (ix t 14) - 1) else mturn (mset μ (ix t 14) (μ (ix t 13))) t
def sp_spent (K : PySem.W.Frag) : Sp := fun vs H Q _ => ∃ (m wl : Addr) (μ : Mem) (t : Int), vs = [.ref m, .int t] ∧ MemAt K H m wl μ ∧ InF t ∧ μ (ix 1 t) = 5 ∧ μ (ix t 0) = 1 ∧
  (¬ μ (ix t 14) > 1 → ∀ μ1, μ1 = mset μ (ix t 14) (μ (ix t 13)) → 0 ≤ mnum μ1 t ∧ mnum μ1 t < 8 ∧ μ1 (ix 0 (4 + mnum μ1 t)) = t + 1 ∧ ∀ μ2, μ2 = mtake μ1 0 (4 + mnum μ1 t) (12 + mnum μ1 t) t → 0 ≤ mnum μ2 t ∧ mnum μ2 t < 8 ∧ (μ2 (ix 0 (12 + mnum μ2 t)) ≠ 0 → InF (μ2 (ix 0 (12 + mnum μ2 t)) - 1))) ∧
  ∀ H', MemAt K H' m wl (mspent μ t) → Fr wl H H' → Q .non H'
theorem ok_spent (T : Txt K mg) : FnOk P w K mg base CX0 4 (f_spent K) (fd_spent K) ["memory", "thread"] (sp_spent K) := by
  refine T.fn_spent.ok sc_spent (fun vs H Q E h => ?_) (fun cdv A outer s H vs Q E hr h => ⟨_, PSs.nox (pss_cons (ps_if (PW.pt (pw_or (pt_cmpR op_ne (pe_meth (pv 0) (T.cl_Memory) (T.mt_Memory_word) (ok_Memory_word T) (hr.mono (by decide)) (T.bd_Memory_word) .nil pass0 (pa_cons (T.pg_KIND_FRAME) (pa_cons (pv 1) pa_nil))) (T.pg_THREAD) (nomark _)) (pw_or1 (pt_cmpR op_ne (pe_meth (pv 0) (T.cl_Memory) (T.mt_Memory_word) (ok_Memory_word T) (hr.mono (by decide)) (T.bd_Memory_word) .nil pass0 (pa_cons (pv 1) (pa_cons (T.pg_T_STATE) pa_nil))) (T.pg_READY) (nomark _))))) (pss_one ps_retN) pss_nil) (pss_cons (ps_set (i := 2) sc_spent.nd rfl (Or.inl rfl) (pe_meth (pv 0) (T.cl_Memory) (T.mt_Memory_word) (ok_Memory_word T) (hr.mono (by decide)) (T.bd_Memory_word) .nil pass0 (pa_cons (pv 1) (pa_cons (T.pg_T_LEFT) pa_nil)))) (pss_cons (ps_if (pt_cmpR op_gt (pv 2) pe_int (nomark _)) (pss_cons (ps_expr (pe_meth (pv 0) (T.cl_Memory) (T.mt_Memory_put) (ok_Memory_put T) (hr.mono (by decide)) (T.bd_Memory_put) .nil pass0 (pa_cons (pv 1) (pa_cons (T.pg_T_LEFT) (pa_cons (pe_op op_sub (pv 2) pe_int) pa_nil))))) (pss_one ps_retN)) pss_nil) (pss_cons (ps_expr (pe_meth (pv 0) (T.cl_Memory) (T.mt_Memory_put) (ok_Memory_put T) (hr.mono (by decide)) (T.bd_Memory_put) .nil pass0 (pa_cons (pv 1) (pa_cons (T.pg_T_LEFT) (pa_cons (pe_meth (pv 0) (T.cl_Memory) (T.mt_Memory_word) (ok_Memory_word T) (hr.mono (by decide)) (T.bd_Memory_word) .nil pass0 (pa_cons (pv 1) (pa_cons (T.pg_T_BUDGET) pa_nil))) pa_nil))))) (pss_cons (ps_expr (pe_call (ok_take_out T) (hr.mono (by decide)) (by rfl) (T.glo_take_out) (T.kp_take_out) (T.bd_take_out) .nil pass0 (pa_cons (pv 0) (pa_cons (pe_call (ok_ready_place T) (hr.mono (by decide)) (by rfl) (T.glo_ready_place) (T.kp_ready_place) (T.bd_ready_place) .nil pass0 (pa_cons (pv 0) (pa_cons (pv 1) pa_nil))) (pa_cons (pv 1) pa_nil))))) (pss_one (ps_expr (pe_call (ok_push T) (hr.mono (by decide)) (by rfl) (T.glo_push) (T.kp_push) (T.bd_push) .nil pass0 (pa_cons (pv 0) (pa_cons (pe_call (ok_ready_place T) (hr.mono (by decide)) (by rfl) (T.glo_ready_place) (T.kp_ready_place) (T.bd_ready_place) .nil pass0 (pa_cons (pv 0) (pa_cons (pv 1) pa_nil))) (pa_cons (pv 1) pa_nil))))))))))), ?_⟩)
  · obtain ⟨_, _, _, _, rfl, _⟩ := h
    rfl
  · obtain ⟨m, wl, μ, t, rfl, hM, hI, c1, c2, c3, k⟩ := h
    refine q_when (b := false) (et_is (et_or (et_test (ev_op (ev_word hM (ev_var rfl) ev_c (ev_var rfl) (by omega)) ev_c (rv_ne rfl))) fun _ => et_test (ev_op (ev_word hM (ev_var rfl) (ev_var rfl) ev_c (by omega)) ev_c (rv_ne rfl))) (by rw [c1, c2]; rfl)) (fun h => by cases h) fun _ H1 e1 => ?_
    have hM1 := hM.keep e1
    refine q_asg (ev_word hM1 (ev_var rfl) (ev_var rfl) ev_c (by omega)) fun H2 e2 => ?_
    have hM2 := hM1.keep e2
    refine q_when (et_test (ev_op (ev_var rfl) ev_c rv_I0)) (fun hb H3 e3 => ?_) (fun hb H3 e3 => ?_)
    · have hl : μ (ix t 14) > 1 := of_decide_eq_true hb
      have hk : mspent μ t = mset μ (ix t 14) (μ (ix t 14) - 1) := by unfold mspent; rw [if_pos hl]
      refine q_put (hM2.keep e3) (ev_var rfl) (ev_var rfl) ev_c (ev_op (ev_var rfl) ev_c rv_I0) (by omega) fun H4 h4 f4 => ?_
      rw [← hk] at h4
      exact k H4 h4 ((Fr.of ((e1.trans e2).trans e3)).trans f4)
    · have hl : ¬ μ (ix t 14) > 1 := of_decide_eq_false hb
      obtain ⟨d1, d2, d3, d4⟩ := c3 hl _ rfl
      have hk : mspent μ t = mturn (mset μ (ix t 14) (μ (ix t 13))) t := by unfold mspent; rw [if_neg hl]
      rw [hk] at k
      have hM3 := hM2.keep e3
      refine q_put hM3 (ev_var rfl) (ev_var rfl) ev_c (ev_word hM3 (ev_var rfl) (ev_var rfl) ev_c (by omega)) (by omega) fun H4 h4 f4 => ?_
      generalize mset μ (ix t 14) (μ (ix t 13)) = μ1 at d1 d2 d3 d4 h4 k
      obtain ⟨g1, g2, g3⟩ := d4 _ rfl
      have f14 := (Fr.of (wl := wl) ((e1.trans e2).trans e3)).trans f4
      refine ⟨_, rfl, _, rfl, _, rfl, m, wl, μ1, t, rfl, h4, hI, fun pl H5 hpl e5 h5 => ⟨_, rfl, m, wl, pl, μ1, 0, 4 + mnum μ1 t, 12 + mnum μ1 t, t, rfl, h4.keep e5, h5, hI, by omega, by omega, d3, fun H6 h6 f6 => ?_⟩⟩
      unfold mturn at k
      generalize mtake μ1 0 (4 + mnum μ1 t) (12 + mnum μ1 t) t = μ2 at g1 g2 g3 h6 k
      have f16 := (f14.trans (Fr.of e5)).trans f6
      refine ⟨_, rfl, _, rfl, _, rfl, m, wl, μ2, t, rfl, h6, hI, fun pl H7 hpl e7 h7 => ⟨_, rfl, m, wl, pl, μ2, 0, 4 + mnum μ2 t, 12 + mnum μ2 t, t, rfl, h6.keep e7, h7, hI, by omega, by omega, g3, fun H8 h8 f8 => ?_⟩⟩
      exact k H8 h8 ((f16.trans (Fr.of e7)).trans f8)
end
end KA

namespace KA
open PySem PySem.Spec PyProof.Rows L2 Evl TL
section
variable {P : Program} {w : World} {K : PySem.W.Frag} {mg : Str → Option Value} {base : Heap}
def mtrap0 (μ : Mem) (t : Int) : Mem := mset (mset μ (ix t 14) 1) (ix t 2) 0
/-- the trap 0 -/
def sp_trap (K : PySem.W.Frag) : Sp := fun vs H Q _ => ∃ (m wl : Addr) (μ : Mem) (t : Int), vs = [.ref m, .int t, .int 0] ∧ MemAt K H m wl μ ∧ 2 ≤ t ∧ t < 32 ∧ μ (ix 1 t) = 5 ∧ ∀ H', MemAt K H' m wl (mtrap0 μ t) → Fr wl H H' → Q (.bl true) H'
theorem mset_ne {μ : Mem} {i j : Nat} {x : Int} (h : j ≠ i) : mset μ i x j = μ j := if_neg h
theorem mset_same {μ : Mem} {i : Nat} {x : Int} : mset μ i x i = x % 65536 := if_pos rfl
theorem ok_trap (T : Txt K mg) : FnOk P w K mg base CX0 3 (f_trap K) (fd_trap K) ["memory", "thread", "number"] (sp_trap K) := by
  refine T.fn_trap.ok sc_trap (fun vs H Q E h => ?_) (fun cdv A outer s H vs Q E hr h => ⟨_, PSs.nox (pss_cons (ps_if (pt_cmpR op_ge (pv 2) pe_int (nomark _)) (pss_one (ps_ret pe_bl)) pss_nil) (pss_cut (ps_if (pt_cmpR op_eq (pv 2) pe_int (nomark _)) (pss_cons (ps_expr (pe_meth (pv 0) (T.cl_Memory) (T.mt_Memory_put) (ok_Memory_put T) (hr.mono (by decide)) (T.bd_Memory_put) .nil pass0 (pa_cons (pv 1) (pa_cons (T.pg_T_LEFT) (pa_cons pe_int pa_nil))))) (pss_one (ps_set (i := 3) sc_trap.nd rfl (Or.inl rfl) (T.pg_OK)))) (pss_one (ps_if (pt_cmpR op_in_seq (pv 2) (pe_tup (pa_cons pe_int (pa_cons pe_int pa_nil))) (by rfl)) (pss_one ps_never) (pss_one (ps_if (PW.pt (pw_or (pt_cmpR op_eq (pv 2) pe_int (nomark _)) (pw_or1 (pt_cmpR op_eq (pv 2) pe_int (nomark _))))) (pss_cons ps_never (pss_cons ps_never (pss_one ps_never))) (pss_one (ps_if (pt_cmpR op_in_seq (pv 2) (pe_tup (pa_cons pe_int (pa_cons pe_int (pa_cons pe_int pa_nil)))) (by rfl)) (pss_one ps_never) (pss_one ps_never)))))))) (pss_cut (ps_if (PW.pt (pw_and (pt_cmpR op_notN (pv 3) pe_non (nomark _)) (pw_and1 (pt_cmpR op_eq (pe_meth (pv 0) (T.cl_Memory) (T.mt_Memory_word) (ok_Memory_word T) (hr.mono (by decide)) (T.bd_Memory_word) .nil pass0 (pa_cons (T.pg_KIND_FRAME) (pa_cons (pv 1) pa_nil))) (T.pg_THREAD) (nomark _))))) (pss_one (ps_expr (pe_call (ok_put_register T) (hr.mono (by decide)) (by rfl) (T.glo_put_register) (T.kp_put_register) (T.bd_put_register) .nil pass0 (pa_cons (pv 0) (pa_cons (pv 1) (pa_cons pe_int (pa_cons (pv 3) pa_nil))))))) pss_nil) (pss_one (ps_ret pe_bl))))), ?_⟩)
  · obtain ⟨_, _, _, _, rfl, _⟩ := h
    rfl
  · obtain ⟨m, wl, μ, t, rfl, hM, hI1, hI2, h5, k⟩ := h
    refine q_when (b := false) (et_is (et_test (ev_op (ev_var rfl) ev_c rv_I0)) rfl) (fun h => by cases h) fun _ H1 e1 => ?_
    refine q_cut (M := fun σ' H' => σ' = [some (.ref m), some (.int t), some (.int 0), some (.int 0), none] ∧ MemAt K H' m wl (mset μ (ix t 14) 1) ∧ Fr wl H H') ?_ ?_
    · refine s_if (b := true) (et_is (et_test (ev_op (ev_var rfl) ev_c (rv_eq rfl))) rfl) (fun _ H2 e2 => ?_) (fun h => by cases h)
      refine q_put (hM.keep (e1.trans e2)) (ev_var rfl) (ev_var rfl) ev_c ev_c (by omega) fun H3 h3 f3 => ?_
      exact s_asg ev_c fun H4 e4 => ⟨rfl, h3.keep e4, ((Fr.of (e1.trans e2)).trans f3).trans (Fr.of e4)⟩
    rintro σ' H2 ⟨rfl, h2, f2⟩
    refine q_cut (M := fun σ' H' => MemAt K H' m wl (mtrap0 μ t) ∧ Fr wl H H') ?_ ?_
    · refine s_when (b := true) (et_is (et_and (et_test (ev_op (ev_var rfl) ev_c rv_notN)) fun _ => et_test (ev_op (ev_word h2 (ev_var rfl) ev_c (ev_var rfl) (by omega)) ev_c (rv_eq rfl))) ?_) (fun _ H3 e3 => ?_) (fun h => by cases h)
      · have : mset μ (ix t 14) 1 (ix 1 t) = 5 := by
          rw [mset_ne (by unfold ix; omega)]
          exact h5
        rw [this]
        rfl
      · refine ⟨_, rfl, _, rfl, _, rfl, m, wl, _, t, 0, 0, rfl, h2.keep e3, ⟨by omega, by omega⟩, by decide, by decide, fun H4 h4 f4 => ⟨h4, (f2.trans (Fr.of e3)).trans f4⟩⟩
    rintro σ' H3 ⟨h3, f3⟩
    exact s_ret ev_c fun H4 e4 => k H4 (h3.keep e4) (f3.trans (Fr.of e4))
/-- any_trap of 0 -/
theorem ok_any_trap (T : Txt K mg) : FnOk P w K mg base CX0 4 (f_any_trap K) (fd_any_trap K) ["memory", "thread", "number"] (sp_trap K) := by
  refine T.fn_any_trap.ok sc_any_trap (fun vs H Q E h => ?_) (fun cdv A outer s H vs Q E hr h => ⟨_, PSs.nox (pss_cons (ps_if (pt_cmpR op_in_seq (pv 2) (pe_tup (pa_cons pe_int (pa_cons pe_int pa_nil))) (by rfl)) (pss_cons ps_never (pss_one (ps_ret pe_bl))) pss_nil) (pss_one (ps_ret (pe_call (ok_trap T) (hr.mono (by decide)) (by rfl) (T.glo_trap) (T.kp_trap) (T.bd_trap) .nil pass0 (pa_cons (pv 0) (pa_cons (pv 1) (pa_cons (pv 2) pa_nil))))))), ?_⟩)
  · obtain ⟨_, _, _, _, rfl, _⟩ := h
    rfl
  · obtain ⟨m, wl, μ, t, rfl, hM, hI1, hI2, h5, k⟩ := h
    refine q_when (b := false) (et_is (et_test (ev_inU (ev_var rfl) (eu_tup (ea_cons ev_c (ea_cons ev_c ea_nil)) (by show 2 ≤ 100000; decide)) rfl rfl)) (by decide)) (fun h => by cases h) fun _ H1 e1 => ?_
    exact ⟨_, rfl, _, rfl, _, rfl, m, wl, μ, t, rfl, hM.keep e1, hI1, hI2, h5, fun H' h' f' => k H' h' ((Fr.of e1).trans f')⟩
/-- no device is there -/
def sp_devices_go (K : PySem.W.Frag) : Sp := fun vs H Q _ => ∃ (m wl : Addr) (μ : Mem), vs = [.ref m] ∧ MemAt K H m wl μ ∧ (∀ i : Nat, i < 32 → μ (ix 1 (i : Int)) ≠ 8) ∧ ∀ H', Ex H H' → Q .non H'
theorem ok_devices_go (T : Txt K mg) : FnOk P w K mg base CX0 4 (f_devices_go K) (fd_devices_go K) ["memory"] (sp_devices_go K) := by
  refine T.fn_devices_go.ok sc_devices_go (fun vs H Q E h => ?_) (fun cdv A outer s H vs Q E hr h => ⟨_, PSs.nox (pss_one (ps_for PassesOwn.never rfl (pi_list (pe_call (ok_frames_of T) (hr.mono (by decide)) (by rfl) (T.glo_frames_of) (T.kp_frames_of) (T.bd_frames_of) .nil pass0 (pa_cons (pv 0) (pa_cons (T.pg_DEVICE) pa_nil)))) (pg_name (i := 1) sc_devices_go.nd rfl (Or.inl rfl)) (pss_one ps_never))), ?_⟩)
  · obtain ⟨_, _, _, rfl, _⟩ := h
    rfl
  · obtain ⟨m, wl, μ, rfl, hM, h8, k⟩ := h
    have hnil : framesV μ 8 = [] := by
      unfold framesV given
      rw [List.filter_eq_nil_iff.mpr, List.map_nil]
      intro i hi
      have := h8 i (List.mem_range.mp hi)
      simp [this]
    refine s_forNL (K := K) (xs := []) (fun H1 e Q q => ⟨_, rfl, m, wl, μ, 8, rfl, hM.keep e, fun p H2 hp e2 h2 => q p H2 hp e2 (by rw [h2, hnil])⟩) (fun p i σ' H' => Ex H H' ∧ H' p = some (.lst [])) (fun p H1 hp e h => ⟨e, h⟩) (fun p i σ' H' _ h => sq_of h.2) (fun p i x σ' H' hi => by cases hi) (fun p σ' H' h => k H' h.1)
/-- the time's part goes on -/
def mpart (μ : Mem) : Mem × Bool :=
  if μ (ix 0 2) > 1 then (mset μ (ix 0 2) (μ (ix 0 2) - 1), false)
  else
    (mset (mset μ (ix 0 1) (if 4 ≤ μ (ix 0 1) + 1 ∨ μ (ix 0 (24 + (μ (ix 0 1) + 1))) % 256 = 0 then 0 else μ (ix 0 1) + 1)) (ix 0 2) (mset μ (ix 0 1) (if 4 ≤ μ (ix 0 1) + 1 ∨ μ (ix 0 (24 + (μ (ix 0 1) + 1))) % 256 = 0 then 0 else μ (ix 0 1) + 1) (ix 0 (24 + if 4 ≤ μ (ix 0 1) + 1 ∨ μ (ix 0 (24 + (μ (ix 0 1) + 1))) % 256 = 0 then 0 else μ (ix 0 1) + 1)) % 256), true)
def sp_next_part (K : PySem.W.Frag) : Sp := fun vs H Q _ => ∃ (m wl : Addr) (μ : Mem), vs = [.ref m] ∧ MemAt K H m wl μ ∧ 0 ≤ μ (ix 0 1) ∧ μ (ix 0 1) < 4 ∧ ∀ H', MemAt K H' m wl (mpart μ).1 → Fr wl H H' → Q (.bl (mpart μ).2) H'
theorem ok_next_part (T : Txt K mg) : FnOk P w K mg base CX0 2 (f_next_part K) (fd_next_part K) ["memory"] (sp_next_part K) := by
  refine T.fn_next_part.ok sc_next_part (fun vs H Q E h => ?_) (fun cdv A outer s H vs Q E hr h => ⟨_, PSs.nox (pss_cons (ps_set (i := 1) sc_next_part.nd rfl (Or.inl rfl) (pe_meth (pv 0) (T.cl_Memory) (T.mt_Memory_word) (ok_Memory_word T) (hr.mono (by decide)) (T.bd_Memory_word) .nil pass0 (pa_cons (T.pg_KERNEL) (pa_cons (T.pg_K_LEFT) pa_nil)))) (pss_cons (ps_if (pt_cmpR op_gt (pv 1) pe_int (nomark _)) (pss_cons (ps_expr (pe_meth (pv 0) (T.cl_Memory) (T.mt_Memory_put) (ok_Memory_put T) (hr.mono (by decide)) (T.bd_Memory_put) .nil pass0 (pa_cons (T.pg_KERNEL) (pa_cons (T.pg_K_LEFT) (pa_cons (pe_op op_sub (pv 1) pe_int) pa_nil))))) (pss_one (ps_ret pe_bl))) pss_nil) (pss_cons (ps_set (i := 2) sc_next_part.nd rfl (Or.inl rfl) (pe_op op_add (pe_meth (pv 0) (T.cl_Memory) (T.mt_Memory_word) (ok_Memory_word T) (hr.mono (by decide)) (T.bd_Memory_word) .nil pass0 (pa_cons (T.pg_KERNEL) (pa_cons (T.pg_K_PART) pa_nil))) pe_int)) (pss_cut (ps_if (PW.pt (pw_or (pt_cmpR op_ge (pv 2) (T.pg_PARTS) (nomark _)) (pw_or1 (pt_cmpR op_eq (pe_op op_mod (pe_meth (pv 0) (T.cl_Memory) (T.mt_Memory_word) (ok_Memory_word T) (hr.mono (by decide)) (T.bd_Memory_word) .nil pass0 (pa_cons (T.pg_KERNEL) (pa_cons (pe_op op_add (T.pg_K_PLAN) (pv 2)) pa_nil))) pe_int) pe_int (nomark _))))) (pss_one (ps_set (i := 2) sc_next_part.nd rfl (Or.inl rfl) pe_int)) pss_nil) (pss_cons (ps_expr (pe_meth (pv 0) (T.cl_Memory) (T.mt_Memory_put) (ok_Memory_put T) (hr.mono (by decide)) (T.bd_Memory_put) .nil pass0 (pa_cons (T.pg_KERNEL) (pa_cons (T.pg_K_PART) (pa_cons (pv 2) pa_nil))))) (pss_cons (ps_expr (pe_meth (pv 0) (T.cl_Memory) (T.mt_Memory_put) (ok_Memory_put T) (hr.mono (by decide)) (T.bd_Memory_put) .nil pass0 (pa_cons (T.pg_KERNEL) (pa_cons (T.pg_K_LEFT) (pa_cons (pe_op op_mod (pe_meth (pv 0) (T.cl_Memory) (T.mt_Memory_word) (ok_Memory_word T) (hr.mono (by decide)) (T.bd_Memory_word) .nil pass0 (pa_cons (T.pg_KERNEL) (pa_cons (pe_op op_add (T.pg_K_PLAN) (pv 2)) pa_nil))) pe_int) pa_nil))))) (pss_one (ps_ret pe_bl)))))))), ?_⟩)
  · obtain ⟨_, _, _, rfl, _⟩ := h
    rfl
  · obtain ⟨m, wl, μ, rfl, hM, h1, h2, k⟩ := h
    refine q_asg (ev_word hM (ev_var rfl) ev_c ev_c (by omega)) fun H1 e1 => ?_
    have hM1 := hM.keep e1
    refine q_when (et_test (ev_op (ev_var rfl) ev_c rv_I0)) (fun hb H2 e2 => ?_) (fun hb H2 e2 => ?_)
    · have hl : μ (ix 0 2) > 1 := of_decide_eq_true hb
      have hp : mpart μ = (mset μ (ix 0 2) (μ (ix 0 2) - 1), false) := by unfold mpart; rw [if_pos hl]
      rw [hp] at k
      refine q_put (hM1.keep e2) (ev_var rfl) ev_c ev_c (ev_op (ev_var rfl) ev_c rv_I0) (by omega) fun H3 h3 f3 => ?_
      exact s_ret ev_c fun H4 e4 => k H4 (h3.keep e4) (((Fr.of (e1.trans e2)).trans f3).trans (Fr.of e4))
    · have hl : ¬ μ (ix 0 2) > 1 := of_decide_eq_false hb
      have hM2 := hM1.keep e2
      obtain ⟨r, hr⟩ : ∃ r : Int, r = if 4 ≤ μ (ix 0 1) + 1 ∨ μ (ix 0 (24 + (μ (ix 0 1) + 1))) % 256 = 0 then 0 else μ (ix 0 1) + 1 := ⟨_, rfl⟩
      have hp : mpart μ = (mset (mset μ (ix 0 1) r) (ix 0 2) (mset μ (ix 0 1) r (ix 0 (24 + r)) % 256), true) := by unfold mpart; rw [if_neg hl, ← hr]
      rw [hp] at k
      have hr4 : 0 ≤ r ∧ r < 4 := by
        rw [hr]
        split <;> omega
      refine q_asg (ev_op (ev_word hM2 (ev_var rfl) ev_c ev_c (by omega)) ev_c rv_I0) fun H3 e3 => ?_
      have hM3 := hM2.keep e3
      refine q_cut (M := fun σ' H' => σ' = [some (.ref m), some (.int (μ (ix 0 2))), some (.int r)] ∧ MemAt K H' m wl μ ∧ Ex H H') ?_ ?_
      · by_cases hc : 4 ≤ μ (ix 0 1) + 1
        · have hr0 : r = 0 := by rw [hr, if_pos (.inl hc)]
          refine s_when (b := true) (et_is (et_or (a := true) (b := true) (et_is (et_test (ev_op (ev_var rfl) ev_c rv_I0)) (decide_eq_true hc)) fun h => by cases h) rfl) (fun _ H4 e4 => s_asg ev_c fun H5 e5 => ⟨by rw [hr0]; rfl, hM3.keep (e4.trans e5), (((e1.trans e2).trans e3).trans e4).trans e5⟩) (fun h => by cases h)
        · refine s_when (b := decide (V.int (μ (ix 0 (24 + (μ (ix 0 1) + 1))) % 256) = V.int 0)) (et_is (et_or (a := false) (et_is (et_test (ev_op (ev_var rfl) ev_c rv_I0)) (decide_eq_false hc)) fun _ => et_test (ev_op (ev_op (ev_word hM3 (ev_var rfl) ev_c (ev_op ev_c (ev_var rfl) rv_I0) (by omega)) ev_c (rv_I (by decide))) ev_c (rv_eq rfl))) rfl) (fun hb H4 e4 => ?_) (fun hb H4 e4 => ?_)
          · have hz : μ (ix 0 (24 + (μ (ix 0 1) + 1))) % 256 = 0 := V.int.inj (of_decide_eq_true hb)
            have hr0 : r = 0 := by rw [hr, if_pos (.inr hz)]
            exact s_asg ev_c fun H5 e5 => ⟨by rw [hr0]; rfl, hM3.keep (e4.trans e5), (((e1.trans e2).trans e3).trans e4).trans e5⟩
          · have hz : ¬ μ (ix 0 (24 + (μ (ix 0 1) + 1))) % 256 = 0 := fun z => of_decide_eq_false hb (by rw [z])
            have hr0 : r = μ (ix 0 1) + 1 := by rw [hr, if_neg (fun z => z.elim hc hz)]
            exact ⟨by rw [hr0]; rfl, hM3.keep e4, ((e1.trans e2).trans e3).trans e4⟩
      rintro σ' H4 ⟨rfl, h4, e4⟩
      refine q_put h4 (ev_var rfl) ev_c ev_c (ev_var rfl) (by omega) fun H5 h5 f5 => ?_
      refine q_put h5 (ev_var rfl) ev_c ev_c (ev_op (ev_word h5 (ev_var rfl) ev_c (ev_op ev_c (ev_var rfl) rv_I0) (by omega)) ev_c (rv_I (by decide))) (by omega) fun H6 h6 f6 => ?_
      exact s_ret ev_c fun H7 e7 => k H7 (h6.keep e7) ((((Fr.of e4).trans f5).trans f6).trans (Fr.of e7))
def mreck (op a b : Int) : Int := if op = 2 then a + b else a * b
def sp_reckoned : Sp := fun vs H Q _ => ∃ op a b : Int, vs = [.int op, .int a, .int b] ∧ (op = 2 ∨ op = 8) ∧ 0 ≤ a ∧ a < 65536 ∧ ∀ H', Ex H H' → Q (.int (mreck op a b)) H'
theorem ok_reckoned (T : Txt K mg) : FnOk P w K mg base CX0 1 (f_reckoned K) (fd_reckoned K) ["op", "one", "other"] sp_reckoned := by
  refine T.fn_reckoned.ok sc_reckoned (fun vs H Q E h => ?_) (fun cdv A outer s H vs Q E hr h => ⟨_, PSs.nox (pss_cons (ps_if (pt_cmpR op_eq (pv 0) pe_int (nomark _)) (pss_one (ps_ret (pe_op op_add (pv 1) (pv 2)))) pss_nil) (pss_cons (ps_if (pt_cmpR op_eq (pv 0) pe_int (nomark _)) (pss_one (ps_ret (pe_op op_sub (pv 1) (pv 2)))) pss_nil) (pss_cons (ps_if (pt_cmpR op_eq (pv 0) pe_int (nomark _)) (pss_one (ps_ret (pe_op op_mul (pv 1) (pv 2)))) pss_nil) (pss_one (ps_ret (pe_ifExp (pt_cmpR op_eq (pv 0) pe_int (nomark _)) (pe_callTy call_int1 (by rfl) T.free_int (by decide +kernel) (pa_cons (pe_cmpR op_lt (pv 1) (pv 2) (nomark _)) pa_nil)) (pe_op op_and (pv 1) (pv 2)))))))), ?_⟩)
  · obtain ⟨_, _, _, rfl, _⟩ := h
    rfl
  · obtain ⟨op, a, b, rfl, ho, a0, a1, k⟩ := h
    rcases ho with rfl | rfl
    · refine q_when (b := true) (et_is (et_test (ev_op (ev_var rfl) ev_c (rv_eq rfl))) rfl) (fun _ H1 e1 => ?_) (fun h => by cases h)
      exact s_ret (ev_op (ev_var rfl) (ev_var rfl) rv_I0) fun H2 e2 => k H2 (e1.trans e2)
    · refine q_when (b := false) (et_is (et_test (ev_op (ev_var rfl) ev_c (rv_eq rfl))) rfl) (fun h => by cases h) fun _ H1 e1 => ?_
      refine q_when (b := false) (et_is (et_test (ev_op (ev_var rfl) ev_c (rv_eq rfl))) rfl) (fun h => by cases h) fun _ H2 e2 => ?_
      refine q_when (b := true) (et_is (et_test (ev_op (ev_var rfl) ev_c (rv_eq rfl))) rfl) (fun _ H3 e3 => ?_) (fun h => by cases h)
      exact s_ret (ev_op (ev_var rfl) (ev_var rfl) (rv_I (.inl ⟨by omega, by omega⟩))) fun H4 e4 => k H4 (((e1.trans e2).trans e3).trans e4)
end
end KA

namespace KA
open PySem PySem.Spec PyProof.Rows L2 Evl TL
/-- xs[j] as a thing to be read and stored -/
def rGetL (K : PySem.W.Frag) : V → V → Hp → VK → Prop := fun o i H Q => ∃ p xs, ∃ j : Nat, ∃ v, o = .ref p ∧ i = .int (j : Int) ∧ SqL K H p xs ∧ xs[j]? = some v ∧ (j : Int) < 2 ^ 62 ∧ Q v H
theorem get_list {X : Cx} : PGet X (rGetL X.K) := by
  intro pins s σ H o i ov iv Q I ro ri h
  obtain ⟨p, xs, j, v, rfl, rfl, hq, hx, hj, q⟩ := h
  cases ro
  obtain ⟨t, rfl⟩ := ri
  obtain ⟨its, r, pl, hz⟩ := I.list hq
  obtain ⟨u, hu, ru⟩ := r.get hx
  exact wpAny_getItem_list pl.isList (by omega) (by omega) (by simpa using hu) ⟨v, H, I, ru, q⟩
section
variable {σ : L2.St} {H : Hp} {K : PySem.W.Frag} {D : Ends}
theorem eu_tupNL {ta : TE} {xs : List V} (ha : EvL ta σ H xs) : EvU (tCB (rTupK K) (tCons ta tNil)) σ H xs := fun H1 e Q q =>
  ha H1 e _ fun p H2 hp e2 h2 => ⟨p, xs, rfl, .inl ⟨sq_of h2, fun l hl => q l _ (fresh_back e2 hl) (e2.trans (Ex.new hl)) upd_same⟩⟩
/-- xs[j] += e -/
theorem s_augL {to te : TE} {l : Addr} {xs : List V} {j : Nat} {a b : Int} (ho : Ev to σ H (.ref l)) (hl : H l = some (.lst xs)) (hx : xs[j]? = some (.int a)) (hj : j < 1000000) (he : Ev te σ H (.int b)) (k : ∀ H1, Ex H H1 → D.nx σ (upd H1 l (.lst (xs.set j (.int (a + b)))))) :
    tAugS to (tC (.int (j : Int))) te (rGetL K) (ipI fun i j => i + j) rSetL D σ H := ho H (Ex.refl H) _ fun H1 e1 =>
  ⟨l, xs, j, .int a, rfl, rfl, sq_of (e1 _ _ hl), hx, by omega, he H1 e1 _ fun H2 e2 => ⟨a, b, rfl, rfl, l, xs, (j : Int), j, rfl, rfl, (e1.trans e2) _ _ hl, ixN_nat (List.getElem?_eq_some_iff.mp hx).1, k H2 (e1.trans e2)⟩⟩
theorem q_augL {to te : TE} {tz : TS} {l : Addr} {xs : List V} {j : Nat} {a b : Int} (ho : Ev to σ H (.ref l)) (hl : H l = some (.lst xs)) (hx : xs[j]? = some (.int a)) (hj : j < 1000000) (he : Ev te σ H (.int b)) (k : ∀ H1, Ex H H1 → tz D σ (upd H1 l (.lst (xs.set j (.int (a + b)))))) :
    tSeq (tAugS to (tC (.int (j : Int))) te (rGetL K) (ipI fun i j => i + j) rSetL) tz D σ H := s_augL (D := { D with nx := tz D }) ho hl hx hj he k
end
/-- all stands but what stands in S -/
def FS (S : List Addr) (H H' : Hp) : Prop := ∀ b o, H b = some o → b ∉ S → H' b = some o
theorem FS.of {S : List Addr} {H H' : Hp} (e : Ex H H') : FS S H H' := fun b o h _ => e b o h
theorem FS.trans {S : List Addr} {H H1 H2 : Hp} (a : FS S H H1) (b : FS S H1 H2) : FS S H H2 := fun c o h n => b c o (a c o h n) n
theorem FS.put {S : List Addr} {H : Hp} {l : Addr} {o : HO} (hl : l ∈ S) : FS S H (L2.upd H l o) := fun b u h n => by
  have : b ≠ l := fun z => n (by rw [z]; exact hl)
  rw [upd_ne this]
  exact h
theorem FS.fr {S : List Addr} {wl : Addr} {H H' : Hp} (f : Fr wl H H') (hl : wl ∈ S) : FS S H H' := fun b o h n => f b o h (fun z => n (by rw [z]; exact hl))
abbrev Ent : Type := Int → Int → Int → Int
def entV (ent : Ent) (tb pg : Int) : List V := [.int (ent tb pg 0), .int (ent tb pg 1), .int (ent tb pg 2)]
section
variable {P : Program} {w : World} {K : PySem.W.Frag} {mg : Str → Option Value} {base : Heap}
def sp_entry_at (K : PySem.W.Frag) : Sp := fun vs H Q _ => ∃ (m wl : Addr) (μ : Mem) (f p : Int), vs = [.ref m, .int f, .int p] ∧ MemAt K H m wl μ ∧ InF f ∧ μ (ix 1 f) ≠ 8 ∧ ∀ H', Ex H H' → Q (.int (p * 4)) H'
theorem ok_entry_at (T : Txt K mg) : FnOk P w K mg base CX0 3 (f_entry_at K) (fd_entry_at K) ["memory", "frame", "page"] (sp_entry_at K) := by
  refine T.fn_entry_at.ok sc_entry_at (fun vs H Q E h => ?_) (fun cdv A outer s H vs Q E hr h => ⟨_, PSs.nox (pss_one (ps_ret (pe_op op_add (pe_op op_mul (pv 2) pe_int) (pe_ifExp (pt_cmpR op_eq (pe_call (ok_kind_of T) (hr.mono (by decide)) (by rfl) (T.glo_kind_of) (T.kp_kind_of) (T.bd_kind_of) .nil pass0 (pa_cons (pv 0) (pa_cons (pv 1) pa_nil))) (T.pg_DEVICE) (nomark _)) pe_int pe_int)))), ?_⟩)
  · obtain ⟨_, _, _, _, _, rfl, _⟩ := h
    rfl
  · obtain ⟨m, wl, μ, f, p, rfl, hM, hI, h8, k⟩ := h
    refine s_ret (ev_is (ev_op (ev_op (ev_var rfl) ev_c (rv_I (.inr ⟨by decide, by decide⟩))) (ev_if (b := false) (v := .int 0) (et_is (et_test (ev_op (ev_kind hM (ev_var rfl) (ev_var rfl) hI) ev_c (rv_eq rfl))) (decide_eq_false fun z => h8 (V.int.inj z))) (fun h => by cases h) fun _ => ev_c) rv_I0) (by simp)) k
def sp_entry (K : PySem.W.Frag) : Sp := fun vs H Q _ => ∃ (m wl : Addr) (μ : Mem) (f p : Int), vs = [.ref m, .int f, .int p] ∧ MemAt K H m wl μ ∧ InF f ∧ 0 ≤ p ∧ p < 8 ∧ μ (ix 1 f) ≠ 8 ∧
  ∀ q H', H q = none → Ex H H' → H' q = some (.tup (entV (fun tb pg i => μ (ix tb (pg * 4 + i))) f p)) → Q (.ref q) H'
theorem ok_entry (T : Txt K mg) : FnOk P w K mg base CX0 4 (f_entry K) (fd_entry K) ["memory", "table", "page"] (sp_entry K) := by
  refine T.fn_entry.ok sc_entry (fun vs H Q E h => ?_) (fun cdv A outer s H vs Q E hr h => ⟨_, PSs.nox (pss_one (ps_ret (pe_callTy call_tuple_of (by rfl) T.free_tuple (by decide +kernel) (pa_cons (pe_lc (own := [("k", 3)]) (by rfl) sc_entry.nd (pi_range1 (by rfl) T.free_range (pa_cons pe_int pa_nil)) (blkOk_by (N := sc_entry_N) (sc := defScope s_entry) (own := [("k", 3)]) (by decide +kernel)) (fun _ _ _ _ _ => (pg_name (i := 3) sc_entry.nd rfl (Or.inl rfl))) (fun _ _ _ _ _ => pts_nil) (fun _ _ _ _ _ => (pe_meth (pv 0) (T.cl_Memory) (T.mt_Memory_word) (ok_Memory_word T) (hr.mono (by decide)) (T.bd_Memory_word) .nil pass0 (pa_cons (pv 1) (pa_cons (pe_op op_add (pe_call (ok_entry_at T) (hr.mono (by decide)) (by rfl) (T.glo_entry_at) (T.kp_entry_at) (T.bd_entry_at) .nil pass0 (pa_cons (pv 0) (pa_cons (pv 1) (pa_cons (pv 2) pa_nil)))) (pv 3)) pa_nil))))) pa_nil)))), ?_⟩)
  · obtain ⟨_, _, _, _, _, rfl, _⟩ := h
    rfl
  · obtain ⟨m, wl, μ, f, p, rfl, hM, hI, p0, p1, h8, k⟩ := h
    refine s_retU (eu_tupNL (K := K) ?_) k
    exact el_lcR1 (n := 3) (fun _ => true) (fun i => .int (μ (ix f (p * 4 + (i : Int))))) (ea_cons ev_c ea_nil) (by decide) (fun x => rfl) (fun i H1 e1 hi => et_yes) (fun i H1 e1 hi _ => ev_word (hM.keep e1) (ev_var rfl) (ev_var rfl) (ev_op (ev_pure (z := .int (p * 4)) (ea_cons (ev_var rfl) (ea_cons (ev_var rfl) (ea_cons (ev_var rfl) ea_nil))) fun H2 e2 Q q => ⟨m, wl, μ, f, p, rfl, hM.keep (e1.trans e2), hI, h8, q⟩) (ev_var rfl) rv_I0) (by omega))
/-! ### the machine -/
abbrev CMa (K : PySem.W.Frag) : Addr := He.ga K "Machine"
def KeptOk (ent : Ent) (H : Hp) (v : V) : Prop := ∃ q tb pg e, v = .ref q ∧ H q = some (.tup [.int tb, .int pg, .ref e]) ∧ H e = some (.tup (entV ent tb pg))
theorem KeptOk.mono {ent : Ent} {H H' : Hp} {v : V} (h : KeptOk ent H v) (k : ∀ b xs, H b = some (.tup xs) → H' b = some (.tup xs)) : KeptOk ent H' v := by
  obtain ⟨q, tb, pg, e, h1, h2, h3⟩ := h
  exact ⟨q, tb, pg, e, h1, k _ _ h2, k _ _ h3⟩
structure MachAt (K : PySem.W.Frag) (H : Hp) (mc m wl cl : Addr) (ent : Ent) : Prop where
  ex : ∃ dx kl c0 c1 kept, H mc = some (.ins (CMa K) dx [("_memory", .ref m), ("_most", .int 4), ("_kept", .ref kl), ("_counts", .ref cl)]) ∧ H kl = some (.lst kept) ∧ H cl = some (.lst [.int c0, .int c1]) ∧ kl ≠ cl ∧ kl ≠ wl ∧ kept.length ≤ 4 ∧ ∀ v ∈ kept, KeptOk ent H v
theorem MachAt.keep {H H' : Hp} {mc m wl cl : Addr} {ent : Ent} (h : MachAt K H mc m wl cl ent) (e : Ex H H') : MachAt K H' mc m wl cl ent := by
  obtain ⟨dx, kl, c0, c1, kept, h1, h2, h3, h4, h4w, h5, h6⟩ := h
  exact ⟨dx, kl, c0, c1, kept, e _ _ h1, e _ _ h2, e _ _ h3, h4, h4w, h5, fun v hv => (h6 v hv).mono fun b xs h => e _ _ h⟩
end
end KA

namespace KA
open PySem PySem.Spec PyProof.Rows L2 Evl TL
section
variable {σ : L2.St} {H : Hp} {K : PySem.W.Frag} {D : Ends}
theorem ev_fld {ta : TE} {a C dx : Addr} {fs : List (Str × V)} {f : Str} {v : V} (ha : Ev ta σ H (.ref a)) (h : H a = some (.ins C dx fs)) (c : Cls K C) (n : NoAttr K C f) (l : fs.lookup f = some v) : Ev (tFld K ta f) σ H v := fun H1 e Q q =>
  ha H1 e _ fun H2 e2 => ⟨a, C, dx, fs, v, rfl, (e.trans e2) _ _ h, c, n, l, q H2 e2⟩
theorem q_fldL {ta tv : TE} {tz : TS} {a C dx : Addr} {fs : List (Str × V)} {f : Str} {xs : List V} (hv : EvL tv σ H xs) (ha : Ev ta σ H (.ref a)) (h : H a = some (.ins C dx fs)) (c : Cls K C) (n : NoAttr K C f) (hl : fs.length < 1000)
    (k : ∀ p H1, H p = none → Ex H H1 → H1 p = some (.lst xs) → tz D σ (upd H1 a (.ins C dx (putF f (.ref p) fs)))) : tSeq (sFld K ta tv f) tz D σ H := hv H (Ex.refl H) _ fun p H1 hp e1 h1 => ha H1 e1 _ fun H2 e2 =>
  ⟨a, C, dx, fs, rfl, (e1.trans e2) _ _ h, c, n, hl, k p H2 hp (e1.trans e2) (e2 _ _ h1)⟩
theorem s_fldL {ta tv : TE} {a C dx : Addr} {fs : List (Str × V)} {f : Str} {xs : List V} (hv : EvL tv σ H xs) (ha : Ev ta σ H (.ref a)) (h : H a = some (.ins C dx fs)) (c : Cls K C) (n : NoAttr K C f) (hl : fs.length < 1000)
    (k : ∀ p H1, H p = none → Ex H H1 → H1 p = some (.lst xs) → D.nx σ (upd H1 a (.ins C dx (putF f (.ref p) fs)))) : sFld K ta tv f D σ H := hv H (Ex.refl H) _ fun p H1 hp e1 h1 => ha H1 e1 _ fun H2 e2 =>
  ⟨a, C, dx, fs, rfl, (e1.trans e2) _ _ h, c, n, hl, k p H2 hp (e1.trans e2) (e2 _ _ h1)⟩
theorem el_slNL {te : TE} {tl th : TO} {xs : List V} {lo hi : Option Int} (h : EvL te σ H xs) (h1 : ∀ H1, Ex H H1 → EvO tl σ H1 lo) (h2 : ∀ H1, Ex H H1 → EvO th σ H1 hi) : EvL (tSl (rSlL K) te tl th) σ H (cutV xs lo hi) := fun H1 e _ q =>
  h H1 e _ fun p H2 hp e2 hx => h1 H2 (e.trans e2) H2 (Ex.refl H2) _ fun H3 e3 => h2 H3 ((e.trans e2).trans e3) H3 (Ex.refl H3) _ fun H4 e4 =>
    ⟨p, xs, rfl, sq_of ((e3.trans e4) _ _ hx), fun l hl => q l _ (fresh_back ((e2.trans e3).trans e4) hl) (((e2.trans e3).trans e4).trans (Ex.new hl)) upd_same⟩
/-- x + [t], t a new tuple of values -/
theorem el_cat1 {ta : TE} {ts : TA} {l : Addr} {xs : List V} (ha : Ev ta σ H (.ref l)) (hl : H l = some (.lst xs)) (hz : xs.length ≤ 1000) {vs : List V} (ht : EvA ts σ H vs) (hn : vs.length ≤ 1000) (H1 : Hp) (e : Ex H H1) (Q : VK)
    (q : ∀ p t H2, H1 p = none → H1 t = none → Ex H1 H2 → H2 p = some (.lst (xs ++ [.ref t])) → H2 t = some (.tup vs) → Q (.ref p) H2) : tOp rCat ta (tLst (tCons (tTup ts) tNil)) σ H1 Q :=
  ha H1 e _ fun H2 e2 => show tTup ts σ H2 (fun v H3 => ([v] : List V).length ≤ sizeLine ∧ ∀ p, H3 p = none → rCat (V.ref l) (.ref p) (upd H3 p (.lst [v])) Q) from eu_tup ht (by omega) H2 (e.trans e2) _ fun t H3 ht3 e3 h3 => ⟨sz_of (by show 1 ≤ 100000; decide), fun p2 hp2 =>
    have e4 : Ex H3 (upd H3 p2 (.lst [.ref t])) := Ex.new hp2
    ⟨l, p2, xs, _, rfl, rfl, e4 _ _ (e3 _ _ (e2 _ _ (e _ _ hl))), upd_same, sz_of (by show xs.length + 1 ≤ 100000; omega), fun p hp =>
      have e5 : Ex (upd H3 p2 (.lst [.ref t])) (upd (upd H3 p2 (.lst [.ref t])) p (.lst (xs ++ [.ref t]))) := Ex.new hp
      q p t _ (fresh_back ((e2.trans e3).trans e4) hp) (fresh_back e2 ht3) (((e2.trans e3).trans e4).trans e5) upd_same (e5 _ _ (e4 _ _ h3))⟩⟩
end
theorem cutV_mem {xs : List V} {lo hi : Option Int} {v : V} (h : v ∈ cutV xs lo hi) : v ∈ xs := List.mem_of_mem_drop (List.mem_of_mem_take h)
theorem cut4 {xs : List V} (h : xs.length ≤ 5) : (cutV xs (some (-4)) none).length ≤ 4 := by
  unfold cutV
  rw [List.length_take, List.length_drop]
  have : xs.length = 0 ∨ xs.length = 1 ∨ xs.length = 2 ∨ xs.length = 3 ∨ xs.length = 4 ∨ xs.length = 5 := by omega
  rcases this with e | e | e | e | e | e <;> rw [e] <;> decide
theorem eqv2 (a b c d : Int) : PyData.eqv (.tuple [.int a, .int b]) (.tuple [.int c, .int d]) = (decide (a = c) && decide (b = d)) := by
  simp [PyData.eqv, PyData.eqvAll]
  by_cases h1 : a = c <;> by_cases h2 : b = d <;> simp [h1, h2]
theorem shaped2 (a b : Int) : SeqAt.shaped (.tuple [.int a, .int b]) = true := by
  simp [SeqAt.shaped, PyData.canLay0, PyData.canLayAll0, PyData.depth, PyData.depthAll]
theorem rv_eq2 {K : PySem.W.Frag} {H : Hp} {p q : Addr} {a b c d : Int} (hp : H p = some (.tup [.int a, .int b])) (hq : H q = some (.tup [.int c, .int d])) : RV (rEqD K) (.ref p) (.ref q) H (.bl (decide (a = c) && decide (b = d))) := fun H1 e Q k =>
  ⟨_, _, .tup (st_of (e _ _ hp)) (.cons (.int _) (.cons (.int _) .nil)), .tup (st_of (e _ _ hq)) (.cons (.int _) (.cons (.int _) .nil)), shaped2 _ _, shaped2 _ _, by rw [eqv2]; exact k H1 (Ex.refl H1)⟩
section
variable {P : Program} {w : World} {K : PySem.W.Frag} {mg : Str → Option Value} {base : Heap}
def sp__entry (K : PySem.W.Frag) : Sp := fun vs H Q _ => ∃ (mc m wl cl : Addr) (ent : Ent) (μ : Mem) (tb pg : Int), vs = [.ref mc, .int tb, .int pg] ∧ MachAt K H mc m wl cl ent ∧ MemAt K H m wl μ ∧ wl ≠ cl ∧ mc ≠ m ∧ InF tb ∧ 0 ≤ pg ∧ pg < 8 ∧ μ (ix 1 tb) ≠ 8 ∧
  entV (fun tb pg i => μ (ix tb (pg * 4 + i))) tb pg = entV ent tb pg ∧ ∀ q H', H' q = some (.tup (entV ent tb pg)) → MachAt K H' mc m wl cl ent → MemAt K H' m wl μ → FS [mc, cl] H H' → Q (.ref q) H'
theorem MemAt.other {H : Hp} {m wl l : Addr} {μ : Mem} {o : HO} (h : MemAt K H m wl μ) (h1 : l ≠ m) (h2 : l ≠ wl) (h3 : ∀ dd, H dd = some (.dK []) → l ≠ dd) : MemAt K (L2.upd H l o) m wl μ := by
  obtain ⟨⟨dx, dd, a, b⟩, c⟩ := h
  exact ⟨⟨dx, dd, by rw [upd_ne (Ne.symm h1)]; exact a, by rw [upd_ne (Ne.symm (h3 dd b))]; exact b⟩, by rw [upd_ne (Ne.symm h2)]; exact c⟩
theorem MachAt.counts {H : Hp} {mc m wl cl : Addr} {ent : Ent} {a b : Int} (h : MachAt K H mc m wl cl ent) : MachAt K (L2.upd H cl (.lst [.int a, .int b])) mc m wl cl ent := by
  obtain ⟨dx, kl, c0, c1, kept, h1, h2, h3, h4, h4w, h5, h6⟩ := h
  have n1 : mc ≠ cl := ne_of h1 h3 (by intro z; cases z)
  refine ⟨dx, kl, a, b, kept, by rw [upd_ne n1]; exact h1, by rw [upd_ne h4]; exact h2, upd_same, h4, h4w, h5, fun v hv => (h6 v hv).mono fun p xs hp => ?_⟩
  have : p ≠ cl := ne_of hp h3 (by intro z; cases z)
  rw [upd_ne this]
  exact hp
theorem MemAt.counts {H : Hp} {mc m wl cl : Addr} {ent : Ent} {μ : Mem} {a b : Int} (h : MemAt K H m wl μ) (hA : MachAt K H mc m wl cl ent) (hwc : wl ≠ cl) : MemAt K (L2.upd H cl (.lst [.int a, .int b])) m wl μ := by
  obtain ⟨dx, kl, c0, c1, kept, h1, h2, h3, h4, h4w, h5, h6⟩ := hA
  obtain ⟨dx', dd, a1, b1⟩ := h.ins
  exact h.other (ne_of h3 a1 (by intro z; cases z)) (Ne.symm hwc) fun dd b => ne_of h3 b (by intro z; cases z)
theorem ok_Machine_entry (T : Txt K mg) : FnOk P w K mg base CX0 5 (f_Machine_entry K) (fd_Machine_entry K) ["self", "table", "page"] (sp__entry K) := by
  refine T.fn_Machine_entry.ok sc_Machine_entry (fun vs H Q E h => ?_) (fun cdv A outer s H vs Q E hr h => ⟨_, PSs.nox (pss_cons (ps_for PassesOwn.never rfl (pi_list (pe_fld (pv 0) rfl)) (pg_tup (by rfl) (pgs_cons (pg_name (i := 3) sc_Machine_entry.nd rfl (Or.inl rfl)) (pgs_cons (pg_name (i := 4) sc_Machine_entry.nd rfl (Or.inl rfl)) (pgs_cons (pg_name (i := 5) sc_Machine_entry.nd rfl (Or.inl rfl)) pgs_nil)))) (pss_one (ps_if (pt_cmpR (op_eqD hr.units) (pe_tup (pa_cons (pv 3) (pa_cons (pv 4) pa_nil))) (pe_tup (pa_cons (pv 1) (pa_cons (pv 2) pa_nil))) (nomark _)) (pss_cons (ps_augS (pe_fld (pv 0) rfl) pe_int get_list pe_int ip_add set_list) (pss_one (ps_ret (pv 5)))) pss_nil))) (pss_cons (ps_augS (pe_fld (pv 0) rfl) pe_int get_list pe_int ip_add set_list) (pss_cons (ps_set (i := 5) sc_Machine_entry.nd rfl (Or.inl rfl) (pe_call (ok_entry T) (hr.mono (by decide)) (by rfl) (T.glo_entry) (T.kp_entry) (T.bd_entry) .nil pass0 (pa_cons (pe_fld (pv 0) rfl) (pa_cons (pv 1) (pa_cons (pv 2) pa_nil))))) (pss_cut (ps_if (pt_truth (pe_fld (pv 0) rfl) (by intro _; rfl)) (pss_one (ps_fld (pv 0) (pe_slice sl_list (pe_op op_cat (pe_fld (pv 0) rfl) (pe_lst (pa_cons (pe_tup (pa_cons (pv 1) (pa_cons (pv 2) (pa_cons (pv 5) pa_nil)))) pa_nil))) (po_some (pe_un un_neg (pe_fld (pv 0) rfl))) po_none) rfl)) pss_nil) (pss_one (ps_ret (pv 5))))))), ?_⟩)
  · obtain ⟨_, _, _, _, _, _, _, _, rfl, _⟩ := h
    rfl
  · obtain ⟨mc, m, wl, cl, ent, μ, tb, pg, rfl, hA, hM, hwc, hmm, hI, p0, p1, h8, he, k⟩ := h
    obtain ⟨dx, kl, c0, c1, kept, g1, g2, g3, g4, g4w, g5, g6⟩ := hA.ex
    refine q_forL (K := K) (a := kl) (xs := kept) (ev_fld (ev_var rfl) g1 T.cl_Machine T.no_Machine_kept rfl) (sq_of g2) (fun i σ' H' => ∃ x y z, σ' = [some (.ref mc), some (.int tb), some (.int pg), x, y, z] ∧ Ex H H') (fun H1 e1 => ⟨none, none, none, rfl, e1⟩) (fun i σ' H' _ ⟨_, _, _, _, e⟩ => sq_of (e _ _ g2)) ?_ ?_
    · rintro i y σ' H1 hi ⟨x1, x2, x3, rfl, e1⟩
      obtain ⟨q, tb', pg', et, rfl, k2, k3⟩ := (g6 y (List.mem_of_getElem? hi)).mono (H' := H1) fun b xs h => e1 _ _ h
      refine ⟨q, _, rfl, st_of k2, rfl, _, _, rfl, _, _, rfl, _, _, rfl, rfl, ?_⟩
      refine s_when (et_test (ev_opUU (eu_tup (ea_cons (ev_var rfl) (ea_cons (ev_var rfl) ea_nil)) (by show 2 ≤ 100000; decide)) (eu_tup (ea_cons (ev_var rfl) (ea_cons (ev_var rfl) ea_nil)) (by show 2 ≤ 100000; decide)) fun p q H2 hp hq _ => rv_eq2 hp hq)) (fun hb H2 e2 => ?_) (fun hb H2 e2 => ⟨_, _, _, rfl, e1.trans e2⟩)
      have hb' : tb' = tb ∧ pg' = pg := by simpa using hb
      obtain ⟨rfl, rfl⟩ := hb'
      have e12 := e1.trans e2
      refine q_augL (j := 0) (xs := [.int c0, .int c1]) (ev_fld (ev_var rfl) (e12 _ _ g1) T.cl_Machine T.no_Machine_counts rfl) (e12 _ _ g3) rfl (by decide) ev_c fun H3 e3 => ?_
      have hA3 := hA.keep (e12.trans e3)
      have hM3 := hM.keep (e12.trans e3)
      refine s_ret (ev_var rfl) fun H4 e4 => ?_
      have nec : et ≠ cl := ne_of k3 (e1 _ _ g3) (by intro z; cases z)
      exact k et H4 (e4 _ _ (by rw [upd_ne nec]; exact e3 _ _ (e2 _ _ k3))) (hA3.counts.keep e4) ((hM3.counts hA3 hwc).keep e4) (((FS.of (e12.trans e3)).trans (FS.put (by simp))).trans (FS.of e4))
    · rintro σ' H1 ⟨x1, x2, x3, rfl, e1⟩
      refine q_augL (j := 1) (xs := [.int c0, .int c1]) (ev_fld (ev_var rfl) (e1 _ _ g1) T.cl_Machine T.no_Machine_counts rfl) (e1 _ _ g3) rfl (by decide) ev_c fun H2 e2 => ?_
      have hA2 := (hA.keep (e1.trans e2)).counts (a := c0) (b := c1 + 1)
      have hM2 := (hM.keep (e1.trans e2)).counts (hA.keep (e1.trans e2)) hwc (a := c0) (b := c1 + 1)
      have f2 : FS [mc, cl] H (upd H2 cl (.lst [.int c0, .int (c1 + 1)])) := (FS.of (e1.trans e2)).trans (FS.put (by simp))
      show tSeq _ _ _ _ (upd H2 cl (.lst [.int c0, .int (c1 + 1)]))
      generalize upd H2 cl (.lst [.int c0, .int (c1 + 1)]) = H3 at hA2 hM2 f2 ⊢
      clear g1 g2 g3 g4 g4w g5 g6 e1 e2
      obtain ⟨dx, kl, c0, c1, kept, g1, g2, g3, g4, g4w, g5, g6⟩ := hA2.ex
      refine ⟨_, rfl, mc, CMa K, dx, _, .ref m, rfl, g1, T.cl_Machine, T.no_Machine_memory, rfl, _, rfl, _, rfl, m, wl, μ, tb, pg, rfl, hM2, hI, p0, p1, h8, fun et H4 het e4 h4 => ?_⟩
      rw [he] at h4
      refine q_cut (M := fun σ' H' => σ' = [some (.ref mc), some (.int tb), some (.int pg), x1, x2, some (.ref et)] ∧ H' et = some (.tup (entV ent tb pg)) ∧ MachAt K H' mc m wl cl ent ∧ MemAt K H' m wl μ ∧ FS [mc, cl] H H') ?_ ?_
      · refine s_when (b := true) (et_is (et_truI (ev_fld (ev_var rfl) (e4 _ _ g1) T.cl_Machine T.no_Machine_most rfl)) rfl) (fun _ H5 e5 => ?_) (fun h => by cases h)
        have e45 := e4.trans e5
        refine el_cat1 (l := kl) (xs := kept) (vs := [.int tb, .int pg, .ref et]) (ev_fld (ev_var rfl) (e45 _ _ g1) T.cl_Machine T.no_Machine_kept rfl) (e45 _ _ g2) (by omega) (ea_cons (ev_var rfl) (ea_cons (ev_var rfl) (ea_cons (ev_var rfl) ea_nil))) (by show 3 ≤ 1000; decide) H5 (Ex.refl H5) _ fun p t H6 hp ht e6 hp6 ht6 => ?_
        have e46 := e45.trans e6
        refine eo_some (ev_un (ev_fld (ev_var rfl) (e46 _ _ g1) T.cl_Machine T.no_Machine_most rfl) ru_neg) H6 (Ex.refl H6) _ fun H7 e7 => ?_
        have e47 := e46.trans e7
        refine ⟨p, _, rfl, sq_of (e7 _ _ hp6), fun p2 hp2 => ?_⟩
        have e8 : Ex H7 (upd H7 p2 (.lst (cutV (kept ++ [.ref t]) (some (-4)) none))) := Ex.new hp2
        have h8b : (upd H7 p2 (.lst (cutV (kept ++ [.ref t]) (some (-4)) none))) p2 = some (.lst (cutV (kept ++ [.ref t]) (some (-4)) none)) := upd_same
        have nw : p2 ≠ wl := fun z => by rw [z, e47 _ _ hM2.ws] at hp2; cases hp2
        have nc : p2 ≠ cl := fun z => by rw [z, e47 _ _ g3] at hp2; cases hp2
        show (tVar 0) _ (upd H7 p2 (.lst (cutV (kept ++ [.ref t]) (some (-4)) none))) _
        generalize upd H7 p2 (.lst (cutV (kept ++ [.ref t]) (some (-4)) none)) = H8 at e8 h8b ⊢
        have e48 := e47.trans e8
        refine ⟨_, rfl, mc, CMa K, dx, _, rfl, e48 _ _ g1, T.cl_Machine, T.no_Machine_kept, by show 4 < 1000; decide, ?_⟩
        have nm : ∀ b u, H8 b = some u → (∀ C d f, u ≠ .ins C d f) → (upd H8 mc (.ins (CMa K) dx (putF "_kept" (.ref p2) [("_memory", .ref m), ("_most", .int 4), ("_kept", .ref kl), ("_counts", .ref cl)]))) b = some u := fun b u hb hu => by
          have : b ≠ mc := fun z => by rw [z, e48 _ _ g1] at hb; cases hb; exact hu _ _ _ rfl
          rw [upd_ne this]
          exact hb
        have tupk : ∀ b xs, H8 b = some (.tup xs) → (upd H8 mc (.ins (CMa K) dx (putF "_kept" (.ref p2) [("_memory", .ref m), ("_most", .int 4), ("_kept", .ref kl), ("_counts", .ref cl)]))) b = some (.tup xs) := fun b xs hb => nm b _ hb fun _ _ _ z => by cases z
        refine ⟨rfl, tupk _ _ (e8 _ _ (e7 _ _ (e6 _ _ (e5 _ _ h4)))), ⟨dx, p2, c0, c1, _, upd_same, nm _ _ h8b (fun _ _ _ z => (by cases z)), nm _ _ (e48 _ _ g3) (fun _ _ _ z => (by cases z)), nc, nw, cut4 (xs := kept ++ [.ref t]) (by rw [List.length_append]; show kept.length + 1 ≤ 5; omega), fun v hv => ?_⟩, ?_, (f2.trans (FS.of e48)).trans (FS.put (by simp))⟩
        · rcases List.mem_append.mp (cutV_mem hv) with hv | hv
          · exact ((g6 v hv).mono fun b xs h => e48 _ _ h).mono tupk
          · obtain rfl : v = V.ref t := by simpa using hv
            exact ⟨t, tb, pg, et, rfl, tupk _ _ (e8 _ _ (e7 _ _ ht6)), tupk _ _ (e8 _ _ (e7 _ _ (e6 _ _ (e5 _ _ h4))))⟩
        · have hM8 := hM2.keep e48
          obtain ⟨dx', dd, a1, b1⟩ := hM8.ins
          exact hM8.other hmm (fun z => by have := e48 _ _ g1; rw [z, hM8.ws] at this; cases this) fun dd b z => by
            have := e48 _ _ g1
            rw [z, b] at this
            cases this
      rintro σ' H5 ⟨rfl, h5, hA5, hM5, f5⟩
      exact s_ret (ev_var rfl) fun H6 e6 => k et H6 (e6 _ _ h5) (hA5.keep e6) (hM5.keep e6) (f5.trans (FS.of e6))
end
end KA

namespace KA
open PySem PySem.Spec PyProof.Rows L2 Evl TL
theorem FS.weak {S S' : List Addr} {H H' : Hp} (f : FS S H H') (h : ∀ a ∈ S, a ∈ S') : FS S' H H' := fun b o hb n => f b o hb (fun z => n (h b z))
section
variable {P : Program} {w : World} {K : PySem.W.Frag} {mg : Str → Option Value} {base : Heap}
/-- the machine and its memory -/
structure BothAt (K : PySem.W.Frag) (H : Hp) (mc m wl cl : Addr) (ent : Ent) (μ : Mem) : Prop where
  ma : MachAt K H mc m wl cl ent
  me : MemAt K H m wl μ
  wc : wl ≠ cl
  mm : mc ≠ m
theorem BothAt.keep {H H' : Hp} {mc m wl cl : Addr} {ent : Ent} {μ : Mem} (h : BothAt K H mc m wl cl ent μ) (e : Ex H H') : BothAt K H' mc m wl cl ent μ := ⟨h.ma.keep e, h.me.keep e, h.wc, h.mm⟩
/-- the words change, the machine stands -/
theorem BothAt.words {H H' : Hp} {mc m wl cl : Addr} {ent : Ent} {μ μ' : Mem} (h : BothAt K H mc m wl cl ent μ) (f : Fr wl H H') (hm : MemAt K H' m wl μ') : BothAt K H' mc m wl cl ent μ' := by
  obtain ⟨dx, kl, c0, c1, kept, h1, h2, h3, h4, h4w, h5, h6⟩ := h.ma.ex
  have n1 : mc ≠ wl := ne_of h1 h.me.ws (by intro z; cases z)
  exact ⟨⟨dx, kl, c0, c1, kept, f _ _ h1 n1, f _ _ h2 h4w, f _ _ h3 (Ne.symm h.wc), h4, h4w, h5, fun v hv => (h6 v hv).mono fun b xs hb => f _ _ hb (ne_of hb h.me.ws (by intro z; cases z))⟩, hm, h.wc, h.mm⟩
/-- the table's entry of the page that the address is in -/
def GoodAt (μ : Mem) (ent : Ent) (t addr : Int) : Prop := ∃ tb, μ (ix t 11) = tb + 1 ∧ InF tb ∧ μ (ix 1 tb) ≠ 8 ∧ 0 ≤ addr ∧ addr < 512 ∧ entV (fun tb pg i => μ (ix tb (pg * 4 + i))) tb (addr / 64) = entV ent tb (addr / 64) ∧ ent tb (addr / 64) 0 ≠ 0 ∧ ent tb (addr / 64) 1 % 2 = 1
def frOf (μ : Mem) (ent : Ent) (t addr : Int) : Int := ent (μ (ix t 11) - 1) (addr / 64) 0 - 1
def sp_place_of (K : PySem.W.Frag) : Sp := fun vs H Q _ => ∃ (mc m wl cl : Addr) (ent : Ent) (μ : Mem) (t addr : Int), vs = [.ref mc, .int t, .int addr, .int 1] ∧ BothAt K H mc m wl cl ent μ ∧ InF t ∧ GoodAt μ ent t addr ∧
  ∀ q H', H' q = some (.tup [.int (frOf μ ent t addr), .int (addr % 64)]) → BothAt K H' mc m wl cl ent μ → FS [mc, cl] H H' → Q (.ref q) H'
theorem ok_Machine_place_of (T : Txt K mg) : FnOk P w K mg base CX0 6 (f_Machine_place_of K) (fd_Machine_place_of K) ["self", "thread", "address", "right"] (sp_place_of K) := by
  refine T.fn_Machine_place_of.ok sc_Machine_place_of (fun vs H Q E h => ?_) (fun cdv A outer s H vs Q E hr h => ⟨_, PSs.nox (pss_cons (ps_set (i := 4) sc_Machine_place_of.nd rfl (Or.inl rfl) (pe_meth (pe_fld (pv 0) rfl) (T.cl_Memory) (T.mt_Memory_word) (ok_Memory_word T) (hr.mono (by decide)) (T.bd_Memory_word) .nil pass0 (pa_cons (pv 1) (pa_cons (T.pg_T_TABLE) pa_nil)))) (pss_cons (ps_if (PW.pt (pw_or (pt_cmpR op_eq (pv 4) pe_int (nomark _)) (pw_or1 (pt_cmpR op_ge (pv 2) (pe_op op_mul (T.pg_ENTRIES) (T.pg_FRAME)) (nomark _))))) (pss_one (ps_ret pe_non)) pss_nil) (pss_cons (ps_set (i := 5) sc_Machine_place_of.nd rfl (Or.inl rfl) (pe_meth (pv 0) (T.cl_Machine) (T.mt_Machine_entry) (ok_Machine_entry T) (hr.mono (by decide)) (T.bd_Machine_entry) .nil pass0 (pa_cons (pe_op op_sub (pv 4) pe_int) (pa_cons (pe_op op_fdiv (pv 2) (T.pg_FRAME)) pa_nil)))) (pss_cons (ps_if (PW.pt (pw_or (pt_cmpR op_eq (pe_ix ix_tup (pv 5) pe_int (fun _ _ => rfl)) pe_int (nomark _)) (pw_or1 (pt_cmpR op_eq (pe_op op_mod (pe_op op_fdiv (pe_ix ix_tup (pv 5) pe_int (fun _ _ => rfl)) (pv 3)) pe_int) pe_int (nomark _))))) (pss_one (ps_ret pe_non)) pss_nil) (pss_one (ps_ret (pe_tup (pa_cons (pe_op op_sub (pe_ix ix_tup (pv 5) pe_int (fun _ _ => rfl)) pe_int) (pa_cons (pe_op op_mod (pv 2) (T.pg_FRAME)) pa_nil))))))))), ?_⟩)
  · obtain ⟨_, _, _, _, _, _, _, _, rfl, _⟩ := h
    rfl
  · obtain ⟨mc, m, wl, cl, ent, μ, t, addr, rfl, hB, hI, ⟨tb, g1, g2, g3, g4, g5, g6, g7, g8⟩, k⟩ := h
    obtain ⟨dx, kl, c0, c1, kept, h1, h2, h3, h4, h4w, h5, h6⟩ := hB.ma.ex
    have hfr : frOf μ ent t addr = ent tb (addr / 64) 0 - 1 := by unfold frOf; rw [g1]; congr 2; omega
    rw [hfr] at k
    refine q_asg (ev_word hB.me (ev_fld (ev_var rfl) h1 T.cl_Machine T.no_Machine_memory rfl) (ev_var rfl) ev_c (by omega)) fun H1 e1 => ?_
    rw [g1]
    have hz : ¬ (tb + 1 = 0) := by omega
    refine q_when (b := false) (et_is (et_or (et_test (ev_op (ev_var rfl) ev_c (rv_eq rfl))) fun _ => et_test (ev_op (ev_var rfl) (ev_op ev_c ev_c (rv_I (.inr ⟨by decide, by decide⟩))) rv_I0)) ?_) (fun h => by cases h) fun _ H2 e2 => ?_
    · rw [decide_eq_false (fun z => hz (V.int.inj z)), decide_eq_false (by omega)]
      rfl
    have e12 := e1.trans e2
    have hB2 := hB.keep e12
    obtain ⟨dx, kl, c0, c1, kept, h1, h2, h3, h4, h4w, h5, h6⟩ := hB2.ma.ex
    refine ⟨_, rfl, mc, dx, _, rfl, h1, rfl, _, rfl, _, _, rfl, rfl, _, rfl, _, _, rfl, rfl, ⟨by decide, by decide⟩, mc, m, wl, cl, ent, μ, tb, addr / 64, (by show [V.ref mc, V.int (tb + 1 - 1), V.int (addr / 64)] = _; rw [show tb + 1 - 1 = tb by omega]), hB2.ma, hB2.me, hB2.wc, hB2.mm, g2, by omega, by omega, g3, g6, fun q H3 hq hA3 hM3 f3 => ?_⟩
    have hB3 : BothAt K H3 mc m wl cl ent μ := ⟨hA3, hM3, hB.wc, hB.mm⟩
    refine q_when (b := false) (et_is (et_or (et_test (ev_op (ev_op (ev_var rfl) ev_c (rv_ixT (st_of hq) (atI_nat (j := 0) rfl))) ev_c (rv_eq rfl))) fun _ => et_test (ev_op (ev_op (ev_op (ev_op (ev_var rfl) ev_c (rv_ixT (st_of hq) (atI_nat (j := 1) rfl))) (ev_var rfl) (rv_I ⟨by decide, by decide⟩)) ev_c (rv_I (by decide))) ev_c (rv_eq rfl))) ?_) (fun h => by cases h) fun _ H4 e4 => ?_
    · have : ent tb (addr / 64) 1 / 1 % 2 = 1 := by rw [Int.ediv_one]; exact g8
      rw [decide_eq_false (fun z => g7 (V.int.inj z)), this]
      rfl
    refine s_retU (eu_tup (ea_cons (ev_op (ev_op (ev_var rfl) ev_c (rv_ixT (st_of (e4 _ _ hq)) (atI_nat (j := 0) rfl))) ev_c rv_I0) (ea_cons (ev_op (ev_var rfl) ev_c (rv_I (by decide))) ea_nil)) (by show 2 ≤ 100000; decide)) fun p H5 hp e5 h5 => ?_
    exact k p H5 h5 (hB3.keep (e4.trans e5)) (((FS.of e12).trans f3).trans (FS.of (e4.trans e5)))
def sp_forget (K : PySem.W.Frag) : Sp := fun vs H Q _ => ∃ (mc m wl cl : Addr) (ent : Ent) (μ : Mem), vs = [.ref mc] ∧ BothAt K H mc m wl cl ent μ ∧ ∀ H', BothAt K H' mc m wl cl ent μ → FS [mc, cl] H H' → Q .non H'
theorem ok_Machine_forget (T : Txt K mg) : FnOk P w K mg base CX0 1 (f_Machine_forget K) (fd_Machine_forget K) ["self"] (sp_forget K) := by
  refine T.fn_Machine_forget.ok sc_Machine_forget (fun vs H Q E h => ?_) (fun cdv A outer s H vs Q E hr h => ⟨_, PSs.nox (pss_one (ps_fld (pv 0) (pe_lst pa_nil) rfl)), ?_⟩)
  · obtain ⟨_, _, _, _, _, _, rfl, _⟩ := h
    rfl
  · obtain ⟨mc, m, wl, cl, ent, μ, rfl, hB, k⟩ := h
    obtain ⟨dx, kl, c0, c1, kept, h1, h2, h3, h4, h4w, h5, h6⟩ := hB.ma.ex
    refine s_fldL (xs := []) (el_lst ea_nil (by decide)) (ev_var rfl) h1 T.cl_Machine T.no_Machine_kept (by show 4 < 1000; decide) fun p H1 hp e1 hp1 => ?_
    have nm : ∀ b u, H1 b = some u → (∀ C d f, u ≠ .ins C d f) → (upd H1 mc (.ins (CMa K) dx (putF "_kept" (.ref p) [("_memory", .ref m), ("_most", .int 4), ("_kept", .ref kl), ("_counts", .ref cl)]))) b = some u := fun b u hb hu => by
      have : b ≠ mc := fun z => by rw [z, e1 _ _ h1] at hb; cases hb; exact hu _ _ _ rfl
      rw [upd_ne this]
      exact hb
    have hM1 := hB.me.keep e1
    obtain ⟨dx', dd, a1, b1⟩ := hM1.ins
    refine k _ ⟨⟨dx, p, c0, c1, [], upd_same, nm _ _ hp1 (fun _ _ _ z => (by cases z)), nm _ _ (e1 _ _ h3) (fun _ _ _ z => (by cases z)), (fun z => (by rw [z, h3] at hp; cases hp)), (fun z => (by rw [z, hB.me.ws] at hp; cases hp)), by decide, fun v hv => (by cases hv)⟩, ?_, hB.wc, hB.mm⟩ ((FS.of e1).trans (FS.put (by simp)))
    exact hM1.other hB.mm (fun z => by have := e1 _ _ h1; rw [z, hM1.ws] at this; cases this) fun dd b z => by
      have := e1 _ _ h1
      rw [z, b] at this
      cases this
end
end KA

namespace KA
open PySem PySem.Spec PyProof.Rows L2 Evl TL
def partsV (x : Int) : List V := [.int (x / 4096), .int (x / 512 % 8), .int (x / 64 % 8), .int (x % 64)]
section
variable {σ : L2.St} {H : Hp} {K : PySem.W.Frag} {D : Ends} {m wl : Addr} {μ : Mem} {tm tf tp tx : TE} {tz : TS} {t n x : Int}
theorem q_callG {sp : Sp} {dvs vs : List V} {E : XK} {ts : TA} {g : TG} (h : EvA ts σ H vs) (k : ∀ H1, Ex H H1 → sp (vs ++ dvs) H1 (fun v H2 => g v σ H2 (tz D)) E) : tSeq (tAsg (tCall sp dvs E ts) g) tz D σ H := h H (Ex.refl H) _ k
theorem ev_greg (hM : MemAt K H m wl μ) (hm : Ev tm σ H (.ref m)) (hf : Ev tf σ H (.int t)) (hp : Ev tp σ H (.int n)) (hI : InF t) (h0 : 0 ≤ n) (h1 : n < 8) : Ev (tCall (sp_get_register K) [] E0 (tCons tm (tCons tf (tCons tp tNil)))) σ H (.int (μ (ix t (2 + n)))) :=
  ev_pure (ea_cons hm (ea_cons hf (ea_cons hp ea_nil))) fun H1 e Q q => ⟨m, wl, μ, t, n, rfl, hM.keep e, hI, h0, h1, q⟩
theorem q_preg (hM : MemAt K H m wl μ) (hm : Ev tm σ H (.ref m)) (hf : Ev tf σ H (.int t)) (hp : Ev tp σ H (.int n)) (hx : Ev tx σ H (.int x)) (hI : InF t) (h0 : 0 ≤ n) (h1 : n < 8) (k : ∀ H', MemAt K H' m wl (mset μ (ix t (2 + n)) x) → Fr wl H H' → tz D σ H') :
    tSeq (tDrop (tCall (sp_put_register K) [] E0 (tCons tm (tCons tf (tCons tp (tCons tx tNil)))))) tz D σ H :=
  (ea_cons hm (ea_cons hf (ea_cons hp (ea_cons hx ea_nil))) : EvA (tCons tm (tCons tf (tCons tp (tCons tx tNil)))) σ H [.ref m, .int t, .int n, .int x]) H (Ex.refl H) (fun vs H1 => sp_put_register K (vs ++ []) H1 (fun _ H2 => tz D σ H2) E0) fun H1 e1 => ⟨m, wl, μ, t, n, x, rfl, hM.keep e1, hI, h0, h1, fun H' h' f' => k H' h' ((Fr.of e1).trans f')⟩
theorem s_preg (hM : MemAt K H m wl μ) (hm : Ev tm σ H (.ref m)) (hf : Ev tf σ H (.int t)) (hp : Ev tp σ H (.int n)) (hx : Ev tx σ H (.int x)) (hI : InF t) (h0 : 0 ≤ n) (h1 : n < 8) (k : ∀ H', MemAt K H' m wl (mset μ (ix t (2 + n)) x) → Fr wl H H' → D.nx σ H') :
    tDrop (tCall (sp_put_register K) [] E0 (tCons tm (tCons tf (tCons tp (tCons tx tNil))))) D σ H :=
  (ea_cons hm (ea_cons hf (ea_cons hp (ea_cons hx ea_nil))) : EvA (tCons tm (tCons tf (tCons tp (tCons tx tNil)))) σ H [.ref m, .int t, .int n, .int x]) H (Ex.refl H) (fun vs H1 => sp_put_register K (vs ++ []) H1 (fun _ H2 => D.nx σ H2) E0) fun H1 e1 => ⟨m, wl, μ, t, n, x, rfl, hM.keep e1, hI, h0, h1, fun H' h' f' => k H' h' ((Fr.of e1).trans f')⟩
end
/-- a word's doing: those that the law's programs have -/
def mstep (μ : Mem) (t wd pc : Int) : Mem :=
  if wd / 4096 = 10 then mtrap0 (mset μ (ix t 1) (pc + 1)) t
  else if wd / 4096 = 6 then mset μ (ix t 1) (wd / 64 % 8 * 64 + wd % 64)
  else if wd / 4096 = 1 then mset (mset μ (ix t (2 + wd / 512 % 8)) (wd / 64 % 8 * 64 + wd % 64)) (ix t 1) (pc + 1)
  else mset (mset μ (ix t (2 + wd / 512 % 8)) (mreck (wd / 4096) (μ (ix t (2 + wd / 64 % 8))) (μ (ix t (2 + wd % 64 % 8))))) (ix t 1) (pc + 1)
section
variable {P : Program} {w : World} {K : PySem.W.Frag} {mg : Str → Option Value} {base : Heap}
def sp_parts_of : Sp := fun vs H Q _ => ∃ x : Int, vs = [.int x] ∧ ∀ p H', H p = none → Ex H H' → H' p = some (.tup (partsV x)) → Q (.ref p) H'
theorem ok_parts_of (T : Txt K mg) : FnOk P w K mg base CX0 1 (f_parts_of K) (fd_parts_of K) ["word"] sp_parts_of := by
  refine T.fn_parts_of.ok sc_parts_of (fun vs H Q E h => ?_) (fun cdv A outer s H vs Q E hr h => ⟨_, PSs.nox (pss_one (ps_ret (pe_tup (pa_cons (pe_op op_fdiv (pv 0) pe_int) (pa_cons (pe_op op_mod (pe_op op_fdiv (pv 0) pe_int) pe_int) (pa_cons (pe_op op_mod (pe_op op_fdiv (pv 0) pe_int) pe_int) (pa_cons (pe_op op_mod (pv 0) pe_int) pa_nil))))))), ?_⟩)
  · obtain ⟨_, rfl, _⟩ := h
    rfl
  · obtain ⟨x, rfl, k⟩ := h
    exact s_retU (eu_tup (ea_cons (ev_div (ev_var rfl) ev_c ⟨by decide, by decide⟩) (ea_cons (ev_mod (ev_div (ev_var rfl) ev_c ⟨by decide, by decide⟩) ev_c (by decide)) (ea_cons (ev_mod (ev_div (ev_var rfl) ev_c ⟨by decide, by decide⟩) ev_c (by decide)) (ea_cons (ev_mod (ev_var rfl) ev_c (by decide)) ea_nil)))) (by show 4 ≤ 100000; decide)) k
def sp_step (K : PySem.W.Frag) : Sp := fun vs H Q _ => ∃ (mc m wl cl : Addr) (ent : Ent) (μ : Mem) (t wd : Int), vs = [.ref mc, .int t] ∧ BothAt K H mc m wl cl ent μ ∧ 2 ≤ t ∧ t < 32 ∧ μ (ix 1 t) = 5 ∧ GoodAt μ ent t (μ (ix t 1)) ∧ InF (frOf μ ent t (μ (ix t 1))) ∧ μ (ix (frOf μ ent t (μ (ix t 1))) (μ (ix t 1) % 64)) = wd ∧
  (wd / 4096 = 1 ∨ wd / 4096 = 2 ∨ wd / 4096 = 6 ∨ wd / 4096 = 8 ∨ (wd / 4096 = 10 ∧ wd % 64 = 0)) ∧ (∀ n : Int, 0 ≤ n → n < 8 → 0 ≤ μ (ix t (2 + n)) ∧ μ (ix t (2 + n)) < 65536) ∧
  ∀ H', BothAt K H' mc m wl cl ent (mstep μ t wd (μ (ix t 1))) → FS [wl, mc, cl] H H' → Q (.bl false) H'
theorem ok_Machine_step (T : Txt K mg) : FnOk P w K mg base CX0 7 (f_Machine_step K) (fd_Machine_step K) ["self", "thread"] (sp_step K) := by
  refine T.fn_Machine_step.ok sc_Machine_step (fun vs H Q E h => ?_) (fun cdv A outer s H vs Q E hr h => ⟨_, PSs.nox (pss_cons (ps_set (i := 2) sc_Machine_step.nd rfl (Or.inl rfl) (pe_fld (pv 0) rfl)) (pss_cons (ps_set (i := 3) sc_Machine_step.nd rfl (Or.inl rfl) (pe_meth (pv 2) (T.cl_Memory) (T.mt_Memory_word) (ok_Memory_word T) (hr.mono (by decide)) (T.bd_Memory_word) .nil pass0 (pa_cons (pv 1) (pa_cons (T.pg_T_PC) pa_nil)))) (pss_cons (ps_set (i := 4) sc_Machine_step.nd rfl (Or.inl rfl) (pe_meth (pv 0) (T.cl_Machine) (T.mt_Machine_place_of) (ok_Machine_place_of T) (hr.mono (by decide)) (T.bd_Machine_place_of) .nil pass0 (pa_cons (pv 1) (pa_cons (pv 3) (pa_cons (T.pg_READ) pa_nil))))) (pss_cons (ps_if (pt_cmpR op_isN (pv 4) pe_non (nomark _)) (pss_cons ps_never (pss_one ps_never)) pss_nil) (pss_cons (ps_asg (pe_call (ok_parts_of T) (hr.mono (by decide)) (by rfl) (T.glo_parts_of) (T.kp_parts_of) (T.bd_parts_of) .nil pass0 (pa_cons (pe_meth (pv 2) (T.cl_Memory) (T.mt_Memory_word) (ok_Memory_word T) (hr.mono (by decide)) (T.bd_Memory_word) .nil pass0 (pa_cons (pe_ix ix_tup (pv 4) pe_int (fun _ _ => rfl)) (pa_cons (pe_ix ix_tup (pv 4) pe_int (fun _ _ => rfl)) pa_nil))) pa_nil)) (pg_tup (by rfl) (pgs_cons (pg_name (i := 5) sc_Machine_step.nd rfl (Or.inl rfl)) (pgs_cons (pg_name (i := 6) sc_Machine_step.nd rfl (Or.inl rfl)) (pgs_cons (pg_name (i := 7) sc_Machine_step.nd rfl (Or.inl rfl)) (pgs_cons (pg_name (i := 8) sc_Machine_step.nd rfl (Or.inl rfl)) pgs_nil)))))) (pss_cons (ps_if (pt_cmpR op_in_seq (pv 5) (pe_tup (pa_cons pe_int (pa_cons pe_int pa_nil))) (by rfl)) (pss_cons ps_never (pss_cons ps_never (pss_cons ps_never (pss_one ps_never)))) (pss_one (ps_if (pt_cmpR op_eq (pv 5) pe_int (nomark _)) (pss_cons (ps_expr (pe_meth (pv 2) (T.cl_Memory) (T.mt_Memory_put) (ok_Memory_put T) (hr.mono (by decide)) (T.bd_Memory_put) .nil pass0 (pa_cons (pv 1) (pa_cons (T.pg_T_PC) (pa_cons (pe_op op_add (pv 3) pe_int) pa_nil))))) (pss_cons (ps_if (pt_not (pt_val (pe_call (ok_any_trap T) (hr.mono (by decide)) (by rfl) (T.glo_any_trap) (T.kp_any_trap) (T.bd_any_trap) .nil pass0 (pa_cons (pv 2) (pa_cons (pv 1) (pa_cons (pv 8) pa_nil)))))) (pss_cons ps_never (pss_one ps_never)) pss_nil) (pss_one (ps_ret (pe_cmpR op_in_seq (pv 8) (T.pg_CHANGING) (by rfl)))))) (pss_one (ps_if (pt_cmpR op_in_seq (pv 5) (pe_tup (pa_cons pe_int (pa_cons pe_int pa_nil))) (by rfl)) (pss_cons (ps_set (i := 10) sc_Machine_step.nd rfl (Or.inl rfl) (pe_or (pe_cmpR op_eq (pv 5) pe_int (nomark _)) (pe_one (pe_cmpR op_eq (pe_call (ok_get_register T) (hr.mono (by decide)) (by rfl) (T.glo_get_register) (T.kp_get_register) (T.bd_get_register) .nil pass0 (pa_cons (pv 2) (pa_cons (pv 1) (pa_cons (pv 6) pa_nil)))) pe_int (nomark _))))) (pss_cons (ps_expr (pe_meth (pv 2) (T.cl_Memory) (T.mt_Memory_put) (ok_Memory_put T) (hr.mono (by decide)) (T.bd_Memory_put) .nil pass0 (pa_cons (pv 1) (pa_cons (T.pg_T_PC) (pa_cons (pe_ifExp (pt_val (pv 10)) (pe_op op_add (pe_op op_mul (pv 7) pe_int) (pv 8)) (pe_op op_add (pv 3) pe_int)) pa_nil))))) (pss_one (ps_ret pe_bl)))) (pss_one (ps_if (pt_cmpR op_eq (pv 5) pe_int (nomark _)) (pss_one (ps_expr (pe_call (ok_put_register T) (hr.mono (by decide)) (by rfl) (T.glo_put_register) (T.kp_put_register) (T.bd_put_register) .nil pass0 (pa_cons (pv 2) (pa_cons (pv 1) (pa_cons (pv 6) (pa_cons (pe_op op_add (pe_op op_mul (pv 7) pe_int) (pv 8)) pa_nil))))))) (pss_one (ps_if (pt_cmpR op_in_seq (pv 5) (pe_tup (pa_cons pe_int (pa_cons pe_int (pa_cons pe_int (pa_cons pe_int (pa_cons pe_int pa_nil)))))) (by rfl)) (pss_cons (ps_par (i := 11) (j := 12) (by rfl) sc_Machine_step.nd rfl rfl (by decide) rfl rfl (pa_cons (pe_call (ok_get_register T) (hr.mono (by decide)) (by rfl) (T.glo_get_register) (T.kp_get_register) (T.bd_get_register) .nil pass0 (pa_cons (pv 2) (pa_cons (pv 1) (pa_cons (pv 7) pa_nil)))) (pa_cons (pe_call (ok_get_register T) (hr.mono (by decide)) (by rfl) (T.glo_get_register) (T.kp_get_register) (T.bd_get_register) .nil pass0 (pa_cons (pv 2) (pa_cons (pv 1) (pa_cons (pe_op op_mod (pv 8) pe_int) pa_nil)))) pa_nil)) (by rfl)) (pss_one (ps_expr (pe_call (ok_put_register T) (hr.mono (by decide)) (by rfl) (T.glo_put_register) (T.kp_put_register) (T.bd_put_register) .nil pass0 (pa_cons (pv 2) (pa_cons (pv 1) (pa_cons (pv 6) (pa_cons (pe_call (ok_reckoned T) (hr.mono (by decide)) (by rfl) (T.glo_reckoned) (T.kp_reckoned) (T.bd_reckoned) .nil pass0 (pa_cons (pv 5) (pa_cons (pv 11) (pa_cons (pv 12) pa_nil)))) pa_nil)))))))) (pss_cons ps_never (pss_one (ps_ret pe_bl)))))))))))) (pss_cons (ps_expr (pe_meth (pv 2) (T.cl_Memory) (T.mt_Memory_put) (ok_Memory_put T) (hr.mono (by decide)) (T.bd_Memory_put) .nil pass0 (pa_cons (pv 1) (pa_cons (T.pg_T_PC) (pa_cons (pe_op op_add (pv 3) pe_int) pa_nil))))) (pss_one (ps_ret pe_bl))))))))), ?_⟩)
  · obtain ⟨_, _, _, _, _, _, _, _, rfl, _⟩ := h
    rfl
  · obtain ⟨mc, m, wl, cl, ent, μ, t, wd, rfl, hB, t0, t1, h5, hG, hF, hwd, hop, hreg, k⟩ := h
    obtain ⟨dx, kl, c0, c1, kept, h1, h2, h3, h4, h4w, h5', h6⟩ := hB.ma.ex
    obtain ⟨pc, hpc⟩ : ∃ pc, pc = μ (ix t 1) := ⟨_, rfl⟩
    rw [← hpc] at hG hF hwd k
    have hpc0 : 0 ≤ pc ∧ pc < 512 := by obtain ⟨_, _, _, _, a, b, _⟩ := hG; exact ⟨a, b⟩
    refine q_asg (ev_fld (ev_var rfl) h1 T.cl_Machine T.no_Machine_memory rfl) fun H1 e1 => ?_
    have hB1 := hB.keep e1
    refine q_asg (ev_is (ev_word hB1.me (ev_var rfl) (ev_var rfl) ev_c (by omega)) (by rw [← hpc])) fun H2 e2 => ?_
    have hB2 := hB1.keep e2
    have e12 := e1.trans e2
    obtain ⟨dx2, kl2, c02, c12, kept2, g1, g2, g3, g4, g4w, g5', g6⟩ := hB2.ma.ex
    refine ⟨_, rfl, mc, dx2, _, rfl, g1, rfl, _, rfl, _, rfl, mc, m, wl, cl, ent, μ, t, pc, rfl, hB2, ⟨by omega, t1⟩, hG, fun q H3 hq hB3 f3 => ?_⟩
    have f03 := (FS.of (S := [mc, cl]) e12).trans f3
    refine q_when (b := false) (et_is (et_test (ev_op (ev_var rfl) ev_c rv_isN)) rfl) (fun h => by cases h) fun _ H4 e4 => ?_
    have hB4 := hB3.keep e4
    refine q_callG (ea_cons (ev_word hB4.me (ev_var rfl) (ev_op (ev_var rfl) ev_c (rv_ixT (st_of (e4 _ _ hq)) (atI_nat (j := 0) rfl))) (ev_op (ev_var rfl) ev_c (rv_ixT (st_of (e4 _ _ hq)) (atI_nat (j := 1) rfl))) (by omega)) ea_nil) fun H5 e5 => ⟨wd, by rw [hwd]; rfl, fun p H6 hp e6 h6 => ⟨p, _, rfl, st_of h6, rfl, _, _, rfl, _, _, rfl, _, _, rfl, _, _, rfl, rfl, ?_⟩⟩
    have hB6 := hB4.keep (e5.trans e6)
    have f06 := f03.trans (FS.of ((e4.trans e5).trans e6))
    clear hB1 hB2 hB3 hB4 g1 g2 g3 g4 g4w g5' g6 f3 f03 e1 e2 e12 e4 e5 e6
    have f06w : FS [wl, mc, cl] H H6 := f06.weak fun a ha => List.mem_cons_of_mem _ ha
    have a0 : 0 ≤ wd / 512 % 8 ∧ wd / 512 % 8 < 8 := by omega
    have b0 : 0 ≤ wd / 64 % 8 ∧ wd / 64 % 8 < 8 := by omega
    have c0' : 0 ≤ wd % 64 % 8 ∧ wd % 64 % 8 < 8 := by omega
    refine q_if (b := false) (et_is (et_test (ev_inU (ev_var rfl) (eu_tup (ea_cons ev_c (ea_cons ev_c ea_nil)) (by show 2 ≤ 100000; decide)) rfl rfl)) (by rcases hop with h | h | h | h | ⟨h, _⟩ <;> rw [h] <;> rfl)) (fun h => by cases h) fun _ H7 e7 => ?_
    have hB7 := hB6.keep e7
    have f07 := f06w.trans (FS.of e7)
    clear e7
    by_cases hop10 : wd / 4096 = 10
    · -- the trap
      have hc : wd % 64 = 0 := by rcases hop with h | h | h | h | ⟨_, h⟩ <;> first | exact h | omega
      have hk : mstep μ t wd pc = mtrap0 (mset μ (ix t 1) (pc + 1)) t := by unfold mstep; rw [if_pos hop10]
      rw [hk] at k
      refine s_if (b := true) (et_is (et_test (ev_op (ev_var rfl) ev_c (rv_eq rfl))) (by rw [hop10]; rfl)) (fun _ H8 e8 => ?_) (fun h => by cases h)
      have hB8 := hB7.keep e8
      refine q_put hB8.me (ev_var rfl) (ev_var rfl) ev_c (ev_op (ev_var rfl) ev_c rv_I0) (by omega) fun H9 h9 f9 => ?_
      have hB9 := hB8.words f9 h9
      have hk5 : mset μ (ix t 1) (pc + 1) (ix 1 t) = 5 := by
        rw [mset_ne (by unfold ix; omega)]
        exact h5
      refine ⟨_, rfl, _, rfl, _, rfl, m, wl, _, t, by rw [hc]; rfl, h9, t0, t1, hk5, fun H10 h10 f10 => ⟨true, rfl, iteF ?_⟩⟩
      have hB10 := hB9.words f10 h10
      refine s_ret (v := .bl false) (ev_is (ev_op (ev_var rfl) ev_c (rv_isT (T.tup_CHANGING _) rfl (by decide +kernel))) (by rw [hc]; decide +kernel)) fun H11 e11 => k H11 (hB10.keep e11) ((((f07.trans (FS.of e8)).trans (FS.fr f9 (by simp))).trans (FS.fr f10 (by simp))).trans (FS.of e11))
    refine s_if (b := false) (et_is (et_test (ev_op (ev_var rfl) ev_c (rv_eq rfl))) (decide_eq_false fun z => hop10 (V.int.inj z))) (fun h => by cases h) fun _ H8 e8 => ?_
    have hB8 := hB7.keep e8
    have f08 := f07.trans (FS.of e8)
    clear hB7 f07 e8 hB6 f06 f06w
    by_cases hop6 : wd / 4096 = 6
    · have hk : mstep μ t wd pc = mset μ (ix t 1) (wd / 64 % 8 * 64 + wd % 64) := by unfold mstep; rw [if_neg hop10, if_pos hop6]
      rw [hk] at k
      refine s_if (b := true) (et_is (et_test (ev_inU (ev_var rfl) (eu_tup (ea_cons ev_c (ea_cons ev_c ea_nil)) (by show 2 ≤ 100000; decide)) rfl rfl)) (by rw [hop6]; rfl)) (fun _ H9 e9 => ?_) (fun h => by cases h)
      refine q_asg (v := .bl true) (ev_is (ev_orV (a := true) (b := true) (ev_is (ev_op (ev_var rfl) ev_c (rv_eq rfl)) (by rw [hop6]; rfl)) (fun h => by cases h)) rfl) fun H10 e10 => ?_
      have hB10 := hB8.keep (e9.trans e10)
      refine q_put hB10.me (ev_var rfl) (ev_var rfl) ev_c (ev_if (b := true) (v := .int (wd / 64 % 8 * 64 + wd % 64)) (et_B (ev_var rfl)) (fun _ => ev_op (ev_op (ev_var rfl) ev_c (rv_I (.inr ⟨by decide, by decide⟩))) (ev_var rfl) rv_I0) (fun h => by cases h)) (by omega) fun H11 h11 f11 => ?_
      have hB11 := hB10.words f11 h11
      exact s_ret ev_c fun H12 e12 => k H12 (hB11.keep e12) (((f08.trans (FS.of (e9.trans e10))).trans (FS.fr f11 (by simp))).trans (FS.of e12))
    refine s_if (b := false) (et_is (et_test (ev_inU (ev_var rfl) (eu_tup (ea_cons ev_c (ea_cons ev_c ea_nil)) (by show 2 ≤ 100000; decide)) rfl rfl)) (by rcases hop with h | h | h | h | ⟨h, _⟩ <;> first | (exact absurd h hop6) | (exact absurd h hop10) | (rw [h]; rfl))) (fun h => by cases h) fun _ H9 e9 => ?_
    have hB9 := hB8.keep e9
    have f09 := f08.trans (FS.of e9)
    clear hB8 f08 e9
    by_cases hop1 : wd / 4096 = 1
    · have hk : mstep μ t wd pc = mset (mset μ (ix t (2 + wd / 512 % 8)) (wd / 64 % 8 * 64 + wd % 64)) (ix t 1) (pc + 1) := by unfold mstep; rw [if_neg hop10, if_neg hop6, if_pos hop1]
      rw [hk] at k
      refine s_if (b := true) (et_is (et_test (ev_op (ev_var rfl) ev_c (rv_eq rfl))) (by rw [hop1]; rfl)) (fun _ H10 e10 => ?_) (fun h => by cases h)
      have hB10 := hB9.keep e10
      refine s_preg hB10.me (ev_var rfl) (ev_var rfl) (ev_var rfl) (ev_op (ev_op (ev_var rfl) ev_c (rv_I (.inr ⟨by decide, by decide⟩))) (ev_var rfl) rv_I0) ⟨by omega, t1⟩ a0.1 a0.2 fun H11 h11 f11 => ?_
      have hB11 := hB10.words f11 h11
      refine q_put h11 (ev_var rfl) (ev_var rfl) ev_c (ev_op (ev_var rfl) ev_c rv_I0) (by omega) fun H12 h12 f12 => ?_
      have hB12 := hB11.words f12 h12
      exact s_ret ev_c fun H13 e13 => k H13 (hB12.keep e13) ((((f09.trans (FS.of e10)).trans (FS.fr f11 (by simp))).trans (FS.fr f12 (by simp))).trans (FS.of e13))
    have hop28 : wd / 4096 = 2 ∨ wd / 4096 = 8 := by omega
    have hk : mstep μ t wd pc = mset (mset μ (ix t (2 + wd / 512 % 8)) (mreck (wd / 4096) (μ (ix t (2 + wd / 64 % 8))) (μ (ix t (2 + wd % 64 % 8))))) (ix t 1) (pc + 1) := by unfold mstep; rw [if_neg hop10, if_neg hop6, if_neg hop1]
    rw [hk] at k
    refine s_if (b := false) (et_is (et_test (ev_op (ev_var rfl) ev_c (rv_eq rfl))) (decide_eq_false fun z => hop1 (V.int.inj z))) (fun h => by cases h) fun _ H10 e10 => ?_
    refine s_if (b := true) (et_is (et_test (ev_inU (ev_var rfl) (eu_tup (ea_cons ev_c (ea_cons ev_c (ea_cons ev_c (ea_cons ev_c (ea_cons ev_c ea_nil))))) (by show 5 ≤ 100000; decide)) rfl rfl)) (by rcases hop28 with h | h <;> rw [h] <;> rfl)) (fun _ H11 e11 => ?_) (fun h => by cases h)
    have hB11 := hB9.keep (e10.trans e11)
    refine q_parVV (ev_greg hB11.me (ev_var rfl) (ev_var rfl) (ev_var rfl) ⟨by omega, t1⟩ b0.1 b0.2) (ev_greg hB11.me (ev_var rfl) (ev_var rfl) (ev_op (ev_var rfl) ev_c (rv_I (by decide))) ⟨by omega, t1⟩ c0'.1 c0'.2) fun H12 e12 => ?_
    have hB12 := hB11.keep e12
    have hr1 := hreg (wd / 64 % 8) b0.1 b0.2
    refine s_preg hB12.me (ev_var rfl) (ev_var rfl) (ev_var rfl) (ev_pure (ea_cons (ev_var rfl) (ea_cons (ev_var rfl) (ea_cons (ev_var rfl) ea_nil))) fun H13 e13 Q q => ⟨_, _, _, rfl, hop28, hr1.1, hr1.2, q⟩) ⟨by omega, t1⟩ a0.1 a0.2 fun H13 h13 f13 => ?_
    have hB13 := hB12.words f13 h13
    refine q_put h13 (ev_var rfl) (ev_var rfl) ev_c (ev_op (ev_var rfl) ev_c rv_I0) (by omega) fun H14 h14 f14 => ?_
    have hB14 := hB13.words f14 h14
    exact s_ret ev_c fun H15 e15 => k H15 (hB14.keep e15) ((((f09.trans (FS.of ((e10.trans e11).trans e12))).trans (FS.fr f13 (by simp))).trans (FS.fr f14 (by simp))).trans (FS.of e15))
end
end KA

namespace KA
open PySem PySem.Spec PyProof.Rows L2 Evl TL
/-! ### a tick -/
/-- behind the time's step: what is asked of the memory for who goes -/
structure Goes (μ : Mem) (ent : Ent) (t wd : Int) : Prop where
  t0 : 2 ≤ t
  t1 : t < 32
  kd : μ (ix 1 t) = 5
  at_ : GoodAt μ ent t (μ (ix t 1))
  fr : InF (frOf μ ent t (μ (ix t 1)))
  word : μ (ix (frOf μ ent t (μ (ix t 1))) (μ (ix t 1) % 64)) = wd
  op : wd / 4096 = 1 ∨ wd / 4096 = 2 ∨ wd / 4096 = 6 ∨ wd / 4096 = 8 ∨ (wd / 4096 = 10 ∧ wd % 64 = 0)
  reg : ∀ n : Int, 0 ≤ n → n < 8 → 0 ≤ μ (ix t (2 + n)) ∧ μ (ix t (2 + n)) < 65536
structure Spends (μ : Mem) (t : Int) : Prop where
  kd : μ (ix 1 t) = 5
  st : μ (ix t 0) = 1
  turn : ¬ μ (ix t 14) > 1 → ∀ μ1, μ1 = mset μ (ix t 14) (μ (ix t 13)) → 0 ≤ mnum μ1 t ∧ mnum μ1 t < 8 ∧ μ1 (ix 0 (4 + mnum μ1 t)) = t + 1 ∧ ∀ μ2, μ2 = mtake μ1 0 (4 + mnum μ1 t) (12 + mnum μ1 t) t → 0 ≤ mnum μ2 t ∧ mnum μ2 t < 8 ∧ (μ2 (ix 0 (12 + mnum μ2 t)) ≠ 0 → InF (μ2 (ix 0 (12 + mnum μ2 t)) - 1))
def mtime (μ : Mem) : Mem := mset μ (ix 0 0) (μ (ix 0 0) + 1)
section
variable {P : Program} {w : World} {K : PySem.W.Frag} {mg : Str → Option Value} {base : Heap}
def sp_tick (K : PySem.W.Frag) : Sp := fun vs H Q _ => ∃ (mc m wl cl : Addr) (ent : Ent) (μ μ2 : Mem), vs = [.ref mc] ∧ BothAt K H mc m wl cl ent μ ∧ 0 ≤ mtime μ (ix 0 1) ∧ mtime μ (ix 0 1) < 4 ∧ 0 ≤ mdom (mtime μ) ∧ mdom (mtime μ) < 2 ∧
  (mfrom (mtime μ) 4 = none → μ2 = mtime μ) ∧ (∀ t, mfrom (mtime μ) 4 = some t → ∃ wd, Goes (mtime μ) ent t wd ∧ Spends (mstep (mtime μ) t wd (mtime μ (ix t 1))) t ∧ μ2 = mspent (mstep (mtime μ) t wd (mtime μ (ix t 1))) t) ∧
  (∀ i : Nat, i < 32 → μ2 (ix 1 (i : Int)) ≠ 8) ∧ 0 ≤ μ2 (ix 0 1) ∧ μ2 (ix 0 1) < 4 ∧
  ∀ H', BothAt K H' mc m wl cl ent (mpart μ2).1 → FS [wl, mc, cl] H H' → Q (oI (mfrom (mtime μ) 4)) H'
theorem ok_Machine_tick (T : Txt K mg) : FnOk P w K mg base CX0 8 (f_Machine_tick K) (fd_Machine_tick K) ["self"] (sp_tick K) := by
  refine T.fn_Machine_tick.ok sc_Machine_tick (fun vs H Q E h => ?_) (fun cdv A outer s H vs Q E hr h => ⟨_, PSs.nox (pss_cons (ps_set (i := 1) sc_Machine_tick.nd rfl (Or.inl rfl) (pe_fld (pv 0) rfl)) (pss_cons (ps_expr (pe_meth (pv 1) (T.cl_Memory) (T.mt_Memory_put) (ok_Memory_put T) (hr.mono (by decide)) (T.bd_Memory_put) .nil pass0 (pa_cons (T.pg_KERNEL) (pa_cons (T.pg_K_TIME) (pa_cons (pe_op op_add (pe_meth (pv 1) (T.cl_Memory) (T.mt_Memory_word) (ok_Memory_word T) (hr.mono (by decide)) (T.bd_Memory_word) .nil pass0 (pa_cons (T.pg_KERNEL) (pa_cons (T.pg_K_TIME) pa_nil))) pe_int) pa_nil))))) (pss_cons (ps_set (i := 2) sc_Machine_tick.nd rfl (Or.inl rfl) (pe_call (ok_chosen T) (hr.mono (by decide)) (by rfl) (T.glo_chosen) (T.kp_chosen) (T.bd_chosen) .nil pass0 (pa_cons (pv 1) pa_nil))) (pss_cut (ps_if (pt_cmpR op_notN (pv 2) pe_non (nomark _)) (pss_cons (ps_if (pt_val (pe_meth (pv 0) (T.cl_Machine) (T.mt_Machine_step) (ok_Machine_step T) (hr.mono (by decide)) (T.bd_Machine_step) .nil pass0 (pa_cons (pv 2) pa_nil))) (pss_one (ps_expr (pe_meth0 (pv 0) (T.cl_Machine) (T.mt_Machine_forget) (ok_Machine_forget T) (hr.mono (by decide)) (T.bd_Machine_forget) .nil pass0))) pss_nil) (pss_one (ps_expr (pe_call (ok_spent T) (hr.mono (by decide)) (by rfl) (T.glo_spent) (T.kp_spent) (T.bd_spent) .nil pass0 (pa_cons (pv 1) (pa_cons (pv 2) pa_nil)))))) pss_nil) (pss_cons (ps_expr (pe_call (ok_devices_go T) (hr.mono (by decide)) (by rfl) (T.glo_devices_go) (T.kp_devices_go) (T.bd_devices_go) .nil pass0 (pa_cons (pv 1) pa_nil))) (pss_cut (ps_if (pt_val (pe_call (ok_next_part T) (hr.mono (by decide)) (by rfl) (T.glo_next_part) (T.kp_next_part) (T.bd_next_part) .nil pass0 (pa_cons (pv 1) pa_nil))) (pss_one (ps_expr (pe_meth0 (pv 0) (T.cl_Machine) (T.mt_Machine_forget) (ok_Machine_forget T) (hr.mono (by decide)) (T.bd_Machine_forget) .nil pass0))) pss_nil) (pss_one (ps_ret (pv 2))))))))), ?_⟩)
  · obtain ⟨_, _, _, _, _, _, _, rfl, _⟩ := h
    rfl
  · obtain ⟨mc, m, wl, cl, ent, μ, μ2, rfl, hB, d1, d2, d3, d4, hn, hs, h8, p1, p2, k⟩ := h
    obtain ⟨dx, kl, c0, c1, kept, h1, h2, h3, h4, h4w, h5', h6⟩ := hB.ma.ex
    refine q_asg (ev_fld (ev_var rfl) h1 T.cl_Machine T.no_Machine_memory rfl) fun H1 e1 => ?_
    have hB1 := hB.keep e1
    refine q_put hB1.me (ev_var rfl) ev_c ev_c (ev_op (ev_word hB1.me (ev_var rfl) ev_c ev_c (by omega)) ev_c rv_I0) (by omega) fun H2 m2 f2 => ?_
    have hB2 : BothAt K H2 mc m wl cl ent (mtime μ) := hB1.words f2 m2
    have f02 : FS [wl, mc, cl] H H2 := (FS.of e1).trans (FS.fr f2 (by simp))
    obtain ⟨r, hr0⟩ : ∃ r, r = mfrom (mtime μ) 4 := ⟨_, rfl⟩
    rw [← hr0] at hn hs k
    refine q_asg (v := oI r) (ev_pure (ea_cons (ev_var rfl) ea_nil) fun H3 e3 Q q => ⟨m, wl, mtime μ, rfl, hB2.me.keep e3, d1, d2, d3, d4, fun H4 e4 => by rw [← hr0]; exact q H4 e4⟩) fun H3 e3 => ?_
    have hB3 := hB2.keep e3
    have f03 := f02.trans (FS.of e3)
    refine q_cut (M := fun σ' H' => σ' = [some (.ref mc), some (.ref m), some (oI r)] ∧ BothAt K H' mc m wl cl ent μ2 ∧ FS [wl, mc, cl] H H') ?_ ?_
    · cases r with
      | none =>
        refine s_when (b := false) (et_is (et_test (ev_op (ev_var rfl) ev_c rv_notN)) rfl) (fun h => by cases h) fun _ H4 e4 => ⟨rfl, ?_, f03.trans (FS.of e4)⟩
        rw [hn rfl]
        exact hB3.keep e4
      | some t =>
        obtain ⟨wd, hg, hsp, hmu⟩ := hs t rfl
        refine s_when (b := true) (et_is (et_test (ev_op (ev_var rfl) ev_c rv_notN)) rfl) (fun _ H4 e4 => ?_) (fun h => by cases h)
        have hB4 := hB3.keep e4
        obtain ⟨dx2, kl2, c02, c12, kept2, g1, g2, g3, g4, g4w, g5', g6⟩ := hB4.ma.ex
        refine ⟨_, rfl, mc, dx2, _, rfl, g1, rfl, _, rfl, mc, m, wl, cl, ent, mtime μ, t, wd, rfl, hB4, hg.t0, hg.t1, hg.kd, hg.at_, hg.fr, hg.word, hg.op, hg.reg, fun H5 hB5 f5 => ⟨false, rfl, iteF ?_⟩⟩
        refine ⟨_, rfl, _, rfl, m, wl, _, t, rfl, hB5.me, ⟨by have := hg.t0; omega, hg.t1⟩, hsp.kd, hsp.st, hsp.turn, fun H6 m6 f6 => ⟨rfl, ?_, ?_⟩⟩
        · rw [hmu]
          exact hB5.words f6 m6
        · exact ((f03.trans (FS.of e4)).trans f5).trans (FS.fr f6 (by simp))
    rintro σ' H4 ⟨rfl, hB4, f04⟩
    refine ⟨_, rfl, m, wl, μ2, rfl, hB4.me, h8, fun H5 e5 => ?_⟩
    have hB5 := hB4.keep e5
    refine q_cut (M := fun σ' H' => σ' = [some (.ref mc), some (.ref m), some (oI r)] ∧ BothAt K H' mc m wl cl ent (mpart μ2).1 ∧ FS [wl, mc, cl] H H') ?_ ?_
    · refine ⟨_, rfl, m, wl, μ2, rfl, hB5.me, p1, p2, fun H6 m6 f6 => ⟨(mpart μ2).2, rfl, ?_⟩⟩
      have hB6 := hB5.words f6 m6
      have f06 := (f04.trans (FS.of e5)).trans (FS.fr f6 (by simp))
      generalize (mpart μ2).2 = bb
      cases bb with
      | true =>
        refine iteT ?_
        obtain ⟨dx2, kl2, c02, c12, kept2, g1, g2, g3, g4, g4w, g5', g6⟩ := hB6.ma.ex
        exact ⟨_, rfl, mc, dx2, _, rfl, g1, rfl, mc, m, wl, cl, ent, _, rfl, hB6, fun H7 hB7 f7 => ⟨rfl, hB7, f06.trans (f7.weak fun a ha => List.mem_cons_of_mem _ ha)⟩⟩
      | false => exact iteF ⟨rfl, hB6, f06⟩
    rintro σ' H6 ⟨rfl, hB6, f06⟩
    exact s_ret (ev_var rfl) fun H7 e7 => k H7 (hB6.keep e7) (f06.trans (FS.of e7))
end
end KA

/-! ### enumerate(t), t a tuple -/
namespace EnT
open PySem PySem.Calls PyProof.Rows PyProof.V PySem.Spec
theorem meets_new1 {v : Value} {o : Obj} {H : Heap → Prop} (B : Begins v o H) :
    Meets (Builtin.«enumerate.__new__» ⟨[.type "enumerate", v], []⟩) (fun _ R s => H s.heap ∧
      R (.ok (.ret (.ref (s.heap.push o).objs.size))) { s with heap := (s.heap.push o).push { cls := .type "enumerate", data := .fields #[.none, .bool false, .ref s.heap.objs.size, rawInt 0, .none, .none] } }) :=
  .of_wp fun prog w A R s h => by
    obtain ⟨hp, g, d, tk, os⟩ := s; obtain ⟨h1, h⟩ := h
    have hsub := sub_enumerate
    have q1 : ∀ {A' : Around} {E : Value → Shared → Prop} {Q : Value → Shared → Prop}, Q (.ref hp.objs.size) ⟨hp.push o, g, d, tk, os⟩ → wpAny (model prog w) A' (pyIter v) Q E ⟨hp, g, d, tk, os⟩ :=
      fun q => B.iter prog w _ _ ⟨hp, g, d, tk, os⟩ _ h1 q
    wp_walk using q1
    refine wpAny_stack_any fun st => wpAny_pure ?_
    split
    · rename_i c _ _ _ _ _
      cases (c == Value.type "enumerate")
      · wp_walk using q1
        exact ⟨_, rfl, h⟩
      · wp_walk using q1
        exact ⟨_, rfl, h⟩
    · wp_walk using q1
      exact ⟨_, rfl, h⟩
section
variable {prog : Program} {w : World} {A : Around} {E : Value → Shared → Prop} {s : Shared}
theorem begins1 {v : Value} {o : Obj} {H : Heap → Prop} {Q : Value → Shared → Prop} (B : Begins v o H) (h1 : H s.heap)
    (h : ∀ h', IsEnum h' (s.heap.objs.size + 1) s.heap.objs.size 0 .none → h'.get? s.heap.objs.size = some o → h'.objs.size = s.heap.objs.size + 2 →
      (∀ b o, s.heap.get? b = some o → h'.get? b = some o) → Q (.ref (s.heap.objs.size + 1)) { s with heap := h' }) :
    wpAny (model prog w) A (call (.type "enumerate") [v]) Q E s := by
  refine callType_new F.called_enumerate (by decide) (F.typeCall_enumerate_1 _) (F.newCall_enumerate_1 _) (fun obj => F.args_object_init_2 obj _) F.entry_enumerate_new
    (meets_new1 B) ⟨h1, ?_⟩
  have hz : (s.heap.push o).objs.size = s.heap.objs.size + 1 := Heap.size_push ..
  show _ ∧ _
  rw [hz]
  have he : IsEnum ((s.heap.push o).push { cls := .type "enumerate", data := .fields #[.none, .bool false, .ref s.heap.objs.size, rawInt 0, .none, .none] }) (s.heap.objs.size + 1) s.heap.objs.size 0 .none := by
    have := Heap.get?_push_size (s.heap.push o) (o := { cls := .type "enumerate", data := .fields #[.none, .bool false, .ref s.heap.objs.size, rawInt 0, .none, .none] }) rfl
    rw [hz] at this; exact this
  refine ⟨⟨_, he, rfl⟩, h _ he (Heap.get?_push_of_some _ (Heap.get?_push_size _ B.free)) (by rw [Heap.size_push, hz]) fun b o x => Heap.get?_push_of_some _ (Heap.get?_push_of_some _ x)⟩
end
end EnT
namespace KA
open PySem PySem.Spec PyProof.Rows L2
/-- the turns of enumerate(t): a new pair each -/
def ItE (K : PySem.W.Frag) (a : Addr) : It :=
  ⟨fun i H => ∃ (xs : List V) (x : V), SqT K H a xs ∧ xs[i]? = some x, fun i H v H' => ∃ T x, v = .ref T ∧ H T = none ∧ H' = upd H T (.tup [.int (i : Nat), x]) ∧ ∀ xs, SqT K H a xs → xs[i]? = some x, fun i H => ∃ xs : List V, SqT K H a xs ∧ xs.length ≤ i⟩
theorem turn_enumT {P : Program} {w : World} {K : PySem.W.Frag} {elts : List Expr} {kk : Nat} {tpos : Pos} (a e it : Addr) :
    Turn P w K (.Tuple elts kk tpos) (ItE K a) [e, it] e (fun i h => (∃ old, IsEnum h e it ((i : Nat) : Int) old) ∧ h.IsTupleIter it a i ∧ e ≠ it ∧ a ≠ e ∧ a ≠ it) where
  mem := by simp
  obj := fun i h st b hb => by
    obtain ⟨⟨old, he⟩, ⟨o, ho, hc, hd⟩, _⟩ := st
    have e' : b = e ∨ b = it := by simpa using hb
    rcases e' with z | z
    · rw [z]; exact ⟨_, he, fun v q => nomatch q⟩
    · rw [z]; exact ⟨o, ho, fun v q => by rw [hd] at q; cases q⟩
  keep := fun i h h' st k => let ⟨⟨old, he⟩, hi, hne⟩ := st; ⟨⟨old, k e (by simp) _ he⟩, hi.at fun o q => k it (by simp) o q, hne⟩
  item := by
    intro X hP hw hK hc i pins s σ H E I hf st hg
    subst hP hw hK
    obtain ⟨⟨old, he⟩, hit, hne, hae, hai⟩ := st
    obtain ⟨xs, x, hq, hx⟩ := hg
    obtain ⟨its, rv, p, hz⟩ := I.tuple hq
    obtain ⟨u, hu, ru⟩ := rv.get hx
    have hel : e < s.heap.objs.size := Heap.lt_size he
    have hil : it < s.heap.objs.size := by obtain ⟨_, q, _⟩ := hit; exact Heap.lt_size q
    have hlt : i < its.toArray.size := by rw [List.size_toArray]; exact (List.getElem?_eq_some_iff.mp hu).1
    refine wpAny_pyNext_enum_itemD (Draws.tuple (A := X.A.in1) (I.ok.hd hc) it a hai its.toArray) he ⟨hit, p⟩ hlt hne (by simp [hne, Ne.symm hae]) fun x' h' tk hP' ho hst' hT hsz hk => ?_
    obtain rfl : x' = u := by
      have : its[i]? = some x' := by simpa using hP'
      rw [hu] at this
      exact (Option.some.inj this).symm
    obtain ⟨hit', p'⟩ := hst'
    refine ⟨_, rfl, wpAny_letOwnedTupleGo_enum (s := { s with heap := h', toks := tk + 1 }) ho fun h'' he' sb => ?_⟩
    have hT2 : h''.get? s.heap.objs.size = some { cls := .type "tuple", data := .seq #[.int i tk, x'] } := (sb.2 _ (Nat.ne_of_gt hel)).trans hT
    have new : ObjOk X.prog X.w (upd H s.heap.objs.size (.tup [.int (i : Nat), x])) h'' s.heap.objs.size (.tup [.int (i : Nat), x]) :=
      ⟨by show 2 ≤ sizeLine; decide, [.int i tk, x'], .cons ⟨_, rfl⟩ (.cons ru .nil), ⟨_, hT2, rfl, _, rfl⟩⟩
    have I1 : Inv X pins σ (upd H s.heap.objs.size (.tup [.int (i : Nat), x])) { s with heap := h'', toks := tk + 1 } :=
      I.turnedNew (ch := [e, it]) (fun b ob hb q => (sb.2 b (fun z => hb (by simp [z]))).trans (hk b ob (fun z => hb (by simp [z])) (fun z => hb (by simp [z])) q)) hf (Nat.le_refl _) new
    refine ⟨.ref s.heap.objs.size, _, I1, rfl, ⟨_, x, rfl, I.hok.fresh (Nat.le_refl _), rfl, fun ys hy => by rw [I.tuple_inj hy hq]; exact hx⟩, ⟨⟨x', ?_⟩, hit'.at fun o q => (sb.2 it (Ne.symm hne)).trans q, hne, hae, hai⟩, fun b hb => ?_⟩
    · have e1 : ((i + 1 : Nat) : Int) = (i : Int) + 1 := by omega
      rw [e1]; exact he'
    · have hb' : b < s.heap.objs.size := by
        have e' : b = e ∨ b = it := by simpa using hb
        rcases e' with z | z
        · rw [z]; exact hel
        · rw [z]; exact hil
      rw [upd_ne (Nat.ne_of_lt hb')]
      exact (hf b hb).1
  done := by
    intro X hP hw hK hc i pins s σ H E I hf st hg
    subst hP hw hK
    obtain ⟨⟨old, he⟩, hit, hne, hae, hai⟩ := st
    obtain ⟨xs, hq, hx⟩ := hg
    obtain ⟨its, rv, p, hz⟩ := I.tuple hq
    obtain ⟨f0, f1, f2, f3, f4, f5⟩ := hf it (by simp)
    have hl := rv.length
    have hT : s.TypeIs (.ref e) "enumerate" := ⟨_, he, rfl⟩
    unfold pyNext
    refine wpAny_bind (wpAny_attempt (wpAny_callSpecial?_slot (name := Str.ofString "__next__") hT F.slot_enumerate_next
      (wpAny_call_entry F.slot_enumerate_next hT F.entry_enumerate_next ?_ (F.args_enumerate_next_1 _))))
    show wpAny _ _ (field (.ref e) 2 >>= _) _ _ _
    refine wpAny_bind (wpAny_field he rfl (x := .ref it) rfl ?_)
    refine wpAny_bind (wpAny_nextOf_tuple_end (I.ok.hd hc) hit p (by rw [List.getElem?_toArray]; exact List.getElem?_eq_none (by omega)) fun h' x he' hx' => ?_)
    obtain ⟨o, ho, hcl⟩ := hx'
    refine wpAny_bind (wpAny_isInstance (T := "StopIteration") (b := true) ⟨o, ho, hcl⟩ isSubtype_stop ?_)
    exact wpAny_pure ⟨rfl, I.turned (t' := s.toks) (fun b o hb q => he' b o hb q) f0 f1 f3 f4 f5⟩
  self := fun A i s Q E st h => let ⟨⟨_, he⟩, _⟩ := st; wpAny_pyIter_enum he h
def iEnumT (K : PySem.W.Frag) (ta : TA) : TI := fun σ H R => ta σ H fun vs H1 => ∃ a xs, vs = [.ref a] ∧ SqT K H1 a xs ∧ R (ItE K a) H1
theorem pi_enumT {X : Cx} {e : Expr} {ta : TA} {p pos tpos : Pos} {elts : List Expr} {kk : Nat} (hg : Gl X "enumerate") (hm : X.mg "enumerate" = none) (ha : PA X [e] ta) (hs : starEach [e] X.env = [(false, eval e X.env)] := by rfl) :
    PI X (.Tuple elts kk tpos) (.Call (.Name "enumerate" p) [e] [] pos) (iEnumT X.K ta) := by
  refine ⟨fun pins s σ H R I h => ?_⟩
  refine Call_ (ld_blt I hg hm boot_enumerate (PyProof.Rows.callWith_type1 (thn (ha.run pos pins s σ H _ I h) fun us s1 ⟨vs, H1, I1, r1, q1⟩ => ?_) hs rfl))
  obtain ⟨a, xs, ex, hq, q⟩ := q1
  subst ex
  cases r1 with
  | cons r rr =>
    cases rr
    cases r
    obtain ⟨its, rv, p', hz⟩ := I1.tuple hq
    have hal : a < s1.heap.objs.size := by obtain ⟨o, ho, _⟩ := p'; exact Heap.lt_size ho
    refine EnT.begins1 (PySem.begins_tuple a its.toArray) p' fun h' he hit hsz hk => wpAny_pyIter_enum he ?_
    have I2 : Inv X pins σ H1 { s1 with heap := h' } := I1.kept (t' := s1.toks) hk
    refine ⟨s1.heap.objs.size + 1, [s1.heap.objs.size + 1, s1.heap.objs.size], _, _, H1, rfl, I2, turn_enumT a (s1.heap.objs.size + 1) s1.heap.objs.size, ⟨⟨.none, he⟩, ⟨_, hit, rfl, rfl⟩, Nat.succ_ne_self _, Nat.ne_of_lt (Nat.lt_succ_of_lt hal), Nat.ne_of_lt hal⟩, fun b hb => ?_, q⟩
    have e' : b = s1.heap.objs.size + 1 ∨ b = s1.heap.objs.size := by simpa using hb
    have hle : s1.heap.objs.size ≤ b := by
      rcases e' with z | z
      · rw [z]; exact Nat.le_add_right _ _
      · rw [z]; exact Nat.le_refl _
    exact I1.fpOk hle (I1.hok.fresh hle)
/-- over enumerate of a tuple -/
theorem for_enumT {σ : L2.St} {H : Hp} {K : PySem.W.Frag} {D : Ends} {a : Addr} {xs : List V} {g : TG} {tb : TS} (Pv : Nat → L2.St → Hp → Prop) (h0 : Pv 0 σ H) (hl : ∀ i σ H, i ≤ xs.length → Pv i σ H → SqT K H a xs)
    (hs : ∀ i x σ H T, xs[i]? = some x → Pv i σ H → H T = none → g (.ref T) σ (upd H T (.tup [.int (i : Nat), x])) fun σ2 H2 => tb { D with nx := Pv (i + 1), ct := Pv (i + 1), bk := D.nx } σ2 H2) (hd : ∀ σ H, Pv xs.length σ H → D.nx σ H) :
    ∃ W : Nat → Nat → L2.St → Hp → Prop, (∃ m, W 0 m σ H) ∧ ∀ i m σ H, W i m σ H →
      ((ItE K a).stop i H ∧ D.nx σ H) ∨ ((ItE K a).go i H ∧ ∃ N : L2.St → Hp → Prop, (∀ σ' H', N σ' H' → ∃ m', m' < m ∧ W (i + 1) m' σ' H') ∧ ∀ x H', (ItE K a).yld i H x H' → g x σ H' fun σ2 H2 => tb { D with nx := N, ct := N, bk := D.nx } σ2 H2) := by
  refine ⟨fun i m σ H => m = xs.length - i ∧ i ≤ xs.length ∧ Pv i σ H, ⟨xs.length, by simp, Nat.zero_le _, h0⟩, ?_⟩
  rintro i m σ H ⟨rfl, hi, p⟩
  have q := hl i σ H hi p
  by_cases hlt : i < xs.length
  · refine .inr ⟨⟨xs, xs[i], q, by simp [hlt]⟩, Pv (i + 1), fun σ' H' p' => ⟨xs.length - (i + 1), by omega, rfl, hlt, p'⟩, fun x H' y => ?_⟩
    obtain ⟨T, z, rfl, hT, rfl, hz⟩ := y
    exact hs i z σ H T (hz xs q) p hT
  · have e : i = xs.length := by omega
    subst e
    exact .inl ⟨⟨xs, q, Nat.le_refl _⟩, hd σ H p⟩
end KA

/-! ### zip(range(..), t), t a tuple -/
namespace ZrR
open PySem PySem.Calls PyProof.Rows PyProof.V PySem.Spec
section
variable {prog : Program} {w : World} {A : Around} {E : Value → Shared → Prop} {s : Shared}
theorem nextOf_item {it : Addr} {x left step : Int} {Q : Value → Shared → Prop} (hit : IsRangeIter s.heap it x left step) (hleft : 0 < left)
    (hQ : ∀ h', IsRangeIter h' it (x + step) (left - 1) step → Heap.SameBut it s.heap h' → Q (.int x s.toks) { s with heap := h', toks := s.toks + 1 }) :
    wpAny (model prog w) A (Builtin.SmallTypes.nextOf (.ref it)) Q E s := by
  have hT : s.TypeIs (.ref it) "range_iterator" := ⟨_, hit, rfl⟩
  unfold Builtin.SmallTypes.nextOf
  refine wpAny_bind (wpAny_callSpecial?_slot (name := Str.ofString "__next__") hT F.slot_range_iterator_next
    (call_meets F.slot_range_iterator_next hT F.entry_range_iterator_next (F.args_range_iterator_next_1 _) (AutoRange.range_iterator___next___range_iterator_1 it x left step (by omega)) ⟨hit, ?_⟩))
  exact wpAny_pure (hQ _ (Heap.get?_update_self _ (Heap.get?_update_self _ hit rfl) rfl) ((Heap.SameBut.update ..).trans (Heap.SameBut.update ..)))
theorem nextOf_end {it : Addr} {x left step : Int} {Q : Value → Shared → Prop} (hh : A.handled = none) (hit : IsRangeIter s.heap it x left step) (hleft : left ≤ 0)
    (hE : ∀ h' e, Heap.ExtBut it s.heap h' → (∃ o, h'.get? e = some o ∧ o.cls = .type "StopIteration") → E (.ref e) { s with heap := h' }) :
    wpAny (model prog w) A (Builtin.SmallTypes.nextOf (.ref it)) Q E s := by
  have hT : s.TypeIs (.ref it) "range_iterator" := ⟨_, hit, rfl⟩
  unfold Builtin.SmallTypes.nextOf
  refine wpAny_bind (wpAny_callSpecial?_slot (name := Str.ofString "__next__") hT F.slot_range_iterator_next
    (wpAny_call_entry F.slot_range_iterator_next hT F.entry_range_iterator_next ?_ (F.args_range_iterator_next_1 _)))
  show wpAny _ _ (field (.ref it) 0 >>= _) _ _ s
  refine wpAny_bind (wpAny_field hit rfl (x := rawInt x) rfl ?_)
  show wpAny _ _ (field (.ref it) 1 >>= _) _ _ s
  refine wpAny_bind (wpAny_field hit rfl (x := rawInt left) rfl ?_)
  show wpAny _ _ (field (.ref it) 2 >>= _) _ _ s
  refine wpAny_bind (wpAny_field hit rfl (x := rawInt step) rfl ?_)
  show wpAny _ _ (if left ≤ 0 then _ else _) _ _ s
  rw [if_pos hleft]
  refine wpAny_bind (wpAny_rule ?_)
  refine wpAny_bind ?_
  show wpAny _ _ (newExc (.type "StopIteration") [] >>= _) _ _ _
  refine wpAny_bind ?_
  simp only [newExc, newTuple]
  refine wpAny_bind (wpAny_newObj_type ?_ (by size_fits))
  refine wpAny_bind (m := firstArgMember _ _) (wpAny_of_eq (a := Value.none) (by first | rfl | (simp only [firstArgMember]; rfl)) ?_)
  refine wpAny_newObj_type ?_ (by size_fits)
  simp only [raiseNew]
  refine wpAny_bind (wpAny_handled ?_)
  first | rw [show A.in1.handled = none from hh] | rw [hh]
  refine wpAny_bind (wpAny_pure (wpAny_throw ?_))
  exact hE _ _ (((Heap.ExtBut.refl it s.heap).push _).push _) ⟨_, Heap.get?_push_size _ rfl, rfl⟩
end
theorem draws {prog : Program} {w : World} {A : Around} (hh : A.handled = none) (it : Addr) (lo : Int) (n : Nat) :
    Draws prog w A it [it] n (fun i v => ∃ t, v = .int (lo + i) t) (fun i h => IsRangeIter h it (lo + i) ((n : Int) - i) 1) where
  live := fun _ _ st => ⟨_, st⟩
  frame := fun _ _ _ st hk => hk it (by simp) _ st
  item := fun i s Q E hi st hQ => by
    refine nextOf_item st (by omega) fun h' hit' hs' => ?_
    refine hQ _ h' _ ⟨_, rfl⟩ ?_ hs'
    have e1 : lo + ((i + 1 : Nat) : Int) = lo + (i : Int) + 1 := by omega
    have e2 : (n : Int) - ((i + 1 : Nat) : Int) = (n : Int) - (i : Int) - 1 := by omega
    rw [e1, e2]; exact hit'
  done := fun s Q E st hE => nextOf_end hh st (by omega) hE
theorem sep (I b : Nat) (h : b < I) : ZipSep2 (I + 4) (I + 2) (I + 3) I (I + 1) [I] [I + 1, b] := by
  have m2 : ∀ x : Nat, x ≠ I + 1 → x ≠ b → x ∉ ([I + 1, b] : List Nat) := fun x h1 h2 q => by
    rcases List.mem_cons.mp q with e | q
    · exact h1 e
    · rcases List.mem_cons.mp q with e | q
      · exact h2 e
      · cases q
  have m1 : ∀ x : Nat, x ≠ I → x ∉ ([I] : List Nat) := fun x h1 q => by
    rcases List.mem_cons.mp q with e | q
    · exact h1 e
    · cases q
  exact { TIz := Nat.ne_of_lt (by omega), TOz := Nat.ne_of_lt (by omega), TITO := Nat.ne_of_lt (by omega), TIi1 := Nat.ne_of_gt (by omega), mem1 := List.mem_cons_self .., zf1 := m1 _ (Nat.ne_of_gt (by omega)), Tf1 := m1 _ (Nat.ne_of_gt (by omega)),
          TIi2 := Nat.ne_of_gt (by omega), mem2 := List.mem_cons_self .., zf2 := m2 _ (Nat.ne_of_gt (by omega)) (Nat.ne_of_gt (by omega)), Tf2 := m2 _ (Nat.ne_of_gt (by omega)) (Nat.ne_of_gt (by omega)),
          sep1_2 := m2 _ (Nat.ne_of_lt (by omega)) (Nat.ne_of_gt (by omega)), sep2_1 := m1 _ (Nat.ne_of_gt (by omega)) }
theorem begins (r : Addr) {lo hi : Int} {t u v : Tok} (h1 : -(2 ^ 62) ≤ lo) (h2 : lo < 2 ^ 62) (h3 : -(2 ^ 62) ≤ hi) (h4 : hi < 2 ^ 62) :
    Begins (.ref r) { cls := .type "range_iterator", data := .fields #[rawInt lo, rawInt (Builtin.Range.rangeSize lo hi 1), rawInt 1] } fun h => IsRange h r lo hi 1 t u v where
  iter := fun prog w A E s Q hr h => wpAny_pyIter_range hr (small_one h1 h2 h3 h4) h
  keeps := fun h h' x hk => hk r _ x
  free := rfl
end ZrR
namespace KA
open PySem PySem.Spec PyProof.Rows L2
/-- the turns of zip(range(lo, ..), t): a new pair each -/
def ItR (K : PySem.W.Frag) (lo : Int) (n : Nat) (b : Addr) : It :=
  ⟨fun i H => ∃ (ys : List V) (y : V), SqT K H b ys ∧ ys[i]? = some y ∧ i < n,
   fun i H v H' => ∃ T y, v = .ref T ∧ H T = none ∧ H' = upd H T (.tup [.int (lo + i), y]) ∧ ∀ ys, SqT K H b ys → ys[i]? = some y,
   fun i H => ∃ ys : List V, SqT K H b ys ∧ i = n ∧ ys.length = n⟩
theorem turn_zipR {P : Program} {w : World} {K : PySem.W.Frag} {elts : List Expr} {kk : Nat} {tpos : Pos} {lo : Int} {n : Nat} {b z TI TO i1 i2 : Addr} (D : PySem.ZipSep2 z TI TO i1 i2 [i1] [i2, b]) (hbi : b ≠ i2) :
    Turn P w K (.Tuple elts kk tpos) (ItR K lo n b) [z, TI, TO, i1, i2] z (fun i h => IsZip h z TI TO .none ∧ IsPair h TI (.ref i1) (.ref i2) ∧ (∃ x y, IsPair h TO x y) ∧ IsRangeIter h i1 (lo + i) ((n : Int) - i) 1 ∧ h.IsTupleIter i2 b i) where
  mem := by simp
  obj := fun i h st c hc => by
    obtain ⟨hz, hTI, ⟨x, y, hTO⟩, h1, ⟨o2, e2, _, d2⟩⟩ := st
    have e' : c = z ∨ c = TI ∨ c = TO ∨ c = i1 ∨ c = i2 := by simpa using hc
    rcases e' with q | q | q | q | q
    · rw [q]; exact ⟨_, hz, fun v q => nomatch q⟩
    · rw [q]; exact ⟨_, hTI, fun v q => nomatch q⟩
    · rw [q]; exact ⟨_, hTO, fun v q => nomatch q⟩
    · rw [q]; exact ⟨_, h1, fun v q => nomatch q⟩
    · rw [q]; exact ⟨o2, e2, fun v q => by rw [d2] at q; cases q⟩
  keep := fun i h h' st k => by
    obtain ⟨hz, hTI, ⟨x, y, hTO⟩, h1, h2⟩ := st
    exact ⟨k z (by simp) _ hz, k TI (by simp) _ hTI, ⟨x, y, k TO (by simp) _ hTO⟩, k i1 (by simp) _ h1, h2.at fun o q => k i2 (by simp) o q⟩
  item := by
    intro X hP hw hK hc i pins s σ H E I hf st hg
    subst hP hw hK
    obtain ⟨hz, hTI, ⟨x0, y0, hTO⟩, h1, h2⟩ := st
    obtain ⟨ys, y, hqy, hy, hin⟩ := hg
    obtain ⟨its2, rv2, p2, _⟩ := I.tuple hqy
    obtain ⟨u2, hu2, ru2⟩ := rv2.get hy
    have hzl : z < s.heap.objs.size := Heap.lt_size hz
    have hlt : i < its2.toArray.size := by rw [List.size_toArray]; exact (List.getElem?_eq_some_iff.mp hu2).1
    refine wpAny_pyNext_zipD2_item D (ZrR.draws (A := X.A.in1) (I.ok.hd hc) i1 lo n) (Draws.tuple (A := X.A.in1) (I.ok.hd hc) i2 b hbi its2.toArray) hz hTI hTO h1 ⟨h2, p2⟩ hin hlt fun x1 x2 h' tk P1 P2 z' TO' st1 st2 hT hsz hk => ?_
    obtain ⟨t1, rfl⟩ := P1
    obtain rfl : x2 = u2 := by
      have : its2[i]? = some x2 := by simpa using P2
      rw [hu2] at this
      exact (Option.some.inj this).symm
    obtain ⟨h2', p2'⟩ := st2
    refine ⟨_, rfl, wpAny_letOwnedTupleGo_zip (s := { s with heap := h', toks := tk }) z' fun h'' z'' sb => ?_⟩
    have hT2 : h''.get? s.heap.objs.size = some { cls := .type "tuple", data := .seq #[.int (lo + i) t1, x2] } := (sb.2 _ (Nat.ne_of_gt hzl)).trans hT
    have new : ObjOk X.prog X.w (upd H s.heap.objs.size (.tup [.int (lo + i), y])) h'' s.heap.objs.size (.tup [.int (lo + i), y]) :=
      ⟨by show 2 ≤ sizeLine; decide, [.int (lo + i) t1, x2], .cons ⟨_, rfl⟩ (.cons ru2 .nil), ⟨_, hT2, rfl, _, rfl⟩⟩
    have I1 : Inv X pins σ (upd H s.heap.objs.size (.tup [.int (lo + i), y])) { s with heap := h'', toks := tk } :=
      I.turnedNew (t' := tk) (ch := [z, TI, TO, i1, i2]) (fun c o hb q => (sb.2 c (fun q' => hb (by simp [q']))).trans (hk c o (fun q' => hb (by simp [q'])) (fun q' => hb (by simp [q'])) (fun q' => hb (by simp [q'])) (fun q' => hb (by simp [q'])) q)) hf (Nat.le_refl _) new
    refine ⟨.ref s.heap.objs.size, _, I1, rfl, ⟨_, y, rfl, I.hok.fresh (Nat.le_refl _), rfl, fun l hl => by rw [I.tuple_inj hl hqy]; exact hy⟩, ⟨z'', ?_, ⟨.int (lo + i) t1, x2, ?_⟩, ?_, ?_⟩, fun c hcm => ?_⟩
    · exact (sb.2 _ D.TIz).trans (hk _ _ D.TIz D.TITO D.TIi1 D.TIi2 hTI)
    · exact (sb.2 _ D.TOz).trans TO'
    · exact (sb.2 _ (Ne.symm D.zi1)).trans st1
    · exact h2'.at fun o q => (sb.2 _ (Ne.symm D.zi2)).trans q
    · have hlt : c < s.heap.objs.size := by
        have e' : c = z ∨ c = TI ∨ c = TO ∨ c = i1 ∨ c = i2 := by simpa using hcm
        rcases e' with q | q | q | q | q
        · rw [q]; exact hzl
        · rw [q]; exact Heap.lt_size hTI
        · rw [q]; exact Heap.lt_size hTO
        · rw [q]; exact Heap.lt_size h1
        · rw [q]; obtain ⟨_, e2, _⟩ := h2; exact Heap.lt_size e2
      rw [upd_ne (Nat.ne_of_lt hlt)]
      exact (hf c hcm).1
  done := by
    intro X hP hw hK hc i pins s σ H E I hf st hg
    subst hP hw hK
    obtain ⟨hz, hTI, ⟨x0, y0, hTO⟩, h1, h2⟩ := st
    obtain ⟨ys, hqy, rfl, hlen⟩ := hg
    obtain ⟨its2, rv2, p2, _⟩ := I.tuple hqy
    have l2 := rv2.length
    have hsz : its2.toArray.size = i := by rw [List.size_toArray]; omega
    exact wpAny_pyNext_zipD2_end D (ZrR.draws (A := X.A.in1) (I.ok.hd hc) i1 lo i) (Draws.tuple (A := X.A.in1) (I.ok.hd hc) i2 b hbi its2.toArray) hz hTI hTO h1 ⟨h2, p2⟩ (Nat.le_refl _) (by omega) (.inl rfl) fun h' tk hk => ⟨rfl, I.turnedL (t' := tk) (ch := [z, TI, TO, i1, i2]) (fun c o hb q =>
      hk c o (fun q' => hb (by simp [q'])) (fun q' => hb (by simp [q'])) (fun q' => hb (by simp [q'])) (fun q' => hb (by simp [q'])) q) hf⟩
  self := fun A i s Q E st h => wpAny_pyIter_zip st.1 h
def iZipR (K : PySem.W.Frag) (ta : TA) : TI := fun σ H R => ta σ H fun vs H1 => ∃ r b ys lo hi, vs = [.ref r, .ref b] ∧ H1 r = some (.rng lo hi) ∧ -(2 ^ 62) ≤ lo ∧ lo < 2 ^ 62 ∧ lo ≤ hi ∧ hi < 2 ^ 62 ∧ SqT K H1 b ys ∧ R (ItR K lo (hi - lo).toNat b) H1
theorem pi_zipR {X : Cx} {e e2 : Expr} {ta : TA} {p pos tpos : Pos} {elts : List Expr} {kk : Nat} (hg : Gl X "zip") (hm : X.mg "zip" = none) (ha : PA X [e, e2] ta)
    (hs : starEach [e, e2] X.env = (false, eval e X.env) :: starEach [e2] X.env := by rfl) (hpl : (backTo pos (starEach [e2] X.env)).any (·.1) = false := by rfl) :
    PI X (.Tuple elts kk tpos) (.Call (.Name "zip" p) [e, e2] [] pos) (iZipR X.K ta) := by
  refine ⟨fun pins s σ H R I h => ?_⟩
  refine Call_ (ld_blt I hg hm PyProof.Rows.boot_zip (PyProof.Rows.callWith_type1 (thn (ha.run pos pins s σ H _ I h) fun us s1 ⟨vs, H1, I1, r1, q1⟩ => ?_) hs hpl))
  obtain ⟨r, b, ys, lo, hi, ex, hr, g1, g2, g3, g4, hqy, q⟩ := q1
  subst ex
  cases r1 with
  | cons r0 rr =>
    cases rr with
    | cons r' rr =>
      cases rr
      cases r0
      cases r'
      obtain ⟨its2, rv2, p2, _⟩ := I1.tuple hqy
      obtain ⟨o2, ho2, _⟩ := id p2
      have hb : b < s1.heap.objs.size := Heap.lt_size ho2
      obtain ⟨t, u, v, hro⟩ := I1.hok _ _ hr
      have hn : Builtin.Range.rangeSize lo hi 1 = ((hi - lo).toNat : Int) := by
        unfold Builtin.Range.rangeSize
        split <;> split <;> first | omega | (rename_i x y; simp at *; omega)
      refine PySem.zip_begins2 (ZrR.begins r g1 g2 (by omega) g4) (begins_tuple b its2.toArray) hro p2 fun h' hz hTI hTO h1 h2 hsz hk => wpAny_pyIter_zip hz ?_
      have I2 : Inv X pins σ H1 { s1 with heap := h' } := I1.kept (t' := s1.toks) hk
      have D : PySem.ZipSep2 (s1.heap.objs.size + 4) (s1.heap.objs.size + 2) (s1.heap.objs.size + 3) s1.heap.objs.size (s1.heap.objs.size + 1) [s1.heap.objs.size] [s1.heap.objs.size + 1, b] := ZrR.sep _ _ hb
      rw [hn] at h1
      refine ⟨s1.heap.objs.size + 4, [s1.heap.objs.size + 4, s1.heap.objs.size + 2, s1.heap.objs.size + 3, s1.heap.objs.size, s1.heap.objs.size + 1], _, _, H1, rfl, I2, turn_zipR D (Nat.ne_of_lt (Nat.lt_succ_of_lt hb)), ⟨hz, hTI, ⟨_, _, hTO⟩, by simpa using h1, ⟨_, h2, rfl, rfl⟩⟩, fun c hcm => ?_, q⟩
      have e' : c = s1.heap.objs.size + 4 ∨ c = s1.heap.objs.size + 2 ∨ c = s1.heap.objs.size + 3 ∨ c = s1.heap.objs.size ∨ c = s1.heap.objs.size + 1 := by simpa using hcm
      have hle : s1.heap.objs.size ≤ c := by
        rcases e' with z | z | z | z | z
        · rw [z]; exact Nat.le_add_right _ _
        · rw [z]; exact Nat.le_add_right _ _
        · rw [z]; exact Nat.le_add_right _ _
        · rw [z]; exact Nat.le_refl _
        · rw [z]; exact Nat.le_add_right _ _
      exact I1.fpOk hle (I1.hok.fresh hle)
/-- over zip of a range and a tuple of one length -/
theorem for_zipR {σ : L2.St} {H : Hp} {K : PySem.W.Frag} {D : Ends} {lo : Int} {n : Nat} {b : Addr} {ys : List V} {g : TG} {tb : TS} (hlen : ys.length = n) (Pv : Nat → L2.St → Hp → Prop) (h0 : Pv 0 σ H) (hl : ∀ i σ H, i ≤ n → Pv i σ H → SqT K H b ys)
    (hs : ∀ i y σ H T, ys[i]? = some y → Pv i σ H → H T = none → g (.ref T) σ (upd H T (.tup [.int (lo + (i : Nat)), y])) fun σ2 H2 => tb { D with nx := Pv (i + 1), ct := Pv (i + 1), bk := D.nx } σ2 H2) (hd : ∀ σ H, Pv n σ H → D.nx σ H) :
    ∃ W : Nat → Nat → L2.St → Hp → Prop, (∃ m, W 0 m σ H) ∧ ∀ i m σ H, W i m σ H →
      ((ItR K lo n b).stop i H ∧ D.nx σ H) ∨ ((ItR K lo n b).go i H ∧ ∃ N : L2.St → Hp → Prop, (∀ σ' H', N σ' H' → ∃ m', m' < m ∧ W (i + 1) m' σ' H') ∧ ∀ x H', (ItR K lo n b).yld i H x H' → g x σ H' fun σ2 H2 => tb { D with nx := N, ct := N, bk := D.nx } σ2 H2) := by
  refine ⟨fun i m σ H => m = n - i ∧ i ≤ n ∧ Pv i σ H, ⟨n, by simp, Nat.zero_le _, h0⟩, ?_⟩
  rintro i m σ H ⟨rfl, hi, p⟩
  have q := hl i σ H hi p
  by_cases hlt : i < n
  · refine .inr ⟨⟨ys, ys[i]'(by omega), q, List.getElem?_eq_getElem (by omega), hlt⟩, Pv (i + 1), fun σ' H' p' => ⟨n - (i + 1), by omega, rfl, hlt, p'⟩, fun x H' y => ?_⟩
    obtain ⟨T, z, rfl, hT, rfl, hz⟩ := y
    exact hs i z σ H T (hz ys q) p hT
  · have e : i = n := by omega
    subst e
    exact .inl ⟨⟨ys, q, rfl, hlen⟩, hd σ H p⟩
end KA

namespace KA
open PySem PySem.Spec PyProof.Rows L2 Evl TL
section
variable {σ : L2.St} {H : Hp} {K : PySem.W.Frag} {D : Ends}
theorem q_forR1 {ta : TA} {g : TG} {tu tz : TS} {j : Int} (h : EvA ta σ H [.int j]) (hj : 0 ≤ j ∧ j < 1000000) (Pv : Nat → L2.St → Hp → Prop) (h0 : ∀ H1, Ex H H1 → Pv 0 σ H1)
    (hs : ∀ (i : Nat) σ' H', i < j.toNat → Pv i σ' H' → g (.int (0 + (i : Nat))) σ' H' fun σ2 H2 => tu { D with nx := Pv (i + 1), ct := Pv (i + 1), bk := tz D } σ2 H2) (hd : ∀ σ' H', Pv j.toNat σ' H' → tz D σ' H') : tSeq (tFor (iRng1 ta) g tu) tz D σ H :=
  h H (Ex.refl H) _ fun H1 e => ⟨j, rfl, by omega, by omega, for_range (D := { D with nx := tz D }) Pv (h0 H1 e) hs hd⟩
theorem s_forR1 {ta : TA} {g : TG} {tu : TS} {j : Int} (h : EvA ta σ H [.int j]) (hj : 0 ≤ j ∧ j < 1000000) (Pv : Nat → L2.St → Hp → Prop) (h0 : ∀ H1, Ex H H1 → Pv 0 σ H1)
    (hs : ∀ (i : Nat) σ' H', i < j.toNat → Pv i σ' H' → g (.int (0 + (i : Nat))) σ' H' fun σ2 H2 => tu { D with nx := Pv (i + 1), ct := Pv (i + 1), bk := D.nx } σ2 H2) (hd : ∀ σ' H', Pv j.toNat σ' H' → D.nx σ' H') : tFor (iRng1 ta) g tu D σ H :=
  h H (Ex.refl H) _ fun H1 e => ⟨j, rfl, by omega, by omega, for_range Pv (h0 H1 e) hs hd⟩
theorem el_rep {ta tb : TE} {xs : List V} {j : Int} (ha : EvL ta σ H xs) (hb : Ev tb σ H (.int j)) (hj : 0 ≤ j ∧ j < 100000) (hz : xs.length * j.toNat ≤ 100000) : EvL (tOp rRep ta tb) σ H (List.replicate j.toNat xs).flatten := fun H1 e Q q =>
  ha H1 e _ fun p H2 hp e2 h2 => hb H2 (e.trans e2) _ fun H3 e3 => ⟨p, j, xs, rfl, rfl, e3 _ _ h2, by omega, by omega, sz_of hz, fun l hl => q l _ (fresh_back (e2.trans e3) hl) ((e2.trans e3).trans (Ex.new hl)) upd_same⟩
theorem rv_ixT {p : Addr} {xs : List V} {i : Int} {v : V} (hp : H p = some (.tup xs)) (h : atI xs i = some v) : RV (rIxT K) (.ref p) (.int i) H v := fun H1 e Q q =>
  ⟨p, xs, i, v, rfl, rfl, st_of (e _ _ hp), h, q H1 (Ex.refl H1)⟩
end
section
variable {P : Program} {w : World} {K : PySem.W.Frag} {mg : Str → Option Value} {base : Heap}
section
variable {σ : L2.St} {H : Hp} {D : Ends} {m wl : Addr} {μ : Mem} {tm tf tp tx : TE} {tz : TS} {s p x : Int}
theorem q_putf (hM : MemAt K H m wl μ) (hm : Ev tm σ H (.ref m)) (hf : Ev tf σ H (.int s)) (hp : Ev tp σ H (.int p)) (hx : Ev tx σ H (.int x)) (hI : 0 ≤ s ∧ s < 256 ∧ 0 ≤ p ∧ p < 8) (k : ∀ H', MemAt K H' m wl (mset μ (s * 8 + p).toNat x) → Fr wl H H' → tz D σ H') :
    tSeq (tDrop (tCall (sp_put_field K) [] E0 (tCons tm (tCons tf (tCons tp (tCons tx tNil)))))) tz D σ H :=
  (ea_cons hm (ea_cons hf (ea_cons hp (ea_cons hx ea_nil))) : EvA (tCons tm (tCons tf (tCons tp (tCons tx tNil)))) σ H [.ref m, .int s, .int p, .int x]) H (Ex.refl H) (fun vs H1 => sp_put_field K (vs ++ []) H1 (fun _ H2 => tz D σ H2) E0) fun H1 e1 => ⟨m, wl, μ, s, p, x, rfl, hM.keep e1, hI.1, hI.2.1, hI.2.2.1, hI.2.2.2, fun H' h' f' => k H' h' ((Fr.of e1).trans f')⟩
theorem s_putf (hM : MemAt K H m wl μ) (hm : Ev tm σ H (.ref m)) (hf : Ev tf σ H (.int s)) (hp : Ev tp σ H (.int p)) (hx : Ev tx σ H (.int x)) (hI : 0 ≤ s ∧ s < 256 ∧ 0 ≤ p ∧ p < 8) (k : ∀ H', MemAt K H' m wl (mset μ (s * 8 + p).toNat x) → Fr wl H H' → D.nx σ H') :
    tDrop (tCall (sp_put_field K) [] E0 (tCons tm (tCons tf (tCons tp (tCons tx tNil))))) D σ H :=
  (ea_cons hm (ea_cons hf (ea_cons hp (ea_cons hx ea_nil))) : EvA (tCons tm (tCons tf (tCons tp (tCons tx tNil)))) σ H [.ref m, .int s, .int p, .int x]) H (Ex.refl H) (fun vs H1 => sp_put_field K (vs ++ []) H1 (fun _ H2 => D.nx σ H2) E0) fun H1 e1 => ⟨m, wl, μ, s, p, x, rfl, hM.keep e1, hI.1, hI.2.1, hI.2.2.1, hI.2.2.2, fun H' h' f' => k H' h' ((Fr.of e1).trans f')⟩
end
/-! ### a memory made -/
def m0 : Mem := fun _ => 0
theorem lW0 : lW m0 = List.replicate 2048 (.int 0) := by
  apply List.ext_getElem?
  intro j
  by_cases hj : j < 2048
  · rw [lW_at hj, List.getElem?_replicate]
    rw [if_pos hj]
    rfl
  · rw [List.getElem?_eq_none (by rw [lW_len]; omega), List.getElem?_eq_none (by rw [List.length_replicate]; omega)]
theorem rep1 {α : Type} (x : α) : ∀ n : Nat, (List.replicate n [x]).flatten = List.replicate n x
  | 0 => rfl
  | n + 1 => by rw [List.replicate_succ, List.flatten_cons, rep1 x n, List.replicate_succ]; rfl
def sp_Memory_init (K : PySem.W.Frag) : Sp := fun vs H Q _ => ∃ (m dx : Addr), vs = [.ref m] ∧ H m = some (.ins (CM K) dx []) ∧ ∀ wl H', H wl = none → MemAt K H' m wl m0 → FS [m] H H' → Q .non H'
theorem ok_Memory_init (T : Txt K mg) : FnOk P w K mg base CX0 1 (f_Memory_init K) (fd_Memory_init K) ["self"] (sp_Memory_init K) := by
  refine T.fn_Memory_init.ok sc_Memory_init (fun vs H Q E h => ?_) (fun cdv A outer s H vs Q E hr h => ⟨_, PSs.nox (pss_cons (ps_fld (pv 0) (pe_op op_rep (pe_lst (pa_cons pe_int pa_nil)) (pe_op op_mul (T.pg_FRAMES) (T.pg_FRAME))) rfl) (pss_one (ps_fld (pv 0) pe_dnewK rfl))), ?_⟩)
  · obtain ⟨_, _, rfl, _⟩ := h
    rfl
  · obtain ⟨m, dx, rfl, hm, k⟩ := h
    have ew : (List.replicate (Int.toNat (32 * 64)) [V.int 0]).flatten = lW m0 := by rw [rep1, lW0]; rfl
    refine q_fldL (xs := (List.replicate (Int.toNat (32 * 64)) [V.int 0]).flatten) (el_rep (el_lst (vs := [.int 0]) (ea_cons ev_c ea_nil) (by decide)) (ev_op ev_c ev_c (rv_I (.inr ⟨by decide, by decide⟩))) (by decide) (by show 1 * 2048 ≤ 100000; decide)) (ev_var rfl) hm T.cl_Memory T.no_Memory_words (by decide) fun wl H2 hwH e2 h2 => ?_
    rw [ew] at h2
    have nw : wl ≠ m := fun z => by rw [z, hm] at hwH; cases hwH
    have f3 : FS [m] H (upd H2 m (.ins (CM K) dx (putF "_words" (.ref wl) []))) := (FS.of e2).trans (FS.put (by simp))
    have h3 : (upd H2 m (.ins (CM K) dx (putF "_words" (.ref wl) []))) m = some (.ins (CM K) dx (putF "_words" (.ref wl) [])) := upd_same
    have w3 : (upd H2 m (.ins (CM K) dx (putF "_words" (.ref wl) []))) wl = some (.lst (lW m0)) := by rw [upd_ne nw]; exact h2
    show sFld K (tVar 0) tDNewK "_disks" _ _ (upd H2 m (.ins (CM K) dx (putF "_words" (.ref wl) [])))
    generalize upd H2 m (.ins (CM K) dx (putF "_words" (.ref wl) [])) = H3 at f3 h3 w3 ⊢
    intro dd hdd
    have e4 : Ex H3 (upd H3 dd (.dK [])) := Ex.new hdd
    have h4 : (upd H3 dd (.dK [])) dd = some (.dK []) := upd_same
    generalize upd H3 dd (.dK []) = H4 at e4 h4 ⊢
    have ndm : dd ≠ m := fun z => by rw [z, h3] at hdd; cases hdd
    refine ⟨_, rfl, m, CM K, dx, _, rfl, e4 _ _ h3, T.cl_Memory, T.no_Memory_disks, by show 1 < 1000; decide, ?_⟩
    exact (k wl _ hwH ⟨⟨dx, dd, upd_same, by rw [upd_ne ndm]; exact h4⟩, by rw [upd_ne nw]; exact e4 _ _ w3⟩ ((f3.trans (FS.of e4)).trans (FS.put (by simp))))
/-! ### a capability put -/
def mputs (μ : Mem) (s : Int) (c : Nat → Int) : Nat → Mem
  | 0 => μ
  | k + 1 => mset (mputs μ s c k) (s * 8 + (k : Int)).toNat (c k)
def mcap (μ : Mem) (s : Int) (c : Nat → Int) (sz us : Int) : Mem := mset (mset (mset (mputs μ s c 4) (s * 8 + 4).toNat 0) (s * 8 + 5).toNat sz) (s * 8 + 6).toNat us
def capV (c : Nat → Int) : List V := [.int (c 0), .int (c 1), .int (c 2), .int (c 3)]
theorem capV_at {c : Nat → Int} {i : Nat} (h : i < 4) : atI (capV c) (0 + (i : Nat)) = some (.int (c i)) := by
  have : i = 0 ∨ i = 1 ∨ i = 2 ∨ i = 3 := by omega
  rcases this with e | e | e | e <;> subst e <;> rfl
def sp_put_cap (K : PySem.W.Frag) : Sp := fun vs H Q _ => ∃ (m wl pc : Addr) (μ : Mem) (s sz us : Int) (c : Nat → Int), vs = [.ref m, .int s, .ref pc, .non, .int sz, .int us] ∧ MemAt K H m wl μ ∧ 0 ≤ s ∧ s < 256 ∧ H pc = some (.tup (capV c)) ∧ ∀ H', MemAt K H' m wl (mcap μ s c sz us) → Fr wl H H' → Q .non H'
theorem ok_put_cap (T : Txt K mg) : FnOk P w K mg base CX0 3 (f_put_cap K) (fd_put_cap K) ["memory", "slot", "cap", "parent", "size", "used"] (sp_put_cap K) := by
  refine T.fn_put_cap.ok sc_put_cap (fun vs H Q E h => ?_) (fun cdv A outer s H vs Q E hr h => ⟨_, PSs.nox (pss_cons (ps_for PassesOwn.never rfl (pi_range1 (by rfl) T.free_range (pa_cons pe_int pa_nil)) (pg_name (i := 6) sc_put_cap.nd rfl (Or.inl rfl)) (pss_one (ps_expr (pe_call (ok_put_field T) (hr.mono (by decide)) (by rfl) (T.glo_put_field) (T.kp_put_field) (T.bd_put_field) .nil pass0 (pa_cons (pv 0) (pa_cons (pv 1) (pa_cons (pv 6) (pa_cons (pe_ix ix_tup (pv 2) (pv 6) (fun _ _ => rfl)) pa_nil)))))))) (pss_cons (ps_expr (pe_call (ok_put_field T) (hr.mono (by decide)) (by rfl) (T.glo_put_field) (T.kp_put_field) (T.bd_put_field) .nil pass0 (pa_cons (pv 0) (pa_cons (pv 1) (pa_cons pe_int (pa_cons (pe_ifExp (pt_cmpR op_isN (pv 3) pe_non (nomark _)) pe_int (pe_op op_add (pv 3) pe_int)) pa_nil)))))) (pss_cons (ps_expr (pe_call (ok_put_field T) (hr.mono (by decide)) (by rfl) (T.glo_put_field) (T.kp_put_field) (T.bd_put_field) .nil pass0 (pa_cons (pv 0) (pa_cons (pv 1) (pa_cons pe_int (pa_cons (pv 4) pa_nil)))))) (pss_one (ps_expr (pe_call (ok_put_field T) (hr.mono (by decide)) (by rfl) (T.glo_put_field) (T.kp_put_field) (T.bd_put_field) .nil pass0 (pa_cons (pv 0) (pa_cons (pv 1) (pa_cons pe_int (pa_cons (pv 5) pa_nil)))))))))), ?_⟩)
  · obtain ⟨_, _, _, _, _, _, _, _, rfl, _⟩ := h
    rfl
  · obtain ⟨m, wl, pc, μ, s0, sz, us, c, rfl, hM, s1, s2, hc, k⟩ := h
    refine q_forR1 (j := 4) (ea_cons ev_c ea_nil) (by decide) (fun i σ' H' => ∃ x6, σ' = [some (.ref m), some (.int s0), some (.ref pc), some .non, some (.int sz), some (.int us), x6] ∧ MemAt K H' m wl (mputs μ s0 c i) ∧ Fr wl H H') (fun H1 e1 => ⟨none, rfl, hM.keep e1, Fr.of e1⟩) ?_ ?_
    · rintro i σ' H' hi ⟨x6, rfl, hM', f'⟩
      have hi4 : i < 4 := hi
      have hpc : H' pc = some (.tup (capV c)) := f' _ _ hc (ne_of hc hM.ws (by intro z; cases z))
      refine s_putf hM' (ev_var rfl) (ev_var rfl) (ev_var rfl) (ev_op (ev_var rfl) (ev_var rfl) (rv_ixT hpc (capV_at hi4))) ⟨s1, s2, by omega, by omega⟩ fun H2 h2 f2 => ⟨_, rfl, ?_, f'.trans f2⟩
      have e0 : s0 * 8 + (0 + (i : Int)) = s0 * 8 + (i : Int) := by omega
      rw [e0] at h2
      exact h2
    · rintro σ' H1 ⟨x6, rfl, hM1, f1⟩
      refine q_putf hM1 (ev_var rfl) (ev_var rfl) ev_c (ev_if (b := true) (et_is (et_test (ev_op (ev_var rfl) ev_c rv_isN)) rfl) (fun _ => ev_c) (fun h => by cases h)) ⟨s1, s2, by decide, by decide⟩ fun H2 h2 f2 => ?_
      refine q_putf h2 (ev_var rfl) (ev_var rfl) ev_c (ev_var rfl) ⟨s1, s2, by decide, by decide⟩ fun H3 h3 f3 => ?_
      refine s_putf h3 (ev_var rfl) (ev_var rfl) ev_c (ev_var rfl) ⟨s1, s2, by decide, by decide⟩ fun H4 h4 f4 => ?_
      exact k H4 h4 (((f1.trans f2).trans f3).trans f4)
/-! ### an entry put -/
def ment (μ : Mem) (t pg : Int) (c : Nat → Int) : Nat → Mem
  | 0 => μ
  | k + 1 => mset (ment μ t pg c k) (ix t (pg * 4 + (k : Int))) (c k)
def ent3 (c : Nat → Int) : List V := [.int (c 0), .int (c 1), .int (c 2)]
theorem ent3_at {c : Nat → Int} {i : Nat} (h : i < 3) : atI (ent3 c) (0 + (i : Nat)) = some (.int (c i)) := by
  have : i = 0 ∨ i = 1 ∨ i = 2 := by omega
  rcases this with e | e | e <;> subst e <;> rfl
def sp_put_entry (K : PySem.W.Frag) : Sp := fun vs H Q _ => ∃ (m wl pc : Addr) (μ : Mem) (t pg : Int) (c : Nat → Int), vs = [.ref m, .int t, .int pg, .ref pc] ∧ MemAt K H m wl μ ∧ InF t ∧ 2 ≤ t ∧ 0 ≤ pg ∧ pg < 8 ∧ μ (ix 1 t) ≠ 8 ∧ H pc = some (.tup (ent3 c)) ∧ ∀ H', MemAt K H' m wl (ment μ t pg c 3) → Fr wl H H' → Q .non H'
theorem ix_ne {f p f' p' : Int} (h : 0 ≤ f * 64 + p) (h' : 0 ≤ f' * 64 + p') (n : f * 64 + p ≠ f' * 64 + p') : ix f p ≠ ix f' p' := by unfold ix; omega
theorem ment_other {μ : Mem} {t pg : Int} {c : Nat → Int} {j : Nat} : ∀ (i : Nat), (∀ k : Nat, k < i → j ≠ ix t (pg * 4 + (k : Int))) → ment μ t pg c i j = μ j
  | 0, _ => rfl
  | i + 1, h => by
    show mset (ment μ t pg c i) (ix t (pg * 4 + (i : Int))) (c i) j = μ j
    unfold mset
    rw [if_neg (h i (Nat.lt_succ_self i))]
    exact ment_other i fun k hk => h k (Nat.lt_succ_of_lt hk)
theorem ok_put_entry (T : Txt K mg) : FnOk P w K mg base CX0 4 (f_put_entry K) (fd_put_entry K) ["memory", "table", "page", "told"] (sp_put_entry K) := by
  refine T.fn_put_entry.ok sc_put_entry (fun vs H Q E h => ?_) (fun cdv A outer s H vs Q E hr h => ⟨_, PSs.nox (pss_one (ps_for PassesOwn.never rfl (pi_range1 (by rfl) T.free_range (pa_cons pe_int pa_nil)) (pg_name (i := 4) sc_put_entry.nd rfl (Or.inl rfl)) (pss_one (ps_expr (pe_meth (pv 0) (T.cl_Memory) (T.mt_Memory_put) (ok_Memory_put T) (hr.mono (by decide)) (T.bd_Memory_put) .nil pass0 (pa_cons (pv 1) (pa_cons (pe_op op_add (pe_call (ok_entry_at T) (hr.mono (by decide)) (by rfl) (T.glo_entry_at) (T.kp_entry_at) (T.bd_entry_at) .nil pass0 (pa_cons (pv 0) (pa_cons (pv 1) (pa_cons (pv 2) pa_nil)))) (pv 4)) (pa_cons (pe_ix ix_tup (pv 3) (pv 4) (fun _ _ => rfl)) pa_nil)))))))), ?_⟩)
  · obtain ⟨_, _, _, _, _, _, _, rfl, _⟩ := h
    rfl
  · obtain ⟨m, wl, pc, μ, t, pg, c, rfl, hM, hI, t2, p1, p2, h8, hc, k⟩ := h
    refine s_forR1 (j := 3) (ea_cons ev_c ea_nil) (by decide) (fun i σ' H' => ∃ x4, σ' = [some (.ref m), some (.int t), some (.int pg), some (.ref pc), x4] ∧ MemAt K H' m wl (ment μ t pg c i) ∧ Fr wl H H') (fun H1 e1 => ⟨none, rfl, hM.keep e1, Fr.of e1⟩) ?_ ?_
    · rintro i σ' H' hi ⟨x4, rfl, hM', f'⟩
      have hi3 : i < 3 := hi
      have hpc : H' pc = some (.tup (ent3 c)) := f' _ _ hc (ne_of hc hM.ws (by intro z; cases z))
      have h8' : ment μ t pg c i (ix 1 t) ≠ 8 := by
        rw [ment_other i fun k hk => ix_ne (by omega) (by omega) (by omega)]
        exact h8
      refine s_put hM' (ev_var rfl) (ev_var rfl) (ev_op (ev_pure (z := .int (pg * 4)) (ea_cons (ev_var rfl) (ea_cons (ev_var rfl) (ea_cons (ev_var rfl) ea_nil))) fun H1 e Q q => ⟨m, wl, _, t, pg, rfl, hM'.keep e, hI, h8', q⟩) (ev_var rfl) rv_I0) (ev_op (ev_var rfl) (ev_var rfl) (rv_ixT hpc (ent3_at hi3))) (by omega) fun H2 h2 f2 => ⟨_, rfl, ?_, f'.trans f2⟩
      have e0 : pg * 4 + (0 + (i : Int)) = pg * 4 + (i : Int) := by omega
      rw [e0] at h2
      exact h2
    · rintro σ' H1 ⟨x4, rfl, hM1, f1⟩
      exact k H1 hM1 f1
end
end KA

namespace KA
open PySem PySem.Spec PyProof.Rows L2 Evl TL
/-! ### rules -/
section
variable {σ : L2.St} {H H' : Hp} {K : PySem.W.Frag} {D : Ends}
theorem ev_lenT {p : Addr} {xs : List V} {ta : TE} (ha : Ev ta σ H (.ref p)) (h : SqT K H p xs) : Ev (tCB (fun xs H Q => ∃ x n, xs = [x] ∧ LenV K x H n ∧ Q (.int n) H) (tCons ta tNil)) σ H (.int (xs.length : Int)) := fun H1 e Q q =>
  ha H1 e _ fun H2 e2 => ⟨_, xs.length, rfl, .inr ⟨_, ex_t (e.trans e2) h, rfl⟩, q H2 e2⟩
theorem ev_chV {r r' : R2} {ta tb tc : TE} {x y z : V} {k k' : Bool} (ha : Ev ta σ H x) (hb : Ev tb σ H y) (hr : RV r x y H (.bl k)) (hc : Ev tc σ H z) (hr' : RV r' y z H (.bl k')) : Ev (tChain r r' ta tb tc) σ H (.bl (k && k')) := fun H1 e Q q =>
  ha H1 e _ fun H2 e2 => hb H2 (e.trans e2) _ fun H3 e3 => hr H3 ((e.trans e2).trans e3) _ fun H4 e4 => ⟨k, rfl, by
    cases k with
    | true =>
      refine iteT (hc H4 (((e.trans e2).trans e3).trans e4) _ fun H5 e5 => hr' H5 ((((e.trans e2).trans e3).trans e4).trans e5) _ fun H6 e6 => q H6 ?_)
      exact ((((e2.trans e3).trans e4).trans e5).trans e6)
    | false => exact iteF (q H4 ((e2.trans e3).trans e4))⟩
/-- the tuples stand -/
def TK (H H' : Hp) : Prop := ∀ b xs, H b = some (.tup xs) → H' b = some (.tup xs)
theorem TK.ex (e : Ex H H') : TK H H' := fun b xs h => e b _ h
theorem TK.fr {wl : Addr} {ws : List V} (f : Fr wl H H') (h : H wl = some (.lst ws)) : TK H H' := fun b xs q => f b _ q (ne_of q h (by intro z; cases z))
theorem TK.trans {H1 H2 H3 : Hp} (a : TK H1 H2) (b : TK H2 H3) : TK H1 H3 := fun c xs h => b c xs (a c xs h)
abbrev Pr : Type := V → Hp → Prop
def Mo (P : Pr) : Prop := ∀ v H H', TK H H' → P v H → P v H'
def EvP (te : TE) (σ : L2.St) (H : Hp) (P : Pr) : Prop := ∀ H1, Ex H H1 → ∀ Q : VK, (∀ v H2, Ex H1 H2 → P v H2 → Q v H2) → te σ H1 Q
inductive Al : List Pr → List V → Hp → Prop
  | nil {H : Hp} : Al [] [] H
  | cons {H : Hp} {P : Pr} {Ps : List Pr} {v : V} {vs : List V} (h : P v H) (r : Al Ps vs H) : Al (P :: Ps) (v :: vs) H
theorem Al.mono {Ps : List Pr} {vs : List V} (m : ∀ P ∈ Ps, Mo P) (k : TK H H') (a : Al Ps vs H) : Al Ps vs H' := by
  induction a with
  | nil => exact .nil
  | cons h r ih => exact .cons (m _ (List.mem_cons_self ..) _ _ _ k h) (ih (fun P hP => m P (List.mem_cons_of_mem _ hP)) k)
theorem Al.at {Ps : List Pr} {vs : List V} (a : Al Ps vs H) {i : Nat} {v : V} (h : vs[i]? = some v) : ∃ P, Ps[i]? = some P ∧ P v H := by
  induction a generalizing i with
  | nil => cases h
  | cons g r ih =>
    cases i with
    | zero => cases h; exact ⟨_, rfl, g⟩
    | succ i => exact ih h
theorem Al.len {Ps : List Pr} {vs : List V} (a : Al Ps vs H) : vs.length = Ps.length := by
  induction a with
  | nil => rfl
  | cons g r ih => rw [List.length_cons, List.length_cons, ih] <;> rfl
def EvPs (ta : TA) (σ : L2.St) (H : Hp) (Ps : List Pr) : Prop := ∀ H1, Ex H H1 → ∀ Q : List V → Hp → Prop, (∀ vs H2, Ex H1 H2 → Al Ps vs H2 → Q vs H2) → ta σ H1 Q
theorem eps_nil : EvPs tNil σ H [] := fun H1 e Q q => q [] H1 (Ex.refl H1) .nil
theorem eps_cons {te : TE} {ta : TA} {P : Pr} {Ps : List Pr} (m : Mo P) (h : EvP te σ H P) (hr : EvPs ta σ H Ps) : EvPs (tCons te ta) σ H (P :: Ps) := fun H1 e Q q =>
  h H1 e _ fun v H2 e2 p => hr H2 (e.trans e2) _ fun vs H3 e3 a => q _ H3 (e2.trans e3) (.cons (m _ _ _ (TK.ex e3) p) a)
theorem q_forPU {ta : TA} {Ps : List Pr} {g : TG} {tu tz : TS} (hm : ∀ P ∈ Ps, Mo P) (hl : Ps.length ≤ 100000) (h : EvPs ta σ H Ps)
    (k : ∀ p vs H1, Ex H H1 → H1 p = some (.tup vs) → Al Ps vs H1 → ∃ Pv : Nat → L2.St → Hp → Prop, Pv 0 σ H1 ∧ (∀ i σ' H', i ≤ vs.length → Pv i σ' H' → H' p = some (.tup vs)) ∧
      (∀ i x σ' H', vs[i]? = some x → Pv i σ' H' → g x σ' H' fun σ2 H2 => tu { D with nx := Pv (i + 1), ct := Pv (i + 1), bk := tz D } σ2 H2) ∧ ∀ σ' H', Pv vs.length σ' H' → tz D σ' H') : tSeq (tFor (iTup K (tTup ta)) g tu) tz D σ H :=
  h H (Ex.refl H) _ fun vs H1 e1 a => ⟨sz_of (by rw [a.len]; exact hl), fun p hp => by
    have e2 : Ex H1 (L2.upd H1 p (.tup vs)) := Ex.new hp
    obtain ⟨Pv, h0, h1, h2, h3⟩ := k p vs _ (e1.trans e2) upd_same (a.mono hm (TK.ex e2))
    exact ⟨p, rfl, ⟨vs, st_of upd_same⟩, for_tup (D := { D with nx := tz D }) Pv h0 (fun i σ' H' hi hp => st_of (h1 i σ' H' hi hp)) h2 h3⟩⟩
theorem q_forZR {ta tb : TE} {ty : TA} {g : TG} {tu tz : TS} {lo hi : Int} {ys : List V} (ha : Ev ta σ H (.int lo)) (hb : Ev tb σ H (.int hi)) (hy : EvA ty σ H ys) (hz : ys.length ≤ 100000) (hl : 0 ≤ lo ∧ hi = lo + (ys.length : Int) ∧ lo < 1000000) (Pv : Addr → Nat → L2.St → Hp → Prop)
    (h0 : ∀ p H1, Ex H H1 → H1 p = some (.tup ys) → Pv p 0 σ H1) (h1 : ∀ p i σ' H', Pv p i σ' H' → H' p = some (.tup ys))
    (hs : ∀ p i y σ' H' T, ys[i]? = some y → Pv p i σ' H' → H' T = none → g (.ref T) σ' (L2.upd H' T (.tup [.int (lo + (i : Nat)), y])) fun σ2 H2 => tu { D with nx := Pv p (i + 1), ct := Pv p (i + 1), bk := tz D } σ2 H2) (hd : ∀ p σ' H', Pv p ys.length σ' H' → tz D σ' H') :
    tSeq (tFor (iZipR K (tCons (tCB (fun vs H Q => ∃ i j, vs = [V.int i, V.int j] ∧ ∀ p, H p = none → Q (.ref p) (L2.upd H p (.rng i j))) (tCons ta (tCons tb tNil))) (tCons (tTup ty) tNil))) g tu) tz D σ H :=
  ha H (Ex.refl H) _ fun H1 e1 => hb H1 e1 _ fun H2 e2 => ⟨lo, hi, rfl, fun r hr =>
    have e3 : Ex H2 (L2.upd H2 r (.rng lo hi)) := Ex.new hr
    have eh : (hi - lo).toNat = ys.length := by omega
    hy _ ((e1.trans e2).trans e3) _ fun H4 e4 => ⟨sz_of hz, fun p hp =>
      have e5 : Ex H4 (L2.upd H4 p (.tup ys)) := Ex.new hp
      ⟨r, p, ys, lo, hi, rfl, e5 _ _ (e4 _ _ upd_same), by omega, by omega, by omega, by omega, st_of upd_same, by
        rw [eh]
        exact for_zipR (D := { D with nx := tz D }) rfl (Pv p) (h0 p _ ((((e1.trans e2).trans e3).trans e4).trans e5) upd_same) (fun i σ' H' hi' hp' => st_of (h1 p i σ' H' hp')) (fun i y σ' H' T hy' hp' hT => hs p i y σ' H' T hy' hp' hT) (hd p)⟩⟩⟩
theorem q_forET {te : TE} {g : TG} {tu tz : TS} {a : Addr} {xs : List V} (h : Ev te σ H (.ref a)) (hx : SqT K H a xs) (Pv : Nat → L2.St → Hp → Prop) (h0 : ∀ H1, Ex H H1 → Pv 0 σ H1) (h1 : ∀ i σ' H', Pv i σ' H' → SqT K H' a xs)
    (hs : ∀ i y σ' H' T, xs[i]? = some y → Pv i σ' H' → H' T = none → g (.ref T) σ' (L2.upd H' T (.tup [.int (i : Nat), y])) fun σ2 H2 => tu { D with nx := Pv (i + 1), ct := Pv (i + 1), bk := tz D } σ2 H2) (hd : ∀ σ' H', Pv xs.length σ' H' → tz D σ' H') :
    tSeq (tFor (iEnumT K (tCons te tNil)) g tu) tz D σ H :=
  h H (Ex.refl H) _ fun H1 e1 => ⟨a, xs, rfl, ex_t e1 hx, for_enumT (D := { D with nx := tz D }) Pv (h0 H1 e1) (fun i σ' H' hi hp => h1 i σ' H' hp) hs hd⟩
theorem q_forZT {te : TE} {ty : TA} {g : TG} {tu tz : TS} {a : Addr} {xs ys : List V} (h : Ev te σ H (.ref a)) (hx : H a = some (.tup xs)) (hy : EvA ty σ H ys) (hz : ys.length ≤ 100000) (hl : xs.length = ys.length) (Pv : Addr → Nat → L2.St → Hp → Prop)
    (h0 : ∀ p H1, Ex H H1 → H1 p = some (.tup ys) → Pv p 0 σ H1) (h1 : ∀ p i σ' H', Pv p i σ' H' → H' p = some (.tup ys) ∧ H' a = some (.tup xs))
    (hs : ∀ p i x y σ' H' T, xs[i]? = some x → ys[i]? = some y → Pv p i σ' H' → H' T = none → g (.ref T) σ' (L2.upd H' T (.tup [x, y])) fun σ2 H2 => tu { D with nx := Pv p (i + 1), ct := Pv p (i + 1), bk := tz D } σ2 H2) (hd : ∀ p σ' H', Pv p xs.length σ' H' → tz D σ' H') :
    tSeq (tFor (RZ.iZipA K (tCons te (tCons (tTup ty) tNil))) g tu) tz D σ H :=
  h H (Ex.refl H) _ fun H1 e1 => hy H1 e1 _ fun H2 e2 => ⟨sz_of hz, fun p hp =>
    have e3 : Ex H2 (L2.upd H2 p (.tup ys)) := Ex.new hp
    ⟨a, p, xs, ys, rfl, .inr ⟨st_of (e3 _ _ (e2 _ _ (e1 _ _ hx))), st_of upd_same, RZ.for_zipT (D := { D with nx := tz D }) hl (Pv p) (h0 p _ ((e1.trans e2).trans e3) upd_same) (fun i σ' H' hp' => ⟨st_of (h1 p i σ' H' hp').2, st_of (h1 p i σ' H' hp').1⟩) (fun i x y T σ' H' hx' hy' hp' hT => hs p i x y σ' H' T hx' hy' hp' hT) (hd p)⟩⟩⟩
end
end KA

namespace KA
open PySem PySem.Spec PyProof.Rows L2 Evl TL
/-! ### what a part is -/
def mlay (μ : Mem) (f p : Int) (g : Nat → Int) : Nat → Mem
  | 0 => μ
  | k + 1 => mset (mlay μ f p g k) (ix f (p + (k : Int))) (g k)
def at0 (xs : List Int) (i : Nat) : Int := xs.getD i 0
def mkinds (μ : Mem) (F : Int) : Nat → Mem := mlay μ 1 F (at0 [4, 5, 3, 2, 2])
def mcode (μ : Mem) (F : Int) (ws : List Int) : Nat → Mem := mlay μ (F + 3) 0 (at0 ws)
def capN (F : Int) (k : Nat) : Nat → Int := at0 (match k with | 0 => [4, F, 7, 0] | 1 => [3, F + 2, 7, 0] | _ => [5, F + 1, 7, 0])
def mcaps (μ : Mem) (F : Int) : Nat → Mem
  | 0 => μ
  | k + 1 => mcap (mcaps μ F k) (F * 8 + ((k : Int) + 1)) (capN F k) 1 0
def mpgs (μ : Mem) (F : Int) : Nat → Mem
  | 0 => μ
  | k + 1 => ment (mcap (mpgs μ F k) (F * 8 + ((k : Int) + 6)) (at0 [2, F + ((k : Int) + 3), 7, 0]) 1 0) (F + 2) ((k : Int) + 3 - 3) (at0 [F + ((k : Int) + 3) + 1, 3, F * 8 + ((k : Int) + 6) + 1]) 3
def thP : List Int := [10, 11, 12, 13, 14, 22, 0]
def mth (μ : Mem) (t : Int) (ws : List Int) : Nat → Mem
  | 0 => μ
  | k + 1 => mset (mth μ t ws k) (ix t (at0 thP k)) (at0 ws k)
/-- ahead of the queue -/
def mbefore (μ : Mem) (F d pr bu : Int) (ws : List Int) : Mem := mth (mpgs (mcaps (mcode (mkinds μ F 5) F ws ws.length) F 3) F 2) (F + 1) [F + 1, F + 3, pr, bu, bu, d, 1] 7
def mjoin (μ : Mem) (t : Int) : Mem := mpush μ 0 (4 + mnum μ t) (12 + mnum μ t) t
def mbegin (μ : Mem) (F d pr bu : Int) (ws : List Int) : Mem := mjoin (mbefore μ F d pr bu ws) (F + 1)
theorem getI {ws : List Int} {i : Nat} {y : V} (h : (ws.map V.int)[i]? = some y) : y = .int (at0 ws i) ∧ i < ws.length := by
  rw [List.getElem?_map] at h
  cases e : ws[i]? with
  | none => rw [e] at h; cases h
  | some z =>
    rw [e] at h
    cases h
    refine ⟨?_, (List.getElem?_eq_some_iff.mp e).1⟩
    unfold at0
    rw [List.getD_eq_getElem?_getD, e]
    rfl
section
variable {P : Program} {w : World} {K : PySem.W.Frag} {mg : Str → Option Value} {base : Heap}
def PrCap (F : Int) (k : Nat) : Pr := fun v H => ∃ t c, v = .ref t ∧ H t = some (.tup [.int ((k : Int) + 1), .ref c]) ∧ H c = some (.tup (capV (capN F k)))
theorem PrCap.mo {F : Int} {k : Nat} : Mo (PrCap F k) := fun v H H' tk ⟨t, c, e, h1, h2⟩ => ⟨t, c, e, tk _ _ h1, tk _ _ h2⟩
def PrPg (k : Nat) : Pr := fun v H => ∃ t, v = .ref t ∧ H t = some (.tup [.int ((k : Int) + 6), .int ((k : Int) + 3)])
theorem PrPg.mo {k : Nat} : Mo (PrPg k) := fun v H H' tk ⟨t, e, h1⟩ => ⟨t, e, tk _ _ h1⟩
section
variable {σ : L2.St} {H : Hp} {ta tc : TE} {ts : TA}
theorem ep_cap {F : Int} {k : Nat} (h1 : Ev ta σ H (.int ((k : Int) + 1))) (h2 : EvA ts σ H (capV (capN F k))) : EvP (tTup (tCons ta (tCons (tTup ts) tNil))) σ H (PrCap F k) := fun H1 e Q q =>
  h1 H1 e _ fun H2 e2 => eu_tup h2 (by show 4 ≤ 100000; decide) H2 (e.trans e2) _ fun c H3 hc e3 h3 => ⟨by show 2 ≤ sizeLine; decide, fun p hp =>
    have e4 : Ex H3 (L2.upd H3 p (.tup [.int ((k : Int) + 1), .ref c])) := Ex.new hp
    q _ _ ((e2.trans e3).trans e4) ⟨p, c, rfl, upd_same, e4 _ _ h3⟩⟩
theorem ep_pg {k : Nat} (h1 : Ev ta σ H (.int ((k : Int) + 6))) (h2 : Ev tc σ H (.int ((k : Int) + 3))) : EvP (tTup (tCons ta (tCons tc tNil))) σ H (PrPg k) := fun H1 e Q q =>
  eu_tup (ea_cons h1 (ea_cons h2 ea_nil)) (by show 2 ≤ 100000; decide) H1 e _ fun p H2 hp e2 h3 => q _ _ e2 ⟨p, rfl, h3⟩
end
section
variable {σ : L2.St} {H : Hp} {D : Ends} {m wl : Addr} {μ : Mem} {tm tf tp tc tz tu : TE} {tq : TS} {s x y : Int} {c : Nat → Int}
theorem s_capV {pc : Addr} (hM : MemAt K H m wl μ) (hm : Ev tm σ H (.ref m)) (hf : Ev tf σ H (.int s)) (hc : Ev tc σ H (.ref pc)) (hpc : H pc = some (.tup (capV c))) (hz : Ev tz σ H (.int x)) (hu : Ev tu σ H (.int y)) (hI : 0 ≤ s ∧ s < 256)
    (k : ∀ H', MemAt K H' m wl (mcap μ s c x y) → Fr wl H H' → D.nx σ H') : tDrop (tCall (sp_put_cap K) [] E0 (tCons tm (tCons tf (tCons tc (tCons (tC .non) (tCons tz (tCons tu tNil))))))) D σ H :=
  hm H (Ex.refl H) _ fun H1 e1 => hf H1 e1 _ fun H2 e2 => hc H2 (e1.trans e2) _ fun H3 e3 => hz H3 ((e1.trans e2).trans e3) _ fun H4 e4 => hu H4 (((e1.trans e2).trans e3).trans e4) _ fun H5 e5 =>
    have e : Ex H H5 := (((e1.trans e2).trans e3).trans e4).trans e5
    ⟨m, wl, pc, μ, s, x, y, c, rfl, hM.keep e, hI.1, hI.2, e _ _ hpc, fun H' h' f' => k H' h' ((Fr.of e).trans f')⟩
theorem q_capU (hM : MemAt K H m wl μ) (hm : Ev tm σ H (.ref m)) (hf : Ev tf σ H (.int s)) (hc : EvU tc σ H (capV c)) (hz : Ev tz σ H (.int x)) (hu : Ev tu σ H (.int y)) (hI : 0 ≤ s ∧ s < 256)
    (k : ∀ H', MemAt K H' m wl (mcap μ s c x y) → Fr wl H H' → tq D σ H') : tSeq (tDrop (tCall (sp_put_cap K) [] E0 (tCons tm (tCons tf (tCons tc (tCons (tC .non) (tCons tz (tCons tu tNil)))))))) tq D σ H :=
  hm H (Ex.refl H) _ fun H1 e1 => hf H1 e1 _ fun H2 e2 => hc H2 (e1.trans e2) _ fun pc H3 hp e3 hpc => hz H3 ((e1.trans e2).trans e3) _ fun H4 e4 => hu H4 (((e1.trans e2).trans e3).trans e4) _ fun H5 e5 =>
    have e : Ex H H5 := (((e1.trans e2).trans e3).trans e4).trans e5
    ⟨m, wl, pc, μ, s, x, y, c, rfl, hM.keep e, hI.1, hI.2, e5 _ _ (e4 _ _ hpc), fun H' h' f' => k H' h' ((Fr.of e).trans f')⟩
theorem s_entU (hM : MemAt K H m wl μ) (hm : Ev tm σ H (.ref m)) (hf : Ev tf σ H (.int s)) (hp : Ev tp σ H (.int x)) (hc : EvU tc σ H (ent3 c)) (hI : InF s ∧ 2 ≤ s ∧ 0 ≤ x ∧ x < 8) (h8 : μ (ix 1 s) ≠ 8)
    (k : ∀ H', MemAt K H' m wl (ment μ s x c 3) → Fr wl H H' → D.nx σ H') : tDrop (tCall (sp_put_entry K) [] E0 (tCons tm (tCons tf (tCons tp (tCons tc tNil))))) D σ H :=
  hm H (Ex.refl H) _ fun H1 e1 => hf H1 e1 _ fun H2 e2 => hp H2 (e1.trans e2) _ fun H3 e3 => hc H3 ((e1.trans e2).trans e3) _ fun pc H4 hq e4 hpc =>
    have e : Ex H H4 := ((e1.trans e2).trans e3).trans e4
    ⟨m, wl, pc, μ, s, x, c, rfl, hM.keep e, hI.1, hI.2.1, hI.2.2.1, hI.2.2.2, h8, hpc, fun H' h' f' => k H' h' ((Fr.of e).trans f')⟩
end
theorem ev_good {σ : L2.St} {H : Hp} {ta tb tc : TE} {x y z : Int} (ha : Ev ta σ H (.int x)) (hb : Ev tb σ H (.int y)) (hc : Ev tc σ H (.int z)) (h1 : x ≤ y) (h2 : y < z) {r r' : R2} (hr : RV r (.int x) (.int y) H (.bl (decide (x ≤ y)))) (hr' : RV r' (.int y) (.int z) H (.bl (decide (y < z)))) : Ev (tChain r r' ta tb tc) σ H (.bl true) :=
  ev_is (ev_chV ha hb hr hc hr') (by simp [h1, h2])
theorem caps3 {F : Int} {P : Pr} (h : P ∈ [PrCap F 0, PrCap F 1, PrCap F 2]) : Mo P := by
  rcases List.mem_cons.mp h with rfl | h
  · exact PrCap.mo
  rcases List.mem_cons.mp h with rfl | h
  · exact PrCap.mo
  rcases List.mem_cons.mp h with rfl | h
  · exact PrCap.mo
  cases h
theorem pgs2 {P : Pr} (h : P ∈ [PrPg 0, PrPg 1]) : Mo P := by
  rcases List.mem_cons.mp h with rfl | h
  · exact PrPg.mo
  rcases List.mem_cons.mp h with rfl | h
  · exact PrPg.mo
  cases h
theorem caps3at {F : Int} {P : Pr} {i : Nat} (h : [PrCap F 0, PrCap F 1, PrCap F 2][i]? = some P) : i < 3 ∧ P = PrCap F i := by
  match i, h with
  | 0, h => cases h; exact ⟨by decide, rfl⟩
  | 1, h => cases h; exact ⟨by decide, rfl⟩
  | 2, h => cases h; exact ⟨by decide, rfl⟩
theorem pgs2at {P : Pr} {i : Nat} (h : [PrPg 0, PrPg 1][i]? = some P) : i < 2 ∧ P = PrPg i := by
  match i, h with
  | 0, h => cases h; exact ⟨by decide, rfl⟩
  | 1, h => cases h; exact ⟨by decide, rfl⟩
structure Room6 (μ : Mem) (F : Int) : Prop where
  f2 : 2 ≤ F
  f5 : F + 5 ≤ 32
  lent : μ (ix (F + 1) 24) = 0
  tail : ∀ n : Int, 0 ≤ n → n < 8 → μ (ix 0 (12 + n)) = 0 ∨ (2 ≤ μ (ix 0 (12 + n)) - 1 ∧ μ (ix 0 (12 + n)) - 1 < 32)
/-- what is read behind the puts -/
structure Read6 (μ : Mem) (F d pr bu : Int) (ws : List Int) : Prop where
  tab : ∀ k : Nat, k < 2 → (mcap (mpgs (mcaps (mcode (mkinds μ F 5) F ws ws.length) F 3) F k) (F * 8 + ((k : Int) + 6)) (at0 [2, F + ((k : Int) + 3), 7, 0]) 1 0) (ix 1 (F + 2)) ≠ 8
  num : 0 ≤ mnum (mbefore μ F d pr bu ws) (F + 1) ∧ mnum (mbefore μ F d pr bu ws) (F + 1) < 8
  tl : (mbefore μ F d pr bu ws) (ix 0 (12 + mnum (mbefore μ F d pr bu ws) (F + 1))) ≠ 0 → InF ((mbefore μ F d pr bu ws) (ix 0 (12 + mnum (mbefore μ F d pr bu ws) (F + 1))) - 1)
def sp_begin_part (K : PySem.W.Frag) : Sp := fun vs H Q _ => ∃ (m wl pp cp : Addr) (μ : Mem) (F d pr bu : Int) (ws : List Int), vs = [.ref m, .int F, .ref pp] ∧ MemAt K H m wl μ ∧ H pp = some (.tup [.int d, .int pr, .int bu, .ref cp, .int 0]) ∧ H cp = some (.tup (ws.map V.int)) ∧ 2 ≤ F ∧ F + 5 ≤ 32 ∧
  0 ≤ d ∧ d < 2 ∧ 0 ≤ pr ∧ pr < 4 ∧ 1 ≤ bu ∧ bu ≤ 63 ∧ ws.length ≤ 64 ∧ Read6 μ F d pr bu ws ∧ ∀ H', MemAt K H' m wl (mbegin μ F d pr bu ws) → Fr wl H H' → Q .non H'
theorem ok_begin_part (T : Txt K mg) : FnOk P w K mg base CX0 5 (f_begin_part K) (fd_begin_part K) ["memory", "frame", "part"] (sp_begin_part K) := by
  refine T.fn_begin_part.ok sc_begin_part (fun vs H Q E h => ?_) (fun cdv A outer s H vs Q E hr h => ⟨_, PSs.nox (pss_cons (ps_asg (pv 2) (pg_tup (by rfl) (pgs_cons (pg_name (i := 3) sc_begin_part.nd rfl (Or.inl rfl)) (pgs_cons (pg_name (i := 4) sc_begin_part.nd rfl (Or.inl rfl)) (pgs_cons (pg_name (i := 5) sc_begin_part.nd rfl (Or.inl rfl)) (pgs_cons (pg_name (i := 6) sc_begin_part.nd rfl (Or.inl rfl)) (pgs_cons (pg_name (i := 7) sc_begin_part.nd rfl (Or.inl rfl)) pgs_nil))))))) (pss_cons (ps_set (i := 8) sc_begin_part.nd rfl (Or.inl rfl) (pe_and (pe_chain op_le op_lt pe_int (pv 3) (T.pg_DOMAINS)) (pe_and (pe_chain op_le op_lt pe_int (pv 4) (T.pg_PRIORITIES)) (pe_one (pe_chain op_le op_le pe_int (pv 5) pe_int))))) (pss_cons (ps_if (PW.pt (pw_or (pt_not (pt_val (pv 8))) (pw_or (pt_cmpR op_gt (pe_callB call_len (by rfl) T.free_len PySem.boot_len (pa_cons (pv 6) pa_nil)) (T.pg_FRAME) (nomark _)) (pw_or1 (pt_cmpR op_lt (pv 7) pe_int (nomark _)))))) (pss_one ps_never) pss_nil) (pss_cons (ps_for PassesOwn.never rfl (pi_zipR (by rfl) T.free_zip (pa_cons (pe_callTy cr_range2 (by rfl) T.free_range (by decide +kernel) (pa_cons (pv 1) (pa_cons (pe_op op_add (pv 1) (T.pg_EACH)) pa_nil))) (pa_cons (pe_tup (pa_cons (T.pg_CAPS) (pa_cons (T.pg_THREAD) (pa_cons (T.pg_TABLE) (pa_cons (T.pg_PAGE) (pa_cons (T.pg_PAGE) pa_nil)))))) pa_nil))) (pg_tup (by rfl) (pgs_cons (pg_name (i := 9) sc_begin_part.nd rfl (Or.inl rfl)) (pgs_cons (pg_name (i := 10) sc_begin_part.nd rfl (Or.inl rfl)) pgs_nil))) (pss_one (ps_expr (pe_meth (pv 0) (T.cl_Memory) (T.mt_Memory_put) (ok_Memory_put T) (hr.mono (by decide)) (T.bd_Memory_put) .nil pass0 (pa_cons (T.pg_KIND_FRAME) (pa_cons (pv 9) (pa_cons (pv 10) pa_nil))))))) (pss_cons (ps_for PassesOwn.never rfl (pi_enumT (by rfl) T.free_enumerate (pa_cons (pv 6) pa_nil)) (pg_tup (by rfl) (pgs_cons (pg_name (i := 11) sc_begin_part.nd rfl (Or.inl rfl)) (pgs_cons (pg_name (i := 12) sc_begin_part.nd rfl (Or.inl rfl)) pgs_nil))) (pss_one (ps_expr (pe_meth (pv 0) (T.cl_Memory) (T.mt_Memory_put) (ok_Memory_put T) (hr.mono (by decide)) (T.bd_Memory_put) .nil pass0 (pa_cons (pe_op op_add (pv 1) pe_int) (pa_cons (pv 11) (pa_cons (pv 12) pa_nil))))))) (pss_cons (ps_for PassesOwn.never rfl (pi_tup (pe_tup (pa_cons (pe_tup (pa_cons pe_int (pa_cons (pe_tup (pa_cons (T.pg_CAPS) (pa_cons (pv 1) (pa_cons (T.pg_ALL) (pa_cons pe_int pa_nil))))) pa_nil))) (pa_cons (pe_tup (pa_cons pe_int (pa_cons (pe_tup (pa_cons (T.pg_TABLE) (pa_cons (pe_op op_add (pv 1) pe_int) (pa_cons (T.pg_ALL) (pa_cons pe_int pa_nil))))) pa_nil))) (pa_cons (pe_tup (pa_cons pe_int (pa_cons (pe_tup (pa_cons (T.pg_THREAD) (pa_cons (pe_op op_add (pv 1) pe_int) (pa_cons (T.pg_ALL) (pa_cons pe_int pa_nil))))) pa_nil))) pa_nil))))) (pg_tup (by rfl) (pgs_cons (pg_name (i := 11) sc_begin_part.nd rfl (Or.inl rfl)) (pgs_cons (pg_name (i := 13) sc_begin_part.nd rfl (Or.inl rfl)) pgs_nil))) (pss_one (ps_expr (pe_call (ok_put_cap T) (hr.mono (by decide)) (by rfl) (T.glo_put_cap) (T.kp_put_cap) (T.bd_put_cap) .nil pass0 (pa_cons (pv 0) (pa_cons (pe_op op_add (pe_op op_mul (pv 1) (T.pg_SLOTS)) (pv 11)) (pa_cons (pv 13) (pa_cons pe_non (pa_cons pe_int (pa_cons pe_int pa_nil)))))))))) (pss_cons (ps_for PassesOwn.never rfl (pi_tup (pe_tup (pa_cons (pe_tup (pa_cons pe_int (pa_cons pe_int pa_nil))) (pa_cons (pe_tup (pa_cons pe_int (pa_cons pe_int pa_nil))) pa_nil)))) (pg_tup (by rfl) (pgs_cons (pg_name (i := 11) sc_begin_part.nd rfl (Or.inl rfl)) (pgs_cons (pg_name (i := 14) sc_begin_part.nd rfl (Or.inl rfl)) pgs_nil))) (pss_cons (ps_expr (pe_call (ok_put_cap T) (hr.mono (by decide)) (by rfl) (T.glo_put_cap) (T.kp_put_cap) (T.bd_put_cap) .nil pass0 (pa_cons (pv 0) (pa_cons (pe_op op_add (pe_op op_mul (pv 1) (T.pg_SLOTS)) (pv 11)) (pa_cons (pe_tup (pa_cons (T.pg_PAGE) (pa_cons (pe_op op_add (pv 1) (pv 14)) (pa_cons (T.pg_ALL) (pa_cons pe_int pa_nil))))) (pa_cons pe_non (pa_cons pe_int (pa_cons pe_int pa_nil)))))))) (pss_one (ps_expr (pe_call (ok_put_entry T) (hr.mono (by decide)) (by rfl) (T.glo_put_entry) (T.kp_put_entry) (T.bd_put_entry) .nil pass0 (pa_cons (pv 0) (pa_cons (pe_op op_add (pv 1) pe_int) (pa_cons (pe_op op_sub (pv 14) pe_int) (pa_cons (pe_tup (pa_cons (pe_op op_add (pe_op op_add (pv 1) (pv 14)) pe_int) (pa_cons pe_int (pa_cons (pe_op op_add (pe_op op_add (pe_op op_mul (pv 1) (T.pg_SLOTS)) (pv 11)) pe_int) pa_nil)))) pa_nil))))))))) (pss_cons (ps_set (i := 15) sc_begin_part.nd rfl (Or.inl rfl) (pe_op op_add (pv 1) pe_int)) (pss_cons (ps_set (i := 16) sc_begin_part.nd rfl (Or.inl rfl) (pe_tup (pa_cons (T.pg_T_CAPS) (pa_cons (T.pg_T_TABLE) (pa_cons (T.pg_T_PRIORITY) (pa_cons (T.pg_T_BUDGET) (pa_cons (T.pg_T_LEFT) (pa_cons (T.pg_T_DOMAIN) (pa_cons (T.pg_T_STATE) pa_nil))))))))) (pss_cons (ps_for PassesOwn.never rfl (RZ.pi_zipA (by rfl) T.free_zip (pa_cons (pv 16) (pa_cons (pe_tup (pa_cons (pe_op op_add (pv 1) pe_int) (pa_cons (pe_op op_add (pv 1) pe_int) (pa_cons (pv 4) (pa_cons (pv 5) (pa_cons (pv 5) (pa_cons (pv 3) (pa_cons (T.pg_READY) pa_nil)))))))) pa_nil))) (pg_tup (by rfl) (pgs_cons (pg_name (i := 11) sc_begin_part.nd rfl (Or.inl rfl)) (pgs_cons (pg_name (i := 12) sc_begin_part.nd rfl (Or.inl rfl)) pgs_nil))) (pss_one (ps_expr (pe_meth (pv 0) (T.cl_Memory) (T.mt_Memory_put) (ok_Memory_put T) (hr.mono (by decide)) (T.bd_Memory_put) .nil pass0 (pa_cons (pv 15) (pa_cons (pv 11) (pa_cons (pv 12) pa_nil))))))) (pss_one (ps_expr (pe_call (ok_push T) (hr.mono (by decide)) (by rfl) (T.glo_push) (T.kp_push) (T.bd_push) .nil pass0 (pa_cons (pv 0) (pa_cons (pe_call (ok_ready_place T) (hr.mono (by decide)) (by rfl) (T.glo_ready_place) (T.kp_ready_place) (T.bd_ready_place) .nil pass0 (pa_cons (pv 0) (pa_cons (pv 15) pa_nil))) (pa_cons (pv 15) pa_nil)))))))))))))))), ?_⟩)
  · obtain ⟨_, _, _, _, _, _, _, _, _, _, rfl, _⟩ := h
    rfl
  · obtain ⟨m, wl, pp, cp, μ, F, d, pr, bu, ws, rfl, hM, hpp, hcp, F2, F5, d0, d1, p0, p1, b0, b1, hw, hR, k⟩ := h
    refine ⟨_, rfl, pp, _, rfl, st_of hpp, rfl, _, _, rfl, _, _, rfl, _, _, rfl, _, _, rfl, _, _, rfl, rfl, ?_⟩
    refine q_asg (v := .bl true) (ev_is (ev_andV (a := true) (ev_good ev_c (ev_var rfl) ev_c d0 d1 rv_I0 rv_I0) fun _ => ev_andV (a := true) (ev_good ev_c (ev_var rfl) ev_c p0 p1 rv_I0 rv_I0) fun _ => ev_chV (k := decide ((1 : Int) ≤ bu)) (k' := decide (bu ≤ (63 : Int))) ev_c (ev_var rfl) rv_I0 ev_c rv_I0) (by simp [b0, b1])) fun H1 e1 => ?_
    refine q_when (b := false) (et_is (et_or (a := false) (et_is (et_not (et_B (ev_var rfl))) rfl) fun _ => et_or (a := false) (et_is (et_test (ev_op (ev_lenT (ev_var rfl) (st_of (e1 _ _ hcp))) ev_c rv_I0)) (by rw [List.length_map]; exact decide_eq_false (by omega))) fun _ => et_test (ev_op (ev_var rfl) ev_c rv_I0)) rfl) (fun h => by cases h) fun _ H2 e2 => ?_
    have e12 := e1.trans e2
    have hM2 := hM.keep e12
    refine q_forZR (lo := F) (hi := F + 5) (ys := [.int 4, .int 5, .int 3, .int 2, .int 2]) (ev_var rfl) (ev_op (ev_var rfl) ev_c rv_I0) (ea_cons ev_c (ea_cons ev_c (ea_cons ev_c (ea_cons ev_c (ea_cons ev_c ea_nil))))) (by decide) ⟨by omega, by simp, by omega⟩
      (fun p i σ' H' => ∃ x9 x10, σ' = [some (.ref m), some (.int F), some (.ref pp), some (.int d), some (.int pr), some (.int bu), some (.ref cp), some (.int 0), some (.bl true), x9, x10, none, none, none, none, none, none] ∧ H' p = some (.tup [.int 4, .int 5, .int 3, .int 2, .int 2]) ∧ MemAt K H' m wl (mkinds μ F i) ∧ Fr wl H H')
      (fun p H3 e3 hp => ⟨none, none, rfl, hp, hM2.keep e3, Fr.of (e12.trans e3)⟩) (fun p i σ' H' ⟨_, _, _, hp, _, _⟩ => hp) ?_ ?_
    · rintro p i y σ' H' t hy ⟨x9, x10, rfl, hp, hM', f'⟩ ht
      obtain ⟨rfl, hi⟩ := getI (ws := [4, 5, 3, 2, 2]) hy
      have hi5 : i < 5 := hi
      have e3 : Ex H' (L2.upd H' t (.tup [.int (F + (i : Nat)), .int (at0 [4, 5, 3, 2, 2] i)])) := Ex.new ht
      refine ⟨t, _, rfl, st_of upd_same, rfl, _, _, rfl, _, _, rfl, rfl, ?_⟩
      refine s_put (hM'.keep e3) (ev_var rfl) ev_c (ev_var rfl) (ev_var rfl) (by omega) fun H4 h4 f4 => ?_
      exact ⟨_, _, rfl, f4 _ _ (e3 _ _ hp) (ne_of hp hM'.ws (by intro z; cases z)), h4, (f'.trans (Fr.of e3)).trans f4⟩
    rintro p σ' H3 ⟨x9, x10, rfl, -, hM3, f3⟩
    have tk3 : TK H H3 := TK.fr f3 hM.ws
    refine q_forET (K := K) (a := cp) (xs := ws.map V.int) (ev_var rfl) (st_of (tk3 _ _ hcp))
      (fun i σ' H' => ∃ x11 x12, σ' = [some (.ref m), some (.int F), some (.ref pp), some (.int d), some (.int pr), some (.int bu), some (.ref cp), some (.int 0), some (.bl true), x9, x10, x11, x12, none, none, none, none] ∧ MemAt K H' m wl (mcode (mkinds μ F 5) F ws i) ∧ Fr wl H H')
      (fun H4 e4 => ⟨none, none, rfl, hM3.keep e4, f3.trans (Fr.of e4)⟩) (fun i σ' H' ⟨_, _, _, _, f'⟩ => st_of (TK.fr f' hM.ws _ _ hcp)) ?_ ?_
    · rintro i y σ' H' t hy ⟨x11, x12, rfl, hM', f'⟩ ht
      obtain ⟨rfl, hi⟩ := getI hy
      have e4 : Ex H' (L2.upd H' t (.tup [.int (i : Nat), .int (at0 ws i)])) := Ex.new ht
      refine ⟨t, _, rfl, st_of upd_same, rfl, _, _, rfl, _, _, rfl, rfl, ?_⟩
      refine s_put (hM'.keep e4) (ev_var rfl) (ev_op (ev_var rfl) ev_c rv_I0) (ev_var rfl) (ev_var rfl) (by omega) fun H5 h5 f5 => ?_
      have e0 : (0 : Int) + (i : Int) = (i : Int) := by omega
      refine ⟨_, _, rfl, ?_, (f'.trans (Fr.of e4)).trans f5⟩
      show MemAt K H5 m wl (mset (mcode (mkinds μ F 5) F ws i) (ix (F + 3) (0 + (i : Int))) (at0 ws i))
      rw [e0]
      exact h5
    rintro σ' H4 ⟨x11, x12, rfl, hM4, f4⟩
    rw [List.length_map] at hM4
    refine q_forPU (K := K) (Ps := [PrCap F 0, PrCap F 1, PrCap F 2]) (fun P hP => caps3 hP) (by show 3 ≤ 100000; decide)
      (eps_cons PrCap.mo (ep_cap (ev_is ev_c rfl) (show EvA _ _ _ [.int 4, .int F, .int 7, .int 0] from ea_cons ev_c (ea_cons (ev_var rfl) (ea_cons ev_c (ea_cons ev_c ea_nil))))) (eps_cons PrCap.mo (ep_cap (ev_is ev_c rfl) (show EvA _ _ _ [.int 3, .int (F + 2), .int 7, .int 0] from ea_cons ev_c (ea_cons (ev_op (ev_var rfl) ev_c rv_I0) (ea_cons ev_c (ea_cons ev_c ea_nil))))) (eps_cons PrCap.mo (ep_cap (ev_is ev_c rfl) (show EvA _ _ _ [.int 5, .int (F + 1), .int 7, .int 0] from ea_cons ev_c (ea_cons (ev_op (ev_var rfl) ev_c rv_I0) (ea_cons ev_c (ea_cons ev_c ea_nil))))) eps_nil)))
      fun p vs H5 e5 hp hal => ?_
    have hwl5 := (hM4.keep e5).ws
    refine ⟨fun i σ' H' => ∃ x11 x13, σ' = [some (.ref m), some (.int F), some (.ref pp), some (.int d), some (.int pr), some (.int bu), some (.ref cp), some (.int 0), some (.bl true), x9, x10, x11, x12, x13, none, none, none] ∧ MemAt K H' m wl (mcaps (mcode (mkinds μ F 5) F ws ws.length) F i) ∧ Fr wl H5 H',
      ⟨x11, none, rfl, hM4.keep e5, Fr.refl⟩, fun i σ' H' _ ⟨_, _, _, _, f'⟩ => TK.fr f' hwl5 _ _ hp, ?_, ?_⟩
    · rintro i x σ' H' hx ⟨y11, y13, rfl, hM', f'⟩
      obtain ⟨P', hP', hv⟩ := hal.at hx
      obtain ⟨hi, rfl⟩ := caps3at hP'
      obtain ⟨t, c, rfl, h1, h2⟩ := PrCap.mo _ _ _ (TK.fr f' hwl5) hv
      refine ⟨t, _, rfl, st_of h1, rfl, _, _, rfl, _, _, rfl, rfl, ?_⟩
      exact s_capV (s := F * 8 + ((i : Int) + 1)) hM' (ev_var rfl) (ev_op (ev_op (ev_var rfl) ev_c (rv_I (.inr ⟨by decide, by decide⟩))) (ev_var rfl) rv_I0) (ev_var rfl) h2 ev_c ev_c (by omega) fun H7 h7 f7 => ⟨_, _, rfl, h7, f'.trans f7⟩
    rintro σ' H6 ⟨y11, y13, rfl, hM6, f6⟩
    have hlen : vs.length = 3 := hal.len
    rw [hlen] at hM6
    have f06 : Fr wl H H6 := (f4.trans (Fr.of e5)).trans f6
    refine q_forPU (K := K) (Ps := [PrPg 0, PrPg 1]) (fun P hP => pgs2 hP) (by show 2 ≤ 100000; decide)
      (eps_cons PrPg.mo (ep_pg (ev_is ev_c rfl) (ev_is ev_c rfl)) (eps_cons PrPg.mo (ep_pg (ev_is ev_c rfl) (ev_is ev_c rfl)) eps_nil)) fun p' vs' H7 e7 hp' hal' => ?_
    have hwl7 := (hM6.keep e7).ws
    refine ⟨fun i σ' H' => ∃ x11 x14, σ' = [some (.ref m), some (.int F), some (.ref pp), some (.int d), some (.int pr), some (.int bu), some (.ref cp), some (.int 0), some (.bl true), x9, x10, x11, x12, y13, x14, none, none] ∧ MemAt K H' m wl (mpgs (mcaps (mcode (mkinds μ F 5) F ws ws.length) F 3) F i) ∧ Fr wl H7 H',
      ⟨y11, none, rfl, hM6.keep e7, Fr.refl⟩, fun i σ' H' _ ⟨_, _, _, _, f'⟩ => TK.fr f' hwl7 _ _ hp', ?_, ?_⟩
    · rintro i x σ' H' hx ⟨z11, z14, rfl, hM', f'⟩
      obtain ⟨P', hP', hv⟩ := hal'.at hx
      obtain ⟨hi, rfl⟩ := pgs2at hP'
      obtain ⟨t, rfl, h1⟩ := PrPg.mo _ _ _ (TK.fr f' hwl7) hv
      refine ⟨t, _, rfl, st_of h1, rfl, _, _, rfl, _, _, rfl, rfl, ?_⟩
      refine q_capU (s := F * 8 + ((i : Int) + 6)) (c := at0 [2, F + ((i : Int) + 3), 7, 0]) hM' (ev_var rfl) (ev_op (ev_op (ev_var rfl) ev_c (rv_I (.inr ⟨by decide, by decide⟩))) (ev_var rfl) rv_I0) (eu_tup (show EvA _ _ _ [.int 2, .int (F + ((i : Int) + 3)), .int 7, .int 0] from ea_cons ev_c (ea_cons (ev_op (ev_var rfl) (ev_var rfl) rv_I0) (ea_cons ev_c (ea_cons ev_c ea_nil)))) (by show 4 ≤ 100000; decide)) ev_c ev_c (by omega) fun H9 h9 f9 => ?_
      exact s_entU (s := F + 2) (x := (i : Int) + 3 - 3) (c := at0 [F + ((i : Int) + 3) + 1, 3, F * 8 + ((i : Int) + 6) + 1]) h9 (ev_var rfl) (ev_op (ev_var rfl) ev_c rv_I0) (ev_op (ev_var rfl) ev_c rv_I0) (eu_tup (show EvA _ _ _ [.int (F + ((i : Int) + 3) + 1), .int 3, .int (F * 8 + ((i : Int) + 6) + 1)] from ea_cons (ev_op (ev_op (ev_var rfl) (ev_var rfl) rv_I0) ev_c rv_I0) (ea_cons ev_c (ea_cons (ev_op (ev_op (ev_op (ev_var rfl) ev_c (rv_I (.inr ⟨by decide, by decide⟩))) (ev_var rfl) rv_I0) ev_c rv_I0) ea_nil))) (by show 3 ≤ 100000; decide)) (by omega) (hR.tab i hi) fun H10 h10 f10 => ⟨_, _, rfl, h10, (f'.trans f9).trans f10⟩
    rintro σ' H8 ⟨z11, z14, rfl, hM8, f8⟩
    have hlen' : vs'.length = 2 := hal'.len
    rw [hlen'] at hM8
    have f08 : Fr wl H H8 := (f06.trans (Fr.of e7)).trans f8
    refine q_asg (v := .int (F + 1)) (ev_op (ev_var rfl) ev_c rv_I0) fun H9 e9 => ?_
    refine q_asgU (xs := thP.map V.int) (eu_tup (show EvA _ _ _ [.int 10, .int 11, .int 12, .int 13, .int 14, .int 22, .int 0] from ea_cons ev_c (ea_cons ev_c (ea_cons ev_c (ea_cons ev_c (ea_cons ev_c (ea_cons ev_c (ea_cons ev_c ea_nil))))))) (by show 7 ≤ 100000; decide)) fun q H10 hq e10 hq10 => ?_
    have hM10 := hM8.keep (e9.trans e10)
    have f010 : Fr wl H H10 := f08.trans (Fr.of (e9.trans e10))
    refine q_forZT (K := K) (a := q) (xs := thP.map V.int) (ys := [F + 1, F + 3, pr, bu, bu, d, 1].map V.int) (ev_var rfl) hq10 (show EvA _ _ _ [.int (F + 1), .int (F + 3), .int pr, .int bu, .int bu, .int d, .int 1] from ea_cons (ev_op (ev_var rfl) ev_c rv_I0) (ea_cons (ev_op (ev_var rfl) ev_c rv_I0) (ea_cons (ev_var rfl) (ea_cons (ev_var rfl) (ea_cons (ev_var rfl) (ea_cons (ev_var rfl) (ea_cons ev_c ea_nil))))))) (by show 7 ≤ 100000; decide) rfl
      (fun p i σ' H' => ∃ x11 x12, σ' = [some (.ref m), some (.int F), some (.ref pp), some (.int d), some (.int pr), some (.int bu), some (.ref cp), some (.int 0), some (.bl true), x9, x10, x11, x12, y13, z14, some (.int (F + 1)), some (.ref q)] ∧ H' p = some (.tup ([F + 1, F + 3, pr, bu, bu, d, 1].map V.int)) ∧ H' q = some (.tup (thP.map V.int)) ∧ MemAt K H' m wl (mth (mpgs (mcaps (mcode (mkinds μ F 5) F ws ws.length) F 3) F 2) (F + 1) [F + 1, F + 3, pr, bu, bu, d, 1] i) ∧ Fr wl H H')
      (fun p H11 e11 hp11 => ⟨z11, x12, rfl, hp11, e11 _ _ hq10, hM10.keep e11, f010.trans (Fr.of e11)⟩) (fun p i σ' H' ⟨_, _, _, h1, h2, _⟩ => ⟨h1, h2⟩) ?_ ?_
    · rintro p2 i x y σ' H' t hx hy ⟨w11, w12, rfl, h1, h2, hM', f'⟩ ht
      obtain ⟨rfl, hi⟩ := getI (ws := thP) hx
      obtain ⟨rfl, _⟩ := getI (ws := [F + 1, F + 3, pr, bu, bu, d, 1]) hy
      have hi7 : i < 7 := hi
      have e4 : Ex H' (L2.upd H' t (.tup [.int (at0 thP i), .int (at0 [F + 1, F + 3, pr, bu, bu, d, 1] i)])) := Ex.new ht
      have hb : 0 ≤ at0 thP i ∧ at0 thP i < 64 := by
        have : i = 0 ∨ i = 1 ∨ i = 2 ∨ i = 3 ∨ i = 4 ∨ i = 5 ∨ i = 6 := by omega
        rcases this with e | e | e | e | e | e | e <;> subst e <;> decide
      refine ⟨t, _, rfl, st_of upd_same, rfl, _, _, rfl, _, _, rfl, rfl, ?_⟩
      refine s_put (hM'.keep e4) (ev_var rfl) (ev_var rfl) (ev_var rfl) (ev_var rfl) (by omega) fun H5 h5 f5 => ?_
      exact ⟨_, _, rfl, f5 _ _ (e4 _ _ h1) (ne_of h1 hM'.ws (by intro z; cases z)), f5 _ _ (e4 _ _ h2) (ne_of h2 hM'.ws (by intro z; cases z)), h5, (f'.trans (Fr.of e4)).trans f5⟩
    rintro p2 σ' H11 ⟨w11, w12, rfl, -, -, hM11, f11⟩
    have hM11 : MemAt K H11 m wl (mbefore μ F d pr bu ws) := hM11
    refine ⟨_, rfl, _, rfl, _, rfl, m, wl, _, F + 1, rfl, hM11, by omega, fun pl H12 hpl e12' hpl12 => ?_⟩
    refine ⟨_, rfl, m, wl, pl, _, 0, 4 + mnum (mbefore μ F d pr bu ws) (F + 1), 12 + mnum (mbefore μ F d pr bu ws) (F + 1), F + 1, rfl, hM11.keep e12', hpl12, by omega, ?_, ?_, hR.tl, fun H13 h13 f13 => k H13 h13 ((f11.trans (Fr.of e12')).trans f13)⟩
    · have := hR.num
      omega
    · have := hR.num
      omega
end
end KA

namespace KA
open PySem PySem.Spec PyProof.Rows L2 Evl TL
section
variable {σ : L2.St} {H : Hp} {K : PySem.W.Frag} {D : Ends}
theorem pg_tupK {X : Cx} {K : PySem.W.Frag} {es : List Expr} {k n : Nat} {pos : Pos} {t : TGs} (hK : X.K = K) (hc : X.calm = true) (h : PGs X es t) (hn : (assignEach es X.env).length = n := by rfl) (hst : (assignEach es X.env).findIdx? (·.1) = none := by rfl) : PG X (.Tuple es k pos) (gTup K n t) := by
  subst hK
  exact pg_tup hc h hn hst
theorem given_const {n : Nat} {x : V} : given n (fun _ => true) (fun _ => x) = List.replicate n x := by
  unfold given
  rw [List.filter_eq_self.mpr (fun _ _ => rfl)]
  simp [List.map_const']
theorem all_rep : ∀ n : Nat, (List.replicate n true).all id = true
  | 0 => rfl
  | n + 1 => by rw [List.replicate_succ, List.all_cons, all_rep n] <;> rfl
theorem et_truT {te : TE} {p : Addr} {xs : List V} (h : Ev te σ H (.ref p)) (hx : SqT K H p xs) : EvT (tTru K te) σ H (!xs.isEmpty) := fun H1 e Q q => h H1 e _ fun H2 e2 => ⟨!xs.isEmpty, .inr (.inl ⟨xs, ex_t (e.trans e2) hx, rfl⟩), q H2 e2⟩
theorem ev_all {ta : TE} {bs : List Bool} (h : EvL ta σ H (bs.map V.bl)) : Ev (tCB (rAll K) (tCons ta tNil)) σ H (.bl (bs.all id)) := fun H1 e Q q =>
  h H1 e _ fun p H2 hp e2 h2 => ⟨p, bs, rfl, sq_of h2, q H2 e2⟩
theorem ev_sum {ta : TE} {ns : List Int} (h : EvL ta σ H (ns.map V.int)) : Ev (tCB (rSum K) (tCons ta tNil)) σ H (.int ns.sum) := fun H1 e Q q =>
  h H1 e _ fun p H2 hp e2 h2 => ⟨p, ns, rfl, sq_of h2, q H2 e2⟩
theorem el_lcT {a : Addr} {xs : List V} {tl te : TE} {g : TG} {vs : List Nat} (v : Nat → V) (h : Ev tl σ H (.ref a)) (hx : SqT K H a xs) (hz : xs.length ≤ 40000)
    (hg : ∀ (i : Nat) (x : V) H1, Ex H H1 → xs[i]? = some x → ∀ H2, Ex H1 H2 → ∀ R : L2.St → Hp → Prop, (∀ σ2, wipe σ2 vs = wipe σ vs → Ev te σ2 H1 (v i) → R σ2 H2) → g x (wipe σ vs) H2 R) :
    EvL (tLc (iTup K tl) g (fun _ H Q => Q true H) te vs) σ H (given xs.length (fun _ => true) v) := fun H0 e Q q => h H0 e _ fun H1 e1 => ⟨a, rfl, ⟨xs, ex_t (e.trans e1) hx⟩, fun Dl hD =>
  lc_tup (xs := xs) (Cw H1 (fun _ => true) v Dl) ⟨hD, Ex.new hD, upd_same⟩ (fun i H' _ p => ex_t ((e.trans e1).trans p.2.1) hx) (fun i x H' hi p => hg i x H1 (e.trans e1) hi H' p.2.1 _ fun σ2 hw he => ⟨hw, cw_turn p (by have := (List.getElem?_eq_some_iff.mp hi).1; omega) et_yes fun _ => he⟩)
    (fun H' p => q Dl H' (fresh_back e1 p.1) (e1.trans p.2.1) p.2.2)⟩
end
end KA
namespace KA
open PySem PySem.Spec PyProof.Rows L2 Evl TL
/-! ### the boot -/
structure Part6 where
  d : Int
  pr : Int
  bu : Int
  ws : List Int
def mplan (μ : Mem) (pl : List (Int × Int)) : Nat → Mem
  | 0 => μ
  | k + 1 => mset (mplan μ pl k) (ix 0 (24 + (k : Int))) ((pl.getD k (0, 0)).1 * 256 + (pl.getD k (0, 0)).2)
def mparts (μ : Mem) (ps : List Part6) : Nat → Mem
  | 0 => μ
  | k + 1 => let p := ps.getD k ⟨0, 0, 0, []⟩; mbegin (mparts μ ps k) (2 + 5 * (k : Int)) p.d p.pr p.bu p.ws
def mboot0 (pl : List (Int × Int)) : Mem := mset (mplan m0 pl pl.length) (ix 0 2) (pl.getD 0 (0, 0)).2
def mboot (pl : List (Int × Int)) (ps : List Part6) : Mem := mparts (mboot0 pl) ps ps.length
def PlanAt (H : Hp) (a : Addr) (pl : List (Int × Int)) : Prop := ∃ vs, H a = some (.tup vs) ∧ vs.length = pl.length ∧ ∀ i v, vs[i]? = some v → ∃ t, v = .ref t ∧ H t = some (.tup [.int (pl.getD i (0, 0)).1, .int (pl.getD i (0, 0)).2])
def PartsAt (H : Hp) (a : Addr) (ps : List Part6) : Prop := ∃ vs, H a = some (.tup vs) ∧ vs.length = ps.length ∧ ∀ i v, vs[i]? = some v → ∃ t c, v = .ref t ∧ H t = some (.tup [.int (ps.getD i ⟨0, 0, 0, []⟩).d, .int (ps.getD i ⟨0, 0, 0, []⟩).pr, .int (ps.getD i ⟨0, 0, 0, []⟩).bu, .ref c, .int 0]) ∧ H c = some (.tup ((ps.getD i ⟨0, 0, 0, []⟩).ws.map V.int))
theorem PlanAt.mono {H H' : Hp} {a : Addr} {pl : List (Int × Int)} (k : TK H H') (h : PlanAt H a pl) : PlanAt H' a pl := by
  obtain ⟨vs, h1, h2, h3⟩ := h
  exact ⟨vs, k _ _ h1, h2, fun i v hv => let ⟨t, e, q⟩ := h3 i v hv; ⟨t, e, k _ _ q⟩⟩
theorem PartsAt.mono {H H' : Hp} {a : Addr} {ps : List Part6} (k : TK H H') (h : PartsAt H a ps) : PartsAt H' a ps := by
  obtain ⟨vs, h1, h2, h3⟩ := h
  exact ⟨vs, k _ _ h1, h2, fun i v hv => let ⟨t, c, e, q, r⟩ := h3 i v hv; ⟨t, c, e, k _ _ q, k _ _ r⟩⟩
structure GoodPlan (pl : List (Int × Int)) : Prop where
  len : 1 ≤ pl.length ∧ pl.length ≤ 4
  each : ∀ i : Nat, i < pl.length → 0 ≤ (pl.getD i (0, 0)).1 ∧ (pl.getD i (0, 0)).1 < 2 ∧ 1 ≤ (pl.getD i (0, 0)).2 ∧ (pl.getD i (0, 0)).2 ≤ 255
structure GoodPart (p : Part6) : Prop where
  d0 : 0 ≤ p.d
  d1 : p.d < 2
  p0 : 0 ≤ p.pr
  p1 : p.pr < 4
  b0 : 1 ≤ p.bu
  b1 : p.bu ≤ 63
  wl : p.ws.length ≤ 64
section
variable {P : Program} {w : World} {K : PySem.W.Frag} {mg : Str → Option Value} {base : Heap}
theorem s_begin {σ : L2.St} {H : Hp} {D : Ends} {m wl pp cp : Addr} {μ : Mem} {F : Int} {p : Part6} {tm tf tp : TE} (hM : MemAt K H m wl μ) (hm : Ev tm σ H (.ref m)) (hf : Ev tf σ H (.int F)) (hp : Ev tp σ H (.ref pp)) (h1 : H pp = some (.tup [.int p.d, .int p.pr, .int p.bu, .ref cp, .int 0])) (h2 : H cp = some (.tup (p.ws.map V.int))) (F2 : 2 ≤ F) (F5 : F + 5 ≤ 32) (g : GoodPart p) (r : Read6 μ F p.d p.pr p.bu p.ws)
    (k : ∀ H', MemAt K H' m wl (mbegin μ F p.d p.pr p.bu p.ws) → Fr wl H H' → D.nx σ H') : tDrop (tCall (sp_begin_part K) [] E0 (tCons tm (tCons tf (tCons tp tNil)))) D σ H :=
  hm H (Ex.refl H) _ fun H1 e1 => hf H1 e1 _ fun H2 e2 => hp H2 (e1.trans e2) _ fun H3 e3 =>
    have e : Ex H H3 := (e1.trans e2).trans e3
    ⟨m, wl, pp, cp, μ, F, p.d, p.pr, p.bu, p.ws, rfl, hM.keep e, e _ _ h1, e _ _ h2, F2, F5, g.d0, g.d1, g.p0, g.p1, g.b0, g.b1, g.wl, r, fun H' h' f' => k H' h' ((Fr.of e).trans f')⟩
def sp_booted (K : PySem.W.Frag) : Sp := fun vs H Q _ => ∃ (pa qa la ra : Addr) (pl : List (Int × Int)) (ps : List Part6), vs = [.ref pa, .ref qa, .ref la, .ref ra] ∧ PlanAt H pa pl ∧ PartsAt H qa ps ∧ H la = some (.tup []) ∧ H ra = some (.tup []) ∧ GoodPlan pl ∧ 1 ≤ ps.length ∧ ps.length ≤ 4 ∧
  (∀ i : Nat, i < ps.length → GoodPart (ps.getD i ⟨0, 0, 0, []⟩) ∧ Read6 (mparts (mboot0 pl) ps i) (2 + 5 * (i : Int)) (ps.getD i ⟨0, 0, 0, []⟩).d (ps.getD i ⟨0, 0, 0, []⟩).pr (ps.getD i ⟨0, 0, 0, []⟩).bu (ps.getD i ⟨0, 0, 0, []⟩).ws) ∧
  ∀ m wl H', H m = none → H wl = none → Ex H H' → MemAt K H' m wl (mboot pl ps) → Q (.ref m) H'
theorem ok_booted (T : Txt K mg) : FnOk P w K mg base CX0 6 (f_booted K) (fd_booted K) ["plan", "parts", "links", "lines"] (sp_booted K) := by
  refine T.fn_booted.ok sc_booted (fun vs H Q E h => ?_) (fun cdv A outer s H vs Q E hr h => ⟨_, PSs.nox (pss_cons (ps_par (i := 4) (j := 5) (by rfl) sc_booted.nd rfl rfl (by decide) rfl rfl (pa_cons (pe_make0 (T.mk_Memory) (ok_Memory_init T) (hr.mono (by decide)) (by rfl) (T.glo_Memory) (T.bd_Memory_init) .nil pass0) (pa_cons (pe_op op_add pe_int (pe_op op_mul (T.pg_EACH) (pe_callB call_len (by rfl) T.free_len PySem.boot_len (pa_cons (pv 1) pa_nil)))) pa_nil)) (by rfl)) (pss_cons (ps_if (PW.pt (pw_or (pt_not (pt_chain op_le op_le pe_int (pe_callB call_len (by rfl) T.free_len PySem.boot_len (pa_cons (pv 0) pa_nil)) (T.pg_PARTS))) (pw_or1 (pt_not (pt_val (pe_callB (cr_all rfl) (by rfl) T.free_all (by decide +kernel) (pa_cons (pe_lc (own := [("domain", 6), ("ticks", 7)]) (by rfl) sc_booted.nd (pi_tup (pv 0)) (blkOk_by (N := sc_booted_N) (sc := defScope s_booted) (own := [("domain", 6), ("ticks", 7)]) (by decide +kernel)) (fun _ _ _ _ _ => (pg_tupK (K := K) (n := 2) (by rfl) (by rfl) (pgs_cons (pg_name (i := 6) sc_booted.nd rfl (Or.inl rfl)) (pgs_cons (pg_name (i := 7) sc_booted.nd rfl (Or.inl rfl)) pgs_nil)))) (fun _ _ _ _ _ => pts_nil) (fun _ _ _ _ _ => (pe_and (pe_chain op_le op_lt pe_int (pv 6) (by exact T.pg_DOMAINS)) (pe_one (pe_chain op_le op_le pe_int (pv 7) pe_int))))) pa_nil))))))) (pss_one ps_never) pss_nil) (pss_cons (ps_for PassesOwn.never rfl (pi_enumT (by rfl) T.free_enumerate (pa_cons (pv 0) pa_nil)) (pg_tup (by rfl) (pgs_cons (pg_name (i := 8) sc_booted.nd rfl (Or.inl rfl)) (pgs_cons (pg_tup (by rfl) (pgs_cons (pg_name (i := 6) sc_booted.nd rfl (Or.inl rfl)) (pgs_cons (pg_name (i := 7) sc_booted.nd rfl (Or.inl rfl)) pgs_nil))) pgs_nil))) (pss_one (ps_expr (pe_meth (pv 4) (T.cl_Memory) (T.mt_Memory_put) (ok_Memory_put T) (hr.mono (by decide)) (T.bd_Memory_put) .nil pass0 (pa_cons (T.pg_KERNEL) (pa_cons (pe_op op_add (T.pg_K_PLAN) (pv 8)) (pa_cons (pe_op op_add (pe_op op_mul (pv 6) pe_int) (pv 7)) pa_nil))))))) (pss_cons (ps_expr (pe_meth (pv 4) (T.cl_Memory) (T.mt_Memory_put) (ok_Memory_put T) (hr.mono (by decide)) (T.bd_Memory_put) .nil pass0 (pa_cons (T.pg_KERNEL) (pa_cons (T.pg_K_LEFT) (pa_cons (pe_ix ix_tup (pe_ix ix_tup (pv 0) pe_int (fun _ _ => rfl)) pe_int (fun _ _ => rfl)) pa_nil))))) (pss_cons (ps_if (PW.pt (pw_or (pt_cmpR op_gt (pe_op op_add (pe_op op_add (pv 5) (pe_callB call_len (by rfl) T.free_len PySem.boot_len (pa_cons (pv 2) pa_nil))) (pe_callB (cr_sum rfl) (by rfl) T.free_sum (by decide +kernel) (pa_cons (pe_lc (own := [("part", 9)]) (by rfl) sc_booted.nd (pi_tup (pv 1)) (blkOk_by (N := sc_booted_N) (sc := defScope s_booted) (own := [("part", 9)]) (by decide +kernel)) (fun _ _ _ _ _ => (pg_name (i := 9) sc_booted.nd rfl (Or.inl rfl))) (fun _ _ _ _ _ => pts_nil) (fun _ _ _ _ _ => (pe_ix (r := rIxT K) (by exact ix_tup) (pv 9) pe_int (fun _ _ => rfl)))) pa_nil))) (T.pg_FRAMES) (nomark _)) (pw_or1 (pt_not (pt_truth (pv 1) (by intro _; rfl)))))) (pss_one ps_never) pss_nil) (pss_cons (ps_for PassesOwn.never rfl (pi_enumT (by rfl) T.free_enumerate (pa_cons (pv 1) pa_nil)) (pg_tup (by rfl) (pgs_cons (pg_name (i := 8) sc_booted.nd rfl (Or.inl rfl)) (pgs_cons (pg_name (i := 9) sc_booted.nd rfl (Or.inl rfl)) pgs_nil))) (pss_one (ps_expr (pe_call (ok_begin_part T) (hr.mono (by decide)) (by rfl) (T.glo_begin_part) (T.kp_begin_part) (T.bd_begin_part) .nil pass0 (pa_cons (pv 4) (pa_cons (pe_op op_add pe_int (pe_op op_mul (T.pg_EACH) (pv 8))) (pa_cons (pv 9) pa_nil))))))) (pss_cons (ps_for PassesOwn.never rfl (pi_enumT (by rfl) T.free_enumerate (pa_cons (pv 2) pa_nil)) (pg_tup (by rfl) (pgs_cons (pg_name (i := 8) sc_booted.nd rfl (Or.inl rfl)) (pgs_cons (pg_name (i := 10) sc_booted.nd rfl (Or.inl rfl)) pgs_nil))) (pss_one ps_never)) (pss_cons (ps_aug (i := 5) sc_booted.nd rfl (.inl rfl) (pe_callB call_len (by rfl) T.free_len PySem.boot_len (pa_cons (pv 2) pa_nil)) ip_add) (pss_cons (ps_for PassesOwn.never rfl (pi_enumT (by rfl) T.free_enumerate (pa_cons (pv 1) pa_nil)) (pg_tup (by rfl) (pgs_cons (pg_name (i := 8) sc_booted.nd rfl (Or.inl rfl)) (pgs_cons (pg_name (i := 9) sc_booted.nd rfl (Or.inl rfl)) pgs_nil))) (pss_one (ps_if (pt_truth (pe_ix ix_tup (pv 9) pe_int (fun _ _ => rfl)) (by intro _; rfl)) (pss_cons ps_never (pss_one ps_never)) pss_nil))) (pss_cons (ps_for PassesOwn.never rfl (pi_tup (pv 3)) (pg_tup (by rfl) (pgs_cons (pg_name (i := 11) sc_booted.nd rfl (Or.inl rfl)) (pgs_cons (pg_name (i := 8) sc_booted.nd rfl (Or.inl rfl)) (pgs_cons (pg_name (i := 12) sc_booted.nd rfl (Or.inl rfl)) pgs_nil)))) (pss_cons ps_never (pss_one ps_never))) (pss_one (ps_ret (pv 4))))))))))))), ?_⟩)
  · obtain ⟨_, _, _, _, _, _, rfl, _⟩ := h
    rfl
  · obtain ⟨pa, qa, la, ra, pl, ps, rfl, hP, hQ, hL, hR, gP, l1, l4, hG, k⟩ := h
    obtain ⟨vp, hp1, hp2, hp3⟩ := id hP
    obtain ⟨vq, hq1, hq2, hq3⟩ := id hQ
    refine fun m dx hm hdx hne => ⟨m, dx, rfl, upd_same, fun wl H1 hwl hM f1 => ⟨rfl, ?_⟩⟩
    have hwm : wl ≠ m := fun z => by rw [z, upd_same] at hwl; cases hwl
    have hwd : wl ≠ dx := fun z => by rw [z, upd_ne hne, upd_same] at hwl; cases hwl
    have hwH : H wl = none := by rw [upd_ne hwm, upd_ne hwd] at hwl; exact hwl
    have e1 : Ex H H1 := fun b o h => by
      have n1 : b ≠ m := fun z => by rw [z, hm] at h; cases h
      have n2 : b ≠ dx := fun z => by rw [z, hdx] at h; cases h
      exact f1 b o (by rw [upd_ne n1, upd_ne n2]; exact h) (by simpa using n1)
    refine (ev_op ev_c (ev_op ev_c (ev_lenT (K := K) (ev_var rfl) (st_of (e1 _ _ hq1))) (rv_I (.inl ⟨by decide, by decide⟩))) rv_I0 : Ev _ _ H1 (.int (2 + 5 * (vq.length : Int)))) H1 (Ex.refl H1) _ fun H2 e2 => ⟨_, _, rfl, ?_⟩
    have lq : (vq.length : Int) = (ps.length : Int) := by rw [hq2]
    have lp : (vp.length : Int) = (pl.length : Int) := by rw [hp2]
    have e02 := e1.trans e2
    refine q_when (b := false) (et_is (et_or (a := false) (b := false) (et_is (et_not (et_test (ev_chV ev_c (ev_lenT (K := K) (ev_var rfl) (st_of (e02 _ _ hp1))) rv_I0 ev_c rv_I0))) (by have := gP.len; rw [decide_eq_true (show (1 : Int) ≤ (vp.length : Int) by omega), decide_eq_true (show (vp.length : Int) ≤ 4 by omega)] <;> rfl)) fun _ => et_is (et_not (et_B (ev_all (K := K) (bs := List.replicate vp.length true) ?_))) (by rw [all_rep] <;> rfl)) rfl) (fun h => by cases h) fun _ H3 e3 => ?_
    · rw [List.map_replicate, ← given_const]
      refine el_lcT (K := K) (a := pa) (xs := vp) (fun _ => .bl true) (ev_var rfl) (st_of (e02 _ _ hp1)) (by have := gP.len; omega) fun i x H3 e3 hx H4 e4 R hR => ?_
      obtain ⟨t, rfl, ht⟩ := hp3 i x hx
      have hi : i < pl.length := by rw [← hp2]; exact (List.getElem?_eq_some_iff.mp hx).1
      have g := gP.each i hi
      refine ⟨t, _, rfl, st_of (e4 _ _ (e3 _ _ (e02 _ _ ht))), rfl, _, _, rfl, _, _, rfl, rfl, ?_⟩
      exact hR _ rfl (ev_is (ev_andV (a := true) (ev_good ev_c (ev_var rfl) ev_c g.1 g.2.1 rv_I0 rv_I0) fun _ => ev_chV (k := decide ((1 : Int) ≤ (pl.getD i (0, 0)).2)) (k' := decide ((pl.getD i (0, 0)).2 ≤ (255 : Int))) ev_c (ev_var rfl) rv_I0 ev_c rv_I0) (by rw [decide_eq_true g.2.2.1, decide_eq_true g.2.2.2] <;> rfl))
    have e03 := e02.trans e3
    have hM3 := hM.keep (e2.trans e3)
    have hw3 := hM3.ws
    refine q_forET (K := K) (a := pa) (xs := vp) (ev_var rfl) (st_of (e03 _ _ hp1))
      (fun i σ' H' => ∃ x6 x7 x8, σ' = [some (.ref pa), some (.ref qa), some (.ref la), some (.ref ra), some (.ref m), some (.int (2 + 5 * (vq.length : Int))), x6, x7, x8, none, none, none, none] ∧ MemAt K H' m wl (mplan m0 pl i) ∧ Fr wl H3 H')
      (fun H4 e4 => ⟨none, none, none, rfl, hM3.keep e4, Fr.of e4⟩) (fun i σ' H' ⟨_, _, _, _, _, f'⟩ => st_of (TK.fr f' hw3 _ _ (e03 _ _ hp1))) ?_ ?_
    · rintro i y σ' H' t hy ⟨x6, x7, x8, rfl, hM', f'⟩ ht
      obtain ⟨u, rfl, hu⟩ := hp3 i y hy
      have hi : i < pl.length := by rw [← hp2]; exact (List.getElem?_eq_some_iff.mp hy).1
      have l4 := gP.len
      have hu' := TK.fr f' hw3 _ _ (e03 _ _ hu)
      have e4 : Ex H' (L2.upd H' t (.tup [.int (i : Nat), .ref u])) := Ex.new ht
      refine ⟨t, _, rfl, st_of upd_same, rfl, _, _, rfl, _, _, rfl, u, _, rfl, st_of (e4 _ _ hu'), rfl, _, _, rfl, _, _, rfl, rfl, rfl, ?_⟩
      exact s_put (hM'.keep e4) (ev_var rfl) ev_c (ev_op ev_c (ev_var rfl) rv_I0) (ev_op (ev_op (ev_var rfl) ev_c (rv_I (.inr ⟨by decide, by decide⟩))) (ev_var rfl) rv_I0) (by omega) fun H5 h5 f5 => ⟨_, _, _, rfl, h5, (f'.trans (Fr.of e4)).trans f5⟩
    rintro σ' H4 ⟨x6, x7, x8, rfl, hM4, f4⟩
    rw [hp2] at hM4
    have tk4 : TK H H4 := (TK.ex e03).trans (TK.fr f4 hw3)
    have hM4w := hM4.ws
    obtain ⟨v0, hv0⟩ : ∃ v0, vp[0]? = some v0 := ⟨vp[0]'(by have := gP.len; omega), List.getElem?_eq_getElem _⟩
    obtain ⟨t0, rfl, ht0⟩ := hp3 0 v0 hv0
    refine q_put hM4 (ev_var rfl) ev_c ev_c (ev_op (ev_op (ev_var rfl) ev_c (Evl.rv_ixT (st_of (tk4 _ _ hp1)) (atI_nat (j := 0) hv0))) ev_c (Evl.rv_ixT (st_of (tk4 _ _ ht0)) (atI_nat (j := 1) rfl))) (by omega) fun H5 hM5 f5 => ?_
    have hM5 : MemAt K H5 m wl (mboot0 pl) := hM5
    have tk5 : TK H H5 := tk4.trans (TK.fr f5 hM4w)
    refine q_when (b := false) (et_is (et_or (a := false) (b := false) (et_is (et_test (ev_op (ev_op (ev_op (ev_var rfl) (ev_lenT (K := K) (ev_var rfl) (st_of (tk5 _ _ hL))) rv_I0) (ev_sum (K := K) (ns := List.replicate vq.length 0) ?_) rv_I0) ev_c rv_I0)) ?_) fun _ => et_is (et_not (et_truT (K := K) (ev_var rfl) (st_of (tk5 _ _ hq1)))) ?_) rfl) (fun h => by cases h) fun _ H6 e6 => ?_
    · rw [List.map_replicate, ← given_const]
      refine el_lcT (K := K) (a := qa) (xs := vq) (fun _ => .int 0) (ev_var rfl) (st_of (tk5 _ _ hq1)) (by omega) fun i x H6 e6 hx H7 e7 R hR => ?_
      obtain ⟨t, c, rfl, ht, hc⟩ := hq3 i x hx
      exact hR _ rfl (ev_op (ev_var rfl) ev_c (Evl.rv_ixT (st_of (e6 _ _ (tk5 _ _ ht))) (atI_nat (j := 4) rfl)))
    · have hs0 : ∀ n : Nat, (List.replicate n (0 : Int)).sum = 0 := fun n => by
        induction n with
        | zero => rfl
        | succ n ih => rw [List.replicate_succ, List.sum_cons, ih] <;> rfl
      rw [hs0]
      exact decide_eq_false (by show ¬ (2 + 5 * (vq.length : Int) + ((([] : List V).length : Nat) : Int) + 0 > 32); rw [List.length_nil]; omega)
    · cases vq with
      | nil => simp at hq2; omega
      | cons a b => rfl
    have hM6 := hM5.keep e6
    have hM6w := hM6.ws
    have tk6 : TK H H6 := tk5.trans (TK.ex e6)
    have f6 : Fr wl H3 H6 := (f4.trans f5).trans (Fr.of e6)
    refine q_forET (K := K) (a := qa) (xs := vq) (ev_var rfl) (st_of (tk6 _ _ hq1))
      (fun i σ' H' => ∃ x8 x9, σ' = [some (.ref pa), some (.ref qa), some (.ref la), some (.ref ra), some (.ref m), some (.int (2 + 5 * (vq.length : Int))), x6, x7, x8, x9, none, none, none] ∧ MemAt K H' m wl (mparts (mboot0 pl) ps i) ∧ Fr wl H6 H')
      (fun H7 e7 => ⟨x8, none, rfl, hM6.keep e7, Fr.of e7⟩) (fun i σ' H' ⟨_, _, _, _, f'⟩ => st_of (TK.fr f' hM6w _ _ (tk6 _ _ hq1))) ?_ ?_
    · rintro i y σ' H' t hy ⟨y8, y9, rfl, hM', f'⟩ ht
      obtain ⟨u, c, rfl, hu, hc⟩ := hq3 i y hy
      have hi : i < ps.length := by rw [← hq2]; exact (List.getElem?_eq_some_iff.mp hy).1
      obtain ⟨g, hR6⟩ := hG i hi
      have tk' : TK H H' := tk6.trans (TK.fr f' hM6w)
      have e4 : Ex H' (L2.upd H' t (.tup [.int (i : Nat), .ref u])) := Ex.new ht
      refine ⟨t, _, rfl, st_of upd_same, rfl, _, _, rfl, _, _, rfl, rfl, ?_⟩
      exact s_begin (hM'.keep e4) (ev_var rfl) (ev_op ev_c (ev_op ev_c (ev_var rfl) (rv_I (.inl ⟨by decide, by decide⟩))) rv_I0) (ev_var rfl) (e4 _ _ (tk' _ _ hu)) (e4 _ _ (tk' _ _ hc)) (by omega) (by omega) g hR6 fun H8 h8 f8 => ⟨_, _, rfl, h8, (f'.trans (Fr.of e4)).trans f8⟩
    rintro σ' H7 ⟨y8, y9, rfl, hM7, f7⟩
    rw [hq2] at hM7
    have hM7 : MemAt K H7 m wl (mboot pl ps) := hM7
    have f37 : Fr wl H3 H7 := f6.trans f7
    have eH7 : Ex H H7 := fun b o h => f37 b o (e03 b o h) fun z => by rw [z, hwH] at h; cases h
    refine q_forET (K := K) (a := la) (xs := []) (ev_var rfl) (st_of (eH7 _ _ hL))
      (fun i σ' H' => σ' = [some (.ref pa), some (.ref qa), some (.ref la), some (.ref ra), some (.ref m), some (.int (2 + 5 * (vq.length : Int))), x6, x7, y8, y9, none, none, none] ∧ Ex H7 H')
      (fun H8 e8 => ⟨rfl, e8⟩) (fun i σ' H' ⟨_, e⟩ => st_of (e _ _ (eH7 _ _ hL))) (fun i y σ' H' t hy => by cases hy) ?_
    rintro σ' H8 ⟨rfl, e8⟩
    have eH8 := eH7.trans e8
    refine q_aug (a := 2 + 5 * (vq.length : Int)) (b := (([] : List V).length : Nat)) rfl (ev_lenT (K := K) (ev_var rfl) (st_of (eH8 _ _ hL))) fun H9 e9 => ?_
    have eH9 := eH8.trans e9
    refine q_forET (K := K) (a := qa) (xs := vq) (ev_var rfl) (st_of (eH9 _ _ hq1))
      (fun i σ' H' => ∃ x5 x8 x9, σ' = [some (.ref pa), some (.ref qa), some (.ref la), some (.ref ra), some (.ref m), x5, x6, x7, x8, x9, none, none, none] ∧ Ex H9 H')
      (fun H10 e10 => ⟨_, _, _, rfl, e10⟩) (fun i σ' H' ⟨_, _, _, _, e⟩ => st_of (e _ _ (eH9 _ _ hq1))) ?_ ?_
    · rintro i y σ' H' t hy ⟨x5, z8, z9, rfl, e'⟩ ht
      obtain ⟨u, c, rfl, hu, hc⟩ := hq3 i y hy
      have e4 : Ex H' (L2.upd H' t (.tup [.int (i : Nat), .ref u])) := Ex.new ht
      refine ⟨t, _, rfl, st_of upd_same, rfl, _, _, rfl, _, _, rfl, rfl, ?_⟩
      exact s_when (b := false) (et_is (et_truI (K := K) (n := 0) (ev_op (ev_var rfl) ev_c (Evl.rv_ixT (st_of (e4 _ _ (e' _ _ (eH9 _ _ hu)))) (atI_nat (j := 4) rfl)))) rfl) (fun h => by cases h) fun _ H10 e10 => ⟨_, _, _, rfl, (e'.trans e4).trans e10⟩
    rintro σ' H10 ⟨x5, z8, z9, rfl, e10⟩
    have eH10 := eH9.trans e10
    refine q_forT (K := K) (a := ra) (xs := []) (ev_var rfl) (st_of (eH10 _ _ hR))
      (fun i σ' H' => σ' = [some (.ref pa), some (.ref qa), some (.ref la), some (.ref ra), some (.ref m), x5, x6, x7, z8, z9, none, none, none] ∧ Ex H10 H')
      (fun H11 e11 => ⟨rfl, e11⟩) (fun i σ' H' _ ⟨_, e⟩ => st_of (e _ _ (eH10 _ _ hR))) (fun i y σ' H' hy => by cases hy) ?_
    rintro σ' H11 ⟨rfl, e11⟩
    exact s_ret (ev_var rfl) fun H12 e12 => k m wl H12 hm hwH ((eH10.trans e11).trans e12) (hM7.keep ((((e8.trans e9).trans e10).trans e11).trans e12))
end
end KA

namespace KA
open PySem PySem.Spec PyProof.Rows L2 Evl TL
/-! ### a machine made -/
section
variable {P : Program} {w : World} {K : PySem.W.Frag} {mg : Str → Option Value} {base : Heap}
section
variable {σ : L2.St} {H : Hp} {D : Ends}
theorem q_fldV {ta tv : TE} {tz : TS} {a C dx : Addr} {fs : List (Str × V)} {f : Str} {v : V} (hv : Ev tv σ H v) (ha : Ev ta σ H (.ref a)) (h : H a = some (.ins C dx fs)) (c : Cls K C) (n : NoAttr K C f) (hl : fs.length < 1000)
    (k : ∀ H1, Ex H H1 → tz D σ (L2.upd H1 a (.ins C dx (putF f v fs)))) : tSeq (sFld K ta tv f) tz D σ H := hv H (Ex.refl H) _ fun H1 e1 => ha H1 e1 _ fun H2 e2 =>
  ⟨a, C, dx, fs, rfl, (e1.trans e2) _ _ h, c, n, hl, k H2 (e1.trans e2)⟩
end
def sp_Machine_init (K : PySem.W.Frag) : Sp := fun vs H Q _ => ∃ (mc m dx : Addr), vs = [.ref mc, .ref m, .int 4] ∧ H mc = some (.ins (CMa K) dx []) ∧
  ∀ (kl cl : Addr) H', H kl = none → H cl = none → kl ≠ cl → H' mc = some (.ins (CMa K) dx [("_memory", .ref m), ("_most", .int 4), ("_kept", .ref kl), ("_counts", .ref cl)]) → H' kl = some (.lst []) → H' cl = some (.lst [.int 0, .int 0]) → FS [mc] H H' → Q .non H'
theorem ok_Machine_init (T : Txt K mg) : FnOk P w K mg base CX0 1 (f_Machine_init K) (fd_Machine_init K) ["self", "memory", "most"] (sp_Machine_init K) := by
  refine T.fn_Machine_init.ok sc_Machine_init (fun vs H Q E h => ?_) (fun cdv A outer s H vs Q E hr h => ⟨_, PSs.nox (pss_cons (ps_fld (pv 0) (pv 1) rfl) (pss_cons (ps_fld (pv 0) (pv 2) rfl) (pss_cons (ps_fld (pv 0) (pe_lst pa_nil) rfl) (pss_one (ps_fld (pv 0) (pe_lst (pa_cons pe_int (pa_cons pe_int pa_nil))) rfl))))), ?_⟩)
  · obtain ⟨_, _, _, rfl, _⟩ := h
    rfl
  · obtain ⟨mc, m, dx, rfl, hm, k⟩ := h
    refine q_fldV (ev_var rfl) (ev_var rfl) hm T.cl_Machine T.no_Machine_memory (by decide) fun H1 e1 => ?_
    have f1 : FS [mc] H (upd H1 mc (.ins (CMa K) dx (putF "_memory" (.ref m) []))) := (FS.of e1).trans (FS.put (by simp))
    have h1 : (upd H1 mc (.ins (CMa K) dx (putF "_memory" (.ref m) []))) mc = some (.ins (CMa K) dx [("_memory", .ref m)]) := upd_same
    generalize upd H1 mc (.ins (CMa K) dx (putF "_memory" (.ref m) [])) = G1 at f1 h1 ⊢
    refine q_fldV (ev_var rfl) (ev_var rfl) h1 T.cl_Machine T.no_Machine_most (by show 1 < 1000; decide) fun H2 e2 => ?_
    have f2 : FS [mc] H (upd H2 mc (.ins (CMa K) dx (putF "_most" (.int 4) [("_memory", .ref m)]))) := (f1.trans (FS.of e2)).trans (FS.put (by simp))
    have h2 : (upd H2 mc (.ins (CMa K) dx (putF "_most" (.int 4) [("_memory", .ref m)]))) mc = some (.ins (CMa K) dx [("_memory", .ref m), ("_most", .int 4)]) := upd_same
    generalize upd H2 mc (.ins (CMa K) dx (putF "_most" (.int 4) [("_memory", .ref m)])) = G2 at f2 h2 ⊢
    refine q_fldL (xs := []) (el_lst ea_nil (by decide)) (ev_var rfl) h2 T.cl_Machine T.no_Machine_kept (by show 2 < 1000; decide) fun kl H3 hkl e3 h3 => ?_
    have hklH : H kl = none := by
      cases z : H kl with
      | none => rfl
      | some o =>
        have n : kl ≠ mc := fun q => by rw [q, h2] at hkl; cases hkl
        rw [f2 kl o z (by simpa using n)] at hkl
        cases hkl
    have nk : kl ≠ mc := fun q => by rw [q, h2] at hkl; cases hkl
    have f3 : FS [mc] H (upd H3 mc (.ins (CMa K) dx (putF "_kept" (.ref kl) [("_memory", .ref m), ("_most", .int 4)]))) := (f2.trans (FS.of e3)).trans (FS.put (by simp))
    have h3m : (upd H3 mc (.ins (CMa K) dx (putF "_kept" (.ref kl) [("_memory", .ref m), ("_most", .int 4)]))) mc = some (.ins (CMa K) dx [("_memory", .ref m), ("_most", .int 4), ("_kept", .ref kl)]) := upd_same
    have h3k : (upd H3 mc (.ins (CMa K) dx (putF "_kept" (.ref kl) [("_memory", .ref m), ("_most", .int 4)]))) kl = some (.lst []) := by rw [upd_ne nk]; exact h3
    generalize upd H3 mc (.ins (CMa K) dx (putF "_kept" (.ref kl) [("_memory", .ref m), ("_most", .int 4)])) = G3 at f3 h3m h3k ⊢
    refine s_fldL (xs := [.int 0, .int 0]) (el_lst (ea_cons ev_c (ea_cons ev_c ea_nil)) (by show 2 ≤ 100000; decide)) (ev_var rfl) h3m T.cl_Machine T.no_Machine_counts (by show 3 < 1000; decide) fun cl H4 hcl e4 h4 => ?_
    have nc : cl ≠ mc := fun q => by rw [q, h3m] at hcl; cases hcl
    have nkc : kl ≠ cl := fun q => by rw [← q, h3k] at hcl; cases hcl
    have hclH : H cl = none := by
      cases z : H cl with
      | none => rfl
      | some o =>
        rw [f3 cl o z (by simpa using nc)] at hcl
        cases hcl
    exact k kl cl _ hklH hclH nkc upd_same (by rw [upd_ne nk]; exact e4 _ _ h3k) (by rw [upd_ne nc]; exact h4) ((f3.trans (FS.of e4)).trans (FS.put (by simp)))
end
end KA

namespace KD
open KA
open PySem PySem.Spec PyProof.Rows L2 Evl TL
def oV : Option Int → V
  | none => .non
  | some i => .int i
def dig (c : Nat) : Bool := decide (48 ≤ c ∧ c ≤ 57)
/-- number_in -/
def numBad (t : Str) : Bool := !(decide ((1 : Int) ≤ (t.length : Int)) && decide ((t.length : Int) ≤ 5)) || (!((tl t).all dig) || (decide (V.str ⟨#[(tl t).headD 0]⟩ = V.str "0") && !decide (V.str t = V.str "0")))
def numIn (t : Str) (most : Int) : Option Int :=
  if numBad t = true then none else if ((NumText.digitsVal (tl t) : Nat) : Int) ≤ most then some ((NumText.digitsVal (tl t) : Nat) : Int) else none
section
variable {σ : L2.St} {H : Hp} {K : PySem.W.Frag}
theorem lc_str {x : Str} {g : TG} {tt : TT} {te : TE} {vs : List Nat} {H1 : Hp} {D : Addr} {Qd : Hp → Prop} (Pv : Nat → Hp → Prop) (h0 : Pv 0 (upd H1 D (.lst [])))
    (hs : ∀ i c H, x.cps[i]? = some c → Pv i H → g (.str ⟨#[c]⟩) (wipe σ vs) H fun σ2 H2 => wipe σ2 vs = wipe σ vs ∧ tt σ2 H2 fun b H3 =>
      if b = true then te σ2 H3 fun y H4 => ∃ acc, H4 D = some (.lst acc) ∧ acc.length < sizeLine ∧ Pv (i + 1) (upd H4 D (.lst (acc ++ [y]))) else Pv (i + 1) H3) (hd : ∀ H, Pv x.cps.size H → Qd H) :
    ∃ W : Nat → Nat → Hp → Prop, (∃ m, W 0 m (upd H1 D (.lst []))) ∧ ∀ i m H, W i m H →
      ((Its x).stop i H ∧ Qd H) ∨ ((Its x).go i H ∧ ∃ Nx : Hp → Prop, (∀ H', Nx H' → ∃ m', m' < m ∧ W (i + 1) m' H') ∧ ∀ y H', (Its x).yld i H y H' → g y (wipe σ vs) H' fun σ2 H2 => wipe σ2 vs = wipe σ vs ∧ tt σ2 H2 fun b H3 =>
        if b = true then te σ2 H3 fun y H4 => ∃ acc, H4 D = some (.lst acc) ∧ acc.length < sizeLine ∧ Nx (upd H4 D (.lst (acc ++ [y]))) else Nx H3) := by
  refine ⟨fun i m H => m = x.cps.size - i ∧ i ≤ x.cps.size ∧ Pv i H, ⟨x.cps.size, by simp, Nat.zero_le _, h0⟩, ?_⟩
  rintro i m H ⟨rfl, hi, p⟩
  by_cases hlt : i < x.cps.size
  · refine .inr ⟨hlt, Pv (i + 1), fun H' p' => ⟨x.cps.size - (i + 1), by omega, rfl, hlt, p'⟩, fun y H' q => ?_⟩
    obtain ⟨rfl, c, hc, rfl⟩ := q
    exact hs i c _ hc p
  · have e : i = x.cps.size := by omega
    subst e
    exact .inl ⟨Nat.le_refl _, hd H p⟩
theorem el_lcS {x : Str} {tl : TE} {t : TT} {te : TE} {j : Nat} {vs : List Nat} (f : Nat → Bool) (v : Nat → V) (h : Ev tl σ H (.str x)) (hz : x.cps.size ≤ 40000) (hw : ∀ y, wipe ((wipe σ vs).set j (some y)) vs = wipe σ vs)
    (ht : ∀ (i c : Nat) H1, Ex H H1 → x.cps[i]? = some c → EvT t ((wipe σ vs).set j (some (.str ⟨#[c]⟩))) H1 (f i)) (he : ∀ (i c : Nat) H1, Ex H H1 → x.cps[i]? = some c → f i = true → Ev te ((wipe σ vs).set j (some (.str ⟨#[c]⟩))) H1 (v i)) :
    EvL (tLc (iStr tl) (gName j) t te vs) σ H (given x.cps.size f v) := fun H0 e Q q => h H0 e _ fun H1 e1 => ⟨x, rfl, fun Dl hD =>
  lc_str (Cw H1 f v Dl) ⟨hD, Ex.new hD, upd_same⟩ (fun i c H' hi p => ⟨hw _, cw_turn p (by have := (Array.getElem?_eq_some_iff.mp hi).1; omega) (ht i c H1 (e.trans e1) hi) (fun hf => he i c H1 (e.trans e1) hi hf)⟩)
    (fun H' p => q Dl H' (fresh_back e1 p.1) (e1.trans p.2.1) p.2.2)⟩
theorem given_all (l : List Nat) (g : Nat → V) : given l.length (fun _ => true) (fun i => g (l.getD i 0)) = l.map g := by
  unfold given
  rw [List.filter_eq_self.mpr (by simp)]
  apply List.ext_getElem?
  intro i
  by_cases h : i < l.length
  · simp [h]
  · simp [h]
/-- len of a text -/
theorem ev_lenS {x : Str} {ta : TE} (ha : Ev ta σ H (.str x)) (hz : x.length ≤ 100000) : Ev (tCB (fun xs H Q => ∃ x n, xs = [x] ∧ LenV K x H n ∧ Q (.int n) H) (tCons ta tNil)) σ H (.int (x.length : Int)) := fun H1 e Q q =>
  ha H1 e _ fun H2 e2 => ⟨_, x.length, rfl, ⟨sz_of hz, rfl⟩, q H2 e2⟩
theorem ev_lenL {p : Addr} {xs : List V} {ta : TE} (ha : Ev ta σ H (.ref p)) (h : SqL K H p xs) : Ev (tCB (fun xs H Q => ∃ x n, xs = [x] ∧ LenV K x H n ∧ Q (.int n) H) (tCons ta tNil)) σ H (.int (xs.length : Int)) := fun H1 e Q q =>
  ha H1 e _ fun H2 e2 => ⟨_, xs.length, rfl, .inl ⟨_, ex_l (e.trans e2) h, rfl⟩, q H2 e2⟩
theorem ev_lenT {p : Addr} {xs : List V} {ta : TE} (ha : Ev ta σ H (.ref p)) (h : SqT K H p xs) : Ev (tCB (fun xs H Q => ∃ x n, xs = [x] ∧ LenV K x H n ∧ Q (.int n) H) (tCons ta tNil)) σ H (.int (xs.length : Int)) := fun H1 e Q q =>
  ha H1 e _ fun H2 e2 => ⟨_, xs.length, rfl, .inr ⟨_, ex_t (e.trans e2) h, rfl⟩, q H2 e2⟩
theorem ev_chain {r r' : R2} {ta tb tc : TE} {x y z : V} {k k' : Bool} (ha : Ev ta σ H x) (hb : Ev tb σ H y) (hr : RV r x y H (.bl k)) (hc : Ev tc σ H z) (hr' : RV r' y z H (.bl k')) : EvT (tTest (tChain r r' ta tb tc)) σ H (k && k') := fun H1 e Q q =>
  ha H1 e _ fun H2 e2 => hb H2 (e.trans e2) _ fun H3 e3 => hr H3 ((e.trans e2).trans e3) _ fun H4 e4 => ⟨k, rfl, by
    cases k with
    | true =>
      refine iteT (hc H4 (((e.trans e2).trans e3).trans e4) _ fun H5 e5 => hr' H5 ((((e.trans e2).trans e3).trans e4).trans e5) _ fun H6 e6 => ⟨k', rfl, q H6 ?_⟩)
      exact ((((e2.trans e3).trans e4).trans e5).trans e6)
    | false => exact iteF ⟨false, rfl, q H4 ((e2.trans e3).trans e4)⟩⟩
theorem ev_int {a : Str} {n : Int} {ta : TE} (ha : Ev ta σ H (.str a)) (h : PySem.intText? a = some n) (hl : a.length ≤ 640) : Ev (tCB (fun xs H Q => ∃ a n, xs = [.str a] ∧ PySem.intText? a = some n ∧ a.length ≤ 640 ∧ Q (.int n) H) (tCons ta tNil)) σ H (.int n) := fun H1 e Q q =>
  ha H1 e _ fun H2 e2 => ⟨a, n, rfl, h, hl, q H2 e2⟩
theorem rv_inS {c : Nat} {z : Str} : RV (fun x y H Q => ∃ (c : Nat) (z : Str), x = .str ⟨#[c]⟩ ∧ y = .str z ∧ Q (.bl (decide (c ∈ z.cps.toList))) H) (.str ⟨#[c]⟩) (.str z) H (.bl (decide (c ∈ z.cps.toList))) := fun H1 _ _ q => ⟨c, z, rfl, rfl, q H1 (Ex.refl H1)⟩
theorem ev_all {ta : TE} {bs : List Bool} (h : EvL ta σ H (bs.map V.bl)) : Ev (tCB (rAll K) (tCons ta tNil)) σ H (.bl (bs.all id)) := fun H1 e Q q =>
  h H1 e _ fun p H2 hp e2 h2 => ⟨p, bs, rfl, sq_of h2, q H2 e2⟩
theorem et_yes : EvT (fun _ H Q => Q true H) σ H true := fun H1 _ _ q => q H1 (Ex.refl H1)
end
section
variable {P : Program} {w : World} {K : PySem.W.Frag} {mg : Str → Option Value} {base : Heap}
def sp_word_of : Sp := fun vs H Q _ => ∃ op a b c : Int, vs = [.int op, .int a, .int b, .int c] ∧ Q (.int (op * 4096 + a * 512 + b * 64 + c)) H
theorem ok_word_of (T : Txt K mg) : FnOk P w K mg base CX0 1 (f_word_of K) (fd_word_of K) ["op", "a", "b", "c"] sp_word_of := by
  refine T.fn_word_of.ok sc_word_of (fun vs H Q E h => ?_) (fun cdv A outer s H vs Q E hr h => ⟨_, PSs.nox (pss_one (ps_ret (pe_op op_add (pe_op op_add (pe_op op_add (pe_op op_mul (pv 0) pe_int) (pe_op op_mul (pv 1) pe_int)) (pe_op op_mul (pv 2) pe_int)) (pv 3)))), ?_⟩)
  · obtain ⟨_, _, _, _, rfl, _⟩ := h
    rfl
  · obtain ⟨op, a, b, c, rfl, k⟩ := h
    exact ⟨_, rfl, _, _, rfl, rfl, .inr ⟨by decide, by decide⟩, _, rfl, _, _, rfl, rfl, .inr ⟨by decide, by decide⟩, _, _, rfl, rfl, _, rfl, _, _, rfl, rfl, .inr ⟨by decide, by decide⟩, _, _, rfl, rfl, _, rfl, _, _, rfl, rfl, k⟩
def partsV (x : Int) : List V := [.int (x / 4096), .int (x / 512 % 8), .int (x / 64 % 8), .int (x % 64)]
def sp_parts_of : Sp := fun vs H Q _ => ∃ x : Int, vs = [.int x] ∧ ∀ p, H p = none → Q (.ref p) (upd H p (.tup (partsV x)))
theorem ok_parts_of (T : Txt K mg) : FnOk P w K mg base CX0 1 (f_parts_of K) (fd_parts_of K) ["word"] sp_parts_of := by
  refine T.fn_parts_of.ok sc_parts_of (fun vs H Q E h => ?_) (fun cdv A outer s H vs Q E hr h => ⟨_, PSs.nox (pss_one (ps_ret (pe_tup (pa_cons (pe_op op_fdiv (pv 0) pe_int) (pa_cons (pe_op op_mod (pe_op op_fdiv (pv 0) pe_int) pe_int) (pa_cons (pe_op op_mod (pe_op op_fdiv (pv 0) pe_int) pe_int) (pa_cons (pe_op op_mod (pv 0) pe_int) pa_nil))))))), ?_⟩)
  · obtain ⟨_, rfl, _⟩ := h
    rfl
  · obtain ⟨x, rfl, k⟩ := h
    exact ⟨_, rfl, _, _, rfl, rfl, ⟨by decide, by decide⟩, _, rfl, _, _, rfl, rfl, ⟨by decide, by decide⟩, _, _, rfl, rfl, (by show (0 : Int) < 8; decide), _, rfl, _, _, rfl, rfl, ⟨by decide, by decide⟩, _, _, rfl, rfl, (by show (0 : Int) < 8; decide), _, rfl, _, _, rfl, rfl, (by show (0 : Int) < 64; decide), (by show 4 ≤ sizeLine; decide), k⟩
/-- a def of plain values: it makes objects of its own alone -/
def sp_number_in : Sp := fun vs H Q _ => ∃ (t : Str) (m : Int), vs = [.str t, .int m] ∧ t.length ≤ 20000 ∧ ∀ H', Ex H H' → Q (oV (numIn t m)) H'
theorem ok_number_in (T : Txt K mg) : FnOk P w K mg base CX0 1 (f_number_in K) (fd_number_in K) ["text", "most"] sp_number_in := by
  refine T.fn_number_in.ok sc_number_in (fun vs H Q E h => ?_) (fun cdv A outer s H vs Q E hr h => ⟨_, PSs.nox (pss_cons (ps_if (PW.pt (pw_or (pt_not (pt_chain op_le op_le pe_int (pe_callB call_len (by rfl) T.free_len PySem.boot_len (pa_cons (pv 0) pa_nil)) pe_int)) (pw_or (pt_not (pt_val (pe_callB (cr_all rfl) (by rfl) T.free_all (by decide +kernel) (pa_cons (pe_lc (own := [("sign", 2)]) (by rfl) sc_number_in.nd (pi_str (pv 0)) (blkOk_by (N := sc_number_in_N) (sc := defScope s_number_in) (own := [("sign", 2)]) (by decide +kernel)) (fun _ _ _ _ _ => (pg_name (i := 2) sc_number_in.nd rfl (Or.inl rfl))) (fun _ _ _ _ _ => pts_nil) (fun _ _ _ _ _ => (pe_cmpR op_in_sign (pv 2) (by exact T.pg_DIGITS) (by rfl)))) pa_nil)))) (pw_or1 (PW.pt (pw_and (pt_cmpR op_eq (pe_ix ix_str (pv 0) pe_int (fun _ _ => rfl)) pe_str (nomark _)) (pw_and1 (pt_cmpR op_ne (pv 0) pe_str (nomark _))))))))) (pss_one (ps_ret pe_non)) pss_nil) (pss_one (ps_ret (pe_ifExp (pt_cmpR op_le (pe_callTy call_int_str (by rfl) T.free_int (by decide +kernel) (pa_cons (pv 0) pa_nil)) (pv 1) (nomark _)) (pe_callTy call_int_str (by rfl) T.free_int (by decide +kernel) (pa_cons (pv 0) pa_nil)) pe_non)))), ?_⟩)
  · obtain ⟨_, _, rfl, _⟩ := h
    rfl
  · obtain ⟨t, m, rfl, hz, k⟩ := h
    have hlen : t.length = (tl t).length := len_tl t
    have hsz : t.cps.size = (tl t).length := by simp [tl]
    have hcps : t.cps.toList = tl t := rfl
    refine q_when (b := numBad t) ?_ (fun hb H1 e1 => ?_) (fun hb H1 e1 => ?_)
    · refine et_or (et_not (ev_chain ev_c (ev_lenS (ev_var rfl) (by omega)) rv_I0 ev_c rv_I0)) (fun h1 => et_or (et_not (et_B (ev_is (ev_all (bs := (tl t).map dig) ?_) ?_))) (fun h2 => et_and (et_test (ev_op (ev_op (ev_var rfl) ev_c (rv_ixS (c := (tl t).headD 0) (by omega) ?_)) ev_c (rv_eq rfl))) fun h3 => et_test (ev_op (ev_var rfl) ev_c (rv_ne rfl))))
      · have e : ((tl t).map dig).map V.bl = given t.cps.size (fun _ => true) (fun i => (fun c => V.bl (dig c)) ((tl t).getD i 0)) := by
          rw [hsz, List.map_map]
          exact (given_all (tl t) (fun c => V.bl (dig c))).symm
        rw [e]
        refine el_lcS _ _ (ev_var rfl) (by omega) (fun y => rfl) (fun i c H1 _ _ => et_yes) (fun i c H1 _ hi _ => ?_)
        have hc : (tl t).getD i 0 = c := by
          have : (tl t)[i]? = some c := by rw [tl, Array.getElem?_toList]; exact hi
          simp [List.getD, this]
        refine ev_is (ev_op (ev_var rfl) ev_c rv_inS) ?_
        show V.bl _ = V.bl (dig ((tl t).getD i 0))
        rw [hc]
        congr 1
        have e2 : (Str.ofString "0123456789").cps.toList = [48, 49, 50, 51, 52, 53, 54, 55, 56, 57] := by decide +kernel
        rw [e2]
        unfold dig
        apply decide_eq_decide.mpr
        simp
        omega
      · congr 1
        rw [List.all_map]
        rfl
      · have hne : tl t ≠ [] := by
          intro z
          rw [hlen, z] at h1
          revert h1
          decide
        rw [hcps]
        have : (tl t)[0]? = some ((tl t).headD 0) := by
          cases e : tl t with
          | nil => exact absurd e hne
          | cons a r => rfl
        exact atI_nat (j := 0) this
    · refine s_ret ev_c fun H2 e2 => ?_
      have e : numIn t m = none := if_pos hb
      have := k H2 (e1.trans e2)
      rw [e] at this
      exact this
    · have h3 := hb
      unfold numBad at h3
      simp only [Bool.or_eq_false_iff, Bool.not_eq_false', Bool.and_eq_true, decide_eq_true_eq] at h3
      obtain ⟨⟨h4, h5⟩, h6, h7⟩ := h3
      have hi : PySem.intText? t = some ((NumText.digitsVal (tl t) : Nat) : Int) := intText_digits (fun c hc => by
        have := List.all_eq_true.mp h6 c hc
        unfold dig at this
        simpa using this) (fun z => by rw [hlen, show tl t = [] from z] at h4; revert h4; decide) (by omega)
      refine s_ret (v := oV (numIn t m)) (ev_if (b := decide (((NumText.digitsVal (tl t) : Nat) : Int) ≤ m)) (et_test (ev_op (ev_int (ev_var rfl) hi (by omega)) (ev_var rfl) rv_I0)) (fun h8 => ev_is (ev_int (ev_var rfl) hi (by omega)) ?_) (fun h8 => ev_is ev_c ?_)) fun H2 e2 => k H2 (e1.trans e2)
      · unfold numIn
        rw [if_neg (by rw [hb]; decide), if_pos (of_decide_eq_true h8)]
        rfl
      · unfold numIn
        rw [if_neg (by rw [hb]; decide), if_neg (of_decide_eq_false h8)]
        rfl
def regOk (t : Str) : Bool := decide (V.int (t.length : Int) = V.int 2) && (decide (V.str ⟨#[(tl t).headD 0]⟩ = V.str "r") && decide ((tl t).getD 1 0 ∈ (Str.ofString "01234567").cps.toList))
def regIn (t : Str) : Option Int := if regOk t = true then some (((tl t).getD 1 0 : Int) - 48) else none
def sp_register_in : Sp := fun vs H Q _ => ∃ (t : Str), vs = [.str t] ∧ t.length ≤ 20000 ∧ ∀ H', Ex H H' → Q (oV (regIn t)) H'
theorem ok_register_in (T : Txt K mg) : FnOk P w K mg base CX0 1 (f_register_in K) (fd_register_in K) ["text"] sp_register_in := by
  refine T.fn_register_in.ok sc_register_in (fun vs H Q E h => ?_) (fun cdv A outer s H vs Q E hr h => ⟨_, PSs.nox (pss_one (ps_ret (pe_ifExp (PW.pt (pw_and (pt_cmpR op_eq (pe_callB call_len (by rfl) T.free_len PySem.boot_len (pa_cons (pv 0) pa_nil)) pe_int (nomark _)) (pw_and (pt_cmpR op_eq (pe_ix ix_str (pv 0) pe_int (fun _ _ => rfl)) pe_str (nomark _)) (pw_and1 (pt_cmpR op_in_sign (pe_ix ix_str (pv 0) pe_int (fun _ _ => rfl)) pe_str (by rfl)))))) (pe_callTy call_int_str (by rfl) T.free_int (by decide +kernel) (pa_cons (pe_ix ix_str (pv 0) pe_int (fun _ _ => rfl)) pa_nil)) pe_non))), ?_⟩)
  · obtain ⟨_, rfl, _⟩ := h
    rfl
  · obtain ⟨t, rfl, hz, k⟩ := h
    have hlen : t.length = (tl t).length := len_tl t
    have at_ : ∀ j, j < (tl t).length → atI t.cps.toList (j : Int) = some ((tl t).getD j 0) := fun j hj => atI_nat (by
      show (tl t)[j]? = _
      rw [List.getD, List.getElem?_eq_getElem hj]
      rfl)
    refine s_ret (v := oV (regIn t)) (ev_if (b := regOk t) (et_and (et_test (ev_op (ev_lenS (ev_var rfl) (by omega)) ev_c (rv_eq rfl))) (fun h1 => et_and (et_test (ev_op (ev_op (ev_var rfl) ev_c (rv_ixS (c := (tl t).headD 0) (by omega) ?_)) ev_c (rv_eq rfl))) fun h2 => et_test (ev_op (ev_op (ev_var rfl) ev_c (rv_ixS (c := (tl t).getD 1 0) (by omega) (at_ 1 ?_))) ev_c rv_inS))) (fun hb => ?_) (fun hb => ev_is ev_c ?_)) fun H2 e2 => k H2 e2
    · have h2 : (t.length : Int) = 2 := V.int.inj (of_decide_eq_true h1)
      have e : (tl t).headD 0 = (tl t).getD 0 0 := by cases tl t <;> rfl
      rw [e]
      exact at_ 0 (by omega)
    · have h2 : (t.length : Int) = 2 := V.int.inj (of_decide_eq_true h1)
      omega
    · have h3 := hb
      unfold regOk at h3
      simp only [Bool.and_eq_true, decide_eq_true_eq] at h3
      obtain ⟨h4, h5, h6⟩ := h3
      have h2 : (t.length : Int) = 2 := V.int.inj h4
      have e2 : (Str.ofString "01234567").cps.toList = [48, 49, 50, 51, 52, 53, 54, 55] := by decide +kernel
      rw [e2] at h6
      generalize hc : (tl t).getD 1 0 = c at h6
      have hc2 : 48 ≤ c ∧ c ≤ 55 := by simp at h6; omega
      refine ev_is (ev_int (a := ⟨#[c]⟩) (n := (c : Int) - 48) (ev_op (ev_var rfl) ev_c (rv_ixS (c := c) (by omega) (by rw [← hc]; exact at_ 1 (by omega)))) ?_ (by show 1 ≤ 640; decide)) ?_
      · have : PySem.intText? (⟨#[c]⟩ : Str) = some ((NumText.digitsVal [c] : Nat) : Int) := intText_digits (x := ⟨#[c]⟩) (fun d hd => by
          have : d = c := by simpa using hd
          subst this
          omega) (by simp) (by show 1 ≤ 4300; decide)
        rw [this]
        have e3 : NumText.digitsVal [c] = c - 48 := by simp [NumText.digitsVal]
        rw [e3]
        congr 1
        omega
      · unfold regIn
        rw [if_pos hb, hc]
        rfl
    · unfold regIn
      rw [if_neg (by rw [hb]; decide)]
      rfl
end
end KD

namespace KD
open KA
open PySem PySem.Spec PyProof.Rows L2 Evl TL
section
variable {σ : L2.St} {H : Hp} {K : PySem.W.Frag} {D : Ends}
/-- s.split(x), a new list of texts -/
theorem el_split {a b : Str} {to te : TE} (ho : Ev to σ H (.str a)) (he : Ev te σ H (.str b)) (hb : (b.length == 0) = false) (hz : a.length ≤ 100000) :
    EvL (tM1 (fun x xs H Q => ∃ a b, x = .str a ∧ xs = [.str b] ∧ (b.length == 0) = false ∧ a.length + 2 ≤ sizeLine ∧ rNewStrs (Txt.split a b) H Q) to te) σ H ((Txt.split a b).map V.str) := fun H1 e Q q =>
  ho H1 e _ fun H2 e2 => ⟨⟨a, rfl⟩, he H2 (e.trans e2) _ fun H3 e3 => ⟨a, b, rfl, rfl, hb, Nat.le_trans (Nat.add_le_add_right hz 2) (by rw [sizeLine_eq]; decide), fun p hp => q p _ (fresh_back (e2.trans e3) hp) ((e2.trans e3).trans (Ex.new hp)) upd_same⟩⟩
/-- i, j = a, b: a a value, b a new list -/
theorem q_parVL {i j : Nat} {ta tb : TE} {tz : TS} {v : V} {xs : List V} (ha : Ev ta σ H v) (hb : EvL tb σ H xs) (k : ∀ p H1, H p = none → Ex H H1 → H1 p = some (.lst xs) → tz D ((σ.set i (some v)).set j (some (.ref p))) H1) :
    tSeq (tPar i j (tCons ta (tCons tb tNil))) tz D σ H := ha H (Ex.refl H) _ fun H1 e1 => hb H1 e1 _ fun p H2 hp e2 h2 => ⟨v, .ref p, rfl, k p H2 (fresh_back e1 hp) (e1.trans e2) h2⟩
theorem q_parVV {i j : Nat} {ta tb : TE} {tz : TS} {v w : V} (ha : Ev ta σ H v) (hb : Ev tb σ H w) (k : ∀ H1, Ex H H1 → tz D ((σ.set i (some v)).set j (some w)) H1) :
    tSeq (tPar i j (tCons ta (tCons tb tNil))) tz D σ H := ha H (Ex.refl H) _ fun H1 e1 => hb H1 e1 _ fun H2 e2 => ⟨v, w, rfl, k H2 (e1.trans e2)⟩
/-- tuple.index of texts -/
theorem ev_tidx {to te : TE} {p : Addr} {ys : List Str} {z : Str} {j : Nat} (ho : Ev to σ H (.ref p)) (ty : ∀ H, tyV K "tuple" (.ref p) H) (he : Ev te σ H (.str z)) (hs : ∀ H, SqT K H p (ys.map V.str)) (hj : ys[j]? = some z) (hm : ∀ m, m < j → ys[m]? ≠ some z) :
    Ev (tBM K "tuple" (fun x xs H Q => ∃ p, ∃ ys : List Str, ∃ z j, x = .ref p ∧ xs = [.str z] ∧ SqT K H p (ys.map V.str) ∧ ys[j]? = some z ∧ (∀ m, m < j → ys[m]? ≠ some z) ∧ Q (.int (j : Nat)) H) to (tCons te tNil)) σ H (.int (j : Int)) := fun H1 e Q q =>
  ho H1 e _ fun H2 e2 => ⟨ty H2, he H2 (e.trans e2) _ fun H3 e3 => ⟨p, ys, z, j, rfl, rfl, hs H3, hj, hm, q H3 (e2.trans e3)⟩⟩
theorem rv_isN {x : V} : RV (fun x y H Q => y = .non ∧ Q (.bl (decide (x = .non))) H) x .non H (.bl (decide (x = .non))) := fun H1 _ _ q => ⟨rfl, q H1 (Ex.refl H1)⟩
theorem rv_notN {x : V} : RV (fun x y H Q => y = .non ∧ Q (.bl (!decide (x = .non))) H) x .non H (.bl (!decide (x = .non))) := fun H1 _ _ q => ⟨rfl, q H1 (Ex.refl H1)⟩
/-- truth of a list -/
theorem et_truL {te : TE} {p : Addr} {xs : List V} (h : Ev te σ H (.ref p)) (hs : SqL K H p xs) : EvT (fun σ H Q => te σ H fun x H' => ∃ k, TruV K x H' k ∧ Q k H') σ H (!xs.isEmpty) := fun H1 e Q q =>
  h H1 e _ fun H2 e2 => ⟨_, .inl ⟨xs, ex_l (e.trans e2) hs, rfl⟩, q H2 e2⟩
theorem ev_pure {sp : Sp} {dvs vs : List V} {E : XK} {ta : TA} {z : V} (h : EvA ta σ H vs) (hs : ∀ H1, Ex H H1 → ∀ Q : VK, (∀ H2, Ex H1 H2 → Q z H2) → sp (vs ++ dvs) H1 Q E) : Ev (tCall sp dvs E ta) σ H z := fun H1 e Q q =>
  h H1 e _ fun H2 e2 => hs H2 (e.trans e2) Q fun H3 e3 => q H3 (e2.trans e3)
end

/-! the parts of a text -/
theorem spl_ne (S : List Nat) : ∀ (l : List Nat) (k : Nat) (acc : List Nat), spl S k acc l ≠ []
  | [], k, acc => by rw [spl_nil]; simp
  | c :: r, 0, acc => by
    cases h : pre S (c :: r) with
    | true => rw [spl_hit h]; simp
    | false => rw [spl_miss h]; exact spl_ne S r 0 _
  | c :: r, k + 1, acc => by
    rw [spl_pass]
    exact spl_ne S ((c :: r).drop (k + 1)) 0 acc
termination_by l k _ => (l.length, k)
decreasing_by all_goals simp_wf; all_goals first | omega | (simp; omega)
theorem spl_len (S : List Nat) : ∀ (l : List Nat) (k : Nat) (acc : List Nat), ∀ p ∈ spl S k acc l, p.length ≤ acc.length + l.length
  | [], k, acc, p, h => by
    rw [spl_nil] at h
    have : p = acc := by simpa using h
    rw [this]
    omega
  | c :: r, 0, acc, p, h => by
    cases e : pre S (c :: r) with
    | true =>
      rw [spl_hit e] at h
      rcases List.mem_cons.mp h with rfl | h
      · omega
      · have := spl_len S r _ [] p h
        simp at this ⊢
        omega
    | false =>
      rw [spl_miss e] at h
      have := spl_len S r 0 _ p h
      simp at this ⊢
      omega
  | c :: r, k + 1, acc, p, h => by
    rw [spl_pass] at h
    have := spl_len S ((c :: r).drop (k + 1)) 0 acc p h
    simp at this ⊢
    omega
termination_by l k _ => (l.length, k)
decreasing_by all_goals simp_wf; all_goals first | omega | (simp; omega)
theorem spl_many (S : List Nat) : ∀ (l : List Nat) (k : Nat) (acc : List Nat), (spl S k acc l).length ≤ 1 + l.length
  | [], k, acc => by rw [spl_nil]; simp
  | c :: r, 0, acc => by
    cases e : pre S (c :: r) with
    | true =>
      rw [spl_hit e]
      have := spl_many S r (S.length - 1) []
      simp at this ⊢
      omega
    | false =>
      rw [spl_miss e]
      have := spl_many S r 0 (acc ++ [c])
      simp at this ⊢
      omega
  | c :: r, k + 1, acc => by
    rw [spl_pass]
    have := spl_many S ((c :: r).drop (k + 1)) 0 acc
    simp at this ⊢
    omega
termination_by l k _ => (l.length, k)
decreasing_by all_goals simp_wf; all_goals first | omega | (simp; omega)
theorem tl_sp : tl (" " : Str) = [32] := by decide +kernel
theorem tl_nl : tl ("\n" : Str) = [10] := by decide +kernel
theorem sp_spl (t : Str) : (Txt.split t " ").map tl = spl [32] 0 [] (tl t) := by
  have := split_spl t " " (by rw [tl_sp]; simp) (kind_ok (by decide +kernel))
  rw [tl_sp] at this
  exact this
theorem nl_spl (t : Str) : (Txt.split t "\n").map tl = spl [10] 0 [] (tl t) := by
  have := split_spl t "\n" (by rw [tl_nl]; simp) (kind_ok (by decide +kernel))
  rw [tl_nl] at this
  exact this
theorem parts_ne {x y : Str} {c : Nat} (e : (Txt.split x y).map tl = spl [c] 0 [] (tl x)) : Txt.split x y ≠ [] := by
  intro z
  rw [z] at e
  exact spl_ne _ _ _ _ e.symm
theorem parts_len {x y : Str} {c : Nat} (e : (Txt.split x y).map tl = spl [c] 0 [] (tl x)) {p : Str} (h : p ∈ Txt.split x y) : p.length ≤ x.length := by
  have := spl_len [c] (tl x) 0 [] (tl p) (by rw [← e]; exact List.mem_map_of_mem h)
  rw [len_tl, len_tl]
  simpa using this
theorem parts_many {x y : Str} {c : Nat} (e : (Txt.split x y).map tl = spl [c] 0 [] (tl x)) : (Txt.split x y).length ≤ x.length + 1 := by
  have := spl_many [c] (tl x) 0 []
  rw [← e, List.length_map] at this
  rw [len_tl]
  omega
/-! ### word_in -/
def NM : List Str := ["halt", "set", "add", "sub", "load", "store", "jump", "zero", "mul", "less", "trap", "and"]
def TR : List Str := ["yield", "send", "receive", "call", "reply", "signal", "wait", "mint", "move", "revoke", "delete", "retype", "map", "unmap", "bind", "resume", "suspend", "registers", "order", "status"]
theorem NM_v : v_NAMES = NM.map V.str := rfl
theorem TR_v : v_TRAPS = TR.map V.str := rfl
def idx (l : List Str) (z : Str) : Nat := l.findIdx fun y => decide (y = z)
theorem eqV_str (a b : Str) : eqV (.str a) (.str b) = decide (a = b) := by
  show (a == b) = _
  rw [← dec_str]
  exact decide_eq_decide.mpr ⟨fun h => V.str.inj h, fun h => congrArg V.str h⟩
theorem inV_str (z : Str) : ∀ l : List Str, inV (.str z) (l.map V.str) = l.any fun y => decide (y = z)
  | [] => rfl
  | y :: r => by
    have ih := inV_str z r
    unfold inV at ih ⊢
    rw [List.map_cons, List.any_cons, List.any_cons, ih, eqV_str]
theorem idx_at {l : List Str} {z : Str} (h : inV (.str z) (l.map V.str) = true) : l[idx l z]? = some z ∧ ∀ m, m < idx l z → l[m]? ≠ some z := by
  rw [inV_str, List.any_eq_true] at h
  have hlt : idx l z < l.length := List.findIdx_lt_length.mpr (by
    obtain ⟨y, hy, e⟩ := h
    exact ⟨y, hy, e⟩)
  refine ⟨?_, fun m hm e => ?_⟩
  · have := List.findIdx_getElem (w := hlt)
    rw [List.getElem?_eq_getElem hlt]
    exact congrArg some (of_decide_eq_true this)
  · have hml : m < l.length := by omega
    have := List.not_of_lt_findIdx (p := fun y => decide (y = z)) (xs := l) hm
    rw [List.getElem?_eq_getElem hml] at e
    simp at this
    exact this (Option.some.inj e)
def wd (op a b c : Int) : Int := op * 4096 + a * 512 + b * 64 + c
theorem bF {b : Bool} (h : b = false) : ¬ b = true := by rw [h]; decide
def wordOf (w0 : Str) (rest : List Str) : Option Int :=
  if (decide (V.int (((w0 :: rest).length : Nat) : Int) = V.int 1) && !decide (V.str w0 = V.str "halt")) = true then numIn w0 65535
  else if (!inV (.str w0) v_NAMES) = true then none
  else if decide (V.str w0 = V.str "halt") = true then (if (!(!rest.isEmpty)) = true then some 0 else none)
  else if decide (V.str w0 = V.str "trap") = true then
    (if inV (.str (if decide (V.int (rest.length : Int) = V.int 1) = true then rest.headD "" else "")) v_TRAPS = true then some (idx TR (if decide (V.int (rest.length : Int) = V.int 1) = true then rest.headD "" else "") : Int)
      else numIn (if decide (V.int (rest.length : Int) = V.int 1) = true then rest.headD "" else "") 63).map fun n => wd (idx NM w0) 0 0 n
  else if decide (V.str w0 = V.str "jump") = true then
    (if decide (V.int (rest.length : Int) = V.int 1) = true then numIn (rest.headD "") 511 else none).map fun n => wd (idx NM w0) 0 (n / 64) (n % 64)
  else if inV (.str w0) [.str "set", .str "zero"] = true then
    (if decide (V.int (rest.length : Int) = V.int 2) = true then
      (regIn (rest.headD "")).bind fun a => (numIn (rest.getD 1 "") 511).map fun n => wd (idx NM w0) a (n / 64) (n % 64) else none)
  else if (!decide (V.int (rest.length : Int) = V.int 3)) = true then none
  else (regIn (rest.headD "")).bind fun a => (regIn (rest.getD 1 "")).bind fun b => (if inV (.str w0) [.str "load", .str "store"] = true then numIn (rest.getD 2 "") 63 else regIn (rest.getD 2 "")).map fun c => wd (idx NM w0) a b c
def wordIn (t : Str) : Option Int := match Txt.split t " " with
  | w0 :: rest => wordOf w0 rest
  | [] => none
section
variable {σ : L2.St} {H : Hp}
theorem ev_num {ta tb : TE} {E : XK} {t : Str} {m : Int} (ha : Ev ta σ H (.str t)) (hb : Ev tb σ H (.int m)) (hz : t.length ≤ 20000) : Ev (tCall sp_number_in [] E (tCons ta (tCons tb tNil))) σ H (oV (numIn t m)) :=
  ev_pure (ea_cons ha (ea_cons hb ea_nil)) fun H1 _ Q q => ⟨t, m, rfl, hz, q⟩
theorem ev_reg {ta : TE} {E : XK} {t : Str} (ha : Ev ta σ H (.str t)) (hz : t.length ≤ 20000) : Ev (tCall sp_register_in [] E (tCons ta tNil)) σ H (oV (regIn t)) :=
  ev_pure (ea_cons ha ea_nil) fun H1 _ Q q => ⟨t, rfl, hz, q⟩
theorem ev_wd {ta tb tc td : TE} {E : XK} {op a b c : Int} (h1 : Ev ta σ H (.int op)) (h2 : Ev tb σ H (.int a)) (h3 : Ev tc σ H (.int b)) (h4 : Ev td σ H (.int c)) : Ev (tCall sp_word_of [] E (tCons ta (tCons tb (tCons tc (tCons td tNil))))) σ H (.int (wd op a b c)) :=
  ev_pure (ea_cons h1 (ea_cons h2 (ea_cons h3 (ea_cons h4 ea_nil)))) fun H1 _ Q q => ⟨op, a, b, c, rfl, q H1 (Ex.refl H1)⟩
theorem oV_non {o : Option Int} : decide (oV o = .non) = o.isNone := by
  cases o with
  | none => rfl
  | some i => exact decide_eq_false (fun z => by cases z)
theorem ev_div {ta tb : TE} {i j : Int} (ha : Ev ta σ H (.int i)) (hb : Ev tb σ H (.int j)) (h : 0 < j ∧ j < 1073741824) : Ev (tOp (rI CDiv fun i j => .int (i / j)) ta tb) σ H (.int (i / j)) := ev_op ha hb (rv_I h)
theorem ev_mod {ta tb : TE} {i j : Int} (ha : Ev ta σ H (.int i)) (hb : Ev tb σ H (.int j)) (h : 0 < j) : Ev (tOp (rI (fun _ j => 0 < j) fun i j => .int (i % j)) ta tb) σ H (.int (i % j)) := ev_op ha hb (rv_I h)
end
section
variable {P : Program} {w : World} {K : PySem.W.Frag} {mg : Str → Option Value} {base : Heap}
def sp_word_in : Sp := fun vs H Q _ => ∃ (t : Str), vs = [.str t] ∧ t.length ≤ 20000 ∧ ∀ H', Ex H H' → Q (oV (wordIn t)) H'
theorem ok_word_in (T : Txt K mg) : FnOk P w K mg base CX0 2 (f_word_in K) (fd_word_in K) ["text"] sp_word_in := by
  refine T.fn_word_in.ok sc_word_in (fun vs H Q E h => ?_) (fun cdv A outer s H vs Q E hr h => ⟨_, PSs.nox (pss_cons (ps_set (i := 1) sc_word_in.nd rfl (Or.inl rfl) (pe_split (pv 0) pe_str)) (pss_cons (ps_if (PW.pt (pw_and (pt_cmpR op_eq (pe_callB call_len (by rfl) T.free_len PySem.boot_len (pa_cons (pv 1) pa_nil)) pe_int (nomark _)) (pw_and1 (pt_cmpR op_ne (pe_ix ix_list (pv 1) pe_int (fun _ _ => rfl)) pe_str (nomark _))))) (pss_one (ps_ret (pe_call (ok_number_in T) (hr.mono (by decide)) (by rfl) (T.glo_number_in) (T.kp_number_in) (T.bd_number_in) .nil pass0 (pa_cons (pe_ix ix_list (pv 1) pe_int (fun _ _ => rfl)) (pa_cons pe_int pa_nil))))) pss_nil) (pss_cons (ps_if (pt_cmpR op_notIn_seq (pe_ix ix_list (pv 1) pe_int (fun _ _ => rfl)) (T.pg_NAMES) (by rfl)) (pss_one (ps_ret pe_non)) pss_nil) (pss_cons (ps_par (i := 2) (j := 3) (by rfl) sc_word_in.nd rfl rfl (by decide) rfl rfl (pa_cons (pe_bm PySem.F.plainAttrs_tuple PySem.F.slot_tuple_index PySem.F.type_tuple_index mt_tup_index (T.pg_NAMES) (pa_cons (pe_ix ix_list (pv 1) pe_int (fun _ _ => rfl)) pa_nil)) (pa_cons (pe_slice sl_list (pv 1) (po_some pe_int) po_none) pa_nil)) (by rfl)) (pss_cons (ps_if (pt_cmpR op_eq (pe_ix ix_list (pv 1) pe_int (fun _ _ => rfl)) pe_str (nomark _)) (pss_one (ps_ret (pe_ifExp (pt_not (pt_truth (pv 3) (by intro _; rfl))) pe_int pe_non))) pss_nil) (pss_cons (ps_if (pt_cmpR op_eq (pe_ix ix_list (pv 1) pe_int (fun _ _ => rfl)) pe_str (nomark _)) (pss_cons (ps_set (i := 4) sc_word_in.nd rfl (Or.inl rfl) (pe_ifExp (pt_cmpR op_eq (pe_callB call_len (by rfl) T.free_len PySem.boot_len (pa_cons (pv 3) pa_nil)) pe_int (nomark _)) (pe_ix ix_list (pv 3) pe_int (fun _ _ => rfl)) pe_str)) (pss_cons (ps_set (i := 5) sc_word_in.nd rfl (Or.inl rfl) (pe_ifExp (pt_cmpR op_in_seq (pv 4) (T.pg_TRAPS) (by rfl)) (pe_bm PySem.F.plainAttrs_tuple PySem.F.slot_tuple_index PySem.F.type_tuple_index mt_tup_index (T.pg_TRAPS) (pa_cons (pv 4) pa_nil)) (pe_call (ok_number_in T) (hr.mono (by decide)) (by rfl) (T.glo_number_in) (T.kp_number_in) (T.bd_number_in) .nil pass0 (pa_cons (pv 4) (pa_cons pe_int pa_nil))))) (pss_one (ps_ret (pe_ifExp (pt_cmpR op_isN (pv 5) pe_non (nomark _)) pe_non (pe_call (ok_word_of T) (hr.mono (by decide)) (by rfl) (T.glo_word_of) (T.kp_word_of) (T.bd_word_of) .nil pass0 (pa_cons (pv 2) (pa_cons pe_int (pa_cons pe_int (pa_cons (pv 5) pa_nil)))))))))) pss_nil) (pss_cons (ps_if (pt_cmpR op_eq (pe_ix ix_list (pv 1) pe_int (fun _ _ => rfl)) pe_str (nomark _)) (pss_cons (ps_set (i := 5) sc_word_in.nd rfl (Or.inl rfl) (pe_ifExp (pt_cmpR op_eq (pe_callB call_len (by rfl) T.free_len PySem.boot_len (pa_cons (pv 3) pa_nil)) pe_int (nomark _)) (pe_call (ok_number_in T) (hr.mono (by decide)) (by rfl) (T.glo_number_in) (T.kp_number_in) (T.bd_number_in) .nil pass0 (pa_cons (pe_ix ix_list (pv 3) pe_int (fun _ _ => rfl)) (pa_cons pe_int pa_nil))) pe_non)) (pss_one (ps_ret (pe_ifExp (pt_cmpR op_isN (pv 5) pe_non (nomark _)) pe_non (pe_call (ok_word_of T) (hr.mono (by decide)) (by rfl) (T.glo_word_of) (T.kp_word_of) (T.bd_word_of) .nil pass0 (pa_cons (pv 2) (pa_cons pe_int (pa_cons (pe_op op_fdiv (pv 5) pe_int) (pa_cons (pe_op op_mod (pv 5) pe_int) pa_nil))))))))) pss_nil) (pss_cons (ps_if (pt_cmpR op_in_seq (pe_ix ix_list (pv 1) pe_int (fun _ _ => rfl)) (pe_tup (pa_cons pe_str (pa_cons pe_str pa_nil))) (by rfl)) (pss_cons (ps_asg (pe_ifExp (pt_cmpR op_eq (pe_callB call_len (by rfl) T.free_len PySem.boot_len (pa_cons (pv 3) pa_nil)) pe_int (nomark _)) (pe_tup (pa_cons (pe_call (ok_register_in T) (hr.mono (by decide)) (by rfl) (T.glo_register_in) (T.kp_register_in) (T.bd_register_in) .nil pass0 (pa_cons (pe_ix ix_list (pv 3) pe_int (fun _ _ => rfl)) pa_nil)) (pa_cons (pe_call (ok_number_in T) (hr.mono (by decide)) (by rfl) (T.glo_number_in) (T.kp_number_in) (T.bd_number_in) .nil pass0 (pa_cons (pe_ix ix_list (pv 3) pe_int (fun _ _ => rfl)) (pa_cons pe_int pa_nil))) pa_nil))) (pe_tup (pa_cons pe_non (pa_cons pe_non pa_nil)))) (pg_tup (by rfl) (pgs_cons (pg_name (i := 6) sc_word_in.nd rfl (Or.inl rfl)) (pgs_cons (pg_name (i := 5) sc_word_in.nd rfl (Or.inl rfl)) pgs_nil)))) (pss_one (ps_ret (pe_ifExp (PW.pt (pw_or (pt_cmpR op_isN (pv 6) pe_non (nomark _)) (pw_or1 (pt_cmpR op_isN (pv 5) pe_non (nomark _))))) pe_non (pe_call (ok_word_of T) (hr.mono (by decide)) (by rfl) (T.glo_word_of) (T.kp_word_of) (T.bd_word_of) .nil pass0 (pa_cons (pv 2) (pa_cons (pv 6) (pa_cons (pe_op op_fdiv (pv 5) pe_int) (pa_cons (pe_op op_mod (pv 5) pe_int) pa_nil))))))))) pss_nil) (pss_cons (ps_if (pt_cmpR op_ne (pe_callB call_len (by rfl) T.free_len PySem.boot_len (pa_cons (pv 3) pa_nil)) pe_int (nomark _)) (pss_one (ps_ret pe_non)) pss_nil) (pss_cons (ps_par (i := 6) (j := 7) (by rfl) sc_word_in.nd rfl rfl (by decide) rfl rfl (pa_cons (pe_call (ok_register_in T) (hr.mono (by decide)) (by rfl) (T.glo_register_in) (T.kp_register_in) (T.bd_register_in) .nil pass0 (pa_cons (pe_ix ix_list (pv 3) pe_int (fun _ _ => rfl)) pa_nil)) (pa_cons (pe_call (ok_register_in T) (hr.mono (by decide)) (by rfl) (T.glo_register_in) (T.kp_register_in) (T.bd_register_in) .nil pass0 (pa_cons (pe_ix ix_list (pv 3) pe_int (fun _ _ => rfl)) pa_nil)) pa_nil)) (by rfl)) (pss_cons (ps_set (i := 8) sc_word_in.nd rfl (Or.inl rfl) (pe_ifExp (pt_cmpR op_in_seq (pe_ix ix_list (pv 1) pe_int (fun _ _ => rfl)) (pe_tup (pa_cons pe_str (pa_cons pe_str pa_nil))) (by rfl)) (pe_call (ok_number_in T) (hr.mono (by decide)) (by rfl) (T.glo_number_in) (T.kp_number_in) (T.bd_number_in) .nil pass0 (pa_cons (pe_ix ix_list (pv 3) pe_int (fun _ _ => rfl)) (pa_cons pe_int pa_nil))) (pe_call (ok_register_in T) (hr.mono (by decide)) (by rfl) (T.glo_register_in) (T.kp_register_in) (T.bd_register_in) .nil pass0 (pa_cons (pe_ix ix_list (pv 3) pe_int (fun _ _ => rfl)) pa_nil)))) (pss_one (ps_ret (pe_ifExp (PW.pt (pw_or (pt_cmpR op_isN (pv 6) pe_non (nomark _)) (pw_or (pt_cmpR op_isN (pv 7) pe_non (nomark _)) (pw_or1 (pt_cmpR op_isN (pv 8) pe_non (nomark _)))))) pe_non (pe_call (ok_word_of T) (hr.mono (by decide)) (by rfl) (T.glo_word_of) (T.kp_word_of) (T.bd_word_of) .nil pass0 (pa_cons (pv 2) (pa_cons (pv 6) (pa_cons (pv 7) (pa_cons (pv 8) pa_nil))))))))))))))))))), ?_⟩)
  · obtain ⟨_, rfl, _⟩ := h
    rfl
  · obtain ⟨t, rfl, hz, k⟩ := h
    have e32 := sp_spl t
    have hne := parts_ne e32
    have hpl : ∀ q ∈ Txt.split t " ", q.length ≤ 20000 := fun q hq => Nat.le_trans (parts_len e32 hq) hz
    obtain ⟨w0, rest, hws⟩ : ∃ w0 rest, Txt.split t " " = w0 :: rest := List.exists_cons_of_ne_nil hne
    have hl0 : w0.length ≤ 20000 := hpl w0 (by rw [hws]; exact List.mem_cons_self)
    have hlr : ∀ q ∈ rest, q.length ≤ 20000 := fun q hq => hpl q (by rw [hws]; exact List.mem_cons_of_mem _ hq)
    have hW : wordIn t = wordOf w0 rest := by
      unfold wordIn
      rw [hws]
    unfold wordOf at hW
    refine q_asgL (el_split (ev_var rfl) ev_c (by rfl) (by omega)) fun p H1 hp e1 h1 => ?_
    rw [hws] at h1
    have W0 : ∀ {σ : L2.St}, σ[1]? = some (some (.ref p)) → Ev (tOp (rIxL K) (tVar 1) (tC (.int 0))) σ H1 (.str w0) := fun h => ev_op (ev_var h) ev_c (rv_ixL (sq_of h1) (atI_nat (j := 0) rfl))
    refine q_when (b := decide (V.int (((w0 :: rest).length : Nat) : Int) = V.int 1) && !decide (V.str w0 = V.str "halt")) (et_and (et_test (ev_op (ev_is (ev_lenL (ev_var rfl) (sq_of h1)) (by rw [List.length_map])) ev_c (rv_eq rfl))) fun _ => et_test (ev_op (W0 rfl) ev_c (rv_ne rfl))) (fun hb H2 e2 => ?_) (fun hb H2 e2 => ?_)
    · replace hW := hW.trans (if_pos hb)
      exact s_ret ((ev_num (W0 rfl) ev_c hl0).mono e2) fun H3 e3 => by rw [← hW]; exact k H3 ((e1.trans e2).trans e3)
    replace hW := hW.trans (if_neg (bF hb))
    refine q_when (b := !inV (.str w0) v_NAMES) (et_test (ev_op ((W0 rfl).mono e2) ev_c (rv_niT (T.tup_NAMES _) rfl (by decide +kernel)))) (fun hb H3 e3 => ?_) (fun hb H3 e3 => ?_)
    · replace hW := hW.trans (if_pos hb)
      exact s_ret ev_c fun H4 e4 => by
        have := k H4 (((e1.trans e2).trans e3).trans e4)
        rw [hW] at this
        exact this
    replace hW := hW.trans (if_neg (bF hb))
    have hin : inV (.str w0) (NM.map V.str) = true := by
      rw [← NM_v]
      simpa using hb
    obtain ⟨hi1, hi2⟩ := idx_at hin
    refine q_parVL (ev_tidx (ys := NM) ev_c (fun H => T.ty_NAMES H) ((W0 rfl).mono (e2.trans e3)) (fun H => T.tup_NAMES H) hi1 hi2) (el_sl (ev_var rfl) (eo_some ev_c) eo_none (ex_l (e2.trans e3) (sq_of h1))) fun r H4 hr4 e4 h4 => ?_
    have e14 : Ex H1 H4 := (e2.trans e3).trans e4
    have k4 : ∀ H', Ex H4 H' → Q (oV (wordIn t)) H' := fun H' e => k H' ((e1.trans e14).trans e)
    have W4 : ∀ {σ : L2.St}, σ[1]? = some (some (.ref p)) → Ev (tOp (rIxL K) (tVar 1) (tC (.int 0))) σ H4 (.str w0) := fun h => (W0 h).mono e14
    clear W0
    have h4' : H4 r = some (.lst (rest.map V.str)) := by
      rw [h4, List.map_cons]
      congr 2
      unfold cutV HT.sIx
      simp
      exact List.take_of_length_le (by simp)
    clear h4
    have LR : ∀ {σ : L2.St}, σ[3]? = some (some (.ref r)) → Ev (tCB (fun xs H Q => ∃ x n, xs = [x] ∧ LenV K x H n ∧ Q (.int n) H) (tCons (tVar 3) tNil)) σ H4 (.int (rest.length : Int)) := fun h => ev_is (ev_lenL (ev_var h) (sq_of h4')) (by rw [List.length_map])
    have RX : ∀ {σ : L2.St} (i : Nat), σ[3]? = some (some (.ref r)) → i < rest.length → Ev (tOp (rIxL K) (tVar 3) (tC (.int (i : Int)))) σ H4 (.str (rest.getD i "")) := fun i h hi => ev_op (ev_var h) ev_c (rv_ixL (sq_of h4') (atI_nat (j := i) (by
      rw [List.getElem?_map, List.getElem?_eq_getElem hi, List.getD, List.getElem?_eq_getElem hi]
      rfl)))
    have RL : ∀ (i : Nat), i < rest.length → (rest.getD i "").length ≤ 20000 := fun i hi => hlr _ (by
      rw [List.getD, List.getElem?_eq_getElem hi]
      exact List.getElem_mem hi)
    have e0 : rest.headD "" = rest.getD 0 "" := by cases rest <;> rfl
    rw [e0] at hW
    -- halt
    refine q_when (b := decide (V.str w0 = V.str "halt")) (et_test (ev_op (W4 rfl) ev_c (rv_eq rfl))) (fun hb H5 e5 => ?_) (fun hb H5 e5 => ?_)
    · replace hW := hW.trans (if_pos hb)
      refine s_ret (v := oV (wordIn t)) (ev_if (b := !(!rest.isEmpty)) (et_not (et_is (et_truL (ev_var rfl) (ex_l e5 (sq_of h4'))) (by rw [List.isEmpty_map]))) (fun h => ev_is ev_c ?_) (fun h => ev_is ev_c ?_)) fun H6 e6 => k4 H6 (e5.trans e6)
      · rw [hW.trans (if_pos h)]
        rfl
      · rw [hW.trans (if_neg (bF h))]
        rfl
    replace hW := hW.trans (if_neg (bF hb))
    -- trap
    refine q_when (b := decide (V.str w0 = V.str "trap")) (et_test (ev_op ((W4 rfl).mono e5) ev_c (rv_eq rfl))) (fun hb H6 e6 => ?_) (fun hb H6 e6 => ?_)
    · replace hW := hW.trans (if_pos hb)
      have e46 := e5.trans e6
      refine q_asg (v := .str (if decide (V.int (rest.length : Int) = V.int 1) = true then rest.getD 0 "" else "")) (ev_if (et_test (ev_op ((LR rfl).mono e46) ev_c (rv_eq rfl))) (fun h => ?_) (fun h => ?_)) fun H7 e7 => ?_
      · rw [if_pos h]
        have : (rest.length : Int) = 1 := V.int.inj (of_decide_eq_true h)
        exact (RX 0 rfl (by omega)).mono e46
      · rw [if_neg (bF h)]
        exact ev_c
      have hown : (if decide (V.int (rest.length : Int) = V.int 1) = true then rest.getD 0 "" else "").length ≤ 20000 := by
        by_cases h : decide (V.int (rest.length : Int) = V.int 1) = true
        · rw [if_pos h]
          have : (rest.length : Int) = 1 := V.int.inj (of_decide_eq_true h)
          exact RL 0 (by omega)
        · rw [if_neg h]
          decide
      generalize (if decide (V.int (rest.length : Int) = V.int 1) = true then rest.getD 0 "" else "") = own at hW hown ⊢
      refine q_asg (v := oV (if inV (.str own) v_TRAPS = true then some (idx TR own : Int) else numIn own 63)) (ev_if (b := inV (.str own) v_TRAPS) (et_test (ev_op (ev_var rfl) ev_c (rv_isT (T.tup_TRAPS _) rfl (by decide +kernel)))) (fun h => ?_) (fun h => ?_)) fun H8 e8 => ?_
      · rw [if_pos h]
        obtain ⟨i1, i2⟩ := idx_at (l := TR) (by rw [← TR_v]; exact h)
        exact ev_tidx (ys := TR) ev_c (fun H => T.ty_TRAPS H) (ev_var rfl) (fun H => T.tup_TRAPS H) i1 i2
      · rw [if_neg (bF h)]
        exact ev_num (ev_var rfl) ev_c hown
      generalize (if inV (.str own) v_TRAPS = true then some (idx TR own : Int) else numIn own 63) = number at hW ⊢
      refine s_ret (v := oV (wordIn t)) (ev_if (b := number.isNone) (et_is (et_test (ev_op (ev_var rfl) ev_c rv_isN)) oV_non) (fun h => ev_is ev_c ?_) (fun h => ?_)) fun H9 e9 => k4 H9 (((e46.trans e7).trans e8).trans e9)
      · rw [hW, Option.isNone_iff_eq_none.mp h]
        rfl
      · obtain ⟨n, rfl⟩ : ∃ n, number = some n := by
          cases number with
          | none => cases h
          | some n => exact ⟨n, rfl⟩
        rw [hW]
        exact ev_wd (ev_var rfl) ev_c ev_c (ev_var rfl)
    replace hW := hW.trans (if_neg (bF hb))
    have e46 := e5.trans e6
    -- jump
    refine q_when (b := decide (V.str w0 = V.str "jump")) (et_test (ev_op ((W4 rfl).mono e46) ev_c (rv_eq rfl))) (fun hb H7 e7 => ?_) (fun hb H7 e7 => ?_)
    · replace hW := hW.trans (if_pos hb)
      have e47 := e46.trans e7
      refine q_asg (v := oV (if decide (V.int (rest.length : Int) = V.int 1) = true then numIn (rest.getD 0 "") 511 else none)) (ev_if (et_test (ev_op ((LR rfl).mono e47) ev_c (rv_eq rfl))) (fun h => ?_) (fun h => ?_)) fun H8 e8 => ?_
      · rw [if_pos h]
        have : (rest.length : Int) = 1 := V.int.inj (of_decide_eq_true h)
        exact ev_num ((RX 0 rfl (by omega)).mono e47) ev_c (RL 0 (by omega))
      · rw [if_neg (bF h)]
        exact ev_c
      generalize (if decide (V.int (rest.length : Int) = V.int 1) = true then numIn (rest.getD 0 "") 511 else none) = number at hW ⊢
      refine s_ret (v := oV (wordIn t)) (ev_if (b := number.isNone) (et_is (et_test (ev_op (ev_var rfl) ev_c rv_isN)) oV_non) (fun h => ev_is ev_c ?_) (fun h => ?_)) fun H9 e9 => k4 H9 ((e47.trans e8).trans e9)
      · rw [hW, Option.isNone_iff_eq_none.mp h]
        rfl
      · obtain ⟨n, rfl⟩ : ∃ n, number = some n := by
          cases number with
          | none => cases h
          | some n => exact ⟨n, rfl⟩
        rw [hW]
        exact ev_wd (ev_var rfl) ev_c (ev_div (ev_var rfl) ev_c ⟨by decide, by decide⟩) (ev_mod (ev_var rfl) ev_c (by decide))
    replace hW := hW.trans (if_neg (bF hb))
    have e47 := e46.trans e7
    -- set, zero
    refine q_when (b := inV (.str w0) [.str "set", .str "zero"]) (et_test (ev_inU ((W4 rfl).mono e47) (eu_tup (ea_cons ev_c (ea_cons ev_c ea_nil)) (by decide)) rfl rfl)) (fun hb H8 e8 => ?_) (fun hb H8 e8 => ?_)
    · replace hW := hW.trans (if_pos hb)
      have e48 := e47.trans e8
      by_cases h : decide (V.int (rest.length : Int) = V.int 2) = true
      · have hl2 : (rest.length : Int) = 2 := V.int.inj (of_decide_eq_true h)
        replace hW := hW.trans (if_pos h)
        have ht : EvT (tTest (tOp rEq (tCB (fun xs H Q => ∃ x n, xs = [x] ∧ LenV K x H n ∧ Q (.int n) H) (tCons (tVar 3) tNil)) (tC (.int 2)))) ((((L2.start sc_word_in_N [V.str t]).set 1 (some (.ref p))).set 2 (some (.int (idx NM w0)))).set 3 (some (.ref r))) H8 true := et_is (et_test (ev_op ((LR rfl).mono e48) ev_c (rv_eq rfl))) h
        refine ht H8 (Ex.refl _) _ fun H9 e9 => iteT ?_
        have e49 := e48.trans e9
        refine eu_tup (ea_cons (ev_reg ((RX 0 rfl (by omega)).mono e49) (RL 0 (by omega))) (ea_cons (ev_num ((RX 1 rfl (by omega)).mono e49) ev_c (RL 1 (by omega))) ea_nil)) (by show 2 ≤ 100000; decide) H9 (Ex.refl _) _ fun q H10 hq e10 h10 => ?_
        refine ⟨q, _, rfl, st_of h10, rfl, _, _, rfl, _, _, rfl, rfl, ?_⟩
        generalize hA : regIn (rest.getD 0 "") = A at hW ⊢
        generalize hB : numIn (rest.getD 1 "") 511 = B at hW ⊢
        refine s_ret (v := oV (wordIn t)) (ev_if (b := A.isNone || B.isNone) (et_or (et_is (et_test (ev_op (ev_var rfl) ev_c rv_isN)) oV_non) (fun _ => et_is (et_test (ev_op (ev_var rfl) ev_c rv_isN)) oV_non)) (fun h => ev_is ev_c ?_) (fun h => ?_)) fun H11 e11 => k4 H11 ((e49.trans e10).trans e11)
        · rw [hW]
          cases A with
          | none => rfl
          | some a => cases B with
            | none => rfl
            | some b => cases h
        · cases A with
          | none => cases h
          | some a => cases B with
            | none => cases h
            | some b =>
              rw [hW]
              exact ev_wd (ev_var rfl) (ev_var rfl) (ev_div (ev_var rfl) ev_c ⟨by decide, by decide⟩) (ev_mod (ev_var rfl) ev_c (by decide))
      · have h' : decide (V.int (rest.length : Int) = V.int 2) = false := by simpa using h
        replace hW := hW.trans (if_neg h)
        have ht : EvT (tTest (tOp rEq (tCB (fun xs H Q => ∃ x n, xs = [x] ∧ LenV K x H n ∧ Q (.int n) H) (tCons (tVar 3) tNil)) (tC (.int 2)))) ((((L2.start sc_word_in_N [V.str t]).set 1 (some (.ref p))).set 2 (some (.int (idx NM w0)))).set 3 (some (.ref r))) H8 false := et_is (et_test (ev_op ((LR rfl).mono e48) ev_c (rv_eq rfl))) h'
        refine ht H8 (Ex.refl _) _ fun H9 e9 => iteF ?_
        have e49 := e48.trans e9
        refine eu_tup (ea_cons ev_c (ea_cons ev_c ea_nil)) (by show 2 ≤ 100000; decide) H9 (Ex.refl _) _ fun q H10 hq e10 h10 => ?_
        refine ⟨q, _, rfl, st_of h10, rfl, _, _, rfl, _, _, rfl, rfl, ?_⟩
        refine s_ret (v := oV (wordIn t)) (ev_if (b := true) (et_is (et_or (et_test (ev_op (ev_var rfl) ev_c rv_isN)) (fun _ => et_test (ev_op (ev_var rfl) ev_c rv_isN))) rfl) (fun h => ev_is ev_c ?_) (fun h => by cases h)) fun H11 e11 => k4 H11 ((e49.trans e10).trans e11)
        rw [hW]
        rfl
    replace hW := hW.trans (if_neg (bF hb))
    have e48 := e47.trans e8
    -- three
    refine q_when (b := !decide (V.int (rest.length : Int) = V.int 3)) (et_test (ev_op ((LR rfl).mono e48) ev_c (rv_ne rfl))) (fun hb H9 e9 => ?_) (fun hb H9 e9 => ?_)
    · replace hW := hW.trans (if_pos hb)
      exact s_ret ev_c fun H10 e10 => by
        have := k4 H10 ((e48.trans e9).trans e10)
        rw [hW] at this
        exact this
    replace hW := hW.trans (if_neg (bF hb))
    have hl3 : (rest.length : Int) = 3 := V.int.inj (of_decide_eq_true (by simpa using hb))
    have e49 := e48.trans e9
    refine q_parVV (ev_reg ((RX 0 rfl (by omega)).mono e49) (RL 0 (by omega))) (ev_reg ((RX 1 rfl (by omega)).mono e49) (RL 1 (by omega))) fun H10 e10 => ?_
    have e410 := e49.trans e10
    refine q_asg (v := oV (if inV (.str w0) [.str "load", .str "store"] = true then numIn (rest.getD 2 "") 63 else regIn (rest.getD 2 ""))) (ev_if (b := inV (.str w0) [.str "load", .str "store"]) (et_test (ev_inU ((W4 rfl).mono e410) (eu_tup (ea_cons ev_c (ea_cons ev_c ea_nil)) (by decide)) rfl rfl)) (fun h => ?_) (fun h => ?_)) fun H11 e11 => ?_
    · rw [if_pos h]
      exact ev_num ((RX 2 rfl (by omega)).mono e410) ev_c (RL 2 (by omega))
    · rw [if_neg (bF h)]
      exact ev_reg ((RX 2 rfl (by omega)).mono e410) (RL 2 (by omega))
    generalize (if inV (.str w0) [.str "load", .str "store"] = true then numIn (rest.getD 2 "") 63 else regIn (rest.getD 2 "")) = C at hW ⊢
    generalize hA : regIn (rest.getD 0 "") = A at hW ⊢
    generalize hB : regIn (rest.getD 1 "") = B at hW ⊢
    refine s_ret (v := oV (wordIn t)) (ev_if (b := A.isNone || (B.isNone || C.isNone)) (et_or (et_is (et_test (ev_op (ev_var rfl) ev_c rv_isN)) oV_non) (fun _ => et_or (et_is (et_test (ev_op (ev_var rfl) ev_c rv_isN)) oV_non) (fun _ => et_is (et_test (ev_op (ev_var rfl) ev_c rv_isN)) oV_non))) (fun h => ev_is ev_c ?_) (fun h => ?_)) fun H12 e12 => k4 H12 ((e410.trans e11).trans e12)
    · rw [hW]
      cases A with
      | none => rfl
      | some a => cases B with
        | none => rfl
        | some b => cases C with
          | none => rfl
          | some c => cases h
    · cases A with
      | none => cases h
      | some a => cases B with
        | none => cases h
        | some b => cases C with
          | none => cases h
          | some c =>
            rw [hW]
            exact ev_wd (ev_var rfl) (ev_var rfl) (ev_var rfl) (ev_var rfl)
end
end KD

namespace KD
open KA
open PySem PySem.Spec PyProof.Rows L2 Evl TL
theorem map_some_inj {xs ys : List Int} (h : xs.map some = ys.map some) : xs = ys := by
  have := congrArg (List.map (fun o => Option.getD o 0)) h
  rw [List.map_map, List.map_map, show ((fun o : Option Int => o.getD 0) ∘ some) = id from rfl, List.map_id, List.map_id] at this
  exact this
section
variable {σ : L2.St} {H : Hp} {K : PySem.W.Frag} {D : Ends}
/-- over enumerate of a list that the body leaves as it is -/
theorem for_enum {a : Addr} {xs : List V} {g : TG} {tb : TS} (Pv : Nat → L2.St → Hp → Prop) (h0 : Pv 0 σ H) (hl : ∀ i σ H, i ≤ xs.length → Pv i σ H → SqL K H a xs)
    (hs : ∀ i x σ H T, xs[i]? = some x → Pv i σ H → H T = none → g (.ref T) σ (upd H T (.tup [.int (i : Nat), x])) fun σ2 H2 => tb { D with nx := Pv (i + 1), ct := Pv (i + 1), bk := D.nx } σ2 H2) (hd : ∀ σ H, Pv xs.length σ H → D.nx σ H) :
    ∃ W : Nat → Nat → L2.St → Hp → Prop, (∃ m, W 0 m σ H) ∧ ∀ i m σ H, W i m σ H →
      ((Ite K a).stop i H ∧ D.nx σ H) ∨ ((Ite K a).go i H ∧ ∃ N : L2.St → Hp → Prop, (∀ σ' H', N σ' H' → ∃ m', m' < m ∧ W (i + 1) m' σ' H') ∧ ∀ x H', (Ite K a).yld i H x H' → g x σ H' fun σ2 H2 => tb { D with nx := N, ct := N, bk := D.nx } σ2 H2) := by
  refine ⟨fun i m σ H => m = xs.length - i ∧ i ≤ xs.length ∧ Pv i σ H, ⟨xs.length, by simp, Nat.zero_le _, h0⟩, ?_⟩
  rintro i m σ H ⟨rfl, hi, p⟩
  have q := hl i σ H hi p
  by_cases hlt : i < xs.length
  · refine .inr ⟨⟨xs, xs[i], q, by simp [hlt]⟩, Pv (i + 1), fun σ' H' p' => ⟨xs.length - (i + 1), by omega, rfl, hlt, p'⟩, fun x H' y => ?_⟩
    obtain ⟨T, z, rfl, hT, rfl, hz⟩ := y
    exact hs i z σ H T (hz xs q) p hT
  · have e : i = xs.length := by omega
    subst e
    exact .inl ⟨⟨xs, q, Nat.le_refl _⟩, hd σ H p⟩
end
section
variable {P : Program} {w : World} {K : PySem.W.Frag} {mg : Str → Option Value} {base : Heap}
def sp_code_in (K : PySem.W.Frag) : Sp := fun vs H Q E => ∃ (t : Str) (ws : List Int), vs = [.str t] ∧ t.length ≤ 20000 ∧ (∀ q ∈ Txt.split t "\n", q.length ≤ 20000) ∧ (Txt.split t "\n").length ≤ 100 ∧ (Txt.split t "\n").map wordIn = ws.map some ∧ ∀ p H', H p = none → Ex H H' → H' p = some (.tup (ws.map V.int)) → Q (.ref p) H'
theorem ok_code_in (T : Txt K mg) : FnOk P w K mg base CX0 3 (f_code_in K) (fd_code_in K) ["text"] (sp_code_in K) := by
  refine T.fn_code_in.ok sc_code_in (fun vs H Q E h => ?_) (fun cdv A outer s H vs Q E hr h => ⟨_, PSs.nox (pss_cons (ps_set (i := 1) sc_code_in.nd rfl (Or.inl rfl) (pe_lst pa_nil)) (pss_cons (ps_for PassesOwn.never rfl (pi_enum (by rfl) T.free_enumerate (pa_cons (pe_split (pv 0) pe_str) pa_nil)) (pg_tup (by rfl) (pgs_cons (pg_name (i := 2) sc_code_in.nd rfl (Or.inl rfl)) (pgs_cons (pg_name (i := 3) sc_code_in.nd rfl (Or.inl rfl)) pgs_nil))) (pss_cons (ps_set (i := 4) sc_code_in.nd rfl (Or.inl rfl) (pe_call (ok_word_in T) (hr.mono (by decide)) (by rfl) (T.glo_word_in) (T.kp_word_in) (T.bd_word_in) .nil pass0 (pa_cons (pv 3) pa_nil))) (pss_cons (ps_if (pt_cmpR op_isN (pv 4) pe_non (nomark _)) (pss_one ps_never) pss_nil) (pss_one (ps_expr (pe_bm PySem.F.plainAttrs_list PySem.F.slot_list_append PySem.F.type_list_append mt_append (pv 1) (pa_cons (pv 4) pa_nil))))))) (pss_one (ps_ret (pe_callTy call_tuple_of (by rfl) T.free_tuple (by decide +kernel) (pa_cons (pv 1) pa_nil)))))), ?_⟩)
  · obtain ⟨_, _, rfl, _⟩ := h
    rfl
  · obtain ⟨t, wsA, rfl, hz, hpl, hmany, hall, kQ⟩ := h
    generalize hls : Txt.split t "\n" = ls at hpl hmany hall
    refine ⟨by show 0 ≤ sizeLine; omega, fun fp hfp => ?_⟩
    have e0 : Ex H (upd H fp (.lst [])) := Ex.new hfp
    refine el_split (H := upd H fp (.lst [])) (ev_var rfl) ev_c (by rfl) (by omega) _ (Ex.refl _) _ fun lp H1 hlp e1 h1 => ?_
    rw [hls] at h1
    have ne : lp ≠ fp := fun z => by rw [z, upd_same] at hlp; cases hlp
    have hf1 : H1 fp = some (.lst []) := e1 _ _ upd_same
    refine ⟨lp, _, rfl, sq_of h1, ?_⟩
    refine for_enum (K := K) (a := lp) (xs := ls.map V.str) (fun i σ H' => ∃ (x y z : Option V) (ws : List Int), σ = [some (.str t), some (.ref fp), x, y, z] ∧ (ls.take i).map wordIn = ws.map some ∧ Ex H H' ∧ H' lp = some (.lst (ls.map V.str)) ∧ H' fp = some (.lst (ws.map V.int)))
      ⟨none, none, none, [], rfl, rfl, e0.trans e1, h1, hf1⟩ (fun i σ H' _ ⟨_, _, _, _, _, _, _, h, _⟩ => sq_of h) ?_ ?_
    · rintro i x σ H' T hi ⟨x0, y0, z0, ws, rfl, hws, eH, hl', hf'⟩ hT
      obtain ⟨r, hr, rfl⟩ : ∃ r, ls[i]? = some r ∧ x = V.str r := by
        rw [List.getElem?_map] at hi
        cases e : ls[i]? with
        | none => rw [e] at hi; cases hi
        | some r => rw [e] at hi; exact ⟨r, rfl, (Option.some.inj hi).symm⟩
      have hir : i < ls.length := (List.getElem?_eq_some_iff.mp hr).1
      refine ⟨T, _, rfl, st_of upd_same, rfl, _, _, rfl, _, _, rfl, rfl, ?_⟩
      have eT : Ex H' (upd H' T (.tup [.int (i : Nat), .str r])) := Ex.new hT
      generalize upd H' T (.tup [.int (i : Nat), .str r]) = H2 at eT ⊢
      refine q_asg (v := oV (wordIn r)) (ev_pure (ea_cons (ev_var rfl) ea_nil) fun H1 _ Q q => ⟨r, rfl, hpl r (List.mem_of_getElem? hr), q⟩) fun H3 e3 => ?_
      have e23 := eT.trans e3
      have hlen : ws.length = i := by
        have := congrArg List.length hws
        simp at this
        omega
      refine q_when (b := (wordIn r).isNone) (et_is (et_test (ev_op (ev_var rfl) ev_c rv_isN)) oV_non) (fun hb H4 e4 => ?_) (fun hb H4 e4 => ?_)
      · -- a wrong row
        have hn : wordIn r = none := Option.isNone_iff_eq_none.mp hb
        have e24 := e23.trans e4
        exfalso
        have h5 : (ls.map wordIn)[i]? = some none := by rw [List.getElem?_map, hr, ← hn]; rfl
        rw [hall, List.getElem?_map] at h5
        cases e : wsA[i]? with
        | none => rw [e] at h5; cases h5
        | some q => rw [e] at h5; cases h5
      · obtain ⟨n, hn⟩ : ∃ n, wordIn r = some n := by
          cases e : wordIn r with
          | none => rw [e] at hb; cases hb
          | some n => exact ⟨n, rfl⟩
        have e24 := e23.trans e4
        have hf4 := e24 _ _ hf'
        have hl4 := e24 _ _ hl'
        refine ⟨_, rfl, .inl ⟨rfl, _, SqL.of hf4⟩, _, rfl, ?_⟩
        refine ⟨fp, _, _, rfl, rfl, hf4, by rw [List.length_map]; exact sz_lt (by omega), ?_⟩
        have hfpn : H fp = none := hfp
        refine ⟨_, _, _, ws ++ [n], rfl, ?_, ?_, ?_, ?_⟩
        · rw [List.take_add_one, hr, List.map_append, hws]
          simp [hn]
        · exact Ex.mut (eH.trans e24) hfpn
        · rw [upd_ne ne]
          exact hl4
        · rw [upd_same, List.map_append, hn]
          rfl
    · rintro σ H' ⟨x0, y0, z0, ws, rfl, hws, eH, hl', hf'⟩
      rw [List.length_map, List.take_length] at hws
      refine ⟨_, rfl, fp, _, rfl, .inl ⟨sq_of hf', fun l hl => kQ l _ ?_ (eH.trans (Ex.new hl)) (by rw [show ws = wsA from map_some_inj (hws.symm.trans hall)]; exact upd_same)⟩⟩
      cases e : H l with
      | none => rfl
      | some o => rw [eH _ _ e] at hl; cases hl
end
end KD

namespace KD
open KA
open PySem PySem.Spec PyProof.Rows L2 Evl TL
/-! ### the law's tape: a dict; each draw is some number below what is asked -/
def tapeKV (ca : Addr) (at_ left seed salt : Int) : List (Key × V) := [(.inr "cells", .ref ca), (.inr "at", .int at_), (.inr "left", .int left), (.inr "seed", .int seed), (.inr "salt", .int salt)]
structure TapeAt (H : Hp) (d ca : Addr) : Prop where
  ex : ∃ (cs : List Int) (at_ : Nat) (left seed salt : Int), H d = some (.dK (tapeKV ca at_ left seed salt)) ∧ H ca = some (.lst (cs.map V.int)) ∧ (∀ c ∈ cs, 0 ≤ c) ∧ 0 ≤ left ∧ 0 ≤ seed ∧ seed < 2147483647
theorem TapeAt.keep {H H' : Hp} {d ca : Addr} (h : TapeAt H d ca) (k : ∀ b o, H b = some o → H' b = some o) : TapeAt H' d ca := by
  obtain ⟨cs, at_, left, seed, salt, h1, h2, h3⟩ := h.ex
  exact ⟨⟨cs, at_, left, seed, salt, k _ _ h1, k _ _ h2, h3⟩⟩
section
variable (ca : Addr) (a b c e : Int) (x : V)
theorem tk_cells : valV (tapeKV ca a b c e) (Sum.inr "cells" : Key) = some (.ref ca) := by rfl
theorem tk_at : valV (tapeKV ca a b c e) (Sum.inr "at" : Key) = some (.int a) := by rfl
theorem tk_left : valV (tapeKV ca a b c e) (Sum.inr "left" : Key) = some (.int b) := by rfl
theorem tk_seed : valV (tapeKV ca a b c e) (Sum.inr "seed" : Key) = some (.int c) := by rfl
theorem tk_salt : valV (tapeKV ca a b c e) (Sum.inr "salt" : Key) = some (.int e) := by rfl
theorem tp_at (i : Int) : putK (tapeKV ca a b c e) (Sum.inr "at" : Key) (.int i) = tapeKV ca i b c e := by rfl
theorem tp_left (i : Int) : putK (tapeKV ca a b c e) (Sum.inr "left" : Key) (.int i) = tapeKV ca a i c e := by rfl
theorem tp_salt (i : Int) : putK (tapeKV ca a b c e) (Sum.inr "salt" : Key) (.int i) = tapeKV ca a b c i := by rfl
end
theorem TapeAt.there {H : Hp} {d ca : Addr} (h : TapeAt H d ca) : (∃ o, H d = some o) ∧ ∃ o, H ca = some o := by
  obtain ⟨cs, at_, left, seed, salt, h1, h2, h3⟩ := h.ex
  exact ⟨⟨_, h1⟩, _, h2⟩
theorem TapeAt.upd {H : Hp} {d ca l : Addr} {o : HO} (h : TapeAt H d ca) (n1 : l ≠ d) (n2 : l ≠ ca) : TapeAt (L2.upd H l o) d ca := by
  obtain ⟨cs, at_, left, seed, salt, h1, h2, h3⟩ := h.ex
  exact ⟨⟨cs, at_, left, seed, salt, by rw [upd_ne (Ne.symm n1)]; exact h1, by rw [upd_ne (Ne.symm n2)]; exact h2, h3⟩⟩
theorem TapeAt.ne {H : Hp} {d ca l : Addr} (h : TapeAt H d ca) (hl : H l = none) : l ≠ d ∧ l ≠ ca := by
  obtain ⟨⟨o, h1⟩, o', h2⟩ := h.there
  exact ⟨fun z => (by rw [z, h1] at hl; cases hl), fun z => (by rw [z, h2] at hl; cases hl)⟩
/-- all stands but d -/
def FrD (d : Addr) (H H' : Hp) : Prop := ∀ b o, H b = some o → b ≠ d → H' b = some o
theorem FrD.of {d : Addr} {H H' : Hp} (e : Ex H H') : FrD d H H' := fun b o h _ => e b o h
theorem FrD.trans {d : Addr} {H H1 H2 : Hp} (a : FrD d H H1) (b : FrD d H1 H2) : FrD d H H2 := fun c o h n => b c o (a c o h n) n
theorem FrD.upd {d : Addr} {H H' : Hp} {o : HO} (a : FrD d H H') : FrD d H (L2.upd H' d o) := fun b u h n => by rw [upd_ne n]; exact a b u h n
theorem FrD.put {d : Addr} {H : Hp} {o : HO} : FrD d H (L2.upd H d o) := fun b u h n => by rw [upd_ne n]; exact h
section
variable {σ : L2.St} {H : Hp} {K : PySem.W.Frag} {D : Ends}
theorem ev_dget {td : TE} {d : Addr} {kvs : List (Key × V)} {k : Key} {v : V} (hd : Ev td σ H (.ref d)) (h : H d = some (.dK kvs)) (e : valV kvs k = some v) : Ev (tDGet td (tC (kV k))) σ H v := fun H1 x Q q =>
  hd H1 x _ fun H2 x2 => ⟨d, v, rfl, e ▸ DGet.k (x2 _ _ (x _ _ h)), q H2 x2⟩
theorem q_dput {td tv : TE} {tz : TS} {d : Addr} {kvs : List (Key × V)} {k : Key} {v : V} (hv : Ev tv σ H v) (hd : Ev td σ H (.ref d)) (h : H d = some (.dK kvs)) (hl : kvs.length < 1000) (kk : ∀ H1, Ex H H1 → tz D σ (upd H1 d (.dK (putK kvs k v)))) :
    tSeq (sDPut td (tC (kV k)) tv) tz D σ H := hv H (Ex.refl H) _ fun H1 e1 => hd H1 e1 _ fun H2 e2 => ⟨d, _, rfl, DPut.k ((e1.trans e2) _ _ h) (by show kvs.length < sizeLine; exact Nat.lt_of_lt_of_le hl (by decide)), kk H2 (e1.trans e2)⟩
theorem s_dput {td tv : TE} {d : Addr} {kvs : List (Key × V)} {k : Key} {v : V} (hv : Ev tv σ H v) (hd : Ev td σ H (.ref d)) (h : H d = some (.dK kvs)) (hl : kvs.length < 1000) (kk : ∀ H1, Ex H H1 → D.nx σ (upd H1 d (.dK (putK kvs k v)))) :
    sDPut td (tC (kV k)) tv D σ H := hv H (Ex.refl H) _ fun H1 e1 => hd H1 e1 _ fun H2 e2 => ⟨d, _, rfl, DPut.k ((e1.trans e2) _ _ h) (by show kvs.length < sizeLine; exact Nat.lt_of_lt_of_le hl (by decide)), kk H2 (e1.trans e2)⟩
theorem ev_int1 {ta : TE} {i : Int} (ha : Ev ta σ H (.int i)) : Ev (tCB (fun xs H Q => (∃ i, xs = [.int i] ∧ Q (.int i) H) ∨ ∃ k, xs = [.bl k] ∧ Q (.int (if k then 1 else 0)) H) (tCons ta tNil)) σ H (.int i) := fun H1 e Q q =>
  ha H1 e _ fun H2 e2 => .inl ⟨i, rfl, q H2 e2⟩
theorem ev_lenL' {p : Addr} {xs : List V} {ta : TE} (ha : Ev ta σ H (.ref p)) (h : SqL K H p xs) : Ev (tCB (fun xs H Q => ∃ x n, xs = [x] ∧ LenV K x H n ∧ Q (.int n) H) (tCons ta tNil)) σ H (.int (xs.length : Int)) := fun H1 e Q q =>
  ha H1 e _ fun H2 e2 => ⟨_, xs.length, rfl, .inl ⟨_, ex_l (e.trans e2) h, rfl⟩, q H2 e2⟩
theorem ev_abs {ta : TE} {i : Int} (ha : Ev ta σ H (.int i)) : Ev (tCB (fun xs H Q => ∃ i : Int, xs = [.int i] ∧ Q (.int (if i < 0 then -i else i)) H) (tCons ta tNil)) σ H (.int (if i < 0 then -i else i)) := fun H1 e Q q =>
  ha H1 e _ fun H2 e2 => ⟨i, rfl, q H2 e2⟩
end
section
variable {P : Program} {w : World} {K : PySem.W.Frag} {mg : Str → Option Value} {base : Heap}
def sp_law_take : Sp := fun vs H Q _ => ∃ (d ca : Addr) (many : Int), vs = [.ref d, .int many] ∧ TapeAt H d ca ∧ 0 < many ∧ many < 1073741824 ∧ ∀ (v : Int) (H' : Hp), 0 ≤ v → v < many → TapeAt H' d ca → FrD d H H' → Q (.int v) H'
theorem ok_law_take (T : Txt K mg) : FnOk P w K mg base CX0 1 (f_law_take K) (fd_law_take K) ["tape", "many"] sp_law_take := by
  refine T.fn_law_take.ok sc_law_take (fun vs H Q E h => ?_) (fun cdv A outer s H vs Q E hr h => ?_)
  · obtain ⟨_, _, _, rfl, _⟩ := h
    rfl
  have hu := hu_of hr
  refine ⟨_, PSs.nox (pss_cut (ps_if (PW.pt (pw_and (pt_cmpR op_eq (pe_dget hu (pv 0) pe_str (fun _ _ => rfl)) pe_int (nomark _)) (pw_and1 (pt_cmpR op_lt (pe_dget hu (pv 0) pe_str (fun _ _ => rfl)) (pe_callB call_len (by rfl) T.free_len PySem.boot_len (pa_cons (pe_dget hu (pv 0) pe_str (fun _ _ => rfl)) pa_nil)) (nomark _))))) (pss_cons (ps_dput hu (pv 0) pe_str (pe_ix ix_list (pe_dget hu (pv 0) pe_str (fun _ _ => rfl)) (pe_dget hu (pv 0) pe_str (fun _ _ => rfl)) (fun _ _ => rfl)) rfl) (pss_one (ps_dput hu (pv 0) pe_str (pe_op op_add (pe_dget hu (pv 0) pe_str (fun _ _ => rfl)) pe_int) rfl))) pss_nil) (pss_cons (ps_if (pt_cmpR op_gt (pe_dget hu (pv 0) pe_str (fun _ _ => rfl)) pe_int (nomark _)) (pss_cons (ps_set (i := 2) sc_law_take.nd rfl (Or.inl rfl) (pe_op op_mod (pe_callTy call_int1 (by rfl) T.free_int (by decide +kernel) (pa_cons (pe_dget hu (pv 0) pe_str (fun _ _ => rfl)) pa_nil)) (pv 1))) (pss_cons (ps_dput hu (pv 0) pe_str (pe_op op_fdiv (pe_dget hu (pv 0) pe_str (fun _ _ => rfl)) (pv 1)) rfl) (pss_one (ps_ret (pv 2))))) pss_nil) (pss_cons (ps_dput hu (pv 0) pe_str (pe_op op_add (pe_dget hu (pv 0) pe_str (fun _ _ => rfl)) pe_int) rfl) (pss_cons (ps_set (i := 3) sc_law_take.nd rfl (Or.inl rfl) (pe_op op_mod (pe_callTy call_int1 (by rfl) T.free_int (by decide +kernel) (pa_cons (pe_op op_add (pe_op op_mul (pe_dget hu (pv 0) pe_str (fun _ _ => rfl)) pe_int) (pe_op op_mul (pe_dget hu (pv 0) pe_str (fun _ _ => rfl)) pe_int)) pa_nil)) pe_int)) (pss_cons (ps_set (i := 3) sc_law_take.nd rfl (Or.inl rfl) (pe_op op_mod (pe_callTy call_int1 (by rfl) T.free_int (by decide +kernel) (pa_cons (pe_op op_add (pe_op op_add (pe_op op_mul (pv 3) (pv 3)) (pe_op op_mul (pe_dget hu (pv 0) pe_str (fun _ _ => rfl)) pe_int)) pe_int) pa_nil)) pe_int)) (pss_one (ps_ret (pe_op op_mod (pe_callTy call_int1 (by rfl) T.free_int (by decide +kernel) (pa_cons (pv 3) pa_nil)) (pv 1))))))))), ?_⟩
  obtain ⟨d, ca, many, rfl, ⟨cs, at_, left, seed, salt, h1, h2, hcs, hl0, hs0, hs1⟩, hm0, hm1, k⟩ := h
  have nca : ca ≠ d := ne_of h2 h1 (by intro z; cases z)
  refine q_cut (M := fun σ' H1 => σ' = L2.start sc_law_take_N [V.ref d, V.int many] ∧ ∃ (at2 : Nat) (left2 : Int), FrD d H H1 ∧ H1 d = some (.dK (tapeKV ca at2 left2 seed salt)) ∧ 0 ≤ left2) ?_ ?_
  · refine s_when (b := decide (V.int left = V.int 0) && decide ((at_ : Int) < (((cs.map V.int).length : Nat) : Int))) (et_and (et_test (ev_op (ev_dget (k := .inr "left") (ev_var rfl) h1 (tk_left ..)) ev_c (rv_eq rfl))) fun _ => et_test (ev_op (ev_dget (k := .inr "at") (ev_var rfl) h1 (tk_at ..)) (ev_lenL' (ev_dget (k := .inr "cells") (ev_var rfl) h1 (tk_cells ..)) (sq_of h2)) rv_I0)) (fun hb H1 e1 => ?_) (fun hb H1 e1 => ⟨rfl, at_, left, FrD.of e1, e1 _ _ h1, hl0⟩)
    simp only [Bool.and_eq_true, decide_eq_true_eq, List.length_map] at hb
    have hlt : at_ < cs.length := by omega
    have hc : 0 ≤ cs[at_] := hcs _ (List.getElem_mem hlt)
    refine q_dput (k := .inr "left") (v := .int cs[at_]) (ev_op (ev_dget (k := .inr "cells") (ev_var rfl) (e1 _ _ h1) (tk_cells ..)) (ev_dget (k := .inr "at") (ev_var rfl) (e1 _ _ h1) (tk_at ..)) (rv_ixL (sq_of (e1 _ _ h2)) (atI_nat (by rw [List.getElem?_map, List.getElem?_eq_getElem hlt]; rfl)))) (ev_var rfl) (e1 _ _ h1) (by show 5 < 1000; decide) fun H2 e2 => ?_
    rw [tp_left]
    refine s_dput (k := .inr "at") (v := .int ((at_ : Int) + 1)) (ev_op (ev_dget (k := .inr "at") (ev_var rfl) upd_same (tk_at ..)) ev_c rv_I0) (ev_var rfl) upd_same (by show 5 < 1000; decide) fun H3 e3 => ?_
    rw [tp_at]
    exact ⟨rfl, at_ + 1, cs[at_], ((((FrD.of (e1.trans e2)).upd).trans (FrD.of e3)).upd), upd_same, hc⟩
  · rintro σ' H1 ⟨rfl, at2, left2, fr, g1, gl0⟩
    have g2 := fr _ _ h2 nca
    refine q_when (b := decide (0 < left2)) (et_test (ev_op (ev_dget (k := .inr "left") (ev_var rfl) g1 (tk_left ..)) ev_c rv_I0)) (fun hb H2 e2 => ?_) (fun hb H2 e2 => ?_)
    · refine q_asg (v := .int (left2 % many)) (ev_op (ev_int1 (ev_dget (k := .inr "left") (ev_var rfl) (e2 _ _ g1) (tk_left ..))) (ev_var rfl) (rv_I hm0)) fun H3 e3 => ?_
      have e23 := e2.trans e3
      refine q_dput (k := .inr "left") (v := .int (left2 / many)) (ev_op (ev_dget (k := .inr "left") (ev_var rfl) (e23 _ _ g1) (tk_left ..)) (ev_var rfl) (rv_I ⟨hm0, hm1⟩)) (ev_var rfl) (e23 _ _ g1) (by show 5 < 1000; decide) fun H4 e4 => ?_
      rw [tp_left]
      refine s_ret (ev_var rfl) fun H5 e5 => k _ _ (Int.emod_nonneg _ (by omega)) (Int.emod_lt_of_pos _ hm0) ⟨⟨cs, at2, left2 / many, seed, salt, e5 _ _ upd_same, e5 _ _ (by rw [upd_ne nca]; exact e4 _ _ (e23 _ _ g2)), hcs, Int.ediv_nonneg gl0 (by omega), hs0, hs1⟩⟩ ((fr.trans (FrD.of (e23.trans e4))).upd.trans (FrD.of e5))
    · refine q_dput (k := .inr "salt") (v := .int (salt + 1)) (ev_op (ev_dget (k := .inr "salt") (ev_var rfl) (e2 _ _ g1) (tk_salt ..)) ev_c rv_I0) (ev_var rfl) (e2 _ _ g1) (by show 5 < 1000; decide) fun H3 e3 => ?_
      rw [tp_salt]
      have g3 : (upd H3 d (.dK (tapeKV ca at2 left2 seed (salt + 1)))) ca = some (.lst (cs.map V.int)) := by rw [upd_ne nca]; exact e3 _ _ (e2 _ _ g2)
      have fr3 : FrD d H (upd H3 d (.dK (tapeKV ca at2 left2 seed (salt + 1)))) := (fr.trans (FrD.of (e2.trans e3))).upd
      have g4 : (upd H3 d (.dK (tapeKV ca at2 left2 seed (salt + 1)))) d = some (.dK (tapeKV ca at2 left2 seed (salt + 1))) := upd_same
      generalize upd H3 d (.dK (tapeKV ca at2 left2 seed (salt + 1))) = H4 at g3 fr3 g4 ⊢
      refine q_asg (v := .int ((seed * 48271 + (salt + 1) * 69621) % 2147483647)) (ev_op (ev_int1 (ev_op (ev_op (ev_dget (k := .inr "seed") (ev_var rfl) g4 (tk_seed ..)) ev_c (rv_I (.inr ⟨by decide, by decide⟩))) (ev_op (ev_dget (k := .inr "salt") (ev_var rfl) g4 (tk_salt ..)) ev_c (rv_I (.inr ⟨by decide, by decide⟩))) rv_I0)) ev_c (rv_I (by decide))) fun H5 e5 => ?_
      generalize hx : (seed * 48271 + (salt + 1) * 69621) % 2147483647 = x
      have hx0 : 0 ≤ x ∧ x < 2147483647 := by omega
      refine q_asg (v := .int ((x * x + (salt + 1) * 40692 + 12345) % 2147483399)) (ev_op (ev_int1 (ev_op (ev_op (ev_op (ev_var rfl) (ev_var rfl) (rv_I (.inr ⟨by omega, by omega⟩))) (ev_op (ev_dget (k := .inr "salt") (ev_var rfl) (e5 _ _ g4) (tk_salt ..)) ev_c (rv_I (.inr ⟨by decide, by decide⟩))) rv_I0) ev_c rv_I0)) ev_c (rv_I (by decide))) fun H6 e6 => ?_
      generalize (x * x + (salt + 1) * 40692 + 12345) % 2147483399 = y
      refine s_ret (ev_op (ev_int1 (ev_var rfl)) (ev_var rfl) (rv_I hm0)) fun H7 e7 => k _ _ (Int.emod_nonneg _ (by omega)) (Int.emod_lt_of_pos _ hm0) ?_ (fr3.trans (FrD.of ((e5.trans e6).trans e7)))
      have e47 := (e5.trans e6).trans e7
      exact ⟨⟨cs, at2, left2, seed, salt + 1, e47 _ _ g4, e47 _ _ g3, hcs, gl0, hs0, hs1⟩⟩
def sp_law_tape (K : PySem.W.Frag) : Sp := fun vs H Q _ => ∃ (a : Addr) (ns : List Int), vs = [.ref a] ∧ SqL K H a (ns.map V.int) ∧ ns.length ≤ 63 ∧ ∀ (d ca : Addr) (H' : Hp), H d = none → H ca = none → TapeAt H' d ca → Ex H H' → Q (.ref d) H'
theorem ok_law_tape (T : Txt K mg) : FnOk P w K mg base CX0 1 (f_law_tape K) (fd_law_tape K) ["script"] (sp_law_tape K) := by
  refine T.fn_law_tape.ok sc_law_tape (fun vs H Q E h => ?_) (fun cdv A outer s H vs Q E hr h => ⟨_, PSs.nox (pss_cons (ps_setLc (i := 1) (own := [("cell", 2)]) (by rfl) sc_law_tape.nd rfl rfl (sw_true rfl rfl rfl (by decide +kernel)) (pi_list (pv 0)) (blkOk_by (N := sc_law_tape_N) (sc := defScope s_law_tape) (own := [("cell", 2)]) (by decide +kernel)) (fun _ _ _ _ _ => (pg_name (i := 2) sc_law_tape.nd rfl (Or.inl rfl))) (fun _ _ _ _ _ => pts_nil) (fun _ _ _ _ _ => (pe_callB call_abs (by rfl) T.free_abs (by decide +kernel) (pa_cons (pe_callTy call_int1 (by rfl) T.free_int (by decide +kernel) (pa_cons (pv 2) pa_nil)) pa_nil)))) (pss_cons (ps_set (i := 3) sc_law_tape.nd rfl (Or.inl rfl) pe_int) (pss_cons (ps_for PassesOwn.never rfl (pi_list (pv 1)) (pg_name (i := 2) sc_law_tape.nd rfl (Or.inl rfl)) (pss_one (ps_set (i := 3) sc_law_tape.nd rfl (Or.inl rfl) (pe_op op_mod (pe_callTy call_int1 (by rfl) T.free_int (by decide +kernel) (pa_cons (pe_op op_add (pe_op op_mul (pv 3) pe_int) (pv 2)) pa_nil)) pe_int)))) (pss_one (ps_ret (pe_disp (pps_cons pe_str (pv 1) (pps_cons pe_str pe_int (pps_cons pe_str pe_int (pps_cons pe_str (pv 3) (pps_cons pe_str pe_int pps_nil))))) (by rfl) (by rfl) (fun z => by cases z) (by decide))))))), ?_⟩)
  · obtain ⟨_, _, rfl, _⟩ := h
    rfl
  obtain ⟨a, ns, rfl, hS, hl, k⟩ := h
  have hv : ((ns.map fun i => if i < 0 then -i else i).map V.int) = given (ns.map V.int).length (fun _ => true) (fun i => .int (if ns.getD i 0 < 0 then -(ns.getD i 0) else ns.getD i 0)) := by
    unfold given
    rw [List.filter_eq_self.mpr (by simp)]
    apply List.ext_getElem?
    intro i
    by_cases h : i < ns.length
    · simp [h]
    · simp [h]
  have hE : EvL (tLc (iList K (tVar 0)) (gName 2) tYes (tCB (fun xs H Q => ∃ i : Int, xs = [.int i] ∧ Q (.int (if i < 0 then -i else i)) H) (tCons (tCB (fun xs H Q => (∃ i, xs = [.int i] ∧ Q (.int i) H) ∨ ∃ k, xs = [.bl k] ∧ Q (.int (if k then 1 else 0)) H) (tCons (tVar 2) tNil)) tNil)) [2]) (L2.start sc_law_tape_N [V.ref a]) H ((ns.map fun i => if i < 0 then -i else i).map V.int) := by
    rw [hv]
    refine el_lcL _ _ (ev_var rfl) hS (by rw [List.length_map]; omega) (fun y => rfl) (fun i c H1 _ _ => (fun H1 _ _ q => q H1 (Ex.refl H1))) (fun i y H1 _ hi _ => ?_)
    rw [List.getElem?_map] at hi
    cases e : ns[i]? with
    | none => rw [e] at hi; cases hi
    | some x =>
      rw [e] at hi
      obtain rfl : V.int x = y := Option.some.inj hi
      have e2 : ns.getD i 0 = x := by rw [List.getD, e]; rfl
      rw [e2]
      exact ev_abs (ev_int1 (ev_var rfl))
  have hcs : ∀ c ∈ (ns.map fun i => if i < 0 then -i else i), (0 : Int) ≤ c := by
    intro c hc
    obtain ⟨i, _, rfl⟩ := List.mem_map.mp hc
    show 0 ≤ if i < 0 then -i else i
    split <;> omega
  generalize (ns.map fun i => if i < 0 then -i else i) = cs at hE hcs hv
  refine q_asgL hE fun ca H1 hca e1 h1 => ?_
  refine q_asg ev_c fun H2 e2 => ?_
  refine q_forL (K := K) (a := ca) (xs := cs.map V.int) (ev_var rfl) (sq_of (e2 _ _ h1)) (fun i σ' H' => ∃ (c : Option V) (seed : Int), σ' = [some (.ref a), some (.ref ca), c, some (.int seed)] ∧ 0 ≤ seed ∧ seed < 2147483647 ∧ Ex H2 H')
    (fun H3 e3 => ⟨none, 7, rfl, by decide, by decide, e3⟩) (fun i σ' H' _ ⟨_, _, _, _, _, e⟩ => sq_of (e _ _ (e2 _ _ h1))) ?_ ?_
  · rintro i y σ' H' hi ⟨c, seed, rfl, s0, s1, eH⟩
    obtain ⟨x, rfl⟩ : ∃ x, y = V.int x := by
      rw [List.getElem?_map] at hi
      cases e : cs[i]? with
      | none => rw [e] at hi; cases hi
      | some x => rw [e] at hi; exact ⟨x, (Option.some.inj hi).symm⟩
    refine s_asg (v := .int ((seed * 31 + x) % 2147483647)) (ev_op (ev_int1 (ev_op (ev_op (ev_var rfl) ev_c (rv_I (.inr ⟨by decide, by decide⟩))) (ev_var rfl) rv_I0)) ev_c (rv_I (by decide))) fun H3 e3 => ⟨some (.int x), (seed * 31 + x) % 2147483647, rfl, by omega, by omega, eH.trans e3⟩
  · rintro σ' H' ⟨c, seed, rfl, s0, s1, eH⟩
    intro d hd
    have e3 : Ex H' (upd H' d (.dK [])) := Ex.new hd
    have ed : Ex H (upd H' d (.dK [])) := ((e1.trans e2).trans eH).trans e3
    have hdn : H d = none := by
      cases e : H d with
      | none => rfl
      | some o => rw [((e1.trans e2).trans eH) _ _ e] at hd; cases hd
    refine ⟨_, rfl, _, rfl, upd_same, [(.inr "cells", .ref ca), (.inr "at", .int 0), (.inr "left", .int 0), (.inr "seed", .int seed), (.inr "salt", .int 0)], rfl, by show 5 ≤ 15; decide, ?_⟩
    have hca2 : H' ca = some (.lst (cs.map V.int)) := eH _ _ (e2 _ _ h1)
    have nca : ca ≠ d := ne_of_none hca2 hd
    refine k d ca _ hdn hca ⟨⟨cs, 0, 0, seed, 0, ?_, ?_, hcs, by decide, s0, s1⟩⟩ (Ex.mut ed hdn)
    · rw [upd_same]
      rfl
    · rw [upd_ne nca, upd_ne nca]
      exact hca2
end
end KD

namespace KD
open KA
open PySem PySem.Spec PyProof.Rows L2 Evl TL
/-! ### for laws: what is drawn, lists of draws, data compared -/
section
variable {σ : L2.St} {H : Hp} {K : PySem.W.Frag} {D : Ends} {d ca : Addr} {P P' : Int → Prop} {te tb : TE} {ta : TA} {tz : TS}
/-- a value drawn: the tape goes on, all else stands -/
def Dr (te : TE) (σ : L2.St) (d ca : Addr) (P : Int → Prop) : Prop := ∀ (H : Hp) (Q : VK), TapeAt H d ca → (∀ v H', P v → TapeAt H' d ca → FrD d H H' → Q (.int v) H') → te σ H Q
theorem Dr.imp (h : Dr te σ d ca P) (f : ∀ v, P v → P' v) : Dr te σ d ca P' := fun H Q hT q => h H Q hT fun v H' p => q v H' (f v p)
theorem dr_take {m : Int} (ha : ∀ H, EvA ta σ H [.ref d, .int m]) (hm : 0 < m ∧ m < 1073741824) : Dr (tCall sp_law_take [] E0 ta) σ d ca (fun v => 0 ≤ v ∧ v < m) :=
  fun H Q hT q => ha H H (Ex.refl H) _ fun H1 e1 => ⟨d, ca, m, rfl, hT.keep e1, hm.1, hm.2, fun v H' h0 h1 hT' f => q v H' ⟨h0, h1⟩ hT' ((FrD.of e1).trans f)⟩
theorem dr_int (h : Dr te σ d ca P) : Dr (tCB (fun xs H Q => (∃ i, xs = [.int i] ∧ Q (.int i) H) ∨ ∃ k, xs = [.bl k] ∧ Q (.int (if k then 1 else 0)) H) (tCons te tNil)) σ d ca P :=
  fun H Q hT q => h H _ hT fun v H' p hT' f => .inl ⟨v, rfl, q v H' p hT' f⟩
theorem dr_cmul {c : Int} (hc : -(2 ^ 64) < c ∧ c < 2 ^ 64) (h : Dr te σ d ca P) : Dr (tOp (rI CMul fun i j => .int (i * j)) (tC (.int c)) te) σ d ca (fun v => ∃ u, P u ∧ v = c * u) :=
  fun H Q hT q => h H _ hT fun v H' p hT' f => ⟨c, v, rfl, rfl, .inl hc, q _ H' ⟨v, p, rfl⟩ hT' f⟩
theorem dr_add (h : Dr te σ d ca P) (h2 : Dr tb σ d ca P') : Dr (tOp (rI0 fun i j => .int (i + j)) te tb) σ d ca (fun v => ∃ a b, P a ∧ P' b ∧ v = a + b) :=
  fun H Q hT q => h H _ hT fun v H1 p hT1 f1 => h2 H1 _ hT1 fun u H2 p2 hT2 f2 => ⟨v, u, rfl, rfl, q _ H2 ⟨v, u, p, p2, rfl⟩ hT2 (f1.trans f2)⟩
/-- a list of draws -/
theorem dl_lcR1 {j : Nat} {vs : List Nat} {n : Int} (h : ∀ H, EvA ta σ H [.int n]) (hn : 0 ≤ n ∧ n ≤ 40000) (hw : ∀ x, wipe ((wipe σ vs).set j (some x)) vs = wipe σ vs) (he : ∀ i : Nat, Dr te ((wipe σ vs).set j (some (.int (i : Int)))) d ca P)
    (H : Hp) (Q : VK) (hT : TapeAt H d ca) (q : ∀ p H' (xs : List Int), H p = none → xs.length = n.toNat → (∀ x ∈ xs, P x) → TapeAt H' d ca → FrD d H H' → H' p = some (.lst (xs.map V.int)) → Q (.ref p) H') : tLc (iRng1 ta) (gName j) tYes te vs σ H Q :=
  h H H (Ex.refl H) _ fun H1 e1 => ⟨n, rfl, by omega, by omega, fun Dl hD =>
    lc_range (lo := 0) (n := n.toNat) (fun i H' => ∃ xs : List Int, xs.length = i ∧ (∀ x ∈ xs, P x) ∧ TapeAt H' d ca ∧ FrD d H H' ∧ H' Dl = some (.lst (xs.map V.int)))
      ⟨[], rfl, (fun x hx => by cases hx), (hT.keep e1).keep (Ex.new hD), (FrD.of e1).trans (FrD.of (Ex.new hD)), upd_same⟩
      (fun i H' hi ⟨xs, hl, hx, hT', f, hDl⟩ => by
        have e0 : (0 : Int) + (i : Int) = (i : Int) := Int.zero_add _
        show wipe ((wipe σ vs).set j (some (.int ((0 : Int) + (i : Int))))) vs = wipe σ vs ∧ te ((wipe σ vs).set j (some (.int ((0 : Int) + (i : Int))))) H' fun y H4 => ∃ acc, H4 Dl = some (.lst acc) ∧ acc.length < sizeLine ∧ _
        rw [e0]
        have nn := (hT.keep e1).ne hD
        refine ⟨hw _, he i H' _ hT' fun v H4 pv hT4 f4 => ⟨xs.map V.int, f4 _ _ hDl nn.1, sz_lt (by rw [List.length_map]; omega), xs ++ [v], by simp [hl], fun x hm => ?_, hT4.upd nn.1 nn.2, ?_, by rw [upd_same, List.map_append]; rfl⟩⟩
        · rcases List.mem_append.mp hm with hm | hm
          · exact hx x hm
          · obtain rfl : x = v := by simpa using hm
            exact pv
        · intro b o hb hne
          have nb : b ≠ Dl := fun z => by
            rw [z] at hb
            rw [e1 _ _ hb] at hD
            cases hD
          rw [upd_ne nb]
          exact f4 _ _ (f _ _ hb hne) hne)
      (fun H' ⟨xs, hl, hx, hT', f, hDl⟩ => q Dl H' xs (fresh_back e1 hD) hl hx hT' f hDl)⟩
/-- name = e, told by what holds behind it -/
theorem q_asgQ {i : Nat} (h : te σ H fun v H1 => tz D (σ.set i (some v)) H1) : tSeq (tAsg te (gName i)) tz D σ H := h
theorem FrD.ex {H H' : Hp} (f : FrD d H H') (hd : H d = none) : Ex H H' := fun b o h => f b o h (fun z => by rw [z, hd] at h; cases h)
end
/-! ### flat data -/
def pd : V → PyData
  | .int i => .int i
  | .str s => .str s
  | .bl b => .bool b
  | _ => .none
def flatP : V → Bool
  | .int _ => true
  | .str s => PyData.strOk s
  | _ => false
section
variable {K : PySem.W.Frag} {H : Hp}
theorem dpAll_flat : ∀ {vs : List V}, vs.all flatP = true → DpAll K H vs (vs.map pd)
  | [], _ => .nil
  | v :: vs, h => by
    rw [List.all_cons, Bool.and_eq_true] at h
    refine .cons ?_ (dpAll_flat h.2)
    cases v with
    | int i => exact .int i
    | str s => exact .str s
    | bl b => cases h.1
    | ref a => cases h.1
    | non => cases h.1
    | _ => cases h.1
theorem canLay_flat : ∀ {vs : List V}, vs.all flatP = true → PyData.canLayAll0 (vs.map pd) = true ∧ PyData.depthAll (vs.map pd) = 0
  | [], _ => ⟨by simp [PyData.canLayAll0], by simp [PyData.depthAll]⟩
  | v :: vs, h => by
    rw [List.all_cons, Bool.and_eq_true] at h
    obtain ⟨h1, h2⟩ := canLay_flat h.2
    rw [List.map_cons, PyData.canLayAll0, PyData.depthAll, h1, h2]
    cases v with
    | int i => exact ⟨by simp [pd, PyData.canLay0], by simp [pd, PyData.depth]⟩
    | str s => exact ⟨by simp [pd, PyData.canLay0]; exact h.1, by simp [pd, PyData.depth]⟩
    | _ => cases h.1
theorem dp_lst {a : Addr} {vs : List V} (h : SqL K H a vs) (hf : vs.all flatP = true) : Dp K H (.ref a) (.list (vs.map pd)) := .lst h (dpAll_flat hf)
theorem dp_tup {a : Addr} {vs : List V} (h : SqT K H a vs) (hf : vs.all flatP = true) : Dp K H (.ref a) (.tuple (vs.map pd)) := .tup h (dpAll_flat hf)
theorem shaped_lst {vs : List V} (hf : vs.all flatP = true) : SeqAt.shaped (.list (vs.map pd)) = true := by
  obtain ⟨h1, h2⟩ := canLay_flat hf
  unfold SeqAt.shaped
  rw [PyData.canLay0, PyData.depth, h1, h2]
  rfl
theorem shaped_tup {vs : List V} (hf : vs.all flatP = true) : SeqAt.shaped (.tuple (vs.map pd)) = true := by
  obtain ⟨h1, h2⟩ := canLay_flat hf
  unfold SeqAt.shaped
  rw [PyData.canLay0, PyData.depth, h1, h2]
  rfl
theorem same_of_shaped {e : PyData} (h : SeqAt.shaped e = true) : PyData.eqv e e = true := PySem.SeqAt.eqv_refl e (SeqAt.canLay_of_shaped h)
theorem ints_flat (xs : List Int) : (xs.map V.int).all flatP = true := by
  rw [List.all_map]
  exact List.all_eq_true.mpr fun x _ => rfl
/-- two equal lists are not told apart -/
theorem ne_lst {a b : Addr} {vs : List V} (ha : SqL K H a vs) (hb : SqL K H b vs) (hf : vs.all flatP = true) : RV (rNeD K) (.ref a) (.ref b) H (.bl false) := fun H1 e Q q =>
  ⟨_, _, dp_lst (ex_l e ha) hf, dp_lst (ex_l e hb) hf, shaped_lst hf, shaped_lst hf, by rw [same_of_shaped (shaped_lst hf)]; exact q H1 (Ex.refl H1)⟩
theorem ne_tup {a b : Addr} {vs : List V} (ha : SqT K H a vs) (hb : SqT K H b vs) (hf : vs.all flatP = true) : RV (rNeD K) (.ref a) (.ref b) H (.bl false) := fun H1 e Q q =>
  ⟨_, _, dp_tup (ex_t e ha) hf, dp_tup (ex_t e hb) hf, shaped_tup hf, shaped_tup hf, by rw [same_of_shaped (shaped_tup hf)]; exact q H1 (Ex.refl H1)⟩
end
end KD

namespace KA
/-! ### reading behind puts -/
theorem mlay_other {μ : Mem} {f p : Int} {g : Nat → Int} {j : Nat} : ∀ n : Nat, (∀ k : Nat, k < n → j ≠ ix f (p + (k : Int))) → mlay μ f p g n j = μ j
  | 0, _ => rfl
  | n + 1, h => by
    show mset (mlay μ f p g n) (ix f (p + (n : Int))) (g n) j = μ j
    rw [mset_ne (h n (Nat.lt_succ_self n))]
    exact mlay_other n fun k hk => h k (Nat.lt_succ_of_lt hk)
theorem mlay_at {μ : Mem} {f p : Int} {g : Nat → Int} (h0 : 0 ≤ f * 64 + p) {i : Nat} : ∀ n : Nat, i < n → mlay μ f p g n (ix f (p + (i : Int))) = g i % 65536
  | 0, h => by omega
  | n + 1, h => by
    show mset (mlay μ f p g n) (ix f (p + (n : Int))) (g n) (ix f (p + (i : Int))) = g i % 65536
    by_cases e : i = n
    · subst e
      exact mset_same
    · rw [mset_ne (ix_ne (by omega) (by omega) (by omega))]
      exact mlay_at h0 n (by omega)
theorem mputs_other {μ : Mem} {s : Int} {c : Nat → Int} {j : Nat} : ∀ n : Nat, (∀ k : Nat, k < n → j ≠ (s * 8 + (k : Int)).toNat) → mputs μ s c n j = μ j
  | 0, _ => rfl
  | n + 1, h => by
    show mset (mputs μ s c n) (s * 8 + (n : Int)).toNat (c n) j = μ j
    rw [mset_ne (h n (Nat.lt_succ_self n))]
    exact mputs_other n fun k hk => h k (Nat.lt_succ_of_lt hk)
theorem mcap_other {μ : Mem} {s sz us : Int} {c : Nat → Int} {j : Nat} (h0 : 0 ≤ s) (h : (j : Int) < s * 8 ∨ s * 8 + 7 ≤ (j : Int)) : mcap μ s c sz us j = μ j := by
  unfold mcap
  rw [mset_ne (by omega), mset_ne (by omega), mset_ne (by omega)]
  exact mputs_other 4 fun k hk => by omega
theorem mcaps_other {μ : Mem} {F : Int} {j : Nat} (hF : 0 ≤ F) (h : (j : Int) < F * 64 ∨ F * 64 + 64 ≤ (j : Int)) : ∀ n : Nat, n ≤ 3 → mcaps μ F n j = μ j
  | 0, _ => rfl
  | n + 1, hn => by
    show mcap (mcaps μ F n) (F * 8 + ((n : Int) + 1)) (capN F n) 1 0 j = μ j
    rw [mcap_other (by omega) (by omega)]
    exact mcaps_other hF h n (by omega)
theorem mpgs_other {μ : Mem} {F : Int} {j : Nat} (hF : 0 ≤ F) (h : (j : Int) < F * 64 ∨ F * 64 + 64 ≤ (j : Int)) (h2 : (j : Int) < (F + 2) * 64 ∨ (F + 3) * 64 ≤ (j : Int)) : ∀ n : Nat, n ≤ 2 → mpgs μ F n j = μ j
  | 0, _ => rfl
  | n + 1, hn => by
    show ment (mcap (mpgs μ F n) (F * 8 + ((n : Int) + 6)) (at0 [2, F + ((n : Int) + 3), 7, 0]) 1 0) (F + 2) ((n : Int) + 3 - 3) (at0 [F + ((n : Int) + 3) + 1, 3, F * 8 + ((n : Int) + 6) + 1]) 3 j = μ j
    rw [ment_other 3 fun k hk => by unfold ix; omega, mcap_other (by omega) (by omega)]
    exact mpgs_other hF h h2 n (by omega)
theorem mth_other {μ : Mem} {t : Int} {ws : List Int} {j : Nat} (ht : 0 ≤ t) (h : (j : Int) < t * 64 ∨ t * 64 + 64 ≤ (j : Int)) : ∀ n : Nat, n ≤ 7 → mth μ t ws n j = μ j
  | 0, _ => rfl
  | n + 1, hn => by
    show mset (mth μ t ws n) (ix t (at0 thP n)) (at0 ws n) j = μ j
    have hb : 0 ≤ at0 thP n ∧ at0 thP n < 64 := by
      have : n = 0 ∨ n = 1 ∨ n = 2 ∨ n = 3 ∨ n = 4 ∨ n = 5 ∨ n = 6 := by omega
      rcases this with e | e | e | e | e | e | e <;> subst e <;> decide
    rw [mset_ne (by unfold ix; omega)]
    exact mth_other ht h n (by omega)
/-- the kernel's frame and the kinds of others stand while a part is laid -/
theorem mbefore_other {μ : Mem} {F d pr bu : Int} {ws : List Int} {j : Nat} (hF : 2 ≤ F) (hw : ws.length ≤ 64) (h1 : (j : Int) < 64 + F ∨ 64 + F + 5 ≤ (j : Int)) (h2 : (j : Int) < F * 64 ∨ (F + 4) * 64 ≤ (j : Int)) : mbefore μ F d pr bu ws j = μ j := by
  unfold mbefore
  rw [mth_other (by omega) (by omega) 7 (by omega), mpgs_other (by omega) (by omega) (by omega) 2 (by omega), mcaps_other (by omega) (by omega) 3 (by omega)]
  unfold mcode mkinds
  rw [mlay_other _ fun k hk => by unfold ix; omega, mlay_other _ fun k hk => by unfold ix; omega]
end KA

namespace KA
theorem thP_bd {n : Nat} (h : n < 7) : 0 ≤ at0 thP n ∧ at0 thP n < 24 := by
  have : n = 0 ∨ n = 1 ∨ n = 2 ∨ n = 3 ∨ n = 4 ∨ n = 5 ∨ n = 6 := by omega
  rcases this with e | e | e | e | e | e | e <;> subst e <;> decide
theorem thP_ne {n i : Nat} (h : n < 7) (hi : i < n) : at0 thP i ≠ at0 thP n := by
  have h1 : n = 0 ∨ n = 1 ∨ n = 2 ∨ n = 3 ∨ n = 4 ∨ n = 5 ∨ n = 6 := by omega
  have h2 : i = 0 ∨ i = 1 ∨ i = 2 ∨ i = 3 ∨ i = 4 ∨ i = 5 := by omega
  rcases h1 with e | e | e | e | e | e | e <;> subst e <;> rcases h2 with e | e | e | e | e | e <;> subst e <;> first | decide | omega
theorem mth_at {μ : Mem} {t : Int} {ws : List Int} (ht : 0 ≤ t) {i : Nat} : ∀ n : Nat, n ≤ 7 → i < n → mth μ t ws n (ix t (at0 thP i)) = at0 ws i % 65536
  | 0, _, h => by omega
  | n + 1, hn, h => by
    show mset (mth μ t ws n) (ix t (at0 thP n)) (at0 ws n) (ix t (at0 thP i)) = at0 ws i % 65536
    by_cases e : i = n
    · subst e
      exact mset_same
    · have b1 := thP_bd (n := i) (by omega)
      have b2 := thP_bd (n := n) (by omega)
      have b3 := thP_ne (n := n) (i := i) (by omega) (by omega)
      rw [mset_ne (ix_ne (by omega) (by omega) (by omega))]
      exact mth_at ht n (by omega) (by omega)
/-- the words of the new thread that no put touches -/
theorem mbefore_th {μ : Mem} {F d pr bu : Int} {ws : List Int} (hF : 2 ≤ F) (hw : ws.length ≤ 64) {p : Int} (hp : 24 ≤ p) (hp2 : p < 64) : mbefore μ F d pr bu ws (ix (F + 1) p) = μ (ix (F + 1) p) := by
  unfold mbefore
  have key : ∀ (ν : Mem) (xs : List Int) (n : Nat), n ≤ 7 → mth ν (F + 1) xs n (ix (F + 1) p) = ν (ix (F + 1) p) := fun ν xs n => by
    induction n with
    | zero => intro _; rfl
    | succ n ih =>
      intro hn
      show mset (mth ν (F + 1) xs n) (ix (F + 1) (at0 thP n)) (at0 xs n) (ix (F + 1) p) = ν (ix (F + 1) p)
      have b := thP_bd (n := n) (by omega)
      rw [mset_ne (ix_ne (by omega) (by omega) (by omega))]
      exact ih (by omega)
  rw [key _ _ 7 (by omega), mpgs_other (by omega) (by unfold ix; omega) (by unfold ix; omega) 2 (by omega), mcaps_other (by omega) (by unfold ix; omega) 3 (by omega)]
  unfold mcode mkinds
  rw [mlay_other _ fun k hk => by unfold ix; omega, mlay_other _ fun k hk => by unfold ix; omega]
theorem mnum_before {μ : Mem} {F d pr bu : Int} {ws : List Int} (hF : 2 ≤ F) (hw : ws.length ≤ 64) (hl : μ (ix (F + 1) 24) = 0) (d0 : 0 ≤ d) (d1 : d < 2) (p0 : 0 ≤ pr) (p1 : pr < 4) : mnum (mbefore μ F d pr bu ws) (F + 1) = d * 4 + pr := by
  have h22 : mbefore μ F d pr bu ws (ix (F + 1) 22) = d := by
    have := mth_at (μ := mpgs (mcaps (mcode (mkinds μ F 5) F ws ws.length) F 3) F 2) (t := F + 1) (ws := [F + 1, F + 3, pr, bu, bu, d, 1]) (by omega) (i := 5) 7 (by omega) (by omega)
    have e : at0 [F + 1, F + 3, pr, bu, bu, d, 1] 5 % 65536 = d := by show d % 65536 = d; omega
    rw [e] at this
    exact this
  have h12 : mbefore μ F d pr bu ws (ix (F + 1) 12) = pr := by
    have := mth_at (μ := mpgs (mcaps (mcode (mkinds μ F 5) F ws ws.length) F 3) F 2) (t := F + 1) (ws := [F + 1, F + 3, pr, bu, bu, d, 1]) (by omega) (i := 2) 7 (by omega) (by omega)
    have e : at0 [F + 1, F + 3, pr, bu, bu, d, 1] 2 % 65536 = pr := by show pr % 65536 = pr; omega
    rw [e] at this
    exact this
  have h24 : mbefore μ F d pr bu ws (ix (F + 1) 24) = 0 := by rw [mbefore_th hF hw (by omega) (by omega)]; exact hl
  unfold mnum mrank
  rw [h22, h24, h12, if_neg (by omega)]
theorem read6 {μ : Mem} {F d pr bu : Int} {ws : List Int} (r : Room6 μ F) (hw : ws.length ≤ 64) (d0 : 0 ≤ d) (d1 : d < 2) (p0 : 0 ≤ pr) (p1 : pr < 4) : Read6 μ F d pr bu ws := by
  have f2 := r.f2
  have f5 := r.f5
  have hn : mnum (mbefore μ F d pr bu ws) (F + 1) = d * 4 + pr := mnum_before f2 hw r.lent d0 d1 p0 p1
  refine ⟨fun k hk => ?_, by omega, ?_⟩
  · rw [mcap_other (by omega) (by unfold ix; omega), mpgs_other (by omega) (by unfold ix; omega) (by unfold ix; omega) k (by omega), mcaps_other (by omega) (by unfold ix; omega) 3 (by omega)]
    unfold mcode
    rw [mlay_other _ fun k hk => by unfold ix; omega]
    have := mlay_at (μ := μ) (f := 1) (p := F) (g := at0 [4, 5, 3, 2, 2]) (by omega) (i := 2) 5 (by omega)
    have e : ((2 : Nat) : Int) = 2 := rfl
    rw [e] at this
    unfold mkinds
    rw [this]
    decide
  · rw [hn]
    have eo : mbefore μ F d pr bu ws (ix 0 (12 + (d * 4 + pr))) = μ (ix 0 (12 + (d * 4 + pr))) := mbefore_other f2 hw (by unfold ix; omega) (by unfold ix; omega)
    rw [eo]
    intro h
    rcases r.tail (d * 4 + pr) (by omega) (by omega) with z | z
    · exact absurd z h
    · exact ⟨by omega, by omega⟩
end KA

namespace KA
theorem mjoin_other {μ : Mem} {t : Int} {j : Nat} (ht : 2 ≤ t ∧ t < 32) (hn : 0 ≤ mnum μ t ∧ mnum μ t < 8) (hl : μ (ix 0 (12 + mnum μ t)) = 0 ∨ (2 ≤ μ (ix 0 (12 + mnum μ t)) - 1 ∧ μ (ix 0 (12 + mnum μ t)) - 1 < 32)) (h1 : j ≠ ix 0 (4 + mnum μ t)) (h2 : j ≠ ix 0 (12 + mnum μ t)) (h3 : ∀ u : Int, 2 ≤ u ∧ u < 32 → j ≠ ix u 15) : mjoin μ t j = μ j := by
  unfold mjoin mpush
  rw [mset_ne (h3 t ht), mset_ne h2]
  split
  · rename_i h
    rw [mset_ne (h3 _ (hl.resolve_left h))]
  · rw [mset_ne h1]
theorem mjoin_tail {μ : Mem} {t : Int} (ht : 2 ≤ t ∧ t < 32) (hn : 0 ≤ mnum μ t ∧ mnum μ t < 8) : mjoin μ t (ix 0 (12 + mnum μ t)) = t + 1 := by
  unfold mjoin mpush
  have h : ix 0 (12 + mnum μ t) ≠ ix t 15 := by unfold ix; omega
  rw [mset_ne h, mset_same]
  obtain ⟨a, b⟩ := ht
  omega
theorem room6_next {μ : Mem} {F d pr bu : Int} {ws : List Int} (r : Room6 μ F) (hw : ws.length ≤ 64) (d0 : 0 ≤ d) (d1 : d < 2) (p0 : 0 ≤ pr) (p1 : pr < 4) (h5 : F + 10 ≤ 32) (hl : μ (ix (F + 5 + 1) 24) = 0) : Room6 (mbegin μ F d pr bu ws) (F + 5) := by
  have f2 := r.f2
  have f5 := r.f5
  have R := read6 (bu := bu) r hw d0 d1 p0 p1
  have hn := R.num
  have ht : 2 ≤ F + 1 ∧ F + 1 < 32 := ⟨by omega, by omega⟩
  have hm : mnum (mbefore μ F d pr bu ws) (F + 1) = d * 4 + pr := mnum_before f2 hw r.lent d0 d1 p0 p1
  have tl : mbefore μ F d pr bu ws (ix 0 (12 + mnum (mbefore μ F d pr bu ws) (F + 1))) = 0 ∨ (2 ≤ mbefore μ F d pr bu ws (ix 0 (12 + mnum (mbefore μ F d pr bu ws) (F + 1))) - 1 ∧ mbefore μ F d pr bu ws (ix 0 (12 + mnum (mbefore μ F d pr bu ws) (F + 1))) - 1 < 32) := by
    have eo : mbefore μ F d pr bu ws (ix 0 (12 + (d * 4 + pr))) = μ (ix 0 (12 + (d * 4 + pr))) := mbefore_other f2 hw (by unfold ix; omega) (by unfold ix; omega)
    rw [hm, eo]
    exact r.tail (d * 4 + pr) (by omega) (by omega)
  refine ⟨by omega, by omega, ?_, fun n n0 n1 => ?_⟩
  · unfold mbegin
    rw [mjoin_other ht hn tl (by unfold ix; omega) (by unfold ix; omega) (fun u hu => by obtain ⟨a, b⟩ := hu; unfold ix; omega), mbefore_other f2 hw (by unfold ix; omega) (by unfold ix; omega)]
    exact hl
  · by_cases e : n = mnum (mbefore μ F d pr bu ws) (F + 1)
    · refine .inr ?_
      unfold mbegin
      rw [e, mjoin_tail ht hn]
      omega
    · unfold mbegin
      rw [mjoin_other ht hn tl (by unfold ix; omega) (by unfold ix; omega) (fun u hu => by obtain ⟨a, b⟩ := hu; unfold ix; omega), mbefore_other f2 hw (by unfold ix; omega) (by unfold ix; omega)]
      exact r.tail n n0 n1
end KA

namespace KA
/-! ### the queues in memory -/
def th (k : Nat) : Int := 3 + 5 * (k : Int)
def Seg (μ : Mem) : Int → List Nat → Prop
  | v, [] => v = 0
  | v, k :: q => v = th k + 1 ∧ Seg μ (μ (ix (th k) 15)) q
def lastV (q : List Nat) : Int := match q.getLast? with | none => 0 | some k => th k + 1
abbrev QF : Type := Int → List Nat
structure Qs (μ : Mem) (Q : QF) : Prop where
  seg : ∀ n : Int, 0 ≤ n → n < 8 → Seg μ (μ (ix 0 (4 + n))) (Q n)
  last : ∀ n : Int, 0 ≤ n → n < 8 → μ (ix 0 (12 + n)) = lastV (Q n)
/-- the queues' members -/
structure QW (N : Nat) (key : Nat → Int) (Q : QF) : Prop where
  nd : ∀ n : Int, 0 ≤ n → n < 8 → (Q n).Nodup
  mem : ∀ n : Int, 0 ≤ n → n < 8 → ∀ k ∈ Q n, k < N ∧ key k = n
theorem Seg.frame {μ μ' : Mem} : ∀ {q : List Nat} {v : Int}, Seg μ v q → (∀ k ∈ q, μ' (ix (th k) 15) = μ (ix (th k) 15)) → Seg μ' v q
  | [], _, h, _ => h
  | k :: q, v, h, e => ⟨h.1, by rw [e k (List.mem_cons_self ..)]; exact Seg.frame h.2 fun x hx => e x (List.mem_cons_of_mem _ hx)⟩
theorem seg_push {μ μ' : Mem} {k : Nat} (h0 : μ' (ix (th k) 15) = 0) : ∀ {q : List Nat} {v : Int}, q.Nodup → Seg μ v q → (∀ l, q.getLast? = some l → μ' (ix (th l) 15) = th k + 1) → (∀ x ∈ q, q.getLast? ≠ some x → μ' (ix (th x) 15) = μ (ix (th x) 15)) → Seg μ' (if q = [] then th k + 1 else v) (q ++ [k])
  | [], v, _, _, _, _ => ⟨rfl, h0⟩
  | [a], v, _, h, hl, hm => ⟨h.1, by rw [hl a rfl]; exact ⟨rfl, h0⟩⟩
  | a :: b :: q, v, nd, h, hl, hm => by
    have na : a ∉ b :: q := (List.nodup_cons.mp nd).1
    refine ⟨h.1, ?_⟩
    rw [hm a (List.mem_cons_self ..) (fun z => na (by rw [List.getLast?_cons_cons] at z; exact List.mem_of_getLast? z))]
    have := seg_push h0 (List.nodup_cons.mp nd).2 h.2 (fun l z => hl l (by rw [List.getLast?_cons_cons]; exact z)) (fun x hx z => hm x (List.mem_cons_of_mem _ hx) (by rw [List.getLast?_cons_cons]; exact z))
    rw [if_neg (by simp)] at this
    exact this
/-- the words of queues -/
def QWord (j : Nat) : Prop := (4 ≤ j ∧ j < 20) ∨ j = 207 ∨ j = 527 ∨ j = 847 ∨ j = 1167
theorem qword_link {k : Nat} (h : k < 4) : QWord (ix (th k) 15) := by unfold QWord ix th; omega
theorem qword_head {n : Int} (h0 : 0 ≤ n) (h1 : n < 8) : QWord (ix 0 (4 + n)) ∧ QWord (ix 0 (12 + n)) := by unfold QWord ix; omega
theorem ix_link_inj {k l : Nat} (h : ix (th k) 15 = ix (th l) 15) : k = l := by unfold ix th at h; omega
theorem Qs.frame {μ μ' : Mem} {Q : QF} {N : Nat} {key : Nat → Int} (w : QW N key Q) (hN : N ≤ 4) (h : Qs μ Q) (e : ∀ j, QWord j → μ' j = μ j) : Qs μ' Q :=
  ⟨fun n n0 n1 => by rw [e _ (qword_head n0 n1).1]; exact (h.seg n n0 n1).frame fun k hk => e _ (qword_link (by have := (w.mem n n0 n1 k hk).1; omega)),
   fun n n0 n1 => by rw [e _ (qword_head n0 n1).2]; exact h.last n n0 n1⟩
theorem lastV_some {q : List Nat} {l : Nat} (h : q.getLast? = some l) : lastV q = th l + 1 := by unfold lastV; rw [h]
theorem lastV_none {q : List Nat} (h : q.getLast? = none) : lastV q = 0 := by unfold lastV; rw [h]
theorem mpush_other {μ : Mem} {n : Int} {k j : Nat} (n0 : 0 ≤ n) (n1 : n < 8) (hk : k < 4) (ht : μ (ix 0 (12 + n)) = 0 ∨ ∃ l : Nat, l < 4 ∧ μ (ix 0 (12 + n)) = th l + 1) (hj : ¬ QWord j) : mpush μ 0 (4 + n) (12 + n) (th k) j = μ j := by
  have e1 : j ≠ ix (th k) 15 := fun z => hj (by rw [z]; exact qword_link hk)
  have e2 : j ≠ ix 0 (12 + n) := fun z => hj (by rw [z]; exact (qword_head n0 n1).2)
  have e3 : j ≠ ix 0 (4 + n) := fun z => hj (by rw [z]; exact (qword_head n0 n1).1)
  unfold mpush
  rw [mset_ne e1, mset_ne e2]
  split
  · rename_i h
    obtain ⟨l, hl, e⟩ := ht.resolve_left h
    have e4 : j ≠ ix (μ (ix 0 (12 + n)) - 1) 15 := fun z => hj (by rw [z, e, show th l + 1 - 1 = th l by omega]; exact qword_link hl)
    rw [mset_ne e4]
  · rw [mset_ne e3]
theorem mtake_other {μ : Mem} {n : Int} {k j : Nat} (n0 : 0 ≤ n) (n1 : n < 8) (hk : k < 4) (hj : ¬ QWord j) : mtake μ 0 (4 + n) (12 + n) (th k) j = μ j := by
  have e1 : j ≠ ix (th k) 15 := fun z => hj (by rw [z]; exact qword_link hk)
  have e2 : j ≠ ix 0 (12 + n) := fun z => hj (by rw [z]; exact (qword_head n0 n1).2)
  have e3 : j ≠ ix 0 (4 + n) := fun z => hj (by rw [z]; exact (qword_head n0 n1).1)
  unfold mtake
  rw [mset_ne e1]
  split
  · rw [mset_ne e2, mset_ne e3]
  · rw [mset_ne e3]
theorem Qs.tail {μ : Mem} {Q : QF} {N : Nat} {key : Nat → Int} (w : QW N key Q) (hN : N ≤ 4) (h : Qs μ Q) {n : Int} (n0 : 0 ≤ n) (n1 : n < 8) : μ (ix 0 (12 + n)) = 0 ∨ ∃ l : Nat, l < 4 ∧ μ (ix 0 (12 + n)) = th l + 1 := by
  rw [h.last n n0 n1]
  cases e : (Q n).getLast? with
  | none => exact .inl (lastV_none e)
  | some l => exact .inr ⟨l, by have := (w.mem n n0 n1 l (List.mem_of_getLast? e)).1; omega, lastV_some e⟩
def qpush (Q : QF) (n : Int) (k : Nat) : QF := fun m => if m = n then Q n ++ [k] else Q m
theorem qs_push {μ : Mem} {Q : QF} {N : Nat} {key : Nat → Int} (w : QW N key Q) (hN : N ≤ 4) (h : Qs μ Q) {n : Int} (n0 : 0 ≤ n) (n1 : n < 8) {k : Nat} (hk : k < 4) (hnew : ∀ m : Int, 0 ≤ m → m < 8 → k ∉ Q m) : Qs (mpush μ 0 (4 + n) (12 + n) (th k)) (qpush Q n k) := by
  have tl := h.last n n0 n1
  have hth : th k < 32 := by unfold th; omega
  have hth0 : 0 ≤ th k := by unfold th; omega
  have rtl : ∀ m : Int, 0 ≤ m → m < 8 → mpush μ 0 (4 + n) (12 + n) (th k) (ix 0 (12 + m)) = if m = n then th k + 1 else μ (ix 0 (12 + m)) := fun m m0 m1 => by
    unfold mpush
    rw [mset_ne (by unfold ix th; omega)]
    by_cases e : m = n
    · subst e
      rw [mset_same, if_pos rfl]
      omega
    · rw [if_neg e, mset_ne (by unfold ix; omega)]
      split
      · rename_i hne
        obtain ⟨l, hl, el⟩ := (Qs.tail w hN h n0 n1).resolve_left hne
        rw [mset_ne (by rw [el]; unfold ix th; omega)]
      · rw [mset_ne (by unfold ix; omega)]
  have rlk : mpush μ 0 (4 + n) (12 + n) (th k) (ix (th k) 15) = 0 := by unfold mpush; rw [mset_same]; rfl
  have rl : ∀ x : Nat, x < 4 → x ≠ k → mpush μ 0 (4 + n) (12 + n) (th k) (ix (th x) 15) = if (Q n).getLast? = some x then th k + 1 else μ (ix (th x) 15) := fun x hx nx => by
    unfold mpush
    rw [mset_ne (fun z => nx (ix_link_inj z)), mset_ne (by unfold ix th; omega)]
    cases e : (Q n).getLast? with
    | none =>
      rw [lastV_none e] at tl
      rw [if_neg (by rw [tl]; exact fun z => z rfl), if_neg (fun z => by cases z), mset_ne (by unfold ix th; omega)]
    | some l =>
      rw [lastV_some e] at tl
      rw [if_pos (by rw [tl]; unfold th; omega), tl, show th l + 1 - 1 = th l by omega]
      by_cases z : l = x
      · subst z
        rw [if_pos rfl, mset_same]
        omega
      · rw [if_neg (fun y => z (Option.some.inj y)), mset_ne (fun y => z (ix_link_inj y).symm)]
  have rh : ∀ m : Int, 0 ≤ m → m < 8 → mpush μ 0 (4 + n) (12 + n) (th k) (ix 0 (4 + m)) = if m = n ∧ Q n = [] then th k + 1 else μ (ix 0 (4 + m)) := fun m m0 m1 => by
    unfold mpush
    rw [mset_ne (by unfold ix th; omega), mset_ne (by unfold ix; omega)]
    cases e : (Q n).getLast? with
    | none =>
      rw [lastV_none e] at tl
      have en : Q n = [] := List.getLast?_eq_none_iff.mp e
      rw [if_neg (by rw [tl]; exact fun z => z rfl)]
      by_cases z : m = n
      · subst z
        rw [mset_same, if_pos ⟨rfl, en⟩]
        omega
      · rw [if_neg (fun y => z y.1), mset_ne (by unfold ix; omega)]
    | some l =>
      rw [lastV_some e] at tl
      rw [if_pos (by rw [tl]; unfold th; omega), if_neg (fun y => by rw [y.2] at e; cases e), tl, mset_ne (by unfold ix th; omega)]
  refine ⟨fun m m0 m1 => ?_, fun m m0 m1 => ?_⟩
  · rw [rh m m0 m1]
    unfold qpush
    by_cases e : m = n
    · subst e
      rw [if_pos rfl]
      have := seg_push (μ := μ) (v := μ (ix 0 (4 + m))) rlk (w.nd m m0 m1) (h.seg m m0 m1) (fun l z => by rw [rl l (by have := (w.mem m m0 m1 l (List.mem_of_getLast? z)).1; omega) (fun y => hnew m m0 m1 (by rw [← y]; exact List.mem_of_getLast? z)), if_pos z]) (fun x hx z => by rw [rl x (by have := (w.mem m m0 m1 x hx).1; omega) (fun y => hnew m m0 m1 (by rw [← y]; exact hx)), if_neg z])
      by_cases e2 : Q m = []
      · rw [if_pos e2] at this
        rw [if_pos ⟨rfl, e2⟩]
        exact this
      · rw [if_neg e2] at this
        rw [if_neg (fun z => e2 z.2)]
        exact this
    · rw [if_neg e, if_neg (fun z => e z.1)]
      refine (h.seg m m0 m1).frame fun x hx => ?_
      have hx4 := w.mem m m0 m1 x hx
      rw [rl x (by omega) (fun y => hnew m m0 m1 (by rw [← y]; exact hx)), if_neg (fun z => e (by rw [← hx4.2]; exact (w.mem n n0 n1 x (List.mem_of_getLast? z)).2))]
  · rw [rtl m m0 m1]
    unfold qpush
    by_cases e : m = n
    · subst e
      rw [if_pos rfl, if_pos rfl, lastV_some (l := k) (by simp)]
    · rw [if_neg e, if_neg e]
      exact h.last m m0 m1
def qdrop (Q : QF) (n : Int) : QF := fun m => if m = n then (Q n).tail else Q m
theorem qs_take {μ : Mem} {Q : QF} {N : Nat} {key : Nat → Int} (w : QW N key Q) (hN : N ≤ 4) (h : Qs μ Q) {n : Int} (n0 : 0 ≤ n) (n1 : n < 8) {k : Nat} {q : List Nat} (hq : Q n = k :: q) : Qs (mtake μ 0 (4 + n) (12 + n) (th k)) (qdrop Q n) := by
  have hk4 := w.mem n n0 n1 k (by rw [hq]; exact List.mem_cons_self ..)
  have sg := h.seg n n0 n1
  have nd := w.nd n n0 n1
  have tl := h.last n n0 n1
  have hm := w.mem n n0 n1
  rw [hq] at sg nd tl hm
  obtain ⟨s1, s2⟩ := sg
  have nk := (List.nodup_cons.mp nd).1
  have rl : ∀ x : Nat, x < 4 → x ≠ k → mtake μ 0 (4 + n) (12 + n) (th k) (ix (th x) 15) = μ (ix (th x) 15) := fun x hx nx => by
    unfold mtake
    rw [mset_ne (fun z => nx (ix_link_inj z))]
    split
    · rw [mset_ne (by unfold ix th; omega), mset_ne (by unfold ix th; omega)]
    · rw [mset_ne (by unfold ix th; omega)]
  have rh : ∀ m : Int, 0 ≤ m → m < 8 → mtake μ 0 (4 + n) (12 + n) (th k) (ix 0 (4 + m)) = if m = n then μ (ix (th k) 15) % 65536 else μ (ix 0 (4 + m)) := fun m m0 m1 => by
    unfold mtake
    rw [mset_ne (by unfold ix th; omega)]
    by_cases e : m = n
    · subst e
      rw [if_pos rfl]
      split
      · rw [mset_ne (by unfold ix; omega), mset_same]
      · rw [mset_same]
    · rw [if_neg e]
      split
      · rw [mset_ne (by unfold ix; omega), mset_ne (by unfold ix; omega)]
      · rw [mset_ne (by unfold ix; omega)]
  have rt : ∀ m : Int, 0 ≤ m → m < 8 → mtake μ 0 (4 + n) (12 + n) (th k) (ix 0 (12 + m)) = if m = n ∧ q = [] then 0 else μ (ix 0 (12 + m)) := fun m m0 m1 => by
    unfold mtake
    rw [mset_ne (by unfold ix th; omega)]
    cases q with
    | nil =>
      have s2 : μ (ix (th k) 15) = 0 := s2
      rw [if_pos s2]
      by_cases e : m = n
      · subst e
        rw [if_pos ⟨rfl, rfl⟩, mset_same]
        rfl
      · rw [if_neg (fun z => e z.1), mset_ne (by unfold ix; omega), mset_ne (by unfold ix; omega)]
    | cons b q =>
      have s2 : μ (ix (th k) 15) = th b + 1 := s2.1
      rw [if_neg (by rw [s2]; unfold th; omega), if_neg (fun z => by cases z.2), mset_ne (by unfold ix; omega)]
  refine ⟨fun m m0 m1 => ?_, fun m m0 m1 => ?_⟩
  · rw [rh m m0 m1]
    unfold qdrop
    by_cases e : m = n
    · subst e
      rw [if_pos rfl, if_pos rfl, hq, List.tail_cons]
      have e2 : μ (ix (th k) 15) % 65536 = μ (ix (th k) 15) := by
        cases q with
        | nil =>
          have s2 : μ (ix (th k) 15) = 0 := s2
          rw [s2]
          rfl
        | cons b q =>
          have s3 : μ (ix (th k) 15) = th b + 1 := s2.1
          have hb := hm b (List.mem_cons_of_mem _ (List.mem_cons_self ..))
          rw [s3]
          unfold th
          omega
      rw [e2]
      exact s2.frame fun x hx => rl x (by have := (hm x (List.mem_cons_of_mem _ hx)).1; omega) (fun z => nk (by rw [← z]; exact hx))
    · rw [if_neg e, if_neg e]
      refine (h.seg m m0 m1).frame fun x hx => rl x (by have := (w.mem m m0 m1 x hx).1; omega) (fun z => e ?_)
      rw [← (w.mem m m0 m1 x hx).2, z, hk4.2]
  · rw [rt m m0 m1]
    unfold qdrop
    by_cases e : m = n
    · subst e
      rw [if_pos rfl, hq, List.tail_cons]
      cases q with
      | nil => rw [if_pos ⟨rfl, rfl⟩]; rfl
      | cons b q =>
        rw [if_neg (fun z => by cases z.2), tl]
        unfold lastV
        rw [List.getLast?_cons_cons]
    · rw [if_neg e, if_neg (fun z => e z.1)]
      exact h.last m m0 m1
theorem QW.push {Q : QF} {N : Nat} {key : Nat → Int} (w : QW N key Q) {n : Int} {k : Nat} (hk : k < N) (hkey : key k = n) (hnew : ∀ m : Int, 0 ≤ m → m < 8 → k ∉ Q m) : QW N key (qpush Q n k) := by
  refine ⟨fun m m0 m1 => ?_, fun m m0 m1 x hx => ?_⟩
  · unfold qpush
    split
    · rename_i e
      subst e
      refine List.nodup_append.mpr ⟨w.nd m m0 m1, by simp, fun a ha b hb => ?_⟩
      have : b = k := by simpa using hb
      subst this
      exact fun z => hnew m m0 m1 (by rw [← z]; exact ha)
    · exact w.nd m m0 m1
  · unfold qpush at hx
    split at hx
    · rename_i e
      subst e
      rcases List.mem_append.mp hx with h | h
      · exact w.mem m m0 m1 x h
      · have : x = k := by simpa using h
        subst this
        exact ⟨hk, hkey⟩
    · exact w.mem m m0 m1 x hx
theorem QW.drop {Q : QF} {N : Nat} {key : Nat → Int} (w : QW N key Q) {n : Int} : QW N key (qdrop Q n) := by
  refine ⟨fun m m0 m1 => ?_, fun m m0 m1 x hx => ?_⟩
  · unfold qdrop
    split
    · rename_i e
      subst e
      exact (List.tail_sublist _).nodup (w.nd m m0 m1)
    · exact w.nd m m0 m1
  · unfold qdrop at hx
    split at hx
    · rename_i e
      subst e
      exact w.mem m m0 m1 x (List.mem_of_mem_tail hx)
    · exact w.mem m m0 m1 x hx
theorem QW.more {Q : QF} {N N' : Nat} {key : Nat → Int} (w : QW N key Q) (h : N ≤ N') : QW N' key Q := ⟨w.nd, fun n n0 n1 k hk => ⟨Nat.lt_of_lt_of_le (w.mem n n0 n1 k hk).1 h, (w.mem n n0 n1 k hk).2⟩⟩
end KA

namespace KA
/-! ### the law's own machine -/
def codeOf (kind : Int) : List Int := if kind = 0 then [8769, 24576] else if kind = 1 then [40960, 24576] else [4613, 40960, 33345, 24577]
def pcOf (kind : Int) (s : Nat) : Int := if kind = 2 then (if s = 0 then 0 else ((s : Int) - 1) % 3 + 1) else (s : Int) % 2
def yields (kind : Int) (s : Nat) : Bool := (decide (kind = 1) && decide ((s : Int) % 2 = 0)) || (decide (kind = 2) && (decide (s = 1) || (decide (1 < s) && decide (((s : Int) - 1) % 3 = 0))))
theorem pc_bd {kind : Int} (s : Nat) : 0 ≤ pcOf kind s ∧ pcOf kind s < 4 := by
  unfold pcOf
  split
  · split <;> omega
  · omega
/-- the word that is next, and where it leads -/
theorem code_step {kind : Int} (hk : 0 ≤ kind ∧ kind < 3) (s : Nat) : ∃ wd, at0 (codeOf kind) (pcOf kind s).toNat = wd ∧ (pcOf kind s).toNat < (codeOf kind).length ∧
    (wd / 4096 = 1 ∨ wd / 4096 = 2 ∨ wd / 4096 = 6 ∨ wd / 4096 = 8 ∨ (wd / 4096 = 10 ∧ wd % 64 = 0)) ∧ (if wd / 4096 = 6 then wd / 64 % 8 * 64 + wd % 64 else pcOf kind s + 1) = pcOf kind (s + 1) ∧ (wd / 4096 = 10 ↔ yields kind s = true) := by
  have h3 : kind = 0 ∨ kind = 1 ∨ kind = 2 := by omega
  rcases h3 with rfl | rfl | rfl
  · have h2 : (s : Int) % 2 = 0 ∨ (s : Int) % 2 = 1 := by omega
    have hy : yields 0 s = false := rfl
    rcases h2 with h | h
    · have e1 : pcOf 0 s = 0 := by show (s : Int) % 2 = 0; exact h
      have e2 : pcOf 0 (s + 1) = 1 := by show ((s + 1 : Nat) : Int) % 2 = 1; omega
      rw [e1, e2, hy]
      exact ⟨8769, by decide⟩
    · have e1 : pcOf 0 s = 1 := by show (s : Int) % 2 = 1; exact h
      have e2 : pcOf 0 (s + 1) = 0 := by show ((s + 1 : Nat) : Int) % 2 = 0; omega
      rw [e1, e2, hy]
      exact ⟨24576, by decide⟩
  · have h2 : (s : Int) % 2 = 0 ∨ (s : Int) % 2 = 1 := by omega
    rcases h2 with h | h
    · have e1 : pcOf 1 s = 0 := by show (s : Int) % 2 = 0; exact h
      have e2 : pcOf 1 (s + 1) = 1 := by show ((s + 1 : Nat) : Int) % 2 = 1; omega
      have hy : yields 1 s = true := by unfold yields; rw [h]; rfl
      rw [e1, e2, hy]
      exact ⟨40960, by decide⟩
    · have e1 : pcOf 1 s = 1 := by show (s : Int) % 2 = 1; exact h
      have e2 : pcOf 1 (s + 1) = 0 := by show ((s + 1 : Nat) : Int) % 2 = 0; omega
      have hy : yields 1 s = false := by unfold yields; rw [h]; rfl
      rw [e1, e2, hy]
      exact ⟨24576, by decide⟩
  · by_cases h0 : s = 0
    · subst h0
      exact ⟨4613, by decide⟩
    · have ep : pcOf 2 s = ((s : Int) - 1) % 3 + 1 := by unfold pcOf; rw [if_pos rfl, if_neg h0]
      have en : pcOf 2 (s + 1) = ((s + 1 : Nat) - 1 : Int) % 3 + 1 := by unfold pcOf; rw [if_pos rfl, if_neg (by omega)]
      have h2 : ((s : Int) - 1) % 3 = 0 ∨ ((s : Int) - 1) % 3 = 1 ∨ ((s : Int) - 1) % 3 = 2 := by omega
      have hy : yields 2 s = decide (((s : Int) - 1) % 3 = 0) := by
        unfold yields
        by_cases h1 : s = 1
        · subst h1
          rfl
        · have : decide (1 < s) = true := decide_eq_true (by omega)
          rw [decide_eq_false h1, this]
          simp
      rcases h2 with h | h | h
      · have e1 : pcOf 2 s = 1 := by omega
        have e2 : pcOf 2 (s + 1) = 2 := by omega
        rw [e1, e2, hy, h]
        exact ⟨40960, by decide⟩
      · have e1 : pcOf 2 s = 2 := by omega
        have e2 : pcOf 2 (s + 1) = 3 := by omega
        rw [e1, e2, hy, h]
        exact ⟨33345, by decide⟩
      · have e1 : pcOf 2 s = 3 := by omega
        have e2 : pcOf 2 (s + 1) = 1 := by omega
        rw [e1, e2, hy, h]
        exact ⟨24577, by decide⟩
structure Cfg where
  pl : List (Int × Int)
  ps : List Part6
  ks : List Int
def Cfg.P (c : Cfg) (k : Nat) : Part6 := c.ps.getD k ⟨0, 0, 0, []⟩
def Cfg.kd (c : Cfg) (k : Nat) : Int := c.ks.getD k 0
def Cfg.key (c : Cfg) (k : Nat) : Int := (c.P k).d * 4 + (c.P k).pr
def Cfg.du (c : Cfg) (i : Nat) : Int := (c.pl.getD i (0, 0)).2
def Cfg.dm (c : Cfg) (i : Nat) : Int := (c.pl.getD i (0, 0)).1
structure GoodCfg (c : Cfg) : Prop where
  pl : GoodPlan c.pl
  n1 : 1 ≤ c.ps.length
  n4 : c.ps.length ≤ 4
  kl : c.ks.length = c.ps.length
  part : ∀ k, k < c.ps.length → GoodPart (c.P k) ∧ 0 ≤ c.kd k ∧ c.kd k < 3 ∧ (c.P k).ws = codeOf (c.kd k)
structure LS where
  at_ : Nat
  sp : Int
  Q : QF
  left : Nat → Int
  st : Nat → Nat
def qfrom (Q : QF) (d : Int) : Nat → Option Nat
  | 0 => none
  | j + 1 => match Q (d * 4 + (j : Int)) with | [] => qfrom Q d j | a :: _ => some a
def fset {α : Type} (f : Nat → α) (k : Nat) (x : α) : Nat → α := fun i => if i = k then x else f i
theorem fset_same {α : Type} {f : Nat → α} {k : Nat} {x : α} : fset f k x k = x := if_pos rfl
theorem fset_ne {α : Type} {f : Nat → α} {k i : Nat} {x : α} (h : i ≠ k) : fset f k x i = f i := if_neg h
def Cfg.due (c : Cfg) (s : LS) : Option Nat := qfrom s.Q (c.dm s.at_) 4
def Cfg.l1 (c : Cfg) (s : LS) (k : Nat) : Int := if yields (c.kd k) (s.st k) = true then 0 else s.left k - 1
def Cfg.turn (c : Cfg) (s : LS) (k : Nat) : LS :=
  if c.l1 s k < 1 then { s with Q := qpush (qdrop s.Q (c.key k)) (c.key k) k, left := fset s.left k (c.P k).bu, st := fset s.st k (s.st k + 1) }
  else { s with left := fset s.left k (c.l1 s k), st := fset s.st k (s.st k + 1) }
def Cfg.time (c : Cfg) (s : LS) : LS := if s.sp + 1 = c.du s.at_ then { s with at_ := (s.at_ + 1) % c.pl.length, sp := 0 } else { s with sp := s.sp + 1 }
def Cfg.next (c : Cfg) (s : LS) : LS := c.time (match c.due s with | none => s | some k => c.turn s k)
/-- the words that never change: a part's, and the others -/
structure SP (c : Cfg) (μ : Mem) (k : Nat) : Prop where
  kd : μ (ix 1 (th k)) = 5
  st : μ (ix (th k) 0) = 1
  tb : μ (ix (th k) 11) = th k + 2
  pr : μ (ix (th k) 12) = (c.P k).pr
  bu : μ (ix (th k) 13) = (c.P k).bu
  d : μ (ix (th k) 22) = (c.P k).d
  lent : μ (ix (th k) 24) = 0
  e0 : μ (ix (th k + 1) 0) = th k + 3
  e1 : μ (ix (th k + 1) 1) = 3
  e2 : μ (ix (th k + 1) 2) = (th k - 1) * 8 + 7
  code : ∀ i : Nat, i < (c.P k).ws.length → μ (ix (th k + 2) (i : Int)) = at0 (c.P k).ws i
structure Stat (c : Cfg) (μ : Mem) : Prop where
  plan : ∀ i : Nat, i < c.pl.length → μ (ix 0 (24 + (i : Int))) = c.dm i * 256 + c.du i
  plan0 : c.pl.length < 4 → μ (ix 0 (24 + (c.pl.length : Int))) = 0
  dev : ∀ i : Nat, i < 32 → μ (ix 1 (i : Int)) ≠ 8
  sp : ∀ k, k < c.ps.length → SP c μ k
theorem Stat.kd {c : Cfg} {μ : Mem} (h : Stat c μ) (k : Nat) (hk : k < c.ps.length) : μ (ix 1 (th k)) = 5 := (h.sp k hk).kd
theorem Stat.st {c : Cfg} {μ : Mem} (h : Stat c μ) (k : Nat) (hk : k < c.ps.length) : μ (ix (th k) 0) = 1 := (h.sp k hk).st
theorem Stat.tb {c : Cfg} {μ : Mem} (h : Stat c μ) (k : Nat) (hk : k < c.ps.length) : μ (ix (th k) 11) = th k + 2 := (h.sp k hk).tb
theorem Stat.pr {c : Cfg} {μ : Mem} (h : Stat c μ) (k : Nat) (hk : k < c.ps.length) : μ (ix (th k) 12) = (c.P k).pr := (h.sp k hk).pr
theorem Stat.bu {c : Cfg} {μ : Mem} (h : Stat c μ) (k : Nat) (hk : k < c.ps.length) : μ (ix (th k) 13) = (c.P k).bu := (h.sp k hk).bu
theorem Stat.d {c : Cfg} {μ : Mem} (h : Stat c μ) (k : Nat) (hk : k < c.ps.length) : μ (ix (th k) 22) = (c.P k).d := (h.sp k hk).d
theorem Stat.lent {c : Cfg} {μ : Mem} (h : Stat c μ) (k : Nat) (hk : k < c.ps.length) : μ (ix (th k) 24) = 0 := (h.sp k hk).lent
theorem Stat.e0 {c : Cfg} {μ : Mem} (h : Stat c μ) (k : Nat) (hk : k < c.ps.length) : μ (ix (th k + 1) 0) = th k + 3 := (h.sp k hk).e0
theorem Stat.e1 {c : Cfg} {μ : Mem} (h : Stat c μ) (k : Nat) (hk : k < c.ps.length) : μ (ix (th k + 1) 1) = 3 := (h.sp k hk).e1
theorem Stat.e2 {c : Cfg} {μ : Mem} (h : Stat c μ) (k : Nat) (hk : k < c.ps.length) : μ (ix (th k + 1) 2) = (th k - 1) * 8 + 7 := (h.sp k hk).e2
theorem Stat.code {c : Cfg} {μ : Mem} (h : Stat c μ) (k : Nat) (hk : k < c.ps.length) : ∀ i : Nat, i < (c.P k).ws.length → μ (ix (th k + 2) (i : Int)) = at0 (c.P k).ws i := (h.sp k hk).code
/-- the words that do -/
def Dyn (j : Nat) : Prop := j < 20 ∨ (192 ≤ j ∧ j < 1216 ∧ ((1 ≤ (j - 192) % 320 ∧ (j - 192) % 320 ≤ 9) ∨ (j - 192) % 320 = 14 ∨ (j - 192) % 320 = 15))
theorem SP.frame {c : Cfg} {μ μ' : Mem} {k : Nat} (h : SP c μ k) (k4 : k < 4) (hw : (c.P k).ws.length ≤ 64) (e : ∀ j, ¬ Dyn j → (j = ix 1 (th k) ∨ (ix (th k) 0 ≤ j ∧ j < ix (th k + 3) 0)) → μ' j = μ j) : SP c μ' k where
  kd := by rw [e _ (by unfold Dyn ix th; omega) (.inl rfl)]; exact h.kd
  st := by rw [e _ (by unfold Dyn ix th; omega) (.inr (by unfold ix th; omega))]; exact h.st
  tb := by rw [e _ (by unfold Dyn ix th; omega) (.inr (by unfold ix th; omega))]; exact h.tb
  pr := by rw [e _ (by unfold Dyn ix th; omega) (.inr (by unfold ix th; omega))]; exact h.pr
  bu := by rw [e _ (by unfold Dyn ix th; omega) (.inr (by unfold ix th; omega))]; exact h.bu
  d := by rw [e _ (by unfold Dyn ix th; omega) (.inr (by unfold ix th; omega))]; exact h.d
  lent := by rw [e _ (by unfold Dyn ix th; omega) (.inr (by unfold ix th; omega))]; exact h.lent
  e0 := by rw [e _ (by unfold Dyn ix th; omega) (.inr (by unfold ix th; omega))]; exact h.e0
  e1 := by rw [e _ (by unfold Dyn ix th; omega) (.inr (by unfold ix th; omega))]; exact h.e1
  e2 := by rw [e _ (by unfold Dyn ix th; omega) (.inr (by unfold ix th; omega))]; exact h.e2
  code := fun i hi => by rw [e _ (by unfold Dyn ix th; omega) (.inr (by unfold ix th; omega))]; exact h.code i hi
theorem Stat.frame {c : Cfg} {μ μ' : Mem} (h : Stat c μ) (n4 : c.ps.length ≤ 4) (g : GoodCfg c) (e : ∀ j, ¬ Dyn j → μ' j = μ j) : Stat c μ' where
  plan := fun i hi => by rw [e _ (by have := g.pl.len; unfold Dyn ix; omega)]; exact h.plan i hi
  plan0 := fun hi => by rw [e _ (by unfold Dyn ix; omega)]; exact h.plan0 hi
  dev := fun i hi => by rw [e _ (by unfold Dyn ix; omega)]; exact h.dev i hi
  sp := fun k hk => (h.sp k hk).frame (by omega) (g.part k hk).1.wl fun j hj _ => e j hj
theorem Stat.num {c : Cfg} {μ : Mem} (h : Stat c μ) (g : GoodCfg c) {k : Nat} (hk : k < c.ps.length) : mnum μ (th k) = c.key k := by
  have := (g.part k hk).1.p0
  unfold mnum mrank
  rw [h.lent k hk, h.pr k hk, h.d k hk, if_neg (by omega)]
  rfl
theorem GoodCfg.keyb {c : Cfg} (g : GoodCfg c) {k : Nat} (hk : k < c.ps.length) : 0 ≤ c.key k ∧ c.key k < 8 := by
  have := (g.part k hk).1
  have a := this.d0
  have b := this.d1
  have d := this.p0
  have e := this.p1
  unfold Cfg.key
  omega
/-- a thread's words that change -/
structure ThW (c : Cfg) (μ : Mem) (s : LS) (k : Nat) : Prop where
  pc : μ (ix (th k) 1) = pcOf (c.kd k) (s.st k)
  left : μ (ix (th k) 14) = s.left k
  l1 : 1 ≤ s.left k
  lb : s.left k ≤ (c.P k).bu
  reg : ∀ n : Int, 0 ≤ n → n < 8 → 0 ≤ μ (ix (th k) (2 + n)) ∧ μ (ix (th k) (2 + n)) < 65536
structure LInv (c : Cfg) (μ : Mem) (s : LS) : Prop where
  stat : Stat c μ
  at1 : s.at_ < c.pl.length
  sp0 : 0 ≤ s.sp
  sp1 : s.sp < c.du s.at_
  part : μ (ix 0 1) = (s.at_ : Int)
  pleft : μ (ix 0 2) = c.du s.at_ - s.sp
  qw : QW c.ps.length c.key s.Q
  qs : Qs μ s.Q
  th : ∀ k, k < c.ps.length → ThW c μ s k
end KA

namespace KA
/-! ### who goes -/
theorem qfrom_some {Q : QF} {d : Int} {a : Nat} : ∀ {j : Nat}, qfrom Q d j = some a → ∃ i : Nat, i < j ∧ ∃ q, Q (d * 4 + (i : Int)) = a :: q
  | 0, h => by cases h
  | j + 1, h => by
    rw [qfrom] at h
    split at h
    · obtain ⟨i, hi, q, e⟩ := qfrom_some h
      exact ⟨i, Nat.lt_succ_of_lt hi, q, e⟩
    · rename_i a' q e
      cases h
      exact ⟨j, Nat.lt_succ_self j, q, e⟩
theorem mfrom_eq {μ : Mem} {Q : QF} (h : Qs μ Q) {d : Int} (hd : mdom μ = d) (d0 : 0 ≤ d) (d1 : d < 2) : ∀ j : Nat, j ≤ 4 → mfrom μ j = (qfrom Q d j).map th
  | 0, _ => rfl
  | j + 1, hj => by
    rw [mfrom, qfrom]
    have e : mhead μ (j : Int) = μ (ix 0 (4 + (d * 4 + (j : Int)))) := by
      unfold mhead
      rw [hd]
      congr 2
      omega
    have sg := h.seg (d * 4 + (j : Int)) (by omega) (by omega)
    rw [← e] at sg
    cases hq : Q (d * 4 + (j : Int)) with
    | nil =>
      rw [hq] at sg
      rw [if_neg (fun z => z sg)]
      exact mfrom_eq h hd d0 d1 j (by omega)
    | cons a q =>
      rw [hq] at sg
      have e2 : mhead μ (j : Int) = th a + 1 := sg.1
      rw [if_pos (by rw [e2]; unfold th; omega), e2]
      show some (th a + 1 - 1) = some (th a)
      congr 1
      omega
theorem Qs.head {μ : Mem} {Q : QF} (h : Qs μ Q) {n : Int} (n0 : 0 ≤ n) (n1 : n < 8) {k : Nat} {q : List Nat} (e : Q n = k :: q) : μ (ix 0 (4 + n)) = th k + 1 := by
  have := h.seg n n0 n1
  rw [e] at this
  exact this.1
theorem QWord.dyn {j : Nat} (h : QWord j) : Dyn j := by unfold QWord at h; unfold Dyn; omega
theorem th_dyn {k : Nat} (hk : k < 4) {p : Int} (hp : (1 ≤ p ∧ p ≤ 9) ∨ p = 14 ∨ p = 15) : Dyn (ix (th k) p) := by unfold Dyn ix th; omega
theorem th_notq {k : Nat} (hk : k < 4) {p : Int} (hp : (1 ≤ p ∧ p ≤ 9) ∨ p = 14) : ¬ QWord (ix (th k) p) := by unfold QWord ix th; omega
theorem ThW.frame {c : Cfg} {μ μ' : Mem} {s s' : LS} {k : Nat} (h : ThW c μ s k) (e : ∀ p : Int, (1 ≤ p ∧ p ≤ 9) ∨ p = 14 → μ' (ix (KA.th k) p) = μ (ix (KA.th k) p)) (h1 : s'.left k = s.left k) (h2 : s'.st k = s.st k) : ThW c μ' s' k :=
  ⟨by rw [e 1 (by omega), h2]; exact h.pc, by rw [e 14 (by omega), h1]; exact h.left, by rw [h1]; exact h.l1, by rw [h1]; exact h.lb, fun n n0 n1 => by rw [e (2 + n) (by omega)]; exact h.reg n n0 n1⟩
/-- all words stand but the time's -/
theorem LInv.time {c : Cfg} {μ : Mem} {s : LS} (g : GoodCfg c) (h : LInv c μ s) : LInv c (mtime μ) s := by
  have e : ∀ j, j ≠ 0 → mtime μ j = μ j := fun j hj => mset_ne (by show j ≠ 0; exact hj)
  have n4 := g.n4
  exact { stat := h.stat.frame n4 g fun j hj => e j (by unfold Dyn at hj; omega), at1 := h.at1, sp0 := h.sp0, sp1 := h.sp1, part := by rw [e _ (by decide)]; exact h.part, pleft := by rw [e _ (by decide)]; exact h.pleft, qw := h.qw, qs := h.qs.frame h.qw n4 fun j hj => e j (by unfold QWord at hj; omega), th := fun k hk => (h.th k hk).frame (fun p hp => e _ (by unfold ix KA.th; omega)) rfl rfl }
theorem LInv.dom {c : Cfg} {μ : Mem} {s : LS} (g : GoodCfg c) (h : LInv c μ s) : mdom μ = c.dm s.at_ ∧ 0 ≤ c.dm s.at_ ∧ c.dm s.at_ < 2 := by
  have := g.pl.each s.at_ h.at1
  obtain ⟨a, b, d, e⟩ := this
  have a : 0 ≤ c.dm s.at_ := a
  have b : c.dm s.at_ < 2 := b
  have d : 1 ≤ c.du s.at_ := d
  have e : c.du s.at_ ≤ 255 := e
  refine ⟨?_, a, b⟩
  unfold mdom
  rw [h.part, h.stat.plan s.at_ h.at1]
  omega
/-! ### a step -/
theorem mstep_facts {μ : Mem} {k : Nat} (hk : k < 4) {wd pc : Int} (hpc : 0 ≤ pc ∧ pc < 4) (hop : wd / 4096 = 1 ∨ wd / 4096 = 2 ∨ wd / 4096 = 6 ∨ wd / 4096 = 8 ∨ (wd / 4096 = 10 ∧ wd % 64 = 0)) :
    (∀ j, (∀ p : Int, (1 ≤ p ∧ p ≤ 9) ∨ p = 14 → j ≠ ix (th k) p) → mstep μ (th k) wd pc j = μ j) ∧
    mstep μ (th k) wd pc (ix (th k) 1) = (if wd / 4096 = 6 then wd / 64 % 8 * 64 + wd % 64 else pc + 1) ∧
    mstep μ (th k) wd pc (ix (th k) 14) = (if wd / 4096 = 10 then 1 else μ (ix (th k) 14)) ∧
    ((∀ n : Int, 0 ≤ n → n < 8 → 0 ≤ μ (ix (th k) (2 + n)) ∧ μ (ix (th k) (2 + n)) < 65536) → ∀ n : Int, 0 ≤ n → n < 8 → 0 ≤ mstep μ (th k) wd pc (ix (th k) (2 + n)) ∧ mstep μ (th k) wd pc (ix (th k) (2 + n)) < 65536) := by
  have hth : 0 ≤ th k := by unfold th; omega
  have hr : 0 ≤ wd / 512 % 8 ∧ wd / 512 % 8 < 8 := by omega
  have inr : ∀ (ν : Mem) (r x : Int) (n : Int), (0 ≤ ν (ix (th k) (2 + n)) ∧ ν (ix (th k) (2 + n)) < 65536) → 0 ≤ mset ν (ix (th k) r) x (ix (th k) (2 + n)) ∧ mset ν (ix (th k) r) x (ix (th k) (2 + n)) < 65536 := fun ν r x n hn => by
    unfold mset
    split
    · omega
    · exact hn
  unfold mstep mtrap0
  by_cases h10 : wd / 4096 = 10
  · rw [if_pos h10, if_neg (show ¬ wd / 4096 = 6 by omega), if_pos h10]
    refine ⟨fun j hj => ?_, ?_, ?_, fun hreg n n0 n1 => ?_⟩
    · rw [mset_ne (hj 2 (by omega)), mset_ne (hj 14 (by omega)), mset_ne (hj 1 (by omega))]
    · rw [mset_ne (ix_ne (by omega) (by omega) (by omega)), mset_ne (ix_ne (by omega) (by omega) (by omega)), mset_same]
      omega
    · rw [mset_ne (ix_ne (by omega) (by omega) (by omega)), mset_same]
      rfl
    · exact inr _ _ _ _ (inr _ _ _ _ (inr _ _ _ _ (hreg n n0 n1)))
  · rw [if_neg h10, if_neg h10]
    by_cases h6 : wd / 4096 = 6
    · rw [if_pos h6, if_pos h6]
      refine ⟨fun j hj => ?_, ?_, ?_, fun hreg n n0 n1 => ?_⟩
      · rw [mset_ne (hj 1 (by omega))]
      · rw [mset_same]
        omega
      · rw [mset_ne (ix_ne (by omega) (by omega) (by omega))]
      · exact inr _ _ _ _ (hreg n n0 n1)
    · rw [if_neg h6, if_neg h6]
      by_cases h1 : wd / 4096 = 1
      · rw [if_pos h1]
        refine ⟨fun j hj => ?_, ?_, ?_, fun hreg n n0 n1 => ?_⟩
        · rw [mset_ne (hj 1 (by omega)), mset_ne (hj _ (by omega))]
        · rw [mset_same]
          omega
        · rw [mset_ne (ix_ne (by omega) (by omega) (by omega)), mset_ne (ix_ne (by omega) (by omega) (by omega))]
        · exact inr _ _ _ _ (inr _ _ _ _ (hreg n n0 n1))
      · rw [if_neg h1]
        refine ⟨fun j hj => ?_, ?_, ?_, fun hreg n n0 n1 => ?_⟩
        · rw [mset_ne (hj 1 (by omega)), mset_ne (hj _ (by omega))]
        · rw [mset_same]
          omega
        · rw [mset_ne (ix_ne (by omega) (by omega) (by omega)), mset_ne (ix_ne (by omega) (by omega) (by omega))]
        · exact inr _ _ _ _ (inr _ _ _ _ (hreg n n0 n1))
/-! ### a tick's end -/
theorem spent_facts {c : Cfg} (g : GoodCfg c) {μ : Mem} {Q : QF} {k : Nat} {q : List Nat} (hs : Stat c μ) (w : QW c.ps.length c.key Q) (hq : Qs μ Q) (hk : k < c.ps.length) (hQ : Q (c.key k) = k :: q) :
    Spends μ (th k) ∧ (¬ μ (ix (th k) 14) > 1 → Qs (mspent μ (th k)) (qpush (qdrop Q (c.key k)) (c.key k) k) ∧ (∀ j, ¬ QWord j → j ≠ ix (th k) 14 → mspent μ (th k) j = μ j) ∧ mspent μ (th k) (ix (th k) 14) = (c.P k).bu) ∧
    (μ (ix (th k) 14) > 1 → mspent μ (th k) = mset μ (ix (th k) 14) (μ (ix (th k) 14) - 1)) := by
  have n4 := g.n4
  have hk4 : k < 4 := by omega
  obtain ⟨k0, k1⟩ := g.keyb hk
  have b0 := (g.part k hk).1.b0
  have b1 := (g.part k hk).1.b1
  obtain ⟨μ1, e1⟩ : ∃ μ1, μ1 = mset μ (ix (th k) 14) (μ (ix (th k) 13)) := ⟨_, rfl⟩
  have o1 : ∀ j, j ≠ ix (th k) 14 → μ1 j = μ j := fun j hj => by rw [e1, mset_ne hj]
  have s1 : Stat c μ1 := hs.frame n4 g fun j hj => o1 j fun z => hj (by rw [z]; exact th_dyn hk4 (by omega))
  have q1 : Qs μ1 Q := hq.frame w n4 fun j hj => o1 j fun z => th_notq hk4 (.inr rfl) (by rw [← z]; exact hj)
  have m1 := s1.num g hk
  obtain ⟨μ2, e2⟩ : ∃ μ2, μ2 = mtake μ1 0 (4 + c.key k) (12 + c.key k) (th k) := ⟨_, rfl⟩
  have o2 : ∀ j, ¬ QWord j → μ2 j = μ1 j := fun j hj => by rw [e2, mtake_other k0 k1 hk4 hj]
  have s2 : Stat c μ2 := s1.frame n4 g fun j hj => o2 j fun z => hj z.dyn
  have q2 : Qs μ2 (qdrop Q (c.key k)) := by rw [e2]; exact qs_take w n4 q1 k0 k1 hQ
  have w2 : QW c.ps.length c.key (qdrop Q (c.key k)) := w.drop
  have m2 := s2.num g hk
  have hnew : ∀ m : Int, 0 ≤ m → m < 8 → k ∉ qdrop Q (c.key k) m := fun m m0 mb hm => by
    have := (w2.mem m m0 mb k hm).2
    subst this
    unfold qdrop at hm
    rw [if_pos rfl, hQ, List.tail_cons] at hm
    have nd := w.nd _ m0 mb
    rw [hQ] at nd
    exact (List.nodup_cons.mp nd).1 hm
  refine ⟨⟨hs.kd k hk, hs.st k hk, fun hl μ1' he1 => ?_⟩, fun hl => ?_, fun hl => ?_⟩
  · rw [← e1] at he1
    subst he1
    rw [m1]
    refine ⟨k0, k1, q1.head k0 k1 hQ, fun μ2' he2 => ?_⟩
    rw [← e2] at he2
    subst he2
    rw [m2]
    refine ⟨k0, k1, fun hne => ?_⟩
    obtain ⟨l, hl4, el⟩ := (q2.tail w2 n4 k0 k1).resolve_left hne
    rw [el]
    unfold InF th
    omega
  · have em : mspent μ (th k) = mpush μ2 0 (4 + c.key k) (12 + c.key k) (th k) := by
      unfold mspent
      rw [if_neg hl, ← e1]
      unfold mturn mturn2
      rw [m1, ← e2, m2]
    rw [em]
    refine ⟨qs_push w2 n4 q2 k0 k1 hk4 hnew, fun j hj nj => ?_, ?_⟩
    · rw [mpush_other k0 k1 hk4 (q2.tail w2 n4 k0 k1) hj, o2 j hj, o1 j nj]
    · rw [mpush_other k0 k1 hk4 (q2.tail w2 n4 k0 k1) (th_notq hk4 (.inr rfl)), o2 _ (th_notq hk4 (.inr rfl)), e1, mset_same, hs.bu k hk]
      omega
  · unfold mspent
    rw [if_pos hl]
theorem entV_congr {e e' : Ent} {tb pg : Int} (h0 : e tb pg 0 = e' tb pg 0) (h1 : e tb pg 1 = e' tb pg 1) (h2 : e tb pg 2 = e' tb pg 2) : entV e tb pg = entV e' tb pg := by unfold entV; rw [h0, h1, h2]
def ent6 : Ent := fun tb pg i => if pg = 0 then (if i = 0 then tb + 2 else if i = 1 then 3 else if i = 2 then (tb - 2) * 8 + 7 else 0) else 0
/-- who goes: what is asked, and what is then -/
theorem turn_facts {c : Cfg} (g : GoodCfg c) {μ : Mem} {s : LS} (h : LInv c μ s) {k : Nat} (hd : c.due s = some k) :
    k < c.ps.length ∧ c.key k = c.dm s.at_ * 4 + (c.P k).pr ∧ (∃ q, s.Q (c.key k) = k :: q) ∧ ∃ wd, Goes μ ent6 (th k) wd ∧ Spends (mstep μ (th k) wd (μ (ix (th k) 1))) (th k) ∧ LInv c (mspent (mstep μ (th k) wd (μ (ix (th k) 1))) (th k)) (c.turn s k) := by
  have n4 := g.n4
  obtain ⟨dd, d0, d1⟩ := h.dom g
  obtain ⟨i, hi, q, hQ⟩ := qfrom_some hd
  have hm := h.qw.mem (c.dm s.at_ * 4 + (i : Int)) (by omega) (by omega) k (by rw [hQ]; exact List.mem_cons_self ..)
  obtain ⟨hk, hkey⟩ := hm
  have gp := g.part k hk
  have hk4 : k < 4 := by omega
  have hQ' : s.Q (c.key k) = k :: q := by rw [hkey]; exact hQ
  have hpr : c.key k = c.dm s.at_ * 4 + (c.P k).pr := by
    have a := gp.1.d0
    have b := gp.1.d1
    have e := gp.1.p0
    have f := gp.1.p1
    unfold Cfg.key at hkey ⊢
    omega
  refine ⟨hk, hpr, ⟨q, hQ'⟩, ?_⟩
  have T := h.th k hk
  obtain ⟨wd, ew, hlen, hop, hpc, hy⟩ := code_step ⟨gp.2.1, gp.2.2.1⟩ (s.st k)
  have pb := pc_bd (kind := c.kd k) (s.st k)
  rw [T.pc]
  obtain ⟨pc, epc⟩ : ∃ pc, pc = pcOf (c.kd k) (s.st k) := ⟨_, rfl⟩
  rw [← epc] at ew hlen hpc pb ⊢
  have S := h.stat
  have mb := h.th k hk
  have eTB : μ (ix (th k) 11) = (th k + 1) + 1 := by rw [S.tb k hk]; omega
  have hdiv : pc / 64 = 0 := by omega
  have hmod : pc % 64 = pc := by omega
  have efr : frOf μ ent6 (th k) pc = th k + 2 := by
    unfold frOf
    rw [eTB, hdiv]
    show th k + 1 + 1 - 1 + 2 - 1 = th k + 2
    omega
  have ec : μ (ix (th k + 2) (pc % 64)) = wd := by
    have := S.code k hk pc.toNat (by rw [gp.2.2.2]; exact hlen)
    rw [gp.2.2.2, ew, show ((pc.toNat : Nat) : Int) = pc by omega] at this
    rw [hmod]
    exact this
  have hthb : 2 ≤ th k ∧ th k ≤ 18 := by unfold th; omega
  have hG : Goes μ ent6 (th k) wd := by
    refine ⟨hthb.1, by omega, S.kd k hk, ?_, ?_, ?_, hop, T.reg⟩
    · rw [T.pc, ← epc]
      refine ⟨th k + 1, eTB, ⟨by omega, by omega⟩, ?_, by omega, by omega, ?_, ?_, ?_⟩
      · have := S.dev (th k + 1).toNat (by omega)
        rw [show (((th k + 1).toNat : Nat) : Int) = th k + 1 by omega] at this
        exact this
      · rw [hdiv]
        have a0 := S.e0 k hk
        have a1 := S.e1 k hk
        have a2 := S.e2 k hk
        have y0 : μ (ix (th k + 1) (0 * 4 + 0)) = ent6 (th k + 1) 0 0 := by
          show μ (ix (th k + 1) 0) = th k + 1 + 2
          rw [a0]; omega
        have y1 : μ (ix (th k + 1) (0 * 4 + 1)) = ent6 (th k + 1) 0 1 := a1
        have y2 : μ (ix (th k + 1) (0 * 4 + 2)) = ent6 (th k + 1) 0 2 := by
          show μ (ix (th k + 1) 2) = (th k + 1 - 2) * 8 + 7
          rw [a2]; omega
        exact entV_congr y0 y1 y2
      · rw [hdiv]
        show th k + 1 + 2 ≠ 0
        omega
      · rw [hdiv]
        show (3 : Int) % 2 = 1
        decide
    · rw [T.pc, ← epc, efr]
      exact ⟨by omega, by omega⟩
    · rw [T.pc, ← epc, efr]
      exact ec
  obtain ⟨f1, f2, f3, f4⟩ := mstep_facts (μ := μ) hk4 pb hop
  obtain ⟨μ1, eμ⟩ : ∃ μ1, μ1 = mstep μ (th k) wd pc := ⟨_, rfl⟩
  refine ⟨wd, hG, ?_⟩
  rw [← eμ] at f1 f2 f3 f4 ⊢
  have s1 : Stat c μ1 := S.frame n4 g fun j hj => f1 j fun p hp z => hj (by rw [z]; exact th_dyn hk4 (by omega))
  have q1 : Qs μ1 s.Q := h.qs.frame h.qw n4 fun j hj => f1 j fun p hp z => th_notq hk4 hp (by rw [← z]; exact hj)
  obtain ⟨sp, c1, c2⟩ := spent_facts g s1 h.qw q1 hk hQ'
  refine ⟨sp, ?_⟩
  have hl14 : μ1 (ix (th k) 14) = if yields (c.kd k) (s.st k) = true then 1 else s.left k := by
    rw [f3, T.left]
    by_cases hh : wd / 4096 = 10
    · rw [if_pos hh, if_pos (hy.mp hh)]
    · rw [if_neg hh, if_neg (fun z => hh (hy.mpr z))]
  have hpc1 : μ1 (ix (th k) 1) = pcOf (c.kd k) (s.st k + 1) := by rw [f2]; exact hpc
  have reg1 := f4 T.reg
  have oth : ∀ i, i < c.ps.length → i ≠ k → ∀ p : Int, (1 ≤ p ∧ p ≤ 9) ∨ p = 14 → μ1 (ix (th i) p) = μ (ix (th i) p) := fun i hi ni p hp => f1 _ fun p' hp' z => by unfold ix th at z; omega
  have l1v : c.l1 s k = if yields (c.kd k) (s.st k) = true then 0 else s.left k - 1 := rfl
  have b0 := gp.1.b0
  have b1 := gp.1.b1
  have tl1 := T.l1
  have tlb := T.lb
  have zero : ∀ (ν : Mem), (∀ j, ¬ QWord j → j ≠ ix (th k) 14 → ν j = μ1 j) → ν (ix 0 1) = (s.at_ : Int) ∧ ν (ix 0 2) = c.du s.at_ - s.sp := fun ν hν => by
    have z1 : (ix 0 1 : Nat) = 1 := rfl
    have z2 : (ix 0 2 : Nat) = 2 := rfl
    refine ⟨?_, ?_⟩
    · rw [hν _ (by rw [z1]; unfold QWord; omega) (by unfold ix th; omega), f1 _ (fun p hp => by unfold ix th; omega)]
      exact h.part
    · rw [hν _ (by rw [z2]; unfold QWord; omega) (by unfold ix th; omega), f1 _ (fun p hp => by unfold ix th; omega)]
      exact h.pleft
  by_cases hl : μ1 (ix (th k) 14) > 1
  · have es := c2 hl
    have hny : ¬ yields (c.kd k) (s.st k) = true := fun z => by rw [hl14, if_pos z] at hl; omega
    rw [if_neg hny] at hl14 l1v
    have et : c.turn s k = { s with left := fset s.left k (s.left k - 1), st := fset s.st k (s.st k + 1) } := by
      unfold Cfg.turn
      rw [l1v, if_neg (by omega)]
    rw [et, es]
    have o : ∀ j, j ≠ ix (th k) 14 → mset μ1 (ix (th k) 14) (μ1 (ix (th k) 14) - 1) j = μ1 j := fun j hj => mset_ne hj
    obtain ⟨za, zb⟩ := zero (mset μ1 (ix (th k) 14) (μ1 (ix (th k) 14) - 1)) (fun j _ hj => o j hj)
    have hT : ∀ i, i < c.ps.length → ThW c (mset μ1 (ix (KA.th k) 14) (μ1 (ix (KA.th k) 14) - 1)) { s with left := fset s.left k (s.left k - 1), st := fset s.st k (s.st k + 1) } i := fun i hi => by
      by_cases ni : i = k
      · subst ni
        refine ⟨?_, ?_, ?_, ?_, fun n n0 n1 => ?_⟩
        · rw [o _ (ix_ne (by omega) (by omega) (by omega)), hpc1]
          show _ = pcOf (c.kd i) (fset s.st i (s.st i + 1) i)
          rw [fset_same]
        · rw [mset_same, hl14]
          show _ = fset s.left i (s.left i - 1) i
          rw [fset_same]
          omega
        · show 1 ≤ fset s.left i (s.left i - 1) i
          rw [fset_same]
          omega
        · show fset s.left i (s.left i - 1) i ≤ _
          rw [fset_same]
          omega
        · rw [o _ (ix_ne (by omega) (by omega) (by omega))]
          exact reg1 n n0 n1
      · refine (h.th i hi).frame (fun p hp => ?_) (fset_ne ni) (fset_ne ni)
        rw [o _ (by unfold ix th; omega), oth i hi ni p hp]
    exact { stat := s1.frame n4 g fun j hj => o j fun z => hj (by rw [z]; exact th_dyn hk4 (by omega)), at1 := h.at1, sp0 := h.sp0, sp1 := h.sp1, part := za, pleft := zb, qw := h.qw, qs := q1.frame h.qw n4 fun j hj => o j fun z => th_notq hk4 (.inr rfl) (by rw [← z]; exact hj), th := hT }
  · obtain ⟨cq, co, cb⟩ := c1 hl
    have ht : c.l1 s k < 1 := by
      rw [l1v]
      by_cases hyy : yields (c.kd k) (s.st k) = true
      · rw [if_pos hyy]; decide
      · rw [if_neg hyy] at hl14 ⊢
        omega
    have et : c.turn s k = { s with Q := qpush (qdrop s.Q (c.key k)) (c.key k) k, left := fset s.left k (c.P k).bu, st := fset s.st k (s.st k + 1) } := by
      unfold Cfg.turn
      rw [if_pos ht]
    rw [et]
    obtain ⟨k0, k1⟩ := g.keyb hk
    have hnew : ∀ m : Int, 0 ≤ m → m < 8 → k ∉ qdrop s.Q (c.key k) m := fun m m0 mb hm => by
      have := ((h.qw.drop (n := c.key k)).mem m m0 mb k hm).2
      subst this
      unfold qdrop at hm
      rw [if_pos rfl, hQ', List.tail_cons] at hm
      have nd := h.qw.nd _ m0 mb
      rw [hQ'] at nd
      exact (List.nodup_cons.mp nd).1 hm
    obtain ⟨za, zb⟩ := zero (mspent μ1 (th k)) co
    have hT : ∀ i, i < c.ps.length → ThW c (mspent μ1 (KA.th k)) { s with Q := qpush (qdrop s.Q (c.key k)) (c.key k) k, left := fset s.left k (c.P k).bu, st := fset s.st k (s.st k + 1) } i := fun i hi => by
      by_cases ni : i = k
      · subst ni
        refine ⟨?_, ?_, ?_, ?_, fun n n0 n1 => ?_⟩
        · rw [co _ (th_notq hk4 (by omega)) (ix_ne (by omega) (by omega) (by omega)), hpc1]
          show _ = pcOf (c.kd i) (fset s.st i (s.st i + 1) i)
          rw [fset_same]
        · rw [cb]
          show _ = fset s.left i (c.P i).bu i
          rw [fset_same]
        · show 1 ≤ fset s.left i (c.P i).bu i
          rw [fset_same]
          omega
        · show fset s.left i (c.P i).bu i ≤ _
          rw [fset_same]
          exact Int.le_refl _
        · rw [co _ (th_notq hk4 (by omega)) (ix_ne (by omega) (by omega) (by omega))]
          exact reg1 n n0 n1
      · refine (h.th i hi).frame (fun p hp => ?_) (fset_ne ni) (fset_ne ni)
        rw [co _ (th_notq (by omega) hp) (by unfold ix th; omega), oth i hi ni p hp]
    exact { stat := s1.frame n4 g fun j hj => co j (fun z => hj z.dyn) fun z => hj (by rw [z]; exact th_dyn hk4 (by omega)), at1 := h.at1, sp0 := h.sp0, sp1 := h.sp1, part := za, pleft := zb, qw := h.qw.drop.push hk rfl hnew, qs := cq, th := hT }
end KA

namespace KA
/-! ### the time's part, a whole tick -/
theorem LInv.dub {c : Cfg} (g : GoodCfg c) {i : Nat} (hi : i < c.pl.length) : 1 ≤ c.du i ∧ c.du i ≤ 255 ∧ 0 ≤ c.dm i ∧ c.dm i < 2 := by
  obtain ⟨a, b, d, e⟩ := g.pl.each i hi
  exact ⟨d, e, a, b⟩
theorem part_ok {c : Cfg} (g : GoodCfg c) {μ : Mem} {s : LS} (h : LInv c μ s) : LInv c (mpart μ).1 (c.time s) := by
  have n4 := g.n4
  have pl4 := g.pl.len
  have db := LInv.dub g h.at1
  have z1 : (ix 0 1 : Nat) = 1 := rfl
  have z2 : (ix 0 2 : Nat) = 2 := rfl
  have sp0 := h.sp0
  have sp1 := h.sp1
  have mk : ∀ (ν : Mem) (s' : LS), (∀ j, j ≠ 1 → j ≠ 2 → ν j = μ j) → s'.Q = s.Q → s'.left = s.left → s'.st = s.st → s'.at_ < c.pl.length → 0 ≤ s'.sp → s'.sp < c.du s'.at_ → ν (ix 0 1) = (s'.at_ : Int) → ν (ix 0 2) = c.du s'.at_ - s'.sp → LInv c ν s' := fun ν s' e h1 h2 h3 h4 h5 h6 h7 h8 =>
    { stat := h.stat.frame n4 g fun j hj => e j (by unfold Dyn at hj; omega) (by unfold Dyn at hj; omega), at1 := h4, sp0 := h5, sp1 := h6, part := h7, pleft := h8, qw := by rw [h1]; exact h.qw, qs := by rw [h1]; exact h.qs.frame h.qw n4 fun j hj => e j (by unfold QWord at hj; omega) (by unfold QWord at hj; omega), th := fun k hk => (h.th k hk).frame (fun p hp => e _ (by unfold ix KA.th; omega) (by unfold ix KA.th; omega)) (by rw [h2]) (by rw [h3]) }
  by_cases hl : μ (ix 0 2) > 1
  · have em : (mpart μ).1 = mset μ (ix 0 2) (μ (ix 0 2) - 1) := by unfold mpart; rw [if_pos hl]
    have hp := h.pleft
    have et : c.time s = { s with sp := s.sp + 1 } := by unfold Cfg.time; rw [if_neg (by omega)]
    rw [em, et]
    refine mk _ _ (fun j j1 j2 => mset_ne (by rw [z2]; exact j2)) rfl rfl rfl h.at1 (by show 0 ≤ s.sp + 1; omega) (by show s.sp + 1 < c.du s.at_; omega) ?_ ?_
    · rw [mset_ne (by decide)]
      exact h.part
    · rw [mset_same, hp]
      show _ = c.du s.at_ - (s.sp + 1)
      omega
  · have hp := h.pleft
    have et : c.time s = { s with at_ := (s.at_ + 1) % c.pl.length, sp := 0 } := by unfold Cfg.time; rw [if_pos (by omega)]
    obtain ⟨r, hr⟩ : ∃ r : Int, r = if 4 ≤ μ (ix 0 1) + 1 ∨ μ (ix 0 (24 + (μ (ix 0 1) + 1))) % 256 = 0 then 0 else μ (ix 0 1) + 1 := ⟨_, rfl⟩
    have em : (mpart μ).1 = mset (mset μ (ix 0 1) r) (ix 0 2) (mset μ (ix 0 1) r (ix 0 (24 + r)) % 256) := by unfold mpart; rw [if_neg hl, ← hr]
    have hp1 := h.part
    have at1 := h.at1
    have er : r = (((s.at_ + 1) % c.pl.length : Nat) : Int) := by
      rw [hr, hp1]
      by_cases hlast : s.at_ + 1 = c.pl.length
      · rw [hlast, Nat.mod_self]
        refine if_pos ?_
        by_cases h4 : c.pl.length = 4
        · left
          omega
        · right
          have := h.stat.plan0 (by omega)
          rw [show (s.at_ : Int) + 1 = (c.pl.length : Int) by omega, this]
          rfl
      · rw [Nat.mod_eq_of_lt (by omega)]
        have hd2 := LInv.dub g (i := s.at_ + 1) (by omega)
        have := h.stat.plan (s.at_ + 1) (by omega)
        refine (if_neg ?_).trans (by omega)
        rw [show (24 : Int) + ((s.at_ : Int) + 1) = 24 + ((s.at_ + 1 : Nat) : Int) by omega, this]
        omega
    have hlt : (s.at_ + 1) % c.pl.length < c.pl.length := Nat.mod_lt _ (by omega)
    have hd3 := LInv.dub g hlt
    have hpl := h.stat.plan _ hlt
    rw [em, et]
    refine mk _ _ (fun j j1 j2 => by rw [mset_ne (by rw [z2]; exact j2), mset_ne (by rw [z1]; exact j1)]) rfl rfl rfl hlt (Int.le_refl 0) (by show (0 : Int) < c.du ((s.at_ + 1) % c.pl.length); omega) ?_ ?_
    · rw [mset_ne (by decide), mset_same, er]
      show _ = (((s.at_ + 1) % c.pl.length : Nat) : Int)
      omega
    · rw [mset_same, mset_ne (by unfold ix; omega), er, hpl]
      show _ = c.du ((s.at_ + 1) % c.pl.length) - 0
      omega
theorem tick_facts {c : Cfg} (g : GoodCfg c) {μ : Mem} {s : LS} (h : LInv c μ s) :
    0 ≤ mtime μ (ix 0 1) ∧ mtime μ (ix 0 1) < 4 ∧ 0 ≤ mdom (mtime μ) ∧ mdom (mtime μ) < 2 ∧ mfrom (mtime μ) 4 = (c.due s).map th ∧
    ∃ μ2, (mfrom (mtime μ) 4 = none → μ2 = mtime μ) ∧ (∀ t, mfrom (mtime μ) 4 = some t → ∃ wd, Goes (mtime μ) ent6 t wd ∧ Spends (mstep (mtime μ) t wd (mtime μ (ix t 1))) t ∧ μ2 = mspent (mstep (mtime μ) t wd (mtime μ (ix t 1))) t) ∧
    (∀ i : Nat, i < 32 → μ2 (ix 1 (i : Int)) ≠ 8) ∧ 0 ≤ μ2 (ix 0 1) ∧ μ2 (ix 0 1) < 4 ∧ LInv c (mpart μ2).1 (c.next s) := by
  have h1 := h.time g
  obtain ⟨dd, d0, d1⟩ := h1.dom g
  have hf := mfrom_eq h1.qs dd d0 d1 4 (by decide)
  have pl4 := g.pl.len
  have hp := h1.part
  have ha := h1.at1
  refine ⟨by omega, by omega, by omega, by omega, hf, ?_⟩
  cases hdue : c.due s with
  | none =>
    have hd2 : qfrom s.Q (c.dm s.at_) 4 = none := hdue
    rw [hd2] at hf
    have en : c.next s = c.time s := by unfold Cfg.next; rw [hdue]
    refine ⟨mtime μ, fun _ => rfl, fun t ht => (by rw [hf] at ht; cases ht), h1.stat.dev, by omega, by omega, ?_⟩
    rw [en]
    exact part_ok g h1
  | some k =>
    have hd2 : qfrom s.Q (c.dm s.at_) 4 = some k := hdue
    rw [hd2] at hf
    obtain ⟨hk, hkey, _, wd, f1, f2, f3⟩ := turn_facts g h1 hdue
    have en : c.next s = c.time (c.turn s k) := by unfold Cfg.next; rw [hdue]
    have ha2 := f3.at1
    refine ⟨_, fun z => (by rw [hf] at z; cases z), fun t ht => ?_, f3.stat.dev, by have := f3.part; omega, by have := f3.part; omega, ?_⟩
    · rw [hf] at ht
      cases ht
      exact ⟨wd, f1, f2, rfl⟩
    · rw [en]
      exact part_ok g f3
/-! ### how long each waits -/
def ahead (left : Nat → Int) (k : Nat) : List Nat → Int
  | [] => 0
  | a :: q => if a = k then 0 else left a + ahead left k q
def oths (bu : Nat → Int) (k : Nat) : List Nat → Int
  | [] => 0
  | a :: q => (if a = k then 0 else bu a) + oths bu k q
theorem ahead_le {left bu : Nat → Int} {k : Nat} : ∀ {q : List Nat}, (∀ a ∈ q, left a ≤ bu a) → (∀ a ∈ q, 0 ≤ bu a) → ahead left k q ≤ oths bu k q ∧ 0 ≤ oths bu k q
  | [], _, _ => ⟨Int.le_refl 0, Int.le_refl 0⟩
  | a :: q, h, h0 => by
    obtain ⟨i1, i2⟩ := ahead_le (k := k) (fun b hb => h b (List.mem_cons_of_mem _ hb)) (fun b hb => h0 b (List.mem_cons_of_mem _ hb))
    have ha := h a (List.mem_cons_self ..)
    have hb := h0 a (List.mem_cons_self ..)
    unfold ahead oths
    split <;> omega
theorem oths_app {bu : Nat → Int} {k a : Nat} : ∀ {q : List Nat}, oths bu k (q ++ [a]) = oths bu k q + (if a = k then 0 else bu a)
  | [] => by show (if a = k then 0 else bu a) + oths bu k [] = oths bu k [] + _; unfold oths; omega
  | b :: q => by
    show (if b = k then 0 else bu b) + oths bu k (q ++ [a]) = (if b = k then 0 else bu b) + oths bu k q + _
    rw [oths_app]
    omega
theorem ahead_app {left : Nat → Int} {k a : Nat} : ∀ {q : List Nat}, k ∈ q → ahead left k (q ++ [a]) = ahead left k q
  | b :: q, h => by
    show (if b = k then 0 else left b + ahead left k (q ++ [a])) = if b = k then 0 else left b + ahead left k q
    split
    · rfl
    · rename_i hb
      rcases List.mem_cons.mp h with z | z
      · exact absurd z.symm hb
      · rw [ahead_app z]
theorem ahead_congr {left left' : Nat → Int} {k : Nat} : ∀ {q : List Nat}, (∀ a ∈ q, left a = left' a) → ahead left k q = ahead left' k q
  | [], _ => rfl
  | a :: q, h => by
    unfold ahead
    rw [h a (List.mem_cons_self ..), ahead_congr fun b hb => h b (List.mem_cons_of_mem _ hb)]
theorem ahead_nn {left : Nat → Int} {k : Nat} : ∀ {q : List Nat}, (∀ a ∈ q, 0 ≤ left a) → 0 ≤ ahead left k q
  | [], _ => Int.le_refl 0
  | a :: q, h => by
    have := ahead_nn (k := k) fun b hb => h b (List.mem_cons_of_mem a hb)
    have ha := h a (List.mem_cons_self ..)
    unfold ahead
    split <;> omega
def Cfg.bu (c : Cfg) (k : Nat) : Int := (c.P k).bu
def WInv (c : Cfg) (s : LS) (W : Nat → Int) : Prop := ∀ n : Int, 0 ≤ n → n < 8 → ∀ k ∈ s.Q n, W k + ahead s.left k (s.Q n) ≤ oths c.bu k (s.Q n)
def wnext (s : LS) (n : Int) (k : Nat) (W : Nat → Int) : Nat → Int := fun i => if i ∈ s.Q n then (if i = k then 0 else W i + 1) else W i
/-- the bounds hold, and are kept -/
theorem waits_ok {c : Cfg} (g : GoodCfg c) {μ : Mem} {s : LS} (h : LInv c μ s) {W : Nat → Int} (hW : WInv c s W) {k : Nat} (hk : k < c.ps.length) {q : List Nat} (hQ : s.Q (c.key k) = k :: q) :
    (∀ i ∈ s.Q (c.key k), wnext s (c.key k) k W i ≤ oths c.bu i (s.Q (c.key k))) ∧ WInv c (c.turn s k) (wnext s (c.key k) k W) := by
  obtain ⟨k0, k1⟩ := g.keyb hk
  have nd := h.qw.nd _ k0 k1
  have hmem := h.qw.mem _ k0 k1
  have lb : ∀ n : Int, 0 ≤ n → n < 8 → ∀ a ∈ s.Q n, 1 ≤ s.left a ∧ s.left a ≤ c.bu a ∧ 0 ≤ c.bu a := fun n n0 n1 a ha => by
    have ht := h.th a (h.qw.mem n n0 n1 a ha).1
    have x1 := ht.l1
    have x2 : s.left a ≤ c.bu a := ht.lb
    exact ⟨x1, x2, by omega⟩
  have lbk := lb _ k0 k1
  have hWk := hW _ k0 k1
  rw [hQ] at nd lbk hWk
  have nk : k ∉ q := (List.nodup_cons.mp nd).1
  have lk := lbk k (List.mem_cons_self ..)
  have on : ∀ i, 0 ≤ oths c.bu i (k :: q) := fun i => (ahead_le (left := s.left) (k := i) (fun a ha => (lbk a ha).2.1) (fun a ha => (lbk a ha).2.2)).2
  have cons_a : ∀ i, i ≠ k → ahead s.left i (k :: q) = s.left k + ahead s.left i q := fun i hi => if_neg (fun z => hi z.symm)
  have cons_o : ∀ i, i ≠ k → oths c.bu i (k :: q) = c.bu k + oths c.bu i q := fun i hi => by show (if k = i then 0 else c.bu k) + _ = _; rw [if_neg (fun z => hi z.symm)]
  have w0 : ∀ i ∈ k :: q, wnext s (c.key k) k W i = if i = k then 0 else W i + 1 := fun i hi => by unfold wnext; rw [hQ, if_pos hi]
  have wo : ∀ n : Int, 0 ≤ n → n < 8 → n ≠ c.key k → ∀ i ∈ s.Q n, wnext s (c.key k) k W i = W i ∧ i ≠ k := fun n n0 n1 hn i hi => by
    have h1 := (h.qw.mem n n0 n1 i hi).2
    refine ⟨if_neg fun z => hn ?_, fun z => hn (by rw [← h1, z])⟩
    rw [← h1, (hmem i z).2]
  refine ⟨fun i hi => ?_, ?_⟩
  · rw [hQ] at hi ⊢
    rw [w0 i hi]
    by_cases e : i = k
    · rw [if_pos e]
      exact on i
    · rw [if_neg e]
      have h1 := hWk i hi
      rw [cons_a i e] at h1
      have h2 := ahead_nn (left := s.left) (k := i) (q := q) fun a ha => by have := lbk a (List.mem_cons_of_mem _ ha); omega
      omega
  · by_cases hl : c.l1 s k < 1
    · have et : c.turn s k = { s with Q := qpush (qdrop s.Q (c.key k)) (c.key k) k, left := fset s.left k (c.P k).bu, st := fset s.st k (s.st k + 1) } := by unfold Cfg.turn; rw [if_pos hl]
      rw [et]
      intro n n0 n1 i hi
      have hi : i ∈ qpush (qdrop s.Q (c.key k)) (c.key k) k n := hi
      show wnext s (c.key k) k W i + ahead (fset s.left k (c.P k).bu) i (qpush (qdrop s.Q (c.key k)) (c.key k) k n) ≤ oths c.bu i (qpush (qdrop s.Q (c.key k)) (c.key k) k n)
      by_cases hn : n = c.key k
      · have eQ : qpush (qdrop s.Q (c.key k)) (c.key k) k n = q ++ [k] := by
          unfold qpush qdrop
          rw [if_pos hn, if_pos rfl, hQ]
          rfl
        rw [eQ] at hi ⊢
        have hic : i ∈ k :: q := by
          rcases List.mem_append.mp hi with z | z
          · exact List.mem_cons_of_mem _ z
          · rw [show i = k by simpa using z]
            exact List.mem_cons_self ..
        rw [w0 i hic]
        have lc : ∀ a ∈ q, fset s.left k (c.P k).bu a = s.left a := fun a ha => fset_ne fun z => nk (by rw [← z]; exact ha)
        by_cases e : i = k
        · rw [if_pos e]
          subst e
          have := (ahead_le (left := fset s.left i (c.P i).bu) (bu := c.bu) (k := i) (q := q ++ [i]) (fun a ha => ?_) (fun a ha => ?_)).1
          · omega
          · rcases List.mem_append.mp ha with z | z
            · rw [lc a z]
              exact (lbk a (List.mem_cons_of_mem _ z)).2.1
            · have : a = i := by simpa using z
              subst this
              rw [fset_same]
              exact Int.le_refl _
          · rcases List.mem_append.mp ha with z | z
            · exact (lbk a (List.mem_cons_of_mem _ z)).2.2
            · have : a = i := by simpa using z
              subst this
              exact lk.2.2
        · rw [if_neg e]
          have hiq : i ∈ q := by
            rcases List.mem_cons.mp hic with z | z
            · exact absurd z e
            · exact z
          rw [ahead_app hiq, ahead_congr lc, oths_app, if_neg (fun z => e z.symm)]
          have h1 := hWk i hic
          rw [cons_a i e, cons_o i e] at h1
          omega
      · have eQ : qpush (qdrop s.Q (c.key k)) (c.key k) k n = s.Q n := by
          unfold qpush qdrop
          rw [if_neg hn, if_neg hn]
        rw [eQ] at hi ⊢
        have hw := wo n n0 n1 hn
        rw [(hw i hi).1, ahead_congr (left' := s.left) fun a ha => fset_ne (hw a ha).2]
        exact hW n n0 n1 i hi
    · have et : c.turn s k = { s with left := fset s.left k (c.l1 s k), st := fset s.st k (s.st k + 1) } := by unfold Cfg.turn; rw [if_neg hl]
      have el : c.l1 s k = s.left k - 1 := by
        unfold Cfg.l1 at hl ⊢
        split
        · rename_i z
          rw [if_pos z] at hl
          exact absurd (by decide) hl
        · rfl
      rw [et]
      intro n n0 n1 i hi
      have hi : i ∈ s.Q n := hi
      show wnext s (c.key k) k W i + ahead (fset s.left k (c.l1 s k)) i (s.Q n) ≤ oths c.bu i (s.Q n)
      by_cases hn : n = c.key k
      · subst hn
        rw [hQ] at hi ⊢
        rw [w0 i hi]
        by_cases e : i = k
        · rw [if_pos e]
          subst e
          show 0 + (if i = i then 0 else _) ≤ _
          rw [if_pos rfl]
          exact on i
        · rw [if_neg e]
          have h1 := hWk i hi
          rw [cons_a i e] at h1
          have lc : ∀ a ∈ q, fset s.left k (c.l1 s k) a = s.left a := fun a ha => fset_ne fun z => nk (by rw [← z]; exact ha)
          have ea : ahead (fset s.left k (c.l1 s k)) i (k :: q) = c.l1 s k + ahead s.left i q := by
            show (if k = i then 0 else fset s.left k (c.l1 s k) k + ahead (fset s.left k (c.l1 s k)) i q) = _
            rw [if_neg (fun z => e z.symm), fset_same, ahead_congr lc]
          rw [ea, el]
          omega
      · have hw := wo n n0 n1 hn
        rw [(hw i hi).1, ahead_congr (left' := s.left) fun a ha => fset_ne (hw a ha).2]
        exact hW n n0 n1 i hi
theorem WInv.time {c : Cfg} {s : LS} {W : Nat → Int} (h : WInv c s W) : WInv c (c.time s) W := by
  unfold Cfg.time
  split <;> exact h
end KA

namespace KA
/-! ### what stands at the begin -/
theorem ment_at {μ : Mem} {t pg : Int} {c : Nat → Int} (h0 : 0 ≤ t * 64 + pg * 4) {i : Nat} : ∀ n : Nat, i < n → ment μ t pg c n (ix t (pg * 4 + (i : Int))) = c i % 65536
  | 0, h => by omega
  | n + 1, h => by
    show mset (ment μ t pg c n) (ix t (pg * 4 + (n : Int))) (c n) (ix t (pg * 4 + (i : Int))) = c i % 65536
    by_cases e : i = n
    · subst e
      exact mset_same
    · rw [mset_ne (ix_ne (by omega) (by omega) (by omega))]
      exact ment_at h0 n (by omega)
theorem mth_same {μ : Mem} {t p : Int} {ws : List Int} (ht : 0 ≤ t * 64 + p) (ht0 : 0 ≤ t) : ∀ n : Nat, n ≤ 7 → (∀ k, k < n → p ≠ at0 thP k) → mth μ t ws n (ix t p) = μ (ix t p)
  | 0, _, _ => rfl
  | n + 1, hn, h => by
    show mset (mth μ t ws n) (ix t (at0 thP n)) (at0 ws n) (ix t p) = μ (ix t p)
    have b := thP_bd (n := n) (by omega)
    have := h n (Nat.lt_succ_self n)
    rw [mset_ne (ix_ne (by omega) (by omega) (by omega))]
    exact mth_same ht ht0 n (by omega) fun k hk => h k (Nat.lt_succ_of_lt hk)
theorem thP_no {p : Int} (h : (1 ≤ p ∧ p ≤ 9) ∨ (15 ≤ p ∧ p ≤ 21) ∨ 23 ≤ p) {k : Nat} (hk : k < 7) : p ≠ at0 thP k := by
  have : k = 0 ∨ k = 1 ∨ k = 2 ∨ k = 3 ∨ k = 4 ∨ k = 5 ∨ k = 6 := by omega
  have e0 : at0 thP 0 = 10 := rfl
  have e1 : at0 thP 1 = 11 := rfl
  have e2 : at0 thP 2 = 12 := rfl
  have e3 : at0 thP 3 = 13 := rfl
  have e4 : at0 thP 4 = 14 := rfl
  have e5 : at0 thP 5 = 22 := rfl
  have e6 : at0 thP 6 = 0 := rfl
  rcases this with e | e | e | e | e | e | e <;> subst e <;> omega
/-- what a part's laying writes -/
theorem before_facts {μ : Mem} {F d pr bu : Int} {ws : List Int} (hF : 2 ≤ F) (hF5 : F + 5 ≤ 32) (hw : ws.length ≤ 64) :
    (∀ p : Nat, p < 5 → mbefore μ F d pr bu ws (ix 1 (F + (p : Int))) = at0 [4, 5, 3, 2, 2] p % 65536) ∧
    (∀ i : Nat, i < 7 → mbefore μ F d pr bu ws (ix (F + 1) (at0 thP i)) = at0 [F + 1, F + 3, pr, bu, bu, d, 1] i % 65536) ∧
    (∀ p : Int, (1 ≤ p ∧ p ≤ 9) ∨ (15 ≤ p ∧ p ≤ 21) ∨ (23 ≤ p ∧ p < 64) → mbefore μ F d pr bu ws (ix (F + 1) p) = μ (ix (F + 1) p)) ∧
    (∀ i : Nat, i < 3 → mbefore μ F d pr bu ws (ix (F + 2) (i : Int)) = at0 [F + 4, 3, F * 8 + 7] i % 65536) ∧
    (∀ i : Nat, i < ws.length → mbefore μ F d pr bu ws (ix (F + 3) (i : Int)) = at0 ws i % 65536) := by
  unfold mbefore
  refine ⟨fun p hp => ?_, fun i hi => ?_, fun p hp => ?_, fun i hi => ?_, fun i hi => ?_⟩
  · rw [mth_other (by omega) (by unfold ix; omega) 7 (by omega), mpgs_other (by omega) (by unfold ix; omega) (by unfold ix; omega) 2 (by omega), mcaps_other (by omega) (by unfold ix; omega) 3 (by omega)]
    unfold mcode mkinds
    rw [mlay_other _ fun k hk => by unfold ix; omega]
    exact mlay_at (by omega) 5 hp
  · exact mth_at (by omega) 7 (by omega) hi
  · rw [mth_same (by omega) (by omega) 7 (by omega) fun k hk => thP_no (by omega) hk, mpgs_other (by omega) (by unfold ix; omega) (by unfold ix; omega) 2 (by omega), mcaps_other (by omega) (by unfold ix; omega) 3 (by omega)]
    unfold mcode mkinds
    rw [mlay_other _ fun k hk => by unfold ix; omega, mlay_other _ fun k hk => by unfold ix; omega]
  · rw [mth_other (by omega) (by unfold ix; omega) 7 (by omega)]
    obtain ⟨ν, hν⟩ : ∃ ν, ν = mcaps (mcode (mkinds μ F 5) F ws ws.length) F 3 := ⟨_, rfl⟩
    rw [← hν]
    show ment (mcap (mpgs ν F 1) (F * 8 + (((1 : Nat) : Int) + 6)) (at0 [2, F + (((1 : Nat) : Int) + 3), 7, 0]) 1 0) (F + 2) (((1 : Nat) : Int) + 3 - 3) (at0 [F + (((1 : Nat) : Int) + 3) + 1, 3, F * 8 + (((1 : Nat) : Int) + 6) + 1]) 3 (ix (F + 2) (i : Int)) = _
    rw [ment_other 3 fun k hk => by unfold ix; omega, mcap_other (by omega) (by unfold ix; omega)]
    show ment (mcap ν (F * 8 + (((0 : Nat) : Int) + 6)) (at0 [2, F + (((0 : Nat) : Int) + 3), 7, 0]) 1 0) (F + 2) (((0 : Nat) : Int) + 3 - 3) (at0 [F + (((0 : Nat) : Int) + 3) + 1, 3, F * 8 + (((0 : Nat) : Int) + 6) + 1]) 3 (ix (F + 2) (i : Int)) = _
    have := ment_at (μ := mcap ν (F * 8 + (((0 : Nat) : Int) + 6)) (at0 [2, F + (((0 : Nat) : Int) + 3), 7, 0]) 1 0) (t := F + 2) (pg := ((0 : Nat) : Int) + 3 - 3) (c := at0 [F + (((0 : Nat) : Int) + 3) + 1, 3, F * 8 + (((0 : Nat) : Int) + 6) + 1]) (by omega) (i := i) 3 hi
    rw [show (((0 : Nat) : Int) + 3 - 3) * 4 + (i : Int) = (i : Int) by omega] at this
    rw [this]
    have : i = 0 ∨ i = 1 ∨ i = 2 := by omega
    rcases this with e | e | e <;> subst e
    · show (F + (((0 : Nat) : Int) + 3) + 1) % 65536 = (F + 4) % 65536
      omega
    · rfl
    · show (F * 8 + (((0 : Nat) : Int) + 6) + 1) % 65536 = (F * 8 + 7) % 65536
      omega
  · rw [mth_other (by omega) (by unfold ix; omega) 7 (by omega), mpgs_other (by omega) (by unfold ix; omega) (by unfold ix; omega) 2 (by omega), mcaps_other (by omega) (by unfold ix; omega) 3 (by omega)]
    unfold mcode
    have := mlay_at (μ := mkinds μ F 5) (f := F + 3) (p := 0) (g := at0 ws) (by omega) (i := i) ws.length hi
    rw [show (0 : Int) + (i : Int) = (i : Int) by omega] at this
    exact this
def qinit (c : Cfg) : Nat → QF
  | 0 => fun _ => []
  | i + 1 => qpush (qinit c i) (c.key i) i
def Cfg.s0 (c : Cfg) : LS := { at_ := 0, sp := 0, Q := qinit c c.ps.length, left := c.bu, st := fun _ => 0 }
theorem qinit_lt {c : Cfg} {n : Int} {k : Nat} : ∀ {i : Nat}, k ∈ qinit c i n → k < i
  | i + 1, h => by
    unfold qinit qpush at h
    split at h
    · rename_i e
      rcases List.mem_append.mp h with z | z
      · exact Nat.lt_succ_of_lt (qinit_lt z)
      · have : k = i := by simpa using z
        omega
    · exact Nat.lt_succ_of_lt (qinit_lt h)
/-- behind i parts -/
structure BInv (c : Cfg) (i : Nat) (μ : Mem) : Prop where
  plan : ∀ i : Nat, i < c.pl.length → μ (ix 0 (24 + (i : Int))) = c.dm i * 256 + c.du i
  plan0 : c.pl.length < 4 → μ (ix 0 (24 + (c.pl.length : Int))) = 0
  dev : ∀ i : Nat, i < 32 → μ (ix 1 (i : Int)) ≠ 8
  part : μ (ix 0 1) = 0
  pleft : μ (ix 0 2) = c.du 0
  zero : ∀ j : Nat, 64 * (2 + 5 * i) ≤ j → μ j = 0
  qw : QW i c.key (qinit c i)
  qs : Qs μ (qinit c i)
  sp : ∀ k, k < i → SP c μ k
  th : ∀ k, k < i → ThW c μ c.s0 k
theorem codeOf_bd {kind : Int} (i : Nat) : 0 ≤ at0 (codeOf kind) i ∧ at0 (codeOf kind) i < 65536 := by
  have h4 : i = 0 ∨ i = 1 ∨ i = 2 ∨ i = 3 ∨ 4 ≤ i := by omega
  have big : ∀ xs : List Int, xs.length ≤ i → at0 xs i = 0 := fun xs h => by
    unfold at0
    rw [List.getD_eq_getElem?_getD, List.getElem?_eq_none h]
    rfl
  unfold codeOf
  rcases h4 with e | e | e | e | e
  · subst e
    split
    · decide
    · split <;> decide
  · subst e
    split
    · decide
    · split <;> decide
  · subst e
    split
    · decide
    · split <;> decide
  · subst e
    split
    · decide
    · split <;> decide
  · split
    · rw [big _ (by show 2 ≤ i; omega)]; decide
    · split
      · rw [big _ (by show 2 ≤ i; omega)]; decide
      · rw [big _ (by show 4 ≤ i; omega)]; decide
theorem BInv.step {c : Cfg} (g : GoodCfg c) {i : Nat} (hi : i < c.ps.length) {μ : Mem} (h : BInv c i μ) : Room6 μ (2 + 5 * (i : Int)) ∧ BInv c (i + 1) (mbegin μ (2 + 5 * (i : Int)) (c.P i).d (c.P i).pr (c.P i).bu (c.P i).ws) := by
  have n4 := g.n4
  have hi4 : i < 4 := by omega
  obtain ⟨gp, kd0, kd3, hws⟩ := g.part i hi
  have hwl := gp.wl
  have d0 := gp.d0
  have d1 := gp.d1
  have p0 := gp.p0
  have p1 := gp.p1
  have b0 := gp.b0
  have b1 := gp.b1
  obtain ⟨F, hF⟩ : ∃ F : Int, F = 2 + 5 * (i : Int) := ⟨_, rfl⟩
  have ht : F + 1 = KA.th i := by unfold KA.th; omega
  rw [← hF]
  have F2 : 2 ≤ F := by omega
  have F5 : F + 5 ≤ 32 := by omega
  have lent : μ (ix (F + 1) 24) = 0 := h.zero _ (by unfold ix; omega)
  have R : Room6 μ F := by
    refine ⟨F2, F5, lent, fun n n0 n1 => ?_⟩
    rcases h.qs.tail h.qw (by omega) n0 n1 with z | ⟨l, hl, z⟩
    · exact .inl z
    · right
      rw [z]
      unfold KA.th
      omega
  refine ⟨R, ?_⟩
  obtain ⟨f1, f2, f3, f4, f5⟩ := before_facts (μ := μ) (d := (c.P i).d) (pr := (c.P i).pr) (bu := (c.P i).bu) F2 F5 hwl
  have fo : ∀ {j : Nat}, ((j : Int) < 64 + F ∨ 64 + F + 5 ≤ (j : Int)) → ((j : Int) < F * 64 ∨ (F + 4) * 64 ≤ (j : Int)) → mbefore μ F (c.P i).d (c.P i).pr (c.P i).bu (c.P i).ws j = μ j := fun h1 h2 => mbefore_other F2 hwl h1 h2
  have hn : mnum (mbefore μ F (c.P i).d (c.P i).pr (c.P i).bu (c.P i).ws) (F + 1) = c.key i := mnum_before F2 hwl lent d0 d1 p0 p1
  have em : mbegin μ F (c.P i).d (c.P i).pr (c.P i).bu (c.P i).ws = mpush (mbefore μ F (c.P i).d (c.P i).pr (c.P i).bu (c.P i).ws) 0 (4 + c.key i) (12 + c.key i) (KA.th i) := by
    unfold mbegin mjoin
    rw [hn, ht]
  rw [em]
  generalize mbefore μ F (c.P i).d (c.P i).pr (c.P i).bu (c.P i).ws = ν at f1 f2 f3 f4 f5 fo hn
  obtain ⟨k0, k1⟩ := g.keyb hi
  have link : ∀ k : Nat, ix (KA.th k) 15 = 207 + 320 * k := fun k => by unfold ix KA.th; omega
  have hlk : ∀ k : Nat, ν (ix (KA.th k) 15) = μ (ix (KA.th k) 15) := fun k => by
    by_cases e : k = i
    · rw [e, ← ht]
      exact f3 15 (by omega)
    · exact fo (by rw [link]; omega) (by rw [link]; omega)
  have hqn : ∀ j, QWord j → ν j = μ j := fun j hj => by
    unfold QWord at hj
    rcases hj with h1 | h1 | h1 | h1 | h1
    · exact fo (by omega) (by omega)
    · have := hlk 0; rw [link] at this; rw [h1]; exact this
    · have := hlk 1; rw [link] at this; rw [h1]; exact this
    · have := hlk 2; rw [link] at this; rw [h1]; exact this
    · have := hlk 3; rw [link] at this; rw [h1]; exact this
  have qs1 : Qs ν (qinit c i) := h.qs.frame h.qw (by omega) hqn
  have hnew : ∀ m : Int, 0 ≤ m → m < 8 → i ∉ qinit c i m := fun m _ _ hm => Nat.lt_irrefl _ (qinit_lt hm)
  have tl := qs1.tail h.qw (by omega) k0 k1
  obtain ⟨μ', hμ⟩ : ∃ μ', μ' = mpush ν 0 (4 + c.key i) (12 + c.key i) (KA.th i) := ⟨_, rfl⟩
  have o : ∀ j, ¬ QWord j → μ' j = ν j := fun j hj => by rw [hμ]; exact mpush_other k0 k1 hi4 tl hj
  have qs2 : Qs μ' (qinit c (i + 1)) := by rw [hμ]; exact qs_push h.qw (by omega) qs1 k0 k1 hi4 hnew
  rw [← hμ]
  have o2 : ∀ {j : Nat}, ¬ QWord j → ((j : Int) < 64 + F ∨ 64 + F + 5 ≤ (j : Int)) → ((j : Int) < F * 64 ∨ (F + 4) * 64 ≤ (j : Int)) → μ' j = μ j := fun h0 h1 h2 => (o _ h0).trans (fo h1 h2)
  have v2 : ∀ k : Nat, k < 7 → μ' (ix (KA.th i) (at0 thP k)) = at0 [F + 1, F + 3, (c.P i).pr, (c.P i).bu, (c.P i).bu, (c.P i).d, 1] k % 65536 := fun k hk => by
    have b := thP_bd hk
    have n15 : 15 ≠ at0 thP k := thP_no (by omega) hk
    rw [o _ (by unfold QWord ix KA.th; omega), ← ht]
    exact f2 k hk
  have v3 : ∀ p : Int, (1 ≤ p ∧ p ≤ 9) ∨ p = 24 → μ' (ix (KA.th i) p) = 0 := fun p hp => by
    rw [o _ (by unfold QWord ix KA.th; omega), ← ht, f3 p (by omega)]
    exact h.zero _ (by unfold ix; omega)
  have v4 : ∀ k : Nat, k < 3 → μ' (ix (KA.th i + 1) (k : Int)) = at0 [F + 4, 3, F * 8 + 7] k % 65536 := fun k hk => by
    rw [o _ (by unfold QWord ix KA.th; omega), ← ht, ← f4 k hk]
    congr 2
    omega
  refine { plan := fun k hk => ?_, plan0 := fun hk => ?_, dev := fun f hf => ?_, part := ?_, pleft := ?_, zero := fun j hj => ?_, qw := ?_, qs := qs2, sp := fun k hk => ?_, th := fun k hk => ?_ }
  · have := g.pl.len
    rw [o2 (by unfold QWord ix; omega) (by unfold ix; omega) (by unfold ix; omega)]
    exact h.plan k hk
  · rw [o2 (by unfold QWord ix; omega) (by unfold ix; omega) (by unfold ix; omega)]
    exact h.plan0 hk
  · by_cases hin : F ≤ (f : Int) ∧ (f : Int) < F + 5
    · have := f1 ((f : Int) - F).toNat (by omega)
      rw [show F + ((((f : Int) - F).toNat : Nat) : Int) = (f : Int) by omega] at this
      rw [o _ (by unfold QWord ix; omega), this]
      have h5 : ((f : Int) - F).toNat = 0 ∨ ((f : Int) - F).toNat = 1 ∨ ((f : Int) - F).toNat = 2 ∨ ((f : Int) - F).toNat = 3 ∨ ((f : Int) - F).toNat = 4 := by omega
      rcases h5 with e | e | e | e | e <;> rw [e] <;> decide
    · rw [o2 (by unfold QWord ix; omega) (by unfold ix; omega) (by unfold ix; omega)]
      exact h.dev f hf
  · rw [o2 (by unfold QWord ix; omega) (by unfold ix; omega) (by unfold ix; omega)]
    exact h.part
  · rw [o2 (by unfold QWord ix; omega) (by unfold ix; omega) (by unfold ix; omega)]
    exact h.pleft
  · have e : μ' j = ν j := by
      rw [hμ]
      unfold mpush
      rw [mset_ne (by unfold ix KA.th; omega), mset_ne (by unfold ix; omega)]
      have tl2 := qs1.last _ k0 k1
      cases z : (qinit c i (c.key i)).getLast? with
      | none =>
        rw [lastV_none z] at tl2
        rw [if_neg (by rw [tl2]; exact fun y => y rfl), mset_ne (by unfold ix; omega)]
      | some l =>
        rw [lastV_some z] at tl2
        have hl := qinit_lt (List.mem_of_getLast? z)
        rw [if_pos (by rw [tl2]; unfold KA.th; omega), tl2, mset_ne (by unfold ix KA.th; omega)]
    rw [e, fo (by omega) (by omega)]
    exact h.zero j (by omega)
  · exact (h.qw.more (Nat.le_succ i)).push (Nat.lt_succ_self i) rfl hnew
  · by_cases e : k = i
    · subst e
      have w0 := v2 6 (by omega)
      have w1 := v2 1 (by omega)
      have w2 := v2 2 (by omega)
      have w3 := v2 3 (by omega)
      have w5 := v2 5 (by omega)
      have x0 := v4 0 (by omega)
      have x1 := v4 1 (by omega)
      have x2 := v4 2 (by omega)
      refine ⟨?_, w0, ?_, ?_, ?_, ?_, v3 24 (by omega), ?_, x1, ?_, fun m hm => ?_⟩
      · have := f1 1 (by omega)
        rw [o _ (by unfold QWord ix KA.th; omega), ← ht]
        exact this
      · refine w1.trans ?_
        show (F + 3) % 65536 = KA.th k + 2
        omega
      · refine w2.trans ?_
        show (c.P k).pr % 65536 = _
        omega
      · refine w3.trans ?_
        show (c.P k).bu % 65536 = _
        omega
      · refine w5.trans ?_
        show (c.P k).d % 65536 = _
        omega
      · refine x0.trans ?_
        show (F + 4) % 65536 = KA.th k + 3
        omega
      · refine x2.trans ?_
        show (F * 8 + 7) % 65536 = (KA.th k - 1) * 8 + 7
        omega
      · have hb := codeOf_bd (kind := c.kd k) m
        have y := f5 m hm
        rw [o _ (by unfold QWord ix KA.th; omega), show KA.th k + 2 = F + 3 by omega, y, hws]
        omega
    · have hk2 : k < i := by omega
      refine (h.sp k hk2).frame (by omega) (g.part k (by omega)).1.wl fun j nd hj => ?_
      refine o2 (fun z => nd z.dyn) ?_ ?_
      · unfold ix KA.th at hj
        unfold Dyn at nd
        omega
      · unfold ix KA.th at hj
        omega
  · by_cases e : k = i
    · subst e
      have w4 := v2 4 (by omega)
      have y0 : (c.s0).left k = (c.P k).bu := rfl
      refine ⟨?_, ?_, by rw [y0]; exact b0, by rw [y0]; exact Int.le_refl _, fun n n0 n1 => ?_⟩
      · rw [v3 1 (by omega)]
        show 0 = pcOf (c.kd k) 0
        unfold pcOf
        split <;> rfl
      · refine w4.trans ?_
        show (c.P k).bu % 65536 = (c.P k).bu
        omega
      · rw [v3 (2 + n) (by omega)]
        decide
    · have hk2 : k < i := by omega
      refine (h.th k hk2).frame (fun p hp => ?_) rfl rfl
      exact o2 (th_notq (by omega) hp) (by unfold ix KA.th; omega) (by unfold ix KA.th; omega)
theorem BInv.zero' {c : Cfg} (g : GoodCfg c) : BInv c 0 (mboot0 c.pl) := by
  have l4 := g.pl.len
  have hz : ∀ j : Nat, 64 ≤ j → mboot0 c.pl j = 0 := fun j hj => by
    unfold mboot0
    rw [mset_ne (by unfold ix; omega)]
    have : ∀ n : Nat, n ≤ 4 → mplan m0 c.pl n j = 0 := fun n => by
      induction n with
      | zero => intro _; rfl
      | succ n ih =>
        intro hn
        show mset (mplan m0 c.pl n) (ix 0 (24 + (n : Int))) _ j = 0
        rw [mset_ne (by unfold ix; omega)]
        exact ih (by omega)
    exact this _ (by omega)
  have hp : ∀ (i : Nat) (n : Nat), i < n → n ≤ c.pl.length → mplan m0 c.pl n (ix 0 (24 + (i : Int))) = c.dm i * 256 + c.du i := fun i n => by
    induction n with
    | zero => intro h; omega
    | succ n ih =>
      intro h hn
      show mset (mplan m0 c.pl n) (ix 0 (24 + (n : Int))) ((c.pl.getD n (0, 0)).1 * 256 + (c.pl.getD n (0, 0)).2) (ix 0 (24 + (i : Int))) = _
      by_cases e : i = n
      · subst e
        have db := LInv.dub g (i := i) (by omega)
        rw [mset_same]
        show (c.dm i * 256 + c.du i) % 65536 = _
        omega
      · rw [mset_ne (by unfold ix; omega)]
        exact ih (by omega) (by omega)
  have hno : ∀ (j n : Nat), (∀ k : Nat, k < n → j ≠ ix 0 (24 + (k : Int))) → mplan m0 c.pl n j = 0 := fun j n => by
    induction n with
    | zero => intro _; rfl
    | succ n ih =>
      intro h
      show mset (mplan m0 c.pl n) (ix 0 (24 + (n : Int))) _ j = 0
      rw [mset_ne (h n (Nat.lt_succ_self n))]
      exact ih fun k hk => h k (Nat.lt_succ_of_lt hk)
  have hq : ∀ j, QWord j → mboot0 c.pl j = 0 := fun j hj => by
    unfold mboot0
    rw [mset_ne (by unfold QWord at hj; unfold ix; omega)]
    exact hno j _ fun k hk => by unfold QWord at hj; unfold ix; omega
  have db := LInv.dub g (i := 0) (by omega)
  refine { plan := fun k hk => ?_, plan0 := fun hk => ?_, dev := fun f hf => ?_, part := ?_, pleft := ?_, zero := fun j hj => hz j (by omega), qw := ⟨fun n _ _ => List.nodup_nil, fun n _ _ k hk => by cases hk⟩, qs := ⟨fun n n0 n1 => hq _ (qword_head n0 n1).1, fun n n0 n1 => hq _ (qword_head n0 n1).2⟩, sp := fun k hk => by omega, th := fun k hk => by omega }
  · unfold mboot0
    rw [mset_ne (by unfold ix; omega)]
    exact hp k _ hk (Nat.le_refl _)
  · unfold mboot0
    rw [mset_ne (by unfold ix; omega)]
    exact hno _ _ fun k hk2 => by unfold ix; omega
  · rw [hz _ (by unfold ix; omega)]
    decide
  · unfold mboot0
    rw [mset_ne (by decide)]
    exact hno _ _ fun k hk2 => by unfold ix; omega
  · unfold mboot0
    rw [mset_same]
    show c.du 0 % 65536 = c.du 0
    omega
theorem boot_at {c : Cfg} (g : GoodCfg c) : ∀ i : Nat, i ≤ c.ps.length → BInv c i (mparts (mboot0 c.pl) c.ps i)
  | 0, _ => BInv.zero' g
  | i + 1, hi => ((boot_at g i (by omega)).step g (by omega)).2
theorem boot_read {c : Cfg} (g : GoodCfg c) (i : Nat) (hi : i < c.ps.length) : Read6 (mparts (mboot0 c.pl) c.ps i) (2 + 5 * (i : Int)) (c.P i).d (c.P i).pr (c.P i).bu (c.P i).ws := by
  have gp := (g.part i hi).1
  exact read6 ((boot_at g i (by omega)).step g hi).1 gp.wl gp.d0 gp.d1 gp.p0 gp.p1
theorem boot_inv {c : Cfg} (g : GoodCfg c) : LInv c (mboot c.pl c.ps) c.s0 := by
  have h := boot_at g c.ps.length (Nat.le_refl _)
  have l4 := g.pl.len
  have db := LInv.dub g (i := 0) (by omega)
  exact { stat := ⟨h.plan, h.plan0, h.dev, h.sp⟩, at1 := by show 0 < c.pl.length; omega, sp0 := Int.le_refl 0, sp1 := by show (0 : Int) < c.du 0; omega, part := h.part, pleft := by rw [show c.s0.sp = 0 from rfl, show c.s0.at_ = 0 from rfl]; unfold mboot; rw [h.pleft]; omega, qw := h.qw, qs := h.qs, th := h.th }
theorem boot_wait {c : Cfg} (g : GoodCfg c) : WInv c c.s0 (fun _ => 0) := by
  intro n n0 n1 k hk
  have h := boot_inv g
  have hb : ∀ a ∈ c.s0.Q n, 0 ≤ c.bu a := fun a ha => by
    have := (g.part a (h.qw.mem n n0 n1 a ha).1).1.b0
    show 0 ≤ (c.P a).bu
    omega
  have := (ahead_le (left := c.s0.left) (bu := c.bu) (k := k) (q := c.s0.Q n) (fun a ha => Int.le_refl _) hb).1
  show 0 + _ ≤ _
  omega
end KA

namespace KL
open KA KD
open PySem PySem.Spec PyProof.Rows L2 Evl TL
/-! ### the law's things in the heap -/
structure Ad where
  pa : Addr
  qa : Addr
  ka : Addr
  mc : Addr
  m : Addr
  wl : Addr
  cl : Addr
  qd : Addr
  la : Addr
  sa : Addr
  wd : Addr
  dd : Addr
  dx : Addr
def intsL (N : Nat) (f : Nat → Int) : List V := (List.range N).map fun i => V.int (f i)
theorem intsL_len {N : Nat} {f : Nat → Int} : (intsL N f).length = N := by simp [intsL]
theorem intsL_at {N : Nat} {f : Nat → Int} {i : Nat} (h : i < N) : (intsL N f)[i]? = some (.int (f i)) := by
  unfold intsL
  rw [List.getElem?_map, List.getElem?_range h]
  rfl
theorem intsL_set {N : Nat} {f : Nat → Int} {k : Nat} {x : Int} : (intsL N f).set k (.int x) = intsL N (fset f k x) := by
  apply List.ext_getElem?
  intro j
  rw [List.getElem?_set]
  by_cases hj : j < N
  · rw [intsL_at hj, intsL_at hj, intsL_len]
    unfold fset
    by_cases e : k = j
    · subst e
      simp [hj]
    · rw [if_neg e, if_neg (Ne.symm e)]
  · have e1 : (intsL N f)[j]? = none := List.getElem?_eq_none (by rw [intsL_len]; omega)
    have e2 : (intsL N (fset f k x))[j]? = none := List.getElem?_eq_none (by rw [intsL_len]; omega)
    rw [e1, e2, intsL_len]
    by_cases e : k = j
    · rw [if_pos e, if_neg (by omega)]
    · rw [if_neg e]
theorem intsL_cons {N : Nat} {f : Nat → Int} (h : 1 ≤ N) : ∃ x xs, intsL N f = V.int x :: xs := by
  cases e : intsL N f with
  | nil =>
    have := intsL_len (N := N) (f := f)
    rw [e] at this
    simp at this
    omega
  | cons y ys =>
    have h0 := intsL_at (N := N) (f := f) (i := 0) (by omega)
    rw [e] at h0
    cases h0
    exact ⟨_, _, rfl⟩
def qV (q : List Nat) : List V := q.map fun (k : Nat) => V.int (k : Int)
def QAt (H : Hp) (A : Ad) (kvs : List (Key × V)) (Q : QF) : Prop := ∀ n : Int, 0 ≤ n → n < 8 → (valV kvs (Sum.inl n : Key) = none ∧ Q n = []) ∨
  ∃ l, valV kvs (Sum.inl n : Key) = some (.ref l) ∧ H l = some (.lst (qV (Q n))) ∧ l ≠ A.wl ∧ l ≠ A.cl ∧ l ≠ A.la ∧ l ≠ A.sa
def WAt (kvs : List (Key × V)) (W : Nat → Int) : Prop := ∀ i : Nat, (valV kvs (Sum.inl (i : Int) : Key) = none ∧ W i = 0) ∨ valV kvs (Sum.inl (i : Int) : Key) = some (.int (W i))
structure Sep (A : Ad) : Prop where
  ls : A.la ≠ A.sa
  lw : A.la ≠ A.wl
  lc : A.la ≠ A.cl
  sw : A.sa ≠ A.wl
  sc : A.sa ≠ A.cl
  kw : A.ka ≠ A.wl
  kc : A.ka ≠ A.cl
  kl : A.ka ≠ A.la
  ks : A.ka ≠ A.sa
  qw : A.qd ≠ A.wd
  qd : A.qd ≠ A.dd
  wd : A.wd ≠ A.dd
structure LawAt (K : PySem.W.Frag) (A : Ad) (H : Hp) (c : Cfg) (μ : Mem) (Q : QF) (left st : Nat → Int) (W : Nat → Int) (nq nw : Nat) : Prop where
  plan : PlanAt H A.pa c.pl
  parts : PartsAt H A.qa c.ps
  kinds : H A.ka = some (.lst (c.ks.map V.int))
  both : BothAt K H A.mc A.m A.wl A.cl ent6 μ
  mem : H A.m = some (.ins (CM K) A.dx [("_words", .ref A.wl), ("_disks", .ref A.dd)])
  dis : H A.dd = some (.dK [])
  qs : ∃ kvs, H A.qd = some (.dK kvs) ∧ kvs.length ≤ nq ∧ QAt H A kvs Q
  ws : ∃ kvs, H A.wd = some (.dK kvs) ∧ kvs.length ≤ nw ∧ WAt kvs W
  left : H A.la = some (.lst (intsL c.ps.length left))
  steps : H A.sa = some (.lst (intsL c.ps.length st))
  sep : Sep A
section
variable {K : PySem.W.Frag} {A : Ad} {H H' : Hp} {c : Cfg} {μ : Mem} {Q : QF} {left st W : Nat → Int} {nq nw : Nat}
theorem QAt.mono {kvs : List (Key × V)} (h : QAt H A kvs Q) (e : ∀ l xs, H l = some (.lst xs) → l ≠ A.wl → l ≠ A.cl → l ≠ A.la → l ≠ A.sa → H' l = some (.lst xs)) : QAt H' A kvs Q := fun n n0 n1 => by
  rcases h n n0 n1 with z | ⟨l, h1, h2, h3, h4, h5, h6⟩
  · exact .inl z
  · exact .inr ⟨l, h1, e _ _ h2 h3 h4 h5 h6, h3, h4, h5, h6⟩
theorem LawAt.ex (h : LawAt K A H c μ Q left st W nq nw) (e : Ex H H') : LawAt K A H' c μ Q left st W nq nw := by
  obtain ⟨kvs, q1, q2, q3⟩ := h.qs
  obtain ⟨kws, w1, w2, w3⟩ := h.ws
  exact ⟨h.plan.mono (TK.ex e), h.parts.mono (TK.ex e), e _ _ h.kinds, h.both.keep e, e _ _ h.mem, e _ _ h.dis, ⟨kvs, e _ _ q1, q2, q3.mono fun l xs hl _ _ _ _ => e _ _ hl⟩, ⟨kws, e _ _ w1, w2, w3⟩, e _ _ h.left, e _ _ h.steps, h.sep⟩
/-- a tick -/
theorem LawAt.tick (h : LawAt K A H c μ Q left st W nq nw) {μ' : Mem} (hb : BothAt K H' A.mc A.m A.wl A.cl ent6 μ') (f : FS [A.wl, A.mc, A.cl] H H') : LawAt K A H' c μ' Q left st W nq nw := by
  obtain ⟨kvs, q1, q2, q3⟩ := h.qs
  obtain ⟨kws, w1, w2, w3⟩ := h.ws
  obtain ⟨dx, kl, c0, c1, kept, h1, h2, h3, h4, h4w, h5, h6⟩ := h.both.ma.ex
  have hw := h.both.me.ws
  have go : ∀ b o, H b = some o → b ≠ A.wl → b ≠ A.mc → b ≠ A.cl → H' b = some o := fun b o hb n1 n2 n3 => f b o hb (by simp [n1, n2, n3])
  have tk : TK H H' := fun b xs hb => go b _ hb (ne_of hb hw (by intro z; cases z)) (ne_of hb h1 (by intro z; cases z)) (ne_of hb h3 (by intro z; cases z))
  have dk : ∀ b kvs, H b = some (.dK kvs) → H' b = some (.dK kvs) := fun b xs hb => go b _ hb (ne_of hb hw (by intro z; cases z)) (ne_of hb h1 (by intro z; cases z)) (ne_of hb h3 (by intro z; cases z))
  have lk : ∀ b xs, H b = some (.lst xs) → b ≠ A.wl → b ≠ A.cl → H' b = some (.lst xs) := fun b xs hb n1 n2 => go b _ hb n1 (ne_of hb h1 (by intro z; cases z)) n2
  have S := h.sep
  exact ⟨h.plan.mono tk, h.parts.mono tk, lk _ _ h.kinds S.kw S.kc, hb, go _ _ h.mem (ne_of h.mem hw (by intro z; cases z)) (Ne.symm h.both.mm) (ne_of h.mem h3 (by intro z; cases z)), dk _ _ h.dis, ⟨kvs, dk _ _ q1, q2, q3.mono fun l xs hl n1 n2 _ _ => lk _ _ hl n1 n2⟩, ⟨kws, dk _ _ w1, w2, w3⟩, lk _ _ h.left S.lw S.lc, lk _ _ h.steps S.sw S.sc, S⟩
theorem both_upd {mc m wl cl dd dx b : Addr} {ent : Ent} {o : HO} (h : BothAt K H mc m wl cl ent μ) (hm : H m = some (.ins (CM K) dx [("_words", .ref wl), ("_disks", .ref dd)])) (nd : b ≠ dd) (hb : (∃ kvs, H b = some (.dK kvs)) ∨ ∃ x xs, H b = some (.lst (.int x :: xs)) ∧ b ≠ wl ∧ b ≠ cl) :
    BothAt K (L2.upd H b o) mc m wl cl ent μ := by
  obtain ⟨dx', kl, c0, c1, kept, h1, h2, h3, h4, h4w, h5, h6⟩ := h.ma.ex
  obtain ⟨⟨dx2, dd2, g1, g2⟩, g3⟩ := id h.me
  rw [hm] at g1
  cases g1
  have ni : ∀ a C x fs, H a = some (.ins C x fs) → a ≠ b := fun a C x fs ha => by
    rcases hb with ⟨kvs, z⟩ | ⟨x, xs, z, _⟩ <;> exact ne_of ha z (by intro y; cases y)
  have nt : ∀ a xs, H a = some (.tup xs) → a ≠ b := fun a xs ha => by
    rcases hb with ⟨kvs, z⟩ | ⟨x, xs, z, _⟩ <;> exact ne_of ha z (by intro y; cases y)
  have nw : wl ≠ b := by
    rcases hb with ⟨kvs, z⟩ | ⟨x, xs, z, n, _⟩
    · exact ne_of g3 z (by intro y; cases y)
    · exact Ne.symm n
  have nc : cl ≠ b := by
    rcases hb with ⟨kvs, z⟩ | ⟨x, xs, z, _, n⟩
    · exact ne_of h3 z (by intro y; cases y)
    · exact Ne.symm n
  have nk : kl ≠ b := by
    rcases hb with ⟨kvs, z⟩ | ⟨x, xs, z, _⟩
    · exact ne_of h2 z (by intro y; cases y)
    · intro y
      rw [y, z] at h2
      have e : V.int x :: xs = kept := HO.lst.inj (Option.some.inj h2)
      obtain ⟨q, tb, pg, e2, y1, _⟩ := h6 (.int x) (by rw [← e]; exact List.mem_cons_self ..)
      cases y1
  exact ⟨⟨dx', kl, c0, c1, kept, by rw [upd_ne (ni _ _ _ _ h1)]; exact h1, by rw [upd_ne nk]; exact h2, by rw [upd_ne nc]; exact h3, h4, h4w, h5, fun v hv => (h6 v hv).mono fun a xs ha => by rw [upd_ne (nt _ _ ha)]; exact ha⟩,
    ⟨⟨_, _, by rw [upd_ne (ni _ _ _ _ hm)]; exact hm, by rw [upd_ne (Ne.symm nd)]; exact g2⟩, by rw [upd_ne nw]; exact g3⟩, h.wc, h.mm⟩
/-- what stands when one of the law's own lists or dicts is put -/
theorem LawAt.put (h : LawAt K A H c μ Q left st W nq nw) (n1 : 1 ≤ c.ps.length) {b : Addr} {o : HO} (hb : b = A.qd ∨ b = A.wd ∨ b = A.la ∨ b = A.sa) :
    (∀ a xs, H a = some (.tup xs) → a ≠ b) ∧ A.ka ≠ b ∧ A.m ≠ b ∧ A.dd ≠ b ∧ BothAt K (L2.upd H b o) A.mc A.m A.wl A.cl ent6 μ ∧ ∀ l xs, H l = some (.lst xs) → l ≠ A.la → l ≠ A.sa → l ≠ b := by
  obtain ⟨kvs, q1, q2, q3⟩ := h.qs
  obtain ⟨kws, w1, w2, w3⟩ := h.ws
  have S := h.sep
  have l1 := h.left
  have l2 := h.steps
  obtain ⟨x, xs, e1⟩ := intsL_cons (f := left) n1
  obtain ⟨y, ys, e2⟩ := intsL_cons (f := st) n1
  rcases hb with rfl | rfl | rfl | rfl
  · exact ⟨fun a xs ha => ne_of ha q1 (by intro z; cases z), ne_of h.kinds q1 (by intro z; cases z), ne_of h.mem q1 (by intro z; cases z), Ne.symm S.qd, both_upd h.both h.mem S.qd (.inl ⟨_, q1⟩), fun l xs hl _ _ => ne_of hl q1 (by intro z; cases z)⟩
  · exact ⟨fun a xs ha => ne_of ha w1 (by intro z; cases z), ne_of h.kinds w1 (by intro z; cases z), ne_of h.mem w1 (by intro z; cases z), Ne.symm S.wd, both_upd h.both h.mem S.wd (.inl ⟨_, w1⟩), fun l xs hl _ _ => ne_of hl w1 (by intro z; cases z)⟩
  · exact ⟨fun a xs ha => ne_of ha l1 (by intro z; cases z), S.kl, ne_of h.mem l1 (by intro z; cases z), ne_of h.dis l1 (by intro z; cases z), both_upd h.both h.mem (ne_of l1 h.dis (by intro z; cases z)) (.inr ⟨x, xs, by rw [l1, e1], S.lw, S.lc⟩), fun l xs _ n _ => n⟩
  · exact ⟨fun a xs ha => ne_of ha l2 (by intro z; cases z), S.ks, ne_of h.mem l2 (by intro z; cases z), ne_of h.dis l2 (by intro z; cases z), both_upd h.both h.mem (ne_of l2 h.dis (by intro z; cases z)) (.inr ⟨y, ys, by rw [l2, e2], S.sw, S.sc⟩), fun l xs _ _ n => n⟩
theorem LawAt.putL (h : LawAt K A H c μ Q left st W nq nw) (n1 : 1 ≤ c.ps.length) {k : Nat} {x : Int} : LawAt K A (L2.upd H A.la (.lst ((intsL c.ps.length left).set k (.int x)))) c μ Q (fset left k x) st W nq nw := by
  obtain ⟨kvs, q1, q2, q3⟩ := h.qs
  obtain ⟨kws, w1, w2, w3⟩ := h.ws
  rw [intsL_set]
  obtain ⟨p1, p2, p3, p4, p5, p6⟩ := h.put (o := .lst (intsL c.ps.length (fset left k x))) n1 (.inr (.inr (.inl rfl)))
  have tk : TK H (L2.upd H A.la (.lst (intsL c.ps.length (fset left k x)))) := fun a xs ha => by rw [upd_ne (p1 a xs ha)]; exact ha
  exact ⟨h.plan.mono tk, h.parts.mono tk, by rw [upd_ne p2]; exact h.kinds, p5, by rw [upd_ne p3]; exact h.mem, by rw [upd_ne p4]; exact h.dis, ⟨kvs, by rw [upd_ne (ne_of q1 h.left (by intro z; cases z))]; exact q1, q2, q3.mono fun l xs hl _ _ n3 n4 => by rw [upd_ne (p6 l xs hl n3 n4)]; exact hl⟩,
    ⟨kws, by rw [upd_ne (ne_of w1 h.left (by intro z; cases z))]; exact w1, w2, w3⟩, upd_same, by rw [upd_ne (Ne.symm h.sep.ls)]; exact h.steps, h.sep⟩
theorem LawAt.putS (h : LawAt K A H c μ Q left st W nq nw) (n1 : 1 ≤ c.ps.length) {k : Nat} {x : Int} : LawAt K A (L2.upd H A.sa (.lst ((intsL c.ps.length st).set k (.int x)))) c μ Q left (fset st k x) W nq nw := by
  obtain ⟨kvs, q1, q2, q3⟩ := h.qs
  obtain ⟨kws, w1, w2, w3⟩ := h.ws
  rw [intsL_set]
  obtain ⟨p1, p2, p3, p4, p5, p6⟩ := h.put (o := .lst (intsL c.ps.length (fset st k x))) n1 (.inr (.inr (.inr rfl)))
  have tk : TK H (L2.upd H A.sa (.lst (intsL c.ps.length (fset st k x)))) := fun a xs ha => by rw [upd_ne (p1 a xs ha)]; exact ha
  exact ⟨h.plan.mono tk, h.parts.mono tk, by rw [upd_ne p2]; exact h.kinds, p5, by rw [upd_ne p3]; exact h.mem, by rw [upd_ne p4]; exact h.dis, ⟨kvs, by rw [upd_ne (ne_of q1 h.steps (by intro z; cases z))]; exact q1, q2, q3.mono fun l xs hl _ _ n3 n4 => by rw [upd_ne (p6 l xs hl n3 n4)]; exact hl⟩,
    ⟨kws, by rw [upd_ne (ne_of w1 h.steps (by intro z; cases z))]; exact w1, w2, w3⟩, by rw [upd_ne h.sep.ls]; exact h.left, upd_same, h.sep⟩
theorem LawAt.putW (h : LawAt K A H c μ Q left st W nq nw) (n1 : 1 ≤ c.ps.length) {kws : List (Key × V)} (hw : H A.wd = some (.dK kws)) (hl : kws.length ≤ nw) (hW : WAt kws W) {k : Nat} {x : Int} :
    LawAt K A (L2.upd H A.wd (.dK (putK kws (Sum.inl (k : Int) : Key) (.int x)))) c μ Q left st (fset W k x) nq (nw + 1) := by
  obtain ⟨kvs, q1, q2, q3⟩ := h.qs
  obtain ⟨p1, p2, p3, p4, p5, p6⟩ := h.put (o := .dK (putK kws (Sum.inl (k : Int) : Key) (.int x))) n1 (.inr (.inl rfl))
  have tk : TK H (L2.upd H A.wd (.dK (putK kws (Sum.inl (k : Int) : Key) (.int x)))) := fun a xs ha => by rw [upd_ne (p1 a xs ha)]; exact ha
  have S := h.sep
  refine ⟨h.plan.mono tk, h.parts.mono tk, by rw [upd_ne p2]; exact h.kinds, p5, by rw [upd_ne p3]; exact h.mem, by rw [upd_ne p4]; exact h.dis, ⟨kvs, by rw [upd_ne S.qw]; exact q1, q2, q3.mono fun l xs hl _ _ n3 n4 => by rw [upd_ne (p6 l xs hl n3 n4)]; exact hl⟩,
    ⟨_, upd_same, by have := length_putK kws (Sum.inl (k : Int) : Key) (.int x); omega, fun i => ?_⟩, by rw [upd_ne (ne_of h.left hw (by intro z; cases z))]; exact h.left, by rw [upd_ne (ne_of h.steps hw (by intro z; cases z))]; exact h.steps, S⟩
  rw [valV_put]
  by_cases e : i = k
  · subst e
    right
    rw [if_pos rfl, fset_same]
  · rw [if_neg (fun z => e (by have : (i : Int) = (k : Int) := Sum.inl.inj z; omega)), fset_ne e]
    exact hW i
theorem LawAt.putQ (h : LawAt K A H c μ Q left st W nq nw) (n1 : 1 ≤ c.ps.length) {kvs : List (Key × V)} (hq : H A.qd = some (.dK kvs)) (hl : kvs.length ≤ nq) (hQ : QAt H A kvs Q) {n : Int} {l : Addr} {q : List Nat} (h0 : H l = some (.lst (qV q))) (h1 : l ≠ A.wl) (h2 : l ≠ A.cl) (h3 : l ≠ A.la) (h4 : l ≠ A.sa) :
    LawAt K A (L2.upd H A.qd (.dK (putK kvs (Sum.inl n : Key) (.ref l)))) c μ (fun m => if m = n then q else Q m) left st W (nq + 1) nw := by
  obtain ⟨kws, w1, w2, w3⟩ := h.ws
  obtain ⟨p1, p2, p3, p4, p5, p6⟩ := h.put (o := .dK (putK kvs (Sum.inl n : Key) (.ref l))) n1 (.inl rfl)
  have tk : TK H (L2.upd H A.qd (.dK (putK kvs (Sum.inl n : Key) (.ref l)))) := fun a xs ha => by rw [upd_ne (p1 a xs ha)]; exact ha
  have S := h.sep
  refine ⟨h.plan.mono tk, h.parts.mono tk, by rw [upd_ne p2]; exact h.kinds, p5, by rw [upd_ne p3]; exact h.mem, by rw [upd_ne p4]; exact h.dis, ⟨_, upd_same, by have := length_putK kvs (Sum.inl n : Key) (.ref l); omega, fun m m0 m1 => ?_⟩,
    ⟨kws, by rw [upd_ne (Ne.symm S.qw)]; exact w1, w2, w3⟩, by rw [upd_ne (ne_of h.left hq (by intro z; cases z))]; exact h.left, by rw [upd_ne (ne_of h.steps hq (by intro z; cases z))]; exact h.steps, S⟩
  rw [valV_put]
  have hQ2 : QAt (L2.upd H A.qd (.dK (putK kvs (Sum.inl n : Key) (.ref l)))) A kvs Q := hQ.mono fun l xs hl _ _ n3 n4 => by rw [upd_ne (p6 l xs hl n3 n4)]; exact hl
  by_cases e : m = n
  · subst e
    right
    rw [if_pos rfl, show (fun (m' : Int) => if m' = m then q else Q m') m = q from if_pos rfl]
    exact ⟨l, rfl, by rw [upd_ne (p6 l _ h0 h3 h4)]; exact h0, h1, h2, h3, h4⟩
  · rw [if_neg (fun z => e (Sum.inl.inj z)), show (fun (m' : Int) => if m' = n then q else Q m') m = Q m from if_neg e]
    exact hQ2 m m0 m1
end
end KL

namespace KL
open KA KD
open PySem PySem.Spec PyProof.Rows L2 Evl TL
/-! ### rules for the law's walk -/
theorem exists_list {α : Type} (x0 : α) {R : Nat → α → Prop} : ∀ n : Nat, (∀ i, i < n → ∃ y, R i y) → ∃ ys : List α, ys.length = n ∧ ∀ i, i < n → R i (ys.getD i x0)
  | 0, _ => ⟨[], rfl, fun i hi => absurd hi (Nat.not_lt_zero i)⟩
  | n + 1, h => by
    obtain ⟨ys, hl, hy⟩ := exists_list x0 n fun i hi => h i (Nat.lt_succ_of_lt hi)
    obtain ⟨y, hn⟩ := h n (Nat.lt_succ_self n)
    refine ⟨ys ++ [y], by simp [hl], fun i hi => ?_⟩
    by_cases e : i = n
    · subst e
      rw [List.getD_eq_getElem?_getD, List.getElem?_append_right (by omega), hl, Nat.sub_self]
      exact hn
    · rw [List.getD_eq_getElem?_getD, List.getElem?_append_left (by omega), ← List.getD_eq_getElem?_getD]
      exact hy i (by omega)
section
variable {σ : L2.St} {H H0 : Hp} {K : PySem.W.Frag} {D : Ends} {d ca : Addr} {te tn : TE} {tz : TS}
theorem TK.frd {H' : Hp} (f : FrD d H H') (h : TapeAt H d ca) : TK H H' := fun b xs hb => by
  obtain ⟨cs, at_, l, s, t, h1, _⟩ := h.ex
  exact f b _ hb (ne_of hb h1 (by intro z; cases z))
def DrV (te : TE) (σ : L2.St) (d ca : Addr) (H0 : Hp) (P : Pr) : Prop := ∀ (H : Hp) (Q : VK), FrD d H0 H → TapeAt H d ca → (∀ v H', P v H' → TapeAt H' d ca → FrD d H H' → Q v H') → te σ H Q
theorem dv_int {P : Int → Prop} (h : Dr te σ d ca P) : DrV te σ d ca H0 (fun v _ => ∃ x, v = .int x ∧ P x) := fun H Q _ hT q => h H Q hT fun v H' p hT' f => q _ H' ⟨v, rfl, p⟩ hT' f
/-- a list of what is drawn, as many as are drawn -/
theorem dl_lcRD {j : Nat} {vs : List Nat} {P : Nat → Pr} {Pn : Int → Prop} (hP : ∀ i, Mo (P i)) (hn : Dr tn σ d ca (fun n => 0 ≤ n ∧ n ≤ 40000 ∧ Pn n)) (hw : ∀ x, wipe ((wipe σ vs).set j (some x)) vs = wipe σ vs)
    (he : ∀ i : Nat, DrV te ((wipe σ vs).set j (some (.int (i : Int)))) d ca H (P i)) (Q : VK) (hT : TapeAt H d ca)
    (q : ∀ p H' (n : Int) (xs : List V), H p = none → Pn n → xs.length = n.toNat → (∀ i v, xs[i]? = some v → P i v H') → TapeAt H' d ca → FrD d H H' → H' p = some (.lst xs) → Q (.ref p) H') : tLc (iRng1 (tCons tn tNil)) (gName j) tYes te vs σ H Q :=
  hn H _ hT fun n H1 ⟨n0, n1, pn⟩ hT1 f1 => ⟨n, rfl, by omega, by omega, fun Dl hD => by
    have hDl0 : H Dl = none := by
      cases e : H Dl with
      | none => rfl
      | some o =>
        have nd := (hT1.ne hD).1
        rw [f1 _ _ e nd] at hD
        cases hD
    refine lc_range (lo := 0) (n := n.toNat) (fun i H' => ∃ xs : List V, xs.length = i ∧ (∀ k v, xs[k]? = some v → P k v H') ∧ TapeAt H' d ca ∧ FrD d H H' ∧ H' Dl = some (.lst xs))
      ⟨[], rfl, (fun k v h => by cases h), hT1.keep (Ex.new hD), f1.trans (FrD.of (Ex.new hD)), upd_same⟩
      (fun i H' hi ⟨xs, hl, hx, hT', f, hDl⟩ => ?_) (fun H' ⟨xs, hl, hx, hT', f, hDl⟩ => q Dl H' n xs hDl0 pn hl hx hT' f hDl)
    have e0 : (0 : Int) + (i : Int) = (i : Int) := Int.zero_add _
    show wipe ((wipe σ vs).set j (some (.int ((0 : Int) + (i : Int))))) vs = wipe σ vs ∧ te ((wipe σ vs).set j (some (.int ((0 : Int) + (i : Int))))) H' fun y H4 => ∃ acc, H4 Dl = some (.lst acc) ∧ acc.length < sizeLine ∧ _
    rw [e0]
    have nn := hT1.ne hD
    refine ⟨hw _, he i H' _ f hT' fun v H4 pv hT4 f4 => ⟨xs, f4 _ _ hDl nn.1, sz_lt (by omega), xs ++ [v], by simp [hl], fun k u hk => ?_, hT4.upd nn.1 nn.2, ?_, by rw [upd_same]⟩⟩
    · have h4 := f4 _ _ hDl nn.1
      have tk2 : TK H4 (L2.upd H4 Dl (.lst (xs ++ [v]))) := fun b ys hb => by rw [upd_ne (ne_of hb h4 (by intro z; cases z))]; exact hb
      by_cases e : k < xs.length
      · rw [List.getElem?_append_left e] at hk
        exact hP k _ _ _ ((TK.frd f4 hT').trans tk2) (hx k u hk)
      · have hk2 := List.getElem?_eq_some_iff.mp hk
        have : k = xs.length := by
          have h3 := hk2.1
          rw [List.length_append] at h3
          simp at h3
          omega
        subst this
        rw [List.getElem?_append_right (Nat.le_refl _), Nat.sub_self] at hk
        cases hk
        rw [hl]
        exact hP i _ _ _ tk2 pv
    · intro b o hb hne
      have nb : b ≠ Dl := fun z => by rw [z, hDl0] at hb; cases hb
      rw [upd_ne nb]
      exact f4 _ _ (f _ _ hb hne) hne⟩
/-- over a list -/
theorem dl_lcLD {j : Nat} {vs : List Nat} {P : Nat → Pr} {tl : TE} {a : Addr} {ys : List V} (hP : ∀ i, Mo (P i)) (hl0 : Ev tl σ H (.ref a)) (ha : H a = some (.lst ys)) (hz : ys.length ≤ 40000) (hw : ∀ x, wipe ((wipe σ vs).set j (some x)) vs = wipe σ vs)
    (he : ∀ (i : Nat) (y : V), ys[i]? = some y → DrV te ((wipe σ vs).set j (some y)) d ca H (P i)) (Q : VK) (hT : TapeAt H d ca)
    (q : ∀ p H' (xs : List V), H p = none → xs.length = ys.length → (∀ i v, xs[i]? = some v → P i v H') → TapeAt H' d ca → FrD d H H' → H' p = some (.lst xs) → Q (.ref p) H') : tLc (iList K tl) (gName j) tYes te vs σ H Q :=
  hl0 H (Ex.refl H) _ fun H1 e1 => ⟨a, rfl, ⟨ys, sq_of (e1 _ _ ha)⟩, fun Dl hD => by
    have hDl0 : H Dl = none := fresh_back e1 hD
    have hT1 := hT.keep e1
    have nn := hT1.ne hD
    have nad : a ≠ d := by
      obtain ⟨cs, at_, l, s, t, h1, _⟩ := hT.ex
      exact ne_of ha h1 (by intro z; cases z)
    refine lc_list (xs := ys) (fun i H' => ∃ xs : List V, xs.length = i ∧ (∀ k v, xs[k]? = some v → P k v H') ∧ TapeAt H' d ca ∧ FrD d H H' ∧ H' Dl = some (.lst xs))
      ⟨[], rfl, (fun k v h => by cases h), hT1.keep (Ex.new hD), FrD.of (e1.trans (Ex.new hD)), upd_same⟩ (fun i H' _ ⟨_, _, _, _, f, _⟩ => sq_of (f _ _ ha nad))
      (fun i y H' hi ⟨xs, hl, hx, hT', f, hDl⟩ => ?_) (fun H' ⟨xs, hl, hx, hT', f, hDl⟩ => q Dl H' xs hDl0 hl hx hT' f hDl)
    have hib := (List.getElem?_eq_some_iff.mp hi).1
    refine ⟨hw _, he i y hi H' _ f hT' fun v H4 pv hT4 f4 => ⟨xs, f4 _ _ hDl nn.1, sz_lt (by omega), xs ++ [v], by simp [hl], fun k u hk => ?_, hT4.upd nn.1 nn.2, ?_, by rw [upd_same]⟩⟩
    · have h4 := f4 _ _ hDl nn.1
      have tk2 : TK H4 (L2.upd H4 Dl (.lst (xs ++ [v]))) := fun b ys hb => by rw [upd_ne (ne_of hb h4 (by intro z; cases z))]; exact hb
      by_cases e : k < xs.length
      · rw [List.getElem?_append_left e] at hk
        exact hP k _ _ _ ((TK.frd f4 hT').trans tk2) (hx k u hk)
      · have hk2 := List.getElem?_eq_some_iff.mp hk
        have : k = xs.length := by
          have h3 := hk2.1
          rw [List.length_append] at h3
          simp at h3
          omega
        subst this
        rw [List.getElem?_append_right (Nat.le_refl _), Nat.sub_self] at hk
        cases hk
        rw [hl]
        exact hP i _ _ _ tk2 pv
    · intro b o hb hne
      have nb : b ≠ Dl := fun z => by rw [z, hDl0] at hb; cases hb
      rw [upd_ne nb]
      exact f4 _ _ (f _ _ hb hne) hne⟩
/-- parts[k][j], plan[i][j] -/
theorem ev_part {tv tk tj : TE} {qa : Addr} {ps : List Part6} {k : Nat} {j : Int} {v : V} (hP : PartsAt H qa ps) (hv : Ev tv σ H (.ref qa)) (hk : Ev tk σ H (.int (k : Int))) (hkl : k < ps.length) (hj : Ev tj σ H (.int j))
    (hx : ∀ cp : Addr, atI [V.int (ps.getD k ⟨0, 0, 0, []⟩).d, .int (ps.getD k ⟨0, 0, 0, []⟩).pr, .int (ps.getD k ⟨0, 0, 0, []⟩).bu, .ref cp, .int 0] j = some v) : Ev (tOp (rIxT K) (tOp (rIxT K) tv tk) tj) σ H v := by
  obtain ⟨vs, h1, h2, h3⟩ := hP
  obtain ⟨u, hu⟩ : ∃ u, vs[k]? = some u := ⟨vs[k]'(by omega), List.getElem?_eq_getElem _⟩
  obtain ⟨t, cp, rfl, ht, _⟩ := h3 k u hu
  exact ev_op (ev_op hv hk (rv_ixT (st_of h1) (atI_nat hu))) hj (rv_ixT (st_of ht) (hx cp))
theorem ev_plan {tv tk tj : TE} {pa : Addr} {pl : List (Int × Int)} {k : Nat} {j : Int} {v : V} (hP : PlanAt H pa pl) (hv : Ev tv σ H (.ref pa)) (hk : Ev tk σ H (.int (k : Int))) (hkl : k < pl.length) (hj : Ev tj σ H (.int j))
    (hx : atI [V.int (pl.getD k (0, 0)).1, .int (pl.getD k (0, 0)).2] j = some v) : Ev (tOp (rIxT K) (tOp (rIxT K) tv tk) tj) σ H v := by
  obtain ⟨vs, h1, h2, h3⟩ := hP
  obtain ⟨u, hu⟩ : ∃ u, vs[k]? = some u := ⟨vs[k]'(by omega), List.getElem?_eq_getElem _⟩
  obtain ⟨t, rfl, ht⟩ := h3 k u hu
  exact ev_op (ev_op hv hk (rv_ixT (st_of h1) (atI_nat hu))) hj (rv_ixT (st_of ht) hx)
theorem PartsAt.len {qa : Addr} {ps : List Part6} (hP : PartsAt H qa ps) : ∃ vs, H qa = some (.tup vs) ∧ vs.length = ps.length := by
  obtain ⟨vs, h1, h2, _⟩ := hP
  exact ⟨vs, h1, h2⟩
theorem PlanAt.len {pa : Addr} {pl : List (Int × Int)} (hP : PlanAt H pa pl) : ∃ vs, H pa = some (.tup vs) ∧ vs.length = pl.length := by
  obtain ⟨vs, h1, h2, _⟩ := hP
  exact ⟨vs, h1, h2⟩
/-- queues.get(key, []) -/
theorem q_qget {A : Ad} {kvs : List (Key × V)} {Q : QF} {td tk : TE} {i : Nat} {n : Int} (hd : Ev td σ H (.ref A.qd)) (hq : H A.qd = some (.dK kvs)) (hQ : QAt H A kvs Q) (hk : Ev tk σ H (.int n)) (n0 : 0 ≤ n) (n1 : n < 8)
    (k : ∀ p H1, Ex H H1 → H1 p = some (.lst (qV (Q n))) → tz D (σ.set i (some (.ref p))) H1) : tSeq (tAsg (tDGet2 td tk (tLst tNil)) (gName i)) tz D σ H :=
  hd H (Ex.refl H) _ fun H1 e1 => ⟨A.qd, rfl, .inl ⟨kvs, Rd.of (e1 _ _ hq)⟩, hk H1 e1 _ fun H2 e2 => show ([] : List V).length ≤ sizeLine ∧ _ from ⟨Nat.zero_le _, fun l hl => by
    have e3 : Ex H2 (L2.upd H2 l (.lst [])) := Ex.new hl
    have e := (e1.trans e2).trans e3
    rcases hQ n n0 n1 with ⟨h1, h2⟩ | ⟨p, h1, h2, _⟩
    · refine ⟨none, h1 ▸ DGet.k (k := Sum.inl n) (e _ _ hq), k l _ e ?_⟩
      rw [h2, upd_same]
      rfl
    · exact ⟨some (.ref p), h1 ▸ DGet.k (k := Sum.inl n) (e _ _ hq), k p _ e (e _ _ h2)⟩⟩⟩
/-- queues[key] -/
theorem ev_qget {kvs : List (Key × V)} {td tk : TE} {n : Int} {v : V} {b : Addr} (hd : Ev td σ H (.ref b)) (hq : H b = some (.dK kvs)) (hv : valV kvs (Sum.inl n : Key) = some v) (hk : Ev tk σ H (.int n)) : Ev (tDGet td tk) σ H v := fun H1 e Q q =>
  hd H1 e _ fun H2 e2 => hk H2 (e.trans e2) _ fun H3 e3 => ⟨b, v, rfl, hv ▸ DGet.k (k := Sum.inl n) (e3 _ _ (e2 _ _ (e _ _ hq))), q H3 (e2.trans e3)⟩
/-- waits.get(k, 0) -/
theorem ev_wget {kvs : List (Key × V)} {td tk : TE} {n x : Int} {b : Addr} (hd : Ev td σ H (.ref b)) (hq : H b = some (.dK kvs)) (hk : Ev tk σ H (.int n)) (hv : (valV kvs (Sum.inl n : Key) = none ∧ x = 0) ∨ valV kvs (Sum.inl n : Key) = some (.int x)) : Ev (tDGet2 td tk (tC (.int 0))) σ H (.int x) := fun H1 e Q q =>
  hd H1 e _ fun H2 e2 => ⟨b, rfl, .inl ⟨kvs, Rd.of (e2 _ _ (e _ _ hq))⟩, hk H2 (e.trans e2) _ fun H3 e3 => by
    have h3 := e3 _ _ (e2 _ _ (e _ _ hq))
    rcases hv with ⟨h1, rfl⟩ | h1
    · exact ⟨none, h1 ▸ DGet.k (k := Sum.inl n) h3, q H3 (e2.trans e3)⟩
    · exact ⟨some (.int x), h1 ▸ DGet.k (k := Sum.inl n) h3, q H3 (e2.trans e3)⟩⟩
/-- d[key] = v -/
theorem q_dputI {td tk tv : TE} {b : Addr} {kvs : List (Key × V)} {n : Int} {v : V} (hv : Ev tv σ H v) (hd : Ev td σ H (.ref b)) (hk : Ev tk σ H (.int n)) (h : H b = some (.dK kvs)) (hl : kvs.length < 100000) (kk : ∀ H1, Ex H H1 → tz D σ (upd H1 b (.dK (putK kvs (Sum.inl n : Key) v)))) :
    tSeq (sDPut td tk tv) tz D σ H := hv H (Ex.refl H) _ fun H1 e1 => hd H1 e1 _ fun H2 e2 => hk H2 (e1.trans e2) _ fun H3 e3 => ⟨b, _, rfl, DPut.k (k := Sum.inl n) (((e1.trans e2).trans e3) _ _ h) (sz_lt hl), kk H3 ((e1.trans e2).trans e3)⟩
theorem s_dputL {td tk tv : TE} {b : Addr} {kvs : List (Key × V)} {n : Int} {xs : List V} (hv : EvL tv σ H xs) (hd : Ev td σ H (.ref b)) (hk : Ev tk σ H (.int n)) (h : H b = some (.dK kvs)) (hl : kvs.length < 100000) (kk : ∀ p H1, H p = none → Ex H H1 → H1 p = some (.lst xs) → D.nx σ (upd H1 b (.dK (putK kvs (Sum.inl n : Key) (.ref p))))) :
    sDPut td tk tv D σ H := hv H (Ex.refl H) _ fun p H1 hp e1 h1 => hd H1 e1 _ fun H2 e2 => hk H2 (e1.trans e2) _ fun H3 e3 => ⟨b, _, rfl, DPut.k (k := Sum.inl n) (((e1.trans e2).trans e3) _ _ h) (sz_lt hl), kk p H3 hp ((e1.trans e2).trans e3) (e3 _ _ (e2 _ _ h1))⟩
end
end KL

namespace KL
open KA KD
open PySem PySem.Spec PyProof.Rows L2 Evl TL
section
variable {σ : L2.St} {H H0 : Hp} {K : PySem.W.Frag} {D : Ends} {d ca : Addr} {te tn ta tb : TE} {tu tz : TS}
theorem q_forRD {j : Nat} {m : Int} {Pn : Int → Prop} (hn : Dr tn σ d ca Pn) (hm : ∀ n, Pn n → 0 ≤ n ∧ n < m) (hm1 : m ≤ 100000) (hT : TapeAt H d ca) (Pv : Nat → L2.St → Hp → Prop) (h0 : ∀ H1, TapeAt H1 d ca → FrD d H H1 → Pv 0 σ H1)
    (hs : ∀ (i : Nat) σ' H', (i : Int) < m → Pv i σ' H' → tu { D with nx := Pv (i + 1), ct := Pv (i + 1), bk := tz D } (σ'.set j (some (.int (i : Int)))) H') (hd : ∀ i σ' H', Pv i σ' H' → tz D σ' H') : tSeq (tFor (iRng1 (tCons tn tNil)) (gName j) tu) tz D σ H :=
  hn H _ hT fun n H1 pn hT1 f1 => ⟨n, rfl, by have := hm n pn; omega, by have := hm n pn; omega, for_range (D := { D with nx := tz D }) (lo := 0) (n := n.toNat) Pv (h0 H1 hT1 f1) (fun i σ' H' hi p => by
    have e0 : (0 : Int) + (i : Int) = (i : Int) := Int.zero_add _
    show tu { D with nx := Pv (i + 1), ct := Pv (i + 1), bk := tz D } (σ'.set j (some (.int ((0 : Int) + (i : Int))))) H'
    rw [e0]
    exact hs i σ' H' (by have := hm n pn; omega) p) (hd _)⟩
theorem q_forNU {xs : List V} {tx : TE} {g : TG} (h : EvU tx σ H xs) (Pv : Addr → Nat → L2.St → Hp → Prop) (h0 : ∀ p H1, H p = none → Ex H H1 → H1 p = some (.tup xs) → Pv p 0 σ H1) (hl : ∀ p i σ' H', i ≤ xs.length → Pv p i σ' H' → SqT K H' p xs)
    (hs : ∀ p i x σ' H', xs[i]? = some x → Pv p i σ' H' → g x σ' H' fun σ2 H2 => tu { D with nx := Pv p (i + 1), ct := Pv p (i + 1), bk := tz D } σ2 H2) (hd : ∀ p σ' H', Pv p xs.length σ' H' → tz D σ' H') : tSeq (tFor (iTup K tx) g tu) tz D σ H :=
  h H (Ex.refl H) _ fun p H1 hp e h1 => ⟨p, rfl, ⟨xs, st_of h1⟩, for_tup (D := { D with nx := tz D }) (Pv p) (h0 p H1 hp e h1) (hl p) (hs p) (hd p)⟩
theorem el_cat {xs ys : List V} (h1 : EvL ta σ H xs) (h2 : EvL tb σ H ys) (hz : xs.length + ys.length ≤ 100000) : EvL (tOp rCat ta tb) σ H (xs ++ ys) := fun H1 e Q q =>
  h1 H1 e _ fun p H2 hp e2 hp2 => h2 H2 (e.trans e2) _ fun p' H3 hp' e3 hp3 => ⟨p, p', xs, ys, rfl, rfl, e3 _ _ hp2, hp3, sz_of hz, fun l hl => q l _ (fresh_back (e2.trans e3) hl) ((e2.trans e3).trans (Ex.new hl)) upd_same⟩
/-- queues.get(key, []) + [k] -/
theorem el_qcat {A : Ad} {kvs : List (Key × V)} {Q : QF} {td tk : TE} {n : Int} {x : Nat} (hd : Ev td σ H (.ref A.qd)) (hq : H A.qd = some (.dK kvs)) (hQ : QAt H A kvs Q) (hk : Ev tk σ H (.int n)) (n0 : 0 ≤ n) (n1 : n < 8) (hx : Ev te σ H (.int (x : Int))) (hl : (Q n).length ≤ 1000) :
    EvL (tOp rCat (tDGet2 td tk (tLst tNil)) (tLst (tCons te tNil))) σ H (qV (Q n ++ [x])) := fun H1 e R q =>
  hd H1 e _ fun H2 e2 => ⟨A.qd, rfl, .inl ⟨kvs, Rd.of (e2 _ _ (e _ _ hq))⟩, hk H2 (e.trans e2) _ fun H3 e3 => show ([] : List V).length ≤ sizeLine ∧ _ from ⟨Nat.zero_le _, fun l hl0 => by
    have e4 : Ex H3 (L2.upd H3 l (.lst [])) := Ex.new hl0
    have e14 : Ex H1 (L2.upd H3 l (.lst [])) := (e2.trans e3).trans e4
    have fin : ∀ p, (L2.upd H3 l (.lst [])) p = some (.lst (qV (Q n))) → tLst (tCons te tNil) σ (L2.upd H3 l (.lst [])) (fun y H5 => rCat (.ref p) y H5 R) := fun p hp =>
      el_lst (ea_cons hx ea_nil) (by show 1 ≤ 100000; decide) _ (e.trans e14) _ fun p2 H5 hp2 e5 h5 => ⟨p, p2, qV (Q n), _, rfl, rfl, e5 _ _ hp, h5, sz_of (by show (qV (Q n)).length + 1 ≤ 100000; unfold qV; rw [List.length_map]; omega), fun r hr => by
        refine q r _ (fresh_back (e14.trans e5) hr) ((e14.trans e5).trans (Ex.new hr)) ?_
        rw [upd_same]
        unfold qV
        rw [List.map_append]
        rfl⟩
    rcases hQ n n0 n1 with ⟨h1, h2⟩ | ⟨p, h1, h2, _⟩
    · refine ⟨none, h1 ▸ DGet.k (k := Sum.inl n) (e14 _ _ (e _ _ hq)), fin l ?_⟩
      rw [h2, upd_same]
      rfl
    · exact ⟨some (.ref p), h1 ▸ DGet.k (k := Sum.inl n) (e14 _ _ (e _ _ hq)), fin p (e14 _ _ (e _ _ h2))⟩⟩⟩
end
theorem qV_at {q : List Nat} {i : Nat} {v : V} (h : (qV q)[i]? = some v) : v = .int (q.getD i 0 : Nat) ∧ i < q.length ∧ q[i]? = some (q.getD i 0) := by
  unfold qV at h
  rw [List.getElem?_map] at h
  cases e : q[i]? with
  | none => rw [e] at h; cases h
  | some z =>
    rw [e] at h
    cases h
    have : q.getD i 0 = z := by rw [List.getD_eq_getElem?_getD, e]; rfl
    rw [this]
    exact ⟨rfl, (List.getElem?_eq_some_iff.mp e).1, rfl⟩
/-- the budgets of the others -/
def othsL (bu : Nat → Int) (k : Nat) (q : List Nat) : List Int := (q.filter fun (a : Nat) => !decide (V.int (a : Int) = V.int (k : Int))).map bu
theorem othsL_sum {bu : Nat → Int} {k : Nat} : ∀ q : List Nat, (othsL bu k q).sum = oths bu k q
  | [] => rfl
  | a :: q => by
    have ih := othsL_sum (bu := bu) (k := k) q
    unfold othsL at ih ⊢
    show _ = (if a = k then 0 else bu a) + oths bu k q
    by_cases e : a = k
    · subst e
      rw [List.filter_cons_of_neg (by simp), if_pos rfl, ih]
      omega
    · have : (!decide (V.int (a : Int) = V.int (k : Int))) = true := by
        rw [decide_eq_false (fun z => e (by have := V.int.inj z; omega))]
        rfl
      rw [List.filter_cons_of_pos (p := fun (a : Nat) => !decide (V.int (a : Int) = V.int (k : Int))) this, List.map_cons, List.sum_cons, if_neg e, ih]
theorem range_getD (q : List Nat) : (List.range q.length).map (fun i => q.getD i 0) = q := by
  apply List.ext_getElem?
  intro i
  rw [List.getElem?_map]
  by_cases h : i < q.length
  · rw [List.getElem?_range h, List.getElem?_eq_getElem h]
    show some (q.getD i 0) = _
    rw [List.getD_eq_getElem?_getD, List.getElem?_eq_getElem h]
    rfl
  · rw [List.getElem?_eq_none (by simp; omega), List.getElem?_eq_none (by omega)]
    rfl
theorem given_oths {bu : Nat → Int} {k : Nat} {q : List Nat} : given (qV q).length (fun i => !decide (V.int ((q.getD i 0 : Nat) : Int) = V.int (k : Int))) (fun i => .int (bu (q.getD i 0))) = (othsL bu k q).map V.int := by
  have e : othsL bu k q = othsL bu k ((List.range q.length).map fun i => q.getD i 0) := by rw [range_getD]
  rw [e]
  unfold othsL given qV
  rw [List.length_map, List.filter_map, List.map_map, List.map_map]
  rfl
theorem code0 : (Txt.split "add r1 r1 r1\njump 0" "\n").map wordIn = (codeOf 0).map some ∧ (Txt.split "add r1 r1 r1\njump 0" "\n").length ≤ 100 ∧ ∀ q ∈ Txt.split "add r1 r1 r1\njump 0" "\n", q.length ≤ 20000 := by decide +kernel
theorem code1 : (Txt.split "trap yield\njump 0" "\n").map wordIn = (codeOf 1).map some ∧ (Txt.split "trap yield\njump 0" "\n").length ≤ 100 ∧ ∀ q ∈ Txt.split "trap yield\njump 0" "\n", q.length ≤ 20000 := by decide +kernel
theorem code2 : (Txt.split "set r1 5\ntrap yield\nmul r1 r1 r1\njump 1" "\n").map wordIn = (codeOf 2).map some ∧ (Txt.split "set r1 5\ntrap yield\nmul r1 r1 r1\njump 1" "\n").length ≤ 100 ∧ ∀ q ∈ Txt.split "set r1 5\ntrap yield\nmul r1 r1 r1\njump 1" "\n", q.length ≤ 20000 := by decide +kernel
theorem given_true {n : Nat} {v : Nat → V} : given n (fun _ => true) v = (List.range n).map v := by
  unfold given
  rw [List.filter_eq_self.mpr (fun _ _ => rfl)]
section
variable {K : PySem.W.Frag} {A : Ad} {H H' : Hp} {c : Cfg} {μ : Mem} {Q : QF} {left st W : Nat → Int} {nq nw : Nat}
/-- the tape goes on -/
theorem LawAt.frd (h : LawAt K A H c μ Q left st W nq nw) {d : Addr} {tk : List (Key × V)} (hd : H d = some (.dK tk)) (n1 : A.qd ≠ d) (n2 : A.wd ≠ d) (n3 : A.dd ≠ d) (f : FrD d H H') : LawAt K A H' c μ Q left st W nq nw := by
  obtain ⟨kvs, q1, q2, q3⟩ := h.qs
  obtain ⟨kws, w1, w2, w3⟩ := h.ws
  obtain ⟨dx, kl, c0, c1, kept, h1, h2, h3, h4, h4w, h5, h6⟩ := h.both.ma.ex
  obtain ⟨⟨dx2, dd2, g1, g2⟩, g3⟩ := id h.both.me
  rw [h.mem] at g1
  cases g1
  have go : ∀ b o, H b = some o → (∀ k, o ≠ .dK k) → H' b = some o := fun b o hb ho => f b o hb (ne_of hb hd (ho _))
  have gt : TK H H' := fun b xs hb => go b _ hb (by intro k z; cases z)
  have gl : ∀ b xs, H b = some (.lst xs) → H' b = some (.lst xs) := fun b xs hb => go b _ hb (by intro k z; cases z)
  exact ⟨h.plan.mono gt, h.parts.mono gt, gl _ _ h.kinds,
    ⟨⟨dx, kl, c0, c1, kept, go _ _ h1 (by intro k z; cases z), gl _ _ h2, gl _ _ h3, h4, h4w, h5, fun v hv => (h6 v hv).mono gt⟩, ⟨⟨_, _, go _ _ h.mem (by intro k z; cases z), f _ _ g2 n3⟩, gl _ _ g3⟩, h.both.wc, h.both.mm⟩,
    go _ _ h.mem (by intro k z; cases z), f _ _ h.dis n3, ⟨kvs, f _ _ q1 n1, q2, q3.mono fun l xs hl _ _ _ _ => gl _ _ hl⟩, ⟨kws, f _ _ w1 n2, w2, w3⟩, gl _ _ h.left, gl _ _ h.steps, h.sep⟩
theorem LawAt.le (h : LawAt K A H c μ Q left st W nq nw) {nq' nw' : Nat} (h1 : nq ≤ nq') (h2 : nw ≤ nw') : LawAt K A H c μ Q left st W nq' nw' := by
  obtain ⟨kvs, q1, q2, q3⟩ := h.qs
  obtain ⟨kws, w1, w2, w3⟩ := h.ws
  exact ⟨h.plan, h.parts, h.kinds, h.both, h.mem, h.dis, ⟨kvs, q1, Nat.le_trans q2 h1, q3⟩, ⟨kws, w1, Nat.le_trans w2 h2, w3⟩, h.left, h.steps, h.sep⟩
theorem both_frd {mc m wl cl dd dx d : Addr} {ent : Ent} {tk : List (Key × V)} (h : BothAt K H mc m wl cl ent μ) (hm : H m = some (.ins (CM K) dx [("_words", .ref wl), ("_disks", .ref dd)])) (hd : H d = some (.dK tk)) (n3 : dd ≠ d) (f : FrD d H H') : BothAt K H' mc m wl cl ent μ := by
  obtain ⟨dx', kl, c0, c1, kept, h1, h2, h3, h4, h4w, h5, h6⟩ := h.ma.ex
  obtain ⟨⟨dx2, dd2, g1, g2⟩, g3⟩ := id h.me
  rw [hm] at g1
  cases g1
  have go : ∀ b o, H b = some o → (∀ k, o ≠ .dK k) → H' b = some o := fun b o hb ho => f b o hb (ne_of hb hd (ho _))
  have gl : ∀ b xs, H b = some (.lst xs) → H' b = some (.lst xs) := fun b xs hb => go b _ hb (by intro k z; cases z)
  exact ⟨⟨dx', kl, c0, c1, kept, go _ _ h1 (by intro k z; cases z), gl _ _ h2, gl _ _ h3, h4, h4w, h5, fun v hv => (h6 v hv).mono fun b xs hb => go b _ hb (by intro k z; cases z)⟩, ⟨⟨_, _, go _ _ hm (by intro k z; cases z), f _ _ g2 n3⟩, gl _ _ g3⟩, h.wc, h.mm⟩
end
def oN : Option Nat → V
  | none => .non
  | some k => .int (k : Int)
theorem ranks_at {j : Nat} {y : V} (h : [V.int 3, .int 2, .int 1, .int 0][j]? = some y) : j < 4 ∧ y = .int ((3 - j : Nat) : Int) := by
  match j, h with
  | 0, h => cases h; exact ⟨by decide, rfl⟩
  | 1, h => cases h; exact ⟨by decide, rfl⟩
  | 2, h => cases h; exact ⟨by decide, rfl⟩
  | 3, h => cases h; exact ⟨by decide, rfl⟩
section
variable {σ : L2.St} {H : Hp} {D : Ends} {ta tb : TE}
theorem ev_want {due : Option Nat} (hv : σ[19]? = some (some (oN due))) : Ev (tIf (tTest (tOp (fun x y H Q => y = V.non ∧ Q (V.bl (decide (x = V.non))) H) (tVar 19) (tC V.non))) (tC V.non) (tOp (rI0 fun i j => V.int (i + j)) (tC (V.int 3)) (tOp (rI CMul fun i j => V.int (i * j)) (tC (V.int 5)) (tVar 19)))) σ H (oI (due.map th)) := by
  cases due with
  | none => exact ev_if (b := true) (et_is (et_test (ev_op (ev_var hv) ev_c KA.rv_isN)) rfl) (fun _ => ev_c) (fun h => by cases h)
  | some k => exact ev_if (b := false) (et_is (et_test (ev_op (ev_var hv) ev_c KA.rv_isN)) rfl) (fun h => by cases h) (fun _ => ev_op ev_c (ev_op ev_c (ev_var hv) (rv_I (.inl ⟨by decide, by decide⟩))) rv_I0)
theorem s_parVV {i j : Nat} {v w : V} (ha : Ev ta σ H v) (hb : Ev tb σ H w) (k : ∀ H1, Ex H H1 → D.nx ((σ.set i (some v)).set j (some w)) H1) : tPar i j (tCons ta (tCons tb tNil)) D σ H :=
  ha H (Ex.refl H) _ fun H1 e1 => hb H1 e1 _ fun H2 e2 => ⟨v, w, rfl, k H2 (e1.trans e2)⟩
end
theorem dec_int {a b : Int} : decide (V.int a = V.int b) = decide (a = b) := by
  by_cases h : a = b
  · rw [h, decide_eq_true rfl, decide_eq_true rfl]
  · rw [decide_eq_false h, decide_eq_false fun z => h (V.int.inj z)]
theorem time_parts {c : Cfg} {s : LS} : (c.time s).Q = s.Q ∧ (c.time s).left = s.left ∧ (c.time s).st = s.st := by
  unfold Cfg.time
  split <;> exact ⟨rfl, rfl, rfl⟩
theorem scal_oI (x : Option Int) : scal (oI x) (oI x) = true := by cases x <;> rfl
theorem st_set {st : Nat → Nat} {k : Nat} : fset (fun i => (st i : Int)) k ((st k : Int) + 1) = fun i => ((fset st k (st k + 1) i : Nat) : Int) := by
  funext i
  unfold fset
  split <;> simp
theorem kinds_at {c : Cfg} {k : Nat} (h : k < c.ks.length) : (c.ks.map V.int)[k]? = some (.int (c.kd k)) := by
  rw [List.getElem?_map, List.getElem?_eq_getElem h]
  unfold Cfg.kd
  rw [List.getD_eq_getElem?_getD, List.getElem?_eq_getElem h]
  rfl
theorem take_step {q : List Nat} (nd : q.Nodup) {j x : Nat} (h : q[j]? = some x) : x ∉ q.take j ∧ ∀ y, y ∈ q.take (j + 1) ↔ y ∈ q.take j ∨ y = x := by
  have hj := (List.getElem?_eq_some_iff.mp h)
  obtain ⟨hl, hx⟩ := hj
  refine ⟨fun hm => ?_, fun y => ?_⟩
  · have e : q = q.take j ++ q.drop j := (List.take_append_drop j q).symm
    rw [e] at nd
    have hd : x ∈ q.drop j := by
      rw [← hx]
      exact List.mem_drop_iff_getElem.mpr ⟨0, by simpa using hl, by simp⟩
    exact (List.nodup_append.mp nd).2.2 x hm x hd rfl
  · rw [List.take_add_one, h]
    simp
theorem cut1 {x : V} {xs : List V} : cutV (x :: xs) (some 1) none = xs := by
  unfold cutV
  have e : HT.sIx (x :: xs).length 0 (some 1) = 1 := by
    have := HT.sIx_nat (x :: xs).length 0 1
    rw [show ((1 : Nat) : Int) = 1 from rfl] at this
    rw [this, List.length_cons]
    omega
  rw [e, HT.sIx_none]
  show List.take ((x :: xs).length - 1) xs = xs
  rw [List.length_cons, Nat.add_sub_cancel, List.take_length]
end KL

namespace KL
open KA KD
open PySem PySem.Spec PyProof.Rows L2 Evl TL
def PrPlan : Pr := fun v H => ∃ t x y, v = .ref t ∧ H t = some (.tup [.int x, .int y]) ∧ 0 ≤ x ∧ x < 2 ∧ 1 ≤ y ∧ y ≤ 255
theorem PrPlan.mo : Mo PrPlan := fun v H H' tk ⟨t, x, y, e, h, r⟩ => ⟨t, x, y, e, tk _ _ h, r⟩
def PrInt (m : Int) : Pr := fun v _ => ∃ x, v = .int x ∧ 0 ≤ x ∧ x < m
theorem PrInt.mo {m : Int} : Mo (PrInt m) := fun v H H' _ h => h
def cAt (c0 c1 c2 : Addr) (kind : Int) : Addr := if kind = 0 then c0 else if kind = 1 then c1 else c2
def PrPart (c0 c1 c2 : Addr) (kind : Int) : Pr := fun v H => ∃ t x y z, v = .ref t ∧ H t = some (.tup [.int x, .int y, .int z, .ref (cAt c0 c1 c2 kind), .int 0]) ∧ H (cAt c0 c1 c2 kind) = some (.tup ((codeOf kind).map V.int)) ∧ 0 ≤ x ∧ x < 2 ∧ 0 ≤ y ∧ y < 4 ∧ 1 ≤ z ∧ z ≤ 63
theorem PrPart.mo {c0 c1 c2 : Addr} {kind : Int} : Mo (PrPart c0 c1 c2 kind) := fun v H H' tk ⟨t, x, y, z, e, h, h2, r⟩ => ⟨t, x, y, z, e, tk _ _ h, tk _ _ h2, r⟩
theorem q_cb1 {r : List V → Hp → VK → Prop} {te : TE} {σ : L2.St} {H : Hp} {Q : VK} (h : te σ H fun v H1 => r [v] H1 Q) : tCB r (tCons te tNil) σ H Q := h
theorem el_is {te : TE} {σ : L2.St} {H : Hp} {xs ys : List V} (h : EvL te σ H xs) (e : xs = ys) : EvL te σ H ys := e ▸ h
theorem q_consC {x : V} {tr : TA} {σ : L2.St} {H : Hp} {Q : List V → Hp → Prop} (h : tr σ H fun vs H1 => Q (x :: vs) H1) : tCons (tC x) tr σ H Q := h
theorem q_cons1 {te : TE} {σ : L2.St} {H : Hp} {Q : List V → Hp → Prop} (h : te σ H fun v H1 => Q [v] H1) : tCons te tNil σ H Q := h
theorem dr_c {σ : L2.St} {d ca : Addr} {x : Int} : Dr (tC (.int x)) σ d ca (fun v => v = x) := fun H Q hT q => q x H rfl hT (FrD.of (Ex.refl H))
section
variable {P : Program} {w : World} {K : PySem.W.Frag} {mg : Str → Option Value} {base : Heap}
def sp_law (K : PySem.W.Frag) : Sp := fun vs H Q _ => ∃ (a : Addr) (ns : List Int), vs = [.ref a] ∧ SqL K H a (ns.map V.int) ∧ ns.length ≤ 63 ∧ ∀ H', Q (.bl true) H'
theorem ok_law (T : Txt K mg) : FnOk P w K mg base CX0 10 (f_law K) (fd_law K) ["script"] (sp_law K) := by
  refine T.fn_law.ok sc_law (fun vs H Q E h => ?_) (fun cdv A outer s H vs Q E hr h => ?_)
  · obtain ⟨_, _, rfl, _⟩ := h
    rfl
  have hu := hu_of hr
  refine ⟨_, PSs.nox (pss_cons (ps_set (i := 1) sc_law.nd rfl (by first | exact Or.inr rfl | exact Or.inl rfl) (pe_call (ok_law_tape T) (hr.mono (by decide)) (by rfl) (T.glo_law_tape) (T.kp_law_tape) (T.bd_law_tape) .nil pass0 (pa_cons (pv 0) pa_nil))) (pss_cons (ps_set (i := 2) sc_law.nd rfl (Or.inl rfl) (pe_callTy call_tuple_of (by rfl) T.free_tuple (by decide +kernel) (pa_cons (pe_lc (own := [("k", 3)]) (by rfl) sc_law.nd (pi_range1 (by rfl) T.free_range (pa_cons (pe_op op_add pe_int (pe_call (ok_law_take T) (hr.mono (by decide)) (by rfl) (T.glo_law_take) (T.kp_law_take) (T.bd_law_take) .nil pass0 (pa_cons (pv 1) (pa_cons pe_int pa_nil)))) pa_nil)) (blkOk_by (N := sc_law_N) (sc := defScope s_law) (own := [("k", 3)]) (by decide +kernel)) (fun _ _ _ _ _ => (pg_name (i := 3) sc_law.nd rfl (by first | exact Or.inr rfl | exact Or.inl rfl))) (fun _ _ _ _ _ => pts_nil) (fun _ _ _ _ _ => (pe_tup (pa_cons (pe_call (ok_law_take T) (hr.mono (by decide)) (by rfl) (T.glo_law_take) (T.kp_law_take) (T.bd_law_take) .nil pass0 (pa_cons (pv 1) (pa_cons pe_int pa_nil))) (pa_cons (pe_op op_add pe_int (pe_call (ok_law_take T) (hr.mono (by decide)) (by rfl) (T.glo_law_take) (T.kp_law_take) (T.bd_law_take) .nil pass0 (pa_cons (pv 1) (pa_cons pe_int pa_nil)))) pa_nil))))) pa_nil))) (pss_cons (ps_set (i := 4) sc_law.nd rfl (by first | exact Or.inr rfl | exact Or.inl rfl) (pe_lst (pa_cons (pe_call (ok_code_in T) (hr.mono (by decide)) (by rfl) (T.glo_code_in) (T.kp_code_in) (T.bd_code_in) .nil pass0 (pa_cons pe_str pa_nil)) (pa_cons (pe_call (ok_code_in T) (hr.mono (by decide)) (by rfl) (T.glo_code_in) (T.kp_code_in) (T.bd_code_in) .nil pass0 (pa_cons pe_str pa_nil)) (pa_cons (pe_call (ok_code_in T) (hr.mono (by decide)) (by rfl) (T.glo_code_in) (T.kp_code_in) (T.bd_code_in) .nil pass0 (pa_cons pe_str pa_nil)) pa_nil))))) (pss_cons (ps_setLc (i := 5) (own := [("k", 3)]) (by rfl) sc_law.nd rfl rfl (sw_true rfl rfl rfl (by decide +kernel)) (pi_range1 (by rfl) T.free_range (pa_cons (pe_op op_add pe_int (pe_call (ok_law_take T) (hr.mono (by decide)) (by rfl) (T.glo_law_take) (T.kp_law_take) (T.bd_law_take) .nil pass0 (pa_cons (pv 1) (pa_cons pe_int pa_nil)))) pa_nil)) (blkOk_by (N := sc_law_N) (sc := defScope s_law) (own := [("k", 3)]) (by decide +kernel)) (fun _ _ _ _ _ => (pg_name (i := 3) sc_law.nd rfl (by first | exact Or.inr rfl | exact Or.inl rfl))) (fun _ _ _ _ _ => pts_nil) (fun _ _ _ _ _ => (pe_call (ok_law_take T) (hr.mono (by decide)) (by rfl) (T.glo_law_take) (T.kp_law_take) (T.bd_law_take) .nil pass0 (pa_cons (pv 1) (pa_cons pe_int pa_nil))))) (pss_cons (ps_set (i := 6) sc_law.nd rfl (by first | exact Or.inr rfl | exact Or.inl rfl) (pe_callTy call_tuple_of (by rfl) T.free_tuple (by decide +kernel) (pa_cons (pe_lc (own := [("kind", 7)]) (by rfl) sc_law.nd (pi_list (pv 5)) (blkOk_by (N := sc_law_N) (sc := defScope s_law) (own := [("kind", 7)]) (by decide +kernel)) (fun _ _ _ _ _ => (pg_name (i := 7) sc_law.nd rfl (Or.inl rfl))) (fun _ _ _ _ _ => pts_nil) (fun _ _ _ _ _ => (pe_tup (pa_cons (pe_call (ok_law_take T) (hr.mono (by decide)) (by rfl) (T.glo_law_take) (T.kp_law_take) (T.bd_law_take) .nil pass0 (pa_cons (pv 1) (pa_cons pe_int pa_nil))) (pa_cons (pe_call (ok_law_take T) (hr.mono (by decide)) (by rfl) (T.glo_law_take) (T.kp_law_take) (T.bd_law_take) .nil pass0 (pa_cons (pv 1) (pa_cons pe_int pa_nil))) (pa_cons (pe_op op_add pe_int (pe_call (ok_law_take T) (hr.mono (by decide)) (by rfl) (T.glo_law_take) (T.kp_law_take) (T.bd_law_take) .nil pass0 (pa_cons (pv 1) (pa_cons pe_int pa_nil)))) (pa_cons (pe_ix (r := rIxL K) (by exact ix_list) (pv 4) (pv 7) (fun _ _ => rfl)) (pa_cons pe_int pa_nil)))))))) pa_nil))) (pss_cut (ps_set (i := 8) sc_law.nd rfl (Or.inl rfl) (pe_make (T.mk_Machine) (ok_Machine_init T) (hr.mono (by decide)) (by rfl) (T.glo_Machine) (T.bd_Machine_init) .nil pass0 (pa_cons (pe_call (ok_booted T) (hr.mono (by decide)) (by rfl) (T.glo_booted) (T.kp_booted) (T.bd_booted) .nil pass0 (pa_cons (pv 2) (pa_cons (pv 6) (pa_cons (pe_tup pa_nil) (pa_cons (pe_tup pa_nil) pa_nil))))) (pa_cons pe_int pa_nil)))) (pss_cons (ps_asg (pe_tup (pa_cons pe_dnewK (pa_cons (pe_lc (own := [("part", 14)]) (by rfl) sc_law.nd (pi_tup (pv 6)) (blkOk_by (N := sc_law_N) (sc := defScope s_law) (own := [("part", 14)]) (by decide +kernel)) (fun _ _ _ _ _ => (pg_name (i := 14) sc_law.nd rfl (Or.inl rfl))) (fun _ _ _ _ _ => pts_nil) (fun _ _ _ _ _ => (pe_ix (r := rIxT K) (by exact ix_tup) (pv 14) pe_int (fun _ _ => rfl)))) (pa_cons pe_int (pa_cons pe_int (pa_cons (pe_lc (own := [("part", 14)]) (by rfl) sc_law.nd (pi_tup (pv 6)) (blkOk_by (N := sc_law_N) (sc := defScope s_law) (own := [("part", 14)]) (by decide +kernel)) (fun _ _ _ _ _ => (pg_name (i := 14) sc_law.nd rfl (Or.inl rfl))) (fun _ _ _ _ _ => pts_nil) (fun _ _ _ _ _ => pe_int)) pa_nil)))))) (pg_tup (by rfl) (pgs_cons (pg_name (i := 9) sc_law.nd rfl (Or.inl rfl)) (pgs_cons (pg_name (i := 10) sc_law.nd rfl (Or.inl rfl)) (pgs_cons (pg_name (i := 11) sc_law.nd rfl (Or.inl rfl)) (pgs_cons (pg_name (i := 12) sc_law.nd rfl (Or.inl rfl)) (pgs_cons (pg_name (i := 13) sc_law.nd rfl (Or.inl rfl)) pgs_nil))))))) (pss_cons (ps_for PassesOwn.never rfl (pi_range1 (by rfl) T.free_range (pa_cons (pe_callB call_len (by rfl) T.free_len PySem.boot_len (pa_cons (pv 6) pa_nil)) pa_nil)) (pg_name (i := 3) sc_law.nd rfl (by first | exact Or.inr rfl | exact Or.inl rfl)) (pss_cons (ps_set (i := 15) sc_law.nd rfl (Or.inl rfl) (pe_op op_add (pe_op op_mul (pe_ix ix_tup (pe_ix ix_tup (pv 6) (pv 3) (fun _ _ => rfl)) pe_int (fun _ _ => rfl)) pe_int) (pe_ix ix_tup (pe_ix ix_tup (pv 6) (pv 3) (fun _ _ => rfl)) pe_int (fun _ _ => rfl)))) (pss_one (ps_dput hu (pv 9) (pv 15) (pe_op op_cat (pe_dget2 hu (pv 9) (pv 15) (pe_lst pa_nil) ⟨rfl, rfl, rfl, rfl⟩) (pe_lst (pa_cons (pv 3) pa_nil))) rfl)))) (pss_cons (ps_set (i := 16) sc_law.nd rfl (Or.inl rfl) pe_dnewK) (pss_cons (ps_for PassesOwn.never rfl (pi_range1 (by rfl) T.free_range (pa_cons (pe_call (ok_law_take T) (hr.mono (by decide)) (by rfl) (T.glo_law_take) (T.kp_law_take) (T.bd_law_take) .nil pass0 (pa_cons (pv 1) (pa_cons pe_int pa_nil))) pa_nil)) (pg_name (i := 17) sc_law.nd rfl (Or.inl rfl)) (pss_cons (ps_par (i := 18) (j := 19) (by rfl) sc_law.nd rfl rfl (by decide) rfl rfl (pa_cons (pe_ix ix_tup (pe_ix ix_tup (pv 2) (pv 11) (fun _ _ => rfl)) pe_int (fun _ _ => rfl)) (pa_cons pe_non pa_nil)) (by rfl)) (pss_cons (ps_for PassesOwn.never rfl (pi_tup (pe_tup (pa_cons pe_int (pa_cons pe_int (pa_cons pe_int (pa_cons pe_int pa_nil)))))) (pg_name (i := 20) sc_law.nd rfl (Or.inl rfl)) (pss_cons (ps_set (i := 21) sc_law.nd rfl (Or.inl rfl) (pe_dget2 hu (pv 9) (pe_op op_add (pe_op op_mul (pv 18) pe_int) (pv 20)) (pe_lst pa_nil) ⟨rfl, rfl, rfl, rfl⟩)) (pss_one (ps_if (PW.pt (pw_and (pt_cmpR op_gt (pe_callB call_len (by rfl) T.free_len PySem.boot_len (pa_cons (pv 21) pa_nil)) pe_int (nomark _)) (pw_and1 (pt_cmpR op_isN (pv 19) pe_non (nomark _))))) (pss_one (ps_set (i := 19) sc_law.nd rfl (Or.inl rfl) (pe_ix ix_list (pv 21) pe_int (fun _ _ => rfl)))) pss_nil)))) (pss_cons (ps_set (i := 22) sc_law.nd rfl (Or.inl rfl) (pe_meth0 (pv 8) (T.cl_Machine) (T.mt_Machine_tick) (ok_Machine_tick T) (hr.mono (by decide)) (T.bd_Machine_tick) .nil pass0)) (pss_cons (ps_if (pt_cmpR op_ne (pv 22) (pe_ifExp (pt_cmpR op_isN (pv 19) pe_non (nomark _)) pe_non (pe_op op_add pe_int (pe_op op_mul pe_int (pv 19)))) (nomark _)) (pss_one (ps_ret pe_bl)) pss_nil) (pss_cut (ps_if (pt_cmpR op_notN (pv 19) pe_non (nomark _)) (pss_cons (ps_set (i := 20) sc_law.nd rfl (Or.inl rfl) (pe_ix ix_tup (pe_ix ix_tup (pv 6) (pv 19) (fun _ _ => rfl)) pe_int (fun _ _ => rfl))) (pss_cons (ps_set (i := 15) sc_law.nd rfl (Or.inl rfl) (pe_op op_add (pe_op op_mul (pv 18) pe_int) (pv 20))) (pss_cons (ps_for PassesOwn.never rfl (pi_list (pe_dget hu (pv 9) (pv 15) (fun _ _ => rfl))) (pg_name (i := 3) sc_law.nd rfl (by first | exact Or.inr rfl | exact Or.inl rfl)) (pss_cons (ps_dput hu (pv 16) (pv 3) (pe_ifExp (pt_cmpR op_eq (pv 3) (pv 19) (nomark _)) pe_int (pe_op op_add (pe_dget2 hu (pv 16) (pv 3) pe_int ⟨rfl, rfl, rfl, rfl⟩) pe_int)) rfl) (pss_one (ps_if (pt_cmpR op_gt (pe_dget hu (pv 16) (pv 3) (fun _ _ => rfl)) (pe_callB (cr_sum rfl) (by rfl) T.free_sum (by decide +kernel) (pa_cons (pe_lc (own := [("own", 23)]) (by rfl) sc_law.nd (pi_list (pe_dget hu (pv 9) (pv 15) (fun _ _ => rfl))) (blkOk_by (N := sc_law_N) (sc := defScope s_law) (own := [("own", 23)]) (by decide +kernel)) (fun _ _ _ _ _ => (pg_name (i := 23) sc_law.nd rfl (Or.inl rfl))) (fun _ _ _ _ _ => (pts_one (pt_cmpR op_ne (pv 23) (pv 3) (nomark _)))) (fun _ _ _ _ _ => (pe_ix (r := rIxT K) (by exact ix_tup) (pe_ix (r := rIxT K) (by exact ix_tup) (pv 6) (pv 23) (fun _ _ => rfl)) pe_int (fun _ _ => rfl)))) pa_nil)) (nomark _)) (pss_one (ps_ret pe_bl)) pss_nil)))) (pss_cons (ps_set (i := 24) sc_law.nd rfl (Or.inl rfl) (pe_or (pe_and (pe_cmpR op_eq (pe_ix ix_list (pv 5) (pv 19) (fun _ _ => rfl)) pe_int (nomark _)) (pe_one (pe_cmpR op_eq (pe_op op_mod (pe_callTy call_int1 (by rfl) T.free_int (by decide +kernel) (pa_cons (pe_ix ix_list (pv 13) (pv 19) (fun _ _ => rfl)) pa_nil)) pe_int) pe_int (nomark _)))) (pe_one (pe_and (pe_cmpR op_eq (pe_ix ix_list (pv 5) (pv 19) (fun _ _ => rfl)) pe_int (nomark _)) (pe_one (pe_or (pe_cmpR op_eq (pe_ix ix_list (pv 13) (pv 19) (fun _ _ => rfl)) pe_int (nomark _)) (pe_one (pe_and (pe_cmpR op_gt (pe_ix ix_list (pv 13) (pv 19) (fun _ _ => rfl)) pe_int (nomark _)) (pe_one (pe_cmpR op_eq (pe_op op_mod (pe_callTy call_int1 (by rfl) T.free_int (by decide +kernel) (pa_cons (pe_op op_sub (pe_ix ix_list (pv 13) (pv 19) (fun _ _ => rfl)) pe_int) pa_nil)) pe_int) pe_int (nomark _))))))))))) (pss_cons (ps_asg (pe_op op_add (pe_ix ix_list (pv 13) (pv 19) (fun _ _ => rfl)) pe_int) (pg_sub (pv 13) (pv 19) set_list)) (pss_cons (ps_asg (pe_ifExp (pt_val (pv 24)) pe_int (pe_op op_sub (pe_ix ix_list (pv 10) (pv 19) (fun _ _ => rfl)) pe_int)) (pg_sub (pv 10) (pv 19) set_list)) (pss_one (ps_if (pt_cmpR op_lt (pe_ix ix_list (pv 10) (pv 19) (fun _ _ => rfl)) pe_int (nomark _)) (pss_cons (ps_asg (pe_ix ix_tup (pe_ix ix_tup (pv 6) (pv 19) (fun _ _ => rfl)) pe_int (fun _ _ => rfl)) (pg_sub (pv 10) (pv 19) set_list)) (pss_one (ps_dput hu (pv 9) (pv 15) (pe_op op_cat (pe_slice sl_list (pe_dget hu (pv 9) (pv 15) (fun _ _ => rfl)) (po_some pe_int) po_none) (pe_lst (pa_cons (pv 19) pa_nil))) rfl))) pss_nil)))))))) pss_nil) (pss_cons (ps_set (i := 12) sc_law.nd rfl (Or.inl rfl) (pe_op op_add (pv 12) pe_int)) (pss_one (ps_if (pt_cmpR op_eq (pv 12) (pe_ix ix_tup (pe_ix ix_tup (pv 2) (pv 11) (fun _ _ => rfl)) pe_int (fun _ _ => rfl)) (nomark _)) (pss_one (ps_par (i := 11) (j := 12) (by rfl) sc_law.nd rfl rfl (by decide) rfl rfl (pa_cons (pe_op op_mod (pe_callTy call_int1 (by rfl) T.free_int (by decide +kernel) (pa_cons (pe_op op_add (pv 11) pe_int) pa_nil)) (pe_callB call_len (by rfl) T.free_len PySem.boot_len (pa_cons (pv 2) pa_nil))) (pa_cons pe_int pa_nil)) (by rfl))) pss_nil))))))))) (pss_one (ps_ret pe_bl)))))))))))), ?_⟩
  obtain ⟨a, ns, rfl, hS, hl, k⟩ := h
  -- the tape
  refine q_asgQ ⟨_, rfl, a, ns, rfl, hS, hl, fun d ca H1 hd hca hT e1 => ?_⟩
  clear hS hl e1
  -- the plan
  have one_take : ∀ (σ : L2.St) (m : Int) (ta : TA), (∀ H, EvA ta σ H [.ref d, .int m]) → 0 < m ∧ m < 1073741824 → Dr (tOp (rI0 fun i j => .int (i + j)) (tC (.int 1)) (tCall sp_law_take [] E0 ta)) σ d ca (fun v => 1 ≤ v ∧ v ≤ m) := fun σ m ta h1 h2 =>
    Dr.imp (dr_add dr_c (dr_take h1 h2)) fun v ⟨x, y, hx, hy, hv⟩ => by omega
  refine q_asgQ (q_cb1 ?_)
  refine dl_lcRD (P := fun _ => PrPlan) (Pn := fun n => 1 ≤ n ∧ n ≤ 4) (fun _ => PrPlan.mo) (Dr.imp (one_take _ 4 _ (fun H => ea_cons (ev_var rfl) (ea_cons ev_c ea_nil)) (by decide)) fun v hv => by omega) (fun x => rfl) (fun i H' Q f hT q => ?_) _ hT fun p H2 n xs hp hn hxl hx hT2 f2 h2 => ?_
  · refine dr_take (fun H => ea_cons (ev_var rfl) (ea_cons ev_c ea_nil)) (by decide) H' _ hT fun x H3 hx hT3 f3 => ?_
    refine one_take _ 9 _ (fun H => ea_cons (ev_var rfl) (ea_cons ev_c ea_nil)) (by decide) H3 _ hT3 fun y H4 hy hT4 f4 => ?_
    exact ⟨by show 2 ≤ sizeLine; decide, fun t ht => q _ _ ⟨t, x, y, rfl, upd_same, hx.1, hx.2, by omega, by omega⟩ (hT4.keep (Ex.new ht)) ((f3.trans f4).trans (FrD.of (Ex.new ht)))⟩
  refine ⟨p, xs, rfl, .inl ⟨sq_of h2, fun pa hpa => ?_⟩⟩
  obtain ⟨pl, hpl, hpl2⟩ : ∃ pl : List (Int × Int), pl.length = xs.length ∧ ∀ i, i < xs.length → ∃ t, xs[i]? = some (.ref t) ∧ H2 t = some (.tup [.int (pl.getD i (0, 0)).1, .int (pl.getD i (0, 0)).2]) ∧ 0 ≤ (pl.getD i (0, 0)).1 ∧ (pl.getD i (0, 0)).1 < 2 ∧ 1 ≤ (pl.getD i (0, 0)).2 ∧ (pl.getD i (0, 0)).2 ≤ 255 :=
    exists_list (R := fun i y => ∃ t, xs[i]? = some (.ref t) ∧ H2 t = some (.tup [.int y.1, .int y.2]) ∧ 0 ≤ y.1 ∧ y.1 < 2 ∧ 1 ≤ y.2 ∧ y.2 ≤ 255) (0, 0) xs.length fun i hi => by
      obtain ⟨t, x, y, e, h, r⟩ := hx i xs[i] (List.getElem?_eq_getElem hi)
      exact ⟨(x, y), t, by rw [List.getElem?_eq_getElem hi, e], h, r⟩
  have hPl : PlanAt (upd H2 pa (.tup xs)) pa pl := ⟨xs, upd_same, hpl.symm, fun i v hv => by
    obtain ⟨t, e, ht, _⟩ := hpl2 i (List.getElem?_eq_some_iff.mp hv).1
    rw [hv] at e
    exact ⟨t, Option.some.inj e, by rw [upd_ne (ne_of_none ht hpa)]; exact ht⟩⟩
  have gPl : GoodPlan pl := ⟨by omega, fun i hi => by
    obtain ⟨t, _, _, r⟩ := hpl2 i (by omega)
    exact r⟩
  have hT3 := hT2.keep (Ex.new (o := .tup xs) hpa)
  generalize upd H2 pa (.tup xs) = H3 at hPl hT3 ⊢
  clear hpl2 hpl hx hxl hn hp h2 f2 hT2 hT
  -- the codes
  refine q_asgQ ⟨_, codeOf 0, rfl, by decide +kernel, code0.2.2, code0.2.1, code0.1, fun c0 H4 hc0 e4 h4 => ⟨_, codeOf 1, rfl, by decide +kernel, code1.2.2, code1.2.1, code1.1, fun c1 H5 hc1 e5 h5 => ⟨_, codeOf 2, rfl, by decide +kernel, code2.2.2, code2.2.1, code2.1, fun c2 H6 hc2 e6 h6 => ⟨by show 3 ≤ sizeLine; decide, fun cd hcd => ?_⟩⟩⟩⟩
  have e36 := (e4.trans e5).trans e6
  have e7 : Ex H6 (upd H6 cd (.lst [.ref c0, .ref c1, .ref c2])) := Ex.new hcd
  have hPl7 := hPl.mono (TK.ex (e36.trans e7))
  have hT7 := hT3.keep (e36.trans e7)
  have k0 := e7 _ _ (e6 _ _ (e5 _ _ h4))
  have k1 := e7 _ _ (e6 _ _ h5)
  have k2 := e7 _ _ h6
  have kc : (upd H6 cd (.lst [.ref c0, .ref c1, .ref c2])) cd = some (.lst [.ref c0, .ref c1, .ref c2]) := upd_same
  generalize upd H6 cd (.lst [.ref c0, .ref c1, .ref c2]) = H7 at hPl7 hT7 k0 k1 k2 kc ⊢
  clear e7 hcd e36 hPl hT3 h4 h5 h6 e4 e5 e6 hc0 hc1 hc2
  -- the kinds
  refine q_asgQ ?_
  refine dl_lcRD (P := fun _ => PrInt 3) (Pn := fun n => 1 ≤ n ∧ n ≤ 4) (fun _ => PrInt.mo) (Dr.imp (one_take _ 4 _ (fun H => ea_cons (ev_var rfl) (ea_cons ev_c ea_nil)) (by decide)) fun v hv => by omega) (fun x => rfl) (fun i => dv_int (dr_take (fun H => ea_cons (ev_var rfl) (ea_cons ev_c ea_nil)) (by decide))) _ hT7 fun ka H8 n8 ys hka hn8 hyl hy hT8 f8 h8 => ?_
  obtain ⟨ks, hks, hks2⟩ : ∃ ks : List Int, ks.length = ys.length ∧ ∀ i, i < ys.length → ys[i]? = some (.int (ks.getD i 0)) ∧ 0 ≤ ks.getD i 0 ∧ ks.getD i 0 < 3 :=
    exists_list (R := fun i y => ys[i]? = some (.int y) ∧ 0 ≤ y ∧ y < 3) 0 ys.length fun i hi => by
      obtain ⟨x, e, r⟩ := hy i ys[i] (List.getElem?_eq_getElem hi)
      exact ⟨x, by rw [List.getElem?_eq_getElem hi, e], r⟩
  have eys : ys = ks.map V.int := by
    apply List.ext_getElem?
    intro i
    rw [List.getElem?_map]
    by_cases hi : i < ys.length
    · rw [(hks2 i hi).1, List.getD_eq_getElem?_getD, List.getElem?_eq_getElem (by omega)]
      rfl
    · rw [List.getElem?_eq_none (by omega), List.getElem?_eq_none (by omega)]
      rfl
  have nd : ∀ b o, H7 b = some o → (∀ kvs, o ≠ .dK kvs) → b ≠ d := fun b o hb ho => by
    obtain ⟨cs, at_, l, s, t, z, _⟩ := hT7.ex
    exact ne_of hb z (ho _)
  have kc8 := f8 _ _ kc (nd _ _ kc (by intro _ z; cases z))
  have tk8 := TK.frd f8 hT7
  have k08 := tk8 _ _ k0
  have k18 := tk8 _ _ k1
  have k28 := tk8 _ _ k2
  have hPl8 := hPl7.mono tk8
  have hn4 : 1 ≤ ks.length ∧ ks.length ≤ 4 := by omega
  have hk3 : ∀ i, i < ks.length → 0 ≤ ks.getD i 0 ∧ ks.getD i 0 < 3 := fun i hi => (hks2 i (by omega)).2
  have h8 : H8 ka = some (.lst (ks.map V.int)) := by rw [← eys]; exact h8
  have kcA : ∀ kind : Int, 0 ≤ kind ∧ kind < 3 → H8 (cAt c0 c1 c2 kind) = some (.tup ((codeOf kind).map V.int)) ∧ atI [V.ref c0, .ref c1, .ref c2] kind = some (.ref (cAt c0 c1 c2 kind)) := fun kind hk => by
    have : kind = 0 ∨ kind = 1 ∨ kind = 2 := by omega
    rcases this with rfl | rfl | rfl
    · exact ⟨k08, rfl⟩
    · exact ⟨k18, rfl⟩
    · exact ⟨k28, rfl⟩
  clear hks2 hks hy hyl eys hn8 hka f8 hT7 kc k0 k1 k2 tk8 hPl7 k08 k18 k28
  have nd8 : ∀ b o, H8 b = some o → (∀ kvs, o ≠ .dK kvs) → b ≠ d := fun b o hb ho => by
    obtain ⟨cs, at_, l, s, t, z, _⟩ := hT8.ex
    exact ne_of hb z (ho _)
  -- the parts
  refine q_asgQ (q_cb1 ?_)
  refine dl_lcLD (P := fun i => PrPart c0 c1 c2 (ks.getD i 0)) (fun _ => PrPart.mo) (ev_var rfl) h8 (by rw [List.length_map]; omega) (fun x => rfl) (fun i y hy H' Q f hT' q => ?_) _ hT8 fun pp H9 zs hpp hzl hz hT9 f9 h9 => ?_
  · obtain ⟨rfl, hi⟩ := getI hy
    obtain ⟨kA, kB⟩ := kcA (ks.getD i 0) (hk3 i hi)
    have kc' := f _ _ kc8 (nd8 _ _ kc8 (by intro _ z; cases z))
    have kA' := TK.frd f hT8 _ _ kA
    have nd' : ∀ b o, H' b = some o → (∀ kvs, o ≠ .dK kvs) → b ≠ d := fun b o hb ho => by
      obtain ⟨cs, at_, l, s, t, z, _⟩ := hT'.ex
      exact ne_of hb z (ho _)
    refine dr_take (fun H => ea_cons (ev_var rfl) (ea_cons ev_c ea_nil)) (by decide) H' _ hT' fun x H3 hx hT3 f3 => ?_
    refine dr_take (fun H => ea_cons (ev_var rfl) (ea_cons ev_c ea_nil)) (by decide) H3 _ hT3 fun y H4 hy hT4 f4 => ?_
    refine one_take _ 6 _ (fun H => ea_cons (ev_var rfl) (ea_cons ev_c ea_nil)) (by decide) H4 _ hT4 fun z H5 hz hT5 f5 => ?_
    have f35 := (f3.trans f4).trans f5
    have kc5 := f35 _ _ kc' (nd' _ _ kc' (by intro _ z; cases z))
    have kA5 := TK.frd f35 hT' _ _ kA'
    refine (ev_op (ev_var rfl) (ev_var rfl) (rv_ixL (sq_of kc5) kB) : Ev _ _ H5 _) H5 (Ex.refl H5) _ fun H6 e6 => ⟨by show 5 ≤ sizeLine; decide, fun t ht => ?_⟩
    exact q _ _ ⟨t, x, y, z, rfl, upd_same, Ex.new ht _ _ (e6 _ _ kA5), hx.1, hx.2, hy.1, hy.2, hz.1, by omega⟩ ((hT5.keep e6).keep (Ex.new ht)) ((f35.trans (FrD.of e6)).trans (FrD.of (Ex.new ht)))
  refine ⟨pp, zs, rfl, .inl ⟨sq_of h9, fun qa hqa => ?_⟩⟩
  rw [List.length_map] at hzl
  obtain ⟨ps, hps, hps2⟩ : ∃ ps : List Part6, ps.length = zs.length ∧ ∀ i, i < zs.length → ∃ t c, zs[i]? = some (.ref t) ∧ H9 t = some (.tup [.int (ps.getD i ⟨0, 0, 0, []⟩).d, .int (ps.getD i ⟨0, 0, 0, []⟩).pr, .int (ps.getD i ⟨0, 0, 0, []⟩).bu, .ref c, .int 0]) ∧ H9 c = some (.tup ((ps.getD i ⟨0, 0, 0, []⟩).ws.map V.int)) ∧ GoodPart (ps.getD i ⟨0, 0, 0, []⟩) ∧ (ps.getD i ⟨0, 0, 0, []⟩).ws = codeOf (ks.getD i 0) :=
    exists_list (R := fun i p => ∃ t c, zs[i]? = some (.ref t) ∧ H9 t = some (.tup [.int p.d, .int p.pr, .int p.bu, .ref c, .int 0]) ∧ H9 c = some (.tup (p.ws.map V.int)) ∧ GoodPart p ∧ p.ws = codeOf (ks.getD i 0)) ⟨0, 0, 0, []⟩ zs.length fun i hi => by
      obtain ⟨t, x, y, z, e, g1, g2, r1, r2, r3, r4, r5, r6⟩ := hz i zs[i] (List.getElem?_eq_getElem hi)
      refine ⟨⟨x, y, z, codeOf (ks.getD i 0)⟩, t, _, by rw [List.getElem?_eq_getElem hi, e], g1, g2, ⟨r1, r2, r3, r4, r5, r6, ?_⟩, rfl⟩
      show (codeOf (ks.getD i 0)).length ≤ 64
      unfold codeOf
      split
      · decide
      · split <;> decide
  have hPs : PartsAt (upd H9 qa (.tup zs)) qa ps := ⟨zs, upd_same, hps.symm, fun i v hv => by
    obtain ⟨t, c, e, ht, hc, _⟩ := hps2 i (List.getElem?_eq_some_iff.mp hv).1
    rw [hv] at e
    exact ⟨t, c, Option.some.inj e, by rw [upd_ne (ne_of_none ht hqa)]; exact ht, by rw [upd_ne (ne_of_none hc hqa)]; exact hc⟩⟩
  obtain ⟨c, hc⟩ : ∃ c : Cfg, c = ⟨pl, ps, ks⟩ := ⟨_, rfl⟩
  have gc : GoodCfg c := by
    subst hc
    refine ⟨gPl, by show 1 ≤ ps.length; omega, by show ps.length ≤ 4; omega, by show ks.length = ps.length; omega, fun i hi => ?_⟩
    have hi : i < ps.length := hi
    obtain ⟨t, cc, _, _, _, g, w⟩ := hps2 i (by omega)
    exact ⟨g, (hk3 i (by omega)).1, (hk3 i (by omega)).2, w⟩
  have hT10 := hT9.keep (Ex.new (o := .tup zs) hqa)
  have hPl10 := (hPl8.mono (TK.frd f9 hT8)).mono (TK.ex (Ex.new (o := .tup zs) hqa))
  have h10 := Ex.new (o := .tup zs) hqa _ _ (f9 _ _ h8 (nd8 _ _ h8 (by intro _ z; cases z)))
  generalize upd H9 qa (.tup zs) = H10 at hPs hT10 hPl10 h10 ⊢
  clear hps2 hps hz hzl hpp hqa h9 hT9 f9 hT8 nd8 kcA kc8 hPl8 h8 hk3 hn4
  have hPl11 : PlanAt H10 pa c.pl := by rw [hc]; exact hPl10
  have hPs11 : PartsAt H10 qa c.ps := by rw [hc]; exact hPs
  have h11 : H10 ka = some (.lst (c.ks.map V.int)) := by rw [hc]; exact h10
  clear hPl10 hPs h10 gPl hc
  -- the machine
  refine q_cut (M := fun σ' H' => ∃ mc m wl cl dd dx, σ' = [some (.ref a), some (.ref d), some (.ref pa), none, some (.ref cd), some (.ref ka), some (.ref qa), none, some (.ref mc), none, none, none, none, none, none, none, none, none, none, none, none, none, none, none, none] ∧ BothAt K H' mc m wl cl ent6 (mboot c.pl c.ps) ∧ H' m = some (.ins (CM K) dx [("_words", .ref wl), ("_disks", .ref dd)]) ∧ H' dd = some (.dK []) ∧ TapeAt H' d ca ∧ PlanAt H' pa c.pl ∧ PartsAt H' qa c.ps ∧ H' ka = some (.lst (c.ks.map V.int)) ∧ ka ≠ wl ∧ ka ≠ cl) ?_ ?_
  · refine ⟨_, rfl, _, rfl, Nat.zero_le _, fun la hla => ⟨Nat.zero_le _, fun ra hra => ?_⟩⟩
    have e1 : Ex H10 (upd H10 la (.tup [])) := Ex.new hla
    have e2 : Ex (upd H10 la (.tup [])) (upd (upd H10 la (.tup [])) ra (.tup [])) := Ex.new hra
    have e12 := e1.trans e2
    refine ⟨pa, qa, la, ra, c.pl, c.ps, rfl, hPl11.mono (TK.ex e12), hPs11.mono (TK.ex e12), e2 _ _ upd_same, upd_same, gc.pl, gc.n1, gc.n4, fun i hi => ⟨(gc.part i hi).1, boot_read gc i hi⟩, fun m wl H' hm hwl e3 hM => ?_⟩
    have e13 := e12.trans e3
    refine fun mc dxm g1 g2 g3 => ⟨mc, m, dxm, rfl, upd_same, fun kl cl H12 hkl hcl hkc y1 y2 y3 f => ⟨rfl, ?_⟩⟩
    have e4 : Ex H' (upd (upd H' dxm (.own mc)) mc (.ins (CMa K) dxm [])) := fun b o hb => by rw [upd_ne (ne_of_none hb g1), upd_ne (ne_of_none hb g2)]; exact hb
    have e5 : Ex H' H12 := fun b o hb => f b o (e4 b o hb) (by simpa using ne_of_none hb g1)
    have e15 := e13.trans e5
    obtain ⟨dx, dd, z1, z2⟩ := hM.ins
    have nw1 : wl ≠ kl := ne_of_none (e4 _ _ hM.ws) hkl
    have nw2 : wl ≠ cl := ne_of_none (e4 _ _ hM.ws) hcl
    have nk1 : ka ≠ wl := ne_of_none (e12 _ _ h11) hwl
    have nk2 : ka ≠ cl := ne_of_none (e4 _ _ (e13 _ _ h11)) hcl
    exact ⟨mc, m, wl, cl, dd, dx, rfl, ⟨⟨dxm, kl, 0, 0, [], y1, y2, y3, hkc, Ne.symm nw1, Nat.zero_le _, fun v hv => by cases hv⟩, hM.keep e5, nw2, Ne.symm (ne_of_none z1 g1)⟩, e5 _ _ z1, e5 _ _ z2, hT10.keep e15, hPl11.mono (TK.ex e15), hPs11.mono (TK.ex e15), e15 _ _ h11, nk1, nk2⟩
  rintro σ' H11 ⟨mc, m, wl, cl, dd, dx, rfl, hB, hm, hdd, hT, hPl, hPs, hks, nk1, nk2⟩
  clear hPl11 hPs11 h11 hT10
  -- queues, left, at, spent, steps
  have n1 := gc.n1
  have n4 := gc.n4
  obtain ⟨vq, hq1, hq2⟩ := PartsAt.len hPs
  refine fun qd hqd => ?_
  have e12 : Ex H11 (upd H11 qd (.dK [])) := Ex.new hqd
  have hqd12 : (upd H11 qd (.dK [])) qd = some (.dK []) := upd_same
  generalize upd H11 qd (.dK []) = H12 at e12 hqd12 ⊢
  refine (el_is (el_lcT (K := K) (a := qa) (xs := vq) (fun i => .int (c.bu i)) (ev_var rfl) (st_of (e12 _ _ hq1)) (by omega) (fun i x G1 g1 hx G2 g2 R hR => by
      obtain ⟨vq', z1, z2, z3⟩ := hPs
      rw [hq1] at z1
      cases z1
      obtain ⟨t, cp, rfl, ht, _⟩ := z3 i x hx
      exact hR _ rfl (ev_op (ev_var rfl) ev_c (rv_ixT (st_of (g1 _ _ (e12 _ _ ht))) (atI_nat (j := 2) rfl))))) (given_true.trans (by rw [hq2]; rfl)) : EvL _ _ H12 (intsL c.ps.length c.bu)) H12 (Ex.refl H12) _ fun la H13 hla e13 h13 => q_consC (q_consC (q_cons1 ?_))
  refine (el_is (el_lcT (K := K) (a := qa) (xs := vq) (fun i => .int 0) (ev_var rfl) (st_of (e13 _ _ (e12 _ _ hq1))) (by omega) (fun i x G1 g1 hx G2 g2 R hR => by exact hR _ rfl ev_c)) (given_true.trans (by rw [hq2]; rfl)) : EvL _ _ H13 (intsL c.ps.length fun _ => 0)) H13 (Ex.refl H13) _ fun sa H14 hsa e14 h14 => ⟨by show 5 ≤ sizeLine; decide, fun tp htp => ?_⟩
  have e15 : Ex H14 (upd H14 tp (.tup [.ref qd, .ref la, .int 0, .int 0, .ref sa])) := Ex.new htp
  refine ⟨tp, _, rfl, st_of upd_same, rfl, _, _, rfl, _, _, rfl, _, _, rfl, _, _, rfl, _, _, rfl, rfl, ?_⟩
  generalize upd H14 tp (.tup [.ref qd, .ref la, .int 0, .int 0, .ref sa]) = H15 at e15 ⊢
  have e11 : Ex H11 H15 := ((e12.trans e13).trans e14).trans e15
  have hla15 : H15 la = some (.lst (intsL c.ps.length c.bu)) := (e14.trans e15) _ _ h13
  have hsa15 : H15 sa = some (.lst (intsL c.ps.length fun _ => 0)) := e15 _ _ h14
  have hqd15 : H15 qd = some (.dK []) := ((e13.trans e14).trans e15) _ _ hqd12
  have hlaN : H11 la = none := fresh_back e12 hla
  have hsaN : H11 sa = none := fresh_back (e12.trans e13) hsa
  have nls : la ≠ sa := ne_of_none h13 hsa
  have hB15 := hB.keep e11
  obtain ⟨dx', kl, c0', c1', kept, b1, b2, b3, b4, b4w, b5, b6⟩ := hB.ma.ex
  have hwl := hB.me.ws
  have nlw : la ≠ wl := (ne_of_none hwl hlaN).symm
  have nlc : la ≠ cl := (ne_of_none b3 hlaN).symm
  have nsw : sa ≠ wl := (ne_of_none hwl hsaN).symm
  have nsc : sa ≠ cl := (ne_of_none b3 hsaN).symm
  have nkl : ka ≠ la := ne_of_none hks hlaN
  have nks : ka ≠ sa := ne_of_none hks hsaN
  have nqd : qd ≠ dd := (ne_of_none hdd hqd).symm
  obtain ⟨cs, ta_, tl_, ts_, tt_, htd, htca, htr⟩ := hT.ex
  have nqt : qd ≠ d := (ne_of_none htd hqd).symm
  have nqc : qd ≠ ca := (ne_of_none htca hqd).symm
  have ndt : dd ≠ d := fun z => by
    rw [z, htd] at hdd
    cases hdd
  obtain ⟨A0, hA0⟩ : ∃ A0 : Ad, A0 = { pa := pa, qa := qa, ka := ka, mc := mc, m := m, wl := wl, cl := cl, qd := qd, la := la, sa := sa, wd := qd, dd := dd, dx := dx } := ⟨_, rfl⟩
  clear e12 hqd12 h13 h14 e13 e14 e15 hla hsa htp hsaN hlaN b1 b2 b3 b4 b4w b5 b6 hwl
  -- who stands in which queue
  refine q_forR1 (n := (c.ps.length : Int)) (ea_cons (ev_is (KA.ev_lenT (ev_var rfl) (st_of (e11 _ _ hq1))) (by rw [hq2])) ea_nil) (by omega) (fun i σ' H' => ∃ x3 x15 kvs, σ' = [some (.ref a), some (.ref d), some (.ref pa), x3, some (.ref cd), some (.ref ka), some (.ref qa), none, some (.ref mc), some (.ref qd), some (.ref la), some (.int 0), some (.int 0), some (.ref sa), none, x15, none, none, none, none, none, none, none, none, none] ∧ FrD qd H15 H' ∧ H' qd = some (.dK kvs) ∧ kvs.length ≤ i ∧ QAt H' A0 kvs (qinit c i) ∧ ∀ n, (qinit c i n).length ≤ i)
    (fun H1 e1 => ⟨none, none, [], rfl, FrD.of e1, e1 _ _ hqd15, Nat.le_refl _, fun n _ _ => .inl ⟨rfl, rfl⟩, fun n => Nat.le_refl _⟩) ?_ ?_
  · rintro i σ' H' hi ⟨x3, x15, kvs, rfl, f', hq', hkl, hQ', hsz⟩
    have hi : i < c.ps.length := by omega
    obtain ⟨k0, k1⟩ := gc.keyb hi
    have tk' : TK H15 H' := fun b xs hb => f' b _ hb (ne_of hb hqd15 (by intro z; cases z))
    have hPs' := (hPs.mono (TK.ex e11)).mono tk'
    refine q_asg (v := .int (c.key i)) (ev_op (ev_op (ev_part (k := i) (j := 0) (v := .int (c.P i).d) hPs' (ev_var rfl) (ev_var rfl) hi ev_c (fun _ => rfl)) ev_c (rv_I (.inr ⟨by decide, by decide⟩))) (ev_part (k := i) (j := 1) (v := .int (c.P i).pr) hPs' (ev_var rfl) (ev_var rfl) hi ev_c (fun _ => rfl)) rv_I0) fun H1 e1 => ?_
    have hqe : A0.qd = qd := by rw [hA0]
    refine s_dputL (el_qcat (A := A0) (kvs := kvs) (Q := qinit c i) (n := c.key i) (x := i) (by rw [hqe]; exact ev_var rfl) (by rw [hqe]; exact e1 _ _ hq') (hQ'.mono fun l xs h _ _ _ _ => e1 _ _ h) (ev_var rfl) k0 k1 (ev_var rfl) (by have := hsz (c.key i); omega)) (ev_var rfl) (ev_var rfl) (e1 _ _ hq') (by omega) fun p H2 hp e2 h2 => ?_
    have hp15 : H15 p = none := by
      cases z : H15 p with
      | none => rfl
      | some o =>
        have np : p ≠ qd := (ne_of_none (e1 _ _ hq') hp).symm
        rw [e1 _ _ (f' _ _ z np)] at hp
        cases hp
    have npq : p ≠ qd := (ne_of_none (e1 _ _ hq') hp).symm
    refine ⟨_, _, _, rfl, (f'.trans (FrD.of (e1.trans e2))).trans FrD.put, upd_same, by have := length_putK kvs (Sum.inl (c.key i) : Key) (.ref p); omega, fun n n0 nb => ?_, fun n => ?_⟩
    · rw [valV_put]
      have hQ2 := hQ'.mono (H' := upd H2 qd (.dK (putK kvs (Sum.inl (c.key i) : Key) (.ref p)))) (fun l xs h _ _ _ _ => by rw [upd_ne (ne_of h hq' (by intro z; cases z))]; exact e2 _ _ (e1 _ _ h))
      by_cases e : n = c.key i
      · right
        subst e
        rw [if_pos rfl]
        refine ⟨p, rfl, ?_, ?_, ?_, ?_, ?_⟩
        · rw [upd_ne npq]
          show H2 p = some (.lst (qV (if c.key i = c.key i then qinit c i (c.key i) ++ [i] else qinit c i (c.key i))))
          rw [if_pos rfl]
          exact h2
        · rw [hA0]; exact (ne_of_none hB15.me.ws hp15).symm
        · obtain ⟨_, _, _, _, _, _, _, z3, _⟩ := hB15.ma.ex
          rw [hA0]; exact (ne_of_none z3 hp15).symm
        · rw [hA0]; exact (ne_of_none hla15 hp15).symm
        · rw [hA0]; exact (ne_of_none hsa15 hp15).symm
      · rw [if_neg (fun z => e (Sum.inl.inj z))]
        have : qinit c (i + 1) n = qinit c i n := if_neg e
        rw [this]
        exact hQ2 n n0 nb
    · show (if n = c.key i then qinit c i (c.key i) ++ [i] else qinit c i n).length ≤ i + 1
      have h1 := hsz n
      have h2 := hsz (c.key i)
      split
      · rw [List.length_append]
        show _ + 1 ≤ _
        omega
      · omega
  rintro σ' H16 ⟨x3, x15, kvs, rfl, f16, hq16, hkl, hQ16, hsz⟩
  rw [Int.toNat_natCast] at hkl hQ16 hsz
  refine q_asgQ fun wd hwd => ?_
  have e17 : Ex H16 (upd H16 wd (.dK [])) := Ex.new hwd
  have hwd17 : (upd H16 wd (.dK [])) wd = some (.dK []) := upd_same
  generalize upd H16 wd (.dK []) = H17 at e17 hwd17 ⊢
  have go : ∀ b o, H15 b = some o → b ≠ qd → H17 b = some o := fun b o hb n => e17 _ _ (f16 b o hb n)
  have tk17 : TK H15 H17 := fun b xs hb => go b _ hb (ne_of hb hqd15 (by intro z; cases z))
  obtain ⟨A, hA⟩ : ∃ A : Ad, A = { pa := pa, qa := qa, ka := ka, mc := mc, m := m, wl := wl, cl := cl, qd := qd, la := la, sa := sa, wd := wd, dd := dd, dx := dx } := ⟨_, rfl⟩
  have nwd : ∀ b o, H15 b = some o → b ≠ wd := fun b o hb z => by
    by_cases e : b = qd
    · rw [← z, e, hq16] at hwd
      cases hwd
    · rw [← z, f16 _ _ hb e] at hwd
      cases hwd
  have hm15 := e11 _ _ hm
  have hd15 := e11 _ _ hdd
  have td15 := e11 _ _ htd
  have hL17 : LawAt K A H17 c (mboot c.pl c.ps) c.s0.Q c.s0.left (fun k => (c.s0.st k : Int)) (fun _ => 0) 4 0 := by
    rw [hA]
    refine ⟨(hPl.mono (TK.ex e11)).mono tk17, (hPs.mono (TK.ex e11)).mono tk17, go _ _ (e11 _ _ hks) (ne_of hks hdd (by intro z; cases z) |> fun _ => ne_of (e11 _ _ hks) hqd15 (by intro z; cases z)), both_frd hB15 hm15 hqd15 (Ne.symm nqd) (fun b o hb n => go b o hb n), go _ _ hm15 (ne_of hm15 hqd15 (by intro z; cases z)), go _ _ hd15 (Ne.symm nqd), ⟨kvs, e17 _ _ hq16, by omega, ?_⟩, ⟨[], hwd17, Nat.le_refl _, fun i => .inl ⟨rfl, rfl⟩⟩, go _ _ hla15 (ne_of hla15 hqd15 (by intro z; cases z)), go _ _ hsa15 (ne_of hsa15 hqd15 (by intro z; cases z)), ⟨nls, nlw, nlc, nsw, nsc, nk1, nk2, nkl, nks, nwd _ _ hqd15, nqd, (nwd _ _ hd15).symm⟩⟩
    intro n n0 nb
    rw [hA0] at hQ16
    rcases hQ16 n n0 nb with z | ⟨l, z1, z2, z3⟩
    · exact .inl z
    · exact .inr ⟨l, z1, e17 _ _ z2, z3⟩
  have hT17 : TapeAt H17 d ca := ⟨⟨cs, ta_, tl_, ts_, tt_, go _ _ td15 (Ne.symm nqt), go _ _ (e11 _ _ htca) (Ne.symm nqc), htr⟩⟩
  have htd17 := go _ _ td15 (Ne.symm nqt)
  have nwt : wd ≠ d := (nwd _ _ td15).symm
  have hsz0 : ∀ n, (c.s0.Q n).length ≤ 4 := fun n => Nat.le_trans (hsz n) n4
  have hI0 := boot_inv gc
  have hW0 := boot_wait gc
  have a1 : A.pa = pa := by rw [hA]
  have a2 : A.qa = qa := by rw [hA]
  have a3 : A.ka = ka := by rw [hA]
  have a4 : A.mc = mc := by rw [hA]
  have a5 : A.qd = qd := by rw [hA]
  have a6 : A.la = la := by rw [hA]
  have a7 : A.sa = sa := by rw [hA]
  have a8 : A.wd = wd := by rw [hA]
  have a9 : A.dd = dd := by rw [hA]
  clear hA0 hQ16 hsz hq16 f16 hkl hwd e17 hwd17 go tk17 nwd hm15 hd15 td15 hB15 hla15 hsa15 hqd15 e11 htd htca htr hT hks hPs hPl hm hdd hB hq1 hq2 nls nlw nlc nsw nsc nkl nks nk1 nk2 nqd nqc hqd
  clear hA
  subst a1 a2 a3 a4 a5 a6 a7 a8 a9
  -- the turns
  refine q_forRD (m := 200) (Pn := fun v => 0 ≤ v ∧ v < 200) (dr_take (fun H => ea_cons (ev_var rfl) (ea_cons ev_c ea_nil)) (by decide)) (fun n h => h) (by decide) hT17 (fun i σ' H' => ∃ (s : LS) (W : Nat → Int) (μ : Mem), ∃ x3 x15 x17 x18 x19 x20 x21 x22 x24, σ' = [some (.ref a), some (.ref d), some (.ref A.pa), x3, some (.ref cd), some (.ref A.ka), some (.ref A.qa), none, some (.ref A.mc), some (.ref A.qd), some (.ref A.la), some (.int (s.at_ : Int)), some (.int s.sp), some (.ref A.sa), none, x15, some (.ref A.wd), x17, x18, x19, x20, x21, x22, none, x24] ∧ LawAt K A H' c μ s.Q s.left (fun k => (s.st k : Int)) W (4 + i) (4 * i) ∧ LInv c μ s ∧ WInv c s W ∧ ∀ n, (s.Q n).length ≤ 4)
    (fun H1 hT1 f1 => ⟨c.s0, fun _ => 0, _, _, _, none, none, none, none, none, none, none, rfl, hL17.frd htd17 nqt nwt ndt f1, hI0, hW0, hsz0⟩) ?_ (fun i σ' H' _ => s_ret ev_c fun H2 _ => k H2)
  clear hL17 hT17 htd17 hI0 hW0 hsz0
  rintro i σ' H18 hi ⟨s, W, μ, x3, x15, x17, x18, x19, x20, x21, x22, x24, rfl, hL, hI, hW, hsz⟩
  have dub := LInv.dub gc hI.at1
  refine KA.q_parVV (v := .int (c.dm s.at_)) (w := .non) (ev_plan (k := s.at_) (j := 0) hL.plan (ev_var rfl) (ev_var rfl) hI.at1 ev_c rfl) ev_c fun H19 e19 => ?_
  have hL := hL.ex e19
  obtain ⟨kvs, q1, q2, q3⟩ := hL.qs
  -- who is next
  refine q_forNU (K := K) (xs := [.int 3, .int 2, .int 1, .int 0]) (eu_tup (ea_cons ev_c (ea_cons ev_c (ea_cons ev_c (ea_cons ev_c ea_nil)))) (by show 4 ≤ 100000; decide))
    (fun p j σ' H' => ∃ (due : Option Nat), ∃ x20 x21, σ' = [some (.ref a), some (.ref d), some (.ref A.pa), x3, some (.ref cd), some (.ref A.ka), some (.ref A.qa), none, some (.ref A.mc), some (.ref A.qd), some (.ref A.la), some (.int (s.at_ : Int)), some (.int s.sp), some (.ref A.sa), none, x15, some (.ref A.wd), some (.int (i : Int)), some (.int (c.dm s.at_)), some (oN due), x20, x21, x22, none, x24] ∧ Ex H19 H' ∧ H' p = some (.tup [.int 3, .int 2, .int 1, .int 0]) ∧ j ≤ 4 ∧ ((due = none ∧ c.due s = qfrom s.Q (c.dm s.at_) (4 - j)) ∨ ∃ x, due = some x ∧ c.due s = some x))
    (fun p H1 hp e h => ⟨none, x20, x21, rfl, e, h, by decide, .inl ⟨rfl, rfl⟩⟩) (fun p j σ' H' _ ⟨_, _, _, _, _, h, _⟩ => st_of h) ?_ ?_
  · rintro p j y σ' H' hy ⟨due, y20, y21, rfl, eH, hp, hj4, hdue⟩
    obtain ⟨hj, rfl⟩ := ranks_at hy
    have hqf : qfrom s.Q (c.dm s.at_) (4 - j) = match s.Q (c.dm s.at_ * 4 + ((3 - j : Nat) : Int)) with | [] => qfrom s.Q (c.dm s.at_) (3 - j) | x :: _ => some x := by
      rw [show 4 - j = (3 - j) + 1 by omega]
      rfl
    refine q_qget (A := A) (n := c.dm s.at_ * 4 + ((3 - j : Nat) : Int)) (ev_var rfl) (eH _ _ q1) (q3.mono fun l xs h _ _ _ _ => eH _ _ h) (ev_op (ev_op (ev_var rfl) ev_c (rv_I (.inr ⟨by decide, by decide⟩))) (ev_var rfl) rv_I0) (by omega) (by omega) fun r H1 e1 h1 => ?_
    have hp1 := e1 _ _ hp
    cases hqn : s.Q (c.dm s.at_ * 4 + ((3 - j : Nat) : Int)) with
    | nil =>
      rw [hqn] at h1 hqf
      refine s_when (b := false) (et_is (et_and (a := false) (b := true) (et_is (et_test (ev_op (KD.ev_lenL (ev_var rfl) (sq_of h1)) ev_c rv_I0)) rfl) fun h => by cases h) rfl) (fun h => by cases h) fun _ H2 e2 => ?_
      refine ⟨due, _, _, rfl, (eH.trans e1).trans e2, e2 _ _ hp1, by omega, ?_⟩
      rcases hdue with ⟨z1, z2⟩ | z
      · left
        refine ⟨z1, ?_⟩
        rw [z2, hqf, show 4 - (j + 1) = 3 - j by omega]
      · exact .inr z
    | cons x q =>
      rw [hqn] at h1 hqf
      rcases hdue with ⟨rfl, z2⟩ | ⟨x', rfl, z2⟩
      · refine s_when (b := true) (et_is (et_and (a := true) (b := true) (et_is (et_test (ev_op (KD.ev_lenL (ev_var rfl) (sq_of h1)) ev_c rv_I0)) (decide_eq_true (by show (0 : Int) < ((qV (x :: q)).length : Int); unfold qV; rw [List.length_map, List.length_cons]; omega))) fun _ => et_is (et_test (ev_op (ev_var rfl) ev_c KA.rv_isN)) rfl) rfl) (fun _ H2 e2 => ?_) (fun h => by cases h)
        refine s_asg (v := .int (x : Int)) (ev_op (ev_var rfl) ev_c (rv_ixL (sq_of (e2 _ _ h1)) (atI_nat (j := 0) rfl))) fun H3 e3 => ⟨some x, _, _, rfl, ((eH.trans e1).trans e2).trans e3, e3 _ _ (e2 _ _ hp1), by omega, .inr ⟨x, rfl, ?_⟩⟩
        rw [z2, hqf]
      · refine s_when (b := false) (et_is (et_and (b := false) (et_test (ev_op (KD.ev_lenL (ev_var rfl) (sq_of h1)) ev_c rv_I0)) fun _ => et_is (et_test (ev_op (ev_var rfl) ev_c KA.rv_isN)) rfl) (by simp)) (fun h => by cases h) fun _ H2 e2 => ?_
        exact ⟨some x', _, _, rfl, (eH.trans e1).trans e2, e2 _ _ hp1, by omega, .inr ⟨x', rfl, z2⟩⟩
  rintro p σ' H20 ⟨due, y20, y21, rfl, e20, _, _, hdue⟩
  have hdue : due = c.due s := by
    rcases hdue with ⟨z1, z2⟩ | ⟨x, z1, z2⟩
    · rw [z1, z2]; rfl
    · rw [z1, z2]
  subst hdue
  have hL := hL.ex e20
  clear q1 q2 q3 e19 e20
  -- the tick
  obtain ⟨t1, t2, t3, t4, tf, μ2, u1, u2, u3, u4, u5, u6⟩ := tick_facts gc hI
  obtain ⟨dxm, kl, c0', c1', kept, m1, _⟩ := id hL.both.ma.ex
  refine ⟨_, rfl, A.mc, dxm, _, rfl, m1, rfl, A.mc, A.m, A.wl, A.cl, ent6, μ, μ2, rfl, hL.both, t1, t2, t3, t4, u1, u2, u3, u4, u5, fun H21 hB21 f21 => ?_⟩
  rw [tf]
  have hL := hL.tick hB21 f21
  clear t1 t2 t3 t4 tf u1 u2 u3 u4 u5 m1 hB21 f21
  refine q_when (b := false) (et_is (et_test (ev_op (ev_var rfl) (ev_want (due := c.due s) rfl) (rv_ne (scal_oI _)))) (by rw [decide_eq_true rfl]; rfl)) (fun h => by cases h) fun _ H22 e22 => ?_
  have hL := hL.ex e22
  clear e22
  refine q_cut (M := fun σ' H' => ∃ (s2 : LS) (W' : Nat → Int), ∃ x3 x15 x20 x24, σ' = [some (.ref a), some (.ref d), some (.ref A.pa), x3, some (.ref cd), some (.ref A.ka), some (.ref A.qa), none, some (.ref A.mc), some (.ref A.qd), some (.ref A.la), some (.int (s.at_ : Int)), some (.int s.sp), some (.ref A.sa), none, x15, some (.ref A.wd), some (.int (i : Int)), some (.int (c.dm s.at_)), some (oN (c.due s)), x20, y21, some (oI ((c.due s).map th)), none, x24] ∧ LawAt K A H' c (mpart μ2).1 s2.Q s2.left (fun k => (s2.st k : Int)) W' (4 + (i + 1)) (4 * (i + 1)) ∧ WInv c s2 W' ∧ (∀ n, (s2.Q n).length ≤ 4) ∧ s2.at_ = s.at_ ∧ s2.sp = s.sp ∧ c.next s = c.time s2) ?_ ?_
  · cases hdue : c.due s with
    | none =>
      refine s_when (b := false) (et_is (et_test (ev_op (ev_var rfl) ev_c KA.rv_notN)) rfl) (fun h => by cases h) fun _ H23 e23 => ?_
      exact ⟨s, W, _, _, _, _, rfl, (hL.ex e23).le (by omega) (by omega), hW, hsz, rfl, rfl, by unfold Cfg.next; rw [hdue]⟩
    | some k0 =>
      obtain ⟨hk, hkey, ⟨q, hQk⟩, _⟩ := turn_facts gc (hI.time gc) hdue
      obtain ⟨k0b, k1b⟩ := gc.keyb hk
      refine s_when (b := true) (et_is (et_test (ev_op (ev_var rfl) ev_c KA.rv_notN)) rfl) (fun _ H23 e23 => ?_) (fun h => by cases h)
      have hL := hL.ex e23
      -- rank, key
      refine q_asg (v := .int (c.P k0).pr) (ev_part (k := k0) (j := 1) hL.parts (ev_var rfl) (ev_var rfl) hk ev_c (fun _ => rfl)) fun H24 e24 => ?_
      refine q_asg (v := .int (c.key k0)) (ev_is (ev_op (ev_op (ev_var rfl) ev_c (rv_I (.inr ⟨by decide, by decide⟩))) (ev_var rfl) rv_I0) (by rw [hkey])) fun H25 e25 => ?_
      have hL := (hL.ex e24).ex e25
      clear e23 e24 e25
      -- the waits
      obtain ⟨kvs, q1, q2, q3⟩ := id hL.qs
      obtain ⟨l, l1, l2, l3, l4, l5, l6⟩ : ∃ l, valV kvs (Sum.inl (c.key k0) : Key) = some (.ref l) ∧ H25 l = some (.lst (qV (s.Q (c.key k0)))) ∧ l ≠ A.wl ∧ l ≠ A.cl ∧ l ≠ A.la ∧ l ≠ A.sa := by
        rcases q3 (c.key k0) k0b k1b with ⟨_, z⟩ | z
        · rw [hQk] at z
          cases z
        · exact z
      obtain ⟨wok, wnx⟩ := waits_ok gc (hI.time gc) hW hk hQk
      have ndq := hI.qw.nd _ k0b k1b
      have hsk := hsz (c.key k0)
      obtain ⟨Qk, hQk'⟩ : ∃ Qk, Qk = s.Q (c.key k0) := ⟨_, rfl⟩
      rw [← hQk'] at l2 wok ndq hsk
      refine q_forL (K := K) (a := l) (xs := qV Qk) (ev_qget (n := c.key k0) (ev_var rfl) q1 l1 (ev_var rfl)) (sq_of l2)
        (fun j σ' H' => ∃ z3, σ' = [some (.ref a), some (.ref d), some (.ref A.pa), z3, some (.ref cd), some (.ref A.ka), some (.ref A.qa), none, some (.ref A.mc), some (.ref A.qd), some (.ref A.la), some (.int (s.at_ : Int)), some (.int s.sp), some (.ref A.sa), none, some (.int (c.key k0)), some (.ref A.wd), some (.int (i : Int)), some (.int (c.dm s.at_)), some (.int (k0 : Int)), some (.int (c.P k0).pr), y21, some (.int (th k0)), none, x24] ∧ ∃ Wj : Nat → Int, LawAt K A H' c (mpart μ2).1 s.Q s.left (fun k => (s.st k : Int)) Wj (4 + i) (4 * i + j) ∧ H' l = some (.lst (qV Qk)) ∧ H' A.qd = some (.dK kvs) ∧ ∀ x, Wj x = if x ∈ Qk.take j then (if x = k0 then 0 else W x + 1) else W x)
        (fun H1 e1 => ⟨_, rfl, W, hL.ex e1, e1 _ _ l2, e1 _ _ q1, fun x => by simp⟩) (fun j σ' H' _ ⟨_, _, _, _, h, _⟩ => sq_of h) ?_ ?_
      · rintro j y σ' H' hy ⟨z3, rfl, Wj, hL', hl', hq', hWj⟩
        obtain ⟨rfl, hj, hx⟩ := qV_at hy
        obtain ⟨x, hxe⟩ : ∃ x, x = Qk.getD j 0 := ⟨_, rfl⟩
        rw [← hxe] at hx ⊢
        obtain ⟨nx, tstep⟩ := take_step ndq hx
        have hxm : x ∈ Qk := List.mem_of_getElem? hx
        have hWx : Wj x = W x := by rw [hWj x, if_neg nx]
        obtain ⟨kws, w1, w2, w3⟩ := id hL'.ws
        obtain ⟨nv, hnv⟩ : ∃ nv : Int, nv = if x = k0 then 0 else W x + 1 := ⟨_, rfl⟩
        have hjq : Qk.length ≤ 4 := hsk
        refine q_dputI (n := (x : Int)) (v := .int nv) (ev_if (b := decide (x = k0)) (et_is (et_test (ev_op (ev_var rfl) (ev_var rfl) (rv_eq rfl))) (by rw [dec_int]; congr 1; apply propext; omega)) (fun hb => ev_is ev_c (by rw [hnv, if_pos (of_decide_eq_true hb)])) (fun hb => ev_is (ev_op (ev_wget (x := Wj x) (ev_var rfl) w1 (ev_var rfl) (w3 x)) ev_c rv_I0) (by rw [hnv, if_neg (of_decide_eq_false hb), hWx]))) (ev_var rfl) (ev_var rfl) w1 (by omega) fun H1 e1 => ?_
        have hL2 := (hL'.ex e1).putW (k := x) (x := nv) n1 (e1 _ _ w1) w2 w3
        have nlw : l ≠ A.wd := ne_of hl' w1 (by intro z; cases z)
        have hl2 : (upd H1 A.wd (.dK (putK kws (Sum.inl (x : Int) : Key) (.int nv)))) l = some (.lst (qV Qk)) := by rw [upd_ne nlw]; exact e1 _ _ hl'
        have hq2 : (upd H1 A.wd (.dK (putK kws (Sum.inl (x : Int) : Key) (.int nv)))) A.qd = some (.dK kvs) := by rw [upd_ne hL'.sep.qw]; exact e1 _ _ hq'
        have hw2 : (upd H1 A.wd (.dK (putK kws (Sum.inl (x : Int) : Key) (.int nv)))) A.wd = some (.dK (putK kws (Sum.inl (x : Int) : Key) (.int nv))) := upd_same
        generalize upd H1 A.wd (.dK (putK kws (Sum.inl (x : Int) : Key) (.int nv))) = H2 at hL2 hl2 hq2 hw2 ⊢
        have hle : nv ≤ oths c.bu x Qk := by
          have := wok x hxm
          unfold wnext at this
          rw [← hQk', if_pos hxm, ← hnv] at this
          exact this
        refine s_when (b := false) (et_is (et_test (ev_op (ev_qget (n := (x : Int)) (v := .int nv) (ev_var rfl) hw2 (by rw [valV_put, if_pos rfl]) (ev_var rfl)) (KA.ev_sum (K := K) (ns := othsL c.bu x Qk) (el_is (el_lcL (K := K) (a := l) (xs := qV Qk) (fun i => !decide (V.int ((Qk.getD i 0 : Nat) : Int) = V.int (x : Int))) (fun i => .int (c.bu (Qk.getD i 0))) (ev_qget (n := c.key k0) (ev_var rfl) hq2 l1 (ev_var rfl)) (sq_of hl2) (by unfold qV; rw [List.length_map]; omega) (fun y => rfl) (fun i' y' G1 g1 hi' => by
            obtain ⟨rfl, _, _⟩ := qV_at hi'
            exact et_test (ev_op (ev_var rfl) (ev_var rfl) (rv_ne rfl))) (fun i' y' G1 g1 hi' _ => by
            obtain ⟨rfl, _, hx'⟩ := qV_at hi'
            have hm' := (hI.qw.mem _ k0b k1b (Qk.getD i' 0) (by rw [← hQk']; exact List.mem_of_getElem? hx')).1
            exact ev_part (k := Qk.getD i' 0) (j := 2) (v := .int (c.bu (Qk.getD i' 0))) (hL2.ex g1).parts (ev_var rfl) (ev_var rfl) hm' ev_c (fun _ => rfl))) given_oths)) rv_I0)) (by rw [othsL_sum]; exact decide_eq_false (by omega))) (fun h => by cases h) fun _ H3 e3 => ?_
        refine ⟨_, rfl, _, hL2.ex e3, e3 _ _ hl2, e3 _ _ hq2, fun x' => ?_⟩
        unfold fset
        by_cases e : x' = x
        · subst e
          rw [if_pos rfl, if_pos ((tstep x').mpr (.inr rfl)), hnv]
        · rw [if_neg e, hWj x']
          by_cases e2 : x' ∈ Qk.take j
          · rw [if_pos e2, if_pos ((tstep x').mpr (.inl e2))]
          · rw [if_neg e2, if_neg fun z => ((tstep x').mp z).elim e2 e]
      rintro σ' H26 ⟨z3, rfl, Wn, hL, hl26, hq26, hWn⟩
      have hlq : (qV Qk).length = Qk.length := by unfold qV; rw [List.length_map]
      have eW : Wn = wnext s (c.key k0) k0 W := by
        funext x
        rw [hWn x, hlq, List.take_length]
        unfold wnext
        rw [← hQk']
      rw [hlq, eW] at hL
      clear hWn eW q1 q2 q3 l2 wok
      -- whether its turn ends
      have hkl : k0 < c.ks.length := by rw [gc.kl]; exact hk
      refine q_asg (v := .bl (yields (c.kd k0) (s.st k0))) (ev_is (ev_orV (ev_andV (ev_op (ev_op (ev_var rfl) (ev_var rfl) (rv_ixL (sq_of hL.kinds) (atI_nat (kinds_at hkl)))) ev_c (rv_eq rfl)) fun _ => ev_op (KA.ev_mod (ev_int1 (ev_op (ev_var rfl) (ev_var rfl) (rv_ixL (sq_of hL.steps) (atI_nat (intsL_at hk))))) ev_c (by decide)) ev_c (rv_eq rfl))
        fun _ => ev_andV (ev_op (ev_op (ev_var rfl) (ev_var rfl) (rv_ixL (sq_of hL.kinds) (atI_nat (kinds_at hkl)))) ev_c (rv_eq rfl)) fun _ => ev_orV (ev_op (ev_op (ev_var rfl) (ev_var rfl) (rv_ixL (sq_of hL.steps) (atI_nat (intsL_at hk)))) ev_c (rv_eq rfl))
        fun _ => ev_andV (ev_op (ev_op (ev_var rfl) (ev_var rfl) (rv_ixL (sq_of hL.steps) (atI_nat (intsL_at hk)))) ev_c rv_I0) fun _ => ev_op (KA.ev_mod (ev_int1 (ev_op (ev_op (ev_var rfl) (ev_var rfl) (rv_ixL (sq_of hL.steps) (atI_nat (intsL_at hk)))) ev_c rv_I0)) ev_c (by decide)) ev_c (rv_eq rfl)) (by
          rw [dec_int, dec_int, dec_int, dec_int, dec_int]
          unfold yields
          have z1 : decide ((s.st k0 : Int) = 1) = decide (s.st k0 = 1) := by congr 1; apply propext; omega
          have z2 : decide ((1 : Int) < (s.st k0 : Int)) = decide (1 < s.st k0) := by congr 1; apply propext; omega
          rw [z1, z2])) fun H27 e27 => ?_
      have hL := hL.ex e27
      -- steps[due], left[due]
      refine q_setL (l := A.sa) (xs := intsL c.ps.length fun k => (s.st k : Int)) (j := k0) (v := .int ((s.st k0 : Int) + 1)) hL.steps (ev_op (ev_op (ev_var rfl) (ev_var rfl) (rv_ixL (sq_of hL.steps) (atI_nat (intsL_at hk)))) ev_c rv_I0) (ev_var rfl) (ev_var rfl) (by rw [intsL_len]; exact hk) fun H28 e28 => ?_
      have hL := (hL.ex e28).putS (k := k0) (x := (s.st k0 : Int) + 1) n1
      rw [st_set] at hL
      generalize upd H28 A.sa (.lst ((intsL c.ps.length fun k => (s.st k : Int)).set k0 (.int ((s.st k0 : Int) + 1)))) = H29 at hL ⊢
      refine q_setL (l := A.la) (xs := intsL c.ps.length s.left) (j := k0) (v := .int (c.l1 s k0)) hL.left (ev_if (b := yields (c.kd k0) (s.st k0)) (et_B (ev_var rfl)) (fun hb => ev_is ev_c (by unfold Cfg.l1; rw [if_pos hb])) (fun hb => ev_is (ev_op (ev_op (ev_var rfl) (ev_var rfl) (rv_ixL (sq_of hL.left) (atI_nat (intsL_at hk)))) ev_c rv_I0) (by unfold Cfg.l1; rw [if_neg (by rw [hb]; decide)]))) (ev_var rfl) (ev_var rfl) (by rw [intsL_len]; exact hk) fun H30 e30 => ?_
      have hL := (hL.ex e30).putL (k := k0) (x := c.l1 s k0) n1
      generalize upd H30 A.la (.lst ((intsL c.ps.length s.left).set k0 (.int (c.l1 s k0)))) = H31 at hL ⊢
      have hnx : c.next s = c.time (c.turn s k0) := by unfold Cfg.next; rw [hdue]
      refine s_when (b := decide (c.l1 s k0 < 1)) (et_test (ev_op (ev_op (ev_var rfl) (ev_var rfl) (rv_ixL (sq_of hL.left) (atI_nat (v := .int (c.l1 s k0)) (by rw [intsL_at hk, fset_same])))) ev_c rv_I0)) (fun hb H32 e32 => ?_) (fun hb H32 e32 => ?_)
      · have hb := of_decide_eq_true hb
        have hL := hL.ex e32
        have et : c.turn s k0 = { s with Q := qpush (qdrop s.Q (c.key k0)) (c.key k0) k0, left := fset s.left k0 (c.P k0).bu, st := fset s.st k0 (s.st k0 + 1) } := by unfold Cfg.turn; rw [if_pos hb]
        refine q_setL (l := A.la) (xs := intsL c.ps.length (fset s.left k0 (c.l1 s k0))) (j := k0) (v := .int (c.P k0).bu) hL.left (ev_part (k := k0) (j := 2) hL.parts (ev_var rfl) (ev_var rfl) hk ev_c (fun _ => rfl)) (ev_var rfl) (ev_var rfl) (by rw [intsL_len]; exact hk) fun H33 e33 => ?_
        have hL := (hL.ex e33).putL (k := k0) (x := (c.P k0).bu) n1
        generalize upd H33 A.la (.lst ((intsL c.ps.length (fset s.left k0 (c.l1 s k0))).set k0 (.int (c.P k0).bu))) = H34 at hL ⊢
        obtain ⟨kvs2, r1, r2, r3⟩ := id hL.qs
        obtain ⟨l', o1, o2, _⟩ : ∃ l', valV kvs2 (Sum.inl (c.key k0) : Key) = some (.ref l') ∧ H34 l' = some (.lst (qV (s.Q (c.key k0)))) ∧ True := by
          rcases r3 (c.key k0) k0b k1b with ⟨_, z⟩ | ⟨l', z1, z2, _⟩
          · rw [hQk] at z
            cases z
          · exact ⟨l', z1, z2, trivial⟩
        have hcut : cutV (qV (s.Q (c.key k0))) (some 1) none = qV q := by
          rw [hQk]
          exact cut1
        have hq4 : q.length + 1 ≤ 4 := by
          rw [hQk', hQk, List.length_cons] at hsk
          exact hsk
        refine s_dputL (n := c.key k0) (xs := qV (q ++ [k0])) (el_is (el_cat (el_sl (ev_qget (n := c.key k0) (ev_var rfl) r1 o1 (ev_var rfl)) (eo_some ev_c) eo_none (sq_of o2)) (el_lst (ea_cons (ev_var rfl) ea_nil) (by show 1 ≤ 100000; decide)) (by rw [hcut]; show (qV q).length + 1 ≤ 100000; unfold qV; rw [List.length_map]; omega)) (by rw [hcut]; unfold qV; rw [List.map_append]; rfl)) (ev_var rfl) (ev_var rfl) r1 (by omega) fun p H35 hp e35 h35 => ?_
        have hbo := hL.both
        obtain ⟨_, _, _, _, _, _, _, y3, _⟩ := id hbo.ma.ex
        have hL := (hL.ex e35).putQ (n := c.key k0) (q := q ++ [k0]) n1 (e35 _ _ r1) r2 (r3.mono fun l xs h _ _ _ _ => e35 _ _ h) h35 (ne_of_none hbo.me.ws hp).symm (ne_of_none y3 hp).symm (ne_of_none hL.left hp).symm (ne_of_none hL.steps hp).symm
        have eQ : (fun m => if m = c.key k0 then q ++ [k0] else s.Q m) = qpush (qdrop s.Q (c.key k0)) (c.key k0) k0 := by
          funext m
          unfold qpush qdrop
          by_cases e : m = c.key k0
          · rw [if_pos e, if_pos e, if_pos rfl, hQk]
            rfl
          · rw [if_neg e, if_neg e, if_neg e]
        have eF : fset (fset s.left k0 (c.l1 s k0)) k0 (c.P k0).bu = fset s.left k0 (c.P k0).bu := by
          funext m
          unfold fset
          split <;> rfl
        rw [eQ, eF] at hL
        refine ⟨c.turn s k0, wnext s (c.key k0) k0 W, _, _, _, _, rfl, ?_, wnx, fun n => ?_, ?_, ?_, hnx⟩
        · rw [et]
          exact hL.le (by omega) (by omega)
        · rw [et]
          show (qpush (qdrop s.Q (c.key k0)) (c.key k0) k0 n).length ≤ 4
          rw [← eQ]
          show (if n = c.key k0 then q ++ [k0] else s.Q n).length ≤ 4
          split
          · rw [hQk', hQk, List.length_cons] at hsk
            rw [List.length_append]
            exact hsk
          · exact hsz n
        · rw [et]
        · rw [et]
      · have hb := of_decide_eq_false hb
        have et : c.turn s k0 = { s with left := fset s.left k0 (c.l1 s k0), st := fset s.st k0 (s.st k0 + 1) } := by unfold Cfg.turn; rw [if_neg hb]
        refine ⟨c.turn s k0, wnext s (c.key k0) k0 W, _, _, _, _, rfl, ?_, wnx, fun n => ?_, ?_, ?_, hnx⟩
        · rw [et]
          exact (hL.ex e32).le (by omega) (by omega)
        · rw [et]
          exact hsz n
        · rw [et]
        · rw [et]
  rintro σ' H23 ⟨s2, W', z3, z15, z20, z24, rfl, hL, hW', hsz', y1, y2, y3⟩
  refine q_asg (v := .int (s.sp + 1)) (ev_op (ev_var rfl) ev_c rv_I0) fun H24 e24 => ?_
  have hL := hL.ex e24
  obtain ⟨p1, p2, p3⟩ := time_parts (c := c) (s := s2)
  have fin : ∀ H', Ex H24 H' → LawAt K A H' c (mpart μ2).1 (c.next s).Q (c.next s).left (fun k => ((c.next s).st k : Int)) W' (4 + (i + 1)) (4 * (i + 1)) ∧ LInv c (mpart μ2).1 (c.next s) ∧ WInv c (c.next s) W' ∧ ∀ n, ((c.next s).Q n).length ≤ 4 := fun H' e => by
    refine ⟨?_, u6, ?_, ?_⟩
    · rw [y3, p1, p2, p3]
      exact hL.ex e
    · rw [y3]
      exact hW'.time
    · rw [y3, p1]
      exact hsz'
  refine s_when (b := decide (s.sp + 1 = c.du s.at_)) (et_is (et_test (ev_op (ev_var rfl) (ev_plan (k := s.at_) (j := 1) (v := .int (c.du s.at_)) hL.plan (ev_var rfl) (ev_var rfl) hI.at1 ev_c rfl) (rv_eq rfl))) dec_int) (fun hb H25 e25 => ?_) (fun hb H25 e25 => ?_)
  · have hb := of_decide_eq_true hb
    obtain ⟨vp, v1, v2⟩ := PlanAt.len (hL.ex e25).plan
    have pl4 := gc.pl.len
    refine s_parVV (v := .int (((s.at_ + 1) % c.pl.length : Nat) : Int)) (w := .int 0) (ev_is (KA.ev_mod (ev_int1 (ev_op (ev_var rfl) ev_c rv_I0)) (KA.ev_lenT (ev_var rfl) (st_of v1)) (by omega)) (by rw [v2]; congr 1)) ev_c fun H26 e26 => ?_
    have ht : c.next s = { s2 with at_ := (s2.at_ + 1) % c.pl.length, sp := 0 } := by
      rw [y3]
      unfold Cfg.time
      rw [if_pos (by rw [y1, y2]; exact hb)]
    refine ⟨c.next s, W', (mpart μ2).1, z3, z15, some (.int (i : Int)), some (.int (c.dm s.at_)), some (oN (c.due s)), z20, y21, some (oI ((c.due s).map th)), z24, ?_, fin H26 (e25.trans e26)⟩
    have q1 : (c.next s).at_ = (s.at_ + 1) % c.pl.length := by rw [ht, ← y1]
    have q2 : (c.next s).sp = 0 := by rw [ht]
    rw [q1, q2]
    rfl
  · have hb := of_decide_eq_false hb
    have ht : c.next s = { s2 with sp := s2.sp + 1 } := by
      rw [y3]
      unfold Cfg.time
      rw [if_neg (by rw [y1, y2]; exact hb)]
    refine ⟨c.next s, W', (mpart μ2).1, z3, z15, some (.int (i : Int)), some (.int (c.dm s.at_)), some (oN (c.due s)), z20, y21, some (oI ((c.due s).map th)), z24, ?_, fin H25 e25⟩
    have q1 : (c.next s).at_ = s.at_ := by rw [ht, ← y1]
    have q2 : (c.next s).sp = s.sp + 1 := by rw [ht, ← y2]
    rw [q1, q2]
    rfl
end
end KL

set_option maxHeartbeats 0

namespace KA
open PySem PySem.Spec PyProof.Rows L2
abbrev R : PySem.W.OpenRow := PySem.W.OpenLaw.row PySem.Challenge.rw_keptapart_k06_whole_turns_and_bounds
def fNames0 : List Str := ["word_of", "parts_of", "number_in", "register_in", "word_in", "code_in", "_law_tape", "_law_take", "law", "rank", "ready_place", "push", "take_out", "kind_of", "frames_of", "put_field", "put_cap", "entry_at", "entry", "put_entry", "get_register", "put_register", "domain_now", "chosen", "spent", "next_part", "trap", "any_trap", "devices_go", "reckoned"]
def fNames1 : List Str := ["booted", "begin_part", "NAMES", "TRAPS", "CHANGING"]
def fNames : List Str := fNames0 ++ fNames1
def cNames : List Str := ["Memory", "Machine"]
abbrev hk : PySem.W.Hook := hookY (asN fNames cNames) fa fn cl exs
def ob (s : PySem.W.SharedT) : AlY := obsY (asN fNames cNames) fa fn cl exs (HandSHeadRun.getT s)
theorem ob_eq (s : PySem.W.SharedT) : ob s = hk.obs s.abs := obsY_eq (HandSHeadRun.getT_eq s)
def names0 : List Str := ["_wall", "ApartError", "InvalidCode", "InvalidBoot", "NAMES", "TRAPS", "DIGITS", "word_of", "parts_of", "number_in", "register_in", "word_in", "code_in", "WORD", "FRAME", "FRAMES", "SLOTS", "ENTRIES", "PRIORITIES", "DOMAINS", "LINES", "PARTS", "FREE", "UNTYPED", "PAGE", "TABLE", "CAPS", "THREAD", "END", "NOTICE"]
def names1 : List Str := ["DEVICE", "KINDS", "READ", "WRITE", "GRANT", "ALL", "STOPPED", "READY", "SENDING", "RECEIVING", "WAITING", "ASKED", "CALLING", "FAULTED", "QUEUED", "KERNEL", "KIND_FRAME", "T_STATE", "T_PC", "T_REGISTERS", "T_CAPS", "T_TABLE", "T_PRIORITY", "T_BUDGET", "T_LEFT", "T_NEXT", "T_ON", "T_BADGE", "T_HANDLER", "T_CODE"]
def names2 : List Str := ["T_ADDRESS", "T_REPLY", "T_DOMAIN", "T_RIGHTS", "T_LENT", "D_STATUS", "D_ORDER", "D_SECTOR", "D_PAGE", "D_LEFT", "D_LINE", "GUARDED", "BUSY", "DONE", "FAILED", "K_TIME", "K_PART", "K_LEFT", "K_HEADS", "K_TAILS", "K_LINES", "K_PLAN", "OK", "NO_CAP", "TAKEN", "NO_ROOM", "NO_SENSE", "GONE", "BAD_CODE", "BAD_PLACE"]
def names3 : List Str := ["BAD_TRAP", "rank", "ready_place", "push", "take_out", "wake", "block", "first_of", "cancel", "again", "drop_reply", "give_up", "wake_all", "kind_of", "frames_of", "cap_at", "field", "put_field", "put_cap", "slots_of", "slot_of", "own_cap", "free_slot", "entry_at", "entries_of", "entry", "put_entry", "unmap_slot", "child_of", "move_slot"]
def names4 : List Str := ["delete_slot", "destroy", "forget", "revoke_slot", "get_register", "put_register", "domain_now", "chosen", "spent", "next_part", "message_of", "deliver", "hand_on", "meet", "send", "receive", "reply", "signal_on", "signal", "wait", "mint", "move", "retype", "own_table", "map_page", "unmap_page", "bind", "over_thread", "DOERS", "trap"]
def names5 : List Str := ["fault", "line_rises", "any_trap", "order", "status", "devices_go", "device_does", "Memory", "CHANGING", "Machine", "reckoned", "EACH", "booted", "begin_part", "begin_link", "_law_tape", "_law_take"]
def names : List Str := names0 ++ names1 ++ names2 ++ names3 ++ names4 ++ names5
theorem runF (w : World) : HandSHeadRun.RunEq R (PySem.W.view R.prog [177]) hk ob 8000 names (w.withFollow "special-get-raises" false) := by
  intro os
  kernel_rfl
theorem runT (w : World) : HandSHeadRun.RunEq R (PySem.W.view R.prog [177]) hk ob 8000 names (w.withFollow "special-get-raises" true) := by
  intro os
  kernel_rfl
theorem run (w : World) : HandSHeadRun.RunEq R (PySem.W.view R.prog [177]) hk ob 8000 names w := PySem.W.byRow2 "special-get-raises" (P := fun w => HandSHeadRun.RunEq R (PySem.W.view R.prog [177]) hk ob 8000 names w) runF runT w
end KA
open PySem PySem.W PySem.Calls PyProof.Rows
theorem PySem.Challenge.cw_keptapart_k06_whole_turns_and_bounds_holds : PySem.Challenge.rw_keptapart_k06_whole_turns_and_bounds.Holds := by
  w_on; o_law
  refine HandSHeadRun.head_any (r := OpenLaw.row PySem.Challenge.rw_keptapart_k06_whole_turns_and_bounds) (q := view (OpenLaw.row PySem.Challenge.rw_keptapart_k06_whole_turns_and_bounds).prog [177]) (H := KA.hk) (ob := KA.ob) (M := 8000) (loose := KA.names) (d := HandSHeadRun.topDef (OpenLaw.row PySem.Challenge.rw_keptapart_k06_whole_turns_and_bounds).prog 177) (kwd := []) KA.ob_eq
    (by kernel_rfl) (fun s => by kernel_rfl) KA.run (by kernel_rfl) (by kernel_rfl) (by kernel_rfl) (by rfl) (by first | assumption | decide +kernel) (by decide +kernel) ⟨rfl, rfl, rfl, rfl, rfl, by decide +kernel⟩ ?hw ?hc
  case hw => w_witness2
  case hc =>
    refine L2.walk_ofE (l := PySem.Challenge.rw_keptapart_k06_whole_turns_and_bounds) (n := 63) (k := 10) (x := "script") (CX := L2.CX0) rfl (by decide) (by kernel_rfl) ⟨rfl, by decide, by decide⟩ ?F (fun _ _ _ _ z => z)
    intro w mg fa h Y G hmg0
    obtain ⟨K, KX, c⟩ := Y
    have hmg : mg ("law" : PySem.Str) = some (.ref fa) := by
      have e : (HandSHeadRun.topDef (OpenLaw.row PySem.Challenge.rw_keptapart_k06_whole_turns_and_bounds).prog 177).name = ("law" : PySem.Str) := by kernel_rfl
      rw [← e]
      exact hmg0
    have T : KA.Txt K mg := KA.Txt.of KX G c
    have e := hmg.symm.trans T.glo_law
    cases e
    have b := L2.FunD.bindsA (ps := ["script"]) T.fn_law fun _ _ _ _ _ _ us hl => match us, hl with | [_], _ => rfl
    exact ⟨K, KA.fd_law K, KL.sp_law K, KX, fun s v => b s [v] rfl, fun H a ns hl _ hS => ⟨a, ns, rfl, hS, hl, fun _ => rfl⟩, fun base _ _ => KL.ok_law T⟩

