import PyProof.Rows.All
import Wide.All
import OpenK.AllK
import Wide.FinOn
import HandS.ForMost
import HandS.ForExc
import HandS.Defaults
import HandS.Flow
import HandS.Style
import HandS.Strs
import HandS.Steps
import HandS.Evl
import HandS.TupAny
import HandS.SortInts
import HandS.CallSlots
import HandS.ExcInit
import HandS.ExcField
import HandS.TryMany
import KE.KExcSuper
import HandS.Head0
import HandS.Head1
import HandS.Head2
import HandS.HeadEnd
import HandS.HeadHook1
import HandS.HeadHook2
import HandS.HeadHook3
import HandS.Zip
import KE.GoesEnum
import KE.GoesMore
import KE.GoesZip
import HandS.CallLocal
import HandS.DictComp
import HandS.DeepEq
import HandS.Lambda
import HandS.EndTab
import HandS.ExcOwn
import HandS.TryOnly
import HandS.AnyAll
import HandS.HeadWalk
import HandS.Walk
import HandS.Small
import HandS.TupMul
import KE.KDictCopyH
import HandS.ListItems
import KE.DatumOrd
import PySem.Challenge.RW_keptapart_k10_begins_and_wrong_memories
set_option Elab.async false
set_option linter.all false
set_option maxRecDepth 100000
set_option maxHeartbeats 4000000

namespace KA
open PySem PySem.Spec PyProof.Rows L2

/-! ### the head's facts: what hookD tells, a row of Bools, defs with a closure -/
abbrev CloV : Type := Option (Str × Str × Arguments × FuncBody × Scope × Addr × List Str × Addr)
def cloObs (K : PySem.W.Frag) (p : Str × Option Str) : CloV := match K.lookup (He.fAd K p) with
  | some ⟨_, _, .func fd, _⟩ => some (fd.name, fd.qualname, fd.params, fd.body, fd.scope, fd.globals, fd.closure.map (·.1), fd.builtins)
  | _ => none
structure CloD where
  at_ : Str × Option Str
  name : Str
  qual : Str
  st : Stmt
  clo : List Str
def CloD.val (d : CloD) : CloV := some (d.name, d.qual, defArgs d.st, .stmts (defBody d.st), defScope d.st, mainGlobals, d.clo, builtinsNs)
def asY : Nat → (Addr → Option Obj) → List Addr
  | 0, _ => [mainGlobals, cStatics]
  | n + 1, g => He.growD g (asY n g)
/-- the objects by names: fs the defs, cs the classes -/
def refsL (g : Addr → Option Obj) (as : List Addr) : List Addr := as.flatMap fun a => match g a with
  | some o => He.refsD o
  | none => []
def codeL (g : Addr → Option Obj) (as : List Addr) : List Addr := as.flatMap fun a => match g a with
  | some ⟨_, _, .func fd, _⟩ => He.refV fd.code ++ He.refV fd.defaults
  | _ => []
def nsL (g : Addr → Option Obj) (as : List Addr) : List Addr := as.flatMap fun a => match g a with
  | some ⟨_, _, .cls cd, _⟩ => cd.ns :: cd.mro.flatMap He.refV
  | _ => []
def asN (fs cs : List Str) (g : Addr → Option Obj) : List Addr :=
  let K0 := He.frG g [mainGlobals]
  let f1 := fs.map (He.ga K0)
  let c1 := cs.map (He.ga K0)
  let c2 := nsL g c1
  let c3 := refsL g c2
  [mainGlobals, cStatics] ++ c1 ++ c2 ++ c3 ++ codeL g c3 ++ f1 ++ codeL g f1
abbrev AlY : Type := He.AlD × Bool × List CloV
def obsK (fa : List He.Fa) (fn : List He.DefD) (cl : List CloD) (ex : PySem.W.Frag → List Bool) (K : PySem.W.Frag) : AlY := (He.obsD fa fn K, (ex K).all id, cl.map fun d => cloObs K d.at_)
def obsY (n : (Addr → Option Obj) → List Addr) (fa : List He.Fa) (fn : List He.DefD) (cl : List CloD) (ex : PySem.W.Frag → List Bool) (g : Addr → Option Obj) : AlY := obsK fa fn cl ex (He.frG g (n g))
def valY (fn : List He.DefD) (cl : List CloD) : AlY := (He.valD fn, true, cl.map CloD.val)
def hookY (n : (Addr → Option Obj) → List Addr) (fa : List He.Fa) (fn : List He.DefD) (cl : List CloD) (ex : PySem.W.Frag → List Bool) : PySem.W.Hook where
  α := AlY
  obs := fun s => obsY n fa fn cl ex s.heap.get?
  val := fun _ => valY fn cl
  says := fun _ h => ∃ K : PySem.W.Frag, K.In h ∧ obsK fa fn cl ex K = valY fn cl
  of := fun _ _ e => ⟨_, He.frG_in, e⟩
  keeps := fun _ _ _ ⟨K, hK, c⟩ k => ⟨K, PySem.W.Frag.In.keeps hK k, c⟩
theorem obsY_eq {n : (Addr → Option Obj) → List Addr} {fa : List He.Fa} {fn : List He.DefD} {cl : List CloD} {ex : PySem.W.Frag → List Bool} {g : Addr → Option Obj} {s : Shared} (h : ∀ a, g a = s.heap.get? a) : obsY n fa fn cl ex g = (hookY n fa fn cl ex).obs s := by
  have e : g = s.heap.get? := funext h
  rw [e] <;> rfl

/-- a dict of the top with keys that are ints: some of its values are defs -/
def dctB (K : PySem.W.Frag) (x : Str) (ks : List (Int × Str)) : Bool := match K.lookup (He.ga K x) with
  | some o => decide (o.cls = .type "dict") && o.dict.isNone && o.slots.isEmpty && (match o.data with
    | .dict es _ => es.toList.all (fun e => match e.key with | .int i _ => decide (e.hash = hashInt i) | _ => false) && ks.all (fun p => decide (findBy Value.isInt es p.1 = some (.ref (He.ga K p.2))))
    | _ => false)
  | none => false
def top (i : Nat) : Stmt := PySem.Challenge.pw_keptapart_k10_begins_and_wrong_memories.main.body.getD i (.Pass ⟨0, 0, 0, 0⟩)
abbrev s_Memory_init : Stmt := inClass (top 68) 0
abbrev sc_Memory_init_N : List Str := ["self"]
abbrev s_Memory_word : Stmt := inClass (top 68) 1
abbrev sc_Memory_word_N : List Str := ["self", "frame", "place"]
abbrev s_Memory_put : Stmt := inClass (top 68) 2
abbrev sc_Memory_put_N : List Str := ["self", "frame", "place", "word"]
abbrev s_Memory_frame : Stmt := inClass (top 68) 4
abbrev sc_Memory_frame_N : List Str := ["self", "frame"]
abbrev s_Memory_words : Stmt := inClass (top 68) 5
abbrev sc_Memory_words_N : List Str := ["self"]
abbrev s_Memory_disk : Stmt := inClass (top 68) 7
abbrev sc_Memory_disk_N : List Str := ["self", "frame"]
abbrev s_Memory_laid : Stmt := inClass (top 68) 8
abbrev sc_Memory_laid_N : List Str := ["self"]
abbrev s_Memory_load : Stmt := inClass (top 68) 10
abbrev sc_Memory_load_N : List Str := ["self", "words", "word"]
abbrev s_rank : Stmt := top 70
abbrev sc_rank_N : List Str := ["memory", "thread"]
abbrev s_ready_place : Stmt := top 71
abbrev sc_ready_place_N : List Str := ["memory", "thread", "number"]
abbrev s_push : Stmt := top 72
abbrev sc_push_N : List Str := ["memory", "place", "thread", "frame", "head", "tail", "last"]
abbrev s_members : Stmt := top 73
abbrev sc_members_N : List Str := ["memory", "place", "found", "own"]
abbrev s_kind_of : Stmt := top 75
abbrev sc_kind_of_N : List Str := ["memory", "frame"]
abbrev s_frames_of : Stmt := top 76
abbrev sc_frames_of_N : List Str := ["memory", "kind", "frame"]
abbrev s_cap_at : Stmt := top 77
abbrev sc_cap_at_N : List Str := ["memory", "slot", "frame", "place", "k"]
abbrev s_field : Stmt := top 78
abbrev sc_field_N : List Str := ["memory", "slot", "place"]
abbrev s_put_field : Stmt := top 79
abbrev sc_put_field_N : List Str := ["memory", "slot", "place", "word"]
abbrev s_put_cap : Stmt := top 80
abbrev sc_put_cap_N : List Str := ["memory", "slot", "cap", "parent", "size", "used", "k"]
abbrev s_slots_of : Stmt := top 81
abbrev sc_slots_of_N : List Str := ["memory", "found", "frame", "slot"]
abbrev s_entry_at : Stmt := top 82
abbrev sc_entry_at_N : List Str := ["memory", "frame", "page"]
abbrev s_entries_of : Stmt := top 83
abbrev sc_entries_of_N : List Str := ["memory", "frame"]
abbrev s_entry : Stmt := top 84
abbrev sc_entry_N : List Str := ["memory", "table", "page", "k"]
abbrev s_put_entry : Stmt := top 85
abbrev sc_put_entry_N : List Str := ["memory", "table", "page", "told", "k"]
abbrev s_booted : Stmt := top 88
abbrev sc_booted_N : List Str := ["plan", "parts", "links", "lines", "memory", "first", "domain", "ticks", "number", "part", "link", "line", "bits"]
abbrev s_begin_part : Stmt := top 89
abbrev sc_begin_part_N : List Str := ["memory", "frame", "part", "domain", "priority", "budget", "code", "many", "good", "own", "kind", "place", "word", "cap", "page", "thread", "places"]
abbrev s_begin_link : Stmt := top 90
abbrev sc_begin_link_N : List Str := ["memory", "frame", "link", "many", "kind", "one", "rights", "other", "others", "good", "part", "told", "slots", "place"]
abbrev s_domain_now : Stmt := top 92
abbrev sc_domain_now_N : List Str := ["memory"]
abbrev s_chosen : Stmt := top 93
abbrev sc_chosen_N : List Str := ["memory", "domain", "number", "head"]
abbrev s_Machine_init : Stmt := inClass (top 95) 0
abbrev sc_Machine_init_N : List Str := ["self", "memory", "most"]
abbrev s_Machine_memory : Stmt := inClass (top 95) 1
abbrev sc_Machine_memory_N : List Str := ["self"]
abbrev s_from_image : Stmt := top 96
abbrev sc_from_image_N : List Str := ["words", "most", "word", "memory"]
abbrev s_maybe : Stmt := top 98
abbrev sc_maybe_N : List Str := ["word"]
abbrev s_thread_of : Stmt := top 99
abbrev sc_thread_of_N : List Str := ["memory", "thread", "places", "found", "name", "place", "number"]
abbrev s_device_of : Stmt := top 100
abbrev sc_device_of_N : List Str := ["memory", "device", "places", "found", "name", "place"]
abbrev s_rows_of : Stmt := top 101
abbrev sc_rows_of_N : List Str := ["memory", "frame", "rows", "page", "told"]
abbrev s_abstracted : Stmt := top 102
abbrev sc_abstracted_N : List Str := ["memory", "state", "words", "number", "word", "lines", "line", "slot", "frame", "table", "thread", "page", "name", "kind", "on", "device", "rows"]
abbrev s_check_memory : Stmt := top 103
abbrev sc_check_memory_N : List Str := ["memory", "kinds", "frame", "kind", "state", "slot", "told", "rights", "_", "size", "used", "good", "parent", "own", "rows"]
abbrev s_comes_from : Stmt := top 104
abbrev sc_comes_from_N : List Str := ["cap", "parent"]
abbrev s_check_queues : Stmt := top 105
abbrev sc_check_queues_N : List Str := ["state", "seen", "number", "rows", "thread", "own", "is_there", "on", "_"]
abbrev s_law_tape : Stmt := top 107
abbrev sc_law_tape_N : List Str := ["script", "cells", "cell", "seed"]
abbrev s_law_take : Stmt := top 108
abbrev sc_law_take_N : List Str := ["tape", "many", "drawn", "mixed"]
abbrev s_law_refused : Stmt := top 109
abbrev sc_law_refused_N : List Str := ["call"]
abbrev s_law_wrong : Stmt := top 110
abbrev sc_law_wrong_N : List Str := ["memory"]
abbrev s_law_bent_right : Stmt := top 111
abbrev sc_law_bent_right_N : List Str := ["memory", "plan", "parts", "words", "rows", "at", "word", "bent", "part", "wrong", "told"]
abbrev s_law : Stmt := top 112
abbrev sc_law_N : List Str := ["script", "tape", "many", "plan", "k", "parts", "j", "links", "lines", "memory", "state", "first", "own", "frame", "before", "due", "kind", "one", "rights", "other", "others", "ranks"]
def cl : List CloD := []
def fn : List He.DefD := [
  ⟨("Memory", some "__init__"), "__init__", "Memory.__init__", defArgs s_Memory_init, defBody s_Memory_init, defScope s_Memory_init, [], []⟩,
  ⟨("Memory", some "word"), "word", "Memory.word", defArgs s_Memory_word, defBody s_Memory_word, defScope s_Memory_word, [], []⟩,
  ⟨("Memory", some "put"), "put", "Memory.put", defArgs s_Memory_put, defBody s_Memory_put, defScope s_Memory_put, [], []⟩,
  ⟨("Memory", some "frame"), "frame", "Memory.frame", defArgs s_Memory_frame, defBody s_Memory_frame, defScope s_Memory_frame, [], []⟩,
  ⟨("Memory", some "words"), "words", "Memory.words", defArgs s_Memory_words, defBody s_Memory_words, defScope s_Memory_words, [], []⟩,
  ⟨("Memory", some "disk"), "disk", "Memory.disk", defArgs s_Memory_disk, defBody s_Memory_disk, defScope s_Memory_disk, [], []⟩,
  ⟨("Memory", some "laid"), "laid", "Memory.laid", defArgs s_Memory_laid, defBody s_Memory_laid, defScope s_Memory_laid, [], []⟩,
  ⟨("Memory", some "load"), "load", "Memory.load", defArgs s_Memory_load, defBody s_Memory_load, defScope s_Memory_load, [], []⟩,
  ⟨("rank", none), "rank", "rank", defArgs s_rank, defBody s_rank, defScope s_rank, [], []⟩,
  ⟨("ready_place", none), "ready_place", "ready_place", defArgs s_ready_place, defBody s_ready_place, defScope s_ready_place, [], []⟩,
  ⟨("push", none), "push", "push", defArgs s_push, defBody s_push, defScope s_push, [], []⟩,
  ⟨("members", none), "members", "members", defArgs s_members, defBody s_members, defScope s_members, [], []⟩,
  ⟨("kind_of", none), "kind_of", "kind_of", defArgs s_kind_of, defBody s_kind_of, defScope s_kind_of, [], []⟩,
  ⟨("frames_of", none), "frames_of", "frames_of", defArgs s_frames_of, defBody s_frames_of, defScope s_frames_of, [], []⟩,
  ⟨("cap_at", none), "cap_at", "cap_at", defArgs s_cap_at, defBody s_cap_at, defScope s_cap_at, [], []⟩,
  ⟨("field", none), "field", "field", defArgs s_field, defBody s_field, defScope s_field, [], []⟩,
  ⟨("put_field", none), "put_field", "put_field", defArgs s_put_field, defBody s_put_field, defScope s_put_field, [], []⟩,
  ⟨("put_cap", none), "put_cap", "put_cap", defArgs s_put_cap, defBody s_put_cap, defScope s_put_cap, [], []⟩,
  ⟨("slots_of", none), "slots_of", "slots_of", defArgs s_slots_of, defBody s_slots_of, defScope s_slots_of, [], []⟩,
  ⟨("entry_at", none), "entry_at", "entry_at", defArgs s_entry_at, defBody s_entry_at, defScope s_entry_at, [], []⟩,
  ⟨("entries_of", none), "entries_of", "entries_of", defArgs s_entries_of, defBody s_entries_of, defScope s_entries_of, [], []⟩,
  ⟨("entry", none), "entry", "entry", defArgs s_entry, defBody s_entry, defScope s_entry, [], []⟩,
  ⟨("put_entry", none), "put_entry", "put_entry", defArgs s_put_entry, defBody s_put_entry, defScope s_put_entry, [], []⟩,
  ⟨("booted", none), "booted", "booted", defArgs s_booted, defBody s_booted, defScope s_booted, [], []⟩,
  ⟨("begin_part", none), "begin_part", "begin_part", defArgs s_begin_part, defBody s_begin_part, defScope s_begin_part, [], []⟩,
  ⟨("begin_link", none), "begin_link", "begin_link", defArgs s_begin_link, defBody s_begin_link, defScope s_begin_link, [], []⟩,
  ⟨("domain_now", none), "domain_now", "domain_now", defArgs s_domain_now, defBody s_domain_now, defScope s_domain_now, [], []⟩,
  ⟨("chosen", none), "chosen", "chosen", defArgs s_chosen, defBody s_chosen, defScope s_chosen, [], []⟩,
  ⟨("Machine", some "__init__"), "__init__", "Machine.__init__", defArgs s_Machine_init, defBody s_Machine_init, defScope s_Machine_init, [], []⟩,
  ⟨("Machine", some "memory"), "memory", "Machine.memory", defArgs s_Machine_memory, defBody s_Machine_memory, defScope s_Machine_memory, [], []⟩,
  ⟨("from_image", none), "from_image", "from_image", defArgs s_from_image, defBody s_from_image, defScope s_from_image, [], []⟩,
  ⟨("maybe", none), "maybe", "maybe", defArgs s_maybe, defBody s_maybe, defScope s_maybe, [], []⟩,
  ⟨("thread_of", none), "thread_of", "thread_of", defArgs s_thread_of, defBody s_thread_of, defScope s_thread_of, [], []⟩,
  ⟨("device_of", none), "device_of", "device_of", defArgs s_device_of, defBody s_device_of, defScope s_device_of, [], []⟩,
  ⟨("rows_of", none), "rows_of", "rows_of", defArgs s_rows_of, defBody s_rows_of, defScope s_rows_of, [], []⟩,
  ⟨("abstracted", none), "abstracted", "abstracted", defArgs s_abstracted, defBody s_abstracted, defScope s_abstracted, [], []⟩,
  ⟨("check_memory", none), "check_memory", "check_memory", defArgs s_check_memory, defBody s_check_memory, defScope s_check_memory, [], []⟩,
  ⟨("comes_from", none), "comes_from", "comes_from", defArgs s_comes_from, defBody s_comes_from, defScope s_comes_from, [], []⟩,
  ⟨("check_queues", none), "check_queues", "check_queues", defArgs s_check_queues, defBody s_check_queues, defScope s_check_queues, [], []⟩,
  ⟨("_law_tape", none), "_law_tape", "_law_tape", defArgs s_law_tape, defBody s_law_tape, defScope s_law_tape, [], []⟩,
  ⟨("_law_take", none), "_law_take", "_law_take", defArgs s_law_take, defBody s_law_take, defScope s_law_take, [], []⟩,
  ⟨("_law_refused", none), "_law_refused", "_law_refused", defArgs s_law_refused, defBody s_law_refused, defScope s_law_refused, [], []⟩,
  ⟨("_law_wrong", none), "_law_wrong", "_law_wrong", defArgs s_law_wrong, defBody s_law_wrong, defScope s_law_wrong, [], []⟩,
  ⟨("_law_bent_right", none), "_law_bent_right", "_law_bent_right", defArgs s_law_bent_right, defBody s_law_bent_right, defScope s_law_bent_right, [], []⟩,
  ⟨("law", none), "law", "law", defArgs s_law, defBody s_law, defScope s_law, [], []⟩]
def fa : List He.Fa := [
  .glo "rank",
  .glo "ready_place",
  .glo "push",
  .glo "members",
  .glo "kind_of",
  .glo "frames_of",
  .glo "cap_at",
  .glo "field",
  .glo "put_field",
  .glo "put_cap",
  .glo "slots_of",
  .glo "entry_at",
  .glo "entries_of",
  .glo "entry",
  .glo "put_entry",
  .glo "booted",
  .glo "begin_part",
  .glo "begin_link",
  .glo "domain_now",
  .glo "chosen",
  .glo "from_image",
  .glo "maybe",
  .glo "thread_of",
  .glo "device_of",
  .glo "rows_of",
  .glo "abstracted",
  .glo "check_memory",
  .glo "comes_from",
  .glo "check_queues",
  .glo "_law_tape",
  .glo "_law_take",
  .glo "_law_refused",
  .glo "_law_wrong",
  .glo "_law_bent_right",
  .glo "law",
  .glo "InvalidBoot",
  .glo "InvalidImage",
  .glo "InvalidState",
  .glo "Memory",
  .cls "Memory",
  .mkr "Memory",
  .noat "Memory" "_words",
  .noat "Memory" "_disks",
  .meth "Memory" "word",
  .meth "Memory" "put",
  .meth "Memory" "clear",
  .meth "Memory" "frame",
  .meth "Memory" "words",
  .meth "Memory" "lay_disk",
  .meth "Memory" "disk",
  .meth "Memory" "laid",
  .meth "Memory" "put_sector",
  .meth "Memory" "load",
  .glo "Machine",
  .cls "Machine",
  .mkr "Machine",
  .noat "Machine" "_memory",
  .noat "Machine" "_most",
  .noat "Machine" "_kept",
  .noat "Machine" "_counts",
  .meth "Machine" "memory",
  .meth "Machine" "lookups",
  .meth "Machine" "counts",
  .meth "Machine" "_entry",
  .meth "Machine" "place_of",
  .meth "Machine" "forget",
  .meth "Machine" "tick",
  .meth "Machine" "step",
  .meth "Machine" "run",
  .meth "Machine" "rise",
  .meth "Machine" "image",
  .int "WORD" 65536,
  .int "FRAME" 64,
  .int "FRAMES" 32,
  .int "SLOTS" 8,
  .int "ENTRIES" 8,
  .int "PRIORITIES" 4,
  .int "DOMAINS" 2,
  .int "LINES" 4,
  .int "PARTS" 4,
  .int "FREE" 0,
  .int "UNTYPED" 1,
  .int "PAGE" 2,
  .int "TABLE" 3,
  .int "CAPS" 4,
  .int "THREAD" 5,
  .int "END" 6,
  .int "NOTICE" 7,
  .int "DEVICE" 8,
  .glo "KINDS",
  .int "ALL" 7,
  .int "READY" 1,
  .int "SENDING" 2,
  .int "RECEIVING" 3,
  .int "WAITING" 4,
  .int "CALLING" 6,
  .int "FAULTED" 7,
  .glo "QUEUED",
  .int "KERNEL" 0,
  .int "KIND_FRAME" 1,
  .int "T_STATE" 0,
  .int "T_PC" 1,
  .int "T_REGISTERS" 2,
  .int "T_CAPS" 10,
  .int "T_TABLE" 11,
  .int "T_PRIORITY" 12,
  .int "T_BUDGET" 13,
  .int "T_LEFT" 14,
  .int "T_NEXT" 15,
  .int "T_ON" 16,
  .int "T_BADGE" 17,
  .int "T_HANDLER" 18,
  .int "T_CODE" 19,
  .int "T_ADDRESS" 20,
  .int "T_REPLY" 21,
  .int "T_DOMAIN" 22,
  .int "T_RIGHTS" 23,
  .int "T_LENT" 24,
  .int "D_STATUS" 0,
  .int "D_ORDER" 1,
  .int "D_SECTOR" 2,
  .int "D_PAGE" 3,
  .int "D_LEFT" 4,
  .int "D_LINE" 5,
  .int "GUARDED" 4,
  .int "K_TIME" 0,
  .int "K_PART" 1,
  .int "K_LEFT" 2,
  .int "K_HEADS" 4,
  .int "K_TAILS" 12,
  .int "K_LINES" 20,
  .int "K_PLAN" 24,
  .int "EACH" 5,
  .free "abs",
  .free "all",
  .free "any",
  .free "enumerate",
  .free "int",
  .free "len",
  .free "list",
  .free "max",
  .free "min",
  .free "range",
  .free "sorted",
  .free "str",
  .free "sum",
  .free "tuple",
  .free "zip",
  .exc "InvalidBoot",
  .exc "InvalidState",
  .exc "InvalidImage"]
def tupB2 (K : PySem.W.Frag) (x : Str) (vs : List He.Dv) : Bool := He.tupB K x vs && (match K.lookup (He.ga K x) with | some o => o.dict.isNone && decide (o.cls = .type "tuple") | none => false)
def exs (K : PySem.W.Frag) : List Bool := [tupB2 K "KINDS" [.int 0, .int 1, .int 2, .int 3, .int 4, .int 5, .int 6, .int 7, .int 8], tupB2 K "QUEUED" [.int 2, .int 3, .int 4, .int 6, .int 7], decide (PySem.W.exmOne K (.ref (He.ga K "InvalidBoot")) (.ref (He.ga K "InvalidBoot")) = some true), decide (PySem.W.exmOne K (.ref (He.ga K "InvalidState")) (.ref (He.ga K "InvalidState")) = some true), decide (PySem.W.exmOne K (.ref (He.ga K "InvalidImage")) (.ref (He.ga K "InvalidImage")) = some true), PySem.W.noTabs K]
def fdO (K : PySem.W.Frag) (p : Str × Option Str) : FuncData := match K.lookup (He.fAd K p) with
  | some ⟨_, _, .func fd, _⟩ => fd
  | _ => default
theorem fdO_eq {K : PySem.W.Frag} {p : Str × Option Str} {oc : Value} {od : Option Addr} {fd : FuncData} {osl : Array (Option Value)} (h : K.lookup (He.fAd K p) = some ⟨oc, od, .func fd, osl⟩) : fdO K p = fd := by
  unfold fdO
  rw [h]
abbrev FnP (K : PySem.W.Frag) (x qual : Str) (st : Stmt) (f : Addr) (fd : FuncData) : Prop := FunD K x qual (defArgs st) (defBody st) (defScope st) [] [] f fd
/-- what the top has written -/
structure Txt (K : PySem.W.Frag) (mg : Str → Option Value) : Prop where
  ex : ∃ h : Heap, K.In h ∧ h.Ns mainGlobals mg ∧ He.SaysD fa fn K ∧ (exs K).all id = true ∧ cl.map (fun d => cloObs K d.at_) = cl.map CloD.val
section
variable {K : PySem.W.Frag} {mg : Str → Option Value}
theorem Txt.fact (T : Txt K mg) (i : Nat) {f : He.Fa} (h : fa[i]? = some f := by rfl) : f.ok K = true := by
  obtain ⟨_, _, _, c, _, _⟩ := T.ex
  exact c.fact i h
theorem Txt.glo (T : Txt K mg) (i : Nat) {x : Str} (h : fa[i]? = some (.glo x) := by rfl) : mg x = some (.ref (He.ga K x)) := by
  obtain ⟨_, X, G, c, _, _⟩ := T.ex
  exact He.glo_ok X G (c.fact i h)
theorem Txt.free_at (T : Txt K mg) (i : Nat) {x : Str} (h : fa[i]? = some (.free x)) : mg x = none := by
  obtain ⟨_, X, G, c, _, _⟩ := T.ex
  exact He.free_ok X G (c.fact i h)
theorem Txt.int (T : Txt K mg) (i : Nat) {x : Str} {n : Int} (h : fa[i]? = some (.int x n) := by rfl) : ∃ t, mg x = some (.int n t) := by
  obtain ⟨_, X, G, c, _, _⟩ := T.ex
  exact He.int_ok X G (c.fact i h)
theorem Txt.str (T : Txt K mg) (i : Nat) {x z : Str} (h : fa[i]? = some (.str x z) := by rfl) : ∃ t, mg x = some (.str z t) := by
  obtain ⟨_, X, G, c, _, _⟩ := T.ex
  exact He.str_ok X G (c.fact i h)
theorem Txt.exi (T : Txt K mg) (i : Nat) {b : Bool} (h : (exs K)[i]? = some b) : b = true := by
  obtain ⟨_, _, _, _, c, _⟩ := T.ex
  exact List.all_eq_true.mp c b (List.mem_of_getElem? h)
theorem Txt.fun_ (T : Txt K mg) (i : Nat) {d : He.DefD} (h : fn[i]? = some d := by rfl) : FunD K d.name d.qual d.params d.body d.scope (d.dvs K) (d.kws K) (He.fAd K d.at_) (fdO K d.at_) := by
  obtain ⟨_, _, _, c, _, _⟩ := T.ex
  obtain ⟨fd, F⟩ := c.def_ i h
  obtain ⟨oc, od, dV, kV, doc, pm, an, cdv, ct, osl, e, lk, r⟩ := F.ex
  rw [fdO_eq lk]
  exact F
theorem Txt.of {h : Heap} (X : K.In h) (G : h.Ns mainGlobals mg) (e : obsK fa fn cl exs K = valY fn cl) : Txt K mg := ⟨⟨h, X, G, congrArg (fun z : AlY => z.1) e, congrArg (fun z : AlY => z.2.1) e, congrArg (fun z : AlY => z.2.2) e⟩⟩
theorem Txt.clo (T : Txt K mg) (i : Nat) {d : CloD} (h : cl[i]? = some d := by rfl) : cloObs K d.at_ = d.val := by
  obtain ⟨_, _, _, _, _, e⟩ := T.ex
  have e2 : (cl.map fun d => cloObs K d.at_)[i]? = (cl.map CloD.val)[i]? := by rw [e]
  rw [List.getElem?_map, List.getElem?_map, h] at e2
  exact Option.some.inj e2
theorem Txt.more (T : Txt K mg) (i : Nat) {b : Bool} (h : (exs K)[i]? = some b := by rfl) : b = true := T.exi i h
-- the Bools beside begin at 5
abbrev f_Memory_init (K : PySem.W.Frag) : Addr := He.fAd K ("Memory", some "__init__")
abbrev fd_Memory_init (K : PySem.W.Frag) : FuncData := fdO K ("Memory", some "__init__")
theorem Txt.fn_Memory_init (T : Txt K mg) : FnP K "__init__" "Memory.__init__" s_Memory_init (f_Memory_init K) (fd_Memory_init K) := T.fun_ 0
theorem Txt.kp_Memory_init (T : Txt K mg) : PySem.W.keepIn K (.ref (f_Memory_init K)) = true := T.fn_Memory_init.kp
theorem Txt.bd_Memory_init (T : Txt K mg) : Binds K (fd_Memory_init K) ["self"] [] := T.fn_Memory_init.bindsN fun _ _ _ _ _ _ us hl => match us, hl with | [_], _ => rfl
theorem sc_Memory_init : FnScope sc_Memory_init_N ["self"] (defScope s_Memory_init) := ⟨rfl, rfl, rfl, by decide +kernel, rfl, by decide +kernel, by decide +kernel⟩
abbrev f_Memory_word (K : PySem.W.Frag) : Addr := He.fAd K ("Memory", some "word")
abbrev fd_Memory_word (K : PySem.W.Frag) : FuncData := fdO K ("Memory", some "word")
theorem Txt.fn_Memory_word (T : Txt K mg) : FnP K "word" "Memory.word" s_Memory_word (f_Memory_word K) (fd_Memory_word K) := T.fun_ 1
theorem Txt.kp_Memory_word (T : Txt K mg) : PySem.W.keepIn K (.ref (f_Memory_word K)) = true := T.fn_Memory_word.kp
theorem Txt.bd_Memory_word (T : Txt K mg) : Binds K (fd_Memory_word K) ["self", "frame", "place"] [] := T.fn_Memory_word.bindsN fun _ _ _ _ _ _ us hl => match us, hl with | [_, _, _], _ => rfl
theorem sc_Memory_word : FnScope sc_Memory_word_N ["self", "frame", "place"] (defScope s_Memory_word) := ⟨rfl, rfl, rfl, by decide +kernel, rfl, by decide +kernel, by decide +kernel⟩
abbrev f_Memory_put (K : PySem.W.Frag) : Addr := He.fAd K ("Memory", some "put")
abbrev fd_Memory_put (K : PySem.W.Frag) : FuncData := fdO K ("Memory", some "put")
theorem Txt.fn_Memory_put (T : Txt K mg) : FnP K "put" "Memory.put" s_Memory_put (f_Memory_put K) (fd_Memory_put K) := T.fun_ 2
theorem Txt.kp_Memory_put (T : Txt K mg) : PySem.W.keepIn K (.ref (f_Memory_put K)) = true := T.fn_Memory_put.kp
theorem Txt.bd_Memory_put (T : Txt K mg) : Binds K (fd_Memory_put K) ["self", "frame", "place", "word"] [] := T.fn_Memory_put.bindsN fun _ _ _ _ _ _ us hl => match us, hl with | [_, _, _, _], _ => rfl
theorem sc_Memory_put : FnScope sc_Memory_put_N ["self", "frame", "place", "word"] (defScope s_Memory_put) := ⟨rfl, rfl, rfl, by decide +kernel, rfl, by decide +kernel, by decide +kernel⟩
abbrev f_Memory_frame (K : PySem.W.Frag) : Addr := He.fAd K ("Memory", some "frame")
abbrev fd_Memory_frame (K : PySem.W.Frag) : FuncData := fdO K ("Memory", some "frame")
theorem Txt.fn_Memory_frame (T : Txt K mg) : FnP K "frame" "Memory.frame" s_Memory_frame (f_Memory_frame K) (fd_Memory_frame K) := T.fun_ 3
theorem Txt.kp_Memory_frame (T : Txt K mg) : PySem.W.keepIn K (.ref (f_Memory_frame K)) = true := T.fn_Memory_frame.kp
theorem Txt.bd_Memory_frame (T : Txt K mg) : Binds K (fd_Memory_frame K) ["self", "frame"] [] := T.fn_Memory_frame.bindsN fun _ _ _ _ _ _ us hl => match us, hl with | [_, _], _ => rfl
theorem sc_Memory_frame : FnScope sc_Memory_frame_N ["self", "frame"] (defScope s_Memory_frame) := ⟨rfl, rfl, rfl, by decide +kernel, rfl, by decide +kernel, by decide +kernel⟩
abbrev f_Memory_words (K : PySem.W.Frag) : Addr := He.fAd K ("Memory", some "words")
abbrev fd_Memory_words (K : PySem.W.Frag) : FuncData := fdO K ("Memory", some "words")
theorem Txt.fn_Memory_words (T : Txt K mg) : FnP K "words" "Memory.words" s_Memory_words (f_Memory_words K) (fd_Memory_words K) := T.fun_ 4
theorem Txt.kp_Memory_words (T : Txt K mg) : PySem.W.keepIn K (.ref (f_Memory_words K)) = true := T.fn_Memory_words.kp
theorem Txt.bd_Memory_words (T : Txt K mg) : Binds K (fd_Memory_words K) ["self"] [] := T.fn_Memory_words.bindsN fun _ _ _ _ _ _ us hl => match us, hl with | [_], _ => rfl
theorem sc_Memory_words : FnScope sc_Memory_words_N ["self"] (defScope s_Memory_words) := ⟨rfl, rfl, rfl, by decide +kernel, rfl, by decide +kernel, by decide +kernel⟩
abbrev f_Memory_disk (K : PySem.W.Frag) : Addr := He.fAd K ("Memory", some "disk")
abbrev fd_Memory_disk (K : PySem.W.Frag) : FuncData := fdO K ("Memory", some "disk")
theorem Txt.fn_Memory_disk (T : Txt K mg) : FnP K "disk" "Memory.disk" s_Memory_disk (f_Memory_disk K) (fd_Memory_disk K) := T.fun_ 5
theorem Txt.kp_Memory_disk (T : Txt K mg) : PySem.W.keepIn K (.ref (f_Memory_disk K)) = true := T.fn_Memory_disk.kp
theorem Txt.bd_Memory_disk (T : Txt K mg) : Binds K (fd_Memory_disk K) ["self", "frame"] [] := T.fn_Memory_disk.bindsN fun _ _ _ _ _ _ us hl => match us, hl with | [_, _], _ => rfl
theorem sc_Memory_disk : FnScope sc_Memory_disk_N ["self", "frame"] (defScope s_Memory_disk) := ⟨rfl, rfl, rfl, by decide +kernel, rfl, by decide +kernel, by decide +kernel⟩
abbrev f_Memory_laid (K : PySem.W.Frag) : Addr := He.fAd K ("Memory", some "laid")
abbrev fd_Memory_laid (K : PySem.W.Frag) : FuncData := fdO K ("Memory", some "laid")
theorem Txt.fn_Memory_laid (T : Txt K mg) : FnP K "laid" "Memory.laid" s_Memory_laid (f_Memory_laid K) (fd_Memory_laid K) := T.fun_ 6
theorem Txt.kp_Memory_laid (T : Txt K mg) : PySem.W.keepIn K (.ref (f_Memory_laid K)) = true := T.fn_Memory_laid.kp
theorem Txt.bd_Memory_laid (T : Txt K mg) : Binds K (fd_Memory_laid K) ["self"] [] := T.fn_Memory_laid.bindsN fun _ _ _ _ _ _ us hl => match us, hl with | [_], _ => rfl
theorem sc_Memory_laid : FnScope sc_Memory_laid_N ["self"] (defScope s_Memory_laid) := ⟨rfl, rfl, rfl, by decide +kernel, rfl, by decide +kernel, by decide +kernel⟩
abbrev f_Memory_load (K : PySem.W.Frag) : Addr := He.fAd K ("Memory", some "load")
abbrev fd_Memory_load (K : PySem.W.Frag) : FuncData := fdO K ("Memory", some "load")
theorem Txt.fn_Memory_load (T : Txt K mg) : FnP K "load" "Memory.load" s_Memory_load (f_Memory_load K) (fd_Memory_load K) := T.fun_ 7
theorem Txt.kp_Memory_load (T : Txt K mg) : PySem.W.keepIn K (.ref (f_Memory_load K)) = true := T.fn_Memory_load.kp
theorem Txt.bd_Memory_load (T : Txt K mg) : Binds K (fd_Memory_load K) ["self", "words"] [] := T.fn_Memory_load.bindsN fun _ _ _ _ _ _ us hl => match us, hl with | [_, _], _ => rfl
theorem sc_Memory_load : FnScope sc_Memory_load_N ["self", "words"] (defScope s_Memory_load) := ⟨rfl, rfl, rfl, by decide +kernel, rfl, by decide +kernel, by decide +kernel⟩
abbrev f_rank (K : PySem.W.Frag) : Addr := He.fAd K ("rank", none)
abbrev fd_rank (K : PySem.W.Frag) : FuncData := fdO K ("rank", none)
theorem Txt.fn_rank (T : Txt K mg) : FnP K "rank" "rank" s_rank (f_rank K) (fd_rank K) := T.fun_ 8
theorem Txt.kp_rank (T : Txt K mg) : PySem.W.keepIn K (.ref (f_rank K)) = true := T.fn_rank.kp
theorem Txt.bd_rank (T : Txt K mg) : Binds K (fd_rank K) ["memory", "thread"] [] := T.fn_rank.bindsN fun _ _ _ _ _ _ us hl => match us, hl with | [_, _], _ => rfl
theorem Txt.glo_rank (T : Txt K mg) : mg "rank" = some (.ref (f_rank K)) := T.glo 0
theorem sc_rank : FnScope sc_rank_N ["memory", "thread"] (defScope s_rank) := ⟨rfl, rfl, rfl, by decide +kernel, rfl, by decide +kernel, by decide +kernel⟩
abbrev f_ready_place (K : PySem.W.Frag) : Addr := He.fAd K ("ready_place", none)
abbrev fd_ready_place (K : PySem.W.Frag) : FuncData := fdO K ("ready_place", none)
theorem Txt.fn_ready_place (T : Txt K mg) : FnP K "ready_place" "ready_place" s_ready_place (f_ready_place K) (fd_ready_place K) := T.fun_ 9
theorem Txt.kp_ready_place (T : Txt K mg) : PySem.W.keepIn K (.ref (f_ready_place K)) = true := T.fn_ready_place.kp
theorem Txt.bd_ready_place (T : Txt K mg) : Binds K (fd_ready_place K) ["memory", "thread"] [] := T.fn_ready_place.bindsN fun _ _ _ _ _ _ us hl => match us, hl with | [_, _], _ => rfl
theorem Txt.glo_ready_place (T : Txt K mg) : mg "ready_place" = some (.ref (f_ready_place K)) := T.glo 1
theorem sc_ready_place : FnScope sc_ready_place_N ["memory", "thread"] (defScope s_ready_place) := ⟨rfl, rfl, rfl, by decide +kernel, rfl, by decide +kernel, by decide +kernel⟩
abbrev f_push (K : PySem.W.Frag) : Addr := He.fAd K ("push", none)
abbrev fd_push (K : PySem.W.Frag) : FuncData := fdO K ("push", none)
theorem Txt.fn_push (T : Txt K mg) : FnP K "push" "push" s_push (f_push K) (fd_push K) := T.fun_ 10
theorem Txt.kp_push (T : Txt K mg) : PySem.W.keepIn K (.ref (f_push K)) = true := T.fn_push.kp
theorem Txt.bd_push (T : Txt K mg) : Binds K (fd_push K) ["memory", "place", "thread"] [] := T.fn_push.bindsN fun _ _ _ _ _ _ us hl => match us, hl with | [_, _, _], _ => rfl
theorem Txt.glo_push (T : Txt K mg) : mg "push" = some (.ref (f_push K)) := T.glo 2
theorem sc_push : FnScope sc_push_N ["memory", "place", "thread"] (defScope s_push) := ⟨rfl, rfl, rfl, by decide +kernel, rfl, by decide +kernel, by decide +kernel⟩
abbrev f_members (K : PySem.W.Frag) : Addr := He.fAd K ("members", none)
abbrev fd_members (K : PySem.W.Frag) : FuncData := fdO K ("members", none)
theorem Txt.fn_members (T : Txt K mg) : FnP K "members" "members" s_members (f_members K) (fd_members K) := T.fun_ 11
theorem Txt.kp_members (T : Txt K mg) : PySem.W.keepIn K (.ref (f_members K)) = true := T.fn_members.kp
theorem Txt.bd_members (T : Txt K mg) : Binds K (fd_members K) ["memory", "place"] [] := T.fn_members.bindsN fun _ _ _ _ _ _ us hl => match us, hl with | [_, _], _ => rfl
theorem Txt.glo_members (T : Txt K mg) : mg "members" = some (.ref (f_members K)) := T.glo 3
theorem sc_members : FnScope sc_members_N ["memory", "place"] (defScope s_members) := ⟨rfl, rfl, rfl, by decide +kernel, rfl, by decide +kernel, by decide +kernel⟩
abbrev f_kind_of (K : PySem.W.Frag) : Addr := He.fAd K ("kind_of", none)
abbrev fd_kind_of (K : PySem.W.Frag) : FuncData := fdO K ("kind_of", none)
theorem Txt.fn_kind_of (T : Txt K mg) : FnP K "kind_of" "kind_of" s_kind_of (f_kind_of K) (fd_kind_of K) := T.fun_ 12
theorem Txt.kp_kind_of (T : Txt K mg) : PySem.W.keepIn K (.ref (f_kind_of K)) = true := T.fn_kind_of.kp
theorem Txt.bd_kind_of (T : Txt K mg) : Binds K (fd_kind_of K) ["memory", "frame"] [] := T.fn_kind_of.bindsN fun _ _ _ _ _ _ us hl => match us, hl with | [_, _], _ => rfl
theorem Txt.glo_kind_of (T : Txt K mg) : mg "kind_of" = some (.ref (f_kind_of K)) := T.glo 4
theorem sc_kind_of : FnScope sc_kind_of_N ["memory", "frame"] (defScope s_kind_of) := ⟨rfl, rfl, rfl, by decide +kernel, rfl, by decide +kernel, by decide +kernel⟩
abbrev f_frames_of (K : PySem.W.Frag) : Addr := He.fAd K ("frames_of", none)
abbrev fd_frames_of (K : PySem.W.Frag) : FuncData := fdO K ("frames_of", none)
theorem Txt.fn_frames_of (T : Txt K mg) : FnP K "frames_of" "frames_of" s_frames_of (f_frames_of K) (fd_frames_of K) := T.fun_ 13
theorem Txt.kp_frames_of (T : Txt K mg) : PySem.W.keepIn K (.ref (f_frames_of K)) = true := T.fn_frames_of.kp
theorem Txt.bd_frames_of (T : Txt K mg) : Binds K (fd_frames_of K) ["memory", "kind"] [] := T.fn_frames_of.bindsN fun _ _ _ _ _ _ us hl => match us, hl with | [_, _], _ => rfl
theorem Txt.glo_frames_of (T : Txt K mg) : mg "frames_of" = some (.ref (f_frames_of K)) := T.glo 5
theorem sc_frames_of : FnScope sc_frames_of_N ["memory", "kind"] (defScope s_frames_of) := ⟨rfl, rfl, rfl, by decide +kernel, rfl, by decide +kernel, by decide +kernel⟩
abbrev f_cap_at (K : PySem.W.Frag) : Addr := He.fAd K ("cap_at", none)
abbrev fd_cap_at (K : PySem.W.Frag) : FuncData := fdO K ("cap_at", none)
theorem Txt.fn_cap_at (T : Txt K mg) : FnP K "cap_at" "cap_at" s_cap_at (f_cap_at K) (fd_cap_at K) := T.fun_ 14
theorem Txt.kp_cap_at (T : Txt K mg) : PySem.W.keepIn K (.ref (f_cap_at K)) = true := T.fn_cap_at.kp
theorem Txt.bd_cap_at (T : Txt K mg) : Binds K (fd_cap_at K) ["memory", "slot"] [] := T.fn_cap_at.bindsN fun _ _ _ _ _ _ us hl => match us, hl with | [_, _], _ => rfl
theorem Txt.glo_cap_at (T : Txt K mg) : mg "cap_at" = some (.ref (f_cap_at K)) := T.glo 6
theorem sc_cap_at : FnScope sc_cap_at_N ["memory", "slot"] (defScope s_cap_at) := ⟨rfl, rfl, rfl, by decide +kernel, rfl, by decide +kernel, by decide +kernel⟩
abbrev f_field (K : PySem.W.Frag) : Addr := He.fAd K ("field", none)
abbrev fd_field (K : PySem.W.Frag) : FuncData := fdO K ("field", none)
theorem Txt.fn_field (T : Txt K mg) : FnP K "field" "field" s_field (f_field K) (fd_field K) := T.fun_ 15
theorem Txt.kp_field (T : Txt K mg) : PySem.W.keepIn K (.ref (f_field K)) = true := T.fn_field.kp
theorem Txt.bd_field (T : Txt K mg) : Binds K (fd_field K) ["memory", "slot", "place"] [] := T.fn_field.bindsN fun _ _ _ _ _ _ us hl => match us, hl with | [_, _, _], _ => rfl
theorem Txt.glo_field (T : Txt K mg) : mg "field" = some (.ref (f_field K)) := T.glo 7
theorem sc_field : FnScope sc_field_N ["memory", "slot", "place"] (defScope s_field) := ⟨rfl, rfl, rfl, by decide +kernel, rfl, by decide +kernel, by decide +kernel⟩
abbrev f_put_field (K : PySem.W.Frag) : Addr := He.fAd K ("put_field", none)
abbrev fd_put_field (K : PySem.W.Frag) : FuncData := fdO K ("put_field", none)
theorem Txt.fn_put_field (T : Txt K mg) : FnP K "put_field" "put_field" s_put_field (f_put_field K) (fd_put_field K) := T.fun_ 16
theorem Txt.kp_put_field (T : Txt K mg) : PySem.W.keepIn K (.ref (f_put_field K)) = true := T.fn_put_field.kp
theorem Txt.bd_put_field (T : Txt K mg) : Binds K (fd_put_field K) ["memory", "slot", "place", "word"] [] := T.fn_put_field.bindsN fun _ _ _ _ _ _ us hl => match us, hl with | [_, _, _, _], _ => rfl
theorem Txt.glo_put_field (T : Txt K mg) : mg "put_field" = some (.ref (f_put_field K)) := T.glo 8
theorem sc_put_field : FnScope sc_put_field_N ["memory", "slot", "place", "word"] (defScope s_put_field) := ⟨rfl, rfl, rfl, by decide +kernel, rfl, by decide +kernel, by decide +kernel⟩
abbrev f_put_cap (K : PySem.W.Frag) : Addr := He.fAd K ("put_cap", none)
abbrev fd_put_cap (K : PySem.W.Frag) : FuncData := fdO K ("put_cap", none)
theorem Txt.fn_put_cap (T : Txt K mg) : FnP K "put_cap" "put_cap" s_put_cap (f_put_cap K) (fd_put_cap K) := T.fun_ 17
theorem Txt.kp_put_cap (T : Txt K mg) : PySem.W.keepIn K (.ref (f_put_cap K)) = true := T.fn_put_cap.kp
theorem Txt.bd_put_cap (T : Txt K mg) : Binds K (fd_put_cap K) ["memory", "slot", "cap", "parent", "size", "used"] [] := T.fn_put_cap.bindsN fun _ _ _ _ _ _ us hl => match us, hl with | [_, _, _, _, _, _], _ => rfl
theorem Txt.glo_put_cap (T : Txt K mg) : mg "put_cap" = some (.ref (f_put_cap K)) := T.glo 9
theorem sc_put_cap : FnScope sc_put_cap_N ["memory", "slot", "cap", "parent", "size", "used"] (defScope s_put_cap) := ⟨rfl, rfl, rfl, by decide +kernel, rfl, by decide +kernel, by decide +kernel⟩
abbrev f_slots_of (K : PySem.W.Frag) : Addr := He.fAd K ("slots_of", none)
abbrev fd_slots_of (K : PySem.W.Frag) : FuncData := fdO K ("slots_of", none)
theorem Txt.fn_slots_of (T : Txt K mg) : FnP K "slots_of" "slots_of" s_slots_of (f_slots_of K) (fd_slots_of K) := T.fun_ 18
theorem Txt.kp_slots_of (T : Txt K mg) : PySem.W.keepIn K (.ref (f_slots_of K)) = true := T.fn_slots_of.kp
theorem Txt.bd_slots_of (T : Txt K mg) : Binds K (fd_slots_of K) ["memory"] [] := T.fn_slots_of.bindsN fun _ _ _ _ _ _ us hl => match us, hl with | [_], _ => rfl
theorem Txt.glo_slots_of (T : Txt K mg) : mg "slots_of" = some (.ref (f_slots_of K)) := T.glo 10
theorem sc_slots_of : FnScope sc_slots_of_N ["memory"] (defScope s_slots_of) := ⟨rfl, rfl, rfl, by decide +kernel, rfl, by decide +kernel, by decide +kernel⟩
abbrev f_entry_at (K : PySem.W.Frag) : Addr := He.fAd K ("entry_at", none)
abbrev fd_entry_at (K : PySem.W.Frag) : FuncData := fdO K ("entry_at", none)
theorem Txt.fn_entry_at (T : Txt K mg) : FnP K "entry_at" "entry_at" s_entry_at (f_entry_at K) (fd_entry_at K) := T.fun_ 19
theorem Txt.kp_entry_at (T : Txt K mg) : PySem.W.keepIn K (.ref (f_entry_at K)) = true := T.fn_entry_at.kp
theorem Txt.bd_entry_at (T : Txt K mg) : Binds K (fd_entry_at K) ["memory", "frame", "page"] [] := T.fn_entry_at.bindsN fun _ _ _ _ _ _ us hl => match us, hl with | [_, _, _], _ => rfl
theorem Txt.glo_entry_at (T : Txt K mg) : mg "entry_at" = some (.ref (f_entry_at K)) := T.glo 11
theorem sc_entry_at : FnScope sc_entry_at_N ["memory", "frame", "page"] (defScope s_entry_at) := ⟨rfl, rfl, rfl, by decide +kernel, rfl, by decide +kernel, by decide +kernel⟩
abbrev f_entries_of (K : PySem.W.Frag) : Addr := He.fAd K ("entries_of", none)
abbrev fd_entries_of (K : PySem.W.Frag) : FuncData := fdO K ("entries_of", none)
theorem Txt.fn_entries_of (T : Txt K mg) : FnP K "entries_of" "entries_of" s_entries_of (f_entries_of K) (fd_entries_of K) := T.fun_ 20
theorem Txt.kp_entries_of (T : Txt K mg) : PySem.W.keepIn K (.ref (f_entries_of K)) = true := T.fn_entries_of.kp
theorem Txt.bd_entries_of (T : Txt K mg) : Binds K (fd_entries_of K) ["memory", "frame"] [] := T.fn_entries_of.bindsN fun _ _ _ _ _ _ us hl => match us, hl with | [_, _], _ => rfl
theorem Txt.glo_entries_of (T : Txt K mg) : mg "entries_of" = some (.ref (f_entries_of K)) := T.glo 12
theorem sc_entries_of : FnScope sc_entries_of_N ["memory", "frame"] (defScope s_entries_of) := ⟨rfl, rfl, rfl, by decide +kernel, rfl, by decide +kernel, by decide +kernel⟩
abbrev f_entry (K : PySem.W.Frag) : Addr := He.fAd K ("entry", none)
abbrev fd_entry (K : PySem.W.Frag) : FuncData := fdO K ("entry", none)
theorem Txt.fn_entry (T : Txt K mg) : FnP K "entry" "entry" s_entry (f_entry K) (fd_entry K) := T.fun_ 21
theorem Txt.kp_entry (T : Txt K mg) : PySem.W.keepIn K (.ref (f_entry K)) = true := T.fn_entry.kp
theorem Txt.bd_entry (T : Txt K mg) : Binds K (fd_entry K) ["memory", "table", "page"] [] := T.fn_entry.bindsN fun _ _ _ _ _ _ us hl => match us, hl with | [_, _, _], _ => rfl
theorem Txt.glo_entry (T : Txt K mg) : mg "entry" = some (.ref (f_entry K)) := T.glo 13
theorem sc_entry : FnScope sc_entry_N ["memory", "table", "page"] (defScope s_entry) := ⟨rfl, rfl, rfl, by decide +kernel, rfl, by decide +kernel, by decide +kernel⟩
abbrev f_put_entry (K : PySem.W.Frag) : Addr := He.fAd K ("put_entry", none)
abbrev fd_put_entry (K : PySem.W.Frag) : FuncData := fdO K ("put_entry", none)
theorem Txt.fn_put_entry (T : Txt K mg) : FnP K "put_entry" "put_entry" s_put_entry (f_put_entry K) (fd_put_entry K) := T.fun_ 22
theorem Txt.kp_put_entry (T : Txt K mg) : PySem.W.keepIn K (.ref (f_put_entry K)) = true := T.fn_put_entry.kp
theorem Txt.bd_put_entry (T : Txt K mg) : Binds K (fd_put_entry K) ["memory", "table", "page", "told"] [] := T.fn_put_entry.bindsN fun _ _ _ _ _ _ us hl => match us, hl with | [_, _, _, _], _ => rfl
theorem Txt.glo_put_entry (T : Txt K mg) : mg "put_entry" = some (.ref (f_put_entry K)) := T.glo 14
theorem sc_put_entry : FnScope sc_put_entry_N ["memory", "table", "page", "told"] (defScope s_put_entry) := ⟨rfl, rfl, rfl, by decide +kernel, rfl, by decide +kernel, by decide +kernel⟩
abbrev f_booted (K : PySem.W.Frag) : Addr := He.fAd K ("booted", none)
abbrev fd_booted (K : PySem.W.Frag) : FuncData := fdO K ("booted", none)
theorem Txt.fn_booted (T : Txt K mg) : FnP K "booted" "booted" s_booted (f_booted K) (fd_booted K) := T.fun_ 23
theorem Txt.kp_booted (T : Txt K mg) : PySem.W.keepIn K (.ref (f_booted K)) = true := T.fn_booted.kp
theorem Txt.bd_booted (T : Txt K mg) : Binds K (fd_booted K) ["plan", "parts", "links", "lines"] [] := T.fn_booted.bindsN fun _ _ _ _ _ _ us hl => match us, hl with | [_, _, _, _], _ => rfl
theorem Txt.glo_booted (T : Txt K mg) : mg "booted" = some (.ref (f_booted K)) := T.glo 15
theorem sc_booted : FnScope sc_booted_N ["plan", "parts", "links", "lines"] (defScope s_booted) := ⟨rfl, rfl, rfl, by decide +kernel, rfl, by decide +kernel, by decide +kernel⟩
abbrev f_begin_part (K : PySem.W.Frag) : Addr := He.fAd K ("begin_part", none)
abbrev fd_begin_part (K : PySem.W.Frag) : FuncData := fdO K ("begin_part", none)
theorem Txt.fn_begin_part (T : Txt K mg) : FnP K "begin_part" "begin_part" s_begin_part (f_begin_part K) (fd_begin_part K) := T.fun_ 24
theorem Txt.kp_begin_part (T : Txt K mg) : PySem.W.keepIn K (.ref (f_begin_part K)) = true := T.fn_begin_part.kp
theorem Txt.bd_begin_part (T : Txt K mg) : Binds K (fd_begin_part K) ["memory", "frame", "part"] [] := T.fn_begin_part.bindsN fun _ _ _ _ _ _ us hl => match us, hl with | [_, _, _], _ => rfl
theorem Txt.glo_begin_part (T : Txt K mg) : mg "begin_part" = some (.ref (f_begin_part K)) := T.glo 16
theorem sc_begin_part : FnScope sc_begin_part_N ["memory", "frame", "part"] (defScope s_begin_part) := ⟨rfl, rfl, rfl, by decide +kernel, rfl, by decide +kernel, by decide +kernel⟩
abbrev f_begin_link (K : PySem.W.Frag) : Addr := He.fAd K ("begin_link", none)
abbrev fd_begin_link (K : PySem.W.Frag) : FuncData := fdO K ("begin_link", none)
theorem Txt.fn_begin_link (T : Txt K mg) : FnP K "begin_link" "begin_link" s_begin_link (f_begin_link K) (fd_begin_link K) := T.fun_ 25
theorem Txt.kp_begin_link (T : Txt K mg) : PySem.W.keepIn K (.ref (f_begin_link K)) = true := T.fn_begin_link.kp
theorem Txt.bd_begin_link (T : Txt K mg) : Binds K (fd_begin_link K) ["memory", "frame", "link", "many"] [] := T.fn_begin_link.bindsN fun _ _ _ _ _ _ us hl => match us, hl with | [_, _, _, _], _ => rfl
theorem Txt.glo_begin_link (T : Txt K mg) : mg "begin_link" = some (.ref (f_begin_link K)) := T.glo 17
theorem sc_begin_link : FnScope sc_begin_link_N ["memory", "frame", "link", "many"] (defScope s_begin_link) := ⟨rfl, rfl, rfl, by decide +kernel, rfl, by decide +kernel, by decide +kernel⟩
abbrev f_domain_now (K : PySem.W.Frag) : Addr := He.fAd K ("domain_now", none)
abbrev fd_domain_now (K : PySem.W.Frag) : FuncData := fdO K ("domain_now", none)
theorem Txt.fn_domain_now (T : Txt K mg) : FnP K "domain_now" "domain_now" s_domain_now (f_domain_now K) (fd_domain_now K) := T.fun_ 26
theorem Txt.kp_domain_now (T : Txt K mg) : PySem.W.keepIn K (.ref (f_domain_now K)) = true := T.fn_domain_now.kp
theorem Txt.bd_domain_now (T : Txt K mg) : Binds K (fd_domain_now K) ["memory"] [] := T.fn_domain_now.bindsN fun _ _ _ _ _ _ us hl => match us, hl with | [_], _ => rfl
theorem Txt.glo_domain_now (T : Txt K mg) : mg "domain_now" = some (.ref (f_domain_now K)) := T.glo 18
theorem sc_domain_now : FnScope sc_domain_now_N ["memory"] (defScope s_domain_now) := ⟨rfl, rfl, rfl, by decide +kernel, rfl, by decide +kernel, by decide +kernel⟩
abbrev f_chosen (K : PySem.W.Frag) : Addr := He.fAd K ("chosen", none)
abbrev fd_chosen (K : PySem.W.Frag) : FuncData := fdO K ("chosen", none)
theorem Txt.fn_chosen (T : Txt K mg) : FnP K "chosen" "chosen" s_chosen (f_chosen K) (fd_chosen K) := T.fun_ 27
theorem Txt.kp_chosen (T : Txt K mg) : PySem.W.keepIn K (.ref (f_chosen K)) = true := T.fn_chosen.kp
theorem Txt.bd_chosen (T : Txt K mg) : Binds K (fd_chosen K) ["memory"] [] := T.fn_chosen.bindsN fun _ _ _ _ _ _ us hl => match us, hl with | [_], _ => rfl
theorem Txt.glo_chosen (T : Txt K mg) : mg "chosen" = some (.ref (f_chosen K)) := T.glo 19
theorem sc_chosen : FnScope sc_chosen_N ["memory"] (defScope s_chosen) := ⟨rfl, rfl, rfl, by decide +kernel, rfl, by decide +kernel, by decide +kernel⟩
abbrev f_Machine_init (K : PySem.W.Frag) : Addr := He.fAd K ("Machine", some "__init__")
abbrev fd_Machine_init (K : PySem.W.Frag) : FuncData := fdO K ("Machine", some "__init__")
theorem Txt.fn_Machine_init (T : Txt K mg) : FnP K "__init__" "Machine.__init__" s_Machine_init (f_Machine_init K) (fd_Machine_init K) := T.fun_ 28
theorem Txt.kp_Machine_init (T : Txt K mg) : PySem.W.keepIn K (.ref (f_Machine_init K)) = true := T.fn_Machine_init.kp
theorem Txt.bd_Machine_init (T : Txt K mg) : Binds K (fd_Machine_init K) ["self", "memory", "most"] [] := T.fn_Machine_init.bindsN fun _ _ _ _ _ _ us hl => match us, hl with | [_, _, _], _ => rfl
theorem sc_Machine_init : FnScope sc_Machine_init_N ["self", "memory", "most"] (defScope s_Machine_init) := ⟨rfl, rfl, rfl, by decide +kernel, rfl, by decide +kernel, by decide +kernel⟩
abbrev f_Machine_memory (K : PySem.W.Frag) : Addr := He.fAd K ("Machine", some "memory")
abbrev fd_Machine_memory (K : PySem.W.Frag) : FuncData := fdO K ("Machine", some "memory")
theorem Txt.fn_Machine_memory (T : Txt K mg) : FnP K "memory" "Machine.memory" s_Machine_memory (f_Machine_memory K) (fd_Machine_memory K) := T.fun_ 29
theorem Txt.kp_Machine_memory (T : Txt K mg) : PySem.W.keepIn K (.ref (f_Machine_memory K)) = true := T.fn_Machine_memory.kp
theorem Txt.bd_Machine_memory (T : Txt K mg) : Binds K (fd_Machine_memory K) ["self"] [] := T.fn_Machine_memory.bindsN fun _ _ _ _ _ _ us hl => match us, hl with | [_], _ => rfl
theorem sc_Machine_memory : FnScope sc_Machine_memory_N ["self"] (defScope s_Machine_memory) := ⟨rfl, rfl, rfl, by decide +kernel, rfl, by decide +kernel, by decide +kernel⟩
abbrev f_from_image (K : PySem.W.Frag) : Addr := He.fAd K ("from_image", none)
abbrev fd_from_image (K : PySem.W.Frag) : FuncData := fdO K ("from_image", none)
theorem Txt.fn_from_image (T : Txt K mg) : FnP K "from_image" "from_image" s_from_image (f_from_image K) (fd_from_image K) := T.fun_ 30
theorem Txt.kp_from_image (T : Txt K mg) : PySem.W.keepIn K (.ref (f_from_image K)) = true := T.fn_from_image.kp
theorem Txt.bd_from_image (T : Txt K mg) : Binds K (fd_from_image K) ["words", "most"] [] := T.fn_from_image.bindsN fun _ _ _ _ _ _ us hl => match us, hl with | [_, _], _ => rfl
theorem Txt.glo_from_image (T : Txt K mg) : mg "from_image" = some (.ref (f_from_image K)) := T.glo 20
theorem sc_from_image : FnScope sc_from_image_N ["words", "most"] (defScope s_from_image) := ⟨rfl, rfl, rfl, by decide +kernel, rfl, by decide +kernel, by decide +kernel⟩
abbrev f_maybe (K : PySem.W.Frag) : Addr := He.fAd K ("maybe", none)
abbrev fd_maybe (K : PySem.W.Frag) : FuncData := fdO K ("maybe", none)
theorem Txt.fn_maybe (T : Txt K mg) : FnP K "maybe" "maybe" s_maybe (f_maybe K) (fd_maybe K) := T.fun_ 31
theorem Txt.kp_maybe (T : Txt K mg) : PySem.W.keepIn K (.ref (f_maybe K)) = true := T.fn_maybe.kp
theorem Txt.bd_maybe (T : Txt K mg) : Binds K (fd_maybe K) ["word"] [] := T.fn_maybe.bindsN fun _ _ _ _ _ _ us hl => match us, hl with | [_], _ => rfl
theorem Txt.glo_maybe (T : Txt K mg) : mg "maybe" = some (.ref (f_maybe K)) := T.glo 21
theorem sc_maybe : FnScope sc_maybe_N ["word"] (defScope s_maybe) := ⟨rfl, rfl, rfl, by decide +kernel, rfl, by decide +kernel, by decide +kernel⟩
abbrev f_thread_of (K : PySem.W.Frag) : Addr := He.fAd K ("thread_of", none)
abbrev fd_thread_of (K : PySem.W.Frag) : FuncData := fdO K ("thread_of", none)
theorem Txt.fn_thread_of (T : Txt K mg) : FnP K "thread_of" "thread_of" s_thread_of (f_thread_of K) (fd_thread_of K) := T.fun_ 32
theorem Txt.kp_thread_of (T : Txt K mg) : PySem.W.keepIn K (.ref (f_thread_of K)) = true := T.fn_thread_of.kp
theorem Txt.bd_thread_of (T : Txt K mg) : Binds K (fd_thread_of K) ["memory", "thread"] [] := T.fn_thread_of.bindsN fun _ _ _ _ _ _ us hl => match us, hl with | [_, _], _ => rfl
theorem Txt.glo_thread_of (T : Txt K mg) : mg "thread_of" = some (.ref (f_thread_of K)) := T.glo 22
theorem sc_thread_of : FnScope sc_thread_of_N ["memory", "thread"] (defScope s_thread_of) := ⟨rfl, rfl, rfl, by decide +kernel, rfl, by decide +kernel, by decide +kernel⟩
abbrev f_device_of (K : PySem.W.Frag) : Addr := He.fAd K ("device_of", none)
abbrev fd_device_of (K : PySem.W.Frag) : FuncData := fdO K ("device_of", none)
theorem Txt.fn_device_of (T : Txt K mg) : FnP K "device_of" "device_of" s_device_of (f_device_of K) (fd_device_of K) := T.fun_ 33
theorem Txt.kp_device_of (T : Txt K mg) : PySem.W.keepIn K (.ref (f_device_of K)) = true := T.fn_device_of.kp
theorem Txt.bd_device_of (T : Txt K mg) : Binds K (fd_device_of K) ["memory", "device"] [] := T.fn_device_of.bindsN fun _ _ _ _ _ _ us hl => match us, hl with | [_, _], _ => rfl
theorem Txt.glo_device_of (T : Txt K mg) : mg "device_of" = some (.ref (f_device_of K)) := T.glo 23
theorem sc_device_of : FnScope sc_device_of_N ["memory", "device"] (defScope s_device_of) := ⟨rfl, rfl, rfl, by decide +kernel, rfl, by decide +kernel, by decide +kernel⟩
abbrev f_rows_of (K : PySem.W.Frag) : Addr := He.fAd K ("rows_of", none)
abbrev fd_rows_of (K : PySem.W.Frag) : FuncData := fdO K ("rows_of", none)
theorem Txt.fn_rows_of (T : Txt K mg) : FnP K "rows_of" "rows_of" s_rows_of (f_rows_of K) (fd_rows_of K) := T.fun_ 34
theorem Txt.kp_rows_of (T : Txt K mg) : PySem.W.keepIn K (.ref (f_rows_of K)) = true := T.fn_rows_of.kp
theorem Txt.bd_rows_of (T : Txt K mg) : Binds K (fd_rows_of K) ["memory", "frame"] [] := T.fn_rows_of.bindsN fun _ _ _ _ _ _ us hl => match us, hl with | [_, _], _ => rfl
theorem Txt.glo_rows_of (T : Txt K mg) : mg "rows_of" = some (.ref (f_rows_of K)) := T.glo 24
theorem sc_rows_of : FnScope sc_rows_of_N ["memory", "frame"] (defScope s_rows_of) := ⟨rfl, rfl, rfl, by decide +kernel, rfl, by decide +kernel, by decide +kernel⟩
abbrev f_abstracted (K : PySem.W.Frag) : Addr := He.fAd K ("abstracted", none)
abbrev fd_abstracted (K : PySem.W.Frag) : FuncData := fdO K ("abstracted", none)
theorem Txt.fn_abstracted (T : Txt K mg) : FnP K "abstracted" "abstracted" s_abstracted (f_abstracted K) (fd_abstracted K) := T.fun_ 35
theorem Txt.kp_abstracted (T : Txt K mg) : PySem.W.keepIn K (.ref (f_abstracted K)) = true := T.fn_abstracted.kp
theorem Txt.bd_abstracted (T : Txt K mg) : Binds K (fd_abstracted K) ["memory"] [] := T.fn_abstracted.bindsN fun _ _ _ _ _ _ us hl => match us, hl with | [_], _ => rfl
theorem Txt.glo_abstracted (T : Txt K mg) : mg "abstracted" = some (.ref (f_abstracted K)) := T.glo 25
theorem sc_abstracted : FnScope sc_abstracted_N ["memory"] (defScope s_abstracted) := ⟨rfl, rfl, rfl, by decide +kernel, rfl, by decide +kernel, by decide +kernel⟩
abbrev f_check_memory (K : PySem.W.Frag) : Addr := He.fAd K ("check_memory", none)
abbrev fd_check_memory (K : PySem.W.Frag) : FuncData := fdO K ("check_memory", none)
theorem Txt.fn_check_memory (T : Txt K mg) : FnP K "check_memory" "check_memory" s_check_memory (f_check_memory K) (fd_check_memory K) := T.fun_ 36
theorem Txt.kp_check_memory (T : Txt K mg) : PySem.W.keepIn K (.ref (f_check_memory K)) = true := T.fn_check_memory.kp
theorem Txt.bd_check_memory (T : Txt K mg) : Binds K (fd_check_memory K) ["memory"] [] := T.fn_check_memory.bindsN fun _ _ _ _ _ _ us hl => match us, hl with | [_], _ => rfl
theorem Txt.glo_check_memory (T : Txt K mg) : mg "check_memory" = some (.ref (f_check_memory K)) := T.glo 26
theorem sc_check_memory : FnScope sc_check_memory_N ["memory"] (defScope s_check_memory) := ⟨rfl, rfl, rfl, by decide +kernel, rfl, by decide +kernel, by decide +kernel⟩
abbrev f_comes_from (K : PySem.W.Frag) : Addr := He.fAd K ("comes_from", none)
abbrev fd_comes_from (K : PySem.W.Frag) : FuncData := fdO K ("comes_from", none)
theorem Txt.fn_comes_from (T : Txt K mg) : FnP K "comes_from" "comes_from" s_comes_from (f_comes_from K) (fd_comes_from K) := T.fun_ 37
theorem Txt.kp_comes_from (T : Txt K mg) : PySem.W.keepIn K (.ref (f_comes_from K)) = true := T.fn_comes_from.kp
theorem Txt.bd_comes_from (T : Txt K mg) : Binds K (fd_comes_from K) ["cap", "parent"] [] := T.fn_comes_from.bindsN fun _ _ _ _ _ _ us hl => match us, hl with | [_, _], _ => rfl
theorem Txt.glo_comes_from (T : Txt K mg) : mg "comes_from" = some (.ref (f_comes_from K)) := T.glo 27
theorem sc_comes_from : FnScope sc_comes_from_N ["cap", "parent"] (defScope s_comes_from) := ⟨rfl, rfl, rfl, by decide +kernel, rfl, by decide +kernel, by decide +kernel⟩
abbrev f_check_queues (K : PySem.W.Frag) : Addr := He.fAd K ("check_queues", none)
abbrev fd_check_queues (K : PySem.W.Frag) : FuncData := fdO K ("check_queues", none)
theorem Txt.fn_check_queues (T : Txt K mg) : FnP K "check_queues" "check_queues" s_check_queues (f_check_queues K) (fd_check_queues K) := T.fun_ 38
theorem Txt.kp_check_queues (T : Txt K mg) : PySem.W.keepIn K (.ref (f_check_queues K)) = true := T.fn_check_queues.kp
theorem Txt.bd_check_queues (T : Txt K mg) : Binds K (fd_check_queues K) ["state"] [] := T.fn_check_queues.bindsN fun _ _ _ _ _ _ us hl => match us, hl with | [_], _ => rfl
theorem Txt.glo_check_queues (T : Txt K mg) : mg "check_queues" = some (.ref (f_check_queues K)) := T.glo 28
theorem sc_check_queues : FnScope sc_check_queues_N ["state"] (defScope s_check_queues) := ⟨rfl, rfl, rfl, by decide +kernel, rfl, by decide +kernel, by decide +kernel⟩
abbrev f_law_tape (K : PySem.W.Frag) : Addr := He.fAd K ("_law_tape", none)
abbrev fd_law_tape (K : PySem.W.Frag) : FuncData := fdO K ("_law_tape", none)
theorem Txt.fn_law_tape (T : Txt K mg) : FnP K "_law_tape" "_law_tape" s_law_tape (f_law_tape K) (fd_law_tape K) := T.fun_ 39
theorem Txt.kp_law_tape (T : Txt K mg) : PySem.W.keepIn K (.ref (f_law_tape K)) = true := T.fn_law_tape.kp
theorem Txt.bd_law_tape (T : Txt K mg) : Binds K (fd_law_tape K) ["script"] [] := T.fn_law_tape.bindsN fun _ _ _ _ _ _ us hl => match us, hl with | [_], _ => rfl
theorem Txt.glo_law_tape (T : Txt K mg) : mg "_law_tape" = some (.ref (f_law_tape K)) := T.glo 29
theorem sc_law_tape : FnScope sc_law_tape_N ["script"] (defScope s_law_tape) := ⟨rfl, rfl, rfl, by decide +kernel, rfl, by decide +kernel, by decide +kernel⟩
abbrev f_law_take (K : PySem.W.Frag) : Addr := He.fAd K ("_law_take", none)
abbrev fd_law_take (K : PySem.W.Frag) : FuncData := fdO K ("_law_take", none)
theorem Txt.fn_law_take (T : Txt K mg) : FnP K "_law_take" "_law_take" s_law_take (f_law_take K) (fd_law_take K) := T.fun_ 40
theorem Txt.kp_law_take (T : Txt K mg) : PySem.W.keepIn K (.ref (f_law_take K)) = true := T.fn_law_take.kp
theorem Txt.bd_law_take (T : Txt K mg) : Binds K (fd_law_take K) ["tape", "many"] [] := T.fn_law_take.bindsN fun _ _ _ _ _ _ us hl => match us, hl with | [_, _], _ => rfl
theorem Txt.glo_law_take (T : Txt K mg) : mg "_law_take" = some (.ref (f_law_take K)) := T.glo 30
theorem sc_law_take : FnScope sc_law_take_N ["tape", "many"] (defScope s_law_take) := ⟨rfl, rfl, rfl, by decide +kernel, rfl, by decide +kernel, by decide +kernel⟩
abbrev f_law_refused (K : PySem.W.Frag) : Addr := He.fAd K ("_law_refused", none)
abbrev fd_law_refused (K : PySem.W.Frag) : FuncData := fdO K ("_law_refused", none)
theorem Txt.fn_law_refused (T : Txt K mg) : FnP K "_law_refused" "_law_refused" s_law_refused (f_law_refused K) (fd_law_refused K) := T.fun_ 41
theorem Txt.kp_law_refused (T : Txt K mg) : PySem.W.keepIn K (.ref (f_law_refused K)) = true := T.fn_law_refused.kp
theorem Txt.bd_law_refused (T : Txt K mg) : Binds K (fd_law_refused K) ["call"] [] := T.fn_law_refused.bindsN fun _ _ _ _ _ _ us hl => match us, hl with | [_], _ => rfl
theorem Txt.glo_law_refused (T : Txt K mg) : mg "_law_refused" = some (.ref (f_law_refused K)) := T.glo 31
theorem sc_law_refused : FnScope sc_law_refused_N ["call"] (defScope s_law_refused) := ⟨rfl, rfl, rfl, by decide +kernel, rfl, by decide +kernel, by decide +kernel⟩
abbrev f_law_wrong (K : PySem.W.Frag) : Addr := He.fAd K ("_law_wrong", none)
abbrev fd_law_wrong (K : PySem.W.Frag) : FuncData := fdO K ("_law_wrong", none)
theorem Txt.fn_law_wrong (T : Txt K mg) : FnP K "_law_wrong" "_law_wrong" s_law_wrong (f_law_wrong K) (fd_law_wrong K) := T.fun_ 42
theorem Txt.kp_law_wrong (T : Txt K mg) : PySem.W.keepIn K (.ref (f_law_wrong K)) = true := T.fn_law_wrong.kp
theorem Txt.bd_law_wrong (T : Txt K mg) : Binds K (fd_law_wrong K) ["memory"] [] := T.fn_law_wrong.bindsN fun _ _ _ _ _ _ us hl => match us, hl with | [_], _ => rfl
theorem Txt.glo_law_wrong (T : Txt K mg) : mg "_law_wrong" = some (.ref (f_law_wrong K)) := T.glo 32
theorem sc_law_wrong : FnScope sc_law_wrong_N ["memory"] (defScope s_law_wrong) := ⟨rfl, rfl, rfl, by decide +kernel, rfl, by decide +kernel, by decide +kernel⟩
abbrev f_law_bent_right (K : PySem.W.Frag) : Addr := He.fAd K ("_law_bent_right", none)
abbrev fd_law_bent_right (K : PySem.W.Frag) : FuncData := fdO K ("_law_bent_right", none)
theorem Txt.fn_law_bent_right (T : Txt K mg) : FnP K "_law_bent_right" "_law_bent_right" s_law_bent_right (f_law_bent_right K) (fd_law_bent_right K) := T.fun_ 43
theorem Txt.kp_law_bent_right (T : Txt K mg) : PySem.W.keepIn K (.ref (f_law_bent_right K)) = true := T.fn_law_bent_right.kp
theorem Txt.bd_law_bent_right (T : Txt K mg) : Binds K (fd_law_bent_right K) ["memory", "plan", "parts"] [] := T.fn_law_bent_right.bindsN fun _ _ _ _ _ _ us hl => match us, hl with | [_, _, _], _ => rfl
theorem Txt.glo_law_bent_right (T : Txt K mg) : mg "_law_bent_right" = some (.ref (f_law_bent_right K)) := T.glo 33
theorem sc_law_bent_right : FnScope sc_law_bent_right_N ["memory", "plan", "parts"] (defScope s_law_bent_right) := ⟨rfl, rfl, rfl, by decide +kernel, rfl, by decide +kernel, by decide +kernel⟩
abbrev f_law (K : PySem.W.Frag) : Addr := He.fAd K ("law", none)
abbrev fd_law (K : PySem.W.Frag) : FuncData := fdO K ("law", none)
theorem Txt.fn_law (T : Txt K mg) : FnP K "law" "law" s_law (f_law K) (fd_law K) := T.fun_ 44
theorem Txt.kp_law (T : Txt K mg) : PySem.W.keepIn K (.ref (f_law K)) = true := T.fn_law.kp
theorem Txt.bd_law (T : Txt K mg) : Binds K (fd_law K) ["script"] [] := T.fn_law.bindsN fun _ _ _ _ _ _ us hl => match us, hl with | [_], _ => rfl
theorem Txt.glo_law (T : Txt K mg) : mg "law" = some (.ref (f_law K)) := T.glo 34
theorem sc_law : FnScope sc_law_N ["script"] (defScope s_law) := ⟨rfl, rfl, rfl, by decide +kernel, rfl, by decide +kernel, by decide +kernel⟩
theorem Txt.glo_InvalidBoot (T : Txt K mg) : mg "InvalidBoot" = some (.ref (He.ga K "InvalidBoot")) := T.glo 35
theorem Txt.glo_InvalidImage (T : Txt K mg) : mg "InvalidImage" = some (.ref (He.ga K "InvalidImage")) := T.glo 36
theorem Txt.glo_InvalidState (T : Txt K mg) : mg "InvalidState" = some (.ref (He.ga K "InvalidState")) := T.glo 37
theorem Txt.glo_Memory (T : Txt K mg) : mg "Memory" = some (.ref (He.ga K "Memory")) := T.glo 38
theorem Txt.cl_Memory (T : Txt K mg) : Cls K (He.ga K "Memory") := He.cls_ok (T.fact 39)
theorem Txt.mk_Memory (T : Txt K mg) : Mk K (He.ga K "Memory") (He.ma K (He.ga K "Memory") "__init__") := He.mkr_ok (T.fact 40)
theorem Txt.no_Memory_words (T : Txt K mg) : NoAttr K (He.ga K "Memory") "_words" := He.noat_ok (T.fact 41)
theorem Txt.no_Memory_disks (T : Txt K mg) : NoAttr K (He.ga K "Memory") "_disks" := He.noat_ok (T.fact 42)
theorem Txt.mt_Memory_word (T : Txt K mg) : Meth K (He.ga K "Memory") "word" (He.ma K (He.ga K "Memory") "word") := He.meth_ok (T.fact 43)
theorem Txt.mt_Memory_put (T : Txt K mg) : Meth K (He.ga K "Memory") "put" (He.ma K (He.ga K "Memory") "put") := He.meth_ok (T.fact 44)
theorem Txt.mt_Memory_clear (T : Txt K mg) : Meth K (He.ga K "Memory") "clear" (He.ma K (He.ga K "Memory") "clear") := He.meth_ok (T.fact 45)
theorem Txt.mt_Memory_frame (T : Txt K mg) : Meth K (He.ga K "Memory") "frame" (He.ma K (He.ga K "Memory") "frame") := He.meth_ok (T.fact 46)
theorem Txt.mt_Memory_words (T : Txt K mg) : Meth K (He.ga K "Memory") "words" (He.ma K (He.ga K "Memory") "words") := He.meth_ok (T.fact 47)
theorem Txt.mt_Memory_lay_disk (T : Txt K mg) : Meth K (He.ga K "Memory") "lay_disk" (He.ma K (He.ga K "Memory") "lay_disk") := He.meth_ok (T.fact 48)
theorem Txt.mt_Memory_disk (T : Txt K mg) : Meth K (He.ga K "Memory") "disk" (He.ma K (He.ga K "Memory") "disk") := He.meth_ok (T.fact 49)
theorem Txt.mt_Memory_laid (T : Txt K mg) : Meth K (He.ga K "Memory") "laid" (He.ma K (He.ga K "Memory") "laid") := He.meth_ok (T.fact 50)
theorem Txt.mt_Memory_put_sector (T : Txt K mg) : Meth K (He.ga K "Memory") "put_sector" (He.ma K (He.ga K "Memory") "put_sector") := He.meth_ok (T.fact 51)
theorem Txt.mt_Memory_load (T : Txt K mg) : Meth K (He.ga K "Memory") "load" (He.ma K (He.ga K "Memory") "load") := He.meth_ok (T.fact 52)
theorem Txt.glo_Machine (T : Txt K mg) : mg "Machine" = some (.ref (He.ga K "Machine")) := T.glo 53
theorem Txt.cl_Machine (T : Txt K mg) : Cls K (He.ga K "Machine") := He.cls_ok (T.fact 54)
theorem Txt.mk_Machine (T : Txt K mg) : Mk K (He.ga K "Machine") (He.ma K (He.ga K "Machine") "__init__") := He.mkr_ok (T.fact 55)
theorem Txt.no_Machine_memory (T : Txt K mg) : NoAttr K (He.ga K "Machine") "_memory" := He.noat_ok (T.fact 56)
theorem Txt.no_Machine_most (T : Txt K mg) : NoAttr K (He.ga K "Machine") "_most" := He.noat_ok (T.fact 57)
theorem Txt.no_Machine_kept (T : Txt K mg) : NoAttr K (He.ga K "Machine") "_kept" := He.noat_ok (T.fact 58)
theorem Txt.no_Machine_counts (T : Txt K mg) : NoAttr K (He.ga K "Machine") "_counts" := He.noat_ok (T.fact 59)
theorem Txt.mt_Machine_memory (T : Txt K mg) : Meth K (He.ga K "Machine") "memory" (He.ma K (He.ga K "Machine") "memory") := He.meth_ok (T.fact 60)
theorem Txt.mt_Machine_lookups (T : Txt K mg) : Meth K (He.ga K "Machine") "lookups" (He.ma K (He.ga K "Machine") "lookups") := He.meth_ok (T.fact 61)
theorem Txt.mt_Machine_counts (T : Txt K mg) : Meth K (He.ga K "Machine") "counts" (He.ma K (He.ga K "Machine") "counts") := He.meth_ok (T.fact 62)
theorem Txt.mt_Machine_entry (T : Txt K mg) : Meth K (He.ga K "Machine") "_entry" (He.ma K (He.ga K "Machine") "_entry") := He.meth_ok (T.fact 63)
theorem Txt.mt_Machine_place_of (T : Txt K mg) : Meth K (He.ga K "Machine") "place_of" (He.ma K (He.ga K "Machine") "place_of") := He.meth_ok (T.fact 64)
theorem Txt.mt_Machine_forget (T : Txt K mg) : Meth K (He.ga K "Machine") "forget" (He.ma K (He.ga K "Machine") "forget") := He.meth_ok (T.fact 65)
theorem Txt.mt_Machine_tick (T : Txt K mg) : Meth K (He.ga K "Machine") "tick" (He.ma K (He.ga K "Machine") "tick") := He.meth_ok (T.fact 66)
theorem Txt.mt_Machine_step (T : Txt K mg) : Meth K (He.ga K "Machine") "step" (He.ma K (He.ga K "Machine") "step") := He.meth_ok (T.fact 67)
theorem Txt.mt_Machine_run (T : Txt K mg) : Meth K (He.ga K "Machine") "run" (He.ma K (He.ga K "Machine") "run") := He.meth_ok (T.fact 68)
theorem Txt.mt_Machine_rise (T : Txt K mg) : Meth K (He.ga K "Machine") "rise" (He.ma K (He.ga K "Machine") "rise") := He.meth_ok (T.fact 69)
theorem Txt.mt_Machine_image (T : Txt K mg) : Meth K (He.ga K "Machine") "image" (He.ma K (He.ga K "Machine") "image") := He.meth_ok (T.fact 70)
theorem Txt.c_WORD (T : Txt K mg) : ∃ t, mg "WORD" = some (.int 65536 t) := T.int 71
theorem Txt.pg_WORD {X : Cx} {pos : Pos} (T : Txt X.K X.mg) (hg : Gl X "WORD" := by rfl) : PE X (.Name "WORD" pos) (tC (.int 65536)) := by
  obtain ⟨t, e⟩ := T.c_WORD
  exact pe_glob hg e ⟨t, rfl⟩
theorem Txt.c_FRAME (T : Txt K mg) : ∃ t, mg "FRAME" = some (.int 64 t) := T.int 72
theorem Txt.pg_FRAME {X : Cx} {pos : Pos} (T : Txt X.K X.mg) (hg : Gl X "FRAME" := by rfl) : PE X (.Name "FRAME" pos) (tC (.int 64)) := by
  obtain ⟨t, e⟩ := T.c_FRAME
  exact pe_glob hg e ⟨t, rfl⟩
theorem Txt.c_FRAMES (T : Txt K mg) : ∃ t, mg "FRAMES" = some (.int 32 t) := T.int 73
theorem Txt.pg_FRAMES {X : Cx} {pos : Pos} (T : Txt X.K X.mg) (hg : Gl X "FRAMES" := by rfl) : PE X (.Name "FRAMES" pos) (tC (.int 32)) := by
  obtain ⟨t, e⟩ := T.c_FRAMES
  exact pe_glob hg e ⟨t, rfl⟩
theorem Txt.c_SLOTS (T : Txt K mg) : ∃ t, mg "SLOTS" = some (.int 8 t) := T.int 74
theorem Txt.pg_SLOTS {X : Cx} {pos : Pos} (T : Txt X.K X.mg) (hg : Gl X "SLOTS" := by rfl) : PE X (.Name "SLOTS" pos) (tC (.int 8)) := by
  obtain ⟨t, e⟩ := T.c_SLOTS
  exact pe_glob hg e ⟨t, rfl⟩
theorem Txt.c_ENTRIES (T : Txt K mg) : ∃ t, mg "ENTRIES" = some (.int 8 t) := T.int 75
theorem Txt.pg_ENTRIES {X : Cx} {pos : Pos} (T : Txt X.K X.mg) (hg : Gl X "ENTRIES" := by rfl) : PE X (.Name "ENTRIES" pos) (tC (.int 8)) := by
  obtain ⟨t, e⟩ := T.c_ENTRIES
  exact pe_glob hg e ⟨t, rfl⟩
theorem Txt.c_PRIORITIES (T : Txt K mg) : ∃ t, mg "PRIORITIES" = some (.int 4 t) := T.int 76
theorem Txt.pg_PRIORITIES {X : Cx} {pos : Pos} (T : Txt X.K X.mg) (hg : Gl X "PRIORITIES" := by rfl) : PE X (.Name "PRIORITIES" pos) (tC (.int 4)) := by
  obtain ⟨t, e⟩ := T.c_PRIORITIES
  exact pe_glob hg e ⟨t, rfl⟩
theorem Txt.c_DOMAINS (T : Txt K mg) : ∃ t, mg "DOMAINS" = some (.int 2 t) := T.int 77
theorem Txt.pg_DOMAINS {X : Cx} {pos : Pos} (T : Txt X.K X.mg) (hg : Gl X "DOMAINS" := by rfl) : PE X (.Name "DOMAINS" pos) (tC (.int 2)) := by
  obtain ⟨t, e⟩ := T.c_DOMAINS
  exact pe_glob hg e ⟨t, rfl⟩
theorem Txt.c_LINES (T : Txt K mg) : ∃ t, mg "LINES" = some (.int 4 t) := T.int 78
theorem Txt.pg_LINES {X : Cx} {pos : Pos} (T : Txt X.K X.mg) (hg : Gl X "LINES" := by rfl) : PE X (.Name "LINES" pos) (tC (.int 4)) := by
  obtain ⟨t, e⟩ := T.c_LINES
  exact pe_glob hg e ⟨t, rfl⟩
theorem Txt.c_PARTS (T : Txt K mg) : ∃ t, mg "PARTS" = some (.int 4 t) := T.int 79
theorem Txt.pg_PARTS {X : Cx} {pos : Pos} (T : Txt X.K X.mg) (hg : Gl X "PARTS" := by rfl) : PE X (.Name "PARTS" pos) (tC (.int 4)) := by
  obtain ⟨t, e⟩ := T.c_PARTS
  exact pe_glob hg e ⟨t, rfl⟩
theorem Txt.c_FREE (T : Txt K mg) : ∃ t, mg "FREE" = some (.int 0 t) := T.int 80
theorem Txt.pg_FREE {X : Cx} {pos : Pos} (T : Txt X.K X.mg) (hg : Gl X "FREE" := by rfl) : PE X (.Name "FREE" pos) (tC (.int 0)) := by
  obtain ⟨t, e⟩ := T.c_FREE
  exact pe_glob hg e ⟨t, rfl⟩
theorem Txt.c_UNTYPED (T : Txt K mg) : ∃ t, mg "UNTYPED" = some (.int 1 t) := T.int 81
theorem Txt.pg_UNTYPED {X : Cx} {pos : Pos} (T : Txt X.K X.mg) (hg : Gl X "UNTYPED" := by rfl) : PE X (.Name "UNTYPED" pos) (tC (.int 1)) := by
  obtain ⟨t, e⟩ := T.c_UNTYPED
  exact pe_glob hg e ⟨t, rfl⟩
theorem Txt.c_PAGE (T : Txt K mg) : ∃ t, mg "PAGE" = some (.int 2 t) := T.int 82
theorem Txt.pg_PAGE {X : Cx} {pos : Pos} (T : Txt X.K X.mg) (hg : Gl X "PAGE" := by rfl) : PE X (.Name "PAGE" pos) (tC (.int 2)) := by
  obtain ⟨t, e⟩ := T.c_PAGE
  exact pe_glob hg e ⟨t, rfl⟩
theorem Txt.c_TABLE (T : Txt K mg) : ∃ t, mg "TABLE" = some (.int 3 t) := T.int 83
theorem Txt.pg_TABLE {X : Cx} {pos : Pos} (T : Txt X.K X.mg) (hg : Gl X "TABLE" := by rfl) : PE X (.Name "TABLE" pos) (tC (.int 3)) := by
  obtain ⟨t, e⟩ := T.c_TABLE
  exact pe_glob hg e ⟨t, rfl⟩
theorem Txt.c_CAPS (T : Txt K mg) : ∃ t, mg "CAPS" = some (.int 4 t) := T.int 84
theorem Txt.pg_CAPS {X : Cx} {pos : Pos} (T : Txt X.K X.mg) (hg : Gl X "CAPS" := by rfl) : PE X (.Name "CAPS" pos) (tC (.int 4)) := by
  obtain ⟨t, e⟩ := T.c_CAPS
  exact pe_glob hg e ⟨t, rfl⟩
theorem Txt.c_THREAD (T : Txt K mg) : ∃ t, mg "THREAD" = some (.int 5 t) := T.int 85
theorem Txt.pg_THREAD {X : Cx} {pos : Pos} (T : Txt X.K X.mg) (hg : Gl X "THREAD" := by rfl) : PE X (.Name "THREAD" pos) (tC (.int 5)) := by
  obtain ⟨t, e⟩ := T.c_THREAD
  exact pe_glob hg e ⟨t, rfl⟩
theorem Txt.c_END (T : Txt K mg) : ∃ t, mg "END" = some (.int 6 t) := T.int 86
theorem Txt.pg_END {X : Cx} {pos : Pos} (T : Txt X.K X.mg) (hg : Gl X "END" := by rfl) : PE X (.Name "END" pos) (tC (.int 6)) := by
  obtain ⟨t, e⟩ := T.c_END
  exact pe_glob hg e ⟨t, rfl⟩
theorem Txt.c_NOTICE (T : Txt K mg) : ∃ t, mg "NOTICE" = some (.int 7 t) := T.int 87
theorem Txt.pg_NOTICE {X : Cx} {pos : Pos} (T : Txt X.K X.mg) (hg : Gl X "NOTICE" := by rfl) : PE X (.Name "NOTICE" pos) (tC (.int 7)) := by
  obtain ⟨t, e⟩ := T.c_NOTICE
  exact pe_glob hg e ⟨t, rfl⟩
theorem Txt.c_DEVICE (T : Txt K mg) : ∃ t, mg "DEVICE" = some (.int 8 t) := T.int 88
theorem Txt.pg_DEVICE {X : Cx} {pos : Pos} (T : Txt X.K X.mg) (hg : Gl X "DEVICE" := by rfl) : PE X (.Name "DEVICE" pos) (tC (.int 8)) := by
  obtain ⟨t, e⟩ := T.c_DEVICE
  exact pe_glob hg e ⟨t, rfl⟩
theorem Txt.glo_KINDS (T : Txt K mg) : mg "KINDS" = some (.ref (He.ga K "KINDS")) := T.glo 89
theorem Txt.pg_KINDS {X : Cx} {pos : Pos} (T : Txt X.K X.mg) (hg : Gl X "KINDS" := by rfl) : PE X (.Name "KINDS" pos) (tC (.ref (He.ga X.K "KINDS"))) := pe_glob hg T.glo_KINDS rfl
theorem Txt.pgk_KINDS {X : Cx} {pos : Pos} (T : Txt K mg) (hK : X.K = K) (hm : X.mg = mg) (hg : Gl X "KINDS") : PE X (.Name "KINDS" pos) (tC (.ref (He.ga K "KINDS"))) := by
  subst hK hm
  exact pe_glob hg T.glo_KINDS rfl
abbrev v_KINDS : List V := [V.int 0, V.int 1, V.int 2, V.int 3, V.int 4, V.int 5, V.int 6, V.int 7, V.int 8]
theorem Txt.c_ALL (T : Txt K mg) : ∃ t, mg "ALL" = some (.int 7 t) := T.int 90
theorem Txt.pg_ALL {X : Cx} {pos : Pos} (T : Txt X.K X.mg) (hg : Gl X "ALL" := by rfl) : PE X (.Name "ALL" pos) (tC (.int 7)) := by
  obtain ⟨t, e⟩ := T.c_ALL
  exact pe_glob hg e ⟨t, rfl⟩
theorem Txt.c_READY (T : Txt K mg) : ∃ t, mg "READY" = some (.int 1 t) := T.int 91
theorem Txt.pg_READY {X : Cx} {pos : Pos} (T : Txt X.K X.mg) (hg : Gl X "READY" := by rfl) : PE X (.Name "READY" pos) (tC (.int 1)) := by
  obtain ⟨t, e⟩ := T.c_READY
  exact pe_glob hg e ⟨t, rfl⟩
theorem Txt.c_SENDING (T : Txt K mg) : ∃ t, mg "SENDING" = some (.int 2 t) := T.int 92
theorem Txt.pg_SENDING {X : Cx} {pos : Pos} (T : Txt X.K X.mg) (hg : Gl X "SENDING" := by rfl) : PE X (.Name "SENDING" pos) (tC (.int 2)) := by
  obtain ⟨t, e⟩ := T.c_SENDING
  exact pe_glob hg e ⟨t, rfl⟩
theorem Txt.c_RECEIVING (T : Txt K mg) : ∃ t, mg "RECEIVING" = some (.int 3 t) := T.int 93
theorem Txt.pg_RECEIVING {X : Cx} {pos : Pos} (T : Txt X.K X.mg) (hg : Gl X "RECEIVING" := by rfl) : PE X (.Name "RECEIVING" pos) (tC (.int 3)) := by
  obtain ⟨t, e⟩ := T.c_RECEIVING
  exact pe_glob hg e ⟨t, rfl⟩
theorem Txt.c_WAITING (T : Txt K mg) : ∃ t, mg "WAITING" = some (.int 4 t) := T.int 94
theorem Txt.pg_WAITING {X : Cx} {pos : Pos} (T : Txt X.K X.mg) (hg : Gl X "WAITING" := by rfl) : PE X (.Name "WAITING" pos) (tC (.int 4)) := by
  obtain ⟨t, e⟩ := T.c_WAITING
  exact pe_glob hg e ⟨t, rfl⟩
theorem Txt.c_CALLING (T : Txt K mg) : ∃ t, mg "CALLING" = some (.int 6 t) := T.int 95
theorem Txt.pg_CALLING {X : Cx} {pos : Pos} (T : Txt X.K X.mg) (hg : Gl X "CALLING" := by rfl) : PE X (.Name "CALLING" pos) (tC (.int 6)) := by
  obtain ⟨t, e⟩ := T.c_CALLING
  exact pe_glob hg e ⟨t, rfl⟩
theorem Txt.c_FAULTED (T : Txt K mg) : ∃ t, mg "FAULTED" = some (.int 7 t) := T.int 96
theorem Txt.pg_FAULTED {X : Cx} {pos : Pos} (T : Txt X.K X.mg) (hg : Gl X "FAULTED" := by rfl) : PE X (.Name "FAULTED" pos) (tC (.int 7)) := by
  obtain ⟨t, e⟩ := T.c_FAULTED
  exact pe_glob hg e ⟨t, rfl⟩
theorem Txt.glo_QUEUED (T : Txt K mg) : mg "QUEUED" = some (.ref (He.ga K "QUEUED")) := T.glo 97
theorem Txt.pg_QUEUED {X : Cx} {pos : Pos} (T : Txt X.K X.mg) (hg : Gl X "QUEUED" := by rfl) : PE X (.Name "QUEUED" pos) (tC (.ref (He.ga X.K "QUEUED"))) := pe_glob hg T.glo_QUEUED rfl
theorem Txt.pgk_QUEUED {X : Cx} {pos : Pos} (T : Txt K mg) (hK : X.K = K) (hm : X.mg = mg) (hg : Gl X "QUEUED") : PE X (.Name "QUEUED" pos) (tC (.ref (He.ga K "QUEUED"))) := by
  subst hK hm
  exact pe_glob hg T.glo_QUEUED rfl
abbrev v_QUEUED : List V := [V.int 2, V.int 3, V.int 4, V.int 6, V.int 7]
theorem Txt.c_KERNEL (T : Txt K mg) : ∃ t, mg "KERNEL" = some (.int 0 t) := T.int 98
theorem Txt.pg_KERNEL {X : Cx} {pos : Pos} (T : Txt X.K X.mg) (hg : Gl X "KERNEL" := by rfl) : PE X (.Name "KERNEL" pos) (tC (.int 0)) := by
  obtain ⟨t, e⟩ := T.c_KERNEL
  exact pe_glob hg e ⟨t, rfl⟩
theorem Txt.c_KIND_FRAME (T : Txt K mg) : ∃ t, mg "KIND_FRAME" = some (.int 1 t) := T.int 99
theorem Txt.pg_KIND_FRAME {X : Cx} {pos : Pos} (T : Txt X.K X.mg) (hg : Gl X "KIND_FRAME" := by rfl) : PE X (.Name "KIND_FRAME" pos) (tC (.int 1)) := by
  obtain ⟨t, e⟩ := T.c_KIND_FRAME
  exact pe_glob hg e ⟨t, rfl⟩
theorem Txt.c_T_STATE (T : Txt K mg) : ∃ t, mg "T_STATE" = some (.int 0 t) := T.int 100
theorem Txt.pg_T_STATE {X : Cx} {pos : Pos} (T : Txt X.K X.mg) (hg : Gl X "T_STATE" := by rfl) : PE X (.Name "T_STATE" pos) (tC (.int 0)) := by
  obtain ⟨t, e⟩ := T.c_T_STATE
  exact pe_glob hg e ⟨t, rfl⟩
theorem Txt.c_T_PC (T : Txt K mg) : ∃ t, mg "T_PC" = some (.int 1 t) := T.int 101
theorem Txt.pg_T_PC {X : Cx} {pos : Pos} (T : Txt X.K X.mg) (hg : Gl X "T_PC" := by rfl) : PE X (.Name "T_PC" pos) (tC (.int 1)) := by
  obtain ⟨t, e⟩ := T.c_T_PC
  exact pe_glob hg e ⟨t, rfl⟩
theorem Txt.c_T_REGISTERS (T : Txt K mg) : ∃ t, mg "T_REGISTERS" = some (.int 2 t) := T.int 102
theorem Txt.pg_T_REGISTERS {X : Cx} {pos : Pos} (T : Txt X.K X.mg) (hg : Gl X "T_REGISTERS" := by rfl) : PE X (.Name "T_REGISTERS" pos) (tC (.int 2)) := by
  obtain ⟨t, e⟩ := T.c_T_REGISTERS
  exact pe_glob hg e ⟨t, rfl⟩
theorem Txt.c_T_CAPS (T : Txt K mg) : ∃ t, mg "T_CAPS" = some (.int 10 t) := T.int 103
theorem Txt.pg_T_CAPS {X : Cx} {pos : Pos} (T : Txt X.K X.mg) (hg : Gl X "T_CAPS" := by rfl) : PE X (.Name "T_CAPS" pos) (tC (.int 10)) := by
  obtain ⟨t, e⟩ := T.c_T_CAPS
  exact pe_glob hg e ⟨t, rfl⟩
theorem Txt.c_T_TABLE (T : Txt K mg) : ∃ t, mg "T_TABLE" = some (.int 11 t) := T.int 104
theorem Txt.pg_T_TABLE {X : Cx} {pos : Pos} (T : Txt X.K X.mg) (hg : Gl X "T_TABLE" := by rfl) : PE X (.Name "T_TABLE" pos) (tC (.int 11)) := by
  obtain ⟨t, e⟩ := T.c_T_TABLE
  exact pe_glob hg e ⟨t, rfl⟩
theorem Txt.c_T_PRIORITY (T : Txt K mg) : ∃ t, mg "T_PRIORITY" = some (.int 12 t) := T.int 105
theorem Txt.pg_T_PRIORITY {X : Cx} {pos : Pos} (T : Txt X.K X.mg) (hg : Gl X "T_PRIORITY" := by rfl) : PE X (.Name "T_PRIORITY" pos) (tC (.int 12)) := by
  obtain ⟨t, e⟩ := T.c_T_PRIORITY
  exact pe_glob hg e ⟨t, rfl⟩
theorem Txt.c_T_BUDGET (T : Txt K mg) : ∃ t, mg "T_BUDGET" = some (.int 13 t) := T.int 106
theorem Txt.pg_T_BUDGET {X : Cx} {pos : Pos} (T : Txt X.K X.mg) (hg : Gl X "T_BUDGET" := by rfl) : PE X (.Name "T_BUDGET" pos) (tC (.int 13)) := by
  obtain ⟨t, e⟩ := T.c_T_BUDGET
  exact pe_glob hg e ⟨t, rfl⟩
theorem Txt.c_T_LEFT (T : Txt K mg) : ∃ t, mg "T_LEFT" = some (.int 14 t) := T.int 107
theorem Txt.pg_T_LEFT {X : Cx} {pos : Pos} (T : Txt X.K X.mg) (hg : Gl X "T_LEFT" := by rfl) : PE X (.Name "T_LEFT" pos) (tC (.int 14)) := by
  obtain ⟨t, e⟩ := T.c_T_LEFT
  exact pe_glob hg e ⟨t, rfl⟩
theorem Txt.c_T_NEXT (T : Txt K mg) : ∃ t, mg "T_NEXT" = some (.int 15 t) := T.int 108
theorem Txt.pg_T_NEXT {X : Cx} {pos : Pos} (T : Txt X.K X.mg) (hg : Gl X "T_NEXT" := by rfl) : PE X (.Name "T_NEXT" pos) (tC (.int 15)) := by
  obtain ⟨t, e⟩ := T.c_T_NEXT
  exact pe_glob hg e ⟨t, rfl⟩
theorem Txt.c_T_ON (T : Txt K mg) : ∃ t, mg "T_ON" = some (.int 16 t) := T.int 109
theorem Txt.pg_T_ON {X : Cx} {pos : Pos} (T : Txt X.K X.mg) (hg : Gl X "T_ON" := by rfl) : PE X (.Name "T_ON" pos) (tC (.int 16)) := by
  obtain ⟨t, e⟩ := T.c_T_ON
  exact pe_glob hg e ⟨t, rfl⟩
theorem Txt.c_T_BADGE (T : Txt K mg) : ∃ t, mg "T_BADGE" = some (.int 17 t) := T.int 110
theorem Txt.pg_T_BADGE {X : Cx} {pos : Pos} (T : Txt X.K X.mg) (hg : Gl X "T_BADGE" := by rfl) : PE X (.Name "T_BADGE" pos) (tC (.int 17)) := by
  obtain ⟨t, e⟩ := T.c_T_BADGE
  exact pe_glob hg e ⟨t, rfl⟩
theorem Txt.c_T_HANDLER (T : Txt K mg) : ∃ t, mg "T_HANDLER" = some (.int 18 t) := T.int 111
theorem Txt.pg_T_HANDLER {X : Cx} {pos : Pos} (T : Txt X.K X.mg) (hg : Gl X "T_HANDLER" := by rfl) : PE X (.Name "T_HANDLER" pos) (tC (.int 18)) := by
  obtain ⟨t, e⟩ := T.c_T_HANDLER
  exact pe_glob hg e ⟨t, rfl⟩
theorem Txt.c_T_CODE (T : Txt K mg) : ∃ t, mg "T_CODE" = some (.int 19 t) := T.int 112
theorem Txt.pg_T_CODE {X : Cx} {pos : Pos} (T : Txt X.K X.mg) (hg : Gl X "T_CODE" := by rfl) : PE X (.Name "T_CODE" pos) (tC (.int 19)) := by
  obtain ⟨t, e⟩ := T.c_T_CODE
  exact pe_glob hg e ⟨t, rfl⟩
theorem Txt.c_T_ADDRESS (T : Txt K mg) : ∃ t, mg "T_ADDRESS" = some (.int 20 t) := T.int 113
theorem Txt.pg_T_ADDRESS {X : Cx} {pos : Pos} (T : Txt X.K X.mg) (hg : Gl X "T_ADDRESS" := by rfl) : PE X (.Name "T_ADDRESS" pos) (tC (.int 20)) := by
  obtain ⟨t, e⟩ := T.c_T_ADDRESS
  exact pe_glob hg e ⟨t, rfl⟩
theorem Txt.c_T_REPLY (T : Txt K mg) : ∃ t, mg "T_REPLY" = some (.int 21 t) := T.int 114
theorem Txt.pg_T_REPLY {X : Cx} {pos : Pos} (T : Txt X.K X.mg) (hg : Gl X "T_REPLY" := by rfl) : PE X (.Name "T_REPLY" pos) (tC (.int 21)) := by
  obtain ⟨t, e⟩ := T.c_T_REPLY
  exact pe_glob hg e ⟨t, rfl⟩
theorem Txt.c_T_DOMAIN (T : Txt K mg) : ∃ t, mg "T_DOMAIN" = some (.int 22 t) := T.int 115
theorem Txt.pg_T_DOMAIN {X : Cx} {pos : Pos} (T : Txt X.K X.mg) (hg : Gl X "T_DOMAIN" := by rfl) : PE X (.Name "T_DOMAIN" pos) (tC (.int 22)) := by
  obtain ⟨t, e⟩ := T.c_T_DOMAIN
  exact pe_glob hg e ⟨t, rfl⟩
theorem Txt.c_T_RIGHTS (T : Txt K mg) : ∃ t, mg "T_RIGHTS" = some (.int 23 t) := T.int 116
theorem Txt.pg_T_RIGHTS {X : Cx} {pos : Pos} (T : Txt X.K X.mg) (hg : Gl X "T_RIGHTS" := by rfl) : PE X (.Name "T_RIGHTS" pos) (tC (.int 23)) := by
  obtain ⟨t, e⟩ := T.c_T_RIGHTS
  exact pe_glob hg e ⟨t, rfl⟩
theorem Txt.c_T_LENT (T : Txt K mg) : ∃ t, mg "T_LENT" = some (.int 24 t) := T.int 117
theorem Txt.pg_T_LENT {X : Cx} {pos : Pos} (T : Txt X.K X.mg) (hg : Gl X "T_LENT" := by rfl) : PE X (.Name "T_LENT" pos) (tC (.int 24)) := by
  obtain ⟨t, e⟩ := T.c_T_LENT
  exact pe_glob hg e ⟨t, rfl⟩
theorem Txt.c_D_STATUS (T : Txt K mg) : ∃ t, mg "D_STATUS" = some (.int 0 t) := T.int 118
theorem Txt.pg_D_STATUS {X : Cx} {pos : Pos} (T : Txt X.K X.mg) (hg : Gl X "D_STATUS" := by rfl) : PE X (.Name "D_STATUS" pos) (tC (.int 0)) := by
  obtain ⟨t, e⟩ := T.c_D_STATUS
  exact pe_glob hg e ⟨t, rfl⟩
theorem Txt.c_D_ORDER (T : Txt K mg) : ∃ t, mg "D_ORDER" = some (.int 1 t) := T.int 119
theorem Txt.pg_D_ORDER {X : Cx} {pos : Pos} (T : Txt X.K X.mg) (hg : Gl X "D_ORDER" := by rfl) : PE X (.Name "D_ORDER" pos) (tC (.int 1)) := by
  obtain ⟨t, e⟩ := T.c_D_ORDER
  exact pe_glob hg e ⟨t, rfl⟩
theorem Txt.c_D_SECTOR (T : Txt K mg) : ∃ t, mg "D_SECTOR" = some (.int 2 t) := T.int 120
theorem Txt.pg_D_SECTOR {X : Cx} {pos : Pos} (T : Txt X.K X.mg) (hg : Gl X "D_SECTOR" := by rfl) : PE X (.Name "D_SECTOR" pos) (tC (.int 2)) := by
  obtain ⟨t, e⟩ := T.c_D_SECTOR
  exact pe_glob hg e ⟨t, rfl⟩
theorem Txt.c_D_PAGE (T : Txt K mg) : ∃ t, mg "D_PAGE" = some (.int 3 t) := T.int 121
theorem Txt.pg_D_PAGE {X : Cx} {pos : Pos} (T : Txt X.K X.mg) (hg : Gl X "D_PAGE" := by rfl) : PE X (.Name "D_PAGE" pos) (tC (.int 3)) := by
  obtain ⟨t, e⟩ := T.c_D_PAGE
  exact pe_glob hg e ⟨t, rfl⟩
theorem Txt.c_D_LEFT (T : Txt K mg) : ∃ t, mg "D_LEFT" = some (.int 4 t) := T.int 122
theorem Txt.pg_D_LEFT {X : Cx} {pos : Pos} (T : Txt X.K X.mg) (hg : Gl X "D_LEFT" := by rfl) : PE X (.Name "D_LEFT" pos) (tC (.int 4)) := by
  obtain ⟨t, e⟩ := T.c_D_LEFT
  exact pe_glob hg e ⟨t, rfl⟩
theorem Txt.c_D_LINE (T : Txt K mg) : ∃ t, mg "D_LINE" = some (.int 5 t) := T.int 123
theorem Txt.pg_D_LINE {X : Cx} {pos : Pos} (T : Txt X.K X.mg) (hg : Gl X "D_LINE" := by rfl) : PE X (.Name "D_LINE" pos) (tC (.int 5)) := by
  obtain ⟨t, e⟩ := T.c_D_LINE
  exact pe_glob hg e ⟨t, rfl⟩
theorem Txt.c_GUARDED (T : Txt K mg) : ∃ t, mg "GUARDED" = some (.int 4 t) := T.int 124
theorem Txt.pg_GUARDED {X : Cx} {pos : Pos} (T : Txt X.K X.mg) (hg : Gl X "GUARDED" := by rfl) : PE X (.Name "GUARDED" pos) (tC (.int 4)) := by
  obtain ⟨t, e⟩ := T.c_GUARDED
  exact pe_glob hg e ⟨t, rfl⟩
theorem Txt.c_K_TIME (T : Txt K mg) : ∃ t, mg "K_TIME" = some (.int 0 t) := T.int 125
theorem Txt.pg_K_TIME {X : Cx} {pos : Pos} (T : Txt X.K X.mg) (hg : Gl X "K_TIME" := by rfl) : PE X (.Name "K_TIME" pos) (tC (.int 0)) := by
  obtain ⟨t, e⟩ := T.c_K_TIME
  exact pe_glob hg e ⟨t, rfl⟩
theorem Txt.c_K_PART (T : Txt K mg) : ∃ t, mg "K_PART" = some (.int 1 t) := T.int 126
theorem Txt.pg_K_PART {X : Cx} {pos : Pos} (T : Txt X.K X.mg) (hg : Gl X "K_PART" := by rfl) : PE X (.Name "K_PART" pos) (tC (.int 1)) := by
  obtain ⟨t, e⟩ := T.c_K_PART
  exact pe_glob hg e ⟨t, rfl⟩
theorem Txt.c_K_LEFT (T : Txt K mg) : ∃ t, mg "K_LEFT" = some (.int 2 t) := T.int 127
theorem Txt.pg_K_LEFT {X : Cx} {pos : Pos} (T : Txt X.K X.mg) (hg : Gl X "K_LEFT" := by rfl) : PE X (.Name "K_LEFT" pos) (tC (.int 2)) := by
  obtain ⟨t, e⟩ := T.c_K_LEFT
  exact pe_glob hg e ⟨t, rfl⟩
theorem Txt.c_K_HEADS (T : Txt K mg) : ∃ t, mg "K_HEADS" = some (.int 4 t) := T.int 128
theorem Txt.pg_K_HEADS {X : Cx} {pos : Pos} (T : Txt X.K X.mg) (hg : Gl X "K_HEADS" := by rfl) : PE X (.Name "K_HEADS" pos) (tC (.int 4)) := by
  obtain ⟨t, e⟩ := T.c_K_HEADS
  exact pe_glob hg e ⟨t, rfl⟩
theorem Txt.c_K_TAILS (T : Txt K mg) : ∃ t, mg "K_TAILS" = some (.int 12 t) := T.int 129
theorem Txt.pg_K_TAILS {X : Cx} {pos : Pos} (T : Txt X.K X.mg) (hg : Gl X "K_TAILS" := by rfl) : PE X (.Name "K_TAILS" pos) (tC (.int 12)) := by
  obtain ⟨t, e⟩ := T.c_K_TAILS
  exact pe_glob hg e ⟨t, rfl⟩
theorem Txt.c_K_LINES (T : Txt K mg) : ∃ t, mg "K_LINES" = some (.int 20 t) := T.int 130
theorem Txt.pg_K_LINES {X : Cx} {pos : Pos} (T : Txt X.K X.mg) (hg : Gl X "K_LINES" := by rfl) : PE X (.Name "K_LINES" pos) (tC (.int 20)) := by
  obtain ⟨t, e⟩ := T.c_K_LINES
  exact pe_glob hg e ⟨t, rfl⟩
theorem Txt.c_K_PLAN (T : Txt K mg) : ∃ t, mg "K_PLAN" = some (.int 24 t) := T.int 131
theorem Txt.pg_K_PLAN {X : Cx} {pos : Pos} (T : Txt X.K X.mg) (hg : Gl X "K_PLAN" := by rfl) : PE X (.Name "K_PLAN" pos) (tC (.int 24)) := by
  obtain ⟨t, e⟩ := T.c_K_PLAN
  exact pe_glob hg e ⟨t, rfl⟩
theorem Txt.c_EACH (T : Txt K mg) : ∃ t, mg "EACH" = some (.int 5 t) := T.int 132
theorem Txt.pg_EACH {X : Cx} {pos : Pos} (T : Txt X.K X.mg) (hg : Gl X "EACH" := by rfl) : PE X (.Name "EACH" pos) (tC (.int 5)) := by
  obtain ⟨t, e⟩ := T.c_EACH
  exact pe_glob hg e ⟨t, rfl⟩
theorem Txt.exc_InvalidBoot (T : Txt K mg) : PySem.W.excIn K (He.ga K "InvalidBoot") He.veBase "ValueError.__new__" = true ∧ PySem.W.keepIn K (.ref (He.ga K "InvalidBoot")) = true ∧ PySem.W.subIn K (.ref (He.ga K "InvalidBoot")) (.type "BaseException") = some true ∧ PySem.W.typeIn K (.ref (He.ga K "InvalidBoot")) = some (.type "type") := He.exc_ok (T.fact 148)
theorem Txt.raises_InvalidBoot {X : Cx} (T : Txt X.K X.mg) : Raises X (.ref (He.ga X.K "InvalidBoot")) := raises_own T.exc_InvalidBoot.2.2.1 T.exc_InvalidBoot.2.2.2
theorem Txt.exm_InvalidBoot (T : Txt K mg) : PySem.W.exmOne K (.ref (He.ga K "InvalidBoot")) (.ref (He.ga K "InvalidBoot")) = some true := of_decide_eq_true (T.exi 2 rfl)
theorem Txt.exc_InvalidState (T : Txt K mg) : PySem.W.excIn K (He.ga K "InvalidState") He.veBase "ValueError.__new__" = true ∧ PySem.W.keepIn K (.ref (He.ga K "InvalidState")) = true ∧ PySem.W.subIn K (.ref (He.ga K "InvalidState")) (.type "BaseException") = some true ∧ PySem.W.typeIn K (.ref (He.ga K "InvalidState")) = some (.type "type") := He.exc_ok (T.fact 149)
theorem Txt.raises_InvalidState {X : Cx} (T : Txt X.K X.mg) : Raises X (.ref (He.ga X.K "InvalidState")) := raises_own T.exc_InvalidState.2.2.1 T.exc_InvalidState.2.2.2
theorem Txt.exm_InvalidState (T : Txt K mg) : PySem.W.exmOne K (.ref (He.ga K "InvalidState")) (.ref (He.ga K "InvalidState")) = some true := of_decide_eq_true (T.exi 3 rfl)
theorem Txt.exc_InvalidImage (T : Txt K mg) : PySem.W.excIn K (He.ga K "InvalidImage") He.veBase "ValueError.__new__" = true ∧ PySem.W.keepIn K (.ref (He.ga K "InvalidImage")) = true ∧ PySem.W.subIn K (.ref (He.ga K "InvalidImage")) (.type "BaseException") = some true ∧ PySem.W.typeIn K (.ref (He.ga K "InvalidImage")) = some (.type "type") := He.exc_ok (T.fact 150)
theorem Txt.raises_InvalidImage {X : Cx} (T : Txt X.K X.mg) : Raises X (.ref (He.ga X.K "InvalidImage")) := raises_own T.exc_InvalidImage.2.2.1 T.exc_InvalidImage.2.2.2
theorem Txt.exm_InvalidImage (T : Txt K mg) : PySem.W.exmOne K (.ref (He.ga K "InvalidImage")) (.ref (He.ga K "InvalidImage")) = some true := of_decide_eq_true (T.exi 4 rfl)
theorem tyv_of {K : PySem.W.Frag} {x : Str} (h : (match K.lookup (He.ga K x) with | some o => o.dict.isNone && decide (o.cls = .type "tuple") | none => false) = true) (H : Hp) : tyV K "tuple" (.ref (He.ga K x)) H := by
  cases e : K.lookup (He.ga K x) with
  | none => rw [e] at h; cases h
  | some o =>
    rw [e] at h
    obtain ⟨h1, h2⟩ := He.ba h
    exact Or.inr (Or.inl ⟨rfl, o, e, of_decide_eq_true h2, Option.isNone_iff_eq_none.mp h1⟩)
theorem Txt.tup_KINDS (T : Txt K mg) (H : Hp) : SqT K H (He.ga K "KINDS") v_KINDS := He.tupB_ok (He.ba (T.exi 0 rfl : tupB2 K "KINDS" _ = true)).1 H
theorem Txt.ty_KINDS (T : Txt K mg) (H : Hp) : tyV K "tuple" (.ref (He.ga K "KINDS")) H := tyv_of (He.ba (T.exi 0 rfl : tupB2 K "KINDS" _ = true)).2 H
theorem Txt.tup_QUEUED (T : Txt K mg) (H : Hp) : SqT K H (He.ga K "QUEUED") v_QUEUED := He.tupB_ok (He.ba (T.exi 1 rfl : tupB2 K "QUEUED" _ = true)).1 H
theorem Txt.ty_QUEUED (T : Txt K mg) (H : Hp) : tyV K "tuple" (.ref (He.ga K "QUEUED")) H := tyv_of (He.ba (T.exi 1 rfl : tupB2 K "QUEUED" _ = true)).2 H
theorem Txt.free_abs (T : Txt K mg) : mg "abs" = none := T.free_at 133 rfl
theorem Txt.free_all (T : Txt K mg) : mg "all" = none := T.free_at 134 rfl
theorem Txt.free_any (T : Txt K mg) : mg "any" = none := T.free_at 135 rfl
theorem Txt.free_enumerate (T : Txt K mg) : mg "enumerate" = none := T.free_at 136 rfl
theorem Txt.free_int (T : Txt K mg) : mg "int" = none := T.free_at 137 rfl
theorem Txt.free_len (T : Txt K mg) : mg "len" = none := T.free_at 138 rfl
theorem Txt.free_list (T : Txt K mg) : mg "list" = none := T.free_at 139 rfl
theorem Txt.free_max (T : Txt K mg) : mg "max" = none := T.free_at 140 rfl
theorem Txt.free_min (T : Txt K mg) : mg "min" = none := T.free_at 141 rfl
theorem Txt.free_range (T : Txt K mg) : mg "range" = none := T.free_at 142 rfl
theorem Txt.free_sorted (T : Txt K mg) : mg "sorted" = none := T.free_at 143 rfl
theorem Txt.free_str (T : Txt K mg) : mg "str" = none := T.free_at 144 rfl
theorem Txt.free_sum (T : Txt K mg) : mg "sum" = none := T.free_at 145 rfl
theorem Txt.free_tuple (T : Txt K mg) : mg "tuple" = none := T.free_at 146 rfl
theorem Txt.free_zip (T : Txt K mg) : mg "zip" = none := T.free_at 147 rfl
end
/-! ### rules whose readings name the pieces' facts, for places within a comprehension or a try: there K must be said -/
section
variable {X : Cx} {K : PySem.W.Frag}
abbrev rLenK (K : PySem.W.Frag) : List V → Hp → VK → Prop := fun xs H Q => ∃ x n, xs = [x] ∧ LenV K x H n ∧ Q (.int n) H
abbrev rJoinK (K : PySem.W.Frag) : V → List V → Hp → VK → Prop := fun x xs H Q => ∃ a p, ∃ ys : List Str, x = .str a ∧ xs = [.ref p] ∧ (SqL K H p (ys.map V.str) ∨ SqT K H p (ys.map V.str)) ∧ (ys.map (·.length)).sum + ys.length * a.length ≤ 16777216 ∧ Q (.str (Txt.join a ys)) H
abbrev rTupK (K : PySem.W.Frag) : List V → Hp → VK → Prop := fun xs H Q => ∃ p ys, xs = [.ref p] ∧ ((SqL K H p ys ∧ ∀ l, H l = none → Q (.ref l) (upd H l (.tup ys))) ∨ (SqT K H p ys ∧ Q (.ref p) H))
theorem pe_joinK {o e : Expr} {to te : TE} {apos pos : Pos} (hK : X.K = K) (ho : PE X o to) (he : PE X e te) (hs : starEach [e] X.env = [(false, eval e X.env)] := by rfl) (hbase : attributeBase o "join" X.env (eval o X.env) = eval o X.env := by rfl) (hline : (apos.endLine == pos.line) = true := by rfl) :
    PE X (.Call (.Attribute o "join" apos) [e] [] pos) (tM1 (rJoinK K) to te) := by
  subst hK
  exact pe_join ho he hs hbase hline
theorem pi_listK {l tg : Expr} {tl : TE} (hK : X.K = K) (hl : PE X l tl) : PI X tg l (iList K tl) := by
  subst hK
  exact pi_list hl
theorem pi_tupK {l tg : Expr} {tl : TE} (hK : X.K = K) (hl : PE X l tl) : PI X tg l (iTup K tl) := by
  subst hK
  exact pi_tup hl
end

end KA

namespace KA
open PySem PySem.Spec PyProof.Rows L2
/-! ### the law's code object and its table, which is empty -/
def strB : Value → Bool
  | .str _ _ => true
  | _ => false
def intB : Value → Bool
  | .int _ _ => true
  | _ => false
def boolB : Value → Bool
  | .bool _ => true
  | _ => false
def clsB : Value → Bool
  | .type x => decide (x = "code")
  | _ => false
def tabB : Obj → Bool
  | ⟨.none, .none, .fields ps, sl⟩ => decide (ps.toList = []) && decide (sl.toList = [])
  | _ => false
def vsB (g : Addr → Option Obj) (c : Addr) (vs : Array Value) : Bool := match (vs[11]? : Option Value) with
  | some (.ref P) => strB (vs.getD 18 .none) && intB (vs.getD 7 .none) && boolB (vs.getD 9 .none) && intB (vs.getD 10 .none) && !decide (c = P) && (match g P with
    | some o => tabB o
    | none => false)
  | _ => false
def codeB (g : Addr → Option Obj) (K : PySem.W.Frag) : Bool := match (fdO K ("_law_bent_right", none)).code with
  | .ref c => (match g c with
    | some o => clsB o.cls && (match o.data with
      | .fields vs => vsB g c vs
      | _ => false)
    | none => false)
  | _ => false
theorem strB_ok {v : Value} (h : strB v = true) : ∃ x t, v = .str x t := by
  cases v with
  | str x t => exact ⟨x, t, rfl⟩
  | _ => cases h
theorem intB_ok {v : Value} (h : intB v = true) : ∃ x t, v = .int x t := by
  cases v with
  | int x t => exact ⟨x, t, rfl⟩
  | _ => cases h
theorem boolB_ok {v : Value} (h : boolB v = true) : ∃ x, v = .bool x := by
  cases v with
  | bool x => exact ⟨x, rfl⟩
  | _ => cases h
theorem clsB_ok {v : Value} (h : clsB v = true) : v = .type "code" := by
  cases v with
  | type x => exact congrArg Value.type (of_decide_eq_true h)
  | _ => cases h
theorem tabB_ok {o : Obj} (h : tabB o = true) : o = { cls := .none, data := .fields #[] } := by
  obtain ⟨c, d, dt, sl⟩ := o
  cases c with
  | none =>
    cases d with
    | none =>
      cases dt with
      | fields ps =>
        have h2 : (decide (ps.toList = []) && decide (sl.toList = [])) = true := h
        rw [Bool.and_eq_true] at h2
        have e1 : ps = #[] := Array.toList_eq_nil_iff.mp (of_decide_eq_true h2.1)
        have e2 : sl = #[] := Array.toList_eq_nil_iff.mp (of_decide_eq_true h2.2)
        rw [e1, e2]
      | _ => cases h
    | some _ => cases h
  | _ => cases h
theorem codeB_ok {h : Heap} {K : PySem.W.Frag} (e : codeB h.get? K = true) : ∃ c P, (fdO K ("_law_bent_right", none)).code = .ref c ∧ PySem.W.CodeHd h c P ∧ h.get? P = some { cls := .none, data := .fields #[] } := by
  unfold codeB at e
  split at e
  · rename_i c hc
    split at e
    · rename_i o ho
      rw [Bool.and_eq_true] at e
      obtain ⟨e1, e2⟩ := e
      split at e2
      · rename_i vs hvs
        unfold vsB at e2
        split at e2
        · rename_i P hP
          simp only [Bool.and_eq_true] at e2
          obtain ⟨⟨⟨⟨⟨a1, a2⟩, a3⟩, a4⟩, a5⟩, a6⟩ := e2
          split at a6
          · rename_i oP hoP
            obtain ⟨x1, t1, b1⟩ := strB_ok a1
            obtain ⟨x2, t2, b2⟩ := intB_ok a2
            obtain ⟨x3, b3⟩ := boolB_ok a3
            obtain ⟨x4, t4, b4⟩ := intB_ok a4
            have hne : c ≠ P := fun z => by
              rw [decide_eq_true z] at a5
              cases a5
            refine ⟨c, P, hc, ⟨o, vs, x1, t1, x2, t2, x3, x4, t4, ho, clsB_ok e1, hvs, hP, ?_, b1, b2, b3, b4, hne⟩, by rw [hoP, tabB_ok a6]⟩
            rw [Array.getD_eq_getD_getElem?, hP]
            rfl
          · cases a6
        · cases e2
      · cases e2
    · cases e
  · cases e
/-- the facts and the table -/
abbrev AlT : Type := AlY × Bool
def obsTb (n : (Addr → Option Obj) → List Addr) (fa : List He.Fa) (fn : List He.DefD) (cl : List CloD) (ex : PySem.W.Frag → List Bool) (g : Addr → Option Obj) : AlT := (obsY n fa fn cl ex g, codeB g (He.frG g (n g)))
def hookT (n : (Addr → Option Obj) → List Addr) (fa : List He.Fa) (fn : List He.DefD) (cl : List CloD) (ex : PySem.W.Frag → List Bool) : PySem.W.Hook where
  α := AlT
  obs := fun s => obsTb n fa fn cl ex s.heap.get?
  val := fun _ => (valY fn cl, true)
  says := fun _ h => ∃ K : PySem.W.Frag, K.In h ∧ obsK fa fn cl ex K = valY fn cl ∧ ∃ c P, (fdO K ("_law_bent_right", none)).code = .ref c ∧ PySem.W.CodeHd h c P ∧ h.get? P = some { cls := .none, data := .fields #[] }
  of := fun _ _ e => ⟨_, He.frG_in, congrArg (fun z : AlT => z.1) e, codeB_ok (congrArg (fun z : AlT => z.2) e)⟩
  keeps := fun _ _ _ ⟨K, hK, c, c1, P, e1, e2, e3⟩ k => ⟨K, PySem.W.Frag.In.keeps hK k, c, c1, P, e1, e2.keeps k, k _ _ e3⟩
theorem obsT_eq {n : (Addr → Option Obj) → List Addr} {fa : List He.Fa} {fn : List He.DefD} {cl : List CloD} {ex : PySem.W.Frag → List Bool} {g : Addr → Option Obj} {s : Shared} (h : ∀ a, g a = s.heap.get? a) : obsTb n fa fn cl ex g = (hookT n fa fn cl ex).obs s := by
  have e : g = s.heap.get? := funext h
  rw [e] <;> rfl
theorem noTab {K : PySem.W.Frag} {h : Heap} {P : Addr} (X : K.In h) (hn : PySem.W.noTabs K = true) (hP : h.get? P = some { cls := .none, data := .fields #[] }) : K.lookup P = none := by
  cases e : K.lookup P with
  | none => rfl
  | some o =>
    have h1 := X P o e
    rw [hP] at h1
    cases h1
    have h2 := List.all_eq_true.mp hn (P, _) (PySem.W.mem_of_lookupK e)
    exact absurd (show false = true from h2) Bool.false_ne_true
theorem noTabs_of {mg : Str → Option Value} {K : PySem.W.Frag} (T : Txt K mg) : PySem.W.noTabs K = true := T.more 5
end KA

set_option maxHeartbeats 0

namespace KA
open PySem PySem.Spec PyProof.Rows L2
abbrev R : PySem.W.OpenRow := PySem.W.OpenLaw.row PySem.Challenge.rw_keptapart_k10_begins_and_wrong_memories
def fNames0 : List Str := ["rank", "ready_place", "push", "members", "kind_of", "frames_of", "cap_at", "field", "put_field", "put_cap", "slots_of", "entry_at", "entries_of", "entry", "put_entry", "domain_now", "chosen", "booted", "begin_part", "begin_link", "from_image", "maybe", "thread_of", "device_of", "rows_of", "abstracted", "check_memory", "comes_from", "check_queues", "_law_tape"]
def fNames1 : List Str := ["_law_take", "_law_refused", "_law_wrong", "_law_bent_right", "law", "KINDS", "QUEUED", "CHANGING"]
def fNames : List Str := fNames0 ++ fNames1
def cNames : List Str := ["Memory", "Machine", "InvalidBoot", "InvalidState", "InvalidImage", "ApartError"]
abbrev hk : PySem.W.Hook := hookT (asN fNames cNames) fa fn cl exs
def ob (s : PySem.W.SharedT) : AlT := obsTb (asN fNames cNames) fa fn cl exs (HandSHeadRun.getT s)
theorem ob_eq (s : PySem.W.SharedT) : ob s = hk.obs s.abs := obsT_eq (HandSHeadRun.getT_eq s)
def names0 : List Str := ["_wall", "ApartError", "InvalidBoot", "InvalidImage", "InvalidState", "WORD", "FRAME", "FRAMES", "SLOTS", "ENTRIES", "PRIORITIES", "DOMAINS", "LINES", "PARTS", "FREE", "UNTYPED", "PAGE", "TABLE", "CAPS", "THREAD", "END", "NOTICE", "DEVICE", "KINDS", "ALL", "READY", "SENDING", "RECEIVING", "WAITING", "CALLING"]
def names1 : List Str := ["FAULTED", "QUEUED", "KERNEL", "KIND_FRAME", "T_STATE", "T_PC", "T_REGISTERS", "T_CAPS", "T_TABLE", "T_PRIORITY", "T_BUDGET", "T_LEFT", "T_NEXT", "T_ON", "T_BADGE", "T_HANDLER", "T_CODE", "T_ADDRESS", "T_REPLY", "T_DOMAIN", "T_RIGHTS", "T_LENT", "D_STATUS", "D_ORDER", "D_SECTOR", "D_PAGE", "D_LEFT", "D_LINE", "GUARDED", "K_TIME"]
def names2 : List Str := ["K_PART", "K_LEFT", "K_HEADS", "K_TAILS", "K_LINES", "K_PLAN", "Memory", "rank", "ready_place", "push", "members", "kind_of", "frames_of", "cap_at", "field", "put_field", "put_cap", "slots_of", "entry_at", "entries_of", "entry", "put_entry", "EACH", "booted", "begin_part", "begin_link", "domain_now", "chosen", "Machine", "from_image"]
def names3 : List Str := ["maybe", "thread_of", "device_of", "rows_of", "abstracted", "check_memory", "comes_from", "check_queues", "_law_tape", "_law_take", "_law_refused", "_law_wrong", "_law_bent_right"]
def names : List Str := names0 ++ names1 ++ names2 ++ names3
theorem runF (w : World) : HandSHeadRun.RunEq R (PySem.W.view R.prog [112]) hk ob 8000 names (w.withFollow "special-get-raises" false) := by
  intro os
  kernel_rfl
theorem runT (w : World) : HandSHeadRun.RunEq R (PySem.W.view R.prog [112]) hk ob 8000 names (w.withFollow "special-get-raises" true) := by
  intro os
  kernel_rfl
theorem run (w : World) : HandSHeadRun.RunEq R (PySem.W.view R.prog [112]) hk ob 8000 names w := PySem.W.byRow2 "special-get-raises" (P := fun w => HandSHeadRun.RunEq R (PySem.W.view R.prog [112]) hk ob 8000 names w) runF runT w
end KA


namespace KA
open PySem PySem.Spec PyProof.Rows L2 Evl TL
theorem et_yes {σ : L2.St} {H : Hp} : EvT (fun _ H Q => Q true H) σ H true := fun H1 _ _ q => q H1 (Ex.refl H1)
theorem ev_pure {sp : Sp} {dvs vs : List V} {E : XK} {ta : TA} {z : V} {σ : L2.St} {H : Hp} (h : EvA ta σ H vs) (hs : ∀ H1, Ex H H1 → ∀ Q : VK, (∀ H2, Ex H1 H2 → Q z H2) → sp (vs ++ dvs) H1 Q E) : Ev (tCall sp dvs E ta) σ H z := fun H1 e Q q =>
  h H1 e _ fun H2 e2 => hs H2 (e.trans e2) _ fun H3 e3 => q H3 (e2.trans e3)
section
variable {σ : L2.St} {H : Hp} {K : PySem.W.Frag} {D : Ends}
theorem q_parVV {i j : Nat} {ta tb : TE} {tz : TS} {v w : V} (ha : Ev ta σ H v) (hb : Ev tb σ H w) (k : ∀ H1, Ex H H1 → tz D ((σ.set i (some v)).set j (some w)) H1) :
    tSeq (tPar i j (tCons ta (tCons tb tNil))) tz D σ H := ha H (Ex.refl H) _ fun H1 e1 => hb H1 e1 _ fun H2 e2 => ⟨v, w, rfl, k H2 (e1.trans e2)⟩
theorem rv_isN {x : V} : RV (fun x y H Q => y = .non ∧ Q (.bl (decide (x = .non))) H) x .non H (.bl (decide (x = .non))) := fun H1 _ _ q => ⟨rfl, q H1 (Ex.refl H1)⟩
theorem rv_notN {x : V} : RV (fun x y H Q => y = .non ∧ Q (.bl (!decide (x = .non))) H) x .non H (.bl (!decide (x = .non))) := fun H1 _ _ q => ⟨rfl, q H1 (Ex.refl H1)⟩
theorem ev_div {ta tb : TE} {i j : Int} (ha : Ev ta σ H (.int i)) (hb : Ev tb σ H (.int j)) (h : 0 < j ∧ j < 1073741824) : Ev (tOp (rI CDiv fun i j => .int (i / j)) ta tb) σ H (.int (i / j)) := ev_op ha hb (rv_I h)
theorem ev_mod {ta tb : TE} {i j : Int} (ha : Ev ta σ H (.int i)) (hb : Ev tb σ H (.int j)) (h : 0 < j) : Ev (tOp (rI (fun _ j => 0 < j) fun i j => .int (i % j)) ta tb) σ H (.int (i % j)) := ev_op ha hb (rv_I h)
end
/-! ### the memory: a list of 2048 words -/
abbrev CM (K : PySem.W.Frag) : Addr := He.ga K "Memory"
abbrev Mem : Type := Nat → Int
def lW (μ : Mem) : List V := (List.range 2048).map fun i => V.int (μ i)
def mset (μ : Mem) (i : Nat) (w : Int) : Mem := fun j => if j = i then w % 65536 else μ j
theorem lW_len (μ : Mem) : (lW μ).length = 2048 := by simp [lW]
theorem lW_at {μ : Mem} {i : Nat} (h : i < 2048) : (lW μ)[i]? = some (.int (μ i)) := by
  unfold lW
  rw [List.getElem?_map, List.getElem?_range h]
  rfl
theorem lW_set {μ : Mem} {i : Nat} {w : Int} (h : i < 2048) : (lW μ).set i (.int (w % 65536)) = lW (mset μ i w) := by
  apply List.ext_getElem?
  intro j
  rw [List.getElem?_set]
  by_cases hj : j < 2048
  · rw [lW_at hj, lW_at hj, lW_len]
    unfold mset
    by_cases e : i = j
    · subst e
      simp [h]
    · rw [if_neg e, if_neg (Ne.symm e)]
  · have e1 : (lW μ)[j]? = none := List.getElem?_eq_none (by rw [lW_len]; omega)
    have e2 : (lW (mset μ i w))[j]? = none := List.getElem?_eq_none (by rw [lW_len]; omega)
    rw [e1, e2, if_neg (by omega)]
/-- all stands but the words -/
def Fr (wl : Addr) (H H' : Hp) : Prop := ∀ b o, H b = some o → b ≠ wl → H' b = some o
theorem Fr.of {wl : Addr} {H H' : Hp} (e : Ex H H') : Fr wl H H' := fun b o h _ => e b o h
theorem Fr.refl {wl : Addr} {H : Hp} : Fr wl H H := fun b o h _ => h
theorem Fr.trans {wl : Addr} {H H1 H2 : Hp} (a : Fr wl H H1) (b : Fr wl H1 H2) : Fr wl H H2 := fun c o h n => b c o (a c o h n) n
theorem Fr.put {wl : Addr} {H : Hp} {o : HO} : Fr wl H (L2.upd H wl o) := fun b u h n => by rw [upd_ne n]; exact h
structure MemAt (K : PySem.W.Frag) (H : Hp) (m wl : Addr) (μ : Mem) : Prop where
  ins : ∃ dx dd, H m = some (.ins (CM K) dx [("_words", .ref wl), ("_disks", .ref dd)]) ∧ ∃ kvs, H dd = some (.dK kvs)
  ws : H wl = some (.lst (lW μ))
section
variable {K : PySem.W.Frag} {H H' : Hp} {m wl : Addr} {μ : Mem}
theorem MemAt.ne (h : MemAt K H m wl μ) : m ≠ wl := by
  obtain ⟨⟨dx, dd, h1, h2⟩, h3⟩ := h
  exact ne_of h1 h3 (by intro z; cases z)
theorem MemAt.keep (h : MemAt K H m wl μ) (e : Ex H H') : MemAt K H' m wl μ := by
  obtain ⟨⟨dx, dd, h1, kvs, h2⟩, h3⟩ := h
  exact ⟨⟨dx, dd, e _ _ h1, kvs, e _ _ h2⟩, e _ _ h3⟩
/-- another list of words -/
theorem MemAt.upd (h : MemAt K H m wl μ) {μ' : Mem} : MemAt K (L2.upd H wl (.lst (lW μ'))) m wl μ' := by
  obtain ⟨⟨dx, dd, h1, kvs, h2⟩, h3⟩ := h
  have n1 : m ≠ wl := ne_of h1 h3 (by intro z; cases z)
  have n2 : dd ≠ wl := ne_of h2 h3 (by intro z; cases z)
  exact ⟨⟨dx, dd, by rw [upd_ne n1]; exact h1, kvs, by rw [upd_ne n2]; exact h2⟩, upd_same⟩
end
/-- the index of a word -/
def ix (f p : Int) : Nat := (f * 64 + p).toNat
abbrev InM (f p : Int) : Prop := 0 ≤ f * 64 + p ∧ f * 64 + p < 2048
section
variable {P : Program} {w : World} {K : PySem.W.Frag} {mg : Str → Option Value} {base : Heap}
def sp_word (K : PySem.W.Frag) : Sp := fun vs H Q _ => ∃ (m wl : Addr) (μ : Mem) (f p : Int), vs = [.ref m, .int f, .int p] ∧ MemAt K H m wl μ ∧ InM f p ∧ ∀ H', Ex H H' → Q (.int (μ (ix f p))) H'
theorem ok_Memory_word (T : Txt K mg) : FnOk P w K mg base CX0 1 (f_Memory_word K) (fd_Memory_word K) ["self", "frame", "place"] (sp_word K) := by
  refine T.fn_Memory_word.ok sc_Memory_word (fun vs H Q E h => ?_) (fun cdv A outer s H vs Q E hr h => ⟨_, PSs.nox (pss_one (ps_ret (pe_ix ix_list (pe_fld (pv 0) rfl) (pe_op op_add (pe_op op_mul (pv 1) (T.pg_FRAME)) (pv 2)) (fun _ _ => rfl)))), ?_⟩)
  · obtain ⟨_, _, _, _, _, rfl, _⟩ := h
    rfl
  · obtain ⟨m, wl, μ, f, p, rfl, hM, hI, k⟩ := h
    obtain ⟨dx, dd, h1, h2⟩ := hM.ins
    have e : f * 64 + p = ((ix f p : Nat) : Int) := by unfold ix; omega
    have hlt : ix f p < 2048 := by unfold ix; omega
    refine ⟨_, rfl, m, CM K, dx, _, .ref wl, rfl, h1, T.cl_Memory, T.no_Memory_words, rfl, ?_⟩
    refine ⟨_, rfl, _, _, rfl, rfl, .inr ⟨by decide, by decide⟩, _, rfl, _, _, rfl, rfl, ?_⟩
    refine ⟨wl, _, _, .int (μ (ix f p)), rfl, rfl, SqL.of hM.ws, ?_, k H (Ex.refl H)⟩
    rw [e]
    exact atI_nat (lW_at hlt)
def sp_put (K : PySem.W.Frag) : Sp := fun vs H Q _ => ∃ (m wl : Addr) (μ : Mem) (f p x : Int), vs = [.ref m, .int f, .int p, .int x] ∧ MemAt K H m wl μ ∧ InM f p ∧ ∀ H', MemAt K H' m wl (mset μ (ix f p) x) → Fr wl H H' → Q .non H'
theorem ok_Memory_put (T : Txt K mg) : FnOk P w K mg base CX0 1 (f_Memory_put K) (fd_Memory_put K) ["self", "frame", "place", "word"] (sp_put K) := by
  refine T.fn_Memory_put.ok sc_Memory_put (fun vs H Q E h => ?_) (fun cdv A outer s H vs Q E hr h => ⟨_, PSs.nox (pss_one (ps_asg (pe_op op_mod (pv 3) (T.pg_WORD)) (pg_sub (pe_fld (pv 0) rfl) (pe_op op_add (pe_op op_mul (pv 1) (T.pg_FRAME)) (pv 2)) set_list))), ?_⟩)
  · obtain ⟨_, _, _, _, _, _, rfl, _⟩ := h
    rfl
  · obtain ⟨m, wl, μ, f, p, x, rfl, hM, hI, k⟩ := h
    obtain ⟨dx, dd, h1, h2⟩ := hM.ins
    have e : f * 64 + p = ((ix f p : Nat) : Int) := by unfold ix; omega
    have hlt : ix f p < 2048 := by unfold ix; omega
    refine ⟨_, rfl, _, _, rfl, rfl, (by show (0 : Int) < 65536; decide), _, rfl, m, CM K, dx, _, .ref wl, rfl, h1, T.cl_Memory, T.no_Memory_words, rfl, ?_⟩
    refine ⟨_, rfl, _, _, rfl, rfl, .inr ⟨by decide, by decide⟩, _, rfl, _, _, rfl, rfl, ?_⟩
    refine ⟨wl, _, _, ix f p, rfl, rfl, hM.ws, ?_, ?_⟩
    · rw [e, lW_len]
      exact ixN_nat hlt
    · show Q .non (upd H wl (.lst ((lW μ).set (ix f p) (.int (x % 65536)))))
      rw [lW_set hlt]
      exact k _ hM.upd Fr.put
end
end KA

namespace KA
open PySem PySem.Spec PyProof.Rows L2 Evl TL
section
variable {σ : L2.St} {H : Hp} {K : PySem.W.Frag} {D : Ends} {m wl : Addr} {μ : Mem} {tm tf tp tx : TE} {tz : TS} {f p x : Int}
theorem ev_word (hM : MemAt K H m wl μ) (hm : Ev tm σ H (.ref m)) (hf : Ev tf σ H (.int f)) (hp : Ev tp σ H (.int p)) (hI : InM f p) : Ev (tMeth (CM K) "word" (sp_word K) [] E0 tm (tCons tf (tCons tp tNil))) σ H (.int (μ (ix f p))) := fun H1 e Q q =>
  hm H1 e _ fun H2 e2 => by
    obtain ⟨dx, dd, h1, h2⟩ := (hM.keep (e.trans e2)).ins
    exact ⟨m, dx, _, rfl, h1, rfl, hf H2 (e.trans e2) _ fun H3 e3 => hp H3 ((e.trans e2).trans e3) _ fun H4 e4 => ⟨m, wl, μ, f, p, rfl, hM.keep (((e.trans e2).trans e3).trans e4), hI, fun H5 e5 => q H5 (((e2.trans e3).trans e4).trans e5)⟩⟩
theorem s_put (hM : MemAt K H m wl μ) (hm : Ev tm σ H (.ref m)) (hf : Ev tf σ H (.int f)) (hp : Ev tp σ H (.int p)) (hx : Ev tx σ H (.int x)) (hI : InM f p) (k : ∀ H', MemAt K H' m wl (mset μ (ix f p) x) → Fr wl H H' → D.nx σ H') :
    tDrop (tMeth (CM K) "put" (sp_put K) [] E0 tm (tCons tf (tCons tp (tCons tx tNil)))) D σ H := hm H (Ex.refl H) _ fun H2 e2 => by
    obtain ⟨dx, dd, h1, h2⟩ := (hM.keep e2).ins
    exact ⟨m, dx, _, rfl, h1, rfl, hf H2 e2 _ fun H3 e3 => hp H3 (e2.trans e3) _ fun H4 e4 => hx H4 ((e2.trans e3).trans e4) _ fun H5 e5 => ⟨m, wl, μ, f, p, x, rfl, hM.keep (((e2.trans e3).trans e4).trans e5), hI, fun H' h' f' => k H' h' ((Fr.of (((e2.trans e3).trans e4).trans e5)).trans f')⟩⟩
theorem q_put (hM : MemAt K H m wl μ) (hm : Ev tm σ H (.ref m)) (hf : Ev tf σ H (.int f)) (hp : Ev tp σ H (.int p)) (hx : Ev tx σ H (.int x)) (hI : InM f p) (k : ∀ H', MemAt K H' m wl (mset μ (ix f p) x) → Fr wl H H' → tz D σ H') :
    tSeq (tDrop (tMeth (CM K) "put" (sp_put K) [] E0 tm (tCons tf (tCons tp (tCons tx tNil))))) tz D σ H := s_put (D := { D with nx := tz D }) hM hm hf hp hx hI k
end
abbrev InF (t : Int) : Prop := 0 ≤ t ∧ t < 32
def mrank (μ : Mem) (t : Int) : Int := if μ (ix t 24) > μ (ix t 12) then μ (ix t 24) else μ (ix t 12)
def mnum (μ : Mem) (t : Int) : Int := μ (ix t 22) * 4 + mrank μ t
def mpush (μ : Mem) (fr hd tl th : Int) : Mem := mset (mset (if μ (ix fr tl) ≠ 0 then mset μ (ix (μ (ix fr tl) - 1) 15) (th + 1) else mset μ (ix fr hd) (th + 1)) (ix fr tl) (th + 1)) (ix th 15) 0
/-- the head taken out -/
def mtake (μ : Mem) (fr hd tl th : Int) : Mem := mset (if μ (ix th 15) = 0 then mset (mset μ (ix fr hd) (μ (ix th 15))) (ix fr tl) 0 else mset μ (ix fr hd) (μ (ix th 15))) (ix th 15) 0
theorem tr_int {n : Int} : decide (n ≠ 0) = !decide (n = 0) := by by_cases h : n = 0 <;> simp [h]
section
variable {σ : L2.St} {H : Hp} {K : PySem.W.Frag} {D : Ends}
/-- an int as a test -/
theorem et_truI {te : TE} {n : Int} (h : Ev te σ H (.int n)) : EvT (tTru K te) σ H (decide (n ≠ 0)) := fun H1 e Q q => h H1 e _ fun H2 e2 => ⟨decide (n ≠ 0), by
  show decide (n ≠ 0) = (n != 0)
  by_cases h : n = 0 <;> simp [h], q H2 e2⟩
end
section
variable {P : Program} {w : World} {K : PySem.W.Frag} {mg : Str → Option Value} {base : Heap}
def sp_rank (K : PySem.W.Frag) : Sp := fun vs H Q _ => ∃ (m wl : Addr) (μ : Mem) (t : Int), vs = [.ref m, .int t] ∧ MemAt K H m wl μ ∧ InF t ∧ ∀ H', Ex H H' → Q (.int (mrank μ t)) H'
theorem ok_rank (T : Txt K mg) : FnOk P w K mg base CX0 2 (f_rank K) (fd_rank K) ["memory", "thread"] (sp_rank K) := by
  refine T.fn_rank.ok sc_rank (fun vs H Q E h => ?_) (fun cdv A outer s H vs Q E hr h => ⟨_, PSs.nox (pss_one (ps_ret (pe_callB (call_max2 rfl) (by rfl) T.free_max (by decide +kernel) (pa_cons (pe_meth (pv 0) (T.cl_Memory) (T.mt_Memory_word) (ok_Memory_word T) (hr.mono (by decide)) (T.bd_Memory_word) .nil pass0 (pa_cons (pv 1) (pa_cons (T.pg_T_PRIORITY) pa_nil))) (pa_cons (pe_meth (pv 0) (T.cl_Memory) (T.mt_Memory_word) (ok_Memory_word T) (hr.mono (by decide)) (T.bd_Memory_word) .nil pass0 (pa_cons (pv 1) (pa_cons (T.pg_T_LENT) pa_nil))) pa_nil))))), ?_⟩)
  · obtain ⟨_, _, _, _, rfl, _⟩ := h
    rfl
  · obtain ⟨m, wl, μ, t, rfl, hM, hI, k⟩ := h
    exact s_ret (ev_max2 (ev_word hM (ev_var rfl) (ev_var rfl) ev_c (by omega)) (ev_word hM (ev_var rfl) (ev_var rfl) ev_c (by omega))) k
def placeV (μ : Mem) (t : Int) : List V := [.int 0, .int (4 + mnum μ t), .int (12 + mnum μ t)]
def sp_ready_place (K : PySem.W.Frag) : Sp := fun vs H Q _ => ∃ (m wl : Addr) (μ : Mem) (t : Int), vs = [.ref m, .int t] ∧ MemAt K H m wl μ ∧ InF t ∧ ∀ p H', H p = none → Ex H H' → H' p = some (.tup (placeV μ t)) → Q (.ref p) H'
theorem ok_ready_place (T : Txt K mg) : FnOk P w K mg base CX0 3 (f_ready_place K) (fd_ready_place K) ["memory", "thread"] (sp_ready_place K) := by
  refine T.fn_ready_place.ok sc_ready_place (fun vs H Q E h => ?_) (fun cdv A outer s H vs Q E hr h => ⟨_, PSs.nox (pss_cons (ps_set (i := 2) sc_ready_place.nd rfl (Or.inl rfl) (pe_op op_add (pe_op op_mul (pe_meth (pv 0) (T.cl_Memory) (T.mt_Memory_word) (ok_Memory_word T) (hr.mono (by decide)) (T.bd_Memory_word) .nil pass0 (pa_cons (pv 1) (pa_cons (T.pg_T_DOMAIN) pa_nil))) (T.pg_PRIORITIES)) (pe_call (ok_rank T) (hr.mono (by decide)) (by rfl) (T.glo_rank) (T.kp_rank) (T.bd_rank) .nil pass0 (pa_cons (pv 0) (pa_cons (pv 1) pa_nil))))) (pss_one (ps_ret (pe_tup (pa_cons (T.pg_KERNEL) (pa_cons (pe_op op_add (T.pg_K_HEADS) (pv 2)) (pa_cons (pe_op op_add (T.pg_K_TAILS) (pv 2)) pa_nil))))))), ?_⟩)
  · obtain ⟨_, _, _, _, rfl, _⟩ := h
    rfl
  · obtain ⟨m, wl, μ, t, rfl, hM, hI, k⟩ := h
    refine q_asg (v := .int (mnum μ t)) (ev_op (ev_op (ev_word hM (ev_var rfl) (ev_var rfl) ev_c (by omega)) ev_c (rv_I (.inr ⟨by decide, by decide⟩))) (ev_pure (z := .int (mrank μ t)) (ea_cons (ev_var rfl) (ea_cons (ev_var rfl) ea_nil)) fun H1 e Q q => ⟨m, wl, μ, t, rfl, hM.keep e, hI, q⟩) rv_I0) fun H1 e1 => ?_
    exact s_retU (eu_tup (ea_cons ev_c (ea_cons (ev_op ev_c (ev_var rfl) rv_I0) (ea_cons (ev_op ev_c (ev_var rfl) rv_I0) ea_nil))) (by show 3 ≤ 100000; decide)) fun p H2 hp e2 h2 => k p H2 (fresh_back e1 hp) (e1.trans e2) h2
def sp_push (K : PySem.W.Frag) : Sp := fun vs H Q _ => ∃ (m wl pl : Addr) (μ : Mem) (fr hd tl th : Int), vs = [.ref m, .ref pl, .int th] ∧ MemAt K H m wl μ ∧ H pl = some (.tup [.int fr, .int hd, .int tl]) ∧ InF th ∧ InM fr hd ∧ InM fr tl ∧ (μ (ix fr tl) ≠ 0 → InF (μ (ix fr tl) - 1)) ∧
  ∀ H', MemAt K H' m wl (mpush μ fr hd tl th) → Fr wl H H' → Q .non H'
theorem ok_push (T : Txt K mg) : FnOk P w K mg base CX0 2 (f_push K) (fd_push K) ["memory", "place", "thread"] (sp_push K) := by
  refine T.fn_push.ok sc_push (fun vs H Q E h => ?_) (fun cdv A outer s H vs Q E hr h => ⟨_, PSs.nox (pss_cons (ps_asg (pv 1) (pg_tup (by rfl) (pgs_cons (pg_name (i := 3) sc_push.nd rfl (Or.inl rfl)) (pgs_cons (pg_name (i := 4) sc_push.nd rfl (Or.inl rfl)) (pgs_cons (pg_name (i := 5) sc_push.nd rfl (Or.inl rfl)) pgs_nil))))) (pss_cons (ps_set (i := 6) sc_push.nd rfl (Or.inl rfl) (pe_meth (pv 0) (T.cl_Memory) (T.mt_Memory_word) (ok_Memory_word T) (hr.mono (by decide)) (T.bd_Memory_word) .nil pass0 (pa_cons (pv 3) (pa_cons (pv 5) pa_nil)))) (pss_cut (ps_if (pt_truth (pv 6) (by intro _; rfl)) (pss_one (ps_expr (pe_meth (pv 0) (T.cl_Memory) (T.mt_Memory_put) (ok_Memory_put T) (hr.mono (by decide)) (T.bd_Memory_put) .nil pass0 (pa_cons (pe_op op_sub (pv 6) pe_int) (pa_cons (T.pg_T_NEXT) (pa_cons (pe_op op_add (pv 2) pe_int) pa_nil)))))) (pss_one (ps_expr (pe_meth (pv 0) (T.cl_Memory) (T.mt_Memory_put) (ok_Memory_put T) (hr.mono (by decide)) (T.bd_Memory_put) .nil pass0 (pa_cons (pv 3) (pa_cons (pv 4) (pa_cons (pe_op op_add (pv 2) pe_int) pa_nil))))))) (pss_cons (ps_expr (pe_meth (pv 0) (T.cl_Memory) (T.mt_Memory_put) (ok_Memory_put T) (hr.mono (by decide)) (T.bd_Memory_put) .nil pass0 (pa_cons (pv 3) (pa_cons (pv 5) (pa_cons (pe_op op_add (pv 2) pe_int) pa_nil))))) (pss_one (ps_expr (pe_meth (pv 0) (T.cl_Memory) (T.mt_Memory_put) (ok_Memory_put T) (hr.mono (by decide)) (T.bd_Memory_put) .nil pass0 (pa_cons (pv 2) (pa_cons (T.pg_T_NEXT) (pa_cons pe_int pa_nil)))))))))), ?_⟩)
  · obtain ⟨_, _, _, _, _, _, _, _, rfl, _⟩ := h
    rfl
  · obtain ⟨m, wl, pl, μ, fr, hd, tl, th, rfl, hM, hpl, hI, i1, i2, i3, k⟩ := h
    refine ⟨_, rfl, pl, _, rfl, st_of hpl, rfl, _, _, rfl, _, _, rfl, _, _, rfl, rfl, ?_⟩
    refine q_asg (ev_word hM (ev_var rfl) (ev_var rfl) (ev_var rfl) i2) fun H1 e1 => ?_
    have hM1 := hM.keep e1
    refine q_cut (M := fun σ' H' => σ' = [some (.ref m), some (.ref pl), some (.int th), some (.int fr), some (.int hd), some (.int tl), some (.int (μ (ix fr tl)))] ∧ MemAt K H' m wl (if μ (ix fr tl) ≠ 0 then mset μ (ix (μ (ix fr tl) - 1) 15) (th + 1) else mset μ (ix fr hd) (th + 1)) ∧ Fr wl H H') ?_ ?_
    · refine s_if (et_truI (ev_var rfl)) (fun hb H2 e2 => ?_) (fun hb H2 e2 => ?_)
      · have hne := of_decide_eq_true hb
        have i4 := i3 hne
        rw [if_pos hne]
        exact s_put (hM1.keep e2) (ev_var rfl) (ev_op (ev_var rfl) ev_c rv_I0) ev_c (ev_op (ev_var rfl) ev_c rv_I0) (by omega) fun H3 h3 f3 => ⟨rfl, h3, (Fr.of (e1.trans e2)).trans f3⟩
      · have hne := of_decide_eq_false hb
        rw [if_neg hne]
        exact s_put (hM1.keep e2) (ev_var rfl) (ev_var rfl) (ev_var rfl) (ev_op (ev_var rfl) ev_c rv_I0) i1 fun H3 h3 f3 => ⟨rfl, h3, (Fr.of (e1.trans e2)).trans f3⟩
    · rintro σ' H2 ⟨rfl, h2, f2⟩
      refine q_put h2 (ev_var rfl) (ev_var rfl) (ev_var rfl) (ev_op (ev_var rfl) ev_c rv_I0) i2 fun H3 h3 f3 => ?_
      exact s_put h3 (ev_var rfl) (ev_var rfl) ev_c ev_c (by omega) fun H4 h4 f4 => k H4 h4 ((f2.trans f3).trans f4)
end
end KA

namespace KA
open PySem PySem.Spec PyProof.Rows L2 Evl TL
section
variable {P : Program} {w : World} {K : PySem.W.Frag} {mg : Str → Option Value} {base : Heap}
def sp_kind_of (K : PySem.W.Frag) : Sp := fun vs H Q _ => ∃ (m wl : Addr) (μ : Mem) (f : Int), vs = [.ref m, .int f] ∧ MemAt K H m wl μ ∧ InF f ∧ ∀ H', Ex H H' → Q (.int (μ (ix 1 f))) H'
theorem ok_kind_of (T : Txt K mg) : FnOk P w K mg base CX0 2 (f_kind_of K) (fd_kind_of K) ["memory", "frame"] (sp_kind_of K) := by
  refine T.fn_kind_of.ok sc_kind_of (fun vs H Q E h => ?_) (fun cdv A outer s H vs Q E hr h => ⟨_, PSs.nox (pss_one (ps_ret (pe_meth (pv 0) (T.cl_Memory) (T.mt_Memory_word) (ok_Memory_word T) (hr.mono (by decide)) (T.bd_Memory_word) .nil pass0 (pa_cons (T.pg_KIND_FRAME) (pa_cons (pv 1) pa_nil))))), ?_⟩)
  · obtain ⟨_, _, _, _, rfl, _⟩ := h
    rfl
  · obtain ⟨m, wl, μ, f, rfl, hM, hI, k⟩ := h
    exact s_ret (ev_word hM (ev_var rfl) ev_c (ev_var rfl) (by omega)) k
section
variable {σ : L2.St} {H : Hp} {D : Ends} {m wl : Addr} {μ : Mem} {tm tf tp tx tr : TE} {tz : TS} {f p x : Int}
theorem ev_kind (hM : MemAt K H m wl μ) (hm : Ev tm σ H (.ref m)) (hf : Ev tf σ H (.int f)) (hI : InF f) : Ev (tCall (sp_kind_of K) [] E0 (tCons tm (tCons tf tNil))) σ H (.int (μ (ix 1 f))) :=
  ev_pure (ea_cons hm (ea_cons hf ea_nil)) fun H1 e Q q => ⟨m, wl, μ, f, rfl, hM.keep e, hI, q⟩
end
def framesV (μ : Mem) (k : Int) : List V := given 32 (fun i => decide (V.int (μ (ix 1 (i : Int))) = .int k)) (fun i => .int (i : Int))
def sp_frames_of (K : PySem.W.Frag) : Sp := fun vs H Q _ => ∃ (m wl : Addr) (μ : Mem) (k : Int), vs = [.ref m, .int k] ∧ MemAt K H m wl μ ∧ ∀ p H', H p = none → Ex H H' → H' p = some (.lst (framesV μ k)) → Q (.ref p) H'
theorem ok_frames_of (T : Txt K mg) : FnOk P w K mg base CX0 3 (f_frames_of K) (fd_frames_of K) ["memory", "kind"] (sp_frames_of K) := by
  refine T.fn_frames_of.ok sc_frames_of (fun vs H Q E h => ?_) (fun cdv A outer s H vs Q E hr h => ⟨_, PSs.nox (pss_one (ps_ret (pe_lc (own := [("frame", 2)]) (by rfl) sc_frames_of.nd (pi_range1 (by rfl) T.free_range (pa_cons (T.pg_FRAMES) pa_nil)) (blkOk_by (N := sc_frames_of_N) (sc := defScope s_frames_of) (own := [("frame", 2)]) (by decide +kernel)) (fun _ _ _ _ _ => (pg_name (i := 2) sc_frames_of.nd rfl (Or.inl rfl))) (fun _ _ _ _ _ => (pts_one (pt_cmpR op_eq (pe_call (ok_kind_of T) (hr.mono (by decide)) (by rfl) (T.glo_kind_of) (T.kp_kind_of) (T.bd_kind_of) .nil pass0 (pa_cons (pv 0) (pa_cons (pv 2) pa_nil))) (pv 1) (nomark _)))) (fun _ _ _ _ _ => (pv 2))))), ?_⟩)
  · obtain ⟨_, _, _, _, rfl, _⟩ := h
    rfl
  · obtain ⟨m, wl, μ, k0, rfl, hM, k⟩ := h
    refine s_retL (xs := framesV μ k0) (el_lcR1 (n := 32) _ _ (ea_cons ev_c ea_nil) (by decide) (fun x => rfl) (fun i H1 e1 hi => et_test (ev_op (ev_kind (hM.keep e1) (ev_var rfl) (ev_var rfl) (by omega)) (ev_var rfl) (rv_eq rfl))) (fun i H1 e1 hi _ => ev_var rfl)) k
def sp_put_field (K : PySem.W.Frag) : Sp := fun vs H Q _ => ∃ (m wl : Addr) (μ : Mem) (s p x : Int), vs = [.ref m, .int s, .int p, .int x] ∧ MemAt K H m wl μ ∧ 0 ≤ s ∧ s < 256 ∧ 0 ≤ p ∧ p < 8 ∧ ∀ H', MemAt K H' m wl (mset μ (s * 8 + p).toNat x) → Fr wl H H' → Q .non H'
theorem ix_slot {s p : Int} : ix (s / 8) (s % 8 * 8 + p) = (s * 8 + p).toNat := by unfold ix; congr 1; omega
theorem ok_put_field (T : Txt K mg) : FnOk P w K mg base CX0 2 (f_put_field K) (fd_put_field K) ["memory", "slot", "place", "word"] (sp_put_field K) := by
  refine T.fn_put_field.ok sc_put_field (fun vs H Q E h => ?_) (fun cdv A outer s H vs Q E hr h => ⟨_, PSs.nox (pss_one (ps_expr (pe_meth (pv 0) (T.cl_Memory) (T.mt_Memory_put) (ok_Memory_put T) (hr.mono (by decide)) (T.bd_Memory_put) .nil pass0 (pa_cons (pe_op op_fdiv (pv 1) (T.pg_SLOTS)) (pa_cons (pe_op op_add (pe_op op_mul (pe_op op_mod (pv 1) (T.pg_SLOTS)) pe_int) (pv 2)) (pa_cons (pv 3) pa_nil)))))), ?_⟩)
  · obtain ⟨_, _, _, _, _, _, rfl, _⟩ := h
    rfl
  · obtain ⟨m, wl, μ, s0, p, x, rfl, hM, h1, h2, h3, h4, k⟩ := h
    refine s_put hM (ev_var rfl) (ev_op (ev_var rfl) ev_c (rv_I ⟨by decide, by decide⟩)) (ev_op (ev_op (ev_op (ev_var rfl) ev_c (rv_I (by show (0 : Int) < 8; decide))) ev_c (rv_I (.inr ⟨by decide, by decide⟩))) (ev_var rfl) rv_I0) (ev_var rfl) (by omega) fun H' h' f' => k H' ?_ f'
    rw [ix_slot] at h'
    exact h'
end
end KA

namespace KA
open PySem PySem.Spec PyProof.Rows L2 Evl TL
theorem mset_ne {μ : Mem} {i j : Nat} {x : Int} (h : j ≠ i) : mset μ i x j = μ j := if_neg h
theorem mset_same {μ : Mem} {i : Nat} {x : Int} : mset μ i x i = x % 65536 := if_pos rfl
section
variable {σ : L2.St} {H : Hp} {K : PySem.W.Frag} {D : Ends}
theorem eu_tupNL {ta : TE} {xs : List V} (ha : EvL ta σ H xs) : EvU (tCB (rTupK K) (tCons ta tNil)) σ H xs := fun H1 e Q q =>
  ha H1 e _ fun p H2 hp e2 h2 => ⟨p, xs, rfl, .inl ⟨sq_of h2, fun l hl => q l _ (fresh_back e2 hl) (e2.trans (Ex.new hl)) upd_same⟩⟩
theorem q_fldL {ta tv : TE} {tz : TS} {a C dx : Addr} {fs : List (Str × V)} {f : Str} {xs : List V} (hv : EvL tv σ H xs) (ha : Ev ta σ H (.ref a)) (h : H a = some (.ins C dx fs)) (c : Cls K C) (n : NoAttr K C f) (hl : fs.length < 1000)
    (k : ∀ p H1, H p = none → Ex H H1 → H1 p = some (.lst xs) → tz D σ (upd H1 a (.ins C dx (putF f (.ref p) fs)))) : tSeq (sFld K ta tv f) tz D σ H := hv H (Ex.refl H) _ fun p H1 hp e1 h1 => ha H1 e1 _ fun H2 e2 =>
  ⟨a, C, dx, fs, rfl, (e1.trans e2) _ _ h, c, n, hl, k p H2 hp (e1.trans e2) (e2 _ _ h1)⟩
theorem s_fldL {ta tv : TE} {a C dx : Addr} {fs : List (Str × V)} {f : Str} {xs : List V} (hv : EvL tv σ H xs) (ha : Ev ta σ H (.ref a)) (h : H a = some (.ins C dx fs)) (c : Cls K C) (n : NoAttr K C f) (hl : fs.length < 1000)
    (k : ∀ p H1, H p = none → Ex H H1 → H1 p = some (.lst xs) → D.nx σ (upd H1 a (.ins C dx (putF f (.ref p) fs)))) : sFld K ta tv f D σ H := hv H (Ex.refl H) _ fun p H1 hp e1 h1 => ha H1 e1 _ fun H2 e2 =>
  ⟨a, C, dx, fs, rfl, (e1.trans e2) _ _ h, c, n, hl, k p H2 hp (e1.trans e2) (e2 _ _ h1)⟩
end
def oI : Option Int → V
  | none => .non
  | some i => .int i
/-- all stands but what stands in S -/
def FS (S : List Addr) (H H' : Hp) : Prop := ∀ b o, H b = some o → b ∉ S → H' b = some o
theorem FS.of {S : List Addr} {H H' : Hp} (e : Ex H H') : FS S H H' := fun b o h _ => e b o h
theorem FS.trans {S : List Addr} {H H1 H2 : Hp} (a : FS S H H1) (b : FS S H1 H2) : FS S H H2 := fun c o h n => b c o (a c o h n) n
theorem FS.put {S : List Addr} {H : Hp} {l : Addr} {o : HO} (hl : l ∈ S) : FS S H (L2.upd H l o) := fun b u h n => by
  have : b ≠ l := fun z => n (by rw [z]; exact hl)
  rw [upd_ne this]
  exact h
theorem FS.fr {S : List Addr} {wl : Addr} {H H' : Hp} (f : Fr wl H H') (hl : wl ∈ S) : FS S H H' := fun b o h n => f b o h (fun z => n (by rw [z]; exact hl))
theorem FS.weak {S S' : List Addr} {H H' : Hp} (f : FS S H H') (h : ∀ a ∈ S, a ∈ S') : FS S' H H' := fun b o hb n => f b o hb (fun z => n (h b z))
section
variable {P : Program} {w : World} {K : PySem.W.Frag} {mg : Str → Option Value} {base : Heap}
def sp_entry_at (K : PySem.W.Frag) : Sp := fun vs H Q _ => ∃ (m wl : Addr) (μ : Mem) (f p : Int), vs = [.ref m, .int f, .int p] ∧ MemAt K H m wl μ ∧ InF f ∧ μ (ix 1 f) ≠ 8 ∧ ∀ H', Ex H H' → Q (.int (p * 4)) H'
theorem ok_entry_at (T : Txt K mg) : FnOk P w K mg base CX0 3 (f_entry_at K) (fd_entry_at K) ["memory", "frame", "page"] (sp_entry_at K) := by
  refine T.fn_entry_at.ok sc_entry_at (fun vs H Q E h => ?_) (fun cdv A outer s H vs Q E hr h => ⟨_, PSs.nox (pss_one (ps_ret (pe_op op_add (pe_op op_mul (pv 2) pe_int) (pe_ifExp (pt_cmpR op_eq (pe_call (ok_kind_of T) (hr.mono (by decide)) (by rfl) (T.glo_kind_of) (T.kp_kind_of) (T.bd_kind_of) .nil pass0 (pa_cons (pv 0) (pa_cons (pv 1) pa_nil))) (T.pg_DEVICE) (nomark _)) pe_int pe_int)))), ?_⟩)
  · obtain ⟨_, _, _, _, _, rfl, _⟩ := h
    rfl
  · obtain ⟨m, wl, μ, f, p, rfl, hM, hI, h8, k⟩ := h
    refine s_ret (ev_is (ev_op (ev_op (ev_var rfl) ev_c (rv_I (.inr ⟨by decide, by decide⟩))) (ev_if (b := false) (v := .int 0) (et_is (et_test (ev_op (ev_kind hM (ev_var rfl) (ev_var rfl) hI) ev_c (rv_eq rfl))) (decide_eq_false fun z => h8 (V.int.inj z))) (fun h => by cases h) fun _ => ev_c) rv_I0) (by simp)) k
end
end KA

/-! ### enumerate(t), t a tuple -/
namespace EnT
open PySem PySem.Calls PyProof.Rows PyProof.V PySem.Spec
theorem meets_new1 {v : Value} {o : Obj} {H : Heap → Prop} (B : Begins v o H) :
    Meets (Builtin.«enumerate.__new__» ⟨[.type "enumerate", v], []⟩) (fun _ R s => H s.heap ∧
      R (.ok (.ret (.ref (s.heap.push o).objs.size))) { s with heap := (s.heap.push o).push { cls := .type "enumerate", data := .fields #[.none, .bool false, .ref s.heap.objs.size, rawInt 0, .none, .none] } }) :=
  .of_wp fun prog w A R s h => by
    obtain ⟨hp, g, d, tk, os⟩ := s; obtain ⟨h1, h⟩ := h
    have hsub := sub_enumerate
    have q1 : ∀ {A' : Around} {E : Value → Shared → Prop} {Q : Value → Shared → Prop}, Q (.ref hp.objs.size) ⟨hp.push o, g, d, tk, os⟩ → wpAny (model prog w) A' (pyIter v) Q E ⟨hp, g, d, tk, os⟩ :=
      fun q => B.iter prog w _ _ ⟨hp, g, d, tk, os⟩ _ h1 q
    wp_walk using q1
    refine wpAny_stack_any fun st => wpAny_pure ?_
    split
    · rename_i c _ _ _ _ _
      cases (c == Value.type "enumerate")
      · wp_walk using q1
        exact ⟨_, rfl, h⟩
      · wp_walk using q1
        exact ⟨_, rfl, h⟩
    · wp_walk using q1
      exact ⟨_, rfl, h⟩
section
variable {prog : Program} {w : World} {A : Around} {E : Value → Shared → Prop} {s : Shared}
theorem begins1 {v : Value} {o : Obj} {H : Heap → Prop} {Q : Value → Shared → Prop} (B : Begins v o H) (h1 : H s.heap)
    (h : ∀ h', IsEnum h' (s.heap.objs.size + 1) s.heap.objs.size 0 .none → h'.get? s.heap.objs.size = some o → h'.objs.size = s.heap.objs.size + 2 →
      (∀ b o, s.heap.get? b = some o → h'.get? b = some o) → Q (.ref (s.heap.objs.size + 1)) { s with heap := h' }) :
    wpAny (model prog w) A (call (.type "enumerate") [v]) Q E s := by
  refine callType_new F.called_enumerate (by decide) (F.typeCall_enumerate_1 _) (F.newCall_enumerate_1 _) (fun obj => F.args_object_init_2 obj _) F.entry_enumerate_new
    (meets_new1 B) ⟨h1, ?_⟩
  have hz : (s.heap.push o).objs.size = s.heap.objs.size + 1 := Heap.size_push ..
  show _ ∧ _
  rw [hz]
  have he : IsEnum ((s.heap.push o).push { cls := .type "enumerate", data := .fields #[.none, .bool false, .ref s.heap.objs.size, rawInt 0, .none, .none] }) (s.heap.objs.size + 1) s.heap.objs.size 0 .none := by
    have := Heap.get?_push_size (s.heap.push o) (o := { cls := .type "enumerate", data := .fields #[.none, .bool false, .ref s.heap.objs.size, rawInt 0, .none, .none] }) rfl
    rw [hz] at this; exact this
  refine ⟨⟨_, he, rfl⟩, h _ he (Heap.get?_push_of_some _ (Heap.get?_push_size _ B.free)) (by rw [Heap.size_push, hz]) fun b o x => Heap.get?_push_of_some _ (Heap.get?_push_of_some _ x)⟩
end
end EnT
namespace KA
open PySem PySem.Spec PyProof.Rows L2
/-- the turns of enumerate(t): a new pair each -/
def ItE (K : PySem.W.Frag) (a : Addr) : It :=
  ⟨fun i H => ∃ (xs : List V) (x : V), SqT K H a xs ∧ xs[i]? = some x, fun i H v H' => ∃ T x, v = .ref T ∧ H T = none ∧ H' = upd H T (.tup [.int (i : Nat), x]) ∧ ∀ xs, SqT K H a xs → xs[i]? = some x, fun i H => ∃ xs : List V, SqT K H a xs ∧ xs.length ≤ i⟩
theorem turn_enumT {P : Program} {w : World} {K : PySem.W.Frag} {elts : List Expr} {kk : Nat} {tpos : Pos} (a e it : Addr) :
    Turn P w K (.Tuple elts kk tpos) (ItE K a) [e, it] e (fun i h => (∃ old, IsEnum h e it ((i : Nat) : Int) old) ∧ h.IsTupleIter it a i ∧ e ≠ it ∧ a ≠ e ∧ a ≠ it) where
  mem := by simp
  obj := fun i h st b hb => by
    obtain ⟨⟨old, he⟩, ⟨o, ho, hc, hd⟩, _⟩ := st
    have e' : b = e ∨ b = it := by simpa using hb
    rcases e' with z | z
    · rw [z]; exact ⟨_, he, fun v q => nomatch q⟩
    · rw [z]; exact ⟨o, ho, fun v q => by rw [hd] at q; cases q⟩
  keep := fun i h h' st k => let ⟨⟨old, he⟩, hi, hne⟩ := st; ⟨⟨old, k e (by simp) _ he⟩, hi.at fun o q => k it (by simp) o q, hne⟩
  item := by
    intro X hP hw hK hc i pins s σ H E I hf st hg
    subst hP hw hK
    obtain ⟨⟨old, he⟩, hit, hne, hae, hai⟩ := st
    obtain ⟨xs, x, hq, hx⟩ := hg
    obtain ⟨its, rv, p, hz⟩ := I.tuple hq
    obtain ⟨u, hu, ru⟩ := rv.get hx
    have hel : e < s.heap.objs.size := Heap.lt_size he
    have hil : it < s.heap.objs.size := by obtain ⟨_, q, _⟩ := hit; exact Heap.lt_size q
    have hlt : i < its.toArray.size := by rw [List.size_toArray]; exact (List.getElem?_eq_some_iff.mp hu).1
    refine wpAny_pyNext_enum_itemD (Draws.tuple (A := X.A.in1) (I.ok.hd hc) it a hai its.toArray) he ⟨hit, p⟩ hlt hne (by simp [hne, Ne.symm hae]) fun x' h' tk hP' ho hst' hT hsz hk => ?_
    obtain rfl : x' = u := by
      have : its[i]? = some x' := by simpa using hP'
      rw [hu] at this
      exact (Option.some.inj this).symm
    obtain ⟨hit', p'⟩ := hst'
    refine ⟨_, rfl, wpAny_letOwnedTupleGo_enum (s := { s with heap := h', toks := tk + 1 }) ho fun h'' he' sb => ?_⟩
    have hT2 : h''.get? s.heap.objs.size = some { cls := .type "tuple", data := .seq #[.int i tk, x'] } := (sb.2 _ (Nat.ne_of_gt hel)).trans hT
    have new : ObjOk X.prog X.w (upd H s.heap.objs.size (.tup [.int (i : Nat), x])) h'' s.heap.objs.size (.tup [.int (i : Nat), x]) :=
      ⟨by show 2 ≤ sizeLine; decide, [.int i tk, x'], .cons ⟨_, rfl⟩ (.cons ru .nil), ⟨_, hT2, rfl, _, rfl⟩⟩
    have I1 : Inv X pins σ (upd H s.heap.objs.size (.tup [.int (i : Nat), x])) { s with heap := h'', toks := tk + 1 } :=
      I.turnedNew (ch := [e, it]) (fun b ob hb q => (sb.2 b (fun z => hb (by simp [z]))).trans (hk b ob (fun z => hb (by simp [z])) (fun z => hb (by simp [z])) q)) hf (Nat.le_refl _) new
    refine ⟨.ref s.heap.objs.size, _, I1, rfl, ⟨_, x, rfl, I.hok.fresh (Nat.le_refl _), rfl, fun ys hy => by rw [I.tuple_inj hy hq]; exact hx⟩, ⟨⟨x', ?_⟩, hit'.at fun o q => (sb.2 it (Ne.symm hne)).trans q, hne, hae, hai⟩, fun b hb => ?_⟩
    · have e1 : ((i + 1 : Nat) : Int) = (i : Int) + 1 := by omega
      rw [e1]; exact he'
    · have hb' : b < s.heap.objs.size := by
        have e' : b = e ∨ b = it := by simpa using hb
        rcases e' with z | z
        · rw [z]; exact hel
        · rw [z]; exact hil
      rw [upd_ne (Nat.ne_of_lt hb')]
      exact (hf b hb).1
  done := by
    intro X hP hw hK hc i pins s σ H E I hf st hg
    subst hP hw hK
    obtain ⟨⟨old, he⟩, hit, hne, hae, hai⟩ := st
    obtain ⟨xs, hq, hx⟩ := hg
    obtain ⟨its, rv, p, hz⟩ := I.tuple hq
    obtain ⟨f0, f1, f2, f3, f4, f5⟩ := hf it (by simp)
    have hl := rv.length
    have hT : s.TypeIs (.ref e) "enumerate" := ⟨_, he, rfl⟩
    unfold pyNext
    refine wpAny_bind (wpAny_attempt (wpAny_callSpecial?_slot (name := Str.ofString "__next__") hT F.slot_enumerate_next
      (wpAny_call_entry F.slot_enumerate_next hT F.entry_enumerate_next ?_ (F.args_enumerate_next_1 _))))
    show wpAny _ _ (field (.ref e) 2 >>= _) _ _ _
    refine wpAny_bind (wpAny_field he rfl (x := .ref it) rfl ?_)
    refine wpAny_bind (wpAny_nextOf_tuple_end (I.ok.hd hc) hit p (by rw [List.getElem?_toArray]; exact List.getElem?_eq_none (by omega)) fun h' x he' hx' => ?_)
    obtain ⟨o, ho, hcl⟩ := hx'
    refine wpAny_bind (wpAny_isInstance (T := "StopIteration") (b := true) ⟨o, ho, hcl⟩ isSubtype_stop ?_)
    exact wpAny_pure ⟨rfl, I.turned (t' := s.toks) (fun b o hb q => he' b o hb q) f0 f1 f3 f4 f5⟩
  self := fun A i s Q E st h => let ⟨⟨_, he⟩, _⟩ := st; wpAny_pyIter_enum he h
def iEnumT (K : PySem.W.Frag) (ta : TA) : TI := fun σ H R => ta σ H fun vs H1 => ∃ a xs, vs = [.ref a] ∧ SqT K H1 a xs ∧ R (ItE K a) H1
theorem pi_enumT {X : Cx} {e : Expr} {ta : TA} {p pos tpos : Pos} {elts : List Expr} {kk : Nat} (hg : Gl X "enumerate") (hm : X.mg "enumerate" = none) (ha : PA X [e] ta) (hs : starEach [e] X.env = [(false, eval e X.env)] := by rfl) :
    PI X (.Tuple elts kk tpos) (.Call (.Name "enumerate" p) [e] [] pos) (iEnumT X.K ta) := by
  refine ⟨fun pins s σ H R I h => ?_⟩
  refine Call_ (ld_blt I hg hm boot_enumerate (PyProof.Rows.callWith_type1 (thn (ha.run pos pins s σ H _ I h) fun us s1 ⟨vs, H1, I1, r1, q1⟩ => ?_) hs rfl))
  obtain ⟨a, xs, ex, hq, q⟩ := q1
  subst ex
  cases r1 with
  | cons r rr =>
    cases rr
    cases r
    obtain ⟨its, rv, p', hz⟩ := I1.tuple hq
    have hal : a < s1.heap.objs.size := by obtain ⟨o, ho, _⟩ := p'; exact Heap.lt_size ho
    refine EnT.begins1 (PySem.begins_tuple a its.toArray) p' fun h' he hit hsz hk => wpAny_pyIter_enum he ?_
    have I2 : Inv X pins σ H1 { s1 with heap := h' } := I1.kept (t' := s1.toks) hk
    refine ⟨s1.heap.objs.size + 1, [s1.heap.objs.size + 1, s1.heap.objs.size], _, _, H1, rfl, I2, turn_enumT a (s1.heap.objs.size + 1) s1.heap.objs.size, ⟨⟨.none, he⟩, ⟨_, hit, rfl, rfl⟩, Nat.succ_ne_self _, Nat.ne_of_lt (Nat.lt_succ_of_lt hal), Nat.ne_of_lt hal⟩, fun b hb => ?_, q⟩
    have e' : b = s1.heap.objs.size + 1 ∨ b = s1.heap.objs.size := by simpa using hb
    have hle : s1.heap.objs.size ≤ b := by
      rcases e' with z | z
      · rw [z]; exact Nat.le_add_right _ _
      · rw [z]; exact Nat.le_refl _
    exact I1.fpOk hle (I1.hok.fresh hle)
/-- over enumerate of a tuple -/
theorem for_enumT {σ : L2.St} {H : Hp} {K : PySem.W.Frag} {D : Ends} {a : Addr} {xs : List V} {g : TG} {tb : TS} (Pv : Nat → L2.St → Hp → Prop) (h0 : Pv 0 σ H) (hl : ∀ i σ H, i ≤ xs.length → Pv i σ H → SqT K H a xs)
    (hs : ∀ i x σ H T, xs[i]? = some x → Pv i σ H → H T = none → g (.ref T) σ (upd H T (.tup [.int (i : Nat), x])) fun σ2 H2 => tb { D with nx := Pv (i + 1), ct := Pv (i + 1), bk := D.nx } σ2 H2) (hd : ∀ σ H, Pv xs.length σ H → D.nx σ H) :
    ∃ W : Nat → Nat → L2.St → Hp → Prop, (∃ m, W 0 m σ H) ∧ ∀ i m σ H, W i m σ H →
      ((ItE K a).stop i H ∧ D.nx σ H) ∨ ((ItE K a).go i H ∧ ∃ N : L2.St → Hp → Prop, (∀ σ' H', N σ' H' → ∃ m', m' < m ∧ W (i + 1) m' σ' H') ∧ ∀ x H', (ItE K a).yld i H x H' → g x σ H' fun σ2 H2 => tb { D with nx := N, ct := N, bk := D.nx } σ2 H2) := by
  refine ⟨fun i m σ H => m = xs.length - i ∧ i ≤ xs.length ∧ Pv i σ H, ⟨xs.length, by simp, Nat.zero_le _, h0⟩, ?_⟩
  rintro i m σ H ⟨rfl, hi, p⟩
  have q := hl i σ H hi p
  by_cases hlt : i < xs.length
  · refine .inr ⟨⟨xs, xs[i], q, by simp [hlt]⟩, Pv (i + 1), fun σ' H' p' => ⟨xs.length - (i + 1), by omega, rfl, hlt, p'⟩, fun x H' y => ?_⟩
    obtain ⟨T, z, rfl, hT, rfl, hz⟩ := y
    exact hs i z σ H T (hz xs q) p hT
  · have e : i = xs.length := by omega
    subst e
    exact .inl ⟨⟨xs, q, Nat.le_refl _⟩, hd σ H p⟩
end KA

/-! ### zip(range(..), t), t a tuple -/
namespace ZrR
open PySem PySem.Calls PyProof.Rows PyProof.V PySem.Spec
section
variable {prog : Program} {w : World} {A : Around} {E : Value → Shared → Prop} {s : Shared}
theorem nextOf_item {it : Addr} {x left step : Int} {Q : Value → Shared → Prop} (hit : IsRangeIter s.heap it x left step) (hleft : 0 < left)
    (hQ : ∀ h', IsRangeIter h' it (x + step) (left - 1) step → Heap.SameBut it s.heap h' → Q (.int x s.toks) { s with heap := h', toks := s.toks + 1 }) :
    wpAny (model prog w) A (Builtin.SmallTypes.nextOf (.ref it)) Q E s := by
  have hT : s.TypeIs (.ref it) "range_iterator" := ⟨_, hit, rfl⟩
  unfold Builtin.SmallTypes.nextOf
  refine wpAny_bind (wpAny_callSpecial?_slot (name := Str.ofString "__next__") hT F.slot_range_iterator_next
    (call_meets F.slot_range_iterator_next hT F.entry_range_iterator_next (F.args_range_iterator_next_1 _) (AutoRange.range_iterator___next___range_iterator_1 it x left step (by omega)) ⟨hit, ?_⟩))
  exact wpAny_pure (hQ _ (Heap.get?_update_self _ (Heap.get?_update_self _ hit rfl) rfl) ((Heap.SameBut.update ..).trans (Heap.SameBut.update ..)))
theorem nextOf_end {it : Addr} {x left step : Int} {Q : Value → Shared → Prop} (hh : A.handled = none) (hit : IsRangeIter s.heap it x left step) (hleft : left ≤ 0)
    (hE : ∀ h' e, Heap.ExtBut it s.heap h' → (∃ o, h'.get? e = some o ∧ o.cls = .type "StopIteration") → E (.ref e) { s with heap := h' }) :
    wpAny (model prog w) A (Builtin.SmallTypes.nextOf (.ref it)) Q E s := by
  have hT : s.TypeIs (.ref it) "range_iterator" := ⟨_, hit, rfl⟩
  unfold Builtin.SmallTypes.nextOf
  refine wpAny_bind (wpAny_callSpecial?_slot (name := Str.ofString "__next__") hT F.slot_range_iterator_next
    (wpAny_call_entry F.slot_range_iterator_next hT F.entry_range_iterator_next ?_ (F.args_range_iterator_next_1 _)))
  show wpAny _ _ (field (.ref it) 0 >>= _) _ _ s
  refine wpAny_bind (wpAny_field hit rfl (x := rawInt x) rfl ?_)
  show wpAny _ _ (field (.ref it) 1 >>= _) _ _ s
  refine wpAny_bind (wpAny_field hit rfl (x := rawInt left) rfl ?_)
  show wpAny _ _ (field (.ref it) 2 >>= _) _ _ s
  refine wpAny_bind (wpAny_field hit rfl (x := rawInt step) rfl ?_)
  show wpAny _ _ (if left ≤ 0 then _ else _) _ _ s
  rw [if_pos hleft]
  refine wpAny_bind (wpAny_rule ?_)
  refine wpAny_bind ?_
  show wpAny _ _ (newExc (.type "StopIteration") [] >>= _) _ _ _
  refine wpAny_bind ?_
  simp only [newExc, newTuple]
  refine wpAny_bind (wpAny_newObj_type ?_ (by size_fits))
  refine wpAny_bind (m := firstArgMember _ _) (wpAny_of_eq (a := Value.none) (by first | rfl | (simp only [firstArgMember]; rfl)) ?_)
  refine wpAny_newObj_type ?_ (by size_fits)
  simp only [raiseNew]
  refine wpAny_bind (wpAny_handled ?_)
  first | rw [show A.in1.handled = none from hh] | rw [hh]
  refine wpAny_bind (wpAny_pure (wpAny_throw ?_))
  exact hE _ _ (((Heap.ExtBut.refl it s.heap).push _).push _) ⟨_, Heap.get?_push_size _ rfl, rfl⟩
end
theorem draws {prog : Program} {w : World} {A : Around} (hh : A.handled = none) (it : Addr) (lo : Int) (n : Nat) :
    Draws prog w A it [it] n (fun i v => ∃ t, v = .int (lo + i) t) (fun i h => IsRangeIter h it (lo + i) ((n : Int) - i) 1) where
  live := fun _ _ st => ⟨_, st⟩
  frame := fun _ _ _ st hk => hk it (by simp) _ st
  item := fun i s Q E hi st hQ => by
    refine nextOf_item st (by omega) fun h' hit' hs' => ?_
    refine hQ _ h' _ ⟨_, rfl⟩ ?_ hs'
    have e1 : lo + ((i + 1 : Nat) : Int) = lo + (i : Int) + 1 := by omega
    have e2 : (n : Int) - ((i + 1 : Nat) : Int) = (n : Int) - (i : Int) - 1 := by omega
    rw [e1, e2]; exact hit'
  done := fun s Q E st hE => nextOf_end hh st (by omega) hE
theorem sep (I b : Nat) (h : b < I) : ZipSep2 (I + 4) (I + 2) (I + 3) I (I + 1) [I] [I + 1, b] := by
  have m2 : ∀ x : Nat, x ≠ I + 1 → x ≠ b → x ∉ ([I + 1, b] : List Nat) := fun x h1 h2 q => by
    rcases List.mem_cons.mp q with e | q
    · exact h1 e
    · rcases List.mem_cons.mp q with e | q
      · exact h2 e
      · cases q
  have m1 : ∀ x : Nat, x ≠ I → x ∉ ([I] : List Nat) := fun x h1 q => by
    rcases List.mem_cons.mp q with e | q
    · exact h1 e
    · cases q
  exact { TIz := Nat.ne_of_lt (by omega), TOz := Nat.ne_of_lt (by omega), TITO := Nat.ne_of_lt (by omega), TIi1 := Nat.ne_of_gt (by omega), mem1 := List.mem_cons_self .., zf1 := m1 _ (Nat.ne_of_gt (by omega)), Tf1 := m1 _ (Nat.ne_of_gt (by omega)),
          TIi2 := Nat.ne_of_gt (by omega), mem2 := List.mem_cons_self .., zf2 := m2 _ (Nat.ne_of_gt (by omega)) (Nat.ne_of_gt (by omega)), Tf2 := m2 _ (Nat.ne_of_gt (by omega)) (Nat.ne_of_gt (by omega)),
          sep1_2 := m2 _ (Nat.ne_of_lt (by omega)) (Nat.ne_of_gt (by omega)), sep2_1 := m1 _ (Nat.ne_of_gt (by omega)) }
theorem begins (r : Addr) {lo hi : Int} {t u v : Tok} (h1 : -(2 ^ 62) ≤ lo) (h2 : lo < 2 ^ 62) (h3 : -(2 ^ 62) ≤ hi) (h4 : hi < 2 ^ 62) :
    Begins (.ref r) { cls := .type "range_iterator", data := .fields #[rawInt lo, rawInt (Builtin.Range.rangeSize lo hi 1), rawInt 1] } fun h => IsRange h r lo hi 1 t u v where
  iter := fun prog w A E s Q hr h => wpAny_pyIter_range hr (small_one h1 h2 h3 h4) h
  keeps := fun h h' x hk => hk r _ x
  free := rfl
end ZrR
namespace KA
open PySem PySem.Spec PyProof.Rows L2
/-- the turns of zip(range(lo, ..), t): a new pair each -/
def ItR (K : PySem.W.Frag) (lo : Int) (n : Nat) (b : Addr) : It :=
  ⟨fun i H => ∃ (ys : List V) (y : V), SqT K H b ys ∧ ys[i]? = some y ∧ i < n,
   fun i H v H' => ∃ T y, v = .ref T ∧ H T = none ∧ H' = upd H T (.tup [.int (lo + i), y]) ∧ ∀ ys, SqT K H b ys → ys[i]? = some y,
   fun i H => ∃ ys : List V, SqT K H b ys ∧ i = n ∧ ys.length = n⟩
theorem turn_zipR {P : Program} {w : World} {K : PySem.W.Frag} {elts : List Expr} {kk : Nat} {tpos : Pos} {lo : Int} {n : Nat} {b z TI TO i1 i2 : Addr} (D : PySem.ZipSep2 z TI TO i1 i2 [i1] [i2, b]) (hbi : b ≠ i2) :
    Turn P w K (.Tuple elts kk tpos) (ItR K lo n b) [z, TI, TO, i1, i2] z (fun i h => IsZip h z TI TO .none ∧ IsPair h TI (.ref i1) (.ref i2) ∧ (∃ x y, IsPair h TO x y) ∧ IsRangeIter h i1 (lo + i) ((n : Int) - i) 1 ∧ h.IsTupleIter i2 b i) where
  mem := by simp
  obj := fun i h st c hc => by
    obtain ⟨hz, hTI, ⟨x, y, hTO⟩, h1, ⟨o2, e2, _, d2⟩⟩ := st
    have e' : c = z ∨ c = TI ∨ c = TO ∨ c = i1 ∨ c = i2 := by simpa using hc
    rcases e' with q | q | q | q | q
    · rw [q]; exact ⟨_, hz, fun v q => nomatch q⟩
    · rw [q]; exact ⟨_, hTI, fun v q => nomatch q⟩
    · rw [q]; exact ⟨_, hTO, fun v q => nomatch q⟩
    · rw [q]; exact ⟨_, h1, fun v q => nomatch q⟩
    · rw [q]; exact ⟨o2, e2, fun v q => by rw [d2] at q; cases q⟩
  keep := fun i h h' st k => by
    obtain ⟨hz, hTI, ⟨x, y, hTO⟩, h1, h2⟩ := st
    exact ⟨k z (by simp) _ hz, k TI (by simp) _ hTI, ⟨x, y, k TO (by simp) _ hTO⟩, k i1 (by simp) _ h1, h2.at fun o q => k i2 (by simp) o q⟩
  item := by
    intro X hP hw hK hc i pins s σ H E I hf st hg
    subst hP hw hK
    obtain ⟨hz, hTI, ⟨x0, y0, hTO⟩, h1, h2⟩ := st
    obtain ⟨ys, y, hqy, hy, hin⟩ := hg
    obtain ⟨its2, rv2, p2, _⟩ := I.tuple hqy
    obtain ⟨u2, hu2, ru2⟩ := rv2.get hy
    have hzl : z < s.heap.objs.size := Heap.lt_size hz
    have hlt : i < its2.toArray.size := by rw [List.size_toArray]; exact (List.getElem?_eq_some_iff.mp hu2).1
    refine wpAny_pyNext_zipD2_item D (ZrR.draws (A := X.A.in1) (I.ok.hd hc) i1 lo n) (Draws.tuple (A := X.A.in1) (I.ok.hd hc) i2 b hbi its2.toArray) hz hTI hTO h1 ⟨h2, p2⟩ hin hlt fun x1 x2 h' tk P1 P2 z' TO' st1 st2 hT hsz hk => ?_
    obtain ⟨t1, rfl⟩ := P1
    obtain rfl : x2 = u2 := by
      have : its2[i]? = some x2 := by simpa using P2
      rw [hu2] at this
      exact (Option.some.inj this).symm
    obtain ⟨h2', p2'⟩ := st2
    refine ⟨_, rfl, wpAny_letOwnedTupleGo_zip (s := { s with heap := h', toks := tk }) z' fun h'' z'' sb => ?_⟩
    have hT2 : h''.get? s.heap.objs.size = some { cls := .type "tuple", data := .seq #[.int (lo + i) t1, x2] } := (sb.2 _ (Nat.ne_of_gt hzl)).trans hT
    have new : ObjOk X.prog X.w (upd H s.heap.objs.size (.tup [.int (lo + i), y])) h'' s.heap.objs.size (.tup [.int (lo + i), y]) :=
      ⟨by show 2 ≤ sizeLine; decide, [.int (lo + i) t1, x2], .cons ⟨_, rfl⟩ (.cons ru2 .nil), ⟨_, hT2, rfl, _, rfl⟩⟩
    have I1 : Inv X pins σ (upd H s.heap.objs.size (.tup [.int (lo + i), y])) { s with heap := h'', toks := tk } :=
      I.turnedNew (t' := tk) (ch := [z, TI, TO, i1, i2]) (fun c o hb q => (sb.2 c (fun q' => hb (by simp [q']))).trans (hk c o (fun q' => hb (by simp [q'])) (fun q' => hb (by simp [q'])) (fun q' => hb (by simp [q'])) (fun q' => hb (by simp [q'])) q)) hf (Nat.le_refl _) new
    refine ⟨.ref s.heap.objs.size, _, I1, rfl, ⟨_, y, rfl, I.hok.fresh (Nat.le_refl _), rfl, fun l hl => by rw [I.tuple_inj hl hqy]; exact hy⟩, ⟨z'', ?_, ⟨.int (lo + i) t1, x2, ?_⟩, ?_, ?_⟩, fun c hcm => ?_⟩
    · exact (sb.2 _ D.TIz).trans (hk _ _ D.TIz D.TITO D.TIi1 D.TIi2 hTI)
    · exact (sb.2 _ D.TOz).trans TO'
    · exact (sb.2 _ (Ne.symm D.zi1)).trans st1
    · exact h2'.at fun o q => (sb.2 _ (Ne.symm D.zi2)).trans q
    · have hlt : c < s.heap.objs.size := by
        have e' : c = z ∨ c = TI ∨ c = TO ∨ c = i1 ∨ c = i2 := by simpa using hcm
        rcases e' with q | q | q | q | q
        · rw [q]; exact hzl
        · rw [q]; exact Heap.lt_size hTI
        · rw [q]; exact Heap.lt_size hTO
        · rw [q]; exact Heap.lt_size h1
        · rw [q]; obtain ⟨_, e2, _⟩ := h2; exact Heap.lt_size e2
      rw [upd_ne (Nat.ne_of_lt hlt)]
      exact (hf c hcm).1
  done := by
    intro X hP hw hK hc i pins s σ H E I hf st hg
    subst hP hw hK
    obtain ⟨hz, hTI, ⟨x0, y0, hTO⟩, h1, h2⟩ := st
    obtain ⟨ys, hqy, rfl, hlen⟩ := hg
    obtain ⟨its2, rv2, p2, _⟩ := I.tuple hqy
    have l2 := rv2.length
    have hsz : its2.toArray.size = i := by rw [List.size_toArray]; omega
    exact wpAny_pyNext_zipD2_end D (ZrR.draws (A := X.A.in1) (I.ok.hd hc) i1 lo i) (Draws.tuple (A := X.A.in1) (I.ok.hd hc) i2 b hbi its2.toArray) hz hTI hTO h1 ⟨h2, p2⟩ (Nat.le_refl _) (by omega) (.inl rfl) fun h' tk hk => ⟨rfl, I.turnedL (t' := tk) (ch := [z, TI, TO, i1, i2]) (fun c o hb q =>
      hk c o (fun q' => hb (by simp [q'])) (fun q' => hb (by simp [q'])) (fun q' => hb (by simp [q'])) (fun q' => hb (by simp [q'])) q) hf⟩
  self := fun A i s Q E st h => wpAny_pyIter_zip st.1 h
def iZipR (K : PySem.W.Frag) (ta : TA) : TI := fun σ H R => ta σ H fun vs H1 => ∃ r b ys lo hi, vs = [.ref r, .ref b] ∧ H1 r = some (.rng lo hi) ∧ -(2 ^ 62) ≤ lo ∧ lo < 2 ^ 62 ∧ lo ≤ hi ∧ hi < 2 ^ 62 ∧ SqT K H1 b ys ∧ R (ItR K lo (hi - lo).toNat b) H1
theorem pi_zipR {X : Cx} {e e2 : Expr} {ta : TA} {p pos tpos : Pos} {elts : List Expr} {kk : Nat} (hg : Gl X "zip") (hm : X.mg "zip" = none) (ha : PA X [e, e2] ta)
    (hs : starEach [e, e2] X.env = (false, eval e X.env) :: starEach [e2] X.env := by rfl) (hpl : (backTo pos (starEach [e2] X.env)).any (·.1) = false := by rfl) :
    PI X (.Tuple elts kk tpos) (.Call (.Name "zip" p) [e, e2] [] pos) (iZipR X.K ta) := by
  refine ⟨fun pins s σ H R I h => ?_⟩
  refine Call_ (ld_blt I hg hm PyProof.Rows.boot_zip (PyProof.Rows.callWith_type1 (thn (ha.run pos pins s σ H _ I h) fun us s1 ⟨vs, H1, I1, r1, q1⟩ => ?_) hs hpl))
  obtain ⟨r, b, ys, lo, hi, ex, hr, g1, g2, g3, g4, hqy, q⟩ := q1
  subst ex
  cases r1 with
  | cons r0 rr =>
    cases rr with
    | cons r' rr =>
      cases rr
      cases r0
      cases r'
      obtain ⟨its2, rv2, p2, _⟩ := I1.tuple hqy
      obtain ⟨o2, ho2, _⟩ := id p2
      have hb : b < s1.heap.objs.size := Heap.lt_size ho2
      obtain ⟨t, u, v, hro⟩ := I1.hok _ _ hr
      have hn : Builtin.Range.rangeSize lo hi 1 = ((hi - lo).toNat : Int) := by
        unfold Builtin.Range.rangeSize
        split <;> split <;> first | omega | (rename_i x y; simp at *; omega)
      refine PySem.zip_begins2 (ZrR.begins r g1 g2 (by omega) g4) (begins_tuple b its2.toArray) hro p2 fun h' hz hTI hTO h1 h2 hsz hk => wpAny_pyIter_zip hz ?_
      have I2 : Inv X pins σ H1 { s1 with heap := h' } := I1.kept (t' := s1.toks) hk
      have D : PySem.ZipSep2 (s1.heap.objs.size + 4) (s1.heap.objs.size + 2) (s1.heap.objs.size + 3) s1.heap.objs.size (s1.heap.objs.size + 1) [s1.heap.objs.size] [s1.heap.objs.size + 1, b] := ZrR.sep _ _ hb
      rw [hn] at h1
      refine ⟨s1.heap.objs.size + 4, [s1.heap.objs.size + 4, s1.heap.objs.size + 2, s1.heap.objs.size + 3, s1.heap.objs.size, s1.heap.objs.size + 1], _, _, H1, rfl, I2, turn_zipR D (Nat.ne_of_lt (Nat.lt_succ_of_lt hb)), ⟨hz, hTI, ⟨_, _, hTO⟩, by simpa using h1, ⟨_, h2, rfl, rfl⟩⟩, fun c hcm => ?_, q⟩
      have e' : c = s1.heap.objs.size + 4 ∨ c = s1.heap.objs.size + 2 ∨ c = s1.heap.objs.size + 3 ∨ c = s1.heap.objs.size ∨ c = s1.heap.objs.size + 1 := by simpa using hcm
      have hle : s1.heap.objs.size ≤ c := by
        rcases e' with z | z | z | z | z
        · rw [z]; exact Nat.le_add_right _ _
        · rw [z]; exact Nat.le_add_right _ _
        · rw [z]; exact Nat.le_add_right _ _
        · rw [z]; exact Nat.le_refl _
        · rw [z]; exact Nat.le_add_right _ _
      exact I1.fpOk hle (I1.hok.fresh hle)
/-- over zip of a range and a tuple of one length -/
theorem for_zipR {σ : L2.St} {H : Hp} {K : PySem.W.Frag} {D : Ends} {lo : Int} {n : Nat} {b : Addr} {ys : List V} {g : TG} {tb : TS} (hlen : ys.length = n) (Pv : Nat → L2.St → Hp → Prop) (h0 : Pv 0 σ H) (hl : ∀ i σ H, i ≤ n → Pv i σ H → SqT K H b ys)
    (hs : ∀ i y σ H T, ys[i]? = some y → Pv i σ H → H T = none → g (.ref T) σ (upd H T (.tup [.int (lo + (i : Nat)), y])) fun σ2 H2 => tb { D with nx := Pv (i + 1), ct := Pv (i + 1), bk := D.nx } σ2 H2) (hd : ∀ σ H, Pv n σ H → D.nx σ H) :
    ∃ W : Nat → Nat → L2.St → Hp → Prop, (∃ m, W 0 m σ H) ∧ ∀ i m σ H, W i m σ H →
      ((ItR K lo n b).stop i H ∧ D.nx σ H) ∨ ((ItR K lo n b).go i H ∧ ∃ N : L2.St → Hp → Prop, (∀ σ' H', N σ' H' → ∃ m', m' < m ∧ W (i + 1) m' σ' H') ∧ ∀ x H', (ItR K lo n b).yld i H x H' → g x σ H' fun σ2 H2 => tb { D with nx := N, ct := N, bk := D.nx } σ2 H2) := by
  refine ⟨fun i m σ H => m = n - i ∧ i ≤ n ∧ Pv i σ H, ⟨n, by simp, Nat.zero_le _, h0⟩, ?_⟩
  rintro i m σ H ⟨rfl, hi, p⟩
  have q := hl i σ H hi p
  by_cases hlt : i < n
  · refine .inr ⟨⟨ys, ys[i]'(by omega), q, List.getElem?_eq_getElem (by omega), hlt⟩, Pv (i + 1), fun σ' H' p' => ⟨n - (i + 1), by omega, rfl, hlt, p'⟩, fun x H' y => ?_⟩
    obtain ⟨T, z, rfl, hT, rfl, hz⟩ := y
    exact hs i z σ H T (hz ys q) p hT
  · have e : i = n := by omega
    subst e
    exact .inl ⟨⟨ys, q, rfl, hlen⟩, hd σ H p⟩
end KA

namespace KA
open PySem PySem.Spec PyProof.Rows L2 Evl TL
section
variable {σ : L2.St} {H : Hp} {K : PySem.W.Frag} {D : Ends}
theorem q_forR1 {ta : TA} {g : TG} {tu tz : TS} {j : Int} (h : EvA ta σ H [.int j]) (hj : 0 ≤ j ∧ j < 1000000) (Pv : Nat → L2.St → Hp → Prop) (h0 : ∀ H1, Ex H H1 → Pv 0 σ H1)
    (hs : ∀ (i : Nat) σ' H', i < j.toNat → Pv i σ' H' → g (.int (0 + (i : Nat))) σ' H' fun σ2 H2 => tu { D with nx := Pv (i + 1), ct := Pv (i + 1), bk := tz D } σ2 H2) (hd : ∀ σ' H', Pv j.toNat σ' H' → tz D σ' H') : tSeq (tFor (iRng1 ta) g tu) tz D σ H :=
  h H (Ex.refl H) _ fun H1 e => ⟨j, rfl, by omega, by omega, for_range (D := { D with nx := tz D }) Pv (h0 H1 e) hs hd⟩
theorem s_forR1 {ta : TA} {g : TG} {tu : TS} {j : Int} (h : EvA ta σ H [.int j]) (hj : 0 ≤ j ∧ j < 1000000) (Pv : Nat → L2.St → Hp → Prop) (h0 : ∀ H1, Ex H H1 → Pv 0 σ H1)
    (hs : ∀ (i : Nat) σ' H', i < j.toNat → Pv i σ' H' → g (.int (0 + (i : Nat))) σ' H' fun σ2 H2 => tu { D with nx := Pv (i + 1), ct := Pv (i + 1), bk := D.nx } σ2 H2) (hd : ∀ σ' H', Pv j.toNat σ' H' → D.nx σ' H') : tFor (iRng1 ta) g tu D σ H :=
  h H (Ex.refl H) _ fun H1 e => ⟨j, rfl, by omega, by omega, for_range Pv (h0 H1 e) hs hd⟩
theorem el_rep {ta tb : TE} {xs : List V} {j : Int} (ha : EvL ta σ H xs) (hb : Ev tb σ H (.int j)) (hj : 0 ≤ j ∧ j < 100000) (hz : xs.length * j.toNat ≤ 100000) : EvL (tOp rRep ta tb) σ H (List.replicate j.toNat xs).flatten := fun H1 e Q q =>
  ha H1 e _ fun p H2 hp e2 h2 => hb H2 (e.trans e2) _ fun H3 e3 => ⟨p, j, xs, rfl, rfl, e3 _ _ h2, by omega, by omega, sz_of hz, fun l hl => q l _ (fresh_back (e2.trans e3) hl) ((e2.trans e3).trans (Ex.new hl)) upd_same⟩
theorem rv_ixT {p : Addr} {xs : List V} {i : Int} {v : V} (hp : H p = some (.tup xs)) (h : atI xs i = some v) : RV (rIxT K) (.ref p) (.int i) H v := fun H1 e Q q =>
  ⟨p, xs, i, v, rfl, rfl, st_of (e _ _ hp), h, q H1 (Ex.refl H1)⟩
end
section
variable {P : Program} {w : World} {K : PySem.W.Frag} {mg : Str → Option Value} {base : Heap}
section
variable {σ : L2.St} {H : Hp} {D : Ends} {m wl : Addr} {μ : Mem} {tm tf tp tx : TE} {tz : TS} {s p x : Int}
theorem q_putf (hM : MemAt K H m wl μ) (hm : Ev tm σ H (.ref m)) (hf : Ev tf σ H (.int s)) (hp : Ev tp σ H (.int p)) (hx : Ev tx σ H (.int x)) (hI : 0 ≤ s ∧ s < 256 ∧ 0 ≤ p ∧ p < 8) (k : ∀ H', MemAt K H' m wl (mset μ (s * 8 + p).toNat x) → Fr wl H H' → tz D σ H') :
    tSeq (tDrop (tCall (sp_put_field K) [] E0 (tCons tm (tCons tf (tCons tp (tCons tx tNil)))))) tz D σ H :=
  (ea_cons hm (ea_cons hf (ea_cons hp (ea_cons hx ea_nil))) : EvA (tCons tm (tCons tf (tCons tp (tCons tx tNil)))) σ H [.ref m, .int s, .int p, .int x]) H (Ex.refl H) (fun vs H1 => sp_put_field K (vs ++ []) H1 (fun _ H2 => tz D σ H2) E0) fun H1 e1 => ⟨m, wl, μ, s, p, x, rfl, hM.keep e1, hI.1, hI.2.1, hI.2.2.1, hI.2.2.2, fun H' h' f' => k H' h' ((Fr.of e1).trans f')⟩
theorem s_putf (hM : MemAt K H m wl μ) (hm : Ev tm σ H (.ref m)) (hf : Ev tf σ H (.int s)) (hp : Ev tp σ H (.int p)) (hx : Ev tx σ H (.int x)) (hI : 0 ≤ s ∧ s < 256 ∧ 0 ≤ p ∧ p < 8) (k : ∀ H', MemAt K H' m wl (mset μ (s * 8 + p).toNat x) → Fr wl H H' → D.nx σ H') :
    tDrop (tCall (sp_put_field K) [] E0 (tCons tm (tCons tf (tCons tp (tCons tx tNil))))) D σ H :=
  (ea_cons hm (ea_cons hf (ea_cons hp (ea_cons hx ea_nil))) : EvA (tCons tm (tCons tf (tCons tp (tCons tx tNil)))) σ H [.ref m, .int s, .int p, .int x]) H (Ex.refl H) (fun vs H1 => sp_put_field K (vs ++ []) H1 (fun _ H2 => D.nx σ H2) E0) fun H1 e1 => ⟨m, wl, μ, s, p, x, rfl, hM.keep e1, hI.1, hI.2.1, hI.2.2.1, hI.2.2.2, fun H' h' f' => k H' h' ((Fr.of e1).trans f')⟩
end
/-! ### a memory made -/
def m0 : Mem := fun _ => 0
theorem lW0 : lW m0 = List.replicate 2048 (.int 0) := by
  apply List.ext_getElem?
  intro j
  by_cases hj : j < 2048
  · rw [lW_at hj, List.getElem?_replicate]
    rw [if_pos hj]
    rfl
  · rw [List.getElem?_eq_none (by rw [lW_len]; omega), List.getElem?_eq_none (by rw [List.length_replicate]; omega)]
theorem rep1 {α : Type} (x : α) : ∀ n : Nat, (List.replicate n [x]).flatten = List.replicate n x
  | 0 => rfl
  | n + 1 => by rw [List.replicate_succ, List.flatten_cons, rep1 x n, List.replicate_succ]; rfl
def sp_Memory_init (K : PySem.W.Frag) : Sp := fun vs H Q _ => ∃ (m dx : Addr), vs = [.ref m] ∧ H m = some (.ins (CM K) dx []) ∧ ∀ wl H', H wl = none → MemAt K H' m wl m0 → FS [m] H H' → Q .non H'
theorem ok_Memory_init (T : Txt K mg) : FnOk P w K mg base CX0 1 (f_Memory_init K) (fd_Memory_init K) ["self"] (sp_Memory_init K) := by
  refine T.fn_Memory_init.ok sc_Memory_init (fun vs H Q E h => ?_) (fun cdv A outer s H vs Q E hr h => ⟨_, PSs.nox (pss_cons (ps_fld (pv 0) (pe_op op_rep (pe_lst (pa_cons pe_int pa_nil)) (pe_op op_mul (T.pg_FRAMES) (T.pg_FRAME))) rfl) (pss_one (ps_fld (pv 0) pe_dnewK rfl))), ?_⟩)
  · obtain ⟨_, _, rfl, _⟩ := h
    rfl
  · obtain ⟨m, dx, rfl, hm, k⟩ := h
    have ew : (List.replicate (Int.toNat (32 * 64)) [V.int 0]).flatten = lW m0 := by rw [rep1, lW0]; rfl
    refine q_fldL (xs := (List.replicate (Int.toNat (32 * 64)) [V.int 0]).flatten) (el_rep (el_lst (vs := [.int 0]) (ea_cons ev_c ea_nil) (by decide)) (ev_op ev_c ev_c (rv_I (.inr ⟨by decide, by decide⟩))) (by decide) (by show 1 * 2048 ≤ 100000; decide)) (ev_var rfl) hm T.cl_Memory T.no_Memory_words (by decide) fun wl H2 hwH e2 h2 => ?_
    rw [ew] at h2
    have nw : wl ≠ m := fun z => by rw [z, hm] at hwH; cases hwH
    have f3 : FS [m] H (upd H2 m (.ins (CM K) dx (putF "_words" (.ref wl) []))) := (FS.of e2).trans (FS.put (by simp))
    have h3 : (upd H2 m (.ins (CM K) dx (putF "_words" (.ref wl) []))) m = some (.ins (CM K) dx (putF "_words" (.ref wl) [])) := upd_same
    have w3 : (upd H2 m (.ins (CM K) dx (putF "_words" (.ref wl) []))) wl = some (.lst (lW m0)) := by rw [upd_ne nw]; exact h2
    show sFld K (tVar 0) tDNewK "_disks" _ _ (upd H2 m (.ins (CM K) dx (putF "_words" (.ref wl) [])))
    generalize upd H2 m (.ins (CM K) dx (putF "_words" (.ref wl) [])) = H3 at f3 h3 w3 ⊢
    intro dd hdd
    have e4 : Ex H3 (upd H3 dd (.dK [])) := Ex.new hdd
    have h4 : (upd H3 dd (.dK [])) dd = some (.dK []) := upd_same
    generalize upd H3 dd (.dK []) = H4 at e4 h4 ⊢
    have ndm : dd ≠ m := fun z => by rw [z, h3] at hdd; cases hdd
    refine ⟨_, rfl, m, CM K, dx, _, rfl, e4 _ _ h3, T.cl_Memory, T.no_Memory_disks, by show 1 < 1000; decide, ?_⟩
    exact (k wl _ hwH ⟨⟨dx, dd, upd_same, [], by rw [upd_ne ndm]; exact h4⟩, by rw [upd_ne nw]; exact e4 _ _ w3⟩ ((f3.trans (FS.of e4)).trans (FS.put (by simp))))
/-! ### a capability put -/
def mputs (μ : Mem) (s : Int) (c : Nat → Int) : Nat → Mem
  | 0 => μ
  | k + 1 => mset (mputs μ s c k) (s * 8 + (k : Int)).toNat (c k)
def mcap (μ : Mem) (s : Int) (c : Nat → Int) (sz us : Int) : Mem := mset (mset (mset (mputs μ s c 4) (s * 8 + 4).toNat 0) (s * 8 + 5).toNat sz) (s * 8 + 6).toNat us
def capV (c : Nat → Int) : List V := [.int (c 0), .int (c 1), .int (c 2), .int (c 3)]
theorem capV_at {c : Nat → Int} {i : Nat} (h : i < 4) : atI (capV c) (0 + (i : Nat)) = some (.int (c i)) := by
  have : i = 0 ∨ i = 1 ∨ i = 2 ∨ i = 3 := by omega
  rcases this with e | e | e | e <;> subst e <;> rfl
def sp_put_cap (K : PySem.W.Frag) : Sp := fun vs H Q _ => ∃ (m wl pc : Addr) (μ : Mem) (s sz us : Int) (c : Nat → Int), vs = [.ref m, .int s, .ref pc, .non, .int sz, .int us] ∧ MemAt K H m wl μ ∧ 0 ≤ s ∧ s < 256 ∧ H pc = some (.tup (capV c)) ∧ ∀ H', MemAt K H' m wl (mcap μ s c sz us) → Fr wl H H' → Q .non H'
theorem ok_put_cap (T : Txt K mg) : FnOk P w K mg base CX0 3 (f_put_cap K) (fd_put_cap K) ["memory", "slot", "cap", "parent", "size", "used"] (sp_put_cap K) := by
  refine T.fn_put_cap.ok sc_put_cap (fun vs H Q E h => ?_) (fun cdv A outer s H vs Q E hr h => ⟨_, PSs.nox (pss_cons (ps_for PassesOwn.never rfl (pi_range1 (by rfl) T.free_range (pa_cons pe_int pa_nil)) (pg_name (i := 6) sc_put_cap.nd rfl (Or.inl rfl)) (pss_one (ps_expr (pe_call (ok_put_field T) (hr.mono (by decide)) (by rfl) (T.glo_put_field) (T.kp_put_field) (T.bd_put_field) .nil pass0 (pa_cons (pv 0) (pa_cons (pv 1) (pa_cons (pv 6) (pa_cons (pe_ix ix_tup (pv 2) (pv 6) (fun _ _ => rfl)) pa_nil)))))))) (pss_cons (ps_expr (pe_call (ok_put_field T) (hr.mono (by decide)) (by rfl) (T.glo_put_field) (T.kp_put_field) (T.bd_put_field) .nil pass0 (pa_cons (pv 0) (pa_cons (pv 1) (pa_cons pe_int (pa_cons (pe_ifExp (pt_cmpR op_isN (pv 3) pe_non (nomark _)) pe_int (pe_op op_add (pv 3) pe_int)) pa_nil)))))) (pss_cons (ps_expr (pe_call (ok_put_field T) (hr.mono (by decide)) (by rfl) (T.glo_put_field) (T.kp_put_field) (T.bd_put_field) .nil pass0 (pa_cons (pv 0) (pa_cons (pv 1) (pa_cons pe_int (pa_cons (pv 4) pa_nil)))))) (pss_one (ps_expr (pe_call (ok_put_field T) (hr.mono (by decide)) (by rfl) (T.glo_put_field) (T.kp_put_field) (T.bd_put_field) .nil pass0 (pa_cons (pv 0) (pa_cons (pv 1) (pa_cons pe_int (pa_cons (pv 5) pa_nil)))))))))), ?_⟩)
  · obtain ⟨_, _, _, _, _, _, _, _, rfl, _⟩ := h
    rfl
  · obtain ⟨m, wl, pc, μ, s0, sz, us, c, rfl, hM, s1, s2, hc, k⟩ := h
    refine q_forR1 (j := 4) (ea_cons ev_c ea_nil) (by decide) (fun i σ' H' => ∃ x6, σ' = [some (.ref m), some (.int s0), some (.ref pc), some .non, some (.int sz), some (.int us), x6] ∧ MemAt K H' m wl (mputs μ s0 c i) ∧ Fr wl H H') (fun H1 e1 => ⟨none, rfl, hM.keep e1, Fr.of e1⟩) ?_ ?_
    · rintro i σ' H' hi ⟨x6, rfl, hM', f'⟩
      have hi4 : i < 4 := hi
      have hpc : H' pc = some (.tup (capV c)) := f' _ _ hc (ne_of hc hM.ws (by intro z; cases z))
      refine s_putf hM' (ev_var rfl) (ev_var rfl) (ev_var rfl) (ev_op (ev_var rfl) (ev_var rfl) (rv_ixT hpc (capV_at hi4))) ⟨s1, s2, by omega, by omega⟩ fun H2 h2 f2 => ⟨_, rfl, ?_, f'.trans f2⟩
      have e0 : s0 * 8 + (0 + (i : Int)) = s0 * 8 + (i : Int) := by omega
      rw [e0] at h2
      exact h2
    · rintro σ' H1 ⟨x6, rfl, hM1, f1⟩
      refine q_putf hM1 (ev_var rfl) (ev_var rfl) ev_c (ev_if (b := true) (et_is (et_test (ev_op (ev_var rfl) ev_c rv_isN)) rfl) (fun _ => ev_c) (fun h => by cases h)) ⟨s1, s2, by decide, by decide⟩ fun H2 h2 f2 => ?_
      refine q_putf h2 (ev_var rfl) (ev_var rfl) ev_c (ev_var rfl) ⟨s1, s2, by decide, by decide⟩ fun H3 h3 f3 => ?_
      refine s_putf h3 (ev_var rfl) (ev_var rfl) ev_c (ev_var rfl) ⟨s1, s2, by decide, by decide⟩ fun H4 h4 f4 => ?_
      exact k H4 h4 (((f1.trans f2).trans f3).trans f4)
/-! ### an entry put -/
def ment (μ : Mem) (t pg : Int) (c : Nat → Int) : Nat → Mem
  | 0 => μ
  | k + 1 => mset (ment μ t pg c k) (ix t (pg * 4 + (k : Int))) (c k)
def ent3 (c : Nat → Int) : List V := [.int (c 0), .int (c 1), .int (c 2)]
theorem ent3_at {c : Nat → Int} {i : Nat} (h : i < 3) : atI (ent3 c) (0 + (i : Nat)) = some (.int (c i)) := by
  have : i = 0 ∨ i = 1 ∨ i = 2 := by omega
  rcases this with e | e | e <;> subst e <;> rfl
def sp_put_entry (K : PySem.W.Frag) : Sp := fun vs H Q _ => ∃ (m wl pc : Addr) (μ : Mem) (t pg : Int) (c : Nat → Int), vs = [.ref m, .int t, .int pg, .ref pc] ∧ MemAt K H m wl μ ∧ InF t ∧ 2 ≤ t ∧ 0 ≤ pg ∧ pg < 8 ∧ μ (ix 1 t) ≠ 8 ∧ H pc = some (.tup (ent3 c)) ∧ ∀ H', MemAt K H' m wl (ment μ t pg c 3) → Fr wl H H' → Q .non H'
theorem ix_ne {f p f' p' : Int} (h : 0 ≤ f * 64 + p) (h' : 0 ≤ f' * 64 + p') (n : f * 64 + p ≠ f' * 64 + p') : ix f p ≠ ix f' p' := by unfold ix; omega
theorem ment_other {μ : Mem} {t pg : Int} {c : Nat → Int} {j : Nat} : ∀ (i : Nat), (∀ k : Nat, k < i → j ≠ ix t (pg * 4 + (k : Int))) → ment μ t pg c i j = μ j
  | 0, _ => rfl
  | i + 1, h => by
    show mset (ment μ t pg c i) (ix t (pg * 4 + (i : Int))) (c i) j = μ j
    unfold mset
    rw [if_neg (h i (Nat.lt_succ_self i))]
    exact ment_other i fun k hk => h k (Nat.lt_succ_of_lt hk)
theorem ok_put_entry (T : Txt K mg) : FnOk P w K mg base CX0 4 (f_put_entry K) (fd_put_entry K) ["memory", "table", "page", "told"] (sp_put_entry K) := by
  refine T.fn_put_entry.ok sc_put_entry (fun vs H Q E h => ?_) (fun cdv A outer s H vs Q E hr h => ⟨_, PSs.nox (pss_one (ps_for PassesOwn.never rfl (pi_range1 (by rfl) T.free_range (pa_cons pe_int pa_nil)) (pg_name (i := 4) sc_put_entry.nd rfl (Or.inl rfl)) (pss_one (ps_expr (pe_meth (pv 0) (T.cl_Memory) (T.mt_Memory_put) (ok_Memory_put T) (hr.mono (by decide)) (T.bd_Memory_put) .nil pass0 (pa_cons (pv 1) (pa_cons (pe_op op_add (pe_call (ok_entry_at T) (hr.mono (by decide)) (by rfl) (T.glo_entry_at) (T.kp_entry_at) (T.bd_entry_at) .nil pass0 (pa_cons (pv 0) (pa_cons (pv 1) (pa_cons (pv 2) pa_nil)))) (pv 4)) (pa_cons (pe_ix ix_tup (pv 3) (pv 4) (fun _ _ => rfl)) pa_nil)))))))), ?_⟩)
  · obtain ⟨_, _, _, _, _, _, _, rfl, _⟩ := h
    rfl
  · obtain ⟨m, wl, pc, μ, t, pg, c, rfl, hM, hI, t2, p1, p2, h8, hc, k⟩ := h
    refine s_forR1 (j := 3) (ea_cons ev_c ea_nil) (by decide) (fun i σ' H' => ∃ x4, σ' = [some (.ref m), some (.int t), some (.int pg), some (.ref pc), x4] ∧ MemAt K H' m wl (ment μ t pg c i) ∧ Fr wl H H') (fun H1 e1 => ⟨none, rfl, hM.keep e1, Fr.of e1⟩) ?_ ?_
    · rintro i σ' H' hi ⟨x4, rfl, hM', f'⟩
      have hi3 : i < 3 := hi
      have hpc : H' pc = some (.tup (ent3 c)) := f' _ _ hc (ne_of hc hM.ws (by intro z; cases z))
      have h8' : ment μ t pg c i (ix 1 t) ≠ 8 := by
        rw [ment_other i fun k hk => ix_ne (by omega) (by omega) (by omega)]
        exact h8
      refine s_put hM' (ev_var rfl) (ev_var rfl) (ev_op (ev_pure (z := .int (pg * 4)) (ea_cons (ev_var rfl) (ea_cons (ev_var rfl) (ea_cons (ev_var rfl) ea_nil))) fun H1 e Q q => ⟨m, wl, _, t, pg, rfl, hM'.keep e, hI, h8', q⟩) (ev_var rfl) rv_I0) (ev_op (ev_var rfl) (ev_var rfl) (rv_ixT hpc (ent3_at hi3))) (by omega) fun H2 h2 f2 => ⟨_, rfl, ?_, f'.trans f2⟩
      have e0 : pg * 4 + (0 + (i : Int)) = pg * 4 + (i : Int) := by omega
      rw [e0] at h2
      exact h2
    · rintro σ' H1 ⟨x4, rfl, hM1, f1⟩
      exact k H1 hM1 f1
end
end KA

namespace KA
open PySem PySem.Spec PyProof.Rows L2 Evl TL
/-! ### rules -/
section
variable {σ : L2.St} {H H' : Hp} {K : PySem.W.Frag} {D : Ends}
theorem ev_lenT {p : Addr} {xs : List V} {ta : TE} (ha : Ev ta σ H (.ref p)) (h : SqT K H p xs) : Ev (tCB (fun xs H Q => ∃ x n, xs = [x] ∧ LenV K x H n ∧ Q (.int n) H) (tCons ta tNil)) σ H (.int (xs.length : Int)) := fun H1 e Q q =>
  ha H1 e _ fun H2 e2 => ⟨_, xs.length, rfl, .inr ⟨_, ex_t (e.trans e2) h, rfl⟩, q H2 e2⟩
theorem ev_chV {r r' : R2} {ta tb tc : TE} {x y z : V} {k k' : Bool} (ha : Ev ta σ H x) (hb : Ev tb σ H y) (hr : RV r x y H (.bl k)) (hc : Ev tc σ H z) (hr' : RV r' y z H (.bl k')) : Ev (tChain r r' ta tb tc) σ H (.bl (k && k')) := fun H1 e Q q =>
  ha H1 e _ fun H2 e2 => hb H2 (e.trans e2) _ fun H3 e3 => hr H3 ((e.trans e2).trans e3) _ fun H4 e4 => ⟨k, rfl, by
    cases k with
    | true =>
      refine iteT (hc H4 (((e.trans e2).trans e3).trans e4) _ fun H5 e5 => hr' H5 ((((e.trans e2).trans e3).trans e4).trans e5) _ fun H6 e6 => q H6 ?_)
      exact ((((e2.trans e3).trans e4).trans e5).trans e6)
    | false => exact iteF (q H4 ((e2.trans e3).trans e4))⟩
/-- the tuples stand -/
def TK (H H' : Hp) : Prop := ∀ b xs, H b = some (.tup xs) → H' b = some (.tup xs)
theorem TK.ex (e : Ex H H') : TK H H' := fun b xs h => e b _ h
theorem TK.fr {wl : Addr} {ws : List V} (f : Fr wl H H') (h : H wl = some (.lst ws)) : TK H H' := fun b xs q => f b _ q (ne_of q h (by intro z; cases z))
theorem TK.trans {H1 H2 H3 : Hp} (a : TK H1 H2) (b : TK H2 H3) : TK H1 H3 := fun c xs h => b c xs (a c xs h)
abbrev Pr : Type := V → Hp → Prop
def Mo (P : Pr) : Prop := ∀ v H H', TK H H' → P v H → P v H'
def EvP (te : TE) (σ : L2.St) (H : Hp) (P : Pr) : Prop := ∀ H1, Ex H H1 → ∀ Q : VK, (∀ v H2, Ex H1 H2 → P v H2 → Q v H2) → te σ H1 Q
inductive Al : List Pr → List V → Hp → Prop
  | nil {H : Hp} : Al [] [] H
  | cons {H : Hp} {P : Pr} {Ps : List Pr} {v : V} {vs : List V} (h : P v H) (r : Al Ps vs H) : Al (P :: Ps) (v :: vs) H
theorem Al.mono {Ps : List Pr} {vs : List V} (m : ∀ P ∈ Ps, Mo P) (k : TK H H') (a : Al Ps vs H) : Al Ps vs H' := by
  induction a with
  | nil => exact .nil
  | cons h r ih => exact .cons (m _ (List.mem_cons_self ..) _ _ _ k h) (ih (fun P hP => m P (List.mem_cons_of_mem _ hP)) k)
theorem Al.at {Ps : List Pr} {vs : List V} (a : Al Ps vs H) {i : Nat} {v : V} (h : vs[i]? = some v) : ∃ P, Ps[i]? = some P ∧ P v H := by
  induction a generalizing i with
  | nil => cases h
  | cons g r ih =>
    cases i with
    | zero => cases h; exact ⟨_, rfl, g⟩
    | succ i => exact ih h
theorem Al.len {Ps : List Pr} {vs : List V} (a : Al Ps vs H) : vs.length = Ps.length := by
  induction a with
  | nil => rfl
  | cons g r ih => rw [List.length_cons, List.length_cons, ih] <;> rfl
def EvPs (ta : TA) (σ : L2.St) (H : Hp) (Ps : List Pr) : Prop := ∀ H1, Ex H H1 → ∀ Q : List V → Hp → Prop, (∀ vs H2, Ex H1 H2 → Al Ps vs H2 → Q vs H2) → ta σ H1 Q
theorem eps_nil : EvPs tNil σ H [] := fun H1 e Q q => q [] H1 (Ex.refl H1) .nil
theorem eps_cons {te : TE} {ta : TA} {P : Pr} {Ps : List Pr} (m : Mo P) (h : EvP te σ H P) (hr : EvPs ta σ H Ps) : EvPs (tCons te ta) σ H (P :: Ps) := fun H1 e Q q =>
  h H1 e _ fun v H2 e2 p => hr H2 (e.trans e2) _ fun vs H3 e3 a => q _ H3 (e2.trans e3) (.cons (m _ _ _ (TK.ex e3) p) a)
theorem q_forPU {ta : TA} {Ps : List Pr} {g : TG} {tu tz : TS} (hm : ∀ P ∈ Ps, Mo P) (hl : Ps.length ≤ 100000) (h : EvPs ta σ H Ps)
    (k : ∀ p vs H1, Ex H H1 → H1 p = some (.tup vs) → Al Ps vs H1 → ∃ Pv : Nat → L2.St → Hp → Prop, Pv 0 σ H1 ∧ (∀ i σ' H', i ≤ vs.length → Pv i σ' H' → H' p = some (.tup vs)) ∧
      (∀ i x σ' H', vs[i]? = some x → Pv i σ' H' → g x σ' H' fun σ2 H2 => tu { D with nx := Pv (i + 1), ct := Pv (i + 1), bk := tz D } σ2 H2) ∧ ∀ σ' H', Pv vs.length σ' H' → tz D σ' H') : tSeq (tFor (iTup K (tTup ta)) g tu) tz D σ H :=
  h H (Ex.refl H) _ fun vs H1 e1 a => ⟨sz_of (by rw [a.len]; exact hl), fun p hp => by
    have e2 : Ex H1 (L2.upd H1 p (.tup vs)) := Ex.new hp
    obtain ⟨Pv, h0, h1, h2, h3⟩ := k p vs _ (e1.trans e2) upd_same (a.mono hm (TK.ex e2))
    exact ⟨p, rfl, ⟨vs, st_of upd_same⟩, for_tup (D := { D with nx := tz D }) Pv h0 (fun i σ' H' hi hp => st_of (h1 i σ' H' hi hp)) h2 h3⟩⟩
theorem q_forZR {ta tb : TE} {ty : TA} {g : TG} {tu tz : TS} {lo hi : Int} {ys : List V} (ha : Ev ta σ H (.int lo)) (hb : Ev tb σ H (.int hi)) (hy : EvA ty σ H ys) (hz : ys.length ≤ 100000) (hl : 0 ≤ lo ∧ hi = lo + (ys.length : Int) ∧ lo < 1000000) (Pv : Addr → Nat → L2.St → Hp → Prop)
    (h0 : ∀ p H1, Ex H H1 → H1 p = some (.tup ys) → Pv p 0 σ H1) (h1 : ∀ p i σ' H', Pv p i σ' H' → H' p = some (.tup ys))
    (hs : ∀ p i y σ' H' T, ys[i]? = some y → Pv p i σ' H' → H' T = none → g (.ref T) σ' (L2.upd H' T (.tup [.int (lo + (i : Nat)), y])) fun σ2 H2 => tu { D with nx := Pv p (i + 1), ct := Pv p (i + 1), bk := tz D } σ2 H2) (hd : ∀ p σ' H', Pv p ys.length σ' H' → tz D σ' H') :
    tSeq (tFor (iZipR K (tCons (tCB (fun vs H Q => ∃ i j, vs = [V.int i, V.int j] ∧ ∀ p, H p = none → Q (.ref p) (L2.upd H p (.rng i j))) (tCons ta (tCons tb tNil))) (tCons (tTup ty) tNil))) g tu) tz D σ H :=
  ha H (Ex.refl H) _ fun H1 e1 => hb H1 e1 _ fun H2 e2 => ⟨lo, hi, rfl, fun r hr =>
    have e3 : Ex H2 (L2.upd H2 r (.rng lo hi)) := Ex.new hr
    have eh : (hi - lo).toNat = ys.length := by omega
    hy _ ((e1.trans e2).trans e3) _ fun H4 e4 => ⟨sz_of hz, fun p hp =>
      have e5 : Ex H4 (L2.upd H4 p (.tup ys)) := Ex.new hp
      ⟨r, p, ys, lo, hi, rfl, e5 _ _ (e4 _ _ upd_same), by omega, by omega, by omega, by omega, st_of upd_same, by
        rw [eh]
        exact for_zipR (D := { D with nx := tz D }) rfl (Pv p) (h0 p _ ((((e1.trans e2).trans e3).trans e4).trans e5) upd_same) (fun i σ' H' hi' hp' => st_of (h1 p i σ' H' hp')) (fun i y σ' H' T hy' hp' hT => hs p i y σ' H' T hy' hp' hT) (hd p)⟩⟩⟩
theorem q_forET {te : TE} {g : TG} {tu tz : TS} {a : Addr} {xs : List V} (h : Ev te σ H (.ref a)) (hx : SqT K H a xs) (Pv : Nat → L2.St → Hp → Prop) (h0 : ∀ H1, Ex H H1 → Pv 0 σ H1) (h1 : ∀ i σ' H', Pv i σ' H' → SqT K H' a xs)
    (hs : ∀ i y σ' H' T, xs[i]? = some y → Pv i σ' H' → H' T = none → g (.ref T) σ' (L2.upd H' T (.tup [.int (i : Nat), y])) fun σ2 H2 => tu { D with nx := Pv (i + 1), ct := Pv (i + 1), bk := tz D } σ2 H2) (hd : ∀ σ' H', Pv xs.length σ' H' → tz D σ' H') :
    tSeq (tFor (iEnumT K (tCons te tNil)) g tu) tz D σ H :=
  h H (Ex.refl H) _ fun H1 e1 => ⟨a, xs, rfl, ex_t e1 hx, for_enumT (D := { D with nx := tz D }) Pv (h0 H1 e1) (fun i σ' H' hi hp => h1 i σ' H' hp) hs hd⟩
theorem q_forZT {te : TE} {ty : TA} {g : TG} {tu tz : TS} {a : Addr} {xs ys : List V} (h : Ev te σ H (.ref a)) (hx : H a = some (.tup xs)) (hy : EvA ty σ H ys) (hz : ys.length ≤ 100000) (hl : xs.length = ys.length) (Pv : Addr → Nat → L2.St → Hp → Prop)
    (h0 : ∀ p H1, Ex H H1 → H1 p = some (.tup ys) → Pv p 0 σ H1) (h1 : ∀ p i σ' H', Pv p i σ' H' → H' p = some (.tup ys) ∧ H' a = some (.tup xs))
    (hs : ∀ p i x y σ' H' T, xs[i]? = some x → ys[i]? = some y → Pv p i σ' H' → H' T = none → g (.ref T) σ' (L2.upd H' T (.tup [x, y])) fun σ2 H2 => tu { D with nx := Pv p (i + 1), ct := Pv p (i + 1), bk := tz D } σ2 H2) (hd : ∀ p σ' H', Pv p xs.length σ' H' → tz D σ' H') :
    tSeq (tFor (RZ.iZipA K (tCons te (tCons (tTup ty) tNil))) g tu) tz D σ H :=
  h H (Ex.refl H) _ fun H1 e1 => hy H1 e1 _ fun H2 e2 => ⟨sz_of hz, fun p hp =>
    have e3 : Ex H2 (L2.upd H2 p (.tup ys)) := Ex.new hp
    ⟨a, p, xs, ys, rfl, .inr ⟨st_of (e3 _ _ (e2 _ _ (e1 _ _ hx))), st_of upd_same, RZ.for_zipT (D := { D with nx := tz D }) hl (Pv p) (h0 p _ ((e1.trans e2).trans e3) upd_same) (fun i σ' H' hp' => ⟨st_of (h1 p i σ' H' hp').2, st_of (h1 p i σ' H' hp').1⟩) (fun i x y T σ' H' hx' hy' hp' hT => hs p i x y σ' H' T hx' hy' hp' hT) (hd p)⟩⟩⟩
end
end KA

namespace KQ
open KA
open PySem PySem.Spec PyProof.Rows L2 Evl TL
/-! ### readers -/
section
variable {σ : L2.St} {H : Hp} {t : TT} {te : TE}
/-- a list comprehension over range(lo, hi) -/
theorem el_lcR2 {ta : TA} {j : Nat} {vs : List Nat} {lo hi : Int} {n : Nat} (f : Nat → Bool) (v : Nat → V) (h : EvA ta σ H [.int lo, .int hi]) (hn : hi = lo + (n : Int) ∧ n ≤ 40000 ∧ -100000 ≤ lo ∧ lo ≤ 100000) (hw : ∀ x, wipe ((wipe σ vs).set j (some x)) vs = wipe σ vs)
    (ht : ∀ (i : Nat) H1, Ex H H1 → i < n → EvT t ((wipe σ vs).set j (some (.int (lo + (i : Int))))) H1 (f i)) (he : ∀ (i : Nat) H1, Ex H H1 → i < n → f i = true → Ev te ((wipe σ vs).set j (some (.int (lo + (i : Int))))) H1 (v i)) :
    EvL (tLc (iRng2 ta) (gName j) t te vs) σ H (given n f v) := fun H0 e Q q => h H0 e _ fun H1 e1 => ⟨lo, hi, rfl, ⟨by omega, by omega, by omega, by omega⟩, fun Dl hD => by
  have en : (hi - lo).toNat = n := by omega
  rw [en]
  exact lc_range (lo := lo) (n := n) (Cw H1 f v Dl) ⟨hD, Ex.new hD, upd_same⟩ (fun i H' hi p => ⟨hw _, cw_turn p (by omega) (ht i H1 (e.trans e1) hi) (fun hf => he i H1 (e.trans e1) hi hf)⟩) (fun H' p => q Dl H' (fresh_back e1 p.1) (e1.trans p.2.1) p.2.2)⟩
end
section
variable {σ : L2.St} {H : Hp} {K : PySem.W.Frag} {D : Ends} {ta tb tc : TE} {tz : TS} {i j l : Nat} {u v w : V}
theorem eu_is {te : TE} {σ : L2.St} {H : Hp} {xs ys : List V} (h : EvU te σ H xs) (e : xs = ys) : EvU te σ H ys := e ▸ h
theorem el_is {te : TE} {σ : L2.St} {H : Hp} {xs ys : List V} (h : EvL te σ H xs) (e : xs = ys) : EvL te σ H ys := e ▸ h
/-- a, b = e, f through a tuple -/
theorem q_unp2 (ha : Ev ta σ H v) (hb : Ev tb σ H w) (k : ∀ H1, Ex H H1 → tz D ((σ.set i (some v)).set j (some w)) H1) : tSeq (tAsg (tTup (tCons ta (tCons tb tNil))) (gTup K 2 (gCons (gName i) (gCons (gName j) gNil)))) tz D σ H :=
  (eu_tup (ea_cons ha (ea_cons hb ea_nil)) (by show 2 ≤ 100000; decide) : EvU _ σ H [v, w]) H (Ex.refl H) (fun x H1 => gTup K 2 (gCons (gName i) (gCons (gName j) gNil)) x σ H1 (tz D)) fun t H1 ht e1 h1 => ⟨t, _, rfl, st_of h1, rfl, _, _, rfl, _, _, rfl, rfl, k H1 e1⟩
theorem q_parLV {xs : List V} (ha : EvL ta σ H xs) (hb : ∀ H1, Ex H H1 → Ev tb σ H1 w) (k : ∀ p H1, H p = none → Ex H H1 → H1 p = some (.lst xs) → tz D ((σ.set i (some (.ref p))).set j (some w)) H1) : tSeq (tPar i j (tCons ta (tCons tb tNil))) tz D σ H :=
  ha H (Ex.refl H) (fun x H1 => tCons tb tNil σ H1 fun vs H2 => ∃ v w, x :: vs = [v, w] ∧ tz D ((σ.set i (some v)).set j (some w)) H2) fun p H1 hp e1 h1 => hb H1 e1 H1 (Ex.refl H1) (fun y H2 => ∃ v w, [V.ref p, y] = [v, w] ∧ tz D ((σ.set i (some v)).set j (some w)) H2) fun H2 e2 => ⟨_, _, rfl, k p H2 hp (e1.trans e2) (e2 _ _ h1)⟩
theorem q_unp3 (ha : Ev ta σ H u) (hb : Ev tb σ H v) (hc : Ev tc σ H w) (k : ∀ H1, Ex H H1 → tz D (((σ.set i (some u)).set j (some v)).set l (some w)) H1) : tSeq (tAsg (tTup (tCons ta (tCons tb (tCons tc tNil)))) (gTup K 3 (gCons (gName i) (gCons (gName j) (gCons (gName l) gNil))))) tz D σ H :=
  (eu_tup (ea_cons ha (ea_cons hb (ea_cons hc ea_nil))) (by show 3 ≤ 100000; decide) : EvU _ σ H [u, v, w]) H (Ex.refl H) (fun x H1 => gTup K 3 (gCons (gName i) (gCons (gName j) (gCons (gName l) gNil))) x σ H1 (tz D)) fun t H1 ht e1 h1 => ⟨t, _, rfl, st_of h1, rfl, _, _, rfl, _, _, rfl, _, _, rfl, rfl, k H1 e1⟩
end
def fld (μ : Mem) (s p : Int) : Int := μ (s * 8 + p).toNat
section
variable {P : Program} {w : World} {K : PySem.W.Frag} {mg : Str → Option Value} {base : Heap}
def sp_field (K : PySem.W.Frag) : Sp := fun vs H Q _ => ∃ (m wl : Addr) (μ : Mem) (s p : Int), vs = [.ref m, .int s, .int p] ∧ MemAt K H m wl μ ∧ 0 ≤ s ∧ s < 256 ∧ 0 ≤ p ∧ p < 8 ∧ ∀ H', Ex H H' → Q (.int (fld μ s p)) H'
theorem ok_field (T : Txt K mg) : FnOk P w K mg base CX0 2 (f_field K) (fd_field K) ["memory", "slot", "place"] (sp_field K) := by
  refine T.fn_field.ok sc_field (fun vs H Q E h => ?_) (fun cdv A outer s H vs Q E hr h => ⟨_, PSs.nox (pss_one (ps_ret (pe_meth (pv 0) (T.cl_Memory) (T.mt_Memory_word) (ok_Memory_word T) (hr.mono (by decide)) (T.bd_Memory_word) .nil pass0 (pa_cons (pe_op op_fdiv (pv 1) (T.pg_SLOTS)) (pa_cons (pe_op op_add (pe_op op_mul (pe_op op_mod (pv 1) (T.pg_SLOTS)) pe_int) (pv 2)) pa_nil))))), ?_⟩)
  · obtain ⟨_, _, _, _, _, rfl, _⟩ := h
    rfl
  · obtain ⟨m, wl, μ, s0, p, rfl, hM, h1, h2, h3, h4, k⟩ := h
    refine s_ret (v := .int (fld μ s0 p)) (ev_is (ev_word hM (ev_var rfl) (ev_div (ev_var rfl) ev_c ⟨by decide, by decide⟩) (ev_op (ev_op (ev_mod (ev_var rfl) ev_c (by decide)) ev_c (rv_I (.inr ⟨by decide, by decide⟩))) (ev_var rfl) rv_I0) (by omega)) ?_) k
    unfold fld
    rw [ix_slot]
section
variable {σ : L2.St} {H : Hp} {D : Ends} {m wl : Addr} {μ : Mem} {tm tf tp : TE} {tz : TS} {f p s : Int}
theorem ev_field (hM : MemAt K H m wl μ) (hm : Ev tm σ H (.ref m)) (hf : Ev tf σ H (.int s)) (hp : Ev tp σ H (.int p)) (h : 0 ≤ s ∧ s < 256 ∧ 0 ≤ p ∧ p < 8) : Ev (tCall (sp_field K) [] E0 (tCons tm (tCons tf (tCons tp tNil)))) σ H (.int (fld μ s p)) :=
  ev_pure (ea_cons hm (ea_cons hf (ea_cons hp ea_nil))) fun H1 e Q q => ⟨m, wl, μ, s, p, rfl, hM.keep e, h.1, h.2.1, h.2.2.1, h.2.2.2, q⟩
end
def capF (μ : Mem) (s : Int) : List V := [.int (fld μ s 0), .int (fld μ s 1), .int (fld μ s 2), .int (fld μ s 3)]
def sp_cap_at (K : PySem.W.Frag) : Sp := fun vs H Q _ => ∃ (m wl : Addr) (μ : Mem) (s : Int), vs = [.ref m, .int s] ∧ MemAt K H m wl μ ∧ 0 ≤ s ∧ s < 256 ∧ ∀ p H', H p = none → Ex H H' → H' p = some (.tup (capF μ s)) → Q (.ref p) H'
theorem ok_cap_at (T : Txt K mg) : FnOk P w K mg base CX0 2 (f_cap_at K) (fd_cap_at K) ["memory", "slot"] (sp_cap_at K) := by
  refine T.fn_cap_at.ok sc_cap_at (fun vs H Q E h => ?_) (fun cdv A outer s H vs Q E hr h => ⟨_, PSs.nox (pss_cons (ps_asg (pe_tup (pa_cons (pe_op op_fdiv (pv 1) (T.pg_SLOTS)) (pa_cons (pe_op op_mul (pe_op op_mod (pv 1) (T.pg_SLOTS)) pe_int) pa_nil))) (pg_tup (by rfl) (pgs_cons (pg_name (i := 2) sc_cap_at.nd rfl (by first | exact Or.inr rfl | exact Or.inl rfl)) (pgs_cons (pg_name (i := 3) sc_cap_at.nd rfl (by first | exact Or.inr rfl | exact Or.inl rfl)) pgs_nil)))) (pss_one (ps_ret (pe_callTy call_tuple_of (by rfl) T.free_tuple (by decide +kernel) (pa_cons (pe_lc (own := [("k", 4)]) (by rfl) sc_cap_at.nd (pi_range1 (by rfl) T.free_range (pa_cons pe_int pa_nil)) (blkOk_by (N := sc_cap_at_N) (sc := defScope s_cap_at) (own := [("k", 4)]) (by decide +kernel)) (fun _ _ _ _ _ => (pg_name (i := 4) sc_cap_at.nd rfl (Or.inl rfl))) (fun _ _ _ _ _ => pts_nil) (fun _ _ _ _ _ => (pe_meth (pv 0) (T.cl_Memory) (T.mt_Memory_word) (ok_Memory_word T) (hr.mono (by decide)) (T.bd_Memory_word) .nil pass0 (pa_cons (pv 2) (pa_cons (pe_op op_add (pv 3) (pv 4)) pa_nil))))) pa_nil))))), ?_⟩)
  · obtain ⟨_, _, _, _, rfl, _⟩ := h
    rfl
  · obtain ⟨m, wl, μ, s0, rfl, hM, h1, h2, k⟩ := h
    refine q_unp2 (v := .int (s0 / 8)) (w := .int (s0 % 8 * 8)) (ev_div (ev_var rfl) ev_c ⟨by decide, by decide⟩) (ev_op (ev_mod (ev_var rfl) ev_c (by decide)) ev_c (rv_I (.inr ⟨by decide, by decide⟩))) fun H1 e1 => ?_
    refine s_retU (eu_tupNL (K := K) (xs := capF μ s0) ?_) fun p H2 hp e2 h3 => k p H2 (fresh_back e1 hp) (e1.trans e2) h3
    refine el_lcR1 (n := 4) (fun _ => true) (fun i => .int (fld μ s0 (i : Int))) (ea_cons ev_c ea_nil) (by decide) (fun x => rfl) (fun i H2 e2 hi => et_yes) (fun i H2 e2 hi _ => ev_is (ev_word (hM.keep (e1.trans e2)) (ev_var rfl) (ev_var rfl) (ev_op (ev_var rfl) (ev_var rfl) rv_I0) (by omega)) ?_)
    unfold fld
    rw [ix_slot]
def sp_entries_of (K : PySem.W.Frag) : Sp := fun vs H Q _ => ∃ (m wl : Addr) (μ : Mem) (f : Int), vs = [.ref m, .int f] ∧ MemAt K H m wl μ ∧ InF f ∧ ∀ H', Ex H H' → Q (.int (if μ (ix 1 f) = 8 then 4 else 8)) H'
theorem ok_entries_of (T : Txt K mg) : FnOk P w K mg base CX0 3 (f_entries_of K) (fd_entries_of K) ["memory", "frame"] (sp_entries_of K) := by
  refine T.fn_entries_of.ok sc_entries_of (fun vs H Q E h => ?_) (fun cdv A outer s H vs Q E hr h => ⟨_, PSs.nox (pss_one (ps_ret (pe_ifExp (pt_cmpR op_eq (pe_call (ok_kind_of T) (hr.mono (by decide)) (by rfl) (T.glo_kind_of) (T.kp_kind_of) (T.bd_kind_of) .nil pass0 (pa_cons (pv 0) (pa_cons (pv 1) pa_nil))) (T.pg_DEVICE) (nomark _)) (T.pg_GUARDED) (T.pg_ENTRIES)))), ?_⟩)
  · obtain ⟨_, _, _, _, rfl, _⟩ := h
    rfl
  · obtain ⟨m, wl, μ, f, rfl, hM, hI, k⟩ := h
    refine s_ret (ev_if (b := decide (μ (ix 1 f) = 8)) (et_is (et_test (ev_op (ev_kind hM (ev_var rfl) (ev_var rfl) hI) ev_c (rv_eq rfl))) ?_) (fun hb => ev_is ev_c (by rw [if_pos (of_decide_eq_true hb)])) (fun hb => ev_is ev_c (by rw [if_neg (of_decide_eq_false hb)]))) k
    by_cases h : μ (ix 1 f) = 8
    · rw [h, decide_eq_true rfl, decide_eq_true rfl]
    · rw [decide_eq_false h, decide_eq_false fun z => h (V.int.inj z)]
/-- entry_at, entry, put_entry of any frame -/
def eat (μ : Mem) (f p : Int) : Int := p * 4 + (if μ (ix 1 f) = 8 then 8 else 0)
def sp_entry_at (K : PySem.W.Frag) : Sp := fun vs H Q _ => ∃ (m wl : Addr) (μ : Mem) (f p : Int), vs = [.ref m, .int f, .int p] ∧ MemAt K H m wl μ ∧ InF f ∧ ∀ H', Ex H H' → Q (.int (eat μ f p)) H'
theorem ok_entry_at (T : Txt K mg) : FnOk P w K mg base CX0 3 (f_entry_at K) (fd_entry_at K) ["memory", "frame", "page"] (sp_entry_at K) := by
  refine T.fn_entry_at.ok sc_entry_at (fun vs H Q E h => ?_) (fun cdv A outer s H vs Q E hr h => ⟨_, PSs.nox (pss_one (ps_ret (pe_op op_add (pe_op op_mul (pv 2) pe_int) (pe_ifExp (pt_cmpR op_eq (pe_call (ok_kind_of T) (hr.mono (by decide)) (by rfl) (T.glo_kind_of) (T.kp_kind_of) (T.bd_kind_of) .nil pass0 (pa_cons (pv 0) (pa_cons (pv 1) pa_nil))) (T.pg_DEVICE) (nomark _)) pe_int pe_int)))), ?_⟩)
  · obtain ⟨_, _, _, _, _, rfl, _⟩ := h
    rfl
  · obtain ⟨m, wl, μ, f, p, rfl, hM, hI, k⟩ := h
    refine s_ret (ev_is (ev_op (ev_op (ev_var rfl) ev_c (rv_I (.inr ⟨by decide, by decide⟩))) (ev_if (b := decide (μ (ix 1 f) = 8)) (v := .int (if μ (ix 1 f) = 8 then 8 else 0)) (et_is (et_test (ev_op (ev_kind hM (ev_var rfl) (ev_var rfl) hI) ev_c (rv_eq rfl))) ?_) (fun hb => ev_is ev_c (by rw [if_pos (of_decide_eq_true hb)])) (fun hb => ev_is ev_c (by rw [if_neg (of_decide_eq_false hb)]))) rv_I0) rfl) k
    by_cases h : μ (ix 1 f) = 8
    · rw [h, decide_eq_true rfl, decide_eq_true rfl]
    · rw [decide_eq_false h, decide_eq_false fun z => h (V.int.inj z)]
section
variable {σ : L2.St} {H : Hp} {D : Ends} {m wl : Addr} {μ : Mem} {tm tf tp : TE} {tz : TS} {f p s : Int}
theorem ev_eat (hM : MemAt K H m wl μ) (hm : Ev tm σ H (.ref m)) (hf : Ev tf σ H (.int f)) (hp : Ev tp σ H (.int p)) (hI : InF f) : Ev (tCall (sp_entry_at K) [] E0 (tCons tm (tCons tf (tCons tp tNil)))) σ H (.int (eat μ f p)) :=
  ev_pure (ea_cons hm (ea_cons hf (ea_cons hp ea_nil))) fun H1 e Q q => ⟨m, wl, μ, f, p, rfl, hM.keep e, hI, q⟩
end
def ent3F (μ : Mem) (f p : Int) : List V := [.int (μ (ix f (eat μ f p + 0))), .int (μ (ix f (eat μ f p + 1))), .int (μ (ix f (eat μ f p + 2)))]
def sp_entry (K : PySem.W.Frag) : Sp := fun vs H Q _ => ∃ (m wl : Addr) (μ : Mem) (f p : Int), vs = [.ref m, .int f, .int p] ∧ MemAt K H m wl μ ∧ InF f ∧ 0 ≤ p ∧ p < 8 ∧ ∀ q H', H q = none → Ex H H' → H' q = some (.tup (ent3F μ f p)) → Q (.ref q) H'
theorem eat_bd {μ : Mem} {f p : Int} (h : 0 ≤ p ∧ p < 8) : 0 ≤ eat μ f p ∧ eat μ f p < 40 := by
  unfold eat
  split <;> omega
theorem ok_entry (T : Txt K mg) : FnOk P w K mg base CX0 4 (f_entry K) (fd_entry K) ["memory", "table", "page"] (sp_entry K) := by
  refine T.fn_entry.ok sc_entry (fun vs H Q E h => ?_) (fun cdv A outer s H vs Q E hr h => ⟨_, PSs.nox (pss_one (ps_ret (pe_callTy call_tuple_of (by rfl) T.free_tuple (by decide +kernel) (pa_cons (pe_lc (own := [("k", 3)]) (by rfl) sc_entry.nd (pi_range1 (by rfl) T.free_range (pa_cons pe_int pa_nil)) (blkOk_by (N := sc_entry_N) (sc := defScope s_entry) (own := [("k", 3)]) (by decide +kernel)) (fun _ _ _ _ _ => (pg_name (i := 3) sc_entry.nd rfl (Or.inl rfl))) (fun _ _ _ _ _ => pts_nil) (fun _ _ _ _ _ => (pe_meth (pv 0) (T.cl_Memory) (T.mt_Memory_word) (ok_Memory_word T) (hr.mono (by decide)) (T.bd_Memory_word) .nil pass0 (pa_cons (pv 1) (pa_cons (pe_op op_add (pe_call (ok_entry_at T) (hr.mono (by decide)) (by rfl) (T.glo_entry_at) (T.kp_entry_at) (T.bd_entry_at) .nil pass0 (pa_cons (pv 0) (pa_cons (pv 1) (pa_cons (pv 2) pa_nil)))) (pv 3)) pa_nil))))) pa_nil)))), ?_⟩)
  · obtain ⟨_, _, _, _, _, rfl, _⟩ := h
    rfl
  · obtain ⟨m, wl, μ, f, p, rfl, hM, hI, p0, p1, k⟩ := h
    have hb := eat_bd (μ := μ) (f := f) ⟨p0, p1⟩
    refine s_retU (eu_tupNL (K := K) (xs := ent3F μ f p) ?_) k
    exact el_lcR1 (n := 3) (fun _ => true) (fun i => .int (μ (ix f (eat μ f p + (i : Int))))) (ea_cons ev_c ea_nil) (by decide) (fun x => rfl) (fun i H1 e1 hi => et_yes) (fun i H1 e1 hi _ => ev_word (hM.keep e1) (ev_var rfl) (ev_var rfl) (ev_op (ev_eat (hM.keep e1) (ev_var rfl) (ev_var rfl) (ev_var rfl) hI) (ev_var rfl) rv_I0) (by omega))
end
end KQ

namespace KQ
open KA
open PySem PySem.Spec PyProof.Rows L2 Evl TL
/-- the frames of a kind -/
def fr (μ : Mem) (k : Int) : List Nat := (List.range 32).filter fun i => decide (V.int (μ (ix 1 (i : Int))) = .int k)
theorem framesV_eq {μ : Mem} {k : Int} : framesV μ k = (fr μ k).map fun (i : Nat) => V.int (i : Int) := rfl
theorem fr_lt {μ : Mem} {k : Int} {i : Nat} (h : i ∈ fr μ k) : i < 32 ∧ μ (ix 1 (i : Int)) = k := by
  obtain ⟨h1, h2⟩ := List.mem_filter.mp h
  exact ⟨List.mem_range.mp h1, V.int.inj (of_decide_eq_true h2)⟩
def sl8 (μ : Mem) (f : Nat) : List V := given 8 (fun j => !decide (V.int (fld μ ((f : Int) * 8 + (j : Int)) 0) = .int 0)) (fun j => .int ((f : Int) * 8 + (j : Int)))
def slV (μ : Mem) : List V := (fr μ 4).flatMap (sl8 μ)
theorem sl8_len {μ : Mem} {f : Nat} : (sl8 μ f).length ≤ 8 := given_len _ _ _
theorem flat_len {μ : Mem} : ∀ q : List Nat, (q.flatMap (sl8 μ)).length ≤ 8 * q.length
  | [] => Nat.le_refl 0
  | a :: q => by
    rw [List.flatMap_cons, List.length_append, List.length_cons]
    have := flat_len (μ := μ) q
    have := sl8_len (μ := μ) (f := a)
    omega
theorem fr_len {μ : Mem} {k : Int} : (fr μ k).length ≤ 32 := by
  unfold fr
  have := List.length_filter_le (fun i : Nat => decide (V.int (μ (ix 1 (i : Int))) = .int k)) (List.range 32)
  rw [List.length_range] at this
  exact this
section
variable {P : Program} {w : World} {K : PySem.W.Frag} {mg : Str → Option Value} {base : Heap}
def sp_slots_of (K : PySem.W.Frag) : Sp := fun vs H Q _ => ∃ (m wl : Addr) (μ : Mem), vs = [.ref m] ∧ MemAt K H m wl μ ∧ ∀ p H', H p = none → Ex H H' → H' p = some (.lst (slV μ)) → Q (.ref p) H'
theorem ok_slots_of (T : Txt K mg) : FnOk P w K mg base CX0 4 (f_slots_of K) (fd_slots_of K) ["memory"] (sp_slots_of K) := by
  refine T.fn_slots_of.ok sc_slots_of (fun vs H Q E h => ?_) (fun cdv A outer s H vs Q E hr h => ⟨_, PSs.nox (pss_cons (ps_set (i := 1) sc_slots_of.nd rfl (Or.inl rfl) (pe_lst pa_nil)) (pss_cons (ps_for PassesOwn.never rfl (pi_list (pe_call (ok_frames_of T) (hr.mono (by decide)) (by rfl) (T.glo_frames_of) (T.kp_frames_of) (T.bd_frames_of) .nil pass0 (pa_cons (pv 0) (pa_cons (T.pg_CAPS) pa_nil)))) (pg_name (i := 2) sc_slots_of.nd rfl (Or.inl rfl)) (pss_one (ps_expr (pe_bm PySem.F.plainAttrs_list PySem.F.slot_list_extend PySem.F.type_list_extend mt_extend (pv 1) (pa_cons (pe_lc (own := [("slot", 3)]) (by rfl) sc_slots_of.nd (pi_range2 (by rfl) T.free_range (pa_cons (pe_op op_mul (pv 2) (T.pg_SLOTS)) (pa_cons (pe_op op_add (pe_op op_mul (pv 2) (T.pg_SLOTS)) (T.pg_SLOTS)) pa_nil))) (blkOk_by (N := sc_slots_of_N) (sc := defScope s_slots_of) (own := [("slot", 3)]) (by decide +kernel)) (fun _ _ _ _ _ => (pg_name (i := 3) sc_slots_of.nd rfl (Or.inl rfl))) (fun _ _ _ _ _ => (pts_one (pt_cmpR op_ne (pe_call (ok_field T) (hr.mono (by decide)) (by rfl) (T.glo_field) (T.kp_field) (T.bd_field) .nil pass0 (pa_cons (pv 0) (pa_cons (pv 3) (pa_cons pe_int pa_nil)))) (by exact T.pg_FREE) (nomark _)))) (fun _ _ _ _ _ => (pv 3))) pa_nil))))) (pss_one (ps_ret (pv 1))))), ?_⟩)
  · obtain ⟨_, _, _, rfl, _⟩ := h
    rfl
  · obtain ⟨m, wl, μ, rfl, hM, k⟩ := h
    refine q_asgL (xs := []) (el_lst ea_nil (by decide)) fun l H1 hl e1 h1 => ?_
    have hM1 := hM.keep e1
    refine q_forNL (K := K) (xs := (fr μ 4).map fun (i : Nat) => V.int (i : Int)) (fun H2 e Q q => ⟨_, rfl, m, wl, μ, 4, rfl, hM1.keep e, fun p H3 hp e3 h3 => q p H3 hp e3 h3⟩)
      (fun p i σ' H' => ∃ x2, σ' = [some (.ref m), some (.ref l), x2, none] ∧ Ex H H' ∧ H' p = some (.lst ((fr μ 4).map fun (i : Nat) => V.int (i : Int))) ∧ H' l = some (.lst (((fr μ 4).take i).flatMap (sl8 μ))) ∧ p ≠ l)
      (fun p H2 hp e2 h2 => ⟨none, rfl, e1.trans e2, h2, e2 _ _ h1, fun z => by rw [z, h1] at hp; cases hp⟩) (fun p i σ' H' _ ⟨_, _, _, h, _⟩ => sq_of h) ?_ ?_
    · rintro p i y σ' H' hy ⟨x2, rfl, eH, hp, hl', npl⟩
      rw [List.getElem?_map] at hy
      obtain ⟨f, hf, rfl⟩ : ∃ f, (fr μ 4)[i]? = some f ∧ y = V.int ((f : Nat) : Int) := by
        cases e : (fr μ 4)[i]? with
        | none => rw [e] at hy; cases hy
        | some f => rw [e] at hy; exact ⟨f, rfl, (Option.some.inj hy).symm⟩
      obtain ⟨hf32, hf4⟩ := fr_lt (List.mem_of_getElem? hf)
      have hM' := hM.keep eH
      refine ⟨_, rfl, .inl ⟨rfl, _, sq_of hl'⟩, ?_⟩
      refine (el_lcR2 (lo := (f : Int) * 8) (n := 8) (fun j => !decide (V.int (fld μ ((f : Int) * 8 + (j : Int)) 0) = .int 0)) (fun j => .int ((f : Int) * 8 + (j : Int))) (ea_cons (ev_op (ev_var rfl) ev_c (rv_I (.inr ⟨by decide, by decide⟩))) (ea_cons (ev_op (ev_op (ev_var rfl) ev_c (rv_I (.inr ⟨by decide, by decide⟩))) ev_c rv_I0) ea_nil)) ⟨by simp, by decide, by omega, by omega⟩ (fun x => rfl)
        (fun j H2 e2 hj => et_test (ev_op (ev_field (hM'.keep e2) (ev_var rfl) (ev_var rfl) ev_c (by omega)) ev_c (rv_ne rfl))) (fun j H2 e2 hj _ => ev_var rfl)) H' (Ex.refl H') _ fun q H2 hq e2 h2 => ?_
      have hlen : (((fr μ 4).take i).flatMap (sl8 μ)).length ≤ 256 := by
        have a := flat_len (μ := μ) ((fr μ 4).take i)
        have b := fr_len (μ := μ) (k := 4)
        have c : ((fr μ 4).take i).length ≤ (fr μ 4).length := by rw [List.length_take]; exact Nat.min_le_right _ _
        omega
      have hg : (sl8 μ f).length ≤ 8 := sl8_len
      refine ⟨l, q, _, _, rfl, rfl, e2 _ _ hl', h2, sz_of (by show _ + (sl8 μ f).length ≤ 100000; omega), ?_⟩
      have hln : H l = none := hl
      refine ⟨_, rfl, Ex.mut (eH.trans e2) hln, by rw [upd_ne npl]; exact e2 _ _ hp, ?_, npl⟩
      rw [upd_same, List.take_add_one, hf, List.flatMap_append]
      show some (HO.lst (_ ++ sl8 μ f)) = some (HO.lst (_ ++ ([f].flatMap (sl8 μ))))
      rw [List.flatMap_cons, List.flatMap_nil, List.append_nil]
    · rintro p σ' H' ⟨x2, rfl, eH, hp, hl', npl⟩
      rw [List.length_map, List.take_length] at hl'
      refine s_ret (ev_var rfl) fun H2 e2 => k l H2 hl (eH.trans e2) (e2 _ _ hl')
/-- a queue's threads, from a word on -/
def SegI (μ : Mem) : Int → List Int → Prop
  | v, [] => v = 0
  | v, t :: q => v = t + 1 ∧ 0 ≤ t ∧ t < 32 ∧ SegI μ (μ (ix t 15)) q
def sp_members (K : PySem.W.Frag) : Sp := fun vs H Q _ => ∃ (m wl pl : Addr) (μ : Mem) (fr hd tl : Int) (q : List Int), vs = [.ref m, .ref pl] ∧ MemAt K H m wl μ ∧ H pl = some (.tup [.int fr, .int hd, .int tl]) ∧ InM fr hd ∧ SegI μ (μ (ix fr hd)) q ∧ q.length ≤ 1000 ∧ ∀ p H', H p = none → Ex H H' → H' p = some (.lst (q.map V.int)) → Q (.ref p) H'
theorem ok_members (T : Txt K mg) : FnOk P w K mg base CX0 2 (f_members K) (fd_members K) ["memory", "place"] (sp_members K) := by
  refine T.fn_members.ok sc_members (fun vs H Q E h => ?_) (fun cdv A outer s H vs Q E hr h => ⟨_, PSs.nox (pss_cons (ps_par (i := 2) (j := 3) (by rfl) sc_members.nd rfl rfl (by decide) rfl rfl (pa_cons (pe_lst pa_nil) (pa_cons (pe_meth (pv 0) (T.cl_Memory) (T.mt_Memory_word) (ok_Memory_word T) (hr.mono (by decide)) (T.bd_Memory_word) .nil pass0 (pa_cons (pe_ix ix_tup (pv 1) pe_int (fun _ _ => rfl)) (pa_cons (pe_ix ix_tup (pv 1) pe_int (fun _ _ => rfl)) pa_nil))) pa_nil)) (by rfl)) (pss_cons (ps_while PassesOwn.never (pt_truth (pv 3) (by intro _; rfl)) (pss_cons (ps_expr (pe_bm PySem.F.plainAttrs_list PySem.F.slot_list_append PySem.F.type_list_append mt_append (pv 2) (pa_cons (pe_op op_sub (pv 3) pe_int) pa_nil))) (pss_one (ps_set (i := 3) sc_members.nd rfl (Or.inl rfl) (pe_meth (pv 0) (T.cl_Memory) (T.mt_Memory_word) (ok_Memory_word T) (hr.mono (by decide)) (T.bd_Memory_word) .nil pass0 (pa_cons (pe_op op_sub (pv 3) pe_int) (pa_cons (T.pg_T_NEXT) pa_nil))))))) (pss_one (ps_ret (pv 2))))), ?_⟩)
  · obtain ⟨_, _, _, _, _, _, _, _, rfl, _⟩ := h
    rfl
  · obtain ⟨m, wl, pl, μ, fr, hd, tl, q, rfl, hM, hpl, hI, hS, hq, k⟩ := h
    refine q_parLV (xs := []) (el_lst ea_nil (by decide)) (fun H1 e1 => ev_word (hM.keep e1) (ev_var rfl) (ev_op (ev_var rfl) ev_c (rv_ixT (st_of (e1 _ _ hpl)) (atI_nat (j := 0) rfl))) (ev_op (ev_var rfl) ev_c (rv_ixT (st_of (e1 _ _ hpl)) (atI_nat (j := 1) rfl))) hI) fun l H2 hl e2 h2 => ?_
    refine q_while (W := fun n σ' H' => ∃ (i : Nat) (v : Int), n = q.length - i ∧ i ≤ q.length ∧ σ' = [some (.ref m), some (.ref pl), some (.ref l), some (.int v)] ∧ SegI μ v (q.drop i) ∧ Ex H H' ∧ H' l = some (.lst ((q.take i).map V.int))) q.length ⟨0, μ (ix fr hd), rfl, Nat.zero_le _, rfl, hS, e2, h2⟩ ?_
    rintro n σ' H' ⟨i, v, rfl, hi, rfl, hs, eH, hl'⟩
    refine ⟨decide (v ≠ 0), et_truI (ev_var rfl), fun hb H3 e3 => ?_, fun hb H3 e3 => ?_⟩
    · have hv : v ≠ 0 := of_decide_eq_true hb
      cases hd' : q.drop i with
      | nil => rw [hd'] at hs; exact absurd hs hv
      | cons t r =>
        rw [hd'] at hs
        obtain ⟨s1, s2, s3, s4⟩ := hs
        have hlt : i < q.length := by
          rcases Nat.lt_or_ge i q.length with z | z
          · exact z
          · rw [List.drop_eq_nil_of_le z] at hd'
            cases hd'
        have hti : q[i]? = some t := by
          have := List.getElem?_drop (xs := q) (i := i) (j := 0)
          rw [hd'] at this
          simpa using this.symm
        refine ⟨fun σ2 H2 => ∃ v', σ2 = [some (.ref m), some (.ref pl), some (.ref l), some (.int v')] ∧ SegI μ v' (q.drop (i + 1)) ∧ Ex H H2 ∧ H2 l = some (.lst ((q.take (i + 1)).map V.int)), fun σ2 H2 ⟨v', h1, h2, h3, h4⟩ => ⟨q.length - (i + 1), by omega, i + 1, v', rfl, hlt, h1, h2, h3, h4⟩, ?_⟩
        refine q_app (e3 _ _ hl') (ev_var rfl) (ev_op (ev_var rfl) ev_c rv_I0) (by rw [List.length_map, List.length_take]; omega) fun H4 e4 => ?_
        have eH4 : Ex H (upd H4 l (.lst ((q.take i).map V.int ++ [.int (v - 1)]))) := Ex.mut ((eH.trans e3).trans e4) hl
        have hM4 := hM.keep eH4
        refine s_asg (v := .int (μ (ix t 15))) (ev_is (ev_word hM4 (ev_var rfl) (ev_op (ev_var rfl) ev_c rv_I0) ev_c (by omega)) (by rw [s1]; congr 3; omega)) fun H5 e5 => ⟨_, rfl, ?_, eH4.trans e5, ?_⟩
        · have : q.drop (i + 1) = r := by
            rw [← List.drop_drop, hd']
            rfl
          rw [this]
          exact s4
        · rw [e5 _ _ upd_same, List.take_add_one, hti, List.map_append, s1]
          have : t + 1 - 1 = t := by omega
          rw [this]
          rfl
    · have hv : v = 0 := by simpa using hb
      have hq0 : q.drop i = [] := by
        cases hd' : q.drop i with
        | nil => rfl
        | cons t r =>
          rw [hd'] at hs
          obtain ⟨s1, s2, _⟩ := hs
          omega
      have hi2 : q.length ≤ i := List.drop_eq_nil_iff.mp hq0
      have : q.take i = q := List.take_of_length_le hi2
      rw [this] at hl'
      exact s_ret (ev_var rfl) fun H4 e4 => k l H4 hl ((eH.trans e3).trans e4) (e4 _ _ (e3 _ _ hl'))
end
end KQ

namespace KQ
open KA
open PySem PySem.Spec PyProof.Rows L2 Evl TL
/-! ### t += u of tuples -/
theorem no_tuple_iadd : typeLookup (.type "tuple") (dunderI "add") = pure none := by rw [typeLookup_type, builtinLookup_eq_fast]; kernel_rfl
section
variable {X : Cx}
def ipCat (K : PySem.W.Frag) : TIp := fun x y H Q => ∃ a b xs ys, x = .ref a ∧ y = .ref b ∧ SqT K H a xs ∧ SqT K H b ys ∧ xs ≠ [] ∧ ys ≠ [] ∧ xs.length + ys.length ≤ sizeLine ∧ ∀ p, H p = none → Q (.ref p) (upd H p (.tup (xs ++ ys)))
theorem ip_catA : PIp X .Add (ipCat X.K) := by
  intro pins s σ H x y v u Q I rx ry h
  obtain ⟨a, b, xs, ys, rfl, rfl, ha, hb, hx, hy, hz, q⟩ := h
  cases rx
  cases ry
  obtain ⟨its, r1, p1, _⟩ := I.tuple ha
  obtain ⟨its2, r2, p2, _⟩ := I.tuple hb
  obtain ⟨⟨cls, dd, data, sl⟩, ho, hc, n, hd⟩ := id p1
  obtain ⟨⟨cls2, dd2, data2, sl2⟩, ho2, hc2, n2, hd2⟩ := id p2
  simp only at hc hd hc2 hd2
  subst hc hd hc2 hd2
  have e : its.toArray ++ its2.toArray = (its ++ its2).toArray := by simp
  refine wpAny_inplaceOp_concat ⟨_, ho, rfl⟩ ⟨_, ho2, rfl⟩ no_tuple_iadd noFill_tuple_add seq_tuple_add (call_meets PySem.F.slot_tuple_add ⟨_, ho, rfl⟩ PySem.F.entry_tuple_add (PySem.F.args_tuple_add_2 _ _)
    (tuple_addW2 _ _ its.toArray its2.toArray n n2 dd dd2 sl sl2 (by simpa using fun z => hx (r1.nil_iff.mp z)) (by simpa using fun z => hy (r2.nil_iff.mp z)) (by rw [List.size_toArray, List.size_toArray, ← r1.length, ← r2.length]; exact hz)) ⟨ho, ho2, ?_⟩)
  rw [e]
  refine ⟨.ref s.heap.objs.size, _, I.laid (t' := s.toks) (o := .tup (xs ++ ys)) (fun b ob q => Heap.get?_push_of_some _ q) (Nat.le_refl _) ?_, rfl, q _ (I.hok.fresh (Nat.le_refl _))⟩
  exact ⟨by rw [List.length_append]; exact hz, _, r1.append r2, IsTup.new _ _⟩
end
/-! ### dicts compared, their values data -/
theorem hits_dp {X : Cx} {pins : List (Addr × Obj)} {σ : L2.St} {H : Hp} {s : Shared} (I : Inv X pins σ H s) (hu : X.A.units + 100 < cLine) {ls : List (Key × V)} {vb : List (Key × Value)} (rb : KV ls vb) {ks : List (Key × V)} {va : List (Key × Value)} (ra : KV ks va) :
    (∀ p ∈ ks, ∃ u d e, valV ls p.1 = some u ∧ Dp X.K H p.2 d ∧ Dp X.K H u e ∧ SeqAt.shaped d = true ∧ SeqAt.shaped e = true ∧ PyData.eqv d e = true) → PySem.W.KeqHits X.A.in1 s vb va true := by
  unfold KV at ra
  induction ra with
  | nil => intro _; exact .nil
  | @cons p q ps qs h t ih =>
    intro hp
    obtain ⟨h1, h2⟩ := h
    obtain ⟨u, d, e, hv, hd, he, sd, se, heq⟩ := hp p List.mem_cons_self
    have rr : RelO (some u) (valueAt vb p.1) := by rw [← hv]; exact rb.val p.1
    obtain ⟨y, hy, ry⟩ := rr.some_of
    obtain ⟨k, v⟩ := q
    have h1' : p.1 = k := h1
    rw [h1'] at hy
    show PySem.W.KeqHits X.A.in1 s vb ((k, v) :: qs) (true && true)
    obtain ⟨as, r1⟩ := Dp.reads I d p.2 v hd h2
    obtain ⟨bs, r2⟩ := Dp.reads I e u y he ry
    have x := PySem.W.keq_at (A := X.A) r1 r2 sd se (by show X.A.units + 1 + 64 < cLine; omega)
    rw [heq] at x
    exact .hit hy x (ih fun p' hm => hp p' (List.mem_cons_of_mem _ hm))
def rNeDD (K : PySem.W.Frag) : R2 := fun x y H Q => ∃ a b ks ls, x = .ref a ∧ y = .ref b ∧ H a = some (.dK ks) ∧ H b = some (.dK ls) ∧ ks.length = ls.length ∧ (∀ p ∈ ks, ∃ u d e, valV ls p.1 = some u ∧ Dp K H p.2 d ∧ Dp K H u e ∧ SeqAt.shaped d = true ∧ SeqAt.shaped e = true ∧ PyData.eqv d e = true) ∧ Q (.bl false) H
theorem op_neDD {X : Cx} (hu : X.A.units + 100 < cLine) : OpR X (compareOp .NotEq) (rNeDD X.K) := by
  intro pins s σ H x y v u Q I rx ry h
  obtain ⟨a, b, ks, ls, rfl, rfl, ea, eb, hlen, hp, q⟩ := h
  obtain rfl : v = Value.ref a := rx
  obtain rfl : u = Value.ref b := ry
  obtain ⟨_, ya, va, ra, da⟩ := (show ObjOk X.prog X.w H s.heap a (.dK ks) from I.hok a _ ea)
  obtain ⟨_, yb, vb, rb, db⟩ := (show ObjOk X.prog X.w H s.heap b (.dK ls) from I.hok b _ eb)
  have hl : va.length = vb.length := by rw [← ra.length, ← rb.length]; exact hlen
  exact PySem.W.keq_ne (knd := mixKind X.prog X.w) (r := true) ya yb da db (by omega) (fun _ => hits_dp I hu rb ra hp) (fin_bl I q (by simp [hl]))
/-! ### name = {..} on one line -/
section
variable {X : Cx}
theorem pt_truthK {K : PySem.W.Frag} {a : Expr} {ta : TE} (hK : X.K = K) (ha : PE X a ta) (he : ∀ whole, isTrue a X.env whole = (do let v ← whole; standAt a.pos; holding [v] (truthy v))) :
    PT X a (fun σ H Q => ta σ H fun x H' => ∃ k, TruV K x H' k ∧ Q k H') := by
  subst hK
  exact pt_truth ha he
theorem ps_setDc {i : Nat} {y : Str} {py : Pos} {kx vx tg iter : Expr} {ifs : List Expr} {scope : Scope} {own : List (Str × Nat)} {pos spos : Pos} {wi : TI} {g : TG} {tt : TT} {tk tv : TE} (hc : X.calm = true) (hN : X.N.Nodup) (hy : X.N[i]? = some y) (hyl : X.env.scope.names.lookup y = some .local)
    (hsw : swapsWith (.DictComp kx vx [⟨tg, iter, ifs, 0⟩] scope pos) (some (.Name y py)) spos.line X.env = pure true) (hi : PI X tg iter wi) (ok : BlkOk X.N X.env.scope scope own)
    (hg : ∀ (s : Shared) (H : Hp) (C : Addr) (cl : List (Str × Addr)) (fp : List Addr), PG (X.blk s H scope (compEnvC scope cl C X.env) fp) tg g) (ht : ∀ (s : Shared) (H : Hp) (C : Addr) (cl : List (Str × Addr)) (fp : List Addr), PTs (X.blk s H scope (compEnvC scope cl C X.env) fp) ifs tt)
    (hk : ∀ (s : Shared) (H : Hp) (C : Addr) (cl : List (Str × Addr)) (fp : List Addr), PE (X.blk s H scope (compEnvC scope cl C X.env) fp) kx tk)
    (he : ∀ (s : Shared) (H : Hp) (C : Addr) (cl : List (Str × Addr)) (fp : List Addr), PE (X.blk s H scope (compEnvC scope cl C X.env) fp) vx tv) (hs : ∀ x, foldedSetIterable iter X.env x = pure x := by intro _; rfl) :
    PS X (.Assign [.Name y py] (.DictComp kx vx [⟨tg, iter, ifs, 0⟩] scope pos) spos) (tAsg (tDc wi g tt tk tv (own.map (·.2))) (gName i)) := by
  refine ⟨fun pins s σ H D I h => ?_⟩
  rw [exec_Assign_Name_used _ _ _ _ hsw]
  refine wpAny_bind (wpAny_standAt (wpAny_bind ?_))
  show wpAny _ X.A (do let _ ← comprehension (.DictComp kx vx [⟨tg, iter, ifs, 0⟩] scope pos) scope X.env (firstIterPos [⟨tg, iter, ifs, 0⟩] pos) newDict false (eval iter X.env) (some (assign (.Name y py) X.env))) _ _ s
  have h : tDc wi g tt tk tv (own.map (·.2)) σ H (fun x H1 => gName i x σ H1 D.nx) := h
  refine wpAny_bind (thn (dc_core (Qf := fun _ s' => SP X pins D .next s') hc hN I hi ok hg ht hk he hs h fun L C s' m H' I' q hn f => ?_) fun _ s' hq => wpAny_pure (wpAny_pure hq))
  show wpAny _ _ (assign (.Name y py) X.env (.ref L)) _ _ _
  refine wpAny_assign_Name (store_ok2 (v := V.ref L) I' hN hy (.inl hyl) rfl (fun s2 I2 ⟨a, sb, ha⟩ => ?_) (.inr hyl))
  obtain ⟨f0, f1, f2, f3, f4, f5⟩ := f
  have haC : C ≠ a := by
    rcases ha with z | z
    · rw [z]; exact f1
    · exact fun e => f4 y a z e.symm
  refine ⟨m, hn.sameBut sb haC, fun h3 sb3 => ?_⟩
  exact ⟨_, H', I2.turned (t' := s2.toks) (fun b o hb e => (sb3.2 b hb).trans e) f0 f1 f3 f4 f5, q⟩
theorem sw_trueD {kx vx : Expr} {gs : List Comprehension} {scope : Scope} {pos py : Pos} {y : Str} {l : Nat} {env : Env} (hk : env.scope.kind = .function) (hy : env.scope.names.lookup y = some .local) (hl : (py.line == pos.line) = true)
    (ha : (scope.names.any fun (n, k) => n == y && (k == .local || k == .cell)) = false) : swapsWith (.DictComp kx vx gs scope pos) (some (.Name y py)) l env = pure true := by
  have ky : env.kindOf y = some .local := hy
  have hb : env.blockKind = .function := by unfold Env.blockKind; rw [hk]; rfl
  unfold swapsWith
  simp only [hb, ky, ha, Expr.pos, hl]
  rfl
end
theorem hu100 {k : Nat} {A : Around} (r : Room k A) : A.units + 100 < cLine := by have := r.un; omega
/-! ### dict comprehensions -/
/-- the pairs of a dict that is made turn by turn -/
def KvOk (key : Nat → Key) (f : Nat → Bool) (Pr : Nat → V → Hp → Prop) (n : Nat) (kvs : List (Key × V)) (H : Hp) : Prop :=
  kvs.map (·.1) = ((List.range n).filter f).map key ∧ ∀ p ∈ kvs, ∃ i, i < n ∧ f i = true ∧ p.1 = key i ∧ Pr i p.2 H
theorem KvOk.len {key : Nat → Key} {f : Nat → Bool} {Pr : Nat → V → Hp → Prop} {n : Nat} {kvs : List (Key × V)} {H : Hp} (h : KvOk key f Pr n kvs H) : kvs.length = ((List.range n).filter f).length := by
  have := congrArg List.length h.1
  rw [List.length_map, List.length_map] at this
  exact this
theorem KvOk.len_le {key : Nat → Key} {f : Nat → Bool} {Pr : Nat → V → Hp → Prop} {n : Nat} {kvs : List (Key × V)} {H : Hp} (h : KvOk key f Pr n kvs H) : kvs.length ≤ n := by
  rw [h.len]
  have := List.length_filter_le f (List.range n)
  rw [List.length_range] at this
  exact this
theorem KvOk.ex {key : Nat → Key} {f : Nat → Bool} {Pr : Nat → V → Hp → Prop} {n : Nat} {kvs : List (Key × V)} {H H' : Hp} (h : KvOk key f Pr n kvs H) (mo : ∀ i v, Pr i v H → Pr i v H') : KvOk key f Pr n kvs H' :=
  ⟨h.1, fun p hp => let ⟨i, a, b, c, d⟩ := h.2 p hp; ⟨i, a, b, c, mo i _ d⟩⟩
theorem valV_none {kvs : List (Key × V)} {k : Key} (h : k ∉ kvs.map (·.1)) : valV kvs k = none := by
  cases e : valV kvs k with
  | none => rfl
  | some v => exact absurd (valV_in e) h
theorem valV_mem {kvs : List (Key × V)} {k : Key} {v : V} (h : valV kvs k = some v) : (k, v) ∈ kvs := by
  induction kvs with
  | nil => cases h
  | cons p r ih =>
    by_cases e : p.1 = k
    · rw [valV_pos e] at h
      cases h
      rw [← e]
      exact List.mem_cons_self
    · rw [valV_neg e] at h
      exact List.mem_cons_of_mem _ (ih h)
/-- a key that is there leads to its value -/
theorem KvOk.at {key : Nat → Key} {f : Nat → Bool} {Pr : Nat → V → Hp → Prop} {n : Nat} {kvs : List (Key × V)} {H : Hp} (h : KvOk key f Pr n kvs H) (inj : ∀ i j, i < n → j < n → key i = key j → i = j) {i : Nat} (hi : i < n) (hf : f i = true) : ∃ v, valV kvs (key i) = some v ∧ Pr i v H := by
  have hm : key i ∈ kvs.map (·.1) := by
    rw [h.1]
    exact List.mem_map.mpr ⟨i, List.mem_filter.mpr ⟨List.mem_range.mpr hi, hf⟩, rfl⟩
  cases e : valV kvs (key i) with
  | none => exact absurd hm (valV_not e)
  | some v =>
    obtain ⟨j, j1, j2, j3, j4⟩ := h.2 _ (valV_mem e)
    rw [inj i j hi j1 j3]
    exact ⟨v, rfl, j4⟩
theorem KvOk.none {key : Nat → Key} {f : Nat → Bool} {Pr : Nat → V → Hp → Prop} {n : Nat} {kvs : List (Key × V)} {H : Hp} (h : KvOk key f Pr n kvs H) {k : Key} (hk : ∀ i, i < n → f i = true → key i ≠ k) : valV kvs k = none := by
  refine valV_none fun hm => ?_
  rw [h.1] at hm
  obtain ⟨i, hi, e⟩ := List.mem_map.mp hm
  obtain ⟨h1, h2⟩ := List.mem_filter.mp hi
  exact hk i (List.mem_range.mp h1) h2 e
theorem KvOk.snoc {key : Nat → Key} {f : Nat → Bool} {Pr : Nat → V → Hp → Prop} {i : Nat} {kvs : List (Key × V)} {H : Hp} {v : V} (h : KvOk key f Pr i kvs H) (hf : f i = true) (hnew : ∀ j, j < i → key j ≠ key i) (hv : Pr i v H) : KvOk key f Pr (i + 1) (putK kvs (key i) v) H := by
  have hn : valV kvs (key i) = .none := h.none fun j hj _ => hnew j hj
  rw [putK_new v hn]
  refine ⟨?_, fun p hp => ?_⟩
  · rw [List.map_append, h.1, List.range_succ, List.filter_append, List.map_append, List.filter_cons, if_pos hf]
    rfl
  · rcases List.mem_append.mp hp with hp | hp
    · obtain ⟨j, a, b, c, d⟩ := h.2 p hp
      exact ⟨j, Nat.lt_succ_of_lt a, b, c, d⟩
    · rw [List.mem_singleton] at hp
      subst hp
      exact ⟨i, Nat.lt_succ_self i, hf, rfl, hv⟩
theorem KvOk.skip {key : Nat → Key} {f : Nat → Bool} {Pr : Nat → V → Hp → Prop} {i : Nat} {kvs : List (Key × V)} {H : Hp} (h : KvOk key f Pr i kvs H) (hf : f i = false) : KvOk key f Pr (i + 1) kvs H := by
  refine ⟨?_, fun p hp => ?_⟩
  · rw [h.1, List.range_succ, List.filter_append, List.map_append, List.filter_cons, if_neg (by rw [hf]; decide)]
    simp
  · obtain ⟨j, a, b, c, d⟩ := h.2 p hp
    exact ⟨j, Nat.lt_succ_of_lt a, b, c, d⟩
/-- all stands but what is at D -/
def ExB (D : Addr) (H H' : Hp) : Prop := ∀ b o, H b = some o → b ≠ D → H' b = some o
theorem ExB.of {D : Addr} {H H' : Hp} (e : Ex H H') : ExB D H H' := fun b o h _ => e b o h
section
variable {σ : L2.St} {K : PySem.W.Frag} {te tk tv : TE} {tt : TT} {g : TG} {vs : List Nat}
/-- a new dict -/
def EvD (te : TE) (σ : L2.St) (H : Hp) (Pk : Addr → List (Key × V) → Hp → Prop) : Prop := ∀ H1, Ex H H1 → ∀ Q : VK, (∀ p kvs H2, H1 p = none → Ex H1 H2 → H2 p = some (.dK kvs) → Pk p kvs H2 → Q (.ref p) H2) → te σ H1 Q
/-- the walk of a dict comprehension: what it runs over is laid, D is new -/
theorem dc_run {J : It} {n : Nat} {G : Hp → Prop} {Y : Nat → Hp → V → Hp → Prop} {Hb : Hp} {D : Addr} {Qd : Hp → Prop} (w : Walk J n G Y) (key : Nat → Key) (f : Nat → Bool) (Pr : Nat → V → Hp → Prop) (hz : n ≤ 40000) (inj : ∀ i j, i < n → j < n → key i = key j → i = j) (mo : ∀ i v H H', ExB D H H' → Pr i v H → Pr i v H')
    (hD : Hb D = none) (hG : ∀ H', Ex Hb H' → G H') (hY : ∀ i H x H', Y i H x H' → Ex H H')
    (hs : ∀ i x H H', i < n → Ex Hb H → (∃ kv, H D = some (.dK kv)) → Y i H x H' → Ex Hb H' → ∀ R : L2.St → Hp → Prop, (∀ σ2 H2, Ex H' H2 → wipe σ2 vs = wipe σ vs → EvT tt σ2 H2 (f i) → (f i = true → Ev tk σ2 H2 (kV (key i)) ∧ EvP tv σ2 H2 (Pr i)) → R σ2 H2) → g x (wipe σ vs) H' R)
    (hd : ∀ kvs H, Ex Hb H → H D = some (.dK kvs) → KvOk key f Pr n kvs H → Qd H) :
    ∃ W : Nat → Nat → Hp → Prop, (∃ m, W 0 m (upd Hb D (.dK []))) ∧ ∀ i m H, W i m H →
      (J.stop i H ∧ Qd H) ∨ (J.go i H ∧ ∃ Nx : Hp → Prop, (∀ H', Nx H' → ∃ m', m' < m ∧ W (i + 1) m' H') ∧ ∀ x H', J.yld i H x H' → g x (wipe σ vs) H' fun σ2 H2 => wipe σ2 vs = wipe σ vs ∧ tt σ2 H2 fun b H3 =>
        if b = true then tk σ2 H3 fun y H4 => tv σ2 H4 fun z H5 => ∃ kvs k, y = kV k ∧ H5 D = some (.dK kvs) ∧ kvs.length < sizeLine ∧ Nx (upd H5 D (.dK (putK kvs k z))) else Nx H3) := by
  refine ⟨fun i m H => m = n - i ∧ i ≤ n ∧ Ex Hb H ∧ ∃ kvs, H D = some (.dK kvs) ∧ KvOk key f Pr i kvs H, ⟨n, by simp, Nat.zero_le _, Ex.new hD, [], upd_same, rfl, fun p hp => by cases hp⟩, ?_⟩
  rintro i m H ⟨rfl, hi, eH, kvs, hk, ok⟩
  have q := hG H eH
  by_cases hlt : i < n
  · refine .inr ⟨w.goes i H hlt q, fun H' => Ex Hb H' ∧ ∃ kvs, H' D = some (.dK kvs) ∧ KvOk key f Pr (i + 1) kvs H', fun H' p' => ⟨n - (i + 1), by omega, rfl, hlt, p'⟩, fun x H' y => ?_⟩
    have yy := w.yields i H x H' hlt q y
    have e' := hY i H x H' yy
    refine hs i x H H' hlt eH ⟨_, hk⟩ yy (eH.trans e') _ fun σ2 H2 e2 hw ht hv => ⟨hw, ht H2 (Ex.refl H2) _ fun H3 e3 => ?_⟩
    have e03 : Ex H H3 := (e'.trans e2).trans e3
    cases hf : f i with
    | false =>
      rw [if_neg (by decide)]
      exact ⟨eH.trans e03, kvs, e03 _ _ hk, (ok.ex fun j v => mo j v _ _ (ExB.of e03)).skip hf⟩
    | true =>
      rw [if_pos rfl]
      obtain ⟨h1, h2⟩ := hv hf
      refine h1 H3 e3 _ fun H4 e4 => h2 H4 (e3.trans e4) _ fun v H5 e5 hv5 => ?_
      have e05 : Ex H H5 := (e03.trans e4).trans e5
      have hl := ok.len_le
      refine ⟨kvs, key i, rfl, e05 _ _ hk, sz_lt (by omega), Ex.mut (eH.trans e05) hD, _, upd_same, ?_⟩
      have ok5 : KvOk key f Pr i kvs H5 := ok.ex fun j v => mo j v _ _ (ExB.of e05)
      have ok6 := ok5.snoc hf (fun j hj e => by have := inj j i (by omega) hlt e; omega) hv5
      exact ok6.ex fun j v => mo j v _ _ fun b o hb nb => by rw [upd_ne nb]; exact hb
  · have e : i = n := by omega
    subst e
    exact .inl ⟨w.stops H q, hd kvs H eH hk ok⟩
/-- over range(n) -/
theorem ed_R1 {H : Hp} {ta : TA} {j : Nat} {n : Int} (key : Nat → Key) (f : Nat → Bool) (Pr : Addr → Nat → V → Hp → Prop) (h : EvA ta σ H [.int n]) (hn : 0 ≤ n ∧ n ≤ 40000) (inj : ∀ i j : Nat, key i = key j → i = j) (mo : ∀ D i v H H', ExB D H H' → Pr D i v H → Pr D i v H')
    (hw : ∀ x, wipe ((wipe σ vs).set j (some x)) vs = wipe σ vs)
    (hs : ∀ D (i : Nat) H1, Ex H H1 → (∃ kv, H1 D = some (.dK kv)) → (i : Int) < n → EvT tt ((wipe σ vs).set j (some (.int (i : Int)))) H1 (f i) ∧ (f i = true → Ev tk ((wipe σ vs).set j (some (.int (i : Int)))) H1 (kV (key i)) ∧ EvP tv ((wipe σ vs).set j (some (.int (i : Int)))) H1 (Pr D i))) :
    EvD (tDc (iRng1 ta) (gName j) tt tk tv vs) σ H (fun D kvs H' => KvOk key f (Pr D) n.toNat kvs H') := fun H0 e Q q => h H0 e _ fun H1 e1 => ⟨n, rfl, by omega, by omega, fun D hD =>
  dc_run (walk_range (lo := 0) (n := n.toNat)) key f (Pr D) (by omega) (fun i j _ _ e => inj i j e) (mo D) hD (fun _ _ => trivial) (fun i H x H' y => y.1 ▸ Ex.refl H) (fun i x H H' hi eH hne y eH' R k => by
    obtain ⟨rfl, rfl⟩ := y
    have e0 : (0 : Int) + (i : Int) = (i : Int) := Int.zero_add _
    show R ((wipe σ vs).set j (some (.int ((0 : Int) + (i : Int))))) H'
    rw [e0]
    obtain ⟨h1, h2⟩ := hs D i H' ((e.trans e1).trans eH') hne (by omega)
    exact k _ H' (Ex.refl H') (hw _) h1 h2) (fun kvs H' eH hk ok => q D kvs H' (fresh_back e1 hD) (e1.trans eH) hk ok)⟩
/-- over a new list -/
theorem ed_NL {H : Hp} {tl : TE} {j : Nat} {xs : List V} (key : Nat → Key) (f : Nat → Bool) (Pr : Addr → Nat → V → Hp → Prop) (h : EvL tl σ H xs) (hz : xs.length ≤ 40000) (inj : ∀ i j : Nat, i < xs.length → j < xs.length → key i = key j → i = j) (mo : ∀ D i v H H', ExB D H H' → Pr D i v H → Pr D i v H')
    (hw : ∀ x, wipe ((wipe σ vs).set j (some x)) vs = wipe σ vs)
    (hs : ∀ D (i : Nat) y H1, Ex H H1 → (∃ kv, H1 D = some (.dK kv)) → xs[i]? = some y → EvT tt ((wipe σ vs).set j (some y)) H1 (f i) ∧ (f i = true → Ev tk ((wipe σ vs).set j (some y)) H1 (kV (key i)) ∧ EvP tv ((wipe σ vs).set j (some y)) H1 (Pr D i))) :
    EvD (tDc (iList K tl) (gName j) tt tk tv vs) σ H (fun D kvs H' => KvOk key f (Pr D) xs.length kvs H') := fun H0 e Q q => h H0 e _ fun a H1 ha e1 hx => ⟨a, rfl, ⟨xs, sq_of hx⟩, fun D hD =>
  dc_run (walk_list (K := K) (a := a) (xs := xs)) key f (Pr D) hz inj (mo D) hD (fun H' eH => sq_of (eH _ _ hx)) (fun i H x H' y => y.1 ▸ Ex.refl H) (fun i x H H' hi eH hne y eH' R k => by
    obtain ⟨rfl, hy⟩ := y
    obtain ⟨h1, h2⟩ := hs D i x H' ((e.trans e1).trans eH') hne hy
    exact k _ H' (Ex.refl H') (hw _) h1 h2) (fun kvs H' eH hk ok => q D kvs H' (fresh_back e1 hD) (e1.trans eH) hk ok)⟩
end
end KQ

namespace KA
open PySem PySem.Spec PyProof.Rows L2 Evl TL
section
variable {σ : L2.St} {H : Hp} {K : PySem.W.Frag} {D : Ends}
theorem pg_tupK {X : Cx} {K : PySem.W.Frag} {es : List Expr} {k n : Nat} {pos : Pos} {t : TGs} (hK : X.K = K) (hc : X.calm = true) (h : PGs X es t) (hn : (assignEach es X.env).length = n := by rfl) (hst : (assignEach es X.env).findIdx? (·.1) = none := by rfl) : PG X (.Tuple es k pos) (gTup K n t) := by
  subst hK
  exact pg_tup hc h hn hst
theorem given_const {n : Nat} {x : V} : given n (fun _ => true) (fun _ => x) = List.replicate n x := by
  unfold given
  rw [List.filter_eq_self.mpr (fun _ _ => rfl)]
  simp [List.map_const']
theorem all_rep : ∀ n : Nat, (List.replicate n true).all id = true
  | 0 => rfl
  | n + 1 => by rw [List.replicate_succ, List.all_cons, all_rep n] <;> rfl
theorem et_truT {te : TE} {p : Addr} {xs : List V} (h : Ev te σ H (.ref p)) (hx : SqT K H p xs) : EvT (tTru K te) σ H (!xs.isEmpty) := fun H1 e Q q => h H1 e _ fun H2 e2 => ⟨!xs.isEmpty, .inr (.inl ⟨xs, ex_t (e.trans e2) hx, rfl⟩), q H2 e2⟩
theorem ev_all {ta : TE} {bs : List Bool} (h : EvL ta σ H (bs.map V.bl)) : Ev (tCB (rAll K) (tCons ta tNil)) σ H (.bl (bs.all id)) := fun H1 e Q q =>
  h H1 e _ fun p H2 hp e2 h2 => ⟨p, bs, rfl, sq_of h2, q H2 e2⟩
theorem ev_sum {ta : TE} {ns : List Int} (h : EvL ta σ H (ns.map V.int)) : Ev (tCB (rSum K) (tCons ta tNil)) σ H (.int ns.sum) := fun H1 e Q q =>
  h H1 e _ fun p H2 hp e2 h2 => ⟨p, ns, rfl, sq_of h2, q H2 e2⟩
theorem el_lcT {a : Addr} {xs : List V} {tl te : TE} {g : TG} {vs : List Nat} (v : Nat → V) (h : Ev tl σ H (.ref a)) (hx : SqT K H a xs) (hz : xs.length ≤ 40000)
    (hg : ∀ (i : Nat) (x : V) H1, Ex H H1 → xs[i]? = some x → ∀ H2, Ex H1 H2 → ∀ R : L2.St → Hp → Prop, (∀ σ2, wipe σ2 vs = wipe σ vs → Ev te σ2 H1 (v i) → R σ2 H2) → g x (wipe σ vs) H2 R) :
    EvL (tLc (iTup K tl) g (fun _ H Q => Q true H) te vs) σ H (given xs.length (fun _ => true) v) := fun H0 e Q q => h H0 e _ fun H1 e1 => ⟨a, rfl, ⟨xs, ex_t (e.trans e1) hx⟩, fun Dl hD =>
  lc_tup (xs := xs) (Cw H1 (fun _ => true) v Dl) ⟨hD, Ex.new hD, upd_same⟩ (fun i H' _ p => ex_t ((e.trans e1).trans p.2.1) hx) (fun i x H' hi p => hg i x H1 (e.trans e1) hi H' p.2.1 _ fun σ2 hw he => ⟨hw, cw_turn p (by have := (List.getElem?_eq_some_iff.mp hi).1; omega) et_yes fun _ => he⟩)
    (fun H' p => q Dl H' (fresh_back e1 p.1) (e1.trans p.2.1) p.2.2)⟩
end
end KA

namespace KQ
open KA
open PySem PySem.Spec PyProof.Rows L2 Evl TL
section
variable {σ : L2.St} {H : Hp} {K : PySem.W.Frag}
theorem ev_fld {ta : TE} {a C dx : Addr} {fs : List (Str × V)} {f : Str} {v : V} (ha : Ev ta σ H (.ref a)) (h : H a = some (.ins C dx fs)) (c : Cls K C) (n : NoAttr K C f) (l : fs.lookup f = some v) : Ev (tFld K ta f) σ H v := fun H1 e Q q =>
  ha H1 e _ fun H2 e2 => ⟨a, C, dx, fs, v, rfl, (e.trans e2) _ _ h, c, n, l, q H2 e2⟩
end
section
variable {σ : L2.St} {H : Hp} {K : PySem.W.Frag} {D : Ends} {tz : TS}
def EvS (te : TE) (σ : L2.St) (H : Hp) (xs : List V) : Prop := ∀ H1, Ex H H1 → ∀ Q : VK, (∀ a H2, Ex H1 H2 → H2 a = some (.tup xs) → Q (.ref a) H2) → te σ H1 Q
theorem es_ev {te : TE} {a : Addr} {xs : List V} (h : Ev te σ H (.ref a)) (ha : H a = some (.tup xs)) : EvS te σ H xs := fun H1 e Q q => h H1 e _ fun H2 e2 => q a H2 e2 (e2 _ _ (e _ _ ha))
theorem es_is {te : TE} {xs ys : List V} (h : EvS te σ H xs) (e : xs = ys) : EvS te σ H ys := e ▸ h
theorem es_U {te : TE} {xs : List V} (h : EvU te σ H xs) : EvS te σ H xs := fun H1 e Q q => h H1 e _ fun p H2 _ e2 h2 => q p H2 e2 h2
theorem cutV_whole {xs : List V} {lo hi : Option Int} (h : HT.sIx xs.length 0 lo = 0 ∧ HT.sIx xs.length xs.length hi = xs.length) : cutV xs lo hi = xs := by
  unfold cutV
  rw [h.1, h.2, List.drop_zero, Nat.sub_zero, List.take_length]
theorem es_slA {te : TE} {tl th : TO} {xs : List V} {lo hi : Option Int} (h : EvS te σ H xs) (h1 : ∀ H1, Ex H H1 → EvO tl σ H1 lo) (h2 : ∀ H1, Ex H H1 → EvO th σ H1 hi) : EvS (tSl (rSlA K) te tl th) σ H (cutV xs lo hi) := fun H1 e Q q =>
  h H1 e _ fun a H2 e2 ha => h1 H2 (e.trans e2) H2 (Ex.refl H2) _ fun H3 e3 => h2 H3 ((e.trans e2).trans e3) H3 (Ex.refl H3) _ fun H4 e4 =>
    have ha4 := e4 _ _ (e3 _ _ ha)
    ⟨a, xs, rfl, st_of ha4, fun hw => q a H4 ((e2.trans e3).trans e4) (by rw [cutV_whole hw]; exact ha4), fun hw p hp => q p _ (((e2.trans e3).trans e4).trans (Ex.new hp)) upd_same⟩
theorem es_catA {ta tb : TE} {xs ys : List V} (h1 : EvS ta σ H xs) (h2 : ∀ H1, Ex H H1 → EvS tb σ H1 ys) (hz : xs.length + ys.length ≤ 100000) : EvS (tOp (rCatA K) ta tb) σ H (xs ++ ys) := fun H1 e Q q =>
  h1 H1 e _ fun a H2 e2 ha => h2 H2 (e.trans e2) H2 (Ex.refl H2) _ fun b H3 e3 hb =>
    have ha3 := e3 _ _ ha
    ⟨a, b, xs, ys, rfl, rfl, st_of ha3, st_of hb, sz_of hz, fun z => by subst z; exact q b H3 (e2.trans e3) hb, fun _ z => by subst z; exact q a H3 (e2.trans e3) (by rw [List.append_nil]; exact ha3), fun _ _ p hp => q p _ ((e2.trans e3).trans (Ex.new hp)) upd_same⟩
theorem q_asgS {te : TE} {i : Nat} {xs : List V} (h : EvS te σ H xs) (k : ∀ p H1, Ex H H1 → H1 p = some (.tup xs) → tz D (σ.set i (some (.ref p))) H1) : tSeq (tAsg te (gName i)) tz D σ H := h H (Ex.refl H) _ fun p H1 e1 h1 => k p H1 e1 h1
theorem cut_to {xs : List V} {n : Nat} : cutV xs none (some (n : Int)) = xs.take n := by
  unfold cutV
  rw [HT.sIx_none, HT.sIx_nat, List.drop_zero, Nat.sub_zero]
  rcases Nat.le_total n xs.length with h | h
  · rw [Nat.min_eq_left h]
  · rw [Nat.min_eq_right h, List.take_length, List.take_of_length_le h]
theorem cut_from {xs : List V} {n : Nat} : cutV xs (some (n : Int)) none = xs.drop n := by
  unfold cutV
  rw [HT.sIx_none, HT.sIx_nat]
  rcases Nat.le_total n xs.length with h | h
  · rw [Nat.min_eq_left h, List.take_of_length_le (by rw [List.length_drop]; omega)]
  · rw [Nat.min_eq_right h, List.drop_eq_nil_of_le h, List.drop_eq_nil_of_le (Nat.le_refl _), List.take_nil]
end
def frameV (μ : Mem) (f : Int) : List V := (List.range 64).map fun (i : Nat) => V.int (μ (ix f (i : Int)))
theorem frame_cut {μ : Mem} {f : Int} (h : InF f) : cutV (lW μ) (some (f * 64)) (some ((f + 1) * 64)) = frameV μ f := by
  obtain ⟨h0, h1⟩ := h
  obtain ⟨n, rfl⟩ : ∃ n : Nat, f = n := ⟨f.toNat, by omega⟩
  have hn : n < 32 := by omega
  unfold cutV
  have e1 : HT.sIx (lW μ).length 0 (some ((n : Int) * 64)) = n * 64 := by
    rw [lW_len, show ((n : Int) * 64) = ((n * 64 : Nat) : Int) by omega, HT.sIx_nat]
    omega
  have e2 : HT.sIx (lW μ).length (lW μ).length (some (((n : Int) + 1) * 64)) = (n + 1) * 64 := by
    rw [lW_len, show (((n : Int) + 1) * 64) = (((n + 1) * 64 : Nat) : Int) by omega, HT.sIx_nat]
    omega
  rw [e1, e2]
  apply List.ext_getElem?
  intro i
  unfold frameV
  rw [List.getElem?_take, List.getElem?_map]
  by_cases hi : i < 64
  · rw [if_pos (by omega), List.getElem?_drop, List.getElem?_range hi, lW_at (by omega)]
    show some (V.int (μ (n * 64 + i))) = some (V.int (μ (ix n i)))
    congr 3
  · rw [if_neg (by omega), List.getElem?_eq_none (by simp; omega)]
    rfl
section
variable {P : Program} {w : World} {K : PySem.W.Frag} {mg : Str → Option Value} {base : Heap}
def sp_frame (K : PySem.W.Frag) : Sp := fun vs H Q _ => ∃ (m wl : Addr) (μ : Mem) (f : Int), vs = [.ref m, .int f] ∧ MemAt K H m wl μ ∧ InF f ∧ ∀ p H', H p = none → Ex H H' → H' p = some (.tup (frameV μ f)) → Q (.ref p) H'
theorem ok_Memory_frame (T : Txt K mg) : FnOk P w K mg base CX0 1 (f_Memory_frame K) (fd_Memory_frame K) ["self", "frame"] (sp_frame K) := by
  refine T.fn_Memory_frame.ok sc_Memory_frame (fun vs H Q E h => ?_) (fun cdv A outer s H vs Q E hr h => ⟨_, PSs.nox (pss_one (ps_ret (pe_callTy call_tuple_of (by rfl) T.free_tuple (by decide +kernel) (pa_cons (pe_slice sl_list (pe_fld (pv 0) rfl) (po_some (pe_op op_mul (pv 1) (T.pg_FRAME))) (po_some (pe_op op_mul (pe_op op_add (pv 1) pe_int) (T.pg_FRAME)))) pa_nil)))), ?_⟩)
  · obtain ⟨_, _, _, _, rfl, _⟩ := h
    rfl
  · obtain ⟨m, wl, μ, f, rfl, hM, hI, k⟩ := h
    obtain ⟨dx, dd, h1, h2⟩ := hM.ins
    refine s_retU (eu_tupNL (K := K) (xs := frameV μ f) (el_is (el_sl (ev_fld (ev_var rfl) h1 T.cl_Memory T.no_Memory_words rfl) (eo_some (ev_op (ev_var rfl) ev_c (rv_I (.inr ⟨by decide, by decide⟩)))) (eo_some (ev_op (ev_op (ev_var rfl) ev_c rv_I0) ev_c (rv_I (.inr ⟨by decide, by decide⟩)))) (sq_of hM.ws)) (frame_cut hI))) k
/-- defs that are not called -/
abbrev spF : Sp := fun _ _ _ _ => False
theorem ok_Memory_disk (T : Txt K mg) : FnOk P w K mg base CX0 1 (f_Memory_disk K) (fd_Memory_disk K) ["self", "frame"] spF := T.fn_Memory_disk.ok sc_Memory_disk (fun vs H Q E h => h.elim) (fun cdv A outer s H vs Q E hr h => h.elim)
theorem ok_device_of (T : Txt K mg) : FnOk P w K mg base CX0 6 (f_device_of K) (fd_device_of K) ["memory", "device"] spF := T.fn_device_of.ok sc_device_of (fun vs H Q E h => h.elim) (fun cdv A outer s H vs Q E hr h => h.elim)
/-- no disks -/
def sp_laid (K : PySem.W.Frag) : Sp := fun vs H Q _ => ∃ (m wl dx dd : Addr), vs = [.ref m] ∧ H m = some (.ins (CM K) dx [("_words", .ref wl), ("_disks", .ref dd)]) ∧ H dd = some (.dK []) ∧ ∀ p H', H p = none → Ex H H' → H' p = some (.lst []) → Q (.ref p) H'
theorem ok_Memory_laid (T : Txt K mg) : FnOk P w K mg base CX0 1 (f_Memory_laid K) (fd_Memory_laid K) ["self"] (sp_laid K) := by
  refine T.fn_Memory_laid.ok sc_Memory_laid (fun vs H Q E h => ?_) (fun cdv A outer s H vs Q E hr h => ⟨_, PSs.nox (pss_one (ps_ret (pe_callB (call_sortedDI rfl) (by rfl) T.free_sorted (by decide +kernel) (pa_cons (pe_fld (pv 0) rfl) pa_nil)))), ?_⟩)
  · obtain ⟨_, _, _, _, rfl, _⟩ := h
    rfl
  obtain ⟨m, wl, dx, dd, rfl, hi, hd, k⟩ := h
  refine ⟨_, rfl, m, CM K, dx, _, .ref dd, rfl, hi, T.cl_Memory, T.no_Memory_disks, rfl, dd, _, [], rfl, Rd.of hd, rfl, by decide, fun ys p hp _ hpn => ?_⟩
  obtain rfl : ys = [] := List.perm_nil.mp hp
  exact k p _ hpn (Ex.new hpn) upd_same
end
end KQ

namespace KX
open KA KQ
open PySem PySem.Spec PyProof.Rows L2 Evl TL
/-! ### data in the heap: ints, None, tuples, dicts; none of its objects is among S -/
inductive DD where
  | non | int (i : Int) | tup (xs : List DD) | dct (kvs : List (Key × DD))
mutual
inductive HD (S : List Addr) (H : Hp) : V → DD → Prop
  | non : HD S H .non .non
  | int (i : Int) : HD S H (.int i) (.int i)
  | tup {a : Addr} {vs : List V} {ds : List DD} : H a = some (.tup vs) → a ∉ S → HDs S H vs ds → HD S H (.ref a) (.tup ds)
  | dct {a : Addr} {kvs : List (Key × V)} {ds : List (Key × DD)} : H a = some (.dK kvs) → a ∉ S → HDk S H kvs ds → HD S H (.ref a) (.dct ds)
inductive HDs (S : List Addr) (H : Hp) : List V → List DD → Prop
  | nil : HDs S H [] []
  | cons {v : V} {d : DD} {vs : List V} {ds : List DD} : HD S H v d → HDs S H vs ds → HDs S H (v :: vs) (d :: ds)
inductive HDk (S : List Addr) (H : Hp) : List (Key × V) → List (Key × DD) → Prop
  | nil : HDk S H [] []
  | cons {k : Key} {v : V} {d : DD} {kvs : List (Key × V)} {ds : List (Key × DD)} : HD S H v d → HDk S H kvs ds → HDk S H ((k, v) :: kvs) ((k, d) :: ds)
end
section
variable {S S' : List Addr} {H H' : Hp}
mutual
theorem HD.fs (f : FS S H H') : ∀ {v : V} {d : DD}, HD S H v d → HD S H' v d
  | _, _, .non => .non
  | _, _, .int i => .int i
  | _, _, .tup h n r => .tup (f _ _ h n) n (HDs.fs f r)
  | _, _, .dct h n r => .dct (f _ _ h n) n (HDk.fs f r)
theorem HDs.fs (f : FS S H H') : ∀ {vs : List V} {ds : List DD}, HDs S H vs ds → HDs S H' vs ds
  | _, _, .nil => .nil
  | _, _, .cons h r => .cons (HD.fs f h) (HDs.fs f r)
theorem HDk.fs (f : FS S H H') : ∀ {vs : List (Key × V)} {ds : List (Key × DD)}, HDk S H vs ds → HDk S H' vs ds
  | _, _, .nil => .nil
  | _, _, .cons h r => .cons (HD.fs f h) (HDk.fs f r)
end
mutual
theorem HD.weak (f : ∀ a ∈ S', a ∈ S) : ∀ {v : V} {d : DD}, HD S H v d → HD S' H v d
  | _, _, .non => .non
  | _, _, .int i => .int i
  | _, _, .tup h n r => .tup h (fun z => n (f _ z)) (HDs.weak f r)
  | _, _, .dct h n r => .dct h (fun z => n (f _ z)) (HDk.weak f r)
theorem HDs.weak (f : ∀ a ∈ S', a ∈ S) : ∀ {vs : List V} {ds : List DD}, HDs S H vs ds → HDs S' H vs ds
  | _, _, .nil => .nil
  | _, _, .cons h r => .cons (HD.weak f h) (HDs.weak f r)
theorem HDk.weak (f : ∀ a ∈ S', a ∈ S) : ∀ {vs : List (Key × V)} {ds : List (Key × DD)}, HDk S H vs ds → HDk S' H vs ds
  | _, _, .nil => .nil
  | _, _, .cons h r => .cons (HD.weak f h) (HDk.weak f r)
end
mutual
theorem HD.add {c : Addr} (hc : H c = none) : ∀ {v : V} {d : DD}, HD S H v d → HD (c :: S) H v d
  | _, _, .non => .non
  | _, _, .int i => .int i
  | _, _, .tup h n r => .tup h (fun z => by rcases List.mem_cons.mp z with e | e; (rw [e, hc] at h; cases h); exact n e) (HDs.add hc r)
  | _, _, .dct h n r => .dct h (fun z => by rcases List.mem_cons.mp z with e | e; (rw [e, hc] at h; cases h); exact n e) (HDk.add hc r)
theorem HDs.add {c : Addr} (hc : H c = none) : ∀ {vs : List V} {ds : List DD}, HDs S H vs ds → HDs (c :: S) H vs ds
  | _, _, .nil => .nil
  | _, _, .cons h r => .cons (HD.add hc h) (HDs.add hc r)
theorem HDk.add {c : Addr} (hc : H c = none) : ∀ {vs : List (Key × V)} {ds : List (Key × DD)}, HDk S H vs ds → HDk (c :: S) H vs ds
  | _, _, .nil => .nil
  | _, _, .cons h r => .cons (HD.add hc h) (HDk.add hc r)
end
theorem HD.ex {v : V} {d : DD} (h : HD S H v d) (e : Ex H H') : HD S H' v d := h.fs (FS.of e)
theorem HDs.ex {v : List V} {d : List DD} (h : HDs S H v d) (e : Ex H H') : HDs S H' v d := h.fs (FS.of e)
theorem HDk.ex {v : List (Key × V)} {d : List (Key × DD)} (h : HDk S H v d) (e : Ex H H') : HDk S H' v d := h.fs (FS.of e)
theorem HDs.len : ∀ {vs : List V} {ds : List DD}, HDs S H vs ds → vs.length = ds.length
  | _, _, .nil => rfl
  | _, _, .cons _ r => by rw [List.length_cons, List.length_cons, HDs.len r]
theorem HDk.len : ∀ {vs : List (Key × V)} {ds : List (Key × DD)}, HDk S H vs ds → vs.length = ds.length
  | _, _, .nil => rfl
  | _, _, .cons _ r => by rw [List.length_cons, List.length_cons, HDk.len r]
theorem HDs.append : ∀ {vs us : List V} {ds es : List DD}, HDs S H vs ds → HDs S H us es → HDs S H (vs ++ us) (ds ++ es)
  | _, _, _, _, .nil, r => r
  | _, _, _, _, .cons h t, r => .cons h (HDs.append t r)
theorem HDk.append : ∀ {vs us : List (Key × V)} {ds es : List (Key × DD)}, HDk S H vs ds → HDk S H us es → HDk S H (vs ++ us) (ds ++ es)
  | _, _, _, _, .nil, r => r
  | _, _, _, _, .cons h t, r => .cons h (HDk.append t r)
theorem HDs.ints : ∀ {xs : List Int}, HDs S H (xs.map V.int) (xs.map DD.int)
  | [] => .nil
  | x :: xs => .cons (.int x) HDs.ints
theorem HDs.at : ∀ {vs : List V} {ds : List DD} {i : Nat} {v : V}, HDs S H vs ds → vs[i]? = some v → ∃ d, ds[i]? = some d ∧ HD S H v d
  | _, _, _, _, .nil, e => by simp at e
  | _, _, 0, _, .cons h _, e => by simp at e; subst e; exact ⟨_, rfl, h⟩
  | _, _, i + 1, _, .cons _ t, e => by
    obtain ⟨d, h1, h2⟩ := HDs.at (i := i) t (by simpa using e)
    exact ⟨d, by simpa using h1, h2⟩
theorem HDs.at' {vs : List V} {ds : List DD} {i : Nat} {d : DD} (h : HDs S H vs ds) (e : ds[i]? = some d) : ∃ v, vs[i]? = some v ∧ HD S H v d := by
  have hi : i < vs.length := by rw [h.len]; exact (List.getElem?_eq_some_iff.mp e).1
  obtain ⟨d', h1, h2⟩ := h.at (List.getElem?_eq_getElem hi)
  rw [h1] at e
  cases e
  exact ⟨_, List.getElem?_eq_getElem hi, h2⟩
theorem HDk.at : ∀ {vs : List (Key × V)} {ds : List (Key × DD)} {i : Nat} {p : Key × V}, HDk S H vs ds → vs[i]? = some p → ∃ d, ds[i]? = some (p.1, d) ∧ HD S H p.2 d
  | _, _, _, _, .nil, e => by simp at e
  | _, _, 0, _, .cons h _, e => by simp at e; subst e; exact ⟨_, rfl, h⟩
  | _, _, i + 1, _, .cons _ t, e => by
    obtain ⟨d, h1, h2⟩ := HDk.at (i := i) t (by simpa using e)
    exact ⟨d, by simpa using h1, h2⟩
end
def lookD (k : Key) : List (Key × DD) → Option DD
  | [] => none
  | (j, d) :: r => if j = k then some d else lookD k r
section
variable {S : List Addr} {H : Hp}
theorem HDk.val : ∀ {kvs : List (Key × V)} {ds : List (Key × DD)} {k : Key}, HDk S H kvs ds → (match lookD k ds with | some d => ∃ v, valV kvs k = some v ∧ HD S H v d | none => valV kvs k = none)
  | _, _, k, .nil => rfl
  | _, _, k, .cons (k := j) (v := v) (d := d) (kvs := kvs) (ds := ds) h r => by
    unfold lookD
    by_cases e : j = k
    · rw [if_pos e]
      exact ⟨v, valV_pos e, h⟩
    · rw [if_neg e, valV_neg (p := (j, v)) e]
      exact HDk.val r
theorem HDk.some {kvs : List (Key × V)} {ds : List (Key × DD)} {k : Key} {d : DD} (h : HDk S H kvs ds) (e : lookD k ds = some d) : ∃ v, valV kvs k = .some v ∧ HD S H v d := by
  have := h.val (k := k)
  rw [e] at this
  exact this
theorem HDk.none {kvs : List (Key × V)} {ds : List (Key × DD)} {k : Key} (h : HDk S H kvs ds) (e : lookD k ds = none) : valV kvs k = none := by
  have := h.val (k := k)
  rw [e] at this
  exact this
theorem HDk.put {kvs : List (Key × V)} {ds : List (Key × DD)} {k : Key} {v : V} {d : DD} (h : HDk S H kvs ds) (e : lookD k ds = .none) (hv : HD S H v d) : HDk S H (putK kvs k v) (ds ++ [(k, d)]) := by
  rw [putK_new v (h.none e)]
  exact h.append (.cons hv .nil)
theorem HD.tup_inv {v : V} {ds : List DD} (h : HD S H v (.tup ds)) : ∃ a vs, v = .ref a ∧ H a = .some (.tup vs) ∧ a ∉ S ∧ HDs S H vs ds := by
  cases h with
  | tup a b c => exact ⟨_, _, rfl, a, b, c⟩
theorem HD.dct_inv {v : V} {ds : List (Key × DD)} (h : HD S H v (.dct ds)) : ∃ a kvs, v = .ref a ∧ H a = .some (.dK kvs) ∧ a ∉ S ∧ HDk S H kvs ds := by
  cases h with
  | dct a b c => exact ⟨_, _, rfl, a, b, c⟩
theorem HD.int_inv {v : V} {i : Int} (h : HD S H v (.int i)) : v = .int i := by cases h; rfl
theorem HD.non_inv {v : V} (h : HD S H v .non) : v = .non := by cases h; rfl
theorem HDs.ints_inv : ∀ {vs : List V} {xs : List Int}, HDs S H vs (xs.map DD.int) → vs = xs.map V.int
  | [], [], _ => rfl
  | [], _ :: _, h => by cases h
  | _ :: _, [], h => by cases h
  | v :: vs, x :: xs, h => by
    cases h with
    | cons a b => rw [a.int_inv, HDs.ints_inv b]; rfl
end
def oD : Option Int → DD
  | none => .non
  | some i => .int i
theorem HD.opt {S : List Addr} {H : Hp} (o : Option Int) : HD S H (oI o) (oD o) := by
  cases o with
  | none => exact .non
  | some i => exact .int i
/-- all of S is there, and none is a tuple -/
def AllS (S : List Addr) (H : Hp) : Prop := ∀ a ∈ S, ∃ o, H a = some o ∧ ∀ xs, o ≠ .tup xs
theorem AllS.ex {S : List Addr} {H H' : Hp} (h : AllS S H) (e : Ex H H') : AllS S H' := fun a ha => let ⟨o, h1, h2⟩ := h a ha; ⟨o, e _ _ h1, h2⟩
theorem AllS.new {S : List Addr} {H : Hp} {p : Addr} (h : AllS S H) (hp : H p = none) : p ∉ S := fun z => by
  obtain ⟨o, h1, _⟩ := h p z
  rw [hp] at h1
  cases h1
theorem AllS.tup {S : List Addr} {H : Hp} {p : Addr} {xs : List V} (h : AllS S H) (hp : H p = some (.tup xs)) : p ∉ S := fun z => by
  obtain ⟨o, h1, h2⟩ := h p z
  rw [hp] at h1
  exact h2 _ (Option.some.inj h1).symm
theorem AllS.nil {H : Hp} : AllS [] H := fun a ha => by cases ha
theorem AllS.cons {S : List Addr} {H : Hp} {p : Addr} {o : HO} (h : AllS S H) (hp : H p = some o) (n : ∀ xs, o ≠ .tup xs) : AllS (p :: S) H := fun a ha => by
  rcases List.mem_cons.mp ha with e | e
  · rw [e]; exact ⟨o, hp, n⟩
  · exact h a e
theorem AllS.dK {S : List Addr} {H : Hp} {p : Addr} {kvs : List (Key × V)} (h : AllS S H) (hp : H p = some (.dK kvs)) : AllS (p :: S) H := h.cons hp fun _ z => by cases z
theorem AllS.lst {S : List Addr} {H : Hp} {p : Addr} {xs : List V} (h : AllS S H) (hp : H p = some (.lst xs)) : AllS (p :: S) H := h.cons hp fun _ z => by cases z
/-- a dict among S is put -/
theorem AllS.put {S : List Addr} {H : Hp} {p : Addr} {kvs : List (Key × V)} (h : AllS S H) : AllS S (upd H p (.dK kvs)) := fun a ha => by
  by_cases e : a = p
  · rw [e, upd_same]; exact ⟨_, rfl, fun _ z => by cases z⟩
  · rw [upd_ne e]; exact h a ha
theorem HD.tupI {S : List Addr} {H : Hp} {a : Addr} {xs : List Int} (hS : AllS S H) (h : H a = some (.tup (xs.map V.int))) : HD S H (.ref a) (.tup (xs.map DD.int)) := .tup h (hS.tup h) .ints
section
variable {σ : L2.St} {H : Hp} {K : PySem.W.Frag} {D : Ends} {te tk tv tl : TE} {ta tr : TA} {tt : TT} {tz : TS} {S : List Addr} {vs : List Nat}
def EvH (S : List Addr) (te : TE) (σ : L2.St) (H : Hp) (d : DD) : Prop := ∀ H1, Ex H H1 → ∀ Q : VK, (∀ v H2, Ex H1 H2 → HD S H2 v d → Q v H2) → te σ H1 Q
def EvHs (S : List Addr) (ta : TA) (σ : L2.St) (H : Hp) (ds : List DD) : Prop := ∀ H1, Ex H H1 → ∀ Q : List V → Hp → Prop, (∀ us H2, Ex H1 H2 → HDs S H2 us ds → Q us H2) → ta σ H1 Q
/-- a new list of data -/
def EvHL (S : List Addr) (te : TE) (σ : L2.St) (H : Hp) (ds : List DD) : Prop := ∀ H1, Ex H H1 → ∀ Q : VK, (∀ p us H2, H1 p = none → Ex H1 H2 → H2 p = some (.lst us) → HDs S H2 us ds → Q (.ref p) H2) → te σ H1 Q
theorem eh_int {i : Int} (h : Ev te σ H (.int i)) : EvH S te σ H (.int i) := fun H1 e Q q => h H1 e _ fun H2 e2 => q _ H2 e2 (.int i)
theorem eh_non (h : Ev te σ H .non) : EvH S te σ H .non := fun H1 e Q q => h H1 e _ fun H2 e2 => q _ H2 e2 .non
theorem eh_opt {o : Option Int} (h : Ev te σ H (oI o)) : EvH S te σ H (oD o) := fun H1 e Q q => h H1 e _ fun H2 e2 => q _ H2 e2 (.opt o)
theorem eh_is {d e : DD} (h : EvH S te σ H d) (q : d = e) : EvH S te σ H e := q ▸ h
theorem eh_v {v : V} {d : DD} (h : Ev te σ H v) (hv : HD S H v d) : EvH S te σ H d := fun H1 e Q q => h H1 e _ fun H2 e2 => q _ H2 e2 (hv.ex (e.trans e2))
theorem ehs_nil : EvHs S tNil σ H [] := fun H1 e Q q => q [] H1 (Ex.refl H1) .nil
theorem ehs_cons {d : DD} {ds : List DD} (h : EvH S te σ H d) (hr : EvHs S tr σ H ds) : EvHs S (tCons te tr) σ H (d :: ds) := fun H1 e Q q =>
  h H1 e _ fun v H2 e2 hv => hr H2 (e.trans e2) _ fun us H3 e3 hu => q _ H3 (e2.trans e3) (.cons (hv.ex e3) hu)
theorem eh_tup {ds : List DD} (hS : AllS S H) (h : EvHs S ta σ H ds) (hl : ds.length ≤ 100000) : EvH S (tTup ta) σ H (.tup ds) := fun H1 e Q q =>
  h H1 e _ fun us H2 e2 hu => ⟨sz_of (by rw [hu.len]; exact hl), fun p hp => q _ _ (e2.trans (Ex.new hp)) (.tup upd_same ((hS.ex (e.trans e2)).new hp) (hu.ex (Ex.new hp)))⟩
theorem eh_tupI {xs : List Int} (hS : AllS S H) (h : EvU te σ H (xs.map V.int)) : EvH S te σ H (.tup (xs.map DD.int)) := fun H1 e Q q =>
  h H1 e _ fun p H2 hp e2 h2 => q _ H2 e2 (.tup h2 ((hS.ex e).new hp) .ints)
theorem eh_tupS {xs : List Int} (hS : AllS S H) (h : EvS te σ H (xs.map V.int)) : EvH S te σ H (.tup (xs.map DD.int)) := fun H1 e Q q =>
  h H1 e _ fun p H2 e2 h2 => q _ H2 e2 (.tupI (hS.ex (e.trans e2)) h2)
/-- tuple(list) -/
theorem eh_tuple {ds : List DD} (hS : AllS S H) (h : EvHL S te σ H ds) : EvH S (tCB (rTupK K) (tCons te tNil)) σ H (.tup ds) := fun H1 e Q q =>
  h H1 e _ fun p us H2 hp e2 h2 hu => ⟨p, us, rfl, .inl ⟨sq_of h2, fun l hl => q _ _ (e2.trans (Ex.new hl)) (.tup upd_same ((hS.ex (e.trans e2)).new hl) (hu.ex (Ex.new hl)))⟩⟩
theorem ehl_int {xs : List Int} (h : EvL te σ H (xs.map V.int)) : EvHL S te σ H (xs.map DD.int) := fun H1 e Q q => h H1 e _ fun p H2 hp e2 h2 => q p _ H2 hp e2 h2 .ints
def givD (n : Nat) (f : Nat → Bool) (d : Nat → DD) : List DD := ((List.range n).filter f).map d
theorem givD_yes {n : Nat} {f : Nat → Bool} {d : Nat → DD} (h : f n = true) : givD (n + 1) f d = givD n f d ++ [d n] := by
  unfold givD
  rw [List.range_succ, List.filter_append, List.map_append, List.filter_cons, if_pos h]
  rfl
theorem givD_no {n : Nat} {f : Nat → Bool} {d : Nat → DD} (h : f n = false) : givD (n + 1) f d = givD n f d := by
  unfold givD
  rw [List.range_succ, List.filter_append, List.filter_cons, if_neg (by rw [h]; decide)]
  simp
theorem givD_len {n : Nat} {f : Nat → Bool} {d : Nat → DD} : (givD n f d).length ≤ n := by
  unfold givD
  rw [List.length_map]
  have := List.length_filter_le f (List.range n)
  rw [List.length_range] at this
  exact this
/-- an item, whatever is not to be among its objects -/
def EvI (S : List Addr) (te : TE) (σ : L2.St) (H : Hp) (d : DD) : Prop := ∀ S' H1, (∀ a ∈ S, a ∈ S') → Ex H H1 → AllS S' H1 → EvH S' te σ H1 d
/-- a turn of a comprehension -/
def Cd (S : List Addr) (H : Hp) (L : List DD) (Dl : Addr) (H' : Hp) : Prop := H Dl = none ∧ Ex H H' ∧ ∃ us, H' Dl = some (.lst us) ∧ HDs (Dl :: S) H' us L
theorem cd_turn {H' : Hp} {i : Nat} {f : Nat → Bool} {d : Nat → DD} {Dl : Addr} {σ2 : L2.St} (hS : AllS S H) (p : Cd S H (givD i f d) Dl H') (hi : i < 50000) (ht : EvT tt σ2 H (f i)) (he : f i = true → EvI S te σ2 H (d i)) :
    tt σ2 H' fun c H3 => if c = true then te σ2 H3 fun y H4 => ∃ acc, H4 Dl = some (.lst acc) ∧ acc.length < sizeLine ∧ Cd S H (givD (i + 1) f d) Dl (upd H4 Dl (.lst (acc ++ [y]))) else Cd S H (givD (i + 1) f d) Dl H3 := by
  obtain ⟨p1, p2, us, p3, p4⟩ := p
  refine ht H' p2 _ fun H3 e3 => ?_
  cases hf : f i with
  | true =>
    show te σ2 H3 fun y H4 => ∃ acc, H4 Dl = some (.lst acc) ∧ acc.length < sizeLine ∧ Cd S H (givD (i + 1) f d) Dl (upd H4 Dl (.lst (acc ++ [y])))
    have hS3 : AllS (Dl :: S) H3 := (hS.ex (p2.trans e3)).lst (e3 _ _ p3)
    refine he hf (Dl :: S) H3 (fun a ha => List.mem_cons_of_mem _ ha) (p2.trans e3) hS3 H3 (Ex.refl H3) _ fun v H4 e4 hv => ⟨us, (e3.trans e4) _ _ p3, sz_lt (by rw [p4.len]; have := givD_len (n := i) (f := f) (d := d); omega), p1, Ex.mut ((p2.trans e3).trans e4) p1, us ++ [v], upd_same, ?_⟩
    rw [givD_yes hf]
    exact ((p4.ex (e3.trans e4)).append (.cons hv .nil)).fs (FS.put (by simp))
  | false =>
    show Cd S H (givD (i + 1) f d) Dl H3
    refine ⟨p1, p2.trans e3, us, e3 _ _ p3, ?_⟩
    rw [givD_no hf]
    exact p4.ex e3
theorem ehl_R1 {j : Nat} {n : Int} (f : Nat → Bool) (d : Nat → DD) (hS : AllS S H) (h : EvA ta σ H [.int n]) (hn : 0 ≤ n ∧ n ≤ 40000) (hw : ∀ x, wipe ((wipe σ vs).set j (some x)) vs = wipe σ vs)
    (ht : ∀ (i : Nat) H1, Ex H H1 → (i : Int) < n → EvT tt ((wipe σ vs).set j (some (.int (i : Int)))) H1 (f i)) (he : ∀ (i : Nat) H1, Ex H H1 → (i : Int) < n → f i = true → EvI S te ((wipe σ vs).set j (some (.int (i : Int)))) H1 (d i)) :
    EvHL S (tLc (iRng1 ta) (gName j) tt te vs) σ H (givD n.toNat f d) := fun H0 e Q q => h H0 e _ fun H1 e1 => ⟨n, rfl, by omega, by omega, fun Dl hD =>
  lc_range (lo := 0) (n := n.toNat) (fun i => Cd S H1 (givD i f d) Dl) ⟨hD, Ex.new hD, [], upd_same, .nil⟩ (fun i H' hi p => by
    have e0 : (0 : Int) + (i : Int) = (i : Int) := Int.zero_add _
    show wipe ((wipe σ vs).set j (some (.int ((0 : Int) + (i : Int))))) vs = wipe σ vs ∧ tt ((wipe σ vs).set j (some (.int ((0 : Int) + (i : Int))))) H' fun b H3 => if b = true then te ((wipe σ vs).set j (some (.int ((0 : Int) + (i : Int))))) H3 fun y H4 => ∃ acc, H4 Dl = some (.lst acc) ∧ acc.length < sizeLine ∧ Cd S H1 (givD (i + 1) f d) Dl (upd H4 Dl (.lst (acc ++ [y]))) else Cd S H1 (givD (i + 1) f d) Dl H3
    rw [e0]
    exact ⟨hw _, cd_turn (hS.ex (e.trans e1)) p (by omega) (ht i H1 (e.trans e1) (by omega)) (fun hf => he i H1 (e.trans e1) (by omega) hf)⟩) (fun H' ⟨p1, p2, us, p3, p4⟩ => q Dl us H' (fresh_back e1 p1) (e1.trans p2) p3 (p4.weak fun a ha => List.mem_cons_of_mem _ ha))⟩
theorem ehl_L {a : Addr} {xs : List V} {j : Nat} (f : Nat → Bool) (d : Nat → DD) (hS : AllS S H) (h : Ev tl σ H (.ref a)) (hx : SqL K H a xs) (hz : xs.length ≤ 40000) (hw : ∀ x, wipe ((wipe σ vs).set j (some x)) vs = wipe σ vs)
    (ht : ∀ (i : Nat) (x : V) H1, Ex H H1 → xs[i]? = some x → EvT tt ((wipe σ vs).set j (some x)) H1 (f i)) (he : ∀ (i : Nat) (x : V) H1, Ex H H1 → xs[i]? = some x → f i = true → EvI S te ((wipe σ vs).set j (some x)) H1 (d i)) :
    EvHL S (tLc (iList K tl) (gName j) tt te vs) σ H (givD xs.length f d) := fun H0 e Q q => h H0 e _ fun H1 e1 => ⟨a, rfl, ⟨xs, ex_l (e.trans e1) hx⟩, fun Dl hD =>
  lc_list (xs := xs) (fun i => Cd S H1 (givD i f d) Dl) ⟨hD, Ex.new hD, [], upd_same, .nil⟩ (fun i H' _ p => ex_l ((e.trans e1).trans p.2.1) hx) (fun i x H' hi p => ⟨hw x, cd_turn (hS.ex (e.trans e1)) p (by have := (List.getElem?_eq_some_iff.mp hi).1; omega) (ht i x H1 (e.trans e1) hi) (fun hf => he i x H1 (e.trans e1) hi hf)⟩)
    (fun H' ⟨p1, p2, us, p3, p4⟩ => q Dl us H' (fresh_back e1 p1) (e1.trans p2) p3 (p4.weak fun a ha => List.mem_cons_of_mem _ ha))⟩
/-! ### dicts made by comprehensions -/
def givK (n : Nat) (f : Nat → Bool) (key : Nat → Key) (d : Nat → DD) : List (Key × DD) := ((List.range n).filter f).map fun i => (key i, d i)
theorem hdk_of {S : List Addr} {H : Hp} {key : Nat → Key} {d : Nat → DD} : ∀ (L : List Nat) (kvs : List (Key × V)), (∀ i ∈ L, ∀ j ∈ L, key i = key j → i = j) → kvs.map (·.1) = L.map key → (∀ p ∈ kvs, ∃ i ∈ L, p.1 = key i ∧ HD S H p.2 (d i)) → HDk S H kvs (L.map fun i => (key i, d i))
  | [], [], _, _, _ => .nil
  | [], _ :: _, _, h, _ => by cases h
  | _ :: _, [], _, h, _ => by cases h
  | i :: L, (k, v) :: kvs, inj, hk, h => by
    have hk1 : k = key i := (List.cons.inj hk).1
    have hk2 : kvs.map (·.1) = L.map key := (List.cons.inj hk).2
    subst hk1
    refine .cons ?_ (hdk_of L kvs (fun a ha b hb => inj a (List.mem_cons_of_mem _ ha) b (List.mem_cons_of_mem _ hb)) hk2 fun p hp => ?_)
    · obtain ⟨i', hi', e, hv⟩ := h _ List.mem_cons_self
      have := inj i List.mem_cons_self i' hi' e
      subst this
      exact hv
    · obtain ⟨i', hi', e, hv⟩ := h p (List.mem_cons_of_mem _ hp)
      have hm : p.1 ∈ kvs.map (·.1) := List.mem_map.mpr ⟨p, hp, rfl⟩
      rw [hk2] at hm
      obtain ⟨j, hj, ej⟩ := List.mem_map.mp hm
      have := inj j (List.mem_cons_of_mem _ hj) i' hi' (ej.trans e)
      subst this
      exact ⟨j, hj, e, hv⟩
theorem hdk_ok {S : List Addr} {H : Hp} {key : Nat → Key} {f : Nat → Bool} {d : Nat → DD} {n : Nat} {kvs : List (Key × V)} (inj : ∀ i j, i < n → j < n → key i = key j → i = j) (h : KvOk key f (fun i v H => HD S H v (d i)) n kvs H) : HDk S H kvs (givK n f key d) :=
  hdk_of _ _ (fun i hi j hj e => inj i j (List.mem_range.mp (List.mem_filter.mp hi).1) (List.mem_range.mp (List.mem_filter.mp hj).1) e) h.1 fun p hp => by
    obtain ⟨i, a, b, c, e⟩ := h.2 p hp
    exact ⟨i, List.mem_filter.mpr ⟨List.mem_range.mpr a, b⟩, c, e⟩
section
variable {σ : L2.St} {H : Hp} {K : PySem.W.Frag} {te tk tv tl : TE} {ta : TA} {tt : TT} {S : List Addr} {vs : List Nat}
/-- a new dict of data -/
def EvHD (S : List Addr) (te : TE) (σ : L2.St) (H : Hp) (ds : List (Key × DD)) : Prop := ∀ H1, Ex H H1 → ∀ Q : VK, (∀ p kvs H2, H1 p = none → Ex H1 H2 → H2 p = some (.dK kvs) → HDk S H2 kvs ds → Q (.ref p) H2) → te σ H1 Q
theorem eh_D {ds : List (Key × DD)} (hS : AllS S H) (h : EvHD S te σ H ds) : EvH S te σ H (.dct ds) := fun H1 e Q q => h H1 e _ fun p kvs H2 hp e2 h2 hk => q _ H2 e2 (.dct h2 ((hS.ex e).new hp) hk)
theorem mo_dd {d : Nat → DD} : ∀ D i v H H', ExB D H H' → HD (D :: S) H v (d i) → HD (D :: S) H' v (d i) := fun D i v H H' x h => h.fs fun b o hb n => x b o hb fun z => n (by rw [z]; exact List.mem_cons_self)
theorem ehd_R1 {j : Nat} {n : Int} (key : Nat → Key) (f : Nat → Bool) (d : Nat → DD) (hS : AllS S H) (h : EvA ta σ H [.int n]) (hn : 0 ≤ n ∧ n ≤ 40000) (inj : ∀ i j : Nat, key i = key j → i = j) (hw : ∀ x, wipe ((wipe σ vs).set j (some x)) vs = wipe σ vs)
    (hs : ∀ (i : Nat) H1, Ex H H1 → (i : Int) < n → EvT tt ((wipe σ vs).set j (some (.int (i : Int)))) H1 (f i) ∧ (f i = true → Ev tk ((wipe σ vs).set j (some (.int (i : Int)))) H1 (kV (key i)) ∧ EvI S tv ((wipe σ vs).set j (some (.int (i : Int)))) H1 (d i))) :
    EvHD S (tDc (iRng1 ta) (gName j) tt tk tv vs) σ H (givK n.toNat f key d) := fun H0 e Q q =>
  (ed_R1 key f (fun D i v H => HD (D :: S) H v (d i)) h hn inj mo_dd hw fun D i H1 e1 hne hi => by
    obtain ⟨h1, h2⟩ := hs i H1 e1 hi
    refine ⟨h1, fun hf => ⟨(h2 hf).1, ?_⟩⟩
    obtain ⟨kv, hk⟩ := hne
    exact (h2 hf).2 (D :: S) H1 (fun a ha => List.mem_cons_of_mem _ ha) (Ex.refl H1) ((hS.ex e1).dK hk)) H0 e Q fun p kvs H2 hp e2 h2 ok => q p kvs H2 hp e2 h2 ((hdk_ok (fun i j _ _ => inj i j) ok).weak fun a ha => List.mem_cons_of_mem _ ha)
theorem ehd_NL {j : Nat} {xs : List V} (key : Nat → Key) (f : Nat → Bool) (d : Nat → DD) (hS : AllS S H) (h : EvL tl σ H xs) (hz : xs.length ≤ 40000) (inj : ∀ i j : Nat, i < xs.length → j < xs.length → key i = key j → i = j) (hw : ∀ x, wipe ((wipe σ vs).set j (some x)) vs = wipe σ vs)
    (hs : ∀ (i : Nat) y H1, Ex H H1 → xs[i]? = some y → EvT tt ((wipe σ vs).set j (some y)) H1 (f i) ∧ (f i = true → Ev tk ((wipe σ vs).set j (some y)) H1 (kV (key i)) ∧ EvI S tv ((wipe σ vs).set j (some y)) H1 (d i))) :
    EvHD S (tDc (iList K tl) (gName j) tt tk tv vs) σ H (givK xs.length f key d) := fun H0 e Q q =>
  (ed_NL (K := K) key f (fun D i v H => HD (D :: S) H v (d i)) h hz inj mo_dd hw fun D i y H1 e1 hne hi => by
    obtain ⟨h1, h2⟩ := hs i y H1 e1 hi
    refine ⟨h1, fun hf => ⟨(h2 hf).1, ?_⟩⟩
    obtain ⟨kv, hk⟩ := hne
    exact (h2 hf).2 (D :: S) H1 (fun a ha => List.mem_cons_of_mem _ ha) (Ex.refl H1) ((hS.ex e1).dK hk)) H0 e Q fun p kvs H2 hp e2 h2 ok => q p kvs H2 hp e2 h2 ((hdk_ok inj ok).weak fun a ha => List.mem_cons_of_mem _ ha)
end
end
end KX

namespace KX
open KA KQ
open PySem PySem.Spec PyProof.Rows L2 Evl TL
section
variable {σ : L2.St} {H : Hp} {K : PySem.W.Frag} {D : Ends} {te tk tv ty td : TE} {ta : TA} {tt : TT} {tz : TS} {vs : List Nat}
theorem q_asgD {i : Nat} {Pk : Addr → List (Key × V) → Hp → Prop} (h : EvD te σ H Pk) (k : ∀ p kvs H1, H p = none → Ex H H1 → H1 p = some (.dK kvs) → Pk p kvs H1 → tz D (σ.set i (some (.ref p))) H1) : tSeq (tAsg te (gName i)) tz D σ H := h H (Ex.refl H) _ k
theorem q_asgPs {i : Nat} {Ps : List Pr} (hm : ∀ P ∈ Ps, Mo P) (hl : Ps.length ≤ 100000) (h : EvPs ta σ H Ps) (k : ∀ p vs H1, Ex H H1 → H1 p = some (.tup vs) → Al Ps vs H1 → tz D (σ.set i (some (.ref p))) H1) : tSeq (tAsg (tTup ta) (gName i)) tz D σ H :=
  h H (Ex.refl H) _ fun vs H1 e1 a => ⟨sz_of (by rw [a.len]; exact hl), fun p hp => k p vs _ (e1.trans (Ex.new hp)) upd_same (a.mono hm (TK.ex (Ex.new hp)))⟩
/-- d[y] = v -/
theorem q_dputV {v : V} {a : Addr} {kvs : List (Key × V)} {k : Key} (hv : Ev tv σ H v) (hd : Ev td σ H (.ref a)) (hy : Ev ty σ H (kV k)) (ha : H a = some (.dK kvs)) (hz : kvs.length ≤ 1000) (kk : ∀ H1, Ex H H1 → tz D σ (upd H1 a (.dK (putK kvs k v)))) : tSeq (sDPut td ty tv) tz D σ H :=
  hv H (Ex.refl H) _ fun H1 e1 => hd H1 e1 _ fun H2 e2 => hy H2 (e1.trans e2) _ fun H3 e3 => ⟨a, _, rfl, DPut.k (((e1.trans e2).trans e3) _ _ ha) (sz_lt (by omega)), kk H3 ((e1.trans e2).trans e3)⟩
/-- .., what is put told by a promise -/
theorem q_dputP {P : Pr} {a : Addr} {kvs : List (Key × V)} {k : Key} (hv : EvP tv σ H P) (hd : ∀ H1, Ex H H1 → Ev td σ H1 (.ref a)) (hy : ∀ H1, Ex H H1 → Ev ty σ H1 (kV k)) (ha : H a = some (.dK kvs)) (hz : kvs.length ≤ 1000) (mo : Mo P) (kk : ∀ v H1, Ex H H1 → P v H1 → tz D σ (upd H1 a (.dK (putK kvs k v)))) : tSeq (sDPut td ty tv) tz D σ H :=
  hv H (Ex.refl H) _ fun v H1 e1 p1 => hd H1 e1 H1 (Ex.refl H1) _ fun H2 e2 => hy H1 e1 H2 e2 _ fun H3 e3 => ⟨a, _, rfl, DPut.k (((e1.trans e2).trans e3) _ _ ha) (sz_lt (by omega)), kk v H3 ((e1.trans e2).trans e3) (mo _ _ _ (TK.ex (e2.trans e3)) p1)⟩
theorem s_dputV {v : V} {a : Addr} {kvs : List (Key × V)} {k : Key} (hv : Ev tv σ H v) (hd : Ev td σ H (.ref a)) (hy : Ev ty σ H (kV k)) (ha : H a = some (.dK kvs)) (hz : kvs.length ≤ 1000) (kk : ∀ H1, Ex H H1 → D.nx σ (upd H1 a (.dK (putK kvs k v)))) : sDPut td ty tv D σ H :=
  hv H (Ex.refl H) _ fun H1 e1 => hd H1 e1 _ fun H2 e2 => hy H2 (e1.trans e2) _ fun H3 e3 => ⟨a, _, rfl, DPut.k (((e1.trans e2).trans e3) _ _ ha) (sz_lt (by omega)), kk H3 ((e1.trans e2).trans e3)⟩
/-- a pair of a text and a number -/
def PrSt (x : Str) (n : Int) : Pr := fun v H => ∃ t, v = .ref t ∧ H t = some (.tup [.str x, .int n])
theorem PrSt.mo {x : Str} {n : Int} : Mo (PrSt x n) := fun v H H' tk ⟨t, e, h1⟩ => ⟨t, e, tk _ _ h1⟩
theorem ep_st {x : Str} {n : Int} : EvP (tTup (tCons (tC (.str x)) (tCons (tC (.int n)) tNil))) σ H (PrSt x n) := fun H1 e Q q =>
  (eu_tup (ea_cons ev_c (ea_cons ev_c ea_nil)) (by show 2 ≤ 100000; decide) : EvU _ σ H _) H1 e _ fun p H2 hp e2 h => q _ H2 e2 ⟨p, rfl, h⟩
def prSts (l : List (Str × Int)) : List Pr := l.map fun p => PrSt p.1 p.2
theorem prSts_mo {l : List (Str × Int)} : ∀ P ∈ prSts l, Mo P := fun P h => by
  obtain ⟨p, _, rfl⟩ := List.mem_map.mp h
  exact PrSt.mo
/-- the names and places that a tuple holds -/
def NamesT (H : Hp) (xs : List V) (l : List (Str × Int)) : Prop := xs.length = l.length ∧ ∀ (i : Nat) (p : Str × Int), l[i]? = some p → ∃ t, xs[i]? = some (V.ref t) ∧ H t = some (.tup [.str p.1, .int p.2])
theorem NamesT.of {xs : List V} {l : List (Str × Int)} (h : Al (prSts l) xs H) : NamesT H xs l := by
  have hl := h.len
  refine ⟨by rw [hl]; simp [prSts], fun i p hp => ?_⟩
  have hi : i < l.length := (List.getElem?_eq_some_iff.mp hp).1
  have hx : i < xs.length := by rw [hl]; simpa [prSts] using hi
  obtain ⟨P, hP, hv⟩ := h.at (List.getElem?_eq_getElem hx)
  unfold prSts at hP
  rw [List.getElem?_map, hp] at hP
  obtain rfl : PrSt p.1 p.2 = P := Option.some.inj hP
  obtain ⟨t, e, h1⟩ := hv
  exact ⟨t, by rw [List.getElem?_eq_getElem hx, e], h1⟩
theorem NamesT.keep {H' : Hp} {xs : List V} {l : List (Str × Int)} (h : NamesT H xs l) (tk : TK H H') : NamesT H' xs l := ⟨h.1, fun i p hp => let ⟨t, a, b⟩ := h.2 i p hp; ⟨t, a, tk _ _ b⟩⟩
theorem NamesT.app {xs ys : List V} {l m : List (Str × Int)} (h : NamesT H xs l) (h' : NamesT H ys m) : NamesT H (xs ++ ys) (l ++ m) := by
  refine ⟨by rw [List.length_append, List.length_append, h.1, h'.1], fun i p hp => ?_⟩
  by_cases hi : i < l.length
  · rw [List.getElem?_append_left hi] at hp
    rw [List.getElem?_append_left (by rw [h.1]; exact hi)]
    exact h.2 i p hp
  · rw [List.getElem?_append_right (by omega)] at hp
    rw [List.getElem?_append_right (by rw [h.1]; omega), h.1]
    exact h'.2 _ p hp
def EvSN (te : TE) (σ : L2.St) (H : Hp) (l : List (Str × Int)) : Prop := ∀ H1, Ex H H1 → ∀ Q : VK, (∀ a xs H2, Ex H1 H2 → H2 a = some (.tup xs) → NamesT H2 xs l → Q (.ref a) H2) → te σ H1 Q
theorem esn_ev {a : Addr} {xs : List V} {l : List (Str × Int)} (h : Ev te σ H (.ref a)) (ha : H a = some (.tup xs)) (hN : NamesT H xs l) : EvSN te σ H l := fun H1 e Q q => h H1 e _ fun H2 e2 => q a xs H2 e2 (e2 _ _ (e _ _ ha)) (hN.keep (TK.ex (e.trans e2)))
theorem esn_ps {l : List (Str × Int)} (hl : l.length ≤ 1000) (h : EvPs ta σ H (prSts l)) : EvSN (tTup ta) σ H l := fun H1 e Q q => h H1 e _ fun vs H2 e2 a => ⟨sz_of (by rw [a.len]; simp [prSts]; omega), fun p hp => q p vs _ (e2.trans (Ex.new hp)) upd_same ((NamesT.of a).keep (TK.ex (Ex.new hp)))⟩
theorem esn_cat {tb : TE} {l m : List (Str × Int)} (h1 : EvSN te σ H l) (h2 : ∀ H1, Ex H H1 → EvSN tb σ H1 m) (hz : l.length + m.length ≤ 1000) : EvSN (tOp (rCatA K) te tb) σ H (l ++ m) := fun H1 e Q q =>
  h1 H1 e _ fun a xs H2 e2 ha na => h2 H2 (e.trans e2) H2 (Ex.refl H2) _ fun b ys H3 e3 hb nb => by
    have ha3 := e3 _ _ ha
    have na3 := na.keep (TK.ex e3)
    refine ⟨a, b, xs, ys, rfl, rfl, st_of ha3, st_of hb, sz_of (by rw [na.1, nb.1]; omega), fun z => ?_, fun _ z => ?_, fun _ _ p hp => q p _ _ ((e2.trans e3).trans (Ex.new hp)) upd_same ((na3.app nb).keep (TK.ex (Ex.new hp)))⟩
    · subst z
      have := na3.app nb
      rw [List.nil_append] at this
      exact q b _ H3 (e2.trans e3) hb this
    · subst z
      have := na3.app nb
      rw [List.append_nil] at this
      exact q a _ H3 (e2.trans e3) ha3 this
theorem names_inj {l : List (Str × Int)} (nd : (l.map (·.1)).Nodup) : ∀ i j, i < l.length → j < l.length → (Sum.inr (l.getD i ("", 0)).1 : Key) = Sum.inr (l.getD j ("", 0)).1 → i = j := by
  intro i j hi hj e
  have gD : ∀ i, i < l.length → l[i]? = some (l.getD i ("", 0)) := fun i hi => by rw [List.getD_eq_getElem?_getD, List.getElem?_eq_getElem hi]; rfl
  have e2 : (l.getD i ("", 0)).1 = (l.getD j ("", 0)).1 := Sum.inr.inj e
  have g1 : (l.map (·.1))[i]? = some (l.getD i ("", 0)).1 := by rw [List.getElem?_map, gD i hi]; rfl
  have g2 : (l.map (·.1))[j]? = some (l.getD j ("", 0)).1 := by rw [List.getElem?_map, gD j hj]; rfl
  exact (List.getElem?_inj (i := i) (j := j) (by rw [List.length_map]; exact hi) nd).mp (by rw [g1, g2, e2])
/-- {name: word for name, place in ..} -/
theorem ed_names {m wl : Addr} {μ : Mem} {dev : Int} {tm tf : TE} {j k : Nat} {l : List (Str × Int)} (h : EvSN te σ H l) (hz : l.length ≤ 100) (nd : (l.map (·.1)).Nodup) (hjk : j ≠ k) (hI : InF dev) (hpl : ∀ p ∈ l, 0 ≤ p.2 ∧ p.2 < 64) (hM : MemAt K H m wl μ)
    (hw : ∀ x y, wipe (((wipe σ vs).set j (some x)).set k (some y)) vs = wipe σ vs) (hj : ∀ x y : V, (((wipe σ vs).set j (some x)).set k (some y))[j]? = some (some x)) (hk : ∀ x y : V, (((wipe σ vs).set j (some x)).set k (some y))[k]? = some (some y))
    (hm : ∀ (x y : V) H1, Ev tm (((wipe σ vs).set j (some x)).set k (some y)) H1 (.ref m)) (hf : ∀ (x y : V) H1, Ev tf (((wipe σ vs).set j (some x)).set k (some y)) H1 (.int dev)) :
    EvD (tDc (iTup K te) (gTup K 2 (gCons (gName j) (gCons (gName k) gNil))) (fun _ H Q => Q true H) (tVar j) (tMeth (CM K) "word" (sp_word K) [] E0 tm (tCons tf (tCons (tVar k) tNil))) vs) σ H
      (fun D kvs H' => KvOk (fun i => Sum.inr (l.getD i ("", 0)).1) (fun _ => true) (fun i v _ => v = .int (μ (ix dev (l.getD i ("", 0)).2))) l.length kvs H') := fun H0 e Q q => h H0 e _ fun a xs H1 e1 hx hN => ⟨a, rfl, ⟨xs, st_of hx⟩, fun Dl hD => by
  have hlen := hN.1
  have gD : ∀ i, i < l.length → l[i]? = some (l.getD i ("", 0)) := fun i hi => by rw [List.getD_eq_getElem?_getD, List.getElem?_eq_getElem hi]; rfl
  rw [← hlen] at q
  refine dc_run (σ := σ) (vs := vs) (g := gTup K 2 (gCons (gName j) (gCons (gName k) gNil))) (tt := fun _ H Q => Q true H) (tk := tVar j) (tv := tMeth (CM K) "word" (sp_word K) [] E0 tm (tCons tf (tCons (tVar k) tNil))) (walk_tup (K := K) (a := a) (xs := xs)) (fun i => Sum.inr (l.getD i ("", 0)).1) (fun _ => true) (fun i v _ => v = .int (μ (ix dev (l.getD i ("", 0)).2))) (by omega) (fun i j hi hj e => names_inj nd i j (by omega) (by omega) e) (fun i v H H' _ p => p) hD (fun H' eH => st_of (eH _ _ hx)) (fun i H x H' y => y.1 ▸ Ex.refl H) (fun i x H H' hi eH hne y eH' R kk => ?_) (fun kvs H' eH hk ok => q Dl kvs H' (fresh_back e1 hD) (e1.trans eH) hk ok)
  · obtain ⟨rfl, hy⟩ := y
    obtain ⟨t, ht1, ht2⟩ := hN.2 i _ (gD i (by omega))
    rw [ht1] at hy
    cases hy
    have hp := hpl _ (List.mem_of_getElem? (gD i (by omega)))
    have e03 := (e.trans e1).trans eH'
    refine ⟨t, _, rfl, st_of (eH' _ _ ht2), rfl, _, _, rfl, _, _, rfl, rfl, kk _ H' (Ex.refl H') (hw _ _) et_yes fun _ => ⟨ev_var (hj _ _), fun H5 e5 Q5 q5 => ?_⟩⟩
    exact (ev_word (hM.keep e03) (hm _ _ _) (hf _ _ _) (ev_var (hk _ _)) (by omega) : Ev _ _ H' _) H5 e5 _ fun H6 e6 => q5 _ H6 e6 rfl⟩
end
theorem lookD_none {k : Key} : ∀ {ds : List (Key × DD)}, (ds.all fun p => decide (p.1 ≠ k)) = true → lookD k ds = none
  | [], _ => rfl
  | (j, d) :: r, h => by
    rw [List.all_cons, Bool.and_eq_true] at h
    unfold lookD
    rw [if_neg (of_decide_eq_true h.1)]
    exact lookD_none h.2
theorem KvOk.imp {key : Nat → Key} {f : Nat → Bool} {P P' : Nat → V → Hp → Prop} {n : Nat} {kvs : List (Key × V)} {H : Hp} (h : KvOk key f P n kvs H) (mo : ∀ i v, P i v H → P' i v H) : KvOk key f P' n kvs H :=
  ⟨h.1, fun p hp => let ⟨i, a, b, c, d⟩ := h.2 p hp; ⟨i, a, b, c, mo i _ d⟩⟩
section
variable {σ : L2.St} {H : Hp} {K : PySem.W.Frag} {D : Ends} {te tk tv ty td : TE} {tz : TS} {S : List Addr}
/-- d[k] = e, e data, k new; what is in d is told -/
theorem q_dputH {a : Addr} {kvs : List (Key × V)} {ds : List (Key × DD)} {k : Key} {dd : DD} (hS : AllS S H) (ha : H a = some (.dK kvs)) (hk : HDk (a :: S) H kvs ds) (hl : ds.length ≤ 1000) (hn : lookD k ds = none) (hv : EvI S tv σ H dd) (hd : ∀ H1, Ex H H1 → Ev td σ H1 (.ref a)) (hy : ∀ H1, Ex H H1 → Ev ty σ H1 (kV k))
    (kk : ∀ v H1, Ex H H1 → HDk (a :: S) (upd H1 a (.dK (putK kvs k v))) (putK kvs k v) (ds ++ [(k, dd)]) → tz D σ (upd H1 a (.dK (putK kvs k v)))) : tSeq (sDPut td ty tv) tz D σ H :=
  hv (a :: S) H (fun b hb => List.mem_cons_of_mem _ hb) (Ex.refl H) (hS.dK ha) H (Ex.refl H) _ fun v H1 e1 hv1 => hd H1 e1 H1 (Ex.refl H1) _ fun H2 e2 => hy H1 e1 H2 e2 _ fun H3 e3 => ⟨a, _, rfl, DPut.k (((e1.trans e2).trans e3) _ _ ha) (sz_lt (by rw [hk.len]; omega)), kk v H3 ((e1.trans e2).trans e3) (((hk.ex ((e1.trans e2).trans e3)).put hn (hv1.ex (e2.trans e3))).fs (FS.put (by simp)))⟩
theorem s_dputH {a : Addr} {kvs : List (Key × V)} {ds : List (Key × DD)} {k : Key} {dd : DD} (hS : AllS S H) (ha : H a = some (.dK kvs)) (hk : HDk (a :: S) H kvs ds) (hl : ds.length ≤ 1000) (hn : lookD k ds = none) (hv : EvI S tv σ H dd) (hd : ∀ H1, Ex H H1 → Ev td σ H1 (.ref a)) (hy : ∀ H1, Ex H H1 → Ev ty σ H1 (kV k))
    (kk : ∀ v H1, Ex H H1 → HDk (a :: S) (upd H1 a (.dK (putK kvs k v))) (putK kvs k v) (ds ++ [(k, dd)]) → D.nx σ (upd H1 a (.dK (putK kvs k v)))) : sDPut td ty tv D σ H := q_dputH (D := D) (tz := fun D σ H => D.nx σ H) hS ha hk hl hn hv hd hy kk
theorem ei_opt {o : Option Int} (h : Ev te σ H (oI o)) : EvI S te σ H (oD o) := fun S' H1 _ e1 _ => eh_opt (h.mono e1)
theorem ei_int {i : Int} (h : Ev te σ H (.int i)) : EvI S te σ H (.int i) := fun S' H1 _ e1 _ => eh_int (h.mono e1)
theorem ei_tupI {xs : List Int} (h : EvU te σ H (xs.map V.int)) : EvI S te σ H (.tup (xs.map DD.int)) := fun S' H1 _ e1 hS => eh_tupI hS fun H2 e2 Q q => h H2 (e1.trans e2) Q q
theorem ei_is {d e : DD} (h : EvI S te σ H d) (q : d = e) : EvI S te σ H e := q ▸ h
end
section
variable {P : Program} {w : World} {K : PySem.W.Frag} {mg : Str → Option Value} {base : Heap}
def mayI (x : Int) : Option Int := if x = 0 then none else some (x - 1)
def sp_maybe (K : PySem.W.Frag) : Sp := fun vs H Q _ => ∃ x : Int, vs = [.int x] ∧ ∀ H', Ex H H' → Q (oI (mayI x)) H'
theorem ok_maybe (T : Txt K mg) : FnOk P w K mg base CX0 1 (f_maybe K) (fd_maybe K) ["word"] (sp_maybe K) := by
  refine T.fn_maybe.ok sc_maybe (fun vs H Q E h => ?_) (fun cdv A outer s H vs Q E hr h => ⟨_, PSs.nox (pss_one (ps_ret (pe_ifExp (pt_truth (pv 0) (by intro _; rfl)) (pe_op op_sub (pv 0) pe_int) pe_non))), ?_⟩)
  · obtain ⟨_, rfl, _⟩ := h
    rfl
  · obtain ⟨x, rfl, k⟩ := h
    refine s_ret (ev_if (b := decide (x ≠ 0)) (et_truI (ev_var rfl)) (fun hb => ev_is (ev_op (ev_var rfl) ev_c rv_I0) (by unfold mayI; rw [if_neg (of_decide_eq_true hb)]; rfl)) (fun hb => ev_is ev_c (by unfold mayI; rw [if_pos (Decidable.not_not.mp (of_decide_eq_false hb))]; rfl))) k
def rowsD (μ : Mem) (f : Int) : List (Key × DD) := givK (if μ (ix 1 f) = 8 then 4 else 8) (fun i => decide (μ (ix f (eat μ f (i : Int) + 0)) ≠ 0)) (fun i => Sum.inl (i : Int)) (fun i => .tup [.int (μ (ix f (eat μ f (i : Int) + 0)) - 1), .int (μ (ix f (eat μ f (i : Int) + 1))), .int (μ (ix f (eat μ f (i : Int) + 2)) - 1)])
def sp_rows_of (K : PySem.W.Frag) : Sp := fun vs H Q _ => ∃ (m wl : Addr) (μ : Mem) (f : Int) (S : List Addr), vs = [.ref m, .int f] ∧ MemAt K H m wl μ ∧ InF f ∧ AllS S H ∧ ∀ p kvs H', H p = none → Ex H H' → H' p = some (.dK kvs) → HDk S H' kvs (rowsD μ f) → Q (.ref p) H'
theorem ok_rows_of (T : Txt K mg) : FnOk P w K mg base CX0 5 (f_rows_of K) (fd_rows_of K) ["memory", "frame"] (sp_rows_of K) := by
  refine T.fn_rows_of.ok sc_rows_of (fun vs H Q E h => ?_) (fun cdv A outer s H vs Q E hr h => ?_)
  · obtain ⟨_, _, _, _, _, rfl, _⟩ := h
    rfl
  have hu := hu_of hr
  refine ⟨_, PSs.nox (pss_cons (ps_setDc (i := 2) (own := [("page", 3)]) (by rfl) sc_rows_of.nd rfl rfl (sw_trueD rfl rfl rfl (by decide +kernel)) (pi_range1 (by rfl) T.free_range (pa_cons (pe_call (ok_entries_of T) (hr.mono (by decide)) (by rfl) (T.glo_entries_of) (T.kp_entries_of) (T.bd_entries_of) .nil pass0 (pa_cons (pv 0) (pa_cons (pv 1) pa_nil))) pa_nil)) (blkOk_by (N := sc_rows_of_N) (sc := defScope s_rows_of) (own := [("page", 3)]) (by decide +kernel)) (fun _ _ _ _ _ => (pg_name (i := 3) sc_rows_of.nd rfl (Or.inl rfl))) (fun _ _ _ _ _ => pts_nil) (fun _ _ _ _ _ => (pv 3)) (fun _ _ _ _ _ => (pe_call (ok_entry T) (hr.mono (by decide)) (by rfl) (T.glo_entry) (T.kp_entry) (T.bd_entry) .nil pass0 (pa_cons (pv 0) (pa_cons (pv 1) (pa_cons (pv 3) pa_nil)))))) (pss_one (ps_ret (pe_lock (pe_dc (own := [("page", 3), ("told", 4)]) (by rfl) sc_rows_of.nd (pi_items (pv 2)) (blkOk_by (N := sc_rows_of_N) (sc := defScope s_rows_of) (own := [("page", 3), ("told", 4)]) (by decide +kernel)) (fun _ _ _ _ _ => (pg_tupK (K := K) (n := 2) (by rfl) (by rfl) (pgs_cons (pg_name (i := 3) sc_rows_of.nd rfl (Or.inl rfl)) (pgs_cons (pg_name (i := 4) sc_rows_of.nd rfl (Or.inl rfl)) pgs_nil)))) (fun _ _ _ _ _ => (pts_one (pt_truthK (K := K) (by rfl) (pe_ix (r := rIxT K) (by exact ix_tup) (pv 4) pe_int (fun _ _ => rfl)) (by intro _; rfl)))) (fun _ _ _ _ _ => (pv 3)) (fun _ _ _ _ _ => (pe_tup (pa_cons (pe_op op_sub (pe_ix (r := rIxT K) (by exact ix_tup) (pv 4) pe_int (fun _ _ => rfl)) pe_int) (pa_cons (pe_ix (r := rIxT K) (by exact ix_tup) (pv 4) pe_int (fun _ _ => rfl)) (pa_cons (pe_op op_sub (pe_ix (r := rIxT K) (by exact ix_tup) (pv 4) pe_int (fun _ _ => rfl)) pe_int) pa_nil)))))))))), ?_⟩
  obtain ⟨m, wl, μ, f, S, rfl, hM, hI, hS, k⟩ := h
  obtain ⟨n, hn⟩ : ∃ n : Nat, n = if μ (ix 1 f) = 8 then 4 else 8 := ⟨_, rfl⟩
  have hn8 : n ≤ 8 := by rw [hn]; split <;> decide
  refine q_asgD (ed_R1 (n := (n : Int)) (fun i => Sum.inl (i : Int)) (fun _ => true) (fun D i v H => ∃ t, v = .ref t ∧ H t = some (.tup (ent3F μ f (i : Int))) ∧ t ≠ D) (ea_cons (ev_is (ev_pure (ea_cons (ev_var rfl) (ea_cons (ev_var rfl) ea_nil)) fun H1 e Q q => ⟨m, wl, μ, f, rfl, hM.keep e, hI, q⟩) (by rw [hn]; split <;> rfl)) ea_nil) (by omega) (fun i j e => by have := Sum.inl.inj e; omega) (fun D i v H H' x ⟨t, a, b, c⟩ => ⟨t, a, x _ _ b c, c⟩) (fun x => rfl) fun D i H1 e1 hne hi => ⟨et_yes, fun _ => ⟨ev_var rfl, fun H2 e2 Q2 q2 => ?_⟩⟩) fun d kvs H1 hd e1 hk1 ok => ?_
  · refine (ea_cons (ev_var rfl) (ea_cons (ev_var rfl) (ea_cons (ev_var rfl) ea_nil)) : EvA _ _ H1 _) H2 e2 _ fun H3 e3 => ⟨m, wl, μ, f, (i : Int), rfl, ((hM.keep e1).keep e2).keep e3, hI, by omega, by omega, fun q H4 hq e4 h4 => q2 _ H4 (e3.trans e4) ⟨q, rfl, h4, fun z => ?_⟩⟩
    obtain ⟨kv, eD⟩ := hne
    rw [z, (e2.trans e3) _ _ eD] at hq
    cases hq
  rw [Int.toNat_natCast] at ok
  have hkeys : ∀ i, i < n → ∃ v, kvs[i]? = some (Sum.inl (i : Int), v) ∧ ∃ t, v = .ref t ∧ H1 t = some (.tup (ent3F μ f (i : Int))) := fun i hi => by
    have hl : kvs.length = n := by rw [ok.len, List.filter_eq_self.mpr (fun _ _ => rfl), List.length_range]
    have hil : i < kvs.length := by omega
    have e1 : (kvs.map (·.1))[i]? = some (Sum.inl (i : Int)) := by
      rw [ok.1, List.filter_eq_self.mpr (fun _ _ => rfl), List.getElem?_map, List.getElem?_range hi]
      rfl
    rw [List.getElem?_map, List.getElem?_eq_getElem hil] at e1
    have e2 : (kvs[i]).1 = Sum.inl (i : Int) := Option.some.inj e1
    obtain ⟨j, j1, _, j3, t, t1, t2, _⟩ := ok.2 _ (List.getElem_mem hil)
    rw [e2] at j3
    have : i = j := by have := Sum.inl.inj j3; omega
    subst this
    exact ⟨(kvs[i]).2, by rw [List.getElem?_eq_getElem hil, ← e2], t, t1, t2⟩
  have hl : kvs.length = n := by rw [ok.len, List.filter_eq_self.mpr (fun _ _ => rfl), List.length_range]
  refine ⟨d, _, hk1, trivial, fun od => ?_⟩
  obtain ⟨HL, hHL⟩ : ∃ HL, HL = upd H1 d (.frz od (.dK kvs)) := ⟨_, rfl⟩
  have hLd : HL d = some (.frz od (.dK kvs)) := by rw [hHL, upd_same]
  have hLt : ∀ b xs, H1 b = some (.tup xs) → HL b = some (.tup xs) := fun b xs h => by rw [hHL, upd_ne (ne_of h hk1 (by intro z; cases z))]; exact h
  have hLe : ∀ b o, H1 b = some o → b ≠ d → HL b = some o := fun b o h n => by rw [hHL, upd_ne n]; exact h
  have hLn : ∀ b, HL b = none → H1 b = none := fun b h => by
    by_cases e : b = d
    · rw [e, hLd] at h; cases h
    · rw [hHL, upd_ne e] at h; exact h
  have hSL : AllS S HL := fun b hb => by
    obtain ⟨o, h1, h2⟩ := hS b hb
    exact ⟨o, hLe _ _ (e1 _ _ h1) (fun z => by rw [z, hd] at h1; cases h1), h2⟩
  rw [← hHL]
  refine ⟨_, rfl, d, od, kvs, rfl, hLd, fun D hD => ?_⟩
  refine dc_run (vs := [3, 4]) (g := gTup K 2 (gCons (gName 3) (gCons (gName 4) gNil))) (tt := tTru K (tOp (rIxT K) (tVar 4) (tC (.int 0)))) (tk := tVar 3) (tv := tTup (tCons (tOp (rI0 fun i j => V.int (i - j)) (tOp (rIxT K) (tVar 4) (tC (V.int 0))) (tC (V.int 1))) (tCons (tOp (rIxT K) (tVar 4) (tC (V.int 1))) (tCons (tOp (rI0 fun i j => V.int (i - j)) (tOp (rIxT K) (tVar 4) (tC (V.int 2))) (tC (V.int 1))) tNil)))) (walk_items (d := d) (o := od) (kvs := kvs)) (fun i => Sum.inl (i : Int)) (fun i => decide (μ (ix f (eat μ f (i : Int) + 0)) ≠ 0)) (fun i v H => HD (d :: D :: S) H v (.tup [.int (μ (ix f (eat μ f (i : Int) + 0)) - 1), .int (μ (ix f (eat μ f (i : Int) + 1))), .int (μ (ix f (eat μ f (i : Int) + 2)) - 1)])) (by omega) (fun i j _ _ e => by have := Sum.inl.inj e; omega) (fun i v H H' x h => h.fs fun b o hb n => x b o hb fun z => n (by rw [z]; simp)) hD (fun H' eH => eH _ _ hLd) (fun i H x H' ⟨T', x', y', _, hT, e, _⟩ => by rw [e]; exact Ex.new hT) (fun i x H' H'' hi eH hne y eH' R kk => ?_) (fun kvs' H' eH hk ok' => ?_)
  · obtain ⟨T', x', y', rfl, hT, rfl, ex, ey⟩ := y
    obtain ⟨v, hv, t, rfl, ht⟩ := hkeys i (by omega)
    simp only [hv, Option.map_some, Option.some.injEq] at ex ey
    subst ex ey
    refine ⟨T', _, rfl, st_of upd_same, rfl, _, _, rfl, _, _, rfl, rfl, kk _ _ (Ex.refl _) rfl (et_truI (n := μ (ix f (eat μ f (i : Int) + 0))) (ev_op (ev_var rfl) ev_c (Evl.rv_ixT (st_of (eH' _ _ (hLt _ _ ht))) (atI_nat (j := 0) rfl)))) fun _ => ⟨ev_var rfl, fun H5 e5 Q5 q5 => ?_⟩⟩
    have ht5 := e5 _ _ (eH' _ _ (hLt _ _ ht))
    have hd5 : H5 d ≠ none := by rw [e5 _ _ (eH' _ _ hLd)]; exact fun z => by cases z
    have hD5 : H5 D ≠ none := by
      obtain ⟨kv, hk⟩ := hne
      rw [e5 _ _ (Ex.new hT _ _ hk)]
      exact fun z => by cases z
    have hS5 : AllS S H5 := (hSL.ex eH').ex e5
    exact (eu_tup (ea_cons (ev_op (ev_op (ev_var rfl) ev_c (Evl.rv_ixT (st_of ht5) (atI_nat (j := 0) rfl))) ev_c rv_I0) (ea_cons (ev_op (ev_var rfl) ev_c (Evl.rv_ixT (st_of ht5) (atI_nat (j := 1) rfl))) (ea_cons (ev_op (ev_op (ev_var rfl) ev_c (Evl.rv_ixT (st_of ht5) (atI_nat (j := 2) rfl))) ev_c rv_I0) ea_nil))) (by show 3 ≤ 100000; decide) : EvU _ _ H5 _) H5 (Ex.refl H5) _ fun p H6 hp e6 h6 => q5 _ H6 e6 (.tup h6 (fun z => by rcases List.mem_cons.mp z with e | z; (exact hd5 (e ▸ hp)); rcases List.mem_cons.mp z with e | z; (exact hD5 (e ▸ hp)); exact hS5.new hp z) (.cons (.int _) (.cons (.int _) (.cons (.int _) .nil))))
  · refine ⟨eH _ _ hLd, ?_⟩
    have nDd : D ≠ d := fun z => by rw [z, hLd] at hD; cases hD
    have hkd := hdk_ok (fun i j _ _ e => by have := Sum.inl.inj e; omega) ok'
    rw [hl, hn] at hkd
    refine k D kvs' _ (fresh_back e1 (hLn _ hD)) (fun b o h => ?_) (by rw [upd_ne nDd]; exact hk) ((hkd.fs (FS.put (by simp))).weak fun a ha => by simp [ha])
    by_cases e : b = d
    · rw [e] at h
      rw [h] at hd
      cases hd
    · rw [upd_ne e]
      exact eH _ _ (hLe _ _ (e1 _ _ h) e)
/-- what a thread has -/
def thL1 : List (Str × Int) := [("pc", 1), ("priority", 12), ("budget", 13), ("left", 14), ("badge", 17)]
def thL2 : List (Str × Int) := [("code", 19), ("address", 20), ("domain", 22), ("rights", 23), ("lent", 24)]
def thL3 : List (Str × Int) := [("caps", 10), ("table", 11), ("on", 16), ("handler", 18), ("reply", 21)]
def thK (μ : Mem) (f : Int) (i : Nat) : List (Key × DD) := ((thL1 ++ thL2 ++ [(("state" : Str), (0 : Int))]).map fun p => ((Sum.inr p.1 : Key), DD.int (μ (ix f p.2)))) ++ (thL3.take i).map fun p => ((Sum.inr p.1 : Key), oD (mayI (μ (ix f p.2))))
theorem thK_new {μ : Mem} {f : Int} {i : Nat} (hi : i < 5) : lookD (Sum.inr (thL3.getD i ("", 0)).1) (thK μ f i) = none := by
  refine lookD_none ?_
  unfold thK
  rw [List.all_append, List.all_map, List.all_map]
  have : ∀ i < 5, (((thL1 ++ thL2 ++ [(("state" : Str), (0 : Int))]).all fun p => decide ((Sum.inr p.1 : Key) ≠ Sum.inr (thL3.getD i ("", 0)).1)) && ((thL3.take i).all fun p => decide ((Sum.inr p.1 : Key) ≠ Sum.inr (thL3.getD i ("", 0)).1))) = true := by decide +kernel
  exact this i hi
theorem thK_succ {μ : Mem} {f : Int} {i : Nat} (hi : i < 5) : thK μ f (i + 1) = thK μ f i ++ [(Sum.inr (thL3.getD i ("", 0)).1, oD (mayI (μ (ix f (thL3.getD i ("", 0)).2))))] := by
  have h : thL3[i]? = some (thL3.getD i ("", 0)) := by rw [List.getD_eq_getElem?_getD, List.getElem?_eq_getElem (show i < thL3.length from hi)]; rfl
  unfold thK
  rw [List.take_add_one, h]
  simp only [List.map_append, List.append_assoc]
  rfl
theorem thK_reg {μ : Mem} {f : Int} : lookD (Sum.inr "registers") (thK μ f 5) = none := by
  refine lookD_none ?_
  unfold thK
  rw [List.all_append, List.all_map, List.all_map]
  have : (((thL1 ++ thL2 ++ [(("state" : Str), (0 : Int))]).all fun p => decide ((Sum.inr p.1 : Key) ≠ Sum.inr ("registers" : Str))) && ((thL3.take 5).all fun p => decide ((Sum.inr p.1 : Key) ≠ Sum.inr ("registers" : Str)))) = true := by decide +kernel
  exact this
def threadD (μ : Mem) (f : Int) : List (Key × DD) := thK μ f 5 ++ [((Sum.inr "registers" : Key), DD.tup ((List.range 8).map fun (i : Nat) => DD.int (μ (ix f (2 + (i : Int))))))]
def sp_thread_of (K : PySem.W.Frag) : Sp := fun vs H Q _ => ∃ (m wl : Addr) (μ : Mem) (f : Int) (S : List Addr), vs = [.ref m, .int f] ∧ MemAt K H m wl μ ∧ InF f ∧ AllS S H ∧ ∀ d kvs H', H d = none → Ex H H' → H' d = some (.dK kvs) → HDk S H' kvs (threadD μ f) → Q (.ref d) H'
theorem ok_thread_of (T : Txt K mg) : FnOk P w K mg base CX0 6 (f_thread_of K) (fd_thread_of K) ["memory", "thread"] (sp_thread_of K) := by
  refine T.fn_thread_of.ok sc_thread_of (fun vs H Q E h => ?_) (fun cdv A outer s H vs Q E hr h => ?_)
  · obtain ⟨_, _, _, _, _, rfl, _⟩ := h
    rfl
  have hu := hu_of hr
  refine ⟨_, PSs.nox (pss_cons (ps_set (i := 2) sc_thread_of.nd rfl (Or.inl rfl) (pe_tup (pa_cons (pe_tup (pa_cons pe_str (pa_cons (T.pg_T_PC) pa_nil))) (pa_cons (pe_tup (pa_cons pe_str (pa_cons (T.pg_T_PRIORITY) pa_nil))) (pa_cons (pe_tup (pa_cons pe_str (pa_cons (T.pg_T_BUDGET) pa_nil))) (pa_cons (pe_tup (pa_cons pe_str (pa_cons (T.pg_T_LEFT) pa_nil))) (pa_cons (pe_tup (pa_cons pe_str (pa_cons (T.pg_T_BADGE) pa_nil))) pa_nil))))))) (pss_cons (ps_aug (i := 2) sc_thread_of.nd rfl (.inl rfl) (pe_tup (pa_cons (pe_tup (pa_cons pe_str (pa_cons (T.pg_T_CODE) pa_nil))) (pa_cons (pe_tup (pa_cons pe_str (pa_cons (T.pg_T_ADDRESS) pa_nil))) (pa_cons (pe_tup (pa_cons pe_str (pa_cons (T.pg_T_DOMAIN) pa_nil))) (pa_cons (pe_tup (pa_cons pe_str (pa_cons (T.pg_T_RIGHTS) pa_nil))) (pa_cons (pe_tup (pa_cons pe_str (pa_cons (T.pg_T_LENT) pa_nil))) pa_nil)))))) ip_catA) (pss_cons (ps_setDc (i := 3) (own := [("name", 4), ("place", 5)]) (by rfl) sc_thread_of.nd rfl rfl (sw_trueD rfl rfl rfl (by decide +kernel)) (pi_tup (pe_op op_catA (pv 2) (pe_tup (pa_cons (pe_tup (pa_cons pe_str (pa_cons (T.pg_T_STATE) pa_nil))) pa_nil)))) (blkOk_by (N := sc_thread_of_N) (sc := defScope s_thread_of) (own := [("name", 4), ("place", 5)]) (by decide +kernel)) (fun _ _ _ _ _ => (pg_tupK (K := K) (n := 2) (by rfl) (by rfl) (pgs_cons (pg_name (i := 4) sc_thread_of.nd rfl (Or.inl rfl)) (pgs_cons (pg_name (i := 5) sc_thread_of.nd rfl (Or.inl rfl)) pgs_nil)))) (fun _ _ _ _ _ => pts_nil) (fun _ _ _ _ _ => (pv 4)) (fun _ _ _ _ _ => (pe_meth (pv 0) (T.cl_Memory) (T.mt_Memory_word) (ok_Memory_word T) (hr.mono (by decide)) (T.bd_Memory_word) .nil pass0 (pa_cons (pv 1) (pa_cons (pv 5) pa_nil))))) (pss_cons (ps_for PassesOwn.never rfl (pi_tup (pe_tup (pa_cons (pe_tup (pa_cons pe_str (pa_cons (T.pg_T_CAPS) pa_nil))) (pa_cons (pe_tup (pa_cons pe_str (pa_cons (T.pg_T_TABLE) pa_nil))) (pa_cons (pe_tup (pa_cons pe_str (pa_cons (T.pg_T_ON) pa_nil))) (pa_cons (pe_tup (pa_cons pe_str (pa_cons (T.pg_T_HANDLER) pa_nil))) (pa_cons (pe_tup (pa_cons pe_str (pa_cons (T.pg_T_REPLY) pa_nil))) pa_nil))))))) (pg_tup (by rfl) (pgs_cons (pg_name (i := 4) sc_thread_of.nd rfl (Or.inl rfl)) (pgs_cons (pg_name (i := 5) sc_thread_of.nd rfl (Or.inl rfl)) pgs_nil))) (pss_one (ps_dput hu (pv 3) (pv 4) (pe_call (ok_maybe T) (hr.mono (by decide)) (by rfl) (T.glo_maybe) (T.kp_maybe) (T.bd_maybe) .nil pass0 (pa_cons (pe_meth (pv 0) (T.cl_Memory) (T.mt_Memory_word) (ok_Memory_word T) (hr.mono (by decide)) (T.bd_Memory_word) .nil pass0 (pa_cons (pv 1) (pa_cons (pv 5) pa_nil))) pa_nil)) rfl))) (pss_cons (ps_dput hu (pv 3) pe_str (pe_callTy call_tuple_of (by rfl) T.free_tuple (by decide +kernel) (pa_cons (pe_lc (own := [("number", 6)]) (by rfl) sc_thread_of.nd (pi_range1 (by rfl) T.free_range (pa_cons pe_int pa_nil)) (blkOk_by (N := sc_thread_of_N) (sc := defScope s_thread_of) (own := [("number", 6)]) (by decide +kernel)) (fun _ _ _ _ _ => (pg_name (i := 6) sc_thread_of.nd rfl (Or.inl rfl))) (fun _ _ _ _ _ => pts_nil) (fun _ _ _ _ _ => (pe_meth (pv 0) (T.cl_Memory) (T.mt_Memory_word) (ok_Memory_word T) (hr.mono (by decide)) (T.bd_Memory_word) .nil pass0 (pa_cons (pv 1) (pa_cons (pe_op op_add (by exact T.pg_T_REGISTERS) (pv 6)) pa_nil))))) pa_nil)) rfl) (pss_one (ps_ret (pv 3)))))))), ?_⟩
  obtain ⟨m, wl, μ, f, S, rfl, hM, hI, hS, k⟩ := h
  refine q_asgPs (Ps := prSts thL1) prSts_mo (by decide) (eps_cons PrSt.mo ep_st (eps_cons PrSt.mo ep_st (eps_cons PrSt.mo ep_st (eps_cons PrSt.mo ep_st (eps_cons PrSt.mo ep_st eps_nil))))) fun pl xs H1 e1 hp1 al => ?_
  have n1 := NamesT.of (l := thL1) al
  have hx1 : xs.length = 5 := n1.1
  refine ⟨.ref pl, rfl, ?_⟩
  refine (eps_cons PrSt.mo ep_st (eps_cons PrSt.mo ep_st (eps_cons PrSt.mo ep_st (eps_cons PrSt.mo ep_st (eps_cons PrSt.mo ep_st eps_nil)))) : EvPs _ _ H1 (prSts thL2)) H1 (Ex.refl H1) _ fun ys H2 e2 al2 => ⟨sz_of (by rw [al2.len]; decide), fun q hq => ?_⟩
  have n2 := NamesT.of (l := thL2) al2
  have hx2 : ys.length = 5 := n2.1
  have e3 : Ex H2 (upd H2 q (.tup ys)) := Ex.new hq
  refine ⟨pl, q, xs, ys, rfl, rfl, st_of (e3 _ _ (e2 _ _ hp1)), st_of upd_same, fun z => (by rw [z] at hx1; cases hx1), fun z => (by rw [z] at hx2; cases hx2), by rw [hx1, hx2]; exact sz_of (by decide), fun r hr => ?_⟩
  have e4 : Ex (upd H2 q (.tup ys)) (upd (upd H2 q (.tup ys)) r (.tup (xs ++ ys))) := Ex.new hr
  have hr4 : (upd (upd H2 q (.tup ys)) r (.tup (xs ++ ys))) r = some (.tup (xs ++ ys)) := upd_same
  have n12 : NamesT (upd (upd H2 q (.tup ys)) r (.tup (xs ++ ys))) (xs ++ ys) (thL1 ++ thL2) := (n1.keep (TK.ex (e2.trans (e3.trans e4)))).app (n2.keep (TK.ex (e3.trans e4)))
  have e04 := ((e1.trans e2).trans e3).trans e4
  clear hr
  generalize upd (upd H2 q (.tup ys)) r (.tup (xs ++ ys)) = H4 at e4 hr4 n12 e04 ⊢
  have hM4 := hM.keep e04
  refine q_asgD (ed_names (j := 4) (k := 5) (l := (thL1 ++ thL2) ++ [(("state" : Str), (0 : Int))]) (esn_cat (esn_ev (ev_var rfl) hr4 n12) (fun H5 e5 => esn_ps (by decide) (eps_cons PrSt.mo ep_st eps_nil)) (by decide)) (by decide) (by decide +kernel) (by decide) hI (by decide +kernel) hM4 (fun x y => rfl) (fun x y => rfl) (fun x y => rfl) (fun x y H1 => ev_var rfl) (fun x y H1 => ev_var rfl)) fun d kvs H5 hd e5 hk5 ok => ?_
  have hdH : H d = none := fresh_back e04 hd
  have e05 := e04.trans e5
  have hk5d : HDk (d :: S) H5 kvs (thK μ f 0) := (hdk_ok (names_inj (by decide +kernel)) (KvOk.imp (P' := fun i v H => HD (d :: S) H v (DD.int (μ (ix f (((thL1 ++ thL2) ++ [(("state" : Str), (0 : Int))]).getD i ("", 0)).2)))) ok fun i v h => by rw [h]; exact .int _))
  refine q_forPU (K := K) (Ps := prSts thL3) prSts_mo (by decide) (eps_cons PrSt.mo ep_st (eps_cons PrSt.mo ep_st (eps_cons PrSt.mo ep_st (eps_cons PrSt.mo ep_st (eps_cons PrSt.mo ep_st eps_nil))))) fun p vs H6 e6 hp hal => ?_
  have n3 := NamesT.of (l := thL3) hal
  have hv5 : vs.length = 5 := n3.1
  refine ⟨fun i σ' H' => ∃ x4 x5 kvs', σ' = [some (.ref m), some (.int f), some (.ref r), some (.ref d), x4, x5, none] ∧ Ex H H' ∧ H' d = some (.dK kvs') ∧ HDk (d :: S) H' kvs' (thK μ f i) ∧ TK H6 H', ⟨none, none, kvs, rfl, e05.trans e6, e6 _ _ hk5, hk5d.ex e6, TK.ex (Ex.refl _)⟩, fun i σ' H' _ ⟨_, _, _, _, _, _, _, tk⟩ => tk _ _ hp, ?_, ?_⟩
  · rintro i x σ' H' hx ⟨x4, x5, kvs', rfl, eH, hk', hl', tk⟩
    have hi : i < 5 := by have := (List.getElem?_eq_some_iff.mp hx).1; omega
    obtain ⟨t, ht1, ht2⟩ := n3.2 i _ (show thL3[i]? = some (thL3.getD i ("", 0)) from by rw [List.getD_eq_getElem?_getD, List.getElem?_eq_getElem (by exact hi)]; rfl)
    rw [ht1] at hx
    cases hx
    refine ⟨t, _, rfl, st_of (tk _ _ ht2), rfl, _, _, rfl, _, _, rfl, rfl, ?_⟩
    have hb : 0 ≤ (thL3.getD i ("", 0)).2 ∧ (thL3.getD i ("", 0)).2 < 64 := by
      have : ∀ i < 5, 0 ≤ (thL3.getD i ("", 0)).2 ∧ (thL3.getD i ("", 0)).2 < 64 := by decide +kernel
      exact this i hi
    refine s_dputH (k := Sum.inr (thL3.getD i ("", 0)).1) (hS.ex eH) hk' hl' (by unfold thK thL1 thL2 thL3; simp; omega) (thK_new hi) (ei_opt (ev_pure (ea_cons (ev_word (hM.keep eH) (ev_var rfl) (ev_var rfl) (ev_var rfl) (by omega)) ea_nil) fun H1 e Q q => ⟨_, rfl, q⟩)) (fun H1 e => ev_var rfl) (fun H1 e => ev_var rfl) fun v H7 e7 hk7 => ?_
    rw [← thK_succ hi] at hk7
    refine ⟨_, _, _, rfl, Ex.mut (eH.trans e7) hdH, upd_same, hk7, fun b xs h => ?_⟩
    have := e7 _ _ (tk _ _ h)
    rw [upd_ne (ne_of this (e7 _ _ hk') (by intro z; cases z))]
    exact this
  rintro σ' H7 ⟨x4, x5, kvs', rfl, eH, hk', hl', tk⟩
  rw [hv5] at hl'
  have hM7 := hM.keep eH
  refine q_dputH (k := Sum.inr "registers") (dd := DD.tup ((List.range 8).map fun (i : Nat) => DD.int (μ (ix f (2 + (i : Int)))))) (hS.ex eH) hk' hl' (by show 16 ≤ 1000; decide) thK_reg (ei_is (ei_tupI (xs := (List.range 8).map fun (i : Nat) => μ (ix f (2 + (i : Int)))) (eu_tupNL (K := K) (el_lcR1 (n := 8) (fun _ => true) (fun i => .int (μ (ix f (2 + (i : Int))))) (ea_cons ev_c ea_nil) (by decide) (fun x => rfl) (fun i H1 e1 hi => et_yes) (fun i H1 e1 hi _ => ev_word (hM7.keep e1) (ev_var rfl) (ev_var rfl) (ev_op ev_c (ev_var rfl) rv_I0) (by omega))))) rfl) (fun H1 e => ev_var rfl) (fun H1 e => ev_c) fun v H8 e8 hk8 => ?_
  exact s_ret (ev_var rfl) fun H9 e9 => k d _ H9 hdH ((Ex.mut (eH.trans e8) hdH).trans e9) (e9 _ _ upd_same) ((hk8.ex e9).weak fun a ha => List.mem_cons_of_mem _ ha)
end
end KX

namespace KX
open KA KQ
open PySem PySem.Spec PyProof.Rows L2 Evl TL
/-! ### rules for the state -/
section
variable {σ : L2.St} {H H0 : Hp} {K : PySem.W.Frag} {D : Ends} {te tk tv ty td : TE} {ta : TA} {tt : TT} {tz : TS} {vs : List Nat} {st : Addr} {S : List Addr}
theorem ev_dg {a : Addr} {kvs : List (Key × V)} {k : Key} {v : V} (hd : Ev td σ H (.ref a)) (hy : Ev ty σ H (kV k)) (ha : H a = some (.dK kvs)) (hv : valV kvs k = some v) : Ev (tDGet td ty) σ H v := fun H1 e Q q => hd H1 e _ fun H2 e2 => hy H2 (e.trans e2) _ fun H3 e3 => ⟨a, v, rfl, hv ▸ DGet.k (k := k) (((e.trans e2).trans e3) _ _ ha), q H3 (e2.trans e3)⟩
theorem eu_cap {m wl : Addr} {μ : Mem} {s : Int} {tm tf : TE} (hM : MemAt K H m wl μ) (hm : Ev tm σ H (.ref m)) (hf : Ev tf σ H (.int s)) (h : 0 ≤ s ∧ s < 256) : EvU (tCall (sp_cap_at K) [] E0 (tCons tm (tCons tf tNil))) σ H (capF μ s) := fun H1 e Q q => hm H1 e _ fun H2 e2 => hf H2 (e.trans e2) _ fun H3 e3 => ⟨m, wl, μ, s, rfl, hM.keep ((e.trans e2).trans e3), h.1, h.2, fun p H4 hp e4 h4 => q p H4 (fresh_back (e2.trans e3) hp) ((e2.trans e3).trans e4) h4⟩
theorem q_asgHD {i : Nat} {ds : List (Key × DD)} (h : EvHD S te σ H ds) (k : ∀ p kvs H1, H p = none → Ex H H1 → H1 p = some (.dK kvs) → HDk S H1 kvs ds → tz D (σ.set i (some (.ref p))) H1) : tSeq (tAsg te (gName i)) tz D σ H := h H (Ex.refl H) _ k
theorem q_dispH {t1 t2 : TE} {k1 k2 : Key} {i1 i2 : Int} {i : Nat} (hk : k2 ≠ k1) (h1 : Ev t1 σ H (.int i1)) (h2 : Ev t2 σ H (.int i2)) (kk : ∀ p kvs H1, H p = none → Ex H H1 → H1 p = some (.dK kvs) → HDk [p] H1 kvs [(k1, .int i1), (k2, .int i2)] → tz D (σ.set i (some (.ref p))) H1) : tSeq (tAsg (tDisp [(tC (kV k1), t1), (tC (kV k2), t2)]) (gName i)) tz D σ H := fun p hp =>
  have e0 : Ex H (upd H p (.dK [])) := Ex.new hp
  h1 _ e0 _ fun H1 e1 => h2 _ (e0.trans e1) _ fun H2 e2 => ⟨(e1.trans e2) _ _ upd_same, [(k1, .int i1), (k2, .int i2)], rfl, by show 2 ≤ 15; decide, kk p _ _ hp (Ex.mut ((e0.trans e1).trans e2) hp) upd_same (by
    have e : mergeK [] [(k1, V.int i1), (k2, V.int i2)] = [(k1, .int i1), (k2, .int i2)] := by
      show putK (putK [] k1 (.int i1)) k2 (.int i2) = _
      rw [putK_new (kvs := []) _ rfl]
      show putK [(k1, V.int i1)] k2 (.int i2) = _
      rw [putK_new _ (by rw [valV_neg (p := (k1, V.int i1)) (Ne.symm hk)]; rfl)]
      rfl
    rw [e]
    exact .cons (.int _) (.cons (.int _) .nil))⟩
/-- state[k] = e -/
theorem q_stH {kvs : List (Key × V)} {ds : List (Key × DD)} {k : Key} {dd : DD} (eN : Ex H0 H) (hs : H0 st = none) (h : H st = some (.dK kvs)) (hk : HDk [st] H kvs ds) (hl : ds.length ≤ 1000) (hn : lookD k ds = none) (hv : EvI [] tv σ H dd) (hd : ∀ H1, Ex H H1 → Ev td σ H1 (.ref st)) (hy : ∀ H1, Ex H H1 → Ev ty σ H1 (kV k))
    (kk : ∀ H1 kvs1, Ex H0 H1 → FS [st] H H1 → H1 st = some (.dK kvs1) → HDk [st] H1 kvs1 (ds ++ [(k, dd)]) → tz D σ H1) : tSeq (sDPut td ty tv) tz D σ H :=
  q_dputH AllS.nil h hk hl hn hv hd hy fun v H1 e1 hk1 => kk _ _ (Ex.mut (eN.trans e1) hs) ((FS.of e1).trans (FS.put (by simp))) upd_same hk1
/-- state[k] = {}, which is filled later -/
theorem q_stO {kvs : List (Key × V)} {ds : List (Key × DD)} {k : Key} (eN : Ex H0 H) (hs : H0 st = none) (h : H st = some (.dK kvs)) (hk : HDk [st] H kvs ds) (hl : ds.length ≤ 1000) (hn : lookD k ds = none) (hd : ∀ H1, Ex H H1 → Ev td σ H1 (.ref st)) (hy : ∀ H1, Ex H H1 → Ev ty σ H1 (kV k))
    (kk : ∀ q H1, H q = none → Ex H0 H1 → FS [st] H H1 → H1 st = some (.dK (kvs ++ [(k, .ref q)])) → HDk [q, st] H1 kvs ds → H1 q = some (.dK []) → tz D σ H1) : tSeq (sDPut td ty tDNewK) tz D σ H := fun q hq => by
  have e0 : Ex H (upd H q (.dK [])) := Ex.new hq
  have hq0 : (upd H q (.dK [])) q = some (.dK []) := upd_same
  have hkq := hk.add hq
  generalize upd H q (.dK []) = Hq at e0 hq0 ⊢
  refine hd Hq e0 Hq (Ex.refl _) _ fun H2 e2 => hy Hq e0 H2 e2 _ fun H3 e3 => ⟨st, _, rfl, DPut.k (((e0.trans e2).trans e3) _ _ h) (sz_lt (by rw [hk.len]; omega)), ?_⟩
  have nq : q ≠ st := fun z => by rw [z, h] at hq; cases hq
  have en : putK kvs k (.ref q) = kvs ++ [(k, .ref q)] := putK_new _ (hk.none hn)
  refine kk q _ hq (Ex.mut (eN.trans ((e0.trans e2).trans e3)) hs) ((FS.of ((e0.trans e2).trans e3)).trans (FS.put (by simp))) (by rw [upd_same, en]) ((hkq.ex ((e0.trans e2).trans e3)).fs (FS.put (by simp))) (by rw [upd_ne nq]; exact (e2.trans e3) _ _ hq0)
/-- the open dict is done -/
theorem hd_close {kvs : List (Key × V)} {ds c : List (Key × DD)} {kc : List (Key × V)} {k : Key} {q : Addr} (nq : q ≠ st) (hk : HDk [q, st] H kvs ds) (hq : H q = some (.dK kc)) (hc : HDk [q, st] H kc c) : HDk [st] H (kvs ++ [(k, .ref q)]) (ds ++ [(k, .dct c)]) :=
  (hk.weak fun a ha => by simp at ha; simp [ha]).append (.cons (.dct hq (by simpa using nq) (hc.weak fun a ha => by simp at ha; simp [ha])) .nil)
/-- state[k1], state[k2] = {}, {} -/
theorem q_two2 {kvs : List (Key × V)} {ds : List (Key × DD)} {k1 k2 : Key} (hσ : σ[1]? = some (some (.ref st))) (eN : Ex H0 H) (hs : H0 st = none) (h : H st = some (.dK kvs)) (hk : HDk [st] H kvs ds) (hl : ds.length ≤ 1000) (n1 : lookD k1 ds = none) (n2 : lookD k2 ds = none) (hne : k1 ≠ k2)
    (kk : ∀ c p H1, H c = none → H p = none → c ≠ p → c ≠ st → p ≠ st → Ex H0 H1 → FS [st] H H1 → H1 st = some (.dK (kvs ++ [(k1, .ref c), (k2, .ref p)])) → HDk [p, c, st] H1 kvs ds → H1 c = some (.dK []) → H1 p = some (.dK []) → tz D σ H1) :
    tSeq (tAsg (tTup (tCons tDNewK (tCons tDNewK tNil))) (gTup K 2 (gCons (gSub (tVar 1) (tC (kV k1)) rSetD) (gCons (gSub (tVar 1) (tC (kV k2)) rSetD) gNil)))) tz D σ H := fun c hc p hp => ⟨sz_of (by show 2 ≤ 100000; decide), fun q hq => by
  have e1 : Ex H (upd H c (.dK [])) := Ex.new hc
  have e2 : Ex (upd H c (.dK [])) (upd (upd H c (.dK [])) p (.dK [])) := Ex.new hp
  have e3 : Ex (upd (upd H c (.dK [])) p (.dK [])) (upd (upd (upd H c (.dK [])) p (.dK [])) q (.tup [.ref c, .ref p])) := Ex.new hq
  have hpH : H p = none := fresh_back e1 hp
  have ncp : c ≠ p := fun z => by rw [← z, upd_same] at hp; cases hp
  have hc3 : (upd (upd (upd H c (.dK [])) p (.dK [])) q (.tup [.ref c, .ref p])) c = some (.dK []) := e3 _ _ (e2 _ _ upd_same)
  have hp3 : (upd (upd (upd H c (.dK [])) p (.dK [])) q (.tup [.ref c, .ref p])) p = some (.dK []) := e3 _ _ upd_same
  have hq3 : (upd (upd (upd H c (.dK [])) p (.dK [])) q (.tup [.ref c, .ref p])) q = some (.tup [.ref c, .ref p]) := upd_same
  have e03 := (e1.trans e2).trans e3
  have hk3 : HDk [p, c, st] (upd (upd (upd H c (.dK [])) p (.dK [])) q (.tup [.ref c, .ref p])) kvs ds := (((hk.add hc).ex e1).add hp).ex (e2.trans e3)
  generalize upd (upd (upd H c (.dK [])) p (.dK [])) q (.tup [.ref c, .ref p]) = H3 at hc3 hp3 hq3 e03 hk3 ⊢
  have hs3 := e03 _ _ h
  have ns : ∀ {a : Addr}, H a = none → a ≠ st := fun ha z => by rw [z, h] at ha; cases ha
  have en1 : putK kvs k1 (.ref c) = kvs ++ [(k1, .ref c)] := putK_new _ (hk.none n1)
  have hv2 : valV (putK kvs k1 (.ref c)) k2 = none := by rw [valV_put, if_neg (Ne.symm hne)]; exact hk.none n2
  have en2 : putK (putK kvs k1 (.ref c)) k2 (.ref p) = kvs ++ [(k1, .ref c), (k2, .ref p)] := by rw [putK_new _ hv2, en1, List.append_assoc]; rfl
  have hlen := hk.len
  refine ⟨q, _, rfl, st_of hq3, rfl, _, _, rfl, .ref st, hσ, st, _, rfl, DPut.k hs3 (sz_lt (by omega)), _, _, rfl, .ref st, hσ, st, _, rfl, DPut.k upd_same (sz_lt (by have := length_putK kvs k1 (.ref c); omega)), rfl, ?_⟩
  have e4 : Ex H0 (upd H3 st (.dK (putK kvs k1 (.ref c)))) := Ex.mut (eN.trans e03) hs
  refine kk c p _ hc hpH ncp (ns hc) (ns hpH) (Ex.mut e4 hs) (((FS.of e03).trans (FS.put (by simp))).trans (FS.put (by simp))) (by rw [upd_same, en2]) ((hk3.fs (FS.put (by simp))).fs (FS.put (by simp))) ?_ ?_
  · rw [upd_ne (ns hc), upd_ne (ns hc)]; exact hc3
  · rw [upd_ne (ns hpH), upd_ne (ns hpH)]; exact hp3⟩
theorem valV_end {kvs : List (Key × V)} {k : Key} {v : V} (h : valV kvs k = none) : valV (kvs ++ [(k, v)]) k = some v := by
  rw [← putK_new v h, valV_put, if_pos rfl]
/-- {..} over the items of a dict of ints -/
theorem ehd_items {d : Addr} {kv : List (Key × V)} {nn : Nat} {j l : Nat} (u : Nat → Int) (hS : AllS S H) (h : ∀ H1, Ev td σ H1 (.ref d)) (hd : H d = some (.dK kv)) (ok : kv = (List.range nn).map fun (i : Nat) => ((Sum.inl (i : Int) : Key), V.int (u i))) (hz : nn ≤ 1000) (f : Nat → Bool) (dd : Nat → DD)
    (hw : ∀ x y, wipe (((wipe σ vs).set j (some x)).set l (some y)) vs = wipe σ vs)
    (hs : ∀ (i : Nat) H1, i < nn → EvT tt (((wipe σ vs).set j (some (.int (i : Int)))).set l (some (.int (u i)))) H1 (f i) ∧ Ev tk (((wipe σ vs).set j (some (.int (i : Int)))).set l (some (.int (u i)))) H1 (.int (i : Int)) ∧ ∀ S', EvI S' tv (((wipe σ vs).set j (some (.int (i : Int)))).set l (some (.int (u i)))) H1 (dd i)) :
    EvHD S (tLockE (tDc (iItems td) (gTup K 2 (gCons (gName j) (gCons (gName l) gNil))) tt tk tv vs)) σ H (givK nn f (fun i => Sum.inl (i : Int)) dd) := fun H1 e Q q => by
  have hk1 := e _ _ hd
  have hl : kv.length = nn := by rw [ok, List.length_map, List.length_range]
  refine ⟨d, _, hk1, trivial, fun od => ?_⟩
  obtain ⟨HL, hHL⟩ : ∃ HL, HL = upd H1 d (.frz od (.dK kv)) := ⟨_, rfl⟩
  have hLd : HL d = some (.frz od (.dK kv)) := by rw [hHL, upd_same]
  have hLe : ∀ b o, H1 b = some o → b ≠ d → HL b = some o := fun b o h n => by rw [hHL, upd_ne n]; exact h
  have hLn : ∀ b, HL b = none → H1 b = none := fun b h => by
    by_cases e : b = d
    · rw [e, hLd] at h; cases h
    · rw [hHL, upd_ne e] at h; exact h
  have hSL : AllS S HL := fun b hb => by
    obtain ⟨o, h1, h2⟩ := hS b hb
    by_cases z : b = d
    · rw [z]; exact ⟨_, hLd, fun _ z => by cases z⟩
    · exact ⟨o, hLe _ _ (e _ _ h1) z, h2⟩
  rw [← hHL]
  refine h HL HL (Ex.refl _) _ fun HL2 e2 => ⟨d, od, kv, rfl, e2 _ _ hLd, fun Dd hD => ?_⟩
  refine dc_run (σ := σ) (vs := vs) (g := gTup K 2 (gCons (gName j) (gCons (gName l) gNil))) (tt := tt) (tk := tk) (tv := tv) (walk_items (d := d) (o := od) (kvs := kv)) (fun i => Sum.inl (i : Int)) f (fun i v H => HD (d :: Dd :: S) H v (dd i)) (by omega) (fun i j _ _ e => by have := Sum.inl.inj e; omega) (fun i v H H' x h => h.fs fun b o hb n => x b o hb fun z => n (by rw [z]; simp)) hD (fun H' eH => eH _ _ (e2 _ _ hLd)) (fun i H x H' ⟨T', x', y', _, hT, e, _⟩ => by rw [e]; exact Ex.new hT) (fun i x H' H'' hi eH hne y eH' R kk => ?_) (fun kvs' H' eH hk ok' => ?_)
  · obtain ⟨T', x', y', rfl, hT, rfl, ex, ey⟩ := y
    have hil : i < nn := by have : i < kv.length := hi; omega
    have hv : kv[i]? = some (Sum.inl (i : Int), .int (u i)) := by rw [ok, List.getElem?_map, List.getElem?_range hil]; rfl
    simp only [hv, Option.map_some, Option.some.injEq] at ex ey
    subst ex ey
    obtain ⟨s1, s2, s3⟩ := hs i (upd H' T' (.tup [kV (Sum.inl (i : Int)), .int (u i)])) hil
    obtain ⟨kD, hkD⟩ := hne
    have hS3 : AllS (d :: Dd :: S) (upd H' T' (.tup [kV (Sum.inl (i : Int)), .int (u i)])) := ((hSL.ex (e2.trans eH')).dK (Ex.new hT _ _ hkD)).cons (eH' _ _ (e2 _ _ hLd)) (fun _ z => by cases z)
    exact ⟨T', _, rfl, st_of upd_same, rfl, _, _, rfl, _, _, rfl, rfl, kk _ _ (Ex.refl _) (hw _ _) s1 fun _ => ⟨s2, fun H5 e5 Q5 q5 => s3 [] (d :: Dd :: S) _ (fun a ha => by cases ha) (Ex.refl _) hS3 H5 e5 Q5 q5⟩⟩
  · refine ⟨eH _ _ (e2 _ _ hLd), ?_⟩
    have hDL := fresh_back e2 hD
    have nDd : Dd ≠ d := fun z => by rw [z, hLd] at hDL; cases hDL
    have hkd := hdk_ok (fun i j _ _ e => by have := Sum.inl.inj e; omega) ok'
    rw [hl] at hkd
    refine q Dd kvs' _ (hLn _ hDL) (fun b o h => ?_) (by rw [upd_ne nDd]; exact hk) ((hkd.fs (FS.put (by simp))).weak fun a ha => by simp [ha])
    by_cases e : b = d
    · rw [e] at h ⊢
      rw [upd_same, ← hk1, h]
    · rw [upd_ne e]
      exact eH _ _ (e2 _ _ (hLe _ _ h e))
end
theorem lookD_app {k : Key} : ∀ {ds es : List (Key × DD)}, lookD k ds = none → lookD k es = none → lookD k (ds ++ es) = none
  | [], _, _, h => h
  | (j, d) :: r, es, h1, h2 => by
    unfold lookD at h1
    split at h1
    · cases h1
    · rename_i n
      show (if j = k then some d else lookD k (r ++ es)) = none
      rw [if_neg n]
      exact lookD_app h1 h2
theorem lookD_snoc {k j : Key} {ds : List (Key × DD)} {d : DD} (h : lookD k ds = none) (n : j ≠ k) : lookD k (ds ++ [(j, d)]) = none := lookD_app h (by unfold lookD; rw [if_neg n]; rfl)
theorem givK_yes {n : Nat} {f : Nat → Bool} {key : Nat → Key} {d : Nat → DD} (h : f n = true) : givK (n + 1) f key d = givK n f key d ++ [(key n, d n)] := by
  unfold givK
  rw [List.range_succ, List.filter_append, List.map_append, List.filter_cons, if_pos h]
  rfl
theorem givK_no {n : Nat} {f : Nat → Bool} {key : Nat → Key} {d : Nat → DD} (h : f n = false) : givK (n + 1) f key d = givK n f key d := by
  unfold givK
  rw [List.range_succ, List.filter_append, List.filter_cons, if_neg (by rw [h]; decide)]
  simp
theorem givK_len {n : Nat} {f : Nat → Bool} {key : Nat → Key} {d : Nat → DD} : (givK n f key d).length ≤ n := by
  unfold givK
  rw [List.length_map]
  have := List.length_filter_le f (List.range n)
  rw [List.length_range] at this
  exact this
theorem givK_new {n : Nat} {f : Nat → Bool} {d : Nat → DD} : lookD (Sum.inl (n : Int)) (givK n f (fun i => Sum.inl (i : Int)) d) = none := by
  refine lookD_none ?_
  unfold givK
  rw [List.all_map]
  refine List.all_eq_true.mpr fun y hy => decide_eq_true fun z => ?_
  have h1 := List.mem_range.mp (List.mem_filter.mp hy).1
  have := Sum.inl.inj z
  omega
/-! ### slots -/
theorem slV_len {μ : Mem} : (slV μ).length ≤ 256 := by
  have := flat_len (μ := μ) (fr μ 4)
  have := fr_len (μ := μ) (k := 4)
  unfold slV
  omega
def slotB (μ : Mem) (s : Nat) : Bool := decide (μ (ix 1 ((s / 8 : Nat) : Int)) = 4) && !decide (fld μ (s : Int) 0 = 0)
def slN (μ : Mem) : List Nat := (List.range 256).filter (slotB μ)
theorem slN_nodup {μ : Mem} : (slN μ).Nodup := List.Pairwise.filter _ List.nodup_range
theorem slV_eq {μ : Mem} : slV μ = (slN μ).map fun (s : Nat) => V.int (s : Int) := by
  have key : ∀ n : Nat, (((List.range n).filter fun (i : Nat) => decide (V.int (μ (ix 1 (i : Int))) = .int 4)).flatMap (sl8 μ)) = ((List.range (8 * n)).filter (slotB μ)).map fun (s : Nat) => V.int (s : Int) := by
    intro n
    induction n with
    | zero => rfl
    | succ n ih =>
      rw [List.range_succ, List.filter_append, List.flatMap_append, ih, show 8 * (n + 1) = 8 * n + 8 by omega, List.range_add, List.filter_append, List.map_append]
      congr 1
      by_cases h : μ (ix 1 (n : Int)) = 4
      · rw [List.filter_cons, if_pos (by rw [h]; rfl), List.filter_nil, List.flatMap_cons, List.flatMap_nil, List.append_nil]
        unfold sl8 given
        rw [List.filter_map, List.map_map]
        have e1 : ∀ j ∈ List.range 8, (slotB μ ∘ fun x => 8 * n + x) j = !decide (V.int (fld μ ((n : Int) * 8 + (j : Int)) 0) = .int 0) := fun j hj => by
          have hj8 := List.mem_range.mp hj
          show slotB μ (8 * n + j) = _
          unfold slotB
          have d8 : (8 * n + j) / 8 = n := by omega
          have c8 : ((8 * n + j : Nat) : Int) = (n : Int) * 8 + (j : Int) := by omega
          rw [d8, h, c8]
          have : decide (V.int (fld μ ((n : Int) * 8 + (j : Int)) 0) = V.int 0) = decide (fld μ ((n : Int) * 8 + (j : Int)) 0 = 0) := by
            rw [decide_eq_decide]
            exact ⟨fun z => V.int.inj z, fun z => by rw [z]⟩
          rw [this]
          simp
        rw [List.filter_congr e1]
        refine List.map_congr_left fun j hj => ?_
        show V.int ((n : Int) * 8 + (j : Int)) = V.int ((8 * n + j : Nat) : Int)
        congr 1
        omega
      · rw [List.filter_cons, if_neg (by
          intro z
          exact h (V.int.inj (of_decide_eq_true z))), List.filter_nil, List.flatMap_nil]
        rw [List.filter_map, List.filter_eq_nil_iff.mpr, List.map_nil, List.map_nil]
        intro j hj
        have hj8 := List.mem_range.mp hj
        show ¬ slotB μ (8 * n + j) = true
        unfold slotB
        have d8 : (8 * n + j) / 8 = n := by omega
        rw [d8, decide_eq_false h, Bool.false_and]
        decide
  exact key 32
theorem look_take {L : List Nat} {d : Nat → DD} {i x : Nat} (nd : L.Nodup) (h : L[i]? = some x) : lookD (Sum.inl (x : Int)) ((L.take i).map fun (s : Nat) => ((Sum.inl (s : Int) : Key), d s)) = none := by
  refine lookD_none ?_
  rw [List.all_map]
  refine List.all_eq_true.mpr fun y hy => ?_
  refine decide_eq_true fun z => ?_
  have hyx : y = x := by have := Sum.inl.inj z; omega
  obtain ⟨j, hj⟩ := List.mem_iff_getElem?.mp hy
  have hji : j < i := by
    have := (List.getElem?_eq_some_iff.mp hj).1
    rw [List.length_take] at this
    omega
  rw [List.getElem?_take_of_lt hji] at hj
  have := (List.getElem?_inj (i := i) (j := j) (List.getElem?_eq_some_iff.mp h).1 nd).mp (by rw [h, hj, hyx])
  omega
theorem map_take {L : List Nat} {d : Nat → DD} {i x : Nat} (h : L[i]? = some x) : ((L.take (i + 1)).map fun (s : Nat) => ((Sum.inl (s : Int) : Key), d s)) = ((L.take i).map fun (s : Nat) => ((Sum.inl (s : Int) : Key), d s)) ++ [(Sum.inl (x : Int), d x)] := by
  rw [List.take_add_one, h, List.map_append]
  rfl
def capD (μ : Mem) (s : Nat) : DD := .tup [.int (fld μ (s : Int) 0), .int (fld μ (s : Int) 1), .int (fld μ (s : Int) 2), .int (fld μ (s : Int) 3), .int (fld μ (s : Int) 5), .int (fld μ (s : Int) 6)]
def frD (μ : Mem) (k : Int) (d : Nat → DD) : List (Key × DD) := (fr μ k).map fun (f : Nat) => (Sum.inl (f : Int), d f)
def onE (μ : Mem) (eq : Nat → List Int) (f : Nat) : DD := .tup [.int (μ (ix (f : Int) 0)), .tup ((eq f).map DD.int)]
/-- the state that memory holds -/
def absD (μ : Mem) (rq eq : Nat → List Int) : List (Key × DD) := [(Sum.inr "time", .int (μ (ix 0 0))), (Sum.inr "part", .int (μ (ix 0 1))), (Sum.inr "left", .int (μ (ix 0 2))),
  (Sum.inr "plan", .tup (givD 4 (fun i => decide (μ (ix 0 (24 + (i : Int))) ≠ 0)) fun i => .tup [.int (μ (ix 0 (24 + (i : Int))) / 256), .int (μ (ix 0 (24 + (i : Int))) % 256)])),
  (Sum.inr "lines", .dct (givK 4 (fun i => decide (μ (ix 0 (20 + (i : Int))) ≠ 0)) (fun i => Sum.inl (i : Int)) fun i => .tup [.int (μ (ix 0 (20 + (i : Int))) % 256 - 1), .int (μ (ix 0 (20 + (i : Int))) / 256)])),
  (Sum.inr "caps", .dct ((slN μ).map fun (s : Nat) => (Sum.inl (s : Int), capD μ s))), (Sum.inr "parents", .dct ((slN μ).map fun (s : Nat) => (Sum.inl (s : Int), oD (mayI (fld μ (s : Int) 4))))),
  (Sum.inr "frames", .dct (frD μ 4 fun _ => .non)), (Sum.inr "tables", .dct (frD μ 3 fun f => .dct (rowsD μ (f : Int)))), (Sum.inr "threads", .dct (frD μ 5 fun f => .dct (threadD μ (f : Int)))),
  (Sum.inr "pages", .dct (frD μ 2 fun f => .tup ((List.range 64).map fun (i : Nat) => .int (μ (ix (f : Int) (i : Int)))))), (Sum.inr "ends", .dct (frD μ 6 (onE μ eq))), (Sum.inr "notices", .dct (frD μ 7 (onE μ eq))),
  (Sum.inr "devices", .dct []), (Sum.inr "disks", .dct []), (Sum.inr "ready", .dct (givK 8 (fun n => !(rq n).isEmpty) (fun n => Sum.inl (n : Int)) fun n => .tup ((rq n).map DD.int)))]
/-- what the reading asks -/
structure QOk (μ : Mem) (rq eq : Nat → List Int) : Prop where
  rq_ : ∀ n : Nat, n < 8 → SegI μ (μ (ix 0 (4 + (n : Int)))) (rq n) ∧ (rq n).length ≤ 1000
  eq_ : ∀ f : Nat, f < 32 → (μ (ix 1 (f : Int)) = 6 ∨ μ (ix 1 (f : Int)) = 7) → SegI μ (μ (ix (f : Int) 1)) (eq f) ∧ (eq f).length ≤ 1000
  dev : fr μ 8 = []
end KX

namespace KX
open KA KQ
open PySem PySem.Spec PyProof.Rows L2 Evl TL
section
variable {P : Program} {w : World} {K : PySem.W.Frag} {mg : Str → Option Value} {base : Heap}
/-- {frame: .. for frame in frames_of(..)} -/
theorem ehd_fr {σ : L2.St} {H : Hp} {m wl : Addr} {μ : Mem} {kd : Int} {tm tv : TE} {j : Nat} {vs : List Nat} {S : List Addr} (d : Nat → DD) (hS : AllS S H) (hM : MemAt K H m wl μ) (hm : Ev tm σ H (.ref m)) (hw : ∀ x, wipe ((wipe σ vs).set j (some x)) vs = wipe σ vs) (hj : ∀ x, ((wipe σ vs).set j (some x))[j]? = some (some x))
    (hs : ∀ (f : Nat) H1, Ex H H1 → f ∈ fr μ kd → f < 32 → EvI S tv ((wipe σ vs).set j (some (.int (f : Int)))) H1 (d f)) :
    EvHD S (tDc (iList K (tCall (sp_frames_of K) [] E0 (tCons tm (tCons (tC (.int kd)) tNil)))) (gName j) (fun _ H Q => Q true H) (tVar j) tv vs) σ H (frD μ kd d) := fun H1 e Q q => by
  have nd : (fr μ kd).Nodup := List.Pairwise.filter _ List.nodup_range
  have hlen : (framesV μ kd).length = (fr μ kd).length := by rw [framesV_eq, List.length_map]
  have at_ : ∀ {i : Nat} {y : V}, (framesV μ kd)[i]? = some y → ∃ f : Nat, (fr μ kd)[i]? = some f ∧ y = .int (f : Int) := fun {i y} h => by
    rw [framesV_eq, List.getElem?_map] at h
    cases e : (fr μ kd)[i]? with
    | none => rw [e] at h; cases h
    | some f => rw [e] at h; exact ⟨f, rfl, (Option.some.inj h).symm⟩
  have h0 : EvHD S (tDc (iList K (tCall (sp_frames_of K) [] E0 (tCons tm (tCons (tC (.int kd)) tNil)))) (gName j) (fun _ H Q => Q true H) (tVar j) tv vs) σ H (givK (framesV μ kd).length (fun _ => true) (fun i => Sum.inl (((fr μ kd).getD i 0 : Nat) : Int)) (fun i => d ((fr μ kd).getD i 0))) := by
    refine ehd_NL (K := K) (xs := framesV μ kd) (fun i => Sum.inl (((fr μ kd).getD i 0 : Nat) : Int)) (fun _ => true) (fun i => d ((fr μ kd).getD i 0)) hS (fun H1 e Q q => hm H1 e _ fun H2 e2 => ⟨m, wl, μ, kd, rfl, hM.keep (e.trans e2), fun p H3 hp e3 h3 => q p H3 (fresh_back e2 hp) (e2.trans e3) h3⟩) (by have := fr_len (μ := μ) (k := kd); omega) (fun i j hi hj e => ?_) hw fun i y H1 e1 hy => ?_
    · rw [hlen] at hi hj
      have e2 : (fr μ kd).getD i 0 = (fr μ kd).getD j 0 := by have := Sum.inl.inj e; omega
      rw [List.getD_eq_getElem?_getD, List.getD_eq_getElem?_getD, List.getElem?_eq_getElem hi, List.getElem?_eq_getElem hj] at e2
      exact (List.getElem?_inj (i := i) (j := j) hi nd).mp (by rw [List.getElem?_eq_getElem hi, List.getElem?_eq_getElem hj]; exact congrArg some e2)
    · obtain ⟨f, hfi, rfl⟩ := at_ hy
      have hg : (fr μ kd).getD i 0 = f := by rw [List.getD_eq_getElem?_getD, hfi]; rfl
      refine ⟨et_yes, fun _ => ⟨?_, ?_⟩⟩
      · show Ev _ _ _ (.int (((fr μ kd).getD i 0 : Nat) : Int))
        rw [hg]
        exact ev_var (hj _)
      · show EvI S tv _ H1 (d ((fr μ kd).getD i 0))
        rw [hg]
        exact hs f H1 e1 (List.mem_of_getElem? hfi) (fr_lt (List.mem_of_getElem? hfi)).1
  have : givK (framesV μ kd).length (fun _ => true) (fun i => (Sum.inl (((fr μ kd).getD i 0 : Nat) : Int) : Key)) (fun i => d ((fr μ kd).getD i 0)) = frD μ kd d := by
    unfold givK frD
    rw [List.filter_eq_self.mpr (fun _ _ => rfl), hlen]
    refine List.ext_getElem? fun i => ?_
    rw [List.getElem?_map, List.getElem?_map]
    by_cases hi : i < (fr μ kd).length
    · rw [List.getElem?_range hi, List.getElem?_eq_getElem hi]
      show some ((Sum.inl (((fr μ kd).getD i 0 : Nat) : Int) : Key), d ((fr μ kd).getD i 0)) = some (Sum.inl (((fr μ kd)[i] : Nat) : Int), d ((fr μ kd)[i]))
      rw [List.getD_eq_getElem?_getD, List.getElem?_eq_getElem hi]
      rfl
    · rw [List.getElem?_eq_none (by rw [List.length_range]; omega), List.getElem?_eq_none (by omega)]
      rfl
  rw [← this] at q
  exact h0 H1 e Q q
theorem ehl_is {σ : L2.St} {H : Hp} {te : TE} {S : List Addr} {ds es : List DD} (h : EvHL S te σ H ds) (e : ds = es) : EvHL S te σ H es := e ▸ h
theorem ei_non {σ : L2.St} {H : Hp} {te : TE} {S : List Addr} (h : Ev te σ H .non) : EvI S te σ H .non := fun S' H1 _ e1 _ => eh_non (h.mono e1)
theorem ei_D {σ : L2.St} {H : Hp} {te : TE} {S : List Addr} {ds : List (Key × DD)} (h : ∀ S' H1, Ex H H1 → AllS S' H1 → EvHD S' te σ H1 ds) : EvI S te σ H (.dct ds) := fun S' H1 _ e1 hS => eh_D hS (h S' H1 e1 hS)
theorem ei_tup {σ : L2.St} {H : Hp} {ta : TA} {S : List Addr} {ds : List DD} (h : ∀ S' H1, Ex H H1 → AllS S' H1 → EvHs S' ta σ H1 ds) (hl : ds.length ≤ 100000) : EvI S (tTup ta) σ H (.tup ds) := fun S' H1 _ e1 hS => eh_tup hS (h S' H1 e1 hS) hl
def sp_abstracted (K : PySem.W.Frag) : Sp := fun vs H Q _ => ∃ (m wl dx dd : Addr) (μ : Mem) (rq eq : Nat → List Int), vs = [.ref m] ∧ MemAt K H m wl μ ∧ H m = some (.ins (CM K) dx [("_words", .ref wl), ("_disks", .ref dd)]) ∧ H dd = some (.dK []) ∧ QOk μ rq eq ∧ ∀ st kvs H', H st = none → Ex H H' → H' st = some (.dK kvs) → HDk [st] H' kvs (absD μ rq eq) → Q (.ref st) H'
def nmL : List (Str × Int) := [("ends", 6), ("notices", 7)]
theorem ok_abstracted (T : Txt K mg) : FnOk P w K mg base CX0 7 (f_abstracted K) (fd_abstracted K) ["memory"] (sp_abstracted K) := by
  refine T.fn_abstracted.ok sc_abstracted (fun vs H Q E h => ?_) (fun cdv A outer s H vs Q E hr h => ?_)
  · obtain ⟨_, _, _, _, _, _, _, rfl, _⟩ := h
    rfl
  have hu := hu_of hr
  refine ⟨_, PSs.nox (pss_cons (ps_set (i := 1) sc_abstracted.nd rfl (Or.inl rfl) (pe_disp (pps_cons pe_str (pe_meth (pv 0) (T.cl_Memory) (T.mt_Memory_word) (ok_Memory_word T) (hr.mono (by decide)) (T.bd_Memory_word) .nil pass0 (pa_cons (T.pg_KERNEL) (pa_cons (T.pg_K_TIME) pa_nil))) (pps_cons pe_str (pe_meth (pv 0) (T.cl_Memory) (T.mt_Memory_word) (ok_Memory_word T) (hr.mono (by decide)) (T.bd_Memory_word) .nil pass0 (pa_cons (T.pg_KERNEL) (pa_cons (T.pg_K_PART) pa_nil))) pps_nil)) (by rfl) (by rfl) (fun z => by cases z) (by decide))) (pss_cons (ps_dput hu (pv 1) pe_str (pe_meth (pv 0) (T.cl_Memory) (T.mt_Memory_word) (ok_Memory_word T) (hr.mono (by decide)) (T.bd_Memory_word) .nil pass0 (pa_cons (T.pg_KERNEL) (pa_cons (T.pg_K_LEFT) pa_nil))) rfl) (pss_cons (ps_setLc (i := 2) (own := [("number", 3)]) (by rfl) sc_abstracted.nd rfl rfl (sw_true rfl rfl rfl (by decide +kernel)) (pi_range1 (by rfl) T.free_range (pa_cons (T.pg_PARTS) pa_nil)) (blkOk_by (N := sc_abstracted_N) (sc := defScope s_abstracted) (own := [("number", 3)]) (by decide +kernel)) (fun _ _ _ _ _ => (pg_name (i := 3) sc_abstracted.nd rfl (Or.inl rfl))) (fun _ _ _ _ _ => pts_nil) (fun _ _ _ _ _ => (pe_meth (pv 0) (T.cl_Memory) (T.mt_Memory_word) (ok_Memory_word T) (hr.mono (by decide)) (T.bd_Memory_word) .nil pass0 (pa_cons (by exact T.pg_KERNEL) (pa_cons (pe_op op_add (by exact T.pg_K_PLAN) (pv 3)) pa_nil))))) (pss_cons (ps_dput hu (pv 1) pe_str (pe_callTy call_tuple_of (by rfl) T.free_tuple (by decide +kernel) (pa_cons (pe_lc (own := [("word", 4)]) (by rfl) sc_abstracted.nd (pi_list (pv 2)) (blkOk_by (N := sc_abstracted_N) (sc := defScope s_abstracted) (own := [("word", 4)]) (by decide +kernel)) (fun _ _ _ _ _ => (pg_name (i := 4) sc_abstracted.nd rfl (Or.inl rfl))) (fun _ _ _ _ _ => (pts_one (pt_truthK (K := K) (by rfl) (pv 4) (by intro _; rfl)))) (fun _ _ _ _ _ => (pe_tup (pa_cons (pe_op op_fdiv (pv 4) pe_int) (pa_cons (pe_op op_mod (pv 4) pe_int) pa_nil))))) pa_nil)) rfl) (pss_cons (ps_setDc (i := 5) (own := [("line", 6)]) (by rfl) sc_abstracted.nd rfl rfl (sw_trueD rfl rfl rfl (by decide +kernel)) (pi_range1 (by rfl) T.free_range (pa_cons (T.pg_LINES) pa_nil)) (blkOk_by (N := sc_abstracted_N) (sc := defScope s_abstracted) (own := [("line", 6)]) (by decide +kernel)) (fun _ _ _ _ _ => (pg_name (i := 6) sc_abstracted.nd rfl (Or.inl rfl))) (fun _ _ _ _ _ => pts_nil) (fun _ _ _ _ _ => (pv 6)) (fun _ _ _ _ _ => (pe_meth (pv 0) (T.cl_Memory) (T.mt_Memory_word) (ok_Memory_word T) (hr.mono (by decide)) (T.bd_Memory_word) .nil pass0 (pa_cons (by exact T.pg_KERNEL) (pa_cons (pe_op op_add (by exact T.pg_K_LINES) (pv 6)) pa_nil))))) (pss_cons (ps_dput hu (pv 1) pe_str (pe_lock (pe_dc (own := [("line", 6), ("word", 4)]) (by rfl) sc_abstracted.nd (pi_items (pv 5)) (blkOk_by (N := sc_abstracted_N) (sc := defScope s_abstracted) (own := [("line", 6), ("word", 4)]) (by decide +kernel)) (fun _ _ _ _ _ => (pg_tupK (K := K) (n := 2) (by rfl) (by rfl) (pgs_cons (pg_name (i := 6) sc_abstracted.nd rfl (Or.inl rfl)) (pgs_cons (pg_name (i := 4) sc_abstracted.nd rfl (Or.inl rfl)) pgs_nil)))) (fun _ _ _ _ _ => (pts_one (pt_truthK (K := K) (by rfl) (pv 4) (by intro _; rfl)))) (fun _ _ _ _ _ => (pv 6)) (fun _ _ _ _ _ => (pe_tup (pa_cons (pe_op op_sub (pe_op op_mod (pv 4) pe_int) pe_int) (pa_cons (pe_op op_fdiv (pv 4) pe_int) pa_nil)))))) rfl) (pss_cons (ps_asg (pe_tup (pa_cons pe_dnewK (pa_cons pe_dnewK pa_nil))) (pg_tup (by rfl) (pgs_cons (pg_sub (pv 1) pe_str (set_dict hu)) (pgs_cons (pg_sub (pv 1) pe_str (set_dict hu)) pgs_nil)))) (pss_cons (ps_for PassesOwn.never rfl (pi_list (pe_call (ok_slots_of T) (hr.mono (by decide)) (by rfl) (T.glo_slots_of) (T.kp_slots_of) (T.bd_slots_of) .nil pass0 (pa_cons (pv 0) pa_nil))) (pg_name (i := 7) sc_abstracted.nd rfl (Or.inl rfl)) (pss_cons (ps_dput hu (pe_dget hu (pv 1) pe_str (fun _ _ => rfl)) (pv 7) (pe_op op_catA (pe_call (ok_cap_at T) (hr.mono (by decide)) (by rfl) (T.glo_cap_at) (T.kp_cap_at) (T.bd_cap_at) .nil pass0 (pa_cons (pv 0) (pa_cons (pv 7) pa_nil))) (pe_tup (pa_cons (pe_call (ok_field T) (hr.mono (by decide)) (by rfl) (T.glo_field) (T.kp_field) (T.bd_field) .nil pass0 (pa_cons (pv 0) (pa_cons (pv 7) (pa_cons pe_int pa_nil)))) (pa_cons (pe_call (ok_field T) (hr.mono (by decide)) (by rfl) (T.glo_field) (T.kp_field) (T.bd_field) .nil pass0 (pa_cons (pv 0) (pa_cons (pv 7) (pa_cons pe_int pa_nil)))) pa_nil)))) rfl) (pss_one (ps_dput hu (pe_dget hu (pv 1) pe_str (fun _ _ => rfl)) (pv 7) (pe_call (ok_maybe T) (hr.mono (by decide)) (by rfl) (T.glo_maybe) (T.kp_maybe) (T.bd_maybe) .nil pass0 (pa_cons (pe_call (ok_field T) (hr.mono (by decide)) (by rfl) (T.glo_field) (T.kp_field) (T.bd_field) .nil pass0 (pa_cons (pv 0) (pa_cons (pv 7) (pa_cons pe_int pa_nil)))) pa_nil)) rfl)))) (pss_cons (ps_dput hu (pv 1) pe_str (pe_dc (own := [("frame", 8)]) (by rfl) sc_abstracted.nd (pi_list (pe_call (ok_frames_of T) (hr.mono (by decide)) (by rfl) (T.glo_frames_of) (T.kp_frames_of) (T.bd_frames_of) .nil pass0 (pa_cons (pv 0) (pa_cons (T.pg_CAPS) pa_nil)))) (blkOk_by (N := sc_abstracted_N) (sc := defScope s_abstracted) (own := [("frame", 8)]) (by decide +kernel)) (fun _ _ _ _ _ => (pg_name (i := 8) sc_abstracted.nd rfl (Or.inl rfl))) (fun _ _ _ _ _ => pts_nil) (fun _ _ _ _ _ => (pv 8)) (fun _ _ _ _ _ => pe_non)) rfl) (pss_cons (ps_dput hu (pv 1) pe_str (pe_dc (own := [("table", 9)]) (by rfl) sc_abstracted.nd (pi_list (pe_call (ok_frames_of T) (hr.mono (by decide)) (by rfl) (T.glo_frames_of) (T.kp_frames_of) (T.bd_frames_of) .nil pass0 (pa_cons (pv 0) (pa_cons (T.pg_TABLE) pa_nil)))) (blkOk_by (N := sc_abstracted_N) (sc := defScope s_abstracted) (own := [("table", 9)]) (by decide +kernel)) (fun _ _ _ _ _ => (pg_name (i := 9) sc_abstracted.nd rfl (Or.inl rfl))) (fun _ _ _ _ _ => pts_nil) (fun _ _ _ _ _ => (pv 9)) (fun _ _ _ _ _ => (pe_call (ok_rows_of T) (hr.mono (by decide)) (by rfl) (T.glo_rows_of) (T.kp_rows_of) (T.bd_rows_of) .nil pass0 (pa_cons (pv 0) (pa_cons (pv 9) pa_nil))))) rfl) (pss_cons (ps_dput hu (pv 1) pe_str (pe_dc (own := [("thread", 10)]) (by rfl) sc_abstracted.nd (pi_list (pe_call (ok_frames_of T) (hr.mono (by decide)) (by rfl) (T.glo_frames_of) (T.kp_frames_of) (T.bd_frames_of) .nil pass0 (pa_cons (pv 0) (pa_cons (T.pg_THREAD) pa_nil)))) (blkOk_by (N := sc_abstracted_N) (sc := defScope s_abstracted) (own := [("thread", 10)]) (by decide +kernel)) (fun _ _ _ _ _ => (pg_name (i := 10) sc_abstracted.nd rfl (Or.inl rfl))) (fun _ _ _ _ _ => pts_nil) (fun _ _ _ _ _ => (pv 10)) (fun _ _ _ _ _ => (pe_call (ok_thread_of T) (hr.mono (by decide)) (by rfl) (T.glo_thread_of) (T.kp_thread_of) (T.bd_thread_of) .nil pass0 (pa_cons (pv 0) (pa_cons (pv 10) pa_nil))))) rfl) (pss_cons (ps_dput hu (pv 1) pe_str (pe_dc (own := [("page", 11)]) (by rfl) sc_abstracted.nd (pi_list (pe_call (ok_frames_of T) (hr.mono (by decide)) (by rfl) (T.glo_frames_of) (T.kp_frames_of) (T.bd_frames_of) .nil pass0 (pa_cons (pv 0) (pa_cons (T.pg_PAGE) pa_nil)))) (blkOk_by (N := sc_abstracted_N) (sc := defScope s_abstracted) (own := [("page", 11)]) (by decide +kernel)) (fun _ _ _ _ _ => (pg_name (i := 11) sc_abstracted.nd rfl (Or.inl rfl))) (fun _ _ _ _ _ => pts_nil) (fun _ _ _ _ _ => (pv 11)) (fun _ _ _ _ _ => (pe_meth (pv 0) (T.cl_Memory) (T.mt_Memory_frame) (ok_Memory_frame T) (hr.mono (by decide)) (T.bd_Memory_frame) .nil pass0 (pa_cons (pv 11) pa_nil)))) rfl) (pss_cons (ps_for PassesOwn.never rfl (pi_tup (pe_tup (pa_cons (pe_tup (pa_cons pe_str (pa_cons (T.pg_END) pa_nil))) (pa_cons (pe_tup (pa_cons pe_str (pa_cons (T.pg_NOTICE) pa_nil))) pa_nil)))) (pg_tup (by rfl) (pgs_cons (pg_name (i := 12) sc_abstracted.nd rfl (Or.inl rfl)) (pgs_cons (pg_name (i := 13) sc_abstracted.nd rfl (Or.inl rfl)) pgs_nil))) (pss_cons (ps_dput hu (pv 1) (pv 12) pe_dnewK rfl) (pss_one (ps_for PassesOwn.never rfl (pi_list (pe_call (ok_frames_of T) (hr.mono (by decide)) (by rfl) (T.glo_frames_of) (T.kp_frames_of) (T.bd_frames_of) .nil pass0 (pa_cons (pv 0) (pa_cons (pv 13) pa_nil)))) (pg_name (i := 14) sc_abstracted.nd rfl (Or.inl rfl)) (pss_one (ps_dput hu (pe_dget hu (pv 1) (pv 12) (fun _ _ => rfl)) (pv 14) (pe_tup (pa_cons (pe_meth (pv 0) (T.cl_Memory) (T.mt_Memory_word) (ok_Memory_word T) (hr.mono (by decide)) (T.bd_Memory_word) .nil pass0 (pa_cons (pv 14) (pa_cons pe_int pa_nil))) (pa_cons (pe_callTy call_tuple_of (by rfl) T.free_tuple (by decide +kernel) (pa_cons (pe_call (ok_members T) (hr.mono (by decide)) (by rfl) (T.glo_members) (T.kp_members) (T.bd_members) .nil pass0 (pa_cons (pv 0) (pa_cons (pe_tup (pa_cons (pv 14) (pa_cons pe_int (pa_cons pe_int pa_nil)))) pa_nil))) pa_nil)) pa_nil))) rfl)))))) (pss_cons (ps_dput hu (pv 1) pe_str (pe_dc (own := [("device", 15)]) (by rfl) sc_abstracted.nd (pi_list (pe_call (ok_frames_of T) (hr.mono (by decide)) (by rfl) (T.glo_frames_of) (T.kp_frames_of) (T.bd_frames_of) .nil pass0 (pa_cons (pv 0) (pa_cons (T.pg_DEVICE) pa_nil)))) (blkOk_by (N := sc_abstracted_N) (sc := defScope s_abstracted) (own := [("device", 15)]) (by decide +kernel)) (fun _ _ _ _ _ => (pg_name (i := 15) sc_abstracted.nd rfl (Or.inl rfl))) (fun _ _ _ _ _ => pts_nil) (fun _ _ _ _ _ => (pv 15)) (fun _ _ _ _ _ => (pe_call (ok_device_of T) (hr.mono (by decide)) (by rfl) (T.glo_device_of) (T.kp_device_of) (T.bd_device_of) .nil pass0 (pa_cons (pv 0) (pa_cons (pv 15) pa_nil))))) rfl) (pss_cons (ps_dput hu (pv 1) pe_str (pe_dc (own := [("device", 15)]) (by rfl) sc_abstracted.nd (pi_list (pe_meth0 (pv 0) (T.cl_Memory) (T.mt_Memory_laid) (ok_Memory_laid T) (hr.mono (by decide)) (T.bd_Memory_laid) .nil pass0)) (blkOk_by (N := sc_abstracted_N) (sc := defScope s_abstracted) (own := [("device", 15)]) (by decide +kernel)) (fun _ _ _ _ _ => (pg_name (i := 15) sc_abstracted.nd rfl (Or.inl rfl))) (fun _ _ _ _ _ => pts_nil) (fun _ _ _ _ _ => (pv 15)) (fun _ _ _ _ _ => (pe_meth (pv 0) (T.cl_Memory) (T.mt_Memory_disk) (ok_Memory_disk T) (hr.mono (by decide)) (T.bd_Memory_disk) .nil pass0 (pa_cons (pv 15) pa_nil)))) rfl) (pss_cons (ps_dput hu (pv 1) pe_str pe_dnewK rfl) (pss_cons (ps_for PassesOwn.never rfl (pi_range1 (by rfl) T.free_range (pa_cons (pe_op op_mul (T.pg_DOMAINS) (T.pg_PRIORITIES)) pa_nil)) (pg_name (i := 3) sc_abstracted.nd rfl (Or.inl rfl)) (pss_cons (ps_set (i := 16) sc_abstracted.nd rfl (Or.inl rfl) (pe_callTy call_tuple_of (by rfl) T.free_tuple (by decide +kernel) (pa_cons (pe_call (ok_members T) (hr.mono (by decide)) (by rfl) (T.glo_members) (T.kp_members) (T.bd_members) .nil pass0 (pa_cons (pv 0) (pa_cons (pe_tup (pa_cons (T.pg_KERNEL) (pa_cons (pe_op op_add (T.pg_K_HEADS) (pv 3)) (pa_cons (pe_op op_add (T.pg_K_TAILS) (pv 3)) pa_nil)))) pa_nil))) pa_nil))) (pss_one (ps_if (pt_truth (pv 16) (by intro _; rfl)) (pss_one (ps_dput hu (pe_dget hu (pv 1) pe_str (fun _ _ => rfl)) (pv 3) (pv 16) rfl)) pss_nil)))) (pss_one (ps_ret (pv 1)))))))))))))))))))), ?_⟩
  obtain ⟨m, wl, dxm, ddm, μ, rq, eq, rfl, hM, hmI, hdd, hA, k⟩ := h
  refine q_dispH (k1 := Sum.inr "time") (k2 := Sum.inr "part") (by decide) (ev_word hM (ev_var rfl) ev_c ev_c (by decide)) (ev_word hM (ev_var rfl) ev_c ev_c (by decide)) fun st kv0 H1 hst e1 h1 k1 => ?_
  have hM1 := hM.keep e1
  refine q_stH (k := Sum.inr "left") (dd := .int (μ (ix 0 2))) e1 hst h1 k1 (by show 2 ≤ 1000; decide) rfl (ei_int (ev_word hM1 (ev_var rfl) ev_c ev_c (by decide))) (fun H1 e => ev_var rfl) (fun H1 e => ev_c) fun H2 kv2 e2 f2 h2 k2 => ?_
  have hM2 := hM.keep e2
  refine q_asgL (xs := given 4 (fun _ => true) fun i => .int (μ (ix 0 (24 + (i : Int))))) (el_lcR1 (n := 4) (fun _ => true) (fun i => .int (μ (ix 0 (24 + (i : Int))))) (ea_cons ev_c ea_nil) (by decide) (fun x => rfl) (fun i H1 e1 hi => et_yes) (fun i H1 e1 hi _ => ev_word (hM2.keep e1) (ev_var rfl) ev_c (ev_op ev_c (ev_var rfl) rv_I0) (by omega))) fun wd H3 hwd e3 h3 => ?_
  have nwd : wd ≠ st := fun z => by rw [z, h2] at hwd; cases hwd
  have wdat : ∀ {i : Nat} {y : V}, (given 4 (fun _ => true) fun i => V.int (μ (ix 0 (24 + (i : Int)))))[i]? = some y → i < 4 ∧ y = .int (μ (ix 0 (24 + (i : Int)))) := fun {i y} hy => by
    unfold given at hy
    rw [List.filter_eq_self.mpr (fun _ _ => rfl), List.getElem?_map] at hy
    by_cases hi : i < 4
    · rw [List.getElem?_range hi] at hy
      exact ⟨hi, (Option.some.inj hy).symm⟩
    · rw [List.getElem?_eq_none (by rw [List.length_range]; omega)] at hy
      cases hy
  refine q_stH (k := Sum.inr "plan") (dd := .tup (givD 4 (fun i => decide (μ (ix 0 (24 + (i : Int))) ≠ 0)) fun i => .tup [.int (μ (ix 0 (24 + (i : Int))) / 256), .int (μ (ix 0 (24 + (i : Int))) % 256)])) (e2.trans e3) hst (e3 _ _ h2) (k2.ex e3) (by show 3 ≤ 1000; decide) rfl ?_ (fun H1 e => ev_var rfl) (fun H1 e => ev_c) fun H4 kv4 e4 f4 h4 k4 => ?_
  · intro S' H5 _ e5 hS
    refine eh_tuple hS (ehl_is (ehl_L (K := K) (a := wd) (xs := given 4 (fun _ => true) fun i => .int (μ (ix 0 (24 + (i : Int))))) (fun i => decide (μ (ix 0 (24 + (i : Int))) ≠ 0)) (fun i => .tup [.int (μ (ix 0 (24 + (i : Int))) / 256), .int (μ (ix 0 (24 + (i : Int))) % 256)]) hS (ev_var rfl) (sq_of (e5 _ _ h3)) (by have := given_len 4 (fun _ => true) (fun i => V.int (μ (ix 0 (24 + (i : Int))))); omega) (fun x => rfl) (fun i y H6 e6 hy => ?_) (fun i y H6 e6 hy _ => ?_)) rfl)
    · obtain ⟨_, rfl⟩ := wdat hy
      exact et_truI (ev_var rfl)
    · obtain ⟨_, rfl⟩ := wdat hy
      exact ei_tup (fun S'' H7 e7 _ => ehs_cons (eh_int (ev_div (ev_var rfl) ev_c (by decide))) (ehs_cons (eh_int (ev_mod (ev_var rfl) ev_c (by decide))) ehs_nil)) (by show 2 ≤ 100000; decide)
  have hM4 := hM.keep e4
  refine q_asgHD (S := [st]) (ds := givK 4 (fun _ => true) (fun i => Sum.inl (i : Int)) fun i => .int (μ (ix 0 (20 + (i : Int))))) (ehd_R1 (n := 4) (fun i => Sum.inl (i : Int)) (fun _ => true) (fun i => .int (μ (ix 0 (20 + (i : Int))))) (AllS.nil.dK h4) (ea_cons ev_c ea_nil) (by decide) (fun i j e => by have := Sum.inl.inj e; omega) (fun x => rfl) fun i H1 e1 hi => ⟨et_yes, fun _ => ⟨ev_var rfl, ei_int (ev_word (hM4.keep e1) (ev_var rfl) ev_c (ev_op ev_c (ev_var rfl) rv_I0) (by omega))⟩⟩) fun ld kvl H5 hld e5 h5 k5 => ?_
  have okl : kvl = (List.range 4).map fun (i : Nat) => ((Sum.inl (i : Int) : Key), V.int (μ (ix 0 (20 + (i : Int))))) := by
    have hl5 := k5.len
    refine List.ext_getElem? fun i => ?_
    cases e : kvl[i]? with
    | none =>
      have h4 : kvl.length = 4 := hl5
      have : 4 ≤ i := by have := List.getElem?_eq_none_iff.mp e; omega
      rw [List.getElem?_eq_none (by rw [List.length_map, List.length_range]; omega)]
    | some p =>
      obtain ⟨d, h1, h2⟩ := k5.at e
      have hi : i < 4 := by have := (List.getElem?_eq_some_iff.mp e).1; rw [hl5] at this; exact this
      have h3 : (givK 4 (fun _ => true) (fun i => (Sum.inl (i : Int) : Key)) fun i => DD.int (μ (ix 0 (20 + (i : Int)))))[i]? = some (Sum.inl (i : Int), DD.int (μ (ix 0 (20 + (i : Int))))) := by
        unfold givK
        rw [List.filter_eq_self.mpr (fun _ _ => rfl), List.getElem?_map, List.getElem?_range hi]
        rfl
      rw [h3] at h1
      obtain ⟨p1, p2⟩ := p
      have q1 := congrArg Prod.fst (Option.some.inj h1)
      have q2 := congrArg Prod.snd (Option.some.inj h1)
      simp only at q1 q2
      subst q2
      have h9 : p2 = .int (μ (ix 0 (20 + (i : Int)))) := h2.int_inv
      rw [h9, ← q1, List.getElem?_map, List.getElem?_range hi]
      rfl
  have e05 := e4.trans e5
  have nld : ld ≠ st := fun z => by rw [z, h4] at hld; cases hld
  refine q_stH (k := Sum.inr "lines") (dd := .dct (givK 4 (fun i => decide (μ (ix 0 (20 + (i : Int))) ≠ 0)) (fun i => Sum.inl (i : Int)) fun i => .tup [.int (μ (ix 0 (20 + (i : Int))) % 256 - 1), .int (μ (ix 0 (20 + (i : Int))) / 256)])) e05 hst (e5 _ _ h4) (k4.ex e5) (by show 4 ≤ 1000; decide) rfl ?_ (fun H1 e => ev_var rfl) (fun H1 e => ev_c) fun H6 kv6 e6 f6 h6 k6 => ?_
  · refine ei_D fun S' H7 e7 hS => ?_
    exact ehd_items (fun i => μ (ix 0 (20 + (i : Int)))) hS (fun H1 => ev_var rfl) (e7 _ _ h5) okl (by decide) (fun i => decide (μ (ix 0 (20 + (i : Int))) ≠ 0)) (fun i => .tup [.int (μ (ix 0 (20 + (i : Int))) % 256 - 1), .int (μ (ix 0 (20 + (i : Int))) / 256)]) (fun x y => rfl) fun i H1 hi => ⟨et_truI (ev_var rfl), ev_var rfl, fun S'' => ei_tup (fun S3 H8 e8 _ => ehs_cons (eh_int (ev_op (ev_mod (ev_var rfl) ev_c (by decide)) ev_c rv_I0)) (ehs_cons (eh_int (ev_div (ev_var rfl) ev_c (by decide))) ehs_nil)) (by show 2 ≤ 100000; decide)⟩
  have hM6 := hM.keep e6
  obtain ⟨dsA, hdsA, k6⟩ : ∃ dsA : List (Key × DD), dsA = _ ∧ HDk [st] H6 kv6 dsA := ⟨_, rfl, k6⟩
  have lA : dsA.length = 5 := by rw [hdsA]; rfl
  have nA : ∀ x : Str, (x ≠ "time" ∧ x ≠ "part" ∧ x ≠ "left" ∧ x ≠ "plan" ∧ x ≠ "lines") → lookD (Sum.inr x) dsA = none := fun x hx => by
    rw [hdsA]
    refine lookD_none ?_
    obtain ⟨h1, h2, h3, h4, h5⟩ := hx
    simp [Ne.symm h1, Ne.symm h2, Ne.symm h3, Ne.symm h4, Ne.symm h5]
  clear k1 k2 k4
  -- caps, parents
  refine q_two2 (K := K) (k1 := Sum.inr "caps") (k2 := Sum.inr "parents") rfl e6 hst h6 k6 (by rw [lA]; decide) (nA _ (by decide +kernel)) (nA _ (by decide +kernel)) (by decide) fun cp pr H7 hcp hpr ncp nc np e7 f7 h7 k7 hc7 hp7 => ?_
  have hM7 := hM.keep e7
  have hslots : ∀ {i : Nat} {y : V}, (slV μ)[i]? = some y → ∃ s : Nat, (slN μ)[i]? = some s ∧ y = .int (s : Int) ∧ s < 256 := fun {i y} h => by
    rw [slV_eq, List.getElem?_map] at h
    cases e : (slN μ)[i]? with
    | none => rw [e] at h; cases h
    | some s => rw [e] at h; exact ⟨s, rfl, (Option.some.inj h).symm, List.mem_range.mp (List.mem_filter.mp (List.mem_of_getElem? e)).1⟩
  have cH : ∀ {a : Addr}, H6 a = none → H a = none := fun h => fresh_back e6 h
  obtain ⟨kvB, hkvB, h7⟩ : ∃ kvB : List (Key × V), kvB = _ ∧ H7 st = some (.dK kvB) := ⟨_, rfl, h7⟩
  have vcp : valV kvB (Sum.inr "caps") = some (.ref cp) ∧ valV kvB (Sum.inr "parents") = some (.ref pr) := by
    have n1 := k7.none (nA "caps" (by decide +kernel))
    have n2 := k7.none (nA "parents" (by decide +kernel))
    have e1 : kvB = putK (putK kv6 (Sum.inr "caps") (.ref cp)) (Sum.inr "parents") (.ref pr) := by
      rw [hkvB, putK_new _ n1, putK_new, List.append_assoc]
      · rfl
      · rw [← putK_new _ n1, valV_put, if_neg (by decide)]; exact n2
    rw [e1]
    exact ⟨by rw [valV_put, if_neg (by decide), valV_put, if_pos rfl], by rw [valV_put, if_pos rfl]⟩
  obtain ⟨vcp, vpr⟩ := vcp
  refine q_forNL (K := K) (xs := slV μ) (fun H2 e Q q => ⟨_, rfl, m, wl, μ, rfl, hM7.keep e, fun p H3 hp e3 h3 => q p H3 hp e3 h3⟩)
    (fun p i σ' H' => ∃ x7 c1 c2, σ' = [some (.ref m), some (.ref st), some (.ref wd), none, none, some (.ref ld), none, x7, none, none, none, none, none, none, none, none, none] ∧ Ex H H' ∧ H' st = some (.dK kvB) ∧ HDk [pr, cp, st] H' kv6 dsA ∧ H' cp = some (.dK c1) ∧ HDk [cp, pr, st] H' c1 (((slN μ).take i).map fun (s : Nat) => (Sum.inl (s : Int), capD μ s)) ∧ H' pr = some (.dK c2) ∧ HDk [pr, cp, st] H' c2 (((slN μ).take i).map fun (s : Nat) => (Sum.inl (s : Int), oD (mayI (fld μ (s : Int) 4)))) ∧ H' p = some (.lst (slV μ)) ∧ p ≠ st ∧ p ≠ cp ∧ p ≠ pr)
    (fun p H8 hp e8 h8 => ⟨none, [], [], rfl, e7.trans e8, e8 _ _ h7, k7.ex e8, e8 _ _ hc7, .nil, e8 _ _ hp7, .nil, h8, fun z => (by rw [z, h7] at hp; cases hp), fun z => (by rw [z, hc7] at hp; cases hp), fun z => (by rw [z, hp7] at hp; cases hp)⟩)
    (fun p i σ' H' _ ⟨_, _, _, _, _, _, _, _, _, _, _, h, _⟩ => sq_of h) ?_ ?_
  · rintro p i y σ' H' hy ⟨x7, c1, c2, rfl, eH, hs', hkA, hc', hkc, hp', hkp, hpl, n1, n2, n3⟩
    have hi256 : i < 256 := by have := (List.getElem?_eq_some_iff.mp hy).1; have := slV_len (μ := μ); omega
    obtain ⟨s, hsN, rfl, hs256⟩ := hslots hy
    have hM' := hM.keep eH
    have hb : 0 ≤ (s : Int) ∧ (s : Int) < 256 := by omega
    have hAll : AllS [pr, st] H' := (AllS.nil.dK hs').dK hp'
    refine q_dputH (a := cp) (S := [pr, st]) (k := Sum.inl (s : Int)) (dd := capD μ s) hAll hc' hkc (by rw [List.length_map, List.length_take]; omega) (look_take slN_nodup hsN) ?_ (fun H1 e => ev_dg (k := Sum.inr "caps") (ev_var rfl) ev_c (e _ _ hs') vcp) (fun H1 e => ev_var rfl) fun v H8 e8 hkc8 => ?_
    · intro S' H8 _ e8 hS
      have hM8 := hM'.keep e8
      exact eh_tupS (xs := [fld μ (s : Int) 0, fld μ (s : Int) 1, fld μ (s : Int) 2, fld μ (s : Int) 3, fld μ (s : Int) 5, fld μ (s : Int) 6]) hS (es_is (es_catA (es_U (eu_cap hM8 (ev_var rfl) (ev_var rfl) hb)) (fun H9 e9 => es_U (eu_tup (ea_cons (ev_field (s := (s : Int)) (hM8.keep e9) (ev_var rfl) (ev_var rfl) ev_c (by omega)) (ea_cons (ev_field (s := (s : Int)) (hM8.keep e9) (ev_var rfl) (ev_var rfl) ev_c (by omega)) ea_nil)) (by show 2 ≤ 100000; decide))) (by show 4 + 2 ≤ 100000; decide)) rfl)
    · rw [← map_take hsN] at hkc8
      have ns : st ≠ cp := Ne.symm nc
      have hs8 : (upd H8 cp (.dK (putK c1 (Sum.inl (s : Int)) v))) st = some (.dK kvB) := by rw [upd_ne ns]; exact e8 _ _ hs'
      have hp8 : (upd H8 cp (.dK (putK c1 (Sum.inl (s : Int)) v))) pr = some (.dK c2) := by rw [upd_ne (Ne.symm ncp)]; exact e8 _ _ hp'
      have hc8 : (upd H8 cp (.dK (putK c1 (Sum.inl (s : Int)) v))) cp = some (.dK (putK c1 (Sum.inl (s : Int)) v)) := upd_same
      have hl8 : (upd H8 cp (.dK (putK c1 (Sum.inl (s : Int)) v))) p = some (.lst (slV μ)) := by rw [upd_ne n2]; exact e8 _ _ hpl
      have eH8 : Ex H (upd H8 cp (.dK (putK c1 (Sum.inl (s : Int)) v))) := Ex.mut (eH.trans e8) (cH hcp)
      have hkA8 := (hkA.ex e8).fs (FS.put (o := .dK (putK c1 (Sum.inl (s : Int)) v)) (by simp : cp ∈ [pr, cp, st]))
      have hkp8 := (hkp.ex e8).fs (FS.put (o := .dK (putK c1 (Sum.inl (s : Int)) v)) (by simp : cp ∈ [pr, cp, st]))
      generalize upd H8 cp (.dK (putK c1 (Sum.inl (s : Int)) v)) = H9 at *
      generalize putK c1 (Sum.inl (s : Int)) v = c1' at *
      refine s_dputH (a := pr) (S := [cp, st]) (k := Sum.inl (s : Int)) (dd := oD (mayI (fld μ (s : Int) 4))) ((AllS.nil.dK hs8).dK hc8) hp8 hkp8 (by rw [List.length_map, List.length_take]; omega) (look_take slN_nodup hsN) (ei_opt (ev_pure (ea_cons (ev_field (s := (s : Int)) (hM.keep eH8) (ev_var rfl) (ev_var rfl) ev_c (by omega)) ea_nil) fun H1 e Q q => ⟨_, rfl, q⟩)) (fun H1 e => ev_dg (k := Sum.inr "parents") (ev_var rfl) ev_c (e _ _ hs8) vpr) (fun H1 e => ev_var rfl) fun v2 H10 e10 hkp10 => ?_
      rw [← map_take hsN] at hkp10
      refine ⟨_, c1', _, rfl, Ex.mut (eH8.trans e10) (cH hpr), by rw [upd_ne (Ne.symm np)]; exact e10 _ _ hs8, (hkA8.ex e10).fs (FS.put (by simp)), by rw [upd_ne ncp]; exact e10 _ _ hc8, (hkc8.ex e10).fs (FS.put (by simp)), upd_same, hkp10, by rw [upd_ne n3]; exact e10 _ _ hl8, n1, n2, n3⟩
  rintro p σ' H8 ⟨x7, c1, c2, rfl, e8, h8, kA8, hc8, kc8, hp8, kp8, _, _, _, _⟩
  have hln : (slV μ).length = (slN μ).length := by rw [slV_eq, List.length_map]
  rw [hln, List.take_length] at kc8 kp8
  obtain ⟨dsB, hdsB⟩ : ∃ dsB : List (Key × DD), dsB = dsA ++ [((Sum.inr ("caps" : Str) : Key), DD.dct ((slN μ).map fun (s : Nat) => (Sum.inl (s : Int), capD μ s))), ((Sum.inr ("parents" : Str) : Key), DD.dct ((slN μ).map fun (s : Nat) => (Sum.inl (s : Int), oD (mayI (fld μ (s : Int) 4)))))] := ⟨_, rfl⟩
  have kB8 : HDk [st] H8 kvB dsB := by
    rw [hkvB, hdsB]
    exact (kA8.weak fun a ha => by simp at ha; simp [ha]).append (.cons (.dct hc8 (by simpa using nc) (kc8.weak fun a ha => by simp at ha; simp [ha])) (.cons (.dct hp8 (by simpa using np) (kp8.weak fun a ha => by simp at ha; simp [ha])) .nil))
  have lB : dsB.length = 7 := by rw [hdsB, List.length_append, lA]; rfl
  have nB : ∀ x : Str, (x ≠ "time" ∧ x ≠ "part" ∧ x ≠ "left" ∧ x ≠ "plan" ∧ x ≠ "lines") ∧ x ≠ "caps" ∧ x ≠ "parents" → lookD (Sum.inr x) dsB = none := fun x hx => by
    rw [hdsB, hdsA]
    refine lookD_none ?_
    obtain ⟨⟨h1, h2, h3, h4, h5⟩, h6, h7⟩ := hx
    simp [Ne.symm h1, Ne.symm h2, Ne.symm h3, Ne.symm h4, Ne.symm h5, Ne.symm h6, Ne.symm h7]
  clear kA8 kc8 kp8 hc8 hp8 k7 hc7 hp7 vcp vpr hcp hpr ncp nc np
  have nb : ∀ x : Str, x ∈ (["frames", "tables", "threads", "pages", "ends", "notices", "devices", "disks", "ready"] : List Str) → lookD (Sum.inr x) dsB = none := fun x hx => by
    refine nB x ?_
    simp only [List.mem_cons, List.not_mem_nil, or_false] at hx
    rcases hx with rfl | rfl | rfl | rfl | rfl | rfl | rfl | rfl | rfl <;> decide +kernel
  have hM8 := hM.keep e8
  refine q_stH (k := Sum.inr "frames") (dd := .dct (frD μ 4 fun _ => .non)) e8 hst h8 kB8 (by rw [lB]; decide) (nb _ (by simp)) ?_ (fun H1 e => ev_var rfl) (fun H1 e => ev_c) fun H9 kv9 e9 f9 h9 k9 => ?_
  · exact ei_D fun S' H1 e1 hS => ehd_fr (fun _ => .non) hS (hM8.keep e1) (ev_var rfl) (fun x => rfl) (fun x => rfl) fun f H2 e2 hf hf32 => ei_non ev_c
  have hM9 := hM.keep e9
  refine q_stH (k := Sum.inr "tables") (dd := .dct (frD μ 3 fun f => .dct (rowsD μ (f : Int)))) e9 hst h9 k9 (by simp only [List.length_append, lB, List.length_cons, List.length_nil]; decide) (lookD_snoc (nb _ (by simp)) (by decide)) ?_ (fun H1 e => ev_var rfl) (fun H1 e => ev_c) fun H10 kv10 e10 f10 h10 k10 => ?_
  · refine ei_D fun S' H1 e1 hS => ehd_fr (fun f => .dct (rowsD μ (f : Int))) hS (hM9.keep e1) (ev_var rfl) (fun x => rfl) (fun x => rfl) fun f H2 e2 hf hf32 => ei_D fun S'' H3 e3 hS3 H4 e4 Q q => ?_
    exact (ea_cons (ev_var rfl) (ea_cons (ev_var rfl) ea_nil) : EvA _ _ H3 [.ref m, .int (f : Int)]) H4 e4 _ fun H5 e5 => ⟨m, wl, μ, (f : Int), S'', rfl, ((((hM9.keep e1).keep e2).keep e3).keep e4).keep e5, ⟨by omega, by omega⟩, (hS3.ex e4).ex e5, fun p kvs H6 hp e6 h6 hk6 => q p kvs H6 (fresh_back e5 hp) (e5.trans e6) h6 hk6⟩
  have hM10 := hM.keep e10
  refine q_stH (k := Sum.inr "threads") (dd := .dct (frD μ 5 fun f => .dct (threadD μ (f : Int)))) e10 hst h10 k10 (by simp only [List.length_append, lB, List.length_cons, List.length_nil]; decide) (lookD_snoc (lookD_snoc (nb _ (by simp)) (by decide)) (by decide)) ?_ (fun H1 e => ev_var rfl) (fun H1 e => ev_c) fun H11 kv11 e11 f11 h11 k11 => ?_
  · refine ei_D fun S' H1 e1 hS => ehd_fr (fun f => .dct (threadD μ (f : Int))) hS (hM10.keep e1) (ev_var rfl) (fun x => rfl) (fun x => rfl) fun f H2 e2 hf hf32 => ei_D fun S'' H3 e3 hS3 H4 e4 Q q => ?_
    exact (ea_cons (ev_var rfl) (ea_cons (ev_var rfl) ea_nil) : EvA _ _ H3 [.ref m, .int (f : Int)]) H4 e4 _ fun H5 e5 => ⟨m, wl, μ, (f : Int), S'', rfl, ((((hM10.keep e1).keep e2).keep e3).keep e4).keep e5, ⟨by omega, by omega⟩, (hS3.ex e4).ex e5, fun p kvs H6 hp e6 h6 hk6 => q p kvs H6 (fresh_back e5 hp) (e5.trans e6) h6 hk6⟩
  have hM11 := hM.keep e11
  refine q_stH (k := Sum.inr "pages") (dd := .dct (frD μ 2 fun f => .tup ((List.range 64).map fun (i : Nat) => .int (μ (ix (f : Int) (i : Int)))))) e11 hst h11 k11 (by simp only [List.length_append, lB, List.length_cons, List.length_nil]; decide) (lookD_snoc (lookD_snoc (lookD_snoc (nb _ (by simp)) (by decide)) (by decide)) (by decide)) ?_ (fun H1 e => ev_var rfl) (fun H1 e => ev_c) fun H12 kv12 e12 f12 h12 k12 => ?_
  · refine ei_D fun S' H1 e1 hS => ehd_fr (fun f => .tup ((List.range 64).map fun (i : Nat) => .int (μ (ix (f : Int) (i : Int))))) hS (hM11.keep e1) (ev_var rfl) (fun x => rfl) (fun x => rfl) fun f H2 e2 hf hf32 => ?_
    refine ei_is (ei_tupI (xs := (List.range 64).map fun (i : Nat) => μ (ix (f : Int) (i : Int))) fun H3 e3 Q q => ?_) (by rw [List.map_map]; rfl)
    obtain ⟨dx, dd, h1, h2⟩ := (((hM11.keep e1).keep e2).keep e3).ins
    refine ⟨_, rfl, m, dx, _, rfl, h1, rfl, (ea_cons (ev_var rfl) ea_nil : EvA _ _ H3 [.int (f : Int)]) H3 (Ex.refl _) _ fun H4 e4 => ⟨m, wl, μ, (f : Int), rfl, (((hM11.keep e1).keep e2).keep e3).keep e4, ⟨by omega, by omega⟩, fun p H5 hp e5 h5 => q p H5 (fresh_back e4 hp) (e4.trans e5) ?_⟩⟩
    rw [h5]
    unfold frameV
    rw [List.map_map]
    rfl
  obtain ⟨dsC, hdsC, k12⟩ : ∃ dsC : List (Key × DD), dsC = _ ∧ HDk [st] H12 kv12 dsC := ⟨_, rfl, k12⟩
  have lC : dsC.length = 11 := by rw [hdsC]; simp only [List.length_append, lB, List.length_cons, List.length_nil]
  have nC : ∀ x : Str, x ∈ (["ends", "notices", "devices", "disks", "ready"] : List Str) → lookD (Sum.inr x) dsC = none := fun x hx => by
    have h0 := nb x (by simp only [List.mem_cons, List.not_mem_nil, or_false] at hx; rcases hx with h | h | h | h | h <;> simp [h])
    rw [hdsC]
    simp only [List.mem_cons, List.not_mem_nil, or_false] at hx
    rcases hx with rfl | rfl | rfl | rfl | rfl <;> exact lookD_snoc (lookD_snoc (lookD_snoc (lookD_snoc h0 (by decide)) (by decide)) (by decide)) (by decide)
  clear h11 h10 h9 h8 k11 k10 k9 kB8
  -- ends, notices
  refine q_forPU (K := K) (Ps := prSts nmL) prSts_mo (by decide) (eps_cons PrSt.mo ep_st (eps_cons PrSt.mo ep_st eps_nil)) fun p vs H13 e13 hp hal => ?_
  have n3 := NamesT.of (l := nmL) hal
  have hv2 : vs.length = 2 := n3.1
  refine ⟨fun i σ' H' => ∃ x12 x13 x14 kvs', σ' = [some (.ref m), some (.ref st), some (.ref wd), none, none, some (.ref ld), none, x7, none, none, none, none, x12, x13, x14, none, none] ∧ Ex H H' ∧ H' st = some (.dK kvs') ∧ HDk [st] H' kvs' (dsC ++ (nmL.take i).map fun p => ((Sum.inr p.1 : Key), DD.dct (frD μ p.2 (onE μ eq)))) ∧ TK H13 H',
    ⟨none, none, none, kv12, rfl, e12.trans e13, e13 _ _ h12, by rw [List.take_zero, List.map_nil, List.append_nil]; exact k12.ex e13, TK.ex (Ex.refl _)⟩, fun i σ' H' _ ⟨_, _, _, _, _, _, _, _, tk⟩ => tk _ _ hp, ?_, ?_⟩
  · rintro i x σ' H' hx ⟨x12, x13, x14, kvs', rfl, eH, hs', hk', tk⟩
    have hi : i < 2 := by have := (List.getElem?_eq_some_iff.mp hx).1; omega
    have hget : nmL[i]? = some (nmL.getD i ("", 0)) := by rw [List.getD_eq_getElem?_getD, List.getElem?_eq_getElem (by exact hi)]; rfl
    obtain ⟨t, ht1, ht2⟩ := n3.2 i _ hget
    rw [ht1] at hx
    cases hx
    have hnew : lookD (Sum.inr (nmL.getD i ("", 0)).1) (dsC ++ (nmL.take i).map fun p => ((Sum.inr p.1 : Key), DD.dct (frD μ p.2 (onE μ eq)))) = none := by
      match i, hi with
      | 0, _ => rw [List.take_zero, List.map_nil, List.append_nil]; exact nC "ends" (by simp)
      | 1, _ => exact lookD_snoc (nC "notices" (by simp)) (by decide)
    have hkind : (nmL.getD i ("", 0)).2 = 6 ∨ (nmL.getD i ("", 0)).2 = 7 := by
      match i, hi with
      | 0, _ => exact .inl rfl
      | 1, _ => exact .inr rfl
    have hsucc : (dsC ++ (nmL.take (i + 1)).map fun p => ((Sum.inr p.1 : Key), DD.dct (frD μ p.2 (onE μ eq)))) = (dsC ++ (nmL.take i).map fun p => ((Sum.inr p.1 : Key), DD.dct (frD μ p.2 (onE μ eq)))) ++ [(Sum.inr (nmL.getD i ("", 0)).1, DD.dct (frD μ (nmL.getD i ("", 0)).2 (onE μ eq)))] := by
      rw [List.take_add_one, hget, List.map_append, List.append_assoc]
      rfl
    have hlen : (dsC ++ (nmL.take i).map fun p => ((Sum.inr p.1 : Key), DD.dct (frD μ p.2 (onE μ eq)))).length ≤ 1000 := by
      rw [List.length_append, lC, List.length_map, List.length_take]
      have : min i nmL.length ≤ 2 := Nat.le_trans (Nat.min_le_left _ _) (by omega)
      omega
    generalize (dsC ++ (nmL.take i).map fun p => ((Sum.inr p.1 : Key), DD.dct (frD μ p.2 (onE μ eq)))) = dsi at hk' hnew hlen hsucc
    clear hget ht1
    refine ⟨t, _, rfl, st_of (tk _ _ ht2), rfl, _, _, rfl, _, _, rfl, rfl, ?_⟩
    clear ht2
    generalize (nmL.getD i ("", 0)).1 = nm at *
    generalize (nmL.getD i ("", 0)).2 = kd at *
    refine q_stO (k := Sum.inr nm) eH hst hs' hk' hlen hnew (fun H1 e => ev_var rfl) (fun H1 e => ev_var rfl) fun q H14 hq e14 f14 h14 k14 hq14 => ?_
    have hM14 := hM.keep e14
    have nqs : q ≠ st := fun z => by rw [z, hs'] at hq; cases hq
    have vq := valV_end (v := V.ref q) (hk'.none hnew)
    have hfrs : ∀ {j : Nat} {y : V}, (framesV μ kd)[j]? = some y → ∃ f : Nat, (fr μ kd)[j]? = some f ∧ y = .int (f : Int) ∧ f < 32 ∧ μ (ix 1 (f : Int)) = kd := fun {j y} h => by
      rw [framesV_eq, List.getElem?_map] at h
      cases e : (fr μ kd)[j]? with
      | none => rw [e] at h; cases h
      | some f =>
        rw [e] at h
        have := fr_lt (List.mem_of_getElem? e)
        exact ⟨f, rfl, (Option.some.inj h).symm, this.1, this.2⟩
    have tk14 : TK H13 H14 := fun b xs hb => f14 _ _ (tk _ _ hb) (by simpa using ne_of (tk _ _ hb) hs' (by intro z; cases z))
    refine s_forNL (K := K) (xs := framesV μ kd) (fun H1 e Q qq => ⟨_, rfl, _, rfl, m, wl, μ, kd, rfl, hM14.keep e, fun p H2 hp e2 h2 => qq p H2 hp e2 h2⟩)
      (fun pp j σ' H' => ∃ x14 c, σ' = [some (.ref m), some (.ref st), some (.ref wd), none, none, some (.ref ld), none, x7, none, none, none, none, some (.str nm), some (.int kd), x14, none, none] ∧ Ex H H' ∧ H' st = some (.dK (kvs' ++ [(Sum.inr nm, .ref q)])) ∧ HDk [q, st] H' kvs' dsi ∧ H' q = some (.dK c) ∧ HDk [q, st] H' c (((fr μ kd).take j).map fun (f : Nat) => (Sum.inl (f : Int), onE μ eq f)) ∧ H' pp = some (.lst (framesV μ kd)) ∧ pp ≠ q ∧ TK H13 H')
      (fun pp H1 hpp e h => ⟨x14, [], rfl, e14.trans e, e _ _ h14, k14.ex e, e _ _ hq14, .nil, h, fun z => (by rw [z, hq14] at hpp; cases hpp), tk14.trans (TK.ex e)⟩) (fun pp i σ' H' _ ⟨_, _, _, _, _, _, _, _, h, _⟩ => sq_of h) ?_ ?_
    · rintro pp j y σ' H' hy ⟨x14', c, rfl, eH', hs14, hk14, hqc, hkc, hpp, npq, tk'⟩
      obtain ⟨f, hfj, rfl, hf32, hfk⟩ := hfrs hy
      have hj32 : j < 32 := by have := (List.getElem?_eq_some_iff.mp hfj).1; have := fr_len (μ := μ) (k := kd); omega
      obtain ⟨hseg, hsl⟩ := hA.eq_ f hf32 (by rw [hfk]; exact hkind)
      have hM' := hM.keep eH'
      refine s_dputH (a := q) (S := [st]) (k := Sum.inl (f : Int)) (dd := onE μ eq f) (AllS.nil.dK hs14) hqc hkc (by rw [List.length_map, List.length_take]; omega) (look_take (List.Pairwise.filter _ List.nodup_range) hfj) ?_ (fun H1 e => ev_dg (k := Sum.inr nm) (ev_var rfl) (ev_var rfl) (e _ _ hs14) vq) (fun H1 e => ev_var rfl) fun v H15 e15 hk15 => ?_
      · refine ei_tup (fun S' H15 e15 hS => ehs_cons (eh_int (ev_word (hM'.keep e15) (ev_var rfl) (ev_var rfl) ev_c (by omega))) (ehs_cons (eh_tupI hS (eu_tupNL (K := K) fun H16 e16 Q qq => ?_)) ehs_nil)) (by show 2 ≤ 100000; decide)
        have hMq := (hM'.keep e15).keep e16
        refine ⟨_, rfl, ?_⟩
        refine (eu_tup (ea_cons (ev_var rfl) (ea_cons ev_c (ea_cons ev_c ea_nil))) (by show 3 ≤ 100000; decide) : EvU _ _ H16 [.int (f : Int), .int 1, .int 2]) H16 (Ex.refl H16) _ fun pl H17 hpl e17 h17 => ?_
        exact ⟨m, wl, pl, μ, (f : Int), 1, 2, eq f, rfl, hMq.keep e17, h17, by omega, hseg, hsl, fun p H18 hp e18 h18 => qq p H18 (fresh_back e17 hp) (e17.trans e18) h18⟩
      · rw [← map_take hfj] at hk15
        refine ⟨_, _, rfl, Ex.mut (eH'.trans e15) (fresh_back eH hq), by rw [upd_ne (Ne.symm nqs)]; exact e15 _ _ hs14, (hk14.ex e15).fs (FS.put (by simp)), upd_same, hk15, by rw [upd_ne npq]; exact e15 _ _ hpp, npq, fun b xs hb => ?_⟩
        have := e15 _ _ (tk' _ _ hb)
        rw [upd_ne (ne_of this (e15 _ _ hqc) (by intro z; cases z))]
        exact this
    · rintro pp σ' H15 ⟨x14', c, rfl, eH', hs14, hk14, hqc, hkc, hpp, npq, tk'⟩
      have hfl : (framesV μ kd).length = (fr μ kd).length := by rw [framesV_eq, List.length_map]
      rw [hfl, List.take_length] at hkc
      exact ⟨_, _, _, _, rfl, eH', hs14, by rw [hsucc]; exact hd_close nqs hk14 hqc hkc, tk'⟩
  rintro σ' H16 ⟨x12, x13, x14, kv16, rfl, e16, h16, k16, _⟩
  rw [hv2] at k16
  obtain ⟨dsD, hdsD, k16⟩ : ∃ dsD : List (Key × DD), dsD = _ ∧ HDk [st] H16 kv16 dsD := ⟨_, rfl, k16⟩
  have lD : dsD.length = 13 := by rw [hdsD, List.length_append, lC]; rfl
  have nD : ∀ x : Str, x ∈ (["devices", "disks", "ready"] : List Str) → lookD (Sum.inr x) dsD = none := fun x hx => by
    have h0 := nC x (by simp only [List.mem_cons, List.not_mem_nil, or_false] at hx; rcases hx with h | h | h <;> simp [h])
    rw [hdsD]
    simp only [List.mem_cons, List.not_mem_nil, or_false] at hx
    rcases hx with rfl | rfl | rfl <;> exact lookD_app h0 rfl
  have hM16 := hM.keep e16
  refine q_stH (k := Sum.inr "devices") (dd := .dct []) e16 hst h16 k16 (by rw [lD]; decide) (nD _ (by simp)) ?_ (fun H1 e => ev_var rfl) (fun H1 e => ev_c) fun H17 kv17 e17 f17 h17 k17 => ?_
  · refine ei_is (ei_D fun S' H1 e1 hS => ehd_fr (μ := μ) (kd := 8) (fun _ => .non) hS (hM16.keep e1) (ev_var rfl) (fun x => rfl) (fun x => rfl) fun f H2 e2 hf hf32 => ?_) ?_
    · rw [hA.dev] at hf; cases hf
    · unfold frD; rw [hA.dev]; rfl
  have hM17 := hM.keep e17
  refine q_stH (k := Sum.inr "disks") (dd := .dct []) e17 hst h17 k17 (by rw [List.length_append, lD]; decide) (lookD_snoc (nD _ (by simp)) (by decide)) ?_ (fun H1 e => ev_var rfl) (fun H1 e => ev_c) fun H18 kv18 e18 f18 h18 k18 => ?_
  · refine ei_D fun S' H1 e1 hS => ehd_NL (K := K) (xs := []) (fun _ => Sum.inl 0) (fun _ => true) (fun _ => .non) hS (fun H2 e2 Q qq => ?_) (by decide) (fun i j hi _ _ => by cases hi) (fun x => rfl) fun i y H2 e2 hy => by cases hy
    have e02 := (e17.trans e1).trans e2
    exact ⟨_, rfl, m, dxm, _, rfl, e02 _ _ hmI, rfl, m, wl, dxm, ddm, rfl, e02 _ _ hmI, e02 _ _ hdd, fun p H3 hp e3 h3 => qq p H3 hp e3 h3⟩
  refine q_stO (k := Sum.inr "ready") e18 hst h18 k18 (by rw [List.length_append, List.length_append, lD]; decide) (lookD_snoc (lookD_snoc (nD _ (by simp)) (by decide)) (by decide)) (fun H1 e => ev_var rfl) (fun H1 e => ev_c) fun rd H19 hrd e19 f19 h19 k19 hrd19 => ?_
  obtain ⟨kvR, hkvR, h19⟩ : ∃ kvR : List (Key × V), kvR = _ ∧ H19 st = some (.dK kvR) := ⟨_, rfl, h19⟩
  obtain ⟨dsE, hdsE, k19⟩ : ∃ dsE : List (Key × DD), dsE = _ ∧ HDk [rd, st] H19 kv18 dsE := ⟨_, rfl, k19⟩
  have nrd : rd ≠ st := fun z => by rw [z, h18] at hrd; cases hrd
  have vr := valV_end (v := V.ref rd) (k18.none (lookD_snoc (lookD_snoc (nD "ready" (by simp)) (by decide)) (by decide)))
  rw [← hkvR] at vr
  refine KA.q_forR1 (j := 2 * 4) (ea_cons (ev_op ev_c ev_c (rv_I (.inr ⟨by decide, by decide⟩))) ea_nil) (by decide) (fun i σ' H' => ∃ x3 x16 kr, σ' = [some (.ref m), some (.ref st), some (.ref wd), x3, none, some (.ref ld), none, x7, none, none, none, none, x12, x13, x14, none, x16] ∧ Ex H H' ∧ H' st = some (.dK kvR) ∧ HDk [rd, st] H' kv18 dsE ∧ H' rd = some (.dK kr) ∧ HDk [rd, st] H' kr (givK i (fun n => !(rq n).isEmpty) (fun n => Sum.inl (n : Int)) fun n => .tup ((rq n).map DD.int)))
    (fun H20 e20 => ⟨none, none, [], rfl, e19.trans e20, e20 _ _ h19, k19.ex e20, e20 _ _ hrd19, .nil⟩) ?_ ?_
  · rintro i σ' H' hi ⟨x3, x16, kr, rfl, eH, hs', kA', hr', hkr⟩
    have hi8 : i < 8 := by omega
    obtain ⟨hq, hql⟩ := hA.rq_ i hi8
    have hM' := hM.keep eH
    refine q_asgU (xs := (rq i).map V.int) (eu_tupNL (K := K) ?_) fun rw_ H20 hrw e20 h20 => ?_
    · intro H1 e1 Q qq
      have hMq := hM'.keep e1
      refine ⟨_, rfl, ?_⟩
      refine (eu_tup (ea_cons ev_c (ea_cons (ev_op ev_c (ev_var rfl) rv_I0) (ea_cons (ev_op ev_c (ev_var rfl) rv_I0) ea_nil))) (by show 3 ≤ 100000; decide) : EvU _ _ H1 [.int 0, .int (4 + (0 + (i : Int))), .int (12 + (0 + (i : Int)))]) H1 (Ex.refl H1) _ fun pl H2 hpl e2 h2 => ?_
      exact ⟨m, wl, pl, μ, 0, 4 + (0 + (i : Int)), 12 + (0 + (i : Int)), rq i, rfl, hMq.keep e2, h2, by omega, by rw [Int.zero_add]; exact hq, hql, fun p H3 hp e3 h3 => qq p H3 (fresh_back e2 hp) (e2.trans e3) h3⟩
    refine s_when (et_truT (K := K) (ev_var rfl) (st_of h20)) (fun hb H21 e21 => ?_) (fun hb H21 e21 => ?_)
    · have e2021 := e20.trans e21
      have hf : (!(rq i).isEmpty) = true := by rw [← hb]; cases rq i <;> rfl
      have h0 : (Sum.inl (0 + (i : Int)) : Key) = Sum.inl (i : Int) := by rw [Int.zero_add]
      refine s_dputH (a := rd) (S := [st]) (k := Sum.inl (i : Int)) (dd := .tup ((rq i).map DD.int)) (AllS.nil.dK (e2021 _ _ hs')) (e2021 _ _ hr') (hkr.ex e2021) (by have := givK_len (n := i) (f := fun n => !(rq n).isEmpty) (key := fun n => Sum.inl (n : Int)) (d := fun n => DD.tup ((rq n).map DD.int)); omega) givK_new (fun S' H22 _ e22 hS => eh_tupS hS (es_ev (ev_var rfl) (e22 _ _ (e21 _ _ h20)))) (fun H1 e => ev_dg (k := Sum.inr "ready") (ev_var rfl) ev_c (e _ _ (e2021 _ _ hs')) vr) (fun H1 e => ev_is (ev_var rfl) (by rw [Int.zero_add]; rfl)) fun v H22 e22 hk22 => ?_
      rw [← givK_yes (f := fun n => !(rq n).isEmpty) hf] at hk22
      refine ⟨_, _, _, rfl, Ex.mut ((eH.trans e2021).trans e22) (fresh_back e18 hrd), by rw [upd_ne (Ne.symm nrd)]; exact e22 _ _ (e2021 _ _ hs'), ((kA'.ex e2021).ex e22).fs (FS.put (by simp)), upd_same, hk22⟩
    · have e2021 := e20.trans e21
      have hf : (!(rq i).isEmpty) = false := by rw [← hb]; cases rq i <;> rfl
      exact ⟨_, _, kr, rfl, eH.trans e2021, e2021 _ _ hs', kA'.ex e2021, e2021 _ _ hr', by rw [givK_no (f := fun n => !(rq n).isEmpty) hf]; exact hkr.ex e2021⟩
  rintro σ' H20 ⟨x3, x16, kr, rfl, e20, hs20, kA20, hr20, hkr20⟩
  have kfin := hd_close (k := Sum.inr "ready") nrd kA20 hr20 hkr20
  rw [← hkvR] at kfin
  refine s_ret (ev_var rfl) fun H21 e21 => k st _ H21 hst (e20.trans e21) (e21 _ _ hs20) ?_
  rw [hdsE, hdsD, hdsC, hdsB, hdsA] at kfin
  exact kfin.ex e21
end
end KX

namespace KX
open KA KQ
open PySem PySem.Spec PyProof.Rows L2 Evl TL
/-! ### d.get(None) -/
theorem leaf_map {P : Program} {w : World} {h : Heap} {a : Addr} {vs : List (Key × Value)} (d : h.DictOf (mixKind P w) a vs) : ∃ f, h.MapOf (leafKind P w) a f ∧ f Leaf.none = none := by
  obtain ⟨o, es, ep, ho, hx, hd, hk, _, _⟩ := d
  refine ⟨findBy (leafKind P w).is es, ⟨o, es, ep, ho, hx, hd, fun e he => ?_, fun k => rfl⟩, ?_⟩
  · obtain ⟨k, h1, h2⟩ := hk e he
    rcases keyIs_shape (show keyIs k e.key = true from h1) with ⟨i, t, rfl, e1⟩ | ⟨x, t, rfl, e1⟩
    · refine ⟨Leaf.num i, ?_, h2⟩
      rw [e1]
      exact decide_eq_true rfl
    · refine ⟨Leaf.text x, ?_, h2⟩
      rw [e1]
      exact keyIs_str x t
  · unfold findBy
    have : (es.find? fun e => (leafKind P w).is Leaf.none e.key) = none := by
      rw [Array.find?_eq_none]
      intro e he hh
      obtain ⟨k, h1, h2⟩ := hk e he
      rcases keyIs_shape (show keyIs k e.key = true from h1) with ⟨i, t, rfl, e1⟩ | ⟨x, t, rfl, e1⟩ <;> (rw [e1] at hh; cases hh)
    rw [this]
    rfl
section
variable {X : Cx} {pins : List (Addr × Obj)} {σ : L2.St} {H : Hp} {s : Shared} {a : Addr} {A : Around} {E : Value → Shared → Prop}
theorem d_getN {kvs : List (Key × V)} {Q : Value → Shared → Prop} (I : Inv X pins σ H s) (e : Rd H a (.dK kvs)) (h : ∀ s', Inv X pins σ H s' → Q .none s') : wpAny (model X.prog X.w) A (call (.builtin "dict.get") [.ref a, .none]) Q E s := by
  obtain ⟨z, hd, vs, rel, dd⟩ := dk_rd I.hok e
  obtain ⟨f, hf, fn⟩ := leaf_map dd
  refine call_meetsIn PySem.F.slot_dict_get dd.typeIs PySem.F.entry_dict_get (PySem.F.args_dict_get_2 _ _) (meets_dict_get (leafKind X.prog X.w) a (k := Leaf.none) rfl hd) ⟨f, hf, ?_⟩
  rw [fn]
  exact h _ (I.tok _)
end
/-- d.get(y), y a key or None -/
def tDGetN (td ty : TE) : TE := fun σ H Q => td σ H fun x H1 => ∃ a, x = .ref a ∧ IsD H1 a ∧ ty σ H1 fun y H2 => (y = .non ∧ (∃ kvs, Rd H2 a (.dK kvs)) ∧ Q .non H2) ∨ ∃ o, DGet H2 a y o ∧ Q (o.getD .non) H2
section
variable {X : Cx} {o e : Expr} {apos cpos : Pos} {td ty : TE}
theorem pe_dgetN (hu : X.A.units + 1 < cLine) (ho : PE X o td) (he : PE X e ty) (m : M1 X o "get" apos e cpos) : PE X (.Call (.Attribute o "get" apos) [e] [] cpos) (tDGetN td ty) := by
  refine ⟨fun pins s σ H Q I h => ?_⟩
  refine wpAny_Call_method m.base m.few m.line PySem.F.plainAttrs_dict PySem.F.slot_dict_get PySem.F.type_dict_get (thn (ho.run pins s σ H _ I h) fun u s1 ⟨x, H1, I1, rx, a, ex, d, q1⟩ => ?_)
  subst ex
  obtain rfl : u = Value.ref a := rx
  obtain ⟨t1, t2, _⟩ := isD_at I1 d
  refine ⟨t1, t2, ?_⟩
  rw [m.trees]
  refine Calls.callWith_builtin rfl (Calls.evalArgs_plain (Calls.spliced_cons (thn (he.run pins s1 σ H1 _ I1 q1) fun iv s2 ⟨y, H2, I2, ry, q2⟩ => Calls.spliced_nil ?_)))
  rcases q2 with ⟨rfl, ⟨kvs, hk⟩, q2⟩ | ⟨ov, g, q2⟩
  · obtain rfl : iv = Value.none := ry
    exact d_getN I2 hk fun s3 I3 => ⟨.non, H2, I3, rfl, q2⟩
  · exact d_get1 hu I2 g ry fun w' s3 I3 rw' => ⟨_, H2, I3, rw', q2⟩
end
/-! ### list(d.values()) -/
def tListVals (te : TE) : TE := fun σ H Q => te σ H fun x H1 => ∃ (d : Addr) (kvs : List (Key × V)), x = .ref d ∧ H1 d = some (.dK kvs) ∧ ∀ p, H1 p = none → Q (.ref p) (upd H1 p (.lst (kvs.map (·.2))))
theorem kv_vals : ∀ {kvs : List (Key × V)} {vs : List (Key × Value)}, KV kvs vs → Vals (kvs.map (·.2)) (vs.map (·.2)) := by
  intro kvs vs h
  unfold KV at h
  induction h with
  | nil => exact .nil
  | cons h _ ih => exact .cons h.2 ih
section
variable {X : Cx} {e : Expr} {te : TE} {p apos cpos pos : Pos}
theorem pe_listValues (hc : X.calm = true) (he : PE X e te) (hg : Gl X "list") (hm : X.mg "list" = none) (hv : bootBuiltins "list" = some (.type "list")) (hbase : attributeBase e "values" X.env (eval e X.env) = eval e X.env := by rfl) (hline : (apos.endLine == cpos.line) = true := by rfl)
    (hs : starEach [.Call (.Attribute e "values" apos) [] [] cpos] X.env = (false, eval (.Call (.Attribute e "values" apos) [] [] cpos) X.env) :: starEach [] X.env := by rfl) :
    PE X (.Call (.Name "list" p) [.Call (.Attribute e "values" apos) [] [] cpos] [] pos) (tListVals te) := by
  refine ⟨fun pins s σ H Q I hq => ?_⟩
  refine wpAny_Call_Name_kw (ld_blt I hg hm hv ?_)
  refine PyProof.Rows.callWith_type1 ?_ hs rfl
  rw [hs]
  show wpAny _ _ (spliced ((false, eval (.Call (.Attribute e "values" apos) [] [] cpos) X.env) :: backTo pos (starEach [] X.env))) _ _ s
  refine Calls.spliced_cons ?_
  refine wpAny_Call_method (T := "dict") (id := "dict.values") hbase rfl hline F.plainAttrs_dict F.slot_dict_values F.type_dict_values (thn (he.run pins s σ H _ I hq) fun u s1 ⟨x, H1, I1, rx, d, kvs, ex, hd, q⟩ => ?_)
  subst ex
  obtain rfl : u = Value.ref d := rx
  obtain ⟨hz, hs0, vs, kv, hdo⟩ := I1.hok d _ hd
  obtain ⟨ep, hat⟩ := hdo.dictAt
  have lk : kvs.length = vs.length := Paired.length kv
  have I2 : Inv X pins σ H1 { s1 with heap := s1.heap.push { cls := .type "dict_values", data := .fields #[.ref d] } } := I1.kept (t' := s1.toks) fun b ob q => Heap.get?_push_of_some _ q
  refine ⟨hdo.typeIs, hdo.mapOf.noDict, ?_⟩
  show wpAny _ _ (callWith cpos (.builtin "dict.values") [.ref d] [] []) _ X.xe s1
  refine method_meetsIn F.slot_dict_values F.entry_dict_values rfl (PySem.evalArgs_none ⟨rfl, hdo.typeIs, F.args_dict_values_1 _, _, meets_dict_values (mixKind X.prog X.w) d hs0, ⟨vs, hdo⟩, ?_⟩)
  refine Calls.spliced_nil ?_
  refine PySem.W.kdl_call (PySem.W.kdl_values (knd := mixKind X.prog X.w) (kvs := vs) (ep := ep)) (I1.ok.hd hc) ⟨⟨_, Heap.get?_push_size _ rfl, rfl, rfl⟩, hat.push _⟩ (by omega) fun h' tk acc c hk hS hacc => ?_
  have ea : acc.toList = vs.map (·.2) := PySem.W.kdl_vals_eq _ (by rw [Array.length_toList]; exact hacc.1) fun j v e => hacc.2 j v (by rw [← Array.getElem?_toList]; exact e)
  have hf : H1 { s1 with heap := s1.heap.push { cls := .type "dict_values", data := .fields #[.ref d] } }.heap.objs.size = none := I2.hok.fresh (Nat.le_refl _)
  refine ⟨.ref _, _, I2.laid (t' := tk) (o := .lst (kvs.map (·.2))) hk (Nat.le_refl _) ?_, rfl, q _ hf⟩
  exact ⟨by rw [List.length_map]; omega, vs.map (·.2), c, kv_vals kv, by rw [← ea]; simpa using hS⟩
end
end KX

namespace KD
open KA
open PySem PySem.Spec PyProof.Rows L2 Evl TL
/-! ### the law's tape: a dict; each draw is some number below what is asked -/
def tapeKV (ca : Addr) (at_ left seed salt : Int) : List (Key × V) := [(.inr "cells", .ref ca), (.inr "at", .int at_), (.inr "left", .int left), (.inr "seed", .int seed), (.inr "salt", .int salt)]
structure TapeAt (H : Hp) (d ca : Addr) : Prop where
  ex : ∃ (cs : List Int) (at_ : Nat) (left seed salt : Int), H d = some (.dK (tapeKV ca at_ left seed salt)) ∧ H ca = some (.lst (cs.map V.int)) ∧ (∀ c ∈ cs, 0 ≤ c) ∧ 0 ≤ left ∧ 0 ≤ seed ∧ seed < 2147483647
theorem TapeAt.keep {H H' : Hp} {d ca : Addr} (h : TapeAt H d ca) (k : ∀ b o, H b = some o → H' b = some o) : TapeAt H' d ca := by
  obtain ⟨cs, at_, left, seed, salt, h1, h2, h3⟩ := h.ex
  exact ⟨⟨cs, at_, left, seed, salt, k _ _ h1, k _ _ h2, h3⟩⟩
section
variable (ca : Addr) (a b c e : Int) (x : V)
theorem tk_cells : valV (tapeKV ca a b c e) (Sum.inr "cells" : Key) = some (.ref ca) := by rfl
theorem tk_at : valV (tapeKV ca a b c e) (Sum.inr "at" : Key) = some (.int a) := by rfl
theorem tk_left : valV (tapeKV ca a b c e) (Sum.inr "left" : Key) = some (.int b) := by rfl
theorem tk_seed : valV (tapeKV ca a b c e) (Sum.inr "seed" : Key) = some (.int c) := by rfl
theorem tk_salt : valV (tapeKV ca a b c e) (Sum.inr "salt" : Key) = some (.int e) := by rfl
theorem tp_at (i : Int) : putK (tapeKV ca a b c e) (Sum.inr "at" : Key) (.int i) = tapeKV ca i b c e := by rfl
theorem tp_left (i : Int) : putK (tapeKV ca a b c e) (Sum.inr "left" : Key) (.int i) = tapeKV ca a i c e := by rfl
theorem tp_salt (i : Int) : putK (tapeKV ca a b c e) (Sum.inr "salt" : Key) (.int i) = tapeKV ca a b c i := by rfl
end
theorem TapeAt.there {H : Hp} {d ca : Addr} (h : TapeAt H d ca) : (∃ o, H d = some o) ∧ ∃ o, H ca = some o := by
  obtain ⟨cs, at_, left, seed, salt, h1, h2, h3⟩ := h.ex
  exact ⟨⟨_, h1⟩, _, h2⟩
theorem TapeAt.upd {H : Hp} {d ca l : Addr} {o : HO} (h : TapeAt H d ca) (n1 : l ≠ d) (n2 : l ≠ ca) : TapeAt (L2.upd H l o) d ca := by
  obtain ⟨cs, at_, left, seed, salt, h1, h2, h3⟩ := h.ex
  exact ⟨⟨cs, at_, left, seed, salt, by rw [upd_ne (Ne.symm n1)]; exact h1, by rw [upd_ne (Ne.symm n2)]; exact h2, h3⟩⟩
theorem TapeAt.ne {H : Hp} {d ca l : Addr} (h : TapeAt H d ca) (hl : H l = none) : l ≠ d ∧ l ≠ ca := by
  obtain ⟨⟨o, h1⟩, o', h2⟩ := h.there
  exact ⟨fun z => (by rw [z, h1] at hl; cases hl), fun z => (by rw [z, h2] at hl; cases hl)⟩
/-- all stands but d -/
def FrD (d : Addr) (H H' : Hp) : Prop := ∀ b o, H b = some o → b ≠ d → H' b = some o
theorem FrD.of {d : Addr} {H H' : Hp} (e : Ex H H') : FrD d H H' := fun b o h _ => e b o h
theorem FrD.trans {d : Addr} {H H1 H2 : Hp} (a : FrD d H H1) (b : FrD d H1 H2) : FrD d H H2 := fun c o h n => b c o (a c o h n) n
theorem FrD.upd {d : Addr} {H H' : Hp} {o : HO} (a : FrD d H H') : FrD d H (L2.upd H' d o) := fun b u h n => by rw [upd_ne n]; exact a b u h n
theorem FrD.put {d : Addr} {H : Hp} {o : HO} : FrD d H (L2.upd H d o) := fun b u h n => by rw [upd_ne n]; exact h
section
variable {σ : L2.St} {H : Hp} {K : PySem.W.Frag} {D : Ends}
theorem ev_dget {td : TE} {d : Addr} {kvs : List (Key × V)} {k : Key} {v : V} (hd : Ev td σ H (.ref d)) (h : H d = some (.dK kvs)) (e : valV kvs k = some v) : Ev (tDGet td (tC (kV k))) σ H v := fun H1 x Q q =>
  hd H1 x _ fun H2 x2 => ⟨d, v, rfl, e ▸ DGet.k (x2 _ _ (x _ _ h)), q H2 x2⟩
theorem q_dput {td tv : TE} {tz : TS} {d : Addr} {kvs : List (Key × V)} {k : Key} {v : V} (hv : Ev tv σ H v) (hd : Ev td σ H (.ref d)) (h : H d = some (.dK kvs)) (hl : kvs.length < 1000) (kk : ∀ H1, Ex H H1 → tz D σ (upd H1 d (.dK (putK kvs k v)))) :
    tSeq (sDPut td (tC (kV k)) tv) tz D σ H := hv H (Ex.refl H) _ fun H1 e1 => hd H1 e1 _ fun H2 e2 => ⟨d, _, rfl, DPut.k ((e1.trans e2) _ _ h) (by show kvs.length < sizeLine; exact Nat.lt_of_lt_of_le hl (by decide)), kk H2 (e1.trans e2)⟩
theorem s_dput {td tv : TE} {d : Addr} {kvs : List (Key × V)} {k : Key} {v : V} (hv : Ev tv σ H v) (hd : Ev td σ H (.ref d)) (h : H d = some (.dK kvs)) (hl : kvs.length < 1000) (kk : ∀ H1, Ex H H1 → D.nx σ (upd H1 d (.dK (putK kvs k v)))) :
    sDPut td (tC (kV k)) tv D σ H := hv H (Ex.refl H) _ fun H1 e1 => hd H1 e1 _ fun H2 e2 => ⟨d, _, rfl, DPut.k ((e1.trans e2) _ _ h) (by show kvs.length < sizeLine; exact Nat.lt_of_lt_of_le hl (by decide)), kk H2 (e1.trans e2)⟩
theorem ev_int1 {ta : TE} {i : Int} (ha : Ev ta σ H (.int i)) : Ev (tCB (fun xs H Q => (∃ i, xs = [.int i] ∧ Q (.int i) H) ∨ ∃ k, xs = [.bl k] ∧ Q (.int (if k then 1 else 0)) H) (tCons ta tNil)) σ H (.int i) := fun H1 e Q q =>
  ha H1 e _ fun H2 e2 => .inl ⟨i, rfl, q H2 e2⟩
theorem ev_lenL' {p : Addr} {xs : List V} {ta : TE} (ha : Ev ta σ H (.ref p)) (h : SqL K H p xs) : Ev (tCB (fun xs H Q => ∃ x n, xs = [x] ∧ LenV K x H n ∧ Q (.int n) H) (tCons ta tNil)) σ H (.int (xs.length : Int)) := fun H1 e Q q =>
  ha H1 e _ fun H2 e2 => ⟨_, xs.length, rfl, .inl ⟨_, ex_l (e.trans e2) h, rfl⟩, q H2 e2⟩
theorem ev_abs {ta : TE} {i : Int} (ha : Ev ta σ H (.int i)) : Ev (tCB (fun xs H Q => ∃ i : Int, xs = [.int i] ∧ Q (.int (if i < 0 then -i else i)) H) (tCons ta tNil)) σ H (.int (if i < 0 then -i else i)) := fun H1 e Q q =>
  ha H1 e _ fun H2 e2 => ⟨i, rfl, q H2 e2⟩
end
section
variable {P : Program} {w : World} {K : PySem.W.Frag} {mg : Str → Option Value} {base : Heap}
def sp_law_take : Sp := fun vs H Q _ => ∃ (d ca : Addr) (many : Int), vs = [.ref d, .int many] ∧ TapeAt H d ca ∧ 0 < many ∧ many < 1073741824 ∧ ∀ (v : Int) (H' : Hp), 0 ≤ v → v < many → TapeAt H' d ca → FrD d H H' → Q (.int v) H'
theorem ok_law_take (T : Txt K mg) : FnOk P w K mg base CX0 1 (f_law_take K) (fd_law_take K) ["tape", "many"] sp_law_take := by
  refine T.fn_law_take.ok sc_law_take (fun vs H Q E h => ?_) (fun cdv A outer s H vs Q E hr h => ?_)
  · obtain ⟨_, _, _, rfl, _⟩ := h
    rfl
  have hu := hu_of hr
  refine ⟨_, PSs.nox (pss_cut (ps_if (PW.pt (pw_and (pt_cmpR op_eq (pe_dget hu (pv 0) pe_str (fun _ _ => rfl)) pe_int (nomark _)) (pw_and1 (pt_cmpR op_lt (pe_dget hu (pv 0) pe_str (fun _ _ => rfl)) (pe_callB call_len (by rfl) T.free_len PySem.boot_len (pa_cons (pe_dget hu (pv 0) pe_str (fun _ _ => rfl)) pa_nil)) (nomark _))))) (pss_cons (ps_dput hu (pv 0) pe_str (pe_ix ix_list (pe_dget hu (pv 0) pe_str (fun _ _ => rfl)) (pe_dget hu (pv 0) pe_str (fun _ _ => rfl)) (fun _ _ => rfl)) rfl) (pss_one (ps_dput hu (pv 0) pe_str (pe_op op_add (pe_dget hu (pv 0) pe_str (fun _ _ => rfl)) pe_int) rfl))) pss_nil) (pss_cons (ps_if (pt_cmpR op_gt (pe_dget hu (pv 0) pe_str (fun _ _ => rfl)) pe_int (nomark _)) (pss_cons (ps_set (i := 2) sc_law_take.nd rfl (Or.inl rfl) (pe_op op_mod (pe_callTy call_int1 (by rfl) T.free_int (by decide +kernel) (pa_cons (pe_dget hu (pv 0) pe_str (fun _ _ => rfl)) pa_nil)) (pv 1))) (pss_cons (ps_dput hu (pv 0) pe_str (pe_op op_fdiv (pe_dget hu (pv 0) pe_str (fun _ _ => rfl)) (pv 1)) rfl) (pss_one (ps_ret (pv 2))))) pss_nil) (pss_cons (ps_dput hu (pv 0) pe_str (pe_op op_add (pe_dget hu (pv 0) pe_str (fun _ _ => rfl)) pe_int) rfl) (pss_cons (ps_set (i := 3) sc_law_take.nd rfl (Or.inl rfl) (pe_op op_mod (pe_callTy call_int1 (by rfl) T.free_int (by decide +kernel) (pa_cons (pe_op op_add (pe_op op_mul (pe_dget hu (pv 0) pe_str (fun _ _ => rfl)) pe_int) (pe_op op_mul (pe_dget hu (pv 0) pe_str (fun _ _ => rfl)) pe_int)) pa_nil)) pe_int)) (pss_cons (ps_set (i := 3) sc_law_take.nd rfl (Or.inl rfl) (pe_op op_mod (pe_callTy call_int1 (by rfl) T.free_int (by decide +kernel) (pa_cons (pe_op op_add (pe_op op_add (pe_op op_mul (pv 3) (pv 3)) (pe_op op_mul (pe_dget hu (pv 0) pe_str (fun _ _ => rfl)) pe_int)) pe_int) pa_nil)) pe_int)) (pss_one (ps_ret (pe_op op_mod (pe_callTy call_int1 (by rfl) T.free_int (by decide +kernel) (pa_cons (pv 3) pa_nil)) (pv 1))))))))), ?_⟩
  obtain ⟨d, ca, many, rfl, ⟨cs, at_, left, seed, salt, h1, h2, hcs, hl0, hs0, hs1⟩, hm0, hm1, k⟩ := h
  have nca : ca ≠ d := ne_of h2 h1 (by intro z; cases z)
  refine q_cut (M := fun σ' H1 => σ' = L2.start sc_law_take_N [V.ref d, V.int many] ∧ ∃ (at2 : Nat) (left2 : Int), FrD d H H1 ∧ H1 d = some (.dK (tapeKV ca at2 left2 seed salt)) ∧ 0 ≤ left2) ?_ ?_
  · refine s_when (b := decide (V.int left = V.int 0) && decide ((at_ : Int) < (((cs.map V.int).length : Nat) : Int))) (et_and (et_test (ev_op (ev_dget (k := .inr "left") (ev_var rfl) h1 (tk_left ..)) ev_c (rv_eq rfl))) fun _ => et_test (ev_op (ev_dget (k := .inr "at") (ev_var rfl) h1 (tk_at ..)) (ev_lenL' (ev_dget (k := .inr "cells") (ev_var rfl) h1 (tk_cells ..)) (sq_of h2)) rv_I0)) (fun hb H1 e1 => ?_) (fun hb H1 e1 => ⟨rfl, at_, left, FrD.of e1, e1 _ _ h1, hl0⟩)
    simp only [Bool.and_eq_true, decide_eq_true_eq, List.length_map] at hb
    have hlt : at_ < cs.length := by omega
    have hc : 0 ≤ cs[at_] := hcs _ (List.getElem_mem hlt)
    refine q_dput (k := .inr "left") (v := .int cs[at_]) (ev_op (ev_dget (k := .inr "cells") (ev_var rfl) (e1 _ _ h1) (tk_cells ..)) (ev_dget (k := .inr "at") (ev_var rfl) (e1 _ _ h1) (tk_at ..)) (rv_ixL (sq_of (e1 _ _ h2)) (atI_nat (by rw [List.getElem?_map, List.getElem?_eq_getElem hlt]; rfl)))) (ev_var rfl) (e1 _ _ h1) (by show 5 < 1000; decide) fun H2 e2 => ?_
    rw [tp_left]
    refine s_dput (k := .inr "at") (v := .int ((at_ : Int) + 1)) (ev_op (ev_dget (k := .inr "at") (ev_var rfl) upd_same (tk_at ..)) ev_c rv_I0) (ev_var rfl) upd_same (by show 5 < 1000; decide) fun H3 e3 => ?_
    rw [tp_at]
    exact ⟨rfl, at_ + 1, cs[at_], ((((FrD.of (e1.trans e2)).upd).trans (FrD.of e3)).upd), upd_same, hc⟩
  · rintro σ' H1 ⟨rfl, at2, left2, fr, g1, gl0⟩
    have g2 := fr _ _ h2 nca
    refine q_when (b := decide (0 < left2)) (et_test (ev_op (ev_dget (k := .inr "left") (ev_var rfl) g1 (tk_left ..)) ev_c rv_I0)) (fun hb H2 e2 => ?_) (fun hb H2 e2 => ?_)
    · refine q_asg (v := .int (left2 % many)) (ev_op (ev_int1 (ev_dget (k := .inr "left") (ev_var rfl) (e2 _ _ g1) (tk_left ..))) (ev_var rfl) (rv_I hm0)) fun H3 e3 => ?_
      have e23 := e2.trans e3
      refine q_dput (k := .inr "left") (v := .int (left2 / many)) (ev_op (ev_dget (k := .inr "left") (ev_var rfl) (e23 _ _ g1) (tk_left ..)) (ev_var rfl) (rv_I ⟨hm0, hm1⟩)) (ev_var rfl) (e23 _ _ g1) (by show 5 < 1000; decide) fun H4 e4 => ?_
      rw [tp_left]
      refine s_ret (ev_var rfl) fun H5 e5 => k _ _ (Int.emod_nonneg _ (by omega)) (Int.emod_lt_of_pos _ hm0) ⟨⟨cs, at2, left2 / many, seed, salt, e5 _ _ upd_same, e5 _ _ (by rw [upd_ne nca]; exact e4 _ _ (e23 _ _ g2)), hcs, Int.ediv_nonneg gl0 (by omega), hs0, hs1⟩⟩ ((fr.trans (FrD.of (e23.trans e4))).upd.trans (FrD.of e5))
    · refine q_dput (k := .inr "salt") (v := .int (salt + 1)) (ev_op (ev_dget (k := .inr "salt") (ev_var rfl) (e2 _ _ g1) (tk_salt ..)) ev_c rv_I0) (ev_var rfl) (e2 _ _ g1) (by show 5 < 1000; decide) fun H3 e3 => ?_
      rw [tp_salt]
      have g3 : (upd H3 d (.dK (tapeKV ca at2 left2 seed (salt + 1)))) ca = some (.lst (cs.map V.int)) := by rw [upd_ne nca]; exact e3 _ _ (e2 _ _ g2)
      have fr3 : FrD d H (upd H3 d (.dK (tapeKV ca at2 left2 seed (salt + 1)))) := (fr.trans (FrD.of (e2.trans e3))).upd
      have g4 : (upd H3 d (.dK (tapeKV ca at2 left2 seed (salt + 1)))) d = some (.dK (tapeKV ca at2 left2 seed (salt + 1))) := upd_same
      generalize upd H3 d (.dK (tapeKV ca at2 left2 seed (salt + 1))) = H4 at g3 fr3 g4 ⊢
      refine q_asg (v := .int ((seed * 48271 + (salt + 1) * 69621) % 2147483647)) (ev_op (ev_int1 (ev_op (ev_op (ev_dget (k := .inr "seed") (ev_var rfl) g4 (tk_seed ..)) ev_c (rv_I (.inr ⟨by decide, by decide⟩))) (ev_op (ev_dget (k := .inr "salt") (ev_var rfl) g4 (tk_salt ..)) ev_c (rv_I (.inr ⟨by decide, by decide⟩))) rv_I0)) ev_c (rv_I (by decide))) fun H5 e5 => ?_
      generalize hx : (seed * 48271 + (salt + 1) * 69621) % 2147483647 = x
      have hx0 : 0 ≤ x ∧ x < 2147483647 := by omega
      refine q_asg (v := .int ((x * x + (salt + 1) * 40692 + 12345) % 2147483399)) (ev_op (ev_int1 (ev_op (ev_op (ev_op (ev_var rfl) (ev_var rfl) (rv_I (.inr ⟨by omega, by omega⟩))) (ev_op (ev_dget (k := .inr "salt") (ev_var rfl) (e5 _ _ g4) (tk_salt ..)) ev_c (rv_I (.inr ⟨by decide, by decide⟩))) rv_I0) ev_c rv_I0)) ev_c (rv_I (by decide))) fun H6 e6 => ?_
      generalize (x * x + (salt + 1) * 40692 + 12345) % 2147483399 = y
      refine s_ret (ev_op (ev_int1 (ev_var rfl)) (ev_var rfl) (rv_I hm0)) fun H7 e7 => k _ _ (Int.emod_nonneg _ (by omega)) (Int.emod_lt_of_pos _ hm0) ?_ (fr3.trans (FrD.of ((e5.trans e6).trans e7)))
      have e47 := (e5.trans e6).trans e7
      exact ⟨⟨cs, at2, left2, seed, salt + 1, e47 _ _ g4, e47 _ _ g3, hcs, gl0, hs0, hs1⟩⟩
def sp_law_tape (K : PySem.W.Frag) : Sp := fun vs H Q _ => ∃ (a : Addr) (ns : List Int), vs = [.ref a] ∧ SqL K H a (ns.map V.int) ∧ ns.length ≤ 63 ∧ ∀ (d ca : Addr) (H' : Hp), H d = none → H ca = none → TapeAt H' d ca → Ex H H' → Q (.ref d) H'
theorem ok_law_tape (T : Txt K mg) : FnOk P w K mg base CX0 1 (f_law_tape K) (fd_law_tape K) ["script"] (sp_law_tape K) := by
  refine T.fn_law_tape.ok sc_law_tape (fun vs H Q E h => ?_) (fun cdv A outer s H vs Q E hr h => ⟨_, PSs.nox (pss_cons (ps_setLc (i := 1) (own := [("cell", 2)]) (by rfl) sc_law_tape.nd rfl rfl (sw_true rfl rfl rfl (by decide +kernel)) (pi_list (pv 0)) (blkOk_by (N := sc_law_tape_N) (sc := defScope s_law_tape) (own := [("cell", 2)]) (by decide +kernel)) (fun _ _ _ _ _ => (pg_name (i := 2) sc_law_tape.nd rfl (Or.inl rfl))) (fun _ _ _ _ _ => pts_nil) (fun _ _ _ _ _ => (pe_callB call_abs (by rfl) T.free_abs (by decide +kernel) (pa_cons (pe_callTy call_int1 (by rfl) T.free_int (by decide +kernel) (pa_cons (pv 2) pa_nil)) pa_nil)))) (pss_cons (ps_set (i := 3) sc_law_tape.nd rfl (Or.inl rfl) pe_int) (pss_cons (ps_for PassesOwn.never rfl (pi_list (pv 1)) (pg_name (i := 2) sc_law_tape.nd rfl (Or.inl rfl)) (pss_one (ps_set (i := 3) sc_law_tape.nd rfl (Or.inl rfl) (pe_op op_mod (pe_callTy call_int1 (by rfl) T.free_int (by decide +kernel) (pa_cons (pe_op op_add (pe_op op_mul (pv 3) pe_int) (pv 2)) pa_nil)) pe_int)))) (pss_one (ps_ret (pe_disp (pps_cons pe_str (pv 1) (pps_cons pe_str pe_int (pps_cons pe_str pe_int (pps_cons pe_str (pv 3) (pps_cons pe_str pe_int pps_nil))))) (by rfl) (by rfl) (fun z => by cases z) (by decide))))))), ?_⟩)
  · obtain ⟨_, _, rfl, _⟩ := h
    rfl
  obtain ⟨a, ns, rfl, hS, hl, k⟩ := h
  have hv : ((ns.map fun i => if i < 0 then -i else i).map V.int) = given (ns.map V.int).length (fun _ => true) (fun i => .int (if ns.getD i 0 < 0 then -(ns.getD i 0) else ns.getD i 0)) := by
    unfold given
    rw [List.filter_eq_self.mpr (by simp)]
    apply List.ext_getElem?
    intro i
    by_cases h : i < ns.length
    · simp [h]
    · simp [h]
  have hE : EvL (tLc (iList K (tVar 0)) (gName 2) tYes (tCB (fun xs H Q => ∃ i : Int, xs = [.int i] ∧ Q (.int (if i < 0 then -i else i)) H) (tCons (tCB (fun xs H Q => (∃ i, xs = [.int i] ∧ Q (.int i) H) ∨ ∃ k, xs = [.bl k] ∧ Q (.int (if k then 1 else 0)) H) (tCons (tVar 2) tNil)) tNil)) [2]) (L2.start sc_law_tape_N [V.ref a]) H ((ns.map fun i => if i < 0 then -i else i).map V.int) := by
    rw [hv]
    refine el_lcL _ _ (ev_var rfl) hS (by rw [List.length_map]; omega) (fun y => rfl) (fun i c H1 _ _ => (fun H1 _ _ q => q H1 (Ex.refl H1))) (fun i y H1 _ hi _ => ?_)
    rw [List.getElem?_map] at hi
    cases e : ns[i]? with
    | none => rw [e] at hi; cases hi
    | some x =>
      rw [e] at hi
      obtain rfl : V.int x = y := Option.some.inj hi
      have e2 : ns.getD i 0 = x := by rw [List.getD, e]; rfl
      rw [e2]
      exact ev_abs (ev_int1 (ev_var rfl))
  have hcs : ∀ c ∈ (ns.map fun i => if i < 0 then -i else i), (0 : Int) ≤ c := by
    intro c hc
    obtain ⟨i, _, rfl⟩ := List.mem_map.mp hc
    show 0 ≤ if i < 0 then -i else i
    split <;> omega
  generalize (ns.map fun i => if i < 0 then -i else i) = cs at hE hcs hv
  refine q_asgL hE fun ca H1 hca e1 h1 => ?_
  refine q_asg ev_c fun H2 e2 => ?_
  refine q_forL (K := K) (a := ca) (xs := cs.map V.int) (ev_var rfl) (sq_of (e2 _ _ h1)) (fun i σ' H' => ∃ (c : Option V) (seed : Int), σ' = [some (.ref a), some (.ref ca), c, some (.int seed)] ∧ 0 ≤ seed ∧ seed < 2147483647 ∧ Ex H2 H')
    (fun H3 e3 => ⟨none, 7, rfl, by decide, by decide, e3⟩) (fun i σ' H' _ ⟨_, _, _, _, _, e⟩ => sq_of (e _ _ (e2 _ _ h1))) ?_ ?_
  · rintro i y σ' H' hi ⟨c, seed, rfl, s0, s1, eH⟩
    obtain ⟨x, rfl⟩ : ∃ x, y = V.int x := by
      rw [List.getElem?_map] at hi
      cases e : cs[i]? with
      | none => rw [e] at hi; cases hi
      | some x => rw [e] at hi; exact ⟨x, (Option.some.inj hi).symm⟩
    refine s_asg (v := .int ((seed * 31 + x) % 2147483647)) (ev_op (ev_int1 (ev_op (ev_op (ev_var rfl) ev_c (rv_I (.inr ⟨by decide, by decide⟩))) (ev_var rfl) rv_I0)) ev_c (rv_I (by decide))) fun H3 e3 => ⟨some (.int x), (seed * 31 + x) % 2147483647, rfl, by omega, by omega, eH.trans e3⟩
  · rintro σ' H' ⟨c, seed, rfl, s0, s1, eH⟩
    intro d hd
    have e3 : Ex H' (upd H' d (.dK [])) := Ex.new hd
    have ed : Ex H (upd H' d (.dK [])) := ((e1.trans e2).trans eH).trans e3
    have hdn : H d = none := by
      cases e : H d with
      | none => rfl
      | some o => rw [((e1.trans e2).trans eH) _ _ e] at hd; cases hd
    refine ⟨_, rfl, _, rfl, upd_same, [(.inr "cells", .ref ca), (.inr "at", .int 0), (.inr "left", .int 0), (.inr "seed", .int seed), (.inr "salt", .int 0)], rfl, by show 5 ≤ 15; decide, ?_⟩
    have hca2 : H' ca = some (.lst (cs.map V.int)) := eH _ _ (e2 _ _ h1)
    have nca : ca ≠ d := ne_of_none hca2 hd
    refine k d ca _ hdn hca ⟨⟨cs, 0, 0, seed, 0, ?_, ?_, hcs, by decide, s0, s1⟩⟩ (Ex.mut ed hdn)
    · rw [upd_same]
      rfl
    · rw [upd_ne nca, upd_ne nca]
      exact hca2
end
end KD

namespace KD
open KA
open PySem PySem.Spec PyProof.Rows L2 Evl TL
/-! ### for laws: what is drawn, lists of draws, data compared -/
section
variable {σ : L2.St} {H : Hp} {K : PySem.W.Frag} {D : Ends} {d ca : Addr} {P P' : Int → Prop} {te tb : TE} {ta : TA} {tz : TS}
/-- a value drawn: the tape goes on, all else stands -/
def Dr (te : TE) (σ : L2.St) (d ca : Addr) (P : Int → Prop) : Prop := ∀ (H : Hp) (Q : VK), TapeAt H d ca → (∀ v H', P v → TapeAt H' d ca → FrD d H H' → Q (.int v) H') → te σ H Q
theorem Dr.imp (h : Dr te σ d ca P) (f : ∀ v, P v → P' v) : Dr te σ d ca P' := fun H Q hT q => h H Q hT fun v H' p => q v H' (f v p)
theorem dr_take {m : Int} (ha : ∀ H, EvA ta σ H [.ref d, .int m]) (hm : 0 < m ∧ m < 1073741824) : Dr (tCall sp_law_take [] E0 ta) σ d ca (fun v => 0 ≤ v ∧ v < m) :=
  fun H Q hT q => ha H H (Ex.refl H) _ fun H1 e1 => ⟨d, ca, m, rfl, hT.keep e1, hm.1, hm.2, fun v H' h0 h1 hT' f => q v H' ⟨h0, h1⟩ hT' ((FrD.of e1).trans f)⟩
theorem dr_int (h : Dr te σ d ca P) : Dr (tCB (fun xs H Q => (∃ i, xs = [.int i] ∧ Q (.int i) H) ∨ ∃ k, xs = [.bl k] ∧ Q (.int (if k then 1 else 0)) H) (tCons te tNil)) σ d ca P :=
  fun H Q hT q => h H _ hT fun v H' p hT' f => .inl ⟨v, rfl, q v H' p hT' f⟩
theorem dr_cmul {c : Int} (hc : -(2 ^ 64) < c ∧ c < 2 ^ 64) (h : Dr te σ d ca P) : Dr (tOp (rI CMul fun i j => .int (i * j)) (tC (.int c)) te) σ d ca (fun v => ∃ u, P u ∧ v = c * u) :=
  fun H Q hT q => h H _ hT fun v H' p hT' f => ⟨c, v, rfl, rfl, .inl hc, q _ H' ⟨v, p, rfl⟩ hT' f⟩
theorem dr_add (h : Dr te σ d ca P) (h2 : Dr tb σ d ca P') : Dr (tOp (rI0 fun i j => .int (i + j)) te tb) σ d ca (fun v => ∃ a b, P a ∧ P' b ∧ v = a + b) :=
  fun H Q hT q => h H _ hT fun v H1 p hT1 f1 => h2 H1 _ hT1 fun u H2 p2 hT2 f2 => ⟨v, u, rfl, rfl, q _ H2 ⟨v, u, p, p2, rfl⟩ hT2 (f1.trans f2)⟩
/-- a list of draws -/
theorem dl_lcR1 {j : Nat} {vs : List Nat} {n : Int} (h : ∀ H, EvA ta σ H [.int n]) (hn : 0 ≤ n ∧ n ≤ 40000) (hw : ∀ x, wipe ((wipe σ vs).set j (some x)) vs = wipe σ vs) (he : ∀ i : Nat, Dr te ((wipe σ vs).set j (some (.int (i : Int)))) d ca P)
    (H : Hp) (Q : VK) (hT : TapeAt H d ca) (q : ∀ p H' (xs : List Int), H p = none → xs.length = n.toNat → (∀ x ∈ xs, P x) → TapeAt H' d ca → FrD d H H' → H' p = some (.lst (xs.map V.int)) → Q (.ref p) H') : tLc (iRng1 ta) (gName j) tYes te vs σ H Q :=
  h H H (Ex.refl H) _ fun H1 e1 => ⟨n, rfl, by omega, by omega, fun Dl hD =>
    lc_range (lo := 0) (n := n.toNat) (fun i H' => ∃ xs : List Int, xs.length = i ∧ (∀ x ∈ xs, P x) ∧ TapeAt H' d ca ∧ FrD d H H' ∧ H' Dl = some (.lst (xs.map V.int)))
      ⟨[], rfl, (fun x hx => by cases hx), (hT.keep e1).keep (Ex.new hD), (FrD.of e1).trans (FrD.of (Ex.new hD)), upd_same⟩
      (fun i H' hi ⟨xs, hl, hx, hT', f, hDl⟩ => by
        have e0 : (0 : Int) + (i : Int) = (i : Int) := Int.zero_add _
        show wipe ((wipe σ vs).set j (some (.int ((0 : Int) + (i : Int))))) vs = wipe σ vs ∧ te ((wipe σ vs).set j (some (.int ((0 : Int) + (i : Int))))) H' fun y H4 => ∃ acc, H4 Dl = some (.lst acc) ∧ acc.length < sizeLine ∧ _
        rw [e0]
        have nn := (hT.keep e1).ne hD
        refine ⟨hw _, he i H' _ hT' fun v H4 pv hT4 f4 => ⟨xs.map V.int, f4 _ _ hDl nn.1, sz_lt (by rw [List.length_map]; omega), xs ++ [v], by simp [hl], fun x hm => ?_, hT4.upd nn.1 nn.2, ?_, by rw [upd_same, List.map_append]; rfl⟩⟩
        · rcases List.mem_append.mp hm with hm | hm
          · exact hx x hm
          · obtain rfl : x = v := by simpa using hm
            exact pv
        · intro b o hb hne
          have nb : b ≠ Dl := fun z => by
            rw [z] at hb
            rw [e1 _ _ hb] at hD
            cases hD
          rw [upd_ne nb]
          exact f4 _ _ (f _ _ hb hne) hne)
      (fun H' ⟨xs, hl, hx, hT', f, hDl⟩ => q Dl H' xs (fresh_back e1 hD) hl hx hT' f hDl)⟩
/-- name = e, told by what holds behind it -/
theorem q_asgQ {i : Nat} (h : te σ H fun v H1 => tz D (σ.set i (some v)) H1) : tSeq (tAsg te (gName i)) tz D σ H := h
theorem FrD.ex {H H' : Hp} (f : FrD d H H') (hd : H d = none) : Ex H H' := fun b o h => f b o h (fun z => by rw [z, hd] at h; cases h)
end
/-! ### flat data -/
def pd : V → PyData
  | .int i => .int i
  | .str s => .str s
  | .bl b => .bool b
  | _ => .none
def flatP : V → Bool
  | .int _ => true
  | .str s => PyData.strOk s
  | _ => false
section
variable {K : PySem.W.Frag} {H : Hp}
theorem dpAll_flat : ∀ {vs : List V}, vs.all flatP = true → DpAll K H vs (vs.map pd)
  | [], _ => .nil
  | v :: vs, h => by
    rw [List.all_cons, Bool.and_eq_true] at h
    refine .cons ?_ (dpAll_flat h.2)
    cases v with
    | int i => exact .int i
    | str s => exact .str s
    | bl b => cases h.1
    | ref a => cases h.1
    | non => cases h.1
    | _ => cases h.1
theorem canLay_flat : ∀ {vs : List V}, vs.all flatP = true → PyData.canLayAll0 (vs.map pd) = true ∧ PyData.depthAll (vs.map pd) = 0
  | [], _ => ⟨by simp [PyData.canLayAll0], by simp [PyData.depthAll]⟩
  | v :: vs, h => by
    rw [List.all_cons, Bool.and_eq_true] at h
    obtain ⟨h1, h2⟩ := canLay_flat h.2
    rw [List.map_cons, PyData.canLayAll0, PyData.depthAll, h1, h2]
    cases v with
    | int i => exact ⟨by simp [pd, PyData.canLay0], by simp [pd, PyData.depth]⟩
    | str s => exact ⟨by simp [pd, PyData.canLay0]; exact h.1, by simp [pd, PyData.depth]⟩
    | _ => cases h.1
theorem dp_lst {a : Addr} {vs : List V} (h : SqL K H a vs) (hf : vs.all flatP = true) : Dp K H (.ref a) (.list (vs.map pd)) := .lst h (dpAll_flat hf)
theorem dp_tup {a : Addr} {vs : List V} (h : SqT K H a vs) (hf : vs.all flatP = true) : Dp K H (.ref a) (.tuple (vs.map pd)) := .tup h (dpAll_flat hf)
theorem shaped_lst {vs : List V} (hf : vs.all flatP = true) : SeqAt.shaped (.list (vs.map pd)) = true := by
  obtain ⟨h1, h2⟩ := canLay_flat hf
  unfold SeqAt.shaped
  rw [PyData.canLay0, PyData.depth, h1, h2]
  rfl
theorem shaped_tup {vs : List V} (hf : vs.all flatP = true) : SeqAt.shaped (.tuple (vs.map pd)) = true := by
  obtain ⟨h1, h2⟩ := canLay_flat hf
  unfold SeqAt.shaped
  rw [PyData.canLay0, PyData.depth, h1, h2]
  rfl
theorem same_of_shaped {e : PyData} (h : SeqAt.shaped e = true) : PyData.eqv e e = true := PySem.SeqAt.eqv_refl e (SeqAt.canLay_of_shaped h)
theorem ints_flat (xs : List Int) : (xs.map V.int).all flatP = true := by
  rw [List.all_map]
  exact List.all_eq_true.mpr fun x _ => rfl
/-- two equal lists are not told apart -/
theorem ne_lst {a b : Addr} {vs : List V} (ha : SqL K H a vs) (hb : SqL K H b vs) (hf : vs.all flatP = true) : RV (rNeD K) (.ref a) (.ref b) H (.bl false) := fun H1 e Q q =>
  ⟨_, _, dp_lst (ex_l e ha) hf, dp_lst (ex_l e hb) hf, shaped_lst hf, shaped_lst hf, by rw [same_of_shaped (shaped_lst hf)]; exact q H1 (Ex.refl H1)⟩
theorem ne_tup {a b : Addr} {vs : List V} (ha : SqT K H a vs) (hb : SqT K H b vs) (hf : vs.all flatP = true) : RV (rNeD K) (.ref a) (.ref b) H (.bl false) := fun H1 e Q q =>
  ⟨_, _, dp_tup (ex_t e ha) hf, dp_tup (ex_t e hb) hf, shaped_tup hf, shaped_tup hf, by rw [same_of_shaped (shaped_tup hf)]; exact q H1 (Ex.refl H1)⟩
end
end KD

namespace KX
open KA KQ KD
open PySem PySem.Spec PyProof.Rows L2 Evl TL
/-! ### what stood can be read, though a dict be frozen -/
structure RdX (H H' : Hp) : Prop where
  dk : ∀ a kv, Rd H a (.dK kv) → Rd H' a (.dK kv)
  ob : ∀ a o, H a = some o → (∀ kv, o ≠ .dK kv) → (∀ od u, o ≠ .frz od u) → H' a = some o
theorem RdX.refl (H : Hp) : RdX H H := ⟨fun _ _ h => h, fun _ _ h _ _ => h⟩
theorem RdX.trans {H H1 H2 : Hp} (a : RdX H H1) (b : RdX H1 H2) : RdX H H2 := ⟨fun x kv h => b.dk x kv (a.dk x kv h), fun x o h n m => b.ob x o (a.ob x o h n m) n m⟩
theorem RdX.ex {H H' : Hp} (e : Ex H H') : RdX H H' := ⟨fun a kv h => by
  rcases h with h | ⟨o, h⟩
  · exact .inl (e _ _ h)
  · exact .inr ⟨o, e _ _ h⟩, fun a o h _ _ => e _ _ h⟩
theorem RdX.frz {H : Hp} {d : Addr} {kvs : List (Key × V)} {od : Obj} (h : H d = some (.dK kvs)) : RdX H (upd H d (.frz od (.dK kvs))) := ⟨fun a kv ha => by
  by_cases e : a = d
  · subst e
    rcases ha with ha | ⟨o, ha⟩ <;> rw [h] at ha <;> cases ha
    exact .inr ⟨od, upd_same⟩
  · rcases ha with ha | ⟨o, ha⟩
    · exact .inl (by rw [upd_ne e]; exact ha)
    · exact .inr ⟨o, by rw [upd_ne e]; exact ha⟩, fun a o ha n _ => by
  by_cases e : a = d
  · subst e; rw [h] at ha; cases ha; exact absurd rfl (n _)
  · rw [upd_ne e]; exact ha⟩
theorem RdX.tup {H H' : Hp} {a : Addr} {xs : List V} (r : RdX H H') (h : H a = some (.tup xs)) : H' a = some (.tup xs) := r.ob _ _ h (fun _ z => by cases z) (fun _ _ z => by cases z)
theorem RdX.lst {H H' : Hp} {a : Addr} {xs : List V} (r : RdX H H') (h : H a = some (.lst xs)) : H' a = some (.lst xs) := r.ob _ _ h (fun _ z => by cases z) (fun _ _ z => by cases z)
theorem RdX.get {H H' : Hp} {a : Addr} {kvs : List (Key × V)} {k : Key} (r : RdX H H') (h : H a = some (.dK kvs)) : DGet H' a (kV k) (valV kvs k) := .inl ⟨kvs, k, r.dk _ _ (.inl h), rfl, rfl⟩
section
variable {σ : L2.St} {H0 H : Hp} {K : PySem.W.Frag} {D : Ends} {td ty tx te : TE} {tu tz : TS}
theorem evx_dg {a : Addr} {kvs : List (Key × V)} {k : Key} {v : V} (hd : Ev td σ H (.ref a)) (hy : Ev ty σ H (kV k)) (r : RdX H0 H) (ha : H0 a = some (.dK kvs)) (hv : valV kvs k = some v) : Ev (tDGet td ty) σ H v := fun H1 e Q q => hd H1 e _ fun H2 e2 => hy H2 (e.trans e2) _ fun H3 e3 => ⟨a, v, rfl, hv ▸ (r.trans (RdX.ex ((e.trans e2).trans e3))).get ha, q H3 (e2.trans e3)⟩
theorem evx_dget1 {a : Addr} {kvs : List (Key × V)} {k : Key} {v : V} (hd : Ev td σ H (.ref a)) (hy : Ev ty σ H (kV k)) (r : RdX H0 H) (ha : H0 a = some (.dK kvs)) (hv : (valV kvs k).getD .non = v) : Ev (tDGet1 td ty) σ H v := fun H1 e Q q => hd H1 e _ fun H2 e2 => ⟨a, rfl, .inl ⟨kvs, (r.trans (RdX.ex (e.trans e2))).dk _ _ (.inl ha)⟩, hy H2 (e.trans e2) _ fun H3 e3 => ⟨_, (r.trans (RdX.ex ((e.trans e2).trans e3))).get (k := k) ha, hv ▸ q H3 (e2.trans e3)⟩⟩
theorem evx_dget2 {a : Addr} {kvs : List (Key × V)} {k : Key} {u v : V} (hd : Ev td σ H (.ref a)) (hy : Ev ty σ H (kV k)) (hx : Ev tx σ H u) (r : RdX H0 H) (ha : H0 a = some (.dK kvs)) (hv : (valV kvs k).getD u = v) : Ev (tDGet2 td ty tx) σ H v := fun H1 e Q q => hd H1 e _ fun H2 e2 => ⟨a, rfl, .inl ⟨kvs, (r.trans (RdX.ex (e.trans e2))).dk _ _ (.inl ha)⟩, hy H2 (e.trans e2) _ fun H3 e3 => hx H3 ((e.trans e2).trans e3) _ fun H4 e4 => ⟨_, (r.trans (RdX.ex (((e.trans e2).trans e3).trans e4))).get (k := k) ha, hv ▸ q H4 ((e2.trans e3).trans e4)⟩⟩
def getO (kvs : List (Key × V)) : Option Int → V
  | none => .non
  | some i => (valV kvs (Sum.inl i)).getD .non
theorem evx_dgetN {a : Addr} {kvs : List (Key × V)} {o : Option Int} {v : V} (hd : Ev td σ H (.ref a)) (hy : Ev ty σ H (oI o)) (r : RdX H0 H) (ha : H0 a = some (.dK kvs)) (hv : getO kvs o = v) : Ev (tDGetN td ty) σ H v := fun H1 e Q q => hd H1 e _ fun H2 e2 => ⟨a, rfl, .inl ⟨kvs, (r.trans (RdX.ex (e.trans e2))).dk _ _ (.inl ha)⟩, hy H2 (e.trans e2) _ fun H3 e3 => by
  have r3 := r.trans (RdX.ex ((e.trans e2).trans e3))
  subst hv
  cases o with
  | none => exact .inl ⟨rfl, ⟨kvs, r3.dk _ _ (.inl ha)⟩, q H3 (e2.trans e3)⟩
  | some i => exact .inr ⟨_, r3.get (k := Sum.inl i) ha, q H3 (e2.trans e3)⟩⟩
/-- for k, v in d.items(): .. -/
theorem q_forItems {d : Addr} {kvs : List (Key × V)} {g : TG} (hd : ∀ od, Ev td σ (upd H d (.frz od (.dK kvs))) (.ref d)) (ha : H d = some (.dK kvs)) (Pv : Obj → Nat → L2.St → Hp → Prop) (h0 : ∀ od, Pv od 0 σ (upd H d (.frz od (.dK kvs)))) (hl : ∀ od i σ' H', Pv od i σ' H' → H' d = some (.frz od (.dK kvs))) (h00 : ∀ od i σ' H' H'', Pv od i σ' H' → Ex H' H'' → Pv od i σ' H'')
    (hs : ∀ od i k v σ' H' T, kvs[i]? = some (k, v) → Pv od i σ' H' → H' T = none → g (.ref T) σ' (upd H' T (.tup [kV k, v])) fun σ2 H2 => tu { nx := Pv od (i + 1), rt := fun v H' => H' d = some (.frz od (.dK kvs)) ∧ D.rt v (upd H' d (.dK kvs)), bk := fun σ' H' => H' d = some (.frz od (.dK kvs)) ∧ tz D σ' (upd H' d (.dK kvs)), ct := Pv od (i + 1) } σ2 H2)
    (hd2 : ∀ od σ' H', Pv od kvs.length σ' H' → tz D σ' (upd H' d (.dK kvs))) : tSeq (tLock (tFor (iItems td) g tu)) tz D σ H :=
  ⟨d, _, ha, trivial, fun od => hd od _ (Ex.refl _) _ fun H2 e2 => ⟨d, od, kvs, rfl, hl od 0 σ H2 (h00 _ _ _ _ _ (h0 od) e2), for_it (walk_items (d := d) (o := od) (kvs := kvs)) (Pv od) (h00 _ _ _ _ _ (h0 od) e2) (fun i σ' H' _ h => hl od i σ' H' h) (fun i x σ' H' H'' hi h y => by
    obtain ⟨T, x', y', rfl, hT, rfl, ex, ey⟩ := y
    have hv : kvs[i]? = some (kvs[i]'hi) := List.getElem?_eq_getElem hi
    simp only [hv, Option.map_some, Option.some.injEq] at ex ey
    subst ex ey
    exact hs od i _ _ σ' H' T (by rw [hv]) h hT) fun σ' H' h => ⟨hl od _ σ' H' h, hd2 od σ' H' h⟩⟩⟩
end
/-! ### comes_from -/
theorem KD_dec {a b : Int} : decide (V.int a = V.int b) = decide (a = b) := by
  rw [decide_eq_decide]
  exact ⟨V.int.inj, fun z => by rw [z]⟩
def at6 (c : List Int) (i : Nat) : Int := c.getD i 0
def comesB (c p : List Int) : Bool := if at6 p 0 = 1 then decide (at6 p 1 ≤ at6 c 1) && decide (at6 c 1 + at6 c 4 ≤ at6 p 1 + at6 p 5) else decide (at6 c 0 = at6 p 0) && decide (at6 c 1 = at6 p 1) && decide (Builtin.bitOr (at6 c 2) (at6 p 2) = at6 p 2)
theorem two_eqv {a b c d : Int} : PyData.eqv (.tuple ([V.int a, V.int b].map pd)) (.tuple ([V.int c, V.int d].map pd)) = (decide (a = c) && decide (b = d)) := by
  simp [PyData.eqv, PyData.eqvAll, pd]
  rfl
theorem rv_eq2 {K : PySem.W.Frag} {H : Hp} {p q : Addr} {a b c d : Int} (hp : H p = some (.tup [.int a, .int b])) (hq : H q = some (.tup [.int c, .int d])) : RV (rEqD K) (.ref p) (.ref q) H (.bl (decide (a = c) && decide (b = d))) := fun H1 e Q k =>
  ⟨_, _, dp_tup (st_of (e _ _ hp)) rfl, dp_tup (st_of (e _ _ hq)) rfl, shaped_tup rfl, shaped_tup rfl, by rw [two_eqv]; exact k H1 (Ex.refl H1)⟩
theorem rv_ne2 {K : PySem.W.Frag} {H : Hp} {p q : Addr} {a b c d : Int} (hp : H p = some (.tup [.int a, .int b])) (hq : H q = some (.tup [.int c, .int d])) : RV (rNeD K) (.ref p) (.ref q) H (.bl (!(decide (a = c) && decide (b = d)))) := fun H1 e Q k =>
  ⟨_, _, dp_tup (st_of (e _ _ hp)) rfl, dp_tup (st_of (e _ _ hq)) rfl, shaped_tup rfl, shaped_tup rfl, by rw [two_eqv]; exact k H1 (Ex.refl H1)⟩
theorem ev_opSS {σ : L2.St} {H : Hp} {r : R2} {ta tb : TE} {xs ys : List V} {z : V} (ha : EvS ta σ H xs) (hb : ∀ H1, Ex H H1 → EvS tb σ H1 ys) (hr : ∀ p q H1, H1 p = some (.tup xs) → H1 q = some (.tup ys) → RV r (.ref p) (.ref q) H1 z) : Ev (tOp r ta tb) σ H z := fun H1 e Q k =>
  ha H1 e _ fun p H2 e2 hp => hb H2 (e.trans e2) H2 (Ex.refl H2) _ fun q H3 e3 hq => hr p q H3 (e3 _ _ hp) hq H3 (Ex.refl H3) _ fun H4 e4 => k H4 ((e2.trans e3).trans e4)
section
variable {P : Program} {w : World} {K : PySem.W.Frag} {mg : Str → Option Value} {base : Heap}
def sp_comes_from (K : PySem.W.Frag) : Sp := fun vs H Q _ => ∃ (a b : Addr) (c p : List Int), vs = [.ref a, .ref b] ∧ H a = some (.tup (c.map V.int)) ∧ H b = some (.tup (p.map V.int)) ∧ c.length = 6 ∧ p.length = 6 ∧ ∀ H', Ex H H' → Q (.bl (comesB c p)) H'
theorem at6_get {c : List Int} (h : c.length = 6) {i : Nat} (hi : i < 6) : atI (c.map V.int) (i : Int) = some (.int (at6 c i)) := atI_nat (by rw [List.getElem?_map, List.getElem?_eq_getElem (by omega)]; unfold at6; rw [List.getD_eq_getElem?_getD, List.getElem?_eq_getElem (by omega)]; rfl)
theorem six_cut {c : List Int} (h : c.length = 6) : cutV (c.map V.int) none (some 2) = [.int (at6 c 0), .int (at6 c 1)] := by
  match c, h with
  | [a, b, d, e, f, g], _ => rfl
theorem ok_comes_from (T : Txt K mg) : FnOk P w K mg base CX0 1 (f_comes_from K) (fd_comes_from K) ["cap", "parent"] (sp_comes_from K) := by
  refine T.fn_comes_from.ok sc_comes_from (fun vs H Q E h => ?_) (fun cdv A outer s H vs Q E hr h => ⟨_, PSs.nox (pss_cons (ps_if (pt_cmpR op_eq (pe_ix ix_tup (pv 1) pe_int (fun _ _ => rfl)) (T.pg_UNTYPED) (nomark _)) (pss_one (ps_ret (pe_and (pe_cmpR op_le (pe_ix ix_tup (pv 1) pe_int (fun _ _ => rfl)) (pe_ix ix_tup (pv 0) pe_int (fun _ _ => rfl)) (nomark _)) (pe_one (pe_cmpR op_le (pe_op op_add (pe_ix ix_tup (pv 0) pe_int (fun _ _ => rfl)) (pe_ix ix_tup (pv 0) pe_int (fun _ _ => rfl))) (pe_op op_add (pe_ix ix_tup (pv 1) pe_int (fun _ _ => rfl)) (pe_ix ix_tup (pv 1) pe_int (fun _ _ => rfl))) (nomark _)))))) pss_nil) (pss_one (ps_ret (pe_and (pe_cmpR (op_eqD hr.units) (pe_slice sl_tupA (pv 0) po_none (po_some pe_int)) (pe_slice sl_tupA (pv 1) po_none (po_some pe_int)) (nomark _)) (pe_one (pe_cmpR op_eq (pe_op op_or (pe_ix ix_tup (pv 0) pe_int (fun _ _ => rfl)) (pe_ix ix_tup (pv 1) pe_int (fun _ _ => rfl))) (pe_ix ix_tup (pv 1) pe_int (fun _ _ => rfl)) (nomark _))))))), ?_⟩)
  · obtain ⟨_, _, _, _, rfl, _⟩ := h
    rfl
  obtain ⟨a, b, c, p, rfl, ha, hb, lc, lp, k⟩ := h
  refine q_when (b := decide (at6 p 0 = 1)) (et_is (et_test (ev_op (ev_op (ev_var rfl) ev_c (Evl.rv_ixT (st_of hb) (at6_get lp (i := 0) (by decide)))) ev_c (rv_eq rfl))) KD_dec) (fun h1 H1 e1 => ?_) (fun h1 H1 e1 => ?_)
  · have ha1 := e1 _ _ ha
    have hb1 := e1 _ _ hb
    refine s_ret (ev_andV (ev_op (ev_op (ev_var rfl) ev_c (Evl.rv_ixT (st_of hb1) (at6_get lp (i := 1) (by decide)))) (ev_op (ev_var rfl) ev_c (Evl.rv_ixT (st_of ha1) (at6_get lc (i := 1) (by decide)))) rv_I0) fun _ => ev_op (ev_op (ev_op (ev_var rfl) ev_c (Evl.rv_ixT (st_of ha1) (at6_get lc (i := 1) (by decide)))) (ev_op (ev_var rfl) ev_c (Evl.rv_ixT (st_of ha1) (at6_get lc (i := 4) (by decide)))) rv_I0) (ev_op (ev_op (ev_var rfl) ev_c (Evl.rv_ixT (st_of hb1) (at6_get lp (i := 1) (by decide)))) (ev_op (ev_var rfl) ev_c (Evl.rv_ixT (st_of hb1) (at6_get lp (i := 5) (by decide)))) rv_I0) rv_I0) fun H2 e2 => ?_
    have := k H2 (e1.trans e2)
    unfold comesB at this
    rw [if_pos (of_decide_eq_true h1)] at this
    exact this
  · have ha1 := e1 _ _ ha
    have hb1 := e1 _ _ hb
    refine s_ret (ev_andV (ev_opSS (es_is (es_slA (es_ev (ev_var rfl) ha1) (fun H1 e => eo_none) (fun H1 e => eo_some (i := 2) ev_c)) (six_cut lc)) (fun H2 e2 => es_is (es_slA (es_ev (ev_var rfl) (e2 _ _ hb1)) (fun H1 e => eo_none) (fun H1 e => eo_some (i := 2) ev_c)) (six_cut lp)) fun p q H3 h3 h3' => rv_eq2 h3 h3') fun _ => ev_op (ev_op (ev_op (ev_var rfl) ev_c (Evl.rv_ixT (st_of ha1) (at6_get lc (i := 2) (by decide)))) (ev_op (ev_var rfl) ev_c (Evl.rv_ixT (st_of hb1) (at6_get lp (i := 2) (by decide)))) rv_I0) (ev_op (ev_var rfl) ev_c (Evl.rv_ixT (st_of hb1) (at6_get lp (i := 2) (by decide)))) (rv_eq rfl)) fun H2 e2 => ?_
    have := k H2 (e1.trans e2)
    unfold comesB at this
    rw [if_neg (of_decide_eq_false h1), ← KD_dec (a := Builtin.bitOr (at6 c 2) (at6 p 2))] at this
    exact this
end
end KX

namespace KX
open KA KQ KD
open PySem PySem.Spec PyProof.Rows L2 Evl TL
/-! ### while a dict is frozen -/
structure Lk (d : Addr) (od : Obj) (kvs : List (Key × V)) (H0 H' : Hp) : Prop where
  ex : ∀ a o, H0 a = some o → a ≠ d → H' a = some o
  fr : H' d = some (.frz od (.dK kvs))
section
variable {d : Addr} {od : Obj} {kvs : List (Key × V)} {H0 H H' : Hp}
theorem Lk.rdx (l : Lk d od kvs H0 H') (h : H0 d = some (.dK kvs)) : RdX H0 H' := ⟨fun a kv ha => by
  by_cases e : a = d
  · subst e
    rcases ha with ha | ⟨o, ha⟩ <;> rw [h] at ha <;> cases ha
    exact .inr ⟨od, l.fr⟩
  · rcases ha with ha | ⟨o, ha⟩
    · exact .inl (l.ex _ _ ha e)
    · exact .inr ⟨o, l.ex _ _ ha e⟩, fun a o ha n _ => l.ex _ _ ha fun e => by subst e; rw [h] at ha; cases ha; exact n _ rfl⟩
theorem Lk.next (l : Lk d od kvs H0 H) (e : Ex H H') : Lk d od kvs H0 H' := ⟨fun a o ha n => e _ _ (l.ex a o ha n), e _ _ l.fr⟩
theorem Lk.mut {a : Addr} {o : HO} (l : Lk d od kvs H0 H) (h : H0 d = some (.dK kvs)) (ha : H0 a = none) : Lk d od kvs H0 (upd H a o) := ⟨fun b u hb n => by rw [upd_ne (fun z => by rw [z, ha] at hb; cases hb)]; exact l.ex b u hb n, by rw [upd_ne (fun z => by rw [← z, h] at ha; cases ha)]; exact l.fr⟩
theorem Lk.out (l : Lk d od kvs H0 H) (h : H0 d = some (.dK kvs)) : Ex H0 (upd H d (.dK kvs)) := fun a o ha => by
  by_cases e : a = d
  · subst e; rw [h] at ha; cases ha; exact upd_same
  · rw [upd_ne e]; exact l.ex a o ha e
theorem Lk.in (e : Ex H0 H) : Lk d od kvs H0 (upd H d (.frz od (.dK kvs))) := ⟨fun a o ha n => by rw [upd_ne n]; exact e a o ha, upd_same⟩
theorem Lk.rd {a : Addr} {o : HO} (l : Lk d od kvs H0 H) (h : H0 a = some o) (n : a ≠ d) : H a = some o := l.ex _ _ h n
end
/-! ### what a list of keys has -/
theorem HDk.atL {S : List Addr} {H : Hp} {kvs : List (Key × V)} {L : List Nat} {d : Nat → DD} {i : Nat} {k : Key} {v : V} (h : HDk S H kvs (L.map fun (n : Nat) => ((Sum.inl (n : Int) : Key), d n))) (hi : kvs[i]? = Option.some (k, v)) : ∃ n : Nat, L[i]? = Option.some n ∧ k = Sum.inl (n : Int) ∧ HD S H v (d n) := by
  obtain ⟨e, h1, h2⟩ := h.at hi
  rw [List.getElem?_map] at h1
  cases hL : L[i]? with
  | none => rw [hL] at h1; cases h1
  | some n =>
    rw [hL] at h1
    have := Option.some.inj h1
    injection this with a b
    subst b
    exact ⟨n, rfl, a.symm, h2⟩
theorem lookL {L : List Nat} {d : Nat → DD} {n : Nat} (h : n ∈ L) : lookD (Sum.inl (n : Int)) (L.map fun (n : Nat) => ((Sum.inl (n : Int) : Key), d n)) = some (d n) := by
  induction L with
  | nil => cases h
  | cons x r ih =>
    show (if (Sum.inl (x : Int) : Key) = Sum.inl (n : Int) then some (d x) else lookD (Sum.inl (n : Int)) (r.map fun (n : Nat) => ((Sum.inl (n : Int) : Key), d n))) = some (d n)
    by_cases e : x = n
    · rw [e, if_pos rfl]
    · rw [if_neg (fun z => e (by have := Sum.inl.inj z; omega))]
      exact ih (by rcases List.mem_cons.mp h with z | z; (exact absurd z.symm e); exact z)
theorem lookL_no {L : List Nat} {d : Nat → DD} {t : Int} (h : ∀ n ∈ L, (n : Int) ≠ t) : lookD (Sum.inl t) (L.map fun (n : Nat) => ((Sum.inl (n : Int) : Key), d n)) = none := by
  refine lookD_none ?_
  rw [List.all_map]
  exact List.all_eq_true.mpr fun y hy => decide_eq_true fun z => h y hy (Sum.inl.inj z)
theorem HD.opt_inv {S : List Addr} {H : Hp} {v : V} {o : Option Int} (h : HD S H v (oD o)) : v = oI o := by
  cases o with
  | none => exact h.non_inv
  | some i => exact h.int_inv
theorem mem_fr {μ : Mem} {k : Int} {f : Nat} : f ∈ fr μ k ↔ f < 32 ∧ μ (ix 1 (f : Int)) = k := by
  unfold fr
  rw [List.mem_filter, List.mem_range]
  refine and_congr Iff.rfl ⟨fun z => ?_, fun z => ?_⟩
  · exact V.int.inj (of_decide_eq_true z)
  · exact decide_eq_true (by rw [z])
/-! ### the queues, as plain numbers -/
def isT (μ : Mem) (t : Int) : Bool := decide (0 ≤ t ∧ t < 32 ∧ μ (ix 1 t) = 5)
def qd (x : Int) : Bool := inV (.int x) [.int 2, .int 3, .int 4, .int 6, .int 7]
def rqOk (μ : Mem) (n : Nat) (t : Int) : Bool := (isT μ t && decide (μ (ix t 0) = 1)) && decide ((n : Int) = μ (ix t 22) * 4 + (if μ (ix t 24) > μ (ix t 12) then μ (ix t 24) else μ (ix t 12)))
def eqOk (μ : Mem) (f : Nat) (t : Int) : Bool := isT μ t && (qd (μ (ix t 0)) && decide (mayI (μ (ix t 16)) = some (f : Int)))
def cnt (t : Int) (done : List Int) : Int := ((done.count t : Nat) : Int)
def repOk (μ : Mem) : Option Int → Bool
  | none => true
  | some r => isT μ r && decide (μ (ix r 0) = 5)
def thOk (μ : Mem) (done : List Int) (f : Nat) : Bool := decide (cnt (f : Int) done = if decide (μ (ix (f : Int) 0) = 1) || qd (μ (ix (f : Int) 0)) then 1 else 0) && repOk μ (mayI (μ (ix (f : Int) 21)))
def rqL (rq : Nat → List Int) : List Nat := (List.range 8).filter fun n => !(rq n).isEmpty
def eqL (μ : Mem) : List Nat := fr μ 6 ++ fr μ 7
def allD (μ : Mem) (rq eq : Nat → List Int) : List Int := (rqL rq).flatMap rq ++ (eqL μ).flatMap eq
def chkQ (μ : Mem) (rq eq : Nat → List Int) : Bool := ((rqL rq).all fun n => (rq n).all (rqOk μ n)) && (((eqL μ).all fun f => (eq f).all (eqOk μ f)) && (fr μ 5).all (thOk μ (allD μ rq eq)))
/-- how often each was seen -/
structure Seen (sk : List (Key × V)) (done : List Int) : Prop where
  n : ∀ t : Int, (valV sk (Sum.inl t)).getD (.int 0) = .int (cnt t done)
  l : sk.length ≤ done.length
theorem Seen.nil : Seen [] [] := ⟨fun t => rfl, Nat.le_refl _⟩
theorem Seen.put {sk : List (Key × V)} {done : List Int} {t : Int} (h : Seen sk done) : Seen (putK sk (Sum.inl t) (.int (cnt t done + 1))) (done ++ [t]) := ⟨fun j => by
  rw [valV_put]
  unfold cnt
  rw [List.count_append, List.count_singleton]
  by_cases e : j = t
  · subst e
    rw [if_pos rfl]
    simp
  · rw [if_neg (fun z => e (Sum.inl.inj z)), h.n j]
    unfold cnt
    rw [if_neg (by simpa using fun z => e z.symm)]
    simp, by
  have := length_putK sk (Sum.inl t) (.int (cnt t done + 1))
  have := h.l
  rw [List.length_append]
  simp
  omega⟩
section
variable {S : List Addr} {H : Hp} {μ : Mem}
theorem isT_fr {t : Int} (h : isT μ t = true) : ∃ f : Nat, (f : Int) = t ∧ f ∈ fr μ 5 := by
  have h := of_decide_eq_true h
  refine ⟨t.toNat, by omega, ?_⟩
  rw [mem_fr, Int.toNat_of_nonneg h.1]
  exact ⟨by omega, h.2.2⟩
theorem fr_isT {f : Nat} (h : f ∈ fr μ 5) : isT μ (f : Int) = true := by
  have h := mem_fr.mp h
  exact decide_eq_true ⟨by omega, by omega, h.2⟩
theorem thr_yes {tk : List (Key × V)} {t : Int} (h : HDk S H tk (frD μ 5 fun f => .dct (threadD μ (f : Int)))) (ht : isT μ t = true) : ∃ a kv, valV tk (Sum.inl t) = some (.ref a) ∧ H a = some (.dK kv) ∧ HDk S H kv (threadD μ t) := by
  obtain ⟨f, rfl, hf⟩ := isT_fr ht
  obtain ⟨v, h1, h2⟩ := h.some (lookL (d := fun f => .dct (threadD μ (f : Int))) hf)
  obtain ⟨a, kv, rfl, h3, _, h4⟩ := h2.dct_inv
  exact ⟨a, kv, h1, h3, h4⟩
theorem thr_no {tk : List (Key × V)} {t : Int} (h : HDk S H tk (frD μ 5 fun f => .dct (threadD μ (f : Int)))) (ht : isT μ t = false) : valV tk (Sum.inl t) = none := by
  refine h.none (lookL_no fun n hn z => ?_)
  rw [← z, fr_isT hn] at ht
  cases ht
theorem th_state {kv : List (Key × V)} {t : Int} (h : HDk S H kv (threadD μ t)) : valV kv (Sum.inr "state") = some (.int (μ (ix t 0))) := by
  obtain ⟨v, h1, h2⟩ := h.some (k := Sum.inr "state") (d := .int (μ (ix t 0))) (by rfl)
  rw [h1, h2.int_inv]
theorem th_domain {kv : List (Key × V)} {t : Int} (h : HDk S H kv (threadD μ t)) : valV kv (Sum.inr "domain") = some (.int (μ (ix t 22))) := by
  obtain ⟨v, h1, h2⟩ := h.some (k := Sum.inr "domain") (d := .int (μ (ix t 22))) (by rfl)
  rw [h1, h2.int_inv]
theorem th_priority {kv : List (Key × V)} {t : Int} (h : HDk S H kv (threadD μ t)) : valV kv (Sum.inr "priority") = some (.int (μ (ix t 12))) := by
  obtain ⟨v, h1, h2⟩ := h.some (k := Sum.inr "priority") (d := .int (μ (ix t 12))) (by rfl)
  rw [h1, h2.int_inv]
theorem th_lent {kv : List (Key × V)} {t : Int} (h : HDk S H kv (threadD μ t)) : valV kv (Sum.inr "lent") = some (.int (μ (ix t 24))) := by
  obtain ⟨v, h1, h2⟩ := h.some (k := Sum.inr "lent") (d := .int (μ (ix t 24))) (by rfl)
  rw [h1, h2.int_inv]
theorem th_on {kv : List (Key × V)} {t : Int} (h : HDk S H kv (threadD μ t)) : valV kv (Sum.inr "on") = some (oI (mayI (μ (ix t 16)))) := by
  obtain ⟨v, h1, h2⟩ := h.some (k := Sum.inr "on") (d := oD (mayI (μ (ix t 16)))) (by rfl)
  rw [h1, h2.opt_inv]
theorem th_reply {kv : List (Key × V)} {t : Int} (h : HDk S H kv (threadD μ t)) : valV kv (Sum.inr "reply") = some (oI (mayI (μ (ix t 21)))) := by
  obtain ⟨v, h1, h2⟩ := h.some (k := Sum.inr "reply") (d := oD (mayI (μ (ix t 21)))) (by rfl)
  rw [h1, h2.opt_inv]
theorem ab_dct {kvs : List (Key × V)} {rq eq : Nat → List Int} {x : Str} {ds : List (Key × DD)} (h : HDk S H kvs (absD μ rq eq)) (e : lookD (Sum.inr x) (absD μ rq eq) = some (.dct ds)) : ∃ a kv, valV kvs (Sum.inr x) = some (.ref a) ∧ H a = some (.dK kv) ∧ HDk S H kv ds := by
  obtain ⟨v, h1, h2⟩ := h.some e
  obtain ⟨a, kv, rfl, h3, _, h4⟩ := h2.dct_inv
  exact ⟨a, kv, h1, h3, h4⟩
end
section
variable {σ : L2.St} {H : Hp} {K : PySem.W.Frag} {D : Ends} {td ty tx te : TE} {tu tz : TS} {g : TG}
/-- for .. in list(d.items()) + list(e.items()) -/
theorem q_forLI2 {tb : TE} {d1 d2 : Addr} {k1 k2 : List (Key × V)} (h1 : Ev td σ H (.ref d1)) (h2 : ∀ H1, Ex H H1 → Ev tb σ H1 (.ref d2)) (a1 : H d1 = some (.dK k1)) (a2 : H d2 = some (.dK k2)) (hz : k1.length + k2.length ≤ 100000)
    (k : ∀ p xs H1, Ex H H1 → H1 p = some (.lst xs) → xs.length = (k1 ++ k2).length → (∀ (i : Nat) kv, (k1 ++ k2)[i]? = some kv → ∃ T, xs[i]? = some (V.ref T) ∧ H1 T = some (.tup [kV kv.1, kv.2])) →
      ∃ Pv : Nat → L2.St → Hp → Prop, Pv 0 σ H1 ∧ (∀ i σ' H', Pv i σ' H' → H' p = some (.lst xs)) ∧ (∀ i x σ' H', xs[i]? = some x → Pv i σ' H' → g x σ' H' fun σ2 H2 => tu { D with nx := Pv (i + 1), ct := Pv (i + 1), bk := tz D } σ2 H2) ∧ ∀ σ' H', Pv xs.length σ' H' → tz D σ' H') :
    tSeq (tFor (iList K (tOp rCat (LiI.tListItems td) (LiI.tListItems tb))) g tu) tz D σ H :=
  h1 H (Ex.refl H) _ fun H1 e1 => ⟨d1, k1, rfl, e1 _ _ a1, fun H2 p ts e2 _ _ _ hp hT => h2 H2 (e1.trans e2) H2 (Ex.refl H2) _ fun H3 e3 => ⟨d2, k2, rfl, e3 _ _ (e2 _ _ (e1 _ _ a2)), fun H4 q us e4 _ _ _ hq hU => by
    have l1 : ts.length = k1.length := Paired.length hT
    have l2 : us.length = k2.length := Paired.length hU
    refine ⟨p, q, ts.map V.ref, us.map V.ref, rfl, rfl, e4 _ _ (e3 _ _ hp), hq, sz_of (by rw [List.length_map, List.length_map]; omega), fun r hr => ?_⟩
    have e5 : Ex H4 (upd H4 r (.lst (ts.map V.ref ++ us.map V.ref))) := Ex.new hr
    obtain ⟨Pv, c0, c1, c2, c3⟩ := k r (ts.map V.ref ++ us.map V.ref) _ ((((e1.trans e2).trans e3).trans e4).trans e5) upd_same (by simp [l1, l2]) fun i kv hi => by
      by_cases hlt : i < k1.length
      · rw [List.getElem?_append_left hlt] at hi
        have hti : ts[i]? = some (ts[i]'(by omega)) := List.getElem?_eq_getElem (by omega)
        obtain ⟨kv', x1, x2⟩ := LiI.paired_get hT hti
        rw [hi] at x1
        cases x1
        exact ⟨ts[i]'(by omega), by rw [List.getElem?_append_left (by rw [List.length_map]; omega), List.getElem?_map, hti]; rfl, e5 _ _ (e4 _ _ (e3 _ _ x2))⟩
      · rw [List.getElem?_append_right (by omega)] at hi
        have hj := (List.getElem?_eq_some_iff.mp hi).1
        have hti : us[i - k1.length]? = some (us[i - k1.length]'(by omega)) := List.getElem?_eq_getElem (by omega)
        obtain ⟨kv', x1, x2⟩ := LiI.paired_get hU hti
        rw [hi] at x1
        cases x1
        exact ⟨us[i - k1.length]'(by omega), by rw [List.getElem?_append_right (by rw [List.length_map]; omega), List.length_map, l1, List.getElem?_map, hti]; rfl, e5 _ _ x2⟩
    exact ⟨r, rfl, ⟨_, sq_of upd_same⟩, for_list (D := { D with nx := tz D }) Pv c0 (fun i σ' H' _ h => sq_of (c1 i σ' H' h)) c2 c3⟩⟩⟩
end
end KX

namespace KX
open KA KQ KD
open PySem PySem.Spec PyProof.Rows L2 Evl TL
section
variable {σ : L2.St} {H : Hp} {K : PySem.W.Frag} {D : Ends} {td ty tv : TE} {tz : TS}
theorem s_dputB {v : V} {a : Addr} {kvs : List (Key × V)} {k : Key} (hv : Ev tv σ H v) (hd : Ev td σ H (.ref a)) (hy : Ev ty σ H (kV k)) (ha : H a = some (.dK kvs)) (hz : kvs.length ≤ 90000) (kk : ∀ H1, Ex H H1 → D.nx σ (upd H1 a (.dK (putK kvs k v)))) : sDPut td ty tv D σ H :=
  hv H (Ex.refl H) _ fun H1 e1 => hd H1 e1 _ fun H2 e2 => hy H2 (e1.trans e2) _ fun H3 e3 => ⟨a, _, rfl, DPut.k (((e1.trans e2).trans e3) _ _ ha) (sz_lt (by omega)), kk H3 ((e1.trans e2).trans e3)⟩
theorem s_count {sn : Addr} {sk : List (Key × V)} {done : List Int} {t : Int} (h1 : σ[1]? = some (some (.ref sn))) (h4 : σ[4]? = some (some (.int t))) (hs : H sn = some (.dK sk)) (hS : Seen sk done) (hz : done.length ≤ 90000) (kk : ∀ H1 sk', Ex H H1 → Seen sk' (done ++ [t]) → D.nx σ (upd H1 sn (.dK sk'))) :
    sDPut (tVar 1) (tVar 4) (tOp (rI0 fun i j => V.int (i + j)) (tDGet2 (tVar 1) (tVar 4) (tC (.int 0))) (tC (.int 1))) D σ H :=
  s_dputB (k := Sum.inl t) (ev_op (evx_dget2 (k := Sum.inl t) (ev_var h1) (ev_var h4) ev_c (RdX.refl H) hs (hS.n t)) ev_c rv_I0) (ev_var h1) (ev_var h4) hs (by have := hS.l; omega) fun H1 e1 => kk H1 _ e1 hS.put
end
/-- .., at the end -/
theorem s_forItems {σ : L2.St} {H : Hp} {D : Ends} {td : TE} {tu : TS} {d : Addr} {kvs : List (Key × V)} {g : TG} (hd : ∀ od, Ev td σ (upd H d (.frz od (.dK kvs))) (.ref d)) (ha : H d = some (.dK kvs)) (Pv : Obj → Nat → L2.St → Hp → Prop) (h0 : ∀ od, Pv od 0 σ (upd H d (.frz od (.dK kvs)))) (hl : ∀ od i σ' H', Pv od i σ' H' → H' d = some (.frz od (.dK kvs))) (h00 : ∀ od i σ' H' H'', Pv od i σ' H' → Ex H' H'' → Pv od i σ' H'')
    (hs : ∀ od i k v σ' H' T, kvs[i]? = some (k, v) → Pv od i σ' H' → H' T = none → g (.ref T) σ' (upd H' T (.tup [kV k, v])) fun σ2 H2 => tu { nx := Pv od (i + 1), rt := fun v H' => H' d = some (.frz od (.dK kvs)) ∧ D.rt v (upd H' d (.dK kvs)), bk := fun σ' H' => H' d = some (.frz od (.dK kvs)) ∧ D.nx σ' (upd H' d (.dK kvs)), ct := Pv od (i + 1) } σ2 H2)
    (hd2 : ∀ od σ' H', Pv od kvs.length σ' H' → D.nx σ' (upd H' d (.dK kvs))) : tLock (tFor (iItems td) g tu) D σ H := q_forItems (D := D) (tz := fun D σ H => D.nx σ H) hd ha Pv h0 hl h00 hs hd2
theorem take1 {α : Type} {L : List α} {i : Nat} {n : α} (h : L[i]? = some n) : L.take (i + 1) = L.take i ++ [n] := by rw [List.take_add_one, h]; rfl
theorem ev_int1 {σ : L2.St} {H : Hp} {te : TE} {b : Bool} (h : Ev te σ H (.bl b)) : Ev (tCB (fun xs H Q => (∃ i, xs = [.int i] ∧ Q (.int i) H) ∨ ∃ k, xs = [.bl k] ∧ Q (.int (if k then 1 else 0)) H) (tCons te tNil)) σ H (.int (if b then 1 else 0)) := fun H1 e Q q => h H1 e _ fun H2 e2 => .inr ⟨b, rfl, q H2 e2⟩
theorem oI_dec {o : Option Int} {i : Int} : decide (oI o = .int i) = decide (o = some i) := by
  cases o with
  | none => rfl
  | some j =>
    rw [decide_eq_decide]
    exact ⟨fun z => by rw [V.int.inj z], fun z => by rw [Option.some.inj z]; rfl⟩
theorem scal_oI {o : Option Int} {i : Int} : scal (oI o) (.int i) = true := by cases o <;> rfl
theorem scal_oR {b : Bool} {i : Int} : scal (if b = true then V.int i else V.non) (.int 5) = true := by cases b <;> rfl
theorem ev_rep {σ : L2.St} {H0 H : Hp} {ty : TE} {st td : Addr} {kvs tk : List (Key × V)} {μ : Mem} {r : Int} {S : List Addr} (h0 : σ[0]? = some (some (.ref st))) (rx : RdX H0 H) (hst : H0 st = some (.dK kvs)) (vt : valV kvs (Sum.inr "threads") = some (.ref td)) (htd : H0 td = some (.dK tk)) (htk : HDk S H0 tk (frD μ 5 fun f => .dct (threadD μ (f : Int)))) (hy : Ev ty σ H (.int r)) :
    Ev (tDGet (tDGet2 (tDGet (tVar 0) (tC (.str "threads"))) ty (tDisp [(tC (.str "state"), tC .non)])) (tC (.str "state"))) σ H (if isT μ r = true then .int (μ (ix r 0)) else .non) := fun H1 e Q q =>
  (evx_dg (k := Sum.inr "threads") (ev_var h0) ev_c rx hst vt : Ev _ σ H _) H1 e _ fun H2 e2 => ⟨td, rfl, .inl ⟨tk, (rx.trans (RdX.ex (e.trans e2))).dk _ _ (.inl htd)⟩, hy H2 (e.trans e2) _ fun H3 e3 => fun p hp => by
    have e4 : Ex H3 (upd H3 p (.dK [(Sum.inr "state", .non)])) := Ex.new hp
    have r4 := rx.trans (RdX.ex (((e.trans e2).trans e3).trans e4))
    refine ⟨upd_same, [(Sum.inr "state", .non)], rfl, by show 1 ≤ 15; decide, ?_⟩
    rw [upd_upd]
    refine ⟨_, r4.get (k := Sum.inl r) htd, ?_⟩
    cases hT : isT μ r with
    | true =>
      obtain ⟨a, kv, v1, ha, hkv⟩ := thr_yes htk hT
      rw [v1]
      refine ⟨a, .int (μ (ix r 0)), rfl, ?_, by have := q _ ((e2.trans e3).trans e4); rw [hT] at this; exact this⟩
      rw [← th_state hkv]
      exact r4.get (k := Sum.inr "state") ha
    | false =>
      rw [thr_no htk hT]
      refine ⟨p, .non, rfl, ?_, by have := q _ ((e2.trans e3).trans e4); rw [hT] at this; exact this⟩
      exact (RdX.refl _).get (k := Sum.inr "state") upd_same⟩
theorem flat_k {g : Nat → List Int} : ∀ {L : List Nat}, (∀ n ∈ L, (g n).length ≤ 1000) → (L.flatMap g).length ≤ 1000 * L.length
  | [], _ => Nat.zero_le _
  | n :: L, h => by
    rw [List.flatMap_cons, List.length_append, List.length_cons]
    have := h n List.mem_cons_self
    have := flat_k (g := g) (L := L) fun m hm => h m (List.mem_cons_of_mem _ hm)
    omega
section
variable {P : Program} {w : World} {K : PySem.W.Frag} {mg : Str → Option Value} {base : Heap}
def sp_check_queues (K : PySem.W.Frag) : Sp := fun vs H Q E => ∃ (st : Addr) (kvs : List (Key × V)) (μ : Mem) (rq eq : Nat → List Int) (S : List Addr), vs = [.ref st] ∧ H st = some (.dK kvs) ∧ HDk S H kvs (absD μ rq eq) ∧ (∀ n, n < 8 → (rq n).length ≤ 1000) ∧ (∀ f ∈ eqL μ, (eq f).length ≤ 1000) ∧ (chkQ μ rq eq = true → ∀ H', Ex H H' → Q .non H') ∧ (chkQ μ rq eq = false → ∀ H', RdX H H' → E (.ref (He.ga K "InvalidState")) none H')
theorem ok_check_queues (T : Txt K mg) : FnOk P w K mg base (L2.CX P w) 2 (f_check_queues K) (fd_check_queues K) ["state"] (sp_check_queues K) := by
  refine T.fn_check_queues.ok sc_check_queues (fun vs H Q E h => ?_) (fun cdv A outer s H vs Q E hr h => ?_)
  · obtain ⟨_, _, _, _, _, _, rfl, _⟩ := h
    rfl
  have hu := hu_of hr
  refine ⟨_, (pss_cons (ps_set (i := 1) sc_check_queues.nd rfl (Or.inl rfl) pe_dnewK) (pss_cons (ps_lock (ps_for (passes_of rfl) rfl (pi_items (pe_dget hu (pv 0) pe_str (fun _ _ => rfl))) (pg_tup (by rfl) (pgs_cons (pg_name (i := 2) sc_check_queues.nd rfl (Or.inl rfl)) (pgs_cons (pg_name (i := 3) sc_check_queues.nd rfl (Or.inl rfl)) pgs_nil))) (pss_one (ps_for (passes_of rfl) rfl (pi_tup (pv 3)) (pg_name (i := 4) sc_check_queues.nd rfl (Or.inl rfl)) (pss_cons (ps_set (i := 5) sc_check_queues.nd rfl (Or.inl rfl) (pe_dget1 hu (pe_dget hu (pv 0) pe_str (fun _ _ => rfl)) (pv 4) ⟨rfl, rfl, rfl, rfl⟩)) (pss_cons (ps_set (i := 6) sc_check_queues.nd rfl (Or.inl rfl) (pe_and (pe_cmpR op_notN (pv 5) pe_non (nomark _)) (pe_one (pe_cmpR op_eq (pe_dget hu (pv 5) pe_str (fun _ _ => rfl)) (T.pg_READY) (nomark _))))) (pss_cons (ps_if (PW.pt (pw_or (pt_not (pt_val (pv 6))) (pw_or1 (pt_cmpR op_ne (pv 2) (pe_op op_add (pe_op op_mul (pe_dget hu (pv 5) pe_str (fun _ _ => rfl)) (T.pg_PRIORITIES)) (pe_callB (call_max2 rfl) (by rfl) T.free_max (by decide +kernel) (pa_cons (pe_dget hu (pv 5) pe_str (fun _ _ => rfl)) (pa_cons (pe_dget hu (pv 5) pe_str (fun _ _ => rfl)) pa_nil)))) (nomark _))))) (pss_one (ps_raise rfl (takes_of rfl rfl rfl rfl) (pmk_own F.excBase_ValueError T.exc_InvalidState.1 T.glo_InvalidState T.exc_InvalidState.2.1 T.raises_InvalidState (by rfl)))) pss_nil) (pss_one (ps_dput hu (pv 1) (pv 4) (pe_op op_add (pe_dget2 hu (pv 1) (pv 4) pe_int ⟨rfl, rfl, rfl, rfl⟩) pe_int) rfl))))))))) (pss_cons (ps_for (passes_of rfl) rfl (pi_list (pe_op op_cat (LiI.pe_listItems rfl (pe_dget hu (pv 0) pe_str (fun _ _ => rfl)) (by rfl) T.free_list (by decide +kernel)) (LiI.pe_listItems rfl (pe_dget hu (pv 0) pe_str (fun _ _ => rfl)) (by rfl) T.free_list (by decide +kernel)))) (pg_tup (by rfl) (pgs_cons (pg_name (i := 7) sc_check_queues.nd rfl (Or.inl rfl)) (pgs_cons (pg_tup (by rfl) (pgs_cons (pg_name (i := 8) sc_check_queues.nd rfl (Or.inl rfl)) (pgs_cons (pg_name (i := 3) sc_check_queues.nd rfl (Or.inl rfl)) pgs_nil))) pgs_nil))) (pss_one (ps_for (passes_of rfl) rfl (pi_tup (pv 3)) (pg_name (i := 4) sc_check_queues.nd rfl (Or.inl rfl)) (pss_cons (ps_set (i := 5) sc_check_queues.nd rfl (Or.inl rfl) (pe_dget1 hu (pe_dget hu (pv 0) pe_str (fun _ _ => rfl)) (pv 4) ⟨rfl, rfl, rfl, rfl⟩)) (pss_cons (ps_if (PW.pt (pw_or (pt_cmpR op_isN (pv 5) pe_non (nomark _)) (pw_or (pt_cmpR op_notIn_seq (pe_dget hu (pv 5) pe_str (fun _ _ => rfl)) (T.pg_QUEUED) (by rfl)) (pw_or1 (pt_cmpR op_ne (pe_dget hu (pv 5) pe_str (fun _ _ => rfl)) (pv 7) (nomark _)))))) (pss_one (ps_raise rfl (takes_of rfl rfl rfl rfl) (pmk_own F.excBase_ValueError T.exc_InvalidState.1 T.glo_InvalidState T.exc_InvalidState.2.1 T.raises_InvalidState (by rfl)))) pss_nil) (pss_one (ps_dput hu (pv 1) (pv 4) (pe_op op_add (pe_dget2 hu (pv 1) (pv 4) pe_int ⟨rfl, rfl, rfl, rfl⟩) pe_int) rfl))))))) (pss_one (ps_lock (ps_for (passes_of rfl) rfl (pi_items (pe_dget hu (pv 0) pe_str (fun _ _ => rfl))) (pg_tup (by rfl) (pgs_cons (pg_name (i := 4) sc_check_queues.nd rfl (Or.inl rfl)) (pgs_cons (pg_name (i := 5) sc_check_queues.nd rfl (Or.inl rfl)) pgs_nil))) (pss_cons (ps_if (pt_cmpR op_ne (pe_dget2 hu (pv 1) (pv 4) pe_int ⟨rfl, rfl, rfl, rfl⟩) (pe_callTy call_int1 (by rfl) T.free_int (by decide +kernel) (pa_cons (pe_or (pe_cmpR op_eq (pe_dget hu (pv 5) pe_str (fun _ _ => rfl)) (T.pg_READY) (nomark _)) (pe_one (pe_cmpR op_in_seq (pe_dget hu (pv 5) pe_str (fun _ _ => rfl)) (T.pg_QUEUED) (by rfl)))) pa_nil)) (nomark _)) (pss_one (ps_raise rfl (takes_of rfl rfl rfl rfl) (pmk_own F.excBase_ValueError T.exc_InvalidState.1 T.glo_InvalidState T.exc_InvalidState.2.1 T.raises_InvalidState (by rfl)))) pss_nil) (pss_one (ps_if (PW.pt (pw_and (pt_cmpR op_notN (pe_dget hu (pv 5) pe_str (fun _ _ => rfl)) pe_non (nomark _)) (pw_and1 (pt_cmpR op_ne (pe_dget hu (pe_dget2 hu (pe_dget hu (pv 0) pe_str (fun _ _ => rfl)) (pe_dget hu (pv 5) pe_str (fun _ _ => rfl)) (pe_disp (pps_cons pe_str pe_non pps_nil) (by rfl) (by rfl) (fun z => by cases z) (by decide)) ⟨rfl, rfl, rfl, rfl⟩) pe_str (fun _ _ => rfl)) pe_int (nomark _))))) (pss_one (ps_raise rfl (takes_of rfl rfl rfl rfl) (pmk_own F.excBase_ValueError T.exc_InvalidState.1 T.glo_InvalidState T.exc_InvalidState.2.1 T.raises_InvalidState (by rfl)))) pss_nil))))))))), ?_⟩
  obtain ⟨st, kvs, μ, rq, eq, S, rfl, hst, hk, hrq, heq, kY, kN⟩ := h
  obtain ⟨rd, rk, vr, hrd, hrk⟩ := ab_dct (x := "ready") hk (by rfl)
  obtain ⟨td, tk, vt, htd, htk⟩ := ab_dct (x := "threads") hk (by rfl)
  obtain ⟨ed, ek, ve, hed, hek⟩ := ab_dct (x := "ends") hk (by rfl)
  obtain ⟨nd, nk, vn, hnd, hnk⟩ := ab_dct (x := "notices") hk (by rfl)
  have mr : ∀ n ∈ rqL rq, n < 8 := fun n hn => List.mem_range.mp (List.mem_filter.mp hn).1
  have lr : (rqL rq).length ≤ 8 := by
    have := List.length_filter_le (fun n => !(rq n).isEmpty) (List.range 8)
    rw [List.length_range] at this
    exact this
  have le : (eqL μ).length ≤ 64 := by
    unfold eqL
    rw [List.length_append]
    have := fr_len (μ := μ) (k := 6)
    have := fr_len (μ := μ) (k := 7)
    omega
  have chk_r : ∀ n ∈ rqL rq, ∀ t ∈ rq n, rqOk μ n t = false → ∀ H', RdX H H' → E (.ref (He.ga K "InvalidState")) none H' := fun n hn t ht hf => kN (by
    cases hc : chkQ μ rq eq with
    | false => rfl
    | true =>
      unfold chkQ at hc
      rw [Bool.and_eq_true] at hc
      have := List.all_eq_true.mp (List.all_eq_true.mp hc.1 n hn) t ht
      rw [hf] at this
      cases this)
  have chk_e : ∀ f ∈ eqL μ, ∀ t ∈ eq f, eqOk μ f t = false → ∀ H', RdX H H' → E (.ref (He.ga K "InvalidState")) none H' := fun n hn t ht hf => kN (by
    cases hc : chkQ μ rq eq with
    | false => rfl
    | true =>
      unfold chkQ at hc
      rw [Bool.and_eq_true, Bool.and_eq_true] at hc
      have := List.all_eq_true.mp (List.all_eq_true.mp hc.2.1 n hn) t ht
      rw [hf] at this
      cases this)
  have chk_t : ∀ f ∈ fr μ 5, thOk μ (allD μ rq eq) f = false → ∀ H', RdX H H' → E (.ref (He.ga K "InvalidState")) none H' := fun n hn hf => kN (by
    cases hc : chkQ μ rq eq with
    | false => rfl
    | true =>
      unfold chkQ at hc
      rw [Bool.and_eq_true, Bool.and_eq_true] at hc
      have := List.all_eq_true.mp hc.2.2 n hn
      rw [hf] at this
      cases this)
  intro sn hsn
  have nsr : sn ≠ rd := fun z => by rw [z, hrd] at hsn; cases hsn
  have hst1 : upd H sn (.dK []) st = some (.dK kvs) := (Ex.new hsn) _ _ hst
  have rx : ∀ {od H'}, Lk rd od rk H H' → RdX H H' := fun l => l.rdx hrd
  refine q_forItems (d := rd) (kvs := rk) (fun od => evx_dg (ev_var rfl) ev_c (RdX.frz ((Ex.new hsn) _ _ hrd)) hst1 vr) ((Ex.new hsn) _ _ hrd) (fun od i σ' H' => ∃ x2 x3 x4 x5 x6 sk, σ' = [some (.ref st), some (.ref sn), x2, x3, x4, x5, x6, none, none] ∧ Lk rd od rk H H' ∧ H' sn = some (.dK sk) ∧ Seen sk (((rqL rq).take i).flatMap rq) ∧ ((rqL rq).take i).all (fun n => (rq n).all (rqOk μ n)) = true) (fun od => ⟨none, none, none, none, none, [], rfl, Lk.in (Ex.new hsn), by rw [upd_ne nsr, upd_same], Seen.nil, rfl⟩) (fun od i σ' H' h => ?_) (fun od i σ' H' H'' h e => ?_) (fun od i k v σ' H' T' hi h hT => ?_) (fun od σ' H' h => ?_)
  · obtain ⟨_, _, _, _, _, _, _, l, _⟩ := h
    exact l.fr
  · obtain ⟨x2, x3, x4, x5, x6, sk, a, l, b, c, d⟩ := h
    exact ⟨x2, x3, x4, x5, x6, sk, a, l.next e, e _ _ b, c, d⟩
  · obtain ⟨x2, x3, x4, x5, x6, sk, rfl, l, hs, hS, hA⟩ := h
    obtain ⟨n, hn, rfl, hv⟩ := (hrk : HDk S H rk ((rqL rq).map fun (n : Nat) => ((Sum.inl (n : Int) : Key), DD.tup ((rq n).map DD.int)))).atL hi
    obtain ⟨ra, us, rfl, hra, _, hus⟩ := hv.tup_inv
    have hus := hus.ints_inv
    subst hus
    have hnm := List.mem_of_getElem? hn
    have nra : ra ≠ rd := fun z => by rw [z, hrd] at hra; cases hra
    have e1 : Ex H' (upd H' T' (.tup [kV (Sum.inl (n : Int)), .ref ra])) := Ex.new hT
    refine ⟨T', _, rfl, st_of upd_same, rfl, _, _, rfl, _, _, rfl, rfl, ?_⟩
    refine s_forT (a := ra) (xs := (rq n).map V.int) (ev_var rfl) (st_of (e1 _ _ (l.rd hra nra))) (fun j σ2 H2 => ∃ x4 x5 x6 sk, σ2 = [some (.ref st), some (.ref sn), some (.int (n : Int)), some (.ref ra), x4, x5, x6, none, none] ∧ Lk rd od rk H H2 ∧ H2 sn = some (.dK sk) ∧ Seen sk (((rqL rq).take i).flatMap rq ++ (rq n).take j) ∧ ((rq n).take j).all (rqOk μ n) = true) (fun H2 e2 => ⟨x4, x5, x6, sk, rfl, (l.next e1).next e2, e2 _ _ (e1 _ _ hs), by rw [List.take_zero, List.append_nil]; exact hS, rfl⟩) (fun j σ2 H2 hj h => ?_) (fun j x σ2 H2 hj h => ?_) (fun σ2 H2 h => ?_)
    · obtain ⟨_, _, _, _, _, l2, _⟩ := h
      exact st_of (l2.rd hra nra)
    · obtain ⟨x4, x5, x6, sk2, rfl, l2, hs2, hS2, hA2⟩ := h
      rw [List.getElem?_map] at hj
      obtain ⟨t, ht, rfl⟩ : ∃ t, (rq n)[j]? = some t ∧ x = .int t := by
        cases hc : (rq n)[j]? with
        | none => rw [hc] at hj; cases hj
        | some t => rw [hc] at hj; exact ⟨t, rfl, (Option.some.inj hj).symm⟩
      have htm := List.mem_of_getElem? ht
      have hjb := hrq n (mr n hnm)
      have hfl := flat_k (g := rq) (L := (rqL rq).take i) fun m hm => hrq m (mr m (List.mem_of_mem_take hm))
      have hli : ((rqL rq).take i).length ≤ 8 := Nat.le_trans (List.length_take_le' _ _) lr
      have hjl : ((rq n).take j).length ≤ 1000 := Nat.le_trans (List.length_take_le' _ _) hjb
      have r2 := rx l2
      refine q_asg (v := (valV tk (Sum.inl t)).getD .non) (evx_dget1 (k := Sum.inl t) (evx_dg (ev_var rfl) ev_c r2 hst vt) (ev_var rfl) r2 htd rfl) fun H3 e3 => ?_
      have r3 := r2.trans (RdX.ex e3)
      cases hT : isT μ t with
      | false =>
        rw [thr_no htk hT]
        refine q_asg (v := .bl false) (ev_is (ev_andV (b := false) (ev_op (ev_var rfl) ev_c rv_notN) fun h => by cases h) rfl) fun H4 e4 => ?_
        exact q_when (b := true) (et_is (et_or (a := true) (b := false) (et_is (et_not (et_B (ev_var rfl))) rfl) fun h => by cases h) rfl) (fun _ H5 e5 => chk_r n hnm t htm (by unfold rqOk; rw [hT]; rfl) H5 (r3.trans (RdX.ex (e4.trans e5)))) (fun h => by cases h)
      | true =>
        obtain ⟨a, kv, v1, ha, hkv⟩ := thr_yes htk hT
        rw [v1]
        refine q_asg (v := .bl (decide (μ (ix t 0) = 1))) (ev_is (ev_andV (ev_op (ev_var rfl) ev_c rv_notN) fun _ => ev_op (evx_dg (ev_var rfl) ev_c r3 ha (th_state hkv)) ev_c (rv_eq rfl)) (by rw [KD_dec]; rfl)) fun H4 e4 => ?_
        have r4 := r3.trans (RdX.ex e4)
        refine q_when (b := !rqOk μ n t) (et_is (et_or (et_not (et_B (ev_var rfl))) fun _ => et_test (ev_op (ev_var rfl) (ev_op (ev_op (evx_dg (ev_var rfl) ev_c r4 ha (th_domain hkv)) ev_c (rv_I (.inr ⟨by decide, by decide⟩))) (ev_max2 (evx_dg (ev_var rfl) ev_c r4 ha (th_priority hkv)) (evx_dg (ev_var rfl) ev_c r4 ha (th_lent hkv))) rv_I0) (rv_ne rfl))) (by unfold rqOk; rw [hT, KD_dec, Bool.true_and, Bool.not_and])) (fun hb H5 e5 => ?_) (fun hb H5 e5 => ?_)
        · exact chk_r n hnm t htm (by rw [Bool.not_eq_true'] at hb; exact hb) H5 (r4.trans (RdX.ex e5))
        · rw [Bool.not_eq_false'] at hb
          refine s_count (sn := sn) (sk := sk2) (t := t) rfl rfl (((e3.trans e4).trans e5) _ _ hs2) hS2 (by rw [List.length_append]; omega) fun H6 sk' e6 hS6 => ⟨_, _, _, sk', rfl, (l2.next (((e3.trans e4).trans e5).trans e6)).mut hrd hsn, upd_same, ?_, ?_⟩
          · rw [take1 ht, ← List.append_assoc]
            exact hS6
          · rw [take1 ht, List.all_append, hA2, List.all_cons, hb]
            rfl
    · obtain ⟨x4, x5, x6, sk2, rfl, l2, hs2, hS2, hA2⟩ := h
      have tk1 : (rqL rq).take (i + 1) = (rqL rq).take i ++ [n] := take1 hn
      rw [List.length_map, List.take_length] at hS2 hA2
      refine ⟨_, _, x4, x5, x6, sk2, rfl, l2, hs2, ?_, ?_⟩
      · rw [tk1, List.flatMap_append, List.flatMap_cons, List.flatMap_nil, List.append_nil]
        exact hS2
      · rw [tk1, List.all_append, hA, List.all_cons, hA2]
        rfl
  · obtain ⟨x2, x3, x4, x5, x6, sk, rfl, l, hs, hS, hA⟩ := h
    have lk : rk.length = (rqL rq).length := by rw [hrk.len]; exact List.length_map _
    rw [lk, List.take_length] at hS hA
    have eA := l.out hrd
    have hsA : (upd H' rd (.dK rk)) sn = some (.dK sk) := by rw [upd_ne nsr]; exact hs
    clear l hs
    generalize upd H' rd (.dK rk) = HA at eA hsA ⊢
    have hE : HDk S H (ek ++ nk) ((eqL μ).map fun (f : Nat) => ((Sum.inl (f : Int) : Key), onE μ eq f)) := by
      unfold eqL
      rw [List.map_append]
      exact hek.append hnk
    have lE : (ek ++ nk).length = (eqL μ).length := by rw [hE.len, List.length_map]
    refine q_forLI2 (d1 := ed) (d2 := nd) (k1 := ek) (k2 := nk) (ev_dg (k := Sum.inr "ends") (ev_var rfl) ev_c (eA _ _ hst) ve) (fun H1 e1 => ev_dg (k := Sum.inr "notices") (ev_var rfl) ev_c (e1 _ _ (eA _ _ hst)) vn) (eA _ _ hed) (eA _ _ hnd) (by rw [← List.length_append]; omega) fun p xs HB eB hp hlen hxs => ?_
    refine ⟨fun i σ' H' => ∃ x2 x3 x4 x5 x7 x8 sk, σ' = [some (.ref st), some (.ref sn), x2, x3, x4, x5, x6, x7, x8] ∧ Ex H H' ∧ TK HB H' ∧ H' p = some (.lst xs) ∧ H' sn = some (.dK sk) ∧ Seen sk ((rqL rq).flatMap rq ++ ((eqL μ).take i).flatMap eq) ∧ ((eqL μ).take i).all (fun n => (eq n).all (eqOk μ n)) = true, ⟨x2, x3, x4, x5, none, none, sk, rfl, eA.trans eB, TK.ex (Ex.refl _), hp, eB _ _ hsA, by rw [List.take_zero, List.flatMap_nil, List.append_nil]; exact hS, rfl⟩, ?_, ?_, ?_⟩
    · rintro i σ' H' ⟨_, _, _, _, _, _, _, _, _, _, h, _⟩
      exact h
    · rintro i x σ' H' hx ⟨x2, x3, x4, x5, x7, x8, sk, rfl, eH, tk', hp', hs', hS', hA'⟩
      have hi : i < (ek ++ nk).length := by have := (List.getElem?_eq_some_iff.mp hx).1; omega
      obtain ⟨T', hT1, hT2⟩ := hxs i _ (List.getElem?_eq_getElem hi)
      rw [hx] at hT1
      cases hT1
      obtain ⟨f, hf, ekk, hv⟩ := hE.atL (k := ((ek ++ nk)[i]).1) (v := ((ek ++ nk)[i]).2) (List.getElem?_eq_getElem hi)
      obtain ⟨ta, us, ev1, hta, _, hus⟩ := hv.tup_inv
      cases hus with
      | cons h0 hus =>
      cases hus with
      | cons h1 hus =>
      cases hus
      cases h0.int_inv
      obtain ⟨rb, us, rfl, hrb, _, hus⟩ := h1.tup_inv
      cases hus.ints_inv
      rw [ekk, ev1] at hT2
      have hfm := List.mem_of_getElem? hf
      have hT3 := tk' _ _ hT2
      refine ⟨T', _, rfl, st_of hT3, rfl, _, _, rfl, _, _, rfl, ta, _, rfl, st_of (eH _ _ hta), rfl, _, _, rfl, _, _, rfl, rfl, rfl, ?_⟩
      have hjb := heq f hfm
      have hfl := flat_k (g := eq) (L := (eqL μ).take i) fun m hm => heq m (List.mem_of_mem_take hm)
      have hfr := flat_k (g := rq) (L := rqL rq) fun m hm => hrq m (mr m hm)
      have hli : ((eqL μ).take i).length ≤ 64 := Nat.le_trans (List.length_take_le' _ _) le
      have np : sn ≠ p := fun z => by rw [z, hp'] at hs'; cases hs'
      refine s_forT (a := rb) (xs := (eq f).map V.int) (ev_var rfl) (st_of (eH _ _ hrb)) (fun j σ2 H2 => ∃ x4 x5 sk, σ2 = [some (.ref st), some (.ref sn), x2, some (.ref rb), x4, x5, x6, some (.int (f : Int)), some (.int (μ (ix (f : Int) 0)))] ∧ Ex H H2 ∧ TK HB H2 ∧ H2 p = some (.lst xs) ∧ H2 sn = some (.dK sk) ∧ Seen sk (((rqL rq).flatMap rq ++ ((eqL μ).take i).flatMap eq) ++ (eq f).take j) ∧ ((eq f).take j).all (eqOk μ f) = true) (fun H2 e2 => ⟨x4, x5, sk, rfl, eH.trans e2, tk'.trans (TK.ex e2), e2 _ _ hp', e2 _ _ hs', by rw [List.take_zero, List.append_nil]; exact hS', rfl⟩) (fun j σ2 H2 hj h => ?_) (fun j x σ2 H2 hj h => ?_) (fun σ2 H2 h => ?_)
      · obtain ⟨_, _, _, _, e2, _⟩ := h
        exact st_of (e2 _ _ hrb)
      · obtain ⟨x4, x5, sk2, rfl, l2, tk2, hp2, hs2, hS2, hA2⟩ := h
        rw [List.getElem?_map] at hj
        obtain ⟨t, ht, rfl⟩ : ∃ t, (eq f)[j]? = some t ∧ x = .int t := by
          cases hc : (eq f)[j]? with
          | none => rw [hc] at hj; cases hj
          | some t => rw [hc] at hj; exact ⟨t, rfl, (Option.some.inj hj).symm⟩
        have htm := List.mem_of_getElem? ht
        have hjl : ((eq f).take j).length ≤ 1000 := Nat.le_trans (List.length_take_le' _ _) hjb
        have r2 := RdX.ex l2
        refine q_asg (v := (valV tk (Sum.inl t)).getD .non) (evx_dget1 (k := Sum.inl t) (evx_dg (ev_var rfl) ev_c r2 hst vt) (ev_var rfl) r2 htd rfl) fun H3 e3 => ?_
        have r3 := r2.trans (RdX.ex e3)
        cases hT : isT μ t with
        | false =>
          rw [thr_no htk hT]
          exact q_when (b := true) (et_is (et_or (a := true) (b := false) (et_is (et_test (ev_op (ev_var rfl) ev_c rv_isN)) rfl) fun h => by cases h) rfl) (fun _ H5 e5 => chk_e f hfm t htm (by unfold eqOk; rw [hT]; rfl) H5 (r3.trans (RdX.ex e5))) (fun h => by cases h)
        | true =>
          obtain ⟨a, kv, v1, ha, hkv⟩ := thr_yes htk hT
          rw [v1]
          refine q_when (b := !eqOk μ f t) (et_is (et_or (et_test (ev_op (ev_var rfl) ev_c rv_isN)) fun _ => et_or (et_test (ev_op (evx_dg (ev_var rfl) ev_c r3 ha (th_state hkv)) ev_c (rv_niT (T.tup_QUEUED _) rfl rfl))) fun _ => et_test (ev_op (evx_dg (ev_var rfl) ev_c r3 ha (th_on hkv)) (ev_var rfl) (rv_ne scal_oI))) (by unfold eqOk; rw [hT, oI_dec, Bool.true_and, Bool.not_and]; rfl)) (fun hb H5 e5 => ?_) (fun hb H5 e5 => ?_)
          · exact chk_e f hfm t htm (by rw [Bool.not_eq_true'] at hb; exact hb) H5 (r3.trans (RdX.ex e5))
          · rw [Bool.not_eq_false'] at hb
            refine s_count (sn := sn) (sk := sk2) (t := t) rfl rfl ((e3.trans e5) _ _ hs2) hS2 (by rw [List.length_append, List.length_append]; omega) fun H6 sk' e6 hS6 => ⟨_, _, sk', rfl, Ex.mut ((l2.trans (e3.trans e5)).trans e6) hsn, fun b us hb => ?_, by rw [upd_ne np.symm]; exact ((e3.trans e5).trans e6) _ _ hp2, upd_same, ?_, ?_⟩
            · have h6 := ((e3.trans e5).trans e6) _ _ (tk2 _ _ hb)
              have hs6 := ((e3.trans e5).trans e6) _ _ hs2
              rw [upd_ne (ne_of h6 hs6 (by intro z; cases z))]
              exact h6
            · rw [take1 ht, ← List.append_assoc]
              exact hS6
            · rw [take1 ht, List.all_append, hA2, List.all_cons, hb]
              rfl
      · obtain ⟨x4, x5, sk2, rfl, l2, tk2, hp2, hs2, hS2, hA2⟩ := h
        rw [List.length_map, List.take_length] at hS2 hA2
        refine ⟨x2, _, x4, x5, _, _, sk2, rfl, l2, tk2, hp2, hs2, ?_, ?_⟩
        · rw [take1 hf, List.flatMap_append, List.flatMap_cons, List.flatMap_nil, List.append_nil, ← List.append_assoc]
          exact hS2
        · rw [take1 hf, List.all_append, hA', List.all_cons, hA2]
          rfl
    · rintro σ' HC ⟨x2, x3, x4, x5, x7, x8, sk, rfl, eC, _, _, hsC, hSC, hAC⟩
      rw [hlen, lE, List.take_length] at hSC hAC
      have hSC : Seen sk (allD μ rq eq) := hSC
      refine s_forItems (d := td) (kvs := tk) (fun od => evx_dg (k := Sum.inr "threads") (ev_var (i := 0) rfl) ev_c (RdX.frz (eC _ _ htd)) (eC _ _ hst) vt) (eC _ _ htd) (fun od i σ' H' => ∃ x4 x5, σ' = [some (.ref st), some (.ref sn), x2, x3, x4, x5, x6, x7, x8] ∧ Lk td od tk H H' ∧ H' sn = some (.dK sk) ∧ ((fr μ 5).take i).all (thOk μ (allD μ rq eq)) = true) (fun od => ⟨x4, x5, rfl, Lk.in eC, by rw [upd_ne (fun z => by rw [z, htd] at hsn; cases hsn)]; exact hsC, rfl⟩) (fun od i σ' H' h => ?_) (fun od i σ' H' H'' h e => ?_) (fun od i k v σ' H' T' hi h hT => ?_) (fun od σ' H' h => ?_)
      · obtain ⟨_, _, _, l, _⟩ := h
        exact l.fr
      · obtain ⟨x4, x5, a, l, b, c⟩ := h
        exact ⟨x4, x5, a, l.next e, e _ _ b, c⟩
      · obtain ⟨x4, x5, rfl, l, hs, hA2⟩ := h
        obtain ⟨f, hf, rfl, hv⟩ := (htk : HDk S H tk ((fr μ 5).map fun (f : Nat) => ((Sum.inl (f : Int) : Key), DD.dct (threadD μ (f : Int))))).atL hi
        obtain ⟨a, kv, rfl, ha, _, hkv⟩ := hv.dct_inv
        have hfm := List.mem_of_getElem? hf
        have e1 : Ex H' (upd H' T' (.tup [kV (Sum.inl (f : Int)), .ref a])) := Ex.new hT
        refine ⟨T', _, rfl, st_of upd_same, rfl, _, _, rfl, _, _, rfl, rfl, ?_⟩
        have r1 := (l.rdx htd).trans (RdX.ex e1)
        have hs1 := e1 _ _ hs
        have l1 := l.next e1
        clear l
        generalize upd H' T' (.tup [kV (Sum.inl (f : Int)), .ref a]) = H1 at e1 r1 hs1 l1 ⊢
        refine q_when (b := !decide (cnt (f : Int) (allD μ rq eq) = if (decide (μ (ix (f : Int) 0) = 1) || qd (μ (ix (f : Int) 0))) = true then 1 else 0)) (et_is (et_test (ev_op (evx_dget2 (k := Sum.inl (f : Int)) (ev_var rfl) (ev_var rfl) ev_c (RdX.refl _) hs1 (hSC.n (f : Int))) (ev_int1 (ev_is (ev_orV (ev_op (evx_dg (ev_var rfl) ev_c r1 ha (th_state hkv)) ev_c (rv_eq rfl)) fun _ => ev_op (evx_dg (ev_var rfl) ev_c r1 ha (th_state hkv)) ev_c (rv_isT (T.tup_QUEUED _) rfl rfl)) (by rw [KD_dec]))) (rv_ne rfl))) (by rw [KD_dec]; rfl)) (fun hb H5 e5 => ?_) (fun hb H5 e5 => ?_)
        · refine chk_t f hfm ?_ H5 (r1.trans (RdX.ex e5))
          rw [Bool.not_eq_true'] at hb
          unfold thOk
          rw [hb]
          rfl
        rw [Bool.not_eq_false'] at hb
        have r5 := r1.trans (RdX.ex e5)
        refine s_when (b := !repOk μ (mayI (μ (ix (f : Int) 21)))) ?_ (fun hb2 H6 e6 => ?_) (fun hb2 H6 e6 => ?_)
        · have hre := th_reply hkv
          generalize mayI (μ (ix (f : Int) 21)) = o at hre
          refine et_is (et_and (b := match o with | none => false | some r => !decide ((if isT μ r = true then V.int (μ (ix r 0)) else V.non) = .int 5)) (et_test (ev_op (evx_dg (ev_var rfl) ev_c r5 ha hre) ev_c rv_notN)) fun hn => ?_) ?_
          · cases o with
            | none => cases hn
            | some r => exact et_test (ev_op (ev_rep rfl r5 hst vt htd htk (evx_dg (ev_var rfl) ev_c r5 ha hre)) ev_c (rv_ne scal_oR))
          · cases o with
            | none => rfl
            | some r =>
              show (true && !decide ((if isT μ r = true then V.int (μ (ix r 0)) else V.non) = .int 5)) = !(isT μ r && decide (μ (ix r 0) = 5))
              cases isT μ r with
              | true => rw [if_pos rfl, KD_dec]; rfl
              | false => rfl
        · refine chk_t f hfm ?_ H6 (r5.trans (RdX.ex e6))
          rw [Bool.not_eq_true'] at hb2
          unfold thOk
          rw [hb2, Bool.and_false]
        · rw [Bool.not_eq_false'] at hb2
          refine ⟨_, _, rfl, l1.next (e5.trans e6), (e5.trans e6) _ _ hs1, ?_⟩
          rw [take1 hf, List.all_append, hA2, List.all_cons]
          unfold thOk
          rw [hb, hb2]
          rfl
      · obtain ⟨x4, x5, rfl, l, _, hA2⟩ := h
        have lk : tk.length = (fr μ 5).length := by rw [htk.len]; exact List.length_map _
        rw [lk, List.take_length] at hA2
        refine kY ?_ _ (l.out htd)
        unfold chkQ
        rw [hA, hAC, hA2]
        rfl
end
end KX

namespace KX
open KA KQ KD
open PySem PySem.Spec PyProof.Rows L2 Evl TL
section
variable {σ : L2.St} {H H0 : Hp} {K : PySem.W.Frag} {D : Ends} {td ty tx te tb : TE} {tu tz : TS} {g : TG} {tt : TT}
theorem q_forVals {d : Addr} {kvs : List (Key × V)} {g : TG} (hd : ∀ od, Ev td σ (upd H d (.frz od (.dK kvs))) (.ref d)) (ha : H d = some (.dK kvs)) (Pv : Obj → Nat → L2.St → Hp → Prop) (h0 : ∀ od, Pv od 0 σ (upd H d (.frz od (.dK kvs)))) (hl : ∀ od i σ' H', Pv od i σ' H' → H' d = some (.frz od (.dK kvs))) (h00 : ∀ od i σ' H' H'', Pv od i σ' H' → Ex H' H'' → Pv od i σ' H'')
    (hs : ∀ od i k x σ' H', kvs[i]? = some (k, x) → Pv od i σ' H' → g x σ' H' fun σ2 H2 => tu { nx := Pv od (i + 1), rt := fun v H' => H' d = some (.frz od (.dK kvs)) ∧ D.rt v (upd H' d (.dK kvs)), bk := fun σ' H' => H' d = some (.frz od (.dK kvs)) ∧ tz D σ' (upd H' d (.dK kvs)), ct := Pv od (i + 1) } σ2 H2)
    (hd2 : ∀ od σ' H', Pv od kvs.length σ' H' → tz D σ' (upd H' d (.dK kvs))) : tSeq (tLock (tFor (iVals td) g tu)) tz D σ H :=
  ⟨d, _, ha, trivial, fun od => hd od _ (Ex.refl _) _ fun H2 e2 => ⟨d, od, kvs, rfl, hl od 0 σ H2 (h00 _ _ _ _ _ (h0 od) e2), for_it (walk_values (d := d) (o := od) (kvs := kvs)) (Pv od) (h00 _ _ _ _ _ (h0 od) e2) (fun i σ' H' _ h => hl od i σ' H' h) (fun i x σ' H' H'' hi h y => by
    obtain ⟨rfl, k, hk⟩ := y
    exact hs od i k x σ' _ hk h) fun σ' H' h => ⟨hl od _ σ' H' h, hd2 od σ' H' h⟩⟩⟩
theorem s_forVals {d : Addr} {kvs : List (Key × V)} {g : TG} (hd : ∀ od, Ev td σ (upd H d (.frz od (.dK kvs))) (.ref d)) (ha : H d = some (.dK kvs)) (Pv : Obj → Nat → L2.St → Hp → Prop) (h0 : ∀ od, Pv od 0 σ (upd H d (.frz od (.dK kvs)))) (hl : ∀ od i σ' H', Pv od i σ' H' → H' d = some (.frz od (.dK kvs))) (h00 : ∀ od i σ' H' H'', Pv od i σ' H' → Ex H' H'' → Pv od i σ' H'')
    (hs : ∀ od i k x σ' H', kvs[i]? = some (k, x) → Pv od i σ' H' → g x σ' H' fun σ2 H2 => tu { nx := Pv od (i + 1), rt := fun v H' => H' d = some (.frz od (.dK kvs)) ∧ D.rt v (upd H' d (.dK kvs)), bk := fun σ' H' => H' d = some (.frz od (.dK kvs)) ∧ D.nx σ' (upd H' d (.dK kvs)), ct := Pv od (i + 1) } σ2 H2)
    (hd2 : ∀ od σ' H', Pv od kvs.length σ' H' → D.nx σ' (upd H' d (.dK kvs))) : tLock (tFor (iVals td) g tu) D σ H := q_forVals (D := D) (tz := fun D σ H => D.nx σ H) hd ha Pv h0 hl h00 hs hd2
/-- for .. in list(d.values()) + [.. for .. in e.values()], e empty -/
theorem s_forLV {d1 d2 : Addr} {k1 : List (Key × V)} {g2 : TG} {vs : List Nat} (h1 : Ev td σ H (.ref d1)) (h2 : ∀ H1, RdX H H1 → Ev tb σ H1 (.ref d2)) (a1 : H d1 = some (.dK k1)) (a2 : H d2 = some (.dK [])) (hz : k1.length ≤ 100000)
    (k : ∀ p H1, Ex H H1 → H1 p = some (.lst (k1.map (·.2))) →
      ∃ Pv : Nat → L2.St → Hp → Prop, Pv 0 σ H1 ∧ (∀ i σ' H', Pv i σ' H' → H' p = some (.lst (k1.map (·.2)))) ∧ (∀ i x σ' H', (k1.map (·.2))[i]? = some x → Pv i σ' H' → g x σ' H' fun σ2 H2 => tu { D with nx := Pv (i + 1), ct := Pv (i + 1), bk := D.nx } σ2 H2) ∧ ∀ σ' H', Pv k1.length σ' H' → D.nx σ' H') :
    tFor (iList K (tOp rCat (tListVals td) (tLockE (tLc (iVals tb) g2 tt te vs)))) g tu D σ H :=
  h1 H (Ex.refl H) _ fun H1 e1 => ⟨d1, k1, rfl, e1 _ _ a1, fun p hp => by
    have e2 : Ex H1 (upd H1 p (.lst (k1.map (·.2)))) := Ex.new hp
    have hp2 : (upd H1 p (.lst (k1.map (·.2)))) p = some (.lst (k1.map (·.2))) := upd_same
    have e02 := e1.trans e2
    clear hp
    generalize upd H1 p (.lst (k1.map (·.2))) = H2 at e2 hp2 e02 ⊢
    have hk1 := e02 _ _ a2
    refine ⟨d2, _, hk1, trivial, fun od => ?_⟩
    have rx : RdX H (upd H2 d2 (.frz od (.dK []))) := (RdX.ex e02).trans (RdX.frz hk1)
    refine (h2 _ rx) _ (Ex.refl _) _ fun HL e3 => ⟨d2, od, [], rfl, e3 _ _ upd_same, fun Dl hD => ?_⟩
    have hLd : HL d2 = some (.frz od (.dK [])) := e3 _ _ upd_same
    have nd : Dl ≠ d2 := fun z => by rw [z, hLd] at hD; cases hD
    refine lc_it (walk_values (d := d2) (o := od) (kvs := [])) (fun _ H => H = upd HL Dl (.lst [])) rfl (fun i H' _ h => by rw [h, upd_ne nd.symm]; exact hLd) (fun i x H' H'' hi => absurd hi (Nat.not_lt_zero _)) fun H' h => ?_
    subst h
    refine ⟨by rw [upd_ne nd.symm]; exact hLd, p, Dl, k1.map (·.2), [], rfl, rfl, ?_, ?_, sz_of (by rw [List.length_map]; exact hz), fun r hr => ?_⟩
    · have npd : p ≠ d2 := fun z => by rw [z, hk1] at hp2; cases hp2
      have hpl : HL p = some (.lst (k1.map (·.2))) := e3 _ _ (by rw [upd_ne npd]; exact hp2)
      have npD : p ≠ Dl := fun z => by rw [z, hD] at hpl; cases hpl
      rw [upd_ne npd, upd_ne npD]
      exact hpl
    · rw [upd_ne nd, upd_same]
    rw [List.append_nil]
    have e4 : Ex H2 (upd (upd HL Dl (.lst [])) d2 (.dK [])) := fun b o hb => by
      by_cases e : b = d2
      · subst e; rw [hk1] at hb; cases hb; exact upd_same
      · have : HL b = some o := e3 _ _ (by rw [upd_ne e]; exact hb)
        rw [upd_ne e, upd_ne (fun z => by rw [z, hD] at this; cases this)]
        exact this
    have e5 := Ex.new (o := .lst (k1.map (·.2))) hr
    obtain ⟨Pv, c0, c1, c2, c3⟩ := k r _ ((e02.trans e4).trans e5) upd_same
    exact ⟨r, rfl, ⟨_, sq_of upd_same⟩, for_list Pv c0 (fun i σ' H' _ h => sq_of (c1 i σ' H' h)) c2 (by rw [List.length_map]; exact c3)⟩⟩
theorem ev_any {ta : TE} {bs : List Bool} (h : EvL ta σ H (bs.map V.bl)) : Ev (tCB (rAny K) (tCons ta tNil)) σ H (.bl (bs.any id)) := fun H1 e Q q =>
  h H1 e _ fun p H2 hp e2 h2 => ⟨p, bs, rfl, sq_of h2, q H2 e2⟩
end
/-! ### what check_memory asks, as plain numbers -/
def kindOk (k : Int) : Bool := inV (.int k) [.int 0, .int 1, .int 2, .int 3, .int 4, .int 5, .int 6, .int 7, .int 8] && !decide (k = 1)
def badK (μ : Mem) : Bool := ((List.range 32).map fun (f : Nat) => !kindOk (μ (ix 1 (f : Int)))).any id || (decide (μ (ix 1 0) ≠ 0) || decide (μ (ix 1 1) ≠ 0))
def cap6 (μ : Mem) (s : Int) : List Int := [fld μ s 0, fld μ s 1, fld μ s 2, fld μ s 3, fld μ s 5, fld μ s 6]
def lays (μ : Mem) (s : Int) : Bool := if fld μ s 0 = 1 then decide (fld μ s 1 ≥ 2) && (decide (fld μ s 1 + fld μ s 5 ≤ 32) && decide (fld μ s 6 ≤ fld μ s 5)) else decide (fld μ s 1 < 32) && decide (μ (ix 1 (fld μ s 1)) = fld μ s 0)
def isS (μ : Mem) (p : Int) : Bool := decide (0 ≤ p ∧ p.toNat ∈ slN μ)
def parOk (μ : Mem) (s : Int) : Option Int → Bool
  | none => true
  | some p => isS μ p && comesB (cap6 μ s) (cap6 μ p)
def capOk (μ : Mem) (s : Int) : Bool := !(decide (fld μ s 2 > 7) || !lays μ s) && parOk μ s (mayI (fld μ s 4))
def capOr (μ : Mem) (c : Int) : List Int := if isS μ c = true then cap6 μ c else [0, 0, 0]
def entOk (μ : Mem) (a b c : Int) : Bool := (decide (at6 (capOr μ c) 0 = 2) && decide (at6 (capOr μ c) 1 = a)) && decide (Builtin.bitOr b (at6 (capOr μ c) 2) = at6 (capOr μ c) 2)
def tabL (μ : Mem) (f : Int) : List Nat := (List.range (if μ (ix 1 f) = 8 then 4 else 8)).filter fun (i : Nat) => decide (μ (ix f (eat μ f (i : Int) + 0)) ≠ 0)
def tabOk (μ : Mem) (f : Int) : Bool := (tabL μ f).all fun (i : Nat) => entOk μ (μ (ix f (eat μ f (i : Int) + 0)) - 1) (μ (ix f (eat μ f (i : Int) + 1))) (μ (ix f (eat μ f (i : Int) + 2)) - 1)
def chk (μ : Mem) (rq eq : Nat → List Int) : Bool := ((!badK μ && (slN μ).all fun s => capOk μ (s : Int)) && chkQ μ rq eq) && (fr μ 3).all fun f => tabOk μ (f : Int)
section
variable {S : List Addr} {H : Hp} {μ : Mem}
theorem isS_sl {p : Int} (h : isS μ p = true) : ∃ s : Nat, (s : Int) = p ∧ s ∈ slN μ := by
  have h := of_decide_eq_true h
  exact ⟨p.toNat, by omega, h.2⟩
theorem sl_isS {s : Nat} (h : s ∈ slN μ) : isS μ (s : Int) = true := decide_eq_true ⟨by omega, by rw [Int.toNat_natCast]; exact h⟩
theorem cap_yes {ck : List (Key × V)} {p : Int} (h : HDk S H ck ((slN μ).map fun (s : Nat) => ((Sum.inl (s : Int) : Key), capD μ s))) (hp : isS μ p = true) : ∃ a, valV ck (Sum.inl p) = some (.ref a) ∧ H a = some (.tup ((cap6 μ p).map V.int)) := by
  obtain ⟨s, rfl, hs⟩ := isS_sl hp
  obtain ⟨v, h1, h2⟩ := h.some (lookL hs)
  have h2 : HD S H v (.tup ((cap6 μ (s : Int)).map DD.int)) := h2
  obtain ⟨a, us, rfl, h3, _, h4⟩ := h2.tup_inv
  rw [h4.ints_inv] at h3
  exact ⟨a, h1, h3⟩
theorem cap_no {ck : List (Key × V)} {p : Int} (h : HDk S H ck ((slN μ).map fun (s : Nat) => ((Sum.inl (s : Int) : Key), capD μ s))) (hp : isS μ p = false) : valV ck (Sum.inl p) = none := by
  refine h.none (lookL_no fun n hn z => ?_)
  rw [← z, sl_isS hn] at hp
  cases hp
theorem par_at {pk : List (Key × V)} {s : Nat} (h : HDk S H pk ((slN μ).map fun (s : Nat) => ((Sum.inl (s : Int) : Key), oD (mayI (fld μ (s : Int) 4))))) (hs : s ∈ slN μ) : valV pk (Sum.inl (s : Int)) = some (oI (mayI (fld μ (s : Int) 4))) := by
  obtain ⟨v, h1, h2⟩ := h.some (lookL (d := fun (s : Nat) => oD (mayI (fld μ (s : Int) 4))) hs)
  rw [h1, h2.opt_inv]
theorem cap6_len {s : Int} : (cap6 μ s).length = 6 := rfl
theorem slN_lt {s : Nat} (h : s ∈ slN μ) : s < 256 := List.mem_range.mp (List.mem_filter.mp h).1
end
end KX

namespace KX
open KA KQ KD
open PySem PySem.Spec PyProof.Rows L2 Evl TL
section
variable {P : Program} {w : World} {K : PySem.W.Frag} {mg : Str → Option Value} {base : Heap}
theorem q_asgC {σ : L2.St} {H : Hp} {D : Ends} {ta : TA} {tz : TS} {sp : Sp} {dvs vs : List V} {E : XK} {i : Nat} (h : EvA ta σ H vs) (k : ∀ H1, Ex H H1 → sp (vs ++ dvs) H1 (fun v H' => tz D (σ.set i (some v)) H') E) : tSeq (tAsg (tCall sp dvs E ta) (gName i)) tz D σ H := h H (Ex.refl H) _ k
theorem q_dropC {σ : L2.St} {H : Hp} {D : Ends} {ta : TA} {tz : TS} {sp : Sp} {dvs vs : List V} {E : XK} (h : EvA ta σ H vs) (k : ∀ H1, Ex H H1 → sp (vs ++ dvs) H1 (fun v H' => tz D σ H') E) : tSeq (tDrop (tCall sp dvs E ta)) tz D σ H := h H (Ex.refl H) _ k
theorem q_ifAsg2 {σ : L2.St} {H : Hp} {D : Ends} {t : TT} {ta tb : TE} {tz : TS} {b : Bool} {i : Nat} {v : V} (h : EvT t σ H b) (h1 : b = true → ∀ H1, Ex H H1 → Ev ta σ H1 v) (h2 : b = false → ∀ H1, Ex H H1 → Ev tb σ H1 v) (k : ∀ H1, Ex H H1 → tz D (σ.set i (some v)) H1) : tSeq (tIfS t (tAsg ta (gName i)) (tAsg tb (gName i))) tz D σ H :=
  q_if h (fun hb H1 e1 => s_asg (h1 hb H1 e1) fun H2 e2 => k H2 (e1.trans e2)) (fun hb H1 e1 => s_asg (h2 hb H1 e1) fun H2 e2 => k H2 (e1.trans e2))
theorem capOr_cut {μ : Mem} {c : Int} : cutV ((capOr μ c).map V.int) none (some 2) = [.int (at6 (capOr μ c) 0), .int (at6 (capOr μ c) 1)] := by
  unfold capOr
  cases isS μ c <;> rfl
theorem capOr_at {μ : Mem} {c : Int} : atI ((capOr μ c).map V.int) 2 = some (.int (at6 (capOr μ c) 2)) := by
  unfold capOr
  cases isS μ c <;> rfl
theorem es_getcap {σ : L2.St} {H0 H : Hp} {ty : TE} {st ca : Addr} {kvs ck : List (Key × V)} {μ : Mem} {c : Int} {S : List Addr} (h4 : σ[4]? = some (some (.ref st))) (rx : RdX H0 H) (hst : H0 st = some (.dK kvs)) (vc : valV kvs (Sum.inr "caps") = some (.ref ca)) (hca : H0 ca = some (.dK ck)) (hck : HDk S H0 ck ((slN μ).map fun (s : Nat) => ((Sum.inl (s : Int) : Key), capD μ s))) (hy : Ev ty σ H (.int c)) :
    EvS (tDGet2 (tDGet (tVar 4) (tC (.str "caps"))) ty (tTup (tCons (tC (.int 0)) (tCons (tC (.int 0)) (tCons (tC (.int 0)) tNil))))) σ H ((capOr μ c).map V.int) := fun H1 e Q q =>
  (evx_dg (k := Sum.inr "caps") (ev_var h4) ev_c rx hst vc : Ev _ σ H _) H1 e _ fun H2 e2 => ⟨ca, rfl, .inl ⟨ck, (rx.trans (RdX.ex (e.trans e2))).dk _ _ (.inl hca)⟩, hy H2 (e.trans e2) _ fun H3 e3 => (eu_tup (ea_cons ev_c (ea_cons ev_c (ea_cons ev_c ea_nil))) (by show 3 ≤ 100000; decide) : EvU _ σ H3 _) H3 (Ex.refl H3) _ fun t H4 _ e4 h4' => by
    have r4 := rx.trans (RdX.ex (((e.trans e2).trans e3).trans e4))
    refine ⟨_, r4.get (k := Sum.inl c) hca, ?_⟩
    unfold capOr at q
    cases hT : isS μ c with
    | true =>
      rw [hT] at q
      obtain ⟨a, v1, ha⟩ := cap_yes hck hT
      rw [v1]
      exact q a _ ((e2.trans e3).trans e4) (r4.tup ha)
    | false =>
      rw [hT] at q
      rw [cap_no hck hT]
      exact q t _ ((e2.trans e3).trans e4) h4'⟩
def sp_check_memory (K : PySem.W.Frag) : Sp := fun vs H Q E => ∃ (m wl dx dd : Addr) (μ : Mem) (rq eq : Nat → List Int), vs = [.ref m] ∧ MemAt K H m wl μ ∧ H m = some (.ins (CM K) dx [("_words", .ref wl), ("_disks", .ref dd)]) ∧ H dd = some (.dK []) ∧ (∀ i, 0 ≤ μ i) ∧ (badK μ = false → QOk μ rq eq) ∧
  (chk μ rq eq = true → ∀ H', Ex H H' → Q .non H') ∧ (chk μ rq eq = false → ∀ H', RdX H H' → E (.ref (He.ga K "InvalidState")) none H')
theorem ok_check_memory (T : Txt K mg) : FnOk P w K mg base (L2.CX P w) 8 (f_check_memory K) (fd_check_memory K) ["memory"] (sp_check_memory K) := by
  refine T.fn_check_memory.ok sc_check_memory (fun vs H Q E h => ?_) (fun cdv A outer s H vs Q E hr h => ?_)
  · obtain ⟨_, _, _, _, _, _, _, rfl, _⟩ := h
    rfl
  have hu := hu_of hr
  refine ⟨_, (pss_cons (ps_setLc (i := 1) (own := [("frame", 2)]) (by rfl) sc_check_memory.nd rfl rfl (sw_true rfl rfl rfl (by decide +kernel)) (pi_range1 (by rfl) T.free_range (pa_cons (T.pg_FRAMES) pa_nil)) (blkOk_by (N := sc_check_memory_N) (sc := defScope s_check_memory) (own := [("frame", 2)]) (by decide +kernel)) (fun _ _ _ _ _ => (pg_name (i := 2) sc_check_memory.nd rfl (Or.inl rfl))) (fun _ _ _ _ _ => pts_nil) (fun _ _ _ _ _ => (pe_call (ok_kind_of T) (hr.mono (by decide)) (by rfl) (T.glo_kind_of) (T.kp_kind_of) (T.bd_kind_of) .nil pass0 (pa_cons (pv 0) (pa_cons (pv 2) pa_nil))))) (pss_cons (ps_if (PW.pt (pw_or (pt_val (pe_callB (cr_any rfl) (by rfl) T.free_any (by decide +kernel) (pa_cons (pe_lc (own := [("kind", 3)]) (by rfl) sc_check_memory.nd (pi_list (pv 1)) (blkOk_by (N := sc_check_memory_N) (sc := defScope s_check_memory) (own := [("kind", 3)]) (by decide +kernel)) (fun _ _ _ _ _ => (pg_name (i := 3) sc_check_memory.nd rfl (Or.inl rfl))) (fun _ _ _ _ _ => pts_nil) (fun _ _ _ _ _ => (pe_or (pe_cmpR (r := rIn K true) (by exact op_notIn_seq) (pv 3) (T.pgk_KINDS (by rfl) (by rfl) (by rfl)) (by rfl)) (pe_one (pe_cmpR op_eq (pv 3) (by exact T.pg_UNTYPED) (nomark _)))))) pa_nil))) (pw_or (pt_truth (pe_ix ix_list (pv 1) (T.pg_KERNEL) (fun _ _ => rfl)) (by intro _; rfl)) (pw_or1 (pt_truth (pe_ix ix_list (pv 1) (T.pg_KIND_FRAME) (fun _ _ => rfl)) (by intro _; rfl)))))) (pss_one (ps_raise rfl (takes_of rfl rfl rfl rfl) (pmk_own F.excBase_ValueError T.exc_InvalidState.1 T.glo_InvalidState T.exc_InvalidState.2.1 T.raises_InvalidState (by rfl)))) pss_nil) (pss_cons (ps_set (i := 4) sc_check_memory.nd rfl (Or.inl rfl) (pe_call (ok_abstracted T) (hr.mono (by decide)) (by rfl) (T.glo_abstracted) (T.kp_abstracted) (T.bd_abstracted) .nil pass0 (pa_cons (pv 0) pa_nil))) (pss_cons (ps_lock (ps_for (passes_of rfl) rfl (pi_items (pe_dget hu (pv 4) pe_str (fun _ _ => rfl))) (pg_tup (by rfl) (pgs_cons (pg_name (i := 5) sc_check_memory.nd rfl (Or.inl rfl)) (pgs_cons (pg_tup (by rfl) (pgs_cons (pg_name (i := 3) sc_check_memory.nd rfl (Or.inl rfl)) (pgs_cons (pg_name (i := 6) sc_check_memory.nd rfl (Or.inl rfl)) (pgs_cons (pg_name (i := 7) sc_check_memory.nd rfl (Or.inl rfl)) (pgs_cons (pg_name (i := 8) sc_check_memory.nd rfl (Or.inl rfl)) (pgs_cons (pg_name (i := 9) sc_check_memory.nd rfl (Or.inl rfl)) (pgs_cons (pg_name (i := 10) sc_check_memory.nd rfl (Or.inl rfl)) pgs_nil))))))) pgs_nil))) (pss_cons (ps_if (pt_cmpR op_eq (pv 3) (T.pg_UNTYPED) (nomark _)) (pss_one (ps_set (i := 11) sc_check_memory.nd rfl (Or.inl rfl) (pe_and (pe_cmpR op_ge (pv 6) pe_int (nomark _)) (pe_and (pe_cmpR op_le (pe_op op_add (pv 6) (pv 9)) (T.pg_FRAMES) (nomark _)) (pe_one (pe_cmpR op_le (pv 10) (pv 9) (nomark _))))))) (pss_one (ps_set (i := 11) sc_check_memory.nd rfl (Or.inl rfl) (pe_and (pe_cmpR op_lt (pv 6) (T.pg_FRAMES) (nomark _)) (pe_one (pe_cmpR op_eq (pe_ix ix_list (pv 1) (pv 6) (fun _ _ => rfl)) (pv 3) (nomark _))))))) (pss_cons (ps_if (PW.pt (pw_or (pt_cmpR op_gt (pv 7) (T.pg_ALL) (nomark _)) (pw_or1 (pt_not (pt_val (pv 11)))))) (pss_one (ps_raise rfl (takes_of rfl rfl rfl rfl) (pmk_own F.excBase_ValueError T.exc_InvalidState.1 T.glo_InvalidState T.exc_InvalidState.2.1 T.raises_InvalidState (by rfl)))) pss_nil) (pss_cons (ps_set (i := 12) sc_check_memory.nd rfl (Or.inl rfl) (pe_dget hu (pe_dget hu (pv 4) pe_str (fun _ _ => rfl)) (pv 5) (fun _ _ => rfl))) (pss_cons (ps_set (i := 13) sc_check_memory.nd rfl (Or.inl rfl) (pe_dgetN hu (pe_dget hu (pv 4) pe_str (fun _ _ => rfl)) (pv 12) ⟨rfl, rfl, rfl, rfl⟩)) (pss_one (ps_if (PW.pt (pw_and (pt_cmpR op_notN (pv 12) pe_non (nomark _)) (pw_and1 (PW.pt (pw_or (pt_cmpR op_isN (pv 13) pe_non (nomark _)) (pw_or1 (pt_not (pt_val (pe_call (ok_comes_from T) (hr.mono (by decide)) (by rfl) (T.glo_comes_from) (T.kp_comes_from) (T.bd_comes_from) .nil pass0 (pa_cons (pe_dget hu (pe_dget hu (pv 4) pe_str (fun _ _ => rfl)) (pv 5) (fun _ _ => rfl)) (pa_cons (pv 13) pa_nil))))))))))) (pss_one (ps_raise rfl (takes_of rfl rfl rfl rfl) (pmk_own F.excBase_ValueError T.exc_InvalidState.1 T.glo_InvalidState T.exc_InvalidState.2.1 T.raises_InvalidState (by rfl)))) pss_nil)))))))) (pss_cons (ps_expr (pe_call (ok_check_queues T) (hr.mono (by decide)) (by rfl) (T.glo_check_queues) (T.kp_check_queues) (T.bd_check_queues) .nil (passes_call (takes_of rfl rfl rfl rfl) (fun _ _ _ _ z => z)) (pa_cons (pv 4) pa_nil))) (pss_one (ps_for (passes_of rfl) rfl (pi_list (pe_op op_cat (pe_listValues rfl (pe_dget hu (pv 4) pe_str (fun _ _ => rfl)) (by rfl) T.free_list (by decide +kernel)) (pe_lock (pe_lc (own := [("own", 13)]) (by rfl) sc_check_memory.nd (pi_values (pe_dget hu (pv 4) pe_str (fun _ _ => rfl))) (blkOk_by (N := sc_check_memory_N) (sc := defScope s_check_memory) (own := [("own", 13)]) (by decide +kernel)) (fun _ _ _ _ _ => (pg_name (i := 13) sc_check_memory.nd rfl (Or.inl rfl))) (fun _ _ _ _ _ => pts_nil) (fun _ _ _ _ _ => (pe_ix (r := rIxT K) (by exact ix_tup) (pv 13) pe_str (fun _ _ => rfl))))))) (pg_name (i := 14) sc_check_memory.nd rfl (Or.inl rfl)) (pss_one (ps_lock (ps_for (passes_of rfl) rfl (pi_values (pv 14)) (pg_tup (by rfl) (pgs_cons (pg_name (i := 2) sc_check_memory.nd rfl (Or.inl rfl)) (pgs_cons (pg_name (i := 7) sc_check_memory.nd rfl (Or.inl rfl)) (pgs_cons (pg_name (i := 5) sc_check_memory.nd rfl (Or.inl rfl)) pgs_nil)))) (pss_cons (ps_set (i := 13) sc_check_memory.nd rfl (Or.inl rfl) (pe_dget2 hu (pe_dget hu (pv 4) pe_str (fun _ _ => rfl)) (pv 5) (pe_tup (pa_cons pe_int (pa_cons pe_int (pa_cons pe_int pa_nil)))) ⟨rfl, rfl, rfl, rfl⟩)) (pss_one (ps_if (PW.pt (pw_or (pt_cmpR (op_neD hr.units) (pe_slice sl_tupA (pv 13) po_none (po_some pe_int)) (pe_tup (pa_cons (T.pg_PAGE) (pa_cons (pv 2) pa_nil))) (nomark _)) (pw_or1 (pt_cmpR op_ne (pe_op op_or (pv 7) (pe_ix ix_tup (pv 13) pe_int (fun _ _ => rfl))) (pe_ix ix_tup (pv 13) pe_int (fun _ _ => rfl)) (nomark _))))) (pss_one (ps_raise rfl (takes_of rfl rfl rfl rfl) (pmk_own F.excBase_ValueError T.exc_InvalidState.1 T.glo_InvalidState T.exc_InvalidState.2.1 T.raises_InvalidState (by rfl)))) pss_nil))))))))))))), ?_⟩
  obtain ⟨m, wl, dx, dd, μ, rq, eq, rfl, hM, hi, hdd, hN, hQ, kY, kN⟩ := h
  refine q_asgL (xs := (List.range 32).map fun (f : Nat) => V.int (μ (ix 1 (f : Int)))) ?_ fun kl H1 hkl e1 h1 => ?_
  · refine el_is (el_lcR1 (n := 32) (fun _ => true) (fun i => .int (μ (ix 1 (i : Int)))) (ea_cons ev_c ea_nil) (by decide) (fun x => rfl) (fun i H1 e1 hi => et_yes) (fun i H1 e1 hi _ => ev_kind (hM.keep e1) (ev_var rfl) (ev_var rfl) ?_)) ?_
    · exact ⟨by omega, by omega⟩
    · rfl
  have hk32 : ∀ f : Nat, f < 32 → ((List.range 32).map fun (f : Nat) => V.int (μ (ix 1 (f : Int))))[f]? = some (.int (μ (ix 1 (f : Int)))) := fun f hf => by rw [List.getElem?_map, List.getElem?_range hf]; rfl
  have kAt : ∀ t : Int, 0 ≤ t → t < 32 → atI ((List.range 32).map fun (f : Nat) => V.int (μ (ix 1 (f : Int)))) t = some (.int (μ (ix 1 t))) := fun t h0 h1 => by
    rw [← Int.toNat_of_nonneg h0]
    exact atI_nat (hk32 t.toNat (by omega))
  have ckB : badK μ = true → ∀ H', RdX H H' → E (.ref (He.ga K "InvalidState")) none H' := fun hb => kN (by unfold chk; rw [hb]; rfl)
  refine q_when (b := badK μ) (et_or (et_B (ev_any (bs := (List.range 32).map fun (f : Nat) => !kindOk (μ (ix 1 (f : Int)))) (el_is (el_lcL (a := kl) (xs := (List.range 32).map fun (f : Nat) => V.int (μ (ix 1 (f : Int)))) (fun _ => true) (fun i => .bl (!kindOk (μ (ix 1 (i : Int))))) (ev_var rfl) (sq_of h1) (by rw [List.length_map, List.length_range]; decide) (fun x => rfl) (fun i x H2 e2 hx => et_yes) (fun i x H2 e2 hx _ => ?_)) ?_))) fun _ => et_or (et_truI (ev_op (ev_var rfl) ev_c (rv_ixL (sq_of h1) (kAt 0 (by decide) (by decide))))) fun _ => et_truI (ev_op (ev_var rfl) ev_c (rv_ixL (sq_of h1) (kAt 1 (by decide) (by decide))))) (fun hb H2 e2 => ckB hb H2 (RdX.ex (e1.trans e2))) (fun hb H2 e2 => ?_)
  · have hi32 : i < 32 := by have := (List.getElem?_eq_some_iff.mp hx).1; rw [List.length_map, List.length_range] at this; exact this
    rw [hk32 i hi32] at hx
    cases hx
    refine ev_is (ev_orV (ev_op (ev_var rfl) ev_c (rv_niT (T.tup_KINDS _) rfl rfl)) fun _ => ev_op (ev_var rfl) ev_c (rv_eq rfl)) ?_
    rw [KD_dec]
    unfold kindOk
    rw [Bool.not_and, Bool.not_not]
  · rw [List.length_map, List.length_range]
    rfl
  refine q_asgC (vs := [.ref m]) (ea_cons (ev_var rfl) ea_nil) fun H3 e3 => ⟨m, wl, dx, dd, μ, rq, eq, rfl, hM.keep ((e1.trans e2).trans e3), ((e1.trans e2).trans e3) _ _ hi, ((e1.trans e2).trans e3) _ _ hdd, hQ hb, fun st kvs HA hstn e4 hst hk => ?_⟩
  have hQb := hQ hb
  have eHA := ((e1.trans e2).trans e3).trans e4
  have hkl := ((e2.trans e3).trans e4) _ _ h1
  obtain ⟨ca, ck, vc, hca, hck⟩ := ab_dct (x := "caps") hk (by rfl)
  obtain ⟨pa, pk, vp, hpa, hpk⟩ := ab_dct (x := "parents") hk (by rfl)
  obtain ⟨ta, tk, vt, hta, htk⟩ := ab_dct (x := "tables") hk (by rfl)
  obtain ⟨de, dk, vd, hde, hdk⟩ := ab_dct (x := "devices") hk (by rfl)
  obtain rfl : dk = [] := by cases hdk; rfl
  have kN' : chk μ rq eq = false → ∀ H', RdX HA H' → E (.ref (He.ga K "InvalidState")) none H' := fun hc H' r => kN hc H' ((RdX.ex eHA).trans r)
  have chk_c : ∀ s ∈ slN μ, capOk μ (s : Int) = false → ∀ H', RdX HA H' → E (.ref (He.ga K "InvalidState")) none H' := fun s hs hf => kN' (by
    cases hc : chk μ rq eq with
    | false => rfl
    | true =>
      unfold chk at hc
      rw [Bool.and_eq_true, Bool.and_eq_true, Bool.and_eq_true] at hc
      have := List.all_eq_true.mp hc.1.1.2 s hs
      rw [hf] at this
      cases this)
  have chk_q : chkQ μ rq eq = false → ∀ H', RdX HA H' → E (.ref (He.ga K "InvalidState")) none H' := fun hf => kN' (by
    unfold chk
    rw [hf, Bool.and_false, Bool.false_and])
  have chk_t : ∀ f ∈ fr μ 3, tabOk μ (f : Int) = false → ∀ H', RdX HA H' → E (.ref (He.ga K "InvalidState")) none H' := fun s hs hf => kN' (by
    cases hc : chk μ rq eq with
    | false => rfl
    | true =>
      unfold chk at hc
      rw [Bool.and_eq_true, Bool.and_eq_true, Bool.and_eq_true] at hc
      have := List.all_eq_true.mp hc.2 s hs
      rw [hf] at this
      cases this)
  refine q_forItems (d := ca) (kvs := ck) (fun od => evx_dg (k := Sum.inr "caps") (ev_var (i := 4) rfl) ev_c (RdX.frz hca) hst vc) hca (fun od i σ' H' => ∃ x2 x3 x5 x6 x7 x8 x9 x10 x11 x12 x13 x14, σ' = [some (.ref m), some (.ref kl), x2, x3, some (.ref st), x5, x6, x7, x8, x9, x10, x11, x12, x13, x14] ∧ Lk ca od ck HA H' ∧ ((slN μ).take i).all (fun s => capOk μ (s : Int)) = true) (fun od => ⟨_, _, _, _, _, _, _, _, _, _, _, _, rfl, Lk.in (Ex.refl _), rfl⟩) (fun od i σ' H' h => ?_) (fun od i σ' H' H'' h e => ?_) (fun od i k v σ' H' T' hi h hT => ?_) (fun od σ' H' h => ?_)
  · obtain ⟨_, _, _, _, _, _, _, _, _, _, _, _, _, l, _⟩ := h
    exact l.fr
  · obtain ⟨x2, x3, x5, x6, x7, x8, x9, x10, x11, x12, x13, x14, a, l, b⟩ := h
    exact ⟨x2, x3, x5, x6, x7, x8, x9, x10, x11, x12, x13, x14, a, l.next e, b⟩
  · obtain ⟨x2, x3, x5, x6, x7, x8, x9, x10, x11, x12, x13, x14, rfl, l, hA⟩ := h
    obtain ⟨s, hs, rfl, hv⟩ := (hck : HDk [st] HA ck ((slN μ).map fun (s : Nat) => ((Sum.inl (s : Int) : Key), capD μ s))).atL hi
    obtain ⟨ra, us, rfl, hra, _, hus⟩ := (hv : HD [st] HA v (.tup ((cap6 μ (s : Int)).map DD.int))).tup_inv
    cases HDs.ints_inv (xs := cap6 μ (s : Int)) hus
    have hsm := List.mem_of_getElem? hs
    have e5 : Ex H' (upd H' T' (.tup [kV (Sum.inl (s : Int)), .ref ra])) := Ex.new hT
    have hT5 : (upd H' T' (.tup [kV (Sum.inl (s : Int)), .ref ra])) T' = some (.tup [.int (s : Int), .ref ra]) := upd_same
    have l5 := l.next e5
    clear l hT
    generalize upd H' T' (.tup [kV (Sum.inl (s : Int)), .ref ra]) = H5 at e5 hT5 l5 ⊢
    have r5 := l5.rdx hca
    refine ⟨T', _, rfl, st_of hT5, rfl, _, _, rfl, _, _, rfl, ra, _, rfl, st_of (r5.tup hra), rfl, _, _, rfl, _, _, rfl, _, _, rfl, _, _, rfl, _, _, rfl, _, _, rfl, rfl, rfl, ?_⟩
    refine q_ifAsg2 (b := decide (fld μ (s : Int) 0 = 1)) (v := .bl (lays μ (s : Int))) (et_is (et_test (ev_op (ev_var rfl) ev_c (rv_eq rfl))) KD_dec) (fun hb6 H6 e6 => ?_) (fun hb6 H6 e6 => ?_) fun H6 e6 => ?_
    · refine ev_is (ev_andV (ev_op (ev_var rfl) ev_c rv_I0) fun _ => ev_andV (ev_op (ev_op (ev_var rfl) (ev_var rfl) rv_I0) ev_c rv_I0) fun _ => ev_op (ev_var rfl) (ev_var rfl) rv_I0) ?_
      unfold lays
      rw [if_pos (of_decide_eq_true hb6)]
    · refine ev_is (ev_andV (a := decide (fld μ (s : Int) 1 < 32)) (ev_op (ev_var rfl) ev_c rv_I0) fun hlt => ev_op (ev_op (ev_var rfl) (ev_var rfl) (rv_ixL (sq_of ((r5.trans (RdX.ex e6)).lst hkl)) (kAt (fld μ (s : Int) 1) (hN _) (of_decide_eq_true hlt)))) (ev_var rfl) (rv_eq rfl)) ?_
      unfold lays
      rw [if_neg (of_decide_eq_false hb6), KD_dec]
    have r6 := r5.trans (RdX.ex e6)
    refine q_when (b := decide (fld μ (s : Int) 2 > 7) || !lays μ (s : Int)) (et_or (et_test (ev_op (ev_var rfl) ev_c rv_I0)) fun _ => et_not (et_B (ev_var rfl))) (fun hb7 H7 e7 => ?_) (fun hb7 H7 e7 => ?_)
    · exact chk_c s hsm (by unfold capOk; rw [hb7]; rfl) H7 (r6.trans (RdX.ex e7))
    have r7 := r6.trans (RdX.ex e7)
    refine q_asg (v := oI (mayI (fld μ (s : Int) 4))) (evx_dg (k := Sum.inl (s : Int)) (evx_dg (k := Sum.inr "parents") (ev_var rfl) ev_c r7 hst vp) (ev_var rfl) r7 hpa (par_at hpk hsm)) fun H8 e8 => ?_
    have r8 := r7.trans (RdX.ex e8)
    refine q_asg (v := getO ck (mayI (fld μ (s : Int) 4))) (evx_dgetN (o := mayI (fld μ (s : Int) 4)) (evx_dg (k := Sum.inr "caps") (ev_var rfl) ev_c r8 hst vc) (ev_var rfl) r8 hca rfl) fun H9 e9 => ?_
    have r9 := r8.trans (RdX.ex e9)
    refine s_when (b := !parOk μ (s : Int) (mayI (fld μ (s : Int) 4))) ?_ (fun hb10 H10 e10 => ?_) (fun hb10 H10 e10 => ?_)
    · generalize mayI (fld μ (s : Int) 4) = o
      cases o with
      | none => exact et_is (et_and (a := false) (b := false) (et_is (et_test (ev_op (ev_var rfl) ev_c rv_notN)) rfl) (fun h => by cases h)) rfl
      | some p =>
        cases hp : isS μ p with
        | false =>
          have hg : getO ck (some p) = .non := by
            show (valV ck (Sum.inl p)).getD .non = _
            rw [cap_no hck hp]
            rfl
          rw [hg]
          exact et_is (et_and (a := true) (et_is (et_test (ev_op (ev_var rfl) ev_c rv_notN)) rfl) fun _ => et_or (a := true) (b := false) (et_is (et_test (ev_op (ev_var rfl) ev_c rv_isN)) rfl) (fun h => by cases h)) (by show true = !(isS μ p && _); rw [hp]; rfl)
        | true =>
          obtain ⟨pa', vpa, hpa'⟩ := cap_yes hck hp
          have hg : getO ck (some p) = .ref pa' := by
            show (valV ck (Sum.inl p)).getD .non = _
            rw [vpa]
            rfl
          rw [hg]
          obtain ⟨sa, vsa, hsa⟩ := cap_yes hck (sl_isS hsm)
          refine et_is (et_and (a := true) (et_is (et_test (ev_op (ev_var rfl) ev_c rv_notN)) rfl) fun _ => et_or (et_test (ev_op (ev_var rfl) ev_c rv_isN)) fun _ => et_not (et_B (b := comesB (cap6 μ (s : Int)) (cap6 μ p)) (ev_pure (vs := [.ref sa, .ref pa']) (ea_cons (evx_dg (k := Sum.inl (s : Int)) (evx_dg (k := Sum.inr "caps") (ev_var rfl) ev_c r9 hst vc) (ev_var rfl) r9 hca vsa) (ea_cons (ev_var rfl) ea_nil)) fun H11 e11 Q q => ⟨sa, pa', cap6 μ (s : Int), cap6 μ p, rfl, (r9.trans (RdX.ex e11)).tup hsa, (r9.trans (RdX.ex e11)).tup hpa', rfl, rfl, q⟩))) ?_
          show (true && (false || !comesB (cap6 μ (s : Int)) (cap6 μ p))) = !(isS μ p && comesB (cap6 μ (s : Int)) (cap6 μ p))
          rw [hp]
          rfl
    · refine chk_c s hsm ?_ H10 (r9.trans (RdX.ex e10))
      rw [Bool.not_eq_true'] at hb10
      unfold capOk
      rw [hb10, Bool.and_false]
    · rw [Bool.not_eq_false'] at hb10
      refine ⟨_, _, _, _, _, _, _, _, _, _, _, _, rfl, l5.next ((((e6.trans e7).trans e8).trans e9).trans e10), ?_⟩
      rw [take1 hs, List.all_append, hA, List.all_cons]
      unfold capOk
      rw [hb7, hb10]
      rfl
  · obtain ⟨x2, x3, x5, x6, x7, x8, x9, x10, x11, x12, x13, x14, rfl, l, hA⟩ := h
    have lk : ck.length = (slN μ).length := by rw [hck.len]; exact List.length_map _
    rw [lk, List.take_length] at hA
    have eB := l.out hca
    clear l
    generalize upd H' ca (.dK ck) = HB at eB ⊢
    refine q_dropC (vs := [.ref st]) (ea_cons (ev_var rfl) ea_nil) fun HC eC => ⟨st, kvs, μ, rq, eq, [st], rfl, eC _ _ (eB _ _ hst), hk.ex (eB.trans eC), fun n hn => (hQb.rq_ n hn).2, fun f hf => ?_, fun hq HD eD => ?_, fun hq HD rD => ?_⟩
    · rcases List.mem_append.mp hf with hf | hf
      · have := mem_fr.mp hf
        exact (hQb.eq_ f this.1 (.inl this.2)).2
      · have := mem_fr.mp hf
        exact (hQb.eq_ f this.1 (.inr this.2)).2
    · have eHD := (eB.trans eC).trans eD
      refine s_forLV (d1 := ta) (d2 := de) (k1 := tk) (ev_dg (k := Sum.inr "tables") (ev_var rfl) ev_c (eHD _ _ hst) vt) (fun H1 r1 => evx_dg (k := Sum.inr "devices") (ev_var rfl) ev_c r1 (eHD _ _ hst) vd) (eHD _ _ hta) (eHD _ _ hde) ?_ fun p HE eE hp => ?_
      · rw [htk.len]
        show (List.map _ (fr μ 3)).length ≤ 100000
        rw [List.length_map]
        have := fr_len (μ := μ) (k := 3)
        omega
      have ltk : tk.length = (fr μ 3).length := by rw [htk.len]; exact List.length_map _
      refine ⟨fun i σ' H' => ∃ x2 x3 x5 x6 x7 x8 x9 x10 x11 x12 x13 x14, σ' = [some (.ref m), some (.ref kl), x2, x3, some (.ref st), x5, x6, x7, x8, x9, x10, x11, x12, x13, x14] ∧ Ex HA H' ∧ H' p = some (.lst (tk.map (·.2))) ∧ ((fr μ 3).take i).all (fun f => tabOk μ (f : Int)) = true, ⟨_, _, _, _, _, _, _, _, _, _, _, _, rfl, eHD.trans eE, hp, rfl⟩, ?_, ?_, ?_⟩
      · rintro i σ' H' ⟨_, _, _, _, _, _, _, _, _, _, _, _, _, _, h, _⟩
        exact h
      · rintro i x σ' H' hx ⟨x2, x3, x5, x6, x7, x8, x9, x10, x11, x12, x13, x14, rfl, eH, hp', hA'⟩
        rw [List.getElem?_map] at hx
        obtain ⟨⟨k, y⟩, hy, rfl⟩ : ∃ q, tk[i]? = some q ∧ x = q.2 := by
          cases hc : tk[i]? with
          | none => rw [hc] at hx; cases hx
          | some q => rw [hc] at hx; exact ⟨q, rfl, (Option.some.inj hx).symm⟩
        obtain ⟨f, hf, rfl, hv⟩ := (htk : HDk [st] HA tk ((fr μ 3).map fun (f : Nat) => ((Sum.inl (f : Int) : Key), DD.dct (rowsD μ (f : Int))))).atL hy
        obtain ⟨ra, rk, rfl, hra, _, hrk⟩ := hv.dct_inv
        have hfm := List.mem_of_getElem? hf
        refine s_forVals (d := ra) (kvs := rk) (fun od => ev_var rfl) (eH _ _ hra) (fun od j σ2 H2 => ∃ x2 x5 x7 x13, σ2 = [some (.ref m), some (.ref kl), x2, x3, some (.ref st), x5, x6, x7, x8, x9, x10, x11, x12, x13, some (.ref ra)] ∧ Lk ra od rk HA H2 ∧ H2 p = some (.lst (tk.map (·.2))) ∧ ((tabL μ (f : Int)).take j).all (fun (i : Nat) => entOk μ (μ (ix (f : Int) (eat μ (f : Int) (i : Int) + 0)) - 1) (μ (ix (f : Int) (eat μ (f : Int) (i : Int) + 1))) (μ (ix (f : Int) (eat μ (f : Int) (i : Int) + 2)) - 1)) = true) (fun od => ⟨_, _, _, _, rfl, Lk.in eH, ?_, rfl⟩) (fun od j σ2 H2 h => ?_) (fun od j σ2 H2 H3 h e => ?_) (fun od j k y σ2 H2 hj h => ?_) (fun od σ2 H2 h => ?_)
        · rw [upd_ne (fun z => by rw [z, eH _ _ hra] at hp'; cases hp')]
          exact hp'
        · obtain ⟨_, _, _, _, _, l, _⟩ := h
          exact l.fr
        · obtain ⟨y2, y5, y7, y13, a, l, b, c⟩ := h
          exact ⟨y2, y5, y7, y13, a, l.next e, e _ _ b, c⟩
        · obtain ⟨y2, y5, y7, y13, rfl, l, hp2, hA2⟩ := h
          obtain ⟨n, hn, rfl, hv⟩ := (hrk : HDk [st] HA rk ((tabL μ (f : Int)).map fun (i : Nat) => ((Sum.inl (i : Int) : Key), DD.tup ([μ (ix (f : Int) (eat μ (f : Int) (i : Int) + 0)) - 1, μ (ix (f : Int) (eat μ (f : Int) (i : Int) + 1)), μ (ix (f : Int) (eat μ (f : Int) (i : Int) + 2)) - 1].map DD.int)))).atL hj
          obtain ⟨ea, us, rfl, hea, _, hus⟩ := hv.tup_inv
          cases HDs.ints_inv (xs := [μ (ix (f : Int) (eat μ (f : Int) (n : Int) + 0)) - 1, μ (ix (f : Int) (eat μ (f : Int) (n : Int) + 1)), μ (ix (f : Int) (eat μ (f : Int) (n : Int) + 2)) - 1]) hus
          have hrd := l.rdx hra
          refine ⟨ea, _, rfl, st_of (hrd.tup hea), rfl, _, _, rfl, _, _, rfl, _, _, rfl, rfl, ?_⟩
          obtain ⟨w0, hw0⟩ : ∃ w0, w0 = μ (ix (f : Int) (eat μ (f : Int) (n : Int) + 0)) - 1 := ⟨_, rfl⟩
          obtain ⟨w1, hw1⟩ : ∃ w1, w1 = μ (ix (f : Int) (eat μ (f : Int) (n : Int) + 1)) := ⟨_, rfl⟩
          obtain ⟨w2, hw2⟩ : ∃ w2, w2 = μ (ix (f : Int) (eat μ (f : Int) (n : Int) + 2)) - 1 := ⟨_, rfl⟩
          rw [← hw0, ← hw1, ← hw2]
          have hnm := List.mem_of_getElem? hn
          have nope : entOk μ w0 w1 w2 = false → ∀ H', RdX HA H' → E (.ref (He.ga K "InvalidState")) none H' := fun hf' => chk_t f hfm (by
            cases hc : tabOk μ (f : Int) with
            | false => rfl
            | true =>
              have := List.all_eq_true.mp hc n hnm
              rw [← hw0, ← hw1, ← hw2, hf'] at this
              cases this)
          refine q_asgS (xs := (capOr μ w2).map V.int) (es_getcap rfl hrd hst vc hca hck (ev_var rfl)) fun q H6 e6 h6 => ?_
          have r6 := hrd.trans (RdX.ex e6)
          refine s_when (b := !entOk μ w0 w1 w2) (et_is (et_or (et_test (ev_opSS (es_is (es_slA (es_ev (ev_var rfl) h6) (fun H1 e => eo_none) (fun H1 e => eo_some (i := 2) ev_c)) capOr_cut) (fun H2 e2 => es_U (eu_tup (vs := [.int 2, .int w0]) (ea_cons ev_c (ea_cons (ev_var rfl) ea_nil)) (by show 2 ≤ 100000; decide))) fun p q H3 h3 h3' => rv_ne2 h3 h3')) fun _ => et_test (ev_op (ev_op (ev_var rfl) (ev_op (ev_var rfl) ev_c (Evl.rv_ixT (st_of h6) capOr_at)) rv_I0) (ev_op (ev_var rfl) ev_c (Evl.rv_ixT (st_of h6) capOr_at)) (rv_ne rfl))) ?_) (fun hb7 H7 e7 => ?_) (fun hb7 H7 e7 => ?_)
          · unfold entOk
            rw [KD_dec]
            simp only [Bool.not_and]
          · exact nope (by rw [Bool.not_eq_true'] at hb7; exact hb7) H7 (r6.trans (RdX.ex e7))
          · rw [Bool.not_eq_false'] at hb7
            refine ⟨_, _, _, _, rfl, l.next (e6.trans e7), (e6.trans e7) _ _ hp2, ?_⟩
            rw [take1 (L := tabL μ (f : Int)) hn, List.all_append, hA2, List.all_cons, ← hw0, ← hw1, ← hw2, hb7]
            rfl
        · obtain ⟨y2, y5, y7, y13, rfl, l, hp2, hA2⟩ := h
          have lr : rk.length = (tabL μ (f : Int)).length := by rw [hrk.len]; exact List.length_map _
          rw [lr, List.take_length] at hA2
          refine ⟨_, _, _, _, _, _, _, _, _, _, _, _, rfl, l.out hra, ?_, ?_⟩
          · rw [upd_ne (fun z => by rw [z, l.fr] at hp2; cases hp2)]
            exact hp2
          · rw [take1 hf, List.all_append, hA', List.all_cons]
            unfold tabOk
            rw [hA2]
            rfl
      · rintro σ' H' ⟨_, _, _, _, _, _, _, _, _, _, _, _, rfl, eH, _, hA'⟩
        rw [ltk, List.take_length] at hA'
        refine kY ?_ H' (eHA.trans eH)
        unfold chk
        rw [hb, hA, hq, hA']
        rfl
    · exact chk_q hq HD ((RdX.ex (eB.trans eC)).trans rD)
end
end KX

namespace KA
open PySem PySem.Spec PyProof.Rows L2 Evl TL
/-! ### what a part is -/
def mlay (μ : Mem) (f p : Int) (g : Nat → Int) : Nat → Mem
  | 0 => μ
  | k + 1 => mset (mlay μ f p g k) (ix f (p + (k : Int))) (g k)
def at0 (xs : List Int) (i : Nat) : Int := xs.getD i 0
def mkinds (μ : Mem) (F : Int) : Nat → Mem := mlay μ 1 F (at0 [4, 5, 3, 2, 2])
def mcode (μ : Mem) (F : Int) (ws : List Int) : Nat → Mem := mlay μ (F + 3) 0 (at0 ws)
def capN (F : Int) (k : Nat) : Nat → Int := at0 (match k with | 0 => [4, F, 7, 0] | 1 => [3, F + 2, 7, 0] | _ => [5, F + 1, 7, 0])
def mcaps (μ : Mem) (F : Int) : Nat → Mem
  | 0 => μ
  | k + 1 => mcap (mcaps μ F k) (F * 8 + ((k : Int) + 1)) (capN F k) 1 0
def mpgs (μ : Mem) (F : Int) : Nat → Mem
  | 0 => μ
  | k + 1 => ment (mcap (mpgs μ F k) (F * 8 + ((k : Int) + 6)) (at0 [2, F + ((k : Int) + 3), 7, 0]) 1 0) (F + 2) ((k : Int) + 3 - 3) (at0 [F + ((k : Int) + 3) + 1, 3, F * 8 + ((k : Int) + 6) + 1]) 3
def thP : List Int := [10, 11, 12, 13, 14, 22, 0]
def mth (μ : Mem) (t : Int) (ws : List Int) : Nat → Mem
  | 0 => μ
  | k + 1 => mset (mth μ t ws k) (ix t (at0 thP k)) (at0 ws k)
/-- ahead of the queue -/
def mbefore (μ : Mem) (F d pr bu : Int) (ws : List Int) : Mem := mth (mpgs (mcaps (mcode (mkinds μ F 5) F ws ws.length) F 3) F 2) (F + 1) [F + 1, F + 3, pr, bu, bu, d, 1] 7
def mjoin (μ : Mem) (t : Int) : Mem := mpush μ 0 (4 + mnum μ t) (12 + mnum μ t) t
def mbegin (μ : Mem) (F d pr bu : Int) (ws : List Int) : Mem := mjoin (mbefore μ F d pr bu ws) (F + 1)
theorem getI {ws : List Int} {i : Nat} {y : V} (h : (ws.map V.int)[i]? = some y) : y = .int (at0 ws i) ∧ i < ws.length := by
  rw [List.getElem?_map] at h
  cases e : ws[i]? with
  | none => rw [e] at h; cases h
  | some z =>
    rw [e] at h
    cases h
    refine ⟨?_, (List.getElem?_eq_some_iff.mp e).1⟩
    unfold at0
    rw [List.getD_eq_getElem?_getD, e]
    rfl
section
variable {P : Program} {w : World} {K : PySem.W.Frag} {mg : Str → Option Value} {base : Heap}
def PrCap (F : Int) (k : Nat) : Pr := fun v H => ∃ t c, v = .ref t ∧ H t = some (.tup [.int ((k : Int) + 1), .ref c]) ∧ H c = some (.tup (capV (capN F k)))
theorem PrCap.mo {F : Int} {k : Nat} : Mo (PrCap F k) := fun v H H' tk ⟨t, c, e, h1, h2⟩ => ⟨t, c, e, tk _ _ h1, tk _ _ h2⟩
def PrPg (k : Nat) : Pr := fun v H => ∃ t, v = .ref t ∧ H t = some (.tup [.int ((k : Int) + 6), .int ((k : Int) + 3)])
theorem PrPg.mo {k : Nat} : Mo (PrPg k) := fun v H H' tk ⟨t, e, h1⟩ => ⟨t, e, tk _ _ h1⟩
section
variable {σ : L2.St} {H : Hp} {ta tc : TE} {ts : TA}
theorem ep_cap {F : Int} {k : Nat} (h1 : Ev ta σ H (.int ((k : Int) + 1))) (h2 : EvA ts σ H (capV (capN F k))) : EvP (tTup (tCons ta (tCons (tTup ts) tNil))) σ H (PrCap F k) := fun H1 e Q q =>
  h1 H1 e _ fun H2 e2 => eu_tup h2 (by show 4 ≤ 100000; decide) H2 (e.trans e2) _ fun c H3 hc e3 h3 => ⟨by show 2 ≤ sizeLine; decide, fun p hp =>
    have e4 : Ex H3 (L2.upd H3 p (.tup [.int ((k : Int) + 1), .ref c])) := Ex.new hp
    q _ _ ((e2.trans e3).trans e4) ⟨p, c, rfl, upd_same, e4 _ _ h3⟩⟩
theorem ep_pg {k : Nat} (h1 : Ev ta σ H (.int ((k : Int) + 6))) (h2 : Ev tc σ H (.int ((k : Int) + 3))) : EvP (tTup (tCons ta (tCons tc tNil))) σ H (PrPg k) := fun H1 e Q q =>
  eu_tup (ea_cons h1 (ea_cons h2 ea_nil)) (by show 2 ≤ 100000; decide) H1 e _ fun p H2 hp e2 h3 => q _ _ e2 ⟨p, rfl, h3⟩
end
section
variable {σ : L2.St} {H : Hp} {D : Ends} {m wl : Addr} {μ : Mem} {tm tf tp tc tz tu : TE} {tq : TS} {s x y : Int} {c : Nat → Int}
theorem s_capV {pc : Addr} (hM : MemAt K H m wl μ) (hm : Ev tm σ H (.ref m)) (hf : Ev tf σ H (.int s)) (hc : Ev tc σ H (.ref pc)) (hpc : H pc = some (.tup (capV c))) (hz : Ev tz σ H (.int x)) (hu : Ev tu σ H (.int y)) (hI : 0 ≤ s ∧ s < 256)
    (k : ∀ H', MemAt K H' m wl (mcap μ s c x y) → Fr wl H H' → D.nx σ H') : tDrop (tCall (sp_put_cap K) [] E0 (tCons tm (tCons tf (tCons tc (tCons (tC .non) (tCons tz (tCons tu tNil))))))) D σ H :=
  hm H (Ex.refl H) _ fun H1 e1 => hf H1 e1 _ fun H2 e2 => hc H2 (e1.trans e2) _ fun H3 e3 => hz H3 ((e1.trans e2).trans e3) _ fun H4 e4 => hu H4 (((e1.trans e2).trans e3).trans e4) _ fun H5 e5 =>
    have e : Ex H H5 := (((e1.trans e2).trans e3).trans e4).trans e5
    ⟨m, wl, pc, μ, s, x, y, c, rfl, hM.keep e, hI.1, hI.2, e _ _ hpc, fun H' h' f' => k H' h' ((Fr.of e).trans f')⟩
theorem q_capU (hM : MemAt K H m wl μ) (hm : Ev tm σ H (.ref m)) (hf : Ev tf σ H (.int s)) (hc : EvU tc σ H (capV c)) (hz : Ev tz σ H (.int x)) (hu : Ev tu σ H (.int y)) (hI : 0 ≤ s ∧ s < 256)
    (k : ∀ H', MemAt K H' m wl (mcap μ s c x y) → Fr wl H H' → tq D σ H') : tSeq (tDrop (tCall (sp_put_cap K) [] E0 (tCons tm (tCons tf (tCons tc (tCons (tC .non) (tCons tz (tCons tu tNil)))))))) tq D σ H :=
  hm H (Ex.refl H) _ fun H1 e1 => hf H1 e1 _ fun H2 e2 => hc H2 (e1.trans e2) _ fun pc H3 hp e3 hpc => hz H3 ((e1.trans e2).trans e3) _ fun H4 e4 => hu H4 (((e1.trans e2).trans e3).trans e4) _ fun H5 e5 =>
    have e : Ex H H5 := (((e1.trans e2).trans e3).trans e4).trans e5
    ⟨m, wl, pc, μ, s, x, y, c, rfl, hM.keep e, hI.1, hI.2, e5 _ _ (e4 _ _ hpc), fun H' h' f' => k H' h' ((Fr.of e).trans f')⟩
theorem s_entU (hM : MemAt K H m wl μ) (hm : Ev tm σ H (.ref m)) (hf : Ev tf σ H (.int s)) (hp : Ev tp σ H (.int x)) (hc : EvU tc σ H (ent3 c)) (hI : InF s ∧ 2 ≤ s ∧ 0 ≤ x ∧ x < 8) (h8 : μ (ix 1 s) ≠ 8)
    (k : ∀ H', MemAt K H' m wl (ment μ s x c 3) → Fr wl H H' → D.nx σ H') : tDrop (tCall (sp_put_entry K) [] E0 (tCons tm (tCons tf (tCons tp (tCons tc tNil))))) D σ H :=
  hm H (Ex.refl H) _ fun H1 e1 => hf H1 e1 _ fun H2 e2 => hp H2 (e1.trans e2) _ fun H3 e3 => hc H3 ((e1.trans e2).trans e3) _ fun pc H4 hq e4 hpc =>
    have e : Ex H H4 := ((e1.trans e2).trans e3).trans e4
    ⟨m, wl, pc, μ, s, x, c, rfl, hM.keep e, hI.1, hI.2.1, hI.2.2.1, hI.2.2.2, h8, hpc, fun H' h' f' => k H' h' ((Fr.of e).trans f')⟩
end
theorem ev_good {σ : L2.St} {H : Hp} {ta tb tc : TE} {x y z : Int} (ha : Ev ta σ H (.int x)) (hb : Ev tb σ H (.int y)) (hc : Ev tc σ H (.int z)) (h1 : x ≤ y) (h2 : y < z) {r r' : R2} (hr : RV r (.int x) (.int y) H (.bl (decide (x ≤ y)))) (hr' : RV r' (.int y) (.int z) H (.bl (decide (y < z)))) : Ev (tChain r r' ta tb tc) σ H (.bl true) :=
  ev_is (ev_chV ha hb hr hc hr') (by simp [h1, h2])
theorem caps3 {F : Int} {P : Pr} (h : P ∈ [PrCap F 0, PrCap F 1, PrCap F 2]) : Mo P := by
  rcases List.mem_cons.mp h with rfl | h
  · exact PrCap.mo
  rcases List.mem_cons.mp h with rfl | h
  · exact PrCap.mo
  rcases List.mem_cons.mp h with rfl | h
  · exact PrCap.mo
  cases h
theorem pgs2 {P : Pr} (h : P ∈ [PrPg 0, PrPg 1]) : Mo P := by
  rcases List.mem_cons.mp h with rfl | h
  · exact PrPg.mo
  rcases List.mem_cons.mp h with rfl | h
  · exact PrPg.mo
  cases h
theorem caps3at {F : Int} {P : Pr} {i : Nat} (h : [PrCap F 0, PrCap F 1, PrCap F 2][i]? = some P) : i < 3 ∧ P = PrCap F i := by
  match i, h with
  | 0, h => cases h; exact ⟨by decide, rfl⟩
  | 1, h => cases h; exact ⟨by decide, rfl⟩
  | 2, h => cases h; exact ⟨by decide, rfl⟩
theorem pgs2at {P : Pr} {i : Nat} (h : [PrPg 0, PrPg 1][i]? = some P) : i < 2 ∧ P = PrPg i := by
  match i, h with
  | 0, h => cases h; exact ⟨by decide, rfl⟩
  | 1, h => cases h; exact ⟨by decide, rfl⟩
structure Room6 (μ : Mem) (F : Int) : Prop where
  f2 : 2 ≤ F
  f5 : F + 5 ≤ 32
  lent : μ (ix (F + 1) 24) = 0
  tail : ∀ n : Int, 0 ≤ n → n < 8 → μ (ix 0 (12 + n)) = 0 ∨ (2 ≤ μ (ix 0 (12 + n)) - 1 ∧ μ (ix 0 (12 + n)) - 1 < 32)
/-- what is read behind the puts -/
structure Read6 (μ : Mem) (F d pr bu : Int) (ws : List Int) : Prop where
  tab : ∀ k : Nat, k < 2 → (mcap (mpgs (mcaps (mcode (mkinds μ F 5) F ws ws.length) F 3) F k) (F * 8 + ((k : Int) + 6)) (at0 [2, F + ((k : Int) + 3), 7, 0]) 1 0) (ix 1 (F + 2)) ≠ 8
  num : 0 ≤ mnum (mbefore μ F d pr bu ws) (F + 1) ∧ mnum (mbefore μ F d pr bu ws) (F + 1) < 8
  tl : (mbefore μ F d pr bu ws) (ix 0 (12 + mnum (mbefore μ F d pr bu ws) (F + 1))) ≠ 0 → InF ((mbefore μ F d pr bu ws) (ix 0 (12 + mnum (mbefore μ F d pr bu ws) (F + 1))) - 1)
end
end KA

namespace KA
open PySem PySem.Spec PyProof.Rows L2 Evl TL
structure Part6 where
  d : Int
  pr : Int
  bu : Int
  ws : List Int
/-- what begin_part refuses -/
def pBad (d pr bu : Int) (ws : List Int) (mn : Int) : Bool := !((decide (0 ≤ d) && decide (d < 2)) && ((decide (0 ≤ pr) && decide (pr < 4)) && (decide (1 ≤ bu) && decide (bu ≤ 63)))) || (decide ((ws.length : Int) > 64) || decide (mn < 0))
theorem pBad_no {d pr bu mn : Int} {ws : List Int} (h : pBad d pr bu ws mn = false) : (0 ≤ d ∧ d < 2 ∧ 0 ≤ pr ∧ pr < 4 ∧ 1 ≤ bu ∧ bu ≤ 63) ∧ ws.length ≤ 64 ∧ 0 ≤ mn := by
  simp only [pBad, Bool.or_eq_false_iff, Bool.not_eq_false', Bool.and_eq_true, decide_eq_true_eq, decide_eq_false_iff_not] at h
  omega
section
variable {P : Program} {w : World} {K : PySem.W.Frag} {mg : Str → Option Value} {base : Heap}
def sp_begin_part (K : PySem.W.Frag) : Sp := fun vs H Q E => ∃ (m wl pp cp : Addr) (μ : Mem) (F d pr bu mn : Int) (ws : List Int), vs = [.ref m, .int F, .ref pp] ∧ MemAt K H m wl μ ∧ H pp = some (.tup [.int d, .int pr, .int bu, .ref cp, .int mn]) ∧ H cp = some (.tup (ws.map V.int)) ∧
  (pBad d pr bu ws mn = true → ∀ H', Ex H H' → E (.ref (He.ga K "InvalidBoot")) none H') ∧ (pBad d pr bu ws mn = false → 2 ≤ F ∧ F + 5 ≤ 32 ∧ Read6 μ F d pr bu ws ∧ ∀ H', MemAt K H' m wl (mbegin μ F d pr bu ws) → Fr wl H H' → Q .non H')
theorem ok_begin_part (T : Txt K mg) : FnOk P w K mg base (L2.CX P w) 5 (f_begin_part K) (fd_begin_part K) ["memory", "frame", "part"] (sp_begin_part K) := by
  refine T.fn_begin_part.ok sc_begin_part (fun vs H Q E h => ?_) (fun cdv A outer s H vs Q E hr h => ⟨_, (pss_cons (ps_asg (pv 2) (pg_tup (by rfl) (pgs_cons (pg_name (i := 3) sc_begin_part.nd rfl (Or.inl rfl)) (pgs_cons (pg_name (i := 4) sc_begin_part.nd rfl (Or.inl rfl)) (pgs_cons (pg_name (i := 5) sc_begin_part.nd rfl (Or.inl rfl)) (pgs_cons (pg_name (i := 6) sc_begin_part.nd rfl (Or.inl rfl)) (pgs_cons (pg_name (i := 7) sc_begin_part.nd rfl (Or.inl rfl)) pgs_nil))))))) (pss_cons (ps_set (i := 8) sc_begin_part.nd rfl (Or.inl rfl) (pe_and (pe_chain op_le op_lt pe_int (pv 3) (T.pg_DOMAINS)) (pe_and (pe_chain op_le op_lt pe_int (pv 4) (T.pg_PRIORITIES)) (pe_one (pe_chain op_le op_le pe_int (pv 5) pe_int))))) (pss_cons (ps_if (PW.pt (pw_or (pt_not (pt_val (pv 8))) (pw_or (pt_cmpR op_gt (pe_callB call_len (by rfl) T.free_len PySem.boot_len (pa_cons (pv 6) pa_nil)) (T.pg_FRAME) (nomark _)) (pw_or1 (pt_cmpR op_lt (pv 7) pe_int (nomark _)))))) (pss_one (ps_raise rfl (takes_of rfl rfl rfl rfl) (pmk_own F.excBase_ValueError T.exc_InvalidBoot.1 T.glo_InvalidBoot T.exc_InvalidBoot.2.1 T.raises_InvalidBoot (by rfl)))) pss_nil) (pss_cons (ps_for (passes_of rfl) rfl (pi_zipR (by rfl) T.free_zip (pa_cons (pe_callTy cr_range2 (by rfl) T.free_range (by decide +kernel) (pa_cons (pv 1) (pa_cons (pe_op op_add (pv 1) (T.pg_EACH)) pa_nil))) (pa_cons (pe_tup (pa_cons (T.pg_CAPS) (pa_cons (T.pg_THREAD) (pa_cons (T.pg_TABLE) (pa_cons (T.pg_PAGE) (pa_cons (T.pg_PAGE) pa_nil)))))) pa_nil))) (pg_tup (by rfl) (pgs_cons (pg_name (i := 9) sc_begin_part.nd rfl (Or.inl rfl)) (pgs_cons (pg_name (i := 10) sc_begin_part.nd rfl (Or.inl rfl)) pgs_nil))) (pss_one (ps_expr (pe_meth (pv 0) (T.cl_Memory) (T.mt_Memory_put) (ok_Memory_put T) (hr.mono (by decide)) (T.bd_Memory_put) .nil pass0 (pa_cons (T.pg_KIND_FRAME) (pa_cons (pv 9) (pa_cons (pv 10) pa_nil))))))) (pss_cons (ps_for (passes_of rfl) rfl (pi_enumT (by rfl) T.free_enumerate (pa_cons (pv 6) pa_nil)) (pg_tup (by rfl) (pgs_cons (pg_name (i := 11) sc_begin_part.nd rfl (Or.inl rfl)) (pgs_cons (pg_name (i := 12) sc_begin_part.nd rfl (Or.inl rfl)) pgs_nil))) (pss_one (ps_expr (pe_meth (pv 0) (T.cl_Memory) (T.mt_Memory_put) (ok_Memory_put T) (hr.mono (by decide)) (T.bd_Memory_put) .nil pass0 (pa_cons (pe_op op_add (pv 1) pe_int) (pa_cons (pv 11) (pa_cons (pv 12) pa_nil))))))) (pss_cons (ps_for (passes_of rfl) rfl (pi_tup (pe_tup (pa_cons (pe_tup (pa_cons pe_int (pa_cons (pe_tup (pa_cons (T.pg_CAPS) (pa_cons (pv 1) (pa_cons (T.pg_ALL) (pa_cons pe_int pa_nil))))) pa_nil))) (pa_cons (pe_tup (pa_cons pe_int (pa_cons (pe_tup (pa_cons (T.pg_TABLE) (pa_cons (pe_op op_add (pv 1) pe_int) (pa_cons (T.pg_ALL) (pa_cons pe_int pa_nil))))) pa_nil))) (pa_cons (pe_tup (pa_cons pe_int (pa_cons (pe_tup (pa_cons (T.pg_THREAD) (pa_cons (pe_op op_add (pv 1) pe_int) (pa_cons (T.pg_ALL) (pa_cons pe_int pa_nil))))) pa_nil))) pa_nil))))) (pg_tup (by rfl) (pgs_cons (pg_name (i := 11) sc_begin_part.nd rfl (Or.inl rfl)) (pgs_cons (pg_name (i := 13) sc_begin_part.nd rfl (Or.inl rfl)) pgs_nil))) (pss_one (ps_expr (pe_call (ok_put_cap T) (hr.mono (by decide)) (by rfl) (T.glo_put_cap) (T.kp_put_cap) (T.bd_put_cap) .nil pass0 (pa_cons (pv 0) (pa_cons (pe_op op_add (pe_op op_mul (pv 1) (T.pg_SLOTS)) (pv 11)) (pa_cons (pv 13) (pa_cons pe_non (pa_cons pe_int (pa_cons pe_int pa_nil)))))))))) (pss_cons (ps_for (passes_of rfl) rfl (pi_tup (pe_tup (pa_cons (pe_tup (pa_cons pe_int (pa_cons pe_int pa_nil))) (pa_cons (pe_tup (pa_cons pe_int (pa_cons pe_int pa_nil))) pa_nil)))) (pg_tup (by rfl) (pgs_cons (pg_name (i := 11) sc_begin_part.nd rfl (Or.inl rfl)) (pgs_cons (pg_name (i := 14) sc_begin_part.nd rfl (Or.inl rfl)) pgs_nil))) (pss_cons (ps_expr (pe_call (ok_put_cap T) (hr.mono (by decide)) (by rfl) (T.glo_put_cap) (T.kp_put_cap) (T.bd_put_cap) .nil pass0 (pa_cons (pv 0) (pa_cons (pe_op op_add (pe_op op_mul (pv 1) (T.pg_SLOTS)) (pv 11)) (pa_cons (pe_tup (pa_cons (T.pg_PAGE) (pa_cons (pe_op op_add (pv 1) (pv 14)) (pa_cons (T.pg_ALL) (pa_cons pe_int pa_nil))))) (pa_cons pe_non (pa_cons pe_int (pa_cons pe_int pa_nil)))))))) (pss_one (ps_expr (pe_call (ok_put_entry T) (hr.mono (by decide)) (by rfl) (T.glo_put_entry) (T.kp_put_entry) (T.bd_put_entry) .nil pass0 (pa_cons (pv 0) (pa_cons (pe_op op_add (pv 1) pe_int) (pa_cons (pe_op op_sub (pv 14) pe_int) (pa_cons (pe_tup (pa_cons (pe_op op_add (pe_op op_add (pv 1) (pv 14)) pe_int) (pa_cons pe_int (pa_cons (pe_op op_add (pe_op op_add (pe_op op_mul (pv 1) (T.pg_SLOTS)) (pv 11)) pe_int) pa_nil)))) pa_nil))))))))) (pss_cons (ps_set (i := 15) sc_begin_part.nd rfl (Or.inl rfl) (pe_op op_add (pv 1) pe_int)) (pss_cons (ps_set (i := 16) sc_begin_part.nd rfl (Or.inl rfl) (pe_tup (pa_cons (T.pg_T_CAPS) (pa_cons (T.pg_T_TABLE) (pa_cons (T.pg_T_PRIORITY) (pa_cons (T.pg_T_BUDGET) (pa_cons (T.pg_T_LEFT) (pa_cons (T.pg_T_DOMAIN) (pa_cons (T.pg_T_STATE) pa_nil))))))))) (pss_cons (ps_for (passes_of rfl) rfl (RZ.pi_zipA (by rfl) T.free_zip (pa_cons (pv 16) (pa_cons (pe_tup (pa_cons (pe_op op_add (pv 1) pe_int) (pa_cons (pe_op op_add (pv 1) pe_int) (pa_cons (pv 4) (pa_cons (pv 5) (pa_cons (pv 5) (pa_cons (pv 3) (pa_cons (T.pg_READY) pa_nil)))))))) pa_nil))) (pg_tup (by rfl) (pgs_cons (pg_name (i := 11) sc_begin_part.nd rfl (Or.inl rfl)) (pgs_cons (pg_name (i := 12) sc_begin_part.nd rfl (Or.inl rfl)) pgs_nil))) (pss_one (ps_expr (pe_meth (pv 0) (T.cl_Memory) (T.mt_Memory_put) (ok_Memory_put T) (hr.mono (by decide)) (T.bd_Memory_put) .nil pass0 (pa_cons (pv 15) (pa_cons (pv 11) (pa_cons (pv 12) pa_nil))))))) (pss_one (ps_expr (pe_call (ok_push T) (hr.mono (by decide)) (by rfl) (T.glo_push) (T.kp_push) (T.bd_push) .nil pass0 (pa_cons (pv 0) (pa_cons (pe_call (ok_ready_place T) (hr.mono (by decide)) (by rfl) (T.glo_ready_place) (T.kp_ready_place) (T.bd_ready_place) .nil pass0 (pa_cons (pv 0) (pa_cons (pv 15) pa_nil))) (pa_cons (pv 15) pa_nil)))))))))))))))), ?_⟩)
  · obtain ⟨_, _, _, _, _, _, _, _, _, _, _, rfl, _⟩ := h
    rfl
  · obtain ⟨m, wl, pp, cp, μ, F, d, pr, bu, mn, ws, rfl, hM, hpp, hcp, kE, kQ⟩ := h
    refine ⟨_, rfl, pp, _, rfl, st_of hpp, rfl, _, _, rfl, _, _, rfl, _, _, rfl, _, _, rfl, _, _, rfl, rfl, ?_⟩
    refine q_asg (v := .bl ((decide (0 ≤ d) && decide (d < 2)) && ((decide (0 ≤ pr) && decide (pr < 4)) && (decide (1 ≤ bu) && decide (bu ≤ 63))))) (ev_andV (ev_chV (k := decide (0 ≤ d)) (k' := decide (d < 2)) ev_c (ev_var rfl) rv_I0 ev_c rv_I0) fun _ => ev_andV (ev_chV (k := decide (0 ≤ pr)) (k' := decide (pr < 4)) ev_c (ev_var rfl) rv_I0 ev_c rv_I0) fun _ => ev_chV (k := decide ((1 : Int) ≤ bu)) (k' := decide (bu ≤ (63 : Int))) ev_c (ev_var rfl) rv_I0 ev_c rv_I0) fun H1 e1 => ?_
    refine q_when (b := pBad d pr bu ws mn) (et_or (et_not (et_B (ev_var rfl))) fun _ => et_or (et_is (et_test (ev_op (ev_lenT (ev_var rfl) (st_of (e1 _ _ hcp))) ev_c rv_I0)) (by rw [List.length_map])) fun _ => et_test (ev_op (ev_var rfl) ev_c rv_I0)) (fun hb H2 e2 => kE hb H2 (e1.trans e2)) fun hb H2 e2 => ?_
    obtain ⟨F2, F5, hR, k⟩ := kQ hb
    obtain ⟨⟨d0, d1, p0, p1, b0, b1⟩, hw, hmn⟩ := pBad_no hb
    obtain ⟨gv, hgv⟩ : ∃ gv, gv = ((decide (0 ≤ d) && decide (d < 2)) && ((decide (0 ≤ pr) && decide (pr < 4)) && (decide (1 ≤ bu) && decide (bu ≤ 63)))) := ⟨_, rfl⟩
    rw [← hgv]
    clear hgv
    have e12 := e1.trans e2
    have hM2 := hM.keep e12
    refine q_forZR (lo := F) (hi := F + 5) (ys := [.int 4, .int 5, .int 3, .int 2, .int 2]) (ev_var rfl) (ev_op (ev_var rfl) ev_c rv_I0) (ea_cons ev_c (ea_cons ev_c (ea_cons ev_c (ea_cons ev_c (ea_cons ev_c ea_nil))))) (by decide) ⟨by omega, by simp, by omega⟩
      (fun p i σ' H' => ∃ x9 x10, σ' = [some (.ref m), some (.int F), some (.ref pp), some (.int d), some (.int pr), some (.int bu), some (.ref cp), some (.int mn), some (.bl gv), x9, x10, none, none, none, none, none, none] ∧ H' p = some (.tup [.int 4, .int 5, .int 3, .int 2, .int 2]) ∧ MemAt K H' m wl (mkinds μ F i) ∧ Fr wl H H')
      (fun p H3 e3 hp => ⟨none, none, rfl, hp, hM2.keep e3, Fr.of (e12.trans e3)⟩) (fun p i σ' H' ⟨_, _, _, hp, _, _⟩ => hp) ?_ ?_
    · rintro p i y σ' H' t hy ⟨x9, x10, rfl, hp, hM', f'⟩ ht
      obtain ⟨rfl, hi⟩ := getI (ws := [4, 5, 3, 2, 2]) hy
      have hi5 : i < 5 := hi
      have e3 : Ex H' (L2.upd H' t (.tup [.int (F + (i : Nat)), .int (at0 [4, 5, 3, 2, 2] i)])) := Ex.new ht
      refine ⟨t, _, rfl, st_of upd_same, rfl, _, _, rfl, _, _, rfl, rfl, ?_⟩
      refine s_put (hM'.keep e3) (ev_var rfl) ev_c (ev_var rfl) (ev_var rfl) (by omega) fun H4 h4 f4 => ?_
      exact ⟨_, _, rfl, f4 _ _ (e3 _ _ hp) (ne_of hp hM'.ws (by intro z; cases z)), h4, (f'.trans (Fr.of e3)).trans f4⟩
    rintro p σ' H3 ⟨x9, x10, rfl, -, hM3, f3⟩
    have tk3 : TK H H3 := TK.fr f3 hM.ws
    refine q_forET (K := K) (a := cp) (xs := ws.map V.int) (ev_var rfl) (st_of (tk3 _ _ hcp))
      (fun i σ' H' => ∃ x11 x12, σ' = [some (.ref m), some (.int F), some (.ref pp), some (.int d), some (.int pr), some (.int bu), some (.ref cp), some (.int mn), some (.bl gv), x9, x10, x11, x12, none, none, none, none] ∧ MemAt K H' m wl (mcode (mkinds μ F 5) F ws i) ∧ Fr wl H H')
      (fun H4 e4 => ⟨none, none, rfl, hM3.keep e4, f3.trans (Fr.of e4)⟩) (fun i σ' H' ⟨_, _, _, _, f'⟩ => st_of (TK.fr f' hM.ws _ _ hcp)) ?_ ?_
    · rintro i y σ' H' t hy ⟨x11, x12, rfl, hM', f'⟩ ht
      obtain ⟨rfl, hi⟩ := getI hy
      have e4 : Ex H' (L2.upd H' t (.tup [.int (i : Nat), .int (at0 ws i)])) := Ex.new ht
      refine ⟨t, _, rfl, st_of upd_same, rfl, _, _, rfl, _, _, rfl, rfl, ?_⟩
      refine s_put (hM'.keep e4) (ev_var rfl) (ev_op (ev_var rfl) ev_c rv_I0) (ev_var rfl) (ev_var rfl) (by omega) fun H5 h5 f5 => ?_
      have e0 : (0 : Int) + (i : Int) = (i : Int) := by omega
      refine ⟨_, _, rfl, ?_, (f'.trans (Fr.of e4)).trans f5⟩
      show MemAt K H5 m wl (mset (mcode (mkinds μ F 5) F ws i) (ix (F + 3) (0 + (i : Int))) (at0 ws i))
      rw [e0]
      exact h5
    rintro σ' H4 ⟨x11, x12, rfl, hM4, f4⟩
    rw [List.length_map] at hM4
    refine q_forPU (K := K) (Ps := [PrCap F 0, PrCap F 1, PrCap F 2]) (fun P hP => caps3 hP) (by show 3 ≤ 100000; decide)
      (eps_cons PrCap.mo (ep_cap (ev_is ev_c rfl) (show EvA _ _ _ [.int 4, .int F, .int 7, .int 0] from ea_cons ev_c (ea_cons (ev_var rfl) (ea_cons ev_c (ea_cons ev_c ea_nil))))) (eps_cons PrCap.mo (ep_cap (ev_is ev_c rfl) (show EvA _ _ _ [.int 3, .int (F + 2), .int 7, .int 0] from ea_cons ev_c (ea_cons (ev_op (ev_var rfl) ev_c rv_I0) (ea_cons ev_c (ea_cons ev_c ea_nil))))) (eps_cons PrCap.mo (ep_cap (ev_is ev_c rfl) (show EvA _ _ _ [.int 5, .int (F + 1), .int 7, .int 0] from ea_cons ev_c (ea_cons (ev_op (ev_var rfl) ev_c rv_I0) (ea_cons ev_c (ea_cons ev_c ea_nil))))) eps_nil)))
      fun p vs H5 e5 hp hal => ?_
    have hwl5 := (hM4.keep e5).ws
    refine ⟨fun i σ' H' => ∃ x11 x13, σ' = [some (.ref m), some (.int F), some (.ref pp), some (.int d), some (.int pr), some (.int bu), some (.ref cp), some (.int mn), some (.bl gv), x9, x10, x11, x12, x13, none, none, none] ∧ MemAt K H' m wl (mcaps (mcode (mkinds μ F 5) F ws ws.length) F i) ∧ Fr wl H5 H',
      ⟨x11, none, rfl, hM4.keep e5, Fr.refl⟩, fun i σ' H' _ ⟨_, _, _, _, f'⟩ => TK.fr f' hwl5 _ _ hp, ?_, ?_⟩
    · rintro i x σ' H' hx ⟨y11, y13, rfl, hM', f'⟩
      obtain ⟨P', hP', hv⟩ := hal.at hx
      obtain ⟨hi, rfl⟩ := caps3at hP'
      obtain ⟨t, c, rfl, h1, h2⟩ := PrCap.mo _ _ _ (TK.fr f' hwl5) hv
      refine ⟨t, _, rfl, st_of h1, rfl, _, _, rfl, _, _, rfl, rfl, ?_⟩
      exact s_capV (s := F * 8 + ((i : Int) + 1)) hM' (ev_var rfl) (ev_op (ev_op (ev_var rfl) ev_c (rv_I (.inr ⟨by decide, by decide⟩))) (ev_var rfl) rv_I0) (ev_var rfl) h2 ev_c ev_c (by omega) fun H7 h7 f7 => ⟨_, _, rfl, h7, f'.trans f7⟩
    rintro σ' H6 ⟨y11, y13, rfl, hM6, f6⟩
    have hlen : vs.length = 3 := hal.len
    rw [hlen] at hM6
    have f06 : Fr wl H H6 := (f4.trans (Fr.of e5)).trans f6
    refine q_forPU (K := K) (Ps := [PrPg 0, PrPg 1]) (fun P hP => pgs2 hP) (by show 2 ≤ 100000; decide)
      (eps_cons PrPg.mo (ep_pg (ev_is ev_c rfl) (ev_is ev_c rfl)) (eps_cons PrPg.mo (ep_pg (ev_is ev_c rfl) (ev_is ev_c rfl)) eps_nil)) fun p' vs' H7 e7 hp' hal' => ?_
    have hwl7 := (hM6.keep e7).ws
    refine ⟨fun i σ' H' => ∃ x11 x14, σ' = [some (.ref m), some (.int F), some (.ref pp), some (.int d), some (.int pr), some (.int bu), some (.ref cp), some (.int mn), some (.bl gv), x9, x10, x11, x12, y13, x14, none, none] ∧ MemAt K H' m wl (mpgs (mcaps (mcode (mkinds μ F 5) F ws ws.length) F 3) F i) ∧ Fr wl H7 H',
      ⟨y11, none, rfl, hM6.keep e7, Fr.refl⟩, fun i σ' H' _ ⟨_, _, _, _, f'⟩ => TK.fr f' hwl7 _ _ hp', ?_, ?_⟩
    · rintro i x σ' H' hx ⟨z11, z14, rfl, hM', f'⟩
      obtain ⟨P', hP', hv⟩ := hal'.at hx
      obtain ⟨hi, rfl⟩ := pgs2at hP'
      obtain ⟨t, rfl, h1⟩ := PrPg.mo _ _ _ (TK.fr f' hwl7) hv
      refine ⟨t, _, rfl, st_of h1, rfl, _, _, rfl, _, _, rfl, rfl, ?_⟩
      refine q_capU (s := F * 8 + ((i : Int) + 6)) (c := at0 [2, F + ((i : Int) + 3), 7, 0]) hM' (ev_var rfl) (ev_op (ev_op (ev_var rfl) ev_c (rv_I (.inr ⟨by decide, by decide⟩))) (ev_var rfl) rv_I0) (eu_tup (show EvA _ _ _ [.int 2, .int (F + ((i : Int) + 3)), .int 7, .int 0] from ea_cons ev_c (ea_cons (ev_op (ev_var rfl) (ev_var rfl) rv_I0) (ea_cons ev_c (ea_cons ev_c ea_nil)))) (by show 4 ≤ 100000; decide)) ev_c ev_c (by omega) fun H9 h9 f9 => ?_
      exact s_entU (s := F + 2) (x := (i : Int) + 3 - 3) (c := at0 [F + ((i : Int) + 3) + 1, 3, F * 8 + ((i : Int) + 6) + 1]) h9 (ev_var rfl) (ev_op (ev_var rfl) ev_c rv_I0) (ev_op (ev_var rfl) ev_c rv_I0) (eu_tup (show EvA _ _ _ [.int (F + ((i : Int) + 3) + 1), .int 3, .int (F * 8 + ((i : Int) + 6) + 1)] from ea_cons (ev_op (ev_op (ev_var rfl) (ev_var rfl) rv_I0) ev_c rv_I0) (ea_cons ev_c (ea_cons (ev_op (ev_op (ev_op (ev_var rfl) ev_c (rv_I (.inr ⟨by decide, by decide⟩))) (ev_var rfl) rv_I0) ev_c rv_I0) ea_nil))) (by show 3 ≤ 100000; decide)) (by omega) (hR.tab i hi) fun H10 h10 f10 => ⟨_, _, rfl, h10, (f'.trans f9).trans f10⟩
    rintro σ' H8 ⟨z11, z14, rfl, hM8, f8⟩
    have hlen' : vs'.length = 2 := hal'.len
    rw [hlen'] at hM8
    have f08 : Fr wl H H8 := (f06.trans (Fr.of e7)).trans f8
    refine q_asg (v := .int (F + 1)) (ev_op (ev_var rfl) ev_c rv_I0) fun H9 e9 => ?_
    refine q_asgU (xs := thP.map V.int) (eu_tup (show EvA _ _ _ [.int 10, .int 11, .int 12, .int 13, .int 14, .int 22, .int 0] from ea_cons ev_c (ea_cons ev_c (ea_cons ev_c (ea_cons ev_c (ea_cons ev_c (ea_cons ev_c (ea_cons ev_c ea_nil))))))) (by show 7 ≤ 100000; decide)) fun q H10 hq e10 hq10 => ?_
    have hM10 := hM8.keep (e9.trans e10)
    have f010 : Fr wl H H10 := f08.trans (Fr.of (e9.trans e10))
    refine q_forZT (K := K) (a := q) (xs := thP.map V.int) (ys := [F + 1, F + 3, pr, bu, bu, d, 1].map V.int) (ev_var rfl) hq10 (show EvA _ _ _ [.int (F + 1), .int (F + 3), .int pr, .int bu, .int bu, .int d, .int 1] from ea_cons (ev_op (ev_var rfl) ev_c rv_I0) (ea_cons (ev_op (ev_var rfl) ev_c rv_I0) (ea_cons (ev_var rfl) (ea_cons (ev_var rfl) (ea_cons (ev_var rfl) (ea_cons (ev_var rfl) (ea_cons ev_c ea_nil))))))) (by show 7 ≤ 100000; decide) rfl
      (fun p i σ' H' => ∃ x11 x12, σ' = [some (.ref m), some (.int F), some (.ref pp), some (.int d), some (.int pr), some (.int bu), some (.ref cp), some (.int mn), some (.bl gv), x9, x10, x11, x12, y13, z14, some (.int (F + 1)), some (.ref q)] ∧ H' p = some (.tup ([F + 1, F + 3, pr, bu, bu, d, 1].map V.int)) ∧ H' q = some (.tup (thP.map V.int)) ∧ MemAt K H' m wl (mth (mpgs (mcaps (mcode (mkinds μ F 5) F ws ws.length) F 3) F 2) (F + 1) [F + 1, F + 3, pr, bu, bu, d, 1] i) ∧ Fr wl H H')
      (fun p H11 e11 hp11 => ⟨z11, x12, rfl, hp11, e11 _ _ hq10, hM10.keep e11, f010.trans (Fr.of e11)⟩) (fun p i σ' H' ⟨_, _, _, h1, h2, _⟩ => ⟨h1, h2⟩) ?_ ?_
    · rintro p2 i x y σ' H' t hx hy ⟨w11, w12, rfl, h1, h2, hM', f'⟩ ht
      obtain ⟨rfl, hi⟩ := getI (ws := thP) hx
      obtain ⟨rfl, _⟩ := getI (ws := [F + 1, F + 3, pr, bu, bu, d, 1]) hy
      have hi7 : i < 7 := hi
      have e4 : Ex H' (L2.upd H' t (.tup [.int (at0 thP i), .int (at0 [F + 1, F + 3, pr, bu, bu, d, 1] i)])) := Ex.new ht
      have hb : 0 ≤ at0 thP i ∧ at0 thP i < 64 := by
        have : i = 0 ∨ i = 1 ∨ i = 2 ∨ i = 3 ∨ i = 4 ∨ i = 5 ∨ i = 6 := by omega
        rcases this with e | e | e | e | e | e | e <;> subst e <;> decide
      refine ⟨t, _, rfl, st_of upd_same, rfl, _, _, rfl, _, _, rfl, rfl, ?_⟩
      refine s_put (hM'.keep e4) (ev_var rfl) (ev_var rfl) (ev_var rfl) (ev_var rfl) (by omega) fun H5 h5 f5 => ?_
      exact ⟨_, _, rfl, f5 _ _ (e4 _ _ h1) (ne_of h1 hM'.ws (by intro z; cases z)), f5 _ _ (e4 _ _ h2) (ne_of h2 hM'.ws (by intro z; cases z)), h5, (f'.trans (Fr.of e4)).trans f5⟩
    rintro p2 σ' H11 ⟨w11, w12, rfl, -, -, hM11, f11⟩
    have hM11 : MemAt K H11 m wl (mbefore μ F d pr bu ws) := hM11
    refine ⟨_, rfl, _, rfl, _, rfl, m, wl, _, F + 1, rfl, hM11, by omega, fun pl H12 hpl e12' hpl12 => ?_⟩
    refine ⟨_, rfl, m, wl, pl, _, 0, 4 + mnum (mbefore μ F d pr bu ws) (F + 1), 12 + mnum (mbefore μ F d pr bu ws) (F + 1), F + 1, rfl, hM11.keep e12', hpl12, by omega, ?_, ?_, hR.tl, fun H13 h13 f13 => k H13 h13 ((f11.trans (Fr.of e12')).trans f13)⟩
    · have := hR.num
      omega
    · have := hR.num
      omega
end
end KA

namespace KA
open KQ
open PySem PySem.Spec PyProof.Rows L2 Evl TL
/-! ### links -/
def PrLk (a b : Int) : Pr := fun v H => ∃ t, v = .ref t ∧ H t = some (.tup [.int a, .int b])
theorem PrLk.mo {a b : Int} : Mo (PrLk a b) := fun v H H' tk ⟨t, e, h1⟩ => ⟨t, e, tk _ _ h1⟩
section
variable {σ : L2.St} {H : Hp} {K : PySem.W.Frag} {D : Ends} {ta tc te : TE}
theorem ep_lk {a b : Int} (h1 : Ev ta σ H (.int a)) (h2 : Ev tc σ H (.int b)) : EvP (tTup (tCons ta (tCons tc tNil))) σ H (PrLk a b) := fun H1 e Q q =>
  (eu_tup (ea_cons h1 (ea_cons h2 ea_nil)) (by show 2 ≤ 100000; decide) : EvU _ σ H _) H1 e _ fun p H2 hp e2 h => q _ H2 e2 ⟨p, rfl, h⟩
theorem et_truL {p : Addr} {xs : List V} (h : Ev te σ H (.ref p)) (hx : H p = some (.lst xs)) : EvT (tTru K te) σ H (!xs.isEmpty) := fun H1 e Q q => h H1 e _ fun H2 e2 => ⟨!xs.isEmpty, .inl ⟨xs, sq_of (e2 _ _ (e _ _ hx)), rfl⟩, q H2 e2⟩
theorem s_capU {m wl : Addr} {μ : Mem} {tm tf tc' tz tu : TE} {s x y : Int} {c : Nat → Int} (hM : MemAt K H m wl μ) (hm : Ev tm σ H (.ref m)) (hf : Ev tf σ H (.int s)) (hc : EvU tc' σ H (capV c)) (hz : Ev tz σ H (.int x)) (hu : Ev tu σ H (.int y)) (hI : 0 ≤ s ∧ s < 256)
    (k : ∀ H', MemAt K H' m wl (mcap μ s c x y) → Fr wl H H' → D.nx σ H') : tDrop (tCall (sp_put_cap K) [] E0 (tCons tm (tCons tf (tCons tc' (tCons (tC .non) (tCons tz (tCons tu tNil))))))) D σ H := q_capU (D := D) (tq := fun D σ H => D.nx σ H) hM hm hf hc hz hu hI k
theorem el_lcUf {xs : List V} {tl : TE} {tt : TT} {j : Nat} {vs : List Nat} (f : Nat → Bool) (v : Nat → V) (h : EvU tl σ H xs) (hz : xs.length ≤ 40000) (hw : ∀ x, wipe ((wipe σ vs).set j (some x)) vs = wipe σ vs) (ht : ∀ (i : Nat) (y : V) H1, Ex H H1 → xs[i]? = some y → EvT tt ((wipe σ vs).set j (some y)) H1 (f i)) (he : ∀ (i : Nat) (y : V) H1, Ex H H1 → xs[i]? = some y → f i = true → Ev te ((wipe σ vs).set j (some y)) H1 (v i)) :
    EvL (tLc (iTup K tl) (gName j) tt te vs) σ H (given xs.length f v) := fun H0 e Q q => h H0 e _ fun p H1 hp e1 h1 => ⟨p, rfl, ⟨xs, st_of h1⟩, fun Dl hD =>
  lc_tup (K := K) (xs := xs) (g := gName j) (tt := tt) (te := te) (vs := vs) (σ := σ) (Cw H1 f v Dl) ⟨hD, Ex.new hD, upd_same⟩ (fun i H' _ p' => st_of (p'.2.1 _ _ h1)) (fun i x H' hi p' => ⟨hw x, cw_turn p' (by have := (List.getElem?_eq_some_iff.mp hi).1; omega) (ht i x H1 (e.trans e1) hi) fun hf => he i x H1 (e.trans e1) hi hf⟩)
    (fun H' p' => q Dl H' (fresh_back e1 p'.1) (e1.trans p'.2.1) p'.2.2)⟩
end
/-- what begin_link refuses at once -/
def lBad (k one r other o many : Int) : Bool := !inV (.int k) [.int 6, .int 7] || !(((decide (0 ≤ one) && decide (one < many)) && ((decide (0 ≤ other) && decide (other < many)) && true)) && ((decide (1 ≤ r) && decide (r ≤ 7)) && ((decide (1 ≤ o) && decide (o ≤ 7)) && true)))
/-- a capability at the first of slots 4, 5 -/
def lstep (μ : Mem) (f k part told : Int) : Option Mem :=
  if μ (ix (2 + 5 * part) 32) = 0 then some (mcap μ ((2 + 5 * part) * 8 + 4) (at0 [k, f, told, part + 1]) 1 0)
  else if μ (ix (2 + 5 * part) 40) = 0 then some (mcap μ ((2 + 5 * part) * 8 + 5) (at0 [k, f, told, part + 1]) 1 0) else none
def lpart (one r other o : Int) (i : Nat) : Int × Int := if i = 0 then (one, r) else (other, o)
def lpre (μ : Mem) (f k one r other o : Int) : Nat → Option Mem
  | 0 => some (mset μ (ix 1 f) k)
  | i + 1 => (lpre μ f k one r other o i).bind fun ν => lstep ν f k (lpart one r other o i).1 (lpart one r other o i).2
def mlnk (μ : Mem) (f k one r other o many : Int) : Option Mem := if lBad k one r other o many = true then none else lpre μ f k one r other o 2
theorem lk2at {one r other o : Int} {P : Pr} {i : Nat} (h : [PrLk one r, PrLk other o][i]? = some P) : i < 2 ∧ P = PrLk (lpart one r other o i).1 (lpart one r other o i).2 := by
  match i, h with
  | 0, h => cases h; exact ⟨by decide, rfl⟩
  | 1, h => cases h; exact ⟨by decide, rfl⟩
theorem lk2mo {a b c d : Int} {P : Pr} (h : P ∈ [PrLk a b, PrLk c d]) : Mo P := by
  rcases List.mem_cons.mp h with rfl | h
  · exact PrLk.mo
  · rw [List.mem_singleton] at h
    subst h
    exact PrLk.mo
theorem lBad_no {k one r other o many : Int} (h : lBad k one r other o many = false) : (0 ≤ one ∧ one < many) ∧ (0 ≤ other ∧ other < many) ∧ (1 ≤ r ∧ r ≤ 7) ∧ 1 ≤ o ∧ o ≤ 7 := by
  simp only [lBad, Bool.or_eq_false_iff, Bool.not_eq_false', Bool.and_eq_true, decide_eq_true_eq, Bool.and_true] at h
  omega
theorem lpre_none {μ : Mem} {f k one r other o : Int} {i : Nat} (hi : i < 2) (h : lpre μ f k one r other o (i + 1) = none) : lpre μ f k one r other o 2 = none := by
  match i, hi with
  | 0, _ => show (lpre μ f k one r other o 1).bind _ = none; rw [h]; rfl
  | 1, _ => exact h
section
variable {P : Program} {w : World} {K : PySem.W.Frag} {mg : Str → Option Value} {base : Heap}
def sp_begin_link (K : PySem.W.Frag) : Sp := fun vs H Q E => ∃ (m wl lp : Addr) (μ : Mem) (f k one r other o many : Int), vs = [.ref m, .int f, .ref lp, .int many] ∧ MemAt K H m wl μ ∧ H lp = some (.tup [.int k, .int one, .int r, .int other, .int o]) ∧ 2 ≤ f ∧ f < 32 ∧ many ≤ 6 ∧
  (mlnk μ f k one r other o many = none → ∀ H', Fr wl H H' → E (.ref (He.ga K "InvalidBoot")) none H') ∧ ∀ μ', mlnk μ f k one r other o many = some μ' → ∀ H', MemAt K H' m wl μ' → Fr wl H H' → Q .non H'
theorem ok_begin_link (T : Txt K mg) : FnOk P w K mg base (L2.CX P w) 5 (f_begin_link K) (fd_begin_link K) ["memory", "frame", "link", "many"] (sp_begin_link K) := by
  refine T.fn_begin_link.ok sc_begin_link (fun vs H Q E h => ?_) (fun cdv A outer s H vs Q E hr h => ⟨_, (pss_cons (ps_asg (pv 2) (pg_tup (by rfl) (pgs_cons (pg_name (i := 4) sc_begin_link.nd rfl (Or.inl rfl)) (pgs_cons (pg_name (i := 5) sc_begin_link.nd rfl (Or.inl rfl)) (pgs_cons (pg_name (i := 6) sc_begin_link.nd rfl (Or.inl rfl)) (pgs_cons (pg_name (i := 7) sc_begin_link.nd rfl (Or.inl rfl)) (pgs_cons (pg_name (i := 8) sc_begin_link.nd rfl (Or.inl rfl)) pgs_nil))))))) (pss_cons (ps_set (i := 9) sc_begin_link.nd rfl (Or.inl rfl) (pe_and (pe_callB (cr_all rfl) (by rfl) T.free_all (by decide +kernel) (pa_cons (pe_lc (own := [("part", 10)]) (by rfl) sc_begin_link.nd (pi_tup (pe_tup (pa_cons (pv 5) (pa_cons (pv 7) pa_nil)))) (blkOk_by (N := sc_begin_link_N) (sc := defScope s_begin_link) (own := [("part", 10)]) (by decide +kernel)) (fun _ _ _ _ _ => (pg_name (i := 10) sc_begin_link.nd rfl (by first | exact Or.inr rfl | exact Or.inl rfl))) (fun _ _ _ _ _ => pts_nil) (fun _ _ _ _ _ => (pe_chain op_le op_lt pe_int (pv 10) (pv 3)))) pa_nil)) (pe_one (pe_callB (cr_all rfl) (by rfl) T.free_all (by decide +kernel) (pa_cons (pe_lc (own := [("told", 11)]) (by rfl) sc_begin_link.nd (pi_tup (pe_tup (pa_cons (pv 6) (pa_cons (pv 8) pa_nil)))) (blkOk_by (N := sc_begin_link_N) (sc := defScope s_begin_link) (own := [("told", 11)]) (by decide +kernel)) (fun _ _ _ _ _ => (pg_name (i := 11) sc_begin_link.nd rfl (Or.inl rfl))) (fun _ _ _ _ _ => pts_nil) (fun _ _ _ _ _ => (pe_chain op_le op_le pe_int (pv 11) (by exact T.pg_ALL)))) pa_nil))))) (pss_cons (ps_if (PW.pt (pw_or (pt_cmpR op_notIn_seq (pv 4) (pe_tup (pa_cons (T.pg_END) (pa_cons (T.pg_NOTICE) pa_nil))) (by rfl)) (pw_or1 (pt_not (pt_val (pv 9)))))) (pss_one (ps_raise rfl (takes_of rfl rfl rfl rfl) (pmk_own F.excBase_ValueError T.exc_InvalidBoot.1 T.glo_InvalidBoot T.exc_InvalidBoot.2.1 T.raises_InvalidBoot (by rfl)))) pss_nil) (pss_cons (ps_expr (pe_meth (pv 0) (T.cl_Memory) (T.mt_Memory_put) (ok_Memory_put T) (hr.mono (by decide)) (T.bd_Memory_put) .nil pass0 (pa_cons (T.pg_KIND_FRAME) (pa_cons (pv 1) (pa_cons (pv 4) pa_nil))))) (pss_one (ps_for (passes_of rfl) rfl (pi_tup (pe_tup (pa_cons (pe_tup (pa_cons (pv 5) (pa_cons (pv 6) pa_nil))) (pa_cons (pe_tup (pa_cons (pv 7) (pa_cons (pv 8) pa_nil))) pa_nil)))) (pg_tup (by rfl) (pgs_cons (pg_name (i := 10) sc_begin_link.nd rfl (by first | exact Or.inr rfl | exact Or.inl rfl)) (pgs_cons (pg_name (i := 11) sc_begin_link.nd rfl (Or.inl rfl)) pgs_nil))) (pss_cons (ps_setLc (i := 12) (own := [("place", 13)]) (by rfl) sc_begin_link.nd rfl rfl (sw_true rfl rfl rfl (by decide +kernel)) (pi_tup (pe_tup (pa_cons pe_int (pa_cons pe_int pa_nil)))) (blkOk_by (N := sc_begin_link_N) (sc := defScope s_begin_link) (own := [("place", 13)]) (by decide +kernel)) (fun _ _ _ _ _ => (pg_name (i := 13) sc_begin_link.nd rfl (Or.inl rfl))) (fun _ _ _ _ _ => (pts_one (pt_cmpR op_eq (pe_meth (pv 0) (T.cl_Memory) (T.mt_Memory_word) (ok_Memory_word T) (hr.mono (by decide)) (T.bd_Memory_word) .nil pass0 (pa_cons (pe_op op_add pe_int (pe_op op_mul (by exact T.pg_EACH) (pv 10))) (pa_cons (pe_op op_mul (pv 13) pe_int) pa_nil))) pe_int (nomark _)))) (fun _ _ _ _ _ => (pe_op op_add (pe_op op_mul (pe_op op_add pe_int (pe_op op_mul (by exact T.pg_EACH) (pv 10))) (by exact T.pg_SLOTS)) (pv 13)))) (pss_cons (ps_if (pt_not (pt_truth (pv 12) (by intro _; rfl))) (pss_one (ps_raise rfl (takes_of rfl rfl rfl rfl) (pmk_own F.excBase_ValueError T.exc_InvalidBoot.1 T.glo_InvalidBoot T.exc_InvalidBoot.2.1 T.raises_InvalidBoot (by rfl)))) pss_nil) (pss_one (ps_expr (pe_call (ok_put_cap T) (hr.mono (by decide)) (by rfl) (T.glo_put_cap) (T.kp_put_cap) (T.bd_put_cap) .nil pass0 (pa_cons (pv 0) (pa_cons (pe_ix ix_list (pv 12) pe_int (fun _ _ => rfl)) (pa_cons (pe_tup (pa_cons (pv 4) (pa_cons (pv 1) (pa_cons (pv 11) (pa_cons (pe_op op_add (pv 10) pe_int) pa_nil))))) (pa_cons pe_non (pa_cons pe_int (pa_cons pe_int pa_nil))))))))))))))))), ?_⟩)
  · obtain ⟨_, _, _, _, _, _, _, _, _, _, _, rfl, _⟩ := h
    rfl
  · obtain ⟨m, wl, lp, μ, f, kd, one, r, other, o, many, rfl, hM, hl, f2, f3, m6, kE, kQ⟩ := h
    refine ⟨_, rfl, lp, _, rfl, st_of hl, rfl, _, _, rfl, _, _, rfl, _, _, rfl, _, _, rfl, _, _, rfl, rfl, ?_⟩
    dsimp only
    refine q_asg (v := .bl (((decide (0 ≤ one) && decide (one < many)) && ((decide (0 ≤ other) && decide (other < many)) && true)) && ((decide (1 ≤ r) && decide (r ≤ 7)) && ((decide (1 ≤ o) && decide (o ≤ 7)) && true)))) (ev_andV (ev_all (K := K) (bs := [decide (0 ≤ one) && decide (one < many), decide (0 ≤ other) && decide (other < many)]) ?_) fun _ => ev_all (K := K) (bs := [decide (1 ≤ r) && decide (r ≤ 7), decide (1 ≤ o) && decide (o ≤ 7)]) ?_) fun H1 e1 => ?_
    · refine el_is (el_lcUf (K := K) (xs := [.int one, .int other]) (fun _ => true) (fun i => .bl (decide (0 ≤ (if i = 0 then one else other)) && decide ((if i = 0 then one else other) < many))) (eu_tup (ea_cons (ev_var rfl) (ea_cons (ev_var rfl) ea_nil)) (by show 2 ≤ 100000; decide)) (by show 2 ≤ 40000; decide) (fun x => rfl) (fun i y H4 e4 hi => et_yes) fun i y H4 e4 hi _ => ?_) rfl
      have : y = .int (if i = 0 then one else other) := by
        match i, hi with
        | 0, h => cases h; rfl
        | 1, h => cases h; rfl
      subst this
      exact ev_chV ev_c (ev_var rfl) rv_I0 (ev_var rfl) rv_I0
    · refine el_is (el_lcUf (K := K) (xs := [.int r, .int o]) (fun _ => true) (fun i => .bl (decide (1 ≤ (if i = 0 then r else o)) && decide ((if i = 0 then r else o) ≤ 7))) (eu_tup (ea_cons (ev_var rfl) (ea_cons (ev_var rfl) ea_nil)) (by show 2 ≤ 100000; decide)) (by show 2 ≤ 40000; decide) (fun x => rfl) (fun i y H4 e4 hi => et_yes) fun i y H4 e4 hi _ => ?_) rfl
      have : y = .int (if i = 0 then r else o) := by
        match i, hi with
        | 0, h => cases h; rfl
        | 1, h => cases h; rfl
      subst this
      exact ev_chV ev_c (ev_var rfl) rv_I0 ev_c rv_I0
    have hM1 := hM.keep e1
    refine q_when (b := lBad kd one r other o many) (et_or (et_test (ev_niU (ev_var rfl) (eu_tup (ea_cons ev_c (ea_cons ev_c ea_nil)) (by show 2 ≤ 100000; decide)) rfl rfl)) fun _ => et_not (et_B (ev_var rfl))) (fun hb H2 e2 => kE (if_pos hb) H2 (Fr.of (e1.trans e2))) fun hb H2 e2 => ?_
    obtain ⟨gv, hgv⟩ : ∃ gv, gv = (((decide (0 ≤ one) && decide (one < many)) && ((decide (0 ≤ other) && decide (other < many)) && true)) && ((decide (1 ≤ r) && decide (r ≤ 7)) && ((decide (1 ≤ o) && decide (o ≤ 7)) && true))) := ⟨_, rfl⟩
    rw [← hgv]
    clear hgv
    have hlk : mlnk μ f kd one r other o many = lpre μ f kd one r other o 2 := if_neg (by rw [hb]; decide)
    rw [hlk] at kE kQ
    obtain ⟨ob, ub, _, _⟩ := lBad_no hb
    refine q_put (hM1.keep e2) (ev_var rfl) ev_c (ev_var rfl) (ev_var rfl) (by omega) fun H3 h3 f3 => ?_
    have f03 : Fr wl H H3 := (Fr.of (e1.trans e2)).trans f3
    refine q_forPU (K := K) (D := { nx := fun _ H' => Q .non H', rt := Q }) (tz := fun D σ H => D.nx σ H) (Ps := [PrLk one r, PrLk other o]) (fun P hP => lk2mo hP) (by show 2 ≤ 100000; decide) (eps_cons PrLk.mo (ep_lk (ev_var rfl) (ev_var rfl)) (eps_cons PrLk.mo (ep_lk (ev_var rfl) (ev_var rfl)) eps_nil)) fun p vs H4 e4 hp hal => ?_
    have hM4 := h3.keep e4
    refine ⟨fun i σ' H' => ∃ x10 x11 x12 ν, σ' = [some (.ref m), some (.int f), some (.ref lp), some (.int many), some (.int kd), some (.int one), some (.int r), some (.int other), some (.int o), some (.bl gv), x10, x11, x12, none] ∧ lpre μ f kd one r other o i = some ν ∧ MemAt K H' m wl ν ∧ Fr wl H4 H', ⟨none, none, none, _, rfl, rfl, hM4, Fr.refl⟩, fun i σ' H' _ ⟨_, _, _, _, _, _, _, f'⟩ => TK.fr f' hM4.ws _ _ hp, ?_, ?_⟩
    · rintro i x σ' H' hx ⟨x10, x11, x12, ν, rfl, hν, hM', f'⟩
      obtain ⟨P', hP', hv⟩ := hal.at hx
      obtain ⟨hi, rfl⟩ := lk2at hP'
      have nxt : lpre μ f kd one r other o (i + 1) = lstep ν f kd (lpart one r other o i).1 (lpart one r other o i).2 := by
        show (lpre μ f kd one r other o i).bind _ = _
        rw [hν]
        rfl
      have hpb : 0 ≤ (lpart one r other o i).1 ∧ (lpart one r other o i).1 < many := by
        unfold lpart
        split
        · exact ob
        · exact ub
      generalize (lpart one r other o i).1 = pt at *
      generalize (lpart one r other o i).2 = td at *
      obtain ⟨t, rfl, h1⟩ := PrLk.mo _ _ _ (TK.fr f' hM4.ws) hv
      refine ⟨t, _, rfl, st_of h1, rfl, _, _, rfl, _, _, rfl, rfl, ?_⟩
      refine q_asgL (el_lcUf (K := K) (xs := [.int 4, .int 5]) (fun k => decide (ν (ix (2 + 5 * pt) ((k : Int) * 8 + 32)) = 0)) (fun k => .int ((2 + 5 * pt) * 8 + (4 + (k : Int)))) (eu_tup (ea_cons ev_c (ea_cons ev_c ea_nil)) (by show 2 ≤ 100000; decide)) (by decide) (by intro x; rfl) (fun k y H5 e5 hk => ?_) fun k y H5 e5 hk _ => ?_) fun q H5 hq e5 h5' => ?_
      · have : k < 2 ∧ y = .int (4 + (k : Int)) := by
          match k, hk with
          | 0, h => cases h; exact ⟨by decide, rfl⟩
          | 1, h => cases h; exact ⟨by decide, rfl⟩
        obtain ⟨k2, rfl⟩ := this
        refine et_is (et_test (ev_op (ev_word (f := 2 + 5 * pt) (p := (4 + (k : Int)) * 8) (hM'.keep e5) (ev_var rfl) (ev_op ev_c (ev_op ev_c (ev_var rfl) (rv_I (.inl ⟨by decide, by decide⟩))) rv_I0) (ev_op (ev_var rfl) ev_c (rv_I (.inr ⟨by decide, by decide⟩))) (by omega)) ev_c (rv_eq rfl))) ?_
        rw [show (4 + (k : Int)) * 8 = (k : Int) * 8 + 32 by omega, decide_eq_decide]
        exact ⟨fun z => V.int.inj z, fun z => by rw [z]⟩
      · have : k < 2 ∧ y = .int (4 + (k : Int)) := by
          match k, hk with
          | 0, h => cases h; exact ⟨by decide, rfl⟩
          | 1, h => cases h; exact ⟨by decide, rfl⟩
        obtain ⟨k2, rfl⟩ := this
        exact ev_op (ev_op (ev_op ev_c (ev_op ev_c (ev_var rfl) (rv_I (.inl ⟨by decide, by decide⟩))) rv_I0) ev_c (rv_I (.inr ⟨by decide, by decide⟩))) (ev_var rfl) rv_I0
      have hM5 := hM'.keep e5
      have hcase : (lstep ν f kd pt td = none ∧ given 2 (fun k => decide (ν (ix (2 + 5 * pt) ((k : Int) * 8 + 32)) = 0)) (fun k => V.int ((2 + 5 * pt) * 8 + (4 + (k : Int)))) = []) ∨ ∃ (j : Int) (rest : List V), (j = 4 ∨ j = 5) ∧ lstep ν f kd pt td = some (mcap ν ((2 + 5 * pt) * 8 + j) (at0 [kd, f, td, pt + 1]) 1 0) ∧ given 2 (fun k => decide (ν (ix (2 + 5 * pt) ((k : Int) * 8 + 32)) = 0)) (fun k => V.int ((2 + 5 * pt) * 8 + (4 + (k : Int)))) = .int ((2 + 5 * pt) * 8 + j) :: rest := by
        unfold lstep
        have x0 : (((0 : Nat) : Int) * 8 + 32) = 32 := rfl
        have x1 : (((1 : Nat) : Int) * 8 + 32) = 40 := rfl
        by_cases h4 : ν (ix (2 + 5 * pt) 32) = 0
        · rw [if_pos h4]
          by_cases h5 : ν (ix (2 + 5 * pt) 40) = 0
          · exact .inr ⟨4, [.int ((2 + 5 * pt) * 8 + 5)], .inl rfl, rfl, by rw [given_yes (by rw [x1, h5]; rfl), given_yes (by rw [x0, h4]; rfl)]; rfl⟩
          · exact .inr ⟨4, [], .inl rfl, rfl, by rw [given_no (by rw [x1]; exact decide_eq_false h5), given_yes (by rw [x0, h4]; rfl)]; rfl⟩
        · rw [if_neg h4]
          by_cases h5 : ν (ix (2 + 5 * pt) 40) = 0
          · rw [if_pos h5]
            exact .inr ⟨5, [], .inr rfl, rfl, by rw [given_yes (by rw [x1, h5]; rfl), given_no (by rw [x0]; exact decide_eq_false h4)]; rfl⟩
          · rw [if_neg h5]
            exact .inl ⟨rfl, by rw [given_no (by rw [x1]; exact decide_eq_false h5), given_no (by rw [x0]; exact decide_eq_false h4)]; rfl⟩
      have f05 : Fr wl H H5 := ((f03.trans (Fr.of e4)).trans f').trans (Fr.of e5)
      rcases hcase with ⟨c1, c2⟩ | ⟨j, rest, hj, c1, c2⟩
      · refine q_when (b := true) (et_is (et_not (et_truL (K := K) (ev_var rfl) h5')) (by show (!!(given 2 _ _).isEmpty) = true; rw [c2]; rfl)) (fun _ H6 e6 => kE (lpre_none hi (by rw [nxt, c1])) H6 (f05.trans (Fr.of e6))) (fun h => by cases h)
      · refine q_when (b := false) (et_is (et_not (et_truL (K := K) (ev_var rfl) h5')) (by show (!!(given 2 _ _).isEmpty) = false; rw [c2]; rfl)) (fun h => by cases h) fun _ H6 e6 => ?_
        have h6 : H6 q = some (.lst (.int ((2 + 5 * pt) * 8 + j) :: rest)) := by
          rw [← c2]
          exact e6 _ _ h5'
        refine s_capU (s := (2 + 5 * pt) * 8 + j) (c := at0 [kd, f, td, pt + 1]) (hM5.keep e6) (ev_var rfl) (ev_op (ev_var rfl) ev_c (rv_ixL (sq_of h6) (atI_nat (j := 0) rfl))) (eu_tup (show EvA _ _ _ [.int kd, .int f, .int td, .int (pt + 1)] from ea_cons (ev_var rfl) (ea_cons (ev_var rfl) (ea_cons (ev_var rfl) (ea_cons (ev_op (ev_var rfl) ev_c rv_I0) ea_nil)))) (by show 4 ≤ 100000; decide)) ev_c ev_c (by omega) fun H7 h7 f7 => ⟨_, _, _, _, rfl, by rw [nxt, c1], h7, (f'.trans (Fr.of (e5.trans e6))).trans f7⟩
    rintro σ' H5 ⟨x10, x11, x12, ν, rfl, hν, hM5, f5⟩
    have hlen : vs.length = 2 := hal.len
    rw [hlen] at hν
    exact kQ ν hν H5 hM5 ((f03.trans (Fr.of e4)).trans f5)
end
end KA

namespace KX
open KA KQ KD
open PySem PySem.Spec PyProof.Rows L2 Evl TL
/-! ### the boot, whole -/
structure PtX where
  d : Int
  pr : Int
  bu : Int
  ws : List Int
  mn : Int
structure Lnk where
  k : Int
  one : Int
  r : Int
  other : Int
  o : Int
structure Ln3 where
  ln : Int
  num : Int
  bits : Int
def p0 : PtX := ⟨0, 0, 0, [], 0⟩
def l0 : Lnk := ⟨0, 0, 0, 0, 0⟩
def n0 : Ln3 := ⟨0, 0, 0⟩
def ofold (step : Nat → Mem → Option Mem) (μ : Mem) : Nat → Option Mem
  | 0 => some μ
  | i + 1 => (ofold step μ i).bind (step i)
theorem ofold_none {step : Nat → Mem → Option Mem} {μ : Mem} {i n : Nat} (h : ofold step μ i = none) (hi : i ≤ n) : ofold step μ n = none := by
  induction n with
  | zero => obtain rfl : i = 0 := by omega
            exact h
  | succ n ih =>
    by_cases e : i = n + 1
    · rw [← e]; exact h
    · show (ofold step μ n).bind _ = none
      rw [ih (by omega)]
      rfl
theorem ofold_succ {step : Nat → Mem → Option Mem} {μ ν : Mem} {i : Nat} (h : ofold step μ i = some ν) : ofold step μ (i + 1) = step i ν := by
  show (ofold step μ i).bind _ = _
  rw [h]
  rfl
def mplan (μ : Mem) (pl : List (Int × Int)) : Nat → Mem
  | 0 => μ
  | k + 1 => mset (mplan μ pl k) (ix 0 (24 + (k : Int))) ((pl.getD k (0, 0)).1 * 256 + (pl.getD k (0, 0)).2)
def mboot0 (pl : List (Int × Int)) : Mem := mset (mplan m0 pl pl.length) (ix 0 2) (pl.getD 0 (0, 0)).2
def plOk (p : Int × Int) : Bool := (decide (0 ≤ p.1) && decide (p.1 < 2)) && (decide (1 ≤ p.2) && decide (p.2 ≤ 255))
def planBad (pl : List (Int × Int)) : Bool := !(decide (1 ≤ (pl.length : Int)) && decide ((pl.length : Int) ≤ 4)) || !((pl.map plOk).all id)
def noRoom (ps : List PtX) (lks : List Lnk) : Bool := decide (2 + 5 * (ps.length : Int) + (lks.length : Int) + (ps.map (·.mn)).sum > 32) || ps.isEmpty
def pstep (ps : List PtX) (i : Nat) (ν : Mem) : Option Mem := if pBad (ps.getD i p0).d (ps.getD i p0).pr (ps.getD i p0).bu (ps.getD i p0).ws (ps.getD i p0).mn = true then none else some (mbegin ν (2 + 5 * (i : Int)) (ps.getD i p0).d (ps.getD i p0).pr (ps.getD i p0).bu (ps.getD i p0).ws)
def kstep (n : Int) (lks : List Lnk) (i : Nat) (ν : Mem) : Option Mem := mlnk ν (2 + 5 * n + (i : Int)) (lks.getD i l0).k (lks.getD i l0).one (lks.getD i l0).r (lks.getD i l0).other (lks.getD i l0).o n
def upre (ps : List PtX) (μ : Mem) (f : Int) : Nat → Mem × Int
  | 0 => (μ, f)
  | i + 1 => if (ps.getD i p0).mn ≠ 0 then (mcap (upre ps μ f i).1 ((2 + 5 * (i : Int)) * 8) (at0 [1, (upre ps μ f i).2, 7, 0]) (ps.getD i p0).mn 0, (upre ps μ f i).2 + (ps.getD i p0).mn) else upre ps μ f i
def nBad (lks : List Lnk) (l : Ln3) : Bool := !(decide (0 ≤ l.ln) && decide (l.ln < 4)) || (!(decide (0 ≤ l.num) && decide (l.num < (lks.length : Int))) || (!decide ((lks.getD l.num.toNat l0).k = 7) || !(decide (1 ≤ l.bits) && decide (l.bits ≤ 255))))
def nstep (n : Int) (lks : List Lnk) (lns : List Ln3) (i : Nat) (ν : Mem) : Option Mem := if nBad lks (lns.getD i n0) = true then none else some (mset ν (ix 0 (20 + (lns.getD i n0).ln)) ((lns.getD i n0).bits * 256 + 2 + 5 * n + (lns.getD i n0).num + 1))
def bootG (pl : List (Int × Int)) (ps : List PtX) (lks : List Lnk) (lns : List Ln3) : Option Mem :=
  if planBad pl = true then none else if noRoom ps lks = true then none else
  (ofold (pstep ps) (mboot0 pl) ps.length).bind fun μ1 => (ofold (kstep (ps.length : Int) lks) μ1 lks.length).bind fun μ2 => ofold (nstep (ps.length : Int) lks lns) (upre ps μ2 (2 + 5 * (ps.length : Int) + (lks.length : Int)) ps.length).1 lns.length
def PlanAt (H : Hp) (a : Addr) (pl : List (Int × Int)) : Prop := ∃ vs, H a = some (.tup vs) ∧ vs.length = pl.length ∧ ∀ i v, vs[i]? = some v → ∃ t, v = .ref t ∧ H t = some (.tup [.int (pl.getD i (0, 0)).1, .int (pl.getD i (0, 0)).2])
def PartsAt (H : Hp) (a : Addr) (ps : List PtX) : Prop := ∃ vs, H a = some (.tup vs) ∧ vs.length = ps.length ∧ ∀ i v, vs[i]? = some v → ∃ t c, v = .ref t ∧ H t = some (.tup [.int (ps.getD i p0).d, .int (ps.getD i p0).pr, .int (ps.getD i p0).bu, .ref c, .int (ps.getD i p0).mn]) ∧ H c = some (.tup ((ps.getD i p0).ws.map V.int))
def LnksAt (H : Hp) (a : Addr) (ls : List Lnk) : Prop := ∃ vs, H a = some (.tup vs) ∧ vs.length = ls.length ∧ ∀ i v, vs[i]? = some v → ∃ t, v = .ref t ∧ H t = some (.tup [.int (ls.getD i l0).k, .int (ls.getD i l0).one, .int (ls.getD i l0).r, .int (ls.getD i l0).other, .int (ls.getD i l0).o])
def LnsAt (H : Hp) (a : Addr) (ls : List Ln3) : Prop := ∃ vs, H a = some (.tup vs) ∧ vs.length = ls.length ∧ ∀ i v, vs[i]? = some v → ∃ t, v = .ref t ∧ H t = some (.tup [.int (ls.getD i n0).ln, .int (ls.getD i n0).num, .int (ls.getD i n0).bits])
theorem PlanAt.mono {H H' : Hp} {a : Addr} {pl : List (Int × Int)} (k : TK H H') (h : PlanAt H a pl) : PlanAt H' a pl := by
  obtain ⟨vs, h1, h2, h3⟩ := h
  exact ⟨vs, k _ _ h1, h2, fun i v hv => let ⟨t, e, q⟩ := h3 i v hv; ⟨t, e, k _ _ q⟩⟩
theorem PartsAt.mono {H H' : Hp} {a : Addr} {ps : List PtX} (k : TK H H') (h : PartsAt H a ps) : PartsAt H' a ps := by
  obtain ⟨vs, h1, h2, h3⟩ := h
  exact ⟨vs, k _ _ h1, h2, fun i v hv => let ⟨t, c, e, q, r⟩ := h3 i v hv; ⟨t, c, e, k _ _ q, k _ _ r⟩⟩
theorem LnksAt.mono {H H' : Hp} {a : Addr} {ls : List Lnk} (k : TK H H') (h : LnksAt H a ls) : LnksAt H' a ls := by
  obtain ⟨vs, h1, h2, h3⟩ := h
  exact ⟨vs, k _ _ h1, h2, fun i v hv => let ⟨t, e, q⟩ := h3 i v hv; ⟨t, e, k _ _ q⟩⟩
theorem LnsAt.mono {H H' : Hp} {a : Addr} {ls : List Ln3} (k : TK H H') (h : LnsAt H a ls) : LnsAt H' a ls := by
  obtain ⟨vs, h1, h2, h3⟩ := h
  exact ⟨vs, k _ _ h1, h2, fun i v hv => let ⟨t, e, q⟩ := h3 i v hv; ⟨t, e, k _ _ q⟩⟩
theorem given_map {α : Type} (L : List α) (d : α) (g : α → V) : given L.length (fun _ => true) (fun i => g (L.getD i d)) = L.map g := by
  unfold given
  rw [List.filter_eq_self.mpr (fun _ _ => rfl)]
  refine List.ext_getElem? fun i => ?_
  rw [List.getElem?_map, List.getElem?_map]
  by_cases hi : i < L.length
  · rw [List.getElem?_range hi, List.getElem?_eq_getElem hi]
    show some (g (L.getD i d)) = _
    rw [List.getD_eq_getElem?_getD, List.getElem?_eq_getElem hi]
    rfl
  · rw [List.getElem?_eq_none (by rw [List.length_range]; omega), List.getElem?_eq_none (by omega)]
    rfl
theorem sum_nn {ps : List PtX} (h : ∀ p ∈ ps, 0 ≤ p.mn) : 0 ≤ (ps.map (·.mn)).sum := by
  induction ps with
  | nil => exact Int.le_refl 0
  | cons p r ih =>
    rw [List.map_cons, List.sum_cons]
    have := h p List.mem_cons_self
    have := ih fun q hq => h q (List.mem_cons_of_mem _ hq)
    omega
section
variable {P : Program} {w : World} {K : PySem.W.Frag} {mg : Str → Option Value} {base : Heap}
def sp_Memory_init (K : PySem.W.Frag) : Sp := fun vs H Q _ => ∃ (m dx : Addr), vs = [.ref m] ∧ H m = some (.ins (CM K) dx []) ∧ ∀ wl dd H', H wl = none → MemAt K H' m wl m0 → H' m = some (.ins (CM K) dx [("_words", .ref wl), ("_disks", .ref dd)]) → H' dd = some (.dK []) → FS [m] H H' → Q .non H'
theorem ok_Memory_init (T : Txt K mg) : FnOk P w K mg base CX0 1 (f_Memory_init K) (fd_Memory_init K) ["self"] (sp_Memory_init K) := by
  refine T.fn_Memory_init.ok sc_Memory_init (fun vs H Q E h => ?_) (fun cdv A outer s H vs Q E hr h => ⟨_, PSs.nox (pss_cons (ps_fld (pv 0) (pe_op op_rep (pe_lst (pa_cons pe_int pa_nil)) (pe_op op_mul (T.pg_FRAMES) (T.pg_FRAME))) rfl) (pss_one (ps_fld (pv 0) pe_dnewK rfl))), ?_⟩)
  · obtain ⟨_, _, rfl, _⟩ := h
    rfl
  · obtain ⟨m, dx, rfl, hm, k⟩ := h
    have ew : (List.replicate (Int.toNat (32 * 64)) [V.int 0]).flatten = lW m0 := by rw [rep1, lW0]; rfl
    refine q_fldL (xs := (List.replicate (Int.toNat (32 * 64)) [V.int 0]).flatten) (el_rep (el_lst (vs := [.int 0]) (ea_cons ev_c ea_nil) (by decide)) (ev_op ev_c ev_c (rv_I (.inr ⟨by decide, by decide⟩))) (by decide) (by show 1 * 2048 ≤ 100000; decide)) (ev_var rfl) hm T.cl_Memory T.no_Memory_words (by decide) fun wl H2 hwH e2 h2 => ?_
    rw [ew] at h2
    have nw : wl ≠ m := fun z => by rw [z, hm] at hwH; cases hwH
    have f3 : FS [m] H (upd H2 m (.ins (CM K) dx (putF "_words" (.ref wl) []))) := (FS.of e2).trans (FS.put (by simp))
    have h3 : (upd H2 m (.ins (CM K) dx (putF "_words" (.ref wl) []))) m = some (.ins (CM K) dx (putF "_words" (.ref wl) [])) := upd_same
    have w3 : (upd H2 m (.ins (CM K) dx (putF "_words" (.ref wl) []))) wl = some (.lst (lW m0)) := by rw [upd_ne nw]; exact h2
    show sFld K (tVar 0) tDNewK "_disks" _ _ (upd H2 m (.ins (CM K) dx (putF "_words" (.ref wl) [])))
    generalize upd H2 m (.ins (CM K) dx (putF "_words" (.ref wl) [])) = H3 at f3 h3 w3 ⊢
    intro dd hdd
    have e4 : Ex H3 (upd H3 dd (.dK [])) := Ex.new hdd
    have h4 : (upd H3 dd (.dK [])) dd = some (.dK []) := upd_same
    generalize upd H3 dd (.dK []) = H4 at e4 h4 ⊢
    have ndm : dd ≠ m := fun z => by rw [z, h3] at hdd; cases hdd
    refine ⟨_, rfl, m, CM K, dx, _, rfl, e4 _ _ h3, T.cl_Memory, T.no_Memory_disks, by show 1 < 1000; decide, ?_⟩
    exact (k wl dd _ hwH ⟨⟨dx, dd, upd_same, [], by rw [upd_ne ndm]; exact h4⟩, by rw [upd_ne nw]; exact e4 _ _ w3⟩ upd_same (by rw [upd_ne ndm]; exact h4) ((f3.trans (FS.of e4)).trans (FS.put (by simp))))
theorem s_dropC {σ : L2.St} {H : Hp} {D : Ends} {ta : TA} {sp : Sp} {dvs vs : List V} {E : XK} (h : EvA ta σ H vs) (k : ∀ H1, Ex H H1 → sp (vs ++ dvs) H1 (fun v H' => D.nx σ H') E) : tDrop (tCall sp dvs E ta) D σ H := h H (Ex.refl H) _ k
structure BootOk (pl : List (Int × Int)) (ps : List PtX) (lks : List Lnk) (lns : List Ln3) : Prop where
  read : planBad pl = false → noRoom ps lks = false → ∀ i ν, i < ps.length → ofold (pstep ps) (mboot0 pl) i = some ν → pBad (ps.getD i p0).d (ps.getD i p0).pr (ps.getD i p0).bu (ps.getD i p0).ws (ps.getD i p0).mn = false → Read6 ν (2 + 5 * (i : Int)) (ps.getD i p0).d (ps.getD i p0).pr (ps.getD i p0).bu (ps.getD i p0).ws
  nn : ∀ p ∈ ps, 0 ≤ p.mn
  l1 : pl.length ≤ 1000
  l2 : ps.length ≤ 1000
  l3 : lks.length ≤ 1000
  l4 : lns.length ≤ 1000
def sp_booted (K : PySem.W.Frag) : Sp := fun vs H Q E => ∃ (pa qa la ra : Addr) (pl : List (Int × Int)) (ps : List PtX) (lks : List Lnk) (lns : List Ln3), vs = [.ref pa, .ref qa, .ref la, .ref ra] ∧ PlanAt H pa pl ∧ PartsAt H qa ps ∧ LnksAt H la lks ∧ LnsAt H ra lns ∧ BootOk pl ps lks lns ∧
  (bootG pl ps lks lns = none → ∀ H', Ex H H' → E (.ref (He.ga K "InvalidBoot")) none H') ∧
  ∀ μ, bootG pl ps lks lns = some μ → ∀ m wl dx dd H', H m = none → H wl = none → Ex H H' → MemAt K H' m wl μ → H' m = some (.ins (CM K) dx [("_words", .ref wl), ("_disks", .ref dd)]) → H' dd = some (.dK []) → Q (.ref m) H'
theorem ok_booted (T : Txt K mg) : FnOk P w K mg base (L2.CX P w) 6 (f_booted K) (fd_booted K) ["plan", "parts", "links", "lines"] (sp_booted K) := by
  refine T.fn_booted.ok sc_booted (fun vs H Q E h => ?_) (fun cdv A outer s H vs Q E hr h => ⟨_, (pss_cons (ps_par (i := 4) (j := 5) (by rfl) sc_booted.nd rfl rfl (by decide) rfl rfl (pa_cons (pe_make0 (T.mk_Memory) (ok_Memory_init T) (hr.mono (by decide)) (by rfl) (T.glo_Memory) (T.bd_Memory_init) .nil pass0) (pa_cons (pe_op op_add pe_int (pe_op op_mul (T.pg_EACH) (pe_callB call_len (by rfl) T.free_len PySem.boot_len (pa_cons (pv 1) pa_nil)))) pa_nil)) (by rfl)) (pss_cons (ps_if (PW.pt (pw_or (pt_not (pt_chain op_le op_le pe_int (pe_callB call_len (by rfl) T.free_len PySem.boot_len (pa_cons (pv 0) pa_nil)) (T.pg_PARTS))) (pw_or1 (pt_not (pt_val (pe_callB (cr_all rfl) (by rfl) T.free_all (by decide +kernel) (pa_cons (pe_lc (own := [("domain", 6), ("ticks", 7)]) (by rfl) sc_booted.nd (pi_tup (pv 0)) (blkOk_by (N := sc_booted_N) (sc := defScope s_booted) (own := [("domain", 6), ("ticks", 7)]) (by decide +kernel)) (fun _ _ _ _ _ => (pg_tupK (K := K) (n := 2) (by rfl) (by rfl) (pgs_cons (pg_name (i := 6) sc_booted.nd rfl (Or.inl rfl)) (pgs_cons (pg_name (i := 7) sc_booted.nd rfl (Or.inl rfl)) pgs_nil)))) (fun _ _ _ _ _ => pts_nil) (fun _ _ _ _ _ => (pe_and (pe_chain op_le op_lt pe_int (pv 6) (by exact T.pg_DOMAINS)) (pe_one (pe_chain op_le op_le pe_int (pv 7) pe_int))))) pa_nil))))))) (pss_one (ps_raise rfl (takes_of rfl rfl rfl rfl) (pmk_own F.excBase_ValueError T.exc_InvalidBoot.1 T.glo_InvalidBoot T.exc_InvalidBoot.2.1 T.raises_InvalidBoot (by rfl)))) pss_nil) (pss_cons (ps_for (passes_of rfl) rfl (pi_enumT (by rfl) T.free_enumerate (pa_cons (pv 0) pa_nil)) (pg_tup (by rfl) (pgs_cons (pg_name (i := 8) sc_booted.nd rfl (Or.inl rfl)) (pgs_cons (pg_tup (by rfl) (pgs_cons (pg_name (i := 6) sc_booted.nd rfl (Or.inl rfl)) (pgs_cons (pg_name (i := 7) sc_booted.nd rfl (Or.inl rfl)) pgs_nil))) pgs_nil))) (pss_one (ps_expr (pe_meth (pv 4) (T.cl_Memory) (T.mt_Memory_put) (ok_Memory_put T) (hr.mono (by decide)) (T.bd_Memory_put) .nil pass0 (pa_cons (T.pg_KERNEL) (pa_cons (pe_op op_add (T.pg_K_PLAN) (pv 8)) (pa_cons (pe_op op_add (pe_op op_mul (pv 6) pe_int) (pv 7)) pa_nil))))))) (pss_cons (ps_expr (pe_meth (pv 4) (T.cl_Memory) (T.mt_Memory_put) (ok_Memory_put T) (hr.mono (by decide)) (T.bd_Memory_put) .nil pass0 (pa_cons (T.pg_KERNEL) (pa_cons (T.pg_K_LEFT) (pa_cons (pe_ix ix_tup (pe_ix ix_tup (pv 0) pe_int (fun _ _ => rfl)) pe_int (fun _ _ => rfl)) pa_nil))))) (pss_cons (ps_if (PW.pt (pw_or (pt_cmpR op_gt (pe_op op_add (pe_op op_add (pv 5) (pe_callB call_len (by rfl) T.free_len PySem.boot_len (pa_cons (pv 2) pa_nil))) (pe_callB (cr_sum rfl) (by rfl) T.free_sum (by decide +kernel) (pa_cons (pe_lc (own := [("part", 9)]) (by rfl) sc_booted.nd (pi_tup (pv 1)) (blkOk_by (N := sc_booted_N) (sc := defScope s_booted) (own := [("part", 9)]) (by decide +kernel)) (fun _ _ _ _ _ => (pg_name (i := 9) sc_booted.nd rfl (Or.inl rfl))) (fun _ _ _ _ _ => pts_nil) (fun _ _ _ _ _ => (pe_ix (r := rIxT K) (by exact ix_tup) (pv 9) pe_int (fun _ _ => rfl)))) pa_nil))) (T.pg_FRAMES) (nomark _)) (pw_or1 (pt_not (pt_truth (pv 1) (by intro _; rfl)))))) (pss_one (ps_raise rfl (takes_of rfl rfl rfl rfl) (pmk_own F.excBase_ValueError T.exc_InvalidBoot.1 T.glo_InvalidBoot T.exc_InvalidBoot.2.1 T.raises_InvalidBoot (by rfl)))) pss_nil) (pss_cons (ps_for (passes_of rfl) rfl (pi_enumT (by rfl) T.free_enumerate (pa_cons (pv 1) pa_nil)) (pg_tup (by rfl) (pgs_cons (pg_name (i := 8) sc_booted.nd rfl (Or.inl rfl)) (pgs_cons (pg_name (i := 9) sc_booted.nd rfl (Or.inl rfl)) pgs_nil))) (pss_one (ps_expr (pe_call (ok_begin_part T) (hr.mono (by decide)) (by rfl) (T.glo_begin_part) (T.kp_begin_part) (T.bd_begin_part) .nil (passes_call (takes_of rfl rfl rfl rfl) (fun _ _ _ _ z => z)) (pa_cons (pv 4) (pa_cons (pe_op op_add pe_int (pe_op op_mul (T.pg_EACH) (pv 8))) (pa_cons (pv 9) pa_nil))))))) (pss_cons (ps_for (passes_of rfl) rfl (pi_enumT (by rfl) T.free_enumerate (pa_cons (pv 2) pa_nil)) (pg_tup (by rfl) (pgs_cons (pg_name (i := 8) sc_booted.nd rfl (Or.inl rfl)) (pgs_cons (pg_name (i := 10) sc_booted.nd rfl (Or.inl rfl)) pgs_nil))) (pss_one (ps_expr (pe_call (ok_begin_link T) (hr.mono (by decide)) (by rfl) (T.glo_begin_link) (T.kp_begin_link) (T.bd_begin_link) .nil (passes_call (takes_of rfl rfl rfl rfl) (fun _ _ _ _ z => z)) (pa_cons (pv 4) (pa_cons (pe_op op_add (pv 5) (pv 8)) (pa_cons (pv 10) (pa_cons (pe_callB call_len (by rfl) T.free_len PySem.boot_len (pa_cons (pv 1) pa_nil)) pa_nil)))))))) (pss_cons (ps_aug (i := 5) sc_booted.nd rfl (.inl rfl) (pe_callB call_len (by rfl) T.free_len PySem.boot_len (pa_cons (pv 2) pa_nil)) ip_add) (pss_cons (ps_for (passes_of rfl) rfl (pi_enumT (by rfl) T.free_enumerate (pa_cons (pv 1) pa_nil)) (pg_tup (by rfl) (pgs_cons (pg_name (i := 8) sc_booted.nd rfl (Or.inl rfl)) (pgs_cons (pg_name (i := 9) sc_booted.nd rfl (Or.inl rfl)) pgs_nil))) (pss_one (ps_if (pt_truth (pe_ix ix_tup (pv 9) pe_int (fun _ _ => rfl)) (by intro _; rfl)) (pss_cons (ps_expr (pe_call (ok_put_cap T) (hr.mono (by decide)) (by rfl) (T.glo_put_cap) (T.kp_put_cap) (T.bd_put_cap) .nil pass0 (pa_cons (pv 4) (pa_cons (pe_op op_mul (pe_op op_add pe_int (pe_op op_mul (T.pg_EACH) (pv 8))) (T.pg_SLOTS)) (pa_cons (pe_tup (pa_cons (T.pg_UNTYPED) (pa_cons (pv 5) (pa_cons (T.pg_ALL) (pa_cons pe_int pa_nil))))) (pa_cons pe_non (pa_cons (pe_ix ix_tup (pv 9) pe_int (fun _ _ => rfl)) (pa_cons pe_int pa_nil)))))))) (pss_one (ps_aug (i := 5) sc_booted.nd rfl (.inl rfl) (pe_ix ix_tup (pv 9) pe_int (fun _ _ => rfl)) ip_add))) pss_nil))) (pss_cons (ps_for (passes_of rfl) rfl (pi_tup (pv 3)) (pg_tup (by rfl) (pgs_cons (pg_name (i := 11) sc_booted.nd rfl (Or.inl rfl)) (pgs_cons (pg_name (i := 8) sc_booted.nd rfl (Or.inl rfl)) (pgs_cons (pg_name (i := 12) sc_booted.nd rfl (Or.inl rfl)) pgs_nil)))) (pss_cons (ps_if (PW.pt (pw_or (pt_not (pt_chain op_le op_lt pe_int (pv 11) (T.pg_LINES))) (pw_or (pt_not (pt_chain op_le op_lt pe_int (pv 8) (pe_callB call_len (by rfl) T.free_len PySem.boot_len (pa_cons (pv 2) pa_nil)))) (pw_or (pt_cmpR op_ne (pe_ix ix_tup (pe_ix ix_tup (pv 2) (pv 8) (fun _ _ => rfl)) pe_int (fun _ _ => rfl)) (T.pg_NOTICE) (nomark _)) (pw_or1 (pt_not (pt_chain op_le op_le pe_int (pv 12) pe_int))))))) (pss_one (ps_raise rfl (takes_of rfl rfl rfl rfl) (pmk_own F.excBase_ValueError T.exc_InvalidBoot.1 T.glo_InvalidBoot T.exc_InvalidBoot.2.1 T.raises_InvalidBoot (by rfl)))) pss_nil) (pss_one (ps_expr (pe_meth (pv 4) (T.cl_Memory) (T.mt_Memory_put) (ok_Memory_put T) (hr.mono (by decide)) (T.bd_Memory_put) .nil pass0 (pa_cons (T.pg_KERNEL) (pa_cons (pe_op op_add (T.pg_K_LINES) (pv 11)) (pa_cons (pe_op op_add (pe_op op_add (pe_op op_add (pe_op op_add (pe_op op_mul (pv 12) pe_int) pe_int) (pe_op op_mul (T.pg_EACH) (pe_callB call_len (by rfl) T.free_len PySem.boot_len (pa_cons (pv 1) pa_nil)))) (pv 8)) pe_int) pa_nil)))))))) (pss_one (ps_ret (pv 4))))))))))))), ?_⟩)
  · obtain ⟨_, _, _, _, _, _, _, _, rfl, _⟩ := h
    rfl
  · obtain ⟨pa, qa, la, ra, pl, ps, lks, lns, rfl, hP, hQ, hL, hR, g, kE, k⟩ := h
    have g1 := g.l1
    have g2 := g.l2
    have g3 := g.l3
    have g4 := g.l4
    obtain ⟨vp, hp1, hp2, hp3⟩ := id hP
    obtain ⟨vq, hq1, hq2, hq3⟩ := id hQ
    obtain ⟨vl, hl1, hl2, hl3⟩ := id hL
    obtain ⟨vn, hn1, hn2, hn3⟩ := id hR
    refine fun m dx hm hdx hne => ⟨m, dx, rfl, upd_same, fun wl dd H1 hwl hM hmi hdd f1 => ⟨rfl, ?_⟩⟩
    have hwm : wl ≠ m := fun z => by rw [z, upd_same] at hwl; cases hwl
    have hwd : wl ≠ dx := fun z => by rw [z, upd_ne hne, upd_same] at hwl; cases hwl
    have hwH : H wl = none := by rw [upd_ne hwm, upd_ne hwd] at hwl; exact hwl
    have e1 : Ex H H1 := fun b o h => by
      have n1 : b ≠ m := fun z => by rw [z, hm] at h; cases h
      have n2 : b ≠ dx := fun z => by rw [z, hdx] at h; cases h
      exact f1 b o (by rw [upd_ne n1, upd_ne n2]; exact h) (by simpa using n1)
    refine (ev_op ev_c (ev_op ev_c (ev_lenT (K := K) (ev_var rfl) (st_of (e1 _ _ hq1))) (rv_I (.inl ⟨by decide, by decide⟩))) rv_I0 : Ev _ _ H1 (.int (2 + 5 * (vq.length : Int)))) H1 (Ex.refl H1) _ fun H2 e2 => ⟨_, _, rfl, ?_⟩
    rw [hq2]
    have e02 := e1.trans e2
    dsimp only
    refine q_when (b := planBad pl) (et_is (et_or (et_not (et_test (ev_chV (k := decide (1 ≤ (vp.length : Int))) (k' := decide ((vp.length : Int) ≤ 4)) ev_c (ev_lenT (K := K) (ev_var rfl) (st_of (e02 _ _ hp1))) rv_I0 ev_c rv_I0))) fun _ => et_not (et_B (ev_all (K := K) (bs := pl.map plOk) ?_))) (by rw [hp2]; rfl)) (fun hb H3 e3 => ?_) fun hb H3 e3 => ?_
    · rw [List.map_map, ← given_map pl (0, 0), ← hp2]
      refine el_lcT (K := K) (a := pa) (xs := vp) (fun i => (V.bl ∘ plOk) (pl.getD i (0, 0))) (ev_var rfl) (st_of (e02 _ _ hp1)) (by omega) fun i x H3 e3 hx H4 e4 R hR => ?_
      obtain ⟨t, rfl, ht⟩ := hp3 i x hx
      refine ⟨t, _, rfl, st_of (e4 _ _ (e3 _ _ (e02 _ _ ht))), rfl, _, _, rfl, _, _, rfl, rfl, ?_⟩
      exact hR _ rfl (ev_is (ev_andV (ev_chV (k := decide (0 ≤ (pl.getD i (0, 0)).1)) (k' := decide ((pl.getD i (0, 0)).1 < 2)) ev_c (ev_var rfl) rv_I0 ev_c rv_I0) fun _ => ev_chV (k := decide (1 ≤ (pl.getD i (0, 0)).2)) (k' := decide ((pl.getD i (0, 0)).2 ≤ 255)) ev_c (ev_var rfl) rv_I0 ev_c rv_I0) rfl)
    · exact kE (if_pos hb) H3 (e02.trans e3)
    have gP : pl.length ≤ 4 ∧ 1 ≤ pl.length := by
      simp only [planBad, Bool.or_eq_false_iff, Bool.not_eq_false', Bool.and_eq_true, decide_eq_true_eq] at hb
      omega
    have e03 := e02.trans e3
    have hM3 := hM.keep (e2.trans e3)
    have hw3 := hM3.ws
    refine q_forET (K := K) (a := pa) (xs := vp) (ev_var rfl) (st_of (e03 _ _ hp1))
      (fun i σ' H' => ∃ x6 x7 x8, σ' = [some (.ref pa), some (.ref qa), some (.ref la), some (.ref ra), some (.ref m), some (.int (2 + 5 * (ps.length : Int))), x6, x7, x8, none, none, none, none] ∧ MemAt K H' m wl (mplan m0 pl i) ∧ Fr wl H3 H')
      (fun H4 e4 => ⟨none, none, none, rfl, hM3.keep e4, Fr.of e4⟩) (fun i σ' H' ⟨_, _, _, _, _, f'⟩ => st_of (TK.fr f' hw3 _ _ (e03 _ _ hp1))) ?_ ?_
    · rintro i y σ' H' t hy ⟨x6, x7, x8, rfl, hM', f'⟩ ht
      obtain ⟨u, rfl, hu⟩ := hp3 i y hy
      have hi : i < pl.length := by rw [← hp2]; exact (List.getElem?_eq_some_iff.mp hy).1
      have hu' := TK.fr f' hw3 _ _ (e03 _ _ hu)
      have e4 : Ex H' (L2.upd H' t (.tup [.int (i : Nat), .ref u])) := Ex.new ht
      refine ⟨t, _, rfl, st_of upd_same, rfl, _, _, rfl, _, _, rfl, u, _, rfl, st_of (e4 _ _ hu'), rfl, _, _, rfl, _, _, rfl, rfl, rfl, ?_⟩
      exact s_put (hM'.keep e4) (ev_var rfl) ev_c (ev_op ev_c (ev_var rfl) rv_I0) (ev_op (ev_op (ev_var rfl) ev_c (rv_I (.inr ⟨by decide, by decide⟩))) (ev_var rfl) rv_I0) (by omega) fun H5 h5 f5 => ⟨_, _, _, rfl, h5, (f'.trans (Fr.of e4)).trans f5⟩
    rintro σ' H4 ⟨x6, x7, x8, rfl, hM4, f4⟩
    rw [hp2] at hM4
    have tk4 : TK H H4 := (TK.ex e03).trans (TK.fr f4 hw3)
    have hM4w := hM4.ws
    obtain ⟨v0, hv0⟩ : ∃ v0, vp[0]? = some v0 := ⟨vp[0]'(by omega), List.getElem?_eq_getElem _⟩
    obtain ⟨t0, rfl, ht0⟩ := hp3 0 v0 hv0
    refine q_put hM4 (ev_var rfl) ev_c ev_c (ev_op (ev_op (ev_var rfl) ev_c (Evl.rv_ixT (st_of (tk4 _ _ hp1)) (atI_nat (j := 0) hv0))) ev_c (Evl.rv_ixT (st_of (tk4 _ _ ht0)) (atI_nat (j := 1) rfl))) (by omega) fun H5 hM5 f5 => ?_
    have hM5 : MemAt K H5 m wl (mboot0 pl) := hM5
    have tk5 : TK H H5 := tk4.trans (TK.fr f5 hM4w)
    have ex_of : ∀ {H'}, Fr wl H3 H' → Ex H H' := fun {H'} f => fun b o h => f b o (e03 b o h) fun z => by rw [z, hwH] at h; cases h
    have f35 := f4.trans f5
    refine q_when (b := noRoom ps lks) (et_is (et_or (et_test (ev_op (ev_op (ev_op (ev_var rfl) (ev_lenT (K := K) (ev_var rfl) (st_of (tk5 _ _ hl1))) rv_I0) (ev_sum (K := K) (ns := ps.map (·.mn)) ?_) rv_I0) ev_c rv_I0)) fun _ => et_not (et_truT (K := K) (ev_var (i := 1) rfl) (st_of (tk5 _ _ hq1)))) ?_) (fun hb6 H6 e6 => kE ((if_neg (by rw [hb]; decide)).trans (if_pos hb6)) H6 ((ex_of f35).trans e6)) fun hb6 H6 e6 => ?_
    · rw [List.map_map, ← given_map ps p0, ← hq2]
      refine el_lcT (K := K) (a := qa) (xs := vq) (fun i => V.int (ps.getD i p0).mn) (ev_var rfl) (st_of (tk5 _ _ hq1)) (by omega) fun i x H6 e6 hx H7 e7 R hR => ?_
      obtain ⟨t, c, rfl, ht, hc⟩ := hq3 i x hx
      exact hR _ rfl (ev_op (ev_var rfl) ev_c (Evl.rv_ixT (st_of (e6 _ _ (tk5 _ _ ht))) (atI_nat (j := 4) rfl)))
    · unfold noRoom
      rw [hl2, Bool.not_not]
      congr 1
      cases vq with
      | nil => rw [List.length_nil] at hq2; rw [List.length_eq_zero_iff.mp hq2.symm]; rfl
      | cons a b => cases ps with
        | nil => cases hq2
        | cons c d => rfl
    have room : 2 + 5 * (ps.length : Int) + (lks.length : Int) ≤ 32 := by
      have h := hb6
      unfold noRoom at h
      rw [Bool.or_eq_false_iff] at h
      have h1 := of_decide_eq_false h.1
      have := sum_nn g.nn
      omega
    have bG : bootG pl ps lks lns = (ofold (pstep ps) (mboot0 pl) ps.length).bind fun μ1 => (ofold (kstep (ps.length : Int) lks) μ1 lks.length).bind fun μ2 => ofold (nstep (ps.length : Int) lks lns) (upre ps μ2 (2 + 5 * (ps.length : Int) + (lks.length : Int)) ps.length).1 lns.length := (if_neg (by rw [hb]; decide)).trans (if_neg (by rw [hb6]; decide))
    have hM6 := hM5.keep e6
    have hM6w := hM6.ws
    have tk6 : TK H H6 := tk5.trans (TK.ex e6)
    have f6 : Fr wl H3 H6 := f35.trans (Fr.of e6)
    refine q_forET (K := K) (a := qa) (xs := vq) (ev_var rfl) (st_of (tk6 _ _ hq1))
      (fun i σ' H' => ∃ x8 x9 ν, σ' = [some (.ref pa), some (.ref qa), some (.ref la), some (.ref ra), some (.ref m), some (.int (2 + 5 * (ps.length : Int))), x6, x7, x8, x9, none, none, none] ∧ ofold (pstep ps) (mboot0 pl) i = some ν ∧ MemAt K H' m wl ν ∧ Fr wl H6 H')
      (fun H7 e7 => ⟨x8, none, _, rfl, rfl, hM6.keep e7, Fr.of e7⟩) (fun i σ' H' ⟨_, _, _, _, _, _, f'⟩ => st_of (TK.fr f' hM6w _ _ (tk6 _ _ hq1))) ?_ ?_
    · rintro i y σ' H' t hy ⟨y8, y9, ν, rfl, hν, hM', f'⟩ ht
      obtain ⟨u, c, rfl, hu, hc⟩ := hq3 i y hy
      have hi : i < ps.length := by rw [← hq2]; exact (List.getElem?_eq_some_iff.mp hy).1
      have tk' : TK H H' := tk6.trans (TK.fr f' hM6w)
      have e4 : Ex H' (L2.upd H' t (.tup [.int (i : Nat), .ref u])) := Ex.new ht
      refine ⟨t, _, rfl, st_of upd_same, rfl, _, _, rfl, _, _, rfl, rfl, ?_⟩
      have nx := ofold_succ hν
      refine s_dropC (vs := [.ref m, .int (2 + 5 * (i : Int)), .ref u]) (ea_cons (ev_var rfl) (ea_cons (ev_op ev_c (ev_op ev_c (ev_var rfl) (rv_I (.inl ⟨by decide, by decide⟩))) rv_I0) (ea_cons (ev_var rfl) ea_nil))) fun H7 e7 => ⟨m, wl, u, c, ν, _, _, _, _, _, _, rfl, (hM'.keep e4).keep e7, e7 _ _ (e4 _ _ (tk' _ _ hu)), e7 _ _ (e4 _ _ (tk' _ _ hc)), fun hbad H8 e8 => ?_, fun hgood => ⟨by omega, by omega, g.read hb hb6 i ν hi hν hgood, fun H8 h8 f8 => ⟨_, _, _, rfl, by rw [nx]; exact if_neg (by rw [hgood]; decide), h8, ((f'.trans (Fr.of e4)).trans (Fr.of e7)).trans f8⟩⟩⟩
      refine kE ?_ H8 (ex_of ((((f6.trans f').trans (Fr.of e4)).trans (Fr.of e7)).trans (Fr.of e8)))
      rw [bG, ofold_none (i := i + 1) (by rw [nx]; exact if_pos hbad) hi]
      rfl
    rintro σ' H7 ⟨y8, y9, μ1, rfl, hμ1, hM7, f7⟩
    rw [hq2] at hμ1
    rw [hμ1] at bG
    have f37 : Fr wl H3 H7 := f6.trans f7
    have eH7 := ex_of f37
    have hM7w := hM7.ws
    refine q_forET (K := K) (a := la) (xs := vl) (ev_var rfl) (st_of (eH7 _ _ hl1))
      (fun i σ' H' => ∃ z8 z10 ν, σ' = [some (.ref pa), some (.ref qa), some (.ref la), some (.ref ra), some (.ref m), some (.int (2 + 5 * (ps.length : Int))), x6, x7, z8, y9, z10, none, none] ∧ ofold (kstep (ps.length : Int) lks) μ1 i = some ν ∧ MemAt K H' m wl ν ∧ Fr wl H7 H')
      (fun H8 e8 => ⟨y8, none, _, rfl, rfl, hM7.keep e8, Fr.of e8⟩) (fun i σ' H' ⟨_, _, _, _, _, _, f'⟩ => st_of (TK.fr f' hM7w _ _ (eH7 _ _ hl1))) ?_ ?_
    · rintro i y σ' H' t hy ⟨z8, z10, ν, rfl, hν, hM', f'⟩ ht
      obtain ⟨u, rfl, hu⟩ := hl3 i y hy
      have hi : i < lks.length := by rw [← hl2]; exact (List.getElem?_eq_some_iff.mp hy).1
      have tk' : TK H H' := (TK.ex eH7).trans (TK.fr f' hM7w)
      have e4 : Ex H' (L2.upd H' t (.tup [.int (i : Nat), .ref u])) := Ex.new ht
      refine ⟨t, _, rfl, st_of upd_same, rfl, _, _, rfl, _, _, rfl, rfl, ?_⟩
      have nx := ofold_succ hν
      refine s_dropC (vs := [.ref m, .int (2 + 5 * (ps.length : Int) + (i : Int)), .ref u, .int (ps.length : Int)]) (ea_cons (ev_var rfl) (ea_cons (ev_op (ev_var rfl) (ev_var rfl) rv_I0) (ea_cons (ev_var rfl) (ea_cons (ev_is (ev_lenT (K := K) (ev_var rfl) (st_of (e4 _ _ (tk' _ _ hq1)))) (by rw [hq2])) ea_nil)))) fun H8 e8 => ⟨m, wl, u, ν, _, _, _, _, _, _, _, rfl, (hM'.keep e4).keep e8, e8 _ _ (e4 _ _ (tk' _ _ hu)), by omega, by omega, by omega, fun hbad H9 f9 => ?_, fun μ' hμ' H9 h9 f9 => ⟨_, _, _, rfl, nx.trans hμ', h9, ((f'.trans (Fr.of e4)).trans (Fr.of e8)).trans f9⟩⟩
      refine kE ?_ H9 (ex_of ((((f37.trans f').trans (Fr.of e4)).trans (Fr.of e8)).trans f9))
      rw [bG]
      show (ofold (kstep (ps.length : Int) lks) μ1 lks.length).bind _ = none
      rw [ofold_none (i := i + 1) (nx.trans hbad) hi]
      rfl
    rintro σ' H8 ⟨z8, z10, μ2, rfl, hμ2, hM8, f8⟩
    rw [hl2] at hμ2
    have bG : bootG pl ps lks lns = ofold (nstep (ps.length : Int) lks lns) (upre ps μ2 (2 + 5 * (ps.length : Int) + (lks.length : Int)) ps.length).1 lns.length := by
      rw [bG]
      show (ofold (kstep (ps.length : Int) lks) μ1 lks.length).bind _ = _
      rw [hμ2]
      rfl
    have f38 : Fr wl H3 H8 := f37.trans f8
    have eH8 := ex_of f38
    refine q_aug (a := 2 + 5 * (ps.length : Int)) (b := (vl.length : Nat)) rfl (ev_lenT (K := K) (ev_var rfl) (st_of (eH8 _ _ hl1))) fun H9 e9 => ?_
    rw [hl2]
    have hM9 := hM8.keep e9
    have hM9w := hM9.ws
    have f39 := f38.trans (Fr.of e9)
    have eH9 := ex_of f39
    refine q_forET (K := K) (a := qa) (xs := vq) (ev_var rfl) (st_of (eH9 _ _ hq1))
      (fun i σ' H' => ∃ x8 x9, σ' = [some (.ref pa), some (.ref qa), some (.ref la), some (.ref ra), some (.ref m), some (.int (upre ps μ2 (2 + 5 * (ps.length : Int) + (lks.length : Int)) i).2), x6, x7, x8, x9, z10, none, none] ∧ MemAt K H' m wl (upre ps μ2 (2 + 5 * (ps.length : Int) + (lks.length : Int)) i).1 ∧ Fr wl H9 H')
      (fun H10 e10 => ⟨_, _, rfl, hM9.keep e10, Fr.of e10⟩) (fun i σ' H' ⟨_, _, _, _, f'⟩ => st_of (TK.fr f' hM9w _ _ (eH9 _ _ hq1))) ?_ ?_
    · rintro i y σ' H' t hy ⟨w8, w9, rfl, hM', f'⟩ ht
      obtain ⟨u, c, rfl, hu, hc⟩ := hq3 i y hy
      have hi : i < ps.length := by rw [← hq2]; exact (List.getElem?_eq_some_iff.mp hy).1
      have tk' : TK H H' := (TK.ex eH9).trans (TK.fr f' hM9w)
      have e4 : Ex H' (L2.upd H' t (.tup [.int (i : Nat), .ref u])) := Ex.new ht
      refine ⟨t, _, rfl, st_of upd_same, rfl, _, _, rfl, _, _, rfl, rfl, ?_⟩
      have hu4 := e4 _ _ (tk' _ _ hu)
      refine s_when (b := decide ((ps.getD i p0).mn ≠ 0)) (et_truI (K := K) (ev_op (ev_var rfl) ev_c (Evl.rv_ixT (st_of hu4) (atI_nat (j := 4) rfl)))) (fun hb5 H5 e5 => ?_) (fun hb5 H5 e5 => ?_)
      · have un : upre ps μ2 (2 + 5 * (ps.length : Int) + (lks.length : Int)) (i + 1) = (mcap (upre ps μ2 (2 + 5 * (ps.length : Int) + (lks.length : Int)) i).1 ((2 + 5 * (i : Int)) * 8) (at0 [1, (upre ps μ2 (2 + 5 * (ps.length : Int) + (lks.length : Int)) i).2, 7, 0]) (ps.getD i p0).mn 0, (upre ps μ2 (2 + 5 * (ps.length : Int) + (lks.length : Int)) i).2 + (ps.getD i p0).mn) := if_pos (of_decide_eq_true hb5)
        refine q_capU (s := (2 + 5 * (i : Int)) * 8) (c := at0 [1, (upre ps μ2 (2 + 5 * (ps.length : Int) + (lks.length : Int)) i).2, 7, 0]) ((hM'.keep e4).keep e5) (ev_var rfl) (ev_op (ev_op ev_c (ev_op ev_c (ev_var rfl) (rv_I (.inl ⟨by decide, by decide⟩))) rv_I0) ev_c (rv_I (.inr ⟨by decide, by decide⟩))) (eu_tup (show EvA _ _ _ [.int 1, .int (upre ps μ2 (2 + 5 * (ps.length : Int) + (lks.length : Int)) i).2, .int 7, .int 0] from ea_cons ev_c (ea_cons (ev_var rfl) (ea_cons ev_c (ea_cons ev_c ea_nil)))) (by show 4 ≤ 100000; decide)) (ev_op (ev_var rfl) ev_c (Evl.rv_ixT (st_of (e5 _ _ hu4)) (atI_nat (j := 4) rfl))) ev_c (by omega) fun H6 h6 f6' => ?_
        have hu6 := f6' _ _ (e5 _ _ hu4) (ne_of (e5 _ _ hu4) ((hM'.keep e4).keep e5).ws (by intro z; cases z))
        refine s_aug (a := (upre ps μ2 (2 + 5 * (ps.length : Int) + (lks.length : Int)) i).2) (b := (ps.getD i p0).mn) rfl (ev_op (ev_var rfl) ev_c (Evl.rv_ixT (st_of hu6) (atI_nat (j := 4) rfl))) fun H7 e7 => ⟨_, _, by rw [un]; rfl, by rw [un]; exact h6.keep e7, ((f'.trans (Fr.of (e4.trans e5))).trans f6').trans (Fr.of e7)⟩
      · have un : upre ps μ2 (2 + 5 * (ps.length : Int) + (lks.length : Int)) (i + 1) = upre ps μ2 (2 + 5 * (ps.length : Int) + (lks.length : Int)) i := if_neg (of_decide_eq_false hb5)
        exact ⟨_, _, by rw [un]; rfl, by rw [un]; exact (hM'.keep e4).keep e5, f'.trans (Fr.of (e4.trans e5))⟩
    rintro σ' H10 ⟨w8, w9, rfl, hM10, f10⟩
    rw [hq2] at hM10 ⊢
    have f310 := f39.trans f10
    have eH10 := ex_of f310
    have hM10w := hM10.ws
    generalize (upre ps μ2 (2 + 5 * (ps.length : Int) + (lks.length : Int)) ps.length).2 = uf
    generalize (upre ps μ2 (2 + 5 * (ps.length : Int) + (lks.length : Int)) ps.length).1 = μ3 at hM10 bG
    refine q_forT (K := K) (a := ra) (xs := vn) (ev_var rfl) (st_of (eH10 _ _ hn1))
      (fun i σ' H' => ∃ x8 x11 x12 ν, σ' = [some (.ref pa), some (.ref qa), some (.ref la), some (.ref ra), some (.ref m), some (.int uf), x6, x7, x8, w9, z10, x11, x12] ∧ ofold (nstep (ps.length : Int) lks lns) μ3 i = some ν ∧ MemAt K H' m wl ν ∧ Fr wl H10 H')
      (fun H11 e11 => ⟨_, _, _, _, rfl, rfl, hM10.keep e11, Fr.of e11⟩) (fun i σ' H' _ ⟨_, _, _, _, _, _, _, f'⟩ => st_of (TK.fr f' hM10w _ _ (eH10 _ _ hn1))) ?_ ?_
    · rintro i y σ' H' hy ⟨y8, y11, y12, ν, rfl, hν, hM', f'⟩
      obtain ⟨u, rfl, hu⟩ := hn3 i y hy
      have hi : i < lns.length := by rw [← hn2]; exact (List.getElem?_eq_some_iff.mp hy).1
      have tk' : TK H H' := (TK.ex eH10).trans (TK.fr f' hM10w)
      refine ⟨u, _, rfl, st_of (tk' _ _ hu), rfl, _, _, rfl, _, _, rfl, _, _, rfl, rfl, ?_⟩
      have nx := ofold_succ hν
      have un : nBad lks (lns.getD i n0) = true → ∀ H', Fr wl H' H' → Fr wl H10 H' → E (.ref (He.ga K "InvalidBoot")) none H' := fun hbad H7 _ f7 => kE (by rw [bG]; exact ofold_none (i := i + 1) (by rw [nx]; exact if_pos hbad) hi) H7 (ex_of (f310.trans f7))
      generalize hl : lns.getD i n0 = l at *
      dsimp only
      refine q_when (b := nBad lks l) (et_is (et_or (a := !(decide (0 ≤ l.ln) && decide (l.ln < 4))) (b := (!(decide (0 ≤ l.num) && decide (l.num < (lks.length : Int))) || (!decide ((lks.getD l.num.toNat l0).k = 7) || !(decide (1 ≤ l.bits) && decide (l.bits ≤ 255))))) (et_not (et_test (ev_chV (k := decide (0 ≤ l.ln)) (k' := decide (l.ln < 4)) ev_c (ev_var rfl) rv_I0 ev_c rv_I0))) fun _ => et_or (a := !(decide (0 ≤ l.num) && decide (l.num < (lks.length : Int)))) (et_not (et_test (ev_chV (k := decide (0 ≤ l.num)) (k' := decide (l.num < (lks.length : Int))) ev_c (ev_var rfl) rv_I0 (ev_is (ev_lenT (K := K) (ev_var rfl) (st_of (tk' _ _ hl1))) (by rw [hl2])) rv_I0))) fun hnum => ?_) rfl) (fun hb7 H7 e7 => ?_) fun hb7 H7 e7 => ?_
      · rw [Bool.not_eq_false', Bool.and_eq_true, decide_eq_true_eq, decide_eq_true_eq] at hnum
        obtain ⟨v, hv⟩ : ∃ v, vl[l.num.toNat]? = some v := ⟨vl[l.num.toNat]'(by omega), List.getElem?_eq_getElem _⟩
        obtain ⟨q, rfl, hq⟩ := hl3 _ _ hv
        refine et_or (et_is (et_test (ev_op (ev_op (ev_op (ev_var rfl) (ev_var rfl) (Evl.rv_ixT (st_of (tk' _ _ hl1)) (v := .ref q) ?_)) ev_c (Evl.rv_ixT (st_of (tk' _ _ hq)) (atI_nat (j := 0) rfl))) ev_c (rv_ne rfl))) (by rw [KD_dec])) fun _ => et_not (et_test (ev_chV (k := decide (1 ≤ l.bits)) (k' := decide (l.bits ≤ 255)) ev_c (ev_var rfl) rv_I0 ev_c rv_I0))
        have := atI_nat hv
        rw [Int.toNat_of_nonneg hnum.1] at this
        exact this
      · exact un hb7 H7 Fr.refl (f'.trans (Fr.of e7))
      · have hb8 := hb7
        simp only [nBad, Bool.or_eq_false_iff, Bool.not_eq_false', Bool.and_eq_true, decide_eq_true_eq] at hb8
        exact s_put (hM'.keep e7) (ev_var rfl) ev_c (ev_op ev_c (ev_var rfl) rv_I0) (ev_op (ev_op (ev_op (ev_op (ev_op (ev_var rfl) ev_c (rv_I (.inr ⟨by decide, by decide⟩))) ev_c rv_I0) (ev_op ev_c (ev_is (ev_lenT (K := K) (ev_var rfl) (st_of (e7 _ _ (tk' _ _ hq1)))) (by rw [hq2])) (rv_I (.inl ⟨by decide, by decide⟩))) rv_I0) (ev_var rfl) rv_I0) ev_c rv_I0) (by omega) fun H8 h8 f8 => ⟨_, _, _, _, rfl, by rw [nx]; unfold nstep; rw [hl]; exact if_neg (by rw [hb7]; decide), h8, (f'.trans (Fr.of e7)).trans f8⟩
    rintro σ' H11 ⟨y8, y11, y12, μ, rfl, hμ, hM11, f11⟩
    rw [hn2] at hμ
    have f311 := f310.trans f11
    refine s_ret (ev_var rfl) fun H12 e12 => k μ (bG.trans hμ) m wl dx dd H12 hm hwH ((ex_of f311).trans e12) (hM11.keep e12) (e12 _ _ (f311 _ _ ((e2.trans e3) _ _ hmi) ?_)) (e12 _ _ (f311 _ _ ((e2.trans e3) _ _ hdd) ?_))
    · exact ne_of ((e2.trans e3) _ _ hmi) hw3 (by intro z; cases z)
    · exact ne_of ((e2.trans e3) _ _ hdd) hw3 (by intro z; cases z)
end
end KX

namespace KX
open KA KQ KD
open PySem PySem.Spec PyProof.Rows L2 Evl TL
abbrev CMa (K : PySem.W.Frag) : Addr := He.ga K "Machine"
/-! ### images -/
section
variable {σ : L2.St} {H : Hp} {K : PySem.W.Frag} {D : Ends}
theorem q_fldV {ta tv : TE} {tz : TS} {a C dx : Addr} {fs : List (Str × V)} {f : Str} {v : V} (hv : Ev tv σ H v) (ha : Ev ta σ H (.ref a)) (h : H a = some (.ins C dx fs)) (c : Cls K C) (n : NoAttr K C f) (hl : fs.length < 1000)
    (k : ∀ H1, Ex H H1 → tz D σ (L2.upd H1 a (.ins C dx (putF f v fs)))) : tSeq (sFld K ta tv f) tz D σ H := hv H (Ex.refl H) _ fun H1 e1 => ha H1 e1 _ fun H2 e2 =>
  ⟨a, C, dx, fs, rfl, (e1.trans e2) _ _ h, c, n, hl, k H2 (e1.trans e2)⟩
end
theorem q_dropM {σ : L2.St} {H : Hp} {D : Ends} {tm : TE} {ta : TA} {tz : TS} {C : Addr} {n : Str} {sp : Sp} {dvs vs : List V} {E : XK} {a dx : Addr} {fs : List (Str × V)} (hm : Ev tm σ H (.ref a)) (hi : H a = some (.ins C dx fs)) (h : EvA ta σ H vs) (hn : fs.lookup n = none) (k : ∀ H1, Ex H H1 → sp (.ref a :: (vs ++ dvs)) H1 (fun v H' => tz D σ H') E) : tSeq (tDrop (tMeth C n sp dvs E tm ta)) tz D σ H :=
  hm H (Ex.refl H) _ fun H1 e1 => ⟨a, dx, fs, rfl, e1 _ _ hi, hn, h H1 e1 _ fun H2 e2 => k H2 (e1.trans e2)⟩
theorem s_retMake {σ : L2.St} {H : Hp} {D : Ends} {ta : TA} {C : Addr} {sp : Sp} {dvs vs : List V} {E : XK} (h : EvA ta σ H vs) (k : ∀ H1, Ex H H1 → ∀ x dx, H1 x = none → H1 dx = none → dx ≠ x → sp (.ref x :: (vs ++ dvs)) (upd (upd H1 dx (.own x)) x (.ins C dx [])) (fun v H2 => v = .non ∧ D.rt (.ref x) H2) E) : tRet (tMake C sp dvs E ta) D σ H := h H (Ex.refl H) _ k
def memOf (ws : List Int) : Mem := fun i => ws.getD i 0 % 65536
theorem lW_memOf {ws : List Int} (h : ws.length = 2048) : lW (memOf ws) = ws.map fun x => V.int (x % 65536) := by
  unfold lW
  refine List.ext_getElem? fun i => ?_
  rw [List.getElem?_map, List.getElem?_map]
  by_cases hi : i < 2048
  · rw [List.getElem?_range hi, List.getElem?_eq_getElem (by omega)]
    show some (V.int (ws.getD i 0 % 65536)) = _
    rw [List.getD_eq_getElem?_getD, List.getElem?_eq_getElem (by omega)]
    rfl
  · rw [List.getElem?_eq_none (by rw [List.length_range]; omega), List.getElem?_eq_none (by omega)]
    rfl
theorem map_all {α : Type} {L : List α} {f : α → Bool} (h : ∀ x ∈ L, f x = true) : (L.map f).all id = true := by
  rw [List.all_map]
  exact List.all_eq_true.mpr h
section
variable {P : Program} {w : World} {K : PySem.W.Frag} {mg : Str → Option Value} {base : Heap}
def sp_Machine_init (K : PySem.W.Frag) : Sp := fun vs H Q _ => ∃ (mc m dx : Addr) (mo : Int), vs = [.ref mc, .ref m, .int mo] ∧ H mc = some (.ins (CMa K) dx []) ∧
  ∀ (kl cl : Addr) H', H kl = none → H cl = none → kl ≠ cl → H' mc = some (.ins (CMa K) dx [("_memory", .ref m), ("_most", .int mo), ("_kept", .ref kl), ("_counts", .ref cl)]) → H' kl = some (.lst []) → H' cl = some (.lst [.int 0, .int 0]) → FS [mc] H H' → Q .non H'
theorem ok_Machine_init (T : Txt K mg) : FnOk P w K mg base CX0 1 (f_Machine_init K) (fd_Machine_init K) ["self", "memory", "most"] (sp_Machine_init K) := by
  refine T.fn_Machine_init.ok sc_Machine_init (fun vs H Q E h => ?_) (fun cdv A outer s H vs Q E hr h => ⟨_, PSs.nox (pss_cons (ps_fld (pv 0) (pv 1) rfl) (pss_cons (ps_fld (pv 0) (pv 2) rfl) (pss_cons (ps_fld (pv 0) (pe_lst pa_nil) rfl) (pss_one (ps_fld (pv 0) (pe_lst (pa_cons pe_int (pa_cons pe_int pa_nil))) rfl))))), ?_⟩)
  · obtain ⟨_, _, _, _, rfl, _⟩ := h
    rfl
  · obtain ⟨mc, m, dx, mo, rfl, hm, k⟩ := h
    refine q_fldV (ev_var rfl) (ev_var rfl) hm T.cl_Machine T.no_Machine_memory (by decide) fun H1 e1 => ?_
    have f1 : FS [mc] H (upd H1 mc (.ins (CMa K) dx (putF "_memory" (.ref m) []))) := (FS.of e1).trans (FS.put (by simp))
    have h1 : (upd H1 mc (.ins (CMa K) dx (putF "_memory" (.ref m) []))) mc = some (.ins (CMa K) dx [("_memory", .ref m)]) := upd_same
    generalize upd H1 mc (.ins (CMa K) dx (putF "_memory" (.ref m) [])) = G1 at f1 h1 ⊢
    refine q_fldV (ev_var rfl) (ev_var rfl) h1 T.cl_Machine T.no_Machine_most (by show 1 < 1000; decide) fun H2 e2 => ?_
    have f2 : FS [mc] H (upd H2 mc (.ins (CMa K) dx (putF "_most" (.int mo) [("_memory", .ref m)]))) := (f1.trans (FS.of e2)).trans (FS.put (by simp))
    have h2 : (upd H2 mc (.ins (CMa K) dx (putF "_most" (.int mo) [("_memory", .ref m)]))) mc = some (.ins (CMa K) dx [("_memory", .ref m), ("_most", .int mo)]) := upd_same
    generalize upd H2 mc (.ins (CMa K) dx (putF "_most" (.int mo) [("_memory", .ref m)])) = G2 at f2 h2 ⊢
    refine q_fldL (xs := []) (el_lst ea_nil (by decide)) (ev_var rfl) h2 T.cl_Machine T.no_Machine_kept (by show 2 < 1000; decide) fun kl H3 hkl e3 h3 => ?_
    have hklH : H kl = none := by
      cases z : H kl with
      | none => rfl
      | some o =>
        have n : kl ≠ mc := fun q => by rw [q, h2] at hkl; cases hkl
        rw [f2 kl o z (by simpa using n)] at hkl
        cases hkl
    have nk : kl ≠ mc := fun q => by rw [q, h2] at hkl; cases hkl
    have f3 : FS [mc] H (upd H3 mc (.ins (CMa K) dx (putF "_kept" (.ref kl) [("_memory", .ref m), ("_most", .int mo)]))) := (f2.trans (FS.of e3)).trans (FS.put (by simp))
    have h3m : (upd H3 mc (.ins (CMa K) dx (putF "_kept" (.ref kl) [("_memory", .ref m), ("_most", .int mo)]))) mc = some (.ins (CMa K) dx [("_memory", .ref m), ("_most", .int mo), ("_kept", .ref kl)]) := upd_same
    have h3k : (upd H3 mc (.ins (CMa K) dx (putF "_kept" (.ref kl) [("_memory", .ref m), ("_most", .int mo)]))) kl = some (.lst []) := by rw [upd_ne nk]; exact h3
    generalize upd H3 mc (.ins (CMa K) dx (putF "_kept" (.ref kl) [("_memory", .ref m), ("_most", .int mo)])) = G3 at f3 h3m h3k ⊢
    refine s_fldL (xs := [.int 0, .int 0]) (el_lst (ea_cons ev_c (ea_cons ev_c ea_nil)) (by show 2 ≤ 100000; decide)) (ev_var rfl) h3m T.cl_Machine T.no_Machine_counts (by show 3 < 1000; decide) fun cl H4 hcl e4 h4 => ?_
    have nc : cl ≠ mc := fun q => by rw [q, h3m] at hcl; cases hcl
    have nkc : kl ≠ cl := fun q => by rw [← q, h3k] at hcl; cases hcl
    have hclH : H cl = none := by
      cases z : H cl with
      | none => rfl
      | some o =>
        rw [f3 cl o z (by simpa using nc)] at hcl
        cases hcl
    exact k kl cl _ hklH hclH nkc upd_same (by rw [upd_ne nk]; exact e4 _ _ h3k) (by rw [upd_ne nc]; exact h4) ((f3.trans (FS.of e4)).trans (FS.put (by simp)))

def sp_Memory_words (K : PySem.W.Frag) : Sp := fun vs H Q _ => ∃ (m wl : Addr) (μ : Mem), vs = [.ref m] ∧ MemAt K H m wl μ ∧ ∀ p H', H p = none → Ex H H' → H' p = some (.tup (lW μ)) → Q (.ref p) H'
theorem ok_Memory_words (T : Txt K mg) : FnOk P w K mg base CX0 1 (f_Memory_words K) (fd_Memory_words K) ["self"] (sp_Memory_words K) := by
  refine T.fn_Memory_words.ok sc_Memory_words (fun vs H Q E h => ?_) (fun cdv A outer s H vs Q E hr h => ⟨_, PSs.nox (pss_one (ps_ret (pe_callTy call_tuple_of (by rfl) T.free_tuple (by decide +kernel) (pa_cons (pe_fld (pv 0) rfl) pa_nil)))), ?_⟩)
  · obtain ⟨_, _, _, rfl, _⟩ := h
    rfl
  · obtain ⟨m, wl, μ, rfl, hM, k⟩ := h
    obtain ⟨⟨dx, dd, h1, _⟩, hw⟩ := id hM
    exact (ev_fld (ev_var rfl) h1 T.cl_Memory T.no_Memory_words rfl : Ev _ _ H (.ref wl)) H (Ex.refl H) _ fun H1 e1 => ⟨wl, _, rfl, .inl ⟨sq_of (e1 _ _ hw), fun l hl => k l _ (fresh_back e1 hl) (e1.trans (Ex.new hl)) upd_same⟩⟩
def sp_Memory_load (K : PySem.W.Frag) : Sp := fun vs H Q _ => ∃ (m ta dx dd : Addr) (wl : Addr) (ws : List Int), vs = [.ref m, .ref ta] ∧ H m = some (.ins (CM K) dx [("_words", .ref wl), ("_disks", .ref dd)]) ∧ H dd = some (.dK []) ∧ H ta = some (.tup (ws.map V.int)) ∧ ws.length = 2048 ∧
  ∀ wl' H', H wl' = none → FS [m] H H' → H' m = some (.ins (CM K) dx [("_words", .ref wl'), ("_disks", .ref dd)]) → H' wl' = some (.lst (lW (memOf ws))) → Q .non H'
theorem ok_Memory_load (T : Txt K mg) : FnOk P w K mg base CX0 1 (f_Memory_load K) (fd_Memory_load K) ["self", "words"] (sp_Memory_load K) := by
  refine T.fn_Memory_load.ok sc_Memory_load (fun vs H Q E h => ?_) (fun cdv A outer s H vs Q E hr h => ⟨_, PSs.nox (pss_one (ps_fld (pv 0) (pe_lc (own := [("word", 2)]) (by rfl) sc_Memory_load.nd (pi_tup (pv 1)) (blkOk_by (N := sc_Memory_load_N) (sc := defScope s_Memory_load) (own := [("word", 2)]) (by decide +kernel)) (fun _ _ _ _ _ => (pg_name (i := 2) sc_Memory_load.nd rfl (Or.inl rfl))) (fun _ _ _ _ _ => pts_nil) (fun _ _ _ _ _ => (pe_op op_mod (pv 2) (by exact T.pg_WORD)))) rfl)), ?_⟩)
  · obtain ⟨_, _, _, _, _, _, rfl, _⟩ := h
    rfl
  · obtain ⟨m, ta, dx, dd, wl, ws, rfl, hm, hdd, hta, hlen, k⟩ := h
    refine s_fldL (xs := lW (memOf ws)) (el_is (el_lcT (K := K) (a := ta) (xs := ws.map V.int) (fun i => V.int (ws.getD i 0 % 65536)) (ev_var rfl) (st_of hta) (by rw [List.length_map]; omega) fun i x H1 e1 hx H2 e2 R hR => ?_) ?_) (ev_var rfl) hm T.cl_Memory T.no_Memory_words (by show 2 < 1000; decide) fun p H1 hp e1 h1 => ?_
    · obtain ⟨rfl, hi⟩ := getI hx
      exact hR _ rfl (ev_mod (ev_var rfl) ev_c (by decide))
    · rw [lW_memOf hlen, List.length_map]
      exact given_map ws 0 fun x => V.int (x % 65536)
    · have np : p ≠ m := fun z => by rw [z, hm] at hp; cases hp
      exact k p _ hp ((FS.of e1).trans (FS.put (by simp))) upd_same (by rw [upd_ne np]; exact h1)
def sp_Machine_memory (K : PySem.W.Frag) : Sp := fun vs H Q _ => ∃ (mc dx : Addr) (v : V) (fs : List (Str × V)), vs = [.ref mc] ∧ H mc = some (.ins (CMa K) dx fs) ∧ fs.lookup ("_memory" : Str) = some v ∧ ∀ H', Ex H H' → Q v H'
theorem ok_Machine_memory (T : Txt K mg) : FnOk P w K mg base CX0 1 (f_Machine_memory K) (fd_Machine_memory K) ["self"] (sp_Machine_memory K) := by
  refine T.fn_Machine_memory.ok sc_Machine_memory (fun vs H Q E h => ?_) (fun cdv A outer s H vs Q E hr h => ⟨_, PSs.nox (pss_one (ps_ret (pe_fld (pv 0) rfl))), ?_⟩)
  · obtain ⟨_, _, _, _, rfl, _⟩ := h
    rfl
  · obtain ⟨mc, dx, v, fs, rfl, h1, h2, k⟩ := h
    exact s_ret (ev_fld (ev_var rfl) h1 T.cl_Machine T.no_Machine_memory h2) k
def sp_from_image (K : PySem.W.Frag) : Sp := fun vs H Q _ => ∃ (ta : Addr) (mo : Int) (ws : List Int), vs = [.ref ta, .int mo] ∧ H ta = some (.tup (ws.map V.int)) ∧ ws.length = 2048 ∧ (∀ x ∈ ws, 0 ≤ x ∧ x < 65536) ∧
  ∀ (mc m wl dd dx dx2 : Addr) fs H', H mc = none → Ex H H' → MemAt K H' m wl (memOf ws) → H' m = some (.ins (CM K) dx [("_words", .ref wl), ("_disks", .ref dd)]) → H' dd = some (.dK []) → H' mc = some (.ins (CMa K) dx2 fs) → fs.lookup ("_memory" : Str) = some (.ref m) → fs.lookup ("memory" : Str) = none → Q (.ref mc) H'
theorem ok_from_image (T : Txt K mg) : FnOk P w K mg base (L2.CX P w) 3 (f_from_image K) (fd_from_image K) ["words", "most"] (sp_from_image K) := by
  refine T.fn_from_image.ok sc_from_image (fun vs H Q E h => ?_) (fun cdv A outer s H vs Q E hr h => ⟨_, (pss_cons (ps_if (PW.pt (pw_or (pt_cmpR op_ne (pe_callB call_len (by rfl) T.free_len PySem.boot_len (pa_cons (pv 0) pa_nil)) (pe_op op_mul (T.pg_FRAME) (T.pg_FRAMES)) (nomark _)) (pw_or1 (pt_not (pt_val (pe_callB (cr_all rfl) (by rfl) T.free_all (by decide +kernel) (pa_cons (pe_lc (own := [("word", 2)]) (by rfl) sc_from_image.nd (pi_tup (pv 0)) (blkOk_by (N := sc_from_image_N) (sc := defScope s_from_image) (own := [("word", 2)]) (by decide +kernel)) (fun _ _ _ _ _ => (pg_name (i := 2) sc_from_image.nd rfl (Or.inl rfl))) (fun _ _ _ _ _ => pts_nil) (fun _ _ _ _ _ => (pe_chain op_le op_lt pe_int (pv 2) (by exact T.pg_WORD)))) pa_nil))))))) (pss_one (ps_raise rfl (takes_of rfl rfl rfl rfl) (pmk_own F.excBase_ValueError T.exc_InvalidImage.1 T.glo_InvalidImage T.exc_InvalidImage.2.1 T.raises_InvalidImage (by rfl)))) pss_nil) (pss_cons (ps_set (i := 3) sc_from_image.nd rfl (Or.inl rfl) (pe_make0 (T.mk_Memory) (ok_Memory_init T) (hr.mono (by decide)) (by rfl) (T.glo_Memory) (T.bd_Memory_init) .nil pass0)) (pss_cons (ps_expr (pe_meth (pv 3) (T.cl_Memory) (T.mt_Memory_load) (ok_Memory_load T) (hr.mono (by decide)) (T.bd_Memory_load) .nil pass0 (pa_cons (pv 0) pa_nil))) (pss_one (ps_ret (pe_make (T.mk_Machine) (ok_Machine_init T) (hr.mono (by decide)) (by rfl) (T.glo_Machine) (T.bd_Machine_init) .nil pass0 (pa_cons (pv 3) (pa_cons (pv 1) pa_nil)))))))), ?_⟩)
  · obtain ⟨_, _, _, rfl, _⟩ := h
    rfl
  · obtain ⟨ta, mo, ws, rfl, hta, hlen, hws, k⟩ := h
    refine q_when (b := false) (et_is (et_or (a := false) (b := false) (et_is (et_test (ev_op (ev_lenT (K := K) (ev_var rfl) (st_of hta)) (ev_op ev_c ev_c (rv_I (.inr ⟨by decide, by decide⟩))) (rv_ne rfl))) ?_) fun _ => et_is (et_not (et_B (ev_all (K := K) (bs := ws.map fun x => decide (0 ≤ x) && decide (x < 65536)) ?_))) ?_) rfl) (fun h => by cases h) fun _ H1 e1 => ?_
    · rw [List.length_map, hlen]
      rfl
    · rw [List.map_map, ← given_map ws 0, ← List.length_map (f := V.int) (as := ws)]
      refine el_lcT (K := K) (a := ta) (xs := ws.map V.int) (fun i => V.bl (decide (0 ≤ ws.getD i 0) && decide (ws.getD i 0 < 65536))) (ev_var rfl) (st_of hta) (by rw [List.length_map]; omega) fun i x H1 e1 hx H2 e2 R hR => ?_
      obtain ⟨rfl, hi⟩ := getI hx
      exact hR _ rfl (ev_chV ev_c (ev_var rfl) rv_I0 ev_c rv_I0)
    · rw [map_all fun x hx => by rw [decide_eq_true (hws x hx).1, decide_eq_true (hws x hx).2]; rfl]
      rfl
    refine fun m dx hm hdx hne => ⟨m, dx, rfl, upd_same, fun wl dd H2 hwl hM hmi hdd f2 => ⟨rfl, ?_⟩⟩
    dsimp only
    have e2 : Ex H1 H2 := fun b o h => by
      have n1 : b ≠ m := fun z => by rw [z, hm] at h; cases h
      have n2 : b ≠ dx := fun z => by rw [z, hdx] at h; cases h
      exact f2 b o (by rw [upd_ne n1, upd_ne n2]; exact h) (by simpa using n1)
    have hta2 := e2 _ _ (e1 _ _ hta)
    have ndm : dd ≠ m := fun z => by rw [z, hmi] at hdd; cases hdd
    have nwl : H2 wl = some (.lst (lW m0)) := hM.ws
    refine q_dropM (vs := [.ref ta]) (a := m) (ev_var rfl) hmi (ea_cons (ev_var rfl) ea_nil) rfl fun H3 e3 => ⟨m, ta, dx, dd, wl, ws, rfl, e3 _ _ hmi, e3 _ _ hdd, e3 _ _ hta2, hlen, fun wl' H4 hwl' f4 h4m h4w => ?_⟩
    have e04 : Ex H H4 := fun b o h => by
      have n1 : b ≠ m := fun z => by have := e1 _ _ h; rw [z, hm] at this; cases this
      exact f4 b o (e3 _ _ (e2 _ _ (e1 _ _ h))) (by simpa using n1)
    have h4d : H4 dd = some (.dK []) := f4 _ _ (e3 _ _ hdd) (by simpa using ndm)
    have hM4 : MemAt K H4 m wl' (memOf ws) := ⟨⟨dx, dd, h4m, [], h4d⟩, h4w⟩
    refine s_retMake (vs := [.ref m, .int mo]) (ea_cons (ev_var rfl) (ea_cons (ev_var rfl) ea_nil)) fun H5 e5 mc dx2 hmc hdx2 hne2 => ⟨mc, m, dx2, mo, rfl, upd_same, fun kl cl H6 _ _ _ h6 _ _ f6 => ⟨rfl, ?_⟩⟩
    have e6 : Ex H5 H6 := fun b o h => by
      have n1 : b ≠ mc := fun z => by rw [z, hmc] at h; cases h
      have n2 : b ≠ dx2 := fun z => by rw [z, hdx2] at h; cases h
      exact f6 b o (by rw [upd_ne n1, upd_ne n2]; exact h) (by simpa using n1)
    exact k mc m wl' dd dx dx2 _ H6 (fresh_back (e04.trans e5) hmc) ((e04.trans e5).trans e6) (hM4.keep (e5.trans e6)) ((e5.trans e6) _ _ h4m) ((e5.trans e6) _ _ h4d) h6 rfl rfl
/-- is it wrong -/
def sp_law_wrong (K : PySem.W.Frag) : Sp := fun vs H Q _ => ∃ (m wl dx dd : Addr) (μ : Mem) (rq eq : Nat → List Int), vs = [.ref m] ∧ MemAt K H m wl μ ∧ H m = some (.ins (CM K) dx [("_words", .ref wl), ("_disks", .ref dd)]) ∧ H dd = some (.dK []) ∧ (∀ i, 0 ≤ μ i) ∧ (badK μ = false → QOk μ rq eq) ∧ ∀ H', RdX H H' → Q (.bl (!chk μ rq eq)) H'
theorem ok_law_wrong (T : Txt K mg) : FnOk P w K mg base CX0 9 (f_law_wrong K) (fd_law_wrong K) ["memory"] (sp_law_wrong K) := by
  refine T.fn_law_wrong.ok sc_law_wrong (fun vs H Q E h => ?_) (fun cdv A outer s H vs Q E hr h => ⟨_, PSs.nox (pss_one (ps_try_only rfl rfl ⟨rfl, by decide, .inl T.glo_InvalidState⟩ takes0 (fun W pn xe tk pso => by exact (pss_cons (ps_expr (pe_callS (ok_check_memory T) (hr.mono (by decide)) (by rfl) (T.glo_check_memory) (T.kp_check_memory) (T.bd_check_memory) (fun σ => passAt tk σ) (pa_cons (pv 0) pa_nil))) (pss_one (ps_ret pe_bl)))) (fun a oe cls d pn hz hf => by exact (pss_one (ps_ret pe_bl))))), ?_⟩)
  · obtain ⟨_, _, _, _, _, _, _, rfl, _⟩ := h
    rfl
  · obtain ⟨m, wl, dx, dd, μ, rq, eq, rfl, hM, hi, hdd, hN, hQ, k⟩ := h
    refine (ev_var rfl : Ev (tVar 0) _ H (.ref m)) H (Ex.refl H) _ fun H1 e1 => ⟨m, wl, dx, dd, μ, rq, eq, rfl, hM.keep e1, e1 _ _ hi, e1 _ _ hdd, hN, hQ, fun hc H2 e2 => ?_, fun hc H2 r2 => ?_⟩
    · show tRet (tC (V.bl false)) { nx := fun x H' => Q V.non H', rt := Q } (L2.start sc_law_wrong_N [V.ref m]) H2
      refine s_ret ev_c fun H3 e3 => ?_
      have := k H3 (RdX.ex ((e1.trans e2).trans e3))
      rw [hc] at this
      exact this
    · refine ⟨true, T.exm_InvalidState, fun _ a ha => ?_, fun z => by cases z⟩
      refine s_ret ev_c fun H3 e3 => ?_
      have := k H3 ((RdX.ex e1).trans (r2.trans (RdX.ex e3)))
      rw [hc] at this
      exact this
end
end KX

namespace KX
open KA KQ KD
open PySem PySem.Spec PyProof.Rows L2 Evl TL
/-- FunD.ok, the code object known -/
theorem fun_okC {P : Program} {w : World} {K : PySem.W.Frag} {mg : Str → Option Value} {base : Heap} {x qual : Str} {params : Arguments} {body : List Stmt} {scope : Scope} {dvs : List V} {kws : List (Str × V)} {f : Addr} {fd : FuncData} {CX : CXT} {N ps : List Str} {k : Nat} {sp : Sp} (F : FunD K x qual params body scope dvs kws f fd) (S : FnScope N ps scope) (len : ∀ vs H Q E, sp vs H Q E → vs.length = ps.length)
    (hbody : ∀ (A : Around) (outer : List Env) (s : Shared) (H : Hp) (vs : List V) (Q : VK) (E : XK), Room k (A.deeper (envOfC qual scope s.heap.objs.size f fd.code)) → sp vs H Q E →
      ∃ t, PSs (cxOf CX P w K mg base N qual scope f fd.code A outer s H E) body t ∧ t { nx := fun _ H' => Q .non H', rt := Q } (L2.start N vs) H) : FnOk P w K mg base CX (k + 1) f fd ps sp := by
  obtain ⟨oc, od, dV, kV, doc, pm, an, cdv, ct, osl, rfl, lk, hcd, _, _⟩ := F.ex
  exact fn_of lk hcd S len fun A outer s H vs Q E hr hsp => hbody A outer s H vs Q E hr hsp
section
variable {X : Cx}
/-- refused: try: a() / except x: return True; return False -/
def TTref (K : PySem.W.Frag) (CS : Addr) : (XK → Hp → VK → Prop) → Hp → VK → Prop := fun tl H Q =>
  tl (fun cls _ H' => ∃ b, PySem.W.exmOne K cls (.ref CS) = some b ∧ (b = true → Q (.bl true) H') ∧ (b = false → False)) H (fun _ H' => Q (.bl false) H')
theorem refused_gives {Ng : List Str} {x a e q : Str} {sg : Scope} {g CS : Addr} {cdg : Value} {j j2 : Nat} {p1 p2 p3 p4 p5 p6 p7 p8 p9 p10 : Pos} (hge : sg.names.lookup e = some .globalImplicit) (hme : X.mg e = some (.ref CS)) (hde : (e == ("__debug__" : Str)) = false) (h0 : ∀ f : Addr, (L2.start Ng [V.ref f])[0]? = some (some (V.ref f))) :
    LamX.GivesTo X Ng x sg g cdg [.Try [.Expr (.Call (.Name a p1) [] [] p2) p3] [.ExceptHandler (some (.Name e p4)) none [.Return (some (.Constant (.bool true) j p5)) p6] p7] [] [] p8, .Return (some (.Constant (.bool false) j2 p9)) p10] a q (TTref X.K CS) := by
  intro f c' s H Q tl act hc h
  have hgl : Gl (cxOf C8.CX0 X.prog X.w X.K X.mg X.base Ng x sg g cdg X.A X.stack s H C8.E0).nox e := hge
  refine ⟨_, pss_cons (ps_try_only (X := (cxOf C8.CX0 X.prog X.w X.K X.mg X.base Ng x sg g cdg X.A X.stack s H C8.E0).nox) (c := .ref CS)
      (tb := fun W D σ H => ∃ Ech : XK, (∀ cls d σ' H', Ech cls d H' → W cls d σ' H') ∧ σ[0]? = some (some (.ref f)) ∧ H c' = some (LamX.CodeO c' q) ∧ tl Ech H (fun _ H' => D.nx σ H'))
      rfl rfl ⟨hgl, hde, .inl hme⟩ LamX.takes0 (fun W pn xe tk _ => ?_) (fun a oe cls d pn _ _ => pss_one (ps_ret pe_bl))) (pss_one (ps_ret pe_bl)), ?_⟩
  · refine ⟨fun pins s' σ H' D I h' => ?_⟩
    obtain ⟨Ech, hW, h1, h2, h3⟩ := h'
    have hp := act W pn xe Ech p1 p2 tk hW
    have hq := pss_one (ps_expr (pos := p3) hp)
    exact hq.run pins s' σ H' D I ⟨h1, h2, h3⟩
  · exact ⟨fun cls _ H' => ∃ b, PySem.W.exmOne X.K cls (.ref CS) = some b ∧ (b = true → Q (.bl true) H') ∧ (b = false → False), fun cls d σ' H' ⟨b, e1, e2, e3⟩ => ⟨b, e1, fun hb a _ => e2 hb, fun hb => e3 hb⟩, h0 f, hc, h⟩
end
/-! ### promises of what is told -/
def PPl (pl : List (Int × Int)) : Pr := fun v H => ∃ a, v = .ref a ∧ PlanAt H a pl
def PPs (ps : List PtX) : Pr := fun v H => ∃ a, v = .ref a ∧ PartsAt H a ps
def PLk (ls : List Lnk) : Pr := fun v H => ∃ a, v = .ref a ∧ LnksAt H a ls
def PLn (ls : List Ln3) : Pr := fun v H => ∃ a, v = .ref a ∧ LnsAt H a ls
theorem PPl.mo {pl : List (Int × Int)} : Mo (PPl pl) := fun v H H' tk ⟨a, e, h⟩ => ⟨a, e, h.mono tk⟩
theorem PPs.mo {pl : List PtX} : Mo (PPs pl) := fun v H H' tk ⟨a, e, h⟩ => ⟨a, e, h.mono tk⟩
theorem PLk.mo {pl : List Lnk} : Mo (PLk pl) := fun v H H' tk ⟨a, e, h⟩ => ⟨a, e, h.mono tk⟩
theorem PLn.mo {pl : List Ln3} : Mo (PLn pl) := fun v H H' tk ⟨a, e, h⟩ => ⟨a, e, h.mono tk⟩
/-- a part, a link, a line -/
def PPt (p : PtX) : Pr := fun v H => ∃ t c, v = .ref t ∧ H t = some (.tup [.int p.d, .int p.pr, .int p.bu, .ref c, .int p.mn]) ∧ H c = some (.tup (p.ws.map V.int))
def PL1 (l : Lnk) : Pr := fun v H => ∃ t, v = .ref t ∧ H t = some (.tup [.int l.k, .int l.one, .int l.r, .int l.other, .int l.o])
def PN1 (l : Ln3) : Pr := fun v H => ∃ t, v = .ref t ∧ H t = some (.tup [.int l.ln, .int l.num, .int l.bits])
theorem PPt.mo {p : PtX} : Mo (PPt p) := fun v H H' tk ⟨t, c, e, h, h2⟩ => ⟨t, c, e, tk _ _ h, tk _ _ h2⟩
theorem PL1.mo {p : Lnk} : Mo (PL1 p) := fun v H H' tk ⟨t, e, h⟩ => ⟨t, e, tk _ _ h⟩
theorem PN1.mo {p : Ln3} : Mo (PN1 p) := fun v H H' tk ⟨t, e, h⟩ => ⟨t, e, tk _ _ h⟩
def PrTold (pl : List (Int × Int)) (ps : List PtX) (lks : List Lnk) (lns : List Ln3) : Pr := fun v H => ∃ t pa qa la ra, v = .ref t ∧ H t = some (.tup [.ref pa, .ref qa, .ref la, .ref ra]) ∧ PlanAt H pa pl ∧ PartsAt H qa ps ∧ LnksAt H la lks ∧ LnsAt H ra lns
theorem PrTold.mo {pl : List (Int × Int)} {ps : List PtX} {lks : List Lnk} {lns : List Ln3} : Mo (PrTold pl ps lks lns) := fun v H H' tk ⟨t, pa, qa, la, ra, e, h, h1, h2, h3, h4⟩ => ⟨t, pa, qa, la, ra, e, tk _ _ h, h1.mono tk, h2.mono tk, h3.mono tk, h4.mono tk⟩
theorem getD_at {α : Type} {L : List α} {i : Nat} {d x : α} (h : L[i]? = some x) : L.getD i d = x := by rw [List.getD_eq_getElem?_getD, h]; rfl
section
variable {σ : L2.St} {H : Hp} {K : PySem.W.Frag} {D : Ends} {ta tb tc td te : TE} {tr : TA} {tz : TS}
/-- a tuple of what is promised, each by its own -/
theorem ep_tupL {α : Type} {L : List α} {F : α → Pr} (hF : ∀ x, Mo (F x)) (hl : L.length ≤ 1000) (h : EvPs tr σ H (L.map F)) : EvP (tTup tr) σ H (fun v H => ∃ a vs, v = .ref a ∧ H a = some (.tup vs) ∧ vs.length = L.length ∧ ∀ (i : Nat) v x, vs[i]? = some v → L[i]? = some x → F x v H) := fun H1 e Q q =>
  h H1 e _ fun vs H2 e2 al => ⟨sz_of (by rw [al.len, List.length_map]; omega), fun p hp => by
    have e3 : Ex H2 (upd H2 p (.tup vs)) := Ex.new hp
    refine q _ _ (e2.trans e3) ⟨p, vs, rfl, upd_same, by rw [al.len, List.length_map], fun i v x hv hx => ?_⟩
    obtain ⟨P, hP, hv2⟩ := al.at hv
    rw [List.getElem?_map, hx] at hP
    cases hP
    exact hF x _ _ _ (TK.ex e3) hv2⟩
theorem ep_imp {P P' : Pr} (h : EvP te σ H P) (f : ∀ v H, P v H → P' v H) : EvP te σ H P' := fun H1 e Q q => h H1 e _ fun v H2 e2 p => q v H2 e2 (f v H2 p)
theorem atL_getD {α : Type} {L : List α} {d : α} {vs : List V} {F : α → Pr} {H : Hp} {i : Nat} {v : V} (hl : vs.length = L.length) (h : ∀ (i : Nat) v x, vs[i]? = some v → L[i]? = some x → F x v H) (hv : vs[i]? = some v) : F (L.getD i d) v H := by
  have hi : i < L.length := by rw [← hl]; exact (List.getElem?_eq_some_iff.mp hv).1
  exact h i v _ hv (by rw [List.getD_eq_getElem?_getD, List.getElem?_eq_getElem hi]; rfl)
theorem ep_plan {pl : List (Int × Int)} (hl : pl.length ≤ 1000) (h : EvPs tr σ H (pl.map fun p => PrLk p.1 p.2)) : EvP (tTup tr) σ H (PPl pl) := ep_imp (ep_tupL (F := fun p => PrLk p.1 p.2) (fun _ => PrLk.mo) hl h) fun v H ⟨a, vs, e, h1, h2, h3⟩ => ⟨a, e, vs, h1, h2, fun i v hv => atL_getD (d := (0, 0)) (F := fun p => PrLk p.1 p.2) h2 h3 hv⟩
theorem ep_parts {ps : List PtX} (hl : ps.length ≤ 1000) (h : EvPs tr σ H (ps.map PPt)) : EvP (tTup tr) σ H (PPs ps) := ep_imp (ep_tupL (F := PPt) (fun _ => PPt.mo) hl h) fun v H ⟨a, vs, e, h1, h2, h3⟩ => ⟨a, e, vs, h1, h2, fun i v hv => atL_getD (d := p0) (F := PPt) h2 h3 hv⟩
theorem ep_lnks {ps : List Lnk} (hl : ps.length ≤ 1000) (h : EvPs tr σ H (ps.map PL1)) : EvP (tTup tr) σ H (PLk ps) := ep_imp (ep_tupL (F := PL1) (fun _ => PL1.mo) hl h) fun v H ⟨a, vs, e, h1, h2, h3⟩ => ⟨a, e, vs, h1, h2, fun i v hv => atL_getD (d := l0) (F := PL1) h2 h3 hv⟩
theorem ep_lns {ps : List Ln3} (hl : ps.length ≤ 1000) (h : EvPs tr σ H (ps.map PN1)) : EvP (tTup tr) σ H (PLn ps) := ep_imp (ep_tupL (F := PN1) (fun _ => PN1.mo) hl h) fun v H ⟨a, vs, e, h1, h2, h3⟩ => ⟨a, e, vs, h1, h2, fun i v hv => atL_getD (d := n0) (F := PN1) h2 h3 hv⟩
/-- x * n, x a tuple of one thing -/
theorem ep_repP {F : V → Hp → Prop} (hF : Mo F) {n : Int} (hn : 2 ≤ n ∧ n ≤ 1000) (h : EvP ta σ H (fun v H => ∃ t x, v = .ref t ∧ H t = some (.tup [x]) ∧ F x H)) (hb : ∀ H1, Ex H H1 → Ev tb σ H1 (.int n)) : EvP (tOp (rRepT K) ta tb) σ H (fun v H => ∃ a vs, v = .ref a ∧ H a = some (.tup vs) ∧ vs.length = n.toNat ∧ ∀ (i : Nat) y, vs[i]? = some y → F y H) := fun H1 e Q q =>
  h H1 e _ fun v H2 e2 ⟨t, x, hv, ht, hx⟩ => hb H2 (e.trans e2) H2 (Ex.refl H2) _ fun H3 e3 => by
    subst hv
    refine ⟨t, n, [x], rfl, rfl, st_of (e3 _ _ ht), by simp, hn.1, hn.2, by show 1 ≤ 1000; decide, fun p hp => ?_⟩
    have e4 : Ex H3 (upd H3 p (.tup (List.replicate n.toNat [x]).flatten)) := Ex.new hp
    refine q _ _ ((e2.trans e3).trans e4) ⟨p, _, rfl, upd_same, by rw [rep1, List.length_replicate], fun i y hy => ?_⟩
    rw [rep1] at hy
    obtain rfl := (List.mem_replicate.mp (List.mem_of_getElem? hy)).2
    exact hF _ _ _ (TK.ex (e3.trans e4)) hx
theorem eu_repT {x : V} {n : Int} (hn : 2 ≤ n ∧ n ≤ 1000) (h : EvU ta σ H [x]) (hb : ∀ H1, Ex H H1 → Ev tb σ H1 (.int n)) : EvU (tOp (rRepT K) ta tb) σ H (List.replicate n.toNat x) := fun H1 e Q q =>
  h H1 e _ fun t H2 _ e2 ht => hb H2 (e.trans e2) H2 (Ex.refl H2) _ fun H3 e3 => ⟨t, n, [x], rfl, rfl, st_of (e3 _ _ ht), by simp, hn.1, hn.2, by show 1 ≤ 1000; decide, fun p hp => by
    rw [rep1]
    exact q p _ (fresh_back (e2.trans e3) hp) ((e2.trans e3).trans (Ex.new hp)) upd_same⟩
theorem ep_tup1 {P : Pr} (h : EvP te σ H P) (mo : Mo P) : EvP (tTup (tCons te tNil)) σ H (fun v H => ∃ t x, v = .ref t ∧ H t = some (.tup [x]) ∧ P x H) := fun H1 e Q q =>
  h H1 e _ fun v H2 e2 hv => ⟨sz_of (by show 1 ≤ 100000; decide), fun p hp => q _ _ (e2.trans (Ex.new hp)) ⟨p, v, rfl, upd_same, mo _ _ _ (TK.ex (Ex.new hp)) hv⟩⟩
theorem ep_U {xs : List V} (h : EvU te σ H xs) : EvP te σ H (fun v H => ∃ t, v = .ref t ∧ H t = some (.tup xs)) := fun H1 e Q q => h H1 e _ fun p H2 hp e2 h2 => q _ H2 e2 ⟨p, rfl, h2⟩
theorem ep_pt {t1 t2 t3 t4 t5 : TE} {p : PtX} (h1 : Ev t1 σ H (.int p.d)) (h2 : Ev t2 σ H (.int p.pr)) (h3 : Ev t3 σ H (.int p.bu)) (h4 : EvU t4 σ H (p.ws.map V.int)) (h5 : Ev t5 σ H (.int p.mn)) : EvP (tTup (tCons t1 (tCons t2 (tCons t3 (tCons t4 (tCons t5 tNil)))))) σ H (PPt p) := fun H1 e Q q =>
  h1 H1 e _ fun H2 e2 => h2 H2 (e.trans e2) _ fun H3 e3 => h3 H3 ((e.trans e2).trans e3) _ fun H4 e4 => h4 H4 (((e.trans e2).trans e3).trans e4) _ fun c H5 _ e5 hc => h5 H5 ((((e.trans e2).trans e3).trans e4).trans e5) _ fun H6 e6 =>
    ⟨sz_of (by show 5 ≤ 100000; decide), fun t ht => q _ _ (((((e2.trans e3).trans e4).trans e5).trans e6).trans (Ex.new ht)) ⟨t, c, rfl, upd_same, Ex.new ht _ _ (e6 _ _ hc)⟩⟩
theorem ep_l1 {l : Lnk} (h : EvA tr σ H [.int l.k, .int l.one, .int l.r, .int l.other, .int l.o]) : EvP (tTup tr) σ H (PL1 l) := ep_U (eu_tup h (by show 5 ≤ 100000; decide))
theorem ep_n1 {l : Ln3} (h : EvA tr σ H [.int l.ln, .int l.num, .int l.bits]) : EvP (tTup tr) σ H (PN1 l) := ep_U (eu_tup h (by show 3 ≤ 100000; decide))
theorem getD_rep {α : Type} {n i : Nat} {x d : α} (h : i < n) : (List.replicate n x).getD i d = x := by rw [List.getD_eq_getElem?_getD, List.getElem?_replicate, if_pos h]; rfl
theorem ep_partsR {p : PtX} {n : Int} (hn : 2 ≤ n ∧ n ≤ 1000) (h : EvP te σ H (PPt p)) (hb : ∀ H1, Ex H H1 → Ev tb σ H1 (.int n)) : EvP (tOp (rRepT K) (tTup (tCons te tNil)) tb) σ H (PPs (List.replicate n.toNat p)) := ep_imp (ep_repP PPt.mo hn (ep_tup1 h PPt.mo) hb) fun v H ⟨a, vs, e, h1, h2, h3⟩ => ⟨a, e, vs, h1, by rw [h2, List.length_replicate], fun i v hv => by
  rw [getD_rep (by rw [← h2]; exact (List.getElem?_eq_some_iff.mp hv).1)]
  exact h3 i v hv⟩
theorem ep_planR {p : Int × Int} {n : Int} (hn : 2 ≤ n ∧ n ≤ 1000) (h : EvP te σ H (PrLk p.1 p.2)) (hb : ∀ H1, Ex H H1 → Ev tb σ H1 (.int n)) : EvP (tOp (rRepT K) (tTup (tCons te tNil)) tb) σ H (PPl (List.replicate n.toNat p)) := ep_imp (ep_repP PrLk.mo hn (ep_tup1 h PrLk.mo) hb) fun v H ⟨a, vs, e, h1, h2, h3⟩ => ⟨a, e, vs, h1, by rw [h2, List.length_replicate], fun i v hv => by
  rw [getD_rep (by rw [← h2]; exact (List.getElem?_eq_some_iff.mp hv).1)]
  exact h3 i v hv⟩
theorem ep_lnksR {p : Lnk} {n : Int} (hn : 2 ≤ n ∧ n ≤ 1000) (h : EvP te σ H (PL1 p)) (hb : ∀ H1, Ex H H1 → Ev tb σ H1 (.int n)) : EvP (tOp (rRepT K) (tTup (tCons te tNil)) tb) σ H (PLk (List.replicate n.toNat p)) := ep_imp (ep_repP PL1.mo hn (ep_tup1 h PL1.mo) hb) fun v H ⟨a, vs, e, h1, h2, h3⟩ => ⟨a, e, vs, h1, by rw [h2, List.length_replicate], fun i v hv => by
  rw [getD_rep (by rw [← h2]; exact (List.getElem?_eq_some_iff.mp hv).1)]
  exact h3 i v hv⟩
theorem ep_told {pl : List (Int × Int)} {ps : List PtX} {lks : List Lnk} {lns : List Ln3} (h1 : EvP ta σ H (PPl pl)) (h2 : EvP tb σ H (PPs ps)) (h3 : EvP tc σ H (PLk lks)) (h4 : EvP td σ H (PLn lns)) : EvP (tTup (tCons ta (tCons tb (tCons tc (tCons td tNil))))) σ H (PrTold pl ps lks lns) := fun H1 e Q q =>
  h1 H1 e _ fun v1 H2 e2 ⟨pa, z1, k1⟩ => h2 H2 (e.trans e2) _ fun v2 H3 e3 ⟨qa, z2, k2⟩ => h3 H3 ((e.trans e2).trans e3) _ fun v3 H4 e4 ⟨la, z3, k3⟩ => h4 H4 (((e.trans e2).trans e3).trans e4) _ fun v4 H5 e5 ⟨ra, z4, k4⟩ => by
    subst z1 z2 z3 z4
    refine ⟨sz_of (by show 4 ≤ 100000; decide), fun t ht => ?_⟩
    have e6 : Ex H5 (upd H5 t (.tup [.ref pa, .ref qa, .ref la, .ref ra])) := Ex.new ht
    exact q _ _ ((((e2.trans e3).trans e4).trans e5).trans e6) ⟨t, pa, qa, la, ra, rfl, upd_same, k1.mono (TK.ex (((e3.trans e4).trans e5).trans e6)), k2.mono (TK.ex ((e4.trans e5).trans e6)), k3.mono (TK.ex (e5.trans e6)), k4.mono (TK.ex e6)⟩
end
end KX

namespace KX
open KA KQ KD
open PySem PySem.Spec PyProof.Rows L2 Evl TL
structure Told where
  pl : List (Int × Int)
  ps : List PtX
  lk : List Lnk
  ln : List Ln3
def PrT (t : Told) : Pr := PrTold t.pl t.ps t.lk t.ln
theorem PrT.mo {t : Told} : Mo (PrT t) := PrTold.mo
def pt1 : PtX := ⟨0, 0, 1, [], 0⟩
def W1 (pl : List (Int × Int)) : List Told := [⟨[], [pt1], [], []⟩, ⟨[(2, 1)], [pt1], [], []⟩, ⟨[(0, 0)], [pt1], [], []⟩, ⟨List.replicate (Int.toNat 5) (0, 1), [pt1], [], []⟩, ⟨pl, [], [], []⟩, ⟨pl, [⟨0, 4, 1, [], 0⟩], [], []⟩]
def W2 (pl : List (Int × Int)) : List Told := [⟨pl, [⟨0, 0, 64, [], 0⟩], [], []⟩, ⟨pl, [⟨0, 0, 1, List.replicate (Int.toNat 65) 0, 0⟩], [], []⟩, ⟨pl, [⟨0, 0, 1, [], 26⟩], [], []⟩, ⟨pl, List.replicate (Int.toNat 7) pt1, [], []⟩]
def W3 (pl : List (Int × Int)) : List Told := [⟨pl, [pt1], [⟨5, 0, 1, 0, 1⟩], []⟩, ⟨pl, [pt1], [⟨6, 0, 0, 0, 1⟩], []⟩, ⟨pl, [pt1], [⟨6, 0, 1, 1, 1⟩], []⟩, ⟨pl, [pt1], List.replicate (Int.toNat 2) ⟨6, 0, 1, 0, 1⟩, []⟩]
def W4 (pl : List (Int × Int)) : List Told := [⟨pl, [pt1], [⟨6, 0, 1, 0, 1⟩], [⟨0, 0, 1⟩]⟩, ⟨pl, [pt1], [⟨7, 0, 1, 0, 1⟩], [⟨4, 0, 1⟩]⟩, ⟨pl, [pt1], [⟨7, 0, 1, 0, 1⟩], [⟨0, 0, 0⟩]⟩]
def WR (pl : List (Int × Int)) : List Told := W1 pl ++ W2 pl ++ W3 pl ++ W4 pl
theorem prT_mo {L : List Told} : ∀ P ∈ L.map PrT, Mo P := fun P hP => by
  obtain ⟨t, _, rfl⟩ := List.mem_map.mp hP
  exact PrT.mo
def RW1 (ps : List PtX) : List (Int × Int) := [(4 + (ps.getD 0 p0).d * 4 + (ps.getD 0 p0).pr, 0), (213, 4), (154, 9)]
def RW2 : List (Int × Int) := [(67, 6), (64, 2), (192, 3), (137, 9), (148, 250), (258, 40)]
def RW (ps : List PtX) : List (Int × Int) := RW1 ps ++ RW2
def bentL (μ : Mem) (at_ : Nat) (x : Int) : List Int := ((List.range 2048).map μ).take at_ ++ [x] ++ ((List.range 2048).map μ).drop (at_ + 1)
def bentM (μ : Mem) (r : Int × Int) : Mem := memOf (bentL μ r.1.toNat r.2)
structure BentOk (μ : Mem) (r : Int × Int) : Prop where
  b : 0 ≤ r.1 ∧ r.1 < 2048 ∧ 0 ≤ r.2 ∧ r.2 < 65536
  w : ∃ rq eq, (badK (bentM μ r) = false → QOk (bentM μ r) rq eq) ∧ chk (bentM μ r) rq eq = false
theorem lW_ints (μ : Mem) : lW μ = ((List.range 2048).map μ).map V.int := by
  unfold lW
  rw [List.map_map]
  rfl
theorem bentL_len {μ : Mem} {i : Nat} {x : Int} (h : i < 2048) : (bentL μ i x).length = 2048 := by
  unfold bentL
  simp
  omega
theorem bentL_bd {μ : Mem} {i : Nat} {x : Int} (hμ : ∀ i, 0 ≤ μ i ∧ μ i < 65536) (hx : 0 ≤ x ∧ x < 65536) : ∀ y ∈ bentL μ i x, 0 ≤ y ∧ y < 65536 := fun y hy => by
  unfold bentL at hy
  rcases List.mem_append.mp hy with hy | hy
  · rcases List.mem_append.mp hy with hy | hy
    · obtain ⟨j, _, rfl⟩ := List.mem_map.mp (List.mem_of_mem_take hy)
      exact hμ j
    · rw [List.mem_singleton.mp hy]
      exact hx
  · obtain ⟨j, _, rfl⟩ := List.mem_map.mp (List.mem_of_mem_drop hy)
    exact hμ j
theorem memOf_nn {ws : List Int} (i : Nat) : 0 ≤ memOf ws i := Int.emod_nonneg _ (by decide)
theorem TK.rdx {H H' : Hp} (r : RdX H H') : TK H H' := fun _ _ h => r.tup h
section
variable {σ : L2.St} {H : Hp} {K : PySem.W.Frag} {D : Ends} {te tb : TE} {tr : TA} {tz : TS}
theorem q_asgM {i : Nat} {tm : TE} {ta : TA} {C : Addr} {n : Str} {sp : Sp} {dvs vs : List V} {E : XK} {a dx : Addr} {fs : List (Str × V)} (hm : Ev tm σ H (.ref a)) (hi : H a = some (.ins C dx fs)) (h : EvA ta σ H vs) (hn : fs.lookup n = none) (k : ∀ H1, Ex H H1 → sp (.ref a :: (vs ++ dvs)) H1 (fun v H' => tz D (σ.set i (some v)) H') E) : tSeq (tAsg (tMeth C n sp dvs E tm ta) (gName i)) tz D σ H :=
  hm H (Ex.refl H) _ fun H1 e1 => ⟨a, dx, fs, rfl, e1 _ _ hi, hn, h H1 e1 _ fun H2 e2 => k H2 (e1.trans e2)⟩
theorem callA {ta : TA} {sp : Sp} {dvs vs : List V} {E : XK} {Q : VK} (h : EvA ta σ H vs) (k : ∀ H1, Ex H H1 → sp (vs ++ dvs) H1 Q E) : tCall sp dvs E ta σ H Q := h H (Ex.refl H) _ k
theorem q_asgP {i : Nat} {P : Pr} (h : EvP te σ H P) (k : ∀ v H1, Ex H H1 → P v H1 → tz D (σ.set i (some v)) H1) : tSeq (tAsg te (gName i)) tz D σ H := h H (Ex.refl H) _ k
theorem ep_v {P : Pr} {v : V} (mo : Mo P) (h : Ev te σ H v) (hp : P v H) : EvP te σ H P := fun H1 e Q q => h H1 e _ fun H2 e2 => q v H2 e2 (mo _ _ _ (TK.ex (e.trans e2)) hp)
/-- a + b, tuples of pairs -/
theorem ep_planCat {pl ql : List (Int × Int)} (h1 : EvP te σ H (PPl pl)) (h2 : ∀ H1, Ex H H1 → EvP tb σ H1 (PPl ql)) (hz : pl.length + ql.length ≤ 1000) : EvP (tOp (rCatA K) te tb) σ H (PPl (pl ++ ql)) := fun H1 e Q q =>
  h1 H1 e _ fun v1 H2 e2 ⟨a, z1, xs, ha, la, ga⟩ => h2 H2 (e.trans e2) H2 (Ex.refl H2) _ fun v2 H3 e3 ⟨b, z2, ys, hb, lb, gb⟩ => by
    subst z1 z2
    have ha3 := e3 _ _ ha
    have all : ∀ H', Ex H3 H' → ∀ (i : Nat) v, (xs ++ ys)[i]? = some v → ∃ t, v = .ref t ∧ H' t = some (.tup [.int ((pl ++ ql).getD i (0, 0)).1, .int ((pl ++ ql).getD i (0, 0)).2]) := fun H' e' i v hv => by
      by_cases hi : i < pl.length
      · rw [List.getElem?_append_left (by omega)] at hv
        obtain ⟨t, c, d⟩ := ga i v hv
        refine ⟨t, c, ?_⟩
        rw [List.getD_eq_getElem?_getD, List.getElem?_append_left hi, ← List.getD_eq_getElem?_getD]
        exact (e3.trans e') _ _ d
      · rw [List.getElem?_append_right (by omega), la] at hv
        obtain ⟨t, c, d⟩ := gb _ v hv
        refine ⟨t, c, ?_⟩
        rw [List.getD_eq_getElem?_getD, List.getElem?_append_right (by omega), ← List.getD_eq_getElem?_getD]
        exact e' _ _ d
    have len : (xs ++ ys).length = (pl ++ ql).length := by rw [List.length_append, List.length_append, la, lb]
    refine ⟨a, b, xs, ys, rfl, rfl, st_of ha3, st_of hb, sz_of (by omega), fun z => ?_, fun _ z => ?_, fun _ _ p hp => ?_⟩
    · subst z
      exact q _ H3 (e2.trans e3) ⟨b, rfl, ys, hb, len, all H3 (Ex.refl H3)⟩
    · subst z
      exact q _ H3 (e2.trans e3) ⟨a, rfl, xs, ha3, by rw [← len, List.append_nil], fun i v hv => all H3 (Ex.refl H3) i v (by rw [List.append_nil]; exact hv)⟩
    · exact q _ _ ((e2.trans e3).trans (Ex.new hp)) ⟨p, rfl, xs ++ ys, upd_same, len, all _ (Ex.new hp)⟩
/-- a new list of what is promised -/
def EvLP (te : TE) (σ : L2.St) (H : Hp) (Ps : List Pr) : Prop := ∀ H1, Ex H H1 → ∀ Q : VK, (∀ p vs H2, H1 p = none → Ex H1 H2 → H2 p = some (.lst vs) → Al Ps vs H2 → Q (.ref p) H2) → te σ H1 Q
theorem elp_lst {Ps : List Pr} (hm : ∀ P ∈ Ps, Mo P) (hl : Ps.length ≤ 1000) (h : EvPs tr σ H Ps) : EvLP (tLst tr) σ H Ps := fun H1 e Q q => h H1 e _ fun vs H2 e2 al => ⟨sz_of (by rw [al.len]; omega), fun p hp => q p vs _ (fresh_back e2 hp) (e2.trans (Ex.new hp)) upd_same (al.mono hm (TK.ex (Ex.new hp)))⟩
theorem al_app {H : Hp} : ∀ {Ps Qs : List Pr} {xs ys : List V}, Al Ps xs H → Al Qs ys H → Al (Ps ++ Qs) (xs ++ ys) H
  | _, _, _, _, .nil, b => b
  | _, _, _, _, .cons g r, b => .cons g (al_app r b)
/-- w = w + [..] -/
theorem q_asgCat {i : Nat} {Ps Qs : List Pr} {p : Addr} {xs : List V} (hm : ∀ P ∈ Ps ++ Qs, Mo P) (hl : Ps.length + Qs.length ≤ 1000) (h : Ev te σ H (.ref p)) (hp : H p = some (.lst xs)) (al : Al Ps xs H) (h2 : ∀ H1, Ex H H1 → EvLP tb σ H1 Qs) (k : ∀ q vs H1, Ex H H1 → H1 q = some (.lst vs) → Al (Ps ++ Qs) vs H1 → tz D (σ.set i (some (.ref q))) H1) : tSeq (tAsg (tOp rCat te tb) (gName i)) tz D σ H :=
  h H (Ex.refl H) _ fun H1 e1 => h2 H1 e1 H1 (Ex.refl H1) _ fun q ys H2 hq e2 h2' al2 => ⟨p, q, xs, ys, rfl, rfl, (e1.trans e2) _ _ hp, h2', sz_of (by rw [al.len, al2.len]; omega), fun r hr =>
    k r _ _ ((e1.trans e2).trans (Ex.new hr)) upd_same (al_app (al.mono (fun P hP => hm P (List.mem_append_left _ hP)) (TK.ex ((e1.trans e2).trans (Ex.new hr)))) (al2.mono (fun P hP => hm P (List.mem_append_right _ hP)) (TK.ex (Ex.new hr))))⟩
theorem q_asgLP {i : Nat} {Ps : List Pr} (h : EvLP te σ H Ps) (k : ∀ p vs H1, Ex H H1 → H1 p = some (.lst vs) → Al Ps vs H1 → tz D (σ.set i (some (.ref p))) H1) : tSeq (tAsg te (gName i)) tz D σ H := h H (Ex.refl H) _ fun p vs H1 _ e1 h1 al => k p vs H1 e1 h1 al
end
section
variable {P : Program} {w : World} {K : PySem.W.Frag} {mg : Str → Option Value} {base : Heap}
def sp_law_bent_right (K : PySem.W.Frag) (Pt : Addr) : Sp := fun vs H Q _ => ∃ (m wl pa qa : Addr) (μ : Mem) (pl : List (Int × Int)) (ps : List PtX), vs = [.ref m, .ref pa, .ref qa] ∧ MemAt K H m wl μ ∧ PlanAt H pa pl ∧ PartsAt H qa ps ∧ 1 ≤ ps.length ∧ ps.length < 4 ∧ (∀ i, 0 ≤ μ i ∧ μ i < 65536) ∧ H Pt = some (.tbl #[]) ∧
  (∀ r ∈ RW ps, BentOk μ r) ∧ (∀ t ∈ WR pl, BootOk t.pl t.ps t.lk t.ln ∧ bootG t.pl t.ps t.lk t.ln = none) ∧ ∀ H', Q (.bl true) H'
theorem ok_law_bent_right (T : Txt K mg) {c Pt : Addr} (hcd : (fd_law_bent_right K).code = .ref c) (TBL : LamX.TabB base mg c Pt) : FnOk P w K mg base CX0 11 (f_law_bent_right K) (fd_law_bent_right K) ["memory", "plan", "parts"] (sp_law_bent_right K Pt) := by
  refine fun_okC T.fn_law_bent_right sc_law_bent_right (fun vs H Q E h => ?_) (fun A outer s H vs Q E hr h => ?_)
  · obtain ⟨_, _, _, _, _, _, _, rfl, _⟩ := h
    rfl
  have hu := hu_of hr
  obtain ⟨oc, od, dV, kV, doc, pm, an, cdvR, ct, osl, eR, lkR, hcR, _, _⟩ := T.fn_law_refused.ex
  have bdR := T.bd_law_refused
  rw [eR] at lkR bdR
  obtain ⟨TL, hTL⟩ : ∃ TL : List (Addr × Str), TL = [(Pt, (cxOf CX0 P w K mg base sc_law_bent_right_N "_law_bent_right" (defScope s_law_bent_right) (f_law_bent_right K) (fd_law_bent_right K).code A outer s H E).env.qual ++ "<lambda>")] := ⟨_, rfl⟩
  have hcode : (cxOf CX0 P w K mg base sc_law_bent_right_N "_law_bent_right" (defScope s_law_bent_right) (f_law_bent_right K) (fd_law_bent_right K).code A outer s H E).nox.env.code = .ref c := hcd
  have hmT : (Pt, (cxOf CX0 P w K mg base sc_law_bent_right_N "_law_bent_right" (defScope s_law_bent_right) (f_law_bent_right K) (fd_law_bent_right K).code A outer s H E).nox.env.qual ++ "<lambda>") ∈ TL := by rw [hTL]; exact List.mem_singleton.mpr rfl
  have huT : ∀ p ∈ TL, p.1 = Pt → p.2 = (cxOf CX0 P w K mg base sc_law_bent_right_N "_law_bent_right" (defScope s_law_bent_right) (f_law_bent_right K) (fd_law_bent_right K).code A outer s H E).nox.env.qual ++ "<lambda>" := fun p hp _ => by
    rw [hTL, List.mem_singleton] at hp
    rw [hp]
  refine ⟨_, PSs.nox (pss_cons (ps_set (i := 3) sc_law_bent_right.nd rfl (Or.inl rfl) (pe_meth0 (pv 0) (T.cl_Memory) (T.mt_Memory_words) (ok_Memory_words T) (hr.mono (by decide)) (T.bd_Memory_words) .nil pass0)) (pss_cons (ps_set (i := 4) sc_law_bent_right.nd rfl (Or.inl rfl) (pe_tup (pa_cons (pe_tup (pa_cons (pe_op op_add (pe_op op_add pe_int (pe_op op_mul (pe_ix ix_tup (pe_ix ix_tup (pv 2) pe_int (fun _ _ => rfl)) pe_int (fun _ _ => rfl)) pe_int)) (pe_ix ix_tup (pe_ix ix_tup (pv 2) pe_int (fun _ _ => rfl)) pe_int (fun _ _ => rfl))) (pa_cons pe_int pa_nil))) (pa_cons (pe_tup (pa_cons (pe_op op_add (pe_op op_mul pe_int (T.pg_FRAME)) pe_int) (pa_cons pe_int pa_nil))) (pa_cons (pe_tup (pa_cons (pe_op op_add (pe_op op_add (pe_op op_mul pe_int (T.pg_FRAME)) pe_int) pe_int) (pa_cons pe_int pa_nil))) pa_nil))))) (pss_cons (ps_set (i := 4) sc_law_bent_right.nd rfl (Or.inl rfl) (pe_op op_catA (pv 4) (pe_tup (pa_cons (pe_tup (pa_cons (pe_op op_add (T.pg_FRAME) pe_int) (pa_cons pe_int pa_nil))) (pa_cons (pe_tup (pa_cons (T.pg_FRAME) (pa_cons pe_int pa_nil))) (pa_cons (pe_tup (pa_cons (pe_op op_mul pe_int (T.pg_FRAME)) (pa_cons pe_int pa_nil))) (pa_cons (pe_tup (pa_cons (pe_op op_add (pe_op op_add (pe_op op_mul pe_int (T.pg_FRAME)) pe_int) pe_int) (pa_cons pe_int pa_nil))) (pa_cons (pe_tup (pa_cons (pe_op op_add (pe_op op_add (pe_op op_mul pe_int (T.pg_FRAME)) pe_int) pe_int) (pa_cons pe_int pa_nil))) (pa_cons (pe_tup (pa_cons (pe_op op_add (pe_op op_mul pe_int (T.pg_FRAME)) pe_int) (pa_cons pe_int pa_nil))) pa_nil))))))))) (pss_cons (ps_for PassesOwn.never rfl (pi_tup (pv 4)) (pg_tup (by rfl) (pgs_cons (pg_name (i := 5) sc_law_bent_right.nd rfl (Or.inl rfl)) (pgs_cons (pg_name (i := 6) sc_law_bent_right.nd rfl (Or.inl rfl)) pgs_nil))) (pss_cons (ps_set (i := 7) sc_law_bent_right.nd rfl (Or.inl rfl) (pe_meth0 (pe_call (ok_from_image T) (hr.mono (by decide)) (by rfl) (T.glo_from_image) (T.kp_from_image) (T.bd_from_image) .nil passL (pa_cons (pe_op op_catA (pe_op op_catA (pe_slice sl_tupA (pv 3) po_none (po_some (pv 5))) (pe_tup (pa_cons (pv 6) pa_nil))) (pe_slice sl_tupA (pv 3) (po_some (pe_op op_add (pv 5) pe_int)) po_none)) (pa_cons pe_int pa_nil))) (T.cl_Machine) (T.mt_Machine_memory) (ok_Machine_memory T) (hr.mono (by decide)) (T.bd_Machine_memory) .nil pass0)) (pss_one (ps_if (pt_not (pt_val (pe_call (ok_law_wrong T) (hr.mono (by decide)) (by rfl) (T.glo_law_wrong) (T.kp_law_wrong) (T.bd_law_wrong) .nil pass0 (pa_cons (pv 7) pa_nil)))) (pss_one (ps_ret pe_bl)) pss_nil)))) (pss_cons (ps_set (i := 8) sc_law_bent_right.nd rfl (Or.inl rfl) (pe_tup (pa_cons pe_int (pa_cons pe_int (pa_cons pe_int (pa_cons (pe_tup pa_nil) (pa_cons pe_int pa_nil))))))) (pss_cons (ps_set (i := 9) sc_law_bent_right.nd rfl (Or.inl rfl) (pe_lst (pa_cons (pe_tup (pa_cons (pe_tup pa_nil) (pa_cons (pe_tup (pa_cons (pv 8) pa_nil)) (pa_cons (pe_tup pa_nil) (pa_cons (pe_tup pa_nil) pa_nil))))) (pa_cons (pe_tup (pa_cons (pe_tup (pa_cons (pe_tup (pa_cons pe_int (pa_cons pe_int pa_nil))) pa_nil)) (pa_cons (pe_tup (pa_cons (pv 8) pa_nil)) (pa_cons (pe_tup pa_nil) (pa_cons (pe_tup pa_nil) pa_nil))))) (pa_cons (pe_tup (pa_cons (pe_tup (pa_cons (pe_tup (pa_cons pe_int (pa_cons pe_int pa_nil))) pa_nil)) (pa_cons (pe_tup (pa_cons (pv 8) pa_nil)) (pa_cons (pe_tup pa_nil) (pa_cons (pe_tup pa_nil) pa_nil))))) (pa_cons (pe_tup (pa_cons (pe_op op_repT (pe_tup (pa_cons (pe_tup (pa_cons pe_int (pa_cons pe_int pa_nil))) pa_nil)) pe_int) (pa_cons (pe_tup (pa_cons (pv 8) pa_nil)) (pa_cons (pe_tup pa_nil) (pa_cons (pe_tup pa_nil) pa_nil))))) (pa_cons (pe_tup (pa_cons (pv 1) (pa_cons (pe_tup pa_nil) (pa_cons (pe_tup pa_nil) (pa_cons (pe_tup pa_nil) pa_nil))))) (pa_cons (pe_tup (pa_cons (pv 1) (pa_cons (pe_tup (pa_cons (pe_tup (pa_cons pe_int (pa_cons pe_int (pa_cons pe_int (pa_cons (pe_tup pa_nil) (pa_cons pe_int pa_nil)))))) pa_nil)) (pa_cons (pe_tup pa_nil) (pa_cons (pe_tup pa_nil) pa_nil))))) pa_nil)))))))) (pss_cons (ps_set (i := 9) sc_law_bent_right.nd rfl (Or.inl rfl) (pe_op op_cat (pv 9) (pe_lst (pa_cons (pe_tup (pa_cons (pv 1) (pa_cons (pe_tup (pa_cons (pe_tup (pa_cons pe_int (pa_cons pe_int (pa_cons pe_int (pa_cons (pe_tup pa_nil) (pa_cons pe_int pa_nil)))))) pa_nil)) (pa_cons (pe_tup pa_nil) (pa_cons (pe_tup pa_nil) pa_nil))))) (pa_cons (pe_tup (pa_cons (pv 1) (pa_cons (pe_tup (pa_cons (pe_tup (pa_cons pe_int (pa_cons pe_int (pa_cons pe_int (pa_cons (pe_op op_repT (pe_tup (pa_cons pe_int pa_nil)) pe_int) (pa_cons pe_int pa_nil)))))) pa_nil)) (pa_cons (pe_tup pa_nil) (pa_cons (pe_tup pa_nil) pa_nil))))) (pa_cons (pe_tup (pa_cons (pv 1) (pa_cons (pe_tup (pa_cons (pe_tup (pa_cons pe_int (pa_cons pe_int (pa_cons pe_int (pa_cons (pe_tup pa_nil) (pa_cons pe_int pa_nil)))))) pa_nil)) (pa_cons (pe_tup pa_nil) (pa_cons (pe_tup pa_nil) pa_nil))))) (pa_cons (pe_tup (pa_cons (pv 1) (pa_cons (pe_op op_repT (pe_tup (pa_cons (pv 8) pa_nil)) pe_int) (pa_cons (pe_tup pa_nil) (pa_cons (pe_tup pa_nil) pa_nil))))) pa_nil))))))) (pss_cons (ps_set (i := 9) sc_law_bent_right.nd rfl (Or.inl rfl) (pe_op op_cat (pv 9) (pe_lst (pa_cons (pe_tup (pa_cons (pv 1) (pa_cons (pe_tup (pa_cons (pv 8) pa_nil)) (pa_cons (pe_tup (pa_cons (pe_tup (pa_cons pe_int (pa_cons pe_int (pa_cons pe_int (pa_cons pe_int (pa_cons pe_int pa_nil)))))) pa_nil)) (pa_cons (pe_tup pa_nil) pa_nil))))) (pa_cons (pe_tup (pa_cons (pv 1) (pa_cons (pe_tup (pa_cons (pv 8) pa_nil)) (pa_cons (pe_tup (pa_cons (pe_tup (pa_cons pe_int (pa_cons pe_int (pa_cons pe_int (pa_cons pe_int (pa_cons pe_int pa_nil)))))) pa_nil)) (pa_cons (pe_tup pa_nil) pa_nil))))) (pa_cons (pe_tup (pa_cons (pv 1) (pa_cons (pe_tup (pa_cons (pv 8) pa_nil)) (pa_cons (pe_tup (pa_cons (pe_tup (pa_cons pe_int (pa_cons pe_int (pa_cons pe_int (pa_cons pe_int (pa_cons pe_int pa_nil)))))) pa_nil)) (pa_cons (pe_tup pa_nil) pa_nil))))) (pa_cons (pe_tup (pa_cons (pv 1) (pa_cons (pe_tup (pa_cons (pv 8) pa_nil)) (pa_cons (pe_op op_repT (pe_tup (pa_cons (pe_tup (pa_cons pe_int (pa_cons pe_int (pa_cons pe_int (pa_cons pe_int (pa_cons pe_int pa_nil)))))) pa_nil)) pe_int) (pa_cons (pe_tup pa_nil) pa_nil))))) pa_nil))))))) (pss_cons (ps_set (i := 9) sc_law_bent_right.nd rfl (Or.inl rfl) (pe_op op_cat (pv 9) (pe_lst (pa_cons (pe_tup (pa_cons (pv 1) (pa_cons (pe_tup (pa_cons (pv 8) pa_nil)) (pa_cons (pe_tup (pa_cons (pe_tup (pa_cons pe_int (pa_cons pe_int (pa_cons pe_int (pa_cons pe_int (pa_cons pe_int pa_nil)))))) pa_nil)) (pa_cons (pe_tup (pa_cons (pe_tup (pa_cons pe_int (pa_cons pe_int (pa_cons pe_int pa_nil)))) pa_nil)) pa_nil))))) (pa_cons (pe_tup (pa_cons (pv 1) (pa_cons (pe_tup (pa_cons (pv 8) pa_nil)) (pa_cons (pe_tup (pa_cons (pe_tup (pa_cons pe_int (pa_cons pe_int (pa_cons pe_int (pa_cons pe_int (pa_cons pe_int pa_nil)))))) pa_nil)) (pa_cons (pe_tup (pa_cons (pe_tup (pa_cons pe_int (pa_cons pe_int (pa_cons pe_int pa_nil)))) pa_nil)) pa_nil))))) (pa_cons (pe_tup (pa_cons (pv 1) (pa_cons (pe_tup (pa_cons (pv 8) pa_nil)) (pa_cons (pe_tup (pa_cons (pe_tup (pa_cons pe_int (pa_cons pe_int (pa_cons pe_int (pa_cons pe_int (pa_cons pe_int pa_nil)))))) pa_nil)) (pa_cons (pe_tup (pa_cons (pe_tup (pa_cons pe_int (pa_cons pe_int (pa_cons pe_int pa_nil)))) pa_nil)) pa_nil))))) pa_nil)))))) (pss_cons (ps_for PassesOwn.never rfl (pi_list (pv 9)) (pg_name (i := 10) sc_law_bent_right.nd rfl (by first | exact Or.inr rfl | exact Or.inl rfl)) (pss_one (ps_if (pt_not (pt_val (LamX.pe_lamcall (k := 6) (T := TL) (TT := TTref K (He.ga K "InvalidBoot")) (t := fun E => _) (by rfl) T.glo_law_refused T.kp_law_refused lkR hcR bdR sc_law_refused rfl (.inl rfl) (refused_gives (by rfl) T.glo_InvalidBoot (by decide) (fun _ => rfl)) TBL hcode hmT huT (hr.mono (by decide)) (LamX.lamS_by (sc := defScope s_law_bent_right) (by decide +kernel)) rfl (fun _ _ _ _ _ => rfl) (fun A outer s H E f c' hr2 => (pe_call (ok_booted T) (hr2.mono (by decide)) (by rfl) (T.glo_booted) (T.kp_booted) (T.bd_booted) .nil (passes_call (takes_of rfl rfl rfl rfl) (fun _ _ _ _ z => z)) (pa_cons (pe_ix (r := rIxT K) (by exact ix_tup) (pv 10) pe_int (fun _ _ => rfl)) (pa_cons (pe_ix (r := rIxT K) (by exact ix_tup) (pv 10) pe_int (fun _ _ => rfl)) (pa_cons (pe_ix (r := rIxT K) (by exact ix_tup) (pv 10) pe_int (fun _ _ => rfl)) (pa_cons (pe_ix (r := rIxT K) (by exact ix_tup) (pv 10) pe_int (fun _ _ => rfl)) pa_nil))))))))) (pss_one (ps_ret pe_bl)) pss_nil))) (pss_one (ps_ret (pe_and (pe_cmpR op_eq (pe_callB call_len (by rfl) T.free_len PySem.boot_len (pa_cons (pv 3) pa_nil)) (pe_op op_mul (T.pg_FRAME) (T.pg_FRAMES)) (nomark _)) (pe_one (pe_cmpR op_lt (pe_callB call_len (by rfl) T.free_len PySem.boot_len (pa_cons (pv 2) pa_nil)) pe_int (nomark _)))))))))))))))), ?_⟩
  obtain ⟨m, wl, pa, qa, μ, pl, ps, rfl, hM, hP, hQ, l1, l4, hμ, hPt, hR, hW, k⟩ := h
  have hTabs : ∀ {H' : Hp}, H' Pt = some (.tbl #[]) → LamX.Tabs TL H' := fun {H'} hp p hm => by
    rw [hTL, List.mem_singleton] at hm
    rw [hm]
    exact LamX.TabS.nil hp
  clear hcode hmT huT hTL
  obtain ⟨⟨dx, dd, hi, _⟩, hw⟩ := id hM
  refine q_asgM (vs := []) (a := m) (ev_var rfl) hi ea_nil rfl fun H0 e0 => ⟨m, wl, μ, rfl, hM.keep e0, fun wd H1 hwd e01 hwd1 => ?_⟩
  have e1 := e0.trans e01
  obtain ⟨vq, hq1, hq2, hq3⟩ := id hQ
  obtain ⟨v0, hv0⟩ : ∃ v0, vq[0]? = some v0 := ⟨vq[0]'(by omega), List.getElem?_eq_getElem _⟩
  obtain ⟨u, cu, rfl, hu, _⟩ := hq3 0 v0 hv0
  refine q_asgP (ep_plan (pl := RW1 ps) (by show 3 ≤ 1000; decide) ((eps_cons PrLk.mo (ep_lk (ev_op (ev_op ev_c (ev_op (ev_op (ev_op (ev_var rfl) ev_c (Evl.rv_ixT (st_of (TK.ex e1 _ _ hq1)) (atI_nat (j := 0) hv0))) ev_c (Evl.rv_ixT (st_of (TK.ex e1 _ _ hu)) (atI_nat (j := 0) rfl))) ev_c (rv_I (.inr ⟨by decide, by decide⟩))) rv_I0) (ev_op (ev_op (ev_var rfl) ev_c (Evl.rv_ixT (st_of (TK.ex e1 _ _ hq1)) (atI_nat (j := 0) hv0))) ev_c (Evl.rv_ixT (st_of (TK.ex e1 _ _ hu)) (atI_nat (j := 1) rfl))) rv_I0) ev_c) (eps_cons PrLk.mo (ep_lk (ev_is (ev_op (ev_op ev_c ev_c (rv_I (.inl ⟨by decide, by decide⟩))) ev_c rv_I0) rfl) ev_c) (eps_cons PrLk.mo (ep_lk (ev_is (ev_op (ev_op (ev_op ev_c ev_c (rv_I (.inl ⟨by decide, by decide⟩))) ev_c rv_I0) ev_c rv_I0) rfl) ev_c) eps_nil))) : EvPs _ _ H1 ((RW1 ps).map fun p => PrLk p.1 p.2))) fun v1 H2 e2 hp1 => ?_
  refine q_asgP (ep_planCat (pl := RW1 ps) (ql := RW2) (ep_v PPl.mo (ev_var rfl) hp1) (fun G g => ep_plan (pl := RW2) (by show 6 ≤ 1000; decide) ((eps_cons PrLk.mo (ep_lk (ev_is (ev_op ev_c ev_c rv_I0) rfl) ev_c) (eps_cons PrLk.mo (ep_lk ev_c ev_c) (eps_cons PrLk.mo (ep_lk (ev_is (ev_op ev_c ev_c (rv_I (.inl ⟨by decide, by decide⟩))) rfl) ev_c) (eps_cons PrLk.mo (ep_lk (ev_is (ev_op (ev_op (ev_op ev_c ev_c (rv_I (.inl ⟨by decide, by decide⟩))) ev_c rv_I0) ev_c rv_I0) rfl) ev_c) (eps_cons PrLk.mo (ep_lk (ev_is (ev_op (ev_op (ev_op ev_c ev_c (rv_I (.inl ⟨by decide, by decide⟩))) ev_c rv_I0) ev_c rv_I0) rfl) ev_c) (eps_cons PrLk.mo (ep_lk (ev_is (ev_op (ev_op ev_c ev_c (rv_I (.inl ⟨by decide, by decide⟩))) ev_c rv_I0) rfl) ev_c) eps_nil)))))) : EvPs _ _ G (RW2.map fun p => PrLk p.1 p.2))) (by show 3 + 6 ≤ 1000; decide)) fun v2 H3 e3 ⟨ra, z2, vr, hr1, hr2, hr3⟩ => ?_
  subst z2
  have e13 := e2.trans e3
  have hPt3 := (e1.trans e13) _ _ hPt
  have hwd3 := e13 _ _ hwd1
  refine q_forT (K := K) (a := ra) (xs := vr) (ev_var rfl) (st_of hr1) (fun i σ' H' => ∃ x5 x6 x7, σ' = [some (.ref m), some (.ref pa), some (.ref qa), some (.ref wd), some (.ref ra), x5, x6, x7, none, none, none] ∧ TK H3 H' ∧ H' Pt = some (.tbl #[])) (fun H4 e4 => ⟨none, none, none, rfl, TK.ex e4, e4 _ _ hPt3⟩) (fun i σ' H' _ ⟨_, _, _, _, tk, _⟩ => st_of (tk _ _ hr1)) ?_ ?_
  · rintro i x σ' H' hx ⟨x5, x6, x7, rfl, tk, hp'⟩
    obtain ⟨t, rfl, ht⟩ := hr3 i x hx
    have hil : i < (RW1 ps ++ RW2).length := by rw [← hr2]; exact (List.getElem?_eq_some_iff.mp hx).1
    have hmem : (RW1 ps ++ RW2).getD i (0, 0) ∈ RW ps := by
      rw [List.getD_eq_getElem?_getD, List.getElem?_eq_getElem hil]
      exact List.getElem_mem hil
    generalize (RW1 ps ++ RW2).getD i (0, 0) = r at ht hmem
    obtain ⟨⟨b0, b1, b2, b3⟩, rq, eq, hqk, hck⟩ := hR r hmem
    obtain ⟨at_, x0⟩ := r
    obtain ⟨n, rfl⟩ : ∃ n : Nat, at_ = (n : Int) := ⟨at_.toNat, by omega⟩
    have hn : n < 2048 := by omega
    refine ⟨t, _, rfl, st_of (tk _ _ ht), rfl, _, _, rfl, _, _, rfl, rfl, ?_⟩
    dsimp only
    have hwd' := tk _ _ hwd3
    have argS : EvS (tOp (rCatA K) (tOp (rCatA K) (tSl (rSlA K) (tVar 3) tNoPart (tPart (tVar 5))) (tTup (tCons (tVar 6) tNil))) (tSl (rSlA K) (tVar 3) (tPart (tOp (rI0 fun i j => V.int (i + j)) (tVar 5) (tC (V.int 1)))) tNoPart)) [some (.ref m), some (.ref pa), some (.ref qa), some (.ref wd), some (.ref ra), some (.int (n : Int)), some (.int x0), x7, none, none, none] H' ((bentL μ n x0).map V.int) := by
      refine es_is (es_catA (es_catA (es_slA (lo := none) (hi := some (n : Int)) (es_ev (ev_var rfl) hwd') (fun G g => eo_none) (fun G g => eo_some (ev_var rfl))) (fun G g => es_U (eu_tup (vs := [.int x0]) (ea_cons (ev_var rfl) ea_nil) (by show 1 ≤ 100000; decide))) ?_) (fun G g => es_slA (lo := some ((n + 1 : Nat) : Int)) (hi := none) (es_ev (ev_var rfl) (g _ _ hwd')) (fun G g => eo_some (ev_op (ev_var rfl) ev_c rv_I0)) (fun G g => eo_none)) ?_) ?_
      · rw [cut_to, List.length_take, lW_len]
        show min n 2048 + 1 ≤ 100000
        omega
      · rw [cut_to, cut_from, List.length_append, List.length_take, List.length_drop, lW_len]
        show min n 2048 + 1 + (2048 - (n + 1)) ≤ 100000
        omega
      · rw [cut_to, cut_from, lW_ints]
        unfold bentL
        rw [List.map_append, List.map_append, List.map_take, List.map_drop]
        rfl
    refine argS H' (Ex.refl _) _ fun ta H5 e5 hta => ⟨ta, 0, bentL μ n x0, rfl, hta, bentL_len hn, bentL_bd hμ ⟨b2, b3⟩, fun mc m' wl' dd' dx' dx2 fs H6 hmc e6 hM6 hm6 hd6 hmc6 hlk hnk => ⟨mc, dx2, fs, rfl, hmc6, hnk, mc, dx2, .ref m', fs, rfl, hmc6, hlk, fun H7 e7 => ?_⟩⟩
    refine ⟨_, rfl, m', wl', dx', dd', memOf (bentL μ n x0), rq, eq, rfl, hM6.keep e7, e7 _ _ hm6, e7 _ _ hd6, memOf_nn, hqk, fun H8 r8 => ⟨_, rfl, ?_⟩⟩
    have hck : chk (memOf (bentL μ n x0)) rq eq = false := hck
    dsimp only
    rw [hck, if_neg (by decide)]
    have r58 : RdX H' H8 := (RdX.ex ((e5.trans e6).trans e7)).trans r8
    exact ⟨_, _, _, rfl, tk.trans (TK.rdx r58), r58.ob _ _ hp' (fun _ z => by cases z) (fun _ _ z => by cases z)⟩
  rintro σ' H4 ⟨x5, x6, x7, rfl, tk4, hPt4⟩
  have tk04 : TK H H4 := (TK.ex (e1.trans e13)).trans tk4
  have hP4 := hP.mono tk04
  have hwd4 := tk4 _ _ hwd3
  refine q_asgP (P := PPt pt1) (ep_pt ev_c ev_c ev_c (eu_tup ea_nil (by decide)) ev_c) fun vp H5 e5 hpt => ?_
  have hP5 := hP4.mono (TK.ex e5)
  refine q_asgLP (Ps := (W1 pl).map PrT) (elp_lst prT_mo (by show 6 ≤ 1000; decide) (eps_cons PrT.mo (ep_told (ep_plan (pl := []) (by decide) eps_nil) (ep_parts (ps := [pt1]) (by decide) (eps_cons PPt.mo (ep_v PPt.mo (ev_var rfl) (PPt.mo _ _ _ (TK.ex (Ex.refl _)) hpt)) eps_nil)) (ep_lnks (ps := []) (by decide) eps_nil) (ep_lns (ps := []) (by decide) eps_nil)) (eps_cons PrT.mo (ep_told (ep_plan (pl := [(2, 1)]) (by decide) (eps_cons PrLk.mo (ep_lk ev_c ev_c) eps_nil)) (ep_parts (ps := [pt1]) (by decide) (eps_cons PPt.mo (ep_v PPt.mo (ev_var rfl) (PPt.mo _ _ _ (TK.ex (Ex.refl _)) hpt)) eps_nil)) (ep_lnks (ps := []) (by decide) eps_nil) (ep_lns (ps := []) (by decide) eps_nil)) (eps_cons PrT.mo (ep_told (ep_plan (pl := [(0, 0)]) (by decide) (eps_cons PrLk.mo (ep_lk ev_c ev_c) eps_nil)) (ep_parts (ps := [pt1]) (by decide) (eps_cons PPt.mo (ep_v PPt.mo (ev_var rfl) (PPt.mo _ _ _ (TK.ex (Ex.refl _)) hpt)) eps_nil)) (ep_lnks (ps := []) (by decide) eps_nil) (ep_lns (ps := []) (by decide) eps_nil)) (eps_cons PrT.mo (ep_told (ep_planR (p := (0, 1)) (n := 5) ⟨by decide, by decide⟩ (ep_lk ev_c ev_c) (fun G' _ => ev_c)) (ep_parts (ps := [pt1]) (by decide) (eps_cons PPt.mo (ep_v PPt.mo (ev_var rfl) (PPt.mo _ _ _ (TK.ex (Ex.refl _)) hpt)) eps_nil)) (ep_lnks (ps := []) (by decide) eps_nil) (ep_lns (ps := []) (by decide) eps_nil)) (eps_cons PrT.mo (ep_told (ep_v PPl.mo (ev_var rfl) (PPl.mo _ _ _ (TK.ex (Ex.refl _)) ⟨pa, rfl, hP5⟩)) (ep_parts (ps := []) (by decide) eps_nil) (ep_lnks (ps := []) (by decide) eps_nil) (ep_lns (ps := []) (by decide) eps_nil)) (eps_cons PrT.mo (ep_told (ep_v PPl.mo (ev_var rfl) (PPl.mo _ _ _ (TK.ex (Ex.refl _)) ⟨pa, rfl, hP5⟩)) (ep_parts (ps := [⟨0, 4, 1, [], 0⟩]) (by decide) (eps_cons PPt.mo (ep_pt ev_c ev_c ev_c (eu_tup ea_nil (by decide)) ev_c) eps_nil)) (ep_lnks (ps := []) (by decide) eps_nil) (ep_lns (ps := []) (by decide) eps_nil)) eps_nil))))))) fun p1 xs1 H6 e6 h6 al6 => ?_
  refine q_asgCat (Ps := (W1 pl).map PrT) (Qs := (W2 pl).map PrT) (by rw [← List.map_append]; exact prT_mo) (by show 6 + 4 ≤ 1000; decide) (ev_var rfl) h6 al6 (fun G g => elp_lst prT_mo (by show 4 ≤ 1000; decide) (eps_cons PrT.mo (ep_told (ep_v PPl.mo (ev_var rfl) (PPl.mo _ _ _ (TK.ex (e6.trans g)) ⟨pa, rfl, hP5⟩)) (ep_parts (ps := [⟨0, 0, 64, [], 0⟩]) (by decide) (eps_cons PPt.mo (ep_pt ev_c ev_c ev_c (eu_tup ea_nil (by decide)) ev_c) eps_nil)) (ep_lnks (ps := []) (by decide) eps_nil) (ep_lns (ps := []) (by decide) eps_nil)) (eps_cons PrT.mo (ep_told (ep_v PPl.mo (ev_var rfl) (PPl.mo _ _ _ (TK.ex (e6.trans g)) ⟨pa, rfl, hP5⟩)) (ep_parts (ps := [⟨0, 0, 1, List.replicate (Int.toNat 65) 0, 0⟩]) (by decide) (eps_cons PPt.mo (ep_pt ev_c ev_c ev_c (eu_is (eu_repT (x := .int 0) (n := 65) ⟨by decide, by decide⟩ (eu_tup (ea_cons ev_c ea_nil) (by show 1 ≤ 100000; decide)) (fun G' _ => ev_c)) List.map_replicate.symm) ev_c) eps_nil)) (ep_lnks (ps := []) (by decide) eps_nil) (ep_lns (ps := []) (by decide) eps_nil)) (eps_cons PrT.mo (ep_told (ep_v PPl.mo (ev_var rfl) (PPl.mo _ _ _ (TK.ex (e6.trans g)) ⟨pa, rfl, hP5⟩)) (ep_parts (ps := [⟨0, 0, 1, [], 26⟩]) (by decide) (eps_cons PPt.mo (ep_pt ev_c ev_c ev_c (eu_tup ea_nil (by decide)) ev_c) eps_nil)) (ep_lnks (ps := []) (by decide) eps_nil) (ep_lns (ps := []) (by decide) eps_nil)) (eps_cons PrT.mo (ep_told (ep_v PPl.mo (ev_var rfl) (PPl.mo _ _ _ (TK.ex (e6.trans g)) ⟨pa, rfl, hP5⟩)) (ep_partsR (p := pt1) (n := 7) ⟨by decide, by decide⟩ (ep_v PPt.mo (ev_var rfl) (PPt.mo _ _ _ (TK.ex (e6.trans g)) hpt)) (fun G' _ => ev_c)) (ep_lnks (ps := []) (by decide) eps_nil) (ep_lns (ps := []) (by decide) eps_nil)) eps_nil))))) fun p2 xs2 H7 e7 h7 al7 => ?_
  refine q_asgCat (Ps := (W1 pl).map PrT ++ (W2 pl).map PrT) (Qs := (W3 pl).map PrT) (by rw [← List.map_append, ← List.map_append]; exact prT_mo) (by show 10 + 4 ≤ 1000; decide) (ev_var rfl) h7 al7 (fun G g => elp_lst prT_mo (by show 4 ≤ 1000; decide) (eps_cons PrT.mo (ep_told (ep_v PPl.mo (ev_var rfl) (PPl.mo _ _ _ (TK.ex ((e6.trans e7).trans g)) ⟨pa, rfl, hP5⟩)) (ep_parts (ps := [pt1]) (by decide) (eps_cons PPt.mo (ep_v PPt.mo (ev_var rfl) (PPt.mo _ _ _ (TK.ex ((e6.trans e7).trans g)) hpt)) eps_nil)) (ep_lnks (ps := [⟨5, 0, 1, 0, 1⟩]) (by decide) (eps_cons PL1.mo (ep_l1 (ea_cons ev_c (ea_cons ev_c (ea_cons ev_c (ea_cons ev_c (ea_cons ev_c ea_nil)))))) eps_nil)) (ep_lns (ps := []) (by decide) eps_nil)) (eps_cons PrT.mo (ep_told (ep_v PPl.mo (ev_var rfl) (PPl.mo _ _ _ (TK.ex ((e6.trans e7).trans g)) ⟨pa, rfl, hP5⟩)) (ep_parts (ps := [pt1]) (by decide) (eps_cons PPt.mo (ep_v PPt.mo (ev_var rfl) (PPt.mo _ _ _ (TK.ex ((e6.trans e7).trans g)) hpt)) eps_nil)) (ep_lnks (ps := [⟨6, 0, 0, 0, 1⟩]) (by decide) (eps_cons PL1.mo (ep_l1 (ea_cons ev_c (ea_cons ev_c (ea_cons ev_c (ea_cons ev_c (ea_cons ev_c ea_nil)))))) eps_nil)) (ep_lns (ps := []) (by decide) eps_nil)) (eps_cons PrT.mo (ep_told (ep_v PPl.mo (ev_var rfl) (PPl.mo _ _ _ (TK.ex ((e6.trans e7).trans g)) ⟨pa, rfl, hP5⟩)) (ep_parts (ps := [pt1]) (by decide) (eps_cons PPt.mo (ep_v PPt.mo (ev_var rfl) (PPt.mo _ _ _ (TK.ex ((e6.trans e7).trans g)) hpt)) eps_nil)) (ep_lnks (ps := [⟨6, 0, 1, 1, 1⟩]) (by decide) (eps_cons PL1.mo (ep_l1 (ea_cons ev_c (ea_cons ev_c (ea_cons ev_c (ea_cons ev_c (ea_cons ev_c ea_nil)))))) eps_nil)) (ep_lns (ps := []) (by decide) eps_nil)) (eps_cons PrT.mo (ep_told (ep_v PPl.mo (ev_var rfl) (PPl.mo _ _ _ (TK.ex ((e6.trans e7).trans g)) ⟨pa, rfl, hP5⟩)) (ep_parts (ps := [pt1]) (by decide) (eps_cons PPt.mo (ep_v PPt.mo (ev_var rfl) (PPt.mo _ _ _ (TK.ex ((e6.trans e7).trans g)) hpt)) eps_nil)) (ep_lnksR (p := ⟨6, 0, 1, 0, 1⟩) (n := 2) ⟨by decide, by decide⟩ (ep_l1 (ea_cons ev_c (ea_cons ev_c (ea_cons ev_c (ea_cons ev_c (ea_cons ev_c ea_nil)))))) (fun G' _ => ev_c)) (ep_lns (ps := []) (by decide) eps_nil)) eps_nil))))) fun p3 xs3 H8 e8 h8 al8 => ?_
  refine q_asgCat (Ps := (W1 pl).map PrT ++ (W2 pl).map PrT ++ (W3 pl).map PrT) (Qs := (W4 pl).map PrT) (by rw [← List.map_append, ← List.map_append, ← List.map_append]; exact prT_mo) (by show 14 + 3 ≤ 1000; decide) (ev_var rfl) h8 al8 (fun G g => elp_lst prT_mo (by show 3 ≤ 1000; decide) (eps_cons PrT.mo (ep_told (ep_v PPl.mo (ev_var rfl) (PPl.mo _ _ _ (TK.ex (((e6.trans e7).trans e8).trans g)) ⟨pa, rfl, hP5⟩)) (ep_parts (ps := [pt1]) (by decide) (eps_cons PPt.mo (ep_v PPt.mo (ev_var rfl) (PPt.mo _ _ _ (TK.ex (((e6.trans e7).trans e8).trans g)) hpt)) eps_nil)) (ep_lnks (ps := [⟨6, 0, 1, 0, 1⟩]) (by decide) (eps_cons PL1.mo (ep_l1 (ea_cons ev_c (ea_cons ev_c (ea_cons ev_c (ea_cons ev_c (ea_cons ev_c ea_nil)))))) eps_nil)) (ep_lns (ps := [⟨0, 0, 1⟩]) (by decide) (eps_cons PN1.mo (ep_n1 (ea_cons ev_c (ea_cons ev_c (ea_cons ev_c ea_nil)))) eps_nil))) (eps_cons PrT.mo (ep_told (ep_v PPl.mo (ev_var rfl) (PPl.mo _ _ _ (TK.ex (((e6.trans e7).trans e8).trans g)) ⟨pa, rfl, hP5⟩)) (ep_parts (ps := [pt1]) (by decide) (eps_cons PPt.mo (ep_v PPt.mo (ev_var rfl) (PPt.mo _ _ _ (TK.ex (((e6.trans e7).trans e8).trans g)) hpt)) eps_nil)) (ep_lnks (ps := [⟨7, 0, 1, 0, 1⟩]) (by decide) (eps_cons PL1.mo (ep_l1 (ea_cons ev_c (ea_cons ev_c (ea_cons ev_c (ea_cons ev_c (ea_cons ev_c ea_nil)))))) eps_nil)) (ep_lns (ps := [⟨4, 0, 1⟩]) (by decide) (eps_cons PN1.mo (ep_n1 (ea_cons ev_c (ea_cons ev_c (ea_cons ev_c ea_nil)))) eps_nil))) (eps_cons PrT.mo (ep_told (ep_v PPl.mo (ev_var rfl) (PPl.mo _ _ _ (TK.ex (((e6.trans e7).trans e8).trans g)) ⟨pa, rfl, hP5⟩)) (ep_parts (ps := [pt1]) (by decide) (eps_cons PPt.mo (ep_v PPt.mo (ev_var rfl) (PPt.mo _ _ _ (TK.ex (((e6.trans e7).trans e8).trans g)) hpt)) eps_nil)) (ep_lnks (ps := [⟨7, 0, 1, 0, 1⟩]) (by decide) (eps_cons PL1.mo (ep_l1 (ea_cons ev_c (ea_cons ev_c (ea_cons ev_c (ea_cons ev_c (ea_cons ev_c ea_nil)))))) eps_nil)) (ep_lns (ps := [⟨0, 0, 0⟩]) (by decide) (eps_cons PN1.mo (ep_n1 (ea_cons ev_c (ea_cons ev_c (ea_cons ev_c ea_nil)))) eps_nil))) eps_nil)))) fun p4 xs4 H9 e9 h9 al9 => ?_
  have al9 : Al ((WR pl).map PrT) xs4 H9 := by
    unfold WR
    rw [List.map_append, List.map_append, List.map_append]
    exact al9
  have e59 := ((e6.trans e7).trans e8).trans e9
  have hPt9 := (e5.trans e59) _ _ hPt4
  have hwd9 := (e5.trans e59) _ _ hwd4
  have tk09 : TK H H9 := tk04.trans (TK.ex (e5.trans e59))
  clear hpt
  refine q_forL (K := K) (a := p4) (xs := xs4) (ev_var rfl) (sq_of h9) (fun i σ' H' => ∃ x10, σ' = [some (.ref m), some (.ref pa), some (.ref qa), some (.ref wd), some (.ref ra), x5, x6, x7, some vp, some (.ref p4), x10] ∧ TK H9 H' ∧ H' p4 = some (.lst xs4) ∧ LamX.Tabs TL H') (fun H10 e10 => ⟨none, rfl, TK.ex e10, e10 _ _ h9, (hTabs hPt9).ext e10⟩) (fun i σ' H' _ ⟨_, _, _, h, _⟩ => sq_of h) ?_ ?_
  · rintro i x σ' H' hx ⟨x10, rfl, tk, hp4', hPt'⟩
    obtain ⟨P', hP', hv⟩ := al9.at hx
    rw [List.getElem?_map] at hP'
    obtain ⟨t, ht, rfl⟩ : ∃ t, (WR pl)[i]? = some t ∧ P' = PrT t := by
      cases hc : (WR pl)[i]? with
      | none => rw [hc] at hP'; cases hP'
      | some t => rw [hc] at hP'; exact ⟨t, rfl, (Option.some.inj hP').symm⟩
    obtain ⟨hok, hnone⟩ := hW t (List.mem_of_getElem? ht)
    obtain ⟨ta, a1, a2, a3, a4, rfl, hta, t1, t2, t3, t4⟩ := PrT.mo _ _ _ tk hv
    dsimp only
    refine ⟨hPt', fun H10 e10 tb10 => ?_⟩
    have tk10 : TK H' H10 := fun b xs h => e10 _ _ h (fun _ z => by cases z)
    have hta10 := tk10 _ _ hta
    have argA : EvA (tCons (tOp (rIxT K) (tVar 10) (tC (V.int 0))) (tCons (tOp (rIxT K) (tVar 10) (tC (V.int 1))) (tCons (tOp (rIxT K) (tVar 10) (tC (V.int 2))) (tCons (tOp (rIxT K) (tVar 10) (tC (V.int 3))) tNil)))) [some (.ref m), some (.ref pa), some (.ref qa), some (.ref wd), some (.ref ra), x5, x6, x7, some vp, some (.ref p4), some (.ref ta)] H10 [.ref a1, .ref a2, .ref a3, .ref a4] := ea_cons (ev_op (ev_var rfl) ev_c (Evl.rv_ixT (st_of hta10) (atI_nat (j := 0) rfl))) (ea_cons (ev_op (ev_var rfl) ev_c (Evl.rv_ixT (st_of hta10) (atI_nat (j := 1) rfl))) (ea_cons (ev_op (ev_var rfl) ev_c (Evl.rv_ixT (st_of hta10) (atI_nat (j := 2) rfl))) (ea_cons (ev_op (ev_var rfl) ev_c (Evl.rv_ixT (st_of hta10) (atI_nat (j := 3) rfl))) ea_nil)))
    unfold TTref
    dsimp only
    refine callA argA fun H11 e11 => ⟨a1, a2, a3, a4, t.pl, t.ps, t.lk, t.ln, rfl, (t1.mono tk10).mono (TK.ex e11), (t2.mono tk10).mono (TK.ex e11), (t3.mono tk10).mono (TK.ex e11), (t4.mono tk10).mono (TK.ex e11), hok, fun _ H12 e12 => ⟨true, T.exm_InvalidBoot, fun _ => ⟨true, rfl, ?_⟩, fun z => by cases z⟩, fun μ' hs => by rw [hnone] at hs; cases hs⟩
    rw [if_neg (by decide)]
    exact ⟨_, rfl, (tk.trans tk10).trans (TK.ex (e11.trans e12)), (e11.trans e12) _ _ (e10 _ _ hp4' (fun _ z => by cases z)), tb10.ext (e11.trans e12)⟩
  rintro σ' H10 ⟨x10, rfl, tk, _, _⟩
  refine s_ret (ev_is (ev_andV (a := true) (b := true) (ev_is (ev_op (ev_lenT (K := K) (ev_var rfl) (st_of (tk _ _ hwd9))) (ev_op ev_c ev_c (rv_I (.inl ⟨by decide, by decide⟩))) (rv_eq rfl)) (by rw [lW_len]; rfl)) fun _ => ev_is (ev_op (ev_lenT (K := K) (ev_var rfl) (st_of (tk _ _ (tk09 _ _ hq1)))) ev_c rv_I0) (by rw [hq2, decide_eq_true (show (ps.length : Int) < 4 by omega)])) rfl) fun H11 _ => k H11
end
end KX

namespace KX
open KA KQ KD
open PySem PySem.Spec PyProof.Rows L2 Evl TL
theorem exists_list {α : Type} (x0 : α) {R : Nat → α → Prop} : ∀ n : Nat, (∀ i, i < n → ∃ y, R i y) → ∃ ys : List α, ys.length = n ∧ ∀ i, i < n → R i (ys.getD i x0)
  | 0, _ => ⟨[], rfl, fun i hi => absurd hi (Nat.not_lt_zero i)⟩
  | n + 1, h => by
    obtain ⟨ys, hl, hy⟩ := exists_list x0 n fun i hi => h i (Nat.lt_succ_of_lt hi)
    obtain ⟨y, hn⟩ := h n (Nat.lt_succ_self n)
    refine ⟨ys ++ [y], by simp [hl], fun i hi => ?_⟩
    by_cases e : i = n
    · subst e
      rw [List.getD_eq_getElem?_getD, List.getElem?_append_right (by omega), hl, Nat.sub_self]
      exact hn
    · rw [List.getD_eq_getElem?_getD, List.getElem?_append_left (by omega), ← List.getD_eq_getElem?_getD]
      exact hy i (by omega)
section
variable {σ : L2.St} {H H0 : Hp} {K : PySem.W.Frag} {D : Ends} {d ca : Addr} {te tn ta tb : TE} {tz : TS}
theorem TK.frd {H' : Hp} (f : FrD d H H') (h : TapeAt H d ca) : TK H H' := fun b xs hb => by
  obtain ⟨cs, at_, l, s, t, h1, _⟩ := h.ex
  exact f b _ hb (ne_of hb h1 (by intro z; cases z))
def DrV (te : TE) (σ : L2.St) (d ca : Addr) (H0 : Hp) (P : Pr) : Prop := ∀ (H : Hp) (Q : VK), FrD d H0 H → TapeAt H d ca → (∀ v H', P v H' → TapeAt H' d ca → FrD d H H' → Q v H') → te σ H Q
theorem dv_int {P : Int → Prop} (h : Dr te σ d ca P) : DrV te σ d ca H0 (fun v _ => ∃ x, v = .int x ∧ P x) := fun H Q _ hT q => h H Q hT fun v H' p hT' f => q _ H' ⟨v, rfl, p⟩ hT' f
/-- a list of what is drawn, as many as are drawn -/
theorem dl_lcRD {j : Nat} {vs : List Nat} {P : Nat → Pr} {Pn : Int → Prop} (hP : ∀ i, Mo (P i)) (hn : Dr tn σ d ca (fun n => 0 ≤ n ∧ n ≤ 40000 ∧ Pn n)) (hw : ∀ x, wipe ((wipe σ vs).set j (some x)) vs = wipe σ vs)
    (he : ∀ i : Nat, DrV te ((wipe σ vs).set j (some (.int (i : Int)))) d ca H (P i)) (Q : VK) (hT : TapeAt H d ca)
    (q : ∀ p H' (n : Int) (xs : List V), H p = none → Pn n → xs.length = n.toNat → (∀ i v, xs[i]? = some v → P i v H') → TapeAt H' d ca → FrD d H H' → H' p = some (.lst xs) → Q (.ref p) H') : tLc (iRng1 (tCons tn tNil)) (gName j) tYes te vs σ H Q :=
  hn H _ hT fun n H1 ⟨n0, n1, pn⟩ hT1 f1 => ⟨n, rfl, by omega, by omega, fun Dl hD => by
    have hDl0 : H Dl = none := by
      cases e : H Dl with
      | none => rfl
      | some o =>
        have nd := (hT1.ne hD).1
        rw [f1 _ _ e nd] at hD
        cases hD
    refine lc_range (lo := 0) (n := n.toNat) (fun i H' => ∃ xs : List V, xs.length = i ∧ (∀ k v, xs[k]? = some v → P k v H') ∧ TapeAt H' d ca ∧ FrD d H H' ∧ H' Dl = some (.lst xs))
      ⟨[], rfl, (fun k v h => by cases h), hT1.keep (Ex.new hD), f1.trans (FrD.of (Ex.new hD)), upd_same⟩
      (fun i H' hi ⟨xs, hl, hx, hT', f, hDl⟩ => ?_) (fun H' ⟨xs, hl, hx, hT', f, hDl⟩ => q Dl H' n xs hDl0 pn hl hx hT' f hDl)
    have e0 : (0 : Int) + (i : Int) = (i : Int) := Int.zero_add _
    show wipe ((wipe σ vs).set j (some (.int ((0 : Int) + (i : Int))))) vs = wipe σ vs ∧ te ((wipe σ vs).set j (some (.int ((0 : Int) + (i : Int))))) H' fun y H4 => ∃ acc, H4 Dl = some (.lst acc) ∧ acc.length < sizeLine ∧ _
    rw [e0]
    have nn := hT1.ne hD
    refine ⟨hw _, he i H' _ f hT' fun v H4 pv hT4 f4 => ⟨xs, f4 _ _ hDl nn.1, sz_lt (by omega), xs ++ [v], by simp [hl], fun k u hk => ?_, hT4.upd nn.1 nn.2, ?_, by rw [upd_same]⟩⟩
    · have h4 := f4 _ _ hDl nn.1
      have tk2 : TK H4 (L2.upd H4 Dl (.lst (xs ++ [v]))) := fun b ys hb => by rw [upd_ne (ne_of hb h4 (by intro z; cases z))]; exact hb
      by_cases e : k < xs.length
      · rw [List.getElem?_append_left e] at hk
        exact hP k _ _ _ ((TK.frd f4 hT').trans tk2) (hx k u hk)
      · have hk2 := List.getElem?_eq_some_iff.mp hk
        have : k = xs.length := by
          have h3 := hk2.1
          rw [List.length_append] at h3
          simp at h3
          omega
        subst this
        rw [List.getElem?_append_right (Nat.le_refl _), Nat.sub_self] at hk
        cases hk
        rw [hl]
        exact hP i _ _ _ tk2 pv
    · intro b o hb hne
      have nb : b ≠ Dl := fun z => by rw [z, hDl0] at hb; cases hb
      rw [upd_ne nb]
      exact f4 _ _ (f _ _ hb hne) hne⟩
theorem q_forRD {j : Nat} {m : Int} {Pn : Int → Prop} (hn : Dr tn σ d ca Pn) (hm : ∀ n, Pn n → 0 ≤ n ∧ n < m) (hm1 : m ≤ 100000) (hT : TapeAt H d ca) (Pv : Nat → L2.St → Hp → Prop) (h0 : ∀ H1, TapeAt H1 d ca → FrD d H H1 → Pv 0 σ H1)
    (hs : ∀ (i : Nat) σ' H', (i : Int) < m → Pv i σ' H' → tu { D with nx := Pv (i + 1), ct := Pv (i + 1), bk := tz D } (σ'.set j (some (.int (i : Int)))) H') (hd : ∀ i σ' H', Pv i σ' H' → tz D σ' H') : tSeq (tFor (iRng1 (tCons tn tNil)) (gName j) tu) tz D σ H :=
  hn H _ hT fun n H1 pn hT1 f1 => ⟨n, rfl, by have := hm n pn; omega, by have := hm n pn; omega, for_range (D := { D with nx := tz D }) (lo := 0) (n := n.toNat) Pv (h0 H1 hT1 f1) (fun i σ' H' hi p => by
    have e0 : (0 : Int) + (i : Int) = (i : Int) := Int.zero_add _
    show tu { D with nx := Pv (i + 1), ct := Pv (i + 1), bk := tz D } (σ'.set j (some (.int ((0 : Int) + (i : Int))))) H'
    rw [e0]
    exact hs i σ' H' (by have := hm n pn; omega) p) (hd _)⟩
end
end KX

namespace KA
open PySem PySem.Spec PyProof.Rows L2 Evl TL
section
variable {P : Program} {w : World} {K : PySem.W.Frag} {mg : Str → Option Value} {base : Heap}
def mdom (μ : Mem) : Int := μ (ix 0 (24 + μ (ix 0 1))) / 256
def sp_domain_now (K : PySem.W.Frag) : Sp := fun vs H Q _ => ∃ (m wl : Addr) (μ : Mem), vs = [.ref m] ∧ MemAt K H m wl μ ∧ 0 ≤ μ (ix 0 1) ∧ μ (ix 0 1) < 4 ∧ ∀ H', Ex H H' → Q (.int (mdom μ)) H'
theorem ok_domain_now (T : Txt K mg) : FnOk P w K mg base CX0 2 (f_domain_now K) (fd_domain_now K) ["memory"] (sp_domain_now K) := by
  refine T.fn_domain_now.ok sc_domain_now (fun vs H Q E h => ?_) (fun cdv A outer s H vs Q E hr h => ⟨_, PSs.nox (pss_one (ps_ret (pe_op op_fdiv (pe_meth (pv 0) (T.cl_Memory) (T.mt_Memory_word) (ok_Memory_word T) (hr.mono (by decide)) (T.bd_Memory_word) .nil pass0 (pa_cons (T.pg_KERNEL) (pa_cons (pe_op op_add (T.pg_K_PLAN) (pe_meth (pv 0) (T.cl_Memory) (T.mt_Memory_word) (ok_Memory_word T) (hr.mono (by decide)) (T.bd_Memory_word) .nil pass0 (pa_cons (T.pg_KERNEL) (pa_cons (T.pg_K_PART) pa_nil)))) pa_nil))) pe_int))), ?_⟩)
  · obtain ⟨_, _, _, rfl, _⟩ := h
    rfl
  · obtain ⟨m, wl, μ, rfl, hM, h1, h2, k⟩ := h
    exact s_ret (ev_op (ev_word hM (ev_var rfl) ev_c (ev_op ev_c (ev_word hM (ev_var rfl) ev_c ev_c (by omega)) rv_I0) (by omega)) ev_c (rv_I ⟨by decide, by decide⟩)) k
section
variable {σ : L2.St} {H : Hp} {D : Ends}
theorem q_forR3 {ta : TA} {g : TG} {tu tz : TS} {lo hi c : Int} {n : Nat} (h : EvA ta σ H [.int lo, .int hi, .int c]) (hr : RgC lo hi c n) (Pv : Nat → L2.St → Hp → Prop) (h0 : ∀ H1, Ex H H1 → Pv 0 σ H1)
    (hs : ∀ (i : Nat) σ' H', i < n → Pv i σ' H' → g (.int (lo + (i : Nat) * c)) σ' H' fun σ2 H2 => tu { D with nx := Pv (i + 1), ct := Pv (i + 1), bk := tz D } σ2 H2) (hd : ∀ σ' H', Pv n σ' H' → tz D σ' H') : tSeq (tFor (iRng3 ta) g tu) tz D σ H :=
  h H (Ex.refl H) _ fun H1 e => ⟨lo, hi, c, n, rfl, hr, for_rangeC (D := { D with nx := tz D }) Pv (h0 H1 e) hs hd⟩
end
/-! ### who goes -/
def mhead (μ : Mem) (n : Int) : Int := μ (ix 0 (4 + mdom μ * 4 + n))
/-- the first of the numbers 3 - i, .., 0 whose queue is not empty -/
def mfrom (μ : Mem) : Nat → Option Int
  | 0 => none
  | k + 1 => if mhead μ (k : Int) ≠ 0 then some (mhead μ (k : Int) - 1) else mfrom μ k
def sp_chosen (K : PySem.W.Frag) : Sp := fun vs H Q _ => ∃ (m wl : Addr) (μ : Mem), vs = [.ref m] ∧ MemAt K H m wl μ ∧ 0 ≤ μ (ix 0 1) ∧ μ (ix 0 1) < 4 ∧ 0 ≤ mdom μ ∧ mdom μ < 2 ∧ ∀ H', Ex H H' → Q (oI (mfrom μ 4)) H'
theorem ok_chosen (T : Txt K mg) : FnOk P w K mg base CX0 3 (f_chosen K) (fd_chosen K) ["memory"] (sp_chosen K) := by
  refine T.fn_chosen.ok sc_chosen (fun vs H Q E h => ?_) (fun cdv A outer s H vs Q E hr h => ⟨_, PSs.nox (pss_cons (ps_set (i := 1) sc_chosen.nd rfl (Or.inl rfl) (pe_call (ok_domain_now T) (hr.mono (by decide)) (by rfl) (T.glo_domain_now) (T.kp_domain_now) (T.bd_domain_now) .nil pass0 (pa_cons (pv 0) pa_nil))) (pss_cons (ps_for PassesOwn.never rfl (pi_range3 (by rfl) T.free_range (pa_cons (pe_op op_sub (T.pg_PRIORITIES) pe_int) (pa_cons (pe_un un_neg pe_int) (pa_cons (pe_un un_neg pe_int) pa_nil)))) (pg_name (i := 2) sc_chosen.nd rfl (Or.inl rfl)) (pss_cons (ps_set (i := 3) sc_chosen.nd rfl (Or.inl rfl) (pe_meth (pv 0) (T.cl_Memory) (T.mt_Memory_word) (ok_Memory_word T) (hr.mono (by decide)) (T.bd_Memory_word) .nil pass0 (pa_cons (T.pg_KERNEL) (pa_cons (pe_op op_add (pe_op op_add (T.pg_K_HEADS) (pe_op op_mul (pv 1) (T.pg_PRIORITIES))) (pv 2)) pa_nil)))) (pss_one (ps_if (pt_truth (pv 3) (by intro _; rfl)) (pss_one (ps_ret (pe_op op_sub (pv 3) pe_int))) pss_nil)))) (pss_one (ps_ret pe_non)))), ?_⟩)
  · obtain ⟨_, _, _, rfl, _⟩ := h
    rfl
  · obtain ⟨m, wl, μ, rfl, hM, h1, h2, h3, h4, k⟩ := h
    refine q_asg (ev_pure (z := .int (mdom μ)) (ea_cons (ev_var rfl) ea_nil) fun H1 e Q q => ⟨m, wl, μ, rfl, hM.keep e, h1, h2, q⟩) fun H1 e1 => ?_
    have hM1 := hM.keep e1
    obtain ⟨r4, hr4⟩ : ∃ r4, r4 = mfrom μ 4 := ⟨_, rfl⟩
    rw [← hr4] at k
    refine q_forR3 (lo := 3) (c := -1) (n := 4) (ea_cons (ev_is (ev_op ev_c ev_c rv_I0) rfl) (ea_cons (ev_is (ev_un ev_c ru_neg) rfl) (ea_cons (ev_is (ev_un ev_c ru_neg) rfl) ea_nil))) (RgC.neg (i := 3) (j := -1) (by decide) (by decide) (by decide) (by decide)) (fun i σ' H' => ∃ x2 x3, σ' = [some (.ref m), some (.int (mdom μ)), x2, x3] ∧ Ex H1 H' ∧ i ≤ 4 ∧ r4 = mfrom μ (4 - i)) (fun H2 e2 => ⟨none, none, rfl, e2, by decide, hr4⟩) ?_ ?_
    · rintro i σ' H' hi ⟨x2, x3, rfl, eH, _, hc⟩
      have hM2 := hM1.keep eH
      have en : (3 : Int) + (i : Int) * (-1) = ((3 - i : Nat) : Int) := by omega
      rw [en]
      have hsub : 4 - i = (3 - i) + 1 := by omega
      rw [hsub, mfrom] at hc
      refine q_asg (ev_word hM2 (ev_var rfl) ev_c (ev_op (ev_op ev_c (ev_op (ev_var rfl) ev_c (rv_I (.inr ⟨by decide, by decide⟩))) rv_I0) (ev_var rfl) rv_I0) (by omega)) fun H3 e3 => ?_
      refine s_when (et_truI (ev_var rfl)) (fun hb H4 e4 => ?_) (fun hb H4 e4 => ?_)
      · have hne : mhead μ ((3 - i : Nat) : Int) ≠ 0 := of_decide_eq_true hb
        rw [if_pos hne] at hc
        refine s_ret (v := oI r4) (ev_is (ev_op (ev_var rfl) ev_c rv_I0) (by rw [hc]; rfl)) fun H5 e5 => k H5 ((((e1.trans eH).trans e3).trans e4).trans e5)
      · have hne : ¬ mhead μ ((3 - i : Nat) : Int) ≠ 0 := of_decide_eq_false hb
        rw [if_neg hne] at hc
        refine ⟨_, _, rfl, (eH.trans e3).trans e4, by omega, ?_⟩
        rw [hc]
        congr 1
        omega
    · rintro σ' H' ⟨x2, x3, rfl, eH, _, hc⟩
      refine s_ret (v := oI r4) (ev_is ev_c (by rw [hc]; rfl)) fun H5 e5 => k H5 ((e1.trans eH).trans e5)
end
end KA

namespace KX
open KA KQ KD
open PySem PySem.Spec PyProof.Rows L2 Evl TL
section
variable {X : Cx}
/-- max of a list of pairs of ints: the first of the greatest -/
def rMaxP (K : PySem.W.Frag) : List V → Hp → VK → Prop := fun vs H Q => ∃ (a : Addr) (p : Addr × (Int × Int)) (ps : List (Addr × (Int × Int))), vs = [.ref a] ∧ SqL K H a ((p :: ps).map fun q => V.ref q.1) ∧
  (∀ q ∈ p :: ps, SqT K H q.1 [.int q.2.1, .int q.2.2]) ∧ ∀ q ∈ p :: ps, q.2 = PySem.W.maxOf p.2 (ps.map (·.2)) → Q (.ref q.1) H
theorem dpAll_pairs {K : PySem.W.Frag} {H : Hp} : ∀ {ps : List (Addr × (Int × Int))}, (∀ q ∈ ps, SqT K H q.1 [.int q.2.1, .int q.2.2]) → DpAll K H (ps.map fun q => V.ref q.1) ((ps.map (·.2)).map PySem.W.Datum.toD)
  | [], _ => .nil
  | p :: ps, h => .cons (.tup (h p List.mem_cons_self) (.cons (.int _) (.cons (.int _) .nil))) (dpAll_pairs fun q hq => h q (List.mem_cons_of_mem _ hq))
theorem toD_inj {x y : Int × Int} (h : (PySem.W.Datum.toD x : PyData) = PySem.W.Datum.toD y) : x = y := by
  have e := PySem.W.Datum.eqv x y
  rw [h, PySem.W.Datum.eqv y y, decide_eq_true (rfl : y = y)] at e
  exact of_decide_eq_true e.symm
theorem vals_at : ∀ {xs : List V} {us : List Value} {i : Nat} {u : Value}, Vals xs us → us[i]? = some u → ∃ x, xs[i]? = some x ∧ RelV x u
  | [], _, _, _, .nil, h => by simp at h
  | x :: xs, _, 0, _, .cons r rs, h => ⟨x, rfl, by cases h; exact r⟩
  | x :: xs, _, i + 1, _, .cons r rs, h => vals_at (i := i) rs (by simpa using h)
theorem cr_maxP (hc : X.calm = true) (hu : X.A.units + 64 < cLine) : CallR X (.builtin "max") (rMaxP X.K) := by
  intro pins s σ H vs us Q I r h
  obtain ⟨a, p, ps, rfl, hs, hp, q⟩ := h
  obtain ⟨its, rv, hl, _⟩ := I.list hs
  rw [Vals.ref1 r]
  obtain ⟨as, rs⟩ := Dp.readsAll I _ _ _ (dpAll_pairs hp) rv
  refine PySem.W.max_list_datum (α := Int × Int) (x := p.2) (xs := ps.map (·.2)) (I.ok.hd hc) hl.isList ⟨as, by simpa using rs⟩ (by show X.A.units + 1 + 1 < _; omega) fun i v h' tk hi hh hk => ?_
  have hi' : its[i]? = some v := by simpa using hi
  obtain ⟨x, hx, rx⟩ := vals_at rv hi'
  rw [List.getElem?_map] at hx
  cases e : (p :: ps)[i]? with
  | none => rw [e] at hx; cases hx
  | some t =>
    rw [e] at hx
    obtain rfl : V.ref t.1 = x := Option.some.inj hx
    obtain rfl : v = Value.ref t.1 := rx
    have ht := List.mem_of_getElem? e
    have I' : Inv X pins σ H { s with heap := h', toks := tk } := I.kept hk
    obtain ⟨bs, rd⟩ := Dp.reads I' (PySem.W.Datum.toD t.2) (.ref t.1) (.ref t.1) (.tup (hp t ht) (.cons (.int _) (.cons (.int _) .nil))) rfl
    obtain ⟨cs, rm⟩ := hh
    have eq := PySem.SeqAt.Reads.unique _ _ _ _ _ (by show PyData.canLay0 (.tuple [.int t.2.1, .int t.2.2]) = true; simp [PyData.canLay0, PyData.canLayAll0]) rd rm
    exact ⟨.ref t.1, H, I', rfl, q t ht (toD_inj eq)⟩
end
end KX

namespace KX
open KA KQ KD
open PySem PySem.Spec PyProof.Rows L2 Evl TL
/-! ### data compared -/
/-- rows of ints, as data -/
def rowsP (rows : List (List Int)) : List PyData := rows.map fun r => .tuple ((r.map V.int).map pd)
theorem lay_rows : ∀ rows : List (List Int), PyData.canLayAll0 (rowsP rows) = true ∧ PyData.depthAll (rowsP rows) ≤ 1
  | [] => ⟨by simp [rowsP, PyData.canLayAll0], by simp [rowsP, PyData.depthAll]⟩
  | r :: rows => by
    obtain ⟨h1, h2⟩ := lay_rows rows
    obtain ⟨h3, h4⟩ := canLay_flat (ints_flat r)
    show PyData.canLayAll0 (PyData.tuple ((r.map V.int).map pd) :: rowsP rows) = true ∧ PyData.depthAll (PyData.tuple ((r.map V.int).map pd) :: rowsP rows) ≤ 1
    rw [PyData.canLayAll0, PyData.depthAll, PyData.canLay0, PyData.depth, h1, h3, h4]
    exact ⟨rfl, by omega⟩
theorem sh_rows (rows : List (List Int)) : SeqAt.shaped (.tuple (rowsP rows)) = true := by
  obtain ⟨h1, h2⟩ := lay_rows rows
  unfold SeqAt.shaped
  rw [PyData.canLay0, PyData.depth, h1, Bool.true_and]
  exact decide_eq_true (by omega)
section
variable {K : PySem.W.Frag} {H : Hp}
theorem dp_rows : ∀ {ts : List V} {rows : List (List Int)}, ts.length = rows.length → (∀ (i : Nat) v, ts[i]? = some v → ∃ t, v = .ref t ∧ H t = some (.tup ((rows.getD i []).map V.int))) → DpAll K H ts (rowsP rows)
  | [], [], _, _ => .nil
  | [], _ :: _, h, _ => by cases h
  | _ :: _, [], h, _ => by cases h
  | v :: ts, r :: rows, hl, h => by
    obtain ⟨t, rfl, ht⟩ := h 0 v rfl
    refine .cons (dp_tup (st_of ht) (ints_flat r)) (dp_rows (by simpa using hl) fun i v hv => h (i + 1) v hv)
/-- equal values, by their data -/
theorem rv_dp {x y : V} {d : PyData} (hx : ∀ H1, Ex H H1 → Dp K H1 x d) (hy : ∀ H1, Ex H H1 → Dp K H1 y d) (hs : SeqAt.shaped d = true) : RV (rNeD K) x y H (.bl false) := fun H1 e Q q =>
  ⟨d, d, hx H1 e, hy H1 e, hs, hs, by rw [same_of_shaped hs]; exact q H1 (Ex.refl H1)⟩
theorem dp_i {i : Int} : Dp K H (.int i) (.int i) := .int i
theorem sh_i {i : Int} : SeqAt.shaped (.int i) = true := by
  unfold SeqAt.shaped
  simp [PyData.canLay0, PyData.depth]
theorem sh_n : SeqAt.shaped .none = true := by
  unfold SeqAt.shaped
  simp [PyData.canLay0, PyData.depth]
theorem ne_int {i j : Int} (h : i = j) : RV (rNeD K) (.int i) (.int j) H (.bl false) := by
  subst h
  exact rv_dp (fun _ _ => .int i) (fun _ _ => .int i) sh_i
theorem ne_non : RV (rNeD K) .non .non H (.bl false) := rv_dp (fun _ _ => .non) (fun _ _ => .non) sh_n
theorem ne_ints {a b : Addr} {xs : List Int} (ha : H a = some (.tup (xs.map V.int))) (hb : H b = some (.tup (xs.map V.int))) : RV (rNeD K) (.ref a) (.ref b) H (.bl false) := ne_tup (st_of ha) (st_of hb) (ints_flat xs)
/-- the plan -/
theorem dp_plan {a : Addr} {pl : List (Int × Int)} (h : PlanAt H a pl) : Dp K H (.ref a) (.tuple (rowsP (pl.map fun p => [p.1, p.2]))) := by
  obtain ⟨vs, h1, h2, h3⟩ := h
  refine .tup (st_of h1) (dp_rows (by rw [List.length_map, h2]) fun i v hv => ?_)
  obtain ⟨t, e, ht⟩ := h3 i v hv
  have hi : i < pl.length := by rw [← h2]; exact (List.getElem?_eq_some_iff.mp hv).1
  refine ⟨t, e, ?_⟩
  have hp := List.getElem?_eq_getElem hi
  rw [ht, getD_at hp, getD_at (x := [(pl[i]).1, (pl[i]).2]) (by rw [List.getElem?_map, hp]; rfl)]
  rfl
theorem hd_plan {S : List Addr} {v : V} {pl : List (Int × Int)} (h : HD S H v (.tup (pl.map fun p => .tup [.int p.1, .int p.2]))) : ∃ a, v = .ref a ∧ PlanAt H a pl := by
  obtain ⟨a, vs, rfl, h1, _, h2⟩ := h.tup_inv
  refine ⟨a, rfl, vs, h1, by rw [h2.len, List.length_map], fun i v hv => ?_⟩
  obtain ⟨d, e1, e2⟩ := h2.at hv
  rw [List.getElem?_map] at e1
  cases hp : pl[i]? with
  | none => rw [hp] at e1; cases e1
  | some p =>
    rw [hp] at e1
    cases e1
    obtain ⟨t, us, rfl, h3, _, h4⟩ := e2.tup_inv
    cases HDs.ints_inv (xs := [p.1, p.2]) h4
    exact ⟨t, rfl, by rw [h3, getD_at hp]; rfl⟩
theorem ne_plan {a b : Addr} {pl : List (Int × Int)} (ha : PlanAt H a pl) (hb : PlanAt H b pl) : RV (rNeD K) (.ref a) (.ref b) H (.bl false) := rv_dp (fun H1 e => dp_plan (ha.mono (TK.ex e))) (fun H1 e => dp_plan (hb.mono (TK.ex e))) (sh_rows _)
/-- rows of a dict, as data in the heap -/
def rowsOf (L : List (Nat × List Int)) : List (Key × DD) := L.map fun p => ((Sum.inl (p.1 : Int) : Key), DD.tup (p.2.map DD.int))
end
section
variable {σ : L2.St} {H : Hp} {K : PySem.W.Frag} {td ty tu tv : TE} {ta tb : TA}
theorem eo_S {xs : List V} {a : Addr} (h : Ev td σ H (.ref a)) (ha : H a = some (.tup xs)) : EvS td σ H xs := es_ev h ha
/-- d != {0: (..), 1: (..)}: no -/
theorem ev_neD2 {S : List Addr} {d : Addr} {kvs : List (Key × V)} {xs ys : List Int} (hd : Ev td σ H (.ref d)) (hk : H d = some (.dK kvs)) (hv : HDk S H kvs [(Sum.inl 0, .tup (xs.map DD.int)), (Sum.inl 1, .tup (ys.map DD.int))]) (h1 : EvA ta σ H (xs.map V.int)) (h2 : EvA tb σ H (ys.map V.int)) (lx : xs.length ≤ 1000) (ly : ys.length ≤ 1000) :
    Ev (tOp (rNeDD K) td (tDisp [(tC (.int 0), tTup ta), (tC (.int 1), tTup tb)])) σ H (.bl false) := fun H1 e1 Q q => hd H1 e1 _ fun H2 e2 p hp => by
  have e3 : Ex H2 (upd H2 p (.dK [])) := Ex.new hp
  have e13 := (e1.trans e2).trans e3
  have hp3 : (upd H2 p (.dK [])) p = some (.dK []) := upd_same
  have hpH : H p = none := fresh_back (e1.trans e2) hp
  generalize upd H2 p (.dK []) = H3 at e3 e13 hp3 ⊢
  unfold tPairs
  dsimp only [tC]
  refine (eu_tup h1 (by rw [List.length_map]; omega) : EvU _ σ H _) H3 e13 _ fun a H4 ha e4 h4 => ?_
  unfold tPairs
  dsimp only [tC]
  refine (eu_tup h2 (by rw [List.length_map]; omega) : EvU _ σ H _) H4 (e13.trans e4) _ fun b H5 hb e5 h5 => ?_
  have hp5 := (e4.trans e5) _ _ hp3
  refine ⟨hp5, [(Sum.inl 0, .ref a), (Sum.inl 1, .ref b)], rfl, (by show 2 ≤ 15; decide), ?_⟩
  have hm : mergeK [] [((Sum.inl 0 : Key), V.ref a), (Sum.inl 1, V.ref b)] = [(Sum.inl 0, .ref a), (Sum.inl 1, .ref b)] := rfl
  rw [hm]
  have e15 := (e13.trans e4).trans e5
  have e16 : Ex H (upd H5 p (.dK [(Sum.inl 0, .ref a), (Sum.inl 1, .ref b)])) := Ex.mut e15 hpH
  have tk5 : TK H5 (upd H5 p (.dK [(Sum.inl 0, .ref a), (Sum.inl 1, .ref b)])) := fun c xs hb => by rw [upd_ne (ne_of hb hp5 (by intro z; cases z))]; exact hb
  have a6 := tk5 _ _ (e5 _ _ h4)
  have b6 := tk5 _ _ h5
  have hv6 := hv.ex e16
  have e26 : Ex H1 (upd H5 p (.dK [(Sum.inl 0, .ref a), (Sum.inl 1, .ref b)])) := Ex.mut (((e2.trans e3).trans e4).trans e5) (fresh_back e2 hp)
  have p6 : (upd H5 p (.dK [(Sum.inl 0, .ref a), (Sum.inl 1, .ref b)])) p = some (.dK [(Sum.inl 0, .ref a), (Sum.inl 1, .ref b)]) := upd_same
  generalize upd H5 p (.dK [(Sum.inl 0, .ref a), (Sum.inl 1, .ref b)]) = H6 at *
  have hl : kvs.length = 2 := hv6.len
  refine ⟨d, p, kvs, [(Sum.inl 0, .ref a), (Sum.inl 1, .ref b)], rfl, rfl, e16 _ _ hk, p6, hl, fun r hr => ?_, q H6 e26⟩
  cases hv6 with
  | cons g1 hv6 =>
  cases hv6 with
  | cons g2 hv6 =>
  cases hv6
  obtain ⟨c1, us, rfl, k1, _, w1⟩ := g1.tup_inv
  cases w1.ints_inv
  obtain ⟨c2, us, rfl, k2, _, w2⟩ := g2.tup_inv
  cases w2.ints_inv
  rcases List.mem_cons.mp hr with rfl | hr
  · exact ⟨.ref a, _, _, rfl, dp_tup (st_of k1) (ints_flat xs), dp_tup (st_of a6) (ints_flat xs), shaped_tup (ints_flat xs), shaped_tup (ints_flat xs), same_of_shaped (shaped_tup (ints_flat xs))⟩
  rw [List.mem_singleton] at hr
  subst hr
  exact ⟨.ref b, _, _, rfl, dp_tup (st_of k2) (ints_flat ys), dp_tup (st_of b6) (ints_flat ys), shaped_tup (ints_flat ys), shaped_tup (ints_flat ys), same_of_shaped (shaped_tup (ints_flat ys))⟩
/-- d != ({3: (..)} if t else {}), t true: no -/
theorem ev_neIf1 {t : TT} {te : TE} {S : List Addr} {d : Addr} {kvs : List (Key × V)} {xs : List Int} (hd : Ev td σ H (.ref d)) (ht : EvT t σ H true) (hk : H d = some (.dK kvs)) (hv : HDk S H kvs [(Sum.inl 3, .tup (xs.map DD.int))]) (h1 : EvA ta σ H (xs.map V.int)) (lx : xs.length ≤ 1000) :
    Ev (tOp (rNeDD K) td (tIf t (tDisp [(tC (.int 3), tTup ta)]) te)) σ H (.bl false) := fun H1 e1 Q q => hd H1 e1 _ fun H0 e0 => ht H0 (e1.trans e0) _ fun H2 e2' => by
  have e2 := e0.trans e2'
  rw [if_pos rfl]
  intro p hp
  have e3 : Ex H2 (upd H2 p (.dK [])) := Ex.new hp
  have e13 := (e1.trans e2).trans e3
  have hp3 : (upd H2 p (.dK [])) p = some (.dK []) := upd_same
  have hpH : H p = none := fresh_back (e1.trans e2) hp
  generalize upd H2 p (.dK []) = H3 at e3 e13 hp3 ⊢
  unfold tPairs
  dsimp only [tC]
  refine (eu_tup h1 (by rw [List.length_map]; omega) : EvU _ σ H _) H3 e13 _ fun a H4 ha e4 h4 => ?_
  have hp5 := e4 _ _ hp3
  refine ⟨hp5, [(Sum.inl 3, .ref a)], rfl, (by show 1 ≤ 15; decide), ?_⟩
  have hm : mergeK [] [((Sum.inl 3 : Key), V.ref a)] = [(Sum.inl 3, .ref a)] := rfl
  rw [hm]
  have e16 : Ex H (upd H4 p (.dK [(Sum.inl 3, .ref a)])) := Ex.mut (e13.trans e4) hpH
  have tk5 : TK H4 (upd H4 p (.dK [(Sum.inl 3, .ref a)])) := fun c xs hb => by rw [upd_ne (ne_of hb hp5 (by intro z; cases z))]; exact hb
  have a6 := tk5 _ _ h4
  have hv6 := hv.ex e16
  have e26 : Ex H1 (upd H4 p (.dK [(Sum.inl 3, .ref a)])) := Ex.mut ((e2.trans e3).trans e4) (fresh_back e2 hp)
  have p6 : (upd H4 p (.dK [(Sum.inl 3, .ref a)])) p = some (.dK [(Sum.inl 3, .ref a)]) := upd_same
  generalize upd H4 p (.dK [(Sum.inl 3, .ref a)]) = H6 at *
  have hl : kvs.length = 1 := hv6.len
  refine ⟨d, p, kvs, [(Sum.inl 3, .ref a)], rfl, rfl, e16 _ _ hk, p6, hl, fun r hr => ?_, q H6 e26⟩
  cases hv6 with
  | cons g1 hv6 =>
  cases hv6
  obtain ⟨c1, us, rfl, k1, _, w1⟩ := g1.tup_inv
  cases w1.ints_inv
  rw [List.mem_singleton] at hr
  subst hr
  exact ⟨.ref a, _, _, rfl, dp_tup (st_of k1) (ints_flat xs), dp_tup (st_of a6) (ints_flat xs), shaped_tup (ints_flat xs), shaped_tup (ints_flat xs), same_of_shaped (shaped_tup (ints_flat xs))⟩
/-- .., t false -/
theorem ev_neIf0 {t : TT} {te : TE} {d : Addr} (hd : Ev td σ H (.ref d)) (ht : EvT t σ H false) (hk : H d = some (.dK [])) :
    Ev (tOp (rNeDD K) td (tIf t te tDNewK)) σ H (.bl false) := fun H1 e1 Q q => hd H1 e1 _ fun H0 e0 => ht H0 (e1.trans e0) _ fun H2 e2' => by
  have e2 := e0.trans e2'
  rw [if_neg (by decide)]
  intro p hp
  have e3 : Ex H2 (upd H2 p (.dK [])) := Ex.new hp
  exact ⟨d, p, [], [], rfl, rfl, e3 _ _ (e2 _ _ (e1 _ _ hk)), upd_same, rfl, fun r hr => absurd hr List.not_mem_nil, q _ (e2.trans e3)⟩
end
end KX

namespace KX
open KA KQ KD
open PySem PySem.Spec PyProof.Rows L2 Evl TL
/-! ### what the law draws -/
structure GPl (p : Int × Int) : Prop where
  a : 0 ≤ p.1 ∧ p.1 < 2
  b : 1 ≤ p.2 ∧ p.2 ≤ 20
structure GPt (p : PtX) : Prop where
  d : 0 ≤ p.d ∧ p.d < 2
  pr : 0 ≤ p.pr ∧ p.pr < 4
  bu : 1 ≤ p.bu ∧ p.bu ≤ 20
  wl : p.ws.length ≤ 8
  ws : ∀ x ∈ p.ws, 0 ≤ x ∧ x < 65536
  mn : 0 ≤ p.mn ∧ p.mn < 4
structure GLk (n : Int) (l : Lnk) : Prop where
  k : l.k = 6 ∨ l.k = 7
  one : 0 ≤ l.one ∧ l.one < n
  r : 1 ≤ l.r ∧ l.r ≤ 7
  other : 0 ≤ l.other ∧ l.other < n
  o : 1 ≤ l.o ∧ l.o ≤ 7
structure LawIn (pl : List (Int × Int)) (ps : List PtX) (lks : List Lnk) : Prop where
  pl1 : 1 ≤ pl.length ∧ pl.length ≤ 4
  plg : ∀ p ∈ pl, GPl p
  ps1 : 1 ≤ ps.length ∧ ps.length ≤ 3
  psg : ∀ p ∈ ps, GPt p
  lk1 : lks.length ≤ 1
  lkg : ∀ l ∈ lks, GLk (ps.length : Int) l
def lnsOf (lks : List Lnk) : List Ln3 := if 0 < lks.length ∧ (lks.getD 0 l0).k = 7 then [⟨3, 0, 9⟩] else []
def PG {α : Type} (F : α → Pr) (G : α → Prop) : Pr := fun v H => ∃ y, F y v H ∧ G y
theorem PG.mo {α : Type} {F : α → Pr} {G : α → Prop} (h : ∀ y, Mo (F y)) : Mo (PG F G) := fun v H H' tk ⟨y, a, b⟩ => ⟨y, h y _ _ _ tk a, b⟩
theorem pick {α : Type} (x0 : α) {F : α → Pr} {G : α → Prop} {xs : List V} {H : Hp} (hx : ∀ (i : Nat) v, xs[i]? = some v → PG F G v H) : ∃ ys : List α, xs.length = ys.length ∧ (∀ (i : Nat) v, xs[i]? = some v → F (ys.getD i x0) v H) ∧ ∀ y ∈ ys, G y := by
  obtain ⟨ys, h1, h2⟩ := exists_list (R := fun i y => (∀ v, xs[i]? = some v → F y v H) ∧ G y) x0 xs.length fun i hi => by
    obtain ⟨y, a, b⟩ := hx i xs[i] (List.getElem?_eq_getElem hi)
    exact ⟨y, fun v hv => by rw [List.getElem?_eq_getElem hi] at hv; cases hv; exact a, b⟩
  refine ⟨ys, h1.symm, fun i v hv => (h2 i (List.getElem?_eq_some_iff.mp hv).1).1 v hv, fun y hy => ?_⟩
  obtain ⟨i, hi⟩ := List.mem_iff_getElem?.mp hy
  have := (h2 i (by rw [← h1]; exact (List.getElem?_eq_some_iff.mp hi).1)).2
  rw [getD_at hi] at this
  exact this
section
variable {σ : L2.St} {H : Hp} {K : PySem.W.Frag} {D : Ends} {te tb : TE} {tr ta : TA} {tz : TS}
theorem q_cb1 {r : List V → Hp → VK → Prop} {Q : VK} (h : te σ H fun v H1 => r [v] H1 Q) : tCB r (tCons te tNil) σ H Q := h
theorem q_cons {Q : List V → Hp → Prop} (h : te σ H fun x H1 => tr σ H1 fun xs H2 => Q (x :: xs) H2) : tCons te tr σ H Q := h
theorem q_tup {Q : VK} (h : ta σ H fun vs H1 => vs.length ≤ sizeLine ∧ ∀ p, H1 p = none → Q (.ref p) (upd H1 p (.tup vs))) : tTup ta σ H Q := h
theorem dr_c {d ca : Addr} {x : Int} : Dr (tC (.int x)) σ d ca (fun v => v = x) := fun H Q hT q => q x H rfl hT (FrD.of (Ex.refl H))
end
/-! ### what the plain part gives -/
def eqN : Nat → List Int := fun _ => []
def bef (ps : List PtX) (k : Nat) : Int := ((List.range k).map fun j => (ps.getD j p0).mn).sum
def rankL (pl : List (Int × Int)) (ps : List PtX) : List (Int × Int) := ((List.range ps.length).filter fun k => decide ((ps.getD k p0).d = (pl.getD 0 (0, 0)).1)).map fun k => ((ps.getD k p0).pr, -(k : Int))
structure ThF (μ : Mem) (p : PtX) (k : Nat) : Prop where
  is : isT μ (3 + 5 * (k : Int)) = true
  dom : μ (ix (3 + 5 * (k : Int)) 22) = p.d
  pr : μ (ix (3 + 5 * (k : Int)) 12) = p.pr
  bu : μ (ix (3 + 5 * (k : Int)) 13) = p.bu
  lf : μ (ix (3 + 5 * (k : Int)) 14) = p.bu
  st : μ (ix (3 + 5 * (k : Int)) 0) = 1
  pc : μ (ix (3 + 5 * (k : Int)) 1) = 0
  cp : mayI (μ (ix (3 + 5 * (k : Int)) 10)) = some (2 + 5 * (k : Int))
  tb : mayI (μ (ix (3 + 5 * (k : Int)) 11)) = some (4 + 5 * (k : Int))
  p1 : (5 + 5 * k) ∈ fr μ 2 ∧ ((List.range 64).map fun (i : Nat) => μ (ix ((5 + 5 * k : Nat) : Int) (i : Int))) = p.ws ++ List.replicate (64 - (p.ws.length : Int)).toNat 0
  p2 : (6 + 5 * k) ∈ fr μ 2 ∧ ((List.range 64).map fun (i : Nat) => μ (ix ((6 + 5 * k : Nat) : Int) (i : Int))) = List.replicate (Int.toNat 64) 0
  rw_ : (4 + 5 * k) ∈ fr μ 3 ∧ rowsD μ ((4 + 5 * k : Nat) : Int) = [(Sum.inl 0, .tup ([5 + 5 * (k : Int), 3, (2 + 5 * (k : Int)) * 8 + 6].map DD.int)), (Sum.inl 1, .tup ([6 + 5 * (k : Int), 3, (2 + 5 * (k : Int)) * 8 + 7].map DD.int))]
  c3 : isS μ ((2 + 5 * (k : Int)) * 8 + 3) = true ∧ cap6 μ ((2 + 5 * (k : Int)) * 8 + 3) = [5, 3 + 5 * (k : Int), 7, 0, 1, 0]
structure Facts (pl : List (Int × Int)) (ps : List PtX) (lks : List Lnk) (μ : Mem) (rq : Nat → List Int) : Prop where
  ok : BootOk pl ps lks (lnsOf lks)
  boot : bootG pl ps lks (lnsOf lks) = some μ
  bd : ∀ i, 0 ≤ μ i ∧ μ i < 65536
  q : QOk μ rq eqN
  ck : chk μ rq eqN = true
  w0 : μ (ix 0 0) = 0
  w1 : μ (ix 0 1) = 0
  w2 : μ (ix 0 2) = (pl.getD 0 (0, 0)).2
  plan : givD 4 (fun i => decide (μ (ix 0 (24 + (i : Int))) ≠ 0)) (fun i => DD.tup [.int (μ (ix 0 (24 + (i : Int))) / 256), .int (μ (ix 0 (24 + (i : Int))) % 256)]) = pl.map fun p => .tup [.int p.1, .int p.2]
  dom : mdom μ = (pl.getD 0 (0, 0)).1
  th : ∀ k : Nat, k < ps.length → ThF μ (ps.getD k p0) k
  c0 : ∀ k : Nat, k < ps.length → (0 < (ps.getD k p0).mn → isS μ ((2 + 5 * (k : Int)) * 8) = true ∧ cap6 μ ((2 + 5 * (k : Int)) * 8) = [1, 2 + 5 * (ps.length : Int) + (lks.length : Int) + bef ps k, 7, 0, (ps.getD k p0).mn, 0]) ∧ (¬ 0 < (ps.getD k p0).mn → isS μ ((2 + 5 * (k : Int)) * 8) = false)
  lk : ∀ l, lks = [l] → μ (ix 1 (2 + 5 * (ps.length : Int))) = l.k ∧ (isS μ ((2 + 5 * l.one) * 8 + 4) = true ∧ cap6 μ ((2 + 5 * l.one) * 8 + 4) = [l.k, 2 + 5 * (ps.length : Int), l.r, l.one + 1, 1, 0]) ∧
    isS μ ((2 + 5 * l.other) * 8 + (if l.one = l.other then 5 else 4)) = true ∧ cap6 μ ((2 + 5 * l.other) * 8 + (if l.one = l.other then 5 else 4)) = [l.k, 2 + 5 * (ps.length : Int), l.o, l.other + 1, 1, 0]
  ln : givK 4 (fun i => decide (μ (ix 0 (20 + (i : Int))) ≠ 0)) (fun i => Sum.inl (i : Int)) (fun i => DD.tup [.int (μ (ix 0 (20 + (i : Int))) % 256 - 1), .int (μ (ix 0 (20 + (i : Int))) / 256)]) = if lnsOf lks = [] then [] else [(Sum.inl 3, .tup ([2 + 5 * (ps.length : Int), 9].map DD.int))]
  ch0 : rankL pl ps = [] → mfrom μ 4 = none
  ch1 : ∀ x r, rankL pl ps = x :: r → mfrom μ 4 = some (3 - 5 * (PySem.W.maxOf x r).2)
  bent : ∀ r ∈ RW ps, BentOk μ r
  wrong : ∀ t ∈ WR pl, BootOk t.pl t.ps t.lk t.ln ∧ bootG t.pl t.ps t.lk t.ln = none
end KX

namespace KX
open KA KQ KD
open PySem PySem.Spec PyProof.Rows L2 Evl TL
section
variable {σ : L2.St} {H : Hp} {K : PySem.W.Frag} {D : Ends} {ta tb te td : TE} {t u : TT} {tr : TA} {tz : TS}
theorem th_budget {S : List Addr} {μ : Mem} {kv : List (Key × V)} {t : Int} (h : HDk S H kv (threadD μ t)) : valV kv (Sum.inr "budget") = some (.int (μ (ix t 13))) := by
  obtain ⟨v, h1, h2⟩ := h.some (k := Sum.inr "budget") (d := .int (μ (ix t 13))) (by rfl)
  rw [h1, h2.int_inv]
theorem th_left {S : List Addr} {μ : Mem} {kv : List (Key × V)} {t : Int} (h : HDk S H kv (threadD μ t)) : valV kv (Sum.inr "left") = some (.int (μ (ix t 14))) := by
  obtain ⟨v, h1, h2⟩ := h.some (k := Sum.inr "left") (d := .int (μ (ix t 14))) (by rfl)
  rw [h1, h2.int_inv]
theorem th_pc {S : List Addr} {μ : Mem} {kv : List (Key × V)} {t : Int} (h : HDk S H kv (threadD μ t)) : valV kv (Sum.inr "pc") = some (.int (μ (ix t 1))) := by
  obtain ⟨v, h1, h2⟩ := h.some (k := Sum.inr "pc") (d := .int (μ (ix t 1))) (by rfl)
  rw [h1, h2.int_inv]
theorem th_caps {S : List Addr} {μ : Mem} {kv : List (Key × V)} {t : Int} (h : HDk S H kv (threadD μ t)) : valV kv (Sum.inr "caps") = some (oI (mayI (μ (ix t 10)))) := by
  obtain ⟨v, h1, h2⟩ := h.some (k := Sum.inr "caps") (d := oD (mayI (μ (ix t 10)))) (by rfl)
  rw [h1, h2.opt_inv]
theorem th_table {S : List Addr} {μ : Mem} {kv : List (Key × V)} {t : Int} (h : HDk S H kv (threadD μ t)) : valV kv (Sum.inr "table") = some (oI (mayI (μ (ix t 11)))) := by
  obtain ⟨v, h1, h2⟩ := h.some (k := Sum.inr "table") (d := oD (mayI (μ (ix t 11)))) (by rfl)
  rw [h1, h2.opt_inv]
theorem page_at {S : List Addr} {μ : Mem} {gk : List (Key × V)} {f : Nat} (h : HDk S H gk (frD μ 2 fun f => .tup ((List.range 64).map fun (i : Nat) => .int (μ (ix (f : Int) (i : Int)))))) (hf : f ∈ fr μ 2) : ∃ a, valV gk (Sum.inl (f : Int)) = some (.ref a) ∧ H a = some (.tup (((List.range 64).map fun (i : Nat) => μ (ix (f : Int) (i : Int))).map V.int)) := by
  obtain ⟨v, h1, h2⟩ := h.some (lookL (d := fun (f : Nat) => DD.tup ((List.range 64).map fun (i : Nat) => DD.int (μ (ix (f : Int) (i : Int))))) hf)
  obtain ⟨a, us, rfl, h3, _, h4⟩ := h2.tup_inv
  have h4 : HDs S H us (((List.range 64).map fun (i : Nat) => μ (ix (f : Int) (i : Int))).map DD.int) := by rw [List.map_map]; exact h4
  rw [h4.ints_inv] at h3
  exact ⟨a, h1, h3⟩
theorem tab_at {S : List Addr} {μ : Mem} {gk : List (Key × V)} {f : Nat} (h : HDk S H gk (frD μ 3 fun f => .dct (rowsD μ (f : Int)))) (hf : f ∈ fr μ 3) : ∃ a kv, valV gk (Sum.inl (f : Int)) = some (.ref a) ∧ H a = some (.dK kv) ∧ HDk S H kv (rowsD μ (f : Int)) := by
  obtain ⟨v, h1, h2⟩ := h.some (lookL (d := fun (f : Nat) => DD.dct (rowsD μ (f : Int))) hf)
  obtain ⟨a, kv, rfl, h3, _, h4⟩ := h2.dct_inv
  exact ⟨a, kv, h1, h3, h4⟩
theorem ev_ixS {xs : List V} {i : Int} {v : V} (h : EvS ta σ H xs) (hb : ∀ H1, Ex H H1 → Ev tb σ H1 (.int i)) (ha : atI xs i = some v) : Ev (tOp (rIxT K) ta tb) σ H v := fun H1 e Q q =>
  h H1 e _ fun p H2 e2 hp => hb H2 (e.trans e2) H2 (Ex.refl H2) _ fun H3 e3 => ⟨p, xs, i, v, rfl, rfl, st_of (e3 _ _ hp), ha, q H3 (e2.trans e3)⟩
theorem pairs_of {S : List Addr} : ∀ {us : List V} {L : List (Int × Int)}, HDs S H us (L.map fun q => DD.tup [.int q.1, .int q.2]) → ∃ A : List (Addr × (Int × Int)), us = A.map (fun q => V.ref q.1) ∧ A.map (·.2) = L ∧ ∀ q ∈ A, H q.1 = some (.tup [.int q.2.1, .int q.2.2])
  | _, [], h => by cases h; exact ⟨[], rfl, rfl, fun q hq => by cases hq⟩
  | _, x :: L, h => by
    cases h with
    | cons h r =>
      obtain ⟨t, vs, rfl, ht, _, hv⟩ := h.tup_inv
      cases HDs.ints_inv (xs := [x.1, x.2]) hv
      obtain ⟨A, rfl, rfl, hA⟩ := pairs_of r
      exact ⟨(t, x) :: A, rfl, rfl, fun q hq => by
        rcases List.mem_cons.mp hq with rfl | hq
        · exact ht
        · exact hA q hq⟩
theorem ev_lenL {p : Addr} {xs : List V} (ha : Ev ta σ H (.ref p)) (h : SqL K H p xs) : Ev (tCB (fun xs H Q => ∃ x n, xs = [x] ∧ LenV K x H n ∧ Q (.int n) H) (tCons ta tNil)) σ H (.int (xs.length : Int)) := fun H1 e Q q =>
  ha H1 e _ fun H2 e2 => ⟨_, xs.length, rfl, .inl ⟨_, ex_l (e.trans e2) h, rfl⟩, q H2 e2⟩
theorem es_max {S : List Addr} {p : Addr} {us : List V} {x : Int × Int} {r : List (Int × Int)} (h : Ev te σ H (.ref p)) (hp : H p = some (.lst us)) (hd : HDs S H us ((x :: r).map fun q => DD.tup [.int q.1, .int q.2])) : EvS (tCB (rMaxP K) (tCons te tNil)) σ H [.int (PySem.W.maxOf x r).1, .int (PySem.W.maxOf x r).2] := fun H1 e Q q => h H1 e _ fun H2 e2 => by
  obtain ⟨A, rfl, hA, hall⟩ := pairs_of hd
  cases A with
  | nil => cases hA
  | cons a A =>
    have h1 : a.2 = x := (List.cons.inj hA).1
    have h2 : A.map (·.2) = r := (List.cons.inj hA).2
    have e02 := e.trans e2
    refine ⟨p, a, A, rfl, sq_of (e02 _ _ hp), fun q hq => st_of (e02 _ _ (hall q hq)), fun b hb he => q b.1 H2 e2 ?_⟩
    rw [h1, h2] at he
    rw [← he]
    exact e02 _ _ (hall b hb)
theorem q_asgG {g : TG} {v : V} (h : Ev te σ H v) (k : ∀ H1, Ex H H1 → g v σ H1 fun σ2 H2 => tz D σ2 H2) : tSeq (tAsg te g) tz D σ H := h H (Ex.refl H) _ k
theorem ep_if {P : Pr} {b : Bool} (h : EvT t σ H b) (h1 : b = true → EvP ta σ H P) (h2 : b = false → EvP tb σ H P) : EvP (tIf t ta tb) σ H P := fun H1 e Q q => h H1 e _ fun H2 e2 => by
  cases b with
  | true => exact h1 rfl H2 (e.trans e2) _ fun v H3 e3 hv => q v H3 (e2.trans e3) hv
  | false => exact h2 rfl H2 (e.trans e2) _ fun v H3 e3 hv => q v H3 (e2.trans e3) hv
theorem et_or0 (h1 : EvT t σ H false) (h2 : EvT u σ H false) : EvT (tOr t u) σ H false := et_is (et_or h1 fun _ => h2) rfl
theorem et_ne {x y : V} {r : R2} (ha : Ev ta σ H x) (hb : Ev tb σ H y) (hr : RV r x y H (.bl false)) : EvT (tTest (tOp r ta tb)) σ H false := et_test (ev_op ha hb hr)
theorem et_neI {i j : Int} (ha : Ev ta σ H (.int i)) (hb : Ev tb σ H (.int j)) (h : i = j) : EvT (tTest (tOp rNe ta tb)) σ H false := et_is (et_test (ev_op ha hb (rv_ne rfl))) (by subst h; rw [decide_eq_true rfl]; rfl)
theorem ev_opVS {r : R2} {x z : V} {ys : List V} (ha : Ev ta σ H x) (hb : ∀ H1, Ex H H1 → EvS tb σ H1 ys) (hr : ∀ q H1, H1 q = some (.tup ys) → Ex H H1 → RV r x (.ref q) H1 z) : Ev (tOp r ta tb) σ H z := fun H1 e Q k =>
  ha H1 e _ fun H2 e2 => hb H2 (e.trans e2) H2 (Ex.refl H2) _ fun q H3 e3 hq => hr q H3 hq ((e.trans e2).trans e3) H3 (Ex.refl H3) _ fun H4 e4 => k H4 ((e2.trans e3).trans e4)
theorem q_parV {i j : Nat} {v w : V} (ha : Ev ta σ H v) (hb : Ev tb σ H w) (k : ∀ H1, Ex H H1 → tz D ((σ.set i (some v)).set j (some w)) H1) : tSeq (tPar i j (tCons ta (tCons tb tNil))) tz D σ H :=
  ha H (Ex.refl H) (fun x H1 => tCons tb tNil σ H1 fun vs H2 => ∃ v w, x :: vs = [v, w] ∧ tz D ((σ.set i (some v)).set j (some w)) H2) fun H1 e1 => hb H1 e1 (fun y H2 => ∃ v' w', [v, y] = [v', w'] ∧ tz D ((σ.set i (some v')).set j (some w')) H2) fun H2 e2 => ⟨_, _, rfl, k H2 (e1.trans e2)⟩
end
section
variable {P : Program} {w : World} {K : PySem.W.Frag} {mg : Str → Option Value} {base : Heap}
def sp_law (K : PySem.W.Frag) (Pt : Addr) : Sp := fun vs H Q _ => ∃ (a : Addr) (ns : List Int), vs = [.ref a] ∧ SqL K H a (ns.map V.int) ∧ ns.length ≤ 63 ∧ H Pt = some (.tbl #[]) ∧ ∀ H', Q (.bl true) H'
theorem ok_law (HF : ∀ pl ps lks, LawIn pl ps lks → ∃ μ rq, Facts pl ps lks μ rq) (T : Txt K mg) {c Pt : Addr} (hcd : (fd_law_bent_right K).code = .ref c) (TBL : LamX.TabB base mg c Pt) : FnOk P w K mg base CX0 12 (f_law K) (fd_law K) ["script"] (sp_law K Pt) := by
  have ok_law_bent_right := fun (T : Txt K mg) => ok_law_bent_right (P := P) (w := w) (base := base) T hcd TBL
  refine T.fn_law.ok sc_law (fun vs H Q E h => ?_) (fun cdv A outer s H vs Q E hr h => ?_)
  · obtain ⟨_, _, rfl, _⟩ := h
    rfl
  have hu := hu_of hr
  refine ⟨_, PSs.nox (pss_cons (ps_set (i := 1) sc_law.nd rfl (by first | exact Or.inr rfl | exact Or.inl rfl) (pe_call (ok_law_tape T) (hr.mono (by decide)) (by rfl) (T.glo_law_tape) (T.kp_law_tape) (T.bd_law_tape) .nil pass0 (pa_cons (pv 0) pa_nil))) (pss_cons (ps_set (i := 2) sc_law.nd rfl (by first | exact Or.inr rfl | exact Or.inl rfl) (pe_op op_add pe_int (pe_call (ok_law_take T) (hr.mono (by decide)) (by rfl) (T.glo_law_take) (T.kp_law_take) (T.bd_law_take) .nil pass0 (pa_cons (pv 1) (pa_cons pe_int pa_nil))))) (pss_cons (ps_set (i := 3) sc_law.nd rfl (by first | exact Or.inr rfl | exact Or.inl rfl) (pe_callTy call_tuple_of (by rfl) T.free_tuple (by decide +kernel) (pa_cons (pe_lc (own := [("k", 4)]) (by rfl) sc_law.nd (pi_range1 (by rfl) T.free_range (pa_cons (pe_op op_add pe_int (pe_call (ok_law_take T) (hr.mono (by decide)) (by rfl) (T.glo_law_take) (T.kp_law_take) (T.bd_law_take) .nil pass0 (pa_cons (pv 1) (pa_cons pe_int pa_nil)))) pa_nil)) (blkOk_by (N := sc_law_N) (sc := defScope s_law) (own := [("k", 4)]) (by decide +kernel)) (fun _ _ _ _ _ => (pg_name (i := 4) sc_law.nd rfl (Or.inl rfl))) (fun _ _ _ _ _ => pts_nil) (fun _ _ _ _ _ => (pe_tup (pa_cons (pe_call (ok_law_take T) (hr.mono (by decide)) (by rfl) (T.glo_law_take) (T.kp_law_take) (T.bd_law_take) .nil pass0 (pa_cons (pv 1) (pa_cons pe_int pa_nil))) (pa_cons (pe_op op_add pe_int (pe_call (ok_law_take T) (hr.mono (by decide)) (by rfl) (T.glo_law_take) (T.kp_law_take) (T.bd_law_take) .nil pass0 (pa_cons (pv 1) (pa_cons pe_int pa_nil)))) pa_nil))))) pa_nil))) (pss_cons (ps_set (i := 5) sc_law.nd rfl (by first | exact Or.inr rfl | exact Or.inl rfl) (pe_callTy call_tuple_of (by rfl) T.free_tuple (by decide +kernel) (pa_cons (pe_lc (own := [("k", 4)]) (by rfl) sc_law.nd (pi_range1 (by rfl) T.free_range (pa_cons (pv 2) pa_nil)) (blkOk_by (N := sc_law_N) (sc := defScope s_law) (own := [("k", 4)]) (by decide +kernel)) (fun _ _ _ _ _ => (pg_name (i := 4) sc_law.nd rfl (Or.inl rfl))) (fun _ _ _ _ _ => pts_nil) (fun _ _ _ _ _ => (pe_tup (pa_cons (pe_call (ok_law_take T) (hr.mono (by decide)) (by rfl) (T.glo_law_take) (T.kp_law_take) (T.bd_law_take) .nil pass0 (pa_cons (pv 1) (pa_cons pe_int pa_nil))) (pa_cons (pe_call (ok_law_take T) (hr.mono (by decide)) (by rfl) (T.glo_law_take) (T.kp_law_take) (T.bd_law_take) .nil pass0 (pa_cons (pv 1) (pa_cons pe_int pa_nil))) (pa_cons (pe_op op_add pe_int (pe_call (ok_law_take T) (hr.mono (by decide)) (by rfl) (T.glo_law_take) (T.kp_law_take) (T.bd_law_take) .nil pass0 (pa_cons (pv 1) (pa_cons pe_int pa_nil)))) (pa_cons (pe_callTy (T := "tuple") (r := rTupK K) (by exact call_tuple_of) (by rfl) T.free_tuple (by decide +kernel) (pa_cons (pe_lc (own := [("j", 6)]) (by rfl) sc_law.nd (pi_range1 (by rfl) T.free_range (pa_cons (pe_call (ok_law_take T) (hr.mono (by decide)) (by rfl) (T.glo_law_take) (T.kp_law_take) (T.bd_law_take) .nil pass0 (pa_cons (pv 1) (pa_cons pe_int pa_nil))) pa_nil)) (by exact blkOk_by (N := sc_law_N) (own := [("j", 6)]) (by rfl)) (fun _ _ _ _ _ => (pg_name (i := 6) sc_law.nd rfl (by first | exact Or.inr rfl | exact Or.inl rfl))) (fun _ _ _ _ _ => pts_nil) (fun _ _ _ _ _ => (pe_call (ok_law_take T) (hr.mono (by decide)) (by rfl) (T.glo_law_take) (T.kp_law_take) (T.bd_law_take) .nil pass0 (pa_cons (pv 1) (pa_cons pe_int pa_nil))))) pa_nil)) (pa_cons (pe_call (ok_law_take T) (hr.mono (by decide)) (by rfl) (T.glo_law_take) (T.kp_law_take) (T.bd_law_take) .nil pass0 (pa_cons (pv 1) (pa_cons pe_int pa_nil))) pa_nil)))))))) pa_nil))) (pss_cons (ps_set (i := 7) sc_law.nd rfl (Or.inl rfl) (pe_callTy call_tuple_of (by rfl) T.free_tuple (by decide +kernel) (pa_cons (pe_lc (own := [("k", 4)]) (by rfl) sc_law.nd (pi_range1 (by rfl) T.free_range (pa_cons (pe_call (ok_law_take T) (hr.mono (by decide)) (by rfl) (T.glo_law_take) (T.kp_law_take) (T.bd_law_take) .nil pass0 (pa_cons (pv 1) (pa_cons pe_int pa_nil))) pa_nil)) (blkOk_by (N := sc_law_N) (sc := defScope s_law) (own := [("k", 4)]) (by decide +kernel)) (fun _ _ _ _ _ => (pg_name (i := 4) sc_law.nd rfl (Or.inl rfl))) (fun _ _ _ _ _ => pts_nil) (fun _ _ _ _ _ => (pe_tup (pa_cons (pe_op op_add pe_int (pe_call (ok_law_take T) (hr.mono (by decide)) (by rfl) (T.glo_law_take) (T.kp_law_take) (T.bd_law_take) .nil pass0 (pa_cons (pv 1) (pa_cons pe_int pa_nil)))) (pa_cons (pe_call (ok_law_take T) (hr.mono (by decide)) (by rfl) (T.glo_law_take) (T.kp_law_take) (T.bd_law_take) .nil pass0 (pa_cons (pv 1) (pa_cons (pv 2) pa_nil))) (pa_cons (pe_op op_add pe_int (pe_call (ok_law_take T) (hr.mono (by decide)) (by rfl) (T.glo_law_take) (T.kp_law_take) (T.bd_law_take) .nil pass0 (pa_cons (pv 1) (pa_cons pe_int pa_nil)))) (pa_cons (pe_call (ok_law_take T) (hr.mono (by decide)) (by rfl) (T.glo_law_take) (T.kp_law_take) (T.bd_law_take) .nil pass0 (pa_cons (pv 1) (pa_cons (pv 2) pa_nil))) (pa_cons (pe_op op_add pe_int (pe_call (ok_law_take T) (hr.mono (by decide)) (by rfl) (T.glo_law_take) (T.kp_law_take) (T.bd_law_take) .nil pass0 (pa_cons (pv 1) (pa_cons pe_int pa_nil)))) pa_nil)))))))) pa_nil))) (pss_cons (ps_set (i := 8) sc_law.nd rfl (Or.inl rfl) (pe_ifExp (PW.pt (pw_and (pt_cmpR op_gt (pe_callB call_len (by rfl) T.free_len PySem.boot_len (pa_cons (pv 7) pa_nil)) pe_int (nomark _)) (pw_and1 (pt_cmpR op_eq (pe_ix ix_tup (pe_ix ix_tup (pv 7) pe_int (fun _ _ => rfl)) pe_int (fun _ _ => rfl)) pe_int (nomark _))))) (pe_tup (pa_cons (pe_tup (pa_cons pe_int (pa_cons pe_int (pa_cons pe_int pa_nil)))) pa_nil)) (pe_tup pa_nil))) (pss_cons (ps_set (i := 9) sc_law.nd rfl (Or.inl rfl) (pe_call (ok_booted T) (hr.mono (by decide)) (by rfl) (T.glo_booted) (T.kp_booted) (T.bd_booted) .nil passL (pa_cons (pv 3) (pa_cons (pv 5) (pa_cons (pv 7) (pa_cons (pv 8) pa_nil)))))) (pss_cons (ps_set (i := 10) sc_law.nd rfl (Or.inl rfl) (pe_call (ok_abstracted T) (hr.mono (by decide)) (by rfl) (T.glo_abstracted) (T.kp_abstracted) (T.bd_abstracted) .nil pass0 (pa_cons (pv 9) pa_nil))) (pss_cons (ps_set (i := 11) sc_law.nd rfl (Or.inl rfl) (pe_op op_add pe_int (pe_op op_mul pe_int (pv 2)))) (pss_cons (ps_if (PW.pt (pw_or (pt_cmpR (op_neD hr.units) (pe_dget hu (pv 10) pe_str (fun _ _ => rfl)) (pv 3) (nomark _)) (pw_or (pt_cmpR op_ne (pe_dget hu (pv 10) pe_str (fun _ _ => rfl)) (pe_ix ix_tup (pe_ix ix_tup (pv 3) pe_int (fun _ _ => rfl)) pe_int (fun _ _ => rfl)) (nomark _)) (pw_or (pt_cmpR op_ne (pe_dget hu (pv 10) pe_str (fun _ _ => rfl)) pe_int (nomark _)) (pw_or (pt_cmpR op_ne (pe_dget hu (pv 10) pe_str (fun _ _ => rfl)) pe_int (nomark _)) (pw_or (pt_cmpR op_ne (pe_call (ok_domain_now T) (hr.mono (by decide)) (by rfl) (T.glo_domain_now) (T.kp_domain_now) (T.bd_domain_now) .nil pass0 (pa_cons (pv 9) pa_nil)) (pe_ix ix_tup (pe_ix ix_tup (pv 3) pe_int (fun _ _ => rfl)) pe_int (fun _ _ => rfl)) (nomark _)) (pw_or1 (pt_cmpR op_notN (pe_call (ok_check_memory T) (hr.mono (by decide)) (by rfl) (T.glo_check_memory) (T.kp_check_memory) (T.bd_check_memory) .nil passL (pa_cons (pv 9) pa_nil)) pe_non (nomark _))))))))) (pss_one (ps_ret pe_bl)) pss_nil) (pss_cons (ps_for PassesOwn.never rfl (pi_range1 (by rfl) T.free_range (pa_cons (pv 2) pa_nil)) (pg_name (i := 4) sc_law.nd rfl (Or.inl rfl)) (pss_cons (ps_par (i := 12) (j := 13) (by rfl) sc_law.nd rfl rfl (by decide) rfl rfl (pa_cons (pe_dget hu (pe_dget hu (pv 10) pe_str (fun _ _ => rfl)) (pe_op op_add pe_int (pe_op op_mul pe_int (pv 4))) (fun _ _ => rfl)) (pa_cons (pe_op op_add pe_int (pe_op op_mul pe_int (pv 4))) pa_nil)) (by rfl)) (pss_cons (ps_if (pt_cmpR (op_neD hr.units) (pe_tup (pa_cons (pe_dget hu (pv 12) pe_str (fun _ _ => rfl)) (pa_cons (pe_dget hu (pv 12) pe_str (fun _ _ => rfl)) (pa_cons (pe_dget hu (pv 12) pe_str (fun _ _ => rfl)) (pa_cons (pe_dget hu (pv 12) pe_str (fun _ _ => rfl)) (pa_cons (pe_dget hu (pv 12) pe_str (fun _ _ => rfl)) (pa_cons (pe_dget hu (pv 12) pe_str (fun _ _ => rfl)) pa_nil))))))) (pe_tup (pa_cons (pe_ix ix_tup (pe_ix ix_tup (pv 5) (pv 4) (fun _ _ => rfl)) pe_int (fun _ _ => rfl)) (pa_cons (pe_ix ix_tup (pe_ix ix_tup (pv 5) (pv 4) (fun _ _ => rfl)) pe_int (fun _ _ => rfl)) (pa_cons (pe_ix ix_tup (pe_ix ix_tup (pv 5) (pv 4) (fun _ _ => rfl)) pe_int (fun _ _ => rfl)) (pa_cons (pe_ix ix_tup (pe_ix ix_tup (pv 5) (pv 4) (fun _ _ => rfl)) pe_int (fun _ _ => rfl)) (pa_cons pe_int (pa_cons pe_int pa_nil))))))) (nomark _)) (pss_one (ps_ret pe_bl)) pss_nil) (pss_cons (ps_if (PW.pt (pw_or (pt_cmpR (op_neD hr.units) (pe_dget hu (pv 12) pe_str (fun _ _ => rfl)) (pv 13) (nomark _)) (pw_or (pt_cmpR op_ne (pe_dget hu (pv 12) pe_str (fun _ _ => rfl)) (pe_op op_add (pv 13) pe_int) (nomark _)) (pw_or (pt_cmpR (op_neD hr.units) (pe_dget hu (pe_dget hu (pv 10) pe_str (fun _ _ => rfl)) (pe_op op_add (pv 13) pe_int) (fun _ _ => rfl)) (pe_op op_catA (pe_ix ix_tup (pe_ix ix_tup (pv 5) (pv 4) (fun _ _ => rfl)) pe_int (fun _ _ => rfl)) (pe_op op_repT (pe_tup (pa_cons pe_int pa_nil)) (pe_op op_sub (T.pg_FRAME) (pe_callB call_len (by rfl) T.free_len PySem.boot_len (pa_cons (pe_ix ix_tup (pe_ix ix_tup (pv 5) (pv 4) (fun _ _ => rfl)) pe_int (fun _ _ => rfl)) pa_nil))))) (nomark _)) (pw_or1 (pt_cmpR (op_neD hr.units) (pe_dget hu (pe_dget hu (pv 10) pe_str (fun _ _ => rfl)) (pe_op op_add (pv 13) pe_int) (fun _ _ => rfl)) (pe_op op_repT (pe_tup (pa_cons pe_int pa_nil)) (T.pg_FRAME)) (nomark _))))))) (pss_one (ps_ret pe_bl)) pss_nil) (pss_cons (ps_if (pt_cmpR (op_neDD (hu100 hr)) (pe_dget hu (pe_dget hu (pv 10) pe_str (fun _ _ => rfl)) (pe_op op_add (pv 13) pe_int) (fun _ _ => rfl)) (pe_disp (pps_cons pe_int (pe_tup (pa_cons (pe_op op_add (pv 13) pe_int) (pa_cons pe_int (pa_cons (pe_op op_add (pe_op op_mul (pv 13) (T.pg_SLOTS)) pe_int) pa_nil)))) (pps_cons pe_int (pe_tup (pa_cons (pe_op op_add (pv 13) pe_int) (pa_cons pe_int (pa_cons (pe_op op_add (pe_op op_mul (pv 13) (T.pg_SLOTS)) pe_int) pa_nil)))) pps_nil)) (by rfl) (by rfl) (fun z => by cases z) (by decide)) (nomark _)) (pss_one (ps_ret pe_bl)) pss_nil) (pss_cons (ps_set (i := 14) sc_law.nd rfl (Or.inl rfl) (pe_callB (cr_sum rfl) (by rfl) T.free_sum (by decide +kernel) (pa_cons (pe_lc (own := [("j", 6)]) (by rfl) sc_law.nd (pi_range1 (by rfl) T.free_range (pa_cons (pv 4) pa_nil)) (blkOk_by (N := sc_law_N) (sc := defScope s_law) (own := [("j", 6)]) (by decide +kernel)) (fun _ _ _ _ _ => (pg_name (i := 6) sc_law.nd rfl (by first | exact Or.inr rfl | exact Or.inl rfl))) (fun _ _ _ _ _ => pts_nil) (fun _ _ _ _ _ => (pe_ix (r := rIxT K) (by exact ix_tup) (pe_ix (r := rIxT K) (by exact ix_tup) (pv 5) (pv 6) (fun _ _ => rfl)) pe_int (fun _ _ => rfl)))) pa_nil))) (pss_cons (ps_set (i := 15) sc_law.nd rfl (Or.inl rfl) (pe_tup (pa_cons pe_int (pa_cons (pe_op op_add (pe_op op_add (pv 11) (pe_callB call_len (by rfl) T.free_len PySem.boot_len (pa_cons (pv 7) pa_nil))) (pv 14)) (pa_cons (T.pg_ALL) (pa_cons pe_int (pa_cons (pe_ix ix_tup (pe_ix ix_tup (pv 5) (pv 4) (fun _ _ => rfl)) pe_int (fun _ _ => rfl)) (pa_cons pe_int pa_nil)))))))) (pss_one (ps_if (PW.pt (pw_or (pt_cmpR (op_neD hr.units) (pe_dget1 hu (pe_dget hu (pv 10) pe_str (fun _ _ => rfl)) (pe_op op_mul (pv 13) (T.pg_SLOTS)) ⟨rfl, rfl, rfl, rfl⟩) (pe_ifExp (pt_cmpR op_gt (pe_ix ix_tup (pe_ix ix_tup (pv 5) (pv 4) (fun _ _ => rfl)) pe_int (fun _ _ => rfl)) pe_int (nomark _)) (pv 15) pe_non) (nomark _)) (pw_or1 (pt_cmpR (op_neD hr.units) (pe_dget hu (pe_dget hu (pv 10) pe_str (fun _ _ => rfl)) (pe_op op_add (pe_op op_mul (pv 13) (T.pg_SLOTS)) pe_int) (fun _ _ => rfl)) (pe_tup (pa_cons pe_int (pa_cons (pe_op op_add (pv 13) pe_int) (pa_cons (T.pg_ALL) (pa_cons pe_int (pa_cons pe_int (pa_cons pe_int pa_nil))))))) (nomark _))))) (pss_one (ps_ret pe_bl)) pss_nil))))))))) (pss_cut (ps_if (pt_cmpR op_eq (pe_callB call_len (by rfl) T.free_len PySem.boot_len (pa_cons (pv 7) pa_nil)) pe_int (nomark _)) (pss_cons (ps_asg (pe_ix ix_tup (pv 7) pe_int (fun _ _ => rfl)) (pg_tup (by rfl) (pgs_cons (pg_name (i := 16) sc_law.nd rfl (Or.inl rfl)) (pgs_cons (pg_name (i := 17) sc_law.nd rfl (Or.inl rfl)) (pgs_cons (pg_name (i := 18) sc_law.nd rfl (Or.inl rfl)) (pgs_cons (pg_name (i := 19) sc_law.nd rfl (Or.inl rfl)) (pgs_cons (pg_name (i := 20) sc_law.nd rfl (Or.inl rfl)) pgs_nil))))))) (pss_cons (ps_if (PW.pt (pw_or (pt_cmpR op_ne (pe_call (ok_kind_of T) (hr.mono (by decide)) (by rfl) (T.glo_kind_of) (T.kp_kind_of) (T.bd_kind_of) .nil pass0 (pa_cons (pv 9) (pa_cons (pv 11) pa_nil))) (pv 16) (nomark _)) (pw_or1 (pt_cmpR (op_neD hr.units) (pe_dget hu (pe_dget hu (pv 10) pe_str (fun _ _ => rfl)) (pe_op op_add (pe_op op_mul (pe_op op_add pe_int (pe_op op_mul pe_int (pv 17))) (T.pg_SLOTS)) pe_int) (fun _ _ => rfl)) (pe_tup (pa_cons (pv 16) (pa_cons (pv 11) (pa_cons (pv 18) (pa_cons (pe_op op_add (pv 17) pe_int) (pa_cons pe_int (pa_cons pe_int pa_nil))))))) (nomark _))))) (pss_one (ps_ret pe_bl)) pss_nil) (pss_one (ps_if (PW.pt (pw_or (pt_cmpR (op_neD hr.units) (pe_dget hu (pe_dget hu (pv 10) pe_str (fun _ _ => rfl)) (pe_op op_add (pe_op op_mul (pe_op op_add pe_int (pe_op op_mul pe_int (pv 19))) (T.pg_SLOTS)) (pe_ifExp (pt_cmpR op_eq (pv 17) (pv 19) (nomark _)) pe_int pe_int)) (fun _ _ => rfl)) (pe_tup (pa_cons (pv 16) (pa_cons (pv 11) (pa_cons (pv 20) (pa_cons (pe_op op_add (pv 19) pe_int) (pa_cons pe_int (pa_cons pe_int pa_nil))))))) (nomark _)) (pw_or1 (pt_cmpR (op_neDD (hu100 hr)) (pe_dget hu (pv 10) pe_str (fun _ _ => rfl)) (pe_ifExp (pt_cmpR op_gt (pe_callB call_len (by rfl) T.free_len PySem.boot_len (pa_cons (pv 8) pa_nil)) pe_int (nomark _)) (pe_disp (pps_cons pe_int (pe_tup (pa_cons (pv 11) (pa_cons pe_int pa_nil))) pps_nil) (by rfl) (by rfl) (fun z => by cases z) (by decide)) pe_dnewK) (nomark _))))) (pss_one (ps_ret pe_bl)) pss_nil)))) pss_nil) (pss_cons (ps_setLc (i := 21) (own := [("k", 4)]) (by rfl) sc_law.nd rfl rfl (sw_true rfl rfl rfl (by decide +kernel)) (pi_range1 (by rfl) T.free_range (pa_cons (pv 2) pa_nil)) (blkOk_by (N := sc_law_N) (sc := defScope s_law) (own := [("k", 4)]) (by decide +kernel)) (fun _ _ _ _ _ => (pg_name (i := 4) sc_law.nd rfl (Or.inl rfl))) (fun _ _ _ _ _ => (pts_one (pt_cmpR op_eq (pe_ix (r := rIxT K) (by exact ix_tup) (pe_ix (r := rIxT K) (by exact ix_tup) (pv 5) (pv 4) (fun _ _ => rfl)) pe_int (fun _ _ => rfl)) (pe_ix (r := rIxT K) (by exact ix_tup) (pe_ix (r := rIxT K) (by exact ix_tup) (pv 3) pe_int (fun _ _ => rfl)) pe_int (fun _ _ => rfl)) (nomark _)))) (fun _ _ _ _ _ => (pe_tup (pa_cons (pe_ix (r := rIxT K) (by exact ix_tup) (pe_ix (r := rIxT K) (by exact ix_tup) (pv 5) (pv 4) (fun _ _ => rfl)) pe_int (fun _ _ => rfl)) (pa_cons (pe_op op_sub pe_int (pv 4)) pa_nil))))) (pss_cons (ps_if (pt_cmpR op_ne (pe_call (ok_chosen T) (hr.mono (by decide)) (by rfl) (T.glo_chosen) (T.kp_chosen) (T.bd_chosen) .nil pass0 (pa_cons (pv 9) pa_nil)) (pe_ifExp (pt_cmpR op_eq (pe_callB call_len (by rfl) T.free_len PySem.boot_len (pa_cons (pv 21) pa_nil)) pe_int (nomark _)) pe_non (pe_op op_sub pe_int (pe_op op_mul pe_int (pe_ix ix_tup (pe_callB (cr_maxP rfl hr.units) (by rfl) T.free_max (by decide +kernel) (pa_cons (pv 21) pa_nil)) pe_int (fun _ _ => rfl))))) (nomark _)) (pss_one (ps_ret pe_bl)) pss_nil) (pss_one (ps_ret (pe_call (ok_law_bent_right T) (hr.mono (by decide)) (by rfl) (T.glo_law_bent_right) (T.kp_law_bent_right) (T.bd_law_bent_right) .nil pass0 (pa_cons (pv 9) (pa_cons (pv 3) (pa_cons (pv 5) pa_nil)))))))))))))))))))), ?_⟩
  obtain ⟨a, ns, rfl, hS, hl, hPt, k⟩ := h
  -- the tape
  refine q_asgQ ⟨_, rfl, a, ns, rfl, hS, hl, fun d ca H1 hd hca hT e1 => ?_⟩
  have hP1 := e1 _ _ hPt
  have nd1 : Pt ≠ d := fun z => by rw [← z, hPt] at hd; cases hd
  clear hS hl e1 hd hca hPt
  have one_take : ∀ (σ : L2.St) (m : Int) (ta : TA), (∀ H, EvA ta σ H [.ref d, .int m]) → 0 < m ∧ m < 1073741824 → Dr (tOp (rI0 fun i j => .int (i + j)) (tC (.int 1)) (tCall sp_law_take [] E0 ta)) σ d ca (fun v => 1 ≤ v ∧ v ≤ m) := fun σ m ta h1 h2 =>
    Dr.imp (dr_add dr_c (dr_take h1 h2)) fun v ⟨x, y, hx, hy, hv⟩ => by omega
  -- how many
  refine q_asgQ (one_take _ 3 _ (fun H => ea_cons (ev_var rfl) (ea_cons ev_c ea_nil)) (by decide) H1 _ hT fun n H2 hn hT2 f2 => ?_)
  -- the plan
  refine q_asgQ (q_cb1 ?_)
  refine dl_lcRD (P := fun _ => PG (fun (p : Int × Int) => PrLk p.1 p.2) GPl) (Pn := fun n => 1 ≤ n ∧ n ≤ 4) (fun _ => PG.mo fun _ => PrLk.mo) (Dr.imp (one_take _ 4 _ (fun H => ea_cons (ev_var rfl) (ea_cons ev_c ea_nil)) (by decide)) fun v hv => by omega) (fun x => rfl) (fun i H' Q f hT q => ?_) _ hT2 fun p H3 n3 xs hp hn3 hxl hx hT3 f3 h3 => ?_
  · refine dr_take (fun H => ea_cons (ev_var rfl) (ea_cons ev_c ea_nil)) (by decide) H' _ hT fun x H3 hx hT3 f3 => ?_
    refine one_take _ 20 _ (fun H => ea_cons (ev_var rfl) (ea_cons ev_c ea_nil)) (by decide) H3 _ hT3 fun y H4 hy hT4 f4 => ?_
    exact ⟨by show 2 ≤ sizeLine; decide, fun t ht => q _ _ ⟨(x, y), ⟨t, rfl, upd_same⟩, ⟨hx, hy⟩⟩ (hT4.keep (Ex.new ht)) ((f3.trans f4).trans (FrD.of (Ex.new ht)))⟩
  refine ⟨p, xs, rfl, .inl ⟨sq_of h3, fun pa hpa => ?_⟩⟩
  obtain ⟨pl, hpl1, hpl2, hplg⟩ := pick (0, 0) hx
  have e3 : Ex H3 (upd H3 pa (.tup xs)) := Ex.new hpa
  have hPl : PlanAt (upd H3 pa (.tup xs)) pa pl := ⟨xs, upd_same, hpl1, fun i v hv => PrLk.mo _ _ _ (TK.ex e3) (hpl2 i v hv)⟩
  have pl1 : 1 ≤ pl.length ∧ pl.length ≤ 4 := by omega
  have hT3 := hT3.keep e3
  have hP3 : (upd H3 pa (.tup xs)) Pt = some (.tbl #[]) := e3 _ _ (f3 _ _ (f2 _ _ hP1 nd1) nd1)
  generalize upd H3 pa (.tup xs) = H4 at hPl hT3 hP3 ⊢
  clear e3 hpl2 hpl1 hx hxl hn3 hp h3 f3 hT2 hT f2 hP1 hpa
  -- the parts
  refine q_asgQ (q_cb1 ?_)
  refine dl_lcRD (P := fun _ => PG PPt GPt) (Pn := fun m => m = n) (fun _ => PG.mo fun _ => PPt.mo) (fun H Q hT q => (ev_var rfl : Ev _ _ H (.int n)) H (Ex.refl H) _ fun H' e => q n H' ⟨by omega, by omega, rfl⟩ (hT.keep e) (FrD.of e)) (fun x => rfl) (fun i H' Q f hT q => ?_) _ hT3 fun p H5 n5 xs hp hn5 hxl hx hT5 f5 h5 => ?_
  · refine q_tup (q_cons (dr_take (fun H => ea_cons (ev_var rfl) (ea_cons ev_c ea_nil)) (by decide) H' _ hT fun dd G1 hdd g1 f1 => ?_))
    refine q_cons (dr_take (fun H => ea_cons (ev_var rfl) (ea_cons ev_c ea_nil)) (by decide) G1 _ g1 fun pr G2 hpr g2 f2 => ?_)
    refine q_cons (one_take _ 20 _ (fun H => ea_cons (ev_var rfl) (ea_cons ev_c ea_nil)) (by decide) G2 _ g2 fun bu G3 hbu g3 f3 => ?_)
    refine q_cons (q_cb1 ?_)
    refine dl_lcRD (P := fun _ v _ => ∃ x, v = .int x ∧ 0 ≤ x ∧ x < 65536) (Pn := fun m => 0 ≤ m ∧ m ≤ 8) (fun _ v H H' _ h => h) (Dr.imp (dr_take (fun H => ea_cons (ev_var rfl) (ea_cons ev_c ea_nil)) (by decide)) fun v hv => by omega) (fun x => rfl) (fun i => dv_int (dr_take (fun H => ea_cons (ev_var rfl) (ea_cons ev_c ea_nil)) (by decide))) _ g3 fun cp G4 n4 ws hcp hn4 hwl hw g4 f4 h4 => ?_
    refine ⟨cp, ws, rfl, .inl ⟨sq_of h4, fun ct hct => ?_⟩⟩
    have ec : Ex G4 (upd G4 ct (.tup ws)) := Ex.new hct
    obtain ⟨wl, hw1, hw2, hwg⟩ := pick (0 : Int) (F := fun x v _ => v = V.int x) (G := fun x => 0 ≤ x ∧ x < 65536) (H := G4) fun i v hv => (hw i v hv : ∃ x, v = .int x ∧ 0 ≤ x ∧ x < 65536)
    have hws : ws = wl.map V.int := by
      refine List.ext_getElem? fun i => ?_
      rw [List.getElem?_map]
      by_cases hi : i < ws.length
      · have := hw2 i _ (List.getElem?_eq_getElem hi)
        rw [List.getElem?_eq_getElem hi, this, List.getD_eq_getElem?_getD, List.getElem?_eq_getElem (by omega)]
        rfl
      · rw [List.getElem?_eq_none (by omega), List.getElem?_eq_none (by omega)]
        rfl
    have hct5 : (upd G4 ct (.tup ws)) ct = some (.tup (wl.map V.int)) := by rw [upd_same, hws]
    have g5 := g4.keep ec
    have f05 := (((f1.trans f2).trans f3).trans f4).trans (FrD.of ec)
    generalize upd G4 ct (.tup ws) = G5 at hct5 g5 f05 ⊢
    refine q_cons (dr_take (fun H => ea_cons (ev_var rfl) (ea_cons ev_c ea_nil)) (by decide) G5 _ g5 fun mn G6 hmn g6 f6 => ?_)
    refine ⟨by show 5 ≤ sizeLine; decide, fun t ht => ?_⟩
    have hct6 := (TK.frd f6 g5) _ _ hct5
    exact q _ _ ⟨⟨dd, pr, bu, wl, mn⟩, ⟨t, ct, rfl, upd_same, Ex.new ht _ _ hct6⟩, ⟨hdd, hpr, hbu, by show wl.length ≤ 8; omega, hwg, hmn⟩⟩ (g6.keep (Ex.new ht)) ((f05.trans f6).trans (FrD.of (Ex.new ht)))
  refine ⟨p, xs, rfl, .inl ⟨sq_of h5, fun qa hqa => ?_⟩⟩
  obtain ⟨ps, hps1, hps2, hpsg⟩ := pick p0 hx
  have e5 : Ex H5 (upd H5 qa (.tup xs)) := Ex.new hqa
  have hPs : PartsAt (upd H5 qa (.tup xs)) qa ps := ⟨xs, upd_same, hps1, fun i v hv => PPt.mo _ _ _ (TK.ex e5) (hps2 i v hv)⟩
  have psn : (ps.length : Int) = n := by omega
  have hPl5 : PlanAt (upd H5 qa (.tup xs)) pa pl := hPl.mono ((TK.frd f5 hT3).trans (TK.ex e5))
  have hT5 := hT5.keep e5
  have hP5 : (upd H5 qa (.tup xs)) Pt = some (.tbl #[]) := e5 _ _ (f5 _ _ hP3 nd1)
  generalize upd H5 qa (.tup xs) = H6 at hPs hPl5 hT5 hP5 ⊢
  clear e5 hps2 hps1 hx hxl hn5 hp h5 f5 hT3 hPl hP3 hqa
  -- the links
  refine q_asgQ (q_cb1 ?_)
  refine dl_lcRD (P := fun _ => PG PL1 (GLk n)) (Pn := fun m => 0 ≤ m ∧ m ≤ 1) (fun _ => PG.mo fun _ => PL1.mo) (Dr.imp (dr_take (fun H => ea_cons (ev_var rfl) (ea_cons ev_c ea_nil)) (by decide)) fun v hv => by omega) (fun x => rfl) (fun i H' Q f hT q => ?_) _ hT5 fun p H7 n7 xs hp hn7 hxl hx hT7 f7 h7 => ?_
  · refine q_tup (q_cons ((Dr.imp (dr_add dr_c (dr_take (fun H => ea_cons (ev_var rfl) (ea_cons ev_c ea_nil)) (by decide))) fun v ⟨x, y, hx, hy, hv⟩ => (by omega : v = 6 ∨ v = 7)) H' _ hT fun kd G1 hkd g1 f1 => ?_))
    refine q_cons (dr_take (m := n) (fun H => ea_cons (ev_var rfl) (ea_cons (ev_var rfl) ea_nil)) (by omega) G1 _ g1 fun one G2 hone g2 f2 => ?_)
    refine q_cons (one_take _ 7 _ (fun H => ea_cons (ev_var rfl) (ea_cons ev_c ea_nil)) (by decide) G2 _ g2 fun r G3 hr3 g3 f3 => ?_)
    refine q_cons (dr_take (m := n) (fun H => ea_cons (ev_var rfl) (ea_cons (ev_var rfl) ea_nil)) (by omega) G3 _ g3 fun other G4 hother g4 f4 => ?_)
    refine q_cons (one_take _ 7 _ (fun H => ea_cons (ev_var rfl) (ea_cons ev_c ea_nil)) (by decide) G4 _ g4 fun o G5 ho g5 f5 => ?_)
    refine ⟨by show 5 ≤ sizeLine; decide, fun t ht => ?_⟩
    exact q _ _ ⟨⟨kd, one, r, other, o⟩, ⟨t, rfl, upd_same⟩, ⟨hkd, hone, hr3, hother, ho⟩⟩ (g5.keep (Ex.new ht)) (((((f1.trans f2).trans f3).trans f4).trans f5).trans (FrD.of (Ex.new ht)))
  refine ⟨p, xs, rfl, .inl ⟨sq_of h7, fun la hla => ?_⟩⟩
  obtain ⟨lks, hlk1, hlk2, hlkg⟩ := pick l0 hx
  have e7 : Ex H7 (upd H7 la (.tup xs)) := Ex.new hla
  have tk7 := (TK.frd f7 hT5).trans (TK.ex e7)
  have hLk : LnksAt (upd H7 la (.tup xs)) la lks := ⟨xs, upd_same, hlk1, fun i v hv => PL1.mo _ _ _ (TK.ex e7) (hlk2 i v hv)⟩
  have hPs7 := hPs.mono tk7
  have hPl7 := hPl5.mono tk7
  have hP7 : (upd H7 la (.tup xs)) Pt = some (.tbl #[]) := e7 _ _ (f7 _ _ hP5 nd1)
  rw [← psn] at hlkg
  have LI : LawIn pl ps lks := ⟨pl1, hplg, by omega, hpsg, by omega, hlkg⟩
  rw [← psn]
  generalize upd H7 la (.tup xs) = H8 at hLk hPs7 hPl7 hP7 ⊢
  clear e7 hlk2 hlk1 hx hxl hn7 hp h7 f7 hT5 hPl5 hPs hP5 hla hT7 tk7 pl1 hplg hpsg hlkg one_take psn hn
  obtain ⟨μ, rq, F⟩ := HF pl ps lks LI
  have noB : bootG pl ps lks (lnsOf lks) = none → False := fun h => by rw [F.boot] at h; cases h
  have noC : chk μ rq eqN = false → False := fun h => by rw [F.ck] at h; cases h
  -- the lines
  obtain ⟨vl, hl1, hl2, hl3⟩ := id hLk
  refine q_asgP (P := PLn (lnsOf lks)) ?_ fun vln H9 e9 ⟨ra, hra, hLn⟩ => ?_
  · cases hlks : lks with
    | nil =>
      refine ep_if (b := false) (et_is (et_and (a := false) (b := false) (et_is (et_test (ev_op (ev_lenT (K := K) (ev_var rfl) (st_of hl1)) ev_c rv_I0)) (by rw [hl2, hlks]; rfl)) (fun h => by cases h)) rfl) (fun h => by cases h) fun _ => ep_lns (ps := []) (by decide) eps_nil
    | cons l r =>
      have hlen : vl.length = r.length + 1 := by rw [hl2, hlks]; rfl
      obtain ⟨v0, hv0⟩ : ∃ v0, vl[0]? = some v0 := ⟨vl[0]'(by omega), List.getElem?_eq_getElem _⟩
      obtain ⟨u, rfl, hu0⟩ := hl3 0 v0 hv0
      rw [hlks] at hu0
      refine ep_if (b := decide (l.k = 7)) (et_is (et_and (a := true) (et_is (et_test (ev_op (ev_lenT (K := K) (ev_var rfl) (st_of hl1)) ev_c rv_I0)) (by rw [hlen]; exact decide_eq_true (by omega))) fun _ => et_is (et_test (ev_op (ev_op (ev_op (ev_var rfl) ev_c (Evl.rv_ixT (st_of hl1) (atI_nat (j := 0) hv0))) ev_c (Evl.rv_ixT (st_of hu0) (atI_nat (j := 0) rfl))) ev_c (rv_eq rfl))) KD_dec) (by rw [Bool.true_and]; rfl)) (fun h7 => ?_) (fun h7 => ?_)
      · have : lnsOf (l :: r) = [⟨3, 0, 9⟩] := if_pos ⟨by simp, of_decide_eq_true h7⟩
        rw [this]
        exact ep_lns (ps := [⟨3, 0, 9⟩]) (by decide) (eps_cons PN1.mo (ep_n1 (ea_cons ev_c (ea_cons ev_c (ea_cons ev_c ea_nil)))) eps_nil)
      · have : lnsOf (l :: r) = [] := if_neg fun z => of_decide_eq_false h7 z.2
        rw [this]
        exact ep_lns (ps := []) (by decide) eps_nil
  subst hra
  have tk9 := TK.ex e9
  -- the memory
  refine q_asgC (vs := [.ref pa, .ref qa, .ref la, .ref ra]) (ea_cons (ev_var rfl) (ea_cons (ev_var rfl) (ea_cons (ev_var rfl) (ea_cons (ev_var rfl) ea_nil)))) fun H10 e10 => ⟨pa, qa, la, ra, pl, ps, lks, lnsOf lks, rfl, (hPl7.mono tk9).mono (TK.ex e10), (hPs7.mono tk9).mono (TK.ex e10), (hLk.mono tk9).mono (TK.ex e10), hLn.mono (TK.ex e10), F.ok, fun hn _ _ => (noB hn).elim, fun μ' hμ' m wl dx dd H11 _ _ e11 hM hi hdd => ?_⟩
  rw [F.boot] at hμ'
  cases hμ'
  -- the state
  refine q_asgC (vs := [.ref m]) (ea_cons (ev_var rfl) ea_nil) fun H12 e12 => ⟨m, wl, dx, dd, μ, rq, eqN, rfl, hM.keep e12, e12 _ _ hi, e12 _ _ hdd, F.q, fun st kvs H13 _ e13 hst hk => ?_⟩
  have e813 := ((e9.trans e10).trans e11).trans (e12.trans e13)
  have hPl13 := hPl7.mono (TK.ex e813)
  have hPs13 := hPs7.mono (TK.ex e813)
  have hLk13 := hLk.mono (TK.ex e813)
  have hLn13 := hLn.mono (TK.ex (e10.trans (e11.trans (e12.trans e13))))
  have hP13 := e813 _ _ hP7
  have hM13 := hM.keep (e12.trans e13)
  have hi13 := (e12.trans e13) _ _ hi
  have hdd13 := (e12.trans e13) _ _ hdd
  clear hPl7 hPs7 hLk hLn hP7 hM hi hdd tk9 e813 e9 e10 e11 e12 e13 hl1 hl2 hl3
  refine q_asg (v := .int (2 + 5 * (ps.length : Int))) (ev_op ev_c (ev_op ev_c (ev_var rfl) (rv_I (.inl ⟨by decide, by decide⟩))) rv_I0) fun H14 e14 => ?_
  have hPl := hPl13.mono (TK.ex e14)
  have hPs := hPs13.mono (TK.ex e14)
  have hLk := hLk13.mono (TK.ex e14)
  have hLn := hLn13.mono (TK.ex e14)
  have hP := e14 _ _ hP13
  have hM := hM13.keep e14
  have hi := e14 _ _ hi13
  have hdd := e14 _ _ hdd13
  have hk := hk.ex e14
  have hst := e14 _ _ hst
  clear hPl13 hPs13 hLk13 hLn13 hP13 hM13 hi13 hdd13 e14
  obtain ⟨vp, hp1, hp2, hp3⟩ := id hPl
  obtain ⟨v0, hv0⟩ : ∃ v0, vp[0]? = some v0 := ⟨vp[0]'(by have := LI.pl1; omega), List.getElem?_eq_getElem _⟩
  obtain ⟨u0, rfl, hu0⟩ := hp3 0 v0 hv0
  obtain ⟨w1, vplan, k1⟩ := hk.some (k := Sum.inr "plan") (by rfl)
  rw [F.plan] at k1
  obtain ⟨ap, rfl, hap⟩ := hd_plan k1
  obtain ⟨w2, vleft, k2⟩ := hk.some (k := Sum.inr "left") (by rfl)
  cases k2.int_inv
  obtain ⟨w3, vpart, k3⟩ := hk.some (k := Sum.inr "part") (by rfl)
  cases k3.int_inv
  obtain ⟨w4, vtime, k4⟩ := hk.some (k := Sum.inr "time") (by rfl)
  cases k4.int_inv
  have w1b : 0 ≤ μ (ix 0 1) ∧ μ (ix 0 1) < 4 := by rw [F.w1]; decide
  refine q_when (b := false) (et_or0 (et_ne (ev_dg (k := Sum.inr "plan") (ev_var rfl) ev_c hst vplan) (ev_var rfl) (ne_plan hap hPl)) (et_or0 (et_neI (ev_dg (k := Sum.inr "left") (ev_var rfl) ev_c hst vleft) (ev_op (ev_op (ev_var rfl) ev_c (Evl.rv_ixT (st_of hp1) (atI_nat (j := 0) hv0))) ev_c (Evl.rv_ixT (st_of hu0) (atI_nat (j := 1) rfl))) F.w2) (et_or0 (et_neI (ev_dg (k := Sum.inr "part") (ev_var rfl) ev_c hst vpart) ev_c F.w1) (et_or0 (et_neI (ev_dg (k := Sum.inr "time") (ev_var rfl) ev_c hst vtime) ev_c F.w0) (et_or0 (et_neI (ev_pure (z := .int (mdom μ)) (ea_cons (ev_var rfl) ea_nil) fun H1 e Q q => ⟨m, wl, μ, rfl, hM.keep e, w1b.1, w1b.2, q⟩) (ev_op (ev_op (ev_var rfl) ev_c (Evl.rv_ixT (st_of hp1) (atI_nat (j := 0) hv0))) ev_c (Evl.rv_ixT (st_of hu0) (atI_nat (j := 0) rfl))) F.dom) (et_is (et_test (ev_op (ev_pure (z := .non) (ea_cons (ev_var rfl) ea_nil) fun H1 e Q q => ⟨m, wl, dx, dd, μ, rq, eqN, rfl, hM.keep e, e _ _ hi, e _ _ hdd, fun i => (F.bd i).1, fun _ => F.q, fun _ => q, fun hc _ _ => (noC hc).elim⟩) ev_c rv_notN)) rfl)))))) (fun h => by cases h) fun _ H15 e15 => ?_
  have hPl := hPl.mono (TK.ex e15)
  have hPs := hPs.mono (TK.ex e15)
  have hLk := hLk.mono (TK.ex e15)
  have hLn := hLn.mono (TK.ex e15)
  have hP := e15 _ _ hP
  have hM := hM.keep e15
  have hi := e15 _ _ hi
  have hdd := e15 _ _ hdd
  have hk := hk.ex e15
  have hst := e15 _ _ hst
  have hp1 := e15 _ _ hp1
  have hu0 := e15 _ _ hu0
  clear e15 hp3 hap vplan vleft vpart vtime k1
  obtain ⟨td, tk, vt, htd, htk⟩ := ab_dct (x := "threads") hk (by rfl)
  obtain ⟨gd, gk, vg, hgd, hgk⟩ := ab_dct (x := "pages") hk (by rfl)
  obtain ⟨bd, bk, vb, hbd, hbk⟩ := ab_dct (x := "tables") hk (by rfl)
  obtain ⟨ca, ck, vc, hca, hck⟩ := ab_dct (x := "caps") hk (by rfl)
  obtain ⟨vq, hq1, hq2, hq3⟩ := id hPs
  obtain ⟨vl, hl1, hl2, hl3⟩ := id hLk
  refine Evl.q_forR1 (n := (ps.length : Int)) (ea_cons (ev_var rfl) ea_nil) (by have := LI.ps1; omega) (fun i σ' H' => ∃ x4 x6 x12 x13 x14 x15, σ' = [some (.ref a), some (.ref d), some (.int (ps.length : Int)), some (.ref pa), x4, some (.ref qa), x6, some (.ref la), some (.ref ra), some (.ref m), some (.ref st), some (.int (2 + 5 * (ps.length : Int))), x12, x13, x14, x15, none, none, none, none, none, none] ∧ Ex H15 H') (fun H16 e16 => ⟨_, _, _, _, _, _, rfl, e16⟩) ?_ ?_
  · rintro i σ' H' hi' ⟨x4, x6, x12, x13, x14, x15, rfl, eH⟩
    have hil : i < ps.length := by omega
    have ft := F.th i hil
    have fc := F.c0 i hil
    obtain ⟨v, hv⟩ : ∃ v, vq[i]? = some v := ⟨vq[i]'(by omega), List.getElem?_eq_getElem _⟩
    obtain ⟨ta, cp, rfl, hta, hcp⟩ := hq3 i v hv
    have gp : GPt (ps.getD i p0) := LI.psg _ (by rw [List.getD_eq_getElem?_getD, List.getElem?_eq_getElem hil]; exact List.getElem_mem hil)
    generalize hpp : ps.getD i p0 = p at ft fc hta hcp gp
    obtain ⟨oa, ok, vo, hoa, hok⟩ := thr_yes htk ft.is
    have pk : ∀ {H'' : Hp} {y14 y15 : Option V} (j : Nat) {x : V}, Ex H' H'' → ([.int p.d, .int p.pr, .int p.bu, .ref cp, .int p.mn] : List V)[j]? = some x → Ev (tOp (rIxT K) (tOp (rIxT K) (tVar 5) (tVar 4)) (tC (.int (j : Int)))) [some (.ref a), some (.ref d), some (.int (ps.length : Int)), some (.ref pa), some (.int (i : Int)), some (.ref qa), x6, some (.ref la), some (.ref ra), some (.ref m), some (.ref st), some (.int (2 + 5 * (ps.length : Int))), some (.ref oa), some (.int (2 + 5 * (i : Int))), y14, y15, none, none, none, none, none, none] H'' x := fun {H'' y14 y15} j {x} e hx => ev_op (ev_op (ev_var rfl) (ev_var rfl) (Evl.rv_ixT (st_of (e _ _ (eH _ _ hq1))) (atI_nat hv))) ev_c (Evl.rv_ixT (st_of (e _ _ (eH _ _ hta))) (atI_nat hx))
    refine q_parV (ev_dg (k := Sum.inl (3 + 5 * (i : Int))) (ev_dg (k := Sum.inr "threads") (ev_var rfl) ev_c (eH _ _ hst) vt) (ev_op ev_c (ev_op ev_c (ev_var rfl) (rv_I (.inl ⟨by decide, by decide⟩))) rv_I0) (eH _ _ htd) vo) (ev_op ev_c (ev_op ev_c (ev_var rfl) (rv_I (.inl ⟨by decide, by decide⟩))) rv_I0) fun H2 e2 => ?_
    have eH2 := eH.trans e2
    have ho2 := eH2 _ _ hoa
    refine q_when (b := false) (et_test (ev_opUU (xs := [p.d, p.pr, p.bu, p.bu, 1, 0].map V.int) (ys := [p.d, p.pr, p.bu, p.bu, 1, 0].map V.int) (eu_tup (ea_cons (ev_is (ev_dg (ev_var rfl) ev_c ho2 (th_domain hok)) (by rw [ft.dom])) (ea_cons (ev_is (ev_dg (ev_var rfl) ev_c ho2 (th_priority hok)) (by rw [ft.pr])) (ea_cons (ev_is (ev_dg (ev_var rfl) ev_c ho2 (th_budget hok)) (by rw [ft.bu])) (ea_cons (ev_is (ev_dg (ev_var rfl) ev_c ho2 (th_left hok)) (by rw [ft.lf])) (ea_cons (ev_is (ev_dg (ev_var rfl) ev_c ho2 (th_state hok)) (by rw [ft.st])) (ea_cons (ev_is (ev_dg (ev_var rfl) ev_c ho2 (th_pc hok)) (by rw [ft.pc])) ea_nil)))))) (by show 6 ≤ 100000; decide)) (eu_tup (ea_cons (pk 0 e2 rfl) (ea_cons (pk 1 e2 rfl) (ea_cons (pk 2 e2 rfl) (ea_cons (pk 2 e2 rfl) (ea_cons ev_c (ea_cons ev_c ea_nil)))))) (by show 6 ≤ 100000; decide)) fun x y H1 hx hy _ => ne_ints hx hy)) (fun h => by cases h) fun _ H3 e3 => ?_
    have eH3 := eH2.trans e3
    have e23 := e2.trans e3
    have ho3 := e3 _ _ ho2
    have hcp3 := eH3 _ _ hcp
    obtain ⟨a5, v5, h5⟩ := page_at hgk ft.p1.1
    rw [ft.p1.2] at h5
    obtain ⟨a6, v6, h6⟩ := page_at hgk ft.p2.1
    rw [ft.p2.2] at h6
    have gw := gp.wl
    refine q_when (b := false) (et_or0 (et_ne (ev_is (ev_dg (ev_var rfl) ev_c ho3 (th_caps hok)) (by rw [ft.cp]; rfl : oI _ = .int (2 + 5 * (i : Int)))) (ev_var rfl) (ne_int rfl)) (et_or0 (et_neI (i := 4 + 5 * (i : Int)) (ev_is (ev_dg (ev_var rfl) ev_c ho3 (th_table hok)) (by rw [ft.tb]; rfl)) (ev_op (ev_var rfl) ev_c rv_I0) (by omega)) (et_or0 (et_test (ev_opVS (ys := (p.ws ++ List.replicate (64 - (p.ws.length : Int)).toNat 0).map V.int) (ev_dg (k := Sum.inl ((5 + 5 * i : Nat) : Int)) (ev_dg (k := Sum.inr "pages") (ev_var rfl) ev_c (eH3 _ _ hst) vg) (ev_is (ev_op (ev_var rfl) ev_c rv_I0) (by show V.int _ = V.int _; congr 1; omega)) (eH3 _ _ hgd) v5) (fun G g => es_is (es_catA (es_ev (pk 3 (e23.trans g) rfl) (g _ _ hcp3)) (fun G' g' => es_U (eu_repT (x := .int 0) (n := 64 - (p.ws.length : Int)) ⟨by omega, by omega⟩ (eu_tup (ea_cons ev_c ea_nil) (by show 1 ≤ 100000; decide)) (fun G2 g2 => ev_is (ev_op ev_c (ev_lenT (K := K) (pk 3 (((e23.trans g).trans g').trans g2) rfl) (st_of (g2 _ _ (g' _ _ (g _ _ hcp3))))) rv_I0) (by rw [List.length_map])))) (by rw [List.length_map, List.length_replicate]; omega)) (by rw [List.map_append, List.map_replicate])) fun q G hq g => ne_ints (g _ _ (eH3 _ _ h5)) hq)) (et_test (ev_opVS (ys := (List.replicate (Int.toNat 64) (0 : Int)).map V.int) (ev_dg (k := Sum.inl ((6 + 5 * i : Nat) : Int)) (ev_dg (k := Sum.inr "pages") (ev_var rfl) ev_c (eH3 _ _ hst) vg) (ev_is (ev_op (ev_var rfl) ev_c rv_I0) (by show V.int _ = V.int _; congr 1; omega)) (eH3 _ _ hgd) v6) (fun G g => es_is (es_U (eu_repT (x := .int 0) (n := 64) ⟨by decide, by decide⟩ (eu_tup (ea_cons ev_c ea_nil) (by show 1 ≤ 100000; decide)) (fun G2 g2 => ev_c))) (by rw [List.map_replicate])) fun q G hq g => ne_ints (g _ _ (eH3 _ _ h6)) hq))))) (fun h => by cases h) fun _ H4 e4 => ?_
    have eH4 := eH3.trans e4
    have e24 := e23.trans e4
    obtain ⟨a4, k4', v4, h4, hr4⟩ := tab_at hbk ft.rw_.1
    rw [ft.rw_.2] at hr4
    refine q_when (b := false) (et_test (ev_neD2 (ev_dg (k := Sum.inl ((4 + 5 * i : Nat) : Int)) (ev_dg (k := Sum.inr "tables") (ev_var rfl) ev_c (eH4 _ _ hst) vb) (ev_is (ev_op (ev_var rfl) ev_c rv_I0) (by show V.int _ = V.int _; congr 1; omega)) (eH4 _ _ hbd) v4) (eH4 _ _ h4) (hr4.ex eH4) (ea_cons (ev_is (ev_op (ev_var rfl) ev_c rv_I0) (by congr 1; omega)) (ea_cons ev_c (ea_cons (ev_op (ev_op (ev_var rfl) ev_c (rv_I (.inr ⟨by decide, by decide⟩))) ev_c rv_I0) ea_nil))) (ea_cons (ev_is (ev_op (ev_var rfl) ev_c rv_I0) (by congr 1; omega)) (ea_cons ev_c (ea_cons (ev_op (ev_op (ev_var rfl) ev_c (rv_I (.inr ⟨by decide, by decide⟩))) ev_c rv_I0) ea_nil))) (by show 3 ≤ 1000; decide) (by show 3 ≤ 1000; decide))) (fun h => by cases h) fun _ H5 e5 => ?_
    have eH5 := eH4.trans e5
    have e25 := e24.trans e5
    refine q_asg (v := .int (bef ps i)) (ev_sum (K := K) (ns := (List.range i).map fun j => (ps.getD j p0).mn) (el_is (el_lcR1 (n := (i : Int)) (fun _ => true) (fun j => .int (ps.getD j p0).mn) (ea_cons (ev_var rfl) ea_nil) (by have := LI.ps1; omega) (fun x => rfl) (fun j H e hj => et_yes) (fun j G g hj _ => ?_)) ?_)) fun H6 e6 => ?_
    · obtain ⟨vj, hvj⟩ : ∃ v, vq[j]? = some v := ⟨vq[j]'(by omega), List.getElem?_eq_getElem _⟩
      obtain ⟨tj, cj, rfl, htj, _⟩ := hq3 j vj hvj
      exact ev_op (ev_op (ev_var rfl) (ev_var rfl) (Evl.rv_ixT (st_of (g _ _ (eH5 _ _ hq1))) (atI_nat hvj))) ev_c (Evl.rv_ixT (st_of (g _ _ (eH5 _ _ htj))) (atI_nat (j := 4) rfl))
    · unfold given
      rw [List.filter_eq_self.mpr (fun _ _ => rfl), List.map_map]
      rfl
    have eH6 := eH5.trans e6
    have e26 := e25.trans e6
    refine q_asgU (xs := [1, 2 + 5 * (ps.length : Int) + (lks.length : Int) + bef ps i, 7, 0, p.mn, 0].map V.int) (eu_tup (ea_cons ev_c (ea_cons (ev_op (ev_is (ev_op (ev_var rfl) (ev_lenT (K := K) (ev_var rfl) (st_of (eH6 _ _ hl1))) rv_I0) (by rw [hl2])) (ev_var rfl) rv_I0) (ea_cons ev_c (ea_cons ev_c (ea_cons (pk 4 e26 rfl) (ea_cons ev_c ea_nil)))))) (by show 6 ≤ 100000; decide)) fun du H7 _ e7 hdu => ?_
    have eH7 := eH6.trans e7
    have e27 := e26.trans e7
    obtain ⟨a3, v3, h3⟩ := cap_yes hck ft.c3.1
    rw [ft.c3.2] at h3
    refine s_when (b := false) (et_or0 ?_ (et_test (ev_opVS (ys := [5, 3 + 5 * (i : Int), 7, 0, 1, 0].map V.int) (ev_dg (k := Sum.inl ((2 + 5 * (i : Int)) * 8 + 3)) (ev_dg (k := Sum.inr "caps") (ev_var rfl) ev_c (eH7 _ _ hst) vc) (ev_op (ev_op (ev_var rfl) ev_c (rv_I (.inr ⟨by decide, by decide⟩))) ev_c rv_I0) (eH7 _ _ hca) v3) (fun G g => es_U (eu_tup (ea_cons ev_c (ea_cons (ev_is (ev_op (ev_var rfl) ev_c rv_I0) (by congr 1; omega)) (ea_cons ev_c (ea_cons ev_c (ea_cons ev_c (ea_cons ev_c ea_nil)))))) (by show 6 ≤ 100000; decide))) fun q G hq g => ne_ints (g _ _ (eH7 _ _ h3)) hq))) (fun h => by cases h) fun _ H8' e8' => ⟨_, _, _, _, _, _, rfl, eH7.trans e8'⟩
    by_cases hmn : 0 < p.mn
    · obtain ⟨s0, c0⟩ := fc.1 hmn
      obtain ⟨a0, v0', h0'⟩ := cap_yes hck s0
      rw [c0] at h0'
      exact et_ne (evx_dget1 (k := Sum.inl ((2 + 5 * (i : Int)) * 8)) (v := .ref a0) (ev_dg (k := Sum.inr "caps") (ev_var rfl) ev_c (eH7 _ _ hst) vc) (ev_op (ev_var rfl) ev_c (rv_I (.inr ⟨by decide, by decide⟩))) (RdX.refl _) (eH7 _ _ hca) (by rw [v0']; rfl)) (ev_if (b := true) (et_is (et_test (ev_op (pk 4 e27 rfl) ev_c rv_I0)) (decide_eq_true hmn)) (fun _ => ev_var rfl) (fun h => by cases h)) (ne_ints (eH7 _ _ h0') hdu)
    · have s0 := fc.2 hmn
      exact et_ne (evx_dget1 (k := Sum.inl ((2 + 5 * (i : Int)) * 8)) (v := .non) (ev_dg (k := Sum.inr "caps") (ev_var rfl) ev_c (eH7 _ _ hst) vc) (ev_op (ev_var rfl) ev_c (rv_I (.inr ⟨by decide, by decide⟩))) (RdX.refl _) (eH7 _ _ hca) (by rw [cap_no hck s0]; rfl)) (ev_if (b := false) (et_is (et_test (ev_op (pk 4 e27 rfl) ev_c rv_I0)) (decide_eq_false hmn)) (fun h => by cases h) (fun _ => ev_c)) ne_non
  · rintro σ' H16 ⟨x4, x6, x12, x13, x14, x15, rfl, e16⟩
    have hPl := hPl.mono (TK.ex e16)
    have hPs := hPs.mono (TK.ex e16)
    have hP := e16 _ _ hP
    have hM := hM.keep e16
    have hst := e16 _ _ hst
    have hca := e16 _ _ hca
    have hp1 := e16 _ _ hp1
    have hu0 := e16 _ _ hu0
    have hq1 := e16 _ _ hq1
    have hl1 := e16 _ _ hl1
    have hLn := hLn.mono (TK.ex e16)
    have hck := hck.ex e16
    have hk := hk.ex e16
    have hq3 : ∀ (j : Nat) v, vq[j]? = some v → ∃ t c, v = .ref t ∧ H16 t = some (.tup [.int (ps.getD j p0).d, .int (ps.getD j p0).pr, .int (ps.getD j p0).bu, .ref c, .int (ps.getD j p0).mn]) := fun j v hv => by
      obtain ⟨t, c, a, b, _⟩ := hq3 j v hv
      exact ⟨t, c, a, e16 _ _ b⟩
    have hl3 : ∀ (j : Nat) v, vl[j]? = some v → ∃ t, v = .ref t ∧ H16 t = some (.tup [.int (lks.getD j l0).k, .int (lks.getD j l0).one, .int (lks.getD j l0).r, .int (lks.getD j l0).other, .int (lks.getD j l0).o]) := fun j v hv => by
      obtain ⟨t, a, b⟩ := hl3 j v hv
      exact ⟨t, a, e16 _ _ b⟩
    clear e16 hLk hi hdd vt htd htk vg hgd hgk vb hbd hbk
    generalize hfi : 2 + 5 * (ps.length : Int) = first
    refine q_cut (M := fun σ' H' => ∃ x12 x13 x14 x15 x16 x17 x18 x19 x20, σ' = [some (.ref a), some (.ref d), some (.int (ps.length : Int)), some (.ref pa), x4, some (.ref qa), x6, some (.ref la), some (.ref ra), some (.ref m), some (.ref st), some (.int first), x12, x13, x14, x15, x16, x17, x18, x19, x20, none] ∧ Ex H16 H') ?_ ?_
    · refine Evl.s_when (b := decide (lks.length = 1)) (et_is (et_test (ev_op (ev_lenT (K := K) (ev_var rfl) (st_of hl1)) ev_c (rv_eq rfl))) (by rw [KD_dec, hl2, decide_eq_decide]; omega)) (fun hb H17 e17 => ?_) (fun _ H17 e17 => ⟨_, _, _, _, _, _, _, _, _, rfl, e17⟩)
      obtain ⟨l, hlk⟩ : ∃ l, lks = [l] := by
        have := of_decide_eq_true hb
        match lks, this with
        | [l], _ => exact ⟨l, rfl⟩
      obtain ⟨v, hv⟩ : ∃ v, vl[0]? = some v := ⟨vl[0]'(by rw [hl2, hlk]; exact Nat.one_pos), List.getElem?_eq_getElem _⟩
      obtain ⟨tl, rfl, htl⟩ := hl3 0 v hv
      have hg0 : lks.getD 0 l0 = l := by rw [hlk]; rfl
      rw [hg0] at htl
      have gl : GLk (ps.length : Int) l := LI.lkg l (by rw [hlk]; exact List.mem_singleton.mpr rfl)
      obtain ⟨fk, ⟨s1, c1⟩, s2, c2⟩ := F.lk l hlk
      have hn3 := LI.ps1
      obtain ⟨o1, o2⟩ := gl.one
      obtain ⟨o3, o4⟩ := gl.other
      rw [hfi] at fk c1 c2
      obtain ⟨a1, v1, h1⟩ := cap_yes hck s1
      rw [c1] at h1
      obtain ⟨a2, v2, h2⟩ := cap_yes hck s2
      rw [c2] at h2
      obtain ⟨ld, lk', vln', hld, hlk'⟩ := ab_dct (x := "lines") hk (by rfl)
      have hlk' : HDk [st] H16 lk' (if lnsOf lks = [] then [] else [(Sum.inl 3, .tup ([2 + 5 * (ps.length : Int), 9].map DD.int))]) := by
        rw [← F.ln]
        exact hlk'
      refine q_asgG (ev_op (ev_var rfl) ev_c (Evl.rv_ixT (st_of (e17 _ _ hl1)) (atI_nat (j := 0) hv))) fun H18 e18 => ⟨tl, _, rfl, st_of (e18 _ _ (e17 _ _ htl)), rfl, _, _, rfl, _, _, rfl, _, _, rfl, _, _, rfl, _, _, rfl, rfl, ?_⟩
      have e1618 := e17.trans e18
      refine q_when (b := false) (et_or0 (et_neI (ev_kind (hM.keep e1618) (ev_var rfl) (ev_var rfl) ⟨by omega, by omega⟩) (ev_var rfl) fk) (et_test (ev_opVS (ys := [l.k, first, l.r, l.one + 1, 1, 0].map V.int) (ev_dg (k := Sum.inl ((2 + 5 * l.one) * 8 + 4)) (ev_dg (k := Sum.inr "caps") (ev_var rfl) ev_c (e1618 _ _ hst) vc) (ev_op (ev_op (ev_op ev_c (ev_op ev_c (ev_var rfl) (rv_I (.inl ⟨by decide, by decide⟩))) rv_I0) ev_c (rv_I (.inr ⟨by decide, by decide⟩))) ev_c rv_I0) (e1618 _ _ hca) v1) (fun G g => es_U (eu_tup (ea_cons (ev_var rfl) (ea_cons (ev_var rfl) (ea_cons (ev_var rfl) (ea_cons (ev_op (ev_var rfl) ev_c rv_I0) (ea_cons ev_c (ea_cons ev_c ea_nil)))))) (by show 6 ≤ 100000; decide))) fun q G hq g => ne_ints (g _ _ (e1618 _ _ h1)) hq))) (fun h => by cases h) fun _ H19 e19 => ?_
      have e1619 := e1618.trans e19
      refine Evl.s_when (b := false) (et_or0 (et_test (ev_opVS (ys := [l.k, first, l.o, l.other + 1, 1, 0].map V.int) (ev_dg (k := Sum.inl ((2 + 5 * l.other) * 8 + (if l.one = l.other then 5 else 4))) (ev_dg (k := Sum.inr "caps") (ev_var rfl) ev_c (e1619 _ _ hst) vc) (ev_op (ev_op (ev_op ev_c (ev_op ev_c (ev_var rfl) (rv_I (.inl ⟨by decide, by decide⟩))) rv_I0) ev_c (rv_I (.inr ⟨by decide, by decide⟩))) (ev_if (b := decide (l.one = l.other)) (v := .int (if l.one = l.other then 5 else 4)) (et_is (et_test (ev_op (ev_var rfl) (ev_var rfl) (rv_eq rfl))) KD_dec) (fun h => ev_is ev_c (by rw [if_pos (of_decide_eq_true h)])) (fun h => ev_is ev_c (by rw [if_neg (of_decide_eq_false h)]))) rv_I0) (e1619 _ _ hca) v2) (fun G g => es_U (eu_tup (ea_cons (ev_var rfl) (ea_cons (ev_var rfl) (ea_cons (ev_var rfl) (ea_cons (ev_op (ev_var rfl) ev_c rv_I0) (ea_cons ev_c (ea_cons ev_c ea_nil)))))) (by show 6 ≤ 100000; decide))) fun q G hq g => ne_ints (g _ _ (e1619 _ _ h2)) hq)) ?_) (fun h => by cases h) fun _ H20 e20 => ⟨_, _, _, _, _, _, _, _, _, rfl, e1619.trans e20⟩
      obtain ⟨vn, hn1, hn2, _⟩ := hLn
      cases hns : lnsOf lks with
      | nil =>
        rw [hns, if_pos rfl] at hlk'
        rw [hns] at hn2
        cases hlk'
        exact et_test (ev_neIf0 (ev_dg (k := Sum.inr "lines") (ev_var rfl) ev_c (e1619 _ _ hst) vln') (et_is (et_test (ev_op (ev_lenT (K := K) (ev_var rfl) (st_of (e1619 _ _ hn1))) ev_c rv_I0)) (by rw [hn2]; rfl)) (e1619 _ _ hld))
      | cons b r =>
        rw [hns, if_neg (fun z => by cases z), hfi] at hlk'
        rw [hns] at hn2
        exact et_test (ev_neIf1 (xs := [first, 9]) (ev_dg (k := Sum.inr "lines") (ev_var rfl) ev_c (e1619 _ _ hst) vln') (et_is (et_test (ev_op (ev_lenT (K := K) (ev_var rfl) (st_of (e1619 _ _ hn1))) ev_c rv_I0)) (by rw [hn2]; exact decide_eq_true (by rw [List.length_cons]; omega))) (e1619 _ _ hld) (hlk'.ex e1619) (ea_cons (ev_var rfl) (ea_cons ev_c ea_nil)) (by show 2 ≤ 1000; decide))
    rintro σ' H17 ⟨y12, y13, y14, y15, x16, x17, x18, x19, x20, rfl, e17⟩
    have hPl := hPl.mono (TK.ex e17)
    have hPs := hPs.mono (TK.ex e17)
    have hP := e17 _ _ hP
    have hM := hM.keep e17
    have hp1 := e17 _ _ hp1
    have hu0 := e17 _ _ hu0
    have hq1 := e17 _ _ hq1
    have hn3 := LI.ps1
    have rk : EvHL [] (tLc (iRng1 (tCons (tVar 2) tNil)) (gName 4) (tTest (tOp rEq (tOp (rIxT K) (tOp (rIxT K) (tVar 5) (tVar 4)) (tC (V.int 0))) (tOp (rIxT K) (tOp (rIxT K) (tVar 3) (tC (V.int 0))) (tC (V.int 0))))) (tTup (tCons (tOp (rIxT K) (tOp (rIxT K) (tVar 5) (tVar 4)) (tC (V.int 1))) (tCons (tOp (rI0 fun i j => V.int (i - j)) (tC (V.int 0)) (tVar 4)) tNil))) (List.map (fun x => x.snd) [(Str.ofString "k", 4)])) [some (.ref a), some (.ref d), some (.int (ps.length : Int)), some (.ref pa), x4, some (.ref qa), x6, some (.ref la), some (.ref ra), some (.ref m), some (.ref st), some (.int first), y12, y13, y14, y15, x16, x17, x18, x19, x20, none] H17 (givD (ps.length : Int).toNat (fun k => decide ((ps.getD k p0).d = (pl.getD 0 (0, 0)).1)) (fun k => DD.tup ([(ps.getD k p0).pr, -(k : Int)].map DD.int))) := by
      refine ehl_R1 _ _ AllS.nil (ea_cons (ev_var rfl) ea_nil) (by omega) (fun x => rfl) (fun i G g hi => ?_) (fun i G g hi _ => ?_)
      · obtain ⟨v, hv⟩ : ∃ v, vq[i]? = some v := ⟨vq[i]'(by omega), List.getElem?_eq_getElem _⟩
        obtain ⟨ti, ci, rfl, hti⟩ := hq3 i v hv
        exact et_is (et_test (ev_op (ev_op (ev_op (ev_var rfl) (ev_var rfl) (Evl.rv_ixT (st_of (g _ _ hq1)) (atI_nat hv))) ev_c (Evl.rv_ixT (st_of (g _ _ (e17 _ _ hti))) (atI_nat (j := 0) rfl))) (ev_op (ev_op (ev_var rfl) ev_c (Evl.rv_ixT (st_of (g _ _ hp1)) (atI_nat (j := 0) hv0))) ev_c (Evl.rv_ixT (st_of (g _ _ hu0)) (atI_nat (j := 0) rfl))) (rv_eq rfl))) KD_dec
      · obtain ⟨v, hv⟩ : ∃ v, vq[i]? = some v := ⟨vq[i]'(by omega), List.getElem?_eq_getElem _⟩
        obtain ⟨ti, ci, rfl, hti⟩ := hq3 i v hv
        exact ei_tupI (xs := [(ps.getD i p0).pr, -(i : Int)]) (eu_tup (ea_cons (ev_op (ev_op (ev_var rfl) (ev_var rfl) (Evl.rv_ixT (st_of (g _ _ hq1)) (atI_nat hv))) ev_c (Evl.rv_ixT (st_of (g _ _ (e17 _ _ hti))) (atI_nat (j := 1) rfl))) (ea_cons (ev_is (ev_op ev_c (ev_var rfl) rv_I0) (by congr 1; omega)) ea_nil)) (by show 2 ≤ 100000; decide))
    have hrk : givD (ps.length : Int).toNat (fun k => decide ((ps.getD k p0).d = (pl.getD 0 (0, 0)).1)) (fun k => DD.tup ([(ps.getD k p0).pr, -(k : Int)].map DD.int)) = (rankL pl ps).map fun q => DD.tup [.int q.1, .int q.2] := by
      rw [Int.toNat_natCast]
      unfold givD rankL
      rw [List.map_map]
      rfl
    rw [hrk] at rk
    refine q_asgQ (rk H17 (Ex.refl _) _ fun rp us H18 _ e18 hrp hus => ?_)
    have w1b : 0 ≤ μ (ix 0 1) ∧ μ (ix 0 1) < 4 := by rw [F.w1]; decide
    have g0 : GPl (pl.getD 0 (0, 0)) := LI.plg _ (by rw [List.getD_eq_getElem?_getD, List.getElem?_eq_getElem (by have := LI.pl1; omega)]; exact List.getElem_mem _)
    have hch : ∀ {y21 : Option V} G, Ex H18 G → Ev (tCall (sp_chosen K) [] E0 (tCons (tVar 9) tNil)) [some (.ref a), some (.ref d), some (.int (ps.length : Int)), some (.ref pa), x4, some (.ref qa), x6, some (.ref la), some (.ref ra), some (.ref m), some (.ref st), some (.int first), y12, y13, y14, y15, x16, x17, x18, x19, x20, y21] G (oI (mfrom μ 4)) := fun {y21} G g => ev_pure (z := oI (mfrom μ 4)) (ea_cons (ev_var rfl) ea_nil) fun H1 e Q q => ⟨m, wl, μ, rfl, hM.keep ((e18.trans g).trans e), w1b.1, w1b.2, by rw [F.dom]; exact g0.a.1, by rw [F.dom]; exact g0.a.2, q⟩
    refine q_when (b := false) ?_ (fun h => by cases h) fun _ H19 e19 => ?_
    · cases hr : rankL pl ps with
      | nil =>
        rw [hr] at hus
        have h0 := F.ch0 hr
        rw [h0] at hch
        cases hus
        exact et_is (et_test (ev_op (hch H18 (Ex.refl _)) (ev_if (b := true) (et_is (et_test (ev_op (ev_lenL (K := K) (ev_var rfl) (sq_of hrp)) ev_c (rv_eq rfl))) rfl) (fun _ => ev_c) (fun h => by cases h)) (rv_ne rfl))) rfl
      | cons x r =>
        rw [hr] at hus
        have h0 := F.ch1 x r hr
        rw [h0] at hch
        have hl := hus.len
        rw [List.length_map, List.length_cons] at hl
        exact et_neI (i := 3 - 5 * (PySem.W.maxOf x r).2) (hch H18 (Ex.refl _)) (ev_if (b := false) (et_is (et_test (ev_op (ev_lenL (K := K) (ev_var rfl) (sq_of hrp)) ev_c (rv_eq rfl))) (by rw [KD_dec]; exact decide_eq_false (by have := hl; omega))) (fun h => by cases h) (fun _ => ev_op ev_c (ev_op ev_c (ev_ixS (es_max (ev_var rfl) hrp hus) (fun G g => ev_c) (atI_nat (j := 1) rfl)) (rv_I (.inl ⟨by decide, by decide⟩))) rv_I0)) rfl
    have e1719 := e18.trans e19
    exact callA (vs := [.ref m, .ref pa, .ref qa]) (ea_cons (ev_var rfl) (ea_cons (ev_var rfl) (ea_cons (ev_var rfl) ea_nil))) fun H20 e20 => ⟨m, wl, pa, qa, μ, pl, ps, rfl, hM.keep (e1719.trans e20), hPl.mono (TK.ex (e1719.trans e20)), hPs.mono (TK.ex (e1719.trans e20)), by omega, by omega, F.bd, (e1719.trans e20) _ _ hP, F.bent, F.wrong, k⟩
end
end KX

namespace KA
/-! ### reading behind puts -/
theorem mlay_other {μ : Mem} {f p : Int} {g : Nat → Int} {j : Nat} : ∀ n : Nat, (∀ k : Nat, k < n → j ≠ ix f (p + (k : Int))) → mlay μ f p g n j = μ j
  | 0, _ => rfl
  | n + 1, h => by
    show mset (mlay μ f p g n) (ix f (p + (n : Int))) (g n) j = μ j
    rw [mset_ne (h n (Nat.lt_succ_self n))]
    exact mlay_other n fun k hk => h k (Nat.lt_succ_of_lt hk)
theorem mlay_at {μ : Mem} {f p : Int} {g : Nat → Int} (h0 : 0 ≤ f * 64 + p) {i : Nat} : ∀ n : Nat, i < n → mlay μ f p g n (ix f (p + (i : Int))) = g i % 65536
  | 0, h => by omega
  | n + 1, h => by
    show mset (mlay μ f p g n) (ix f (p + (n : Int))) (g n) (ix f (p + (i : Int))) = g i % 65536
    by_cases e : i = n
    · subst e
      exact mset_same
    · rw [mset_ne (ix_ne (by omega) (by omega) (by omega))]
      exact mlay_at h0 n (by omega)
theorem mputs_other {μ : Mem} {s : Int} {c : Nat → Int} {j : Nat} : ∀ n : Nat, (∀ k : Nat, k < n → j ≠ (s * 8 + (k : Int)).toNat) → mputs μ s c n j = μ j
  | 0, _ => rfl
  | n + 1, h => by
    show mset (mputs μ s c n) (s * 8 + (n : Int)).toNat (c n) j = μ j
    rw [mset_ne (h n (Nat.lt_succ_self n))]
    exact mputs_other n fun k hk => h k (Nat.lt_succ_of_lt hk)
theorem mcap_other {μ : Mem} {s sz us : Int} {c : Nat → Int} {j : Nat} (h0 : 0 ≤ s) (h : (j : Int) < s * 8 ∨ s * 8 + 7 ≤ (j : Int)) : mcap μ s c sz us j = μ j := by
  unfold mcap
  rw [mset_ne (by omega), mset_ne (by omega), mset_ne (by omega)]
  exact mputs_other 4 fun k hk => by omega
theorem mcaps_other {μ : Mem} {F : Int} {j : Nat} (hF : 0 ≤ F) (h : (j : Int) < F * 64 ∨ F * 64 + 64 ≤ (j : Int)) : ∀ n : Nat, n ≤ 3 → mcaps μ F n j = μ j
  | 0, _ => rfl
  | n + 1, hn => by
    show mcap (mcaps μ F n) (F * 8 + ((n : Int) + 1)) (capN F n) 1 0 j = μ j
    rw [mcap_other (by omega) (by omega)]
    exact mcaps_other hF h n (by omega)
theorem mpgs_other {μ : Mem} {F : Int} {j : Nat} (hF : 0 ≤ F) (h : (j : Int) < F * 64 ∨ F * 64 + 64 ≤ (j : Int)) (h2 : (j : Int) < (F + 2) * 64 ∨ (F + 3) * 64 ≤ (j : Int)) : ∀ n : Nat, n ≤ 2 → mpgs μ F n j = μ j
  | 0, _ => rfl
  | n + 1, hn => by
    show ment (mcap (mpgs μ F n) (F * 8 + ((n : Int) + 6)) (at0 [2, F + ((n : Int) + 3), 7, 0]) 1 0) (F + 2) ((n : Int) + 3 - 3) (at0 [F + ((n : Int) + 3) + 1, 3, F * 8 + ((n : Int) + 6) + 1]) 3 j = μ j
    rw [ment_other 3 fun k hk => by unfold ix; omega, mcap_other (by omega) (by omega)]
    exact mpgs_other hF h h2 n (by omega)
theorem mth_other {μ : Mem} {t : Int} {ws : List Int} {j : Nat} (ht : 0 ≤ t) (h : (j : Int) < t * 64 ∨ t * 64 + 64 ≤ (j : Int)) : ∀ n : Nat, n ≤ 7 → mth μ t ws n j = μ j
  | 0, _ => rfl
  | n + 1, hn => by
    show mset (mth μ t ws n) (ix t (at0 thP n)) (at0 ws n) j = μ j
    have hb : 0 ≤ at0 thP n ∧ at0 thP n < 64 := by
      have : n = 0 ∨ n = 1 ∨ n = 2 ∨ n = 3 ∨ n = 4 ∨ n = 5 ∨ n = 6 := by omega
      rcases this with e | e | e | e | e | e | e <;> subst e <;> decide
    rw [mset_ne (by unfold ix; omega)]
    exact mth_other ht h n (by omega)
/-- the kernel's frame and the kinds of others stand while a part is laid -/
theorem mbefore_other {μ : Mem} {F d pr bu : Int} {ws : List Int} {j : Nat} (hF : 2 ≤ F) (hw : ws.length ≤ 64) (h1 : (j : Int) < 64 + F ∨ 64 + F + 5 ≤ (j : Int)) (h2 : (j : Int) < F * 64 ∨ (F + 4) * 64 ≤ (j : Int)) : mbefore μ F d pr bu ws j = μ j := by
  unfold mbefore
  rw [mth_other (by omega) (by omega) 7 (by omega), mpgs_other (by omega) (by omega) (by omega) 2 (by omega), mcaps_other (by omega) (by omega) 3 (by omega)]
  unfold mcode mkinds
  rw [mlay_other _ fun k hk => by unfold ix; omega, mlay_other _ fun k hk => by unfold ix; omega]
end KA

namespace KA
theorem thP_bd {n : Nat} (h : n < 7) : 0 ≤ at0 thP n ∧ at0 thP n < 24 := by
  have : n = 0 ∨ n = 1 ∨ n = 2 ∨ n = 3 ∨ n = 4 ∨ n = 5 ∨ n = 6 := by omega
  rcases this with e | e | e | e | e | e | e <;> subst e <;> decide
theorem thP_ne {n i : Nat} (h : n < 7) (hi : i < n) : at0 thP i ≠ at0 thP n := by
  have h1 : n = 0 ∨ n = 1 ∨ n = 2 ∨ n = 3 ∨ n = 4 ∨ n = 5 ∨ n = 6 := by omega
  have h2 : i = 0 ∨ i = 1 ∨ i = 2 ∨ i = 3 ∨ i = 4 ∨ i = 5 := by omega
  rcases h1 with e | e | e | e | e | e | e <;> subst e <;> rcases h2 with e | e | e | e | e | e <;> subst e <;> first | decide | omega
theorem mth_at {μ : Mem} {t : Int} {ws : List Int} (ht : 0 ≤ t) {i : Nat} : ∀ n : Nat, n ≤ 7 → i < n → mth μ t ws n (ix t (at0 thP i)) = at0 ws i % 65536
  | 0, _, h => by omega
  | n + 1, hn, h => by
    show mset (mth μ t ws n) (ix t (at0 thP n)) (at0 ws n) (ix t (at0 thP i)) = at0 ws i % 65536
    by_cases e : i = n
    · subst e
      exact mset_same
    · have b1 := thP_bd (n := i) (by omega)
      have b2 := thP_bd (n := n) (by omega)
      have b3 := thP_ne (n := n) (i := i) (by omega) (by omega)
      rw [mset_ne (ix_ne (by omega) (by omega) (by omega))]
      exact mth_at ht n (by omega) (by omega)
/-- the words of the new thread that no put touches -/
theorem mbefore_th {μ : Mem} {F d pr bu : Int} {ws : List Int} (hF : 2 ≤ F) (hw : ws.length ≤ 64) {p : Int} (hp : 24 ≤ p) (hp2 : p < 64) : mbefore μ F d pr bu ws (ix (F + 1) p) = μ (ix (F + 1) p) := by
  unfold mbefore
  have key : ∀ (ν : Mem) (xs : List Int) (n : Nat), n ≤ 7 → mth ν (F + 1) xs n (ix (F + 1) p) = ν (ix (F + 1) p) := fun ν xs n => by
    induction n with
    | zero => intro _; rfl
    | succ n ih =>
      intro hn
      show mset (mth ν (F + 1) xs n) (ix (F + 1) (at0 thP n)) (at0 xs n) (ix (F + 1) p) = ν (ix (F + 1) p)
      have b := thP_bd (n := n) (by omega)
      rw [mset_ne (ix_ne (by omega) (by omega) (by omega))]
      exact ih (by omega)
  rw [key _ _ 7 (by omega), mpgs_other (by omega) (by unfold ix; omega) (by unfold ix; omega) 2 (by omega), mcaps_other (by omega) (by unfold ix; omega) 3 (by omega)]
  unfold mcode mkinds
  rw [mlay_other _ fun k hk => by unfold ix; omega, mlay_other _ fun k hk => by unfold ix; omega]
theorem mnum_before {μ : Mem} {F d pr bu : Int} {ws : List Int} (hF : 2 ≤ F) (hw : ws.length ≤ 64) (hl : μ (ix (F + 1) 24) = 0) (d0 : 0 ≤ d) (d1 : d < 2) (p0 : 0 ≤ pr) (p1 : pr < 4) : mnum (mbefore μ F d pr bu ws) (F + 1) = d * 4 + pr := by
  have h22 : mbefore μ F d pr bu ws (ix (F + 1) 22) = d := by
    have := mth_at (μ := mpgs (mcaps (mcode (mkinds μ F 5) F ws ws.length) F 3) F 2) (t := F + 1) (ws := [F + 1, F + 3, pr, bu, bu, d, 1]) (by omega) (i := 5) 7 (by omega) (by omega)
    have e : at0 [F + 1, F + 3, pr, bu, bu, d, 1] 5 % 65536 = d := by show d % 65536 = d; omega
    rw [e] at this
    exact this
  have h12 : mbefore μ F d pr bu ws (ix (F + 1) 12) = pr := by
    have := mth_at (μ := mpgs (mcaps (mcode (mkinds μ F 5) F ws ws.length) F 3) F 2) (t := F + 1) (ws := [F + 1, F + 3, pr, bu, bu, d, 1]) (by omega) (i := 2) 7 (by omega) (by omega)
    have e : at0 [F + 1, F + 3, pr, bu, bu, d, 1] 2 % 65536 = pr := by show pr % 65536 = pr; omega
    rw [e] at this
    exact this
  have h24 : mbefore μ F d pr bu ws (ix (F + 1) 24) = 0 := by rw [mbefore_th hF hw (by omega) (by omega)]; exact hl
  unfold mnum mrank
  rw [h22, h24, h12, if_neg (by omega)]
theorem read6 {μ : Mem} {F d pr bu : Int} {ws : List Int} (r : Room6 μ F) (hw : ws.length ≤ 64) (d0 : 0 ≤ d) (d1 : d < 2) (p0 : 0 ≤ pr) (p1 : pr < 4) : Read6 μ F d pr bu ws := by
  have f2 := r.f2
  have f5 := r.f5
  have hn : mnum (mbefore μ F d pr bu ws) (F + 1) = d * 4 + pr := mnum_before f2 hw r.lent d0 d1 p0 p1
  refine ⟨fun k hk => ?_, by omega, ?_⟩
  · rw [mcap_other (by omega) (by unfold ix; omega), mpgs_other (by omega) (by unfold ix; omega) (by unfold ix; omega) k (by omega), mcaps_other (by omega) (by unfold ix; omega) 3 (by omega)]
    unfold mcode
    rw [mlay_other _ fun k hk => by unfold ix; omega]
    have := mlay_at (μ := μ) (f := 1) (p := F) (g := at0 [4, 5, 3, 2, 2]) (by omega) (i := 2) 5 (by omega)
    have e : ((2 : Nat) : Int) = 2 := rfl
    rw [e] at this
    unfold mkinds
    rw [this]
    decide
  · rw [hn]
    have eo : mbefore μ F d pr bu ws (ix 0 (12 + (d * 4 + pr))) = μ (ix 0 (12 + (d * 4 + pr))) := mbefore_other f2 hw (by unfold ix; omega) (by unfold ix; omega)
    rw [eo]
    intro h
    rcases r.tail (d * 4 + pr) (by omega) (by omega) with z | z
    · exact absurd z h
    · exact ⟨by omega, by omega⟩
end KA

namespace KA
theorem mjoin_other {μ : Mem} {t : Int} {j : Nat} (ht : 2 ≤ t ∧ t < 32) (hn : 0 ≤ mnum μ t ∧ mnum μ t < 8) (hl : μ (ix 0 (12 + mnum μ t)) = 0 ∨ (2 ≤ μ (ix 0 (12 + mnum μ t)) - 1 ∧ μ (ix 0 (12 + mnum μ t)) - 1 < 32)) (h1 : j ≠ ix 0 (4 + mnum μ t)) (h2 : j ≠ ix 0 (12 + mnum μ t)) (h3 : ∀ u : Int, 2 ≤ u ∧ u < 32 → j ≠ ix u 15) : mjoin μ t j = μ j := by
  unfold mjoin mpush
  rw [mset_ne (h3 t ht), mset_ne h2]
  split
  · rename_i h
    rw [mset_ne (h3 _ (hl.resolve_left h))]
  · rw [mset_ne h1]
theorem mjoin_tail {μ : Mem} {t : Int} (ht : 2 ≤ t ∧ t < 32) (hn : 0 ≤ mnum μ t ∧ mnum μ t < 8) : mjoin μ t (ix 0 (12 + mnum μ t)) = t + 1 := by
  unfold mjoin mpush
  have h : ix 0 (12 + mnum μ t) ≠ ix t 15 := by unfold ix; omega
  rw [mset_ne h, mset_same]
  obtain ⟨a, b⟩ := ht
  omega
theorem room6_next {μ : Mem} {F d pr bu : Int} {ws : List Int} (r : Room6 μ F) (hw : ws.length ≤ 64) (d0 : 0 ≤ d) (d1 : d < 2) (p0 : 0 ≤ pr) (p1 : pr < 4) (h5 : F + 10 ≤ 32) (hl : μ (ix (F + 5 + 1) 24) = 0) : Room6 (mbegin μ F d pr bu ws) (F + 5) := by
  have f2 := r.f2
  have f5 := r.f5
  have R := read6 (bu := bu) r hw d0 d1 p0 p1
  have hn := R.num
  have ht : 2 ≤ F + 1 ∧ F + 1 < 32 := ⟨by omega, by omega⟩
  have hm : mnum (mbefore μ F d pr bu ws) (F + 1) = d * 4 + pr := mnum_before f2 hw r.lent d0 d1 p0 p1
  have tl : mbefore μ F d pr bu ws (ix 0 (12 + mnum (mbefore μ F d pr bu ws) (F + 1))) = 0 ∨ (2 ≤ mbefore μ F d pr bu ws (ix 0 (12 + mnum (mbefore μ F d pr bu ws) (F + 1))) - 1 ∧ mbefore μ F d pr bu ws (ix 0 (12 + mnum (mbefore μ F d pr bu ws) (F + 1))) - 1 < 32) := by
    have eo : mbefore μ F d pr bu ws (ix 0 (12 + (d * 4 + pr))) = μ (ix 0 (12 + (d * 4 + pr))) := mbefore_other f2 hw (by unfold ix; omega) (by unfold ix; omega)
    rw [hm, eo]
    exact r.tail (d * 4 + pr) (by omega) (by omega)
  refine ⟨by omega, by omega, ?_, fun n n0 n1 => ?_⟩
  · unfold mbegin
    rw [mjoin_other ht hn tl (by unfold ix; omega) (by unfold ix; omega) (fun u hu => by obtain ⟨a, b⟩ := hu; unfold ix; omega), mbefore_other f2 hw (by unfold ix; omega) (by unfold ix; omega)]
    exact hl
  · by_cases e : n = mnum (mbefore μ F d pr bu ws) (F + 1)
    · refine .inr ?_
      unfold mbegin
      rw [e, mjoin_tail ht hn]
      omega
    · unfold mbegin
      rw [mjoin_other ht hn tl (by unfold ix; omega) (by unfold ix; omega) (fun u hu => by obtain ⟨a, b⟩ := hu; unfold ix; omega), mbefore_other f2 hw (by unfold ix; omega) (by unfold ix; omega)]
      exact r.tail n n0 n1
end KA

namespace KA
/-! ### the queues in memory -/
def th (k : Nat) : Int := 3 + 5 * (k : Int)
def Seg (μ : Mem) : Int → List Nat → Prop
  | v, [] => v = 0
  | v, k :: q => v = th k + 1 ∧ Seg μ (μ (ix (th k) 15)) q
def lastV (q : List Nat) : Int := match q.getLast? with | none => 0 | some k => th k + 1
abbrev QF : Type := Int → List Nat
structure Qs (μ : Mem) (Q : QF) : Prop where
  seg : ∀ n : Int, 0 ≤ n → n < 8 → Seg μ (μ (ix 0 (4 + n))) (Q n)
  last : ∀ n : Int, 0 ≤ n → n < 8 → μ (ix 0 (12 + n)) = lastV (Q n)
/-- the queues' members -/
structure QW (N : Nat) (key : Nat → Int) (Q : QF) : Prop where
  nd : ∀ n : Int, 0 ≤ n → n < 8 → (Q n).Nodup
  mem : ∀ n : Int, 0 ≤ n → n < 8 → ∀ k ∈ Q n, k < N ∧ key k = n
theorem Seg.frame {μ μ' : Mem} : ∀ {q : List Nat} {v : Int}, Seg μ v q → (∀ k ∈ q, μ' (ix (th k) 15) = μ (ix (th k) 15)) → Seg μ' v q
  | [], _, h, _ => h
  | k :: q, v, h, e => ⟨h.1, by rw [e k (List.mem_cons_self ..)]; exact Seg.frame h.2 fun x hx => e x (List.mem_cons_of_mem _ hx)⟩
theorem seg_push {μ μ' : Mem} {k : Nat} (h0 : μ' (ix (th k) 15) = 0) : ∀ {q : List Nat} {v : Int}, q.Nodup → Seg μ v q → (∀ l, q.getLast? = some l → μ' (ix (th l) 15) = th k + 1) → (∀ x ∈ q, q.getLast? ≠ some x → μ' (ix (th x) 15) = μ (ix (th x) 15)) → Seg μ' (if q = [] then th k + 1 else v) (q ++ [k])
  | [], v, _, _, _, _ => ⟨rfl, h0⟩
  | [a], v, _, h, hl, hm => ⟨h.1, by rw [hl a rfl]; exact ⟨rfl, h0⟩⟩
  | a :: b :: q, v, nd, h, hl, hm => by
    have na : a ∉ b :: q := (List.nodup_cons.mp nd).1
    refine ⟨h.1, ?_⟩
    rw [hm a (List.mem_cons_self ..) (fun z => na (by rw [List.getLast?_cons_cons] at z; exact List.mem_of_getLast? z))]
    have := seg_push h0 (List.nodup_cons.mp nd).2 h.2 (fun l z => hl l (by rw [List.getLast?_cons_cons]; exact z)) (fun x hx z => hm x (List.mem_cons_of_mem _ hx) (by rw [List.getLast?_cons_cons]; exact z))
    rw [if_neg (by simp)] at this
    exact this
/-- the words of queues -/
def QWord (j : Nat) : Prop := (4 ≤ j ∧ j < 20) ∨ j = 207 ∨ j = 527 ∨ j = 847 ∨ j = 1167
theorem qword_link {k : Nat} (h : k < 4) : QWord (ix (th k) 15) := by unfold QWord ix th; omega
theorem qword_head {n : Int} (h0 : 0 ≤ n) (h1 : n < 8) : QWord (ix 0 (4 + n)) ∧ QWord (ix 0 (12 + n)) := by unfold QWord ix; omega
theorem ix_link_inj {k l : Nat} (h : ix (th k) 15 = ix (th l) 15) : k = l := by unfold ix th at h; omega
theorem Qs.frame {μ μ' : Mem} {Q : QF} {N : Nat} {key : Nat → Int} (w : QW N key Q) (hN : N ≤ 4) (h : Qs μ Q) (e : ∀ j, QWord j → μ' j = μ j) : Qs μ' Q :=
  ⟨fun n n0 n1 => by rw [e _ (qword_head n0 n1).1]; exact (h.seg n n0 n1).frame fun k hk => e _ (qword_link (by have := (w.mem n n0 n1 k hk).1; omega)),
   fun n n0 n1 => by rw [e _ (qword_head n0 n1).2]; exact h.last n n0 n1⟩
theorem lastV_some {q : List Nat} {l : Nat} (h : q.getLast? = some l) : lastV q = th l + 1 := by unfold lastV; rw [h]
theorem lastV_none {q : List Nat} (h : q.getLast? = none) : lastV q = 0 := by unfold lastV; rw [h]
theorem mpush_other {μ : Mem} {n : Int} {k j : Nat} (n0 : 0 ≤ n) (n1 : n < 8) (hk : k < 4) (ht : μ (ix 0 (12 + n)) = 0 ∨ ∃ l : Nat, l < 4 ∧ μ (ix 0 (12 + n)) = th l + 1) (hj : ¬ QWord j) : mpush μ 0 (4 + n) (12 + n) (th k) j = μ j := by
  have e1 : j ≠ ix (th k) 15 := fun z => hj (by rw [z]; exact qword_link hk)
  have e2 : j ≠ ix 0 (12 + n) := fun z => hj (by rw [z]; exact (qword_head n0 n1).2)
  have e3 : j ≠ ix 0 (4 + n) := fun z => hj (by rw [z]; exact (qword_head n0 n1).1)
  unfold mpush
  rw [mset_ne e1, mset_ne e2]
  split
  · rename_i h
    obtain ⟨l, hl, e⟩ := ht.resolve_left h
    have e4 : j ≠ ix (μ (ix 0 (12 + n)) - 1) 15 := fun z => hj (by rw [z, e, show th l + 1 - 1 = th l by omega]; exact qword_link hl)
    rw [mset_ne e4]
  · rw [mset_ne e3]
theorem mtake_other {μ : Mem} {n : Int} {k j : Nat} (n0 : 0 ≤ n) (n1 : n < 8) (hk : k < 4) (hj : ¬ QWord j) : mtake μ 0 (4 + n) (12 + n) (th k) j = μ j := by
  have e1 : j ≠ ix (th k) 15 := fun z => hj (by rw [z]; exact qword_link hk)
  have e2 : j ≠ ix 0 (12 + n) := fun z => hj (by rw [z]; exact (qword_head n0 n1).2)
  have e3 : j ≠ ix 0 (4 + n) := fun z => hj (by rw [z]; exact (qword_head n0 n1).1)
  unfold mtake
  rw [mset_ne e1]
  split
  · rw [mset_ne e2, mset_ne e3]
  · rw [mset_ne e3]
theorem Qs.tail {μ : Mem} {Q : QF} {N : Nat} {key : Nat → Int} (w : QW N key Q) (hN : N ≤ 4) (h : Qs μ Q) {n : Int} (n0 : 0 ≤ n) (n1 : n < 8) : μ (ix 0 (12 + n)) = 0 ∨ ∃ l : Nat, l < 4 ∧ μ (ix 0 (12 + n)) = th l + 1 := by
  rw [h.last n n0 n1]
  cases e : (Q n).getLast? with
  | none => exact .inl (lastV_none e)
  | some l => exact .inr ⟨l, by have := (w.mem n n0 n1 l (List.mem_of_getLast? e)).1; omega, lastV_some e⟩
def qpush (Q : QF) (n : Int) (k : Nat) : QF := fun m => if m = n then Q n ++ [k] else Q m
theorem qs_push {μ : Mem} {Q : QF} {N : Nat} {key : Nat → Int} (w : QW N key Q) (hN : N ≤ 4) (h : Qs μ Q) {n : Int} (n0 : 0 ≤ n) (n1 : n < 8) {k : Nat} (hk : k < 4) (hnew : ∀ m : Int, 0 ≤ m → m < 8 → k ∉ Q m) : Qs (mpush μ 0 (4 + n) (12 + n) (th k)) (qpush Q n k) := by
  have tl := h.last n n0 n1
  have hth : th k < 32 := by unfold th; omega
  have hth0 : 0 ≤ th k := by unfold th; omega
  have rtl : ∀ m : Int, 0 ≤ m → m < 8 → mpush μ 0 (4 + n) (12 + n) (th k) (ix 0 (12 + m)) = if m = n then th k + 1 else μ (ix 0 (12 + m)) := fun m m0 m1 => by
    unfold mpush
    rw [mset_ne (by unfold ix th; omega)]
    by_cases e : m = n
    · subst e
      rw [mset_same, if_pos rfl]
      omega
    · rw [if_neg e, mset_ne (by unfold ix; omega)]
      split
      · rename_i hne
        obtain ⟨l, hl, el⟩ := (Qs.tail w hN h n0 n1).resolve_left hne
        rw [mset_ne (by rw [el]; unfold ix th; omega)]
      · rw [mset_ne (by unfold ix; omega)]
  have rlk : mpush μ 0 (4 + n) (12 + n) (th k) (ix (th k) 15) = 0 := by unfold mpush; rw [mset_same]; rfl
  have rl : ∀ x : Nat, x < 4 → x ≠ k → mpush μ 0 (4 + n) (12 + n) (th k) (ix (th x) 15) = if (Q n).getLast? = some x then th k + 1 else μ (ix (th x) 15) := fun x hx nx => by
    unfold mpush
    rw [mset_ne (fun z => nx (ix_link_inj z)), mset_ne (by unfold ix th; omega)]
    cases e : (Q n).getLast? with
    | none =>
      rw [lastV_none e] at tl
      rw [if_neg (by rw [tl]; exact fun z => z rfl), if_neg (fun z => by cases z), mset_ne (by unfold ix th; omega)]
    | some l =>
      rw [lastV_some e] at tl
      rw [if_pos (by rw [tl]; unfold th; omega), tl, show th l + 1 - 1 = th l by omega]
      by_cases z : l = x
      · subst z
        rw [if_pos rfl, mset_same]
        omega
      · rw [if_neg (fun y => z (Option.some.inj y)), mset_ne (fun y => z (ix_link_inj y).symm)]
  have rh : ∀ m : Int, 0 ≤ m → m < 8 → mpush μ 0 (4 + n) (12 + n) (th k) (ix 0 (4 + m)) = if m = n ∧ Q n = [] then th k + 1 else μ (ix 0 (4 + m)) := fun m m0 m1 => by
    unfold mpush
    rw [mset_ne (by unfold ix th; omega), mset_ne (by unfold ix; omega)]
    cases e : (Q n).getLast? with
    | none =>
      rw [lastV_none e] at tl
      have en : Q n = [] := List.getLast?_eq_none_iff.mp e
      rw [if_neg (by rw [tl]; exact fun z => z rfl)]
      by_cases z : m = n
      · subst z
        rw [mset_same, if_pos ⟨rfl, en⟩]
        omega
      · rw [if_neg (fun y => z y.1), mset_ne (by unfold ix; omega)]
    | some l =>
      rw [lastV_some e] at tl
      rw [if_pos (by rw [tl]; unfold th; omega), if_neg (fun y => by rw [y.2] at e; cases e), tl, mset_ne (by unfold ix th; omega)]
  refine ⟨fun m m0 m1 => ?_, fun m m0 m1 => ?_⟩
  · rw [rh m m0 m1]
    unfold qpush
    by_cases e : m = n
    · subst e
      rw [if_pos rfl]
      have := seg_push (μ := μ) (v := μ (ix 0 (4 + m))) rlk (w.nd m m0 m1) (h.seg m m0 m1) (fun l z => by rw [rl l (by have := (w.mem m m0 m1 l (List.mem_of_getLast? z)).1; omega) (fun y => hnew m m0 m1 (by rw [← y]; exact List.mem_of_getLast? z)), if_pos z]) (fun x hx z => by rw [rl x (by have := (w.mem m m0 m1 x hx).1; omega) (fun y => hnew m m0 m1 (by rw [← y]; exact hx)), if_neg z])
      by_cases e2 : Q m = []
      · rw [if_pos e2] at this
        rw [if_pos ⟨rfl, e2⟩]
        exact this
      · rw [if_neg e2] at this
        rw [if_neg (fun z => e2 z.2)]
        exact this
    · rw [if_neg e, if_neg (fun z => e z.1)]
      refine (h.seg m m0 m1).frame fun x hx => ?_
      have hx4 := w.mem m m0 m1 x hx
      rw [rl x (by omega) (fun y => hnew m m0 m1 (by rw [← y]; exact hx)), if_neg (fun z => e (by rw [← hx4.2]; exact (w.mem n n0 n1 x (List.mem_of_getLast? z)).2))]
  · rw [rtl m m0 m1]
    unfold qpush
    by_cases e : m = n
    · subst e
      rw [if_pos rfl, if_pos rfl, lastV_some (l := k) (by simp)]
    · rw [if_neg e, if_neg e]
      exact h.last m m0 m1
def qdrop (Q : QF) (n : Int) : QF := fun m => if m = n then (Q n).tail else Q m
theorem qs_take {μ : Mem} {Q : QF} {N : Nat} {key : Nat → Int} (w : QW N key Q) (hN : N ≤ 4) (h : Qs μ Q) {n : Int} (n0 : 0 ≤ n) (n1 : n < 8) {k : Nat} {q : List Nat} (hq : Q n = k :: q) : Qs (mtake μ 0 (4 + n) (12 + n) (th k)) (qdrop Q n) := by
  have hk4 := w.mem n n0 n1 k (by rw [hq]; exact List.mem_cons_self ..)
  have sg := h.seg n n0 n1
  have nd := w.nd n n0 n1
  have tl := h.last n n0 n1
  have hm := w.mem n n0 n1
  rw [hq] at sg nd tl hm
  obtain ⟨s1, s2⟩ := sg
  have nk := (List.nodup_cons.mp nd).1
  have rl : ∀ x : Nat, x < 4 → x ≠ k → mtake μ 0 (4 + n) (12 + n) (th k) (ix (th x) 15) = μ (ix (th x) 15) := fun x hx nx => by
    unfold mtake
    rw [mset_ne (fun z => nx (ix_link_inj z))]
    split
    · rw [mset_ne (by unfold ix th; omega), mset_ne (by unfold ix th; omega)]
    · rw [mset_ne (by unfold ix th; omega)]
  have rh : ∀ m : Int, 0 ≤ m → m < 8 → mtake μ 0 (4 + n) (12 + n) (th k) (ix 0 (4 + m)) = if m = n then μ (ix (th k) 15) % 65536 else μ (ix 0 (4 + m)) := fun m m0 m1 => by
    unfold mtake
    rw [mset_ne (by unfold ix th; omega)]
    by_cases e : m = n
    · subst e
      rw [if_pos rfl]
      split
      · rw [mset_ne (by unfold ix; omega), mset_same]
      · rw [mset_same]
    · rw [if_neg e]
      split
      · rw [mset_ne (by unfold ix; omega), mset_ne (by unfold ix; omega)]
      · rw [mset_ne (by unfold ix; omega)]
  have rt : ∀ m : Int, 0 ≤ m → m < 8 → mtake μ 0 (4 + n) (12 + n) (th k) (ix 0 (12 + m)) = if m = n ∧ q = [] then 0 else μ (ix 0 (12 + m)) := fun m m0 m1 => by
    unfold mtake
    rw [mset_ne (by unfold ix th; omega)]
    cases q with
    | nil =>
      have s2 : μ (ix (th k) 15) = 0 := s2
      rw [if_pos s2]
      by_cases e : m = n
      · subst e
        rw [if_pos ⟨rfl, rfl⟩, mset_same]
        rfl
      · rw [if_neg (fun z => e z.1), mset_ne (by unfold ix; omega), mset_ne (by unfold ix; omega)]
    | cons b q =>
      have s2 : μ (ix (th k) 15) = th b + 1 := s2.1
      rw [if_neg (by rw [s2]; unfold th; omega), if_neg (fun z => by cases z.2), mset_ne (by unfold ix; omega)]
  refine ⟨fun m m0 m1 => ?_, fun m m0 m1 => ?_⟩
  · rw [rh m m0 m1]
    unfold qdrop
    by_cases e : m = n
    · subst e
      rw [if_pos rfl, if_pos rfl, hq, List.tail_cons]
      have e2 : μ (ix (th k) 15) % 65536 = μ (ix (th k) 15) := by
        cases q with
        | nil =>
          have s2 : μ (ix (th k) 15) = 0 := s2
          rw [s2]
          rfl
        | cons b q =>
          have s3 : μ (ix (th k) 15) = th b + 1 := s2.1
          have hb := hm b (List.mem_cons_of_mem _ (List.mem_cons_self ..))
          rw [s3]
          unfold th
          omega
      rw [e2]
      exact s2.frame fun x hx => rl x (by have := (hm x (List.mem_cons_of_mem _ hx)).1; omega) (fun z => nk (by rw [← z]; exact hx))
    · rw [if_neg e, if_neg e]
      refine (h.seg m m0 m1).frame fun x hx => rl x (by have := (w.mem m m0 m1 x hx).1; omega) (fun z => e ?_)
      rw [← (w.mem m m0 m1 x hx).2, z, hk4.2]
  · rw [rt m m0 m1]
    unfold qdrop
    by_cases e : m = n
    · subst e
      rw [if_pos rfl, hq, List.tail_cons]
      cases q with
      | nil => rw [if_pos ⟨rfl, rfl⟩]; rfl
      | cons b q =>
        rw [if_neg (fun z => by cases z.2), tl]
        unfold lastV
        rw [List.getLast?_cons_cons]
    · rw [if_neg e, if_neg (fun z => e z.1)]
      exact h.last m m0 m1
theorem QW.push {Q : QF} {N : Nat} {key : Nat → Int} (w : QW N key Q) {n : Int} {k : Nat} (hk : k < N) (hkey : key k = n) (hnew : ∀ m : Int, 0 ≤ m → m < 8 → k ∉ Q m) : QW N key (qpush Q n k) := by
  refine ⟨fun m m0 m1 => ?_, fun m m0 m1 x hx => ?_⟩
  · unfold qpush
    split
    · rename_i e
      subst e
      refine List.nodup_append.mpr ⟨w.nd m m0 m1, by simp, fun a ha b hb => ?_⟩
      have : b = k := by simpa using hb
      subst this
      exact fun z => hnew m m0 m1 (by rw [← z]; exact ha)
    · exact w.nd m m0 m1
  · unfold qpush at hx
    split at hx
    · rename_i e
      subst e
      rcases List.mem_append.mp hx with h | h
      · exact w.mem m m0 m1 x h
      · have : x = k := by simpa using h
        subst this
        exact ⟨hk, hkey⟩
    · exact w.mem m m0 m1 x hx
theorem QW.drop {Q : QF} {N : Nat} {key : Nat → Int} (w : QW N key Q) {n : Int} : QW N key (qdrop Q n) := by
  refine ⟨fun m m0 m1 => ?_, fun m m0 m1 x hx => ?_⟩
  · unfold qdrop
    split
    · rename_i e
      subst e
      exact (List.tail_sublist _).nodup (w.nd m m0 m1)
    · exact w.nd m m0 m1
  · unfold qdrop at hx
    split at hx
    · rename_i e
      subst e
      exact w.mem m m0 m1 x (List.mem_of_mem_tail hx)
    · exact w.mem m m0 m1 x hx
theorem QW.more {Q : QF} {N N' : Nat} {key : Nat → Int} (w : QW N key Q) (h : N ≤ N') : QW N' key Q := ⟨w.nd, fun n n0 n1 k hk => ⟨Nat.lt_of_lt_of_le (w.mem n n0 n1 k hk).1 h, (w.mem n n0 n1 k hk).2⟩⟩
end KA

namespace KA
open KQ
/-! ### what a part's laying writes, all of it -/
/-- the seven words of a slot -/
def capw (c : Nat → Int) (sz us : Int) : Nat → Int := at0 [c 0, c 1, c 2, c 3, 0, sz, us]
theorem mcap_at {μ : Mem} {s sz us : Int} {c : Nat → Int} (h0 : 0 ≤ s) {q : Nat} (hq : q < 7) : fld (mcap μ s c sz us) s (q : Int) = capw c sz us q % 65536 := by
  unfold fld mcap
  have e : q = 0 ∨ q = 1 ∨ q = 2 ∨ q = 3 ∨ q = 4 ∨ q = 5 ∨ q = 6 := by omega
  rcases e with e | e | e | e | e | e | e <;> subst e
  · rw [mset_ne (by omega), mset_ne (by omega), mset_ne (by omega)]
    show mset (mset (mset (mset μ (s * 8 + ((0 : Nat) : Int)).toNat (c 0)) (s * 8 + ((1 : Nat) : Int)).toNat (c 1)) (s * 8 + ((2 : Nat) : Int)).toNat (c 2)) (s * 8 + ((3 : Nat) : Int)).toNat (c 3) _ = _
    rw [mset_ne (by omega), mset_ne (by omega), mset_ne (by omega)]
    exact mset_same
  · rw [mset_ne (by omega), mset_ne (by omega), mset_ne (by omega)]
    show mset (mset (mset (mset μ (s * 8 + ((0 : Nat) : Int)).toNat (c 0)) (s * 8 + ((1 : Nat) : Int)).toNat (c 1)) (s * 8 + ((2 : Nat) : Int)).toNat (c 2)) (s * 8 + ((3 : Nat) : Int)).toNat (c 3) _ = _
    rw [mset_ne (by omega), mset_ne (by omega)]
    exact mset_same
  · rw [mset_ne (by omega), mset_ne (by omega), mset_ne (by omega)]
    show mset (mset (mset (mset μ (s * 8 + ((0 : Nat) : Int)).toNat (c 0)) (s * 8 + ((1 : Nat) : Int)).toNat (c 1)) (s * 8 + ((2 : Nat) : Int)).toNat (c 2)) (s * 8 + ((3 : Nat) : Int)).toNat (c 3) _ = _
    rw [mset_ne (by omega)]
    exact mset_same
  · rw [mset_ne (by omega), mset_ne (by omega), mset_ne (by omega)]
    show mset (mset (mset (mset μ (s * 8 + ((0 : Nat) : Int)).toNat (c 0)) (s * 8 + ((1 : Nat) : Int)).toNat (c 1)) (s * 8 + ((2 : Nat) : Int)).toNat (c 2)) (s * 8 + ((3 : Nat) : Int)).toNat (c 3) _ = _
    exact mset_same
  · rw [mset_ne (by omega), mset_ne (by omega)]
    exact mset_same
  · rw [mset_ne (by omega)]
    exact mset_same
  · exact mset_same
theorem fld_other {μ : Mem} {s t sz us : Int} {c : Nat → Int} {q : Nat} (h0 : 0 ≤ s) (h1 : 0 ≤ t) (hq : q < 8) (h : s ≠ t ∨ 7 ≤ q) : fld (mcap μ s c sz us) t (q : Int) = fld μ t (q : Int) := by
  unfold fld
  exact mcap_other h0 (by omega)
theorem fld_eight {μ : Mem} {s t sz us : Int} {c : Nat → Int} (h0 : 0 ≤ s) (h1 : 0 ≤ t) : fld (mcap μ s c sz us) t 7 = fld μ t 7 := fld_other (q := 7) h0 h1 (by decide) (.inr (by decide))
/-- the slots of a part -/
theorem mcaps_fld {μ : Mem} {F : Int} (hF : 0 ≤ F) {t : Int} (h1 : 0 ≤ t) {q : Nat} (hq : q < 8) : ∀ n : Nat, n ≤ 3 → fld (mcaps μ F n) t (q : Int) = if q < 7 ∧ F * 8 + 1 ≤ t ∧ t < F * 8 + 1 + (n : Int) then capw (capN F (t - F * 8 - 1).toNat) 1 0 q % 65536 else fld μ t (q : Int)
  | 0, _ => by rw [if_neg (by omega)]; rfl
  | n + 1, hn => by
    show fld (mcap (mcaps μ F n) (F * 8 + ((n : Int) + 1)) (capN F n) 1 0) t (q : Int) = _
    by_cases e : t = F * 8 + ((n : Int) + 1)
    · by_cases e7 : q < 7
      · rw [if_pos (by omega), e, mcap_at (by omega) e7]
        congr 3
        omega
      · rw [if_neg (by omega), fld_other (by omega) h1 hq (.inr (by omega)), mcaps_fld hF h1 hq n (by omega), if_neg (by omega)]
    · rw [fld_other (by omega) h1 hq (.inl fun z => e z.symm), mcaps_fld hF h1 hq n (by omega)]
      by_cases c : q < 7 ∧ F * 8 + 1 ≤ t ∧ t < F * 8 + 1 + (n : Int)
      · rw [if_pos c, if_pos (by omega)]
      · rw [if_neg c, if_neg (by omega)]
theorem ment_fld {μ : Mem} {t pg : Int} {c : Nat → Int} {s : Int} {q : Nat} (ht : 0 ≤ t) (hp : 0 ≤ pg ∧ pg < 8) (hs : 0 ≤ s) (hq : q < 8) (h : s < t * 8 ∨ t * 8 + 8 ≤ s) : fld (ment μ t pg c 3) s (q : Int) = fld μ s (q : Int) := by
  unfold fld
  exact ment_other 3 fun k hk => by unfold ix; omega
def pgw (F : Int) (k : Nat) : Nat → Int := capw (at0 [2, F + ((k : Int) + 3), 7, 0]) 1 0
theorem mpgs_fld {μ : Mem} {F : Int} (hF : 0 ≤ F) {t : Int} (h1 : 0 ≤ t) (h2 : t < (F + 2) * 8 ∨ (F + 3) * 8 ≤ t) {q : Nat} (hq : q < 8) : ∀ n : Nat, n ≤ 2 → fld (mpgs μ F n) t (q : Int) = if q < 7 ∧ F * 8 + 6 ≤ t ∧ t < F * 8 + 6 + (n : Int) then pgw F (t - F * 8 - 6).toNat q % 65536 else fld μ t (q : Int)
  | 0, _ => by rw [if_neg (by omega)]; rfl
  | n + 1, hn => by
    show fld (ment (mcap (mpgs μ F n) (F * 8 + ((n : Int) + 6)) (at0 [2, F + ((n : Int) + 3), 7, 0]) 1 0) (F + 2) ((n : Int) + 3 - 3) (at0 [F + ((n : Int) + 3) + 1, 3, F * 8 + ((n : Int) + 6) + 1]) 3) t (q : Int) = _
    rw [ment_fld (by omega) (by omega) h1 hq (by omega)]
    by_cases e : t = F * 8 + ((n : Int) + 6)
    · by_cases e7 : q < 7
      · rw [if_pos (by omega), e, mcap_at (by omega) e7]
        have : (F * 8 + ((n : Int) + 6) - F * 8 - 6).toNat = n := by omega
        rw [this]
        rfl
      · rw [if_neg (by omega), fld_other (by omega) h1 hq (.inr (by omega)), mpgs_fld hF h1 h2 hq n (by omega), if_neg (by omega)]
    · rw [fld_other (by omega) h1 hq (.inl fun z => e z.symm), mpgs_fld hF h1 h2 hq n (by omega)]
      by_cases c : q < 7 ∧ F * 8 + 6 ≤ t ∧ t < F * 8 + 6 + (n : Int)
      · rw [if_pos c, if_pos (by omega)]
      · rw [if_neg c, if_neg (by omega)]
end KA

namespace KA
open KQ
theorem ment_at {μ : Mem} {t pg : Int} {c : Nat → Int} (h0 : 0 ≤ t * 64 + pg * 4) {i : Nat} : ∀ n : Nat, i < n → ment μ t pg c n (ix t (pg * 4 + (i : Int))) = c i % 65536
  | 0, h => by omega
  | n + 1, h => by
    show mset (ment μ t pg c n) (ix t (pg * 4 + (n : Int))) (c n) (ix t (pg * 4 + (i : Int))) = c i % 65536
    by_cases e : i = n
    · subst e
      exact mset_same
    · rw [mset_ne (ix_ne (by omega) (by omega) (by omega))]
      exact ment_at h0 n (by omega)
theorem mth_same {μ : Mem} {t p : Int} {ws : List Int} (ht : 0 ≤ t * 64 + p) (ht0 : 0 ≤ t) : ∀ n : Nat, n ≤ 7 → (∀ k, k < n → p ≠ at0 thP k) → mth μ t ws n (ix t p) = μ (ix t p)
  | 0, _, _ => rfl
  | n + 1, hn, h => by
    show mset (mth μ t ws n) (ix t (at0 thP n)) (at0 ws n) (ix t p) = μ (ix t p)
    have b := thP_bd (n := n) (by omega)
    have := h n (Nat.lt_succ_self n)
    rw [mset_ne (ix_ne (by omega) (by omega) (by omega))]
    exact mth_same ht ht0 n (by omega) fun k hk => h k (Nat.lt_succ_of_lt hk)
theorem thP_no {p : Int} (h : (1 ≤ p ∧ p ≤ 9) ∨ (15 ≤ p ∧ p ≤ 21) ∨ 23 ≤ p) {k : Nat} (hk : k < 7) : p ≠ at0 thP k := by
  have : k = 0 ∨ k = 1 ∨ k = 2 ∨ k = 3 ∨ k = 4 ∨ k = 5 ∨ k = 6 := by omega
  have e0 : at0 thP 0 = 10 := rfl
  have e1 : at0 thP 1 = 11 := rfl
  have e2 : at0 thP 2 = 12 := rfl
  have e3 : at0 thP 3 = 13 := rfl
  have e4 : at0 thP 4 = 14 := rfl
  have e5 : at0 thP 5 = 22 := rfl
  have e6 : at0 thP 6 = 0 := rfl
  rcases this with e | e | e | e | e | e | e <;> subst e <;> omega
/-- what a part's laying writes -/
theorem before_facts {μ : Mem} {F d pr bu : Int} {ws : List Int} (hF : 2 ≤ F) (hF5 : F + 5 ≤ 32) (hw : ws.length ≤ 64) :
    (∀ p : Nat, p < 5 → mbefore μ F d pr bu ws (ix 1 (F + (p : Int))) = at0 [4, 5, 3, 2, 2] p % 65536) ∧
    (∀ i : Nat, i < 7 → mbefore μ F d pr bu ws (ix (F + 1) (at0 thP i)) = at0 [F + 1, F + 3, pr, bu, bu, d, 1] i % 65536) ∧
    (∀ p : Int, (1 ≤ p ∧ p ≤ 9) ∨ (15 ≤ p ∧ p ≤ 21) ∨ (23 ≤ p ∧ p < 64) → mbefore μ F d pr bu ws (ix (F + 1) p) = μ (ix (F + 1) p)) ∧
    (∀ i : Nat, i < 3 → mbefore μ F d pr bu ws (ix (F + 2) (i : Int)) = at0 [F + 4, 3, F * 8 + 7] i % 65536) ∧
    (∀ i : Nat, i < ws.length → mbefore μ F d pr bu ws (ix (F + 3) (i : Int)) = at0 ws i % 65536) := by
  unfold mbefore
  refine ⟨fun p hp => ?_, fun i hi => ?_, fun p hp => ?_, fun i hi => ?_, fun i hi => ?_⟩
  · rw [mth_other (by omega) (by unfold ix; omega) 7 (by omega), mpgs_other (by omega) (by unfold ix; omega) (by unfold ix; omega) 2 (by omega), mcaps_other (by omega) (by unfold ix; omega) 3 (by omega)]
    unfold mcode mkinds
    rw [mlay_other _ fun k hk => by unfold ix; omega]
    exact mlay_at (by omega) 5 hp
  · exact mth_at (by omega) 7 (by omega) hi
  · rw [mth_same (by omega) (by omega) 7 (by omega) fun k hk => thP_no (by omega) hk, mpgs_other (by omega) (by unfold ix; omega) (by unfold ix; omega) 2 (by omega), mcaps_other (by omega) (by unfold ix; omega) 3 (by omega)]
    unfold mcode mkinds
    rw [mlay_other _ fun k hk => by unfold ix; omega, mlay_other _ fun k hk => by unfold ix; omega]
  · rw [mth_other (by omega) (by unfold ix; omega) 7 (by omega)]
    obtain ⟨ν, hν⟩ : ∃ ν, ν = mcaps (mcode (mkinds μ F 5) F ws ws.length) F 3 := ⟨_, rfl⟩
    rw [← hν]
    show ment (mcap (mpgs ν F 1) (F * 8 + (((1 : Nat) : Int) + 6)) (at0 [2, F + (((1 : Nat) : Int) + 3), 7, 0]) 1 0) (F + 2) (((1 : Nat) : Int) + 3 - 3) (at0 [F + (((1 : Nat) : Int) + 3) + 1, 3, F * 8 + (((1 : Nat) : Int) + 6) + 1]) 3 (ix (F + 2) (i : Int)) = _
    rw [ment_other 3 fun k hk => by unfold ix; omega, mcap_other (by omega) (by unfold ix; omega)]
    show ment (mcap ν (F * 8 + (((0 : Nat) : Int) + 6)) (at0 [2, F + (((0 : Nat) : Int) + 3), 7, 0]) 1 0) (F + 2) (((0 : Nat) : Int) + 3 - 3) (at0 [F + (((0 : Nat) : Int) + 3) + 1, 3, F * 8 + (((0 : Nat) : Int) + 6) + 1]) 3 (ix (F + 2) (i : Int)) = _
    have := ment_at (μ := mcap ν (F * 8 + (((0 : Nat) : Int) + 6)) (at0 [2, F + (((0 : Nat) : Int) + 3), 7, 0]) 1 0) (t := F + 2) (pg := ((0 : Nat) : Int) + 3 - 3) (c := at0 [F + (((0 : Nat) : Int) + 3) + 1, 3, F * 8 + (((0 : Nat) : Int) + 6) + 1]) (by omega) (i := i) 3 hi
    rw [show (((0 : Nat) : Int) + 3 - 3) * 4 + (i : Int) = (i : Int) by omega] at this
    rw [this]
    have : i = 0 ∨ i = 1 ∨ i = 2 := by omega
    rcases this with e | e | e <;> subst e
    · show (F + (((0 : Nat) : Int) + 3) + 1) % 65536 = (F + 4) % 65536
      omega
    · rfl
    · show (F * 8 + (((0 : Nat) : Int) + 6) + 1) % 65536 = (F * 8 + 7) % 65536
      omega
  · rw [mth_other (by omega) (by unfold ix; omega) 7 (by omega), mpgs_other (by omega) (by unfold ix; omega) (by unfold ix; omega) 2 (by omega), mcaps_other (by omega) (by unfold ix; omega) 3 (by omega)]
    unfold mcode
    have := mlay_at (μ := mkinds μ F 5) (f := F + 3) (p := 0) (g := at0 ws) (by omega) (i := i) ws.length hi
    rw [show (0 : Int) + (i : Int) = (i : Int) by omega] at this
    exact this

/-- the slots -/
theorem bef_sl {μ : Mem} {F d pr bu : Int} {ws : List Int} (hF : 2 ≤ F) (hw : ws.length ≤ 64) {s q : Nat} (hs : s < 8) (hq : q < 7) :
    fld (mbefore μ F d pr bu ws) (F * 8 + (s : Int)) (q : Int) = if 6 ≤ s then pgw F (s - 6) q % 65536 else if 1 ≤ s ∧ s < 4 then capw (capN F (s - 1)) 1 0 q % 65536 else fld μ (F * 8 + (s : Int)) (q : Int) := by
  unfold mbefore
  have e1 : fld (mth (mpgs (mcaps (mcode (mkinds μ F 5) F ws ws.length) F 3) F 2) (F + 1) [F + 1, F + 3, pr, bu, bu, d, 1] 7) (F * 8 + (s : Int)) (q : Int) = fld (mpgs (mcaps (mcode (mkinds μ F 5) F ws ws.length) F 3) F 2) (F * 8 + (s : Int)) (q : Int) := by
    unfold fld
    exact mth_other (by omega) (by omega) 7 (by omega)
  rw [e1, mpgs_fld (by omega) (by omega) (by omega) (by omega) 2 (by omega), mcaps_fld (by omega) (by omega) (by omega) 3 (by omega)]
  by_cases h6 : 6 ≤ s
  · rw [if_pos (by omega), if_pos h6, show (F * 8 + (s : Int) - F * 8 - 6).toNat = s - 6 by omega]
  · rw [if_neg (by omega), if_neg h6]
    by_cases h1 : 1 ≤ s ∧ s < 4
    · rw [if_pos (by omega), if_pos h1, show (F * 8 + (s : Int) - F * 8 - 1).toNat = s - 1 by omega]
    · rw [if_neg (by omega), if_neg h1]
      unfold fld mcode mkinds
      rw [mlay_other _ fun k hk => by unfold ix; omega, mlay_other _ fun k hk => by unfold ix; omega]
/-- the table -/
theorem bef_tb {μ : Mem} {F d pr bu : Int} {ws : List Int} (hF : 2 ≤ F) (hw : ws.length ≤ 64) {p : Nat} (hp : p < 64) :
    mbefore μ F d pr bu ws (ix (F + 2) (p : Int)) = if p < 3 then at0 [F + 4, 3, F * 8 + 7] p % 65536 else if 4 ≤ p ∧ p < 7 then at0 [F + 5, 3, F * 8 + 8] (p - 4) % 65536 else μ (ix (F + 2) (p : Int)) := by
  unfold mbefore
  rw [mth_other (by omega) (by unfold ix; omega) 7 (by omega)]
  obtain ⟨ν, hν⟩ : ∃ ν, ν = mcaps (mcode (mkinds μ F 5) F ws ws.length) F 3 := ⟨_, rfl⟩
  rw [← hν]
  have out : ν (ix (F + 2) (p : Int)) = μ (ix (F + 2) (p : Int)) := by
    rw [hν, mcaps_other (by omega) (by unfold ix; omega) 3 (by omega)]
    unfold mcode mkinds
    rw [mlay_other _ fun k hk => by unfold ix; omega, mlay_other _ fun k hk => by unfold ix; omega]
  show ment (mcap (ment (mcap ν (F * 8 + (((0 : Nat) : Int) + 6)) (at0 [2, F + (((0 : Nat) : Int) + 3), 7, 0]) 1 0) (F + 2) (((0 : Nat) : Int) + 3 - 3) (at0 [F + (((0 : Nat) : Int) + 3) + 1, 3, F * 8 + (((0 : Nat) : Int) + 6) + 1]) 3) (F * 8 + (((1 : Nat) : Int) + 6)) (at0 [2, F + (((1 : Nat) : Int) + 3), 7, 0]) 1 0) (F + 2) (((1 : Nat) : Int) + 3 - 3) (at0 [F + (((1 : Nat) : Int) + 3) + 1, 3, F * 8 + (((1 : Nat) : Int) + 6) + 1]) 3 (ix (F + 2) (p : Int)) = _
  by_cases h4 : 4 ≤ p ∧ p < 7
  · rw [if_neg (by omega), if_pos h4]
    have := ment_at (μ := mcap (ment (mcap ν (F * 8 + (((0 : Nat) : Int) + 6)) (at0 [2, F + (((0 : Nat) : Int) + 3), 7, 0]) 1 0) (F + 2) (((0 : Nat) : Int) + 3 - 3) (at0 [F + (((0 : Nat) : Int) + 3) + 1, 3, F * 8 + (((0 : Nat) : Int) + 6) + 1]) 3) (F * 8 + (((1 : Nat) : Int) + 6)) (at0 [2, F + (((1 : Nat) : Int) + 3), 7, 0]) 1 0) (t := F + 2) (pg := ((1 : Nat) : Int) + 3 - 3) (c := at0 [F + (((1 : Nat) : Int) + 3) + 1, 3, F * 8 + (((1 : Nat) : Int) + 6) + 1]) (by omega) (i := p - 4) 3 (by omega)
    rw [show (((1 : Nat) : Int) + 3 - 3) * 4 + ((p - 4 : Nat) : Int) = (p : Int) by omega] at this
    rw [this]
    have e : p = 4 ∨ p = 5 ∨ p = 6 := by omega
    rcases e with e | e | e <;> subst e
    · show (F + (((1 : Nat) : Int) + 3) + 1) % 65536 = (F + 5) % 65536
      omega
    · rfl
    · show (F * 8 + (((1 : Nat) : Int) + 6) + 1) % 65536 = (F * 8 + 8) % 65536
      omega
  rw [ment_other 3 fun k hk => by unfold ix; omega, mcap_other (by omega) (by unfold ix; omega)]
  by_cases h3 : p < 3
  · rw [if_pos h3]
    have := ment_at (μ := mcap ν (F * 8 + (((0 : Nat) : Int) + 6)) (at0 [2, F + (((0 : Nat) : Int) + 3), 7, 0]) 1 0) (t := F + 2) (pg := ((0 : Nat) : Int) + 3 - 3) (c := at0 [F + (((0 : Nat) : Int) + 3) + 1, 3, F * 8 + (((0 : Nat) : Int) + 6) + 1]) (by omega) (i := p) 3 h3
    rw [show (((0 : Nat) : Int) + 3 - 3) * 4 + (p : Int) = (p : Int) by omega] at this
    rw [this]
    have e : p = 0 ∨ p = 1 ∨ p = 2 := by omega
    rcases e with e | e | e <;> subst e
    · show (F + (((0 : Nat) : Int) + 3) + 1) % 65536 = (F + 4) % 65536
      omega
    · rfl
    · show (F * 8 + (((0 : Nat) : Int) + 6) + 1) % 65536 = (F * 8 + 7) % 65536
      omega
  · rw [if_neg h3, if_neg h4, ment_other 3 fun k hk => by unfold ix; omega, mcap_other (by omega) (by unfold ix; omega)]
    exact out
/-- the page of the code -/
theorem bef_p1 {μ : Mem} {F d pr bu : Int} {ws : List Int} (hF : 2 ≤ F) (hF5 : F + 5 ≤ 32) (hw : ws.length ≤ 64) {p : Nat} (hp : p < 64) :
    mbefore μ F d pr bu ws (ix (F + 3) (p : Int)) = if p < ws.length then at0 ws p % 65536 else μ (ix (F + 3) (p : Int)) := by
  by_cases h : p < ws.length
  · rw [if_pos h]
    exact (before_facts hF hF5 hw).2.2.2.2 p h
  · rw [if_neg h]
    unfold mbefore
    rw [mth_other (by omega) (by unfold ix; omega) 7 (by omega), mpgs_other (by omega) (by unfold ix; omega) (by unfold ix; omega) 2 (by omega), mcaps_other (by omega) (by unfold ix; omega) 3 (by omega)]
    unfold mcode mkinds
    rw [mlay_other _ fun k hk => by unfold ix; omega, mlay_other _ fun k hk => by unfold ix; omega]
end KA

namespace KX
open KA KQ
/-! ### the memory behind i parts -/
def keyP (ps : List PtX) (k : Nat) : Int := (ps.getD k p0).d * 4 + (ps.getD k p0).pr
def qin (ps : List PtX) : Nat → QF
  | 0 => fun _ => []
  | i + 1 => qpush (qin ps i) (keyP ps i) i
theorem qin_lt {ps : List PtX} {n : Int} {k : Nat} : ∀ {i : Nat}, k ∈ qin ps i n → k < i
  | i + 1, h => by
    unfold qin qpush at h
    split at h
    · rename_i e
      rcases List.mem_append.mp h with z | z
      · exact Nat.lt_succ_of_lt (qin_lt z)
      · have : k = i := by simpa using z
        omega
    · exact Nat.lt_succ_of_lt (qin_lt h)
def slotW (F : Int) (s q : Nat) : Int := if 6 ≤ s then pgw F (s - 6) q else if 1 ≤ s ∧ s < 4 then capw (capN F (s - 1)) 1 0 q else 0
def tabW (F : Int) (p : Nat) : Int := if p < 3 then at0 [F + 4, 3, F * 8 + 7] p else if 4 ≤ p ∧ p < 7 then at0 [F + 5, 3, F * 8 + 8] (p - 4) else 0
structure PartF (μ : Mem) (k : Nat) (p : PtX) : Prop where
  kd : ∀ c : Nat, c < 5 → μ (ix 1 ((2 + 5 * (k : Int)) + (c : Int))) = at0 [4, 5, 3, 2, 2] c
  sl : ∀ s q : Nat, s < 8 → q < 7 → fld μ ((2 + 5 * (k : Int)) * 8 + (s : Int)) (q : Int) = slotW (2 + 5 * (k : Int)) s q
  th : ∀ i : Nat, i < 7 → μ (ix (3 + 5 * (k : Int)) (at0 thP i)) = at0 [3 + 5 * (k : Int), 5 + 5 * (k : Int), p.pr, p.bu, p.bu, p.d, 1] i
  th0 : ∀ j : Int, (1 ≤ j ∧ j ≤ 9) ∨ (16 ≤ j ∧ j ≤ 21) ∨ (23 ≤ j ∧ j < 64) → μ (ix (3 + 5 * (k : Int)) j) = 0
  tb : ∀ j : Nat, j < 64 → μ (ix (4 + 5 * (k : Int)) (j : Int)) = tabW (2 + 5 * (k : Int)) j
  p1 : ∀ j : Nat, j < 64 → μ (ix (5 + 5 * (k : Int)) (j : Int)) = at0 p.ws j
  p2 : ∀ j : Nat, j < 64 → μ (ix (6 + 5 * (k : Int)) (j : Int)) = 0
/-- the words of a part -/
def InPart (k j : Nat) : Prop := (64 + (2 + 5 * k) ≤ j ∧ j < 64 + (2 + 5 * k) + 5) ∨ ((2 + 5 * k) * 64 ≤ j ∧ j < (7 + 5 * k) * 64)
theorem PartF.frame {μ μ' : Mem} {k : Nat} {p : PtX} (h : PartF μ k p) (k4 : k < 4) (e : ∀ j, InPart k j → ¬ QWord j → μ' j = μ j) : PartF μ' k p where
  kd c hc := by rw [e _ (by unfold InPart ix; omega) (by unfold QWord ix; omega)]; exact h.kd c hc
  sl s q hs hq := by
    have := h.sl s q hs hq
    unfold fld at this ⊢
    rw [e _ (by unfold InPart; omega) (by unfold QWord; omega)]
    exact this
  th i hi := by
    have b := thP_bd hi
    have n15 : 15 ≠ at0 thP i := thP_no (by omega) hi
    rw [e _ (by unfold InPart ix; omega) (by unfold QWord ix; omega)]
    exact h.th i hi
  th0 j hj := by rw [e _ (by unfold InPart ix; omega) (by unfold QWord ix; omega)]; exact h.th0 j hj
  tb j hj := by rw [e _ (by unfold InPart ix; omega) (by unfold QWord ix; omega)]; exact h.tb j hj
  p1 j hj := by rw [e _ (by unfold InPart ix; omega) (by unfold QWord ix; omega)]; exact h.p1 j hj
  p2 j hj := by rw [e _ (by unfold InPart ix; omega) (by unfold QWord ix; omega)]; exact h.p2 j hj
theorem pgw_bd {F : Int} (h : 2 ≤ F ∧ F < 32) {k q : Nat} (hk : k < 2) (hq : q < 7) : pgw F k q % 65536 = pgw F k q := by
  have e : q = 0 ∨ q = 1 ∨ q = 2 ∨ q = 3 ∨ q = 4 ∨ q = 5 ∨ q = 6 := by omega
  rcases e with e | e | e | e | e | e | e <;> subst e
  · rfl
  · show (F + ((k : Int) + 3)) % 65536 = F + ((k : Int) + 3)
    omega
  · rfl
  · rfl
  · rfl
  · rfl
  · rfl
theorem capw_bd {F : Int} (h : 2 ≤ F ∧ F < 32) {k q : Nat} (hk : k < 3) (hq : q < 7) : capw (capN F k) 1 0 q % 65536 = capw (capN F k) 1 0 q := by
  have e : q = 0 ∨ q = 1 ∨ q = 2 ∨ q = 3 ∨ q = 4 ∨ q = 5 ∨ q = 6 := by omega
  have ek : k = 0 ∨ k = 1 ∨ k = 2 := by omega
  rcases ek with ek | ek | ek <;> subst ek <;> rcases e with e | e | e | e | e | e | e <;> subst e <;> first
    | rfl
    | (show F % 65536 = F; omega)
    | (show (F + 2) % 65536 = F + 2; omega)
    | (show (F + 1) % 65536 = F + 1; omega)
structure BI (pl : List (Int × Int)) (ps : List PtX) (i : Nat) (μ : Mem) : Prop where
  ker : ∀ j, j < 4 ∨ (20 ≤ j ∧ j < 64) → μ j = mboot0 pl j
  kz : ∀ f : Nat, f < 2 ∨ (2 + 5 * i ≤ f ∧ f < 64) → μ (64 + f) = 0
  zr : ∀ j, (2 + 5 * i) * 64 ≤ j → ¬ QWord j → μ j = 0
  qw : QW i (keyP ps) (qin ps i)
  qs : Qs μ (qin ps i)
  pt : ∀ k, k < i → PartF μ k (ps.getD k p0)
theorem BI.room {pl : List (Int × Int)} {ps : List PtX} {i : Nat} {μ : Mem} (h : BI pl ps i μ) (hi : i ≤ 3) : Room6 μ (2 + 5 * (i : Int)) := by
  refine ⟨by omega, by omega, h.zr _ (by unfold ix; omega) (by unfold QWord ix; omega), fun n n0 n1 => ?_⟩
  rcases h.qs.tail h.qw (by omega) n0 n1 with z | ⟨l, hl, z⟩
  · exact .inl z
  · right
    rw [z]
    unfold KA.th
    omega
theorem BI.step {pl : List (Int × Int)} {ps : List PtX} {i : Nat} {μ : Mem} (hi : i < 3) (g : GPt (ps.getD i p0)) (h : BI pl ps i μ) : BI pl ps (i + 1) (mbegin μ (2 + 5 * (i : Int)) (ps.getD i p0).d (ps.getD i p0).pr (ps.getD i p0).bu (ps.getD i p0).ws) := by
  have R := h.room (by omega)
  have hwl : (ps.getD i p0).ws.length ≤ 64 := Nat.le_trans g.wl (by decide)
  obtain ⟨d0, d1⟩ := g.d
  obtain ⟨q0, q1⟩ := g.pr
  obtain ⟨b0, b1⟩ := g.bu
  have hws := g.ws
  have hk0 : keyP ps i = (ps.getD i p0).d * 4 + (ps.getD i p0).pr := rfl
  generalize hgp : ps.getD i p0 = p at *
  obtain ⟨F, hF⟩ : ∃ F : Int, F = 2 + 5 * (i : Int) := ⟨_, rfl⟩
  have ht : F + 1 = KA.th i := by unfold KA.th; omega
  rw [← hF] at R ⊢
  have F2 : 2 ≤ F := by omega
  have F5 : F + 5 ≤ 32 := by omega
  have lent : μ (ix (F + 1) 24) = 0 := h.zr _ (by unfold ix; omega) (by unfold QWord ix; omega)
  obtain ⟨f1, f2, f3, f4, f5⟩ := before_facts (μ := μ) (d := p.d) (pr := p.pr) (bu := p.bu) F2 F5 hwl
  have fs := fun {s q : Nat} (hs : s < 8) (hq : q < 7) => bef_sl (μ := μ) (F := F) (d := p.d) (pr := p.pr) (bu := p.bu) (ws := p.ws) F2 hwl hs hq
  have ft := fun {j : Nat} (hj : j < 64) => bef_tb (μ := μ) (F := F) (d := p.d) (pr := p.pr) (bu := p.bu) (ws := p.ws) F2 hwl hj
  have fp := fun {j : Nat} (hj : j < 64) => bef_p1 (μ := μ) (F := F) (d := p.d) (pr := p.pr) (bu := p.bu) (ws := p.ws) F2 F5 hwl hj
  have fo : ∀ {j : Nat}, ((j : Int) < 64 + F ∨ 64 + F + 5 ≤ (j : Int)) → ((j : Int) < F * 64 ∨ (F + 4) * 64 ≤ (j : Int)) → mbefore μ F p.d p.pr p.bu p.ws j = μ j := fun h1 h2 => mbefore_other F2 hwl h1 h2
  have hn : mnum (mbefore μ F p.d p.pr p.bu p.ws) (F + 1) = keyP ps i := by rw [hk0]; exact mnum_before F2 hwl lent d0 d1 q0 q1
  have em : mbegin μ F p.d p.pr p.bu p.ws = mpush (mbefore μ F p.d p.pr p.bu p.ws) 0 (4 + keyP ps i) (12 + keyP ps i) (KA.th i) := by
    unfold mbegin mjoin
    rw [hn, ht]
  rw [em]
  generalize mbefore μ F p.d p.pr p.bu p.ws = ν at f1 f2 f3 f4 f5 fs ft fp fo hn
  have k0 : 0 ≤ keyP ps i := by omega
  have k1 : keyP ps i < 8 := by omega
  have link : ∀ k : Nat, ix (KA.th k) 15 = 207 + 320 * k := fun k => by unfold ix KA.th; omega
  have hlk : ∀ k : Nat, ν (ix (KA.th k) 15) = μ (ix (KA.th k) 15) := fun k => by
    by_cases e : k = i
    · rw [e, ← ht]
      exact f3 15 (by omega)
    · exact fo (by rw [link]; omega) (by rw [link]; omega)
  have hqn : ∀ j, QWord j → ν j = μ j := fun j hj => by
    unfold QWord at hj
    rcases hj with h1 | h1 | h1 | h1 | h1
    · exact fo (by omega) (by omega)
    · have := hlk 0; rw [link] at this; rw [h1]; exact this
    · have := hlk 1; rw [link] at this; rw [h1]; exact this
    · have := hlk 2; rw [link] at this; rw [h1]; exact this
    · have := hlk 3; rw [link] at this; rw [h1]; exact this
  have qs1 : Qs ν (qin ps i) := h.qs.frame h.qw (by omega) hqn
  have hnew : ∀ m : Int, 0 ≤ m → m < 8 → i ∉ qin ps i m := fun m _ _ hm => Nat.lt_irrefl _ (qin_lt hm)
  have tl := qs1.tail h.qw (by omega) k0 k1
  obtain ⟨μ', hμ⟩ : ∃ μ', μ' = mpush ν 0 (4 + keyP ps i) (12 + keyP ps i) (KA.th i) := ⟨_, rfl⟩
  have o : ∀ j, ¬ QWord j → μ' j = ν j := fun j hj => by rw [hμ]; exact mpush_other k0 k1 (by omega) tl hj
  have qs2 : Qs μ' (qin ps (i + 1)) := by rw [hμ]; exact qs_push h.qw (by omega) qs1 k0 k1 (by omega) hnew
  rw [← hμ]
  have o2 : ∀ {j : Nat}, ¬ QWord j → ((j : Int) < 64 + F ∨ 64 + F + 5 ≤ (j : Int)) → ((j : Int) < F * 64 ∨ (F + 4) * 64 ≤ (j : Int)) → μ' j = μ j := fun h0 h1 h2 => (o _ h0).trans (fo h1 h2)
  refine { ker := fun j hj => ?_, kz := fun f hf => ?_, zr := fun j hj hq => ?_, qw := ?_, qs := qs2, pt := fun k hk => ?_ }
  · rw [o2 (by unfold QWord; omega) (by omega) (by omega)]
    exact h.ker j hj
  · rw [o2 (by unfold QWord; omega) (by omega) (by omega)]
    exact h.kz f (by omega)
  · rw [o2 hq (by omega) (by omega)]
    exact h.zr j (by omega) hq
  · exact (h.qw.more (Nat.le_succ i)).push (Nat.lt_succ_self i) rfl hnew
  · by_cases e : k = i
    · subst e
      rw [hgp]
      refine { kd := fun c hc => ?_, sl := fun s q hs hq => ?_, th := fun a ha => ?_, th0 := fun j hj => ?_, tb := fun j hj => ?_, p1 := fun j hj => ?_, p2 := fun j hj => ?_ }
      · rw [o _ (by unfold QWord ix; omega), ← hF, f1 c hc]
        have e : c = 0 ∨ c = 1 ∨ c = 2 ∨ c = 3 ∨ c = 4 := by omega
        rcases e with e | e | e | e | e <;> subst e <;> rfl
      · have hv := fs hs hq
        rw [← hF]
        have hz : fld μ (F * 8 + (s : Int)) (q : Int) = 0 := by
          unfold fld
          exact h.zr _ (by omega) (by unfold QWord; omega)
        have ho : fld μ' (F * 8 + (s : Int)) (q : Int) = fld ν (F * 8 + (s : Int)) (q : Int) := by
          unfold fld
          exact o _ (by unfold QWord; omega)
        rw [ho, hv, hz]
        unfold slotW
        by_cases h6 : 6 ≤ s
        · rw [if_pos h6, if_pos h6]
          exact pgw_bd ⟨F2, by omega⟩ (by omega) hq
        · rw [if_neg h6, if_neg h6]
          by_cases h1 : 1 ≤ s ∧ s < 4
          · rw [if_pos h1, if_pos h1]
            exact capw_bd ⟨F2, by omega⟩ (by omega) hq
          · rw [if_neg h1, if_neg h1]
      · have b := thP_bd ha
        have n15 : 15 ≠ at0 thP a := thP_no (by omega) ha
        have e3 : (3 : Int) + 5 * (k : Int) = F + 1 := by omega
        rw [e3, o _ (by unfold QWord ix; omega), f2 a ha]
        have e : a = 0 ∨ a = 1 ∨ a = 2 ∨ a = 3 ∨ a = 4 ∨ a = 5 ∨ a = 6 := by omega
        rcases e with e | e | e | e | e | e | e <;> subst e
        · show (F + 1) % 65536 = F + 1
          omega
        · show (F + 3) % 65536 = 5 + 5 * (k : Int)
          omega
        · show p.pr % 65536 = p.pr
          omega
        · show p.bu % 65536 = p.bu
          omega
        · show p.bu % 65536 = p.bu
          omega
        · show p.d % 65536 = p.d
          omega
        · rfl
      · have e3 : (3 : Int) + 5 * (k : Int) = F + 1 := by omega
        rw [e3, o _ (by unfold QWord ix; omega), f3 j (by omega)]
        exact h.zr _ (by unfold ix; omega) (by unfold QWord ix; omega)
      · have e3 : (4 : Int) + 5 * (k : Int) = F + 2 := by omega
        rw [e3, ← hF, o _ (by unfold QWord ix; omega), ft hj, h.zr (ix (F + 2) (j : Int)) (by unfold ix; omega) (by unfold QWord ix; omega)]
        unfold tabW
        by_cases h3 : j < 3
        · rw [if_pos h3, if_pos h3]
          have e : j = 0 ∨ j = 1 ∨ j = 2 := by omega
          rcases e with e | e | e <;> subst e
          · show (F + 4) % 65536 = F + 4
            omega
          · rfl
          · show (F * 8 + 7) % 65536 = F * 8 + 7
            omega
        · rw [if_neg h3, if_neg h3]
          by_cases h4 : 4 ≤ j ∧ j < 7
          · rw [if_pos h4, if_pos h4]
            have e : j = 4 ∨ j = 5 ∨ j = 6 := by omega
            rcases e with e | e | e <;> subst e
            · show (F + 5) % 65536 = F + 5
              omega
            · rfl
            · show (F * 8 + 8) % 65536 = F * 8 + 8
              omega
          · rw [if_neg h4, if_neg h4]
      · have e3 : (5 : Int) + 5 * (k : Int) = F + 3 := by omega
        rw [e3, o _ (by unfold QWord ix; omega), fp hj, h.zr (ix (F + 3) (j : Int)) (by unfold ix; omega) (by unfold QWord ix; omega)]
        by_cases hl : j < p.ws.length
        · rw [if_pos hl]
          have hm : at0 p.ws j ∈ p.ws := by
            unfold at0
            rw [List.getD_eq_getElem?_getD, List.getElem?_eq_getElem hl]
            exact List.getElem_mem hl
          have := hws _ hm
          omega
        · rw [if_neg hl]
          unfold at0
          rw [List.getD_eq_getElem?_getD, List.getElem?_eq_none (by omega)]
          rfl
      · have e3 : (6 : Int) + 5 * (k : Int) = F + 4 := by omega
        rw [e3, o2 (by unfold QWord ix; omega) (by unfold ix; omega) (by unfold ix; omega)]
        exact h.zr _ (by unfold ix; omega) (by unfold QWord ix; omega)
    · have hki : k < i := by omega
      exact (h.pt k hki).frame (by omega) fun j hj hq => o2 hq (by unfold InPart at hj; omega) (by unfold InPart at hj; omega)
end KX

namespace KX
open KA KQ
/-! ### where a boot begins -/
theorem mplan_no {pl : List (Int × Int)} {j : Nat} : ∀ n : Nat, (∀ k : Nat, k < n → j ≠ 24 + k) → mplan m0 pl n j = 0
  | 0, _ => rfl
  | n + 1, h => by
    show mset (mplan m0 pl n) (ix 0 (24 + (n : Int))) _ j = 0
    rw [mset_ne (by have := h n (Nat.lt_succ_self n); unfold ix; omega)]
    exact mplan_no n fun k hk => h k (Nat.lt_succ_of_lt hk)
theorem mplan_at {pl : List (Int × Int)} {i : Nat} (hb : 0 ≤ (pl.getD i (0, 0)).1 * 256 + (pl.getD i (0, 0)).2 ∧ (pl.getD i (0, 0)).1 * 256 + (pl.getD i (0, 0)).2 < 65536) : ∀ n : Nat, i < n → mplan m0 pl n (24 + i) = (pl.getD i (0, 0)).1 * 256 + (pl.getD i (0, 0)).2
  | 0, h => by omega
  | n + 1, h => by
    show mset (mplan m0 pl n) (ix 0 (24 + (n : Int))) ((pl.getD n (0, 0)).1 * 256 + (pl.getD n (0, 0)).2) (24 + i) = _
    by_cases e : i = n
    · subst e
      have : ix 0 (24 + (i : Int)) = 24 + i := by unfold ix; omega
      rw [this, mset_same]
      omega
    · rw [mset_ne (by unfold ix; omega)]
      exact mplan_at hb n (by omega)
theorem mboot0_no {pl : List (Int × Int)} (hl : pl.length ≤ 4) {j : Nat} (hj : j ≠ 2) (h : j < 24 ∨ 24 + pl.length ≤ j) : mboot0 pl j = 0 := by
  unfold mboot0
  rw [mset_ne (by unfold ix; omega)]
  exact mplan_no _ fun k hk => by omega
theorem mboot0_2 {pl : List (Int × Int)} (g : GPl (pl.getD 0 (0, 0))) : mboot0 pl 2 = (pl.getD 0 (0, 0)).2 := by
  unfold mboot0
  have : ix 0 2 = 2 := by decide
  rw [this, mset_same]
  have := g.b
  omega
theorem mboot0_pl {pl : List (Int × Int)} (hl : pl.length ≤ 4) {i : Nat} (hi : i < pl.length) (g : GPl (pl.getD i (0, 0))) : mboot0 pl (24 + i) = (pl.getD i (0, 0)).1 * 256 + (pl.getD i (0, 0)).2 := by
  unfold mboot0
  rw [mset_ne (by unfold ix; omega)]
  have := g.a
  have := g.b
  exact mplan_at (by omega) _ hi
theorem BI.zero {pl : List (Int × Int)} {ps : List PtX} (hl : pl.length ≤ 4) : BI pl ps 0 (mboot0 pl) := by
  have hq : ∀ j, QWord j → mboot0 pl j = 0 := fun j hj => mboot0_no hl (by unfold QWord at hj; omega) (by unfold QWord at hj; omega)
  refine { ker := fun j _ => rfl, kz := fun f hf => mboot0_no hl (by omega) (by omega), zr := fun j hj _ => mboot0_no hl (by omega) (by omega), qw := ⟨fun n _ _ => List.nodup_nil, fun n _ _ k hk => by cases hk⟩, qs := ⟨fun n n0 n1 => hq _ (qword_head n0 n1).1, fun n n0 n1 => hq _ (qword_head n0 n1).2⟩, pt := fun k hk => by omega }
theorem getD_mem {α : Type} {L : List α} {i : Nat} {d : α} (h : i < L.length) : L.getD i d ∈ L := by
  rw [List.getD_eq_getElem?_getD, List.getElem?_eq_getElem h]
  exact List.getElem_mem h
theorem pBad_ok {p : PtX} (g : GPt p) : pBad p.d p.pr p.bu p.ws p.mn = false := by
  have := g.d
  have := g.pr
  have := g.bu
  have := g.wl
  have := g.mn
  simp only [pBad, Bool.or_eq_false_iff, Bool.not_eq_false', Bool.and_eq_true, decide_eq_true_eq, decide_eq_false_iff_not]
  omega
theorem BI.all {pl : List (Int × Int)} {ps : List PtX} (hl : pl.length ≤ 4) (h3 : ps.length ≤ 3) (g : ∀ p ∈ ps, GPt p) : ∀ i : Nat, i ≤ ps.length → ∃ ν, ofold (pstep ps) (mboot0 pl) i = some ν ∧ BI pl ps i ν
  | 0, _ => ⟨_, rfl, BI.zero hl⟩
  | i + 1, hi => by
    obtain ⟨ν, h1, h2⟩ := BI.all hl h3 g i (by omega)
    have gp := g _ (getD_mem (d := p0) (show i < ps.length by omega))
    refine ⟨_, (ofold_succ h1).trans (if_neg (by rw [pBad_ok gp]; decide)), h2.step (by omega) gp⟩
theorem bootOk_of {pl : List (Int × Int)} {ps : List PtX} {lks : List Lnk} {lns : List Ln3} (hl : pl.length ≤ 4) (h3 : ps.length ≤ 3) (g : ∀ p ∈ ps, GPt p) (l3 : lks.length ≤ 1000) (l4 : lns.length ≤ 1000) : BootOk pl ps lks lns := by
  refine ⟨fun _ _ i ν hi hν _ => ?_, fun p hp => (g p hp).mn.1, by omega, by omega, l3, l4⟩
  obtain ⟨ν', h1, h2⟩ := BI.all (ps := ps) hl h3 g i (by omega)
  rw [h1] at hν
  cases hν
  have gp := g _ (getD_mem (d := p0) hi)
  exact read6 (h2.room (by omega)) (Nat.le_trans gp.wl (by decide)) gp.d.1 gp.d.2 gp.pr.1 gp.pr.2
/-! ### the wrong calls -/
theorem g_pt1 : GPt pt1 := ⟨by decide, by decide, by decide, by decide, fun x hx => (List.not_mem_nil hx).elim, by decide⟩
theorem g_one {p : PtX} (h : p ∈ [pt1]) : GPt p := by
  rw [List.mem_singleton.mp h]
  exact g_pt1
theorem ok_bad {pl : List (Int × Int)} {ps : List PtX} {lks : List Lnk} {lns : List Ln3} (hb : planBad pl = true) (nn : ∀ p ∈ ps, 0 ≤ p.mn) (l1 : pl.length ≤ 1000) (l2 : ps.length ≤ 1000) (l3 : lks.length ≤ 1000) (l4 : lns.length ≤ 1000) : BootOk pl ps lks lns ∧ bootG pl ps lks lns = none :=
  ⟨⟨fun h _ _ _ _ _ _ => by rw [hb] at h; exact absurd h (by decide), nn, l1, l2, l3, l4⟩, if_pos hb⟩
theorem ok_room {pl : List (Int × Int)} {ps : List PtX} {lks : List Lnk} {lns : List Ln3} (hb : noRoom ps lks = true) (nn : ∀ p ∈ ps, 0 ≤ p.mn) (l1 : pl.length ≤ 1000) (l2 : ps.length ≤ 1000) (l3 : lks.length ≤ 1000) (l4 : lns.length ≤ 1000) : BootOk pl ps lks lns ∧ bootG pl ps lks lns = none := by
  refine ⟨⟨fun _ h _ _ _ _ _ => by rw [hb] at h; exact absurd h (by decide), nn, l1, l2, l3, l4⟩, ?_⟩
  unfold bootG
  rw [if_pos hb]
  split <;> rfl
theorem ok_part {pl : List (Int × Int)} {p : PtX} (hb : pBad p.d p.pr p.bu p.ws p.mn = true) (nn : 0 ≤ p.mn) (l1 : pl.length ≤ 1000) : BootOk pl [p] [] [] ∧ bootG pl [p] [] [] = none := by
  refine ⟨⟨fun _ _ i ν hi hν h => ?_, fun q hq => by rw [List.mem_singleton.mp hq]; exact nn, l1, by show 1 ≤ 1000; decide, by decide, by decide⟩, ?_⟩
  · have : i = 0 := by have : i < 1 := hi; omega
    subst this
    have h : pBad p.d p.pr p.bu p.ws p.mn = false := h
    rw [hb] at h
    cases h
  · unfold bootG
    split
    · rfl
    · split
      · rfl
      · have : ofold (pstep [p]) (mboot0 pl) [p].length = none := if_pos hb
        rw [this]
        rfl
theorem none_link {pl : List (Int × Int)} {ps : List PtX} {lks : List Lnk} {lns : List Ln3} (h : ∀ μ1, ofold (kstep (ps.length : Int) lks) μ1 lks.length = none) : bootG pl ps lks lns = none := by
  unfold bootG
  split
  · rfl
  · split
    · rfl
    · cases ofold (pstep ps) (mboot0 pl) ps.length with
      | none => rfl
      | some μ1 =>
        show (ofold (kstep (ps.length : Int) lks) μ1 lks.length).bind _ = none
        rw [h μ1]
        rfl
theorem none_line {pl : List (Int × Int)} {ps : List PtX} {lks : List Lnk} {lns : List Ln3} (h : ∀ μ, ofold (nstep (ps.length : Int) lks lns) μ lns.length = none) : bootG pl ps lks lns = none := by
  unfold bootG
  split
  · rfl
  · split
    · rfl
    · cases ofold (pstep ps) (mboot0 pl) ps.length with
      | none => rfl
      | some μ1 =>
        show (ofold (kstep (ps.length : Int) lks) μ1 lks.length).bind _ = none
        cases ofold (kstep (ps.length : Int) lks) μ1 lks.length with
        | none => rfl
        | some μ2 => exact h _
/-- a third capability for part 0 finds no slot -/
theorem lstep_two {ν : Mem} {f t : Int} {μ : Mem} (h : lstep ν f 6 0 t = some μ) : (ν (ix 2 32) = 0 ∧ μ (ix 2 32) ≠ 0 ∧ μ (ix 2 40) = ν (ix 2 40)) ∨ (ν (ix 2 32) ≠ 0 ∧ ν (ix 2 40) = 0 ∧ μ (ix 2 32) = ν (ix 2 32) ∧ μ (ix 2 40) ≠ 0) := by
  have e2 : (2 : Int) + 5 * 0 = 2 := by decide
  unfold lstep at h
  rw [e2] at h
  by_cases h4 : ν (ix 2 32) = 0
  · rw [if_pos h4] at h
    cases h
    refine .inl ⟨h4, ?_, mcap_other (by decide) (by decide)⟩
    have := mcap_at (μ := ν) (s := 2 * 8 + 4) (sz := 1) (us := 0) (c := at0 [6, f, t, 0 + 1]) (by decide) (q := 0) (by decide)
    have this : mcap ν (2 * 8 + 4) (at0 [6, f, t, 0 + 1]) 1 0 (ix 2 32) = 6 := this
    rw [this]
    decide
  · rw [if_neg h4] at h
    by_cases h5 : ν (ix 2 40) = 0
    · rw [if_pos h5] at h
      cases h
      refine .inr ⟨h4, h5, mcap_other (by decide) (by decide), ?_⟩
      have := mcap_at (μ := ν) (s := 2 * 8 + 5) (sz := 1) (us := 0) (c := at0 [6, f, t, 0 + 1]) (by decide) (q := 0) (by decide)
      have this : mcap ν (2 * 8 + 5) (at0 [6, f, t, 0 + 1]) 1 0 (ix 2 40) = 6 := this
      rw [this]
      decide
    · rw [if_neg h5] at h
      cases h
end KX

namespace KX
open KA KQ
theorem nn_pt {n : Nat} : ∀ p ∈ List.replicate n pt1, 0 ≤ p.mn := fun p hp => by rw [(List.mem_replicate.mp hp).2]; decide
theorem nn_1 : ∀ p ∈ [pt1], 0 ≤ p.mn := fun p hp => by rw [List.mem_singleton.mp hp]; decide
theorem ok_l1 {pl : List (Int × Int)} {l : Lnk} (hl : pl.length ≤ 4) (hb : lBad l.k l.one l.r l.other l.o 1 = true) : BootOk pl [pt1] [l] [] ∧ bootG pl [pt1] [l] [] = none :=
  ⟨bootOk_of hl (by decide) (fun p hp => g_one hp) (by show 1 ≤ 1000; decide) (by decide), none_link fun μ1 => if_pos hb⟩
theorem ok_n1 {pl : List (Int × Int)} {l : Lnk} {n : Ln3} (hl : pl.length ≤ 4) (hb : nBad [l] n = true) : BootOk pl [pt1] [l] [n] ∧ bootG pl [pt1] [l] [n] = none :=
  ⟨bootOk_of hl (by decide) (fun p hp => g_one hp) (by show 1 ≤ 1000; decide) (by show 1 ≤ 1000; decide), none_line fun μ1 => if_pos hb⟩
theorem ok_l2 {pl : List (Int × Int)} (hl : pl.length ≤ 4) : BootOk pl [pt1] (List.replicate (Int.toNat 2) ⟨6, 0, 1, 0, 1⟩) [] ∧ bootG pl [pt1] (List.replicate (Int.toNat 2) ⟨6, 0, 1, 0, 1⟩) [] = none := by
  refine ⟨bootOk_of hl (by decide) (fun p hp => g_one hp) (by show 2 ≤ 1000; decide) (by decide), none_link fun μ1 => ?_⟩
  show (ofold (kstep 1 [⟨6, 0, 1, 0, 1⟩, ⟨6, 0, 1, 0, 1⟩]) μ1 1).bind (kstep 1 [⟨6, 0, 1, 0, 1⟩, ⟨6, 0, 1, 0, 1⟩] 1) = none
  cases h1 : ofold (kstep 1 [⟨6, 0, 1, 0, 1⟩, ⟨6, 0, 1, 0, 1⟩]) μ1 1 with
  | none => rfl
  | some ν =>
    have hb : ∀ f : Int, ∀ μ : Mem, mlnk μ f 6 0 1 0 1 1 = (lstep (mset μ (ix 1 f) 6) f 6 0 1).bind fun ν => lstep ν f 6 0 1 := fun f μ => rfl
    have h1' : mlnk μ1 (2 + 5 * 1 + ((0 : Nat) : Int)) 6 0 1 0 1 1 = some ν := h1
    rw [hb] at h1'
    show mlnk ν (2 + 5 * 1 + ((1 : Nat) : Int)) 6 0 1 0 1 1 = none
    rw [hb]
    cases h2 : lstep (mset μ1 (ix 1 (2 + 5 * 1 + ((0 : Nat) : Int))) 6) (2 + 5 * 1 + ((0 : Nat) : Int)) 6 0 1 with
    | none => rw [h2] at h1'; cases h1'
    | some ν1 =>
      rw [h2] at h1'
      have h3 : lstep ν1 (2 + 5 * 1 + ((0 : Nat) : Int)) 6 0 1 = some ν := h1'
      have a := lstep_two h2
      have b := lstep_two h3
      have c : ν (ix 2 32) ≠ 0 ∧ ν (ix 2 40) ≠ 0 := by
        rcases a with ⟨a1, a2, a3⟩ | ⟨a1, a2, a3, a4⟩
        · rcases b with ⟨b1, _, _⟩ | ⟨b1, b2, b3, b4⟩
          · exact absurd b1 a2
          · exact ⟨by rw [b3]; exact a2, b4⟩
        · rcases b with ⟨b1, b2, b3⟩ | ⟨b1, b2, b3, b4⟩
          · rw [a3] at b1; exact absurd b1 a1
          · exact absurd b2 a4
      have d : lstep (mset ν (ix 1 (2 + 5 * 1 + ((1 : Nat) : Int))) 6) (2 + 5 * 1 + ((1 : Nat) : Int)) 6 0 1 = none := by
        have e2 : (2 : Int) + 5 * 0 = 2 := by decide
        unfold lstep
        rw [e2, mset_ne (by decide), if_neg c.1, mset_ne (by decide), if_neg c.2]
      rw [d]
      rfl
theorem wr_all {pl : List (Int × Int)} (hl : 1 ≤ pl.length ∧ pl.length ≤ 4) : ∀ t ∈ WR pl, BootOk t.pl t.ps t.lk t.ln ∧ bootG t.pl t.ps t.lk t.ln = none := by
  have l4 := hl.2
  have l1000 : pl.length ≤ 1000 := by omega
  intro t ht
  unfold WR W1 W2 W3 W4 at ht
  simp only [List.mem_append, List.mem_cons, List.not_mem_nil, or_false] at ht
  rcases ht with ((h | h) | h) | h
  · rcases h with rfl | rfl | rfl | rfl | rfl | rfl
    · dsimp only
      exact ok_bad (by decide) nn_1 (by decide) (by show 1 ≤ 1000; decide) (by decide) (by decide)
    · dsimp only
      exact ok_bad (by decide) nn_1 (by show 1 ≤ 1000; decide) (by show 1 ≤ 1000; decide) (by decide) (by decide)
    · dsimp only
      exact ok_bad (by decide) nn_1 (by show 1 ≤ 1000; decide) (by show 1 ≤ 1000; decide) (by decide) (by decide)
    · dsimp only
      exact ok_bad (by decide) nn_1 (by show 5 ≤ 1000; decide) (by show 1 ≤ 1000; decide) (by decide) (by decide)
    · dsimp only
      exact ok_room (by decide) (fun p hp => (List.not_mem_nil hp).elim) l1000 (by decide) (by decide) (by decide)
    · dsimp only
      exact ok_part (by decide) (by decide) l1000
  · rcases h with rfl | rfl | rfl | rfl
    · dsimp only
      exact ok_part (by decide) (by decide) l1000
    · dsimp only
      exact ok_part (by decide) (by decide) l1000
    · dsimp only
      exact ok_room (by decide) (fun p hp => by rw [List.mem_singleton.mp hp]; decide) l1000 (by show 1 ≤ 1000; decide) (by decide) (by decide)
    · dsimp only
      exact ok_room (by decide) nn_pt l1000 (by show 7 ≤ 1000; decide) (by decide) (by decide)
  · rcases h with rfl | rfl | rfl | rfl
    · dsimp only
      exact ok_l1 l4 (by decide)
    · dsimp only
      exact ok_l1 l4 (by decide)
    · dsimp only
      exact ok_l1 l4 (by decide)
    · dsimp only
      exact ok_l2 l4
  · rcases h with rfl | rfl | rfl
    · dsimp only
      exact ok_n1 l4 (by decide)
    · dsimp only
      exact ok_n1 l4 (by decide)
    · dsimp only
      exact ok_n1 l4 (by decide)
end KX

namespace KX
open KA KQ
open PySem PySem.Spec L2 Evl
/-! ### the link, the untyped, the lines -/
/-- the memory with a link -/
def mlk1 (μ : Mem) (n : Nat) (l : Lnk) : Mem := mcap (mcap (mset μ (ix 1 (2 + 5 * (n : Int))) l.k) ((2 + 5 * l.one) * 8 + 4) (at0 [l.k, 2 + 5 * (n : Int), l.r, l.one + 1]) 1 0) ((2 + 5 * l.other) * 8 + (if l.one = l.other then 5 else 4)) (at0 [l.k, 2 + 5 * (n : Int), l.o, l.other + 1]) 1 0
theorem lBad_ok {n : Int} {l : Lnk} (g : GLk n l) : lBad l.k l.one l.r l.other l.o n = false := by
  have := g.one
  have := g.other
  have := g.r
  have := g.o
  have hk : inV (.int l.k) [.int 6, .int 7] = true := by
    rcases g.k with h | h <;> rw [h] <;> decide
  unfold lBad
  rw [hk, decide_eq_true this.1, decide_eq_true this.2]
  simp only [Bool.not_true, Bool.false_or, Bool.not_eq_false', Bool.and_eq_true, decide_eq_true_eq, Bool.and_true]
  omega
theorem fld0 {μ : Mem} {F s : Int} : μ (ix F (s * 8)) = fld μ (F * 8 + s) ((0 : Nat) : Int) := by
  unfold fld ix
  congr 1
  omega
theorem lstep4 {μ : Mem} {f k part told : Int} (h : fld μ ((2 + 5 * part) * 8 + 4) ((0 : Nat) : Int) = 0) : lstep μ f k part told = some (mcap μ ((2 + 5 * part) * 8 + 4) (at0 [k, f, told, part + 1]) 1 0) := by
  unfold lstep
  rw [if_pos (by rw [← h, ← fld0]; rfl)]
theorem lstep5 {μ : Mem} {f k part told : Int} (h : fld μ ((2 + 5 * part) * 8 + 4) ((0 : Nat) : Int) ≠ 0) (h5 : fld μ ((2 + 5 * part) * 8 + 5) ((0 : Nat) : Int) = 0) : lstep μ f k part told = some (mcap μ ((2 + 5 * part) * 8 + 5) (at0 [k, f, told, part + 1]) 1 0) := by
  unfold lstep
  rw [if_neg (by rw [← fld0] at h; exact h), if_pos (by rw [← h5, ← fld0]; rfl)]
theorem fld_mset {μ : Mem} {i : Nat} {x s : Int} {q : Nat} (h : (s * 8 + (q : Int)).toNat ≠ i) : fld (mset μ i x) s (q : Int) = fld μ s (q : Int) := mset_ne h
theorem lnk_eq {pl : List (Int × Int)} {ps : List PtX} {l : Lnk} {μ : Mem} (h3 : ps.length ≤ 3) (h : BI pl ps ps.length μ) (g : GLk (ps.length : Int) l) : mlnk μ (2 + 5 * (ps.length : Int)) l.k l.one l.r l.other l.o (ps.length : Int) = some (mlk1 μ ps.length l) := by
  obtain ⟨a0, a1⟩ := g.one
  obtain ⟨b0, b1⟩ := g.other
  have z : ∀ part : Int, 0 ≤ part → part < (ps.length : Int) → ∀ s : Nat, s = 4 ∨ s = 5 → fld μ ((2 + 5 * part) * 8 + (s : Int)) ((0 : Nat) : Int) = 0 := fun part p0 p1 s hs => by
    have := (h.pt part.toNat (by omega)).sl s 0 (by omega) (by decide)
    rw [Int.toNat_of_nonneg p0] at this
    rw [this]
    rcases hs with rfl | rfl <;> rfl
  have zm : ∀ part : Int, 0 ≤ part → part < (ps.length : Int) → ∀ s : Nat, s = 4 ∨ s = 5 → fld (mset μ (ix 1 (2 + 5 * (ps.length : Int))) l.k) ((2 + 5 * part) * 8 + (s : Int)) ((0 : Nat) : Int) = 0 := fun part p0 p1 s hs => by
    rw [fld_mset (by unfold ix; omega)]
    exact z part p0 p1 s hs
  have e1 : lpre μ (2 + 5 * (ps.length : Int)) l.k l.one l.r l.other l.o 1 = some (mcap (mset μ (ix 1 (2 + 5 * (ps.length : Int))) l.k) ((2 + 5 * l.one) * 8 + 4) (at0 [l.k, 2 + 5 * (ps.length : Int), l.r, l.one + 1]) 1 0) := lstep4 (zm l.one a0 a1 4 (.inl rfl))
  have e2 : mlnk μ (2 + 5 * (ps.length : Int)) l.k l.one l.r l.other l.o (ps.length : Int) = lpre μ (2 + 5 * (ps.length : Int)) l.k l.one l.r l.other l.o 2 := if_neg (by rw [lBad_ok g]; decide)
  have e3 : lpre μ (2 + 5 * (ps.length : Int)) l.k l.one l.r l.other l.o 2 = lstep (mcap (mset μ (ix 1 (2 + 5 * (ps.length : Int))) l.k) ((2 + 5 * l.one) * 8 + 4) (at0 [l.k, 2 + 5 * (ps.length : Int), l.r, l.one + 1]) 1 0) (2 + 5 * (ps.length : Int)) l.k l.other l.o := by
    show (lpre μ (2 + 5 * (ps.length : Int)) l.k l.one l.r l.other l.o 1).bind _ = _
    rw [e1]
    rfl
  rw [e2, e3]
  unfold mlk1
  by_cases e : l.one = l.other
  · rw [if_pos e]
    refine lstep5 ?_ ?_
    · rw [← e, mcap_at (by omega) (by decide)]
      show l.k % 65536 ≠ 0
      rcases g.k with h | h <;> rw [h] <;> decide
    · have := fld_other (μ := mset μ (ix 1 (2 + 5 * (ps.length : Int))) l.k) (s := (2 + 5 * l.one) * 8 + 4) (t := (2 + 5 * l.other) * 8 + ((5 : Nat) : Int)) (sz := 1) (us := 0) (c := at0 [l.k, 2 + 5 * (ps.length : Int), l.r, l.one + 1]) (q := 0) (by omega) (by omega) (by decide) (.inl (by omega))
      exact this.trans (zm l.other b0 b1 5 (.inr rfl))
  · rw [if_neg e]
    refine lstep4 ?_
    have := fld_other (μ := mset μ (ix 1 (2 + 5 * (ps.length : Int))) l.k) (s := (2 + 5 * l.one) * 8 + 4) (t := (2 + 5 * l.other) * 8 + ((4 : Nat) : Int)) (sz := 1) (us := 0) (c := at0 [l.k, 2 + 5 * (ps.length : Int), l.r, l.one + 1]) (q := 0) (by omega) (by omega) (by decide) (.inl (by omega))
    exact this.trans (zm l.other b0 b1 4 (.inl rfl))
/-! ### where the boot ends -/
/-- the words of slots 4 and 5 of part k -/
def lk4 (n : Nat) (lks : List Lnk) (k q : Nat) : Int := match lks with
  | [l] => if l.one = (k : Int) then capw (at0 [l.k, 2 + 5 * (n : Int), l.r, (k : Int) + 1]) 1 0 q else if l.other = (k : Int) then capw (at0 [l.k, 2 + 5 * (n : Int), l.o, (k : Int) + 1]) 1 0 q else 0
  | _ => 0
def lk5 (n : Nat) (lks : List Lnk) (k q : Nat) : Int := match lks with
  | [l] => if l.one = (k : Int) ∧ l.other = (k : Int) then capw (at0 [l.k, 2 + 5 * (n : Int), l.o, (k : Int) + 1]) 1 0 q else 0
  | _ => 0
/-- a part but for the slots 0, 4, 5 -/
structure PartG (μ : Mem) (k : Nat) (p : PtX) : Prop where
  kd : ∀ c : Nat, c < 5 → μ (ix 1 ((2 + 5 * (k : Int)) + (c : Int))) = at0 [4, 5, 3, 2, 2] c
  sl : ∀ s q : Nat, s < 8 → q < 7 → s ≠ 0 → s ≠ 4 → s ≠ 5 → fld μ ((2 + 5 * (k : Int)) * 8 + (s : Int)) (q : Int) = slotW (2 + 5 * (k : Int)) s q
  th : ∀ i : Nat, i < 7 → μ (ix (3 + 5 * (k : Int)) (at0 thP i)) = at0 [3 + 5 * (k : Int), 5 + 5 * (k : Int), p.pr, p.bu, p.bu, p.d, 1] i
  th0 : ∀ j : Int, (1 ≤ j ∧ j ≤ 9) ∨ (16 ≤ j ∧ j ≤ 21) ∨ (23 ≤ j ∧ j < 64) → μ (ix (3 + 5 * (k : Int)) j) = 0
  tb : ∀ j : Nat, j < 64 → μ (ix (4 + 5 * (k : Int)) (j : Int)) = tabW (2 + 5 * (k : Int)) j
  p1 : ∀ j : Nat, j < 64 → μ (ix (5 + 5 * (k : Int)) (j : Int)) = at0 p.ws j
  p2 : ∀ j : Nat, j < 64 → μ (ix (6 + 5 * (k : Int)) (j : Int)) = 0
/-- a word of slot s of part k -/
def SlW (k s j : Nat) : Prop := (2 + 5 * k) * 64 + s * 8 ≤ j ∧ j < (2 + 5 * k) * 64 + s * 8 + 7
theorem PartG.of {μ μ' : Mem} {k : Nat} {p : PtX} (h : PartF μ k p) (k4 : k < 4) (e : ∀ j, InPart k j → ¬ QWord j → ¬ SlW k 0 j → ¬ SlW k 4 j → ¬ SlW k 5 j → μ' j = μ j) : PartG μ' k p where
  kd c hc := by rw [e _ (by unfold InPart ix; omega) (by unfold QWord ix; omega) (by unfold SlW ix; omega) (by unfold SlW ix; omega) (by unfold SlW ix; omega)]; exact h.kd c hc
  sl s q hs hq n0 n4 n5 := by
    have := h.sl s q hs hq
    unfold fld at this ⊢
    rw [e _ (by unfold InPart; omega) (by unfold QWord; omega) (by unfold SlW; omega) (by unfold SlW; omega) (by unfold SlW; omega)]
    exact this
  th i hi := by
    have b := thP_bd hi
    have n15 : 15 ≠ at0 thP i := thP_no (by omega) hi
    rw [e _ (by unfold InPart ix; omega) (by unfold QWord ix; omega) (by unfold SlW ix; omega) (by unfold SlW ix; omega) (by unfold SlW ix; omega)]
    exact h.th i hi
  th0 j hj := by rw [e _ (by unfold InPart ix; omega) (by unfold QWord ix; omega) (by unfold SlW ix; omega) (by unfold SlW ix; omega) (by unfold SlW ix; omega)]; exact h.th0 j hj
  tb j hj := by rw [e _ (by unfold InPart ix; omega) (by unfold QWord ix; omega) (by unfold SlW ix; omega) (by unfold SlW ix; omega) (by unfold SlW ix; omega)]; exact h.tb j hj
  p1 j hj := by rw [e _ (by unfold InPart ix; omega) (by unfold QWord ix; omega) (by unfold SlW ix; omega) (by unfold SlW ix; omega) (by unfold SlW ix; omega)]; exact h.p1 j hj
  p2 j hj := by rw [e _ (by unfold InPart ix; omega) (by unfold QWord ix; omega) (by unfold SlW ix; omega) (by unfold SlW ix; omega) (by unfold SlW ix; omega)]; exact h.p2 j hj
end KX

namespace KX
open KA KQ
open PySem PySem.Spec L2 Evl
structure M2 (μ1 μ2 : Mem) (n : Nat) (lks : List Lnk) : Prop where
  same : ∀ j, j ≠ 64 + (2 + 5 * n) → (∀ k, k < n → ¬ SlW k 4 j ∧ ¬ SlW k 5 j) → μ2 j = μ1 j
  kX : μ2 (64 + (2 + 5 * n)) = if lks.length = 1 then (lks.getD 0 l0).k else 0
  s4 : ∀ k q : Nat, k < n → q < 7 → fld μ2 ((2 + 5 * (k : Int)) * 8 + 4) (q : Int) = lk4 n lks k q
  s5 : ∀ k q : Nat, k < n → q < 7 → fld μ2 ((2 + 5 * (k : Int)) * 8 + 5) (q : Int) = lk5 n lks k q
theorem lw_bd {n : Nat} {l : Lnk} {k q : Nat} {r : Int} (g : l.k = 6 ∨ l.k = 7) (h3 : n ≤ 3) (hk : k < n) (hr : 1 ≤ r ∧ r ≤ 7) (hq : q < 7) : capw (at0 [l.k, 2 + 5 * (n : Int), r, (k : Int) + 1]) 1 0 q % 65536 = capw (at0 [l.k, 2 + 5 * (n : Int), r, (k : Int) + 1]) 1 0 q := by
  have e : q = 0 ∨ q = 1 ∨ q = 2 ∨ q = 3 ∨ q = 4 ∨ q = 5 ∨ q = 6 := by omega
  rcases e with e | e | e | e | e | e | e <;> subst e
  · show l.k % 65536 = l.k
    omega
  · show (2 + 5 * (n : Int)) % 65536 = 2 + 5 * (n : Int)
    omega
  · show r % 65536 = r
    omega
  · show ((k : Int) + 1) % 65536 = (k : Int) + 1
    omega
  · rfl
  · rfl
  · rfl
theorem m2_all {pl : List (Int × Int)} {ps : List PtX} {lks : List Lnk} {μ : Mem} (h1 : lks.length ≤ 1) (h3 : ps.length ≤ 3) (h : BI pl ps ps.length μ) (g : ∀ l ∈ lks, GLk (ps.length : Int) l) : ∃ μ2, ofold (kstep (ps.length : Int) lks) μ lks.length = some μ2 ∧ M2 μ μ2 ps.length lks := by
  have z : ∀ k s q : Nat, k < ps.length → s = 4 ∨ s = 5 → q < 7 → fld μ ((2 + 5 * (k : Int)) * 8 + (s : Int)) (q : Int) = 0 := fun k s q hk hs hq => by
    rw [(h.pt k hk).sl s q (by omega) hq]
    rcases hs with rfl | rfl <;> rfl
  match lks, h1, g with
  | [], _, _ =>
    refine ⟨μ, rfl, fun j _ _ => rfl, ?_, fun k q hk hq => z k 4 q hk (.inl rfl) hq, fun k q hk hq => z k 5 q hk (.inr rfl) hq⟩
    exact h.kz _ (by omega)
  | [l], _, g =>
    have gl : GLk (ps.length : Int) l := g l (List.mem_singleton.mpr rfl)
    obtain ⟨a0, a1⟩ := gl.one
    obtain ⟨b0, b1⟩ := gl.other
    obtain ⟨i1, hi1⟩ : ∃ i : Nat, l.one = (i : Int) := ⟨l.one.toNat, by omega⟩
    obtain ⟨i2, hi2⟩ : ∃ i : Nat, l.other = (i : Int) := ⟨l.other.toNat, by omega⟩
    have hst : ofold (kstep (ps.length : Int) [l]) μ [l].length = some (mlk1 μ ps.length l) := by
      show mlnk μ (2 + 5 * (ps.length : Int) + ((0 : Nat) : Int)) l.k l.one l.r l.other l.o (ps.length : Int) = _
      rw [show 2 + 5 * (ps.length : Int) + ((0 : Nat) : Int) = 2 + 5 * (ps.length : Int) by omega]
      exact lnk_eq h3 h gl
    have hm : ∀ s q : Nat, s = 4 ∨ s = 5 → q < 7 → ∀ k : Nat, k < ps.length → fld (mset μ (ix 1 (2 + 5 * (ps.length : Int))) l.k) ((2 + 5 * (k : Int)) * 8 + (s : Int)) (q : Int) = 0 := fun s q hs hq k hk => by
      rw [fld_mset (by unfold ix; omega)]
      exact z k s q hk hs hq
    refine ⟨_, hst, fun j hj hn => ?_, ?_, fun k q hk hq => ?_, fun k q hk hq => ?_⟩
    · unfold mlk1
      have n1 := hn i1 (by omega)
      have n2 := hn i2 (by omega)
      unfold SlW at n1 n2
      rw [mcap_other (by split <;> omega) (by split <;> omega), mcap_other (by omega) (by omega), mset_ne (by unfold ix; omega)]
    · unfold mlk1
      rw [mcap_other (by split <;> omega) (by split <;> omega), mcap_other (by omega) (by omega)]
      have : ix 1 (2 + 5 * (ps.length : Int)) = 64 + (2 + 5 * ps.length) := by unfold ix; omega
      rw [this, mset_same]
      show l.k % 65536 = l.k
      rcases gl.k with z | z <;> rw [z] <;> decide
    · have c4 : ((4 : Nat) : Int) = 4 := rfl
      unfold mlk1 lk4
      dsimp only
      by_cases e1 : l.one = (k : Int)
      · rw [if_pos e1, fld_other (by split <;> omega) (by omega) (by omega) (.inl (by split <;> omega)), e1, mcap_at (by omega) hq]
        exact lw_bd gl.k h3 hk gl.r hq
      · rw [if_neg e1]
        by_cases e2 : l.other = (k : Int)
        · rw [if_pos e2, if_neg (by omega), e2, mcap_at (by omega) hq]
          exact lw_bd gl.k h3 hk gl.o hq
        · rw [if_neg e2, fld_other (by split <;> omega) (by omega) (by omega) (.inl (by split <;> omega)), fld_other (by omega) (by omega) (by omega) (.inl (by omega))]
          exact hm 4 q (.inl rfl) hq k hk
    · unfold mlk1 lk5
      dsimp only
      by_cases e : l.one = (k : Int) ∧ l.other = (k : Int)
      · rw [if_pos e, if_pos (by omega), e.2, mcap_at (by omega) hq]
        exact lw_bd gl.k h3 hk gl.o hq
      · rw [if_neg e, fld_other (by split <;> omega) (by omega) (by omega) (.inl (by split <;> omega)), fld_other (by omega) (by omega) (by omega) (.inl (by omega))]
        exact hm 5 q (.inr rfl) hq k hk
/-! ### the untyped -/
theorem bef_succ {ps : List PtX} {i : Nat} : bef ps (i + 1) = bef ps i + (ps.getD i p0).mn := by
  unfold bef
  rw [List.range_succ, List.map_append, List.sum_append]
  simp
theorem upre_2 {ps : List PtX} {μ : Mem} {f : Int} : ∀ i : Nat, (upre ps μ f i).2 = f + bef ps i
  | 0 => by show f = f + 0; omega
  | i + 1 => by
    rw [bef_succ]
    have ih := upre_2 (ps := ps) (μ := μ) (f := f) i
    unfold upre
    split
    · show (upre ps μ f i).2 + _ = _
      rw [ih]
      omega
    · rename_i h
      rw [ih]
      omega
theorem upre_other {ps : List PtX} {μ : Mem} {f : Int} {j : Nat} : ∀ i : Nat, (∀ k, k < i → ¬ SlW k 0 j) → (upre ps μ f i).1 j = μ j
  | 0, _ => rfl
  | i + 1, h => by
    have ih := upre_other (ps := ps) (μ := μ) (f := f) i fun k hk => h k (Nat.lt_succ_of_lt hk)
    have := h i (Nat.lt_succ_self i)
    unfold SlW at this
    unfold upre
    split
    · show mcap (upre ps μ f i).1 ((2 + 5 * (i : Int)) * 8) _ _ _ j = _
      rw [mcap_other (by omega) (by omega)]
      exact ih
    · exact ih
theorem upre_at {ps : List PtX} {μ : Mem} {f : Int} {k q : Nat} (hq : q < 7) : ∀ i : Nat, k < i → fld (upre ps μ f i).1 ((2 + 5 * (k : Int)) * 8) (q : Int) = if (ps.getD k p0).mn ≠ 0 then capw (at0 [1, f + bef ps k, 7, 0]) (ps.getD k p0).mn 0 q % 65536 else fld μ ((2 + 5 * (k : Int)) * 8) (q : Int)
  | i + 1, h => by
    by_cases e : k = i
    · subst e
      unfold upre
      split
      · show fld (mcap (upre ps μ f k).1 ((2 + 5 * (k : Int)) * 8) _ _ _) _ _ = _
        rw [mcap_at (by omega) hq, upre_2]
      · unfold fld
        exact upre_other k fun a ha => by unfold SlW; omega
    · have ih := upre_at (ps := ps) (μ := μ) (f := f) (k := k) hq i (by omega)
      have : fld (upre ps μ f (i + 1)).1 ((2 + 5 * (k : Int)) * 8) (q : Int) = fld (upre ps μ f i).1 ((2 + 5 * (k : Int)) * 8) (q : Int) := by
        conv => lhs; unfold upre
        split
        · exact fld_other (by omega) (by omega) (by omega) (.inl (by omega))
        · rfl
      rw [this]
      exact ih
end KX

namespace KX
open KA KQ
open PySem PySem.Spec L2 Evl
structure Fin (pl : List (Int × Int)) (ps : List PtX) (lks : List Lnk) (μ : Mem) : Prop where
  k0 : ∀ j, j < 4 ∨ (24 ≤ j ∧ j < 64) → μ j = mboot0 pl j
  k20 : ∀ j, 20 ≤ j → j < 23 → μ j = 0
  k23 : μ 23 = if lnsOf lks = [] then 0 else 9 * 256 + 2 + 5 * (ps.length : Int) + 1
  kz : ∀ f : Nat, f < 2 ∨ (2 + 5 * ps.length ≤ f ∧ f < 64) → μ (64 + f) = if f = 2 + 5 * ps.length ∧ lks.length = 1 then (lks.getD 0 l0).k else 0
  zr : ∀ j, (2 + 5 * ps.length) * 64 ≤ j → ¬ QWord j → μ j = 0
  qw : QW ps.length (keyP ps) (qin ps ps.length)
  qs : Qs μ (qin ps ps.length)
  pt : ∀ k, k < ps.length → PartG μ k (ps.getD k p0)
  s0 : ∀ k q : Nat, k < ps.length → q < 7 → fld μ ((2 + 5 * (k : Int)) * 8) (q : Int) = if (ps.getD k p0).mn ≠ 0 then capw (at0 [1, 2 + 5 * (ps.length : Int) + (lks.length : Int) + bef ps k, 7, 0]) (ps.getD k p0).mn 0 q else 0
  s4 : ∀ k q : Nat, k < ps.length → q < 7 → fld μ ((2 + 5 * (k : Int)) * 8 + 4) (q : Int) = lk4 ps.length lks k q
  s5 : ∀ k q : Nat, k < ps.length → q < 7 → fld μ ((2 + 5 * (k : Int)) * 8 + 5) (q : Int) = lk5 ps.length lks k q
theorem bef_bd {ps : List PtX} (g : ∀ p ∈ ps, GPt p) : ∀ k : Nat, k ≤ ps.length → 0 ≤ bef ps k ∧ bef ps k ≤ 3 * (k : Int)
  | 0, _ => by show 0 ≤ (0 : Int) ∧ (0 : Int) ≤ _; omega
  | k + 1, h => by
    have ih := bef_bd g k (by omega)
    have := (g _ (getD_mem (d := p0) (show k < ps.length by omega))).mn
    rw [bef_succ]
    omega
theorem sum_bef {ps : List PtX} : (ps.map (·.mn)).sum = bef ps ps.length := by
  unfold bef
  congr 1
  refine List.ext_getElem? fun i => ?_
  rw [List.getElem?_map, List.getElem?_map]
  by_cases hi : i < ps.length
  · rw [List.getElem?_range hi, List.getElem?_eq_getElem hi]
    show _ = some (ps.getD i p0).mn
    rw [List.getD_eq_getElem?_getD, List.getElem?_eq_getElem hi]
    rfl
  · rw [List.getElem?_eq_none (by omega), List.getElem?_eq_none (by rw [List.length_range]; omega)]
    rfl
theorem uw_bd {ps : List PtX} {k q : Nat} {L : Int} (g : ∀ p ∈ ps, GPt p) (h3 : ps.length ≤ 3) (hk : k < ps.length) (hL : 0 ≤ L ∧ L ≤ 1) (hq : q < 7) : capw (at0 [1, 2 + 5 * (ps.length : Int) + L + bef ps k, 7, 0]) (ps.getD k p0).mn 0 q % 65536 = capw (at0 [1, 2 + 5 * (ps.length : Int) + L + bef ps k, 7, 0]) (ps.getD k p0).mn 0 q := by
  have b := bef_bd g k (by omega)
  have m := (g _ (getD_mem (d := p0) hk)).mn
  have e : q = 0 ∨ q = 1 ∨ q = 2 ∨ q = 3 ∨ q = 4 ∨ q = 5 ∨ q = 6 := by omega
  rcases e with e | e | e | e | e | e | e <;> subst e
  · rfl
  · show (2 + 5 * (ps.length : Int) + L + bef ps k) % 65536 = 2 + 5 * (ps.length : Int) + L + bef ps k
    omega
  · rfl
  · rfl
  · rfl
  · show (ps.getD k p0).mn % 65536 = (ps.getD k p0).mn
    omega
  · rfl
theorem fin_all {pl : List (Int × Int)} {ps : List PtX} {lks : List Lnk} (LI : LawIn pl ps lks) : ∃ μ, bootG pl ps lks (lnsOf lks) = some μ ∧ Fin pl ps lks μ := by
  have hl := LI.pl1.2
  have h3 := LI.ps1.2
  have h1 := LI.lk1
  obtain ⟨μ1, b1, B⟩ := BI.all (ps := ps) hl h3 LI.psg ps.length (Nat.le_refl _)
  obtain ⟨μ2, b2, M⟩ := m2_all h1 h3 B LI.lkg
  obtain ⟨μ3, hμ3⟩ : ∃ μ3, μ3 = (upre ps μ2 (2 + 5 * (ps.length : Int) + (lks.length : Int)) ps.length).1 := ⟨_, rfl⟩
  have pb : planBad pl = false := by
    have a := LI.pl1
    have : (pl.map plOk).all id = true := by
      rw [List.all_map]
      refine List.all_eq_true.mpr fun p hp => ?_
      have g := LI.plg p hp
      have ga := g.a
      have gb := g.b
      show plOk p = true
      unfold plOk
      rw [decide_eq_true ga.1, decide_eq_true ga.2, decide_eq_true gb.1, decide_eq_true (show p.2 ≤ 255 by omega)]
      rfl
    unfold planBad
    rw [this, decide_eq_true (show 1 ≤ (pl.length : Int) by omega), decide_eq_true (show (pl.length : Int) ≤ 4 by omega)]
    rfl
  have nr : noRoom ps lks = false := by
    have b := bef_bd LI.psg ps.length (Nat.le_refl _)
    have a := LI.ps1
    unfold noRoom
    rw [sum_bef, decide_eq_false (by omega)]
    cases hps : ps with
    | nil => rw [hps] at a; exact absurd a.1 (by decide)
    | cons x r => rfl
  have bG : bootG pl ps lks (lnsOf lks) = ofold (nstep (ps.length : Int) lks (lnsOf lks)) μ3 (lnsOf lks).length := by
    unfold bootG
    rw [if_neg (by rw [pb]; decide), if_neg (by rw [nr]; decide), b1]
    show (ofold (kstep (ps.length : Int) lks) μ1 lks.length).bind _ = _
    rw [b2, hμ3]
    rfl
  -- what the line is
  have hln : ∃ μ, ofold (nstep (ps.length : Int) lks (lnsOf lks)) μ3 (lnsOf lks).length = some μ ∧ (∀ j, j ≠ 23 → μ j = μ3 j) ∧ μ 23 = if lnsOf lks = [] then μ3 23 else 9 * 256 + 2 + 5 * (ps.length : Int) + 1 := by
    by_cases c : 0 < lks.length ∧ (lks.getD 0 l0).k = 7
    · have e : lnsOf lks = [⟨3, 0, 9⟩] := if_pos c
      rw [e]
      have nb : nBad lks ⟨3, 0, 9⟩ = false := by
        unfold nBad
        show (!(decide ((0 : Int) ≤ 3) && decide ((3 : Int) < 4)) || (!(decide ((0 : Int) ≤ 0) && decide ((0 : Int) < (lks.length : Int))) || (!decide ((lks.getD (0 : Int).toNat l0).k = 7) || !(decide ((1 : Int) ≤ 9) && decide ((9 : Int) ≤ 255))))) = false
        rw [decide_eq_true (show (0 : Int) < (lks.length : Int) by omega), decide_eq_true (show (lks.getD (0 : Int).toNat l0).k = 7 from c.2)]
        rfl
      refine ⟨mset μ3 23 (9 * 256 + 2 + 5 * (ps.length : Int) + 0 + 1), if_neg (by show ¬ nBad lks ⟨3, 0, 9⟩ = true; rw [nb]; decide), fun j hj => mset_ne hj, ?_⟩
      rw [mset_same, if_neg (fun z => by cases z)]
      omega
    · have e : lnsOf lks = [] := if_neg c
      rw [e]
      exact ⟨μ3, rfl, fun j _ => rfl, by rw [if_pos rfl]⟩
  obtain ⟨μ, hμ, o3, h23⟩ := hln
  refine ⟨μ, bG.trans hμ, ?_⟩
  have o2 : ∀ j, (∀ k, k < ps.length → ¬ SlW k 0 j) → μ3 j = μ2 j := fun j hj => by rw [hμ3]; exact upre_other _ hj
  -- all the way
  have oo : ∀ j, j ≠ 23 → j ≠ 64 + (2 + 5 * ps.length) → (∀ k, k < ps.length → ¬ SlW k 0 j ∧ ¬ SlW k 4 j ∧ ¬ SlW k 5 j) → μ j = μ1 j := fun j h0 h1 h2 => (o3 j h0).trans ((o2 j fun k hk => (h2 k hk).1).trans (M.same j h1 fun k hk => (h2 k hk).2))
  have nsl : ∀ j, j < 128 → ∀ k, k < ps.length → ¬ SlW k 0 j ∧ ¬ SlW k 4 j ∧ ¬ SlW k 5 j := fun j hj k hk => by unfold SlW; omega
  refine { k0 := fun j hj => ?_, k20 := fun j h20 h23' => ?_, k23 := ?_, kz := fun f hf => ?_, zr := fun j hj hq => ?_, qw := B.qw, qs := ?_, pt := fun k hk => ?_, s0 := fun k q hk hq => ?_, s4 := fun k q hk hq => ?_, s5 := fun k q hk hq => ?_ }
  · rw [oo j (by omega) (by omega) (nsl j (by omega))]
    exact B.ker j (by omega)
  · rw [oo j (by omega) (by omega) (nsl j (by omega)), B.ker j (by omega)]
    exact mboot0_no hl (by omega) (by omega)
  · rw [h23]
    split
    · rw [o2 23 fun k hk => (nsl 23 (by decide) k hk).1, M.same 23 (by omega) fun k hk => (nsl 23 (by decide) k hk).2, B.ker 23 (by omega)]
      exact mboot0_no hl (by omega) (by omega)
    · rfl
  · by_cases e : f = 2 + 5 * ps.length
    · subst e
      rw [o3 _ (by omega), o2 _ fun k hk => (nsl _ (by omega) k hk).1, M.kX]
      by_cases c : lks.length = 1
      · rw [if_pos c, if_pos ⟨rfl, c⟩]
      · rw [if_neg c, if_neg fun z => c z.2]
    · rw [if_neg fun z => e z.1, oo _ (by omega) (by omega) (nsl _ (by omega))]
      exact B.kz f hf
  · rw [oo j (by omega) (by omega) fun k hk => by unfold SlW; omega]
    exact B.zr j hj hq
  · exact B.qs.frame B.qw (by omega) fun j hj => oo j (by unfold QWord at hj; omega) (by unfold QWord at hj; omega) fun k hk => by unfold QWord at hj; unfold SlW; omega
  · refine PartG.of (B.pt k hk) (by omega) fun j hi hq n0 n4 n5 => oo j (by unfold InPart at hi; omega) (by unfold InPart at hi; omega) fun k' hk' => ?_
    by_cases e : k' = k
    · rw [e]; exact ⟨n0, n4, n5⟩
    · unfold InPart at hi
      unfold SlW
      omega
  · have e0 : fld μ ((2 + 5 * (k : Int)) * 8) (q : Int) = fld μ3 ((2 + 5 * (k : Int)) * 8) (q : Int) := by unfold fld; exact o3 _ (by omega)
    rw [e0, hμ3, upre_at hq _ hk]
    split
    · exact uw_bd LI.psg h3 hk (by omega) hq
    · have e2 : fld μ2 ((2 + 5 * (k : Int)) * 8) (q : Int) = fld μ1 ((2 + 5 * (k : Int)) * 8) (q : Int) := by unfold fld; exact M.same _ (by omega) fun k' hk' => by unfold SlW; omega
      rw [e2]
      have := (B.pt k hk).sl 0 q (by decide) hq
      rw [show (2 + 5 * (k : Int)) * 8 + ((0 : Nat) : Int) = (2 + 5 * (k : Int)) * 8 by omega] at this
      rw [this]
      rfl
  · rw [← M.s4 k q hk hq]
    unfold fld
    rw [o3 _ (by omega)]
    exact o2 _ fun k' hk' => by unfold SlW; omega
  · rw [← M.s5 k q hk hq]
    unfold fld
    rw [o3 _ (by omega)]
    exact o2 _ fun k' hk' => by unfold SlW; omega
end KX

namespace KX
open KA KQ
open PySem PySem.Spec L2 Evl
/-! ### words are words -/
def Bd (μ : Mem) : Prop := ∀ i, 0 ≤ μ i ∧ μ i < 65536
theorem Bd.zero : Bd KA.m0 := fun i => ⟨Int.le_refl 0, by show (0 : Int) < 65536; decide⟩
theorem Bd.set {μ : Mem} {i : Nat} {x : Int} (h : Bd μ) : Bd (mset μ i x) := fun j => by
  unfold mset
  split
  · omega
  · exact h j
theorem Bd.lay {μ : Mem} {f p : Int} {g : Nat → Int} (h : Bd μ) : ∀ n : Nat, Bd (mlay μ f p g n)
  | 0 => h
  | n + 1 => (Bd.lay h n).set
theorem Bd.puts {μ : Mem} {s : Int} {c : Nat → Int} (h : Bd μ) : ∀ n : Nat, Bd (mputs μ s c n)
  | 0 => h
  | n + 1 => (Bd.puts h n).set
theorem Bd.cap {μ : Mem} {s sz us : Int} {c : Nat → Int} (h : Bd μ) : Bd (mcap μ s c sz us) := (((Bd.puts h 4).set).set).set
theorem Bd.ent {μ : Mem} {t pg : Int} {c : Nat → Int} (h : Bd μ) : ∀ n : Nat, Bd (ment μ t pg c n)
  | 0 => h
  | n + 1 => (Bd.ent h n).set
theorem Bd.caps {μ : Mem} {F : Int} (h : Bd μ) : ∀ n : Nat, Bd (mcaps μ F n)
  | 0 => h
  | n + 1 => (Bd.caps h n).cap
theorem Bd.pgs {μ : Mem} {F : Int} (h : Bd μ) : ∀ n : Nat, Bd (mpgs μ F n)
  | 0 => h
  | n + 1 => ((Bd.pgs h n).cap).ent 3
theorem Bd.th {μ : Mem} {t : Int} {ws : List Int} (h : Bd μ) : ∀ n : Nat, Bd (mth μ t ws n)
  | 0 => h
  | n + 1 => (Bd.th h n).set
theorem Bd.push {μ : Mem} {a b c d : Int} (h : Bd μ) : Bd (mpush μ a b c d) := by
  unfold mpush
  split <;> exact ((Bd.set h).set).set
theorem Bd.begin {μ : Mem} {F d pr bu : Int} {ws : List Int} (h : Bd μ) : Bd (mbegin μ F d pr bu ws) := ((((((h.lay 5).lay _).caps 3).pgs 2).th 7)).push
theorem Bd.plan {pl : List (Int × Int)} : ∀ n : Nat, Bd (mplan KA.m0 pl n)
  | 0 => Bd.zero
  | n + 1 => (Bd.plan n).set
theorem Bd.boot0 {pl : List (Int × Int)} : Bd (mboot0 pl) := (Bd.plan _).set
theorem Bd.fold {step : Nat → Mem → Option Mem} (hs : ∀ i ν ν', Bd ν → step i ν = some ν' → Bd ν') {μ : Mem} (h : Bd μ) : ∀ (n : Nat) {ν : Mem}, ofold step μ n = some ν → Bd ν
  | 0, ν, e => by cases e; exact h
  | n + 1, ν, e => by
    cases e1 : ofold step μ n with
    | none =>
      have : (ofold step μ n).bind (step n) = some ν := e
      rw [e1] at this
      cases this
    | some ν1 =>
      have : (ofold step μ n).bind (step n) = some ν := e
      rw [e1] at this
      exact hs n ν1 ν (Bd.fold hs h n e1) this
theorem Bd.lst1 {ν μ : Mem} {f k part told : Int} (h : Bd ν) (e : lstep ν f k part told = some μ) : Bd μ := by
  unfold KA.lstep at e
  split at e
  · cases e; exact h.cap
  · split at e
    · cases e; exact h.cap
    · cases e
theorem Bd.lnk {ν μ : Mem} {f k one r other o many : Int} (h : Bd ν) (e : mlnk ν f k one r other o many = some μ) : Bd μ := by
  unfold mlnk at e
  split at e
  · cases e
  · have e : ((some (mset ν (ix 1 f) k)).bind fun ν => lstep ν f k one r).bind (fun ν => lstep ν f k other o) = some μ := e
    cases e1 : lstep (mset ν (ix 1 f) k) f k one r with
    | none =>
      have : (lstep (mset ν (ix 1 f) k) f k one r).bind (fun ν => lstep ν f k other o) = some μ := e
      rw [e1] at this
      cases this
    | some ν1 =>
      have : (lstep (mset ν (ix 1 f) k) f k one r).bind (fun ν => lstep ν f k other o) = some μ := e
      rw [e1] at this
      exact (Bd.lst1 h.set e1).lst1 this
theorem Bd.upre {ps : List PtX} {μ : Mem} {f : Int} (h : Bd μ) : ∀ i : Nat, Bd (upre ps μ f i).1
  | 0 => h
  | i + 1 => by
    unfold KX.upre
    split
    · exact (Bd.upre h i).cap
    · exact Bd.upre h i
theorem bd_boot {pl : List (Int × Int)} {ps : List PtX} {lks : List Lnk} {lns : List Ln3} {μ : Mem} (e : bootG pl ps lks lns = some μ) : Bd μ := by
  unfold bootG at e
  split at e
  · cases e
  · split at e
    · cases e
    · cases e1 : ofold (pstep ps) (mboot0 pl) ps.length with
      | none => rw [e1] at e; cases e
      | some μ1 =>
        rw [e1] at e
        have e : (ofold (kstep (ps.length : Int) lks) μ1 lks.length).bind (fun μ2 => ofold (nstep (ps.length : Int) lks lns) (upre ps μ2 (2 + 5 * (ps.length : Int) + (lks.length : Int)) ps.length).1 lns.length) = some μ := e
        have b1 : Bd μ1 := Bd.fold (fun i ν ν' hb hs => by
          unfold pstep at hs
          split at hs
          · cases hs
          · cases hs
            exact hb.begin) Bd.boot0 _ e1
        cases e2 : ofold (kstep (ps.length : Int) lks) μ1 lks.length with
        | none => rw [e2] at e; cases e
        | some μ2 =>
          rw [e2] at e
          have b2 : Bd μ2 := Bd.fold (fun i ν ν' hb hs => hb.lnk hs) b1 _ e2
          exact Bd.fold (fun i ν ν' hb hs => by
            unfold nstep at hs
            split at hs
            · cases hs
            · cases hs
              exact hb.set) (b2.upre _) _ e
end KX

namespace KX
open KA KQ
open PySem PySem.Spec L2 Evl
/-! ### the readings of Fin -/
def kindS (n : Nat) (lks : List Lnk) (f : Nat) : Int := if 2 ≤ f ∧ f < 2 + 5 * n then at0 [4, 5, 3, 2, 2] ((f - 2) % 5) else if f = 2 + 5 * n ∧ lks.length = 1 then (lks.getD 0 l0).k else 0
section
variable {pl : List (Int × Int)} {ps : List PtX} {lks : List Lnk} {μ : Mem}
theorem Fin.kind (h : Fin pl ps lks μ) {f : Nat} (hf : f < 64) : μ (ix 1 (f : Int)) = kindS ps.length lks f := by
  unfold kindS
  by_cases c : 2 ≤ f ∧ f < 2 + 5 * ps.length
  · rw [if_pos c]
    have := (h.pt ((f - 2) / 5) (by omega)).kd ((f - 2) % 5) (by omega)
    rw [← this]
    congr 2
    omega
  · rw [if_neg c]
    have e : ix 1 (f : Int) = 64 + f := by unfold ix; omega
    rw [e]
    exact h.kz f (by omega)
theorem lk_kind (LI : LawIn pl ps lks) (h1 : lks.length = 1) : (lks.getD 0 l0).k = 6 ∨ (lks.getD 0 l0).k = 7 := (LI.lkg _ (getD_mem (d := l0) (by omega))).k
theorem kindS_bd (LI : LawIn pl ps lks) (f : Nat) : 0 ≤ kindS ps.length lks f ∧ kindS ps.length lks f < 8 ∧ kindS ps.length lks f ≠ 1 := by
  unfold kindS
  split
  · have e : (f - 2) % 5 = 0 ∨ (f - 2) % 5 = 1 ∨ (f - 2) % 5 = 2 ∨ (f - 2) % 5 = 3 ∨ (f - 2) % 5 = 4 := by omega
    rcases e with e | e | e | e | e <;> rw [e] <;> decide
  · split
    · rename_i c
      rcases lk_kind LI c.2 with z | z <;> rw [z] <;> decide
    · decide
theorem qin_len {ps : List PtX} {n : Int} (i : Nat) : (qin ps i n).length ≤ i := by
  induction i with
  | zero => exact Nat.le_refl 0
  | succ i ih =>
    have := ih
    unfold qin qpush
    split
    · rename_i e
      subst e
      rw [List.length_append]
      simp
      omega
    · omega
theorem seg_int {μ : Mem} : ∀ {q : List Nat} {v : Int}, (∀ k ∈ q, k < 4) → Seg μ v q → SegI μ v (q.map KA.th)
  | [], v, _, h => h
  | k :: q, v, h4, h => by
    have hk := h4 k List.mem_cons_self
    refine ⟨h.1, by unfold KA.th; omega, by unfold KA.th; omega, ?_⟩
    exact seg_int (fun x hx => h4 x (List.mem_cons_of_mem _ hx)) h.2
def rqF (ps : List PtX) (n : Nat) : List Int := (qin ps ps.length (n : Int)).map KA.th
theorem Fin.qok (LI : LawIn pl ps lks) (h : Fin pl ps lks μ) : QOk μ (rqF ps) eqN := by
  have h3 := LI.ps1
  refine ⟨fun n hn => ⟨?_, ?_⟩, fun f hf hk => ⟨?_, Nat.zero_le _⟩, ?_⟩
  · exact seg_int (fun k hk => by have := qin_lt hk; omega) (h.qs.seg (n : Int) (by omega) (by omega))
  · unfold rqF
    rw [List.length_map]
    have := qin_len (ps := ps) (n := (n : Int)) ps.length
    omega
  · rw [h.kind (by omega)] at hk
    show μ (ix (f : Int) 1) = 0
    have hf2 : f = 2 + 5 * ps.length := by
      unfold kindS at hk
      split at hk
      · have e : (f - 2) % 5 = 0 ∨ (f - 2) % 5 = 1 ∨ (f - 2) % 5 = 2 ∨ (f - 2) % 5 = 3 ∨ (f - 2) % 5 = 4 := by omega
        rcases e with e | e | e | e | e <;> rw [e] at hk <;> exact absurd hk (by decide)
      · split at hk
        · rename_i c
          exact c.1
        · exact absurd hk (by decide)
    exact h.zr _ (by unfold ix; omega) (by unfold QWord ix; omega)
  · unfold fr
    refine List.filter_eq_nil_iff.mpr fun f hf z => ?_
    have hf := List.mem_range.mp hf
    have z := V.int.inj (of_decide_eq_true z)
    rw [h.kind (by omega)] at z
    have := kindS_bd LI f
    omega
theorem Fin.badK (LI : LawIn pl ps lks) (h : Fin pl ps lks μ) : badK μ = false := by
  have h3 := LI.ps1
  unfold KX.badK
  have a : ((List.range 32).map fun (f : Nat) => !kindOk (μ (ix 1 (f : Int)))).any id = false := by
    rw [List.any_map]
    refine List.any_eq_false.mpr fun f hf => ?_
    have hf := List.mem_range.mp hf
    show ¬ (!kindOk (μ (ix 1 (f : Int)))) = true
    rw [h.kind (by omega)]
    obtain ⟨b0, b1, b2⟩ := kindS_bd LI f
    generalize kindS ps.length lks f = v at *
    have e : v = 0 ∨ v = 2 ∨ v = 3 ∨ v = 4 ∨ v = 5 ∨ v = 6 ∨ v = 7 := by omega
    rcases e with e | e | e | e | e | e | e <;> subst e <;> decide
  have k0 := h.kind (f := 0) (by decide)
  have k1 := h.kind (f := 1) (by decide)
  have e0 : kindS ps.length lks 0 = 0 := by
    unfold kindS
    rw [if_neg (by omega), if_neg (by omega)]
  have e1 : kindS ps.length lks 1 = 0 := by
    unfold kindS
    rw [if_neg (by omega), if_neg (by omega)]
  have k0 : μ (ix 1 0) = 0 := k0.trans e0
  have k1 : μ (ix 1 1) = 0 := k1.trans e1
  rw [a, k0, k1]
  rfl
end
end KX

namespace KX
open KA KQ
open PySem PySem.Spec L2 Evl
/-! ### the slots are right -/
theorem capOk_of {μ : Mem} {s : Int} (h2 : fld μ s 2 ≤ 7) (h4 : fld μ s 4 = 0) (hl : lays μ s = true) : capOk μ s = true := by
  unfold capOk
  rw [h4, hl, decide_eq_false (by omega)]
  rfl
theorem lays_at {μ : Mem} {s k t : Int} (h0 : fld μ s 0 = k) (h1 : fld μ s 1 = t) (hk : k ≠ 1) (ht : t < 32) (hm : μ (ix 1 t) = k) : lays μ s = true := by
  unfold lays
  rw [h0, h1, if_neg hk, decide_eq_true ht, hm, decide_eq_true rfl]
  rfl
section
variable {pl : List (Int × Int)} {ps : List PtX} {lks : List Lnk} {μ : Mem}
theorem Fin.slw (h : Fin pl ps lks μ) {k r : Nat} (hk : k < ps.length) (hr : r < 8) (n0 : r ≠ 0) (n4 : r ≠ 4) (n5 : r ≠ 5) (q : Nat) (hq : q < 7) : fld μ ((2 + 5 * (k : Int)) * 8 + (r : Int)) (q : Int) = slotW (2 + 5 * (k : Int)) r q := (h.pt k hk).sl r q hr hq n0 n4 n5
theorem Fin.kd (h : Fin pl ps lks μ) {k : Nat} (hk : k < ps.length) : μ (ix 1 (2 + 5 * (k : Int))) = 4 ∧ μ (ix 1 (3 + 5 * (k : Int))) = 5 ∧ μ (ix 1 (4 + 5 * (k : Int))) = 3 ∧ μ (ix 1 (5 + 5 * (k : Int))) = 2 ∧ μ (ix 1 (6 + 5 * (k : Int))) = 2 := by
  have f := fun c hc => (h.pt k hk).kd c hc
  have key : ∀ (c : Nat) (x : Int), c < 5 → x = 2 + 5 * (k : Int) + (c : Int) → μ (ix 1 x) = at0 [4, 5, 3, 2, 2] c := fun c x hc hx => by rw [hx]; exact f c hc
  exact ⟨key 0 _ (by decide) (by omega), key 1 _ (by decide) (by omega), key 2 _ (by decide) (by omega), key 3 _ (by decide) (by omega), key 4 _ (by decide) (by omega)⟩
theorem Fin.kX (LI : LawIn pl ps lks) (h : Fin pl ps lks μ) {l : Lnk} (hl : lks = [l]) : μ (ix 1 (2 + 5 * (ps.length : Int))) = l.k := by
  have h3 := LI.ps1
  have := h.kind (f := 2 + 5 * ps.length) (by omega)
  unfold kindS at this
  rw [if_neg (by omega), if_pos ⟨rfl, by rw [hl]; rfl⟩, hl] at this
  have e : ((2 + 5 * ps.length : Nat) : Int) = 2 + 5 * (ps.length : Int) := by omega
  rw [e] at this
  exact this
/-- where there is a capability, it is right -/
theorem Fin.cap (LI : LawIn pl ps lks) (h : Fin pl ps lks μ) {k r : Nat} (hk : k < ps.length) (hr : r < 8) (h0 : fld μ ((2 + 5 * (k : Int)) * 8 + (r : Int)) 0 ≠ 0) : capOk μ ((2 + 5 * (k : Int)) * 8 + (r : Int)) = true := by
  have h3 := LI.ps1
  obtain ⟨d4, d5, d3, d2, d2'⟩ := h.kd hk
  have e : r = 0 ∨ r = 1 ∨ r = 2 ∨ r = 3 ∨ r = 4 ∨ r = 5 ∨ r = 6 ∨ r = 7 := by omega
  rcases e with e | e | e | e | e | e | e | e <;> subst e
  · have s0 := fun q hq => h.s0 k q hk hq
    rw [show (2 + 5 * (k : Int)) * 8 + ((0 : Nat) : Int) = (2 + 5 * (k : Int)) * 8 by omega] at h0 ⊢
    have z0 := s0 0 (by decide)
    by_cases hm : (ps.getD k p0).mn ≠ 0
    · have b := bef_bd LI.psg k (by omega)
      have m := (LI.psg _ (getD_mem (d := p0) hk)).mn
      have L := LI.lk1
      have a0 : fld μ ((2 + 5 * (k : Int)) * 8) 0 = 1 := (s0 0 (by decide)).trans (if_pos hm)
      have a1 : fld μ ((2 + 5 * (k : Int)) * 8) 1 = 2 + 5 * (ps.length : Int) + (lks.length : Int) + bef ps k := (s0 1 (by decide)).trans (if_pos hm)
      have a2 : fld μ ((2 + 5 * (k : Int)) * 8) 2 = 7 := (s0 2 (by decide)).trans (if_pos hm)
      have a4 : fld μ ((2 + 5 * (k : Int)) * 8) 4 = 0 := (s0 4 (by decide)).trans (if_pos hm)
      have a5 : fld μ ((2 + 5 * (k : Int)) * 8) 5 = (ps.getD k p0).mn := (s0 5 (by decide)).trans (if_pos hm)
      have a6 : fld μ ((2 + 5 * (k : Int)) * 8) 6 = 0 := (s0 6 (by decide)).trans (if_pos hm)
      refine capOk_of (by rw [a2]; decide) a4 ?_
      unfold lays
      rw [a0, a1, a5, a6, if_pos rfl, decide_eq_true (by omega), decide_eq_true (by omega), decide_eq_true (by omega)]
      rfl
    · rw [if_neg hm] at z0
      exact absurd z0 h0
  · have s := fun q hq => h.slw (k := k) (r := 1) hk (by decide) (by decide) (by decide) (by decide) q hq
    exact capOk_of (by rw [show fld μ ((2 + 5 * (k : Int)) * 8 + ((1 : Nat) : Int)) 2 = 7 from s 2 (by decide)]; decide) (s 4 (by decide)) (lays_at (k := 4) (t := 2 + 5 * (k : Int)) (s 0 (by decide)) (s 1 (by decide)) (by decide) (by omega) d4)
  · have s := fun q hq => h.slw (k := k) (r := 2) hk (by decide) (by decide) (by decide) (by decide) q hq
    exact capOk_of (by rw [show fld μ ((2 + 5 * (k : Int)) * 8 + ((2 : Nat) : Int)) 2 = 7 from s 2 (by decide)]; decide) (s 4 (by decide)) (lays_at (k := 3) (t := 4 + 5 * (k : Int)) (s 0 (by decide)) ((s 1 (by decide)).trans (by show 2 + 5 * (k : Int) + 2 = 4 + 5 * (k : Int); omega)) (by decide) (by omega) d3)
  · have s := fun q hq => h.slw (k := k) (r := 3) hk (by decide) (by decide) (by decide) (by decide) q hq
    exact capOk_of (by rw [show fld μ ((2 + 5 * (k : Int)) * 8 + ((3 : Nat) : Int)) 2 = 7 from s 2 (by decide)]; decide) (s 4 (by decide)) (lays_at (k := 5) (t := 3 + 5 * (k : Int)) (s 0 (by decide)) ((s 1 (by decide)).trans (by show 2 + 5 * (k : Int) + 1 = 3 + 5 * (k : Int); omega)) (by decide) (by omega) d5)
  · have s4 := fun q hq => h.s4 k q hk hq
    have z0 : fld μ ((2 + 5 * (k : Int)) * 8 + 4) 0 = lk4 ps.length lks k 0 := s4 0 (by decide)
    match lks, LI.lk1 with
    | [], _ => exact absurd z0 h0
    | [l], _ =>
      have gl := LI.lkg l (List.mem_singleton.mpr rfl)
      have kX := h.kX LI rfl
      have gk : l.k ≠ 1 := by rcases gl.k with z | z <;> rw [z] <;> decide
      have gr := gl.r
      have go := gl.o
      unfold lk4 at s4 z0
      dsimp only at s4 z0
      by_cases e1 : l.one = (k : Int)
      · have t := fun q hq => (s4 q hq).trans (if_pos e1)
        exact capOk_of (by rw [show fld μ ((2 + 5 * (k : Int)) * 8 + ((4 : Nat) : Int)) 2 = l.r from t 2 (by decide)]; omega) (t 4 (by decide)) (lays_at (k := l.k) (t := 2 + 5 * (ps.length : Int)) (t 0 (by decide)) (t 1 (by decide)) gk (by omega) kX)
      · by_cases e2 : l.other = (k : Int)
        · have t := fun q hq => (s4 q hq).trans ((if_neg e1).trans (if_pos e2))
          exact capOk_of (by rw [show fld μ ((2 + 5 * (k : Int)) * 8 + ((4 : Nat) : Int)) 2 = l.o from t 2 (by decide)]; omega) (t 4 (by decide)) (lays_at (k := l.k) (t := 2 + 5 * (ps.length : Int)) (t 0 (by decide)) (t 1 (by decide)) gk (by omega) kX)
        · rw [if_neg e1, if_neg e2] at z0
          exact absurd z0 h0
  · have s5 := fun q hq => h.s5 k q hk hq
    have z0 : fld μ ((2 + 5 * (k : Int)) * 8 + 5) 0 = lk5 ps.length lks k 0 := s5 0 (by decide)
    match lks, LI.lk1 with
    | [], _ => exact absurd z0 h0
    | [l], _ =>
      have gl := LI.lkg l (List.mem_singleton.mpr rfl)
      have kX := h.kX LI rfl
      have gk : l.k ≠ 1 := by rcases gl.k with z | z <;> rw [z] <;> decide
      have go := gl.o
      unfold lk5 at s5 z0
      dsimp only at s5 z0
      by_cases e1 : l.one = (k : Int) ∧ l.other = (k : Int)
      · have t := fun q hq => (s5 q hq).trans (if_pos e1)
        exact capOk_of (by rw [show fld μ ((2 + 5 * (k : Int)) * 8 + ((5 : Nat) : Int)) 2 = l.o from t 2 (by decide)]; omega) (t 4 (by decide)) (lays_at (k := l.k) (t := 2 + 5 * (ps.length : Int)) (t 0 (by decide)) (t 1 (by decide)) gk (by omega) kX)
      · rw [if_neg e1] at z0
        exact absurd z0 h0
  · have s := fun q hq => h.slw (k := k) (r := 6) hk (by decide) (by decide) (by decide) (by decide) q hq
    exact capOk_of (by rw [show fld μ ((2 + 5 * (k : Int)) * 8 + ((6 : Nat) : Int)) 2 = 7 from s 2 (by decide)]; decide) (s 4 (by decide)) (lays_at (k := 2) (t := 5 + 5 * (k : Int)) (s 0 (by decide)) ((s 1 (by decide)).trans (by show 2 + 5 * (k : Int) + (((0 : Nat) : Int) + 3) = 5 + 5 * (k : Int); omega)) (by decide) (by omega) d2)
  · have s := fun q hq => h.slw (k := k) (r := 7) hk (by decide) (by decide) (by decide) (by decide) q hq
    exact capOk_of (by rw [show fld μ ((2 + 5 * (k : Int)) * 8 + ((7 : Nat) : Int)) 2 = 7 from s 2 (by decide)]; decide) (s 4 (by decide)) (lays_at (k := 2) (t := 6 + 5 * (k : Int)) (s 0 (by decide)) ((s 1 (by decide)).trans (by show 2 + 5 * (k : Int) + (((1 : Nat) : Int) + 3) = 6 + 5 * (k : Int); omega)) (by decide) (by omega) d2')
/-- kinds of capability frames -/
theorem kind4 (LI : LawIn pl ps lks) {f : Nat} (h : kindS ps.length lks f = 4) : ∃ k, k < ps.length ∧ f = 2 + 5 * k := by
  unfold kindS at h
  split at h
  · rename_i c
    have e : (f - 2) % 5 = 0 ∨ (f - 2) % 5 = 1 ∨ (f - 2) % 5 = 2 ∨ (f - 2) % 5 = 3 ∨ (f - 2) % 5 = 4 := by omega
    rcases e with e | e | e | e | e
    · exact ⟨(f - 2) / 5, by omega, by omega⟩
    all_goals (rw [e] at h; exact absurd h (by decide))
  · split at h
    · rename_i c
      rcases lk_kind LI c.2 with z | z <;> rw [z] at h <;> exact absurd h (by decide)
    · exact absurd h (by decide)
theorem Fin.caps (LI : LawIn pl ps lks) (h : Fin pl ps lks μ) : ((slN μ).all fun s => capOk μ (s : Int)) = true := by
  refine List.all_eq_true.mpr fun s hs => ?_
  have hs := List.mem_filter.mp hs
  have s256 := List.mem_range.mp hs.1
  have hb := hs.2
  unfold slotB at hb
  rw [Bool.and_eq_true, Bool.not_eq_true', decide_eq_true_eq, decide_eq_false_iff_not] at hb
  rw [h.kind (by omega)] at hb
  obtain ⟨k, hk, hf⟩ := kind4 LI hb.1
  have e : (s : Int) = (2 + 5 * (k : Int)) * 8 + ((s % 8 : Nat) : Int) := by omega
  rw [e] at hb ⊢
  exact h.cap LI hk (by omega) hb.2
end
end KX

namespace KX
open KA KQ
open PySem PySem.Spec L2 Evl
section
variable {pl : List (Int × Int)} {ps : List PtX} {lks : List Lnk} {μ : Mem}
/-- kinds of tables, threads, pages -/
theorem kind_of_part (LI : LawIn pl ps lks) {f c : Nat} (hc : c < 5) (h : kindS ps.length lks f = at0 [4, 5, 3, 2, 2] c) (h2 : c = 1 ∨ c = 2) : ∃ k, k < ps.length ∧ f = 2 + 5 * k + c := by
  unfold kindS at h
  split at h
  · rename_i d
    have e : (f - 2) % 5 = 0 ∨ (f - 2) % 5 = 1 ∨ (f - 2) % 5 = 2 ∨ (f - 2) % 5 = 3 ∨ (f - 2) % 5 = 4 := by omega
    rcases h2 with rfl | rfl <;> rcases e with e | e | e | e | e <;> first
      | exact ⟨(f - 2) / 5, by omega, by omega⟩
      | (rw [e] at h; exact absurd h (by decide))
  · split at h
    · rename_i d
      rcases lk_kind LI d.2 with z | z <;> rw [z] at h <;> rcases h2 with rfl | rfl <;> exact absurd h (by decide)
    · rcases h2 with rfl | rfl <;> exact absurd h (by decide)
theorem Fin.isSl (LI : LawIn pl ps lks) (h : Fin pl ps lks μ) {k r : Nat} (hk : k < ps.length) (hr : r < 8) (h0 : fld μ ((2 + 5 * (k : Int)) * 8 + (r : Int)) 0 ≠ 0) : isS μ ((2 + 5 * (k : Int)) * 8 + (r : Int)) = true := by
  have h3 := LI.ps1
  have e : (2 + 5 * (k : Int)) * 8 + (r : Int) = (((2 + 5 * k) * 8 + r : Nat) : Int) := by omega
  rw [e] at h0 ⊢
  refine sl_isS (List.mem_filter.mpr ⟨List.mem_range.mpr (by omega), ?_⟩)
  unfold slotB
  have d4 := (h.kd hk).1
  have e8 : (((((2 + 5 * k) * 8 + r) / 8 : Nat)) : Int) = 2 + 5 * (k : Int) := by omega
  rw [e8, d4, decide_eq_true rfl, decide_eq_false h0]
  rfl
theorem Fin.cap6w (h : Fin pl ps lks μ) {k r : Nat} (hk : k < ps.length) (hr : r < 8) (n0 : r ≠ 0) (n4 : r ≠ 4) (n5 : r ≠ 5) : cap6 μ ((2 + 5 * (k : Int)) * 8 + (r : Int)) = [slotW (2 + 5 * (k : Int)) r 0, slotW (2 + 5 * (k : Int)) r 1, slotW (2 + 5 * (k : Int)) r 2, slotW (2 + 5 * (k : Int)) r 3, slotW (2 + 5 * (k : Int)) r 5, slotW (2 + 5 * (k : Int)) r 6] := by
  have s := fun q hq => h.slw hk hr n0 n4 n5 q hq
  have s0 : fld μ ((2 + 5 * (k : Int)) * 8 + (r : Int)) 0 = _ := s 0 (by decide)
  have s1 : fld μ ((2 + 5 * (k : Int)) * 8 + (r : Int)) 1 = _ := s 1 (by decide)
  have s2 : fld μ ((2 + 5 * (k : Int)) * 8 + (r : Int)) 2 = _ := s 2 (by decide)
  have s3 : fld μ ((2 + 5 * (k : Int)) * 8 + (r : Int)) 3 = _ := s 3 (by decide)
  have s5 : fld μ ((2 + 5 * (k : Int)) * 8 + (r : Int)) 5 = _ := s 5 (by decide)
  have s6 : fld μ ((2 + 5 * (k : Int)) * 8 + (r : Int)) 6 = _ := s 6 (by decide)
  unfold cap6
  rw [s0, s1, s2, s3, s5, s6]
theorem Fin.pcap (LI : LawIn pl ps lks) (h : Fin pl ps lks μ) {k c : Nat} (hk : k < ps.length) (hc : c < 2) : isS μ ((2 + 5 * (k : Int)) * 8 + ((6 + c : Nat) : Int)) = true ∧ cap6 μ ((2 + 5 * (k : Int)) * 8 + ((6 + c : Nat) : Int)) = [2, 2 + 5 * (k : Int) + ((c : Int) + 3), 7, 0, 1, 0] := by
  have e : c = 0 ∨ c = 1 := by omega
  rcases e with e | e <;> subst e
  · refine ⟨h.isSl LI hk (by decide) ?_, h.cap6w (r := 6) hk (by decide) (by decide) (by decide) (by decide)⟩
    rw [show fld μ ((2 + 5 * (k : Int)) * 8 + ((6 + 0 : Nat) : Int)) 0 = 2 from h.slw hk (by decide) (by decide) (by decide) (by decide) 0 (by decide)]
    decide
  · refine ⟨h.isSl LI hk (by decide) ?_, h.cap6w (r := 7) hk (by decide) (by decide) (by decide) (by decide)⟩
    rw [show fld μ ((2 + 5 * (k : Int)) * 8 + ((6 + 1 : Nat) : Int)) 0 = 2 from h.slw hk (by decide) (by decide) (by decide) (by decide) 0 (by decide)]
    decide
theorem Fin.tw (h : Fin pl ps lks μ) {k : Nat} (hk : k < ps.length) {i j : Nat} (hi : i < 8) (hj : j < 4) : μ (ix (4 + 5 * (k : Int)) (eat μ (4 + 5 * (k : Int)) (i : Int) + (j : Int))) = tabW (2 + 5 * (k : Int)) (i * 4 + j) := by
  have e : eat μ (4 + 5 * (k : Int)) (i : Int) = (i : Int) * 4 := by
    unfold eat
    rw [(h.kd hk).2.2.1]
    simp
  rw [e, ← (h.pt k hk).tb (i * 4 + j) (by omega)]
  congr 2
theorem Fin.tabL (h : Fin pl ps lks μ) {k : Nat} (hk : k < ps.length) : tabL μ (4 + 5 * (k : Int)) = [0, 1] := by
  unfold KX.tabL
  rw [(h.kd hk).2.2.1, if_neg (by decide)]
  have key : ∀ i ∈ List.range 8, (fun (i : Nat) => decide (μ (ix (4 + 5 * (k : Int)) (eat μ (4 + 5 * (k : Int)) (i : Int) + 0)) ≠ 0)) i = decide (i < 2) := fun i hi => by
    have hi := List.mem_range.mp hi
    have := h.tw hk (i := i) (j := 0) hi (by decide)
    have this : μ (ix (4 + 5 * (k : Int)) (eat μ (4 + 5 * (k : Int)) (i : Int) + 0)) = tabW (2 + 5 * (k : Int)) (i * 4 + 0) := this
    show decide (μ (ix (4 + 5 * (k : Int)) (eat μ (4 + 5 * (k : Int)) (i : Int) + 0)) ≠ 0) = decide (i < 2)
    rw [this, decide_eq_decide]
    have e : i = 0 ∨ i = 1 ∨ 2 ≤ i := by omega
    rcases e with e | e | e
    · subst e
      refine ⟨fun _ => by decide, fun _ => ?_⟩
      show 2 + 5 * (k : Int) + 4 ≠ 0
      omega
    · subst e
      refine ⟨fun _ => by decide, fun _ => ?_⟩
      show 2 + 5 * (k : Int) + 5 ≠ 0
      omega
    · refine ⟨fun z => ?_, fun z => by omega⟩
      unfold tabW at z
      rw [if_neg (by omega), if_neg (by omega)] at z
      exact absurd rfl z
  rw [List.filter_congr key]
  rfl
theorem Fin.tabs (LI : LawIn pl ps lks) (h : Fin pl ps lks μ) : ((fr μ 3).all fun f => tabOk μ (f : Int)) = true := by
  refine List.all_eq_true.mpr fun f hf => ?_
  obtain ⟨f32, hk3⟩ := mem_fr.mp hf
  rw [h.kind (by omega)] at hk3
  obtain ⟨k, hk, rfl⟩ := kind_of_part LI (c := 2) (by decide) hk3 (.inr rfl)
  have e : ((2 + 5 * k + 2 : Nat) : Int) = 4 + 5 * (k : Int) := by omega
  rw [e]
  unfold tabOk
  rw [h.tabL hk]
  have one : ∀ c : Nat, c < 2 → entOk μ (μ (ix (4 + 5 * (k : Int)) (eat μ (4 + 5 * (k : Int)) (c : Int) + 0)) - 1) (μ (ix (4 + 5 * (k : Int)) (eat μ (4 + 5 * (k : Int)) (c : Int) + 1))) (μ (ix (4 + 5 * (k : Int)) (eat μ (4 + 5 * (k : Int)) (c : Int) + 2)) - 1) = true := fun c hc => by
    obtain ⟨p1, p2⟩ := h.pcap LI hk hc
    have w0 : μ (ix (4 + 5 * (k : Int)) (eat μ (4 + 5 * (k : Int)) (c : Int) + 0)) = 2 + 5 * (k : Int) + ((c : Int) + 3) + 1 := by
      refine (h.tw hk (i := c) (j := 0) (by omega) (by decide)).trans ?_
      have e : c = 0 ∨ c = 1 := by omega
      rcases e with e | e <;> subst e
      · show 2 + 5 * (k : Int) + 4 = _
        omega
      · show 2 + 5 * (k : Int) + 5 = _
        omega
    have w1 : μ (ix (4 + 5 * (k : Int)) (eat μ (4 + 5 * (k : Int)) (c : Int) + 1)) = 3 := by
      refine (h.tw hk (i := c) (j := 1) (by omega) (by decide)).trans ?_
      have e : c = 0 ∨ c = 1 := by omega
      rcases e with e | e <;> subst e <;> rfl
    have w2 : μ (ix (4 + 5 * (k : Int)) (eat μ (4 + 5 * (k : Int)) (c : Int) + 2)) = (2 + 5 * (k : Int)) * 8 + ((6 + c : Nat) : Int) + 1 := by
      refine (h.tw hk (i := c) (j := 2) (by omega) (by decide)).trans ?_
      have e : c = 0 ∨ c = 1 := by omega
      rcases e with e | e <;> subst e
      · show (2 + 5 * (k : Int)) * 8 + 7 = _
        omega
      · show (2 + 5 * (k : Int)) * 8 + 8 = _
        omega
    rw [w0, w1, w2, Int.add_sub_cancel, Int.add_sub_cancel]
    unfold entOk capOr
    rw [p1, if_pos rfl, p2]
    show ((decide ((2 : Int) = 2) && decide (2 + 5 * (k : Int) + ((c : Int) + 3) = 2 + 5 * (k : Int) + ((c : Int) + 3))) && decide (Builtin.bitOr 3 7 = 7)) = true
    rw [decide_eq_true (show 2 + 5 * (k : Int) + ((c : Int) + 3) = 2 + 5 * (k : Int) + ((c : Int) + 3) from rfl)]
    decide
  rw [List.all_cons, List.all_cons, one 0 (by decide), one 1 (by decide)]
  rfl
end
end KX

namespace KX
open KA KQ
open PySem PySem.Spec L2 Evl
section
variable {pl : List (Int × Int)} {ps : List PtX} {lks : List Lnk} {μ : Mem}
structure ThW (μ : Mem) (k : Nat) (p : PtX) : Prop where
  is : isT μ (3 + 5 * (k : Int)) = true
  cp : μ (ix (3 + 5 * (k : Int)) 10) = 3 + 5 * (k : Int)
  tb : μ (ix (3 + 5 * (k : Int)) 11) = 5 + 5 * (k : Int)
  pr : μ (ix (3 + 5 * (k : Int)) 12) = p.pr
  bu : μ (ix (3 + 5 * (k : Int)) 13) = p.bu
  lf : μ (ix (3 + 5 * (k : Int)) 14) = p.bu
  dom : μ (ix (3 + 5 * (k : Int)) 22) = p.d
  st : μ (ix (3 + 5 * (k : Int)) 0) = 1
  pc : μ (ix (3 + 5 * (k : Int)) 1) = 0
  on : μ (ix (3 + 5 * (k : Int)) 16) = 0
  rep : μ (ix (3 + 5 * (k : Int)) 21) = 0
  lent : μ (ix (3 + 5 * (k : Int)) 24) = 0
theorem Fin.thw (LI : LawIn pl ps lks) (h : Fin pl ps lks μ) {k : Nat} (hk : k < ps.length) : ThW μ k (ps.getD k p0) := by
  have h3 := LI.ps1
  have t := (h.pt k hk).th
  have z := (h.pt k hk).th0
  exact ⟨decide_eq_true ⟨by omega, by omega, (h.kd hk).2.1⟩, t 0 (by decide), t 1 (by decide), t 2 (by decide), t 3 (by decide), t 4 (by decide), t 5 (by decide), t 6 (by decide), z 1 (by omega), z 16 (by omega), z 21 (by omega), z 24 (by omega)⟩
/-- each part is once in the queue of its rank, and in no other -/
theorem qin_cnt {n : Int} {k : Nat} : ∀ i : Nat, (qin ps i n).count k = if k < i ∧ keyP ps k = n then 1 else 0
  | 0 => by rw [if_neg (by omega)]; rfl
  | i + 1 => by
    have ih := qin_cnt (n := n) (k := k) i
    have ih' := qin_cnt (n := keyP ps i) (k := k) i
    unfold qin qpush
    by_cases e : n = keyP ps i
    · rw [if_pos e, List.count_append, ih', List.count_singleton]
      by_cases ek : k = i
      · subst ek
        rw [if_neg (show ¬ (k < k ∧ keyP ps k = keyP ps k) from fun z => Nat.lt_irrefl _ z.1), if_pos (show (k == k) = true by simp), if_pos (show k < k + 1 ∧ keyP ps k = n from ⟨Nat.lt_succ_self k, e.symm⟩)]
      · have hb : ¬ ((i == k) = true) := by simpa using fun z => ek z.symm
        rw [if_neg hb, ← e]
        by_cases c : k < i ∧ keyP ps k = n
        · rw [if_pos c, if_pos (show k < i + 1 ∧ keyP ps k = n from ⟨by omega, c.2⟩)]
        · rw [if_neg c, if_neg (show ¬ (k < i + 1 ∧ keyP ps k = n) from fun z => c ⟨by omega, z.2⟩)]
    · rw [if_neg e, ih]
      by_cases c : k < i ∧ keyP ps k = n
      · rw [if_pos c, if_pos (show k < i + 1 ∧ keyP ps k = n from ⟨by omega, c.2⟩)]
      · rw [if_neg c, if_neg (show ¬ (k < i + 1 ∧ keyP ps k = n) from fun z => c ⟨by
          have : k ≠ i := fun y => e (by rw [← y]; exact z.2.symm)
          omega, z.2⟩)]
theorem cnt_map {k : Nat} : ∀ {q : List Nat}, (q.map KA.th).count (KA.th k) = q.count k
  | [] => rfl
  | x :: q => by
    rw [List.map_cons, List.count_cons, List.count_cons, cnt_map]
    congr 1
    by_cases e : x = k
    · subst e; simp
    · have : KA.th x ≠ KA.th k := fun z => e (by unfold KA.th at z; omega)
      simp [e, this]
theorem cnt_flat {t : Int} {g : Nat → List Int} : ∀ L : List Nat, ((L.filter fun n => !(g n).isEmpty).flatMap g).count t = (L.map fun n => (g n).count t).sum
  | [] => rfl
  | x :: L => by
    have ih := cnt_flat (t := t) (g := g) L
    rw [List.filter_cons, List.map_cons, List.sum_cons]
    by_cases e : (g x).isEmpty = true
    · rw [e]
      have : g x = [] := List.isEmpty_iff.mp e
      rw [this]
      simpa using ih
    · have e : (g x).isEmpty = false := by simpa using e
      rw [e]
      show (((x :: L.filter fun n => !(g n).isEmpty)).flatMap g).count t = _
      rw [List.flatMap_cons, List.count_append, ih]
theorem Fin.queues (LI : LawIn pl ps lks) (h : Fin pl ps lks μ) : chkQ μ (rqF ps) eqN = true := by
  have h3 := LI.ps1
  have key8 : ∀ k, k < ps.length → 0 ≤ keyP ps k ∧ keyP ps k < 8 := fun k hk => by
    have g := LI.psg _ (getD_mem (d := p0) hk)
    have := g.d
    have := g.pr
    unfold keyP
    omega
  unfold chkQ
  rw [Bool.and_eq_true, Bool.and_eq_true]
  refine ⟨List.all_eq_true.mpr fun n hn => List.all_eq_true.mpr fun t ht => ?_, List.all_eq_true.mpr fun f _ => rfl, List.all_eq_true.mpr fun f hf => ?_⟩
  · have n8 := List.mem_range.mp (List.mem_filter.mp hn).1
    obtain ⟨k, hk, rfl⟩ := List.mem_map.mp ht
    obtain ⟨k1, k2⟩ := h.qw.mem (n : Int) (by omega) (by omega) k hk
    have w := h.thw LI k1
    have g := LI.psg _ (getD_mem (d := p0) k1)
    have gp := g.pr
    have e : KA.th k = 3 + 5 * (k : Int) := rfl
    unfold rqOk
    rw [e, w.is, w.st, w.dom, w.pr, w.lent, if_neg (by omega), decide_eq_true rfl, decide_eq_true (by unfold keyP at k2; omega)]
    rfl
  · obtain ⟨f32, hk5⟩ := mem_fr.mp hf
    rw [h.kind (by omega)] at hk5
    obtain ⟨k, hk, rfl⟩ := kind_of_part LI (c := 1) (by decide) hk5 (.inl rfl)
    have e : ((2 + 5 * k + 1 : Nat) : Int) = 3 + 5 * (k : Int) := by omega
    have w := h.thw LI hk
    unfold thOk
    rw [e, w.st, w.rep]
    have c1 : cnt (3 + 5 * (k : Int)) (allD μ (rqF ps) eqN) = 1 := by
      unfold cnt allD
      have z : (eqL μ).flatMap eqN = [] := by
        induction eqL μ with
        | nil => rfl
        | cons x r ih => rw [List.flatMap_cons, ih]; rfl
      rw [z, List.append_nil]
      show (((((List.range 8).filter fun n => !(rqF ps n).isEmpty).flatMap (rqF ps)).count (KA.th k) : Nat) : Int) = 1
      rw [cnt_flat]
      have e1 : (List.range 8).map (fun (n : Nat) => (rqF ps n).count (KA.th k)) = (List.range 8).map fun (n : Nat) => if keyP ps k = (n : Int) then 1 else 0 := List.map_congr_left fun n hn => by
        unfold rqF
        rw [cnt_map, qin_cnt]
        by_cases c : keyP ps k = (n : Int)
        · rw [if_pos ⟨hk, c⟩, if_pos c]
        · rw [if_neg fun z => c z.2, if_neg c]
      rw [e1]
      obtain ⟨a, b⟩ := key8 k hk
      generalize keyP ps k = v at *
      have ev : v = 0 ∨ v = 1 ∨ v = 2 ∨ v = 3 ∨ v = 4 ∨ v = 5 ∨ v = 6 ∨ v = 7 := by omega
      rcases ev with rfl | rfl | rfl | rfl | rfl | rfl | rfl | rfl <;> rfl
    rw [c1]
    rfl
theorem Fin.chk (LI : LawIn pl ps lks) (h : Fin pl ps lks μ) : chk μ (rqF ps) eqN = true := by
  unfold KX.chk
  rw [h.badK LI, h.caps LI, h.queues LI, h.tabs LI]
  rfl
end
end KX

namespace KX
open KA KQ
open PySem PySem.Spec L2 Evl
section
variable {pl : List (Int × Int)} {ps : List PtX} {lks : List Lnk} {μ : Mem}
theorem Fin.ker (h : Fin pl ps lks μ) {i : Nat} (hi : i < 4 ∨ (24 ≤ i ∧ i < 64)) : μ (ix 0 (i : Int)) = mboot0 pl i := by
  have e : ix 0 (i : Int) = i := by unfold ix; omega
  rw [e]
  exact h.k0 i hi
theorem g_pl0 (LI : LawIn pl ps lks) : GPl (pl.getD 0 (0, 0)) := LI.plg _ (getD_mem (by have := LI.pl1; omega))
theorem Fin.plw (LI : LawIn pl ps lks) (h : Fin pl ps lks μ) {i : Nat} (hi : i < 4) : μ (ix 0 (24 + (i : Int))) = if i < pl.length then (pl.getD i (0, 0)).1 * 256 + (pl.getD i (0, 0)).2 else 0 := by
  have e : (24 : Int) + (i : Int) = ((24 + i : Nat) : Int) := by omega
  rw [e, h.ker (by omega)]
  have l4 := LI.pl1.2
  split
  · rename_i c
    exact mboot0_pl l4 c (LI.plg _ (getD_mem c))
  · exact mboot0_no l4 (by omega) (by omega)
theorem filter_lt {n : Nat} (h : n ≤ 4) : ((List.range 4).filter fun i => decide (i < n)) = List.range n := by
  have e : n = 0 ∨ n = 1 ∨ n = 2 ∨ n = 3 ∨ n = 4 := by omega
  rcases e with e | e | e | e | e <;> subst e <;> rfl
theorem Fin.plan (LI : LawIn pl ps lks) (h : Fin pl ps lks μ) : givD 4 (fun i => decide (μ (ix 0 (24 + (i : Int))) ≠ 0)) (fun i => DD.tup [.int (μ (ix 0 (24 + (i : Int))) / 256), .int (μ (ix 0 (24 + (i : Int))) % 256)]) = pl.map fun p => .tup [.int p.1, .int p.2] := by
  have l4 := LI.pl1.2
  unfold givD
  have e1 : ((List.range 4).filter fun (i : Nat) => decide (μ (ix 0 (24 + (i : Int))) ≠ 0)) = (List.range 4).filter fun (i : Nat) => decide (i < pl.length) := List.filter_congr fun i hi => by
    have hi := List.mem_range.mp hi
    rw [h.plw LI hi, decide_eq_decide]
    split
    · rename_i c
      have g := LI.plg _ (getD_mem (d := (0, 0)) c)
      have ga := g.a
      have gb := g.b
      exact ⟨fun _ => c, fun _ => by omega⟩
    · rename_i c
      exact ⟨fun z => absurd rfl z, fun z => absurd z c⟩
  rw [e1, filter_lt l4]
  refine List.ext_getElem? fun i => ?_
  rw [List.getElem?_map, List.getElem?_map]
  by_cases hi : i < pl.length
  · have g := LI.plg _ (getD_mem (d := (0, 0)) hi)
    have ga := g.a
    have gb := g.b
    have hp := List.getElem?_eq_getElem hi
    rw [List.getElem?_range hi, hp]
    show some (DD.tup [.int (μ (ix 0 (24 + (i : Int))) / 256), .int (μ (ix 0 (24 + (i : Int))) % 256)]) = some (DD.tup [.int (pl[i]).1, .int (pl[i]).2])
    rw [h.plw LI (by omega), if_pos hi, getD_at hp]
    rw [getD_at hp] at ga gb
    rw [show ((pl[i]).1 * 256 + (pl[i]).2) / 256 = (pl[i]).1 by omega, show ((pl[i]).1 * 256 + (pl[i]).2) % 256 = (pl[i]).2 by omega]
  · rw [List.getElem?_eq_none (by rw [List.length_range]; omega), List.getElem?_eq_none (by omega)]
    rfl
theorem Fin.w0 (LI : LawIn pl ps lks) (h : Fin pl ps lks μ) : μ (ix 0 0) = 0 ∧ μ (ix 0 1) = 0 ∧ μ (ix 0 2) = (pl.getD 0 (0, 0)).2 := by
  have l4 := LI.pl1.2
  have a := h.ker (i := 0) (by decide)
  have b := h.ker (i := 1) (by decide)
  have c := h.ker (i := 2) (by decide)
  exact ⟨a.trans (mboot0_no l4 (by decide) (by omega)), b.trans (mboot0_no l4 (by decide) (by omega)), c.trans (mboot0_2 (g_pl0 LI))⟩
theorem Fin.dom (LI : LawIn pl ps lks) (h : Fin pl ps lks μ) : mdom μ = (pl.getD 0 (0, 0)).1 := by
  have g := g_pl0 LI
  have ga := g.a
  have gb := g.b
  have w := h.plw LI (i := 0) (by decide)
  rw [if_pos (by have := LI.pl1; omega)] at w
  unfold mdom
  rw [(h.w0 LI).2.1]
  have w : μ (ix 0 (24 + 0)) = _ := w
  rw [w]
  omega
theorem Fin.thf (LI : LawIn pl ps lks) (h : Fin pl ps lks μ) {k : Nat} (hk : k < ps.length) : ThF μ (ps.getD k p0) k := by
  have h3 := LI.ps1
  have w := h.thw LI hk
  have pt := h.pt k hk
  obtain ⟨d4, d5, d3, d2, d2'⟩ := h.kd hk
  have gw := (LI.psg _ (getD_mem (d := p0) hk)).wl
  have m1 : ∀ x : Int, 0 < x → mayI x = some (x - 1) := fun x hx => by unfold mayI; rw [if_neg (by omega)]
  have e5 : ((5 + 5 * k : Nat) : Int) = 5 + 5 * (k : Int) := by omega
  have e6 : ((6 + 5 * k : Nat) : Int) = 6 + 5 * (k : Int) := by omega
  have e4 : ((4 + 5 * k : Nat) : Int) = 4 + 5 * (k : Int) := by omega
  refine ⟨w.is, w.dom, w.pr, w.bu, w.lf, w.st, w.pc, ?_, ?_, ⟨mem_fr.mpr ⟨by omega, by rw [e5]; exact d2⟩, ?_⟩, ⟨mem_fr.mpr ⟨by omega, by rw [e6]; exact d2'⟩, ?_⟩, ⟨mem_fr.mpr ⟨by omega, by rw [e4]; exact d3⟩, ?_⟩, h.isSl LI hk (r := 3) (by decide) ?_, ?_⟩
  · rw [w.cp, m1 _ (by omega)]
    congr 1
    omega
  · rw [w.tb, m1 _ (by omega)]
    congr 1
    omega
  · refine List.ext_getElem? fun i => ?_
    rw [List.getElem?_map, e5]
    by_cases hi : i < 64
    · rw [List.getElem?_range hi]
      show some (μ (ix (5 + 5 * (k : Int)) (i : Int))) = _
      rw [pt.p1 i hi]
      unfold at0
      by_cases hl : i < (ps.getD k p0).ws.length
      · rw [List.getElem?_append_left hl, List.getD_eq_getElem?_getD, List.getElem?_eq_getElem hl]
        rfl
      · rw [List.getElem?_append_right (by omega), List.getElem?_replicate, if_pos (by omega), List.getD_eq_getElem?_getD, List.getElem?_eq_none (by omega)]
        rfl
    · rw [List.getElem?_eq_none (by rw [List.length_range]; omega), List.getElem?_eq_none (by rw [List.length_append, List.length_replicate]; omega)]
      rfl
  · refine List.ext_getElem? fun i => ?_
    rw [List.getElem?_map, List.getElem?_replicate, e6]
    by_cases hi : i < 64
    · rw [List.getElem?_range hi, if_pos (show i < Int.toNat 64 from hi)]
      show some (μ (ix (6 + 5 * (k : Int)) (i : Int))) = _
      rw [pt.p2 i hi]
    · rw [List.getElem?_eq_none (by rw [List.length_range]; omega), if_neg (show ¬ i < Int.toNat 64 from hi)]
      rfl
  · rw [e4]
    have tL := h.tabL hk
    unfold KX.tabL at tL
    unfold rowsD givK
    rw [tL]
    have t0 := fun j hj => h.tw hk (i := 0) (j := j) (by decide) hj
    have t1 := fun j hj => h.tw hk (i := 1) (j := j) (by decide) hj
    have a0 : μ (ix (4 + 5 * (k : Int)) (eat μ (4 + 5 * (k : Int)) ((0 : Nat) : Int) + 0)) = 2 + 5 * (k : Int) + 4 := t0 0 (by decide)
    have a1 : μ (ix (4 + 5 * (k : Int)) (eat μ (4 + 5 * (k : Int)) ((0 : Nat) : Int) + 1)) = 3 := t0 1 (by decide)
    have a2 : μ (ix (4 + 5 * (k : Int)) (eat μ (4 + 5 * (k : Int)) ((0 : Nat) : Int) + 2)) = (2 + 5 * (k : Int)) * 8 + 7 := t0 2 (by decide)
    have b0 : μ (ix (4 + 5 * (k : Int)) (eat μ (4 + 5 * (k : Int)) ((1 : Nat) : Int) + 0)) = 2 + 5 * (k : Int) + 5 := t1 0 (by decide)
    have b1 : μ (ix (4 + 5 * (k : Int)) (eat μ (4 + 5 * (k : Int)) ((1 : Nat) : Int) + 1)) = 3 := t1 1 (by decide)
    have b2 : μ (ix (4 + 5 * (k : Int)) (eat μ (4 + 5 * (k : Int)) ((1 : Nat) : Int) + 2)) = (2 + 5 * (k : Int)) * 8 + 8 := t1 2 (by decide)
    rw [List.map_cons, List.map_cons, List.map_nil]
    dsimp only
    rw [a0, a1, a2, b0, b1, b2, show 2 + 5 * (k : Int) + 4 - 1 = 5 + 5 * (k : Int) by omega, show (2 + 5 * (k : Int)) * 8 + 7 - 1 = (2 + 5 * (k : Int)) * 8 + 6 by omega, show 2 + 5 * (k : Int) + 5 - 1 = 6 + 5 * (k : Int) by omega, show (2 + 5 * (k : Int)) * 8 + 8 - 1 = (2 + 5 * (k : Int)) * 8 + 7 by omega]
    rfl
  · rw [show fld μ ((2 + 5 * (k : Int)) * 8 + ((3 : Nat) : Int)) 0 = 5 from h.slw hk (by decide) (by decide) (by decide) (by decide) 0 (by decide)]
    decide
  · refine (h.cap6w (r := 3) hk (by decide) (by decide) (by decide) (by decide)).trans ?_
    show [5, 2 + 5 * (k : Int) + 1, 7, 0, 1, 0] = _
    rw [show 2 + 5 * (k : Int) + 1 = 3 + 5 * (k : Int) by omega]
end
end KX

namespace KX
open KA KQ
open PySem PySem.Spec L2 Evl
section
variable {pl : List (Int × Int)} {ps : List PtX} {lks : List Lnk} {μ : Mem}
theorem Fin.c0 (LI : LawIn pl ps lks) (h : Fin pl ps lks μ) {k : Nat} (hk : k < ps.length) : (0 < (ps.getD k p0).mn → isS μ ((2 + 5 * (k : Int)) * 8) = true ∧ cap6 μ ((2 + 5 * (k : Int)) * 8) = [1, 2 + 5 * (ps.length : Int) + (lks.length : Int) + bef ps k, 7, 0, (ps.getD k p0).mn, 0]) ∧ (¬ 0 < (ps.getD k p0).mn → isS μ ((2 + 5 * (k : Int)) * 8) = false) := by
  have h3 := LI.ps1
  have m := (LI.psg _ (getD_mem (d := p0) hk)).mn
  have s0 := fun q hq => h.s0 k q hk hq
  have e0 : (2 + 5 * (k : Int)) * 8 = (2 + 5 * (k : Int)) * 8 + ((0 : Nat) : Int) := by omega
  refine ⟨fun hm => ?_, fun hm => ?_⟩
  · have hne : (ps.getD k p0).mn ≠ 0 := by omega
    have a0 : fld μ ((2 + 5 * (k : Int)) * 8) 0 = 1 := (s0 0 (by decide)).trans (if_pos hne)
    have a1 : fld μ ((2 + 5 * (k : Int)) * 8) 1 = 2 + 5 * (ps.length : Int) + (lks.length : Int) + bef ps k := (s0 1 (by decide)).trans (if_pos hne)
    have a2 : fld μ ((2 + 5 * (k : Int)) * 8) 2 = 7 := (s0 2 (by decide)).trans (if_pos hne)
    have a3 : fld μ ((2 + 5 * (k : Int)) * 8) 3 = 0 := (s0 3 (by decide)).trans (if_pos hne)
    have a5 : fld μ ((2 + 5 * (k : Int)) * 8) 5 = (ps.getD k p0).mn := (s0 5 (by decide)).trans (if_pos hne)
    have a6 : fld μ ((2 + 5 * (k : Int)) * 8) 6 = 0 := (s0 6 (by decide)).trans (if_pos hne)
    refine ⟨?_, by unfold cap6; rw [a0, a1, a2, a3, a5, a6]⟩
    rw [e0]
    exact h.isSl LI hk (by decide) (by rw [← e0, a0]; decide)
  · have he : ¬ (ps.getD k p0).mn ≠ 0 := by omega
    have a0 : fld μ ((2 + 5 * (k : Int)) * 8) 0 = 0 := (s0 0 (by decide)).trans (if_neg he)
    refine decide_eq_false fun z => ?_
    have hb := (List.mem_filter.mp z.2).2
    unfold slotB at hb
    rw [Bool.and_eq_true, Bool.not_eq_true', decide_eq_false_iff_not, Int.toNat_of_nonneg z.1, a0] at hb
    exact hb.2 rfl
theorem Fin.lk (LI : LawIn pl ps lks) (h : Fin pl ps lks μ) {l : Lnk} (hl : lks = [l]) : μ (ix 1 (2 + 5 * (ps.length : Int))) = l.k ∧ (isS μ ((2 + 5 * l.one) * 8 + 4) = true ∧ cap6 μ ((2 + 5 * l.one) * 8 + 4) = [l.k, 2 + 5 * (ps.length : Int), l.r, l.one + 1, 1, 0]) ∧
    isS μ ((2 + 5 * l.other) * 8 + (if l.one = l.other then 5 else 4)) = true ∧ cap6 μ ((2 + 5 * l.other) * 8 + (if l.one = l.other then 5 else 4)) = [l.k, 2 + 5 * (ps.length : Int), l.o, l.other + 1, 1, 0] := by
  subst hl
  have gl := LI.lkg l (List.mem_singleton.mpr rfl)
  obtain ⟨a0, a1⟩ := gl.one
  obtain ⟨b0, b1⟩ := gl.other
  obtain ⟨i1, hi1⟩ : ∃ i : Nat, l.one = (i : Int) := ⟨l.one.toNat, by omega⟩
  obtain ⟨i2, hi2⟩ : ∃ i : Nat, l.other = (i : Int) := ⟨l.other.toNat, by omega⟩
  have gk : l.k ≠ 0 := by rcases gl.k with z | z <;> rw [z] <;> decide
  have six : ∀ (s : Int) (r : Int) (k : Int), (∀ q : Nat, q < 7 → fld μ s (q : Int) = capw (at0 [l.k, 2 + 5 * (ps.length : Int), r, k + 1]) 1 0 q) → cap6 μ s = [l.k, 2 + 5 * (ps.length : Int), r, k + 1, 1, 0] := fun s r k t => by
    have t0 : fld μ s 0 = l.k := t 0 (by decide)
    have t1 : fld μ s 1 = 2 + 5 * (ps.length : Int) := t 1 (by decide)
    have t2 : fld μ s 2 = r := t 2 (by decide)
    have t3 : fld μ s 3 = k + 1 := t 3 (by decide)
    have t5 : fld μ s 5 = 1 := t 5 (by decide)
    have t6 : fld μ s 6 = 0 := t 6 (by decide)
    unfold cap6
    rw [t0, t1, t2, t3, t5, t6]
  have one : ∀ q : Nat, q < 7 → fld μ ((2 + 5 * (i1 : Int)) * 8 + 4) (q : Int) = capw (at0 [l.k, 2 + 5 * (ps.length : Int), l.r, (i1 : Int) + 1]) 1 0 q := fun q hq => (h.s4 i1 q (by omega) hq).trans (if_pos hi1)
  refine ⟨h.kX LI rfl, ?_, ?_⟩
  · rw [hi1]
    exact ⟨h.isSl LI (k := i1) (r := 4) (by omega) (by decide) (by have := one 0 (by decide); have this : fld μ ((2 + 5 * (i1 : Int)) * 8 + ((4 : Nat) : Int)) 0 = l.k := this; rw [this]; exact gk), six _ _ _ one⟩
  · by_cases e : l.one = l.other
    · rw [if_pos e, hi2]
      have t : ∀ q : Nat, q < 7 → fld μ ((2 + 5 * (i2 : Int)) * 8 + 5) (q : Int) = capw (at0 [l.k, 2 + 5 * (ps.length : Int), l.o, (i2 : Int) + 1]) 1 0 q := fun q hq => (h.s5 i2 q (by omega) hq).trans (if_pos ⟨e.trans hi2, hi2⟩)
      exact ⟨h.isSl LI (k := i2) (r := 5) (by omega) (by decide) (by have := t 0 (by decide); have this : fld μ ((2 + 5 * (i2 : Int)) * 8 + ((5 : Nat) : Int)) 0 = l.k := this; rw [this]; exact gk), six _ _ _ t⟩
    · rw [if_neg e, hi2]
      have t : ∀ q : Nat, q < 7 → fld μ ((2 + 5 * (i2 : Int)) * 8 + 4) (q : Int) = capw (at0 [l.k, 2 + 5 * (ps.length : Int), l.o, (i2 : Int) + 1]) 1 0 q := fun q hq => (h.s4 i2 q (by omega) hq).trans ((if_neg fun z => e (z.trans hi2.symm)).trans (if_pos hi2))
      exact ⟨h.isSl LI (k := i2) (r := 4) (by omega) (by decide) (by have := t 0 (by decide); have this : fld μ ((2 + 5 * (i2 : Int)) * 8 + ((4 : Nat) : Int)) 0 = l.k := this; rw [this]; exact gk), six _ _ _ t⟩
theorem Fin.ln (LI : LawIn pl ps lks) (h : Fin pl ps lks μ) : givK 4 (fun i => decide (μ (ix 0 (20 + (i : Int))) ≠ 0)) (fun i => Sum.inl (i : Int)) (fun i => DD.tup [.int (μ (ix 0 (20 + (i : Int))) % 256 - 1), .int (μ (ix 0 (20 + (i : Int))) / 256)]) = if lnsOf lks = [] then [] else [(Sum.inl 3, .tup ([2 + 5 * (ps.length : Int), 9].map DD.int))] := by
  have h3 := LI.ps1
  have w : ∀ i : Nat, i < 3 → μ (ix 0 (20 + (i : Int))) = 0 := fun i hi => by
    have e : ix 0 (20 + (i : Int)) = 20 + i := by unfold ix; omega
    rw [e]
    exact h.k20 _ (by omega) (by omega)
  have w3 : μ (ix 0 (20 + ((3 : Nat) : Int))) = if lnsOf lks = [] then 0 else 9 * 256 + 2 + 5 * (ps.length : Int) + 1 := h.k23
  unfold givK
  have e1 : ((List.range 4).filter fun (i : Nat) => decide (μ (ix 0 (20 + (i : Int))) ≠ 0)) = if lnsOf lks = [] then [] else [3] := by
    have k : ∀ i ∈ List.range 4, (fun (i : Nat) => decide (μ (ix 0 (20 + (i : Int))) ≠ 0)) i = (decide (i = 3) && !decide (lnsOf lks = [])) := fun i hi => by
      have hi := List.mem_range.mp hi
      show decide (μ (ix 0 (20 + (i : Int))) ≠ 0) = _
      by_cases e : i = 3
      · subst e
        rw [w3]
        split
        · rename_i c; rw [decide_eq_true c]; rfl
        · rename_i c
          rw [decide_eq_false c, decide_eq_true (show 9 * 256 + 2 + 5 * (ps.length : Int) + 1 ≠ 0 by omega)]
          rfl
      · rw [w i (by omega), decide_eq_false e]
        rfl
    rw [List.filter_congr k]
    by_cases c : lnsOf lks = []
    · rw [if_pos c, decide_eq_true c]; rfl
    · rw [if_neg c, decide_eq_false c]; rfl
  rw [e1]
  by_cases c : lnsOf lks = []
  · rw [if_pos c, if_pos c]
    rfl
  · rw [if_neg c] at w3
    rw [if_neg c, if_neg c, List.map_cons, List.map_nil]
    dsimp only
    rw [w3, show (9 * 256 + 2 + 5 * (ps.length : Int) + 1) % 256 - 1 = 2 + 5 * (ps.length : Int) by omega, show (9 * 256 + 2 + 5 * (ps.length : Int) + 1) / 256 = 9 by omega]
    rfl
end
end KX

namespace KX
open KA KQ
open PySem PySem.Spec L2 Evl
/-! ### who is chosen -/
def LtP (p q : Int × Int) : Prop := p.1 < q.1 ∨ (p.1 = q.1 ∧ p.2 < q.2)
theorem lt_pair {p q : Int × Int} : PySem.W.DatumOrd.lt p q = true ↔ LtP p q := by
  show (if p.1 = q.1 then decide (p.2 < q.2) else decide (p.1 < q.1)) = true ↔ _
  unfold LtP
  by_cases e : p.1 = q.1
  · rw [if_pos e, decide_eq_true_eq]
    omega
  · rw [if_neg e, decide_eq_true_eq]
    omega
theorem maxOf_spec : ∀ (xs : List (Int × Int)) (x : Int × Int), PySem.W.maxOf x xs ∈ x :: xs ∧ ∀ y ∈ x :: xs, ¬ LtP (PySem.W.maxOf x xs) y
  | [], x => ⟨List.mem_singleton.mpr rfl, fun y hy => by
    rw [List.mem_singleton.mp hy]
    show ¬ LtP x x
    unfold LtP
    omega⟩
  | y :: xs, x => by
    show PySem.W.maxOf (if PySem.W.DatumOrd.lt x y = true then y else x) xs ∈ _ ∧ ∀ z ∈ x :: y :: xs, ¬ LtP (PySem.W.maxOf (if PySem.W.DatumOrd.lt x y = true then y else x) xs) z
    by_cases c : PySem.W.DatumOrd.lt x y = true
    · rw [if_pos c]
      obtain ⟨a, b⟩ := maxOf_spec xs y
      have c := lt_pair.mp c
      refine ⟨List.mem_cons_of_mem _ a, fun z hz => ?_⟩
      rcases List.mem_cons.mp hz with rfl | hz
      · have := b y List.mem_cons_self
        unfold LtP at *
        omega
      · exact b z hz
    · rw [if_neg c]
      obtain ⟨a, b⟩ := maxOf_spec xs x
      have c : ¬ LtP x y := fun h => c (lt_pair.mpr h)
      refine ⟨?_, fun z hz => ?_⟩
      · rcases List.mem_cons.mp a with a | a
        · rw [a]; exact List.mem_cons_self
        · exact List.mem_cons_of_mem _ (List.mem_cons_of_mem _ a)
      · rcases List.mem_cons.mp hz with rfl | hz
        · exact b z List.mem_cons_self
        rcases List.mem_cons.mp hz with rfl | hz
        · have := b x List.mem_cons_self
          unfold LtP at *
          omega
        · exact b z (List.mem_cons_of_mem _ hz)
theorem qin_filter {ps : List PtX} {n : Int} (i : Nat) : qin ps i n = (List.range i).filter fun k => decide (keyP ps k = n) := by
  induction i with
  | zero => rfl
  | succ i ih =>
    rw [List.range_succ, List.filter_append, ← ih, List.filter_cons, List.filter_nil]
    show (if n = keyP ps i then qin ps i (keyP ps i) ++ [i] else qin ps i n) = _
    by_cases e : n = keyP ps i
    · rw [if_pos e, if_pos (decide_eq_true e.symm), ← e]
    · rw [if_neg e, if_neg (by simpa using fun z => e z.symm), List.append_nil]
section
variable {pl : List (Int × Int)} {ps : List PtX} {lks : List Lnk} {μ : Mem}
/-- the head of a queue: its least part -/
theorem Fin.head (LI : LawIn pl ps lks) (h : Fin pl ps lks μ) {n : Int} (n0 : 0 ≤ n) (n8 : n < 8) : (μ (ix 0 (4 + n)) = 0 ∧ ∀ k, k < ps.length → keyP ps k ≠ n) ∨ ∃ k, k < ps.length ∧ keyP ps k = n ∧ μ (ix 0 (4 + n)) = KA.th k + 1 ∧ ∀ j, j < k → keyP ps j ≠ n := by
  have s := h.qs.seg n n0 n8
  rw [qin_filter] at s
  cases hq : (List.range ps.length).filter fun k => decide (keyP ps k = n) with
  | nil =>
    rw [hq] at s
    exact .inl ⟨s, fun k hk e => by
      have : k ∈ (List.range ps.length).filter fun k => decide (keyP ps k = n) := List.mem_filter.mpr ⟨List.mem_range.mpr hk, decide_eq_true e⟩
      rw [hq] at this
      cases this⟩
  | cons k r =>
    rw [hq] at s
    have hm : k ∈ (List.range ps.length).filter fun k => decide (keyP ps k = n) := by rw [hq]; exact List.mem_cons_self
    obtain ⟨m1, m2⟩ := List.mem_filter.mp hm
    refine .inr ⟨k, List.mem_range.mp m1, of_decide_eq_true m2, s.1, fun j hj e => ?_⟩
    have hj' : j ∈ (List.range ps.length).filter fun k => decide (keyP ps k = n) := List.mem_filter.mpr ⟨List.mem_range.mpr (by have := List.mem_range.mp m1; omega), decide_eq_true e⟩
    have pw : ((List.range ps.length).filter fun k => decide (keyP ps k = n)).Pairwise (· < ·) := List.Pairwise.filter _ List.pairwise_lt_range
    rw [hq] at pw hj'
    rcases List.mem_cons.mp hj' with rfl | hj'
    · omega
    · have := List.rel_of_pairwise_cons pw hj'
      omega
theorem Fin.chosen (LI : LawIn pl ps lks) (h : Fin pl ps lks μ) : (rankL pl ps = [] → mfrom μ 4 = none) ∧ ∀ x r, rankL pl ps = x :: r → mfrom μ 4 = some (3 - 5 * (PySem.W.maxOf x r).2) := by
  have g0 := (g_pl0 LI).a
  have hd := h.dom LI
  -- from above
  have up : ∀ j : Nat, j ≤ 4 → (mfrom μ j = none ∧ ∀ k, k < ps.length → (ps.getD k p0).d = (pl.getD 0 (0, 0)).1 → ¬ (ps.getD k p0).pr < (j : Int)) ∨ ∃ k, k < ps.length ∧ (ps.getD k p0).d = (pl.getD 0 (0, 0)).1 ∧ (ps.getD k p0).pr < (j : Int) ∧ mfrom μ j = some (KA.th k) ∧ ∀ i, i < ps.length → (ps.getD i p0).d = (pl.getD 0 (0, 0)).1 → (ps.getD i p0).pr < (j : Int) → ¬ LtP ((ps.getD k p0).pr, -(k : Int)) ((ps.getD i p0).pr, -(i : Int)) := by
    intro j
    induction j with
    | zero => exact fun _ => .inl ⟨rfl, fun k hk _ => by have := (LI.psg _ (getD_mem (d := p0) hk)).pr; omega⟩
    | succ j ih =>
      intro hj
      have en : 4 + mdom μ * 4 + (j : Int) = 4 + ((pl.getD 0 (0, 0)).1 * 4 + (j : Int)) := by rw [hd]; omega
      rcases h.head LI (n := (pl.getD 0 (0, 0)).1 * 4 + (j : Int)) (by omega) (by omega) with ⟨z, no⟩ | ⟨k, hk, e, z, first⟩
      · have hm : mfrom μ (j + 1) = mfrom μ j := by
          show (if mhead μ (j : Int) ≠ 0 then _ else mfrom μ j) = _
          unfold mhead
          rw [en, z, if_neg (by decide)]
        have skip : ∀ k, k < ps.length → (ps.getD k p0).d = (pl.getD 0 (0, 0)).1 → (ps.getD k p0).pr ≠ (j : Int) := fun k hk hdk hp => no k hk (by unfold keyP; rw [hdk, hp])
        rcases ih (by omega) with ⟨a, b⟩ | ⟨k, hk, a, b, c, d⟩
        · refine .inl ⟨hm.trans a, fun k hk hdk => ?_⟩
          have := b k hk hdk
          have := skip k hk hdk
          omega
        · refine .inr ⟨k, hk, a, by omega, hm.trans c, fun i hi hdi hpi => ?_⟩
          have := skip i hi hdi
          exact d i hi hdi (by omega)
      · have gk := LI.psg _ (getD_mem (d := p0) hk)
        have gd := gk.d
        have gp := gk.pr
        have ek : (ps.getD k p0).d = (pl.getD 0 (0, 0)).1 ∧ (ps.getD k p0).pr = (j : Int) := by
          unfold keyP at e
          omega
        refine .inr ⟨k, hk, ek.1, by omega, ?_, fun i hi hdi hpi hlt => ?_⟩
        · show (if mhead μ (j : Int) ≠ 0 then some (mhead μ (j : Int) - 1) else mfrom μ j) = _
          unfold mhead
          rw [en, z, if_pos (by unfold KA.th; omega)]
          congr 1
          omega
        · unfold LtP at hlt
          dsimp only at hlt
          have hik : i < k ∧ (ps.getD i p0).pr = (j : Int) := by omega
          exact first i hik.1 (by unfold keyP; rw [hdi, hik.2])
  have rk : ∀ q, q ∈ rankL pl ps ↔ ∃ k, k < ps.length ∧ (ps.getD k p0).d = (pl.getD 0 (0, 0)).1 ∧ q = ((ps.getD k p0).pr, -(k : Int)) := fun q => by
    unfold rankL
    rw [List.mem_map]
    constructor
    · rintro ⟨k, hk, rfl⟩
      obtain ⟨a, b⟩ := List.mem_filter.mp hk
      exact ⟨k, List.mem_range.mp a, of_decide_eq_true b, rfl⟩
    · rintro ⟨k, a, b, rfl⟩
      exact ⟨k, List.mem_filter.mpr ⟨List.mem_range.mpr a, decide_eq_true b⟩, rfl⟩
  have p4 : ∀ k, k < ps.length → (ps.getD k p0).pr < 4 := fun k hk => (LI.psg _ (getD_mem (d := p0) hk)).pr.2
  refine ⟨fun he => ?_, fun x r he => ?_⟩
  · rcases up 4 (Nat.le_refl _) with ⟨a, _⟩ | ⟨k, hk, a, _⟩
    · exact a
    · have := (rk _).mpr ⟨k, hk, a, rfl⟩
      rw [he] at this
      cases this
  · obtain ⟨mm, mx⟩ := maxOf_spec r x
    rw [← he] at mm mx
    obtain ⟨m, hm, hmd, hme⟩ := (rk _).mp mm
    rcases up 4 (Nat.le_refl _) with ⟨_, b⟩ | ⟨k, hk, a, _, c, d⟩
    · exact absurd (p4 m hm) (b m hm hmd)
    · have h1 := d m hm hmd (p4 m hm)
      have h2 := mx _ ((rk _).mpr ⟨k, hk, a, rfl⟩)
      rw [hme] at h2 ⊢
      rw [c]
      unfold LtP at h1 h2
      dsimp only at h1 h2 ⊢
      unfold KA.th
      congr 1
      omega
end
end KX

namespace KX
open KA KQ
open PySem PySem.Spec L2 Evl
theorem facts_of {pl : List (Int × Int)} {ps : List PtX} {lks : List Lnk} (LI : LawIn pl ps lks) (bent : ∀ μ, Fin pl ps lks μ → Bd μ → ∀ r ∈ RW ps, BentOk μ r) : ∃ μ rq, Facts pl ps lks μ rq := by
  obtain ⟨μ, hb, h⟩ := fin_all LI
  have bd := bd_boot hb
  have ll : (lnsOf lks).length ≤ 1000 := by
    unfold lnsOf
    split
    · show 1 ≤ 1000
      decide
    · exact Nat.zero_le _
  obtain ⟨w0, w1, w2⟩ := h.w0 LI
  obtain ⟨c0, c1⟩ := h.chosen LI
  exact ⟨μ, rqF ps, { ok := bootOk_of LI.pl1.2 LI.ps1.2 LI.psg (by have := LI.lk1; omega) ll, boot := hb, bd := bd, q := h.qok LI, ck := h.chk LI, w0 := w0, w1 := w1, w2 := w2, plan := h.plan LI, dom := h.dom LI, th := fun k hk => h.thf LI hk, c0 := fun k hk => h.c0 LI hk, lk := fun l hl => h.lk LI hl, ln := h.ln LI, ch0 := c0, ch1 := c1, bent := bent μ h bd, wrong := wr_all LI.pl1 }⟩
/-! ### bent memories -/
/-- nu is mu but for the word i, which is x -/
structure Bent (μ ν : Mem) (i : Nat) (x : Int) : Prop where
  at_ : ν i = x
  out : ∀ j, j < 2048 → j ≠ i → ν j = μ j
theorem bent_of {μ : Mem} (bd : Bd μ) {r : Int × Int} (b : 0 ≤ r.1 ∧ r.1 < 2048 ∧ 0 ≤ r.2 ∧ r.2 < 65536) : Bent μ (bentM μ r) r.1.toNat r.2 := by
  obtain ⟨i, x⟩ := r
  obtain ⟨n, rfl⟩ : ∃ n : Nat, i = (n : Int) := ⟨i.toNat, by have := b.1; dsimp only at this; omega⟩
  have hn : n < 2048 := by have := b.2.1; dsimp only at this; omega
  have hx := b.2.2
  dsimp only at hx ⊢
  have l0 : ((List.range 2048).map μ).length = 2048 := by rw [List.length_map, List.length_range]
  have lt : (((List.range 2048).map μ).take n).length = n := by rw [List.length_take, l0]; omega
  have at0 : ∀ j, j < 2048 → ((List.range 2048).map μ)[j]? = some (μ j) := fun j hj => by rw [List.getElem?_map, List.getElem?_range hj]; rfl
  refine ⟨?_, fun j hj hne => ?_⟩
  · show (bentL μ n x).getD n 0 % 65536 = x
    have : (bentL μ n x)[n]? = some x := by
      unfold bentL
      rw [List.append_assoc, List.getElem?_append_right (by omega), lt, Nat.sub_self]
      rfl
    rw [getD_at this]
    omega
  · show (bentL μ n x).getD j 0 % 65536 = μ j
    have : (bentL μ n x)[j]? = some (μ j) := by
      unfold bentL
      by_cases h : j < n
      · rw [List.append_assoc, List.getElem?_append_left (by omega), List.getElem?_take_of_lt h]
        exact at0 j hj
      · rw [List.getElem?_append_right (by rw [List.length_append, lt]; show n + 1 ≤ j; omega), List.length_append, lt, List.getElem?_drop]
        have e : n + 1 + (j - (n + [x].length)) = j := by
          have : [x].length = 1 := rfl
          omega
        rw [e]
        exact at0 j hj
    rw [getD_at this]
    have := bd j
    omega
end KX

namespace KX
open KA KQ
open PySem PySem.Spec L2 Evl
section
variable {pl : List (Int × Int)} {ps : List PtX} {lks : List Lnk} {μ ν : Mem}
theorem segI_frame {μ ν : Mem} : ∀ {q : List Int} {v : Int}, (∀ t ∈ q, ν (ix t 15) = μ (ix t 15)) → SegI μ v q → SegI ν v q
  | [], v, _, h => h
  | t :: q, v, e, h => by
    refine ⟨h.1, h.2.1, h.2.2.1, ?_⟩
    rw [e t List.mem_cons_self]
    exact segI_frame (fun x hx => e x (List.mem_cons_of_mem _ hx)) h.2.2.2
theorem fr_frame {μ ν : Mem} (e : ∀ f : Nat, f < 32 → ν (ix 1 (f : Int)) = μ (ix 1 (f : Int))) (k : Int) : fr ν k = fr μ k := by
  unfold fr
  refine List.filter_congr fun f hf => ?_
  rw [e f (List.mem_range.mp hf)]
/-- a bent word that is none of the queues' nor a kind -/
theorem qok_bent (LI : LawIn pl ps lks) (h : Fin pl ps lks μ) {i : Nat} {x : Int} (b : Bent μ ν i x) (hi : 96 ≤ i ∧ i < 448 ∧ i ≠ 207) : QOk ν (rqF ps) eqN := by
  have h3 := LI.ps1
  have q := h.qok LI
  have ke : ∀ f : Nat, f < 32 → ν (ix 1 (f : Int)) = μ (ix 1 (f : Int)) := fun f hf => b.out _ (by unfold ix; omega) (by unfold ix; omega)
  refine ⟨fun n hn => ⟨?_, (q.rq_ n hn).2⟩, fun f hf hk => ⟨?_, (Nat.zero_le _)⟩, by rw [fr_frame ke]; exact q.dev⟩
  · rw [b.out (ix 0 (4 + (n : Int))) (by unfold ix; omega) (by unfold ix; omega)]
    refine segI_frame (fun t ht => ?_) (q.rq_ n hn).1
    obtain ⟨k, hk, rfl⟩ := List.mem_map.mp ht
    have := qin_lt hk
    exact b.out _ (by unfold ix KA.th; omega) (by unfold ix KA.th; omega)
  · rw [ke f hf] at hk
    have z := (q.eq_ f hf hk).1
    have hf2 : 7 ≤ f := by
      rw [h.kind (by omega)] at hk
      unfold kindS at hk
      split at hk
      · have e : (f - 2) % 5 = 0 ∨ (f - 2) % 5 = 1 ∨ (f - 2) % 5 = 2 ∨ (f - 2) % 5 = 3 ∨ (f - 2) % 5 = 4 := by omega
        rcases e with e | e | e | e | e <;> rw [e] at hk <;> exact absurd hk (by decide)
      · split at hk
        · rename_i c
          omega
        · exact absurd hk (by decide)
    show ν (ix (f : Int) 1) = 0
    rw [b.out _ (by unfold ix; omega) (by unfold ix; omega)]
    exact z
theorem chk_bad {rq eq : Nat → List Int} (h : badK ν = true) : chk ν rq eq = false := by unfold chk; rw [h]; rfl
theorem chk_cap {rq eq : Nat → List Int} {s : Nat} (hs : s ∈ slN ν) (h : capOk ν (s : Int) = false) : chk ν rq eq = false := by
  have : ((slN ν).all fun s => capOk ν (s : Int)) = false := by
    rw [List.all_eq_false]
    exact ⟨s, hs, by rw [h]; decide⟩
  unfold chk
  rw [this, Bool.and_false, Bool.false_and, Bool.false_and]
theorem chk_que {rq eq : Nat → List Int} (h : chkQ ν rq eq = false) : chk ν rq eq = false := by unfold chk; rw [h, Bool.and_false, Bool.false_and]
theorem chk_tab {rq eq : Nat → List Int} {f : Nat} (hf : f ∈ fr ν 3) (h : tabOk ν (f : Int) = false) : chk ν rq eq = false := by
  have : ((fr ν 3).all fun f => tabOk ν (f : Int)) = false := by
    rw [List.all_eq_false]
    exact ⟨f, hf, by rw [h]; decide⟩
  unfold chk
  rw [this, Bool.and_false]
theorem slot_in (LI : LawIn pl ps lks) (h : Fin pl ps lks μ) {i : Nat} {x : Int} (b : Bent μ ν i x) (hi : 96 ≤ i) {r : Nat} (hr : r < 8) (n : i ≠ 128 + r * 8) (h0 : fld μ ((2 + 5 * ((0 : Nat) : Int)) * 8 + (r : Int)) 0 ≠ 0) : 16 + r ∈ slN ν := by
  have h3 := LI.ps1
  obtain ⟨s, es, hs⟩ := isS_sl (h.isSl LI (k := 0) (by omega) hr h0)
  have e : s = 16 + r := by omega
  subst e
  obtain ⟨m1, m2⟩ := List.mem_filter.mp hs
  refine List.mem_filter.mpr ⟨m1, ?_⟩
  unfold slotB fld at *
  rw [b.out (ix 1 (((16 + r) / 8 : Nat) : Int)) (by unfold ix; omega) (by unfold ix; omega), b.out _ (by omega) (by omega)]
  exact m2
/-- kind 0 is 2 -/
theorem bent5 (b : Bent μ ν 64 2) : badK ν = true := by
  have e : ν (ix 1 0) = 2 := b.at_
  unfold badK
  rw [e]
  simp
/-- rights 9 -/
theorem bent3 (LI : LawIn pl ps lks) (h : Fin pl ps lks μ) (b : Bent μ ν 154 9) : chk ν (rqF ps) eqN = false := by
  have h3 := LI.ps1
  refine chk_cap (slot_in LI h b (by decide) (r := 3) (by decide) (by decide) ?_) ?_
  · rw [show fld μ ((2 + 5 * ((0 : Nat) : Int)) * 8 + ((3 : Nat) : Int)) 0 = 5 from h.slw (k := 0) (by omega) (by decide) (by decide) (by decide) (by decide) 0 (by decide)]
    decide
  · have e : fld ν ((16 + 3 : Nat) : Int) 2 = 9 := b.at_
    unfold capOk
    rw [e]
    rfl
end
end KX

namespace KX
open KA KQ
open PySem PySem.Spec L2 Evl
section
variable {pl : List (Int × Int)} {ps : List PtX} {lks : List Lnk} {μ ν : Mem}
theorem que_th {rq eq : Nat → List Int} {f : Nat} (hf : f ∈ fr ν 5) (h : thOk ν (allD ν rq eq) f = false) : chkQ ν rq eq = false := by
  have : ((fr ν 5).all (thOk ν (allD ν rq eq))) = false := by
    rw [List.all_eq_false]
    exact ⟨f, hf, by rw [h]; decide⟩
  unfold chkQ
  rw [this, Bool.and_false, Bool.and_false]
theorem que_rq {rq eq : Nat → List Int} {n : Nat} {t : Int} (hn : n ∈ rqL rq) (ht : t ∈ rq n) (h : rqOk ν n t = false) : chkQ ν rq eq = false := by
  have : ((rqL rq).all fun n => (rq n).all (rqOk ν n)) = false := by
    rw [List.all_eq_false]
    refine ⟨n, hn, ?_⟩
    have : (rq n).all (rqOk ν n) = false := by
      rw [List.all_eq_false]
      exact ⟨t, ht, by rw [h]; decide⟩
    rw [this]
    decide
  unfold chkQ
  rw [this, Bool.false_and]
theorem th0_in (LI : LawIn pl ps lks) (h : Fin pl ps lks μ) {i : Nat} {x : Int} (b : Bent μ ν i x) (hi : i ≠ 67) : 3 ∈ fr ν 5 := by
  have h3 := LI.ps1
  refine mem_fr.mpr ⟨by decide, ?_⟩
  have e : ix 1 ((3 : Nat) : Int) = 67 := by decide
  rw [b.out (ix 1 ((3 : Nat) : Int)) (by decide) (by rw [e]; exact Ne.symm hi)]
  exact (h.kd (k := 0) (by omega)).2.1
/-- a reply to one that is ready -/
theorem bent2 (LI : LawIn pl ps lks) (h : Fin pl ps lks μ) (b : Bent μ ν 213 4) : chk ν (rqF ps) eqN = false := by
  have h3 := LI.ps1
  have w := h.thw LI (k := 0) (by omega)
  refine chk_que (que_th (th0_in LI h b (by decide)) ?_)
  have e : ν (ix ((3 : Nat) : Int) 21) = 4 := b.at_
  have s : ν (ix 3 0) = 1 := (b.out (ix 3 0) (by decide) (by decide)).trans w.st
  unfold thOk
  rw [e]
  have : repOk ν (mayI 4) = false := by
    show (isT ν 3 && decide (ν (ix 3 0) = 5)) = false
    rw [s]
    exact Bool.and_false _
  rw [this, Bool.and_false]
/-- a state that is not ready -/
theorem bent6 (LI : LawIn pl ps lks) (h : Fin pl ps lks μ) (b : Bent μ ν 192 3) : chk ν (rqF ps) eqN = false := by
  have h3 := LI.ps1
  have g := LI.psg _ (getD_mem (d := p0) (show 0 < ps.length by omega))
  have gd := g.d
  have gp := g.pr
  have kb : 0 ≤ keyP ps 0 ∧ keyP ps 0 < 8 := by unfold keyP; omega
  obtain ⟨n, hn⟩ : ∃ n : Nat, keyP ps 0 = (n : Int) := ⟨(keyP ps 0).toNat, by omega⟩
  have hm : KA.th 0 ∈ rqF ps n := by
    unfold rqF
    rw [qin_filter]
    exact List.mem_map.mpr ⟨0, List.mem_filter.mpr ⟨List.mem_range.mpr (by omega), decide_eq_true hn⟩, rfl⟩
  refine chk_que (que_rq (n := n) (t := KA.th 0) (List.mem_filter.mpr ⟨List.mem_range.mpr (by omega), ?_⟩) hm ?_)
  · cases hq : rqF ps n with
    | nil => rw [hq] at hm; cases hm
    | cons a r => rfl
  · have e : ν (ix (KA.th 0) 0) = 3 := b.at_
    unfold rqOk
    rw [e, decide_eq_false (by decide), Bool.and_false, Bool.false_and]
/-- a capability that leads elsewhere -/
theorem bent7 (LI : LawIn pl ps lks) (h : Fin pl ps lks μ) (b : Bent μ ν 137 9) : chk ν (rqF ps) eqN = false := by
  have h3 := LI.ps1
  have k0 : fld μ ((2 + 5 * ((0 : Nat) : Int)) * 8 + ((1 : Nat) : Int)) 0 = 4 := h.slw (k := 0) (by omega) (by decide) (by decide) (by decide) (by decide) 0 (by decide)
  refine chk_cap (slot_in LI h b (by decide) (r := 1) (by decide) (by decide) (by rw [k0]; decide)) ?_
  have e1 : fld ν ((16 + 1 : Nat) : Int) 1 = 9 := b.at_
  have e0 : fld ν ((16 + 1 : Nat) : Int) 0 = 4 := (b.out _ (by decide) (by decide)).trans k0
  have em : ν (ix 1 9) ≠ 4 := by
    rw [b.out (ix 1 9) (by decide) (by decide)]
    have := h.kind (f := 9) (by decide)
    have this : μ (ix 1 9) = kindS ps.length lks 9 := this
    rw [this]
    intro z
    obtain ⟨k, hk, hf⟩ := kind4 LI z
    omega
  have el : lays ν ((16 + 1 : Nat) : Int) = false := by
    unfold lays
    rw [e0, e1, if_neg (by decide), decide_eq_false em, Bool.and_false]
  unfold capOk
  rw [el]
  simp
/-- a parent that is no slot -/
theorem bent8 (LI : LawIn pl ps lks) (h : Fin pl ps lks μ) (b : Bent μ ν 148 250) : chk ν (rqF ps) eqN = false := by
  have h3 := LI.ps1
  have k0 : fld μ ((2 + 5 * ((0 : Nat) : Int)) * 8 + ((2 : Nat) : Int)) 0 = 3 := h.slw (k := 0) (by omega) (by decide) (by decide) (by decide) (by decide) 0 (by decide)
  refine chk_cap (slot_in LI h b (by decide) (r := 2) (by decide) (by decide) (by rw [k0]; decide)) ?_
  have e4 : fld ν ((16 + 2 : Nat) : Int) 4 = 250 := b.at_
  have no : isS ν 249 = false := decide_eq_false fun z => by
    have hb := (List.mem_filter.mp z.2).2
    unfold slotB at hb
    rw [Bool.and_eq_true, decide_eq_true_eq] at hb
    have hb1 : ν (ix 1 31) = 4 := hb.1
    rw [b.out (ix 1 31) (by decide) (by decide)] at hb1
    have := h.kind (f := 31) (by decide)
    have this : μ (ix 1 31) = kindS ps.length lks 31 := this
    rw [this] at hb1
    obtain ⟨k, hk, hf⟩ := kind4 LI hb1
    omega
  unfold capOk
  rw [e4]
  have : parOk ν ((16 + 2 : Nat) : Int) (mayI 250) = false := by
    show (isS ν 249 && _) = false
    rw [no]
    rfl
  rw [this, Bool.and_false]
/-- an entry from no slot -/
theorem bent9 (LI : LawIn pl ps lks) (h : Fin pl ps lks μ) (b : Bent μ ν 258 40) : chk ν (rqF ps) eqN = false := by
  have h3 := LI.ps1
  have k3 : μ (ix 1 4) = 3 := (h.kd (k := 0) (by omega)).2.2.1
  have k3' : ν (ix 1 4) = 3 := (b.out (ix 1 4) (by decide) (by decide)).trans k3
  refine chk_tab (f := 4) (mem_fr.mpr ⟨by decide, k3'⟩) ?_
  have ea : eat ν ((4 : Nat) : Int) ((0 : Nat) : Int) = 0 := by
    have k3'' : ν (ix 1 ((4 : Nat) : Int)) = 3 := k3'
    unfold eat
    rw [k3'']
    rfl
  have w0 : ν (ix 4 0) = 6 := (b.out (ix 4 0) (by decide) (by decide)).trans ((h.pt 0 (by omega)).tb 0 (by decide))
  have w2 : ν (ix 4 2) = 40 := b.at_
  have no : isS ν 39 = false := decide_eq_false fun z => by
    have hb := (List.mem_filter.mp z.2).2
    unfold slotB at hb
    rw [Bool.and_eq_true, decide_eq_true_eq] at hb
    have hb1 : ν (ix 1 4) = 4 := hb.1
    rw [k3'] at hb1
    exact absurd hb1 (by decide)
  unfold tabOk
  rw [List.all_eq_false]
  refine ⟨0, List.mem_filter.mpr ⟨List.mem_range.mpr (by split <;> decide), ?_⟩, ?_⟩
  · rw [ea]
    have : ν (ix ((4 : Nat) : Int) (0 + 0)) = 6 := w0
    rw [this]
    rfl
  · rw [ea]
    have e2 : ν (ix ((4 : Nat) : Int) (0 + 2)) = 40 := w2
    rw [e2]
    unfold entOk capOr
    rw [show (40 : Int) - 1 = 39 by decide, no, if_neg (by decide)]
    show ¬ ((decide ((0 : Int) = 2) && _) && _) = true
    rw [decide_eq_false (by decide), Bool.false_and, Bool.false_and]
    decide
end
end KX

namespace KX
open KA KQ
open PySem PySem.Spec L2 Evl
section
variable {pl : List (Int × Int)} {ps : List PtX} {lks : List Lnk} {μ ν : Mem}
theorem kind67 (LI : LawIn pl ps lks) (h : Fin pl ps lks μ) {f : Nat} (hf : f < 32) (hk : μ (ix 1 (f : Int)) = 6 ∨ μ (ix 1 (f : Int)) = 7) : 7 ≤ f := by
  have h3 := LI.ps1
  rw [h.kind (by omega)] at hk
  unfold kindS at hk
  split at hk
  · have e : (f - 2) % 5 = 0 ∨ (f - 2) % 5 = 1 ∨ (f - 2) % 5 = 2 ∨ (f - 2) % 5 = 3 ∨ (f - 2) % 5 = 4 := by omega
    rcases e with e | e | e | e | e <;> rw [e] at hk <;> exact absurd hk (by decide)
  · split at hk
    · rename_i c
      omega
    · exact absurd hk (by decide)
/-- a head that is lost -/
theorem bent1 (LI : LawIn pl ps lks) (h : Fin pl ps lks μ) {n0 : Nat} (hn : keyP ps 0 = (n0 : Int)) (n8 : n0 < 8) (b : Bent μ ν (4 + n0) 0) : ∃ rq eq, QOk ν rq eq ∧ chk ν rq eq = false := by
  have h3 := LI.ps1
  have q := h.qok LI
  have ke : ∀ f : Nat, f < 32 → ν (ix 1 (f : Int)) = μ (ix 1 (f : Int)) := fun f hf => b.out _ (by unfold ix; omega) (by unfold ix; omega)
  refine ⟨fun n => if n = n0 then [] else rqF ps n, eqN, ⟨fun n hn8 => ?_, fun f hf hk => ⟨?_, Nat.zero_le _⟩, by rw [fr_frame ke]; exact q.dev⟩, ?_⟩
  · have ei : ix 0 (4 + (n : Int)) = 4 + n := by unfold ix; omega
    by_cases e : n = n0
    · subst e
      rw [if_pos rfl, ei, b.at_]
      exact ⟨rfl, Nat.zero_le _⟩
    · rw [if_neg e]
      refine ⟨?_, (q.rq_ n hn8).2⟩
      rw [b.out (ix 0 (4 + (n : Int))) (by omega) (by omega)]
      refine segI_frame (fun t ht => ?_) (q.rq_ n hn8).1
      obtain ⟨k, hk, rfl⟩ := List.mem_map.mp ht
      have := qin_lt hk
      exact b.out _ (by unfold ix KA.th; omega) (by unfold ix KA.th; omega)
  · rw [ke f hf] at hk
    have z := (q.eq_ f hf hk).1
    have := kind67 LI h hf hk
    show ν (ix (f : Int) 1) = 0
    rw [b.out _ (by unfold ix; omega) (by unfold ix; omega)]
    exact z
  · have w := h.thw LI (k := 0) (by omega)
    refine chk_que (que_th (th0_in LI h b (by omega)) ?_)
    have e192 : ix 3 0 = 192 := by decide
    have s0 : ν (ix 3 0) = 1 := (b.out (ix 3 0) (by decide) (by rw [e192]; omega)).trans w.st
    have s : ν (ix ((3 : Nat) : Int) 0) = 1 := s0
    have c0 : cnt ((3 : Nat) : Int) (allD ν (fun n => if n = n0 then [] else rqF ps n) eqN) = 0 := by
      unfold cnt allD
      have z : (eqL ν).flatMap eqN = [] := by
        induction eqL ν with
        | nil => rfl
        | cons x r ih => rw [List.flatMap_cons, ih]; rfl
      rw [z, List.append_nil]
      show (((((List.range 8).filter fun n => !((fun n => if n = n0 then [] else rqF ps n) n).isEmpty).flatMap (fun n => if n = n0 then [] else rqF ps n)).count (KA.th 0) : Nat) : Int) = 0
      rw [cnt_flat]
      have e1 : (List.range 8).map (fun (n : Nat) => ((if n = n0 then [] else rqF ps n : List Int)).count (KA.th 0)) = (List.range 8).map fun (n : Nat) => 0 := List.map_congr_left fun n _ => by
        by_cases e : n = n0
        · rw [if_pos e]
          rfl
        · rw [if_neg e]
          unfold rqF
          rw [cnt_map, qin_cnt, if_neg fun z => e (by have := z.2; omega)]
      rw [e1]
      rfl
    unfold thOk
    rw [c0, s]
    rfl
/-- a thread that is told an endpoint -/
theorem bent4 (LI : LawIn pl ps lks) (h : Fin pl ps lks μ) (b : Bent μ ν 67 6) : QOk ν (rqF ps) eqN ∧ chk ν (rqF ps) eqN = false := by
  have h3 := LI.ps1
  have q := h.qok LI
  have k6 : ν (ix 1 3) = 6 := b.at_
  have ke : ∀ f : Nat, f < 32 → f ≠ 3 → ν (ix 1 (f : Int)) = μ (ix 1 (f : Int)) := fun f hf n => b.out _ (by unfold ix; omega) (by unfold ix; omega)
  refine ⟨⟨fun n hn => ⟨?_, (q.rq_ n hn).2⟩, fun f hf hk => ⟨?_, Nat.zero_le _⟩, ?_⟩, ?_⟩
  · rw [b.out (ix 0 (4 + (n : Int))) (by unfold ix; omega) (by unfold ix; omega)]
    refine segI_frame (fun t ht => ?_) (q.rq_ n hn).1
    obtain ⟨k, hk, rfl⟩ := List.mem_map.mp ht
    have := qin_lt hk
    exact b.out _ (by unfold ix KA.th; omega) (by unfold ix KA.th; omega)
  · show ν (ix (f : Int) 1) = 0
    by_cases e : f = 3
    · subst e
      exact (b.out (ix 3 1) (by decide) (by decide)).trans (h.thw LI (k := 0) (by omega)).pc
    · rw [ke f hf e] at hk
      have z := (q.eq_ f hf hk).1
      have := kind67 LI h hf hk
      rw [b.out _ (by unfold ix; omega) (by unfold ix; omega)]
      exact z
  · unfold fr
    refine List.filter_eq_nil_iff.mpr fun f hf z => ?_
    have hf := List.mem_range.mp hf
    have z := V.int.inj (of_decide_eq_true z)
    by_cases e : f = 3
    · subst e
      have z : ν (ix 1 3) = 8 := z
      rw [k6] at z
      exact absurd z (by decide)
    · rw [ke f hf e, h.kind (by omega)] at z
      have := kindS_bd LI f
      omega
  · have k0 : fld μ ((2 + 5 * ((0 : Nat) : Int)) * 8 + ((3 : Nat) : Int)) 0 = 5 := h.slw (k := 0) (by omega) (by decide) (by decide) (by decide) (by decide) 0 (by decide)
    have k1 : fld μ ((2 + 5 * ((0 : Nat) : Int)) * 8 + ((3 : Nat) : Int)) 1 = 3 := h.slw (k := 0) (by omega) (by decide) (by decide) (by decide) (by decide) 1 (by decide)
    have e0 : fld ν ((19 : Nat) : Int) 0 = 5 := (b.out _ (by decide) (by decide)).trans k0
    have e1 : fld ν ((19 : Nat) : Int) 1 = 3 := (b.out _ (by decide) (by decide)).trans k1
    refine chk_cap (s := 19) (List.mem_filter.mpr ⟨by decide, ?_⟩) ?_
    · have k4 : ν (ix 1 2) = 4 := (b.out (ix 1 2) (by decide) (by decide)).trans (h.kd (k := 0) (by omega)).1
      have k4 : ν (ix 1 ((19 / 8 : Nat) : Int)) = 4 := k4
      unfold slotB
      rw [k4, e0]
      rfl
    · have el : lays ν ((19 : Nat) : Int) = false := by
        unfold lays
        rw [e0, e1, if_neg (by decide), k6]
        rfl
      unfold capOk
      rw [el]
      simp
/-- all that is bent is told -/
theorem bent_all (LI : LawIn pl ps lks) (h : Fin pl ps lks μ) (bd : Bd μ) : ∀ r ∈ RW ps, BentOk μ r := by
  have h3 := LI.ps1
  have g := LI.psg _ (getD_mem (d := p0) (show 0 < ps.length by omega))
  have gd := g.d
  have gp := g.pr
  intro r hr
  unfold RW RW1 RW2 at hr
  simp only [List.mem_append, List.mem_cons, List.not_mem_nil, or_false] at hr
  rcases hr with (rfl | rfl | rfl) | (rfl | rfl | rfl | rfl | rfl | rfl)
  · have kb : 0 ≤ keyP ps 0 ∧ keyP ps 0 < 8 := by unfold keyP; omega
    obtain ⟨n, hn⟩ : ∃ n : Nat, keyP ps 0 = (n : Int) := ⟨(keyP ps 0).toNat, by omega⟩
    have b : 0 ≤ (4 + (ps.getD 0 p0).d * 4 + (ps.getD 0 p0).pr) ∧ (4 + (ps.getD 0 p0).d * 4 + (ps.getD 0 p0).pr) < 2048 := by omega
    refine ⟨⟨b.1, b.2, by show (0 : Int) ≤ 0; decide, by show (0 : Int) < 65536; decide⟩, ?_⟩
    have B := bent_of bd (r := (4 + (ps.getD 0 p0).d * 4 + (ps.getD 0 p0).pr, 0)) ⟨b.1, b.2, by show (0 : Int) ≤ 0; decide, by show (0 : Int) < 65536; decide⟩
    have e : (4 + (ps.getD 0 p0).d * 4 + (ps.getD 0 p0).pr).toNat = 4 + n := by unfold keyP at hn; omega
    dsimp only at B
    rw [e] at B
    obtain ⟨rq, eq, q, c⟩ := bent1 LI h hn (by omega) B
    exact ⟨rq, eq, fun _ => q, c⟩
  · have B := bent_of bd (r := (213, 4)) (by decide)
    exact ⟨by decide, _, _, fun _ => qok_bent LI h B (by decide), bent2 LI h B⟩
  · have B := bent_of bd (r := (154, 9)) (by decide)
    exact ⟨by decide, _, _, fun _ => qok_bent LI h B (by decide), bent3 LI h B⟩
  · have B := bent_of bd (r := (67, 6)) (by decide)
    exact ⟨by decide, _, _, fun _ => (bent4 LI h B).1, (bent4 LI h B).2⟩
  · have B := bent_of bd (r := (64, 2)) (by decide)
    have bb := bent5 B
    exact ⟨by decide, rqF ps, eqN, ⟨fun z => absurd (bb.symm.trans z) (by decide), chk_bad bb⟩⟩
  · have B := bent_of bd (r := (192, 3)) (by decide)
    exact ⟨by decide, _, _, fun _ => qok_bent LI h B (by decide), bent6 LI h B⟩
  · have B := bent_of bd (r := (137, 9)) (by decide)
    exact ⟨by decide, _, _, fun _ => qok_bent LI h B (by decide), bent7 LI h B⟩
  · have B := bent_of bd (r := (148, 250)) (by decide)
    exact ⟨by decide, _, _, fun _ => qok_bent LI h B (by decide), bent8 LI h B⟩
  · have B := bent_of bd (r := (258, 40)) (by decide)
    exact ⟨by decide, _, _, fun _ => qok_bent LI h B (by decide), bent9 LI h B⟩
theorem law_facts : ∀ pl ps lks, LawIn pl ps lks → ∃ μ rq, Facts pl ps lks μ rq := fun pl ps lks LI => facts_of LI fun μ h bd => bent_all LI h bd
end
end KX

set_option maxHeartbeats 0

open PySem PySem.W PySem.Calls PyProof.Rows
theorem PySem.Challenge.cw_keptapart_k10_begins_and_wrong_memories_holds : PySem.Challenge.rw_keptapart_k10_begins_and_wrong_memories.Holds := by
  w_on; o_law
  refine HandSHeadRun.head_any (r := OpenLaw.row PySem.Challenge.rw_keptapart_k10_begins_and_wrong_memories) (q := view (OpenLaw.row PySem.Challenge.rw_keptapart_k10_begins_and_wrong_memories).prog [112]) (H := KA.hk) (ob := KA.ob) (M := 8000) (loose := KA.names) (d := HandSHeadRun.topDef (OpenLaw.row PySem.Challenge.rw_keptapart_k10_begins_and_wrong_memories).prog 112) (kwd := []) KA.ob_eq
    (by kernel_rfl) (fun s => by kernel_rfl) KA.run (by kernel_rfl) (by kernel_rfl) (by kernel_rfl) (by rfl) (by first | assumption | decide +kernel) (by decide +kernel) ⟨rfl, rfl, rfl, rfl, rfl, by decide +kernel⟩ ?hw ?hc
  case hw => w_witness2
  case hc =>
    refine LamX.walk_ofTsE (l := PySem.Challenge.rw_keptapart_k10_begins_and_wrong_memories) (n := 63) (k := 12) (x := "script") (CX := fun _ => L2.CX0) rfl (by decide) (by kernel_rfl) ⟨rfl, by decide, by decide⟩ ?F (fun _ _ _ _ _ z => z)
    intro w mg fa h Y G hmg0
    obtain ⟨K, KIn, c, c1, Pt, hcd, hCH, hPt⟩ := Y
    have hmg : mg ("law" : PySem.Str) = some (.ref fa) := by
      have e : (HandSHeadRun.topDef (OpenLaw.row PySem.Challenge.rw_keptapart_k10_begins_and_wrong_memories).prog 112).name = ("law" : PySem.Str) := by kernel_rfl
      rw [← e]
      exact hmg0
    have T : KA.Txt K mg := KA.Txt.of KIn G c
    have e := hmg.symm.trans T.glo_law
    cases e
    have b := L2.FunD.bindsA (ps := ["script"]) T.fn_law fun _ _ _ _ _ _ us hl => match us, hl with | [_], _ => rfl
    refine ⟨K, KIn, KA.fd_law K, [(c1, Pt)], KX.sp_law K Pt, fun p hp => ?_, fun p hp => ?_, fun p hp => ?_, fun s v => b s [v] rfl, fun H a ns hl _ hT hS => ⟨a, ns, rfl, hS, hl, hT (c1, Pt) (List.mem_singleton.mpr rfl), fun _ => rfl⟩, fun base _ _ TB => KX.ok_law KX.law_facts T hcd (TB (c1, Pt) (List.mem_singleton.mpr rfl))⟩
    · rw [List.mem_singleton.mp hp]; exact hPt
    · rw [List.mem_singleton.mp hp]; exact KA.noTab KIn (KA.noTabs_of T) hPt
    · rw [List.mem_singleton.mp hp]; exact hCH

