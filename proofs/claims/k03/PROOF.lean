import PyProof.Rows.All
import Wide.All
import OpenK.AllK
import Wide.FinOn
import HandS.ForMost
import HandS.ForExc
import HandS.Defaults
import HandS.Flow
import HandS.Style
import HandS.Strs
import HandS.Steps
import HandS.Evl
import HandS.TupAny
import HandS.SortInts
import HandS.CallSlots
import HandS.ExcInit
import HandS.ExcField
import HandS.TryMany
import KE.KExcSuper
import HandS.Head0
import HandS.Head1
import HandS.Head2
import HandS.HeadEnd
import HandS.HeadHook1
import HandS.HeadHook2
import HandS.HeadHook3
import PySem.Challenge.RW_keptapart_k03_instructions_and_texts
set_option Elab.async false
set_option linter.all false
set_option maxRecDepth 100000
set_option maxHeartbeats 4000000

namespace KA
open PySem PySem.Spec PyProof.Rows L2

/-! ### the head's facts: what hookD tells, a row of Bools, defs with a closure -/
abbrev CloV : Type := Option (Str × Str × Arguments × FuncBody × Scope × Addr × List Str × Addr)
def cloObs (K : PySem.W.Frag) (p : Str × Option Str) : CloV := match K.lookup (He.fAd K p) with
  | some ⟨_, _, .func fd, _⟩ => some (fd.name, fd.qualname, fd.params, fd.body, fd.scope, fd.globals, fd.closure.map (·.1), fd.builtins)
  | _ => none
structure CloD where
  at_ : Str × Option Str
  name : Str
  qual : Str
  st : Stmt
  clo : List Str
def CloD.val (d : CloD) : CloV := some (d.name, d.qual, defArgs d.st, .stmts (defBody d.st), defScope d.st, mainGlobals, d.clo, builtinsNs)
def asY (g : Addr → Option Obj) : Nat → List Addr
  | 0 => [mainGlobals, cStatics]
  | n + 1 => He.growD g (asY g n)
abbrev AlY : Type := He.AlD × Bool × List CloV
def obsK (fa : List He.Fa) (fn : List He.DefD) (cl : List CloD) (ex : PySem.W.Frag → List Bool) (K : PySem.W.Frag) : AlY := (He.obsD fa fn K, (ex K).all id, cl.map fun d => cloObs K d.at_)
def obsY (n : Nat) (fa : List He.Fa) (fn : List He.DefD) (cl : List CloD) (ex : PySem.W.Frag → List Bool) (g : Addr → Option Obj) : AlY := obsK fa fn cl ex (He.frG g (asY g n))
def valY (fn : List He.DefD) (cl : List CloD) : AlY := (He.valD fn, true, cl.map CloD.val)
def hookY (n : Nat) (fa : List He.Fa) (fn : List He.DefD) (cl : List CloD) (ex : PySem.W.Frag → List Bool) : PySem.W.Hook where
  α := AlY
  obs := fun s => obsY n fa fn cl ex s.heap.get?
  val := fun _ => valY fn cl
  says := fun _ h => ∃ K : PySem.W.Frag, K.In h ∧ obsK fa fn cl ex K = valY fn cl
  of := fun _ _ e => ⟨_, He.frG_in, e⟩
  keeps := fun _ _ _ ⟨K, hK, c⟩ k => ⟨K, PySem.W.Frag.In.keeps hK k, c⟩
theorem obsY_eq {n : Nat} {fa : List He.Fa} {fn : List He.DefD} {cl : List CloD} {ex : PySem.W.Frag → List Bool} {g : Addr → Option Obj} {s : Shared} (h : ∀ a, g a = s.heap.get? a) : obsY n fa fn cl ex g = (hookY n fa fn cl ex).obs s := by
  have e : g = s.heap.get? := funext h
  rw [e] <;> rfl

/-! ### an own error whose __init__ says super().__init__(..): its facts -/
def oexB (K : PySem.W.Frag) (C : Addr) : Bool := (match K.lookup C with
  | some ⟨.type "type", _, .cls cd, sl⟩ => (match cd.mro, sl.toList with
    | .ref C' :: bm, [_, _, _, _, some (.builtin n), _] => C' == C && n == "ValueError.__new__" && !cd.hasDel && cd.hasDict && PySem.HandSPX.refsVE bm
    | _, _ => false)
  | _ => false) && (decide (PySem.W.findIn K (.ref C) "__setattr__" = some (some (.builtin "object.__setattr__"))) && (decide (PySem.W.subIn K (.ref C) (.type "BaseException") = some true) && (decide (PySem.W.typeIn K (.ref C) = some (.type "type")) && PySem.W.keepIn K (.ref C))))
theorem oexB_ok {K : PySem.W.Frag} {C : Addr} (q : oexB K C = true) : OexC K C := by
  obtain ⟨q1, q⟩ := He.ba q
  obtain ⟨q2, q⟩ := He.ba q
  obtain ⟨q3, q⟩ := He.ba q
  obtain ⟨q4, q5⟩ := He.ba q
  refine ⟨?_, of_decide_eq_true q2, of_decide_eq_true q3, of_decide_eq_true q4, q5⟩
  split at q1
  · rename_i dd cd sl ho
    split at q1
    · rename_i C' bm k0 k1 k2 k3 n k5 hm hs
      simp only [Bool.and_eq_true, beq_iff_eq, Bool.not_eq_true'] at q1
      obtain ⟨⟨⟨⟨rfl, rfl⟩, hdel⟩, hdict⟩, ht⟩ := q1
      obtain ⟨nm, bs, mro, ns, qn, hd, sn, sub, ab, col, del⟩ := cd
      dsimp only at hm hdel hdict
      subst hm hdel hdict
      have hsl : sl = #[k0, k1, k2, k3, some (.builtin "ValueError.__new__"), k5] := by
        obtain ⟨l⟩ := sl
        simp only at hs
        rw [hs]
      subst hsl
      exact ⟨nm, qn, ns, bs, bm, sn, sub, ab, col, dd, k0, k1, k2, k3, k5, ho, ht⟩
    · cases q1
  · cases q1
def cellRef (o : Option Obj) : Option Addr := match o with
  | some ⟨_, _, .cell (some (.ref D)), _⟩ => some D
  | _ => none
theorem cellRef_ok {o : Option Obj} {D : Addr} (h : cellRef o = some D) : ∃ a b c, o = some ⟨a, b, .cell (some (.ref D)), c⟩ := by
  unfold cellRef at h
  split at h
  · cases h; exact ⟨_, _, _, rfl⟩
  · cases h
def codeFile (o : Option Obj) : Option Str := match o with
  | some ⟨_, _, .fields vs, _⟩ => (match vs[2]? with
    | some (Value.str file _) => some file
    | _ => none)
  | _ => none
theorem codeFile_ok {o : Option Obj} {z : Str} (h : codeFile o = some z) : ∃ a b vs c tf, o = some ⟨a, b, .fields vs, c⟩ ∧ vs[2]? = some (.str z tf) := by
  unfold codeFile at h
  split at h
  · split at h
    · rename_i e
      cases h
      exact ⟨_, _, _, _, _, rfl, e⟩
    · cases h
  · cases h
def cloOne (fd : FuncData) : Option (Addr × Addr) := match fd.closure, fd.code, fd.defaults with
  | [(_, cc)], .ref cda, .none => some (cc, cda)
  | _, _, _ => none
theorem cloOne_ok {fd : FuncData} {cc cda : Addr} (h : cloOne fd = some (cc, cda)) : ∃ x, fd.closure = [(x, cc)] ∧ fd.code = .ref cda ∧ fd.defaults = .none := by
  unfold cloOne at h
  split at h
  · rename_i e1 e2 e3
    cases h
    exact ⟨_, e1, e2, e3⟩
  · cases h
def fdAt (o : Option Obj) : Option FuncData := match o with
  | some ⟨_, _, .func fd, _⟩ => some fd
  | _ => none
theorem fdAt_ok {o : Option Obj} {fd : FuncData} (h : fdAt o = some fd) : ∃ a b c, o = some ⟨a, b, .func fd, c⟩ := by
  unfold fdAt at h
  split at h
  · cases h; exact ⟨_, _, _, rfl⟩
  · cases h
def supB (K : PySem.W.Frag) (mfile : Str) (mscope : Scope) (C : Str) (qual : Str) : Bool :=
  (match fdAt (K.lookup (He.ma K (He.ga K C) "__init__")) with
  | some fd => (match cloOne fd with
    | some (cc, cda) => PySem.W.codeIn K (.ref cda) qual && (decide (codeFile (K.lookup cda) = some mfile) && decide (cellRef (K.lookup cc) = some (He.ga K C)))
    | none => false)
  | none => false) && ((PySem.W.clsIn K (He.ga K C)).isSome && (decide (PySem.W.mroIn K (He.ga K C) (.ref (He.ga K C)) = some true) && (decide (PySem.W.subIn K (.ref (He.ga K C)) (.type "ValueError") = some true) &&
    (decide (PySem.W.nsIn K mainGlobals "super" = some none) && (decide (PySem.W.nsIn K cStatics "thirdparty.any" = some none) && (decide (PySem.W.ks_superIn K (He.ga K C) (He.ga K C) "__init__" = some (some (.builtin "ValueError.__init__"))) &&
    ((mscope.names.lookup ("super" : Str)).isNone && (decide (PySem.W.findIn K (.ref (He.ga K C)) "__init__" = some (some (.ref (He.ma K (He.ga K C) "__init__")))) && decide (PySem.W.typeIn K (.ref (He.ma K (He.ga K C) "__init__")) = some (.type "function"))))))))))
def Fa.exm1 (K : PySem.W.Frag) (C : Str) : Bool := decide (PySem.W.exmOne K (.ref (He.ga K C)) (.ref (He.ga K C)) = some true)
def top (i : Nat) : Stmt := PySem.Challenge.pw_keptapart_k03_instructions_and_texts.main.body.getD i (.Pass ⟨0, 0, 0, 0⟩)
abbrev s_word_of : Stmt := top 7
abbrev sc_word_of_N : List Str := ["op", "a", "b", "c"]
abbrev s_parts_of : Stmt := top 8
abbrev sc_parts_of_N : List Str := ["word"]
abbrev s_row_of : Stmt := top 9
abbrev sc_row_of_N : List Str := ["word", "op", "a", "b", "c", "name", "text"]
abbrev s_number_in : Stmt := top 10
abbrev sc_number_in_N : List Str := ["text", "most", "sign"]
abbrev s_register_in : Stmt := top 11
abbrev sc_register_in_N : List Str := ["text"]
abbrev s_word_in : Stmt := top 12
abbrev sc_word_in_N : List Str := ["text", "words", "op", "rest", "own", "number", "a", "b", "c"]
abbrev s_code_in : Stmt := top 13
abbrev sc_code_in_N : List Str := ["text", "found", "line", "row", "word"]
abbrev s_text_of : Stmt := top 14
abbrev sc_text_of_N : List Str := ["words", "word"]
abbrev s_law_tape : Stmt := top 16
abbrev sc_law_tape_N : List Str := ["script", "cells", "cell", "seed"]
abbrev s_law_take : Stmt := top 17
abbrev sc_law_take_N : List Str := ["tape", "many", "drawn", "mixed"]
abbrev s_law : Stmt := top 18
abbrev sc_law_N : List Str := ["script", "tape", "words", "k", "word", "op", "a", "b", "c", "text", "n", "own", "name", "row", "bad", "wrong", "at", "e"]
abbrev s_InvalidCode_init : Stmt := inClass (top 2) 0
def cl : List CloD := [⟨("InvalidCode", some "__init__"), "__init__", "InvalidCode.__init__", s_InvalidCode_init, ["__class__"]⟩]
def fn : List He.DefD := [
  ⟨("word_of", none), "word_of", "word_of", defArgs s_word_of, defBody s_word_of, defScope s_word_of, [], []⟩,
  ⟨("parts_of", none), "parts_of", "parts_of", defArgs s_parts_of, defBody s_parts_of, defScope s_parts_of, [], []⟩,
  ⟨("row_of", none), "row_of", "row_of", defArgs s_row_of, defBody s_row_of, defScope s_row_of, [], []⟩,
  ⟨("number_in", none), "number_in", "number_in", defArgs s_number_in, defBody s_number_in, defScope s_number_in, [], []⟩,
  ⟨("register_in", none), "register_in", "register_in", defArgs s_register_in, defBody s_register_in, defScope s_register_in, [], []⟩,
  ⟨("word_in", none), "word_in", "word_in", defArgs s_word_in, defBody s_word_in, defScope s_word_in, [], []⟩,
  ⟨("code_in", none), "code_in", "code_in", defArgs s_code_in, defBody s_code_in, defScope s_code_in, [], []⟩,
  ⟨("text_of", none), "text_of", "text_of", defArgs s_text_of, defBody s_text_of, defScope s_text_of, [], []⟩,
  ⟨("_law_tape", none), "_law_tape", "_law_tape", defArgs s_law_tape, defBody s_law_tape, defScope s_law_tape, [], []⟩,
  ⟨("_law_take", none), "_law_take", "_law_take", defArgs s_law_take, defBody s_law_take, defScope s_law_take, [], []⟩,
  ⟨("law", none), "law", "law", defArgs s_law, defBody s_law, defScope s_law, [], []⟩]
def fa : List He.Fa := [
  .glo "word_of",
  .glo "parts_of",
  .glo "row_of",
  .glo "number_in",
  .glo "register_in",
  .glo "word_in",
  .glo "code_in",
  .glo "text_of",
  .glo "_law_tape",
  .glo "_law_take",
  .glo "law",
  .glo "ApartError",
  .glo "InvalidCode",
  .glo "NAMES",
  .glo "TRAPS",
  .str "DIGITS" "0123456789",
  .free "ValueError",
  .free "abs",
  .free "all",
  .free "enumerate",
  .free "int",
  .free "len",
  .free "range",
  .free "str",
  .free "super",
  .free "tuple"]
def tupB2 (K : PySem.W.Frag) (x : Str) (vs : List He.Dv) : Bool := He.tupB K x vs && (match K.lookup (He.ga K x) with | some o => o.dict.isNone && decide (o.cls = .type "tuple") | none => false)
def exs (K : PySem.W.Frag) : List Bool := [tupB2 K "NAMES" [.str "halt", .str "set", .str "add", .str "sub", .str "load", .str "store", .str "jump", .str "zero", .str "mul", .str "less", .str "trap", .str "and"], tupB2 K "TRAPS" [.str "yield", .str "send", .str "receive", .str "call", .str "reply", .str "signal", .str "wait", .str "mint", .str "move", .str "revoke", .str "delete", .str "retype", .str "map", .str "unmap", .str "bind", .str "resume", .str "suspend", .str "registers", .str "order", .str "status"], oexB K (He.ga K "InvalidCode"), supB K PySem.Challenge.pw_keptapart_k03_instructions_and_texts.main.file PySem.Challenge.pw_keptapart_k03_instructions_and_texts.main.scope "InvalidCode" "InvalidCode.__init__", decide (PySem.W.findIn K (.ref (He.ga K "InvalidCode")) "line" = some none), (Fa.exm1 K "InvalidCode"), xfB K (He.ga K "InvalidCode")]
def fdO (K : PySem.W.Frag) (p : Str × Option Str) : FuncData := match K.lookup (He.fAd K p) with
  | some ⟨_, _, .func fd, _⟩ => fd
  | _ => default
theorem fdO_eq {K : PySem.W.Frag} {p : Str × Option Str} {oc : Value} {od : Option Addr} {fd : FuncData} {osl : Array (Option Value)} (h : K.lookup (He.fAd K p) = some ⟨oc, od, .func fd, osl⟩) : fdO K p = fd := by
  unfold fdO
  rw [h]
abbrev FnP (K : PySem.W.Frag) (x qual : Str) (st : Stmt) (f : Addr) (fd : FuncData) : Prop := FunD K x qual (defArgs st) (defBody st) (defScope st) [] [] f fd
/-- what the top has written -/
structure Txt (K : PySem.W.Frag) (mg : Str → Option Value) : Prop where
  ex : ∃ h : Heap, K.In h ∧ h.Ns mainGlobals mg ∧ He.SaysD fa fn K ∧ (exs K).all id = true ∧ cl.map (fun d => cloObs K d.at_) = cl.map CloD.val
section
variable {K : PySem.W.Frag} {mg : Str → Option Value}
theorem Txt.fact (T : Txt K mg) (i : Nat) {f : He.Fa} (h : fa[i]? = some f := by rfl) : f.ok K = true := by
  obtain ⟨_, _, _, c, _, _⟩ := T.ex
  exact c.fact i h
theorem Txt.glo (T : Txt K mg) (i : Nat) {x : Str} (h : fa[i]? = some (.glo x) := by rfl) : mg x = some (.ref (He.ga K x)) := by
  obtain ⟨_, X, G, c, _, _⟩ := T.ex
  exact He.glo_ok X G (c.fact i h)
theorem Txt.free_at (T : Txt K mg) (i : Nat) {x : Str} (h : fa[i]? = some (.free x)) : mg x = none := by
  obtain ⟨_, X, G, c, _, _⟩ := T.ex
  exact He.free_ok X G (c.fact i h)
theorem Txt.int (T : Txt K mg) (i : Nat) {x : Str} {n : Int} (h : fa[i]? = some (.int x n) := by rfl) : ∃ t, mg x = some (.int n t) := by
  obtain ⟨_, X, G, c, _, _⟩ := T.ex
  exact He.int_ok X G (c.fact i h)
theorem Txt.str (T : Txt K mg) (i : Nat) {x z : Str} (h : fa[i]? = some (.str x z) := by rfl) : ∃ t, mg x = some (.str z t) := by
  obtain ⟨_, X, G, c, _, _⟩ := T.ex
  exact He.str_ok X G (c.fact i h)
theorem Txt.exi (T : Txt K mg) (i : Nat) {b : Bool} (h : (exs K)[i]? = some b) : b = true := by
  obtain ⟨_, _, _, _, c, _⟩ := T.ex
  exact List.all_eq_true.mp c b (List.mem_of_getElem? h)
theorem Txt.fun_ (T : Txt K mg) (i : Nat) {d : He.DefD} (h : fn[i]? = some d := by rfl) : FunD K d.name d.qual d.params d.body d.scope (d.dvs K) (d.kws K) (He.fAd K d.at_) (fdO K d.at_) := by
  obtain ⟨_, _, _, c, _, _⟩ := T.ex
  obtain ⟨fd, F⟩ := c.def_ i h
  obtain ⟨oc, od, dV, kV, doc, pm, an, cdv, ct, osl, e, lk, r⟩ := F.ex
  rw [fdO_eq lk]
  exact F
theorem Txt.of {h : Heap} (X : K.In h) (G : h.Ns mainGlobals mg) (e : obsK fa fn cl exs K = valY fn cl) : Txt K mg := ⟨⟨h, X, G, congrArg (fun z : AlY => z.1) e, congrArg (fun z : AlY => z.2.1) e, congrArg (fun z : AlY => z.2.2) e⟩⟩
theorem Txt.clo (T : Txt K mg) (i : Nat) {d : CloD} (h : cl[i]? = some d := by rfl) : cloObs K d.at_ = d.val := by
  obtain ⟨_, _, _, _, _, e⟩ := T.ex
  have e2 : (cl.map fun d => cloObs K d.at_)[i]? = (cl.map CloD.val)[i]? := by rw [e]
  rw [List.getElem?_map, List.getElem?_map, h] at e2
  exact Option.some.inj e2
theorem Txt.more (T : Txt K mg) (i : Nat) {b : Bool} (h : (exs K)[i]? = some b := by rfl) : b = true := T.exi i h
-- the Bools beside begin at 2
abbrev f_word_of (K : PySem.W.Frag) : Addr := He.fAd K ("word_of", none)
abbrev fd_word_of (K : PySem.W.Frag) : FuncData := fdO K ("word_of", none)
theorem Txt.fn_word_of (T : Txt K mg) : FnP K "word_of" "word_of" s_word_of (f_word_of K) (fd_word_of K) := T.fun_ 0
theorem Txt.kp_word_of (T : Txt K mg) : PySem.W.keepIn K (.ref (f_word_of K)) = true := T.fn_word_of.kp
theorem Txt.bd_word_of (T : Txt K mg) : Binds K (fd_word_of K) ["op", "a", "b", "c"] [] := T.fn_word_of.bindsN fun _ _ _ _ _ _ us hl => match us, hl with | [_, _, _, _], _ => rfl
theorem Txt.glo_word_of (T : Txt K mg) : mg "word_of" = some (.ref (f_word_of K)) := T.glo 0
theorem sc_word_of : FnScope sc_word_of_N ["op", "a", "b", "c"] (defScope s_word_of) := ⟨rfl, rfl, rfl, by decide +kernel, rfl, by decide +kernel, by decide +kernel⟩
abbrev f_parts_of (K : PySem.W.Frag) : Addr := He.fAd K ("parts_of", none)
abbrev fd_parts_of (K : PySem.W.Frag) : FuncData := fdO K ("parts_of", none)
theorem Txt.fn_parts_of (T : Txt K mg) : FnP K "parts_of" "parts_of" s_parts_of (f_parts_of K) (fd_parts_of K) := T.fun_ 1
theorem Txt.kp_parts_of (T : Txt K mg) : PySem.W.keepIn K (.ref (f_parts_of K)) = true := T.fn_parts_of.kp
theorem Txt.bd_parts_of (T : Txt K mg) : Binds K (fd_parts_of K) ["word"] [] := T.fn_parts_of.bindsN fun _ _ _ _ _ _ us hl => match us, hl with | [_], _ => rfl
theorem Txt.glo_parts_of (T : Txt K mg) : mg "parts_of" = some (.ref (f_parts_of K)) := T.glo 1
theorem sc_parts_of : FnScope sc_parts_of_N ["word"] (defScope s_parts_of) := ⟨rfl, rfl, rfl, by decide +kernel, rfl, by decide +kernel, by decide +kernel⟩
abbrev f_row_of (K : PySem.W.Frag) : Addr := He.fAd K ("row_of", none)
abbrev fd_row_of (K : PySem.W.Frag) : FuncData := fdO K ("row_of", none)
theorem Txt.fn_row_of (T : Txt K mg) : FnP K "row_of" "row_of" s_row_of (f_row_of K) (fd_row_of K) := T.fun_ 2
theorem Txt.kp_row_of (T : Txt K mg) : PySem.W.keepIn K (.ref (f_row_of K)) = true := T.fn_row_of.kp
theorem Txt.bd_row_of (T : Txt K mg) : Binds K (fd_row_of K) ["word"] [] := T.fn_row_of.bindsN fun _ _ _ _ _ _ us hl => match us, hl with | [_], _ => rfl
theorem Txt.glo_row_of (T : Txt K mg) : mg "row_of" = some (.ref (f_row_of K)) := T.glo 2
theorem sc_row_of : FnScope sc_row_of_N ["word"] (defScope s_row_of) := ⟨rfl, rfl, rfl, by decide +kernel, rfl, by decide +kernel, by decide +kernel⟩
abbrev f_number_in (K : PySem.W.Frag) : Addr := He.fAd K ("number_in", none)
abbrev fd_number_in (K : PySem.W.Frag) : FuncData := fdO K ("number_in", none)
theorem Txt.fn_number_in (T : Txt K mg) : FnP K "number_in" "number_in" s_number_in (f_number_in K) (fd_number_in K) := T.fun_ 3
theorem Txt.kp_number_in (T : Txt K mg) : PySem.W.keepIn K (.ref (f_number_in K)) = true := T.fn_number_in.kp
theorem Txt.bd_number_in (T : Txt K mg) : Binds K (fd_number_in K) ["text", "most"] [] := T.fn_number_in.bindsN fun _ _ _ _ _ _ us hl => match us, hl with | [_, _], _ => rfl
theorem Txt.glo_number_in (T : Txt K mg) : mg "number_in" = some (.ref (f_number_in K)) := T.glo 3
theorem sc_number_in : FnScope sc_number_in_N ["text", "most"] (defScope s_number_in) := ⟨rfl, rfl, rfl, by decide +kernel, rfl, by decide +kernel, by decide +kernel⟩
abbrev f_register_in (K : PySem.W.Frag) : Addr := He.fAd K ("register_in", none)
abbrev fd_register_in (K : PySem.W.Frag) : FuncData := fdO K ("register_in", none)
theorem Txt.fn_register_in (T : Txt K mg) : FnP K "register_in" "register_in" s_register_in (f_register_in K) (fd_register_in K) := T.fun_ 4
theorem Txt.kp_register_in (T : Txt K mg) : PySem.W.keepIn K (.ref (f_register_in K)) = true := T.fn_register_in.kp
theorem Txt.bd_register_in (T : Txt K mg) : Binds K (fd_register_in K) ["text"] [] := T.fn_register_in.bindsN fun _ _ _ _ _ _ us hl => match us, hl with | [_], _ => rfl
theorem Txt.glo_register_in (T : Txt K mg) : mg "register_in" = some (.ref (f_register_in K)) := T.glo 4
theorem sc_register_in : FnScope sc_register_in_N ["text"] (defScope s_register_in) := ⟨rfl, rfl, rfl, by decide +kernel, rfl, by decide +kernel, by decide +kernel⟩
abbrev f_word_in (K : PySem.W.Frag) : Addr := He.fAd K ("word_in", none)
abbrev fd_word_in (K : PySem.W.Frag) : FuncData := fdO K ("word_in", none)
theorem Txt.fn_word_in (T : Txt K mg) : FnP K "word_in" "word_in" s_word_in (f_word_in K) (fd_word_in K) := T.fun_ 5
theorem Txt.kp_word_in (T : Txt K mg) : PySem.W.keepIn K (.ref (f_word_in K)) = true := T.fn_word_in.kp
theorem Txt.bd_word_in (T : Txt K mg) : Binds K (fd_word_in K) ["text"] [] := T.fn_word_in.bindsN fun _ _ _ _ _ _ us hl => match us, hl with | [_], _ => rfl
theorem Txt.glo_word_in (T : Txt K mg) : mg "word_in" = some (.ref (f_word_in K)) := T.glo 5
theorem sc_word_in : FnScope sc_word_in_N ["text"] (defScope s_word_in) := ⟨rfl, rfl, rfl, by decide +kernel, rfl, by decide +kernel, by decide +kernel⟩
abbrev f_code_in (K : PySem.W.Frag) : Addr := He.fAd K ("code_in", none)
abbrev fd_code_in (K : PySem.W.Frag) : FuncData := fdO K ("code_in", none)
theorem Txt.fn_code_in (T : Txt K mg) : FnP K "code_in" "code_in" s_code_in (f_code_in K) (fd_code_in K) := T.fun_ 6
theorem Txt.kp_code_in (T : Txt K mg) : PySem.W.keepIn K (.ref (f_code_in K)) = true := T.fn_code_in.kp
theorem Txt.bd_code_in (T : Txt K mg) : Binds K (fd_code_in K) ["text"] [] := T.fn_code_in.bindsN fun _ _ _ _ _ _ us hl => match us, hl with | [_], _ => rfl
theorem Txt.glo_code_in (T : Txt K mg) : mg "code_in" = some (.ref (f_code_in K)) := T.glo 6
theorem sc_code_in : FnScope sc_code_in_N ["text"] (defScope s_code_in) := ⟨rfl, rfl, rfl, by decide +kernel, rfl, by decide +kernel, by decide +kernel⟩
abbrev f_text_of (K : PySem.W.Frag) : Addr := He.fAd K ("text_of", none)
abbrev fd_text_of (K : PySem.W.Frag) : FuncData := fdO K ("text_of", none)
theorem Txt.fn_text_of (T : Txt K mg) : FnP K "text_of" "text_of" s_text_of (f_text_of K) (fd_text_of K) := T.fun_ 7
theorem Txt.kp_text_of (T : Txt K mg) : PySem.W.keepIn K (.ref (f_text_of K)) = true := T.fn_text_of.kp
theorem Txt.bd_text_of (T : Txt K mg) : Binds K (fd_text_of K) ["words"] [] := T.fn_text_of.bindsN fun _ _ _ _ _ _ us hl => match us, hl with | [_], _ => rfl
theorem Txt.glo_text_of (T : Txt K mg) : mg "text_of" = some (.ref (f_text_of K)) := T.glo 7
theorem sc_text_of : FnScope sc_text_of_N ["words"] (defScope s_text_of) := ⟨rfl, rfl, rfl, by decide +kernel, rfl, by decide +kernel, by decide +kernel⟩
abbrev f_law_tape (K : PySem.W.Frag) : Addr := He.fAd K ("_law_tape", none)
abbrev fd_law_tape (K : PySem.W.Frag) : FuncData := fdO K ("_law_tape", none)
theorem Txt.fn_law_tape (T : Txt K mg) : FnP K "_law_tape" "_law_tape" s_law_tape (f_law_tape K) (fd_law_tape K) := T.fun_ 8
theorem Txt.kp_law_tape (T : Txt K mg) : PySem.W.keepIn K (.ref (f_law_tape K)) = true := T.fn_law_tape.kp
theorem Txt.bd_law_tape (T : Txt K mg) : Binds K (fd_law_tape K) ["script"] [] := T.fn_law_tape.bindsN fun _ _ _ _ _ _ us hl => match us, hl with | [_], _ => rfl
theorem Txt.glo_law_tape (T : Txt K mg) : mg "_law_tape" = some (.ref (f_law_tape K)) := T.glo 8
theorem sc_law_tape : FnScope sc_law_tape_N ["script"] (defScope s_law_tape) := ⟨rfl, rfl, rfl, by decide +kernel, rfl, by decide +kernel, by decide +kernel⟩
abbrev f_law_take (K : PySem.W.Frag) : Addr := He.fAd K ("_law_take", none)
abbrev fd_law_take (K : PySem.W.Frag) : FuncData := fdO K ("_law_take", none)
theorem Txt.fn_law_take (T : Txt K mg) : FnP K "_law_take" "_law_take" s_law_take (f_law_take K) (fd_law_take K) := T.fun_ 9
theorem Txt.kp_law_take (T : Txt K mg) : PySem.W.keepIn K (.ref (f_law_take K)) = true := T.fn_law_take.kp
theorem Txt.bd_law_take (T : Txt K mg) : Binds K (fd_law_take K) ["tape", "many"] [] := T.fn_law_take.bindsN fun _ _ _ _ _ _ us hl => match us, hl with | [_, _], _ => rfl
theorem Txt.glo_law_take (T : Txt K mg) : mg "_law_take" = some (.ref (f_law_take K)) := T.glo 9
theorem sc_law_take : FnScope sc_law_take_N ["tape", "many"] (defScope s_law_take) := ⟨rfl, rfl, rfl, by decide +kernel, rfl, by decide +kernel, by decide +kernel⟩
abbrev f_law (K : PySem.W.Frag) : Addr := He.fAd K ("law", none)
abbrev fd_law (K : PySem.W.Frag) : FuncData := fdO K ("law", none)
theorem Txt.fn_law (T : Txt K mg) : FnP K "law" "law" s_law (f_law K) (fd_law K) := T.fun_ 10
theorem Txt.kp_law (T : Txt K mg) : PySem.W.keepIn K (.ref (f_law K)) = true := T.fn_law.kp
theorem Txt.bd_law (T : Txt K mg) : Binds K (fd_law K) ["script"] [] := T.fn_law.bindsN fun _ _ _ _ _ _ us hl => match us, hl with | [_], _ => rfl
theorem Txt.glo_law (T : Txt K mg) : mg "law" = some (.ref (f_law K)) := T.glo 10
theorem sc_law : FnScope sc_law_N ["script"] (defScope s_law) := ⟨rfl, rfl, rfl, by decide +kernel, rfl, by decide +kernel, by decide +kernel⟩
theorem Txt.glo_ApartError (T : Txt K mg) : mg "ApartError" = some (.ref (He.ga K "ApartError")) := T.glo 11
theorem Txt.glo_InvalidCode (T : Txt K mg) : mg "InvalidCode" = some (.ref (He.ga K "InvalidCode")) := T.glo 12
theorem Txt.glo_NAMES (T : Txt K mg) : mg "NAMES" = some (.ref (He.ga K "NAMES")) := T.glo 13
theorem Txt.pg_NAMES {X : Cx} {pos : Pos} (T : Txt X.K X.mg) (hg : Gl X "NAMES" := by rfl) : PE X (.Name "NAMES" pos) (tC (.ref (He.ga X.K "NAMES"))) := pe_glob hg T.glo_NAMES rfl
theorem Txt.pgk_NAMES {X : Cx} {pos : Pos} (T : Txt K mg) (hK : X.K = K) (hm : X.mg = mg) (hg : Gl X "NAMES") : PE X (.Name "NAMES" pos) (tC (.ref (He.ga K "NAMES"))) := by
  subst hK hm
  exact pe_glob hg T.glo_NAMES rfl
abbrev v_NAMES : List V := [V.str "halt", V.str "set", V.str "add", V.str "sub", V.str "load", V.str "store", V.str "jump", V.str "zero", V.str "mul", V.str "less", V.str "trap", V.str "and"]
theorem Txt.glo_TRAPS (T : Txt K mg) : mg "TRAPS" = some (.ref (He.ga K "TRAPS")) := T.glo 14
theorem Txt.pg_TRAPS {X : Cx} {pos : Pos} (T : Txt X.K X.mg) (hg : Gl X "TRAPS" := by rfl) : PE X (.Name "TRAPS" pos) (tC (.ref (He.ga X.K "TRAPS"))) := pe_glob hg T.glo_TRAPS rfl
theorem Txt.pgk_TRAPS {X : Cx} {pos : Pos} (T : Txt K mg) (hK : X.K = K) (hm : X.mg = mg) (hg : Gl X "TRAPS") : PE X (.Name "TRAPS" pos) (tC (.ref (He.ga K "TRAPS"))) := by
  subst hK hm
  exact pe_glob hg T.glo_TRAPS rfl
abbrev v_TRAPS : List V := [V.str "yield", V.str "send", V.str "receive", V.str "call", V.str "reply", V.str "signal", V.str "wait", V.str "mint", V.str "move", V.str "revoke", V.str "delete", V.str "retype", V.str "map", V.str "unmap", V.str "bind", V.str "resume", V.str "suspend", V.str "registers", V.str "order", V.str "status"]
theorem Txt.pg_DIGITS {X : Cx} {pos : Pos} (T : Txt X.K X.mg) (hg : Gl X "DIGITS" := by rfl) : PE X (.Name "DIGITS" pos) (tC (.str "0123456789")) := by
  obtain ⟨t, e⟩ := T.str 15
  exact pe_glob hg e ⟨t, rfl⟩
theorem tyv_of {K : PySem.W.Frag} {x : Str} (h : (match K.lookup (He.ga K x) with | some o => o.dict.isNone && decide (o.cls = .type "tuple") | none => false) = true) (H : Hp) : tyV K "tuple" (.ref (He.ga K x)) H := by
  cases e : K.lookup (He.ga K x) with
  | none => rw [e] at h; cases h
  | some o =>
    rw [e] at h
    obtain ⟨h1, h2⟩ := He.ba h
    exact Or.inr (Or.inl ⟨rfl, o, e, of_decide_eq_true h2, Option.isNone_iff_eq_none.mp h1⟩)
theorem Txt.tup_NAMES (T : Txt K mg) (H : Hp) : SqT K H (He.ga K "NAMES") v_NAMES := He.tupB_ok (He.ba (T.exi 0 rfl : tupB2 K "NAMES" _ = true)).1 H
theorem Txt.ty_NAMES (T : Txt K mg) (H : Hp) : tyV K "tuple" (.ref (He.ga K "NAMES")) H := tyv_of (He.ba (T.exi 0 rfl : tupB2 K "NAMES" _ = true)).2 H
theorem Txt.tup_TRAPS (T : Txt K mg) (H : Hp) : SqT K H (He.ga K "TRAPS") v_TRAPS := He.tupB_ok (He.ba (T.exi 1 rfl : tupB2 K "TRAPS" _ = true)).1 H
theorem Txt.ty_TRAPS (T : Txt K mg) (H : Hp) : tyV K "tuple" (.ref (He.ga K "TRAPS")) H := tyv_of (He.ba (T.exi 1 rfl : tupB2 K "TRAPS" _ = true)).2 H
theorem Txt.free_ValueError (T : Txt K mg) : mg "ValueError" = none := T.free_at 16 rfl
theorem Txt.free_abs (T : Txt K mg) : mg "abs" = none := T.free_at 17 rfl
theorem Txt.free_all (T : Txt K mg) : mg "all" = none := T.free_at 18 rfl
theorem Txt.free_enumerate (T : Txt K mg) : mg "enumerate" = none := T.free_at 19 rfl
theorem Txt.free_int (T : Txt K mg) : mg "int" = none := T.free_at 20 rfl
theorem Txt.free_len (T : Txt K mg) : mg "len" = none := T.free_at 21 rfl
theorem Txt.free_range (T : Txt K mg) : mg "range" = none := T.free_at 22 rfl
theorem Txt.free_str (T : Txt K mg) : mg "str" = none := T.free_at 23 rfl
theorem Txt.free_super (T : Txt K mg) : mg "super" = none := T.free_at 24 rfl
theorem Txt.free_tuple (T : Txt K mg) : mg "tuple" = none := T.free_at 25 rfl
end
/-! ### rules whose readings name the pieces' facts, for places within a comprehension or a try: there K must be said -/
section
variable {X : Cx} {K : PySem.W.Frag}
abbrev rLenK (K : PySem.W.Frag) : List V → Hp → VK → Prop := fun xs H Q => ∃ x n, xs = [x] ∧ LenV K x H n ∧ Q (.int n) H
abbrev rJoinK (K : PySem.W.Frag) : V → List V → Hp → VK → Prop := fun x xs H Q => ∃ a p, ∃ ys : List Str, x = .str a ∧ xs = [.ref p] ∧ (SqL K H p (ys.map V.str) ∨ SqT K H p (ys.map V.str)) ∧ (ys.map (·.length)).sum + ys.length * a.length ≤ 16777216 ∧ Q (.str (Txt.join a ys)) H
abbrev rTupK (K : PySem.W.Frag) : List V → Hp → VK → Prop := fun xs H Q => ∃ p ys, xs = [.ref p] ∧ ((SqL K H p ys ∧ ∀ l, H l = none → Q (.ref l) (upd H l (.tup ys))) ∨ (SqT K H p ys ∧ Q (.ref p) H))
theorem pe_joinK {o e : Expr} {to te : TE} {apos pos : Pos} (hK : X.K = K) (ho : PE X o to) (he : PE X e te) (hs : starEach [e] X.env = [(false, eval e X.env)] := by rfl) (hbase : attributeBase o "join" X.env (eval o X.env) = eval o X.env := by rfl) (hline : (apos.endLine == pos.line) = true := by rfl) :
    PE X (.Call (.Attribute o "join" apos) [e] [] pos) (tM1 (rJoinK K) to te) := by
  subst hK
  exact pe_join ho he hs hbase hline
theorem pi_listK {l tg : Expr} {tl : TE} (hK : X.K = K) (hl : PE X l tl) : PI X tg l (iList K tl) := by
  subst hK
  exact pi_list hl
theorem pi_tupK {l tg : Expr} {tl : TE} (hK : X.K = K) (hl : PE X l tl) : PI X tg l (iTup K tl) := by
  subst hK
  exact pi_tup hl
end

end KA

namespace KA
open PySem PySem.Spec PyProof.Rows L2 Evl TL
def oV : Option Int → V
  | none => .non
  | some i => .int i
def dig (c : Nat) : Bool := decide (48 ≤ c ∧ c ≤ 57)
/-- number_in -/
def numBad (t : Str) : Bool := !(decide ((1 : Int) ≤ (t.length : Int)) && decide ((t.length : Int) ≤ 5)) || (!((tl t).all dig) || (decide (V.str ⟨#[(tl t).headD 0]⟩ = V.str "0") && !decide (V.str t = V.str "0")))
def numIn (t : Str) (most : Int) : Option Int :=
  if numBad t = true then none else if ((NumText.digitsVal (tl t) : Nat) : Int) ≤ most then some ((NumText.digitsVal (tl t) : Nat) : Int) else none
section
variable {σ : L2.St} {H : Hp} {K : PySem.W.Frag}
theorem lc_str {x : Str} {g : TG} {tt : TT} {te : TE} {vs : List Nat} {H1 : Hp} {D : Addr} {Qd : Hp → Prop} (Pv : Nat → Hp → Prop) (h0 : Pv 0 (upd H1 D (.lst [])))
    (hs : ∀ i c H, x.cps[i]? = some c → Pv i H → g (.str ⟨#[c]⟩) (wipe σ vs) H fun σ2 H2 => wipe σ2 vs = wipe σ vs ∧ tt σ2 H2 fun b H3 =>
      if b = true then te σ2 H3 fun y H4 => ∃ acc, H4 D = some (.lst acc) ∧ acc.length < sizeLine ∧ Pv (i + 1) (upd H4 D (.lst (acc ++ [y]))) else Pv (i + 1) H3) (hd : ∀ H, Pv x.cps.size H → Qd H) :
    ∃ W : Nat → Nat → Hp → Prop, (∃ m, W 0 m (upd H1 D (.lst []))) ∧ ∀ i m H, W i m H →
      ((Its x).stop i H ∧ Qd H) ∨ ((Its x).go i H ∧ ∃ Nx : Hp → Prop, (∀ H', Nx H' → ∃ m', m' < m ∧ W (i + 1) m' H') ∧ ∀ y H', (Its x).yld i H y H' → g y (wipe σ vs) H' fun σ2 H2 => wipe σ2 vs = wipe σ vs ∧ tt σ2 H2 fun b H3 =>
        if b = true then te σ2 H3 fun y H4 => ∃ acc, H4 D = some (.lst acc) ∧ acc.length < sizeLine ∧ Nx (upd H4 D (.lst (acc ++ [y]))) else Nx H3) := by
  refine ⟨fun i m H => m = x.cps.size - i ∧ i ≤ x.cps.size ∧ Pv i H, ⟨x.cps.size, by simp, Nat.zero_le _, h0⟩, ?_⟩
  rintro i m H ⟨rfl, hi, p⟩
  by_cases hlt : i < x.cps.size
  · refine .inr ⟨hlt, Pv (i + 1), fun H' p' => ⟨x.cps.size - (i + 1), by omega, rfl, hlt, p'⟩, fun y H' q => ?_⟩
    obtain ⟨rfl, c, hc, rfl⟩ := q
    exact hs i c _ hc p
  · have e : i = x.cps.size := by omega
    subst e
    exact .inl ⟨Nat.le_refl _, hd H p⟩
theorem el_lcS {x : Str} {tl : TE} {t : TT} {te : TE} {j : Nat} {vs : List Nat} (f : Nat → Bool) (v : Nat → V) (h : Ev tl σ H (.str x)) (hz : x.cps.size ≤ 40000) (hw : ∀ y, wipe ((wipe σ vs).set j (some y)) vs = wipe σ vs)
    (ht : ∀ (i c : Nat) H1, Ex H H1 → x.cps[i]? = some c → EvT t ((wipe σ vs).set j (some (.str ⟨#[c]⟩))) H1 (f i)) (he : ∀ (i c : Nat) H1, Ex H H1 → x.cps[i]? = some c → f i = true → Ev te ((wipe σ vs).set j (some (.str ⟨#[c]⟩))) H1 (v i)) :
    EvL (tLc (iStr tl) (gName j) t te vs) σ H (given x.cps.size f v) := fun H0 e Q q => h H0 e _ fun H1 e1 => ⟨x, rfl, fun Dl hD =>
  lc_str (Cw H1 f v Dl) ⟨hD, Ex.new hD, upd_same⟩ (fun i c H' hi p => ⟨hw _, cw_turn p (by have := (Array.getElem?_eq_some_iff.mp hi).1; omega) (ht i c H1 (e.trans e1) hi) (fun hf => he i c H1 (e.trans e1) hi hf)⟩)
    (fun H' p => q Dl H' (fresh_back e1 p.1) (e1.trans p.2.1) p.2.2)⟩
theorem given_all (l : List Nat) (g : Nat → V) : given l.length (fun _ => true) (fun i => g (l.getD i 0)) = l.map g := by
  unfold given
  rw [List.filter_eq_self.mpr (by simp)]
  apply List.ext_getElem?
  intro i
  by_cases h : i < l.length
  · simp [h]
  · simp [h]
/-- len of a text -/
theorem ev_lenS {x : Str} {ta : TE} (ha : Ev ta σ H (.str x)) (hz : x.length ≤ 100000) : Ev (tCB (fun xs H Q => ∃ x n, xs = [x] ∧ LenV K x H n ∧ Q (.int n) H) (tCons ta tNil)) σ H (.int (x.length : Int)) := fun H1 e Q q =>
  ha H1 e _ fun H2 e2 => ⟨_, x.length, rfl, ⟨sz_of hz, rfl⟩, q H2 e2⟩
theorem ev_lenL {p : Addr} {xs : List V} {ta : TE} (ha : Ev ta σ H (.ref p)) (h : SqL K H p xs) : Ev (tCB (fun xs H Q => ∃ x n, xs = [x] ∧ LenV K x H n ∧ Q (.int n) H) (tCons ta tNil)) σ H (.int (xs.length : Int)) := fun H1 e Q q =>
  ha H1 e _ fun H2 e2 => ⟨_, xs.length, rfl, .inl ⟨_, ex_l (e.trans e2) h, rfl⟩, q H2 e2⟩
theorem ev_lenT {p : Addr} {xs : List V} {ta : TE} (ha : Ev ta σ H (.ref p)) (h : SqT K H p xs) : Ev (tCB (fun xs H Q => ∃ x n, xs = [x] ∧ LenV K x H n ∧ Q (.int n) H) (tCons ta tNil)) σ H (.int (xs.length : Int)) := fun H1 e Q q =>
  ha H1 e _ fun H2 e2 => ⟨_, xs.length, rfl, .inr ⟨_, ex_t (e.trans e2) h, rfl⟩, q H2 e2⟩
theorem ev_chain {r r' : R2} {ta tb tc : TE} {x y z : V} {k k' : Bool} (ha : Ev ta σ H x) (hb : Ev tb σ H y) (hr : RV r x y H (.bl k)) (hc : Ev tc σ H z) (hr' : RV r' y z H (.bl k')) : EvT (tTest (tChain r r' ta tb tc)) σ H (k && k') := fun H1 e Q q =>
  ha H1 e _ fun H2 e2 => hb H2 (e.trans e2) _ fun H3 e3 => hr H3 ((e.trans e2).trans e3) _ fun H4 e4 => ⟨k, rfl, by
    cases k with
    | true =>
      refine iteT (hc H4 (((e.trans e2).trans e3).trans e4) _ fun H5 e5 => hr' H5 ((((e.trans e2).trans e3).trans e4).trans e5) _ fun H6 e6 => ⟨k', rfl, q H6 ?_⟩)
      exact ((((e2.trans e3).trans e4).trans e5).trans e6)
    | false => exact iteF ⟨false, rfl, q H4 ((e2.trans e3).trans e4)⟩⟩
theorem ev_int {a : Str} {n : Int} {ta : TE} (ha : Ev ta σ H (.str a)) (h : PySem.intText? a = some n) (hl : a.length ≤ 640) : Ev (tCB (fun xs H Q => ∃ a n, xs = [.str a] ∧ PySem.intText? a = some n ∧ a.length ≤ 640 ∧ Q (.int n) H) (tCons ta tNil)) σ H (.int n) := fun H1 e Q q =>
  ha H1 e _ fun H2 e2 => ⟨a, n, rfl, h, hl, q H2 e2⟩
theorem rv_inS {c : Nat} {z : Str} : RV (fun x y H Q => ∃ (c : Nat) (z : Str), x = .str ⟨#[c]⟩ ∧ y = .str z ∧ Q (.bl (decide (c ∈ z.cps.toList))) H) (.str ⟨#[c]⟩) (.str z) H (.bl (decide (c ∈ z.cps.toList))) := fun H1 _ _ q => ⟨c, z, rfl, rfl, q H1 (Ex.refl H1)⟩
theorem ev_all {ta : TE} {bs : List Bool} (h : EvL ta σ H (bs.map V.bl)) : Ev (tCB (rAll K) (tCons ta tNil)) σ H (.bl (bs.all id)) := fun H1 e Q q =>
  h H1 e _ fun p H2 hp e2 h2 => ⟨p, bs, rfl, sq_of h2, q H2 e2⟩
theorem et_yes : EvT (fun _ H Q => Q true H) σ H true := fun H1 _ _ q => q H1 (Ex.refl H1)
end
section
variable {P : Program} {w : World} {K : PySem.W.Frag} {mg : Str → Option Value} {base : Heap}
def sp_word_of : Sp := fun vs H Q _ => ∃ op a b c : Int, vs = [.int op, .int a, .int b, .int c] ∧ Q (.int (op * 4096 + a * 512 + b * 64 + c)) H
theorem ok_word_of (T : Txt K mg) : FnOk P w K mg base CX0 1 (f_word_of K) (fd_word_of K) ["op", "a", "b", "c"] sp_word_of := by
  refine T.fn_word_of.ok sc_word_of (fun vs H Q E h => ?_) (fun cdv A outer s H vs Q E hr h => ⟨_, PSs.nox (pss_one (ps_ret (pe_op op_add (pe_op op_add (pe_op op_add (pe_op op_mul (pv 0) pe_int) (pe_op op_mul (pv 1) pe_int)) (pe_op op_mul (pv 2) pe_int)) (pv 3)))), ?_⟩)
  · obtain ⟨_, _, _, _, rfl, _⟩ := h
    rfl
  · obtain ⟨op, a, b, c, rfl, k⟩ := h
    exact ⟨_, rfl, _, _, rfl, rfl, .inr ⟨by decide, by decide⟩, _, rfl, _, _, rfl, rfl, .inr ⟨by decide, by decide⟩, _, _, rfl, rfl, _, rfl, _, _, rfl, rfl, .inr ⟨by decide, by decide⟩, _, _, rfl, rfl, _, rfl, _, _, rfl, rfl, k⟩
def partsV (x : Int) : List V := [.int (x / 4096), .int (x / 512 % 8), .int (x / 64 % 8), .int (x % 64)]
def sp_parts_of : Sp := fun vs H Q _ => ∃ x : Int, vs = [.int x] ∧ ∀ p, H p = none → Q (.ref p) (upd H p (.tup (partsV x)))
theorem ok_parts_of (T : Txt K mg) : FnOk P w K mg base CX0 1 (f_parts_of K) (fd_parts_of K) ["word"] sp_parts_of := by
  refine T.fn_parts_of.ok sc_parts_of (fun vs H Q E h => ?_) (fun cdv A outer s H vs Q E hr h => ⟨_, PSs.nox (pss_one (ps_ret (pe_tup (pa_cons (pe_op op_fdiv (pv 0) pe_int) (pa_cons (pe_op op_mod (pe_op op_fdiv (pv 0) pe_int) pe_int) (pa_cons (pe_op op_mod (pe_op op_fdiv (pv 0) pe_int) pe_int) (pa_cons (pe_op op_mod (pv 0) pe_int) pa_nil))))))), ?_⟩)
  · obtain ⟨_, rfl, _⟩ := h
    rfl
  · obtain ⟨x, rfl, k⟩ := h
    exact ⟨_, rfl, _, _, rfl, rfl, ⟨by decide, by decide⟩, _, rfl, _, _, rfl, rfl, ⟨by decide, by decide⟩, _, _, rfl, rfl, (by show (0 : Int) < 8; decide), _, rfl, _, _, rfl, rfl, ⟨by decide, by decide⟩, _, _, rfl, rfl, (by show (0 : Int) < 8; decide), _, rfl, _, _, rfl, rfl, (by show (0 : Int) < 64; decide), (by show 4 ≤ sizeLine; decide), k⟩
/-- a def of plain values: it makes objects of its own alone -/
def sp_number_in : Sp := fun vs H Q _ => ∃ (t : Str) (m : Int), vs = [.str t, .int m] ∧ t.length ≤ 20000 ∧ ∀ H', Ex H H' → Q (oV (numIn t m)) H'
theorem ok_number_in (T : Txt K mg) : FnOk P w K mg base CX0 1 (f_number_in K) (fd_number_in K) ["text", "most"] sp_number_in := by
  refine T.fn_number_in.ok sc_number_in (fun vs H Q E h => ?_) (fun cdv A outer s H vs Q E hr h => ⟨_, PSs.nox (pss_cons (ps_if (PW.pt (pw_or (pt_not (pt_chain op_le op_le pe_int (pe_callB call_len (by rfl) T.free_len PySem.boot_len (pa_cons (pv 0) pa_nil)) pe_int)) (pw_or (pt_not (pt_val (pe_callB (cr_all rfl) (by rfl) T.free_all (by decide +kernel) (pa_cons (pe_lc (own := [("sign", 2)]) (by rfl) sc_number_in.nd (pi_str (pv 0)) (blkOk_by (N := sc_number_in_N) (sc := defScope s_number_in) (own := [("sign", 2)]) (by decide +kernel)) (fun _ _ _ _ _ => (pg_name (i := 2) sc_number_in.nd rfl (Or.inl rfl))) (fun _ _ _ _ _ => pts_nil) (fun _ _ _ _ _ => (pe_cmpR op_in_sign (pv 2) (by exact T.pg_DIGITS) (by rfl)))) pa_nil)))) (pw_or1 (PW.pt (pw_and (pt_cmpR op_eq (pe_ix ix_str (pv 0) pe_int (fun _ _ => rfl)) pe_str (nomark _)) (pw_and1 (pt_cmpR op_ne (pv 0) pe_str (nomark _))))))))) (pss_one (ps_ret pe_non)) pss_nil) (pss_one (ps_ret (pe_ifExp (pt_cmpR op_le (pe_callTy call_int_str (by rfl) T.free_int (by decide +kernel) (pa_cons (pv 0) pa_nil)) (pv 1) (nomark _)) (pe_callTy call_int_str (by rfl) T.free_int (by decide +kernel) (pa_cons (pv 0) pa_nil)) pe_non)))), ?_⟩)
  · obtain ⟨_, _, rfl, _⟩ := h
    rfl
  · obtain ⟨t, m, rfl, hz, k⟩ := h
    have hlen : t.length = (tl t).length := len_tl t
    have hsz : t.cps.size = (tl t).length := by simp [tl]
    have hcps : t.cps.toList = tl t := rfl
    refine q_when (b := numBad t) ?_ (fun hb H1 e1 => ?_) (fun hb H1 e1 => ?_)
    · refine et_or (et_not (ev_chain ev_c (ev_lenS (ev_var rfl) (by omega)) rv_I0 ev_c rv_I0)) (fun h1 => et_or (et_not (et_B (ev_is (ev_all (bs := (tl t).map dig) ?_) ?_))) (fun h2 => et_and (et_test (ev_op (ev_op (ev_var rfl) ev_c (rv_ixS (c := (tl t).headD 0) (by omega) ?_)) ev_c (rv_eq rfl))) fun h3 => et_test (ev_op (ev_var rfl) ev_c (rv_ne rfl))))
      · have e : ((tl t).map dig).map V.bl = given t.cps.size (fun _ => true) (fun i => (fun c => V.bl (dig c)) ((tl t).getD i 0)) := by
          rw [hsz, List.map_map]
          exact (given_all (tl t) (fun c => V.bl (dig c))).symm
        rw [e]
        refine el_lcS _ _ (ev_var rfl) (by omega) (fun y => rfl) (fun i c H1 _ _ => et_yes) (fun i c H1 _ hi _ => ?_)
        have hc : (tl t).getD i 0 = c := by
          have : (tl t)[i]? = some c := by rw [tl, Array.getElem?_toList]; exact hi
          simp [List.getD, this]
        refine ev_is (ev_op (ev_var rfl) ev_c rv_inS) ?_
        show V.bl _ = V.bl (dig ((tl t).getD i 0))
        rw [hc]
        congr 1
        have e2 : (Str.ofString "0123456789").cps.toList = [48, 49, 50, 51, 52, 53, 54, 55, 56, 57] := by decide +kernel
        rw [e2]
        unfold dig
        apply decide_eq_decide.mpr
        simp
        omega
      · congr 1
        rw [List.all_map]
        rfl
      · have hne : tl t ≠ [] := by
          intro z
          rw [hlen, z] at h1
          revert h1
          decide
        rw [hcps]
        have : (tl t)[0]? = some ((tl t).headD 0) := by
          cases e : tl t with
          | nil => exact absurd e hne
          | cons a r => rfl
        exact atI_nat (j := 0) this
    · refine s_ret ev_c fun H2 e2 => ?_
      have e : numIn t m = none := if_pos hb
      have := k H2 (e1.trans e2)
      rw [e] at this
      exact this
    · have h3 := hb
      unfold numBad at h3
      simp only [Bool.or_eq_false_iff, Bool.not_eq_false', Bool.and_eq_true, decide_eq_true_eq] at h3
      obtain ⟨⟨h4, h5⟩, h6, h7⟩ := h3
      have hi : PySem.intText? t = some ((NumText.digitsVal (tl t) : Nat) : Int) := intText_digits (fun c hc => by
        have := List.all_eq_true.mp h6 c hc
        unfold dig at this
        simpa using this) (fun z => by rw [hlen, show tl t = [] from z] at h4; revert h4; decide) (by omega)
      refine s_ret (v := oV (numIn t m)) (ev_if (b := decide (((NumText.digitsVal (tl t) : Nat) : Int) ≤ m)) (et_test (ev_op (ev_int (ev_var rfl) hi (by omega)) (ev_var rfl) rv_I0)) (fun h8 => ev_is (ev_int (ev_var rfl) hi (by omega)) ?_) (fun h8 => ev_is ev_c ?_)) fun H2 e2 => k H2 (e1.trans e2)
      · unfold numIn
        rw [if_neg (by rw [hb]; decide), if_pos (of_decide_eq_true h8)]
        rfl
      · unfold numIn
        rw [if_neg (by rw [hb]; decide), if_neg (of_decide_eq_false h8)]
        rfl
def regOk (t : Str) : Bool := decide (V.int (t.length : Int) = V.int 2) && (decide (V.str ⟨#[(tl t).headD 0]⟩ = V.str "r") && decide ((tl t).getD 1 0 ∈ (Str.ofString "01234567").cps.toList))
def regIn (t : Str) : Option Int := if regOk t = true then some (((tl t).getD 1 0 : Int) - 48) else none
def sp_register_in : Sp := fun vs H Q _ => ∃ (t : Str), vs = [.str t] ∧ t.length ≤ 20000 ∧ ∀ H', Ex H H' → Q (oV (regIn t)) H'
theorem ok_register_in (T : Txt K mg) : FnOk P w K mg base CX0 1 (f_register_in K) (fd_register_in K) ["text"] sp_register_in := by
  refine T.fn_register_in.ok sc_register_in (fun vs H Q E h => ?_) (fun cdv A outer s H vs Q E hr h => ⟨_, PSs.nox (pss_one (ps_ret (pe_ifExp (PW.pt (pw_and (pt_cmpR op_eq (pe_callB call_len (by rfl) T.free_len PySem.boot_len (pa_cons (pv 0) pa_nil)) pe_int (nomark _)) (pw_and (pt_cmpR op_eq (pe_ix ix_str (pv 0) pe_int (fun _ _ => rfl)) pe_str (nomark _)) (pw_and1 (pt_cmpR op_in_sign (pe_ix ix_str (pv 0) pe_int (fun _ _ => rfl)) pe_str (by rfl)))))) (pe_callTy call_int_str (by rfl) T.free_int (by decide +kernel) (pa_cons (pe_ix ix_str (pv 0) pe_int (fun _ _ => rfl)) pa_nil)) pe_non))), ?_⟩)
  · obtain ⟨_, rfl, _⟩ := h
    rfl
  · obtain ⟨t, rfl, hz, k⟩ := h
    have hlen : t.length = (tl t).length := len_tl t
    have at_ : ∀ j, j < (tl t).length → atI t.cps.toList (j : Int) = some ((tl t).getD j 0) := fun j hj => atI_nat (by
      show (tl t)[j]? = _
      rw [List.getD, List.getElem?_eq_getElem hj]
      rfl)
    refine s_ret (v := oV (regIn t)) (ev_if (b := regOk t) (et_and (et_test (ev_op (ev_lenS (ev_var rfl) (by omega)) ev_c (rv_eq rfl))) (fun h1 => et_and (et_test (ev_op (ev_op (ev_var rfl) ev_c (rv_ixS (c := (tl t).headD 0) (by omega) ?_)) ev_c (rv_eq rfl))) fun h2 => et_test (ev_op (ev_op (ev_var rfl) ev_c (rv_ixS (c := (tl t).getD 1 0) (by omega) (at_ 1 ?_))) ev_c rv_inS))) (fun hb => ?_) (fun hb => ev_is ev_c ?_)) fun H2 e2 => k H2 e2
    · have h2 : (t.length : Int) = 2 := V.int.inj (of_decide_eq_true h1)
      have e : (tl t).headD 0 = (tl t).getD 0 0 := by cases tl t <;> rfl
      rw [e]
      exact at_ 0 (by omega)
    · have h2 : (t.length : Int) = 2 := V.int.inj (of_decide_eq_true h1)
      omega
    · have h3 := hb
      unfold regOk at h3
      simp only [Bool.and_eq_true, decide_eq_true_eq] at h3
      obtain ⟨h4, h5, h6⟩ := h3
      have h2 : (t.length : Int) = 2 := V.int.inj h4
      have e2 : (Str.ofString "01234567").cps.toList = [48, 49, 50, 51, 52, 53, 54, 55] := by decide +kernel
      rw [e2] at h6
      generalize hc : (tl t).getD 1 0 = c at h6
      have hc2 : 48 ≤ c ∧ c ≤ 55 := by simp at h6; omega
      refine ev_is (ev_int (a := ⟨#[c]⟩) (n := (c : Int) - 48) (ev_op (ev_var rfl) ev_c (rv_ixS (c := c) (by omega) (by rw [← hc]; exact at_ 1 (by omega)))) ?_ (by show 1 ≤ 640; decide)) ?_
      · have : PySem.intText? (⟨#[c]⟩ : Str) = some ((NumText.digitsVal [c] : Nat) : Int) := intText_digits (x := ⟨#[c]⟩) (fun d hd => by
          have : d = c := by simpa using hd
          subst this
          omega) (by simp) (by show 1 ≤ 4300; decide)
        rw [this]
        have e3 : NumText.digitsVal [c] = c - 48 := by simp [NumText.digitsVal]
        rw [e3]
        congr 1
        omega
      · unfold regIn
        rw [if_pos hb, hc]
        rfl
    · unfold regIn
      rw [if_neg (by rw [hb]; decide)]
      rfl
end
end KA

namespace KA
open PySem PySem.Spec PyProof.Rows L2 Evl TL
section
variable {σ : L2.St} {H : Hp} {K : PySem.W.Frag} {D : Ends}
/-- s.split(x), a new list of texts -/
theorem el_split {a b : Str} {to te : TE} (ho : Ev to σ H (.str a)) (he : Ev te σ H (.str b)) (hb : (b.length == 0) = false) (hz : a.length ≤ 100000) :
    EvL (tM1 (fun x xs H Q => ∃ a b, x = .str a ∧ xs = [.str b] ∧ (b.length == 0) = false ∧ a.length + 2 ≤ sizeLine ∧ rNewStrs (Txt.split a b) H Q) to te) σ H ((Txt.split a b).map V.str) := fun H1 e Q q =>
  ho H1 e _ fun H2 e2 => ⟨⟨a, rfl⟩, he H2 (e.trans e2) _ fun H3 e3 => ⟨a, b, rfl, rfl, hb, Nat.le_trans (Nat.add_le_add_right hz 2) (by rw [sizeLine_eq]; decide), fun p hp => q p _ (fresh_back (e2.trans e3) hp) ((e2.trans e3).trans (Ex.new hp)) upd_same⟩⟩
/-- i, j = a, b: a a value, b a new list -/
theorem q_parVL {i j : Nat} {ta tb : TE} {tz : TS} {v : V} {xs : List V} (ha : Ev ta σ H v) (hb : EvL tb σ H xs) (k : ∀ p H1, H p = none → Ex H H1 → H1 p = some (.lst xs) → tz D ((σ.set i (some v)).set j (some (.ref p))) H1) :
    tSeq (tPar i j (tCons ta (tCons tb tNil))) tz D σ H := ha H (Ex.refl H) _ fun H1 e1 => hb H1 e1 _ fun p H2 hp e2 h2 => ⟨v, .ref p, rfl, k p H2 (fresh_back e1 hp) (e1.trans e2) h2⟩
theorem q_parVV {i j : Nat} {ta tb : TE} {tz : TS} {v w : V} (ha : Ev ta σ H v) (hb : Ev tb σ H w) (k : ∀ H1, Ex H H1 → tz D ((σ.set i (some v)).set j (some w)) H1) :
    tSeq (tPar i j (tCons ta (tCons tb tNil))) tz D σ H := ha H (Ex.refl H) _ fun H1 e1 => hb H1 e1 _ fun H2 e2 => ⟨v, w, rfl, k H2 (e1.trans e2)⟩
/-- tuple.index of texts -/
theorem ev_tidx {to te : TE} {p : Addr} {ys : List Str} {z : Str} {j : Nat} (ho : Ev to σ H (.ref p)) (ty : ∀ H, tyV K "tuple" (.ref p) H) (he : Ev te σ H (.str z)) (hs : ∀ H, SqT K H p (ys.map V.str)) (hj : ys[j]? = some z) (hm : ∀ m, m < j → ys[m]? ≠ some z) :
    Ev (tBM K "tuple" (fun x xs H Q => ∃ p, ∃ ys : List Str, ∃ z j, x = .ref p ∧ xs = [.str z] ∧ SqT K H p (ys.map V.str) ∧ ys[j]? = some z ∧ (∀ m, m < j → ys[m]? ≠ some z) ∧ Q (.int (j : Nat)) H) to (tCons te tNil)) σ H (.int (j : Int)) := fun H1 e Q q =>
  ho H1 e _ fun H2 e2 => ⟨ty H2, he H2 (e.trans e2) _ fun H3 e3 => ⟨p, ys, z, j, rfl, rfl, hs H3, hj, hm, q H3 (e2.trans e3)⟩⟩
theorem rv_isN {x : V} : RV (fun x y H Q => y = .non ∧ Q (.bl (decide (x = .non))) H) x .non H (.bl (decide (x = .non))) := fun H1 _ _ q => ⟨rfl, q H1 (Ex.refl H1)⟩
theorem rv_notN {x : V} : RV (fun x y H Q => y = .non ∧ Q (.bl (!decide (x = .non))) H) x .non H (.bl (!decide (x = .non))) := fun H1 _ _ q => ⟨rfl, q H1 (Ex.refl H1)⟩
/-- truth of a list -/
theorem et_truL {te : TE} {p : Addr} {xs : List V} (h : Ev te σ H (.ref p)) (hs : SqL K H p xs) : EvT (fun σ H Q => te σ H fun x H' => ∃ k, TruV K x H' k ∧ Q k H') σ H (!xs.isEmpty) := fun H1 e Q q =>
  h H1 e _ fun H2 e2 => ⟨_, .inl ⟨xs, ex_l (e.trans e2) hs, rfl⟩, q H2 e2⟩
theorem ev_pure {sp : Sp} {dvs vs : List V} {E : XK} {ta : TA} {z : V} (h : EvA ta σ H vs) (hs : ∀ H1, Ex H H1 → ∀ Q : VK, (∀ H2, Ex H1 H2 → Q z H2) → sp (vs ++ dvs) H1 Q E) : Ev (tCall sp dvs E ta) σ H z := fun H1 e Q q =>
  h H1 e _ fun H2 e2 => hs H2 (e.trans e2) Q fun H3 e3 => q H3 (e2.trans e3)
end

/-! the parts of a text -/
theorem spl_ne (S : List Nat) : ∀ (l : List Nat) (k : Nat) (acc : List Nat), spl S k acc l ≠ []
  | [], k, acc => by rw [spl_nil]; simp
  | c :: r, 0, acc => by
    cases h : pre S (c :: r) with
    | true => rw [spl_hit h]; simp
    | false => rw [spl_miss h]; exact spl_ne S r 0 _
  | c :: r, k + 1, acc => by
    rw [spl_pass]
    exact spl_ne S ((c :: r).drop (k + 1)) 0 acc
termination_by l k _ => (l.length, k)
decreasing_by all_goals simp_wf; all_goals first | omega | (simp; omega)
theorem spl_len (S : List Nat) : ∀ (l : List Nat) (k : Nat) (acc : List Nat), ∀ p ∈ spl S k acc l, p.length ≤ acc.length + l.length
  | [], k, acc, p, h => by
    rw [spl_nil] at h
    have : p = acc := by simpa using h
    rw [this]
    omega
  | c :: r, 0, acc, p, h => by
    cases e : pre S (c :: r) with
    | true =>
      rw [spl_hit e] at h
      rcases List.mem_cons.mp h with rfl | h
      · omega
      · have := spl_len S r _ [] p h
        simp at this ⊢
        omega
    | false =>
      rw [spl_miss e] at h
      have := spl_len S r 0 _ p h
      simp at this ⊢
      omega
  | c :: r, k + 1, acc, p, h => by
    rw [spl_pass] at h
    have := spl_len S ((c :: r).drop (k + 1)) 0 acc p h
    simp at this ⊢
    omega
termination_by l k _ => (l.length, k)
decreasing_by all_goals simp_wf; all_goals first | omega | (simp; omega)
theorem spl_many (S : List Nat) : ∀ (l : List Nat) (k : Nat) (acc : List Nat), (spl S k acc l).length ≤ 1 + l.length
  | [], k, acc => by rw [spl_nil]; simp
  | c :: r, 0, acc => by
    cases e : pre S (c :: r) with
    | true =>
      rw [spl_hit e]
      have := spl_many S r (S.length - 1) []
      simp at this ⊢
      omega
    | false =>
      rw [spl_miss e]
      have := spl_many S r 0 (acc ++ [c])
      simp at this ⊢
      omega
  | c :: r, k + 1, acc => by
    rw [spl_pass]
    have := spl_many S ((c :: r).drop (k + 1)) 0 acc
    simp at this ⊢
    omega
termination_by l k _ => (l.length, k)
decreasing_by all_goals simp_wf; all_goals first | omega | (simp; omega)
theorem tl_sp : tl (" " : Str) = [32] := by decide +kernel
theorem tl_nl : tl ("\n" : Str) = [10] := by decide +kernel
theorem sp_spl (t : Str) : (Txt.split t " ").map tl = spl [32] 0 [] (tl t) := by
  have := split_spl t " " (by rw [tl_sp]; simp) (kind_ok (by decide +kernel))
  rw [tl_sp] at this
  exact this
theorem nl_spl (t : Str) : (Txt.split t "\n").map tl = spl [10] 0 [] (tl t) := by
  have := split_spl t "\n" (by rw [tl_nl]; simp) (kind_ok (by decide +kernel))
  rw [tl_nl] at this
  exact this
theorem parts_ne {x y : Str} {c : Nat} (e : (Txt.split x y).map tl = spl [c] 0 [] (tl x)) : Txt.split x y ≠ [] := by
  intro z
  rw [z] at e
  exact spl_ne _ _ _ _ e.symm
theorem parts_len {x y : Str} {c : Nat} (e : (Txt.split x y).map tl = spl [c] 0 [] (tl x)) {p : Str} (h : p ∈ Txt.split x y) : p.length ≤ x.length := by
  have := spl_len [c] (tl x) 0 [] (tl p) (by rw [← e]; exact List.mem_map_of_mem h)
  rw [len_tl, len_tl]
  simpa using this
theorem parts_many {x y : Str} {c : Nat} (e : (Txt.split x y).map tl = spl [c] 0 [] (tl x)) : (Txt.split x y).length ≤ x.length + 1 := by
  have := spl_many [c] (tl x) 0 []
  rw [← e, List.length_map] at this
  rw [len_tl]
  omega
/-! ### word_in -/
def NM : List Str := ["halt", "set", "add", "sub", "load", "store", "jump", "zero", "mul", "less", "trap", "and"]
def TR : List Str := ["yield", "send", "receive", "call", "reply", "signal", "wait", "mint", "move", "revoke", "delete", "retype", "map", "unmap", "bind", "resume", "suspend", "registers", "order", "status"]
theorem NM_v : v_NAMES = NM.map V.str := rfl
theorem TR_v : v_TRAPS = TR.map V.str := rfl
def idx (l : List Str) (z : Str) : Nat := l.findIdx fun y => decide (y = z)
theorem eqV_str (a b : Str) : eqV (.str a) (.str b) = decide (a = b) := by
  show (a == b) = _
  rw [← dec_str]
  exact decide_eq_decide.mpr ⟨fun h => V.str.inj h, fun h => congrArg V.str h⟩
theorem inV_str (z : Str) : ∀ l : List Str, inV (.str z) (l.map V.str) = l.any fun y => decide (y = z)
  | [] => rfl
  | y :: r => by
    have ih := inV_str z r
    unfold inV at ih ⊢
    rw [List.map_cons, List.any_cons, List.any_cons, ih, eqV_str]
theorem idx_at {l : List Str} {z : Str} (h : inV (.str z) (l.map V.str) = true) : l[idx l z]? = some z ∧ ∀ m, m < idx l z → l[m]? ≠ some z := by
  rw [inV_str, List.any_eq_true] at h
  have hlt : idx l z < l.length := List.findIdx_lt_length.mpr (by
    obtain ⟨y, hy, e⟩ := h
    exact ⟨y, hy, e⟩)
  refine ⟨?_, fun m hm e => ?_⟩
  · have := List.findIdx_getElem (w := hlt)
    rw [List.getElem?_eq_getElem hlt]
    exact congrArg some (of_decide_eq_true this)
  · have hml : m < l.length := by omega
    have := List.not_of_lt_findIdx (p := fun y => decide (y = z)) (xs := l) hm
    rw [List.getElem?_eq_getElem hml] at e
    simp at this
    exact this (Option.some.inj e)
def wd (op a b c : Int) : Int := op * 4096 + a * 512 + b * 64 + c
theorem bF {b : Bool} (h : b = false) : ¬ b = true := by rw [h]; decide
def wordOf (w0 : Str) (rest : List Str) : Option Int :=
  if (decide (V.int (((w0 :: rest).length : Nat) : Int) = V.int 1) && !decide (V.str w0 = V.str "halt")) = true then numIn w0 65535
  else if (!inV (.str w0) v_NAMES) = true then none
  else if decide (V.str w0 = V.str "halt") = true then (if (!(!rest.isEmpty)) = true then some 0 else none)
  else if decide (V.str w0 = V.str "trap") = true then
    (if inV (.str (if decide (V.int (rest.length : Int) = V.int 1) = true then rest.headD "" else "")) v_TRAPS = true then some (idx TR (if decide (V.int (rest.length : Int) = V.int 1) = true then rest.headD "" else "") : Int)
      else numIn (if decide (V.int (rest.length : Int) = V.int 1) = true then rest.headD "" else "") 63).map fun n => wd (idx NM w0) 0 0 n
  else if decide (V.str w0 = V.str "jump") = true then
    (if decide (V.int (rest.length : Int) = V.int 1) = true then numIn (rest.headD "") 511 else none).map fun n => wd (idx NM w0) 0 (n / 64) (n % 64)
  else if inV (.str w0) [.str "set", .str "zero"] = true then
    (if decide (V.int (rest.length : Int) = V.int 2) = true then
      (regIn (rest.headD "")).bind fun a => (numIn (rest.getD 1 "") 511).map fun n => wd (idx NM w0) a (n / 64) (n % 64) else none)
  else if (!decide (V.int (rest.length : Int) = V.int 3)) = true then none
  else (regIn (rest.headD "")).bind fun a => (regIn (rest.getD 1 "")).bind fun b => (if inV (.str w0) [.str "load", .str "store"] = true then numIn (rest.getD 2 "") 63 else regIn (rest.getD 2 "")).map fun c => wd (idx NM w0) a b c
def wordIn (t : Str) : Option Int := match Txt.split t " " with
  | w0 :: rest => wordOf w0 rest
  | [] => none
section
variable {σ : L2.St} {H : Hp}
theorem ev_num {ta tb : TE} {E : XK} {t : Str} {m : Int} (ha : Ev ta σ H (.str t)) (hb : Ev tb σ H (.int m)) (hz : t.length ≤ 20000) : Ev (tCall sp_number_in [] E (tCons ta (tCons tb tNil))) σ H (oV (numIn t m)) :=
  ev_pure (ea_cons ha (ea_cons hb ea_nil)) fun H1 _ Q q => ⟨t, m, rfl, hz, q⟩
theorem ev_reg {ta : TE} {E : XK} {t : Str} (ha : Ev ta σ H (.str t)) (hz : t.length ≤ 20000) : Ev (tCall sp_register_in [] E (tCons ta tNil)) σ H (oV (regIn t)) :=
  ev_pure (ea_cons ha ea_nil) fun H1 _ Q q => ⟨t, rfl, hz, q⟩
theorem ev_wd {ta tb tc td : TE} {E : XK} {op a b c : Int} (h1 : Ev ta σ H (.int op)) (h2 : Ev tb σ H (.int a)) (h3 : Ev tc σ H (.int b)) (h4 : Ev td σ H (.int c)) : Ev (tCall sp_word_of [] E (tCons ta (tCons tb (tCons tc (tCons td tNil))))) σ H (.int (wd op a b c)) :=
  ev_pure (ea_cons h1 (ea_cons h2 (ea_cons h3 (ea_cons h4 ea_nil)))) fun H1 _ Q q => ⟨op, a, b, c, rfl, q H1 (Ex.refl H1)⟩
theorem oV_non {o : Option Int} : decide (oV o = .non) = o.isNone := by
  cases o with
  | none => rfl
  | some i => exact decide_eq_false (fun z => by cases z)
theorem ev_div {ta tb : TE} {i j : Int} (ha : Ev ta σ H (.int i)) (hb : Ev tb σ H (.int j)) (h : 0 < j ∧ j < 1073741824) : Ev (tOp (rI CDiv fun i j => .int (i / j)) ta tb) σ H (.int (i / j)) := ev_op ha hb (rv_I h)
theorem ev_mod {ta tb : TE} {i j : Int} (ha : Ev ta σ H (.int i)) (hb : Ev tb σ H (.int j)) (h : 0 < j) : Ev (tOp (rI (fun _ j => 0 < j) fun i j => .int (i % j)) ta tb) σ H (.int (i % j)) := ev_op ha hb (rv_I h)
end
section
variable {P : Program} {w : World} {K : PySem.W.Frag} {mg : Str → Option Value} {base : Heap}
def sp_word_in : Sp := fun vs H Q _ => ∃ (t : Str), vs = [.str t] ∧ t.length ≤ 20000 ∧ ∀ H', Ex H H' → Q (oV (wordIn t)) H'
theorem ok_word_in (T : Txt K mg) : FnOk P w K mg base CX0 2 (f_word_in K) (fd_word_in K) ["text"] sp_word_in := by
  refine T.fn_word_in.ok sc_word_in (fun vs H Q E h => ?_) (fun cdv A outer s H vs Q E hr h => ⟨_, PSs.nox (pss_cons (ps_set (i := 1) sc_word_in.nd rfl (Or.inl rfl) (pe_split (pv 0) pe_str)) (pss_cons (ps_if (PW.pt (pw_and (pt_cmpR op_eq (pe_callB call_len (by rfl) T.free_len PySem.boot_len (pa_cons (pv 1) pa_nil)) pe_int (nomark _)) (pw_and1 (pt_cmpR op_ne (pe_ix ix_list (pv 1) pe_int (fun _ _ => rfl)) pe_str (nomark _))))) (pss_one (ps_ret (pe_call (ok_number_in T) (hr.mono (by decide)) (by rfl) (T.glo_number_in) (T.kp_number_in) (T.bd_number_in) .nil pass0 (pa_cons (pe_ix ix_list (pv 1) pe_int (fun _ _ => rfl)) (pa_cons pe_int pa_nil))))) pss_nil) (pss_cons (ps_if (pt_cmpR op_notIn_seq (pe_ix ix_list (pv 1) pe_int (fun _ _ => rfl)) (T.pg_NAMES) (by rfl)) (pss_one (ps_ret pe_non)) pss_nil) (pss_cons (ps_par (i := 2) (j := 3) (by rfl) sc_word_in.nd rfl rfl (by decide) rfl rfl (pa_cons (pe_bm PySem.F.plainAttrs_tuple PySem.F.slot_tuple_index PySem.F.type_tuple_index mt_tup_index (T.pg_NAMES) (pa_cons (pe_ix ix_list (pv 1) pe_int (fun _ _ => rfl)) pa_nil)) (pa_cons (pe_slice sl_list (pv 1) (po_some pe_int) po_none) pa_nil)) (by rfl)) (pss_cons (ps_if (pt_cmpR op_eq (pe_ix ix_list (pv 1) pe_int (fun _ _ => rfl)) pe_str (nomark _)) (pss_one (ps_ret (pe_ifExp (pt_not (pt_truth (pv 3) (by intro _; rfl))) pe_int pe_non))) pss_nil) (pss_cons (ps_if (pt_cmpR op_eq (pe_ix ix_list (pv 1) pe_int (fun _ _ => rfl)) pe_str (nomark _)) (pss_cons (ps_set (i := 4) sc_word_in.nd rfl (Or.inl rfl) (pe_ifExp (pt_cmpR op_eq (pe_callB call_len (by rfl) T.free_len PySem.boot_len (pa_cons (pv 3) pa_nil)) pe_int (nomark _)) (pe_ix ix_list (pv 3) pe_int (fun _ _ => rfl)) pe_str)) (pss_cons (ps_set (i := 5) sc_word_in.nd rfl (Or.inl rfl) (pe_ifExp (pt_cmpR op_in_seq (pv 4) (T.pg_TRAPS) (by rfl)) (pe_bm PySem.F.plainAttrs_tuple PySem.F.slot_tuple_index PySem.F.type_tuple_index mt_tup_index (T.pg_TRAPS) (pa_cons (pv 4) pa_nil)) (pe_call (ok_number_in T) (hr.mono (by decide)) (by rfl) (T.glo_number_in) (T.kp_number_in) (T.bd_number_in) .nil pass0 (pa_cons (pv 4) (pa_cons pe_int pa_nil))))) (pss_one (ps_ret (pe_ifExp (pt_cmpR op_isN (pv 5) pe_non (nomark _)) pe_non (pe_call (ok_word_of T) (hr.mono (by decide)) (by rfl) (T.glo_word_of) (T.kp_word_of) (T.bd_word_of) .nil pass0 (pa_cons (pv 2) (pa_cons pe_int (pa_cons pe_int (pa_cons (pv 5) pa_nil)))))))))) pss_nil) (pss_cons (ps_if (pt_cmpR op_eq (pe_ix ix_list (pv 1) pe_int (fun _ _ => rfl)) pe_str (nomark _)) (pss_cons (ps_set (i := 5) sc_word_in.nd rfl (Or.inl rfl) (pe_ifExp (pt_cmpR op_eq (pe_callB call_len (by rfl) T.free_len PySem.boot_len (pa_cons (pv 3) pa_nil)) pe_int (nomark _)) (pe_call (ok_number_in T) (hr.mono (by decide)) (by rfl) (T.glo_number_in) (T.kp_number_in) (T.bd_number_in) .nil pass0 (pa_cons (pe_ix ix_list (pv 3) pe_int (fun _ _ => rfl)) (pa_cons pe_int pa_nil))) pe_non)) (pss_one (ps_ret (pe_ifExp (pt_cmpR op_isN (pv 5) pe_non (nomark _)) pe_non (pe_call (ok_word_of T) (hr.mono (by decide)) (by rfl) (T.glo_word_of) (T.kp_word_of) (T.bd_word_of) .nil pass0 (pa_cons (pv 2) (pa_cons pe_int (pa_cons (pe_op op_fdiv (pv 5) pe_int) (pa_cons (pe_op op_mod (pv 5) pe_int) pa_nil))))))))) pss_nil) (pss_cons (ps_if (pt_cmpR op_in_seq (pe_ix ix_list (pv 1) pe_int (fun _ _ => rfl)) (pe_tup (pa_cons pe_str (pa_cons pe_str pa_nil))) (by rfl)) (pss_cons (ps_asg (pe_ifExp (pt_cmpR op_eq (pe_callB call_len (by rfl) T.free_len PySem.boot_len (pa_cons (pv 3) pa_nil)) pe_int (nomark _)) (pe_tup (pa_cons (pe_call (ok_register_in T) (hr.mono (by decide)) (by rfl) (T.glo_register_in) (T.kp_register_in) (T.bd_register_in) .nil pass0 (pa_cons (pe_ix ix_list (pv 3) pe_int (fun _ _ => rfl)) pa_nil)) (pa_cons (pe_call (ok_number_in T) (hr.mono (by decide)) (by rfl) (T.glo_number_in) (T.kp_number_in) (T.bd_number_in) .nil pass0 (pa_cons (pe_ix ix_list (pv 3) pe_int (fun _ _ => rfl)) (pa_cons pe_int pa_nil))) pa_nil))) (pe_tup (pa_cons pe_non (pa_cons pe_non pa_nil)))) (pg_tup (by rfl) (pgs_cons (pg_name (i := 6) sc_word_in.nd rfl (Or.inl rfl)) (pgs_cons (pg_name (i := 5) sc_word_in.nd rfl (Or.inl rfl)) pgs_nil)))) (pss_one (ps_ret (pe_ifExp (PW.pt (pw_or (pt_cmpR op_isN (pv 6) pe_non (nomark _)) (pw_or1 (pt_cmpR op_isN (pv 5) pe_non (nomark _))))) pe_non (pe_call (ok_word_of T) (hr.mono (by decide)) (by rfl) (T.glo_word_of) (T.kp_word_of) (T.bd_word_of) .nil pass0 (pa_cons (pv 2) (pa_cons (pv 6) (pa_cons (pe_op op_fdiv (pv 5) pe_int) (pa_cons (pe_op op_mod (pv 5) pe_int) pa_nil))))))))) pss_nil) (pss_cons (ps_if (pt_cmpR op_ne (pe_callB call_len (by rfl) T.free_len PySem.boot_len (pa_cons (pv 3) pa_nil)) pe_int (nomark _)) (pss_one (ps_ret pe_non)) pss_nil) (pss_cons (ps_par (i := 6) (j := 7) (by rfl) sc_word_in.nd rfl rfl (by decide) rfl rfl (pa_cons (pe_call (ok_register_in T) (hr.mono (by decide)) (by rfl) (T.glo_register_in) (T.kp_register_in) (T.bd_register_in) .nil pass0 (pa_cons (pe_ix ix_list (pv 3) pe_int (fun _ _ => rfl)) pa_nil)) (pa_cons (pe_call (ok_register_in T) (hr.mono (by decide)) (by rfl) (T.glo_register_in) (T.kp_register_in) (T.bd_register_in) .nil pass0 (pa_cons (pe_ix ix_list (pv 3) pe_int (fun _ _ => rfl)) pa_nil)) pa_nil)) (by rfl)) (pss_cons (ps_set (i := 8) sc_word_in.nd rfl (Or.inl rfl) (pe_ifExp (pt_cmpR op_in_seq (pe_ix ix_list (pv 1) pe_int (fun _ _ => rfl)) (pe_tup (pa_cons pe_str (pa_cons pe_str pa_nil))) (by rfl)) (pe_call (ok_number_in T) (hr.mono (by decide)) (by rfl) (T.glo_number_in) (T.kp_number_in) (T.bd_number_in) .nil pass0 (pa_cons (pe_ix ix_list (pv 3) pe_int (fun _ _ => rfl)) (pa_cons pe_int pa_nil))) (pe_call (ok_register_in T) (hr.mono (by decide)) (by rfl) (T.glo_register_in) (T.kp_register_in) (T.bd_register_in) .nil pass0 (pa_cons (pe_ix ix_list (pv 3) pe_int (fun _ _ => rfl)) pa_nil)))) (pss_one (ps_ret (pe_ifExp (PW.pt (pw_or (pt_cmpR op_isN (pv 6) pe_non (nomark _)) (pw_or (pt_cmpR op_isN (pv 7) pe_non (nomark _)) (pw_or1 (pt_cmpR op_isN (pv 8) pe_non (nomark _)))))) pe_non (pe_call (ok_word_of T) (hr.mono (by decide)) (by rfl) (T.glo_word_of) (T.kp_word_of) (T.bd_word_of) .nil pass0 (pa_cons (pv 2) (pa_cons (pv 6) (pa_cons (pv 7) (pa_cons (pv 8) pa_nil))))))))))))))))))), ?_⟩)
  · obtain ⟨_, rfl, _⟩ := h
    rfl
  · obtain ⟨t, rfl, hz, k⟩ := h
    have e32 := sp_spl t
    have hne := parts_ne e32
    have hpl : ∀ q ∈ Txt.split t " ", q.length ≤ 20000 := fun q hq => Nat.le_trans (parts_len e32 hq) hz
    obtain ⟨w0, rest, hws⟩ : ∃ w0 rest, Txt.split t " " = w0 :: rest := List.exists_cons_of_ne_nil hne
    have hl0 : w0.length ≤ 20000 := hpl w0 (by rw [hws]; exact List.mem_cons_self)
    have hlr : ∀ q ∈ rest, q.length ≤ 20000 := fun q hq => hpl q (by rw [hws]; exact List.mem_cons_of_mem _ hq)
    have hW : wordIn t = wordOf w0 rest := by
      unfold wordIn
      rw [hws]
    unfold wordOf at hW
    refine q_asgL (el_split (ev_var rfl) ev_c (by rfl) (by omega)) fun p H1 hp e1 h1 => ?_
    rw [hws] at h1
    have W0 : ∀ {σ : L2.St}, σ[1]? = some (some (.ref p)) → Ev (tOp (rIxL K) (tVar 1) (tC (.int 0))) σ H1 (.str w0) := fun h => ev_op (ev_var h) ev_c (rv_ixL (sq_of h1) (atI_nat (j := 0) rfl))
    refine q_when (b := decide (V.int (((w0 :: rest).length : Nat) : Int) = V.int 1) && !decide (V.str w0 = V.str "halt")) (et_and (et_test (ev_op (ev_is (ev_lenL (ev_var rfl) (sq_of h1)) (by rw [List.length_map])) ev_c (rv_eq rfl))) fun _ => et_test (ev_op (W0 rfl) ev_c (rv_ne rfl))) (fun hb H2 e2 => ?_) (fun hb H2 e2 => ?_)
    · replace hW := hW.trans (if_pos hb)
      exact s_ret ((ev_num (W0 rfl) ev_c hl0).mono e2) fun H3 e3 => by rw [← hW]; exact k H3 ((e1.trans e2).trans e3)
    replace hW := hW.trans (if_neg (bF hb))
    refine q_when (b := !inV (.str w0) v_NAMES) (et_test (ev_op ((W0 rfl).mono e2) ev_c (rv_niT (T.tup_NAMES _) rfl (by decide +kernel)))) (fun hb H3 e3 => ?_) (fun hb H3 e3 => ?_)
    · replace hW := hW.trans (if_pos hb)
      exact s_ret ev_c fun H4 e4 => by
        have := k H4 (((e1.trans e2).trans e3).trans e4)
        rw [hW] at this
        exact this
    replace hW := hW.trans (if_neg (bF hb))
    have hin : inV (.str w0) (NM.map V.str) = true := by
      rw [← NM_v]
      simpa using hb
    obtain ⟨hi1, hi2⟩ := idx_at hin
    refine q_parVL (ev_tidx (ys := NM) ev_c (fun H => T.ty_NAMES H) ((W0 rfl).mono (e2.trans e3)) (fun H => T.tup_NAMES H) hi1 hi2) (el_sl (ev_var rfl) (eo_some ev_c) eo_none (ex_l (e2.trans e3) (sq_of h1))) fun r H4 hr4 e4 h4 => ?_
    have e14 : Ex H1 H4 := (e2.trans e3).trans e4
    have k4 : ∀ H', Ex H4 H' → Q (oV (wordIn t)) H' := fun H' e => k H' ((e1.trans e14).trans e)
    have W4 : ∀ {σ : L2.St}, σ[1]? = some (some (.ref p)) → Ev (tOp (rIxL K) (tVar 1) (tC (.int 0))) σ H4 (.str w0) := fun h => (W0 h).mono e14
    clear W0
    have h4' : H4 r = some (.lst (rest.map V.str)) := by
      rw [h4, List.map_cons]
      congr 2
      unfold cutV HT.sIx
      simp
      exact List.take_of_length_le (by simp)
    clear h4
    have LR : ∀ {σ : L2.St}, σ[3]? = some (some (.ref r)) → Ev (tCB (fun xs H Q => ∃ x n, xs = [x] ∧ LenV K x H n ∧ Q (.int n) H) (tCons (tVar 3) tNil)) σ H4 (.int (rest.length : Int)) := fun h => ev_is (ev_lenL (ev_var h) (sq_of h4')) (by rw [List.length_map])
    have RX : ∀ {σ : L2.St} (i : Nat), σ[3]? = some (some (.ref r)) → i < rest.length → Ev (tOp (rIxL K) (tVar 3) (tC (.int (i : Int)))) σ H4 (.str (rest.getD i "")) := fun i h hi => ev_op (ev_var h) ev_c (rv_ixL (sq_of h4') (atI_nat (j := i) (by
      rw [List.getElem?_map, List.getElem?_eq_getElem hi, List.getD, List.getElem?_eq_getElem hi]
      rfl)))
    have RL : ∀ (i : Nat), i < rest.length → (rest.getD i "").length ≤ 20000 := fun i hi => hlr _ (by
      rw [List.getD, List.getElem?_eq_getElem hi]
      exact List.getElem_mem hi)
    have e0 : rest.headD "" = rest.getD 0 "" := by cases rest <;> rfl
    rw [e0] at hW
    -- halt
    refine q_when (b := decide (V.str w0 = V.str "halt")) (et_test (ev_op (W4 rfl) ev_c (rv_eq rfl))) (fun hb H5 e5 => ?_) (fun hb H5 e5 => ?_)
    · replace hW := hW.trans (if_pos hb)
      refine s_ret (v := oV (wordIn t)) (ev_if (b := !(!rest.isEmpty)) (et_not (et_is (et_truL (ev_var rfl) (ex_l e5 (sq_of h4'))) (by rw [List.isEmpty_map]))) (fun h => ev_is ev_c ?_) (fun h => ev_is ev_c ?_)) fun H6 e6 => k4 H6 (e5.trans e6)
      · rw [hW.trans (if_pos h)]
        rfl
      · rw [hW.trans (if_neg (bF h))]
        rfl
    replace hW := hW.trans (if_neg (bF hb))
    -- trap
    refine q_when (b := decide (V.str w0 = V.str "trap")) (et_test (ev_op ((W4 rfl).mono e5) ev_c (rv_eq rfl))) (fun hb H6 e6 => ?_) (fun hb H6 e6 => ?_)
    · replace hW := hW.trans (if_pos hb)
      have e46 := e5.trans e6
      refine q_asg (v := .str (if decide (V.int (rest.length : Int) = V.int 1) = true then rest.getD 0 "" else "")) (ev_if (et_test (ev_op ((LR rfl).mono e46) ev_c (rv_eq rfl))) (fun h => ?_) (fun h => ?_)) fun H7 e7 => ?_
      · rw [if_pos h]
        have : (rest.length : Int) = 1 := V.int.inj (of_decide_eq_true h)
        exact (RX 0 rfl (by omega)).mono e46
      · rw [if_neg (bF h)]
        exact ev_c
      have hown : (if decide (V.int (rest.length : Int) = V.int 1) = true then rest.getD 0 "" else "").length ≤ 20000 := by
        by_cases h : decide (V.int (rest.length : Int) = V.int 1) = true
        · rw [if_pos h]
          have : (rest.length : Int) = 1 := V.int.inj (of_decide_eq_true h)
          exact RL 0 (by omega)
        · rw [if_neg h]
          decide
      generalize (if decide (V.int (rest.length : Int) = V.int 1) = true then rest.getD 0 "" else "") = own at hW hown ⊢
      refine q_asg (v := oV (if inV (.str own) v_TRAPS = true then some (idx TR own : Int) else numIn own 63)) (ev_if (b := inV (.str own) v_TRAPS) (et_test (ev_op (ev_var rfl) ev_c (rv_isT (T.tup_TRAPS _) rfl (by decide +kernel)))) (fun h => ?_) (fun h => ?_)) fun H8 e8 => ?_
      · rw [if_pos h]
        obtain ⟨i1, i2⟩ := idx_at (l := TR) (by rw [← TR_v]; exact h)
        exact ev_tidx (ys := TR) ev_c (fun H => T.ty_TRAPS H) (ev_var rfl) (fun H => T.tup_TRAPS H) i1 i2
      · rw [if_neg (bF h)]
        exact ev_num (ev_var rfl) ev_c hown
      generalize (if inV (.str own) v_TRAPS = true then some (idx TR own : Int) else numIn own 63) = number at hW ⊢
      refine s_ret (v := oV (wordIn t)) (ev_if (b := number.isNone) (et_is (et_test (ev_op (ev_var rfl) ev_c rv_isN)) oV_non) (fun h => ev_is ev_c ?_) (fun h => ?_)) fun H9 e9 => k4 H9 (((e46.trans e7).trans e8).trans e9)
      · rw [hW, Option.isNone_iff_eq_none.mp h]
        rfl
      · obtain ⟨n, rfl⟩ : ∃ n, number = some n := by
          cases number with
          | none => cases h
          | some n => exact ⟨n, rfl⟩
        rw [hW]
        exact ev_wd (ev_var rfl) ev_c ev_c (ev_var rfl)
    replace hW := hW.trans (if_neg (bF hb))
    have e46 := e5.trans e6
    -- jump
    refine q_when (b := decide (V.str w0 = V.str "jump")) (et_test (ev_op ((W4 rfl).mono e46) ev_c (rv_eq rfl))) (fun hb H7 e7 => ?_) (fun hb H7 e7 => ?_)
    · replace hW := hW.trans (if_pos hb)
      have e47 := e46.trans e7
      refine q_asg (v := oV (if decide (V.int (rest.length : Int) = V.int 1) = true then numIn (rest.getD 0 "") 511 else none)) (ev_if (et_test (ev_op ((LR rfl).mono e47) ev_c (rv_eq rfl))) (fun h => ?_) (fun h => ?_)) fun H8 e8 => ?_
      · rw [if_pos h]
        have : (rest.length : Int) = 1 := V.int.inj (of_decide_eq_true h)
        exact ev_num ((RX 0 rfl (by omega)).mono e47) ev_c (RL 0 (by omega))
      · rw [if_neg (bF h)]
        exact ev_c
      generalize (if decide (V.int (rest.length : Int) = V.int 1) = true then numIn (rest.getD 0 "") 511 else none) = number at hW ⊢
      refine s_ret (v := oV (wordIn t)) (ev_if (b := number.isNone) (et_is (et_test (ev_op (ev_var rfl) ev_c rv_isN)) oV_non) (fun h => ev_is ev_c ?_) (fun h => ?_)) fun H9 e9 => k4 H9 ((e47.trans e8).trans e9)
      · rw [hW, Option.isNone_iff_eq_none.mp h]
        rfl
      · obtain ⟨n, rfl⟩ : ∃ n, number = some n := by
          cases number with
          | none => cases h
          | some n => exact ⟨n, rfl⟩
        rw [hW]
        exact ev_wd (ev_var rfl) ev_c (ev_div (ev_var rfl) ev_c ⟨by decide, by decide⟩) (ev_mod (ev_var rfl) ev_c (by decide))
    replace hW := hW.trans (if_neg (bF hb))
    have e47 := e46.trans e7
    -- set, zero
    refine q_when (b := inV (.str w0) [.str "set", .str "zero"]) (et_test (ev_inU ((W4 rfl).mono e47) (eu_tup (ea_cons ev_c (ea_cons ev_c ea_nil)) (by decide)) rfl rfl)) (fun hb H8 e8 => ?_) (fun hb H8 e8 => ?_)
    · replace hW := hW.trans (if_pos hb)
      have e48 := e47.trans e8
      by_cases h : decide (V.int (rest.length : Int) = V.int 2) = true
      · have hl2 : (rest.length : Int) = 2 := V.int.inj (of_decide_eq_true h)
        replace hW := hW.trans (if_pos h)
        have ht : EvT (tTest (tOp rEq (tCB (fun xs H Q => ∃ x n, xs = [x] ∧ LenV K x H n ∧ Q (.int n) H) (tCons (tVar 3) tNil)) (tC (.int 2)))) ((((L2.start sc_word_in_N [V.str t]).set 1 (some (.ref p))).set 2 (some (.int (idx NM w0)))).set 3 (some (.ref r))) H8 true := et_is (et_test (ev_op ((LR rfl).mono e48) ev_c (rv_eq rfl))) h
        refine ht H8 (Ex.refl _) _ fun H9 e9 => iteT ?_
        have e49 := e48.trans e9
        refine eu_tup (ea_cons (ev_reg ((RX 0 rfl (by omega)).mono e49) (RL 0 (by omega))) (ea_cons (ev_num ((RX 1 rfl (by omega)).mono e49) ev_c (RL 1 (by omega))) ea_nil)) (by show 2 ≤ 100000; decide) H9 (Ex.refl _) _ fun q H10 hq e10 h10 => ?_
        refine ⟨q, _, rfl, st_of h10, rfl, _, _, rfl, _, _, rfl, rfl, ?_⟩
        generalize hA : regIn (rest.getD 0 "") = A at hW ⊢
        generalize hB : numIn (rest.getD 1 "") 511 = B at hW ⊢
        refine s_ret (v := oV (wordIn t)) (ev_if (b := A.isNone || B.isNone) (et_or (et_is (et_test (ev_op (ev_var rfl) ev_c rv_isN)) oV_non) (fun _ => et_is (et_test (ev_op (ev_var rfl) ev_c rv_isN)) oV_non)) (fun h => ev_is ev_c ?_) (fun h => ?_)) fun H11 e11 => k4 H11 ((e49.trans e10).trans e11)
        · rw [hW]
          cases A with
          | none => rfl
          | some a => cases B with
            | none => rfl
            | some b => cases h
        · cases A with
          | none => cases h
          | some a => cases B with
            | none => cases h
            | some b =>
              rw [hW]
              exact ev_wd (ev_var rfl) (ev_var rfl) (ev_div (ev_var rfl) ev_c ⟨by decide, by decide⟩) (ev_mod (ev_var rfl) ev_c (by decide))
      · have h' : decide (V.int (rest.length : Int) = V.int 2) = false := by simpa using h
        replace hW := hW.trans (if_neg h)
        have ht : EvT (tTest (tOp rEq (tCB (fun xs H Q => ∃ x n, xs = [x] ∧ LenV K x H n ∧ Q (.int n) H) (tCons (tVar 3) tNil)) (tC (.int 2)))) ((((L2.start sc_word_in_N [V.str t]).set 1 (some (.ref p))).set 2 (some (.int (idx NM w0)))).set 3 (some (.ref r))) H8 false := et_is (et_test (ev_op ((LR rfl).mono e48) ev_c (rv_eq rfl))) h'
        refine ht H8 (Ex.refl _) _ fun H9 e9 => iteF ?_
        have e49 := e48.trans e9
        refine eu_tup (ea_cons ev_c (ea_cons ev_c ea_nil)) (by show 2 ≤ 100000; decide) H9 (Ex.refl _) _ fun q H10 hq e10 h10 => ?_
        refine ⟨q, _, rfl, st_of h10, rfl, _, _, rfl, _, _, rfl, rfl, ?_⟩
        refine s_ret (v := oV (wordIn t)) (ev_if (b := true) (et_is (et_or (et_test (ev_op (ev_var rfl) ev_c rv_isN)) (fun _ => et_test (ev_op (ev_var rfl) ev_c rv_isN))) rfl) (fun h => ev_is ev_c ?_) (fun h => by cases h)) fun H11 e11 => k4 H11 ((e49.trans e10).trans e11)
        rw [hW]
        rfl
    replace hW := hW.trans (if_neg (bF hb))
    have e48 := e47.trans e8
    -- three
    refine q_when (b := !decide (V.int (rest.length : Int) = V.int 3)) (et_test (ev_op ((LR rfl).mono e48) ev_c (rv_ne rfl))) (fun hb H9 e9 => ?_) (fun hb H9 e9 => ?_)
    · replace hW := hW.trans (if_pos hb)
      exact s_ret ev_c fun H10 e10 => by
        have := k4 H10 ((e48.trans e9).trans e10)
        rw [hW] at this
        exact this
    replace hW := hW.trans (if_neg (bF hb))
    have hl3 : (rest.length : Int) = 3 := V.int.inj (of_decide_eq_true (by simpa using hb))
    have e49 := e48.trans e9
    refine q_parVV (ev_reg ((RX 0 rfl (by omega)).mono e49) (RL 0 (by omega))) (ev_reg ((RX 1 rfl (by omega)).mono e49) (RL 1 (by omega))) fun H10 e10 => ?_
    have e410 := e49.trans e10
    refine q_asg (v := oV (if inV (.str w0) [.str "load", .str "store"] = true then numIn (rest.getD 2 "") 63 else regIn (rest.getD 2 ""))) (ev_if (b := inV (.str w0) [.str "load", .str "store"]) (et_test (ev_inU ((W4 rfl).mono e410) (eu_tup (ea_cons ev_c (ea_cons ev_c ea_nil)) (by decide)) rfl rfl)) (fun h => ?_) (fun h => ?_)) fun H11 e11 => ?_
    · rw [if_pos h]
      exact ev_num ((RX 2 rfl (by omega)).mono e410) ev_c (RL 2 (by omega))
    · rw [if_neg (bF h)]
      exact ev_reg ((RX 2 rfl (by omega)).mono e410) (RL 2 (by omega))
    generalize (if inV (.str w0) [.str "load", .str "store"] = true then numIn (rest.getD 2 "") 63 else regIn (rest.getD 2 "")) = C at hW ⊢
    generalize hA : regIn (rest.getD 0 "") = A at hW ⊢
    generalize hB : regIn (rest.getD 1 "") = B at hW ⊢
    refine s_ret (v := oV (wordIn t)) (ev_if (b := A.isNone || (B.isNone || C.isNone)) (et_or (et_is (et_test (ev_op (ev_var rfl) ev_c rv_isN)) oV_non) (fun _ => et_or (et_is (et_test (ev_op (ev_var rfl) ev_c rv_isN)) oV_non) (fun _ => et_is (et_test (ev_op (ev_var rfl) ev_c rv_isN)) oV_non))) (fun h => ev_is ev_c ?_) (fun h => ?_)) fun H12 e12 => k4 H12 ((e410.trans e11).trans e12)
    · rw [hW]
      cases A with
      | none => rfl
      | some a => cases B with
        | none => rfl
        | some b => cases C with
          | none => rfl
          | some c => cases h
    · cases A with
      | none => cases h
      | some a => cases B with
        | none => cases h
        | some b => cases C with
          | none => cases h
          | some c =>
            rw [hW]
            exact ev_wd (ev_var rfl) (ev_var rfl) (ev_var rfl) (ev_var rfl)
end
end KA

namespace KA
open PySem PySem.Spec PyProof.Rows L2 Evl TL
section
variable {σ : L2.St} {H : Hp} {K : PySem.W.Frag} {D : Ends}
/-- a statement that gives the slot i the value v, whatever way it goes -/
def Sets (ts : TS) (i : Nat) (σ : L2.St) (H : Hp) (v : V) : Prop := ∀ H1, Ex H H1 → ∀ D : Ends, (∀ H2, Ex H1 H2 → D.nx (σ.set i (some v)) H2) → ts D σ H1
theorem sets_asg {te : TE} {i : Nat} {v : V} (h : Ev te σ H v) : Sets (tAsg te (gName i)) i σ H v := fun H1 e D k => h H1 e _ fun H2 e2 => k H2 e2
theorem sets_if {t : TT} {u w : TS} {i : Nat} {v : V} {b : Bool} (h : EvT t σ H b) (h1 : b = true → Sets u i σ H v) (h2 : b = false → Sets w i σ H v) : Sets (tIfS t u w) i σ H v := fun H1 e D k => h H1 e _ fun H2 e2 => by
  cases b with
  | true => exact iteT (h1 rfl H2 (e.trans e2) D fun H3 e3 => k H3 (e2.trans e3))
  | false => exact iteF (h2 rfl H2 (e.trans e2) D fun H3 e3 => k H3 (e2.trans e3))
theorem q_sets {t tz : TS} {i : Nat} {v : V} (h : Sets t i σ H v) (k : ∀ H1, Ex H H1 → tz D (σ.set i (some v)) H1) : tSeq t tz D σ H := h H (Ex.refl H) _ k
/-- x + y of texts -/
theorem ev_cat {ta tb : TE} {a b : Str} (ha : Ev ta σ H (.str a)) (hb : Ev tb σ H (.str b)) (h : a.length + b.length ≤ 100000) : Ev (tOp (fun x y H Q => ∃ i j, x = .str i ∧ y = .str j ∧ i.length + j.length ≤ sizeLine ∧ Q (.str (i ++ j)) H) ta tb) σ H (.str (a ++ b)) :=
  ev_op ha hb fun H1 _ Q q => ⟨a, b, rfl, rfl, sz_of h, q H1 (Ex.refl H1)⟩
end
/-- str of a number -/
def sI (n : Int) : Str := Str.ofString (toString n)
theorem tl_sI {n : Int} (h : 0 ≤ n) : tl (sI n) = numL n.toNat := by
  have e : n = ((n.toNat : Nat) : Int) := by omega
  unfold sI
  conv => lhs; rw [e]
  exact tl_num n.toNat
theorem sI_len {n : Int} (h : 0 ≤ n) (h2 : n < 100000) : (sI n).length ≤ 5 := by
  rw [len_tl, tl_sI h]
  exact numL_len (by decide) (by have : (10:Nat) ^ 5 = 100000 := by decide
                                 omega)
theorem log_small {n : Int} (h : 0 ≤ n) (h2 : n < 100000) : n.natAbs.log2 < 1920 := by
  have : n.natAbs < 2 ^ 1920 := by
    have h3 : n.natAbs < 100000 := by omega
    refine Nat.lt_trans h3 ?_
    decide +kernel
  by_cases h0 : n.natAbs = 0
  · rw [h0]; decide
  · exact (Nat.log2_lt h0).mpr this
section
variable {σ : L2.St} {H : Hp}
theorem ev_str {ta : TE} {n : Int} (ha : Ev ta σ H (.int n)) (h : 0 ≤ n) (h2 : n < 100000) : Ev (tCB (fun xs H Q => ∃ i : Int, xs = [.int i] ∧ i.natAbs.log2 < 1920 ∧ Q (.str (Str.ofString (toString i))) H) (tCons ta tNil)) σ H (.str (sI n)) := fun H1 e Q q =>
  ha H1 e _ fun H2 e2 => ⟨n, rfl, log_small h h2, q H2 e2⟩
end
theorem app_len (a b : Str) : (a ++ b).length = a.length + b.length := by
  rw [len_tl, len_tl, len_tl, tl_append, List.length_append]
def rowText (x : Int) : Str :=
  if decide (V.int (x / 4096) = V.int 0) = true then NM.getD (x / 4096).toNat ""
  else if inV (.str (NM.getD (x / 4096).toNat "")) [.str "set", .str "zero"] = true then NM.getD (x / 4096).toNat "" ++ " r" ++ sI (x / 512 % 8) ++ " " ++ sI (x / 64 % 8 * 64 + x % 64)
  else if decide (V.str (NM.getD (x / 4096).toNat "") = V.str "jump") = true then NM.getD (x / 4096).toNat "" ++ " " ++ sI (x / 64 % 8 * 64 + x % 64)
  else if inV (.str (NM.getD (x / 4096).toNat "")) [.str "load", .str "store"] = true then NM.getD (x / 4096).toNat "" ++ " r" ++ sI (x / 512 % 8) ++ " r" ++ sI (x / 64 % 8) ++ " " ++ sI (x % 64)
  else if decide (V.str (NM.getD (x / 4096).toNat "") = V.str "trap") = true then NM.getD (x / 4096).toNat "" ++ " " ++ (if decide (x % 64 < 20) = true then TR.getD (x % 64).toNat "" else sI (x % 64))
  else NM.getD (x / 4096).toNat "" ++ " r" ++ sI (x / 512 % 8) ++ " r" ++ sI (x / 64 % 8) ++ " r" ++ sI (x % 64 % 8)
def rowOf (x : Int) : Str := if decide (12 ≤ x / 4096) = true then sI x else if decide (oV (wordIn (rowText x)) = V.int x) = true then rowText x else sI x
theorem NM_len (i : Nat) : (NM.getD i "").length ≤ 5 := by
  by_cases h : i < 12
  · have : ∀ i < 12, (NM.getD i "").length ≤ 5 := by decide +kernel
    exact this i h
  · rw [List.getD, List.getElem?_eq_none (by show 12 ≤ i; omega)]
    decide
theorem TR_len (i : Nat) : (TR.getD i "").length ≤ 9 := by
  by_cases h : i < 20
  · have : ∀ i < 20, (TR.getD i "").length ≤ 9 := by decide +kernel
    exact this i h
  · rw [List.getD, List.getElem?_eq_none (by show 20 ≤ i; omega)]
    decide
section
variable {P : Program} {w : World} {K : PySem.W.Frag} {mg : Str → Option Value} {base : Heap}
def sp_row_of : Sp := fun vs H Q _ => ∃ (x : Int), vs = [.int x] ∧ 0 ≤ x ∧ x < 65536 ∧ ∀ H', Ex H H' → Q (.str (rowOf x)) H'
theorem ok_row_of (T : Txt K mg) : FnOk P w K mg base CX0 3 (f_row_of K) (fd_row_of K) ["word"] sp_row_of := by
  refine T.fn_row_of.ok sc_row_of (fun vs H Q E h => ?_) (fun cdv A outer s H vs Q E hr h => ⟨_, PSs.nox (pss_cons (ps_asg (pe_call (ok_parts_of T) (hr.mono (by decide)) (by rfl) (T.glo_parts_of) (T.kp_parts_of) (T.bd_parts_of) .nil pass0 (pa_cons (pv 0) pa_nil)) (pg_tup (by rfl) (pgs_cons (pg_name (i := 1) sc_row_of.nd rfl (Or.inl rfl)) (pgs_cons (pg_name (i := 2) sc_row_of.nd rfl (Or.inl rfl)) (pgs_cons (pg_name (i := 3) sc_row_of.nd rfl (Or.inl rfl)) (pgs_cons (pg_name (i := 4) sc_row_of.nd rfl (Or.inl rfl)) pgs_nil)))))) (pss_cons (ps_if (pt_cmpR op_ge (pv 1) (pe_callB call_len (by rfl) T.free_len PySem.boot_len (pa_cons (T.pg_NAMES) pa_nil)) (nomark _)) (pss_one (ps_ret (pe_callTy call_str_int (by rfl) T.free_str (by decide +kernel) (pa_cons (pv 0) pa_nil)))) pss_nil) (pss_cons (ps_set (i := 5) sc_row_of.nd rfl (Or.inl rfl) (pe_ix ix_tup (T.pg_NAMES) (pv 1) (fun _ _ => rfl))) (pss_cons (ps_if (pt_cmpR op_eq (pv 1) pe_int (nomark _)) (pss_one (ps_set (i := 6) sc_row_of.nd rfl (Or.inl rfl) (pv 5))) (pss_one (ps_if (pt_cmpR op_in_seq (pv 5) (pe_tup (pa_cons pe_str (pa_cons pe_str pa_nil))) (by rfl)) (pss_one (ps_set (i := 6) sc_row_of.nd rfl (Or.inl rfl) (pe_op op_add_str (pe_op op_add_str (pe_op op_add_str (pe_op op_add_str (pv 5) pe_str) (pe_callTy call_str_int (by rfl) T.free_str (by decide +kernel) (pa_cons (pv 2) pa_nil))) pe_str) (pe_callTy call_str_int (by rfl) T.free_str (by decide +kernel) (pa_cons (pe_op op_add (pe_op op_mul (pv 3) pe_int) (pv 4)) pa_nil))))) (pss_one (ps_if (pt_cmpR op_eq (pv 5) pe_str (nomark _)) (pss_one (ps_set (i := 6) sc_row_of.nd rfl (Or.inl rfl) (pe_op op_add_str (pe_op op_add_str (pv 5) pe_str) (pe_callTy call_str_int (by rfl) T.free_str (by decide +kernel) (pa_cons (pe_op op_add (pe_op op_mul (pv 3) pe_int) (pv 4)) pa_nil))))) (pss_one (ps_if (pt_cmpR op_in_seq (pv 5) (pe_tup (pa_cons pe_str (pa_cons pe_str pa_nil))) (by rfl)) (pss_one (ps_set (i := 6) sc_row_of.nd rfl (Or.inl rfl) (pe_op op_add_str (pe_op op_add_str (pe_op op_add_str (pe_op op_add_str (pe_op op_add_str (pe_op op_add_str (pv 5) pe_str) (pe_callTy call_str_int (by rfl) T.free_str (by decide +kernel) (pa_cons (pv 2) pa_nil))) pe_str) (pe_callTy call_str_int (by rfl) T.free_str (by decide +kernel) (pa_cons (pv 3) pa_nil))) pe_str) (pe_callTy call_str_int (by rfl) T.free_str (by decide +kernel) (pa_cons (pv 4) pa_nil))))) (pss_one (ps_if (pt_cmpR op_eq (pv 5) pe_str (nomark _)) (pss_one (ps_set (i := 6) sc_row_of.nd rfl (Or.inl rfl) (pe_op op_add_str (pe_op op_add_str (pv 5) pe_str) (pe_ifExp (pt_cmpR op_lt (pv 4) (pe_callB call_len (by rfl) T.free_len PySem.boot_len (pa_cons (T.pg_TRAPS) pa_nil)) (nomark _)) (pe_ix ix_tup (T.pg_TRAPS) (pv 4) (fun _ _ => rfl)) (pe_callTy call_str_int (by rfl) T.free_str (by decide +kernel) (pa_cons (pv 4) pa_nil)))))) (pss_one (ps_set (i := 6) sc_row_of.nd rfl (Or.inl rfl) (pe_op op_add_str (pe_op op_add_str (pe_op op_add_str (pe_op op_add_str (pe_op op_add_str (pe_op op_add_str (pv 5) pe_str) (pe_callTy call_str_int (by rfl) T.free_str (by decide +kernel) (pa_cons (pv 2) pa_nil))) pe_str) (pe_callTy call_str_int (by rfl) T.free_str (by decide +kernel) (pa_cons (pv 3) pa_nil))) pe_str) (pe_callTy call_str_int (by rfl) T.free_str (by decide +kernel) (pa_cons (pe_op op_mod (pv 4) pe_int) pa_nil)))))))))))))) (pss_one (ps_ret (pe_ifExp (pt_cmpR op_eq (pe_call (ok_word_in T) (hr.mono (by decide)) (by rfl) (T.glo_word_in) (T.kp_word_in) (T.bd_word_in) .nil pass0 (pa_cons (pv 6) pa_nil)) (pv 0) (nomark _)) (pv 6) (pe_callTy call_str_int (by rfl) T.free_str (by decide +kernel) (pa_cons (pv 0) pa_nil))))))))), ?_⟩)
  · obtain ⟨_, rfl, _⟩ := h
    rfl
  · obtain ⟨x, rfl, x0, x1, k⟩ := h
    refine ⟨_, rfl, x, rfl, fun p hp => ⟨p, _, rfl, st_of upd_same, rfl, _, _, rfl, _, _, rfl, _, _, rfl, _, _, rfl, rfl, ?_⟩⟩
    have e1 : Ex H (upd H p (.tup (partsV x))) := Ex.new hp
    generalize upd H p (.tup (partsV x)) = H1 at e1 ⊢
    have k1 : ∀ H', Ex H1 H' → Q (.str (rowOf x)) H' := fun H' e => k H' (e1.trans e)
    have hop : 0 ≤ x / 4096 ∧ x / 4096 < 16 := by omega
    refine q_when (b := decide (12 ≤ x / 4096)) (et_test (ev_op (ev_var rfl) (ev_lenT ev_c (T.tup_NAMES _)) rv_I0)) (fun hb H2 e2 => ?_) (fun hb H2 e2 => ?_)
    · refine s_ret (ev_str (ev_var rfl) x0 (by omega)) fun H3 e3 => ?_
      have := k1 H3 (e2.trans e3)
      rw [show rowOf x = sI x from if_pos hb] at this
      exact this
    have hop2 : x / 4096 < 12 := by
      have := of_decide_eq_false hb
      omega
    have hR : rowOf x = _ := if_neg (bF hb)
    have hop3 : (x / 4096).toNat < 12 := by omega
    refine q_asg (v := .str (NM.getD (x / 4096).toNat "")) (ev_op ev_c (ev_var rfl) (rv_ixT (T.tup_NAMES _) ?_)) fun H3 e3 => ?_
    · have : x / 4096 = (((x / 4096).toNat : Nat) : Int) := by omega
      rw [this]
      refine atI_nat ?_
      rw [NM_v, List.getElem?_map, List.getElem?_eq_getElem (by show _ < 12; omega), List.getD, List.getElem?_eq_getElem (by show _ < 12; omega)]
      rfl
    have hnl := NM_len (x / 4096).toNat
    have la := sI_len (n := x / 512 % 8) (by omega) (by omega)
    have lb := sI_len (n := x / 64 % 8) (by omega) (by omega)
    have lc := sI_len (n := x % 64) (by omega) (by omega)
    have lc8 := sI_len (n := x % 64 % 8) (by omega) (by omega)
    have lbc := sI_len (n := x / 64 % 8 * 64 + x % 64) (by omega) (by omega)
    have l1 : (" r" : Str).length = 2 := by decide +kernel
    have l2 : (" " : Str).length = 1 := by decide +kernel
    have hTl : (rowText x).length ≤ 100 := by
      have := TR_len (x % 64).toNat
      unfold rowText
      split
      · omega
      split
      · simp only [app_len]; omega
      split
      · simp only [app_len]; omega
      split
      · simp only [app_len]; omega
      split
      · split <;> (simp only [app_len]; omega)
      · simp only [app_len]; omega
    refine q_sets (i := 6) (v := .str (rowText x)) ?_ fun H4 e4 => ?_
    · unfold rowText
      refine sets_if (b := decide (V.int (x / 4096) = V.int 0)) (et_test (ev_op (ev_var rfl) ev_c (rv_eq rfl))) (fun h => ?_) (fun h => ?_)
      · rw [if_pos h]
        exact sets_asg (ev_var rfl)
      rw [if_neg (bF h)]
      refine sets_if (et_test (ev_inU (ev_var rfl) (eu_tup (ea_cons ev_c (ea_cons ev_c ea_nil)) (by decide)) rfl rfl)) (fun h => ?_) (fun h => ?_)
      · rw [if_pos h]
        exact sets_asg (ev_cat (ev_cat (ev_cat (ev_cat (ev_var rfl) ev_c (by omega)) (ev_str (ev_var rfl) (by omega) (by omega)) (by simp only [app_len]; omega)) ev_c (by simp only [app_len]; omega)) (ev_str (ev_op (ev_op (ev_var rfl) ev_c (rv_I (.inr ⟨by decide, by decide⟩))) (ev_var rfl) rv_I0) (by omega) (by omega)) (by simp only [app_len]; omega))
      rw [if_neg (bF h)]
      refine sets_if (et_test (ev_op (ev_var rfl) ev_c (rv_eq rfl))) (fun h => ?_) (fun h => ?_)
      · rw [if_pos h]
        exact sets_asg (ev_cat (ev_cat (ev_var rfl) ev_c (by omega)) (ev_str (ev_op (ev_op (ev_var rfl) ev_c (rv_I (.inr ⟨by decide, by decide⟩))) (ev_var rfl) rv_I0) (by omega) (by omega)) (by simp only [app_len]; omega))
      rw [if_neg (bF h)]
      refine sets_if (et_test (ev_inU (ev_var rfl) (eu_tup (ea_cons ev_c (ea_cons ev_c ea_nil)) (by decide)) rfl rfl)) (fun h => ?_) (fun h => ?_)
      · rw [if_pos h]
        exact sets_asg (ev_cat (ev_cat (ev_cat (ev_cat (ev_cat (ev_cat (ev_var rfl) ev_c (by omega)) (ev_str (ev_var rfl) (by omega) (by omega)) (by simp only [app_len]; omega)) ev_c (by simp only [app_len]; omega)) (ev_str (ev_var rfl) (by omega) (by omega)) (by simp only [app_len]; omega)) ev_c (by simp only [app_len]; omega)) (ev_str (ev_var rfl) (by omega) (by omega)) (by simp only [app_len]; omega))
      rw [if_neg (bF h)]
      refine sets_if (et_test (ev_op (ev_var rfl) ev_c (rv_eq rfl))) (fun h => ?_) (fun h => ?_)
      · rw [if_pos h]
        have := TR_len (x % 64).toNat
        refine sets_asg (ev_cat (ev_cat (ev_var rfl) ev_c (by omega)) (ev_if (b := decide (x % 64 < 20)) (et_test (ev_op (ev_var rfl) (ev_lenT ev_c (T.tup_TRAPS _)) rv_I0)) (fun h2 => ?_) (fun h2 => ?_)) (by split <;> (simp only [app_len]; omega)))
        · rw [if_pos h2]
          refine ev_op ev_c (ev_var rfl) (rv_ixT (T.tup_TRAPS _) ?_)
          have h3 := of_decide_eq_true h2
          have : x % 64 = (((x % 64).toNat : Nat) : Int) := by omega
          rw [this]
          refine atI_nat ?_
          have h4 : (x % 64).toNat < TR.length := by show _ < 20; omega
          simp only [Int.toNat_natCast]
          rw [TR_v, List.getElem?_map, List.getElem?_eq_getElem h4, List.getD, List.getElem?_eq_getElem h4]
          rfl
        · rw [if_neg (bF h2)]
          exact ev_str (ev_var rfl) (by omega) (by omega)
      rw [if_neg (bF h)]
      exact sets_asg (ev_cat (ev_cat (ev_cat (ev_cat (ev_cat (ev_cat (ev_var rfl) ev_c (by omega)) (ev_str (ev_var rfl) (by omega) (by omega)) (by simp only [app_len]; omega)) ev_c (by simp only [app_len]; omega)) (ev_str (ev_var rfl) (by omega) (by omega)) (by simp only [app_len]; omega)) ev_c (by simp only [app_len]; omega)) (ev_str (ev_mod (ev_var rfl) ev_c (by decide)) (by omega) (by omega)) (by simp only [app_len]; omega))
    refine s_ret (v := .str (rowOf x)) (ev_if (b := decide (oV (wordIn (rowText x)) = V.int x)) (et_test (ev_op (ev_pure (ea_cons (ev_var rfl) ea_nil) fun H1 _ Q q => ⟨rowText x, rfl, by omega, q⟩) (ev_var rfl) (rv_eq ?_))) (fun h => ev_is (ev_var rfl) ?_) (fun h => ev_is (ev_str (ev_var rfl) x0 (by omega)) ?_)) fun H5 e5 => k1 H5 (((e2.trans e3).trans e4).trans e5)
    · cases wordIn (rowText x) <;> rfl
    · rw [hR, if_pos h]
    · rw [hR, if_neg (bF h)]
end
end KA

namespace KA
open PySem PySem.Spec PyProof.Rows L2
open PySem.W (Frag Looks)
/-! ### super().__init__('..'); self.f = e in an own error's __init__ (its base's: ValueError) -/
theorem call_mw {prog : Program} {w : World} {A : Around} {E : Value → Shared → Prop} {h : Heap} {g : Array GenState} {d : Drawn} {t : Nat} {os : OsState}
    {nm q : Str} {C N : Addr} {bs bm : List Value} {hdct : Bool} {sn : List Str} {sub : List Value} {ab : Bool} {col : Option Bool} {dd : Option Addr} {k0 k1 k2 k3 k5 : Option Value} {u e t0 : Addr} {rest : List Value} {Q : Value → Shared → Prop}
    (hC : h.get? C = some (excClassObj nm q C N bs bm hdct sn sub ab col dd k0 k1 k2 k3 k5 "ValueError.__new__")) (he : h.get? e = some (PySem.HandSPX.excO C t0)) (hu : h.get? u = some (PySem.W.kxs_mw "ValueError.__init__" e)) (hrest : rest.length ≤ sizeLine)
    (hq : ∀ h' t1, (∀ b o, b ≠ e → h.get? b = some o → h'.get? b = some o) → h'.get? e = some (PySem.HandSPX.excO C t1) → Q .none ⟨h', g, d, t, os⟩) :
    wpAny (model prog w) A (call (.ref u) rest) Q E ⟨h, g, d, t, os⟩ := by
  refine wpAny_call (codeAny_of_tree ?_)
  show wpAny _ A.in1 (callAny (.ref u) ⟨rest, []⟩) _ _ _
  simp only [callAny]
  refine wpAny_bind (wpAny_load hu ?_)
  simp only [PySem.W.kxs_mw, show (Value.type "method-wrapper" == Value.type "method" || Value.type "method-wrapper" == Value.type "builtin_function_or_method" || Value.type "method-wrapper" == Value.type "method-wrapper") = true by decide, if_true]
  refine PySem.W.KFB.if_so (by decide) ?_
  refine wpAny_bind (PySem.W.check_bound_init F.excBase_ValueError.toExcCallFacts hC he rfl ?_)
  refine wpAny_bind (wpAny_pure (wpAny_pure ?_))
  refine ⟨Code.quiet_builtin _ (by decide +kernel), codeAny_builtin F.excBase_ValueError.initEntry ?_⟩
  rw [Around.under_plainId F.excBase_ValueError.init.plain _]
  wp_walk
  refine hq _ h.objs.size (fun b o hb ho => ?_) ?_
  · rw [Heap.get?_update_other _ _ (Ne.symm hb)]
    exact Heap.get?_push_of_some _ ho
  · rw [Heap.get?_update_self _ (Heap.get?_push_of_some _ he) rfl]
    rfl
/-- what is told of such an __init__ at f, of the class at C -/
structure SupF (prog : Program) (K : Frag) (C f : Addr) (qual : Str) (params : Arguments) (body : List Stmt) (scope : Scope) (fd : FuncData) : Prop where
  fn : ∃ (oc kV doc pm ct ccl cl : Value) (od an cdd cld : Option Addr) (cda cc : Addr) (osl ccs csl : Array (Option Value)) (vs : Array Value) (file : Str) (tf : Tok),
    fd = PySem.W.ksFn "__init__" qual params body scope .none kV doc pm an (.ref cda) ct cc ∧ K.lookup f = some ⟨oc, od, .func fd, osl⟩ ∧ PySem.W.codeIn K (.ref cda) qual = true ∧
    K.lookup cda = some ⟨ccl, cdd, .fields vs, ccs⟩ ∧ vs[2]? = some (.str file tf) ∧ ((prog.main.file : Str) == file) = true ∧ K.lookup cc = some ⟨cl, cld, .cell (some (.ref C)), csl⟩
  dat : ∃ cd, PySem.W.clsIn K C = some cd
  sub : PySem.W.mroIn K C (.ref C) = some true
  sve : PySem.W.subIn K (.ref C) (.type "ValueError") = some true
  sup : PySem.W.nsIn K mainGlobals "super" = some none
  tp : PySem.W.nsIn K cStatics "thirdparty.any" = some none
  ini : PySem.W.ks_superIn K C C "__init__" = some (some (.builtin "ValueError.__init__"))
  top : (prog.main.scope.names.lookup ("super" : Str)).isSome = false
/-- its promise -/
def sp_exc (C : Addr) : Sp := fun vs H Q _ => ∃ (a : Addr) (v : V), vs = [.ref a, v] ∧ H a = some (exo a C none) ∧ ∀ dx, H dx = none → dx ≠ a → Q .non (upd (upd H dx (exd dx [("line", v)])) a (exo a C (some dx)))
section
variable {P : Program} {w : World} {K : Frag} {mg : Str → Option Value} {base : Heap} {C f : Addr} {qual : Str} {params : Arguments} {scope : Scope} {fd : FuncData}
/-- the context of such a body -/
abbrev cxS (P : Program) (w : World) (K : Frag) (mg : Str → Option Value) (base : Heap) (env : Env) (A : Around) (outer : List Env) (s : Shared) (H : Hp) : Cx where
  prog := P
  w := w
  K := K
  mg := mg
  base := base
  A := A.deeper env
  N := ["self", "line"]
  s_0 := s
  H_0 := H
  env := env
  outer := outer
  stack := env :: outer
  ex := []
  calm := true
  fn := fun _ => false
  pn := []
  xe := fun _ _ => False
def nmI : List (Str × NameKind) := [("self", NameKind.local), ("line", NameKind.local), ("__class__", NameKind.free), ("super", NameKind.globalImplicit)]
theorem fn_super {z : Str} {k1 : Nat} {p0 p1 pa pz pc pe ps pq pl pS : Pos}
    (S : SupF P K C f qual params [.Expr (.Call (.Attribute (.Call (.Name "super" p0) [] [] p1) "__init__" pa) [.Constant (.str z) k1 pz] [] pc) pe, .Assign [.Attribute (.Name "self" ps) "line" pq] (.Name "line" pl) pS] scope fd)
    (T : OexC K C) (hno : PySem.W.findIn K (.ref C) "line" = some none) {ar : Arg} (hpar : (params.posonlyargs ++ params.args).head? = some ar) (har : ar.arg = "self")
    (hn : scope.names = nmI)
    (hk : scope.kind = .function) (hco : scope.isCoroutine = false) (hgen : scope.isGenerator = false)
    (pl0 : Env → Sem Bool)
    (hev : ∀ env : Env, eval (.Call (.Attribute (.Call (.Name "super" p0) [] [] p1) "__init__" pa) [.Constant (.str z) k1 pz] [] pc) env = (do
      let ov ← attributeBase (.Call (.Name "super" p0) [] [] p1) "__init__" env (eval (.Call (.Name "super" p0) [] [] p1) env)
      standAt pa.atName
      let (f, first) ← holding [ov] (getMethod ov "__init__" (pl0 env))
      callWith pc f first (backTo pc (starEach [.Constant (.str z) k1 pz] env)) []))
    (hsw : ∀ env : Env, swapsWith (.Call (.Attribute (.Call (.Name "super" p0) [] [] p1) "__init__" pa) [.Constant (.str z) k1 pz] [] pc) none pe.line env = pure false)
    (hsw2 : ∀ env : Env, swapsWith (.Name "line" pl) (some (.Attribute (.Name "self" ps) "line" pq)) pS.line env = pure false) :
    FnOk P w K mg base CX0 1 f fd ["self", "line"] (sp_exc C) := by
  refine ⟨fun vs H Q E h => by obtain ⟨a, v, rfl, _⟩ := h; rfl, fun A outer s H args us vs Q E hr e0 hb r hsp => ?_⟩
  obtain ⟨a, v, rfl, ha, kk⟩ := hsp
  obtain ⟨oc, kV, doc, pm, ct, ccl, cl, od, an, cdd, cld, cda, cc, osl, ccs, csl, vs, file, tf, rfl, lk, hcd, lcd, hvs, hfile, lcc⟩ := S.fn
  obtain ⟨cd, hcd2⟩ := S.dat
  obtain ⟨u0, u, rfl, r0, ru⟩ : ∃ u0 u, us = [u0, u] ∧ RelV (.ref a) u0 ∧ RelV v u := by
    cases r with
    | cons p q => cases q with
      | cons p' q' => cases q'; exact ⟨_, _, rfl, p, p'⟩
  obtain rfl : u0 = Value.ref a := r0
  have KB : K.In base := e0.mod.kin
  have KX : K.In s.heap := KB.keeps fun b o e => (e0.bs b o e).1
  have lim : s.heap.NoLimit := e0.mod.nolimit.keeps fun b o e => (e0.bs b o e).1
  have lself : scope.names.lookup ("self" : Str) = some .local := by rw [hn]; decide +kernel
  have lline : scope.names.lookup ("line" : Str) = some .local := by rw [hn]; decide +kernel
  have lsup : scope.names.lookup ("super" : Str) = some .globalImplicit := by rw [hn]; decide +kernel
  have lcls : scope.names.lookup ("__class__" : Str) = some .free := by rw [hn]; decide +kernel
  have lfree : ∀ x, scope.names.lookup x = some .cell ∨ scope.names.lookup x = some .free → x = "__class__" := fun x hx => by
    rw [hn] at hx
    have h4 : ∀ (l : List (Str × NameKind)), (∀ q ∈ l, q.2 = .cell ∨ q.2 = .free → q.1 = "__class__") → ∀ x, l.lookup x = some .cell ∨ l.lookup x = some .free → x = "__class__" := by
      intro l hl x hx
      rcases hx with h | h
      · exact hl _ (PySem.mem_of_lookup h) (.inl rfl)
      · exact hl _ (PySem.mem_of_lookup h) (.inr rfl)
    exact h4 nmI (by decide +kernel) x hx
  refine ks_codeAny_call_defAt hr.depth (KX _ _ lk) rfl lim (PySem.W.codeRec_of KX hcd) rfl hb ?_ ?_ (fun h0 hns hk0 => ?_) hco hgen hk
  · intro x hx
    have hx' : x ∈ nmI := by rw [← hn]; exact hx
    have h5 : ∀ x ∈ nmI, x.2 ≠ .cell := by decide +kernel
    exact h5 x hx'
  · intro x hx
    have : x = (("self" : Str), Value.ref a) ∨ x = (("line" : Str), u) := by simpa using hx
    rcases this with rfl | rfl
    · exact lself
    · exact lline
  have hcB : base.get? cc = some ⟨cl, cld, .cell (some (.ref C)), csl⟩ := KB _ _ lcc
  have hcS := (e0.bs _ _ hcB)
  generalize henv : PySem.W.ksEnv qual scope s.heap.objs.size f (.ref cda) cc = env
  have hsc : env.scope = scope := by rw [← henv]
  have hloc : env.locals = s.heap.objs.size := by rw [← henv]
  have hcells : env.cells = [(("__class__" : Str), cc)] := by rw [← henv]
  have hself : "self" ≠ ("line" : Str) := by decide +kernel
  have hfr : A.frames = some outer := e0.frames
  have lk1 : ∀ x c, env.cells.lookup x = some c → x = "__class__" ∧ c = cc := fun x c h => by
    rw [hcells] at h
    have := PySem.mem_of_lookup h
    simp at this
    exact this
  have hH0 : H s.heap.objs.size = none := e0.hok.fresh (Nat.le_refl _)
  have I : Inv (cxS P w K mg base env A outer s H) [] [some (.ref a), some v] H ⟨h0, s.gens, s.drawn, s.toks + 2, s.os⟩ := by
    refine ⟨⟨e0.mod, by rw [hsc]; exact hk, by rw [← henv], by rw [← henv], by rw [hloc]; exact Nat.le_refl _, ?_, ?_, ?_, fun _ => hr.hd, ?_, ?_, ?_, e0.bs, e0.bsz, ?_, ?_, e0.funs, e0.frf⟩, rfl, e0.bare, Un.kept hk0, ⟨_, by rw [hloc]; exact hns, ?_⟩, ?_, by rw [hloc]; exact hH0, ?_, ?_, e0.hok.kept hk0, rfl⟩
    · intro x y c h1 h2
      rw [(lk1 x c h1).1, (lk1 y c h2).1]
    · intro x hx
      have hx' : x = "__class__" := lfree x (by
        rcases hx with h | h
        · exact .inl (by rw [← hsc]; exact h)
        · exact .inr (by rw [← hsc]; exact h))
      have e : (("__class__" : Str) == "__class__") = true := by decide +kernel
      exact ⟨cc, by rw [hx', hcells]; simp only [List.lookup, e]⟩
    · intro x c h
      cases h
    · exact Around.frames_deeper hfr
    · exact .inr ⟨rfl, by rw [← henv]⟩
    · intro b hb
      exact absurd (show b ∈ ([] : List Addr) from hb) (by simp)
    · intro b o _ hb
      exact absurd (show b ∈ ([] : List Addr) from hb) (by simp)
    · intro b hb
      exact absurd (show b ∈ ([] : List Addr) from hb) (by simp)
    · intro i x y h1 h2 h3
      match i, h1, h2 with
      | 0, h1, h2 =>
        obtain rfl : x = "self" := (Option.some.inj h1).symm
        obtain rfl : V.ref a = y := by simpa using h2
        refine ⟨_, rfl, .inl ⟨by rw [Env.kindOf, hsc]; exact lself, ?_⟩⟩
        show List.lookup ("self" : Str) [(("line" : Str), u), (("self" : Str), Value.ref a)] = _
        have b1 : (("self" : Str) == "line") = false := by decide +kernel
        have b2 : (("self" : Str) == "self") = true := by decide +kernel
        simp only [List.lookup, b1, b2]
      | 1, h1, h2 =>
        obtain rfl : x = "line" := (Option.some.inj h1).symm
        obtain rfl : v = y := by simpa using h2
        refine ⟨_, ru, .inl ⟨by rw [Env.kindOf, hsc]; exact lline, ?_⟩⟩
        show List.lookup ("line" : Str) [(("line" : Str), u), (("self" : Str), Value.ref a)] = _
        have b2 : (("line" : Str) == "line") = true := by decide +kernel
        simp only [List.lookup, b2]
      | i + 2, h1, h2 => simp at h2
    · intro x c h
      obtain ⟨_, rfl⟩ := lk1 x c h
      exact ⟨_, _, hk0 _ _ hcS.1, rfl⟩
    · intro x c h
      obtain ⟨_, rfl⟩ := lk1 x c h
      exact hcS.2
    · intro p hp
      exact absurd (show p ∈ ([] : List (Addr × Obj)) from hp) (by simp)
  have hE : callEnv (PySem.W.ksFn "__init__" qual params [.Expr (.Call (.Attribute (.Call (.Name "super" p0) [] [] p1) "__init__" pa) [.Constant (.str z) k1 pz] [] pc) pe, .Assign [.Attribute (.Name "self" ps) "line" pq] (.Name "line" pl) pS] scope .none kV doc pm an (.ref cda) ct cc) s.heap.objs.size f = env := henv
  rw [hE]
  obtain ⟨nm, q, N, bs, bm, sn, sub, ab, col, dd, k0, k1', k2, k3, k5, hC, hbm⟩ := T.cls
  have KI : K.In h0 := KX.keeps hk0
  obtain ⟨t1, hx⟩ := exo_at I.hok ha
  have hkS : env.kindOf "super" = some .globalImplicit := by rw [Env.kindOf, hsc]; exact lsup
  have hkC : env.kindOf "__class__" = some .free := by rw [Env.kindOf, hsc]; exact lcls
  refine ks_wpAt_execs_cons (ks_wpAt_Expr_any (ks_wpAt_MethodCall (pl := pl0 env) (ks_wpAt_super_base hkS hkC (by decide +kernel) (by rw [← henv]) (KI _ _ lk) rfl hpar (by rw [← henv]) (KI _ _ lcd) rfl hvs hfile S.top ?_) (hev env)) I.quiet (hsw env))
  obtain ⟨mb, hb1, hb2⟩ := I.mod.blt
  refine PySem.W.ks_loadName_global (by rw [hsc]; exact hk) hkS (Calls.loadGlobal_builtin (by rw [I.ok.glob]; exact I.mod.glob.keeps I.bk) (PySem.W.mg_none_of KB e0.mod.glob S.sup) (by rw [I.ok.blt]; exact hb1.keeps I.bk) ((hb2 _ (by decide +kernel)).trans (by first | boot_by_name | rfl | kernel_rfl)) ⟨rfl, ?_⟩)
  refine wpAny_loadName_free (by rw [hsc]; exact hk) hkC (by rw [hcells]; rfl) ⟨_, hk0 _ _ hcS.1, rfl⟩ ?_
  refine wpAny_loadName_local (by rw [hsc]; exact hk) (by rw [Env.kindOf, hsc, har]; exact lself) (m := fun x => List.lookup x [(("line" : Str), u), (("self" : Str), Value.ref a)]) (v := .ref a) (by rw [hloc]; exact hns) (by
    rw [har]
    have b1 : (("self" : Str) == "line") = false := by decide +kernel
    have b2 : (("self" : Str) == "self") = true := by decide +kernel
    simp only [List.lookup, b1, b2]) ?_
  obtain ⟨oD, hD1, hD2⟩ : ∃ oD, h0.get? C = some oD ∧ oD.data = .cls cd := by
    have hD := hcd2
    unfold PySem.W.clsIn at hD
    split at hD
    · rename_i ho
      cases hD
      exact ⟨_, KI _ _ ho, rfl⟩
    · cases hD
  refine ks_wpAny_isType_cls hD1 hD2 ⟨rfl, ?_⟩
  refine ks_wpAny_call_super hD1 hD2 hx rfl (fun c e => by cases e) (PySem.W.looks_mroIn KI S.sub) (fun h1 hso hk1 => ?_)
  have I1 : Inv (cxS P w K mg base env A outer s H) [] [some (.ref a), some v] H ⟨h1, s.gens, s.drawn, s.toks + 2, s.os⟩ := I.kept (t' := s.toks + 2) hk1
  have KI1 : K.In h1 := KI.keeps hk1
  have hx1 := hk1 _ _ hx
  have haC : a ≠ C := fun z => by
    rw [z, KI1 _ _ hC] at hx1
    cases hx1
  have hI : Looks (model P w) h1 (isInstance (.ref a) (.type "ValueError")) true := (show Looks (model P w) h1 (typeOf (.ref a)) (.ref C) from (PySem.W.Looks.ld hx1).andThen .now).andThen (PySem.W.looks_subIn KI1 S.sve)
  have hini := S.ini
  unfold PySem.W.ks_superIn at hini
  rw [hcd2] at hini
  refine PySem.W.kxs_getMethod PySem.W.kxs_ValueError hso (PySem.W.looks_opaque KI1 S.tp) (l₀ := cd.mro) ?_ rfl KI1 hini hI haC (by decide +kernel) ?_
  · exact fun A Q E s k q => wpAny_bind ((PySem.W.looks_clsIn KI1 hcd2) A _ E s k (wpAny_pure q))
  have hk2 : ∀ b o, h1.get? b = some o → (h1.push (PySem.W.kxs_mw "ValueError.__init__" a)).get? b = some o := fun b o e => Heap.get?_push_of_some _ e
  have I2 : Inv (cxS P w K mg base env A outer s H) [] [some (.ref a), some v] H ⟨h1.push (PySem.W.kxs_mw "ValueError.__init__" a), s.gens, s.drawn, s.toks + 2 + 1, s.os⟩ := I1.kept (t' := s.toks + 2 + 1) hk2
  have hmw : (h1.push (PySem.W.kxs_mw "ValueError.__init__" a)).get? h1.objs.size = some (PySem.W.kxs_mw "ValueError.__init__" a) := Heap.get?_push_size _ rfl
  have hC2 := hk2 _ _ (KI1 _ _ hC)
  have hx2 := hk2 _ _ hx1
  refine PySem.W.kxs_callWith (i := "ValueError.__init__") (x := a) rfl (Calls.evalArgs_plain ?_)
  have hPA : PA (cxS P w K mg base env A outer s H) [.Constant (.str z) k1 pz] (tCons (tC (.str z)) tNil) := pa_cons pe_str pa_nil
  have I3 : Inv (cxS P w K mg base env A outer s H) [(h1.objs.size, PySem.W.kxs_mw "ValueError.__init__" a)] [some (.ref a), some v] H ⟨h1.push (PySem.W.kxs_mw "ValueError.__init__" a), s.gens, s.drawn, s.toks + 2 + 1, s.os⟩ := I2.pins_of fun p hp => by
    obtain rfl : p = (h1.objs.size, PySem.W.kxs_mw "ValueError.__init__" a) := by simpa using hp
    exact ⟨hmw, I1.hok.fresh (Nat.le_refl _), Nat.ne_of_gt I1.lt, I1.nofs (Nat.le_refl _), fun v z => by cases z⟩
  refine wpAny_mono (hPA.run pc _ _ _ H (fun vs H1 => vs = [.str z] ∧ H1 = H) I3 ⟨rfl, rfl⟩) (fun us s3 ⟨vs, H1, I4, r4, e1, e2⟩ => ?_) (fun _ _ z => z.elim)
  subst e1 e2
  obtain ⟨us0, rfl⟩ : ∃ u0, us = [u0] := by
    cases r4 with
    | cons p q => cases q; exact ⟨_, rfl⟩
  have hmw3 := (I4.pin (h1.objs.size, PySem.W.kxs_mw "ValueError.__init__" a) (by simp)).1
  refine ⟨hmw3, ?_⟩
  obtain ⟨h3, g3, d3, tk3, os3⟩ := s3
  obtain ⟨t3, hx3⟩ := exo_at I4.hok ha
  have hC3 := I4.kIn _ _ hC
  refine call_mw hC3 hx3 hmw3 (by show 1 ≤ sizeLine; rw [sizeLine_eq]; decide) fun h4 t4 hk4 hx4 => ?_
  have J := I4.write (t' := tk3) (x := a) (e := a) (o := exo a C none) (by rw [ha]; exact True.intro) (.inl rfl) hk4 ⟨_, hx4⟩ (exo_ok hx4)
  have eu : upd H1 a (exo a C none) = H1 := by
    funext b
    by_cases hb : b = a
    · rw [hb, upd_same, ha]
    · rw [upd_ne hb]
  rw [eu] at J
  have J0 : Inv (cxS P w K mg base env A outer s H1) [] [some (.ref a), some v] H1 ⟨h4, g3, d3, tk3, os3⟩ := J.pins_of fun p hp => absurd hp (by simp)
  have hps : PS (cxS P w K mg base env A outer s H1) (.Assign [.Attribute (.Name "self" ps) "line" pq] (.Name "line" pl) pS) (tOst K "line" (tVar 0) (tVar 1)) :=
    ps_ost (pe_var (i := 0) rfl (.inl (by rw [hsc]; exact lself))) (pe_var (i := 1) rfl (.inl (by rw [hsc]; exact lline))) (hsw2 env)
  refine ks_wpAt_execs_cons (wpAt_of_wpAny (wpAny_mono (hps.run [] _ _ H1 { nx := fun _ H' => Q .non H', rt := fun _ _ => False } J0 ?_) (fun fl s5 h5 => ?_) (fun _ _ z => z.elim)))
  · exact ⟨v, rfl, .ref a, rfl, a, C, rfl, T, hno, .inl ⟨ha, kk⟩⟩
  cases fl with
  | next =>
    obtain ⟨σ5, H5, I5, q5⟩ := h5
    exact wpAt_of_wpAny (wpAny_execs_nil ⟨.non, H5, I5.os, I5.bare, I5.base, I5.hok, rfl, q5⟩)
  | brk => obtain ⟨_, _, _, q⟩ := h5; exact q.elim
  | cont => obtain ⟨_, _, _, q⟩ := h5; exact q.elim
  | ret u => obtain ⟨_, _, _, _, _, q⟩ := h5; exact q.elim
end
end KA

namespace KA
open PySem PySem.Spec PyProof.Rows L2 Evl TL
abbrev PR : Program := PySem.Challenge.pw_keptapart_k03_instructions_and_texts
abbrev CI (K : PySem.W.Frag) : Addr := He.ga K "InvalidCode"
abbrev f_ci (K : PySem.W.Frag) : Addr := He.ma K (CI K) "__init__"
section
variable {w : World} {K : PySem.W.Frag} {mg : Str → Option Value} {base : Heap}
theorem Txt.oex (T : Txt K mg) : OexC K (CI K) := oexB_ok (T.more 2)
theorem Txt.noline (T : Txt K mg) : PySem.W.findIn K (.ref (CI K)) "line" = some none := of_decide_eq_true (T.more 4)
theorem Txt.xf (T : Txt K mg) : XfC K (CI K) := xfB_ok (T.more 6)
theorem Txt.exm (T : Txt K mg) : PySem.W.exmOne K (.ref (CI K)) (.ref (CI K)) = some true := of_decide_eq_true (show Fa.exm1 K "InvalidCode" = true from T.more 5)
theorem supB_ok {K : PySem.W.Frag} {P : Program} {qual : Str} {st : Stmt} (h : supB K P.main.file P.main.scope "InvalidCode" qual = true) (e : cloObs K ("InvalidCode", some "__init__") = (some (("__init__" : Str), qual, defArgs st, FuncBody.stmts (defBody st), defScope st, mainGlobals, [("__class__" : Str)], builtinsNs) : CloV)) :
    SupF P K (CI K) (f_ci K) qual (defArgs st) (defBody st) (defScope st) (fdO K ("InvalidCode", some "__init__")) := by
  unfold supB at h
  obtain ⟨h1, h⟩ := He.ba h
  obtain ⟨h2, h⟩ := He.ba h
  obtain ⟨h3, h⟩ := He.ba h
  obtain ⟨h4, h⟩ := He.ba h
  obtain ⟨h5, h⟩ := He.ba h
  obtain ⟨h6, h⟩ := He.ba h
  obtain ⟨h7, h⟩ := He.ba h
  obtain ⟨h8, h⟩ := He.ba h
  refine ⟨?_, Option.isSome_iff_exists.mp h2, of_decide_eq_true h3, of_decide_eq_true h4, of_decide_eq_true h5, of_decide_eq_true h6, of_decide_eq_true h7, by rw [Option.isNone_iff_eq_none.mp h8]; rfl⟩
  have ef : He.fAd K ("InvalidCode", some "__init__") = f_ci K := rfl
  cases q1 : fdAt (K.lookup (f_ci K)) with
  | none => rw [q1] at h1; cases h1
  | some fd =>
    rw [q1] at h1
    obtain ⟨oc, od, osl, lk⟩ := fdAt_ok q1
    have efd : fdO K ("InvalidCode", some "__init__") = fd := fdO_eq (ef ▸ lk)
    rw [efd]
    cases q2 : cloOne fd with
    | none => simp only [q2] at h1; cases h1
    | some pr =>
      obtain ⟨cc, cda⟩ := pr
      simp only [q2] at h1
      obtain ⟨c1, c2⟩ := He.ba h1
      obtain ⟨c3, c4⟩ := He.ba c2
      obtain ⟨x, x1, x2, x3⟩ := cloOne_ok q2
      obtain ⟨a1, a2, vs, a3, tf, y1, y2⟩ := codeFile_ok (of_decide_eq_true c3)
      obtain ⟨b1, b2, b3, z1⟩ := cellRef_ok (of_decide_eq_true c4)
      have e3 : cloObs K ("InvalidCode", some "__init__") = (some (fd.name, fd.qualname, fd.params, fd.body, fd.scope, fd.globals, fd.closure.map (·.1), fd.builtins) : CloV) := by
        unfold cloObs
        rw [ef, lk]
      have e2 := Option.some.inj (e3.symm.trans e)
      clear e3 e h1 q1 q2
      simp only [Prod.mk.injEq] at e2
      obtain ⟨g1, g2, g3, g4, g5, g6, g7, g8⟩ := e2
      rw [x1] at g7
      have gx : x = "__class__" := by simpa using g7
      refine ⟨oc, fd.kwdefaults, fd.doc, fd.pyModule, fd.closureTuple, a1, b1, od, fd.annotations, a2, b2, cda, cc, osl, a3, b3, vs, P.main.file, tf, ?_, lk, c1, y1, y2, by simp, z1⟩
      obtain ⟨n1, n2, n3, n4, n5, n6, n7, n8, n9, n10, n11, n12, n13, n14, n15⟩ := fd
      dsimp only at g1 g2 g3 g4 g5 g6 g8 x1 x2 x3
      subst g1 g2 g3 g4 g5 g6 g8 x1 x2 x3 gx
      rfl
theorem Txt.sup (T : Txt K mg) : SupF PR K (CI K) (f_ci K) "InvalidCode.__init__" (defArgs s_InvalidCode_init) (defBody s_InvalidCode_init) (defScope s_InvalidCode_init) (fdO K ("InvalidCode", some "__init__")) :=
  supB_ok (T.more 3) (T.clo 0)
theorem Txt.ci_find (T : Txt K mg) : PySem.W.findIn K (.ref (CI K)) "__init__" = some (some (.ref (f_ci K))) ∧ PySem.W.typeIn K (.ref (f_ci K)) = some (.type "function") := by
  have h : supB K PR.main.file PR.main.scope "InvalidCode" "InvalidCode.__init__" = true := T.more 3
  unfold supB at h
  obtain ⟨_, h⟩ := He.ba h
  obtain ⟨_, h⟩ := He.ba h
  obtain ⟨_, h⟩ := He.ba h
  obtain ⟨_, h⟩ := He.ba h
  obtain ⟨_, h⟩ := He.ba h
  obtain ⟨_, h⟩ := He.ba h
  obtain ⟨_, h⟩ := He.ba h
  obtain ⟨_, h⟩ := He.ba h
  obtain ⟨h9, h10⟩ := He.ba h
  exact ⟨of_decide_eq_true h9, of_decide_eq_true h10⟩
theorem ok_ci (T : Txt K mg) : FnOk PR w K mg base CX0 1 (f_ci K) (fdO K ("InvalidCode", some "__init__")) ["self", "line"] (sp_exc (CI K)) :=
  fn_super T.sup T.oex T.noline rfl rfl rfl rfl rfl rfl _ (fun _ => rfl) (fun _ => rfl) (fun _ => rfl)
theorem Txt.bd_ci (T : Txt K mg) : Binds K (fdO K ("InvalidCode", some "__init__")) ["self", "line"] [] := by
  obtain ⟨oc, kV, doc, pm, ct, ccl, cl, od, an, cdd, cld, cda, cc, osl, ccs, csl, vs, file, tf, e, _⟩ := T.sup.fn
  rw [e]
  exact Binds.all fun us hl => match us, hl with | [_, _], _ => rfl
end
end KA

namespace KA
open PySem PySem.Spec PyProof.Rows L2 Evl TL
theorem rowText_len {x : Int} (x0 : 0 ≤ x) (x1 : x < 65536) : (rowText x).length ≤ 100 := by
  have hnl := NM_len (x / 4096).toNat
  have la := sI_len (n := x / 512 % 8) (by omega) (by omega)
  have lb := sI_len (n := x / 64 % 8) (by omega) (by omega)
  have lc := sI_len (n := x % 64) (by omega) (by omega)
  have lc8 := sI_len (n := x % 64 % 8) (by omega) (by omega)
  have lbc := sI_len (n := x / 64 % 8 * 64 + x % 64) (by omega) (by omega)
  have l1 : (" r" : Str).length = 2 := by decide +kernel
  have l2 : (" " : Str).length = 1 := by decide +kernel
  have := TR_len (x % 64).toNat
  unfold rowText
  split
  · omega
  split
  · simp only [app_len]; omega
  split
  · simp only [app_len]; omega
  split
  · simp only [app_len]; omega
  split
  · split <;> (simp only [app_len]; omega)
  · simp only [app_len]; omega
theorem rowOf_len {x : Int} (x0 : 0 ≤ x) (x1 : x < 65536) : (rowOf x).length ≤ 100 := by
  have h1 := rowText_len x0 x1
  have h2 := sI_len x0 (by omega)
  unfold rowOf
  split
  · omega
  · split <;> omega
def textOf (xs : List Int) : Str := Txt.join "\n" (xs.map rowOf)
section
variable {σ : L2.St} {H : Hp} {K : PySem.W.Frag} {D : Ends}
/-- over enumerate of a list that the body leaves as it is -/
theorem for_enum {a : Addr} {xs : List V} {g : TG} {tb : TS} (Pv : Nat → L2.St → Hp → Prop) (h0 : Pv 0 σ H) (hl : ∀ i σ H, i ≤ xs.length → Pv i σ H → SqL K H a xs)
    (hs : ∀ i x σ H T, xs[i]? = some x → Pv i σ H → H T = none → g (.ref T) σ (upd H T (.tup [.int (i : Nat), x])) fun σ2 H2 => tb { D with nx := Pv (i + 1), ct := Pv (i + 1), bk := D.nx } σ2 H2) (hd : ∀ σ H, Pv xs.length σ H → D.nx σ H) :
    ∃ W : Nat → Nat → L2.St → Hp → Prop, (∃ m, W 0 m σ H) ∧ ∀ i m σ H, W i m σ H →
      ((Ite K a).stop i H ∧ D.nx σ H) ∨ ((Ite K a).go i H ∧ ∃ N : L2.St → Hp → Prop, (∀ σ' H', N σ' H' → ∃ m', m' < m ∧ W (i + 1) m' σ' H') ∧ ∀ x H', (Ite K a).yld i H x H' → g x σ H' fun σ2 H2 => tb { D with nx := N, ct := N, bk := D.nx } σ2 H2) := by
  refine ⟨fun i m σ H => m = xs.length - i ∧ i ≤ xs.length ∧ Pv i σ H, ⟨xs.length, by simp, Nat.zero_le _, h0⟩, ?_⟩
  rintro i m σ H ⟨rfl, hi, p⟩
  have q := hl i σ H hi p
  by_cases hlt : i < xs.length
  · refine .inr ⟨⟨xs, xs[i], q, by simp [hlt]⟩, Pv (i + 1), fun σ' H' p' => ⟨xs.length - (i + 1), by omega, rfl, hlt, p'⟩, fun x H' y => ?_⟩
    obtain ⟨T, z, rfl, hT, rfl, hz⟩ := y
    exact hs i z σ H T (hz xs q) p hT
  · have e : i = xs.length := by omega
    subst e
    exact .inl ⟨⟨xs, q, Nat.le_refl _⟩, hd σ H p⟩
end
section
variable {w : World} {K : PySem.W.Frag} {mg : Str → Option Value} {base : Heap}
def sp_text_of (K : PySem.W.Frag) : Sp := fun vs H Q _ => ∃ (a : Addr) (xs : List Int), vs = [.ref a] ∧ SqL K H a (xs.map V.int) ∧ xs.length ≤ 100 ∧ (∀ x ∈ xs, 0 ≤ x ∧ x < 65536) ∧ ∀ H', Ex H H' → Q (.str (textOf xs)) H'
theorem sum_le {xs : List Nat} {b : Nat} (h : ∀ x ∈ xs, x ≤ b) : xs.sum ≤ xs.length * b := by
  induction xs with
  | nil => simp
  | cons x r ih =>
    have h1 := h x List.mem_cons_self
    have h2 := ih fun y hy => h y (List.mem_cons_of_mem _ hy)
    rw [List.sum_cons, List.length_cons, Nat.succ_mul]
    omega
theorem ok_text_of {P : Program} (T : Txt K mg) : FnOk P w K mg base CX0 4 (f_text_of K) (fd_text_of K) ["words"] (sp_text_of K) := by
  refine T.fn_text_of.ok sc_text_of (fun vs H Q E h => ?_) (fun cdv A outer s H vs Q E hr h => ⟨_, PSs.nox (pss_one (ps_ret (pe_join pe_str (pe_lc (own := [("word", 1)]) (by rfl) sc_text_of.nd (pi_list (pv 0)) (blkOk_by (N := sc_text_of_N) (sc := defScope s_text_of) (own := [("word", 1)]) (by decide +kernel)) (fun _ _ _ _ _ => (pg_name (i := 1) sc_text_of.nd rfl (Or.inl rfl))) (fun _ _ _ _ _ => pts_nil) (fun _ _ _ _ _ => (pe_call (ok_row_of T) (hr.mono (by decide)) (by rfl) (T.glo_row_of) (T.kp_row_of) (T.bd_row_of) .nil pass0 (pa_cons (pv 1) pa_nil))))))), ?_⟩)
  · obtain ⟨_, _, rfl, _⟩ := h
    rfl
  · obtain ⟨a, xs, rfl, hS, hl, hx, k⟩ := h
    refine ⟨⟨_, rfl⟩, ?_⟩
    have hv : ((xs.map rowOf).map V.str) = given (xs.map V.int).length (fun _ => true) (fun i => .str (rowOf (xs.getD i 0))) := by
      unfold given
      rw [List.filter_eq_self.mpr (by simp)]
      apply List.ext_getElem?
      intro i
      by_cases h : i < xs.length
      · simp [h]
      · simp [h]
    have hE : EvL (tLc (iList K (tVar 0)) (gName 1) tYes (tCall sp_row_of [] E0 (tCons (tVar 1) tNil)) [1]) (L2.start sc_text_of_N [V.ref a]) H ((xs.map rowOf).map V.str) := by
      rw [hv]
      refine el_lcL _ _ (ev_var rfl) hS (by rw [List.length_map]; omega) (fun y => rfl) (fun i c H1 _ _ => et_yes) (fun i y H1 _ hi _ => ?_)
      rw [List.getElem?_map] at hi
      cases e : xs[i]? with
      | none => rw [e] at hi; cases hi
      | some x =>
        rw [e] at hi
        obtain rfl : V.int x = y := Option.some.inj hi
        have hx2 := hx x (List.mem_of_getElem? e)
        have e2 : xs.getD i 0 = x := by rw [List.getD, e]; rfl
        rw [e2]
        exact ev_pure (ea_cons (ev_var rfl) ea_nil) fun H1 _ Q q => ⟨x, rfl, hx2.1, hx2.2, q⟩
    refine hE H (Ex.refl _) _ fun p H1 hp e1 h1 => ⟨_, p, xs.map rowOf, rfl, rfl, .inl (sq_of h1), ?_, k H1 e1⟩
    have h2 := sum_le (xs := (xs.map rowOf).map (·.length)) (b := 100) (by
      intro y hy
      rw [List.map_map] at hy
      obtain ⟨x, hx1, rfl⟩ := List.mem_map.mp hy
      exact rowOf_len (hx x hx1).1 (hx x hx1).2)
    simp only [List.length_map] at h2 ⊢
    have l1 : ("\n" : Str).length = 1 := by decide +kernel
    rw [l1]
    omega
def sp_code_in (K : PySem.W.Frag) : Sp := fun vs H Q E => ∃ (t : Str), vs = [.str t] ∧ t.length ≤ 20000 ∧
  (∀ ws : List Int, (Txt.split t "\n").map wordIn = ws.map some → ∀ p H', H p = none → Ex H H' → H' p = some (.tup (ws.map V.int)) → Q (.ref p) H') ∧
  (∀ (i : Nat) (r : Str), (Txt.split t "\n")[i]? = some r → wordIn r = none → (∀ j, j < i → ∀ r', (Txt.split t "\n")[j]? = some r' → wordIn r' ≠ none) → ∀ d H', H d = none → Ex H H' → H' d = some (.xd [("line", .int (i : Nat))]) → E (.ref (CI K)) (some d) H')
theorem ok_code_in (T : Txt K mg) : FnOk PR w K mg base (L2.CX PR w) 3 (f_code_in K) (fd_code_in K) ["text"] (sp_code_in K) := by
  refine T.fn_code_in.ok sc_code_in (fun vs H Q E h => ?_) (fun cdv A outer s H vs Q E hr h => ⟨_, (pss_cons (ps_set (i := 1) sc_code_in.nd rfl (Or.inl rfl) (pe_lst pa_nil)) (pss_cons (ps_for (passes_of rfl) rfl (pi_enum (by rfl) T.free_enumerate (pa_cons (pe_split (pv 0) pe_str) pa_nil)) (pg_tup (by rfl) (pgs_cons (pg_name (i := 2) sc_code_in.nd rfl (Or.inl rfl)) (pgs_cons (pg_name (i := 3) sc_code_in.nd rfl (Or.inl rfl)) pgs_nil))) (pss_cons (ps_set (i := 4) sc_code_in.nd rfl (Or.inl rfl) (pe_call (ok_word_in T) (hr.mono (by decide)) (by rfl) (T.glo_word_in) (T.kp_word_in) (T.bd_word_in) .nil pass0 (pa_cons (pv 3) pa_nil))) (pss_cons (ps_if (pt_cmpR op_isN (pv 4) pe_non (nomark _)) (pss_one (ps_raise rfl (takes_of rfl rfl rfl rfl) (pmk_oex T.oex T.ci_find.1 T.ci_find.2 (ok_ci T) (hr.mono (by decide)) T.bd_ci .nil pass0 (by rfl) T.glo_InvalidCode (pa_cons (pv 2) pa_nil)))) pss_nil) (pss_one (ps_expr (pe_bm PySem.F.plainAttrs_list PySem.F.slot_list_append PySem.F.type_list_append mt_append (pv 1) (pa_cons (pv 4) pa_nil))))))) (pss_one (ps_ret (pe_callTy call_tuple_of (by rfl) T.free_tuple (by decide +kernel) (pa_cons (pv 1) pa_nil)))))), ?_⟩)
  · obtain ⟨_, rfl, _⟩ := h
    rfl
  · obtain ⟨t, rfl, hz, kQ, kE⟩ := h
    have hpl : ∀ q ∈ Txt.split t "\n", q.length ≤ 20000 := fun q hq => Nat.le_trans (parts_len (nl_spl t) hq) hz
    have hmany : (Txt.split t "\n").length ≤ 20001 := Nat.le_trans (parts_many (nl_spl t)) (by omega)
    generalize hls : Txt.split t "\n" = ls at kQ kE hpl hmany
    refine ⟨by show 0 ≤ sizeLine; omega, fun fp hfp => ?_⟩
    have e0 : Ex H (upd H fp (.lst [])) := Ex.new hfp
    refine el_split (H := upd H fp (.lst [])) (ev_var rfl) ev_c (by rfl) (by omega) _ (Ex.refl _) _ fun lp H1 hlp e1 h1 => ?_
    rw [hls] at h1
    have ne : lp ≠ fp := fun z => by rw [z, upd_same] at hlp; cases hlp
    have hf1 : H1 fp = some (.lst []) := e1 _ _ upd_same
    refine ⟨lp, _, rfl, sq_of h1, ?_⟩
    refine for_enum (K := K) (a := lp) (xs := ls.map V.str) (fun i σ H' => ∃ (x y z : Option V) (ws : List Int), σ = [some (.str t), some (.ref fp), x, y, z] ∧ (ls.take i).map wordIn = ws.map some ∧ Ex H H' ∧ H' lp = some (.lst (ls.map V.str)) ∧ H' fp = some (.lst (ws.map V.int)))
      ⟨none, none, none, [], rfl, rfl, e0.trans e1, h1, hf1⟩ (fun i σ H' _ ⟨_, _, _, _, _, _, _, h, _⟩ => sq_of h) ?_ ?_
    · rintro i x σ H' T hi ⟨x0, y0, z0, ws, rfl, hws, eH, hl', hf'⟩ hT
      obtain ⟨r, hr, rfl⟩ : ∃ r, ls[i]? = some r ∧ x = V.str r := by
        rw [List.getElem?_map] at hi
        cases e : ls[i]? with
        | none => rw [e] at hi; cases hi
        | some r => rw [e] at hi; exact ⟨r, rfl, (Option.some.inj hi).symm⟩
      have hir : i < ls.length := (List.getElem?_eq_some_iff.mp hr).1
      refine ⟨T, _, rfl, st_of upd_same, rfl, _, _, rfl, _, _, rfl, rfl, ?_⟩
      have eT : Ex H' (upd H' T (.tup [.int (i : Nat), .str r])) := Ex.new hT
      generalize upd H' T (.tup [.int (i : Nat), .str r]) = H2 at eT ⊢
      refine q_asg (v := oV (wordIn r)) (ev_pure (ea_cons (ev_var rfl) ea_nil) fun H1 _ Q q => ⟨r, rfl, hpl r (List.mem_of_getElem? hr), q⟩) fun H3 e3 => ?_
      have e23 := eT.trans e3
      have hlen : ws.length = i := by
        have := congrArg List.length hws
        simp at this
        omega
      refine q_when (b := (wordIn r).isNone) (et_is (et_test (ev_op (ev_var rfl) ev_c rv_isN)) oV_non) (fun hb H4 e4 => ?_) (fun hb H4 e4 => ?_)
      · -- a wrong row
        have hn : wordIn r = none := Option.isNone_iff_eq_none.mp hb
        have e24 := e23.trans e4
        refine ⟨_, rfl, by show 1 ≤ 1000; omega, fun a ha => ⟨a, .int (i : Nat), rfl, upd_same, fun dx hdx hda => ⟨rfl, dx, [("line", .int (i : Nat))], upd_same, by rw [upd_ne hda]; exact upd_same, ?_, ?_⟩⟩⟩
        · rw [upd_ne hda] at hdx
          exact hdx
        · rw [upd_ne hda] at hdx
          refine kE i r hr hn (fun j hj r' hr' hnone => ?_) dx _ ?_ ?_ upd_same
          · have h5 : ((ls.take i).map wordIn)[j]? = some none := by
              rw [List.getElem?_map, List.getElem?_take_of_lt hj, hr']
              rw [← hnone]
              rfl
            rw [hws, List.getElem?_map] at h5
            cases e : ws[j]? with
            | none => rw [e] at h5; cases h5
            | some q => rw [e] at h5; cases h5
          · cases e : H dx with
            | none => rfl
            | some o => rw [e24 _ _ (eH _ _ e)] at hdx; cases hdx
          · intro b o hb
            have hb4 := e24 _ _ (eH _ _ hb)
            have nba : b ≠ a := fun z => by rw [z, ha] at hb4; cases hb4
            have nbd : b ≠ dx := fun z => by rw [z, hdx] at hb4; cases hb4
            rw [upd_ne nbd, del_ne nba, upd_ne nba, upd_ne nbd, upd_ne nba]
            exact hb4
      · obtain ⟨n, hn⟩ : ∃ n, wordIn r = some n := by
          cases e : wordIn r with
          | none => rw [e] at hb; cases hb
          | some n => exact ⟨n, rfl⟩
        have e24 := e23.trans e4
        have hf4 := e24 _ _ hf'
        have hl4 := e24 _ _ hl'
        refine ⟨_, rfl, .inl ⟨rfl, _, SqL.of hf4⟩, _, rfl, ?_⟩
        refine ⟨fp, _, _, rfl, rfl, hf4, by rw [List.length_map]; exact sz_lt (by omega), ?_⟩
        have hfpn : H fp = none := hfp
        refine ⟨_, _, _, ws ++ [n], rfl, ?_, ?_, ?_, ?_⟩
        · rw [List.take_add_one, hr, List.map_append, hws]
          simp [hn]
        · exact Ex.mut (eH.trans e24) hfpn
        · rw [upd_ne ne]
          exact hl4
        · rw [upd_same, List.map_append, hn]
          rfl
    · rintro σ H' ⟨x0, y0, z0, ws, rfl, hws, eH, hl', hf'⟩
      rw [List.length_map, List.take_length] at hws
      refine ⟨_, rfl, fp, _, rfl, .inl ⟨sq_of hf', fun l hl => kQ ws hws l _ ?_ (eH.trans (Ex.new hl)) upd_same⟩⟩
      cases e : H l with
      | none => rfl
      | some o => rw [eH _ _ e] at hl; cases hl
end
end KA

namespace KA
open PySem PySem.Spec PyProof.Rows L2 Evl TL
/-! ### the law's tape: a dict; each draw is some number below what is asked -/
def tapeKV (ca : Addr) (at_ left seed salt : Int) : List (Key × V) := [(.inr "cells", .ref ca), (.inr "at", .int at_), (.inr "left", .int left), (.inr "seed", .int seed), (.inr "salt", .int salt)]
structure TapeAt (H : Hp) (d ca : Addr) : Prop where
  ex : ∃ (cs : List Int) (at_ : Nat) (left seed salt : Int), H d = some (.dK (tapeKV ca at_ left seed salt)) ∧ H ca = some (.lst (cs.map V.int)) ∧ (∀ c ∈ cs, 0 ≤ c) ∧ 0 ≤ left ∧ 0 ≤ seed ∧ seed < 2147483647
theorem TapeAt.keep {H H' : Hp} {d ca : Addr} (h : TapeAt H d ca) (k : ∀ b o, H b = some o → H' b = some o) : TapeAt H' d ca := by
  obtain ⟨cs, at_, left, seed, salt, h1, h2, h3⟩ := h.ex
  exact ⟨⟨cs, at_, left, seed, salt, k _ _ h1, k _ _ h2, h3⟩⟩
section
variable (ca : Addr) (a b c e : Int) (x : V)
theorem tk_cells : valV (tapeKV ca a b c e) (Sum.inr "cells" : Key) = some (.ref ca) := by rfl
theorem tk_at : valV (tapeKV ca a b c e) (Sum.inr "at" : Key) = some (.int a) := by rfl
theorem tk_left : valV (tapeKV ca a b c e) (Sum.inr "left" : Key) = some (.int b) := by rfl
theorem tk_seed : valV (tapeKV ca a b c e) (Sum.inr "seed" : Key) = some (.int c) := by rfl
theorem tk_salt : valV (tapeKV ca a b c e) (Sum.inr "salt" : Key) = some (.int e) := by rfl
theorem tp_at (i : Int) : putK (tapeKV ca a b c e) (Sum.inr "at" : Key) (.int i) = tapeKV ca i b c e := by rfl
theorem tp_left (i : Int) : putK (tapeKV ca a b c e) (Sum.inr "left" : Key) (.int i) = tapeKV ca a i c e := by rfl
theorem tp_salt (i : Int) : putK (tapeKV ca a b c e) (Sum.inr "salt" : Key) (.int i) = tapeKV ca a b c i := by rfl
end
theorem TapeAt.there {H : Hp} {d ca : Addr} (h : TapeAt H d ca) : (∃ o, H d = some o) ∧ ∃ o, H ca = some o := by
  obtain ⟨cs, at_, left, seed, salt, h1, h2, h3⟩ := h.ex
  exact ⟨⟨_, h1⟩, _, h2⟩
theorem TapeAt.upd {H : Hp} {d ca l : Addr} {o : HO} (h : TapeAt H d ca) (n1 : l ≠ d) (n2 : l ≠ ca) : TapeAt (L2.upd H l o) d ca := by
  obtain ⟨cs, at_, left, seed, salt, h1, h2, h3⟩ := h.ex
  exact ⟨⟨cs, at_, left, seed, salt, by rw [upd_ne (Ne.symm n1)]; exact h1, by rw [upd_ne (Ne.symm n2)]; exact h2, h3⟩⟩
theorem TapeAt.ne {H : Hp} {d ca l : Addr} (h : TapeAt H d ca) (hl : H l = none) : l ≠ d ∧ l ≠ ca := by
  obtain ⟨⟨o, h1⟩, o', h2⟩ := h.there
  exact ⟨fun z => (by rw [z, h1] at hl; cases hl), fun z => (by rw [z, h2] at hl; cases hl)⟩
/-- all stands but d -/
def FrD (d : Addr) (H H' : Hp) : Prop := ∀ b o, H b = some o → b ≠ d → H' b = some o
theorem FrD.of {d : Addr} {H H' : Hp} (e : Ex H H') : FrD d H H' := fun b o h _ => e b o h
theorem FrD.trans {d : Addr} {H H1 H2 : Hp} (a : FrD d H H1) (b : FrD d H1 H2) : FrD d H H2 := fun c o h n => b c o (a c o h n) n
theorem FrD.upd {d : Addr} {H H' : Hp} {o : HO} (a : FrD d H H') : FrD d H (L2.upd H' d o) := fun b u h n => by rw [upd_ne n]; exact a b u h n
theorem FrD.put {d : Addr} {H : Hp} {o : HO} : FrD d H (L2.upd H d o) := fun b u h n => by rw [upd_ne n]; exact h
section
variable {σ : L2.St} {H : Hp} {K : PySem.W.Frag} {D : Ends}
theorem ev_dget {td : TE} {d : Addr} {kvs : List (Key × V)} {k : Key} {v : V} (hd : Ev td σ H (.ref d)) (h : H d = some (.dK kvs)) (e : valV kvs k = some v) : Ev (tDGet td (tC (kV k))) σ H v := fun H1 x Q q =>
  hd H1 x _ fun H2 x2 => ⟨d, v, rfl, e ▸ DGet.k (x2 _ _ (x _ _ h)), q H2 x2⟩
theorem q_dput {td tv : TE} {tz : TS} {d : Addr} {kvs : List (Key × V)} {k : Key} {v : V} (hv : Ev tv σ H v) (hd : Ev td σ H (.ref d)) (h : H d = some (.dK kvs)) (hl : kvs.length < 1000) (kk : ∀ H1, Ex H H1 → tz D σ (upd H1 d (.dK (putK kvs k v)))) :
    tSeq (sDPut td (tC (kV k)) tv) tz D σ H := hv H (Ex.refl H) _ fun H1 e1 => hd H1 e1 _ fun H2 e2 => ⟨d, _, rfl, DPut.k ((e1.trans e2) _ _ h) (by show kvs.length < sizeLine; exact Nat.lt_of_lt_of_le hl (by decide)), kk H2 (e1.trans e2)⟩
theorem s_dput {td tv : TE} {d : Addr} {kvs : List (Key × V)} {k : Key} {v : V} (hv : Ev tv σ H v) (hd : Ev td σ H (.ref d)) (h : H d = some (.dK kvs)) (hl : kvs.length < 1000) (kk : ∀ H1, Ex H H1 → D.nx σ (upd H1 d (.dK (putK kvs k v)))) :
    sDPut td (tC (kV k)) tv D σ H := hv H (Ex.refl H) _ fun H1 e1 => hd H1 e1 _ fun H2 e2 => ⟨d, _, rfl, DPut.k ((e1.trans e2) _ _ h) (by show kvs.length < sizeLine; exact Nat.lt_of_lt_of_le hl (by decide)), kk H2 (e1.trans e2)⟩
theorem ev_int1 {ta : TE} {i : Int} (ha : Ev ta σ H (.int i)) : Ev (tCB (fun xs H Q => (∃ i, xs = [.int i] ∧ Q (.int i) H) ∨ ∃ k, xs = [.bl k] ∧ Q (.int (if k then 1 else 0)) H) (tCons ta tNil)) σ H (.int i) := fun H1 e Q q =>
  ha H1 e _ fun H2 e2 => .inl ⟨i, rfl, q H2 e2⟩
theorem ev_lenL' {p : Addr} {xs : List V} {ta : TE} (ha : Ev ta σ H (.ref p)) (h : SqL K H p xs) : Ev (tCB (fun xs H Q => ∃ x n, xs = [x] ∧ LenV K x H n ∧ Q (.int n) H) (tCons ta tNil)) σ H (.int (xs.length : Int)) := fun H1 e Q q =>
  ha H1 e _ fun H2 e2 => ⟨_, xs.length, rfl, .inl ⟨_, ex_l (e.trans e2) h, rfl⟩, q H2 e2⟩
theorem ev_abs {ta : TE} {i : Int} (ha : Ev ta σ H (.int i)) : Ev (tCB (fun xs H Q => ∃ i : Int, xs = [.int i] ∧ Q (.int (if i < 0 then -i else i)) H) (tCons ta tNil)) σ H (.int (if i < 0 then -i else i)) := fun H1 e Q q =>
  ha H1 e _ fun H2 e2 => ⟨i, rfl, q H2 e2⟩
end
section
variable {P : Program} {w : World} {K : PySem.W.Frag} {mg : Str → Option Value} {base : Heap}
def sp_law_take : Sp := fun vs H Q _ => ∃ (d ca : Addr) (many : Int), vs = [.ref d, .int many] ∧ TapeAt H d ca ∧ 0 < many ∧ many < 1073741824 ∧ ∀ (v : Int) (H' : Hp), 0 ≤ v → v < many → TapeAt H' d ca → FrD d H H' → Q (.int v) H'
theorem ok_law_take (T : Txt K mg) : FnOk P w K mg base CX0 1 (f_law_take K) (fd_law_take K) ["tape", "many"] sp_law_take := by
  refine T.fn_law_take.ok sc_law_take (fun vs H Q E h => ?_) (fun cdv A outer s H vs Q E hr h => ?_)
  · obtain ⟨_, _, _, rfl, _⟩ := h
    rfl
  have hu := hu_of hr
  refine ⟨_, PSs.nox (pss_cut (ps_if (PW.pt (pw_and (pt_cmpR op_eq (pe_dget hu (pv 0) pe_str (fun _ _ => rfl)) pe_int (nomark _)) (pw_and1 (pt_cmpR op_lt (pe_dget hu (pv 0) pe_str (fun _ _ => rfl)) (pe_callB call_len (by rfl) T.free_len PySem.boot_len (pa_cons (pe_dget hu (pv 0) pe_str (fun _ _ => rfl)) pa_nil)) (nomark _))))) (pss_cons (ps_dput hu (pv 0) pe_str (pe_ix ix_list (pe_dget hu (pv 0) pe_str (fun _ _ => rfl)) (pe_dget hu (pv 0) pe_str (fun _ _ => rfl)) (fun _ _ => rfl)) rfl) (pss_one (ps_dput hu (pv 0) pe_str (pe_op op_add (pe_dget hu (pv 0) pe_str (fun _ _ => rfl)) pe_int) rfl))) pss_nil) (pss_cons (ps_if (pt_cmpR op_gt (pe_dget hu (pv 0) pe_str (fun _ _ => rfl)) pe_int (nomark _)) (pss_cons (ps_set (i := 2) sc_law_take.nd rfl (Or.inl rfl) (pe_op op_mod (pe_callTy call_int1 (by rfl) T.free_int (by decide +kernel) (pa_cons (pe_dget hu (pv 0) pe_str (fun _ _ => rfl)) pa_nil)) (pv 1))) (pss_cons (ps_dput hu (pv 0) pe_str (pe_op op_fdiv (pe_dget hu (pv 0) pe_str (fun _ _ => rfl)) (pv 1)) rfl) (pss_one (ps_ret (pv 2))))) pss_nil) (pss_cons (ps_dput hu (pv 0) pe_str (pe_op op_add (pe_dget hu (pv 0) pe_str (fun _ _ => rfl)) pe_int) rfl) (pss_cons (ps_set (i := 3) sc_law_take.nd rfl (Or.inl rfl) (pe_op op_mod (pe_callTy call_int1 (by rfl) T.free_int (by decide +kernel) (pa_cons (pe_op op_add (pe_op op_mul (pe_dget hu (pv 0) pe_str (fun _ _ => rfl)) pe_int) (pe_op op_mul (pe_dget hu (pv 0) pe_str (fun _ _ => rfl)) pe_int)) pa_nil)) pe_int)) (pss_cons (ps_set (i := 3) sc_law_take.nd rfl (Or.inl rfl) (pe_op op_mod (pe_callTy call_int1 (by rfl) T.free_int (by decide +kernel) (pa_cons (pe_op op_add (pe_op op_add (pe_op op_mul (pv 3) (pv 3)) (pe_op op_mul (pe_dget hu (pv 0) pe_str (fun _ _ => rfl)) pe_int)) pe_int) pa_nil)) pe_int)) (pss_one (ps_ret (pe_op op_mod (pe_callTy call_int1 (by rfl) T.free_int (by decide +kernel) (pa_cons (pv 3) pa_nil)) (pv 1))))))))), ?_⟩
  obtain ⟨d, ca, many, rfl, ⟨cs, at_, left, seed, salt, h1, h2, hcs, hl0, hs0, hs1⟩, hm0, hm1, k⟩ := h
  have nca : ca ≠ d := ne_of h2 h1 (by intro z; cases z)
  refine q_cut (M := fun σ' H1 => σ' = L2.start sc_law_take_N [V.ref d, V.int many] ∧ ∃ (at2 : Nat) (left2 : Int), FrD d H H1 ∧ H1 d = some (.dK (tapeKV ca at2 left2 seed salt)) ∧ 0 ≤ left2) ?_ ?_
  · refine s_when (b := decide (V.int left = V.int 0) && decide ((at_ : Int) < (((cs.map V.int).length : Nat) : Int))) (et_and (et_test (ev_op (ev_dget (k := .inr "left") (ev_var rfl) h1 (tk_left ..)) ev_c (rv_eq rfl))) fun _ => et_test (ev_op (ev_dget (k := .inr "at") (ev_var rfl) h1 (tk_at ..)) (ev_lenL' (ev_dget (k := .inr "cells") (ev_var rfl) h1 (tk_cells ..)) (sq_of h2)) rv_I0)) (fun hb H1 e1 => ?_) (fun hb H1 e1 => ⟨rfl, at_, left, FrD.of e1, e1 _ _ h1, hl0⟩)
    simp only [Bool.and_eq_true, decide_eq_true_eq, List.length_map] at hb
    have hlt : at_ < cs.length := by omega
    have hc : 0 ≤ cs[at_] := hcs _ (List.getElem_mem hlt)
    refine q_dput (k := .inr "left") (v := .int cs[at_]) (ev_op (ev_dget (k := .inr "cells") (ev_var rfl) (e1 _ _ h1) (tk_cells ..)) (ev_dget (k := .inr "at") (ev_var rfl) (e1 _ _ h1) (tk_at ..)) (rv_ixL (sq_of (e1 _ _ h2)) (atI_nat (by rw [List.getElem?_map, List.getElem?_eq_getElem hlt]; rfl)))) (ev_var rfl) (e1 _ _ h1) (by show 5 < 1000; decide) fun H2 e2 => ?_
    rw [tp_left]
    refine s_dput (k := .inr "at") (v := .int ((at_ : Int) + 1)) (ev_op (ev_dget (k := .inr "at") (ev_var rfl) upd_same (tk_at ..)) ev_c rv_I0) (ev_var rfl) upd_same (by show 5 < 1000; decide) fun H3 e3 => ?_
    rw [tp_at]
    exact ⟨rfl, at_ + 1, cs[at_], ((((FrD.of (e1.trans e2)).upd).trans (FrD.of e3)).upd), upd_same, hc⟩
  · rintro σ' H1 ⟨rfl, at2, left2, fr, g1, gl0⟩
    have g2 := fr _ _ h2 nca
    refine q_when (b := decide (0 < left2)) (et_test (ev_op (ev_dget (k := .inr "left") (ev_var rfl) g1 (tk_left ..)) ev_c rv_I0)) (fun hb H2 e2 => ?_) (fun hb H2 e2 => ?_)
    · refine q_asg (v := .int (left2 % many)) (ev_op (ev_int1 (ev_dget (k := .inr "left") (ev_var rfl) (e2 _ _ g1) (tk_left ..))) (ev_var rfl) (rv_I hm0)) fun H3 e3 => ?_
      have e23 := e2.trans e3
      refine q_dput (k := .inr "left") (v := .int (left2 / many)) (ev_op (ev_dget (k := .inr "left") (ev_var rfl) (e23 _ _ g1) (tk_left ..)) (ev_var rfl) (rv_I ⟨hm0, hm1⟩)) (ev_var rfl) (e23 _ _ g1) (by show 5 < 1000; decide) fun H4 e4 => ?_
      rw [tp_left]
      refine s_ret (ev_var rfl) fun H5 e5 => k _ _ (Int.emod_nonneg _ (by omega)) (Int.emod_lt_of_pos _ hm0) ⟨⟨cs, at2, left2 / many, seed, salt, e5 _ _ upd_same, e5 _ _ (by rw [upd_ne nca]; exact e4 _ _ (e23 _ _ g2)), hcs, Int.ediv_nonneg gl0 (by omega), hs0, hs1⟩⟩ ((fr.trans (FrD.of (e23.trans e4))).upd.trans (FrD.of e5))
    · refine q_dput (k := .inr "salt") (v := .int (salt + 1)) (ev_op (ev_dget (k := .inr "salt") (ev_var rfl) (e2 _ _ g1) (tk_salt ..)) ev_c rv_I0) (ev_var rfl) (e2 _ _ g1) (by show 5 < 1000; decide) fun H3 e3 => ?_
      rw [tp_salt]
      have g3 : (upd H3 d (.dK (tapeKV ca at2 left2 seed (salt + 1)))) ca = some (.lst (cs.map V.int)) := by rw [upd_ne nca]; exact e3 _ _ (e2 _ _ g2)
      have fr3 : FrD d H (upd H3 d (.dK (tapeKV ca at2 left2 seed (salt + 1)))) := (fr.trans (FrD.of (e2.trans e3))).upd
      have g4 : (upd H3 d (.dK (tapeKV ca at2 left2 seed (salt + 1)))) d = some (.dK (tapeKV ca at2 left2 seed (salt + 1))) := upd_same
      generalize upd H3 d (.dK (tapeKV ca at2 left2 seed (salt + 1))) = H4 at g3 fr3 g4 ⊢
      refine q_asg (v := .int ((seed * 48271 + (salt + 1) * 69621) % 2147483647)) (ev_op (ev_int1 (ev_op (ev_op (ev_dget (k := .inr "seed") (ev_var rfl) g4 (tk_seed ..)) ev_c (rv_I (.inr ⟨by decide, by decide⟩))) (ev_op (ev_dget (k := .inr "salt") (ev_var rfl) g4 (tk_salt ..)) ev_c (rv_I (.inr ⟨by decide, by decide⟩))) rv_I0)) ev_c (rv_I (by decide))) fun H5 e5 => ?_
      generalize hx : (seed * 48271 + (salt + 1) * 69621) % 2147483647 = x
      have hx0 : 0 ≤ x ∧ x < 2147483647 := by omega
      refine q_asg (v := .int ((x * x + (salt + 1) * 40692 + 12345) % 2147483399)) (ev_op (ev_int1 (ev_op (ev_op (ev_op (ev_var rfl) (ev_var rfl) (rv_I (.inr ⟨by omega, by omega⟩))) (ev_op (ev_dget (k := .inr "salt") (ev_var rfl) (e5 _ _ g4) (tk_salt ..)) ev_c (rv_I (.inr ⟨by decide, by decide⟩))) rv_I0) ev_c rv_I0)) ev_c (rv_I (by decide))) fun H6 e6 => ?_
      generalize (x * x + (salt + 1) * 40692 + 12345) % 2147483399 = y
      refine s_ret (ev_op (ev_int1 (ev_var rfl)) (ev_var rfl) (rv_I hm0)) fun H7 e7 => k _ _ (Int.emod_nonneg _ (by omega)) (Int.emod_lt_of_pos _ hm0) ?_ (fr3.trans (FrD.of ((e5.trans e6).trans e7)))
      have e47 := (e5.trans e6).trans e7
      exact ⟨⟨cs, at2, left2, seed, salt + 1, e47 _ _ g4, e47 _ _ g3, hcs, gl0, hs0, hs1⟩⟩
def sp_law_tape (K : PySem.W.Frag) : Sp := fun vs H Q _ => ∃ (a : Addr) (ns : List Int), vs = [.ref a] ∧ SqL K H a (ns.map V.int) ∧ ns.length ≤ 63 ∧ ∀ (d ca : Addr) (H' : Hp), H d = none → H ca = none → TapeAt H' d ca → Ex H H' → Q (.ref d) H'
theorem ok_law_tape (T : Txt K mg) : FnOk P w K mg base CX0 1 (f_law_tape K) (fd_law_tape K) ["script"] (sp_law_tape K) := by
  refine T.fn_law_tape.ok sc_law_tape (fun vs H Q E h => ?_) (fun cdv A outer s H vs Q E hr h => ⟨_, PSs.nox (pss_cons (ps_setLc (i := 1) (own := [("cell", 2)]) (by rfl) sc_law_tape.nd rfl rfl (sw_true rfl rfl rfl (by decide +kernel)) (pi_list (pv 0)) (blkOk_by (N := sc_law_tape_N) (sc := defScope s_law_tape) (own := [("cell", 2)]) (by decide +kernel)) (fun _ _ _ _ _ => (pg_name (i := 2) sc_law_tape.nd rfl (Or.inl rfl))) (fun _ _ _ _ _ => pts_nil) (fun _ _ _ _ _ => (pe_callB call_abs (by rfl) T.free_abs (by decide +kernel) (pa_cons (pe_callTy call_int1 (by rfl) T.free_int (by decide +kernel) (pa_cons (pv 2) pa_nil)) pa_nil)))) (pss_cons (ps_set (i := 3) sc_law_tape.nd rfl (Or.inl rfl) pe_int) (pss_cons (ps_for PassesOwn.never rfl (pi_list (pv 1)) (pg_name (i := 2) sc_law_tape.nd rfl (Or.inl rfl)) (pss_one (ps_set (i := 3) sc_law_tape.nd rfl (Or.inl rfl) (pe_op op_mod (pe_callTy call_int1 (by rfl) T.free_int (by decide +kernel) (pa_cons (pe_op op_add (pe_op op_mul (pv 3) pe_int) (pv 2)) pa_nil)) pe_int)))) (pss_one (ps_ret (pe_disp (pps_cons pe_str (pv 1) (pps_cons pe_str pe_int (pps_cons pe_str pe_int (pps_cons pe_str (pv 3) (pps_cons pe_str pe_int pps_nil))))) (by rfl) (by rfl) (fun z => by cases z) (by decide))))))), ?_⟩)
  · obtain ⟨_, _, rfl, _⟩ := h
    rfl
  obtain ⟨a, ns, rfl, hS, hl, k⟩ := h
  have hv : ((ns.map fun i => if i < 0 then -i else i).map V.int) = given (ns.map V.int).length (fun _ => true) (fun i => .int (if ns.getD i 0 < 0 then -(ns.getD i 0) else ns.getD i 0)) := by
    unfold given
    rw [List.filter_eq_self.mpr (by simp)]
    apply List.ext_getElem?
    intro i
    by_cases h : i < ns.length
    · simp [h]
    · simp [h]
  have hE : EvL (tLc (iList K (tVar 0)) (gName 2) tYes (tCB (fun xs H Q => ∃ i : Int, xs = [.int i] ∧ Q (.int (if i < 0 then -i else i)) H) (tCons (tCB (fun xs H Q => (∃ i, xs = [.int i] ∧ Q (.int i) H) ∨ ∃ k, xs = [.bl k] ∧ Q (.int (if k then 1 else 0)) H) (tCons (tVar 2) tNil)) tNil)) [2]) (L2.start sc_law_tape_N [V.ref a]) H ((ns.map fun i => if i < 0 then -i else i).map V.int) := by
    rw [hv]
    refine el_lcL _ _ (ev_var rfl) hS (by rw [List.length_map]; omega) (fun y => rfl) (fun i c H1 _ _ => (fun H1 _ _ q => q H1 (Ex.refl H1))) (fun i y H1 _ hi _ => ?_)
    rw [List.getElem?_map] at hi
    cases e : ns[i]? with
    | none => rw [e] at hi; cases hi
    | some x =>
      rw [e] at hi
      obtain rfl : V.int x = y := Option.some.inj hi
      have e2 : ns.getD i 0 = x := by rw [List.getD, e]; rfl
      rw [e2]
      exact ev_abs (ev_int1 (ev_var rfl))
  have hcs : ∀ c ∈ (ns.map fun i => if i < 0 then -i else i), (0 : Int) ≤ c := by
    intro c hc
    obtain ⟨i, _, rfl⟩ := List.mem_map.mp hc
    show 0 ≤ if i < 0 then -i else i
    split <;> omega
  generalize (ns.map fun i => if i < 0 then -i else i) = cs at hE hcs hv
  refine q_asgL hE fun ca H1 hca e1 h1 => ?_
  refine q_asg ev_c fun H2 e2 => ?_
  refine q_forL (K := K) (a := ca) (xs := cs.map V.int) (ev_var rfl) (sq_of (e2 _ _ h1)) (fun i σ' H' => ∃ (c : Option V) (seed : Int), σ' = [some (.ref a), some (.ref ca), c, some (.int seed)] ∧ 0 ≤ seed ∧ seed < 2147483647 ∧ Ex H2 H')
    (fun H3 e3 => ⟨none, 7, rfl, by decide, by decide, e3⟩) (fun i σ' H' _ ⟨_, _, _, _, _, e⟩ => sq_of (e _ _ (e2 _ _ h1))) ?_ ?_
  · rintro i y σ' H' hi ⟨c, seed, rfl, s0, s1, eH⟩
    obtain ⟨x, rfl⟩ : ∃ x, y = V.int x := by
      rw [List.getElem?_map] at hi
      cases e : cs[i]? with
      | none => rw [e] at hi; cases hi
      | some x => rw [e] at hi; exact ⟨x, (Option.some.inj hi).symm⟩
    refine s_asg (v := .int ((seed * 31 + x) % 2147483647)) (ev_op (ev_int1 (ev_op (ev_op (ev_var rfl) ev_c (rv_I (.inr ⟨by decide, by decide⟩))) (ev_var rfl) rv_I0)) ev_c (rv_I (by decide))) fun H3 e3 => ⟨some (.int x), (seed * 31 + x) % 2147483647, rfl, by omega, by omega, eH.trans e3⟩
  · rintro σ' H' ⟨c, seed, rfl, s0, s1, eH⟩
    intro d hd
    have e3 : Ex H' (upd H' d (.dK [])) := Ex.new hd
    have ed : Ex H (upd H' d (.dK [])) := ((e1.trans e2).trans eH).trans e3
    have hdn : H d = none := by
      cases e : H d with
      | none => rfl
      | some o => rw [((e1.trans e2).trans eH) _ _ e] at hd; cases hd
    refine ⟨_, rfl, _, rfl, upd_same, [(.inr "cells", .ref ca), (.inr "at", .int 0), (.inr "left", .int 0), (.inr "seed", .int seed), (.inr "salt", .int 0)], rfl, by show 5 ≤ 15; decide, ?_⟩
    have hca2 : H' ca = some (.lst (cs.map V.int)) := eH _ _ (e2 _ _ h1)
    have nca : ca ≠ d := ne_of_none hca2 hd
    refine k d ca _ hdn hca ⟨⟨cs, 0, 0, seed, 0, ?_, ?_, hcs, by decide, s0, s1⟩⟩ (Ex.mut ed hdn)
    · rw [upd_same]
      rfl
    · rw [upd_ne nca, upd_ne nca]
      exact hca2
end
end KA

namespace KA
open PySem PySem.Spec PyProof.Rows L2 Evl TL
/-! ### for laws: what is drawn, lists of draws, data compared -/
section
variable {σ : L2.St} {H : Hp} {K : PySem.W.Frag} {D : Ends} {d ca : Addr} {P P' : Int → Prop} {te tb : TE} {ta : TA} {tz : TS}
/-- a value drawn: the tape goes on, all else stands -/
def Dr (te : TE) (σ : L2.St) (d ca : Addr) (P : Int → Prop) : Prop := ∀ (H : Hp) (Q : VK), TapeAt H d ca → (∀ v H', P v → TapeAt H' d ca → FrD d H H' → Q (.int v) H') → te σ H Q
theorem Dr.imp (h : Dr te σ d ca P) (f : ∀ v, P v → P' v) : Dr te σ d ca P' := fun H Q hT q => h H Q hT fun v H' p => q v H' (f v p)
theorem dr_take {m : Int} (ha : ∀ H, EvA ta σ H [.ref d, .int m]) (hm : 0 < m ∧ m < 1073741824) : Dr (tCall sp_law_take [] E0 ta) σ d ca (fun v => 0 ≤ v ∧ v < m) :=
  fun H Q hT q => ha H H (Ex.refl H) _ fun H1 e1 => ⟨d, ca, m, rfl, hT.keep e1, hm.1, hm.2, fun v H' h0 h1 hT' f => q v H' ⟨h0, h1⟩ hT' ((FrD.of e1).trans f)⟩
theorem dr_int (h : Dr te σ d ca P) : Dr (tCB (fun xs H Q => (∃ i, xs = [.int i] ∧ Q (.int i) H) ∨ ∃ k, xs = [.bl k] ∧ Q (.int (if k then 1 else 0)) H) (tCons te tNil)) σ d ca P :=
  fun H Q hT q => h H _ hT fun v H' p hT' f => .inl ⟨v, rfl, q v H' p hT' f⟩
theorem dr_cmul {c : Int} (hc : -(2 ^ 64) < c ∧ c < 2 ^ 64) (h : Dr te σ d ca P) : Dr (tOp (rI CMul fun i j => .int (i * j)) (tC (.int c)) te) σ d ca (fun v => ∃ u, P u ∧ v = c * u) :=
  fun H Q hT q => h H _ hT fun v H' p hT' f => ⟨c, v, rfl, rfl, .inl hc, q _ H' ⟨v, p, rfl⟩ hT' f⟩
theorem dr_add (h : Dr te σ d ca P) (h2 : Dr tb σ d ca P') : Dr (tOp (rI0 fun i j => .int (i + j)) te tb) σ d ca (fun v => ∃ a b, P a ∧ P' b ∧ v = a + b) :=
  fun H Q hT q => h H _ hT fun v H1 p hT1 f1 => h2 H1 _ hT1 fun u H2 p2 hT2 f2 => ⟨v, u, rfl, rfl, q _ H2 ⟨v, u, p, p2, rfl⟩ hT2 (f1.trans f2)⟩
/-- a list of draws -/
theorem dl_lcR1 {j : Nat} {vs : List Nat} {n : Int} (h : ∀ H, EvA ta σ H [.int n]) (hn : 0 ≤ n ∧ n ≤ 40000) (hw : ∀ x, wipe ((wipe σ vs).set j (some x)) vs = wipe σ vs) (he : ∀ i : Nat, Dr te ((wipe σ vs).set j (some (.int (i : Int)))) d ca P)
    (H : Hp) (Q : VK) (hT : TapeAt H d ca) (q : ∀ p H' (xs : List Int), H p = none → xs.length = n.toNat → (∀ x ∈ xs, P x) → TapeAt H' d ca → FrD d H H' → H' p = some (.lst (xs.map V.int)) → Q (.ref p) H') : tLc (iRng1 ta) (gName j) tYes te vs σ H Q :=
  h H H (Ex.refl H) _ fun H1 e1 => ⟨n, rfl, by omega, by omega, fun Dl hD =>
    lc_range (lo := 0) (n := n.toNat) (fun i H' => ∃ xs : List Int, xs.length = i ∧ (∀ x ∈ xs, P x) ∧ TapeAt H' d ca ∧ FrD d H H' ∧ H' Dl = some (.lst (xs.map V.int)))
      ⟨[], rfl, (fun x hx => by cases hx), (hT.keep e1).keep (Ex.new hD), (FrD.of e1).trans (FrD.of (Ex.new hD)), upd_same⟩
      (fun i H' hi ⟨xs, hl, hx, hT', f, hDl⟩ => by
        have e0 : (0 : Int) + (i : Int) = (i : Int) := Int.zero_add _
        show wipe ((wipe σ vs).set j (some (.int ((0 : Int) + (i : Int))))) vs = wipe σ vs ∧ te ((wipe σ vs).set j (some (.int ((0 : Int) + (i : Int))))) H' fun y H4 => ∃ acc, H4 Dl = some (.lst acc) ∧ acc.length < sizeLine ∧ _
        rw [e0]
        have nn := (hT.keep e1).ne hD
        refine ⟨hw _, he i H' _ hT' fun v H4 pv hT4 f4 => ⟨xs.map V.int, f4 _ _ hDl nn.1, sz_lt (by rw [List.length_map]; omega), xs ++ [v], by simp [hl], fun x hm => ?_, hT4.upd nn.1 nn.2, ?_, by rw [upd_same, List.map_append]; rfl⟩⟩
        · rcases List.mem_append.mp hm with hm | hm
          · exact hx x hm
          · obtain rfl : x = v := by simpa using hm
            exact pv
        · intro b o hb hne
          have nb : b ≠ Dl := fun z => by
            rw [z] at hb
            rw [e1 _ _ hb] at hD
            cases hD
          rw [upd_ne nb]
          exact f4 _ _ (f _ _ hb hne) hne)
      (fun H' ⟨xs, hl, hx, hT', f, hDl⟩ => q Dl H' xs (fresh_back e1 hD) hl hx hT' f hDl)⟩
/-- name = e, told by what holds behind it -/
theorem q_asgQ {i : Nat} (h : te σ H fun v H1 => tz D (σ.set i (some v)) H1) : tSeq (tAsg te (gName i)) tz D σ H := h
theorem FrD.ex {H H' : Hp} (f : FrD d H H') (hd : H d = none) : Ex H H' := fun b o h => f b o h (fun z => by rw [z, hd] at h; cases h)
end
/-! ### flat data -/
def pd : V → PyData
  | .int i => .int i
  | .str s => .str s
  | .bl b => .bool b
  | _ => .none
def flatP : V → Bool
  | .int _ => true
  | .str s => PyData.strOk s
  | _ => false
section
variable {K : PySem.W.Frag} {H : Hp}
theorem dpAll_flat : ∀ {vs : List V}, vs.all flatP = true → DpAll K H vs (vs.map pd)
  | [], _ => .nil
  | v :: vs, h => by
    rw [List.all_cons, Bool.and_eq_true] at h
    refine .cons ?_ (dpAll_flat h.2)
    cases v with
    | int i => exact .int i
    | str s => exact .str s
    | bl b => cases h.1
    | ref a => cases h.1
    | non => cases h.1
    | _ => cases h.1
theorem canLay_flat : ∀ {vs : List V}, vs.all flatP = true → PyData.canLayAll0 (vs.map pd) = true ∧ PyData.depthAll (vs.map pd) = 0
  | [], _ => ⟨by simp [PyData.canLayAll0], by simp [PyData.depthAll]⟩
  | v :: vs, h => by
    rw [List.all_cons, Bool.and_eq_true] at h
    obtain ⟨h1, h2⟩ := canLay_flat h.2
    rw [List.map_cons, PyData.canLayAll0, PyData.depthAll, h1, h2]
    cases v with
    | int i => exact ⟨by simp [pd, PyData.canLay0], by simp [pd, PyData.depth]⟩
    | str s => exact ⟨by simp [pd, PyData.canLay0]; exact h.1, by simp [pd, PyData.depth]⟩
    | _ => cases h.1
theorem dp_lst {a : Addr} {vs : List V} (h : SqL K H a vs) (hf : vs.all flatP = true) : Dp K H (.ref a) (.list (vs.map pd)) := .lst h (dpAll_flat hf)
theorem dp_tup {a : Addr} {vs : List V} (h : SqT K H a vs) (hf : vs.all flatP = true) : Dp K H (.ref a) (.tuple (vs.map pd)) := .tup h (dpAll_flat hf)
theorem shaped_lst {vs : List V} (hf : vs.all flatP = true) : SeqAt.shaped (.list (vs.map pd)) = true := by
  obtain ⟨h1, h2⟩ := canLay_flat hf
  unfold SeqAt.shaped
  rw [PyData.canLay0, PyData.depth, h1, h2]
  rfl
theorem shaped_tup {vs : List V} (hf : vs.all flatP = true) : SeqAt.shaped (.tuple (vs.map pd)) = true := by
  obtain ⟨h1, h2⟩ := canLay_flat hf
  unfold SeqAt.shaped
  rw [PyData.canLay0, PyData.depth, h1, h2]
  rfl
theorem same_of_shaped {e : PyData} (h : SeqAt.shaped e = true) : PyData.eqv e e = true := PySem.SeqAt.eqv_refl e (SeqAt.canLay_of_shaped h)
theorem ints_flat (xs : List Int) : (xs.map V.int).all flatP = true := by
  rw [List.all_map]
  exact List.all_eq_true.mpr fun x _ => rfl
/-- two equal lists are not told apart -/
theorem ne_lst {a b : Addr} {vs : List V} (ha : SqL K H a vs) (hb : SqL K H b vs) (hf : vs.all flatP = true) : RV (rNeD K) (.ref a) (.ref b) H (.bl false) := fun H1 e Q q =>
  ⟨_, _, dp_lst (ex_l e ha) hf, dp_lst (ex_l e hb) hf, shaped_lst hf, shaped_lst hf, by rw [same_of_shaped (shaped_lst hf)]; exact q H1 (Ex.refl H1)⟩
theorem ne_tup {a b : Addr} {vs : List V} (ha : SqT K H a vs) (hb : SqT K H b vs) (hf : vs.all flatP = true) : RV (rNeD K) (.ref a) (.ref b) H (.bl false) := fun H1 e Q q =>
  ⟨_, _, dp_tup (ex_t e ha) hf, dp_tup (ex_t e hb) hf, shaped_tup hf, shaped_tup hf, by rw [same_of_shaped (shaped_tup hf)]; exact q H1 (Ex.refl H1)⟩
end
end KA

namespace KA
open PySem PySem.Spec PyProof.Rows L2 Evl TL
/-! ### the mathematics of rows -/
theorem numL_head (n : Nat) : 0 < n → (numL n).headD 0 ≠ 48 := by
  induction n using Nat.strongRecOn with
  | _ n ih =>
    intro h
    by_cases hn : n < 10
    · rw [numL_lt hn]
      simp
      omega
    · have h10 : 10 ≤ n := by omega
      have ih2 := ih (n / 10) (by omega) (by omega)
      rw [numL_step h10]
      have hne := numL_ne (n / 10)
      cases e : numL (n / 10) with
      | nil => exact absurd e hne
      | cons a r =>
        rw [e] at ih2
        simpa using ih2
theorem numL_zero : numL 0 = [48] := by rw [numL_lt (by decide)]
theorem numIn_sI {n m : Int} (h0 : 0 ≤ n) (h1 : n < 100000) (hm : n ≤ m) : numIn (sI n) m = some n := by
  have ht := tl_sI h0
  have hlen : (sI n).length = (numL n.toNat).length := by rw [len_tl, ht]
  have hb : numBad (sI n) = false := by
    unfold numBad
    rw [ht]
    have l5 : (numL n.toNat).length ≤ 5 := numL_len (by decide) (by have : (10 : Nat) ^ 5 = 100000 := by decide
                                                                    omega)
    have l1 : 1 ≤ (numL n.toNat).length := by
      have := numL_ne n.toNat
      cases e : numL n.toNat with
      | nil => exact absurd e this
      | cons a r => simp
    have hd : (numL n.toNat).all dig = true := List.all_eq_true.mpr fun c hc => by
      have := numL_digits n.toNat c hc
      unfold dig
      simpa using this
    rw [hd]
    have e1 : decide ((1 : Int) ≤ ((sI n).length : Int)) = true := decide_eq_true (by omega)
    have e2 : decide (((sI n).length : Int) ≤ 5) = true := decide_eq_true (by omega)
    rw [e1, e2]
    by_cases hz : n = 0
    · have e3 : decide (V.str (sI n) = V.str "0") = true := by rw [hz]; decide +kernel
      rw [e3]
      simp
    · have e4 : decide (V.str ⟨#[(numL n.toNat).headD 0]⟩ = V.str "0") = false := decide_eq_false fun z => by
        have z2 := congrArg tl (V.str.inj z)
        have z3 : tl ("0" : Str) = [48] := by decide +kernel
        rw [z3] at z2
        exact numL_head n.toNat (by omega) (by simpa [tl] using z2)
      rw [e4]
      rfl
  unfold numIn
  rw [if_neg (bF hb), ht, numL_val, if_pos (by omega)]
  congr 1
  omega
theorem regIn_r {a : Int} (h0 : 0 ≤ a) (h1 : a < 8) : regIn ("r" ++ sI a) = some a := by
  obtain ⟨k, rfl⟩ : ∃ k : Nat, a = k := ⟨a.toNat, by omega⟩
  have hk : k < 8 := by omega
  have : ∀ k < 8, regIn ("r" ++ sI ((k : Nat) : Int)) = some ((k : Nat) : Int) := by decide +kernel
  exact this k hk
theorem sI_no {n : Int} {c : Nat} (h : 0 ≤ n) (hc : c < 48 ∨ 57 < c) : c ∉ tl (sI n) := by
  rw [tl_sI h]
  exact numL_free hc
theorem tl_r : tl ("r" : Str) = [114] := by decide +kernel
theorem ra_no {n : Int} {c : Nat} (h : 0 ≤ n) (hc : c < 48) : c ∉ tl ("r" ++ sI n) := by
  rw [tl_append, tl_r]
  intro hm
  rcases List.mem_append.mp hm with hm | hm
  · have : c = 114 := by simpa using hm
    omega
  · exact sI_no h (.inl hc) hm
theorem NM_no : ∀ i < 12, ∀ c ∈ tl (NM.getD i ""), 97 ≤ c ∧ c < 128 := by decide +kernel
theorem TR_no : ∀ i < 20, ∀ c ∈ tl (TR.getD i ""), 97 ≤ c ∧ c < 128 := by decide +kernel
/-- parts without a blank come back -/
theorem split_parts {parts : List Str} (hne : parts ≠ []) (h : ∀ p ∈ parts, 32 ∉ tl p) : Txt.split (Str.join " " parts) " " = parts := by
  rw [← join_eq]
  exact split_join (s := 32) (S := []) tl_sp (by decide +kernel) hne h
theorem join1 (a : Str) : Str.join " " [a] = a := ext_tl (by rw [tl_join]; rfl)
theorem join2 (a b : Str) : Str.join " " [a, b] = a ++ " " ++ b := ext_tl (by rw [tl_join, tl_append, tl_append]; simp [joinL])
theorem join3 (a b c : Str) : Str.join " " [a, b, c] = a ++ " " ++ b ++ " " ++ c := ext_tl (by rw [tl_join, tl_append, tl_append, tl_append, tl_append]; simp [joinL])
theorem join4 (a b c d : Str) : Str.join " " [a, b, c, d] = a ++ " " ++ b ++ " " ++ c ++ " " ++ d := ext_tl (by rw [tl_join]; simp only [tl_append]; simp [joinL])
theorem sp_r (a b : Str) : a ++ " r" ++ b = a ++ " " ++ ("r" ++ b) := ext_tl (by
  simp only [tl_append]
  have : tl (" r" : Str) = [32, 114] := by decide +kernel
  rw [this, tl_sp, tl_r]
  simp)
theorem wordIn_of {t w0 : Str} {rest : List Str} (e : t = Str.join " " (w0 :: rest)) (h : ∀ p ∈ w0 :: rest, 32 ∉ tl p) : wordIn t = wordOf w0 rest := by
  unfold wordIn
  rw [e, split_parts (by simp) h]
theorem wordIn_sI {n : Int} (h0 : 0 ≤ n) (h1 : n < 65536) : wordIn (sI n) = some n := by
  rw [wordIn_of (join1 _).symm (fun p hp => by
    obtain rfl : p = sI n := by simpa using hp
    exact sI_no h0 (by decide))]
  unfold wordOf
  have hne : ¬ sI n = "halt" := fun z => by
    have z2 := congrArg tl z
    have z3 : tl ("halt" : Str) = [104, 97, 108, 116] := by decide +kernel
    rw [z3] at z2
    have : (104 : Nat) ∈ tl (sI n) := by rw [z2]; simp
    exact sI_no h0 (.inr (by decide)) this
  have e1 : (decide (V.int (((sI n :: []).length : Nat) : Int) = V.int 1) && !decide (V.str (sI n) = V.str "halt")) = true := by
    rw [decide_eq_false (p := V.str (sI n) = V.str "halt") (fun z => hne (V.str.inj z))]
    rfl
  rw [if_pos e1]
  exact numIn_sI h0 (by omega) (by omega)
theorem wordIn_rowOf {x : Int} (h0 : 0 ≤ x) (h1 : x < 65536) : wordIn (rowOf x) = some x := by
  unfold rowOf
  split
  · exact wordIn_sI h0 h1
  · split
    · rename_i h
      have h := of_decide_eq_true h
      cases e : wordIn (rowText x) with
      | none => rw [e] at h; cases h
      | some y => rw [e] at h; rw [V.int.inj h]
    · exact wordIn_sI h0 h1
/-! rows hold no line feed -/
theorem not_mem_cat {c : Nat} {a b : Str} (ha : c ∉ tl a) (hb : c ∉ tl b) : c ∉ tl (a ++ b) := by
  rw [tl_append]
  intro h
  rcases List.mem_append.mp h with h | h
  · exact ha h
  · exact hb h
theorem tl_nil_no {c : Nat} : c ∉ tl (Option.getD none ("" : Str)) := by
  rw [show tl (Option.getD none ("" : Str)) = [] by decide +kernel]
  simp
theorem rowOf_no {x : Int} {ch : Nat} (hc : ch = 10 ∨ 128 ≤ ch) (h0 : 0 ≤ x) (h1 : x < 65536) : ch ∉ tl (rowOf x) := by
  have n1 : ch ∉ tl (sI x) := sI_no h0 (by omega)
  have nn : ch ∉ tl (NM.getD (x / 4096).toNat "") := by
    by_cases h : (x / 4096).toNat < 12
    · intro hm
      have := NM_no _ h _ hm
      omega
    · rw [List.getD, List.getElem?_eq_none (by show 12 ≤ _; omega)]
      exact tl_nil_no
  have nt : ch ∉ tl (TR.getD (x % 64).toNat "") := by
    by_cases h : (x % 64).toNat < 20
    · intro hm
      have := TR_no _ h _ hm
      omega
    · rw [List.getD, List.getElem?_eq_none (by show 20 ≤ _; omega)]
      exact tl_nil_no
  have nr : ch ∉ tl (" r" : Str) := by
    rw [show tl (" r" : Str) = [32, 114] by decide +kernel]
    simp
    omega
  have ns : ch ∉ tl (" " : Str) := by
    rw [show tl (" " : Str) = [32] by decide +kernel]
    simp
    omega
  have na : ch ∉ tl (sI (x / 512 % 8)) := sI_no (by omega) (by omega)
  have nb : ch ∉ tl (sI (x / 64 % 8)) := sI_no (by omega) (by omega)
  have nc : ch ∉ tl (sI (x % 64)) := sI_no (by omega) (by omega)
  have nc8 : ch ∉ tl (sI (x % 64 % 8)) := sI_no (by omega) (by omega)
  have nbc : ch ∉ tl (sI (x / 64 % 8 * 64 + x % 64)) := sI_no (by omega) (by omega)
  have nT : ch ∉ tl (rowText x) := by
    unfold rowText
    split
    · exact nn
    split
    · exact not_mem_cat (not_mem_cat (not_mem_cat (not_mem_cat nn nr) na) ns) nbc
    split
    · exact not_mem_cat (not_mem_cat nn ns) nbc
    split
    · exact not_mem_cat (not_mem_cat (not_mem_cat (not_mem_cat (not_mem_cat (not_mem_cat nn nr) na) nr) nb) ns) nc
    split
    · split
      · exact not_mem_cat (not_mem_cat nn ns) nt
      · exact not_mem_cat (not_mem_cat nn ns) nc
    · exact not_mem_cat (not_mem_cat (not_mem_cat (not_mem_cat (not_mem_cat (not_mem_cat nn nr) na) nr) nb) nr) nc8
  unfold rowOf
  split
  · exact n1
  split
  · exact nT
  · exact n1
theorem rowOf_nl {x : Int} (h0 : 0 ≤ x) (h1 : x < 65536) : 10 ∉ tl (rowOf x) := rowOf_no (.inl rfl) h0 h1
theorem rowOf_ok {x : Int} (h0 : 0 ≤ x) (h1 : x < 65536) : PyData.strOk (rowOf x) = true := by
  unfold PyData.strOk
  rw [← Array.all_toList, List.all_eq_true]
  intro c hc
  have : ¬ (128 ≤ c) := fun z => rowOf_no (.inr z) h0 h1 hc
  exact decide_eq_true (by omega)
theorem split_text {xs : List Int} (hne : xs ≠ []) (h : ∀ x ∈ xs, 0 ≤ x ∧ x < 65536) : Txt.split (textOf xs) "\n" = xs.map rowOf :=
  split_join (s := 10) (S := []) tl_nl (by decide +kernel) (by simpa using hne) fun p hp => by
    obtain ⟨x, hx, rfl⟩ := List.mem_map.mp hp
    exact rowOf_nl (h x hx).1 (h x hx).2
theorem code_text {xs : List Int} (hne : xs ≠ []) (h : ∀ x ∈ xs, 0 ≤ x ∧ x < 65536) : (Txt.split (textOf xs) "\n").map wordIn = xs.map some := by
  rw [split_text hne h, List.map_map]
  apply List.map_congr_left
  intro x hx
  exact wordIn_rowOf (h x hx).1 (h x hx).2
/-! ### the law's own rows -/
theorem wo_set (p q : Str) : wordOf "set" [p, q] = (regIn p).bind fun a => (numIn q 511).map fun n => wd 1 a (n / 64) (n % 64) := by rfl
theorem wo_zero (p q : Str) : wordOf "zero" [p, q] = (regIn p).bind fun a => (numIn q 511).map fun n => wd 7 a (n / 64) (n % 64) := by rfl
theorem wo_jump (q : Str) : wordOf "jump" [q] = (numIn q 511).map fun n => wd 6 0 (n / 64) (n % 64) := by rfl
theorem wo_add (p q r : Str) : wordOf "add" [p, q, r] = (regIn p).bind fun a => (regIn q).bind fun b => (regIn r).map fun c => wd 2 a b c := by rfl
theorem wo_sub (p q r : Str) : wordOf "sub" [p, q, r] = (regIn p).bind fun a => (regIn q).bind fun b => (regIn r).map fun c => wd 3 a b c := by rfl
theorem wo_mul (p q r : Str) : wordOf "mul" [p, q, r] = (regIn p).bind fun a => (regIn q).bind fun b => (regIn r).map fun c => wd 8 a b c := by rfl
theorem wo_less (p q r : Str) : wordOf "less" [p, q, r] = (regIn p).bind fun a => (regIn q).bind fun b => (regIn r).map fun c => wd 9 a b c := by rfl
theorem wo_and (p q r : Str) : wordOf "and" [p, q, r] = (regIn p).bind fun a => (regIn q).bind fun b => (regIn r).map fun c => wd 11 a b c := by rfl
theorem wo_load (p q r : Str) : wordOf "load" [p, q, r] = (regIn p).bind fun a => (regIn q).bind fun b => (numIn r 63).map fun c => wd 4 a b c := by rfl
theorem wo_store (p q r : Str) : wordOf "store" [p, q, r] = (regIn p).bind fun a => (regIn q).bind fun b => (numIn r 63).map fun c => wd 5 a b c := by rfl
theorem rowOf_own {x : Int} {t : Str} (hx : x / 4096 < 12) (ht : rowText x = t) (hw : wordIn t = some x) : rowOf x = t := by
  unfold rowOf
  rw [if_neg (by simp; omega), ht, hw, if_pos (by simp [oV])]
theorem lit_sp {z u : Str} (x : Str) (h : tl z = tl u ++ [32, 114]) : z ++ x = u ++ " " ++ ("r" ++ x) := ext_tl (by
  simp only [tl_append]
  rw [h, tl_sp, tl_r]
  simp)
theorem own_set {a n : Int} (a0 : 0 ≤ a) (a1 : a < 8) (n0 : 0 ≤ n) (n1 : n < 512) : wordIn ("set r" ++ sI a ++ " " ++ sI n) = some (4096 + 512 * a + n) ∧ rowOf (4096 + 512 * a + n) = "set r" ++ sI a ++ " " ++ sI n := by
  have hw : wordIn ("set r" ++ sI a ++ " " ++ sI n) = some (4096 + 512 * a + n) := by
    rw [wordIn_of (w0 := "set") (rest := ["r" ++ sI a, sI n]) (by rw [join3, lit_sp (z := "set r") (u := "set") _ (by decide +kernel)]) (by
      intro p hp
      simp at hp
      rcases hp with rfl | rfl | rfl
      · decide +kernel
      · exact ra_no a0 (by decide)
      · exact sI_no n0 (by decide)), wo_set, regIn_r a0 a1, numIn_sI n0 (by omega) (by omega)]
    simp only [Option.bind_some, Option.map_some, wd]
    congr 1
    omega
  refine ⟨hw, rowOf_own (by omega) ?_ hw⟩
  unfold rowText
  rw [show (4096 + 512 * a + n) / 4096 = 1 by omega, show (4096 + 512 * a + n) / 512 % 8 = a by omega, show (4096 + 512 * a + n) / 64 % 8 * 64 + (4096 + 512 * a + n) % 64 = n by omega, if_neg (by decide), if_pos (by decide +kernel)]
  exact ext_tl (by simp only [tl_append]; rw [show tl ("set r" : Str) = tl (NM.getD (1 : Int).toNat "") ++ tl (" r" : Str) by decide +kernel])
theorem own_zero {a n : Int} (a0 : 0 ≤ a) (a1 : a < 8) (n0 : 0 ≤ n) (n1 : n < 512) : wordIn ("zero r" ++ sI a ++ " " ++ sI n) = some (28672 + 512 * a + n) ∧ rowOf (28672 + 512 * a + n) = "zero r" ++ sI a ++ " " ++ sI n := by
  have hw : wordIn ("zero r" ++ sI a ++ " " ++ sI n) = some (28672 + 512 * a + n) := by
    rw [wordIn_of (w0 := "zero") (rest := ["r" ++ sI a, sI n]) (by rw [join3, lit_sp (z := "zero r") (u := "zero") _ (by decide +kernel)]) (by
      intro p hp
      simp at hp
      rcases hp with rfl | rfl | rfl
      · decide +kernel
      · exact ra_no a0 (by decide)
      · exact sI_no n0 (by decide)), wo_zero, regIn_r a0 a1, numIn_sI n0 (by omega) (by omega)]
    simp only [Option.bind_some, Option.map_some, wd]
    congr 1
    omega
  refine ⟨hw, rowOf_own (by omega) ?_ hw⟩
  unfold rowText
  rw [show (28672 + 512 * a + n) / 4096 = 7 by omega, show (28672 + 512 * a + n) / 512 % 8 = a by omega, show (28672 + 512 * a + n) / 64 % 8 * 64 + (28672 + 512 * a + n) % 64 = n by omega, if_neg (by decide), if_pos (by decide +kernel)]
  exact ext_tl (by simp only [tl_append]; rw [show tl ("zero r" : Str) = tl (NM.getD (7 : Int).toNat "") ++ tl (" r" : Str) by decide +kernel])
theorem own_jump {n : Int} (n0 : 0 ≤ n) (n1 : n < 512) : wordIn ("jump " ++ sI n) = some (24576 + n) ∧ rowOf (24576 + n) = "jump " ++ sI n := by
  have hj : "jump " ++ sI n = ("jump" : Str) ++ " " ++ sI n := ext_tl (by simp only [tl_append]; rw [show tl ("jump " : Str) = tl ("jump" : Str) ++ tl (" " : Str) by decide +kernel])
  have hw : wordIn ("jump " ++ sI n) = some (24576 + n) := by
    rw [wordIn_of (w0 := "jump") (rest := [sI n]) (by rw [join2, hj]) (by
      intro p hp
      simp at hp
      rcases hp with rfl | rfl
      · decide +kernel
      · exact sI_no n0 (by decide)), wo_jump, numIn_sI n0 (by omega) (by omega)]
    simp only [Option.map_some, wd]
    congr 1
    omega
  refine ⟨hw, rowOf_own (by omega) ?_ hw⟩
  unfold rowText
  rw [show (24576 + n) / 4096 = 6 by omega, show (24576 + n) / 64 % 8 * 64 + (24576 + n) % 64 = n by omega, if_neg (by decide), if_neg (by decide +kernel), if_pos (by decide +kernel), hj]
  rfl
theorem cat_rrr (w0 x y z : Str) : w0 ++ " r" ++ x ++ " r" ++ y ++ " r" ++ z = Str.join " " [w0, "r" ++ x, "r" ++ y, "r" ++ z] := by rw [join4, sp_r, sp_r, sp_r]
theorem cat_rr (w0 x y z : Str) : w0 ++ " r" ++ x ++ " r" ++ y ++ " " ++ z = Str.join " " [w0, "r" ++ x, "r" ++ y, z] := by rw [join4, sp_r, sp_r]
theorem own_three {w0 : Str} {op : Int} (h0 : 32 ∉ tl w0) (hwo : ∀ p q r : Str, wordOf w0 [p, q, r] = (regIn p).bind fun a => (regIn q).bind fun b => (regIn r).map fun c => wd op a b c) (hop : 0 < op ∧ op < 12) (hn : NM.getD op.toNat "" = w0)
    (hc1 : inV (.str w0) [.str "set", .str "zero"] = false) (hc2 : ¬ w0 = "jump") (hc3 : inV (.str w0) [.str "load", .str "store"] = false) (hc4 : ¬ w0 = "trap") {a b c : Int} (a0 : 0 ≤ a) (a1 : a < 8) (b0 : 0 ≤ b) (b1 : b < 8) (c0 : 0 ≤ c) (c1 : c < 8) :
    wordIn (w0 ++ " r" ++ sI a ++ " r" ++ sI b ++ " r" ++ sI c) = some (4096 * op + 512 * a + 64 * b + c) ∧ rowOf (4096 * op + 512 * a + 64 * b + c) = w0 ++ " r" ++ sI a ++ " r" ++ sI b ++ " r" ++ sI c := by
  have hw : wordIn (w0 ++ " r" ++ sI a ++ " r" ++ sI b ++ " r" ++ sI c) = some (4096 * op + 512 * a + 64 * b + c) := by
    rw [wordIn_of (cat_rrr _ _ _ _) (by
      intro p hp
      simp at hp
      rcases hp with rfl | rfl | rfl | rfl
      · exact h0
      · exact ra_no a0 (by decide)
      · exact ra_no b0 (by decide)
      · exact ra_no c0 (by decide)), hwo, regIn_r a0 a1, regIn_r b0 b1, regIn_r c0 c1]
    simp only [Option.bind_some, Option.map_some, wd]
    congr 1
    omega
  refine ⟨hw, rowOf_own (by omega) ?_ hw⟩
  have e1 : (4096 * op + 512 * a + 64 * b + c) / 4096 = op := by omega
  unfold rowText
  rw [e1, hn, show (4096 * op + 512 * a + 64 * b + c) / 512 % 8 = a by omega, show (4096 * op + 512 * a + 64 * b + c) / 64 % 8 = b by omega, show (4096 * op + 512 * a + 64 * b + c) % 64 % 8 = c by omega,
    if_neg (by simp; omega), if_neg (bF hc1), if_neg (by simpa using hc2), if_neg (bF hc3), if_neg (by simpa using hc4)]
theorem own_two {w0 : Str} {op : Int} (h0 : 32 ∉ tl w0) (hwo : ∀ p q r : Str, wordOf w0 [p, q, r] = (regIn p).bind fun a => (regIn q).bind fun b => (numIn r 63).map fun c => wd op a b c) (hop : 0 < op ∧ op < 12) (hn : NM.getD op.toNat "" = w0)
    (hc1 : inV (.str w0) [.str "set", .str "zero"] = false) (hc2 : ¬ w0 = "jump") (hc3 : inV (.str w0) [.str "load", .str "store"] = true) {a b c : Int} (a0 : 0 ≤ a) (a1 : a < 8) (b0 : 0 ≤ b) (b1 : b < 8) (c0 : 0 ≤ c) (c1 : c < 64) :
    wordIn (w0 ++ " r" ++ sI a ++ " r" ++ sI b ++ " " ++ sI c) = some (4096 * op + 512 * a + 64 * b + c) ∧ rowOf (4096 * op + 512 * a + 64 * b + c) = w0 ++ " r" ++ sI a ++ " r" ++ sI b ++ " " ++ sI c := by
  have hw : wordIn (w0 ++ " r" ++ sI a ++ " r" ++ sI b ++ " " ++ sI c) = some (4096 * op + 512 * a + 64 * b + c) := by
    rw [wordIn_of (cat_rr _ _ _ _) (by
      intro p hp
      simp at hp
      rcases hp with rfl | rfl | rfl | rfl
      · exact h0
      · exact ra_no a0 (by decide)
      · exact ra_no b0 (by decide)
      · exact sI_no c0 (by decide)), hwo, regIn_r a0 a1, regIn_r b0 b1, numIn_sI c0 (by omega) (by omega)]
    simp only [Option.bind_some, Option.map_some, wd]
    congr 1
    omega
  refine ⟨hw, rowOf_own (by omega) ?_ hw⟩
  have e1 : (4096 * op + 512 * a + 64 * b + c) / 4096 = op := by omega
  unfold rowText
  rw [e1, hn, show (4096 * op + 512 * a + 64 * b + c) / 512 % 8 = a by omega, show (4096 * op + 512 * a + 64 * b + c) / 64 % 8 = b by omega, show (4096 * op + 512 * a + 64 * b + c) % 64 = c by omega,
    if_neg (by simp; omega), if_neg (bF hc1), if_neg (by simpa using hc2), if_pos hc3]
theorem own_trap : ∀ k < 20, wordIn ("trap " ++ TR.getD k "") = some (40960 + (k : Int)) ∧ rowOf (40960 + (k : Int)) = "trap " ++ TR.getD k "" := by decide +kernel
/-- the wrong rows -/
def BAD : List Str := ["set r8 1", "set r1 512", "add r1 r2", "trap fly", "", "65536", "07", "halt 1", "load r1 r2 64", "jump", "fly r1", "zero  r1 2"]
theorem bad_none : ∀ i < 12, wordIn (BAD.getD i "") = none := by decide +kernel
theorem bad_nl : ∀ i < 12, 10 ∉ tl (BAD.getD i "") := by decide +kernel
theorem wordIn_halt : wordIn "halt" = some 0 := by decide +kernel
theorem ends : rowOf 0 = "halt" ∧ rowOf 1 = "1" ∧ rowOf 61440 = "61440" ∧ rowOf 40980 = "trap 20" ∧ rowOf 40979 = "trap status" ∧ numIn "10" 10 = some 10 ∧ numIn "11" 10 = none ∧ numIn "01" 10 = none ∧ regIn "r7" = some 7 ∧ regIn "r8" = none := by decide +kernel
theorem split_bad (n i : Nat) (hi : i < 12) : Txt.split (Txt.join "\n" (List.replicate n ("halt" : Str) ++ [BAD.getD i "", "fly"])) "\n" = List.replicate n ("halt" : Str) ++ [BAD.getD i "", "fly"] := by
  refine split_join (s := 10) (S := []) tl_nl (by decide +kernel) ?_ fun p hp => ?_
  · intro z; have := congrArg List.length z; simp at this
  rcases List.mem_append.mp hp with hp | hp
  · rw [List.eq_of_mem_replicate hp]
    decide +kernel
  · have : p = BAD.getD i "" ∨ p = "fly" := by simpa using hp
    rcases this with rfl | rfl
    · exact bad_nl i hi
    · decide +kernel
end KA

namespace KA
open PySem PySem.Spec PyProof.Rows L2 Evl TL
section
variable {σ : L2.St} {H H' : Hp} {K : PySem.W.Frag} {D : Ends}
/-- tuple of a list -/
theorem eu_tupOf {ta : TE} {p : Addr} {xs : List V} (ha : Ev ta σ H (.ref p)) (h : SqL K H p xs) : EvU (tCB (rTupK K) (tCons ta tNil)) σ H xs := fun H1 e Q q =>
  ha H1 e _ fun H2 e2 => ⟨p, xs, rfl, .inl ⟨ex_l (e.trans e2) h, fun l hl => q l _ (fresh_back e2 hl) (e2.trans (Ex.new hl)) upd_same⟩⟩
/-- [f(x) for x in ints] -/
theorem el_ints {te : TE} {f : Int → V} {j : Nat} {vs : List Nat} {tx : TE} {a : Addr} {xs : List Int} (h : Ev tx σ H (.ref a)) (hS : SqL K H a (xs.map V.int)) (hl : xs.length ≤ 40000) (hw : ∀ x, wipe ((wipe σ vs).set j (some x)) vs = wipe σ vs)
    (he : ∀ x H1, Ex H H1 → x ∈ xs → Ev te ((wipe σ vs).set j (some (.int x))) H1 (f x)) : EvL (tLc (iList K tx) (gName j) tYes te vs) σ H (xs.map f) := by
  have hv : xs.map f = given (xs.map V.int).length (fun _ => true) (fun i => f (xs.getD i 0)) := by
    unfold given
    rw [List.filter_eq_self.mpr (by simp)]
    apply List.ext_getElem?
    intro i
    by_cases h : i < xs.length
    · simp [h]
    · simp [h]
  rw [hv]
  refine el_lcL _ _ h hS (by rw [List.length_map]; omega) hw (fun i c H1 _ _ => et_yes) (fun i y H1 e1 hi _ => ?_)
  rw [List.getElem?_map] at hi
  cases e : xs[i]? with
  | none => rw [e] at hi; cases hi
  | some x =>
    rw [e] at hi
    obtain rfl : V.int x = y := Option.some.inj hi
    have e2 : xs.getD i 0 = x := by rw [List.getD, e]; rfl
    rw [e2]
    exact he x H1 e1 (List.mem_of_getElem? e)
theorem strs_flat {xs : List Str} (h : ∀ x ∈ xs, PyData.strOk x = true) : (xs.map V.str).all flatP = true := by
  rw [List.all_map]
  exact List.all_eq_true.mpr h
theorem joinL_len {S : List Nat} {b : Nat} : ∀ {ps : List (List Nat)}, (∀ p ∈ ps, p.length ≤ b) → (joinL S ps).length ≤ ps.length * (b + S.length)
  | [], _ => by simp [joinL]
  | [p], h => by
    have := h p List.mem_cons_self
    simp only [joinL, List.length_cons, List.length_nil]
    omega
  | p :: q :: r, h => by
    have h1 := h p List.mem_cons_self
    have h2 := joinL_len (S := S) (b := b) (ps := q :: r) fun x hx => h x (List.mem_cons_of_mem _ hx)
    rw [joinL, List.length_append, List.length_append, List.length_cons, Nat.succ_mul]
    omega
theorem textOf_len {xs : List Int} (hl : xs.length ≤ 100) (hx : ∀ x ∈ xs, 0 ≤ x ∧ x < 65536) : (textOf xs).length ≤ 20000 := by
  unfold textOf
  rw [len_tl, join_eq, tl_join]
  have := joinL_len (S := tl ("\n" : Str)) (b := 100) (ps := (xs.map rowOf).map tl) (by
    intro p hp
    rw [List.map_map] at hp
    obtain ⟨x, h, rfl⟩ := List.mem_map.mp hp
    show (tl (rowOf x)).length ≤ 100
    rw [← len_tl]
    exact rowOf_len (hx x h).1 (hx x h).2)
  rw [List.length_map, List.length_map, show (tl ("\n" : Str)).length = 1 by decide +kernel] at this
  have h2 : xs.length * (100 + 1) ≤ 100 * (100 + 1) := Nat.mul_le_mul_right _ hl
  omega
theorem map_some_inj {xs ys : List Int} (h : xs.map some = ys.map some) : xs = ys := by
  have := congrArg (List.map (fun o => Option.getD o 0)) h
  rw [List.map_map, List.map_map, show ((fun o : Option Int => o.getD 0) ∘ some) = id from rfl, List.map_id, List.map_id] at this
  exact this
/-- over a new tuple of values -/
theorem q_forNU {xs : List V} {tx : TE} {g : TG} {tu tz : TS} (h : EvU tx σ H xs) (Pv : Addr → Nat → L2.St → Hp → Prop) (h0 : ∀ p H1, H p = none → Ex H H1 → H1 p = some (.tup xs) → Pv p 0 σ H1) (hl : ∀ p i σ' H', i ≤ xs.length → Pv p i σ' H' → SqT K H' p xs)
    (hs : ∀ p i x σ' H', xs[i]? = some x → Pv p i σ' H' → g x σ' H' fun σ2 H2 => tu { D with nx := Pv p (i + 1), ct := Pv p (i + 1), bk := tz D } σ2 H2) (hd : ∀ p σ' H', Pv p xs.length σ' H' → tz D σ' H') : tSeq (tFor (iTup K tx) g tu) tz D σ H :=
  h H (Ex.refl H) _ fun p H1 hp e h1 => ⟨p, rfl, ⟨xs, st_of h1⟩, for_tup (Pv p) (h0 p H1 hp e h1) (hl p) (hs p) (hd p)⟩
/-! ### pairs of a row and its word -/
def Good (r : Str) (x : Int) : Prop := wordIn r = some x ∧ (4096 ≤ x → rowOf x = r) ∧ r.length ≤ 20000 ∧ 0 ≤ x ∧ x < 65536
def GoodV (H : Hp) (v : V) : Prop := ∃ p r x, v = .ref p ∧ H p = some (.tup [.str r, .int x]) ∧ Good r x
theorem GoodV.mono {v : V} (g : GoodV H v) (e : Ex H H') : GoodV H' v := by
  obtain ⟨p, r, x, rfl, h, g⟩ := g
  exact ⟨p, r, x, rfl, e _ _ h, g⟩
theorem GoodV.upd {v : V} {l : Addr} {xs : List V} {o : HO} (g : GoodV H v) (hl : H l = some (.lst xs)) : GoodV (L2.upd H l o) v := by
  obtain ⟨p, r, x, rfl, h, g⟩ := g
  have n : p ≠ l := ne_of h hl (by intro z; cases z)
  exact ⟨p, r, x, rfl, by rw [upd_ne n]; exact h, g⟩
def EvG (te : TE) (σ : L2.St) (H : Hp) : Prop := ∀ H1, Ex H H1 → ∀ Q : VK, (∀ v H2, Ex H1 H2 → GoodV H2 v → Q v H2) → te σ H1 Q
def EvGs (ta : TA) (σ : L2.St) (H : Hp) (n : Nat) : Prop := ∀ H1, Ex H H1 → ∀ Q : List V → Hp → Prop, (∀ vs H2, Ex H1 H2 → vs.length = n → (∀ v ∈ vs, GoodV H2 v) → Q vs H2) → ta σ H1 Q
def EvGL (te : TE) (σ : L2.St) (H : Hp) (n : Nat) : Prop := ∀ H1, Ex H H1 → ∀ Q : VK, (∀ p vs H2, H1 p = none → Ex H1 H2 → H2 p = some (.lst vs) → vs.length = n → (∀ v ∈ vs, GoodV H2 v) → Q (.ref p) H2) → te σ H1 Q
variable {ta tb te : TE} {r : Str} {x : Int} {n m : Nat}
theorem eg_tup (ha : Ev ta σ H (.str r)) (hb : Ev tb σ H (.int x)) (g : Good r x) : EvG (tTup (tCons ta (tCons tb tNil))) σ H := fun H1 e Q q =>
  eu_tup (ea_cons ha (ea_cons hb ea_nil)) (by show 2 ≤ 100000; decide) H1 e _ fun p H2 hp e2 h2 => q _ H2 e2 ⟨p, r, x, rfl, h2, g⟩
theorem egs_nil : EvGs tNil σ H 0 := fun H1 e Q q => q [] H1 (Ex.refl H1) rfl fun v hv => by cases hv
theorem egs_cons {tr : TA} (h : EvG te σ H) (hr : EvGs tr σ H n) : EvGs (tCons te tr) σ H (n + 1) := fun H1 e Q q =>
  h H1 e _ fun v H2 e2 gv => hr H2 (e.trans e2) _ fun vs H3 e3 hl hv => q (v :: vs) H3 (e2.trans e3) (by rw [List.length_cons, hl]) fun u hu => by
    rcases List.mem_cons.mp hu with rfl | hu
    · exact gv.mono e3
    · exact hv u hu
theorem egl_lst {tr : TA} (h : EvGs tr σ H n) (hn : n ≤ 100000) : EvGL (tLst tr) σ H n := fun H1 e Q q =>
  h H1 e _ fun vs H2 e2 hl hv => ⟨sz_of (by omega), fun p hp => q p vs _ (fresh_back e2 hp) (e2.trans (Ex.new hp)) upd_same hl fun v h => (hv v h).mono (Ex.new hp)⟩
theorem egl_cat (h1 : EvGL ta σ H n) (h2 : EvGL tb σ H m) (hn : n + m ≤ 100000) : EvGL (tOp rCat ta tb) σ H (n + m) := fun H1 e Q q =>
  h1 H1 e _ fun p vs H2 hp e2 hp2 hl hv => h2 H2 (e.trans e2) _ fun p' vs' H3 hp' e3 hp3 hl' hv' =>
    ⟨p, p', vs, vs', rfl, rfl, e3 _ _ hp2, hp3, sz_of (by omega), fun l hl3 => q l _ _ (fresh_back (e2.trans e3) hl3) ((e2.trans e3).trans (Ex.new hl3)) upd_same (by rw [List.length_append, hl, hl']) fun v hv2 => by
      rcases List.mem_append.mp hv2 with z | z
      · exact (hv v z).mono (e3.trans (Ex.new hl3))
      · exact (hv' v z).mono (Ex.new hl3)⟩
theorem el_rep {xs : List V} {k : Int} (h1 : EvL ta σ H xs) (h2 : ∀ H1, Ex H H1 → Ev tb σ H1 (.int k)) (hk : 0 ≤ k ∧ k ≤ 1000) (hx : xs.length ≤ 10) : EvL (tOp rRep ta tb) σ H (List.replicate k.toNat xs).flatten := fun H1 e Q q =>
  h1 H1 e _ fun p H2 hp e2 hp2 => h2 H2 (e.trans e2) H2 (Ex.refl H2) _ fun H3 e3 => ⟨p, k, xs, rfl, rfl, e3 _ _ hp2, by omega, by omega, sz_of (by
    have : xs.length * k.toNat ≤ 10 * 1000 := Nat.mul_le_mul hx (by omega)
    omega), fun l hl => q l _ (fresh_back (e2.trans e3) hl) ((e2.trans e3).trans (Ex.new hl)) upd_same⟩
theorem el_cat {xs ys : List V} (h1 : EvL ta σ H xs) (h2 : EvL tb σ H ys) (hz : xs.length + ys.length ≤ 100000) : EvL (tOp rCat ta tb) σ H (xs ++ ys) := fun H1 e Q q =>
  h1 H1 e _ fun p H2 hp e2 hp2 => h2 H2 (e.trans e2) _ fun p' H3 hp' e3 hp3 => ⟨p, p', xs, ys, rfl, rfl, e3 _ _ hp2, hp3, sz_of hz, fun l hl => q l _ (fresh_back (e2.trans e3) hl) ((e2.trans e3).trans (Ex.new hl)) upd_same⟩
theorem ev_join {z : Str} {ys : List Str} (h : EvL te σ H (ys.map V.str)) (hz : (ys.map (·.length)).sum + ys.length * z.length ≤ 16777216) : Ev (tM1 (rJoinK K) (tC (.str z)) te) σ H (.str (Txt.join z ys)) := fun H1 e Q q =>
  ⟨⟨z, rfl⟩, h H1 e _ fun p H2 hp e2 hp2 => ⟨z, p, ys, rfl, rfl, .inl (sq_of hp2), hz, q H2 e2⟩⟩
/-- try: a call, then u; except c as i: ts -/
theorem q_try1 {sp : Sp} {t : TA} {c : Value} {i : Nat} {ts : Addr → Value → Option Addr → TS} {Wout : WX} {u tz : TS} {vs : List V} (h : EvA t σ H vs)
    (k : ∀ H1, Ex H H1 → sp vs H1 (fun _ H2 => u { D with nx := tz D } σ H2) (WE (wAs K c i ts Wout { D with nx := tz D }) σ)) : tSeq (fun D σ H => tSeq (tDrop (tCallS sp (WE (wAs K c i ts Wout D)) t)) u D σ H) tz D σ H := h H (Ex.refl H) _ k
theorem s_appG {l : Addr} {vs : List V} (hl : H l = some (.lst vs)) (ha : Ev ta σ H (.ref l)) (h : EvG te σ H) (hz : vs.length < 100000) (k : ∀ v H1, Ex H H1 → GoodV H1 v → D.nx σ (upd H1 l (.lst (vs ++ [v])))) :
    tDrop (tBM K "list" rAppend ta (tCons te tNil)) D σ H := ha H (Ex.refl H) _ fun H1 e1 =>
  ⟨Or.inl ⟨rfl, vs, sq_of (e1 l _ hl)⟩, h H1 e1 _ fun v H2 e2 gv => ⟨l, vs, v, rfl, rfl, e2 l _ (e1 l _ hl), sz_lt hz, k v H2 (e1.trans e2) gv⟩⟩
theorem dr_take1 {tt : TA} {d ca : Addr} {m : Int} {Q : VK} (hT : TapeAt H d ca) (ha : EvA tt σ H [.ref d, .int m]) (hm : 0 < m ∧ m < 1073741824) (q : ∀ v H', 0 ≤ v → v < m → TapeAt H' d ca → FrD d H H' → Q (.int v) H') : tCall sp_law_take [] E0 tt σ H Q :=
  ha H (Ex.refl H) _ fun H1 e1 => ⟨d, ca, m, rfl, hT.keep e1, hm.1, hm.2, fun v H' h0 h1 hT' f => q v H' h0 h1 hT' ((FrD.of e1).trans f)⟩
theorem egl_lcR1 {tn : TA} {j : Nat} {us : List Nat} {N : Int} (h : ∀ H1, Ex H H1 → EvA tn σ H1 [.int N]) (hn : 0 ≤ N ∧ N ≤ 40000) (hw : ∀ x, wipe ((wipe σ us).set j (some x)) us = wipe σ us)
    (he : ∀ (i : Nat) H1, Ex H H1 → (i : Int) < N → EvG te ((wipe σ us).set j (some (.int (i : Int)))) H1) : EvGL (tLc (iRng1 tn) (gName j) tYes te us) σ H N.toNat := fun H0 e0 Q q =>
  h H0 e0 H0 (Ex.refl H0) _ fun H1 e1 => ⟨N, rfl, by omega, by omega, fun Dl hD =>
    lc_range (lo := 0) (n := N.toNat) (fun i H' => ∃ vs : List V, vs.length = i ∧ Ex H1 H' ∧ H' Dl = some (.lst vs) ∧ ∀ v ∈ vs, GoodV H' v)
      ⟨[], rfl, Ex.new hD, upd_same, fun v hv => by cases hv⟩
      (fun i H' hi ⟨vs, hl, eH, hDl, hv⟩ => by
        have e00 : (0 : Int) + (i : Int) = (i : Int) := Int.zero_add _
        show wipe ((wipe σ us).set j (some (.int ((0 : Int) + (i : Int))))) us = wipe σ us ∧ te ((wipe σ us).set j (some (.int ((0 : Int) + (i : Int))))) H' fun y H4 => ∃ acc, H4 Dl = some (.lst acc) ∧ acc.length < sizeLine ∧ _
        rw [e00]
        refine ⟨hw _, he i H' ((e0.trans e1).trans eH) (by omega) H' (Ex.refl H') _ fun v H4 e4 gv => ⟨vs, e4 _ _ hDl, sz_lt (by omega), vs ++ [v], by simp [hl], Ex.mut (eH.trans e4) hD, upd_same, fun u hu => ?_⟩⟩
        rcases List.mem_append.mp hu with z | z
        · exact ((hv u z).mono e4).upd (e4 _ _ hDl)
        · obtain rfl : u = v := by simpa using z
          exact gv.upd (e4 _ _ hDl))
      (fun H' ⟨vs, hl, eH, hDl, hv⟩ => q Dl vs H' (fresh_back e1 hD) (e1.trans eH) hDl hl hv)⟩
end
end KA

namespace KA
open PySem PySem.Spec PyProof.Rows L2 Evl TL
section
variable {w : World} {K : PySem.W.Frag} {mg : Str → Option Value} {base : Heap}
def sp_law (K : PySem.W.Frag) : Sp := fun vs H Q _ => ∃ (a : Addr) (ns : List Int), vs = [.ref a] ∧ SqL K H a (ns.map V.int) ∧ ns.length ≤ 63 ∧ ∀ H', Q (.bl true) H'
theorem ok_law (T : Txt K mg) : FnOk PR w K mg base CX0 5 (f_law K) (fd_law K) ["script"] (sp_law K) := by
  refine T.fn_law.ok sc_law (fun vs H Q E h => ?_) (fun cdv A outer s H vs Q E hr h => ?_)
  · obtain ⟨_, _, rfl, _⟩ := h
    rfl
  have hu := hu_of hr
  refine ⟨_, PSs.nox (pss_cons (ps_set (i := 1) sc_law.nd rfl (by first | exact Or.inr rfl | exact Or.inl rfl) (pe_call (ok_law_tape T) (hr.mono (by decide)) (by rfl) (T.glo_law_tape) (T.kp_law_tape) (T.bd_law_tape) .nil pass0 (pa_cons (pv 0) pa_nil))) (pss_cons (ps_set (i := 2) sc_law.nd rfl (Or.inl rfl) (pe_op op_cat (pe_lc (own := [("k", 3)]) (by rfl) sc_law.nd (pi_range1 (by rfl) T.free_range (pa_cons pe_int pa_nil)) (blkOk_by (N := sc_law_N) (sc := defScope s_law) (own := [("k", 3)]) (by decide +kernel)) (fun _ _ _ _ _ => (pg_name (i := 3) sc_law.nd rfl (Or.inl rfl))) (fun _ _ _ _ _ => pts_nil) (fun _ _ _ _ _ => (pe_callTy call_int1 (by rfl) T.free_int (by decide +kernel) (pa_cons (pe_call (ok_law_take T) (hr.mono (by decide)) (by rfl) (T.glo_law_take) (T.kp_law_take) (T.bd_law_take) .nil pass0 (pa_cons (pv 1) (pa_cons pe_int pa_nil))) pa_nil)))) (pe_lc (own := [("k", 3)]) (by rfl) sc_law.nd (pi_range1 (by rfl) T.free_range (pa_cons pe_int pa_nil)) (blkOk_by (N := sc_law_N) (sc := defScope s_law) (own := [("k", 3)]) (by decide +kernel)) (fun _ _ _ _ _ => (pg_name (i := 3) sc_law.nd rfl (Or.inl rfl))) (fun _ _ _ _ _ => pts_nil) (fun _ _ _ _ _ => (pe_callTy call_int1 (by rfl) T.free_int (by decide +kernel) (pa_cons (pe_op op_add (pe_op op_mul pe_int (pe_call (ok_law_take T) (hr.mono (by decide)) (by rfl) (T.glo_law_take) (T.kp_law_take) (T.bd_law_take) .nil pass0 (pa_cons (pv 1) (pa_cons pe_int pa_nil)))) (pe_call (ok_law_take T) (hr.mono (by decide)) (by rfl) (T.glo_law_take) (T.kp_law_take) (T.bd_law_take) .nil pass0 (pa_cons (pv 1) (pa_cons pe_int pa_nil)))) pa_nil)))))) (pss_cons (ps_for PassesOwn.never rfl (pi_list (pv 2)) (pg_name (i := 4) sc_law.nd rfl (Or.inl rfl)) (pss_cons (ps_asg (pe_call (ok_parts_of T) (hr.mono (by decide)) (by rfl) (T.glo_parts_of) (T.kp_parts_of) (T.bd_parts_of) .nil pass0 (pa_cons (pv 4) pa_nil)) (pg_tup (by rfl) (pgs_cons (pg_name (i := 5) sc_law.nd rfl (Or.inl rfl)) (pgs_cons (pg_name (i := 6) sc_law.nd rfl (Or.inl rfl)) (pgs_cons (pg_name (i := 7) sc_law.nd rfl (Or.inl rfl)) (pgs_cons (pg_name (i := 8) sc_law.nd rfl (Or.inl rfl)) pgs_nil)))))) (pss_cons (ps_if (PW.pt (pw_or (pt_cmpR op_ne (pe_op op_add (pe_op op_add (pe_op op_add (pe_op op_mul (pv 5) pe_int) (pe_op op_mul (pv 6) pe_int)) (pe_op op_mul (pv 7) pe_int)) (pv 8)) (pv 4) (nomark _)) (pw_or (pt_cmpR op_ne (pe_call (ok_word_of T) (hr.mono (by decide)) (by rfl) (T.glo_word_of) (T.kp_word_of) (T.bd_word_of) .nil pass0 (pa_cons (pv 5) (pa_cons (pv 6) (pa_cons (pv 7) (pa_cons (pv 8) pa_nil))))) (pv 4) (nomark _)) (pw_or1 (pt_not (PW.pt (pw_and (pt_cmpR op_lt (pv 6) pe_int (nomark _)) (pw_and (pt_cmpR op_lt (pv 7) pe_int (nomark _)) (pw_and (pt_cmpR op_lt (pv 8) pe_int (nomark _)) (pw_and1 (pt_cmpR op_lt (pv 5) pe_int (nomark _)))))))))))) (pss_one (ps_ret pe_bl)) pss_nil) (pss_one (ps_if (pt_cmpR op_ne (pe_call (ok_word_in T) (hr.mono (by decide)) (by rfl) (T.glo_word_in) (T.kp_word_in) (T.bd_word_in) .nil pass0 (pa_cons (pe_call (ok_row_of T) (hr.mono (by decide)) (by rfl) (T.glo_row_of) (T.kp_row_of) (T.bd_row_of) .nil pass0 (pa_cons (pv 4) pa_nil)) pa_nil)) (pv 4) (nomark _)) (pss_one (ps_ret pe_bl)) pss_nil))))) (pss_cons (ps_set (i := 9) sc_law.nd rfl (Or.inl rfl) (pe_call (ok_text_of T) (hr.mono (by decide)) (by rfl) (T.glo_text_of) (T.kp_text_of) (T.bd_text_of) .nil pass0 (pa_cons (pv 2) pa_nil))) (pss_cons (ps_if (PW.pt (pw_or (pt_cmpR (op_neD hr.units) (pe_call (ok_code_in T) (hr.mono (by decide)) (by rfl) (T.glo_code_in) (T.kp_code_in) (T.bd_code_in) .nil passL (pa_cons (pv 9) pa_nil)) (pe_callTy call_tuple_of (by rfl) T.free_tuple (by decide +kernel) (pa_cons (pv 2) pa_nil)) (nomark _)) (pw_or1 (pt_cmpR (op_neD hr.units) (pe_split (pv 9) pe_str) (pe_lc (own := [("word", 4)]) (by rfl) sc_law.nd (pi_list (pv 2)) (blkOk_by (N := sc_law_N) (sc := defScope s_law) (own := [("word", 4)]) (by decide +kernel)) (fun _ _ _ _ _ => (pg_name (i := 4) sc_law.nd rfl (Or.inl rfl))) (fun _ _ _ _ _ => pts_nil) (fun _ _ _ _ _ => (pe_call (ok_row_of T) (hr.mono (by decide)) (by rfl) (T.glo_row_of) (T.kp_row_of) (T.bd_row_of) .nil pass0 (pa_cons (pv 4) pa_nil)))) (nomark _))))) (pss_one (ps_ret pe_bl)) pss_nil) (pss_cons (ps_asg (pe_tup (pa_cons (pe_call (ok_law_take T) (hr.mono (by decide)) (by rfl) (T.glo_law_take) (T.kp_law_take) (T.bd_law_take) .nil pass0 (pa_cons (pv 1) (pa_cons pe_int pa_nil))) (pa_cons (pe_call (ok_law_take T) (hr.mono (by decide)) (by rfl) (T.glo_law_take) (T.kp_law_take) (T.bd_law_take) .nil pass0 (pa_cons (pv 1) (pa_cons pe_int pa_nil))) (pa_cons (pe_call (ok_law_take T) (hr.mono (by decide)) (by rfl) (T.glo_law_take) (T.kp_law_take) (T.bd_law_take) .nil pass0 (pa_cons (pv 1) (pa_cons pe_int pa_nil))) (pa_cons (pe_call (ok_law_take T) (hr.mono (by decide)) (by rfl) (T.glo_law_take) (T.kp_law_take) (T.bd_law_take) .nil pass0 (pa_cons (pv 1) (pa_cons pe_int pa_nil))) pa_nil))))) (pg_tup (by rfl) (pgs_cons (pg_name (i := 6) sc_law.nd rfl (Or.inl rfl)) (pgs_cons (pg_name (i := 7) sc_law.nd rfl (Or.inl rfl)) (pgs_cons (pg_name (i := 8) sc_law.nd rfl (Or.inl rfl)) (pgs_cons (pg_name (i := 10) sc_law.nd rfl (Or.inl rfl)) pgs_nil)))))) (pss_cons (ps_set (i := 11) sc_law.nd rfl (Or.inl rfl) (pe_lst (pa_cons (pe_tup (pa_cons (pe_op op_add_str (pe_op op_add_str (pe_op op_add_str pe_str (pe_callTy call_str_int (by rfl) T.free_str (by decide +kernel) (pa_cons (pv 6) pa_nil))) pe_str) (pe_callTy call_str_int (by rfl) T.free_str (by decide +kernel) (pa_cons (pv 10) pa_nil))) (pa_cons (pe_op op_add (pe_op op_add pe_int (pe_op op_mul pe_int (pv 6))) (pv 10)) pa_nil))) (pa_cons (pe_tup (pa_cons (pe_op op_add_str (pe_op op_add_str (pe_op op_add_str pe_str (pe_callTy call_str_int (by rfl) T.free_str (by decide +kernel) (pa_cons (pv 6) pa_nil))) pe_str) (pe_callTy call_str_int (by rfl) T.free_str (by decide +kernel) (pa_cons (pv 10) pa_nil))) (pa_cons (pe_op op_add (pe_op op_add (pe_op op_mul pe_int pe_int) (pe_op op_mul pe_int (pv 6))) (pv 10)) pa_nil))) (pa_cons (pe_tup (pa_cons (pe_op op_add_str pe_str (pe_callTy call_str_int (by rfl) T.free_str (by decide +kernel) (pa_cons (pv 10) pa_nil))) (pa_cons (pe_op op_add (pe_op op_mul pe_int pe_int) (pv 10)) pa_nil))) pa_nil))))) (pss_cons (ps_for PassesOwn.never rfl (pi_tup (pe_tup (pa_cons pe_str (pa_cons pe_str (pa_cons pe_str (pa_cons pe_str (pa_cons pe_str pa_nil))))))) (pg_name (i := 12) sc_law.nd rfl (Or.inl rfl)) (pss_one (ps_expr (pe_bm PySem.F.plainAttrs_list PySem.F.slot_list_append PySem.F.type_list_append mt_append (pv 11) (pa_cons (pe_tup (pa_cons (pe_op op_add_str (pe_op op_add_str (pe_op op_add_str (pe_op op_add_str (pe_op op_add_str (pe_op op_add_str (pv 12) pe_str) (pe_callTy call_str_int (by rfl) T.free_str (by decide +kernel) (pa_cons (pv 6) pa_nil))) pe_str) (pe_callTy call_str_int (by rfl) T.free_str (by decide +kernel) (pa_cons (pv 7) pa_nil))) pe_str) (pe_callTy call_str_int (by rfl) T.free_str (by decide +kernel) (pa_cons (pv 8) pa_nil))) (pa_cons (pe_op op_add (pe_op op_add (pe_op op_add (pe_op op_mul pe_int (pe_bm PySem.F.plainAttrs_tuple PySem.F.slot_tuple_index PySem.F.type_tuple_index mt_tup_index (T.pg_NAMES) (pa_cons (pv 12) pa_nil))) (pe_op op_mul pe_int (pv 6))) (pe_op op_mul pe_int (pv 7))) (pv 8)) pa_nil))) pa_nil))))) (pss_cons (ps_for PassesOwn.never rfl (pi_tup (pe_tup (pa_cons pe_str (pa_cons pe_str pa_nil)))) (pg_name (i := 12) sc_law.nd rfl (Or.inl rfl)) (pss_one (ps_expr (pe_bm PySem.F.plainAttrs_list PySem.F.slot_list_append PySem.F.type_list_append mt_append (pv 11) (pa_cons (pe_tup (pa_cons (pe_op op_add_str (pe_op op_add_str (pe_op op_add_str (pe_op op_add_str (pe_op op_add_str (pe_op op_add_str (pv 12) pe_str) (pe_callTy call_str_int (by rfl) T.free_str (by decide +kernel) (pa_cons (pv 6) pa_nil))) pe_str) (pe_callTy call_str_int (by rfl) T.free_str (by decide +kernel) (pa_cons (pv 7) pa_nil))) pe_str) (pe_callTy call_str_int (by rfl) T.free_str (by decide +kernel) (pa_cons (pe_op op_fdiv (pe_callTy call_int1 (by rfl) T.free_int (by decide +kernel) (pa_cons (pv 10) pa_nil)) pe_int) pa_nil))) (pa_cons (pe_op op_add (pe_op op_add (pe_op op_add (pe_op op_mul pe_int (pe_bm PySem.F.plainAttrs_tuple PySem.F.slot_tuple_index PySem.F.type_tuple_index mt_tup_index (T.pg_NAMES) (pa_cons (pv 12) pa_nil))) (pe_op op_mul pe_int (pv 6))) (pe_op op_mul pe_int (pv 7))) (pe_op op_fdiv (pe_callTy call_int1 (by rfl) T.free_int (by decide +kernel) (pa_cons (pv 10) pa_nil)) pe_int)) pa_nil))) pa_nil))))) (pss_cons (ps_set (i := 11) sc_law.nd rfl (Or.inl rfl) (pe_op op_cat (pe_op op_cat (pv 11) (pe_lc (own := [("k", 3)]) (by rfl) sc_law.nd (pi_range1 (by rfl) T.free_range (pa_cons (pe_callB call_len (by rfl) T.free_len PySem.boot_len (pa_cons (T.pg_TRAPS) pa_nil)) pa_nil)) (blkOk_by (N := sc_law_N) (sc := defScope s_law) (own := [("k", 3)]) (by decide +kernel)) (fun _ _ _ _ _ => (pg_name (i := 3) sc_law.nd rfl (Or.inl rfl))) (fun _ _ _ _ _ => pts_nil) (fun _ _ _ _ _ => (pe_tup (pa_cons (pe_op op_add_str pe_str (pe_ix (r := rIxT K) (by exact ix_tup) (T.pgk_TRAPS (by rfl) (by rfl) (by rfl)) (pv 3) (fun _ _ => rfl))) (pa_cons (pe_op op_add pe_int (pv 3)) pa_nil)))))) (pe_lst (pa_cons (pe_tup (pa_cons pe_str (pa_cons pe_int pa_nil))) (pa_cons (pe_tup (pa_cons (pe_callTy call_str_int (by rfl) T.free_str (by decide +kernel) (pa_cons (pv 10) pa_nil)) (pa_cons (pv 10) pa_nil))) pa_nil))))) (pss_cons (ps_for PassesOwn.never rfl (pi_list (pv 11)) (pg_tup (by rfl) (pgs_cons (pg_name (i := 13) sc_law.nd rfl (Or.inl rfl)) (pgs_cons (pg_name (i := 4) sc_law.nd rfl (Or.inl rfl)) pgs_nil))) (pss_one (ps_if (PW.pt (pw_or (pt_cmpR op_ne (pe_call (ok_word_in T) (hr.mono (by decide)) (by rfl) (T.glo_word_in) (T.kp_word_in) (T.bd_word_in) .nil pass0 (pa_cons (pv 13) pa_nil)) (pv 4) (nomark _)) (pw_or1 (PW.pt (pw_and (pt_cmpR op_ge (pv 4) pe_int (nomark _)) (pw_and1 (pt_cmpR op_ne (pe_call (ok_row_of T) (hr.mono (by decide)) (by rfl) (T.glo_row_of) (T.kp_row_of) (T.bd_row_of) .nil pass0 (pa_cons (pv 4) pa_nil)) (pv 13) (nomark _)))))))) (pss_one (ps_ret pe_bl)) pss_nil))) (pss_cons (ps_if (PW.pt (pw_or (pt_cmpR op_ne (pe_callB call_len (by rfl) T.free_len PySem.boot_len (pa_cons (T.pg_TRAPS) pa_nil)) pe_int (nomark _)) (pw_or (pt_cmpR op_ne (pe_callB call_len (by rfl) T.free_len PySem.boot_len (pa_cons (T.pg_NAMES) pa_nil)) pe_int (nomark _)) (pw_or (pt_cmpR op_ne (pe_call (ok_row_of T) (hr.mono (by decide)) (by rfl) (T.glo_row_of) (T.kp_row_of) (T.bd_row_of) .nil pass0 (pa_cons pe_int pa_nil)) pe_str (nomark _)) (pw_or (pt_cmpR op_ne (pe_call (ok_row_of T) (hr.mono (by decide)) (by rfl) (T.glo_row_of) (T.kp_row_of) (T.bd_row_of) .nil pass0 (pa_cons pe_int pa_nil)) pe_str (nomark _)) (pw_or (pt_cmpR op_ne (pe_call (ok_row_of T) (hr.mono (by decide)) (by rfl) (T.glo_row_of) (T.kp_row_of) (T.bd_row_of) .nil pass0 (pa_cons pe_int pa_nil)) pe_str (nomark _)) (pw_or (pt_cmpR op_ne (pe_call (ok_row_of T) (hr.mono (by decide)) (by rfl) (T.glo_row_of) (T.kp_row_of) (T.bd_row_of) .nil pass0 (pa_cons (pe_op op_add pe_int pe_int) pa_nil)) pe_str (nomark _)) (pw_or1 (pt_cmpR op_ne (pe_call (ok_row_of T) (hr.mono (by decide)) (by rfl) (T.glo_row_of) (T.kp_row_of) (T.bd_row_of) .nil pass0 (pa_cons (pe_op op_add pe_int pe_int) pa_nil)) pe_str (nomark _)))))))))) (pss_one (ps_ret pe_bl)) pss_nil) (pss_cons (ps_set (i := 14) sc_law.nd rfl (Or.inl rfl) (pe_lst (pa_cons pe_str (pa_cons pe_str (pa_cons pe_str (pa_cons pe_str (pa_cons pe_str (pa_cons pe_str (pa_cons pe_str (pa_cons pe_str (pa_cons pe_str (pa_cons pe_str (pa_cons pe_str (pa_cons pe_str pa_nil)))))))))))))) (pss_cons (ps_par (i := 15) (j := 16) (by rfl) sc_law.nd rfl rfl (by decide) rfl rfl (pa_cons (pe_ix ix_list (pv 14) (pe_call (ok_law_take T) (hr.mono (by decide)) (by rfl) (T.glo_law_take) (T.kp_law_take) (T.bd_law_take) .nil pass0 (pa_cons (pv 1) (pa_cons (pe_callB call_len (by rfl) T.free_len PySem.boot_len (pa_cons (pv 14) pa_nil)) pa_nil))) (fun _ _ => rfl)) (pa_cons (pe_call (ok_law_take T) (hr.mono (by decide)) (by rfl) (T.glo_law_take) (T.kp_law_take) (T.bd_law_take) .nil pass0 (pa_cons (pv 1) (pa_cons pe_int pa_nil))) pa_nil)) (by rfl)) (pss_cons (ps_if (pt_cmpR op_notN (pe_call (ok_word_in T) (hr.mono (by decide)) (by rfl) (T.glo_word_in) (T.kp_word_in) (T.bd_word_in) .nil pass0 (pa_cons (pv 15) pa_nil)) pe_non (nomark _)) (pss_one (ps_ret pe_bl)) pss_nil) (pss_cons (ps_try_as (i := 17) rfl rfl sc_law.nd rfl rfl ⟨rfl, by decide, .inl T.glo_InvalidCode⟩ takes0 (fun W pn xe tk pso => by exact (pss_cons (ps_expr (pe_callS (ok_code_in T) (hr.mono (by decide)) (by rfl) (T.glo_code_in) (T.kp_code_in) (T.bd_code_in) (fun σ => passAt tk σ) (pa_cons (pe_joinK (K := K) (by rfl) pe_str (pe_op op_cat (pe_op op_rep (pe_lst (pa_cons pe_str pa_nil)) (pv 16)) (pe_lst (pa_cons (pv 15) (pa_cons pe_str pa_nil))))) pa_nil))) (pss_one (ps_ret pe_bl)))) (fun a oe cls d pn hz hf => by exact (pss_one (ps_if (pt_cmpR op_ne (pe_xf T.xf T.noline hz hf (pv 17)) (pv 16) (nomark _)) (pss_one (ps_ret pe_bl)) pss_nil)))) (pss_one (ps_ret (pe_and (pe_cmpR op_eq (pe_call (ok_number_in T) (hr.mono (by decide)) (by rfl) (T.glo_number_in) (T.kp_number_in) (T.bd_number_in) .nil pass0 (pa_cons pe_str (pa_cons pe_int pa_nil))) pe_int (nomark _)) (pe_and (pe_cmpR op_isN (pe_call (ok_number_in T) (hr.mono (by decide)) (by rfl) (T.glo_number_in) (T.kp_number_in) (T.bd_number_in) .nil pass0 (pa_cons pe_str (pa_cons pe_int pa_nil))) pe_non (nomark _)) (pe_and (pe_cmpR op_isN (pe_call (ok_number_in T) (hr.mono (by decide)) (by rfl) (T.glo_number_in) (T.kp_number_in) (T.bd_number_in) .nil pass0 (pa_cons pe_str (pa_cons pe_int pa_nil))) pe_non (nomark _)) (pe_and (pe_cmpR op_eq (pe_call (ok_register_in T) (hr.mono (by decide)) (by rfl) (T.glo_register_in) (T.kp_register_in) (T.bd_register_in) .nil pass0 (pa_cons pe_str pa_nil)) pe_int (nomark _)) (pe_one (pe_cmpR op_isN (pe_call (ok_register_in T) (hr.mono (by decide)) (by rfl) (T.glo_register_in) (T.kp_register_in) (T.bd_register_in) .nil pass0 (pa_cons pe_str pa_nil)) pe_non (nomark _))))))))))))))))))))))))), ?_⟩
  obtain ⟨a, ns, rfl, hS, hl, k⟩ := h
  refine q_asgQ ⟨_, rfl, a, ns, rfl, hS, hl, fun d ca H1 hd hca hT e1 => ?_⟩
  refine q_asgQ (dl_lcR1 (P := fun v => 0 ≤ v ∧ v < 65536) (fun H => ea_cons ev_c ea_nil) (by decide) (fun x => rfl) (fun i => dr_int (dr_take (fun H => ea_cons (ev_var rfl) (ea_cons ev_c ea_nil)) (by decide))) H1 _ hT fun p1 H2 w1 hp1 hl1 hw1 hT2 f2 h2 => ?_)
  refine dl_lcR1 (P := fun v => 0 ≤ v ∧ v < 65536) (fun H => ea_cons ev_c ea_nil) (by decide) (fun x => rfl) (fun i => dr_int (Dr.imp (dr_add (dr_cmul (by decide) (dr_take (fun H => ea_cons (ev_var rfl) (ea_cons ev_c ea_nil)) (by decide))) (dr_take (fun H => ea_cons (ev_var rfl) (ea_cons ev_c ea_nil)) (by decide))) (fun v ⟨x, y, ⟨u, hu, hx⟩, hy, hv⟩ => by omega))) H2 _ hT2 fun p2 H3 w2 hp2 hl2 hw2 hT3 f3 h3 => ?_
  have h23 := f3 _ _ h2 (hT.ne hp1).1
  refine ⟨p1, p2, _, _, rfl, rfl, h23, h3, sz_of (by rw [List.length_map, List.length_map, hl1, hl2]; decide), fun p hp => ?_⟩
  obtain ⟨ws, hws⟩ : ∃ ws, ws = w1 ++ w2 := ⟨_, rfl⟩
  have hlw : ws.length = 12 := by rw [hws, List.length_append, hl1, hl2]; rfl
  have hw : ∀ x ∈ ws, 0 ≤ x ∧ x < 65536 := fun x hx => by
    rw [hws] at hx
    rcases List.mem_append.mp hx with hx | hx
    · exact hw1 x hx
    · exact hw2 x hx
  have hT4 := hT3.keep (Ex.new (o := .lst (List.map V.int w1 ++ List.map V.int w2)) hp)
  have h4 : (upd H3 p (.lst (List.map V.int w1 ++ List.map V.int w2))) p = some (.lst (ws.map V.int)) := by rw [upd_same, hws, List.map_append]
  generalize upd H3 p (.lst (List.map V.int w1 ++ List.map V.int w2)) = H4 at hT4 h4 ⊢
  clear h23 h3 h2 hT3 hT2 hT f2 f3 hp1 hp2
  have hne : ws ≠ [] := fun z => by rw [z] at hlw; cases hlw
  -- each word
  refine q_forLn (K := K) (a := p) (xs := ws.map V.int) (ev_var rfl) (sq_of h4) (fun i σ' H' => ∃ x4 x5 x6 x7 x8, σ' = [some (.ref a), some (.ref d), some (.ref p), none, x4, x5, x6, x7, x8, none, none, none, none, none, none, none, none, none] ∧ Ex H4 H')
    (fun H5 e5 => ⟨none, none, none, none, none, rfl, e5⟩) (fun i σ' H' _ ⟨_, _, _, _, _, _, e⟩ => sq_of (e _ _ h4)) ?_ ?_
  · rintro i y σ' H' hi ⟨x4, x5, x6, x7, x8, rfl, eH⟩
    obtain ⟨x, hx, rfl⟩ : ∃ x, x ∈ ws ∧ y = V.int x := by
      rw [List.getElem?_map] at hi
      cases e : ws[i]? with
      | none => rw [e] at hi; cases hi
      | some x => rw [e] at hi; exact ⟨x, List.mem_of_getElem? e, (Option.some.inj hi).symm⟩
    obtain ⟨x0, x1⟩ := hw x hx
    refine ⟨_, rfl, x, rfl, fun q hq => ⟨q, _, rfl, st_of upd_same, rfl, _, _, rfl, _, _, rfl, _, _, rfl, _, _, rfl, rfl, ?_⟩⟩
    have e2 : Ex H' (upd H' q (.tup (partsV x))) := Ex.new hq
    generalize upd H' q (.tup (partsV x)) = H5 at e2 ⊢
    have e45 := eH.trans e2
    refine q_when (b := false) (et_is (et_or (et_test (ev_op (ev_op (ev_op (ev_op (ev_op (ev_var rfl) ev_c (rv_I (.inr ⟨by decide, by decide⟩))) (ev_op (ev_var rfl) ev_c (rv_I (.inr ⟨by decide, by decide⟩))) rv_I0) (ev_op (ev_var rfl) ev_c (rv_I (.inr ⟨by decide, by decide⟩))) rv_I0) (ev_var rfl) rv_I0) (ev_var rfl) (rv_ne rfl)))
      (fun _ => et_or (et_test (ev_op (ev_wd (ev_var rfl) (ev_var rfl) (ev_var rfl) (ev_var rfl)) (ev_var rfl) (rv_ne rfl)))
      (fun _ => et_not (et_and (et_test (ev_op (ev_var rfl) ev_c rv_I0)) fun _ => et_and (et_test (ev_op (ev_var rfl) ev_c rv_I0)) fun _ => et_and (et_test (ev_op (ev_var rfl) ev_c rv_I0)) fun _ => et_test (ev_op (ev_var rfl) ev_c rv_I0))))) ?_) (fun h => by cases h) fun _ H6 e6 => ?_
    · have e : x / 4096 * 4096 + x / 512 % 8 * 512 + x / 64 % 8 * 64 + x % 64 = x := by omega
      unfold wd
      rw [e, decide_eq_true (rfl : V.int x = V.int x), decide_eq_true (show x / 512 % 8 < 8 by omega), decide_eq_true (show x / 64 % 8 < 8 by omega), decide_eq_true (show x % 64 < 64 by omega), decide_eq_true (show x / 4096 < 16 by omega)]
      rfl
    · refine s_when (b := false) (et_is (et_test (ev_op (ev_pure (z := oV (wordIn (rowOf x))) (ea_cons (ev_pure (ea_cons (ev_var rfl) ea_nil) fun H1 _ Q q => ⟨x, rfl, x0, x1, q⟩) ea_nil) fun H1 _ Q q => ⟨rowOf x, rfl, Nat.le_trans (rowOf_len x0 x1) (by decide), q⟩) (ev_var rfl) (rv_ne ?_))) ?_) (fun h => by cases h) fun _ H7 e7 => ⟨_, _, _, _, _, rfl, (e45.trans e6).trans e7⟩
      · rw [wordIn_rowOf x0 x1]; rfl
      · rw [wordIn_rowOf x0 x1]
        show (!decide (V.int x = V.int x)) = false
        rw [decide_eq_true rfl]
        rfl
  rintro σ' H5 ⟨x4, x5, x6, x7, x8, rfl, e5⟩
  have h5 := e5 _ _ h4
  have hT5 := hT4.keep e5
  clear hT4 h4 e5
  -- the text
  refine q_asg (v := .str (textOf ws)) (ev_pure (ea_cons (ev_var rfl) ea_nil) fun H1 e Q q => ⟨p, ws, rfl, sq_of (e _ _ h5), by omega, hw, q⟩) fun H6 e6 => ?_
  have h6 := e6 _ _ h5
  have hT6 := hT5.keep e6
  clear hT5 h5 e6
  have htl := textOf_len (by omega) hw
  refine q_when (b := false) (et_is (et_or (a := false) (b := false) (et_test (ev_opUU (xs := ws.map V.int) (ys := ws.map V.int) (fun H1 e Q q => ⟨_, rfl, textOf ws, rfl, htl, fun us hus r H' hr e' h' => ?_, fun i r hr hn _ => ?_⟩) (eu_tupOf (ev_var rfl) (sq_of h6)) fun p q H1 hp hq e => ne_tup (st_of hp) (st_of hq) (ints_flat ws)))
    (fun _ => et_test (ev_opLL (xs := (ws.map rowOf).map V.str) (ys := ws.map fun x => V.str (rowOf x)) (by rw [← split_text hne hw]; exact el_split (ev_var rfl) ev_c (by rfl) (by omega)) (el_ints (ev_var rfl) (sq_of h6) (by omega) (fun x => rfl) fun x H1 _ hx => ev_pure (ea_cons (ev_var rfl) ea_nil) fun H1 _ Q q => ⟨x, rfl, (hw x hx).1, (hw x hx).2, q⟩) fun p q H1 hp hq e => ne_lst (sq_of hp) (sq_of (by rw [hq, List.map_map]; rfl)) (strs_flat ?_)))) rfl) (fun h => by cases h) fun _ H7 e7 => ?_
  · rw [code_text hne hw] at hus
    rw [← map_some_inj hus] at h'
    exact q r H' hr e' h'
  · have h8 : ((Txt.split (textOf ws) "\n").map wordIn)[i]? = some none := by rw [List.getElem?_map, hr, ← hn]; rfl
    rw [code_text hne hw, List.getElem?_map] at h8
    cases e : ws[i]? with
    | none => rw [e] at h8; cases h8
    | some z => rw [e] at h8; cases h8
  · intro x hx
    obtain ⟨y, hy, rfl⟩ := List.mem_map.mp hx
    exact rowOf_ok (hw y hy).1 (hw y hy).2
  have h7 := e7 _ _ h6
  have hT7 := hT6.keep e7
  clear hT6 h6 e7
  clear hlw hne hw htl
  -- four draws
  refine dr_take1 hT7 (ea_cons (ev_var rfl) (ea_cons ev_c ea_nil)) (by decide) fun ra G1 a0 a1 hT8 f8 => ?_
  refine dr_take1 hT8 (ea_cons (ev_var rfl) (ea_cons ev_c ea_nil)) (by decide) fun rb G2 b0 b1 hT9 f9 => ?_
  refine dr_take1 hT9 (ea_cons (ev_var rfl) (ea_cons ev_c ea_nil)) (by decide) fun rc G3 c0 c1 hT10 f10 => ?_
  refine dr_take1 hT10 (ea_cons (ev_var rfl) (ea_cons ev_c ea_nil)) (by decide) fun n H11 n0 n1 hT11 f11 => ?_
  refine ⟨by show 4 ≤ sizeLine; decide, fun q hq => ⟨q, _, rfl, st_of upd_same, rfl, _, _, rfl, _, _, rfl, _, _, rfl, _, _, rfl, rfl, ?_⟩⟩
  have hT12 := hT11.keep (Ex.new (o := .tup [V.int ra, .int rb, .int rc, .int n]) hq)
  clear hT7 hT8 hT9 hT10 hT11 f8 f9 f10 f11 h7
  generalize upd H11 q (.tup [V.int ra, .int rb, .int rc, .int n]) = H12 at hT12 ⊢
  clear hq
  have la := sI_len a0 (by omega)
  have lb := sI_len b0 (by omega)
  have lc := sI_len c0 (by omega)
  have ln := sI_len n0 (by omega)
  have ln8 := sI_len (n := n / 8) (by omega) (by omega)
  have l1 : (" r" : Str).length = 2 := by decide +kernel
  have l2 : (" " : Str).length = 1 := by decide +kernel
  have l3 : ("set r" : Str).length = 5 := by decide +kernel
  have l4 : ("zero r" : Str).length = 6 := by decide +kernel
  have l5 : ("jump " : Str).length = 5 := by decide +kernel
  have l6 : ("trap " : Str).length = 5 := by decide +kernel
  -- rows of its own
  refine q_asgQ (egl_lst (n := 3) (egs_cons (eg_tup (ev_cat (ev_cat (ev_cat ev_c (ev_str (ev_var rfl) a0 (by omega)) (by omega)) ev_c (by simp only [app_len]; omega)) (ev_str (ev_var rfl) n0 (by omega)) (by simp only [app_len]; omega)) (ev_op (ev_op ev_c (ev_op ev_c (ev_var rfl) (rv_I (.inl ⟨by decide, by decide⟩))) rv_I0) (ev_var rfl) rv_I0) ?g1)
    (egs_cons (eg_tup (ev_cat (ev_cat (ev_cat ev_c (ev_str (ev_var rfl) a0 (by omega)) (by omega)) ev_c (by simp only [app_len]; omega)) (ev_str (ev_var rfl) n0 (by omega)) (by simp only [app_len]; omega)) (ev_op (ev_op (ev_op ev_c ev_c (rv_I (.inl ⟨by decide, by decide⟩))) (ev_op ev_c (ev_var rfl) (rv_I (.inl ⟨by decide, by decide⟩))) rv_I0) (ev_var rfl) rv_I0) ?g2)
    (egs_cons (eg_tup (ev_cat ev_c (ev_str (ev_var rfl) n0 (by omega)) (by omega)) (ev_op (ev_op ev_c ev_c (rv_I (.inl ⟨by decide, by decide⟩))) (ev_var rfl) rv_I0) ?g3) egs_nil))) (by decide) H12 (Ex.refl H12) _ fun l vs H13 hl13 e13 h13 hlen hG => ?_)
  case g1 =>
    have o := own_set a0 a1 n0 n1
    exact ⟨o.1, fun _ => o.2, by simp only [app_len]; omega, by omega, by omega⟩
  case g2 =>
    have o := own_zero a0 a1 n0 n1
    exact ⟨o.1, fun _ => o.2, by simp only [app_len]; omega, by omega, by omega⟩
  case g3 =>
    have o := own_jump n0 n1
    exact ⟨o.1, fun _ => o.2, by simp only [app_len]; omega, by omega, by omega⟩
  -- three registers
  refine q_forNU (K := K) (xs := [.str "add", .str "sub", .str "mul", .str "less", .str "and"]) (eu_tup (ea_cons ev_c (ea_cons ev_c (ea_cons ev_c (ea_cons ev_c (ea_cons ev_c ea_nil))))) (by decide))
    (fun q i σ' H' => ∃ x12 us, σ' = [some (.ref a), some (.ref d), some (.ref p), none, x4, x5, some (.int ra), some (.int rb), some (.int rc), some (.str (textOf ws)), some (.int n), some (.ref l), x12, none, none, none, none, none] ∧ Ex H12 H' ∧ H' q = some (.tup [.str "add", .str "sub", .str "mul", .str "less", .str "and"]) ∧ H' l = some (.lst us) ∧ us.length = 3 + i ∧ ∀ v ∈ us, GoodV H' v)
    (fun q H14 hq e14 h14 => ⟨none, vs, rfl, e13.trans e14, h14, e14 _ _ h13, hlen, fun v hv => (hG v hv).mono e14⟩) (fun q i σ' H' _ ⟨_, _, _, _, h, _⟩ => st_of h) ?_ ?_
  · rintro q i y σ' H' hi ⟨x12, us, rfl, eH, hq, hl', hn', hg'⟩
    obtain ⟨z, rfl, j, hj1, hj2, hz, gd⟩ : ∃ z, y = .str z ∧ ∃ j : Nat, NM[j]? = some z ∧ (∀ m, m < j → NM[m]? ≠ some z) ∧ z.length ≤ 5 ∧ Good (z ++ " r" ++ sI ra ++ " r" ++ sI rb ++ " r" ++ sI rc) (4096 * (j : Int) + 512 * ra + 64 * rb + rc) := by
      have fin : ∀ {z : Str} {op : Nat} (h : wordIn (z ++ " r" ++ sI ra ++ " r" ++ sI rb ++ " r" ++ sI rc) = some (4096 * (op : Int) + 512 * ra + 64 * rb + rc) ∧ rowOf (4096 * (op : Int) + 512 * ra + 64 * rb + rc) = z ++ " r" ++ sI ra ++ " r" ++ sI rb ++ " r" ++ sI rc), z.length ≤ 5 → op < 12 → Good (z ++ " r" ++ sI ra ++ " r" ++ sI rb ++ " r" ++ sI rc) (4096 * (op : Int) + 512 * ra + 64 * rb + rc) := fun h hz ho =>
        ⟨h.1, fun _ => h.2, by simp only [app_len]; omega, by omega, by omega⟩
      have hm : y ∈ [V.str "add", .str "sub", .str "mul", .str "less", .str "and"] := List.mem_of_getElem? hi
      simp only [List.mem_cons, List.not_mem_nil, or_false] at hm
      rcases hm with rfl | rfl | rfl | rfl | rfl
      · exact ⟨_, rfl, 2, rfl, by decide +kernel, by decide +kernel, fin (own_three (op := 2) (by decide +kernel) wo_add (by decide) rfl (by decide +kernel) (by decide +kernel) (by decide +kernel) (by decide +kernel) a0 a1 b0 b1 c0 c1) (by decide +kernel) (by decide)⟩
      · exact ⟨_, rfl, 3, rfl, by decide +kernel, by decide +kernel, fin (own_three (op := 3) (by decide +kernel) wo_sub (by decide) rfl (by decide +kernel) (by decide +kernel) (by decide +kernel) (by decide +kernel) a0 a1 b0 b1 c0 c1) (by decide +kernel) (by decide)⟩
      · exact ⟨_, rfl, 8, rfl, by decide +kernel, by decide +kernel, fin (own_three (op := 8) (by decide +kernel) wo_mul (by decide) rfl (by decide +kernel) (by decide +kernel) (by decide +kernel) (by decide +kernel) a0 a1 b0 b1 c0 c1) (by decide +kernel) (by decide)⟩
      · exact ⟨_, rfl, 9, rfl, by decide +kernel, by decide +kernel, fin (own_three (op := 9) (by decide +kernel) wo_less (by decide) rfl (by decide +kernel) (by decide +kernel) (by decide +kernel) (by decide +kernel) a0 a1 b0 b1 c0 c1) (by decide +kernel) (by decide)⟩
      · exact ⟨_, rfl, 11, rfl, by decide +kernel, by decide +kernel, fin (own_three (op := 11) (by decide +kernel) wo_and (by decide) rfl (by decide +kernel) (by decide +kernel) (by decide +kernel) (by decide +kernel) a0 a1 b0 b1 c0 c1) (by decide +kernel) (by decide)⟩
    refine s_appG hl' (ev_var rfl) (eg_tup (ev_cat (ev_cat (ev_cat (ev_cat (ev_cat (ev_cat (ev_var rfl) ev_c (by omega)) (ev_str (ev_var rfl) a0 (by omega)) (by simp only [app_len]; omega)) ev_c (by simp only [app_len]; omega)) (ev_str (ev_var rfl) b0 (by omega)) (by simp only [app_len]; omega)) ev_c (by simp only [app_len]; omega)) (ev_str (ev_var rfl) c0 (by omega)) (by simp only [app_len]; omega))
      (ev_op (ev_op (ev_op (ev_op ev_c (ev_tidx (ys := NM) ev_c (fun H => T.ty_NAMES H) (ev_var rfl) (fun H => T.tup_NAMES H) hj1 hj2) (rv_I (.inl ⟨by decide, by decide⟩))) (ev_op ev_c (ev_var rfl) (rv_I (.inl ⟨by decide, by decide⟩))) rv_I0) (ev_op ev_c (ev_var rfl) (rv_I (.inl ⟨by decide, by decide⟩))) rv_I0) (ev_var rfl) rv_I0) gd) (by have : i < 5 := (List.getElem?_eq_some_iff.mp hi).1; omega) fun v H14 e14 gv => ?_
    have nq : q ≠ l := ne_of hq hl' (by intro z; cases z)
    refine ⟨_, us ++ [v], rfl, Ex.mut (eH.trans e14) hl13, by rw [upd_ne nq]; exact e14 _ _ hq, upd_same, by rw [List.length_append, hn']; rfl, fun u hu => ?_⟩
    rcases List.mem_append.mp hu with z | z
    · exact ((hg' u z).mono e14).upd (e14 _ _ hl')
    · obtain rfl : u = v := by simpa using z
      exact gv.upd (e14 _ _ hl')
  rintro q3 σ' H14 ⟨x12, us, rfl, e14, hq3, hl14, hn14, hg14⟩
  clear hq3 hG hlen h13 e13
  refine q_forNU (K := K) (xs := [.str "load", .str "store"]) (eu_tup (ea_cons ev_c (ea_cons ev_c ea_nil)) (by decide))
    (fun q i σ' H' => ∃ x12 us, σ' = [some (.ref a), some (.ref d), some (.ref p), none, x4, x5, some (.int ra), some (.int rb), some (.int rc), some (.str (textOf ws)), some (.int n), some (.ref l), x12, none, none, none, none, none] ∧ Ex H12 H' ∧ H' q = some (.tup [.str "load", .str "store"]) ∧ H' l = some (.lst us) ∧ us.length = 8 + i ∧ ∀ v ∈ us, GoodV H' v)
    (fun q H15 hq e15 h15 => ⟨x12, us, rfl, e14.trans e15, h15, e15 _ _ hl14, hn14, fun v hv => (hg14 v hv).mono e15⟩) (fun q i σ' H' _ ⟨_, _, _, _, h, _⟩ => st_of h) ?_ ?_
  · rintro q i y σ' H' hi ⟨x12, us, rfl, eH, hq, hl', hn', hg'⟩
    obtain ⟨z, rfl, j, hj1, hj2, hz, gd⟩ : ∃ z, y = .str z ∧ ∃ j : Nat, NM[j]? = some z ∧ (∀ m, m < j → NM[m]? ≠ some z) ∧ z.length ≤ 5 ∧ Good (z ++ " r" ++ sI ra ++ " r" ++ sI rb ++ " " ++ sI (n / 8)) (4096 * (j : Int) + 512 * ra + 64 * rb + n / 8) := by
      have fin : ∀ {z : Str} {op : Nat} (h : wordIn (z ++ " r" ++ sI ra ++ " r" ++ sI rb ++ " " ++ sI (n / 8)) = some (4096 * (op : Int) + 512 * ra + 64 * rb + n / 8) ∧ rowOf (4096 * (op : Int) + 512 * ra + 64 * rb + n / 8) = z ++ " r" ++ sI ra ++ " r" ++ sI rb ++ " " ++ sI (n / 8)), z.length ≤ 5 → op < 12 → Good (z ++ " r" ++ sI ra ++ " r" ++ sI rb ++ " " ++ sI (n / 8)) (4096 * (op : Int) + 512 * ra + 64 * rb + n / 8) := fun h hz ho =>
        ⟨h.1, fun _ => h.2, by simp only [app_len]; omega, by omega, by omega⟩
      have hm : y ∈ [V.str "load", .str "store"] := List.mem_of_getElem? hi
      simp only [List.mem_cons, List.not_mem_nil, or_false] at hm
      rcases hm with rfl | rfl
      · exact ⟨_, rfl, 4, rfl, by decide +kernel, by decide +kernel, fin (own_two (op := 4) (by decide +kernel) wo_load (by decide) rfl (by decide +kernel) (by decide +kernel) (by decide +kernel) a0 a1 b0 b1 (by omega) (by omega)) (by decide +kernel) (by decide)⟩
      · exact ⟨_, rfl, 5, rfl, by decide +kernel, by decide +kernel, fin (own_two (op := 5) (by decide +kernel) wo_store (by decide) rfl (by decide +kernel) (by decide +kernel) (by decide +kernel) a0 a1 b0 b1 (by omega) (by omega)) (by decide +kernel) (by decide)⟩
    refine s_appG hl' (ev_var rfl) (eg_tup (ev_cat (ev_cat (ev_cat (ev_cat (ev_cat (ev_cat (ev_var rfl) ev_c (by omega)) (ev_str (ev_var rfl) a0 (by omega)) (by simp only [app_len]; omega)) ev_c (by simp only [app_len]; omega)) (ev_str (ev_var rfl) b0 (by omega)) (by simp only [app_len]; omega)) ev_c (by simp only [app_len]; omega)) (ev_str (ev_div (ev_int1 (ev_var rfl)) ev_c ⟨by decide, by decide⟩) (by omega) (by omega)) (by simp only [app_len]; omega))
      (ev_op (ev_op (ev_op (ev_op ev_c (ev_tidx (ys := NM) ev_c (fun H => T.ty_NAMES H) (ev_var rfl) (fun H => T.tup_NAMES H) hj1 hj2) (rv_I (.inl ⟨by decide, by decide⟩))) (ev_op ev_c (ev_var rfl) (rv_I (.inl ⟨by decide, by decide⟩))) rv_I0) (ev_op ev_c (ev_var rfl) (rv_I (.inl ⟨by decide, by decide⟩))) rv_I0) (ev_div (ev_int1 (ev_var rfl)) ev_c ⟨by decide, by decide⟩) rv_I0) gd) (by have : i < 2 := (List.getElem?_eq_some_iff.mp hi).1; omega) fun v H15 e15 gv => ?_
    have nq : q ≠ l := ne_of hq hl' (by intro z; cases z)
    refine ⟨_, us ++ [v], rfl, Ex.mut (eH.trans e15) hl13, by rw [upd_ne nq]; exact e15 _ _ hq, upd_same, by rw [List.length_append, hn']; rfl, fun u hu => ?_⟩
    rcases List.mem_append.mp hu with z | z
    · exact ((hg' u z).mono e15).upd (e15 _ _ hl')
    · obtain rfl : u = v := by simpa using z
      exact gv.upd (e15 _ _ hl')
  clear hg14 hn14 hl14 e14
  rintro q4 σ' H15 ⟨x12b, us, rfl, e15, hq4, hl15, hn15, hg15⟩
  clear hq4
  -- own + traps + two
  have hu15 : us.length = 10 := hn15
  refine q_asgQ ⟨_, rfl, ?_⟩
  refine egl_lcR1 (σ := [some (.ref a), some (.ref d), some (.ref p), none, x4, x5, some (.int ra), some (.int rb), some (.int rc), some (.str (textOf ws)), some (.int n), some (.ref l), x12b, none, none, none, none, none]) (H := H15) (N := 20) (fun H1 _ => ea_cons (ev_is (ev_lenT ev_c (T.tup_TRAPS _)) rfl) ea_nil) (by decide) (fun x => rfl) (fun i H1 _ hi => ?_) H15 (Ex.refl H15) _ fun p5 v5 H16 hp5 e16 h16 hn16 hg16 => ?_
  · have hi2 : i < 20 := by omega
    have o := own_trap i hi2
    have lt := TR_len i
    refine eg_tup (r := "trap " ++ TR.getD i "") (x := 40960 + (i : Int)) (ev_cat ev_c (ev_op ev_c (ev_var rfl) (rv_ixT (T.tup_TRAPS _) (atI_nat (v := V.str (TR.getD i "")) ?_))) (by omega)) (ev_op ev_c (ev_var rfl) rv_I0) ⟨o.1, fun _ => o.2, by simp only [app_len]; omega, by omega, by omega⟩
    have h4 : i < TR.length := hi2
    rw [TR_v, List.getElem?_map, List.getElem?_eq_getElem h4, List.getD, List.getElem?_eq_getElem h4]
    rfl
  refine ⟨l, p5, us, v5, rfl, rfl, e16 _ _ hl15, h16, sz_of (by rw [hu15, hn16]; decide), fun p6 hp6 => ?_⟩
  have e17 : Ex H16 (upd H16 p6 (.lst (us ++ v5))) := Ex.new hp6
  have h17 : (upd H16 p6 (.lst (us ++ v5))) p6 = some (.lst (us ++ v5)) := upd_same
  generalize upd H16 p6 (.lst (us ++ v5)) = H17 at e17 h17 ⊢
  have w0 := wordIn_sI n0 (by omega)
  refine egl_lst (n := 2) (egs_cons (eg_tup ev_c ev_c (r := "halt") (x := 0) ⟨wordIn_halt, fun z => absurd z (by decide), by decide +kernel, by decide, by decide⟩) (egs_cons (eg_tup (ev_str (ev_var rfl) n0 (by omega)) (ev_var rfl) ⟨w0, fun z => absurd z (by omega), by omega, n0, by omega⟩) egs_nil)) (by decide) H17 (Ex.refl H17) _ fun p7 v7 H18 hp7 e18 h18 hn18 hg18 => ?_
  refine ⟨p6, p7, us ++ v5, v7, rfl, rfl, e18 _ _ h17, h18, sz_of (by rw [List.length_append, hu15, hn16, hn18]; decide), fun p8 hp8 => ?_⟩
  have e19 : Ex H18 (upd H18 p8 (.lst (us ++ v5 ++ v7))) := Ex.new hp8
  obtain ⟨vs3, hvs3⟩ : ∃ vs3, vs3 = us ++ v5 ++ v7 := ⟨_, rfl⟩
  have h19 : (upd H18 p8 (.lst (us ++ v5 ++ v7))) p8 = some (.lst vs3) := by rw [hvs3]; exact upd_same
  generalize upd H18 p8 (.lst (us ++ v5 ++ v7)) = H19 at e19 h19 ⊢
  have e12 : Ex H12 H19 := (((e15.trans e16).trans e17).trans e18).trans e19
  have hg19 : ∀ v ∈ vs3, GoodV H19 v := fun v hv => by
    rw [hvs3] at hv
    rcases List.mem_append.mp hv with hv | hv
    · rcases List.mem_append.mp hv with hv | hv
      · exact (hg15 v hv).mono (((e16.trans e17).trans e18).trans e19)
      · exact (hg16 v hv).mono ((e17.trans e18).trans e19)
    · exact (hg18 v hv).mono e19
  have hT19 := hT12.keep e12
  clear hg18 hn18 h18 e18 hp7 w0 h17 e17 hp6 hg16 hn16 h16 e16 hp5 hl15 hg15 hn15 hu15 e15 hT12 e12 e19 hp8 hvs3 hl13
  -- each pair
  refine q_forL (K := K) (a := p8) (xs := vs3) (ev_var rfl) (sq_of h19) (fun i σ' H' => ∃ x4 x13, σ' = [some (.ref a), some (.ref d), some (.ref p), none, x4, x5, some (.int ra), some (.int rb), some (.int rc), some (.str (textOf ws)), some (.int n), some (.ref p8), x12b, x13, none, none, none, none] ∧ Ex H19 H')
    (fun H5 e5 => ⟨_, none, rfl, e5⟩) (fun i σ' H' _ ⟨_, _, _, e⟩ => sq_of (e _ _ h19)) ?_ ?_
  · rintro i y σ' H' hi ⟨x4, x13, rfl, eH⟩
    obtain ⟨pp, r, x, rfl, hp, hr1, hr2, hr3, hr4, hr5⟩ := (hg19 y (List.mem_of_getElem? hi)).mono eH
    refine ⟨pp, _, rfl, st_of hp, rfl, _, _, rfl, _, _, rfl, rfl, ?_⟩
    refine s_when (b := false) (et_is (et_or (et_test (ev_op (ev_pure (z := oV (wordIn r)) (ea_cons (ev_var rfl) ea_nil) fun H1 _ Q q => ⟨r, rfl, hr3, q⟩) (ev_var rfl) (rv_ne (by rw [hr1]; rfl))))
      fun _ => et_and (et_test (ev_op (ev_var rfl) ev_c rv_I0)) fun _ => et_test (ev_op (ev_pure (z := .str (rowOf x)) (ea_cons (ev_var rfl) ea_nil) fun H1 _ Q q => ⟨x, rfl, hr4, hr5, q⟩) (ev_var rfl) (rv_ne rfl))) ?_) (fun h => by cases h) fun _ H6 e6 => ⟨_, _, rfl, eH.trans e6⟩
    rw [hr1]
    show (!decide (V.int x = V.int x) || (decide (4096 ≤ x) && !decide (V.str (rowOf x) = V.str r))) = false
    rw [decide_eq_true (rfl : V.int x = V.int x)]
    by_cases hx : 4096 ≤ x
    · rw [hr2 hx, decide_eq_true (rfl : V.str r = V.str r)]
      simp
    · rw [decide_eq_false hx]
      rfl
  rintro σ' H20 ⟨x4b, x13, rfl, e20⟩
  have hT20 := hT19.keep e20
  clear hT19 hg19 h19 e20
  obtain ⟨n1', n2', n3', n4', n5', n6', n7', n8', n9', n10'⟩ := ends
  have row : ∀ {σ : L2.St} {H : Hp} {te : TE} {x : Int} {z : Str}, Ev te σ H (.int x) → rowOf x = z → 0 ≤ x → x < 65536 → Ev (tCall sp_row_of [] E0 (tCons te tNil)) σ H (.str z) := fun h e h0 h1 => ev_pure (ea_cons h ea_nil) fun H1 _ Q q => ⟨_, rfl, h0, h1, by rw [e]; exact q⟩
  refine q_when (b := false) (et_is (et_or (et_test (ev_op (ev_is (w := .int 20) (ev_lenT ev_c (T.tup_TRAPS _)) rfl) ev_c (rv_ne rfl))) fun _ => et_or (et_test (ev_op (ev_is (w := .int 12) (ev_lenT ev_c (T.tup_NAMES _)) rfl) ev_c (rv_ne rfl))) fun _ =>
    et_or (et_test (ev_op (row ev_c n1' (by decide) (by decide)) ev_c (rv_ne rfl))) fun _ => et_or (et_test (ev_op (row ev_c n2' (by decide) (by decide)) ev_c (rv_ne rfl))) fun _ => et_or (et_test (ev_op (row ev_c n3' (by decide) (by decide)) ev_c (rv_ne rfl))) fun _ =>
    et_or (et_test (ev_op (row (ev_op ev_c ev_c rv_I0) n4' (by decide) (by decide)) ev_c (rv_ne rfl))) fun _ => et_test (ev_op (row (ev_op ev_c ev_c rv_I0) n5' (by decide) (by decide)) ev_c (rv_ne rfl))) (by simp)) (fun h => by cases h) fun _ H21 e21 => ?_
  have hT21 := hT20.keep e21
  clear hT20 e21
  -- the wrong rows
  refine q_asgL (xs := BAD.map V.str) (el_lst (ea_cons ev_c (ea_cons ev_c (ea_cons ev_c (ea_cons ev_c (ea_cons ev_c (ea_cons ev_c (ea_cons ev_c (ea_cons ev_c (ea_cons ev_c (ea_cons ev_c (ea_cons ev_c (ea_cons ev_c ea_nil)))))))))))) (by decide)) fun pb H22 hpb e22 h22 => ?_
  have hT22 := hT21.keep e22
  have nbd := (hT21.ne hpb).1
  clear hT21 e22
  refine ⟨_, rfl, dr_take1 hT22 (ea_cons (ev_var rfl) (ea_cons (ev_is (w := .int 12) (ev_lenL (ev_var rfl) (sq_of h22)) rfl) ea_nil)) (by decide) fun i H23 i0 i1 hT23 f23 => ⟨pb, _, i, .str (BAD.getD i.toNat ""), rfl, rfl, sq_of (f23 _ _ h22 nbd), ?_, ?_⟩⟩
  · have hi : i.toNat < BAD.length := by show i.toNat < 12; omega
    have e : i = ((i.toNat : Nat) : Int) := by omega
    rw [e]
    refine atI_nat ?_
    simp only [Int.toNat_natCast]
    rw [List.getElem?_map, List.getElem?_eq_getElem hi, List.getD, List.getElem?_eq_getElem hi]
    rfl
  refine dr_take1 hT23 (ea_cons (ev_var rfl) (ea_cons ev_c ea_nil)) (by decide) fun at_ H24 t0 t1 hT24 f24 => ⟨_, _, rfl, ?_⟩
  have hi : i.toNat < 12 := by omega
  have lbad : (BAD.getD i.toNat "").length ≤ 20 := by
    have : ∀ i < 12, (BAD.getD i "").length ≤ 20 := by decide +kernel
    exact this _ hi
  have hbn := bad_none i.toNat hi
  refine q_when (b := false) (et_is (et_test (ev_op (ev_pure (z := oV (wordIn (BAD.getD i.toNat ""))) (ea_cons (ev_var rfl) ea_nil) fun H1 _ Q q => ⟨_, rfl, by omega, q⟩) ev_c rv_notN)) (by rw [hbn]; rfl)) (fun h => by cases h) fun _ H25 e25 => ?_
  obtain ⟨N, rfl⟩ : ∃ N : Nat, at_ = N := ⟨at_.toNat, by omega⟩
  have hspl := split_bad N i.toNat hi
  have lh : ("halt" : Str).length = 4 := by decide +kernel
  have lf : ("fly" : Str).length = 3 := by decide +kernel
  have lnl : ("\n" : Str).length = 1 := by decide +kernel
  obtain ⟨ys, hys⟩ : ∃ ys, ys = List.replicate N ("halt" : Str) ++ [BAD.getD i.toNat "", "fly"] := ⟨_, rfl⟩
  have hysl : ∀ y ∈ ys, y.length ≤ 20 := by
    intro y hy
    rw [hys] at hy
    rcases List.mem_append.mp hy with hy | hy
    · rw [List.eq_of_mem_replicate hy, lh]
      decide
    · have : y = BAD.getD i.toNat "" ∨ y = "fly" := by simpa using hy
      rcases this with rfl | rfl
      · exact lbad
      · rw [lf]
        decide
  have hyn : ys.length = N + 2 := by rw [hys, List.length_append, List.length_replicate]; rfl
  have hsum := sum_le (xs := ys.map (·.length)) (b := 20) (by
    intro x hx
    obtain ⟨y, hy, rfl⟩ := List.mem_map.mp hx
    exact hysl y hy)
  rw [List.length_map, hyn] at hsum
  have hjl : (Txt.join "\n" ys).length ≤ 20000 := by
    rw [len_tl, join_eq, tl_join]
    have := joinL_len (S := tl ("\n" : Str)) (b := 20) (ps := ys.map tl) (by
      intro p hp
      obtain ⟨x, h, rfl⟩ := List.mem_map.mp hp
      rw [← len_tl]
      exact hysl x h)
    rw [List.length_map, hyn, show (tl ("\n" : Str)).length = 1 by decide +kernel] at this
    omega
  rw [← hys] at hspl
  have hat : ys[N]? = some (BAD.getD i.toNat "") := by
    rw [hys, List.getElem?_append_right (by rw [List.length_replicate]; exact Nat.le_refl _), List.length_replicate, Nat.sub_self]
    rfl
  have hlt : ∀ j, j < N → ys[j]? = some ("halt" : Str) := fun j hj => by
    rw [hys, List.getElem?_append_left (by rw [List.length_replicate]; exact hj), List.getElem?_replicate, if_pos hj]
  have hlst : (List.replicate ((N : Int)).toNat [V.str "halt"]).flatten ++ [V.str (BAD.getD i.toNat ""), V.str "fly"] = ys.map V.str := by
    rw [hys, List.map_append, List.map_replicate, Int.toNat_natCast, List.flatten_replicate_singleton]
    rfl
  have hE : EvA (tCons (tM1 (rJoinK K) (tC (.str "\n")) (tOp rCat (tOp rRep (tLst (tCons (tC (.str "halt")) tNil)) (tVar 16)) (tLst (tCons (tVar 15) (tCons (tC (.str "fly")) tNil))))) tNil)
      [some (.ref a), some (.ref d), some (.ref p), none, x4b, x5, some (.int ra), some (.int rb), some (.int rc), some (.str (textOf ws)), some (.int n), some (.ref p8), x12b, x13, some (.ref pb), some (.str (BAD.getD i.toNat "")), some (.int (N : Int)), none] H25 [.str (Txt.join "\n" ys)] := by
    refine ea_cons (ev_join ?_ (by rw [hyn, lnl]; omega)) ea_nil
    rw [← hlst]
    refine el_cat (el_rep (el_lst (ea_cons ev_c ea_nil) (by decide)) (fun H1 _ => ev_var rfl) ⟨by omega, by omega⟩ (by decide)) (el_lst (ea_cons (ev_var rfl) (ea_cons ev_c ea_nil)) (by show 2 ≤ 100000; decide)) ?_
    rw [Int.toNat_natCast, List.flatten_replicate_singleton, List.length_replicate]
    show N + 2 ≤ 100000
    omega
  refine q_try1 (K := K) hE fun H26 e26 => ?_
  refine ⟨Txt.join "\n" ys, rfl, hjl, fun us hus => ?_, fun j r hr hn hj dd H27 hdd e27 h27 => ?_⟩
  · rw [hspl] at hus
    have h8 : (ys.map wordIn)[N]? = some none := by rw [List.getElem?_map, hat, ← hbn]; rfl
    rw [hus, List.getElem?_map] at h8
    cases e : us[N]? with
    | none => rw [e] at h8; cases h8
    | some z => rw [e] at h8; cases h8
  · rw [hspl] at hr hj
    have hjN : j = N := by
      rcases Nat.lt_trichotomy j N with h | h | h
      · rw [hlt j h] at hr
        cases hr
        rw [wordIn_halt] at hn
        cases hn
      · exact h
      · exact absurd hbn (hj N h _ hat)
    subst hjN
    refine ⟨true, T.exm, fun _ aE haE => ?_, fun z => Bool.noConfusion z⟩
    refine ⟨_, rfl, rfl, rfl, dd, _, _, rfl, h27, rfl, _, rfl, rfl, _, rfl, ?_⟩
    rw [decide_eq_true (rfl : V.int ((j : Nat) : Int) = V.int ((j : Nat) : Int))]
    refine iteF ?_
    exact s_ret (v := .bl true) (ev_is (ev_andV (ev_op (ev_num (E := E0) ev_c ev_c (by decide +kernel)) ev_c (rv_eq (by rw [n6']; rfl))) fun _ => ev_andV (ev_op (ev_num (E := E0) ev_c ev_c (by decide +kernel)) ev_c rv_isN) fun _ => ev_andV (ev_op (ev_num (E := E0) ev_c ev_c (by decide +kernel)) ev_c rv_isN) fun _ =>
      ev_andV (ev_op (ev_reg (E := E0) ev_c (by decide +kernel)) ev_c (rv_eq (by rw [n9']; rfl))) fun _ => ev_op (ev_reg (E := E0) ev_c (by decide +kernel)) ev_c rv_isN) (by rw [n6', n7', n8', n9', n10']; rfl)) fun H28 _ => k H28
end
end KA

set_option maxHeartbeats 0

namespace KA
open PySem PySem.Spec PyProof.Rows L2
abbrev R : PySem.W.OpenRow := PySem.W.OpenLaw.row PySem.Challenge.rw_keptapart_k03_instructions_and_texts
abbrev hk : PySem.W.Hook := hookY 5 fa fn cl exs
def ob (s : PySem.W.SharedT) : AlY := obsY 5 fa fn cl exs (HandSHeadRun.getT s)
theorem ob_eq (s : PySem.W.SharedT) : ob s = hk.obs s.abs := obsY_eq (HandSHeadRun.getT_eq s)
def names : List Str := ["ApartError", "InvalidCode", "NAMES", "TRAPS", "DIGITS", "word_of", "parts_of", "row_of", "number_in", "register_in", "word_in", "code_in", "text_of", "_law_tape", "_law_take"]
theorem run (w : World) : HandSHeadRun.RunEq R (PySem.W.view R.prog [18]) hk ob 1000 names w := by
  intro os
  kernel_rfl
end KA
open PySem PySem.W PySem.Calls PyProof.Rows
theorem PySem.Challenge.cw_keptapart_k03_instructions_and_texts_holds : PySem.Challenge.rw_keptapart_k03_instructions_and_texts.Holds := by
  w_on; o_law
  refine HandSHeadRun.head_any (r := OpenLaw.row PySem.Challenge.rw_keptapart_k03_instructions_and_texts) (q := view (OpenLaw.row PySem.Challenge.rw_keptapart_k03_instructions_and_texts).prog [18]) (H := KA.hk) (ob := KA.ob) (M := 1000) (loose := KA.names) (d := HandSHeadRun.topDef (OpenLaw.row PySem.Challenge.rw_keptapart_k03_instructions_and_texts).prog 18) (kwd := []) KA.ob_eq
    (by kernel_rfl) (fun s => by kernel_rfl) KA.run (by kernel_rfl) (by kernel_rfl) (by kernel_rfl) (by rfl) (by first | assumption | decide +kernel) (by decide +kernel) ⟨rfl, rfl, rfl, rfl, rfl, by decide +kernel⟩ ?hw ?hc
  case hw => w_witness2
  case hc =>
    refine L2.walk_ofE (l := PySem.Challenge.rw_keptapart_k03_instructions_and_texts) (n := 63) (k := 5) (x := "script") (CX := L2.CX0) rfl (by decide) (by kernel_rfl) ⟨rfl, by decide, by decide⟩ ?F (fun _ _ _ _ z => z)
    intro w mg fa h Y G hmg0
    obtain ⟨K, KX, c⟩ := Y
    have hmg : mg ("law" : PySem.Str) = some (.ref fa) := by
      have e : (HandSHeadRun.topDef (OpenLaw.row PySem.Challenge.rw_keptapart_k03_instructions_and_texts).prog 18).name = ("law" : PySem.Str) := by kernel_rfl
      rw [← e]
      exact hmg0
    have T : KA.Txt K mg := KA.Txt.of KX G c
    have e := hmg.symm.trans T.glo_law
    cases e
    have b := L2.FunD.bindsA (ps := ["script"]) T.fn_law fun _ _ _ _ _ _ us hl => match us, hl with | [_], _ => rfl
    exact ⟨K, KA.fd_law K, KA.sp_law K, KX, fun s v => b s [v] rfl, fun H a ns hl _ hS => ⟨a, ns, rfl, hS, hl, fun _ => rfl⟩, fun base _ _ => KA.ok_law T⟩
